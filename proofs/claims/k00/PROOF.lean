import PyProof.Rows.All
import Wide.All
import OpenK.AllK
import Wide.FinOn
import HandS.ForMost
import HandS.ForExc
import HandS.Lambda
import HandS.SlotsOwn
import HandS.Flow
import KE.KStar
import HandS.TupAny
import HandS.Wide
import KE.KExcSuper
import HandS.List
import HandS.Set
import HandS.Conv
import HandS.Style
import HandS.Strs
import HandS.IsInst
import HandS.Star
import HandS.MakeKwOnly
import HandS.NoneIn
import KE.KExcIs
import PyProof.InstNe
import PyProof.ReprReads
import HandS.Iter
import HandS.Dict
import PyProof.Rows.StrItems
import PyProof.Rows.StrSplitJoin
import PyProof.Rows.StrSplitAre
import HandS.FStrTup
import PyProof.StrLawsRepr
import HandS.EndBits
import PySem.Challenge.RW_whateverdeeds_k00_tongues_read_and_refus
section
set_option Elab.async false
set_option linter.all false
set_option maxRecDepth 100000
set_option maxHeartbeats 4000000
/-! L3a: values with tuples as plain data (D), what stands at an address (MO), the lifting of L2's readings. -/
namespace L3
open PySem PySem.Spec PyProof.Rows L2

/-- a value; tuples are plain data -/
inductive D where
  | non | bl (b : Bool) | int (i : Int) | str (x : Str) | tup (xs : List D) | ref (a : Addr) | ty (n : String)

/-- the tuples that are known; the tables of code objects, with the names that they hold -/
structure Tm where
  tp : Addr → Option (List V)
  tl : List (Addr × Str)
structure Sub (T T' : Tm) : Prop where
  tp : ∀ a xs, T.tp a = some xs → T'.tp a = some xs
  tl : T'.tl = T.tl
theorem Sub.refl (T : Tm) : Sub T T := ⟨fun _ _ h => h, rfl⟩
theorem Sub.trans {T T1 T2 : Tm} (a : Sub T T1) (b : Sub T1 T2) : Sub T T2 := ⟨fun c xs h => b.tp c xs (a.tp c xs h), b.tl.trans a.tl⟩
/-- a tuple of the written part -/
def KTup (K : PySem.W.Frag) (a : Addr) (xs : List V) : Prop :=
  ∃ (o : Obj) (its : Array Value) (n : Nat), K.lookup a = some o ∧ o.cls = .type "tuple" ∧ o.data = .seq its n ∧ its.size ≤ sizeLine ∧ Vals xs its.toList
section
variable (K : PySem.W.Frag) (T : Tm)
mutual
def RelD : D → V → Prop
  | .non, v => v = .non
  | .bl b, v => v = .bl b
  | .int i, v => v = .int i
  | .str x, v => v = .str x
  | .ref a, v => v = .ref a
  | .ty n, v => v = .ty n
  | .tup ds, v => ∃ a xs, v = .ref a ∧ (T.tp a = some xs ∨ KTup K a xs) ∧ RelDs ds xs
def RelDs : List D → List V → Prop
  | [], vs => vs = []
  | d :: ds, vs => ∃ v r, vs = v :: r ∧ RelD d v ∧ RelDs ds r
end
end
section
variable {K : PySem.W.Frag} {T T' : Tm}
mutual
theorem RelD.mono (h : Sub T T') : ∀ (d : D) (v : V), RelD K T d v → RelD K T' d v
  | .non, v, r => by simpa only [RelD] using r
  | .bl b, v, r => by simpa only [RelD] using r
  | .int i, v, r => by simpa only [RelD] using r
  | .str x, v, r => by simpa only [RelD] using r
  | .ref a, v, r => by simpa only [RelD] using r
  | .ty n, v, r => by simpa only [RelD] using r
  | .tup ds, v, r => by
    simp only [RelD] at r ⊢
    obtain ⟨a, xs, e, q, r⟩ := r
    exact ⟨a, xs, e, q.imp (h.tp a xs) id, RelDs.mono h ds xs r⟩
theorem RelDs.mono (h : Sub T T') : ∀ (ds : List D) (vs : List V), RelDs K T ds vs → RelDs K T' ds vs
  | [], vs, r => by simpa only [RelDs] using r
  | d :: ds, vs, r => by
    simp only [RelDs] at r ⊢
    obtain ⟨v, q, e, r1, r2⟩ := r
    exact ⟨v, q, e, RelD.mono h d v r1, RelDs.mono h ds q r2⟩
end
theorem RelDs.length : ∀ {ds : List D} {vs : List V}, RelDs K T ds vs → ds.length = vs.length
  | [], vs, r => by simp only [RelDs] at r; subst r; rfl
  | d :: ds, vs, r => by
    simp only [RelDs] at r
    obtain ⟨v, q, e, r1, r2⟩ := r
    subst e
    simp [RelDs.length r2]
theorem RelDs.append : ∀ {ds es : List D} {vs us : List V}, RelDs K T ds vs → RelDs K T es us → RelDs K T (ds ++ es) (vs ++ us)
  | [], es, vs, us, r, q => by simp only [RelDs] at r; subst r; simpa using q
  | d :: ds, es, vs, us, r, q => by
    simp only [RelDs] at r
    obtain ⟨v, w, e, r1, r2⟩ := r
    subst e
    simp only [List.cons_append, RelDs]
    exact ⟨v, _, rfl, r1, RelDs.append r2 q⟩
theorem RelDs.get : ∀ {ds : List D} {vs : List V} {i : Nat} {d : D}, RelDs K T ds vs → ds[i]? = some d → ∃ v, vs[i]? = some v ∧ RelD K T d v
  | [], vs, i, d, r, e => by simp at e
  | d :: ds, vs, 0, d', r, e => by
    simp only [RelDs] at r
    obtain ⟨v, w, e1, r1, r2⟩ := r
    subst e1
    simp at e
    subst e
    exact ⟨v, rfl, r1⟩
  | d :: ds, vs, i + 1, d', r, e => by
    simp only [RelDs] at r
    obtain ⟨v, w, e1, r1, r2⟩ := r
    subst e1
    obtain ⟨u, h1, h2⟩ := RelDs.get (i := i) r2 (by simpa using e)
    exact ⟨u, by simpa using h1, h2⟩
theorem RelDs.getV : ∀ {ds : List D} {vs : List V} {i : Nat} {v : V}, RelDs K T ds vs → vs[i]? = some v → ∃ d, ds[i]? = some d ∧ RelD K T d v := fun {ds vs i v} r e => by
  have hl := r.length
  have hi : i < vs.length := (List.getElem?_eq_some_iff.mp e).1
  have hi' : i < ds.length := by omega
  obtain ⟨u, h1, h2⟩ := r.get (List.getElem?_eq_getElem hi')
  rw [h1] at e
  cases e
  exact ⟨_, List.getElem?_eq_getElem hi', h2⟩
theorem RelDs.take : ∀ {ds : List D} {vs : List V} (n : Nat), RelDs K T ds vs → RelDs K T (ds.take n) (vs.take n)
  | _, _, 0, _ => by simp [RelDs]
  | [], _, n + 1, r => by simp only [RelDs] at r; subst r; simp [RelDs]
  | d :: ds, _, n + 1, r => by
    simp only [RelDs] at r
    obtain ⟨v, w, e, r1, r2⟩ := r
    subst e
    simp only [List.take_succ_cons, RelDs]
    exact ⟨v, _, rfl, r1, RelDs.take n r2⟩
theorem RelDs.drop : ∀ {ds : List D} {vs : List V} (n : Nat), RelDs K T ds vs → RelDs K T (ds.drop n) (vs.drop n)
  | _, _, 0, r => by simpa using r
  | [], _, n + 1, r => by simp only [RelDs] at r; subst r; simp [RelDs]
  | d :: ds, _, n + 1, r => by
    simp only [RelDs] at r
    obtain ⟨v, w, e, r1, r2⟩ := r
    subst e
    simpa using RelDs.drop n r2
theorem RelDs.set : ∀ {ds : List D} {vs : List V} {d : D} {v : V} (i : Nat), RelDs K T ds vs → RelD K T d v → RelDs K T (ds.set i d) (vs.set i v)
  | [], _, _, _, i, r, _ => by simp only [RelDs] at r; subst r; simp [RelDs]
  | d :: ds, _, _, _, 0, r, q => by
    simp only [RelDs] at r
    obtain ⟨v, w, e, r1, r2⟩ := r
    subst e
    simp only [List.set_cons_zero, RelDs]
    exact ⟨_, _, rfl, q, r2⟩
  | d :: ds, _, _, _, i + 1, r, q => by
    simp only [RelDs] at r
    obtain ⟨v, w, e, r1, r2⟩ := r
    subst e
    simp only [List.set_cons_succ, RelDs]
    exact ⟨_, _, rfl, r1, RelDs.set i r2 q⟩
theorem RelDs.reverse : ∀ {ds : List D} {vs : List V}, RelDs K T ds vs → RelDs K T ds.reverse vs.reverse
  | [], _, r => by simp only [RelDs] at r; subst r; simp [RelDs]
  | d :: ds, _, r => by
    simp only [RelDs] at r
    obtain ⟨v, w, e, r1, r2⟩ := r
    subst e
    simp only [List.reverse_cons]
    exact RelDs.append (RelDs.reverse r2) (by simp only [RelDs]; exact ⟨v, [], rfl, r1, rfl⟩)
theorem RelDs.one {d : D} {v : V} (r : RelD K T d v) : RelDs K T [d] [v] := by simp only [RelDs]; exact ⟨v, [], rfl, r, rfl⟩
theorem RelDs.cons {d : D} {v : V} {ds : List D} {vs : List V} (r : RelD K T d v) (q : RelDs K T ds vs) : RelDs K T (d :: ds) (v :: vs) := by simp only [RelDs]; exact ⟨v, vs, rfl, r, q⟩
theorem RelDs.nil : RelDs K T [] [] := by simp only [RelDs]
/-- values without data of their own -/
theorem RelDs.map {α : Type} (f : α → D) (g : α → V) (h : ∀ x, RelD K T (f x) (g x)) : ∀ l : List α, RelDs K T (l.map f) (l.map g)
  | [] => RelDs.nil
  | x :: l => RelDs.cons (h x) (RelDs.map f g h l)
end

/-- what stands at an address that may change -/
inductive MO where
  | lst (ds : List D)
  /-- a list that is only read -/
  | rol (ds : List D)
  /-- an instance with slots -/
  | sl (C : Addr) (vs : List (Option D))
  /-- an own exception that was caught -/
  | exc (C : Addr) (d : D)
  /-- a dict whose keys are ints and texts -/
  | dk (kvs : List (Key × D))
abbrev HM := Addr → Option MO
def mup (M : HM) (a : Addr) (o : MO) : HM := fun b => if b = a then some o else M b
theorem mup_same {M : HM} {a : Addr} {o : MO} : mup M a o a = some o := by unfold mup; rw [if_pos rfl]
theorem mup_ne {M : HM} {a b : Addr} {o : MO} (h : b ≠ a) : mup M a o b = M b := by unfold mup; rw [if_neg h]
theorem mup_mup {M : HM} {a : Addr} {o u : MO} : mup (mup M a o) a u = mup M a u := by
  funext b; unfold mup; split <;> rfl
/-- less is known -/
def Le (M M' : HM) : Prop := ∀ a o, M a = some o → M' a = some o
theorem Le.refl (M : HM) : Le M M := fun _ _ h => h
theorem Le.trans {M M1 M2 : HM} (a : Le M M1) (b : Le M1 M2) : Le M M2 := fun c o h => b c o (a c o h)
theorem Le.new {M : HM} {p : Addr} {o : MO} (h : M p = none) : Le M (mup M p o) := fun a u e => by
  rw [mup_ne (by rintro rfl; rw [h] at e; cases e)]; exact e

abbrev StD := List (Option D)
abbrev St := L2.St
/-- slots -/
def RelSt (K : PySem.W.Frag) (T : Tm) : StD → St → Prop
  | [], σ => σ = []
  | some d :: ds, σ => ∃ v r, σ = some v :: r ∧ RelD K T d v ∧ RelSt K T ds r
  | none :: ds, σ => ∃ o r, σ = o :: r ∧ RelSt K T ds r
/-- a caught exception of the class at C, its dict at dd -/
def ExcO (a C dd : Addr) : HO := .ext fun h => ∃ (oe : Obj) (vs : Array Value), h.get? a = some oe ∧ oe.cls = .ref C ∧ oe.dict = some dd ∧ oe.data = .fields vs
section
variable (K : PySem.W.Frag) (T : Tm) (H : Hp)
def RelO (a : Addr) : MO → Prop
  | .lst ds => ∃ xs, H a = some (.lst xs) ∧ RelDs K T ds xs
  | .rol ds => ∃ xs, Rd H a (.lst xs) ∧ RelDs K T ds xs
  | .sl C vs => ∃ dx ws, SlX.Slt H a C dx ws ∧ RelSt K T vs ws
  | .exc C d => ∃ dd v, H a = some (ExcO a C dd) ∧ H dd = some (.xd [(("value" : Str), v)]) ∧ RelD K T d v
  | .dk kvs => ∃ kws, H a = some (.dK kws) ∧ kws.map (·.1) = kvs.map (·.1) ∧ RelDs K T (kvs.map (·.2)) (kws.map (·.2))
structure Rep (M : HM) : Prop where
  tup : ∀ a xs, T.tp a = some xs → H a = some (.tup xs)
  obj : ∀ a o, M a = some o → RelO K T H a o
  tab : LamX.Tabs T.tl H
end
section
variable {K : PySem.W.Frag} {T T' : Tm} {H H' : Hp} {M M' : HM}
theorem RelSt.mono (h : Sub T T') : ∀ {s : StD} {σ : St}, RelSt K T s σ → RelSt K T' s σ
  | [], _, r => by simpa only [RelSt] using r
  | some d :: s, σ, r => by
    simp only [RelSt] at r ⊢
    obtain ⟨v, q, e, r1, r2⟩ := r
    exact ⟨v, q, e, r1.mono h, RelSt.mono h r2⟩
  | none :: s, σ, r => by
    simp only [RelSt] at r ⊢
    obtain ⟨v, q, e, r2⟩ := r
    exact ⟨v, q, e, RelSt.mono h r2⟩
theorem RelSt.get : ∀ {s : StD} {σ : St} {i : Nat} {d : D}, RelSt K T s σ → s[i]? = some (some d) → ∃ v, σ[i]? = some (some v) ∧ RelD K T d v
  | [], _, i, d, r, e => by simp at e
  | some d :: s, _, 0, d', r, e => by
    simp only [RelSt] at r
    obtain ⟨v, q, rfl, r1, r2⟩ := r
    simp at e; subst e
    exact ⟨v, rfl, r1⟩
  | none :: s, _, 0, d', r, e => by simp at e
  | some d :: s, _, i + 1, d', r, e => by
    simp only [RelSt] at r
    obtain ⟨v, q, rfl, r1, r2⟩ := r
    obtain ⟨u, h1, h2⟩ := RelSt.get (i := i) r2 (by simpa using e)
    exact ⟨u, by simpa using h1, h2⟩
  | none :: s, _, i + 1, d', r, e => by
    simp only [RelSt] at r
    obtain ⟨v, q, rfl, r2⟩ := r
    obtain ⟨u, h1, h2⟩ := RelSt.get (i := i) r2 (by simpa using e)
    exact ⟨u, by simpa using h1, h2⟩
theorem RelSt.some' {d : D} {v : V} {s : StD} {σ : St} (r : RelD K T d v) (q : RelSt K T s σ) : RelSt K T (some d :: s) (some v :: σ) := by simp only [RelSt]; exact ⟨v, σ, rfl, r, q⟩
theorem RelSt.none' {o : Option V} {s : StD} {σ : St} (q : RelSt K T s σ) : RelSt K T (none :: s) (o :: σ) := by simp only [RelSt]; exact ⟨o, σ, rfl, q⟩
theorem RelSt.nil' : RelSt K T [] [] := by simp only [RelSt]
theorem RelSt.set {d : D} {v : V} (q : RelD K T d v) : ∀ {s : StD} {σ : St} (i : Nat), RelSt K T s σ → RelSt K T (s.set i (some d)) (σ.set i (some v))
  | [], _, i, r => by simp only [RelSt] at r; subst r; exact RelSt.nil'
  | some d :: s, _, 0, r => by simp only [RelSt] at r; obtain ⟨w, t, rfl, r1, r2⟩ := r; exact RelSt.some' q r2
  | none :: s, _, 0, r => by simp only [RelSt] at r; obtain ⟨w, t, rfl, r2⟩ := r; exact RelSt.some' q r2
  | some d :: s, _, i + 1, r => by simp only [RelSt] at r; obtain ⟨w, t, rfl, r1, r2⟩ := r; exact RelSt.some' r1 (RelSt.set q i r2)
  | none :: s, _, i + 1, r => by simp only [RelSt] at r; obtain ⟨w, t, rfl, r2⟩ := r; exact RelSt.none' (RelSt.set q i r2)
theorem RelSt.setN {o : Option V} : ∀ {s : StD} {σ : St} (i : Nat), RelSt K T s σ → RelSt K T (s.set i none) (σ.set i o)
  | [], _, i, r => by simp only [RelSt] at r; subst r; exact RelSt.nil'
  | some d :: s, _, 0, r => by simp only [RelSt] at r; obtain ⟨w, t, rfl, r1, r2⟩ := r; exact RelSt.none' r2
  | none :: s, _, 0, r => by simp only [RelSt] at r; obtain ⟨w, t, rfl, r2⟩ := r; exact RelSt.none' r2
  | some d :: s, _, i + 1, r => by simp only [RelSt] at r; obtain ⟨w, t, rfl, r1, r2⟩ := r; exact RelSt.some' r1 (RelSt.setN i r2)
  | none :: s, _, i + 1, r => by simp only [RelSt] at r; obtain ⟨w, t, rfl, r2⟩ := r; exact RelSt.none' (RelSt.setN i r2)
theorem RelSt.length : ∀ {s : StD} {σ : St}, RelSt K T s σ → s.length = σ.length
  | [], _, r => by simp only [RelSt] at r; subst r; rfl
  | some d :: s, _, r => by simp only [RelSt] at r; obtain ⟨w, t, rfl, r1, r2⟩ := r; simp [RelSt.length r2]
  | none :: s, _, r => by simp only [RelSt] at r; obtain ⟨w, t, rfl, r2⟩ := r; simp [RelSt.length r2]
/-- at a def's entry -/
theorem RelSt.start {N : List Str} {ds : List D} {vs : List V} (r : RelDs K T ds vs) : RelSt K T (ds.map some ++ List.replicate (N.length - ds.length) none) (L2.start N vs) := by
  have hl := r.length
  unfold L2.start
  rw [hl]
  clear hl
  generalize N.length - vs.length = n
  induction ds generalizing vs with
  | nil =>
    simp only [RelDs] at r
    subst r
    simp only [List.map_nil, List.nil_append]
    induction n with
    | zero => exact RelSt.nil'
    | succ n ih => exact RelSt.none' ih
  | cons d ds ih =>
    simp only [RelDs] at r
    obtain ⟨v, w, e, r1, r2⟩ := r
    subst e
    exact RelSt.some' r1 (ih r2)

theorem Rep.less (R : Rep K T H M) (h : Le M' M) : Rep K T H M' := ⟨R.tup, fun a o e => R.obj a o (h a o e), R.tab⟩
theorem RelO.stay {a : Addr} {o : MO} (r : RelO K T H a o) (h : Sub T T') (hk : ∀ b u, (b = a ∨ ∃ fs, u = .xd fs) → (∀ ps, u ≠ .tbl ps) → (∀ x, u ≠ .own x) → H b = some u → H' b = some u) : RelO K T' H' a o := by
  have hk0 : ∀ u, (∀ ps, u ≠ .tbl ps) → (∀ x, u ≠ .own x) → H a = some u → H' a = some u := fun u n n2 e => hk a u (.inl rfl) n n2 e
  cases o with
  | lst ds => obtain ⟨xs, e, q⟩ := r; exact ⟨xs, hk0 _ (fun _ z => by cases z) (fun _ z => by cases z) e, q.mono h⟩
  | rol ds =>
    obtain ⟨xs, e, q⟩ := r
    refine ⟨xs, ?_, q.mono h⟩
    rcases e with e | ⟨o, e⟩
    · exact .inl (hk0 _ (fun _ z => by cases z) (fun _ z => by cases z) e)
    · exact .inr ⟨o, hk0 _ (fun _ z => by cases z) (fun _ z => by cases z) e⟩
  | sl C vs =>
    obtain ⟨dx, ws, e, q⟩ := r
    refine ⟨dx, ws, ?_, q.mono h⟩
    rcases e with ⟨e, z⟩ | ⟨e, z⟩
    · exact .inl ⟨hk0 _ (fun _ z => by cases z) (fun _ z => by cases z) e, z⟩
    · exact .inr ⟨hk0 _ (fun _ z => by unfold SlX.SlO at z; cases z) (fun _ z => by unfold SlX.SlO at z; cases z) e, hk _ _ (.inr ⟨_, rfl⟩) (fun _ z => by cases z) (fun _ z => by cases z) z⟩
  | exc C d =>
    obtain ⟨dd, v, e, z, q⟩ := r
    exact ⟨dd, v, hk0 _ (fun _ z => by unfold ExcO at z; cases z) (fun _ z => by unfold ExcO at z; cases z) e, hk _ _ (.inr ⟨_, rfl⟩) (fun _ z => by cases z) (fun _ z => by cases z) z, q.mono h⟩
  | dk kvs => obtain ⟨kws, e, q1, q2⟩ := r; exact ⟨kws, hk0 _ (fun _ z => by cases z) (fun _ z => by cases z) e, q1, q2.mono h⟩
/-- all but tables is kept -/
theorem Rep.extN (R : Rep K T H M) (h : LamX.ExtN H H') (ht : LamX.Tabs T.tl H') : Rep K T H' M := ⟨fun a xs e => h _ _ (R.tup a xs e) (fun _ z => by cases z), fun a o e => (R.obj a o e).stay (Sub.refl T) fun b u _ n _ e => h _ _ e n, ht⟩
/-- all kept -/
theorem Rep.same (R : Rep K T H M) (h : Same H H') : Rep K T H' M := ⟨fun a xs e => h _ _ (R.tup a xs e), fun a o e => (R.obj a o e).stay (Sub.refl T) fun b u _ _ _ e => h _ _ e, R.tab.ext h⟩
def tput (T : Tm) (p : Addr) (xs : List V) : Tm := ⟨fun b => if b = p then some xs else T.tp b, T.tl⟩
theorem Sub.put {p : Addr} {xs : List V} (h : T.tp p = none) : Sub T (tput T p xs) := ⟨fun a ys e => by
  show (if a = p then some xs else T.tp a) = some ys
  rw [if_neg (by rintro rfl; rw [h] at e; cases e)]
  exact e, rfl⟩
theorem tput_same {p : Addr} {xs : List V} : (tput T p xs).tp p = some xs := by show (if p = p then some xs else T.tp p) = some xs; rw [if_pos rfl]
theorem Rep.noT (R : Rep K T H M) {p : Addr} (h : H p = none) : T.tp p = none := by
  cases e : T.tp p with
  | none => rfl
  | some xs => rw [R.tup _ _ e] at h; cases h
/-- a new tuple -/
theorem Rep.newTup (R : Rep K T H M) {p : Addr} {xs : List V} (h : H p = none) : Rep K (tput T p xs) (upd H p (.tup xs)) M := by
  have sm : Same H (upd H p (.tup xs)) := fun b u e => by rw [upd_ne (ne_of_none e h)]; exact e
  refine ⟨fun a ys e => ?_, fun a o e => (R.obj a o e).stay (Sub.put (R.noT h)) fun b u _ _ _ e => sm b u e, R.tab.ext sm⟩
  have e : (if a = p then some xs else T.tp a) = some ys := e
  by_cases q : a = p
  · rw [if_pos q] at e; cases e; rw [q, upd_same]
  · rw [if_neg q] at e; rw [upd_ne q]; exact R.tup _ _ e
theorem Rep.same_new (R : Rep K T H M) {p : Addr} {o : HO} (h : H p = none) : Rep K T (upd H p o) M := R.same fun b u e => by rw [upd_ne (ne_of_none e h)]; exact e
theorem RelD.tupOf {p : Addr} {xs : List V} {ds : List D} (h : T.tp p = some xs) (r : RelDs K T ds xs) : RelD K T (.tup ds) (.ref p) := by
  simp only [RelD]
  exact ⟨p, xs, rfl, .inl h, r⟩
theorem Rep.sqT (R : Rep K T H M) {ds : List D} {v : V} (r : RelD K T (.tup ds) v) : ∃ a xs, v = .ref a ∧ SqT K H a xs ∧ RelDs K T ds xs := by
  simp only [RelD] at r
  obtain ⟨a, xs, e, q, r⟩ := r
  exact ⟨a, xs, e, q.elim (fun q => .inl (.inl (R.tup _ _ q))) .inr, r⟩
theorem Rep.noM (R : Rep K T H M) {p : Addr} (h : H p = none) : M p = none := by
  cases e : M p with
  | none => rfl
  | some o =>
    have r := R.obj p o e
    cases o with
    | lst ds => obtain ⟨xs, e1, _⟩ := r; rw [h] at e1; cases e1
    | rol ds =>
      obtain ⟨xs, e1, _⟩ := r
      rcases e1 with e1 | ⟨o, e1⟩ <;> (rw [h] at e1; cases e1)
    | sl C vs =>
      obtain ⟨dx, ws, e1, _⟩ := r
      rcases e1 with ⟨e1, _⟩ | ⟨e1, _⟩ <;> (rw [h] at e1; cases e1)
    | exc C d => obtain ⟨dd, v, e1, _⟩ := r; rw [h] at e1; cases e1
    | dk kvs => obtain ⟨kws, e1, _⟩ := r; rw [h] at e1; cases e1
/-- K's objects are not tracked: a store at a tracked object leaves them -/
theorem Rep.obj_lst (R : Rep K T H M) {a : Addr} {ds : List D} (h : M a = some (.lst ds)) : ∃ xs, H a = some (.lst xs) ∧ RelDs K T ds xs := R.obj a _ h
end
end L3
end

section
set_option Elab.async false
set_option linter.all false
set_option maxRecDepth 100000
set_option maxHeartbeats 4000000
/-! L3b: the readings over D, lifted; names, constants, displays, operators, tests, small statements. -/
namespace L3
open PySem PySem.Spec PyProof.Rows L2

abbrev K3 := D → HM → Prop
abbrev E3 := StD → HM → K3 → Prop
abbrev B3 := StD → HM → (Bool → HM → Prop) → Prop
abbrev A3 := StD → HM → (List D → HM → Prop) → Prop
structure End3 where
  nx : StD → HM → Prop
  rt : K3
  bk : StD → HM → Prop := fun _ _ => False
  ct : StD → HM → Prop := fun _ _ => False
abbrev S3 := End3 → StD → HM → Prop
abbrev G3 := D → StD → HM → (StD → HM → Prop) → Prop
/-- an exception of the program's own: its class, its value -/
abbrev X3 := Addr → D → HM → Prop

section
variable (K : PySem.W.Frag) (T0 : Tm)
def lift3 (T : Tm) (Q : K3) : VK := fun v H' => ∃ T' M' d, Sub T T' ∧ Rep K T' H' M' ∧ RelD K T' d v ∧ Q d M'
def upE (t : E3) : TE := fun σ H Q => ∃ T M s Q3, Sub T0 T ∧ Rep K T H M ∧ RelSt K T s σ ∧ t s M Q3 ∧ ∀ v H', lift3 K T Q3 v H' → Q v H'
def upB (t : B3) : TT := fun σ H Q => ∃ T M s Q3, Sub T0 T ∧ Rep K T H M ∧ RelSt K T s σ ∧ t s M Q3 ∧ ∀ b T' H' M', Sub T T' → Rep K T' H' M' → Q3 b M' → Q b H'
def upA (t : A3) : TA := fun σ H Q => ∃ T M s Q3, Sub T0 T ∧ Rep K T H M ∧ RelSt K T s σ ∧ t s M Q3 ∧ ∀ T' H' M' ds vs, Sub T T' → Rep K T' H' M' → RelDs K T' ds vs → Q3 ds M' → Q vs H'
/-- states -/
def liftS (T : Tm) (Q : StD → HM → Prop) : St → Hp → Prop := fun σ' H' => ∃ T' M' s', Sub T T' ∧ Rep K T' H' M' ∧ RelSt K T' s' σ' ∧ Q s' M'
structure EndsUp (T : Tm) (D3 : End3) (D : Ends) : Prop where
  nx : ∀ σ H, liftS K T D3.nx σ H → D.nx σ H
  rt : ∀ v H, lift3 K T D3.rt v H → D.rt v H
  bk : ∀ σ H, liftS K T D3.bk σ H → D.bk σ H
  ct : ∀ σ H, liftS K T D3.ct σ H → D.ct σ H
def upS (t : S3) : TS := fun D σ H => ∃ T M s D3, Sub T0 T ∧ Rep K T H M ∧ RelSt K T s σ ∧ t D3 s M ∧ EndsUp K T D3 D
def upG (g : G3) : TG := fun v σ H Q => ∃ T M s d Q3, Sub T0 T ∧ Rep K T H M ∧ RelSt K T s σ ∧ RelD K T d v ∧ g d s M Q3 ∧ ∀ σ' H', liftS K T Q3 σ' H' → Q σ' H'
/-- two-place operations -/
abbrev O3 := D → D → HM → K3 → Prop
def upO (r : O3) : R2 := fun x y H Q => ∃ T M d e Q3, Sub T0 T ∧ Rep K T H M ∧ RelD K T d x ∧ RelD K T e y ∧ r d e M Q3 ∧ ∀ v H', lift3 K T Q3 v H' → Q v H'
def upU (r : D → HM → K3 → Prop) : V → Hp → VK → Prop := fun x H Q => ∃ T M d Q3, Sub T0 T ∧ Rep K T H M ∧ RelD K T d x ∧ r d M Q3 ∧ ∀ v H', lift3 K T Q3 v H' → Q v H'
def upC (r : List D → HM → K3 → Prop) : List V → Hp → VK → Prop := fun xs H Q => ∃ T M ds Q3, Sub T0 T ∧ Rep K T H M ∧ RelDs K T ds xs ∧ r ds M Q3 ∧ ∀ v H', lift3 K T Q3 v H' → Q v H'
/-- a method of a built-in type: the receiver, the arguments -/
def upM (r : D → List D → HM → K3 → Prop) : V → List V → Hp → VK → Prop := fun x xs H Q => ∃ T M d ds Q3, Sub T0 T ∧ Rep K T H M ∧ RelD K T d x ∧ RelDs K T ds xs ∧ r d ds M Q3 ∧ ∀ v H', lift3 K T Q3 v H' → Q v H'
end
abbrev QE (X : Cx) (T0 : Tm) (e : Expr) (t : E3) : Prop := PE X e (upE X.K T0 t)
abbrev QT (X : Cx) (T0 : Tm) (e : Expr) (t : B3) : Prop := PT X e (upB X.K T0 t)
abbrev QW (X : Cx) (T0 : Tm) (e : Expr) (t : B3) : Prop := PW X e (upB X.K T0 t)
abbrev QA (X : Cx) (T0 : Tm) (es : List Expr) (t : A3) : Prop := PA X es (upA X.K T0 t)
abbrev QS (X : Cx) (T0 : Tm) (st : Stmt) (t : S3) : Prop := PS X st (upS X.K T0 t)
abbrev QSs (X : Cx) (T0 : Tm) (st : List Stmt) (t : S3) : Prop := PSs X st (upS X.K T0 t)
abbrev QG (X : Cx) (T0 : Tm) (e : Expr) (g : G3) : Prop := PG X e (upG X.K T0 g)

section
variable {X : Cx} {e : Expr} {es : List Expr} {st : Stmt} {sts : List Stmt}
theorem _root_.L2.PE.imp {t t' : TE} (h : PE X e t) (i : ∀ σ H Q, t' σ H Q → t σ H Q) : PE X e t' := ⟨fun pins s σ H Q I q => h.run pins s σ H Q I (i _ _ _ q)⟩
theorem _root_.L2.PT.imp {t t' : TT} (h : PT X e t) (i : ∀ σ H Q, t' σ H Q → t σ H Q) : PT X e t' := ⟨fun pins s σ H Q I q => h.run pins s σ H Q I (i _ _ _ q)⟩
theorem _root_.L2.PW.imp {t t' : TT} (h : PW X e t) (i : ∀ σ H Q, t' σ H Q → t σ H Q) : PW X e t' := ⟨fun w pins s σ H Q I q => h.run w pins s σ H Q I (i _ _ _ q)⟩
theorem _root_.L2.PA.imp {t t' : TA} (h : PA X es t) (i : ∀ σ H Q, t' σ H Q → t σ H Q) : PA X es t' := ⟨fun pos pins s σ H Q I q => h.run pos pins s σ H Q I (i _ _ _ q)⟩
theorem _root_.L2.PS.imp {t t' : TS} (h : PS X st t) (i : ∀ D σ H, t' D σ H → t D σ H) : PS X st t' := ⟨fun pins s σ H D I q => h.run pins s σ H D I (i _ _ _ q)⟩
theorem _root_.L2.PSs.imp {t t' : TS} (h : PSs X sts t) (i : ∀ D σ H, t' D σ H → t D σ H) : PSs X sts t' := ⟨fun pins s σ H D I q => h.run pins s σ H D I (i _ _ _ q)⟩
theorem _root_.L2.PG.imp {t t' : TG} (h : PG X e t) (i : ∀ v σ H Q, t' v σ H Q → t v σ H Q) : PG X e t' := ⟨fun pins s σ H v u Q I r q => h.run pins s σ H v u Q I r (i _ _ _ _ q)⟩
end

section
variable {K : PySem.W.Frag} {T0 T T' : Tm} {H : Hp} {M : HM} {v : V} {d : D} {Q : K3}
theorem lift3.of (R : Rep K T H M) (r : RelD K T d v) (q : Q d M) : lift3 K T Q v H := ⟨T, M, d, Sub.refl T, R, r, q⟩
theorem lift3.mono (h : Sub T T') {v : V} {H : Hp} (l : lift3 K T' Q v H) : lift3 K T Q v H := let ⟨T1, M', d, s, R, r, q⟩ := l; ⟨T1, M', d, h.trans s, R, r, q⟩
theorem liftS.of {s : StD} {σ : St} {Q : StD → HM → Prop} (R : Rep K T H M) (S : RelSt K T s σ) (q : Q s M) : liftS K T Q σ H := ⟨T, M, s, Sub.refl T, R, S, q⟩
theorem liftS.mono {σ : St} {Q : StD → HM → Prop} (h : Sub T T') (l : liftS K T' Q σ H) : liftS K T Q σ H := let ⟨T1, M', d, s, R, r, q⟩ := l; ⟨T1, M', d, h.trans s, R, r, q⟩
theorem EndsUp.mono {D3 : End3} {D : Ends} (U : EndsUp K T D3 D) (h : Sub T T') : EndsUp K T' D3 D :=
  ⟨fun σ H l => U.nx _ _ (l.mono h), fun σ H l => U.rt _ _ (l.mono h), fun σ H l => U.bk _ _ (l.mono h), fun σ H l => U.ct _ _ (l.mono h)⟩
end

/-! ### names, constants -/
def var3 (i : Nat) : E3 := fun s M Q => ∃ d, s[i]? = some (some d) ∧ Q d M
def con3 (d : D) : E3 := fun _ M Q => Q d M
section
variable {X : Cx} {T0 : Tm} {pos : Pos}
theorem q_var {i : Nat} {x : Str} (hN : X.N[i]? = some x) (hv : Vis X.env.scope x) (hd : (x == ("__debug__" : Str)) = false := by decide) (hcd : (x == ("__classdict__" : Str)) = false := by decide) : QE X T0 (.Name x pos) (var3 i) :=
  (pe_var hN hv hd hcd).imp fun σ H Q ⟨T, M, s, Q3, _, R, S, ⟨d, e, q⟩, k⟩ => let ⟨v, h1, h2⟩ := S.get e; ⟨v, h1, k v H (lift3.of R h2 q)⟩
theorem con_up {v : V} {d : D} (h : ∀ K T, RelD K T d v) {K : PySem.W.Frag} {σ : St} {H : Hp} {Q : VK} (u : upE K T0 (con3 d) σ H Q) : tC v σ H Q := by
  obtain ⟨T, M, s, Q3, _, R, S, q, k⟩ := u
  exact k v H (lift3.of R (h _ _) q)
theorem q_int {i j} : QE X T0 (.Constant (.int i) j pos) (con3 (.int i)) := pe_int.imp fun _ _ _ u => con_up (fun _ _ => by simp only [RelD]) u
theorem q_bl {b j} : QE X T0 (.Constant (.bool b) j pos) (con3 (.bl b)) := pe_bl.imp fun _ _ _ u => con_up (fun _ _ => by simp only [RelD]) u
theorem q_non {j} : QE X T0 (.Constant .none j pos) (con3 .non) := pe_non.imp fun _ _ _ u => con_up (fun _ _ => by simp only [RelD]) u
theorem q_str {x j} : QE X T0 (.Constant (.str x) j pos) (con3 (.str x)) := pe_str.imp fun _ _ _ u => con_up (fun _ _ => by simp only [RelD]) u
/-- a constant of the module -/
theorem q_glob {x : Str} {v : V} {u : Value} {d : D} (hg : Gl X x) (hm : X.mg x = some u) (r : RelV v u) (rd : ∀ T, RelD X.K T d v) (hd : (x == ("__debug__" : Str)) = false := by decide) : QE X T0 (.Name x pos) (con3 d) :=
  (pe_glob hg hm r hd).imp fun _ H _ ⟨_, _, _, _, _, R, _, q, k⟩ => k v H (lift3.of R (rd _) q)
/-- a name of Python's own -/
theorem q_bltn {x : Str} {v : V} {u : Value} {d : D} (hg : Gl X x) (hm : X.mg x = none) (hv : bootBuiltins x = some u) (r : RelV v u) (rd : ∀ T, RelD X.K T d v) (hn : x ≠ "__name__" := by decide) (hd : (x == ("__debug__" : Str)) = false := by decide) : QE X T0 (.Name x pos) (con3 d) :=
  (pe_bltn hg hm hv r hn hd).imp fun _ H _ ⟨_, _, _, _, _, R, _, q, k⟩ => k v H (lift3.of R (rd _) q)
end

/-! ### argument lists, displays -/
def nil3 : A3 := fun _ M Q => Q [] M
def cons3 (ta : E3) (tr : A3) : A3 := fun s M Q => ta s M fun d M1 => tr s M1 fun ds M2 => Q (d :: ds) M2
def tup3 (t : A3) : E3 := fun s M Q => t s M fun ds M1 => ds.length ≤ sizeLine ∧ Q (.tup ds) M1
def lst3 (t : A3) : E3 := fun s M Q => t s M fun ds M1 => ds.length ≤ sizeLine ∧ ∀ p, M1 p = none → Q (.ref p) (mup M1 p (.lst ds))
section
variable {K : PySem.W.Frag} {T0 T : Tm} {H : Hp} {M : HM}
theorem Rep.newLst (R : Rep K T H M) {p : Addr} {ds : List D} {xs : List V} (h : H p = none) (r : RelDs K T ds xs) : Rep K T (upd H p (.lst xs)) (mup M p (.lst ds)) := by
  have R' := R.same_new (o := .lst xs) h
  refine ⟨R'.tup, fun a o e => ?_, R'.tab⟩
  by_cases q : a = p
  · subst q
    rw [mup_same] at e
    cases e
    exact ⟨xs, upd_same, r⟩
  · rw [mup_ne q] at e
    exact R'.obj a o e
end
section
variable {X : Cx} {T0 : Tm} {e : Expr} {es : List Expr} {te : E3} {t : A3} {pos : Pos}
theorem qa_nil : QA X T0 [] nil3 := pa_nil.imp fun σ H Q ⟨T, M, s, Q3, _, R, S, q, k⟩ => k T H M [] [] (Sub.refl T) R RelDs.nil q
theorem qa_cons (ha : QE X T0 e te) (hr : QA X T0 es t) (hs : starEach (e :: es) X.env = (false, eval e X.env) :: starEach es X.env := by rfl) : QA X T0 (e :: es) (cons3 te t) :=
  (pa_cons ha hr hs).imp fun σ H Q ⟨T, M, s, Q3, S0, R, S, q, k⟩ => ⟨T, M, s, _, S0, R, S, q, fun v H1 ⟨T1, M1, d, s1, R1, r1, q1⟩ =>
    ⟨T1, M1, s, _, S0.trans s1, R1, S.mono s1, q1, fun T2 H2 M2 ds vs s2 R2 r2 q2 => k T2 H2 M2 (d :: ds) (v :: vs) (s1.trans s2) R2 (RelDs.cons (r1.mono s2) r2) q2⟩⟩
theorem q_tup {x1} (h : QA X T0 es t) : QE X T0 (.Tuple es x1 pos) (tup3 t) :=
  (pe_tup h).imp fun σ H Q ⟨T, M, s, Q3, S0, R, S, q, k⟩ => ⟨T, M, s, _, S0, R, S, q, fun T1 H1 M1 ds vs s1 R1 r1 ⟨z, q1⟩ =>
    ⟨by rw [← r1.length]; exact z, fun p hp => k _ _ ⟨tput T1 p vs, M1, .tup ds, s1.trans (Sub.put (R1.noT hp)), R1.newTup hp, RelD.tupOf tput_same (r1.mono (Sub.put (R1.noT hp))), q1⟩⟩⟩
end
end L3
end

section
set_option Elab.async false
set_option linter.all false
set_option maxRecDepth 100000
set_option maxHeartbeats 400000
/-! L3c: == of data, at any depth. -/
namespace L3
open PySem PySem.Spec PyProof.Rows L2

mutual
/-- no address in it -/
def pureD : D → Bool
  | .non | .bl _ | .int _ | .str _ => true
  | .tup ds => pureDs ds
  | .ref _ | .ty _ => false
def pureDs : List D → Bool
  | [] => true
  | d :: ds => pureD d && pureDs ds
end
mutual
/-- Python's == -/
def eqD : D → D → Bool
  | .non, .non => true
  | .bl a, .bl b => a == b
  | .bl a, .int j => (if a then 1 else 0) == j
  | .int i, .bl b => i == (if b then 1 else 0)
  | .int i, .int j => i == j
  | .str x, .str y => x == y
  | .tup xs, .tup ys => eqDs xs ys
  | _, _ => false
def eqDs : List D → List D → Bool
  | [], [] => true
  | x :: xs, y :: ys => eqD x y && eqDs xs ys
  | _, _ => false
end
mutual
def depthD : D → Nat
  | .tup ds => depthDs ds + 1
  | _ => 0
def depthDs : List D → Nat
  | [] => 0
  | d :: ds => max (depthD d) (depthDs ds)
end
mutual
/-- how the heap bears data -/
def RdH (h : Heap) : D → Value → Prop
  | .non, u => u = .none
  | .bl b, u => u = .bool b
  | .int i, u => ∃ t, u = .int i t
  | .str x, u => ∃ t, u = .str x t
  | .tup ds, u => ∃ a its, u = .ref a ∧ h.IsTuple a its ∧ RdHs h ds its.toList
  | .ref _, _ => False
  | .ty _, _ => False
def RdHs (h : Heap) : List D → List Value → Prop
  | [], us => us = []
  | d :: ds, us => ∃ u r, us = u :: r ∧ RdH h d u ∧ RdHs h ds r
end
section
variable {X : Cx} {pins : List (Addr × Obj)} {σ : St} {H : Hp} {s : Shared} {T : Tm} {M : HM}
mutual
theorem RelD.rdH (I : Inv X pins σ H s) (R : Rep X.K T H M) : ∀ (d : D) (v : V) (u : Value), pureD d = true → RelD X.K T d v → RelV v u → RdH s.heap d u
  | .non, _, _, _, r, q => by simp only [RelD] at r; subst r; cases q; simp only [RdH]
  | .bl b, _, _, _, r, q => by simp only [RelD] at r; subst r; cases q; simp only [RdH]
  | .int i, _, _, _, r, q => by simp only [RelD] at r; subst r; obtain ⟨t, rfl⟩ := q; simp only [RdH]; exact ⟨t, rfl⟩
  | .str i, _, _, _, r, q => by simp only [RelD] at r; subst r; obtain ⟨t, rfl⟩ := q; simp only [RdH]; exact ⟨t, rfl⟩
  | .ref _, _, _, p, _, _ => by simp [pureD] at p
  | .ty _, _, _, p, _, _ => by simp [pureD] at p
  | .tup ds, v, u, p, r, q => by
    obtain ⟨a, xs, rfl, hs, r2⟩ := R.sqT r
    cases q
    obtain ⟨its, rv, ht, hz⟩ := I.tuple hs
    simp only [pureD] at p
    simp only [RdH]
    exact ⟨a, its.toArray, rfl, ht, by simpa using RelDs.rdHs I R ds xs its p r2 rv⟩
theorem RelDs.rdHs (I : Inv X pins σ H s) (R : Rep X.K T H M) : ∀ (ds : List D) (vs : List V) (us : List Value), pureDs ds = true → RelDs X.K T ds vs → Vals vs us → RdHs s.heap ds us
  | [], _, _, _, r, q => by simp only [RelDs] at r; subst r; cases q; simp only [RdHs]
  | d :: ds, _, _, p, r, q => by
    simp only [RelDs] at r
    obtain ⟨v, w, rfl, r1, r2⟩ := r
    cases q with
    | cons q1 q2 =>
      simp only [pureDs, Bool.and_eq_true] at p
      simp only [RdHs]
      exact ⟨_, _, rfl, RelD.rdH I R d _ _ p.1 r1 q1, RelDs.rdHs I R ds _ _ p.2 r2 q2⟩
end
end
theorem RdHs.length {h : Heap} : ∀ {ds : List D} {us : List Value}, RdHs h ds us → us.length = ds.length
  | [], _, r => by simp only [RdHs] at r; subst r; rfl
  | d :: ds, _, r => by
    simp only [RdHs] at r
    obtain ⟨u, w, rfl, _, r2⟩ := r
    simp [RdHs.length r2]
theorem eqDs_len : ∀ {xs ys : List D}, eqDs xs ys = true → xs.length = ys.length
  | [], [], _ => rfl
  | x :: xs, y :: ys, h => by simp only [eqDs, Bool.and_eq_true] at h; simp [eqDs_len h.2]
  | [], y :: ys, h => by simp [eqDs] at h
  | x :: xs, [], h => by simp [eqDs] at h
/-- the j-th pair -/
def eqAtJ (xs ys : List D) (j : Nat) : Bool := eqD (xs.getD j .non) (ys.getD j .non)
theorem eqAtJ_all : ∀ xs ys : List D, ((List.range (min xs.length ys.length)).all (eqAtJ xs ys) && xs.length == ys.length) = eqDs xs ys
  | [], [] => rfl
  | [], _ :: _ => by simp [eqDs]
  | _ :: _, [] => by simp [eqDs]
  | x :: xs, y :: ys => by
    have ih := eqAtJ_all xs ys
    have h1 : min (x :: xs).length (y :: ys).length = min xs.length ys.length + 1 := by simp only [List.length_cons]; omega
    rw [h1, List.range_succ_eq_map, List.all_cons, List.all_map]
    have h2 : eqAtJ (x :: xs) (y :: ys) 0 = eqD x y := rfl
    have h3 : (eqAtJ (x :: xs) (y :: ys) ∘ Nat.succ) = eqAtJ xs ys := rfl
    have h4 : ((x :: xs).length == (y :: ys).length) = (xs.length == ys.length) := by simp
    rw [h2, h3, h4, eqDs, ← ih, Bool.and_assoc]
mutual
theorem RdH.inj {h : Heap} : ∀ (d e : D) (u : Value), RdH h d u → RdH h e u → d = e
  | .non, e, u, r, q => by simp only [RdH] at r; subst r; cases e <;> simp [RdH] at q ⊢
  | .bl b, e, u, r, q => by simp only [RdH] at r; subst r; cases e <;> simp [RdH] at q ⊢; exact q
  | .int b, e, u, r, q => by simp only [RdH] at r; obtain ⟨t, rfl⟩ := r; cases e <;> simp [RdH] at q ⊢; exact q
  | .str b, e, u, r, q => by simp only [RdH] at r; obtain ⟨t, rfl⟩ := r; cases e <;> simp [RdH] at q ⊢; exact q
  | .ref _, e, u, r, q => by simp [RdH] at r
  | .ty _, e, u, r, q => by simp [RdH] at r
  | .tup ds, e, u, r, q => by
    simp only [RdH] at r
    obtain ⟨a, its, rfl, ⟨o, h1, h2, n, h3⟩, r2⟩ := r
    cases e with
    | tup es =>
      simp only [RdH] at q
      obtain ⟨b, jts, e1, ⟨o', k1, k2, m, k3⟩, q2⟩ := q
      cases e1
      rw [h1] at k1; cases k1
      rw [h3] at k3; cases k3
      rw [RdHs.inj ds es _ r2 q2]
    | _ => simp [RdH] at q
theorem RdHs.inj {h : Heap} : ∀ (ds es : List D) (us : List Value), RdHs h ds us → RdHs h es us → ds = es
  | [], es, us, r, q => by
    simp only [RdHs] at r; subst r
    cases es with
    | nil => rfl
    | cons => simp [RdHs] at q
  | d :: ds, es, us, r, q => by
    simp only [RdHs] at r
    obtain ⟨u, w, rfl, r1, r2⟩ := r
    cases es with
    | nil => simp [RdHs] at q
    | cons e es =>
      simp only [RdHs] at q
      obtain ⟨u', w', e1, q1, q2⟩ := q
      cases e1
      rw [RdH.inj d e u r1 q1, RdHs.inj ds es w r2 q2]
end
mutual
theorem eqD_refl : ∀ d : D, pureD d = true → eqD d d = true
  | .non, _ => rfl
  | .bl b, _ => by simp [eqD]
  | .int b, _ => by simp [eqD]
  | .str b, _ => by simp [eqD]
  | .tup ds, p => by simp only [eqD]; exact eqDs_refl ds (by simpa only [pureD] using p)
  | .ref _, p => by simp [pureD] at p
  | .ty _, p => by simp [pureD] at p
theorem eqDs_refl : ∀ ds : List D, pureDs ds = true → eqDs ds ds = true
  | [], _ => rfl
  | d :: ds, p => by
    simp only [pureDs, Bool.and_eq_true] at p
    simp only [eqDs, eqD_refl d p.1, eqDs_refl ds p.2, Bool.and_self]
end
mutual
theorem RdH.pure {h : Heap} : ∀ (d : D) (u : Value), RdH h d u → pureD d = true
  | .non, _, _ => rfl
  | .bl b, _, _ => rfl
  | .int b, _, _ => rfl
  | .str b, _, _ => rfl
  | .tup ds, _, r => by
    simp only [RdH] at r
    obtain ⟨a, its, _, _, r2⟩ := r
    simp only [pureD]
    exact RdHs.pure ds _ r2
  | .ref _, _, r => by simp [RdH] at r
  | .ty _, _, r => by simp [RdH] at r
theorem RdHs.pure {h : Heap} : ∀ (ds : List D) (us : List Value), RdHs h ds us → pureDs ds = true
  | [], _, _ => rfl
  | d :: ds, _, r => by
    simp only [RdHs] at r
    obtain ⟨u, w, rfl, r1, r2⟩ := r
    simp only [pureDs, RdH.pure d u r1, RdHs.pure ds w r2, Bool.and_self]
end
section
open PySem.SeqAt
theorem lt_min_in {u a b : Nat} (h : u + min (a + 1) (b + 1) < cLine) : u < cLine ∧ u + 1 + min a b < cLine := by omega
theorem lt_min_head {u a b c d : Nat} (h : u + min (max a b) (max c d) < cLine) : u + min a c < cLine ∧ u + min b d < cLine := by omega
mutual
theorem eqAtD : ∀ (d e : D) (A : Around) (s : Shared) (u v : Value), RdH s.heap d u → RdH s.heap e v → A.units + min (depthD d) (depthD e) < cLine → EqAt A s u v (eqD d e)
  | .ref _, _, _, _, _, _, r, _, _ => by simp [RdH] at r
  | .ty _, _, _, _, _, _, r, _, _ => by simp [RdH] at r
  | .non, e, A, s, u, v, r, q, hu => by
    simp only [RdH] at r
    subst r
    cases e <;> simp only [RdH] at q
    case non => subst q; exact EqAt.same _
    case bl => subst q; exact EqAt.none_bool _
    case int => obtain ⟨t, rfl⟩ := q; exact EqAt.none_int _ _
    case str => obtain ⟨t, rfl⟩ := q; exact EqAt.none_str _ _
    case tup => obtain ⟨a, its, rfl, h, _⟩ := q; exact EqAt.none_tuple h (by omega)
  | .bl b, e, A, s, u, v, r, q, hu => by
    simp only [RdH] at r
    subst r
    cases e <;> simp only [RdH] at q
    case non => subst q; exact EqAt.bool_none _
    case bl => subst q; exact EqAt.bool_bool _ _
    case int => obtain ⟨t, rfl⟩ := q; exact EqAt.bool_int _ _ _
    case str => obtain ⟨t, rfl⟩ := q; exact EqAt.bool_str _ _ _
    case tup => obtain ⟨a, its, rfl, h, _⟩ := q; exact EqAt.bool_tuple _ h (by omega)
  | .int b, e, A, s, u, v, r, q, hu => by
    simp only [RdH] at r
    obtain ⟨t0, rfl⟩ := r
    cases e <;> simp only [RdH] at q
    case non => subst q; exact EqAt.int_none _ _
    case bl => subst q; exact EqAt.int_bool _ _ _
    case int => obtain ⟨t, rfl⟩ := q; exact EqAt.int_int _ _ _ _
    case str => obtain ⟨t, rfl⟩ := q; exact EqAt.int_str _ _ _ _
    case tup => obtain ⟨a, its, rfl, h, _⟩ := q; exact EqAt.int_tuple _ _ h (by omega)
  | .str b, e, A, s, u, v, r, q, hu => by
    simp only [RdH] at r
    obtain ⟨t0, rfl⟩ := r
    cases e <;> simp only [RdH] at q
    case non => subst q; exact EqAt.str_none _ _
    case bl => subst q; exact EqAt.str_bool _ _ _
    case int => obtain ⟨t, rfl⟩ := q; exact EqAt.str_int _ _ _ _
    case str => obtain ⟨t, rfl⟩ := q; exact EqAt.str_str _ _ _ _
    case tup => obtain ⟨a, its, rfl, h, _⟩ := q; exact EqAt.str_tuple _ _ h (by omega)
  | .tup ds, e, A, s, u, v, r, q, hu => by
    have r0 := r
    simp only [RdH] at r
    obtain ⟨a, its, rfl, h, r2⟩ := r
    cases e with
    | non => simp only [RdH] at q; subst q; exact EqAt.tuple_none h (by omega)
    | bl b => simp only [RdH] at q; subst q; exact EqAt.tuple_bool _ h (by omega)
    | int b => simp only [RdH] at q; obtain ⟨t, rfl⟩ := q; exact EqAt.tuple_int _ _ h (by omega)
    | str b => simp only [RdH] at q; obtain ⟨t, rfl⟩ := q; exact EqAt.tuple_str _ _ h (by omega)
    | ref _ => simp [RdH] at q
    | ty _ => simp [RdH] at q
    | tup es =>
      have q0 := q
      simp only [RdH] at q
      obtain ⟨b, jts, rfl, k, q2⟩ := q
      by_cases hab : a = b
      · subst hab
        cases RdH.inj _ _ _ r0 q0
        rw [eqD_refl _ (RdH.pure _ _ r0)]
        exact EqAt.same _
      · simp only [depthD] at hu
        have hu2 := lt_min_in hu
        have n1 : its.size = ds.length := by simpa using RdHs.length r2
        have n2 : jts.size = es.length := by simpa using RdHs.length q2
        simp only [eqD]
        rw [← eqAtJ_all ds es, ← n1, ← n2]
        refine EqAt.of_refs hab (RcAt.tuples h k hu2.1 fun j j1 j2 => ?_)
        have z := eqAtDs ds es A.in1 s its.toList jts.toList r2 q2 hu2.2 j (by simpa using j1) (by simpa using j2)
        simpa using z
theorem eqAtDs : ∀ (ds es : List D) (A : Around) (s : Shared) (us vs : List Value), RdHs s.heap ds us → RdHs s.heap es vs → A.units + min (depthDs ds) (depthDs es) < cLine →
    ∀ j (h1 : j < us.length) (h2 : j < vs.length), EqAt A s us[j] vs[j] (eqAtJ ds es j)
  | [], _, _, _, _, _, r, _, _, j, h1, _ => by simp only [RdHs] at r; subst r; exact absurd h1 (Nat.not_lt_zero _)
  | _ :: _, [], _, _, _, _, _, q, _, j, _, h2 => by simp only [RdHs] at q; subst q; exact absurd h2 (Nat.not_lt_zero _)
  | d :: ds, e :: es, A, s, us, vs, r, q, hu, j, h1, h2 => by
    simp only [RdHs] at r q
    obtain ⟨u, us, rfl, r1, r2⟩ := r
    obtain ⟨v, vs, rfl, q1, q2⟩ := q
    simp only [depthDs] at hu
    have hu2 := lt_min_head hu
    cases j with
    | zero => exact eqAtD d e A s u v r1 q1 hu2.1
    | succ j => exact eqAtDs ds es A s us vs r2 q2 hu2.2 j (by simpa using h1) (by simpa using h2)
end
/-- the comparison by ==, as a value -/
theorem rcAtD : ∀ (d e : D) (A : Around) (s : Shared) (u v : Value), RdH s.heap d u → RdH s.heap e v → A.units + min (depthD d) (depthD e) < cLine → A.units < cLine → RcAt A s u v (eqD d e) := by
  intro d e A s u v r q hu hu0
  cases d with
  | non =>
    simp only [RdH] at r
    subst r
    cases e with
    | non => simp only [RdH] at q; subst q; exact RcAt.none_none
    | bl x => simp only [RdH] at q; subst q; exact RcAt.none_bool _
    | int x => simp only [RdH] at q; obtain ⟨t, rfl⟩ := q; exact RcAt.none_int _ _
    | str x => simp only [RdH] at q; obtain ⟨t, rfl⟩ := q; exact RcAt.none_str _ _
    | tup es => simp only [RdH] at q; obtain ⟨a, its, rfl, h, _⟩ := q; exact RcAt.none_tuple  h hu0
    | ref a => simp [RdH] at q
    | ty a => simp [RdH] at q
  | bl b =>
    simp only [RdH] at r
    subst r
    cases e with
    | non => simp only [RdH] at q; subst q; exact RcAt.bool_none _
    | bl x => simp only [RdH] at q; subst q; exact RcAt.bool_bool _ _
    | int x => simp only [RdH] at q; obtain ⟨t, rfl⟩ := q; exact RcAt.bool_int _ _ _
    | str x => simp only [RdH] at q; obtain ⟨t, rfl⟩ := q; exact RcAt.bool_str _ _ _
    | tup es => simp only [RdH] at q; obtain ⟨a, its, rfl, h, _⟩ := q; exact RcAt.bool_tuple _ h hu0
    | ref a => simp [RdH] at q
    | ty a => simp [RdH] at q
  | int b =>
    simp only [RdH] at r
    obtain ⟨t0, rfl⟩ := r
    cases e with
    | non => simp only [RdH] at q; subst q; exact RcAt.int_none _ _
    | bl x => simp only [RdH] at q; subst q; exact RcAt.int_bool _ _ _
    | int x => simp only [RdH] at q; obtain ⟨t, rfl⟩ := q; exact RcAt.int_int _ _ _ _
    | str x => simp only [RdH] at q; obtain ⟨t, rfl⟩ := q; exact RcAt.int_str _ _ _ _
    | tup es => simp only [RdH] at q; obtain ⟨a, its, rfl, h, _⟩ := q; exact RcAt.int_tuple _ _ h hu0
    | ref a => simp [RdH] at q
    | ty a => simp [RdH] at q
  | str b =>
    simp only [RdH] at r
    obtain ⟨t0, rfl⟩ := r
    cases e with
    | non => simp only [RdH] at q; subst q; exact RcAt.str_none _ _
    | bl x => simp only [RdH] at q; subst q; exact RcAt.str_bool _ _ _
    | int x => simp only [RdH] at q; obtain ⟨t, rfl⟩ := q; exact RcAt.str_int _ _ _ _
    | str x => simp only [RdH] at q; obtain ⟨t, rfl⟩ := q; exact RcAt.str_str _ _ _ _
    | tup es => simp only [RdH] at q; obtain ⟨a, its, rfl, h, _⟩ := q; exact RcAt.str_tuple _ _ h hu0
    | ref a => simp [RdH] at q
    | ty a => simp [RdH] at q
  | ref a => simp [RdH] at r
  | ty a => simp [RdH] at r
  | tup ds =>
    simp only [RdH] at r
    obtain ⟨a, its, rfl, h, r2⟩ := r
    cases e with
    | non => simp only [RdH] at q; subst q; exact RcAt.tuple_none  h hu0
    | bl x => simp only [RdH] at q; subst q; exact RcAt.tuple_bool _ h hu0
    | int x => simp only [RdH] at q; obtain ⟨t, rfl⟩ := q; exact RcAt.tuple_int _ _ h hu0
    | str x => simp only [RdH] at q; obtain ⟨t, rfl⟩ := q; exact RcAt.tuple_str _ _ h hu0
    | ref a => simp [RdH] at q
    | ty a => simp [RdH] at q
    | tup es =>
      simp only [RdH] at q
      obtain ⟨b, jts, rfl, k, q2⟩ := q
      simp only [depthD] at hu
      have hu2 := lt_min_in hu
      have n1 : its.size = ds.length := by simpa using RdHs.length r2
      have n2 : jts.size = es.length := by simpa using RdHs.length q2
      simp only [eqD]
      rw [← eqAtJ_all ds es, ← n1, ← n2]
      refine RcAt.tuples h k hu2.1 fun j j1 j2 => ?_
      have z := eqAtDs ds es A.in1 s its.toList jts.toList r2 q2 hu2.2 j (by simpa using j1) (by simpa using j2)
      simpa using z
theorem rcNeAtD : ∀ (d e : D) (A : Around) (s : Shared) (u v : Value), RdH s.heap d u → RdH s.heap e v → A.units + min (depthD d) (depthD e) < cLine → A.units < cLine → RcNeAt A s u v (!eqD d e) := by
  intro d e A s u v r q hu hu0
  cases d with
  | non =>
    simp only [RdH] at r
    subst r
    cases e with
    | non => simp only [RdH] at q; subst q; exact RcNeAt.none_none
    | bl x => simp only [RdH] at q; subst q; exact RcNeAt.none_bool _
    | int x => simp only [RdH] at q; obtain ⟨t, rfl⟩ := q; exact RcNeAt.none_int _ _
    | str x => simp only [RdH] at q; obtain ⟨t, rfl⟩ := q; exact RcNeAt.none_str _ _
    | tup es => simp only [RdH] at q; obtain ⟨a, its, rfl, h, _⟩ := q; exact RcNeAt.none_tuple  h hu0
    | ref a => simp [RdH] at q
    | ty a => simp [RdH] at q
  | bl b =>
    simp only [RdH] at r
    subst r
    cases e with
    | non => simp only [RdH] at q; subst q; exact RcNeAt.bool_none _
    | bl x => simp only [RdH] at q; subst q; exact RcNeAt.bool_bool _ _
    | int x => simp only [RdH] at q; obtain ⟨t, rfl⟩ := q; exact RcNeAt.bool_int _ _ _
    | str x => simp only [RdH] at q; obtain ⟨t, rfl⟩ := q; exact RcNeAt.bool_str _ _ _
    | tup es => simp only [RdH] at q; obtain ⟨a, its, rfl, h, _⟩ := q; exact RcNeAt.bool_tuple _ h hu0
    | ref a => simp [RdH] at q
    | ty a => simp [RdH] at q
  | int b =>
    simp only [RdH] at r
    obtain ⟨t0, rfl⟩ := r
    cases e with
    | non => simp only [RdH] at q; subst q; exact RcNeAt.int_none _ _
    | bl x => simp only [RdH] at q; subst q; exact RcNeAt.int_bool _ _ _
    | int x => simp only [RdH] at q; obtain ⟨t, rfl⟩ := q; exact RcNeAt.int_int _ _ _ _
    | str x => simp only [RdH] at q; obtain ⟨t, rfl⟩ := q; exact RcNeAt.int_str _ _ _ _
    | tup es => simp only [RdH] at q; obtain ⟨a, its, rfl, h, _⟩ := q; exact RcNeAt.int_tuple _ _ h hu0
    | ref a => simp [RdH] at q
    | ty a => simp [RdH] at q
  | str b =>
    simp only [RdH] at r
    obtain ⟨t0, rfl⟩ := r
    cases e with
    | non => simp only [RdH] at q; subst q; exact RcNeAt.str_none _ _
    | bl x => simp only [RdH] at q; subst q; exact RcNeAt.str_bool _ _ _
    | int x => simp only [RdH] at q; obtain ⟨t, rfl⟩ := q; exact RcNeAt.str_int _ _ _ _
    | str x => simp only [RdH] at q; obtain ⟨t, rfl⟩ := q; exact RcNeAt.str_str _ _ _ _
    | tup es => simp only [RdH] at q; obtain ⟨a, its, rfl, h, _⟩ := q; exact RcNeAt.str_tuple _ _ h hu0
    | ref a => simp [RdH] at q
    | ty a => simp [RdH] at q
  | ref a => simp [RdH] at r
  | ty a => simp [RdH] at r
  | tup ds =>
    simp only [RdH] at r
    obtain ⟨a, its, rfl, h, r2⟩ := r
    cases e with
    | non => simp only [RdH] at q; subst q; exact RcNeAt.tuple_none  h hu0
    | bl x => simp only [RdH] at q; subst q; exact RcNeAt.tuple_bool _ h hu0
    | int x => simp only [RdH] at q; obtain ⟨t, rfl⟩ := q; exact RcNeAt.tuple_int _ _ h hu0
    | str x => simp only [RdH] at q; obtain ⟨t, rfl⟩ := q; exact RcNeAt.tuple_str _ _ h hu0
    | ref a => simp [RdH] at q
    | ty a => simp [RdH] at q
    | tup es =>
      simp only [RdH] at q
      obtain ⟨b, jts, rfl, k, q2⟩ := q
      simp only [depthD] at hu
      have hu2 := lt_min_in hu
      have n1 : its.size = ds.length := by simpa using RdHs.length r2
      have n2 : jts.size = es.length := by simpa using RdHs.length q2
      simp only [eqD]
      rw [← eqAtJ_all ds es, ← n1, ← n2]
      refine RcNeAt.tuples h k hu2.1 fun j j1 j2 => ?_
      have z := eqAtDs ds es A.in1 s its.toList jts.toList r2 q2 hu2.2 j (by simpa using j1) (by simpa using j2)
      simpa using z
/-- two lists of data -/
theorem rcAtLists {A : Around} {s : Shared} {a b : Addr} {its jts : Array Value} {ds es : List D} (h : s.heap.IsList a its) (k : s.heap.IsList b jts) (r2 : RdHs s.heap ds its.toList) (q2 : RdHs s.heap es jts.toList)
    (hu : A.units + 1 + min (depthDs ds) (depthDs es) < cLine) : RcAt A s (.ref a) (.ref b) (eqDs ds es) := by
  have n1 : its.size = ds.length := by simpa using RdHs.length r2
  have n2 : jts.size = es.length := by simpa using RdHs.length q2
  have z := eqAtDs ds es A.in1 s its.toList jts.toList r2 q2 hu
  by_cases hl : its.size = jts.size
  · have e0 := eqAtJ_all ds es
    rw [← n1, ← n2, ← hl, Nat.min_self] at e0
    simp only [beq_self_eq_true, Bool.and_true] at e0
    rw [← e0]
    refine RcAt.lists h k hl (by omega) fun j j1 j2 => ?_
    have z2 := z j (by simpa using j1) (by simpa using j2)
    simpa using z2
  · have e0 : eqDs ds es = false := by
      cases c : eqDs ds es with
      | false => rfl
      | true => exact absurd (n1.trans ((eqDs_len c).trans n2.symm)) hl
    rw [e0]
    exact RcAt.lists_lengths h k (by simpa using hl) (by omega)
theorem rcNeAtLists {A : Around} {s : Shared} {a b : Addr} {its jts : Array Value} {ds es : List D} (h : s.heap.IsList a its) (k : s.heap.IsList b jts) (r2 : RdHs s.heap ds its.toList) (q2 : RdHs s.heap es jts.toList)
    (hu : A.units + 1 + min (depthDs ds) (depthDs es) < cLine) : RcNeAt A s (.ref a) (.ref b) (!eqDs ds es) := by
  have n1 : its.size = ds.length := by simpa using RdHs.length r2
  have n2 : jts.size = es.length := by simpa using RdHs.length q2
  have z := eqAtDs ds es A.in1 s its.toList jts.toList r2 q2 hu
  by_cases hl : its.size = jts.size
  · have e0 := eqAtJ_all ds es
    rw [← n1, ← n2, ← hl, Nat.min_self] at e0
    simp only [beq_self_eq_true, Bool.and_true] at e0
    rw [← e0]
    refine RcNeAt.lists h k hl (by omega) fun j j1 j2 => ?_
    have z2 := z j (by simpa using j1) (by simpa using j2)
    simpa using z2
  · have e0 : eqDs ds es = false := by
      cases c : eqDs ds es with
      | false => rfl
      | true => exact absurd (n1.trans ((eqDs_len c).trans n2.symm)) hl
    rw [e0]
    exact RcNeAt.lists_lengths h k (by simpa using hl) (by omega)
end
end L3
end

section
set_option Elab.async false
set_option linter.all false
set_option maxRecDepth 100000
set_option maxHeartbeats 400000
/-! L3d: displays, operators, comparisons, tests, subscripts, slices. -/
namespace L3
open PySem PySem.Spec PyProof.Rows L2

section
variable {K : PySem.W.Frag} {T T' T0 : Tm} {H H' : Hp} {M M' : HM} {d : D} {v : V}
theorem relInt {i : Int} (r : RelD K T (.int i) v) : v = .int i := by simpa only [RelD] using r
theorem relStr {i : Str} (r : RelD K T (.str i) v) : v = .str i := by simpa only [RelD] using r
theorem relBl {i : Bool} (r : RelD K T (.bl i) v) : v = .bl i := by simpa only [RelD] using r
theorem relNon (r : RelD K T .non v) : v = .non := by simpa only [RelD] using r
theorem relRef {a : Addr} (r : RelD K T (.ref a) v) : v = .ref a := by simpa only [RelD] using r
theorem relTy {a : String} (r : RelD K T (.ty a) v) : v = .ty a := by simpa only [RelD] using r
theorem intRel {i : Int} : RelD K T (.int i) (.int i) := by simp only [RelD]
theorem strRel {i : Str} : RelD K T (.str i) (.str i) := by simp only [RelD]
theorem blRel {i : Bool} : RelD K T (.bl i) (.bl i) := by simp only [RelD]
theorem nonRel : RelD K T .non .non := by simp only [RelD]
theorem refRel {a : Addr} : RelD K T (.ref a) (.ref a) := by simp only [RelD]
theorem tyRel {a : String} : RelD K T (.ty a) (.ty a) := by simp only [RelD]
/-- a list that may be read -/
def LstAt (M : HM) (a : Addr) (ds : List D) : Prop := M a = some (.lst ds) ∨ M a = some (.rol ds)
theorem Rep.sqL (R : Rep K T H M) {a : Addr} {ds : List D} (h : LstAt M a ds) : ∃ xs, SqL K H a xs ∧ RelDs K T ds xs := by
  rcases h with h | h
  · obtain ⟨xs, e, r⟩ := R.obj a _ h
    exact ⟨xs, .inl (.inl e), r⟩
  · obtain ⟨xs, e, r⟩ := R.obj a _ h
    exact ⟨xs, .inl e, r⟩
/-- a list is stored -/
theorem Rep.setLst (R : Rep K T H M) {a : Addr} {ds : List D} {xs ys : List V} {es : List D} (h : M a = some (.lst ds)) (hx : H a = some (.lst xs)) (r : RelDs K T es ys) : Rep K T (upd H a (.lst ys)) (mup M a (.lst es)) := by
  have nt : ∀ b u, H b = some u → u ≠ .lst xs → b ≠ a := fun b u e hu => ne_of e hx hu
  refine ⟨fun b zs e => by rw [upd_ne (nt b _ (R.tup b zs e) (fun z => by cases z))]; exact R.tup b zs e, fun b o e => ?_, fun p hp => ?_⟩
  · by_cases q : b = a
    · subst q
      rw [mup_same] at e
      cases e
      exact ⟨ys, upd_same, r⟩
    · rw [mup_ne q] at e
      refine (R.obj b o e).stay (Sub.refl T) fun c u hc _ _ hu => ?_
      rcases hc with rfl | ⟨fs, rfl⟩
      · rw [upd_ne q]; exact hu
      · rw [upd_ne (nt c _ hu (fun z => by cases z))]; exact hu
  · obtain ⟨ps, h1, h2, h3⟩ := R.tab p hp
    refine ⟨ps, by rw [upd_ne (nt _ _ h1 (fun z => by cases z))]; exact h1, h2, fun pos cv hc => ?_⟩
    obtain ⟨c, e1, e2⟩ := h3 pos cv hc
    exact ⟨c, e1, by rw [upd_ne (nt _ _ e2 (fun z => by unfold LamX.CodeO at z; cases z))]; exact e2⟩
end
section
variable {X : Cx} {T0 : Tm} {e : Expr} {es : List Expr} {te : E3} {t : A3} {pos : Pos}
theorem q_lst (h : QA X T0 es t) : QE X T0 (.List es pos) (lst3 t) :=
  (pe_lst h).imp fun σ H Q ⟨T, M, s, Q3, S0, R, S, q, k⟩ => ⟨T, M, s, _, S0, R, S, q, fun T1 H1 M1 ds vs s1 R1 r1 ⟨z, q1⟩ =>
    ⟨by rw [← r1.length]; exact z, fun p hp => k _ _ ⟨T1, mup M1 p (.lst ds), .ref p, s1, R1.newLst hp r1, refRel, q1 p (R1.noM hp)⟩⟩⟩
/-! ### operators -/
theorem OpR.imp {f : Value → Value → Sem Value} {r r' : R2} (h : OpR X f r) (i : ∀ x y H Q, r' x y H Q → r x y H Q) : OpR X f r' := fun pins s σ H x y v u Q I rx ry q => h pins s σ H x y v u Q I rx ry (i _ _ _ _ q)
def bin3 (r : O3) (ta tb : E3) : E3 := fun s M Q => ta s M fun d M1 => tb s M1 fun e M2 => r d e M2 Q
theorem bin_up {K : PySem.W.Frag} {r : O3} {ta tb : E3} (σ : St) (H : Hp) (Q : VK) (h : upE K T0 (bin3 r ta tb) σ H Q) : tOp (upO K T0 r) (upE K T0 ta) (upE K T0 tb) σ H Q := by
  obtain ⟨T, M, s, Q3, S0, R, S, q, k⟩ := h
  exact ⟨T, M, s, _, S0, R, S, q, fun v H1 ⟨T1, M1, d, s1, R1, r1, q1⟩ => ⟨T1, M1, s, _, S0.trans s1, R1, S.mono s1, q1, fun v2 H2 ⟨T2, M2, d2, s2, R2, r2, q2⟩ =>
    ⟨T2, M2, d, d2, Q3, (S0.trans s1).trans s2, R2, r1.mono s2, r2, q2, fun v3 H3 l => k v3 H3 (l.mono (s1.trans s2))⟩⟩⟩
theorem q_op {op : Operator} {a b : Expr} {ta tb : E3} {r : O3} (ho : OpR X (binaryOp op) (upO X.K T0 r)) (ha : QE X T0 a ta) (hb : QE X T0 b tb) : QE X T0 (.BinOp a op b pos) (bin3 r ta tb) :=
  (pe_op ho ha hb).imp bin_up
theorem q_cmp {op : CmpOp} {a b : Expr} {ta tb : E3} {r : O3} (ho : OpR X (compareOp op) (upO X.K T0 r)) (ha : QE X T0 a ta) (hb : QE X T0 b tb) (hm : behindInMarks op b = false) : QE X T0 (.Compare a [op] [b] pos) (bin3 r ta tb) :=
  (pe_cmpR ho ha hb hm).imp bin_up
def chain3 (r r' : O3) (ta tb tc : E3) : E3 := fun s M Q => ta s M fun d M1 => tb s M1 fun e M2 => r d e M2 fun z M3 => ∃ k, z = .bl k ∧ (if k = true then tc s M3 fun f M4 => r' e f M4 Q else Q (.bl false) M3)
theorem chain_up {K : PySem.W.Frag} {r r' : O3} {ta tb tc : E3} (σ : St) (H : Hp) (Q : VK) (h : upE K T0 (chain3 r r' ta tb tc) σ H Q) : tChain (upO K T0 r) (upO K T0 r') (upE K T0 ta) (upE K T0 tb) (upE K T0 tc) σ H Q := by
  obtain ⟨T, M, s, Q3, S0, R, S, q, k⟩ := h
  exact ⟨T, M, s, _, S0, R, S, q, fun v H1 ⟨T1, M1, d, s1, R1, r1, q1⟩ => ⟨T1, M1, s, _, S0.trans s1, R1, S.mono s1, q1, fun v2 H2 ⟨T2, M2, d2, s2, R2, r2, q2⟩ =>
      ⟨T2, M2, d, d2, _, (S0.trans s1).trans s2, R2, r1.mono s2, r2, q2, fun v3 H3 ⟨T3, M3, d3, s3, R3, r3, kk, e3, q3⟩ => by
        subst e3
        refine ⟨kk, relBl r3, ?_⟩
        cases kk with
        | true =>
          refine iteT ?_
          simp only [if_true] at q3
          exact ⟨T3, M3, s, _, ((S0.trans s1).trans s2).trans s3, R3, S.mono ((s1.trans s2).trans s3), q3, fun v4 H4 ⟨T4, M4, d4, s4, R4, r4, q4⟩ =>
            ⟨T4, M4, d2, d4, Q3, (((S0.trans s1).trans s2).trans s3).trans s4, R4, r2.mono (s3.trans s4), r4, q4, fun v5 H5 l => k v5 H5 (l.mono (((s1.trans s2).trans s3).trans s4))⟩⟩
        | false =>
          refine iteF ?_
          simp only [Bool.false_eq_true, if_false] at q3
          exact k _ _ ⟨T3, M3, _, (s1.trans s2).trans s3, R3, blRel, q3⟩⟩⟩⟩
theorem q_chain {op op' : CmpOp} {a b c : Expr} {ta tb tc : E3} {r r' : O3} (ho : OpR X (compareOp op) (upO X.K T0 r)) (ho' : OpR X (compareOp op') (upO X.K T0 r')) (ha : QE X T0 a ta) (hb : QE X T0 b tb) (hc : QE X T0 c tc) (hm : lastMarks [op, op'] [b, c] = false) : QE X T0 (.Compare a [op, op'] [b, c] pos) (chain3 r r' ta tb tc) :=
  (pe_chain ho ho' ha hb hc hm).imp chain_up
def un3 (r : D → HM → K3 → Prop) (ta : E3) : E3 := fun s M Q => ta s M fun d M1 => r d M1 Q
theorem q_un {op : UnaryOp} {a : Expr} {ta : E3} {r : D → HM → K3 → Prop} (ho : UnR X (unaryOp op) (upU X.K T0 r)) (ha : QE X T0 a ta) : QE X T0 (.UnaryOp op a pos) (un3 r ta) :=
  (pe_un ho ha).imp fun σ H Q ⟨T, M, s, Q3, S0, R, S, q, k⟩ =>
    ⟨T, M, s, _, S0, R, S, q, fun v H1 ⟨T1, M1, d, s1, R1, r1, q1⟩ => ⟨T1, M1, d, Q3, S0.trans s1, R1, r1, q1, fun v3 H3 l => k v3 H3 (l.mono s1)⟩⟩

/-- + -/
def add3 : O3
  | .int i, .int j, M, Q => Q (.int (i + j)) M
  | .str x, .str y, M, Q => x.length + y.length ≤ sizeLine ∧ Q (.str (x ++ y)) M
  | .tup x, .tup y, M, Q => x.length + y.length ≤ sizeLine ∧ Q (.tup (x ++ y)) M
  | .ref a, .ref b, M, Q => ∃ x y, M a = some (.lst x) ∧ M b = some (.lst y) ∧ x.length + y.length ≤ sizeLine ∧ ∀ p, M p = none → Q (.ref p) (mup M p (.lst (x ++ y)))
  | _, _, _, _ => False
theorem op_add3 : OpR X (binaryOp .Add) (upO X.K T0 add3) := by
  intro pins s σ H x y v u Q I rx ry ⟨T, M, d, e, Q3, S0, R, r1, r2, h, k⟩
  cases d <;> cases e <;> simp only [add3] at h
  case int.int i j => exact op_add pins s σ H x y v u Q I rx ry ⟨i, j, relInt r1, relInt r2, k _ _ (lift3.of R intRel h)⟩
  case str.str i j => exact op_add_str pins s σ H x y v u Q I rx ry ⟨i, j, relStr r1, relStr r2, h.1, k _ _ (lift3.of R strRel h.2)⟩
  case tup.tup i j =>
    obtain ⟨a, xs, e1, h1, q1⟩ := R.sqT r1
    obtain ⟨b, ys, e2, h2, q2⟩ := R.sqT r2
    have l1 := q1.length
    have l2 := q2.length
    refine op_catA pins s σ H x y v u Q I rx ry ⟨a, b, xs, ys, e1, e2, h1, h2, by rw [← l1, ← l2]; exact h.1, fun z => ?_, fun _ z => ?_, fun _ _ p hp => ?_⟩
    · subst z
      have : i = [] := by simpa using l1
      subst this
      exact k _ _ (lift3.of R (e2 ▸ r2) h.2)
    · subst z
      have : j = [] := by simpa using l2
      subst this
      have h2 := h.2
      rw [List.append_nil] at h2
      exact k _ _ (lift3.of R (e1 ▸ r1) h2)
    · exact k _ _ ⟨tput T p (xs ++ ys), M, .tup (i ++ j), Sub.put (R.noT hp), R.newTup hp, RelD.tupOf tput_same ((q1.append q2).mono (Sub.put (R.noT hp))), h.2⟩
  case ref.ref a b =>
    obtain ⟨xs, ys, h1, h2, hz, q⟩ := h
    obtain ⟨us, g1, q1⟩ := R.obj_lst h1
    obtain ⟨ws, g2, q2⟩ := R.obj_lst h2
    have l1 := q1.length
    have l2 := q2.length
    exact op_cat pins s σ H x y v u Q I rx ry ⟨a, b, us, ws, relRef r1, relRef r2, g1, g2, by rw [← l1, ← l2]; exact hz, fun p hp => k _ _ ⟨T, _, .ref p, Sub.refl T, R.newLst hp (q1.append q2), refRel, q p (R.noM hp)⟩⟩
def sub3 : O3
  | .int i, .int j, M, Q => Q (.int (i - j)) M
  | _, _, _, _ => False
theorem op_sub3 : OpR X (binaryOp .Sub) (upO X.K T0 sub3) := by
  intro pins s σ H x y v u Q I rx ry ⟨T, M, d, e, Q3, S0, R, r1, r2, h, k⟩
  cases d <;> cases e <;> simp only [sub3] at h
  exact op_sub pins s σ H x y v u Q I rx ry ⟨_, _, relInt r1, relInt r2, k _ _ (lift3.of R intRel h)⟩
/-- %, by a positive divisor -/
def mod3 : O3
  | .int i, .int j, M, Q => 0 < j ∧ Q (.int (i % j)) M
  | _, _, _, _ => False
theorem op_mod3 : OpR X (binaryOp .Mod) (upO X.K T0 mod3) := by
  intro pins s σ H x y v u Q I rx ry ⟨T, M, d, e, Q3, S0, R, r1, r2, h, k⟩
  cases d <;> cases e <;> simp only [mod3] at h
  exact op_mod pins s σ H x y v u Q I rx ry ⟨_, _, relInt r1, relInt r2, h.1, k _ _ (lift3.of R intRel h.2)⟩
/-- //, by a positive divisor that is not great -/
def fdiv3 : O3
  | .int i, .int j, M, Q => (0 < j ∧ j < 1073741824) ∧ Q (.int (i / j)) M
  | _, _, _, _ => False
theorem op_fdiv3 : OpR X (binaryOp .FloorDiv) (upO X.K T0 fdiv3) := by
  intro pins s σ H x y v u Q I rx ry ⟨T, M, d, e, Q3, S0, R, r1, r2, h, k⟩
  cases d <;> cases e <;> simp only [fdiv3] at h
  exact op_fdiv pins s σ H x y v u Q I rx ry ⟨_, _, relInt r1, relInt r2, h.1, k _ _ (lift3.of R intRel h.2)⟩
/-- == -/
def eq3 (n : Nat) (g : Bool → Bool) : O3 := fun d e M Q => match d, e with
  | .ref a, .ref b => ∃ xs ys, LstAt M a xs ∧ LstAt M b ys ∧ pureDs xs = true ∧ pureDs ys = true ∧ min (depthDs xs) (depthDs ys) < n ∧ Q (.bl (g (eqDs xs ys))) M
  | d, e => pureD d = true ∧ pureD e = true ∧ min (depthD d) (depthD e) ≤ n ∧ Q (.bl (g (eqD d e))) M
theorem eq3_pure {n : Nat} {g : Bool → Bool} {d e : D} {M : HM} {Q : K3} (h : eq3 n g d e M Q) : (∃ a b, d = .ref a ∧ e = .ref b) ∨ (pureD d = true ∧ pureD e = true ∧ min (depthD d) (depthD e) ≤ n ∧ Q (.bl (g (eqD d e))) M) := by
  cases d <;> cases e <;> simp only [eq3] at h <;> first
    | exact .inr h
    | exact .inl ⟨_, _, rfl, rfl⟩
theorem op_eq3 {n : Nat} (hu : X.A.units + n < cLine) : OpR X (compareOp .Eq) (upO X.K T0 (eq3 n id)) := by
  intro pins s σ H x y v u Q I rx ry ⟨T, M, d, e, Q3, S0, R, r1, r2, h, k⟩
  rcases eq3_pure h with ⟨a, b, rfl, rfl⟩ | ⟨p1, p2, hd, q⟩
  · simp only [eq3] at h
    obtain ⟨xs, ys, h1, h2, p1, p2, hd, q⟩ := h
    cases relRef r1
    cases relRef r2
    cases rx
    cases ry
    obtain ⟨us, g1, q1⟩ := R.sqL h1
    obtain ⟨ws, g2, q2⟩ := R.sqL h2
    obtain ⟨its, rv, pl, _⟩ := I.list g1
    obtain ⟨jts, rw', pl2, _⟩ := I.list g2
    exact rcAtLists pl.isList pl2.isList (RelDs.rdHs I R xs us _ p1 q1 (by simpa using rv)) (RelDs.rdHs I R ys ws _ p2 q2 (by simpa using rw')) (by omega) _ _ _ _ (show EP X pins σ Q _ s from ⟨.bl _, H, I, rfl, k _ _ (lift3.of R blRel q)⟩)
  · exact rcAtD d e _ s v u (r1.rdH I R d x v p1 rx) (r2.rdH I R e y u p2 ry) (by omega) (by omega) _ _ _ _ (show EP X pins σ Q _ s from ⟨.bl _, H, I, rfl, k _ _ (lift3.of R blRel q)⟩)
theorem op_ne3 {n : Nat} (hu : X.A.units + n < cLine) : OpR X (compareOp .NotEq) (upO X.K T0 (eq3 n not)) := by
  intro pins s σ H x y v u Q I rx ry ⟨T, M, d, e, Q3, S0, R, r1, r2, h, k⟩
  rcases eq3_pure h with ⟨a, b, rfl, rfl⟩ | ⟨p1, p2, hd, q⟩
  · simp only [eq3] at h
    obtain ⟨xs, ys, h1, h2, p1, p2, hd, q⟩ := h
    cases relRef r1
    cases relRef r2
    cases rx
    cases ry
    obtain ⟨us, g1, q1⟩ := R.sqL h1
    obtain ⟨ws, g2, q2⟩ := R.sqL h2
    obtain ⟨its, rv, pl, _⟩ := I.list g1
    obtain ⟨jts, rw', pl2, _⟩ := I.list g2
    exact rcNeAtLists pl.isList pl2.isList (RelDs.rdHs I R xs us _ p1 q1 (by simpa using rv)) (RelDs.rdHs I R ys ws _ p2 q2 (by simpa using rw')) (by omega) _ _ _ _ (show EP X pins σ Q _ s from ⟨.bl _, H, I, rfl, k _ _ (lift3.of R blRel q)⟩)
  · exact rcNeAtD d e _ s v u (r1.rdH I R d x v p1 rx) (r2.rdH I R e y u p2 ry) (by omega) (by omega) _ _ _ _ (show EP X pins σ Q _ s from ⟨.bl _, H, I, rfl, k _ _ (lift3.of R blRel q)⟩)
/-- <, <=, >, >= of ints -/
def cmpI3 (f : Int → Int → Bool) : O3
  | .int i, .int j, M, Q => Q (.bl (f i j)) M
  | _, _, _, _ => False
theorem cmpI_up {op : CmpOp} {f : Int → Int → Bool} (h0 : OpR X (compareOp op) (rI0 fun i j => .bl (f i j))) : OpR X (compareOp op) (upO X.K T0 (cmpI3 f)) := by
  intro pins s σ H x y v u Q I rx ry ⟨T, M, d, e, Q3, S0, R, r1, r2, h, k⟩
  cases d <;> cases e <;> simp only [cmpI3] at h
  exact h0 pins s σ H x y v u Q I rx ry ⟨_, _, relInt r1, relInt r2, k _ _ (lift3.of R blRel h)⟩
theorem op_lt3 : OpR X (compareOp .Lt) (upO X.K T0 (cmpI3 fun i j => decide (i < j))) := cmpI_up op_lt
theorem op_le3 : OpR X (compareOp .LtE) (upO X.K T0 (cmpI3 fun i j => decide (i ≤ j))) := cmpI_up op_le
theorem op_gt3 : OpR X (compareOp .Gt) (upO X.K T0 (cmpI3 fun i j => decide (j < i))) := cmpI_up op_gt
theorem op_ge3 : OpR X (compareOp .GtE) (upO X.K T0 (cmpI3 fun i j => decide (j ≤ i))) := cmpI_up op_ge
/-- is None -/
def isNonD : D → Bool
  | .non => true
  | _ => false
def isN3 (g : Bool → Bool) : O3
  | d, .non, M, Q => Q (.bl (g (isNonD d))) M
  | _, _, _, _ => False
theorem isN_dec {K : PySem.W.Frag} {T : Tm} {d : D} {x : V} (r : RelD K T d x) : decide (x = .non) = isNonD d := by
  cases d <;> simp only [RelD] at r <;> simp only [isNonD]
  case tup => obtain ⟨a, xs, rfl, _⟩ := r; simp
  all_goals (subst r; simp)
theorem op_is3 : OpR X (compareOp .Is) (upO X.K T0 (isN3 id)) := by
  intro pins s σ H x y v u Q I rx ry ⟨T, M, d, e, Q3, S0, R, r1, r2, h, k⟩
  cases e <;> simp only [isN3] at h
  exact op_isN pins s σ H x y v u Q I rx ry ⟨relNon r2, by rw [isN_dec r1]; exact k _ _ (lift3.of R blRel h)⟩
theorem op_isNot3 : OpR X (compareOp .IsNot) (upO X.K T0 (isN3 not)) := by
  intro pins s σ H x y v u Q I rx ry ⟨T, M, d, e, Q3, S0, R, r1, r2, h, k⟩
  cases e <;> simp only [isN3] at h
  exact op_notN pins s σ H x y v u Q I rx ry ⟨relNon r2, by rw [isN_dec r1]; exact k _ _ (lift3.of R blRel h)⟩
/-- in a list, a tuple; a sign in a text -/
def anyD (d : D) (ds : List D) : Bool := ds.any fun z => eqD z d
def in3 (n : Nat) (g : Bool → Bool) : O3 := fun d e M Q => match e with
  | .ref a => ∃ xs, LstAt M a xs ∧ pureD d = true ∧ pureDs xs = true ∧ min (depthDs xs) (depthD d) < n ∧ Q (.bl (g (anyD d xs))) M
  | .tup xs => pureD d = true ∧ pureDs xs = true ∧ min (depthDs xs) (depthD d) < n ∧ Q (.bl (g (anyD d xs))) M
  | .str z => ∃ c : Nat, d = .str ⟨#[c]⟩ ∧ Q (.bl (g (decide (c ∈ z.cps.toList)))) M
  | _ => False
open Classical in
/-- what an item is worth -/
noncomputable def eqU3 (h : Heap) (d : D) (u : Value) : Bool := decide (∃ e, RdH h e u ∧ eqD e d = true)
open Classical in
theorem eqU3_of {h : Heap} {d e : D} {u : Value} (r : RdH h e u) : eqU3 h d u = eqD e d := by
  unfold eqU3
  cases q : eqD e d with
  | true => exact decide_eq_true ⟨e, r, q⟩
  | false => exact decide_eq_false fun ⟨e', r', q'⟩ => by cases RdH.inj _ _ _ r r'; rw [q] at q'; cases q'
theorem any_eqU3 {h : Heap} {d : D} : ∀ {ds : List D} {us : List Value}, RdHs h ds us → us.any (eqU3 h d) = anyD d ds
  | [], _, r => by simp only [RdHs] at r; subst r; rfl
  | e :: ds, _, r => by
    simp only [RdHs] at r
    obtain ⟨u, w, rfl, r1, r2⟩ := r
    rw [List.any_cons, eqU3_of r1, any_eqU3 r2]
    rfl
theorem eqU3_at {A : Around} {s : Shared} {d : D} {v : Value} (r : RdH s.heap d v) : ∀ {ds : List D} {us : List Value}, RdHs s.heap ds us → A.units + 1 + min (depthDs ds) (depthD d) < cLine → ∀ u ∈ us, SeqAt.EqAt A.in1 s u v (eqU3 s.heap d u)
  | [], _, q, _ => by simp only [RdHs] at q; subst q; intro u hu; cases hu
  | e :: ds, _, q, hu => by
    simp only [RdHs] at q
    obtain ⟨u, w, rfl, q1, q2⟩ := q
    simp only [depthDs] at hu
    intro u' hm
    rcases List.mem_cons.mp hm with rfl | hm
    · rw [eqU3_of q1]
      exact eqAtD e d A.in1 s _ _ q1 r (by show A.units + 1 + _ < _; omega)
    · exact eqU3_at r q2 (by omega) u' hm
theorem op_in3 {n : Nat} (hu : X.A.units + n < cLine) : OpR X (compareOp .In) (upO X.K T0 (in3 n id)) := by
  intro pins s σ H x y v u Q I rx ry ⟨T, M, d, e, Q3, S0, R, r1, r2, h, k⟩
  cases e <;> simp only [in3] at h
  case str z =>
    obtain ⟨c, rfl, q⟩ := h
    exact op_in_sign pins s σ H x y v u Q I rx ry ⟨c, z, relStr r1, relStr r2, k _ _ (lift3.of R blRel q)⟩
  case ref a =>
    obtain ⟨xs, h1, p1, p2, hd, q⟩ := h
    cases relRef r2
    cases ry
    obtain ⟨us, g1, q1⟩ := R.sqL h1
    obtain ⟨its, rv, pl, _⟩ := I.list g1
    have rx' := r1.rdH I R d x v p1 rx
    have ri := RelDs.rdHs I R xs us _ p2 q1 rv
    refine SeqAt.in_listAt (eqU3 s.heap d) pl.isList (fun w hw => eqU3_at rx' ri (by omega) w (by simpa using hw)) ?_
    have e0 : its.toArray.any (eqU3 s.heap d) = anyD d xs := by rw [← any_eqU3 ri]; simp
    rw [e0]
    exact ⟨.bl _, H, I, rfl, k _ _ (lift3.of R blRel q)⟩
  case tup xs =>
    obtain ⟨p1, p2, hd, q⟩ := h
    obtain ⟨a, us, rfl, g1, q1⟩ := R.sqT r2
    cases ry
    obtain ⟨its, rv, pl, _⟩ := I.tuple g1
    have rx' := r1.rdH I R d x v p1 rx
    have ri := RelDs.rdHs I R xs us _ p2 q1 rv
    refine SeqAt.in_tupleAt (eqU3 s.heap d) pl (fun w hw => eqU3_at rx' ri (by omega) w (by simpa using hw)) ?_
    have e0 : its.toArray.any (eqU3 s.heap d) = anyD d xs := by rw [← any_eqU3 ri]; simp
    rw [e0]
    exact ⟨.bl _, H, I, rfl, k _ _ (lift3.of R blRel q)⟩
theorem op_notIn3 {n : Nat} (hu : X.A.units + n < cLine) : OpR X (compareOp .NotIn) (upO X.K T0 (in3 n not)) := by
  intro pins s σ H x y v u Q I rx ry ⟨T, M, d, e, Q3, S0, R, r1, r2, h, k⟩
  cases e <;> simp only [in3] at h
  case str z =>
    obtain ⟨c, rfl, q⟩ := h
    exact op_notIn_sign pins s σ H x y v u Q I rx ry ⟨c, z, relStr r1, relStr r2, k _ _ (lift3.of R blRel q)⟩
  case ref a =>
    obtain ⟨xs, h1, p1, p2, hd, q⟩ := h
    cases relRef r2
    cases ry
    obtain ⟨us, g1, q1⟩ := R.sqL h1
    obtain ⟨its, rv, pl, _⟩ := I.list g1
    have rx' := r1.rdH I R d x v p1 rx
    have ri := RelDs.rdHs I R xs us _ p2 q1 rv
    refine SeqAt.notIn_listAt (eqU3 s.heap d) pl.isList (fun w hw => eqU3_at rx' ri (by omega) w (by simpa using hw)) ?_
    have e0 : its.toArray.any (eqU3 s.heap d) = anyD d xs := by rw [← any_eqU3 ri]; simp
    rw [e0]
    exact ⟨.bl _, H, I, rfl, k _ _ (lift3.of R blRel q)⟩
  case tup xs =>
    obtain ⟨p1, p2, hd, q⟩ := h
    obtain ⟨a, us, rfl, g1, q1⟩ := R.sqT r2
    cases ry
    obtain ⟨its, rv, pl, _⟩ := I.tuple g1
    have rx' := r1.rdH I R d x v p1 rx
    have ri := RelDs.rdHs I R xs us _ p2 q1 rv
    refine SeqAt.notIn_tupleAt (eqU3 s.heap d) pl (fun w hw => eqU3_at rx' ri (by omega) w (by simpa using hw)) ?_
    have e0 : its.toArray.any (eqU3 s.heap d) = anyD d xs := by rw [← any_eqU3 ri]; simp
    rw [e0]
    exact ⟨.bl _, H, I, rfl, k _ _ (lift3.of R blRel q)⟩
end
end L3
end

section
set_option Elab.async false
set_option linter.all false
set_option maxRecDepth 100000
set_option maxHeartbeats 400000
/-! L3e: tests, and, or, not, conditional expressions, subscripts, slices, small statements, targets. -/
namespace L3
open PySem PySem.Spec PyProof.Rows L2

section
variable {X : Cx} {T0 : Tm} {a b c e : Expr} {es rest : List Expr} {ta tb te : E3} {tA tB' : B3} {t : A3} {pos : Pos}
/-! ### tests -/
def tru3 : D → HM → (Bool → Prop) → Prop
  | .bl b, _, P => P b
  | .non, _, P => P false
  | .int i, _, P => P (i != 0)
  | .str y, _, P => y.length ≤ sizeLine ∧ P ((y.length : Int) != 0)
  | .tup ds, _, P => P (!ds.isEmpty)
  | .ref a, M, P => ∃ ds, LstAt M a ds ∧ P (!ds.isEmpty)
  | .ty _, _, _ => False
def tst3 (t : E3) : B3 := fun s M Q => t s M fun d M1 => tru3 d M1 fun b => Q b M1
theorem RelDs.empty {K : PySem.W.Frag} {T : Tm} {ds : List D} {xs : List V} (r : RelDs K T ds xs) : (!ds.isEmpty) = !xs.isEmpty := by
  have l := r.length
  cases ds <;> cases xs <;> simp at l ⊢
theorem tru_up {K : PySem.W.Frag} {T : Tm} {H : Hp} {M : HM} {d : D} {x : V} {P : Bool → Prop} (R : Rep K T H M) (r : RelD K T d x) (h : tru3 d M P) : ∃ k, TruV K x H k ∧ P k := by
  cases d <;> simp only [tru3] at h
  case bl b => cases relBl r; exact ⟨b, rfl, h⟩
  case non => cases relNon r; exact ⟨false, rfl, h⟩
  case int i => cases relInt r; exact ⟨_, rfl, h⟩
  case str i => cases relStr r; exact ⟨_, ⟨h.1, rfl⟩, h.2⟩
  case tup ds =>
    obtain ⟨p, xs, rfl, g, q⟩ := R.sqT r
    exact ⟨_, .inr (.inl ⟨xs, g, q.empty⟩), h⟩
  case ref p =>
    obtain ⟨ds, hl, q⟩ := h
    cases relRef r
    obtain ⟨xs, g, q1⟩ := R.sqL hl
    exact ⟨_, .inl ⟨xs, g, q1.empty⟩, q⟩
theorem qt_val (h : QE X T0 a ta) (he : ∀ whole, isTrue a X.env whole = (do let v ← whole; standAt a.pos; holding [v] (truthy v)) := by intro _; rfl) : QT X T0 a (tst3 ta) :=
  (pt_truth h he).imp fun σ H Q ⟨T, M, s, Q3, S0, R, S, q, k⟩ => ⟨T, M, s, _, S0, R, S, q, fun v H1 ⟨T1, M1, d, s1, R1, r1, q1⟩ => by
    obtain ⟨kk, h1, h2⟩ := tru_up R1 r1 q1
    exact ⟨kk, h1, k kk T1 H1 M1 s1 R1 h2⟩⟩
/-- a comparison as a test: its value is a bool -/
def tstB (t : E3) : B3 := fun s M Q => t s M fun d M1 => ∃ b, d = .bl b ∧ Q b M1
theorem qt_cmp {op : CmpOp} {r : O3} (ho : OpR X (compareOp op) (upO X.K T0 r)) (ha : QE X T0 a ta) (hb : QE X T0 b tb) (hm : behindInMarks op b = false) : QT X T0 (.Compare a [op] [b] pos) (tstB (bin3 r ta tb)) :=
  (pt_cmpR ho ha hb hm).imp fun σ H Q ⟨T, M, s, Q3, S0, R, S, q, k⟩ => bin_up σ H _ ⟨T, M, s, _, S0, R, S, q, fun v H1 ⟨T1, M1, d, s1, R1, r1, b, e1, q1⟩ => by
    subst e1
    exact ⟨b, relBl r1, k b T1 H1 M1 s1 R1 q1⟩⟩
theorem qt_chain {op op' : CmpOp} {tc : E3} {r r' : O3} (ho : OpR X (compareOp op) (upO X.K T0 r)) (ho' : OpR X (compareOp op') (upO X.K T0 r')) (ha : QE X T0 a ta) (hb : QE X T0 b tb) (hc : QE X T0 c tc) (hm : lastMarks [op, op'] [b, c] = false) : QT X T0 (.Compare a [op, op'] [b, c] pos) (tstB (chain3 r r' ta tb tc)) :=
  (pt_chain ho ho' ha hb hc hm).imp fun σ H Q ⟨T, M, s, Q3, S0, R, S, q, k⟩ => chain_up σ H _ ⟨T, M, s, _, S0, R, S, q, fun v H1 ⟨T1, M1, d, s1, R1, r1, b, e1, q1⟩ => by
    subst e1
    exact ⟨b, relBl r1, k b T1 H1 M1 s1 R1 q1⟩⟩
def and3 (t u : B3) : B3 := fun s M Q => t s M fun c M1 => if c = true then u s M1 Q else Q false M1
def or3 (t u : B3) : B3 := fun s M Q => t s M fun c M1 => if c = true then Q true M1 else u s M1 Q
def not3 (t : B3) : B3 := fun s M Q => t s M fun c M1 => Q (!c) M1
theorem qw_and1 (ha : QT X T0 a tA) : QW X T0 (.BoolOp .And [a] pos) tA := pw_and1 ha
theorem qw_or1 (ha : QT X T0 a tA) : QW X T0 (.BoolOp .Or [a] pos) tA := pw_or1 ha
theorem qw_and (ha : QT X T0 a tA) (hb : QW X T0 (.BoolOp .And (b :: rest) pos) tB') : QW X T0 (.BoolOp .And (a :: b :: rest) pos) (and3 tA tB') :=
  (pw_and ha hb).imp fun σ H Q ⟨T, M, s, Q3, S0, R, S, q, k⟩ => ⟨T, M, s, _, S0, R, S, q, fun c T1 H1 M1 s1 R1 q1 => by
    cases c with
    | true => exact iteT ⟨T1, M1, s, Q3, S0.trans s1, R1, S.mono s1, by simpa using q1, fun b T2 H2 M2 s2 R2 q2 => k b T2 H2 M2 (s1.trans s2) R2 q2⟩
    | false => exact iteF (k false T1 H1 M1 s1 R1 (by simpa using q1))⟩
theorem qw_or (ha : QT X T0 a tA) (hb : QW X T0 (.BoolOp .Or (b :: rest) pos) tB') : QW X T0 (.BoolOp .Or (a :: b :: rest) pos) (or3 tA tB') :=
  (pw_or ha hb).imp fun σ H Q ⟨T, M, s, Q3, S0, R, S, q, k⟩ => ⟨T, M, s, _, S0, R, S, q, fun c T1 H1 M1 s1 R1 q1 => by
    cases c with
    | false => exact iteF ⟨T1, M1, s, Q3, S0.trans s1, R1, S.mono s1, by simpa using q1, fun b T2 H2 M2 s2 R2 q2 => k b T2 H2 M2 (s1.trans s2) R2 q2⟩
    | true => exact iteT (k true T1 H1 M1 s1 R1 (by simpa using q1))⟩
theorem qt_not (ha : QT X T0 a tA) : QT X T0 (.UnaryOp .Not a pos) (not3 tA) :=
  (pt_not ha).imp fun σ H Q ⟨T, M, s, Q3, S0, R, S, q, k⟩ => ⟨T, M, s, _, S0, R, S, q, fun c T1 H1 M1 s1 R1 q1 => k (!c) T1 H1 M1 s1 R1 q1⟩
/-! ### as values: all but the last are bools -/
def andV3 (ta tb : E3) : E3 := fun s M Q => ta s M fun d M1 => ∃ c, d = .bl c ∧ if c = true then tb s M1 Q else Q (.bl false) M1
def orV3 (ta tb : E3) : E3 := fun s M Q => ta s M fun d M1 => ∃ c, d = .bl c ∧ if c = true then Q (.bl true) M1 else tb s M1 Q
def notV3 (ta : E3) : E3 := fun s M Q => ta s M fun d M1 => ∃ c, d = .bl c ∧ Q (.bl (!c)) M1
theorem q_one {op} (h : QE X T0 a ta) : QE X T0 (.BoolOp op [a] pos) ta := pe_one h
theorem q_and (ha : QE X T0 a ta) (hb : QE X T0 (.BoolOp .And (b :: rest) pos) tb) : QE X T0 (.BoolOp .And (a :: b :: rest) pos) (andV3 ta tb) :=
  (pe_and ha hb).imp fun σ H Q ⟨T, M, s, Q3, S0, R, S, q, k⟩ => ⟨T, M, s, _, S0, R, S, q, fun v H1 ⟨T1, M1, d, s1, R1, r1, c, e1, q1⟩ => by
    subst e1
    refine ⟨c, relBl r1, ?_⟩
    cases c with
    | true => exact iteT ⟨T1, M1, s, Q3, S0.trans s1, R1, S.mono s1, by simpa using q1, fun v2 H2 l => k v2 H2 (l.mono s1)⟩
    | false => exact iteF (k _ _ ⟨T1, M1, _, s1, R1, blRel, by simpa using q1⟩)⟩
theorem q_or (ha : QE X T0 a ta) (hb : QE X T0 (.BoolOp .Or (b :: rest) pos) tb) : QE X T0 (.BoolOp .Or (a :: b :: rest) pos) (orV3 ta tb) :=
  (pe_or ha hb).imp fun σ H Q ⟨T, M, s, Q3, S0, R, S, q, k⟩ => ⟨T, M, s, _, S0, R, S, q, fun v H1 ⟨T1, M1, d, s1, R1, r1, c, e1, q1⟩ => by
    subst e1
    refine ⟨c, relBl r1, ?_⟩
    cases c with
    | false => exact iteF ⟨T1, M1, s, Q3, S0.trans s1, R1, S.mono s1, by simpa using q1, fun v2 H2 l => k v2 H2 (l.mono s1)⟩
    | true => exact iteT (k _ _ ⟨T1, M1, _, s1, R1, blRel, by simpa using q1⟩)⟩
theorem q_not (ha : QE X T0 a ta) : QE X T0 (.UnaryOp .Not a pos) (notV3 ta) :=
  (pe_not ha).imp fun σ H Q ⟨T, M, s, Q3, S0, R, S, q, k⟩ => ⟨T, M, s, _, S0, R, S, q, fun v H1 ⟨T1, M1, d, s1, R1, r1, c, e1, q1⟩ => by
    subst e1
    exact ⟨c, relBl r1, k _ _ ⟨T1, M1, _, s1, R1, blRel, q1⟩⟩⟩
def if3 (t : B3) (ta tb : E3) : E3 := fun s M Q => t s M fun c M1 => if c = true then ta s M1 Q else tb s M1 Q
theorem q_ifExp (hc : QT X T0 c tA) (ha : QE X T0 a ta) (hb : QE X T0 b tb) : QE X T0 (.IfExp c a b pos) (if3 tA ta tb) :=
  (pe_ifExp hc ha hb).imp fun σ H Q ⟨T, M, s, Q3, S0, R, S, q, k⟩ => ⟨T, M, s, _, S0, R, S, q, fun c T1 H1 M1 s1 R1 q1 => by
    cases c with
    | true => exact iteT ⟨T1, M1, s, Q3, S0.trans s1, R1, S.mono s1, by simpa using q1, fun v2 H2 l => k v2 H2 (l.mono s1)⟩
    | false => exact iteF ⟨T1, M1, s, Q3, S0.trans s1, R1, S.mono s1, by simpa using q1, fun v2 H2 l => k v2 H2 (l.mono s1)⟩⟩

/-! ### subscripts -/
def ix3 : O3
  | .tup ds, .int i, M, Q => ∃ d, atI ds i = some d ∧ Q d M
  | .ref a, .int i, M, Q => ∃ ds d, LstAt M a ds ∧ atI ds i = some d ∧ Q d M
  | .str z, .int i, M, Q => z.length ≤ sizeLine ∧ ∃ c, atI z.cps.toList i = some c ∧ Q (.str ⟨#[c]⟩) M
  | _, _, _, _ => False
theorem RelDs.atI {K : PySem.W.Frag} {T : Tm} {ds : List D} {xs : List V} {i : Int} {d : D} (r : RelDs K T ds xs) (h : L2.atI ds i = some d) : ∃ v, L2.atI xs i = some v ∧ RelD K T d v := by
  unfold L2.atI at h ⊢
  rw [← r.length]
  cases e : ixN ds.length i with
  | none => rw [e] at h; simp at h
  | some j =>
    rw [e] at h
    simp only [Option.bind_some] at h ⊢
    exact r.get h
theorem q_ix (ha : QE X T0 a ta) (hb : QE X T0 b tb) (hs : PlainIx b) : QE X T0 (.Subscript a b pos) (bin3 ix3 ta tb) :=
  (pe_ix ix_seq ha hb hs).imp fun σ H Q ⟨T, M, s, Q3, S0, R, S, q, k⟩ => ⟨T, M, s, _, S0, R, S, q, fun v H1 ⟨T1, M1, d, s1, R1, r1, q1⟩ => ⟨T1, M1, s, _, S0.trans s1, R1, S.mono s1, q1, fun v2 H2 l2 => by
    obtain ⟨T2, M2, d2, s2, R2, r2, q2⟩ := l2
    have k' : ∀ {v : V} {d : D}, RelD X.K T2 d v → Q3 d M2 → Q v H2 := fun r q => k _ _ ⟨T2, M2, _, s1.trans s2, R2, r, q⟩
    have r1' := r1.mono s2
    cases d <;> cases d2 <;> simp only [ix3] at q2
    case tup.int ds i =>
      obtain ⟨d, h1, q⟩ := q2
      obtain ⟨p, xs, e1, g, q1⟩ := R2.sqT r1'
      obtain ⟨w, h2, rw'⟩ := q1.atI h1
      exact .inr (.inl ⟨p, xs, i, w, e1, relInt r2, g, h2, k' rw' q⟩)
    case ref.int p i =>
      obtain ⟨ds, d, hl, h1, q⟩ := q2
      obtain ⟨xs, g, q1⟩ := R2.sqL hl
      obtain ⟨w, h2, rw'⟩ := q1.atI h1
      exact .inl ⟨p, xs, i, w, relRef r1', relInt r2, g, h2, k' rw' q⟩
    case str.int z i =>
      obtain ⟨hz, c, h1, q⟩ := q2
      exact .inr (.inr ⟨z, i, c, relStr r1', relInt r2, hz, h1, k' strRel q⟩)⟩⟩
/-! ### slices -/
abbrev P3 := StD → HM → (Option Int → HM → Prop) → Prop
def noP3 : P3 := fun _ M Q => Q none M
def part3 (t : E3) : P3 := fun s M Q => t s M fun d M1 => ∃ i, d = .int i ∧ Q (some i) M1
def upP (K : PySem.W.Frag) (T0 : Tm) (t : P3) : TO := fun σ H Q => ∃ T M s Q3, Sub T0 T ∧ Rep K T H M ∧ RelSt K T s σ ∧ t s M Q3 ∧ ∀ o T' H' M', Sub T T' → Rep K T' H' M' → Q3 o M' → Q o H'
abbrev QP (X : Cx) (T0 : Tm) (e : Option Expr) (t : P3) : Prop := PO X e (upP X.K T0 t)
theorem _root_.L2.PO.imp {X : Cx} {e : Option Expr} {t t' : TO} (h : PO X e t) (i : ∀ σ H Q, t' σ H Q → t σ H Q) : PO X e t' := ⟨fun pins s σ H Q I q => h.run pins s σ H Q I (i _ _ _ q)⟩
theorem qp_none : QP X T0 none noP3 := po_none.imp fun σ H Q ⟨T, M, s, Q3, S0, R, S, q, k⟩ => k none T H M (Sub.refl T) R q
theorem qp_some (h : QE X T0 a ta) : QP X T0 (some a) (part3 ta) :=
  (po_some h).imp fun σ H Q ⟨T, M, s, Q3, S0, R, S, q, k⟩ => ⟨T, M, s, _, S0, R, S, q, fun v H1 ⟨T1, M1, d, s1, R1, r1, i, e1, q1⟩ => by
    subst e1
    exact ⟨i, relInt r1, k _ T1 H1 M1 s1 R1 q1⟩⟩
/-- the slice of a list of anything -/
def cut3 {α : Type} (xs : List α) (lo hi : Option Int) : List α := (xs.drop (HT.sIx xs.length 0 lo)).take (HT.sIx xs.length xs.length hi - HT.sIx xs.length 0 lo)
def sl3 : D → Option Int → Option Int → HM → K3 → Prop
  | .tup ds, lo, hi, M, Q => Q (.tup (cut3 ds lo hi)) M
  | .ref a, lo, hi, M, Q => ∃ ds, LstAt M a ds ∧ ∀ p, M p = none → Q (.ref p) (mup M p (.lst (cut3 ds lo hi)))
  | .str z, lo, hi, M, Q => z.length ≤ sizeLine ∧ Q (.str (cutS z lo hi)) M
  | _, _, _, _, _ => False
def slice3 (ta : E3) (tl th : P3) : E3 := fun s M Q => ta s M fun d M1 => tl s M1 fun l M2 => th s M2 fun u M3 => sl3 d l u M3 Q
theorem RelDs.cut {K : PySem.W.Frag} {T : Tm} {ds : List D} {xs : List V} (r : RelDs K T ds xs) (lo hi : Option Int) : RelDs K T (cut3 ds lo hi) (cutV xs lo hi) := by
  unfold cut3 cutV
  rw [r.length]
  exact (r.drop _).take _
theorem q_slice {lo hi : Option Expr} {tl th : P3} {p2 : Pos} (ha : QE X T0 a ta) (hl : QP X T0 lo tl) (hh : QP X T0 hi th) : QE X T0 (.Subscript a (.Slice lo hi none p2) pos) (slice3 ta tl th) :=
  (pe_slice ((sl_list.or sl_tupA).or sl_str) ha hl hh).imp fun σ H Q ⟨T, M, s, Q3, S0, R, S, q, k⟩ => ⟨T, M, s, _, S0, R, S, q, fun v H1 ⟨T1, M1, d, s1, R1, r1, q1⟩ =>
    ⟨T1, M1, s, _, S0.trans s1, R1, S.mono s1, q1, fun l T2 H2 M2 s2 R2 q2 => ⟨T2, M2, s, _, (S0.trans s1).trans s2, R2, S.mono (s1.trans s2), q2, fun u T3 H3 M3 s3 R3 q3 => by
      have sub := (s1.trans s2).trans s3
      have r1' := r1.mono (s2.trans s3)
      cases d <;> simp only [sl3] at q3
      case tup ds =>
        obtain ⟨p, xs, rfl, g, q1⟩ := R3.sqT r1'
        have rc := q1.cut l u
        refine .inl (.inr ⟨p, xs, rfl, g, fun hw => ?_, fun _ p' hp => k _ _ ⟨tput T3 p' _, M3, _, sub.trans (Sub.put (R3.noT hp)), R3.newTup hp, RelD.tupOf tput_same (rc.mono (Sub.put (R3.noT hp))), q3⟩⟩)
        have e0 : cut3 ds l u = ds := by
          unfold cut3
          rw [q1.length, hw.1, hw.2, List.drop_zero, Nat.sub_zero, ← q1.length, List.take_length]
        rw [e0] at q3
        exact k _ _ ⟨T3, M3, _, sub, R3, r1', q3⟩
      case ref p =>
        obtain ⟨ds, hl, q⟩ := q3
        cases relRef r1'
        obtain ⟨xs, g, q1⟩ := R3.sqL hl
        exact .inl (.inl ⟨p, xs, rfl, g, fun p' hp => k _ _ ⟨T3, _, .ref p', sub, R3.newLst hp (q1.cut l u), refRel, q p' (R3.noM hp)⟩⟩)
      case str z =>
        exact .inr ⟨z, relStr r1', q3.1, k _ _ ⟨T3, M3, _, sub, R3, strRel, q3.2⟩⟩⟩⟩⟩
end
end L3
end

section
set_option Elab.async false
set_option linter.all false
set_option maxRecDepth 100000
set_option maxHeartbeats 400000
/-! L3f: statements, targets, loops, list comprehensions, defs and their calls. -/
namespace L3
open PySem PySem.Spec PyProof.Rows L2

section
variable {X : Cx} {T0 : Tm} {a b c e tg iter : Expr} {es : List Expr} {ta tb te : E3} {tA : B3} {ts : A3} {pos : Pos} {st : Stmt} {rest body : List Stmt} {t u : S3} {g : G3}
/-! ### blocks, small statements -/
def next3 : S3 := fun D s M => D.nx s M
def seq3 (t u : S3) : S3 := fun D s M => t { D with nx := u D } s M
theorem qss_nil : QSs X T0 [] next3 := pss_nil.imp fun D σ H ⟨T, M, s, D3, S0, R, S, q, U⟩ => U.nx _ _ (liftS.of R S q)
theorem qss_cons (h1 : QS X T0 st t) (h2 : QSs X T0 rest u) : QSs X T0 (st :: rest) (seq3 t u) :=
  (pss_cons h1 h2).imp fun D σ H ⟨T, M, s, D3, S0, R, S, q, U⟩ => ⟨T, M, s, { D3 with nx := u D3 }, S0, R, S, q, fun σ' H' ⟨T1, M1, s1, sub, R1, S1, q1⟩ => ⟨T1, M1, s1, D3, S0.trans sub, R1, S1, q1, U.mono sub⟩, U.rt, U.bk, U.ct⟩
theorem qss_one (h1 : QS X T0 st t) : QSs X T0 [st] t := pss_one h1
theorem q_pass : QS X T0 (.Pass pos) next3 := ps_pass.imp fun D σ H ⟨T, M, s, D3, S0, R, S, q, U⟩ => U.nx _ _ (liftS.of R S q)
def brk3 : S3 := fun D s M => D.bk s M
def cont3 : S3 := fun D s M => D.ct s M
theorem q_break : QS X T0 (.Break pos) brk3 := ps_break.imp fun D σ H ⟨T, M, s, D3, S0, R, S, q, U⟩ => U.bk _ _ (liftS.of R S q)
theorem q_continue : QS X T0 (.Continue pos) cont3 := ps_continue.imp fun D σ H ⟨T, M, s, D3, S0, R, S, q, U⟩ => U.ct _ _ (liftS.of R S q)
def drop3 (t : E3) : S3 := fun D s M => t s M fun _ M1 => D.nx s M1
theorem q_expr (h : QE X T0 e te) (hs : swapsWith e none pos.line X.env = pure false) : QS X T0 (.Expr e pos) (drop3 te) :=
  (ps_expr h hs).imp fun D σ H ⟨T, M, s, D3, S0, R, S, q, U⟩ => ⟨T, M, s, _, S0, R, S, q, fun v H1 ⟨T1, M1, d, s1, R1, r1, q1⟩ => U.nx _ _ ⟨T1, M1, s, s1, R1, S.mono s1, q1⟩⟩
def ret3 (t : E3) : S3 := fun D s M => t s M D.rt
theorem q_ret (h : QE X T0 e te) : QS X T0 (.Return (some e) pos) (ret3 te) :=
  (ps_ret h).imp fun D σ H ⟨T, M, s, D3, S0, R, S, q, U⟩ => ⟨T, M, s, D3.rt, S0, R, S, q, U.rt⟩
def retN3 : S3 := fun D _ M => D.rt .non M
theorem q_retN : QS X T0 (.Return none pos) retN3 := ps_retN.imp fun D σ H ⟨T, M, s, D3, S0, R, S, q, U⟩ => U.rt _ _ (lift3.of R nonRel q)
def ifS3 (c : B3) (t u : S3) : S3 := fun D s M => c s M fun b M1 => if b = true then t D s M1 else u D s M1
theorem q_if {xs ys : List Stmt} (hc : QT X T0 c tA) (ha : QSs X T0 xs t) (hb : QSs X T0 ys u) : QS X T0 (.If c xs ys pos) (ifS3 tA t u) :=
  (ps_if hc ha hb).imp fun D σ H ⟨T, M, s, D3, S0, R, S, q, U⟩ => ⟨T, M, s, _, S0, R, S, q, fun b T1 H1 M1 s1 R1 q1 => by
    cases b with
    | true => exact iteT ⟨T1, M1, s, D3, S0.trans s1, R1, S.mono s1, by simpa using q1, U.mono s1⟩
    | false => exact iteF ⟨T1, M1, s, D3, S0.trans s1, R1, S.mono s1, by simpa using q1, U.mono s1⟩⟩
/-! ### targets, assignments -/
def name3 (i : Nat) : G3 := fun d s M Q => Q (s.set i (some d)) M
theorem qg_name {i : Nat} {x : Str} (hN : X.N.Nodup) (hi : X.N[i]? = some x) (hx : Loc X.env.scope x) (hf : X.fn x = true ∨ X.env.scope.names.lookup x = some .local) : QG X T0 (.Name x pos) (name3 i) :=
  (pg_name hN hi hx hf).imp fun v σ H Q ⟨T, M, s, d, Q3, S0, R, S, r, q, k⟩ => k _ _ ⟨T, M, _, Sub.refl T, R, S.set r i, q⟩
abbrev Gs3 := List D → StD → HM → (StD → HM → Prop) → Prop
def upGs (K : PySem.W.Frag) (T0 : Tm) (g : Gs3) : TGs := fun vs σ H Q => ∃ T M s ds Q3, Sub T0 T ∧ Rep K T H M ∧ RelSt K T s σ ∧ RelDs K T ds vs ∧ g ds s M Q3 ∧ ∀ σ' H', liftS K T Q3 σ' H' → Q σ' H'
theorem _root_.L2.PGs.imp {X : Cx} {es : List Expr} {t t' : TGs} (h : PGs X es t) (i : ∀ v σ H Q, t' v σ H Q → t v σ H Q) : PGs X es t' := ⟨fun pins s σ H v u Q I r q => h.run pins s σ H v u Q I r (i _ _ _ _ q)⟩
abbrev QGs (X : Cx) (T0 : Tm) (es : List Expr) (g : Gs3) : Prop := PGs X es (upGs X.K T0 g)
def gnil3 : Gs3 := fun ds s M Q => ds = [] ∧ Q s M
def gcons3 (g : G3) (gs : Gs3) : Gs3 := fun ds s M Q => ∃ d r, ds = d :: r ∧ g d s M fun s1 M1 => gs r s1 M1 Q
theorem qgs_nil : QGs X T0 [] gnil3 := pgs_nil.imp fun vs σ H Q ⟨T, M, s, ds, Q3, S0, R, S, r, ⟨e, q⟩, k⟩ => by
  subst e
  simp only [RelDs] at r
  exact ⟨r, k _ _ (liftS.of R S q)⟩
theorem qgs_cons {gs : Gs3} (h1 : QG X T0 e g) (h2 : QGs X T0 es gs) (hs : (assignEach (e :: es) X.env).map (·.2) = assign e X.env :: (assignEach es X.env).map (·.2)) : QGs X T0 (e :: es) (gcons3 g gs) :=
  (pgs_cons h1 h2 hs).imp fun vs σ H Q ⟨T, M, s, ds, Q3, S0, R, S, r, ⟨d, ds', e, q⟩, k⟩ => by
    subst e
    simp only [RelDs] at r
    obtain ⟨v, w, rfl, r1, r2⟩ := r
    exact ⟨v, w, rfl, T, M, s, d, _, S0, R, S, r1, q, fun σ1 H1 ⟨T1, M1, s1, sub, R1, S1, q1⟩ => ⟨T1, M1, s1, ds', Q3, S0.trans sub, R1, S1, r2.mono sub, q1, fun σ2 H2 l => k _ _ (l.mono sub)⟩⟩
def gtup3 (n : Nat) (gs : Gs3) : G3 := fun d s M Q => ∃ ds, d = .tup ds ∧ ds.length = n ∧ gs ds s M Q
theorem qg_tup {k : Nat} {gs : Gs3} {n : Nat} (hc : X.calm = true) (h : QGs X T0 es gs) (hn : (assignEach es X.env).length = n) (hst : (assignEach es X.env).findIdx? (·.1) = none) : QG X T0 (.Tuple es k pos) (gtup3 n gs) :=
  (pg_tup hc h hn hst).imp fun v σ H Q ⟨T, M, s, d, Q3, S0, R, S, r, ⟨ds, e, hl, q⟩, k⟩ => by
    subst e
    obtain ⟨p, xs, rfl, g, r2⟩ := R.sqT r
    exact ⟨p, xs, rfl, g, by rw [← r2.length]; exact hl, T, M, s, ds, Q3, S0, R, S, r2, q, k⟩
/-- o[i] = .. -/
abbrev Set3 := D → D → D → HM → (HM → Prop) → Prop
def upSet (K : PySem.W.Frag) (T0 : Tm) (r : Set3) : TSet := fun o i v H Q => ∃ T M d e f Q3, Sub T0 T ∧ Rep K T H M ∧ RelD K T d o ∧ RelD K T e i ∧ RelD K T f v ∧ r d e f M Q3 ∧ ∀ T' H' M', Sub T T' → Rep K T' H' M' → Q3 M' → Q H'
def gsub3 (to ti : E3) (r : Set3) : G3 := fun v s M Q => to s M fun o M1 => ti s M1 fun i M2 => r o i v M2 fun M3 => Q s M3
theorem qg_sub {o i : Expr} {to ti : E3} {r : Set3} (ho : QE X T0 o to) (hi : QE X T0 i ti) (hs : PSet X (upSet X.K T0 r))
    (ha : ∀ v, assign (.Subscript o i pos) X.env v = (do
      let ov ← holding [v] (eval o X.env)
      let iv ← holding [v, ov] (eval i X.env)
      standAt pos
      holding [v, ov, iv] (setItem ov iv v)
      release [v, ov, iv] []) := by intro _; rfl) : QG X T0 (.Subscript o i pos) (gsub3 to ti r) :=
  (pg_sub ho hi hs ha).imp fun v σ H Q ⟨T, M, s, d, Q3, S0, R, S, rd, q, k⟩ => ⟨T, M, s, _, S0, R, S, q, fun x1 H1 ⟨T1, M1, d1, s1, R1, r1, q1⟩ => ⟨T1, M1, s, _, S0.trans s1, R1, S.mono s1, q1, fun x2 H2 ⟨T2, M2, d2, s2, R2, r2, q2⟩ =>
    ⟨T2, M2, d1, d2, d, _, (S0.trans s1).trans s2, R2, r1.mono s2, r2, rd.mono (s1.trans s2), q2, fun T3 H3 M3 s3 R3 q3 => k _ _ ⟨T3, M3, s, (s1.trans s2).trans s3, R3, S.mono ((s1.trans s2).trans s3), q3⟩⟩⟩⟩
/-- xs[i] = v -/
def setL3 : Set3
  | .ref a, .int i, d, M, Q => ∃ ds j, M a = some (.lst ds) ∧ ixN ds.length i = some j ∧ Q (mup M a (.lst (ds.set j d)))
  | _, _, _, _, _ => False
theorem set_list3 : PSet X (upSet X.K T0 setL3) := by
  intro pins s σ H o i v ov iv u Q I ro ri rv ⟨T, M, d, e, f, Q3, S0, R, r1, r2, r3, h, k⟩
  cases d <;> cases e <;> simp only [setL3] at h
  obtain ⟨ds, j, h1, h2, q⟩ := h
  obtain ⟨xs, g, rx⟩ := R.obj_lst h1
  exact set_list pins s σ H o i v ov iv u Q I ro ri rv ⟨_, xs, _, j, relRef r1, relInt r2, g, by rw [← rx.length]; exact h2, k T _ _ (Sub.refl T) (R.setLst h1 g (rx.set j r3)) q⟩
def asg3 (te : E3) (g : G3) : S3 := fun D s M => te s M fun d M1 => g d s M1 D.nx
theorem q_asg (he : QE X T0 e te) (hg : QG X T0 tg g) (hs : swapsWithSole [tg] e pos.line X.env = pure false) (hw : swappedStores [tg] e X.env = pure none)
    (h1 : (assignEach [tg] X.env).map (·.2) = [assign tg X.env]) : QS X T0 (.Assign [tg] e pos) (asg3 te g) :=
  (ps_asg he hg hs hw h1).imp fun D σ H ⟨T, M, s, D3, S0, R, S, q, U⟩ => ⟨T, M, s, _, S0, R, S, q, fun v H1 ⟨T1, M1, d, s1, R1, r1, q1⟩ => ⟨T1, M1, s, d, D3.nx, S0.trans s1, R1, S.mono s1, r1, q1, fun σ' H' l => U.nx _ _ (l.mono s1)⟩⟩
def set3 (te : E3) (i : Nat) : S3 := fun D s M => te s M fun d M1 => D.nx (s.set i (some d)) M1
theorem q_set {i : Nat} {x : Str} {pos' : Pos} (hN : X.N.Nodup) (hi : X.N[i]? = some x) (hx : Loc X.env.scope x) (he : QE X T0 e te) (hs : swapsWith e (some (.Name x pos')) pos.line X.env = pure false) (hf : X.fn x = true ∨ X.env.scope.names.lookup x = some .local) :
    QS X T0 (.Assign [.Name x pos'] e pos) (set3 te i) :=
  (ps_set hN hi hx he hs hf).imp fun D σ H ⟨T, M, s, D3, S0, R, S, q, U⟩ => ⟨T, M, s, _, S0, R, S, q, fun v H1 ⟨T1, M1, d, s1, R1, r1, q1⟩ => U.nx _ _ ⟨T1, M1, _, s1, R1, (S.mono s1).set r1 i, q1⟩⟩
/-- x, y = a, b -/
def par3 (i j : Nat) (ts : A3) : S3 := fun D s M => ts s M fun ds M1 => ∃ d e, ds = [d, e] ∧ D.nx ((s.set i (some d)).set j (some e)) M1
theorem q_par {i j : Nat} {x y : Str} {px py pt : Pos} {kt k2 pt2} (hc : X.calm = true) (hN : X.N.Nodup) (hi : X.N[i]? = some x) (hj : X.N[j]? = some y) (hij : i ≠ j)
    (hx : X.env.scope.names.lookup x = some .local) (hy : X.env.scope.names.lookup y = some .local) (ha : QA X T0 [a, b] ts)
    (hw : swappedStores [.Tuple [.Name x px, .Name y py] kt pt] (.Tuple [a, b] k2 pt2) X.env = pure (some [x, y]))
    (hs : swapsWithSole [.Tuple [.Name x px, .Name y py] kt pt] (.Tuple [a, b] k2 pt2) pos.line X.env = pure false) :
    QS X T0 (.Assign [.Tuple [.Name x px, .Name y py] kt pt] (.Tuple [a, b] k2 pt2) pos) (par3 i j ts) :=
  (ps_par hc hN hi hj hij hx hy ha hw hs).imp fun D σ H ⟨T, M, s, D3, S0, R, S, q, U⟩ => ⟨T, M, s, _, S0, R, S, q, fun T1 H1 M1 ds vs s1 R1 r1 ⟨d, e, e1, q1⟩ => by
    subst e1
    simp only [RelDs] at r1
    obtain ⟨v, w1, rfl, ra, w2, w3, rfl, rb, rfl⟩ := r1
    exact ⟨v, w2, rfl, U.nx _ _ ⟨T1, M1, _, s1, R1, ((S.mono s1).set ra i).set rb j, q1⟩⟩⟩
/-- x op= e -/
def upIp (K : PySem.W.Frag) (T0 : Tm) (r : O3) : TIp := upO K T0 r
def aug3 (i : Nat) (te : E3) (r : O3) : S3 := fun D s M => ∃ x, s[i]? = some (some x) ∧ te s M fun d M1 => r x d M1 fun z M2 => D.nx (s.set i (some z)) M2
theorem q_aug {i : Nat} {x : Str} {op : Operator} {r : O3} {pos' : Pos} (hN : X.N.Nodup) (hi : X.N[i]? = some x) (hx : Loc X.env.scope x) (he : QE X T0 e te) (ho : PIp X op (upIp X.K T0 r)) (hf : X.fn x = true ∨ X.env.scope.names.lookup x = some .local) :
    QS X T0 (.AugAssign (.Name x pos') op e pos) (aug3 i te r) :=
  (ps_aug hN hi hx he ho hf).imp fun D σ H ⟨T, M, s, D3, S0, R, S, ⟨d, e1, q⟩, U⟩ => by
    obtain ⟨v, h1, r1⟩ := S.get e1
    exact ⟨v, h1, T, M, s, _, S0, R, S, q, fun w H1 ⟨T1, M1, d2, s1, R1, r2, q1⟩ => ⟨T1, M1, d, d2, _, S0.trans s1, R1, r1.mono s1, r2, q1, fun z H2 ⟨T2, M2, d3, s2, R2, r3, q2⟩ => U.nx _ _ ⟨T2, M2, _, s1.trans s2, R2, (S.mono (s1.trans s2)).set r3 i, q2⟩⟩⟩
theorem ip_add3 : PIp X .Add (upIp X.K T0 fun d e M Q => ∃ i j, d = .int i ∧ e = .int j ∧ Q (.int (i + j)) M) := by
  intro pins s σ H x y v u Q I rx ry ⟨T, M, d, e, Q3, S0, R, r1, r2, ⟨i, j, e1, e2, q⟩, k⟩
  subst e1 e2
  exact ip_add pins s σ H x y v u Q I rx ry ⟨i, j, relInt r1, relInt r2, k _ _ (lift3.of R intRel q)⟩

/-! ### what a loop walks -/
structure ItD (K : PySem.W.Frag) (T1 : Tm) (J : It) (ds : List D) (stays : HM → Prop) : Prop where
  go : ∀ i H T M, Sub T1 T → Rep K T H M → stays M → i < ds.length → J.go i H
  stop : ∀ i H T M, Sub T1 T → Rep K T H M → stays M → ds.length ≤ i → J.stop i H
  yld : ∀ i H T M x H', Sub T1 T → Rep K T H M → stays M → i < ds.length → J.yld i H x H' → ∃ T' d, Sub T T' ∧ Rep K T' H' M ∧ ds[i]? = some d ∧ RelD K T' d x
abbrev I3 := StD → HM → (List D → (HM → Prop) → HM → Prop) → Prop
def upI (K : PySem.W.Frag) (T0 : Tm) (t : I3) : TI := fun σ H R => ∃ T M s R3, Sub T0 T ∧ Rep K T H M ∧ RelSt K T s σ ∧ t s M R3 ∧ ∀ J H1 T1 M1 ds stays, Sub T T1 → Rep K T1 H1 M1 → ItD K T1 J ds stays → R3 ds stays M1 → R J H1
abbrev QI (X : Cx) (T0 : Tm) (tg iter : Expr) (t : I3) : Prop := PI X tg iter (upI X.K T0 t)
theorem _root_.L2.PI.imp {X : Cx} {tg iter : Expr} {t t' : TI} (h : PI X tg iter t) (i : ∀ σ H R, t' σ H R → t σ H R) : PI X tg iter t' := ⟨fun pins s σ H R I q => h.run pins s σ H R I (i _ _ _ q)⟩
/-- a list -/
def ilst3 (t : E3) : I3 := fun s M R => t s M fun d M1 => ∃ a ds, d = .ref a ∧ LstAt M1 a ds ∧ R ds (fun M => LstAt M a ds) M1
theorem itd_list {K : PySem.W.Frag} {T1 : Tm} {a : Addr} {ds : List D} : ItD K T1 (Itl K a) ds (fun M => LstAt M a ds) := by
  refine ⟨fun i H T M s R h hi => ?_, fun i H T M s R h hi => ?_, fun i H T M x H' s R h hi y => ?_⟩ <;> obtain ⟨xs, g, r⟩ := R.sqL h
  · obtain ⟨v, e, _⟩ := r.get (List.getElem?_eq_getElem hi)
    exact ⟨xs, v, g, e⟩
  · exact ⟨xs, g, by rw [← r.length]; exact hi⟩
  · obtain ⟨e, y⟩ := y
    subst e
    obtain ⟨d, e1, rd⟩ := r.getV (y xs g)
    exact ⟨T, d, Sub.refl T, R, e1, rd⟩
theorem qi_list (h : QE X T0 e te) : QI X T0 tg e (ilst3 te) :=
  (pi_list h).imp fun σ H R ⟨T, M, s, R3, S0, Rp, S, q, k⟩ => ⟨T, M, s, _, S0, Rp, S, q, fun v H1 ⟨T1, M1, d, s1, R1, r1, a, ds, e1, hl, q1⟩ => by
    subst e1
    obtain ⟨xs, g, _⟩ := R1.sqL hl
    exact ⟨a, relRef r1, ⟨xs, g⟩, k _ _ T1 M1 ds _ s1 R1 itd_list q1⟩⟩
/-- a tuple -/
def itup3 (t : E3) : I3 := fun s M R => t s M fun d M1 => ∃ ds, d = .tup ds ∧ R ds (fun _ => True) M1
theorem itd_tup {K : PySem.W.Frag} {T1 : Tm} {a : Addr} {ds : List D} (h : RelD K T1 (.tup ds) (.ref a)) : ItD K T1 (Itt K a) ds (fun _ => True) := by
  refine ⟨fun i H T M s R _ hi => ?_, fun i H T M s R _ hi => ?_, fun i H T M x H' s R _ hi y => ?_⟩ <;> (obtain ⟨p, xs, e0, g, r⟩ := R.sqT (h.mono s); cases e0)
  · obtain ⟨v, e, _⟩ := r.get (List.getElem?_eq_getElem hi)
    exact ⟨xs, v, g, e⟩
  · exact ⟨xs, g, by rw [← r.length]; exact hi⟩
  · obtain ⟨e, y⟩ := y
    subst e
    obtain ⟨d, e1, rd⟩ := r.getV (y xs g)
    exact ⟨T, d, Sub.refl T, R, e1, rd⟩
theorem qi_tup (h : QE X T0 e te) : QI X T0 tg e (itup3 te) :=
  (pi_tup h).imp fun σ H R ⟨T, M, s, R3, S0, Rp, S, q, k⟩ => ⟨T, M, s, _, S0, Rp, S, q, fun v H1 ⟨T1, M1, d, s1, R1, r1, ds, e1, q1⟩ => by
    subst e1
    obtain ⟨p, xs, rfl, g, r⟩ := R1.sqT r1
    exact ⟨p, rfl, ⟨xs, g⟩, k _ _ T1 M1 ds _ s1 R1 (itd_tup r1) q1⟩⟩
/-- a text, sign by sign -/
def signs (z : Str) : List D := z.cps.toList.map fun c => .str ⟨#[c]⟩
def istr3 (t : E3) : I3 := fun s M R => t s M fun d M1 => ∃ z, d = .str z ∧ R (signs z) (fun _ => True) M1
theorem itd_str {K : PySem.W.Frag} {T1 : Tm} {z : Str} : ItD K T1 (Its z) (signs z) (fun _ => True) := by
  have hl : (signs z).length = z.cps.size := by simp [signs]
  refine ⟨fun i H T M s R _ hi => by rw [hl] at hi; exact hi, fun i H T M s R _ hi => by rw [hl] at hi; exact hi, fun i H T M x H' s R _ hi y => ?_⟩
  obtain ⟨e, c, e1, e2⟩ := y
  subst e e2
  exact ⟨T, .str ⟨#[c]⟩, Sub.refl T, R, by simp [signs, e1], strRel⟩
theorem qi_str (h : QE X T0 e te) : QI X T0 tg e (istr3 te) :=
  (pi_str h).imp fun σ H R ⟨T, M, s, R3, S0, Rp, S, q, k⟩ => ⟨T, M, s, _, S0, Rp, S, q, fun v H1 ⟨T1, M1, d, s1, R1, r1, z, e1, q1⟩ => by
    subst e1
    exact ⟨z, relStr r1, k _ _ T1 M1 _ _ s1 R1 itd_str q1⟩⟩
/-- range(n), range(i, j) -/
def rng3 (lo : Int) (n : Nat) : List D := (List.range n).map fun (i : Nat) => .int (lo + (i : Int))
theorem itd_rng {K : PySem.W.Frag} {T1 : Tm} {lo : Int} {n : Nat} : ItD K T1 (Itr lo n) (rng3 lo n) (fun _ => True) := by
  have hl : (rng3 lo n).length = n := by simp [rng3]
  refine ⟨fun i H T M s R _ hi => by rw [hl] at hi; exact hi, fun i H T M s R _ hi => by rw [hl] at hi; exact hi, fun i H T M x H' s R _ hi y => ?_⟩
  obtain ⟨e, e1⟩ := y
  subst e e1
  rw [hl] at hi
  exact ⟨T, .int (lo + i), Sub.refl T, R, by simp [rng3, hi], intRel⟩
def irng3 (t : A3) : I3 := fun s M R => t s M fun ds M1 =>
  (∃ j : Int, ds = [.int j] ∧ -(2 ^ 62) ≤ j ∧ j < 2 ^ 62 ∧ R (rng3 0 j.toNat) (fun _ => True) M1)
theorem qi_range1 {p : Pos} (hg : Gl X "range") (hm : X.mg "range" = none) (ha : QA X T0 [a] ts) (hs : starEach [a] X.env = [(false, eval a X.env)]) : QI X T0 tg (.Call (.Name "range" p) [a] [] pos) (irng3 ts) :=
  (pi_range1 hg hm ha hs).imp fun σ H R ⟨T, M, s, R3, S0, Rp, S, q, k⟩ => ⟨T, M, s, _, S0, Rp, S, q, fun T1 H1 M1 ds vs s1 R1 r1 ⟨j, e1, h1, h2, q1⟩ => by
    subst e1
    simp only [RelDs] at r1
    obtain ⟨v, w, rfl, r1, rfl⟩ := r1
    exact ⟨j, by rw [relInt r1], h1, h2, k _ _ T1 M1 _ _ s1 R1 itd_rng q1⟩⟩
def irng32 (t : A3) : I3 := fun s M R => t s M fun ds M1 =>
  (∃ i j : Int, ds = [.int i, .int j] ∧ (-(2 ^ 62) ≤ i ∧ i < 2 ^ 62 ∧ -(2 ^ 62) ≤ j ∧ j < 2 ^ 62) ∧ R (rng3 i (j - i).toNat) (fun _ => True) M1)
theorem qi_range2 {p : Pos} (hg : Gl X "range") (hm : X.mg "range" = none) (ha : QA X T0 [a, b] ts) (hs : starEach [a, b] X.env = [(false, eval a X.env), (false, eval b X.env)]) (hs2 : starEach [b] X.env = [(false, eval b X.env)]) : QI X T0 tg (.Call (.Name "range" p) [a, b] [] pos) (irng32 ts) :=
  (pi_range2 hg hm ha hs hs2).imp fun σ H R ⟨T, M, s, R3, S0, Rp, S, q, k⟩ => ⟨T, M, s, _, S0, Rp, S, q, fun T1 H1 M1 ds vs s1 R1 r1 ⟨i, j, e1, h1, q1⟩ => by
    subst e1
    simp only [RelDs] at r1
    obtain ⟨v, w, rfl, r1, w2, w3, rfl, r2, rfl⟩ := r1
    exact ⟨i, j, by rw [relInt r1, relInt r2], h1, k _ _ T1 M1 _ _ s1 R1 itd_rng q1⟩⟩
/-! ### for -/
def loop3 (g : G3) (tb : S3) (stays : HM → Prop) : List D → End3 → StD → HM → Prop
  | [], D, s, M => stays M ∧ D.nx s M
  | d :: ds, D, s, M => stays M ∧ g d s M fun s1 M1 => tb { D with nx := loop3 g tb stays ds D, ct := loop3 g tb stays ds D, bk := D.nx } s1 M1
def for3 (i : I3) (g : G3) (tb : S3) : S3 := fun D s M => i s M fun ds stays M1 => loop3 g tb stays ds D s M1
theorem q_for {i : I3} {tb : S3} (hp : PassesOwn (model X.prog X.w) X.A X.env X.xe) (hc : X.calm = true) (hi : QI X T0 tg iter i) (hg : QG X T0 tg g) (hb : QSs X T0 body tb) (hs : ∀ x, foldedSetIterable iter X.env x = pure x) : QS X T0 (.For tg iter body [] pos) (for3 i g tb) := by
  refine (ps_for hp hc hi hg hb hs).imp fun D σ H ⟨T, M, s, D3, S0, R, S, q, U⟩ => ⟨T, M, s, _, S0, R, S, q, fun J H1 T1 M1 ds stays s1 R1 it q1 => ?_⟩
  refine ⟨fun i m σ' H' => m = ds.length - i ∧ i ≤ ds.length ∧ ∃ T' M' s', Sub T1 T' ∧ Rep X.K T' H' M' ∧ RelSt X.K T' s' σ' ∧ loop3 g tb stays (ds.drop i) D3 s' M', ⟨_, rfl, Nat.zero_le _, T1, M1, s, Sub.refl _, R1, S.mono s1, by simpa using q1⟩, ?_⟩
  rintro i m σ' H' ⟨rfl, hi, T', M', s', sub, R', S', q'⟩
  by_cases hlt : i < ds.length
  · rw [List.drop_eq_getElem_cons hlt] at q'
    obtain ⟨st, q'⟩ := q'
    refine .inr ⟨it.go i H' T' M' sub R' st hlt, liftS X.K T' (loop3 g tb stays (ds.drop (i + 1)) D3), fun σ2 H2 ⟨T2, M2, s2, sub2, R2, S2, q2⟩ => ⟨_, (by omega : ds.length - (i + 1) < ds.length - i), rfl, hlt, T2, M2, s2, sub.trans sub2, R2, S2, q2⟩, fun x H2 y => ?_⟩
    obtain ⟨T2, d, sub2, R2, ed, rd⟩ := it.yld i H' T' M' x H2 sub R' st hlt y
    rw [List.getElem?_eq_getElem hlt] at ed
    cases ed
    refine ⟨T2, M', s', _, _, ((S0.trans s1).trans sub).trans sub2, R2, S'.mono sub2, rd, q', fun σ3 H3 ⟨T3, M3, s3, sub3, R3, S3, q3⟩ => ?_⟩
    have all := ((s1.trans sub).trans sub2).trans sub3
    exact ⟨T3, M3, s3, _, S0.trans all, R3, S3, q3, fun σ4 H4 l => l.mono (sub2.trans sub3), fun v4 H4 l => U.rt _ _ (l.mono all), fun σ4 H4 l => U.nx _ _ (l.mono all), fun σ4 H4 l => l.mono (sub2.trans sub3)⟩
  · have e : i = ds.length := by omega
    subst e
    rw [List.drop_length] at q'
    obtain ⟨st, q'⟩ := q'
    exact .inl ⟨it.stop _ H' T' M' sub R' st (Nat.le_refl _), U.nx _ _ ⟨T', M', s', s1.trans sub, R', S', q'⟩⟩
/-! ### while: what holds, and what falls -/
def while3 (c : B3) (tb : S3) : S3 := fun D s M => ∃ W : Nat → StD → HM → Prop, (∃ m, W m s M) ∧ ∀ m s M, W m s M → c s M fun b M1 =>
  if b = true then tb { D with nx := fun s' M' => ∃ m', m' < m ∧ W m' s' M', ct := fun s' M' => ∃ m', m' < m ∧ W m' s' M', bk := D.nx } s M1 else D.nx s M1
theorem q_while {tb : S3} (hp : PassesOwn (model X.prog X.w) X.A X.env X.xe) (hc : QT X T0 c tA) (hb : QSs X T0 body tb) : QS X T0 (.While c body [] pos) (while3 tA tb) := by
  refine (ps_while hp hc hb).imp fun D σ H ⟨T, M, s, D3, S0, R, S, ⟨W, ⟨m, w0⟩, turn⟩, U⟩ => ?_
  refine ⟨fun m σ' H' => ∃ T' M' s', Sub T T' ∧ Rep X.K T' H' M' ∧ RelSt X.K T' s' σ' ∧ W m s' M', ⟨m, T, M, s, Sub.refl T, R, S, w0⟩, ?_⟩
  rintro n σ1 H1 ⟨T1, M1, s1, sub1, R1, S1, w1⟩
  refine ⟨T1, M1, s1, _, S0.trans sub1, R1, S1, turn n s1 M1 w1, fun b T2 H2 M2 sub2 R2 q2 => ?_⟩
  cases b with
  | true =>
    simp only [if_true] at q2
    refine iteT ⟨liftS X.K T2 fun s' M' => ∃ m', m' < n ∧ W m' s' M', fun σ3 H3 ⟨T3, M3, s3, sub3, R3, S3, m', hm, w3⟩ => ⟨m', hm, T3, M3, s3, (sub1.trans sub2).trans sub3, R3, S3, w3⟩, ?_⟩
    exact ⟨T2, M2, s1, _, (S0.trans sub1).trans sub2, R2, S1.mono sub2, q2, fun _ _ l => l, fun v4 H4 l => U.rt _ _ (l.mono (sub1.trans sub2)), fun σ4 H4 l => U.nx _ _ (l.mono (sub1.trans sub2)), fun _ _ l => l⟩
  | false =>
    simp only [Bool.false_eq_true, if_false] at q2
    exact iteF (U.nx _ _ ⟨T2, M2, s1, sub1.trans sub2, R2, S1.mono sub2, q2⟩)

/-! ### list comprehensions -/
/-- the slots of the block's own names forgotten -/
def wipe3 (s : StD) : List Nat → StD
  | [] => s
  | v :: vs => (wipe3 s vs).set v none
theorem wipe_rel {K : PySem.W.Frag} {T : Tm} {s : StD} {σ : St} (S : RelSt K T s σ) : ∀ vs, RelSt K T (wipe3 s vs) (wipe σ vs)
  | [] => S
  | v :: vs => (wipe_rel S vs).setN v
theorem wipe_comm {σ : St} {i : Nat} : ∀ vs : List Nat, wipe (σ.set i none) vs = (wipe σ vs).set i none
  | [] => rfl
  | v :: vs => by
    simp only [wipe]
    rw [wipe_comm vs]
    by_cases e : i = v
    · subst e; rfl
    · rw [List.set_comm _ _ e]
theorem wipe_wipe : ∀ (vs : List Nat) (σ : St), wipe (wipe σ vs) vs = wipe σ vs
  | [], _ => rfl
  | v :: vs, σ => by
    simp only [wipe]
    rw [wipe_comm, wipe_wipe vs σ, List.set_set]
/-- a comprehension's target, exactly -/
structure TgOk (K : PySem.W.Frag) (g2 : TG) (g : G3) (vs : List Nat) : Prop where
  go : ∀ (x : V) (σ : St) (H : Hp) (T : Tm) (M : HM) (d : D) (s : StD) (Q3 : StD → HM → Prop) (Q : St → Hp → Prop), Rep K T H M → RelSt K T s σ → RelD K T d x → g d s M Q3 →
    (∀ σ2 s2, wipe σ2 vs = wipe σ vs → RelSt K T s2 σ2 → Q3 s2 M → Q σ2 H) → g2 x σ H Q
theorem wipe_set {σ : St} {i : Nat} {x : Option V} : ∀ {vs : List Nat}, i ∈ vs → wipe (σ.set i x) vs = wipe σ vs
  | v :: vs, h => by
    simp only [wipe]
    by_cases e : i ∈ vs
    · rw [wipe_set e]
    · have : i = v := by
        rcases List.mem_cons.mp h with h | h
        · exact h
        · exact absurd h e
      subst this
      have : ∀ vs : List Nat, i ∉ vs → wipe (σ.set i x) vs = (wipe σ vs).set i x := by
        intro vs
        induction vs with
        | nil => intro _; rfl
        | cons v vs ih =>
          intro hn
          simp only [List.mem_cons, not_or] at hn
          simp only [wipe]
          rw [ih hn.2, List.set_comm _ _ hn.1]
      rw [this vs e, List.set_set]
theorem tg_name {K : PySem.W.Frag} {i : Nat} {vs : List Nat} (h : i ∈ vs) : TgOk K (gName i) (name3 i) vs :=
  ⟨fun x σ H T M d s Q3 Q R S r q k => k _ _ (wipe_set h) (S.set r i) q⟩
theorem tg_tup2 {K : PySem.W.Frag} {i j : Nat} {vs : List Nat} (h : i ∈ vs) (h' : j ∈ vs) : TgOk K (gTup K 2 (gCons (gName i) (gCons (gName j) gNil))) (gtup3 2 (gcons3 (name3 i) (gcons3 (name3 j) gnil3))) vs := by
  refine ⟨fun x σ H T M d s Q3 Q R S r q k => ?_⟩
  obtain ⟨ds, rfl, hl, d1, r1, rfl, d2, r2, rfl, rfl, q⟩ := q
  obtain ⟨p, xs, rfl, g, rr⟩ := R.sqT r
  simp only [RelDs] at rr
  obtain ⟨v1, w1, rfl, ra, v2, w2, rfl, rb, rfl⟩ := rr
  exact ⟨p, _, rfl, g, rfl, v1, _, rfl, v2, _, rfl, rfl, k _ _ (by rw [wipe_set h', wipe_set h]) ((S.set ra i).set rb j) q⟩
def yes3 : B3 := fun _ M Q => Q true M
abbrev QTs (X : Cx) (T0 : Tm) (ifs : List Expr) (t : B3) : Prop := PTs X ifs (upB X.K T0 t)
theorem _root_.L2.PTs.imp {X : Cx} {es : List Expr} {t t' : TT} (h : PTs X es t) (i : ∀ σ H Q, t' σ H Q → t σ H Q) : PTs X es t' := ⟨fun pins s σ H Q I q => h.run pins s σ H Q I (i _ _ _ q)⟩
theorem qts_nil : QTs X T0 [] yes3 := pts_nil.imp fun σ H Q ⟨T, M, s, Q3, S0, R, S, q, k⟩ => k true T H M (Sub.refl T) R q
theorem qts_one (h : QT X T0 c tA) : QTs X T0 [c] tA := pts_one h
def cloop3 (g : G3) (tt : B3) (te : E3) (stays : HM → Prop) (s0 : StD) (p : Addr) : List D → (HM → Prop) → HM → Prop
  | [], Qd, M => stays M ∧ Qd M
  | d :: ds, Qd, M => stays M ∧ g d s0 M fun s1 M1 => tt s1 M1 fun b M2 => if b = true then te s1 M2 fun e M3 => ∃ acc, M3 p = some (.lst acc) ∧ acc.length < sizeLine ∧ cloop3 g tt te stays s0 p ds Qd (mup M3 p (.lst (acc ++ [e])))
      else cloop3 g tt te stays s0 p ds Qd M2
def lc3 (i : I3) (g : G3) (tt : B3) (te : E3) (vs : List Nat) : E3 := fun s M Q => i s M fun ds stays M1 => ∀ p, M1 p = none → cloop3 g tt te stays (wipe3 s vs) p ds (fun M' => Q (.ref p) M') (mup M1 p (.lst []))
theorem lc_up {g2 : TG} {i : I3} {tt : B3} {vs : List Nat} (tg : TgOk X.K g2 g vs) (σ : St) (H : Hp) (Q : VK) (h : upE X.K T0 (lc3 i g tt te vs) σ H Q) : tLc (upI X.K T0 i) g2 (upB X.K T0 tt) (upE X.K T0 te) vs σ H Q := by
  obtain ⟨T, M, s, Q3, S0, R, S, q, k⟩ := h
  refine ⟨T, M, s, _, S0, R, S, q, fun J H1 T1 M1 ds stays s1 R1 it q1 p hp => ?_⟩
  have q1 := q1 p (R1.noM hp)
  refine ⟨fun i m H' => m = ds.length - i ∧ i ≤ ds.length ∧ ∃ T' M', Sub T1 T' ∧ Rep X.K T' H' M' ∧ cloop3 g tt te stays (wipe3 s vs) p (ds.drop i) (fun M' => Q3 (.ref p) M') M', ⟨_, rfl, Nat.zero_le _, T1, _, Sub.refl _, R1.newLst hp RelDs.nil, by simpa using q1⟩, ?_⟩
  rintro i m H' ⟨rfl, hi, T', M', sub, R', q'⟩
  by_cases hlt : i < ds.length
  · rw [List.drop_eq_getElem_cons hlt] at q'
    obtain ⟨st, q'⟩ := q'
    refine .inr ⟨it.go i H' T' M' sub R' st hlt, fun H2 => ∃ T2 M2, Sub T' T2 ∧ Rep X.K T2 H2 M2 ∧ cloop3 g tt te stays (wipe3 s vs) p (ds.drop (i + 1)) (fun M' => Q3 (.ref p) M') M2, fun H2 ⟨T2, M2, sub2, R2, q2⟩ => ⟨_, (by omega : ds.length - (i + 1) < ds.length - i), rfl, hlt, T2, M2, sub.trans sub2, R2, q2⟩, fun x H2 y => ?_⟩
    obtain ⟨T2, d, sub2, R2, ed, rd⟩ := it.yld i H' T' M' x H2 sub R' st hlt y
    rw [List.getElem?_eq_getElem hlt] at ed
    cases ed
    have all2 := (s1.trans sub).trans sub2
    refine tg.go x _ H2 T2 M' _ (wipe3 s vs) _ _ R2 ((wipe_rel S vs).mono all2) rd q' fun σ3 s3 hw S3 q3 => ?_
    have hww : ∀ σ : St, wipe (wipe σ vs) vs = wipe σ vs := wipe_wipe vs
    refine ⟨by rw [hw, hww], T2, M', s3, _, S0.trans all2, R2, S3, q3, fun b T4 H4 M4 sub4 R4 q4 => ?_⟩
    cases b with
    | true =>
      simp only [if_true] at q4
      refine iteT ⟨T4, M4, s3, _, (S0.trans all2).trans sub4, R4, S3.mono sub4, q4, fun v H5 ⟨T5, M5, d5, sub5, R5, r5, acc, h1, h2, q5⟩ => ?_⟩
      obtain ⟨xs, g5, rx⟩ := R5.obj_lst h1
      exact ⟨xs, g5, by rw [← rx.length]; exact h2, T5, _, (sub2.trans sub4).trans sub5, R5.setLst h1 g5 (rx.append (RelDs.one r5)), q5⟩
    | false =>
      simp only [Bool.false_eq_true, if_false] at q4
      exact iteF ⟨T4, M4, sub2.trans sub4, R4, q4⟩
  · have e : i = ds.length := by omega
    subst e
    rw [List.drop_length] at q'
    obtain ⟨st, q'⟩ := q'
    exact .inl ⟨it.stop _ H' T' M' sub R' st (Nat.le_refl _), k _ _ ⟨T', M', _, s1.trans sub, R', refRel, q'⟩⟩
theorem q_lc {elt tg iter : Expr} {ifs : List Expr} {scope : Scope} {own : List (Str × Nat)} {i : I3} {g2 : TG} {tt : B3} (hc : X.calm = true) (hN : X.N.Nodup) (hi : QI X T0 tg iter i) (ok : BlkOk X.N X.env.scope scope own) (hgg : TgOk X.K g2 g (own.map (·.2)))
    (hg : ∀ (s : Shared) (H : Hp) (C : Addr) (cl : List (Str × Addr)) (fp : List Addr), PG (X.blk s H scope (compEnvC scope cl C X.env) fp) tg g2) (ht : ∀ (s : Shared) (H : Hp) (C : Addr) (cl : List (Str × Addr)) (fp : List Addr), QTs (X.blk s H scope (compEnvC scope cl C X.env) fp) T0 ifs tt)
    (he : ∀ (s : Shared) (H : Hp) (C : Addr) (cl : List (Str × Addr)) (fp : List Addr), QE (X.blk s H scope (compEnvC scope cl C X.env) fp) T0 elt te) (hs : ∀ x, foldedSetIterable iter X.env x = pure x) :
    QE X T0 (.ListComp elt [⟨tg, iter, ifs, 0⟩] scope pos) (lc3 i g tt te (own.map (·.2))) :=
  (pe_lc hc hN hi ok hg ht he hs).imp (lc_up hgg)
theorem q_setLc {j : Nat} {y : Str} {py : Pos} {elt tg iter : Expr} {ifs : List Expr} {scope : Scope} {own : List (Str × Nat)} {spos : Pos} {i : I3} {g2 : TG} {tt : B3} (hc : X.calm = true) (hN : X.N.Nodup) (hy : X.N[j]? = some y) (hyl : X.env.scope.names.lookup y = some .local)
    (hsw : swapsWith (.ListComp elt [⟨tg, iter, ifs, 0⟩] scope pos) (some (.Name y py)) spos.line X.env = pure true) (hi : QI X T0 tg iter i) (ok : BlkOk X.N X.env.scope scope own) (hgg : TgOk X.K g2 g (own.map (·.2)))
    (hg : ∀ (s : Shared) (H : Hp) (C : Addr) (cl : List (Str × Addr)) (fp : List Addr), PG (X.blk s H scope (compEnvC scope cl C X.env) fp) tg g2) (ht : ∀ (s : Shared) (H : Hp) (C : Addr) (cl : List (Str × Addr)) (fp : List Addr), QTs (X.blk s H scope (compEnvC scope cl C X.env) fp) T0 ifs tt)
    (he : ∀ (s : Shared) (H : Hp) (C : Addr) (cl : List (Str × Addr)) (fp : List Addr), QE (X.blk s H scope (compEnvC scope cl C X.env) fp) T0 elt te) (hs : ∀ x, foldedSetIterable iter X.env x = pure x) :
    QS X T0 (.Assign [.Name y py] (.ListComp elt [⟨tg, iter, ifs, 0⟩] scope pos) spos) (set3 (lc3 i g tt te (own.map (·.2))) j) :=
  (ps_setLc hc hN hy hyl hsw hi ok hg ht he hs).imp fun D σ H ⟨T, M, s, D3, S0, R, S, q, U⟩ =>
    lc_up hgg σ H _ ⟨T, M, s, _, S0, R, S, q, fun v H1 ⟨T1, M1, d, s1, R1, r1, q1⟩ => U.nx _ _ ⟨T1, M1, _, s1, R1, (S.mono s1).set r1 j, q1⟩⟩
end

/-! ### defs -/
abbrev Sp3 := List D → HM → K3 → X3 → Prop
/-- an own exception, by its class and its value -/
def liftX (K : PySem.W.Frag) (T : Tm) (E : X3) : XK := fun cls dd H' => ∃ (C a : Addr) (v : V) (T' : Tm) (M' : HM) (d : D), cls = .ref C ∧ dd = some a ∧ H' a = some (.xd [(("value" : Str), v)]) ∧ Sub T T' ∧ Rep K T' H' M' ∧ RelD K T' d v ∧ E C d M'
def upSp (K : PySem.W.Frag) (TL : List (Addr × Str)) (sp : Sp3) : Sp := fun vs H Q E => ∃ T M ds Q3 EX, T.tl = TL ∧ Rep K T H M ∧ RelDs K T ds vs ∧ sp ds M Q3 EX ∧ (∀ v H', lift3 K T Q3 v H' → Q v H') ∧ ∀ cls dd H', liftX K T EX cls dd H' → E cls dd H'
theorem liftX.mono {K : PySem.W.Frag} {T T' : Tm} {E : X3} {cls : Value} {dd : Option Addr} {H : Hp} (h : Sub T T') (l : liftX K T' E cls dd H) : liftX K T E cls dd H := by
  obtain ⟨C, a, v, T1, M1, d, e1, e2, e3, s, R, r, q⟩ := l
  exact ⟨C, a, v, T1, M1, d, e1, e2, e3, h.trans s, R, r, q⟩
theorem liftX.imp {K : PySem.W.Frag} {T : Tm} {E E' : X3} {cls : Value} {dd : Option Addr} {H : Hp} (h : ∀ C d M, E C d M → E' C d M) (l : liftX K T E cls dd H) : liftX K T E' cls dd H := by
  obtain ⟨C, a, v, T1, M1, d, e1, e2, e3, s, R, r, q⟩ := l
  exact ⟨C, a, v, T1, M1, d, e1, e2, e3, s, R, r, h _ _ _ q⟩
/-- what leaves a body is taken: the wish EX, over T0 -/
def XOk (K : PySem.W.Frag) (T0 : Tm) (EX : X3) (E : XK) : Prop := ∀ cls dd H', liftX K T0 EX cls dd H' → E cls dd H'
def call3 (sp : Sp3) (EX : X3) (t : A3) : E3 := fun s M Q => t s M fun ds M1 => sp ds M1 Q EX
theorem call_up {K : PySem.W.Frag} {T0 : Tm} {TL : List (Addr × Str)} {sp : Sp3} {EX : X3} {E : XK} {t : A3} (hTL : T0.tl = TL) (hE : XOk K T0 EX E) (σ : St) (H : Hp) (Q : VK) (h : upE K T0 (call3 sp EX t) σ H Q) : tCall (upSp K TL sp) [] E (upA K T0 t) σ H Q := by
  obtain ⟨T, M, s, Q3, S0, R, S, q, k⟩ := h
  exact ⟨T, M, s, _, S0, R, S, q, fun T1 H1 M1 ds vs s1 R1 r1 q1 => ⟨T1, M1, ds, Q3, EX, (s1.tl.trans S0.tl).trans hTL, R1, by rw [List.append_nil]; exact r1, q1, fun v H' l => k _ _ (l.mono s1), fun cls dd H' l => hE _ _ _ (l.mono (S0.trans s1))⟩⟩
section
variable {X : Cx} {T0 : Tm} {TL : List (Addr × Str)} {CX : CXT} {k : Nat} {f : Addr} {fd : FuncData} {ps : List Str} {sp : Sp3} {E : XK} {EX : X3} {x : Str} {p pos : Pos} {e : Expr} {es : List Expr} {t : A3}
theorem q_call (F : FnOk X.prog X.w X.K X.mg X.base CX k f fd ps (upSp X.K TL sp)) (hTL : T0.tl = TL) (hr : Room k X.A) (hg : Gl X x) (hm : X.mg x = some (.ref f)) (hk : PySem.W.keepIn X.K (.ref f) = true) (hb : Binds X.K fd ps []) (hx : Passes CX X E) (hE : XOk X.K T0 EX E)
    (ha : QA X T0 (e :: es) t) (hdb : (x == ("__debug__" : Str)) = false) (he : starEach (e :: es) X.env = (false, eval e X.env) :: starEach es X.env) (hpl : (backTo pos (starEach es X.env)).any (·.1) = false) :
    QE X T0 (.Call (.Name x p) (e :: es) [] pos) (call3 sp EX t) := (pe_call F hr hg hm hk hb .nil hx ha hdb he hpl).imp (call_up hTL hE)
/-- within a try's body -/
theorem q_callS {ES : St → XK} (F : FnOk X.prog X.w X.K X.mg X.base CX k f fd ps (upSp X.K TL sp)) (hTL : T0.tl = TL) (hr : Room k X.A) (hg : Gl X x) (hm : X.mg x = some (.ref f)) (hk : PySem.W.keepIn X.K (.ref f) = true) (hb : Binds X.K fd ps []) (hx : ∀ σ, PassesAt CX X σ (ES σ)) (hE : ∀ σ, XOk X.K T0 EX (ES σ))
    (ha : QA X T0 (e :: es) t) (hdb : (x == ("__debug__" : Str)) = false) (he : starEach (e :: es) X.env = (false, eval e X.env) :: starEach es X.env) (hpl : (backTo pos (starEach es X.env)).any (·.1) = false) :
    QE X T0 (.Call (.Name x p) (e :: es) [] pos) (call3 sp EX t) := (pe_callS F hr hg hm hk hb hx ha hdb he hpl).imp fun σ H Q h => by
  have z := call_up hTL (hE σ) σ H Q h
  unfold tCall at z
  show upA X.K T0 t σ H fun vs H1 => upSp X.K TL sp vs H1 Q (ES σ)
  simpa only [List.append_nil] using z
end
/-- the ends of a def: what it leaves unsaid may be forgotten -/
def ends3 (Q : K3) : End3 := { nx := fun _ M' => ∃ M0, Le M0 M' ∧ Q .non M0, rt := fun d M' => ∃ M0, Le M0 M' ∧ Q d M0 }
def start3 (N : List Str) (ds : List D) : StD := ds.map some ++ List.replicate (N.length - ds.length) none
section
variable {P : Program} {w : World} {K : PySem.W.Frag} {TL : List (Addr × Str)} {mg : Str → Option Value} {base : Heap}
theorem ends_up {T : Tm} {Q3 : K3} {Q : VK} (h : ∀ v H', lift3 K T Q3 v H' → Q v H') : EndsUp K T (ends3 Q3) { nx := fun _ H' => Q .non H', rt := Q } :=
  ⟨fun σ H ⟨T1, M1, s1, sub, R1, S1, M0, le, q⟩ => h _ _ ⟨T1, M0, .non, sub, R1.less le, nonRel, q⟩, fun v H ⟨T1, M1, d, sub, R1, r1, M0, le, q⟩ => h _ _ ⟨T1, M0, d, sub, R1.less le, r1, q⟩,
    fun σ H ⟨_, _, _, _, _, _, z⟩ => z.elim, fun σ H ⟨_, _, _, _, _, _, z⟩ => z.elim⟩
/-- a def that raises nothing -/
theorem fn3 {x qual : Str} {st : Stmt} {f : Addr} {fd : FuncData} {N ps : List Str} {k : Nat} {sp : Sp3} (F : Fun K x qual st f fd) (S : FnScope N ps (defScope st)) (len : ∀ ds M Q E, sp ds M Q E → ds.length = ps.length)
    (hbody : ∀ (cdv : Value) (A : Around) (outer : List Env) (s : Shared) (H : Hp) (T0 : Tm) (hTL : T0.tl = TL) (E : XK), Room k (A.deeper (envOfC qual (defScope st) s.heap.objs.size f cdv)) →
      ∃ t : S3, QSs (cxOf CX0 P w K mg base N qual (defScope st) f cdv A outer s H E).nox T0 (defBody st) t ∧ ∀ ds M Q EX, sp ds M Q EX → t (ends3 Q) (start3 N ds) M) : FnOk P w K mg base CX0 (k + 1) f fd ps (upSp K TL sp) := by
  refine F.ok S (fun vs H Q E ⟨T, M, ds, Q3, EX, _, R, r, q, _⟩ => by rw [← r.length]; exact len _ _ _ _ q) fun cdv A outer s H vs Q E hr ⟨T, M, ds, Q3, EX, eT, R, r, q, hQ, hX⟩ => ?_
  obtain ⟨t, ht, hq⟩ := hbody cdv A outer s H T eT E hr
  exact ⟨_, ht, T, M, _, _, Sub.refl T, R, RelSt.start r, hq ds M Q3 EX q, ends_up hQ⟩
/-- a def that may raise -/
theorem fn3X {x qual : Str} {st : Stmt} {f : Addr} {fd : FuncData} {N ps : List Str} {k : Nat} {sp : Sp3} (F : Fun K x qual st f fd) (S : FnScope N ps (defScope st)) (len : ∀ ds M Q E, sp ds M Q E → ds.length = ps.length)
    (hbody : ∀ (cdv : Value) (A : Around) (outer : List Env) (s : Shared) (H : Hp) (T0 : Tm) (hTL : T0.tl = TL) (E : XK) (EX : X3), XOk K T0 EX E → Room k (A.deeper (envOfC qual (defScope st) s.heap.objs.size f cdv)) →
      ∃ t : S3, QSs (cxOf (L2.CX P w) P w K mg base N qual (defScope st) f cdv A outer s H E) T0 (defBody st) t ∧ ∀ ds M Q, sp ds M Q EX → t (ends3 Q) (start3 N ds) M) : FnOk P w K mg base (L2.CX P w) (k + 1) f fd ps (upSp K TL sp) := by
  refine F.okX S (fun vs H Q E ⟨T, M, ds, Q3, EX, _, R, r, q, _⟩ => by rw [← r.length]; exact len _ _ _ _ q) fun cdv A outer s H vs Q E hr ⟨T, M, ds, Q3, EX, eT, R, r, q, hQ, hX⟩ => ?_
  obtain ⟨t, ht, hq⟩ := hbody cdv A outer s H T eT E EX hX hr
  exact ⟨_, ht, T, M, _, _, Sub.refl T, R, RelSt.start r, hq ds M Q3 q, ends_up hQ⟩
end
end L3
end

section
set_option Elab.async false
set_option linter.all false
set_option maxRecDepth 100000
set_option maxHeartbeats 1000000
/-! L3x: the own errors: DeedError's __init__ says super().__init__(value) and keeps the value; its classes without an __init__ of their own. -/
namespace L3
open PySem PySem.W PySem.Calls PyProof.Rows PySem.HandSPX
namespace Deed
def dArgs : Arguments := { posonlyargs := [], args := [{ arg := "self", annotation := none, pos := ⟨4, 17, 4, 21⟩ }, { arg := "value", annotation := none, pos := ⟨4, 23, 4, 28⟩ }], vararg := none, kwonlyargs := [], kw_defaults := [], kwarg := none, defaults := [] }
def dBody : List Stmt :=
  [.Expr (.Call (.Attribute (.Call (.Name "super" ⟨5, 8, 5, 13⟩) [] [] ⟨5, 8, 5, 15⟩) "__init__" ⟨5, 8, 5, 24⟩) [.Name "value" ⟨5, 25, 5, 30⟩] [] ⟨5, 8, 5, 31⟩) ⟨5, 8, 5, 31⟩,
   .Assign [.Attribute (.Name "self" ⟨6, 8, 6, 12⟩) "value" ⟨6, 8, 6, 18⟩] (.Name "value" ⟨6, 21, 6, 26⟩) ⟨6, 8, 6, 26⟩]
def dScope : Scope := { kind := .function, names := [(PySem.Str.ofString "self", .local), (PySem.Str.ofString "value", .local), (PySem.Str.ofString "__class__", .free), (PySem.Str.ofString "super", .globalImplicit)], isGenerator := false, isCoroutine := false, more := [] }
/-- what the written part says of DeedError, at D, and of its __init__, at fI -/
structure InitTxt (prog : Program) (K : Frag) (D fI cc cda : Addr) : Prop where
  fn : ∃ (oc : Value) (od : Option Addr) (doc pm : Value) (an : Option Addr) (ct : Value) (osl : Array (Option Value)),
    K.lookup fI = some ⟨oc, od, .func (ksFn "__init__" "DeedError.__init__" dArgs dBody dScope .none .none doc pm an (.ref cda) ct cc), osl⟩ ∧ codeIn K (.ref cda) "DeedError.__init__" = true
  cda : ∃ ccl cdd vs ccs file tf, K.lookup cda = some ⟨ccl, cdd, .fields vs, ccs⟩ ∧ vs[2]? = some (.str file tf) ∧ ((prog.main.file : Str) == file) = true
  cell : ∃ cl cld csl, K.lookup cc = some ⟨cl, cld, .cell (some (.ref D)), csl⟩
  hD : ∃ cdD, clsIn K D = some cdD
  sup : nsIn K mainGlobals "super" = some none
  top : (prog.main.scope.names.lookup ("super" : Str)).isSome = false
  third : nsIn K cStatics "thirdparty.any" = some none
/-- .. and of a class of its own without __init__, at C -/
structure ClsTxt (K : Frag) (D fI C : Addr) : Prop where
  cls : ∃ nm q N bs sn sub ab col dd k0 k1 k2 k3 k5, K.lookup C = some (excClassObj nm q C N bs (.ref D :: veTail) true sn sub ab col dd k0 k1 k2 k3 k5 "ValueError.__new__")
  ne : C ≠ D
  sa : findIn K (.ref C) "__setattr__" = some (some (.builtin "object.__setattr__"))
  ga : findIn K (.ref C) "__getattribute__" = some (some (.builtin "BaseException.__getattribute__"))
  gg : findIn K (.ref C) "__getattr__" = some none
  noV : findIn K (.ref C) "value" = some none
  iC : findIn K (.ref C) "__init__" = some (some (.ref fI))
  tI : typeIn K (.ref fI) = some (.type "function")
  kC : keepIn K (.ref C) = true
  exC : subIn K (.ref C) (.type "BaseException") = some true
  vC : subIn K (.ref C) (.type "ValueError") = some true
  tyC : typeIn K (.ref C) = some (.type "type")
  hdC : hasDictIn K C = true
theorem along_ve (K : W.Frag) : W.alongIn K "__init__" veTail = some (some (.builtin "ValueError.__init__")) := by kernel_rfl
/-- what __init__ leaves of a fresh exception at x -/
structure InitEnd (h h' : Heap) (x C dx t1 : Addr) (v : Value) : Prop where
  keep : ∀ b o, b ≠ x → h.get? b = some o → h'.get? b = some o
  obj : h'.get? x = some { cls := .ref C, dict := some dx, data := .fields #[.ref t1, .none, .none, .none, .bool false, .none] }
  dbig : h.objs.size ≤ dx
  dne : dx ≠ x
  ns : h'.Ns1 dx (fun y => if y = "value" then some v else none)
section
variable {prog : Program} {w : World} {A : Around} {E : Value → Shared → Prop} {R : Result → Shared → Prop} {s : Shared} {K : Frag} {mg : Str → Option Value} {C D fI cc cda : Addr} {mb : Str → Option Value}
theorem ldLoc {M : Model} {env : Env} {m : Str → Option Value} {x : Str} {pos : Pos} {v : Value} {Q : Value → Shared → Prop} (hn : s.heap.Ns env.locals m) (hv : m x = some v) (h : Q v s)
    (hk : env.scope.kind = .function) (hl : env.kindOf x = some .local) (hd : (x == ("__debug__" : Str)) = false) : wpAny M A (eval (.Name x pos) env) Q E s := wpAny_Name (wpAny_loadName_local hk hl hn hv h) hd
theorem call_mw {h : Heap} {g : Array GenState} {d : Drawn} {t : Nat} {os : OsState} {u e t0 : Addr} {v : Value} {Q : Value → Shared → Prop} {nm q : Str} {N : Addr} {bs bm : List Value} {sn : List Str} {sub : List Value} {ab : Bool} {col : Option Bool} {dd : Option Addr} {k0 k1 k2 k3 k5 : Option Value}
    (hC : h.get? C = some (excClassObj nm q C N bs bm true sn sub ab col dd k0 k1 k2 k3 k5 "ValueError.__new__")) (he : h.get? e = some (excO C t0)) (hu : h.get? u = some (kxs_mw "ValueError.__init__" e))
    (hq : ∀ h' t1, (∀ b o, b ≠ e → h.get? b = some o → h'.get? b = some o) → h'.get? e = some (excO C t1) → Q .none ⟨h', g, d, t, os⟩) :
    wpAny (model prog w) A (call (.ref u) [v]) Q E ⟨h, g, d, t, os⟩ := by
  refine wpAny_call (codeAny_of_tree ?_)
  show wpAny _ A.in1 (callAny (.ref u) ⟨[v], []⟩) _ _ _
  simp only [callAny]
  refine wpAny_bind (wpAny_load hu ?_)
  have mw1 : (Value.type "method-wrapper" == Value.type "method" || Value.type "method-wrapper" == Value.type "builtin_function_or_method" || Value.type "method-wrapper" == Value.type "method-wrapper") = true := by decide
  simp only [kxs_mw, mw1, if_true]
  refine KFB.if_so (by decide) ?_
  refine wpAny_bind (check_bound_init F.excBase_ValueError.toExcCallFacts hC he rfl ?_)
  refine wpAny_bind (wpAny_pure (wpAny_pure ?_))
  refine ⟨plainId_quiet F.excBase_ValueError.init.plain _, codeAny_builtin F.excBase_ValueError.initEntry ?_⟩
  exact exc_init_tree (cls := .ref C) (t0 := t0) (dv := none) (c2 := .none) (c3 := .none) (b4 := .bool false) he (by rw [sizeLine_eq]; exact (by decide : 1 ≤ 16777216)) fun h' k e' _ => hq h' _ k e'
theorem run_init (T : InitTxt prog K D fI cc cda) (TC : ClsTxt K D fI C) {x t0 : Addr} {v : Value} (X : K.In s.heap) (hlim : s.heap.NoLimit) (hg : s.heap.Ns mainGlobals mg) (hb : s.heap.Ns builtinsNs mb) (hbv : mb "super" = some (.type "super"))
    (hx : s.heap.get? x = some (excO C t0)) (hnx : K.lookup x = none) (hroom : A.depth < recursionLimit)
    (hq : ∀ h' tk t1 dx, InitEnd s.heap h' x C dx t1 v → R (.ok (.ret .none)) { s with heap := h', toks := tk }) :
    codeAny (model prog w) A (.call (.ref fI) ⟨[.ref x, v], []⟩) R s := by
  obtain ⟨oc, od, doc, pm, an, ct, osl, ho, hcd⟩ := T.fn
  obtain ⟨nm, q, N, bs, sn, sub, ab, col, dd, k0, k1, k2, k3, k5, hC⟩ := TC.cls
  have hcl : clsIn K C = some { name := nm, bases := bs, mro := .ref C :: .ref D :: veTail, ns := N, qualname := q, hasDict := true, slotNames := sn, subclasses := sub, abstract := ab, collection := col, hasDel := false } := by unfold clsIn; rw [hC]
  refine ks_codeAny_call_defAt (binds := [("self", .ref x), ("value", v)]) (fd := ksFn "__init__" "DeedError.__init__" dArgs dBody dScope .none .none doc pm an (.ref cda) ct cc) hroom (X _ _ ho) rfl hlim (codeRec_of X hcd) rfl (BindsTo.of_eq rfl) (show ∀ y ∈ dScope.names, y.2 ≠ .cell by decide +kernel) (fun y hy => ?hb) fun h₁ hns k => ?_
  case hb =>
    simp only [List.mem_cons, List.not_mem_nil, or_false] at hy
    rcases hy with rfl | rfl
    · exact (by decide +kernel : dScope.names.lookup ("self" : Str) = some .local)
    · exact (by decide +kernel : dScope.names.lookup ("value" : Str) = some .local)
  have hxL : s.heap.objs.size ≠ x := Nat.ne_of_gt (Heap.lt_size hx)
  have X₁ : K.In h₁ := X.keeps k
  have hx₁ := k _ _ hx
  obtain ⟨ccl, cdd, vs, ccs, file, tf, hcda, hvs, hfile⟩ := T.cda
  obtain ⟨cl, cld, csl, hcell⟩ := T.cell
  obtain ⟨cdD, hD⟩ := T.hD
  obtain ⟨oD, hD1, hD2⟩ : ∃ oD, h₁.get? D = some oD ∧ oD.data = .cls cdD := by
    unfold clsIn at hD
    split at hD
    · rename_i c d cd' sl ho
      cases hD
      exact ⟨_, X₁ _ _ ho, rfl⟩
    · cases hD
  have I1 : W.InstAt h₁ x (excO C t0) C none := ⟨hx₁, rfl, rfl, trivial⟩
  have msub : mroIn K C (.ref D) = some true := by
    unfold mroIn
    rw [hcl, Option.bind_some]
    show some ((Value.ref C :: Value.ref D :: veTail).contains (.ref D)) = some true
    rw [List.contains_cons, List.contains_cons, beq_self_eq_true, Bool.true_or, Bool.or_true]
  have hCD : (Value.ref C == Value.ref D) = false := by simp [TC.ne]
  have hdrop : ((Value.ref C :: Value.ref D :: veTail).dropWhile (· != .ref D)).drop 1 = veTail := by
    rw [List.dropWhile_cons]
    have e1 : (Value.ref C != Value.ref D) = true := by simp [TC.ne]
    rw [if_pos e1, List.dropWhile_cons]
    have e2 : ¬ ((Value.ref D != Value.ref D) = true) := by simp
    rw [if_neg e2]
    rfl
  -- super().__init__(value)
  refine ks_wpAt_execs_cons (ks_wpAt_Expr_any (ks_wpAt_MethodCall ?m1 (by rfl)) (by rfl) (by rfl))
  have hks : dScope.names.lookup ("super" : Str) = some .globalImplicit := by decide +kernel
  have hkc : dScope.names.lookup ("__class__" : Str) = some .free := by decide +kernel
  have hka : dScope.names.lookup ("self" : Str) = some .local := by decide +kernel
  have hkv : dScope.names.lookup ("value" : Str) = some .local := by decide +kernel
  refine ks_wpAt_super_base (ar := { arg := "self", annotation := none, pos := ⟨4, 17, 4, 21⟩ }) hks hkc (by decide) rfl (X₁ _ _ ho) rfl rfl rfl (X₁ _ _ hcda) rfl hvs hfile T.top ?_
  refine ks_loadName_global rfl hks (loadGlobal_builtin (hg.keeps k) (mg_none_of X hg T.sup) (hb.keeps k) hbv ⟨rfl, ?_⟩)
  refine wpAny_loadName_free rfl hkc rfl ⟨_, X₁ _ _ hcell, rfl⟩ ?_
  refine wpAny_loadName_local rfl hka hns rfl ?_
  refine ks_wpAny_isType_cls hD1 hD2 ⟨rfl, ?_⟩
  refine ks_wpAny_call_super hD1 hD2 hx₁ rfl (fun c e => by cases e) (looks_mroIn X₁ msub) fun h₂ e₂ k₂ => ?_
  have X₂ : K.In h₂ := X₁.keeps k₂
  have hx₂ := k₂ _ _ hx₁
  have I2 : W.InstAt h₂ x (excO C t0) C none := ⟨hx₂, rfl, rfl, trivial⟩
  have hI : Looks (model prog w) h₂ (isInstance (.ref x) (.type "ValueError")) true := I2.type.andThen (looks_subIn X₂ TC.vC)
  refine kxs_getMethod kxs_ValueError e₂ (looks_opaque X₂ T.third) (l₀ := Value.ref C :: Value.ref D :: veTail) (fun A Q E s k q => wpAny_bind ((looks_clsIn X₂ hcl) A _ E s k (wpAny_pure q))) hdrop X₂ (along_ve K) hI (fun z => by subst z; rw [hnx] at hC; cases hC) (by decide) ?_
  have X₃ := X₂.keeps (h' := h₂.push (kxs_mw "ValueError.__init__" x)) fun b o e => Heap.get?_push_of_some _ e
  refine kxs_callWith (i := "ValueError.__init__") (x := x) (by rfl) (evalArgs_plain ?_)
  refine Calls.spliced_cons (ldLoc (v := v) (m := fun y => ([("self", Value.ref x), ("value", v)] : List (Str × Value)).reverse.lookup y) ?_ (by rfl) ?_ rfl hkv (by decide))
  · exact (hns.keeps k₂).keeps fun b o e => Heap.get?_push_of_some _ e
  refine Calls.spliced_nil ⟨Heap.get?_push_size _ rfl, ?_⟩
  refine call_mw (X₃ _ _ hC) (Heap.get?_push_of_some _ hx₂) (Heap.get?_push_size _ rfl) fun h₄ t1 k₄ e₄ => ?_
  have nC : C ≠ x := fun z => by subst z; rw [hnx] at hC; cases hC
  have k04 : ∀ b o, b ≠ x → h₁.get? b = some o → h₄.get? b = some o := fun b o hb e => k₄ b o hb (Heap.get?_push_of_some _ (k₂ _ _ e))
  have X₄ : K.In h₄ := fun b o e => k04 b o (fun z => by rw [z, hnx] at e; cases e) (X₁ _ _ e)
  have hns₄ : h₄.Ns s.heap.objs.size (fun y => ([("self", Value.ref x), ("value", v)] : List (Str × Value)).reverse.lookup y) := by
    obtain ⟨o, es, ep, ho', r⟩ := hns
    exact ⟨o, es, ep, k04 _ _ hxL ho', r⟩
  -- self.value = value
  refine wpAt_of_wpAny (wpAny_execs_cons (plainObj_wpAny_Assign_Attribute ?_))
  refine ldLoc (v := v) hns₄ (by rfl) (ldLoc (v := .ref x) hns₄ (by rfl) ?_ rfl hka (by decide)) rfl hkv (by decide)
  refine set_plain X₄ (ox := excO C t1) (od := none) ⟨e₄, rfl, rfl, trivial⟩ TC.sa ?_
  refine exc_osa X₄ e₄ hcl (show refsVE (.ref C :: .ref D :: veTail) = true by rfl) rfl TC.noV fun h₅ tk₅ dx k₅ dn dne hx₅ hn₅ => ?_
  have z : s.heap.objs.size ≤ h₄.objs.size := by
    obtain ⟨o, es, ep, ho', r⟩ := hns₄
    exact Nat.le_of_lt (Heap.lt_size ho')
  exact wpAny_execs_nil (hq h₅ tk₅ t1 dx ⟨fun b o hb e => k₅ b o hb (k04 b o hb (k b o e)), hx₅, Nat.le_trans z dn, dne, hn₅⟩)
/-- what C(v) makes -/
structure OwnMade (h h' : Heap) (e C d : Addr) (v : Value) : Prop where
  keep : ∀ b o, h.get? b = some o → h'.get? b = some o
  new : h.objs.size ≤ e
  obj : ∃ oe vs, h'.get? e = some oe ∧ oe.cls = .ref C ∧ oe.dict = some d ∧ oe.data = .fields vs ∧ vs[1]? = some .none
  dbig : h.objs.size ≤ d
  dne : d ≠ e
  ns : h'.Ns1 d (fun y => if y = "value" then some v else none)
theorem made (T : InitTxt prog K D fI cc cda) (TC : ClsTxt K D fI C) {v : Value} (X : K.In s.heap) (hlim : s.heap.NoLimit) (hg : s.heap.Ns mainGlobals mg) (hb : s.heap.Ns builtinsNs mb) (hbv : mb "super" = some (.type "super")) (hroom : A.depth + 1 < recursionLimit)
    (hq : ∀ h' tk e d, OwnMade s.heap h' e C d v → R (.ok (.ret (.ref e))) { s with heap := h', toks := tk }) :
    codeAny (model prog w) A (.call (.ref C) ⟨[v], []⟩) R s := by
  obtain ⟨nm, q, N, bs, sn, sub, ab, col, dd, k0, k1, k2, k3, k5, hC⟩ := TC.cls
  obtain ⟨hp, g, dr, tk, os⟩ := s
  have k : ∀ b o, hp.get? b = some o → ((hp.push (kdv_tup [v])).push (excO C hp.objs.size)).get? b = some o := fun b o e => Heap.get?_push_of_some _ (Heap.get?_push_of_some _ e)
  have hget : ((hp.push (kdv_tup [v])).push (excO C hp.objs.size)).get? (hp.objs.size + 1) = some (excO C hp.objs.size) := by heap_get
  have hnx : K.lookup (hp.objs.size + 1) = none := by
    cases e : K.lookup (hp.objs.size + 1) with
    | none => rfl
    | some o =>
      have z := Heap.lt_size (show hp.get? (hp.objs.size + 1) = some o from X _ _ e)
      exact absurd (Nat.lt_of_succ_lt z) (Nat.lt_irrefl _)
  refine call_own F.excBase_ValueError (fun X => refsVE_contains X (.ref D :: veTail) rfl) (X _ _ hC) (looks_findIn X TC.iC) (fun self => bind_fn X self TC.tI) (by rw [sizeLine_eq]; exact (by decide : 1 ≤ 16777216)) ?_
  refine run_init (s := ⟨(hp.push (kdv_tup [v])).push (excO C hp.objs.size), g, dr, tk, os⟩) T TC (X.keeps k) (hlim.keeps k) (hg.keeps k) (hb.keeps k) hbv hget hnx hroom fun h' tk' t1 dx ⟨k', hx, dn, dne, hns⟩ => ?_
  have old : ∀ b o, hp.get? b = some o → h'.get? b = some o := fun b o e => k' b o (Nat.ne_of_lt (Nat.lt_succ_of_lt (Heap.lt_size e))) (k b o e)
  have z : hp.objs.size + 1 + 1 ≤ dx := by simpa only [Heap.size_push] using dn
  exact ⟨rfl, hq h' tk' (hp.objs.size + 1) dx ⟨old, Nat.le_succ _, ⟨_, _, hx, rfl, rfl, rfl, rfl⟩, (show hp.objs.size ≤ dx by omega), dne, hns⟩⟩
end
end Deed
open PySem PySem.Spec PyProof.Rows L2
theorem relO_val {v : V} {v' : Value} (r : RelV v v') (f : Str) : L2.RelO (List.lookup f [(("value" : Str), v)]) (if f = "value" then some v' else none) := by
  by_cases hw : f = "value"
  · subst hw
    rw [if_pos rfl]
    have q : List.lookup ("value" : Str) [(("value" : Str), v)] = some v := by simp [List.lookup]
    rw [q]
    exact r
  · rw [if_neg hw]
    have qw : (f == ("value" : Str)) = false := by simpa using hw
    have q2 : List.lookup f [(("value" : Str), v)] = none := by simp [List.lookup, qw]
    rw [q2]
    trivial
section
variable {X : Cx} {C D fI cc cda : Addr} {T0 : Tm}
/-- C(e) -/
def tMk (C : Addr) (ta : TA) : St → Hp → XK → Prop := fun σ H Q => ta σ H fun vs H1 => ∃ v, vs = [v] ∧ ∀ d, H1 d = none → Q (.ref C) (some d) (upd H1 d (.xd [(("value" : Str), v)]))
theorem pmk_deed {a : Expr} {ta : TA} {x : Str} {p pos : Pos} {k : Nat} (T : Deed.InitTxt X.prog X.K D fI cc cda) (TC : Deed.ClsTxt X.K D fI C) (hr : Room k X.A) (ha : PA X [a] ta) (hg : Gl X x) (hm : X.mg x = some (.ref C)) (hdb : (x == ("__debug__" : Str)) = false)
    (he : starEach (a :: []) X.env = (false, eval a X.env) :: starEach [] X.env) (hpl : (backTo pos (starEach [] X.env)).any (·.1) = false) :
    PMk X (.Call (.Name x p) [a] [] pos) (tMk C ta) := by
  intro pins s σ H Q I h
  refine wpAny_Call_Name_kw (ld_glob I hg hm ?_ hdb)
  refine PySem.W.callWith_K (h₀ := X.base) I.ok.mod.kin TC.kC (thn (ha.run pos pins s σ H _ I h) fun us s1 hh => ?_) he hpl
  obtain ⟨vs, H1, I1, r1, v, ev, q1⟩ := hh
  subst ev
  refine ⟨I1.kIn, ?_⟩
  cases r1 with
  | cons rv rn =>
    rename_i v' us'
    cases rn
    show wpAny _ _ (call (.ref C) [v']) _ _ _
    have hlim := I1.nolimit
    obtain ⟨mb, hb1, hb2⟩ := I1.mod.blt
    have hg1 := I1.mod.glob.keeps I1.bk
    have hb1' := hb1.keeps I1.bk
    have hbs : mb "super" = some (.type "super") := (hb2 "super" (by decide)).trans (by decide +kernel)
    obtain ⟨hp, g, dr, tk, os⟩ := s1
    refine wpAny_call (Deed.made T TC I1.kIn hlim hg1 hb1' hbs (by have := hr.dp; omega) fun h' tk' e d M => ?_)
    show MkP X pins σ Q (.ref e) ⟨h', g, dr, tk', os⟩
    obtain ⟨oe, fv, hoe, hc, hd, hdat, h1⟩ := M.obj
    have hns := M.ns
    obtain ⟨G', g1, g2⟩ := restrict h' fun b => decide (b ≠ e)
    have gk : ∀ b, b ≠ e → G'.get? b = h'.get? b := fun b hb => g1 b (decide_eq_true hb)
    have ge : G'.get? e = none := g2 e (by simp)
    have old : ∀ b o, hp.get? b = some o → G'.get? b = some o := fun b o q => (gk b (Nat.ne_of_lt (Nat.lt_of_lt_of_le (Heap.lt_size q) M.new))).trans (M.keep b o q)
    have ob : ObjOk X.prog X.w (upd H1 d (.xd [(("value" : Str), v)])) G' d (.xd [(("value" : Str), v)]) :=
      ⟨_, hns.at (fun o q => (gk d M.dne).trans q), fun f => relO_val rv f⟩
    have J : Inv X pins σ (upd H1 d (.xd [(("value" : Str), v)])) ⟨G', g, dr, tk', os⟩ := I1.laid (t' := tk') old M.dbig ob
    refine ⟨e, oe, fv, ⟨G', g, dr, tk', os⟩, _, .ref C, some d, rfl, J, fun b o q => ?_, ge, hoe, ⟨hc, hd⟩, hdat, h1, ?_, rfl, I1.bare, raises_own TC.exC TC.tyC, q1 d (I1.hok.fresh M.dbig)⟩
    · by_cases hb : b = e
      · have q' : G'.get? b = some o := q
        rw [hb, ge] at q'; cases q'
      · exact (gk b hb).symm.trans q
    · rw [upd_ne (Ne.symm M.dne)]
      exact I1.hok.fresh M.new
/-- raise C(e): the wish of the def -/
def raise3 (C : Addr) (EX : X3) (ta : A3) : S3 := fun _ s M => ta s M fun ds M1 => ∃ d, ds = [d] ∧ EX C d M1
theorem q_raise {a : Expr} {ta : A3} {x : Str} {p pos pos2 : Pos} {k : Nat} {W : WX} {EX : X3} (hc : X.calm = true) (T : Deed.InitTxt X.prog X.K D fI cc cda) (TC : Deed.ClsTxt X.K D fI C) (hr : Room k X.A) (tk : Takes X W) (hW : ∀ σ, XOk X.K T0 EX fun cls d H => W cls d σ H) (ha : QA X T0 [a] ta) (hg : Gl X x) (hm : X.mg x = some (.ref C)) (hdb : (x == ("__debug__" : Str)) = false)
    (he : starEach (a :: []) X.env = (false, eval a X.env) :: starEach [] X.env) (hpl : (backTo pos (starEach [] X.env)).any (·.1) = false) :
    QS X T0 (.Raise (some (.Call (.Name x p) [a] [] pos)) none pos2) (raise3 C EX ta) :=
  (ps_raise hc tk (pmk_deed T TC hr ha hg hm hdb he hpl)).imp fun D' σ H ⟨T, M, s, D3, S0, R, S, q, U⟩ => ⟨T, M, s, _, S0, R, S, q, fun T1 H1 M1 ds vs s1 R1 r1 ⟨d, e1, q1⟩ => by
    subst e1
    simp only [RelDs] at r1
    obtain ⟨v, w, rfl, rd, rfl⟩ := r1
    exact ⟨v, rfl, fun dd hd => hW σ _ _ _ ⟨C, dd, v, T1, M1, d, rfl, rfl, upd_same, S0.trans s1, R1.same_new hd, rd, q1⟩⟩⟩
end
end L3
end

section
set_option Elab.async false
set_option linter.all false
set_option maxRecDepth 100000
set_option maxHeartbeats 1000000
/-! L3t: try: .. / except C as n: x = n: the exception is kept by a name. -/
namespace L3
open PySem PySem.Spec PyProof.Rows L2

/-- an untracked object of ours, that no pin names, is known from now on -/
theorem inv_track {X : Cx} {pins : List (Addr × Obj)} {σ : St} {H : Hp} {s : Shared} {a : Addr} {o : HO} (I : Inv X pins σ H s) (n : H a = none) (n0 : X.s_0.heap.get? a = none) (nl : a ≠ X.env.locals) (nc : ∀ x c, X.env.cells.lookup x = some c → c ≠ a)
    (np : ∀ p ∈ X.pn ++ pins, p.1 ≠ a) (ok : ObjOk X.prog X.w (upd H a o) s.heap a o) : Inv X pins σ (upd H a o) s := by
  have sm : ∀ b u, H b = some u → (upd H a o) b = some u := fun b u e => by rw [upd_ne (ne_of_none e n)]; exact e
  have old : ∀ b u, X.s_0.heap.get? b = some u → b ≠ a := fun b u e z => by rw [z, n0] at e; cases e
  refine ⟨I.ok, I.os, I.bare, ⟨I.base.keep, I.base.slot, fun b u e z hx => ?_, I.base.there, fun b xs e => sm _ _ (I.base.tups b xs e), fun b ob u e => sm _ _ (I.base.frzs b ob u e), fun b ps e => ?_⟩, I.loc, I.cell, ?_, fun x c e => ?_, fun p hp => ?_, fun b u e => ?_, I.len⟩
  · rw [upd_ne (old b u e)]
    exact I.base.free b u e z hx
  · obtain ⟨more, z⟩ := I.base.tbls b ps e
    exact ⟨more, sm _ _ z⟩
  · rw [upd_ne (Ne.symm nl)]
    exact I.free
  · rw [upd_ne (nc x c e)]
    exact I.freeC x c e
  · obtain ⟨h1, h2, h3⟩ := I.pin p hp
    exact ⟨h1, by rw [upd_ne (np p hp)]; exact h2, h3⟩
  · by_cases hb : b = a
    · subst hb
      rw [upd_same] at e
      cases e
      exact ok
    · rw [upd_ne hb] at e
      exact (I.hok b u e).stay (fun c v _ q => q) (fun c q => sm _ _ q) fun c xs q => sm _ _ q
/-- what the clause wishes of an exception of the body -/
def wKept (K : PySem.W.Frag) (c : Value) (i j : Nat) (D : Ends) : WX := fun cls d σ H => ∃ C dd, cls = .ref C ∧ d = some dd ∧ PySem.W.exmOne K cls c = some true ∧ ∀ a, H a = none → D.nx ((σ.set i none).set j (some (.ref a))) (upd H a (ExcO a C dd))
section
variable {X : Cx} {x n y : Str} {c : Value} {i j : Nat} {body : List Stmt} {np nq py spos pos pos' : Pos} {tb : WX → TS}
theorem ps_try_kept (hs : X.stack = X.env :: X.outer) (hf : X.env.frame = some X.env.locals) (hN : X.N.Nodup) (hi : X.N[i]? = some n) (hj : X.N[j]? = some y) (hij : i ≠ j) (hln : X.env.kindOf n = some .local) (hly : X.env.kindOf y = some .local) (hc : Names X x c) (hex : X.ex = [])
    (hdn : (n == ("__debug__" : Str)) = false) (hcdn : (n == ("__classdict__" : Str)) = false)
    (hb : ∀ (W : WX) (pn : List (Addr × Obj)) (xe : Value → Shared → Prop), Takes (X.tr pn xe) W → PassesOwn (model X.prog X.w) X.A X.env xe → PSs (X.tr pn xe) body (tb W))
    (hsw : swapsWith (.Name n nq) (some (.Name y py)) spos.line X.env = pure false) :
    PS X (.Try body [.ExceptHandler (some (.Name x np)) (some n) [.Assign [.Name y py] (.Name n nq) spos] pos'] [] [] pos)
      (fun D σ H => tb (wKept X.K c i j D) D σ H) := by
  refine ⟨fun pins s σ H D I h => ?_⟩
  have ok := I.ok
  have hfr : X.A.frames = some (X.env :: X.outer) := by rw [ok.frames, hs]
  have hloc : Loc X.env.scope n := .inl hln
  refine wpAny_Try_except ?_
  refine wpAny_mono ((hb (wKept X.K c i j D) (X.pn ++ pins) (fun e s₁ => wpAny (model X.prog X.w) X.A (noteFrame e X.env) (fun _ s₂ => wpAny (model X.prog X.w) X.A (setFlight e none) (fun _ s₃ =>
    wpAny (model X.prog X.w) X.A (handleBy e X.env [.ExceptHandler (some (.Name x np)) (some n) [.Assign [.Name y py] (.Name n nq) spos] pos']) (SP X pins D) X.xe s₃) X.xe s₂) X.xe s₁) (fun u s' xx => ?_) PassesOwn.looking).run [] s σ H D (I.toTry _) h) (fun f s1 hsp => ?_) (fun e s1 he => he)
  · obtain ⟨a, B, sI, pins', σ', H', cls, d, rfl, J', nb, up, sky, na, os, ag, C, dd, rfl, rfl, hm, hD⟩ := xx
    have J : Inv X pins σ' H' sI := J'.ofTry ok
    have sky' : Sky B (X.env :: X.outer) a (Zc (.ref C) (some dd)) X.env.locals s'.heap := by rw [← hs]; exact sky
    show wpAny (model X.prog X.w) X.A (noteFrame (.ref a) X.env) _ _ _
    refine Sky.land Zc.steady hfr hf sky' fun h3 fl3 up3 => ?_
    have J3 : Inv X pins σ' H' { s' with heap := h3 } := J.landed nb fl3.1 (up.trans up3) os ag
    obtain ⟨oe3, vs3, he3, hz3, hd3⟩ := fl3.there
    have nfr : a ∉ frs (X.env :: X.outer) := fun hm => by
      obtain ⟨_, o', e', hnf⟩ := fl3.2.2.1.mem hm
      rw [he3] at e'; cases e'
      exact hnf _ hd3
    have nL : a ≠ X.env.locals := fun z => nfr (List.mem_filterMap.mpr ⟨X.env, List.mem_cons_self, by rw [hf, z]⟩)
    have nF : a ∉ X.fs := fun hm => by
      obtain ⟨e, he, q⟩ := List.mem_filterMap.mp hm
      exact nfr (List.mem_filterMap.mpr ⟨e, List.mem_cons_of_mem _ he, q⟩)
    have nB : B.get? a = none := fl3.2.1
    -- what stood ahead is not the exception
    have nI : sI.heap.get? a = none := by
      cases q : sI.heap.get? a with
      | none => rfl
      | some o =>
        have z := nb a o q (by rw [hs]; exact nfr)
        rw [nB] at z
        cases z
    have n0 : X.s_0.heap.get? a = none := by
      cases q : X.s_0.heap.get? a with
      | none => rfl
      | some o =>
        obtain ⟨o', z⟩ := J.base.there a o q (by rw [hex]; simp)
        rw [nI] at z
        cases z
    have nP : ∀ p ∈ X.pn ++ pins, p.1 ≠ a := fun p hp z => by
      have e := (J.pin p hp).1
      rw [z, nI] at e
      cases e
    have S3 := J3.suite he3 hd3 na nL nF
    refine wpAny_handleBy_cons (codeAny_handlers_test ?_) (by intro q; cases q)
    have LT : PySem.W.Looks (model X.prog X.w) h3 (typeOf (.ref a)) (.ref C) := fun A Q E s k q => wpAny_typeOf_ref (k _ _ he3) (by rw [hz3.1]; exact q)
    have LM := PySem.W.exm_one (M := model X.prog X.w) (J3.kIn) LT hm
    have test : ∀ {Q : Value → Shared → Prop} {E : Value → Shared → Prop}, Q c { s' with heap := h3 } → wpAny (model X.prog X.w) (X.A.mark (some (.ref a))) (eval (.Name x np) X.env) Q E { s' with heap := h3 } := fun {Q E} q => by
      obtain ⟨hg, hdbg, hm | ⟨hm, hv, hnn⟩⟩ := hc
      · exact ld_glob (X := X.suite a ((a, oe3) :: (X.pn ++ pins))) S3 hg hm q hdbg
      · exact ld_blt (X := X.suite a ((a, oe3) :: (X.pn ++ pins))) S3 hg hm hv q hnn hdbg
    refine test (LM.here ?_)
    refine codeAny_handlers_suite_as ?_
    refine HandSPX.lands_againZ fl3 fun h4 fl4 up4 => ?_
    have J4 : Inv X pins σ' H' { s' with heap := h4 } := J.landed nb fl4.1 ((up.trans up3).trans up4) os ag
    obtain ⟨oe4, vs4, he4, hz4, hd4⟩ := fl4.there
    have S4 := J4.suite he4 hd4 na nL nF
    refine store_ok (X := X.suite a ((a, oe4) :: (X.pn ++ pins))) (v := .ref a) S4 hN hi hloc rfl (fun s5 S5 => ?_) (.inr hln)
    have hsuite : PSs (X.suite a ((a, oe4) :: (X.pn ++ pins))) [.Assign [.Name y py] (.Name n nq) spos] (tAsg (tVar i) (gName j)) :=
      pss_one (ps_set hN hj (.inl hly) (pe_var hi (.inl hln) hdn hcdn) hsw (.inr hly))
    have hil : i < σ'.length := by
      rw [J.len]
      exact (List.getElem?_eq_some_iff.mp hi).1
    refine wpAny_mono (hsuite.run [] s5 _ H' { nx := fun σ6 H6 => σ6 = (σ'.set i (some (.ref a))).set j (some (.ref a)) ∧ H6 = H', rt := fun _ _ => False } S5 ⟨.ref a, List.getElem?_set_self hil, rfl, rfl⟩) (fun f s6 hsp => ?_) (fun _ _ z => False.elim z)
    cases f with
    | next =>
      obtain ⟨σ6, H6, S6, e6, e7⟩ := hsp
      subst e6 e7
      have P6 := S6.unsuite ok
      have pa : s6.heap.get? a = some oe4 ∧ H6 a = none ∧ a ≠ X.env.locals ∧ a ∉ X.fs ∧ ∀ v, oe4.data ≠ .cell v := S6.pin (a, oe4) (List.mem_append_left _ List.mem_cons_self)
      have Q6 : Inv X ((a, oe4) :: pins) ((σ'.set i (some (.ref a))).set j (some (.ref a))) H6 s6 := P6.pins_of fun p hp => by
        rcases List.mem_cons.mp hp with rfl | hp
        · exact pa
        · exact P6.pin p (List.mem_append_right _ hp)
      refine gone_ok Q6 hN hi hln fun s7 J7 => ?_
      have pa7 := J7.pin (a, oe4) (List.mem_append_right _ List.mem_cons_self)
      have J8 : Inv X pins _ H6 s7 := J7.pins_of fun p hp => J7.pin p (List.mem_append_right _ (List.mem_cons_of_mem _ hp))
      have es : (((σ'.set i (some (.ref a))).set j (some (.ref a))).set i none) = (σ'.set i none).set j (some (.ref a)) := by
        rw [List.set_comm _ _ hij.symm, List.set_set]
      rw [es] at J8
      have ok7 : ObjOk X.prog X.w (upd H6 a (ExcO a C dd)) s7.heap a (ExcO a C dd) := by
        refine ⟨⟨oe4, vs4, pa7.1, hz4.1, hz4.2, hd4⟩, ⟨_, pa7.1⟩, fun h1 h2 ⟨oe, vs, a1, a2, a3, a4⟩ st => ⟨oe, vs, st _ a1, a2, a3, a4⟩⟩
      refine ⟨_, _, inv_track J8 pa7.2.1 n0 nL (fun z cc e q => ?_) nP ok7, hD a pa7.2.1⟩
      obtain ⟨v, o, ho, hdd⟩ := J8.cell z cc e
      rw [q, pa7.1] at ho
      cases ho
      rw [hd4] at hdd
      cases hdd
    | brk => obtain ⟨_, _, _, q6⟩ := hsp; exact q6.elim
    | cont => obtain ⟨_, _, _, q6⟩ := hsp; exact q6.elim
    | ret u => obtain ⟨_, _, _, _, _, q6⟩ := hsp; exact q6.elim
  · cases f with
    | next =>
      obtain ⟨σ', H', J', q⟩ := hsp
      exact wpAny_execs_nil ⟨σ', H', J'.ofTry ok, q⟩
    | brk =>
      obtain ⟨σ', H', J', q⟩ := hsp
      exact ⟨σ', H', J'.ofTry ok, q⟩
    | cont =>
      obtain ⟨σ', H', J', q⟩ := hsp
      exact ⟨σ', H', J'.ofTry ok, q⟩
    | ret u =>
      obtain ⟨v, σ', H', J', r, q⟩ := hsp
      exact ⟨v, σ', H', J'.ofTry ok, r, q⟩
end
/-! ### a lambda that is called within a try: what is wished of its exceptions hangs on the caller's slots -/
section
variable {X : Cx} {pins : List (Addr × Obj)} {σ : St} {H HZ : Hp} {s s1 : Shared}
/-- a(), a what the def got -/
theorem act_lam {CXg : CXT} {Eg : XK} {Ng : List Str} {qg : Str} {sg : Scope} {g f c' : Addr} {cdg pm ctv : Value} {params : Arguments} {body : Expr} {scope : Scope} {k i : Nat} {a : Str} {pn : List (Addr × Obj)} {xe : Value → Shared → Prop} {W : WX} {E : St → XK} {tb : XK → TE} {p1 p2 : Pos}
    (I : Inv X pins σ H s) (L : LamX.LamS X.env.scope scope) (hf : s.heap.get? f = some (PySem.W.kla_obj "<lambda>" (X.env.qual ++ "<lambda>") params body scope (cloFrom X.env.cells scope.names []) pm c' ctv)) (hfn : H f = none) (hfr : f ∉ frs X.stack)
    (hbind : bindArgs (PySem.W.kla_fn "<lambda>" (X.env.qual ++ "<lambda>") params body scope (cloFrom X.env.cells scope.names []) pm (.ref c') ctv) ⟨[], []⟩ = pure [])
    (tk : Takes ((cxOf CXg X.prog X.w X.K X.mg X.base Ng qg sg g cdg X.A X.stack s H Eg).tr pn xe) W) (hW : ∀ cls d σ' H', E σ' cls d H' → W cls d σ' H') (hr : Room (k + 1) (X.A.deeper (envOfC qg sg s.heap.objs.size g cdg)))
    (hbody : ∀ (A : Around) (outer : List Env) (s : Shared) (H : Hp) (E1 : XK), Room k (A.deeper (LamX.lamEnv X scope s.heap.objs.size f c')) → PE (LamX.lamCx X A outer s H E1 scope f c') body (tb E1))
    (hN : Ng[i]? = some a) (hv : Vis sg a) (hd : (a == ("__debug__" : Str)) = false) (hcd : (a == ("__classdict__" : Str)) = false) :
    PE ((cxOf CXg X.prog X.w X.K X.mg X.base Ng qg sg g cdg X.A X.stack s H Eg).tr pn xe) (.Call (.Name a p1) [] [] p2)
      (fun σZ HZ Q => σZ[i]? = some (some (.ref f)) ∧ HZ c' = some (LamX.CodeO c' (X.env.qual ++ "<lambda>")) ∧ tb (E σZ) σ HZ Q) := by
  refine ⟨fun pinsZ sZ σZ HZ Q IZ h => ?_⟩
  obtain ⟨hs, hc, ht⟩ := h
  refine wpAny_Call_Name_kw (thn ((pe_var (pos := p1) (i := i) hN hv hd hcd).run pinsZ sZ σZ HZ (fun v H1 => v = .ref f ∧ H1 = HZ) IZ ⟨.ref f, hs, rfl, rfl⟩) fun u s1 ⟨v, H1, I1, r1, ev, eH⟩ => ?_)
  subst ev
  rw [eH] at I1
  obtain rfl : u = Value.ref f := r1
  have of1 : s1.heap.get? f = some (PySem.W.kla_obj "<lambda>" (X.env.qual ++ "<lambda>") params body scope (cloFrom X.env.cells scope.names []) pm c' ctv) := I1.base.keep f _ hf hfn hfr (fun z => nomatch (show f ∈ ([] : List Addr) from z))
  refine PySem.W.callWith_F0 ⟨_, _, _, _, of1⟩ ?_
  have un : Un (frs X.stack) [] H HZ s.heap s1.heap := I1.base
  obtain ⟨⟨oc, vs, t, hoc, hdc, hvc⟩, _, _⟩ := I1.hok c' _ hc
  have rc : codeAny (model X.prog X.w) (X.A.deeper (envOfC qg sg s.heap.objs.size g cdg)) (.call (.ref f) ⟨[], []⟩) (CR (L2.CX X.prog X.w) (envOfC qg sg s.heap.objs.size g cdg :: X.stack) X.prog X.w HZ s1 Q (E σZ)) s1 := by
    refine PySem.W.kla_callFunE hr.depth of1 rfl L.co L.gen rfl ⟨c', oc, vs, t, rfl, hoc, hdc, hvc⟩ ?_
    rw [hbind]
    refine wpAny_pure (wpAny_newFunctionEnv (fun y hy => (L.own y hy).2) (fun y hy => absurd hy (by simp)) (fun h₁ hns hsb => ⟨I1.nolimit.fresh _ hsb, ?_⟩) L.kind)
    show codeAny _ _ (.expr body (LamX.lamEnv X scope s1.heap.objs.size f c')) _ _
    have kp : ∀ b o, s1.heap.get? b = some o → h₁.get? b = some o := fun b o e => hsb.extBut b o (Nat.ne_of_lt (Heap.lt_size e)) (Heap.get?_push_of_some _ e)
    have J : Inv (LamX.lamCx X (X.A.deeper (envOfC qg sg s.heap.objs.size g cdg)) (envOfC qg sg s.heap.objs.size g cdg :: X.stack) s1 HZ (E σZ) scope f c') [] σ HZ { s1 with heap := h₁, toks := s1.toks + ([] : List (Str × Value)).length } :=
      LamX.lam_start2 I L I1.env0 hr.hd un hns kp
    refine PySem.W.kla_codeExpr (wpAny_mono ((hbody _ _ s1 HZ (E σZ) (hr.deeper _)).run [] _ _ HZ Q J ht) (fun v s' hq => ?_) fun e s' hq => hq)
    obtain ⟨w', H', J', rv, q⟩ := hq
    exact ⟨w', H', J'.os, J'.bare, J'.base, J'.hok, rv, q⟩
  refine wpAny_call (codeAny_mono rc fun r s' hq => ?_)
  cases r with
  | error e => exact tk e s' (XE.of_call I1 (fun cls d H' z => hW cls d σZ H' z) hq)
  | ok fl =>
    cases fl with
    | ret u => exact I1.after hq
    | next => exact False.elim hq
    | brk => exact False.elim hq
    | cont => exact False.elim hq
end
/-- the def that calls what it got: a calls it; TT: what it makes of the lambda's reading -/
def GivesS (X : Cx) (Ng : List Str) (x : Str) (sg : Scope) (g : Addr) (cdg : Value) (bg : List Stmt) (a : Str) (q : Str) (TT : (XK → Hp → VK → Prop) → Hp → VK → Prop) : Prop :=
  ∀ (f c' : Addr) (s : Shared) (H : Hp) (Q : VK) (tl : XK → Hp → VK → Prop),
    (∀ (W : WX) (pn : List (Addr × Obj)) (xe : Value → Shared → Prop) (E : St → XK) (p1 p2 : Pos), Takes ((cxOf C8.CX0 X.prog X.w X.K X.mg X.base Ng x sg g cdg X.A X.stack s H C8.E0).tr pn xe) W → (∀ cls d σ' H', E σ' cls d H' → W cls d σ' H') →
      PE ((cxOf C8.CX0 X.prog X.w X.K X.mg X.base Ng x sg g cdg X.A X.stack s H C8.E0).tr pn xe) (.Call (.Name a p1) [] [] p2) (fun σZ HZ Q => σZ[0]? = some (some (.ref f)) ∧ HZ c' = some (LamX.CodeO c' q) ∧ tl (E σZ) HZ Q)) →
    H c' = some (LamX.CodeO c' q) → TT tl H Q →
    ∃ t, PSs (cxOf C8.CX0 X.prog X.w X.K X.mg X.base Ng x sg g cdg X.A X.stack s H C8.E0).nox bg t ∧ t { nx := fun _ H' => Q .non H', rt := Q } (L2.start Ng [.ref f]) H
section
variable {X : Cx}
/-- x(lambda: body) -/
theorem pe_lamS {T : List (Addr × Str)} {TT : (XK → Hp → VK → Prop) → Hp → VK → Prop} {x a : Str} {g c P : Addr} {k : Nat} {pg : Arguments} {bg : List Stmt} {sg : Scope} {dV kV doc pm cdv ct oc : Value} {an od : Option Addr} {osl : Array (Option Value)} {Ng : List Str}
    {params : Arguments} {body : Expr} {scope : Scope} {t : XK → TE} {p lpos pos : Pos} (hg : Gl X x) (hm : X.mg x = some (.ref g)) (hk : PySem.W.keepIn X.K (.ref g) = true)
    (lk : X.K.lookup g = some ⟨oc, od, .func (PySem.W.fnOf x x pg bg sg dV kV doc pm an cdv ct), osl⟩) (hcg : PySem.W.codeIn X.K cdv x = true) (hb : L2.Binds X.K (PySem.W.fnOf x x pg bg sg dV kV doc pm an cdv ct) [a] []) (Sg : FnScope Ng [a] sg) (hNg : Ng[0]? = some a) (hva : Vis sg a)
    (hG : GivesS X Ng x sg g cdv bg a (X.env.qual ++ "<lambda>") TT)
    (TB : LamX.TabB X.base X.mg c P) (hcode : X.env.code = .ref c) (hmT : (P, X.env.qual ++ "<lambda>") ∈ T) (hu : ∀ p ∈ T, p.1 = P → p.2 = X.env.qual ++ "<lambda>") (hr : Room (k + 2) X.A) (L : LamX.LamS X.env.scope scope) (hdef : defaultsOf params X.env = ([], []))
    (hbind : ∀ (q : Str) (cl : List (Str × Addr)) (pm cv ctv : Value), bindArgs (PySem.W.kla_fn "<lambda>" q params body scope cl pm cv ctv) ⟨[], []⟩ = pure [])
    (hbody : ∀ (A : Around) (outer : List Env) (s : Shared) (H : Hp) (E : XK) (f c' : Addr), Room k (A.deeper (LamX.lamEnv X scope s.heap.objs.size f c')) → PE (LamX.lamCx X A outer s H E scope f c') body (t E))
    (hdb : (x == ("__debug__" : Str)) = false) (hd : (a == ("__debug__" : Str)) = false) (hcd : (a == ("__classdict__" : Str)) = false) :
    PE X (.Call (.Name x p) [.Lambda params body scope lpos] [] pos) (LamX.tLam T TT t) := by
  refine ⟨fun pins s σ H Q I h => ?_⟩
  obtain ⟨hT, h⟩ := h
  refine wpAny_Call_Name_kw (ld_glob I hg hm ?_ hdb)
  refine PySem.W.callWith_K (h₀ := X.base) I.ok.mod.kin hk ?_ (by rfl) (by rfl)
  show wpAny _ _ (spliced ((false, eval (.Lambda params body scope lpos) X.env) :: backTo pos (starEach [] X.env))) _ _ s
  refine Calls.spliced_cons (LamX.lam_make2 I TB hcode hmT hu hT hdef (L.has I.ok) fun f c' pm' ctv H1 s' I1 eN T1 hf hfn hfr hco => ?_)
  refine Calls.spliced_nil ⟨I1.kIn, ?_⟩
  have rc : codeAny (model X.prog X.w) X.A (.call (.ref g) ⟨[.ref f], []⟩) (CR C8.CX0 X.stack X.prog X.w H1 s' Q C8.E0) s' := by
    refine LamX.run_ofS (N := Ng) (ps := [a]) (us := [.ref f]) (vs := [.ref f]) lk hcg Sg hr I1.env0 (hb s' [.ref f] I1.kIn rfl) (.cons rfl .nil) rfl fun hr' => ?_
    obtain ⟨t', ht', hq'⟩ := hG f c' s' H1 Q (fun E H' Q' => t E σ H' Q') (fun W pn xe E p1 p2 tk hW => act_lam (i := 0) I1 L hf hfn hfr (hbind _ _ _ _ _) tk hW hr' (fun A outer s H E1 hr2 => hbody A outer s H E1 f c' hr2) hNg hva hd hcd) hco (h H1 eN T1)
    exact ⟨t', ht'.nox, hq'⟩
  refine wpAny_call (codeAny_mono rc fun r s2 hq => ?_)
  cases r with
  | error e => exact (show False from hq).elim
  | ok fl =>
    cases fl with
    | ret u => exact I1.after hq
    | next => exact False.elim hq
    | brk => exact False.elim hq
    | cont => exact False.elim hq
end
/-! ### the laws' own hearing: def heard(call): caught, back = None, None; try: back = call(); except C as error: caught = error; return (caught, back) -/
def TTheard (K : PySem.W.Frag) (CS : Addr) : (XK → Hp → VK → Prop) → Hp → VK → Prop := fun tl H Q => ∀ H0, Same H H0 →
  tl (fun cls d H' => ∃ C dd, cls = .ref C ∧ d = some dd ∧ PySem.W.exmOne K cls (.ref CS) = some true ∧ ∀ a, H' a = none → ∀ p, (upd H' a (ExcO a C dd)) p = none → Q (.ref p) (upd (upd H' a (ExcO a C dd)) p (.tup [.ref a, .non])))
    H0 (fun v H' => ∀ p, H' p = none → Q (.ref p) (upd H' p (.tup [.non, v])))
section
variable {X : Cx}
abbrev hearScope : Scope := { kind := .function, names := [(PySem.Str.ofString "call", .local), (PySem.Str.ofString "caught", .local), (PySem.Str.ofString "back", .local), (PySem.Str.ofString "error", .local), (PySem.Str.ofString "DeedError", .globalImplicit)], isGenerator := false, isCoroutine := false, more := [] }
abbrev hearN : List Str := ["call", "caught", "back", "error"]
abbrev hearBody (p1 p2 p3 p4 p5 p6 p7 p8 p9 q1 q2 q3 q4 q5 q6 q7 q8 q9 r1 r2 r3 : Pos) : List Stmt :=
  [.Assign [.Tuple [.Name "caught" p1, .Name "back" p2] 0 p3] (.Tuple [.Constant .none 0 p4, .Constant .none 0 p5] 0 p6) p7,
   .Try [.Assign [.Name "back" p8] (.Call (.Name "call" p9) [] [] q1) q2] [.ExceptHandler (some (.Name "DeedError" q3)) (some "error") [.Assign [.Name "caught" q4] (.Name "error" q5) q6] q7] [] [] q8,
   .Return (some (.Tuple [.Name "caught" q9, .Name "back" r1] 0 r2)) r3]
/-- a weaker end -/
theorem pe_post {X : Cx} {e : Expr} {t : TE} (h : PE X e t) : PE X e (fun σ H Q => ∃ K : VK, t σ H K ∧ ∀ v H', K v H' → Q v H') := ⟨fun pins s σ H Q I ⟨K, h1, h2⟩ =>
  wpAny_mono (h.run pins s σ H K I h1) (fun u s' ⟨v, H', I', r, q⟩ => ⟨v, H', I', r, h2 _ _ q⟩) fun _ _ z => z⟩
theorem hearNd : hearN.Nodup := by decide +kernel
theorem heard_gives {x q : Str} {g CS : Addr} {cdg : Value} {p1 p2 p3 p4 p5 p6 p7 p8 p9 q1 q2 q3 q4 q5 q6 q7 q8 q9 r1 r2 r3 : Pos} (hme : X.mg "DeedError" = some (.ref CS))
    (hw : ∀ L, swappedStores [.Tuple [.Name "caught" p1, .Name "back" p2] 0 p3] (.Tuple [.Constant .none 0 p4, .Constant .none 0 p5] 0 p6) (envOfC x hearScope L g cdg) = pure none)
    (hsw : ∀ L, swapsWithSole [.Tuple [.Name "caught" p1, .Name "back" p2] 0 p3] (.Tuple [.Constant .none 0 p4, .Constant .none 0 p5] 0 p6) p7.line (envOfC x hearScope L g cdg) = pure false) :
    GivesS X hearN x hearScope g cdg (hearBody p1 p2 p3 p4 p5 p6 p7 p8 p9 q1 q2 q3 q4 q5 q6 q7 q8 q9 r1 r2 r3) "call" q (TTheard X.K CS) := by
  intro f c' s H Q tl act hc h
  have hgl : Gl (cxOf C8.CX0 X.prog X.w X.K X.mg X.base hearN x hearScope g cdg X.A X.stack s H C8.E0).nox "DeedError" := by
    show hearScope.names.lookup ("DeedError" : Str) = some .globalImplicit
    decide +kernel
  have lc : hearScope.names.lookup ("caught" : Str) = some .local := by decide +kernel
  have lb : hearScope.names.lookup ("back" : Str) = some .local := by decide +kernel
  have le : hearScope.names.lookup ("error" : Str) = some .local := by decide +kernel
  refine ⟨_, pss_cons (ps_asg (pe_tup (pa_cons pe_non (pa_cons pe_non pa_nil))) (pg_tup rfl (pgs_cons (pg_name (i := 1) hearNd rfl (.inl lc) (.inr lc)) (pgs_cons (pg_name (i := 2) hearNd rfl (.inl lb) (.inr lb)) pgs_nil))) (hsw _) (hw _) rfl)
    (pss_cons (ps_try_kept (X := (cxOf C8.CX0 X.prog X.w X.K X.mg X.base hearN x hearScope g cdg X.A X.stack s H C8.E0).nox) (i := 3) (j := 1) (c := .ref CS)
      (tb := fun W D σ H => ∃ Ech : St → XK, (∀ cls d σ' H', Ech σ' cls d H' → W cls d σ' H') ∧ σ[0]? = some (some (.ref f)) ∧ H c' = some (LamX.CodeO c' q) ∧ ∃ K : VK, tl (Ech σ) H K ∧ ∀ v H', K v H' → D.nx (σ.set 2 (some v)) H')
      rfl rfl hearNd rfl rfl (by decide) le lc ⟨hgl, by decide, .inl hme⟩ rfl (by decide) (by decide) (fun W pn xe tk _ => ?_) (by rfl))
      (pss_one (ps_ret (pe_tup (pa_cons (pe_var (i := 1) rfl (.inl lc)) (pa_cons (pe_var (i := 2) rfl (.inl lb)) pa_nil)))))), ?_⟩
  · refine ⟨fun pins s' σ H' D I h' => ?_⟩
    obtain ⟨Ech, hW, h1, h2, KK, h3, h4⟩ := h'
    have hp := pe_post (act W pn xe Ech p9 q1 tk hW)
    exact (pss_one (ps_set (i := 2) (pos := q2) (pos' := p8) hearNd rfl (.inl lb) hp (by rfl) (.inr lb))).run pins s' σ H' D I ⟨KK, ⟨h1, h2, h3⟩, h4⟩
  · refine ⟨by show 2 ≤ sizeLine; rw [sizeLine_eq]; decide, fun p hp => ⟨p, _, rfl, SqT.of upd_same, rfl, .non, _, rfl, .non, _, rfl, rfl, ?_⟩⟩
    have sm : Same H (upd H p (.tup [.non, .non])) := fun b u e => by rw [upd_ne (ne_of_none e hp)]; exact e
    have w0 := h _ sm
    refine ⟨fun σ' cls d H' => σ' = ((L2.start hearN [V.ref f]).set 1 (some .non)).set 2 (some .non) ∧ ∃ C dd, cls = .ref C ∧ d = some dd ∧ PySem.W.exmOne X.K cls (.ref CS) = some true ∧ ∀ a, H' a = none → ∀ p, (upd H' a (ExcO a C dd)) p = none → Q (.ref p) (upd (upd H' a (ExcO a C dd)) p (.tup [.ref a, .non])), ?_, rfl, sm _ _ hc, (fun v H' => ∀ p, H' p = none → Q (.ref p) (upd H' p (.tup [.non, v]))), by simpa only [true_and, eq_self_iff_true] using w0, fun v H' k => ⟨.non, rfl, v, rfl, by show 2 ≤ sizeLine; rw [sizeLine_eq]; decide, fun p2 hp2 => k p2 hp2⟩⟩
    rintro cls d σ' H' ⟨rfl, C, dd, rfl, rfl, hm, k⟩
    exact ⟨C, dd, rfl, rfl, hm, fun a ha => ⟨.ref a, rfl, .non, rfl, by show 2 ≤ sizeLine; rw [sizeLine_eq]; decide, fun p2 hp2 => k a ha p2 hp2⟩⟩
end
end L3
end

section
set_option Elab.async false
set_option linter.all false
set_option maxRecDepth 100000
set_option maxHeartbeats 400000
/-! L3u: hearing, over D. -/
namespace L3
open PySem PySem.Spec PyProof.Rows L2
def heard3 (K : PySem.W.Frag) (CS : Addr) (tb : X3 → E3) : E3 := fun s M Q =>
  tb (fun C d M' => PySem.W.exmOne K (.ref C) (.ref CS) = some true ∧ ∀ a, M' a = none → Q (.tup [.ref a, .non]) (mup M' a (.exc C d))) s M (fun d M' => Q (.tup [.non, d]) M')
section
variable {K : PySem.W.Frag} {T0 T : Tm} {H : Hp} {M : HM}
theorem Rep.newExc (R : Rep K T H M) {a C dd : Addr} {v : V} {d : D} (h : H a = none) (hd : H dd = some (.xd [(("value" : Str), v)])) (r : RelD K T d v) : Rep K T (upd H a (ExcO a C dd)) (mup M a (.exc C d)) := by
  have R' := R.same_new (o := ExcO a C dd) h
  refine ⟨R'.tup, fun b o e => ?_, R'.tab⟩
  by_cases q : b = a
  · subst q
    rw [mup_same] at e
    cases e
    exact ⟨dd, v, upd_same, by rw [upd_ne (ne_of_none hd h)]; exact hd, r⟩
  · rw [mup_ne q] at e
    exact R'.obj b o e
theorem heard_up {CS : Addr} {tb : X3 → E3} (σ : St) (H : Hp) (Q : VK) (h : upE K T0 (heard3 K CS tb) σ H Q) :
    LamX.tLam T0.tl (TTheard K CS) (fun E σ H Q => ∃ T1 EX, T1.tl = T0.tl ∧ XOk K T1 EX E ∧ upE K T1 (tb EX) σ H Q) σ H Q := by
  obtain ⟨T, M, s, Q3, S0, R, S, q, k⟩ := h
  have tT := R.tab
  rw [S0.tl] at tT
  refine ⟨tT, fun H1 eN t1 H0 sm => ?_⟩
  have R1 : Rep K T H1 M := R.extN eN (by rw [S0.tl]; exact t1)
  have R0 : Rep K T H0 M := R1.same sm
  refine ⟨T, _, S0.tl, ?_, T, M, s, _, Sub.refl T, R0, S, q, ?_⟩
  · rintro cls dd H' ⟨C, a0, v, T', M', d, rfl, rfl, e3, sub, R', r, hm, hall⟩
    refine ⟨C, a0, rfl, rfl, hm, fun a ha p hp => k _ _ ?_⟩
    have R2 := R'.newExc (C := C) ha e3 r
    exact ⟨tput T' p [.ref a, .non], _, .tup [.ref a, .non], sub.trans (Sub.put (R2.noT hp)), R2.newTup hp, RelD.tupOf tput_same (RelDs.cons refRel (RelDs.one nonRel)), hall a (R'.noM ha)⟩
  · rintro v H' ⟨T', M', d, sub, R', r, q'⟩ p hp
    exact k _ _ ⟨tput T' p [.non, v], M', .tup [.non, d], sub.trans (Sub.put (R'.noT hp)), R'.newTup hp, RelD.tupOf tput_same (RelDs.cons nonRel (RelDs.one (r.mono (Sub.put (R'.noT hp))))), q'⟩
end
section
variable {X : Cx} {T0 : Tm}
/-- the laws' heard(lambda: body) -/
theorem q_heard {x a : Str} {g c P CS : Addr} {k : Nat} {pg : Arguments} {bg : List Stmt} {sg : Scope} {dV kV doc pm cdv ct oc : Value} {an od : Option Addr} {osl : Array (Option Value)} {Ng : List Str}
    {params : Arguments} {body : Expr} {scope : Scope} {tb : X3 → E3} {p lpos pos : Pos} (hg : Gl X x) (hm : X.mg x = some (.ref g)) (hk : PySem.W.keepIn X.K (.ref g) = true)
    (lk : X.K.lookup g = some ⟨oc, od, .func (PySem.W.fnOf x x pg bg sg dV kV doc pm an cdv ct), osl⟩) (hcg : PySem.W.codeIn X.K cdv x = true) (hb : L2.Binds X.K (PySem.W.fnOf x x pg bg sg dV kV doc pm an cdv ct) [a] []) (Sg : FnScope Ng [a] sg) (hNg : Ng[0]? = some a) (hva : Vis sg a)
    (hG : GivesS X Ng x sg g cdv bg a (X.env.qual ++ "<lambda>") (TTheard X.K CS))
    (TB : LamX.TabB X.base X.mg c P) (hcode : X.env.code = .ref c) (hmT : (P, X.env.qual ++ "<lambda>") ∈ T0.tl) (hu : ∀ p ∈ T0.tl, p.1 = P → p.2 = X.env.qual ++ "<lambda>") (hr : Room (k + 2) X.A) (L : LamX.LamS X.env.scope scope) (hdef : defaultsOf params X.env = ([], []))
    (hbind : ∀ (q : Str) (cl : List (Str × Addr)) (pm cv ctv : Value), bindArgs (PySem.W.kla_fn "<lambda>" q params body scope cl pm cv ctv) ⟨[], []⟩ = pure [])
    (hbody : ∀ (A : Around) (outer : List Env) (s : Shared) (H : Hp) (E : XK) (f c' : Addr) (T1 : Tm) (EX : X3), T1.tl = T0.tl → XOk X.K T1 EX E → Room k (A.deeper (LamX.lamEnv X scope s.heap.objs.size f c')) → QE (LamX.lamCx X A outer s H E scope f c') T1 body (tb EX))
    (hdb : (x == ("__debug__" : Str)) = false) (hd : (a == ("__debug__" : Str)) = false) (hcd : (a == ("__classdict__" : Str)) = false) :
    QE X T0 (.Call (.Name x p) [.Lambda params body scope lpos] [] pos) (heard3 X.K CS tb) :=
  (pe_lamS (T := T0.tl) (t := fun E σ H Q => ∃ T1 EX, T1.tl = T0.tl ∧ XOk X.K T1 EX E ∧ upE X.K T1 (tb EX) σ H Q) hg hm hk lk hcg hb Sg hNg hva hG TB hcode hmT hu hr L hdef hbind
    (fun A outer s H E f c' hr' => ⟨fun pins s1 σ H1 Q I ⟨T1, EX, h1, h2, h3⟩ => (hbody A outer s H E f c' T1 EX h1 h2 hr').run pins s1 σ H1 Q I h3⟩) hdb hd hcd).imp heard_up
end
end L3
end

section
set_option Elab.async false
set_option linter.all false
set_option maxRecDepth 100000
set_option maxHeartbeats 400000
/-! L3k: set(list) for any kind of keys, the members as they are met. -/
namespace L3
namespace SK
open PySem PySem.Spec PyProof.Rows
section
variable {κ : Type} [DecidableEq κ]
def stepK (l : List κ) (k : κ) : List κ := if l.any (· == k) then l else l ++ [k]
/-- the members, in the sequence in which they are met -/
def met (xs : List κ) : List κ := xs.foldl stepK []
theorem met_snoc (xs : List κ) (k : κ) : met (xs ++ [k]) = stepK (met xs) k := by unfold met; rw [List.foldl_append]; rfl
theorem stepK_len (l : List κ) (k : κ) : (stepK l k).length ≤ l.length + 1 := by unfold stepK; split <;> simp
theorem met_take_le (xs : List κ) : ∀ i, (met (xs.take i)).length ≤ i
  | 0 => by simp [met]
  | i + 1 => by
    by_cases h : i < xs.length
    · rw [List.take_succ_eq_append_getElem h, met_snoc]
      have := stepK_len (met (xs.take i)) xs[i]
      have := met_take_le xs i
      omega
    · rw [List.take_of_length_le (by omega), ← List.take_of_length_le (show xs.length ≤ i by omega)]
      have := met_take_le xs i
      omega
theorem stepK_any (l : List κ) (v k : κ) : (stepK l v).any (· == k) = (l.any (· == k) || decide (k = v)) := by
  unfold stepK
  by_cases h : l.any (· == v) = true
  · rw [if_pos h]
    by_cases e : k = v
    · subst e; rw [h]; simp
    · simp [e]
  · rw [if_neg h, List.any_append]
    by_cases e : k = v
    · subst e; simp
    · have hb : (v == k) = false := by simpa [beq_iff_eq] using (fun h' : v = k => e h'.symm)
      simp [hb, e]
theorem stepK_length (l : List κ) (v : κ) : (stepK l v).length = if l.any (· == v) then l.length else l.length + 1 := by
  unfold stepK; split <;> simp
theorem mem_stepK {l : List κ} {v k : κ} : k ∈ stepK l v ↔ k ∈ l ∨ k = v := by
  unfold stepK
  by_cases h : l.any (· == v) = true
  · rw [if_pos h]
    simp only [List.any_eq_true, beq_iff_eq, exists_eq_right] at h
    exact ⟨.inl, fun z => z.elim id fun e => e ▸ h⟩
  · rw [if_neg h]
    simp
theorem met_spec : ∀ (xs acc : List κ), acc.Nodup → (xs.foldl stepK acc).Nodup ∧ (∀ k, k ∈ xs.foldl stepK acc ↔ k ∈ acc ∨ k ∈ xs)
  | [], acc, h => ⟨h, fun k => by simp⟩
  | x :: xs, acc, h => by
    have h2 : (stepK acc x).Nodup := by
      unfold stepK
      by_cases q : acc.any (· == x) = true
      · rw [if_pos q]; exact h
      · rw [if_neg q]
        rw [List.nodup_append]
        refine ⟨h, by simp, fun a ha b hb e => ?_⟩
        simp at hb
        subst hb e
        exact q (by simpa using ha)
    obtain ⟨h3, h4⟩ := met_spec xs (stepK acc x) h2
    exact ⟨h3, fun k => by rw [List.foldl_cons, h4 k, mem_stepK]; simp; grind⟩
theorem met_nodup (xs : List κ) : (met xs).Nodup := (met_spec xs [] List.nodup_nil).1
theorem mem_met {xs : List κ} {k : κ} : k ∈ met xs ↔ k ∈ xs := by rw [met, (met_spec xs [] List.nodup_nil).2 k]; simp
/-- the values ks stand for -/
inductive KeysIn {prog : Program} {w : World} (knd : KeyKind prog w κ) : List κ → List Value → Prop
  | nil : KeysIn knd [] []
  | cons {k : κ} {v : Value} {ks : List κ} {vs : List Value} : knd.is k v = true → v.scannable = true → KeysIn knd ks vs → KeysIn knd (k :: ks) (v :: vs)
theorem KeysIn.length {prog : Program} {w : World} {knd : KeyKind prog w κ} : ∀ {ks : List κ} {vs : List Value}, KeysIn knd ks vs → ks.length = vs.length
  | _, _, .nil => rfl
  | _, _, .cons _ _ r => by simp [r.length]
theorem KeysIn.at {prog : Program} {w : World} {knd : KeyKind prog w κ} : ∀ {ks : List κ} {vs : List Value}, KeysIn knd ks vs → ∀ (i : Nat) (v : Value), vs[i]? = some v → ∃ k, ks[i]? = some k ∧ knd.is k v = true ∧ v.scannable = true
  | _, _, .nil, i, v, h => by simp at h
  | _, _, .cons a b r, 0, v, h => by simp at h; subst h; exact ⟨_, rfl, a, b⟩
  | _, _, .cons a b r, i + 1, v, h => by
    obtain ⟨k, h1, h2⟩ := r.at i v (by simpa using h)
    exact ⟨k, by simpa using h1, h2⟩
section
variable {prog : Program} {w : World} {knd : KeyKind prog w κ} {A : Around} {R : Result → Shared → Prop} {I : Addr} {fp wr : List Addr} {G : Array GenState → Array GenState → Prop} {n : Nat} {P : Nat → Value → Prop} {St : Nat → Shared → Prop}
theorem loopK (W : WalksS prog w A.in1 I fp wr G n P St) (S : Addr) (hSf : S ∉ fp) (xs : List κ) (hsz : xs.length = n) (hn1 : n + 1 < scanBound)
    (hval : ∀ i v, P i v → ∃ k, xs[i]? = some k ∧ knd.is k v = true ∧ v.scannable = true) :
    ∀ (k i : Nat) (s : Shared), n - i = k → i ≤ n → St i s → s.heap.SetOf knd S (fun k' => (met (xs.take i)).any (· == k')) (met (xs.take i)).length →
      (∀ s', Moved (S :: wr) G s s' → s'.heap.SetOf knd S (fun k' => (met xs).any (· == k')) (met xs).length → R (.ok (.ret .none)) s') →
      codeAny (model prog w) A (.builtin "set.update.loop" ⟨[.ref S, .ref I], []⟩) R s := by
  have hSw : S ∉ wr := fun h => hSf (W.sub _ h)
  have hsub : ∀ b ∈ wr, b ∈ S :: wr := fun b hb => List.mem_cons_of_mem _ hb
  have stays : ∀ {s1 s2 : Shared} {Z : κ → Bool} {z : Nat}, Moved wr G s1 s2 → s1.heap.SetOf knd S Z z → s2.heap.SetOf knd S Z z := fun hm ⟨o, es, ep, t, ho, rest⟩ => ⟨o, es, ep, t, hm.heap S _ hSw ho, rest⟩
  intro k
  induction k with
  | zero =>
    intro i s hk hi hst hS hR
    obtain rfl : i = n := by omega
    rw [← hsz, List.take_length] at hS
    refine codeAny_builtin PyProof.Rows.F.entry_set_update_loop ?_
    rw [Around.under_plainId PyProof.Rows.F.plain_set_update_loop _]
    show wpAny _ A.in1 (pyNext (.ref I) >>= _) _ _ s
    exact wpAny_bind (W.done s _ _ hst fun s' hm => wpAny_pure (hR s' (hm.mono hsub) (stays hm hS)))
  | succ k ih =>
    intro i s hk hi hst hS hR
    have hlt : i < n := by omega
    refine codeAny_builtin PyProof.Rows.F.entry_set_update_loop ?_
    rw [Around.under_plainId PyProof.Rows.F.plain_set_update_loop _]
    show wpAny _ A.in1 (pyNext (.ref I) >>= _) _ _ s
    refine wpAny_bind (W.item i s _ _ hlt hst fun v s' hP hst' hm => ?_)
    obtain ⟨key, e1, e2, e3⟩ := hval i v hP
    have hS' := stays hm hS
    have hroom : (met (xs.take i)).length + 1 < scanBound := by have := met_take_le xs i; omega
    show wpAny _ A.in1 (holding [v] (setAdd S v) >>= _) _ _ s'
    refine wpAny_bind (wpAny_holding ?_)
    unfold setAdd
    refine wpAny_holding (wpAny_bind (knd.pyHash (k := key) e2 ?_))
    refine wpAny_setAddHashed_of (knd := knd) (s := { s' with toks := s'.toks + 1 }) e2 e3 hS' hroom fun h' hsb hS2 => ?_
    have hSi : h'.SetOf knd S (fun k' => (met (xs.take (i + 1))).any (· == k')) (met (xs.take (i + 1))).length := by
      have hl := (List.getElem?_eq_some_iff.mp e1)
      have ee : xs.take (i + 1) = xs.take i ++ [key] := by rw [List.take_succ_eq_append_getElem hl.1, hl.2]
      rw [ee, met_snoc]
      exact SetOf_congr hS2 (fun k' => (stepK_any _ _ _).symm) (stepK_length _ _).symm
    refine wpAny_pure ⟨plainId_quiet PyProof.Rows.F.plain_set_update_loop _, ih (i + 1) _ (by omega) hlt (W.frame _ s' _ _ hst' (Nat.le_succ _) fun b hb o e => ?_) hSi fun s'' hm'' hS'' => ?_⟩
    · rw [hsb.2 b (fun h : b = S => hSf (by rw [← h]; exact hb))]; exact e
    · refine hR s'' (Moved.trans W.gtrans ((hm.mono hsub).then_heap (Nat.le_succ _) fun b o hb e => ?_) hm'') hS''
      rw [hsb.2 b (fun h : b = S => hb (by rw [h]; exact List.mem_cons_self))]; exact e
end
section
variable {prog : Program} {w : World} {knd : KeyKind prog w κ} {A : Around} {E : Value → Shared → Prop} {s : Shared}
set_option maxHeartbeats 3200000 in
theorem call_set_listK {l : Addr} {items : Array Value} {xs : List κ} {Q : Value → Shared → Prop}
    (hh : A.handled = none) (hl : s.heap.IsList l items) (hi : KeysIn knd xs items.toList) (hn1 : xs.length + 1 < scanBound)
    (h : ∀ (h' : Heap) (tk : Nat), h'.SetOf (knd) s.heap.objs.size (fun k' => (met xs).any (· == k')) (met xs).length →
      (∀ b o, b < s.heap.objs.size → s.heap.get? b = some o → h'.get? b = some o) → Q (.ref s.heap.objs.size) { s with heap := h', toks := tk }) :
    wpAny (model prog w) A (call (.type "set") [.ref l]) Q E s := by
  obtain ⟨c, tl, hmro⟩ := PySem.F.called_set.mro
  have hmade := PySem.F.called_set.made
  have hsub := PySem.F.called_set.sub
  refine wpAny_call (codeAny_of_tree ?_)
  show wpAny _ _ (callAny (.type "set") _) _ _ _
  refine wpAny_pure ⟨Code.quiet_builtin _ (by decide +kernel), codeAny_builtin PySem.F.entry_type_call ?_⟩
  rw [Around.under_plain (weight_type_call_type "set" [.ref l] []) rfl]
  have h1 := PySem.F.called_set.notType
  have h2 := PySem.F.called_set.canCreate
  have hct := PySem.F.typeCall_set_1 (.ref l)
  repeat (any_goals (first | assumption | wp_step))

  refine codeAny_mono (code_set_new_1 (.ref l) (E := E) (Q₁ := fun obj s₁ => ∃ led : Bool, obj = .ref s.heap.objs.size ∧ s₁ = { s with heap := s.heap.push { cls := .type "set", dict := none, data := .set #[] 0 (.fresh 0 0 led) } }) fun led => ⟨led, rfl, rfl⟩) fun r s₁ hr => ?_
  cases r with
  | error e => exact hr
  | ok fl =>
    cases fl with
    | ret obj =>
      obtain ⟨led, rfl, rfl⟩ := hr
      have hS : (s.heap.push { cls := .type "set", dict := none, data := .set #[] 0 (.fresh 0 0 led) }).get? s.heap.objs.size = some { cls := .type "set", dict := none, data := .set #[] 0 (.fresh 0 0 led) } := Heap.get?_push_size _ rfl
      have hT : Shared.TypeIs { s with heap := s.heap.push { cls := .type "set", dict := none, data := .set #[] 0 (.fresh 0 0 led) } } (.ref s.heap.objs.size) "set" := ⟨_, hS, rfl⟩
      have hli := PySem.F.called_set.init.lookup
      have hbi := PySem.F.called_set.init.bind (.ref s.heap.objs.size)
      repeat (any_goals (first | assumption | wp_step))

      refine codeAny_mono (codeAny_call_builtin (R := wants (fun r s₂ => r = .none ∧ ∃ h' tk, s₂ = { s with heap := h', toks := tk } ∧
          h'.SetOf (knd) s.heap.objs.size (fun k' => (met xs).any (· == k')) (met xs).length ∧
          (∀ b o, b < s.heap.objs.size → s.heap.get? b = some o → h'.get? b = some o)) E) PySem.F.called_set.init.plain PySem.F.entry_set_init (check_set_init_1 hT ?_)) fun r₂ s₂ hr₂ => ?_
      · obtain ⟨ol, hol, hcl, nl, hdl⟩ := hl
        obtain ⟨ocls, odict, odata, oslots⟩ := ol
        simp only at hcl hdl
        subst hcl; subst hdl
        have hol' : (s.heap.push { cls := .type "set", dict := none, data := .set #[] 0 (.fresh 0 0 led) }).get? l = some { cls := .type "list", dict := odict, data := .seq items nl, slots := oslots } := Heap.get?_push_of_some _ hol
        have hsls := PySem.F.sub_list_set
        have hslf := PySem.F.sub_list_frozenset
        have hne : (Value.type "list" == Value.type "dict") = false := by decide
        have hl1 : (s.heap.push { cls := .type "set", dict := none, data := .set #[] 0 (.fresh 0 0 led) }).IsList l items := ⟨_, hol', rfl, nl, rfl⟩
        unfold Builtin.«set.__init__» noKeywords Builtin.Frozenset.updateFrom
        generalize hPI : pyIter = PI
        wp_walk
        subst hPI

        refine wpAny_pyIter_list hl1 ?_
        refine wpAny_bind (wpAny_runValue ?_)
        have hlS : l < s.heap.objs.size := Heap.lt_size hol
        have hh3 : A.in1.in1.in1.handled = none := by simp [hh]
        have hneI : l ≠ (s.heap.push { cls := .type "set", dict := none, data := .set #[] 0 (.fresh 0 0 led) }).objs.size := by
          rw [Heap.size_push]; exact Nat.ne_of_lt (Nat.lt_succ_of_lt hlS)
        have hSf : s.heap.objs.size ∉ [(s.heap.push { cls := .type "set", dict := none, data := .set #[] 0 (.fresh 0 0 led) }).objs.size, l] := by
          rw [Heap.size_push]; simp only [List.mem_cons, List.mem_singleton, List.not_mem_nil, or_false, not_or]
          exact ⟨Nat.ne_of_lt (Nat.lt_succ_self _), Nat.ne_of_gt hlS⟩
        have hsz : xs.length = items.size := by rw [hi.length, Array.length_toList]
        have hval : ∀ (i : Nat) (v : Value), items[i]? = some v → ∃ k, xs[i]? = some k ∧ knd.is k v = true ∧ v.scannable = true := fun i v hv => hi.at i v (by rw [Array.getElem?_toList]; exact hv)
        refine loopK ((Walks.list hh3 _ l hneI items).toS) s.heap.objs.size
          hSf xs hsz (by rw [← hsz]; exact hn1) hval (items.size - 0) 0 _ (by omega) (Nat.zero_le _)
          ⟨⟨_, Heap.get?_push_size _ rfl, rfl, rfl⟩, (hl1.push _)⟩ ?hS0 ?hR
        case hS0 =>
          have hget : ((s.heap.push { cls := .type "set", dict := none, data := .set #[] 0 (.fresh 0 0 led) }).push { cls := .type "list_iterator", data := .fields #[.ref l, .int 0 0] }).get? s.heap.objs.size
              = some { cls := .type "set", dict := none, data := .set #[] 0 (.fresh 0 0 led) } := Heap.get?_push_of_some _ hS
          exact PyProof.Rows.SetOf_congr ((PyProof.Rows.setObjOf_fresh (knd := knd) led).setOf hget (by unfold scanBound; omega)) (fun _ => rfl) rfl
        case hR =>
          intro s' hm hS'
          obtain ⟨h', g', d', tk', os'⟩ := s'
          have eg : g' = s.gens := hm.gens
          have ed : d' = s.drawn := hm.drawn
          have eo : os' = s.os := hm.os
          subst eg; subst ed; subst eo
          show wpAny _ _ _ _ _ _
          refine wpAny_pure ?_
          show wpAny _ _ (ret Value.none) _ _ _
          refine wpAny_pure ⟨rfl, h', tk', rfl, hS', fun b o hb e => ?_⟩
          have hb1 : b ≠ s.heap.objs.size := Nat.ne_of_lt hb
          have hb2 : b ≠ (s.heap.push { cls := .type "set", dict := none, data := .set #[] 0 (.fresh 0 0 led) }).objs.size := by
            rw [Heap.size_push]; exact Nat.ne_of_lt (Nat.lt_succ_of_lt hb)
          exact hm.heap b o (by simp only [List.mem_cons, List.mem_singleton, List.not_mem_nil, or_false, not_or]; exact ⟨hb1, hb2⟩) (Heap.get?_push_of_some _ (Heap.get?_push_of_some _ e))

      · cases r₂ with
        | error e => exact hr₂
        | ok fl₂ =>
          cases fl₂ with
          | ret r =>
            obtain ⟨rfl, h', tk, rfl, hS', hk'⟩ := hr₂
            repeat (any_goals (first | assumption | wp_step))
            exact h _ _ hS' hk'
          | _ => exact hr₂.elim
    | _ => exact hr.elim
end
end
end SK
end L3
end

section
set_option Elab.async false
set_option linter.all false
set_option maxRecDepth 100000
set_option maxHeartbeats 400000
/-! L3g: built-in functions, methods of texts and lists. -/
namespace L3
open PySem PySem.Spec PyProof.Rows L2
section
variable {X : Cx} {T0 : Tm} {a e o : Expr} {es : List Expr} {te ta to : E3} {t : A3} {p p2 pos apos : Pos} {x : Str} {id T : String}
/-! ### calls of what Python has -/
abbrev C3 := List D → HM → K3 → Prop
def callB3 (r : C3) (t : A3) : E3 := fun s M Q => t s M fun ds M1 => r ds M1 Q
theorem callB_up {K : PySem.W.Frag} {r : C3} {t : A3} (σ : St) (H : Hp) (Q : VK) (h : upE K T0 (callB3 r t) σ H Q) : tCB (upC K T0 r) (upA K T0 t) σ H Q := by
  obtain ⟨T, M, s, Q3, S0, R, S, q, k⟩ := h
  exact ⟨T, M, s, _, S0, R, S, q, fun T1 H1 M1 ds vs s1 R1 r1 q1 => ⟨T1, M1, ds, Q3, S0.trans s1, R1, r1, q1, fun v H' l => k _ _ (l.mono s1)⟩⟩
theorem q_callB {r : C3} (hc : CallR X (.builtin id) (upC X.K T0 r)) (hg : Gl X x) (hm : X.mg x = none) (hv : bootBuiltins x = some (.builtin id)) (ha : QA X T0 (e :: es) t) (hn : x ≠ "__name__") (hdb : (x == ("__debug__" : Str)) = false)
    (he : starEach (e :: es) X.env = (false, eval e X.env) :: starEach es X.env) (hpl : (backTo pos (starEach es X.env)).any (·.1) = false) : QE X T0 (.Call (.Name x p) (e :: es) [] pos) (callB3 r t) :=
  (pe_callB hc hg hm hv ha hn hdb he hpl).imp callB_up
theorem q_callTy {r : C3} (hc : CallR X (.type T) (upC X.K T0 r)) (hg : Gl X x) (hm : X.mg x = none) (hv : bootBuiltins x = some (.type T)) (ha : QA X T0 (e :: es) t) (hn : x ≠ "__name__") (hdb : (x == ("__debug__" : Str)) = false)
    (he : starEach (e :: es) X.env = (false, eval e X.env) :: starEach es X.env) (hpl : (backTo pos (starEach es X.env)).any (·.1) = false) : QE X T0 (.Call (.Name x p) (e :: es) [] pos) (callB3 r t) :=
  (pe_callTy hc hg hm hv ha hn hdb he hpl).imp callB_up
/-- one value -/
theorem one_up {K : PySem.W.Frag} {T : Tm} {d : D} {xs : List V} (r : RelDs K T [d] xs) : ∃ v, xs = [v] ∧ RelD K T d v := by
  simp only [RelDs] at r
  obtain ⟨v, w, rfl, r1, rfl⟩ := r
  exact ⟨v, rfl, r1⟩
theorem two_up {K : PySem.W.Frag} {T : Tm} {d e : D} {xs : List V} (r : RelDs K T [d, e] xs) : ∃ v w, xs = [v, w] ∧ RelD K T d v ∧ RelD K T e w := by
  simp only [RelDs] at r
  obtain ⟨v, w, rfl, r1, v2, w2, rfl, r2, rfl⟩ := r
  exact ⟨v, v2, rfl, r1, r2⟩
theorem relInts {K : PySem.W.Frag} {T : Tm} : ∀ {ns : List Int} {xs : List V}, RelDs K T (ns.map D.int) xs → xs = ns.map V.int
  | [], _, r => by simpa [RelDs] using r
  | n :: ns, _, r => by
    simp only [List.map_cons, RelDs] at r
    obtain ⟨v, w, rfl, r1, r2⟩ := r
    rw [relInt r1, relInts r2, List.map_cons]
theorem relStrs {K : PySem.W.Frag} {T : Tm} : ∀ {ns : List Str} {xs : List V}, RelDs K T (ns.map D.str) xs → xs = ns.map V.str
  | [], _, r => by simpa [RelDs] using r
  | n :: ns, _, r => by
    simp only [List.map_cons, RelDs] at r
    obtain ⟨v, w, rfl, r1, r2⟩ := r
    rw [relStr r1, relStrs r2, List.map_cons]
theorem relBls {K : PySem.W.Frag} {T : Tm} : ∀ {ns : List Bool} {xs : List V}, RelDs K T (ns.map D.bl) xs → xs = ns.map V.bl
  | [], _, r => by simpa [RelDs] using r
  | n :: ns, _, r => by
    simp only [List.map_cons, RelDs] at r
    obtain ⟨v, w, rfl, r1, r2⟩ := r
    rw [relBl r1, relBls r2, List.map_cons]
theorem strsRel {K : PySem.W.Frag} {T : Tm} (ns : List Str) : RelDs K T (ns.map D.str) (ns.map V.str) := RelDs.map _ _ (fun _ => strRel) ns
theorem intsRel {K : PySem.W.Frag} {T : Tm} (ns : List Int) : RelDs K T (ns.map D.int) (ns.map V.int) := RelDs.map _ _ (fun _ => intRel) ns
/-- len -/
def len3 : C3
  | [.str z], M, Q => z.length ≤ sizeLine ∧ Q (.int z.length) M
  | [.tup ds], M, Q => Q (.int ds.length) M
  | [.ref a], M, Q => ∃ ds, LstAt M a ds ∧ Q (.int ds.length) M
  | _, _, _ => False
theorem c_len3 : CallR X (.builtin "len") (upC X.K T0 len3) := by
  intro pins s σ H xs us Q I rs ⟨T, M, ds, Q3, S0, R, rr, h, k⟩
  unfold len3 at h
  split at h
  · obtain ⟨v, rfl, r⟩ := one_up rr
    exact call_len_str pins s σ H _ us Q I rs ⟨_, by rw [relStr r], h.1, k _ _ (lift3.of R intRel h.2)⟩
  · obtain ⟨v, rfl, r⟩ := one_up rr
    obtain ⟨p, ys, rfl, g, r2⟩ := R.sqT r
    exact call_len_seq pins s σ H _ us Q I rs ⟨p, ys, rfl, .inr g, k _ _ (lift3.of R intRel (by rw [← r2.length]; exact h))⟩
  · obtain ⟨v, rfl, r⟩ := one_up rr
    obtain ⟨ds, hl, q⟩ := h
    obtain ⟨ys, g, r2⟩ := R.sqL hl
    exact call_len_seq pins s σ H _ us Q I rs ⟨_, ys, by rw [relRef r], .inl g, k _ _ (lift3.of R intRel (by rw [← r2.length]; exact q))⟩
  · exact h.elim
/-- list(x) -/
def list3 : C3
  | [.tup ds], M, Q => ∀ p, M p = none → Q (.ref p) (mup M p (.lst ds))
  | [.ref a], M, Q => ∃ ds, LstAt M a ds ∧ ∀ p, M p = none → Q (.ref p) (mup M p (.lst ds))
  | _, _, _ => False
theorem c_list3 : CallR X (.type "list") (upC X.K T0 list3) := by
  intro pins s σ H xs us Q I rs ⟨T, M, ds, Q3, S0, R, rr, h, k⟩
  unfold list3 at h
  split at h
  · obtain ⟨v, rfl, r⟩ := one_up rr
    obtain ⟨p, ys, rfl, g, r2⟩ := R.sqT r
    exact call_list_of pins s σ H _ us Q I rs ⟨p, ys, rfl, .inr g, fun l hl => k _ _ ⟨T, _, .ref l, Sub.refl T, R.newLst hl r2, refRel, h l (R.noM hl)⟩⟩
  · obtain ⟨v, rfl, r⟩ := one_up rr
    obtain ⟨ds, hl, q⟩ := h
    obtain ⟨ys, g, r2⟩ := R.sqL hl
    exact call_list_of pins s σ H _ us Q I rs ⟨_, ys, by rw [relRef r], .inl g, fun l hl => k _ _ ⟨T, _, .ref l, Sub.refl T, R.newLst hl r2, refRel, q l (R.noM hl)⟩⟩
  · exact h.elim
/-- tuple(x) -/
def tuple3 : C3
  | [.tup ds], M, Q => Q (.tup ds) M
  | [.ref a], M, Q => ∃ ds, LstAt M a ds ∧ Q (.tup ds) M
  | _, _, _ => False
theorem c_tuple3 : CallR X (.type "tuple") (upC X.K T0 tuple3) := by
  intro pins s σ H xs us Q I rs ⟨T, M, ds, Q3, S0, R, rr, h, k⟩
  unfold tuple3 at h
  split at h
  · obtain ⟨v, rfl, r⟩ := one_up rr
    obtain ⟨p, ys, rfl, g, r2⟩ := R.sqT r
    exact call_tuple_of pins s σ H _ us Q I rs ⟨p, ys, rfl, .inr ⟨g, k _ _ (lift3.of R r h)⟩⟩
  · obtain ⟨v, rfl, r⟩ := one_up rr
    obtain ⟨ds, hl, q⟩ := h
    obtain ⟨ys, g, r2⟩ := R.sqL hl
    exact call_tuple_of pins s σ H _ us Q I rs ⟨_, ys, by rw [relRef r], .inl ⟨g, fun l hl => k _ _ ⟨tput T l ys, M, .tup ds, Sub.put (R.noT hl), R.newTup hl, RelD.tupOf tput_same (r2.mono (Sub.put (R.noT hl))), q⟩⟩⟩
  · exact h.elim
/-- int(x) -/
def int3 : C3
  | [.int i], M, Q => Q (.int i) M
  | [.bl b], M, Q => Q (.int (if b then 1 else 0)) M
  | _, _, _ => False
theorem c_int3 : CallR X (.type "int") (upC X.K T0 int3) := by
  intro pins s σ H xs us Q I rs ⟨T, M, ds, Q3, S0, R, rr, h, k⟩
  unfold int3 at h
  split at h
  · obtain ⟨v, rfl, r⟩ := one_up rr
    exact call_int1 pins s σ H _ us Q I rs (.inl ⟨_, by rw [relInt r], k _ _ (lift3.of R intRel h)⟩)
  · obtain ⟨v, rfl, r⟩ := one_up rr
    exact call_int1 pins s σ H _ us Q I rs (.inr ⟨_, by rw [relBl r], k _ _ (lift3.of R intRel h)⟩)
  · exact h.elim
def abs3 : C3
  | [.int i], M, Q => Q (.int (if i < 0 then -i else i)) M
  | _, _, _ => False
theorem c_abs3 : CallR X (.builtin "abs") (upC X.K T0 abs3) := by
  intro pins s σ H xs us Q I rs ⟨T, M, ds, Q3, S0, R, rr, h, k⟩
  unfold abs3 at h
  split at h
  · obtain ⟨v, rfl, r⟩ := one_up rr
    exact call_abs pins s σ H _ us Q I rs ⟨_, by rw [relInt r], k _ _ (lift3.of R intRel h)⟩
  · exact h.elim
def max3 : C3
  | [.int i, .int j], M, Q => Q (.int (if j > i then j else i)) M
  | _, _, _ => False
theorem c_max3 (hc : X.calm = true) : CallR X (.builtin "max") (upC X.K T0 max3) := by
  intro pins s σ H xs us Q I rs ⟨T, M, ds, Q3, S0, R, rr, h, k⟩
  unfold max3 at h
  split at h
  · obtain ⟨v, w, rfl, r1, r2⟩ := two_up rr
    exact call_max2 hc pins s σ H _ us Q I rs ⟨_, _, by rw [relInt r1, relInt r2], k _ _ (lift3.of R intRel h)⟩
  · exact h.elim
def min3 : C3
  | [.int i, .int j], M, Q => Q (.int (if j < i then j else i)) M
  | _, _, _ => False
theorem c_min3 (hc : X.calm = true) : CallR X (.builtin "min") (upC X.K T0 min3) := by
  intro pins s σ H xs us Q I rs ⟨T, M, ds, Q3, S0, R, rr, h, k⟩
  unfold min3 at h
  split at h
  · obtain ⟨v, w, rfl, r1, r2⟩ := two_up rr
    exact call_min2 hc pins s σ H _ us Q I rs ⟨_, _, by rw [relInt r1, relInt r2], k _ _ (lift3.of R intRel h)⟩
  · exact h.elim
/-- sum of a list of ints -/
def sum3 : C3
  | [.ref a], M, Q => ∃ ns : List Int, LstAt M a (ns.map D.int) ∧ Q (.int ns.sum) M
  | _, _, _ => False
theorem c_sum3 (hc : X.calm = true) : CallR X (.builtin "sum") (upC X.K T0 sum3) := by
  intro pins s σ H xs us Q I rs ⟨T, M, ds, Q3, S0, R, rr, h, k⟩
  unfold sum3 at h
  split at h
  · obtain ⟨v, rfl, r⟩ := one_up rr
    obtain ⟨ns, hl, q⟩ := h
    obtain ⟨ys, g, r2⟩ := R.sqL hl
    obtain rfl := relInts r2
    exact cr_sum hc pins s σ H _ us Q I rs ⟨_, ns, by rw [relRef r], g, k _ _ (lift3.of R intRel q)⟩
  · exact h.elim
/-- all, any of a list of bools -/
def all3 : C3
  | [.ref a], M, Q => ∃ bs : List Bool, LstAt M a (bs.map D.bl) ∧ Q (.bl (bs.all (fun b => b))) M
  | _, _, _ => False
theorem c_all3 (hc : X.calm = true) : CallR X (.builtin "all") (upC X.K T0 all3) := by
  intro pins s σ H xs us Q I rs ⟨T, M, ds, Q3, S0, R, rr, h, k⟩
  unfold all3 at h
  split at h
  · obtain ⟨v, rfl, r⟩ := one_up rr
    obtain ⟨ns, hl, q⟩ := h
    obtain ⟨ys, g, r2⟩ := R.sqL hl
    obtain rfl := relBls r2
    exact cr_all hc pins s σ H _ us Q I rs ⟨_, ns, by rw [relRef r], g, k _ _ (lift3.of R blRel q)⟩
  · exact h.elim
def any3 : C3
  | [.ref a], M, Q => ∃ bs : List Bool, LstAt M a (bs.map D.bl) ∧ Q (.bl (bs.any (fun b => b))) M
  | _, _, _ => False
theorem c_any3 (hc : X.calm = true) : CallR X (.builtin "any") (upC X.K T0 any3) := by
  intro pins s σ H xs us Q I rs ⟨T, M, ds, Q3, S0, R, rr, h, k⟩
  unfold any3 at h
  split at h
  · obtain ⟨v, rfl, r⟩ := one_up rr
    obtain ⟨ns, hl, q⟩ := h
    obtain ⟨ys, g, r2⟩ := R.sqL hl
    obtain rfl := relBls r2
    exact cr_any hc pins s σ H _ us Q I rs ⟨_, ns, by rw [relRef r], g, k _ _ (lift3.of R blRel q)⟩
  · exact h.elim
/-- list(range(..)) -/
def upR (K : PySem.W.Frag) (T0 : Tm) (t : StD → HM → (Int → Int → HM → Prop) → Prop) : St → Hp → (Int → Int → Hp → Prop) → Prop := fun σ H Q => ∃ T M s Q3, Sub T0 T ∧ Rep K T H M ∧ RelSt K T s σ ∧ t s M Q3 ∧ ∀ i j T' H' M', Sub T T' → Rep K T' H' M' → Q3 i j M' → Q i j H'
def rgD (a b : Int) : List D := (List.range (b - a).toNat).map fun i => D.int (a + (i : Nat))
theorem rgRel {K : PySem.W.Frag} {T : Tm} (a b : Int) : RelDs K T (rgD a b) (rgV a b) := RelDs.map _ _ (fun _ => intRel) _
def r1_3 (ta : E3) : StD → HM → (Int → Int → HM → Prop) → Prop := fun s M Q => ta s M fun d M1 => ∃ i, d = .int i ∧ Q 0 i M1
def lstRg3 (t : StD → HM → (Int → Int → HM → Prop) → Prop) : E3 := fun s M Q => t s M fun a b M1 => RgOk a b ∧ ∀ p, M1 p = none → Q (.ref p) (mup M1 p (.lst (rgD a b)))
theorem q_listRg1 (hc : X.calm = true) (hg : Gl X "list") (hm : X.mg "list" = none) (hg2 : Gl X "range") (hm2 : X.mg "range" = none) (ha : QE X T0 a ta) (na : starEach [a] X.env = (false, eval a X.env) :: starEach [] X.env) (na2 : starEach [.Call (.Name "range" p2) [a] [] apos] X.env = (false, eval (.Call (.Name "range" p2) [a] [] apos) X.env) :: starEach [] X.env) :
    QE X T0 (.Call (.Name "list" p) [.Call (.Name "range" p2) [a] [] apos] [] pos) (lstRg3 (r1_3 ta)) :=
  (pe_listRg hc hg hm (prg_1 hg2 hm2 ha na) na2).imp fun σ H Q ⟨T, M, s, Q3, S0, R, S, q, k⟩ => ⟨T, M, s, _, S0, R, S, q, fun v H1 ⟨T1, M1, d, s1, R1, r1, i, e1, ok, q1⟩ => by
    subst e1
    exact ⟨i, relInt r1, ok, fun l hl => k _ _ ⟨T1, _, .ref l, s1, R1.newLst hl (rgRel _ _), refRel, q1 l (R1.noM hl)⟩⟩⟩
/-- len(set(xs)), xs a list of texts -/
def lenSet3 (ta : E3) : E3 := fun s M Q => ta s M fun d M1 => ∃ a xs, d = .ref a ∧ LstAt M1 a (xs.map D.str) ∧ xs.length < 4000 ∧ Q (.int (SK.met xs).length) M1
theorem keysIn_strs {P : Program} {w : World} : ∀ {ys : List Str} {us : List Value}, Vals (ys.map V.str) us → SK.KeysIn (PySem.strKind P w) ys us
  | [], _, .nil => .nil
  | y :: ys, _, .cons r t => by
    obtain ⟨k, rfl⟩ := r
    exact .cons (PySem.strKind_is _ _ _ _) rfl (keysIn_strs t)
theorem q_lenSet (hc : X.calm = true) (hg : Gl X "len") (hm : X.mg "len" = none) (hg2 : Gl X "set") (hm2 : X.mg "set" = none) (ha : QE X T0 a ta) (na : starEach [a] X.env = (false, eval a X.env) :: starEach [] X.env) (nb : starEach [.Call (.Name "set" p2) [a] [] apos] X.env = (false, eval (.Call (.Name "set" p2) [a] [] apos) X.env) :: starEach [] X.env) :
    QE X T0 (.Call (.Name "len" p) [.Call (.Name "set" p2) [a] [] apos] [] pos) (lenSet3 ta) := by
  refine ⟨fun pins s σ H Q I ⟨T, M, s3, Q3, S0, R, S, q, k⟩ => ?_⟩
  refine Call_ (ld_blt I hg hm boot_len ?_)
  refine PyProof.Rows.callWith_builtin1 (PyProof.Rows.args_cons ?_ nb) nb rfl
  refine Call_ (ld_blt I hg2 hm2 boot_set ?_)
  refine PyProof.Rows.callWith_type1 (PyProof.Rows.args_cons (thn (ha.run pins s σ H _ I ⟨T, M, s3, _, S0, R, S, q, fun _ _ l => l⟩) fun v s1 hv => PyProof.Rows.args_nil ?_) na) na rfl
  obtain ⟨x, H1, I1, r1, T1, M1, d, sub, R1, rd, l, xs, ed, hl, hn, q1⟩ := hv
  subst ed
  cases relRef rd
  cases r1
  obtain ⟨ys, g, r2⟩ := R1.sqL hl
  obtain rfl := relStrs r2
  obtain ⟨its, r, pl, hz⟩ := I1.list g
  have hlen : its.toArray.size = xs.length := by rw [List.size_toArray, ← r.length, List.length_map]
  refine SK.call_set_listK (knd := PySem.strKind X.prog X.w) (I1.ok.hd hc) pl.isList (by simpa using keysIn_strs r) (by unfold scanBound; omega) fun h' tk hS hk => ?_
  refine PyProof.Rows.args_nil ?_
  obtain ⟨o, es, ep, t, ho, hex, hd, _, _, _, hf, hn2⟩ := hS
  have I2 : Inv X pins σ H1 { s1 with heap := h', toks := tk } := I1.kept fun b o e => hk b o (Heap.lt_size e) e
  have hm4 : (SK.met xs).length ≤ 4000 := by
    have z := SK.met_take_le xs xs.length
    rw [List.take_length] at z
    omega
  exact call_len_set ho hex hd hf (by rw [hn2]; omega) ⟨.int (SK.met xs).length, H1, I2.tok _, ⟨_, by rw [hn2]⟩, k _ _ ⟨T1, M1, _, sub, R1, intRel, q1⟩⟩
/-! ### methods of texts -/
abbrev Mt3 := D → List D → HM → K3 → Prop
def meth3 (r : Mt3) (to : E3) (t : A3) : E3 := fun s M Q => to s M fun d M1 => t s M1 fun ds M2 => r d ds M2 Q
/-- x.split(y) -/
def split3 (to te : E3) : E3 := fun s M Q => to s M fun d M1 => ∃ a, d = .str a ∧ te s M1 fun e M2 => ∃ b, e = .str b ∧ (b.length == 0) = false ∧ a.length + 2 ≤ sizeLine ∧ ∀ p, M2 p = none → Q (.ref p) (mup M2 p (.lst ((Txt.split a b).map D.str)))
theorem q_split (ho : QE X T0 o to) (he : QE X T0 e te) (hs : starEach [e] X.env = [(false, eval e X.env)]) (hbase : attributeBase o "split" X.env (eval o X.env) = eval o X.env) (hline : (apos.endLine == pos.line) = true) :
    QE X T0 (.Call (.Attribute o "split" apos) [e] [] pos) (split3 to te) :=
  (pe_split ho he hs hbase hline).imp fun σ H Q ⟨T, M, s, Q3, S0, R, S, q, k⟩ => ⟨T, M, s, _, S0, R, S, q, fun v H1 ⟨T1, M1, d, s1, R1, r1, a, e1, q1⟩ => by
    subst e1
    refine ⟨⟨a, relStr r1⟩, T1, M1, s, _, S0.trans s1, R1, S.mono s1, q1, fun v2 H2 ⟨T2, M2, d2, s2, R2, r2, b, e2, hb, hz, q2⟩ => ?_⟩
    subst e2
    exact ⟨a, b, relStr r1, by rw [relStr r2], hb, hz, fun l hl => k _ _ ⟨T2, _, .ref l, s1.trans s2, R2.newLst hl (strsRel _), refRel, q2 l (R2.noM hl)⟩⟩⟩
/-- x.join(ys) -/
def join3 (to te : E3) : E3 := fun s M Q => to s M fun d M1 => ∃ a, d = .str a ∧ te s M1 fun e M2 => ∃ ys : List Str, ((∃ p, e = .ref p ∧ LstAt M2 p (ys.map D.str)) ∨ e = .tup (ys.map D.str)) ∧ (ys.map (·.length)).sum + ys.length * a.length ≤ 16777216 ∧ Q (.str (Txt.join a ys)) M2
theorem q_join (ho : QE X T0 o to) (he : QE X T0 e te) (hs : starEach [e] X.env = [(false, eval e X.env)]) (hbase : attributeBase o "join" X.env (eval o X.env) = eval o X.env) (hline : (apos.endLine == pos.line) = true) :
    QE X T0 (.Call (.Attribute o "join" apos) [e] [] pos) (join3 to te) :=
  (pe_join ho he hs hbase hline).imp fun σ H Q ⟨T, M, s, Q3, S0, R, S, q, k⟩ => ⟨T, M, s, _, S0, R, S, q, fun v H1 ⟨T1, M1, d, s1, R1, r1, a, e1, q1⟩ => by
    subst e1
    refine ⟨⟨a, relStr r1⟩, T1, M1, s, _, S0.trans s1, R1, S.mono s1, q1, fun v2 H2 ⟨T2, M2, d2, s2, R2, r2, ys, e2, hz, q2⟩ => ?_⟩
    have kk := k _ _ ⟨T2, M2, _, s1.trans s2, R2, strRel, q2⟩
    rcases e2 with ⟨p, rfl, hl⟩ | rfl
    · obtain ⟨zs, g, r3⟩ := R2.sqL hl
      obtain rfl := relStrs r3
      exact ⟨a, p, ys, relStr r1, by rw [relRef r2], .inl g, hz, kk⟩
    · obtain ⟨p, zs, rfl, g, r3⟩ := R2.sqT r2
      obtain rfl := relStrs r3
      exact ⟨a, p, ys, relStr r1, rfl, .inr g, hz, kk⟩⟩
/-! ### methods of lists -/
/-- xs.append(y) -/
def append3 (to te : E3) : E3 := fun s M Q => to s M fun d M1 => ∃ l, d = .ref l ∧ (∃ ds, M1 l = some (.lst ds)) ∧ te s M1 fun e M2 => ∃ ds, M2 l = some (.lst ds) ∧ ds.length < sizeLine ∧ Q .non (mup M2 l (.lst (ds ++ [e])))
theorem tyV_lst {K : PySem.W.Frag} {T : Tm} {H : Hp} {M : HM} {l : Addr} (R : Rep K T H M) {ds : List D} (h : M l = some (.lst ds)) : tyV K "list" (.ref l) H := by
  obtain ⟨xs, g, _⟩ := R.obj_lst h
  exact .inl ⟨rfl, xs, .inl (.inl g)⟩
theorem q_append (ho : QE X T0 o to) (he : QE X T0 e te) (hbase : attributeBase o "append" X.env (eval o X.env) = eval o X.env)
    (hfew : ((backTo pos (starEach (e :: []) X.env)).all (fun x => !x.1) && (backToKw pos (keywordEach [] X.env)).all (fun x => x.1.isSome) && decide ((e :: []).length + ([] : List Keyword).length + (if ([] : List Keyword).isEmpty then 0 else 1) < 30)) = true)
    (hline : (apos.endLine == pos.line) = true) (hs : starEach (e :: []) X.env = (false, eval e X.env) :: starEach [] X.env) (hplain : (backTo pos (starEach [] X.env)).any (·.1) = false) :
    QE X T0 (.Call (.Attribute o "append" apos) [e] [] pos) (append3 to te) :=
  (pe_bm F.plainAttrs_list F.slot_list_append F.type_list_append mt_append ho (pa_cons he pa_nil hs) hbase hfew hline hs hplain).imp fun σ H Q ⟨T, M, s, Q3, S0, R, S, q, k⟩ => ⟨T, M, s, _, S0, R, S, q, fun v H1 ⟨T1, M1, d, s1, R1, r1, l, e1, ⟨ds0, h0⟩, q1⟩ => by
    subst e1
    cases relRef r1
    refine ⟨tyV_lst R1 h0, T1, M1, s, _, S0.trans s1, R1, S.mono s1, q1, fun v2 H2 ⟨T2, M2, d2, s2, R2, r2, ds, h1, hz, q2⟩ => ?_⟩
    obtain ⟨xs, g, rx⟩ := R2.obj_lst h1
    exact ⟨l, xs, v2, rfl, rfl, g, by rw [← rx.length]; exact hz, k _ _ ⟨T2, _, .non, s1.trans s2, R2.setLst h1 g (rx.append (RelDs.one r2)), nonRel, q2⟩⟩⟩
/-- xs.pop(i) -/
def popAt3 (to te : E3) : E3 := fun s M Q => to s M fun d M1 => ∃ l, d = .ref l ∧ (∃ ds, M1 l = some (.lst ds)) ∧ te s M1 fun e M2 => ∃ ds i j y, e = .int i ∧ M2 l = some (.lst ds) ∧ -(2 ^ 63) ≤ i ∧ i < 2 ^ 63 ∧ seqIndex? i ds.length = some j ∧ ds[j]? = some y ∧ Q y (mup M2 l (.lst (ds.eraseIdx j)))
theorem RelDs.eraseIdx {K : PySem.W.Frag} {T : Tm} : ∀ {ds : List D} {vs : List V} (i : Nat), RelDs K T ds vs → RelDs K T (ds.eraseIdx i) (vs.eraseIdx i)
  | [], _, i, r => by simp only [RelDs] at r; subst r; simp [RelDs]
  | d :: ds, _, 0, r => by
    simp only [RelDs] at r
    obtain ⟨v, w, rfl, r1, r2⟩ := r
    simpa using r2
  | d :: ds, _, i + 1, r => by
    simp only [RelDs] at r
    obtain ⟨v, w, rfl, r1, r2⟩ := r
    simp only [List.eraseIdx_cons_succ]
    exact RelDs.cons r1 (RelDs.eraseIdx i r2)
theorem q_popAt (ho : QE X T0 o to) (he : QE X T0 e te) (hbase : attributeBase o "pop" X.env (eval o X.env) = eval o X.env)
    (hfew : ((backTo pos (starEach (e :: []) X.env)).all (fun x => !x.1) && (backToKw pos (keywordEach [] X.env)).all (fun x => x.1.isSome) && decide ((e :: []).length + ([] : List Keyword).length + (if ([] : List Keyword).isEmpty then 0 else 1) < 30)) = true)
    (hline : (apos.endLine == pos.line) = true) (hs : starEach (e :: []) X.env = (false, eval e X.env) :: starEach [] X.env) (hplain : (backTo pos (starEach [] X.env)).any (·.1) = false) :
    QE X T0 (.Call (.Attribute o "pop" apos) [e] [] pos) (popAt3 to te) :=
  (pe_bm F.plainAttrs_list F.slot_list_pop F.type_list_pop mt_popAt ho (pa_cons he pa_nil hs) hbase hfew hline hs hplain).imp fun σ H Q ⟨T, M, s, Q3, S0, R, S, q, k⟩ => ⟨T, M, s, _, S0, R, S, q, fun v H1 ⟨T1, M1, d, s1, R1, r1, l, e1, ⟨ds0, h0⟩, q1⟩ => by
    subst e1
    cases relRef r1
    refine ⟨tyV_lst R1 h0, T1, M1, s, _, S0.trans s1, R1, S.mono s1, q1, fun v2 H2 ⟨T2, M2, d2, s2, R2, r2, ds, i, j, y, e2, h1, b1, b2, hj, hy, q2⟩ => ?_⟩
    subst e2
    obtain ⟨xs, g, rx⟩ := R2.obj_lst h1
    obtain ⟨w, hw, rw'⟩ := rx.get hy
    exact ⟨l, xs, i, j, w, rfl, by rw [relInt r2], g, b1, b2, by rw [← rx.length]; exact hj, hw, k _ _ ⟨T2, _, y, s1.trans s2, R2.setLst h1 g (rx.eraseIdx j), rw', q2⟩⟩⟩
/-- xs[::-1] -/
def rev3 (te : E3) : E3 := fun s M Q => te s M fun d M1 => ∃ a ds, d = .ref a ∧ LstAt M1 a ds ∧ ∀ p, M1 p = none → Q (.ref p) (mup M1 p (.lst ds.reverse))
theorem q_rev {k : Nat} {p1 p2 p3 pos : Pos} (he : QE X T0 e te) : QE X T0 (.Subscript e (.Slice none none (some (.UnaryOp .USub (.Constant (.int 1) k p1) p2)) p3) pos) (rev3 te) :=
  (pe_revL he).imp fun σ H Q ⟨T, M, s, Q3, S0, R, S, q, k⟩ => ⟨T, M, s, _, S0, R, S, q, fun v H1 ⟨T1, M1, d, s1, R1, r1, a, ds, e1, hl, q1⟩ => by
    subst e1
    obtain ⟨xs, g, rx⟩ := R1.sqL hl
    exact ⟨a, xs, relRef r1, g, fun l hl => k _ _ ⟨T1, _, .ref l, s1, R1.newLst hl rx.reverse, refRel, q1 l (R1.noM hl)⟩⟩⟩
end
end L3
end

section
set_option Elab.async false
set_option linter.all false
set_option maxRecDepth 100000
set_option maxHeartbeats 400000
/-! L3s: classes with slots, isinstance, own ==, what a caught error tells. -/
namespace L3
open PySem PySem.Spec PyProof.Rows L2 SlX
/-! ### slots -/
def putSD (i : Nat) (d : D) (vs : StD) : StD := (vs ++ List.replicate (i + 1 - vs.length) none).set i (some d)
section
variable {K : PySem.W.Frag} {T : Tm} {H : Hp} {M : HM}
theorem RelSt.append : ∀ {s : StD} {σ : St} {s2 : StD} {σ2 : St}, RelSt K T s σ → RelSt K T s2 σ2 → RelSt K T (s ++ s2) (σ ++ σ2)
  | [], _, _, _, r, q => by simp only [RelSt] at r; subst r; exact q
  | some d :: s, _, _, _, r, q => by simp only [RelSt] at r; obtain ⟨w, t, rfl, r1, r2⟩ := r; exact RelSt.some' r1 (RelSt.append r2 q)
  | none :: s, _, _, _, r, q => by simp only [RelSt] at r; obtain ⟨w, t, rfl, r2⟩ := r; exact RelSt.none' (RelSt.append r2 q)
theorem RelSt.nones : ∀ n : Nat, RelSt K T (List.replicate n none) (List.replicate n (none : Option V))
  | 0 => RelSt.nil'
  | n + 1 => by rw [List.replicate_succ, List.replicate_succ]; exact RelSt.none' (RelSt.nones n)
theorem RelSt.put {vs : StD} {ws : St} {d : D} {v : V} (i : Nat) (r : RelSt K T vs ws) (q : RelD K T d v) : RelSt K T (putSD i d vs) (putS i v ws) := by
  unfold putSD putS
  rw [r.length]
  exact RelSt.set q i (r.append (RelSt.nones _))
theorem slt_obj {a C dx : Addr} {ws : St} (h : Slt H a C dx ws) : ∃ u, H a = some u ∧ (∀ xs, u ≠ .lst xs) ∧ (∀ xs, u ≠ .tup xs) ∧ (∀ p, u ≠ .tbl p) ∧ (∀ p, u ≠ .xd p) ∧ (∀ p, u ≠ .own p) := by
  rcases h with ⟨h1, _⟩ | ⟨h1, _⟩
  · exact ⟨_, h1, fun _ z => (nomatch z), fun _ z => (nomatch z), fun _ z => (nomatch z), fun _ z => (nomatch z), fun _ z => (nomatch z)⟩
  · refine ⟨_, h1, fun _ z => ?_, fun _ z => ?_, fun _ z => ?_, fun _ z => ?_, fun _ z => ?_⟩ <;> (unfold SlO at z; cases z)
theorem slt_dict {a C dx : Addr} {ws : St} (h : Slt H a C dx ws) (own : H a = some (.ins C dx []) → H dx = some (.own a)) : H dx = some (.own a) ∨ H dx = some (.xd []) := by
  rcases h with ⟨h1, _⟩ | ⟨_, h2⟩
  · exact .inl (own h1)
  · exact .inr h2
/-- a slot stored -/
theorem Rep.setSl (R : Rep K T H M) {a C dx : Addr} {ws ws' : St} {vs' : StD} (hs : Slt H a C dx ws) (hd : H dx = some (.own a) ∨ H dx = some (.xd [])) (ne : dx ≠ a) (hc : ∀ q, H a ≠ some (LamX.CodeO a q)) (r : RelSt K T vs' ws') :
    Rep K T (slH H a C dx ws') (mup M a (.sl C vs')) := by
  obtain ⟨u, hu, n1, n2, n3, n4, n5⟩ := slt_obj hs
  have keep : ∀ c x, c ≠ a → H c = some x → (∀ y, x ≠ .own y) → slH H a C dx ws' c = some x := fun c x q1 e z2 => by
    by_cases q2 : c = dx
    · subst q2
      rcases hd with w | w <;> (rw [w] at e; cases e)
      · exact absurd rfl (z2 _)
      · unfold slH; rw [upd_ne ne, upd_same]
    · rw [slH_ne q1 q2]; exact e
  have na : ∀ c x, H c = some x → x ≠ u → c ≠ a := fun c x e z q => by rw [q, hu] at e; exact z (Option.some.inj e).symm
  refine ⟨fun b xs e => keep b _ (na b _ (R.tup b xs e) (fun z => n2 xs z.symm)) (R.tup b xs e) (fun _ z => (nomatch z)), fun b o e => ?_, fun p hp => ?_⟩
  · by_cases q : b = a
    · subst q
      rw [mup_same] at e
      cases e
      exact ⟨dx, ws', slH_slt ne, r⟩
    · rw [mup_ne q] at e
      refine (R.obj b o e).stay (Sub.refl T) fun c x hcx nt no e2 => keep c x ?_ e2 no
      rcases hcx with rfl | ⟨fs, rfl⟩
      · exact q
      · exact na c _ e2 (fun z => n4 fs z.symm)
  · obtain ⟨ps, h1, h2, h3⟩ := R.tab p hp
    refine ⟨ps, keep _ _ (na _ _ h1 (fun z => n3 ps z.symm)) h1 (fun _ z => (nomatch z)), h2, fun pos cv hcv => ?_⟩
    obtain ⟨c, e1, e2⟩ := h3 pos cv hcv
    exact ⟨c, e1, keep c _ (fun z => by subst z; exact hc _ e2) e2 (fun _ z => by unfold LamX.CodeO at z; cases z)⟩
/-- a new instance -/
theorem Rep.newSl (R : Rep K T H M) {x C dx : Addr} (hx : H x = none) (hd : H dx = none) (ne : dx ≠ x) : Rep K T (upd (upd H dx (.own x)) x (.ins C dx [])) (mup M x (.sl C [])) := by
  have sm : Same H (upd (upd H dx (.own x)) x (.ins C dx [])) := fun b u e => by rw [upd_ne (ne_of_none e hx), upd_ne (ne_of_none e hd)]; exact e
  have R' := R.same sm
  refine ⟨R'.tup, fun b o e => ?_, R'.tab⟩
  by_cases q : b = x
  · subst q
    rw [mup_same] at e
    cases e
    exact ⟨dx, [], .inl ⟨upd_same, rfl⟩, RelSt.nil'⟩
  · rw [mup_ne q] at e
    exact R'.obj b o e
end
section
variable {X : Cx} {T0 : Tm} {a e o : Expr} {es : List Expr} {te ta to : E3} {t : A3} {p p2 pos apos : Pos} {f x : Str} {C pd : Addr} {i : Nat}
theorem sl_not_code {pins : List (Addr × Obj)} {σ : L2.St} {H : Hp} {s : Shared} {a C dx : Addr} {ws : St} (I : Inv X pins σ H s) (h : Slt H a C dx ws) : ∀ q, H a ≠ some (LamX.CodeO a q) := fun q e => by
  obtain ⟨_, sl, _, ha, _⟩ := slt_at I h
  obtain ⟨⟨oc, vs, t, h1, h2, _⟩, _, _⟩ := I.hok a _ e
  rw [ha] at h1
  cases h1
  cases h2
theorem sl_dict {pins : List (Addr × Obj)} {σ : L2.St} {H : Hp} {s : Shared} {a C dx : Addr} {ws : St} (I : Inv X pins σ H s) (h : Slt H a C dx ws) : H dx = some (.own a) ∨ H dx = some (.xd []) :=
  slt_dict h fun h1 => by
    obtain ⟨_, _, _, _, _, ho⟩ := ins_get I.hok h1
    exact ho
/-- e.f, a slot -/
def slot3 (C : Addr) (i : Nat) (te : E3) : E3 := fun s M Q => te s M fun d M1 => ∃ a vs v, d = .ref a ∧ M1 a = some (.sl C vs) ∧ vs[i]? = some (some v) ∧ Q v M1
theorem q_slot (c : SCls X.K C) (t : Slot1 X.K C f pd i) (he : QE X T0 e te) (hb : attributeBase e f X.env (eval e X.env) = eval e X.env) : QE X T0 (.Attribute e f pos) (slot3 C i te) :=
  (pe_sl he hb).imp fun σ H Q ⟨T, M, s, Q3, S0, R, S, q, k⟩ => ⟨T, M, s, _, S0, R, S, q, fun v H1 ⟨T1, M1, d, s1, R1, r1, a, vs, d2, e1, hm, hv, q1⟩ => by
    subst e1
    obtain ⟨dx, ws, hs, rs⟩ := R1.obj a _ hm
    obtain ⟨w, hw, rw'⟩ := rs.get hv
    exact ⟨a, C, dx, pd, ws, i, w, relRef r1, hs, c, t, hw, k _ _ ⟨T1, M1, d2, s1, R1, rw', q1⟩⟩⟩
/-- o.f = .., a slot, among targets -/
def gslot3 (C : Addr) (i : Nat) (to : E3) : G3 := fun d s M Q => to s M fun o M1 => ∃ a vs, o = .ref a ∧ M1 a = some (.sl C vs) ∧ Q s (mup M1 a (.sl C (putSD i d vs)))
theorem qg_slot (c : SCls X.K C) (t : Slot1 X.K C f pd i) (ho : QE X T0 o to) : QG X T0 (.Attribute o f pos) (gslot3 C i to) := by
  refine ⟨fun pins s σ H v u Q I r ⟨T, M, s3, d, Q3, S0, R, S, rd, q, k⟩ => ?_⟩
  rw [assign_Attribute]
  refine wpAny_bind (wpAny_holding (thn (ho.run pins s σ H _ I ⟨T, M, s3, _, S0, R, S, q, fun _ _ l => l⟩) fun ov s1 hv => ?_))
  obtain ⟨x, H1, I1, r1, T1, M1, dd, sub, R1, rdd, a, vs, ed, hm, q1⟩ := hv
  subst ed
  obtain rfl := relRef rdd
  cases r1
  obtain ⟨dx, ws, hs, rs⟩ := R1.obj a _ hm
  refine wpAny_bind (wpAny_standAt (wpAny_bind (wpAny_holding (setslot_ok I1 hs c t r fun s2 I2 => ?_))))
  obtain ⟨ne, _⟩ := slt_at I1 hs
  exact wpAny_release ⟨σ, _, I2, k _ _ ⟨T1, _, s3, sub, R1.setSl hs (sl_dict I1 hs) ne (sl_not_code I1 hs) (rs.put i (rd.mono sub)), S.mono sub, q1⟩⟩
/-! ### making -/
/-- C(e, ..): __init__ by its promise -/
def make3 (C : Addr) (sp : Sp3) (EX : X3) (t : A3) : E3 := fun s M Q => t s M fun ds M1 => ∀ x, M1 x = none → sp (.ref x :: ds) (mup M1 x (.sl C [])) (fun d M2 => d = .non ∧ Q (.ref x) M2) EX
variable {TL : List (Addr × Str)} {CX : CXT} {k : Nat} {fi : Addr} {fd : FuncData} {ps ks : List Str} {sp : Sp3} {E : XK} {EX : X3}
theorem make_core {T T1 : Tm} {M1 : HM} {H1 : Hp} {ds : List D} {vs : List V} {Q : VK} {Q3 : K3} (hTL : T0.tl = TL) (hE : XOk X.K T0 EX E) (S0 : Sub T0 T) (s1 : Sub T T1) (R1 : Rep X.K T1 H1 M1) (r1 : RelDs X.K T1 ds vs)
    (q1 : ∀ x, M1 x = none → sp (.ref x :: ds) (mup M1 x (.sl C [])) (fun d M2 => d = .non ∧ Q3 (.ref x) M2) EX) (kk : ∀ v H', lift3 X.K T Q3 v H' → Q v H') (x dx : Addr) (hx : H1 x = none) (hdx : H1 dx = none) (ne : dx ≠ x) :
    upSp X.K TL sp (.ref x :: vs) (upd (upd H1 dx (.own x)) x (.ins C dx [])) (fun v H3 => v = .non ∧ Q (.ref x) H3) E := by
  refine ⟨T1, _, _, _, EX, (s1.tl.trans S0.tl).trans hTL, R1.newSl hx hdx ne, RelDs.cons refRel r1, q1 x (R1.noM hx), ?_, fun cls dd H' l => hE _ _ _ (l.mono (S0.trans s1))⟩
  rintro v H' ⟨T2, M2, d2, sub, R2, r2, rfl, q2⟩
  exact ⟨relNon r2, kk _ _ ⟨T2, M2, .ref x, s1.trans sub, R2, refRel, q2⟩⟩
theorem q_make (Mc : Mk X.K C fi) (F : FnOk X.prog X.w X.K X.mg X.base CX k fi fd ps (upSp X.K TL sp)) (hTL : T0.tl = TL) (hr : Room (k + 1) X.A) (hg : Gl X x) (hm : X.mg x = some (.ref C)) (hb : Binds X.K fd ps []) (hx : Passes CX X E) (hE : XOk X.K T0 EX E)
    (ha : QA X T0 (e :: es) t) (hdb : (x == ("__debug__" : Str)) = false) (he : starEach (e :: es) X.env = (false, eval e X.env) :: starEach es X.env) (hpl : (backTo pos (starEach es X.env)).any (·.1) = false) :
    QE X T0 (.Call (.Name x p) (e :: es) [] pos) (make3 C sp EX t) :=
  (pe_make Mc F hr hg hm hb .nil hx ha hdb he hpl).imp fun σ H Q ⟨T, M, s, Q3, S0, R, S, q, kk⟩ => ⟨T, M, s, _, S0, R, S, q, fun T1 H1 M1 ds vs s1 R1 r1 q1 x dx hx hdx ne => by
    rw [List.append_nil]
    exact make_core hTL hE S0 s1 R1 r1 q1 kk x dx hx hdx ne⟩
/-- keywords' values -/
abbrev QK (X : Cx) (T0 : Tm) (kws : List Keyword) (t : A3) : Prop := PK X kws (upA X.K T0 t)
theorem _root_.L2.PK.imp {X : Cx} {kws : List Keyword} {t t' : TA} (h : PK X kws t) (i : ∀ σ H Q, t' σ H Q → t σ H Q) : PK X kws t' := ⟨fun pos pins s σ H Q I q => h.run pos pins s σ H Q I (i _ _ _ q)⟩
theorem qk_nil : QK X T0 [] nil3 := pk_nil.imp fun σ H Q ⟨T, M, s, Q3, S0, R, S, q, k⟩ => k T H M [] [] (Sub.refl T) R RelDs.nil q
theorem qk_cons {kws : List Keyword} {nm : Option Str} {kpos : Pos} (ha : QE X T0 e te) (hr : QK X T0 kws t) : QK X T0 (⟨nm, e, kpos⟩ :: kws) (cons3 te t) :=
  (pk_cons ha hr).imp fun σ H Q ⟨T, M, s, Q3, S0, R, S, q, k⟩ => ⟨T, M, s, _, S0, R, S, q, fun v H1 ⟨T1, M1, d, s1, R1, r1, q1⟩ =>
    ⟨T1, M1, s, _, S0.trans s1, R1, S.mono s1, q1, fun T2 H2 M2 ds vs s2 R2 r2 q2 => k T2 H2 M2 (d :: ds) (v :: vs) (s1.trans s2) R2 (RelDs.cons (r1.mono s2) r2) q2⟩⟩
/-- C(k = v, ..), the keywords in the parameters' sequence -/
theorem q_makeK {kws : List Keyword} {g : List Value → List Value → List Value} (Mc : Mk X.K C fi) (F : FnOk X.prog X.w X.K X.mg X.base CX k fi fd ps (upSp X.K TL sp)) (hTL : T0.tl = TL) (hr : Room (k + 1) X.A) (hg : Gl X x) (hm : X.mg x = some (.ref C)) (hb : KBn X.K fd ps 1 ks g (fun vs zs => vs ++ zs)) (hx : Passes CX X E) (hE : XOk X.K T0 EX E)
    (ha : QK X T0 kws t) (hall : (backToKw pos (keywordEach kws X.env)).all (·.1.isSome) = true) (hks : (backToKw pos (keywordEach kws X.env)).filterMap (·.1) = ks) (hdb : (x == ("__debug__" : Str)) = false)
    (hpl : ((backTo pos (starEach [] X.env)).any (·.1) || (backToKw pos (keywordEach kws X.env)).any (·.1.isNone)) = false) :
    QE X T0 (.Call (.Name x p) [] kws pos) (make3 C sp EX fun s M Q => t s M fun ds M1 => ds.length = ks.length ∧ Q ds M1) :=
  (pe_makeK0 Mc F hr hg hm hb hx ha hall hks hdb hpl).imp fun σ H Q ⟨T, M, s, Q3, S0, R, S, q, kk⟩ => ⟨T, M, s, _, S0, R, S, q, fun T1 H1 M1 ds vs s1 R1 r1 ⟨hl, q1⟩ => ⟨rfl, by rw [← r1.length]; exact hl, fun x dx hx hdx ne =>
    make_core hTL hE S0 s1 R1 r1 q1 kk x dx hx hdx ne⟩⟩
/-- e.f, a property -/
def prop3 (C : Addr) (sp : Sp3) (te : E3) : E3 := fun s M Q => te s M fun d M1 => ∃ a vs, d = .ref a ∧ M1 a = some (.sl C vs) ∧ sp [.ref a] M1 Q (fun _ _ _ => False)
theorem q_prop {n : Nat} {g : Addr} (he : QE X T0 e te) (c : SCls X.K C) (at_ : PySem.W.findIn X.K (.ref C) f = some (some (.ref pd))) (get : PySem.W.specialIn X.K (.ref pd) "__get__" = some (some (.builtin "property.__get__")))
    (tk : PySem.W.takesIn X.K (.ref pd) = some true) (rc : ∃ rest, PySem.W.recIn X.K pd "property" = some (.ref g :: rest)) (F : FnOk X.prog X.w X.K X.mg X.base C8.CX0 n g fd ps (upSp X.K TL sp)) (hTL : T0.tl = TL) (hb' : Binds X.K fd ps []) (hr : Room (n + 1) X.A)
    (hb : attributeBase e f X.env (eval e X.env) = eval e X.env) : QE X T0 (.Attribute e f pos) (prop3 C sp te) :=
  (pe_propSl (E := C8.E0) he c at_ get tk rc (F.raw hb' .nil) hr (fun H s e s' z => z) hb).imp fun σ H Q ⟨T, M, s, Q3, S0, R, S, q, kk⟩ => ⟨T, M, s, _, S0, R, S, q, fun v H1 ⟨T1, M1, d, s1, R1, r1, a, vs, e1, hm, q1⟩ => by
    subst e1
    obtain ⟨dx, ws, hs, rs⟩ := R1.obj a _ hm
    refine ⟨a, dx, ws, relRef r1, hs, ?_⟩
    exact ⟨T1, M1, _, Q3, _, (s1.tl.trans S0.tl).trans hTL, R1, RelDs.one refRel, q1, fun v H' l => kk _ _ (l.mono s1), fun cls dd H' ⟨_, _, _, _, _, _, _, _, _, _, _, _, z⟩ => z.elim⟩⟩
end
/-! ### what a thing is -/
/-- an own exception class, as isinstance and e.value ask -/
structure ExcK (K : PySem.W.Frag) (C : Addr) : Prop where
  cl : (PySem.W.clsIn K C).isSome = true
  ga : PySem.W.findIn K (.ref C) "__getattribute__" = some (some (.builtin "BaseException.__getattribute__"))
  gg : PySem.W.findIn K (.ref C) "__getattr__" = some none
  ex : PySem.W.subIn K (.ref C) (.type "BaseException") = some true
  hd : PySem.W.hasDictIn K C = true
  noV : PySem.W.findIn K (.ref C) "value" = some none
  si : SIsi K C
inductive TyD (K : PySem.W.Frag) (M : HM) : D → Value → Prop where
  | non : TyD K M .non (.type "NoneType")
  | bl (b : Bool) : TyD K M (.bl b) (.type "bool")
  | int (i : Int) : TyD K M (.int i) (.type "int")
  | str (x : Str) : TyD K M (.str x) (.type "str")
  | tup (ds : List D) : TyD K M (.tup ds) (.type "tuple")
  | lst {a : Addr} {ds : List D} (h : LstAt M a ds) : TyD K M (.ref a) (.type "list")
  | dk {a : Addr} {kvs : List (Key × D)} (h : M a = some (.dk kvs)) : TyD K M (.ref a) (.type "dict")
  | sl {a C : Addr} {vs : StD} (h : M a = some (.sl C vs)) (c : SCls K C) (i : SIsi K C) : TyD K M (.ref a) (.ref C)
  | exc {a C : Addr} {d : D} (h : M a = some (.exc C d)) (c : ExcK K C) : TyD K M (.ref a) (.ref C)
section
variable {X : Cx} {pins : List (Addr × Obj)} {σ : L2.St} {H : Hp} {s : Shared} {T : Tm} {M : HM}
theorem exc_inst (I : Inv X pins σ H s) (R : Rep X.K T H M) {a C : Addr} {d : D} (h : M a = some (.exc C d)) : ∃ (oe od : Obj) (v : V), PySem.W.InstAt s.heap a oe C (some od) ∧ (∃ u, PySem.W.lookIn "value" od = some (some u) ∧ RelV v u) ∧ RelD X.K T d v := by
  obtain ⟨dd, v, h1, h2, r⟩ := R.obj a _ h
  obtain ⟨⟨oe, vs, e1, e2, e3, e4⟩, _, _⟩ := I.hok a _ h1
  obtain ⟨mA, n, q⟩ := I.hok dd _ h2
  obtain ⟨od, ho, hl⟩ := lookIn_ns n
  have qv := q "value"
  have lk : List.lookup ("value" : Str) [(("value" : Str), v)] = some v := by simp [List.lookup]
  rw [lk] at qv
  refine ⟨oe, od, v, ⟨e1, e2, ?_, ?_⟩, ?_, r⟩
  · unfold PySem.W.notCls; rw [e4]
  · rw [e3]; exact ho
  · rw [hl]
    cases hm : mA "value" with
    | none => rw [hm] at qv; exact qv.elim
    | some u => rw [hm] at qv; exact ⟨u, rfl, qv⟩
theorem kitD (I : Inv X pins σ H s) (R : Rep X.K T H M) {d : D} {x : V} {u t : Value} (rd : RelD X.K T d x) (rx : RelV x u) (ty : TyD X.K M d t) : ∃ P : Heap → Prop, PySem.W.KitX X.K u t P ∧ P s.heap ∧ u ≠ .builtin "__main__.__loader__#opaque" := by
  cases ty with
  | non => obtain rfl := relNon rd; exact kit_of I rx (.base .non)
  | bl b => obtain rfl := relBl rd; exact kit_of I rx (.base (.bl b))
  | int i => obtain rfl := relInt rd; exact kit_of I rx (.base (.int i))
  | str z => obtain rfl := relStr rd; exact kit_of I rx (.base (.str z))
  | tup ds =>
    simp only [RelD] at rd
    obtain ⟨a, xs, rfl, q, _⟩ := rd
    rcases q with q | ⟨o, its, n, q1, q2, _⟩
    · exact kit_of I rx (.base (.tup (R.tup _ _ q)))
    · exact kit_of I rx (.kTuple q1 q2)
  | lst h =>
    obtain rfl := relRef rd
    rcases h with h | h
    · obtain ⟨xs, e, _⟩ := R.obj _ _ h; exact kit_of I rx (.base (.lst e))
    · obtain ⟨xs, e, _⟩ := R.obj _ _ h
      rcases e with e | ⟨o, e⟩
      · exact kit_of I rx (.base (.lst e))
      · exact kit_of I rx (.base (.frz e))
  | dk h => obtain rfl := relRef rd; obtain ⟨kws, e, _⟩ := R.obj _ _ h; exact kit_of I rx (.base (.dK e))
  | sl h c i =>
    obtain rfl := relRef rd
    cases rx
    obtain ⟨dx, ws, hs, _⟩ := R.obj _ _ h
    obtain ⟨sl, od, _, J, _⟩ := slt_inst I hs
    exact ⟨_, OwX.kitx_slt c.ic (c.get _) i.ca i.cn i.ct i.cm, J, fun z => nomatch z⟩
  | exc h c =>
    obtain rfl := relRef rd
    cases rx
    obtain ⟨oe, od, v, J, _, _⟩ := exc_inst I R h
    exact ⟨_, PySem.W.kitx_exc c.cl c.ga c.gg c.ex c.si.ca c.si.cn c.si.ct c.si.cm, J, fun z => nomatch z⟩
end
/-- a class as a value -/
def clsV : D → Option Value
  | .ty n => some (.type n)
  | .ref C => some (.ref C)
  | _ => none
def isi3 (K : PySem.W.Frag) : List D → HM → K3 → Prop := fun ds M Q => ∃ d c t u b, ds = [d, c] ∧ clsV c = some u ∧ TyD K M d t ∧ PySem.W.kitOne K t u = some b ∧ Q (.bl b) M
section
variable {X : Cx} {T0 : Tm}
theorem c_isi3 : CallR X (.builtin "isinstance") (upC X.K T0 (isi3 X.K)) := by
  intro pins s σ H xs us Q I rs ⟨T, M, ds, Q3, S0, R, rr, ⟨d, c, t, u, b, ed, hc, ty, hk, q⟩, k⟩
  subst ed
  simp only [RelDs] at rr
  obtain ⟨v, w, rfl, r1, v2, w2, rfl, r2, rfl⟩ := rr
  obtain ⟨u1, u2, rfl, q1, q2⟩ := rs.two
  obtain ⟨P, Z, pz, hx⟩ := kitD I R r1 q1 ty
  have e2 : u2 = u := by
    cases c <;> simp only [clsV] at hc <;> try cases hc
    · obtain rfl := relRef r2; exact q2
    · obtain rfl := relTy r2; exact q2
  subst e2
  exact PySem.W.kia_one Z I.kIn pz hk hx fun tk => ⟨.bl b, H, I.tok tk, rfl, k _ _ (lift3.of R blRel q)⟩
/-! ### e.value of a caught error -/
def excVal3 (K : PySem.W.Frag) (te : E3) : E3 := fun s M Q => te s M fun d M1 => ∃ a C v, d = .ref a ∧ M1 a = some (.exc C v) ∧ ExcK K C ∧ Q v M1
theorem q_excVal {e : Expr} {te : E3} {pos : Pos} (he : QE X T0 e te) (hb : attributeBase e "value" X.env (eval e X.env) = eval e X.env) : QE X T0 (.Attribute e "value" pos) (excVal3 X.K te) := by
  refine ⟨fun pins s σ H Q I ⟨T, M, s3, Q3, S0, R, S, q, k⟩ => ?_⟩
  refine attr_of hb (thn (he.run pins s σ H _ I ⟨T, M, s3, _, S0, R, S, q, fun _ _ l => l⟩) fun u s1 hv => ?_)
  obtain ⟨x, H1, I1, r1, T1, M1, dd, sub, R1, rdd, a, C, d, ed, hm, c, q1⟩ := hv
  subst ed
  obtain rfl := relRef rdd
  cases r1
  obtain ⟨oe, od, v, J, ⟨w, hw, rw'⟩, rd⟩ := exc_inst I1 R1 hm
  exact HandSPX.exc_get I1.kIn J c.ga c.gg c.ex (PySem.W.findObj_own c.hd c.noV rfl hw) (handed_of rw') ⟨v, H1, I1.tok _, rw', k _ _ ⟨T1, M1, d, sub, R1, rd, q1⟩⟩
end
end L3
end

section
set_option Elab.async false
set_option linter.all false
set_option maxRecDepth 100000
set_option maxHeartbeats 400000
/-! L3v: == and != of instances with an own __eq__. -/
namespace L3
open PySem PySem.Spec PyProof.Rows L2 SlX
/-- x == y by x's own __eq__ -/
def eqOwn3 (K : PySem.W.Frag) (C : Addr) (sp : Sp3) (EX : X3) : O3 := fun d e M Q => ∃ a vs t, d = .ref a ∧ M a = some (.sl C vs) ∧ TyD K M e t ∧ PySem.W.notFirst K C t = true ∧ sp [d, e] M Q EX
/-- x != y, where only __eq__ is told -/
def neOwn3 (K : PySem.W.Frag) (C : Addr) (sp : Sp3) (EX : X3) : O3 := fun d e M Q => ∃ a vs t, d = .ref a ∧ M a = some (.sl C vs) ∧ TyD K M e t ∧ PySem.W.notFirst K C t = true ∧ sp [d, e] M (fun r M' => ∃ b, r = .bl b ∧ Q (.bl (!b)) M') EX
section
variable {prog : Program} {w : World} {A : Around} {E : Value → Shared → Prop} {s : Shared} {K : PySem.W.Frag} {x C f : Addr} {ox : Obj} {od : Option Obj} {b tb : Value}
theorem ifBound_ne {M : Model} {args : List Value} {Q : Option Value → Shared → Prop} (X : K.In s.heap) (I : PySem.W.InstAt s.heap x ox C od) (hs : PySem.W.findIn K (.ref C) "__ne__" = some (some (.builtin "object.__ne__")))
    (h : wpAny M A (call (.builtin "object.__ne__") (.ref x :: args)) (fun v => Q (some v)) E s) : wpAny M A (callSpecialIfBound? (.ref x) "__ne__" args) Q E s := by
  simp only [callSpecialIfBound?, bindSpecialIfBound?]
  refine wpAny_holding (wpAny_bind (wpAny_bind (wpAny_bind (I.type.here ((PySem.W.looks_findIn X hs).here ?_)))))
  refine wpAny_bind (wpAny_askSetting (wpAny_ite ?_))
  have fin : wpAny M A (call (.builtin "object.__ne__") ([.ref x] ++ args) >>= fun v => pure (some v)) Q E s := wpAny_bind (wpAny_mono h (fun v s' h' => wpAny_pure h') fun _ _ h' => h')
  split
  · exact wpAny_bind (wpAny_of_eq (F.cmp_object.ne.bind _) (wpAny_pure (by exact fin)))
  · exact wpAny_tryCatch (wpAny_bind (wpAny_of_eq (F.cmp_object.ne.bind _) (wpAny_pure (by exact fin))))
theorem body_ne {Q : Fin → Shared → Prop} (X : K.In s.heap) (I : PySem.W.InstAt s.heap x ox C od) (hu : A.units < cLine) (hs : PySem.W.findIn K (.ref C) "__eq__" = some (some (.ref f))) (hf : PySem.W.isFn K (.ref f) = true)
    (h : wpAny (model prog w) A (call (.ref f) [.ref x, b]) (fun v s' => ∃ r, v = .bool r ∧ Q (.done (.ret (.bool (!r)))) s') E s) : wpAny (model prog w) A (Builtin.«object.__ne__» ⟨[.ref x, b], []⟩) Q E s := by
  unfold Builtin.«object.__ne__»
  repeat (first
    | with_reducible refine wpAny_cRoomFor hu ?_
    | (refine wpAny_bind (m := callSpecialIfBound? (.ref x) (Str.ofString "__eq__") [b])
        (PySem.W.ifBound_K X I hs hf (wpAny_mono h (fun r s' hr => by
          obtain ⟨b, rfl, hq⟩ := hr
          repeat (first | exact hq | exact wpAny_pure hq | exact wpAny_truthy_bool hq | (refine wpAny_bind (m := truthy (.bool _)) (wpAny_truthy_bool ?_)) | wp_step)) fun _ _ e => e)))
    | wp_step)
theorem cmp_ne {Q : Value → Shared → Prop} (X : K.In s.heap) (I : PySem.W.InstAt s.heap x ox C od) (hu : A.units + 1 < cLine) (hb : PySem.W.Looks (model prog w) s.heap (typeOf b) tb) (hn : PySem.W.notFirst K C tb = true)
    (hn2 : PySem.W.findIn K (.ref C) "__ne__" = some (some (.builtin "object.__ne__"))) (hm : PySem.W.mroIn K C (.type "object") = some true)
    (hs : PySem.W.findIn K (.ref C) "__eq__" = some (some (.ref f))) (hf : PySem.W.isFn K (.ref f) = true)
    (h : wpAny (model prog w) A.in1 (call (.ref f) [.ref x, b]) (fun v s' => ∃ r, v = .bool r ∧ Q (.bool (!r)) s') E s) : wpAny (model prog w) A (richCompare .NotEq (.ref x) b) Q E s := by
  have one : wpAny (model prog w) A (tryCompare (.ref x) (cmpInfo .NotEq).2.1 b) (fun r s' => ∃ v, r = some v ∧ Q v s') E s := by
    show wpAny (model prog w) A (tryCompare (.ref x) "__ne__" b) _ E s
    unfold tryCompare
    refine wpAny_bind (ifBound_ne X I hn2 (wpAny_call (codeAny_call_builtin F.cmp_object.ne.plain F.cmpEntry_ne (PySem.W.check_slot F.cmpKind_ne F.cmpSplit_ne (I.type.andThen (PySem.W.looks_mroIn X hm)) (F.cmpArgs_ne _ _)
      (body_ne (A := A.in1) X I hu hs hf (wpAny_mono h (fun v s' hv => ?_) fun _ _ e => e))))))
    obtain ⟨r, rfl, hq⟩ := hv
    first | exact ⟨r, rfl, wpAny_pure ⟨_, rfl, hq⟩⟩ | exact ⟨r, rfl, wpAny_pure (wpAny_pure ⟨_, rfl, hq⟩)⟩ | exact ⟨r, rfl, ⟨_, rfl, hq⟩⟩
  unfold richCompare
  simp only [oneThing_ref]
  refine wpAny_holding (wpAny_bind (wpAny_cRoomFor (Nat.lt_of_succ_lt hu) ?_))
  refine wpAny_bind (I.type.here (wpAny_bind (hb.here ?_)))
  split
  · rename_i q
    have e : PySem.W.subIn K tb (.ref C) = some false := by
      rcases Bool.or_eq_true_iff.mp hn with e | e
      · rw [beq_iff_eq.mp e] at q; simp at q
      · exact beq_iff_eq.mp e
    refine wpAny_bind ((PySem.W.looks_subIn X e).here ?_)
    simp only [Bool.false_eq_true, if_false]
    refine wpAny_bind (wpAny_mono one (fun r s' z => ?_) fun _ _ e => e)
    obtain ⟨v, rfl, hq⟩ := z
    exact wpAny_pure hq
  · refine wpAny_bind (wpAny_pure ?_)
    simp only [Bool.false_eq_true, if_false]
    refine wpAny_bind (wpAny_mono one (fun r s' z => ?_) fun _ _ e => e)
    obtain ⟨v, rfl, hq⟩ := z
    exact wpAny_pure hq
end
section
variable {X : Cx} {T0 : Tm} {TL : List (Addr × Str)} {CX : CXT} {n : Nat} {C g : Addr} {fd : FuncData} {ps : List Str} {sp : Sp3} {E : XK} {EX : X3}
theorem op_eqOwn (hs : PySem.W.findIn X.K (.ref C) "__eq__" = some (some (.ref g))) (hf : PySem.W.isFn X.K (.ref g) = true) (F : FnOk X.prog X.w X.K X.mg X.base CX n g fd ps (upSp X.K TL sp)) (hTL : T0.tl = TL) (hb : L2.Binds X.K fd ps []) (hr : Room n X.A) (hx : Passes CX X E) (hE : XOk X.K T0 EX E) :
    OpR X (compareOp .Eq) (upO X.K T0 (eqOwn3 X.K C sp EX)) := by
  intro pins s σ H x y v u Q I rx ry ⟨T, M, d, e, Q3, S0, R, r1, r2, ⟨a, vs, t, ed, hm, ty, hn, q⟩, k⟩
  subst ed
  obtain rfl := relRef r1
  cases rx
  obtain ⟨dx, ws, hsl, rs⟩ := R.obj a _ hm
  obtain ⟨sl, od, _, J, _⟩ := slt_inst I hsl
  obtain ⟨P, Z, pz, _⟩ := kitD I R r2 ry ty
  obtain ⟨m, hF⟩ := I.fr
  show wpAny _ _ (richCompare .Eq (.ref a) u) _ _ _
  refine PySem.W.cmp_K (op := .Eq) (tb := t) hr.units0 hF I.ok.mod.kin J (Z.ty _ _ I.kIn pz) hn hs hf ?_
  refine wpAny_mono (wpAny_call (run_fnR (us := [.ref a, u]) (vs := [.ref a, y]) (F.raw hb .nil) hr hx I (.cons rfl (.cons ry .nil)) (Q := Q) ?_)) (fun w s' z => ?_) fun _ _ x => x
  · exact ⟨T, M, _, Q3, EX, S0.tl.trans hTL, R, RelDs.cons refRel (RelDs.one r2), q, k, fun cls dd H' l => hE _ _ _ (l.mono S0)⟩
  · obtain ⟨z', H', I', rz, qz⟩ := z
    exact cmpback rz ⟨z', H', I', rz, qz⟩
theorem op_neOwn (hn2 : PySem.W.findIn X.K (.ref C) "__ne__" = some (some (.builtin "object.__ne__"))) (hmo : PySem.W.mroIn X.K C (.type "object") = some true) (hs : PySem.W.findIn X.K (.ref C) "__eq__" = some (some (.ref g))) (hf : PySem.W.isFn X.K (.ref g) = true)
    (F : FnOk X.prog X.w X.K X.mg X.base CX n g fd ps (upSp X.K TL sp)) (hTL : T0.tl = TL) (hb : L2.Binds X.K fd ps []) (hr : Room (n + 1) X.A) (hx : Passes CX X E) (hE : XOk X.K T0 EX E) :
    OpR X (compareOp .NotEq) (upO X.K T0 (neOwn3 X.K C sp EX)) := by
  intro pins s σ H x y v u Q I rx ry ⟨T, M, d, e, Q3, S0, R, r1, r2, ⟨a, vs, t, ed, hm, ty, hn, q⟩, k⟩
  subst ed
  obtain rfl := relRef r1
  cases rx
  obtain ⟨dx, ws, hsl, rs⟩ := R.obj a _ hm
  obtain ⟨sl, od, _, J, _⟩ := slt_inst I hsl
  obtain ⟨P, Z, pz, _⟩ := kitD I R r2 ry ty
  show wpAny _ _ (richCompare .NotEq (.ref a) u) _ _ _
  refine cmp_ne I.kIn J (hu_of hr) (Z.ty _ _ I.kIn pz) hn hn2 hmo hs hf ?_
  refine wpAny_mono (wpAny_call (run_at (us := [.ref a, u]) (ws := [.ref a, y]) (F.raw hb .nil) hr.in1 I.env0.in1 hx I (.cons rfl (.cons ry .nil)) (Q := fun r H' => ∃ b, r = .bl b ∧ Q (.bl (!b)) H') ?_)) (fun w s' z => ?_) fun _ _ x => x
  · refine ⟨T, M, _, _, EX, S0.tl.trans hTL, R, RelDs.cons refRel (RelDs.one r2), q, ?_, fun cls dd H' l => hE _ _ _ (l.mono S0)⟩
    rintro v H' ⟨T', M', d', sub, R', r', b, rfl, qb⟩
    exact ⟨b, relBl r', k _ _ ⟨T', M', _, sub, R', blRel, qb⟩⟩
  · obtain ⟨z', H', I', rz, b, rfl, qz⟩ := z
    cases rz
    exact ⟨b, rfl, .bl (!b), H', I', rfl, qz⟩
end
end L3
end

section
set_option Elab.async false
set_option linter.all false
set_option maxRecDepth 100000
set_option maxHeartbeats 400000
/-! L3w: repr of data, lists in it too; defs that are called with no repr under way. -/
namespace L3
open PySem PySem.Spec PyProof.Rows L2
section
variable {prog : Program} {w : World} {A : Around} {E : Value → Shared → Prop} {s : Shared}
theorem call_repr_reads {v : Value} {d : PyData} {as : List Addr} {Q : Value → Shared → Prop} (r : Reads s.heap v d as) (hs : d.showable = true) (hd : d.hasDict = false) (hz : d.shown.length ≤ sizeLine) (hg : A.guards = some []) (hu : A.units + d.depth + 2 < cLine)
    (hQ : ∀ h' u tk, (∀ b o, s.heap.get? b = some o → h'.get? b = some o) → Q (.str d.shown u) { s with heap := h', toks := tk }) : wpAny (model prog w) A (call (.builtin "repr") [v]) Q E s := by
  have hg1 : A.in1.guards = some [] := hg
  have done : ∀ {T id : String} {a : Addr}, s.TypeIs (.ref a) T → SlotG T "__repr__" id → wpAny (model prog w) A.in1 (call (.builtin id) [.ref a]) (fun x s' => ∃ u, x = .str d.shown u ∧ Q x s') E s → wpAny (model prog w) A (call (.builtin "repr") [.ref a]) Q E s := by
    intro T id a hT slot h
    refine Calls.call_function_entry F.kind_repr F.plain_repr F.entry_repr (F.args_repr1 _) ?_
    unfold Builtin.«repr»
    refine wpAny_bind (m := oneArg "repr" _) (wpAny_pure ?_)
    refine wpAny_bind (wpAny_cRoomFor (by show A.units + 1 < cLine; omega) ?_)
    refine wpAny_bind (wpAny_specialOf (name := Str.ofString "__repr__") hT slot.lookup ?_)
    refine wpAny_bind (m := callSpecialIfBound? (.ref a) (Str.ofString "__repr__")) (wpAny_callSpecialIfBound?_slotG (name := Str.ofString "__repr__") hT slot (wpAny_mono h (fun x s' hx => ?_) fun _ _ e => e))
    obtain ⟨u, rfl, hq⟩ := hx
    refine wpAny_bind (wpAny_isInstance (T := "str") (b := true) rfl isSubtype_str_str ?_)
    exact wpAny_pure ⟨_, rfl, hq⟩
  cases r with
  | none =>
    simp only [PyData.shown] at hQ
    exact P.repr_of_none (hQ s.heap _ _ fun _ _ e => e)
  | bool b =>
    simp only [PyData.shown] at hQ
    exact P.repr_of_bool (hQ s.heap _ _ fun _ _ e => e)
  | int i t =>
    simp only [PyData.shown] at hQ
    exact P.repr_of_int (by simpa [PyData.showable] using hs) (hQ s.heap _ _ fun _ _ e => e)
  | str x t =>
    simp only [PyData.shown] at hQ
    exact P.repr_of_str (hQ s.heap _ _ fun _ _ e => e) (by simpa only [PyData.shown] using hz)
  | @list a o vs n xs as h1 h2 h3 h4 =>
    have hz' : (listText (PyData.shownAll xs)).length ≤ sizeLine := by simpa only [PyData.shown] using hz
    obtain ⟨bs, hb, hk⟩ := ReprAllK.of_readsAll (prog := prog) (w := w) h4 (by simpa [PyData.showable] using hs) (fun hx hm => absurd hd (by simp [PyData.hasDict, hx])) (fun t ht => Nat.le_trans (listText_mem_le ht) hz')
    have r : Reads s.heap (.ref a) (.list xs) _ := .list h1 h2 h3 h4
    have hna : a ∉ bs := not_mem_of_deeper r (by simp only [PyData.depth]; omega) hb
    simp only [PyData.depth] at hu
    simp only [PyData.shown] at hQ done
    refine done ⟨_, h1, h2⟩ F.slot_list_repr.toG ?_
    obtain ⟨l⟩ := vs
    cases l with
    | nil =>
      have h4' : ReadsAll s.heap [] xs _ := h4
      cases h4'
      simp only [PyData.shownAll, listText_nil] at hQ ⊢
      exact call_list_repr_empty ⟨_, h1, h2⟩ h1 h3 ⟨_, rfl, hQ s.heap _ _ fun _ _ e => e⟩
    | cons x l =>
      exact call_list_reprK h1 h2 h3 hna (by simpa using hk.length_eq) (fun i y e => hk.item i y (by simpa using e)) hg1 (fun b _ => Clear.nil b) (by show A.units + 1 + _ < cLine; omega) (fun _ _ e => e) (fun h' u tk hk' => ⟨u, rfl, hQ h' u tk hk'⟩) hz'
  | @tuple a o vs n xs as h1 h2 h3 h4 =>
    have hz' : (tupleText (PyData.shownAll xs)).length ≤ sizeLine := by simpa only [PyData.shown] using hz
    obtain ⟨bs, hb, hk⟩ := ReprAllK.of_readsAll (prog := prog) (w := w) h4 (by simpa [PyData.showable] using hs) (fun hx hm => absurd hd (by simp [PyData.hasDict, hx])) (fun t ht => Nat.le_trans (tupleText_mem_le ht) hz')
    have r : Reads s.heap (.ref a) (.tuple xs) _ := .tuple h1 h2 h3 h4
    have hna : a ∉ bs := not_mem_of_deeper r (by simp only [PyData.depth]; omega) hb
    simp only [PyData.depth] at hu
    simp only [PyData.shown] at hQ done
    exact done ⟨_, h1, h2⟩ F.slot_tuple_repr (call_tuple_reprK h1 h2 h3 hna hk hg1 (fun b _ => Clear.nil b) (by show A.units + 1 + _ < cLine; omega) (fun _ _ e => e) (fun h' u tk hk' => ⟨u, rfl, hQ h' u tk hk'⟩) hz')
  | dict => simp [PyData.hasDict] at hd
end
/-! ### data as it is shown -/
mutual
/-- what stands there, lists too -/
def RdP (M : HM) : PyData → D → Prop
  | .none, d => d = .non
  | .bool b, d => d = .bl b
  | .int i, d => d = .int i
  | .str x, d => d = .str x
  | .tuple ps, d => ∃ ds, d = .tup ds ∧ RdPs M ps ds
  | .list ps, d => ∃ a ds, d = .ref a ∧ LstAt M a ds ∧ RdPs M ps ds
  | .dict _, _ => False
def RdPs (M : HM) : List PyData → List D → Prop
  | [], ds => ds = []
  | p :: ps, ds => ∃ d r, ds = d :: r ∧ RdP M p d ∧ RdPs M ps r
end
mutual
/-- data without lists -/
def pyD : D → PyData
  | .non => .none
  | .bl b => .bool b
  | .int i => .int i
  | .str x => .str x
  | .tup ds => .tuple (pyDs ds)
  | .ref _ => .none
  | .ty _ => .none
def pyDs : List D → List PyData
  | [] => []
  | d :: ds => pyD d :: pyDs ds
end
mutual
theorem rdP_of {M : HM} : ∀ d : D, pureD d = true → RdP M (pyD d) d
  | .non, _ => by simp only [pyD, RdP]
  | .bl b, _ => by simp only [pyD, RdP]
  | .int i, _ => by simp only [pyD, RdP]
  | .str x, _ => by simp only [pyD, RdP]
  | .tup ds, h => by simp only [pureD] at h; simp only [pyD, RdP]; exact ⟨ds, rfl, rdPs_of ds h⟩
  | .ref _, h => by simp [pureD] at h
  | .ty _, h => by simp [pureD] at h
theorem rdPs_of {M : HM} : ∀ ds : List D, pureDs ds = true → RdPs M (pyDs ds) ds
  | [], _ => by simp only [pyDs, RdPs]
  | d :: ds, h => by
    simp only [pureDs, Bool.and_eq_true] at h
    simp only [pyDs, RdPs]
    exact ⟨d, ds, rfl, rdP_of d h.1, rdPs_of ds h.2⟩
end
mutual
theorem rdP_noDict {M : HM} : ∀ (p : PyData) (d : D), RdP M p d → p.hasDict = false
  | .none, _, _ => by simp only [PyData.hasDict]
  | .bool b, _, _ => by simp only [PyData.hasDict]
  | .int i, _, _ => by simp only [PyData.hasDict]
  | .str x, _, _ => by simp only [PyData.hasDict]
  | .tuple ps, d, h => by simp only [RdP] at h; obtain ⟨ds, _, h⟩ := h; simp only [PyData.hasDict]; exact rdPs_noDict ps ds h
  | .list ps, d, h => by simp only [RdP] at h; obtain ⟨a, ds, _, _, h⟩ := h; simp only [PyData.hasDict]; exact rdPs_noDict ps ds h
  | .dict _, _, h => by simp [RdP] at h
theorem rdPs_noDict {M : HM} : ∀ (ps : List PyData) (ds : List D), RdPs M ps ds → PyData.hasDictAll ps = false
  | [], _, _ => by simp only [PyData.hasDictAll]
  | p :: ps, _, h => by
    simp only [RdPs] at h
    obtain ⟨d, r, _, h1, h2⟩ := h
    simp only [PyData.hasDictAll, rdP_noDict p d h1, rdPs_noDict ps r h2, Bool.or_false]
end
section
variable {X : Cx} {pins : List (Addr × Obj)} {σ : St} {H : Hp} {s : Shared} {T : Tm} {M : HM}
mutual
theorem reads_of (I : Inv X pins σ H s) (R : Rep X.K T H M) : ∀ (p : PyData) (d : D) (v : V) (u : Value), RdP M p d → RelD X.K T d v → RelV v u → ∃ as, Reads s.heap u p as
  | .none, d, v, u, h, r, q => by
    simp only [RdP] at h; subst h
    obtain rfl := relNon r
    cases q
    exact ⟨_, .none⟩
  | .bool b, d, v, u, h, r, q => by
    simp only [RdP] at h; subst h
    obtain rfl := relBl r
    cases q
    exact ⟨_, .bool b⟩
  | .int i, d, v, u, h, r, q => by
    simp only [RdP] at h; subst h
    obtain rfl := relInt r
    obtain ⟨t, rfl⟩ := q
    exact ⟨_, .int i t⟩
  | .str x, d, v, u, h, r, q => by
    simp only [RdP] at h; subst h
    obtain rfl := relStr r
    obtain ⟨t, rfl⟩ := q
    exact ⟨_, .str x t⟩
  | .tuple ps, d, v, u, h, r, q => by
    simp only [RdP] at h
    obtain ⟨ds, rfl, h⟩ := h
    obtain ⟨a, xs, rfl, g, r2⟩ := R.sqT r
    cases q
    obtain ⟨its, rv, ⟨o, h1, h2, n, h3⟩, _⟩ := I.tuple g
    obtain ⟨as, ra⟩ := readsAll_of I R ps ds xs its h r2 rv
    exact ⟨_, .tuple h1 h2 h3 (by simpa using ra)⟩
  | .list ps, d, v, u, h, r, q => by
    simp only [RdP] at h
    obtain ⟨a, ds, rfl, hl, h⟩ := h
    obtain rfl := relRef r
    cases q
    obtain ⟨xs, g, r2⟩ := R.sqL hl
    obtain ⟨its, rv, hp, _⟩ := I.list g
    obtain ⟨o, h1, h2, n, h3⟩ := hp.isList
    obtain ⟨as, ra⟩ := readsAll_of I R ps ds xs its h r2 rv
    exact ⟨_, .list h1 h2 h3 (by simpa using ra)⟩
  | .dict _, _, _, _, h, _, _ => by simp [RdP] at h
theorem readsAll_of (I : Inv X pins σ H s) (R : Rep X.K T H M) : ∀ (ps : List PyData) (ds : List D) (vs : List V) (us : List Value), RdPs M ps ds → RelDs X.K T ds vs → Vals vs us → ∃ as, ReadsAll s.heap us ps as
  | [], ds, vs, us, h, r, q => by
    simp only [RdPs] at h; subst h
    simp only [RelDs] at r; subst r
    cases q
    exact ⟨_, .nil⟩
  | p :: ps, ds, vs, us, h, r, q => by
    simp only [RdPs] at h
    obtain ⟨d, ds', rfl, h1, h2⟩ := h
    simp only [RelDs] at r
    obtain ⟨v, vs', rfl, r1, r2⟩ := r
    cases q with
    | cons q1 q2 =>
      obtain ⟨as, a1⟩ := reads_of I R p d v _ h1 r1 q1
      obtain ⟨bs, a2⟩ := readsAll_of I R ps ds' vs' _ h2 r2 q2
      exact ⟨_, .cons a1 a2⟩
end
/-- may be shown -/
structure ShowOk (p : PyData) : Prop where
  ok : p.showable = true
  sz : p.shown.length ≤ sizeLine
  dp : p.depth ≤ 100
def repr3 : C3
  | [d], M, Q => ∃ p, RdP M p d ∧ ShowOk p ∧ Q (.str p.shown) M
  | _, _, _ => False
theorem c_repr3 {T0 : Tm} (hg : X.A.guards = some []) (hu : X.A.units + 128 < cLine) : CallR X (.builtin "repr") (upC X.K T0 repr3) := by
  intro pins s σ H xs us Q I rs ⟨T, M, ds, Q3, S0, R, rr, h, k⟩
  unfold repr3 at h
  split at h
  · obtain ⟨v, rfl, r1⟩ := one_up rr
    obtain ⟨u, rfl, q1⟩ := rs.one
    obtain ⟨p, hp, ok, q⟩ := h
    obtain ⟨as, ra⟩ := reads_of I R p _ v u hp r1 q1
    have hd := ok.dp
    exact call_repr_reads ra ok.ok (rdP_noDict p _ hp) ok.sz hg (by omega) fun h' u tk hk => ⟨.str p.shown, H, I.kept hk, ⟨u, rfl⟩, k _ _ (lift3.of R strRel q)⟩
  · exact h.elim
end
/-! ### defs that are called while no repr is under way -/
structure FnG (P : Program) (w : World) (K : PySem.W.Frag) (mg : Str → Option Value) (base : Heap) (CX : CXT) (k : Nat) (f : Addr) (fd : FuncData) (ps : List Str) (sp : Sp) : Prop where
  len : ∀ vs H Q E, sp vs H Q E → vs.length = ps.length
  run : ∀ (A : Around) (outer : List Env) (s : Shared) (H : Hp) (args : Args) (us : List Value) (vs : List V) (Q : VK) (E : XK), A.guards = some [] → Room k A → Env0 P w K mg base A outer s H → BindsTo s fd args (ps.zip us) → Vals vs us → sp vs H Q E →
    codeAny (model P w) A (.call (.ref f) args) (CR CX outer P w H s Q E) s
theorem _root_.L2.FnOk.toG {P : Program} {w : World} {K : PySem.W.Frag} {mg : Str → Option Value} {base : Heap} {CX : CXT} {k : Nat} {f : Addr} {fd : FuncData} {ps : List Str} {sp : Sp} (F : FnOk P w K mg base CX k f fd ps sp) : FnG P w K mg base CX k f fd ps sp :=
  ⟨F.len, fun A outer s H args us vs Q E _ hr e0 hb hv h => F.run A outer s H args us vs Q E hr e0 hb hv h⟩
theorem FnG.mono {P : Program} {w : World} {K : PySem.W.Frag} {mg : Str → Option Value} {base : Heap} {CX : CXT} {j k : Nat} {f : Addr} {fd : FuncData} {ps : List Str} {sp : Sp} (F : FnG P w K mg base CX j f fd ps sp) (h : j ≤ k) : FnG P w K mg base CX k f fd ps sp :=
  ⟨F.len, fun A outer s H args us vs Q E hg hr => F.run A outer s H args us vs Q E hg (hr.mono h)⟩
theorem fnG_of {CX : CXT} {P : Program} {w : World} {K : PySem.W.Frag} {mg : Str → Option Value} {base : Heap} {k : Nat} {f : Addr} {name qual : Str} {params : Arguments} {body : List Stmt} {scope : Scope} {dV kV doc pm cdv ct oc : Value} {an od : Option Addr}
    {osl : Array (Option Value)} {N ps : List Str} {sp : Sp} (lk : K.lookup f = some ⟨oc, od, .func (PySem.W.fnOf name qual params body scope dV kV doc pm an cdv ct), osl⟩) (hcd : PySem.W.codeIn K cdv qual = true) (S : FnScope N ps scope)
    (len : ∀ vs H Q E, sp vs H Q E → vs.length = ps.length)
    (hbody : ∀ (A : Around) (outer : List Env) (s : Shared) (H : Hp) (vs : List V) (Q : VK) (E : XK), A.guards = some [] → Room k (A.deeper (envOfC qual scope s.heap.objs.size f cdv)) → sp vs H Q E →
      ∃ t, PSs (cxOf CX P w K mg base N qual scope f cdv A outer s H E) body t ∧ t { nx := fun _ H' => Q .non H', rt := Q } (start N vs) H) :
    FnG P w K mg base CX (k + 1) f (PySem.W.fnOf name qual params body scope dV kV doc pm an cdv ct) ps sp := by
  refine ⟨len, fun A outer s H args us vs Q E hg hr e0 hb r hsp => ?_⟩
  have KX : K.In s.heap := e0.mod.kin.keeps fun b o e => (e0.bs b o e).1
  have lim : s.heap.NoLimit := e0.mod.nolimit.keeps fun b o e => (e0.bs b o e).1
  have hl := len _ _ _ _ hsp
  refine codeAny_call_function hr.depth (KX _ _ lk) rfl S.co S.gen rfl (PySem.W.codeRec_of KX hcd) (hb _ _ _ _ ?_)
  refine wpAny_newFunctionEnv_cells S.kind (fun ⟨n, v⟩ hy => ?_) fun env he s1 x => ?_
  · rcases S.par n (List.of_mem_zip hy).1 with q | q
    · exact .inl q
    · exact .inr ⟨q, PySem.W.cellsFrom_some _ _ _ (.inl q)⟩
  subst he
  refine ⟨lim.keeps x.toInCall.keep, codeAny_func ?_⟩
  obtain ⟨t, ht, hq⟩ := hbody A outer s H vs Q E hg (hr.deeper _) hsp
  have I : Inv (cxOf CX P w K mg base N qual scope f cdv A outer s H E) [] (L2.start N vs) H s1 := inv_start S hr.hd e0 hl r x
  refine wpAny_mono (ht.run [] s1 (start N vs) H _ I hq) (fun fl s' hs => ?_) fun e s' hs => hs
  cases fl with
  | ret u => obtain ⟨v, σ', H', J, rv, q⟩ := hs; exact ⟨v, H', J.os, J.bare, J.base, J.hok, rv, q⟩
  | next => obtain ⟨σ', H', J, q⟩ := hs; exact ⟨V.non, H', J.os, J.bare, J.base, J.hok, rfl, q⟩
  | brk => obtain ⟨_, _, _, q⟩ := hs; exact q.elim
  | cont => obtain ⟨_, _, _, q⟩ := hs; exact q.elim
section
variable {P : Program} {w : World} {K : PySem.W.Frag} {TL : List (Addr × Str)} {mg : Str → Option Value} {base : Heap}
/-- a def that raises nothing, called while no repr is under way -/
theorem fn3G {x qual : Str} {st : Stmt} {f : Addr} {fd : FuncData} {N ps : List Str} {k : Nat} {sp : Sp3} (F : Fun K x qual st f fd) (S : FnScope N ps (defScope st)) (len : ∀ ds M Q E, sp ds M Q E → ds.length = ps.length)
    (hbody : ∀ (cdv : Value) (A : Around) (outer : List Env) (s : Shared) (H : Hp) (T0 : Tm) (hTL : T0.tl = TL) (E : XK), (A.deeper (envOfC qual (defScope st) s.heap.objs.size f cdv)).guards = some [] → Room k (A.deeper (envOfC qual (defScope st) s.heap.objs.size f cdv)) →
      ∃ t : S3, QSs (cxOf C8.CX0 P w K mg base N qual (defScope st) f cdv A outer s H E).nox T0 (defBody st) t ∧ ∀ ds M Q EX, sp ds M Q EX → t (ends3 Q) (start3 N ds) M) : FnG P w K mg base C8.CX0 (k + 1) f fd ps (upSp K TL sp) := by
  obtain ⟨oc, od, kV, doc, pm, an, cdv, ct, osl, rfl, lk, hcd⟩ := F.ex
  refine fnG_of lk hcd S (fun vs H Q E ⟨T, M, ds, Q3, EX, _, R, r, q, _⟩ => by rw [← r.length]; exact len _ _ _ _ q) fun A outer s H vs Q E hg hr ⟨T, M, ds, Q3, EX, eT, R, r, q, hQ, hX⟩ => ?_
  obtain ⟨t, ht, hq⟩ := hbody cdv A outer s H T eT E hg hr
  exact ⟨_, ht.nox, T, M, _, _, Sub.refl T, R, RelSt.start r, hq ds M Q3 EX q, ends_up hQ⟩
end
section
variable {X : Cx} {T0 : Tm} {TL : List (Addr × Str)} {CX : CXT} {k : Nat} {f : Addr} {fd : FuncData} {ps : List Str} {sp : Sp3} {E : XK} {EX : X3} {x : Str} {p pos : Pos} {e : Expr} {es : List Expr} {t : A3}
theorem q_callG (F : FnG X.prog X.w X.K X.mg X.base CX k f fd ps (upSp X.K TL sp)) (hTL : T0.tl = TL) (hgu : X.A.guards = some []) (hr : Room k X.A) (hg : Gl X x) (hm : X.mg x = some (.ref f)) (hk : PySem.W.keepIn X.K (.ref f) = true) (hb : Binds X.K fd ps []) (hx : Passes CX X E) (hE : XOk X.K T0 EX E)
    (ha : QA X T0 (e :: es) t) (hdb : (x == ("__debug__" : Str)) = false) (he : starEach (e :: es) X.env = (false, eval e X.env) :: starEach es X.env) (hpl : (backTo pos (starEach es X.env)).any (·.1) = false) :
    QE X T0 (.Call (.Name x p) (e :: es) [] pos) (call3 sp EX t) := by
  refine PE.imp (t := tCall (upSp X.K TL sp) [] E (upA X.K T0 t)) ⟨fun pins s σ H Q I h => ?_⟩ (call_up hTL hE)
  refine wpAny_Call_Name_kw (ld_glob I hg hm ?_ hdb)
  refine PySem.W.callWith_K (h₀ := X.base) I.ok.mod.kin hk (thn (ha.run pos pins s σ H _ I h) fun us s1 ⟨vs, H1, I1, r, q⟩ => ⟨I1.kIn, ?_⟩) he hpl
  have q : upSp X.K TL sp (vs ++ []) H1 Q E := q
  rw [List.append_nil] at q
  have hl : us.length = ps.length := by rw [← r.length]; exact F.len _ _ _ _ q
  have hbb := hb s1 us I1.kIn (by simpa using hl)
  rw [List.append_nil] at hbb
  refine wpAny_call (codeAny_mono (F.run X.A X.stack s1 H1 ⟨us, []⟩ us vs Q E hgu hr I1.env0 hbb r q) fun r s' hq => ?_)
  cases r with
  | error e => exact hx pins σ H1 s1 e s' I1 hq
  | ok fl =>
    cases fl with
    | ret u => exact I1.after hq
    | next => exact False.elim hq
    | brk => exact False.elim hq
    | cont => exact False.elim hq
end
end L3
end

section
set_option Elab.async false
set_option linter.all false
set_option maxRecDepth 100000
set_option maxHeartbeats 400000
/-! L3h: great ints, powers, enumerate, starred items, dicts by written keys. -/
namespace L3
open PySem PySem.Spec PyProof.Rows L2
section
variable {X : Cx} {T0 : Tm} {a e o i : Expr} {es : List Expr} {te ta to ti : E3} {t : A3} {p p2 pos apos : Pos}
/-! ### ints -/
def mul3 : O3
  | .int i, .int j, M, Q => CMulW i j ∧ Q (.int (i * j)) M
  | _, _, _, _ => False
theorem op_mul3 : OpR X (binaryOp .Mult) (upO X.K T0 mul3) := by
  intro pins s σ H x y v u Q I rx ry ⟨T, M, d, e, Q3, S0, R, r1, r2, h, k⟩
  cases d <;> cases e <;> simp only [mul3] at h
  exact op_mulW pins s σ H x y v u Q I rx ry ⟨_, _, relInt r1, relInt r2, h.1, k _ _ (lift3.of R intRel h.2)⟩
def fdivW3 : O3
  | .int i, .int j, M, Q => CDivW i j ∧ Q (.int (i / j)) M
  | _, _, _, _ => False
theorem op_fdivW3 : OpR X (binaryOp .FloorDiv) (upO X.K T0 fdivW3) := by
  intro pins s σ H x y v u Q I rx ry ⟨T, M, d, e, Q3, S0, R, r1, r2, h, k⟩
  cases d <;> cases e <;> simp only [fdivW3] at h
  exact op_fdivW pins s σ H x y v u Q I rx ry ⟨_, _, relInt r1, relInt r2, h.1, k _ _ (lift3.of R intRel h.2)⟩
/-- a ** n, the result of less than 2 ^ 27 bits -/
def CPowW (i j : Int) : Prop := 0 ≤ j ∧ (Builtin.Int.intBits i : Int) * j ≤ 2 ^ 27
theorem op_powW : OpR X (binaryOp .Pow) (rI CPowW fun i j => .int (i ^ j.toNat)) := opI fun _ _ _ _ _ _ _ hc q => pow_int hc.1 hc.2 q
def pow3 : O3
  | .int i, .int j, M, Q => CPowW i j ∧ Q (.int (i ^ j.toNat)) M
  | _, _, _, _ => False
theorem op_pow3 : OpR X (binaryOp .Pow) (upO X.K T0 pow3) := by
  intro pins s σ H x y v u Q I rx ry ⟨T, M, d, e, Q3, S0, R, r1, r2, h, k⟩
  cases d <;> cases e <;> simp only [pow3] at h
  exact op_powW pins s σ H x y v u Q I rx ry ⟨_, _, relInt r1, relInt r2, h.1, k _ _ (lift3.of R intRel h.2)⟩
/-! ### enumerate(xs), xs a list -/
def enumD : Nat → List D → List D
  | _, [] => []
  | n, d :: ds => .tup [.int (n : Nat), d] :: enumD (n + 1) ds
theorem enumD_len : ∀ (ds : List D) (n : Nat), (enumD n ds).length = ds.length
  | [], _ => rfl
  | d :: ds, n => by simp [enumD, enumD_len ds]
theorem enumD_get : ∀ (ds : List D) (n j : Nat) (d : D), ds[j]? = some d → (enumD n ds)[j]? = some (.tup [.int ((n + j : Nat) : Int), d])
  | [], _, j, d, h => by simp at h
  | d :: ds, n, 0, d', h => by simp at h; subst h; simp [enumD]
  | d :: ds, n, j + 1, d', h => by
    have z := enumD_get ds (n + 1) j d' (by simpa using h)
    simp only [enumD, List.getElem?_cons_succ]
    rw [z]
    congr 4
    omega
def ienum3 (t : A3) : I3 := fun s M R => t s M fun ds M1 => ∃ a xs, ds = [.ref a] ∧ LstAt M1 a xs ∧ R (enumD 0 xs) (fun M => LstAt M a xs) M1
theorem itd_enum {K : PySem.W.Frag} {T1 : Tm} {a : Addr} {ds : List D} : ItD K T1 (Ite K a) (enumD 0 ds) (fun M => LstAt M a ds) := by
  refine ⟨fun i H T M s R h hi => ?_, fun i H T M s R h hi => ?_, fun i H T M x H' s R h hi y => ?_⟩ <;> rw [enumD_len] at hi <;> obtain ⟨xs, g, r⟩ := R.sqL h
  · obtain ⟨v, e, _⟩ := r.get (List.getElem?_eq_getElem hi)
    exact ⟨xs, v, g, e⟩
  · exact ⟨xs, g, by rw [← r.length]; exact hi⟩
  · obtain ⟨P, v, rfl, hp, rfl, y⟩ := y
    obtain ⟨d, e1, rd⟩ := r.getV (y xs g)
    refine ⟨tput T P _, .tup [.int ((i : Nat) : Int), d], Sub.put (R.noT hp), R.newTup hp, ?_, RelD.tupOf tput_same (RelDs.cons intRel (RelDs.one (rd.mono (Sub.put (R.noT hp)))))⟩
    have z := enumD_get ds 0 i d e1
    rw [Nat.zero_add] at z
    exact z
theorem qi_enum {elts : List Expr} {kk : Nat} {tpos : Pos} (hg : Gl X "enumerate") (hm : X.mg "enumerate" = none) (ha : QA X T0 [e] t) (hs : starEach [e] X.env = [(false, eval e X.env)]) : QI X T0 (.Tuple elts kk tpos) (.Call (.Name "enumerate" p) [e] [] pos) (ienum3 t) :=
  (pi_enum hg hm ha hs).imp fun σ H R ⟨T, M, s, R3, S0, Rp, S, q, k⟩ => ⟨T, M, s, _, S0, Rp, S, q, fun T1 H1 M1 ds vs s1 R1 r1 ⟨a, xs, e1, hl, q1⟩ => by
    subst e1
    obtain ⟨v, rfl, r2⟩ := one_up r1
    obtain ⟨ys, g, _⟩ := R1.sqL hl
    exact ⟨a, ys, by rw [relRef r2], g, k _ _ T1 M1 _ _ s1 R1 itd_enum q1⟩⟩
/-! ### *e among items -/
def star3 (te : E3) (t : A3) : A3 := fun s M Q => te s M fun d M1 => ∃ ds, (d = .tup ds ∨ ∃ a, d = .ref a ∧ LstAt M1 a ds) ∧ t s M1 fun es M2 => Q (ds ++ es) M2
theorem qa_star (he : QE X T0 e te) (hr : QA X T0 es t) (hs : starEach (.Starred e p :: es) X.env = (true, eval e X.env) :: starEach es X.env) : QA X T0 (.Starred e p :: es) (star3 te t) :=
  (StX.pa_star he hr hs).imp fun σ H Q ⟨T, M, s, Q3, S0, R, S, q, k⟩ => ⟨T, M, s, _, S0, R, S, q, fun v H1 ⟨T1, M1, d, s1, R1, r1, ds, e1, q1⟩ => by
    rcases e1 with rfl | ⟨a, rfl, hl⟩
    · obtain ⟨p, xs, rfl, g, rx⟩ := R1.sqT r1
      exact ⟨p, xs, rfl, .inl g, T1, M1, s, _, S0.trans s1, R1, S.mono s1, q1, fun T2 H2 M2 es vs s2 R2 r2 q2 => k T2 H2 M2 _ _ (s1.trans s2) R2 ((rx.mono s2).append r2) q2⟩
    · obtain ⟨xs, g, rx⟩ := R1.sqL hl
      exact ⟨a, xs, relRef r1, .inr g, T1, M1, s, _, S0.trans s1, R1, S.mono s1, q1, fun T2 H2 M2 es vs s2 R2 r2 q2 => k T2 H2 M2 _ _ (s1.trans s2) R2 ((rx.mono s2).append r2) q2⟩⟩
/-! ### dicts whose keys are ints and texts -/
def kD : Key → D
  | .inl i => .int i
  | .inr x => .str x
theorem kRel {K : PySem.W.Frag} {T : Tm} {k : Key} {v : V} (r : RelD K T (kD k) v) : v = kV k := by
  cases k with
  | inl i => exact relInt r
  | inr x => exact relStr r
def getKD (kvs : List (Key × D)) (k : Key) : Option D := (kvs.find? fun kv => decide (kv.1 = k)).map (·.2)
theorem getKD_rel {K : PySem.W.Frag} {T : Tm} {k : Key} : ∀ {kvs : List (Key × D)} {kws : List (Key × V)}, kws.map (·.1) = kvs.map (·.1) → RelDs K T (kvs.map (·.2)) (kws.map (·.2)) → ∀ {d : D}, getKD kvs k = some d → ∃ v, valV kws k = some v ∧ RelD K T d v
  | [], [], _, _, d, h => by simp [getKD] at h
  | [], _ :: _, e, _, _, _ => by simp at e
  | _ :: _, [], e, _, _, _ => by simp at e
  | (k1, d1) :: kvs, (k2, v2) :: kws, e, r, d, h => by
    simp only [List.map_cons, List.cons.injEq] at e
    obtain ⟨e1, e2⟩ := e
    simp only [List.map_cons, RelDs] at r
    obtain ⟨v, w, e3, r1, r2⟩ := r
    simp only [List.cons.injEq] at e3
    obtain ⟨rfl, rfl⟩ := e3
    subst e1
    by_cases q : k2 = k
    · refine ⟨v2, by simp [valV, List.find?_cons, q], ?_⟩
      simp [getKD, List.find?_cons, q] at h
      subst h
      exact r1
    · have h' : getKD kvs k = some d := by simpa [getKD, List.find?_cons, q] using h
      obtain ⟨v, h1, h2⟩ := getKD_rel e2 r2 h'
      exact ⟨v, by simpa [valV, List.find?_cons, q] using h1, h2⟩
def dget3 (to ti : E3) : E3 := fun s M Q => to s M fun d M1 => ti s M1 fun e M2 => ∃ a kvs k v, d = .ref a ∧ e = kD k ∧ M2 a = some (.dk kvs) ∧ getKD kvs k = some v ∧ Q v M2
theorem q_dget (hu : X.A.units + 1 < cLine) (ho : QE X T0 o to) (hi : QE X T0 i ti) (hs : NoSl i) : QE X T0 (.Subscript o i pos) (dget3 to ti) :=
  (pe_dget hu ho hi hs).imp fun σ H Q ⟨T, M, s, Q3, S0, R, S, q, k⟩ => ⟨T, M, s, _, S0, R, S, q, fun v H1 ⟨T1, M1, d, s1, R1, r1, q1⟩ => ⟨T1, M1, s, _, S0.trans s1, R1, S.mono s1, q1, fun v2 H2 ⟨T2, M2, d2, s2, R2, r2, a, kvs, ky, dv, e1, e2, hm, hg, q2⟩ => by
    subst e1 e2
    obtain ⟨kws, g, hk, rk⟩ := R2.obj a _ hm
    obtain ⟨w, hw, rw'⟩ := getKD_rel hk rk hg
    exact ⟨a, w, relRef r1, .inl ⟨kws, ky, .inl g, kRel r2, hw.symm⟩, k _ _ ⟨T2, M2, dv, s1.trans s2, R2, rw', q2⟩⟩⟩⟩
theorem mergeK_nodup : ∀ (kvs acc : List (Key × V)), ((acc ++ kvs).map (·.1)).Nodup → mergeK acc kvs = acc ++ kvs
  | [], acc, _ => by simp [mergeK]
  | p :: kvs, acc, h => by
    have e : putK acc p.1 p.2 = acc ++ [p] := by
      unfold putK
      rw [if_neg]
      intro z
      obtain ⟨q, hq, he⟩ := List.any_eq_true.mp z
      have he : q.1 = p.1 := by simpa using he
      rw [List.map_append, List.nodup_append] at h
      exact h.2.2 q.1 (List.mem_map_of_mem hq) p.1 (by simp) he
    show mergeK (putK acc p.1 p.2) kvs = _
    rw [e, mergeK_nodup kvs (acc ++ [p]) (by simpa using h)]
    simp
def pairs3 : List (E3 × E3) → StD → HM → (List (D × D) → HM → Prop) → Prop
  | [], _, M, Q => Q [] M
  | (tk, tv) :: r, s, M, Q => tk s M fun x M1 => tv s M1 fun y M2 => pairs3 r s M2 fun ps M3 => Q ((x, y) :: ps) M3
def disp3 (trs : List (E3 × E3)) : E3 := fun s M Q => ∀ p, M p = none → pairs3 trs s (mup M p (.dk [])) fun ps M2 => M2 p = some (.dk []) ∧ ∃ kvs : List (Key × D), ps = kvs.map (fun kv => (kD kv.1, kv.2)) ∧ (kvs.map (·.1)).Nodup ∧ kvs.length ≤ 15 ∧ Q (.ref p) (mup M2 p (.dk kvs))
theorem pairs_up {K : PySem.W.Frag} : ∀ (trs : List (E3 × E3)) {σ : St} {H : Hp} {T : Tm} {M : HM} {s : StD} {Q3 : List (D × D) → HM → Prop} {Q : List (V × V) → Hp → Prop}, Sub T0 T → Rep K T H M → RelSt K T s σ → pairs3 trs s M Q3 →
    (∀ T' H' M' ps vs, Sub T T' → Rep K T' H' M' → Paired (fun (d : D × D) (v : V × V) => RelD K T' d.1 v.1 ∧ RelD K T' d.2 v.2) ps vs → Q3 ps M' → Q vs H') → tPairs (trs.map fun tr => (upE K T0 tr.1, upE K T0 tr.2)) σ H Q
  | [], σ, H, T, M, s, Q3, Q, S0, R, S, q, k => k T H M [] [] (Sub.refl T) R .nil q
  | (tk, tv) :: r, σ, H, T, M, s, Q3, Q, S0, R, S, q, k => by
    refine ⟨T, M, s, _, S0, R, S, q, fun v1 H1 ⟨T1, M1, d1, s1, R1, r1, q1⟩ => ⟨T1, M1, s, _, S0.trans s1, R1, S.mono s1, q1, fun v2 H2 ⟨T2, M2, d2, s2, R2, r2, q2⟩ => ?_⟩⟩
    exact pairs_up r ((S0.trans s1).trans s2) R2 (S.mono (s1.trans s2)) q2 fun T3 H3 M3 ps vs s3 R3 r3 q3 => k T3 H3 M3 _ _ ((s1.trans s2).trans s3) R3 (.cons ⟨r1.mono (s2.trans s3), r2.mono s3⟩ r3) q3
theorem Rep.newDk {K : PySem.W.Frag} {T : Tm} {H : Hp} {M : HM} (R : Rep K T H M) {p : Addr} {kvs : List (Key × D)} {kws : List (Key × V)} (h : H p = none) (hk : kws.map (·.1) = kvs.map (·.1)) (r : RelDs K T (kvs.map (·.2)) (kws.map (·.2))) : Rep K T (upd H p (.dK kws)) (mup M p (.dk kvs)) := by
  have R' := R.same_new (o := .dK kws) h
  refine ⟨R'.tup, fun b o e => ?_, R'.tab⟩
  by_cases q : b = p
  · subst q
    rw [mup_same] at e
    cases e
    exact ⟨kws, upd_same, hk, r⟩
  · rw [mup_ne q] at e
    exact R'.obj b o e
theorem Rep.setDk {K : PySem.W.Frag} {T : Tm} {H : Hp} {M : HM} (R : Rep K T H M) {a : Addr} {kvs : List (Key × D)} {kws kws' : List (Key × V)} {kvs' : List (Key × D)} (h : M a = some (.dk kvs)) (hx : H a = some (.dK kws)) (hk : kws'.map (·.1) = kvs'.map (·.1)) (r : RelDs K T (kvs'.map (·.2)) (kws'.map (·.2))) :
    Rep K T (upd H a (.dK kws')) (mup M a (.dk kvs')) := by
  have nt : ∀ b u, H b = some u → u ≠ .dK kws → b ≠ a := fun b u e hu => ne_of e hx hu
  refine ⟨fun b zs e => by rw [upd_ne (nt b _ (R.tup b zs e) (fun z => by cases z))]; exact R.tup b zs e, fun b o e => ?_, fun p hp => ?_⟩
  · by_cases q : b = a
    · subst q
      rw [mup_same] at e
      cases e
      exact ⟨kws', upd_same, hk, r⟩
    · rw [mup_ne q] at e
      refine (R.obj b o e).stay (Sub.refl T) fun c u hc _ _ hu => ?_
      rcases hc with rfl | ⟨fs, rfl⟩
      · rw [upd_ne q]; exact hu
      · rw [upd_ne (nt c _ hu (fun z => by cases z))]; exact hu
  · obtain ⟨ps, h1, h2, h3⟩ := R.tab p hp
    refine ⟨ps, by rw [upd_ne (nt _ _ h1 (fun z => by cases z))]; exact h1, h2, fun pos cv hc => ?_⟩
    obtain ⟨c, e1, e2⟩ := h3 pos cv hc
    exact ⟨c, e1, by rw [upd_ne (nt _ _ e2 (fun z => by unfold LamX.CodeO at z; cases z))]; exact e2⟩
theorem pairs_split {K : PySem.W.Frag} {T : Tm} : ∀ {kvs : List (Key × D)} {vs : List (V × V)}, Paired (fun (d : D × D) (v : V × V) => RelD K T d.1 v.1 ∧ RelD K T d.2 v.2) (kvs.map fun kv => (kD kv.1, kv.2)) vs →
    ∃ kws : List (Key × V), vs = kws.map (fun kv => (kV kv.1, kv.2)) ∧ kws.map (·.1) = kvs.map (·.1) ∧ RelDs K T (kvs.map (·.2)) (kws.map (·.2))
  | [], _, h => by rw [List.map_nil] at h; cases h; exact ⟨[], rfl, rfl, RelDs.nil⟩
  | p :: kvs, _, h => by
    rw [List.map_cons] at h
    cases h with
    | @cons a b as bs h1 t =>
      obtain ⟨kws, e1, e2, r⟩ := pairs_split t
      obtain ⟨b1, b2⟩ := b
      obtain rfl := kRel h1.1
      exact ⟨(p.1, b2) :: kws, by rw [e1]; rfl, by simp [e2], RelDs.cons h1.2 r⟩
theorem q_disp {keys : List (Option Expr)} {values : List Expr} {trs : List (E3 × E3)} (h : PPs X pos keys values (trs.map fun tr => (upE X.K T0 tr.1, upE X.K T0 tr.2))) (hall : keys.all (·.isSome) = true) (hl : keys.length = values.length) (h0 : keys ≠ [])
    (h15 : keys.length ≤ 15) : QE X T0 (.Dict keys values pos) (disp3 trs) :=
  (pe_disp h hall hl h0 h15).imp fun σ H Q ⟨T, M, s, Q3, S0, R, S, q, k⟩ => fun p hp => by
    have R1 := R.newDk (kvs := []) (kws := []) hp rfl RelDs.nil
    refine pairs_up trs S0 R1 S (q p (R.noM hp)) fun T' H' M' ps vs sub R' rp ⟨hm, kvs, e, nd, h15, q'⟩ => ?_
    subst e
    obtain ⟨kws, rfl, e2, r2⟩ := pairs_split rp
    obtain ⟨kw0, g, hk0, _⟩ := R'.obj p _ hm
    have : kw0 = [] := by simpa using hk0
    subst this
    refine ⟨g, kws, rfl, ?_, ?_⟩
    · have := congrArg List.length e2; simp at this; omega
    · rw [mergeK_nodup kws [] (by simpa [e2] using nd), List.nil_append]
      exact k _ _ ⟨T', _, .ref p, sub, R'.setDk hm g e2 r2, refRel, q'⟩
def dnew3 : E3 := fun _ M Q => ∀ p, M p = none → Q (.ref p) (mup M p (.dk []))
theorem q_dnew : QE X T0 (.Dict [] [] pos) dnew3 := pe_dnewK.imp fun σ H Q ⟨T, M, s, Q3, S0, R, S, q, k⟩ => fun p hp => k _ _ ⟨T, _, .ref p, Sub.refl T, R.newDk (kvs := []) (kws := []) hp rfl RelDs.nil, refRel, q p (R.noM hp)⟩
end
end L3
end

section
set_option Elab.async false
set_option linter.all false
set_option maxRecDepth 100000
set_option maxHeartbeats 400000
/-! L3z: the rules in short, side conditions by the text. -/
namespace L3
open PySem PySem.Spec PyProof.Rows L2
def noX : X3 := fun _ _ _ => False
theorem xok0 {K : PySem.W.Frag} {T0 : Tm} {E : XK} : XOk K T0 noX E := fun _ _ _ ⟨_, _, _, _, _, _, _, _, _, _, _, _, z⟩ => z.elim
/-- a def of the module: its text, its name, how its arguments bind -/
structure GF (K : PySem.W.Frag) (mg : Str → Option Value) (x : Str) (st : Stmt) (ps : List Str) (f : Addr) (fd : FuncData) : Prop where
  fn : Fun K x x st f fd
  mg : mg x = some (.ref f)
  bi : Binds K fd ps []
section
variable {X : Cx} {T0 : Tm} {a b c e o i tg iter : Expr} {es : List Expr} {ta tb tc te to ti : E3} {tA tB' : B3} {t : A3} {p p2 pos pos' apos : Pos} {x : Str} {g : G3}
theorem v3 (i : Nat) (hN : X.N[i]? = some x := by rfl) (hv : Vis X.env.scope x := by first | exact Or.inl rfl | exact Or.inr (Or.inl rfl) | exact Or.inr (Or.inr rfl)) (hd : (x == ("__debug__" : Str)) = false := by decide) (hcd : (x == ("__classdict__" : Str)) = false := by decide) : QE X T0 (.Name x pos) (var3 i) := q_var hN hv hd hcd
theorem co3 {d : D} (v : V) {u : Value} (hm : X.mg x = some u) (r : RelV v u) (rd : ∀ T, RelD X.K T d v) (hg : Gl X x := by rfl) (hd : (x == ("__debug__" : Str)) = false := by decide) : QE X T0 (.Name x pos) (con3 d) := q_glob hg hm r rd hd
theorem cls3 {C : Addr} (hm : X.mg x = some (.ref C)) (hg : Gl X x := by rfl) (hd : (x == ("__debug__" : Str)) = false := by decide) : QE X T0 (.Name x pos) (con3 (.ref C)) := q_glob (v := .ref C) hg hm rfl (fun _ => refRel) hd
theorem ty3 {T : String} (hm : X.mg x = none) (hv : bootBuiltins x = some (.type T)) (hg : Gl X x := by rfl) (hn : x ≠ "__name__" := by decide) (hd : (x == ("__debug__" : Str)) = false := by decide) : QE X T0 (.Name x pos) (con3 (.ty T)) := q_bltn (v := .ty T) hg hm hv rfl (fun _ => tyRel) hn hd
theorem ac3 (ha : QE X T0 e te) (hr : QA X T0 es t) (hs : starEach (e :: es) X.env = (false, eval e X.env) :: starEach es X.env := by rfl) : QA X T0 (e :: es) (cons3 te t) := qa_cons ha hr hs
theorem as3 (he : QE X T0 e te) (hr : QA X T0 es t) (hs : starEach (.Starred e p :: es) X.env = (true, eval e X.env) :: starEach es X.env := by rfl) : QA X T0 (.Starred e p :: es) (star3 te t) := qa_star he hr hs
theorem bf3 {id : String} {r : C3} (hc : CallR X (.builtin id) (upC X.K T0 r)) (hm : X.mg x = none) (hv : bootBuiltins x = some (.builtin id)) (ha : QA X T0 (e :: es) t) (hg : Gl X x := by rfl) (hn : x ≠ "__name__" := by decide) (hdb : (x == ("__debug__" : Str)) = false := by decide)
    (he : starEach (e :: es) X.env = (false, eval e X.env) :: starEach es X.env := by rfl) (hpl : (backTo pos (starEach es X.env)).any (·.1) = false := by rfl) : QE X T0 (.Call (.Name x p) (e :: es) [] pos) (callB3 r t) := q_callB hc hg hm hv ha hn hdb he hpl
theorem bt3 {T : String} {r : C3} (hc : CallR X (.type T) (upC X.K T0 r)) (hm : X.mg x = none) (hv : bootBuiltins x = some (.type T)) (ha : QA X T0 (e :: es) t) (hg : Gl X x := by rfl) (hn : x ≠ "__name__" := by decide) (hdb : (x == ("__debug__" : Str)) = false := by decide)
    (he : starEach (e :: es) X.env = (false, eval e X.env) :: starEach es X.env := by rfl) (hpl : (backTo pos (starEach es X.env)).any (·.1) = false := by rfl) : QE X T0 (.Call (.Name x p) (e :: es) [] pos) (callB3 r t) := q_callTy hc hg hm hv ha hn hdb he hpl
theorem lr3 (hm : X.mg "list" = none) (hm2 : X.mg "range" = none) (ha : QE X T0 a ta) (hc : X.calm = true := by rfl) (hg : Gl X "list" := by rfl) (hg2 : Gl X "range" := by rfl) (na : starEach [a] X.env = (false, eval a X.env) :: starEach [] X.env := by rfl) (na2 : starEach [.Call (.Name "range" p2) [a] [] apos] X.env = (false, eval (.Call (.Name "range" p2) [a] [] apos) X.env) :: starEach [] X.env := by rfl) :
    QE X T0 (.Call (.Name "list" p) [.Call (.Name "range" p2) [a] [] apos] [] pos) (lstRg3 (r1_3 ta)) := q_listRg1 hc hg hm hg2 hm2 ha na na2
theorem ls3 (hm : X.mg "len" = none) (hm2 : X.mg "set" = none) (ha : QE X T0 a ta) (hc : X.calm = true := by rfl) (hg : Gl X "len" := by rfl) (hg2 : Gl X "set" := by rfl) (na : starEach [a] X.env = (false, eval a X.env) :: starEach [] X.env := by rfl) (nb : starEach [.Call (.Name "set" p2) [a] [] apos] X.env = (false, eval (.Call (.Name "set" p2) [a] [] apos) X.env) :: starEach [] X.env := by rfl) :
    QE X T0 (.Call (.Name "len" p) [.Call (.Name "set" p2) [a] [] apos] [] pos) (lenSet3 ta) := q_lenSet hc hg hm hg2 hm2 ha na nb
theorem sp3 (ho : QE X T0 o to) (he : QE X T0 e te) (hs : starEach [e] X.env = [(false, eval e X.env)] := by rfl) (hbase : attributeBase o "split" X.env (eval o X.env) = eval o X.env := by rfl) (hline : (apos.endLine == pos.line) = true := by rfl) : QE X T0 (.Call (.Attribute o "split" apos) [e] [] pos) (split3 to te) := q_split ho he hs hbase hline
theorem jo3 (ho : QE X T0 o to) (he : QE X T0 e te) (hs : starEach [e] X.env = [(false, eval e X.env)] := by rfl) (hbase : attributeBase o "join" X.env (eval o X.env) = eval o X.env := by rfl) (hline : (apos.endLine == pos.line) = true := by rfl) : QE X T0 (.Call (.Attribute o "join" apos) [e] [] pos) (join3 to te) := q_join ho he hs hbase hline
theorem ap3 (ho : QE X T0 o to) (he : QE X T0 e te) (hbase : attributeBase o "append" X.env (eval o X.env) = eval o X.env := by rfl)
    (hfew : ((backTo pos (starEach (e :: []) X.env)).all (fun x => !x.1) && (backToKw pos (keywordEach [] X.env)).all (fun x => x.1.isSome) && decide ((e :: []).length + ([] : List Keyword).length + (if ([] : List Keyword).isEmpty then 0 else 1) < 30)) = true := by rfl)
    (hline : (apos.endLine == pos.line) = true := by rfl) (hs : starEach (e :: []) X.env = (false, eval e X.env) :: starEach [] X.env := by rfl) (hplain : (backTo pos (starEach [] X.env)).any (·.1) = false := by rfl) : QE X T0 (.Call (.Attribute o "append" apos) [e] [] pos) (append3 to te) := q_append ho he hbase hfew hline hs hplain
theorem po3 (ho : QE X T0 o to) (he : QE X T0 e te) (hbase : attributeBase o "pop" X.env (eval o X.env) = eval o X.env := by rfl)
    (hfew : ((backTo pos (starEach (e :: []) X.env)).all (fun x => !x.1) && (backToKw pos (keywordEach [] X.env)).all (fun x => x.1.isSome) && decide ((e :: []).length + ([] : List Keyword).length + (if ([] : List Keyword).isEmpty then 0 else 1) < 30)) = true := by rfl)
    (hline : (apos.endLine == pos.line) = true := by rfl) (hs : starEach (e :: []) X.env = (false, eval e X.env) :: starEach [] X.env := by rfl) (hplain : (backTo pos (starEach [] X.env)).any (·.1) = false := by rfl) : QE X T0 (.Call (.Attribute o "pop" apos) [e] [] pos) (popAt3 to te) := q_popAt ho he hbase hfew hline hs hplain
theorem cm3 {op : CmpOp} {r : O3} (ho : OpR X (compareOp op) (upO X.K T0 r)) (ha : QE X T0 a ta) (hb : QE X T0 b tb) (hm : behindInMarks op b = false := by first | exact nomark _ | with_unfolding_all rfl) : QE X T0 (.Compare a [op] [b] pos) (bin3 r ta tb) := q_cmp ho ha hb hm
theorem ct3 {op : CmpOp} {r : O3} (ho : OpR X (compareOp op) (upO X.K T0 r)) (ha : QE X T0 a ta) (hb : QE X T0 b tb) (hm : behindInMarks op b = false := by first | exact nomark _ | with_unfolding_all rfl) : QT X T0 (.Compare a [op] [b] pos) (tstB (bin3 r ta tb)) := qt_cmp ho ha hb hm
theorem ch3 {op op' : CmpOp} {r r' : O3} (ho : OpR X (compareOp op) (upO X.K T0 r)) (ho' : OpR X (compareOp op') (upO X.K T0 r')) (ha : QE X T0 a ta) (hb : QE X T0 b tb) (hc : QE X T0 c tc) (hm : lastMarks [op, op'] [b, c] = false := by with_unfolding_all rfl) : QE X T0 (.Compare a [op, op'] [b, c] pos) (chain3 r r' ta tb tc) := q_chain ho ho' ha hb hc hm
theorem cht3 {op op' : CmpOp} {r r' : O3} (ho : OpR X (compareOp op) (upO X.K T0 r)) (ho' : OpR X (compareOp op') (upO X.K T0 r')) (ha : QE X T0 a ta) (hb : QE X T0 b tb) (hc : QE X T0 c tc) (hm : lastMarks [op, op'] [b, c] = false := by with_unfolding_all rfl) : QT X T0 (.Compare a [op, op'] [b, c] pos) (tstB (chain3 r r' ta tb tc)) := qt_chain ho ho' ha hb hc hm
theorem tv3 (h : QE X T0 a ta) (he : ∀ whole, isTrue a X.env whole = (do let v ← whole; standAt a.pos; holding [v] (truthy v)) := by intro _; rfl) : QT X T0 a (tst3 ta) := qt_val h he
theorem ix3' (ha : QE X T0 a ta) (hb : QE X T0 b tb) (hs : PlainIx b := by intro _ _; rfl) : QE X T0 (.Subscript a b pos) (bin3 ix3 ta tb) := q_ix ha hb hs
theorem dg3 (hu : X.A.units + 1 < cLine) (ho : QE X T0 o to) (hi : QE X T0 i ti) (hs : NoSl i := by intro _ _; rfl) : QE X T0 (.Subscript o i pos) (dget3 to ti) := q_dget hu ho hi hs
theorem ex3 (h : QE X T0 e te) (hs : swapsWith e none pos.line X.env = pure false := by rfl) : QS X T0 (.Expr e pos) (drop3 te) := q_expr h hs
theorem gn3 (i : Nat) (hN : X.N.Nodup) (hi : X.N[i]? = some x := by rfl) (hx : Loc X.env.scope x := by first | exact Or.inl rfl | exact Or.inr rfl) (hf : X.fn x = true ∨ X.env.scope.names.lookup x = some .local := by first | exact Or.inl rfl | exact Or.inr rfl) : QG X T0 (.Name x pos) (name3 i) := qg_name hN hi hx hf
theorem gc3 {gs : Gs3} (h1 : QG X T0 e g) (h2 : QGs X T0 es gs) (hs : (assignEach (e :: es) X.env).map (·.2) = assign e X.env :: (assignEach es X.env).map (·.2) := by rfl) : QGs X T0 (e :: es) (gcons3 g gs) := qgs_cons h1 h2 hs
theorem gt3 {k : Nat} {gs : Gs3} (n : Nat) (h : QGs X T0 es gs) (hc : X.calm = true := by rfl) (hn : (assignEach es X.env).length = n := by rfl) (hst : (assignEach es X.env).findIdx? (·.1) = none := by rfl) : QG X T0 (.Tuple es k pos) (gtup3 n gs) := qg_tup hc h hn hst
theorem gs3 {r : Set3} (ho : QE X T0 o to) (hi : QE X T0 i ti) (hs : PSet X (upSet X.K T0 r))
    (ha : ∀ v, assign (.Subscript o i pos) X.env v = (do
      let ov ← holding [v] (eval o X.env)
      let iv ← holding [v, ov] (eval i X.env)
      standAt pos
      holding [v, ov, iv] (setItem ov iv v)
      release [v, ov, iv] []) := by intro _; rfl) : QG X T0 (.Subscript o i pos) (gsub3 to ti r) := qg_sub ho hi hs ha
theorem ag3 (he : QE X T0 e te) (hg : QG X T0 tg g) (hs : swapsWithSole [tg] e pos.line X.env = pure false := by rfl) (hw : swappedStores [tg] e X.env = pure none := by rfl)
    (h1 : (assignEach [tg] X.env).map (·.2) = [assign tg X.env] := by rfl) : QS X T0 (.Assign [tg] e pos) (asg3 te g) := q_asg he hg hs hw h1
theorem st3 (i : Nat) (hN : X.N.Nodup) (he : QE X T0 e te) (hi : X.N[i]? = some x := by rfl) (hx : Loc X.env.scope x := by first | exact Or.inl rfl | exact Or.inr rfl) (hs : swapsWith e (some (.Name x pos')) pos.line X.env = pure false := by rfl) (hf : X.fn x = true ∨ X.env.scope.names.lookup x = some .local := by first | exact Or.inl rfl | exact Or.inr rfl) :
    QS X T0 (.Assign [.Name x pos'] e pos) (set3 te i) := q_set hN hi hx he hs hf
theorem pr3 (i j : Nat) {y : Str} {px py pt : Pos} {kt k2 pt2} (hN : X.N.Nodup) (ha : QA X T0 [a, b] t) (hc : X.calm = true := by rfl) (hi : X.N[i]? = some x := by rfl) (hj : X.N[j]? = some y := by rfl) (hij : i ≠ j := by decide)
    (hx : X.env.scope.names.lookup x = some .local := by rfl) (hy : X.env.scope.names.lookup y = some .local := by rfl)
    (hw : swappedStores [.Tuple [.Name x px, .Name y py] kt pt] (.Tuple [a, b] k2 pt2) X.env = pure (some [x, y]) := by rfl)
    (hs : swapsWithSole [.Tuple [.Name x px, .Name y py] kt pt] (.Tuple [a, b] k2 pt2) pos.line X.env = pure false := by rfl) :
    QS X T0 (.Assign [.Tuple [.Name x px, .Name y py] kt pt] (.Tuple [a, b] k2 pt2) pos) (par3 i j t) := q_par hc hN hi hj hij hx hy ha hw hs
theorem fo3 {i : I3} {tb : S3} {body : List Stmt} (hi : QI X T0 tg iter i) (hg : QG X T0 tg g) (hb : QSs X T0 body tb) (hp : PassesOwn (model X.prog X.w) X.A X.env X.xe := by first | exact PassesOwn.never | exact passes_of rfl) (hc : X.calm = true := by rfl) (hs : ∀ x, foldedSetIterable iter X.env x = pure x := by intro _; rfl) : QS X T0 (.For tg iter body [] pos) (for3 i g tb) := q_for hp hc hi hg hb hs
theorem ie3 {elts : List Expr} {kk : Nat} {tpos : Pos} (hm : X.mg "enumerate" = none) (ha : QA X T0 [e] t) (hg : Gl X "enumerate" := by rfl) (hs : starEach [e] X.env = [(false, eval e X.env)] := by rfl) : QI X T0 (.Tuple elts kk tpos) (.Call (.Name "enumerate" p) [e] [] pos) (ienum3 t) := qi_enum hg hm ha hs
theorem ir3 {elt : Expr} (hm : X.mg "range" = none) (ha : QA X T0 [a] t) (hg : Gl X "range" := by rfl) (hs : starEach [a] X.env = [(false, eval a X.env)] := by rfl) : QI X T0 elt (.Call (.Name "range" p) [a] [] pos) (irng3 t) := qi_range1 hg hm ha hs
theorem lc3' {elt tg iter : Expr} {ifs : List Expr} {scope : Scope} {i : I3} {g2 : TG} {tt : B3} (own : List (Str × Nat)) (hN : X.N.Nodup) (hi : QI X T0 tg iter i) (hgg : TgOk X.K g2 g (own.map (·.2)))
    (hg : ∀ (s : Shared) (H : Hp) (C : Addr) (cl : List (Str × Addr)) (fp : List Addr), PG (X.blk s H scope (compEnvC scope cl C X.env) fp) tg g2) (ht : ∀ (s : Shared) (H : Hp) (C : Addr) (cl : List (Str × Addr)) (fp : List Addr), QTs (X.blk s H scope (compEnvC scope cl C X.env) fp) T0 ifs tt)
    (he : ∀ (s : Shared) (H : Hp) (C : Addr) (cl : List (Str × Addr)) (fp : List Addr), QE (X.blk s H scope (compEnvC scope cl C X.env) fp) T0 elt te) (ok : BlkOk X.N X.env.scope scope own := by exact blkOk_by (by decide +kernel)) (hc : X.calm = true := by rfl) (hs : ∀ x, foldedSetIterable iter X.env x = pure x := by intro _; rfl) :
    QE X T0 (.ListComp elt [⟨tg, iter, ifs, 0⟩] scope pos) (lc3 i g tt te (own.map (·.2))) := q_lc hc hN hi ok hgg hg ht he hs
theorem sl3' {j : Nat} {y : Str} {py : Pos} {elt tg iter : Expr} {ifs : List Expr} {scope : Scope} {spos : Pos} {i : I3} {g2 : TG} {tt : B3} (own : List (Str × Nat)) (hN : X.N.Nodup) (hi : QI X T0 tg iter i) (hgg : TgOk X.K g2 g (own.map (·.2)))
    (hg : ∀ (s : Shared) (H : Hp) (C : Addr) (cl : List (Str × Addr)) (fp : List Addr), PG (X.blk s H scope (compEnvC scope cl C X.env) fp) tg g2) (ht : ∀ (s : Shared) (H : Hp) (C : Addr) (cl : List (Str × Addr)) (fp : List Addr), QTs (X.blk s H scope (compEnvC scope cl C X.env) fp) T0 ifs tt)
    (he : ∀ (s : Shared) (H : Hp) (C : Addr) (cl : List (Str × Addr)) (fp : List Addr), QE (X.blk s H scope (compEnvC scope cl C X.env) fp) T0 elt te) (hy : X.N[j]? = some y := by rfl) (hyl : X.env.scope.names.lookup y = some .local := by rfl)
    (hsw : swapsWith (.ListComp elt [⟨tg, iter, ifs, 0⟩] scope pos) (some (.Name y py)) spos.line X.env = pure true := by rfl) (ok : BlkOk X.N X.env.scope scope own := by exact blkOk_by (by decide +kernel)) (hc : X.calm = true := by rfl) (hs : ∀ x, foldedSetIterable iter X.env x = pure x := by intro _; rfl) :
    QS X T0 (.Assign [.Name y py] (.ListComp elt [⟨tg, iter, ifs, 0⟩] scope pos) spos) (set3 (lc3 i g tt te (own.map (·.2))) j) := q_setLc hc hN hy hyl hsw hi ok hgg hg ht he hs
variable {TL : List (Addr × Str)} {CX : CXT} {k j : Nat} {f : Addr} {fd : FuncData} {st : Stmt} {ps : List Str} {sp : Sp3} {E : XK} {EX : X3}
/-- a def that raises nothing here -/
theorem c3 (G : GF X.K X.mg x st ps f fd) (F : FnOk X.prog X.w X.K X.mg X.base CX k f fd ps (upSp X.K TL sp)) (hTL : T0.tl = TL) (hr : Room j X.A) (ha : QA X T0 (e :: es) t) (hkj : k ≤ j := by decide) (hx : Passes CX X C8.E0 := by first | exact pass0 | exact passL) (hg : Gl X x := by rfl)
    (hdb : (x == ("__debug__" : Str)) = false := by decide) (he : starEach (e :: es) X.env = (false, eval e X.env) :: starEach es X.env := by rfl) (hpl : (backTo pos (starEach es X.env)).any (·.1) = false := by rfl) :
    QE X T0 (.Call (.Name x p) (e :: es) [] pos) (call3 sp noX t) := q_call F hTL (hr.mono hkj) hg G.mg G.fn.kp G.bi hx xok0 ha hdb he hpl
theorem cg3 (G : GF X.K X.mg x st ps f fd) (F : FnG X.prog X.w X.K X.mg X.base CX k f fd ps (upSp X.K TL sp)) (hTL : T0.tl = TL) (hgu : X.A.guards = some []) (hr : Room j X.A) (ha : QA X T0 (e :: es) t) (hkj : k ≤ j := by decide) (hx : Passes CX X C8.E0 := by first | exact pass0 | exact passL) (hg : Gl X x := by rfl)
    (hdb : (x == ("__debug__" : Str)) = false := by decide) (he : starEach (e :: es) X.env = (false, eval e X.env) :: starEach es X.env := by rfl) (hpl : (backTo pos (starEach es X.env)).any (·.1) = false := by rfl) :
    QE X T0 (.Call (.Name x p) (e :: es) [] pos) (call3 sp noX t) := q_callG F hTL hgu (hr.mono hkj) hg G.mg G.fn.kp G.bi hx xok0 ha hdb he hpl
/-- C(e, ..), nothing raised -/
theorem mk3 {C fi : Addr} (Mc : Mk X.K C fi) (hm : X.mg x = some (.ref C)) (F : FnOk X.prog X.w X.K X.mg X.base CX k fi fd ps (upSp X.K TL sp)) (hb : Binds X.K fd ps []) (hTL : T0.tl = TL) (hr : Room j X.A) (ha : QA X T0 (e :: es) t) (hkj : k + 1 ≤ j := by decide) (hx : Passes CX X C8.E0 := by first | exact pass0 | exact passL) (hg : Gl X x := by rfl)
    (hdb : (x == ("__debug__" : Str)) = false := by decide) (he : starEach (e :: es) X.env = (false, eval e X.env) :: starEach es X.env := by rfl) (hpl : (backTo pos (starEach es X.env)).any (·.1) = false := by rfl) :
    QE X T0 (.Call (.Name x p) (e :: es) [] pos) (make3 C sp noX t) := q_make Mc F hTL (hr.mono hkj) hg hm hb hx xok0 ha hdb he hpl
/-- C(e, ..), what is raised is wished -/
theorem mkx3 {C fi : Addr} (Mc : Mk X.K C fi) (hm : X.mg x = some (.ref C)) (F : FnOk X.prog X.w X.K X.mg X.base CX k fi fd ps (upSp X.K TL sp)) (hb : Binds X.K fd ps []) (hTL : T0.tl = TL) (hx : Passes CX X E) (hE : XOk X.K T0 EX E) (hr : Room j X.A) (ha : QA X T0 (e :: es) t) (hkj : k + 1 ≤ j := by decide) (hg : Gl X x := by rfl)
    (hdb : (x == ("__debug__" : Str)) = false := by decide) (he : starEach (e :: es) X.env = (false, eval e X.env) :: starEach es X.env := by rfl) (hpl : (backTo pos (starEach es X.env)).any (·.1) = false := by rfl) :
    QE X T0 (.Call (.Name x p) (e :: es) [] pos) (make3 C sp EX t) := q_make Mc F hTL (hr.mono hkj) hg hm hb hx hE ha hdb he hpl
end
end L3
end

section
set_option Elab.async false
set_option linter.all false
set_option maxRecDepth 100000
set_option maxHeartbeats 400000
/-! L3p: steps of readings: comprehensions, loops, isinstance, members. -/
namespace L3
open PySem PySem.Spec PyProof.Rows L2
theorem isi_ty {K : PySem.W.Frag} {d : D} {t n : String} {M : HM} {Q : K3} {b : Bool} (ty : TyD K M d (.type t)) (h : kitB t n = some b) (q : Q (.bl b) M) : isi3 K [d, .ty n] M Q := ⟨d, .ty n, _, _, b, rfl, rfl, ty, h, q⟩
theorem any_strs (x : Str) : ∀ l : List Str, anyD (.str x) (l.map D.str) = l.contains x
  | [] => rfl
  | y :: l => by
    have ih := any_strs x l
    unfold anyD at ih ⊢
    rw [List.map_cons, List.any_cons, ih, List.contains_cons]
    congr 1
    show (y == x) = (x == y)
    exact Bool.beq_comm
theorem pure_strs : ∀ l : List Str, pureDs (l.map D.str) = true
  | [] => rfl
  | _ :: l => by simp only [List.map_cons, pureDs, pureD, pure_strs l, Bool.and_true]
theorem depth_strs : ∀ l : List Str, depthDs (l.map D.str) = 0
  | [] => rfl
  | _ :: l => by simp only [List.map_cons, depthDs, depthD, depth_strs l, Nat.max_self]
theorem pure_ints : ∀ l : List Int, pureDs (l.map D.int) = true
  | [] => rfl
  | _ :: l => by simp only [List.map_cons, pureDs, pureD, pure_ints l, Bool.and_true]
/-- x in (.., ..) of texts -/
theorem in_strs {n : Nat} {g : Bool → Bool} {x : Str} {l : List Str} {M : HM} {Q : K3} (hn : 0 < n) (q : Q (.bl (g (l.contains x))) M) : in3 n g (.str x) (.tup (l.map D.str)) M Q := ⟨rfl, pure_strs l, by rw [depth_strs]; simpa using hn, by rw [any_strs]; exact q⟩
theorem in_strsL {n : Nat} {g : Bool → Bool} {x : Str} {l : List Str} {a : Addr} {M : HM} {Q : K3} (hn : 0 < n) (h : LstAt M a (l.map D.str)) (q : Q (.bl (g (l.contains x))) M) : in3 n g (.str x) (.ref a) M Q := ⟨_, h, rfl, pure_strs l, by rw [depth_strs]; simpa using hn, by rw [any_strs]; exact q⟩
/-- x == y of texts -/
theorem eq_strs {n : Nat} {g : Bool → Bool} {x y : Str} {M : HM} {Q : K3} (hn : 0 ≤ n := by omega) (q : Q (.bl (g (x == y))) M) : eq3 n g (.str x) (.str y) M Q := ⟨rfl, rfl, by simp [depthD], q⟩
theorem eq_ints {n : Nat} {g : Bool → Bool} {x y : Int} {M : HM} {Q : K3} (q : Q (.bl (g (x == y))) M) : eq3 n g (.int x) (.int y) M Q := ⟨rfl, rfl, by simp [depthD], q⟩
theorem eq_bls {n : Nat} {g : Bool → Bool} {x y : Bool} {M : HM} {Q : K3} (q : Q (.bl (g (x == y))) M) : eq3 n g (.bl x) (.bl y) M Q := ⟨rfl, rfl, by simp [depthD], q⟩
/-! ### the heap -/
theorem mup_lst {M : HM} {p : Addr} {ds : List D} : LstAt (mup M p (.lst ds)) p ds := .inl mup_same
theorem Le.mup {M M' : HM} {p : Addr} {o : MO} (h : Le M M') (hp : M p = none) : Le M (mup M' p o) := fun a u e => by
  rw [mup_ne (fun z => by rw [z, hp] at e; cases e)]
  exact h a u e
theorem Le.none {M M' : HM} {p : Addr} (h : Le M M') (e : M' p = none) : M p = none := by
  cases q : M p with
  | none => rfl
  | some o => rw [h p o q] at e; cases e
theorem LstAt.le {M M' : HM} {a : Addr} {ds : List D} (h : LstAt M a ds) (l : Le M M') : LstAt M' a ds := h.imp (l a _) (l a _)
theorem LstAt.up {M : HM} {a p : Addr} {ds : List D} {o : MO} (h : LstAt M a ds) (hp : M p = none) : LstAt (mup M p o) a ds := h.le (Le.new hp)
/-! ### comprehensions whose elements leave the heap -/
theorem cloop_pure {g : G3} {te : E3} {stays : HM → Prop} {s0 : StD} {p : Addr} {M1 : HM} {f : D → D} {Qd : HM → Prop} : ∀ (ds acc : List D), acc.length + ds.length ≤ sizeLine → (∀ acc, stays (mup M1 p (.lst acc))) →
    (∀ d ∈ ds, ∀ acc (Q : K3), Q (f d) (mup M1 p (.lst acc)) → g d s0 (mup M1 p (.lst acc)) fun s1 M' => te s1 M' Q) → Qd (mup M1 p (.lst (acc ++ ds.map f))) → cloop3 g yes3 te stays s0 p ds Qd (mup M1 p (.lst acc))
  | [], acc, hl, hs, he, k => ⟨hs acc, by simpa using k⟩
  | d :: ds, acc, hl, hs, he, k => by
    refine ⟨hs acc, ?_⟩
    have ih : cloop3 g yes3 te stays s0 p ds Qd (mup M1 p (.lst (acc ++ [f d]))) := cloop_pure ds (acc ++ [f d]) (by simp at hl ⊢; omega) hs (fun e he' => he e (List.mem_cons_of_mem _ he')) (by simpa using k)
    have := he d List.mem_cons_self acc (fun e M3 => ∃ acc, M3 p = some (.lst acc) ∧ acc.length < sizeLine ∧ cloop3 g yes3 te stays s0 p ds Qd (mup M3 p (.lst (acc ++ [e])))) ⟨acc, mup_same, by simp at hl; omega, by rw [mup_mup]; exact ih⟩
    simpa only [yes3, if_true] using this
theorem lc_pure {i : I3} {g : G3} {te : E3} {vs : List Nat} {s : StD} {M : HM} {Q : K3} {ds : List D} {stays : HM → Prop} (f : D → D) (hi : ∀ R, R ds stays M → i s M R) (hl : ds.length ≤ sizeLine) (st : ∀ p acc, M p = none → stays (mup M p (.lst acc)))
    (el : ∀ d ∈ ds, ∀ p acc (Q : K3), M p = none → Q (f d) (mup M p (.lst acc)) → g d (wipe3 s vs) (mup M p (.lst acc)) fun s1 M' => te s1 M' Q) (q : ∀ p, M p = none → Q (.ref p) (mup M p (.lst (ds.map f)))) : lc3 i g yes3 te vs s M Q :=
  hi _ fun p hp => cloop_pure ds [] (by simpa using hl) (fun acc => st p acc hp) (fun d hd acc Q' hq => el d hd p acc Q' hp hq) (by simpa using q p hp)
/-! ### for by an invariant -/
theorem loop_inv {g : G3} {tb : S3} {stays : HM → Prop} {D : End3} {ds : List L3.D} (I : Nat → StD → HM → Prop) (turn : ∀ i d s M (K : StD → HM → Prop), ds[i]? = some d → I i s M → (∀ s' M', I (i + 1) s' M' → K s' M') → stays M ∧ g d s M fun s1 M1 => tb { D with nx := K, ct := K, bk := D.nx } s1 M1)
    (fin : ∀ s M, I ds.length s M → stays M ∧ D.nx s M) : ∀ (s : StD) (M : HM), I 0 s M → loop3 g tb stays ds D s M := by
  have go : ∀ (k i : Nat) (s : StD) (M : HM), ds.length - i = k → i ≤ ds.length → I i s M → loop3 g tb stays (ds.drop i) D s M := by
    intro k
    induction k with
    | zero =>
      intro i s M hk hi h
      have e : i = ds.length := by omega
      subst e
      rw [List.drop_length]
      exact fin s M h
    | succ k ih =>
      intro i s M hk hi h
      have hlt : i < ds.length := by omega
      rw [List.drop_eq_getElem_cons hlt]
      exact turn i _ s M _ (List.getElem?_eq_getElem hlt) h fun s' M' h' => ih (i + 1) s' M' (by omega) (by omega) h'
  intro s M h
  simpa using go ds.length 0 s M (by simp) (Nat.zero_le _) h
theorem hu_n {A : Around} {k : Nat} (n : Nat) (hr : Room k A) (hn : n ≤ 200 := by decide) : A.units + n < cLine := by have := hr.un; omega
end L3
end

section
set_option Elab.async false
set_option linter.all false
set_option maxRecDepth 100000
set_option maxHeartbeats 400000
/-! L3q: operations at known kinds, as equations and as steps. -/
namespace L3
open PySem PySem.Spec PyProof.Rows L2
section
variable {i j : Int} {x y z : Str} {xs ys ds : List D} {d e : D} {b : Bool} {M : HM} {Q : K3} {a : Addr} {f : Int → Int → Bool} {g : Bool → Bool} {P : Bool → Prop}
theorem e_cmpI : cmpI3 f (.int i) (.int j) M Q = Q (.bl (f i j)) M := rfl
theorem e_addI : add3 (.int i) (.int j) M Q = Q (.int (i + j)) M := rfl
theorem e_addS : add3 (.str x) (.str y) M Q = (x.length + y.length ≤ sizeLine ∧ Q (.str (x ++ y)) M) := rfl
theorem e_addT : add3 (.tup xs) (.tup ys) M Q = (xs.length + ys.length ≤ sizeLine ∧ Q (.tup (xs ++ ys)) M) := rfl
theorem e_sub : sub3 (.int i) (.int j) M Q = Q (.int (i - j)) M := rfl
theorem e_mul : mul3 (.int i) (.int j) M Q = (CMulW i j ∧ Q (.int (i * j)) M) := rfl
theorem e_mod : mod3 (.int i) (.int j) M Q = (0 < j ∧ Q (.int (i % j)) M) := rfl
theorem e_fdiv : fdivW3 (.int i) (.int j) M Q = (CDivW i j ∧ Q (.int (i / j)) M) := rfl
theorem e_pow : pow3 (.int i) (.int j) M Q = (CPowW i j ∧ Q (.int (i ^ j.toNat)) M) := rfl
theorem e_isN : isN3 g d .non M Q = Q (.bl (g (isNonD d))) M := rfl
theorem e_lenS : len3 [.str z] M Q = (z.length ≤ sizeLine ∧ Q (.int z.length) M) := rfl
theorem e_lenT : len3 [.tup ds] M Q = Q (.int ds.length) M := rfl
theorem e_intI : int3 [.int i] M Q = Q (.int i) M := rfl
theorem e_intB : int3 [.bl b] M Q = Q (.int (if b then 1 else 0)) M := rfl
theorem e_abs : abs3 [.int i] M Q = Q (.int (if i < 0 then -i else i)) M := rfl
theorem e_max : max3 [.int i, .int j] M Q = Q (.int (if j > i then j else i)) M := rfl
theorem e_min : min3 [.int i, .int j] M Q = Q (.int (if j < i then j else i)) M := rfl
theorem e_tupT : tuple3 [.tup ds] M Q = Q (.tup ds) M := rfl
theorem e_truB : tru3 (.bl b) M P = P b := rfl
theorem e_truN : tru3 .non M P = P false := rfl
theorem e_truI : tru3 (.int i) M P = P (i != 0) := rfl
theorem e_nonN : isNonD .non = true := rfl
theorem e_nonI : isNonD (.int i) = false := rfl
theorem e_nonB : isNonD (.bl b) = false := rfl
theorem e_nonS : isNonD (.str x) = false := rfl
theorem e_nonT : isNonD (.tup ds) = false := rfl
theorem e_nonR : isNonD (.ref a) = false := rfl
theorem s_len (h : LstAt M a ds) (q : Q (.int ds.length) M) : len3 [.ref a] M Q := ⟨ds, h, q⟩
theorem s_list (h : LstAt M a ds) (q : ∀ p, M p = none → Q (.ref p) (mup M p (.lst ds))) : list3 [.ref a] M Q := ⟨ds, h, q⟩
theorem s_tuple (h : LstAt M a ds) (q : Q (.tup ds) M) : tuple3 [.ref a] M Q := ⟨ds, h, q⟩
theorem s_all {bs : List Bool} (h : LstAt M a (bs.map D.bl)) (q : Q (.bl (bs.all fun b => b)) M) : all3 [.ref a] M Q := ⟨bs, h, q⟩
theorem s_sum {ns : List Int} (h : LstAt M a (ns.map D.int)) (q : Q (.int ns.sum) M) : sum3 [.ref a] M Q := ⟨ns, h, q⟩
theorem s_ix (h : LstAt M a ds) (e : atI ds i = some d) (q : Q d M) : ix3 (.ref a) (.int i) M Q := ⟨ds, d, h, e, q⟩
theorem s_ixT (e : atI ds i = some d) (q : Q d M) : ix3 (.tup ds) (.int i) M Q := ⟨d, e, q⟩
theorem s_set {n : Nat} {Q : HM → Prop} (h : M a = some (.lst ds)) (e : ixN ds.length i = some n) (q : Q (mup M a (.lst (ds.set n d)))) : setL3 (.ref a) (.int i) d M Q := ⟨ds, n, h, e, q⟩
theorem s_cut {lo hi : Option Int} (h : LstAt M a ds) (q : ∀ p, M p = none → Q (.ref p) (mup M p (.lst (cut3 ds lo hi)))) : sl3 (.ref a) lo hi M Q := ⟨ds, h, q⟩
theorem s_cat {c : Addr} (h : M a = some (.lst xs)) (h' : M c = some (.lst ys)) (hl : xs.length + ys.length ≤ sizeLine) (q : ∀ p, M p = none → Q (.ref p) (mup M p (.lst (xs ++ ys)))) : add3 (.ref a) (.ref c) M Q := ⟨xs, ys, h, h', hl, q⟩
theorem s_truL (h : LstAt M a ds) (q : P (!ds.isEmpty)) : tru3 (.ref a) M P := ⟨ds, h, q⟩
end
theorem mup_none {M : HM} {p b : Addr} {o : MO} : mup M p o b = none ↔ b ≠ p ∧ M b = none := by
  unfold mup
  by_cases h : b = p
  · simp [h]
  · simp [h]
theorem mup_eq {M : HM} {p b : Addr} {o : MO} : mup M p o b = if b = p then some o else M b := rfl
theorem nodup_inj {α β : Type} {f : α → β} (hf : ∀ a b, f a = f b → a = b) : ∀ {l : List α}, l.Nodup → (l.map f).Nodup
  | [], _ => List.nodup_nil
  | x :: l, h => by
    rw [List.nodup_cons] at h
    rw [List.map_cons, List.nodup_cons]
    refine ⟨fun z => ?_, nodup_inj hf h.2⟩
    obtain ⟨y, hy, e⟩ := List.mem_map.mp z
    exact h.1 (hf _ _ e ▸ hy)
theorem head_cut {α : Type} (xs : List α) (n : Nat) (h : n ≤ xs.length) : cut3 xs none (some (n : Int)) = xs.take n := by
  unfold cut3
  rw [HT.sIx_none, HT.sIx_nat, Nat.min_eq_left h, Nat.sub_zero, List.drop_zero]
theorem from_cut {α : Type} (xs : List α) (n : Nat) (h : n ≤ xs.length) : cut3 xs (some (n : Int)) none = xs.drop n := by
  unfold cut3
  rw [HT.sIx_none, HT.sIx_nat, Nat.min_eq_left h]
  exact List.take_of_length_le (by simp)
theorem tail_cut {α : Type} (xs : List α) : cut3 xs (some 1) none = xs.drop 1 := by
  cases xs with
  | nil => rfl
  | cons x xs => exact from_cut (x :: xs) 1 (by simp)
theorem atI_n {α : Type} {xs : List α} {n : Nat} : atI xs (n : Int) = xs[n]? := by
  unfold atI ixN
  rw [if_pos (by omega)]
  by_cases h : n < xs.length
  · rw [if_pos (by omega)]; simp
  · rw [if_neg (by omega)]
    simp
    omega
theorem ixN_nat {m n : Nat} (h : n < m) : ixN m (n : Int) = some n := by
  unfold ixN
  rw [if_pos (by omega), if_pos (by omega), Int.toNat_natCast]
end L3
end

section
set_option Elab.async false
set_option linter.all false
set_option maxRecDepth 100000
set_option maxHeartbeats 400000
namespace Wd
open PySem PySem.Spec PyProof.Rows L2 L3
local macro_rules | `(tactic| walk_at "vc") => `(tactic| simp only [seq3, ifS3, or3, and3, not3, tst3, tstB, callB3, cons3, nil3, con3, var3, bin3, chain3, un3, set3, ret3, retN3, next3, drop3, asg3, par3, name3, gtup3, gcons3, gnil3, gsub3, if3, andV3, orV3, notV3, tup3, lst3, part3, noP3, slice3, split3, join3, append3, popAt3, dget3, star3, lenSet3, rev3, disp3, dnew3, pairs3, call3, make3, aug3, yes3, r1_3, lstRg3,
  cmpI3, add3, sub3, mul3, mod3, fdivW3, pow3, isN3, len3, list3, tuple3, int3, abs3, max3, min3, all3, any3, sum3, tru3, ix3, sl3, setL3, ends3,
  List.getElem?_cons_zero, List.getElem?_cons_succ, List.set_cons_zero, List.set_cons_succ, Option.some.injEq, exists_eq_left', exists_eq_left, exists_and_left, D.bl.injEq, D.int.injEq, D.str.injEq, D.ref.injEq, D.tup.injEq, List.cons.injEq, and_true, true_and, if_true, if_false, Bool.false_eq_true, reduceCtorEq, false_and, and_false, false_or, or_false, Bool.not_true, Bool.not_false])
def keptL : List Str := ["if", "then", "else", "while", "do", "yes", "no", "and", "or", "not", "goto", "any", "end", "fail"]
def keptD : List D := keptL.map D.str
def letterL : List Nat := ("abcdefghijklmnopqrstuvwxyz" : Str).cps.toList
def isName (x : Str) : Bool := decide (1 ≤ x.length) && decide (x.length ≤ 6) && !(keptL.contains x) && x.cps.toList.all fun c => decide (c ∈ letterL)
def isLet : D → D
  | .str x => .bl (x.cps.toList.all fun c => decide (c ∈ letterL))
  | _ => .non
def sp_is_name : Sp3 := fun ds M Q _ => ∃ x : Str, ds = [.str x] ∧ x.length ≤ sizeLine ∧ Q (.bl (isName x)) M
def r_is_name (K : PySem.W.Frag) : S3 := seq3 (ifS3 (or3 (not3 (tst3 (callB3 (isi3 K) (cons3 (var3 0) (cons3 (con3 (.ty "str")) (nil3)))))) (or3 (not3 (tstB (chain3 (cmpI3 fun i j => decide (i ≤ j)) (cmpI3 fun i j => decide (i ≤ j)) (con3 (.int 1)) (callB3 len3 (cons3 (var3 0) (nil3))) (con3 (.int 6))))) (tstB (bin3 (in3 100 id) (var3 0) (con3 (.tup keptD)))))) (ret3 (con3 (.bl false))) (next3))
 (ret3 (callB3 all3 (cons3 (lc3 (istr3 (var3 0)) (name3 1) (yes3) (bin3 (in3 100 id) (var3 1) (con3 (.str ("abcdefghijklmnopqrstuvwxyz" : Str)))) [1]) (nil3))))
theorem all_signs (x : Str) : (L3.signs x).map isLet = ((x.cps.toList.map fun c => decide (c ∈ letterL)).map D.bl) := by
  unfold L3.signs
  rw [List.map_map, List.map_map]
  refine List.map_congr_left fun c _ => ?_
  simp [isLet]
theorem signs_len (x : Str) : (L3.signs x).length = x.length := by simp [L3.signs, Str.length]
/-- [sign in LETTERS for sign in x] -/
theorem letters_ok {s : StD} {M : HM} {Q : K3} {x : Str} {j : Nat} {tv : E3} (hv : ∀ M Q, Q (.str x) M → tv s M Q) (hx : x.length ≤ sizeLine) (hj : j < s.length) (q : ∀ p, M p = none → Q (.ref p) (mup M p (.lst ((x.cps.toList.map fun c => decide (c ∈ letterL)).map D.bl)))) :
    lc3 (istr3 tv) (name3 j) (yes3) (bin3 (in3 100 id) (var3 j) (con3 (.str ("abcdefghijklmnopqrstuvwxyz" : Str)))) [j] s M Q := by
  refine lc_pure (ds := L3.signs x) (stays := fun _ => True) isLet (fun R hR => hv _ _ ⟨x, rfl, hR⟩) (by rw [signs_len]; exact hx) (fun _ _ _ => trivial) (fun d hd p acc Q' hp hq => ?_) (fun p hp => by rw [all_signs]; exact q p hp)
  unfold L3.signs at hd
  obtain ⟨c, hc, rfl⟩ := List.mem_map.mp hd
  refine ⟨.str ⟨#[c]⟩, ?_, c, rfl, ?_⟩
  · simp [wipe3, List.getElem?_set_self, hj]
  · simpa [isLet, letterL] using hq
theorem vc_is_name {K : PySem.W.Frag} {ds : List D} {M : HM} {Q : K3} {EX : X3} (h : sp_is_name ds M Q EX) : r_is_name K (ends3 Q) (start3 ["value", "sign"] ds) M := by
  obtain ⟨x, rfl, hx, q⟩ := h
  show r_is_name K (ends3 Q) [some (.str x), none] M
  unfold r_is_name
  walk_at "vc"
  refine isi_ty (.str x) (b := true) (by decide +kernel) ?_
  walk_at "vc"
  refine ⟨hx, ?_⟩
  split
  · rename_i h1
    split
    · rename_i h6
      refine ⟨M, Le.refl M, ?_⟩
      rwa [show isName x = false by simp [isName] at h6 ⊢; intros; omega] at q
    · rename_i h6
      refine in_strs (by decide) ⟨_, rfl, ?_⟩
      split
      · rename_i hk
        refine ⟨M, Le.refl M, ?_⟩
        rwa [show isName x = false by simp [isName] at hk ⊢; intros; contradiction] at q
      · rename_i hk
        refine letters_ok (x := x) (fun M Q q => ⟨_, rfl, q⟩) hx (by simp) fun p hp => ⟨_, mup_lst, M, Le.new hp, ?_⟩
        rw [List.all_map]
        rwa [show isName x = (x.cps.toList.all fun c => decide (c ∈ letterL)) by
          simp at h1 h6 hk
          unfold isName
          rw [decide_eq_true (show 1 ≤ x.length by omega), decide_eq_true (show x.length ≤ 6 by omega)]
          simp [hk]] at q
  · rename_i h1
    refine ⟨M, Le.refl M, ?_⟩
    rwa [show isName x = false by simp [isName] at h1 ⊢; intros; omega] at q
end Wd
end

section
set_option Elab.async false
set_option linter.all false
set_option maxRecDepth 100000
set_option maxHeartbeats 400000
namespace Wd
open PySem PySem.Spec PyProof.Rows L2 L3
local macro_rules | `(tactic| walk_at "vc") => `(tactic| try simp only [seq3, ifS3, or3, and3, not3, tst3, tstB, callB3, cons3, nil3, con3, var3, bin3, chain3, un3, set3, ret3, retN3, next3, drop3, asg3, par3, name3, gtup3, gcons3, gnil3, gsub3, if3, andV3, orV3, notV3, tup3, lst3, part3, noP3, slice3, split3, join3, append3, popAt3, dget3, star3, lenSet3, rev3, disp3, dnew3, pairs3, call3, make3, aug3, yes3, r1_3, lstRg3, ends3,
  e_cmpI, e_addI, e_addS, e_addT, e_sub, e_mul, e_mod, e_fdiv, e_pow, e_isN, e_lenS, e_lenT, e_intI, e_intB, e_abs, e_max, e_min, e_tupT, e_truB, e_truN, e_truI, e_nonN, e_nonI, e_nonB, e_nonS, e_nonT, e_nonR,
  List.getElem?_cons_zero, List.getElem?_cons_succ, List.set_cons_zero, List.set_cons_succ, Option.some.injEq, exists_eq_left', exists_eq_left, exists_and_left, D.bl.injEq, D.int.injEq, D.str.injEq, D.ref.injEq, D.tup.injEq, List.cons.injEq, and_true, true_and, if_true, if_false, Bool.false_eq_true, reduceCtorEq, false_and, and_false, false_or, or_false, Bool.not_true, Bool.not_false, id, decide_eq_true_eq])
/-! ### the pot -/
def PotO (n : Nat) (o : MO) : Prop := ∃ a b c : Int, o = .lst [.int a, .int b, .int c] ∧ 0 ≤ a ∧ a < 2 ^ 1000 ∧ 0 ≤ b ∧ b < 2 ^ 61 ∧ 0 ≤ c ∧ c ≤ n
def PotOk (n : Nat) (M : HM) (p : Addr) : Prop := ∃ o, M p = some o ∧ PotO n o
def sp_law_take : Sp3 := fun ds M Q _ => ∃ (p : Addr) (u : Int) (n : Nat), ds = [.ref p, .int u] ∧ PotOk n M p ∧ n < 2 ^ 20 ∧ 0 < u ∧ u < 2 ^ 30 ∧ ∀ (j : Int) (o : MO), 0 ≤ j → j < u → PotO (n + 1) o → Q (.int j) (mup M p o)
def r_law_take : S3 := seq3 (ifS3 (tstB (bin3 (cmpI3 fun i j => decide (j < i)) (bin3 ix3 (var3 0) (con3 (.int 0))) (con3 (.int 0)))) (seq3 (set3 (bin3 mod3 (callB3 int3 (cons3 (bin3 ix3 (var3 0) (con3 (.int 0))) (nil3))) (var3 1)) 2)
 (seq3 (asg3 (bin3 fdivW3 (bin3 ix3 (var3 0) (con3 (.int 0))) (var3 1)) (gsub3 (var3 0) (con3 (.int 0)) setL3))
 (ret3 (var3 2)))) (next3))
 (seq3 (asg3 (bin3 add3 (bin3 ix3 (var3 0) (con3 (.int 2))) (con3 (.int 1))) (gsub3 (var3 0) (con3 (.int 2)) setL3))
 (seq3 (set3 (bin3 ix3 (lst3 (cons3 (con3 (.int 2147483647)) (cons3 (con3 (.int 2147483629)) (cons3 (con3 (.int 2147483587)) (cons3 (con3 (.int 2147483579)) (cons3 (con3 (.int 2147483563)) (nil3))))))) (bin3 mod3 (callB3 int3 (cons3 (bin3 ix3 (var3 0) (con3 (.int 2))) (nil3))) (con3 (.int 5)))) 3)
 (seq3 (set3 (bin3 mod3 (callB3 int3 (cons3 (bin3 pow3 (callB3 int3 (cons3 (bin3 add3 (bin3 add3 (bin3 ix3 (var3 0) (con3 (.int 1))) (bin3 mul3 (bin3 mul3 (con3 (.int 90841)) (bin3 ix3 (var3 0) (con3 (.int 2)))) (bin3 ix3 (var3 0) (con3 (.int 2))))) (con3 (.int 3407))) (nil3))) (con3 (.int 3))) (nil3))) (var3 3)) 4)
 (seq3 (set3 (bin3 mod3 (callB3 int3 (cons3 (bin3 mul3 (var3 4) (bin3 add3 (bin3 mod3 (callB3 int3 (cons3 (var3 4) (nil3))) (con3 (.int 12503))) (bin3 mul3 (con3 (.int 293)) (bin3 ix3 (var3 0) (con3 (.int 2)))))) (nil3))) (con3 (.int 2305843009213693907))) 4)
 (ret3 (bin3 mod3 (callB3 int3 (cons3 (bin3 fdivW3 (var3 4) (con3 (.int 181))) (nil3))) (var3 1)))))))
theorem pow_ok {i : Int} {k n : Nat} (h : i.natAbs < 2 ^ k) (h0 : 0 < k) (hn : k * n ≤ 2 ^ 27) : CPowW i (n : Int) := by
  refine ⟨by omega, ?_⟩
  have e := PySem.Flt.log2_lt_of h0 h
  have b : Builtin.Int.intBits i ≤ k := by
    unfold Builtin.Int.intBits
    split <;> omega
  have : Builtin.Int.intBits i * n ≤ k * n := Nat.mul_le_mul_right _ b
  exact_mod_cast Nat.le_trans this hn
theorem vc_law_take {ds : List D} {M : HM} {Q : K3} {EX : X3} (h : sp_law_take ds M Q EX) : r_law_take (ends3 Q) (start3 ["pot", "upto", "digit", "prime", "blend"] ds) M := by
  obtain ⟨p, u, n, rfl, ⟨o, hp, a, b, c, rfl, a0, a1, b0, b1, c0, c1⟩, hn, u0, u1, q⟩ := h
  show r_law_take (ends3 Q) [some (.ref p), some (.int u), none, none, none] M
  unfold r_law_take
  walk_at "vc"
  have c2 : c < 2 ^ 20 := by omega
  refine s_ix (.inl hp) rfl ?_
  walk_at "vc"
  split
  · rename_i ha
    refine s_ix (.inl hp) rfl ?_
    walk_at "vc"
    refine ⟨u0, s_ix (.inl hp) rfl ?_⟩
    walk_at "vc"
    refine ⟨⟨u0, ?_⟩, s_set hp (n := 0) rfl ⟨_, Le.refl _, q _ _ (Int.emod_nonneg _ (by omega)) (Int.emod_lt_of_pos _ u0) ⟨a / u, b, c, rfl, Int.ediv_nonneg a0 (by omega), Int.lt_of_le_of_lt (Int.ediv_le_self _ a0) a1, b0, b1, c0, by omega⟩⟩⟩
    exact (wide_div (i := a) (b := 30) u0 (by omega) (by decide) (by decide)).2
  · refine s_ix (.inl hp) rfl ?_
    walk_at "vc"
    refine s_set hp (n := 2) rfl ⟨by rw [sizeLine_eq]; decide, fun p1 hp1 => ?_⟩
    have hq : mup (mup M p (.lst [.int a, .int b, .int (c + 1)])) p1 (.lst [.int 2147483647, .int 2147483629, .int 2147483587, .int 2147483579, .int 2147483563]) p = some (.lst [.int a, .int b, .int (c + 1)]) := by
      rw [mup_ne (fun z => by rw [← z, mup_same] at hp1; cases hp1), mup_same]
    refine s_ix (.inl hq) rfl ?_
    walk_at "vc"
    refine ⟨by decide, ?_⟩
    obtain ⟨pr, hpr, pr0, pr1⟩ : ∃ pr : Int, atI [D.int 2147483647, .int 2147483629, .int 2147483587, .int 2147483579, .int 2147483563] ((c + 1) % 5) = some (.int pr) ∧ 0 < pr ∧ pr < 2 ^ 31 := by
      have h0 := Int.emod_nonneg (c + 1) (show (5 : Int) ≠ 0 by decide)
      have h1 := Int.emod_lt_of_pos (c + 1) (show (0 : Int) < 5 by decide)
      generalize (c + 1) % 5 = k at *
      have : k = 0 ∨ k = 1 ∨ k = 2 ∨ k = 3 ∨ k = 4 := by omega
      rcases this with rfl | rfl | rfl | rfl | rfl <;> exact ⟨_, rfl, by decide, by decide⟩
    refine s_ix mup_lst hpr ?_
    walk_at "vc"
    refine s_ix (.inl hq) rfl (s_ix (.inl hq) rfl ?_)
    walk_at "vc"
    have m1 : CMulW 90841 (c + 1) := wide_mul (a := 17) (b := 21) (by decide) (by omega) (by decide) (by decide) (by decide)
    have m1' : ((90841 : Int) * (c + 1)).natAbs < 2 ^ 38 := wide_lt (a := 17) (b := 21) (by decide) (by omega)
    refine ⟨m1, s_ix (.inl hq) rfl ?_⟩
    walk_at "vc"
    have m2 : CMulW (90841 * (c + 1)) (c + 1) := wide_mul (a := 38) (b := 21) m1' (by omega) (by decide) (by decide) (by decide)
    have m2' : ((90841 : Int) * (c + 1) * (c + 1)).natAbs < 2 ^ 59 := wide_lt (a := 38) (b := 21) m1' (by omega)
    refine ⟨m2, pow_ok (k := 63) (n := 3) (by omega) (by decide) (by decide), pr0, ?_⟩
    have z0 := Int.emod_nonneg ((b + 90841 * (c + 1) * (c + 1) + 3407) ^ (3 : Int).toNat) (show pr ≠ 0 by omega)
    have z1 := Int.emod_lt_of_pos ((b + 90841 * (c + 1) * (c + 1) + 3407) ^ (3 : Int).toNat) pr0
    generalize (b + 90841 * (c + 1) * (c + 1) + 3407) ^ (3 : Int).toNat % pr = z at *
    refine ⟨by decide, s_ix (.inl hq) rfl ?_⟩
    walk_at "vc"
    have m3 : CMulW 293 (c + 1) := wide_mul (a := 9) (b := 21) (by decide) (by omega) (by decide) (by decide) (by decide)
    have h125 := Int.emod_lt_of_pos z (show (0 : Int) < 12503 by decide)
    have h125' := Int.emod_nonneg z (show (12503 : Int) ≠ 0 by decide)
    refine ⟨m3, wide_mul (a := 31) (b := 31) (by omega) (by omega) (by decide) (by decide) (by decide), by decide, ?_⟩
    refine ⟨⟨by decide, by decide⟩, u0, ?_⟩
    refine ⟨_, (Le.refl _).mup (p := p1) ?_, q _ _ (Int.emod_nonneg _ (by omega)) (Int.emod_lt_of_pos _ u0) ⟨a, b, c + 1, rfl, a0, a1, b0, b1, by omega, by omega⟩⟩
    exact hp1
end Wd
end

section
set_option Elab.async false
set_option linter.all false
set_option maxRecDepth 100000
set_option maxHeartbeats 400000
namespace Wd
open PySem PySem.Spec PyProof.Rows L2 L3
local macro_rules | `(tactic| walk_at "vc") => `(tactic| try simp only [seq3, ifS3, or3, and3, not3, tst3, tstB, callB3, cons3, nil3, con3, var3, bin3, chain3, un3, set3, ret3, retN3, next3, drop3, asg3, par3, name3, gtup3, gcons3, gnil3, gsub3, if3, andV3, orV3, notV3, tup3, lst3, part3, noP3, slice3, split3, join3, append3, popAt3, dget3, star3, lenSet3, rev3, disp3, dnew3, pairs3, call3, make3, aug3, yes3, r1_3, lstRg3, ends3,
  e_cmpI, e_addI, e_addS, e_addT, e_sub, e_mul, e_mod, e_fdiv, e_pow, e_isN, e_lenS, e_lenT, e_intI, e_intB, e_abs, e_max, e_min, e_tupT, e_truB, e_truN, e_truI, e_nonN, e_nonI, e_nonB, e_nonS, e_nonT, e_nonR,
  List.getElem?_cons_zero, List.getElem?_cons_succ, List.set_cons_zero, List.set_cons_succ, Option.some.injEq, exists_eq_left', exists_eq_left, exists_and_left, D.bl.injEq, D.int.injEq, D.str.injEq, D.ref.injEq, D.tup.injEq, List.cons.injEq, and_true, true_and, if_true, if_false, Bool.false_eq_true, reduceCtorEq, false_and, and_false, false_or, or_false, Bool.not_true, Bool.not_false, id, decide_eq_true_eq])
/-! ### a pot of a script -/
def sp_law_pot : Sp3 := fun ds M Q _ => ∃ (s : Addr) (k : Nat) (ns : List Int), ds = [.ref s, .int k] ∧ LstAt M s (ns.map D.int) ∧ k < 2 ^ 20 ∧ ns.length ≤ sizeLine ∧ ∀ (p : Addr) (o : MO), M p = none → PotO 0 o → Q (.ref p) (mup M p o)
def r_law_pot_3 : S3 := ret3 (lst3 (cons3 (var3 3) (cons3 (bin3 mod3 (callB3 int3 (cons3 (bin3 add3 (bin3 add3 (bin3 mul3 (var3 4) (con3 (.int 79393))) (bin3 mul3 (bin3 mul3 (con3 (.int 9473)) (var3 1)) (var3 1))) (con3 (.int 2711))) (nil3))) (con3 (.int 2305843009213693921))) (cons3 (con3 (.int 0)) (nil3)))))
def r_law_pot_2 : S3 := seq3 (set3 (bin3 mod3 (callB3 int3 (cons3 (var3 2) (nil3))) (con3 (.int 2305843009213693951))) 4)
  (r_law_pot_3)
def r_law_pot_1 : S3 := seq3 (set3 (bin3 mul3 (bin3 mod3 (callB3 int3 (cons3 (callB3 abs3 (cons3 (var3 2) (nil3))) (nil3))) (bin3 pow3 (bin3 pow3 (con3 (.int 10)) (con3 (.int 60))) (con3 (.int 5)))) (callB3 int3 (cons3 (bin3 (cmpI3 fun i j => decide (j ≤ i)) (callB3 abs3 (cons3 (var3 2) (nil3))) (bin3 pow3 (con3 (.int 10)) (con3 (.int 18)))) (nil3)))) 3)
  (r_law_pot_2)
def r_law_pot : S3 := seq3 (set3 (if3 (tstB (bin3 (cmpI3 fun i j => decide (i < j)) (var3 1) (callB3 len3 (cons3 (var3 0) (nil3))))) (bin3 ix3 (var3 0) (var3 1)) (bin3 add3 (bin3 add3 (bin3 mod3 (callB3 int3 (cons3 (callB3 sum3 (cons3 (slice3 (var3 0) noP3 (part3 (con3 (.int 1)))) (nil3))) (nil3))) (con3 (.int 1000081))) (bin3 mul3 (con3 (.int 5101)) (var3 1))) (con3 (.int 3407)))) 2)
  (r_law_pot_1)
theorem vc_law_pot {ds : List D} {M : HM} {Q : K3} {EX : X3} (h : sp_law_pot ds M Q EX) : r_law_pot (ends3 Q) (start3 ["script", "place", "cell", "own", "small"] ds) M := by
  obtain ⟨s, k, ns, rfl, hs, hk, hn, q⟩ := h
  show r_law_pot (ends3 Q) [some (.ref s), some (.int k), none, none, none] M
  unfold r_law_pot
  walk_at "vc"
  refine s_len hs ?_
  walk_at "vc"
  -- behind the choice: the same for any cell, in a heap that has grown
  have rest : ∀ (cell : Int) (M1 : HM), Le M M1 → r_law_pot_1 (ends3 Q) [some (.ref s), some (.int k), some (.int cell), none, none] M1 := by
    intro cell M1 le
    unfold r_law_pot_1 r_law_pot_2 r_law_pot_3
    walk_at "vc"
    refine ⟨pow_ok (i := 10) (k := 4) (n := 60) (by decide) (by decide) (by decide), pow_ok (i := 10 ^ (60 : Int).toNat) (k := 200) (n := 5) (by decide +kernel) (by decide) (by decide), by decide +kernel, pow_ok (i := 10) (k := 4) (n := 18) (by decide) (by decide) (by decide), ?_⟩
    have e0 : (0 : Int) < (10 ^ (60 : Int).toNat) ^ (5 : Int).toNat := by decide +kernel
    have e1 : ((10 : Int) ^ (60 : Int).toNat) ^ (5 : Int).toNat < 2 ^ 1000 := by decide +kernel
    generalize ((10 : Int) ^ (60 : Int).toNat) ^ (5 : Int).toNat = big at *
    have x0 := Int.emod_nonneg (if cell < 0 then -cell else cell) (show big ≠ 0 by omega)
    have x1 := Int.emod_lt_of_pos (if cell < 0 then -cell else cell) e0
    generalize (if cell < 0 then -cell else cell) % big = x at *
    generalize hfl : (if (10 : Int) ^ (18 : Int).toNat ≤ (if cell < 0 then -cell else cell) then (1 : Int) else 0) = fl
    have f01 : fl = 0 ∨ fl = 1 := by
      subst hfl
      by_cases hh : (10 : Int) ^ (18 : Int).toNat ≤ (if cell < 0 then -cell else cell)
      · rw [if_pos hh]; exact .inr rfl
      · rw [if_neg hh]; exact .inl rfl
    refine ⟨wide_mul (a := 1000) (b := 1) (by omega) (by omega) (by decide) (by decide) (by decide), by decide, ?_⟩
    have y0 := Int.emod_nonneg cell (show (2305843009213693951 : Int) ≠ 0 by decide)
    have y1 := Int.emod_lt_of_pos cell (show (0 : Int) < 2305843009213693951 by decide)
    generalize cell % 2305843009213693951 = y at *
    refine ⟨wide_mul (a := 61) (b := 17) (by omega) (by decide) (by decide) (by decide) (by decide), ?_⟩
    have m1 : ((9473 : Int) * k).natAbs < 2 ^ 34 := wide_lt (a := 14) (b := 20) (by decide) (by omega)
    refine ⟨wide_mul (a := 14) (b := 20) (by decide) (by omega) (by decide) (by decide) (by decide), wide_mul (a := 34) (b := 20) m1 (by omega) (by decide) (by decide) (by decide), by decide, by simp [sizeLine_eq], fun p hp => ?_⟩
    have z0 := Int.emod_nonneg (y * 79393 + 9473 * (k : Int) * k + 2711) (show (2305843009213693921 : Int) ≠ 0 by decide)
    have z1 := Int.emod_lt_of_pos (y * 79393 + 9473 * (k : Int) * k + 2711) (show (0 : Int) < 2305843009213693921 by decide)
    generalize (y * 79393 + 9473 * (k : Int) * k + 2711) % 2305843009213693921 = z at *
    refine ⟨mup M p (.lst [.int (x * fl), .int z, .int 0]), fun b u e => ?_, q p _ (le.none hp) ⟨_, z, 0, rfl, ?_, ?_, z0, by omega, by decide, by decide⟩⟩
    · by_cases hb : b = p
      · subst hb; rw [mup_same] at e ⊢; exact e
      · rw [mup_ne hb] at e ⊢; exact le _ _ e
    · rcases f01 with e | e <;> rw [e] <;> omega
    · rcases f01 with e | e <;> rw [e] <;> omega
  split
  · rename_i hlt
    have hlt : k < ns.length := by simpa using hlt
    refine s_ix hs (d := .int ns[k]) (by rw [atI_n]; simp [hlt]) ?_
    exact rest _ M (Le.refl M)
  · refine s_cut hs fun p1 hp1 => ?_
    rw [show (some (1 : Int)) = some ((1 : Nat) : Int) from rfl]
    have hm : ∃ ms : List Int, cut3 (ns.map D.int) none (some ((1 : Nat) : Int)) = ms.map D.int := by
      cases ns with
      | nil => exact ⟨[], rfl⟩
      | cons n ns => exact ⟨[n], by rw [head_cut _ 1 (by simp)]; rfl⟩
    obtain ⟨ms, hm⟩ := hm
    rw [hm]
    refine s_sum mup_lst ?_
    walk_at "vc"
    refine ⟨by decide, wide_mul (a := 13) (b := 20) (by decide) (by omega) (by decide) (by decide) (by decide), ?_⟩
    exact rest _ _ (Le.new hp1)
/-! ### one of some -/
def sp_law_of : Sp3 := fun ds M Q _ => ∃ (p l : Addr) (xs : List D) (n : Nat), ds = [.ref p, .ref l] ∧ PotOk n M p ∧ n < 2 ^ 20 ∧ LstAt M l xs ∧ l ≠ p ∧ 0 < xs.length ∧ xs.length < 2 ^ 20 ∧ ∀ (d : D) (o : MO), d ∈ xs → PotO (n + 1) o → Q d (mup M p o)
def r_law_of : S3 := ret3 (bin3 ix3 (var3 1) (call3 sp_law_take noX (cons3 (var3 0) (cons3 (callB3 len3 (cons3 (var3 1) (nil3))) (nil3)))))
theorem vc_law_of {ds : List D} {M : HM} {Q : K3} {EX : X3} (h : sp_law_of ds M Q EX) : r_law_of (ends3 Q) (start3 ["pot", "some"] ds) M := by
  obtain ⟨p, l, xs, n, rfl, hp, hn, hl, hne, h0, h1, q⟩ := h
  show r_law_of (ends3 Q) [some (.ref p), some (.ref l)] M
  unfold r_law_of
  walk_at "vc"
  refine s_len hl ?_
  walk_at "vc"
  refine ⟨p, _, n, rfl, hp, hn, by omega, by omega, fun j o j0 j1 ho => ?_⟩
  have hj : j.toNat < xs.length := by omega
  have e : j = ((j.toNat : Nat) : Int) := by omega
  rw [e]
  refine s_ix (ds := xs) (d := xs[j.toNat]) ?_ (by rw [atI_n]; simp [hj]) ⟨_, Le.refl _, q _ o (List.getElem_mem _) ho⟩
  unfold L3.LstAt
  rw [mup_ne hne]
  exact hl
/-! ### the cells -/
def sp_law_cells : Sp3 := fun ds M Q _ => ∃ (s : Addr) (most : Nat) (ns : List D), ds = [.ref s, .int most] ∧ LstAt M s ns ∧ most ≤ 100 ∧ ns.length ≤ sizeLine ∧ ∀ p, M p = none → ∀ m : Nat, m ≤ 100 → Q (.ref p) (mup M p (.lst ((List.range m).map fun i => D.int (i : Nat))))
def r_law_cells : S3 := ret3 (lstRg3 (r1_3 (callB3 max3 (cons3 (con3 (.int 1)) (cons3 (callB3 min3 (cons3 (var3 1) (cons3 (callB3 len3 (cons3 (var3 0) (nil3))) (nil3)))) (nil3))))))
theorem vc_law_cells {ds : List D} {M : HM} {Q : K3} {EX : X3} (h : sp_law_cells ds M Q EX) : r_law_cells (ends3 Q) (start3 ["script", "most"] ds) M := by
  obtain ⟨s, most, ns, rfl, hs, hm, hn, q⟩ := h
  show r_law_cells (ends3 Q) [some (.ref s), some (.int most)] M
  unfold r_law_cells
  walk_at "vc"
  refine s_len hs ?_
  walk_at "vc"
  generalize hz : (if (if (ns.length : Int) < most then (ns.length : Int) else most) > 1 then (if (ns.length : Int) < most then (ns.length : Int) else most) else 1) = z
  have z0 : 0 ≤ z ∧ z ≤ 100 := by
    subst hz
    split <;> split <;> omega
  refine ⟨RgOk.of_le (by decide) (by omega) (by decide) z0.1, fun p hp => ⟨_, Le.refl _, ?_⟩⟩
  have := q p hp z.toNat (by omega)
  unfold rgD
  simpa using this
end Wd
end

section
set_option Elab.async false
set_option linter.all false
set_option maxRecDepth 100000
set_option maxHeartbeats 400000
namespace Wd
open PySem PySem.Spec PyProof.Rows L2 L3
local macro_rules | `(tactic| walk_at "vc") => `(tactic| try simp only [seq3, ifS3, or3, and3, not3, tst3, tstB, callB3, cons3, nil3, con3, var3, bin3, chain3, un3, set3, ret3, retN3, next3, drop3, asg3, par3, name3, gtup3, gcons3, gnil3, gsub3, if3, andV3, orV3, notV3, tup3, lst3, part3, noP3, slice3, split3, join3, append3, popAt3, dget3, star3, lenSet3, rev3, disp3, dnew3, pairs3, call3, make3, aug3, yes3, r1_3, lstRg3, ends3,
  e_cmpI, e_addI, e_addS, e_addT, e_sub, e_mul, e_mod, e_fdiv, e_pow, e_isN, e_lenS, e_lenT, e_intI, e_intB, e_abs, e_max, e_min, e_tupT, e_truB, e_truN, e_truI, e_nonN, e_nonI, e_nonB, e_nonS, e_nonT, e_nonR,
  List.getElem?_cons_zero, List.getElem?_cons_succ, List.set_cons_zero, List.set_cons_succ, Option.some.injEq, exists_eq_left', exists_eq_left, exists_and_left, D.bl.injEq, D.int.injEq, D.str.injEq, D.ref.injEq, D.tup.injEq, List.cons.injEq, and_true, true_and, if_true, if_false, Bool.false_eq_true, reduceCtorEq, false_and, and_false, false_or, or_false, Bool.not_true, Bool.not_false, id, decide_eq_true_eq])
/-! ### some out of a pool -/
def sp_law_some : Sp3 := fun ds M Q _ => ∃ (p l : Addr) (pool : List D) (many n : Nat), ds = [.ref p, .ref l, .int many] ∧ PotOk n M p ∧ n + many < 2 ^ 20 ∧ LstAt M l pool ∧ many ≤ pool.length ∧ pool.length ≤ 1000 ∧
  ∀ (q : Addr) (ys rest : List D) (o : MO), M q = none → ys.length = many → (ys ++ rest).Perm pool → PotO (n + many) o → Q (.ref q) (mup (mup M p o) q (.lst ys))
def r_law_some_2 : S3 := ret3 (var3 4)
def r_law_some_1 : S3 := seq3 (for3 (irng3 (cons3 (var3 2) (nil3))) (name3 5) (drop3 (append3 (var3 4) (popAt3 (var3 3) (call3 sp_law_take noX (cons3 (var3 0) (cons3 (callB3 len3 (cons3 (var3 3) (nil3))) (nil3))))))))
  (r_law_some_2)
def r_law_some : S3 := seq3 (par3 3 4 (cons3 (callB3 list3 (cons3 (var3 1) (nil3))) (cons3 (lst3 (nil3)) (nil3))))
  (r_law_some_1)
theorem perm_erase {α : Type} : ∀ (l : List α) (i : Nat) (h : i < l.length), (l[i] :: l.eraseIdx i).Perm l
  | x :: l, 0, _ => List.Perm.refl _
  | x :: l, i + 1, h => by
    have ih := perm_erase l i (by simpa using h)
    simp only [List.getElem_cons_succ, List.eraseIdx_cons_succ]
    exact (List.Perm.swap x _ _).trans (ih.cons x)
/-- between two laps -/
structure SomeI (M : HM) (p l r f : Addr) (pool : List D) (many n i : Nat) (s : StD) (M' : HM) : Prop where
  st : ∃ v, s = [some (.ref p), some (.ref l), some (.int many), some (.ref r), some (.ref f), v]
  pt : PotOk (n + i) M' p
  ls : ∃ fs rs, M' f = some (.lst fs) ∧ M' r = some (.lst rs) ∧ fs.length = i ∧ (fs ++ rs).Perm pool
  el : ∀ b, b ≠ p → b ≠ r → b ≠ f → M' b = M b
theorem vc_law_some {ds : List D} {M : HM} {Q : K3} {EX : X3} (h : sp_law_some ds M Q EX) : r_law_some (ends3 Q) (start3 ["pot", "pool", "many", "rests", "found", "lap"] ds) M := by
  obtain ⟨p, l, pool, many, n, rfl, ⟨o, hp, ho⟩, hn, hl, hm, hpl, q⟩ := h
  show r_law_some (ends3 Q) [some (.ref p), some (.ref l), some (.int many), none, none, none] M
  unfold r_law_some
  walk_at "vc"
  refine s_list hl fun r hr => ?_
  walk_at "vc"
  refine ⟨by simp [sizeLine_eq], fun f hf => ⟨_, _, ⟨rfl, rfl⟩, ?_⟩⟩
  walk_at "vc"
  unfold r_law_some_1
  have hrf : r ≠ f := fun z => by rw [← z, mup_same] at hf; cases hf
  have hf0 : M f = none := by rw [mup_ne hrf.symm] at hf; exact hf
  have hpr : p ≠ r := fun z => by rw [z, hr] at hp; cases hp
  have hpf : p ≠ f := fun z => by rw [z, hf0] at hp; cases hp
  refine ⟨_, rfl, many, rfl, by omega, by omega, loop_inv (fun i s M' => SomeI M p l r f pool many n i s M') ?_ ?_ _ _ ?_⟩
  · rintro i d s M1 K hd ⟨⟨v, rfl⟩, hpt, ⟨fs, rs, g1, g2, g3, g4⟩, el⟩ hK
    refine ⟨trivial, ?_⟩
    have hi : i < many := by
      have := (List.getElem?_eq_some_iff.mp hd).1
      simpa [rng3] using this
    walk_at "vc"
    have hlen := g4.length_eq
    rw [List.length_append] at hlen
    refine ⟨⟨fs, g1⟩, ⟨rs, g2⟩, s_len (.inl g2) ?_⟩
    walk_at "vc"
    refine ⟨p, _, n + i, rfl, hpt, by omega, by omega, by omega, fun j o' j0 j1 ho' => ?_⟩
    have hj : j.toNat < rs.length := by omega
    have ej : j = ((j.toNat : Nat) : Int) := by omega
    obtain ⟨k1, _⟩ := ixN_seq (n := rs.length) (i := j) (j := j.toNat) (by rw [ej]; exact ixN_nat hj)
    have e2 : mup M1 p o' r = some (.lst rs) := by rw [mup_ne hpr.symm]; exact g2
    refine ⟨rs, j, rfl, e2, by omega, by omega, j.toNat, k1, rs[j.toNat], List.getElem?_eq_getElem hj, fs, ?_, by rw [sizeLine_eq]; omega, hK _ _ ⟨⟨_, rfl⟩, ⟨o', ?_, by rw [← Nat.add_assoc]; exact ho'⟩, ⟨fs ++ [rs[j.toNat]], rs.eraseIdx j.toNat, mup_same, ?_, by simp [g3], ?_⟩, fun b b1 b2 b3 => ?_⟩⟩
    · rw [mup_ne hrf.symm, mup_ne hpf.symm]; exact g1
    · rw [mup_ne hpf, mup_ne hpr, mup_same]
    · rw [mup_ne hrf, mup_same]
    · refine List.Perm.trans ?_ g4
      rw [List.append_assoc]
      exact List.Perm.append_left fs (perm_erase rs _ hj)
    · rw [mup_ne b3, mup_ne b2, mup_ne b1]; exact el b b1 b2 b3
  · rintro s M1 ⟨⟨v, rfl⟩, ⟨o', hp', ho'⟩, ⟨fs, rs, g1, g2, g3, g4⟩, el⟩
    refine ⟨trivial, ?_⟩
    unfold r_law_some_2
    walk_at "vc"
    have e0 : (rng3 0 (many : Int).toNat).length = many := by simp [rng3]
    rw [e0] at g3 ho'
    refine ⟨mup (mup M p o') f (.lst fs), fun b u e => ?_, q f fs rs o' hf0 g3 g4 ho'⟩
    by_cases b1 : b = f
    · subst b1; rw [mup_same] at e; cases e; exact g1
    · rw [mup_ne b1] at e
      by_cases b2 : b = p
      · subst b2; rw [mup_same] at e; cases e; exact hp'
      · rw [mup_ne b2] at e
        rw [el b b2 (fun z => by rw [z, hr] at e; cases e) b1]
        exact e
  · refine ⟨⟨_, rfl⟩, ⟨o, ?_, ho⟩, ⟨[], pool, mup_same, ?_, rfl, List.Perm.refl _⟩, fun b b1 b2 b3 => ?_⟩
    · rw [mup_ne hpf, mup_ne hpr]; exact hp
    · rw [mup_ne hrf, mup_same]
    · rw [mup_ne b3, mup_ne b2]
end Wd
end

section
set_option Elab.async false
set_option linter.all false
set_option maxRecDepth 100000
set_option maxHeartbeats 400000
namespace Wd
open PySem PySem.Spec PyProof.Rows L2 L3
local macro_rules | `(tactic| walk_at "vc") => `(tactic| try simp only [seq3, ifS3, or3, and3, not3, tst3, tstB, callB3, cons3, nil3, con3, var3, bin3, chain3, un3, set3, ret3, retN3, next3, drop3, asg3, par3, name3, gtup3, gcons3, gnil3, gsub3, if3, andV3, orV3, notV3, tup3, lst3, part3, noP3, slice3, split3, join3, append3, popAt3, dget3, star3, lenSet3, rev3, disp3, dnew3, pairs3, call3, make3, aug3, yes3, r1_3, lstRg3, ends3,
  e_cmpI, e_addI, e_addS, e_addT, e_sub, e_mul, e_mod, e_fdiv, e_pow, e_isN, e_lenS, e_lenT, e_intI, e_intB, e_abs, e_max, e_min, e_tupT, e_truB, e_truN, e_truI, e_nonN, e_nonI, e_nonB, e_nonS, e_nonT, e_nonR,
  List.getElem?_cons_zero, List.getElem?_cons_succ, List.set_cons_zero, List.set_cons_succ, Option.some.injEq, exists_eq_left', exists_eq_left, exists_and_left, D.bl.injEq, D.int.injEq, D.str.injEq, D.ref.injEq, D.tup.injEq, List.cons.injEq, and_true, true_and, if_true, if_false, Bool.false_eq_true, reduceCtorEq, false_and, and_false, false_or, or_false, Bool.not_true, Bool.not_false, id, decide_eq_true_eq])
/-! ### texts -/
theorem PotO.mono {m n : Nat} {o : MO} (h : PotO m o) (e : m ≤ n) : PotO n o := by
  obtain ⟨a, b, c, rfl, h1, h2, h3, h4, h5, h6⟩ := h
  exact ⟨a, b, c, rfl, h1, h2, h3, h4, h5, by omega⟩
def Asc (x : Str) : Prop := ∀ c ∈ x.cps.toList, c < 128
theorem asc_app {x y : Str} (h : Asc x) (k : Asc y) : Asc (x ++ y) := fun c hc => by
  rw [Str.cps_append, Array.toList_append] at hc
  rcases List.mem_append.mp hc with q | q
  · exact h c q
  · exact k c q
theorem asc_left {x y : Str} (h : Asc (x ++ y)) : Asc x := fun c hc => h c (by rw [Str.cps_append, Array.toList_append]; exact List.mem_append_left _ hc)
theorem asc_right {x y : Str} (h : Asc (x ++ y)) : Asc y := fun c hc => h c (by rw [Str.cps_append, Array.toList_append]; exact List.mem_append_right _ hc)
theorem asc_join {y : Str} (hy : Asc y) : ∀ {l : List Str}, (∀ x ∈ l, Asc x) → Asc (Str.join y l)
  | [], _ => fun c hc => by simp [Str.join, Str.empty] at hc
  | [x], h => h x (by simp)
  | x :: z :: l, h => asc_app (asc_app (h x (by simp)) hy) (asc_join hy fun u hu => h u (List.mem_cons_of_mem _ hu))
theorem asc_parts {y : Str} : ∀ {l : List Str}, Asc (Str.join y l) → ∀ x ∈ l, Asc x
  | [], _, x, hx => by simp at hx
  | [a], h, x, hx => by simp at hx; subst hx; exact h
  | a :: b :: l, h, x, hx => by
    have h' : Asc (a ++ y ++ Str.join y (b :: l)) := h
    rcases List.mem_cons.mp hx with rfl | hx
    · exact asc_left (asc_left h')
    · exact asc_parts (asc_right h') x hx
theorem join_is (y : Str) (l : List Str) : Txt.join y l = Str.join y l := StrLaws.glued_eq_join y l
theorem asc_split {x y : Str} (h : Asc x) : ∀ z ∈ Txt.split x y, Asc z := asc_parts (y := y) (by rw [StrLaws.join_split]; exact h)
theorem sum_le {k : Nat} : ∀ {l : List Str}, (∀ x ∈ l, x.length ≤ k) → (l.map (·.length)).sum ≤ k * l.length
  | [], _ => by simp
  | x :: l, h => by
    have h1 := h x (by simp)
    have h2 := sum_le (l := l) fun z hz => h z (List.mem_cons_of_mem _ hz)
    simp only [List.map_cons, List.sum_cons, List.length_cons, Nat.mul_add, Nat.mul_one]
    omega
theorem join_le {k m : Nat} {y : Str} {l : List Str} (h : ∀ x ∈ l, x.length ≤ k) (hl : l.length ≤ m) (hy : y.length = 1) : (Txt.join y l).length ≤ k * m + m := by
  have h1 := StrLaws.join_length_le y l
  have h2 := sum_le h
  have h3 : k * l.length ≤ k * m := Nat.mul_le_mul_left k hl
  rw [join_is, hy, Nat.mul_one] at *
  omega
theorem join_ok {k m : Nat} {y : Str} {l : List Str} (h : ∀ x ∈ l, x.length ≤ k) (hl : l.length ≤ m) (hy : y.length = 1) (hb : k * m + m ≤ 16777216) : (l.map (·.length)).sum + l.length * y.length ≤ 16777216 := by
  have h2 := sum_le h
  have h3 : k * l.length ≤ k * m := Nat.mul_le_mul_left k hl
  rw [hy, Nat.mul_one]
  omega
/-! ### a drawn tongue -/
def pool1 : List Str := ["p", "q", "r", "wet"]
def pool2 : List Str := ["a", "b", "c", "up"]
structure Drawn (cs es : List Str) (c e : Nat) : Prop where
  l1 : cs.length ≤ c
  l2 : 1 ≤ es.length ∧ es.length ≤ e
  n1 : cs.Nodup
  n2 : es.Nodup
  m1 : ∀ x ∈ cs, x ∈ pool1
  m2 : ∀ x ∈ es, x ∈ pool2
def sp_law_tongue : Sp3 := fun ds M Q _ => ∃ (p : Addr) (c e n : Nat), ds = [.ref p, .int c, .int e] ∧ PotOk n M p ∧ n + 20 < 2 ^ 20 ∧ c ≤ 3 ∧ 1 ≤ e ∧ e ≤ 4 ∧
  ∀ (M' : HM) (d q1 q2 : Addr) (cs es : List Str), (∀ b u, b ≠ p → M b = some u → M' b = some u) → PotOk (n + 20) M' p → M d = none →
    M' d = some (.dk [(.inr "conditions", .ref q1), (.inr "deeds", .ref q2)]) → M' q1 = some (.lst (cs.map D.str)) → M' q2 = some (.lst (es.map D.str)) → Drawn cs es c e → Q (.ref d) M'
def r_law_tongue_1 : S3 := ret3 (disp3 [((con3 (.str ("conditions" : Str))), (var3 3)), ((con3 (.str ("deeds" : Str))), (call3 sp_law_some noX (cons3 (var3 0) (cons3 (lst3 (cons3 (con3 (.str ("a" : Str))) (cons3 (con3 (.str ("b" : Str))) (cons3 (con3 (.str ("c" : Str))) (cons3 (con3 (.str ("up" : Str))) (nil3)))))) (cons3 (bin3 add3 (con3 (.int 1)) (call3 sp_law_take noX (cons3 (var3 0) (cons3 (var3 2) (nil3))))) (nil3))))))])
def r_law_tongue : S3 := seq3 (set3 (call3 sp_law_some noX (cons3 (var3 0) (cons3 (lst3 (cons3 (con3 (.str ("p" : Str))) (cons3 (con3 (.str ("q" : Str))) (cons3 (con3 (.str ("r" : Str))) (cons3 (con3 (.str ("wet" : Str))) (nil3)))))) (cons3 (call3 sp_law_take noX (cons3 (var3 0) (cons3 (bin3 add3 (var3 1) (con3 (.int 1))) (nil3)))) (nil3))))) 3)
  (r_law_tongue_1)
/-- what is drawn of a pool of texts -/
theorem drawn_of {pool : List Str} (nd : pool.Nodup) {ys rest : List D} (h : (ys ++ rest).Perm (pool.map D.str)) : ∃ zs : List Str, ys = zs.map D.str ∧ zs.Nodup ∧ ∀ x ∈ zs, x ∈ pool := by
  have hm : ∀ y ∈ ys, ∃ x ∈ pool, y = D.str x := fun y hy => by
    have := h.subset (List.mem_append_left _ hy)
    obtain ⟨x, hx, rfl⟩ := List.mem_map.mp this
    exact ⟨x, hx, rfl⟩
  have hnd : (ys ++ rest).Nodup := h.nodup_iff.mpr (nodup_inj (f := D.str) (fun a b e => by injection e) nd)
  have hn := (List.nodup_append.mp hnd).1
  clear h hnd
  induction ys with
  | nil => exact ⟨[], rfl, List.nodup_nil, fun x hx => by cases hx⟩
  | cons y ys ih =>
    obtain ⟨x, hx, rfl⟩ := hm y (by simp)
    rw [List.nodup_cons] at hn
    obtain ⟨zs, rfl, h1, h2⟩ := ih (fun z hz => hm z (List.mem_cons_of_mem _ hz)) hn.2
    refine ⟨x :: zs, rfl, List.nodup_cons.mpr ⟨fun hz => hn.1 (List.mem_map_of_mem hz), h1⟩, fun z hz => ?_⟩
    rcases List.mem_cons.mp hz with rfl | hz
    · exact hx
    · exact h2 z hz
theorem vc_law_tongue {ds : List D} {M : HM} {Q : K3} {EX : X3} (h : sp_law_tongue ds M Q EX) : r_law_tongue (ends3 Q) (start3 ["pot", "conditions", "deeds", "some"] ds) M := by
  obtain ⟨p, c, e, n, rfl, ⟨o, hp, ho⟩, hn, hc, he, he4, q⟩ := h
  show r_law_tongue (ends3 Q) [some (.ref p), some (.int c), some (.int e), none] M
  unfold r_law_tongue
  walk_at "vc"
  refine ⟨by simp [sizeLine_eq], fun a1 h1 => ?_⟩
  have n1 : p ≠ a1 := fun z => by rw [← z, hp] at h1; cases h1
  refine ⟨p, _, n, rfl, ⟨o, by rw [mup_ne n1]; exact hp, ho⟩, by omega, by omega, by omega, fun j o1 j0 j1 ho1 => ?_⟩
  have ej : j = ((j.toNat : Nat) : Int) := by omega
  rw [ej]
  refine ⟨p, a1, pool1.map D.str, j.toNat, n + 1, rfl, ⟨o1, mup_same, ho1⟩, by omega, .inl (by rw [mup_ne n1.symm, mup_same]; rfl), by simp [pool1]; omega, by simp [pool1], fun q1 ys1 rest1 o2 f1 yl1 yp1 ho2 => ?_⟩
  obtain ⟨cs, rfl, cn, cm⟩ := drawn_of (by decide +kernel) yp1
  rw [List.length_map] at yl1
  unfold r_law_tongue_1
  walk_at "vc"
  simp only [mup_none] at f1
  obtain ⟨q1p, q1a, q1M⟩ := f1
  intro d hd
  simp only [mup_none] at hd
  obtain ⟨dq1, dp, _, da, dM⟩ := hd
  refine ⟨by simp [sizeLine_eq], fun a2 h2 => ?_⟩
  simp only [mup_none] at h2
  obtain ⟨a2d, a2q, a2p, _, a2a, a2M⟩ := h2
  refine ⟨p, e, n + 1 + j.toNat, rfl, ⟨o2, by rw [mup_ne a2p.symm, mup_ne dp.symm, mup_ne q1p.symm, mup_same], ho2⟩, by omega, by omega, by omega, fun k o3 k0 k1 ho3 => ?_⟩
  walk_at "vc"
  have ek : 1 + k = (((1 + k).toNat : Nat) : Int) := by omega
  rw [ek]
  refine ⟨p, a2, pool2.map D.str, (1 + k).toNat, n + 1 + j.toNat + 1, rfl, ⟨o3, mup_same, ho3⟩, by omega, .inl (by rw [mup_ne a2p, mup_same]; rfl), by simp [pool2]; omega, by simp [pool2], fun q2 ys2 rest2 o4 f2 yl2 yp2 ho4 => ?_⟩
  obtain ⟨es, rfl, en, em⟩ := drawn_of (by decide +kernel) yp2
  rw [List.length_map] at yl2
  simp only [mup_none] at f2
  obtain ⟨q2p, q2a, q2d, q2q, _, _, q2a1, q2M⟩ := f2
  refine ⟨by simp [mup_eq, q2d.symm, dp, a2d.symm], [(.inr "conditions", .ref q1), (.inr "deeds", .ref q2)], rfl, (by show ([Sum.inr (Str.ofString "conditions"), Sum.inr (Str.ofString "deeds")] : List Key).Nodup; decide +kernel), (by simp), _, Le.refl _, q _ d q1 q2 cs es (fun b u hb hu => ?_) ⟨o4, by simp [mup_eq, q2p.symm, dp.symm], ho4.mono (by omega)⟩ dM mup_same ?_ ?_ ⟨by omega, by omega, cn, en, cm, em⟩⟩
  · have : ∀ z, M z = none → b ≠ z := fun z hz e => by rw [e, hz] at hu; cases hu
    simp [mup_eq, this d dM, this q2 q2M, hb, this a2 a2M, this q1 q1M, this a1 h1, hu]
  · simp [mup_eq, dq1.symm, q2q.symm, q1p, a2q.symm]
  · simp [mup_eq, q2d]
/-! ### its text -/
def textOf (cs es : List Str) : Str := (Txt.join " " ("conditions" :: cs) ++ "\n") ++ Txt.join " " ("deeds" :: es)
def sp_law_tongue_text : Sp3 := fun ds M Q _ => ∃ (d q1 q2 : Addr) (cs es : List Str), ds = [.ref d] ∧ M d = some (.dk [(.inr "conditions", .ref q1), (.inr "deeds", .ref q2)]) ∧ M q1 = some (.lst (cs.map D.str)) ∧ M q2 = some (.lst (es.map D.str)) ∧
  cs.length ≤ 4 ∧ es.length ≤ 4 ∧ (∀ x ∈ cs, x.length ≤ 4) ∧ (∀ x ∈ es, x.length ≤ 4) ∧ Q (.str (textOf cs es)) M
def r_law_tongue_text : S3 := ret3 (bin3 add3 (bin3 add3 (join3 (con3 (.str (" " : Str))) (bin3 add3 (lst3 (cons3 (con3 (.str ("conditions" : Str))) (nil3))) (dget3 (var3 0) (con3 (.str ("conditions" : Str)))))) (con3 (.str ("\n" : Str)))) (join3 (con3 (.str (" " : Str))) (bin3 add3 (lst3 (cons3 (con3 (.str ("deeds" : Str))) (nil3))) (dget3 (var3 0) (con3 (.str ("deeds" : Str)))))))
theorem vc_law_tongue_text {ds : List D} {M : HM} {Q : K3} {EX : X3} (h : sp_law_tongue_text ds M Q EX) : r_law_tongue_text (ends3 Q) (start3 ["own"] ds) M := by
  obtain ⟨d, q1, q2, cs, es, rfl, hd, h1, h2, l1, l2, b1, b2, q⟩ := h
  show r_law_tongue_text (ends3 Q) [some (.ref d)] M
  unfold r_law_tongue_text
  walk_at "vc"
  have c1 : ∀ x ∈ ("conditions" : Str) :: cs, x.length ≤ 10 := fun x hx => by
    rcases List.mem_cons.mp hx with rfl | hx
    · decide
    · have := b1 x hx; omega
  have c2 : ∀ x ∈ ("deeds" : Str) :: es, x.length ≤ 10 := fun x hx => by
    rcases List.mem_cons.mp hx with rfl | hx
    · decide
    · have := b2 x hx; omega
  refine ⟨by simp [sizeLine_eq], fun p1 hp1 => ?_⟩
  have ne : ∀ z u, M z = some u → z ≠ p1 := fun z u e k => by rw [k, hp1] at e; cases e
  refine ⟨_, .inr "conditions", rfl, by rw [mup_ne (ne _ _ hd)]; exact hd, .ref q1, rfl, ?_⟩
  refine s_cat mup_same (by rw [mup_ne (ne _ _ h1)]; exact h1) (by simp [sizeLine_eq]; omega) fun p2 hp2 => ?_
  refine ⟨"conditions" :: cs, .inl ⟨p2, rfl, mup_lst⟩, join_ok (m := 5) c1 (by simp; omega) (by decide) (by decide), ?_⟩
  walk_at "vc"
  have j1 := join_le (m := 5) c1 (by simp; omega) (y := " ") (by decide)
  have j2 := join_le (m := 5) c2 (by simp; omega) (y := " ") (by decide)
  have ln : ("\n" : Str).length = 1 := by decide
  simp only [mup_none] at hp2
  refine ⟨by rw [sizeLine_eq, ln]; omega, by simp [sizeLine_eq], fun p3 hp3 => ?_⟩
  simp only [mup_none] at hp3
  obtain ⟨p21, p2M⟩ := hp2
  obtain ⟨p32, p31, p3M⟩ := hp3
  have ne2 : ∀ z u, M z = some u → z ≠ p2 := fun z u e k => by rw [k, p2M] at e; cases e
  have ne3 : ∀ z u, M z = some u → z ≠ p3 := fun z u e k => by rw [k, p3M] at e; cases e
  refine ⟨_, .inr "deeds", rfl, by rw [mup_ne (ne3 _ _ hd), mup_ne (ne2 _ _ hd), mup_ne (ne _ _ hd)]; exact hd, .ref q2, rfl, ?_⟩
  refine s_cat mup_same (ys := es.map D.str) (by simp [mup_eq, ne _ _ h2, ne2 _ _ h2, ne3 _ _ h2, h2]) (by simp [sizeLine_eq]; omega) fun p4 hp4 => ?_
  simp only [mup_none] at hp4
  refine ⟨"deeds" :: es, .inl ⟨p4, rfl, mup_lst⟩, join_ok (m := 5) c2 (by simp; omega) (by decide) (by decide), ?_⟩
  walk_at "vc"
  refine ⟨by rw [Str.length_append, sizeLine_eq, ln]; omega, M, ?_, q⟩
  exact ((((Le.refl M).mup hp1).mup p2M).mup p3M).mup hp4.2.2.2
end Wd
end

section
set_option Elab.async false
set_option linter.all false
set_option maxRecDepth 100000
set_option maxHeartbeats 400000
namespace Wd
open PySem PySem.Spec PyProof.Rows L2 L3
local macro_rules | `(tactic| walk_at "vc") => `(tactic| try simp only [seq3, ifS3, or3, and3, not3, tst3, tstB, callB3, cons3, nil3, con3, var3, bin3, chain3, un3, set3, ret3, retN3, next3, drop3, asg3, par3, name3, gtup3, gcons3, gnil3, gsub3, if3, andV3, orV3, notV3, tup3, lst3, part3, noP3, slice3, split3, join3, append3, popAt3, dget3, star3, lenSet3, rev3, disp3, dnew3, pairs3, call3, make3, aug3, yes3, r1_3, lstRg3, ends3,
  e_cmpI, e_addI, e_addS, e_addT, e_sub, e_mul, e_mod, e_fdiv, e_pow, e_isN, e_lenS, e_lenT, e_intI, e_intB, e_abs, e_max, e_min, e_tupT, e_truB, e_truN, e_truI, e_nonN, e_nonI, e_nonB, e_nonS, e_nonT, e_nonR,
  List.getElem?_cons_zero, List.getElem?_cons_succ, List.set_cons_zero, List.set_cons_succ, Option.some.injEq, exists_eq_left', exists_eq_left, exists_and_left, D.bl.injEq, D.int.injEq, D.str.injEq, D.ref.injEq, D.tup.injEq, List.cons.injEq, and_true, true_and, if_true, if_false, Bool.false_eq_true, reduceCtorEq, false_and, and_false, false_or, or_false, Bool.not_true, Bool.not_false, id, decide_eq_true_eq])
/-! ### names, by the law's own look -/
def sp_law_is_name : Sp3 := fun ds M Q _ => ∃ x : Str, ds = [.str x] ∧ x.length ≤ sizeLine ∧ Q (.bl (isName x)) M
def r_law_is_name_1 : S3 := ret3 (andV3 (chain3 (cmpI3 fun i j => decide (i ≤ j)) (cmpI3 fun i j => decide (i ≤ j)) (con3 (.int 1)) (callB3 len3 (cons3 (var3 0) (nil3))) (con3 (.int 6))) (andV3 (bin3 (in3 100 not) (var3 0) (var3 1)) (callB3 all3 (cons3 (lc3 (istr3 (var3 0)) (name3 2) (yes3) (bin3 (in3 100 id) (var3 2) (con3 (.str ("abcdefghijklmnopqrstuvwxyz" : Str)))) [2]) (nil3)))))
def r_law_is_name : S3 := seq3 (set3 (lst3 (cons3 (con3 (.str ("if" : Str))) (cons3 (con3 (.str ("then" : Str))) (cons3 (con3 (.str ("else" : Str))) (cons3 (con3 (.str ("while" : Str))) (cons3 (con3 (.str ("do" : Str))) (cons3 (con3 (.str ("yes" : Str))) (cons3 (con3 (.str ("no" : Str))) (cons3 (con3 (.str ("and" : Str))) (cons3 (con3 (.str ("or" : Str))) (cons3 (con3 (.str ("not" : Str))) (cons3 (con3 (.str ("goto" : Str))) (cons3 (con3 (.str ("any" : Str))) (cons3 (con3 (.str ("end" : Str))) (cons3 (con3 (.str ("fail" : Str))) (nil3)))))))))))))))) 1)
  (r_law_is_name_1)
theorem vc_law_is_name {ds : List D} {M : HM} {Q : K3} {EX : X3} (h : sp_law_is_name ds M Q EX) : r_law_is_name (ends3 Q) (start3 ["word", "kept", "sign"] ds) M := by
  obtain ⟨x, rfl, hx, q⟩ := h
  show r_law_is_name (ends3 Q) [some (.str x), none, none] M
  unfold r_law_is_name
  walk_at "vc"
  refine ⟨by simp [sizeLine_eq], fun p hp => ?_⟩
  unfold r_law_is_name_1
  walk_at "vc"
  refine ⟨hx, ?_⟩
  split
  · rename_i h1
    split
    · rename_i h6
      refine in_strsL (l := keptL) (by decide) mup_lst ⟨_, rfl, ?_⟩
      split
      · rename_i hk
        refine letters_ok (x := x) (fun M Q q => ⟨_, rfl, q⟩) hx (by simp) fun p2 hp2 => ⟨_, mup_lst, M, ((Le.refl M).mup hp).mup (mup_none.mp hp2).2, ?_⟩
        rw [List.all_map]
        rwa [show isName x = (x.cps.toList.all fun c => decide (c ∈ letterL)) by
          simp at h1 h6 hk
          unfold isName
          rw [decide_eq_true (show 1 ≤ x.length by omega), decide_eq_true (show x.length ≤ 6 by omega)]
          simp [hk]] at q
      · rename_i hk
        refine ⟨M, Le.new hp, ?_⟩
        rwa [show isName x = false by simp [isName] at hk ⊢; intros; contradiction] at q
    · rename_i h6
      refine ⟨M, Le.new hp, ?_⟩
      rwa [show isName x = false by simp [isName] at h6 ⊢; intros; omega] at q
  · rename_i h1
    refine ⟨M, Le.new hp, ?_⟩
    rwa [show isName x = false by simp [isName] at h1 ⊢; intros; omega] at q
/-! ### a line's names -/
def wordsOf (line : Str) : List Str := Txt.split line " "
def namesOf (line : Str) : List Str := (wordsOf line).drop 1
def bad (line head : Str) (low high : Nat) : Bool := ((wordsOf line)[0]? != some head) || (!(decide (low ≤ (namesOf line).length) && decide ((namesOf line).length ≤ high))) || (!(namesOf line).all isName)
theorem words_pos (line : Str) : ∃ w, (wordsOf line)[0]? = some w := by
  have h := split_pos line " "
  unfold wordsOf
  exact ⟨_, List.getElem?_eq_getElem (by omega)⟩
theorem names_short {line x : Str} (h : x ∈ namesOf line) : x.length ≤ line.length := part_short (List.mem_of_mem_drop h)
def namesIn (line word : Str) (low high : Nat) (used : List Str) : D := if bad line word low high = true then .non else if (namesOf line ++ used).Nodup then .tup ((namesOf line).map D.str) else .non
theorem met_eq {α : Type} [DecidableEq α] : ∀ (xs acc : List α), acc.Nodup → (xs.foldl SK.stepK acc).length ≤ acc.length + xs.length ∧ ((xs.foldl SK.stepK acc).length = acc.length + xs.length ↔ (acc ++ xs).Nodup)
  | [], acc, h => by simp [h]
  | x :: xs, acc, h => by
    by_cases hx : x ∈ acc
    · have e : SK.stepK acc x = acc := by unfold SK.stepK; rw [if_pos (by simpa using hx)]
      obtain ⟨h1, h2⟩ := met_eq xs acc h
      rw [List.foldl_cons, e]
      refine ⟨by simp; omega, ⟨fun z => by simp at z; omega, fun z => ?_⟩⟩
      rw [List.nodup_append] at z
      exact absurd rfl (z.2.2 x hx x (by simp))
    · have e : SK.stepK acc x = acc ++ [x] := by unfold SK.stepK; rw [if_neg (by simpa using hx)]
      have hn : (acc ++ [x]).Nodup := by rw [List.nodup_append]; exact ⟨h, by simp, fun a ha b hb z => by simp at hb; subst hb z; exact hx ha⟩
      obtain ⟨h1, h2⟩ := met_eq xs (acc ++ [x]) hn
      rw [List.foldl_cons, e]
      refine ⟨by simp at h1 ⊢; omega, ?_⟩
      rw [List.append_assoc] at h2
      refine ⟨fun z => h2.mp (by simp at z ⊢; omega), fun z => ?_⟩
      have := h2.mpr z
      simp at this ⊢
      omega
theorem met_nodup_iff {α : Type} [DecidableEq α] (xs : List α) : (SK.met xs).length = xs.length ↔ xs.Nodup := by
  have := (met_eq xs [] List.nodup_nil).2
  simpa [SK.met] using this
theorem met_le {α : Type} [DecidableEq α] (xs : List α) : (SK.met xs).length ≤ xs.length := by
  have := (met_eq xs [] List.nodup_nil).1
  simpa [SK.met] using this
def isNameD : D → D
  | .str x => .bl (isName x)
  | _ => .non
theorem all_names (l : List Str) : (l.map D.str).map isNameD = (l.map isName).map D.bl := by
  rw [List.map_map, List.map_map]
  rfl
def sp_names_in : Sp3 := fun ds M Q _ => ∃ (line word : Str) (low high : Nat) (used : List Str), ds = [.str line, .str word, .int low, .int high, .tup (used.map D.str)] ∧ line.length ≤ 1000 ∧ used.length ≤ 1000 ∧ Q (namesIn line word low high used) M
def r_names_in_4 : S3 := ret3 (if3 (tstB (bin3 (eq3 100 id) (lenSet3 (var3 7)) (callB3 len3 (cons3 (var3 7) (nil3))))) (callB3 tuple3 (cons3 (var3 6) (nil3))) (con3 .non))
def r_names_in_3 : S3 := seq3 (set3 (lst3 (star3 (var3 6) (star3 (var3 4) (nil3)))) 7)
  (r_names_in_4)
def r_names_in_2 : S3 := seq3 (ifS3 (or3 (tstB (bin3 (eq3 100 not) (bin3 ix3 (var3 5) (con3 (.int 0))) (var3 1))) (or3 (not3 (tstB (chain3 (cmpI3 fun i j => decide (i ≤ j)) (cmpI3 fun i j => decide (i ≤ j)) (var3 2) (callB3 len3 (cons3 (var3 6) (nil3))) (var3 3)))) (not3 (tst3 (callB3 all3 (cons3 (lc3 (ilst3 (var3 6)) (name3 8) (yes3) (call3 sp_is_name noX (cons3 (var3 8) (nil3))) [8]) (nil3))))))) (ret3 (con3 .non)) (next3))
  (r_names_in_3)
def r_names_in_1 : S3 := seq3 (set3 (slice3 (var3 5) (part3 (con3 (.int 1))) noP3) 6)
  (r_names_in_2)
def r_names_in : S3 := seq3 (set3 (split3 (var3 0) (con3 (.str (" " : Str)))) 5)
  (r_names_in_1)
theorem vc_names_in {ds : List D} {M : HM} {Q : K3} {EX : X3} (h : sp_names_in ds M Q EX) : r_names_in (ends3 Q) (start3 ["line", "word", "low", "high", "used", "words", "names", "every", "name"] ds) M := by
  obtain ⟨line, word, low, high, used, rfl, hl, hu, q⟩ := h
  show r_names_in (ends3 Q) [some (.str line), some (.str word), some (.int low), some (.int high), some (.tup (used.map D.str)), none, none, none, none] M
  unfold r_names_in
  walk_at "vc"
  refine ⟨by decide, by rw [sizeLine_eq]; omega, fun p1 hp1 => ?_⟩
  unfold r_names_in_1
  walk_at "vc"
  refine s_cut mup_lst fun p2 hp2 => ?_
  obtain ⟨p21, p2M⟩ := mup_none.mp hp2
  unfold r_names_in_2
  walk_at "vc"
  rw [tail_cut, ← List.map_drop]
  show ix3 (.ref p1) (.int 0) (mup (mup M p1 (.lst ((wordsOf line).map D.str))) p2 (.lst ((namesOf line).map D.str))) _
  obtain ⟨w, hw⟩ := words_pos line
  have lW : (namesOf line).length ≤ 1002 := by
    have := split_le line " "
    unfold namesOf wordsOf
    rw [List.length_drop]
    omega
  have le2 : Le M (mup (mup M p1 (.lst ((wordsOf line).map D.str))) p2 (.lst ((namesOf line).map D.str))) := ((Le.refl M).mup hp1).mup p2M
  generalize hM2 : mup (mup M p1 (.lst ((wordsOf line).map D.str))) p2 (.lst ((namesOf line).map D.str)) = M2 at le2 ⊢
  have g1 : M2 p1 = some (.lst ((wordsOf line).map D.str)) := by rw [← hM2, mup_ne p21.symm, mup_same]
  have g2 : M2 p2 = some (.lst ((namesOf line).map D.str)) := by rw [← hM2, mup_same]
  refine s_ix (.inl g1) (d := .str w) (by rw [show (0 : Int) = ((0 : Nat) : Int) from rfl, atI_n, List.getElem?_map, hw]; rfl) ?_
  walk_at "vc"
  refine eq_strs (by decide) ⟨_, rfl, ?_⟩
  have nonE : bad line word low high = true → (∃ M0, Le M0 M2 ∧ Q .non M0) := fun hb => ⟨M, le2, by rw [namesIn, if_pos hb] at q; exact q⟩
  have hb0 : (((wordsOf line)[0]? != some word) = !(w == word)) := by
    rw [hw]
    rfl
  split
  · rename_i h1
    have h1 : w ≠ word := by simpa using h1
    refine nonE ?_
    unfold bad
    rw [hb0]
    simp only [Bool.or_eq_true]
    exact .inl (.inl (by simpa using h1))
  · rename_i h1
    have h1 : w = word := by simpa using h1
    refine s_len (.inl g2) ?_
    walk_at "vc"
    rw [List.length_map]
    split
    · rename_i h2
      split
      · rename_i h3
        refine nonE ?_
        unfold bad
        rw [hb0]
        simp at h3 ⊢
        exact .inl (.inr (by omega))
      · rename_i h3
        have h3 : (namesOf line).length ≤ high := by simp at h3; omega
        refine lc_pure (ds := (namesOf line).map D.str) (stays := fun M => LstAt M p2 ((namesOf line).map D.str)) isNameD (fun R hR => ⟨_, rfl, p2, _, rfl, .inl g2, hR⟩) (by rw [List.length_map, sizeLine_eq]; omega) (fun p acc hp => LstAt.up (.inl g2) hp) (fun d hd p acc Q' hp hq => ?_) (fun p3 hp3 => ?_)
        · obtain ⟨x, hx, rfl⟩ := List.mem_map.mp hd
          exact ⟨.str x, rfl, x, rfl, by have := names_short hx; rw [sizeLine_eq]; omega, hq⟩
        · rw [all_names]
          refine s_all mup_lst ?_
          walk_at "vc"
          have ball : ((namesOf line).map isName).all (fun b => b) = (namesOf line).all isName := by rw [List.all_map]; rfl
          rw [ball]
          have le3 := le2.mup (p := p3) (o := .lst (((namesOf line).map isName).map D.bl)) (le2.none hp3)
          split
          · rename_i h4
            obtain ⟨M0, l0, q0⟩ := nonE (by
              unfold bad
              rw [hb0]
              simp only [Bool.or_eq_true]
              exact .inr h4)
            exact ⟨M0, l0.mup (l0.none hp3), q0⟩
          · rename_i h4
            have good : bad line word low high = false := by
              unfold bad
              rw [hb0, Bool.eq_false_iff]
              intro z
              simp only [Bool.or_eq_true] at z
              rcases z with (z | z) | z
              · simp [h1] at z
              · simp at z; omega
              · exact h4 z
            unfold namesIn at q
            rw [good] at q
            simp only [Bool.false_eq_true, if_false] at q
            generalize hM3 : mup M2 p3 (.lst (((namesOf line).map isName).map D.bl)) = M3 at le3 ⊢
            have g3 : M3 p2 = some (.lst ((namesOf line).map D.str)) := by
              rw [← hM3, mup_ne (fun z => by rw [z, hp3] at g2; cases g2)]
              exact g2
            unfold r_names_in_3
            walk_at "vc"
            refine ⟨_, .inl g3, _, .inl rfl, ?_, fun p4 hp4 => ?_⟩
            · simp [sizeLine_eq]; omega
            unfold r_names_in_4
            walk_at "vc"
            rw [List.append_nil, ← List.map_append]
            refine ⟨namesOf line ++ used, mup_lst, by rw [List.length_append]; omega, s_len mup_lst ?_⟩
            rw [List.length_map]
            refine eq_ints ⟨_, rfl, ?_⟩
            have le4 := le3.mup (p := p4) (o := .lst ((namesOf line ++ used).map D.str)) (le3.none hp4)
            have g4 : mup M3 p4 (.lst ((namesOf line ++ used).map D.str)) p2 = some (.lst ((namesOf line).map D.str)) := by
              rw [mup_ne (fun z => by rw [z, hp4] at g3; cases g3)]
              exact g3
            split
            · rename_i h5
              have h5 : (SK.met (namesOf line ++ used)).length = (namesOf line ++ used).length := by have z := eq_of_beq h5; exact_mod_cast z
              rw [if_pos ((met_nodup_iff _).mp h5)] at q
              exact s_tuple (.inl g4) ⟨M, le4, q⟩
            · rename_i h5
              have h5 : ¬ (SK.met (namesOf line ++ used)).length = (namesOf line ++ used).length := fun z => h5 (by rw [z]; exact beq_self_eq_true _)
              rw [if_neg (fun z => h5 ((met_nodup_iff _).mpr z))] at q
              exact ⟨M, le4, q⟩
    · rename_i h2
      refine nonE ?_
      unfold bad
      rw [hb0]
      simp at h2 ⊢
      exact .inl (.inr (by omega))
end Wd
end

section
set_option Elab.async false
set_option linter.all false
set_option maxRecDepth 100000
set_option maxHeartbeats 400000
namespace Wd
open PySem PySem.Spec PyProof.Rows L2 L3
local macro_rules | `(tactic| walk_at "vc") => `(tactic| try simp only [seq3, ifS3, or3, and3, not3, tst3, tstB, callB3, cons3, nil3, con3, var3, bin3, chain3, un3, set3, ret3, retN3, next3, drop3, asg3, par3, name3, gtup3, gcons3, gnil3, gsub3, if3, andV3, orV3, notV3, tup3, lst3, part3, noP3, slice3, split3, join3, append3, popAt3, dget3, star3, lenSet3, rev3, disp3, dnew3, pairs3, call3, make3, aug3, yes3, r1_3, lstRg3, ends3,
  e_cmpI, e_addI, e_addS, e_addT, e_sub, e_mul, e_mod, e_fdiv, e_pow, e_isN, e_lenS, e_lenT, e_intI, e_intB, e_abs, e_max, e_min, e_tupT, e_truB, e_truN, e_truI, e_nonN, e_nonI, e_nonB, e_nonS, e_nonT, e_nonR,
  List.getElem?_cons_zero, List.getElem?_cons_succ, List.set_cons_zero, List.set_cons_succ, Option.some.injEq, exists_eq_left', exists_eq_left, exists_and_left, D.bl.injEq, D.int.injEq, D.str.injEq, D.ref.injEq, D.tup.injEq, List.cons.injEq, and_true, true_and, if_true, if_false, Bool.false_eq_true, reduceCtorEq, false_and, and_false, false_or, or_false, Bool.not_true, Bool.not_false, id, decide_eq_true_eq])
/-! ### what is wrong with a text, by the law's own look -/
def badW (ws : List Str) (head : Str) (low high : Nat) : Bool := (ws[0]? != some head) || (!(decide (low ≤ (ws.drop 1).length) && decide ((ws.drop 1).length ≤ high))) || (!(ws.drop 1).all isName)
theorem bad_is (line head : Str) (low high : Nat) : bad line head low high = badW (wordsOf line) head low high := rfl
def lineBad (ls : List Str) (k : Nat) (head : Str) (low high : Nat) (used : List Str) : Bool := match ls[k]? with
  | none => true
  | some l => bad l head low high || !decide ((used ++ namesOf l).Nodup)
def linesOf (text : Str) : List Str := Txt.split text "\n"
def wrongOf (text : Str) : D := if lineBad (linesOf text) 0 "conditions" 0 3 [] = true then .int 1 else if lineBad (linesOf text) 1 "deeds" 1 4 (namesOf ((linesOf text).getD 0 "")) = true then .int 2 else if (linesOf text).length > 2 then .int 3 else .non
def sp_law_wrong : Sp3 := fun ds M Q _ => ∃ text : Str, ds = [.str text] ∧ text.length ≤ 900 ∧ Q (wrongOf text) M
def r_law_wrong_1b_4 : S3 := ifS3 (tstB (bin3 (cmpI3 fun i j => decide (i < j)) (lenSet3 (var3 2)) (callB3 len3 (cons3 (var3 2) (nil3))))) (ret3 (bin3 add3 (var3 3) (con3 (.int 1)))) (next3)
def r_law_wrong_1b_3 : S3 := seq3 (set3 (bin3 add3 (var3 2) (var3 8)) 2)
  (r_law_wrong_1b_4)
def r_law_wrong_1b_2 : S3 := seq3 (ifS3 (or3 (tstB (bin3 (eq3 100 not) (bin3 ix3 (var3 7) (con3 (.int 0))) (var3 4))) (or3 (not3 (tstB (chain3 (cmpI3 fun i j => decide (i ≤ j)) (cmpI3 fun i j => decide (i ≤ j)) (var3 5) (callB3 len3 (cons3 (var3 8) (nil3))) (var3 6)))) (not3 (tst3 (callB3 all3 (cons3 (lc3 (ilst3 (var3 8)) (name3 9) (yes3) (call3 sp_law_is_name noX (cons3 (var3 9) (nil3))) [9]) (nil3))))))) (ret3 (bin3 add3 (var3 3) (con3 (.int 1)))) (next3))
  (r_law_wrong_1b_3)
def r_law_wrong_1b_1 : S3 := seq3 (set3 (slice3 (var3 7) (part3 (con3 (.int 1))) noP3) 8)
  (r_law_wrong_1b_2)
def r_law_wrong_1b : S3 := seq3 (set3 (if3 (tstB (bin3 (cmpI3 fun i j => decide (i < j)) (var3 3) (callB3 len3 (cons3 (var3 1) (nil3))))) (split3 (bin3 ix3 (var3 1) (var3 3)) (con3 (.str (" " : Str)))) (lst3 (cons3 (con3 (.str ("" : Str))) (nil3)))) 7)
  (r_law_wrong_1b_1)
def r_law_wrong_2 : S3 := ret3 (if3 (tstB (bin3 (cmpI3 fun i j => decide (j < i)) (callB3 len3 (cons3 (var3 1) (nil3))) (con3 (.int 2)))) (con3 (.int 3)) (con3 .non))
def r_law_wrong_1 : S3 := seq3 (for3 (ienum3 (cons3 (lst3 (cons3 (tup3 (cons3 (con3 (.str ("conditions" : Str))) (cons3 (con3 (.int 0)) (cons3 (con3 (.int 3)) (nil3))))) (cons3 (tup3 (cons3 (con3 (.str ("deeds" : Str))) (cons3 (con3 (.int 1)) (cons3 (con3 (.int 4)) (nil3))))) (nil3)))) (nil3))) (gtup3 2 (gcons3 (name3 3) (gcons3 (gtup3 3 (gcons3 (name3 4) (gcons3 (name3 5) (gcons3 (name3 6) (gnil3))))) (gnil3)))) (r_law_wrong_1b))
  (r_law_wrong_2)
def r_law_wrong : S3 := seq3 (par3 1 2 (cons3 (split3 (var3 0) (con3 (.str ("\n" : Str)))) (cons3 (lst3 (nil3)) (nil3))))
  (r_law_wrong_1)
theorem body1 {D : End3} {M : HM} {t x8 x9 : Option L3.D} {p1 u w : Addr} {k low high : Nat} {head w0 : Str} {us ws : List Str} (hu : M u = some (.lst (us.map L3.D.str))) (hw : M w = some (.lst (ws.map L3.D.str))) (h0 : ws[0]? = some w0) (lw : ws.length ≤ 2000) (lu : us.length ≤ 1000) (sh : ∀ x ∈ ws, x.length ≤ sizeLine)
    (wrong : (badW ws head low high || !decide ((us ++ ws.drop 1).Nodup)) = true → ∀ M', Le M M' → D.rt (.int (k + 1 : Nat)) M')
    (right : (badW ws head low high || !decide ((us ++ ws.drop 1).Nodup)) = false → ∀ M' u' y7 y8 y9, Le M M' → M u' = none → M' u' = some (.lst ((us ++ ws.drop 1).map L3.D.str)) → D.nx [t, some (.ref p1), some (.ref u'), some (.int k), some (.str head), some (.int low), some (.int high), y7, y8, y9] M') :
    r_law_wrong_1b_1 D [t, some (.ref p1), some (.ref u), some (.int k), some (.str head), some (.int low), some (.int high), some (.ref w), x8, x9] M := by
  unfold r_law_wrong_1b_1
  walk_at "vc"
  refine s_cut (.inl hw) fun p2 hp2 => ?_
  rw [tail_cut, ← List.map_drop]
  have le2 : Le M (mup M p2 (.lst ((ws.drop 1).map L3.D.str))) := Le.new hp2
  generalize hM2 : mup M p2 (.lst ((ws.drop 1).map L3.D.str)) = M2 at le2 ⊢
  have g2 : M2 p2 = some (.lst ((ws.drop 1).map L3.D.str)) := by rw [← hM2, mup_same]
  unfold r_law_wrong_1b_2
  walk_at "vc"
  refine s_ix (.inl (le2 _ _ hw)) (d := .str w0) (by rw [show (0 : Int) = ((0 : Nat) : Int) from rfl, atI_n, List.getElem?_map, h0]; rfl) ?_
  walk_at "vc"
  refine eq_strs (by decide) ⟨_, rfl, ?_⟩
  have wrongB : badW ws head low high = true → ∀ M', Le M M' → D.rt (.int ((k : Int) + 1)) M' := fun hb M' l => by
    have := wrong (by rw [hb]; rfl) M' l
    simpa using this
  have hb0 : (ws[0]? != some head) = !(w0 == head) := by rw [h0]; rfl
  split
  · rename_i h1
    walk_at "vc"
    refine wrongB ?_ _ le2
    unfold badW
    rw [hb0]
    simp only [Bool.or_eq_true]
    exact .inl (.inl h1)
  · rename_i h1
    have h1 : w0 = head := by simpa using h1
    refine s_len (.inl g2) ?_
    walk_at "vc"
    rw [List.length_map]
    have lW : (ws.drop 1).length ≤ 2000 := by rw [List.length_drop]; omega
    split
    · rename_i h2
      split
      · rename_i h3
        refine wrongB ?_ _ le2
        unfold badW
        rw [hb0]
        simp at h3 ⊢
        exact .inl (.inr (by omega))
      · rename_i h3
        have h3 : (ws.drop 1).length ≤ high := by simp at h3 ⊢; omega
        refine lc_pure (ds := (ws.drop 1).map L3.D.str) (stays := fun M => LstAt M p2 ((ws.drop 1).map L3.D.str)) isNameD (fun R hR => ⟨_, rfl, p2, _, rfl, .inl g2, hR⟩) (by rw [List.length_map, sizeLine_eq]; omega) (fun p acc hp => LstAt.up (.inl g2) hp) (fun d hd p acc Q' hp hq => ?_) (fun p3 hp3 => ?_)
        · obtain ⟨x, hx, rfl⟩ := List.mem_map.mp hd
          exact ⟨.str x, rfl, x, rfl, sh x (List.mem_of_mem_drop hx), hq⟩
        · rw [all_names]
          refine s_all mup_lst ?_
          walk_at "vc"
          have ball : ((ws.drop 1).map isName).all (fun b => b) = (ws.drop 1).all isName := by rw [List.all_map]; rfl
          rw [ball]
          have le3 := le2.mup (p := p3) (o := .lst (((ws.drop 1).map isName).map L3.D.bl)) (le2.none hp3)
          split
          · rename_i h4
            refine wrongB ?_ _ le3
            unfold badW
            rw [hb0]
            simp only [Bool.or_eq_true]
            exact .inr h4
          · rename_i h4
            have good : badW ws head low high = false := by
              unfold badW
              rw [hb0, Bool.eq_false_iff]
              intro z
              simp only [Bool.or_eq_true] at z
              rcases z with (z | z) | z
              · simp [h1] at z
              · simp at z h2 h3; omega
              · exact h4 z
            rw [good] at wrong right
            generalize hM3 : mup M2 p3 (.lst (((ws.drop 1).map isName).map L3.D.bl)) = M3 at le3 ⊢
            have g3 : M3 p2 = some (.lst ((ws.drop 1).map L3.D.str)) := by
              rw [← hM3, mup_ne (fun z => by rw [z, hp3] at g2; cases g2)]
              exact g2
            unfold r_law_wrong_1b_3
            walk_at "vc"
            refine s_cat (le3 _ _ hu) g3 (by simp [sizeLine_eq]; omega) fun p4 hp4 => ?_
            rw [← List.map_append]
            have le4 := le3.mup (p := p4) (o := .lst ((us ++ ws.drop 1).map L3.D.str)) (le3.none hp4)
            unfold r_law_wrong_1b_4
            walk_at "vc"
            refine ⟨us ++ ws.drop 1, mup_lst, by rw [List.length_append]; omega, s_len mup_lst ?_⟩
            walk_at "vc"
            rw [List.length_map]
            have hle := met_le (us ++ ws.drop 1)
            split
            · rename_i h5
              have := wrong (by
                rw [Bool.false_or, Bool.not_eq_true', decide_eq_false_iff_not, ← met_nodup_iff]
                omega) _ le4
              simpa using this
            · rename_i h5
              exact right (by
                rw [Bool.false_or, Bool.not_eq_false', decide_eq_true_eq, ← met_nodup_iff]
                omega) _ p4 _ _ _ le4 (le3.none hp4) mup_same
    · rename_i h2
      refine wrongB ?_ _ le2
      unfold badW
      rw [hb0]
      simp at h2 ⊢
      exact .inl (.inr (by omega))
end Wd
end

section
set_option Elab.async false
set_option linter.all false
set_option maxRecDepth 100000
set_option maxHeartbeats 400000
namespace Wd
open PySem PySem.Spec PyProof.Rows L2 L3
local macro_rules | `(tactic| walk_at "vc") => `(tactic| try simp only [seq3, ifS3, or3, and3, not3, tst3, tstB, callB3, cons3, nil3, con3, var3, bin3, chain3, un3, set3, ret3, retN3, next3, drop3, asg3, par3, name3, gtup3, gcons3, gnil3, gsub3, if3, andV3, orV3, notV3, tup3, lst3, part3, noP3, slice3, split3, join3, append3, popAt3, dget3, star3, lenSet3, rev3, disp3, dnew3, pairs3, call3, make3, aug3, yes3, r1_3, lstRg3, ends3,
  e_cmpI, e_addI, e_addS, e_addT, e_sub, e_mul, e_mod, e_fdiv, e_pow, e_isN, e_lenS, e_lenT, e_intI, e_intB, e_abs, e_max, e_min, e_tupT, e_truB, e_truN, e_truI, e_nonN, e_nonI, e_nonB, e_nonS, e_nonT, e_nonR,
  List.getElem?_cons_zero, List.getElem?_cons_succ, List.set_cons_zero, List.set_cons_succ, Option.some.injEq, exists_eq_left', exists_eq_left, exists_and_left, D.bl.injEq, D.int.injEq, D.str.injEq, D.ref.injEq, D.tup.injEq, List.cons.injEq, and_true, true_and, if_true, if_false, Bool.false_eq_true, reduceCtorEq, false_and, and_false, false_or, or_false, Bool.not_true, Bool.not_false, id, decide_eq_true_eq])
theorem words_len (l : Str) : (wordsOf l).length ≤ l.length + 2 := split_le l " "
theorem words_short {l x : Str} (h : x ∈ wordsOf l) : x.length ≤ l.length := part_short h
theorem body0 {D : End3} {M : HM} {t x7 x8 x9 : Option L3.D} {p1 u : Addr} {k low high : Nat} {head : Str} {us ls : List Str} (h1 : M p1 = some (.lst (ls.map L3.D.str))) (hu : M u = some (.lst (us.map L3.D.str))) (lu : us.length ≤ 1000) (sh : ∀ x ∈ ls, x.length ≤ 1000) (hh : head ≠ "")
    (wrong : lineBad ls k head low high us = true → ∀ M', Le M M' → D.rt (.int (k + 1 : Nat)) M')
    (right : lineBad ls k head low high us = false → ∀ l, ls[k]? = some l → ∀ M' u' y7 y8 y9, Le M M' → M u' = none → M' u' = some (.lst ((us ++ namesOf l).map L3.D.str)) → D.nx [t, some (.ref p1), some (.ref u'), some (.int k), some (.str head), some (.int low), some (.int high), y7, y8, y9] M') :
    r_law_wrong_1b D [t, some (.ref p1), some (.ref u), some (.int k), some (.str head), some (.int low), some (.int high), x7, x8, x9] M := by
  unfold r_law_wrong_1b
  walk_at "vc"
  refine s_len (.inl h1) ?_
  walk_at "vc"
  rw [List.length_map]
  split
  · rename_i hk
    have hk : k < ls.length := by omega
    have e : ls[k]? = some ls[k] := List.getElem?_eq_getElem hk
    have hl := sh _ (List.getElem_mem hk)
    refine s_ix (.inl h1) (d := .str ls[k]) (by rw [atI_n, List.getElem?_map, e]; rfl) ?_
    refine ⟨_, rfl, by decide, by rw [sizeLine_eq]; omega, fun w hw => ?_⟩
    have le1 : Le M (mup M w (.lst ((wordsOf ls[k]).map L3.D.str))) := Le.new hw
    obtain ⟨w0, h0⟩ := words_pos ls[k]
    refine body1 (ws := wordsOf ls[k]) (le1 _ _ hu) mup_same h0 (by have := words_len ls[k]; omega) lu (fun x hx => by have := words_short hx; rw [sizeLine_eq]; omega) (fun hb M' l => ?_) (fun hb M' u' y7 y8 y9 l n g => ?_)
    · exact wrong (by unfold lineBad; rw [e]; exact hb) M' (le1.trans l)
    · exact right (by unfold lineBad; rw [e]; exact hb) _ e M' u' y7 y8 y9 (le1.trans l) (le1.none n) g
  · rename_i hk
    have hk : ¬ k < ls.length := by omega
    have e : ls[k]? = none := List.getElem?_eq_none_iff.mpr (by omega)
    refine ⟨by simp [sizeLine_eq], fun w hw => ?_⟩
    have le1 : Le M (mup M w (.lst [.str ""])) := Le.new hw
    have hb : lineBad ls k head low high us = true := by unfold lineBad; rw [e]
    refine body1 (ws := [""]) (le1 _ _ hu) mup_same rfl (by simp) lu (fun x hx => by simp at hx; subst hx; rw [sizeLine_eq]; decide) (fun _ M' l => wrong hb M' (le1.trans l)) (fun hb' => ?_)
    have : badW [""] head low high = true := by
      unfold badW
      simp only [Bool.or_eq_true]
      refine .inl (.inl ?_)
      show (!(some ("" : Str) == some head)) = true
      have : (("" : Str) == head) = false := by
        cases q : (("" : Str) == head) with
        | false => rfl
        | true => exact absurd (eq_of_beq q).symm hh
      show (!(("" : Str) == head)) = true
      rw [this]
      rfl
    rw [this] at hb'
    cases hb'
theorem lines_len (text : Str) : (linesOf text).length ≤ text.length + 2 := split_le text "\n"
theorem lines_short {l text : Str} (h : l ∈ linesOf text) : l.length ≤ text.length := part_short h
theorem names_len (l : Str) : (namesOf l).length ≤ l.length + 2 := by
  have := words_len l
  unfold namesOf
  rw [List.length_drop]
  omega
theorem vc_law_wrong {ds : List D} {M : HM} {Q : K3} {EX : X3} (h : sp_law_wrong ds M Q EX) : r_law_wrong (ends3 Q) (start3 ["text", "lines", "used", "number", "head", "low", "high", "words", "names", "name"] ds) M := by
  obtain ⟨text, rfl, hl, q⟩ := h
  show r_law_wrong (ends3 Q) [some (.str text), none, none, none, none, none, none, none, none, none] M
  unfold r_law_wrong
  walk_at "vc"
  refine ⟨by decide, by rw [sizeLine_eq]; omega, fun p1 hp1 => ?_⟩
  refine ⟨by simp [sizeLine_eq], fun u hu => ⟨_, _, ⟨rfl, rfl⟩, ?_⟩⟩
  walk_at "vc"
  obtain ⟨u1, uM⟩ := mup_none.mp hu
  show r_law_wrong_1 _ _ (mup (mup M p1 (.lst ((linesOf text).map D.str))) u (.lst (([] : List Str).map D.str)))
  have le2 : Le M (mup (mup M p1 (.lst ((linesOf text).map D.str))) u (.lst (([] : List Str).map D.str))) := ((Le.refl M).mup hp1).mup uM
  generalize hM2 : mup (mup M p1 (.lst ((linesOf text).map D.str))) u (.lst (([] : List Str).map D.str)) = M2 at le2 ⊢
  have g1 : M2 p1 = some (.lst ((linesOf text).map D.str)) := by rw [← hM2, mup_ne u1.symm, mup_same]
  have gu : M2 u = some (.lst (([] : List Str).map D.str)) := by rw [← hM2, mup_same]
  unfold r_law_wrong_1
  refine ⟨by simp [sizeLine_eq], by simp [sizeLine_eq], by simp [sizeLine_eq], fun a ha => ⟨a, _, rfl, mup_lst, ?_⟩⟩
  have le3 := le2.mup (p := a) (o := .lst [.tup [.str "conditions", .int 0, .int 3], .tup [.str "deeds", .int 1, .int 4]]) (le2.none ha)
  have n1 : p1 ≠ a := fun z => by rw [z, ha] at g1; cases g1
  have nu : u ≠ a := fun z => by rw [z, ha] at gu; cases gu
  have g1 : mup M2 a (.lst [.tup [.str "conditions", .int 0, .int 3], .tup [.str "deeds", .int 1, .int 4]]) p1 = some (.lst ((linesOf text).map D.str)) := by rw [mup_ne n1]; exact g1
  have gu : mup M2 a (.lst [.tup [.str "conditions", .int 0, .int 3], .tup [.str "deeds", .int 1, .int 4]]) u = some (.lst (([] : List Str).map D.str)) := by rw [mup_ne nu]; exact gu
  have ga : mup M2 a (.lst [.tup [.str "conditions", .int 0, .int 3], .tup [.str "deeds", .int 1, .int 4]]) a = some (.lst [.tup [.str "conditions", .int 0, .int 3], .tup [.str "deeds", .int 1, .int 4]]) := mup_same
  generalize mup M2 a (.lst [.tup [.str "conditions", .int 0, .int 3], .tup [.str "deeds", .int 1, .int 4]]) = M3 at *
  have sh : ∀ x ∈ linesOf text, x.length ≤ 1000 := fun x hx => by have := lines_short hx; omega
  refine ⟨.inl ga, ?_⟩
  refine ⟨_, rfl, rfl, _, _, rfl, _, _, rfl, ⟨_, rfl, rfl, _, _, rfl, _, _, rfl, _, _, rfl, rfl, rfl, ?_⟩⟩
  refine body0 (k := 0) (low := 0) (high := 3) (us := []) (head := "conditions") g1 gu (by simp) sh (by decide) (fun hb M' l => ?_) (fun hb l el M' u' y7 y8 y9 le n g => ?_)
  · refine ⟨M, le3.trans l, ?_⟩
    unfold wrongOf at q
    rw [if_pos hb] at q
    exact q
  · unfold wrongOf at q
    rw [if_neg (by rw [hb]; decide)] at q
    refine ⟨.inl (le _ _ ga), ?_⟩
    refine ⟨_, rfl, rfl, _, _, rfl, _, _, rfl, ⟨_, rfl, rfl, _, _, rfl, _, _, rfl, _, _, rfl, rfl, rfl, ?_⟩⟩
    have e0 : (linesOf text).getD 0 "" = l := by rw [List.getD_eq_getElem?_getD, el]; rfl
    rw [e0] at q
    have ml : l ∈ linesOf text := List.mem_of_getElem? el
    refine body0 (k := 1) (low := 1) (high := 4) (us := namesOf l) (head := "deeds") (le _ _ g1) g (by have := names_len l; have := lines_short ml; omega) sh (by decide) (fun hb M'' l' => ?_) (fun hb l2 el2 M'' u'' z7 z8 z9 le' n' g' => ?_)
    · refine ⟨M, le3.trans (le.trans l'), ?_⟩
      rw [if_pos hb] at q
      exact q
    · rw [if_neg (by rw [hb]; decide)] at q
      refine ⟨.inl (le' _ _ (le _ _ ga)), ?_⟩
      unfold r_law_wrong_2
      walk_at "vc"
      refine s_len (.inl (le' _ _ (le _ _ g1))) ?_
      walk_at "vc"
      rw [List.length_map]
      split
      · rename_i h5
        rw [if_pos (by omega)] at q
        exact ⟨M, le3.trans (le.trans le'), q⟩
      · rename_i h5
        rw [if_neg (by omega)] at q
        exact ⟨M, le3.trans (le.trans le'), q⟩
end Wd
end

section
set_option Elab.async false
set_option linter.all false
set_option maxRecDepth 100000
set_option maxHeartbeats 400000
namespace Wd
open PySem PySem.Spec PyProof.Rows L2 L3
local macro_rules | `(tactic| walk_at "vc") => `(tactic| try simp only [seq3, ifS3, or3, and3, not3, tst3, tstB, callB3, cons3, nil3, con3, var3, bin3, chain3, un3, set3, ret3, retN3, next3, drop3, asg3, par3, name3, gtup3, gcons3, gnil3, gsub3, if3, andV3, orV3, notV3, tup3, lst3, part3, noP3, slice3, split3, join3, append3, popAt3, dget3, star3, lenSet3, rev3, disp3, dnew3, pairs3, call3, make3, aug3, yes3, r1_3, lstRg3, ends3,
  e_cmpI, e_addI, e_addS, e_addT, e_sub, e_mul, e_mod, e_fdiv, e_pow, e_isN, e_lenS, e_lenT, e_intI, e_intB, e_abs, e_max, e_min, e_tupT, e_truB, e_truN, e_truI, e_nonN, e_nonI, e_nonB, e_nonS, e_nonT, e_nonR,
  List.getElem?_cons_zero, List.getElem?_cons_succ, List.set_cons_zero, List.set_cons_succ, Option.some.injEq, exists_eq_left', exists_eq_left, exists_and_left, D.bl.injEq, D.int.injEq, D.str.injEq, D.ref.injEq, D.tup.injEq, List.cons.injEq, and_true, true_and, if_true, if_false, Bool.false_eq_true, reduceCtorEq, false_and, and_false, false_or, or_false, Bool.not_true, Bool.not_false, id, decide_eq_true_eq])
structure Ad where
  f_is_name : Addr
  d_is_name : FuncData
  f_names_in : Addr
  d_names_in : FuncData
  f_law_pot : Addr
  d_law_pot : FuncData
  f_law_take : Addr
  d_law_take : FuncData
  f_law_of : Addr
  d_law_of : FuncData
  f_law_cells : Addr
  d_law_cells : FuncData
  f_law_some : Addr
  d_law_some : FuncData
  f_law_heard : Addr
  d_law_heard : FuncData
  f_law_tongue : Addr
  d_law_tongue : FuncData
  f_law_tongue_text : Addr
  d_law_tongue_text : FuncData
  f_law_is_name : Addr
  d_law_is_name : FuncData
  f_law_wrong : Addr
  d_law_wrong : FuncData
  f_law_near : Addr
  d_law_near : FuncData
  f_law_is_read : Addr
  d_law_is_read : FuncData
  f_law_right : Addr
  d_law_right : FuncData
  f_law : Addr
  d_law : FuncData
  f_Tongue_init : Addr
  d_Tongue_init : FuncData
  f_Tongue_text : Addr
  d_Tongue_text : FuncData
  f_Tongue_conditions : Addr
  d_Tongue_conditions : FuncData
  f_Tongue_deeds : Addr
  d_Tongue_deeds : FuncData
  f_Tongue_atoms : Addr
  d_Tongue_atoms : FuncData
  f_Tongue_eq : Addr
  d_Tongue_eq : FuncData
  c_DeedError : Addr
  c_BadTongue : Addr
  c_Tongue : Addr
  kept : Addr
  pd_own_conditions : Addr
  pd_own_deeds : Addr
  pd_own_text : Addr
  po_text : Addr
  po_conditions : Addr
  po_deeds : Addr
  po_atoms : Addr
  fI : Addr
  cc : Addr
  cda : Addr
  ko_read : Addr
  kt_read : Addr
  ko_right : Addr
  kt_right : Addr
/-! ### Tongue -/
def partOf (line head : Str) (low high : Nat) (used : List Str) : Option (List Str) := if bad line head low high = true then none else if (namesOf line ++ used).Nodup then some (namesOf line) else none
theorem namesIn_part (line head : Str) (low high : Nat) (used : List Str) : namesIn line head low high used = match partOf line head low high used with | none => .non | some ns => .tup (ns.map D.str) := by
  unfold namesIn partOf
  split
  · rfl
  · split <;> rfl
def progOf (text : Str) : Sum Int (List Str × List Str) := match partOf ((linesOf text).getD 0 "") "conditions" 0 3 [] with
  | none => .inl 1
  | some cs => match (if (linesOf text).length > 1 then partOf ((linesOf text).getD 1 "") "deeds" 1 4 cs else none) with
    | none => .inl 2
    | some es => if (linesOf text).length > 2 then .inl 3 else .inr (cs, es)
def slotsOf (text : Str) (cs es : List Str) : StD := [some (.tup (cs.map D.str)), some (.tup (es.map D.str)), some (.str text)]
def sp_init (K : PySem.W.Frag) (a : Ad) : Sp3 := fun ds M Q EX => ∃ (x : Addr) (d : D), ds = [.ref x, d] ∧ M x = some (.sl a.c_Tongue []) ∧ ((∃ t : String, TyD K M d (.type t) ∧ kitB t "str" = some false ∧ ∀ M', Le M M' → EX a.c_BadTongue (.int 0) M') ∨
  ∃ text, d = .str text ∧ text.length ≤ 900 ∧ ((∃ k, progOf text = .inl k ∧ ∀ M', Le M M' → EX a.c_BadTongue (.int k) M') ∨ ∃ cs es, progOf text = .inr (cs, es) ∧ Q .non (mup M x (.sl a.c_Tongue (slotsOf text cs es)))))
def r_Tongue_init_7 (K : PySem.W.Frag) (a : Ad) (EX : X3) : S3 := asg3 (tup3 (cons3 (var3 1) (cons3 (var3 3) (cons3 (var3 4) (nil3))))) (gtup3 3 (gcons3 (gslot3 a.c_Tongue 2 (var3 0)) (gcons3 (gslot3 a.c_Tongue 0 (var3 0)) (gcons3 (gslot3 a.c_Tongue 1 (var3 0)) (gnil3)))))
def r_Tongue_init_6 (K : PySem.W.Frag) (a : Ad) (EX : X3) : S3 := seq3 (ifS3 (tstB (bin3 (cmpI3 fun i j => decide (j < i)) (callB3 len3 (cons3 (var3 2) (nil3))) (con3 (.int 2)))) (raise3 a.c_BadTongue EX (cons3 (bin3 add3 (con3 (.int 2)) (con3 (.int 1))) (nil3))) (next3))
  (r_Tongue_init_7 K a EX)
def r_Tongue_init_5 (K : PySem.W.Frag) (a : Ad) (EX : X3) : S3 := seq3 (ifS3 (tstB (bin3 (isN3 id) (var3 4) (con3 .non))) (raise3 a.c_BadTongue EX (cons3 (con3 (.int 2)) (nil3))) (next3))
  (r_Tongue_init_6 K a EX)
def r_Tongue_init_4 (K : PySem.W.Frag) (a : Ad) (EX : X3) : S3 := seq3 (set3 (if3 (tstB (bin3 (cmpI3 fun i j => decide (j < i)) (callB3 len3 (cons3 (var3 2) (nil3))) (con3 (.int 1)))) (call3 sp_names_in noX (cons3 (bin3 ix3 (var3 2) (con3 (.int 1))) (cons3 (con3 (.str ("deeds" : Str))) (cons3 (con3 (.int 1)) (cons3 (con3 (.int 4)) (cons3 (var3 3) (nil3))))))) (con3 .non)) 4)
  (r_Tongue_init_5 K a EX)
def r_Tongue_init_3 (K : PySem.W.Frag) (a : Ad) (EX : X3) : S3 := seq3 (ifS3 (tstB (bin3 (isN3 id) (var3 3) (con3 .non))) (raise3 a.c_BadTongue EX (cons3 (con3 (.int 1)) (nil3))) (next3))
  (r_Tongue_init_4 K a EX)
def r_Tongue_init_2 (K : PySem.W.Frag) (a : Ad) (EX : X3) : S3 := seq3 (set3 (call3 sp_names_in noX (cons3 (bin3 ix3 (var3 2) (con3 (.int 0))) (cons3 (con3 (.str ("conditions" : Str))) (cons3 (con3 (.int 0)) (cons3 (con3 (.int 3)) (cons3 (tup3 (nil3)) (nil3))))))) 3)
  (r_Tongue_init_3 K a EX)
def r_Tongue_init_1 (K : PySem.W.Frag) (a : Ad) (EX : X3) : S3 := seq3 (set3 (split3 (var3 1) (con3 (.str ("\n" : Str)))) 2)
  (r_Tongue_init_2 K a EX)
def r_Tongue_init (K : PySem.W.Frag) (a : Ad) (EX : X3) : S3 := seq3 (ifS3 (not3 (tst3 (callB3 (isi3 K) (cons3 (var3 1) (cons3 (con3 (.ty "str")) (nil3)))))) (raise3 a.c_BadTongue EX (cons3 (con3 (.int 0)) (nil3))) (next3))
  (r_Tongue_init_1 K a EX)
theorem part_names {line head : Str} {low high : Nat} {used ns : List Str} (h : partOf line head low high used = some ns) : ns = namesOf line ∧ bad line head low high = false ∧ (namesOf line ++ used).Nodup := by
  unfold partOf at h
  split at h
  · cases h
  · rename_i hb
    split at h
    · rename_i hn
      cases h
      exact ⟨rfl, by simpa using hb, hn⟩
    · cases h
theorem isi_no {K : PySem.W.Frag} {d : D} {t n : String} {M : HM} {Q : K3} (ty : TyD K M d (.type t)) (h : kitB t n = some false) (q : Q (.bl false) M) : isi3 K [d, .ty n] M Q := isi_ty ty h q
theorem lines_pos (text : Str) : 1 ≤ (linesOf text).length := split_pos text "\n"
theorem vc_Tongue_init {K : PySem.W.Frag} {a : Ad} {ds : List D} {M : HM} {Q : K3} {EX : X3} (h : sp_init K a ds M Q EX) : r_Tongue_init K a EX (ends3 Q) (start3 ["self", "text", "lines", "conditions", "deeds"] ds) M := by
  obtain ⟨x, d, rfl, hx, h⟩ := h
  show r_Tongue_init K a EX (ends3 Q) [some (.ref x), some d, none, none, none] M
  unfold r_Tongue_init
  walk_at "vc"
  rcases h with ⟨t, ty, hk, hE⟩ | ⟨text, rfl, hl, h⟩
  · refine isi_no ty hk ?_
    walk_at "vc"
    exact ⟨_, rfl, hE M (Le.refl M)⟩
  · refine isi_ty (.str text) (b := true) (by decide +kernel) ?_
    walk_at "vc"
    unfold r_Tongue_init_1
    walk_at "vc"
    refine ⟨by decide, by rw [sizeLine_eq]; omega, fun p1 hp1 => ?_⟩
    unfold r_Tongue_init_2
    walk_at "vc"
    show ix3 (.ref p1) (.int 0) (mup M p1 (.lst ((linesOf text).map D.str))) _
    have le1 : Le M (mup M p1 (.lst ((linesOf text).map D.str))) := Le.new hp1
    have g1 : mup M p1 (.lst ((linesOf text).map D.str)) p1 = some (.lst ((linesOf text).map D.str)) := mup_same
    generalize mup M p1 (.lst ((linesOf text).map D.str)) = M1 at le1 g1 ⊢
    have at_ : ∀ n, n < (linesOf text).length → atI ((linesOf text).map D.str) (n : Nat) = some (.str ((linesOf text).getD n "")) := fun n hn => by
      rw [atI_n, List.getElem?_map, List.getElem?_eq_getElem hn, List.getD_eq_getElem?_getD, List.getElem?_eq_getElem hn]
      rfl
    have sh : ∀ n, ((linesOf text).getD n "").length ≤ 900 := fun n => by
      rw [List.getD_eq_getElem?_getD]
      cases e : (linesOf text)[n]? with
      | none => decide
      | some l =>
        have := lines_short (List.mem_of_getElem? e)
        show l.length ≤ 900
        omega
    refine s_ix (.inl g1) (at_ 0 (lines_pos text)) ?_
    refine ⟨by simp [sizeLine_eq], _, _, 0, 3, [], rfl, by have := sh 0; omega, by simp, ?_⟩
    rw [namesIn_part]
    unfold progOf at h
    cases e0 : partOf ((linesOf text).getD 0 "") "conditions" 0 3 [] with
    | none =>
      rw [e0] at h
      unfold r_Tongue_init_3
      walk_at "vc"
      rcases h with ⟨k, hk, hE⟩ | ⟨cs, es, hk, _⟩
      · cases hk
        exact ⟨_, rfl, hE M1 le1⟩
      · cases hk
    | some cs =>
      rw [e0] at h
      dsimp only at h
      unfold r_Tongue_init_3
      walk_at "vc"
      unfold r_Tongue_init_4
      walk_at "vc"
      refine s_len (.inl g1) ?_
      walk_at "vc"
      rw [List.length_map]
      have ecs := (part_names e0).1
      have lcs : cs.length ≤ 1000 := by
        rw [ecs]
        have := names_len ((linesOf text).getD 0 "")
        have := sh 0
        omega
      have go2 : ∀ M2, Le M1 M2 → (∃ k, (Sum.inl 2 : Sum Int (List Str × List Str)) = .inl k ∧ ∀ M', Le M M' → EX a.c_BadTongue (.int k) M') → ∃ d, (.int 2 : D) = d ∧ EX a.c_BadTongue d M2 := fun M2 l ⟨k, hk, hE⟩ => by
        cases hk
        exact ⟨_, rfl, hE _ (le1.trans l)⟩
      split
      · rename_i h5
        rw [if_pos (show (linesOf text).length > 1 by omega)] at h
        refine s_ix (.inl g1) (at_ 1 (by omega)) ?_
        refine ⟨_, _, 1, 4, cs, rfl, by have := sh 1; omega, lcs, ?_⟩
        rw [namesIn_part]
        cases e1 : partOf ((linesOf text).getD 1 "") "deeds" 1 4 cs with
        | none =>
          rw [e1] at h
          dsimp only at h
          unfold r_Tongue_init_5
          walk_at "vc"
          rcases h with ⟨k, hk, hE⟩ | ⟨cs, es, hk, _⟩
          · cases hk
            exact ⟨_, rfl, hE M1 le1⟩
          · cases hk
        | some es =>
          rw [e1] at h
          dsimp only at h
          unfold r_Tongue_init_5
          walk_at "vc"
          unfold r_Tongue_init_6
          walk_at "vc"
          refine s_len (.inl g1) ?_
          walk_at "vc"
          rw [List.length_map]
          split
          · rename_i h6
            walk_at "vc"
            rcases h with ⟨k, hk, hE⟩ | ⟨cs, es, hk, _⟩
            · have hk : (if (linesOf text).length > 2 then (Sum.inl 3 : Sum Int (List Str × List Str)) else .inr (cs, es)) = .inl k := hk
              rw [if_pos (by omega)] at hk
              cases hk
              exact ⟨_, rfl, hE M1 le1⟩
            · have hk : (if (linesOf text).length > 2 then (Sum.inl 3 : Sum Int (List Str × List Str)) else .inr _) = .inr (cs, es) := hk
              rw [if_pos (by omega)] at hk
              cases hk
          · rename_i h6
            rcases h with ⟨k, hk, hE⟩ | ⟨cs2, es2, hk, hq⟩
            · have hk : (if (linesOf text).length > 2 then (Sum.inl 3 : Sum Int (List Str × List Str)) else .inr (cs, es)) = .inl k := hk
              rw [if_neg (by omega)] at hk
              cases hk
            · have hk : (if (linesOf text).length > 2 then (Sum.inl 3 : Sum Int (List Str × List Str)) else .inr (cs, es)) = .inr (cs2, es2) := hk
              rw [if_neg (by omega)] at hk
              cases hk
              unfold r_Tongue_init_7
              walk_at "vc"
              refine ⟨by simp [sizeLine_eq], by simp, _, _, ⟨rfl, rfl⟩, _, rfl, x, [], rfl, le1 _ _ hx, _, _, rfl, _, rfl, x, _, rfl, mup_same, _, _, rfl, _, rfl, x, _, rfl, mup_same, rfl, ?_⟩
              rw [mup_mup, mup_mup]
              refine ⟨_, fun b u e => ?_, hq⟩
              by_cases hb : b = x
              · subst hb
                rw [mup_same] at e ⊢
                exact e
              · rw [mup_ne hb] at e ⊢
                exact le1 _ _ e
      · rename_i h5
        rw [if_neg (show ¬ (linesOf text).length > 1 by omega)] at h
        dsimp only at h
        walk_at "vc"
        unfold r_Tongue_init_5
        walk_at "vc"
        rcases h with ⟨k, hk, hE⟩ | ⟨cs, es, hk, _⟩
        · cases hk
          exact ⟨_, rfl, hE M1 le1⟩
        · cases hk
end Wd
end

section
set_option Elab.async false
set_option linter.all false
set_option maxRecDepth 100000
set_option maxHeartbeats 400000
namespace Wd
open PySem PySem.Spec PyProof.Rows L2 L3
local macro_rules | `(tactic| walk_at "vc") => `(tactic| try simp only [seq3, ifS3, or3, and3, not3, tst3, tstB, callB3, cons3, nil3, con3, var3, bin3, chain3, un3, set3, ret3, retN3, next3, drop3, asg3, par3, name3, gtup3, gcons3, gnil3, gsub3, if3, andV3, orV3, notV3, tup3, lst3, part3, noP3, slice3, split3, join3, append3, popAt3, dget3, star3, lenSet3, rev3, disp3, dnew3, pairs3, call3, make3, aug3, yes3, r1_3, lstRg3, ends3,
  e_cmpI, e_addI, e_addS, e_addT, e_sub, e_mul, e_mod, e_fdiv, e_pow, e_isN, e_lenS, e_lenT, e_intI, e_intB, e_abs, e_max, e_min, e_tupT, e_truB, e_truN, e_truI, e_nonN, e_nonI, e_nonB, e_nonS, e_nonT, e_nonR,
  List.getElem?_cons_zero, List.getElem?_cons_succ, List.set_cons_zero, List.set_cons_succ, Option.some.injEq, exists_eq_left', exists_eq_left, exists_and_left, D.bl.injEq, D.int.injEq, D.str.injEq, D.ref.injEq, D.tup.injEq, List.cons.injEq, and_true, true_and, if_true, if_false, Bool.false_eq_true, reduceCtorEq, false_and, and_false, false_or, or_false, Bool.not_true, Bool.not_false, id, decide_eq_true_eq])
/-! ### a tongue's own -/
def sp_prop (i : Nat) (a : Ad) : Sp3 := fun ds M Q _ => ∃ (x : Addr) (vs : StD) (v : D), ds = [.ref x] ∧ M x = some (.sl a.c_Tongue vs) ∧ vs[i]? = some (some v) ∧ Q v M
def sp_prop_text := sp_prop 2
def sp_prop_conditions := sp_prop 0
def sp_prop_deeds := sp_prop 1
def sp_prop_atoms (a : Ad) : Sp3 := fun ds M Q _ => ∃ (x : Addr) (vs : StD) (cs : List D), ds = [.ref x] ∧ M x = some (.sl a.c_Tongue vs) ∧ vs[0]? = some (some (.tup cs)) ∧ cs.length ≤ 64 ∧ Q (.int (2 ^ cs.length)) M
def r_Tongue_text (a : Ad) : S3 := ret3 (slot3 a.c_Tongue 2 (var3 0))
def r_Tongue_conditions (a : Ad) : S3 := ret3 (slot3 a.c_Tongue 0 (var3 0))
def r_Tongue_deeds (a : Ad) : S3 := ret3 (slot3 a.c_Tongue 1 (var3 0))
def r_Tongue_atoms (a : Ad) : S3 := ret3 (bin3 pow3 (con3 (.int 2)) (bin3 mod3 (callB3 len3 (cons3 (slot3 a.c_Tongue 0 (var3 0)) (nil3))) (con3 (.int 65))))
theorem vc_Tongue_text {a : Ad} {ds : List D} {M : HM} {Q : K3} {EX : X3} (h : sp_prop_text a ds M Q EX) : r_Tongue_text a (ends3 Q) (start3 ["self"] ds) M := by
  obtain ⟨x, vs, v, rfl, h1, h2, q⟩ := h
  exact ⟨_, rfl, x, vs, v, rfl, h1, h2, M, Le.refl M, q⟩
theorem vc_Tongue_conditions {a : Ad} {ds : List D} {M : HM} {Q : K3} {EX : X3} (h : sp_prop_conditions a ds M Q EX) : r_Tongue_conditions a (ends3 Q) (start3 ["self"] ds) M := by
  obtain ⟨x, vs, v, rfl, h1, h2, q⟩ := h
  exact ⟨_, rfl, x, vs, v, rfl, h1, h2, M, Le.refl M, q⟩
theorem vc_Tongue_deeds {a : Ad} {ds : List D} {M : HM} {Q : K3} {EX : X3} (h : sp_prop_deeds a ds M Q EX) : r_Tongue_deeds a (ends3 Q) (start3 ["self"] ds) M := by
  obtain ⟨x, vs, v, rfl, h1, h2, q⟩ := h
  exact ⟨_, rfl, x, vs, v, rfl, h1, h2, M, Le.refl M, q⟩
theorem vc_Tongue_atoms {a : Ad} {ds : List D} {M : HM} {Q : K3} {EX : X3} (h : sp_prop_atoms a ds M Q EX) : r_Tongue_atoms a (ends3 Q) (start3 ["self"] ds) M := by
  obtain ⟨x, vs, cs, rfl, h1, h2, hc, q⟩ := h
  refine ⟨_, rfl, x, vs, _, rfl, h1, h2, ?_⟩
  walk_at "vc"
  have e : (cs.length : Int) % 65 = ((cs.length : Nat) : Int) := Int.emod_eq_of_lt (by omega) (by omega)
  rw [e]
  refine ⟨by decide, pow_ok (k := 2) (by decide) (by decide) (by omega), M, Le.refl M, ?_⟩
  rw [Int.toNat_natCast]
  exact q
/-- == -/
def sp_eq (K : PySem.W.Frag) (a : Ad) : Sp3 := fun ds M Q _ => ∃ (x : Addr) (vs : StD) (t : Str) (d : D), ds = [.ref x, d] ∧ M x = some (.sl a.c_Tongue vs) ∧ vs[2]? = some (some (.str t)) ∧
  ((∃ u, TyD K M d u ∧ PySem.W.kitOne K u (.ref a.c_Tongue) = some false ∧ Q (.bl false) M) ∨ ∃ (y : Addr) (ws : StD) (u : Str), d = .ref y ∧ M y = some (.sl a.c_Tongue ws) ∧ TyD K M d (.ref a.c_Tongue) ∧ ws[2]? = some (some (.str u)) ∧ Q (.bl (t == u)) M)
def r_Tongue_eq (K : PySem.W.Frag) (a : Ad) : S3 := ret3 (andV3 (callB3 (isi3 K) (cons3 (var3 1) (cons3 (con3 (.ref a.c_Tongue)) (nil3)))) (bin3 (eq3 100 id) (slot3 a.c_Tongue 2 (var3 0)) (slot3 a.c_Tongue 2 (var3 1))))
theorem vc_Tongue_eq {K : PySem.W.Frag} {a : Ad} {ds : List D} {M : HM} {Q : K3} {EX : X3} (h : sp_eq K a ds M Q EX) : r_Tongue_eq K a (ends3 Q) (start3 ["self", "other"] ds) M := by
  obtain ⟨x, vs, t, d, rfl, h1, h2, h⟩ := h
  show r_Tongue_eq K a (ends3 Q) [some (.ref x), some d] M
  unfold r_Tongue_eq
  walk_at "vc"
  rcases h with ⟨u, ty, hk, q⟩ | ⟨y, ws, u, rfl, g1, ty, g2, q⟩
  · exact ⟨d, .ref a.c_Tongue, u, _, false, rfl, rfl, ty, hk, _, rfl, M, Le.refl M, q⟩
  · refine ⟨_, .ref a.c_Tongue, _, _, true, rfl, rfl, ty, by unfold PySem.W.kitOne; rw [if_pos (beq_self_eq_true _)], _, rfl, ?_⟩
    refine ⟨_, rfl, x, vs, _, rfl, h1, h2, _, rfl, y, ws, _, rfl, g1, g2, eq_strs (by decide) ⟨M, Le.refl M, q⟩⟩
/-! ### a text near one -/
def wt (l : List Str) : Nat := (l.map (·.length)).sum + l.length
theorem wt_app (a b : List Str) : wt (a ++ b) = wt a + wt b := by
  unfold wt
  rw [List.map_append, List.sum_append, List.length_append]
  omega
theorem wt_take (l : List Str) (n : Nat) : wt (l.take n) ≤ wt l := by
  have := wt_app (l.take n) (l.drop n)
  rw [List.take_append_drop] at this
  omega
theorem wt_drop (l : List Str) (n : Nat) : wt (l.drop n) ≤ wt l := by
  have := wt_app (l.take n) (l.drop n)
  rw [List.take_append_drop] at this
  omega
theorem wt_rev : ∀ l : List Str, wt l.reverse = wt l
  | [] => rfl
  | x :: l => by
    rw [List.reverse_cons, wt_app, wt_rev l]
    show wt l + wt [x] = wt ([x] ++ l)
    rw [wt_app]
    omega
theorem wt_set (x : Str) : ∀ (l : List Str) (i : Nat), wt (l.set i x) ≤ wt l + x.length
  | [], _ => by simp [wt]
  | y :: l, 0 => by simp [wt]; omega
  | y :: l, i + 1 => by
    have := wt_set x l i
    simp [wt] at this ⊢
    omega
theorem wt_len (l : List Str) : l.length ≤ wt l := by unfold wt; omega
theorem wt_split (x y : Str) (hy : 1 ≤ y.length) : wt (Txt.split x y) ≤ x.length + 1 := split_weight x y hy
theorem join_wt {y : Str} {l : List Str} (hy : y.length = 1) : (Txt.join y l).length ≤ wt l := by
  have := StrLaws.join_length_le y l
  rw [hy, Nat.mul_one] at this
  rw [join_is]
  exact this
theorem join_wok {y : Str} {l : List Str} (hy : y.length = 1) (h : wt l ≤ 16777216) : (l.map (·.length)).sum + l.length * y.length ≤ 16777216 := by
  rw [hy, Nat.mul_one]
  exact h
def sp_law_near : Sp3 := fun ds M Q _ => ∃ (p : Addr) (text : Str) (n : Nat), ds = [.ref p, .str text] ∧ PotOk n M p ∧ n + 20 < 2 ^ 20 ∧ text.length ≤ 90 ∧ Asc text ∧
  ∀ (near : Str) (M' : HM), near.length ≤ 900 → Asc near → (∀ b u, b ≠ p → M b = some u → M' b = some u) → PotOk (n + 20) M' p → Q (.str near) M'
def r_law_near_9 : S3 := ret3 (join3 (con3 (.str ("\n" : Str))) (bin3 add3 (bin3 add3 (slice3 (var3 2) noP3 (part3 (var3 3))) (lst3 (cons3 (join3 (con3 (.str (" " : Str))) (var3 5)) (nil3)))) (slice3 (var3 2) (part3 (bin3 add3 (var3 3) (con3 (.int 1)))) noP3)))
def r_law_near_8 : S3 := seq3 (ifS3 (tstB (bin3 (eq3 100 id) (var3 4) (con3 (.int 7)))) (set3 (bin3 add3 (slice3 (var3 5) noP3 (part3 (var3 6))) (slice3 (var3 5) (part3 (bin3 add3 (var3 6) (con3 (.int 1)))) noP3)) 5) (next3))
  (r_law_near_9)
def r_law_near_7 : S3 := seq3 (ifS3 (tstB (bin3 (eq3 100 id) (var3 4) (con3 (.int 6)))) (set3 (bin3 add3 (var3 5) (lst3 (cons3 (call3 sp_law_of noX (cons3 (var3 0) (cons3 (var3 7) (nil3)))) (nil3)))) 5) (next3))
  (r_law_near_8)
def r_law_near_6 : S3 := seq3 (ifS3 (tstB (bin3 (cmpI3 fun i j => decide (i < j)) (var3 4) (con3 (.int 6)))) (asg3 (call3 sp_law_of noX (cons3 (var3 0) (cons3 (var3 7) (nil3)))) (gsub3 (var3 5) (var3 6) setL3)) (next3))
  (r_law_near_7)
def r_law_near_5 : S3 := seq3 (set3 (lst3 (cons3 (con3 (.str ("" : Str))) (cons3 (con3 (.str ("if" : Str))) (cons3 (con3 (.str ("any" : Str))) (cons3 (con3 (.str ("abcdefg" : Str))) (cons3 (con3 (.str ("abcdef" : Str))) (cons3 (con3 (.str ("A" : Str))) (cons3 (con3 (.str ("a" : Str))) (cons3 (con3 (.str ("p" : Str))) (cons3 (con3 (.str ("conditions" : Str))) (cons3 (con3 (.str ("deeds" : Str))) (cons3 (con3 (.str ("a1" : Str))) (cons3 (con3 (.str ("not" : Str))) (cons3 (con3 (.str ("note" : Str))) (nil3))))))))))))))) 7)
  (r_law_near_6)
def r_law_near_4 : S3 := seq3 (set3 (call3 sp_law_take noX (cons3 (var3 0) (cons3 (callB3 len3 (cons3 (var3 5) (nil3))) (nil3)))) 6)
  (r_law_near_5)
def r_law_near_3 : S3 := seq3 (set3 (split3 (bin3 ix3 (var3 2) (var3 3)) (con3 (.str (" " : Str)))) 5)
  (r_law_near_4)
def r_law_near_2 : S3 := seq3 (ifS3 (tstB (bin3 (cmpI3 fun i j => decide (i < j)) (var3 4) (con3 (.int 3)))) (ret3 (join3 (con3 (.str ("\n" : Str))) (bin3 ix3 (lst3 (cons3 (bin3 add3 (slice3 (var3 2) noP3 (part3 (var3 3))) (slice3 (var3 2) (part3 (bin3 add3 (var3 3) (con3 (.int 1)))) noP3)) (cons3 (bin3 add3 (slice3 (var3 2) noP3 (part3 (bin3 add3 (var3 3) (con3 (.int 1))))) (slice3 (var3 2) (part3 (var3 3)) noP3)) (cons3 (rev3 (var3 2)) (nil3))))) (var3 4)))) (next3))
  (r_law_near_3)
def r_law_near_1 : S3 := seq3 (par3 3 4 (cons3 (call3 sp_law_take noX (cons3 (var3 0) (cons3 (callB3 len3 (cons3 (var3 2) (nil3))) (nil3)))) (cons3 (call3 sp_law_take noX (cons3 (var3 0) (cons3 (con3 (.int 8)) (nil3)))) (nil3))))
  (r_law_near_2)
def r_law_near : S3 := seq3 (set3 (split3 (var3 1) (con3 (.str ("\n" : Str)))) 2)
  (r_law_near_1)
/-- a list of texts of weight w stands at a -/
structure LS (M : HM) (a : Addr) (l : List Str) (w : Nat) : Prop where
  at_ : M a = some (.lst (l.map D.str))
  wt : wt l ≤ w
  asc : ∀ x ∈ l, Asc x
theorem LS.le {M M' : HM} {a : Addr} {l : List Str} {w : Nat} (h : LS M a l w) (e : Le M M') : LS M' a l w := ⟨e _ _ h.at_, h.wt, h.asc⟩
/-- xs[lo:hi] -/
theorem ls_take {M : HM} {a : Addr} {l : List Str} {w : Nat} (h : LS M a l w) (n : Nat) (hn : n ≤ l.length) {Q : K3} (q : ∀ p M', Le M M' → LS M' p (l.take n) w → Q (.ref p) M') : sl3 (.ref a) none (some (n : Int)) M Q :=
  s_cut (.inl h.at_) fun p hp => q p _ (Le.new hp) ⟨by rw [mup_same, head_cut _ _ (by simpa using hn), ← List.map_take], Nat.le_trans (wt_take l n) h.wt, fun x hx => h.asc x (List.mem_of_mem_take hx)⟩
theorem ls_drop {M : HM} {a : Addr} {l : List Str} {w : Nat} (h : LS M a l w) (n : Nat) (hn : n ≤ l.length) {Q : K3} (q : ∀ p M', Le M M' → LS M' p (l.drop n) w → Q (.ref p) M') : sl3 (.ref a) (some (n : Int)) none M Q :=
  s_cut (.inl h.at_) fun p hp => q p _ (Le.new hp) ⟨by rw [mup_same, from_cut _ _ (by simpa using hn), ← List.map_drop], Nat.le_trans (wt_drop l n) h.wt, fun x hx => h.asc x (List.mem_of_mem_drop hx)⟩
theorem ls_cat {M : HM} {a b : Addr} {l k : List Str} {w v : Nat} (h : LS M a l w) (h' : LS M b k v) (hs : w + v ≤ 10000) {Q : K3} (q : ∀ p M', Le M M' → LS M' p (l ++ k) (w + v) → Q (.ref p) M') : add3 (.ref a) (.ref b) M Q :=
  s_cat h.at_ h'.at_ (by have := wt_len l; have := wt_len k; have := h.wt; have := h'.wt; rw [List.length_map, List.length_map, sizeLine_eq]; omega) fun p hp => q p _ (Le.new hp) ⟨by rw [mup_same, List.map_append], by rw [wt_app]; exact Nat.add_le_add h.wt h'.wt, fun x hx => by
    rcases List.mem_append.mp hx with z | z
    · exact h.asc x z
    · exact h'.asc x z⟩
theorem near_9 {M : HM} {p1 w : Addr} {J : Nat} {ls ws : List Str} {x0 x1 x4 x6 x7 : Option D} {Q : K3} (L : LS M p1 ls 101) (W : LS M w ws 250) (hJ : J < ls.length) (q : ∀ near M', near.length ≤ 900 → Asc near → Le M M' → Q (.str near) M') :
    r_law_near_9 (ends3 Q) [x0, x1, some (.ref p1), some (.int J), x4, some (.ref w), x6, x7] M := by
  unfold r_law_near_9
  walk_at "vc"
  refine ls_take L J (by omega) fun a1 M3 le3 A1 => ?_
  have W3 := W.le le3
  refine ⟨ws, .inl W3.at_, join_wok (by decide) (by have := W.wt; omega), by simp [sizeLine_eq], fun c hc => ?_⟩
  have jl := join_wt (y := " ") (l := ws) (by decide)
  have C : LS (mup M3 c (.lst [.str (Txt.join " " ws)])) c [Txt.join " " ws] 251 := ⟨mup_same, by simp [wt]; have := W.wt; omega, fun x hx => by
    simp at hx
    subst hx
    rw [join_is]
    exact asc_join (by unfold Asc; decide) W.asc⟩
  have le4 : Le M3 (mup M3 c (.lst [.str (Txt.join " " ws)])) := Le.new hc
  generalize mup M3 c (.lst [.str (Txt.join " " ws)]) = M4 at C le4 ⊢
  refine ls_cat (A1.le le4) C (by decide) fun b M5 le5 B => ?_
  have l05 := le3.trans (le4.trans le5)
  walk_at "vc"
  rw [show (J : Int) + 1 = ((J + 1 : Nat) : Int) by omega]
  refine ls_drop (L.le l05) (J + 1) (by omega) fun a2 M6 le6 A2 => ?_
  refine ls_cat (B.le le6) A2 (by decide) fun e M7 le7 E => ?_
  refine ⟨_, .inl ⟨e, rfl, .inl E.at_⟩, join_wok (by decide) (by have := E.wt; omega), M7, Le.refl _, ?_⟩
  have jl2 := join_wt (y := "\n") (l := ls.take J ++ [Txt.join " " ws] ++ ls.drop (J + 1)) (by decide)
  refine q _ _ (by have := E.wt; omega) (by rw [join_is]; exact asc_join (by unfold Asc; decide) E.asc) (l05.trans (le6.trans le7))
theorem near_8 {M : HM} {p1 w : Addr} {J S : Nat} {k : Int} {ls ws : List Str} {x0 x1 x7 : Option D} {Q : K3} (L : LS M p1 ls 101) (W : LS M w ws 120) (hJ : J < ls.length) (hS : k = 7 → S < ws.length) (q : ∀ near M', near.length ≤ 900 → Asc near → Le M M' → Q (.str near) M') :
    r_law_near_8 (ends3 Q) [x0, x1, some (.ref p1), some (.int J), some (.int k), some (.ref w), some (.int S), x7] M := by
  unfold r_law_near_8
  walk_at "vc"
  refine eq_ints ⟨_, rfl, ?_⟩
  split
  · rename_i hk
    have hS := hS (by simpa using hk)
    walk_at "vc"
    refine ls_take W S (by omega) fun a1 M3 le3 A1 => ?_
    walk_at "vc"
    rw [show (S : Int) + 1 = ((S + 1 : Nat) : Int) by omega]
    refine ls_drop (W.le le3) (S + 1) (by omega) fun a2 M4 le4 A2 => ?_
    refine ls_cat (A1.le le4) A2 (by decide) fun b M5 le5 B => ?_
    have l05 := le3.trans (le4.trans le5)
    exact near_9 (L.le l05) ⟨B.at_, Nat.le_trans B.wt (by decide), B.asc⟩ hJ fun near M' h1 h2 h3 => q near M' h1 h2 (l05.trans h3)
  · exact near_9 L ⟨W.at_, Nat.le_trans W.wt (by decide), W.asc⟩ hJ q
def nearPool : List Str := ["", "if", "any", "abcdefg", "abcdef", "A", "a", "p", "conditions", "deeds", "a1", "not", "note"]
theorem nearPool_ok : ∀ x ∈ nearPool, x.length ≤ 10 ∧ Asc x := by unfold Asc; decide
/-- what a step that draws leaves: all but the pot -/
def Kp (p : Addr) (M M' : HM) : Prop := ∀ b u, b ≠ p → M b = some u → M' b = some u
theorem Kp.le {p : Addr} {M M1 M2 : HM} (h : Kp p M M1) (l : Le M1 M2) : Kp p M M2 := fun b u hb e => l b u (h b u hb e)
theorem kp_pot {p : Addr} {M : HM} {o : MO} : Kp p M (mup M p o) := fun b u hb e => by rw [mup_ne hb]; exact e
theorem LS.kp {p a : Addr} {M M' : HM} {l : List Str} {w : Nat} (h : LS M a l w) (k : Kp p M M') (hne : a ≠ p) : LS M' a l w := ⟨k a _ hne h.at_, h.wt, h.asc⟩
theorem near_7 {M : HM} {p p1 w s1 : Addr} {J S n : Nat} {k : Int} {ls ws : List Str} {x1 : Option D} {Q : K3} (L : LS M p1 ls 101) (W : LS M w ws 108) (np : p1 ≠ p) (nw : w ≠ p) (ns : s1 ≠ p) (hs1 : M s1 = some (.lst (nearPool.map D.str))) (P : PotOk n M p) (hn : n < 2 ^ 20) (hJ : J < ls.length) (hS : k = 7 → S < ws.length)
    (q : ∀ near M' o, near.length ≤ 900 → Asc near → PotO (n + 1) o → Le (mup M p o) M' → Q (.str near) M') :
    r_law_near_7 (ends3 Q) [some (.ref p), x1, some (.ref p1), some (.int J), some (.int k), some (.ref w), some (.int S), some (.ref s1)] M := by
  unfold r_law_near_7
  walk_at "vc"
  refine eq_ints ⟨_, rfl, ?_⟩
  split
  · rename_i hk
    walk_at "vc"
    refine ⟨p, s1, nearPool.map D.str, n, rfl, P, hn, .inl hs1, ns, by decide, by decide, fun d o hd ho => ⟨by simp [sizeLine_eq], fun c hc => ?_⟩⟩
    obtain ⟨x, hx, rfl⟩ := List.mem_map.mp hd
    have nx := nearPool_ok x hx
    have W2 := W.kp (kp_pot (o := o)) nw
    have L2 := L.kp (kp_pot (o := o)) np
    have C : LS (mup (mup M p o) c (.lst [.str x])) c [x] 11 := ⟨mup_same, by simp [wt]; omega, fun y hy => by simp at hy; subst hy; exact nx.2⟩
    refine ls_cat (W2.le (Le.new hc)) C (by decide) fun b M5 le5 B => ?_
    have l := (Le.new (o := .lst [.str x]) hc).trans le5
    refine near_8 (L2.le l) ⟨B.at_, Nat.le_trans B.wt (by decide), B.asc⟩ hJ (fun e => ?_) fun near M' h1 h2 h3 => q near M' o h1 h2 ho (l.trans h3)
    rw [e] at hk
    exact absurd hk (by decide)
  · obtain ⟨o, h1, h2⟩ := P
    refine near_8 L ⟨W.at_, Nat.le_trans W.wt (by decide), W.asc⟩ hJ hS fun near M' g1 g2 g3 => q near M' o g1 g2 (h2.mono (by omega)) ?_
    intro b u e
    by_cases hb : b = p
    · subst hb; rw [mup_same] at e; cases e; exact g3 _ _ h1
    · rw [mup_ne hb] at e; exact g3 _ _ e
theorem near_6 {M : HM} {p p1 w s1 : Addr} {J S n : Nat} {k : Int} {ls ws : List Str} {x1 : Option D} {Q : K3} (L : LS M p1 ls 101) (W : LS M w ws 98) (np : p1 ≠ p) (nw : w ≠ p) (nwp : w ≠ p1) (nws : w ≠ s1) (ns : s1 ≠ p) (hs1 : M s1 = some (.lst (nearPool.map D.str))) (P : PotOk n M p) (hn : n + 1 < 2 ^ 20) (hJ : J < ls.length) (hS : S < ws.length)
    (q : ∀ near M' M1, near.length ≤ 900 → Asc near → PotOk (n + 2) M1 p → (∀ b u, b ≠ p → b ≠ w → M b = some u → M1 b = some u) → Le M1 M' → Q (.str near) M') :
    r_law_near_6 (ends3 Q) [some (.ref p), x1, some (.ref p1), some (.int J), some (.int k), some (.ref w), some (.int S), some (.ref s1)] M := by
  unfold r_law_near_6
  walk_at "vc"
  split
  · rename_i hk
    walk_at "vc"
    refine ⟨p, s1, nearPool.map D.str, n, rfl, P, by omega, .inl hs1, ns, by decide, by decide, fun d o hd ho => ?_⟩
    obtain ⟨x, hx, rfl⟩ := List.mem_map.mp hd
    have nx := nearPool_ok x hx
    have W2 := W.kp (kp_pot (o := o)) nw
    refine s_set W2.at_ (n := S) (by rw [List.length_map]; exact ixN_nat hS) ?_
    rw [← List.map_set]
    have L2 := (L.kp (kp_pot (o := o)) np)
    refine near_7 (n := n + 1) (p := p) (ws := ws.set S x) ⟨by rw [mup_ne nwp.symm]; exact L2.at_, L2.wt, L2.asc⟩ ⟨mup_same, by have := wt_set x ws S; have := W.wt; omega, fun y hy => ?_⟩ np nw ns (by rw [mup_ne nws.symm, mup_ne ns]; exact hs1) ⟨o, by rw [mup_ne nw.symm, mup_same], ho⟩ (by omega) hJ (fun e => by rw [List.length_set]; exact hS) fun near M' o' h1 h2 h3 h4 => ?_
    · rcases List.mem_or_eq_of_mem_set hy with z | z
      · exact W.asc y z
      · subst z; exact nx.2
    · refine q near M' _ h1 h2 ⟨o', mup_same, h3⟩ (fun b u hb hw e => ?_) h4
      rw [mup_ne hb, mup_ne hw, mup_ne hb]
      exact e
  · refine near_7 (n := n) L ⟨W.at_, Nat.le_trans W.wt (by decide), W.asc⟩ np nw ns hs1 P (by omega) hJ (fun _ => hS) fun near M' o' h1 h2 h3 h4 => q near M' _ h1 h2 ⟨o', mup_same, h3.mono (by omega)⟩ (fun b u hb _ e => by rw [mup_ne hb]; exact e) h4
theorem vc_law_near {ds : List D} {M : HM} {Q : K3} {EX : X3} (h : sp_law_near ds M Q EX) : r_law_near (ends3 Q) (start3 ["pot", "text", "lines", "at", "way", "words", "spot", "some"] ds) M := by
  obtain ⟨p, text, n, rfl, ⟨o, hp, ho⟩, hn, hl, ha, q⟩ := h
  show r_law_near (ends3 Q) [some (.ref p), some (.str text), none, none, none, none, none, none] M
  unfold r_law_near
  walk_at "vc"
  refine ⟨by decide, by rw [sizeLine_eq]; omega, fun p1 hp1 => ?_⟩
  have n1 : p1 ≠ p := fun z => by rw [z, hp] at hp1; cases hp1
  have lines_pos := lines_pos text
  have wl : wt (linesOf text) ≤ 101 := by have := wt_split text "\n" (by decide); unfold linesOf; omega
  have ll := wt_len (linesOf text)
  unfold r_law_near_1
  walk_at "vc"
  show len3 [.ref p1] (mup M p1 (.lst ((linesOf text).map D.str))) _
  refine s_len mup_lst ?_
  rw [List.length_map]
  refine ⟨p, _, n, rfl, ⟨o, by rw [mup_ne n1.symm]; exact hp, ho⟩, by omega, by omega, by omega, fun j o1 j0 j1 ho1 => ?_⟩
  refine ⟨p, 8, n + 1, rfl, ⟨o1, mup_same, ho1⟩, by omega, by decide, by decide, fun k o2 k0 k1 ho2 => ⟨_, _, ⟨rfl, rfl⟩, ?_⟩⟩
  obtain ⟨J, rfl⟩ : ∃ J : Nat, j = J := ⟨j.toNat, by omega⟩
  have hJ : J < (linesOf text).length := by omega
  have kp : ∀ b u, b ≠ p → M b = some u → mup (mup (mup M p1 (.lst ((linesOf text).map D.str))) p o1) p o2 b = some u := fun b u hb e => by
    rw [mup_ne hb, mup_ne hb, mup_ne (fun z => by rw [z, hp1] at e; cases e)]
    exact e
  have L : LS (mup (mup (mup M p1 (.lst ((linesOf text).map D.str))) p o1) p o2) p1 (linesOf text) 101 := ⟨by rw [mup_ne n1, mup_ne n1, mup_same], wl, asc_split ha⟩
  have P : PotOk (n + 2) (mup (mup (mup M p1 (.lst ((linesOf text).map D.str))) p o1) p o2) p := ⟨o2, mup_same, ho2⟩
  generalize mup (mup (mup M p1 (.lst ((linesOf text).map D.str))) p o1) p o2 = M2 at kp L P ⊢
  unfold r_law_near_2
  walk_at "vc"
  split
  · rename_i hk
    refine ls_take L J (by omega) fun a1 M3 le3 A1 => ?_
    walk_at "vc"
    rw [show (J : Int) + 1 = ((J + 1 : Nat) : Int) by omega]
    refine ls_drop (L.le le3) (J + 1) (by omega) fun a2 M4 le4 A2 => ?_
    refine ls_cat (A1.le le4) A2 (by decide) fun b1 M5 le5 B1 => ?_
    have l35 := le3.trans (le4.trans le5)
    refine ls_take (L.le l35) (J + 1) (by omega) fun a3 M6 le6 A3 => ?_
    refine ls_drop (L.le (l35.trans le6)) J (by omega) fun a4 M7 le7 A4 => ?_
    refine ls_cat (A3.le le7) A4 (by decide) fun b2 M8 le8 B2 => ?_
    have l58 := le6.trans (le7.trans le8)
    walk_at "vc"
    refine ⟨_, .inl (L.le (l35.trans l58)).at_, fun b3 hb3 => ?_⟩
    rw [← List.map_reverse]
    have le9 : Le M8 (mup M8 b3 (.lst ((linesOf text).reverse.map D.str))) := Le.new hb3
    have B3 : LS (mup M8 b3 (.lst ((linesOf text).reverse.map D.str))) b3 (linesOf text).reverse 101 := ⟨mup_same, by rw [wt_rev]; exact wl, fun x hx => L.asc x (List.mem_reverse.mp hx)⟩
    generalize mup M8 b3 (.lst ((linesOf text).reverse.map D.str)) = M9 at le9 B3 ⊢
    refine ⟨by simp [sizeLine_eq], fun c hc => ?_⟩
    have l0 := l35.trans (l58.trans (le9.trans (Le.new (o := .lst [.ref b1, .ref b2, .ref b3]) hc)))
    have fin : ∀ (b : Addr) (l : List Str), LS (mup M9 c (.lst [.ref b1, .ref b2, .ref b3])) b l 202 → atI [D.ref b1, .ref b2, .ref b3] k = some (.ref b) →
        ix3 (.ref c) (.int k) (mup M9 c (.lst [.ref b1, .ref b2, .ref b3])) fun e M2 => ∃ ys : List Str, ((∃ p, e = .ref p ∧ LstAt M2 p (ys.map D.str)) ∨ e = .tup (ys.map D.str)) ∧ (ys.map (·.length)).sum + ys.length * ("\n" : Str).length ≤ 16777216 ∧ ∃ M0, Le M0 M2 ∧ Q (.str (Txt.join "\n" ys)) M0 := by
      intro b l B e
      refine s_ix mup_lst e ⟨l, .inl ⟨b, rfl, .inl B.at_⟩, join_wok (by decide) (by have := B.wt; omega), _, Le.refl _, ?_⟩
      refine q _ _ (by have := join_wt (y := "\n") (l := l) (by decide); have := B.wt; omega) (by rw [join_is]; exact asc_join (by unfold Asc; decide) B.asc) (fun b u hb e => l0 _ _ (kp b u hb e)) ?_
      obtain ⟨o, h1, h2⟩ := P
      exact ⟨o, l0 _ _ h1, h2.mono (by omega)⟩
    have w202 : ∀ {b l}, LS M9 b l 101 → LS (mup M9 c (.lst [.ref b1, .ref b2, .ref b3])) b l 202 := fun B => let B' := B.le (Le.new hc); ⟨B'.at_, Nat.le_trans B'.wt (by decide), B'.asc⟩
    have : k = 0 ∨ k = 1 ∨ k = 2 := by omega
    rcases this with rfl | rfl | rfl
    · exact fin b1 _ ((B1.le (l58.trans le9)).le (Le.new hc)) rfl
    · exact fin b2 _ ((B2.le le9).le (Le.new hc)) rfl
    · exact fin b3 _ (w202 B3) rfl
  · rename_i hk
    have eJ : atI ((linesOf text).map D.str) (J : Nat) = some (.str ((linesOf text)[J])) := by
      rw [atI_n, List.getElem?_map, List.getElem?_eq_getElem hJ]
      rfl
    have mJ : (linesOf text)[J] ∈ linesOf text := List.getElem_mem hJ
    have sJ := lines_short mJ
    unfold r_law_near_3
    walk_at "vc"
    refine s_ix (.inl L.at_) eJ ?_
    refine ⟨_, rfl, by decide, by rw [sizeLine_eq]; omega, fun w1 hw1 => ?_⟩
    have al := L.asc _ mJ
    generalize (linesOf text)[J] = line at *
    have nw : w1 ≠ p := fun z => by obtain ⟨o, h1, _⟩ := P; rw [z, h1] at hw1; cases hw1
    have nw1 : w1 ≠ p1 := fun z => by have := L.at_; rw [z, this] at hw1; cases hw1
    have W : LS (mup M2 w1 (.lst ((wordsOf line).map D.str))) w1 (wordsOf line) 98 := ⟨mup_same, by have := wt_split line " " (by decide); unfold wordsOf; omega, asc_split al⟩
    have L3 := L.le (Le.new (o := .lst ((wordsOf line).map D.str)) hw1)
    have P3 : PotOk (n + 2) (mup M2 w1 (.lst ((wordsOf line).map D.str))) p := let ⟨o, h1, h2⟩ := P; ⟨o, Le.new hw1 _ _ h1, h2⟩
    have k3 : Kp p M (mup M2 w1 (.lst ((wordsOf line).map D.str))) := fun b u hb e => Le.new hw1 _ _ (kp b u hb e)
    have w1M : M w1 = none := by
      cases e : M w1 with
      | none => rfl
      | some u => rw [kp _ _ nw e] at hw1; cases hw1
    show r_law_near_4 _ _ (mup M2 w1 (.lst ((wordsOf line).map D.str)))
    generalize mup M2 w1 (.lst ((wordsOf line).map D.str)) = M3 at W L3 P3 k3 ⊢
    unfold r_law_near_4
    walk_at "vc"
    refine s_len (.inl W.at_) ?_
    rw [List.length_map]
    have hw0 : 1 ≤ (wordsOf line).length := split_pos line " "
    have hwl := words_len line
    refine ⟨p, _, n + 2, rfl, P3, by omega, by omega, by omega, fun i o3 i0 i1 ho3 => ?_⟩
    obtain ⟨S, rfl⟩ : ∃ S : Nat, i = S := ⟨i.toNat, by omega⟩
    have W4 := W.kp (kp_pot (o := o3)) nw
    have L4 := L3.kp (kp_pot (o := o3)) n1
    have P4 : PotOk (n + 3) (mup M3 p o3) p := ⟨o3, mup_same, ho3⟩
    have k4 : Kp p M (mup M3 p o3) := fun b u hb e => by rw [mup_ne hb]; exact k3 b u hb e
    generalize mup M3 p o3 = M4 at W4 L4 P4 k4 ⊢
    unfold r_law_near_5
    walk_at "vc"
    refine ⟨by simp [sizeLine_eq], fun s1 hs1 => ?_⟩
    have ns : s1 ≠ p := fun z => by obtain ⟨o, h1, _⟩ := P4; rw [z, h1] at hs1; cases hs1
    have nws : w1 ≠ s1 := fun z => by have := W4.at_; rw [z, hs1] at this; cases this
    have l5 : Le M4 (mup M4 s1 (.lst (nearPool.map D.str))) := Le.new hs1
    show r_law_near_6 _ _ (mup M4 s1 (.lst (nearPool.map D.str)))
    refine near_6 (n := n + 3) (L4.le l5) (W4.le l5) n1 nw nw1 nws ns mup_same (let ⟨o, h1, h2⟩ := P4; ⟨o, l5 _ _ h1, h2⟩) (by omega) hJ (by omega) fun near M' M1 h1 h2 h3 h4 h5 => ?_
    refine q near M' h1 h2 (fun b u hb e => h5 _ _ (h4 b u hb (fun z => by rw [z, w1M] at e; cases e) (l5 _ _ (k4 b u hb e)))) ?_
    obtain ⟨o, g1, g2⟩ := h3
    exact ⟨o, h5 _ _ g1, g2.mono (by omega)⟩
end Wd
end

section
set_option Elab.async false
set_option linter.all false
set_option maxRecDepth 100000
set_option maxHeartbeats 400000
namespace Wd
open PySem PySem.Spec PyProof.Rows L2 L3
local macro_rules | `(tactic| walk_at "vc") => `(tactic| try simp only [seq3, ifS3, or3, and3, not3, tst3, tstB, callB3, cons3, nil3, con3, var3, bin3, chain3, un3, set3, ret3, retN3, next3, drop3, asg3, par3, name3, gtup3, gcons3, gnil3, gsub3, if3, andV3, orV3, notV3, tup3, lst3, part3, noP3, slice3, split3, join3, append3, popAt3, dget3, star3, lenSet3, rev3, disp3, dnew3, pairs3, call3, make3, aug3, yes3, r1_3, lstRg3, ends3,
  e_cmpI, e_addI, e_addS, e_addT, e_sub, e_mul, e_mod, e_fdiv, e_pow, e_isN, e_lenS, e_lenT, e_intI, e_intB, e_abs, e_max, e_min, e_tupT, e_truB, e_truN, e_truI, e_nonN, e_nonI, e_nonB, e_nonS, e_nonT, e_nonR,
  List.getElem?_cons_zero, List.getElem?_cons_succ, List.set_cons_zero, List.set_cons_succ, Option.some.injEq, exists_eq_left', exists_eq_left, exists_and_left, D.bl.injEq, D.int.injEq, D.str.injEq, D.ref.injEq, D.tup.injEq, List.cons.injEq, and_true, true_and, if_true, if_false, Bool.false_eq_true, reduceCtorEq, false_and, and_false, false_or, or_false, Bool.not_true, Bool.not_false, id, decide_eq_true_eq])
/-! ### THE PLAIN LAW: what the program finds wrong is what the law finds -/
theorem part_bad {ls : List Str} {k : Nat} {l head : Str} {low high : Nat} {used : List Str} (e : ls[k]? = some l) : (partOf l head low high used = none ↔ lineBad ls k head low high used = true) := by
  unfold partOf lineBad
  rw [e]
  dsimp only
  cases hb : bad l head low high with
  | true => simp
  | false =>
    simp only [Bool.false_eq_true, if_false, Bool.false_or, Bool.not_eq_true', decide_eq_false_iff_not]
    by_cases hn : (namesOf l ++ used).Nodup
    · rw [if_pos hn]
      simp [List.perm_append_comm.nodup_iff.mp hn]
    · rw [if_neg hn]
      simp only [true_iff]
      exact fun z => hn (List.perm_append_comm.nodup_iff.mp z)
theorem getD_at {ls : List Str} {k : Nat} (h : k < ls.length) : ls[k]? = some (ls.getD k "") := by
  rw [List.getD_eq_getElem?_getD, List.getElem?_eq_getElem h]
  rfl
theorem prog_wrong (text : Str) : (∀ k, progOf text = .inl k → wrongOf text = .int k ∧ (k = 0 ∨ k = 1 ∨ k = 2 ∨ k = 3)) ∧
    (∀ cs es, progOf text = .inr (cs, es) → wrongOf text = .non ∧ cs = namesOf ((linesOf text).getD 0 "") ∧ es = namesOf ((linesOf text).getD 1 "") ∧ (linesOf text).length = 2 ∧ cs.length ≤ 3) := by
  have h0 := lines_pos text
  have p0 := part_bad (head := "conditions") (low := 0) (high := 3) (used := []) (getD_at (show 0 < (linesOf text).length by omega))
  unfold progOf wrongOf
  cases e0 : partOf ((linesOf text).getD 0 "") "conditions" 0 3 [] with
  | none =>
    rw [if_pos (p0.mp e0)]
    refine ⟨fun k hk => ?_, fun cs es hk => by cases hk⟩
    cases hk
    exact ⟨rfl, .inr (.inl rfl)⟩
  | some cs =>
    have b0 : ¬ lineBad (linesOf text) 0 "conditions" 0 3 [] = true := fun z => by rw [p0.mpr z] at e0; cases e0
    rw [if_neg b0]
    dsimp only
    obtain ⟨n0, g0, _⟩ := part_names e0
    have lc : cs.length ≤ 3 := by
      unfold bad at g0
      simp only [Bool.or_eq_false_iff] at g0
      have := g0.1.2
      rw [n0]
      simpa using this
    by_cases h1 : (linesOf text).length > 1
    · rw [if_pos h1, ← n0]
      have p1 := part_bad (head := "deeds") (low := 1) (high := 4) (used := cs) (getD_at h1)
      cases e1 : partOf ((linesOf text).getD 1 "") "deeds" 1 4 cs with
      | none =>
        rw [if_pos (p1.mp e1)]
        dsimp only
        refine ⟨fun k hk => ?_, fun cs es hk => by cases hk⟩
        cases hk
        exact ⟨rfl, .inr (.inr (.inl rfl))⟩
      | some es =>
        have b1 : ¬ lineBad (linesOf text) 1 "deeds" 1 4 cs = true := fun z => by rw [p1.mpr z] at e1; cases e1
        rw [if_neg b1]
        dsimp only
        obtain ⟨n1, _, _⟩ := part_names e1
        by_cases h2 : (linesOf text).length > 2
        · rw [if_pos h2, if_pos h2]
          refine ⟨fun k hk => ?_, fun cs es hk => by cases hk⟩
          cases hk
          exact ⟨rfl, .inr (.inr (.inr rfl))⟩
        · rw [if_neg h2, if_neg h2]
          refine ⟨fun k hk => (by cases hk), fun cs' es' hk => ?_⟩
          cases hk
          exact ⟨rfl, rfl, n1, by omega, lc⟩
    · rw [if_neg h1, ← n0]
      have hb : lineBad (linesOf text) 1 "deeds" 1 4 cs = true := by
        unfold lineBad
        rw [List.getElem?_eq_none_iff.mpr (by omega)]
      rw [if_pos hb]
      dsimp only
      refine ⟨fun k hk => ?_, fun cs es hk => by cases hk⟩
      cases hk
      exact ⟨rfl, .inr (.inr (.inl rfl))⟩
/-! ### comprehensions whose elements only add to the heap -/
theorem cloop_grow {g : G3} {te : E3} {stays : HM → Prop} {s0 : StD} {p : Addr} {M0 : HM} {f : D → D} {Qd : HM → Prop} : ∀ (ds acc : List D) (M : HM), acc.length + ds.length ≤ sizeLine → (∀ M, Kp p M0 M → stays M) → Kp p M0 M → M p = some (.lst acc) →
    (∀ d ∈ ds, ∀ M (Q : K3), Kp p M0 M → (∀ M', Le M M' → Q (f d) M') → g d s0 M fun s1 M1 => te s1 M1 Q) → (∀ M', Kp p M0 M' → M' p = some (.lst (acc ++ ds.map f)) → Qd M') → cloop3 g yes3 te stays s0 p ds Qd M
  | [], acc, M, hl, hs, hk, hp, he, k => ⟨hs M hk, k M hk (by simpa using hp)⟩
  | d :: ds, acc, M, hl, hs, hk, hp, he, k => by
    refine ⟨hs M hk, ?_⟩
    have := he d List.mem_cons_self M (fun e M3 => ∃ acc, M3 p = some (.lst acc) ∧ acc.length < sizeLine ∧ cloop3 g yes3 te stays s0 p ds Qd (mup M3 p (.lst (acc ++ [e])))) hk fun M' le => ⟨acc, le _ _ hp, by simp at hl; omega,
      cloop_grow ds (acc ++ [f d]) _ (by simp at hl ⊢; omega) hs (fun b u hb e => by rw [mup_ne hb]; exact le _ _ (hk b u hb e)) mup_same (fun e he' => he e (List.mem_cons_of_mem _ he')) (by simpa using k)⟩
    simpa only [yes3, if_true] using this
theorem lc_grow {i : I3} {g : G3} {te : E3} {vs : List Nat} {s : StD} {M M1 : HM} {Q : K3} {ds : List D} {stays : HM → Prop} (f : D → D) (hi : ∀ R, R ds stays M1 → i s M R) (hl : ds.length ≤ sizeLine) (st : ∀ p M', M1 p = none → Kp p M1 M' → stays M')
    (el : ∀ d ∈ ds, ∀ M' (Q : K3), (∀ M2, Le M' M2 → Q (f d) M2) → g d (wipe3 s vs) M' fun s1 M2 => te s1 M2 Q) (q : ∀ p M', M1 p = none → Le M1 M' → M' p = some (.lst (ds.map f)) → Q (.ref p) M') : lc3 i g yes3 te vs s M Q :=
  hi _ fun p hp => cloop_grow (M0 := M1) ds [] _ (by simpa using hl) (fun M' h => st p M' hp h) (fun b u hb e => by rw [mup_ne hb]; exact e) mup_same (fun d hd M' Q' _ hq => el d hd M' Q' hq) fun M' h1 h2 => q p M' hp (fun b u e => h1 b u (fun z => by rw [z, hp] at e; cases e) e) (by simpa using h2)
/-! ### is read -/
structure Facts (K : PySem.W.Frag) (a : Ad) : Prop where
  exm : PySem.W.exmOne K (.ref a.c_BadTongue) (.ref a.c_DeedError) = some true
  ek : ExcK K a.c_BadTongue
  kb : PySem.W.kitOne K (.ref a.c_BadTongue) (.ref a.c_BadTongue) = some true
  kv : PySem.W.kitOne K (.ref a.c_BadTongue) (.type "ValueError") = some true
  sc : SlX.SCls K a.c_Tongue
  si : SlX.SIsi K a.c_Tongue
  ks : PySem.W.kitOne K (.type "str") (.ref a.c_Tongue) = some false
  ns : PySem.W.notFirst K a.c_Tongue (.type "str") = true
  nt : PySem.W.notFirst K a.c_Tongue (.ref a.c_Tongue) = true
def sp_law_is_read : Sp3 := fun ds M Q _ => ∃ text : Str, ds = [.str text] ∧ text.length ≤ 900 ∧ Asc text ∧ Q (.bl true) M
def r_law_is_read_5 (K : PySem.W.Frag) (a : Ad) : S3 := ret3 (andV3 (bin3 (isN3 id) (var3 2) (con3 .non)) (bin3 (eq3 100 id) (callB3 repr3 (cons3 (tup3 (cons3 (prop3 a.c_Tongue (sp_prop_text a) (var3 3)) (cons3 (prop3 a.c_Tongue (sp_prop_conditions a) (var3 3)) (cons3 (prop3 a.c_Tongue (sp_prop_deeds a) (var3 3)) (cons3 (prop3 a.c_Tongue (sp_prop_atoms a) (var3 3)) (nil3)))))) (nil3))) (callB3 repr3 (cons3 (var3 5) (nil3)))))
def r_law_is_read_4 (K : PySem.W.Frag) (a : Ad) : S3 := seq3 (set3 (tup3 (cons3 (var3 0) (cons3 (bin3 ix3 (var3 4) (con3 (.int 0))) (cons3 (bin3 ix3 (var3 4) (con3 (.int 1))) (cons3 (bin3 ix3 (lst3 (cons3 (con3 (.int 1)) (cons3 (con3 (.int 2)) (cons3 (con3 (.int 4)) (cons3 (con3 (.int 8)) (nil3)))))) (callB3 len3 (cons3 (bin3 ix3 (var3 4) (con3 (.int 0))) (nil3)))) (nil3)))))) 5)
  (r_law_is_read_5 K a)
def r_law_is_read_3 (K : PySem.W.Frag) (a : Ad) : S3 := seq3 (set3 (lc3 (ilst3 (split3 (var3 0) (con3 (.str ("\n" : Str))))) (name3 6) (yes3) (callB3 tuple3 (cons3 (slice3 (split3 (var3 6) (con3 (.str (" " : Str)))) (part3 (con3 (.int 1))) noP3) (nil3))) [6]) 4)
  (r_law_is_read_4 K a)
def r_law_is_read_2 (K : PySem.W.Frag) (a : Ad) : S3 := seq3 (ifS3 (tstB (bin3 (isN3 not) (var3 1) (con3 .non))) (ret3 (andV3 (callB3 (isi3 K) (cons3 (var3 2) (cons3 (con3 (.ref a.c_BadTongue)) (nil3)))) (andV3 (callB3 (isi3 K) (cons3 (var3 2) (cons3 (con3 (.ty "ValueError")) (nil3)))) (bin3 (eq3 100 id) (callB3 repr3 (cons3 (excVal3 K (var3 2)) (nil3))) (callB3 repr3 (cons3 (var3 1) (nil3))))))) (next3))
  (r_law_is_read_3 K a)
def r_law_is_read_1 (K : PySem.W.Frag) (a : Ad) : S3 := seq3 (asg3 (heard3 K a.c_DeedError (fun EX => make3 a.c_Tongue (sp_init K a) EX (fun s M Q => (cons3 (var3 0) nil3) s M fun ds M1 => ds.length = 1 ∧ Q ds M1))) (gtup3 2 (gcons3 (name3 2) (gcons3 (name3 3) (gnil3)))))
  (r_law_is_read_2 K a)
def r_law_is_read (K : PySem.W.Frag) (a : Ad) : S3 := seq3 (set3 (call3 sp_law_wrong noX (cons3 (var3 0) (nil3))) 1)
  (r_law_is_read_1 K a)
theorem show_names {l : List Str} {m : Nat} (hl : l.length ≤ m) (h : ∀ x ∈ l, x.length ≤ 900 ∧ Asc x) : piled (l.map reprText) ≤ 9004 * m := by
  have h1 := fmt_piled l fun y hy c hc => by have := (h y hy).2 c hc; omega
  have h2 : ∀ l : List Str, (∀ x ∈ l, x.length ≤ 900) → fmtCost l ≤ 9004 * l.length := by
    intro l
    induction l with
    | nil => intro _; decide
    | cons x l ih =>
      intro hx
      rw [fmtCost_cons]
      have := ih fun z hz => hx z (List.mem_cons_of_mem _ hz)
      have := hx x (by simp)
      simp only [List.length_cons]
      omega
  have := h2 l fun x hx => (h x hx).1
  have : 9004 * l.length ≤ 9004 * m := Nat.mul_le_mul_left _ hl
  omega
theorem pyD_strs : ∀ l : List Str, pyDs (l.map D.str) = l.map PyData.str
  | [] => rfl
  | x :: l => by simp only [List.map_cons, pyDs, pyD, pyD_strs l]
theorem shown_strs : ∀ l : List Str, PyData.shownAll (l.map PyData.str) = l.map reprText
  | [] => rfl
  | x :: l => by simp only [List.map_cons, PyData.shownAll, PyData.shown, shown_strs l]
theorem showable_strs : ∀ l : List Str, PyData.showableAll (l.map PyData.str) = true
  | [] => rfl
  | x :: l => by simp only [List.map_cons, PyData.showableAll, PyData.showable, showable_strs l, Bool.and_true]
theorem depth_pstrs : ∀ l : List Str, PyData.depthAll (l.map PyData.str) = 0
  | [] => rfl
  | x :: l => by simp only [List.map_cons, PyData.depthAll, PyData.depth, depth_pstrs l]; rfl
/-- what is told of a tongue may be shown -/
def toldD (text : Str) (cs es : List Str) (n : Nat) : D := .tup [.str text, .tup (cs.map D.str), .tup (es.map D.str), .int (2 ^ n)]
theorem told_ok {text : Str} {cs es : List Str} {n : Nat} (hn : n ≤ 3) (ht : text.length ≤ 900) (ha : Asc text) (hc : cs.length ≤ 903) (he : es.length ≤ 903) (hcs : ∀ x ∈ cs, x.length ≤ 900 ∧ Asc x) (hes : ∀ x ∈ es, x.length ≤ 900 ∧ Asc x) : ShowOk (pyD (toldD text cs es n)) := by
  have e : pyD (toldD text cs es n) = .tuple [.str text, .tuple (cs.map PyData.str), .tuple (es.map PyData.str), .int (2 ^ n)] := by
    simp only [toldD, pyD, pyDs, pyD_strs]
  rw [e]
  have i3 : n = 0 ∨ n = 1 ∨ n = 2 ∨ n = 3 := by omega
  refine ⟨?_, ?_, ?_⟩
  · simp only [PyData.showable, PyData.showableAll, showable_strs, Bool.and_true, Bool.true_and]
    rcases i3 with rfl | rfl | rfl | rfl <;> decide
  · simp only [PyData.shown, PyData.shownAll, shown_strs]
    have h1 := fmt_text (cs.map reprText)
    have h2 := fmt_text (es.map reprText)
    have h3 := show_names hc hcs
    have h4 := show_names he hes
    have h5 := StrLaws.reprText_len text fun c hc => by have := ha c hc; omega
    have h6 : ((toString ((2 : Int) ^ n) : String) : Str).length ≤ 1 := by rcases i3 with rfl | rfl | rfl | rfl <;> decide
    have h7 := fmt_text [reprText text, tupleText (cs.map reprText), tupleText (es.map reprText), ((toString ((2 : Int) ^ n) : String) : Str)]
    simp only [piled_cons, piled_nil] at h7
    rw [sizeLine_eq]
    omega
  · simp only [PyData.depth, PyData.depthAll, depth_pstrs]
    decide
def lineD : D → D
  | .str l => .tup ((namesOf l).map D.str)
  | _ => .non
theorem vc_law_is_read {K : PySem.W.Frag} {a : Ad} (F : Facts K a) {ds : List D} {M : HM} {Q : K3} {EX : X3} (h : sp_law_is_read ds M Q EX) : r_law_is_read K a (ends3 Q) (start3 ["text", "due", "caught", "told", "lines", "own", "line"] ds) M := by
  obtain ⟨text, rfl, hl, ha, q⟩ := h
  show r_law_is_read K a (ends3 Q) [some (.str text), none, none, none, none, none, none] M
  unfold r_law_is_read
  walk_at "vc"
  refine ⟨text, rfl, hl, ?_⟩
  obtain ⟨pw1, pw2⟩ := prog_wrong text
  unfold r_law_is_read_1
  walk_at "vc"
  unfold heard3
  refine ⟨_, rfl, rfl, fun x hx => ⟨x, _, rfl, mup_same, .inr ⟨text, rfl, hl, ?_⟩⟩⟩
  cases e : progOf text with
  | inl k =>
    obtain ⟨ew, hk⟩ := pw1 k e
    refine .inl ⟨k, rfl, fun M' le => ⟨F.exm, fun c hc => ?_⟩⟩
    rw [ew]
    have l0 : Le M (mup M' c (.exc a.c_BadTongue (.int k))) := (Le.new hx).trans (le.trans (Le.new hc))
    refine ⟨_, rfl, rfl, _, _, rfl, _, _, rfl, rfl, ?_⟩
    unfold r_law_is_read_2
    walk_at "vc"
    have ty : TyD K (mup M' c (.exc a.c_BadTongue (.int k))) (.ref c) (.ref a.c_BadTongue) := .exc mup_same F.ek
    refine ⟨_, .ref a.c_BadTongue, _, _, true, rfl, rfl, ty, F.kb, _, rfl, ?_⟩
    refine ⟨_, .ty "ValueError", _, _, true, rfl, rfl, ty, F.kv, _, rfl, ?_⟩
    have so : ShowOk (.int k) := by
      rcases hk with rfl | rfl | rfl | rfl <;> exact ⟨by decide, by decide, by decide⟩
    refine ⟨_, rfl, c, _, .int k, rfl, mup_same, F.ek, ?_⟩
    refine ⟨.int k, rfl, so, .int k, rfl, so, eq_strs (by decide) ?_⟩
    rw [show ((PyData.int k).shown == (PyData.int k).shown) = true from beq_self_eq_true _]
    exact ⟨M, l0, q⟩
  | inr r =>
    obtain ⟨cs, es⟩ := r
    obtain ⟨ew, ec, ee, l2, l3⟩ := pw2 cs es e
    refine .inr ⟨cs, es, rfl, rfl, ?_⟩
    rw [ew]
    refine ⟨_, rfl, rfl, _, _, rfl, _, _, rfl, rfl, ?_⟩
    rw [mup_mup]
    have l1 : Le M (mup M x (.sl a.c_Tongue (slotsOf text cs es))) := Le.new hx
    have gx : mup M x (.sl a.c_Tongue (slotsOf text cs es)) x = some (.sl a.c_Tongue (slotsOf text cs es)) := mup_same
    generalize mup M x (.sl a.c_Tongue (slotsOf text cs es)) = M1 at l1 gx ⊢
    unfold r_law_is_read_2
    walk_at "vc"
    unfold r_law_is_read_3
    walk_at "vc"
    refine ⟨_, rfl, _, rfl, _, rfl, by decide, by rw [sizeLine_eq]; omega, fun p1 hp1 => ⟨p1, _, rfl, mup_lst, fun p hp => ?_⟩⟩
    have l2' : Le M (mup M1 p1 (.lst ((linesOf text).map D.str))) := l1.trans (Le.new hp1)
    have gx2 : mup M1 p1 (.lst ((linesOf text).map D.str)) x = some (.sl a.c_Tongue (slotsOf text cs es)) := Le.new hp1 _ _ gx
    have g1 : mup M1 p1 (.lst ((linesOf text).map D.str)) p1 = some (.lst ((linesOf text).map D.str)) := mup_same
    have hp : mup M1 p1 (.lst ((linesOf text).map D.str)) p = none := hp
    show cloop3 _ _ _ (fun M => LstAt M p1 ((linesOf text).map D.str)) _ p ((linesOf text).map D.str) _ (mup (mup M1 p1 (.lst ((linesOf text).map D.str))) p (.lst []))
    generalize mup M1 p1 (.lst ((linesOf text).map D.str)) = M2 at l2' gx2 g1 hp ⊢
    have np : ∀ {b u}, M2 b = some u → b ≠ p := fun e z => by rw [z, hp] at e; cases e
    refine cloop_grow (M0 := M2) (f := lineD) _ [] _ (by simp [l2, sizeLine_eq]) (fun M' h => .inl (h _ _ (np g1) g1)) (fun b u hb e => by rw [mup_ne hb]; exact e) mup_same (fun d hd M' Q' _ hq => ?_) fun M3 k3 g3 => ?_
    · obtain ⟨l, hml, rfl⟩ := List.mem_map.mp hd
      have ll := lines_short hml
      walk_at "vc"
      refine ⟨.str l, rfl, l, rfl, by decide, by rw [sizeLine_eq]; omega, fun a1 h1 => ?_⟩
      refine s_cut mup_lst fun a2 h2 => ?_
      rw [tail_cut, ← List.map_drop]
      exact s_tuple mup_lst (hq _ ((Le.new h1).trans (Le.new h2)))
    · rw [List.nil_append] at g3
      have l3' : Le M M3 := fun b u e => k3 b u (np (l2' _ _ e)) (l2' _ _ e)
      have gx3 := k3 _ _ (np gx2) gx2
      have e0 : atI (((linesOf text).map D.str).map lineD) 0 = some (.tup (cs.map D.str)) := by
        rw [show (0 : Int) = ((0 : Nat) : Int) from rfl, atI_n, List.getElem?_map, List.getElem?_map, getD_at (show 0 < (linesOf text).length by omega), ec]
        rfl
      have e1 : atI (((linesOf text).map D.str).map lineD) 1 = some (.tup (es.map D.str)) := by
        rw [show (1 : Int) = ((1 : Nat) : Int) from rfl, atI_n, List.getElem?_map, List.getElem?_map, getD_at (show 1 < (linesOf text).length by omega), ee]
        rfl
      unfold r_law_is_read_4
      walk_at "vc"
      refine s_ix (.inl g3) e0 (s_ix (.inl g3) e1 ⟨by simp [sizeLine_eq], fun p4 hp4 => ?_⟩)
      have g4 : mup M3 p4 (.lst [.int 1, .int 2, .int 4, .int 8]) p = some (.lst (((linesOf text).map D.str).map lineD)) := Le.new hp4 _ _ g3
      refine s_ix (.inl g4) e0 ?_
      walk_at "vc"
      rw [List.length_map]
      refine s_ix mup_lst (d := .int (2 ^ cs.length)) ?_ ⟨by simp [sizeLine_eq], ?_⟩
      · have : cs.length = 0 ∨ cs.length = 1 ∨ cs.length = 2 ∨ cs.length = 3 := by omega
        rcases this with z | z | z | z <;> rw [z] <;> rfl
      unfold r_law_is_read_5
      walk_at "vc"
      have gx4 : mup M3 p4 (.lst [.int 1, .int 2, .int 4, .int 8]) x = some (.sl a.c_Tongue (slotsOf text cs es)) := Le.new hp4 _ _ gx3
      have l4 := l3'.trans (Le.new (o := .lst [.int 1, .int 2, .int 4, .int 8]) hp4)
      have al : ∀ n, ((linesOf text).getD n "").length ≤ 900 ∧ Asc ((linesOf text).getD n "") := fun n => by
        rw [List.getD_eq_getElem?_getD]
        cases e : (linesOf text)[n]? with
        | none => exact ⟨by decide, by unfold Asc; decide⟩
        | some l =>
          have hm := List.mem_of_getElem? e
          exact ⟨by have := lines_short hm; show l.length ≤ 900; omega, asc_split ha l hm⟩
      have so : ShowOk (pyD (toldD text cs es cs.length)) := by
        refine told_ok l3 hl ha (by omega) ?_ ?_ ?_
        · rw [ee]; have := names_len ((linesOf text).getD 1 ""); have := (al 1).1; omega
        · intro z hz; rw [ec] at hz; exact ⟨by have := names_short hz; have := (al 0).1; omega, asc_split (al 0).2 z (List.mem_of_mem_drop hz)⟩
        · intro z hz; rw [ee] at hz; exact ⟨by have := names_short hz; have := (al 1).1; omega, asc_split (al 1).2 z (List.mem_of_mem_drop hz)⟩
      have pd : pureD (toldD text cs es cs.length) = true := by simp only [toldD, pureD, pureDs, pure_strs, Bool.and_true, Bool.true_and]
      refine ⟨_, rfl, x, _, rfl, gx4, x, _, _, rfl, gx4, rfl, ?_⟩
      refine ⟨_, rfl, x, _, rfl, gx4, x, _, _, rfl, gx4, rfl, ?_⟩
      refine ⟨_, rfl, x, _, rfl, gx4, x, _, _, rfl, gx4, rfl, ?_⟩
      refine ⟨_, rfl, x, _, rfl, gx4, x, _, cs.map D.str, rfl, gx4, rfl, by rw [List.length_map]; omega, ?_⟩
      rw [List.length_map]
      refine ⟨by simp [sizeLine_eq], ?_⟩
      refine ⟨pyD (toldD text cs es cs.length), rdP_of _ pd, so, pyD (toldD text cs es cs.length), rdP_of _ pd, so, eq_strs (by decide) ?_⟩
      rw [show ((pyD (toldD text cs es cs.length)).shown == (pyD (toldD text cs es cs.length)).shown) = true from beq_self_eq_true _]
      exact ⟨M, l4, q⟩
end Wd
end

section
set_option Elab.async false
set_option linter.all false
set_option maxRecDepth 100000
set_option maxHeartbeats 400000
namespace Wd
open PySem PySem.Spec PyProof.Rows L2 L3
local macro_rules | `(tactic| walk_at "vc") => `(tactic| try simp only [seq3, ifS3, or3, and3, not3, tst3, tstB, callB3, cons3, nil3, con3, var3, bin3, chain3, un3, set3, ret3, retN3, next3, drop3, asg3, par3, name3, gtup3, gcons3, gnil3, gsub3, if3, andV3, orV3, notV3, tup3, lst3, part3, noP3, slice3, split3, join3, append3, popAt3, dget3, star3, lenSet3, rev3, disp3, dnew3, pairs3, call3, make3, aug3, yes3, r1_3, lstRg3, ends3,
  e_cmpI, e_addI, e_addS, e_addT, e_sub, e_mul, e_mod, e_fdiv, e_pow, e_isN, e_lenS, e_lenT, e_intI, e_intB, e_abs, e_max, e_min, e_tupT, e_truB, e_truN, e_truI, e_nonN, e_nonI, e_nonB, e_nonS, e_nonT, e_nonR,
  List.getElem?_cons_zero, List.getElem?_cons_succ, List.set_cons_zero, List.set_cons_succ, Option.some.injEq, exists_eq_left', exists_eq_left, exists_and_left, D.bl.injEq, D.int.injEq, D.str.injEq, D.ref.injEq, D.tup.injEq, List.cons.injEq, and_true, true_and, if_true, if_false, Bool.false_eq_true, reduceCtorEq, false_and, and_false, false_or, or_false, Bool.not_true, Bool.not_false, id, decide_eq_true_eq])
/-! ### a drawn tongue's text is read -/
theorem free_join {P : Nat → Prop} {y : Str} (hy : ∀ c ∈ y.cps.toList, P c) : ∀ {l : List Str}, (∀ x ∈ l, ∀ c ∈ x.cps.toList, P c) → ∀ c ∈ (Str.join y l).cps.toList, P c
  | [], _, c, hc => by simp [Str.join, Str.empty] at hc
  | [x], h, c, hc => h x (by simp) c hc
  | x :: z :: l, h, c, hc => by
    have hc : c ∈ (x ++ y ++ Str.join y (z :: l)).cps.toList := hc
    rw [Str.cps_append, Array.toList_append, Str.cps_append, Array.toList_append, List.mem_append, List.mem_append] at hc
    rcases hc with (hc | hc) | hc
    · exact h x (by simp) c hc
    · exact hy c hc
    · exact free_join hy (fun u hu => h u (List.mem_cons_of_mem _ hu)) c hc
theorem pool_ok : ∀ x ∈ pool1 ++ pool2, x.length ≤ 3 ∧ isName x = true ∧ ∀ c ∈ x.cps.toList, c ≠ 32 ∧ c ≠ 10 ∧ c < 128 := by decide +kernel
theorem head_ok : ∀ x ∈ (["conditions", "deeds"] : List Str), x.length ≤ 10 ∧ ∀ c ∈ x.cps.toList, c ≠ 32 ∧ c ≠ 10 ∧ c < 128 := by decide +kernel
/-- a drawn line -/
theorem line_words {h : Str} {ws : List Str} (hh : h ∈ (["conditions", "deeds"] : List Str)) (hw : ∀ x ∈ ws, x ∈ pool1 ++ pool2) : wordsOf (Txt.join " " (h :: ws)) = h :: ws := by
  refine TL.split_join (s := 32) (S := []) rfl (by decide +kernel) (by simp) fun p hp z => ?_
  rcases List.mem_cons.mp hp with rfl | hp
  · exact ((head_ok _ hh).2 _ z).1 rfl
  · exact ((pool_ok _ (hw p hp)).2.2 _ z).1 rfl
theorem line_free {h : Str} {ws : List Str} (hh : h ∈ (["conditions", "deeds"] : List Str)) (hw : ∀ x ∈ ws, x ∈ pool1 ++ pool2) : ∀ c ∈ (Txt.join " " (h :: ws)).cps.toList, c ≠ 10 ∧ c < 128 := by
  rw [join_is]
  refine free_join (by decide) fun x hx c hc => ?_
  rcases List.mem_cons.mp hx with rfl | hx
  · exact ((head_ok _ hh).2 c hc).2
  · exact ((pool_ok _ (hw x hx)).2.2 c hc).2
theorem text_join (cs es : List Str) : textOf cs es = Txt.join "\n" [Txt.join " " ("conditions" :: cs), Txt.join " " ("deeds" :: es)] := by
  rw [join_is]
  rfl
theorem drawn_text {cs es : List Str} (d : Drawn cs es 3 4) : linesOf (textOf cs es) = [Txt.join " " ("conditions" :: cs), Txt.join " " ("deeds" :: es)] ∧ progOf (textOf cs es) = .inr (cs, es) ∧ (textOf cs es).length ≤ 90 ∧ Asc (textOf cs es) := by
  have m1 : ∀ x ∈ cs, x ∈ pool1 ++ pool2 := fun x hx => List.mem_append_left _ (d.m1 x hx)
  have m2 : ∀ x ∈ es, x ∈ pool1 ++ pool2 := fun x hx => List.mem_append_right _ (d.m2 x hx)
  have h1 : ("conditions" : Str) ∈ (["conditions", "deeds"] : List Str) := by simp
  have h2 : ("deeds" : Str) ∈ (["conditions", "deeds"] : List Str) := by simp
  have f1 := line_free h1 m1
  have f2 := line_free h2 m2
  have ln : linesOf (textOf cs es) = [Txt.join " " ("conditions" :: cs), Txt.join " " ("deeds" :: es)] := by
    rw [text_join]
    refine TL.split_join (s := 10) (S := []) rfl (by decide +kernel) (by simp) fun p hp z => ?_
    simp only [List.mem_cons, List.not_mem_nil, or_false] at hp
    rcases hp with rfl | rfl
    · exact (f1 _ z).1 rfl
    · exact (f2 _ z).1 rfl
  refine ⟨ln, ?_, ?_, ?_⟩
  · unfold progOf
    rw [ln]
    have w1 := line_words h1 m1
    have w2 := line_words h2 m2
    have n1 : namesOf (Txt.join " " ("conditions" :: cs)) = cs := by unfold namesOf; rw [w1]; rfl
    have n2 : namesOf (Txt.join " " ("deeds" :: es)) = es := by unfold namesOf; rw [w2]; rfl
    have a1 : cs.all isName = true := List.all_eq_true.mpr fun x hx => (pool_ok x (m1 x hx)).2.1
    have a2 : es.all isName = true := List.all_eq_true.mpr fun x hx => (pool_ok x (m2 x hx)).2.1
    have b1 : bad (Txt.join " " ("conditions" :: cs)) "conditions" 0 3 = false := by
      unfold bad
      rw [n1, w1, a1]
      simp [d.l1]
    have b2 : bad (Txt.join " " ("deeds" :: es)) "deeds" 1 4 = false := by
      unfold bad
      rw [n2, w2, a2]
      simp [d.l2.1, d.l2.2]
    have p1 : partOf (Txt.join " " ("conditions" :: cs)) "conditions" 0 3 [] = some cs := by
      unfold partOf
      rw [b1, n1, if_neg (by decide), List.append_nil, if_pos d.n1]
    have p2 : partOf (Txt.join " " ("deeds" :: es)) "deeds" 1 4 cs = some es := by
      unfold partOf
      rw [b2, n2, if_neg (by decide), if_pos]
      rw [List.nodup_append]
      refine ⟨d.n2, d.n1, fun x hx y hy e => ?_⟩
      subst e
      have : ∀ z ∈ pool1, z ∉ pool2 := by decide +kernel
      exact this _ (d.m1 _ hy) (d.m2 _ hx)
    show (match partOf (Txt.join " " ("conditions" :: cs)) "conditions" 0 3 [] with | none => _ | some cs => _) = _
    rw [p1]
    show (match partOf (Txt.join " " ("deeds" :: es)) "deeds" 1 4 cs with | none => _ | some es => _) = _
    rw [p2]
    rfl
  · rw [text_join]
    have l1 := join_le (k := 10) (m := 4) (y := " ") (l := "conditions" :: cs) (fun x hx => by
      rcases List.mem_cons.mp hx with rfl | hx
      · exact (head_ok _ h1).1
      · have := (pool_ok x (m1 x hx)).1; omega) (by have := d.l1; simp; omega) (by decide)
    have l2 := join_le (k := 5) (m := 5) (y := " ") (l := "deeds" :: es) (fun x hx => by
      rcases List.mem_cons.mp hx with rfl | hx
      · decide
      · have := (pool_ok x (m2 x hx)).1; omega) (by have := d.l2.2; simp; omega) (by decide)
    have := join_wt (y := "\n") (l := [Txt.join " " ("conditions" :: cs), Txt.join " " ("deeds" :: es)]) (by decide)
    simp [wt] at this
    omega
  · rw [text_join, join_is]
    refine asc_join (by unfold Asc; decide) fun x hx => ?_
    simp only [List.mem_cons, List.not_mem_nil, or_false] at hx
    rcases hx with rfl | rfl
    · exact fun c hc => (f1 c hc).2
    · exact fun c hc => (f2 c hc).2
/-! ### right -/
def mdel (M : HM) (p : Addr) : HM := fun b => if b = p then none else M b
theorem mdel_le {M M' : HM} {p : Addr} (h : Kp p M M') : Le (mdel M p) M' := fun b u e => by
  unfold mdel at e
  by_cases hb : b = p
  · rw [if_pos hb] at e; cases e
  · rw [if_neg hb] at e; exact h b u hb e
theorem mdel_mup {M : HM} {p : Addr} {o : MO} (h : M p = none) : mdel (mup M p o) p = M := by
  funext b
  unfold mdel mup
  by_cases hb : b = p
  · rw [if_pos hb, hb, h]
  · rw [if_neg hb, if_neg hb]
def sp_law_right : Sp3 := fun ds M Q _ => ∃ p, ds = [.ref p] ∧ PotOk 0 M p ∧ Q (.bl true) (mdel M p)
def r_law_right_3b_1 (K : PySem.W.Frag) (a : Ad) : S3 := ifS3 (or3 (not3 (tst3 (call3 sp_law_is_read noX (cons3 (var3 4) (nil3))))) (and3 (tstB (bin3 (isN3 id) (call3 sp_law_wrong noX (cons3 (var3 4) (nil3))) (con3 .non))) (tstB (bin3 (eq3 100 not) (bin3 (eqOwn3 K a.c_Tongue (sp_eq K a) noX) (make3 a.c_Tongue (sp_init K a) noX (cons3 (var3 4) (nil3))) (var3 2)) (bin3 (eq3 100 id) (var3 4) (var3 1)))))) (ret3 (con3 (.bl false))) (next3)
def r_law_right_3b (K : PySem.W.Frag) (a : Ad) : S3 := seq3 (set3 (call3 sp_law_near noX (cons3 (var3 0) (cons3 (var3 1) (nil3)))) 4)
  (r_law_right_3b_1 K a)
def r_law_right_6 (K : PySem.W.Frag) (a : Ad) : S3 := ret3 (andV3 (callB3 (isi3 K) (cons3 (var3 6) (cons3 (con3 (.ref a.c_BadTongue)) (nil3)))) (bin3 (eq3 100 id) (callB3 repr3 (cons3 (excVal3 K (var3 6)) (nil3))) (con3 (.str ("0" : Str)))))
def r_law_right_5 (K : PySem.W.Frag) (a : Ad) : S3 := seq3 (set3 (bin3 ix3 (heard3 K a.c_DeedError (fun EX => make3 a.c_Tongue (sp_init K a) EX (cons3 (var3 5) (nil3)))) (con3 (.int 0))) 6)
  (r_law_right_6 K a)
def r_law_right_4 (K : PySem.W.Frag) (a : Ad) : S3 := seq3 (set3 (call3 sp_law_of noX (cons3 (var3 0) (cons3 (lst3 (cons3 (con3 .non) (cons3 (con3 (.int 0)) (cons3 (con3 (.bl true)) (cons3 (tup3 (cons3 (var3 1) (nil3))) (cons3 (lst3 (cons3 (var3 1) (nil3))) (cons3 (dnew3) (nil3)))))))) (nil3)))) 5)
  (r_law_right_5 K a)
def r_law_right_3 (K : PySem.W.Frag) (a : Ad) : S3 := seq3 (for3 (irng3 (cons3 (con3 (.int 12)) (nil3))) (name3 3) (r_law_right_3b K a))
  (r_law_right_4 K a)
def r_law_right_2 (K : PySem.W.Frag) (a : Ad) : S3 := seq3 (ifS3 (or3 (not3 (tst3 (call3 sp_law_is_read noX (cons3 (var3 1) (nil3))))) (or3 (not3 (tstB (bin3 (eqOwn3 K a.c_Tongue (sp_eq K a) noX) (var3 2) (make3 a.c_Tongue (sp_init K a) noX (cons3 (var3 1) (nil3)))))) (or3 (tstB (bin3 (neOwn3 K a.c_Tongue (sp_eq K a) noX) (var3 2) (make3 a.c_Tongue (sp_init K a) noX (cons3 (var3 1) (nil3))))) (tstB (bin3 (eqOwn3 K a.c_Tongue (sp_eq K a) noX) (var3 2) (var3 1)))))) (ret3 (con3 (.bl false))) (next3))
  (r_law_right_3 K a)
def r_law_right_1 (K : PySem.W.Frag) (a : Ad) : S3 := seq3 (set3 (make3 a.c_Tongue (sp_init K a) noX (cons3 (var3 1) (nil3))) 2)
  (r_law_right_2 K a)
def r_law_right (K : PySem.W.Frag) (a : Ad) : S3 := seq3 (set3 (call3 sp_law_tongue_text noX (cons3 (call3 sp_law_tongue noX (cons3 (var3 0) (cons3 (con3 (.int 3)) (cons3 (con3 (.int 4)) (nil3))))) (nil3))) 1)
  (r_law_right_1 K a)
theorem PotOk.le {n : Nat} {M M' : HM} {p : Addr} (h : PotOk n M p) (l : Le M M') : PotOk n M' p := let ⟨o, h1, h2⟩ := h; ⟨o, l _ _ h1, h2⟩
/-- the first of a pair -/
theorem right_6 {K : PySem.W.Frag} {a : Ad} (F : Facts K a) {M M0 : HM} {Q : K3} {c : Addr} {x0 x1 x2 x3 x4 x5 : Option D} (hc : M c = some (.exc a.c_BadTongue (.int 0))) (le : Le M0 M) (q : Q (.bl true) M0) : r_law_right_6 K a (ends3 Q) [x0, x1, x2, x3, x4, x5, some (.ref c)] M := by
  unfold r_law_right_6
  walk_at "vc"
  have ty : TyD K M (.ref c) (.ref a.c_BadTongue) := .exc hc F.ek
  refine ⟨_, .ref a.c_BadTongue, _, _, true, rfl, rfl, ty, F.kb, _, rfl, ?_⟩
  refine ⟨_, rfl, c, _, .int 0, rfl, hc, F.ek, ?_⟩
  refine ⟨.int 0, rfl, ⟨by decide, by decide, by decide⟩, eq_strs (by decide) ?_⟩
  rw [show ((PyData.int 0).shown == ("0" : Str)) = true by decide]
  exact ⟨M0, le, q⟩
theorem ty_le {K : PySem.W.Frag} {M M' : HM} {d : D} {t : Value} (l : Le M M') (h : TyD K M d t) : TyD K M' d t := by
  cases h with
  | non => exact .non
  | bl b => exact .bl b
  | int i => exact .int i
  | str x => exact .str x
  | tup ds => exact .tup ds
  | lst h => exact .lst (h.elim (fun h => .inl (l _ _ h)) fun h => .inr (l _ _ h))
  | dk h => exact .dk (l _ _ h)
  | sl h c i => exact .sl (l _ _ h) c i
  | exc h c => exact .exc (l _ _ h) c
theorem right_5 {K : PySem.W.Frag} {a : Ad} (F : Facts K a) {M M0 : HM} {Q : K3} {d : D} {t : String} {x0 x1 x2 x3 x4 : Option D} (ty : TyD K M d (.type t)) (kt : kitB t "str" = some false) (le : Le M0 M) (q : Q (.bl true) M0) : r_law_right_5 K a (ends3 Q) [x0, x1, x2, x3, x4, some d, none] M := by
  unfold r_law_right_5
  walk_at "vc"
  unfold heard3
  walk_at "vc"
  intro x hx
  refine ⟨x, d, rfl, mup_same, .inl ⟨t, ty_le (Le.new hx) ty, kt, fun M' l => ⟨F.exm, fun c hc => ?_⟩⟩⟩
  refine s_ixT (d := .ref c) rfl ?_
  refine right_6 F (c := c) mup_same (le.trans ((Le.new hx).trans (l.trans (Le.new hc)))) q
theorem right_4 {K : PySem.W.Frag} {a : Ad} (F : Facts K a) {M M0 : HM} {Q : K3} {p : Addr} {T : Str} {n : Nat} {x2 x3 x4 : Option D} (P : PotOk n M p) (hn : n < 2 ^ 20) (k : Kp p M0 M) (q : Q (.bl true) (mdel M0 p)) : r_law_right_4 K a (ends3 Q) [some (.ref p), some (.str T), x2, x3, x4, none, none] M := by
  unfold r_law_right_4
  walk_at "vc"
  refine ⟨by simp [sizeLine_eq], by simp [sizeLine_eq], fun l1 h1 d1 g1 => ⟨by simp [sizeLine_eq], fun c hc => ?_⟩⟩
  have le : Le M (mup (mup (mup M l1 (.lst [.str T])) d1 (.dk [])) c (.lst [.non, .int 0, .bl true, .tup [.str T], .ref l1, .ref d1])) := (Le.new h1).trans ((Le.new g1).trans (Le.new hc))
  have P2 := P.le le
  have e1 : mup (mup (mup M l1 (.lst [.str T])) d1 (.dk [])) c (.lst [.non, .int 0, .bl true, .tup [.str T], .ref l1, .ref d1]) l1 = some (.lst [.str T]) := Le.new hc _ _ (Le.new g1 _ _ mup_same)
  have e2 : mup (mup (mup M l1 (.lst [.str T])) d1 (.dk [])) c (.lst [.non, .int 0, .bl true, .tup [.str T], .ref l1, .ref d1]) d1 = some (.dk []) := Le.new hc _ _ mup_same
  have e3 : mup (mup (mup M l1 (.lst [.str T])) d1 (.dk [])) c (.lst [.non, .int 0, .bl true, .tup [.str T], .ref l1, .ref d1]) c = some (.lst [.non, .int 0, .bl true, .tup [.str T], .ref l1, .ref d1]) := mup_same
  have hM : M p ≠ none := by obtain ⟨o, h, _⟩ := P; rw [h]; exact fun z => by cases z
  have n3 : c ≠ p := fun z => by rw [z] at hc; obtain ⟨o, h, _⟩ := P; have := ((Le.new (o := .lst [.str T]) h1).trans (Le.new (o := .dk []) g1)) _ _ h; rw [this] at hc; cases hc
  have n1 : l1 ≠ p := fun z => hM (by rw [z] at h1; exact h1)
  have n2 : d1 ≠ p := fun z => by rw [z] at g1; obtain ⟨o, h, _⟩ := P; rw [Le.new h1 _ _ h] at g1; cases g1
  have k2 : Kp p M0 (mup (mup (mup M l1 (.lst [.str T])) d1 (.dk [])) c (.lst [.non, .int 0, .bl true, .tup [.str T], .ref l1, .ref d1])) := k.le le
  generalize mup (mup (mup M l1 (.lst [.str T])) d1 (.dk [])) c (.lst [.non, .int 0, .bl true, .tup [.str T], .ref l1, .ref d1]) = M2 at P2 e1 e2 e3 k2 ⊢
  refine ⟨p, c, _, n, rfl, P2, hn, .inl e3, n3, by simp, by simp, fun d o hd ho => ?_⟩
  have l2 : Le (mdel M0 p) (mup M2 p o) := mdel_le fun b u hb e => by rw [mup_ne hb]; exact k2 b u hb e
  simp only [List.mem_cons, List.not_mem_nil, or_false] at hd
  rcases hd with rfl | rfl | rfl | rfl | rfl | rfl
  · exact right_5 F .non (by decide +kernel) l2 q
  · exact right_5 F (.int 0) (by decide +kernel) l2 q
  · exact right_5 F (.bl true) (by decide +kernel) l2 q
  · exact right_5 F (.tup _) (by decide +kernel) l2 q
  · exact right_5 F (.lst (.inl (by rw [mup_ne n1]; exact e1))) (by decide +kernel) l2 q
  · exact right_5 F (.dk (by rw [mup_ne n2]; exact e2)) (by decide +kernel) l2 q
theorem right_3b {K : PySem.W.Frag} {a : Ad} (F : Facts K a) {M : HM} {Dn : End3} {p x : Addr} {T : Str} {n : Nat} {v w : Option D} {cs es : List Str} (P : PotOk n M p) (hn : n + 20 < 2 ^ 20) (hT : T.length ≤ 90) (aT : Asc T) (gx : M x = some (.sl a.c_Tongue (slotsOf T cs es)))
    (hxp : x ≠ p) (q : ∀ w M', Kp p M M' → PotOk (n + 20) M' p → Dn.nx [some (.ref p), some (.str T), some (.ref x), v, w, none, none] M') : r_law_right_3b K a Dn [some (.ref p), some (.str T), some (.ref x), v, w, none, none] M := by
  unfold r_law_right_3b
  walk_at "vc"
  refine ⟨p, T, n, rfl, P, hn, hT, aT, fun near M1 hn1 an k1 P1 => ?_⟩
  unfold r_law_right_3b_1
  walk_at "vc"
  refine ⟨near, rfl, hn1, an, ?_⟩
  walk_at "vc"
  have gx1 := k1 _ _ hxp gx
  refine ⟨near, rfl, hn1, ?_⟩
  show (if isNonD (wrongOf near) = true then _ else _)
  obtain ⟨pw1, pw2⟩ := prog_wrong near
  cases e : progOf near with
  | inl k =>
    obtain ⟨ew, hk⟩ := pw1 k e
    rw [ew]
    walk_at "vc"
    exact q _ _ k1 P1
  | inr r =>
    obtain ⟨cs', es'⟩ := r
    obtain ⟨ew, _⟩ := pw2 cs' es' e
    rw [ew]
    walk_at "vc"
    intro y hy
    refine ⟨y, _, rfl, mup_same, .inr ⟨near, rfl, hn1, .inr ⟨cs', es', e, rfl, ?_⟩⟩⟩
    rw [mup_mup]
    have l2 : Le M1 (mup M1 y (.sl a.c_Tongue (slotsOf near cs' es'))) := Le.new hy
    have gy : mup M1 y (.sl a.c_Tongue (slotsOf near cs' es')) y = some (.sl a.c_Tongue (slotsOf near cs' es')) := mup_same
    have P2 := P1.le l2
    have k2 : Kp p M (mup M1 y (.sl a.c_Tongue (slotsOf near cs' es'))) := Kp.le k1 l2
    have gx2 := l2 _ _ gx1
    generalize mup M1 y (.sl a.c_Tongue (slotsOf near cs' es')) = M2 at gy P2 k2 gx2 ⊢
    refine ⟨y, _, _, rfl, gy, .sl gx2 F.sc F.si, F.nt, y, _, near, _, rfl, gy, rfl, .inr ⟨x, _, T, rfl, gx2, .sl gx2 F.sc F.si, rfl, ?_⟩⟩
    refine eq_strs (by decide) (eq_bls ?_)
    rw [show (!((near == T) == id (near == T))) = false from by rw [id, beq_self_eq_true, Bool.not_true]]
    exact ⟨_, rfl, q _ _ k2 P2⟩
theorem vc_law_right {K : PySem.W.Frag} {a : Ad} (F : Facts K a) {ds : List D} {M : HM} {Q : K3} {EX : X3} (h : sp_law_right ds M Q EX) : r_law_right K a (ends3 Q) (start3 ["pot", "text", "tongue", "lap", "near", "odd", "caught"] ds) M := by
  obtain ⟨p, rfl, P, q⟩ := h
  show r_law_right K a (ends3 Q) [some (.ref p), none, none, none, none, none, none] M
  unfold r_law_right
  walk_at "vc"
  refine ⟨p, 3, 4, 0, rfl, P, by decide, by decide, by decide, by decide, fun M1 d q1 q2 cs es k1 P1 _ hd h1 h2 dr => ?_⟩
  have b1 : ∀ x ∈ cs, x.length ≤ 4 := fun x hx => by have := (pool_ok x (List.mem_append_left _ (dr.m1 x hx))).1; omega
  have b2 : ∀ x ∈ es, x.length ≤ 4 := fun x hx => by have := (pool_ok x (List.mem_append_right _ (dr.m2 x hx))).1; omega
  refine ⟨d, q1, q2, cs, es, rfl, hd, h1, h2, by have := dr.l1; omega, dr.l2.2, b1, b2, ?_⟩
  obtain ⟨_, ep, el, ea⟩ := drawn_text dr
  generalize textOf cs es = T at ep el ea ⊢
  have k1 : Kp p M M1 := k1
  unfold r_law_right_1
  walk_at "vc"
  intro x hx
  refine ⟨x, _, rfl, mup_same, .inr ⟨T, rfl, by omega, .inr ⟨cs, es, ep, rfl, ?_⟩⟩⟩
  rw [mup_mup]
  have k2 : Kp p M (mup M1 x (.sl a.c_Tongue (slotsOf T cs es))) := k1.le (Le.new hx)
  have P2 : PotOk 20 (mup M1 x (.sl a.c_Tongue (slotsOf T cs es))) p := P1.le (Le.new hx)
  have gx : mup M1 x (.sl a.c_Tongue (slotsOf T cs es)) x = some (.sl a.c_Tongue (slotsOf T cs es)) := mup_same
  have hpx : x ≠ p := fun z => by obtain ⟨o, h, _⟩ := P1; rw [z, h] at hx; cases hx
  generalize mup M1 x (.sl a.c_Tongue (slotsOf T cs es)) = M2 at k2 P2 gx ⊢
  have readOk : ∀ M, ∃ text : Str, [D.str T] = [D.str text] ∧ text.length ≤ 900 ∧ Asc text := fun _ => ⟨T, rfl, by omega, ea⟩
  unfold r_law_right_2
  walk_at "vc"
  refine ⟨T, rfl, by omega, ea, ?_⟩
  walk_at "vc"
  intro y hy
  refine ⟨y, _, rfl, mup_same, .inr ⟨T, rfl, by omega, .inr ⟨cs, es, ep, rfl, ?_⟩⟩⟩
  rw [mup_mup]
  have l3 : Le M2 (mup M2 y (.sl a.c_Tongue (slotsOf T cs es))) := Le.new hy
  have gy : mup M2 y (.sl a.c_Tongue (slotsOf T cs es)) y = some (.sl a.c_Tongue (slotsOf T cs es)) := mup_same
  generalize mup M2 y (.sl a.c_Tongue (slotsOf T cs es)) = M3 at l3 gy ⊢
  have gx3 := l3 _ _ gx
  refine ⟨x, _, _, rfl, gx3, .sl gy F.sc F.si, F.nt, x, _, T, _, rfl, gx3, rfl, .inr ⟨y, _, T, rfl, gy, .sl gy F.sc F.si, rfl, ?_⟩⟩
  rw [show (T == T) = true from beq_self_eq_true _]
  walk_at "vc"
  intro z hz
  refine ⟨z, _, rfl, mup_same, .inr ⟨T, rfl, by omega, .inr ⟨cs, es, ep, rfl, ?_⟩⟩⟩
  rw [mup_mup]
  have l4 : Le M3 (mup M3 z (.sl a.c_Tongue (slotsOf T cs es))) := Le.new hz
  have gz : mup M3 z (.sl a.c_Tongue (slotsOf T cs es)) z = some (.sl a.c_Tongue (slotsOf T cs es)) := mup_same
  generalize mup M3 z (.sl a.c_Tongue (slotsOf T cs es)) = M4 at l4 gz ⊢
  have gx4 := l4 _ _ gx3
  refine ⟨x, _, _, rfl, gx4, .sl gz F.sc F.si, F.nt, x, _, T, _, rfl, gx4, rfl, .inr ⟨z, _, T, rfl, gz, .sl gz F.sc F.si, rfl, ?_⟩⟩
  rw [show (T == T) = true from beq_self_eq_true _]
  refine ⟨_, rfl, ?_⟩
  walk_at "vc"
  refine ⟨x, _, _, rfl, gx4, .str T, F.ns, x, _, T, _, rfl, gx4, rfl, .inl ⟨_, .str T, F.ks, ?_⟩⟩
  walk_at "vc"
  have k4 : Kp p M M4 := k2.le (l3.trans l4)
  have P4 := P2.le (l3.trans l4)
  unfold r_law_right_3
  walk_at "vc"
  refine ⟨12, rfl, by decide, by decide, ?_⟩
  refine loop_inv (fun i s M' => ∃ v w, s = [some (.ref p), some (.str T), some (.ref x), v, w, none, none] ∧ Kp p M M' ∧ PotOk (20 + 20 * i) M' p ∧ M' x = some (.sl a.c_Tongue (slotsOf T cs es))) ?_ ?_ _ _ ⟨none, none, rfl, k4, P4, gx4⟩
  · rintro i d s M' K' hd ⟨v, w, rfl, k5, P5, gx5⟩ hK
    refine ⟨trivial, ?_⟩
    walk_at "vc"
    have hi : i < 12 := by
      rcases Nat.lt_or_ge i 12 with h | h
      · exact h
      · rw [List.getElem?_eq_none (by exact h)] at hd; cases hd
    exact right_3b F P5 (by omega) el ea gx5 hpx fun w M6 k6 P6 => hK _ _ ⟨_, _, rfl, fun b u hb e => k6 b u hb (k5 b u hb e), P6, k6 _ _ hpx gx5⟩
  · rintro s M' ⟨v, w, rfl, k5, P5, gx5⟩
    exact ⟨trivial, right_4 F P5 (by decide) k5 q⟩
/-! ### the law -/
def sp_law : Sp3 := fun ds M Q _ => ∃ (l : Addr) (ns : List Int), ds = [.ref l] ∧ LstAt M l (ns.map D.int) ∧ ns.length ≤ 63 ∧ Q (.bl true) M
def r_law : S3 := ret3 (callB3 all3 (cons3 (lc3 (ilst3 (call3 sp_law_cells noX (cons3 (var3 0) (cons3 (con3 (.int 3)) (nil3))))) (name3 1) (yes3) (call3 sp_law_right noX (cons3 (call3 sp_law_pot noX (cons3 (var3 0) (cons3 (var3 1) (nil3)))) (nil3))) [1]) (nil3)))
theorem vc_law {ds : List D} {M : HM} {Q : K3} {EX : X3} (h : sp_law ds M Q EX) : r_law (ends3 Q) (start3 ["script", "at"] ds) M := by
  obtain ⟨l, ns, rfl, hl, hn, q⟩ := h
  unfold r_law
  walk_at "vc"
  unfold lc3 ilst3
  walk_at "vc"
  refine ⟨_, rfl, l, 3, ns.map D.int, rfl, hl, by decide, by rw [List.length_map, sizeLine_eq]; omega, fun p hp m hm => ⟨p, rfl, _, mup_lst, fun c hc => ?_⟩⟩
  have hl2 : LstAt (mup M p (.lst ((List.range m).map fun i => D.int (i : Nat)))) l (ns.map .int) := hl.up hp
  have ln : Le M (mup M p (.lst ((List.range m).map fun i => D.int (i : Nat)))) := Le.new hp
  have e1 : LstAt (mup M p (.lst ((List.range m).map fun i => D.int (i : Nat)))) p ((List.range m).map fun i => D.int (i : Nat)) := mup_lst
  generalize mup M p (.lst ((List.range m).map fun i => D.int (i : Nat))) = M1 at hl2 ln e1 hc ⊢
  refine cloop_pure (f := fun _ => .bl true) _ [] (by simp [sizeLine_eq]; omega) (fun acc => e1.up hc) (fun d hd acc Q' hq => ?_) ?_
  · obtain ⟨i, hi, rfl⟩ := List.mem_map.mp hd
    have hi : i < m := List.mem_range.mp hi
    show call3 sp_law_right noX _ [some (.ref l), some (.int i)] _ _
    walk_at "vc"
    refine ⟨l, i, ns, rfl, hl2.up hc, by omega, by rw [sizeLine_eq]; omega, fun b o hb ho => ?_⟩
    refine ⟨b, rfl, ⟨o, mup_same, ho⟩, ?_⟩
    rw [mdel_mup hb]
    exact hq
  · refine s_all (bs := (List.range m).map fun _ => true) (.inl (by rw [mup_same]; simp)) ?_
    refine ⟨M, ln.trans (Le.new hc), ?_⟩
    rw [show ((List.range m).map fun _ => true).all (fun b => b) = true by simp]
    exact q
end Wd
end

section
set_option Elab.async false
set_option linter.all false
set_option maxRecDepth 100000
set_option maxHeartbeats 400000
namespace Wd
open PySem PySem.Spec PyProof.Rows L2 L3
def top (i : Nat) : Stmt := PySem.Challenge.pw_whateverdeeds_k00_tongues_read_and_refus.main.body.getD i (.Pass ⟨0, 0, 0, 0⟩)

abbrev s_is_name : Stmt := top 6
theorem sc_is_name : FnScope ["value", "sign"] ["value"] (defScope s_is_name) := ⟨rfl, rfl, rfl, by decide +kernel, rfl, by decide +kernel, by decide +kernel⟩
abbrev s_names_in : Stmt := top 12
theorem sc_names_in : FnScope ["line", "word", "low", "high", "used", "words", "names", "every", "name"] ["line", "word", "low", "high", "used"] (defScope s_names_in) := ⟨rfl, rfl, rfl, by decide +kernel, rfl, by decide +kernel, by decide +kernel⟩
abbrev s_law_pot : Stmt := top 15
theorem sc_law_pot : FnScope ["script", "place", "cell", "own", "small"] ["script", "place"] (defScope s_law_pot) := ⟨rfl, rfl, rfl, by decide +kernel, rfl, by decide +kernel, by decide +kernel⟩
abbrev s_law_take : Stmt := top 16
theorem sc_law_take : FnScope ["pot", "upto", "digit", "prime", "blend"] ["pot", "upto"] (defScope s_law_take) := ⟨rfl, rfl, rfl, by decide +kernel, rfl, by decide +kernel, by decide +kernel⟩
abbrev s_law_of : Stmt := top 17
theorem sc_law_of : FnScope ["pot", "some"] ["pot", "some"] (defScope s_law_of) := ⟨rfl, rfl, rfl, by decide +kernel, rfl, by decide +kernel, by decide +kernel⟩
abbrev s_law_cells : Stmt := top 18
theorem sc_law_cells : FnScope ["script", "most"] ["script", "most"] (defScope s_law_cells) := ⟨rfl, rfl, rfl, by decide +kernel, rfl, by decide +kernel, by decide +kernel⟩
abbrev s_law_some : Stmt := top 19
theorem sc_law_some : FnScope ["pot", "pool", "many", "rests", "found", "lap"] ["pot", "pool", "many"] (defScope s_law_some) := ⟨rfl, rfl, rfl, by decide +kernel, rfl, by decide +kernel, by decide +kernel⟩
abbrev s_law_tongue : Stmt := top 21
theorem sc_law_tongue : FnScope ["pot", "conditions", "deeds", "some"] ["pot", "conditions", "deeds"] (defScope s_law_tongue) := ⟨rfl, rfl, rfl, by decide +kernel, rfl, by decide +kernel, by decide +kernel⟩
abbrev s_law_tongue_text : Stmt := top 22
theorem sc_law_tongue_text : FnScope ["own"] ["own"] (defScope s_law_tongue_text) := ⟨rfl, rfl, rfl, by decide +kernel, rfl, by decide +kernel, by decide +kernel⟩
abbrev s_law_is_name : Stmt := top 23
theorem sc_law_is_name : FnScope ["word", "kept", "sign"] ["word"] (defScope s_law_is_name) := ⟨rfl, rfl, rfl, by decide +kernel, rfl, by decide +kernel, by decide +kernel⟩
abbrev s_law_wrong : Stmt := top 24
theorem sc_law_wrong : FnScope ["text", "lines", "used", "number", "head", "low", "high", "words", "names", "name"] ["text"] (defScope s_law_wrong) := ⟨rfl, rfl, rfl, by decide +kernel, rfl, by decide +kernel, by decide +kernel⟩
abbrev s_law_near : Stmt := top 25
theorem sc_law_near : FnScope ["pot", "text", "lines", "at", "way", "words", "spot", "some"] ["pot", "text"] (defScope s_law_near) := ⟨rfl, rfl, rfl, by decide +kernel, rfl, by decide +kernel, by decide +kernel⟩
abbrev s_Tongue_init : Stmt := inClass (top 13) 1
theorem sc_Tongue_init : FnScope ["self", "text", "lines", "conditions", "deeds"] ["self", "text"] (defScope s_Tongue_init) := ⟨rfl, rfl, rfl, by decide +kernel, rfl, by decide +kernel, by decide +kernel⟩
abbrev s_Tongue_text : Stmt := inClass (top 13) 2
theorem sc_Tongue_text : FnScope ["self"] ["self"] (defScope s_Tongue_text) := ⟨rfl, rfl, rfl, by decide +kernel, rfl, by decide +kernel, by decide +kernel⟩
abbrev s_Tongue_conditions : Stmt := inClass (top 13) 3
theorem sc_Tongue_conditions : FnScope ["self"] ["self"] (defScope s_Tongue_conditions) := ⟨rfl, rfl, rfl, by decide +kernel, rfl, by decide +kernel, by decide +kernel⟩
abbrev s_Tongue_deeds : Stmt := inClass (top 13) 4
theorem sc_Tongue_deeds : FnScope ["self"] ["self"] (defScope s_Tongue_deeds) := ⟨rfl, rfl, rfl, by decide +kernel, rfl, by decide +kernel, by decide +kernel⟩
abbrev s_Tongue_atoms : Stmt := inClass (top 13) 5
theorem sc_Tongue_atoms : FnScope ["self"] ["self"] (defScope s_Tongue_atoms) := ⟨rfl, rfl, rfl, by decide +kernel, rfl, by decide +kernel, by decide +kernel⟩
abbrev s_Tongue_eq : Stmt := inClass (top 13) 6
theorem sc_Tongue_eq : FnScope ["self", "other"] ["self", "other"] (defScope s_Tongue_eq) := ⟨rfl, rfl, rfl, by decide +kernel, rfl, by decide +kernel, by decide +kernel⟩
abbrev s_law_is_read : Stmt := top 26
theorem sc_law_is_read : FnScope ["text", "due", "caught", "told", "lines", "own", "line"] ["text"] (defScope s_law_is_read) := ⟨rfl, rfl, rfl, by decide +kernel, rfl, by decide +kernel, by decide +kernel⟩
abbrev s_law_right : Stmt := top 27
theorem sc_law_right : FnScope ["pot", "text", "tongue", "lap", "near", "odd", "caught"] ["pot"] (defScope s_law_right) := ⟨rfl, rfl, rfl, by decide +kernel, rfl, by decide +kernel, by decide +kernel⟩
abbrev s_law : Stmt := top 28
theorem sc_law : FnScope ["script", "at"] ["script"] (defScope s_law) := ⟨rfl, rfl, rfl, by decide +kernel, rfl, by decide +kernel, by decide +kernel⟩
/-- a method of a class: its text and how its arguments bind -/
structure GM (K : PySem.W.Frag) (x qual : Str) (st : Stmt) (ps : List Str) (f : Addr) (fd : FuncData) : Prop where
  fn : Fun K x qual st f fd
  bi : Binds K fd ps []
/-- a property of a class with slots -/
structure PropT (K : PySem.W.Frag) (C : Addr) (f : Str) (pd g : Addr) : Prop where
  at_ : PySem.W.findIn K (.ref C) f = some (some (.ref pd))
  get : PySem.W.specialIn K (.ref pd) "__get__" = some (some (.builtin "property.__get__"))
  tk : PySem.W.takesIn K (.ref pd) = some true
  rc : ∃ rest, PySem.W.recIn K pd "property" = some (.ref g :: rest)
abbrev s_law_heard : Stmt := top 20
/-- a def whose code object is known -/
structure FunC (K : PySem.W.Frag) (x qual : Str) (st : Stmt) (f : Addr) (fd : FuncData) (c : Addr) : Prop where
  ex : ∃ (oc : Value) (od : Option Addr) (kV doc pm : Value) (an : Option Addr) (ct : Value) (osl : Array (Option Value)),
    fd = PySem.W.fnOf x qual (defArgs st) (defBody st) (defScope st) .none kV doc pm an (.ref c) ct ∧ K.lookup f = some ⟨oc, od, .func fd, osl⟩ ∧ PySem.W.codeIn K (.ref c) qual = true
structure Tx (K : PySem.W.Frag) (mg : Str → Option Value) (a : Ad) : Prop where
  g_is_name : GF K mg "is_name" s_is_name ["value"] a.f_is_name a.d_is_name
  g_names_in : GF K mg "names_in" s_names_in ["line", "word", "low", "high", "used"] a.f_names_in a.d_names_in
  g_law_pot : GF K mg "_law_pot" s_law_pot ["script", "place"] a.f_law_pot a.d_law_pot
  g_law_take : GF K mg "_law_take" s_law_take ["pot", "upto"] a.f_law_take a.d_law_take
  g_law_of : GF K mg "_law_of" s_law_of ["pot", "some"] a.f_law_of a.d_law_of
  g_law_cells : GF K mg "_law_cells" s_law_cells ["script", "most"] a.f_law_cells a.d_law_cells
  g_law_some : GF K mg "_law_some" s_law_some ["pot", "pool", "many"] a.f_law_some a.d_law_some
  g_law_tongue : GF K mg "_law_tongue" s_law_tongue ["pot", "conditions", "deeds"] a.f_law_tongue a.d_law_tongue
  g_law_tongue_text : GF K mg "_law_tongue_text" s_law_tongue_text ["own"] a.f_law_tongue_text a.d_law_tongue_text
  g_law_is_name : GF K mg "_law_is_name" s_law_is_name ["word"] a.f_law_is_name a.d_law_is_name
  g_law_wrong : GF K mg "_law_wrong" s_law_wrong ["text"] a.f_law_wrong a.d_law_wrong
  g_law_near : GF K mg "_law_near" s_law_near ["pot", "text"] a.f_law_near a.d_law_near
  g_Tongue_init : GM K "__init__" "Tongue.__init__" s_Tongue_init ["self", "text"] a.f_Tongue_init a.d_Tongue_init
  g_Tongue_text : GM K "text" "Tongue.text" s_Tongue_text ["self"] a.f_Tongue_text a.d_Tongue_text
  g_Tongue_conditions : GM K "conditions" "Tongue.conditions" s_Tongue_conditions ["self"] a.f_Tongue_conditions a.d_Tongue_conditions
  g_Tongue_deeds : GM K "deeds" "Tongue.deeds" s_Tongue_deeds ["self"] a.f_Tongue_deeds a.d_Tongue_deeds
  g_Tongue_atoms : GM K "atoms" "Tongue.atoms" s_Tongue_atoms ["self"] a.f_Tongue_atoms a.d_Tongue_atoms
  g_Tongue_eq : GM K "__eq__" "Tongue.__eq__" s_Tongue_eq ["self", "other"] a.f_Tongue_eq a.d_Tongue_eq
  g_law_is_read : GF K mg "_law_is_read" s_law_is_read ["text"] a.f_law_is_read a.d_law_is_read
  g_law_right : GF K mg "_law_right" s_law_right ["pot"] a.f_law_right a.d_law_right
  g_law : GF K mg "law" s_law ["script"] a.f_law a.d_law
  g_law_heard : GF K mg "_law_heard" s_law_heard ["call"] a.f_law_heard a.d_law_heard
  c_law_is_read : FunC K "_law_is_read" "_law_is_read" s_law_is_read a.f_law_is_read a.d_law_is_read a.ko_read
  c_law_right : FunC K "_law_right" "_law_right" s_law_right a.f_law_right a.d_law_right a.ko_right
  kb_init : ∃ g, KBn K a.d_Tongue_init ["self", "text"] 1 ["text"] g fun vs zs => vs ++ zs
  m_BadTongue : mg "BadTongue" = some (.ref a.c_BadTongue)
  m_DeedError : mg "DeedError" = some (.ref a.c_DeedError)
  m_Tongue : mg "Tongue" = some (.ref a.c_Tongue)
  k_Tongue : Mk K a.c_Tongue a.f_Tongue_init
  b_ValueError : mg "ValueError" = none
  b_abs : mg "abs" = none
  b_all : mg "all" = none
  b_enumerate : mg "enumerate" = none
  b_int : mg "int" = none
  b_isinstance : mg "isinstance" = none
  b_len : mg "len" = none
  b_list : mg "list" = none
  b_max : mg "max" = none
  b_min : mg "min" = none
  b_range : mg "range" = none
  b_repr : mg "repr" = none
  b_set : mg "set" = none
  b_str : mg "str" = none
  b_sum : mg "sum" = none
  b_tuple : mg "tuple" = none
  v_MOST_CONDITIONS : ∃ t, mg "MOST_CONDITIONS" = some (.int 3 t)
  v_MOST_DEEDS : ∃ t, mg "MOST_DEEDS" = some (.int 4 t)
  v_CONDITIONS : ∃ t, mg "CONDITIONS" = some (.str "conditions" t)
  v_DEEDS : ∃ t, mg "DEEDS" = some (.str "deeds" t)
  v_LETTERS : ∃ t, mg "LETTERS" = some (.str "abcdefghijklmnopqrstuvwxyz" t)
  v_KEPT : mg "KEPT" = some (.ref a.kept)
  r_KEPT : ∀ T, RelD K T (.tup keptD) (.ref a.kept)
  s_Tongue : SlX.SCls K a.c_Tongue
  t_own_conditions : SlX.Slot1 K a.c_Tongue "own_conditions" a.pd_own_conditions 0
  t_own_deeds : SlX.Slot1 K a.c_Tongue "own_deeds" a.pd_own_deeds 1
  t_own_text : SlX.Slot1 K a.c_Tongue "own_text" a.pd_own_text 2
  p_text : PropT K a.c_Tongue "text" a.po_text a.f_Tongue_text
  p_conditions : PropT K a.c_Tongue "conditions" a.po_conditions a.f_Tongue_conditions
  p_deeds : PropT K a.c_Tongue "deeds" a.po_deeds a.f_Tongue_deeds
  p_atoms : PropT K a.c_Tongue "atoms" a.po_atoms a.f_Tongue_atoms
  e_eq : PySem.W.findIn K (.ref a.c_Tongue) "__eq__" = some (some (.ref a.f_Tongue_eq))
  e_fn : PySem.W.isFn K (.ref a.f_Tongue_eq) = true
  e_ne : PySem.W.findIn K (.ref a.c_Tongue) "__ne__" = some (some (.builtin "object.__ne__"))
  e_mo : PySem.W.mroIn K a.c_Tongue (.type "object") = some true
  x_init : Deed.InitTxt PySem.Challenge.pw_whateverdeeds_k00_tongues_read_and_refus K a.c_DeedError a.fI a.cc a.cda
  x_BadTongue : Deed.ClsTxt K a.c_DeedError a.fI a.c_BadTongue
  fa : Facts K a
def tl (a : Ad) : List (Addr × Str) := [(a.kt_read, "_law_is_read.<locals>.<lambda>"), (a.kt_right, "_law_right.<locals>.<lambda>")]
section
variable {w : World} {K : PySem.W.Frag} {mg : Str → Option Value} {base : Heap} {a : Ad}
abbrev PP : Program := PySem.Challenge.pw_whateverdeeds_k00_tongues_read_and_refus

theorem o_is_name (T : Tx K mg a) : FnOk PP w K mg base C8.CX0 1 a.f_is_name a.d_is_name ["value"] (upSp K (tl a) sp_is_name) :=
 fn3 T.g_is_name.fn sc_is_name (fun ds M Q E h => by first | (obtain ⟨_, rfl, _⟩ := h; rfl) | (obtain ⟨_, _, rfl, _⟩ := h; rfl) | (obtain ⟨_, _, _, rfl, _⟩ := h; rfl) | (obtain ⟨_, _, _, _, rfl, _⟩ := h; rfl) | (obtain ⟨_, _, _, _, _, rfl, _⟩ := h; rfl) | (obtain ⟨_, _, _, _, _, _, rfl, _⟩ := h; rfl)) fun cdv A outer s H T0 hTL E hr => ⟨r_is_name K, (have hN := sc_is_name.nd; qss_cons (q_if (PW.pt (qw_or (qt_not (tv3 (bf3 c_isi3 T.b_isinstance boot_isinstance (ac3 (v3 0) (ac3 (ty3 T.b_str boot_str) (qa_nil)))))) (qw_or (qt_not (cht3 op_le3 op_le3 (q_int) (bf3 c_len3 T.b_len boot_len (ac3 (v3 0) (qa_nil))) (q_int))) (qw_or1 (ct3 (op_in3 (hu_n 100 hr)) (v3 0) (co3 (.ref a.kept) T.v_KEPT rfl T.r_KEPT)))))) (qss_one (q_ret (q_bl))) (qss_nil))
 (qss_one (q_ret (bf3 (c_all3 rfl) T.b_all boot_all (ac3 (lc3' (ok := blkOk_by (by kernel_rfl)) [("sign", 1)] hN (qi_str (v3 0)) (tg_name (i := 1) (by decide)) (fun _ _ _ _ _ => pg_name (i := 1) hN rfl (.inl rfl) (.inr rfl)) (fun _ _ _ _ _ => qts_nil) (fun _ _ _ _ _ => cm3 (op_in3 (hu_n 100 hr)) (v3 1) (co3 (.str "abcdefghijklmnopqrstuvwxyz") T.v_LETTERS.choose_spec ⟨_, rfl⟩ (fun _ => strRel)))) (qa_nil)))))), fun ds M Q EX h => vc_is_name h⟩
theorem o_names_in (T : Tx K mg a) : FnOk PP w K mg base C8.CX0 2 a.f_names_in a.d_names_in ["line", "word", "low", "high", "used"] (upSp K (tl a) sp_names_in) :=
 fn3 T.g_names_in.fn sc_names_in (fun ds M Q E h => by first | (obtain ⟨_, rfl, _⟩ := h; rfl) | (obtain ⟨_, _, rfl, _⟩ := h; rfl) | (obtain ⟨_, _, _, rfl, _⟩ := h; rfl) | (obtain ⟨_, _, _, _, rfl, _⟩ := h; rfl) | (obtain ⟨_, _, _, _, _, rfl, _⟩ := h; rfl) | (obtain ⟨_, _, _, _, _, _, rfl, _⟩ := h; rfl)) fun cdv A outer s H T0 hTL E hr => ⟨r_names_in, (have hN := sc_names_in.nd; qss_cons (st3 5 hN (sp3 (v3 0) (q_str)))
 (qss_cons (st3 6 hN (q_slice (v3 5) (qp_some (q_int)) qp_none))
 (qss_cons (q_if (PW.pt (qw_or (ct3 (op_ne3 (hu_n 100 hr)) (ix3' (v3 5) (q_int)) (v3 1)) (qw_or (qt_not (cht3 op_le3 op_le3 (v3 2) (bf3 c_len3 T.b_len boot_len (ac3 (v3 6) (qa_nil))) (v3 3))) (qw_or1 (qt_not (tv3 (bf3 (c_all3 rfl) T.b_all boot_all (ac3 (lc3' (ok := blkOk_by (by kernel_rfl)) [("name", 8)] hN (qi_list (v3 6)) (tg_name (i := 8) (by decide)) (fun _ _ _ _ _ => pg_name (i := 8) hN rfl (.inl rfl) (.inr rfl)) (fun _ _ _ _ _ => qts_nil) (fun _ _ _ _ _ => c3 T.g_is_name (o_is_name T) hTL hr (ac3 (v3 8) (qa_nil)))) (qa_nil))))))))) (qss_one (q_ret (q_non))) (qss_nil))
 (qss_cons (st3 7 hN (q_lst (as3 (v3 6) (as3 (v3 4) (qa_nil)))))
 (qss_one (q_ret (q_ifExp (ct3 (op_eq3 (hu_n 100 hr)) (ls3 T.b_len T.b_set (v3 7)) (bf3 c_len3 T.b_len boot_len (ac3 (v3 7) (qa_nil)))) (bt3 c_tuple3 T.b_tuple boot_tuple (ac3 (v3 6) (qa_nil))) (q_non)))))))), fun ds M Q EX h => vc_names_in h⟩
theorem o_law_pot (T : Tx K mg a) : FnOk PP w K mg base C8.CX0 1 a.f_law_pot a.d_law_pot ["script", "place"] (upSp K (tl a) sp_law_pot) :=
 fn3 T.g_law_pot.fn sc_law_pot (fun ds M Q E h => by first | (obtain ⟨_, rfl, _⟩ := h; rfl) | (obtain ⟨_, _, rfl, _⟩ := h; rfl) | (obtain ⟨_, _, _, rfl, _⟩ := h; rfl) | (obtain ⟨_, _, _, _, rfl, _⟩ := h; rfl) | (obtain ⟨_, _, _, _, _, rfl, _⟩ := h; rfl) | (obtain ⟨_, _, _, _, _, _, rfl, _⟩ := h; rfl)) fun cdv A outer s H T0 hTL E hr => ⟨r_law_pot, (have hN := sc_law_pot.nd; qss_cons (st3 2 hN (q_ifExp (ct3 op_lt3 (v3 1) (bf3 c_len3 T.b_len boot_len (ac3 (v3 0) (qa_nil)))) (ix3' (v3 0) (v3 1)) (q_op op_add3 (q_op op_add3 (q_op op_mod3 (bt3 c_int3 T.b_int boot_int (ac3 (bf3 (c_sum3 rfl) T.b_sum boot_sum (ac3 (q_slice (v3 0) qp_none (qp_some (q_int))) (qa_nil))) (qa_nil))) (q_int)) (q_op op_mul3 (q_int) (v3 1))) (q_int))))
 (qss_cons (st3 3 hN (q_op op_mul3 (q_op op_mod3 (bt3 c_int3 T.b_int boot_int (ac3 (bf3 c_abs3 T.b_abs boot_abs (ac3 (v3 2) (qa_nil))) (qa_nil))) (q_op op_pow3 (q_op op_pow3 (q_int) (q_int)) (q_int))) (bt3 c_int3 T.b_int boot_int (ac3 (cm3 op_ge3 (bf3 c_abs3 T.b_abs boot_abs (ac3 (v3 2) (qa_nil))) (q_op op_pow3 (q_int) (q_int))) (qa_nil)))))
 (qss_cons (st3 4 hN (q_op op_mod3 (bt3 c_int3 T.b_int boot_int (ac3 (v3 2) (qa_nil))) (q_int)))
 (qss_one (q_ret (q_lst (ac3 (v3 3) (ac3 (q_op op_mod3 (bt3 c_int3 T.b_int boot_int (ac3 (q_op op_add3 (q_op op_add3 (q_op op_mul3 (v3 4) (q_int)) (q_op op_mul3 (q_op op_mul3 (q_int) (v3 1)) (v3 1))) (q_int)) (qa_nil))) (q_int)) (ac3 (q_int) (qa_nil)))))))))), fun ds M Q EX h => vc_law_pot h⟩
theorem o_law_take (T : Tx K mg a) : FnOk PP w K mg base C8.CX0 1 a.f_law_take a.d_law_take ["pot", "upto"] (upSp K (tl a) sp_law_take) :=
 fn3 T.g_law_take.fn sc_law_take (fun ds M Q E h => by first | (obtain ⟨_, rfl, _⟩ := h; rfl) | (obtain ⟨_, _, rfl, _⟩ := h; rfl) | (obtain ⟨_, _, _, rfl, _⟩ := h; rfl) | (obtain ⟨_, _, _, _, rfl, _⟩ := h; rfl) | (obtain ⟨_, _, _, _, _, rfl, _⟩ := h; rfl) | (obtain ⟨_, _, _, _, _, _, rfl, _⟩ := h; rfl)) fun cdv A outer s H T0 hTL E hr => ⟨r_law_take, (have hN := sc_law_take.nd; qss_cons (q_if (ct3 op_gt3 (ix3' (v3 0) (q_int)) (q_int)) (qss_cons (st3 2 hN (q_op op_mod3 (bt3 c_int3 T.b_int boot_int (ac3 (ix3' (v3 0) (q_int)) (qa_nil))) (v3 1)))
 (qss_cons (ag3 (q_op op_fdivW3 (ix3' (v3 0) (q_int)) (v3 1)) (gs3 (v3 0) (q_int) set_list3))
 (qss_one (q_ret (v3 2))))) (qss_nil))
 (qss_cons (ag3 (q_op op_add3 (ix3' (v3 0) (q_int)) (q_int)) (gs3 (v3 0) (q_int) set_list3))
 (qss_cons (st3 3 hN (ix3' (q_lst (ac3 (q_int) (ac3 (q_int) (ac3 (q_int) (ac3 (q_int) (ac3 (q_int) (qa_nil))))))) (q_op op_mod3 (bt3 c_int3 T.b_int boot_int (ac3 (ix3' (v3 0) (q_int)) (qa_nil))) (q_int))))
 (qss_cons (st3 4 hN (q_op op_mod3 (bt3 c_int3 T.b_int boot_int (ac3 (q_op op_pow3 (bt3 c_int3 T.b_int boot_int (ac3 (q_op op_add3 (q_op op_add3 (ix3' (v3 0) (q_int)) (q_op op_mul3 (q_op op_mul3 (q_int) (ix3' (v3 0) (q_int))) (ix3' (v3 0) (q_int)))) (q_int)) (qa_nil))) (q_int)) (qa_nil))) (v3 3)))
 (qss_cons (st3 4 hN (q_op op_mod3 (bt3 c_int3 T.b_int boot_int (ac3 (q_op op_mul3 (v3 4) (q_op op_add3 (q_op op_mod3 (bt3 c_int3 T.b_int boot_int (ac3 (v3 4) (qa_nil))) (q_int)) (q_op op_mul3 (q_int) (ix3' (v3 0) (q_int))))) (qa_nil))) (q_int)))
 (qss_one (q_ret (q_op op_mod3 (bt3 c_int3 T.b_int boot_int (ac3 (q_op op_fdivW3 (v3 4) (q_int)) (qa_nil))) (v3 1))))))))), fun ds M Q EX h => vc_law_take h⟩
theorem o_law_of (T : Tx K mg a) : FnOk PP w K mg base C8.CX0 2 a.f_law_of a.d_law_of ["pot", "some"] (upSp K (tl a) sp_law_of) :=
 fn3 T.g_law_of.fn sc_law_of (fun ds M Q E h => by first | (obtain ⟨_, rfl, _⟩ := h; rfl) | (obtain ⟨_, _, rfl, _⟩ := h; rfl) | (obtain ⟨_, _, _, rfl, _⟩ := h; rfl) | (obtain ⟨_, _, _, _, rfl, _⟩ := h; rfl) | (obtain ⟨_, _, _, _, _, rfl, _⟩ := h; rfl) | (obtain ⟨_, _, _, _, _, _, rfl, _⟩ := h; rfl)) fun cdv A outer s H T0 hTL E hr => ⟨r_law_of, (have hN := sc_law_of.nd; qss_one (q_ret (ix3' (v3 1) (c3 T.g_law_take (o_law_take T) hTL hr (ac3 (v3 0) (ac3 (bf3 c_len3 T.b_len boot_len (ac3 (v3 1) (qa_nil))) (qa_nil))))))), fun ds M Q EX h => vc_law_of h⟩
theorem o_law_cells (T : Tx K mg a) : FnOk PP w K mg base C8.CX0 1 a.f_law_cells a.d_law_cells ["script", "most"] (upSp K (tl a) sp_law_cells) :=
 fn3 T.g_law_cells.fn sc_law_cells (fun ds M Q E h => by first | (obtain ⟨_, rfl, _⟩ := h; rfl) | (obtain ⟨_, _, rfl, _⟩ := h; rfl) | (obtain ⟨_, _, _, rfl, _⟩ := h; rfl) | (obtain ⟨_, _, _, _, rfl, _⟩ := h; rfl) | (obtain ⟨_, _, _, _, _, rfl, _⟩ := h; rfl) | (obtain ⟨_, _, _, _, _, _, rfl, _⟩ := h; rfl)) fun cdv A outer s H T0 hTL E hr => ⟨r_law_cells, (have hN := sc_law_cells.nd; qss_one (q_ret (lr3 T.b_list T.b_range (bf3 (c_max3 rfl) T.b_max boot_max (ac3 (q_int) (ac3 (bf3 (c_min3 rfl) T.b_min boot_min (ac3 (v3 1) (ac3 (bf3 c_len3 T.b_len boot_len (ac3 (v3 0) (qa_nil))) (qa_nil)))) (qa_nil))))))), fun ds M Q EX h => vc_law_cells h⟩
theorem o_law_some (T : Tx K mg a) : FnOk PP w K mg base C8.CX0 2 a.f_law_some a.d_law_some ["pot", "pool", "many"] (upSp K (tl a) sp_law_some) :=
 fn3 T.g_law_some.fn sc_law_some (fun ds M Q E h => by first | (obtain ⟨_, rfl, _⟩ := h; rfl) | (obtain ⟨_, _, rfl, _⟩ := h; rfl) | (obtain ⟨_, _, _, rfl, _⟩ := h; rfl) | (obtain ⟨_, _, _, _, rfl, _⟩ := h; rfl) | (obtain ⟨_, _, _, _, _, rfl, _⟩ := h; rfl) | (obtain ⟨_, _, _, _, _, _, rfl, _⟩ := h; rfl)) fun cdv A outer s H T0 hTL E hr => ⟨r_law_some, (have hN := sc_law_some.nd; qss_cons (pr3 3 4 hN (ac3 (bt3 c_list3 T.b_list boot_list (ac3 (v3 1) (qa_nil))) (ac3 (q_lst (qa_nil)) (qa_nil))))
 (qss_cons (fo3 (ir3 T.b_range (ac3 (v3 2) (qa_nil))) (gn3 5 hN) (qss_one (ex3 (ap3 (v3 4) (po3 (v3 3) (c3 T.g_law_take (o_law_take T) hTL hr (ac3 (v3 0) (ac3 (bf3 c_len3 T.b_len boot_len (ac3 (v3 3) (qa_nil))) (qa_nil)))))))))
 (qss_one (q_ret (v3 4))))), fun ds M Q EX h => vc_law_some h⟩
theorem o_law_tongue (T : Tx K mg a) : FnOk PP w K mg base C8.CX0 3 a.f_law_tongue a.d_law_tongue ["pot", "conditions", "deeds"] (upSp K (tl a) sp_law_tongue) :=
 fn3 T.g_law_tongue.fn sc_law_tongue (fun ds M Q E h => by first | (obtain ⟨_, rfl, _⟩ := h; rfl) | (obtain ⟨_, _, rfl, _⟩ := h; rfl) | (obtain ⟨_, _, _, rfl, _⟩ := h; rfl) | (obtain ⟨_, _, _, _, rfl, _⟩ := h; rfl) | (obtain ⟨_, _, _, _, _, rfl, _⟩ := h; rfl) | (obtain ⟨_, _, _, _, _, _, rfl, _⟩ := h; rfl)) fun cdv A outer s H T0 hTL E hr => ⟨r_law_tongue, (have hN := sc_law_tongue.nd; qss_cons (st3 3 hN (c3 T.g_law_some (o_law_some T) hTL hr (ac3 (v3 0) (ac3 (q_lst (ac3 (q_str) (ac3 (q_str) (ac3 (q_str) (ac3 (q_str) (qa_nil)))))) (ac3 (c3 T.g_law_take (o_law_take T) hTL hr (ac3 (v3 0) (ac3 (q_op op_add3 (v3 1) (q_int)) (qa_nil)))) (qa_nil))))))
 (qss_one (q_ret (q_disp (trs := [((con3 (.str ("conditions" : Str))), (var3 3)), ((con3 (.str ("deeds" : Str))), (call3 sp_law_some noX (cons3 (var3 0) (cons3 (lst3 (cons3 (con3 (.str ("a" : Str))) (cons3 (con3 (.str ("b" : Str))) (cons3 (con3 (.str ("c" : Str))) (cons3 (con3 (.str ("up" : Str))) (nil3)))))) (cons3 (bin3 add3 (con3 (.int 1)) (call3 sp_law_take noX (cons3 (var3 0) (cons3 (var3 2) (nil3))))) (nil3))))))]) (pps_cons (q_str) (v3 3) (pps_cons (q_str) (c3 T.g_law_some (o_law_some T) hTL hr (ac3 (v3 0) (ac3 (q_lst (ac3 (q_str) (ac3 (q_str) (ac3 (q_str) (ac3 (q_str) (qa_nil)))))) (ac3 (q_op op_add3 (q_int) (c3 T.g_law_take (o_law_take T) hTL hr (ac3 (v3 0) (ac3 (v3 2) (qa_nil))))) (qa_nil))))) (pps_nil))) rfl rfl (by simp) (by decide))))), fun ds M Q EX h => vc_law_tongue h⟩
theorem o_law_tongue_text (T : Tx K mg a) : FnOk PP w K mg base C8.CX0 1 a.f_law_tongue_text a.d_law_tongue_text ["own"] (upSp K (tl a) sp_law_tongue_text) :=
 fn3 T.g_law_tongue_text.fn sc_law_tongue_text (fun ds M Q E h => by first | (obtain ⟨_, rfl, _⟩ := h; rfl) | (obtain ⟨_, _, rfl, _⟩ := h; rfl) | (obtain ⟨_, _, _, rfl, _⟩ := h; rfl) | (obtain ⟨_, _, _, _, rfl, _⟩ := h; rfl) | (obtain ⟨_, _, _, _, _, rfl, _⟩ := h; rfl) | (obtain ⟨_, _, _, _, _, _, rfl, _⟩ := h; rfl)) fun cdv A outer s H T0 hTL E hr => ⟨r_law_tongue_text, (have hN := sc_law_tongue_text.nd; qss_one (q_ret (q_op op_add3 (q_op op_add3 (jo3 (q_str) (q_op op_add3 (q_lst (ac3 (q_str) (qa_nil))) (dg3 (hu_of hr) (v3 0) (q_str)))) (q_str)) (jo3 (q_str) (q_op op_add3 (q_lst (ac3 (q_str) (qa_nil))) (dg3 (hu_of hr) (v3 0) (q_str))))))), fun ds M Q EX h => vc_law_tongue_text h⟩
theorem o_law_is_name (T : Tx K mg a) : FnOk PP w K mg base C8.CX0 1 a.f_law_is_name a.d_law_is_name ["word"] (upSp K (tl a) sp_law_is_name) :=
 fn3 T.g_law_is_name.fn sc_law_is_name (fun ds M Q E h => by first | (obtain ⟨_, rfl, _⟩ := h; rfl) | (obtain ⟨_, _, rfl, _⟩ := h; rfl) | (obtain ⟨_, _, _, rfl, _⟩ := h; rfl) | (obtain ⟨_, _, _, _, rfl, _⟩ := h; rfl) | (obtain ⟨_, _, _, _, _, rfl, _⟩ := h; rfl) | (obtain ⟨_, _, _, _, _, _, rfl, _⟩ := h; rfl)) fun cdv A outer s H T0 hTL E hr => ⟨r_law_is_name, (have hN := sc_law_is_name.nd; qss_cons (st3 1 hN (q_lst (ac3 (q_str) (ac3 (q_str) (ac3 (q_str) (ac3 (q_str) (ac3 (q_str) (ac3 (q_str) (ac3 (q_str) (ac3 (q_str) (ac3 (q_str) (ac3 (q_str) (ac3 (q_str) (ac3 (q_str) (ac3 (q_str) (ac3 (q_str) (qa_nil)))))))))))))))))
 (qss_one (q_ret (q_and (ch3 op_le3 op_le3 (q_int) (bf3 c_len3 T.b_len boot_len (ac3 (v3 0) (qa_nil))) (q_int)) (q_and (cm3 (op_notIn3 (hu_n 100 hr)) (v3 0) (v3 1)) (q_one (bf3 (c_all3 rfl) T.b_all boot_all (ac3 (lc3' (ok := blkOk_by (by kernel_rfl)) [("sign", 2)] hN (qi_str (v3 0)) (tg_name (i := 2) (by decide)) (fun _ _ _ _ _ => pg_name (i := 2) hN rfl (.inl rfl) (.inr rfl)) (fun _ _ _ _ _ => qts_nil) (fun _ _ _ _ _ => cm3 (op_in3 (hu_n 100 hr)) (v3 2) (q_str))) (qa_nil))))))))), fun ds M Q EX h => vc_law_is_name h⟩
theorem o_law_wrong (T : Tx K mg a) : FnOk PP w K mg base C8.CX0 2 a.f_law_wrong a.d_law_wrong ["text"] (upSp K (tl a) sp_law_wrong) :=
 fn3 T.g_law_wrong.fn sc_law_wrong (fun ds M Q E h => by first | (obtain ⟨_, rfl, _⟩ := h; rfl) | (obtain ⟨_, _, rfl, _⟩ := h; rfl) | (obtain ⟨_, _, _, rfl, _⟩ := h; rfl) | (obtain ⟨_, _, _, _, rfl, _⟩ := h; rfl) | (obtain ⟨_, _, _, _, _, rfl, _⟩ := h; rfl) | (obtain ⟨_, _, _, _, _, _, rfl, _⟩ := h; rfl)) fun cdv A outer s H T0 hTL E hr => ⟨r_law_wrong, (have hN := sc_law_wrong.nd; qss_cons (pr3 1 2 hN (ac3 (sp3 (v3 0) (q_str)) (ac3 (q_lst (qa_nil)) (qa_nil))))
 (qss_cons (fo3 (ie3 T.b_enumerate (ac3 (q_lst (ac3 (q_tup (ac3 (q_str) (ac3 (q_int) (ac3 (q_int) (qa_nil))))) (ac3 (q_tup (ac3 (q_str) (ac3 (q_int) (ac3 (q_int) (qa_nil))))) (qa_nil)))) (qa_nil))) (gt3 2 (gc3 (gn3 3 hN) (gc3 (gt3 3 (gc3 (gn3 4 hN) (gc3 (gn3 5 hN) (gc3 (gn3 6 hN) (qgs_nil))))) (qgs_nil)))) (qss_cons (st3 7 hN (q_ifExp (ct3 op_lt3 (v3 3) (bf3 c_len3 T.b_len boot_len (ac3 (v3 1) (qa_nil)))) (sp3 (ix3' (v3 1) (v3 3)) (q_str)) (q_lst (ac3 (q_str) (qa_nil)))))
 (qss_cons (st3 8 hN (q_slice (v3 7) (qp_some (q_int)) qp_none))
 (qss_cons (q_if (PW.pt (qw_or (ct3 (op_ne3 (hu_n 100 hr)) (ix3' (v3 7) (q_int)) (v3 4)) (qw_or (qt_not (cht3 op_le3 op_le3 (v3 5) (bf3 c_len3 T.b_len boot_len (ac3 (v3 8) (qa_nil))) (v3 6))) (qw_or1 (qt_not (tv3 (bf3 (c_all3 rfl) T.b_all boot_all (ac3 (lc3' (ok := blkOk_by (by kernel_rfl)) [("name", 9)] hN (qi_list (v3 8)) (tg_name (i := 9) (by decide)) (fun _ _ _ _ _ => pg_name (i := 9) hN rfl (.inl rfl) (.inr rfl)) (fun _ _ _ _ _ => qts_nil) (fun _ _ _ _ _ => c3 T.g_law_is_name (o_law_is_name T) hTL hr (ac3 (v3 9) (qa_nil)))) (qa_nil))))))))) (qss_one (q_ret (q_op op_add3 (v3 3) (q_int)))) (qss_nil))
 (qss_cons (st3 2 hN (q_op op_add3 (v3 2) (v3 8)))
 (qss_one (q_if (ct3 op_lt3 (ls3 T.b_len T.b_set (v3 2)) (bf3 c_len3 T.b_len boot_len (ac3 (v3 2) (qa_nil)))) (qss_one (q_ret (q_op op_add3 (v3 3) (q_int)))) (qss_nil))))))))
 (qss_one (q_ret (q_ifExp (ct3 op_gt3 (bf3 c_len3 T.b_len boot_len (ac3 (v3 1) (qa_nil))) (q_int)) (q_int) (q_non)))))), fun ds M Q EX h => vc_law_wrong h⟩
theorem o_law_near (T : Tx K mg a) : FnOk PP w K mg base C8.CX0 3 a.f_law_near a.d_law_near ["pot", "text"] (upSp K (tl a) sp_law_near) :=
 fn3 T.g_law_near.fn sc_law_near (fun ds M Q E h => by first | (obtain ⟨_, rfl, _⟩ := h; rfl) | (obtain ⟨_, _, rfl, _⟩ := h; rfl) | (obtain ⟨_, _, _, rfl, _⟩ := h; rfl) | (obtain ⟨_, _, _, _, rfl, _⟩ := h; rfl) | (obtain ⟨_, _, _, _, _, rfl, _⟩ := h; rfl) | (obtain ⟨_, _, _, _, _, _, rfl, _⟩ := h; rfl)) fun cdv A outer s H T0 hTL E hr => ⟨r_law_near, (have hN := sc_law_near.nd; qss_cons (st3 2 hN (sp3 (v3 1) (q_str)))
 (qss_cons (pr3 3 4 hN (ac3 (c3 T.g_law_take (o_law_take T) hTL hr (ac3 (v3 0) (ac3 (bf3 c_len3 T.b_len boot_len (ac3 (v3 2) (qa_nil))) (qa_nil)))) (ac3 (c3 T.g_law_take (o_law_take T) hTL hr (ac3 (v3 0) (ac3 (q_int) (qa_nil)))) (qa_nil))))
 (qss_cons (q_if (ct3 op_lt3 (v3 4) (q_int)) (qss_one (q_ret (jo3 (q_str) (ix3' (q_lst (ac3 (q_op op_add3 (q_slice (v3 2) qp_none (qp_some (v3 3))) (q_slice (v3 2) (qp_some (q_op op_add3 (v3 3) (q_int))) qp_none)) (ac3 (q_op op_add3 (q_slice (v3 2) qp_none (qp_some (q_op op_add3 (v3 3) (q_int)))) (q_slice (v3 2) (qp_some (v3 3)) qp_none)) (ac3 (q_rev (v3 2)) (qa_nil))))) (v3 4))))) (qss_nil))
 (qss_cons (st3 5 hN (sp3 (ix3' (v3 2) (v3 3)) (q_str)))
 (qss_cons (st3 6 hN (c3 T.g_law_take (o_law_take T) hTL hr (ac3 (v3 0) (ac3 (bf3 c_len3 T.b_len boot_len (ac3 (v3 5) (qa_nil))) (qa_nil)))))
 (qss_cons (st3 7 hN (q_lst (ac3 (q_str) (ac3 (q_str) (ac3 (q_str) (ac3 (q_str) (ac3 (q_str) (ac3 (q_str) (ac3 (q_str) (ac3 (q_str) (ac3 (q_str) (ac3 (q_str) (ac3 (q_str) (ac3 (q_str) (ac3 (q_str) (qa_nil))))))))))))))))
 (qss_cons (q_if (ct3 op_lt3 (v3 4) (q_int)) (qss_one (ag3 (c3 T.g_law_of (o_law_of T) hTL hr (ac3 (v3 0) (ac3 (v3 7) (qa_nil)))) (gs3 (v3 5) (v3 6) set_list3))) (qss_nil))
 (qss_cons (q_if (ct3 (op_eq3 (hu_n 100 hr)) (v3 4) (q_int)) (qss_one (st3 5 hN (q_op op_add3 (v3 5) (q_lst (ac3 (c3 T.g_law_of (o_law_of T) hTL hr (ac3 (v3 0) (ac3 (v3 7) (qa_nil)))) (qa_nil)))))) (qss_nil))
 (qss_cons (q_if (ct3 (op_eq3 (hu_n 100 hr)) (v3 4) (q_int)) (qss_one (st3 5 hN (q_op op_add3 (q_slice (v3 5) qp_none (qp_some (v3 6))) (q_slice (v3 5) (qp_some (q_op op_add3 (v3 6) (q_int))) qp_none)))) (qss_nil))
 (qss_one (q_ret (jo3 (q_str) (q_op op_add3 (q_op op_add3 (q_slice (v3 2) qp_none (qp_some (v3 3))) (q_lst (ac3 (jo3 (q_str) (v3 5)) (qa_nil)))) (q_slice (v3 2) (qp_some (q_op op_add3 (v3 3) (q_int))) qp_none)))))))))))))), fun ds M Q EX h => vc_law_near h⟩
theorem o_Tongue_init (T : Tx K mg a) : FnOk PP w K mg base (L2.CX PP w) 3 a.f_Tongue_init a.d_Tongue_init ["self", "text"] (upSp K (tl a) (sp_init K a)) :=
 fn3X T.g_Tongue_init.fn sc_Tongue_init (fun ds M Q E h => by first | (obtain ⟨_, rfl, _⟩ := h; rfl) | (obtain ⟨_, _, rfl, _⟩ := h; rfl) | (obtain ⟨_, _, _, rfl, _⟩ := h; rfl) | (obtain ⟨_, _, _, _, rfl, _⟩ := h; rfl) | (obtain ⟨_, _, _, _, _, rfl, _⟩ := h; rfl) | (obtain ⟨_, _, _, _, _, _, rfl, _⟩ := h; rfl)) fun cdv A outer s H T0 hTL E EX hE hr => ⟨r_Tongue_init K a EX, (have hN := sc_Tongue_init.nd; qss_cons (q_if (qt_not (tv3 (bf3 c_isi3 T.b_isinstance boot_isinstance (ac3 (v3 1) (ac3 (ty3 T.b_str boot_str) (qa_nil)))))) (qss_one (q_raise (W := fun cls d _ H => E cls d H) rfl T.x_init T.x_BadTongue hr (takes_of rfl rfl rfl rfl) (fun _ => hE) (ac3 (q_int) (qa_nil)) rfl T.m_BadTongue (by decide) rfl rfl)) (qss_nil))
 (qss_cons (st3 2 hN (sp3 (v3 1) (q_str)))
 (qss_cons (st3 3 hN (c3 T.g_names_in (o_names_in T) hTL hr (ac3 (ix3' (v3 2) (q_int)) (ac3 (co3 (.str "conditions") T.v_CONDITIONS.choose_spec ⟨_, rfl⟩ (fun _ => strRel)) (ac3 (q_int) (ac3 (co3 (.int 3) T.v_MOST_CONDITIONS.choose_spec ⟨_, rfl⟩ (fun _ => intRel)) (ac3 (q_tup (qa_nil)) (qa_nil))))))))
 (qss_cons (q_if (ct3 op_is3 (v3 3) (q_non)) (qss_one (q_raise (W := fun cls d _ H => E cls d H) rfl T.x_init T.x_BadTongue hr (takes_of rfl rfl rfl rfl) (fun _ => hE) (ac3 (q_int) (qa_nil)) rfl T.m_BadTongue (by decide) rfl rfl)) (qss_nil))
 (qss_cons (st3 4 hN (q_ifExp (ct3 op_gt3 (bf3 c_len3 T.b_len boot_len (ac3 (v3 2) (qa_nil))) (q_int)) (c3 T.g_names_in (o_names_in T) hTL hr (ac3 (ix3' (v3 2) (q_int)) (ac3 (co3 (.str "deeds") T.v_DEEDS.choose_spec ⟨_, rfl⟩ (fun _ => strRel)) (ac3 (q_int) (ac3 (co3 (.int 4) T.v_MOST_DEEDS.choose_spec ⟨_, rfl⟩ (fun _ => intRel)) (ac3 (v3 3) (qa_nil))))))) (q_non)))
 (qss_cons (q_if (ct3 op_is3 (v3 4) (q_non)) (qss_one (q_raise (W := fun cls d _ H => E cls d H) rfl T.x_init T.x_BadTongue hr (takes_of rfl rfl rfl rfl) (fun _ => hE) (ac3 (q_int) (qa_nil)) rfl T.m_BadTongue (by decide) rfl rfl)) (qss_nil))
 (qss_cons (q_if (ct3 op_gt3 (bf3 c_len3 T.b_len boot_len (ac3 (v3 2) (qa_nil))) (q_int)) (qss_one (q_raise (W := fun cls d _ H => E cls d H) rfl T.x_init T.x_BadTongue hr (takes_of rfl rfl rfl rfl) (fun _ => hE) (ac3 (q_op op_add3 (q_int) (q_int)) (qa_nil)) rfl T.m_BadTongue (by decide) rfl rfl)) (qss_nil))
 (qss_one (ag3 (q_tup (ac3 (v3 1) (ac3 (v3 3) (ac3 (v3 4) (qa_nil))))) (gt3 3 (gc3 (qg_slot T.s_Tongue T.t_own_text (v3 0)) (gc3 (qg_slot T.s_Tongue T.t_own_conditions (v3 0)) (gc3 (qg_slot T.s_Tongue T.t_own_deeds (v3 0)) (qgs_nil)))))))))))))), fun ds M Q h => vc_Tongue_init h⟩
theorem o_Tongue_text (T : Tx K mg a) : FnOk PP w K mg base C8.CX0 1 a.f_Tongue_text a.d_Tongue_text ["self"] (upSp K (tl a) (sp_prop_text a)) :=
 fn3 T.g_Tongue_text.fn sc_Tongue_text (fun ds M Q E h => by first | (obtain ⟨_, rfl, _⟩ := h; rfl) | (obtain ⟨_, _, rfl, _⟩ := h; rfl) | (obtain ⟨_, _, _, rfl, _⟩ := h; rfl) | (obtain ⟨_, _, _, _, rfl, _⟩ := h; rfl) | (obtain ⟨_, _, _, _, _, rfl, _⟩ := h; rfl) | (obtain ⟨_, _, _, _, _, _, rfl, _⟩ := h; rfl)) fun cdv A outer s H T0 hTL E hr => ⟨r_Tongue_text a, (have hN := sc_Tongue_text.nd; qss_one (q_ret (q_slot T.s_Tongue T.t_own_text (v3 0) rfl))), fun ds M Q EX h => vc_Tongue_text h⟩
theorem o_Tongue_conditions (T : Tx K mg a) : FnOk PP w K mg base C8.CX0 1 a.f_Tongue_conditions a.d_Tongue_conditions ["self"] (upSp K (tl a) (sp_prop_conditions a)) :=
 fn3 T.g_Tongue_conditions.fn sc_Tongue_conditions (fun ds M Q E h => by first | (obtain ⟨_, rfl, _⟩ := h; rfl) | (obtain ⟨_, _, rfl, _⟩ := h; rfl) | (obtain ⟨_, _, _, rfl, _⟩ := h; rfl) | (obtain ⟨_, _, _, _, rfl, _⟩ := h; rfl) | (obtain ⟨_, _, _, _, _, rfl, _⟩ := h; rfl) | (obtain ⟨_, _, _, _, _, _, rfl, _⟩ := h; rfl)) fun cdv A outer s H T0 hTL E hr => ⟨r_Tongue_conditions a, (have hN := sc_Tongue_conditions.nd; qss_one (q_ret (q_slot T.s_Tongue T.t_own_conditions (v3 0) rfl))), fun ds M Q EX h => vc_Tongue_conditions h⟩
theorem o_Tongue_deeds (T : Tx K mg a) : FnOk PP w K mg base C8.CX0 1 a.f_Tongue_deeds a.d_Tongue_deeds ["self"] (upSp K (tl a) (sp_prop_deeds a)) :=
 fn3 T.g_Tongue_deeds.fn sc_Tongue_deeds (fun ds M Q E h => by first | (obtain ⟨_, rfl, _⟩ := h; rfl) | (obtain ⟨_, _, rfl, _⟩ := h; rfl) | (obtain ⟨_, _, _, rfl, _⟩ := h; rfl) | (obtain ⟨_, _, _, _, rfl, _⟩ := h; rfl) | (obtain ⟨_, _, _, _, _, rfl, _⟩ := h; rfl) | (obtain ⟨_, _, _, _, _, _, rfl, _⟩ := h; rfl)) fun cdv A outer s H T0 hTL E hr => ⟨r_Tongue_deeds a, (have hN := sc_Tongue_deeds.nd; qss_one (q_ret (q_slot T.s_Tongue T.t_own_deeds (v3 0) rfl))), fun ds M Q EX h => vc_Tongue_deeds h⟩
theorem o_Tongue_atoms (T : Tx K mg a) : FnOk PP w K mg base C8.CX0 1 a.f_Tongue_atoms a.d_Tongue_atoms ["self"] (upSp K (tl a) (sp_prop_atoms a)) :=
 fn3 T.g_Tongue_atoms.fn sc_Tongue_atoms (fun ds M Q E h => by first | (obtain ⟨_, rfl, _⟩ := h; rfl) | (obtain ⟨_, _, rfl, _⟩ := h; rfl) | (obtain ⟨_, _, _, rfl, _⟩ := h; rfl) | (obtain ⟨_, _, _, _, rfl, _⟩ := h; rfl) | (obtain ⟨_, _, _, _, _, rfl, _⟩ := h; rfl) | (obtain ⟨_, _, _, _, _, _, rfl, _⟩ := h; rfl)) fun cdv A outer s H T0 hTL E hr => ⟨r_Tongue_atoms a, (have hN := sc_Tongue_atoms.nd; qss_one (q_ret (q_op op_pow3 (q_int) (q_op op_mod3 (bf3 c_len3 T.b_len boot_len (ac3 (q_slot T.s_Tongue T.t_own_conditions (v3 0) rfl) (qa_nil))) (q_int))))), fun ds M Q EX h => vc_Tongue_atoms h⟩
theorem o_Tongue_eq (T : Tx K mg a) : FnOk PP w K mg base C8.CX0 1 a.f_Tongue_eq a.d_Tongue_eq ["self", "other"] (upSp K (tl a) (sp_eq K a)) :=
 fn3 T.g_Tongue_eq.fn sc_Tongue_eq (fun ds M Q E h => by first | (obtain ⟨_, rfl, _⟩ := h; rfl) | (obtain ⟨_, _, rfl, _⟩ := h; rfl) | (obtain ⟨_, _, _, rfl, _⟩ := h; rfl) | (obtain ⟨_, _, _, _, rfl, _⟩ := h; rfl) | (obtain ⟨_, _, _, _, _, rfl, _⟩ := h; rfl) | (obtain ⟨_, _, _, _, _, _, rfl, _⟩ := h; rfl)) fun cdv A outer s H T0 hTL E hr => ⟨r_Tongue_eq K a, (have hN := sc_Tongue_eq.nd; qss_one (q_ret (q_and (bf3 c_isi3 T.b_isinstance boot_isinstance (ac3 (v3 1) (ac3 (cls3 T.m_Tongue) (qa_nil)))) (q_one (cm3 (op_eq3 (hu_n 100 hr)) (q_slot T.s_Tongue T.t_own_text (v3 0) rfl) (q_slot T.s_Tongue T.t_own_text (v3 1) rfl)))))), fun ds M Q EX h => vc_Tongue_eq h⟩
end
end Wd
end

section
set_option Elab.async false
set_option linter.all false
set_option maxRecDepth 100000
set_option maxHeartbeats 400000
namespace Wd
open PySem PySem.Spec PyProof.Rows L2 L3

theorem boot_ValueError : bootBuiltins "ValueError" = some (.type "ValueError") := rfl
theorem fn3GC {P : Program} {w : World} {K : PySem.W.Frag} {TL : List (Addr × Str)} {mg : Str → Option Value} {base : Heap} {x qual : Str} {st : Stmt} {f c : Addr} {fd : FuncData} {N ps : List Str} {k : Nat} {sp : Sp3} (F : FunC K x qual st f fd c) (S : FnScope N ps (defScope st)) (len : ∀ ds M Q E, sp ds M Q E → ds.length = ps.length)
    (hbody : ∀ (A : Around) (outer : List Env) (s : Shared) (H : Hp) (T0 : L3.Tm) (hTL : T0.tl = TL) (E : XK), (A.deeper (envOfC qual (defScope st) s.heap.objs.size f (.ref c))).guards = some [] → Room k (A.deeper (envOfC qual (defScope st) s.heap.objs.size f (.ref c))) →
      ∃ t : S3, QSs (cxOf C8.CX0 P w K mg base N qual (defScope st) f (.ref c) A outer s H E).nox T0 (defBody st) t ∧ ∀ ds M Q EX, sp ds M Q EX → t (ends3 Q) (start3 N ds) M) : FnG P w K mg base C8.CX0 (k + 1) f fd ps (upSp K TL sp) := by
  obtain ⟨oc, od, kV, doc, pm, an, ct, osl, rfl, lk, hcd⟩ := F.ex
  refine fnG_of lk hcd S (fun vs H Q E ⟨T, M, ds, Q3, EX, _, R, r, q, _⟩ => by rw [← r.length]; exact len _ _ _ _ q) fun A outer s H vs Q E hg hr ⟨T, M, ds, Q3, EX, eT, R, r, q, hQ, hX⟩ => ?_
  obtain ⟨t, ht, hq⟩ := hbody A outer s H T eT E hg hr
  exact ⟨_, ht.nox, T, M, _, _, Sub.refl T, R, RelSt.start r, hq ds M Q3 EX q, ends_up hQ⟩
theorem scHear : FnScope hearN ["call"] hearScope := ⟨rfl, rfl, rfl, by decide +kernel, rfl, by decide +kernel, by decide +kernel⟩
theorem q_hd {X : Cx} {T0 : L3.Tm} {a : Ad} (T : Tx X.K X.mg a) {params : Arguments} {body : Expr} {scope : Scope} {tb : X3 → E3} {p lpos pos : Pos} {c P : Addr} {k : Nat} (TB : LamX.TabB X.base X.mg c P) (hcode : X.env.code = .ref c) (hmT : (P, X.env.qual ++ "<lambda>") ∈ T0.tl) (hu : ∀ p ∈ T0.tl, p.1 = P → p.2 = X.env.qual ++ "<lambda>") (hr : Room (k + 2) X.A) (L : LamX.LamS X.env.scope scope) 
    (hbody : ∀ (A : Around) (outer : List Env) (s : Shared) (H : Hp) (E : XK) (f c' : Addr) (T1 : L3.Tm) (EX : X3), T1.tl = T0.tl → XOk X.K T1 EX E → Room k (A.deeper (LamX.lamEnv X scope s.heap.objs.size f c')) → QE (LamX.lamCx X A outer s H E scope f c') T1 body (tb EX))
    (hg : Gl X "_law_heard" := by rfl) (hdef : defaultsOf params X.env = ([], []) := by rfl) (hbind : ∀ (q : Str) (cl : List (Str × Addr)) (pm cv ctv : Value), bindArgs (PySem.W.kla_fn "<lambda>" q params body scope cl pm cv ctv) ⟨[], []⟩ = pure [] := by intro _ _ _ _ _; rfl) :
    QE X T0 (.Call (.Name "_law_heard" p) [.Lambda params body scope lpos] [] pos) (heard3 X.K a.c_DeedError tb) := by
  obtain ⟨oc, od, kV, doc, pm, an, cdv, ct, osl, e, lk, hcg⟩ := T.g_law_heard.fn.ex
  have hb := T.g_law_heard.bi
  rw [e] at lk hb
  exact q_heard (x := "_law_heard") (a := "call") (Ng := hearN) hg T.g_law_heard.mg T.g_law_heard.fn.kp lk hcg hb scHear rfl (.inl (by decide +kernel)) (heard_gives T.m_DeedError (by intro _; rfl) (by intro _; rfl)) TB hcode hmT hu hr L hdef hbind hbody (by decide) (by decide) (by decide)
theorem tl_read (a : Ad) (hne : a.kt_read ≠ a.kt_right) : ∀ p ∈ tl a, p.1 = a.kt_read → p.2 = "_law_is_read.<locals>.<lambda>" := by
  intro p hp e
  simp only [tl, List.mem_cons, List.not_mem_nil, or_false] at hp
  rcases hp with rfl | rfl
  · rfl
  · exact absurd e.symm hne
theorem tl_right (a : Ad) (hne : a.kt_read ≠ a.kt_right) : ∀ p ∈ tl a, p.1 = a.kt_right → p.2 = "_law_right.<locals>.<lambda>" := by
  intro p hp e
  simp only [tl, List.mem_cons, List.not_mem_nil, or_false] at hp
  rcases hp with rfl | rfl
  · exact absurd e hne
  · rfl
theorem lamS_by' {sc scope : Scope} (h : LamX.lamSB sc scope = true) : LamX.LamS sc scope := LamX.lamS_by h
section
variable {w : World} {K : PySem.W.Frag} {mg : Str → Option Value} {base : Heap} {a : Ad}

theorem o_law_is_read (T : Tx K mg a) (hTB : LamX.TabB base mg a.ko_read a.kt_read) (hne : a.kt_read ≠ a.kt_right) : FnG PP w K mg base C8.CX0 7 a.f_law_is_read a.d_law_is_read ["text"] (upSp K (tl a) sp_law_is_read) :=
 fn3GC T.c_law_is_read sc_law_is_read (fun ds M Q E h => by first | (obtain ⟨_, rfl, _⟩ := h; rfl) | (obtain ⟨_, _, rfl, _⟩ := h; rfl) | (obtain ⟨_, _, _, rfl, _⟩ := h; rfl) | (obtain ⟨_, _, _, _, rfl, _⟩ := h; rfl) | (obtain ⟨_, _, _, _, _, rfl, _⟩ := h; rfl) | (obtain ⟨_, _, _, _, _, _, rfl, _⟩ := h; rfl)) fun A outer s H T0 hTL E hgu hr => ⟨r_law_is_read K a, (have hN := sc_law_is_read.nd; qss_cons (st3 1 hN (c3 T.g_law_wrong (o_law_wrong T) hTL hr (ac3 (v3 0) (qa_nil))))
 (qss_cons (ag3 ((q_hd T hTB rfl (k := 4) (by rw [hTL]; exact List.mem_cons_self ..) (by rw [hTL]; exact tl_read a hne) (hr.mono (by decide)) (lamS_by' rfl) (fun A outer s H E f c' T1 EX eT hE hr' => q_makeK (X := LamX.lamCx _ A outer s H E _ f c') (ks := ["text"]) T.k_Tongue (o_Tongue_init T) (eT.trans hTL) hr' (by rfl) T.m_Tongue T.kb_init.choose_spec (passes_call (takes_of rfl rfl rfl rfl) (fun _ _ _ _ h => h)) hE (qk_cons (v3 0) qk_nil) (by rfl) (by rfl) (by decide) (by rfl)))) (gt3 2 (gc3 (gn3 2 hN) (gc3 (gn3 3 hN) (qgs_nil)))))
 (qss_cons (q_if (ct3 op_isNot3 (v3 1) (q_non)) (qss_one (q_ret (q_and (bf3 c_isi3 T.b_isinstance boot_isinstance (ac3 (v3 2) (ac3 (cls3 T.m_BadTongue) (qa_nil)))) (q_and (bf3 c_isi3 T.b_isinstance boot_isinstance (ac3 (v3 2) (ac3 (ty3 T.b_ValueError boot_ValueError) (qa_nil)))) (q_one (cm3 (op_eq3 (hu_n 100 hr)) (bf3 (c_repr3 hgu (hu_n 128 hr)) T.b_repr boot_repr (ac3 (q_excVal (v3 2) rfl) (qa_nil))) (bf3 (c_repr3 hgu (hu_n 128 hr)) T.b_repr boot_repr (ac3 (v3 1) (qa_nil))))))))) (qss_nil))
 (qss_cons (sl3' (ok := blkOk_by (by kernel_rfl)) [("line", 6)] hN (qi_list (sp3 (v3 0) (q_str))) (tg_name (i := 6) (by decide)) (fun _ _ _ _ _ => pg_name (i := 6) hN rfl (.inl rfl) (.inr rfl)) (fun _ _ _ _ _ => qts_nil) (fun _ _ _ _ _ => bt3 c_tuple3 T.b_tuple boot_tuple (ac3 (q_slice (sp3 (v3 6) (q_str)) (qp_some (q_int)) qp_none) (qa_nil))))
 (qss_cons (st3 5 hN (q_tup (ac3 (v3 0) (ac3 (ix3' (v3 4) (q_int)) (ac3 (ix3' (v3 4) (q_int)) (ac3 (ix3' (q_lst (ac3 (q_int) (ac3 (q_int) (ac3 (q_int) (ac3 (q_int) (qa_nil)))))) (bf3 c_len3 T.b_len boot_len (ac3 (ix3' (v3 4) (q_int)) (qa_nil)))) (qa_nil)))))))
 (qss_one (q_ret (q_and (cm3 op_is3 (v3 2) (q_non)) (q_one (cm3 (op_eq3 (hu_n 100 hr)) (bf3 (c_repr3 hgu (hu_n 128 hr)) T.b_repr boot_repr (ac3 (q_tup (ac3 (q_prop (v3 3) T.s_Tongue T.p_text.at_ T.p_text.get T.p_text.tk T.p_text.rc (o_Tongue_text T) hTL T.g_Tongue_text.bi (hr.mono (by decide)) rfl) (ac3 (q_prop (v3 3) T.s_Tongue T.p_conditions.at_ T.p_conditions.get T.p_conditions.tk T.p_conditions.rc (o_Tongue_conditions T) hTL T.g_Tongue_conditions.bi (hr.mono (by decide)) rfl) (ac3 (q_prop (v3 3) T.s_Tongue T.p_deeds.at_ T.p_deeds.get T.p_deeds.tk T.p_deeds.rc (o_Tongue_deeds T) hTL T.g_Tongue_deeds.bi (hr.mono (by decide)) rfl) (ac3 (q_prop (v3 3) T.s_Tongue T.p_atoms.at_ T.p_atoms.get T.p_atoms.tk T.p_atoms.rc (o_Tongue_atoms T) hTL T.g_Tongue_atoms.bi (hr.mono (by decide)) rfl) (qa_nil)))))) (qa_nil))) (bf3 (c_repr3 hgu (hu_n 128 hr)) T.b_repr boot_repr (ac3 (v3 5) (qa_nil))))))))))))), fun ds M Q EX h => vc_law_is_read T.fa h⟩
theorem o_law_right (T : Tx K mg a) (TBr : LamX.TabB base mg a.ko_read a.kt_read) (hTB : LamX.TabB base mg a.ko_right a.kt_right) (hne : a.kt_read ≠ a.kt_right) : FnG PP w K mg base C8.CX0 8 a.f_law_right a.d_law_right ["pot"] (upSp K (tl a) sp_law_right) :=
 fn3GC T.c_law_right sc_law_right (fun ds M Q E h => by first | (obtain ⟨_, rfl, _⟩ := h; rfl) | (obtain ⟨_, _, rfl, _⟩ := h; rfl) | (obtain ⟨_, _, _, rfl, _⟩ := h; rfl) | (obtain ⟨_, _, _, _, rfl, _⟩ := h; rfl) | (obtain ⟨_, _, _, _, _, rfl, _⟩ := h; rfl) | (obtain ⟨_, _, _, _, _, _, rfl, _⟩ := h; rfl)) fun A outer s H T0 hTL E hgu hr => ⟨r_law_right K a, (have hN := sc_law_right.nd; qss_cons (st3 1 hN (c3 T.g_law_tongue_text (o_law_tongue_text T) hTL hr (ac3 (c3 T.g_law_tongue (o_law_tongue T) hTL hr (ac3 (v3 0) (ac3 (q_int) (ac3 (q_int) (qa_nil))))) (qa_nil))))
 (qss_cons (st3 2 hN (mk3 T.k_Tongue T.m_Tongue (o_Tongue_init T) T.g_Tongue_init.bi hTL hr (ac3 (v3 1) (qa_nil))))
 (qss_cons (q_if (PW.pt (qw_or (qt_not (tv3 (cg3 T.g_law_is_read (o_law_is_read T TBr hne) hTL hgu hr (ac3 (v3 1) (qa_nil))))) (qw_or (qt_not (ct3 (op_eqOwn T.e_eq T.e_fn (o_Tongue_eq T) hTL T.g_Tongue_eq.bi (hr.mono (by decide)) pass0 xok0) (v3 2) (mk3 T.k_Tongue T.m_Tongue (o_Tongue_init T) T.g_Tongue_init.bi hTL hr (ac3 (v3 1) (qa_nil))))) (qw_or (ct3 (op_neOwn T.e_ne T.e_mo T.e_eq T.e_fn (o_Tongue_eq T) hTL T.g_Tongue_eq.bi (hr.mono (by decide)) pass0 xok0) (v3 2) (mk3 T.k_Tongue T.m_Tongue (o_Tongue_init T) T.g_Tongue_init.bi hTL hr (ac3 (v3 1) (qa_nil)))) (qw_or1 (ct3 (op_eqOwn T.e_eq T.e_fn (o_Tongue_eq T) hTL T.g_Tongue_eq.bi (hr.mono (by decide)) pass0 xok0) (v3 2) (v3 1))))))) (qss_one (q_ret (q_bl))) (qss_nil))
 (qss_cons (fo3 (ir3 T.b_range (ac3 (q_int) (qa_nil))) (gn3 3 hN) (qss_cons (st3 4 hN (c3 T.g_law_near (o_law_near T) hTL hr (ac3 (v3 0) (ac3 (v3 1) (qa_nil)))))
 (qss_one (q_if (PW.pt (qw_or (qt_not (tv3 (cg3 T.g_law_is_read (o_law_is_read T TBr hne) hTL hgu hr (ac3 (v3 4) (qa_nil))))) (qw_or1 (PW.pt (qw_and (ct3 op_is3 (c3 T.g_law_wrong (o_law_wrong T) hTL hr (ac3 (v3 4) (qa_nil))) (q_non)) (qw_and1 (ct3 (op_ne3 (hu_n 100 hr)) (cm3 (op_eqOwn T.e_eq T.e_fn (o_Tongue_eq T) hTL T.g_Tongue_eq.bi (hr.mono (by decide)) pass0 xok0) (mk3 T.k_Tongue T.m_Tongue (o_Tongue_init T) T.g_Tongue_init.bi hTL hr (ac3 (v3 4) (qa_nil))) (v3 2)) (cm3 (op_eq3 (hu_n 100 hr)) (v3 4) (v3 1))))))))) (qss_one (q_ret (q_bl))) (qss_nil)))))
 (qss_cons (st3 5 hN (c3 T.g_law_of (o_law_of T) hTL hr (ac3 (v3 0) (ac3 (q_lst (ac3 (q_non) (ac3 (q_int) (ac3 (q_bl) (ac3 (q_tup (ac3 (v3 1) (qa_nil))) (ac3 (q_lst (ac3 (v3 1) (qa_nil))) (ac3 (q_dnew) (qa_nil)))))))) (qa_nil)))))
 (qss_cons (st3 6 hN (ix3' ((q_hd T hTB rfl (k := 4) (by rw [hTL]; exact List.mem_cons_of_mem _ (List.mem_cons_self ..)) (by rw [hTL]; exact tl_right a hne) (hr.mono (by decide)) (lamS_by' rfl) (fun A outer s H E f c' T1 EX eT hE hr' => mkx3 T.k_Tongue T.m_Tongue (o_Tongue_init T) T.g_Tongue_init.bi (eT.trans hTL) (passes_call (takes_of rfl rfl rfl rfl) (fun _ _ _ _ h => h)) hE hr' (ac3 (v3 5) (qa_nil))))) (q_int)))
 (qss_one (q_ret (q_and (bf3 c_isi3 T.b_isinstance boot_isinstance (ac3 (v3 6) (ac3 (cls3 T.m_BadTongue) (qa_nil)))) (q_one (cm3 (op_eq3 (hu_n 100 hr)) (bf3 (c_repr3 hgu (hu_n 128 hr)) T.b_repr boot_repr (ac3 (q_excVal (v3 6) rfl) (qa_nil))) (q_str)))))))))))), fun ds M Q EX h => vc_law_right T.fa h⟩
theorem o_law (T : Tx K mg a) (TBr : LamX.TabB base mg a.ko_read a.kt_read) (TBi : LamX.TabB base mg a.ko_right a.kt_right) (hne : a.kt_read ≠ a.kt_right) : FnG PP w K mg base C8.CX0 9 a.f_law a.d_law ["script"] (upSp K (tl a) sp_law) :=
 fn3G T.g_law.fn sc_law (fun ds M Q E h => by first | (obtain ⟨_, rfl, _⟩ := h; rfl) | (obtain ⟨_, _, rfl, _⟩ := h; rfl) | (obtain ⟨_, _, _, rfl, _⟩ := h; rfl) | (obtain ⟨_, _, _, _, rfl, _⟩ := h; rfl) | (obtain ⟨_, _, _, _, _, rfl, _⟩ := h; rfl) | (obtain ⟨_, _, _, _, _, _, rfl, _⟩ := h; rfl)) fun cdv A outer s H T0 hTL E hgu hr => ⟨r_law, (have hN := sc_law.nd; qss_one (q_ret (bf3 (c_all3 rfl) T.b_all boot_all (ac3 (lc3' (ok := blkOk_by (by kernel_rfl)) [("at", 1)] hN (qi_list (c3 T.g_law_cells (o_law_cells T) hTL hr (ac3 (v3 0) (ac3 (q_int) (qa_nil))))) (tg_name (i := 1) (by decide)) (fun _ _ _ _ _ => pg_name (i := 1) hN rfl (.inl rfl) (.inr rfl)) (fun _ _ _ _ _ => qts_nil) (fun _ _ _ _ _ => cg3 T.g_law_right (o_law_right T TBr TBi hne) hTL hgu hr (ac3 (c3 T.g_law_pot (o_law_pot T) hTL hr (ac3 (v3 0) (ac3 (v3 1) (qa_nil)))) (qa_nil)))) (qa_nil))))), fun ds M Q EX h => vc_law h⟩
end
end Wd
end

section
set_option Elab.async false
set_option linter.all false
set_option maxRecDepth 100000
set_option maxHeartbeats 400000
/-! the end of a law whose def is told while no repr is under way -/
namespace L3
open PySem PySem.Spec PyProof.Rows L2
def isL (o : Obj) : Bool := match o.cls with | .type "list" => true | _ => false
def isIL (o : Obj) : Bool := isL o && match o.data with | .seq its _ => its.all (fun v => match v with | .int _ _ => true | _ => false) | _ => false
/-- no list of numbers stands in the written part -/
def noIL (K : PySem.W.Frag) : Bool := K.all fun p => !isIL p.2
theorem isIL_of : ∀ {vs : List Value} {ns : List Int}, IntsAre vs ns → isIL { cls := .type "list", data := .seq vs.toArray } = true := by
  intro vs ns h
  have : ∀ v ∈ vs, ∃ n t, v = Value.int n t := h.all
  show (vs.toArray.all _) = true
  rw [List.all_toArray, List.all_eq_true]
  intro v hv
  obtain ⟨n, t, rfl⟩ := this v hv
  rfl
theorem noIL_none {K : PySem.W.Frag} (h : noIL K = true) {s : Heap} (X : K.In s) {a : Addr} {vs : List Value} {ns : List Int} (ha : s.get? a = some { cls := .type "list", data := .seq vs.toArray }) (hi : IntsAre vs ns) : K.lookup a = none := by
  cases e : K.lookup a with
  | none => rfl
  | some o =>
    have e2 := X a o e
    rw [ha] at e2
    cases e2
    have m := List.all_eq_true.mp h _ (PySem.W.mem_of_lookupK e)
    rw [isIL_of hi] at m
    cases m
def emptyTab : Obj := { cls := .none, data := .fields #[] }
/-- what is known of the law at the head's heap -/
structure LawG (l : PySem.W.OpenLaw) (w : World) (K : PySem.W.Frag) (mg : Str → Option Value) (k n : Nat) (x : Str) (fa : Addr) (h : Heap) (fd : FuncData) (ts : List (Addr × Addr)) (sp : Sp) : Prop where
  tab : ∀ t ∈ ts, h.get? t.2 = some emptyTab ∧ K.lookup t.2 = none ∧ PySem.W.CodeHd h t.1 t.2
  bind : ∀ (s : Shared) (u : Value), BindsTo s fd ⟨[u], []⟩ [(x, u)]
  told : ∀ (H : Hp) (a : Addr) (o : Obj) (ns : List Int), ns.length ≤ n → (∀ t ∈ ts, H t.2 = some (.tbl #[])) → H a = some (.frz o (.lst (ns.map V.int))) → sp [.ref a] H (fun v _ => v = .bl true) C8.E0
  run : ∀ base : Heap, K.In base → base.Ns mainGlobals mg → (∀ t ∈ ts, LamX.TabB base mg t.1 t.2) → FnG l.prog w K mg base C8.CX0 k fa fd [x] sp
/-- the abstract heap at the law's call: the script and the empty tables -/
def HTop (a : Addr) (o : Obj) (xs : List V) (ts : List (Addr × Addr)) : Hp := fun b => if b = a then some (.frz o (.lst xs)) else if b ∈ ts.map Prod.snd then some (.tbl #[]) else none
theorem HTop.none_of {a b : Addr} {o : Obj} {xs : List V} {ts : List (Addr × Addr)} (h1 : b ≠ a) (h2 : b ∉ ts.map Prod.snd) : HTop a o xs ts b = none := by
  unfold HTop
  rw [if_neg h1, if_neg h2]
theorem HTop.tab_of {a b : Addr} {o : Obj} {xs : List V} {ts : List (Addr × Addr)} (h1 : b ≠ a) (h2 : b ∈ ts.map Prod.snd) : HTop a o xs ts b = some (.tbl #[]) := by
  unfold HTop
  rw [if_neg h1, if_pos h2]
theorem HTop.at_a {a : Addr} {o : Obj} {xs : List V} {ts : List (Addr × Addr)} : HTop a o xs ts a = some (.frz o (.lst xs)) := by
  unfold HTop
  rw [if_pos rfl]
theorem end_walk {l : PySem.W.OpenLaw} {n k : Nat} {q : Program} {loose : List Str} {XP : (Str → Option Value) → Heap → Prop} {YP : World → Heap → Prop} {d : DefRec} {K : Params → PySem.W.Frag} {x : Str}
    (most : l.most = some n) (few : n ≤ sizeLine) (plain : d.params.defaults = []) (room : Room k callerA) (here : ∀ (w : World) (h : Heap), YP w h → (K w.params).In h) (noL : ∀ P, noIL (K P) = true)
    (law : ∀ (w : World) (mg : Str → Option Value) (fa : Addr) (h : Heap), YP w h → (K w.params).In h → h.Ns mainGlobals mg → mg d.name = some (.ref fa) → ∃ fd ts sp, LawG l w (K w.params) mg k n x fa h fd ts sp) :
    PySem.W.WalkO q loose XP YP l.row.toRowW d [] (fun f vs => PySem.call f vs) := by
  refine Att.attach_callB most plain fun w s₀ s mg mb fa o pm cd doc a vs ns G Y _ _ _ hmg obj nums len _ gens => ?_
  have X := here w _ Y
  obtain ⟨fd, ts, sp, L⟩ := law w mg fa _ Y X G.T.g hmg
  have aK := noIL_none (noL w.params) X obj nums
  have rv : Vals (ns.map V.int) vs := vals_ints nums
  -- the tables
  have tObj : ∀ b ∈ ts.map Prod.snd, s.heap.get? b = some emptyTab ∧ (K w.params).lookup b = none := fun b hb => by
    obtain ⟨t, ht, rfl⟩ := List.mem_map.mp hb
    exact ⟨(L.tab t ht).1, (L.tab t ht).2.1⟩
  have aT : a ∉ ts.map Prod.snd := fun z => by
    have e := (tObj a z).1
    rw [obj] at e
    cases congrArg Obj.data (Option.some.inj e)
  let Ob : Obj := { cls := .type "list", data := .seq vs.toArray }
  let H : Hp := HTop a Ob (ns.map V.int) ts
  have hT : ∀ t ∈ ts, H t.2 = some (.tbl #[]) := fun t ht => HTop.tab_of (fun z => aT (by rw [← z]; exact List.mem_map_of_mem ht)) (List.mem_map_of_mem ht)
  have cases3 : ∀ b, (b = a) ∨ (b ≠ a ∧ b ∈ ts.map Prod.snd ∧ H b = some (.tbl #[])) ∨ (b ≠ a ∧ b ∉ ts.map Prod.snd ∧ H b = none) := fun b => by
    by_cases h1 : b = a
    · exact .inl h1
    · by_cases h2 : b ∈ ts.map Prod.snd
      · exact .inr (.inl ⟨h1, h2, HTop.tab_of h1 h2⟩)
      · exact .inr (.inr ⟨h1, h2, HTop.none_of h1 h2⟩)
  -- an object that is no sequence and no empty table is not tracked
  have off : ∀ {b : Addr} {u : Obj}, s.heap.get? b = some u → (∀ xs m, u.data = .seq xs m → False) → (u.data = .fields #[] → False) → H b = none := fun {b u} e n1 n2 => by
    rcases cases3 b with z | ⟨_, z, _⟩ | ⟨_, _, z⟩
    · rw [z, obj] at e
      exact (n1 _ _ (by rw [← Option.some.inj e])).elim
    · rw [(tObj b z).1] at e
      exact (n2 (by rw [← Option.some.inj e]; rfl)).elim
    · exact z
  let B : Heap := hidT s.heap H
  have stays : ∀ {b : Addr} {u : Obj}, s.heap.get? b = some u → H b = none → B.get? b = some u := fun e z => hidT_get e z
  have names : ∀ {b : Addr} {m : Str → Option Value}, s.heap.Ns b m → B.Ns b m := fun {b m} N => by
    obtain ⟨u, es, ep, e, dt, r⟩ := N
    exact ⟨u, es, ep, stays e (off e (fun _ _ z => by rw [dt] at z; cases z) fun z => by rw [dt] at z; cases z), dt, r⟩
  have XB : (K w.params).In B := fun b u e => stays (X b u e) (by
    rcases cases3 b with z | ⟨_, z, _⟩ | ⟨_, _, z⟩
    · rw [z, aK] at e; cases e
    · rw [(tObj b z).2] at e; cases e
    · exact z)
  have mod : L2.Mod (K w.params) mg B := ⟨XB, names G.T.g, ⟨mb, names G.T.b, G.T.builtins⟩, by
    obtain ⟨mc, h1, h2⟩ := G.T.nolimit
    exact ⟨mc, names h1, h2⟩⟩
  have noDict : ∀ {b : Addr} {m : Str → Option Value} {u : Obj}, s.heap.Ns b m → s.heap.get? b = some u → ∃ es ep, u.data = .dict es ep := fun {b m u} N e => by
    obtain ⟨v, es, ep, e2, dt, _⟩ := N
    rw [e] at e2
    exact ⟨es, ep, by rw [Option.some.inj e2]; exact dt⟩
  have tabB : ∀ t ∈ ts, LamX.TabB B mg t.1 t.2 := fun t ht => by
    obtain ⟨tE, _, hd⟩ := L.tab t ht
    have gT : mainGlobals ≠ t.2 := fun z => by
      rw [← z] at tE
      obtain ⟨es, ep, e⟩ := noDict G.T.g tE
      cases e
    refine ⟨?_, ?_, gT⟩
    · obtain ⟨u, vals, f1, f2, f3, f4, f5, f6, f7, g1, g2, g3, g4, rest⟩ := hd
      exact ⟨u, vals, f1, f2, f3, f4, f5, f6, f7, stays g1 (off g1 (fun _ _ z => by rw [g3] at z; cases z) fun z => by rw [g3] at z; cases z; simp at g4), g2, g3, g4, rest⟩
    · obtain ⟨bm, u, e1, e2, e3, e4, e5, e6⟩ := G.T.bmain
      refine ⟨bm, u, e1, e2, fun z => ?_, fun z => ?_, stays e3 (off e3 (fun _ _ z => by rw [e6] at z; cases z) fun z => by rw [e6] at z; cases z), e4, e5, e6⟩
      · rw [z] at e3
        obtain ⟨es, ep, e⟩ := noDict G.T.g e3
        rw [e6] at e
        cases e
      · rw [z, tE] at e3
        cases e3
        cases e6
  have hok : HOk l.prog w H s.heap := fun b u e => by
    rcases cases3 b with z | ⟨_, z, z2⟩ | ⟨_, _, z⟩
    · subst z
      have e : HTop b Ob (ns.map V.int) ts b = some u := e
      rw [HTop.at_a] at e
      cases e
      exact ⟨obj, by rw [List.length_map]; omega, vs, _, rv, obj⟩
    · rw [z2] at e
      cases e
      exact (tObj b z).1
    · rw [z] at e
      cases e
  have e0 : Env0 l.prog w (K w.params) mg B callerA [] s H :=
    { frames := rfl, mod := mod, bs := fun b u e => of_hidT e, bsz := Nat.le_of_eq (hidT_size _ _), funs := trivial, frf := (fun b hb => by cases hb), hok := hok, bare := .of_eq gens }
  have run := (L.run B XB (names G.T.g) tabB).run callerA [] s H ⟨[.ref a], []⟩ [.ref a] [.ref a] _ _ rfl room e0 (L.bind s (.ref a)) (.cons rfl .nil) (L.told H a Ob ns len hT HTop.at_a)
  refine codeAny_mono run fun r s' en => ?_
  match r, en with
  | .ok (.ret u), en =>
    obtain ⟨v, H', os, bare, un, hok', rv', q⟩ := en
    have q : v = .bl true := q
    subst q
    obtain rfl : u = Value.bool true := rv'
    have same : ∀ {b u}, s.heap.get? b = some u → b ∉ ts.map Prod.snd → s'.heap.get? b = some u := fun {b u} e nt => by
      rcases cases3 b with z | ⟨_, z, _⟩ | ⟨_, _, z⟩
      · subst z
        have f := un.frzs b Ob _ HTop.at_a
        rw [obj] at e
        rw [← Option.some.inj e]
        exact (hok' b _ f).1
      · exact absurd z nt
      · exact un.keep b u e z (fun z => by cases z) fun z => by cases z
    have grew : ∀ t ∈ ts, ∃ more : Array Value, s'.heap.get? t.2 = some { cls := .none, data := .fields more } := fun t ht => by
      obtain ⟨more, f⟩ := un.tbls t.2 #[] (hT t ht)
      exact ⟨_, hok' _ _ f⟩
    refine ⟨rfl, ⟨fun b u e => ?_, fun b u e => ?_⟩, os, bare⟩
    · by_cases hb : b ∈ ts.map Prod.snd
      · obtain ⟨t, ht, rfl⟩ := List.mem_map.mp hb
        obtain ⟨more, f⟩ := grew t ht
        obtain ⟨tE, _, hd⟩ := L.tab t ht
        rw [tE] at e
        cases e
        exact .inr (.inl ⟨(hd.tab tE).isCodeTable, rfl, #[], more, rfl, by rw [Array.empty_append]; exact f⟩)
      · exact .inl (same e hb)
    · by_cases hb : b ∈ ts.map Prod.snd
      · obtain ⟨t, ht, rfl⟩ := List.mem_map.mp hb
        obtain ⟨more, f⟩ := grew t ht
        exact ⟨_, f⟩
      · exact ⟨u, same e hb⟩
  | .ok .next, en => exact False.elim en
  | .ok .brk, en => exact False.elim en
  | .ok .cont, en => exact False.elim en
  | .error e, en => exact False.elim en
end L3
end

section
set_option Elab.async false
set_option linter.all false
set_option maxRecDepth 100000
set_option maxHeartbeats 400000
namespace Wd
open PySem PySem.Spec PyProof.Rows L2 L3 PySem.HandSPX

theorem relStrs {K : PySem.W.Frag} {T : L3.Tm} : ∀ l : List Str, RelDs K T (l.map D.str) (l.map V.str)
  | [] => by simp only [List.map_nil, RelDs]
  | x :: l => by
    simp only [List.map_cons, RelDs]
    exact ⟨_, _, rfl, strRel, relStrs l⟩
theorem tripNil : TriplesOk ([] : List Value) := by trivial
theorem all_mk {w : World} {K : PySem.W.Frag} {h : Heap} {mg : Str → Option Value} {fa : Addr} (X : K.In h) (G : h.Ns mainGlobals mg) (hfa : mg "law" = some (.ref fa)) (kt_read kt_right : Addr) (hkt : kt_read ≠ kt_right) (tb : ∀ t ∈ [kt_read, kt_right], h.get? t = some emptyTab) (tk : ∀ t ∈ [kt_read, kt_right], K.lookup t = none)
 {c_Tongue c_BadTongue c_DeedError : Addr}
 {f_is_name : Addr} {od_is_name an_is_name : Option Addr} {sl_is_name : Array (Option Value)} {oc_is_name kV_is_name dc_is_name pm_is_name ct_is_name : Value}
 {cd_is_name : Value}
 {f_names_in : Addr} {od_names_in an_names_in : Option Addr} {sl_names_in : Array (Option Value)} {oc_names_in kV_names_in dc_names_in pm_names_in ct_names_in : Value}
 {cd_names_in : Value}
 {f_law_pot : Addr} {od_law_pot an_law_pot : Option Addr} {sl_law_pot : Array (Option Value)} {oc_law_pot kV_law_pot dc_law_pot pm_law_pot ct_law_pot : Value}
 {cd_law_pot : Value}
 {f_law_take : Addr} {od_law_take an_law_take : Option Addr} {sl_law_take : Array (Option Value)} {oc_law_take kV_law_take dc_law_take pm_law_take ct_law_take : Value}
 {cd_law_take : Value}
 {f_law_of : Addr} {od_law_of an_law_of : Option Addr} {sl_law_of : Array (Option Value)} {oc_law_of kV_law_of dc_law_of pm_law_of ct_law_of : Value}
 {cd_law_of : Value}
 {f_law_cells : Addr} {od_law_cells an_law_cells : Option Addr} {sl_law_cells : Array (Option Value)} {oc_law_cells kV_law_cells dc_law_cells pm_law_cells ct_law_cells : Value}
 {cd_law_cells : Value}
 {f_law_some : Addr} {od_law_some an_law_some : Option Addr} {sl_law_some : Array (Option Value)} {oc_law_some kV_law_some dc_law_some pm_law_some ct_law_some : Value}
 {cd_law_some : Value}
 {f_law_heard : Addr} {od_law_heard an_law_heard : Option Addr} {sl_law_heard : Array (Option Value)} {oc_law_heard kV_law_heard dc_law_heard pm_law_heard ct_law_heard : Value}
 {cd_law_heard : Value}
 {f_law_tongue : Addr} {od_law_tongue an_law_tongue : Option Addr} {sl_law_tongue : Array (Option Value)} {oc_law_tongue kV_law_tongue dc_law_tongue pm_law_tongue ct_law_tongue : Value}
 {cd_law_tongue : Value}
 {f_law_tongue_text : Addr} {od_law_tongue_text an_law_tongue_text : Option Addr} {sl_law_tongue_text : Array (Option Value)} {oc_law_tongue_text kV_law_tongue_text dc_law_tongue_text pm_law_tongue_text ct_law_tongue_text : Value}
 {cd_law_tongue_text : Value}
 {f_law_is_name : Addr} {od_law_is_name an_law_is_name : Option Addr} {sl_law_is_name : Array (Option Value)} {oc_law_is_name kV_law_is_name dc_law_is_name pm_law_is_name ct_law_is_name : Value}
 {cd_law_is_name : Value}
 {f_law_wrong : Addr} {od_law_wrong an_law_wrong : Option Addr} {sl_law_wrong : Array (Option Value)} {oc_law_wrong kV_law_wrong dc_law_wrong pm_law_wrong ct_law_wrong : Value}
 {cd_law_wrong : Value}
 {f_law_near : Addr} {od_law_near an_law_near : Option Addr} {sl_law_near : Array (Option Value)} {oc_law_near kV_law_near dc_law_near pm_law_near ct_law_near : Value}
 {cd_law_near : Value}
 {f_law_is_read : Addr} {od_law_is_read an_law_is_read : Option Addr} {sl_law_is_read : Array (Option Value)} {oc_law_is_read kV_law_is_read dc_law_is_read pm_law_is_read ct_law_is_read : Value}
 {ko_read : Addr}
 {f_law_right : Addr} {od_law_right an_law_right : Option Addr} {sl_law_right : Array (Option Value)} {oc_law_right kV_law_right dc_law_right pm_law_right ct_law_right : Value}
 {ko_right : Addr}
 {f_law : Addr} {od_law an_law : Option Addr} {sl_law : Array (Option Value)} {oc_law kV_law dc_law pm_law ct_law : Value}
 {cd_law : Value}
 {f_Tongue_init : Addr} {od_Tongue_init an_Tongue_init : Option Addr} {sl_Tongue_init : Array (Option Value)} {oc_Tongue_init kV_Tongue_init dc_Tongue_init pm_Tongue_init ct_Tongue_init : Value}
 {cd_Tongue_init : Value}
 {f_Tongue_text : Addr} {od_Tongue_text an_Tongue_text : Option Addr} {sl_Tongue_text : Array (Option Value)} {oc_Tongue_text kV_Tongue_text dc_Tongue_text pm_Tongue_text ct_Tongue_text : Value}
 {cd_Tongue_text : Value}
 {po_text : Addr} {rs_text : List Value}
 {f_Tongue_conditions : Addr} {od_Tongue_conditions an_Tongue_conditions : Option Addr} {sl_Tongue_conditions : Array (Option Value)} {oc_Tongue_conditions kV_Tongue_conditions dc_Tongue_conditions pm_Tongue_conditions ct_Tongue_conditions : Value}
 {cd_Tongue_conditions : Value}
 {po_conditions : Addr} {rs_conditions : List Value}
 {f_Tongue_deeds : Addr} {od_Tongue_deeds an_Tongue_deeds : Option Addr} {sl_Tongue_deeds : Array (Option Value)} {oc_Tongue_deeds kV_Tongue_deeds dc_Tongue_deeds pm_Tongue_deeds ct_Tongue_deeds : Value}
 {cd_Tongue_deeds : Value}
 {po_deeds : Addr} {rs_deeds : List Value}
 {f_Tongue_atoms : Addr} {od_Tongue_atoms an_Tongue_atoms : Option Addr} {sl_Tongue_atoms : Array (Option Value)} {oc_Tongue_atoms kV_Tongue_atoms dc_Tongue_atoms pm_Tongue_atoms ct_Tongue_atoms : Value}
 {cd_Tongue_atoms : Value}
 {po_atoms : Addr} {rs_atoms : List Value}
 {f_Tongue_eq : Addr} {od_Tongue_eq an_Tongue_eq : Option Addr} {sl_Tongue_eq : Array (Option Value)} {oc_Tongue_eq kV_Tongue_eq dc_Tongue_eq pm_Tongue_eq ct_Tongue_eq : Value}
 {cd_Tongue_eq : Value}
 {t_MOST_CONDITIONS : Tok}
 {t_MOST_DEEDS : Tok}
 {t_CONDITIONS : Tok}
 {t_DEEDS : Tok}
 {t_LETTERS : Tok}
 {kept : Addr} {od_kept : Option Addr} {sl_kept : Array (Option Value)} {n_kept : Nat} {tk0 : Tok} {tk1 : Tok} {tk2 : Tok} {tk3 : Tok} {tk4 : Tok} {tk5 : Tok} {tk6 : Tok} {tk7 : Tok} {tk8 : Tok} {tk9 : Tok} {tk10 : Tok} {tk11 : Tok} {tk12 : Tok} {tk13 : Tok}
 {pd_own_conditions : Addr}
 {pd_own_deeds : Addr}
 {pd_own_text : Addr}
 {fI cc cda : Addr} {ocI : Value} {odI : Option Addr} {docI pmI : Value} {anI : Option Addr} {ctI : Value} {oslI : Array (Option Value)} {ccl : Value} {cdd : Option Addr} {cvs : Array Value} {ccs : Array (Option Value)} {cfile : Str} {ctf : Tok} {ecl : Value} {ecld : Option Addr} {ecsl : Array (Option Value)}
 {nm q : Str} {NN : Addr} {bs : List Value} {sn : List Str} {sub : List Value} {ab : Bool} {col : Option Bool} {dd : Option Addr} {k0 k1 k2 k3 k5 : Option Value}
 (m_DeedError : PySem.W.nsIn K mainGlobals "DeedError" = some (some (.ref c_DeedError)))
 (m_BadTongue : PySem.W.nsIn K mainGlobals "BadTongue" = some (some (.ref c_BadTongue)))
 (m_Tongue : PySem.W.nsIn K mainGlobals "Tongue" = some (some (.ref c_Tongue)))
 (a_is_name : PySem.W.nsIn K mainGlobals "is_name" = some (some (.ref f_is_name)))
 (l_is_name : K.lookup f_is_name = some ⟨oc_is_name, od_is_name, .func (PySem.W.fnOf "is_name" "is_name" (defArgs s_is_name) (defBody s_is_name) (defScope s_is_name) .none kV_is_name dc_is_name pm_is_name an_is_name cd_is_name ct_is_name), sl_is_name⟩)
 (co_is_name : PySem.W.codeIn K cd_is_name "is_name" = true)
 (k_is_name : PySem.W.keepIn K (.ref f_is_name) = true)
 (a_names_in : PySem.W.nsIn K mainGlobals "names_in" = some (some (.ref f_names_in)))
 (l_names_in : K.lookup f_names_in = some ⟨oc_names_in, od_names_in, .func (PySem.W.fnOf "names_in" "names_in" (defArgs s_names_in) (defBody s_names_in) (defScope s_names_in) .none kV_names_in dc_names_in pm_names_in an_names_in cd_names_in ct_names_in), sl_names_in⟩)
 (co_names_in : PySem.W.codeIn K cd_names_in "names_in" = true)
 (k_names_in : PySem.W.keepIn K (.ref f_names_in) = true)
 (a_law_pot : PySem.W.nsIn K mainGlobals "_law_pot" = some (some (.ref f_law_pot)))
 (l_law_pot : K.lookup f_law_pot = some ⟨oc_law_pot, od_law_pot, .func (PySem.W.fnOf "_law_pot" "_law_pot" (defArgs s_law_pot) (defBody s_law_pot) (defScope s_law_pot) .none kV_law_pot dc_law_pot pm_law_pot an_law_pot cd_law_pot ct_law_pot), sl_law_pot⟩)
 (co_law_pot : PySem.W.codeIn K cd_law_pot "_law_pot" = true)
 (k_law_pot : PySem.W.keepIn K (.ref f_law_pot) = true)
 (a_law_take : PySem.W.nsIn K mainGlobals "_law_take" = some (some (.ref f_law_take)))
 (l_law_take : K.lookup f_law_take = some ⟨oc_law_take, od_law_take, .func (PySem.W.fnOf "_law_take" "_law_take" (defArgs s_law_take) (defBody s_law_take) (defScope s_law_take) .none kV_law_take dc_law_take pm_law_take an_law_take cd_law_take ct_law_take), sl_law_take⟩)
 (co_law_take : PySem.W.codeIn K cd_law_take "_law_take" = true)
 (k_law_take : PySem.W.keepIn K (.ref f_law_take) = true)
 (a_law_of : PySem.W.nsIn K mainGlobals "_law_of" = some (some (.ref f_law_of)))
 (l_law_of : K.lookup f_law_of = some ⟨oc_law_of, od_law_of, .func (PySem.W.fnOf "_law_of" "_law_of" (defArgs s_law_of) (defBody s_law_of) (defScope s_law_of) .none kV_law_of dc_law_of pm_law_of an_law_of cd_law_of ct_law_of), sl_law_of⟩)
 (co_law_of : PySem.W.codeIn K cd_law_of "_law_of" = true)
 (k_law_of : PySem.W.keepIn K (.ref f_law_of) = true)
 (a_law_cells : PySem.W.nsIn K mainGlobals "_law_cells" = some (some (.ref f_law_cells)))
 (l_law_cells : K.lookup f_law_cells = some ⟨oc_law_cells, od_law_cells, .func (PySem.W.fnOf "_law_cells" "_law_cells" (defArgs s_law_cells) (defBody s_law_cells) (defScope s_law_cells) .none kV_law_cells dc_law_cells pm_law_cells an_law_cells cd_law_cells ct_law_cells), sl_law_cells⟩)
 (co_law_cells : PySem.W.codeIn K cd_law_cells "_law_cells" = true)
 (k_law_cells : PySem.W.keepIn K (.ref f_law_cells) = true)
 (a_law_some : PySem.W.nsIn K mainGlobals "_law_some" = some (some (.ref f_law_some)))
 (l_law_some : K.lookup f_law_some = some ⟨oc_law_some, od_law_some, .func (PySem.W.fnOf "_law_some" "_law_some" (defArgs s_law_some) (defBody s_law_some) (defScope s_law_some) .none kV_law_some dc_law_some pm_law_some an_law_some cd_law_some ct_law_some), sl_law_some⟩)
 (co_law_some : PySem.W.codeIn K cd_law_some "_law_some" = true)
 (k_law_some : PySem.W.keepIn K (.ref f_law_some) = true)
 (a_law_heard : PySem.W.nsIn K mainGlobals "_law_heard" = some (some (.ref f_law_heard)))
 (l_law_heard : K.lookup f_law_heard = some ⟨oc_law_heard, od_law_heard, .func (PySem.W.fnOf "_law_heard" "_law_heard" (defArgs s_law_heard) (defBody s_law_heard) (defScope s_law_heard) .none kV_law_heard dc_law_heard pm_law_heard an_law_heard cd_law_heard ct_law_heard), sl_law_heard⟩)
 (co_law_heard : PySem.W.codeIn K cd_law_heard "_law_heard" = true)
 (k_law_heard : PySem.W.keepIn K (.ref f_law_heard) = true)
 (a_law_tongue : PySem.W.nsIn K mainGlobals "_law_tongue" = some (some (.ref f_law_tongue)))
 (l_law_tongue : K.lookup f_law_tongue = some ⟨oc_law_tongue, od_law_tongue, .func (PySem.W.fnOf "_law_tongue" "_law_tongue" (defArgs s_law_tongue) (defBody s_law_tongue) (defScope s_law_tongue) .none kV_law_tongue dc_law_tongue pm_law_tongue an_law_tongue cd_law_tongue ct_law_tongue), sl_law_tongue⟩)
 (co_law_tongue : PySem.W.codeIn K cd_law_tongue "_law_tongue" = true)
 (k_law_tongue : PySem.W.keepIn K (.ref f_law_tongue) = true)
 (a_law_tongue_text : PySem.W.nsIn K mainGlobals "_law_tongue_text" = some (some (.ref f_law_tongue_text)))
 (l_law_tongue_text : K.lookup f_law_tongue_text = some ⟨oc_law_tongue_text, od_law_tongue_text, .func (PySem.W.fnOf "_law_tongue_text" "_law_tongue_text" (defArgs s_law_tongue_text) (defBody s_law_tongue_text) (defScope s_law_tongue_text) .none kV_law_tongue_text dc_law_tongue_text pm_law_tongue_text an_law_tongue_text cd_law_tongue_text ct_law_tongue_text), sl_law_tongue_text⟩)
 (co_law_tongue_text : PySem.W.codeIn K cd_law_tongue_text "_law_tongue_text" = true)
 (k_law_tongue_text : PySem.W.keepIn K (.ref f_law_tongue_text) = true)
 (a_law_is_name : PySem.W.nsIn K mainGlobals "_law_is_name" = some (some (.ref f_law_is_name)))
 (l_law_is_name : K.lookup f_law_is_name = some ⟨oc_law_is_name, od_law_is_name, .func (PySem.W.fnOf "_law_is_name" "_law_is_name" (defArgs s_law_is_name) (defBody s_law_is_name) (defScope s_law_is_name) .none kV_law_is_name dc_law_is_name pm_law_is_name an_law_is_name cd_law_is_name ct_law_is_name), sl_law_is_name⟩)
 (co_law_is_name : PySem.W.codeIn K cd_law_is_name "_law_is_name" = true)
 (k_law_is_name : PySem.W.keepIn K (.ref f_law_is_name) = true)
 (a_law_wrong : PySem.W.nsIn K mainGlobals "_law_wrong" = some (some (.ref f_law_wrong)))
 (l_law_wrong : K.lookup f_law_wrong = some ⟨oc_law_wrong, od_law_wrong, .func (PySem.W.fnOf "_law_wrong" "_law_wrong" (defArgs s_law_wrong) (defBody s_law_wrong) (defScope s_law_wrong) .none kV_law_wrong dc_law_wrong pm_law_wrong an_law_wrong cd_law_wrong ct_law_wrong), sl_law_wrong⟩)
 (co_law_wrong : PySem.W.codeIn K cd_law_wrong "_law_wrong" = true)
 (k_law_wrong : PySem.W.keepIn K (.ref f_law_wrong) = true)
 (a_law_near : PySem.W.nsIn K mainGlobals "_law_near" = some (some (.ref f_law_near)))
 (l_law_near : K.lookup f_law_near = some ⟨oc_law_near, od_law_near, .func (PySem.W.fnOf "_law_near" "_law_near" (defArgs s_law_near) (defBody s_law_near) (defScope s_law_near) .none kV_law_near dc_law_near pm_law_near an_law_near cd_law_near ct_law_near), sl_law_near⟩)
 (co_law_near : PySem.W.codeIn K cd_law_near "_law_near" = true)
 (k_law_near : PySem.W.keepIn K (.ref f_law_near) = true)
 (a_law_is_read : PySem.W.nsIn K mainGlobals "_law_is_read" = some (some (.ref f_law_is_read)))
 (l_law_is_read : K.lookup f_law_is_read = some ⟨oc_law_is_read, od_law_is_read, .func (PySem.W.fnOf "_law_is_read" "_law_is_read" (defArgs s_law_is_read) (defBody s_law_is_read) (defScope s_law_is_read) .none kV_law_is_read dc_law_is_read pm_law_is_read an_law_is_read (.ref ko_read) ct_law_is_read), sl_law_is_read⟩)
 (co_law_is_read : PySem.W.codeIn K (.ref ko_read) "_law_is_read" = true)
 (k_law_is_read : PySem.W.keepIn K (.ref f_law_is_read) = true)
 (a_law_right : PySem.W.nsIn K mainGlobals "_law_right" = some (some (.ref f_law_right)))
 (l_law_right : K.lookup f_law_right = some ⟨oc_law_right, od_law_right, .func (PySem.W.fnOf "_law_right" "_law_right" (defArgs s_law_right) (defBody s_law_right) (defScope s_law_right) .none kV_law_right dc_law_right pm_law_right an_law_right (.ref ko_right) ct_law_right), sl_law_right⟩)
 (co_law_right : PySem.W.codeIn K (.ref ko_right) "_law_right" = true)
 (k_law_right : PySem.W.keepIn K (.ref f_law_right) = true)
 (a_law : PySem.W.nsIn K mainGlobals "law" = some (some (.ref f_law)))
 (l_law : K.lookup f_law = some ⟨oc_law, od_law, .func (PySem.W.fnOf "law" "law" (defArgs s_law) (defBody s_law) (defScope s_law) .none kV_law dc_law pm_law an_law cd_law ct_law), sl_law⟩)
 (co_law : PySem.W.codeIn K cd_law "law" = true)
 (k_law : PySem.W.keepIn K (.ref f_law) = true)
 (a_Tongue_init : PySem.W.findIn K (.ref c_Tongue) "__init__" = some (some (.ref f_Tongue_init)))
 (i_Tongue_init : PySem.W.isFn K (.ref f_Tongue_init) = true)
 (l_Tongue_init : K.lookup f_Tongue_init = some ⟨oc_Tongue_init, od_Tongue_init, .func (PySem.W.fnOf "__init__" "Tongue.__init__" (defArgs s_Tongue_init) (defBody s_Tongue_init) (defScope s_Tongue_init) .none kV_Tongue_init dc_Tongue_init pm_Tongue_init an_Tongue_init cd_Tongue_init ct_Tongue_init), sl_Tongue_init⟩)
 (co_Tongue_init : PySem.W.codeIn K cd_Tongue_init "Tongue.__init__" = true)
 (k_Tongue_init : PySem.W.keepIn K (.ref f_Tongue_init) = true)
 (pa_text : PySem.W.findIn K (.ref c_Tongue) "text" = some (some (.ref po_text)))
 (pg_text : PySem.W.specialIn K (.ref po_text) "__get__" = some (some (.builtin "property.__get__")))
 (pt_text : PySem.W.takesIn K (.ref po_text) = some true)
 (pr_text : PySem.W.recIn K po_text "property" = some (.ref f_Tongue_text :: rs_text))
 (l_Tongue_text : K.lookup f_Tongue_text = some ⟨oc_Tongue_text, od_Tongue_text, .func (PySem.W.fnOf "text" "Tongue.text" (defArgs s_Tongue_text) (defBody s_Tongue_text) (defScope s_Tongue_text) .none kV_Tongue_text dc_Tongue_text pm_Tongue_text an_Tongue_text cd_Tongue_text ct_Tongue_text), sl_Tongue_text⟩)
 (co_Tongue_text : PySem.W.codeIn K cd_Tongue_text "Tongue.text" = true)
 (k_Tongue_text : PySem.W.keepIn K (.ref f_Tongue_text) = true)
 (pa_conditions : PySem.W.findIn K (.ref c_Tongue) "conditions" = some (some (.ref po_conditions)))
 (pg_conditions : PySem.W.specialIn K (.ref po_conditions) "__get__" = some (some (.builtin "property.__get__")))
 (pt_conditions : PySem.W.takesIn K (.ref po_conditions) = some true)
 (pr_conditions : PySem.W.recIn K po_conditions "property" = some (.ref f_Tongue_conditions :: rs_conditions))
 (l_Tongue_conditions : K.lookup f_Tongue_conditions = some ⟨oc_Tongue_conditions, od_Tongue_conditions, .func (PySem.W.fnOf "conditions" "Tongue.conditions" (defArgs s_Tongue_conditions) (defBody s_Tongue_conditions) (defScope s_Tongue_conditions) .none kV_Tongue_conditions dc_Tongue_conditions pm_Tongue_conditions an_Tongue_conditions cd_Tongue_conditions ct_Tongue_conditions), sl_Tongue_conditions⟩)
 (co_Tongue_conditions : PySem.W.codeIn K cd_Tongue_conditions "Tongue.conditions" = true)
 (k_Tongue_conditions : PySem.W.keepIn K (.ref f_Tongue_conditions) = true)
 (pa_deeds : PySem.W.findIn K (.ref c_Tongue) "deeds" = some (some (.ref po_deeds)))
 (pg_deeds : PySem.W.specialIn K (.ref po_deeds) "__get__" = some (some (.builtin "property.__get__")))
 (pt_deeds : PySem.W.takesIn K (.ref po_deeds) = some true)
 (pr_deeds : PySem.W.recIn K po_deeds "property" = some (.ref f_Tongue_deeds :: rs_deeds))
 (l_Tongue_deeds : K.lookup f_Tongue_deeds = some ⟨oc_Tongue_deeds, od_Tongue_deeds, .func (PySem.W.fnOf "deeds" "Tongue.deeds" (defArgs s_Tongue_deeds) (defBody s_Tongue_deeds) (defScope s_Tongue_deeds) .none kV_Tongue_deeds dc_Tongue_deeds pm_Tongue_deeds an_Tongue_deeds cd_Tongue_deeds ct_Tongue_deeds), sl_Tongue_deeds⟩)
 (co_Tongue_deeds : PySem.W.codeIn K cd_Tongue_deeds "Tongue.deeds" = true)
 (k_Tongue_deeds : PySem.W.keepIn K (.ref f_Tongue_deeds) = true)
 (pa_atoms : PySem.W.findIn K (.ref c_Tongue) "atoms" = some (some (.ref po_atoms)))
 (pg_atoms : PySem.W.specialIn K (.ref po_atoms) "__get__" = some (some (.builtin "property.__get__")))
 (pt_atoms : PySem.W.takesIn K (.ref po_atoms) = some true)
 (pr_atoms : PySem.W.recIn K po_atoms "property" = some (.ref f_Tongue_atoms :: rs_atoms))
 (l_Tongue_atoms : K.lookup f_Tongue_atoms = some ⟨oc_Tongue_atoms, od_Tongue_atoms, .func (PySem.W.fnOf "atoms" "Tongue.atoms" (defArgs s_Tongue_atoms) (defBody s_Tongue_atoms) (defScope s_Tongue_atoms) .none kV_Tongue_atoms dc_Tongue_atoms pm_Tongue_atoms an_Tongue_atoms cd_Tongue_atoms ct_Tongue_atoms), sl_Tongue_atoms⟩)
 (co_Tongue_atoms : PySem.W.codeIn K cd_Tongue_atoms "Tongue.atoms" = true)
 (k_Tongue_atoms : PySem.W.keepIn K (.ref f_Tongue_atoms) = true)
 (a_Tongue_eq : PySem.W.findIn K (.ref c_Tongue) "__eq__" = some (some (.ref f_Tongue_eq)))
 (i_Tongue_eq : PySem.W.isFn K (.ref f_Tongue_eq) = true)
 (l_Tongue_eq : K.lookup f_Tongue_eq = some ⟨oc_Tongue_eq, od_Tongue_eq, .func (PySem.W.fnOf "__eq__" "Tongue.__eq__" (defArgs s_Tongue_eq) (defBody s_Tongue_eq) (defScope s_Tongue_eq) .none kV_Tongue_eq dc_Tongue_eq pm_Tongue_eq an_Tongue_eq cd_Tongue_eq ct_Tongue_eq), sl_Tongue_eq⟩)
 (co_Tongue_eq : PySem.W.codeIn K cd_Tongue_eq "Tongue.__eq__" = true)
 (k_Tongue_eq : PySem.W.keepIn K (.ref f_Tongue_eq) = true)
 (hd_read : PySem.W.codeHdIn K ko_read kt_read = true)
 (hd_right : PySem.W.codeHdIn K ko_right kt_right = true)
 (b_ValueError : PySem.W.nsIn K mainGlobals "ValueError" = some none)
 (b_abs : PySem.W.nsIn K mainGlobals "abs" = some none)
 (b_all : PySem.W.nsIn K mainGlobals "all" = some none)
 (b_enumerate : PySem.W.nsIn K mainGlobals "enumerate" = some none)
 (b_int : PySem.W.nsIn K mainGlobals "int" = some none)
 (b_isinstance : PySem.W.nsIn K mainGlobals "isinstance" = some none)
 (b_len : PySem.W.nsIn K mainGlobals "len" = some none)
 (b_list : PySem.W.nsIn K mainGlobals "list" = some none)
 (b_max : PySem.W.nsIn K mainGlobals "max" = some none)
 (b_min : PySem.W.nsIn K mainGlobals "min" = some none)
 (b_range : PySem.W.nsIn K mainGlobals "range" = some none)
 (b_repr : PySem.W.nsIn K mainGlobals "repr" = some none)
 (b_set : PySem.W.nsIn K mainGlobals "set" = some none)
 (b_str : PySem.W.nsIn K mainGlobals "str" = some none)
 (b_sum : PySem.W.nsIn K mainGlobals "sum" = some none)
 (b_tuple : PySem.W.nsIn K mainGlobals "tuple" = some none)
 (v_MOST_CONDITIONS : PySem.W.nsIn K mainGlobals "MOST_CONDITIONS" = some (some (.int 3 t_MOST_CONDITIONS)))
 (v_MOST_DEEDS : PySem.W.nsIn K mainGlobals "MOST_DEEDS" = some (some (.int 4 t_MOST_DEEDS)))
 (v_CONDITIONS : PySem.W.nsIn K mainGlobals "CONDITIONS" = some (some (.str "conditions" t_CONDITIONS)))
 (v_DEEDS : PySem.W.nsIn K mainGlobals "DEEDS" = some (some (.str "deeds" t_DEEDS)))
 (v_LETTERS : PySem.W.nsIn K mainGlobals "LETTERS" = some (some (.str "abcdefghijklmnopqrstuvwxyz" t_LETTERS)))
 (v_KEPT : PySem.W.nsIn K mainGlobals "KEPT" = some (some (.ref kept)))
 (l_KEPT : K.lookup kept = some ⟨.type "tuple", od_kept, .seq #[.str "if" tk0, .str "then" tk1, .str "else" tk2, .str "while" tk3, .str "do" tk4, .str "yes" tk5, .str "no" tk6, .str "and" tk7, .str "or" tk8, .str "not" tk9, .str "goto" tk10, .str "any" tk11, .str "end" tk12, .str "fail" tk13] n_kept, sl_kept⟩)
 (sc_pg : PySem.W.plainGet K c_Tongue Str.empty = true)
 (sc_ic : PySem.W.isClsIn K c_Tongue = true)
 (sc_po : PySem.W.plainOver K c_Tongue = true)
 (sc_sa : PySem.W.findIn K (.ref c_Tongue) "__setattr__" = some (some (.builtin "object.__setattr__")))
 (mk_mk : PySem.W.makesIn K c_Tongue = true)
 (mk_kp : PySem.W.keepIn K (.ref c_Tongue) = true)
 (t1_own_conditions : PySem.W.findIn K (.ref c_Tongue) "own_conditions" = some (some (.ref pd_own_conditions)))
 (t2_own_conditions : PySem.W.specialIn K (.ref pd_own_conditions) "__get__" = some (some (.builtin "member_descriptor.__get__")))
 (t3_own_conditions : PySem.W.takesIn K (.ref pd_own_conditions) = some true)
 (t4_own_conditions : PySem.W.typeIn K (.ref pd_own_conditions) = some (.type "member_descriptor"))
 (t5_own_conditions : PySem.W.slotIn K pd_own_conditions c_Tongue = some 0)
 (t1_own_deeds : PySem.W.findIn K (.ref c_Tongue) "own_deeds" = some (some (.ref pd_own_deeds)))
 (t2_own_deeds : PySem.W.specialIn K (.ref pd_own_deeds) "__get__" = some (some (.builtin "member_descriptor.__get__")))
 (t3_own_deeds : PySem.W.takesIn K (.ref pd_own_deeds) = some true)
 (t4_own_deeds : PySem.W.typeIn K (.ref pd_own_deeds) = some (.type "member_descriptor"))
 (t5_own_deeds : PySem.W.slotIn K pd_own_deeds c_Tongue = some 1)
 (t1_own_text : PySem.W.findIn K (.ref c_Tongue) "own_text" = some (some (.ref pd_own_text)))
 (t2_own_text : PySem.W.specialIn K (.ref pd_own_text) "__get__" = some (some (.builtin "member_descriptor.__get__")))
 (t3_own_text : PySem.W.takesIn K (.ref pd_own_text) = some true)
 (t4_own_text : PySem.W.typeIn K (.ref pd_own_text) = some (.type "member_descriptor"))
 (t5_own_text : PySem.W.slotIn K pd_own_text c_Tongue = some 2)
 (e_ne : PySem.W.findIn K (.ref c_Tongue) "__ne__" = some (some (.builtin "object.__ne__")))
 (e_mo : PySem.W.mroIn K c_Tongue (.type "object") = some true)
 (x_iC : PySem.W.findIn K (.ref c_BadTongue) "__init__" = some (some (.ref fI)))
 (x_fn : K.lookup fI = some ⟨ocI, odI, .func (PySem.W.ksFn "__init__" "DeedError.__init__" Deed.dArgs Deed.dBody Deed.dScope .none .none docI pmI anI (.ref cda) ctI cc), oslI⟩)
 (x_co : PySem.W.codeIn K (.ref cda) "DeedError.__init__" = true)
 (x_cda : K.lookup cda = some ⟨ccl, cdd, .fields cvs, ccs⟩)
 (x_file : (cvs[2]? : Option Value) = some (.str cfile ctf))
 (x_same : ((PP.main.file : Str) == cfile) = true)
 (x_cell : K.lookup cc = some ⟨ecl, ecld, .cell (some (.ref c_DeedError)), ecsl⟩)
 (x_hD : (PySem.W.clsIn K c_DeedError).isSome = true)
 (x_sup : PySem.W.nsIn K mainGlobals "super" = some none)
 (x_third : PySem.W.nsIn K cStatics "thirdparty.any" = some none)
 (x_cls : K.lookup c_BadTongue = some (excClassObj nm q c_BadTongue NN bs (.ref c_DeedError :: veTail) true sn sub ab col dd k0 k1 k2 k3 k5 "ValueError.__new__"))
 (x_ne : c_BadTongue ≠ c_DeedError)
 (x_sa : PySem.W.findIn K (.ref c_BadTongue) "__setattr__" = some (some (.builtin "object.__setattr__")))
 (x_ga : PySem.W.findIn K (.ref c_BadTongue) "__getattribute__" = some (some (.builtin "BaseException.__getattribute__")))
 (x_gg : PySem.W.findIn K (.ref c_BadTongue) "__getattr__" = some none)
 (x_noV : PySem.W.findIn K (.ref c_BadTongue) "value" = some none)
 (x_tI : PySem.W.typeIn K (.ref fI) = some (.type "function"))
 (x_kC : PySem.W.keepIn K (.ref c_BadTongue) = true)
 (x_exC : PySem.W.subIn K (.ref c_BadTongue) (.type "BaseException") = some true)
 (x_vC : PySem.W.subIn K (.ref c_BadTongue) (.type "ValueError") = some true)
 (x_tyC : PySem.W.typeIn K (.ref c_BadTongue) = some (.type "type"))
 (x_hdC : PySem.W.hasDictIn K c_BadTongue = true)
 (x_cl : (PySem.W.clsIn K c_BadTongue).isSome = true)
 (f_exm : PySem.W.exmOne K (.ref c_BadTongue) (.ref c_DeedError) = some true)
 (f_kb : PySem.W.kitOne K (.ref c_BadTongue) (.ref c_BadTongue) = some true)
 (f_kv : PySem.W.kitOne K (.ref c_BadTongue) (.type "ValueError") = some true)
 (f_ks : PySem.W.kitOne K (.type "str") (.ref c_Tongue) = some false)
 (f_ns : PySem.W.notFirst K c_Tongue (.type "str") = true)
 (f_nt : PySem.W.notFirst K c_Tongue (.ref c_Tongue) = true)
 (s1_BadTongue : PySem.W.findIn K (.ref c_BadTongue) "__class__" = some (some (.builtin "object.__class__")))
 (s1_Tongue : PySem.W.findIn K (.ref c_Tongue) "__class__" = some (some (.builtin "object.__class__")))
 (s2 : PySem.W.specialIn K (.builtin "object.__class__") "__get__" = some (some (.builtin "getset_descriptor.__get__")))
 (s3 : PySem.W.takesIn K (.builtin "object.__class__") = some true)
 (s4 : PySem.W.mroIn K c_BadTongue (.type "object") = some true) :
 ∃ fd ts sp, LawG PySem.Challenge.rw_whateverdeeds_k00_tongues_read_and_refus w K mg 9 63 "script" fa h fd ts sp := by
  have ef := hfa.symm.trans (PySem.W.mg_of X G a_law)
  cases ef
  have F_is_name := fun_mk (st := s_is_name) l_is_name co_is_name k_is_name
  have B_is_name := F_is_name.binds (ps := ["value"]) fun _ _ _ _ _ _ us hl => match us, hl with | [_], _ => rfl
  have F_names_in := fun_mk (st := s_names_in) l_names_in co_names_in k_names_in
  have B_names_in := F_names_in.binds (ps := ["line", "word", "low", "high", "used"]) fun _ _ _ _ _ _ us hl => match us, hl with | [_, _, _, _, _], _ => rfl
  have F_law_pot := fun_mk (st := s_law_pot) l_law_pot co_law_pot k_law_pot
  have B_law_pot := F_law_pot.binds (ps := ["script", "place"]) fun _ _ _ _ _ _ us hl => match us, hl with | [_, _], _ => rfl
  have F_law_take := fun_mk (st := s_law_take) l_law_take co_law_take k_law_take
  have B_law_take := F_law_take.binds (ps := ["pot", "upto"]) fun _ _ _ _ _ _ us hl => match us, hl with | [_, _], _ => rfl
  have F_law_of := fun_mk (st := s_law_of) l_law_of co_law_of k_law_of
  have B_law_of := F_law_of.binds (ps := ["pot", "some"]) fun _ _ _ _ _ _ us hl => match us, hl with | [_, _], _ => rfl
  have F_law_cells := fun_mk (st := s_law_cells) l_law_cells co_law_cells k_law_cells
  have B_law_cells := F_law_cells.binds (ps := ["script", "most"]) fun _ _ _ _ _ _ us hl => match us, hl with | [_, _], _ => rfl
  have F_law_some := fun_mk (st := s_law_some) l_law_some co_law_some k_law_some
  have B_law_some := F_law_some.binds (ps := ["pot", "pool", "many"]) fun _ _ _ _ _ _ us hl => match us, hl with | [_, _, _], _ => rfl
  have F_law_heard := fun_mk (st := s_law_heard) l_law_heard co_law_heard k_law_heard
  have B_law_heard := F_law_heard.binds (ps := ["call"]) fun _ _ _ _ _ _ us hl => match us, hl with | [_], _ => rfl
  have F_law_tongue := fun_mk (st := s_law_tongue) l_law_tongue co_law_tongue k_law_tongue
  have B_law_tongue := F_law_tongue.binds (ps := ["pot", "conditions", "deeds"]) fun _ _ _ _ _ _ us hl => match us, hl with | [_, _, _], _ => rfl
  have F_law_tongue_text := fun_mk (st := s_law_tongue_text) l_law_tongue_text co_law_tongue_text k_law_tongue_text
  have B_law_tongue_text := F_law_tongue_text.binds (ps := ["own"]) fun _ _ _ _ _ _ us hl => match us, hl with | [_], _ => rfl
  have F_law_is_name := fun_mk (st := s_law_is_name) l_law_is_name co_law_is_name k_law_is_name
  have B_law_is_name := F_law_is_name.binds (ps := ["word"]) fun _ _ _ _ _ _ us hl => match us, hl with | [_], _ => rfl
  have F_law_wrong := fun_mk (st := s_law_wrong) l_law_wrong co_law_wrong k_law_wrong
  have B_law_wrong := F_law_wrong.binds (ps := ["text"]) fun _ _ _ _ _ _ us hl => match us, hl with | [_], _ => rfl
  have F_law_near := fun_mk (st := s_law_near) l_law_near co_law_near k_law_near
  have B_law_near := F_law_near.binds (ps := ["pot", "text"]) fun _ _ _ _ _ _ us hl => match us, hl with | [_, _], _ => rfl
  have F_law_is_read := fun_mk (st := s_law_is_read) l_law_is_read co_law_is_read k_law_is_read
  have B_law_is_read := F_law_is_read.binds (ps := ["text"]) fun _ _ _ _ _ _ us hl => match us, hl with | [_], _ => rfl
  have F_law_right := fun_mk (st := s_law_right) l_law_right co_law_right k_law_right
  have B_law_right := F_law_right.binds (ps := ["pot"]) fun _ _ _ _ _ _ us hl => match us, hl with | [_], _ => rfl
  have F_law := fun_mk (st := s_law) l_law co_law k_law
  have B_law := F_law.binds (ps := ["script"]) fun _ _ _ _ _ _ us hl => match us, hl with | [_], _ => rfl
  have F_Tongue_init := fun_mk (st := s_Tongue_init) l_Tongue_init co_Tongue_init k_Tongue_init
  have B_Tongue_init := F_Tongue_init.binds (ps := ["self", "text"]) fun _ _ _ _ _ _ us hl => match us, hl with | [_, _], _ => rfl
  have F_Tongue_text := fun_mk (st := s_Tongue_text) l_Tongue_text co_Tongue_text k_Tongue_text
  have B_Tongue_text := F_Tongue_text.binds (ps := ["self"]) fun _ _ _ _ _ _ us hl => match us, hl with | [_], _ => rfl
  have F_Tongue_conditions := fun_mk (st := s_Tongue_conditions) l_Tongue_conditions co_Tongue_conditions k_Tongue_conditions
  have B_Tongue_conditions := F_Tongue_conditions.binds (ps := ["self"]) fun _ _ _ _ _ _ us hl => match us, hl with | [_], _ => rfl
  have F_Tongue_deeds := fun_mk (st := s_Tongue_deeds) l_Tongue_deeds co_Tongue_deeds k_Tongue_deeds
  have B_Tongue_deeds := F_Tongue_deeds.binds (ps := ["self"]) fun _ _ _ _ _ _ us hl => match us, hl with | [_], _ => rfl
  have F_Tongue_atoms := fun_mk (st := s_Tongue_atoms) l_Tongue_atoms co_Tongue_atoms k_Tongue_atoms
  have B_Tongue_atoms := F_Tongue_atoms.binds (ps := ["self"]) fun _ _ _ _ _ _ us hl => match us, hl with | [_], _ => rfl
  have F_Tongue_eq := fun_mk (st := s_Tongue_eq) l_Tongue_eq co_Tongue_eq k_Tongue_eq
  have B_Tongue_eq := F_Tongue_eq.binds (ps := ["self", "other"]) fun _ _ _ _ _ _ us hl => match us, hl with | [_, _], _ => rfl
  let a : Ad := {f_is_name := f_is_name, d_is_name := PySem.W.fnOf "is_name" "is_name" (defArgs s_is_name) (defBody s_is_name) (defScope s_is_name) .none kV_is_name dc_is_name pm_is_name an_is_name cd_is_name ct_is_name, f_names_in := f_names_in, d_names_in := PySem.W.fnOf "names_in" "names_in" (defArgs s_names_in) (defBody s_names_in) (defScope s_names_in) .none kV_names_in dc_names_in pm_names_in an_names_in cd_names_in ct_names_in, f_law_pot := f_law_pot, d_law_pot := PySem.W.fnOf "_law_pot" "_law_pot" (defArgs s_law_pot) (defBody s_law_pot) (defScope s_law_pot) .none kV_law_pot dc_law_pot pm_law_pot an_law_pot cd_law_pot ct_law_pot, f_law_take := f_law_take, d_law_take := PySem.W.fnOf "_law_take" "_law_take" (defArgs s_law_take) (defBody s_law_take) (defScope s_law_take) .none kV_law_take dc_law_take pm_law_take an_law_take cd_law_take ct_law_take, f_law_of := f_law_of, d_law_of := PySem.W.fnOf "_law_of" "_law_of" (defArgs s_law_of) (defBody s_law_of) (defScope s_law_of) .none kV_law_of dc_law_of pm_law_of an_law_of cd_law_of ct_law_of, f_law_cells := f_law_cells, d_law_cells := PySem.W.fnOf "_law_cells" "_law_cells" (defArgs s_law_cells) (defBody s_law_cells) (defScope s_law_cells) .none kV_law_cells dc_law_cells pm_law_cells an_law_cells cd_law_cells ct_law_cells, f_law_some := f_law_some, d_law_some := PySem.W.fnOf "_law_some" "_law_some" (defArgs s_law_some) (defBody s_law_some) (defScope s_law_some) .none kV_law_some dc_law_some pm_law_some an_law_some cd_law_some ct_law_some, f_law_heard := f_law_heard, d_law_heard := PySem.W.fnOf "_law_heard" "_law_heard" (defArgs s_law_heard) (defBody s_law_heard) (defScope s_law_heard) .none kV_law_heard dc_law_heard pm_law_heard an_law_heard cd_law_heard ct_law_heard, f_law_tongue := f_law_tongue, d_law_tongue := PySem.W.fnOf "_law_tongue" "_law_tongue" (defArgs s_law_tongue) (defBody s_law_tongue) (defScope s_law_tongue) .none kV_law_tongue dc_law_tongue pm_law_tongue an_law_tongue cd_law_tongue ct_law_tongue, f_law_tongue_text := f_law_tongue_text, d_law_tongue_text := PySem.W.fnOf "_law_tongue_text" "_law_tongue_text" (defArgs s_law_tongue_text) (defBody s_law_tongue_text) (defScope s_law_tongue_text) .none kV_law_tongue_text dc_law_tongue_text pm_law_tongue_text an_law_tongue_text cd_law_tongue_text ct_law_tongue_text, f_law_is_name := f_law_is_name, d_law_is_name := PySem.W.fnOf "_law_is_name" "_law_is_name" (defArgs s_law_is_name) (defBody s_law_is_name) (defScope s_law_is_name) .none kV_law_is_name dc_law_is_name pm_law_is_name an_law_is_name cd_law_is_name ct_law_is_name, f_law_wrong := f_law_wrong, d_law_wrong := PySem.W.fnOf "_law_wrong" "_law_wrong" (defArgs s_law_wrong) (defBody s_law_wrong) (defScope s_law_wrong) .none kV_law_wrong dc_law_wrong pm_law_wrong an_law_wrong cd_law_wrong ct_law_wrong, f_law_near := f_law_near, d_law_near := PySem.W.fnOf "_law_near" "_law_near" (defArgs s_law_near) (defBody s_law_near) (defScope s_law_near) .none kV_law_near dc_law_near pm_law_near an_law_near cd_law_near ct_law_near, f_law_is_read := f_law_is_read, d_law_is_read := PySem.W.fnOf "_law_is_read" "_law_is_read" (defArgs s_law_is_read) (defBody s_law_is_read) (defScope s_law_is_read) .none kV_law_is_read dc_law_is_read pm_law_is_read an_law_is_read (.ref ko_read) ct_law_is_read, f_law_right := f_law_right, d_law_right := PySem.W.fnOf "_law_right" "_law_right" (defArgs s_law_right) (defBody s_law_right) (defScope s_law_right) .none kV_law_right dc_law_right pm_law_right an_law_right (.ref ko_right) ct_law_right, f_law := fa, d_law := PySem.W.fnOf "law" "law" (defArgs s_law) (defBody s_law) (defScope s_law) .none kV_law dc_law pm_law an_law cd_law ct_law, f_Tongue_init := f_Tongue_init, d_Tongue_init := PySem.W.fnOf "__init__" "Tongue.__init__" (defArgs s_Tongue_init) (defBody s_Tongue_init) (defScope s_Tongue_init) .none kV_Tongue_init dc_Tongue_init pm_Tongue_init an_Tongue_init cd_Tongue_init ct_Tongue_init, f_Tongue_text := f_Tongue_text, d_Tongue_text := PySem.W.fnOf "text" "Tongue.text" (defArgs s_Tongue_text) (defBody s_Tongue_text) (defScope s_Tongue_text) .none kV_Tongue_text dc_Tongue_text pm_Tongue_text an_Tongue_text cd_Tongue_text ct_Tongue_text, f_Tongue_conditions := f_Tongue_conditions, d_Tongue_conditions := PySem.W.fnOf "conditions" "Tongue.conditions" (defArgs s_Tongue_conditions) (defBody s_Tongue_conditions) (defScope s_Tongue_conditions) .none kV_Tongue_conditions dc_Tongue_conditions pm_Tongue_conditions an_Tongue_conditions cd_Tongue_conditions ct_Tongue_conditions, f_Tongue_deeds := f_Tongue_deeds, d_Tongue_deeds := PySem.W.fnOf "deeds" "Tongue.deeds" (defArgs s_Tongue_deeds) (defBody s_Tongue_deeds) (defScope s_Tongue_deeds) .none kV_Tongue_deeds dc_Tongue_deeds pm_Tongue_deeds an_Tongue_deeds cd_Tongue_deeds ct_Tongue_deeds, f_Tongue_atoms := f_Tongue_atoms, d_Tongue_atoms := PySem.W.fnOf "atoms" "Tongue.atoms" (defArgs s_Tongue_atoms) (defBody s_Tongue_atoms) (defScope s_Tongue_atoms) .none kV_Tongue_atoms dc_Tongue_atoms pm_Tongue_atoms an_Tongue_atoms cd_Tongue_atoms ct_Tongue_atoms, f_Tongue_eq := f_Tongue_eq, d_Tongue_eq := PySem.W.fnOf "__eq__" "Tongue.__eq__" (defArgs s_Tongue_eq) (defBody s_Tongue_eq) (defScope s_Tongue_eq) .none kV_Tongue_eq dc_Tongue_eq pm_Tongue_eq an_Tongue_eq cd_Tongue_eq ct_Tongue_eq, c_DeedError := c_DeedError, c_BadTongue := c_BadTongue, c_Tongue := c_Tongue, kept := kept, pd_own_conditions := pd_own_conditions, pd_own_deeds := pd_own_deeds, pd_own_text := pd_own_text, po_text := po_text, po_conditions := po_conditions, po_deeds := po_deeds, po_atoms := po_atoms, fI := fI, cc := cc, cda := cda, ko_read := ko_read, kt_read := kt_read, ko_right := ko_right, kt_right := kt_right}
  have SC : SlX.SCls K c_Tongue := ⟨sc_pg, sc_ic, sc_po, sc_sa⟩
  have SB : SlX.SIsi K c_BadTongue := ⟨s1_BadTongue, s2, s3, s4⟩
  have ST : SlX.SIsi K c_Tongue := ⟨s1_Tongue, s2, s3, e_mo⟩
  have KB : KBn K (PySem.W.fnOf "__init__" "Tongue.__init__" (defArgs s_Tongue_init) (defBody s_Tongue_init) (defScope s_Tongue_init) .none kV_Tongue_init dc_Tongue_init pm_Tongue_init an_Tongue_init cd_Tongue_init ct_Tongue_init) ["self", "text"] 1 ["text"] (fun us ws => us ++ ws) fun vs zs => vs ++ zs :=
    ⟨fun s us ws _ l1 l2 => match us, ws, l1, l2 with | [_], [_], _, _ => .of_eq rfl, fun r1 r2 => r1.append r2⟩
  have T : Tx K mg a := {
    g_is_name := ⟨F_is_name, PySem.W.mg_of X G a_is_name, B_is_name⟩
    g_names_in := ⟨F_names_in, PySem.W.mg_of X G a_names_in, B_names_in⟩
    g_law_pot := ⟨F_law_pot, PySem.W.mg_of X G a_law_pot, B_law_pot⟩
    g_law_take := ⟨F_law_take, PySem.W.mg_of X G a_law_take, B_law_take⟩
    g_law_of := ⟨F_law_of, PySem.W.mg_of X G a_law_of, B_law_of⟩
    g_law_cells := ⟨F_law_cells, PySem.W.mg_of X G a_law_cells, B_law_cells⟩
    g_law_some := ⟨F_law_some, PySem.W.mg_of X G a_law_some, B_law_some⟩
    g_law_heard := ⟨F_law_heard, PySem.W.mg_of X G a_law_heard, B_law_heard⟩
    g_law_tongue := ⟨F_law_tongue, PySem.W.mg_of X G a_law_tongue, B_law_tongue⟩
    g_law_tongue_text := ⟨F_law_tongue_text, PySem.W.mg_of X G a_law_tongue_text, B_law_tongue_text⟩
    g_law_is_name := ⟨F_law_is_name, PySem.W.mg_of X G a_law_is_name, B_law_is_name⟩
    g_law_wrong := ⟨F_law_wrong, PySem.W.mg_of X G a_law_wrong, B_law_wrong⟩
    g_law_near := ⟨F_law_near, PySem.W.mg_of X G a_law_near, B_law_near⟩
    c_law_is_read := ⟨⟨_, _, _, _, _, _, _, _, rfl, l_law_is_read, co_law_is_read⟩⟩
    g_law_is_read := ⟨F_law_is_read, PySem.W.mg_of X G a_law_is_read, B_law_is_read⟩
    c_law_right := ⟨⟨_, _, _, _, _, _, _, _, rfl, l_law_right, co_law_right⟩⟩
    g_law_right := ⟨F_law_right, PySem.W.mg_of X G a_law_right, B_law_right⟩
    g_law := ⟨F_law, PySem.W.mg_of X G a_law, B_law⟩
    g_Tongue_init := ⟨F_Tongue_init, B_Tongue_init⟩
    g_Tongue_text := ⟨F_Tongue_text, B_Tongue_text⟩
    g_Tongue_conditions := ⟨F_Tongue_conditions, B_Tongue_conditions⟩
    g_Tongue_deeds := ⟨F_Tongue_deeds, B_Tongue_deeds⟩
    g_Tongue_atoms := ⟨F_Tongue_atoms, B_Tongue_atoms⟩
    g_Tongue_eq := ⟨F_Tongue_eq, B_Tongue_eq⟩
    m_Tongue := PySem.W.mg_of X G m_Tongue
    m_BadTongue := PySem.W.mg_of X G m_BadTongue
    m_DeedError := PySem.W.mg_of X G m_DeedError
    k_Tongue := ⟨mk_mk, a_Tongue_init, i_Tongue_init, mk_kp⟩
    b_ValueError := PySem.W.mg_none_of X G b_ValueError
    b_abs := PySem.W.mg_none_of X G b_abs
    b_all := PySem.W.mg_none_of X G b_all
    b_enumerate := PySem.W.mg_none_of X G b_enumerate
    b_int := PySem.W.mg_none_of X G b_int
    b_isinstance := PySem.W.mg_none_of X G b_isinstance
    b_len := PySem.W.mg_none_of X G b_len
    b_list := PySem.W.mg_none_of X G b_list
    b_max := PySem.W.mg_none_of X G b_max
    b_min := PySem.W.mg_none_of X G b_min
    b_range := PySem.W.mg_none_of X G b_range
    b_repr := PySem.W.mg_none_of X G b_repr
    b_set := PySem.W.mg_none_of X G b_set
    b_str := PySem.W.mg_none_of X G b_str
    b_sum := PySem.W.mg_none_of X G b_sum
    b_tuple := PySem.W.mg_none_of X G b_tuple
    v_MOST_CONDITIONS := ⟨_, PySem.W.mg_of X G v_MOST_CONDITIONS⟩
    v_MOST_DEEDS := ⟨_, PySem.W.mg_of X G v_MOST_DEEDS⟩
    v_CONDITIONS := ⟨_, PySem.W.mg_of X G v_CONDITIONS⟩
    v_DEEDS := ⟨_, PySem.W.mg_of X G v_DEEDS⟩
    v_LETTERS := ⟨_, PySem.W.mg_of X G v_LETTERS⟩
    v_KEPT := PySem.W.mg_of X G v_KEPT
    r_KEPT := fun T => by
      simp only [RelD]
      exact ⟨kept, keptL.map V.str, rfl, .inr ⟨_, _, _, l_KEPT, rfl, rfl, by rw [sizeLine_eq]; simp, .cons ⟨_, rfl⟩ (.cons ⟨_, rfl⟩ (.cons ⟨_, rfl⟩ (.cons ⟨_, rfl⟩ (.cons ⟨_, rfl⟩ (.cons ⟨_, rfl⟩ (.cons ⟨_, rfl⟩ (.cons ⟨_, rfl⟩ (.cons ⟨_, rfl⟩ (.cons ⟨_, rfl⟩ (.cons ⟨_, rfl⟩ (.cons ⟨_, rfl⟩ (.cons ⟨_, rfl⟩ (.cons ⟨_, rfl⟩ (.nil))))))))))))))⟩, relStrs keptL⟩
    s_Tongue := SC
    t_own_conditions := ⟨t1_own_conditions, t2_own_conditions, t3_own_conditions, t4_own_conditions, t5_own_conditions, by decide⟩
    t_own_deeds := ⟨t1_own_deeds, t2_own_deeds, t3_own_deeds, t4_own_deeds, t5_own_deeds, by decide⟩
    t_own_text := ⟨t1_own_text, t2_own_text, t3_own_text, t4_own_text, t5_own_text, by decide⟩
    p_text := ⟨pa_text, pg_text, pt_text, ⟨_, pr_text⟩⟩
    p_conditions := ⟨pa_conditions, pg_conditions, pt_conditions, ⟨_, pr_conditions⟩⟩
    p_deeds := ⟨pa_deeds, pg_deeds, pt_deeds, ⟨_, pr_deeds⟩⟩
    p_atoms := ⟨pa_atoms, pg_atoms, pt_atoms, ⟨_, pr_atoms⟩⟩
    e_eq := a_Tongue_eq
    e_fn := i_Tongue_eq
    e_ne := e_ne
    e_mo := e_mo
    x_init := ⟨⟨_, _, _, _, _, _, _, x_fn, x_co⟩, ⟨_, _, _, _, _, _, x_cda, x_file, x_same⟩, ⟨_, _, _, x_cell⟩, Option.isSome_iff_exists.mp x_hD, x_sup, by decide +kernel, x_third⟩
    x_BadTongue := ⟨⟨_, _, _, _, _, _, _, _, _, _, _, _, _, _, x_cls⟩, x_ne, x_sa, x_ga, x_gg, x_noV, x_iC, x_tI, x_kC, x_exC, x_vC, x_tyC, x_hdC⟩
    fa := ⟨f_exm, ⟨x_cl, x_ga, x_gg, x_exC, x_hdC, x_noV, SB⟩, f_kb, f_kv, SC, ST, f_ks, f_ns, f_nt⟩
    kb_init := ⟨_, KB⟩ }
  refine ⟨a.d_law, [(ko_read, kt_read), (ko_right, kt_right)], upSp K (tl a) sp_law, ⟨fun t ht => ?_, fun s v => .of_eq rfl, fun H b o ns hl hT hb => ?_, fun base XB GB TB => ?_⟩⟩
  · simp only [List.mem_cons, List.not_mem_nil, or_false] at ht
    rcases ht with rfl | rfl
    · exact ⟨tb _ (by simp), tk _ (by simp), PySem.W.codeHd_of_K X hd_read⟩
    · exact ⟨tb _ (by simp), tk _ (by simp), PySem.W.codeHd_of_K X hd_right⟩
  · have rn : ∀ T : L3.Tm, ∀ l : List Int, RelDs K T (l.map D.int) (l.map V.int) := fun T l => by
      induction l with
      | nil => simp only [List.map_nil, RelDs]
      | cons x l ih =>
        simp only [List.map_cons, RelDs]
        exact ⟨_, _, rfl, intRel, ih⟩
    refine ⟨⟨fun _ => none, tl a⟩, fun c => if c = b then some (.rol (ns.map D.int)) else none, [.ref b], fun r _ => r = .bl true, noX, rfl, ⟨fun c xs e => ?_, fun c u e => ?_, fun t ht => ?_⟩, ?_, ⟨b, ns, rfl, .inr (if_pos rfl), hl, rfl⟩, ?_, ?_⟩
    · cases e
    · by_cases hc : c = b
      · subst hc
        have e : (if c = c then some (MO.rol (ns.map D.int)) else none) = some u := e
        rw [if_pos rfl] at e
        cases e
        exact ⟨_, .inr ⟨o, hb⟩, rn _ _⟩
      · have e : (if c = b then some (MO.rol (ns.map D.int)) else none) = some u := e
        rw [if_neg hc] at e
        cases e
    · refine ⟨#[], ?_, tripNil, fun pos cv hc => by cases hc⟩
      · simp only [tl, List.mem_cons, List.not_mem_nil, or_false] at ht
        rcases ht with rfl | rfl
        · exact hT (ko_read, kt_read) (by simp)
        · exact hT (ko_right, kt_right) (by simp)
    · simp only [RelDs]
      exact ⟨_, _, rfl, refRel, rfl⟩
    · rintro v H' ⟨T', M', dv, _, _, rd, rfl⟩
      simp only [RelD] at rd
      exact rd
    · rintro cls dd H' ⟨_, _, _, _, _, _, _, _, _, _, _, _, z⟩
      exact z.elim
  · have h1 : LamX.TabB base mg a.ko_read a.kt_read := TB (ko_read, kt_read) (by simp)
    have h2 : LamX.TabB base mg a.ko_right a.kt_right := TB (ko_right, kt_right) (by simp)
    exact o_law T h1 h2 hkt
end Wd
end

section
set_option Elab.async false
open PySem PySem.W PyProof.Rows
set_option maxRecDepth 100000 in
set_option maxHeartbeats 0 in
theorem PySem.Challenge.cw_whateverdeeds_k00_tongues_read_and_refus_holds : PySem.Challenge.rw_whateverdeeds_k00_tongues_read_and_refus.Holds := by
  w_on; o_law; k_head; (case hw => w_witness2)
  k_fill
  refine L3.end_walk (l := PySem.Challenge.rw_whateverdeeds_k00_tongues_read_and_refus) (n := 63) (k := 9) (x := "script") rfl (by decide) rfl ⟨rfl, by decide, by decide⟩ (fun w h Y => PySem.W.km_in_of Y) ?noL ?law
  case noL => intro P; kernel_rfl
  case law =>
    intro w mg fa h Y KX G hmg
    refine' Wd.all_mk KX G hmg 197 202 (by decide) (PySem.W.km_tabs_of Y) ?tk ?m_DeedError ?m_BadTongue ?m_Tongue ?a_is_name ?l_is_name ?co_is_name ?k_is_name ?a_names_in ?l_names_in ?co_names_in ?k_names_in ?a_law_pot ?l_law_pot ?co_law_pot ?k_law_pot ?a_law_take ?l_law_take ?co_law_take ?k_law_take ?a_law_of ?l_law_of ?co_law_of ?k_law_of ?a_law_cells ?l_law_cells ?co_law_cells ?k_law_cells ?a_law_some ?l_law_some ?co_law_some ?k_law_some ?a_law_heard ?l_law_heard ?co_law_heard ?k_law_heard ?a_law_tongue ?l_law_tongue ?co_law_tongue ?k_law_tongue ?a_law_tongue_text ?l_law_tongue_text ?co_law_tongue_text ?k_law_tongue_text ?a_law_is_name ?l_law_is_name ?co_law_is_name ?k_law_is_name ?a_law_wrong ?l_law_wrong ?co_law_wrong ?k_law_wrong ?a_law_near ?l_law_near ?co_law_near ?k_law_near ?a_law_is_read ?l_law_is_read ?co_law_is_read ?k_law_is_read ?a_law_right ?l_law_right ?co_law_right ?k_law_right ?a_law ?l_law ?co_law ?k_law ?a_Tongue_init ?i_Tongue_init ?l_Tongue_init ?co_Tongue_init ?k_Tongue_init ?pa_text ?pg_text ?pt_text ?pr_text ?l_Tongue_text ?co_Tongue_text ?k_Tongue_text ?pa_conditions ?pg_conditions ?pt_conditions ?pr_conditions ?l_Tongue_conditions ?co_Tongue_conditions ?k_Tongue_conditions ?pa_deeds ?pg_deeds ?pt_deeds ?pr_deeds ?l_Tongue_deeds ?co_Tongue_deeds ?k_Tongue_deeds ?pa_atoms ?pg_atoms ?pt_atoms ?pr_atoms ?l_Tongue_atoms ?co_Tongue_atoms ?k_Tongue_atoms ?a_Tongue_eq ?i_Tongue_eq ?l_Tongue_eq ?co_Tongue_eq ?k_Tongue_eq ?hd_read ?hd_right ?b_ValueError ?b_abs ?b_all ?b_enumerate ?b_int ?b_isinstance ?b_len ?b_list ?b_max ?b_min ?b_range ?b_repr ?b_set ?b_str ?b_sum ?b_tuple ?v_MOST_CONDITIONS ?v_MOST_DEEDS ?v_CONDITIONS ?v_DEEDS ?v_LETTERS ?v_KEPT ?l_KEPT ?sc_pg ?sc_ic ?sc_po ?sc_sa ?mk_mk ?mk_kp ?t1_own_conditions ?t2_own_conditions ?t3_own_conditions ?t4_own_conditions ?t5_own_conditions ?t1_own_deeds ?t2_own_deeds ?t3_own_deeds ?t4_own_deeds ?t5_own_deeds ?t1_own_text ?t2_own_text ?t3_own_text ?t4_own_text ?t5_own_text ?e_ne ?e_mo ?x_iC ?x_fn ?x_co ?x_cda ?x_file ?x_same ?x_cell ?x_hD ?x_sup ?x_third ?x_cls ?x_ne ?x_sa ?x_ga ?x_gg ?x_noV ?x_tI ?x_kC ?x_exC ?x_vC ?x_tyC ?x_hdC ?x_cl ?f_exm ?f_kb ?f_kv ?f_ks ?f_ns ?f_nt ?s1_BadTongue ?s1_Tongue ?s2 ?s3 ?s4
    (case tk => intro t ht; simp only [List.mem_cons, List.not_mem_nil, or_false] at ht; rcases ht with rfl | rfl <;> kernel_rfl)
    (case m_DeedError => k_is)
    (case m_BadTongue => k_is)
    (case m_Tongue => k_is)
    (case a_is_name => k_is)
    (case l_is_name => k_is)
    (case co_is_name => k_is)
    (case k_is_name => k_is)
    (case a_names_in => k_is)
    (case l_names_in => k_is)
    (case co_names_in => k_is)
    (case k_names_in => k_is)
    (case a_law_pot => k_is)
    (case l_law_pot => k_is)
    (case co_law_pot => k_is)
    (case k_law_pot => k_is)
    (case a_law_take => k_is)
    (case l_law_take => k_is)
    (case co_law_take => k_is)
    (case k_law_take => k_is)
    (case a_law_of => k_is)
    (case l_law_of => k_is)
    (case co_law_of => k_is)
    (case k_law_of => k_is)
    (case a_law_cells => k_is)
    (case l_law_cells => k_is)
    (case co_law_cells => k_is)
    (case k_law_cells => k_is)
    (case a_law_some => k_is)
    (case l_law_some => k_is)
    (case co_law_some => k_is)
    (case k_law_some => k_is)
    (case a_law_heard => k_is)
    (case l_law_heard => k_is)
    (case co_law_heard => k_is)
    (case k_law_heard => k_is)
    (case a_law_tongue => k_is)
    (case l_law_tongue => k_is)
    (case co_law_tongue => k_is)
    (case k_law_tongue => k_is)
    (case a_law_tongue_text => k_is)
    (case l_law_tongue_text => k_is)
    (case co_law_tongue_text => k_is)
    (case k_law_tongue_text => k_is)
    (case a_law_is_name => k_is)
    (case l_law_is_name => k_is)
    (case co_law_is_name => k_is)
    (case k_law_is_name => k_is)
    (case a_law_wrong => k_is)
    (case l_law_wrong => k_is)
    (case co_law_wrong => k_is)
    (case k_law_wrong => k_is)
    (case a_law_near => k_is)
    (case l_law_near => k_is)
    (case co_law_near => k_is)
    (case k_law_near => k_is)
    (case a_law_is_read => k_is)
    (case l_law_is_read => k_is)
    (case co_law_is_read => k_is)
    (case k_law_is_read => k_is)
    (case a_law_right => k_is)
    (case l_law_right => k_is)
    (case co_law_right => k_is)
    (case k_law_right => k_is)
    (case a_law => k_is)
    (case l_law => k_is)
    (case co_law => k_is)
    (case k_law => k_is)
    (case a_Tongue_init => k_is)
    (case i_Tongue_init => k_is)
    (case l_Tongue_init => k_is)
    (case co_Tongue_init => k_is)
    (case k_Tongue_init => k_is)
    (case pa_text => k_is)
    (case pg_text => k_is)
    (case pt_text => k_is)
    (case pr_text => k_is)
    (case l_Tongue_text => k_is)
    (case co_Tongue_text => k_is)
    (case k_Tongue_text => k_is)
    (case pa_conditions => k_is)
    (case pg_conditions => k_is)
    (case pt_conditions => k_is)
    (case pr_conditions => k_is)
    (case l_Tongue_conditions => k_is)
    (case co_Tongue_conditions => k_is)
    (case k_Tongue_conditions => k_is)
    (case pa_deeds => k_is)
    (case pg_deeds => k_is)
    (case pt_deeds => k_is)
    (case pr_deeds => k_is)
    (case l_Tongue_deeds => k_is)
    (case co_Tongue_deeds => k_is)
    (case k_Tongue_deeds => k_is)
    (case pa_atoms => k_is)
    (case pg_atoms => k_is)
    (case pt_atoms => k_is)
    (case pr_atoms => k_is)
    (case l_Tongue_atoms => k_is)
    (case co_Tongue_atoms => k_is)
    (case k_Tongue_atoms => k_is)
    (case a_Tongue_eq => k_is)
    (case i_Tongue_eq => k_is)
    (case l_Tongue_eq => k_is)
    (case co_Tongue_eq => k_is)
    (case k_Tongue_eq => k_is)
    (case hd_read => kernel_rfl)
    (case hd_right => kernel_rfl)
    (case b_ValueError => k_is)
    (case b_abs => k_is)
    (case b_all => k_is)
    (case b_enumerate => k_is)
    (case b_int => k_is)
    (case b_isinstance => k_is)
    (case b_len => k_is)
    (case b_list => k_is)
    (case b_max => k_is)
    (case b_min => k_is)
    (case b_range => k_is)
    (case b_repr => k_is)
    (case b_set => k_is)
    (case b_str => k_is)
    (case b_sum => k_is)
    (case b_tuple => k_is)
    (case v_MOST_CONDITIONS => k_is)
    (case v_MOST_DEEDS => k_is)
    (case v_CONDITIONS => k_is)
    (case v_DEEDS => k_is)
    (case v_LETTERS => k_is)
    (case v_KEPT => k_is)
    (case l_KEPT => k_is)
    (case sc_pg => k_is)
    (case sc_ic => k_is)
    (case sc_po => k_is)
    (case sc_sa => k_is)
    (case mk_mk => k_is)
    (case mk_kp => k_is)
    (case t1_own_conditions => k_is)
    (case t2_own_conditions => k_is)
    (case t3_own_conditions => k_is)
    (case t4_own_conditions => k_is)
    (case t5_own_conditions => k_is)
    (case t1_own_deeds => k_is)
    (case t2_own_deeds => k_is)
    (case t3_own_deeds => k_is)
    (case t4_own_deeds => k_is)
    (case t5_own_deeds => k_is)
    (case t1_own_text => k_is)
    (case t2_own_text => k_is)
    (case t3_own_text => k_is)
    (case t4_own_text => k_is)
    (case t5_own_text => k_is)
    (case e_ne => k_is)
    (case e_mo => k_is)
    (case x_iC => k_is)
    (case x_fn => k_is)
    (case x_co => k_is)
    (case x_cda => k_is)
    (case x_file => rfl)
    (case x_same => rfl)
    (case x_cell => k_is)
    (case x_hD => kernel_rfl)
    (case x_sup => k_is)
    (case x_third => k_is)
    (case x_cls => k_is)
    (case x_ne => decide)
    (case x_sa => k_is)
    (case x_ga => k_is)
    (case x_gg => k_is)
    (case x_noV => k_is)
    (case x_tI => k_is)
    (case x_kC => k_is)
    (case x_exC => k_is)
    (case x_vC => k_is)
    (case x_tyC => k_is)
    (case x_hdC => k_is)
    (case x_cl => kernel_rfl)
    (case f_exm => kernel_rfl)
    (case f_kb => kernel_rfl)
    (case f_kv => kernel_rfl)
    (case f_ks => kernel_rfl)
    (case f_ns => k_is)
    (case f_nt => k_is)
    (case s1_BadTongue => k_is)
    (case s1_Tongue => k_is)
    (case s2 => k_is)
    (case s3 => k_is)
    (case s4 => k_is)
#print axioms PySem.Challenge.cw_whateverdeeds_k00_tongues_read_and_refus_holds
end
