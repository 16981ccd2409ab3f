import PyProof.Rows.All
import Wide.All
import OpenK.AllK
import Wide.FinOn
import HandS.ForMost
import HandS.ForExc
import HandS.Wide
import HandS.Gcd
import HandS.Walk
import HandS.Zip
import HandS.IsInst
import HandS.TupAny
import HandS.Lambda
import HandS.ExcInit
import PyProof.ReprRoads
import PyProof.ReprLen
import HandS.TupMul
import KE.GoesNew
import HandS.Small
import HandS.EndBits
import PyProof.P3In
import HandS.Deep
import KE.KDflt
import HandS.TryMany
import HandS.ExcField
import HandS.Codes
import HandS.ExcOwn
import KE.KExcSuper
import KE.KSuper
import HandS.ExcSuper
import HandS.ExcIs
import HandS.ExcValue
import HandS.Words
import PySem.Challenge.RW_onesolid_k00_fractions_and_errors
set_option Elab.async false
set_option linter.all false
set_option autoImplicit false
set_option maxRecDepth 100000
set_option maxHeartbeats 0
set_option exponentiation.threshold 3000
namespace PX
open PySem PySem.Spec PyProof.Rows L2
/-! ### 1. plain data, the store, results -/
inductive D where
  | non | bl (b : Bool) | int (i : Int) | str (x : Str) | lst (xs : List D) | tup (xs : List D) | dic (t : Bool) (ks vs : List D) | ref (n : Nat) | ty (n : String) | obj (k : Str) (ks : List Str) (vs : List D)
  deriving Inhabited
/-- a store object: a dict with text keys, a list that is changed -/
inductive SO where
  | dk (kvs : List (Str × D)) | ml (xs : List D) | dd (t : Bool) (ks vs : List D)
abbrev Mu := List SO
/-- an exception: its class by name, its fields -/
structure Xn where
  c : Str
  fs : List (Str × D)
inductive R (α : Type) where
  | ok (a : α) (μ : Mu) | ex (x : Xn) (μ : Mu) | no
abbrev M (α : Type) := Mu → R α
abbrev Rho := List (Option D)
def rt {α : Type} (a : α) : M α := fun μ => .ok a μ
def stk {α : Type} : M α := fun _ => .no
def bd {α β : Type} (x : M α) (f : α → M β) : M β := fun μ => match x μ with
  | .ok a μ' => f a μ'
  | .ex e μ' => .ex e μ'
  | .no => .no
def lft {α : Type} (o : Option α) : M α := fun μ => match o with
  | some a => .ok a μ
  | none => .no
def Sat {α : Type} (r : R α) (K : α → Mu → Prop) (E : Xn → Mu → Prop) : Prop := match r with
  | .ok a μ => K a μ
  | .ex x μ => E x μ
  | .no => False
section
variable {α β : Type} {K K' : α → Mu → Prop} {E E' : Xn → Mu → Prop}
theorem Sat.mono {r : R α} (h : Sat r K E) (hK : ∀ a μ, K a μ → K' a μ) (hE : ∀ x μ, E x μ → E' x μ) : Sat r K' E' := by
  cases r with
  | ok a μ => exact hK a μ h
  | ex x μ => exact hE x μ h
  | no => exact h
theorem Sat.imp {r : R α} (h : Sat r K E) (hK : ∀ a μ, K a μ → K' a μ) : Sat r K' E := h.mono hK fun _ _ q => q
theorem sat_bd {x : M α} {f : α → M β} {μ : Mu} {L : β → Mu → Prop} : Sat (bd x f μ) L E ↔ Sat (x μ) (fun a μ' => Sat (f a μ') L E) E := by
  unfold bd
  cases x μ <;> exact Iff.rfl
theorem sat_rt {a : α} {μ : Mu} : Sat (rt a μ) K E ↔ K a μ := Iff.rfl
theorem sat_lft {o : Option α} {μ : Mu} : Sat (lft o μ) K E ↔ ∃ a, o = some a ∧ K a μ := by
  cases o with
  | none => exact ⟨fun h => h.elim, fun ⟨_, h, _⟩ => nomatch h⟩
  | some a => exact ⟨fun h => ⟨a, rfl, h⟩, fun ⟨b, h, k⟩ => by cases h; exact k⟩
theorem sat_stk {μ : Mu} : Sat ((stk : M α) μ) K E ↔ False := Iff.rfl
end
/-- no table, no code object -/
def Nt (u : HO) : Prop := (∀ ps, u ≠ .tbl ps) ∧ ∀ c q, u ≠ LamX.CodeO c q
theorem nt_lst {xs : List V} : Nt (.lst xs) := ⟨fun _ z => (nomatch z), fun _ _ z => by unfold LamX.CodeO at z; cases z⟩
theorem nt_tup {xs : List V} : Nt (.tup xs) := ⟨fun _ z => (nomatch z), fun _ _ z => by unfold LamX.CodeO at z; cases z⟩
theorem nt_dK {xs : List (Key × V)} : Nt (.dK xs) := ⟨fun _ z => (nomatch z), fun _ _ z => by unfold LamX.CodeO at z; cases z⟩
theorem nt_dT {xs : List (List Key × V)} : Nt (.dT xs) := ⟨fun _ z => (nomatch z), fun _ _ z => by unfold LamX.CodeO at z; cases z⟩
theorem nt_frz {o : Obj} {u : HO} : Nt (.frz o u) := ⟨fun _ z => (nomatch z), fun _ _ z => by unfold LamX.CodeO at z; cases z⟩
theorem nt_xd {fv : List (Str × V)} : Nt (.xd fv) := ⟨fun _ z => (nomatch z), fun _ _ z => by unfold LamX.CodeO at z; cases z⟩
/-! ### 2. what data stands for: values over the abstract heap; ad: where the store's objects stand -/
def WrL (K : PySem.W.Frag) (a : Addr) (xs : List V) : Prop :=
  ∃ (o : Obj) (its : Array Value) (n : Nat), K.lookup a = some o ∧ o.cls = .type "list" ∧ o.dict = none ∧ o.data = .seq its n ∧ its.size ≤ sizeLine ∧ Vals xs its.toList
/-- the store's places; places that no data stands at -/
structure Pl where
  ad : List Addr
  pr : List Addr
def Pl.out (P : Pl) (a : Addr) : Prop := a ∉ P.ad ∧ a ∉ P.pr
def Pl.add (P : Pl) (l : List Addr) : Pl := ⟨P.ad ++ l, P.pr⟩
/-- a list that no one changes; a tuple -/
def LstAt (K : PySem.W.Frag) (H : Hp) (ad : Pl) (a : Addr) (xs : List V) : Prop := (ad.out a ∧ Rd H a (.lst xs)) ∨ WrL K a xs
def TupAt (K : PySem.W.Frag) (H : Hp) (ad : Pl) (a : Addr) (xs : List V) : Prop := ad.out a ∧ H a = some (.tup xs)
theorem LstAt.sq {K : PySem.W.Frag} {H : Hp} {ad : Pl} {a : Addr} {xs : List V} (h : LstAt K H ad a xs) : SqL K H a xs := h.elim (fun z => .inl z.2) .inr
theorem TupAt.sq {K : PySem.W.Frag} {H : Hp} {ad : Pl} {a : Addr} {xs : List V} (h : TupAt K H ad a xs) : SqT K H a xs := .inl (.inl h.2)
/-- keys as data -/
def kD : Key → D
  | .inl i => .int i
  | .inr x => .str x
def ktD (k : List Key) : D := .tup (k.map kD)
/-- a dict's keys and values: keys that are ints and texts; t: keys that are tuples of them -/
def DkAt (t : Bool) (R : HO → Prop) (ks : List D) (vs : List V) : Prop := match t with
  | false => ∃ kv : List (Key × V), R (.dK kv) ∧ kv.map (fun p => kD p.1) = ks ∧ kv.map (·.2) = vs
  | true => ∃ kv : List (List Key × V), R (.dT kv) ∧ kv.map (fun p => ktD p.1) = ks ∧ kv.map (·.2) = vs
theorem DkAt.imp {t : Bool} {R R' : HO → Prop} {ks : List D} {vs : List V} (h : DkAt t R ks vs) (w : ∀ o, R o → R' o) : DkAt t R' ks vs := by
  cases t with
  | false => obtain ⟨kv, a, b⟩ := h; exact ⟨kv, w _ a, b⟩
  | true => obtain ⟨kv, a, b⟩ := h; exact ⟨kv, w _ a, b⟩
theorem DkAt.one {t : Bool} {R : HO → Prop} {ks : List D} {vs : List V} (h : DkAt t R ks vs) : ∃ o, R o := by
  cases t with
  | false => obtain ⟨kv, a, b⟩ := h; exact ⟨_, a⟩
  | true => obtain ⟨kv, a, b⟩ := h; exact ⟨_, a⟩
theorem DkAt.impN {t : Bool} {R R' : HO → Prop} {ks : List D} {vs : List V} (h : DkAt t R ks vs) (w : ∀ o, (∀ ps, o ≠ .tbl ps) → R o → R' o) : DkAt t R' ks vs := by
  cases t with
  | false => obtain ⟨kv, a, b⟩ := h; exact ⟨kv, w _ nt_dK.1 a, b⟩
  | true => obtain ⟨kv, a, b⟩ := h; exact ⟨kv, w _ nt_dT.1 a, b⟩
theorem DkAt.oneN {t : Bool} {R : HO → Prop} {ks : List D} {vs : List V} (h : DkAt t R ks vs) : ∃ o, (∀ ps, o ≠ .tbl ps) ∧ R o := by
  cases t with
  | false => obtain ⟨kv, a, b⟩ := h; exact ⟨_, nt_dK.1, a⟩
  | true => obtain ⟨kv, a, b⟩ := h; exact ⟨_, nt_dT.1, a⟩
/-- a dict that no one changes -/
def DicAt (t : Bool) (H : Hp) (ad : Pl) (a : Addr) (ks : List D) (vs : List V) : Prop := ad.out a ∧ DkAt t (Rd H a) ks vs
/-- an exception that is held as a value -/
def ObAt (K : PySem.W.Frag) (H : Hp) (ad : Pl) (a : Addr) (k : Str) (ks : List Str) (vs : List V) : Prop :=
  ad.out a ∧ vs.length = ks.length ∧ ∃ C : Addr, PySem.W.nsIn K mainGlobals k = some (some (.ref C)) ∧ ((ks = [] ∧ H a = some (exo a C none)) ∨ ∃ dx : Addr, ad.out dx ∧ H a = some (exo a C (some dx)) ∧ H dx = some (exd dx (ks.zip vs)))
theorem ext_nt {φ : Heap → Prop} : ∀ ps, HO.ext φ ≠ .tbl ps := fun ps z => by cases z
theorem ObAt.to {K : PySem.W.Frag} {H H' : Hp} {ad ad' : Pl} (w : ∀ b o, ad.out b → (∀ ps, o ≠ .tbl ps) → H b = some o → ad'.out b ∧ H' b = some o) {a : Addr} {k : Str} {ks : List Str} {vs : List V} (h : ObAt K H ad a k ks vs) : ObAt K H' ad' a k ks vs := by
  obtain ⟨h1, h2, C, h3, h4⟩ := h
  rcases h4 with ⟨e, h4⟩ | ⟨dx, h5, h4, h6⟩
  · obtain ⟨q1, q2⟩ := w _ _ h1 ext_nt h4
    exact ⟨q1, h2, C, h3, .inl ⟨e, q2⟩⟩
  · obtain ⟨q1, q2⟩ := w _ _ h1 ext_nt h4
    obtain ⟨q3, q4⟩ := w _ _ h5 ext_nt h6
    exact ⟨q1, h2, C, h3, .inr ⟨dx, q3, q2, q4⟩⟩
mutual
inductive Rp (K : PySem.W.Frag) (H : Hp) (ad : Pl) : V → D → Prop
  | non : Rp K H ad .non .non
  | bl (b : Bool) : Rp K H ad (.bl b) (.bl b)
  | int (i : Int) : Rp K H ad (.int i) (.int i)
  | str (x : Str) : Rp K H ad (.str x) (.str x)
  | lst {a : Addr} {vs : List V} {ds : List D} : LstAt K H ad a vs → Rps K H ad vs ds → Rp K H ad (.ref a) (.lst ds)
  | tup {a : Addr} {vs : List V} {ds : List D} : TupAt K H ad a vs → Rps K H ad vs ds → Rp K H ad (.ref a) (.tup ds)
  | dic {a : Addr} {t : Bool} {ks : List D} {vs : List V} {ds : List D} : DicAt t H ad a ks vs → Rps K H ad vs ds → Rp K H ad (.ref a) (.dic t ks ds)
  | ref {a : Addr} {n : Nat} : ad.ad[n]? = some a → Rp K H ad (.ref a) (.ref n)
  | ty (n : String) : Rp K H ad (.ty n) (.ty n)
  | obj {a : Addr} {k : Str} {ks : List Str} {vs : List V} {ds : List D} : ObAt K H ad a k ks vs → Rps K H ad vs ds → Rp K H ad (.ref a) (.obj k ks ds)
inductive Rps (K : PySem.W.Frag) (H : Hp) (ad : Pl) : List V → List D → Prop
  | nil : Rps K H ad [] []
  | cons {v : V} {vs : List V} {d : D} {ds : List D} : Rp K H ad v d → Rps K H ad vs ds → Rps K H ad (v :: vs) (d :: ds)
end
/-- the heap and the store's places have grown: what was tracked and is no place of the store stands as it stood -/
structure Grow (H : Hp) (ad : Pl) (H' : Hp) (ad' : Pl) : Prop where
  pre : ∃ l, ad' = ad.add l ∧ ∀ b ∈ l, H b = none
  keep : ∀ b o, b ∉ ad.ad → (∀ ps, o ≠ .tbl ps) → H b = some o → H' b = some o
  live : ∀ b, H' b = none → H b = none
section
variable {K : PySem.W.Frag} {H H' H2 : Hp} {ad ad' ad2 : Pl}
theorem Pl.add_nil : ad.add [] = ad := by
  cases ad
  simp [Pl.add]
theorem Pl.add_add (l m : List Addr) : (ad.add l).add m = ad.add (l ++ m) := by simp [Pl.add]
theorem Grow.refl : Grow H ad H ad := ⟨⟨[], Pl.add_nil.symm, by simp⟩, fun _ _ _ _ h => h, fun _ h => h⟩
theorem Grow.nad (g : Grow H ad H' ad') {b : Addr} {o : HO} (hb : b ∉ ad.ad) (q : H b = some o) : b ∉ ad'.ad := fun z => by
  obtain ⟨l, e, n⟩ := g.pre
  rw [e] at z
  rcases List.mem_append.mp z with z | z
  · exact hb z
  · rw [n b z] at q
    cases q
theorem Grow.pr_eq (g : Grow H ad H' ad') : ad'.pr = ad.pr := by
  obtain ⟨l, e, n⟩ := g.pre
  rw [e]
  rfl
theorem Grow.trans (g : Grow H ad H' ad') (h : Grow H' ad' H2 ad2) : Grow H ad H2 ad2 := by
  obtain ⟨l, e, n⟩ := g.pre
  obtain ⟨m, e2, n2⟩ := h.pre
  refine ⟨⟨l ++ m, by rw [e2, e, Pl.add_add], fun b hb => ?_⟩, fun b o hb nt q => h.keep b o (g.nad hb q) nt (g.keep b o hb nt q), fun b q => g.live b (h.live b q)⟩
  rcases List.mem_append.mp hb with z | z
  · exact n b z
  · exact g.live b (n2 b z)
theorem Grow.nin (g : Grow H ad H' ad') {b : Addr} {o : HO} (hb : ad.out b) (q : H b = some o) : ad'.out b := ⟨g.nad hb.1 q, by rw [g.pr_eq]; exact hb.2⟩
theorem Grow.at (g : Grow H ad H' ad') {n : Nat} {a : Addr} (e : ad.ad[n]? = some a) : ad'.ad[n]? = some a := by
  obtain ⟨l, e2, _⟩ := g.pre
  rw [e2]
  show (ad.ad ++ l)[n]? = some a
  rw [List.getElem?_append_left (List.getElem?_eq_some_iff.mp e).1]
  exact e
theorem Grow.rd (g : Grow H ad H' ad') {a : Addr} {u : HO} (hb : ad.out a) (nt : ∀ ps, u ≠ .tbl ps) (r : Rd H a u) : ad'.out a ∧ Rd H' a u := by
  rcases r with r | ⟨o, r⟩
  · exact ⟨g.nin hb r, .inl (g.keep a _ hb.1 nt r)⟩
  · exact ⟨g.nin hb r, .inr ⟨o, g.keep a _ hb.1 (fun _ z => nomatch z) r⟩⟩
theorem LstAt.grow (g : Grow H ad H' ad') {a : Addr} {xs : List V} (h : LstAt K H ad a xs) : LstAt K H' ad' a xs := h.elim (fun z => .inl (g.rd z.1 (fun _ z => nomatch z) z.2)) .inr
theorem Grow.dk (g : Grow H ad H' ad') {t : Bool} {a : Addr} {ks : List D} {xs : List V} (h : DicAt t H ad a ks xs) : DicAt t H' ad' a ks xs :=
  ⟨let ⟨o, n, r⟩ := h.2.oneN; (g.rd h.1 n r).1, h.2.impN fun o n r => (g.rd h.1 n r).2⟩
theorem TupAt.grow (g : Grow H ad H' ad') {a : Addr} {xs : List V} (h : TupAt K H ad a xs) : TupAt K H' ad' a xs := ⟨g.nin h.1 h.2, g.keep a _ h.1.1 (fun _ z => nomatch z) h.2⟩
theorem Grow.ob (g : Grow H ad H' ad') {a : Addr} {k : Str} {ks : List Str} {vs : List V} (h : ObAt K H ad a k ks vs) : ObAt K H' ad' a k ks vs := h.to fun b o hb nt q => ⟨g.nin hb q, g.keep b o hb.1 nt q⟩
mutual
theorem Rp.map (hL : ∀ a xs, LstAt K H ad a xs → LstAt K H' ad' a xs) (hT : ∀ a xs, TupAt K H ad a xs → TupAt K H' ad' a xs) (hD : ∀ t a ks xs, DicAt t H ad a ks xs → DicAt t H' ad' a ks xs) (hO : ∀ a k ks vs, ObAt K H ad a k ks vs → ObAt K H' ad' a k ks vs) (hR : ∀ (n : Nat) (a : Addr), ad.ad[n]? = some a → ad'.ad[n]? = some a) : ∀ (d : D) (v : V), Rp K H ad v d → Rp K H' ad' v d
  | .non, _, h => by cases h; exact .non
  | .bl b, _, h => by cases h; exact .bl b
  | .int i, _, h => by cases h; exact .int i
  | .str x, _, h => by cases h; exact .str x
  | .lst ds, _, h => by
    cases h with
    | lst a r => exact .lst (hL _ _ a) (Rps.map hL hT hD hO hR ds _ r)
  | .tup ds, _, h => by
    cases h with
    | tup a r => exact .tup (hT _ _ a) (Rps.map hL hT hD hO hR ds _ r)
  | .dic t ks ds, _, h => by
    cases h with
    | dic a r => exact .dic (hD _ _ _ _ a) (Rps.map hL hT hD hO hR ds _ r)
  | .ref n, _, h => by
    cases h with
    | ref e => exact .ref (hR _ _ e)
  | .ty n, _, h => by cases h; exact .ty n
  | .obj k ks ds, _, h => by
    cases h with
    | obj a r => exact .obj (hO _ _ _ _ a) (Rps.map hL hT hD hO hR ds _ r)
theorem Rps.map (hL : ∀ a xs, LstAt K H ad a xs → LstAt K H' ad' a xs) (hT : ∀ a xs, TupAt K H ad a xs → TupAt K H' ad' a xs) (hD : ∀ t a ks xs, DicAt t H ad a ks xs → DicAt t H' ad' a ks xs) (hO : ∀ a k ks vs, ObAt K H ad a k ks vs → ObAt K H' ad' a k ks vs) (hR : ∀ (n : Nat) (a : Addr), ad.ad[n]? = some a → ad'.ad[n]? = some a) : ∀ (ds : List D) (vs : List V), Rps K H ad vs ds → Rps K H' ad' vs ds
  | [], _, h => by cases h; exact .nil
  | d :: ds, _, h => by
    cases h with
    | cons a r => exact .cons (Rp.map hL hT hD hO hR d _ a) (Rps.map hL hT hD hO hR ds _ r)
end
theorem Rp.grow (g : Grow H ad H' ad') (d : D) (v : V) (h : Rp K H ad v d) : Rp K H' ad' v d := Rp.map (fun _ _ => .grow g) (fun _ _ => .grow g) (fun _ _ _ _ => g.dk) (fun _ _ _ _ => g.ob) (fun _ _ => g.at) d v h
theorem Rps.grow (g : Grow H ad H' ad') (ds : List D) (vs : List V) (h : Rps K H ad vs ds) : Rps K H' ad' vs ds := Rps.map (fun _ _ => .grow g) (fun _ _ => .grow g) (fun _ _ _ _ => g.dk) (fun _ _ _ _ => g.ob) (fun _ _ => g.at) ds vs h
theorem Rps.length : ∀ {vs : List V} {ds : List D}, Rps K H ad vs ds → vs.length = ds.length
  | [], [], _ => rfl
  | _ :: _, _ :: _, .cons _ r => by simp [Rps.length r]
theorem Rps.get : ∀ {vs : List V} {ds : List D} {i : Nat} {d : D}, Rps K H ad vs ds → ds[i]? = some d → ∃ v, vs[i]? = some v ∧ Rp K H ad v d
  | [], [], _, _, _, e => by simp at e
  | _ :: _, _ :: _, 0, d, .cons a _, e => ⟨_, rfl, by simp at e; exact e ▸ a⟩
  | _ :: _, _ :: _, i + 1, d, .cons _ r, e => by
    obtain ⟨v, h1, h2⟩ := Rps.get (i := i) r (by simpa using e)
    exact ⟨v, by simpa using h1, h2⟩
theorem Rps.getV : ∀ {vs : List V} {ds : List D} {i : Nat} {v : V}, Rps K H ad vs ds → vs[i]? = some v → ∃ d, ds[i]? = some d ∧ Rp K H ad v d
  | [], [], _, _, _, e => by simp at e
  | _ :: _, _ :: _, 0, d, .cons a _, e => ⟨_, rfl, by simp at e; exact e ▸ a⟩
  | _ :: _, _ :: _, i + 1, d, .cons _ r, e => by
    obtain ⟨v, h1, h2⟩ := Rps.getV (i := i) r (by simpa using e)
    exact ⟨v, by simpa using h1, h2⟩
theorem Rps.app : ∀ {vs ws : List V} {ds es : List D}, Rps K H ad vs ds → Rps K H ad ws es → Rps K H ad (vs ++ ws) (ds ++ es)
  | [], _, [], _, .nil, s => s
  | _ :: _, _, _ :: _, _, .cons a r, s => .cons a (Rps.app r s)
theorem Rps.take : ∀ (n : Nat) {vs : List V} {ds : List D}, Rps K H ad vs ds → Rps K H ad (vs.take n) (ds.take n)
  | 0, _, _, _ => by simp; exact .nil
  | _ + 1, [], [], _ => by simp; exact .nil
  | n + 1, _ :: _, _ :: _, .cons a r => .cons a (Rps.take n r)
theorem Rps.drop : ∀ (n : Nat) {vs : List V} {ds : List D}, Rps K H ad vs ds → Rps K H ad (vs.drop n) (ds.drop n)
  | 0, _, _, h => by simpa using h
  | _ + 1, [], [], _ => by simp; exact .nil
  | n + 1, _ :: _, _ :: _, .cons _ r => Rps.drop n r
theorem Rps.rep {vs : List V} {ds : List D} (h : Rps K H ad vs ds) : ∀ n : Nat, Rps K H ad (List.replicate n vs).flatten (List.replicate n ds).flatten
  | 0 => .nil
  | n + 1 => by
    rw [List.replicate_succ, List.replicate_succ, List.flatten_cons, List.flatten_cons]
    exact h.app (h.rep n)
theorem Rps.ints : ∀ {ns : List Int} {vs : List V}, Rps K H ad vs (ns.map D.int) → vs = ns.map V.int
  | [], _, h => by cases h; rfl
  | n :: ns, _, h => by
    cases h with
    | cons a r =>
      cases a
      rw [Rps.ints r]
      rfl
theorem rps_ints : ∀ (ns : List Int), Rps K H ad (ns.map V.int) (ns.map D.int)
  | [] => .nil
  | n :: ns => .cons (.int n) (rps_ints ns)
end
/-! ### 3. the store stands -/
mutual
/-- data without places of the store -/
def D.pure : D → Bool
  | .lst xs => D.pures xs
  | .tup xs => D.pures xs
  | .dic _ _ xs => D.pures xs
  | .obj _ _ xs => D.pures xs
  | .ref _ => false
  | _ => true
def D.pures : List D → Bool
  | [] => true
  | x :: xs => x.pure && D.pures xs
end
theorem pures_all : ∀ xs : List D, D.pures xs = xs.all D.pure
  | [] => rfl
  | x :: xs => by show (x.pure && D.pures xs) = _; rw [pures_all xs]; rfl
theorem pures_ints (ns : List Int) : D.pures (ns.map D.int) = true := by
  rw [pures_all, List.all_map]
  exact List.all_eq_true.mpr fun _ _ => rfl
theorem pures_app (xs ys : List D) : D.pures (xs ++ ys) = (D.pures xs && D.pures ys) := by rw [pures_all, pures_all, pures_all, List.all_append]
def SO.pure : SO → Bool
  | .dk kd => D.pures (kd.map (·.2))
  | .ml ds => D.pures ds
  | .dd _ _ ds => D.pures ds
section
variable {K : PySem.W.Frag} {H : Hp} {ad ad' : Pl}
mutual
theorem Rp.pureTo (h : ∀ a, ad.out a → ad'.out a) : ∀ (d : D) (v : V), d.pure = true → Rp K H ad v d → Rp K H ad' v d
  | .non, _, _, r => by cases r; exact .non
  | .bl b, _, _, r => by cases r; exact .bl b
  | .int i, _, _, r => by cases r; exact .int i
  | .str x, _, _, r => by cases r; exact .str x
  | .lst ds, _, p, r => by
    cases r with
    | lst a q => exact .lst (a.elim (fun z => .inl ⟨h _ z.1, z.2⟩) .inr) (Rps.pureTo h ds _ p q)
  | .tup ds, _, p, r => by
    cases r with
    | tup a q => exact .tup ⟨h _ a.1, a.2⟩ (Rps.pureTo h ds _ p q)
  | .dic t ks ds, _, p, r => by
    cases r with
    | dic a q => exact .dic ⟨h _ a.1, a.2⟩ (Rps.pureTo h ds _ p q)
  | .ref n, _, p, _ => nomatch p
  | .ty n, _, _, r => by cases r; exact .ty n
  | .obj k ks ds, _, p, r => by
    cases r with
    | obj a q => exact .obj (a.to fun b o hb _ e => ⟨h _ hb, e⟩) (Rps.pureTo h ds _ p q)
theorem Rps.pureTo (h : ∀ a, ad.out a → ad'.out a) : ∀ (ds : List D) (vs : List V), D.pures ds = true → Rps K H ad vs ds → Rps K H ad' vs ds
  | [], _, _, r => by cases r; exact .nil
  | d :: ds, _, p, r => by
    have p' : d.pure = true ∧ D.pures ds = true := Bool.and_eq_true_iff.mp p
    cases r with
    | cons a q => exact .cons (Rp.pureTo h d _ p'.1 a) (Rps.pureTo h ds _ p'.2 q)
end
end
def KRs (K : PySem.W.Frag) (H : Hp) (ad : Pl) (kv : List (Key × V)) (kd : List (Str × D)) : Prop :=
  kv.map (·.1) = kd.map (fun p => Sum.inr p.1) ∧ Rps K H ad (kv.map (·.2)) (kd.map (·.2))
def SoAt (K : PySem.W.Frag) (H : Hp) (ad : Pl) (a : Addr) : SO → Prop
  | .dk kd => ∃ kv, H a = some (.dK kv) ∧ KRs K H ad kv kd
  | .ml ds => ∃ vs, H a = some (.lst vs) ∧ Rps K H ad vs ds
  | .dd t ks ds => ∃ vs, DkAt t (fun o => H a = some o) ks vs ∧ Rps K H ad vs ds
/-- the tables of code objects: where, for which name -/
class Tabc where
  T : List (Addr × Str)
variable [Tabc]
structure MuOk (K : PySem.W.Frag) (H : Hp) (ad : Pl) (μ : Mu) : Prop where
  len : ad.ad.length = μ.length
  nd : ad.ad.Nodup
  prn : ∀ b ∈ ad.pr, H b ≠ none ∧ b ∉ ad.ad
  so : ∀ (n : Nat) (a : Addr) (o : SO), ad.ad[n]? = some a → μ[n]? = some o → SoAt K H ad a o
  pur : ∀ (n : Nat) (o : SO), μ[n]? = some o → o.pure = true
  tabs : LamX.Tabs Tabc.T H
/-- the state behind a step -/
structure Nx (K : PySem.W.Frag) (H : Hp) (ad : Pl) (H' : Hp) (ad' : Pl) (μ' : Mu) : Prop where
  gr : Grow H ad H' ad'
  mu : MuOk K H' ad' μ'
section
variable {K : PySem.W.Frag} {H H' H2 : Hp} {ad ad' ad2 : Pl} {μ μ' μ2 : Mu}
theorem Nx.refl (m : MuOk K H ad μ) : Nx K H ad H ad μ := ⟨.refl, m⟩
theorem Nx.trans (a : Nx K H ad H' ad' μ') (b : Nx K H' ad' H2 ad2 μ2) : Nx K H ad H2 ad2 μ2 := ⟨a.gr.trans b.gr, b.mu⟩
theorem MuOk.nn (m : MuOk K H ad μ) {a : Addr} (h : a ∈ ad.ad) : H a ≠ none := by
  obtain ⟨n, hn, e⟩ := List.getElem_of_mem h
  have e1 : ad.ad[n]? = some a := by rw [List.getElem?_eq_getElem hn, e]
  have hm : n < μ.length := by rw [← m.len]; exact hn
  have q := m.so n a μ[n] e1 (List.getElem?_eq_getElem hm)
  cases h : μ[n] with
  | dk kd => rw [h] at q; obtain ⟨_, z, _⟩ := q; rw [z]; exact fun z => nomatch z
  | ml ds => rw [h] at q; obtain ⟨_, z, _⟩ := q; rw [z]; exact fun z => nomatch z
  | dd t ks ds =>
    rw [h] at q
    obtain ⟨_, z, _⟩ := q
    obtain ⟨o, z⟩ := z.one
    rw [z]
    exact fun z => nomatch z
theorem SoAt.nt {a : Addr} {o : SO} (h : SoAt K H ad a o) : ∃ u, H a = some u ∧ Nt u := by
  cases o with
  | dk kd => obtain ⟨_, z, _⟩ := h; exact ⟨_, z, nt_dK⟩
  | ml ds => obtain ⟨_, z, _⟩ := h; exact ⟨_, z, nt_lst⟩
  | dd t ks ds =>
    obtain ⟨_, z, _⟩ := h
    cases t with
    | false => obtain ⟨kv, z, _⟩ := z; exact ⟨_, z, nt_dK⟩
    | true => obtain ⟨kv, z, _⟩ := z; exact ⟨_, z, nt_dT⟩
theorem MuOk.nt (m : MuOk K H ad μ) {a : Addr} (h : a ∈ ad.ad) : ∃ u, H a = some u ∧ Nt u := by
  obtain ⟨n, hn, e⟩ := List.getElem_of_mem h
  have e1 : ad.ad[n]? = some a := by rw [List.getElem?_eq_getElem hn, e]
  have hm : n < μ.length := by rw [← m.len]; exact hn
  exact (m.so n a μ[n] e1 (List.getElem?_eq_getElem hm)).nt
theorem tabs_wr {T : List (Addr × Str)} {p : Addr} {o : HO} (t : LamX.Tabs T H) (h : ∃ u, H p = some u ∧ Nt u) : LamX.Tabs T (upd H p o) := fun x hx => by
  obtain ⟨u, e, n1, n2⟩ := h
  obtain ⟨ps, h1, h2, h3⟩ := t x hx
  refine ⟨ps, by rw [upd_ne fun z => n1 ps (Option.some.inj (e.symm.trans (by rw [← z]; exact h1)))]; exact h1, h2, fun pos cv hc => ?_⟩
  obtain ⟨c, e1, e2⟩ := h3 pos cv hc
  exact ⟨c, e1, by rw [upd_ne fun z => n2 _ _ (Option.some.inj (e.symm.trans (by rw [← z]; exact e2)))]; exact e2⟩
theorem tabs_new {T : List (Addr × Str)} {p : Addr} {o : HO} (t : LamX.Tabs T H) (hp : H p = none) : LamX.Tabs T (upd H p o) := t.ext fun b u e => by rw [upd_ne (ne_of_none e hp)]; exact e
/-- a new object at p, no place of the store -/
theorem MuOk.out (m : MuOk K H ad μ) {p : Addr} (hp : H p = none) : ad.out p := ⟨fun z => m.nn z hp, fun z => (m.prn p z).1 hp⟩
theorem Grow.new {p : Addr} {o : HO} (hp : H p = none) : Grow H ad (upd H p o) ad :=
  ⟨⟨[], Pl.add_nil.symm, by simp⟩, fun b u _ _ q => by rw [upd_ne (ne_of_none q hp)]; exact q, fun b q => by
    by_cases h : b = p
    · rw [h]; exact hp
    · rw [upd_ne h] at q; exact q⟩
theorem SoAt.grow (g : Grow H ad H' ad') {a : Addr} {o : SO} (h : SoAt K H ad a o) (e : H' a = H a) : SoAt K H' ad' a o := by
  cases o with
  | dk kd =>
    obtain ⟨kv, h1, h2, h3⟩ := h
    exact ⟨kv, e.trans h1, h2, Rps.grow g _ _ h3⟩
  | ml ds =>
    obtain ⟨vs, h1, h2⟩ := h
    exact ⟨vs, e.trans h1, Rps.grow g _ _ h2⟩
  | dd t ks ds =>
    obtain ⟨vs, h1, h2⟩ := h
    exact ⟨vs, h1.imp fun o q => e.trans q, Rps.grow g _ _ h2⟩
theorem MuOk.new (m : MuOk K H ad μ) {p : Addr} {o : HO} (hp : H p = none) : Nx K H ad (upd H p o) ad μ :=
  ⟨.new hp, m.len, m.nd, fun b hb => ⟨by rw [upd_ne fun z => (m.prn b hb).1 (by rw [z]; exact hp)]; exact (m.prn b hb).1, (m.prn b hb).2⟩, fun n a u h1 h2 => (m.so n a u h1 h2).grow (.new hp) (upd_ne fun z => m.nn (List.mem_of_getElem? h1) (by rw [z]; exact hp)), m.pur, tabs_new m.tabs hp⟩
theorem Rp.newLst {p : Addr} {vs : List V} {ds : List D} (m : MuOk K H ad μ) (hp : H p = none) (r : Rps K H ad vs ds) : Rp K (upd H p (.lst vs)) ad (.ref p) (.lst ds) :=
  .lst (.inl ⟨m.out hp, .inl upd_same⟩) (Rps.grow (.new hp) _ _ r)
theorem Rp.newTup {p : Addr} {vs : List V} {ds : List D} (m : MuOk K H ad μ) (hp : H p = none) (r : Rps K H ad vs ds) : Rp K (upd H p (.tup vs)) ad (.ref p) (.tup ds) :=
  .tup ⟨m.out hp, upd_same⟩ (Rps.grow (.new hp) _ _ r)
/-- a new object of the store -/
theorem MuOk.push (m : MuOk K H ad μ) {p : Addr} {o : HO} {so : SO} (hp : H p = none) (pu : so.pure = true) (h : ∀ H' ad', Grow H ad H' ad' → H' p = some o → SoAt K H' ad' p so) : Nx K H ad (upd H p o) (ad.add [p]) (μ ++ [so]) := by
  have g : Grow H ad (upd H p o) (ad.add [p]) := ⟨⟨[p], rfl, by simp [hp]⟩, fun b u _ _ q => by rw [upd_ne (ne_of_none q hp)]; exact q, fun b q => by
    by_cases h : b = p
    · rw [h]; exact hp
    · rw [upd_ne h] at q; exact q⟩
  have np : p ∉ ad.ad := fun z => m.nn z hp
  refine ⟨g, by simp [Pl.add, m.len], List.nodup_append.mpr ⟨m.nd, by simp, fun a ha b hb => by simp at hb; rw [hb]; exact fun z => np (z ▸ ha)⟩, fun b hb => ⟨fun z => (m.prn b hb).1 (g.live b z), fun z => ?_⟩, fun n a u h1 h2 => ?_, fun n u h2 => ?_, tabs_new m.tabs hp⟩
  · rcases List.mem_append.mp z with z | z
    · exact (m.prn b hb).2 z
    · simp at z
      exact (m.prn b hb).1 (by rw [z]; exact hp)
  rotate_left
  · rcases List.mem_append.mp (List.mem_of_getElem? h2) with z | z
    · obtain ⟨j, hj, e⟩ := List.getElem_of_mem z
      exact m.pur j u (by rw [List.getElem?_eq_getElem hj, e])
    · simp at z; rw [z]; exact pu
  have h1 : (ad.ad ++ [p])[n]? = some a := h1
  by_cases hn : n < ad.ad.length
  · rw [List.getElem?_append_left hn] at h1
    rw [List.getElem?_append_left (by rw [← m.len]; exact hn)] at h2
    exact (m.so n a u h1 h2).grow g (upd_ne fun z => np (z ▸ List.mem_of_getElem? h1))
  · have hm : ad.ad.length ≤ n := Nat.le_of_not_lt hn
    rw [List.getElem?_append_right hm] at h1
    rw [List.getElem?_append_right (by rw [← m.len]; exact hm), ← m.len] at h2
    cases k : n - ad.ad.length with
    | zero =>
      rw [k] at h1 h2
      simp at h1 h2
      subst h1 h2
      exact h _ _ g upd_same
    | succ j =>
      rw [k] at h1
      simp at h1
/-- an object of the store is changed -/
theorem Grow.wr {p : Addr} {o : HO} (hp : p ∈ ad.ad) (hn : H p ≠ none) : Grow H ad (upd H p o) ad :=
  ⟨⟨[], Pl.add_nil.symm, by simp⟩, fun b u hb _ q => by rw [upd_ne fun z => hb (by rw [z]; exact hp)]; exact q, fun b q => by
    by_cases h : b = p
    · rw [h, upd_same] at q; cases q
    · rw [upd_ne h] at q; exact q⟩
theorem MuOk.wr (m : MuOk K H ad μ) {n : Nat} {p : Addr} {o : HO} {so : SO} (hp : ad.ad[n]? = some p) (pu : so.pure = true) (h : ∀ H', Grow H ad H' ad → H' p = some o → SoAt K H' ad p so) : Nx K H ad (upd H p o) ad (μ.set n so) := by
  have hm := List.mem_of_getElem? hp
  have g : Grow H ad (upd H p o) ad := .wr hm (m.nn hm)
  refine ⟨g, by simp [m.len], m.nd, fun b hb => ⟨fun z => (m.prn b hb).1 (g.live b z), (m.prn b hb).2⟩, fun k a u h1 h2 => ?_, fun k u h2 => ?_, tabs_wr m.tabs (m.nt hm)⟩
  rotate_left
  · by_cases hk : k = n
    · subst hk
      by_cases hl : k < μ.length
      · rw [List.getElem?_set_self hl] at h2; cases h2; exact pu
      · rw [List.getElem?_eq_none (by simpa using hl)] at h2; cases h2
    · rw [List.getElem?_set_ne (Ne.symm hk)] at h2; exact m.pur k u h2
  by_cases hk : k = n
  · subst hk
    rw [hp] at h1
    cases h1
    have hl : k < μ.length := by rw [← m.len]; exact (List.getElem?_eq_some_iff.mp hp).1
    rw [List.getElem?_set_self hl] at h2
    cases h2
    exact h _ g upd_same
  · rw [List.getElem?_set_ne (Ne.symm hk)] at h2
    refine (m.so k a u h1 h2).grow g (upd_ne fun z => hk ?_)
    subst z
    exact nd_ix m.nd h1 hp
end
/-! ### 4. the slots -/
structure Gd (K : PySem.W.Frag) (H : Hp) (ad : Pl) (σ : L2.St) (ρ : Rho) (μ : Mu) : Prop where
  mu : MuOk K H ad μ
  len : ρ.length = σ.length
  sl : ∀ (i : Nat) (d : D), ρ[i]? = some (some d) → ∃ v, σ[i]? = some (some v) ∧ Rp K H ad v d
section
variable {K : PySem.W.Frag} {H H' H2 : Hp} {ad ad' ad2 : Pl} {μ μ' μ2 : Mu} {σ : L2.St} {ρ : Rho}
theorem Gd.nx (g : Gd K H ad σ ρ μ) (n : Nx K H ad H' ad' μ') : Gd K H' ad' σ ρ μ' :=
  ⟨n.mu, g.len, fun i d e => let ⟨v, h1, h2⟩ := g.sl i d e; ⟨v, h1, Rp.grow n.gr d v h2⟩⟩
theorem Gd.set (g : Gd K H ad σ ρ μ) {v : V} {d : D} (r : Rp K H ad v d) (i : Nat) : Gd K H ad (σ.set i (some v)) (ρ.set i (some d)) μ := by
  refine ⟨g.mu, by simp [g.len], fun j e h => ?_⟩
  by_cases hj : j = i
  · subst hj
    by_cases hl : j < ρ.length
    · rw [List.getElem?_set_self hl] at h
      cases h
      exact ⟨v, by rw [List.getElem?_set_self (by rw [← g.len]; exact hl)], r⟩
    · rw [List.getElem?_eq_none (by simpa using hl)] at h
      cases h
  · rw [List.getElem?_set_ne (Ne.symm hj)] at h
    obtain ⟨w, h1, h2⟩ := g.sl j e h
    exact ⟨w, by rw [List.getElem?_set_ne (Ne.symm hj)]; exact h1, h2⟩
end
end PX
namespace PX
open PySem PySem.Spec PyProof.Rows L2
variable [Tabc]
/-! ### 5. readings by evaluation -/
/-- an exception's object: its class by the module's name, its own dict -/
def Xp (mg : Str → Option Value) (K : PySem.W.Frag) (H : Hp) (ad : Pl) (x : Xn) (cls : Value) (dd : Option Addr) : Prop :=
  ∃ C : Addr, mg x.c = some (.ref C) ∧ cls = .ref C ∧ (x.fs = [] ∨ ∃ (a : Addr) (fv : List (Str × V)), dd = some a ∧ H a = some (.xd fv) ∧ ad.out a ∧ fv.map (·.1) = x.fs.map (·.1) ∧ Rps K H ad (fv.map (·.2)) (x.fs.map (·.2)))
/-- the fixed things around an evaluation -/
structure Wd where
  K : PySem.W.Frag
  mg : Str → Option Value
  W : WX
  n : Nat
variable {Z : Wd}
def KE (Z : Wd) (H : Hp) (ad : Pl) (Q : VK) : D → Mu → Prop := fun d μ' => ∀ v H' ad', Nx Z.K H ad H' ad' μ' → Rp Z.K H' ad' v d → Q v H'
def KA (Z : Wd) (H : Hp) (ad : Pl) (Q : List V → Hp → Prop) : List D → Mu → Prop := fun ds μ' => ∀ vs H' ad', Nx Z.K H ad H' ad' μ' → Rps Z.K H' ad' vs ds → Q vs H'
def KT (Z : Wd) (H : Hp) (ad : Pl) (Q : Bool → Hp → Prop) : Bool → Mu → Prop := fun b μ' => ∀ H' ad', Nx Z.K H ad H' ad' μ' → Q b H'
def XW (Z : Wd) (H : Hp) (ad : Pl) : Xn → Mu → Prop := fun x μ' => ∀ cls dd σ' H' ad', σ'.length = Z.n → Nx Z.K H ad H' ad' μ' → Xp Z.mg Z.K H' ad' x cls dd → Z.W cls dd σ' H'
inductive Fl where
  | nx (ρ : Rho) | rt (d : D) | bk (ρ : Rho) | ct (ρ : Rho)
def KS (Z : Wd) (H : Hp) (ad : Pl) (E : Ends) : Fl → Mu → Prop := fun f μ' => match f with
  | .nx ρ' => ∀ σ' H' ad', Nx Z.K H ad H' ad' μ' → Gd Z.K H' ad' σ' ρ' μ' → σ'.length = Z.n → E.nx σ' H'
  | .rt d => ∀ v H' ad', Nx Z.K H ad H' ad' μ' → Rp Z.K H' ad' v d → E.rt v H'
  | .bk ρ' => ∀ σ' H' ad', Nx Z.K H ad H' ad' μ' → Gd Z.K H' ad' σ' ρ' μ' → σ'.length = Z.n → E.bk σ' H'
  | .ct ρ' => ∀ σ' H' ad', Nx Z.K H ad H' ad' μ' → Gd Z.K H' ad' σ' ρ' μ' → σ'.length = Z.n → E.ct σ' H'
def tE (Z : Wd) (m : Rho → M D) : TE := fun σ H Q => ∃ ad ρ μ, Gd Z.K H ad σ ρ μ ∧ σ.length = Z.n ∧ Sat (m ρ μ) (KE Z H ad Q) (XW Z H ad)
def tA (Z : Wd) (m : Rho → M (List D)) : TA := fun σ H Q => ∃ ad ρ μ, Gd Z.K H ad σ ρ μ ∧ σ.length = Z.n ∧ Sat (m ρ μ) (KA Z H ad Q) (XW Z H ad)
def tT (Z : Wd) (m : Rho → M Bool) : TT := fun σ H Q => ∃ ad ρ μ, Gd Z.K H ad σ ρ μ ∧ σ.length = Z.n ∧ Sat (m ρ μ) (KT Z H ad Q) (XW Z H ad)
def tS (Z : Wd) (m : Rho → M Fl) : TS := fun E σ H => ∃ ad ρ μ, Gd Z.K H ad σ ρ μ ∧ σ.length = Z.n ∧ Sat (m ρ μ) (KS Z H ad E) (XW Z H ad)
section
variable {H H1 : Hp} {ad ad1 : Pl} {μ μ1 μ2 : Mu} {σ : L2.St} {ρ : Rho}
theorem KE.nx {Q : VK} {d : D} (n : Nx Z.K H ad H1 ad1 μ1) (h : KE Z H ad Q d μ2) : KE Z H1 ad1 Q d μ2 := fun v H' ad' n' r => h v H' ad' (n.trans n') r
theorem KA.nx {Q : List V → Hp → Prop} {d : List D} (n : Nx Z.K H ad H1 ad1 μ1) (h : KA Z H ad Q d μ2) : KA Z H1 ad1 Q d μ2 := fun v H' ad' n' r => h v H' ad' (n.trans n') r
theorem KT.nx {Q : Bool → Hp → Prop} {d : Bool} (n : Nx Z.K H ad H1 ad1 μ1) (h : KT Z H ad Q d μ2) : KT Z H1 ad1 Q d μ2 := fun H' ad' n' => h H' ad' (n.trans n')
theorem XW.nx {x : Xn} (n : Nx Z.K H ad H1 ad1 μ1) (h : XW Z H ad x μ2) : XW Z H1 ad1 x μ2 := fun c d σ' H' ad' l n' r => h c d σ' H' ad' l (n.trans n') r
theorem KS.nx {E : Ends} {f : Fl} (n : Nx Z.K H ad H1 ad1 μ1) (h : KS Z H ad E f μ2) : KS Z H1 ad1 E f μ2 := by
  cases f with
  | nx ρ' => exact fun σ' H' ad' n' r => h σ' H' ad' (n.trans n') r
  | rt d => exact fun v H' ad' n' r => h v H' ad' (n.trans n') r
  | bk ρ' => exact fun σ' H' ad' n' r => h σ' H' ad' (n.trans n') r
  | ct ρ' => exact fun σ' H' ad' n' r => h σ' H' ad' (n.trans n') r
/-- the wish behind a first part -/
theorem step {α : Type} {m : Rho → M D} {k : D → M α} {L : α → Mu → Prop} {Q1 : VK} (g : Gd Z.K H ad σ ρ μ) (hl : σ.length = Z.n) (h : Sat (bd (m ρ) k μ) L (XW Z H ad))
    (hk : ∀ v d H1 ad1 μ1, Nx Z.K H ad H1 ad1 μ1 → Gd Z.K H1 ad1 σ ρ μ1 → Rp Z.K H1 ad1 v d → Sat (k d μ1) L (XW Z H1 ad1) → Q1 v H1) : tE Z m σ H Q1 :=
  ⟨ad, ρ, μ, g, hl, (sat_bd.mp h).imp fun d μ1 q v H1 ad1 n r => hk v d H1 ad1 μ1 n (g.nx n) r (q.mono (fun _ _ z => z) fun _ _ z => z.nx n)⟩
theorem stepA {α : Type} {m : Rho → M (List D)} {k : List D → M α} {L : α → Mu → Prop} {Q1 : List V → Hp → Prop} (g : Gd Z.K H ad σ ρ μ) (hl : σ.length = Z.n) (h : Sat (bd (m ρ) k μ) L (XW Z H ad))
    (hk : ∀ v d H1 ad1 μ1, Nx Z.K H ad H1 ad1 μ1 → Gd Z.K H1 ad1 σ ρ μ1 → Rps Z.K H1 ad1 v d → Sat (k d μ1) L (XW Z H1 ad1) → Q1 v H1) : tA Z m σ H Q1 :=
  ⟨ad, ρ, μ, g, hl, (sat_bd.mp h).imp fun d μ1 q v H1 ad1 n r => hk v d H1 ad1 μ1 n (g.nx n) r (q.mono (fun _ _ z => z) fun _ _ z => z.nx n)⟩
theorem stepT {α : Type} {m : Rho → M Bool} {k : Bool → M α} {L : α → Mu → Prop} {Q1 : Bool → Hp → Prop} (g : Gd Z.K H ad σ ρ μ) (hl : σ.length = Z.n) (h : Sat (bd (m ρ) k μ) L (XW Z H ad))
    (hk : ∀ b H1 ad1 μ1, Nx Z.K H ad H1 ad1 μ1 → Gd Z.K H1 ad1 σ ρ μ1 → Sat (k b μ1) L (XW Z H1 ad1) → Q1 b H1) : tT Z m σ H Q1 :=
  ⟨ad, ρ, μ, g, hl, (sat_bd.mp h).imp fun d μ1 q H1 ad1 n => hk d H1 ad1 μ1 n (g.nx n) (q.mono (fun _ _ z => z) fun _ _ z => z.nx n)⟩
end
theorem PEi {X : Cx} {e : Expr} {t t' : TE} (h : PE X e t) (w : ∀ σ H Q, t' σ H Q → t σ H Q) : PE X e t' := ⟨fun pins s σ H Q I q => h.run pins s σ H Q I (w σ H Q q)⟩
theorem PTi {X : Cx} {e : Expr} {t t' : TT} (h : PT X e t) (w : ∀ σ H Q, t' σ H Q → t σ H Q) : PT X e t' := ⟨fun pins s σ H Q I q => h.run pins s σ H Q I (w σ H Q q)⟩
theorem PWi {X : Cx} {e : Expr} {t t' : TT} (h : PW X e t) (w : ∀ σ H Q, t' σ H Q → t σ H Q) : PW X e t' := ⟨fun wh pins s σ H Q I q => h.run wh pins s σ H Q I (w σ H Q q)⟩
theorem PAi {X : Cx} {e : List Expr} {t t' : TA} (h : PA X e t) (w : ∀ σ H Q, t' σ H Q → t σ H Q) : PA X e t' := ⟨fun pos pins s σ H Q I q => h.run pos pins s σ H Q I (w σ H Q q)⟩
theorem PSi {X : Cx} {e : Stmt} {t t' : TS} (h : PS X e t) (w : ∀ D σ H, t' D σ H → t D σ H) : PS X e t' := ⟨fun pins s σ H Q I q => h.run pins s σ H Q I (w Q σ H q)⟩
theorem PSsi {X : Cx} {e : List Stmt} {t t' : TS} (h : PSs X e t) (w : ∀ D σ H, t' D σ H → t D σ H) : PSs X e t' := ⟨fun pins s σ H Q I q => h.run pins s σ H Q I (w Q σ H q)⟩
/-! ### 6. names, constants, operators -/
def gV (i : Nat) (ρ : Rho) : M D := lft (ρ[i]?.join)
theorem x_var {X : Cx} {i : Nat} {x : Str} {pos : Pos} (hN : X.N[i]? = some x) (hv : Vis X.env.scope x) (hd : (x == ("__debug__" : Str)) = false) (hcd : (x == ("__classdict__" : Str)) = false) :
    PE X (.Name x pos) (tE Z (gV i)) := PEi (pe_var hN hv hd hcd) fun σ H Q ⟨ad, ρ, μ, g, hl, h⟩ => by
  obtain ⟨d, e, q⟩ := sat_lft.mp h
  have e' : ρ[i]? = some (some d) := by
    cases k : ρ[i]? with
    | none => rw [k] at e; cases e
    | some o => rw [k] at e; exact congrArg some e
  obtain ⟨v, h1, h2⟩ := g.sl i d e'
  exact ⟨v, h1, q v H ad (.refl g.mu) h2⟩
def scD : D → Bool
  | .non => true | .bl _ => true | .int _ => true | .str _ => true | _ => false
def scV : D → V
  | .non => .non | .bl b => .bl b | .int i => .int i | .str x => .str x | _ => .non
theorem x_con {X : Cx} {e : Expr} {v : V} {d : D} (h : PE X e (tC v)) (r : ∀ H ad, Rp Z.K H ad v d) : PE X e (tE Z fun _ => rt d) :=
  PEi h fun σ H Q ⟨ad, ρ, μ, g, hl, q⟩ => q v H ad (.refl g.mu) (r H ad)
/-- an operation on values is what the operation on data says -/
def V1 (Z : Wd) (r : V → Hp → VK → Prop) (f : D → M D) : Prop := ∀ (x : V) (d : D) (H : Hp) (ad : Pl) (μ : Mu) (Q : VK), MuOk Z.K H ad μ → Rp Z.K H ad x d → Sat (f d μ) (KE Z H ad Q) (XW Z H ad) → r x H Q
def V2 (Z : Wd) (r : R2) (f : D → D → M D) : Prop := ∀ (x y : V) (d e : D) (H : Hp) (ad : Pl) (μ : Mu) (Q : VK), MuOk Z.K H ad μ → Rp Z.K H ad x d → Rp Z.K H ad y e → Sat (f d e μ) (KE Z H ad Q) (XW Z H ad) → r x y H Q
def VA (Z : Wd) (r : List V → Hp → VK → Prop) (f : List D → M D) : Prop := ∀ (xs : List V) (ds : List D) (H : Hp) (ad : Pl) (μ : Mu) (Q : VK), MuOk Z.K H ad μ → Rps Z.K H ad xs ds → Sat (f ds μ) (KE Z H ad Q) (XW Z H ad) → r xs H Q
section
variable {X : Cx} {a b : Expr} {ma mb : Rho → M D} {pos : Pos}
theorem t_op {r : R2} {f : D → D → M D} (hf : V2 Z r f) : ∀ (σ : L2.St) (H : Hp) (Q : VK), tE Z (fun ρ => bd (ma ρ) fun x => bd (mb ρ) fun y => f x y) σ H Q → tOp r (tE Z ma) (tE Z mb) σ H Q :=
  fun σ H Q ⟨ad, ρ, μ, g, hl, h⟩ => step g hl h fun v d H1 ad1 μ1 n1 g1 r1 q1 => step g1 hl q1 fun w e H2 ad2 μ2 n2 g2 r2 q2 =>
    hf v w d e H2 ad2 μ2 Q n2.mu (Rp.grow n2.gr d v r1) r2 (q2.imp fun _ _ z => z.nx (n1.trans n2))
theorem x_op {op : Operator} {r : R2} {f : D → D → M D} (ho : OpR X (binaryOp op) r) (hf : V2 Z r f) (ha : PE X a (tE Z ma)) (hb : PE X b (tE Z mb)) :
    PE X (.BinOp a op b pos) (tE Z fun ρ => bd (ma ρ) fun x => bd (mb ρ) fun y => f x y) := PEi (pe_op ho ha hb) (t_op hf)
theorem x_cmp {op : CmpOp} {r : R2} {f : D → D → M D} (ho : OpR X (compareOp op) r) (hf : V2 Z r f) (ha : PE X a (tE Z ma)) (hb : PE X b (tE Z mb)) (hm : behindInMarks op b = false) :
    PE X (.Compare a [op] [b] pos) (tE Z fun ρ => bd (ma ρ) fun x => bd (mb ρ) fun y => f x y) := PEi (pe_cmpR ho ha hb hm) (t_op hf)
def asB : D → M Bool
  | .bl b => rt b
  | _ => stk
theorem t_test : ∀ (σ : L2.St) (H : Hp) (Q : Bool → Hp → Prop), tT Z (fun ρ => bd (ma ρ) asB) σ H Q → tTest (tE Z ma) σ H Q :=
  fun σ H Q ⟨ad, ρ, μ, g, hl, h⟩ => step g hl h fun v d H1 ad1 μ1 n1 g1 r1 q1 => by
    cases d with
    | bl k =>
      cases r1
      exact ⟨k, rfl, q1 H1 ad1 n1⟩
    | _ => exact q1.elim
theorem x_tcmp {op : CmpOp} {r : R2} {f : D → D → M D} (ho : OpR X (compareOp op) r) (hf : V2 Z r f) (ha : PE X a (tE Z ma)) (hb : PE X b (tE Z mb)) (hm : behindInMarks op b = false) :
    PT X (.Compare a [op] [b] pos) (tT Z fun ρ => bd (bd (ma ρ) fun x => bd (mb ρ) fun y => f x y) asB) := by
  refine PTi (pt_cmpR ho ha hb hm) fun σ H Q h => ?_
  obtain ⟨ad, ρ, μ, g, hl, h⟩ := h
  refine t_op hf σ H _ ⟨ad, ρ, μ, g, hl, (sat_bd.mp h).imp fun d μ1 q v H1 ad1 n r => ?_⟩
  cases d with
  | bl k =>
    cases r
    exact ⟨k, rfl, q H1 ad1 n⟩
  | _ => exact q.elim
theorem x_test (h : PE X a (tE Z ma)) (he : ∀ whole, isTrue a X.env whole = (do let v ← whole; standAt a.pos; holding [v] (truthy v))) : PT X a (tT Z fun ρ => bd (ma ρ) asB) :=
  PTi (pt_val h he) fun σ H Q ⟨ad, ρ, μ, g, hl, h⟩ => step g hl h fun v d H1 ad1 μ1 n1 g1 r1 q1 => by
    cases d with
    | bl k =>
      cases r1
      exact ⟨k, rfl, q1 H1 ad1 n1⟩
    | _ => exact q1.elim
theorem x_un {op : UnaryOp} {r : V → Hp → VK → Prop} {f : D → M D} (ho : UnR X (unaryOp op) r) (hf : V1 Z r f) (ha : PE X a (tE Z ma)) : PE X (.UnaryOp op a pos) (tE Z fun ρ => bd (ma ρ) f) :=
  PEi (pe_un ho ha) fun σ H Q ⟨ad, ρ, μ, g, hl, h⟩ => step g hl h fun v d H1 ad1 μ1 n1 g1 r1 q1 => hf v d H1 ad1 μ1 Q n1.mu r1 (q1.imp fun _ _ z => z.nx n1)
/-! truth values joined -/
def ifB {α : Type} (c : M Bool) (x y : M α) : M α := bd c fun b => if b then x else y
variable {tm um : Rho → M Bool} {rest : List Expr}
theorem x_tnot (h : PT X a (tT Z tm)) : PT X (.UnaryOp .Not a pos) (tT Z fun ρ => bd (tm ρ) fun b => rt (!b)) :=
  PTi (pt_not h) fun σ H Q ⟨ad, ρ, μ, g, hl, h⟩ => stepT g hl h fun b H1 ad1 μ1 n1 g1 q1 => q1 H1 ad1 n1
theorem x_wand (h : PT X a (tT Z tm)) (k : PW X (.BoolOp .And (b :: rest) pos) (tT Z um)) : PW X (.BoolOp .And (a :: b :: rest) pos) (tT Z fun ρ => ifB (tm ρ) (um ρ) (rt false)) :=
  PWi (pw_and h k) fun σ H Q ⟨ad, ρ, μ, g, hl, h⟩ => stepT g hl h fun b H1 ad1 μ1 n1 g1 q1 => by
    cases b with
    | true => exact iteT ⟨ad1, ρ, μ1, g1, hl, q1.imp fun _ _ z => z.nx n1⟩
    | false => exact iteF (q1 H1 ad1 n1)
theorem x_wor (h : PT X a (tT Z tm)) (k : PW X (.BoolOp .Or (b :: rest) pos) (tT Z um)) : PW X (.BoolOp .Or (a :: b :: rest) pos) (tT Z fun ρ => ifB (tm ρ) (rt true) (um ρ)) :=
  PWi (pw_or h k) fun σ H Q ⟨ad, ρ, μ, g, hl, h⟩ => stepT g hl h fun b H1 ad1 μ1 n1 g1 q1 => by
    cases b with
    | false => exact iteF ⟨ad1, ρ, μ1, g1, hl, q1.imp fun _ _ z => z.nx n1⟩
    | true => exact iteT (q1 H1 ad1 n1)
theorem x_wand1 (h : PT X a (tT Z tm)) : PW X (.BoolOp .And [a] pos) (tT Z tm) := pw_and1 h
theorem x_wor1 (h : PT X a (tT Z tm)) : PW X (.BoolOp .Or [a] pos) (tT Z tm) := pw_or1 h
/-! .. as values -/
theorem x_and (ha : PE X a (tE Z ma)) (hb : PE X (.BoolOp .And (b :: rest) pos) (tE Z mb)) : PE X (.BoolOp .And (a :: b :: rest) pos) (tE Z fun ρ => ifB (bd (ma ρ) asB) (mb ρ) (rt (.bl false))) :=
  PEi (pe_and ha hb) fun σ H Q ⟨ad, ρ, μ, g, hl, h⟩ => by
    have h' : Sat (bd (ma ρ) (fun d => bd (asB d) fun b => if b = true then mb ρ else rt (.bl false)) μ) (KE Z H ad Q) (XW Z H ad) := by
      refine sat_bd.mpr ((sat_bd.mp (sat_bd.mp h)).imp fun d μ1 q => ?_)
      exact sat_bd.mpr q
    exact step g hl h' fun v d H1 ad1 μ1 n1 g1 r1 q1 => by
      cases d with
      | bl k =>
        cases r1
        refine ⟨k, rfl, ?_⟩
        cases k with
        | true => exact iteT ⟨ad1, ρ, μ1, g1, hl, q1.imp fun _ _ z => z.nx n1⟩
        | false => exact iteF (q1 _ H1 ad1 n1 (.bl false))
      | _ => exact q1.elim
theorem x_or (ha : PE X a (tE Z ma)) (hb : PE X (.BoolOp .Or (b :: rest) pos) (tE Z mb)) : PE X (.BoolOp .Or (a :: b :: rest) pos) (tE Z fun ρ => ifB (bd (ma ρ) asB) (rt (.bl true)) (mb ρ)) :=
  PEi (pe_or ha hb) fun σ H Q ⟨ad, ρ, μ, g, hl, h⟩ => by
    have h' : Sat (bd (ma ρ) (fun d => bd (asB d) fun b => if b = true then rt (.bl true) else mb ρ) μ) (KE Z H ad Q) (XW Z H ad) := by
      refine sat_bd.mpr ((sat_bd.mp (sat_bd.mp h)).imp fun d μ1 q => ?_)
      exact sat_bd.mpr q
    exact step g hl h' fun v d H1 ad1 μ1 n1 g1 r1 q1 => by
      cases d with
      | bl k =>
        cases r1
        refine ⟨k, rfl, ?_⟩
        cases k with
        | false => exact iteF ⟨ad1, ρ, μ1, g1, hl, q1.imp fun _ _ z => z.nx n1⟩
        | true => exact iteT (q1 _ H1 ad1 n1 (.bl true))
      | _ => exact q1.elim
theorem x_not (ha : PE X a (tE Z ma)) : PE X (.UnaryOp .Not a pos) (tE Z fun ρ => bd (ma ρ) fun d => bd (asB d) fun b => rt (.bl (!b))) :=
  PEi (pe_not ha) fun σ H Q ⟨ad, ρ, μ, g, hl, h⟩ => step g hl h fun v d H1 ad1 μ1 n1 g1 r1 q1 => by
    cases d with
    | bl k =>
      cases r1
      exact ⟨k, rfl, q1 _ H1 ad1 n1 (.bl _)⟩
    | _ => exact q1.elim
theorem x_ife {c : Expr} (hc : PT X c (tT Z tm)) (ha : PE X a (tE Z ma)) (hb : PE X b (tE Z mb)) : PE X (.IfExp c a b pos) (tE Z fun ρ => ifB (tm ρ) (ma ρ) (mb ρ)) :=
  PEi (pe_ifExp hc ha hb) fun σ H Q ⟨ad, ρ, μ, g, hl, h⟩ => stepT g hl h fun b H1 ad1 μ1 n1 g1 q1 => by
    cases b with
    | true => exact iteT ⟨ad1, ρ, μ1, g1, hl, q1.imp fun _ _ z => z.nx n1⟩
    | false => exact iteF ⟨ad1, ρ, μ1, g1, hl, q1.imp fun _ _ z => z.nx n1⟩
/-! ### 7. arguments, displays, calls of built-ins -/
def evA (ms : List (Rho → M D)) (ρ : Rho) : M (List D) := match ms with
  | [] => rt []
  | m :: r => bd (m ρ) fun d => bd (evA r ρ) fun ds => rt (d :: ds)
theorem x_nil : PA X [] (tA Z (evA [])) := PAi pa_nil fun σ H Q ⟨ad, ρ, μ, g, hl, h⟩ => h [] H ad (.refl g.mu) .nil
theorem x_cons {es : List Expr} {ms : List (Rho → M D)} (ha : PE X a (tE Z ma)) (hr : PA X es (tA Z (evA ms))) (hs : starEach (a :: es) X.env = (false, eval a X.env) :: starEach es X.env) : PA X (a :: es) (tA Z (evA (ma :: ms))) :=
  PAi (pa_cons ha hr hs) fun σ H Q ⟨ad, ρ, μ, g, hl, h⟩ => step g hl h fun v d H1 ad1 μ1 n1 g1 r1 q1 => stepA g1 hl q1 fun vs ds H2 ad2 μ2 n2 g2 r2 q2 =>
    q2 (v :: vs) H2 ad2 (n1.trans n2) (.cons (Rp.grow n2.gr d v r1) r2)
variable {es : List Expr} {ms : List (Rho → M D)}
def mkT (ds : List D) : M D := if ds.length ≤ 1000000 then rt (.tup ds) else stk
def mkL (ds : List D) : M D := if ds.length ≤ 1000000 then rt (.lst ds) else stk
theorem million {n : Nat} (h : n ≤ 1000000) : n ≤ sizeLine := by rw [sizeLine_eq]; omega
theorem mkT_ok {ds : List D} {vs : List V} {H : Hp} {ad : Pl} {μ : Mu} {Q : VK} (m : MuOk Z.K H ad μ) (r : Rps Z.K H ad vs ds) (h : Sat (mkT ds μ) (KE Z H ad Q) (XW Z H ad)) :
    vs.length ≤ sizeLine ∧ ∀ p, H p = none → Q (.ref p) (upd H p (.tup vs)) := by
  unfold mkT at h
  by_cases hz : ds.length ≤ 1000000
  · rw [if_pos hz] at h
    exact ⟨by rw [r.length]; exact million hz, fun p hp => h (.ref p) _ ad (m.new hp) (.newTup m hp r)⟩
  · rw [if_neg hz] at h
    exact h.elim
theorem mkL_ok {ds : List D} {vs : List V} {H : Hp} {ad : Pl} {μ : Mu} {Q : VK} (m : MuOk Z.K H ad μ) (r : Rps Z.K H ad vs ds) (h : Sat (mkL ds μ) (KE Z H ad Q) (XW Z H ad)) :
    vs.length ≤ sizeLine ∧ ∀ p, H p = none → Q (.ref p) (upd H p (.lst vs)) := by
  unfold mkL at h
  by_cases hz : ds.length ≤ 1000000
  · rw [if_pos hz] at h
    exact ⟨by rw [r.length]; exact million hz, fun p hp => h (.ref p) _ ad (m.new hp) (.newLst m hp r)⟩
  · rw [if_neg hz] at h
    exact h.elim
theorem x_tup {x1 : Nat} (h : PA X es (tA Z (evA ms))) : PE X (.Tuple es x1 pos) (tE Z fun ρ => bd (evA ms ρ) mkT) :=
  PEi (pe_tup h) fun σ H Q ⟨ad, ρ, μ, g, hl, h⟩ => stepA g hl h fun vs ds H1 ad1 μ1 n1 g1 r1 q1 => mkT_ok n1.mu r1 (q1.imp fun _ _ z => z.nx n1)
theorem x_lst (h : PA X es (tA Z (evA ms))) : PE X (.List es pos) (tE Z fun ρ => bd (evA ms ρ) mkL) :=
  PEi (pe_lst h) fun σ H Q ⟨ad, ρ, μ, g, hl, h⟩ => stepA g hl h fun vs ds H1 ad1 μ1 n1 g1 r1 q1 => mkL_ok n1.mu r1 (q1.imp fun _ _ z => z.nx n1)
theorem t_cb {r : List V → Hp → VK → Prop} {f : List D → M D} (hf : VA Z r f) : ∀ (σ : L2.St) (H : Hp) (Q : VK), tE Z (fun ρ => bd (evA ms ρ) f) σ H Q → tCB r (tA Z (evA ms)) σ H Q :=
  fun σ H Q ⟨ad, ρ, μ, g, hl, h⟩ => stepA g hl h fun vs ds H1 ad1 μ1 n1 g1 r1 q1 => hf vs ds H1 ad1 μ1 Q n1.mu r1 (q1.imp fun _ _ z => z.nx n1)
theorem x_callB {id : String} {x : Str} {r : List V → Hp → VK → Prop} {f : List D → M D} {p : Pos} (hc : CallR X (.builtin id) r) (hf : VA Z r f) (hg : Gl X x) (hm : X.mg x = none) (hv : bootBuiltins x = some (.builtin id)) (ha : PA X (a :: es) (tA Z (evA ms))) (hn : x ≠ "__name__") (hdb : (x == ("__debug__" : Str)) = false)
    (he : starEach (a :: es) X.env = (false, eval a X.env) :: starEach es X.env) (hpl : (backTo pos (starEach es X.env)).any (·.1) = false) : PE X (.Call (.Name x p) (a :: es) [] pos) (tE Z fun ρ => bd (evA ms ρ) f) :=
  PEi (pe_callB hc hg hm hv ha hn hdb he hpl) (t_cb hf)
theorem x_callTy {T : String} {x : Str} {r : List V → Hp → VK → Prop} {f : List D → M D} {p : Pos} (hc : CallR X (.type T) r) (hf : VA Z r f) (hg : Gl X x) (hm : X.mg x = none) (hv : bootBuiltins x = some (.type T)) (ha : PA X (a :: es) (tA Z (evA ms))) (hn : x ≠ "__name__") (hdb : (x == ("__debug__" : Str)) = false)
    (he : starEach (a :: es) X.env = (false, eval a X.env) :: starEach es X.env) (hpl : (backTo pos (starEach es X.env)).any (·.1) = false) : PE X (.Call (.Name x p) (a :: es) [] pos) (tE Z fun ρ => bd (evA ms ρ) f) :=
  PEi (pe_callTy hc hg hm hv ha hn hdb he hpl) (t_cb hf)
theorem x_ix {r : R2} {f : D → D → M D} (hr : IxR X r) (hf : V2 Z r f) (ha : PE X a (tE Z ma)) (hb : PE X b (tE Z mb)) (hs : PlainIx b) : PE X (.Subscript a b pos) (tE Z fun ρ => bd (ma ρ) fun x => bd (mb ρ) fun y => f x y) :=
  PEi (pe_ix hr ha hb hs) (t_op hf)
end
end PX
namespace PX
open PySem PySem.Spec PyProof.Rows L2
variable [Tabc]
/-! ### 8. data as the library's data -/
mutual
def D.pd : D → PyData
  | .non => .none
  | .bl b => .bool b
  | .int i => .int i
  | .str x => .str x
  | .lst xs => .list (D.pds xs)
  | .tup xs => .tuple (D.pds xs)
  | .dic _ _ _ => .dict []
  | .ref _ => .dict []
  | .ty _ => .dict []
  | .obj _ _ _ => .dict []
def D.pds : List D → List PyData
  | [] => []
  | x :: xs => x.pd :: D.pds xs
end
/-- the items of a list: a standing one, one of the store -/
def mlAt (μ : Mu) (n : Nat) : Option (List D) := match μ[n]? with
  | some (.ml ds) => some ds
  | _ => none
def asL (μ : Mu) : D → Option (List D)
  | .lst ds => some ds
  | .ref n => mlAt μ n
  | _ => none
def asQ (μ : Mu) : D → Option (List D)
  | .tup ds => some ds
  | d => asL μ d
def pdm (μ : Mu) (d : D) : PyData := match d with
  | .ref n => match μ[n]? with
    | some (.ml ds) => .list (D.pds ds)
    | _ => .dict []
  | d => d.pd
section
variable {K : PySem.W.Frag} {H : Hp} {ad : Pl} {μ : Mu}
theorem asL_ok (m : MuOk K H ad μ) {x : V} {d : D} {ds : List D} (r : Rp K H ad x d) (h : asL μ d = some ds) : ∃ a vs, x = .ref a ∧ SqL K H a vs ∧ Rps K H ad vs ds := by
  cases d with
  | lst es =>
    cases h
    cases r with
    | lst a r => exact ⟨_, _, rfl, a.sq, r⟩
  | ref n =>
    cases r with
    | ref e =>
      have h : mlAt μ n = some ds := h
      unfold mlAt at h
      cases k : μ[n]? with
      | none => rw [k] at h; cases h
      | some o =>
        rw [k] at h
        cases o with
        | dk kd => cases h
        | dd _ _ _ => cases h
        | ml es =>
          cases h
          obtain ⟨vs, h1, h2⟩ := m.so n _ _ e k
          exact ⟨_, vs, rfl, .inl (.inl h1), h2⟩
  | _ => cases h
theorem asQ_ok (m : MuOk K H ad μ) {x : V} {d : D} {ds : List D} (r : Rp K H ad x d) (h : asQ μ d = some ds) : ∃ a vs, x = .ref a ∧ (SqL K H a vs ∨ SqT K H a vs) ∧ Rps K H ad vs ds := by
  by_cases k : ∃ es, d = .tup es
  · obtain ⟨es, rfl⟩ := k
    cases h
    cases r with
    | tup a r => exact ⟨_, _, rfl, .inr a.sq, r⟩
  · have h' : asL μ d = some ds := by
      cases d with
      | tup es => exact absurd ⟨es, rfl⟩ k
      | _ => exact h
    obtain ⟨a, vs, h1, h2, h3⟩ := asL_ok m r h'
    exact ⟨a, vs, h1, .inl h2, h3⟩
mutual
theorem dp_of : ∀ (d : D) (v : V), Rp K H ad v d → d.pd.canLay0 = true → Dp K H v d.pd
  | .non, _, h, _ => by cases h; exact .non
  | .bl b, _, h, _ => by cases h; exact .bl b
  | .int i, _, h, _ => by cases h; exact .int i
  | .str x, _, h, _ => by cases h; exact .str x
  | .lst ds, _, h, c => by
    cases h with
    | lst a r => exact .lst a.sq (dps_of ds _ r (by simpa only [D.pd, PyData.canLay0] using c))
  | .tup ds, _, h, c => by
    cases h with
    | tup a r => exact .tup a.sq (dps_of ds _ r (by simpa only [D.pd, PyData.canLay0] using c))
  | .dic t ks ds, _, _, c => by simp only [D.pd, PyData.canLay0] at c; exact nomatch c
  | .ref n, _, _, c => by simp only [D.pd, PyData.canLay0] at c; exact nomatch c
  | .ty n, _, _, c => by simp only [D.pd, PyData.canLay0] at c; exact nomatch c
  | .obj k ks ds, _, _, c => by simp only [D.pd, PyData.canLay0] at c; exact nomatch c
theorem dps_of : ∀ (ds : List D) (vs : List V), Rps K H ad vs ds → PyData.canLayAll0 (D.pds ds) = true → DpAll K H vs (D.pds ds)
  | [], _, h, _ => by cases h; exact .nil
  | d :: ds, _, h, c => by
    have c' : d.pd.canLay0 = true ∧ PyData.canLayAll0 (D.pds ds) = true := by simpa only [D.pds, PyData.canLayAll0, Bool.and_eq_true] using c
    cases h with
    | cons a r => exact .cons (dp_of d _ a c'.1) (dps_of ds _ r c'.2)
end
theorem dpm_of (m : MuOk K H ad μ) {d : D} {v : V} (r : Rp K H ad v d) (c : (pdm μ d).canLay0 = true) : Dp K H v (pdm μ d) := by
  by_cases k : ∃ n, d = .ref n
  · obtain ⟨n, rfl⟩ := k
    unfold pdm at c ⊢
    simp only at c ⊢
    cases r with
    | ref e =>
      cases q : μ[n]? with
      | none => rw [q] at c; simp only [PyData.canLay0] at c; exact nomatch c
      | some o =>
        rw [q] at c
        cases o with
        | dk kd => simp only [PyData.canLay0] at c; exact nomatch c
        | dd _ _ _ => simp only [PyData.canLay0] at c; exact nomatch c
        | ml es =>
          obtain ⟨vs, h1, h2⟩ := m.so n _ _ e q
          exact .lst (.inl (.inl h1)) (dps_of es vs h2 (by simpa only [PyData.canLay0] using c))
  · have e : pdm μ d = d.pd := by
      cases d with
      | ref n => exact absurd ⟨n, rfl⟩ k
      | _ => rfl
    rw [e] at c ⊢
    exact dp_of d v r c
end
/-! the length of a data's text -/
mutual
def nodes : PyData → Nat
  | .str x => x.cps.size
  | .list xs => nodesAll xs
  | .tuple xs => nodesAll xs
  | .dict _ => 0
  | .int _ => 0
  | .none => 0
  | .bool _ => 0
def nodesAll : List PyData → Nat
  | [] => 0
  | x :: xs => nodes x + 1 + nodesAll xs
end
mutual
theorem shown_short : ∀ d : PyData, d.canLay0 = true → d.showable = true → d.shown.length ≤ 1923 * nodes d + 1921
  | .none, _, _ => by have e : (PyData.shown .none).length = 4 := rfl; omega
  | .bool b, _, _ => by have e : (PyData.shown (.bool b)).length ≤ 5 := by cases b <;> decide
                        omega
  | .int i, _, h => by
    have hz : i.natAbs.log2 < 1920 := by simpa only [PyData.showable, decide_eq_true_eq] using h
    have e := int_text_length_le (k := 1920) (by decide) hz
    have e2 : (PyData.shown (.int i)).length = (toString i).length := by rw [PyData.shown_int, PySem.ofString_length]
    omega
  | .str x, c, _ => by
    have h1 : ∀ c ∈ x.cps.toList, c < 16 ^ 8 := by
      intro y hy
      have h0 : x.cps.all (· < 0x110000) = true := by simpa only [PyData.canLay0, PyData.strOk] using c
      have h2 := (Array.all_eq_true_iff_forall_mem.mp h0) y (Array.mem_toList_iff.mp hy)
      have h3 : y < 0x110000 := by simpa using h2
      exact Nat.lt_of_lt_of_le h3 (by decide)
    have e := StrLaws.reprText_len x h1
    have e2 : x.length = x.cps.size := rfl
    simp only [PyData.shown, nodes]
    omega
  | .list xs, c, h => by
    have h1 := shownAll_short xs (by simpa only [PyData.canLay0] using c) (by simpa only [PyData.showable] using h)
    have h2 := listText_len_le (PyData.shownAll xs)
    rw [PyData.shownAll_length xs] at h2
    simp only [PyData.shown, nodes]
    omega
  | .tuple xs, c, h => by
    have h1 := shownAll_short xs (by simpa only [PyData.canLay0] using c) (by simpa only [PyData.showable] using h)
    have h2 := tupleText_len_le (PyData.shownAll xs)
    rw [PyData.shownAll_length xs] at h2
    simp only [PyData.shown, nodes]
    omega
  | .dict _, c, _ => by simp only [PyData.canLay0] at c; exact nomatch c
theorem shownAll_short : ∀ xs : List PyData, PyData.canLayAll0 xs = true → PyData.showableAll xs = true → ((PyData.shownAll xs).map (·.length)).sum + 2 * xs.length ≤ 1923 * nodesAll xs
  | [], _, _ => by simp only [PyData.shownAll, nodesAll, List.map_nil, List.sum_nil, List.length_nil]; omega
  | x :: xs, c, h => by
    have c' : x.canLay0 = true ∧ PyData.canLayAll0 xs = true := by simpa only [PyData.canLayAll0, Bool.and_eq_true] using c
    have h' : x.showable = true ∧ PyData.showableAll xs = true := by simpa only [PyData.showableAll, Bool.and_eq_true] using h
    have h1 := shown_short x c'.1 h'.1
    have h2 := shownAll_short xs c'.2 h'.2
    simp only [PyData.shownAll, nodesAll, List.map_cons, List.sum_cons, List.length_cons]
    omega
end
/-- what may be put into a text by repr -/
def repOk (p : PyData) : Bool := p.canLay0 && p.showable && decide (p.depth ≤ 64) && decide (nodes p ≤ 8000)
/-! ### 9. operations on values -/
section
variable {X : Cx}
def rCatR (K : PySem.W.Frag) : R2 := fun x y H Q => ∃ l b xs zs, x = .ref l ∧ y = .ref b ∧ SqL K H l xs ∧ SqL K H b zs ∧ xs.length + zs.length ≤ sizeLine ∧ ∀ p, H p = none → Q (.ref p) (upd H p (.lst (xs ++ zs)))
theorem op_catR : OpR X (binaryOp .Add) (rCatR X.K) := by
  intro pins s σ H x y v u Q I rx ry h
  obtain ⟨l, b, xs, zs, rfl, rfl, hH, hB, hz, q⟩ := h
  cases rx
  cases ry
  obtain ⟨its, r, p1, _⟩ := I.list hH
  obtain ⟨its2, r2, p2, _⟩ := I.list hB
  have l1 := r.length
  have l2 := r2.length
  obtain ⟨⟨c1, d1, t1, sl1⟩, n1, e1, hc1, hd1, ht1⟩ := p1
  obtain ⟨⟨c2, d2, t2, sl2⟩, n2, e2, hc2, hd2, ht2⟩ := p2
  simp only at hc1 ht1 hc2 ht2
  subst hc1 ht1 hc2 ht2
  refine concat_meets ⟨_, e1, rfl⟩ ⟨_, e2, rfl⟩ noFill_list_add seq_list_add PySem.F.slot_list_add PySem.F.entry_list_add (PySem.F.args_list_add_2 _ _) (list_addW l b its.toArray its2.toArray n1 n2 d1 d2 sl1 sl2 (by rw [List.size_toArray, List.size_toArray]; omega)) ⟨e1, e2, ?_⟩
  have ea : its.toArray ++ its2.toArray = (its ++ its2).toArray := by simp
  rw [ea]
  exact ⟨.ref _, _, I.lnew (t' := s.toks) (r.append r2) (by rw [List.length_append]; omega), rfl, q _ I.fresh⟩
/-- repr of data -/
def rRepr (K : PySem.W.Frag) : List V → Hp → VK → Prop := fun xs H Q => ∃ v p, xs = [v] ∧ Dp K H v p ∧ repOk p = true ∧ Q (.str p.shown) H
theorem rep_fits {p : PyData} (h : repOk p = true) : p.shown.length ≤ sizeLine := by
  unfold repOk at h
  simp only [Bool.and_eq_true, decide_eq_true_eq] at h
  have := shown_short p h.1.1.1 h.1.1.2
  rw [sizeLine_eq]
  omega
theorem call_reprD (hg : X.A.guards = some []) (hu : X.A.units + 100 < cLine) : CallR X (.builtin "repr") (rRepr X.K) := by
  intro pins s σ H xs us Q I r h
  obtain ⟨v, p, rfl, dp, ok, q⟩ := h
  obtain ⟨u, rfl, ru⟩ := vals1 r
  have fit := rep_fits ok
  have ok' := ok
  unfold repOk at ok'
  simp only [Bool.and_eq_true, decide_eq_true_eq] at ok'
  obtain ⟨⟨⟨h1, h2⟩, h3⟩, h4⟩ := ok'
  obtain ⟨as, rd⟩ := Dp.reads I p v u dp ru
  have nd : p.hasDict = true → sysModules ∉ as := PyData.noDict_hsm (PyData.hasDict_of_canLay p h1)
  have big : ∀ a, u = .ref a → wpAny (model X.prog X.w) X.A (call (.builtin "repr") [u]) (EP X pins σ Q) X.xe s := fun a e => by
    subst e
    exact repr_of_reads' rd h2 nd hg (by omega) (fun _ _ e => e) (fun h' t tk k => ⟨.str p.shown, H, I.kept k, ⟨t, rfl⟩, q⟩) fit
  cases dp with
  | non =>
    cases ru
    exact PySem.P.repr_of_none ⟨.str (PyData.shown .none), H, I.tok _, ⟨_, by rw [PyData.shown_none]⟩, q⟩
  | bl b =>
    cases ru
    exact PySem.P.repr_of_bool ⟨.str (PyData.shown (.bool b)), H, I.tok _, ⟨s.toks, by rw [PyData.shown_bool]⟩, q⟩
  | int i =>
    obtain ⟨t, rfl⟩ := ru
    exact PySem.P.repr_of_int (by simpa only [PyData.showable, decide_eq_true_eq] using h2) ⟨.str (PyData.shown (.int i)), H, I.tok _, ⟨_, by rw [PyData.shown_int]⟩, q⟩
  | str x =>
    obtain ⟨t, rfl⟩ := ru
    exact PySem.P.repr_of_str ⟨.str (PyData.shown (.str x)), H, I.tok _, ⟨_, by rw [PyData.shown_str]⟩, q⟩ (by rw [← PyData.shown_str]; exact fit)
  | lst a b => exact big _ ru
  | tup a b => exact big _ ru
end
end PX
namespace PX
open PySem PySem.Spec PyProof.Rows L2
variable [Tabc]
variable {Z : Wd}
/-! ### 10. the operations on data -/
def intV (i : Int) : M D := rt (.int i)
def blV (b : Bool) : M D := rt (.bl b)
def mulOk (i j : Int) : Bool := decide (i.natAbs < 2 ^ 64) || decide (j.natAbs < 2 ^ 64) || (decide (i.natAbs.log2 < 400000) && decide (j.natAbs.log2 < 400000))
def powOk (i j : Int) : Bool := decide (0 ≤ j) && decide (j ≤ 1000000) && decide (i.natAbs < 2 ^ 64)
def divOk (j : Int) : Bool := decide (j ≠ 0) && decide (j.natAbs.log2 < 9000)
def catL (xs ys : List D) : M D := if xs.length + ys.length ≤ 1000000 then rt (.lst (xs ++ ys)) else stk
def catT (xs ys : List D) : M D := if xs.length + ys.length ≤ 1000000 then rt (.tup (xs ++ ys)) else stk
def addD (d e : D) : M D := match d, e with
  | .int i, .int j => intV (i + j)
  | .tup xs, .tup ys => catT xs ys
  | d, e => fun μ => match asL μ d, asL μ e with
    | some xs, some ys => catL xs ys μ
    | _, _ => .no
def subD (d e : D) : M D := match d, e with
  | .int i, .int j => intV (i - j)
  | _, _ => stk
def mulD (d e : D) : M D := match d, e with
  | .int i, .int j => if mulOk i j then intV (i * j) else stk
  | .int i, .bl b => intV (i * if b = true then (1 : Int) else 0)
  | .lst xs, .int k => if k ≤ 100000 ∧ -100000 ≤ k ∧ xs.length * k.toNat ≤ 1000000 then rt (.lst (List.replicate k.toNat xs).flatten) else stk
  | .tup xs, .int k => if k = 1 then rt (.tup xs) else if 2 ≤ k ∧ k ≤ 1000 ∧ xs.length ≤ 1000 ∧ xs.isEmpty = false then rt (.tup (List.replicate k.toNat xs).flatten) else stk
  | _, _ => stk
def fdivD (d e : D) : M D := match d, e with
  | .int i, .int j => if divOk j then intV (i.fdiv j) else stk
  | _, _ => stk
def modD (d e : D) : M D := match d, e with
  | .int i, .int j => if j ≠ 0 then intV (i.fmod j) else stk
  | _, _ => stk
def powD (d e : D) : M D := match d, e with
  | .int i, .int j => if powOk i j then intV (i ^ j.toNat) else stk
  | _, _ => stk
def negD (d : D) : M D := match d with
  | .int i => intV (-i)
  | _ => stk
def ltD (d e : D) : M D := match d, e with
  | .int i, .int j => blV (decide (i < j))
  | _, _ => stk
def leD (d e : D) : M D := match d, e with
  | .int i, .int j => blV (decide (i ≤ j))
  | _, _ => stk
def gtD (d e : D) : M D := match d, e with
  | .int i, .int j => blV (decide (j < i))
  | _, _ => stk
def geD (d e : D) : M D := match d, e with
  | .int i, .int j => blV (decide (j ≤ i))
  | _, _ => stk
def eqB (d e : D) : M Bool := match d, e with
  | .int i, .int j => rt (decide (i = j))
  | .str x, .str y => rt (decide (x = y))
  | .bl x, .bl y => rt (decide (x = y))
  | d, e => fun μ => if SeqAt.shaped (pdm μ d) && SeqAt.shaped (pdm μ e) then .ok (PyData.eqv (pdm μ d) (pdm μ e)) μ else .no
def eqD (d e : D) : M D := bd (eqB d e) blV
def neD (d e : D) : M D := bd (eqB d e) fun b => blV (!b)
def isNonB : D → Option Bool
  | .non => some true | .ref _ => some false | .ty _ => some false | _ => some false
def isD (d e : D) : M D := match e with
  | .non => lft ((isNonB d).map .bl)
  | _ => stk
def isNotD (d e : D) : M D := match e with
  | .non => lft ((isNonB d).map fun b => .bl (!b))
  | _ => stk
theorem rp_int {K : PySem.W.Frag} {H : Hp} {ad : Pl} {x : V} {i : Int} (r : Rp K H ad x (.int i)) : x = .int i := by cases r; rfl
theorem rp_bl {K : PySem.W.Frag} {H : Hp} {ad : Pl} {x : V} {b : Bool} (r : Rp K H ad x (.bl b)) : x = .bl b := by cases r; rfl
theorem rp_str {K : PySem.W.Frag} {H : Hp} {ad : Pl} {x : V} {z : Str} (r : Rp K H ad x (.str z)) : x = .str z := by cases r; rfl
theorem ke_int {H : Hp} {ad : Pl} {μ : Mu} {Q : VK} {i : Int} (m : MuOk Z.K H ad μ) (h : KE Z H ad Q (.int i) μ) : Q (.int i) H := h _ H ad (.refl m) (.int i)
theorem ke_bl {H : Hp} {ad : Pl} {μ : Mu} {Q : VK} {b : Bool} (m : MuOk Z.K H ad μ) (h : KE Z H ad Q (.bl b) μ) : Q (.bl b) H := h _ H ad (.refl m) (.bl b)
section
variable {X : Cx}
def rAddX (K : PySem.W.Frag) : R2 := fun x y H Q => (∃ i j, x = .int i ∧ y = .int j ∧ Q (.int (i + j)) H) ∨ rCatR K x y H Q ∨ rCatA K x y H Q
theorem op_addX : OpR X (binaryOp .Add) (rAddX X.K) := OpR.or op_add (OpR.or op_catR op_catA)
theorem v_add : V2 Z (rAddX Z.K) addD := by
  intro x y d e H ad μ Q m rx ry h
  have general : ∀ (h : Sat ((match asL μ d, asL μ e with
      | some xs, some ys => catL xs ys μ
      | _, _ => .no) : R D) (KE Z H ad Q) (XW Z H ad)), rAddX Z.K x y H Q := fun h => by
    cases h1 : asL μ d with
    | none => rw [h1] at h; exact h.elim
    | some xs =>
      cases h2 : asL μ e with
      | none => rw [h1, h2] at h; exact h.elim
      | some ys =>
        rw [h1, h2] at h
        obtain ⟨a, vs, rfl, r1, p1⟩ := asL_ok m rx h1
        obtain ⟨b, ws, rfl, r2, p2⟩ := asL_ok m ry h2
        have h : Sat (catL xs ys μ) (KE Z H ad Q) (XW Z H ad) := h
        unfold catL at h
        by_cases hz : xs.length + ys.length ≤ 1000000
        · rw [if_pos hz] at h
          refine .inr (.inl ⟨a, b, vs, ws, rfl, rfl, r1, r2, by rw [p1.length, p2.length]; exact million hz, fun p hp => ?_⟩)
          exact h (.ref p) _ ad (m.new hp) (.newLst m hp (p1.app p2))
        · rw [if_neg hz] at h
          exact h.elim
  cases d with
  | int i =>
    cases e with
    | int j =>
      cases rx
      cases ry
      exact .inl ⟨i, j, rfl, rfl, ke_int m h⟩
    | _ => exact general h
  | tup xs =>
    cases e with
    | tup ys =>
      have h : Sat (catT xs ys μ) (KE Z H ad Q) (XW Z H ad) := h
      unfold catT at h
      by_cases hz : xs.length + ys.length ≤ 1000000
      · rw [if_pos hz] at h
        cases rx with
        | @tup a vs _ ta p1 =>
          cases ry with
          | @tup b ws _ tb p2 =>
            refine .inr (.inr ⟨a, b, vs, ws, rfl, rfl, ta.sq, tb.sq, by rw [p1.length, p2.length]; exact million hz, fun e => ?_, fun _ e => ?_, fun _ _ p hp => ?_⟩)
            · subst e
              have e2 : xs = [] := List.eq_nil_of_length_eq_zero p1.length.symm
              subst e2
              exact h (.ref b) H ad (.refl m) (.tup tb p2)
            · subst e
              have e2 : ys = [] := List.eq_nil_of_length_eq_zero p2.length.symm
              subst e2
              exact h (.ref a) H ad (.refl m) (.tup ta (by simpa using p1))
            · exact h (.ref p) _ ad (m.new hp) (.newTup m hp (p1.app p2))
      · rw [if_neg hz] at h
        exact h.elim
    | _ => exact general h
  | non => exact general h
  | bl _ => exact general h
  | str _ => exact general h
  | lst _ => exact general h
  | dic _ _ _ => exact general h
  | ref _ => exact general h
  | ty _ => exact general h
  | obj _ _ _ => exact general h
/-- two ints, by a rule that asks c and gives g -/
theorem v_ii {r : R2} {f : D → D → M D} (g : Int → Int → M D) (hf : ∀ d e μ, (∃ i j, d = .int i ∧ e = .int j ∧ f d e μ = g i j μ) ∨ f d e μ = .no)
    (hr : ∀ (i j : Int) (H : Hp) (ad : Pl) (μ : Mu) (Q : VK), MuOk Z.K H ad μ → Sat (g i j μ) (KE Z H ad Q) (XW Z H ad) → r (.int i) (.int j) H Q) : V2 Z r f := by
  intro x y d e H ad μ Q m rx ry h
  rcases hf d e μ with ⟨i, j, rfl, rfl, q⟩ | q
  · rw [q] at h
    cases rx
    cases ry
    exact hr i j H ad μ Q m h
  · rw [q] at h
    exact h.elim
theorem v_sub : V2 Z (rI0 fun i j => .int (i - j)) subD :=
  v_ii (fun i j => intV (i - j)) (fun d e μ => by cases d <;> cases e <;> first | exact .inl ⟨_, _, rfl, rfl, rfl⟩ | exact .inr rfl) fun i j H ad μ Q m h => ⟨i, j, rfl, rfl, ke_int m h⟩
theorem op_fdivX : OpR X (binaryOp .FloorDiv) (rI (fun _ j => j ≠ 0 ∧ j.natAbs.log2 < 9000) fun i j => .int (i.fdiv j)) :=
  opI fun _ _ _ _ _ _ _ hc q => floordiv_int hc.1 q (.inl (PyProof.noPylong_of_log2 hc.2))
theorem v_fdiv : V2 Z (rI (fun _ j => j ≠ 0 ∧ j.natAbs.log2 < 9000) fun i j => .int (i.fdiv j)) fdivD :=
  v_ii (fun i j => if divOk j then intV (i.fdiv j) else stk) (fun d e μ => by cases d <;> cases e <;> first | exact .inl ⟨_, _, rfl, rfl, rfl⟩ | exact .inr rfl) fun i j H ad μ Q m h => by
    by_cases c : divOk j = true
    · rw [if_pos c] at h
      have c' := c
      unfold divOk at c'
      simp only [Bool.and_eq_true, decide_eq_true_eq] at c'
      exact ⟨i, j, rfl, rfl, c', ke_int m h⟩
    · rw [if_neg c] at h
      exact h.elim
theorem v_mod : V2 Z (rI (fun _ j => j ≠ 0) fun i j => .int (i.fmod j)) modD :=
  v_ii (fun i j => if j ≠ 0 then intV (i.fmod j) else stk) (fun d e μ => by cases d <;> cases e <;> first | exact .inl ⟨_, _, rfl, rfl, rfl⟩ | exact .inr rfl) fun i j H ad μ Q m h => by
    by_cases c : j ≠ 0
    · rw [if_pos c] at h
      exact ⟨i, j, rfl, rfl, c, ke_int m h⟩
    · rw [if_neg c] at h
      exact h.elim
theorem v_pow : V2 Z (rI CPow fun i j => .int (i ^ j.toNat)) powD :=
  v_ii (fun i j => if powOk i j then intV (i ^ j.toNat) else stk) (fun d e μ => by cases d <;> cases e <;> first | exact .inl ⟨_, _, rfl, rfl, rfl⟩ | exact .inr rfl) fun i j H ad μ Q m h => by
    by_cases c : powOk i j = true
    · rw [if_pos c] at h
      have c' := c
      unfold powOk at c'
      simp only [Bool.and_eq_true, decide_eq_true_eq] at c'
      exact ⟨i, j, rfl, rfl, ⟨c'.1.1, c'.1.2, c'.2⟩, ke_int m h⟩
    · rw [if_neg c] at h
      exact h.elim
theorem v_cmpI {c : Int → Int → Bool} {f : D → D → M D} (hf : ∀ d e μ, (∃ i j, d = .int i ∧ e = .int j ∧ f d e μ = blV (c i j) μ) ∨ f d e μ = .no) : V2 Z (rI0 fun i j => .bl (c i j)) f :=
  v_ii (fun i j => blV (c i j)) hf fun i j H ad μ Q m h => ⟨i, j, rfl, rfl, ke_bl m h⟩
theorem v_lt : V2 Z (rI0 fun i j => .bl (decide (i < j))) ltD := v_cmpI fun d e μ => by cases d <;> cases e <;> first | exact .inl ⟨_, _, rfl, rfl, rfl⟩ | exact .inr rfl
theorem v_le : V2 Z (rI0 fun i j => .bl (decide (i ≤ j))) leD := v_cmpI fun d e μ => by cases d <;> cases e <;> first | exact .inl ⟨_, _, rfl, rfl, rfl⟩ | exact .inr rfl
theorem v_gt : V2 Z (rI0 fun i j => .bl (decide (j < i))) gtD := v_cmpI fun d e μ => by cases d <;> cases e <;> first | exact .inl ⟨_, _, rfl, rfl, rfl⟩ | exact .inr rfl
theorem v_ge : V2 Z (rI0 fun i j => .bl (decide (j ≤ i))) geD := v_cmpI fun d e μ => by cases d <;> cases e <;> first | exact .inl ⟨_, _, rfl, rfl, rfl⟩ | exact .inr rfl
theorem v_neg : V1 Z (rU fun i => .int (-i)) negD := by
  intro x d H ad μ Q m rx h
  cases d with
  | int i => cases rx; exact ⟨i, rfl, ke_int m h⟩
  | _ => exact h.elim
/-! equality -/
def rEqX (K : PySem.W.Frag) : R2 := fun x y H Q => rEq x y H Q ∨ rEqD K x y H Q
def rNeX (K : PySem.W.Frag) : R2 := fun x y H Q => rNe x y H Q ∨ rNeD K x y H Q
theorem op_eqX (hu : X.A.units + 64 < cLine) : OpR X (compareOp .Eq) (rEqX X.K) := OpR.or op_eq (op_eqD hu)
theorem op_neX (hu : X.A.units + 64 < cLine) : OpR X (compareOp .NotEq) (rNeX X.K) := OpR.or op_ne (op_neD hu)
theorem eqB_cases (d e : D) : (∃ i j, d = .int i ∧ e = .int j) ∨ (∃ i j, d = .str i ∧ e = .str j) ∨ (∃ i j, d = .bl i ∧ e = .bl j) ∨
    ∀ μ, eqB d e μ = if SeqAt.shaped (pdm μ d) && SeqAt.shaped (pdm μ e) then .ok (PyData.eqv (pdm μ d) (pdm μ e)) μ else .no := by
  cases d <;> cases e <;> first
    | exact .inl ⟨_, _, rfl, rfl⟩
    | exact .inr (.inl ⟨_, _, rfl, rfl⟩)
    | exact .inr (.inr (.inl ⟨_, _, rfl, rfl⟩))
    | exact .inr (.inr (.inr fun _ => rfl))
theorem v_eqB {g : Bool → Bool} {r : R2} (h1 : ∀ x y H Q, scal x y = true → Q (.bl (g (decide (x = y)))) H → r x y H Q)
    (h2 : ∀ x y H Q d e, Dp Z.K H x d → Dp Z.K H y e → SeqAt.shaped d = true → SeqAt.shaped e = true → Q (.bl (g (PyData.eqv d e))) H → r x y H Q) : V2 Z r (fun d e => bd (eqB d e) fun b => blV (g b)) := by
  intro x y d e H ad μ Q m rx ry h
  have h := sat_bd.mp h
  rcases eqB_cases d e with ⟨i, j, rfl, rfl⟩ | ⟨i, j, rfl, rfl⟩ | ⟨i, j, rfl, rfl⟩ | q
  · cases rx; cases ry
    refine h1 _ _ H Q rfl ?_
    have q := ke_bl m h
    rw [dec_int, Bool.beq_eq_decide_eq]
    exact q
  · cases rx; cases ry
    refine h1 _ _ H Q rfl ?_
    have q := ke_bl m h
    have e : decide (V.str i = V.str j) = decide (i = j) := by
      rw [Bool.eq_iff_iff]
      simp
    rw [e]
    exact q
  · cases rx; cases ry
    refine h1 _ _ H Q rfl ?_
    have q := ke_bl m h
    have e : decide (V.bl i = V.bl j) = decide (i = j) := by
      rw [Bool.eq_iff_iff]
      simp
    rw [e]
    exact q
  · rw [q μ] at h
    by_cases c : (SeqAt.shaped (pdm μ d) && SeqAt.shaped (pdm μ e)) = true
    · rw [if_pos c] at h
      obtain ⟨c1, c2⟩ := Bool.and_eq_true_iff.mp c
      exact h2 x y H Q _ _ (dpm_of m rx (SeqAt.canLay_of_shaped c1)) (dpm_of m ry (SeqAt.canLay_of_shaped c2)) c1 c2 (ke_bl m h)
    · rw [if_neg c] at h
      exact h.elim
theorem v_eq : V2 Z (rEqX Z.K) eqD := v_eqB (g := fun b => b) (fun x y H Q h q => .inl ⟨h, q⟩) fun x y H Q d e h1 h2 h3 h4 q => .inr ⟨d, e, h1, h2, h3, h4, q⟩
theorem v_ne : V2 Z (rNeX Z.K) neD := v_eqB (g := fun b => !b) (fun x y H Q h q => .inl ⟨h, q⟩) fun x y H Q d e h1 h2 h3 h4 q => .inr ⟨d, e, h1, h2, h3, h4, q⟩
theorem non_iff {K : PySem.W.Frag} {H : Hp} {ad : Pl} {x : V} {d : D} {b : Bool} (r : Rp K H ad x d) (h : isNonB d = some b) : decide (x = .non) = b := by
  cases r with
  | non => cases h; rfl
  | _ => cases h; first | rfl | exact decide_eq_false (fun z => nomatch z)
theorem v_is : V2 Z (fun x y H Q => y = .non ∧ Q (.bl (decide (x = .non))) H) isD := by
  intro x y d e H ad μ Q m rx ry h
  cases e with
  | non =>
    cases ry
    obtain ⟨z, e, q⟩ := sat_lft.mp h
    obtain ⟨b, e1, e2⟩ := Option.map_eq_some_iff.mp e
    subst e2
    rw [non_iff rx e1]
    exact ⟨rfl, ke_bl m q⟩
  | _ => exact h.elim
theorem v_isNot : V2 Z (fun x y H Q => y = .non ∧ Q (.bl (!decide (x = .non))) H) isNotD := by
  intro x y d e H ad μ Q m rx ry h
  cases e with
  | non =>
    cases ry
    obtain ⟨z, e, q⟩ := sat_lft.mp h
    obtain ⟨b, e1, e2⟩ := Option.map_eq_some_iff.mp e
    subst e2
    rw [non_iff rx e1]
    exact ⟨rfl, ke_bl m q⟩
  | _ => exact h.elim
end
end PX
namespace PX
open PySem PySem.Spec PyProof.Rows L2
variable [Tabc]
variable {Z : Wd}
section
variable {X : Cx}
/-! ### 11. products -/
def MulC (i j : Int) : Prop := mulOk i j = true
theorem MulC.ok {i j : Int} (h : MulC i j) : IntMulOk i j := by
  unfold MulC mulOk at h
  simp only [Bool.or_eq_true, Bool.and_eq_true, decide_eq_true_eq] at h
  rcases h with (h | h) | h
  · exact CMul.ok (.inl (by omega))
  · exact CMul.ok (.inr (by omega))
  · exact CMulW.ok (show i.natAbs.log2 + j.natAbs.log2 < 1000000 by omega)
theorem op_mulX : OpR X (binaryOp .Mult) (rI MulC fun i j => .int (i * j)) := opI fun _ _ _ _ _ _ _ hc q => mul_int q (MulC.ok hc)
theorem list_mulW (l : Addr) (items : Array Value) (n : Nat) (dd : Option Addr) (sl : Array (Option Value)) (x : Int) (u : Tok) (hc0 : ¬(!Builtin.List.listFitsIndex x) = true) (hc1 : ¬items.size * x.toNat > (2 ^ 63 - 1) / 8) (hc2 : ¬Builtin.List.listTooLong (items.size * x.toNat) = true) :
    Meets (Builtin.«list.__mul__» ⟨[.ref l, .int x u], []⟩) (fun _ R s => s.heap.get? l = some { cls := .type "list", dict := dd, data := .seq items n, slots := sl } ∧
      R (.ok (.ret (Value.ref s.heap.objs.size))) { s with heap := s.heap.push { cls := Value.type "list", data := Data.seq (List.foldl (fun x1 x2 => x1 ++ x2) #[] (List.replicate (if items.isEmpty = true then 0 else x.toNat) items)) }, toks := s.toks }) :=
  .of_wp fun prog w A R s h => by
    obtain ⟨hp, g, d, tk, os⟩ := s
    obtain ⟨hl, h⟩ := h
    have hsz := AutoListH.joined_fits hc2
    wp_walk using AutoSeq1.wpAny_loadPart' hl
    refine wpAny_ite_false (decide_eq_false (Nat.not_lt.mpr hsz)) ?_
    wp_walk using AutoSeq1.wpAny_loadPart' hl
    exact ⟨_, rfl, h⟩
theorem rmulW (a : Int) (t : Tok) (l : Addr) (items : Array Value) (n : Nat) (dd : Option Addr) (sl : Array (Option Value)) :
    Meets (Builtin.«int.__rmul__» ⟨[.int a t, .ref l], []⟩) (fun _ R s => s.heap.get? l = some { cls := .type "list", dict := dd, data := .seq items n, slots := sl } ∧ R (.ok (.ret Value.notImplemented)) s) :=
  .of_wp fun prog w A R s h => by
    obtain ⟨hp, g, d, tk, os⟩ := s
    obtain ⟨hl, h⟩ := h
    wp_walk using AutoSeq1.wpAny_loadPart' hl
    exact ⟨_, rfl, h⟩
def rRepR (K : PySem.W.Frag) : R2 := fun x y H Q => ∃ l k xs, x = .ref l ∧ y = .int k ∧ SqL K H l xs ∧ -100000 ≤ k ∧ k ≤ 100000 ∧ xs.length * k.toNat ≤ 1000000 ∧ ∀ p, H p = none → Q (.ref p) (upd H p (.lst (List.replicate k.toNat xs).flatten))
theorem folded (its : List Value) (m : Nat) : List.foldl (fun x1 x2 => x1 ++ x2) #[] (List.replicate (if its.toArray.isEmpty = true then 0 else m) its.toArray) = (List.replicate m its).flatten.toArray := by
  have f0 := fun k => by simpa using foldl_rep its k []
  rw [f0]
  cases its with
  | nil => simp
  | cons a r => rfl
theorem op_repR : OpR X (binaryOp .Mult) (rRepR X.K) := by
  intro pins s σ H x y v u Q I rx ry ⟨l, k, xs, ex, ey, hH, lo, hi, hz, q⟩
  subst ex ey
  cases rx
  obtain ⟨t, rfl⟩ := ry
  obtain ⟨its, r, p1, _⟩ := I.list hH
  obtain ⟨⟨c1, d1, t1, sl1⟩, n, e, hc1, hd1, ht1⟩ := p1
  simp only at hc1 ht1
  subst hc1 ht1
  have len := r.length
  have big : its.toArray.size * k.toNat ≤ 1000000 := by rw [List.size_toArray, ← len]; exact hz
  have c1 : ¬ its.toArray.size * k.toNat > (2 ^ 63 - 1) / 8 := by
    have z : (1000000 : Nat) ≤ (2 ^ 63 - 1) / 8 := by decide
    omega
  have c2 : ¬ (!Builtin.List.listFitsIndex k) = true := by
    rw [fitsIndex_both (by omega) (by omega)]
    decide
  have c3 : ¬ Builtin.List.listTooLong (its.toArray.size * k.toNat) = true := by
    rw [notLongL (by rw [sizeLine_eq]; omega)]
    decide
  have inner := list_mulW l its.toArray n d1 sl1 k t c2 c1 c3
  refine wpAny_binaryOp_repeat_ref (T := "list") (U := "int") (by decide) ⟨_, e, rfl⟩ (fun s' => typeIs_int s' k t) noFill_list_mul F.fills_int_mul F.slot_int_rmul repeat_list F.slot_int_index.lookup ?_
  refine call_meets F.slot_int_rmul (typeIs_int s k t) F.entry_int_rmul (F.args_int_rmul_2 _ _) (rmulW k t l its.toArray n d1 sl1) ⟨e, rfl, ⟨_, e, rfl⟩, ?_⟩
  refine call_meets F.slot_list_mul ⟨_, e, rfl⟩ F.entry_list_mul (F.args_list_mul_2 _ _) inner ⟨e, ?_⟩
  rw [folded]
  have fit : (List.replicate k.toNat xs).flatten.length ≤ sizeLine := by
    rw [PyProof.Rows.lm_len_rep_flat, Nat.mul_comm, sizeLine_eq]
    omega
  exact ⟨.ref _, _, I.lnew (t' := s.toks) (r.rep k.toNat) fit, rfl, q _ I.fresh⟩
theorem tuple_mul1W (l : Addr) (items : Array Value) (n : Nat) (dd : Option Addr) (sl : Array (Option Value)) (u : Tok) :
    Meets (Builtin.«tuple.__mul__» ⟨[.ref l, .int 1 u], []⟩) (fun _ R s => s.heap.get? l = some { cls := .type "tuple", dict := dd, data := .seq items n, slots := sl } ∧ R (.ok (.ret (Value.ref l))) s) :=
  .of_wp fun prog w A R s h => by
    obtain ⟨hp, g, d, tk, os⟩ := s
    obtain ⟨hl, h⟩ := h
    have f1 := AutoSeq1.idx_int
    wp_walk using wpAny_loadPart' hl
    exact ⟨_, rfl, h⟩
def rRep1 (K : PySem.W.Frag) : R2 := fun x y H Q => ∃ l xs, x = .ref l ∧ y = .int 1 ∧ SqT K H l xs ∧ Q (.ref l) H
theorem op_rep1 : OpR X (binaryOp .Mult) (rRep1 X.K) := by
  intro pins s σ H x y v u Q I rx ry h
  obtain ⟨l, xs, rfl, rfl, hT, q⟩ := h
  cases rx
  obtain ⟨t, rfl⟩ := ry
  obtain ⟨its, r, ⟨⟨cls, dd, data, sl⟩, ho, hc, n, hd⟩, hs⟩ := I.tuple hT
  simp only at hc hd
  subst hc hd
  refine wpAny_binaryOp_repeat_ref (T := "tuple") (U := "int") (by decide) ⟨_, ho, rfl⟩ (fun s' => typeIs_int s' 1 t) noFill_tuple_mul F.fills_int_mul F.slot_int_rmul repeat_tuple F.slot_int_index.lookup
    (call_meets F.slot_int_rmul (typeIs_int s 1 t) F.entry_int_rmul (F.args_int_rmul_2 _ _) (int_rmul_tuple 1 t l its.toArray n dd sl)
      ⟨ho, rfl, ⟨_, ho, rfl⟩, call_meets F.slot_tuple_mul ⟨_, ho, rfl⟩ F.entry_tuple_mul (F.args_tuple_mul_2 _ _) (tuple_mul1W l its.toArray n dd sl t) ⟨ho, .ref l, H, I, rfl, q⟩⟩)
def rMulB : R2 := fun x y H Q => ∃ i b, x = .int i ∧ y = .bl b ∧ Q (.int (i * if b = true then (1 : Int) else 0)) H
theorem op_mulB : OpR X (binaryOp .Mult) rMulB := by
  intro pins s σ H x y v u Q I rx ry h
  obtain ⟨i, b, rfl, rfl, q⟩ := h
  obtain ⟨t, rfl⟩ := rx
  cases ry
  exact PySem.IntBool.mul_int_bool ⟨.int _, H, I.tok _, ⟨_, rfl⟩, q⟩
def rMulX (K : PySem.W.Frag) : R2 := fun x y H Q => (rI MulC fun i j => .int (i * j)) x y H Q ∨ rRepR K x y H Q ∨ rRepT K x y H Q ∨ rRep1 K x y H Q ∨ rMulB x y H Q
theorem op_mulA : OpR X (binaryOp .Mult) (rMulX X.K) := OpR.or op_mulX (OpR.or op_repR (OpR.or op_repT (OpR.or op_rep1 op_mulB)))
theorem v_mul : V2 Z (rMulX Z.K) mulD := by
  intro x y d e H ad μ Q m rx ry h
  cases d with
  | int i =>
    cases e with
    | int j =>
      cases rx
      cases ry
      have h : Sat ((if mulOk i j then intV (i * j) else stk) μ) (KE Z H ad Q) (XW Z H ad) := h
      by_cases c : mulOk i j = true
      · rw [if_pos c] at h
        exact .inl ⟨i, j, rfl, rfl, c, ke_int m h⟩
      · rw [if_neg c] at h
        exact h.elim
    | bl b =>
      cases rx
      cases ry
      exact .inr (.inr (.inr (.inr ⟨i, b, rfl, rfl, ke_int m h⟩)))
    | _ => exact h.elim
  | lst xs =>
    cases e with
    | int k =>
      cases ry
      have h : Sat ((if k ≤ 100000 ∧ -100000 ≤ k ∧ xs.length * k.toNat ≤ 1000000 then rt (.lst (List.replicate k.toNat xs).flatten) else stk : M D) μ) (KE Z H ad Q) (XW Z H ad) := h
      by_cases c : k ≤ 100000 ∧ -100000 ≤ k ∧ xs.length * k.toNat ≤ 1000000
      · rw [if_pos c] at h
        cases rx with
        | @lst a vs _ la p1 =>
          refine .inr (.inl ⟨a, k, vs, rfl, rfl, la.sq, c.2.1, c.1, by rw [p1.length]; exact c.2.2, fun p hp => ?_⟩)
          exact h (.ref p) _ ad (m.new hp) (.newLst m hp (p1.rep k.toNat))
      · rw [if_neg c] at h
        exact h.elim
    | _ => exact h.elim
  | tup xs =>
    cases e with
    | int k =>
      cases ry
      have h : Sat ((if k = 1 then rt (.tup xs) else if 2 ≤ k ∧ k ≤ 1000 ∧ xs.length ≤ 1000 ∧ xs.isEmpty = false then rt (.tup (List.replicate k.toNat xs).flatten) else stk : M D) μ) (KE Z H ad Q) (XW Z H ad) := h
      by_cases c1 : k = 1
      · subst c1
        rw [if_pos rfl] at h
        have rx' := rx
        cases rx with
        | @tup a vs _ la p1 => exact .inr (.inr (.inr (.inl ⟨a, vs, rfl, rfl, la.sq, h _ H ad (.refl m) rx'⟩)))
      rw [if_neg c1] at h
      by_cases c : 2 ≤ k ∧ k ≤ 1000 ∧ xs.length ≤ 1000 ∧ xs.isEmpty = false
      · rw [if_pos c] at h
        cases rx with
        | @tup a vs _ la p1 =>
          refine .inr (.inr (.inl ⟨a, k, vs, rfl, rfl, la.sq, fun e => ?_, c.1, c.2.1, by rw [p1.length]; exact c.2.2.1, fun p hp => ?_⟩))
          · subst e
            have e2 : xs = [] := List.eq_nil_of_length_eq_zero p1.length.symm
            subst e2
            exact absurd c.2.2.2 (by decide)
          · exact h (.ref p) _ ad (m.new hp) (.newTup m hp (p1.rep k.toNat))
      · rw [if_neg c] at h
        exact h.elim
    | _ => exact h.elim
  | _ => exact h.elim
/-! ### 12. built-in functions -/
def asInts : List D → Option (List Int)
  | [] => some []
  | .int i :: r => (asInts r).map (i :: ·)
  | _ => none
theorem asInts_map : ∀ ns : List Int, asInts (ns.map D.int) = some ns
  | [] => rfl
  | n :: ns => by
    show (asInts (ns.map D.int)).map (n :: ·) = _
    rw [asInts_map ns]
    rfl
theorem asInts_eq : ∀ {ds : List D} {ns : List Int}, asInts ds = some ns → ds = ns.map D.int
  | [], _, h => by cases h; rfl
  | .int i :: r, ns, h => by
    obtain ⟨ms, e, q⟩ := Option.map_eq_some_iff.mp (show (asInts r).map (i :: ·) = some ns from h)
    subst q
    rw [asInts_eq e]
    rfl
def lenF (ds : List D) : M D := fun μ => match ds with
  | [.str z] => if z.length ≤ 1000000 then intV (z.length : Nat) μ else .no
  | [d] => match asQ μ d with
    | some xs => intV (xs.length : Nat) μ
    | none => .no
  | _ => .no
def absF (ds : List D) : M D := match ds with
  | [.int i] => intV (if i < 0 then -i else i)
  | _ => stk
def maxF (ds : List D) : M D := match ds with
  | [.int i, .int j] => intV (if j > i then j else i)
  | _ => stk
def minF (ds : List D) : M D := match ds with
  | [.int i, .int j] => intV (if j < i then j else i)
  | _ => stk
def intF (ds : List D) : M D := match ds with
  | [.int i] => intV i
  | [.bl b] => intV (if b then 1 else 0)
  | _ => stk
def sumF (ds : List D) : M D := fun μ => match ds with
  | [d] => match (asL μ d).bind asInts with
    | some ns => intV ns.sum μ
    | none => .no
  | _ => .no
def tupF (ds : List D) : M D := fun μ => match ds with
  | [.tup xs] => .ok (.tup xs) μ
  | [d] => match asL μ d with
    | some xs => .ok (.tup xs) μ
    | none => .no
  | _ => .no
def lstF (ds : List D) : M D := fun μ => match ds with
  | [d] => match asQ μ d with
    | some xs => .ok (.lst xs) μ
    | none => .no
  | _ => .no
def gcdF (ds : List D) : M D := match ds with
  | [.int i, .int j] => intV ((Nat.gcd i.natAbs j.natAbs : Nat) : Int)
  | _ => stk
def repF (ds : List D) : M D := fun μ => match ds with
  | [d] => if repOk (pdm μ d) then .ok (.str (pdm μ d).shown) μ else .no
  | _ => .no
def tyN : D → Option String
  | .non => some "NoneType" | .bl _ => some "bool" | .int _ => some "int" | .str _ => some "str" | .lst _ => some "list" | .tup _ => some "tuple" | _ => none
def isaB (d : D) (n : String) : Option Bool := (tyN d).bind fun t =>
  if n == "int" then some (t == "int" || t == "bool") else if n == "bool" || n == "tuple" || n == "list" || n == "str" then some (t == n) else none
def isaF (ds : List D) : M D := match ds with
  | [d, .ty n] => lft ((isaB d n).map .bl)
  | _ => stk
theorem rps1 {K : PySem.W.Frag} {H : Hp} {ad : Pl} {xs : List V} {d : D} (r : Rps K H ad xs [d]) : ∃ x, xs = [x] ∧ Rp K H ad x d := by
  cases r with
  | cons a r => cases r; exact ⟨_, rfl, a⟩
theorem rps2 {K : PySem.W.Frag} {H : Hp} {ad : Pl} {xs : List V} {d e : D} (r : Rps K H ad xs [d, e]) : ∃ x y, xs = [x, y] ∧ Rp K H ad x d ∧ Rp K H ad y e := by
  cases r with
  | cons a r =>
    obtain ⟨y, rfl, b⟩ := rps1 r
    exact ⟨_, y, rfl, a, b⟩
def rLenX (K : PySem.W.Frag) : List V → Hp → VK → Prop := fun xs H Q => (∃ p ys, xs = [.ref p] ∧ (SqL K H p ys ∨ SqT K H p ys) ∧ Q (.int ys.length) H) ∨ ∃ z, xs = [.str z] ∧ z.length ≤ sizeLine ∧ Q (.int z.length) H
theorem call_lenX : CallR X (.builtin "len") (rLenX X.K) := CallR.or call_len_seq call_len_str
theorem v_len : VA Z (rLenX Z.K) lenF := by
  intro xs ds H ad μ Q m r h0
  have gen : ∀ d, ds = [d] → Sat (match asQ μ d with
      | some xs => intV (xs.length : Nat) μ
      | none => .no) (KE Z H ad Q) (XW Z H ad) → rLenX Z.K xs H Q := fun d e h => by
    clear h0
    subst e
    obtain ⟨x, rfl, rx⟩ := rps1 r
    cases k : asQ μ d with
    | none => rw [k] at h; exact h.elim
    | some ys =>
      rw [k] at h
      obtain ⟨a, vs, rfl, q, p⟩ := asQ_ok m rx k
      refine .inl ⟨a, vs, rfl, q, ?_⟩
      rw [p.length]
      exact ke_int m h
  match ds, r, h0, gen with
  | [.str z], r, h, _ =>
    obtain ⟨x, rfl, rx⟩ := rps1 r
    cases rx
    have h : Sat (if z.length ≤ 1000000 then intV (z.length : Nat) μ else .no) (KE Z H ad Q) (XW Z H ad) := h
    by_cases c : z.length ≤ 1000000
    · rw [if_pos c] at h
      exact .inr ⟨z, rfl, million c, ke_int m h⟩
    · rw [if_neg c] at h
      exact h.elim
  | [.non], r, h, gen => exact gen _ rfl h
  | [.bl _], r, h, gen => exact gen _ rfl h
  | [.int _], r, h, gen => exact gen _ rfl h
  | [.lst _], r, h, gen => exact gen _ rfl h
  | [.tup _], r, h, gen => exact gen _ rfl h
  | [.dic _ _ _], r, h, gen => exact gen _ rfl h
  | [.ref _], r, h, gen => exact gen _ rfl h
  | [.ty _], r, h, gen => exact gen _ rfl h
  | [.obj _ _ _], r, h, gen => exact gen _ rfl h
  | [], r, h, _ => exact h.elim
  | d :: _ :: _, r, h, _ => cases d <;> exact h.elim
/-- one int -/
theorem v_i1 {r : List V → Hp → VK → Prop} {f : List D → M D} (g : Int → Int) (hf : ∀ ds μ, (∃ i, ds = [.int i] ∧ f ds μ = intV (g i) μ) ∨ f ds μ = .no)
    (hr : ∀ (i : Int) (H : Hp) (Q : VK), Q (.int (g i)) H → r [.int i] H Q) : VA Z r f := by
  intro xs ds H ad μ Q m rx h
  rcases hf ds μ with ⟨i, rfl, q⟩ | q
  · rw [q] at h
    obtain ⟨x, rfl, ry⟩ := rps1 rx
    obtain rfl := rp_int ry
    exact hr i H Q (ke_int m h)
  · rw [q] at h
    exact h.elim
theorem v_i2 {r : List V → Hp → VK → Prop} {f : List D → M D} (g : Int → Int → Int) (hf : ∀ ds μ, (∃ i j, ds = [.int i, .int j] ∧ f ds μ = intV (g i j) μ) ∨ f ds μ = .no)
    (hr : ∀ (i j : Int) (H : Hp) (Q : VK), Q (.int (g i j)) H → r [.int i, .int j] H Q) : VA Z r f := by
  intro xs ds H ad μ Q m rx h
  rcases hf ds μ with ⟨i, j, rfl, q⟩ | q
  · rw [q] at h
    obtain ⟨x, y, rfl, r1, r2⟩ := rps2 rx
    obtain rfl := rp_int r1
    obtain rfl := rp_int r2
    exact hr i j H Q (ke_int m h)
  · rw [q] at h
    exact h.elim
theorem v_abs : VA Z (fun xs H Q => ∃ i, xs = [.int i] ∧ Q (.int (if i < 0 then -i else i)) H) absF :=
  v_i1 (fun i => if i < 0 then -i else i) (fun ds μ => by
    match ds with
    | [.int i] => exact .inl ⟨i, rfl, rfl⟩
    | [] | [.non] | [.bl _] | [.str _] | [.lst _] | [.tup _] | [.dic _ _ _] | [.ref _] | [.ty _] | [.obj _ _ _] => exact .inr rfl
    | d :: _ :: _ => cases d <;> exact .inr rfl) fun i H Q q => ⟨i, rfl, q⟩
theorem two_cases {f : List D → M D} {g : Int → Int → Int} (h : ∀ i j, f [.int i, .int j] = intV (g i j)) (hn : ∀ ds, (∀ i j, ds ≠ [.int i, .int j]) → f ds = stk) (ds : List D) (μ : Mu) :
    (∃ i j, ds = [.int i, .int j] ∧ f ds μ = intV (g i j) μ) ∨ f ds μ = .no := by
  by_cases c : ∃ i j, ds = [.int i, .int j]
  · obtain ⟨i, j, rfl⟩ := c
    exact .inl ⟨i, j, rfl, by rw [h]⟩
  · exact .inr (by rw [hn ds fun i j e => c ⟨i, j, e⟩]; rfl)
theorem v_max : VA Z (fun xs H Q => ∃ i j, xs = [.int i, .int j] ∧ Q (.int (if j > i then j else i)) H) maxF :=
  v_i2 (fun i j => if j > i then j else i) (two_cases (fun _ _ => rfl) fun ds h => by
    unfold maxF
    split
    · exact absurd rfl (h _ _)
    · rfl) fun i j H Q q => ⟨i, j, rfl, q⟩
theorem v_min : VA Z (fun xs H Q => ∃ i j, xs = [.int i, .int j] ∧ Q (.int (if j < i then j else i)) H) minF :=
  v_i2 (fun i j => if j < i then j else i) (two_cases (fun _ _ => rfl) fun ds h => by
    unfold minF
    split
    · exact absurd rfl (h _ _)
    · rfl) fun i j H Q q => ⟨i, j, rfl, q⟩
theorem v_gcd : VA Z rGcd gcdF :=
  v_i2 (fun i j => ((Nat.gcd i.natAbs j.natAbs : Nat) : Int)) (two_cases (fun _ _ => rfl) fun ds h => by
    unfold gcdF
    split
    · exact absurd rfl (h _ _)
    · rfl) fun i j H Q q => ⟨i, j, rfl, q⟩
theorem v_int : VA Z (fun xs H Q => (∃ i, xs = [.int i] ∧ Q (.int i) H) ∨ ∃ k, xs = [.bl k] ∧ Q (.int (if k then 1 else 0)) H) intF := by
  intro xs ds H ad μ Q m r h
  match ds, r, h with
  | [.int i], r, h => obtain ⟨x, rfl, rx⟩ := rps1 r; cases rx; exact .inl ⟨i, rfl, ke_int m h⟩
  | [.bl b], r, h => obtain ⟨x, rfl, rx⟩ := rps1 r; cases rx; exact .inr ⟨b, rfl, ke_int m h⟩
  | [], _, h | [.non], _, h | [.str _], _, h | [.lst _], _, h | [.tup _], _, h | [.dic _ _ _], _, h | [.ref _], _, h | [.ty _], _, h | [.obj _ _ _], _, h => exact h.elim
  | d :: _ :: _, _, h => cases d <;> exact h.elim
theorem v_sum : VA Z (rSum Z.K) sumF := by
  intro xs ds H ad μ Q m r h
  match ds, r, h with
  | [d], r, h =>
    obtain ⟨x, rfl, rx⟩ := rps1 r
    have h : Sat (match (asL μ d).bind asInts with
      | some ns => intV ns.sum μ
      | none => .no) (KE Z H ad Q) (XW Z H ad) := h
    cases k : (asL μ d).bind asInts with
    | none => rw [k] at h; exact h.elim
    | some ns =>
      rw [k] at h
      obtain ⟨es, k1, k2⟩ := Option.bind_eq_some_iff.mp k
      obtain ⟨a, vs, rfl, q, p⟩ := asL_ok m rx k1
      have e := asInts_eq k2
      subst e
      have e := p.ints
      subst e
      exact ⟨a, ns, rfl, q, ke_int m h⟩
  | [], _, h | _ :: _ :: _, _, h => exact h.elim
def rTupX (K : PySem.W.Frag) : List V → Hp → VK → Prop := fun xs H Q => ∃ p ys, xs = [.ref p] ∧ ((SqL K H p ys ∧ ∀ l, H l = none → Q (.ref l) (upd H l (.tup ys))) ∨ (SqT K H p ys ∧ Q (.ref p) H))
theorem v_tup : VA Z (rTupX Z.K) tupF := by
  intro xs ds H ad μ Q m r h0
  have gen : ∀ d, ds = [d] → Sat (match asL μ d with
      | some xs => .ok (.tup xs) μ
      | none => .no) (KE Z H ad Q) (XW Z H ad) → rTupX Z.K xs H Q := fun d e h => by
    clear h0
    subst e
    obtain ⟨x, rfl, rx⟩ := rps1 r
    cases k : asL μ d with
    | none => rw [k] at h; exact h.elim
    | some ys =>
      rw [k] at h
      obtain ⟨a, vs, rfl, q, p⟩ := asL_ok m rx k
      exact ⟨a, vs, rfl, .inl ⟨q, fun l hl => h (.ref l) _ ad (m.new hl) (.newTup m hl p)⟩⟩
  match ds, r, h0, gen with
  | [.tup ys], r, h, _ =>
    obtain ⟨x, rfl, rx⟩ := rps1 r
    have rx' := rx
    cases rx with
    | @tup a vs _ ta p => exact ⟨a, vs, rfl, .inr ⟨ta.sq, h _ H ad (.refl m) rx'⟩⟩
  | [.non], r, h, gen => exact gen _ rfl h
  | [.bl _], r, h, gen => exact gen _ rfl h
  | [.int _], r, h, gen => exact gen _ rfl h
  | [.lst _], r, h, gen => exact gen _ rfl h
  | [.str _], r, h, gen => exact gen _ rfl h
  | [.dic _ _ _], r, h, gen => exact gen _ rfl h
  | [.ref _], r, h, gen => exact gen _ rfl h
  | [.ty _], r, h, gen => exact gen _ rfl h
  | [.obj _ _ _], r, h, gen => exact gen _ rfl h
  | [], r, h, _ => exact h.elim
  | d :: _ :: _, r, h, _ => cases d <;> exact h.elim
def rLstX (K : PySem.W.Frag) : List V → Hp → VK → Prop := fun xs H Q => ∃ p ys, xs = [.ref p] ∧ (SqL K H p ys ∨ SqT K H p ys) ∧ ∀ l, H l = none → Q (.ref l) (upd H l (.lst ys))
theorem v_lst : VA Z (rLstX Z.K) lstF := by
  intro xs ds H ad μ Q m r h
  match ds, r, h with
  | [d], r, h =>
    obtain ⟨x, rfl, rx⟩ := rps1 r
    have h : Sat (match asQ μ d with
      | some xs => .ok (.lst xs) μ
      | none => .no) (KE Z H ad Q) (XW Z H ad) := h
    cases k : asQ μ d with
    | none => rw [k] at h; exact h.elim
    | some ys =>
      rw [k] at h
      obtain ⟨a, vs, rfl, q, p⟩ := asQ_ok m rx k
      exact ⟨a, vs, rfl, q, fun l hl => h (.ref l) _ ad (m.new hl) (.newLst m hl p)⟩
  | [], _, h | _ :: _ :: _, _, h => exact h.elim
theorem v_rep : VA Z (rRepr Z.K) repF := by
  intro xs ds H ad μ Q m r h
  match ds, r, h with
  | [d], r, h =>
    obtain ⟨x, rfl, rx⟩ := rps1 r
    have h : Sat (if repOk (pdm μ d) then .ok (.str (pdm μ d).shown) μ else .no) (KE Z H ad Q) (XW Z H ad) := h
    by_cases c : repOk (pdm μ d) = true
    · rw [if_pos c] at h
      have c' := c
      unfold repOk at c'
      simp only [Bool.and_eq_true, decide_eq_true_eq] at c'
      exact ⟨x, _, rfl, dpm_of m rx c'.1.1.1, c, h _ H ad (.refl m) (.str _)⟩
    · rw [if_neg c] at h
      exact h.elim
  | [], _, h | _ :: _ :: _, _, h => exact h.elim
/-! isinstance -/
theorem tyx_of {K : PySem.W.Frag} {H : Hp} {ad : Pl} {x : V} {d : D} {t : String} (r : Rp K H ad x d) (h : tyN d = some t) : TyX K H x (.type t) := by
  cases r with
  | non => cases h; exact .base .non
  | bl b => cases h; exact .base (.bl b)
  | int i => cases h; exact .base (.int i)
  | str z => cases h; exact .base (.str z)
  | lst a p =>
    cases h
    rcases a with ⟨_, q | ⟨o, q⟩⟩ | ⟨o, its, n, q, c, _⟩
    · exact .base (.lst q)
    · exact .base (.frz q)
    · exact .kList q c
  | tup a p =>
    cases h
    exact .base (.tup a.2)
  | dic _ _ => cases h
  | ref _ => cases h
  | ty _ => cases h
  | obj _ _ => cases h
theorem kit_tab : ∀ t ∈ (["NoneType", "bool", "int", "str", "list", "tuple"] : List String), ∀ n ∈ (["int", "bool", "tuple", "list", "str"] : List String),
    kitB t n = some (if n == "int" then (t == "int" || t == "bool") else t == n) := by decide +kernel
theorem v_isa : VA Z (rIsi Z.K) isaF := by
  intro xs ds H ad μ Q m r h
  match ds, r, h with
  | [d, .ty n], r, h =>
    obtain ⟨x, y, rfl, rx, ry⟩ := rps2 r
    cases ry
    obtain ⟨z, e, q⟩ := sat_lft.mp (show Sat (lft ((isaB d n).map D.bl) μ) (KE Z H ad Q) (XW Z H ad) from h)
    obtain ⟨b, e1, e2⟩ := Option.map_eq_some_iff.mp e
    subst e2
    unfold isaB at e1
    obtain ⟨t, ht, e1⟩ := Option.bind_eq_some_iff.mp e1
    have tm : t ∈ (["NoneType", "bool", "int", "str", "list", "tuple"] : List String) := by
      cases d <;> cases ht <;> decide
    refine ⟨x, .ty n, .type t, .type n, b, rfl, .ty n, tyx_of rx ht, kit_ty ?_, ke_bl m q⟩
    by_cases c : (n == "int") = true
    · have e := eq_of_beq c
      subst e
      rw [kit_tab t tm "int" (by decide)]
      rw [if_pos c] at e1
      exact e1
    · rw [if_neg c] at e1
      by_cases c2 : (n == "bool" || n == "tuple" || n == "list" || n == "str") = true
      · rw [if_pos c2] at e1
        have nm : n ∈ (["int", "bool", "tuple", "list", "str"] : List String) := by
          simp only [Bool.or_eq_true, beq_iff_eq] at c2
          rcases c2 with ((e | e) | e) | e <;> subst e <;> decide
        rw [kit_tab t tm n nm, if_neg c]
        exact e1
      · rw [if_neg c2] at e1
        cases e1
  | [], _, h | [_], _, h | [_, .non], _, h | [_, .bl _], _, h | [_, .int _], _, h | [_, .str _], _, h | [_, .lst _], _, h | [_, .tup _], _, h | [_, .dic _ _ _], _, h | [_, .ref _], _, h | [_, .obj _ _ _], _, h => exact h.elim
  | _ :: e :: _ :: _, _, h => cases e <;> exact h.elim
end
end PX
namespace PX
open PySem PySem.Spec PyProof.Rows L2
variable [Tabc]
variable {Z : Wd}
/-! ### 13. dicts with text keys -/
def putS (kd : List (Str × D)) (k : Str) (d : D) : List (Str × D) :=
  if (kd.any fun p => decide (p.1 = k)) = true then kd.map (fun p => if p.1 = k then (p.1, d) else p) else kd ++ [(k, d)]
def getS (kd : List (Str × D)) (k : Str) : Option D := (kd.find? fun p => decide (p.1 = k)).map (·.2)
section
variable {K : PySem.W.Frag} {H H' : Hp} {ad ad' : Pl} {μ : Mu}
theorem krs_cases {kv : List (Key × V)} {kd : List (Str × D)} (h : KRs K H ad kv kd) : (kv = [] ∧ kd = []) ∨ ∃ k v d kv' kd', kv = (Sum.inr k, v) :: kv' ∧ kd = (k, d) :: kd' ∧ Rp K H ad v d ∧ KRs K H ad kv' kd' := by
  obtain ⟨h1, h2⟩ := h
  cases kv with
  | nil =>
    cases kd with
    | nil => exact .inl ⟨rfl, rfl⟩
    | cons p r => simp at h1
  | cons q kv' =>
    cases kd with
    | nil => simp at h1
    | cons p kd' =>
      obtain ⟨k1, v⟩ := q
      obtain ⟨k, d⟩ := p
      simp only [List.map_cons, List.cons.injEq] at h1
      obtain ⟨e, h1⟩ := h1
      subst e
      cases h2 with
      | cons a r => exact .inr ⟨k, v, d, kv', kd', rfl, rfl, a, h1, r⟩
theorem krs_get (k : Str) : ∀ (kd : List (Str × D)) (kv : List (Key × V)), KRs K H ad kv kd → (getS kd k = none ∧ valV kv (Sum.inr k : Key) = none) ∨ ∃ d v, getS kd k = some d ∧ valV kv (Sum.inr k : Key) = some v ∧ Rp K H ad v d := by
  intro kd
  induction kd with
  | nil =>
    intro kv h
    rcases krs_cases h with ⟨rfl, _⟩ | ⟨_, _, _, _, _, _, e, _⟩
    · exact .inl ⟨rfl, rfl⟩
    · cases e
  | cons p r ih =>
    intro kv h
    rcases krs_cases h with ⟨_, e⟩ | ⟨j, v, d, kv', kd', rfl, e, a, t⟩
    · cases e
    · cases e
      by_cases c : j = k
      · subst c
        exact .inr ⟨d, v, by simp [getS], by rw [valV_pos rfl], a⟩
      · have e1 : getS ((j, d) :: r) k = getS r k := by simp [getS, List.find?_cons, c]
        have e2 : valV ((Sum.inr j, v) :: kv') (Sum.inr k : Key) = valV kv' (Sum.inr k) := valV_neg (fun z => c (Sum.inr.inj z))
        rw [e1, e2]
        exact ih kv' t
theorem krs_any (k : Str) : ∀ (kd : List (Str × D)) (kv : List (Key × V)), KRs K H ad kv kd → (kv.any fun p => decide (p.1 = (Sum.inr k : Key))) = kd.any fun p => decide (p.1 = k) := by
  intro kd
  induction kd with
  | nil =>
    intro kv h
    rcases krs_cases h with ⟨rfl, _⟩ | ⟨_, _, _, _, _, _, e, _⟩
    · rfl
    · cases e
  | cons p r ih =>
    intro kv h
    rcases krs_cases h with ⟨_, e⟩ | ⟨j, v, d, kv', kd', rfl, e, a, t⟩
    · cases e
    · cases e
      rw [List.any_cons, List.any_cons, ih kv' t]
      congr 1
      by_cases c : j = k
      · subst c; simp
      · simp [c]
theorem krs_map {k : Str} {v : V} {d : D} (a : Rp K H ad v d) : ∀ (kd : List (Str × D)) (kv : List (Key × V)), KRs K H ad kv kd →
    KRs K H ad (kv.map fun p => if p.1 = (Sum.inr k : Key) then (p.1, v) else p) (kd.map fun p => if p.1 = k then (p.1, d) else p) := by
  intro kd
  induction kd with
  | nil =>
    intro kv h
    rcases krs_cases h with ⟨rfl, _⟩ | ⟨_, _, _, _, _, _, e, _⟩
    · exact h
    · cases e
  | cons p r ih =>
    intro kv h
    rcases krs_cases h with ⟨_, e⟩ | ⟨j, w, e, kv', kd', rfl, eq, b, t⟩
    · cases e
    · cases eq
      obtain ⟨t1, t2⟩ := ih kv' t
      by_cases c : j = k
      · subst c
        simp only [List.map_cons, if_true]
        exact ⟨by simp only [List.map_cons, t1], .cons a t2⟩
      · have c' : ¬ (Sum.inr j : Key) = Sum.inr k := fun z => c (Sum.inr.inj z)
        simp only [List.map_cons, if_neg c, if_neg c']
        exact ⟨by simp only [List.map_cons, t1], .cons b t2⟩
theorem krs_put {kv : List (Key × V)} {kd : List (Str × D)} (h : KRs K H ad kv kd) {k : Str} {v : V} {d : D} (a : Rp K H ad v d) : KRs K H ad (putK kv (Sum.inr k : Key) v) (putS kd k d) := by
  unfold putK putS
  rw [krs_any k kd kv h]
  split
  · exact krs_map a kd kv h
  · exact ⟨by simp [h.1], by rw [List.map_append, List.map_append]; exact h.2.app (.cons a .nil)⟩
theorem KRs.length {kv : List (Key × V)} {kd : List (Str × D)} (h : KRs K H ad kv kd) : kv.length = kd.length := by
  have := congrArg List.length h.1
  simpa using this
def dkAt (μ : Mu) (n : Nat) : Option (List (Str × D)) := match μ[n]? with
  | some (.dk kd) => some kd
  | _ => none
theorem dkAt_ok (m : MuOk K H ad μ) {n : Nat} {a : Addr} {kd : List (Str × D)} (e : ad.ad[n]? = some a) (h : dkAt μ n = some kd) : ∃ kv, H a = some (.dK kv) ∧ KRs K H ad kv kd := by
  unfold dkAt at h
  cases k : μ[n]? with
  | none => rw [k] at h; cases h
  | some o =>
    rw [k] at h
    cases o with
    | dk kd' => cases h; exact m.so n a _ e k
    | ml es => cases h
    | dd _ _ _ => cases h
end
/-! ### 13b. dicts of any keys -/
def kOf : D → Option Key
  | .int i => some (.inl i)
  | .str x => some (.inr x)
  | _ => none
def kOfs : List D → Option (List Key)
  | [] => some []
  | d :: ds => (kOf d).bind fun k => (kOfs ds).map fun ks => k :: ks
def ktOf : D → Option (List Key)
  | .tup ds => kOfs ds
  | _ => none
/-- k is a key of the kind t -/
def keyB (t : Bool) (k : D) : Bool := if t then (ktOf k).isSome else (kOf k).isSome
def sameB (t : Bool) (k j : D) : Bool := if t then decide (ktOf k = ktOf j) else decide (kOf k = kOf j)
def lookD (p : D → Bool) : List D → List D → Option D
  | k :: ks, d :: ds => if p k then some d else lookD p ks ds
  | _, _ => none
def setAt (p : D → Bool) (d : D) : List D → List D → List D
  | k :: ks, x :: ds => (if p k then d else x) :: setAt p d ks ds
  | _, _ => []
def putKs (p : D → Bool) (k : D) (ks : List D) : List D := if ks.any p then ks else ks ++ [k]
def putVs (p : D → Bool) (d : D) (ks ds : List D) : List D := if ks.any p then setAt p d ks ds else ds ++ [d]
theorem kOf_kD (k : Key) : kOf (kD k) = some k := by cases k <;> rfl
theorem kOf_eq {d : D} {k : Key} (h : kOf d = some k) : d = kD k := by
  cases d <;> cases h <;> rfl
theorem kOfs_kD : ∀ k : List Key, kOfs (k.map kD) = some k
  | [] => rfl
  | k :: ks => by show (kOf (kD k)).bind _ = _; rw [kOf_kD, kOfs_kD ks]; rfl
theorem kOfs_eq : ∀ {ds : List D} {k : List Key}, kOfs ds = some k → ds = k.map kD
  | [], k, h => by cases h; rfl
  | d :: ds, k, h => by
    obtain ⟨a, h1, h2⟩ := Option.bind_eq_some_iff.mp h
    obtain ⟨b, h3, h4⟩ := Option.map_eq_some_iff.mp h2
    subst h4
    rw [kOf_eq h1, kOfs_eq h3]
    rfl
theorem ktOf_ktD (k : List Key) : ktOf (ktD k) = some k := kOfs_kD k
theorem ktOf_eq {d : D} {k : List Key} (h : ktOf d = some k) : d = ktD k := by
  cases d with
  | tup ds => rw [kOfs_eq h]; rfl
  | _ => cases h
section
variable {K : PySem.W.Frag} {H : Hp} {ad : Pl}
theorem rp_kD {k : Key} {y : V} (r : Rp K H ad y (kD k)) : y = kV k := by
  cases k with
  | inl i => cases r; rfl
  | inr x => cases r; rfl
theorem rps_kD : ∀ {k : List Key} {ys : List V}, Rps K H ad ys (k.map kD) → ys = k.map kV
  | [], _, h => by cases h; rfl
  | k :: ks, _, h => by
    cases h with
    | cons a r => rw [rp_kD a, rps_kD r]; rfl
theorem rp_ktD {k : List Key} {y : V} (r : Rp K H ad y (ktD k)) : ∃ b, y = .ref b ∧ H b = some (.tup (k.map kV)) := by
  cases r with
  | tup a r => rw [rps_kD r] at a; exact ⟨_, rfl, a.2⟩
section
variable {κ : Type} [DecidableEq κ] (f : κ → D) (g : D → Option κ) (gf : ∀ x, g (f x) = some x) (k : κ)
include gf
theorem same_kv (x : κ) : decide (g (f k) = g (f x)) = decide (x = k) := by
  rw [gf, gf, Bool.eq_iff_iff, decide_eq_true_eq, decide_eq_true_eq]
  exact ⟨fun h => (Option.some.inj h).symm, fun h => by rw [h]⟩
theorem any_kv (kv : List (κ × V)) : (kv.map fun p => f p.1).any (fun j => decide (g (f k) = g j)) = kv.any fun p => decide (p.1 = k) := by
  rw [List.any_map]
  congr 1
  funext p
  exact same_kv f g gf k p.1
theorem look_kv : ∀ (kv : List (κ × V)) (ds : List D), Rps K H ad (kv.map (·.2)) ds →
    (valV kv k = none ∧ lookD (fun j => decide (g (f k) = g j)) (kv.map fun p => f p.1) ds = none) ∨ ∃ v d, valV kv k = some v ∧ lookD (fun j => decide (g (f k) = g j)) (kv.map fun p => f p.1) ds = some d ∧ Rp K H ad v d
  | [], _, _ => .inl ⟨rfl, rfl⟩
  | p :: kv, ds, r => by
    cases r with
    | @cons v vs d ds a r =>
      show (_ ∧ (if decide (g (f k) = g (f p.1)) then some d else lookD _ _ ds) = none) ∨ ∃ v d', _ ∧ (if decide (g (f k) = g (f p.1)) then some d else lookD _ _ ds) = some d' ∧ _
      rw [same_kv f g gf k p.1]
      by_cases c : p.1 = k
      · rw [valV_pos c, if_pos (by simpa using c)]
        exact .inr ⟨_, _, rfl, rfl, a⟩
      · rw [valV_neg c, if_neg (by simpa using c)]
        exact look_kv kv ds r
theorem set_kv {v : V} {d : D} (a : Rp K H ad v d) : ∀ (kv : List (κ × V)) (ds : List D), Rps K H ad (kv.map (·.2)) ds →
    Rps K H ad ((kv.map fun p => if p.1 = k then (p.1, v) else p).map (·.2)) (setAt (fun j => decide (g (f k) = g j)) d (kv.map fun p => f p.1) ds)
  | [], _, r => by cases r; exact .nil
  | p :: kv, ds, r => by
    cases r with
    | @cons w vs e ds b r =>
      show Rps K H ad (_ :: _) ((if decide (g (f k) = g (f p.1)) then d else e) :: _)
      rw [same_kv f g gf k p.1]
      refine .cons ?_ (set_kv a kv ds r)
      by_cases c : p.1 = k
      · rw [if_pos (by simpa using c)]
        simp only [if_pos c]
        exact a
      · rw [if_neg (by simpa using c)]
        simp only [if_neg c]
        exact b
theorem put_kv {v : V} {d : D} (a : Rp K H ad v d) (kv : List (κ × V)) (ds : List D) (r : Rps K H ad (kv.map (·.2)) ds) :
    (putK kv k v).map (fun p => f p.1) = putKs (fun j => decide (g (f k) = g j)) (f k) (kv.map fun p => f p.1) ∧
    Rps K H ad ((putK kv k v).map (·.2)) (putVs (fun j => decide (g (f k) = g j)) d (kv.map fun p => f p.1) ds) := by
  unfold putK putKs putVs
  rw [any_kv f g gf k kv]
  by_cases c : (kv.any fun p => decide (p.1 = k)) = true
  · rw [if_pos c, if_pos c, if_pos c]
    refine ⟨?_, set_kv f g gf k a kv ds r⟩
    rw [List.map_map]
    refine List.map_congr_left fun p _ => ?_
    show f (if p.1 = k then (p.1, v) else p).1 = f p.1
    split <;> rfl
  · rw [if_neg c, if_neg c, if_neg c]
    exact ⟨by simp, by rw [List.map_append]; exact r.app (.cons a .nil)⟩
end
theorem rd_some {a : Addr} {o : HO} (h : H a = some o) : Rd H a o := .inl h
/-- what the dict holds at the key -/
theorem dk_get {t : Bool} {a : Addr} {ks ds : List D} {vs : List V} {k : D} {y : V} (h : DkAt t (Rd H a) ks vs) (r : Rps K H ad vs ds) (hk : keyB t k = true) (ry : Rp K H ad y k) :
    ∃ o, DGet H a y o ∧ ((o = none ∧ lookD (sameB t k) ks ds = none) ∨ ∃ v d, o = some v ∧ lookD (sameB t k) ks ds = some d ∧ Rp K H ad v d) := by
  cases t with
  | false =>
    obtain ⟨kv, h1, h2, h3⟩ := h
    subst h2 h3
    obtain ⟨kk, e⟩ := Option.isSome_iff_exists.mp (show (kOf k).isSome = true from hk)
    obtain rfl := kOf_eq e
    rw [rp_kD ry]
    exact ⟨_, .inl ⟨kv, kk, h1, rfl, rfl⟩, look_kv kD kOf kOf_kD kk kv ds r⟩
  | true =>
    obtain ⟨kv, h1, h2, h3⟩ := h
    subst h2 h3
    obtain ⟨kk, e⟩ := Option.isSome_iff_exists.mp (show (ktOf k).isSome = true from hk)
    obtain rfl := ktOf_eq e
    obtain ⟨b, rfl, hb⟩ := rp_ktD ry
    exact ⟨_, .inr ⟨kv, kk, b, h1, rfl, hb, rfl⟩, look_kv ktD ktOf ktOf_ktD kk kv ds r⟩
theorem dk_len {t : Bool} {R : HO → Prop} {ks : List D} {vs : List V} (h : DkAt t R ks vs) : ks.length = vs.length := by
  cases t with
  | false => obtain ⟨kv, h1, h2, h3⟩ := h; subst h2 h3; simp
  | true => obtain ⟨kv, h1, h2, h3⟩ := h; subst h2 h3; simp
/-- a[k] = v -/
theorem dk_put {t : Bool} {a : Addr} {ks ds : List D} {vs : List V} {k d : D} {y v : V} (h : DkAt t (fun o => H a = some o) ks vs) (r : Rps K H ad vs ds) (hk : keyB t k = true) (ry : Rp K H ad y k) (hl : ks.length < 1000000) :
    ∃ o, DPut H a y v (upd H a o) ∧ ∀ (H' : Hp) (ad' : Pl), Rps K H' ad' vs ds → Rp K H' ad' v d → H' a = some o → ∃ vs', DkAt t (fun o => H' a = some o) (putKs (sameB t k) k ks) vs' ∧ Rps K H' ad' vs' (putVs (sameB t k) d ks ds) := by
  cases t with
  | false =>
    obtain ⟨kv, h1, h2, h3⟩ := h
    subst h2 h3
    obtain ⟨kk, e⟩ := Option.isSome_iff_exists.mp (show (kOf k).isSome = true from hk)
    obtain rfl := kOf_eq e
    rw [rp_kD ry]
    refine ⟨_, DPut.k h1 (by rw [List.length_map] at hl; rw [sizeLine_eq]; omega), fun H' ad' r' rv e => ?_⟩
    obtain ⟨q1, q2⟩ := put_kv kD kOf kOf_kD kk rv kv ds r'
    exact ⟨_, ⟨_, e, q1, rfl⟩, q2⟩
  | true =>
    obtain ⟨kv, h1, h2, h3⟩ := h
    subst h2 h3
    obtain ⟨kk, e⟩ := Option.isSome_iff_exists.mp (show (ktOf k).isSome = true from hk)
    obtain rfl := ktOf_eq e
    obtain ⟨b, rfl, hb⟩ := rp_ktD ry
    refine ⟨_, DPut.t h1 hb (by rw [List.length_map] at hl; rw [sizeLine_eq]; omega), fun H' ad' r' rv e => ?_⟩
    obtain ⟨q1, q2⟩ := put_kv ktD ktOf ktOf_ktD kk rv kv ds r'
    exact ⟨_, ⟨_, e, q1, rfl⟩, q2⟩
/-- a dict: a standing one, one of the store; its kind, its keys, its values -/
def asC (μ : Mu) : D → Option (Bool × List D × List D)
  | .dic t ks ds => some (t, ks, ds)
  | .ref n => (match μ[n]? with
    | some (.dd t ks ds) => some (t, ks, ds)
    | some (.dk kd) => some (false, kd.map (fun p => .str p.1), kd.map (·.2))
    | _ => none)
  | _ => none
theorem asC_ok {μ : Mu} (m : MuOk K H ad μ) {x : V} {d : D} {t : Bool} {ks ds : List D} (r : Rp K H ad x d) (h : asC μ d = some (t, ks, ds)) : ∃ a vs, x = .ref a ∧ DkAt t (Rd H a) ks vs ∧ Rps K H ad vs ds := by
  cases d with
  | dic t' ks' ds' =>
    cases h
    cases r with
    | dic a p => exact ⟨_, _, rfl, a.2, p⟩
  | ref n =>
    cases r with
    | ref e =>
      have h : (match μ[n]? with
        | some (.dd t ks ds) => some (t, ks, ds)
        | some (.dk kd) => some (false, kd.map (fun p => D.str p.1), kd.map (·.2))
        | _ => none) = some (t, ks, ds) := h
      cases k : μ[n]? with
      | none => rw [k] at h; cases h
      | some o =>
        rw [k] at h
        cases o with
        | dk kd =>
          cases h
          obtain ⟨kv, h1, h2, h3⟩ := m.so n _ _ e k
          refine ⟨_, kv.map (·.2), rfl, ⟨kv, rd_some h1, ?_, rfl⟩, h3⟩
          have q := congrArg (List.map kD) h2
          rw [List.map_map, List.map_map] at q
          exact q
        | dd t' ks' ds' =>
          cases h
          obtain ⟨vs, h1, h2⟩ := m.so n _ _ e k
          exact ⟨_, vs, rfl, h1.imp fun o q => rd_some q, h2⟩
        | ml es => cases h
  | _ => cases h
end
/-! ### 14. subscripts -/
def dicIx (d e : D) : M D := fun μ => match asC μ d with
  | some (t, ks, ds) => if keyB t e = true then lft (lookD (sameB t e) ks ds) μ else .no
  | none => .no
def ixD (d e : D) : M D := fun μ => match d, e with
  | .tup xs, .int i => lft (atI xs i) μ
  | .ref n, .str k => (match dkAt μ n with
    | some kd => lft (getS kd k) μ
    | none => dicIx (.ref n) (.str k) μ)
  | d, .int i => (match asL μ d with
    | some xs => lft (atI xs i) μ
    | none => dicIx d (.int i) μ)
  | d, e => dicIx d e μ
section
variable {X : Cx}
def rDG : R2 := fun x y H Q => ∃ a v, x = .ref a ∧ DGet H a y (some v) ∧ Q v H
theorem ix_dict (hu : X.A.units + 1 < cLine) : IxR X rDG := by
  intro value slice pins s σ H x y v u Q I rx ry ⟨a, z, ex, g, q⟩ hs
  subst ex
  obtain rfl : v = Value.ref a := rx
  have hT := dict_typeIs I g
  unfold subscriptTail
  refine wpAny_bind ?_
  rw [getitemInPython_of_ne hT.not_modules]
  refine wpAny_bind (wpAny_specialOf hT PySem.F.slot_dict_getitem.lookup ?_)
  have body : wpAny (model X.prog X.w) X.A (subscripted slice false (.ref a) u) (fun r s₃ => wpAny (model X.prog X.w) X.A (letTemporaryGo value (.ref a) r >>= fun _ => pure r) (EP X pins σ Q) X.xe s₃) X.xe s := by
    rw [hs]
    exact wpAny_operating (d_getItem hu I g ry fun w' s3 I3 rw' => wpAny_bind (wpAny_letTemporaryGo (wpAny_pure ⟨z, H, I3, rw', q⟩)))
  first
    | exact wpAny_bind body
    | exact wpAny_pure (wpAny_bind body)
    | exact wpAny_bind (wpAny_pure (wpAny_bind body))
def rIxX (K : PySem.W.Frag) : R2 := fun x y H Q => rIxL K x y H Q ∨ rIxT K x y H Q ∨ rDG x y H Q
theorem ix_X (hu : X.A.units + 1 < cLine) : IxR X (rIxX X.K) := IxR.or ix_list (IxR.or ix_tup (ix_dict hu))
theorem at_rps {K : PySem.W.Frag} {H : Hp} {ad : Pl} {vs : List V} {ds : List D} {i : Int} {d : D} (r : Rps K H ad vs ds) (h : atI ds i = some d) : ∃ v, atI vs i = some v ∧ Rp K H ad v d := by
  unfold atI at h ⊢
  rw [r.length]
  obtain ⟨j, e, h⟩ := Option.bind_eq_some_iff.mp h
  obtain ⟨v, h1, h2⟩ := r.get h
  exact ⟨v, Option.bind_eq_some_iff.mpr ⟨j, e, h1⟩, h2⟩
theorem v_ix : V2 Z (rIxX Z.K) ixD := by
  intro x y d e H ad μ Q m rx ry h0
  have genC : Sat (dicIx d e μ) (KE Z H ad Q) (XW Z H ad) → rIxX Z.K x y H Q := fun h => by
    clear h0
    unfold dicIx at h
    cases hc : asC μ d with
    | none => rw [hc] at h; exact h.elim
    | some p =>
      obtain ⟨t, ks, ds⟩ := p
      rw [hc] at h
      have h : Sat (if keyB t e = true then lft (lookD (sameB t e) ks ds) μ else .no) (KE Z H ad Q) (XW Z H ad) := h
      by_cases c : keyB t e = true
      · rw [if_pos c] at h
        obtain ⟨z, ez, q⟩ := sat_lft.mp h
        obtain ⟨a, vs, rfl, dk, p⟩ := asC_ok m rx hc
        obtain ⟨o, g, w⟩ := dk_get dk p c ry
        rcases w with ⟨_, w⟩ | ⟨v, d', rfl, w, rv⟩
        · rw [ez] at w; cases w
        · rw [ez] at w
          cases w
          exact .inr (.inr ⟨a, v, rfl, g, q v H ad (.refl m) rv⟩)
      · rw [if_neg c] at h
        exact h.elim
  have gen : ∀ i, e = .int i → Sat (match asL μ d with
    | some xs => lft (atI xs i) μ
    | none => dicIx d (.int i) μ) (KE Z H ad Q) (XW Z H ad) → rIxX Z.K x y H Q := fun i ei h => by
    cases k : asL μ d with
    | none => rw [k] at h; exact genC (ei ▸ h)
    | some xs =>
      rw [k] at h
      clear h0
      subst ei
      obtain rfl := rp_int ry
      obtain ⟨z, hz, q⟩ := sat_lft.mp h
      obtain ⟨a, vs, rfl, r1, p⟩ := asL_ok m rx k
      obtain ⟨v, hv, rv⟩ := at_rps p hz
      exact .inl ⟨a, vs, i, v, rfl, rfl, r1, hv, q v H ad (.refl m) rv⟩
  cases e with
  | int i =>
    cases d with
    | tup xs =>
      obtain rfl := rp_int ry
      obtain ⟨z, ez, q⟩ := sat_lft.mp (show Sat (lft (atI xs i) μ) (KE Z H ad Q) (XW Z H ad) from h0)
      cases rx with
      | @tup a vs _ ta p =>
        obtain ⟨v, hv, rv⟩ := at_rps p ez
        exact .inr (.inl ⟨a, vs, i, v, rfl, rfl, ta.sq, hv, q v H ad (.refl m) rv⟩)
    | _ => exact gen i rfl h0
  | str k =>
    cases d with
    | ref n =>
      have h0 : Sat (match dkAt μ n with
        | some kd => lft (getS kd k) μ
        | none => dicIx (.ref n) (.str k) μ) (KE Z H ad Q) (XW Z H ad) := h0
      cases hk : dkAt μ n with
      | none => rw [hk] at h0; exact genC h0
      | some kd =>
        rw [hk] at h0
        obtain rfl := rp_str ry
        obtain ⟨z, ez, q⟩ := sat_lft.mp h0
        cases rx with
        | @ref a _ ea =>
          obtain ⟨kv, hk, kr⟩ := dkAt_ok m ea hk
          rcases krs_get k kd kv kr with ⟨e1, _⟩ | ⟨d', v, e1, e2, rv⟩
          · rw [e1] at ez; cases ez
          · rw [e1] at ez
            cases ez
            refine .inr (.inr ⟨a, v, rfl, ?_, q v H ad (.refl m) rv⟩)
            have g := DGet.k (k := Sum.inr k) hk
            rw [e2] at g
            exact g
    | _ => exact genC h0
  | _ => cases d <;> exact genC h0
/-! ### 15. slices -/
def asI (d : D) : M Int := match d with
  | .int i => rt i
  | _ => stk
def cutD (xs : List D) (lo hi : Option Int) : List D := (xs.drop (HT.sIx xs.length 0 lo)).take (HT.sIx xs.length xs.length hi - HT.sIx xs.length 0 lo)
def slD (d : D) (lo hi : Option Int) : M D := fun μ => match d with
  | .tup xs => .ok (.tup (cutD xs lo hi)) μ
  | d => match asL μ d with
    | some xs => .ok (.lst (cutD xs lo hi)) μ
    | none => .no
theorem cut_rps {K : PySem.W.Frag} {H : Hp} {ad : Pl} {vs : List V} {ds : List D} (r : Rps K H ad vs ds) (lo hi : Option Int) : Rps K H ad (cutV vs lo hi) (cutD ds lo hi) := by
  unfold cutV cutD
  rw [r.length]
  exact (r.drop _).take _
theorem cut_whole {xs : List D} {lo hi : Option Int} (h : HT.sIx xs.length 0 lo = 0 ∧ HT.sIx xs.length xs.length hi = xs.length) : cutD xs lo hi = xs := by
  unfold cutD
  rw [h.1, h.2]
  simp
def rSlX (K : PySem.W.Frag) : V → Option Int → Option Int → Hp → VK → Prop := fun x lo hi H Q => rSlA K x lo hi H Q ∨ ∃ a xs, x = .ref a ∧ SqL K H a xs ∧ ∀ p, H p = none → Q (.ref p) (upd H p (.lst (cutV xs lo hi)))
theorem sl_X : SlR X (rSlX X.K) := SlR.or sl_tupA sl_list
theorem v_sl {x : V} {d : D} {lo hi : Option Int} {H : Hp} {ad : Pl} {μ : Mu} {Q : VK} (m : MuOk Z.K H ad μ) (rx : Rp Z.K H ad x d) (h0 : Sat (slD d lo hi μ) (KE Z H ad Q) (XW Z H ad)) : rSlX Z.K x lo hi H Q := by
  have gen : Sat (match asL μ d with
    | some xs => .ok (.lst (cutD xs lo hi)) μ
    | none => .no) (KE Z H ad Q) (XW Z H ad) → rSlX Z.K x lo hi H Q := fun h => by
    clear h0
    cases k : asL μ d with
    | none => rw [k] at h; exact h.elim
    | some xs =>
      rw [k] at h
      obtain ⟨a, vs, rfl, r1, p⟩ := asL_ok m rx k
      exact .inr ⟨a, vs, rfl, r1, fun q hq => h (.ref q) _ ad (m.new hq) (.newLst m hq (cut_rps p lo hi))⟩
  cases d with
  | tup xs =>
    have rx' := rx
    cases rx with
    | @tup a vs _ ta p =>
      refine .inl ⟨a, vs, rfl, ta.sq, fun w => ?_, fun _ q hq => h0 (.ref q) _ ad (m.new hq) (.newTup m hq (cut_rps p lo hi))⟩
      rw [p.length] at w
      refine h0 (.ref a) H ad (.refl m) ?_
      rw [cut_whole w]
      exact rx'
  | non => exact gen h0
  | bl _ => exact gen h0
  | int _ => exact gen h0
  | str _ => exact gen h0
  | lst _ => exact gen h0
  | dic _ _ _ => exact gen h0
  | ref _ => exact gen h0
  | ty _ => exact gen h0
  | obj _ _ _ => exact gen h0
def tO (Z : Wd) (m : Rho → M (Option Int)) : TO := fun σ H Q => ∃ ad ρ μ, Gd Z.K H ad σ ρ μ ∧ σ.length = Z.n ∧ Sat (m ρ μ) (fun o μ' => ∀ H' ad', Nx Z.K H ad H' ad' μ' → Q o H') (XW Z H ad)
theorem POi {e : Option Expr} {t t' : TO} (h : PO X e t) (w : ∀ σ H Q, t' σ H Q → t σ H Q) : PO X e t' := by
  obtain ⟨r⟩ := h
  exact ⟨fun pins s σ H Q I q => r pins s σ H Q I (w σ H Q q)⟩
theorem x_noPart : PO X none (tO Z fun _ => rt none) := POi po_none fun σ H Q ⟨ad, ρ, μ, g, hl, h⟩ => h H ad (.refl g.mu)
theorem x_part {e : Expr} {me : Rho → M D} (h : PE X e (tE Z me)) : PO X (some e) (tO Z fun ρ => bd (me ρ) fun d => bd (asI d) fun i => rt (some i)) :=
  POi (po_some h) fun σ H Q ⟨ad, ρ, μ, g, hl, h⟩ => step g hl h fun v d H1 ad1 μ1 n1 g1 r1 q1 => by
    cases d with
    | int i => exact ⟨i, rp_int r1, q1 H1 ad1 n1⟩
    | _ => exact q1.elim
theorem x_slice {a : Expr} {lo hi : Option Expr} {ma : Rho → M D} {ml mh : Rho → M (Option Int)} {p2 pos : Pos} (ha : PE X a (tE Z ma)) (hl : PO X lo (tO Z ml)) (hh : PO X hi (tO Z mh)) (hK : X.K = Z.K) :
    PE X (.Subscript a (.Slice lo hi none p2) pos) (tE Z fun ρ => bd (ma ρ) fun x => bd (ml ρ) fun l => bd (mh ρ) fun u => slD x l u) :=
  PEi (pe_slice sl_X ha hl hh) fun σ H Q ⟨ad, ρ, μ, g, hn, h⟩ => step g hn h fun v d H1 ad1 μ1 n1 g1 r1 q1 => by
    refine ⟨ad1, ρ, μ1, g1, hn, (sat_bd.mp q1).imp fun l μ2 q2 H2 ad2 n2 => ?_⟩
    refine ⟨ad2, ρ, μ2, g1.nx n2, hn, ((sat_bd.mp q2).imp fun u μ3 q3 H3 ad3 n3 => ?_).mono (fun _ _ z => z) fun _ _ z => z.nx n2⟩
    rw [hK]
    exact v_sl n3.mu (Rp.grow (n2.trans n3).gr d v r1) (q3.mono (fun _ _ z => z.nx ((n1.trans n2).trans n3)) fun _ _ z => z.nx (n2.trans n3))
end
end PX
namespace PX
open PySem PySem.Spec PyProof.Rows L2
variable [Tabc]
variable {Z : Wd}
/-! ### 16. defs: what a call is worth -/
structure FnG (P : Program) (w : World) (K : PySem.W.Frag) (mg : Str → Option Value) (base : Heap) (k : Nat) (f : Addr) (fd : FuncData) (ps : List Str) (sp : Sp) : Prop where
  len : ∀ vs H Q E, sp vs H Q E → vs.length = ps.length
  run : ∀ (A : Around) (outer : List Env) (s : Shared) (H : Hp) (args : Args) (us : List Value) (vs : List V) (Q : VK) (E : XK), Room k A → A.guards = some [] → Env0 P w K mg base A outer s H →
    BindsTo s fd args (ps.zip us) → Vals vs us → sp vs H Q E → codeAny (model P w) A (.call (.ref f) args) (CR (L2.CX P w) outer P w H s Q E) s
/-- the promise of a def that reckons F -/
def XF (mg : Str → Option Value) (K : PySem.W.Frag) (H : Hp) (ad : Pl) (E : XK) : Xn → Mu → Prop := fun x μ' => ∀ cls dd H' ad', Nx K H ad H' ad' μ' → Xp mg K H' ad' x cls dd → E cls dd H'
def KF (K : PySem.W.Frag) (H : Hp) (ad : Pl) (Q : VK) : D → Mu → Prop := fun d μ' => ∀ v H' ad', Nx K H ad H' ad' μ' → Rp K H' ad' v d → Q v H'
def spF (mg : Str → Option Value) (K : PySem.W.Frag) (n : Nat) (F : List D → M D) : Sp := fun vs H Q E => ∃ ad μ ds, MuOk K H ad μ ∧ Rps K H ad vs ds ∧ ds.length = n ∧ Sat (F ds μ) (KF K H ad Q) (XF mg K H ad E)
/-- the arguments in the parameters' order -/
def pick {α : Type} (pm : List Nat) (l : List α) : List α := pm.filterMap fun i => l[i]?
theorem pick_rps {K : PySem.W.Frag} {H : Hp} {ad : Pl} {vs : List V} {ds : List D} (r : Rps K H ad vs ds) : ∀ pm : List Nat, Rps K H ad (pick pm vs) (pick pm ds)
  | [] => .nil
  | i :: pm => by
    have ih := pick_rps r pm
    unfold pick at ih ⊢
    cases e : ds[i]? with
    | none =>
      have e2 : vs[i]? = none := by
        rw [List.getElem?_eq_none_iff] at e ⊢
        rw [r.length]
        exact e
      rw [List.filterMap_cons, List.filterMap_cons, e, e2]
      exact ih
    | some d =>
      obtain ⟨v, e2, q⟩ := r.get e
      rw [List.filterMap_cons, List.filterMap_cons, e, e2]
      exact .cons q ih
theorem pick_vals {vs : List V} {us : List Value} (r : Vals vs us) : ∀ pm : List Nat, Vals (pick pm vs) (pick pm us)
  | [] => .nil
  | i :: pm => by
    have ih := pick_vals r pm
    unfold pick at ih ⊢
    cases e : vs[i]? with
    | none =>
      rw [List.filterMap_cons, List.filterMap_cons, e, r.none_of e]
      exact ih
    | some d =>
      obtain ⟨v, e2, q⟩ := r.get e
      rw [List.filterMap_cons, List.filterMap_cons, e, e2]
      exact .cons q ih
/-- a form of call: so many by place, these by name; how the parameters take them -/
structure Shape where
  np : Nat
  ks : List Str
  pm : List Nat
def BindOk (K : PySem.W.Frag) (fd : FuncData) (ps : List Str) (S : Shape) : Prop := ∀ (s : Shared) (us ws : List Value), K.In s.heap → us.length = S.np → ws.length = S.ks.length → BindsTo s fd ⟨us, S.ks.zip ws⟩ (ps.zip (pick S.pm (us ++ ws)))
section
variable {X : Cx} {k : Nat} {f : Addr} {fd : FuncData} {ps : List Str} {F : List D → M D} {x : Str} {p pos : Pos} {e : Expr} {es : List Expr} {kws : List Keyword} {ms mk : List (Rho → M D)} {S : Shape}
theorem x_kwnil : PK X [] (tA Z (evA [])) := ⟨fun pos pins s σ H Q I h => pk_nil.run pos pins s σ H Q I (let ⟨ad, ρ, μ, g, hl, q⟩ := h; q [] H ad (.refl g.mu) .nil)⟩
theorem x_kwcons {nm : Option Str} {kpos : Pos} {me : Rho → M D} (ha : PE X e (tE Z me)) (hr : PK X kws (tA Z (evA mk))) : PK X (⟨nm, e, kpos⟩ :: kws) (tA Z (evA (me :: mk))) :=
  ⟨fun pos pins s σ H Q I h => (pk_cons ha hr).run pos pins s σ H Q I (by
    obtain ⟨ad, ρ, μ, g, hl, h⟩ := h
    exact step g hl h fun v d H1 ad1 μ1 n1 g1 r1 q1 => stepA g1 hl q1 fun vs ds H2 ad2 μ2 n2 g2 r2 q2 => q2 (v :: vs) H2 ad2 (n1.trans n2) (.cons (Rp.grow n2.gr d v r1) r2))⟩
/-- the callee runs -/
theorem run_G {pins : List (Addr × Obj)} {σ : L2.St} {H : Hp} {s : Shared} {Q : VK} {us ws : List Value} {vs zs : List V} {ds es : List D} {ad : Pl} {μ : Mu} (Fn : FnG X.prog X.w X.K X.mg X.base k f fd ps (spF X.mg X.K ps.length F))
    (hr : Room k X.A) (hgd : X.A.guards = some []) (hb : BindOk X.K fd ps S) (tk : Takes X Z.W) (hK : Z.K = X.K) (hmg : Z.mg = X.mg) (hl : σ.length = Z.n) (I : Inv X pins σ H s) (r : Vals vs us) (rz : Vals zs ws) (m : MuOk Z.K H ad μ)
    (rp : Rps Z.K H ad vs ds) (rq : Rps Z.K H ad zs es) (l1 : us.length = S.np) (l2 : ws.length = S.ks.length) (l3 : (pick S.pm (ds ++ es)).length = ps.length) (h : Sat (F (pick S.pm (ds ++ es)) μ) (KE Z H ad Q) (XW Z H ad)) :
    wpAny (model X.prog X.w) X.A (call (.ref f) us (S.ks.zip ws)) (EP X pins σ Q) X.xe s := by
  have go : spF X.mg X.K ps.length F (pick S.pm (vs ++ zs)) H Q (WE Z.W σ) := by
    refine ⟨ad, μ, _, hK ▸ m, hK ▸ pick_rps (rp.app rq) S.pm, l3, h.mono (fun d μ' q v H' ad' n r => ?_) fun y μ' q cls dd H' ad' n xp => ?_⟩
    · rw [← hK] at n r
      exact q v H' ad' n r
    · rw [← hK] at n xp
      rw [← hmg] at xp
      exact q cls dd σ H' ad' hl n xp
  refine wpAny_call (codeAny_mono (Fn.run X.A X.stack s H ⟨us, S.ks.zip ws⟩ _ _ Q (WE Z.W σ) hr hgd I.env0 (hb s us ws I.kIn l1 l2) (pick_vals (r.append rz) S.pm) go) fun r s' hq => ?_)
  cases r with
  | error e => exact passAt tk σ pins H s e s' I hq
  | ok fl =>
    cases fl with
    | ret u => exact I.after hq
    | next => exact False.elim hq
    | brk => exact False.elim hq
    | cont => exact False.elim hq
def callM (F : List D → M D) (S : Shape) (n : Nat) (ds es : List D) : M D := if ds.length = S.np ∧ es.length = S.ks.length ∧ (pick S.pm (ds ++ es)).length = n then F (pick S.pm (ds ++ es)) else stk
theorem callM_ok {ds es : List D} {n : Nat} {μ : Mu} {L : D → Mu → Prop} {E : Xn → Mu → Prop} (h : Sat (callM F S n ds es μ) L E) : (ds.length = S.np ∧ es.length = S.ks.length ∧ (pick S.pm (ds ++ es)).length = n) ∧ Sat (F (pick S.pm (ds ++ es)) μ) L E := by
  unfold callM at h
  by_cases c : ds.length = S.np ∧ es.length = S.ks.length ∧ (pick S.pm (ds ++ es)).length = n
  · rw [if_pos c] at h
    exact ⟨c, h⟩
  · rw [if_neg c] at h
    exact h.elim
theorem x_call (Fn : FnG X.prog X.w X.K X.mg X.base k f fd ps (spF X.mg X.K ps.length F)) (hr : Room k X.A) (hgd : X.A.guards = some []) (hb : BindOk X.K fd ps S) (tk : Takes X Z.W) (hK : Z.K = X.K) (hmg : Z.mg = X.mg)
    (hg : Gl X x) (hm : X.mg x = some (.ref f)) (hk : PySem.W.keepIn X.K (.ref f) = true) (ha : PA X (e :: es) (tA Z (evA ms))) (hkw : PK X kws (tA Z (evA mk))) (hall : (backToKw pos (keywordEach kws X.env)).all (·.1.isSome) = true)
    (hks : (backToKw pos (keywordEach kws X.env)).filterMap (·.1) = S.ks) (hdb : (x == ("__debug__" : Str)) = false) (he : starEach (e :: es) X.env = (false, eval e X.env) :: starEach es X.env)
    (hpl : ((backTo pos (starEach (e :: es) X.env)).any (·.1) || (backToKw pos (keywordEach kws X.env)).any (·.1.isNone)) = false) :
    PE X (.Call (.Name x p) (e :: es) kws pos) (tE Z fun ρ => bd (evA ms ρ) fun ds => bd (evA mk ρ) fun zs => callM F S ps.length ds zs) := by
  refine ⟨fun pins s σ H Q I ⟨ad, ρ, μ, g, hl, h⟩ => ?_⟩
  refine wpAny_Call_Name_kw (ld_glob I hg hm ?_ hdb)
  have first : tA Z (evA ms) σ H fun vs H1 => ∃ ad1 μ1, Nx Z.K H ad H1 ad1 μ1 ∧ Gd Z.K H1 ad1 σ ρ μ1 ∧ ∃ ds, Rps Z.K H1 ad1 vs ds ∧ Sat (bd (evA mk ρ) (fun zs => callM F S ps.length ds zs) μ1) (KE Z H ad Q) (XW Z H1 ad1) :=
    stepA g hl h fun vs ds H1 ad1 μ1 n1 g1 r1 q1 => ⟨ad1, μ1, n1, g1, ds, r1, q1⟩
  refine PySem.W.callWith_KW (h₀ := X.base) I.ok.mod.kin hk hall (thn (ha.run pos pins s σ H _ I first) fun us s1 ⟨vs, H1, I1, rv, ad1, μ1, n1, g1, ds, r1, q1⟩ => ?_) hpl he
  have second : tA Z (evA mk) σ H1 fun zs H2 => ∃ ad2 μ2, Nx Z.K H1 ad1 H2 ad2 μ2 ∧ ∃ es', Rps Z.K H2 ad2 zs es' ∧ Sat (callM F S ps.length ds es' μ2) (KE Z H ad Q) (XW Z H2 ad2) :=
    stepA g1 hl q1 fun zs es' H2 ad2 μ2 n2 g2 r2 q2 => ⟨ad2, μ2, n2, es', r2, q2⟩
  refine thn (hkw.run pos pins s1 σ H1 _ I1 second) fun ws s2 ⟨zs, H2, I2, rz, ad2, μ2, n2, es', r2, q2⟩ => ⟨I2.kIn, ?_⟩
  rw [hks]
  obtain ⟨⟨c1, c2, c3⟩, q3⟩ := callM_ok q2
  refine run_G (F := F) Fn hr hgd hb tk hK hmg hl I2 rv rz n2.mu (Rps.grow n2.gr _ _ r1) r2 ?_ ?_ c3 (q3.imp fun _ _ z => z.nx (n1.trans n2))
  · show us.length = S.np
    rw [← rv.length, r1.length, c1]
  · rw [← rz.length, r2.length, c2]
theorem x_call0 (Fn : FnG X.prog X.w X.K X.mg X.base k f fd ps (spF X.mg X.K ps.length F)) (hr : Room k X.A) (hgd : X.A.guards = some []) (hb : BindOk X.K fd ps S) (tk : Takes X Z.W) (hK : Z.K = X.K) (hmg : Z.mg = X.mg)
    (hg : Gl X x) (hm : X.mg x = some (.ref f)) (hk : PySem.W.keepIn X.K (.ref f) = true) (hkw : PK X kws (tA Z (evA mk))) (hall : (backToKw pos (keywordEach kws X.env)).all (·.1.isSome) = true)
    (hks : (backToKw pos (keywordEach kws X.env)).filterMap (·.1) = S.ks) (hdb : (x == ("__debug__" : Str)) = false)
    (hpl : ((backTo pos (starEach [] X.env)).any (·.1) || (backToKw pos (keywordEach kws X.env)).any (·.1.isNone)) = false) :
    PE X (.Call (.Name x p) [] kws pos) (tE Z fun ρ => bd (evA [] ρ) fun ds => bd (evA mk ρ) fun zs => callM F S ps.length ds zs) := by
  refine ⟨fun pins s σ H Q I ⟨ad, ρ, μ, g, hl, h⟩ => ?_⟩
  refine wpAny_Call_Name_kw (ld_glob I hg hm ?_ hdb)
  have second : tA Z (evA mk) σ H fun zs H2 => ∃ ad2 μ2, Nx Z.K H ad H2 ad2 μ2 ∧ ∃ es', Rps Z.K H2 ad2 zs es' ∧ Sat (callM F S ps.length [] es' μ2) (KE Z H ad Q) (XW Z H2 ad2) :=
    stepA g hl h fun zs es' H2 ad2 μ2 n2 g2 r2 q2 => ⟨ad2, μ2, n2, es', r2, q2⟩
  refine PySem.W.callWith_KW0 (h₀ := X.base) I.ok.mod.kin hk hall (thn (hkw.run pos pins s σ H _ I second) fun ws s2 ⟨zs, H2, I2, rz, ad2, μ2, n2, es', r2, q2⟩ => ⟨I2.kIn, ?_⟩) hpl
  rw [hks]
  obtain ⟨⟨c1, c2, c3⟩, q3⟩ := callM_ok q2
  refine run_G (F := F) Fn hr hgd hb tk hK hmg hl I2 .nil rz n2.mu .nil r2 c1 ?_ c3 (q3.imp fun _ _ z => z.nx n2)
  rw [← rz.length, r2.length, c2]
end
/-! ### 17. statements -/
def seqS (m : M Fl) (k : Rho → M Fl) : M Fl := bd m fun f => match f with
  | .nx ρ => k ρ
  | f => rt f
section
variable {X : Cx} {st : Stmt} {rest : List Stmt} {m m2 : Rho → M Fl} {me : Rho → M D} {e : Expr} {pos : Pos} {tm : Rho → M Bool}
theorem s_nil : PSs X [] (tS Z fun ρ => rt (.nx ρ)) := PSsi pss_nil fun D σ H ⟨ad, ρ, μ, g, hl, h⟩ => h σ H ad (.refl g.mu) g hl
theorem s_cons (h1 : PS X st (tS Z m)) (h2 : PSs X rest (tS Z m2)) : PSs X (st :: rest) (tS Z fun ρ => seqS (m ρ) m2) :=
  PSsi (pss_cons h1 h2) fun D σ H ⟨ad, ρ, μ, g, hl, h⟩ => ⟨ad, ρ, μ, g, hl, (sat_bd.mp h).imp fun f μ1 q => by
    cases f with
    | nx ρ1 => exact fun σ' H' ad' n g' l' => ⟨ad', ρ1, μ1, g', l', q.mono (fun _ _ z => z.nx n) fun _ _ z => z.nx n⟩
    | rt d => exact q
    | bk ρ1 => exact q
    | ct ρ1 => exact q⟩
theorem s_pass : PS X (.Pass pos) (tS Z fun ρ => rt (.nx ρ)) := PSi ps_pass fun D σ H ⟨ad, ρ, μ, g, hl, h⟩ => h σ H ad (.refl g.mu) g hl
theorem s_break : PS X (.Break pos) (tS Z fun ρ => rt (.bk ρ)) := PSi ps_break fun D σ H ⟨ad, ρ, μ, g, hl, h⟩ => h σ H ad (.refl g.mu) g hl
theorem s_cont : PS X (.Continue pos) (tS Z fun ρ => rt (.ct ρ)) := PSi ps_continue fun D σ H ⟨ad, ρ, μ, g, hl, h⟩ => h σ H ad (.refl g.mu) g hl
theorem s_ret (he : PE X e (tE Z me)) : PS X (.Return (some e) pos) (tS Z fun ρ => bd (me ρ) fun d => rt (.rt d)) :=
  PSi (ps_ret he) fun D σ H ⟨ad, ρ, μ, g, hl, h⟩ => step g hl h fun v d H1 ad1 μ1 n1 g1 r1 q1 => q1 v H1 ad1 n1 r1
theorem s_retN : PS X (.Return none pos) (tS Z fun _ => rt (.rt .non)) := PSi ps_retN fun D σ H ⟨ad, ρ, μ, g, hl, h⟩ => h .non H ad (.refl g.mu) .non
theorem s_expr (he : PE X e (tE Z me)) (hs : swapsWith e none pos.line X.env = pure false) : PS X (.Expr e pos) (tS Z fun ρ => bd (me ρ) fun _ => rt (.nx ρ)) :=
  PSi (ps_expr he hs) fun D σ H ⟨ad, ρ, μ, g, hl, h⟩ => step g hl h fun v d H1 ad1 μ1 n1 g1 r1 q1 => q1 σ H1 ad1 n1 g1 hl
theorem s_if {c : Expr} {a b : List Stmt} (hc : PT X c (tT Z tm)) (ha : PSs X a (tS Z m)) (hb : PSs X b (tS Z m2)) : PS X (.If c a b pos) (tS Z fun ρ => ifB (tm ρ) (m ρ) (m2 ρ)) :=
  PSi (ps_if hc ha hb) fun D σ H ⟨ad, ρ, μ, g, hl, h⟩ => stepT g hl h fun b H1 ad1 μ1 n1 g1 q1 => by
    cases b with
    | true => exact iteT ⟨ad1, ρ, μ1, g1, hl, q1.imp fun _ _ z => z.nx n1⟩
    | false => exact iteF ⟨ad1, ρ, μ1, g1, hl, q1.imp fun _ _ z => z.nx n1⟩
theorem s_set {i : Nat} {x : Str} {pos' : Pos} (hN : X.N.Nodup) (hi : X.N[i]? = some x) (hx : Loc X.env.scope x) (he : PE X e (tE Z me)) (hs : swapsWith e (some (.Name x pos')) pos.line X.env = pure false) (hf : X.fn x = true ∨ X.env.scope.names.lookup x = some .local) :
    PS X (.Assign [.Name x pos'] e pos) (tS Z fun ρ => bd (me ρ) fun d => rt (.nx (ρ.set i (some d)))) :=
  PSi (ps_set hN hi hx he hs hf) fun D σ H ⟨ad, ρ, μ, g, hl, h⟩ => step g hl h fun v d H1 ad1 μ1 n1 g1 r1 q1 => q1 _ H1 ad1 n1 (g1.set r1 i) (by rw [List.length_set]; exact hl)
/-! targets of several names -/
inductive Tg where
  | v (i : Nat)
  | t (is : List Nat)
def Tg.slots : Tg → List Nat
  | .v i => [i]
  | .t is => is
/-- all slots but those at is stand -/
def Off (is : List Nat) (σ σ' : L2.St) : Prop := ∀ i, i ∉ is → σ'[i]? = σ[i]?
def setAll : List Nat → List D → Rho → Option Rho
  | [], [], ρ => some ρ
  | i :: is, d :: ds, ρ => setAll is ds (ρ.set i (some d))
  | _, _, _ => none
def setTg (t : Tg) (d : D) (ρ : Rho) : Option Rho := match t with
  | .v i => some (ρ.set i (some d))
  | .t is => match d with
    | .tup ds => setAll is ds ρ
    | _ => none
/-- a target's reading -/
def tG (Z : Wd) (t : Tg) : TG := fun v σ H Q => ∃ ad ρ μ d ρ', Gd Z.K H ad σ ρ μ ∧ σ.length = Z.n ∧ Rp Z.K H ad v d ∧ setTg t d ρ = some ρ' ∧ ∀ σ', Gd Z.K H ad σ' ρ' μ → σ'.length = Z.n → Off t.slots σ σ' → Q σ' H
theorem PGi {t t' : TG} (h : PG X e t) (w : ∀ v σ H Q, t' v σ H Q → t v σ H Q) : PG X e t' := by
  obtain ⟨r⟩ := h
  exact ⟨fun pins s σ H v u Q I rv q => r pins s σ H v u Q I rv (w v σ H Q q)⟩
theorem g_name {i : Nat} {x : Str} (hN : X.N.Nodup) (hi : X.N[i]? = some x) (hx : Loc X.env.scope x) (hf : X.fn x = true ∨ X.env.scope.names.lookup x = some .local) : PG X (.Name x pos) (tG Z (.v i)) :=
  PGi (pg_name hN hi hx hf) fun v σ H Q ⟨ad, ρ, μ, d, ρ', g, hl, r, e, h⟩ => by
    cases e
    exact h _ (g.set r i) (by rw [List.length_set]; exact hl) fun j hj => List.getElem?_set_ne (fun z => hj (by rw [← z]; exact List.mem_singleton.mpr rfl))
def tGs (Z : Wd) (is : List Nat) : TGs := fun vs σ H Q => ∃ ad ρ μ ds ρ', Gd Z.K H ad σ ρ μ ∧ σ.length = Z.n ∧ Rps Z.K H ad vs ds ∧ setAll is ds ρ = some ρ' ∧ ∀ σ', Gd Z.K H ad σ' ρ' μ → σ'.length = Z.n → Off is σ σ' → Q σ' H
theorem PGsi {es : List Expr} {t t' : TGs} (h : PGs X es t) (w : ∀ v σ H Q, t' v σ H Q → t v σ H Q) : PGs X es t' := by
  obtain ⟨r⟩ := h
  exact ⟨fun pins s σ H v u Q I rv q => r pins s σ H v u Q I rv (w v σ H Q q)⟩
theorem gs_nil : PGs X [] (tGs Z []) := PGsi pgs_nil fun vs σ H Q ⟨ad, ρ, μ, ds, ρ', g, hl, r, e, h⟩ => by
  cases ds with
  | nil =>
    cases r
    cases e
    exact ⟨rfl, h σ g hl fun _ _ => rfl⟩
  | cons d ds => cases e
theorem gs_cons {x : Str} {es : List Expr} {i : Nat} {is : List Nat} {p : Pos} (hN : X.N.Nodup) (hi : X.N[i]? = some x) (hx : Loc X.env.scope x) (hf : X.fn x = true ∨ X.env.scope.names.lookup x = some .local) (hr : PGs X es (tGs Z is))
    (hs : (assignEach (.Name x p :: es) X.env).map (·.2) = assign (.Name x p) X.env :: (assignEach es X.env).map (·.2)) : PGs X (.Name x p :: es) (tGs Z (i :: is)) :=
  PGsi (pgs_cons (pg_name hN hi hx hf) hr hs) fun vs σ H Q ⟨ad, ρ, μ, ds, ρ', g, hl, r, e, h⟩ => by
    cases ds with
    | nil => cases e
    | cons d ds =>
      cases r with
      | cons a r => exact ⟨_, _, rfl, ad, ρ.set i (some d), μ, ds, ρ', g.set a i, by rw [List.length_set]; exact hl, r, e, fun σ' g' l' o => h σ' g' l' fun j hj =>
          (o j fun z => hj (List.mem_cons_of_mem _ z)).trans (List.getElem?_set_ne fun z => hj (by rw [← z]; exact List.mem_cons_self))⟩
theorem setAll_len : ∀ {is : List Nat} {ds : List D} {ρ ρ' : Rho}, setAll is ds ρ = some ρ' → ds.length = is.length
  | [], [], _, _, _ => rfl
  | [], _ :: _, _, _, h => nomatch h
  | _ :: _, [], _, _, h => nomatch h
  | i :: is, d :: ds, _, _, h => congrArg (· + 1) (setAll_len (is := is) (ds := ds) h)
theorem g_tup {es : List Expr} {kk : Nat} {is : List Nat} (hc : X.calm = true) (hK : Z.K = X.K) (h : PGs X es (tGs Z is)) (hn : (assignEach es X.env).length = is.length) (hst : (assignEach es X.env).findIdx? (·.1) = none) : PG X (.Tuple es kk pos) (tG Z (.t is)) :=
  PGi (pg_tup hc h hn hst) fun v σ H Q ⟨ad, ρ, μ, d, ρ', g, hl, r, e, h⟩ => by
    cases d with
    | tup ds =>
      have e : setAll is ds ρ = some ρ' := e
      cases r with
      | @tup a vs _ ta p => exact ⟨a, vs, rfl, hK ▸ ta.sq, by rw [p.length, setAll_len e], ad, ρ, μ, ds, ρ', g, hl, p, e, h⟩
    | _ => cases e
theorem s_asg {tg : Expr} {t : Tg} (he : PE X e (tE Z me)) (hg : PG X tg (tG Z t)) (hs : swapsWithSole [tg] e pos.line X.env = pure false) (hw : swappedStores [tg] e X.env = pure none) (h1 : (assignEach [tg] X.env).map (·.2) = [assign tg X.env]) :
    PS X (.Assign [tg] e pos) (tS Z fun ρ => bd (me ρ) fun d => bd (lft (setTg t d ρ)) fun ρ' => rt (.nx ρ')) :=
  PSi (ps_asg he hg hs hw h1) fun D σ H ⟨ad, ρ, μ, g, hl, h⟩ => step g hl h fun v d H1 ad1 μ1 n1 g1 r1 q1 => by
    obtain ⟨ρ', e, q⟩ := sat_lft.mp (sat_bd.mp q1)
    exact ⟨ad1, ρ, μ1, d, ρ', g1, hl, r1, e, fun σ' g' l' _ => q σ' H1 ad1 n1 g' l'⟩
/-- a, b = x, y with plain local names -/
theorem s_par {i j : Nat} {x y : Str} {a b : Expr} {ms : List (Rho → M D)} {px py pt : Pos} {kt k2 : Nat} {pt2 : Pos} (hc : X.calm = true) (hN : X.N.Nodup) (hi : X.N[i]? = some x) (hj : X.N[j]? = some y) (hij : i ≠ j)
    (hx : X.env.scope.names.lookup x = some .local) (hy : X.env.scope.names.lookup y = some .local) (ha : PA X [a, b] (tA Z (evA ms)))
    (hw : swappedStores [.Tuple [.Name x px, .Name y py] kt pt] (.Tuple [a, b] k2 pt2) X.env = pure (some [x, y]))
    (hs : swapsWithSole [.Tuple [.Name x px, .Name y py] kt pt] (.Tuple [a, b] k2 pt2) pos.line X.env = pure false) :
    PS X (.Assign [.Tuple [.Name x px, .Name y py] kt pt] (.Tuple [a, b] k2 pt2) pos) (tS Z fun ρ => bd (bd (evA ms ρ) mkT) fun d => bd (lft (setTg (.t [i, j]) d ρ)) fun ρ' => rt (.nx ρ')) :=
  PSi (ps_par hc hN hi hj hij hx hy ha hw hs) fun D σ H ⟨ad, ρ, μ, g, hl, h⟩ => by
    have h' : Sat (bd (evA ms ρ) (fun ds => bd (mkT ds) fun d => bd (lft (setTg (.t [i, j]) d ρ)) fun ρ' => rt (.nx ρ')) μ) (KS Z H ad D) (XW Z H ad) :=
      sat_bd.mpr ((sat_bd.mp (sat_bd.mp h)).imp fun ds μ1 q => sat_bd.mpr q)
    refine stepA g hl h' fun vs ds H1 ad1 μ1 n1 g1 r1 q1 => ?_
    have q2 := sat_bd.mp q1
    unfold mkT at q2
    by_cases hz : ds.length ≤ 1000000
    · rw [if_pos hz] at q2
      obtain ⟨ρ', e, q⟩ := sat_lft.mp (sat_bd.mp q2)
      have e : setAll [i, j] ds ρ = some ρ' := e
      match ds, e, r1 with
      | [d1, d2], e, r1 =>
        cases e
        obtain ⟨v, w, rfl, a1, a2⟩ := rps2 r1
        exact ⟨v, w, rfl, q _ H1 ad1 n1 ((g1.set a1 i).set a2 j) (by rw [List.length_set, List.length_set]; exact hl)⟩
      | [], e, _ => cases e
      | [_], e, _ => cases e
      | _ :: _ :: _ :: _, e, _ => cases e
    · rw [if_neg hz] at q2
      exact q2.elim
end
end PX
namespace PX
open PySem PySem.Spec PyProof.Rows L2
variable [Tabc]
variable {Z : Wd}
/-! ### 18. what is walked -/
/-- the data of a state stands in another one -/
structure Std (H0 : Hp) (ad0 : Pl) (H : Hp) (ad : Pl) : Prop where
  keep : ∀ b o, ad0.out b → (∀ ps, o ≠ .tbl ps) → H0 b = some o → ad.out b ∧ H b = some o
  at_ : ∀ (n : Nat) (a : Addr), ad0.ad[n]? = some a → ad.ad[n]? = some a
theorem Grow.std {H0 H : Hp} {ad0 ad : Pl} (g : Grow H0 ad0 H ad) : Std H0 ad0 H ad := ⟨fun b o hb nt q => ⟨g.nin hb q, g.keep b o hb.1 nt q⟩, fun _ _ => g.at⟩
section
variable {K : PySem.W.Frag} {H0 H H2 : Hp} {ad0 ad ad2 : Pl}
theorem Std.trans (a : Std H0 ad0 H ad) (b : Std H ad H2 ad2) : Std H0 ad0 H2 ad2 := ⟨fun c o hc nt q => let ⟨h1, h2⟩ := a.keep c o hc nt q; b.keep c o h1 nt h2, fun n c e => b.at_ n c (a.at_ n c e)⟩
theorem Std.rd (s : Std H0 ad0 H ad) {a : Addr} {u : HO} (hb : ad0.out a) (nt : ∀ ps, u ≠ .tbl ps) (r : Rd H0 a u) : ad.out a ∧ Rd H a u := by
  rcases r with r | ⟨o, r⟩
  · exact ⟨(s.keep a _ hb nt r).1, .inl (s.keep a _ hb nt r).2⟩
  · exact ⟨(s.keep a _ hb nt_frz.1 r).1, .inr ⟨o, (s.keep a _ hb nt_frz.1 r).2⟩⟩
theorem LstAt.std (s : Std H0 ad0 H ad) {a : Addr} {xs : List V} (h : LstAt K H0 ad0 a xs) : LstAt K H ad a xs := h.elim (fun z => .inl (s.rd z.1 (fun _ z => nomatch z) z.2)) .inr
theorem Std.dk (s : Std H0 ad0 H ad) {t : Bool} {a : Addr} {ks : List D} {xs : List V} (h : DicAt t H0 ad0 a ks xs) : DicAt t H ad a ks xs :=
  ⟨let ⟨o, n, r⟩ := h.2.oneN; (s.rd h.1 n r).1, h.2.impN fun o n r => (s.rd h.1 n r).2⟩
theorem TupAt.std (s : Std H0 ad0 H ad) {a : Addr} {xs : List V} (h : TupAt K H0 ad0 a xs) : TupAt K H ad a xs := ⟨(s.keep a _ h.1 nt_tup.1 h.2).1, (s.keep a _ h.1 nt_tup.1 h.2).2⟩
theorem Rp.std (s : Std H0 ad0 H ad) (d : D) (v : V) (h : Rp K H0 ad0 v d) : Rp K H ad v d := Rp.map (fun _ _ => .std s) (fun _ _ => .std s) (fun _ _ _ _ => s.dk) (fun _ _ _ _ h => h.to s.keep) s.at_ d v h
theorem Rps.std (s : Std H0 ad0 H ad) (d : List D) (v : List V) (h : Rps K H0 ad0 v d) : Rps K H ad v d := Rps.map (fun _ _ => .std s) (fun _ _ => .std s) (fun _ _ _ _ => s.dk) (fun _ _ _ _ h => h.to s.keep) s.at_ d v h
end
/-- turn by turn it gives what the data ds stand for -/
structure Yields (K : PySem.W.Frag) (H0 : Hp) (ad0 : Pl) (J : It) (ds : List D) : Prop where
  go : ∀ (H : Hp) (ad : Pl) (i : Nat), Std H0 ad0 H ad → i < ds.length → J.go i H
  stop : ∀ (H : Hp) (ad : Pl), Std H0 ad0 H ad → J.stop ds.length H
  yld : ∀ (H : Hp) (ad : Pl) (μ : Mu) (i : Nat) (x : V) (H' : Hp) (d : D), Std H0 ad0 H ad → MuOk K H ad μ → ds[i]? = some d → J.yld i H x H' → Nx K H ad H' ad μ ∧ Rp K H' ad x d
def tI (Z : Wd) (m : Rho → M (List D)) : TI := fun σ H R => ∃ ad ρ μ, Gd Z.K H ad σ ρ μ ∧ σ.length = Z.n ∧
  Sat (m ρ μ) (fun ds μ' => ∀ J H' ad', Nx Z.K H ad H' ad' μ' → Yields Z.K H' ad' J ds → R J H') (XW Z H ad)
theorem PIi {X : Cx} {tg e : Expr} {t t' : TI} (h : PI X tg e t) (w : ∀ σ H R, t' σ H R → t σ H R) : PI X tg e t' := ⟨fun pins s σ H R I q => h.run pins s σ H R I (w σ H R q)⟩
theorem yields_list {K : PySem.W.Frag} {H : Hp} {ad : Pl} {a : Addr} {vs : List V} {ds : List D} (h : LstAt K H ad a vs) (r : Rps K H ad vs ds) : Yields K H ad (Itl K a) ds where
  go := fun H' ad' i g hi => by
    obtain ⟨v, hv, _⟩ := r.get (List.getElem?_eq_getElem hi)
    exact ⟨vs, v, (h.std g).sq, hv⟩
  stop := fun H' ad' g => ⟨vs, (h.std g).sq, by rw [r.length]; exact Nat.le_refl _⟩
  yld := fun H' ad' μ i x H2 d g m hd ⟨e, hy⟩ => by
    subst e
    obtain ⟨v, hv, q⟩ := r.get hd
    have e2 := hy vs (h.std g).sq
    rw [hv] at e2
    cases e2
    exact ⟨.refl m, Rp.std g d _ q⟩
theorem yields_tup {K : PySem.W.Frag} {H : Hp} {ad : Pl} {a : Addr} {vs : List V} {ds : List D} (h : TupAt K H ad a vs) (r : Rps K H ad vs ds) : Yields K H ad (Itt K a) ds where
  go := fun H' ad' i g hi => by
    obtain ⟨v, hv, _⟩ := r.get (List.getElem?_eq_getElem hi)
    exact ⟨vs, v, (h.std g).sq, hv⟩
  stop := fun H' ad' g => ⟨vs, (h.std g).sq, by rw [r.length]; exact Nat.le_refl _⟩
  yld := fun H' ad' μ i x H2 d g m hd ⟨e, hy⟩ => by
    subst e
    obtain ⟨v, hv, q⟩ := r.get hd
    have e2 := hy vs (h.std g).sq
    rw [hv] at e2
    cases e2
    exact ⟨.refl m, Rp.std g d _ q⟩
def rngD (lo : Int) (n : Nat) : List D := (List.range n).map fun (i : Nat) => D.int (lo + (i : Int))
theorem yields_range {K : PySem.W.Frag} {H : Hp} {ad : Pl} {lo : Int} {n : Nat} : Yields K H ad (Itr lo n) (rngD lo n) where
  go := fun H' ad' i g hi => by
    have q : i < n := by simpa [rngD] using hi
    exact q
  stop := fun H' ad' g => by simp [rngD, Itr]
  yld := fun H' ad' μ i x H2 d g m hd ⟨e, hy⟩ => by
    subst e hy
    have hi : i < n := by
      have q := (List.getElem?_eq_some_iff.mp hd).1
      simpa [rngD] using q
    have e2 : (rngD lo n)[i]? = some (D.int (lo + (i : Int))) := by simp [rngD, hi]
    rw [e2] at hd
    cases hd
    exact ⟨.refl m, .int _⟩
/-- the items of a standing list, of a tuple -/
def itL (d : D) : M (List D) := match d with
  | .lst ds => rt ds
  | _ => stk
def itT (d : D) : M (List D) := match d with
  | .tup ds => rt ds
  | _ => stk
def itX (d : D) : M (List D) := match d with
  | .lst ds => rt ds
  | .tup ds => rt ds
  | _ => stk
section
variable {X : Cx} {tg iter : Expr} {me : Rho → M D}
/-- a list or a tuple that is walked: one rule for both -/
theorem i_seq (hK : Z.K = X.K) (h : PE X iter (tE Z me)) : PI X tg iter (tI Z fun ρ => bd (me ρ) itX) := by
  refine ⟨fun pins s σ H R I ⟨ad, ρ, μ, g, hl, h0⟩ => ?_⟩
  have first : tE Z me σ H fun v H1 => ∃ d ad1 μ1, Nx Z.K H ad H1 ad1 μ1 ∧ Rp Z.K H1 ad1 v d ∧ Sat (itX d μ1) (fun ds μ' => ∀ J H' ad', Nx Z.K H ad H' ad' μ' → Yields Z.K H' ad' J ds → R J H') (XW Z H1 ad1) :=
    step g hl h0 fun v d H1 ad1 μ1 n1 g1 r1 q1 => ⟨d, ad1, μ1, n1, r1, q1⟩
  refine thn (h.run pins s σ H _ I first) fun u s1 ⟨v, H1, I1, rv, d, ad1, μ1, n1, r1, q1⟩ => ?_
  cases d with
  | lst ds =>
    cases r1 with
    | @lst a vs _ la p =>
      cases rv
      have q2 := q1 (Itl X.K a) H1 ad1 n1 (hK ▸ yields_list la p)
      obtain ⟨its, rl, pl, hz⟩ := I1.list (hK ▸ la.sq)
      refine wpAny_pyIter_list pl.isList ?_
      refine ⟨s1.heap.objs.size, [s1.heap.objs.size], _, _, H1, rfl, I1.kept (t' := s1.toks) fun b o e => Heap.get?_push_of_some _ e, turn_list a _, ⟨_, Heap.get?_push_size _ rfl, rfl, rfl⟩, fun b hb => ?_, q2⟩
      obtain rfl : b = s1.heap.objs.size := by simpa using hb
      exact I1.fpOk (Nat.le_refl _) I1.fresh
  | tup ds =>
    cases r1 with
    | @tup a vs _ ta p =>
      cases rv
      have q2 := q1 (Itt X.K a) H1 ad1 n1 (hK ▸ yields_tup ta p)
      obtain ⟨its, rl, pl, hz⟩ := I1.tuple (hK ▸ ta.sq)
      refine wpAny_pyIter_tuple (show s1.heap.IsTuple a its.toArray from pl) ?_
      refine ⟨s1.heap.objs.size, [s1.heap.objs.size], _, _, H1, rfl, I1.kept (t' := s1.toks) fun b o e => Heap.get?_push_of_some _ e, turn_tuple a _, ⟨_, Heap.get?_push_size _ rfl, rfl, rfl⟩, fun b hb => ?_, q2⟩
      obtain rfl : b = s1.heap.objs.size := by simpa using hb
      exact I1.fpOk (Nat.le_refl _) I1.fresh
  | _ => exact q1.elim
def rngOk (i : Int) : Bool := decide (-(2 ^ 62) ≤ i) && decide (i < 2 ^ 62)
def rng1 (ds : List D) : M (List D) := match ds with
  | [.int j] => if rngOk j then rt (rngD 0 j.toNat) else stk
  | _ => stk
def rng2 (ds : List D) : M (List D) := match ds with
  | [.int i, .int j] => if rngOk i && rngOk j then rt (rngD i (j - i).toNat) else stk
  | _ => stk
variable {a b : Expr} {ms : List (Rho → M D)} {p pos : Pos}
theorem i_rng1 (hg : Gl X "range") (hm : X.mg "range" = none) (ha : PA X [a] (tA Z (evA ms))) (hs : starEach [a] X.env = [(false, eval a X.env)]) : PI X tg (.Call (.Name "range" p) [a] [] pos) (tI Z fun ρ => bd (evA ms ρ) rng1) :=
  PIi (pi_range1 hg hm ha hs) fun σ H R ⟨ad, ρ, μ, g, hl, h⟩ => stepA g hl h fun vs ds H1 ad1 μ1 n1 g1 r1 q1 => by
    match ds, r1, q1 with
    | [.int j], r1, q1 =>
      obtain ⟨x, rfl, rx⟩ := rps1 r1
      obtain rfl := rp_int rx
      have q1 : Sat ((if rngOk j then rt (rngD 0 j.toNat) else stk : M (List D)) μ1) (fun ds μ' => ∀ J H' ad', Nx Z.K H ad H' ad' μ' → Yields Z.K H' ad' J ds → R J H') (XW Z H1 ad1) := q1
      by_cases c : rngOk j = true
      · rw [if_pos c] at q1
        unfold rngOk at c
        simp only [Bool.and_eq_true, decide_eq_true_eq] at c
        exact ⟨j, rfl, c.1, c.2, q1 _ H1 ad1 n1 yields_range⟩
      · rw [if_neg c] at q1
        exact q1.elim
    | [], _, q1 | [.non], _, q1 | [.bl _], _, q1 | [.str _], _, q1 | [.lst _], _, q1 | [.tup _], _, q1 | [.dic _ _ _], _, q1 | [.ref _], _, q1 | [.ty _], _, q1 | [.obj _ _ _], _, q1 => exact q1.elim
    | d :: _ :: _, _, q1 => cases d <;> exact q1.elim
theorem rng2_cases (ds : List D) (μ : Mu) : (∃ i j, ds = [.int i, .int j]) ∨ rng2 ds μ = .no := by
  unfold rng2
  split
  · exact .inl ⟨_, _, rfl⟩
  · exact .inr rfl
theorem i_rng2 (hg : Gl X "range") (hm : X.mg "range" = none) (ha : PA X [a, b] (tA Z (evA ms))) (hs : starEach [a, b] X.env = [(false, eval a X.env), (false, eval b X.env)]) (hs2 : starEach [b] X.env = [(false, eval b X.env)]) :
    PI X tg (.Call (.Name "range" p) [a, b] [] pos) (tI Z fun ρ => bd (evA ms ρ) rng2) :=
  PIi (pi_range2 hg hm ha hs hs2) fun σ H R ⟨ad, ρ, μ, g, hl, h⟩ => stepA g hl h fun vs ds H1 ad1 μ1 n1 g1 r1 q1 => by
    rcases rng2_cases ds μ1 with ⟨i, j, rfl⟩ | e
    · obtain ⟨x, y, rfl, rx, ry⟩ := rps2 r1
      obtain rfl := rp_int rx
      obtain rfl := rp_int ry
      have q1 : Sat ((if rngOk i && rngOk j then rt (rngD i (j - i).toNat) else stk : M (List D)) μ1) (fun ds μ' => ∀ J H' ad', Nx Z.K H ad H' ad' μ' → Yields Z.K H' ad' J ds → R J H') (XW Z H1 ad1) := q1
      by_cases c : (rngOk i && rngOk j) = true
      · rw [if_pos c] at q1
        unfold rngOk at c
        simp only [Bool.and_eq_true, decide_eq_true_eq] at c
        exact ⟨i, j, rfl, ⟨c.1.1, c.1.2, c.2.1, c.2.2⟩, q1 _ H1 ad1 n1 yields_range⟩
      · rw [if_neg c] at q1
        exact q1.elim
    · rw [e] at q1
      exact q1.elim
end
/-! ### 19. loops -/
def forD (t : Tg) (body : Rho → M Fl) : List D → Rho → M Fl
  | [], ρ => rt (.nx ρ)
  | d :: ds, ρ => bd (lft (setTg t d ρ)) fun ρ1 => bd (body ρ1) fun f => match f with
    | .nx ρ2 => forD t body ds ρ2
    | .ct ρ2 => forD t body ds ρ2
    | .bk ρ2 => rt (.nx ρ2)
    | .rt d => rt (.rt d)
def whD (c : Rho → M Bool) (body : Rho → M Fl) : Nat → Rho → M Fl
  | 0, _ => stk
  | n + 1, ρ => ifB (c ρ) (bd (body ρ) fun f => match f with
    | .nx ρ2 => whD c body n ρ2
    | .ct ρ2 => whD c body n ρ2
    | .bk ρ2 => rt (.nx ρ2)
    | .rt d => rt (.rt d)) (rt (.nx ρ))
def WF : Nat := 10000000
section
variable {X : Cx} {tg iter : Expr} {mi : Rho → M (List D)} {t : Tg} {body : List Stmt} {mb : Rho → M Fl} {pos : Pos}
theorem s_for (hp : PassesOwn (model X.prog X.w) X.A X.env X.xe) (hc : X.calm = true) (hi : PI X tg iter (tI Z mi)) (hg : PG X tg (tG Z t)) (hb : PSs X body (tS Z mb)) (hs : ∀ x, foldedSetIterable iter X.env x = pure x) :
    PS X (.For tg iter body [] pos) (tS Z fun ρ => bd (mi ρ) fun ds => forD t mb ds ρ) := by
  refine PSi (ps_for hp hc hi hg hb hs) fun E σ H ⟨ad, ρ, μ, g, hl, h⟩ => ?_
  refine ⟨ad, ρ, μ, g, hl, (sat_bd.mp h).imp fun ds μ1 q J H1 ad1 n1 Y => ?_⟩
  refine ⟨fun i m σ' H' => m = ds.length - i ∧ i ≤ ds.length ∧ ∃ ad' ρ' μ', Grow H1 ad1 H' ad' ∧ Gd Z.K H' ad' σ' ρ' μ' ∧ σ'.length = Z.n ∧ Sat (forD t mb (ds.drop i) ρ' μ') (KS Z H' ad' E) (XW Z H' ad'), ⟨ds.length, rfl, Nat.zero_le _, ad1, ρ, μ1, .refl, g.nx n1, hl, ?_⟩, ?_⟩
  · rw [List.drop_zero]
    exact q.mono (fun _ _ z => z.nx n1) fun _ _ z => z.nx n1
  rintro i m σ' H' ⟨rfl, hi', ad', ρ', μ', gr, g', l', q'⟩
  by_cases hlt : i < ds.length
  · refine .inr ⟨Y.go H' ad' i gr.std hlt, fun σ2 H2 => i + 1 ≤ ds.length ∧ ∃ ad2 ρ2 μ2, Grow H1 ad1 H2 ad2 ∧ Gd Z.K H2 ad2 σ2 ρ2 μ2 ∧ σ2.length = Z.n ∧ Sat (forD t mb (ds.drop (i + 1)) ρ2 μ2) (KS Z H2 ad2 E) (XW Z H2 ad2),
      fun σ2 H2 z => ⟨ds.length - (i + 1), by omega, rfl, z⟩, fun x H2 y => ?_⟩
    have hd : ds[i]? = some ds[i] := List.getElem?_eq_getElem hlt
    obtain ⟨n2, rx⟩ := Y.yld H' ad' μ' i x H2 ds[i] gr.std g'.mu hd y
    rw [List.drop_eq_getElem_cons hlt] at q'
    obtain ⟨ρ1, e1, q2⟩ := sat_lft.mp (sat_bd.mp q')
    have q3 := sat_bd.mp q2
    refine ⟨ad', ρ', μ', ds[i], ρ1, g'.nx n2, l', rx, e1, fun σ3 g3 l3 _ => ?_⟩
    refine ⟨ad', ρ1, μ', g3, l3, q3.mono (fun f μ4 z => ?_) fun _ _ z => z.nx n2⟩
    cases f with
    | nx ρ4 => exact fun σ4 H4 ad4 n4 g4 l4 => ⟨by omega, ad4, ρ4, μ4, (gr.trans n2.gr).trans n4.gr, g4, l4, z.mono (fun _ _ w => w.nx (n2.trans n4)) fun _ _ w => w.nx (n2.trans n4)⟩
    | ct ρ4 => exact fun σ4 H4 ad4 n4 g4 l4 => ⟨by omega, ad4, ρ4, μ4, (gr.trans n2.gr).trans n4.gr, g4, l4, z.mono (fun _ _ w => w.nx (n2.trans n4)) fun _ _ w => w.nx (n2.trans n4)⟩
    | bk ρ4 => exact fun σ4 H4 ad4 n4 g4 l4 => z σ4 H4 ad4 (n2.trans n4) g4 l4
    | rt d => exact fun v H4 ad4 n4 r4 => z v H4 ad4 (n2.trans n4) r4
  · have e : i = ds.length := by omega
    subst e
    rw [List.drop_length] at q'
    exact .inl ⟨Y.stop H' ad' gr.std, q' σ' H' ad' (.refl g'.mu) g' l'⟩
theorem s_while {c : Expr} {mc : Rho → M Bool} (hp : PassesOwn (model X.prog X.w) X.A X.env X.xe) (hc : PT X c (tT Z mc)) (hb : PSs X body (tS Z mb)) : PS X (.While c body [] pos) (tS Z fun ρ => whD mc mb WF ρ) := by
  refine PSi (ps_while hp hc hb) fun E σ H ⟨ad, ρ, μ, g, hl, h⟩ => ?_
  refine ⟨fun m σ' H' => ∃ ad' ρ' μ', Gd Z.K H' ad' σ' ρ' μ' ∧ σ'.length = Z.n ∧ Sat (whD mc mb m ρ' μ') (KS Z H' ad' E) (XW Z H' ad'), ⟨WF, ad, ρ, μ, g, hl, h⟩, ?_⟩
  rintro m σ' H' ⟨ad', ρ', μ', g', l', q'⟩
  cases m with
  | zero => exact q'.elim
  | succ m =>
    refine stepT g' l' q' fun b H1 ad1 μ1 n1 g1 q1 => ?_
    cases b with
    | false => exact iteF (q1 σ' H1 ad1 n1 g1 l')
    | true =>
      refine iteT ⟨fun σ2 H2 => ∃ ad2 ρ2 μ2, Gd Z.K H2 ad2 σ2 ρ2 μ2 ∧ σ2.length = Z.n ∧ Sat (whD mc mb m ρ2 μ2) (KS Z H2 ad2 E) (XW Z H2 ad2), fun σ2 H2 z => ⟨m, Nat.lt_succ_self m, z⟩, ?_⟩
      refine ⟨ad1, ρ', μ1, g1, l', (sat_bd.mp q1).imp fun f μ4 z => ?_⟩
      cases f with
      | nx ρ4 => exact fun σ4 H4 ad4 n4 g4 l4 => ⟨ad4, ρ4, μ4, g4, l4, z.mono (fun _ _ w => w.nx (n1.trans n4)) fun _ _ w => w.nx n4⟩
      | ct ρ4 => exact fun σ4 H4 ad4 n4 g4 l4 => ⟨ad4, ρ4, μ4, g4, l4, z.mono (fun _ _ w => w.nx (n1.trans n4)) fun _ _ w => w.nx n4⟩
      | bk ρ4 => exact fun σ4 H4 ad4 n4 g4 l4 => z σ4 H4 ad4 (n1.trans n4) g4 l4
      | rt d => exact fun v H4 ad4 n4 r4 => z v H4 ad4 (n1.trans n4) r4
end
end PX
namespace PX
open PySem PySem.Spec PyProof.Rows L2
variable [Tabc]
variable {Z : Wd}
/-! ### 20. lists of a comprehension -/
def noX {α : Type} (m : M α) : M α := fun μ => match m μ with
  | .ok a μ' => .ok a μ'
  | _ => .no
theorem sat_noX {α : Type} {m : M α} {μ : Mu} {L : α → Mu → Prop} {E : Xn → Mu → Prop} : Sat (noX m μ) L E ↔ Sat (m μ) L (fun _ _ => False) := by
  unfold noX
  cases m μ <;> exact Iff.rfl
def wipeD (ρ : Rho) : List Nat → Rho
  | [] => ρ
  | v :: vs => (wipeD ρ vs).set v none
def lcD (t : Tg) (mc : Rho → M Bool) (me : Rho → M D) : List D → Rho → M (List D)
  | [], _ => rt []
  | d :: ds, ρ => bd (lft (setTg t d ρ)) fun ρ1 => bd (mc ρ1) fun b => if b = true then bd (me ρ1) fun y => bd (lcD t mc me ds ρ) fun ys => rt (y :: ys) else lcD t mc me ds ρ
theorem wipe_at {σ : L2.St} {i : Nat} : ∀ {vs : List Nat}, i ∈ vs → i < σ.length → (wipe σ vs)[i]? = some none
  | v :: vs, h, hl => by
    unfold wipe
    by_cases e : v = i
    · subst e
      rw [List.getElem?_set_self (by rw [wipe_length]; exact hl)]
    · rw [List.getElem?_set_ne e]
      rcases List.mem_cons.mp h with z | z
      · exact absurd z.symm e
      · exact wipe_at z hl
theorem wipe_eq {σ σ' : L2.St} {vs : List Nat} (hl : σ'.length = σ.length) (h : ∀ i, i ∉ vs → σ'[i]? = (wipe σ vs)[i]?) : wipe σ' vs = wipe σ vs := by
  refine List.ext_getElem? fun i => ?_
  by_cases hi : i ∈ vs
  · by_cases hz : i < σ.length
    · rw [wipe_at hi hz, wipe_at hi (by rw [hl]; exact hz)]
    · rw [List.getElem?_eq_none (by rw [wipe_length, hl]; omega), List.getElem?_eq_none (by rw [wipe_length]; omega)]
  · rw [wipe_out hi, h i hi]
theorem wipeD_length (ρ : Rho) : ∀ vs : List Nat, (wipeD ρ vs).length = ρ.length
  | [] => rfl
  | v :: vs => by unfold wipeD; rw [List.length_set, wipeD_length ρ vs]
theorem wipeD_some {ρ : Rho} {i : Nat} {x : D} : ∀ {vs : List Nat}, (wipeD ρ vs)[i]? = some (some x) → ρ[i]? = some (some x) ∧ i ∉ vs
  | [], h => ⟨h, by simp⟩
  | v :: vs, h => by
    unfold wipeD at h
    by_cases hi : v = i
    · subst hi
      by_cases hv : v < (wipeD ρ vs).length
      · rw [List.getElem?_set_self hv] at h; cases h
      · rw [List.getElem?_eq_none (by simpa using hv)] at h; cases h
    · rw [List.getElem?_set_ne hi] at h
      obtain ⟨h1, h2⟩ := wipeD_some h
      exact ⟨h1, by simp only [List.mem_cons, not_or]; exact ⟨fun e => hi e.symm, h2⟩⟩
section
variable {K : PySem.W.Frag} {H H' : Hp} {ad ad' : Pl} {μ : Mu}
theorem Gd.wipe {σ : L2.St} {ρ : Rho} (g : Gd K H ad σ ρ μ) (vs : List Nat) : Gd K H ad (L2.wipe σ vs) (wipeD ρ vs) μ :=
  ⟨g.mu, by rw [wipeD_length, L2.wipe_length, g.len], fun i d e => by
    obtain ⟨h1, h2⟩ := wipeD_some e
    obtain ⟨v, q, r⟩ := g.sl i d h1
    exact ⟨v, by rw [wipe_out h2]; exact q, r⟩⟩
theorem SoAt.std (s : Std H ad H' ad') {a : Addr} {o : SO} (h : SoAt K H ad a o) (e : H' a = H a) : SoAt K H' ad' a o := by
  cases o with
  | dk kd =>
    obtain ⟨kv, h1, h2, h3⟩ := h
    exact ⟨kv, e.trans h1, h2, Rps.std s _ _ h3⟩
  | ml ds =>
    obtain ⟨vs, h1, h2⟩ := h
    exact ⟨vs, e.trans h1, Rps.std s _ _ h2⟩
  | dd t ks ds =>
    obtain ⟨vs, h1, h2⟩ := h
    exact ⟨vs, h1.imp fun o q => e.trans q, Rps.std s _ _ h2⟩
theorem MuOk.to (m : MuOk K H ad μ) (s : Std H ad H' ad') (e : ad'.ad = ad.ad) (same : ∀ a ∈ ad.ad, H' a = H a) (prn : ∀ b ∈ ad'.pr, H' b ≠ none ∧ b ∉ ad'.ad) (tb : LamX.Tabs Tabc.T H') : MuOk K H' ad' μ :=
  ⟨by rw [e]; exact m.len, by rw [e]; exact m.nd, prn, fun n a o h1 h2 => by
    rw [e] at h1
    exact (m.so n a o h1 h2).std s (same a (List.mem_of_getElem? h1)), m.pur, tb⟩
theorem Gd.to {σ : L2.St} {ρ : Rho} (g : Gd K H ad σ ρ μ) (s : Std H ad H' ad') (m : MuOk K H' ad' μ) : Gd K H' ad' σ ρ μ :=
  ⟨m, g.len, fun i d e => let ⟨v, h1, h2⟩ := g.sl i d e; ⟨v, h1, Rp.std s d v h2⟩⟩
/-- a new list at p that no data stands at -/
theorem std_hide {p : Addr} {o : HO} (hp : H p = none) : Std H ad (upd H p o) ⟨ad.ad, p :: ad.pr⟩ :=
  ⟨fun b u hb _ q => ⟨⟨hb.1, fun z => by
    rcases List.mem_cons.mp z with z | z
    · rw [z, hp] at q; cases q
    · exact hb.2 z⟩, by rw [upd_ne (ne_of_none q hp)]; exact q⟩, fun _ _ h => h⟩
theorem MuOk.hide (m : MuOk K H ad μ) {p : Addr} {o : HO} (hp : H p = none) : MuOk K (upd H p o) ⟨ad.ad, p :: ad.pr⟩ μ := by
  refine m.to (std_hide hp) rfl (fun a ha => upd_ne fun z => m.nn ha (by rw [z]; exact hp)) (fun b hb => ?_) (tabs_new m.tabs hp)
  rcases List.mem_cons.mp hb with z | z
  · subst z
    exact ⟨by rw [upd_same]; exact fun z => (nomatch z), (m.out hp).1⟩
  · exact ⟨by rw [upd_ne fun y => (m.prn b z).1 (by rw [y]; exact hp)]; exact (m.prn b z).1, (m.prn b z).2⟩
theorem std_over {p : Addr} {o : HO} (hp : p ∈ ad.pr) : Std H ad (upd H p o) ad :=
  ⟨fun b u hb _ q => ⟨hb, by rw [upd_ne fun z => hb.2 (by rw [z]; exact hp)]; exact q⟩, fun _ _ h => h⟩
theorem MuOk.over (m : MuOk K H ad μ) {p : Addr} {o : HO} (hp : p ∈ ad.pr) (hn : ∃ u, H p = some u ∧ Nt u) : MuOk K (upd H p o) ad μ :=
  m.to (std_over hp) rfl (fun a ha => upd_ne fun z => (m.prn p hp).2 (by rw [← z]; exact ha)) (fun b hb => ⟨by
    by_cases e : b = p
    · rw [e, upd_same]; exact fun z => nomatch z
    · rw [upd_ne e]; exact (m.prn b hb).1, (m.prn b hb).2⟩) (tabs_wr m.tabs hn)
theorem std_show {p : Addr} {a pr : List Addr} : Std H ⟨a, p :: pr⟩ H ⟨a, pr⟩ := ⟨fun b u hb _ q => ⟨⟨hb.1, fun z => hb.2 (List.mem_cons_of_mem _ z)⟩, q⟩, fun _ _ h => h⟩
theorem MuOk.show {p : Addr} {a pr : List Addr} (m : MuOk K H ⟨a, p :: pr⟩ μ) : MuOk K H ⟨a, pr⟩ μ :=
  m.to std_show rfl (fun _ _ => rfl) (fun b hb => m.prn b (List.mem_cons_of_mem _ hb)) m.tabs
theorem std_adopt {p : Addr} {a pr : List Addr} : Std H ⟨a, p :: pr⟩ H ⟨a ++ [p], pr⟩ :=
  ⟨fun b u hb _ q => ⟨⟨fun z => by
    rcases List.mem_append.mp z with z | z
    · exact hb.1 z
    · rw [List.mem_singleton.mp z] at hb
      exact hb.2 List.mem_cons_self, fun z => hb.2 (List.mem_cons_of_mem _ z)⟩, q⟩, fun n b e => by
    have e : a[n]? = some b := e
    show (a ++ [p])[n]? = some b
    rw [List.getElem?_append_left (List.getElem?_eq_some_iff.mp e).1]
    exact e⟩
/-- a private object comes into the store -/
theorem MuOk.adopt {p : Addr} {a pr : List Addr} {so : SO} (m : MuOk K H ⟨a, p :: pr⟩ μ) (hpr : p ∉ pr) (pu : so.pure = true) (h : SoAt K H ⟨a ++ [p], pr⟩ p so) : MuOk K H ⟨a ++ [p], pr⟩ (μ ++ [so]) := by
  have np := (m.prn p List.mem_cons_self).2
  have np : p ∉ a := np
  have ml : a.length = μ.length := m.len
  refine ⟨by show (a ++ [p]).length = _; rw [List.length_append, List.length_append, ml]; rfl, ?_, fun b hb => ⟨(m.prn b (List.mem_cons_of_mem _ hb)).1, fun z => ?_⟩, fun n b o h1 h2 => ?_, fun n o h2 => ?_, m.tabs⟩
  · show (a ++ [p]).Nodup
    exact List.nodup_append.mpr ⟨m.nd, by simp, fun x hx y hy => by rw [List.mem_singleton.mp hy]; exact fun z => np (z ▸ hx)⟩
  · rcases List.mem_append.mp z with z | z
    · exact (m.prn b (List.mem_cons_of_mem _ hb)).2 z
    · rw [List.mem_singleton.mp z] at hb
      exact hpr hb
  · have h1 : (a ++ [p])[n]? = some b := h1
    by_cases hn : n < a.length
    · rw [List.getElem?_append_left hn] at h1
      rw [List.getElem?_append_left (by rw [← ml]; exact hn)] at h2
      exact (m.so n b o h1 h2).std std_adopt rfl
    · have hn : a.length ≤ n := Nat.le_of_not_lt hn
      rw [List.getElem?_append_right hn] at h1
      rw [List.getElem?_append_right (by rw [← ml]; exact hn), ← ml] at h2
      cases k : n - a.length with
      | zero =>
        rw [k] at h1 h2
        simp at h1 h2
        subst h1 h2
        exact h
      | succ j => rw [k] at h1; simp at h1
  · by_cases hn : n < μ.length
    · rw [List.getElem?_append_left hn] at h2
      exact m.pur n o h2
    · rw [List.getElem?_append_right (Nat.le_of_not_lt hn)] at h2
      cases k : n - μ.length with
      | zero => rw [k] at h2; simp at h2; rw [← h2]; exact pu
      | succ j => rw [k] at h2; simp at h2
end
theorem PTsi {X : Cx} {e : List Expr} {t t' : TT} (h : PTs X e t) (w : ∀ σ H Q, t' σ H Q → t σ H Q) : PTs X e t' := ⟨fun pins s σ H Q I q => h.run pins s σ H Q I (w σ H Q q)⟩
def off (Z : Wd) : Wd := { Z with W := fun _ _ _ _ => False }
section
variable {X : Cx} {tg iter elt c : Expr} {mi : Rho → M (List D)} {mc : Rho → M Bool} {me : Rho → M D} {t : Tg} {pos spos py : Pos} {ifs : List Expr} {scope : Scope} {own : List (Str × Nat)} {y : Str} {i : Nat}
theorem pt_nil : PTs X [] (tT Z fun _ => rt true) := PTsi pts_nil fun σ H Q ⟨ad, ρ, μ, g, hl, h⟩ => h H ad (.refl g.mu)
theorem pt_one (h : PT X c (tT Z mc)) : PTs X [c] (tT Z mc) := pts_one h
def lcM (mi : Rho → M (List D)) (t : Tg) (mc : Rho → M Bool) (me : Rho → M D) (vs : List Nat) (ρ : Rho) : M D := bd (mi ρ) fun ds => bd (noX (lcD t mc me ds (wipeD ρ vs))) mkL
/-- the list goes into the store -/
def mkR (ds : List D) : M D := fun μ => if (D.pures ds && decide (ds.length ≤ 1000000)) = true then .ok (.ref μ.length) (μ ++ [.ml ds]) else .no
def lcG (mk : List D → M D) (mi : Rho → M (List D)) (t : Tg) (mc : Rho → M Bool) (me : Rho → M D) (vs : List Nat) (ρ : Rho) : M D := bd (mi ρ) fun ds => bd (noX (lcD t mc me ds (wipeD ρ vs))) mk
def lcR : (Rho → M (List D)) → Tg → (Rho → M Bool) → (Rho → M D) → List Nat → Rho → M D := lcG mkR
/-- a list is made at its end by mk -/
structure MkOk (Z : Wd) (mk : List D → M D) : Prop where
  len : ∀ {ds : List D} {μ : Mu} {L : D → Mu → Prop} {E : Xn → Mu → Prop}, Sat (mk ds μ) L E → ds.length ≤ 1000000
  fin : ∀ {H H1 H' : Hp} {ad ad1 : Pl} {a' : List Addr} {μ1 μ' : Mu} {d : Addr} {vs : List V} {ds : List D} {Q : VK}, Nx Z.K H ad H1 ad1 μ1 → H1 d = none → Grow H1 ad1 H' ⟨a', ad1.pr⟩ → MuOk Z.K H' ⟨a', d :: ad1.pr⟩ μ' → H' d = some (.lst vs) →
    Rps Z.K H' ⟨a', d :: ad1.pr⟩ vs ds → Sat (mk ds μ') (KE Z H ad Q) (XW Z H ad) → Q (.ref d) H'
theorem mkL_fin : MkOk Z mkL where
  len := fun {ds μ L E} h => by
    unfold mkL at h
    by_cases hz : ds.length ≤ 1000000
    · exact hz
    · rw [if_neg hz] at h
      exact h.elim
  fin := fun {H H1 H' ad ad1 a' μ1 μ' d vs ds Q} n1 hD gr m eD rD q' => by
    unfold mkL at q'
    by_cases hz : ds.length ≤ 1000000
    · rw [if_pos hz] at q'
      have m' : MuOk Z.K H' ⟨a', ad1.pr⟩ μ' := m.show
      exact q' (.ref d) H' ⟨a', ad1.pr⟩ (n1.trans ⟨gr, m'⟩) (.lst (.inl ⟨⟨(m.prn d List.mem_cons_self).2, fun z => (n1.mu.prn d z).1 hD⟩, .inl eD⟩) (Rps.std std_show _ _ rD))
    · rw [if_neg hz] at q'
      exact q'.elim
theorem mkR_fin : MkOk Z mkR where
  len := fun {ds μ L E} h => by
    unfold mkR at h
    by_cases hz : (D.pures ds && decide (ds.length ≤ 1000000)) = true
    · simp only [Bool.and_eq_true, decide_eq_true_eq] at hz
      exact hz.2
    · rw [if_neg hz] at h
      exact h.elim
  fin := fun {H H1 H' ad ad1 a' μ1 μ' d vs ds Q} n1 hD gr m eD rD q' => by
    unfold mkR at q'
    by_cases hz : (D.pures ds && decide (ds.length ≤ 1000000)) = true
    · rw [if_pos hz] at q'
      simp only [Bool.and_eq_true, decide_eq_true_eq] at hz
      have hpr : d ∉ ad1.pr := fun z => (n1.mu.prn d z).1 hD
      have m' := m.adopt (so := .ml ds) hpr hz.1 ⟨vs, eD, Rps.std std_adopt _ _ rD⟩
      have ml : a'.length = μ'.length := m.len
      refine q' (.ref d) H' ⟨a' ++ [d], ad1.pr⟩ (n1.trans ⟨?_, m'⟩) (.ref ?_)
      · obtain ⟨l, e, hl⟩ := gr.pre
        refine ⟨⟨l ++ [d], ?_, fun b hb => ?_⟩, gr.keep, gr.live⟩
        · have e : (⟨a', ad1.pr⟩ : Pl) = ⟨ad1.ad ++ l, ad1.pr⟩ := e
          injection e with e
          show (⟨a' ++ [d], ad1.pr⟩ : Pl) = ⟨ad1.ad ++ (l ++ [d]), ad1.pr⟩
          rw [e, List.append_assoc]
        · rcases List.mem_append.mp hb with z | z
          · exact hl b z
          · rw [List.mem_singleton.mp z]; exact hD
      · show (a' ++ [d])[μ'.length]? = some d
        rw [← ml]
        simp
    · rw [if_neg hz] at q'
      exact q'.elim
theorem t_comp {mk : List D → M D} (M : MkOk Z mk) {vs : List Nat} (ht : ∀ j ∈ t.slots, j ∈ vs) : ∀ (σ : L2.St) (H : Hp) (Q : VK), tE Z (lcG mk mi t mc me vs) σ H Q → tLc (tI Z mi) (tG (off Z) t) (tT (off Z) mc) (tE (off Z) me) vs σ H Q :=
  fun σ H Q ⟨ad, ρ, μ, g, hl, h⟩ => by
  refine ⟨ad, ρ, μ, g, hl, (sat_bd.mp h).imp fun ds μ1 q J H1 ad1 n1 Y => ?_⟩
  intro D hD
  have q := (sat_noX.mp (sat_bd.mp q))
  have g1 := g.nx n1
  let core : Nat → Hp → Prop := fun i H' => ∃ (a' : List Addr) (μ' : Mu) (accV : List V) (accD : List PX.D), Grow H1 ad1 H' ⟨a', ad1.pr⟩ ∧ Gd Z.K H' ⟨a', D :: ad1.pr⟩ (wipe σ vs) (wipeD ρ vs) μ' ∧ H' D = some (.lst accV) ∧ Rps Z.K H' ⟨a', D :: ad1.pr⟩ accV accD ∧
    Sat (lcD t mc me (ds.drop i) (wipeD ρ vs) μ') (fun ys μf => Sat (mk (accD ++ ys) μf) (KE Z H ad Q) (XW Z H ad)) (fun _ _ => False)
  refine ⟨fun i m H' => m = ds.length - i ∧ i ≤ ds.length ∧ core i H', ⟨ds.length, rfl, Nat.zero_le _, ad1.ad, μ1, [], [], .new hD, ((g1.wipe vs).to (std_hide hD) (n1.mu.hide hD)), upd_same, .nil, ?_⟩, ?_⟩
  · rw [List.drop_zero]
    exact q
  rintro i m H' ⟨rfl, hi', a', μ', accV, accD, gr, g', eD, rD, q'⟩
  have sd : Std H1 ad1 H' ⟨a', D :: ad1.pr⟩ := ⟨fun b o hb nt e => ⟨⟨(gr.nin hb e).1, fun z => by
    rcases List.mem_cons.mp z with z | z
    · rw [z, hD] at e; cases e
    · exact hb.2 z⟩, gr.keep b o hb.1 nt e⟩, fun n a e => gr.at e⟩
  by_cases hlt : i < ds.length
  · refine .inr ⟨Y.go H' _ i sd hlt, core (i + 1), fun H2 z => ⟨ds.length - (i + 1), by omega, rfl, hlt, z⟩, fun x H2 yl => ?_⟩
    have hd : ds[i]? = some ds[i] := List.getElem?_eq_getElem hlt
    obtain ⟨n2, rx⟩ := Y.yld H' _ μ' i x H2 ds[i] sd g'.mu hd yl
    rw [List.drop_eq_getElem_cons hlt] at q'
    obtain ⟨ρ1, e1, q2⟩ := sat_lft.mp (sat_bd.mp q')
    have q3 := sat_bd.mp q2
    refine ⟨_, wipeD ρ vs, μ', ds[i], ρ1, g'.nx n2, by rw [wipe_length]; exact hl, rx, e1, fun σ3 g3 l3 of => ⟨wipe_eq (by rw [l3]; exact hl.symm) fun j hj => of j fun z => hj (ht j z), ?_⟩⟩
    refine ⟨_, ρ1, μ', g3, l3, q3.mono (fun b μ4 z H3 ad3 n3 => ?_) fun _ _ z => z.elim⟩
    have nD : ∀ {P : Pl}, P.pr = D :: ad1.pr → P = ⟨P.ad, D :: ad1.pr⟩ := fun {P} e => by rw [← e]
    have e3 : ad3.pr = D :: ad1.pr := by rw [n3.gr.pr_eq]
    have dn : D ∉ (⟨a', D :: ad1.pr⟩ : Pl).ad := (g'.mu.prn D List.mem_cons_self).2
    have grt : ∀ {H4 : Hp} {ad4 : Pl}, Grow H' ⟨a', D :: ad1.pr⟩ H4 ad4 → Grow H1 ad1 H4 ⟨ad4.ad, ad1.pr⟩ := fun {H4 ad4} w => gr.trans (by
      obtain ⟨l, e, n⟩ := w.pre
      exact ⟨⟨l, by rw [e]; rfl, n⟩, w.keep, w.live⟩)
    cases b with
    | false =>
      refine iteF ?_
      have z : Sat (lcD t mc me (ds.drop (i + 1)) (wipeD ρ vs) μ4) _ _ := z
      have n4 := n2.trans n3
      exact ⟨ad3.ad, μ4, accV, accD, grt n4.gr, (nD e3) ▸ g'.nx n4, n4.gr.keep D _ dn nt_lst.1 eD, (nD e3) ▸ Rps.grow n4.gr _ _ rD, z⟩
    | true =>
      refine iteT ?_
      have z : Sat (bd (me ρ1) (fun y => bd (lcD t mc me (ds.drop (i + 1)) (wipeD ρ vs)) fun ys => rt (y :: ys)) μ4) _ _ := z
      refine ⟨ad3, ρ1, μ4, g3.nx n3, l3, (sat_bd.mp z).mono (fun d μ5 z2 v H4 ad4 n5 r5 => ?_) fun _ _ z => z.elim⟩
      have z2 := sat_bd.mp z2
      have n4 := (n2.trans n3).trans n5
      have e4 : ad4.pr = D :: ad1.pr := by rw [n4.gr.pr_eq]
      have eD4 := n4.gr.keep D _ dn nt_lst.1 eD
      have z3 : Sat (lcD t mc me (ds.drop (i + 1)) (wipeD ρ vs) μ5) (fun ys μf => Sat (mk ((accD ++ [d]) ++ ys) μf) (KE Z H ad Q) (XW Z H ad)) (fun _ _ => False) := z2.imp fun ys μf w => by
        rw [List.append_assoc]
        exact w
      refine ⟨accV, eD4, ?_, ?_⟩
      · have hz : (accD ++ [d]).length ≤ 1000000 := by
          cases hr : lcD t mc me (ds.drop (i + 1)) (wipeD ρ vs) μ5 with
          | ok ys μf =>
            rw [hr] at z3
            have z3 : Sat (mk ((accD ++ [d]) ++ ys) μf) (KE Z H ad Q) (XW Z H ad) := z3
            exact Nat.le_trans (by simp) (M.len z3)
          | ex x μf => rw [hr] at z3; exact z3.elim
          | no => rw [hr] at z3; exact z3.elim
        have hs := million (n := accD.length + 1) (by simpa using hz)
        rw [rD.length]
        exact hs
      · have dp : D ∈ ad4.pr := by rw [e4]; exact List.mem_cons_self
        have so : Std H4 ad4 (upd H4 D (.lst (accV ++ [v]))) ad4 := std_over dp
        have m5 : MuOk Z.K (upd H4 D (.lst (accV ++ [v]))) ad4 μ5 := n4.mu.over dp ⟨_, eD4, nt_lst⟩
        refine ⟨ad4.ad, μ5, accV ++ [v], accD ++ [d], ?_, (nD e4) ▸ (g'.nx n4).to so m5, upd_same, (nD e4) ▸ (Rps.std so _ _ ((Rps.grow n4.gr _ _ rD).app (.cons r5 .nil))), z3⟩
        have w := grt n4.gr
        refine ⟨w.pre, fun b o hb nt e => by rw [upd_ne (ne_of_none e hD)]; exact w.keep b o hb nt e, fun b e => w.live b ?_⟩
        by_cases hb : b = D
        · rw [hb, upd_same] at e; cases e
        · rw [upd_ne hb] at e; exact e
  · have e : i = ds.length := by omega
    subst e
    rw [List.drop_length] at q'
    have q' : Sat (mk (accD ++ []) μ') (KE Z H ad Q) (XW Z H ad) := q'
    rw [List.append_nil] at q'
    exact .inl ⟨Y.stop H' _ sd, M.fin n1 hD gr g'.mu eD rD q'⟩
theorem x_comp {mk : List D → M D} (M : MkOk Z mk) (hc : X.calm = true) (hN : X.N.Nodup) (hi : PI X tg iter (tI Z mi)) (ok : BlkOk X.N X.env.scope scope own) (ht : ∀ j ∈ t.slots, j ∈ own.map (·.2))
    (hg : ∀ (s : Shared) (H : Hp) (C : Addr) (cl : List (Str × Addr)) (fp : List Addr), PG (X.blk s H scope (compEnvC scope cl C X.env) fp) tg (tG (off Z) t))
    (hcd : ∀ (s : Shared) (H : Hp) (C : Addr) (cl : List (Str × Addr)) (fp : List Addr), PTs (X.blk s H scope (compEnvC scope cl C X.env) fp) ifs (tT (off Z) mc))
    (he : ∀ (s : Shared) (H : Hp) (C : Addr) (cl : List (Str × Addr)) (fp : List Addr), PE (X.blk s H scope (compEnvC scope cl C X.env) fp) elt (tE (off Z) me)) (hs : ∀ x, foldedSetIterable iter X.env x = pure x) :
    PE X (.ListComp elt [⟨tg, iter, ifs, 0⟩] scope pos) (tE Z (lcG mk mi t mc me (own.map (·.2)))) :=
  PEi (pe_lc hc hN hi ok hg hcd he hs) (t_comp M ht)
theorem s_setLc {mk : List D → M D} (M : MkOk Z mk) (hc : X.calm = true) (hN : X.N.Nodup) (hy : X.N[i]? = some y) (hyl : X.env.scope.names.lookup y = some .local) (hsw : swapsWith (.ListComp elt [⟨tg, iter, ifs, 0⟩] scope pos) (some (.Name y py)) spos.line X.env = pure true)
    (hi : PI X tg iter (tI Z mi)) (ok : BlkOk X.N X.env.scope scope own) (ht : ∀ j ∈ t.slots, j ∈ own.map (·.2))
    (hg : ∀ (s : Shared) (H : Hp) (C : Addr) (cl : List (Str × Addr)) (fp : List Addr), PG (X.blk s H scope (compEnvC scope cl C X.env) fp) tg (tG (off Z) t))
    (hcd : ∀ (s : Shared) (H : Hp) (C : Addr) (cl : List (Str × Addr)) (fp : List Addr), PTs (X.blk s H scope (compEnvC scope cl C X.env) fp) ifs (tT (off Z) mc))
    (he : ∀ (s : Shared) (H : Hp) (C : Addr) (cl : List (Str × Addr)) (fp : List Addr), PE (X.blk s H scope (compEnvC scope cl C X.env) fp) elt (tE (off Z) me)) (hs : ∀ x, foldedSetIterable iter X.env x = pure x) :
    PS X (.Assign [.Name y py] (.ListComp elt [⟨tg, iter, ifs, 0⟩] scope pos) spos) (tS Z fun ρ => bd (lcG mk mi t mc me (own.map (·.2)) ρ) fun d => rt (.nx (ρ.set i (some d)))) :=
  PSi (ps_setLc hc hN hy hyl hsw hi ok hg hcd he hs) fun E σ H ⟨ad, ρ, μ, g, hl, h⟩ => t_comp M ht σ H _ (step g hl h fun v d H1 ad1 μ1 n1 g1 r1 q1 => q1 _ H1 ad1 n1 (g1.set r1 i) (by rw [List.length_set]; exact hl))
end
end PX
namespace PX
open PySem PySem.Spec PyProof.Rows L2
variable [Tabc]
variable {Z : Wd}
/-! ### 21. two sequences walked together; a sequence with its places -/
/-- true: a list; false: a tuple -/
def SqK (K : PySem.W.Frag) (H : Hp) (k : Bool) (a : Addr) (xs : List V) : Prop := match k with
  | true => SqL K H a xs
  | false => SqT K H a xs
def SeqAt (k : Bool) (h : Heap) (a : Addr) (its : Array Value) : Prop := match k with
  | true => h.IsList a its
  | false => h.IsTuple a its
def IterAt (k : Bool) (h : Heap) (it a : Addr) (i : Nat) : Prop := match k with
  | true => h.IsListIter it a i
  | false => h.IsTupleIter it a i
def iterObj (k : Bool) (a : Addr) : Obj := match k with
  | true => { cls := .type "list_iterator", data := .fields #[.ref a, .int 0 0] }
  | false => { cls := .type "tuple_iterator", data := .fields #[.ref a, .int 0 0] }
section
variable {X : Cx} {pins : List (Addr × Obj)} {σ : L2.St} {H : Hp} {s : Shared} {k : Bool} {a : Addr} {xs ys : List V}
theorem inv_seq (I : Inv X pins σ H s) (h : SqK X.K H k a xs) : ∃ its : List Value, Vals xs its ∧ SeqAt k s.heap a its.toArray := by
  cases k with
  | true =>
    obtain ⟨its, r, p, _⟩ := I.list h
    exact ⟨its, r, p.isList⟩
  | false =>
    obtain ⟨its, r, p, _⟩ := I.tuple h
    exact ⟨its, r, p⟩
theorem inv_inj (I : Inv X pins σ H s) (h : SqK X.K H k a xs) (h' : SqK X.K H k a ys) : xs = ys := by
  cases k with
  | true => exact I.list_inj h h'
  | false => exact I.tuple_inj h h'
theorem drawsK {prog : Program} {w : World} {A : Around} (hh : A.handled = none) (it : Addr) (k : Bool) (a : Addr) (hne : a ≠ it) (items : Array Value) :
    Draws prog w A it [it, a] items.size (fun i v => items[i]? = some v) (fun i h => IterAt k h it a i ∧ SeqAt k h a items) := by
  cases k with
  | true => exact Draws.list hh it a hne items
  | false => exact Draws.tuple hh it a hne items
theorem beginsK (k : Bool) (a : Addr) (items : Array Value) : Begins (.ref a) (iterObj k a) fun h => SeqAt k h a items := by
  cases k with
  | true => exact begins_list a items
  | false => exact begins_tuple a items
theorem seq_lt {h : Heap} {its : Array Value} (q : SeqAt k h a its) : a < h.objs.size := by
  cases k with
  | true =>
    obtain ⟨o, e, _⟩ := q
    exact Heap.lt_size e
  | false =>
    obtain ⟨o, e, _⟩ := q
    exact Heap.lt_size e
theorem iter_new {h : Heap} {it : Addr} (e : h.get? it = some (iterObj k a)) : IterAt k h it a 0 := by
  cases k with
  | true => exact ⟨_, e, rfl, rfl⟩
  | false => exact ⟨_, e, rfl, rfl⟩
theorem iter_obj {h : Heap} {it : Addr} {i : Nat} (q : IterAt k h it a i) : ∃ o, h.get? it = some o ∧ ∀ v, o.data ≠ .cell v := by
  cases k with
  | true =>
    obtain ⟨o, e, _, d⟩ := q
    exact ⟨o, e, fun v z => by rw [d] at z; cases z⟩
  | false =>
    obtain ⟨o, e, _, d⟩ := q
    exact ⟨o, e, fun v z => by rw [d] at z; cases z⟩
theorem iter_at {h h' : Heap} {it : Addr} {i : Nat} (q : IterAt k h it a i) (hk : ∀ o, h.get? it = some o → h'.get? it = some o) : IterAt k h' it a i := by
  cases k with
  | true => exact q.at hk
  | false => exact q.at hk
end
def ItZ (K : PySem.W.Frag) (k1 : Bool) (a : Addr) (k2 : Bool) (b : Addr) : It :=
  ⟨fun i H => ∃ (xs ys : List V) (x y : V), SqK K H k1 a xs ∧ SqK K H k2 b ys ∧ xs[i]? = some x ∧ ys[i]? = some y,
    fun i H v H' => ∃ T x y, v = .ref T ∧ H T = none ∧ H' = upd H T (.tup [x, y]) ∧ (∀ xs, SqK K H k1 a xs → xs[i]? = some x) ∧ ∀ ys, SqK K H k2 b ys → ys[i]? = some y,
    fun i H => ∃ xs ys : List V, SqK K H k1 a xs ∧ SqK K H k2 b ys ∧ min xs.length ys.length = i⟩
def ItE (K : PySem.W.Frag) (k0 : Int) (k : Bool) (a : Addr) : It :=
  ⟨fun i H => ∃ (xs : List V) (x : V), SqK K H k a xs ∧ xs[i]? = some x, fun i H v H' => ∃ T x, v = .ref T ∧ H T = none ∧ H' = upd H T (.tup [.int (k0 + (i : Int)), x]) ∧ ∀ xs, SqK K H k a xs → xs[i]? = some x, fun i H => ∃ xs : List V, SqK K H k a xs ∧ xs.length = i⟩
theorem turn_zipK {P : Program} {w : World} {K : PySem.W.Frag} {elts : List Expr} {kk : Nat} {tpos : Pos} {k1 k2 : Bool} {a b z TI TO i1 i2 : Addr} (S : ZipSep2 z TI TO i1 i2 [i1, a] [i2, b]) (n1 : a ≠ i1) (n2 : b ≠ i2) :
    Turn P w K (.Tuple elts kk tpos) (ItZ K k1 a k2 b) [z, TI, TO, i1, i2] z (fun i h => IsZip h z TI TO .none ∧ IsTupOf2 h TI (.ref i1) (.ref i2) ∧ (∃ x y, IsTupOf2 h TO x y) ∧ IterAt k1 h i1 a i ∧ IterAt k2 h i2 b i) where
  mem := by simp
  obj := fun i h st c hc => by
    obtain ⟨hz, hTI, ⟨x, y, hTO⟩, h1, h2⟩ := st
    have e' : c = z ∨ c = TI ∨ c = TO ∨ c = i1 ∨ c = i2 := by simpa using hc
    rcases e' with q | q | q | q | q
    · rw [q]; exact ⟨_, hz, fun v q => nomatch q⟩
    · rw [q]; exact ⟨_, hTI, fun v q => nomatch q⟩
    · rw [q]; exact ⟨_, hTO, fun v q => nomatch q⟩
    · rw [q]; exact iter_obj h1
    · rw [q]; exact iter_obj h2
  keep := fun i h h' st k => by
    obtain ⟨hz, hTI, ⟨x, y, hTO⟩, h1, h2⟩ := st
    exact ⟨k z (by simp) _ hz, k TI (by simp) _ hTI, ⟨x, y, k TO (by simp) _ hTO⟩, iter_at h1 fun o q => k i1 (by simp) o q, iter_at h2 fun o q => k i2 (by simp) o q⟩
  item := by
    intro X hP hw hK hc i pins s σ H E I hf st hg
    subst hP hw hK
    obtain ⟨xs, ys, x, y, hqx, hqy, hx, hy⟩ := hg
    obtain ⟨its, rv, p⟩ := inv_seq I hqx
    obtain ⟨its2, rv2, p2⟩ := inv_seq I hqy
    obtain ⟨u, hu, ru⟩ := rv.get hx
    obtain ⟨u2, hu2, ru2⟩ := rv2.get hy
    have hh : X.A.in1.handled = none := I.ok.hd hc
    have G := GoesN.zip2 (prog := X.prog) (w := X.w) (A := X.A) (elts := elts) (x1 := kk) (pos := tpos) S (drawsK hh i1 k1 a n1 its.toArray) (drawsK hh i2 k2 b n2 its2.toArray)
    obtain ⟨hz, hTI, hTO, h1, h2⟩ := id st
    have l1 : i < its.length := (List.getElem?_eq_some_iff.mp hu).1
    have l2 : i < its2.length := (List.getElem?_eq_some_iff.mp hu2).1
    refine G.goes i s _ E (by simp; omega) ⟨hz, hTI, hTO, ⟨h1, p⟩, ⟨h2, p2⟩⟩ fun v h' tk ⟨T, w1, w2, ev, hT, e1, e2, tup⟩ st' hk htk => ?_
    have e1 : its.toArray[i]? = some w1 := e1
    have e2 : its2.toArray[i]? = some w2 := e2
    have q1 : its[i]? = some w1 := by simpa using e1
    have q2 : its2[i]? = some w2 := by simpa using e2
    rw [hu] at q1
    rw [hu2] at q2
    cases q1
    cases q2
    subst ev
    obtain ⟨o, ho, hco, n, hd⟩ := tup
    have new : ObjOk X.prog X.w (upd H T (.tup [x, y])) h' T (.tup [x, y]) := ⟨by show 2 ≤ sizeLine; decide, [u, u2], .cons ru (.cons ru2 .nil), ⟨o, ho, hco, n, hd⟩⟩
    have I1 : Inv X pins σ (upd H T (.tup [x, y])) { s with heap := h', toks := tk } :=
      I.turnedNew (ch := [z, TI, TO, i1, i2]) (fun c o hb q => hk c o (fun hm => hb (by
        have e' : c = z ∨ c = TO ∨ c = i1 ∨ c = i2 := by simpa using hm
        rcases e' with q | q | q | q <;> simp [q])) q) hf hT new
    obtain ⟨hz', hTI', hTO', ⟨h1', _⟩, ⟨h2', _⟩⟩ := st'
    refine ⟨.ref T, _, I1, rfl, ⟨T, x, y, rfl, I.hok.fresh hT, rfl, fun l hl => by rw [inv_inj I hl hqx]; exact hx, fun l hl => by rw [inv_inj I hl hqy]; exact hy⟩, ⟨hz', hTI', hTO', h1', h2'⟩, fun c hcm => ?_⟩
    have hlt : c < s.heap.objs.size := by
      have e' : c = z ∨ c = TI ∨ c = TO ∨ c = i1 ∨ c = i2 := by simpa using hcm
      rcases e' with q | q | q | q | q
      · rw [q]; exact Heap.lt_size hz
      · rw [q]; exact Heap.lt_size hTI
      · rw [q]; obtain ⟨_, _, hTO⟩ := hTO; exact Heap.lt_size hTO
      · rw [q]; obtain ⟨_, e1, _⟩ := iter_obj h1; exact Heap.lt_size e1
      · rw [q]; obtain ⟨_, e2, _⟩ := iter_obj h2; exact Heap.lt_size e2
    rw [upd_ne (Nat.ne_of_lt (Nat.lt_of_lt_of_le hlt hT))]
    exact (hf c hcm).1
  done := by
    intro X hP hw hK hc i pins s σ H E I hf st hg
    subst hP hw hK
    obtain ⟨xs, ys, hqx, hqy, hend⟩ := hg
    obtain ⟨its, rv, p⟩ := inv_seq I hqx
    obtain ⟨its2, rv2, p2⟩ := inv_seq I hqy
    have hh : X.A.in1.handled = none := I.ok.hd hc
    have G := GoesN.zip2 (prog := X.prog) (w := X.w) (A := X.A) (elts := elts) (x1 := kk) (pos := tpos) S (drawsK hh i1 k1 a n1 its.toArray) (drawsK hh i2 k2 b n2 its2.toArray)
    obtain ⟨hz, hTI, hTO, h1, h2⟩ := id st
    have e : i = min its.toArray.size its2.toArray.size := by
      rw [← hend, rv.length, rv2.length]
      simp
    subst e
    refine G.stops s _ E ⟨hz, hTI, hTO, ⟨h1, p⟩, ⟨h2, p2⟩⟩ fun h' tk hk _ => I.turnedL (t' := tk) (ch := [z, TI, TO, i1, i2]) (fun c o hb q => hk c o (fun hm => hb (by
        have e' : c = z ∨ c = TO ∨ c = i1 ∨ c = i2 := by simpa using hm
        rcases e' with q | q | q | q <;> simp [q])) q) hf
  self := fun A i s Q E st h => wpAny_pyIter_zip st.1 h
theorem turn_enumK {P : Program} {w : World} {K : PySem.W.Frag} {elts : List Expr} {kk : Nat} {tpos : Pos} {k : Bool} {k0 : Int} {a e it : Addr} (n1 : a ≠ it) (n2 : e ≠ it) (n3 : e ≠ a) :
    Turn P w K (.Tuple elts kk tpos) (ItE K k0 k a) [e, it] e (fun i h => (∃ old, IsEnum h e it (k0 + (i : Int)) old) ∧ IterAt k h it a i) where
  mem := by simp
  obj := fun i h st c hc => by
    obtain ⟨⟨old, he⟩, h1⟩ := st
    have e' : c = e ∨ c = it := by simpa using hc
    rcases e' with q | q
    · rw [q]; exact ⟨_, he, fun v q => nomatch q⟩
    · rw [q]; exact iter_obj h1
  keep := fun i h h' st k => by
    obtain ⟨⟨old, he⟩, h1⟩ := st
    exact ⟨⟨old, k e (by simp) _ he⟩, iter_at h1 fun o q => k it (by simp) o q⟩
  item := by
    intro X hP hw hK hc i pins s σ H E I hf st hg
    subst hP hw hK
    obtain ⟨xs, x, hqx, hx⟩ := hg
    obtain ⟨its, rv, p⟩ := inv_seq I hqx
    obtain ⟨u, hu, ru⟩ := rv.get hx
    have hh : X.A.in1.handled = none := I.ok.hd hc
    have G := GoesN.enumFrom (prog := X.prog) (w := X.w) (A := X.A) (elts := elts) (x1 := kk) (pos := tpos) k0 (drawsK hh it k a n1 its.toArray) e n2 (by simp [n2, n3]) (by simp)
    obtain ⟨he, h1⟩ := id st
    have l1 : i < its.length := (List.getElem?_eq_some_iff.mp hu).1
    refine G.goes i s _ E (by simp; omega) ⟨he, ⟨h1, p⟩⟩ fun v h' tk ⟨T, t, w1, ev, hT, e1, tup⟩ st' hk htk => ?_
    have e1 : its.toArray[i]? = some w1 := e1
    have q1 : its[i]? = some w1 := by simpa using e1
    rw [hu] at q1
    cases q1
    subst ev
    obtain ⟨o, ho, hco, n, hd⟩ := tup
    have new : ObjOk X.prog X.w (upd H T (.tup [.int (k0 + (i : Int)), x])) h' T (.tup [.int (k0 + (i : Int)), x]) := ⟨by show 2 ≤ sizeLine; decide, [.int (k0 + (i : Int)) t, u], .cons ⟨_, rfl⟩ (.cons ru .nil), ⟨o, ho, hco, n, hd⟩⟩
    have I1 : Inv X pins σ (upd H T (.tup [.int (k0 + (i : Int)), x])) { s with heap := h', toks := tk } :=
      I.turnedNew (ch := [e, it]) (fun c o hb q => hk c o hb q) hf hT new
    obtain ⟨he', ⟨h1', _⟩⟩ := st'
    refine ⟨.ref T, _, I1, rfl, ⟨T, x, rfl, I.hok.fresh hT, rfl, fun l hl => by rw [inv_inj I hl hqx]; exact hx⟩, ⟨he', h1'⟩, fun c hcm => ?_⟩
    have hlt : c < s.heap.objs.size := by
      have e' : c = e ∨ c = it := by simpa using hcm
      rcases e' with q | q
      · rw [q]; obtain ⟨_, he⟩ := he; exact Heap.lt_size he
      · rw [q]; obtain ⟨_, e1, _⟩ := iter_obj h1; exact Heap.lt_size e1
    rw [upd_ne (Nat.ne_of_lt (Nat.lt_of_lt_of_le hlt hT))]
    exact (hf c hcm).1
  done := by
    intro X hP hw hK hc i pins s σ H E I hf st hg
    subst hP hw hK
    obtain ⟨xs, hqx, hend⟩ := hg
    obtain ⟨its, rv, p⟩ := inv_seq I hqx
    have hh : X.A.in1.handled = none := I.ok.hd hc
    have G := GoesN.enumFrom (prog := X.prog) (w := X.w) (A := X.A) (elts := elts) (x1 := kk) (pos := tpos) k0 (drawsK hh it k a n1 its.toArray) e n2 (by simp [n2, n3]) (by simp)
    obtain ⟨he, h1⟩ := id st
    have e0 : i = its.toArray.size := by
      rw [← hend, rv.length]
      simp
    subst e0
    refine G.stops s _ E ⟨he, ⟨h1, p⟩⟩ fun h' tk hk _ => I.turnedL (t' := tk) (ch := [e, it]) (fun c o hb q => hk c o hb q) hf
  self := fun A i s Q E st h => let ⟨⟨_, he⟩, _⟩ := st; wpAny_pyIter_enum he h
/-! the calls -/
theorem meets_enum1 {v : Value} {o : Obj} {H : Heap → Prop} (B : Begins v o H) :
    Meets (Builtin.«enumerate.__new__» ⟨[.type "enumerate", v], []⟩) (fun _ R s => H s.heap ∧
      R (.ok (.ret (.ref (s.heap.push o).objs.size))) { s with heap := (s.heap.push o).push { cls := .type "enumerate", data := .fields #[.none, .bool false, .ref s.heap.objs.size, rawInt 0, .none, .none] } }) :=
  .of_wp fun prog w A R s h => by
    obtain ⟨hp, g, d, tk, os⟩ := s; obtain ⟨h1, h⟩ := h
    have hsub := sub_enumerate
    have q1 : ∀ {A' : Around} {E : Value → Shared → Prop} {Q : Value → Shared → Prop}, Q (.ref hp.objs.size) ⟨hp.push o, g, d, tk, os⟩ → wpAny (model prog w) A' (pyIter v) Q E ⟨hp, g, d, tk, os⟩ :=
      fun q => B.iter prog w _ _ ⟨hp, g, d, tk, os⟩ _ h1 q
    wp_walk using q1
    refine wpAny_stack_any fun st => wpAny_pure ?_
    split
    · rename_i c _ _ _ _ _
      cases (c == Value.type "enumerate")
      · wp_walk using q1
        exact ⟨_, rfl, h⟩
      · wp_walk using q1
        exact ⟨_, rfl, h⟩
    · wp_walk using q1
      exact ⟨_, rfl, h⟩
theorem enum1_begins {prog : Program} {w : World} {A : Around} {E : Value → Shared → Prop} {s : Shared} {v : Value} {o : Obj} {H : Heap → Prop} {Q : Value → Shared → Prop} (B : Begins v o H) (h1 : H s.heap)
    (h : ∀ h', IsEnum h' (s.heap.objs.size + 1) s.heap.objs.size 0 .none → h'.get? s.heap.objs.size = some o → h'.objs.size = s.heap.objs.size + 2 →
      (∀ b o, s.heap.get? b = some o → h'.get? b = some o) → Q (.ref (s.heap.objs.size + 1)) { s with heap := h' }) :
    wpAny (model prog w) A (call (.type "enumerate") [v]) Q E s := by
  refine callType_new F.called_enumerate (by decide) (F.typeCall_enumerate_1 _) (F.newCall_enumerate_1 _) (fun obj => F.args_object_init_2 obj _) F.entry_enumerate_new
    (meets_enum1 B) ⟨h1, ?_⟩
  have hz : (s.heap.push o).objs.size = s.heap.objs.size + 1 := Heap.size_push ..
  show _ ∧ _
  rw [hz]
  have he : IsEnum ((s.heap.push o).push { cls := .type "enumerate", data := .fields #[.none, .bool false, .ref s.heap.objs.size, rawInt 0, .none, .none] }) (s.heap.objs.size + 1) s.heap.objs.size 0 .none := by
    have := Heap.get?_push_size (s.heap.push o) (o := { cls := .type "enumerate", data := .fields #[.none, .bool false, .ref s.heap.objs.size, rawInt 0, .none, .none] }) rfl
    rw [hz] at this; exact this
  refine ⟨⟨_, he, rfl⟩, h _ he (Heap.get?_push_of_some _ (Heap.get?_push_size _ B.free)) (by rw [Heap.size_push, hz]) fun b o x => Heap.get?_push_of_some _ (Heap.get?_push_of_some _ x)⟩
theorem nat_ne {x y : Nat} (h : x ≠ y) : (show Addr from x) ≠ (show Addr from y) := h
theorem sep_n (n a b : Nat) (la : a < n) (lb : b < n) : ZipSep2 (n + 4) (n + 2) (n + 3) n (n + 1) [n, a] [n + 1, b] := by
  refine ⟨nat_ne ?_, nat_ne ?_, nat_ne ?_, nat_ne ?_, List.mem_cons_self, ?_, ?_, nat_ne ?_, List.mem_cons_self, ?_, ?_, ?_, ?_⟩
  all_goals first
    | omega
    | (intro hm
       rcases List.mem_cons.mp hm with z | z
       · exact absurd z (nat_ne (by omega))
       · exact absurd (List.mem_singleton.mp z) (nat_ne (by omega)))
def iZipK (K : PySem.W.Frag) (ta : TA) : TI := fun σ H R => ta σ H fun vs H1 => ∃ k1 k2 a b xs ys, vs = [.ref a, .ref b] ∧ SqK K H1 k1 a xs ∧ SqK K H1 k2 b ys ∧ R (ItZ K k1 a k2 b) H1
def iEnumK (K : PySem.W.Frag) (ta : TA) : TI := fun σ H R => ta σ H fun vs H1 => ∃ k a xs, vs = [.ref a] ∧ SqK K H1 k a xs ∧ R (ItE K 0 k a) H1
section
variable {X : Cx} {e e2 : Expr} {ta : TA} {p pos tpos : Pos} {elts : List Expr} {kk : Nat}
theorem pi_zipK (hg : Gl X "zip") (hm : X.mg "zip" = none) (ha : PA X [e, e2] ta)
    (hs : starEach [e, e2] X.env = (false, eval e X.env) :: starEach [e2] X.env) (hpl : (backTo pos (starEach [e2] X.env)).any (·.1) = false) :
    PI X (.Tuple elts kk tpos) (.Call (.Name "zip" p) [e, e2] [] pos) (iZipK X.K ta) := by
  refine ⟨fun pins s σ H R I h => ?_⟩
  refine Call_ (ld_blt I hg hm PyProof.Rows.boot_zip (PyProof.Rows.callWith_type1 (thn (ha.run pos pins s σ H _ I h) fun us s1 ⟨vs, H1, I1, r1, q1⟩ => ?_) hs hpl))
  obtain ⟨k1, k2, a, b, xs, ys, ex, hqx, hqy, q⟩ := q1
  subst ex
  cases r1 with
  | cons r rr =>
    cases rr with
    | cons r' rr =>
      cases rr
      cases r
      cases r'
      obtain ⟨its, rv, p1⟩ := inv_seq I1 hqx
      obtain ⟨its2, rv2, p2⟩ := inv_seq I1 hqy
      have la := seq_lt p1
      have lb := seq_lt p2
      refine zip_begins2 (beginsK k1 a its.toArray) (beginsK k2 b its2.toArray) p1 p2 fun h' hz hTI hTO h1 h2 hsz hk => wpAny_pyIter_zip hz ?_
      have I2 : Inv X pins σ H1 { s1 with heap := h' } := I1.kept (t' := s1.toks) hk
      refine ⟨s1.heap.objs.size + 4, [s1.heap.objs.size + 4, s1.heap.objs.size + 2, s1.heap.objs.size + 3, s1.heap.objs.size, s1.heap.objs.size + 1], _, _, H1, rfl, I2,
        turn_zipK (k1 := k1) (k2 := k2) ?_ (Nat.ne_of_lt la) (Nat.ne_of_lt (Nat.lt_succ_of_lt lb)), ⟨hz, hTI, ⟨_, _, hTO⟩, iter_new h1, iter_new h2⟩, fun c hcm => ?_, q⟩
      · exact sep_n _ _ _ la lb
      · have e' : c = s1.heap.objs.size + 4 ∨ c = s1.heap.objs.size + 2 ∨ c = s1.heap.objs.size + 3 ∨ c = s1.heap.objs.size ∨ c = s1.heap.objs.size + 1 := by simpa using hcm
        have hle : s1.heap.objs.size ≤ c := by
          rcases e' with z | z | z | z | z
          · rw [z]; exact Nat.le_add_right _ _
          · rw [z]; exact Nat.le_add_right _ _
          · rw [z]; exact Nat.le_add_right _ _
          · rw [z]; exact Nat.le_refl _
          · rw [z]; exact Nat.le_add_right _ _
        exact I1.fpOk hle (I1.hok.fresh hle)
theorem pi_enumK (hg : Gl X "enumerate") (hm : X.mg "enumerate" = none) (ha : PA X [e] ta) (hs : starEach [e] X.env = [(false, eval e X.env)]) :
    PI X (.Tuple elts kk tpos) (.Call (.Name "enumerate" p) [e] [] pos) (iEnumK X.K ta) := by
  refine ⟨fun pins s σ H R I h => ?_⟩
  refine Call_ (ld_blt I hg hm boot_enumerate (PyProof.Rows.callWith_type1 (thn (ha.run pos pins s σ H _ I h) fun us s1 ⟨vs, H1, I1, r1, q1⟩ => ?_) hs rfl))
  obtain ⟨k, a, xs, ex, hqx, q⟩ := q1
  subst ex
  cases r1 with
  | cons r rr =>
    cases rr
    cases r
    obtain ⟨its, rv, p1⟩ := inv_seq I1 hqx
    have la := seq_lt p1
    refine enum1_begins (beginsK k a its.toArray) p1 fun h' he hit hsz hk => wpAny_pyIter_enum he ?_
    have I2 : Inv X pins σ H1 { s1 with heap := h' } := I1.kept (t' := s1.toks) hk
    refine ⟨s1.heap.objs.size + 1, [s1.heap.objs.size + 1, s1.heap.objs.size], _, _, H1, rfl, I2, turn_enumK (k := k) (Nat.ne_of_lt la) (Nat.succ_ne_self _) (Nat.ne_of_gt (Nat.lt_succ_of_lt la)), ⟨⟨.none, he⟩, iter_new hit⟩, fun b hb => ?_, q⟩
    have e' : b = s1.heap.objs.size + 1 ∨ b = s1.heap.objs.size := by simpa using hb
    have hle : s1.heap.objs.size ≤ b := by
      rcases e' with z | z
      · rw [z]; exact Nat.le_add_right _ _
      · rw [z]; exact Nat.le_refl _
    exact I1.fpOk hle (I1.hok.fresh hle)
end
end PX
namespace PX
open PySem PySem.Spec PyProof.Rows L2
variable [Tabc]
variable {Z : Wd}
/-! ### 22. zip and enumerate read -/
def zipD (xs ys : List D) : List D := List.zipWith (fun x y => D.tup [x, y]) xs ys
def enumD : Int → List D → List D
  | _, [] => []
  | k, x :: xs => .tup [.int k, x] :: enumD (k + 1) xs
theorem enumD_length : ∀ (xs : List D) (k : Int), (enumD k xs).length = xs.length
  | [], _ => rfl
  | x :: xs, k => by show (enumD (k + 1) xs).length + 1 = xs.length + 1; rw [enumD_length xs]
theorem enumD_get : ∀ (xs : List D) (k : Int) (i : Nat), (enumD k xs)[i]? = (xs[i]?).map fun x => D.tup [.int (k + (i : Int)), x]
  | [], _, _ => by simp [enumD]
  | x :: xs, k, 0 => by simp [enumD]
  | x :: xs, k, i + 1 => by
    show (enumD (k + 1) xs)[i]? = _
    rw [enumD_get xs (k + 1) i]
    have e : k + 1 + (i : Int) = k + ((i + 1 : Nat) : Int) := by omega
    rw [e]
    simp
def sqD (d : D) : Option (List D) := match d with
  | .lst ds => some ds
  | .tup ds => some ds
  | _ => none
theorem sqD_ok {K : PySem.W.Frag} {H : Hp} {ad : Pl} {v : V} {d : D} {ds : List D} (r : Rp K H ad v d) (h : sqD d = some ds) : ∃ k a vs, v = .ref a ∧ Rps K H ad vs ds ∧ ∀ H' ad', Std H ad H' ad' → SqK K H' k a vs := by
  cases d with
  | lst es =>
    cases h
    cases r with
    | @lst a vs _ la p => exact ⟨true, a, vs, rfl, p, fun H' ad' s => (la.std s).sq⟩
  | tup es =>
    cases h
    cases r with
    | @tup a vs _ la p => exact ⟨false, a, vs, rfl, p, fun H' ad' s => (la.std s).sq⟩
  | _ => cases h
theorem std_refl {H : Hp} {ad : Pl} : Std H ad H ad := ⟨fun _ _ h _ q => ⟨h, q⟩, fun _ _ h => h⟩
theorem yields_zip {K : PySem.W.Frag} {H : Hp} {ad : Pl} {k1 k2 : Bool} {a b : Addr} {vs ws : List V} {ds es : List D} (h1 : ∀ H' ad', Std H ad H' ad' → SqK K H' k1 a vs) (h2 : ∀ H' ad', Std H ad H' ad' → SqK K H' k2 b ws)
    (r1 : Rps K H ad vs ds) (r2 : Rps K H ad ws es) : Yields K H ad (ItZ K k1 a k2 b) (zipD ds es) where
  go := fun H' ad' i g hi => by
    have hi : i < min ds.length es.length := by simpa [zipD] using hi
    obtain ⟨v, hv, _⟩ := r1.get (List.getElem?_eq_getElem (show i < ds.length by omega))
    obtain ⟨w, hw, _⟩ := r2.get (List.getElem?_eq_getElem (show i < es.length by omega))
    exact ⟨vs, ws, v, w, h1 _ _ g, h2 _ _ g, hv, hw⟩
  stop := fun H' ad' g => ⟨vs, ws, h1 _ _ g, h2 _ _ g, by simp [zipD, r1.length, r2.length]⟩
  yld := fun H' ad' μ i x H2 d g m hd ⟨T, x1, x2, e, hT, eH, f1, f2⟩ => by
    subst e eH
    have hd : (zipD ds es)[i]? = some d := hd
    unfold zipD at hd
    rw [List.getElem?_zipWith] at hd
    cases q1 : ds[i]? with
    | none => rw [q1] at hd; cases hd
    | some d1 =>
      cases q2 : es[i]? with
      | none => rw [q1, q2] at hd; cases hd
      | some d2 =>
        rw [q1, q2] at hd
        cases hd
        obtain ⟨v, hv, rv⟩ := r1.get q1
        obtain ⟨w, hw, rw'⟩ := r2.get q2
        have e1 := f1 _ (h1 _ _ g)
        have e2 := f2 _ (h2 _ _ g)
        rw [hv] at e1
        rw [hw] at e2
        cases e1
        cases e2
        exact ⟨m.new hT, .newTup m hT (.cons (Rp.std g _ _ rv) (.cons (Rp.std g _ _ rw') .nil))⟩
theorem yields_enum {K : PySem.W.Frag} {H : Hp} {ad : Pl} {k : Bool} {k0 : Int} {a : Addr} {vs : List V} {ds : List D} (h1 : ∀ H' ad', Std H ad H' ad' → SqK K H' k a vs)
    (r1 : Rps K H ad vs ds) : Yields K H ad (ItE K k0 k a) (enumD k0 ds) where
  go := fun H' ad' i g hi => by
    rw [enumD_length] at hi
    obtain ⟨v, hv, _⟩ := r1.get (List.getElem?_eq_getElem hi)
    exact ⟨vs, v, h1 _ _ g, hv⟩
  stop := fun H' ad' g => ⟨vs, h1 _ _ g, by rw [r1.length, enumD_length]⟩
  yld := fun H' ad' μ i x H2 d g m hd ⟨T, x1, e, hT, eH, f1⟩ => by
    subst e eH
    rw [enumD_get] at hd
    obtain ⟨d1, q1, q2⟩ := Option.map_eq_some_iff.mp hd
    cases q2
    obtain ⟨v, hv, rv⟩ := r1.get q1
    have e1 := f1 _ (h1 _ _ g)
    rw [hv] at e1
    cases e1
    exact ⟨m.new hT, .newTup m hT (.cons (.int _) (.cons (Rp.std g _ _ rv) .nil))⟩
def zipM (ds : List D) : M (List D) := match ds with
  | [x, y] => lft ((sqD x).bind fun xs => (sqD y).map fun ys => zipD xs ys)
  | _ => stk
def enumM (ds : List D) : M (List D) := match ds with
  | [x] => lft ((sqD x).map fun xs => enumD 0 xs)
  | _ => stk
section
variable {X : Cx} {a b : Expr} {ms : List (Rho → M D)} {p pos tpos : Pos} {elts : List Expr} {kk : Nat}
theorem i_zip (hK : Z.K = X.K) (hg : Gl X "zip") (hm : X.mg "zip" = none) (ha : PA X [a, b] (tA Z (evA ms))) (hs : starEach [a, b] X.env = (false, eval a X.env) :: starEach [b] X.env) (hpl : (backTo pos (starEach [b] X.env)).any (·.1) = false) :
    PI X (.Tuple elts kk tpos) (.Call (.Name "zip" p) [a, b] [] pos) (tI Z fun ρ => bd (evA ms ρ) zipM) :=
  PIi (pi_zipK hg hm ha hs hpl) fun σ H R ⟨ad, ρ, μ, g, hl, h⟩ => stepA g hl h fun vs ds H1 ad1 μ1 n1 g1 r1 q1 => by
    match ds, r1, q1 with
    | [x, y], r1, q1 =>
      obtain ⟨v, w, rfl, rx, ry⟩ := rps2 r1
      obtain ⟨es, e, q⟩ := sat_lft.mp q1
      obtain ⟨xs, ex, e⟩ := Option.bind_eq_some_iff.mp e
      obtain ⟨ys, ey, e⟩ := Option.map_eq_some_iff.mp e
      subst e
      obtain ⟨k1, c1, vs, rfl, p1, s1⟩ := sqD_ok rx ex
      obtain ⟨k2, c2, ws, rfl, p2, s2⟩ := sqD_ok ry ey
      exact ⟨k1, k2, c1, c2, vs, ws, rfl, hK ▸ s1 _ _ std_refl, hK ▸ s2 _ _ std_refl, hK ▸ q _ H1 ad1 n1 (yields_zip s1 s2 p1 p2)⟩
    | [], _, q1 => exact q1.elim
    | [_], _, q1 => exact q1.elim
    | _ :: _ :: _ :: _, _, q1 => exact q1.elim
theorem i_enum (hK : Z.K = X.K) (hg : Gl X "enumerate") (hm : X.mg "enumerate" = none) (ha : PA X [a] (tA Z (evA ms))) (hs : starEach [a] X.env = [(false, eval a X.env)]) :
    PI X (.Tuple elts kk tpos) (.Call (.Name "enumerate" p) [a] [] pos) (tI Z fun ρ => bd (evA ms ρ) enumM) :=
  PIi (pi_enumK hg hm ha hs) fun σ H R ⟨ad, ρ, μ, g, hl, h⟩ => stepA g hl h fun vs ds H1 ad1 μ1 n1 g1 r1 q1 => by
    match ds, r1, q1 with
    | [x], r1, q1 =>
      obtain ⟨v, rfl, rx⟩ := rps1 r1
      obtain ⟨es, e, q⟩ := sat_lft.mp q1
      obtain ⟨xs, ex, e⟩ := Option.map_eq_some_iff.mp e
      subst e
      obtain ⟨k1, c1, vs, rfl, p1, s1⟩ := sqD_ok rx ex
      exact ⟨k1, c1, vs, rfl, hK ▸ s1 _ _ std_refl, hK ▸ q _ H1 ad1 n1 (yields_enum s1 p1)⟩
    | [], _, q1 => exact q1.elim
    | _ :: _ :: _, _, q1 => exact q1.elim
end
/-! ### 23. a new object is hidden while its parts are made, then it joins the store -/
def era (H : Hp) (p : Addr) : Hp := fun b => if b = p then none else H b
section
variable {K : PySem.W.Frag} {H H2 : Hp} {ad ad2 : Pl} {μ μ2 : Mu} {p : Addr} {o : HO}
theorem era_upd (H : Hp) (p : Addr) (o : HO) : upd (era H p) p o = upd H p o := by
  funext b
  unfold upd era
  by_cases h : b = p
  · rw [if_pos h, if_pos h]
  · rw [if_neg h, if_neg h, if_neg h]
theorem era_self : era H p p = none := if_pos rfl
theorem era_ne {b : Addr} (h : b ≠ p) : era H p b = H b := if_neg h
theorem hid_pr (n : Nx K (upd H p o) ⟨ad.ad, p :: ad.pr⟩ H2 ad2 μ2) : ad2.pr = p :: ad.pr := n.gr.pr_eq
theorem hid_std (n : Nx K (upd H p o) ⟨ad.ad, p :: ad.pr⟩ H2 ad2 μ2) : Std H2 ad2 (era H2 p) ⟨ad2.ad, ad.pr⟩ := by
  have e := hid_pr n
  refine ⟨fun b u hb _ q => ?_, fun _ _ h => h⟩
  have hb2 := hb.2
  rw [e] at hb2
  refine ⟨⟨hb.1, fun z => hb2 (List.mem_cons_of_mem _ z)⟩, ?_⟩
  rw [era_ne fun z => hb2 (by rw [z]; exact List.mem_cons_self)]
  exact q
theorem hid_grow (hp : H p = none) (n : Nx K (upd H p o) ⟨ad.ad, p :: ad.pr⟩ H2 ad2 μ2) : Grow H ad (era H2 p) ⟨ad2.ad, ad.pr⟩ := by
  obtain ⟨l, e, hl⟩ := n.gr.pre
  refine ⟨⟨l, by rw [e]; rfl, fun b hb => ?_⟩, fun b u hb nt q => ?_, fun b q => ?_⟩
  · have z := hl b hb
    by_cases h : b = p
    · rw [h]; exact hp
    · rw [upd_ne h] at z; exact z
  · have h : b ≠ p := ne_of_none q hp
    rw [era_ne h]
    exact n.gr.keep b u hb nt (by rw [upd_ne h]; exact q)
  · by_cases h : b = p
    · rw [h]; exact hp
    · rw [era_ne h] at q
      have z := n.gr.live b q
      rw [upd_ne h] at z
      exact z
theorem era_tabs {T : List (Addr × Str)} (t : LamX.Tabs T H) (h : ∃ u, H p = some u ∧ Nt u) : LamX.Tabs T (era H p) := fun x hx => by
  obtain ⟨u, e, n1, n2⟩ := h
  obtain ⟨ps, h1, h2, h3⟩ := t x hx
  refine ⟨ps, by rw [era_ne fun z => n1 ps (Option.some.inj (e.symm.trans (by rw [← z]; exact h1)))]; exact h1, h2, fun pos cv hc => ?_⟩
  obtain ⟨c, e1, e2⟩ := h3 pos cv hc
  exact ⟨c, e1, by rw [era_ne fun z => n2 _ _ (Option.some.inj (e.symm.trans (by rw [← z]; exact e2)))]; exact e2⟩
theorem hid_nx (m : MuOk K H ad μ) (hp : H p = none) (no : Nt o) (n : Nx K (upd H p o) ⟨ad.ad, p :: ad.pr⟩ H2 ad2 μ2) : Nx K H ad (era H2 p) ⟨ad2.ad, ad.pr⟩ μ2 := by
  have e := hid_pr n
  have hin : p ∈ ad2.pr := by rw [e]; exact List.mem_cons_self
  refine ⟨hid_grow hp n, n.mu.to (hid_std n) rfl (fun a ha => era_ne fun z => (n.mu.prn p hin).2 (by rw [← z]; exact ha)) (fun b hb => ?_) (era_tabs n.mu.tabs ⟨o, n.gr.keep p o (m.out hp).1 no.1 upd_same, no⟩)⟩
  have hbp : b ≠ p := fun z => (m.prn b hb).1 (by rw [z]; exact hp)
  rw [era_ne hbp]
  exact n.mu.prn b (by rw [e]; exact List.mem_cons_of_mem _ hb)
/-- an exception behind a hidden object -/
theorem show_nx (m : MuOk K H ad μ) (hp : H p = none) (n : Nx K (upd H p o) ⟨ad.ad, p :: ad.pr⟩ H2 ad2 μ2) : Nx K H ad H2 ⟨ad2.ad, ad.pr⟩ μ2 := by
  have e := hid_pr n
  obtain ⟨a2, p2⟩ := ad2
  have e : p2 = p :: ad.pr := e
  subst e
  refine ⟨?_, n.mu.show⟩
  obtain ⟨l, e, hl⟩ := n.gr.pre
  refine ⟨⟨l, by rw [(by injection e : a2 = ad.ad ++ l)]; rfl, fun b hb => ?_⟩, fun b u hb nt q => ?_, fun b q => ?_⟩
  · have z := hl b hb
    by_cases h : b = p
    · rw [h]; exact hp
    · rw [upd_ne h] at z; exact z
  · have h : b ≠ p := ne_of_none q hp
    exact n.gr.keep b u hb nt (by rw [upd_ne h]; exact q)
  · have z := n.gr.live b q
    by_cases h : b = p
    · rw [h]; exact hp
    · rw [upd_ne h] at z
      exact z
end
theorem Xp.std {mg : Str → Option Value} {K : PySem.W.Frag} {H H' : Hp} {ad ad' : Pl} {x : Xn} {cls : Value} {dd : Option Addr} (s : Std H ad H' ad') (h : Xp mg K H ad x cls dd) : Xp mg K H' ad' x cls dd := by
  obtain ⟨C, h1, h2, h3⟩ := h
  refine ⟨C, h1, h2, h3.imp id fun ⟨a, fv, e, q, o, f1, f2⟩ => ⟨a, fv, e, (s.keep a _ o nt_xd.1 q).2, (s.keep a _ o nt_xd.1 q).1, f1, Rps.std s _ _ f2⟩⟩
theorem XW.hid {H : Hp} {ad : Pl} {μ : Mu} {p : Addr} {o : HO} {x : Xn} {μ2 : Mu} (m : MuOk Z.K H ad μ) (hp : H p = none) (h : XW Z H ad x μ2) : XW Z (upd H p o) ⟨ad.ad, p :: ad.pr⟩ x μ2 := fun cls dd σ' H' ad' l n xp => by
  have n' := show_nx m hp n
  have e := hid_pr n
  obtain ⟨a2, p2⟩ := ad'
  have e : p2 = p :: ad.pr := e
  subst e
  exact h cls dd σ' H' _ l n' (xp.std std_show)
/-! ### 24. dict displays, stores to a dict's or a list's place -/
def putAll (kd : List (Str × D)) : List (Str × D) → List (Str × D)
  | [] => kd
  | (k, d) :: r => putAll (putS kd k d) r
theorem krs_all {K : PySem.W.Frag} {H : Hp} {ad : Pl} : ∀ (ks : List Str) (vs : List V) (ds : List D) (kv : List (Key × V)) (kd : List (Str × D)), Rps K H ad vs ds → KRs K H ad kv kd →
    KRs K H ad (mergeK kv ((ks.zip vs).map fun p => ((Sum.inr p.1 : Key), p.2))) (putAll kd (ks.zip ds))
  | [], _, _, kv, kd, _, q => by simpa [mergeK, putAll] using q
  | k :: ks, [], _, kv, kd, r, q => by
    cases r
    simpa [mergeK, putAll] using q
  | k :: ks, v :: vs, _, kv, kd, r, q => by
    cases r with
    | cons a r => exact krs_all ks vs _ _ _ r (krs_put q a)
theorem pures_put {kd : List (Str × D)} {k : Str} {d : D} (h : D.pures (kd.map (·.2)) = true) (hd : d.pure = true) : D.pures ((putS kd k d).map (·.2)) = true := by
  rw [pures_all, List.all_eq_true] at h ⊢
  intro x hx
  obtain ⟨p, hp, rfl⟩ := List.mem_map.mp hx
  unfold putS at hp
  split at hp
  · obtain ⟨q, hq, e⟩ := List.mem_map.mp hp
    subst e
    split
    · exact hd
    · exact h _ (List.mem_map_of_mem hq)
  · rcases List.mem_append.mp hp with z | z
    · exact h _ (List.mem_map_of_mem z)
    · rw [List.mem_singleton.mp z]; exact hd
theorem pures_putAll : ∀ (l kd : List (Str × D)), D.pures (kd.map (·.2)) = true → D.pures (l.map (·.2)) = true → D.pures ((putAll kd l).map (·.2)) = true
  | [], kd, h, _ => h
  | (k, d) :: r, kd, h, hl => by
    have hl : (d.pure && D.pures (r.map (·.2))) = true := hl
    rw [Bool.and_eq_true] at hl
    exact pures_putAll r _ (pures_put h hl.1) hl.2
theorem pures_zip : ∀ (ks : List Str) (ds : List D), D.pures ds = true → D.pures ((ks.zip ds).map (·.2)) = true
  | [], _, _ => rfl
  | _ :: _, [], _ => rfl
  | k :: ks, d :: ds, h => by
    have h : (d.pure && D.pures ds) = true := h
    rw [Bool.and_eq_true] at h
    show (d.pure && D.pures ((ks.zip ds).map (·.2))) = true
    rw [h.1, pures_zip ks ds h.2]
    rfl
def newDk (ks : List Str) (ds : List D) : M D := fun μ => if (D.pures ds && decide (ks.length = ds.length) && decide (ks.length ≤ 15)) = true then .ok (.ref μ.length) (μ ++ [.dk (putAll [] (ks.zip ds))]) else .no
def dispM (kms : List (Str × (Rho → M D))) (ρ : Rho) : M D := bd (evA (kms.map (·.2)) ρ) (newDk (kms.map (·.1)))
def dispTs (Z : Wd) (kms : List (Str × (Rho → M D))) : List (TE × TE) := kms.map fun p => (tC (.str p.1), tE Z p.2)
theorem t_pairs : ∀ (kms : List (Str × (Rho → M D))) (σ : L2.St) (H : Hp) (Q : List (V × V) → Hp → Prop), tA Z (evA (kms.map (·.2))) σ H (fun vs H' => Q (((kms.map (·.1)).zip vs).map fun p => (V.str p.1, p.2)) H') → tPairs (dispTs Z kms) σ H Q
  | [], σ, H, Q, ⟨ad, ρ, μ, g, hl, h⟩ => h [] H ad (.refl g.mu) .nil
  | (k, m) :: r, σ, H, Q, ⟨ad, ρ, μ, g, hl, h⟩ => by
    have h : Sat (bd (m ρ) (fun d => bd (evA (r.map (·.2)) ρ) fun ds => rt (d :: ds)) μ) _ _ := h
    refine step g hl h fun v d H1 ad1 μ1 n1 g1 r1 q1 => t_pairs r σ H1 _ ⟨ad1, ρ, μ1, g1, hl, (sat_bd.mp q1).mono (fun ds μ2 w vs H2 ad2 n2 rs => ?_) fun _ _ z => z⟩
    exact w (v :: vs) H2 ad2 (n1.trans n2) (.cons (Rp.grow n2.gr d v r1) rs)
section
variable {X : Cx} {keys : List (Option Expr)} {values : List Expr} {kms : List (Str × (Rho → M D))} {pos : Pos}
theorem x_disp (h : PPs X pos keys values (dispTs Z kms)) (hall : keys.all (·.isSome) = true) (hl : keys.length = values.length) (h0 : keys ≠ []) (h15 : keys.length ≤ 15) : PE X (.Dict keys values pos) (tE Z (dispM kms)) :=
  PEi (pe_disp h hall hl h0 h15) fun σ H Q ⟨ad, ρ, μ, g, hl, q⟩ => by
    intro p hp
    refine t_pairs kms σ _ _ ⟨⟨ad.ad, p :: ad.pr⟩, ρ, μ, g.to (std_hide hp) (g.mu.hide hp), hl, (sat_bd.mp q).mono (fun ds μ2 w vs H2 ad2 n2 rs => ?_) fun _ _ z => z.hid g.mu hp⟩
    have w : Sat (newDk (kms.map (·.1)) ds μ2) (KE Z H ad Q) (XW Z H ad) := w
    unfold newDk at w
    by_cases c : (D.pures ds && decide ((kms.map (·.1)).length = ds.length) && decide ((kms.map (·.1)).length ≤ 15)) = true
    · rw [if_pos c] at w
      simp only [Bool.and_eq_true, decide_eq_true_eq] at c
      obtain ⟨⟨c1, c2⟩, c3⟩ := c
      have hn := hid_nx g.mu hp nt_dK n2
      refine ⟨n2.gr.keep p _ (g.mu.out hp).1 nt_dK.1 upd_same, (((kms.map (·.1)).zip vs).map fun q => ((Sum.inr q.1 : Key), q.2)), ?_, ?_, ?_⟩
      · rw [List.map_map]
        rfl
      · rw [List.length_map, List.length_zip]
        omega
      · have rs' := Rps.std (hid_std n2) _ _ rs
        have pu : (SO.dk (putAll [] ((kms.map (·.1)).zip ds))).pure = true := pures_putAll _ [] rfl (pures_zip _ _ c1)
        have n3 := hn.mu.push (p := p) (o := .dK (mergeK [] (((kms.map (·.1)).zip vs).map fun q => ((Sum.inr q.1 : Key), q.2)))) era_self pu fun H' ad' gr e => ⟨_, e, krs_all _ _ _ _ _ (Rps.grow gr _ _ rs') ⟨rfl, .nil⟩⟩
        rw [era_upd] at n3
        refine w (.ref p) _ _ (hn.trans n3) (.ref ?_)
        show ((ad2.ad ++ [p])[μ2.length]?) = some p
        rw [← hn.mu.len]
        simp
    · rw [if_neg c] at w
      exact w.elim
theorem pp_nil : PPs X pos [] [] (dispTs Z []) := pps_nil
theorem pp_cons {k : Str} {j : Nat} {kp : Pos} {v : Expr} {m : Rho → M D} {ks : List (Option Expr)} {vs : List Expr} (hv : PE X v (tE Z m)) (hr : PPs X pos ks vs (dispTs Z kms)) : PPs X pos (some (.Constant (.str k) j kp) :: ks) (v :: vs) (dispTs Z ((k, m) :: kms)) :=
  pps_cons pe_str hv hr
end
/-- o[i] = v: a dict's text key; a list's place -/
def mlOf (μ : Mu) (n : Nat) : Option (List D) := match μ[n]? with
  | some (.ml ds) => some ds
  | _ => none
theorem mlOf_ok {K : PySem.W.Frag} {H : Hp} {ad : Pl} {μ : Mu} (m : MuOk K H ad μ) {n : Nat} {a : Addr} {ds : List D} (e : ad.ad[n]? = some a) (h : mlOf μ n = some ds) : ∃ vs, H a = some (.lst vs) ∧ Rps K H ad vs ds := by
  unfold mlOf at h
  cases k : μ[n]? with
  | none => rw [k] at h; cases h
  | some o =>
    rw [k] at h
    cases o with
    | dk kd' => cases h
    | dd _ _ _ => cases h
    | ml es => cases h; exact m.so n a _ e k
/-- a store's object changed by o[i] = v -/
def putO (so : SO) (i v : D) : Option SO := match so with
  | .dk kd => (match i with
    | .str k => if decide (kd.length < 1000000) = true then some (.dk (putS kd k v)) else none
    | _ => none)
  | .ml ds => (match i with
    | .int j => (ixN ds.length j).map fun i => .ml (ds.set i v)
    | _ => none)
  | .dd t ks ds => if (keyB t i && decide (ks.length < 1000000)) = true then some (.dd t (putKs (sameB t i) i ks) (putVs (sameB t i) v ks ds)) else none
def putD (o i v : D) : M Unit := fun μ => match o with
  | .ref n => (match (μ[n]?).bind fun so => putO so i v with
    | some so => if v.pure = true then .ok () (μ.set n so) else .no
    | none => .no)
  | _ => .no
theorem Rps.set {K : PySem.W.Frag} {H : Hp} {ad : Pl} {v : V} {d : D} (a : Rp K H ad v d) : ∀ {vs : List V} {ds : List D} (i : Nat), Rps K H ad vs ds → Rps K H ad (vs.set i v) (ds.set i d)
  | _, _, _, .nil => .nil
  | _, _, 0, .cons _ r => .cons a r
  | _, _, i + 1, .cons b r => .cons b (Rps.set a i r)
theorem pures_set {d : D} (hd : d.pure = true) : ∀ (ds : List D) (i : Nat), D.pures ds = true → D.pures (ds.set i d) = true
  | [], _, h => h
  | x :: xs, 0, h => by
    have h : (x.pure && D.pures xs) = true := h
    rw [Bool.and_eq_true] at h
    show (d.pure && D.pures xs) = true
    rw [hd, h.2]; rfl
  | x :: xs, i + 1, h => by
    have h : (x.pure && D.pures xs) = true := h
    rw [Bool.and_eq_true] at h
    show (x.pure && D.pures (xs.set i d)) = true
    rw [h.1, pures_set hd xs i h.2]; rfl
theorem pures_setAt {p : D → Bool} {d : D} (hd : d.pure = true) : ∀ (ks ds : List D), D.pures ds = true → D.pures (setAt p d ks ds) = true
  | [], ds, h => by unfold setAt; rfl
  | _ :: _, [], h => rfl
  | k :: ks, x :: xs, h => by
    have h : (x.pure && D.pures xs) = true := h
    rw [Bool.and_eq_true] at h
    show ((if p k then d else x).pure && D.pures (setAt p d ks xs)) = true
    rw [pures_setAt hd ks xs h.2, Bool.and_true]
    split
    · exact hd
    · exact h.1
theorem pures_putVs {p : D → Bool} {d : D} (hd : d.pure = true) (ks ds : List D) (h : D.pures ds = true) : D.pures (putVs p d ks ds) = true := by
  unfold putVs
  split
  · exact pures_setAt hd ks ds h
  · rw [pures_app, h]
    show (true && (d.pure && true)) = true
    rw [hd]; rfl
def rSetC : V → V → V → Hp → (Hp → Prop) → Prop := fun x y v H Q => ∃ a H4, x = .ref a ∧ DPut H a y v H4 ∧ Q H4
/-- what a put does to the store -/
theorem put_ok {K : PySem.W.Frag} {H : Hp} {ad : Pl} {μ : Mu} {n : Nat} {a : Addr} {so so' : SO} {i dv : D} {y v : V} (m : MuOk K H ad μ) (e : ad.ad[n]? = some a) (k : μ[n]? = some so) (h : putO so i dv = some so') (pv : dv.pure = true)
    (ry : Rp K H ad y i) (rv : Rp K H ad v dv) : ∃ o, Nx K H ad (upd H a o) ad (μ.set n so') ∧ (DPut H a y v (upd H a o) ∨ ∃ (vs : List V) (j : Int) (q : Nat), y = .int j ∧ H a = some (.lst vs) ∧ ixN vs.length j = some q ∧ o = .lst (vs.set q v)) := by
  have pu := m.pur n so k
  have st := m.so n a so e k
  cases so with
  | dk kd =>
    cases i with
    | str x =>
      have h : (if decide (kd.length < 1000000) = true then some (SO.dk (putS kd x dv)) else none) = some so' := h
      by_cases c : decide (kd.length < 1000000) = true
      · rw [if_pos c] at h
        cases h
        have c := of_decide_eq_true c
        obtain rfl := rp_str ry
        obtain ⟨kv, hkv, kr⟩ := st
        exact ⟨_, m.wr (n := n) (p := a) (o := .dK (putK kv (Sum.inr x : Key) v)) (so := .dk (putS kd x dv)) e (pures_put pu pv) fun H' gr e => ⟨_, e, krs_put ⟨kr.1, Rps.grow gr _ _ kr.2⟩ (Rp.grow gr _ _ rv)⟩,
          .inl (DPut.k (k := Sum.inr x) hkv (by rw [kr.length, sizeLine_eq]; omega))⟩
      · rw [if_neg c] at h
        cases h
    | _ => cases h
  | ml ds =>
    cases i with
    | int j =>
      obtain ⟨q, h1, h2⟩ := Option.map_eq_some_iff.mp (show (ixN ds.length j).map (fun i => SO.ml (ds.set i dv)) = some so' from h)
      subst h2
      obtain rfl := rp_int ry
      obtain ⟨vs, hvs, rvs⟩ := st
      exact ⟨_, m.wr (n := n) (p := a) (o := .lst (vs.set q v)) (so := .ml (ds.set q dv)) e (pures_set pv ds q pu) fun H' gr e => ⟨_, e, Rps.set (Rp.grow gr _ _ rv) q (Rps.grow gr _ _ rvs)⟩,
        .inr ⟨vs, j, q, rfl, hvs, by rw [rvs.length]; exact h1, rfl⟩⟩
    | _ => cases h
  | dd t ks ds =>
    have h : (if (keyB t i && decide (ks.length < 1000000)) = true then some (SO.dd t (putKs (sameB t i) i ks) (putVs (sameB t i) dv ks ds)) else none) = some so' := h
    by_cases c : (keyB t i && decide (ks.length < 1000000)) = true
    · rw [if_pos c] at h
      cases h
      simp only [Bool.and_eq_true, decide_eq_true_eq] at c
      obtain ⟨vs, h1, h2⟩ := st
      obtain ⟨o, p1, p2⟩ := dk_put (v := v) (d := dv) h1 h2 c.1 ry c.2
      exact ⟨o, m.wr (n := n) (p := a) (o := o) e (pures_putVs pv ks ds pu) fun H' gr e => p2 H' ad (Rps.grow gr _ _ h2) (Rp.grow gr _ _ rv) e, .inl p1⟩
    · rw [if_neg c] at h
      cases h
def sPutX (td ty tv : TE) : TS := fun D σ H => tv σ H fun v H1 => td σ H1 fun x H2 => ty σ H2 fun y H3 => (rSetC x y v H3 fun H4 => D.nx σ H4) ∨ (rSetL x y v H3 fun H4 => D.nx σ H4)
section
variable {X : Cx} {o i value : Expr} {mo mi mv : Rho → M D} {pos pos' : Pos}
theorem ps_putX {td ty tv : TE} (hu : X.A.units + 1 < cLine) (ho : PE X o td) (hi : PE X i ty) (hv : PE X value tv) (hs : swapsWith value (some (.Subscript o i pos')) pos.line X.env = pure false) :
    PS X (.Assign [.Subscript o i pos'] value pos) (sPutX td ty tv) := by
  refine ⟨fun pins s σ H D I h => ?_⟩
  refine wpAny_Assign_Subscript (thn (hv.run pins s σ H _ I h) fun r s1 ⟨v, H1, I1, rv, q1⟩ => thn (ho.run pins s1 σ H1 _ I1 q1) fun u s2 ⟨x, H2, I2, rx, q2⟩ => thn (hi.run pins s2 σ H2 _ I2 q2) fun iv s3 ⟨y, H3, I3, ry, q3⟩ => ?_) hs
  rcases q3 with q3 | q3
  · exact wpAny_mono (set_dict hu pins s3 σ H3 x y v u iv r _ I3 rx ry rv q3) (fun _ s4 ⟨H4, I4, q4⟩ => ⟨σ, H4, I4, q4⟩) fun _ _ z => z
  · exact wpAny_mono (set_list pins s3 σ H3 x y v u iv r _ I3 rx ry rv q3) (fun _ s4 ⟨H4, I4, q4⟩ => ⟨σ, H4, I4, q4⟩) fun _ _ z => z
theorem s_put (hu : X.A.units + 1 < cLine) (ho : PE X o (tE Z mo)) (hi : PE X i (tE Z mi)) (hv : PE X value (tE Z mv)) (hs : swapsWith value (some (.Subscript o i pos')) pos.line X.env = pure false) :
    PS X (.Assign [.Subscript o i pos'] value pos) (tS Z fun ρ => bd (mv ρ) fun v => bd (mo ρ) fun d => bd (mi ρ) fun e => bd (putD d e v) fun _ => rt (.nx ρ)) :=
  PSi (ps_putX hu ho hi hv hs) fun E σ H ⟨ad, ρ, μ, g, hl, h⟩ => step g hl h fun v dv H1 ad1 μ1 n1 g1 r1 q1 => step g1 hl q1 fun x dx H2 ad2 μ2 n2 g2 r2 q2 => step g2 hl q2 fun y dy H3 ad3 μ3 n3 g3 r3 q3 => by
    have rv := Rp.grow (n2.gr.trans n3.gr) dv v r1
    have rx := Rp.grow n3.gr dx x r2
    have q3 := sat_bd.mp q3
    cases dx with
    | ref n =>
      cases rx with
      | @ref a _ ea =>
        have q3 : Sat (match (μ3[n]?).bind fun so => putO so dy dv with
          | some so => if dv.pure = true then R.ok () (μ3.set n so) else .no
          | none => .no) _ _ := q3
        cases hk : (μ3[n]?).bind fun so => putO so dy dv with
        | none => rw [hk] at q3; exact q3.elim
        | some so' =>
          rw [hk] at q3
          have q3 : Sat (if dv.pure = true then R.ok () (μ3.set n so') else .no) _ _ := q3
          by_cases c : dv.pure = true
          · rw [if_pos c] at q3
            obtain ⟨so, k1, k2⟩ := Option.bind_eq_some_iff.mp hk
            obtain ⟨o, n4, w⟩ := put_ok g3.mu ea k1 k2 c r3 rv
            have fin := q3 σ _ _ (((n1.trans n2).trans n3).trans n4) (g3.nx n4) hl
            rcases w with w | ⟨vs, j, q, ey, hvs, hj, eo⟩
            · exact .inl ⟨a, _, rfl, w, fin⟩
            · subst ey eo
              exact .inr ⟨a, vs, j, q, rfl, rfl, hvs, hj, fin⟩
          · rw [if_neg c] at q3
            exact q3.elim
    | _ => exact q3.elim
end
end PX
namespace PX
open PySem PySem.Spec PyProof.Rows L2
variable [Tabc]
variable {Z : Wd}
/-! ### 25. a def by its body -/
def startD (n : Nat) (ds : List D) : Rho := ds.map some ++ List.replicate (n - ds.length) none
mutual
/-- what is told, with the store's places made since the place n turned into data -/
def frzD (n : Nat) (μ : Mu) : D → D
  | .lst xs => .lst (frzs n μ xs)
  | .tup xs => .tup (frzs n μ xs)
  | .dic t ks xs => .dic t ks (frzs n μ xs)
  | .obj k ks xs => .obj k ks (frzs n μ xs)
  | .ref k => if k < n then .ref k else match μ[k]? with
    | some (.ml ds) => .lst ds
    | some (.dd t ks ds) => .dic t ks ds
    | _ => .ref k
  | .non => .non
  | .bl b => .bl b
  | .int i => .int i
  | .str x => .str x
  | .ty x => .ty x
def frzs (n : Nat) (μ : Mu) : List D → List D
  | [] => []
  | x :: xs => frzD n μ x :: frzs n μ xs
end
mutual
/-- no place of the store but those ahead of n -/
def D.low (n : Nat) : D → Bool
  | .lst xs => D.lows n xs
  | .tup xs => D.lows n xs
  | .dic _ _ xs => D.lows n xs
  | .obj _ _ xs => D.lows n xs
  | .ref k => decide (k < n)
  | _ => true
def D.lows (n : Nat) : List D → Bool
  | [] => true
  | x :: xs => x.low n && D.lows n xs
end
/-- the end of a def: what it made is no one's, but for what is told -/
def endD (n : Nat) (d : D) : M D := fun μ => if (frzD n μ d).low n = true then .ok (frzD n μ d) (μ.take n) else .ok d μ
def endX (n : Nat) (x : Xn) (μ : Mu) : R D := if D.lows n (frzs n μ (x.fs.map (·.2))) = true then .ex ⟨x.c, (x.fs.map (·.1)).zip (frzs n μ (x.fs.map (·.2)))⟩ (μ.take n) else .ex x μ
def outD (m : Rho → M Fl) (n : Nat) (ds : List D) : M D := fun μ => match m (startD n ds) μ with
  | .ok (.rt d) μ' => endD μ.length d μ'
  | .ok (.nx _) μ' => endD μ.length .non μ'
  | .ex x μ' => endX μ.length x μ'
  | _ => .no
section
variable {K : PySem.W.Frag} {H H' : Hp} {ad ad' : Pl} {μ μ' : Mu}
theorem SoAt.pureTo (h : ∀ a, ad.out a → ad'.out a) {a : Addr} {o : SO} (p : o.pure = true) (s : SoAt K H ad a o) : SoAt K H ad' a o := by
  cases o with
  | dk kd =>
    obtain ⟨kv, h1, h2, h3⟩ := s
    exact ⟨kv, h1, h2, Rps.pureTo h _ _ p h3⟩
  | ml ds =>
    obtain ⟨vs, h1, h2⟩ := s
    exact ⟨vs, h1, Rps.pureTo h _ _ p h2⟩
  | dd t ks ds =>
    obtain ⟨vs, h1, h2⟩ := s
    exact ⟨vs, h1, Rps.pureTo h _ _ p h2⟩
theorem out_less (g : Grow H ad H' ad') {a : Addr} (h : ad'.out a) : ad.out a := by
  obtain ⟨l, e, _⟩ := g.pre
  rw [e] at h
  exact ⟨fun z => h.1 (List.mem_append.mpr (.inl z)), h.2⟩
/-- the places made since are let go -/
theorem cut_nx (m : MuOk K H ad μ) (n : Nx K H ad H' ad' μ') : Nx K H ad H' ad (μ'.take ad.ad.length) := by
  have g := n.gr
  obtain ⟨l, e, hl⟩ := g.pre
  have e1 : ad'.ad = ad.ad ++ l := by rw [e]; rfl
  refine ⟨⟨⟨[], Pl.add_nil.symm, by simp⟩, g.keep, g.live⟩, ?_, m.nd, fun b hb => ?_, fun k a o h1 h2 => ?_, fun k o h2 => ?_, n.mu.tabs⟩
  · have := n.mu.len
    rw [e1, List.length_append] at this
    rw [List.length_take]
    omega
  · have z := n.mu.prn b (by rw [g.pr_eq]; exact hb)
    refine ⟨z.1, fun w => z.2 ?_⟩
    rw [e1]
    exact List.mem_append.mpr (.inl w)
  · have hk : k < ad.ad.length := (List.getElem?_eq_some_iff.mp h1).1
    rw [List.getElem?_take_of_lt hk] at h2
    exact (n.mu.so k a o (g.at h1) h2).pureTo (fun a => out_less g) (n.mu.pur k o h2)
  · by_cases hk : k < ad.ad.length
    · rw [List.getElem?_take_of_lt hk] at h2
      exact n.mu.pur k o h2
    · rw [List.getElem?_eq_none (by rw [List.length_take]; omega)] at h2
      cases h2
theorem out_new (g : Grow H ad H' ad') (m : MuOk K H' ad' μ') {k : Nat} {a : Addr} (e : ad'.ad[k]? = some a) (hk : ¬ k < ad.ad.length) : ad.out a := by
  refine ⟨fun z => ?_, fun z => ?_⟩
  · obtain ⟨j, hj, ej⟩ := List.getElem_of_mem z
    have e2 : ad.ad[j]? = some a := by rw [List.getElem?_eq_getElem hj, ej]
    have := nd_ix m.nd (g.at e2) e
    omega
  · exact (m.prn a (by rw [g.pr_eq]; exact z)).2 (List.mem_of_getElem? e)
mutual
theorem frz_ok (g : Grow H ad H' ad') (m : MuOk K H' ad' μ') : ∀ (d : D) (v : V), Rp K H' ad' v d → (frzD ad.ad.length μ' d).low ad.ad.length = true → Rp K H' ad v (frzD ad.ad.length μ' d)
  | .non, _, r, _ => by cases r; exact .non
  | .bl b, _, r, _ => by cases r; exact .bl b
  | .int i, _, r, _ => by cases r; exact .int i
  | .str x, _, r, _ => by cases r; exact .str x
  | .ty n, _, r, _ => by cases r; exact .ty n
  | .lst ds, _, r, p => by
    cases r with
    | lst a q => exact .lst (a.elim (fun z => .inl ⟨out_less g z.1, z.2⟩) .inr) (frzs_ok g m ds _ q p)
  | .tup ds, _, r, p => by
    cases r with
    | tup a q => exact .tup ⟨out_less g a.1, a.2⟩ (frzs_ok g m ds _ q p)
  | .dic t ks ds, _, r, p => by
    cases r with
    | dic a q => exact .dic ⟨out_less g a.1, a.2⟩ (frzs_ok g m ds _ q p)
  | .obj k ks ds, _, r, p => by
    cases r with
    | obj a q => exact .obj (a.to fun b o hb _ e => ⟨out_less g hb, e⟩) (frzs_ok g m ds _ q p)
  | .ref k, v, r, p => by
    cases r with
    | @ref a _ e =>
      unfold frzD at p ⊢
      by_cases hk : k < ad.ad.length
      · rw [if_pos hk]
        refine .ref ?_
        obtain ⟨l, e1, _⟩ := g.pre
        have e : (ad'.ad)[k]? = some a := e
        rw [e1] at e
        have e : (ad.ad ++ l)[k]? = some a := e
        rw [List.getElem?_append_left hk] at e
        exact e
      · rw [if_neg hk] at p ⊢
        have ho := out_new g m e hk
        cases h : μ'[k]? with
        | none =>
          rw [h] at p
          have p : decide (k < ad.ad.length) = true := p
          exact (hk (of_decide_eq_true p)).elim
        | some o =>
          rw [h] at p
          have so := m.so k a o e h
          have pu := m.pur k o h
          cases o with
          | dk kd =>
            have p : decide (k < ad.ad.length) = true := p
            exact (hk (of_decide_eq_true p)).elim
          | ml ds =>
            obtain ⟨vs, h1, h2⟩ := so
            exact .lst (.inl ⟨ho, .inl h1⟩) (Rps.pureTo (fun a => out_less g) _ _ pu h2)
          | dd t ks ds =>
            obtain ⟨vs, h1, h2⟩ := so
            exact .dic ⟨ho, h1.imp fun o q => rd_some q⟩ (Rps.pureTo (fun a => out_less g) _ _ pu h2)
theorem frzs_ok (g : Grow H ad H' ad') (m : MuOk K H' ad' μ') : ∀ (ds : List D) (vs : List V), Rps K H' ad' vs ds → D.lows ad.ad.length (frzs ad.ad.length μ' ds) = true → Rps K H' ad vs (frzs ad.ad.length μ' ds)
  | [], _, r, _ => by cases r; exact .nil
  | d :: ds, _, r, p => by
    have p' : (frzD ad.ad.length μ' d).low ad.ad.length = true ∧ D.lows ad.ad.length (frzs ad.ad.length μ' ds) = true := Bool.and_eq_true_iff.mp p
    cases r with
    | cons a q => exact .cons (frz_ok g m d _ a p'.1) (frzs_ok g m ds _ q p'.2)
end
theorem end_ok {Q : VK} {E : Xn → Mu → Prop} (m : MuOk K H ad μ) {d : D} (q : Sat (endD μ.length d μ') (KF K H ad Q) E) : ∀ v H' ad', Nx K H ad H' ad' μ' → Rp K H' ad' v d → Q v H' := fun v H' ad' n r => by
  unfold endD at q
  rw [← m.len] at q
  by_cases c : (frzD ad.ad.length μ' d).low ad.ad.length = true
  · rw [if_pos c] at q
    exact q v H' ad (cut_nx m n) (frz_ok n.gr n.mu d v r c)
  · rw [if_neg c] at q
    exact q v H' ad' n r
theorem zip_fst {α β : Type} : ∀ (xs : List α) (ys : List β), xs.length = ys.length → (xs.zip ys).map (·.1) = xs ∧ (xs.zip ys).map (·.2) = ys
  | [], [], _ => ⟨rfl, rfl⟩
  | x :: xs, y :: ys, h => by
    obtain ⟨h1, h2⟩ := zip_fst xs ys (Nat.succ.inj h)
    exact ⟨by rw [List.zip_cons_cons, List.map_cons, h1], by rw [List.zip_cons_cons, List.map_cons, h2]⟩
theorem frzs_len (n : Nat) (μ : Mu) : ∀ xs : List D, (frzs n μ xs).length = xs.length
  | [] => rfl
  | x :: xs => by show (frzs n μ xs).length + 1 = _; rw [frzs_len n μ xs]; rfl
theorem endX_ok {mg : Str → Option Value} {E : XK} {Q : D → Mu → Prop} (m : MuOk K H ad μ) {x : Xn} (q : Sat (endX μ.length x μ') Q (XF mg K H ad E)) : ∀ cls dd H' ad', Nx K H ad H' ad' μ' → Xp mg K H' ad' x cls dd → E cls dd H' := fun cls dd H' ad' n xp => by
  unfold endX at q
  rw [← m.len] at q
  by_cases c : D.lows ad.ad.length (frzs ad.ad.length μ' (x.fs.map (·.2))) = true
  · rw [if_pos c] at q
    refine q cls dd H' ad (cut_nx m n) ?_
    obtain ⟨C, h1, h2, h3⟩ := xp
    have zf := zip_fst (x.fs.map (·.1)) (frzs ad.ad.length μ' (x.fs.map (·.2))) (by rw [frzs_len, List.length_map, List.length_map])
    refine ⟨C, h1, h2, h3.imp (fun e => by
      show (x.fs.map (·.1)).zip _ = []
      rw [e]; rfl) fun ⟨a, fv, e1, e2, e3, e4, e5⟩ => ⟨a, fv, e1, e2, out_less n.gr e3, by rw [e4]; exact zf.1.symm, ?_⟩⟩
    show Rps K H' ad (fv.map (·.2)) (((x.fs.map (·.1)).zip (frzs ad.ad.length μ' (x.fs.map (·.2)))).map (·.2))
    rw [zf.2]
    exact frzs_ok n.gr n.mu _ _ e5 c
  · rw [if_neg c] at q
    exact q cls dd H' ad' n xp
end
theorem start_gd {K : PySem.W.Frag} {H : Hp} {ad : Pl} {μ : Mu} {N : List Str} {vs : List V} {ds : List D} (m : MuOk K H ad μ) (r : Rps K H ad vs ds) : Gd K H ad (L2.start N vs) (startD N.length ds) μ := by
  refine ⟨m, by simp [L2.start, startD, r.length], fun i d e => ?_⟩
  have e : (ds.map some ++ List.replicate (N.length - ds.length) none)[i]? = some (some d) := e
  show ∃ v, (vs.map some ++ List.replicate (N.length - vs.length) none)[i]? = some (some v) ∧ Rp K H ad v d
  by_cases hi : i < ds.length
  · rw [List.getElem?_append_left (by simpa using hi), List.getElem?_map] at e
    obtain ⟨d', h1, h2⟩ := Option.map_eq_some_iff.mp e
    cases h2
    obtain ⟨v, hv, rv⟩ := r.get h1
    refine ⟨v, ?_, rv⟩
    rw [List.getElem?_append_left (by simpa [r.length] using hi), List.getElem?_map, hv]
    rfl
  · rw [List.getElem?_append_right (by simpa using hi), List.getElem?_replicate] at e
    split at e <;> cases e
theorem envOfC_scope {qual : Str} {scope : Scope} {n : Nat} {f : Addr} {cd : Value} : (envOfC qual scope n f cd).scope = scope := rfl
section
variable {P : Program} {w : World} {K : PySem.W.Frag} {mg : Str → Option Value} {base : Heap} {k : Nat} {f : Addr} {name qual : Str} {params : Arguments} {body : List Stmt} {scope : Scope} {dV kV doc pm cdv ct oc : Value} {an od : Option Addr} {osl : Array (Option Value)} {N ps : List Str} {m : Rho → M Fl}
theorem fn_G (lk : K.lookup f = some ⟨oc, od, .func (PySem.W.fnOf name qual params body scope dV kV doc pm an cdv ct), osl⟩) (hcd : PySem.W.codeIn K cdv qual = true) (S : FnScope N ps scope)
    (hbody : ∀ (A : Around) (outer : List Env) (s : Shared) (H : Hp) (E : XK), Room k (A.deeper (envOfC qual scope s.heap.objs.size f cdv)) → A.guards = some [] →
      PSs (cxOf (L2.CX P w) P w K mg base N qual scope f cdv A outer s H E) body (tS ⟨K, mg, fun cls d _ H => E cls d H, N.length⟩ m)) :
    FnG P w K mg base (k + 1) f (PySem.W.fnOf name qual params body scope dV kV doc pm an cdv ct) ps (spF mg K ps.length (outD m N.length)) := by
  have len : ∀ vs H Q E, spF mg K ps.length (outD m N.length) vs H Q E → vs.length = ps.length := fun vs H Q E ⟨ad, μ, ds, hm, r, hl, _⟩ => by rw [r.length, hl]
  refine ⟨len, fun A outer s H args us vs Q E hr hgd e0 hb r hsp => ?_⟩
  have hl := len _ _ _ _ hsp
  have KX : K.In s.heap := e0.mod.kin.keeps fun b o e => (e0.bs b o e).1
  have lim : s.heap.NoLimit := e0.mod.nolimit.keeps fun b o e => (e0.bs b o e).1
  obtain ⟨ad, μ, ds, hm, rp, hd, q⟩ := hsp
  have kinds : ∀ y ∈ ps.zip us, scope.names.lookup y.1 = some .local ∨ (scope.names.lookup y.1 = some .cell ∧ ((cellsFrom (s.heap.objs.size + 1) scope.names []).lookup y.1).isSome = true) := fun y hy =>
    (S.par y.1 (List.of_mem_zip (a := y.1) (b := y.2) hy).1).imp id fun z => ⟨z, PySem.W.cellsFrom_some _ _ _ (.inl z)⟩
  refine codeAny_call_function hr.depth (KX _ _ lk) rfl S.co S.gen rfl (PySem.W.codeRec_of KX hcd) (hb _ _ _ _ (wpAny_newFunctionEnv_cells S.kind kinds fun env he s1 x => ?_))
  cases he
  refine ⟨lim.keeps x.toInCall.keep, codeAny_func ?_⟩
  have B := hbody A outer s H E (hr.deeper _) hgd
  have J0 := inv_start (CX := L2.CX P w) (base := base) (qual := qual) (cd := cdv) (f := f) (E := E) S hr.hd e0 hl r x
  have want : tS ⟨K, mg, fun cls d _ H => E cls d H, N.length⟩ m { nx := fun _ H' => Q .non H', rt := Q } (L2.start N vs) H := by
    refine ⟨ad, startD N.length ds, μ, start_gd hm rp, ?_, ?_⟩
    · show (vs.map some ++ List.replicate (N.length - vs.length) none).length = N.length
      have hpl := congrArg List.length S.pre
      rw [List.length_take] at hpl
      simp
      omega
    · have q : Sat (match m (startD N.length ds) μ with
        | .ok (.rt d) μ' => endD μ.length d μ'
        | .ok (.nx _) μ' => endD μ.length .non μ'
        | .ex x μ' => endX μ.length x μ'
        | _ => .no) (KF K H ad Q) (XF mg K H ad E) := q
      cases hq : m (startD N.length ds) μ with
      | ok fl μ' =>
        rw [hq] at q
        cases fl with
        | nx ρ' => exact fun σ' H' ad' n _ _ => end_ok hm q .non H' ad' n .non
        | rt d => exact fun v H' ad' n rv => end_ok hm q v H' ad' n rv
        | bk ρ' => exact q.elim
        | ct ρ' => exact q.elim
      | ex x μ' =>
        rw [hq] at q
        exact fun cls dd σ' H' ad' _ n xp => endX_ok hm q cls dd H' ad' n xp
      | no => rw [hq] at q; exact q.elim
  refine wpAny_mono (B.run [] s1 (L2.start N vs) H _ J0 want) (fun fl s' hs => ?_) fun e s' hs => hs
  cases fl with
  | ret u =>
    obtain ⟨v, σ', H', J, rv, w⟩ := hs
    exact ⟨v, H', J.os, J.bare, J.base, J.hok, rv, w⟩
  | next =>
    obtain ⟨σ', H', J, w⟩ := hs
    exact ⟨V.non, H', J.os, J.bare, J.base, J.hok, rfl, w⟩
  | brk => exact hs.elim fun _ z => z.elim fun _ z => z.2.elim
  | cont => exact hs.elim fun _ z => z.elim fun _ z => z.2.elim
end
theorem FnG.mono {P : Program} {w : World} {K : PySem.W.Frag} {mg : Str → Option Value} {base : Heap} {j k : Nat} {f : Addr} {fd : FuncData} {ps : List Str} {sp : Sp} (F : FnG P w K mg base j f fd ps sp) (h : j ≤ k) : FnG P w K mg base k f fd ps sp :=
  ⟨F.len, fun A outer s H args us vs Q E hr => F.run A outer s H args us vs Q E (hr.mono h)⟩
theorem FnG.stk {P : Program} {w : World} {K : PySem.W.Frag} {mg : Str → Option Value} {base : Heap} {k n : Nat} {f : Addr} {fd : FuncData} {ps : List Str} (h : ps.length = n) : FnG P w K mg base k f fd ps (spF mg K n fun _ => stk) :=
  ⟨fun vs H Q E ⟨ad, μ, ds, hm, r, hl, q⟩ => q.elim, fun A outer s H args us vs Q E hr hg e0 hb hv ⟨ad, μ, ds, hm, r, hl, q⟩ => q.elim⟩
/-! ### 26. the law's end -/
section
variable {P : Program} {w : World} {K : PySem.W.Frag} {mg mb : Str → Option Value} {k : Nat} {fa a : Addr} {fd : FuncData} {x : Str} {F : List D → M D} {s1 : Shared} {us : List Value} {ns : List Int} {cs : List (Addr × Addr × Str)}
/-- a table of the head, empty -/
def tab0 : Obj := { cls := .none, data := .fields #[] }
def tabS (cs : List (Addr × Addr × Str)) : List Addr := cs.map fun p => p.2.1
structure TabsOk (K : PySem.W.Frag) (h : Heap) (mg : Str → Option Value) (cs : List (Addr × Addr × Str)) : Prop where
  at_ : ∀ p ∈ cs, h.get? p.2.1 = some tab0
  no : ∀ p ∈ cs, K.lookup p.2.1 = none
  code : ∀ p ∈ cs, PySem.W.CodeHd h p.1 p.2.1
  bm : ∃ (bm : Addr) (ob : Obj), mg "__builtins__" = some (.ref bm) ∧ bm ≠ builtinsNs ∧ h.get? bm = some ob ∧ ob.cls = .type "module" ∧ ob.dict = some builtinsNs ∧ ob.data = .plain
/-- from an abstract heap G that holds the tables, the script or nothing of it -/
theorem end_core (KX : K.In s1.heap) (hns : s1.heap.Ns mainGlobals mg) (hb : s1.heap.Ns builtinsNs mb) (hbb : ∀ x : Str, x ≠ "__name__" → mb x = bootBuiltins x) (hlim : s1.heap.NoLimit) (hgen : s1.gens = #[])
    (ha : s1.heap.get? a = some { cls := .type "list", data := .seq us.toArray }) (hr : Room k callerA) (hT0 : TabsOk K s1.heap mg cs) (hcs : Tabc.T = cs.map (·.2))
    (hF : ∀ base : Heap, K.In base → base.Ns mainGlobals mg → (∀ p ∈ cs, LamX.TabB base mg p.1 p.2.1) → FnG P w K mg base k fa fd [x] (spF mg K 1 F)) (hbind : ∀ (s : Shared) (u : Value), BindsTo s fd ⟨[u], []⟩ [(x, u)]) (hT : ∃ μ, F [.lst (ns.map .int)] [] = .ok (.bl true) μ)
    (G : Hp) (tabs : ∀ b ∈ tabS cs, G b = some (.tbl #[])) (only : ∀ b, G b = none ∨ b ∈ tabS cs ∨ ∃ o xs, G b = some (.frz o (.lst xs))) (at_ : SqL K G a (ns.map V.int)) (ok : HOk P w G s1.heap) (sole : ∀ b, G b ≠ none → b = a ∨ b ∈ tabS cs) (apart : G a ≠ none → K.lookup a = none) :
    codeAny (model P w) callerA (.call (.ref fa) ⟨[.ref a], []⟩) (fun r s' => r = .ok (.ret (.bool true)) ∧ OldK s1.heap s'.heap ∧ s'.os = s1.os ∧ AllBare s'.gens) s1 := by
  have isT : ∀ b : Addr, b ∈ tabS cs → s1.heap.get? b = some tab0 := fun b hb => by
    obtain ⟨p, hp, e⟩ := List.mem_map.mp hb
    rw [← e]
    exact hT0.at_ p hp
  have grd : ∀ {b : Addr} {o : Obj}, s1.heap.get? b = some o → (b = a → G b = none) → o ≠ tab0 → (hidT s1.heap G).get? b = some o := fun {b o} e h hne => hidT_get e (by
    cases q : G b with
    | none => rfl
    | some u =>
      rcases sole b (by rw [q]; exact fun z => nomatch z) with y | y
      · have z := h y
        rw [q] at z
        exact z
      · have z := isT b y
        rw [e] at z
        exact (hne (Option.some.inj z)).elim)
  have notT : ∀ {o : Obj} {vs : Array Value}, o.data = .fields vs → 0 < vs.size → o ≠ tab0 := fun {o vs} d hz z => by
    rw [z] at d
    cases d
    simp at hz
  have nsK : ∀ {b : Addr} {m : Str → Option Value}, s1.heap.Ns b m → (hidT s1.heap G).Ns b m := fun {b m} ⟨o, es, ep, e, d, r⟩ => ⟨o, es, ep, grd e (fun z => by
    subst z
    rw [ha] at e
    cases e
    cases d) (fun z => by
    rw [z] at d
    cases d), d, r⟩
  have kin : K.In (hidT s1.heap G) := fun b o e => hidT_get (KX b o e) (by
    cases q : G b with
    | none => rfl
    | some u =>
      rcases sole b (by rw [q]; exact fun z => nomatch z) with y | y
      · subst y
        rw [apart (by rw [q]; exact fun z => nomatch z)] at e
        cases e
      · obtain ⟨p, hp, e2⟩ := List.mem_map.mp y
        rw [← e2, hT0.no p hp] at e
        cases e)
  have md : Mod K mg (hidT s1.heap G) := ⟨kin, nsK hns, ⟨mb, nsK hb, hbb⟩, hlim.elim fun mc z => ⟨mc, nsK z.1, z.2⟩⟩
  have e0 : Env0 P w K mg (hidT s1.heap G) callerA [] s1 G := ⟨rfl, md, fun b o e => of_hidT e, Nat.le_of_eq (hidT_size _ _), trivial, fun b hb => (List.not_mem_nil hb).elim, ok, .of_eq hgen⟩
  have TB : ∀ p ∈ cs, LamX.TabB (hidT s1.heap G) mg p.1 p.2.1 := fun p hp => by
    refine ⟨?_, ?_, fun z => ?_⟩
    · obtain ⟨o, vs, file, tf, flags, tg, inF, text, tt, e1, r1, r2, r3, r⟩ := hT0.code p hp
      refine ⟨o, vs, file, tf, flags, tg, inF, text, tt, grd e1 (fun z => ?_) (notT r2 (Nat.lt_of_le_of_lt (Nat.zero_le _) (Array.getElem?_eq_some_iff.mp r3).1)), r1, r2, r3, r⟩
      rw [z, ha] at e1
      cases e1
      cases r2
    · obtain ⟨bm, ob, b1, b2, b3, b4, b5, b6⟩ := hT0.bm
      have hTp := hT0.at_ p hp
      have nG : bm ≠ mainGlobals := fun q => by
        obtain ⟨o, es, ep, e, hd, _⟩ := hns
        rw [q, e] at b3
        cases b3
        rw [hd] at b6
        cases b6
      have nP : bm ≠ p.2.1 := fun q => by
        rw [q, hTp] at b3
        cases b3
        cases b6
      refine ⟨bm, ob, b1, b2, nG, nP, grd b3 (fun z => ?_) (fun z => ?_), b4, b5, b6⟩
      · rw [z, ha] at b3
        cases b3
        cases b6
      · rw [z] at b6
        cases b6
    · obtain ⟨o, es, ep, e, hd, _⟩ := hns
      rw [z, hT0.at_ p hp] at e
      cases e
      cases hd
  have want : spF mg K 1 F [.ref a] G (fun v _ => v = .bl true) (fun _ _ _ => False) := by
    refine ⟨⟨[], []⟩, [], [.lst (ns.map .int)], ⟨rfl, List.nodup_nil, fun b z => (List.not_mem_nil z).elim, fun n b o z => by simp at z, fun n o z => by simp at z, ?_⟩, .cons (.lst ?_ (rps_ints ns)) .nil, rfl, ?_⟩
    · rw [hcs]
      intro p hp
      obtain ⟨q, hq, e⟩ := List.mem_map.mp hp
      subst e
      exact .nil (tabs _ (List.mem_map.mpr ⟨q, hq, rfl⟩))
    · rcases at_ with z | z
      · exact .inl ⟨⟨List.not_mem_nil, List.not_mem_nil⟩, z⟩
      · exact .inr z
    · obtain ⟨μ, e⟩ := hT
      rw [e]
      exact fun v H' ad' _ r => by cases r; rfl
  refine codeAny_mono ((hF _ kin (nsK hns) TB).run callerA [] s1 G ⟨[.ref a], []⟩ [.ref a] [.ref a] _ _ hr rfl e0 (hbind s1 (.ref a)) (.cons rfl .nil) want) fun r s' h => ?_
  match r, h with
  | .error e, h =>
    obtain ⟨_, _, _, _, _, _, _, _, _, _, _, _, z⟩ := h
    exact z.elim
  | .ok .next, h => exact h.elim
  | .ok .brk, h => exact h.elim
  | .ok .cont, h => exact h.elim
  | .ok (.ret u), h =>
    obtain ⟨v, G2, os, bare, un, ok2, rel, q⟩ := h
    cases (show v = .bl true from q)
    cases (show u = Value.bool true from rel)
    have key : ∀ b o, b ∉ tabS cs → s1.heap.get? b = some o → s'.heap.get? b = some o := fun b o nb e => by
      cases q : G b with
      | none => exact un.keep b o e q (fun z => (List.not_mem_nil (show b ∈ ([] : List Addr) from z)).elim) List.not_mem_nil
      | some u =>
        rcases only b with z | z | ⟨ob, xs, z⟩
        · rw [q] at z; cases z
        · exact (nb z).elim
        · obtain ⟨e1, _⟩ := ok b _ z
          obtain ⟨e2, _⟩ := ok2 b _ (un.frzs b ob _ z)
          rw [e] at e1
          cases e1
          exact e2
    have grown : ∀ p ∈ cs, ∃ more : Array Value, s'.heap.get? p.2.1 = some { cls := .none, data := .fields more } := fun p hp => by
      obtain ⟨more, z⟩ := un.tbls p.2.1 #[] (tabs _ (List.mem_map.mpr ⟨p, hp, rfl⟩))
      exact ⟨_, ok2 _ _ z⟩
    refine ⟨rfl, ⟨fun b o e => ?_, fun b o e => ?_⟩, os, bare⟩
    · by_cases hbt : b ∈ tabS cs
      · obtain ⟨p, hp, ep⟩ := List.mem_map.mp hbt
        obtain ⟨more, hm⟩ := grown p hp
        rw [← ep] at e ⊢
        have e3 := hT0.at_ p hp
        rw [e3] at e
        cases e
        exact .inr (.inl ⟨((hT0.code p hp).tab e3).isCodeTable, rfl, #[], more, rfl, by rw [Array.empty_append]; exact hm⟩)
      · exact .inl (key b o hbt e)
    · by_cases hbt : b ∈ tabS cs
      · obtain ⟨p, hp, ep⟩ := List.mem_map.mp hbt
        obtain ⟨more, hm⟩ := grown p hp
        rw [← ep]
        exact ⟨_, hm⟩
      · exact ⟨o, key b o hbt e⟩
theorem end_call (KX : K.In s1.heap) (hns : s1.heap.Ns mainGlobals mg) (hb : s1.heap.Ns builtinsNs mb) (hbb : ∀ x : Str, x ≠ "__name__" → mb x = bootBuiltins x) (hlim : s1.heap.NoLimit) (hgen : s1.gens = #[])
    (ha : s1.heap.get? a = some { cls := .type "list", data := .seq us.toArray }) (hi : IntsAre us ns) (hl : ns.length ≤ sizeLine) (hr : Room k callerA) (hT0 : TabsOk K s1.heap mg cs) (hcs : Tabc.T = cs.map (·.2))
    (hF : ∀ base : Heap, K.In base → base.Ns mainGlobals mg → (∀ p ∈ cs, LamX.TabB base mg p.1 p.2.1) → FnG P w K mg base k fa fd [x] (spF mg K 1 F)) (hbind : ∀ (s : Shared) (u : Value), BindsTo s fd ⟨[u], []⟩ [(x, u)]) (hT : ∃ μ, F [.lst (ns.map .int)] [] = .ok (.bl true) μ) :
    codeAny (model P w) callerA (.call (.ref fa) ⟨[.ref a], []⟩) (fun r s' => r = .ok (.ret (.bool true)) ∧ OldK s1.heap s'.heap ∧ s'.os = s1.os ∧ AllBare s'.gens) s1 := by
  have rv := vals_ints hi
  have lenV := hi.length
  have aT : a ∉ tabS cs := fun z => by
    obtain ⟨p, hp, e⟩ := List.mem_map.mp z
    have q := hT0.at_ p hp
    rw [e, ha] at q
    have z2 := congrArg Obj.data (Option.some.inj q)
    cases z2
  cases hk : K.lookup a with
  | some o =>
    have e := KX a o hk
    rw [ha] at e
    cases e
    refine end_core KX hns hb hbb hlim hgen ha hr hT0 hcs hF hbind hT (fun b => if b ∈ tabS cs then some (.tbl #[]) else none) (fun b hb => if_pos hb) (fun b => ?_) (.inr ⟨_, us.toArray, _, hk, rfl, rfl, rfl, by rw [List.size_toArray, lenV]; exact hl, by simpa using rv⟩) (fun b u z => ?_) (fun b z => ?_) fun z => (z (if_neg aT)).elim
    · by_cases c : b ∈ tabS cs
      · exact .inr (.inl c)
      · exact .inl (if_neg c)
    · have z : (if b ∈ tabS cs then some (HO.tbl #[]) else none) = some u := z
      by_cases c : b ∈ tabS cs
      · rw [if_pos c] at z
        cases z
        obtain ⟨p, hp, e⟩ := List.mem_map.mp c
        rw [← e]
        exact hT0.at_ p hp
      · rw [if_neg c] at z
        cases z
    · by_cases c : b ∈ tabS cs
      · exact .inr c
      · exact (z (if_neg c)).elim
  | none =>
    refine end_core KX hns hb hbb hlim hgen ha hr hT0 hcs hF hbind hT (upd (fun b => if b ∈ tabS cs then some (.tbl #[]) else none) a (.frz { cls := .type "list", data := .seq us.toArray } (.lst (ns.map V.int)))) (fun b hb => ?_) (fun b => ?_) (.inl (.inr ⟨{ cls := .type "list", data := .seq us.toArray }, upd_same⟩)) (fun b u z => ?_) (fun b z => ?_) fun _ => hk
    · rw [upd_ne fun z => aT (by rw [← z]; exact hb)]
      exact if_pos hb
    · by_cases hb : b = a
      · rw [hb]; exact .inr (.inr ⟨_, _, upd_same⟩)
      · rw [upd_ne hb]
        by_cases c : b ∈ tabS cs
        · exact .inr (.inl c)
        · exact .inl (if_neg c)
    · by_cases hb : b = a
      · rw [hb, upd_same] at z
        cases z
        rw [hb]
        exact ⟨ha, by rw [List.length_map]; exact hl, us, _, rv, ha⟩
      · rw [upd_ne hb] at z
        have z : (if b ∈ tabS cs then some (HO.tbl #[]) else none) = some u := z
        by_cases c : b ∈ tabS cs
        · rw [if_pos c] at z
          cases z
          obtain ⟨p, hp, e⟩ := List.mem_map.mp c
          rw [← e]
          exact hT0.at_ p hp
        · rw [if_neg c] at z
          cases z
    · by_cases hb : b = a
      · exact .inl hb
      · rw [upd_ne hb] at z
        by_cases c : b ∈ tabS cs
        · exact .inr c
        · exact (z (if_neg c)).elim
end
end PX
namespace PX
open PySem PySem.Spec PyProof.Rows L2
/-- the names of a text's defs that hold lambdas, with their code objects and tables -/
def mkCs (K : PySem.W.Frag) : List Str → List (Addr × Addr × Str)
  | [] => []
  | x :: r => match PySem.W.tabIn K x with
    | some (c, p) => (c, p, x ++ ".<locals>." ++ "<lambda>") :: mkCs K r
    | none => mkCs K r
theorem mkCs_mem {K : PySem.W.Frag} : ∀ {mks : List Str} {p : Addr × Addr × Str}, p ∈ mkCs K mks → ∃ x ∈ mks, PySem.W.tabIn K x = some (p.1, p.2.1) ∧ p.2.2 = x ++ ".<locals>." ++ "<lambda>"
  | [], p, h => nomatch h
  | x :: r, p, h => by
    unfold mkCs at h
    cases e : PySem.W.tabIn K x with
    | none =>
      rw [e] at h
      obtain ⟨y, h1, h2⟩ := mkCs_mem h
      exact ⟨y, List.mem_cons_of_mem _ h1, h2⟩
    | some q =>
      rw [e] at h
      rcases List.mem_cons.mp h with z | z
      · subst z
        exact ⟨x, List.mem_cons_self, e, rfl⟩
      · obtain ⟨y, h1, h2⟩ := mkCs_mem z
        exact ⟨y, List.mem_cons_of_mem _ h1, h2⟩
theorem mkCs_has {K : PySem.W.Frag} {x : Str} {c p : Addr} (e : PySem.W.tabIn K x = some (c, p)) : ∀ {mks : List Str}, x ∈ mks → (c, p, x ++ ".<locals>." ++ "<lambda>") ∈ mkCs K mks
  | [], h => nomatch h
  | y :: r, h => by
    unfold mkCs
    rcases List.mem_cons.mp h with z | z
    · subst z
      rw [e]
      exact List.mem_cons_self
    · have q := mkCs_has e z
      cases PySem.W.tabIn K y with
      | none => exact q
      | some w => exact List.mem_cons_of_mem _ q
@[reducible] def tabcOf (K : PySem.W.Frag) (mks : List Str) : Tabc := ⟨(mkCs K mks).map (·.2)⟩
theorem walk_G {l : PySem.W.OpenLaw} {n k : Nat} {q : Program} {loose : List Str} {XP : (Str → Option Value) → Heap → Prop} {YP : World → Heap → Prop} {d : DefRec} {K : Params → PySem.W.Frag} {F : List D → M D} {x : Str} {mks : List Str}
    (hn : l.most = some n) (hn2 : n ≤ 1000000) (hdf : d.params.defaults = []) (hr : Room k callerA) (hY : ∀ (w : World) (h : Heap), YP w h → (K w.params).In h)
    (hm : ∀ (w : World), ∀ x ∈ mks, (∃ d, (recsOf q).find? (fun e => e.name == x) = some d) ∧ ∀ c p, PySem.W.tabIn (K w.params) x = some (c, p) → (K w.params).lookup p = none)
    (hF : ∀ (w : World) (mg : Str → Option Value) (fa : Addr) (h : Heap), (K w.params).In h → h.Ns mainGlobals mg → mg d.name = some (.ref fa) →
      ∃ fd : FuncData, (∀ (s : Shared) (u : Value), BindsTo s fd ⟨[u], []⟩ [(x, u)]) ∧
        ∀ base : Heap, (K w.params).In base → base.Ns mainGlobals mg → (∀ p ∈ mkCs (K w.params) mks, LamX.TabB base mg p.1 p.2.1) → FnG l.prog w (K w.params) mg base k fa fd [x] (@spF (tabcOf (K w.params) mks) mg (K w.params) 1 F))
    (hT : ∀ ns : List Int, ns.length ≤ n → (∀ z ∈ ns, Builtin.Int.intBits z ≤ 1048576) → ∃ μ, F [.lst (ns.map .int)] [] = .ok (.bl true) μ) :
    PySem.W.WalkO q loose XP YP l.row.toRowW d [] (fun f vs => PySem.call f vs) := by
  refine Att.attach_callB hn hdf fun w s0 s1 mg mb fa o pm cd doc a us ns G Y ho hd hcd hmg hobj hints hlen hbits hg => ?_
  obtain ⟨fd, hbd, hf⟩ := hF w mg fa _ (hY w _ Y) G.T.g hmg
  letI : Tabc := tabcOf (K w.params) mks
  have T0 : TabsOk (K w.params) s1.heap mg (mkCs (K w.params) mks) := by
    have one : ∀ p ∈ mkCs (K w.params) mks, PySem.W.CodeHd s1.heap p.1 p.2.1 ∧ s1.heap.get? p.2.1 = some (PySem.W.tabObj #[]) ∧ (K w.params).lookup p.2.1 = none := fun p hp => by
      obtain ⟨x, hx, e1, e2⟩ := mkCs_mem hp
      obtain ⟨⟨d, h1⟩, h2⟩ := hm w x hx
      have z := PySem.W.tab_of G.T (hY w _ Y) h1 e1
      exact ⟨z.1, z.2, h2 _ _ e1⟩
    exact ⟨fun p hp => (one p hp).2.1, fun p hp => (one p hp).2.2, fun p hp => (one p hp).1, G.T.bmain⟩
  exact end_call (hY w _ Y) G.T.g G.T.b G.T.builtins G.T.nolimit hg hobj hints (Nat.le_trans hlen (million hn2)) hr T0 rfl hf hbd (hT ns hlen hbits)
end PX
namespace PX
open PySem PySem.Spec PyProof.Rows L2
variable [Tabc]
variable {Z : Wd}
/-! ### 26a. in, not in -/
def inP (p : PyData) (ps : List PyData) (μ : Mu) : R Bool := if (SeqAt.shaped p && SeqAt.shaped (.list ps)) = true then .ok (ps.any fun z => PyData.eqv z p) μ else .no
def inB (d e : D) : M Bool := fun μ => match asC μ e with
  | some (t, ks, ds) => if keyB t d = true then .ok (lookD (sameB t d) ks ds).isSome μ else .no
  | none => (match pdm μ e with
    | .list ps => inP (pdm μ d) ps μ
    | .tuple ps => inP (pdm μ d) ps μ
    | _ => .no)
def inD (d e : D) : M D := bd (inB d e) blV
def ninD (d e : D) : M D := bd (inB d e) fun b => blV (!b)
def ng (n b : Bool) : Bool := if n then !b else b
def rInQ (K : PySem.W.Frag) (n : Bool) : R2 := fun x y H Q => (∃ d ds, Dp K H x d ∧ (Dp K H y (.list ds) ∨ Dp K H y (.tuple ds)) ∧ SeqAt.shaped d = true ∧ SeqAt.shaped (.list ds) = true ∧ Q (.bl (ng n (ds.any fun z => PyData.eqv z d))) H) ∨
  ∃ a o, y = .ref a ∧ DGet H a x o ∧ Q (.bl (ng n o.isSome)) H
theorem op_inQ {X : Cx} (hu : X.A.units + 65 < cLine) : OpR X (compareOp .In) (rInQ X.K false) := by
  intro pins s σ H x y v u Q I rx ry h
  rcases h with ⟨d, ds, hd, he, sd, se, q⟩ | ⟨a, o, ey, g, q⟩
  · obtain ⟨as, r1⟩ := Dp.reads I d x v hd rx
    have cl := SeqAt.canLay_of_shaped se
    rcases he with he | he
    · obtain ⟨bs, r2⟩ := Dp.reads I (.list ds) y u he ry
      exact SeqAt.in_list_reads r2 r1 (by simpa only [PyData.canLay0] using cl) (SeqAt.canLay_of_shaped sd) (room_in_shaped sd hu) ⟨.bl _, H, I, rfl, q⟩
    · obtain ⟨bs, r2⟩ := Dp.reads I (.tuple ds) y u he ry
      exact SeqAt.in_tuple_reads r2 r1 (by simpa only [PyData.canLay0] using cl) (SeqAt.canLay_of_shaped sd) (room_in_shaped sd hu) ⟨.bl _, H, I, rfl, q⟩
  · subst ey
    obtain rfl : u = Value.ref a := ry
    exact d_in (by omega) I g rx fun s3 I3 => ⟨.bl o.isSome, H, I3, rfl, q⟩
theorem op_ninQ {X : Cx} (hu : X.A.units + 65 < cLine) : OpR X (compareOp .NotIn) (rInQ X.K true) := by
  intro pins s σ H x y v u Q I rx ry h
  rcases h with ⟨d, ds, hd, he, sd, se, q⟩ | ⟨a, o, ey, g, q⟩
  · obtain ⟨as, r1⟩ := Dp.reads I d x v hd rx
    have cl := SeqAt.canLay_of_shaped se
    rcases he with he | he
    · obtain ⟨bs, r2⟩ := Dp.reads I (.list ds) y u he ry
      exact SeqAt.notIn_list_reads r2 r1 (by simpa only [PyData.canLay0] using cl) (SeqAt.canLay_of_shaped sd) (room_in_shaped sd hu) ⟨.bl _, H, I, rfl, q⟩
    · obtain ⟨bs, r2⟩ := Dp.reads I (.tuple ds) y u he ry
      exact SeqAt.notIn_tuple_reads r2 r1 (by simpa only [PyData.canLay0] using cl) (SeqAt.canLay_of_shaped sd) (room_in_shaped sd hu) ⟨.bl _, H, I, rfl, q⟩
  · subst ey
    obtain rfl : u = Value.ref a := ry
    exact d_notIn (by omega) I g rx fun s3 I3 => ⟨.bl (!o.isSome), H, I3, rfl, q⟩
theorem v_inB {n : Bool} : V2 Z (rInQ Z.K n) fun d e => bd (inB d e) fun b => blV (ng n b) := by
  intro x y d e H ad μ Q m rx ry h
  have h := sat_bd.mp h
  have h : Sat (match asC μ e with
    | some (t, ks, ds) => if keyB t d = true then .ok (lookD (sameB t d) ks ds).isSome μ else .no
    | none => (match pdm μ e with
      | .list ps => inP (pdm μ d) ps μ
      | .tuple ps => inP (pdm μ d) ps μ
      | _ => .no)) (fun b μ' => Sat (blV (ng n b) μ') (KE Z H ad Q) (XW Z H ad)) (XW Z H ad) := h
  cases hc : asC μ e with
  | some p =>
    obtain ⟨t, ks, ds⟩ := p
    rw [hc] at h
    by_cases c : keyB t d = true
    · have h : Sat (if keyB t d = true then R.ok (lookD (sameB t d) ks ds).isSome μ else .no) (fun b μ' => Sat (blV (ng n b) μ') (KE Z H ad Q) (XW Z H ad)) (XW Z H ad) := h
      rw [if_pos c] at h
      obtain ⟨a, vs, rfl, dk, p⟩ := asC_ok m ry hc
      obtain ⟨o, g, w⟩ := dk_get dk p c rx
      have q := ke_bl m h
      refine .inr ⟨a, o, rfl, g, ?_⟩
      rcases w with ⟨e1, e2⟩ | ⟨v, d', e1, e2, _⟩
      · rw [e2] at q
        rw [e1]
        exact q
      · rw [e2] at q
        rw [e1]
        exact q
    · have h : Sat (if keyB t d = true then R.ok (lookD (sameB t d) ks ds).isSome μ else .no) (fun b μ' => Sat (blV (ng n b) μ') (KE Z H ad Q) (XW Z H ad)) (XW Z H ad) := h
      rw [if_neg c] at h
      exact h.elim
  | none =>
    rw [hc] at h
    have fin : ∀ ps, (pdm μ e = .list ps ∨ pdm μ e = .tuple ps) → Sat (inP (pdm μ d) ps μ) (fun b μ' => Sat (blV (ng n b) μ') (KE Z H ad Q) (XW Z H ad)) (XW Z H ad) → rInQ Z.K n x y H Q := fun ps he h => by
      unfold inP at h
      by_cases c : (SeqAt.shaped (pdm μ d) && SeqAt.shaped (.list ps)) = true
      · rw [if_pos c] at h
        obtain ⟨c1, c2⟩ := Bool.and_eq_true_iff.mp c
        have cl := SeqAt.canLay_of_shaped c2
        refine .inl ⟨_, ps, dpm_of m rx (SeqAt.canLay_of_shaped c1), ?_, c1, c2, ke_bl m h⟩
        rcases he with he | he
        · exact .inl (he ▸ dpm_of m ry (by rw [he]; exact cl))
        · exact .inr (he ▸ dpm_of m ry (by rw [he]; simpa only [PyData.canLay0] using cl))
      · rw [if_neg c] at h
        exact h.elim
    have h : Sat (match pdm μ e with
      | .list ps => inP (pdm μ d) ps μ
      | .tuple ps => inP (pdm μ d) ps μ
      | _ => .no) (fun b μ' => Sat (blV (ng n b) μ') (KE Z H ad Q) (XW Z H ad)) (XW Z H ad) := h
    cases hp : pdm μ e with
    | list ps => rw [hp] at h; exact fin ps (.inl hp) h
    | tuple ps => rw [hp] at h; exact fin ps (.inr hp) h
    | _ => rw [hp] at h; exact h.elim
theorem v_in : V2 Z (rInQ Z.K false) inD := v_inB (n := false)
theorem v_nin : V2 Z (rInQ Z.K true) ninD := v_inB (n := true)
/-! ### 26b. all, any -/
def asBs : List D → Option (List Bool)
  | [] => some []
  | .bl b :: r => (asBs r).map fun bs => b :: bs
  | _ :: _ => none
theorem asBs_ok {K : PySem.W.Frag} {H : Hp} {ad : Pl} : ∀ {ds : List D} {bs : List Bool} {vs : List V}, asBs ds = some bs → Rps K H ad vs ds → vs = bs.map V.bl
  | [], bs, vs, h, r => by cases h; cases r; rfl
  | d :: ds, bs, vs, h, r => by
    cases d with
    | bl b =>
      obtain ⟨cs, h1, h2⟩ := Option.map_eq_some_iff.mp (show (asBs ds).map (fun bs => b :: bs) = some bs from h)
      subst h2
      cases r with
      | cons a r =>
        rw [rp_bl a, asBs_ok h1 r]
        rfl
    | _ => cases h
def allF (ds : List D) : M D := fun μ => match ds with
  | [d] => lft (((asL μ d).bind asBs).map fun bs => .bl (bs.all id)) μ
  | _ => .no
def anyF (ds : List D) : M D := fun μ => match ds with
  | [d] => lft (((asL μ d).bind asBs).map fun bs => .bl (bs.any id)) μ
  | _ => .no
theorem v_allG {f : List Bool → Bool} : VA Z (fun vs H Q => ∃ (a : Addr) (bs : List Bool), vs = [V.ref a] ∧ SqL Z.K H a (bs.map V.bl) ∧ Q (.bl (f bs)) H) fun ds => fun μ => match ds with
    | [d] => lft (((asL μ d).bind asBs).map fun bs => .bl (f bs)) μ
    | _ => .no := by
  intro xs ds H ad μ Q m r h
  match ds, r, h with
  | [d], r, h =>
    obtain ⟨x, rfl, rx⟩ := rps1 r
    obtain ⟨z, e, q⟩ := sat_lft.mp (show Sat (lft (((asL μ d).bind asBs).map fun bs => .bl (f bs)) μ) (KE Z H ad Q) (XW Z H ad) from h)
    obtain ⟨bs, e1, e2⟩ := Option.map_eq_some_iff.mp e
    subst e2
    obtain ⟨ys, k1, k2⟩ := Option.bind_eq_some_iff.mp e1
    obtain ⟨a, vs, rfl, sq, p⟩ := asL_ok m rx k1
    rw [asBs_ok k2 p] at sq
    exact ⟨a, bs, rfl, sq, ke_bl m q⟩
  | [], _, h | _ :: _ :: _, _, h => exact h.elim
theorem v_all : VA Z (rAll Z.K) allF := v_allG (f := fun bs => bs.all id)
theorem v_any : VA Z (rAny Z.K) anyF := v_allG (f := fun bs => bs.any id)
/-! ### 26c. lists that are made in the store -/
theorem mkR_ok {ds : List D} {vs : List V} {H : Hp} {ad : Pl} {μ : Mu} {Q : VK} (m : MuOk Z.K H ad μ) (r : Rps Z.K H ad vs ds) (h : Sat (mkR ds μ) (KE Z H ad Q) (XW Z H ad)) :
    ds.length ≤ 1000000 ∧ ∀ p, H p = none → Q (.ref p) (upd H p (.lst vs)) := by
  unfold mkR at h
  by_cases hz : (D.pures ds && decide (ds.length ≤ 1000000)) = true
  · rw [if_pos hz] at h
    simp only [Bool.and_eq_true, decide_eq_true_eq] at hz
    refine ⟨hz.2, fun p hp => ?_⟩
    have n := m.push (p := p) (o := .lst vs) (so := .ml ds) hp hz.1 fun H' ad' gr e => ⟨vs, e, Rps.grow gr _ _ r⟩
    refine h (.ref p) _ _ n (.ref ?_)
    show (ad.ad ++ [p])[μ.length]? = some p
    rw [← m.len]
    simp
  · rw [if_neg hz] at h
    exact h.elim
theorem x_lstR {X : Cx} {es : List Expr} {ms : List (Rho → M D)} {pos : Pos} (h : PA X es (tA Z (evA ms))) : PE X (.List es pos) (tE Z fun ρ => bd (evA ms ρ) mkR) :=
  PEi (pe_lst h) fun σ H Q ⟨ad, ρ, μ, g, hl, h⟩ => stepA g hl h fun vs ds H1 ad1 μ1 n1 g1 r1 q1 => by
    obtain ⟨h1, h2⟩ := mkR_ok n1.mu r1 (q1.imp fun _ _ z => z.nx n1)
    exact ⟨by rw [r1.length]; exact million h1, h2⟩
def mulR (d e : D) : M D := fun μ => match asL μ d, e with
  | some xs, .int k => if k ≤ 100000 ∧ -100000 ≤ k ∧ xs.length * k.toNat ≤ 1000000 then mkR (List.replicate k.toNat xs).flatten μ else .no
  | _, _ => .no
theorem v_mulR : V2 Z (rMulX Z.K) mulR := by
  intro x y d e H ad μ Q m rx ry h
  unfold mulR at h
  cases k : asL μ d with
  | none => rw [k] at h; exact h.elim
  | some xs =>
    rw [k] at h
    cases e with
    | int i =>
      obtain rfl := rp_int ry
      have h : Sat (if i ≤ 100000 ∧ -100000 ≤ i ∧ xs.length * i.toNat ≤ 1000000 then mkR (List.replicate i.toNat xs).flatten μ else .no) (KE Z H ad Q) (XW Z H ad) := h
      by_cases c : i ≤ 100000 ∧ -100000 ≤ i ∧ xs.length * i.toNat ≤ 1000000
      · rw [if_pos c] at h
        obtain ⟨a, vs, rfl, sq, p⟩ := asL_ok m rx k
        exact .inr (.inl ⟨a, i, vs, rfl, rfl, sq, c.2.1, c.1, by rw [p.length]; exact c.2.2, (mkR_ok m (p.rep i.toNat) h).2⟩)
      · rw [if_neg c] at h
        exact h.elim
    | _ => exact h.elim
def addR (d e : D) : M D := fun μ => match asL μ d, asL μ e with
  | some xs, some ys => mkR (xs ++ ys) μ
  | _, _ => .no
theorem v_addR : V2 Z (rAddX Z.K) addR := by
  intro x y d e H ad μ Q m rx ry h
  unfold addR at h
  cases h1 : asL μ d with
  | none => rw [h1] at h; exact h.elim
  | some xs =>
    cases h2 : asL μ e with
    | none => rw [h1, h2] at h; exact h.elim
    | some ys =>
      rw [h1, h2] at h
      obtain ⟨a, vs, rfl, r1, p1⟩ := asL_ok m rx h1
      obtain ⟨b, ws, rfl, r2, p2⟩ := asL_ok m ry h2
      obtain ⟨q1, q2⟩ := mkR_ok m (p1.app p2) h
      exact .inr (.inl ⟨a, b, vs, ws, rfl, rfl, r1, r2, by rw [p1.length, p2.length, ← List.length_append]; exact million q1, q2⟩)
def lstR (ds : List D) : M D := fun μ => match ds with
  | [d] => (match asQ μ d with
    | some xs => mkR xs μ
    | none => .no)
  | _ => .no
theorem v_lstR : VA Z (rLstX Z.K) lstR := by
  intro xs ds H ad μ Q m r h
  match ds, r, h with
  | [d], r, h =>
    obtain ⟨x, rfl, rx⟩ := rps1 r
    have h : Sat (match asQ μ d with
      | some xs => mkR xs μ
      | none => .no) (KE Z H ad Q) (XW Z H ad) := h
    cases k : asQ μ d with
    | none => rw [k] at h; exact h.elim
    | some xs =>
      rw [k] at h
      obtain ⟨a, vs, rfl, q, p⟩ := asQ_ok m rx k
      exact ⟨a, vs, rfl, q, (mkR_ok m p h).2⟩
  | [], _, h | _ :: _ :: _, _, h => exact h.elim
end PX
namespace PX
open PySem PySem.Spec PyProof.Rows L2
variable [Tabc]
variable {Z : Wd}
/-! ### 26d. append, extend -/
section
theorem extendW (T : String) (hT : T = "list" ∨ T = "tuple") (l : Addr) (items : Array Value) (n : Nat) (b : Addr) (items2 : Array Value) (n2 : Nat) (dd : Option Addr) (sl : Array (Option Value)) (hc0 : ¬(!items.isEmpty && Builtin.List.listTooLong (items.size + items2.size)) = true) (hc1 : items.size ≤ sizeLine) (hs2 : items.size + items2.size ≤ sizeLine + 1) :
    Meets (Builtin.«list.extend» ⟨[.ref l, .ref b], []⟩) (fun _ R s => s.heap.get? l = some { cls := .type "list", dict := none, data := .seq items n, slots := #[] } ∧ s.heap.get? b = some { cls := .type T, dict := dd, data := .seq items2 n2, slots := sl } ∧ R (.ok (.ret Value.none)) { s with heap := s.heap.update l (Obj.mapSeq fun x => x ++ items2), toks := s.toks }) :=
  .of_wp fun prog w A R s h => by
    obtain ⟨hp, g, d, tk, os⟩ := s; obtain ⟨hl, hb, h⟩ := h; have f1 := AutoSeq1.idx_int; have f2 := AutoSeq1.sub_tuple_tuple; have f3 := AutoSeq1.sub_list_list; have f4 := AutoSeq1.sub_tuple_list; have f5 := AutoSeq1.sub_list_tuple;
    have hz' : (items ++ items2).size ≤ sizeLine + 1 := by rw [Array.size_append]; exact hs2
    rcases hT with rfl | rfl
    · wp_walk using (wpAny_updateSeq hl rfl (hz := hc1) (_hz' := hz')), wpAny_loadPart' hl, wpAny_loadPart' hb; exact ⟨_, rfl, h⟩
    · wp_walk using (wpAny_updateSeq hl rfl (hz := hc1) (_hz' := hz')), wpAny_loadPart' hl, wpAny_loadPart' hb; exact ⟨_, rfl, h⟩
end
def chkL (d : D) : M Unit := fun μ => match asL μ d with
  | some _ => .ok () μ
  | none => .no
def appD (d : D) (vs : List D) : M D := fun μ => match d, vs with
  | .ref n, [v] => (match mlOf μ n with
    | some xs => if (v.pure && decide (xs.length < 1000000)) = true then .ok .non (μ.set n (.ml (xs ++ [v]))) else .no
    | none => .no)
  | _, _ => .no
def methM (mo : Rho → M D) (ms : List (Rho → M D)) (chk : D → M Unit) (f : D → List D → M D) (ρ : Rho) : M D := bd (mo ρ) fun d => bd (chk d) fun _ => bd (evA ms ρ) fun ds => f d ds
theorem ml_pure {K : PySem.W.Frag} {H : Hp} {ad : Pl} {μ : Mu} (m : MuOk K H ad μ) {n : Nat} {ds : List D} (h : mlOf μ n = some ds) : D.pures ds = true := by
  unfold mlOf at h
  cases z : μ[n]? with
  | none => rw [z] at h; cases h
  | some o =>
    rw [z] at h
    cases o with
    | dk kd' => cases h
    | dd _ _ _ => cases h
    | ml es => cases h; exact m.pur n _ z
section
variable {X : Cx} {o e : Expr} {es : List Expr} {mo : Rho → M D} {ms : List (Rho → M D)} {apos cpos : Pos} {name : Str} {id : String} {r : V → List V → Hp → VK → Prop} {f : D → List D → M D}
def VM (Z : Wd) (r : V → List V → Hp → VK → Prop) (f : D → List D → M D) : Prop := ∀ (x : V) (d : D) (xs : List V) (ds : List D) (H : Hp) (ad : Pl) (μ : Mu) (Q : VK), MuOk Z.K H ad μ → Rp Z.K H ad x d → Rps Z.K H ad xs ds → Sat (f d ds μ) (KE Z H ad Q) (XW Z H ad) → r x xs H Q
/-- a method of a list -/
theorem x_lmeth (hK : Z.K = X.K) (slot : Slot "list" name id) (hty : typeOf (.builtin id) = pure (.type "method_descriptor")) (hm : MtR X id r) (hf : VM Z r f) (ho : PE X o (tE Z mo)) (ha : PA X (e :: es) (tA Z (evA ms)))
    (hbase : attributeBase o name X.env (eval o X.env) = eval o X.env)
    (hfew : ((backTo cpos (starEach (e :: es) X.env)).all (fun x => !x.1) && (backToKw cpos (keywordEach [] X.env)).all (fun x => x.1.isSome)
      && decide ((e :: es).length + ([] : List Keyword).length + (if ([] : List Keyword).isEmpty then 0 else 1) < 30)) = true)
    (hline : (apos.endLine == cpos.line) = true) (hs : starEach (e :: es) X.env = (false, eval e X.env) :: starEach es X.env) (hplain : (backTo cpos (starEach es X.env)).any (·.1) = false) :
    PE X (.Call (.Attribute o name apos) (e :: es) [] cpos) (tE Z (methM mo ms chkL f)) :=
  PEi (pe_bm F.plainAttrs_list slot hty hm ho ha hbase hfew hline hs hplain) fun σ H Q ⟨ad, ρ, μ, g, hl, h⟩ => step g hl h fun v d H1 ad1 μ1 n1 g1 r1 q1 => by
    have q1 := sat_bd.mp q1
    have q1 : Sat (match asL μ1 d with
      | some _ => R.ok () μ1
      | none => .no) _ _ := q1
    cases k : asL μ1 d with
    | none => rw [k] at q1; exact q1.elim
    | some xs =>
      rw [k] at q1
      obtain ⟨a, vs, rfl, sq, p⟩ := asL_ok g1.mu r1 k
      refine ⟨.inl ⟨rfl, vs, hK ▸ sq⟩, stepA g1 hl q1 fun ws ds H2 ad2 μ2 n2 g2 r2 q2 => ?_⟩
      exact hf _ d ws ds H2 ad2 μ2 Q n2.mu (Rp.grow n2.gr d _ r1) r2 (q2.imp fun _ _ z => z.nx (n1.trans n2))
theorem v_app : VM Z rAppend appD := by
  intro x d xs ds H ad μ Q m rx rs h
  cases d with
  | ref n =>
    match ds, rs, h with
    | [v], rs, h =>
      have h : Sat (match mlOf μ n with
        | some xs => if (v.pure && decide (xs.length < 1000000)) = true then R.ok .non (μ.set n (.ml (xs ++ [v]))) else .no
        | none => .no) (KE Z H ad Q) (XW Z H ad) := h
      cases k : mlOf μ n with
      | none => rw [k] at h; exact h.elim
      | some ys =>
        rw [k] at h
        have h : Sat (if (v.pure && decide (ys.length < 1000000)) = true then R.ok .non (μ.set n (.ml (ys ++ [v]))) else .no) (KE Z H ad Q) (XW Z H ad) := h
        by_cases c : (v.pure && decide (ys.length < 1000000)) = true
        · rw [if_pos c] at h
          simp only [Bool.and_eq_true, decide_eq_true_eq] at c
          obtain ⟨w, rfl, rw'⟩ := rps1 rs
          cases rx with
          | @ref a _ ea =>
            obtain ⟨vs, h1, h2⟩ := mlOf_ok m ea k
            have n4 := m.wr (n := n) (p := a) (o := .lst (vs ++ [w])) (so := .ml (ys ++ [v])) ea (by show D.pures (ys ++ [v]) = true; rw [pures_app, ml_pure m k]; show (true && (v.pure && true)) = true; rw [c.1]; rfl)
              fun H' gr e => ⟨_, e, (Rps.grow gr _ _ h2).app (.cons (Rp.grow gr _ _ rw') .nil)⟩
            exact ⟨a, vs, w, rfl, rfl, h1, by rw [h2.length, sizeLine_eq]; omega, h _ _ _ n4 .non⟩
        · rw [if_neg c] at h
          exact h.elim
    | [], _, h | _ :: _ :: _, _, h => exact h.elim
  | _ => exact h.elim
/-- l.extend(b): b a list or a tuple -/
def rExtX (K : PySem.W.Frag) : V → List V → Hp → VK → Prop := fun x vs H Q => ∃ l b xs zs, x = .ref l ∧ vs = [.ref b] ∧ H l = some (.lst xs) ∧ (SqL K H b zs ∨ SqT K H b zs) ∧ xs.length + zs.length ≤ sizeLine ∧ Q .non (upd H l (.lst (xs ++ zs)))
theorem mt_extX : MtR X "list.extend" (rExtX X.K) := by
  intro pins s σ H x vs v us Q I rx rv h
  obtain ⟨l, b, xs, zs, rfl, rfl, hH, hB, hz, q⟩ := h
  cases rx
  obtain ⟨u, rfl, ru⟩ := rv.one
  cases ru
  obtain ⟨z, its, n, r, hl, e⟩ := I.lstM hH
  have fin : ∀ (T : String) (its2 : List Value) (n2 : Nat) (dd : Option Addr) (sl : Array (Option Value)), (T = "list" ∨ T = "tuple") → Vals zs its2 → s.heap.get? b = some { cls := .type T, dict := dd, data := .seq its2.toArray n2, slots := sl } →
      wpAny (model X.prog X.w) X.A (call (.builtin "list.extend") [.ref l, .ref b]) (EP X pins σ Q) X.xe s := fun T its2 n2 dd sl hT r2 e2 => by
    have hl2 := r2.length
    have hsz : its.toArray.size + its2.toArray.size ≤ sizeLine := by rw [List.size_toArray, List.size_toArray]; omega
    have hlong : ¬ (!its.toArray.isEmpty && Builtin.List.listTooLong (its.toArray.size + its2.toArray.size)) = true := by
      rw [notLongL hsz, Bool.and_false]
      exact Bool.false_ne_true
    refine call_meets F.slot_list_extend ⟨_, e, rfl⟩ F.entry_list_extend (F.args_list_extend_2 _ _)
      (extendW T hT l its.toArray n b its2.toArray n2 dd sl hlong (by rw [List.size_toArray]; omega) (by omega)) ⟨e, e2, ?_⟩
    refine ⟨.non, _, I.lset (its' := its ++ its2) hH e (by simp) (r.append r2) ?_, rfl, q⟩
    rw [List.length_append]
    omega
  rcases hB with hB | hB
  · obtain ⟨its2, r2, p1, _⟩ := I.list hB
    obtain ⟨⟨c1, d1, t1, sl1⟩, n2, e2, hc1, hd1, ht1⟩ := p1
    simp only at hc1 ht1
    subst hc1 ht1
    exact fin "list" its2 n2 d1 sl1 (.inl rfl) r2 e2
  · obtain ⟨its2, r2, p1, _⟩ := I.tuple hB
    obtain ⟨⟨c1, d1, t1, sl1⟩, e2, hc1, n2, ht1⟩ := p1
    simp only at hc1 ht1
    subst hc1 ht1
    exact fin "tuple" its2 n2 d1 sl1 (.inr rfl) r2 e2
def extD (d : D) (vs : List D) : M D := fun μ => match d, vs with
  | .ref n, [v] => (match mlOf μ n, asQ μ v with
    | some xs, some ys => if (D.pures ys && decide (xs.length + ys.length ≤ 1000000)) = true then .ok .non (μ.set n (.ml (xs ++ ys))) else .no
    | _, _ => .no)
  | _, _ => .no
theorem v_ext : VM Z (rExtX Z.K) extD := by
  intro x d xs ds H ad μ Q m rx rs h
  cases d with
  | ref n =>
    match ds, rs, h with
    | [v], rs, h =>
      have h : Sat (match mlOf μ n, asQ μ v with
        | some xs, some ys => if (D.pures ys && decide (xs.length + ys.length ≤ 1000000)) = true then R.ok .non (μ.set n (.ml (xs ++ ys))) else .no
        | _, _ => .no) (KE Z H ad Q) (XW Z H ad) := h
      cases k : mlOf μ n with
      | none => rw [k] at h; exact h.elim
      | some ys =>
        cases k2 : asQ μ v with
        | none => rw [k, k2] at h; exact h.elim
        | some zs =>
          rw [k, k2] at h
          have h : Sat (if (D.pures zs && decide (ys.length + zs.length ≤ 1000000)) = true then R.ok .non (μ.set n (.ml (ys ++ zs))) else .no) (KE Z H ad Q) (XW Z H ad) := h
          by_cases c : (D.pures zs && decide (ys.length + zs.length ≤ 1000000)) = true
          · rw [if_pos c] at h
            simp only [Bool.and_eq_true, decide_eq_true_eq] at c
            obtain ⟨w, rfl, rw'⟩ := rps1 rs
            obtain ⟨b, ws, rfl, sq, p⟩ := asQ_ok m rw' k2
            cases rx with
            | @ref a _ ea =>
              obtain ⟨vs, h1, h2⟩ := mlOf_ok m ea k
              have n4 := m.wr (n := n) (p := a) (o := .lst (vs ++ ws)) (so := .ml (ys ++ zs)) ea (by show D.pures (ys ++ zs) = true; rw [pures_app, ml_pure m k, c.1]; rfl)
                fun H' gr e => ⟨_, e, (Rps.grow gr _ _ h2).app (Rps.grow gr _ _ p)⟩
              exact ⟨a, b, vs, ws, rfl, rfl, h1, sq, by rw [h2.length, p.length]; exact million c.2, h _ _ _ n4 .non⟩
          · rw [if_neg c] at h
            exact h.elim
    | [], _, h | _ :: _ :: _, _, h => exact h.elim
  | _ => exact h.elim
end
end PX
namespace PX
open PySem PySem.Spec PyProof.Rows L2
variable [Tabc]
variable {Z : Wd}
/-! ### 26e. a store's list that is walked: each turn reads it anew -/
def forR (t : Tg) (body : Rho → M Fl) (n : Nat) : Nat → Nat → Rho → M Fl
  | 0, _, _ => stk
  | k + 1, i, ρ => fun μ => match mlOf μ n with
    | none => .no
    | some xs => (match xs[i]? with
      | none => .ok (.nx ρ) μ
      | some d => bd (lft (setTg t d ρ)) (fun ρ1 => bd (body ρ1) fun f => match f with
        | .nx ρ2 => forR t body n k (i + 1) ρ2
        | .ct ρ2 => forR t body n k (i + 1) ρ2
        | .bk ρ2 => rt (.nx ρ2)
        | .rt d => rt (.rt d)) μ)
def forQ (t : Tg) (body : Rho → M Fl) (d : D) (ρ : Rho) : M Fl := match d with
  | .ref n => forR t body n WF 0 ρ
  | d => bd (itX d) fun ds => forD t body ds ρ
def isRef : D → Option Nat
  | .ref n => some n
  | _ => none
def tIq (Z : Wd) (m : Rho → M D) : TI := fun σ H R => ∃ ad ρ μ, Gd Z.K H ad σ ρ μ ∧ σ.length = Z.n ∧
  Sat (m ρ μ) (fun d μ' => match isRef d with
    | some n => mlOf μ' n ≠ none ∧ ∀ a H' ad', Nx Z.K H ad H' ad' μ' → ad'.ad[n]? = some a → R (Itl Z.K a) H'
    | none => Sat (itX d μ') (fun ds μ'' => ∀ J H' ad', Nx Z.K H ad H' ad' μ'' → Yields Z.K H' ad' J ds → R J H') (XW Z H ad)) (XW Z H ad)
section
variable {X : Cx} {tg iter : Expr} {me : Rho → M D} {t : Tg} {body : List Stmt} {mb : Rho → M Fl} {pos : Pos}
theorem i_any (hK : Z.K = X.K) (h : PE X iter (tE Z me)) : PI X tg iter (tIq Z me) := by
  refine ⟨fun pins s σ H R I ⟨ad, ρ, μ, g, hl, h0⟩ => ?_⟩
  have first : tE Z me σ H fun v H1 => ∃ d ad1 μ1, Nx Z.K H ad H1 ad1 μ1 ∧ Rp Z.K H1 ad1 v d ∧ (match isRef d with
    | some n => mlOf μ1 n ≠ none ∧ ∀ a H' ad', Nx Z.K H ad H' ad' μ1 → ad'.ad[n]? = some a → R (Itl Z.K a) H'
    | none => Sat (itX d μ1) (fun ds μ'' => ∀ J H' ad', Nx Z.K H ad H' ad' μ'' → Yields Z.K H' ad' J ds → R J H') (XW Z H ad)) :=
    ⟨ad, ρ, μ, g, hl, h0.imp fun d μ1 q v H1 ad1 n1 r1 => ⟨d, ad1, μ1, n1, r1, q⟩⟩
  refine thn (h.run pins s σ H _ I first) fun u s1 ⟨v, H1, I1, rv, d, ad1, μ1, n1, r1, q1⟩ => ?_
  cases d with
  | lst ds =>
    have q1 : Sat (itX (.lst ds) μ1) (fun ds μ'' => ∀ J H' ad', Nx Z.K H ad H' ad' μ'' → Yields Z.K H' ad' J ds → R J H') (XW Z H ad) := q1
    cases r1 with
    | @lst a vs _ la p =>
      cases rv
      have q2 := q1 (Itl X.K a) H1 ad1 n1 (hK ▸ yields_list la p)
      obtain ⟨its, rl, pl, hz⟩ := I1.list (hK ▸ la.sq)
      refine wpAny_pyIter_list pl.isList ?_
      refine ⟨s1.heap.objs.size, [s1.heap.objs.size], _, _, H1, rfl, I1.kept (t' := s1.toks) fun b o e => Heap.get?_push_of_some _ e, turn_list a _, ⟨_, Heap.get?_push_size _ rfl, rfl, rfl⟩, fun b hb => ?_, q2⟩
      obtain rfl : b = s1.heap.objs.size := by simpa using hb
      exact I1.fpOk (Nat.le_refl _) I1.fresh
  | tup ds =>
    have q1 : Sat (itX (.tup ds) μ1) (fun ds μ'' => ∀ J H' ad', Nx Z.K H ad H' ad' μ'' → Yields Z.K H' ad' J ds → R J H') (XW Z H ad) := q1
    cases r1 with
    | @tup a vs _ ta p =>
      cases rv
      have q2 := q1 (Itt X.K a) H1 ad1 n1 (hK ▸ yields_tup ta p)
      obtain ⟨its, rl, pl, hz⟩ := I1.tuple (hK ▸ ta.sq)
      refine wpAny_pyIter_tuple (show s1.heap.IsTuple a its.toArray from pl) ?_
      refine ⟨s1.heap.objs.size, [s1.heap.objs.size], _, _, H1, rfl, I1.kept (t' := s1.toks) fun b o e => Heap.get?_push_of_some _ e, turn_tuple a _, ⟨_, Heap.get?_push_size _ rfl, rfl, rfl⟩, fun b hb => ?_, q2⟩
      obtain rfl : b = s1.heap.objs.size := by simpa using hb
      exact I1.fpOk (Nat.le_refl _) I1.fresh
  | ref n =>
    cases r1 with
    | @ref a _ ea =>
      cases rv
      have q1 : mlOf μ1 n ≠ none ∧ ∀ a H' ad', Nx Z.K H ad H' ad' μ1 → ad'.ad[n]? = some a → R (Itl Z.K a) H' := q1
      have q2 := q1.2 a H1 ad1 n1 ea
      cases k : mlOf μ1 n with
      | none => exact (q1.1 k).elim
      | some ds =>
        obtain ⟨vs, hv, _⟩ := mlOf_ok n1.mu ea k
        obtain ⟨its, rl, pl, hz⟩ := I1.list (a := a) (xs := vs) (.inl (.inl hv))
        rw [hK] at q2
        refine wpAny_pyIter_list pl.isList ?_
        refine ⟨s1.heap.objs.size, [s1.heap.objs.size], _, _, H1, rfl, I1.kept (t' := s1.toks) fun b o e => Heap.get?_push_of_some _ e, turn_list a _, ⟨_, Heap.get?_push_size _ rfl, rfl, rfl⟩, fun b hb => ?_, q2⟩
        obtain rfl : b = s1.heap.objs.size := by simpa using hb
        exact I1.fpOk (Nat.le_refl _) I1.fresh
  | _ => exact (show False from q1).elim
theorem sq_one {K : PySem.W.Frag} {H : Hp} {a : Addr} {xs : List V} (h : H a = some (.lst xs)) : SqL K H a xs := .inl (.inl h)
/-- the turns of a walk over data -/
theorem turnsD {σ : L2.St} {ρ : Rho} {H1 : Hp} {ad1 : Pl} {μ1 : Mu} {J : It} {ds : List D} {E : Ends} (g1 : Gd Z.K H1 ad1 σ ρ μ1) (hl : σ.length = Z.n) (Y : Yields Z.K H1 ad1 J ds) (q : Sat (forD t mb ds ρ μ1) (KS Z H1 ad1 E) (XW Z H1 ad1)) :
    ∃ W : Nat → Nat → L2.St → Hp → Prop, (∃ m, W 0 m σ H1) ∧ ∀ i m σ H, W i m σ H →
      (J.stop i H ∧ E.nx σ H) ∨ (J.go i H ∧ ∃ N : L2.St → Hp → Prop, (∀ σ' H', N σ' H' → ∃ m', m' < m ∧ W (i + 1) m' σ' H') ∧ ∀ x H', J.yld i H x H' → tG Z t x σ H' fun σ2 H2 => tS Z mb { E with nx := N, ct := N, bk := E.nx } σ2 H2) := by
  refine ⟨fun i m σ' H' => m = ds.length - i ∧ i ≤ ds.length ∧ ∃ ad' ρ' μ', Grow H1 ad1 H' ad' ∧ Gd Z.K H' ad' σ' ρ' μ' ∧ σ'.length = Z.n ∧ Sat (forD t mb (ds.drop i) ρ' μ') (KS Z H' ad' E) (XW Z H' ad'), ⟨ds.length, rfl, Nat.zero_le _, ad1, ρ, μ1, .refl, g1, hl, by rw [List.drop_zero]; exact q⟩, ?_⟩
  rintro i m σ' H' ⟨rfl, hi', ad', ρ', μ', gr, g', l', q'⟩
  by_cases hlt : i < ds.length
  · refine .inr ⟨Y.go H' ad' i gr.std hlt, fun σ2 H2 => i + 1 ≤ ds.length ∧ ∃ ad2 ρ2 μ2, Grow H1 ad1 H2 ad2 ∧ Gd Z.K H2 ad2 σ2 ρ2 μ2 ∧ σ2.length = Z.n ∧ Sat (forD t mb (ds.drop (i + 1)) ρ2 μ2) (KS Z H2 ad2 E) (XW Z H2 ad2),
      fun σ2 H2 z => ⟨ds.length - (i + 1), by omega, rfl, z⟩, fun x H2 y => ?_⟩
    have hd : ds[i]? = some ds[i] := List.getElem?_eq_getElem hlt
    obtain ⟨n2, rx⟩ := Y.yld H' ad' μ' i x H2 ds[i] gr.std g'.mu hd y
    rw [List.drop_eq_getElem_cons hlt] at q'
    obtain ⟨ρ1, e1, q2⟩ := sat_lft.mp (sat_bd.mp q')
    have q3 := sat_bd.mp q2
    refine ⟨ad', ρ', μ', ds[i], ρ1, g'.nx n2, l', rx, e1, fun σ3 g3 l3 _ => ?_⟩
    refine ⟨ad', ρ1, μ', g3, l3, q3.mono (fun f μ4 z => ?_) fun _ _ z => z.nx n2⟩
    cases f with
    | nx ρ4 => exact fun σ4 H4 ad4 n4 g4 l4 => ⟨by omega, ad4, ρ4, μ4, (gr.trans n2.gr).trans n4.gr, g4, l4, z.mono (fun _ _ w => w.nx (n2.trans n4)) fun _ _ w => w.nx (n2.trans n4)⟩
    | ct ρ4 => exact fun σ4 H4 ad4 n4 g4 l4 => ⟨by omega, ad4, ρ4, μ4, (gr.trans n2.gr).trans n4.gr, g4, l4, z.mono (fun _ _ w => w.nx (n2.trans n4)) fun _ _ w => w.nx (n2.trans n4)⟩
    | bk ρ4 => exact fun σ4 H4 ad4 n4 g4 l4 => z σ4 H4 ad4 (n2.trans n4) g4 l4
    | rt d => exact fun v H4 ad4 n4 r4 => z v H4 ad4 (n2.trans n4) r4
  · have e : i = ds.length := by omega
    subst e
    rw [List.drop_length] at q'
    exact .inl ⟨Y.stop H' ad' gr.std, q' σ' H' ad' (.refl g'.mu) g' l'⟩
/-- the turns of a walk over a store's list -/
theorem turnsR {σ : L2.St} {ρ : Rho} {H1 : Hp} {ad1 : Pl} {μ1 : Mu} {n : Nat} {a : Addr} {E : Ends} {kf : Nat} (g1 : Gd Z.K H1 ad1 σ ρ μ1) (hl : σ.length = Z.n) (ea : ad1.ad[n]? = some a) (q : Sat (forR t mb n kf 0 ρ μ1) (KS Z H1 ad1 E) (XW Z H1 ad1)) :
    ∃ W : Nat → Nat → L2.St → Hp → Prop, (∃ m, W 0 m σ H1) ∧ ∀ i m σ H, W i m σ H →
      ((Itl Z.K a).stop i H ∧ E.nx σ H) ∨ ((Itl Z.K a).go i H ∧ ∃ N : L2.St → Hp → Prop, (∀ σ' H', N σ' H' → ∃ m', m' < m ∧ W (i + 1) m' σ' H') ∧ ∀ x H', (Itl Z.K a).yld i H x H' → tG Z t x σ H' fun σ2 H2 => tS Z mb { E with nx := N, ct := N, bk := E.nx } σ2 H2) := by
  refine ⟨fun i m σ' H' => ∃ ad' ρ' μ', ad'.ad[n]? = some a ∧ Gd Z.K H' ad' σ' ρ' μ' ∧ σ'.length = Z.n ∧ Sat (forR t mb n m i ρ' μ') (KS Z H' ad' E) (XW Z H' ad'), ⟨kf, ad1, ρ, μ1, ea, g1, hl, q⟩, ?_⟩
  rintro i m σ' H' ⟨ad', ρ', μ', ea', g', l', q'⟩
  cases m with
  | zero => exact q'.elim
  | succ m =>
    have q' : Sat (match mlOf μ' n with
      | none => .no
      | some xs => (match xs[i]? with
        | none => .ok (.nx ρ') μ'
        | some d => bd (lft (setTg t d ρ')) (fun ρ1 => bd (mb ρ1) fun f => match f with
          | .nx ρ2 => forR t mb n m (i + 1) ρ2
          | .ct ρ2 => forR t mb n m (i + 1) ρ2
          | .bk ρ2 => rt (.nx ρ2)
          | .rt d => rt (.rt d)) μ')) (KS Z H' ad' E) (XW Z H' ad') := q'
    cases k : mlOf μ' n with
    | none => rw [k] at q'; exact q'.elim
    | some xs =>
      rw [k] at q'
      obtain ⟨vs, hv, rv⟩ := mlOf_ok g'.mu ea' k
      have q' : Sat (match xs[i]? with
        | none => .ok (.nx ρ') μ'
        | some d => bd (lft (setTg t d ρ')) (fun ρ1 => bd (mb ρ1) fun f => match f with
          | .nx ρ2 => forR t mb n m (i + 1) ρ2
          | .ct ρ2 => forR t mb n m (i + 1) ρ2
          | .bk ρ2 => rt (.nx ρ2)
          | .rt d => rt (.rt d)) μ') (KS Z H' ad' E) (XW Z H' ad') := q'
      cases hd : xs[i]? with
      | none =>
        rw [hd] at q'
        refine .inl ⟨⟨vs, sq_one hv, ?_⟩, q' σ' H' ad' (.refl g'.mu) g' l'⟩
        rw [rv.length]
        exact List.getElem?_eq_none_iff.mp hd
      | some d =>
        rw [hd] at q'
        obtain ⟨v, hvi, rx⟩ := rv.get hd
        refine .inr ⟨⟨vs, v, sq_one hv, hvi⟩, fun σ2 H2 => ∃ ad2 ρ2 μ2, ad2.ad[n]? = some a ∧ Gd Z.K H2 ad2 σ2 ρ2 μ2 ∧ σ2.length = Z.n ∧ Sat (forR t mb n m (i + 1) ρ2 μ2) (KS Z H2 ad2 E) (XW Z H2 ad2),
          fun σ2 H2 z => ⟨m, Nat.lt_succ_self m, z⟩, fun x H2 y => ?_⟩
        obtain ⟨e2, hy⟩ := y
        subst e2
        have e3 := hy vs (sq_one hv)
        rw [hvi] at e3
        cases e3
        obtain ⟨ρ1, e1, q2⟩ := sat_lft.mp (sat_bd.mp q')
        have q3 := sat_bd.mp q2
        refine ⟨ad', ρ', μ', d, ρ1, g', l', rx, e1, fun σ3 g3 l3 _ => ?_⟩
        refine ⟨ad', ρ1, μ', g3, l3, q3.mono (fun f μ4 z => ?_) fun _ _ z => z⟩
        cases f with
        | nx ρ4 => exact fun σ4 H4 ad4 n4 g4 l4 => ⟨ad4, ρ4, μ4, n4.gr.at ea', g4, l4, z.mono (fun _ _ w => w.nx n4) fun _ _ w => w.nx n4⟩
        | ct ρ4 => exact fun σ4 H4 ad4 n4 g4 l4 => ⟨ad4, ρ4, μ4, n4.gr.at ea', g4, l4, z.mono (fun _ _ w => w.nx n4) fun _ _ w => w.nx n4⟩
        | bk ρ4 => exact fun σ4 H4 ad4 n4 g4 l4 => z σ4 H4 ad4 n4 g4 l4
        | rt d => exact fun v H4 ad4 n4 r4 => z v H4 ad4 n4 r4
theorem s_forQ (hp : PassesOwn (model X.prog X.w) X.A X.env X.xe) (hc : X.calm = true) (hi : PI X tg iter (tIq Z me)) (hg : PG X tg (tG Z t)) (hb : PSs X body (tS Z mb)) (hs : ∀ x, foldedSetIterable iter X.env x = pure x) :
    PS X (.For tg iter body [] pos) (tS Z fun ρ => bd (me ρ) fun d => forQ t mb d ρ) := by
  refine PSi (ps_for hp hc hi hg hb hs) fun E σ H ⟨ad, ρ, μ, g, hl, h⟩ => ?_
  refine ⟨ad, ρ, μ, g, hl, (sat_bd.mp h).imp fun d μ1 q => ?_⟩
  have data : Sat (bd (itX d) (fun ds => forD t mb ds ρ) μ1) (KS Z H ad E) (XW Z H ad) → Sat (itX d μ1) (fun ds μ'' => ∀ J H1 ad1, Nx Z.K H ad H1 ad1 μ'' → Yields Z.K H1 ad1 J ds → 
      ∃ W : Nat → Nat → L2.St → Hp → Prop, (∃ m, W 0 m σ H1) ∧ ∀ i m σ H, W i m σ H →
      (J.stop i H ∧ E.nx σ H) ∨ (J.go i H ∧ ∃ N : L2.St → Hp → Prop, (∀ σ' H', N σ' H' → ∃ m', m' < m ∧ W (i + 1) m' σ' H') ∧ ∀ x H', J.yld i H x H' → tG Z t x σ H' fun σ2 H2 => tS Z mb { E with nx := N, ct := N, bk := E.nx } σ2 H2)) (XW Z H ad) := fun q =>
    (sat_bd.mp q).imp fun ds μ2 z J H1 ad1 n1 Y => turnsD (g.nx n1) hl Y (z.mono (fun _ _ w => w.nx n1) fun _ _ w => w.nx n1)
  cases d with
  | ref n =>
    have q : Sat (forR t mb n WF 0 ρ μ1) (KS Z H ad E) (XW Z H ad) := q
    refine ⟨fun k => ?_, fun a H1 ad1 n1 ea => turnsR (g.nx n1) hl ea (q.mono (fun _ _ w => w.nx n1) fun _ _ w => w.nx n1)⟩
    have q : Sat (match mlOf μ1 n with
      | none => .no
      | some xs => (match xs[0]? with
        | none => .ok (.nx ρ) μ1
        | some d => bd (lft (setTg t d ρ)) (fun ρ1 => bd (mb ρ1) fun f => match f with
          | .nx ρ2 => forR t mb n 9999999 (0 + 1) ρ2
          | .ct ρ2 => forR t mb n 9999999 (0 + 1) ρ2
          | .bk ρ2 => rt (.nx ρ2)
          | .rt d => rt (.rt d)) μ1)) (KS Z H ad E) (XW Z H ad) := q
    rw [k] at q
    exact q.elim
  | lst ds => exact data q
  | tup ds => exact data q
  | _ => exact (show False from q).elim
end
/-! ### 26f. comprehensions over a store's list -/
def lcE (t : Tg) (mc : Rho → M Bool) (me : Rho → M D) (n : Nat) : Nat → Nat → Rho → M (List D)
  | 0, _, _ => stk
  | k + 1, i, ρ => fun μ => match mlOf μ n with
    | none => .no
    | some xs => (match xs[i]? with
      | none => .ok [] μ
      | some d => bd (lft (setTg t d ρ)) (fun ρ1 => bd (mc ρ1) fun b => if b = true then bd (me ρ1) fun y => bd (lcE t mc me n k (i + 1) ρ) fun ys => rt (y :: ys) else lcE t mc me n k (i + 1) ρ) μ)
def lcQ (mk : List D → M D) (mi : Rho → M D) (t : Tg) (mc : Rho → M Bool) (me : Rho → M D) (vs : List Nat) (ρ : Rho) : M D := bd (mi ρ) fun d => match d with
  | .ref n => bd (noX (lcE t mc me n WF 0 (wipeD ρ vs))) mk
  | d => bd (itX d) fun ds => bd (noX (lcD t mc me ds (wipeD ρ vs))) mk
section
variable {X : Cx} {tg iter elt c : Expr} {mi : Rho → M D} {mc : Rho → M Bool} {me : Rho → M D} {t : Tg} {pos spos py : Pos} {ifs : List Expr} {scope : Scope} {own : List (Str × Nat)} {y : Str} {i : Nat}
/-- the turns of a comprehension over data -/
theorem compD {mc : Rho → M Bool} {mk : List D → M D} (M : MkOk Z mk) {vs : List Nat} (ht : ∀ j ∈ t.slots, j ∈ vs) {σ : L2.St} {ρ : Rho} {H H1 : Hp} {ad ad1 : Pl} {μ μ1 : Mu} {J : It} {ds : List D} {Q : VK} (g : Gd Z.K H ad σ ρ μ) (hl : σ.length = Z.n) (n1 : Nx Z.K H ad H1 ad1 μ1)
    (Y : Yields Z.K H1 ad1 J ds) (q : Sat (noX (lcD t mc me ds (wipeD ρ vs)) μ1) (fun ys μf => Sat (mk ys μf) (KE Z H ad Q) (XW Z H ad)) (XW Z H ad)) :
    ∀ D, H1 D = none → ∃ W : Nat → Nat → Hp → Prop, (∃ m, W 0 m (upd H1 D (.lst []))) ∧ ∀ i m H, W i m H →
      (J.stop i H ∧ Q (.ref D) H) ∨ (J.go i H ∧ ∃ Nx : Hp → Prop, (∀ H', Nx H' → ∃ m', m' < m ∧ W (i + 1) m' H') ∧ ∀ x H', J.yld i H x H' → tG (off Z) t x (wipe σ vs) H' fun σ2 H2 => wipe σ2 vs = wipe σ vs ∧ tT (off Z) mc σ2 H2 fun b H3 =>
        if b = true then tE (off Z) me σ2 H3 fun y H4 => ∃ acc, H4 D = some (.lst acc) ∧ acc.length < sizeLine ∧ Nx (upd H4 D (.lst (acc ++ [y]))) else Nx H3) := by
  intro D hD
  have q := sat_noX.mp q
  have g1 := g.nx n1
  let core : Nat → Hp → Prop := fun i H' => ∃ (a' : List Addr) (μ' : Mu) (accV : List V) (accD : List PX.D), Grow H1 ad1 H' ⟨a', ad1.pr⟩ ∧ Gd Z.K H' ⟨a', D :: ad1.pr⟩ (wipe σ vs) (wipeD ρ vs) μ' ∧ H' D = some (.lst accV) ∧ Rps Z.K H' ⟨a', D :: ad1.pr⟩ accV accD ∧
    Sat (lcD t mc me (ds.drop i) (wipeD ρ vs) μ') (fun ys μf => Sat (mk (accD ++ ys) μf) (KE Z H ad Q) (XW Z H ad)) (fun _ _ => False)
  refine ⟨fun i m H' => m = ds.length - i ∧ i ≤ ds.length ∧ core i H', ⟨ds.length, rfl, Nat.zero_le _, ad1.ad, μ1, [], [], .new hD, ((g1.wipe vs).to (std_hide hD) (n1.mu.hide hD)), upd_same, .nil, ?_⟩, ?_⟩
  · rw [List.drop_zero]
    exact q
  rintro i m H' ⟨rfl, hi', a', μ', accV, accD, gr, g', eD, rD, q'⟩
  have sd : Std H1 ad1 H' ⟨a', D :: ad1.pr⟩ := ⟨fun b o hb nt e => ⟨⟨(gr.nin hb e).1, fun z => by
    rcases List.mem_cons.mp z with z | z
    · rw [z, hD] at e; cases e
    · exact hb.2 z⟩, gr.keep b o hb.1 nt e⟩, fun n a e => gr.at e⟩
  by_cases hlt : i < ds.length
  · refine .inr ⟨Y.go H' _ i sd hlt, core (i + 1), fun H2 z => ⟨ds.length - (i + 1), by omega, rfl, hlt, z⟩, fun x H2 yl => ?_⟩
    have hd : ds[i]? = some ds[i] := List.getElem?_eq_getElem hlt
    obtain ⟨n2, rx⟩ := Y.yld H' _ μ' i x H2 ds[i] sd g'.mu hd yl
    rw [List.drop_eq_getElem_cons hlt] at q'
    obtain ⟨ρ1, e1, q2⟩ := sat_lft.mp (sat_bd.mp q')
    have q3 := sat_bd.mp q2
    refine ⟨_, wipeD ρ vs, μ', ds[i], ρ1, g'.nx n2, by rw [wipe_length]; exact hl, rx, e1, fun σ3 g3 l3 of => ⟨wipe_eq (by rw [l3]; exact hl.symm) fun j hj => of j fun z => hj (ht j z), ?_⟩⟩
    refine ⟨_, ρ1, μ', g3, l3, q3.mono (fun b μ4 z H3 ad3 n3 => ?_) fun _ _ z => z.elim⟩
    have nD : ∀ {P : Pl}, P.pr = D :: ad1.pr → P = ⟨P.ad, D :: ad1.pr⟩ := fun {P} e => by rw [← e]
    have e3 : ad3.pr = D :: ad1.pr := by rw [n3.gr.pr_eq]
    have dn : D ∉ (⟨a', D :: ad1.pr⟩ : Pl).ad := (g'.mu.prn D List.mem_cons_self).2
    have grt : ∀ {H4 : Hp} {ad4 : Pl}, Grow H' ⟨a', D :: ad1.pr⟩ H4 ad4 → Grow H1 ad1 H4 ⟨ad4.ad, ad1.pr⟩ := fun {H4 ad4} w => gr.trans (by
      obtain ⟨l, e, n⟩ := w.pre
      exact ⟨⟨l, by rw [e]; rfl, n⟩, w.keep, w.live⟩)
    cases b with
    | false =>
      refine iteF ?_
      have z : Sat (lcD t mc me (ds.drop (i + 1)) (wipeD ρ vs) μ4) _ _ := z
      have n4 := n2.trans n3
      exact ⟨ad3.ad, μ4, accV, accD, grt n4.gr, (nD e3) ▸ g'.nx n4, n4.gr.keep D _ dn nt_lst.1 eD, (nD e3) ▸ Rps.grow n4.gr _ _ rD, z⟩
    | true =>
      refine iteT ?_
      have z : Sat (bd (me ρ1) (fun y => bd (lcD t mc me (ds.drop (i + 1)) (wipeD ρ vs)) fun ys => rt (y :: ys)) μ4) _ _ := z
      refine ⟨ad3, ρ1, μ4, g3.nx n3, l3, (sat_bd.mp z).mono (fun d μ5 z2 v H4 ad4 n5 r5 => ?_) fun _ _ z => z.elim⟩
      have z2 := sat_bd.mp z2
      have n4 := (n2.trans n3).trans n5
      have e4 : ad4.pr = D :: ad1.pr := by rw [n4.gr.pr_eq]
      have eD4 := n4.gr.keep D _ dn nt_lst.1 eD
      have z3 : Sat (lcD t mc me (ds.drop (i + 1)) (wipeD ρ vs) μ5) (fun ys μf => Sat (mk ((accD ++ [d]) ++ ys) μf) (KE Z H ad Q) (XW Z H ad)) (fun _ _ => False) := z2.imp fun ys μf w => by
        rw [List.append_assoc]
        exact w
      refine ⟨accV, eD4, ?_, ?_⟩
      · have hz : (accD ++ [d]).length ≤ 1000000 := by
          cases hr : lcD t mc me (ds.drop (i + 1)) (wipeD ρ vs) μ5 with
          | ok ys μf =>
            rw [hr] at z3
            have z3 : Sat (mk ((accD ++ [d]) ++ ys) μf) (KE Z H ad Q) (XW Z H ad) := z3
            exact Nat.le_trans (by simp) (M.len z3)
          | ex x μf => rw [hr] at z3; exact z3.elim
          | no => rw [hr] at z3; exact z3.elim
        have hs := million (n := accD.length + 1) (by simpa using hz)
        rw [rD.length]
        exact hs
      · have dp : D ∈ ad4.pr := by rw [e4]; exact List.mem_cons_self
        have so : Std H4 ad4 (upd H4 D (.lst (accV ++ [v]))) ad4 := std_over dp
        have m5 : MuOk Z.K (upd H4 D (.lst (accV ++ [v]))) ad4 μ5 := n4.mu.over dp ⟨_, eD4, nt_lst⟩
        refine ⟨ad4.ad, μ5, accV ++ [v], accD ++ [d], ?_, (nD e4) ▸ (g'.nx n4).to so m5, upd_same, (nD e4) ▸ (Rps.std so _ _ ((Rps.grow n4.gr _ _ rD).app (.cons r5 .nil))), z3⟩
        have w := grt n4.gr
        refine ⟨w.pre, fun b o hb nt e => by rw [upd_ne (ne_of_none e hD)]; exact w.keep b o hb nt e, fun b e => w.live b ?_⟩
        by_cases hb : b = D
        · rw [hb, upd_same] at e; cases e
        · rw [upd_ne hb] at e; exact e
  · have e : i = ds.length := by omega
    subst e
    rw [List.drop_length] at q'
    have q' : Sat (mk (accD ++ []) μ') (KE Z H ad Q) (XW Z H ad) := q'
    rw [List.append_nil] at q'
    exact .inl ⟨Y.stop H' _ sd, M.fin n1 hD gr g'.mu eD rD q'⟩
/-- the turns of a comprehension over a store's list -/
theorem compR {mc : Rho → M Bool} {mk : List D → M D} (M : MkOk Z mk) {vs : List Nat} (ht : ∀ j ∈ t.slots, j ∈ vs) {σ : L2.St} {ρ : Rho} {H H1 : Hp} {ad ad1 : Pl} {μ μ1 : Mu} {n : Nat} {a : Addr} {kf : Nat} {Q : VK} (g : Gd Z.K H ad σ ρ μ) (hl : σ.length = Z.n) (n1 : Nx Z.K H ad H1 ad1 μ1)
    (ea : ad1.ad[n]? = some a) (q : Sat (noX (lcE t mc me n kf 0 (wipeD ρ vs)) μ1) (fun ys μf => Sat (mk ys μf) (KE Z H ad Q) (XW Z H ad)) (XW Z H ad)) :
    ∀ D, H1 D = none → ∃ W : Nat → Nat → Hp → Prop, (∃ m, W 0 m (upd H1 D (.lst []))) ∧ ∀ i m H, W i m H →
      ((Itl Z.K a).stop i H ∧ Q (.ref D) H) ∨ ((Itl Z.K a).go i H ∧ ∃ Nx : Hp → Prop, (∀ H', Nx H' → ∃ m', m' < m ∧ W (i + 1) m' H') ∧ ∀ x H', (Itl Z.K a).yld i H x H' → tG (off Z) t x (wipe σ vs) H' fun σ2 H2 => wipe σ2 vs = wipe σ vs ∧ tT (off Z) mc σ2 H2 fun b H3 =>
        if b = true then tE (off Z) me σ2 H3 fun y H4 => ∃ acc, H4 D = some (.lst acc) ∧ acc.length < sizeLine ∧ Nx (upd H4 D (.lst (acc ++ [y]))) else Nx H3) := by
  intro D hD
  have q := sat_noX.mp q
  have g1 := g.nx n1
  let core : Nat → Nat → Hp → Prop := fun i m H' => ∃ (a' : List Addr) (μ' : Mu) (accV : List V) (accD : List PX.D), Grow H1 ad1 H' ⟨a', ad1.pr⟩ ∧ Gd Z.K H' ⟨a', D :: ad1.pr⟩ (wipe σ vs) (wipeD ρ vs) μ' ∧ H' D = some (.lst accV) ∧ Rps Z.K H' ⟨a', D :: ad1.pr⟩ accV accD ∧
    Sat (lcE t mc me n m i (wipeD ρ vs) μ') (fun ys μf => Sat (mk (accD ++ ys) μf) (KE Z H ad Q) (XW Z H ad)) (fun _ _ => False)
  refine ⟨fun i m H' => core i m H', ⟨kf, ad1.ad, μ1, [], [], .new hD, ((g1.wipe vs).to (std_hide hD) (n1.mu.hide hD)), upd_same, .nil, q⟩, ?_⟩
  rintro i m H' ⟨a', μ', accV, accD, gr, g', eD, rD, q'⟩
  cases m with
  | zero => exact q'.elim
  | succ m =>
  have ea' : (⟨a', D :: ad1.pr⟩ : Pl).ad[n]? = some a := gr.at ea
  have q' : Sat (match mlOf μ' n with
    | none => .no
    | some xs => (match xs[i]? with
      | none => .ok [] μ'
      | some d => bd (lft (setTg t d (wipeD ρ vs))) (fun ρ1 => bd (mc ρ1) fun b => if b = true then bd (me ρ1) fun y => bd (lcE t mc me n m (i + 1) (wipeD ρ vs)) fun ys => rt (y :: ys) else lcE t mc me n m (i + 1) (wipeD ρ vs)) μ'))
    (fun ys μf => Sat (mk (accD ++ ys) μf) (KE Z H ad Q) (XW Z H ad)) (fun _ _ => False) := q'
  cases k : mlOf μ' n with
  | none => rw [k] at q'; exact q'.elim
  | some xs =>
  rw [k] at q'
  have q' : Sat (match xs[i]? with
      | none => .ok [] μ'
      | some d => bd (lft (setTg t d (wipeD ρ vs))) (fun ρ1 => bd (mc ρ1) fun b => if b = true then bd (me ρ1) fun y => bd (lcE t mc me n m (i + 1) (wipeD ρ vs)) fun ys => rt (y :: ys) else lcE t mc me n m (i + 1) (wipeD ρ vs)) μ')
    (fun ys μf => Sat (mk (accD ++ ys) μf) (KE Z H ad Q) (XW Z H ad)) (fun _ _ => False) := q'
  obtain ⟨vs', hv, rv⟩ := mlOf_ok g'.mu ea' k
  cases hd : xs[i]? with
  | some d0 =>
    rw [hd] at q'
    obtain ⟨v0, hvi, rx⟩ := rv.get hd
    refine .inr ⟨⟨vs', v0, sq_one hv, hvi⟩, core (i + 1) m, fun H2 z => ⟨m, Nat.lt_succ_self m, z⟩, fun x H2 yl => ?_⟩
    obtain ⟨e2, hy⟩ := yl
    subst e2
    have e3 := hy vs' (sq_one hv)
    rw [hvi] at e3
    cases e3
    have n2 : Nx Z.K H2 ⟨a', D :: ad1.pr⟩ H2 ⟨a', D :: ad1.pr⟩ μ' := .refl g'.mu
    obtain ⟨ρ1, e1, q2⟩ := sat_lft.mp (sat_bd.mp q')
    have q3 := sat_bd.mp q2
    refine ⟨_, wipeD ρ vs, μ', d0, ρ1, g'.nx n2, by rw [wipe_length]; exact hl, rx, e1, fun σ3 g3 l3 of => ⟨wipe_eq (by rw [l3]; exact hl.symm) fun j hj => of j fun z => hj (ht j z), ?_⟩⟩
    refine ⟨_, ρ1, μ', g3, l3, q3.mono (fun b μ4 z H3 ad3 n3 => ?_) fun _ _ z => z.elim⟩
    have nD : ∀ {P : Pl}, P.pr = D :: ad1.pr → P = ⟨P.ad, D :: ad1.pr⟩ := fun {P} e => by rw [← e]
    have e3 : ad3.pr = D :: ad1.pr := by rw [n3.gr.pr_eq]
    have dn : D ∉ (⟨a', D :: ad1.pr⟩ : Pl).ad := (g'.mu.prn D List.mem_cons_self).2
    have grt : ∀ {H4 : Hp} {ad4 : Pl}, Grow H2 ⟨a', D :: ad1.pr⟩ H4 ad4 → Grow H1 ad1 H4 ⟨ad4.ad, ad1.pr⟩ := fun {H4 ad4} w => gr.trans (by
      obtain ⟨l, e, n⟩ := w.pre
      exact ⟨⟨l, by rw [e]; rfl, n⟩, w.keep, w.live⟩)
    cases b with
    | false =>
      refine iteF ?_
      have z : Sat (lcE t mc me n m (i + 1) (wipeD ρ vs) μ4) _ _ := z
      have n4 := n2.trans n3
      exact ⟨ad3.ad, μ4, accV, accD, grt n4.gr, (nD e3) ▸ g'.nx n4, n4.gr.keep D _ dn nt_lst.1 eD, (nD e3) ▸ Rps.grow n4.gr _ _ rD, z⟩
    | true =>
      refine iteT ?_
      have z : Sat (bd (me ρ1) (fun y => bd (lcE t mc me n m (i + 1) (wipeD ρ vs)) fun ys => rt (y :: ys)) μ4) _ _ := z
      refine ⟨ad3, ρ1, μ4, g3.nx n3, l3, (sat_bd.mp z).mono (fun d μ5 z2 v H4 ad4 n5 r5 => ?_) fun _ _ z => z.elim⟩
      have z2 := sat_bd.mp z2
      have n4 := (n2.trans n3).trans n5
      have e4 : ad4.pr = D :: ad1.pr := by rw [n4.gr.pr_eq]
      have eD4 := n4.gr.keep D _ dn nt_lst.1 eD
      have z3 : Sat (lcE t mc me n m (i + 1) (wipeD ρ vs) μ5) (fun ys μf => Sat (mk ((accD ++ [d]) ++ ys) μf) (KE Z H ad Q) (XW Z H ad)) (fun _ _ => False) := z2.imp fun ys μf w => by
        rw [List.append_assoc]
        exact w
      refine ⟨accV, eD4, ?_, ?_⟩
      · have hz : (accD ++ [d]).length ≤ 1000000 := by
          cases hr : lcE t mc me n m (i + 1) (wipeD ρ vs) μ5 with
          | ok ys μf =>
            rw [hr] at z3
            have z3 : Sat (mk ((accD ++ [d]) ++ ys) μf) (KE Z H ad Q) (XW Z H ad) := z3
            exact Nat.le_trans (by simp) (M.len z3)
          | ex x μf => rw [hr] at z3; exact z3.elim
          | no => rw [hr] at z3; exact z3.elim
        have hs := million (n := accD.length + 1) (by simpa using hz)
        rw [rD.length]
        exact hs
      · have dp : D ∈ ad4.pr := by rw [e4]; exact List.mem_cons_self
        have so : Std H4 ad4 (upd H4 D (.lst (accV ++ [v]))) ad4 := std_over dp
        have m5 : MuOk Z.K (upd H4 D (.lst (accV ++ [v]))) ad4 μ5 := n4.mu.over dp ⟨_, eD4, nt_lst⟩
        refine ⟨ad4.ad, μ5, accV ++ [v], accD ++ [d], ?_, (nD e4) ▸ (g'.nx n4).to so m5, upd_same, (nD e4) ▸ (Rps.std so _ _ ((Rps.grow n4.gr _ _ rD).app (.cons r5 .nil))), z3⟩
        have w := grt n4.gr
        refine ⟨w.pre, fun b o hb nt e => by rw [upd_ne (ne_of_none e hD)]; exact w.keep b o hb nt e, fun b e => w.live b ?_⟩
        by_cases hb : b = D
        · rw [hb, upd_same] at e; cases e
        · rw [upd_ne hb] at e; exact e
  | none =>
    rw [hd] at q'
    have q' : Sat (mk (accD ++ []) μ') (KE Z H ad Q) (XW Z H ad) := q'
    rw [List.append_nil] at q'
    refine .inl ⟨⟨vs', sq_one hv, ?_⟩, M.fin n1 hD gr g'.mu eD rD q'⟩
    rw [rv.length]
    exact List.getElem?_eq_none_iff.mp hd
theorem t_compQ {mk : List D → M D} (M : MkOk Z mk) {vs : List Nat} (ht : ∀ j ∈ t.slots, j ∈ vs) : ∀ (σ : L2.St) (H : Hp) (Q : VK), tE Z (lcQ mk mi t mc me vs) σ H Q → tLc (tIq Z mi) (tG (off Z) t) (tT (off Z) mc) (tE (off Z) me) vs σ H Q :=
  fun σ H Q ⟨ad, ρ, μ, g, hl, h⟩ => by
  refine ⟨ad, ρ, μ, g, hl, (sat_bd.mp h).imp fun d μ1 q => ?_⟩
  have data : Sat (bd (itX d) (fun ds => bd (noX (lcD t mc me ds (wipeD ρ vs))) mk) μ1) (KE Z H ad Q) (XW Z H ad) → Sat (itX d μ1) (fun ds μ'' => ∀ J H1 ad1, Nx Z.K H ad H1 ad1 μ'' → Yields Z.K H1 ad1 J ds → ∀ D, H1 D = none → ∃ W : Nat → Nat → Hp → Prop, (∃ m, W 0 m (upd H1 D (.lst []))) ∧ ∀ i m H, W i m H →
      (J.stop i H ∧ Q (.ref D) H) ∨ (J.go i H ∧ ∃ Nx : Hp → Prop, (∀ H', Nx H' → ∃ m', m' < m ∧ W (i + 1) m' H') ∧ ∀ x H', J.yld i H x H' → tG (off Z) t x (wipe σ vs) H' fun σ2 H2 => wipe σ2 vs = wipe σ vs ∧ tT (off Z) mc σ2 H2 fun b H3 =>
        if b = true then tE (off Z) me σ2 H3 fun y H4 => ∃ acc, H4 D = some (.lst acc) ∧ acc.length < sizeLine ∧ Nx (upd H4 D (.lst (acc ++ [y]))) else Nx H3)) (XW Z H ad) := fun q =>
    (sat_bd.mp q).imp fun ds μ2 z J H1 ad1 n1 Y => compD M ht g hl n1 Y (sat_bd.mp z)
  cases d with
  | ref n =>
    have q : Sat (bd (noX (lcE t mc me n WF 0 (wipeD ρ vs))) mk μ1) (KE Z H ad Q) (XW Z H ad) := q
    have q := sat_bd.mp q
    refine ⟨fun k => ?_, fun a H1 ad1 n1 ea => compR M ht g hl n1 ea q⟩
    have q := sat_noX.mp q
    have q : Sat (match mlOf μ1 n with
      | none => .no
      | some xs => (match xs[0]? with
        | none => .ok [] μ1
        | some d => bd (lft (setTg t d (wipeD ρ vs))) (fun ρ1 => bd (mc ρ1) fun b => if b = true then bd (me ρ1) fun y => bd (lcE t mc me n 9999999 (0 + 1) (wipeD ρ vs)) fun ys => rt (y :: ys) else lcE t mc me n 9999999 (0 + 1) (wipeD ρ vs)) μ1))
      (fun ys μf => Sat (mk ys μf) (KE Z H ad Q) (XW Z H ad)) (fun _ _ => False) := q
    rw [k] at q
    exact q.elim
  | lst ds => exact data q
  | tup ds => exact data q
  | _ => exact (show False from q).elim
theorem x_compQ {mk : List D → M D} (M : MkOk Z mk) (hc : X.calm = true) (hN : X.N.Nodup) (hi : PI X tg iter (tIq Z mi)) (ok : BlkOk X.N X.env.scope scope own) (ht : ∀ j ∈ t.slots, j ∈ own.map (·.2))
    (hg : ∀ (s : Shared) (H : Hp) (C : Addr) (cl : List (Str × Addr)) (fp : List Addr), PG (X.blk s H scope (compEnvC scope cl C X.env) fp) tg (tG (off Z) t))
    (hcd : ∀ (s : Shared) (H : Hp) (C : Addr) (cl : List (Str × Addr)) (fp : List Addr), PTs (X.blk s H scope (compEnvC scope cl C X.env) fp) ifs (tT (off Z) mc))
    (he : ∀ (s : Shared) (H : Hp) (C : Addr) (cl : List (Str × Addr)) (fp : List Addr), PE (X.blk s H scope (compEnvC scope cl C X.env) fp) elt (tE (off Z) me)) (hs : ∀ x, foldedSetIterable iter X.env x = pure x) :
    PE X (.ListComp elt [⟨tg, iter, ifs, 0⟩] scope pos) (tE Z (lcQ mk mi t mc me (own.map (·.2)))) :=
  PEi (pe_lc hc hN hi ok hg hcd he hs) (t_compQ M ht)
theorem s_setLcQ {mk : List D → M D} (M : MkOk Z mk) (hc : X.calm = true) (hN : X.N.Nodup) (hy : X.N[i]? = some y) (hyl : X.env.scope.names.lookup y = some .local) (hsw : swapsWith (.ListComp elt [⟨tg, iter, ifs, 0⟩] scope pos) (some (.Name y py)) spos.line X.env = pure true)
    (hi : PI X tg iter (tIq Z mi)) (ok : BlkOk X.N X.env.scope scope own) (ht : ∀ j ∈ t.slots, j ∈ own.map (·.2))
    (hg : ∀ (s : Shared) (H : Hp) (C : Addr) (cl : List (Str × Addr)) (fp : List Addr), PG (X.blk s H scope (compEnvC scope cl C X.env) fp) tg (tG (off Z) t))
    (hcd : ∀ (s : Shared) (H : Hp) (C : Addr) (cl : List (Str × Addr)) (fp : List Addr), PTs (X.blk s H scope (compEnvC scope cl C X.env) fp) ifs (tT (off Z) mc))
    (he : ∀ (s : Shared) (H : Hp) (C : Addr) (cl : List (Str × Addr)) (fp : List Addr), PE (X.blk s H scope (compEnvC scope cl C X.env) fp) elt (tE (off Z) me)) (hs : ∀ x, foldedSetIterable iter X.env x = pure x) :
    PS X (.Assign [.Name y py] (.ListComp elt [⟨tg, iter, ifs, 0⟩] scope pos) spos) (tS Z fun ρ => bd (lcQ mk mi t mc me (own.map (·.2)) ρ) fun d => rt (.nx (ρ.set i (some d)))) :=
  PSi (ps_setLc hc hN hy hyl hsw hi ok hg hcd he hs) fun E σ H ⟨ad, ρ, μ, g, hl, h⟩ => t_compQ M ht σ H _ (step g hl h fun v d H1 ad1 μ1 n1 g1 r1 q1 => q1 _ H1 ad1 n1 (g1.set r1 i) (by rw [List.length_set]; exact hl))
end
end PX
namespace PX
open PySem PySem.Spec PyProof.Rows L2
variable [Tabc]
/-! ### 40. a lambda is made: no parameter, or one with a written int -/
def lamForm (p : Arguments) : Option (List (Str × Int)) := match p with
  | ⟨[], [], none, [], [], none, []⟩ => some []
  | ⟨[], [⟨a, none, _⟩], none, [], [], none, [.Constant (.int i) _ _]⟩ => some [(a, i)]
  | _ => none
abbrev lmFn (q : Str) (params : Arguments) (body : Expr) (scope : Scope) (cl : List (Str × Addr)) (dV doc pm : Value) (c' : Addr) (ct : Value) : FuncData :=
  PySem.W.kdv_fn "<lambda>" q params (.expr body) scope cl dV doc pm (.ref c') ct
/-- the lambda stands at f; F: its default's tuple, kept too -/
structure LamO (fs : List Addr) (H : Hp) (h : Heap) (f c' : Addr) (q : Str) (params : Arguments) (body : Expr) (scope : Scope) (cl : List (Str × Addr)) (dV doc pm ct : Value) (ds : List (Str × Int)) : Prop where
  obj : h.get? f = some { cls := .type "function", data := .func (lmFn q params body scope cl dV doc pm c' ct) }
  gone : H f = none
  off : f ∉ fs
  dfl : match ds with
    | [] => dV = .none
    | p :: _ => ∃ (T : Addr) (t : Tok), dV = .ref T ∧ h.get? T = some (PySem.W.kdv_tup [.int p.2 t]) ∧ H T = none ∧ T ∉ fs
  cod : H c' = some (LamX.CodeO c' q)
section
variable {X : Cx} {pins : List (Addr × Obj)} {σ : L2.St} {H : Hp} {s : Shared}
theorem off_frs (I : Inv X pins σ H s) {f : Nat} (hf : s.heap.objs.size ≤ f) : f ∉ frs X.stack := fun z => by
  rcases List.mem_cons.mp (I.stkSub _ z) with e | e
  · have h1 := I.lt
    rw [← e] at h1
    exact Nat.lt_irrefl _ (Nat.lt_of_lt_of_le h1 hf)
  · exact I.nofs hf e
/-- behind the making of the default's tuple -/
theorem lam_tail {T : List (Addr × Str)} {c P : Addr} {params : Arguments} {body : Expr} {scope : Scope} {pos : Pos} {E : Value → Shared → Prop} {Q : Value → Shared → Prop} {dV : Value} {ds : List (Str × Int)} (I : Inv X pins σ H s) (TB : LamX.TabB X.base X.mg c P) (hcode : X.env.code = .ref c)
    (hm : (P, X.env.qual ++ "<lambda>") ∈ T) (hu : ∀ p ∈ T, p.1 = P → p.2 = X.env.qual ++ "<lambda>") (hT : LamX.Tabs T H) (hfree : ∀ y ∈ scope.names, y.2 = .free → ∃ c, X.env.cells.lookup y.1 = some c)
    (hd : match ds with
      | [] => dV = .none
      | p :: _ => ∃ (T : Addr) (t : Tok), dV = .ref T ∧ s.heap.get? T = some (PySem.W.kdv_tup [.int p.2 t]) ∧ H T = none ∧ T ∉ frs X.stack)
    (h : ∀ (f c' : Addr) (doc pm ct : Value) (H1 : Hp) (s' : Shared), Inv X pins σ H1 s' → LamX.ExtN H H1 → (∀ b, H1 b = none → H b = none) → LamX.Tabs T H1 →
      LamO (frs X.stack) H1 s'.heap f c' (X.env.qual ++ "<lambda>") params body scope (cloFrom X.env.cells scope.names []) dV doc pm ct ds → Q (.ref f) s') :
    wpAny (model X.prog X.w) X.A (makeTail "<lambda>" (X.env.qual ++ "<lambda>") params (.expr body) scope X.env dV .none none pos pos.line) Q E s := by
  obtain ⟨ps, hP, ht, ha⟩ := hT _ hm
  have bP : s.heap.BuiltinsAt X.mg P := TB.bm.keeps I.bk
  have hP' : s.heap.get? P = some { cls := .none, data := .fields ps } := I.hok P _ hP
  cases hc : codeAmong pos ps.toList with
  | none =>
    refine PySem.W.kdv_makeTail (mg := X.mg) (c := c) (P := P) (ps := ps) (closure_ok hfree) I.ok.glob (I.mod.glob.keeps I.bk) hcode (TB.code.keeps I.bk) hP' ht hc TB.gP bP fun c' ct doc h' tk hx hge hlt hrec htb => ?_
    obtain ⟨c2, oc, vs, t, e2, hoc, hdc, hv⟩ := hrec
    cases e2
    have hsz : s.heap.objs.size ≤ h'.objs.size := Nat.le_trans hge (Nat.le_of_lt hlt)
    have nC : H c' = none := I.hok.fresh hge
    have I1 := LamX.inv_table (t' := tk) (more := #[rawInt pos.line, rawInt pos.col, .ref c']) (h' := h'.push (PySem.W.kdv_obj "<lambda>" (X.env.qual ++ "<lambda>") params (.expr body) scope (cloFrom X.env.cells scope.names []) dV doc ((X.mg "__name__").getD .none) c' ct)) I hP
      (fun b o hb e => Heap.get?_push_of_some _ (hx b o hb e)) (Heap.get?_push_of_some _ htb) hge ⟨oc, vs, t, Heap.get?_push_of_some _ hoc, hdc, hv⟩
    have atN : ∀ b, b ≠ P → b ≠ c' → upd (upd H P (.tbl (ps ++ #[rawInt pos.line, rawInt pos.col, .ref c']))) c' (LamX.CodeO c' (X.env.qual ++ "<lambda>")) b = H b := fun b h1 h2 => by rw [upd_ne h2, upd_ne h1]
    have hE : LamX.ExtN H (upd (upd H P (.tbl (ps ++ #[rawInt pos.line, rawInt pos.col, .ref c']))) c' (LamX.CodeO c' (X.env.qual ++ "<lambda>"))) := fun b o e n => by
      rw [atN b (fun z => n ps (Option.some.inj (e.symm.trans (by rw [z]; exact hP)))) (ne_of_none e nC)]
      exact e
    have eL : (ps ++ #[rawInt pos.line, rawInt pos.col, .ref c']).toList = ps.toList ++ [rawInt pos.line, rawInt pos.col, .ref c'] := by simp
    have n1 : h'.objs.size ≠ c' := Nat.ne_of_gt hlt
    have n2 : h'.objs.size ≠ P := Nat.ne_of_gt (Nat.lt_of_lt_of_le (Heap.lt_size hP') hsz)
    refine h h'.objs.size c' doc ((X.mg "__name__").getD .none) ct _ _ I1 hE (fun b e => ?_) (fun p hp => ?_) ⟨Heap.get?_push_size _ rfl, by rw [atN _ n2 n1]; exact I.hok.fresh hsz, off_frs I hsz, ?_, upd_same⟩
    · by_cases b1 : b = c'
      · rw [b1]; exact nC
      · by_cases b2 : b = P
        · rw [b2, upd_ne (ne_of_none hP nC), upd_same] at e
          cases e
        · rw [atN b b2 b1] at e
          exact e
    · by_cases hb : p.1 = P
      · rw [hu p hp hb, hb]
        refine ⟨_, by rw [upd_ne (ne_of_none hP nC), upd_same], by rw [eL]; exact PySem.TriplesOk_snoc _ _ _ _ ht, fun p' cv hcv => ?_⟩
        rw [eL] at hcv
        rcases LamX.among_app _ ht hcv with z | z
        · obtain ⟨c0, e1, e2⟩ := ha p' cv z
          exact ⟨c0, e1, hE _ _ e2 LamX.codeO_ne⟩
        · exact ⟨c', z, upd_same⟩
      · obtain ⟨ps', a1, a2, a3⟩ := hT p hp
        refine ⟨ps', by rw [upd_ne (ne_of_none a1 nC), upd_ne hb]; exact a1, a2, fun p' cv hcv => ?_⟩
        obtain ⟨c0, e1, e2⟩ := a3 p' cv hcv
        exact ⟨c0, e1, hE _ _ e2 LamX.codeO_ne⟩
    · cases ds with
      | nil => exact hd
      | cons p r =>
        obtain ⟨T0, t0, e1, e2, e3, e4⟩ := hd
        have m1 : T0 ≠ P := fun z => by rw [z, hP] at e3; cases e3
        have m2 : T0 ≠ c' := Nat.ne_of_lt (Nat.lt_of_lt_of_le (Heap.lt_size e2) hge)
        exact ⟨T0, t0, e1, Heap.get?_push_of_some _ (hx _ _ m1 e2), by rw [atN _ m1 m2]; exact e3, e4⟩
  | some cv =>
    obtain ⟨c', e, hco⟩ := ha pos cv hc
    subst e
    refine PySem.W.kdv_makeTailHit (mg := X.mg) (c := c) (P := P) (ps := ps) (closure_ok hfree) I.ok.glob (I.mod.glob.keeps I.bk) hcode (TB.code.keeps I.bk) hP' ht hc bP fun ct doc h' tk hx hsz => ?_
    have I1 := I.kept (t' := tk) (h' := h'.push (PySem.W.kdv_obj "<lambda>" (X.env.qual ++ "<lambda>") params (.expr body) scope (cloFrom X.env.cells scope.names []) dV doc ((X.mg "__name__").getD .none) c' ct)) fun b o e => Heap.get?_push_of_some _ (hx b o e)
    refine h h'.objs.size c' doc ((X.mg "__name__").getD .none) ct H _ I1 (LamX.ExtN.refl H) (fun _ e => e) hT ⟨Heap.get?_push_size _ rfl, I.hok.fresh hsz, off_frs I hsz, ?_, hco⟩
    cases ds with
    | nil => exact hd
    | cons p r =>
      obtain ⟨T0, t0, e1, e2, e3, e4⟩ := hd
      exact ⟨T0, t0, e1, Heap.get?_push_of_some _ (hx _ _ e2), e3, e4⟩
theorem lam_made {T : List (Addr × Str)} {c P : Addr} {params : Arguments} {body : Expr} {scope : Scope} {pos : Pos} {E : Value → Shared → Prop} {Q : Value → Shared → Prop} {ds : List (Str × Int)} (I : Inv X pins σ H s) (TB : LamX.TabB X.base X.mg c P) (hcode : X.env.code = .ref c)
    (hm : (P, X.env.qual ++ "<lambda>") ∈ T) (hu : ∀ p ∈ T, p.1 = P → p.2 = X.env.qual ++ "<lambda>") (hT : LamX.Tabs T H) (hfree : ∀ y ∈ scope.names, y.2 = .free → ∃ c, X.env.cells.lookup y.1 = some c) (hf : lamForm params = some ds)
    (h : ∀ (f c' : Addr) (dV doc pm ct : Value) (H1 : Hp) (s' : Shared), Inv X pins σ H1 s' → LamX.ExtN H H1 → (∀ b, H1 b = none → H b = none) → LamX.Tabs T H1 →
      LamO (frs X.stack) H1 s'.heap f c' (X.env.qual ++ "<lambda>") params body scope (cloFrom X.env.cells scope.names []) dV doc pm ct ds → Q (.ref f) s') :
    wpAny (model X.prog X.w) X.A (eval (.Lambda params body scope pos) X.env) Q E s := by
  unfold lamForm at hf
  split at hf
  · cases hf
    refine PySem.W.kla_eval rfl ?_
    rw [makeFunction_eq]
    simp only [List.zip_nil_right, List.filterMap_nil, List.isEmpty_nil, if_true, pure_bind]
    exact lam_tail (ds := []) I TB hcode hm hu hT hfree rfl fun f c' doc pm ct H1 s' a1 a2 a3 a4 a5 => h f c' .none doc pm ct H1 s' a1 a2 a3 a4 a5
  · rename_i a pa i ki po
    cases hf
    refine PySem.W.kdv_lam rfl rfl (PySem.W.kdv_all1 (thn ((pe_int (X := X) (i := i) (j := ki) (pos := po)).run pins s σ H (fun v H1 => v = .int i ∧ H1 = H) I ⟨rfl, rfl⟩) fun u s1 ⟨v, H1, I1, ru, ev, eH⟩ => ?_))
    subst ev
    rw [eH] at I1
    obtain ⟨t, rfl⟩ := ru
    refine PySem.W.kdv_all0 ?_
    rw [makeFunction_eq]
    simp only [List.zip_nil_right, List.filterMap_nil, List.isEmpty_nil, List.isEmpty_cons, if_true, pure_bind, Bool.false_eq_true, if_false]
    refine wpAny_bind (wpAny_newTextTuple ?_)
    have I2 := I1.kept (t' := s1.toks) (h' := s1.heap.push (PySem.W.kdv_tup [.int i t])) fun b o e => Heap.get?_push_of_some _ e
    exact lam_tail (ds := [(a, i)]) I2 TB hcode hm hu hT hfree ⟨s1.heap.objs.size, t, rfl, Heap.get?_push_size _ rfl, I1.hok.fresh (Nat.le_refl _), off_frs I1 (Nat.le_refl _)⟩ fun f c' doc pm ct H1 s' a1 a2 a3 a4 a5 => h f c' _ doc pm ct H1 s' a1 a2 a3 a4 a5
  · cases hf
/-! ### 41. the lambda's names, its body entered -/
/-- its parameters are its only names; it sees captured ones and globals -/
structure LmS (sc scope : Scope) (ds : List (Str × Int)) : Prop where
  kind : scope.kind = .function
  co : scope.isCoroutine = false
  gen : scope.isGenerator = false
  cel : ∀ y ∈ scope.names, y.2 ≠ .cell
  par : ∀ p ∈ ds, scope.names.lookup p.1 = some .local
  free : ∀ y ∈ scope.names, y.2 = .free → sc.names.lookup y.1 = some .cell ∨ sc.names.lookup y.1 = some .free
def lmSB (sc scope : Scope) (ds : List (Str × Int)) : Bool :=
  decide (scope.kind = .function) && !scope.isCoroutine && !scope.isGenerator && (scope.names.all fun y => !decide (y.2 = .cell)) && (ds.all fun p => scope.names.lookup p.1 == some .local) && (scope.names.all fun y => !decide (y.2 = .free) || sc.names.lookup y.1 == some .cell || sc.names.lookup y.1 == some .free)
theorem lmS_by {sc scope : Scope} {ds : List (Str × Int)} (h : lmSB sc scope ds = true) : LmS sc scope ds := by
  unfold lmSB at h
  simp only [Bool.and_eq_true, Bool.or_eq_true, Bool.not_eq_true', decide_eq_true_eq, decide_eq_false_iff_not, List.all_eq_true, beq_iff_eq] at h
  obtain ⟨⟨⟨⟨⟨h1, h2⟩, h3⟩, h4⟩, h5⟩, h6⟩ := h
  refine ⟨h1, h2, h3, h4, h5, fun y hy e => ?_⟩
  rcases h6 y hy with (z | z) | z
  · exact absurd e z
  · exact .inl z
  · exact .inr z
theorem LmS.has {scope : Scope} {ds : List (Str × Int)} (L : LmS X.env.scope scope ds) (ok : X.Ok) : ∀ y ∈ scope.names, y.2 = .free → ∃ c, X.env.cells.lookup y.1 = some c := fun y hy e => by
  rcases L.free y hy e with k | k
  · exact ok.has _ (.inl k)
  · exact ok.has _ (.inr k)
theorem lm_start {A : Around} {outer : List Env} {E : XK} {scope : Scope} {f c' : Addr} {h1 : Heap} {tk : Nat} {HZ : Hp} {s1 : Shared} {ds : List (Str × Int)} {m : Str → Option Value} {vs : List Nat} (I : Inv X pins σ H s) (L : LmS X.env.scope scope ds)
    (hw : ∀ i y, X.N[i]? = some y → scope.names.lookup y = some .local → i ∈ vs) (e0 : Env0 X.prog X.w X.K X.mg X.base A outer s1 HZ) (hd : A.handled = none)
    (un : Un (frs X.stack) [] H HZ s.heap s1.heap) (hns : h1.Ns s1.heap.objs.size m) (kp : ∀ b o, s1.heap.get? b = some o → h1.get? b = some o) :
    Inv (LamX.lamCx X A outer s1 HZ E scope f c') [] (L2.wipe σ vs) HZ { s1 with heap := h1, toks := tk } := by
  have hfree := L.has I.ok
  have cm : ∀ {y c}, (cloFrom X.env.cells scope.names []).lookup y = some c → X.env.cells.lookup y = some c := fun {y c} e => by
    rcases cloFrom_mem (PySem.mem_of_lookup e) with hm | ⟨a1, a2⟩
    · cases hm
    · obtain ⟨c1, hc⟩ := hfree _ a1 rfl
      have hc : X.env.cells.lookup y = some c1 := hc
      have e2 : c = c1 := by
        rw [a2, hc] <;> rfl
      rw [e2]
      exact hc
  have look : ∀ {y}, scope.names.lookup y = some .free → ∃ c, (cloFrom X.env.cells scope.names []).lookup y = some c := fun {y} hl => by
    have hy : (y, NameKind.free) ∈ scope.names := PySem.mem_of_lookup hl
    exact mem_lookup (cloFrom_has (cells := X.env.cells) (acc := []) hy)
  have cellK : ∀ {c : Addr} {v : Option Value}, H c = none → s.heap.IsCell c v → h1.IsCell c v := fun {c v} n ⟨o, ho, hdt⟩ => by
    obtain ⟨sl, q⟩ := un.any ho n (by simp)
    exact ⟨_, kp _ _ q, hdt⟩
  have noA : ∀ b : Addr, b ∉ (LamX.lamCx X A outer s1 HZ E scope f c').ex := fun b z => (List.not_mem_nil (show b ∈ ([] : List Addr) from z)).elim
  refine ⟨⟨e0.mod, L.kind, rfl, rfl, Nat.le_refl _, fun y z c e1 e2 => I.ok.inj y z c (cm e1) (cm e2), fun y hy => ?_, fun y c z _ => ?_, fun _ => hd, Around.frames_deeper e0.frames, .inr ⟨rfl, rfl⟩, fun b z => (noA b z).elim, e0.bs, e0.bsz, fun b _ _ => noA b, fun b z => (noA b z).elim, e0.funs, e0.frf⟩,
    rfl, e0.bare, Un.kept kp, ⟨_, hns, fun i y v e1 e2 e3 => ?_⟩, fun y c e => ?_, e0.hok.fresh (Nat.le_refl _), fun y c e => ?_, fun q hq => (List.not_mem_nil (show q ∈ ([] : List (Addr × Obj)) ++ [] from hq)).elim, e0.hok.kept kp, by rw [L2.wipe_length]; exact I.len⟩
  · have hy : scope.names.lookup y = some .cell ∨ scope.names.lookup y = some .free := hy
    rcases hy with hy | hy
    · exact (L.cel _ (PySem.mem_of_lookup hy) rfl).elim
    · exact look hy
  · have z : false = true := z
    cases z
  · have e3 : Vis scope y := e3
    obtain ⟨e2, ni⟩ := wipe_some e2
    rcases e3 with k | k | k
    · exact (ni (hw i y e1 k)).elim
    · exact (L.cel _ (PySem.mem_of_lookup k) rfl).elim
    · obtain ⟨m2, hn2, hl2⟩ := I.loc
      have hvis : Vis X.env.scope y := (L.free _ (PySem.mem_of_lookup k) rfl).elim (fun k => .inr (.inl k)) (fun k => .inr (.inr k))
      obtain ⟨w', r, q⟩ := hl2 i y v e1 e2 hvis
      obtain ⟨c2, h2⟩ := look k
      refine ⟨w', r, .inr ⟨.inr k, c2, h2, ?_⟩⟩
      have c1 := cm h2
      rcases q with ⟨k', _⟩ | ⟨_, c3, e', z⟩
      · have k' : X.env.scope.names.lookup y = some .local := k'
        rcases L.free _ (PySem.mem_of_lookup k) rfl with k2 | k2 <;> rw [show X.env.scope.names.lookup y = _ from k2] at k' <;> cases k'
      · rw [c1] at e'
        cases e'
        exact cellK (I.freeC y _ c1) z
  · obtain ⟨w', z⟩ := I.cell y c (cm e)
    exact ⟨w', cellK (I.freeC y c (cm e)) z⟩
  · obtain ⟨v, o, ho, hdt⟩ := I.cell y c (cm e)
    exact un.free c o ho (I.freeC y c (cm e)) (by simp)
theorem lm_binds {params : Arguments} {ds : List (Str × Int)} {q : Str} {body : Expr} {scope : Scope} {cl : List (Str × Addr)} {dV doc pm ct : Value} {c' : Addr} {s1 : Shared} (hf : lamForm params = some ds)
    (hd : match ds with
      | [] => dV = .none
      | p :: _ => ∃ (T : Addr) (t : Tok), dV = .ref T ∧ s1.heap.get? T = some (PySem.W.kdv_tup [.int p.2 t])) :
    ∃ us : List (Str × Value), BindsTo s1 (lmFn q params body scope cl dV doc pm c' ct) ⟨[], []⟩ us ∧ us.map (·.1) = ds.map (·.1) := by
  unfold lamForm at hf
  split at hf
  · cases hf
    have e : dV = Value.none := hd
    subst e
    exact ⟨[], BindsTo.of_eq rfl, rfl⟩
  · rename_i a pa i ki po
    cases hf
    obtain ⟨T, t, e, ht⟩ := hd
    subst e
    exact ⟨[(a, .int i t)], BindsTo.of_defaults rfl ht rfl rfl (by simp [lmFn, PySem.W.kdv_fn]), rfl⟩
  · cases hf
end
end PX
namespace PX
open PySem PySem.Spec PyProof.Rows L2
/-! ### 42. try with any clauses, with and without a name -/
abbrev Suit := Addr → Value → Option Addr → TS
def goD (i : Option Nat) (D : Ends) : Ends := match i with
  | none => D
  | some i => { nx := fun σ H => D.nx (σ.set i none) H, rt := D.rt, bk := fun σ H => D.bk (σ.set i none) H, ct := fun σ H => D.ct (σ.set i none) H }
def goS (i : Option Nat) (a : Addr) (σ : L2.St) : L2.St := match i with
  | none => σ
  | some i => σ.set i (some (.ref a))
def wMix (K : PySem.W.Frag) (Wout : WX) (D : Ends) : List (Value × Option Nat × Suit) → WX
  | [] => Wout
  | (c, i, ts) :: r => fun cls d σ H => ∃ b, PySem.W.exmOne K cls c = some b ∧ (b = true → ∀ a, H a = none → ts a cls d (goD i D) (goS i a σ) H) ∧ (b = false → wMix K Wout D r cls d σ H)
inductive MixOk (X : Cx) : List ExceptHandler → List (Value × Option Nat × Suit) → Prop
  | nil : MixOk X [] []
  | bare {x : Str} {c : Value} {ts : Suit} {b0 : Stmt} {suite : List Stmt} {np pos : Pos} {hds : List ExceptHandler} {l : List (Value × Option Nat × Suit)} (hc : Names X x c)
      (hsu : ∀ (a : Addr) (oe : Obj) (cls : Value) (d : Option Addr) (pn : List (Addr × Obj)), Zc cls d oe → (∃ vs, oe.data = .fields vs) → PSs (X.suite a ((a, oe) :: pn)) (b0 :: suite) (ts a cls d)) (r : MixOk X hds l) :
      MixOk X (.ExceptHandler (some (.Name x np)) none (b0 :: suite) pos :: hds) ((c, none, ts) :: l)
  | named {x n : Str} {i : Nat} {c : Value} {ts : Suit} {b0 : Stmt} {suite : List Stmt} {np pos : Pos} {hds : List ExceptHandler} {l : List (Value × Option Nat × Suit)} (hc : Names X x c) (hi : X.N[i]? = some n) (hln : X.env.kindOf n = some .local)
      (hsu : ∀ (a : Addr) (oe : Obj) (cls : Value) (d : Option Addr) (pn : List (Addr × Obj)), Zc cls d oe → (∃ vs, oe.data = .fields vs) → PSs (X.suite a ((a, oe) :: pn)) (b0 :: suite) (ts a cls d)) (r : MixOk X hds l) :
      MixOk X (.ExceptHandler (some (.Name x np)) (some n) (b0 :: suite) pos :: hds) ((c, some i, ts) :: l)
section
variable {X : Cx} {body : List Stmt} {h0 : ExceptHandler} {hds : List ExceptHandler} {l : List (Value × Option Nat × Suit)} {pos : Pos} {tb : WX → TS} {Wout : WX}
theorem ps_try_mix (hs : X.stack = X.env :: X.outer) (hf : X.env.frame = some X.env.locals) (hN : X.N.Nodup) (tk : Takes X Wout)
    (hb : ∀ (W : WX) (pn : List (Addr × Obj)) (xe : Value → Shared → Prop), Takes (X.tr pn xe) W → PassesOwn (model X.prog X.w) X.A X.env xe → PSs (X.tr pn xe) body (tb W))
    (hh : MixOk X (h0 :: hds) l) : PS X (.Try body (h0 :: hds) [] [] pos) (fun D σ H => tb (wMix X.K Wout D l) D σ H) := by
  refine ⟨fun pins s σ H D I h => ?_⟩
  have ok := I.ok
  have hfr : X.A.frames = some (X.env :: X.outer) := by rw [ok.frames, hs]
  refine wpAny_Try_except ?_
  refine wpAny_mono ((hb (wMix X.K Wout D l) (X.pn ++ pins) (fun e t1 => wpAny (model X.prog X.w) X.A (noteFrame e X.env) (fun _ t2 => wpAny (model X.prog X.w) X.A (setFlight e none)
    (fun _ t3 => wpAny (model X.prog X.w) X.A (handleBy e X.env (h0 :: hds)) (SP X pins D) X.xe t3) X.xe t2) X.xe t1) (fun u s' xx => ?_) PassesOwn.looking).run [] s σ H D (I.toTry _) h) (fun f s1 hsp => ?_) (fun e s1 he => he)
  · obtain ⟨a, B, sI, pins', σ', H', cls, d, rfl, J', nb, up, sky, na, os, ag, w⟩ := xx
    have J : Inv X pins σ' H' sI := J'.ofTry ok
    have sky' : Sky B (X.env :: X.outer) a (Zc cls d) X.env.locals s'.heap := by rw [← hs]; exact sky
    show wpAny _ X.A (noteFrame (.ref a) X.env) _ _ _
    refine Sky.land Zc.steady hfr hf sky' fun h3 fl3 up3 => ?_
    have J3 : Inv X pins σ' H' { s' with heap := h3 } := J.landed nb fl3.1 (up.trans up3) os ag
    obtain ⟨oe3, vs3, he3, hz3, hd3⟩ := fl3.there
    have nfr : a ∉ frs (X.env :: X.outer) := fun hm => by
      obtain ⟨_, o', e', hnf⟩ := fl3.2.2.1.mem hm
      rw [he3] at e'
      cases e'
      exact hnf _ hd3
    have nL : a ≠ X.env.locals := fun z => nfr (List.mem_filterMap.mpr ⟨X.env, List.mem_cons_self, by rw [hf, z]⟩)
    have nF : a ∉ X.fs := fun hm => by
      obtain ⟨e, he, q⟩ := List.mem_filterMap.mp hm
      exact nfr (List.mem_filterMap.mpr ⟨e, List.mem_cons_of_mem _ he, q⟩)
    have S3 := J3.suite he3 hd3 na nL nF
    have LT : PySem.W.Looks (model X.prog X.w) h3 (typeOf (.ref a)) cls := fun A Q E s k q => wpAny_typeOf_ref (k _ _ he3) (by rw [hz3.1]; exact q)
    have test : ∀ {x : Str} {c : Value} {np : Pos} {Q : Value → Shared → Prop} {E : Value → Shared → Prop}, Names X x c → Q c { s' with heap := h3 } → wpAny (model X.prog X.w) (X.A.mark (some (.ref a))) (eval (.Name x np) X.env) Q E { s' with heap := h3 } := fun {x c np Q E} hc q => by
      obtain ⟨hg, hdbg, hm | ⟨hm, hv, hnn⟩⟩ := hc
      · exact ld_glob (X := X.suite a ((a, oe3) :: (X.pn ++ pins))) S3 hg hm q hdbg
      · exact ld_blt (X := X.suite a ((a, oe3) :: (X.pn ++ pins))) S3 hg hm hv q hnn hdbg
    have go : ∀ {hds' : List ExceptHandler} {l' : List (Value × Option Nat × Suit)}, MixOk X hds' l' → wMix X.K Wout D l' cls d σ' H' →
        wpAny (model X.prog X.w) X.A (handleBy (.ref a) X.env hds') (SP X pins D) X.xe { s' with heap := h3 } := by
      intro hds' l' hk
      induction hk with
      | nil =>
        intro w
        refine wpAny_handleBy_nil ?_
        obtain ⟨k1, k2, k3, oe, vs, T, oT, ts', he, hz, hd, h1, hr⟩ := id fl3
        unfold PySem.passOn
        refine wpAny_bind (wpAny_field he hd h1 ?_)
        rw [if_neg (show ¬ ((Value.ref T == Value.none) = true) from by simp)]
        have fin : wpAny (model X.prog X.w) X.A (setFlight (.ref a) X.env.frame) (fun _ s4 => wpAny (model X.prog X.w) X.A (throw (.ref a) : Sem Flow) (SP X pins D) X.xe s4) X.xe { s' with heap := h3 } := by
          rw [hf]
          refine HandSPX.setFlight_upZ fl3 fun h4 hh4 up4 => wpAny_throw (tk _ _ ?_)
          exact ⟨a, B, sI, pins, σ', H', cls, d, rfl, J, nb, (up.trans up3).trans up4, .inr (.inr (by rw [hs]; exact hh4)), na, os, ag, w⟩
        first
          | exact wpAny_bind (wpAny_pure (wpAny_bind fin))
          | exact wpAny_bind fin
      | @bare x c ts b0 suite np pos' hds2 l2 hc hsu r ih =>
        intro w
        obtain ⟨b, hb1, hyes, hno⟩ := w
        refine wpAny_handleBy_cons (codeAny_handlers_test ?_) (by intro q; cases q)
        have LM := PySem.W.exm_one (M := model X.prog X.w) (J3.kIn) LT hb1
        refine test hc (LM.here ?_)
        cases b with
        | false =>
          show wpAny _ X.A (handleBy (.ref a) X.env hds2) _ _ _
          exact ih (hno rfl)
        | true =>
          refine codeAny_handlers_suite ?_
          refine HandSPX.lands_againZ fl3 fun h4 fl4 up4 => ?_
          have J4 : Inv X pins σ' H' { s' with heap := h4 } := J.landed nb fl4.1 ((up.trans up3).trans up4) os ag
          obtain ⟨oe4, vs4, he4, hz4, hd4⟩ := fl4.there
          have S4 := J4.suite he4 hd4 na nL nF
          refine wpAny_mono ((hsu a oe4 cls d (X.pn ++ pins) hz4 ⟨_, hd4⟩).run [] _ _ H' _ S4 (hyes rfl a na)) (fun f s6 hsp => ?_) (fun _ _ z => False.elim z)
          cases f with
          | next => exact let ⟨σ6, H6, S6, q6⟩ := hsp; ⟨σ6, H6, S6.unsuite ok, q6⟩
          | brk => exact let ⟨σ6, H6, S6, q6⟩ := hsp; ⟨σ6, H6, S6.unsuite ok, q6⟩
          | cont => exact let ⟨σ6, H6, S6, q6⟩ := hsp; ⟨σ6, H6, S6.unsuite ok, q6⟩
          | ret u => exact let ⟨v6, σ6, H6, S6, r6, q6⟩ := hsp; ⟨v6, σ6, H6, S6.unsuite ok, r6, q6⟩
      | @named x n i c ts b0 suite np pos' hds2 l2 hc hi hln hsu r ih =>
        intro w
        obtain ⟨b, hb1, hyes, hno⟩ := w
        refine wpAny_handleBy_cons (codeAny_handlers_test ?_) (by intro q; cases q)
        have LM := PySem.W.exm_one (M := model X.prog X.w) (J3.kIn) LT hb1
        refine test hc (LM.here ?_)
        cases b with
        | false =>
          show wpAny _ X.A (handleBy (.ref a) X.env hds2) _ _ _
          exact ih (hno rfl)
        | true =>
          refine codeAny_handlers_suite_as ?_
          refine HandSPX.lands_againZ fl3 fun h4 fl4 up4 => ?_
          have J4 : Inv X pins σ' H' { s' with heap := h4 } := J.landed nb fl4.1 ((up.trans up3).trans up4) os ag
          obtain ⟨oe4, vs4, he4, hz4, hd4⟩ := fl4.there
          have S4 := J4.suite he4 hd4 na nL nF
          refine store_ok (X := X.suite a ((a, oe4) :: (X.pn ++ pins))) (v := .ref a) S4 hN hi (.inl hln) rfl (fun s5 S5 => ?_) (.inr hln)
          refine wpAny_mono ((hsu a oe4 cls d (X.pn ++ pins) hz4 ⟨_, hd4⟩).run [] s5 _ H' _ S5 (hyes rfl a na)) (fun f s6 hsp => ?_) (fun _ _ z => False.elim z)
          have gone : ∀ {σ6 : L2.St} {H6 : Hp} {Q : Shared → Prop}, Inv (X.suite a ((a, oe4) :: (X.pn ++ pins))) [] σ6 H6 s6 → (∀ s7, Inv X pins (σ6.set i none) H6 s7 → Q s7) →
              wpAny (model X.prog X.w) X.A (do bindName X.env n .none; unbindBehindTheSuite X.env n pos') (fun _ s7 => Q s7) X.xe s6 := fun {σ6 H6 Q} S6 hq => gone_ok (S6.unsuite ok) hN hi hln hq
          cases f with
          | next => exact let ⟨σ6, H6, S6, q6⟩ := hsp; gone S6 fun s7 J7 => ⟨_, _, J7, q6⟩
          | brk => exact let ⟨σ6, H6, S6, q6⟩ := hsp; gone S6 fun s7 J7 => ⟨_, _, J7, q6⟩
          | cont => exact let ⟨σ6, H6, S6, q6⟩ := hsp; gone S6 fun s7 J7 => ⟨_, _, J7, q6⟩
          | ret u => exact let ⟨v6, σ6, H6, S6, r6, q6⟩ := hsp; gone S6 fun s7 J7 => ⟨_, _, _, J7, r6, q6⟩
    exact go hh w
  · cases f with
    | next => exact let ⟨σ', H', J', q⟩ := hsp; wpAny_execs_nil ⟨σ', H', J'.ofTry ok, q⟩
    | brk => exact let ⟨σ', H', J', q⟩ := hsp; ⟨σ', H', J'.ofTry ok, q⟩
    | cont => exact let ⟨σ', H', J', q⟩ := hsp; ⟨σ', H', J'.ofTry ok, q⟩
    | ret u => exact let ⟨v, σ', H', J', r, q⟩ := hsp; ⟨v, σ', H', J'.ofTry ok, r, q⟩
end
end PX
namespace PX
open PySem PySem.Spec PyProof.Rows L2
variable [Tabc]
/-! ### 43. the lambda called in the def that got it -/
section
variable {X : Cx} {pins : List (Addr × Obj)} {σ : L2.St} {H HZ : Hp} {s : Shared}
theorem lm_act {CXg : CXT} {Eg : XK} {Ng : List Str} {qg : Str} {sg : Scope} {g f c' : Addr} {cdg dV doc pm ct : Value} {params : Arguments} {body : Expr} {scope : Scope} {k i : Nat} {a : Str} {pn : List (Addr × Obj)} {xe : Value → Shared → Prop} {W : WX} {tb : XK → TE} {p1 p2 : Pos}
    {ds : List (Str × Int)} {vs : List Nat} (I : Inv X pins σ H s) (L : LmS X.env.scope scope ds) (hf : lamForm params = some ds) (hw : ∀ i y, X.N[i]? = some y → scope.names.lookup y = some .local → i ∈ vs)
    (O : LamO (frs X.stack) H s.heap f c' (X.env.qual ++ "<lambda>") params body scope (cloFrom X.env.cells scope.names []) dV doc pm ct ds)
    (tk : Takes ((cxOf CXg X.prog X.w X.K X.mg X.base Ng qg sg g cdg X.A X.stack s H Eg).tr pn xe) W) (hr : Room (k + 1) (X.A.deeper (envOfC qg sg s.heap.objs.size g cdg)))
    (hbody : ∀ (A : Around) (outer : List Env) (s : Shared) (H : Hp) (E : XK), Room k (A.deeper (LamX.lamEnv X scope s.heap.objs.size f c')) → A.guards = X.A.guards → PE (LamX.lamCx X A outer s H E scope f c') body (tb E))
    (hN : Ng[i]? = some a) (hv : Vis sg a) (hd : (a == ("__debug__" : Str)) = false) (hcd : (a == ("__classdict__" : Str)) = false) :
    PE ((cxOf CXg X.prog X.w X.K X.mg X.base Ng qg sg g cdg X.A X.stack s H Eg).tr pn xe) (.Call (.Name a p1) [] [] p2)
      (fun σZ HZ Q => σZ[i]? = some (some (.ref f)) ∧ HZ c' = some (LamX.CodeO c' (X.env.qual ++ "<lambda>")) ∧ tb (WE W σZ) (L2.wipe σ vs) HZ Q) := by
  refine ⟨fun pinsZ sZ σZ HZ Q IZ h => ?_⟩
  obtain ⟨hs, hc, ht⟩ := h
  refine wpAny_Call_Name_kw (thn ((pe_var (pos := p1) (i := i) hN hv hd hcd).run pinsZ sZ σZ HZ (fun v H1 => v = .ref f ∧ H1 = HZ) IZ ⟨.ref f, hs, rfl, rfl⟩) fun u s1 ⟨v, H1, I1, r1, ev, eH⟩ => ?_)
  subst ev
  rw [eH] at I1
  obtain rfl : u = Value.ref f := r1
  have un : Un (frs X.stack) [] H HZ s.heap s1.heap := I1.base
  have keep : ∀ b o, s.heap.get? b = some o → H b = none → b ∉ frs X.stack → s1.heap.get? b = some o := fun b o e n nf => un.keep b o e n nf List.not_mem_nil
  have of1 := keep f _ O.obj O.gone O.off
  refine PySem.W.callWith_F0 ⟨_, _, _, _, of1⟩ ?_
  obtain ⟨⟨oc, cvs, t, hoc, hdc, hvc⟩, _, _⟩ := I1.hok c' _ hc
  obtain ⟨us, hb1, hb2⟩ := lm_binds (q := X.env.qual ++ "<lambda>") (body := body) (scope := scope) (cl := cloFrom X.env.cells scope.names []) (dV := dV) (doc := doc) (pm := pm) (ct := ct) (c' := c') (s1 := s1) hf (by
    have z := O.dfl
    cases ds with
    | nil => exact z
    | cons p r =>
      obtain ⟨T, t, e1, e2, e3, e4⟩ := z
      exact ⟨T, t, e1, keep _ _ e2 e3 e4⟩)
  have hloc : ∀ y ∈ us, scope.names.lookup y.1 = some .local := fun y hy => by
    have z : y.1 ∈ ds.map (·.1) := by rw [← hb2]; exact List.mem_map.mpr ⟨y, hy, rfl⟩
    obtain ⟨p, hp, e⟩ := List.mem_map.mp z
    rw [← e]
    exact L.par p hp
  have rc : codeAny (model X.prog X.w) (X.A.deeper (envOfC qg sg s.heap.objs.size g cdg)) (.call (.ref f) ⟨[], []⟩) (CR (L2.CX X.prog X.w) (envOfC qg sg s.heap.objs.size g cdg :: X.stack) X.prog X.w HZ s1 Q (WE W σZ)) s1 := by
    refine PySem.W.kla_callFunE hr.depth of1 rfl L.co L.gen rfl ⟨c', oc, cvs, t, rfl, hoc, hdc, hvc⟩ (hb1 _ _ _ _ ?_)
    refine wpAny_newFunctionEnv (fun y hy => L.cel y hy) hloc (fun h1 hns hsb => ⟨I1.nolimit.fresh _ hsb, ?_⟩) L.kind
    show codeAny _ _ (.expr body (LamX.lamEnv X scope s1.heap.objs.size f c')) _ _
    have kp : ∀ b o, s1.heap.get? b = some o → h1.get? b = some o := fun b o e => hsb.extBut b o (Nat.ne_of_lt (Heap.lt_size e)) (Heap.get?_push_of_some _ e)
    have J := lm_start (A := X.A.deeper (envOfC qg sg s.heap.objs.size g cdg)) (outer := envOfC qg sg s.heap.objs.size g cdg :: X.stack) (E := WE W σZ) (f := f) (c' := c') (tk := s1.toks + us.length) I L hw I1.env0 hr.hd un hns kp
    refine PySem.W.kla_codeExpr (wpAny_mono ((hbody _ _ s1 HZ _ (hr.deeper _) rfl).run [] _ _ HZ Q J ht) (fun v s' hq => ?_) fun e s' hq => hq)
    obtain ⟨w', H', J', rv, q⟩ := hq
    exact ⟨w', H', J'.os, J'.bare, J'.base, J'.hok, rv, q⟩
  refine wpAny_call (codeAny_mono rc fun r s' hq => ?_)
  cases r with
  | error e => exact passAt tk σZ pinsZ HZ s1 e s' I1 hq
  | ok fl =>
    cases fl with
    | ret u => exact I1.after hq
    | next => exact False.elim hq
    | brk => exact False.elim hq
    | cont => exact False.elim hq
end
end PX
namespace PX
open PySem PySem.Spec PyProof.Rows L2
variable [Tabc]
/-! ### 44. classes of exceptions; a def that hears -/
def ixOf : List Str → Str → Option Nat
  | [], _ => none
  | y :: r, x => if y == x then some 0 else (ixOf r x).map (· + 1)
theorem ixOf_ok : ∀ {N : List Str} {x : Str} {i : Nat}, ixOf N x = some i → N[i]? = some x
  | [], _, _, h => nomatch h
  | y :: r, x, i, h => by
    unfold ixOf at h
    by_cases c : (y == x) = true
    · rw [if_pos c] at h
      cases h
      exact congrArg some (eq_of_beq c)
    · rw [if_neg c] at h
      obtain ⟨j, h1, h2⟩ := Option.map_eq_some_iff.mp h
      subst h2
      simpa using ixOf_ok h1
/-- a class: its name, the classes above it that are known by name (it among them), its fields -/
structure Cls where
  x : Str
  up : List Str
  fs : List Str
structure ClsOk (mg : Str → Option Value) (K : PySem.W.Frag) (cl : List Cls) : Prop where
  at_ : ∀ k ∈ cl, ∃ C, mg k.x = some (.ref C)
  sub : ∀ k ∈ cl, ∀ k' ∈ cl, ∀ C C', mg k.x = some (.ref C) → mg k'.x = some (.ref C') → PySem.W.exmOne K (.ref C) (.ref C') = some (k.up.contains k'.x)
  xf : ∀ k ∈ cl, k.fs ≠ [] → ∀ C, mg k.x = some (.ref C) → XfC K C ∧ ∀ f ∈ k.fs, PySem.W.findIn K (.ref C) f = some none
def clsOf (cl : List Cls) (x : Str) : Option Cls := cl.find? fun k => k.x == x
theorem clsOf_ok {cl : List Cls} {x : Str} {k : Cls} (h : clsOf cl x = some k) : k ∈ cl ∧ k.x = x := ⟨List.mem_of_find?_eq_some h, eq_of_beq (List.find?_some (p := fun k : Cls => k.x == x) h)⟩
inductive HI where
  | con (d : D) | fld (f : Str)
inductive HX where
  | one (i : HI) | tup (l : List HI)
def conD : Const → Option D
  | .none => some .non
  | .bool b => some (.bl b)
  | .int i => some (.int i)
  | .str x => some (.str x)
  | _ => none
def hiV (k : Cls) (x : Xn) : HI → Option D
  | .con d => some d
  | .fld f => if k.fs.contains f then x.fs.lookup f else none
def hisV (k : Cls) (x : Xn) : List HI → Option (List D)
  | [] => some []
  | i :: r => match hiV k x i, hisV k x r with
    | some d, some ds => some (d :: ds)
    | _, _ => none
def hxV (k : Cls) (x : Xn) : HX → M D
  | .one i => lft (hiV k x i)
  | .tup l => fun μ => match hisV k x l with
    | some ds => mkT ds μ
    | none => .no
def hdX (cl : List Cls) (k : Cls) (x : Xn) : List (Str × HX) → M D
  | [] => stk
  | (c, e) :: r => if (clsOf cl c).isSome then (if k.up.contains c then hxV k x e else hdX cl k x r) else stk
def hdM (cl : List Cls) (hs : List (Str × HX)) (m : M D) : M D := fun μ => match m μ with
  | .ok d μ' => .ok (.lst [d]) μ'
  | .ex x μ' => (match clsOf cl x.c with
    | some k => hdX cl k x hs μ'
    | none => .no)
  | .no => .no
def parI (n : Option Str) : Expr → Option HI
  | .Constant c _ _ => (conD c).map .con
  | .Attribute (.Name y _) f _ => if n == some y then some (.fld f) else none
  | _ => none
def parIs (n : Option Str) : List Expr → Option (List HI)
  | [] => some []
  | e :: r => match parI n e, parIs n r with
    | some i, some l => some (i :: l)
    | _, _ => none
def parX (n : Option Str) : Expr → Option HX
  | .Tuple es _ _ => (parIs n es).map .tup
  | e => (parI n e).map .one
def parH : List ExceptHandler → Option (List (Str × Option Str × HX))
  | [] => some []
  | .ExceptHandler (some (.Name x _)) n [.Return (some e) _] _ :: r => match parX n e, parH r with
    | some e, some l => some ((x, n, e) :: l)
    | _, _ => none
  | _ => none
/-- what is heard by a def's text: the name that it calls, its clauses -/
def hearB : List Stmt → Option (Str × List (Str × Option Str × HX))
  | [.Try [.Return (some (.List [.Call (.Name a _) [] [] _] _)) _] (h :: hs) [] [] _] => (parH (h :: hs)).map fun l => (a, l)
  | _ => none
section
variable {X : Cx} {a : Addr} {oe : Obj} {cls : Value} {dd : Option Addr} {pn : List (Addr × Obj)} {n : Option Str} {j : Option Nat}
/-- the slot of a clause's name -/
def SlotOf (X : Cx) (n : Option Str) (j : Option Nat) : Prop := match n with
  | none => True
  | some y => ∃ i, j = some i ∧ X.N[i]? = some y ∧ X.env.scope.names.lookup y = some .local ∧ (y == ("__debug__" : Str)) = false ∧ (y == ("__classdict__" : Str)) = false
def tHI (K : PySem.W.Frag) (a : Addr) (cls : Value) (dd : Option Addr) (j : Option Nat) : HI → TE
  | .con d => tC (scV d)
  | .fld f => fun σ H Q => ∃ i C da fs v, j = some i ∧ cls = .ref C ∧ XfC K C ∧ PySem.W.findIn K (.ref C) f = some none ∧ σ[i]? = some (some (.ref a)) ∧ dd = some da ∧ H da = some (.xd fs) ∧ fs.lookup f = some v ∧ Q v H
theorem pe_HI (hz : Zc cls dd oe) (hf : ∃ vs, oe.data = .fields vs) (hj : SlotOf X n j) {e : Expr} {i : HI} (h : parI n e = some i) : PE (X.suite a ((a, oe) :: pn)) e (tHI X.K a cls dd j i) ∧ ∀ es env, starEach (e :: es) env = (false, eval e env) :: starEach es env := by
  unfold parI at h
  split at h
  · rename_i c k pos
    obtain ⟨d, h1, h2⟩ := Option.map_eq_some_iff.mp h
    subst h2
    refine ⟨?_, fun _ _ => rfl⟩
    cases c <;> cases h1
    · exact pe_non
    · exact pe_bl
    · exact pe_int
    · exact pe_str
  · rename_i y yp f pos
    by_cases c : (n == some y) = true
    · rw [if_pos c] at h
      cases h
      obtain rfl := eq_of_beq c
      obtain ⟨i, rfl, hN, hv, hd, hcd⟩ := hj
      refine ⟨⟨fun pins s σ H Q I h => ?_⟩, fun _ _ => rfl⟩
      obtain ⟨i', C, da, fs, v, e1, e2, T, no, e3, e4, e5, e6, q⟩ := h
      cases e1
      exact (pe_xf (X := X) (pos := pos) T no hz hf (pe_var (X := X.suite a ((a, oe) :: pn)) (i := i) (pos := yp) hN (.inl hv) hd hcd)).run pins s σ H Q I ⟨_, e3, rfl, e2, da, fs, v, e4, e5, e6, q⟩
    · rw [if_neg c] at h
      cases h
  · cases h
def tHIs (K : PySem.W.Frag) (a : Addr) (cls : Value) (dd : Option Addr) (j : Option Nat) : List HI → TA
  | [] => tNil
  | i :: r => tCons (tHI K a cls dd j i) (tHIs K a cls dd j r)
theorem pa_HI (hz : Zc cls dd oe) (hf : ∃ vs, oe.data = .fields vs) (hj : SlotOf X n j) : ∀ {es : List Expr} {l : List HI}, parIs n es = some l → PA (X.suite a ((a, oe) :: pn)) es (tHIs X.K a cls dd j l)
  | [], l, h => by
    cases h
    exact pa_nil
  | e :: r, l, h => by
    unfold parIs at h
    split at h
    · rename_i i l' h1 h2
      cases h
      have z := pe_HI (a := a) (pn := pn) hz hf hj h1
      exact pa_cons z.1 (pa_HI hz hf hj h2) (z.2 _ _)
    · cases h
def tHX (K : PySem.W.Frag) (a : Addr) (cls : Value) (dd : Option Addr) (j : Option Nat) : HX → TE
  | .one i => tHI K a cls dd j i
  | .tup l => tTup (tHIs K a cls dd j l)
theorem pe_HX (hz : Zc cls dd oe) (hf : ∃ vs, oe.data = .fields vs) (hj : SlotOf X n j) {e : Expr} {x : HX} (h : parX n e = some x) : PE (X.suite a ((a, oe) :: pn)) e (tHX X.K a cls dd j x) := by
  unfold parX at h
  split at h
  · obtain ⟨l, h1, h2⟩ := Option.map_eq_some_iff.mp h
    subst h2
    exact pe_tup (pa_HI hz hf hj h1)
  · obtain ⟨l, h1, h2⟩ := Option.map_eq_some_iff.mp h
    subst h2
    exact (pe_HI hz hf hj h1).1
/-! what they tell -/
variable {mg : Str → Option Value} {K : PySem.W.Frag} {H : Hp} {ad : Pl} {x : Xn} {k : Cls} {cl : List Cls} {μ : Mu}
theorem lookup_zip {α : Type} [BEq α] {β γ : Type} {R : β → γ → Prop} {f : α} : ∀ {l : List (α × β)} {m : List (α × γ)} {c : γ}, l.map (·.1) = m.map (·.1) → (∀ (i : Nat) (c : γ), (m.map (·.2))[i]? = some c → ∃ b, (l.map (·.2))[i]? = some b ∧ R b c) → m.lookup f = some c → ∃ b, l.lookup f = some b ∧ R b c
  | [], [], _, _, _, h => nomatch h
  | [], _ :: _, _, e, _, _ => nomatch e
  | _ :: _, [], _, e, _, _ => nomatch e
  | (p, b) :: l, (q, d) :: m, c, e, w, h => by
    injection e with e1 e2
    have e1 : p = q := e1
    subst e1
    rw [List.lookup_cons] at h ⊢
    cases hb : f == p with
    | true =>
      rw [hb] at h
      cases h
      obtain ⟨b', h1, h2⟩ := w 0 d rfl
      cases h1
      exact ⟨_, rfl, h2⟩
    | false =>
      rw [hb] at h
      exact lookup_zip e2 (fun i c hc => w (i + 1) c hc) h
theorem hi_ok (ok : ClsOk mg K cl) (hk : clsOf cl x.c = some k) (xp : Xp mg K H ad x cls dd) {i : HI} {d : D} (hs : ∀ d, i = .con d → scD d = true) (h : hiV k x i = some d) {σ : L2.St} (hσ : ∀ f, i = .fld f → ∃ t, j = some t ∧ σ[t]? = some (some (.ref a))) :
    ∃ v, Rp K H ad v d ∧ ∀ Q : VK, Q v H → tHI K a cls dd j i σ H Q := by
  cases i with
  | con d' =>
    cases h
    have z := hs d rfl
    refine ⟨scV d, ?_, fun Q q => q⟩
    cases d with
    | non => exact .non
    | bl b => exact .bl b
    | int i => exact .int i
    | str x => exact .str x
    | _ => exact (Bool.false_ne_true z).elim
  | fld f =>
    have h : (if k.fs.contains f = true then x.fs.lookup f else none) = some d := h
    by_cases c : k.fs.contains f = true
    · rw [if_pos c] at h
      obtain ⟨km, kx⟩ := clsOf_ok hk
      obtain ⟨C, e1, e2, e3⟩ := xp
      rcases e3 with z | ⟨da, fv, z1, z2, z3, z4, z5⟩
      · rw [z] at h; cases h
      · have fm := List.contains_iff_mem.mp c
        obtain ⟨T, no⟩ := ok.xf k km (fun z => by rw [z] at fm; cases fm) C (by rw [kx]; exact e1)
        obtain ⟨t, t1, t2⟩ := hσ f rfl
        obtain ⟨v, l1, l2⟩ := lookup_zip (R := fun v d => Rp K H ad v d) z4 (fun i c hc => z5.get hc) h
        exact ⟨v, l2, fun Q q => ⟨t, C, da, fv, v, t1, e2, T, no f fm, t2, z1, z2, l1, q⟩⟩
    · rw [if_neg c] at h
      cases h
def HI.sc : HI → Bool
  | .con d => scD d
  | .fld _ => true
theorem his_ok (ok : ClsOk mg K cl) (hk : clsOf cl x.c = some k) (xp : Xp mg K H ad x cls dd) {σ : L2.St} : ∀ {l : List HI} {ds : List D}, l.all HI.sc = true → (∀ f, HI.fld f ∈ l → ∃ t, j = some t ∧ σ[t]? = some (some (.ref a))) → hisV k x l = some ds →
    ∃ vs, Rps K H ad vs ds ∧ ∀ Q : List V → Hp → Prop, Q vs H → tHIs K a cls dd j l σ H Q
  | [], ds, _, _, h => by
    cases h
    exact ⟨[], .nil, fun Q q => q⟩
  | i :: l, ds, hs, hσ, h => by
    unfold hisV at h
    split at h
    · rename_i d ds' h1 h2
      cases h
      rw [List.all_cons, Bool.and_eq_true] at hs
      obtain ⟨v, r1, q1⟩ := hi_ok (a := a) (σ := σ) ok hk xp (fun d e => by subst e; exact hs.1) h1 fun f e => hσ f (by rw [e]; exact List.mem_cons_self)
      obtain ⟨vs, r2, q2⟩ := his_ok ok hk xp hs.2 (fun f e => hσ f (List.mem_cons_of_mem _ e)) h2
      exact ⟨v :: vs, .cons r1 r2, fun Q q => q1 _ (q2 _ q)⟩
    · cases h
def HX.sc : HX → Bool
  | .one i => i.sc
  | .tup l => l.all HI.sc
def HX.its : HX → List HI
  | .one i => [i]
  | .tup l => l
theorem hx_ok {Z : Wd} {H0 : Hp} {ad0 : Pl} (hZ : Z.K = K) (ok : ClsOk mg K cl) (hk : clsOf cl x.c = some k) (n : Nx K H0 ad0 H ad μ) (xp : Xp mg K H ad x cls dd) {σ : L2.St} {e : HX} {Q : VK} (hs : e.sc = true) (hσ : ∀ f, HI.fld f ∈ e.its → ∃ t, j = some t ∧ σ[t]? = some (some (.ref a)))
    (h : Sat (hxV k x e μ) (KE Z H0 ad0 Q) (XW Z H0 ad0)) : tHX K a cls dd j e σ H Q := by
  subst hZ
  cases e with
  | one i =>
    obtain ⟨d, h1, h2⟩ := sat_lft.mp h
    obtain ⟨v, r, q⟩ := hi_ok (a := a) (σ := σ) ok hk xp (fun d e => by subst e; exact hs) h1 fun f e => hσ f (by rw [e]; exact List.mem_cons_self)
    exact q _ (h2 v H ad n r)
  | tup l =>
    have h : Sat (match hisV k x l with
      | some ds => mkT ds μ
      | none => .no) (KE Z H0 ad0 Q) (XW Z H0 ad0) := h
    cases e : hisV k x l with
    | none => rw [e] at h; exact h.elim
    | some ds =>
      rw [e] at h
      obtain ⟨vs, r, q⟩ := his_ok (a := a) ok hk xp hs hσ e
      exact q _ (mkT_ok n.mu r (h.mono (fun _ _ z => z.nx n) fun _ _ z => z.nx n))
end
end PX
namespace PX
open PySem PySem.Spec PyProof.Rows L2
variable [Tabc]
/-! ### 45. a def that hears: its clauses, its call -/
theorem parI_sc {n : Option Str} {e : Expr} {i : HI} (h : parI n e = some i) : i.sc = true := by
  unfold parI at h
  split at h
  · rename_i c k pos
    obtain ⟨d, h1, h2⟩ := Option.map_eq_some_iff.mp h
    subst h2
    cases c <;> cases h1 <;> rfl
  · split at h <;> cases h
    rfl
  · cases h
theorem parIs_sc {n : Option Str} : ∀ {es : List Expr} {l : List HI}, parIs n es = some l → l.all HI.sc = true
  | [], l, h => by cases h; rfl
  | e :: r, l, h => by
    unfold parIs at h
    split at h
    · rename_i i l' h1 h2
      cases h
      rw [List.all_cons, parI_sc h1, parIs_sc h2]
      rfl
    · cases h
theorem parX_sc {n : Option Str} {e : Expr} {x : HX} (h : parX n e = some x) : x.sc = true := by
  unfold parX at h
  split at h <;> obtain ⟨l, h1, h2⟩ := Option.map_eq_some_iff.mp h <;> subst h2
  · exact parIs_sc h1
  · exact parI_sc h1
theorem parI_nm {n : Option Str} {e : Expr} {f : Str} (h : parI n e = some (.fld f)) : n ≠ none := fun z => by
  subst z
  unfold parI at h
  split at h
  · obtain ⟨d, h1, h2⟩ := Option.map_eq_some_iff.mp h
    cases h2
  · split at h
    · rename_i c
      exact absurd c (by simp)
    · cases h
  · cases h
theorem parIs_nm {n : Option Str} {f : Str} : ∀ {es : List Expr} {l : List HI}, parIs n es = some l → HI.fld f ∈ l → n ≠ none
  | [], l, h, m => by cases h; cases m
  | e :: r, l, h, m => by
    unfold parIs at h
    split at h
    · rename_i i l' h1 h2
      cases h
      rcases List.mem_cons.mp m with z | z
      · subst z; exact parI_nm h1
      · exact parIs_nm h2 z
    · cases h
theorem parX_nm {n : Option Str} {e : Expr} {x : HX} {f : Str} (h : parX n e = some x) (m : HI.fld f ∈ x.its) : n ≠ none := by
  unfold parX at h
  split at h <;> obtain ⟨l, h1, h2⟩ := Option.map_eq_some_iff.mp h <;> subst h2
  · exact parIs_nm h1 m
  · rw [← List.mem_singleton.mp m] at h1
    exact parI_nm h1
/-- what a clause must have -/
def okName (y : Str) : Bool := !(y == ("__debug__" : Str)) && !(y == ("__classdict__" : Str))
def clauseB (cl : List Cls) (Ng : List Str) (sg : Scope) (p : Str × Option Str × HX) : Bool :=
  sg.names.lookup p.1 == some .globalImplicit && okName p.1 && (clsOf cl p.1).isSome && (match p.2.1 with
    | none => true
    | some y => (ixOf Ng y).isSome && sg.names.lookup y == some .local && okName y)
def mixL (mg : Str → Option Value) (K : PySem.W.Frag) (Ng : List Str) (l : List (Str × Option Str × HX)) : List (Value × Option Nat × Suit) :=
  l.map fun p => ((mg p.1).getD .none, p.2.1.bind (ixOf Ng), fun a cls dd => tRet (tHX K a cls dd (p.2.1.bind (ixOf Ng)) p.2.2))
theorem clause_ok {cl : List Cls} {Ng : List Str} {sg : Scope} {p : Str × Option Str × HX} (h : clauseB cl Ng sg p = true) : sg.names.lookup p.1 = some .globalImplicit ∧ (p.1 == ("__debug__" : Str)) = false ∧ (∃ k, clsOf cl p.1 = some k) ∧
    ∀ y, p.2.1 = some y → ∃ i, ixOf Ng y = some i ∧ sg.names.lookup y = some .local ∧ (y == ("__debug__" : Str)) = false ∧ (y == ("__classdict__" : Str)) = false := by
  unfold clauseB okName at h
  simp only [Bool.and_eq_true, beq_iff_eq, Bool.not_eq_true'] at h
  obtain ⟨⟨⟨h1, h2, _⟩, h3⟩, h4⟩ := h
  refine ⟨h1, h2, Option.isSome_iff_exists.mp h3, fun y e => ?_⟩
  rw [e] at h4
  simp only [Bool.and_eq_true, beq_iff_eq, Bool.not_eq_true'] at h4
  obtain ⟨⟨h5, h6⟩, h7, h8⟩ := h4
  obtain ⟨i, hi⟩ := Option.isSome_iff_exists.mp h5
  exact ⟨i, hi, h6, h7, h8⟩
theorem mix_of {X : Cx} {cl : List Cls} (ok : ClsOk X.mg X.K cl) : ∀ {hds : List ExceptHandler} {l : List (Str × Option Str × HX)}, parH hds = some l → (∀ p ∈ l, clauseB cl X.N X.env.scope p = true) → MixOk X hds (mixL X.mg X.K X.N l)
  | [], l, h, _ => by
    cases h
    exact .nil
  | hd :: r, l, h, w => by
    unfold parH at h
    split at h
    · rename_i heq
      cases heq
    · rename_i x np n e rp hp r' heq
      cases heq
      split at h
      · rename_i e' l' h1 h2
        cases h
        have c := clause_ok (w (x, n, e') List.mem_cons_self)
        have ih := mix_of ok h2 fun p hp => w p (List.mem_cons_of_mem _ hp)
        obtain ⟨c1, c2, ⟨k, c3⟩, c4⟩ := c
        obtain ⟨km, kx⟩ := clsOf_ok c3
        obtain ⟨C, hC⟩ := ok.at_ k km
        have hC : X.mg x = some (.ref C) := by rw [← hC, kx]
        have hn : Names X x ((X.mg x).getD .none) := ⟨c1, c2, .inl (by rw [hC]; rfl)⟩
        cases n with
        | none => exact .bare hn (fun a oe cls d pn hz hf => pss_one (ps_ret (pe_HX (n := none) hz hf trivial h1))) ih
        | some y =>
          obtain ⟨i, i1, i2, i3, i4⟩ := c4 y rfl
          have e : (some y : Option Str).bind (ixOf X.N) = some i := i1
          show MixOk X _ (((X.mg x).getD .none, (some y : Option Str).bind (ixOf X.N), fun a cls dd => tRet (tHX X.K a cls dd ((some y : Option Str).bind (ixOf X.N)) e')) :: mixL X.mg X.K X.N l')
          rw [e]
          exact .named hn (ixOf_ok i1) i2 (fun a oe cls d pn hz hf => pss_one (ps_ret (pe_HX (n := some y) hz hf ⟨i, rfl, ixOf_ok i1, i2, i3, i4⟩ h1))) ih
      · cases h
    · cases h
theorem goS_at {i : Nat} {a : Addr} {σ : L2.St} (h : i < σ.length) : (goS (some i) a σ)[i]? = some (some (.ref a)) := by
  show (σ.set i (some (.ref a)))[i]? = _
  rw [List.getElem?_set_self h]
theorem wmix_ok {Z : Wd} {cl : List Cls} (ok : ClsOk Z.mg Z.K cl) {Ng : List Str} {sg : Scope} {H0 H : Hp} {ad0 ad : Pl} {μ : Mu} {x : Xn} {cls : Value} {dd : Option Addr} {k : Cls} {σ : L2.St} {D : Ends} {Wout : WX} (n : Nx Z.K H0 ad0 H ad μ) (hk : clsOf cl x.c = some k) (xp : Xp Z.mg Z.K H ad x cls dd) (hσ : σ.length = Ng.length) :
    ∀ {hds : List ExceptHandler} {l : List (Str × Option Str × HX)}, parH hds = some l → (∀ p ∈ l, clauseB cl Ng sg p = true) → Sat (hdX cl k x (l.map fun p => (p.1, p.2.2)) μ) (KE Z H0 ad0 D.rt) (XW Z H0 ad0) → wMix Z.K Wout D (mixL Z.mg Z.K Ng l) cls dd σ H
  | [], l, h, _, q => by
    cases h
    exact q.elim
  | hd :: r, l, h, w, q => by
    unfold parH at h
    split at h
    · rename_i heq
      cases heq
    · rename_i y np m e rp hp r' heq
      cases heq
      split at h
      · rename_i e' l' h1 h2
        cases h
        obtain ⟨c1, c2, ⟨k', c3⟩, c4⟩ := clause_ok (w (y, m, e') List.mem_cons_self)
        obtain ⟨km', kx'⟩ := clsOf_ok c3
        obtain ⟨km, kx⟩ := clsOf_ok hk
        obtain ⟨C', hC'⟩ := ok.at_ k' km'
        have ec : (Z.mg y).getD .none = .ref C' := by
          have kx' : k'.x = y := kx'
          rw [← kx', hC']
          rfl
        obtain ⟨C, x1, x2, _⟩ := id xp
        have hs := ok.sub k km k' km' C C' (by rw [kx]; exact x1) hC'
        have kx' : k'.x = y := kx'
        rw [kx'] at hs
        have q : Sat ((if (clsOf cl y).isSome = true then (if k.up.contains y = true then hxV k x e' else hdX cl k x (l'.map fun p => (p.1, p.2.2))) else stk : M PX.D) μ) (KE Z H0 ad0 D.rt) (XW Z H0 ad0) := q
        have c3 : clsOf cl y = some k' := c3
        rw [c3, if_pos (show (some k' : Option Cls).isSome = true from rfl)] at q
        refine ⟨k.up.contains y, by show PySem.W.exmOne Z.K cls ((Z.mg y).getD .none) = _; rw [ec, x2]; exact hs, fun hb a ha => ?_, fun hb => ?_⟩
        · rw [if_pos hb] at q
          have fin : ∀ (i : Option Nat), i = m.bind (ixOf Ng) → tHX Z.K a cls dd i e' (goS i a σ) H D.rt := fun i ei => by
            refine hx_ok rfl ok hk n xp (parX_sc h1) (fun f hf => ?_) q
            have nn := parX_nm h1 hf
            cases m with
            | none => exact (nn rfl).elim
            | some y2 =>
              obtain ⟨i2, i3, _⟩ := c4 y2 rfl
              have ei : i = ixOf Ng y2 := ei
              rw [i3] at ei
              subst ei
              exact ⟨i2, rfl, goS_at (by rw [hσ]; exact (List.getElem?_eq_some_iff.mp (ixOf_ok i3)).1)⟩
          have z := fin _ rfl
          show tHX Z.K a cls dd (m.bind (ixOf Ng)) e' (goS (m.bind (ixOf Ng)) a σ) H (goD (m.bind (ixOf Ng)) D).rt
          have er : (goD (m.bind (ixOf Ng)) D).rt = D.rt := by cases m.bind (ixOf Ng) <;> rfl
          rw [er]
          exact z
        · have hb2 : ¬ k.up.contains y = true := by
            intro z
            have hb : k.up.contains y = false := hb
            rw [z] at hb
            cases hb
          rw [if_neg hb2] at q
          exact wmix_ok ok n hk xp hσ h2 (fun p hp => w p (List.mem_cons_of_mem _ hp)) q
      · cases h
    · cases h
/-- what a maker's def must have: its code object, its table -/
structure Lamb (X : Cx) : Prop where
  ex : ∃ c P, X.env.code = .ref c ∧ LamX.TabB X.base X.mg c P ∧ (P, X.env.qual ++ "<lambda>") ∈ Tabc.T ∧ ∀ p ∈ Tabc.T, p.1 = P → p.2 = X.env.qual ++ "<lambda>"
theorem ext_nx {K : PySem.W.Frag} {H H1 : Hp} {ad : Pl} {μ : Mu} (m : MuOk K H ad μ) (e : LamX.ExtN H H1) (l : ∀ b, H1 b = none → H b = none) (t : LamX.Tabs Tabc.T H1) : Nx K H ad H1 ad μ := by
  have g : Grow H ad H1 ad := ⟨⟨[], Pl.add_nil.symm, by simp⟩, fun b o _ nt q => e b o q nt, l⟩
  refine ⟨g, m.to g.std rfl (fun a ha => ?_) (fun b hb => ⟨fun z => (m.prn b hb).1 (l b z), (m.prn b hb).2⟩) t⟩
  obtain ⟨u, h1, h2⟩ := m.nt ha
  rw [h1]
  exact e a u h1 h2.1
section
variable {X : Cx} {W : WX} {cl : List Cls} {g : Addr} {x a : Str} {k : Nat} {pg params : Arguments} {bg : List Stmt} {sg scope : Scope} {dV kV doc pm cdv ct oc : Value} {an od : Option Addr} {osl : Array (Option Value)} {Ng : List Str} {body : Expr} {p lpos pos : Pos} {ds : List (Str × Int)} {vs : List Nat} {hs : List (Str × Option Str × HX)} {mb : Rho → M D}
theorem x_heard (hN : X.N.Nodup) (ok : ClsOk X.mg X.K cl) (hg : Gl X x) (hm : X.mg x = some (.ref g)) (hk : PySem.W.keepIn X.K (.ref g) = true) (lk : X.K.lookup g = some ⟨oc, od, .func (PySem.W.fnOf x x pg bg sg dV kV doc pm an cdv ct), osl⟩)
    (hcg : PySem.W.codeIn X.K cdv x = true) (hbd : ∀ (s : Shared) (u : Value), BindsTo s (PySem.W.fnOf x x pg bg sg dV kV doc pm an cdv ct) ⟨[u], []⟩ [(a, u)]) (Sg : FnScope Ng [a] sg) (hva : sg.names.lookup a = some .local) (hoa : okName a = true) (hbg : hearB bg = some (a, hs)) (hhs : ∀ p ∈ hs, clauseB cl Ng sg p = true)
    (LB : Lamb X) (hr : Room (k + 2) X.A) (hf : lamForm params = some ds) (L : LmS X.env.scope scope ds) (hw : ∀ i y, X.N[i]? = some y → scope.names.lookup y = some .local → i ∈ vs)
    (hbody : ∀ (A : Around) (outer : List Env) (s : Shared) (H : Hp) (E : XK) (f c' : Addr), Room k (A.deeper (LamX.lamEnv X scope s.heap.objs.size f c')) → A.guards = X.A.guards → PE (LamX.lamCx X A outer s H E scope f c') body (tE ⟨X.K, X.mg, fun cls d _ H => E cls d H, X.N.length⟩ mb))
    (hdb : (x == ("__debug__" : Str)) = false) :
    PE X (.Call (.Name x p) [.Lambda params body scope lpos] [] pos) (tE ⟨X.K, X.mg, W, X.N.length⟩ fun ρ => hdM cl (hs.map fun p => (p.1, p.2.2)) (mb (wipeD ρ vs))) := by
  refine ⟨fun pins s σ H Q I ⟨ad, ρ, μ, gd, hl, q⟩ => ?_⟩
  obtain ⟨c, P, hcode, TB, hmT, hu⟩ := LB.ex
  refine wpAny_Call_Name_kw (ld_glob I hg hm ?_ hdb)
  refine PySem.W.callWith_K (h₀ := X.base) I.ok.mod.kin hk ?_ (by rfl) (by rfl)
  show wpAny _ _ (spliced ((false, eval (.Lambda params body scope lpos) X.env) :: backTo pos (starEach [] X.env))) _ _ s
  refine Calls.spliced_cons (lam_made I TB hcode hmT hu gd.mu.tabs (L.has I.ok) hf fun f c' dV' doc' pm' ct' H1 s' I1 eN nn T1 O => ?_)
  refine Calls.spliced_nil ⟨I1.kIn, ?_⟩
  have n1 := ext_nx gd.mu eN nn T1
  have g1 := gd.nx n1
  have q1 : Sat (hdM cl (hs.map fun p => (p.1, p.2.2)) (mb (wipeD ρ vs)) μ) (KE ⟨X.K, X.mg, W, X.N.length⟩ H1 ad Q) (XW ⟨X.K, X.mg, W, X.N.length⟩ H1 ad) := q.mono (fun _ _ z => z.nx n1) fun _ _ z => z.nx n1
  have rc : codeAny (model X.prog X.w) X.A (.call (.ref g) ⟨[.ref f], []⟩) (CR C8.CX0 X.stack X.prog X.w H1 s' Q C8.E0) s' := by
    refine LamX.run_ofS (N := Ng) (ps := [a]) (us := [.ref f]) (vs := [.ref f]) lk hcg Sg hr I1.env0 (hbd s' (.ref f)) (.cons rfl .nil) rfl fun hr' => ?_
    unfold hearB at hbg
    split at hbg
    · rename_i a' p1 p2 p3 p4 h0 hds p5
      obtain ⟨l, hp, el⟩ := Option.map_eq_some_iff.mp hbg
      cases el
      have ha0 : Ng[0]? = some a := by
        have z := Sg.pre
        cases Ng with
        | nil => cases z
        | cons y r =>
          injection z with z1 z2
          rw [z1]
          rfl
      have hoa' : (a == ("__debug__" : Str)) = false ∧ (a == ("__classdict__" : Str)) = false := by
        unfold okName at hoa
        simp only [Bool.and_eq_true, Bool.not_eq_true'] at hoa
        exact hoa
      have mx := mix_of (X := (cxOf C8.CX0 X.prog X.w X.K X.mg X.base Ng x sg g cdv X.A X.stack s' H1 C8.E0).nox) ok hp hhs
      have lenS : (L2.start Ng [V.ref f]).length = Ng.length := by
        have : 0 < Ng.length := (List.getElem?_eq_some_iff.mp ha0).1
        simp [L2.start]
        omega
      refine ⟨_, PSs.nox (pss_one (ps_try_mix (X := (cxOf C8.CX0 X.prog X.w X.K X.mg X.base Ng x sg g cdv X.A X.stack s' H1 C8.E0).nox) (Wout := fun _ _ _ _ => False)
        (tb := fun W' D σ2 H2 => σ2[0]? = some (some (.ref f)) ∧ H2 c' = some (LamX.CodeO c' (X.env.qual ++ "<lambda>")) ∧ tE ⟨X.K, X.mg, fun cls d _ H => WE W' σ2 cls d H, X.N.length⟩ mb (L2.wipe σ vs) H2 fun v H3 => ∀ p, H3 p = none → D.rt (.ref p) (upd H3 p (.lst [v])))
        rfl rfl Sg.nd LamX.takes0 (fun W' pn xe tk _ => ?_) mx)), ?_⟩
      · refine ⟨fun pins2 s2 σ2 H2 D2 I2 h2 => ?_⟩
        have act := lm_act (CXg := C8.CX0) (Eg := C8.E0) (tb := fun E => tE ⟨X.K, X.mg, fun cls d _ H => E cls d H, X.N.length⟩ mb) (p1 := p1) (p2 := p2) (i := 0) I1 L hf hw O tk hr' (fun A outer s H E hr3 hgu => hbody A outer s H E f c' hr3 hgu) ha0 (.inl hva) hoa'.1 hoa'.2
        have st := pss_one (ps_ret (pos := p4) (pe_lst (pos := p3) (pa_cons act pa_nil)))
        refine st.run pins2 s2 σ2 H2 D2 I2 ⟨h2.1, h2.2.1, ?_⟩
        obtain ⟨ad2, ρ2, μ2, a1, a2, a3⟩ := h2.2.2
        refine ⟨ad2, ρ2, μ2, a1, a2, a3.imp fun d μ3 z v H3 ad3 n3 r3 => ?_⟩
        exact ⟨by show 1 ≤ sizeLine; rw [sizeLine_eq]; omega, z v H3 ad3 n3 r3⟩
      · refine ⟨rfl, O.cod, ad, wipeD ρ vs, μ, g1.wipe vs, by rw [L2.wipe_length]; exact hl, ?_⟩
        unfold hdM at q1
        cases hq : mb (wipeD ρ vs) μ with
        | ok d μ' =>
          rw [hq] at q1
          intro v H3 ad3 n3 r3 p hp3
          exact q1 (.ref p) _ ad3 (n3.trans (n3.mu.new hp3)) (.newLst n3.mu hp3 (.cons r3 .nil))
        | ex x' μ' =>
          rw [hq] at q1
          intro cls dd σ' H3 ad3 _ n3 xp
          have q1 : Sat ((match clsOf cl x'.c with
            | some k => hdX cl k x' (hs.map fun p => (p.1, p.2.2)) μ'
            | none => .no : R PX.D)) _ _ := q1
          cases hx : clsOf cl x'.c with
          | none => rw [hx] at q1; exact q1.elim
          | some k' =>
            rw [hx] at q1
            exact wmix_ok (Z := ⟨X.K, X.mg, W, X.N.length⟩) ok (sg := sg) n3 hx xp lenS hp hhs q1
        | no => rw [hq] at q1; exact q1.elim
    · cases hbg
  refine wpAny_call (codeAny_mono rc fun r s2 hq => ?_)
  cases r with
  | error e => exact (show False from hq).elim
  | ok fl =>
    cases fl with
    | ret u => exact I1.after hq
    | next => exact False.elim hq
    | brk => exact False.elim hq
    | cont => exact False.elim hq
end
end PX
namespace PX
open PySem PySem.Spec PyProof.Rows L2
variable [Tabc]
/-! ### 46. an exception is raised -/
/-- a made exception with fields -/
structure Mde (h h' : Heap) (e d C : Addr) (fs : List Str) (us : List Value) : Prop where
  keep : ∀ b o, h.get? b = some o → h'.get? b = some o
  new : h.objs.size ≤ e
  dnew : h.objs.size ≤ d
  dne : d ≠ e
  obj : ∃ t1 : Addr, h'.get? e = some { cls := .ref C, dict := some d, data := .fields #[.ref t1, .none, .none, .none, .bool false, .none] }
  ns : h'.Ns1 d fun y => (fs.zip us).lookup y
/-- the class called with its fields -/
def ClsMk (P : Program) (w : World) (K : PySem.W.Frag) (C : Addr) (fs : List Str) : Prop :=
  ∀ (kwd : Bool) (A : Around) (R : Result → Shared → Prop) (s : Shared) (us : List Value) (mg : Str → Option Value), Mod K mg s.heap → A.depth + 4 < recursionLimit → us.length = fs.length →
    (∀ h' tk e d, Mde s.heap h' e d C fs us → R (.ok (.ret (.ref e))) { s with heap := h', toks := tk }) → codeAny (model P w) A (.call (.ref C) ⟨if kwd then [] else us, if kwd then fs.zip us else []⟩) R s
theorem mod_keep {K : PySem.W.Frag} {mg : Str → Option Value} {b h : Heap} (M : Mod K mg b) (k : ∀ a o, b.get? a = some o → h.get? a = some o) : Mod K mg h := by
  obtain ⟨mb, h1, h2⟩ := M.blt
  exact ⟨M.kin.keeps k, M.glob.keeps k, ⟨mb, h1.keeps k, h2⟩, M.nolimit.keeps k⟩
abbrev veMro : List Value := [.type "ValueError", .type "Exception", .type "BaseException", .type "object"]
/-- what a raise needs of the classes -/
structure ClsUp (P : Program) (w : World) (mg : Str → Option Value) (K : PySem.W.Frag) (cl : List Cls) : Prop where
  kp : ∀ k ∈ cl, ∀ C, mg k.x = some (.ref C) → PySem.W.keepIn K (.ref C) = true ∧ PySem.W.subIn K (.ref C) (.type "BaseException") = some true ∧ PySem.W.typeIn K (.ref C) = some (.type "type")
  own : ∀ k ∈ cl, k.fs = [] → ∀ C, mg k.x = some (.ref C) → PySem.W.excIn K C veMro "ValueError.__new__" = true
  made : ∀ k ∈ cl, k.fs ≠ [] → ∀ C, mg k.x = some (.ref C) → ClsMk P w K C k.fs
def raiM (k : Cls) (ms : List (Rho → M D)) (ρ : Rho) : M Fl := bd (evA ms ρ) fun ds => fun μ => if ds.length = k.fs.length then .ex ⟨k.x, k.fs.zip ds⟩ μ else .no
section
variable {X : Cx} {W : WX} {k : Cls} {cl : List Cls} {n : Nat} {p cpos pos : Pos}
theorem pmk_own0 {C : Addr} {x : Str} (q : PySem.W.excIn X.K C veMro "ValueError.__new__" = true) (gC : X.mg x = some (.ref C)) (kC : PySem.W.keepIn X.K (.ref C) = true) (r : Raises X (.ref C)) (hg : Gl X x) (hdb : (x == ("__debug__" : Str)) = false) :
    PMk X (.Call (.Name x p) [] [] cpos) (fun _ H Q => Q (.ref C) none H) := by
  intro pins s σ H Q I h
  refine wpAny_Call_Name_kw (ld_glob I hg gC ?_ hdb)
  refine PySem.W.callWith_K0 I.kIn kC ?_
  show wpAny _ _ (call (.ref C) []) _ _ _
  obtain ⟨bm, N, nm, qn, bs, hdct, sn, sub, ab, col, dd, k0, k1, k2, k3, k5, mN, hC, hN, hni, T⟩ := exc_obj I.kIn q
  exact wpAny_call_exc_subT F.excBase_ValueError T hC hN hni (fun h' e hm => mk_of I hm r h (I.hok.gone hm.new)) (Nat.zero_le _)
theorem lookup_rel : ∀ {fs : List Str} {vs : List V} {us : List Value} (f : Str), Vals vs us → RelO ((fs.zip vs).lookup f) ((fs.zip us).lookup f)
  | [], _, _, _, _ => trivial
  | _ :: _, [], [], _, _ => trivial
  | y :: fs, v :: vs, u :: us, f, .cons r rs => by
    rw [List.zip_cons_cons, List.zip_cons_cons, List.lookup_cons, List.lookup_cons]
    cases f == y with
    | true => exact r
    | false => exact lookup_rel f rs
theorem pmk_ownF {C : Addr} {x : Str} {fs : List Str} {e : Expr} {es : List Expr} {t : TA} (mk : ClsMk X.prog X.w X.K C fs) (hr : Room n X.A) (gC : X.mg x = some (.ref C)) (kC : PySem.W.keepIn X.K (.ref C) = true) (r : Raises X (.ref C)) (hg : Gl X x) (hdb : (x == ("__debug__" : Str)) = false)
    (ha : PA X (e :: es) t) (he : starEach (e :: es) X.env = (false, eval e X.env) :: starEach es X.env) (hpl : (backTo cpos (starEach es X.env)).any (·.1) = false) :
    PMk X (.Call (.Name x p) (e :: es) [] cpos) (fun σ H Q => t σ H fun vs H1 => vs.length = fs.length ∧ ∀ d, H1 d = none → Q (.ref C) (some d) (upd H1 d (.xd (fs.zip vs)))) := by
  intro pins s σ H Q I h
  refine wpAny_Call_Name_kw (ld_glob I hg gC ?_ hdb)
  refine PySem.W.callWith_K (h₀ := X.base) I.ok.mod.kin kC (thn (ha.run cpos pins s σ H _ I h) fun us s1 ⟨vs, H1, I1, r1, lz, q1⟩ => ⟨I1.kIn, ?_⟩) he hpl
  show wpAny _ _ (call (.ref C) us) _ _ _
  have hmod := mod_keep I1.ok.mod I1.bk
  obtain ⟨hp, g, dr, tk, os⟩ := s1
  refine wpAny_call (mk false X.A _ ⟨hp, g, dr, tk, os⟩ us _ hmod (by have := hr.dp; omega) (by rw [← r1.length]; exact lz) fun h' tk' e d M => ?_)
  show MkP X pins σ Q (.ref e) ⟨h', g, dr, tk', os⟩
  obtain ⟨t1, hoe⟩ := M.obj
  obtain ⟨G', g1, g2⟩ := restrict h' fun b => decide (b ≠ e)
  have gk : ∀ b, b ≠ e → G'.get? b = h'.get? b := fun b hb => g1 b (decide_eq_true hb)
  have ge : G'.get? e = none := g2 e (by simp)
  have old : ∀ b o, hp.get? b = some o → G'.get? b = some o := fun b o q => (gk b (Nat.ne_of_lt (Nat.lt_of_lt_of_le (Heap.lt_size q) M.new))).trans (M.keep b o q)
  have ob : ObjOk X.prog X.w (upd H1 d (.xd (fs.zip vs))) G' d (.xd (fs.zip vs)) := ⟨_, M.ns.at (fun o q => (gk d M.dne).trans q), fun f => lookup_rel f r1⟩
  have J : Inv X pins σ (upd H1 d (.xd (fs.zip vs))) ⟨G', g, dr, tk', os⟩ := I1.laid (t' := tk') old M.dnew ob
  refine ⟨e, _, _, ⟨G', g, dr, tk', os⟩, _, .ref C, some d, rfl, J, fun b o q => ?_, ge, hoe, ⟨rfl, rfl⟩, rfl, rfl, ?_, rfl, I1.bare, r, q1 d (I1.hok.fresh M.dnew)⟩
  · by_cases hb : b = e
    · have q' : G'.get? b = some o := q
      rw [hb, ge] at q'
      cases q'
    · exact (gk b hb).symm.trans q
  · rw [upd_ne (Ne.symm M.dne)]
    exact I1.hok.fresh M.new
variable {Z : Wd}
theorem s_raise0 (hc : X.calm = true) (tk : Takes X Z.W) (hK : Z.K = X.K) (hmg : Z.mg = X.mg) (ok : ClsOk X.mg X.K cl) (up : ClsUp X.prog X.w X.mg X.K cl) (hk : k ∈ cl) (h0 : k.fs = []) (hg : Gl X k.x) (hdb : (k.x == ("__debug__" : Str)) = false) :
    PS X (.Raise (some (.Call (.Name k.x p) [] [] cpos)) none pos) (tS Z (raiM k [])) := by
  obtain ⟨C, gC⟩ := ok.at_ k hk
  obtain ⟨k1, k2, k3⟩ := up.kp k hk C gC
  refine PSi (ps_raise hc tk (pmk_own0 (up.own k hk h0 C gC) gC k1 (raises_own k2 k3) hg hdb)) fun E σ H ⟨ad, ρ, μ, g, hl, q⟩ => ?_
  have q : Sat ((if ([] : List D).length = k.fs.length then .ex ⟨k.x, k.fs.zip []⟩ μ else .no : R Fl)) (KS Z H ad E) (XW Z H ad) := q
  rw [if_pos (show ([] : List D).length = k.fs.length by rw [h0]; rfl), h0] at q
  exact q _ none σ H ad hl (.refl g.mu) ⟨C, by rw [hmg]; exact gC, rfl, .inl rfl⟩
theorem s_raiseF {e : Expr} {es : List Expr} {ms : List (Rho → M D)} (hc : X.calm = true) (tk : Takes X Z.W) (hK : Z.K = X.K) (hmg : Z.mg = X.mg) (ok : ClsOk X.mg X.K cl) (up : ClsUp X.prog X.w X.mg X.K cl) (hk : k ∈ cl) (h0 : k.fs ≠ []) (hr : Room n X.A) (hg : Gl X k.x) (hdb : (k.x == ("__debug__" : Str)) = false)
    (ha : PA X (e :: es) (tA Z (evA ms))) (he : starEach (e :: es) X.env = (false, eval e X.env) :: starEach es X.env) (hpl : (backTo cpos (starEach es X.env)).any (·.1) = false) :
    PS X (.Raise (some (.Call (.Name k.x p) (e :: es) [] cpos)) none pos) (tS Z (raiM k ms)) := by
  obtain ⟨C, gC⟩ := ok.at_ k hk
  obtain ⟨k1, k2, k3⟩ := up.kp k hk C gC
  refine PSi (ps_raise hc tk (pmk_ownF (n := n) (up.made k hk h0 C gC) hr gC k1 (raises_own k2 k3) hg hdb ha he hpl)) fun E σ H ⟨ad, ρ, μ, g, hl, q⟩ => ?_
  refine stepA g hl q fun vs ds H1 ad1 μ1 n1 g1 r1 q1 => ?_
  have q1 : Sat ((if ds.length = k.fs.length then .ex ⟨k.x, k.fs.zip ds⟩ μ1 else .no : R Fl)) (KS Z H ad E) (XW Z H1 ad1) := q1
  by_cases c : ds.length = k.fs.length
  · rw [if_pos c] at q1
    have lv : vs.length = k.fs.length := by rw [r1.length, c]
    refine ⟨lv, fun d hd => ?_⟩
    have n2 : Nx Z.K H1 ad1 (upd H1 d (.xd (k.fs.zip vs))) ad1 μ1 := n1.mu.new hd
    have z1 := zip_fst k.fs vs lv.symm
    have z2 := zip_fst k.fs ds c.symm
    refine q1 _ (some d) σ _ ad1 hl n2 ⟨C, by rw [hmg]; exact gC, rfl, .inr ⟨d, k.fs.zip vs, rfl, upd_same, n1.mu.out hd, ?_, ?_⟩⟩
    · show (k.fs.zip vs).map (·.1) = (k.fs.zip ds).map (·.1)
      rw [z1.1, z2.1]
    · show Rps Z.K _ ad1 ((k.fs.zip vs).map (·.2)) ((k.fs.zip ds).map (·.2))
      rw [z1.2, z2.2]
      exact Rps.grow n2.gr _ _ r1
  · rw [if_neg c] at q1
    exact q1.elim
end
end PX
namespace PySem
namespace PXK
open PySem.HandSPX (refsVE refsVE_contains excO)
open Builtin Builtin.ObjectAttr
section
variable {M : Model} {prog : Program} {w : World} {A : Around} {E : Value → Shared → Prop} {R : Result → Shared → Prop} {h : Heap} {g : Array GenState} {d : Drawn} {t : Nat} {os : OsState}
variable {nm q : Str} {C N : Addr} {bs bm bmB : List Value} {hdct : Bool} {sn : List Str} {sub : List Value} {ab : Bool} {col : Option Bool} {dd : Option Addr} {k0 k1 k2 k3 k5 : Option Value} {B newId initId : String} {kw : List (Str × Value)}
theorem check_new_kw (F : ExcBaseFacts B newId initId bmB) (hT : ∀ X : String, bm.contains (.type X) = bmB.contains (.type X)) {rest : List Value} {Q : Unit → Shared → Prop}
    (hC : h.get? C = some (excClassObj nm q C N bs bm hdct sn sub ab col dd k0 k1 k2 k3 k5 newId)) (hq : Q () ⟨h, g, d, t, os⟩) : wpAny M A (checkBuiltinCall newId ⟨.ref C :: rest, kw⟩) Q E ⟨h, g, d, t, os⟩ := by
  have hcont : (Value.ref C :: bm).contains (.type B) = true := by rw [List.contains_cons, hT, F.hasB, Bool.or_true]
  have hstar := F.noStar
  simp only [checkBuiltinCall, F.newKind, F.newSplit, F.newRow]
  repeat (first | refine wpAny_loadPart_at hC ?_ | (refine wpAny_isSubtype_exc hC ?_; rw [hcont]) | refine wpAny_staticBase_exc hC ?_ | refine wpAny_madeBy_exc hC ?_ | simp only [bne_self_eq_false, Bool.false_eq_true, if_false] | wp_step)
  exact hq
theorem new_kw (F : ExcBaseFacts B newId initId bmB) (hT : ∀ X : String, bm.contains (.type X) = bmB.contains (.type X)) {rest : List Value}
    (hC : h.get? C = some (excClassObj nm q C N bs bm hdct sn sub ab col dd k0 k1 k2 k3 k5 newId))
    (hq : R (.ok (.ret (.ref (h.objs.size + 1)))) ⟨(h.push { cls := .type "tuple", data := .seq rest.toArray }).push
      { cls := .ref C, data := .fields #[.ref h.objs.size, .none, .none, .none, .bool false, .none] }, g, d, t, os⟩) (hrest : rest.length ≤ sizeLine) :
    codeAny (model prog w) A (.builtin newId ⟨.ref C :: rest, kw⟩) R ⟨h, g, d, t, os⟩ := by
  have hends := F.ends
  have hcB : (Value.ref C :: bm).contains (.type B) = true := by rw [List.contains_cons, hT, F.hasB, Bool.or_true]
  have hcA : (Value.ref C :: bm).contains (.type "AttributeError") = false := by rw [List.contains_cons, hT, F.noAttr]; rfl
  have hcN : (Value.ref C :: bm).contains (.type "NameError") = false := by rw [List.contains_cons, hT, F.noName]; rfl
  refine codeAny_builtinAt F.entry ?_
  unfold Builtin.«BaseException.__new__»
  refine wpAt_bind ?_
  show wpAt _ _ _ (stack >>= _) _ _ _
  refine wpAt_bind (wpAt_stack fun p below => wpAt_of_wpAny ?_)
  wp_walk
  refine wpAt_of_wpAny ?_
  rw [F.owner]
  repeat (first | with_reducible refine wpAny_madeHere_exc F.canon hC ?_ | with_reducible refine wpAny_loadPart_at hC ?_ | (with_reducible refine wpAny_isSubtype_exc hC ?_; first | rw [hcB] | rw [hcA] | rw [hcN]) | wp_step)
  show R _ _
  rw [Heap.size_push]
  exact hq
theorem type_call_kw (F : ExcBaseFacts B newId initId bmB) (hT : ∀ X : String, bm.contains (.type X) = bmB.contains (.type X)) {rest : List Value} {fI : Addr} {Q : Fin → Shared → Prop}
    (hC : h.get? C = some (excClassObj nm q C N bs bm hdct sn sub ab col dd k0 k1 k2 k3 k5 newId))
    (hi : W.Looks (model prog w) h (typeLookup (.ref C) "__init__") (some (.ref fI))) (hb : ∀ self, W.Looks (model prog w) h (bindSpecial (.ref fI) self) (.ref fI, [self])) (hrest : rest.length ≤ sizeLine)
    (hq : codeAny (model prog w) A (.call (.ref fI) ⟨.ref (h.objs.size + 1) :: rest, kw⟩)
      (fun r s' => match r with | .ok (.ret v) => v = .none ∧ Q (.done (.ret (.ref (h.objs.size + 1)))) s' | .ok _ => False | .error e => E e s')
      ⟨(h.push (W.kdv_tup rest)).push (excO C h.objs.size), g, d, t, os⟩) :
    wpAny (model prog w) A (Builtin.«type.__call__» ⟨.ref C :: rest, kw⟩) Q E ⟨h, g, d, t, os⟩ := by
  repeat (first | with_reducible refine wpAny_loadPart_at hC ?_ | with_reducible refine wpAny_madeBy_exc hC ?_ | wp_step)
  refine codeAny_call_builtin_code (Code.quiet_builtin _ F.quiet) (check_new_kw F hT hC ?_)
  refine new_kw F hT hC ?_ hrest
  show wpAny _ _ _ _ _ _
  have k : ∀ b o, h.get? b = some o → ((h.push (W.kdv_tup rest)).push (excO C h.objs.size)).get? b = some o := fun b o e => Heap.get?_push_of_some _ (Heap.get?_push_of_some _ e)
  have hC₁ := k _ _ hC
  have hget : ((h.push (W.kdv_tup rest)).push (excO C h.objs.size)).get? (h.objs.size + 1) = some (excO C h.objs.size) := by heap_get
  have hcC : (Value.ref C :: bm).contains (.ref C) = true := by simp
  have i1 := hi.keeps k
  have b1 := (hb (.ref (h.objs.size + 1))).keeps k
  unfold isInstance
  repeat (first | with_reducible refine wpAny_loadPart_at hget ?_ | (with_reducible refine wpAny_isSubtype_exc hC₁ ?_; rw [hcC]) | wp_step)
  show wpAny _ _ (typeLookup (.ref C) _) _ _ _
  refine i1.at ?_
  refine wpAny_holding (wpAny_bind (b1.at ?_))
  refine wpAny_bind (wpAny_call (codeAny_mono hq fun r s' z => ?_))
  rcases r with e | (v | _ | _ | _) <;> first | exact z | exact z.elim | skip
  obtain ⟨rfl, z⟩ := z
  first
    | exact wpAny_pure (wpAny_pure z)
    | (wp_walk; exact z)
theorem call_kw (F : ExcBaseFacts B newId initId bmB) (hT : ∀ X : String, bm.contains (.type X) = bmB.contains (.type X)) {rest : List Value} {fI : Addr}
    (hC : h.get? C = some (excClassObj nm q C N bs bm hdct sn sub ab col dd k0 k1 k2 k3 k5 newId))
    (hi : W.Looks (model prog w) h (typeLookup (.ref C) "__init__") (some (.ref fI))) (hb : ∀ self, W.Looks (model prog w) h (bindSpecial (.ref fI) self) (.ref fI, [self])) (hrest : rest.length ≤ sizeLine)
    (hq : codeAny (model prog w) (A.under (.builtin "type.__call__" ⟨.ref C :: rest, kw⟩)) (.call (.ref fI) ⟨.ref (h.objs.size + 1) :: rest, kw⟩) (W.InitBack (h.objs.size + 1) R)
      ⟨(h.push (W.kdv_tup rest)).push (excO C h.objs.size), g, d, t, os⟩) :
    codeAny (model prog w) A (.call (.ref C) ⟨rest, kw⟩) R ⟨h, g, d, t, os⟩ := by
  have f1 := tc_lookup
  have f2 := tc_bind (.ref C)
  have hTy : (⟨h, g, d, t, os⟩ : Shared).TypeIs (.ref C) "type" := ⟨_, hC, rfl⟩
  refine codeAny_of_tree ?_
  show wpAny _ _ (callAny (.ref C) _) _ _ _
  repeat (any_goals (first | assumption | with_reducible refine wpAny_loadPart_at hC ?_ | wp_step))
  refine ⟨rfl, ?_⟩
  refine codeAny_call_builtin_at (Code.quiet_builtin _ (by decide +kernel)) entry_typeCall (wpAny_check_type_call_sub hC (type_call_kw F hT hC hi hb hrest ?_))
  refine codeAny_mono hq fun r s' z => ?_
  rcases r with e | (v | _ | _ | _) <;> exact z
end
end PXK
end PySem
namespace PX
open PySem PySem.Spec PySem.Calls PyProof.Rows L2
open PySem.W (Frag fnX codeIn findIn typeIn nsIn subIn mroIn ks_superIn)
variable [Tabc]
open PySem.HandSPX (refsVE excO refsVE_contains exc_osa)
/-! ### 47. an own class whose __init__ calls super().__init__ with a text and keeps its fields -/
/-- the __init__ of a class's text -/
def initOf : Stmt → Stmt
  | .ClassDef _ _ _ (s :: _) _ _ _ _ _ _ _ => s
  | s => s
inductive Asgs : List Str → List Stmt → Prop
  | nil : Asgs [] []
  | cons {f : Str} {r : List Str} {l : List Stmt} {p1 p2 p3 p4 : Pos} : Asgs r l → Asgs (f :: r) (.Assign [.Attribute (.Name "self" p1) f p2] (.Name f p3) p4 :: l)
/-- its text -/
structure SupSt (st : Stmt) (fs : List Str) : Prop where
  body : ∃ (t : Str) (k p1 p2 p3 p4 p5 p6 l : _), defBody st = .Expr (.Call (.Attribute (.Call (.Name "super" p1) [] [] p2) "__init__" p3) [.Constant (.str t) k p4] [] p5) p6 :: l ∧ Asgs fs l ∧ (p3.endLine == p5.line) = true
  k1 : (defScope st).kind = .function
  k2 : (defScope st).isCoroutine = false
  k3 : (defScope st).isGenerator = false
  k4 : ∀ x ∈ (defScope st).names, x.2 ≠ .cell
  n1 : (defScope st).names.lookup ("self" : Str) = some .local
  n2 : ∀ f ∈ fs, (defScope st).names.lookup f = some .local
  n3 : (defScope st).names.lookup ("super" : Str) = some .globalImplicit
  n4 : (defScope st).names.lookup ("__class__" : Str) = some .free
  ne : fs ≠ []
  nd : (("self" : Str) :: fs).Nodup
  fd : ∀ f ∈ fs, (f == ("__debug__" : Str)) = false
  few : fs.length ≤ 20
  pa : ∃ ar : Arg, ((defArgs st).posonlyargs ++ (defArgs st).args).head? = some ar ∧ ar.arg = "self"
  bd : ∀ (kwd : Bool) (s : Shared) (q : Str) (kV doc pm cdv ct : Value) (an : Option Addr) (cc : Addr) (x : Value) (us : List Value), us.length = fs.length →
    BindsTo s (fnX "__init__" q (defArgs st) (defBody st) (defScope st) [("__class__", cc)] .none kV doc pm an cdv ct) ⟨x :: (if kwd then [] else us), if kwd then fs.zip us else []⟩ (("self", x) :: fs.zip us)
structure SupTxt (P : Program) (K : Frag) (st : Stmt) (C : Addr) (fs : List Str) : Prop where
  S : SupSt st fs
  cls : ∃ nm q N bs bm sn sub ab col dd k0 k1 k2 k3 k5, K.lookup C = some (excClassObj nm q C N bs bm true sn sub ab col dd k0 k1 k2 k3 k5 "ValueError.__new__") ∧ refsVE bm = true
  sa : findIn K (.ref C) "__setattr__" = some (some (.builtin "object.__setattr__"))
  no : ∀ f ∈ fs, findIn K (.ref C) f = some none
  fn : ∃ (fI cda cc : Addr) (oc kV doc pm ct ccl cl : Value) (od an cdd cld : Option Addr) (osl ccs csl : Array (Option Value)) (q file : Str) (vs : Array Value) (tf : Tok), findIn K (.ref C) "__init__" = some (some (.ref fI)) ∧ typeIn K (.ref fI) = some (.type "function") ∧
    K.lookup fI = some ⟨oc, od, .func (fnX "__init__" q (defArgs st) (defBody st) (defScope st) [("__class__", cc)] .none kV doc pm an (.ref cda) ct), osl⟩ ∧ codeIn K (.ref cda) q = true ∧
    K.lookup cda = some ⟨ccl, cdd, .fields vs, ccs⟩ ∧ vs[2]? = some (.str file tf) ∧ ((P.main.file : Str) == file) = true ∧ K.lookup cc = some ⟨cl, cld, .cell (some (.ref C)), csl⟩
  sup : nsIn K mainGlobals "super" = some none
  top : (P.main.scope.names.lookup ("super" : Str)).isSome = false
  any : nsIn K cStatics "thirdparty.any" = some none
  mi : ks_superIn K C C "__init__" = some (some (.builtin "ValueError.__init__"))
  sC : mroIn K C (.ref C) = some true
  sB : subIn K (.ref C) (.type "ValueError") = some true
section
variable {prog : Program} {w : World} {A : Around} {E : Value → Shared → Prop} {h : Heap} {g : Array GenState} {d : Drawn} {t : Nat} {os : OsState}
variable {nm q : Str} {C N : Addr} {bs bm : List Value} {hdct : Bool} {sn : List Str} {sub : List Value} {ab : Bool} {col : Option Bool} {dd : Option Addr} {k0 k1 k2 k3 k5 : Option Value}
theorem call_mw {u e t0 : Addr} {rest : List Value} {Q : Value → Shared → Prop}
    (hC : h.get? C = some (excClassObj nm q C N bs bm hdct sn sub ab col dd k0 k1 k2 k3 k5 "ValueError.__new__")) (he : h.get? e = some (excO C t0)) (hu : h.get? u = some (PySem.W.kxs_mw "ValueError.__init__" e)) (hrest : rest.length ≤ sizeLine)
    (hq : ∀ h' t1, (∀ b o, b ≠ e → h.get? b = some o → h'.get? b = some o) → h'.get? e = some (excO C t1) → Q .none ⟨h', g, d, t, os⟩) :
    wpAny (model prog w) A (call (.ref u) rest) Q E ⟨h, g, d, t, os⟩ := by
  refine wpAny_call (codeAny_of_tree ?_)
  show wpAny _ A.in1 (callAny (.ref u) ⟨rest, []⟩) _ _ _
  simp only [callAny]
  refine wpAny_bind (wpAny_load hu ?_)
  simp only [PySem.W.kxs_mw, show (Value.type "method-wrapper" == Value.type "method" || Value.type "method-wrapper" == Value.type "builtin_function_or_method" || Value.type "method-wrapper" == Value.type "method-wrapper") = true by decide, if_true]
  refine PySem.W.KFB.if_so (by decide) ?_
  refine wpAny_bind (PySem.ESX.check_bound F.excBase_ValueError hC he rfl ?_)
  refine wpAny_bind (wpAny_pure (wpAny_pure ?_))
  refine ⟨Code.quiet_builtin _ (by decide +kernel), codeAny_builtin F.excBase_ValueError.initEntry ?_⟩
  rw [Around.under_plainId F.excBase_ValueError.init.plain _]
  wp_walk
  refine hq _ h.objs.size (fun b o hb ho => ?_) ?_
  · rw [Heap.get?_update_other _ _ (Ne.symm hb)]
    exact Heap.get?_push_of_some _ ho
  · rw [Heap.get?_update_self _ (Heap.get?_push_of_some _ he) rfl]
    rfl
end
theorem call_eq {o : Expr} {n : Str} {p3 p5 : Pos} {c : Expr} {env : Env} (hpos : (p3.endLine == p5.line) = true) (hs : starEach [c] env = [(false, eval c env)]) : eval (.Call (.Attribute o n p3) [c] [] p5) env = (do
    let ov ← attributeBase o n env (eval o env)
    standAt p3.atName
    let (f, first) ← holding [ov] (getMethod ov n (do return (← importBound o env).getD true))
    callWith p5 f first (backTo p5 (starEach [c] env)) []) := by
  show (do
    let ov ← attributeBase o n env (eval o env)
    standAt p3.atName
    methodCall o n p3 p5 env ov 1 (backTo p5 (starEach [c] env)) []) = _
  have e : ∀ few, methodCallPos few o env p3 p5 = pure p5 := fun few => by
    unfold methodCallPos
    rw [hpos, Bool.or_true, if_pos rfl]
  rw [hs]
  unfold methodCall
  simp only [e]
  rfl
/-- lookups in lists without doubles -/
theorem lk_mem {α : Type} : ∀ {l : List (Str × α)} {y : Str} {v : α}, (l.map (·.1)).Nodup → (y, v) ∈ l → l.lookup y = some v
  | [], _, _, _, h => nomatch h
  | (z, w) :: l, y, v, nd, h => by
    rw [List.map_cons, List.nodup_cons] at nd
    rw [List.lookup_cons]
    rcases List.mem_cons.mp h with e | e
    · cases e
      rw [beq_self_eq_true]
    · have : y ≠ z := fun e2 => nd.1 (by rw [← e2]; exact List.mem_map.mpr ⟨_, e, rfl⟩)
      rw [show (y == z) = false from beq_eq_false_iff_ne.mpr this]
      exact lk_mem nd.2 e
theorem lk_none {α : Type} : ∀ {l : List (Str × α)} {y : Str}, y ∉ l.map (·.1) → l.lookup y = none
  | [], _, _ => rfl
  | (z, w) :: l, y, h => by
    rw [List.map_cons, List.mem_cons, not_or] at h
    rw [List.lookup_cons, show (y == z) = false from beq_eq_false_iff_ne.mpr h.1]
    exact lk_none h.2
theorem lk_rev {α : Type} {l : List (Str × α)} {y : Str} {v : α} (nd : (l.map (·.1)).Nodup) (h : (y, v) ∈ l) : l.reverse.lookup y = some v :=
  lk_mem (by rw [List.map_reverse]; unfold List.Nodup at nd ⊢; rw [List.pairwise_reverse]; exact nd.imp fun h => h.symm) (List.mem_reverse.mpr h)
theorem lk_app {α : Type} {f : Str} {u : α} : ∀ {p : List (Str × α)}, f ∉ p.map (·.1) → (fun y => if y = f then some u else p.lookup y) = fun y => (p ++ [(f, u)]).lookup y
  | [], _ => by
    funext y
    show _ = (match y == f with | true => some u | false => none)
    by_cases c : y = f
    · rw [if_pos c, show (y == f) = true from beq_iff_eq.mpr c]
    · rw [if_neg c, show (y == f) = false from beq_eq_false_iff_ne.mpr c]
      rfl
  | (z, w) :: p, h => by
    rw [List.map_cons, List.mem_cons, not_or] at h
    have ih := lk_app (f := f) (u := u) h.2
    funext y
    rw [List.cons_append, List.lookup_cons, List.lookup_cons]
    have ihy := congrFun ih y
    cases c : y == z with
    | true =>
      have e : y = z := beq_iff_eq.mp c
      rw [if_neg fun q => h.1 (by rw [← q, e])]
    | false => exact ihy
theorem within_lk {p : List (Str × Value)} : Within (fun y => p.lookup y) (p.map (·.1)) := fun y hy => by
  refine Classical.byContradiction fun q => hy ?_
  exact lk_none q
theorem zip_fst1 {α : Type} : ∀ {fs : List Str} {us : List α}, us.length = fs.length → (fs.zip us).map (·.1) = fs
  | [], [], _ => rfl
  | [], _ :: _, h => nomatch h
  | _ :: _, [], h => nomatch h
  | f :: fs, u :: us, h => by rw [List.zip_cons_cons, List.map_cons, zip_fst1 (Nat.succ.inj h)]
section
variable {prog : Program} {w : World} {A : Around} {E : Value → Shared → Prop} {K : Frag} {C : Addr}
/-- further fields -/
theorem asgs_ok {env : Env} {x dx : Addr} {fv : Array Value} {cd : ClassData} {m : Str → Option Value} {Q : Flow → Shared → Prop} (hk : env.scope.kind = .function) (hs : env.kindOf ("self" : Str) = some .local) (hcd : PySem.W.clsIn K C = some cd) (hm : refsVE cd.mro = true) (hh : cd.hasDict = true)
    (sa : findIn K (.ref C) "__setattr__" = some (some (.builtin "object.__setattr__"))) (hms : m ("self" : Str) = some (.ref x)) (nL : dx ≠ env.locals) (nX : dx ≠ x) (nK : K.lookup dx = none) :
    ∀ (r p : List (Str × Value)) (l : List Stmt) (h : Heap) (g : Array GenState) (dr : Drawn) (tk : Nat) (os : OsState), Asgs (r.map (·.1)) l → ((p ++ r).map (·.1)).Nodup → (p ++ r).length ≤ 1000 → (∀ q ∈ r, env.kindOf q.1 = some .local ∧ (q.1 == ("__debug__" : Str)) = false ∧ findIn K (.ref C) q.1 = some none ∧ m q.1 = some q.2) →
      K.In h → h.get? x = some { cls := .ref C, dict := some dx, data := .fields fv } → h.Ns1 dx (fun y => p.lookup y) → h.Ns env.locals m →
      (∀ h' tk', (∀ b o, b ≠ dx → h.get? b = some o → h'.get? b = some o) → h'.Ns1 dx (fun y => (p ++ r).lookup y) → Q .next ⟨h', g, dr, tk', os⟩) → wpAny (model prog w) A (execs l env) Q E ⟨h, g, dr, tk, os⟩
  | [], p, l, h, g, dr, tk, os, as, _, _, _, _, _, hn, _, q => by
    cases as
    exact wpAny_execs_nil (q h tk (fun _ _ _ e => e) (by rw [List.append_nil]; exact hn))
  | (f, u) :: r, p, l, h, g, dr, tk, os, as, nd, hl, hf, X, hx, hn, hL, q => by
    cases as with
    | cons as =>
      obtain ⟨f1, f2, f3, f4⟩ := hf (f, u) List.mem_cons_self
      have e : p ++ (f, u) :: r = (p ++ [(f, u)]) ++ r := by simp
      rw [e] at nd hl q
      have hp : f ∉ p.map (·.1) := fun z => by
        rw [List.append_assoc, List.map_append, List.nodup_append] at nd
        exact nd.2.2 _ z _ (by simp) rfl
      refine wpAny_execs_cons (plainObj_wpAny_Assign_Attribute ?_)
      refine wpAny_Name (wpAny_loadName_local hk f1 hL f4 ?_) f2
      refine wpAny_Name (wpAny_loadName_local hk hs hL hms ?_) (by decide)
      obtain ⟨oD, _, _, hoD, _⟩ := id hn
      refine PySem.W.set_plain X (ox := { cls := .ref C, dict := some dx, data := .fields fv }) (od := some oD) ⟨hx, rfl, rfl, hoD⟩ sa ?_
      refine PySem.OEX.osa_old X hx hn within_lk (by rw [List.length_map]; rw [List.length_append, List.length_append] at hl; omega) hcd hm hh f3 (fun h' tk' k' hn' => ?_)
      rw [lk_app hp] at hn'
      obtain ⟨oL, es, ep, hoL, rL⟩ := hL
      refine asgs_ok hk hs hcd hm hh sa hms nL nX nK r (p ++ [(f, u)]) _ h' g dr tk' os as nd hl (fun z hz => hf z (List.mem_cons_of_mem _ hz)) (fun a o e => k' a o (fun z => by rw [z, nK] at e; cases e) (X a o e)) (k' _ _ (Ne.symm nX) hx) hn'
        ⟨oL, es, ep, k' _ _ (Ne.symm nL) hoL, rL⟩ fun h2 tk2 k2 hn2 => q h2 tk2 (fun b o hb e => k2 b o hb (k' b o hb e)) hn2
end
/-- what __init__ leaves of a fresh exception at x -/
structure InitE (h h' : Heap) (x C dx t1 : Addr) (fu : List (Str × Value)) : Prop where
  keep : ∀ b o, b ≠ x → h.get? b = some o → h'.get? b = some o
  obj : h'.get? x = some { cls := .ref C, dict := some dx, data := .fields #[.ref t1, .none, .none, .none, .bool false, .none] }
  dbig : h.objs.size ≤ dx
  dne : dx ≠ x
  ns : h'.Ns1 dx (fun y => fu.lookup y)
section
variable {P : Program} {w : World} {A : Around} {R : Result → Shared → Prop} {s : Shared} {K : Frag} {mg : Str → Option Value} {C : Addr} {st : Stmt} {fs : List Str}
theorem sup_init (T : SupTxt P K st C fs) {fI : Addr} (iC : findIn K (.ref C) "__init__" = some (some (.ref fI))) {x t0 : Addr} {us : List Value} (kwd : Bool) (M : Mod K mg s.heap) (hx : s.heap.get? x = some (excO C t0)) (hnx : K.lookup x = none) (hroom : A.depth < recursionLimit) (hlen : us.length = fs.length)
    (hq : ∀ h' tk dx t1, InitE s.heap h' x C dx t1 (fs.zip us) → R (.ok (.ret .none)) { s with heap := h', toks := tk }) :
    codeAny (model P w) A (.call (.ref fI) ⟨.ref x :: (if kwd then [] else us), if kwd then fs.zip us else []⟩) R s := by
  obtain ⟨fI', cda, cc, oc, kV, doc, pm, ct, ccl, cl, od, an, cdd, cld, osl, ccs, csl, q, file, vs, tf, iC', tC, ho, hcd, hcode, hvs, hfile, hcell⟩ := T.fn
  rw [iC] at iC'
  cases iC'
  obtain ⟨nm, qn, N, bs, bm, sn, sub, ab, col, dd, k0, k1, k2, k3, k5, hC, hbm⟩ := T.cls
  have hcl : PySem.W.clsIn K C = some { name := nm, bases := bs, mro := .ref C :: bm, ns := N, qualname := qn, hasDict := true, slotNames := sn, subclasses := sub, abstract := ab, collection := col, hasDel := false } := by unfold PySem.W.clsIn; rw [hC] <;> rfl
  obtain ⟨ar, hp, har⟩ := T.S.pa
  obtain ⟨tx, kk, p1, p2, p3, p4, p5, p6, l, hb, has, hpos⟩ := T.S.body
  have bd := T.S.bd kwd s q kV doc pm (.ref cda) ct an cc (.ref x) us hlen
  have s1 := T.S.k1
  have s2 := T.S.k2
  have s3 := T.S.k3
  have s4 := T.S.k4
  have n1 := T.S.n1
  have n2 := T.S.n2
  have n3 := T.S.n3
  have n4 := T.S.n4
  have nd := T.S.nd
  have hbn : ((("self" : Str), Value.ref x) :: fs.zip us).map (·.1) = ("self" : Str) :: fs := by rw [List.map_cons, zip_fst1 hlen]
  generalize hB : defBody st = B at ho bd hb
  subst hb
  generalize hS : defScope st = sc at ho bd s1 s2 s3 s4 n1 n2 n3 n4
  obtain ⟨kind, names, gen, co, more⟩ := sc
  dsimp only at s1 s2 s3 s4 n1 n2 n3 n4
  subst s1 s2 s3
  refine PySem.ks_codeAny_call_defAt (fd := PySem.W.ksFn "__init__" q (defArgs st) _ _ .none kV doc pm an (.ref cda) ct cc) (binds := ("self", .ref x) :: fs.zip us) hroom (M.kin _ _ ho) rfl M.nolimit (PySem.W.codeRec_of M.kin hcd) rfl bd s4 ?_ (fun h₁ hn k => ?_) rfl rfl rfl
  · intro y hy
    rcases List.mem_cons.mp hy with rfl | hy
    · exact n1
    · exact n2 _ (by
        have := List.mem_map_of_mem (f := (·.1)) hy
        rw [zip_fst1 hlen] at this
        exact this)
  have M1 := mod_keep M k
  have hx1 := k _ _ hx
  have hms : ((("self" : Str), Value.ref x) :: fs.zip us).reverse.lookup ("self" : Str) = some (Value.ref x) := lk_rev (by rw [hbn]; exact nd) List.mem_cons_self
  have hmf : ∀ p ∈ fs.zip us, ((("self" : Str), Value.ref x) :: fs.zip us).reverse.lookup p.1 = some p.2 := fun p hp => lk_rev (by rw [hbn]; exact nd) (List.mem_cons_of_mem _ hp)
  refine ks_wpAt_execs_cons (ks_wpAt_Expr_any (ks_wpAt_MethodCall ?_ (call_eq hpos rfl)) rfl rfl)
  refine ks_wpAt_super_base n3 n4 (by decide) rfl (M1.kin _ _ ho) rfl hp rfl (M1.kin _ _ hcode) rfl hvs hfile T.top ?_
  obtain ⟨mb, hb1, hb2⟩ := M1.blt
  refine PySem.W.ks_loadName_global rfl n3 (loadGlobal_builtin M1.glob (PySem.W.mg_none_of M1.kin M1.glob T.sup) hb1 ((hb2 _ (by decide +kernel)).trans (show bootBuiltins "super" = some (.type "super") by kernel_rfl)) ⟨rfl, ?_⟩)
  refine wpAny_loadName_free rfl n4 rfl ⟨_, M1.kin _ _ hcell, rfl⟩ ?_
  rw [har]
  refine wpAny_loadName_local rfl n1 hn hms ?_
  have hC1 := M1.kin _ _ hC
  refine ks_wpAny_isType_cls hC1 rfl ⟨rfl, ?_⟩
  refine ks_wpAny_call_super hC1 rfl hx1 rfl (fun c e => nomatch e) (PySem.W.looks_mroIn M1.kin T.sC) (fun h2 e2 k2 => ?_)
  have M2 := mod_keep M1 k2
  have hx2 := k2 _ _ hx1
  have hxC : x ≠ C := fun z => by
    subst z
    rw [hC1] at hx1
    cases hx1
  have hm2 := T.mi
  unfold PySem.W.ks_superIn at hm2
  rw [hcl] at hm2
  have I2 : PySem.W.InstAt h2 x (excO C t0) C none := ⟨hx2, rfl, rfl, trivial⟩
  refine PySem.W.kxs_getMethod PySem.W.kxs_ValueError e2 (PySem.W.looks_opaque M2.kin T.any) (l₀ := .ref C :: bm) (fun A Q E s k q => wpAny_bind ((PySem.W.looks_clsIn M2.kin hcl) A _ E s k (wpAny_pure q))) rfl M2.kin hm2 (I2.type.andThen (PySem.W.looks_subIn M2.kin T.sB)) hxC (by decide) ?_
  have e3 : (h2.push (PySem.W.kxs_mw "ValueError.__init__" x)).get? h2.objs.size = some (PySem.W.kxs_mw "ValueError.__init__" x) := Heap.get?_push_at rfl rfl
  have k3 : ∀ b o, h2.get? b = some o → (h2.push (PySem.W.kxs_mw "ValueError.__init__" x)).get? b = some o := fun b o z => Heap.get?_push_of_some _ z
  have M3 := mod_keep M2 k3
  refine PySem.W.kxs_callWith (i := "ValueError.__init__") (x := x) rfl (evalArgs_plain (spliced_cons (wpAny_Constant_str (k := kk) (pos := p4) (spliced_nil ⟨e3, ?_⟩))))
  refine call_mw (C := C) (t0 := t0) (M3.kin _ _ hC) (k3 _ _ hx2) e3 (by show 1 ≤ sizeLine; rw [sizeLine_eq]; decide) fun h4 t1 k4 hx4 => ?_
  refine wpAt_of_wpAny ?_
  have k14 : ∀ b o, b ≠ x → h₁.get? b = some o → h4.get? b = some o := fun b o hb z => k4 b o hb (k3 b o (k2 b o z))
  have X4 : K.In h4 := fun a o e => k14 a o (fun z => by rw [z, hnx] at e; cases e) (M1.kin a o e)
  have hxL : s.heap.objs.size ≠ x := Nat.ne_of_gt (Heap.lt_size hx)
  obtain ⟨oL, es, ep, hoL, rL⟩ := hn
  have hoL4 := k14 _ _ hxL hoL
  have hn4 : h4.Ns s.heap.objs.size (fun y => ((("self" : Str), Value.ref x) :: fs.zip us).reverse.lookup y) := ⟨oL, es, ep, hoL4, rL⟩
  cases has with
  | nil => exact (T.S.ne rfl).elim
  | @cons f rfs l' q1 q2 q3 q4 has =>
    cases us with
    | nil => cases hlen
    | cons v us =>
      have hf0 : ((f, v) : Str × Value) ∈ (f :: rfs).zip (v :: us) := by rw [List.zip_cons_cons]; exact List.mem_cons_self
      refine wpAny_execs_cons (plainObj_wpAny_Assign_Attribute ?_)
      refine wpAny_Name (wpAny_loadName_local rfl (n2 f List.mem_cons_self) hn4 (hmf _ hf0) ?_) (T.S.fd f List.mem_cons_self)
      refine wpAny_Name (wpAny_loadName_local rfl n1 hn4 hms ?_) (by decide)
      refine PySem.W.set_plain X4 (ox := excO C t1) (od := none) ⟨hx4, rfl, rfl, trivial⟩ T.sa ?_
      refine exc_osa X4 hx4 hcl (show refsVE (.ref C :: bm) = true from hbm) rfl (T.no f List.mem_cons_self) (fun h5 tk5 dx k5 dn dne hx5 hn5 => ?_)
      have z : s.heap.objs.size < h4.objs.size := Heap.lt_size hoL4
      have dn : h4.objs.size ≤ dx := dn
      have dL : dx ≠ s.heap.objs.size := by omega
      have dK : K.lookup dx = none := by
        cases e : K.lookup dx with
        | none => rfl
        | some o => exact absurd (Nat.lt_of_lt_of_le (Heap.lt_size (X4 _ _ e)) dn) (Nat.lt_irrefl _)
      have hlen' : us.length = rfs.length := Nat.succ.inj hlen
      have e0 : (fun y => if y = f then some v else none) = fun y => ([(f, v)] : List (Str × Value)).lookup y := lk_app (p := []) (by simp)
      rw [e0] at hn5
      show wpAny _ _ (execs l' _) _ _ _
      refine asgs_ok (K := K) (C := C) (x := x) (dx := dx) (m := fun y => ((("self" : Str), Value.ref x) :: (f :: rfs).zip (v :: us)).reverse.lookup y) ?y1 ?y2 hcl (show refsVE (.ref C :: bm) = true from hbm) rfl T.sa hms dL dne dK
        (rfs.zip us) [(f, v)] l' h5 _ _ _ _ (by rw [zip_fst1 hlen']; exact has) ?_ ?_ ?_ (fun a o e => k5 a o (fun z => by rw [z, hnx] at e; cases e) (X4 a o e)) hx5 hn5 ⟨oL, es, ep, k5 _ _ hxL hoL4, rL⟩ fun h6 tk6 k6 hn6 => ?_
      case y1 => rfl
      case y2 => exact n1
      · show (f :: (rfs.zip us).map (·.1)).Nodup
        rw [zip_fst1 hlen']
        exact (List.nodup_cons.mp nd).2
      · have := T.S.few
        rw [List.length_append, List.length_zip]
        rw [List.length_cons] at this
        show 1 + min rfs.length us.length ≤ 1000
        omega
      · intro p hp
        have pm : p.1 ∈ rfs := by
          have := List.mem_map_of_mem (f := (·.1)) hp
          rw [zip_fst1 hlen'] at this
          exact this
        exact ⟨n2 _ (List.mem_cons_of_mem _ pm), T.S.fd _ (List.mem_cons_of_mem _ pm), T.no _ (List.mem_cons_of_mem _ pm), hmf p (by rw [List.zip_cons_cons]; exact List.mem_cons_of_mem _ hp)⟩
      · refine hq h6 tk6 dx t1 ⟨fun b o hb e => ?_, k6 _ _ (Ne.symm dne) hx5, Nat.le_of_lt (Nat.lt_of_lt_of_le z dn), dne, hn6⟩
        have hbs : b ≠ dx := fun w => absurd (Nat.lt_of_lt_of_le (Nat.lt_trans (Heap.lt_size e) z) (by rw [w]; exact dn)) (Nat.lt_irrefl _)
        exact k6 b o hbs (k5 b o hb (k14 b o hb (k b o e)))
/-- the class called -/
theorem sup_mk (T : SupTxt P K st C fs) : ClsMk P w K C fs := by
  intro kwd A R s us mg M hroom hlen hq
  obtain ⟨fI, cda, cc, oc, kV, doc, pm, ct, ccl, cl, od, an, cdd, cld, osl, ccs, csl, q, file, vs, tf, iC, tC, _⟩ := T.fn
  obtain ⟨nm, qn, N, bs, bm, sn, sub, ab, col, dd, k0, k1, k2, k3, k5, hC, hbm⟩ := T.cls
  have X := M.kin
  obtain ⟨hp, g, dr, tk, os⟩ := s
  generalize hr : (if kwd = true then [] else us) = rest
  have hrl : rest.length ≤ 20 := by
    have := T.S.few
    rw [← hr]
    split
    · decide
    · omega
  have k : ∀ b o, hp.get? b = some o → ((hp.push (PySem.W.kdv_tup rest)).push (excO C hp.objs.size)).get? b = some o := fun b o e => Heap.get?_push_of_some _ (Heap.get?_push_of_some _ e)
  have hget : ((hp.push (PySem.W.kdv_tup rest)).push (excO C hp.objs.size)).get? (hp.objs.size + 1) = some (excO C hp.objs.size) := by heap_get
  have hnx : K.lookup (hp.objs.size + 1) = none := by
    cases e : K.lookup (hp.objs.size + 1) with
    | none => rfl
    | some o =>
      have z : hp.get? (hp.objs.size + 1) = some o := X _ _ e
      exact absurd (Nat.lt_of_succ_lt (Heap.lt_size z)) (Nat.lt_irrefl _)
  refine PySem.PXK.call_kw F.excBase_ValueError (fun X => refsVE_contains X bm hbm) (X _ _ hC) (PySem.W.looks_findIn X iC) (fun self => PySem.W.bind_fn X self tC) (by rw [sizeLine_eq]; omega) ?_
  subst hr
  refine sup_init (s := ⟨(hp.push (PySem.W.kdv_tup (if kwd = true then [] else us))).push (excO C hp.objs.size), g, dr, tk, os⟩) T iC kwd (mod_keep M k) hget hnx ?_ hlen fun h' tk' dx t1 ⟨k', hx, dn, dne, hns⟩ => ?_
  · show A.depth + 1 < recursionLimit
    omega
  · have old : ∀ b o, hp.get? b = some o → h'.get? b = some o := fun b o e => k' b o (Nat.ne_of_lt (Nat.lt_succ_of_lt (Heap.lt_size e))) (k b o e)
    have z : hp.objs.size + 1 + 1 ≤ dx := by
      first
        | (simpa only [Heap.size_push] using dn)
        | exact dn
        | (have q := dn; rw [Heap.size_push, Heap.size_push] at q; exact q)
    exact ⟨rfl, hq h' tk' (hp.objs.size + 1) dx ⟨old, Nat.le_succ _, Nat.le_trans (Nat.le_trans (Nat.le_succ _) (Nat.le_succ _)) z, dne, ⟨_, hx⟩, hns⟩⟩
theorem sup_ini (S : SupSt st fs) {fI cda cc N : Addr} {nm qn q file : Str} {bs bm sub : List Value} {sn : List Str} {ab : Bool} {col : Option Bool} {dd od an cdd cld : Option Addr} {m0 m1 m2 m3 m5 : Option Value} {oc kV doc pm ct ccl cl : Value} {osl ccs csl : Array (Option Value)} {vs : Array Value} {tf : Tok}
    (xL : K.lookup C = some (excClassObj nm qn C N bs bm true sn sub ab col dd m0 m1 m2 m3 m5 "ValueError.__new__")) (rb : refsVE bm = true)
    (sa : findIn K (.ref C) "__setattr__" = some (some (.builtin "object.__setattr__"))) (ga : findIn K (.ref C) "__getattribute__" = some (some (.builtin "BaseException.__getattribute__"))) (gg : findIn K (.ref C) "__getattr__" = some none)
    (no : ∀ f ∈ fs, findIn K (.ref C) f = some none) (iC : findIn K (.ref C) "__init__" = some (some (.ref fI))) (tI : typeIn K (.ref fI) = some (.type "function"))
    (l1 : K.lookup fI = some ⟨oc, od, .func (fnX "__init__" q (defArgs st) (defBody st) (defScope st) [("__class__", cc)] .none kV doc pm an (.ref cda) ct), osl⟩) (c1 : codeIn K (.ref cda) q = true)
    (lc : K.lookup cda = some ⟨ccl, cdd, .fields vs, ccs⟩) (v2 : vs[2]? = some (.str file tf)) (fe : ((P.main.file : Str) == file) = true) (ll : K.lookup cc = some ⟨cl, cld, .cell (some (.ref C)), csl⟩)
    (sup : nsIn K mainGlobals "super" = some none) (top : (P.main.scope.names.lookup ("super" : Str)).isSome = false) (any : nsIn K cStatics "thirdparty.any" = some none)
    (mi : ks_superIn K C C "__init__" = some (some (.builtin "ValueError.__init__"))) (sC : mroIn K C (.ref C) = some true) (sB : subIn K (.ref C) (.type "ValueError") = some true) (eC : subIn K (.ref C) (.type "BaseException") = some true) (hC : PySem.W.hasDictIn K C = true) :
    XfC K C ∧ (∀ g ∈ fs, findIn K (.ref C) g = some none) ∧ ClsMk P w K C fs :=
  ⟨⟨ga, gg, eC, hC⟩, no,
    sup_mk (st := st) ⟨S, ⟨nm, qn, N, bs, bm, sn, sub, ab, col, dd, m0, m1, m2, m3, m5, xL, rb⟩, sa, no, ⟨fI, cda, cc, oc, kV, doc, pm, ct, ccl, cl, od, an, cdd, cld, osl, ccs, csl, q, file, vs, tf, iC, tI, l1, c1, lc, v2, fe, ll⟩, sup, top, any, mi, sC, sB⟩⟩
end
end PX
namespace PySem.W
open PySem PySem.Spec PySem.Calls PyProof.Rows
section
variable {prog : Program} {w : World} {A : Around} {E : Value → Shared → Prop} {s : Shared} {K : Frag} {x D : Addr} {ox : Obj} {odx : Option Obj}
theorem findObj_dataD {C : Addr} {name : Str} {a g : Value} (hc : (clsIn K C).isSome = true) (ha : findIn K (.ref C) name = some (some a)) (hg : specialIn K a "__get__" = some (some g)) (ht : takesIn K a = some true) : findObj K C odx name = some (.bind g a) := by
  obtain ⟨cd, hc⟩ := Option.isSome_iff_exists.mp hc
  unfold findObj
  rw [hc, Option.bind_some, ha, Option.bind_some]
  simp [hg, ht]
theorem kin_classD {Q : Option Value → Shared → Prop} (hga : findIn K (.ref D) "__getattribute__" = some (some (.builtin "BaseException.__getattribute__"))) (hgt : findIn K (.ref D) "__getattr__" = some none) (hsub : subIn K (.ref D) (.type "BaseException") = some true)
    (hdct : hasDictIn K D = true) (ha : findIn K (.ref D) "__class__" = some (some (.builtin "object.__class__")))
    (hn : specialIn K (.builtin "object.__class__") "__get__" = some (some (.builtin "getset_descriptor.__get__"))) (htk : takesIn K (.builtin "object.__class__") = some true) (hm : mroIn K D (.type "object") = some true)
    (X : K.In s.heap) (I : InstAt s.heap x ox D odx) (h : Q (some (.ref D)) { s with toks := s.toks + 1 }) : wpAny (model prog w) A (getAttr? (.ref x) "__class__") Q E s := by
  have hf : findObj K D odx "__class__" = some (.bind (.builtin "getset_descriptor.__get__") (.builtin "object.__class__")) := findObj_dataD (by obtain ⟨cd, hc, _⟩ := any_some hdct; rw [hc]; rfl) ha hn htk
  obtain ⟨hp, g, d, t, os⟩ := s
  have L0 := I.type (M := model prog w)
  have L1 := looks_findIn (M := model prog w) X hga
  have L2 := looks_findIn (M := model prog w) X hgt
  have L3 := looks_find (M := model prog w) X I hf
  have sub : Looks (model prog w) hp (isInstance (.ref x) (.type "BaseException")) true := L0.andThen (looks_subIn X hsub)
  have hx0 : (false && onTheHeap (Value.builtin "BaseException.__getattribute__")) = false := rfl
  have hx2 : (Value.builtin "BaseException.__getattribute__" == Value.builtin "object.__getattribute__") = false := by decide +kernel
  have hx1 : (onTheHeap (Value.ref D) && Value.builtin "BaseException.__getattribute__" == Value.builtin "object.__getattribute__") = false := by rw [hx2]; rfl
  unfold getAttr? getAttrBy? getAttrBy
  refine wpAny_bind (wpAny_mkText (wpAny_bind (wpAny_attempt (wpAny_holding (wpAny_bind (L0.at (wpAny_bind (L1.at ?_))))))))
  show wpAny _ _ (if (onTheHeap (Value.ref D) && Value.builtin "BaseException.__getattribute__" == Value.builtin "object.__getattribute__") = true then _ else _) _ _ _
  rw [hx1, if_neg Bool.false_ne_true]
  unfold getAttrByItsOwn hookBefore
  refine wpAny_bind ?_
  rw [if_pos (show onTheHeap (Value.ref D) = true from rfl)]
  refine L2.at ?_
  refine wpAny_bind (wpAny_attempt (wpAny_holding ?_))
  unfold callGetattribute
  rw [hx0, if_neg Bool.false_ne_true]
  unfold boundAndCalled
  rw [PySem.F.excAttr_ValueError.ga.bind (.ref x)]
  refine wpAny_bind (wpAny_pure ?_)
  show wpAny _ _ (call (.builtin "BaseException.__getattribute__") [.ref x, .str "__class__" t]) _ _ _
  refine wpAny_call (codeAny_call_builtin PySem.F.excAttr_ValueError.ga.plain PySem.F.entry_bexc_ga ?_)
  refine @check_slot (model prog w) _ _ ⟨hp, g, d, t + 1, os⟩ "BaseException.__getattribute__" "BaseException" "__getattribute__" (.ref x) [.str "__class__" t] [] _ (by decide +kernel) (by decide +kernel) sub (PySem.F.args_bexc_ga (.ref x) (.str "__class__" t)) ?_
  unfold Builtin.«object.__getattribute__»
  refine wpAny_bind (wpAny_of_eq (a := ((Value.ref x : Value), [Value.str "__class__" t])) (by first | rfl | (simp only [slotArgs]; rfl)) ?_)
  refine wpAny_bind (wpAny_pure (wpAny_bind (L0.at (wpAny_bind (L3.at ?_)))))
  show wpAny _ _ (holding [Value.builtin "object.__class__"] (call (.builtin "getset_descriptor.__get__") [.builtin "object.__class__", .ref x, .ref D]) >>= ret) _ _ _
  refine wpAny_bind (wpAny_holding (wpAny_call (class_get (s := ⟨hp, g, d, t + 1, os⟩) (ox := ox) (od := odx) X I hm ?_)))
  refine wpAny_pure ?_
  show wpAny _ _ (handedOut (.ref D)) _ _ _
  rw [handedOut_of (v := .ref D) rfl]
  first
    | exact wpAny_pure (wpAny_pure h)
    | exact wpAny_pure h
    | exact wpAny_pure (wpAny_bind (wpAny_pure (wpAny_pure h)))
theorem kitx_excD (hga : findIn K (.ref D) "__getattribute__" = some (some (.builtin "BaseException.__getattribute__"))) (hgt : findIn K (.ref D) "__getattr__" = some none) (hsub : subIn K (.ref D) (.type "BaseException") = some true) (hdct : hasDictIn K D = true) (ha : findIn K (.ref D) "__class__" = some (some (.builtin "object.__class__")))
    (hn : specialIn K (.builtin "object.__class__") "__get__" = some (some (.builtin "getset_descriptor.__get__"))) (htk : takesIn K (.builtin "object.__class__") = some true) (hm : mroIn K D (.type "object") = some true) :
    KitX K (.ref x) (.ref D) (fun h => InstAt h x ox D odx) where
  ty := fun _ _ _ I => I.type
  it := fun _ _ X _ => by
    obtain ⟨cdD, hcD, _⟩ := any_some hdct
    unfold clsIn at hcD
    split at hcD
    · rename_i c' d' cd' sl' ho
      intro A' Q' E' s' k q
      unfold isType loadHead
      exact wpAny_bind (wpAny_loadPart (k _ _ (X _ _ ho)) (wpAny_pure q))
    · cases hcD
  ne := fun h tp dd its n sl X htp => by
    obtain ⟨cdD, hcD, _⟩ := any_some hdct
    refine Bool.eq_false_iff.mpr fun q => ?_
    have e : D = tp := Value.ref.inj (beq_iff_eq.mp q)
    subst e
    unfold clsIn at hcD
    split at hcD
    · rename_i c' d' cd' sl' ho
      have z := (X _ _ ho).symm.trans htp
      cases z
    · cases hcD
  ca := fun X I k => kin_classD hga hgt hsub hdct ha hn htk hm X I k
end
end PySem.W
namespace PX
open PySem PySem.Spec PySem.Calls PyProof.Rows L2
variable [Tabc]
/-! ### 48. exceptions held as values -/
def objR (k : Cls) (ds : List D) : M D := if ds.length = k.fs.length then rt (.obj k.x k.fs ds) else stk
structure ClsVal (mg : Str → Option Value) (K : PySem.W.Frag) (cl : List Cls) : Prop where
  ns : ∀ k ∈ cl, ∀ C, mg k.x = some (.ref C) → PySem.W.nsIn K mainGlobals k.x = some (some (.ref C))
  ec : ∀ k ∈ cl, ∀ C, mg k.x = some (.ref C) → ExcC K C
  kt : ∀ k ∈ cl, ∀ k' ∈ cl, ∀ C C', mg k.x = some (.ref C) → mg k'.x = some (.ref C') → PySem.W.kitOne K (.ref C) (.ref C') = some (k.up.contains k'.x)
  kv : ∀ k ∈ cl, ∀ C, mg k.x = some (.ref C) → PySem.W.kitOne K (.ref C) (.type "ValueError") = some true
theorem upd_two {H : Hp} {d e : Addr} {o u : HO} (hd : H d = none) (he : H e = none) (ne : d ≠ e) : (upd H d o) e = none := by rw [upd_ne (Ne.symm ne)]; exact he
section
variable {X : Cx} {pins : List (Addr × Obj)} {σ : L2.St} {H1 : Hp} {hp h' : Heap} {g : Array GenState} {dr : Drawn} {tk tk' : Nat} {os : OsState} {e d C : Addr} {fs : List Str} {us : List Value} {vs : List V}
theorem obj_laid (I1 : Inv X pins σ H1 ⟨hp, g, dr, tk, os⟩) (M : Mde hp h' e d C fs us) (r1 : Vals vs us) :
    Inv X pins σ (upd (upd H1 d (exd d (fs.zip vs))) e (exo e C (some d))) ⟨h', g, dr, tk', os⟩ ∧ H1 d = none ∧ H1 e = none := by
  have fd : H1 d = none := I1.hok.fresh M.dnew
  have fe : H1 e = none := I1.hok.fresh M.new
  obtain ⟨t1, hoe⟩ := M.obj
  obtain ⟨G', g1, g2⟩ := restrict h' fun b => decide (b ≠ e)
  have gk : ∀ b, b ≠ e → G'.get? b = h'.get? b := fun b hb => g1 b (decide_eq_true hb)
  have ge : G'.get? e = none := g2 e (by simp)
  have none_of : ∀ b, hp.objs.size ≤ b → hp.get? b = none := fun b hb => by
    cases q : hp.get? b with
    | none => rfl
    | some o => exact absurd (Nat.lt_of_lt_of_le (Heap.lt_size q) hb) (Nat.lt_irrefl _)
  have old : ∀ b o, hp.get? b = some o → G'.get? b = some o := fun b o q => (gk b (Nat.ne_of_lt (Nat.lt_of_lt_of_le (Heap.lt_size q) M.new))).trans (M.keep b o q)
  have J : Inv X pins σ (upd H1 d (exd d (fs.zip vs))) ⟨G', g, dr, tk', os⟩ := I1.laidN (t' := tk') old (none_of d M.dnew) fd (exd_ok (M.ns.at (fun o q => (gk d M.dne).trans q)) fun f => lookup_rel f r1)
  refine ⟨J.laidN (t' := tk') (fun b o q => ?_) ge (upd_two (u := exd d []) fd fe M.dne) (exo_ok hoe), fd, fe⟩
  by_cases hb : b = e
  · have q' : G'.get? b = some o := q
    rw [hb, ge] at q'
    cases q'
  · exact (gk b hb).symm.trans q
end
theorem obj_rp {K : PySem.W.Frag} {H1 : Hp} {ad : Pl} {μ : Mu} {d e C : Addr} {k : Cls} {vs : List V} {ds : List D} (m : MuOk K H1 ad μ) (fd : H1 d = none) (fe : H1 e = none) (ne : d ≠ e) (ns : PySem.W.nsIn K mainGlobals k.x = some (some (.ref C))) (r : Rps K H1 ad vs ds) (hl : ds.length = k.fs.length) :
    Nx K H1 ad (upd (upd H1 d (exd d (k.fs.zip vs))) e (exo e C (some d))) ad μ ∧ Rp K (upd (upd H1 d (exd d (k.fs.zip vs))) e (exo e C (some d))) ad (.ref e) (.obj k.x k.fs ds) := by
  have n1 := m.new (o := exd d (k.fs.zip vs)) fd
  have fe2 : (upd H1 d (exd d (k.fs.zip vs))) e = none := upd_two (u := exd d []) fd fe ne
  have n2 := n1.mu.new (o := exo e C (some d)) fe2
  have n := n1.trans n2
  refine ⟨n, .obj ⟨m.out fe, by rw [r.length, hl], C, ns, .inr ⟨d, m.out fd, upd_same, ?_⟩⟩ (Rps.grow n.gr _ _ r)⟩
  rw [upd_ne ne]
  exact upd_same
section
variable {X : Cx} {Z : Wd} {k : Cls} {cl : List Cls} {n : Nat} {p cpos : Pos} {ms : List (Rho → M D)}
/-- what a made one is handed on to -/
def tObj (C : Addr) (k : Cls) (ta : TA) : TE := fun σ H Q => ta σ H fun vs H1 => vs.length = k.fs.length ∧ ∀ d e, H1 d = none → H1 e = none → d ≠ e → Q (.ref e) (upd (upd H1 d (exd d (k.fs.zip vs))) e (exo e C (some d)))
theorem tObj_of {C : Addr} (hK : Z.K = X.K) (ns : PySem.W.nsIn X.K mainGlobals k.x = some (some (.ref C))) {σ : L2.St} {H : Hp} {Q : VK} (h : tE Z (fun ρ => bd (evA ms ρ) (objR k)) σ H Q) : tObj C k (tA Z (evA ms)) σ H Q := by
  obtain ⟨ad, ρ, μ, g, hl, q⟩ := h
  refine stepA g hl q fun vs ds H1 ad1 μ1 n1 g1 r1 q1 => ?_
  have q1 : Sat ((if ds.length = k.fs.length then rt (.obj k.x k.fs ds) else stk : M D) μ1) (KE Z H ad Q) (XW Z H1 ad1) := q1
  by_cases c : ds.length = k.fs.length
  · rw [if_pos c] at q1
    refine ⟨by rw [r1.length, c], fun d e hd he ne => ?_⟩
    obtain ⟨n2, rp⟩ := obj_rp (k := k) (C := C) n1.mu hd he ne (by rw [hK]; exact ns) r1 c
    exact q1 (.ref e) _ ad1 (n1.trans n2) rp
  · rw [if_neg c] at q1
    exact q1.elim
theorem x_objF {e : Expr} {es : List Expr} (hK : Z.K = X.K) (ok : ClsOk X.mg X.K cl) (up : ClsUp X.prog X.w X.mg X.K cl) (vl : ClsVal X.mg X.K cl) (hk : k ∈ cl) (h0 : k.fs ≠ []) (hr : Room n X.A) (hg : Gl X k.x) (hdb : (k.x == ("__debug__" : Str)) = false)
    (ha : PA X (e :: es) (tA Z (evA ms))) (he : starEach (e :: es) X.env = (false, eval e X.env) :: starEach es X.env) (hpl : (backTo cpos (starEach es X.env)).any (·.1) = false) :
    PE X (.Call (.Name k.x p) (e :: es) [] cpos) (tE Z fun ρ => bd (evA ms ρ) (objR k)) := by
  obtain ⟨C, gC⟩ := ok.at_ k hk
  obtain ⟨k1, k2, k3⟩ := up.kp k hk C gC
  refine PEi (t := tObj C k (tA Z (evA ms))) ⟨fun pins s σ H Q I h => ?_⟩ fun σ H Q h => tObj_of hK (vl.ns k hk C gC) h
  refine wpAny_Call_Name_kw (ld_glob I hg gC ?_ hdb)
  refine PySem.W.callWith_K (h₀ := X.base) I.ok.mod.kin k1 (thn (ha.run cpos pins s σ H _ I h) fun us s1 ⟨vs, H1, I1, r1, lz, q1⟩ => ⟨I1.kIn, ?_⟩) he hpl
  show wpAny _ _ (call (.ref C) us) _ _ _
  have hmod := mod_keep I1.ok.mod I1.bk
  obtain ⟨hp, g, dr, tk, os⟩ := s1
  refine wpAny_call (up.made k hk h0 C gC false X.A _ ⟨hp, g, dr, tk, os⟩ us _ hmod (by have := hr.dp; omega) (by rw [← r1.length]; exact lz) fun h' tk' e d M => ?_)
  obtain ⟨J, fd, fe⟩ := obj_laid (tk' := tk') I1 M r1
  exact ⟨.ref e, _, J, rfl, q1 d e fd fe M.dne⟩
theorem x_objK {kws : List Keyword} (hK : Z.K = X.K) (ok : ClsOk X.mg X.K cl) (up : ClsUp X.prog X.w X.mg X.K cl) (vl : ClsVal X.mg X.K cl) (hk : k ∈ cl) (h0 : k.fs ≠ []) (hr : Room n X.A) (hg : Gl X k.x) (hdb : (k.x == ("__debug__" : Str)) = false)
    (hkw : PK X kws (tA Z (evA ms))) (hall : (backToKw cpos (keywordEach kws X.env)).all (·.1.isSome) = true) (hks : (backToKw cpos (keywordEach kws X.env)).filterMap (·.1) = k.fs)
    (hpl : ((backTo cpos (starEach [] X.env)).any (·.1) || (backToKw cpos (keywordEach kws X.env)).any (·.1.isNone)) = false) :
    PE X (.Call (.Name k.x p) [] kws cpos) (tE Z fun ρ => bd (evA ms ρ) (objR k)) := by
  obtain ⟨C, gC⟩ := ok.at_ k hk
  obtain ⟨k1, k2, k3⟩ := up.kp k hk C gC
  refine PEi (t := tObj C k (tA Z (evA ms))) ⟨fun pins s σ H Q I h => ?_⟩ fun σ H Q h => tObj_of hK (vl.ns k hk C gC) h
  refine wpAny_Call_Name_kw (ld_glob I hg gC ?_ hdb)
  refine PySem.W.callWith_KW0 (h₀ := X.base) I.ok.mod.kin k1 hall (thn (hkw.run cpos pins s σ H _ I h) fun us s1 ⟨vs, H1, I1, r1, lz, q1⟩ => ⟨I1.kIn, ?_⟩) hpl
  rw [hks]
  show wpAny _ _ (call (.ref C) [] (k.fs.zip us)) _ _ _
  have hmod := mod_keep I1.ok.mod I1.bk
  obtain ⟨hp, g, dr, tk, os⟩ := s1
  refine wpAny_call (up.made k hk h0 C gC true X.A _ ⟨hp, g, dr, tk, os⟩ us _ hmod (by have := hr.dp; omega) (by rw [← r1.length]; exact lz) fun h' tk' e d M => ?_)
  obtain ⟨J, fd, fe⟩ := obj_laid (tk' := tk') I1 M r1
  exact ⟨.ref e, _, J, rfl, q1 d e fd fe M.dne⟩
theorem x_obj0 (hK : Z.K = X.K) (ok : ClsOk X.mg X.K cl) (up : ClsUp X.prog X.w X.mg X.K cl) (vl : ClsVal X.mg X.K cl) (hk : k ∈ cl) (h0 : k.fs = []) (hg : Gl X k.x) (hdb : (k.x == ("__debug__" : Str)) = false) :
    PE X (.Call (.Name k.x p) [] [] cpos) (tE Z fun ρ => bd (evA [] ρ) (objR k)) := by
  obtain ⟨C, gC⟩ := ok.at_ k hk
  obtain ⟨k1, k2, k3⟩ := up.kp k hk C gC
  refine ⟨fun pins s σ H Q I ⟨ad, ρ, μ, g, hl, q⟩ => ?_⟩
  have q : Sat ((if ([] : List D).length = k.fs.length then rt (.obj k.x k.fs []) else stk : M D) μ) (KE Z H ad Q) (XW Z H ad) := q
  rw [if_pos (by rw [h0]; rfl)] at q
  refine wpAny_Call_Name_kw (ld_glob I hg gC ?_ hdb)
  refine PySem.W.callWith_K0 I.kIn k1 ?_
  show wpAny _ _ (call (.ref C) []) _ _ _
  obtain ⟨bm, N, nm, qn, bs, hdct, sn, sub, ab, col, dd, k0, k1, k2, k3, k5, mN, hC, hN, hni, T⟩ := exc_obj I.kIn (up.own k hk h0 C gC)
  refine wpAny_call_exc_subT F.excBase_ValueError T hC hN hni (fun h' e hm => ?_) (Nat.zero_le _)
  obtain ⟨t, he, _, _⟩ := hm.there
  have fe : H e = none := I.hok.gone hm.new
  have J : Inv X pins σ (upd H e (exo e C none)) { s with heap := h' } := I.laidN (t' := s.toks) hm.keeps hm.new fe (exo_ok he)
  have n1 := g.mu.new (o := exo e C none) fe
  exact ⟨.ref e, _, J, rfl, q (.ref e) _ ad n1 (.obj ⟨g.mu.out fe, by rw [h0]; rfl, C, by rw [hK]; exact vl.ns k hk C gC, .inl ⟨h0, upd_same⟩⟩ .nil)⟩
end
/-! isinstance of such; a field of such -/
section
variable {X : Cx} {Z : Wd} {cl : List Cls} {ma : Rho → M D} {a b : Expr} {p pos : Pos}
def rIsO (K : PySem.W.Frag) : List V → Hp → VK → Prop := fun xs H Q => ∃ (e C : Addr) (d : Option Addr) (c : V) (cv : Value) (r : Bool), xs = [.ref e, c] ∧ H e = some (exo e C d) ∧ (d = none ∨ ∃ dx fs, d = some dx ∧ H dx = some (exd dx fs)) ∧
  ExcC K C ∧ (∀ u, RelV c u → u = cv) ∧ PySem.W.kitOne K (.ref C) cv = some r ∧ Q (.bl r) H
theorem call_isO : CallR X (.builtin "isinstance") (rIsO X.K) := by
  intro pins s σ H xs us Q I r h
  obtain ⟨e, C, d, c, cv, b, rfl, he, hd, T, hcv, hk, q⟩ := h
  obtain ⟨u1, u2, rfl, r1, r2⟩ := vals2 r
  cases (show u1 = Value.ref e from r1)
  have ec := hcv _ r2
  subst ec
  obtain ⟨t1, hget⟩ := exo_at I.hok he
  have J : ∃ od, PySem.W.InstAt s.heap e { cls := .ref C, dict := d, data := .fields #[.ref t1, .none, .none, .none, .bool false, .none] } C od := by
    rcases hd with rfl | ⟨dx, fs, rfl, hdx⟩
    · exact ⟨none, hget, rfl, rfl, trivial⟩
    · obtain ⟨mA, ⟨od, es, ep, ho, _⟩, _⟩ := exd_at I.hok hdx
      exact ⟨some od, hget, rfl, rfl, ho⟩
  obtain ⟨od, J⟩ := J
  exact PySem.W.kia_one (PySem.W.kitx_excD T.hg T.hk T.hs T.hd T.ha T.hn T.ht T.hm) I.kIn J hk (fun z => nomatch z) fun tk => ⟨.bl b, H, I.kept (t' := tk) fun _ _ z => z, rfl, q⟩
def isoB (cl : List Cls) (y : Str) : D → Option Bool
  | .obj k _ _ => (clsOf cl k).bind fun kk => if (clsOf cl y).isSome then some (kk.up.contains y) else if y == "ValueError" then some true else none
  | _ => none
theorem iso_ok {mg : Str → Option Value} {K : PySem.W.Frag} {H : Hp} {ad : Pl} {x : V} {d : D} {y : Str} {r : Bool} {c : V} {cv : Value} {Q : VK} (ok : ClsOk mg K cl) (vl : ClsVal mg K cl) (hv : ∀ u, RelV c u → u = cv) (hy : (∃ k C, clsOf cl y = some k ∧ mg y = some (.ref C) ∧ cv = .ref C) ∨ (clsOf cl y = none ∧ y = "ValueError" ∧ cv = .type "ValueError"))
    (rp : Rp K H ad x d) (h : isoB cl y d = some r) (q : Q (.bl r) H) : rIsO K [x, c] H Q := by
  cases rp with
  | @obj a k ks vs ds ob _ =>
    have h : ((clsOf cl k).bind fun kk => if (clsOf cl y).isSome then some (kk.up.contains y) else if y == "ValueError" then some true else none) = some r := h
    obtain ⟨kk, h1, h2⟩ := Option.bind_eq_some_iff.mp h
    obtain ⟨km, kx⟩ := clsOf_ok h1
    obtain ⟨o1, o2, C, o3, o4⟩ := ob
    obtain ⟨C', gC⟩ := ok.at_ kk km
    have eC := vl.ns kk km C' gC
    rw [kx, o3] at eC
    cases eC
    have hk : PySem.W.kitOne K (.ref C) cv = some r := by
      rcases hy with ⟨k', C', y1, y2, rfl⟩ | ⟨y1, y2, rfl⟩
      · rw [y1, if_pos (show (some k' : Option Cls).isSome = true from rfl)] at h2
        obtain ⟨km', kx'⟩ := clsOf_ok y1
        rw [vl.kt kk km k' km' C C' gC (by rw [kx']; exact y2), kx']
        exact h2
      · rw [y1, if_neg (by simp), y2, if_pos (by decide)] at h2
        rw [vl.kv kk km C gC]
        exact h2
    rcases o4 with ⟨_, o4⟩ | ⟨dx, _, o4, o5⟩
    · exact ⟨a, C, none, c, cv, r, rfl, o4, .inl rfl, vl.ec kk km C gC, hv, hk, q⟩
    · exact ⟨a, C, some dx, c, cv, r, rfl, o4, .inr ⟨dx, _, rfl, o5⟩, vl.ec kk km C gC, hv, hk, q⟩
  | _ => cases h
def isoM (cl : List Cls) (y : Str) (ma : Rho → M D) (ρ : Rho) : M D := bd (ma ρ) fun d => lft ((isoB cl y d).map .bl)
theorem x_iso {y : Str} {c : V} {cv : Value} (hK : Z.K = X.K) (hmg : Z.mg = X.mg) (ok : ClsOk X.mg X.K cl) (vl : ClsVal X.mg X.K cl) (hv : ∀ u, RelV c u → u = cv) (hy : (∃ k C, clsOf cl y = some k ∧ X.mg y = some (.ref C) ∧ cv = .ref C) ∨ (clsOf cl y = none ∧ y = "ValueError" ∧ cv = .type "ValueError"))
    (hg : Gl X "isinstance") (hm : X.mg "isinstance" = none) (ha : PE X a (tE Z ma)) (hb : PE X b (tC c)) (he : starEach [a, b] X.env = (false, eval a X.env) :: starEach [b] X.env) (hb2 : starEach [b] X.env = (false, eval b X.env) :: starEach [] X.env) (hpl : (backTo pos (starEach [b] X.env)).any (·.1) = false) :
    PE X (.Call (.Name "isinstance" p) [a, b] [] pos) (tE Z (isoM cl y ma)) := by
  refine PEi (pe_callB call_isO hg hm PyProof.Rows.boot_isinstance (pa_cons ha (pa_cons hb pa_nil hb2) he) (by decide) (by decide) he hpl) fun σ H Q ⟨ad, ρ, μ, g, hl, h⟩ => ?_
  refine step g hl h fun x d H1 ad1 μ1 n1 g1 r1 q1 => ?_
  obtain ⟨r, e1, q2⟩ := sat_lft.mp q1
  obtain ⟨r', e2, e3⟩ := Option.map_eq_some_iff.mp e1
  subst e3
  exact iso_ok ok vl hv hy (by rw [← hK]; exact r1) e2 (q2 (.bl r') H1 ad1 n1 (.bl r'))
def atrB (cl : List Cls) (f : Str) : D → Option D
  | .obj k ks vs => (clsOf cl k).bind fun kk => if kk.fs.contains f then (ks.zip vs).lookup f else none
  | _ => none
def atrM (cl : List Cls) (f : Str) (ma : Rho → M D) (ρ : Rho) : M D := bd (ma ρ) fun d => lft (atrB cl f d)
theorem x_atr {f : Str} (hK : Z.K = X.K) (ok : ClsOk X.mg X.K cl) (vl : ClsVal X.mg X.K cl) (ha : PE X a (tE Z ma)) (hb : attributeBase a f X.env (eval a X.env) = eval a X.env) : PE X (.Attribute a f pos) (tE Z (atrM cl f ma)) := by
  refine ⟨fun pins s σ H Q I ⟨ad, ρ, μ, g, hl, h⟩ => ?_⟩
  have t : tE Z ma σ H fun x H1 => ∃ (e C dx : Addr) (fs : List (Str × V)) (v : V), x = .ref e ∧ H1 e = some (exo e C (some dx)) ∧ H1 dx = some (exd dx fs) ∧ XfC X.K C ∧ PySem.W.findIn X.K (.ref C) f = some none ∧ fs.lookup f = some v ∧ Q v H1 := by
    refine step g hl h fun x d H1 ad1 μ1 n1 g1 r1 q1 => ?_
    obtain ⟨dv, e1, q2⟩ := sat_lft.mp q1
    cases r1 with
    | @obj a k ks vs ds ob rs =>
      have e1 : ((clsOf cl k).bind fun kk => if kk.fs.contains f then (ks.zip ds).lookup f else none) = some dv := e1
      obtain ⟨kk, h1, h2⟩ := Option.bind_eq_some_iff.mp e1
      obtain ⟨km, kx⟩ := clsOf_ok h1
      obtain ⟨o1, o2, C, o3, o4⟩ := ob
      obtain ⟨C', gC⟩ := ok.at_ kk km
      have eC := vl.ns kk km C' gC
      rw [hK] at o3
      rw [kx, o3] at eC
      cases eC
      by_cases c : kk.fs.contains f = true
      · rw [if_pos c] at h2
        have fm := List.contains_iff_mem.mp c
        obtain ⟨T, no⟩ := ok.xf kk km (fun z => by rw [z] at fm; cases fm) C gC
        rcases o4 with ⟨o5, _⟩ | ⟨dx, _, o4, o5⟩
        · subst o5
          cases h2
        · have lv := o2
          have ld : ds.length = ks.length := by rw [← rs.length]; exact o2
          have e1' : (ks.zip vs).map (·.1) = (ks.zip ds).map (·.1) := by rw [zip_fst1 lv, zip_fst1 ld]
          have snd : ∀ {β : Type} {l : List β}, l.length = ks.length → (ks.zip l).map (·.2) = l := fun {β l} hl => List.map_snd_zip (by omega)
          obtain ⟨v, l1, l2⟩ := lookup_zip (R := fun v d => Rp Z.K H1 ad1 v d) e1' (fun i c hc => by
            rw [snd ld] at hc
            rw [snd lv]
            exact rs.get hc) h2
          exact ⟨a, C, dx, _, v, rfl, o4, o5, T, no f fm, l1, q2 v H1 ad1 n1 l2⟩
      · rw [if_neg c] at h2
        cases h2
    | _ => cases e1
  refine attr_of hb (thn (ha.run pins s σ H _ I t) fun u s1 ⟨x, H1, I1, rx, e, C, dx, fs, v, ex, he, hdx, T, no, l, q⟩ => ?_)
  subst ex
  obtain rfl : u = Value.ref e := rx
  obtain ⟨t1, hget⟩ := exo_at I1.hok he
  obtain ⟨mA, hns, hr⟩ := exd_at I1.hok hdx
  obtain ⟨od, ho, hlk⟩ := lookIn_ns hns
  obtain ⟨uu, hu, ru⟩ := RelO.some_of (v := v) (o := mA f) (by rw [← l]; exact hr f)
  have J : PySem.W.InstAt s1.heap e { cls := .ref C, dict := some dx, data := .fields #[.ref t1, .none, .none, .none, .bool false, .none] } C (some od) := ⟨hget, rfl, rfl, ho⟩
  exact PySem.HandSPX.exc_get I1.kIn J T.ga T.gg T.exC (PySem.W.findObj_own T.hdC no rfl (by rw [hlk, hu])) (handed_of ru) ⟨v, H1, I1.tok _, ru, q⟩
end
end PX
namespace PX
open PySem PySem.Spec PyProof.Rows L2
variable [Tabc]
/-! ### 27. the evaluator on the text -/
structure Sc where
  s : Scope
  o : Option Scope
  lam : Bool
def Sc.fn (S : Sc) (x : Str) : Bool := match S.o with
  | none => true
  | some sc => sc.names.lookup x == some .cell
structure FE where
  ps : List Str
  sh : List Shape
  F : List D → M D
inductive GV where
  | fn (f : FE)
  | bi (id : String)
  | co (d : D)
structure Gam where
  N : List Str
  gl : List (Str × GV)
  mt : List Str
  cl : List Cls
  hd : List (Str × List (Str × HX))
  lm : Bool
  k : Nat
/-- a def that hears, by its text -/
def HeardAt (mg : Str → Option Value) (K : PySem.W.Frag) (cl : List Cls) (x : Str) (h : List (Str × HX)) : Prop :=
  ∃ (g : Addr) (pg : Arguments) (bg : List Stmt) (sg : Scope) (dV kV doc pm cdv ct oc : Value) (an od : Option Addr) (osl : Array (Option Value)) (Ng : List Str) (a : Str) (hs : List (Str × Option Str × HX)),
    mg x = some (.ref g) ∧ PySem.W.keepIn K (.ref g) = true ∧ K.lookup g = some ⟨oc, od, .func (PySem.W.fnOf x x pg bg sg dV kV doc pm an cdv ct), osl⟩ ∧ PySem.W.codeIn K cdv x = true ∧
      (∀ (s : Shared) (u : Value), BindsTo s (PySem.W.fnOf x x pg bg sg dV kV doc pm an cdv ct) ⟨[u], []⟩ [(a, u)]) ∧ FnScope Ng [a] sg ∧ sg.names.lookup a = some .local ∧ okName a = true ∧ hearB bg = some (a, hs) ∧ (∀ p ∈ hs, clauseB cl Ng sg p = true) ∧ h = hs.map fun p => (p.1, p.2.2)
def bltNames : List Str := ["len", "abs", "max", "min", "int", "sum", "tuple", "list", "repr", "isinstance", "range", "zip", "enumerate", "str", "bool", "dict", "set", "all", "any", "sorted", "frozenset", "ValueError"]
structure Ok (G : Gam) (S : Sc) (X : Cx) (W : WX) : Prop where
  sc : X.env.scope = S.s
  N : X.N = G.N
  nd : G.N.Nodup
  calm : X.calm = true
  gd : X.A.guards = some []
  un : X.A.units + 200 < cLine
  tk : Takes X W
  fn : ∀ x, X.fn x = S.fn x
  mgn : ∀ x ∈ bltNames, X.mg x = none
  fe : ∀ x f, (x, GV.fn f) ∈ G.gl → ∃ a fd, X.mg x = some (.ref a) ∧ PySem.W.keepIn X.K (.ref a) = true ∧ FnG X.prog X.w X.K X.mg X.base G.k a fd f.ps (spF X.mg X.K f.ps.length f.F) ∧ ∀ s ∈ f.sh, BindOk X.K fd f.ps s
  bi : ∀ x id, (x, GV.bi id) ∈ G.gl → X.mg x = some (.builtin id)
  room : Room (G.k + if S.lam then 0 else 2) X.A
  hc : ClsOk X.mg X.K G.cl
  up : ClsUp X.prog X.w X.mg X.K G.cl
  vl : ClsVal X.mg X.K G.cl
  co : ∀ x d, (x, GV.co d) ∈ G.gl → scD d = true ∧ ∃ u, X.mg x = some u ∧ RelV (scV d) u
  hd : ∀ x h, (x, h) ∈ G.hd → HeardAt X.mg X.K G.cl x h
  lb : S.lam = false → S.o = none → G.lm = true → Lamb X
def zo (X : Cx) (G : Gam) (W : WX) : Wd := ⟨X.K, X.mg, W, G.N.length⟩
def noM {α : Type} : Rho → M α := fun _ => stk
def isGl (S : Sc) (x : Str) : Bool := S.s.names.lookup x == some .globalImplicit && !(x == ("__debug__" : Str)) && !(x == ("__name__" : Str))
def isVis (S : Sc) (x : Str) : Bool := (S.s.names.lookup x == some .local || S.s.names.lookup x == some .cell || S.s.names.lookup x == some .free) && !(x == ("__debug__" : Str)) && !(x == ("__classdict__" : Str))
def isAsg (S : Sc) (x : Str) : Bool := S.s.names.lookup x == some .local || (S.s.names.lookup x == some .cell && S.fn x)
def typeNames : List (Str × String) := [("int", "int"), ("str", "str"), ("tuple", "tuple"), ("list", "list"), ("bool", "bool")]
def nameM (G : Gam) (S : Sc) (x : Str) : Rho → M D :=
  if isVis S x then (match ixOf G.N x with
    | some i => gV i
    | none => noM)
  else if isGl S x then (match G.gl.lookup x with
    | some (.co d) => fun _ => rt d
    | some _ => noM
    | none => (match typeNames.lookup x with
      | some n => fun _ => rt (.ty n)
      | none => noM))
  else noM
def conM : Const → Rho → M D
  | .none => fun _ => rt .non
  | .bool b => fun _ => rt (.bl b)
  | .int i => fun _ => rt (.int i)
  | .str x => fun _ => rt (.str x)
  | _ => noM
def binF : Operator → Option (D → D → M D)
  | .Add => some addD
  | .Sub => some subD
  | .Mult => some mulD
  | .FloorDiv => some fdivD
  | .Mod => some modD
  | .Pow => some powD
  | _ => none
def cmpF : CmpOp → Option (D → D → M D)
  | .Eq => some eqD
  | .NotEq => some neD
  | .Lt => some ltD
  | .LtE => some leD
  | .Gt => some gtD
  | .GtE => some geD
  | .Is => some isD
  | .IsNot => some isNotD
  | .In => some inD
  | .NotIn => some ninD
def bltF (x : Str) : Option (List D → M D) :=
  if x == "len" then some lenF else if x == "int" then some intF else if x == "tuple" then some tupF else if x == "repr" then some repF else if x == "sum" then some sumF else if x == "list" then some lstF else
  if x == "isinstance" then some isaF else if x == "abs" then some absF else if x == "max" then some maxF else if x == "min" then some minF else if x == "all" then some allF else if x == "any" then some anyF else none
def op2 (ma mb : Rho → M D) (f : D → D → M D) (ρ : Rho) : M D := bd (ma ρ) fun x => bd (mb ρ) fun y => f x y
def noStar : List Expr → Bool
  | [] => true
  | .Starred .. :: _ => false
  | _ :: r => noStar r
def notSet : Expr → Bool
  | .Set .. => false
  | _ => true
def noComp : Expr → Bool
  | .ListComp .. => false
  | .SetComp .. => false
  | .DictComp .. => false
  | _ => true
structure EvS where
  e : Sc → Expr → Rho → M D
  t : Sc → Expr → Rho → M Bool
  s : Sc → Stmt → Rho → M Fl
def partM (R : EvS) (S : Sc) : Option Expr → Rho → M (Option Int)
  | none => fun _ => rt none
  | some e => fun ρ => bd (R.e S e ρ) fun d => bd (asI d) fun i => rt (some i)
def slM (a : Rho → M D) (l u : Rho → M (Option Int)) (ρ : Rho) : M D := bd (a ρ) fun x => bd (l ρ) fun lo => bd (u ρ) fun hi => slD x lo hi
def callF (F : List D → M D) (S : Shape) (n : Nat) (as ks : List (Rho → M D)) (ρ : Rho) : M D := bd (evA as ρ) fun ds => bd (evA ks ρ) fun zs => callM F S n ds zs
def callFn (R : EvS) (S : Sc) (f : FE) (args : List Expr) (kws : List Keyword) : Rho → M D :=
  if kws.all (·.arg.isSome) then (match f.sh.find? fun s => s.np == args.length && s.ks == kws.filterMap (·.arg) with
    | some s => callF f.F s f.ps.length (args.map (R.e S)) (kws.map fun k => R.e S k.value)
    | none => noM)
  else noM
def appM {α : Type} (f : List D → M α) (as : List (Rho → M D)) (ρ : Rho) : M α := bd (evA as ρ) f
/-- an exception made as a value -/
def objN (R : EvS) (S : Sc) (k : Cls) (args : List Expr) (kws : List Keyword) : Rho → M D :=
  if kws.isEmpty then (if args.isEmpty == k.fs.isEmpty then appM (objR k) (args.map (R.e S)) else noM)
  else if args.isEmpty && !k.fs.isEmpty && kws.all (·.arg.isSome) && kws.filterMap (·.arg) == k.fs then appM (objR k) (kws.map fun w => R.e S w.value) else noM
/-- isinstance(a, y), y a class -/
def isoN (G : Gam) (R : EvS) (S : Sc) (x : Str) (args : List Expr) (kws : List Keyword) : Option (Rho → M D) := match args with
  | [a, .Name y _] => if x == "isinstance" && kws.isEmpty && isGl S y && ((clsOf G.cl y).isSome || y == "ValueError") then some (isoM G.cl y (R.e S a)) else none
  | _ => none
def callN (G : Gam) (R : EvS) (S : Sc) (x : Str) (args : List Expr) (kws : List Keyword) : Rho → M D :=
  if isGl S x && noStar args then (match G.gl.lookup x with
    | some (.fn f) => callFn R S f args kws
    | some (.bi id) => if id == "math.gcd" && kws.isEmpty && !args.isEmpty then appM gcdF (args.map (R.e S)) else noM
    | some (.co _) => noM
    | none => (match clsOf G.cl x with
      | some k => objN R S k args kws
      | none => (match isoN G R S x args kws with
        | some m => m
        | none => if kws.isEmpty && !args.isEmpty then (match bltF x with
          | some f => appM f (args.map (R.e S))
          | none => noM) else noM)))
  else noM
def tgNames (G : Gam) (S : Sc) : List Expr → Option (List Nat)
  | [] => some []
  | .Name x _ :: r => if isAsg S x then (ixOf G.N x).bind fun i => (tgNames G S r).map fun is => i :: is else none
  | _ :: _ => none
def tgOf (G : Gam) (S : Sc) : Expr → Option Tg
  | .Name x _ => if isAsg S x then (ixOf G.N x).map .v else none
  | .Tuple es _ _ => (tgNames G S es).map .t
  | _ => none
def isTup : Expr → Bool
  | .Tuple .. => true
  | _ => false
def iterM (R : EvS) (S : Sc) (tg iter : Expr) : Rho → M (List D) :=
  let other : Rho → M (List D) := fun ρ => bd (R.e S iter ρ) itX
  match iter with
  | .Call (.Name x _) [a] [] _ => if isGl S x && noStar [a] && x == "range" then fun ρ => bd (evA [R.e S a] ρ) rng1
    else if isGl S x && noStar [a] && x == "enumerate" && isTup tg then fun ρ => bd (evA [R.e S a] ρ) enumM else other
  | .Call (.Name x _) [a, b] [] _ => if isGl S x && noStar [a, b] && x == "range" then fun ρ => bd (evA [R.e S a, R.e S b] ρ) rng2
    else if isGl S x && noStar [a, b] && x == "zip" && isTup tg then fun ρ => bd (evA [R.e S a, R.e S b] ρ) zipM else other
  | _ => other
def ownOf (N : List Str) (scope : Scope) : List (Str × Nat) := scope.names.filterMap fun y => if y.2 == .local || y.2 == .cell then (ixOf N y.1).map fun i => (y.1, i) else none
def condM (R : EvS) (S : Sc) : List Expr → Rho → M Bool
  | [] => fun _ => rt true
  | [c] => R.t S c
  | _ => noM
def inner (S : Sc) (scope : Scope) : Sc := ⟨relS scope S.s, some scope, S.lam⟩
/-- a name whose list may stand in the store -/
def inMt (G : Gam) : Expr → Bool
  | .Name y _ => G.mt.contains y
  | _ => false
def compM (mk : List D → M D) (G : Gam) (R : EvS) (S : Sc) (elt tg iter : Expr) (ifs : List Expr) (scope : Scope) : Rho → M D :=
  if notSet iter && blkC G.N S.s scope (ownOf G.N scope) then (match tgOf G (inner S scope) tg with
    | some t => if t.slots.all fun j => ((ownOf G.N scope).map (·.2)).contains j then (if inMt G iter then lcQ mk (R.e S iter) t (condM R (inner S scope) ifs) (R.e (inner S scope) elt) ((ownOf G.N scope).map (·.2)) else lcG mk (iterM R S tg iter) t (condM R (inner S scope) ifs) (R.e (inner S scope) elt) ((ownOf G.N scope).map (·.2))) else noM
    | none => noM)
  else noM
/-- the slots of a lambda's own names -/
def locIx (scope : Scope) : List Str → Nat → List Nat
  | [], _ => []
  | y :: r, i => if scope.names.lookup y == some .local then i :: locIx scope r (i + 1) else locIx scope r (i + 1)
def hearN (G : Gam) (R : EvS) (S : Sc) (x : Str) (params : Arguments) (body : Expr) (scope : Scope) : Rho → M D :=
  if isGl S x && !S.lam && S.o.isNone && G.lm then (match G.hd.lookup x, lamForm params with
    | some h, some ds => if lmSB S.s scope ds then fun ρ => hdM G.cl h (R.e ⟨scope, some scope, true⟩ body (wipeD ρ (locIx scope G.N 0))) else noM
    | _, _ => noM)
  else noM
def methN (R : EvS) (S : Sc) (y name : Str) (yp apos cpos : Pos) (args : List Expr) : Rho → M D :=
  if noStar args && decide (args.length < 30) && !args.isEmpty && apos.endLine == cpos.line then (
    if name == "append" then methM (R.e S (.Name y yp)) (args.map (R.e S)) chkL appD
    else if name == "extend" then methM (R.e S (.Name y yp)) (args.map (R.e S)) chkL extD
    else noM)
  else noM
def dictKs : List (Option Expr) → Option (List Str)
  | [] => some []
  | some (.Constant (.str k) _ _) :: r => (dictKs r).map fun ks => k :: ks
  | _ => none
def stE (G : Gam) (R : EvS) (S : Sc) (e : Expr) : Rho → M D := match e with
  | .Name x _ => nameM G S x
  | .Constant c _ _ => conM c
  | .BinOp a op b _ => (match binF op with
    | some f => op2 (R.e S a) (R.e S b) f
    | none => noM)
  | .UnaryOp .USub a _ => fun ρ => bd (R.e S a ρ) negD
  | .UnaryOp .Not a _ => fun ρ => bd (R.e S a ρ) fun d => bd (asB d) fun b => rt (.bl (!b))
  | .Compare a [op] [b] _ => if behindInMarks op b then noM else (match cmpF op with
    | some f => op2 (R.e S a) (R.e S b) f
    | none => noM)
  | .BoolOp .And (a :: b :: r) pos => fun ρ => ifB (bd (R.e S a ρ) asB) (R.e S (.BoolOp .And (b :: r) pos) ρ) (rt (.bl false))
  | .BoolOp .Or (a :: b :: r) pos => fun ρ => ifB (bd (R.e S a ρ) asB) (rt (.bl true)) (R.e S (.BoolOp .Or (b :: r) pos) ρ)
  | .BoolOp _ [a] _ => R.e S a
  | .IfExp c a b _ => fun ρ => ifB (R.t S c ρ) (R.e S a ρ) (R.e S b ρ)
  | .Tuple es _ _ => if noStar es then appM mkT (es.map (R.e S)) else noM
  | .List es _ => if noStar es then appM mkL (es.map (R.e S)) else noM
  | .Subscript a (.Slice lo hi none _) _ => slM (R.e S a) (partM R S lo) (partM R S hi)
  | .Subscript _ (.Slice _ _ (some _) _) _ => noM
  | .Subscript a b _ => op2 (R.e S a) (R.e S b) ixD
  | .ListComp elt [⟨tg, iter, ifs, 0⟩] scope _ => compM mkL G R S elt tg iter ifs scope
  | .Dict keys values _ => (match dictKs keys with
    | some ks => if ks.length == values.length && !ks.isEmpty && decide (ks.length ≤ 15) then dispM (ks.zip (values.map (R.e S))) else noM
    | none => noM)
  | .Call (.Name x _) [.Lambda params body scope _] [] _ => hearN G R S x params body scope
  | .Call (.Name x _) args kws _ => callN G R S x args kws
  | .Call (.Attribute (.Name y yp) name apos) args [] cpos => methN R S y name yp apos cpos args
  | .Attribute (.Subscript a i p) f _ => atrM G.cl f (R.e S (.Subscript a i p))
  | _ => noM
def plainT : Expr → Bool
  | .UnaryOp .Not _ _ => false
  | .BoolOp .. => false
  | .IfExp .. => false
  | .Compare .. => false
  | _ => true
def stT (G : Gam) (R : EvS) (S : Sc) (e : Expr) : Rho → M Bool := match e with
  | .UnaryOp .Not a _ => fun ρ => bd (R.t S a ρ) fun b => rt (!b)
  | .BoolOp .And (a :: b :: r) pos => fun ρ => ifB (R.t S a ρ) (R.t S (.BoolOp .And (b :: r) pos) ρ) (rt false)
  | .BoolOp .Or (a :: b :: r) pos => fun ρ => ifB (R.t S a ρ) (rt true) (R.t S (.BoolOp .Or (b :: r) pos) ρ)
  | .BoolOp _ [a] _ => R.t S a
  | .Compare a [op] [b] _ => if behindInMarks op b then noM else (match cmpF op with
    | some f => fun ρ => bd (op2 (R.e S a) (R.e S b) f ρ) asB
    | none => noM)
  | e => if plainT e then fun ρ => bd (R.e S e ρ) asB else noM
def seqs (R : EvS) (S : Sc) : List Stmt → Rho → M Fl
  | [] => fun ρ => rt (.nx ρ)
  | st :: r => fun ρ => seqS (R.s S st ρ) (seqs R S r)
def bkOf (sc : Scope) : ScopeKind := if sc.kind.isAnnotationScope then .function else sc.kind
def swOf (ts vs : List Expr) (sc : Scope) : Option (Option (List Str)) :=
  if !(ts.length == 2 || ts.length == 3) || vs.length != ts.length || bkOf sc != .function then some none
  else if vs.any fun | .Starred .. => true | _ => false then some none
  else
    let line := (ts.head?.map (·.pos.line)).getD 0
    let names := ts.filterMap fun
      | .Name id pos => if sc.names.lookup id == some .local && pos.line == line then some id else none
      | _ => none
    if names.length != ts.length || names.eraseDups.length != names.length then some none
    else if vs.all (foldedForSure 8) then some none
    else if vs.all (constantsAlone 8) then none
    else some (some names)
def setM (me : Rho → M D) (i : Nat) (ρ : Rho) : M Fl := bd (me ρ) fun d => rt (.nx (ρ.set i (some d)))
def asgM (me : Rho → M D) (t : Tg) (ρ : Rho) : M Fl := bd (me ρ) fun d => bd (lft (setTg t d ρ)) fun ρ' => rt (.nx ρ')
def putM (mo mi mv : Rho → M D) (ρ : Rho) : M Fl := bd (mv ρ) fun v => bd (mo ρ) fun d => bd (mi ρ) fun e => bd (putD d e v) fun _ => rt (.nx ρ)
def notSl : Expr → Bool
  | .Slice .. => false
  | _ => true
/-- a list that is made in the store -/
def mtE (R : EvS) (S : Sc) (v : Expr) : Rho → M D := match v with
  | .List es _ => if noStar es then appM mkR (es.map (R.e S)) else noM
  | .BinOp a .Mult b _ => op2 (R.e S a) (R.e S b) mulR
  | .BinOp a .Add b _ => op2 (R.e S a) (R.e S b) addR
  | .Call (.Name x _) [a] [] _ => if x == "list" && isGl S x && noStar [a] then appM lstR [R.e S a] else R.e S v
  | v => R.e S v
def nameAsg (G : Gam) (R : EvS) (S : Sc) (y : Str) (v : Expr) : Rho → M Fl :=
  if isAsg S y then (match ixOf G.N y with
    | some i => (match v with
      | .ListComp elt [⟨tg, iter, ifs, 0⟩] scope _ => setM (compM (if G.mt.contains y then mkR else mkL) G R S elt tg iter ifs scope) i
      | v => if noComp v then (if G.mt.contains y then setM (mtE R S v) i else setM (R.e S v) i) else noM)
    | none => noM)
  else noM
def raiseN (G : Gam) (R : EvS) (S : Sc) (x : Str) (args : List Expr) : Rho → M Fl :=
  if isGl S x && noStar args then (match clsOf G.cl x with
    | some k => if args.isEmpty == k.fs.isEmpty then raiM k (args.map (R.e S)) else noM
    | none => noM)
  else noM
def tupAsg (G : Gam) (R : EvS) (S : Sc) (tg v : Expr) (ts : List Expr) : Rho → M Fl := match v with
  | .Tuple vs _ _ => (match swOf ts vs S.s with
    | some none => (match tgOf G S tg with
      | some t => asgM (R.e S v) t
      | none => noM)
    | some (some names) => (match ts, vs with
      | [.Name x _, .Name y _], [a, b] => if names == [x, y] && S.s.names.lookup x == some .local && S.s.names.lookup y == some .local && noStar [a, b] then (match ixOf G.N x, ixOf G.N y with
        | some i, some j => if i == j then noM else asgM (appM mkT [R.e S a, R.e S b]) (.t [i, j])
        | _, _ => noM) else noM
      | _, _ => noM)
    | none => noM)
  | v => if noComp v then (match tgOf G S tg with
      | some t => asgM (R.e S v) t
      | none => noM) else noM
def stS (G : Gam) (R : EvS) (S : Sc) (st : Stmt) : Rho → M Fl := match st with
  | .Pass _ => fun ρ => rt (.nx ρ)
  | .Break _ => fun ρ => rt (.bk ρ)
  | .Continue _ => fun ρ => rt (.ct ρ)
  | .Return none _ => fun _ => rt (.rt .non)
  | .Return (some e) _ => fun ρ => bd (R.e S e ρ) fun d => rt (.rt d)
  | .If c a b _ => fun ρ => ifB (R.t S c ρ) (seqs R S a ρ) (seqs R S b ρ)
  | .For tg iter body [] _ => if notSet iter then (match tgOf G S tg with
    | some t => if inMt G iter then fun ρ => bd (R.e S iter ρ) fun d => forQ t (seqs R S body) d ρ else fun ρ => bd (iterM R S tg iter ρ) fun ds => forD t (seqs R S body) ds ρ
    | none => noM) else noM
  | .While c body [] _ => fun ρ => whD (R.t S c) (seqs R S body) WF ρ
  | .Raise (some (.Call (.Name x _) args [] _)) none _ => raiseN G R S x args
  | .Expr e _ => if noComp e then fun ρ => bd (R.e S e ρ) fun _ => rt (.nx ρ) else noM
  | .Assign [.Name y _] v _ => nameAsg G R S y v
  | .Assign [.Tuple ts k p] v _ => tupAsg G R S (.Tuple ts k p) v ts
  | .Assign [.Subscript o i _] v _ => if notSl i then putM (R.e S o) (R.e S i) (R.e S v) else noM
  | _ => noM
def step0 : EvS := ⟨fun _ _ => noM, fun _ _ => noM, fun _ _ => noM⟩
def stepR (G : Gam) (R : EvS) : EvS := ⟨stE G R, stT G R, stS G R⟩
def ev (G : Gam) : Nat → EvS
  | 0 => step0
  | n + 1 => stepR G (ev G n)
end PX
namespace PX
open PySem PySem.Spec PyProof.Rows L2
variable [Tabc]
variable {G : Gam} {S : Sc} {X : Cx} {W : WX}
/-! ### 28. it tells what the text does -/
theorem pe_stk {Z : Wd} {e : Expr} : PE X e (tE Z noM) := ⟨fun pins s σ H Q I ⟨ad, ρ, μ, g, hl, h⟩ => h.elim⟩
theorem pt_stk {Z : Wd} {e : Expr} : PT X e (tT Z noM) := ⟨fun pins s σ H Q I ⟨ad, ρ, μ, g, hl, h⟩ => h.elim⟩
theorem ps_stk {Z : Wd} {e : Stmt} : PS X e (tS Z noM) := ⟨fun pins s σ H Q I ⟨ad, ρ, μ, g, hl, h⟩ => h.elim⟩
theorem pw_stk {Z : Wd} {e : Expr} : PW X e (tT Z noM) := ⟨fun wh pins s σ H Q I ⟨ad, ρ, μ, g, hl, h⟩ => h.elim⟩
theorem pi_stk {Z : Wd} {tg e : Expr} : PI X tg e (tI Z noM) := ⟨fun pins s σ H Q I ⟨ad, ρ, μ, g, hl, h⟩ => h.elim⟩
theorem pts_stk {Z : Wd} {e : List Expr} : PTs X e (tT Z noM) := ⟨fun pins s σ H Q I ⟨ad, ρ, μ, g, hl, h⟩ => h.elim⟩
theorem isGl_ok (ok : Ok G S X W) {x : Str} (h : isGl S x = true) : Gl X x ∧ (x == ("__debug__" : Str)) = false ∧ x ≠ "__name__" := by
  unfold isGl at h
  simp only [Bool.and_eq_true, Bool.not_eq_true'] at h
  refine ⟨?_, h.1.2, fun z => ?_⟩
  · show X.env.scope.names.lookup x = _
    rw [ok.sc]
    exact eq_of_beq h.1.1
  · rw [z] at h
    exact absurd h.2 (by decide)
theorem isVis_ok (ok : Ok G S X W) {x : Str} (h : isVis S x = true) : Vis X.env.scope x ∧ (x == ("__debug__" : Str)) = false ∧ (x == ("__classdict__" : Str)) = false := by
  unfold isVis at h
  simp only [Bool.and_eq_true, Bool.not_eq_true', Bool.or_eq_true] at h
  refine ⟨?_, h.1.2, h.2⟩
  unfold Vis
  rw [ok.sc]
  rcases h.1.1 with (z | z) | z
  · exact .inl (eq_of_beq z)
  · exact .inr (.inl (eq_of_beq z))
  · exact .inr (.inr (eq_of_beq z))
theorem isAsg_ok (ok : Ok G S X W) {x : Str} (h : isAsg S x = true) : Loc X.env.scope x ∧ (X.fn x = true ∨ X.env.scope.names.lookup x = some .local) := by
  unfold isAsg at h
  simp only [Bool.and_eq_true, Bool.or_eq_true] at h
  unfold L2.Loc
  rw [ok.sc, ok.fn]
  rcases h with z | ⟨z, w⟩
  · exact ⟨.inl (eq_of_beq z), .inr (eq_of_beq z)⟩
  · exact ⟨.inr (eq_of_beq z), .inl w⟩
theorem pe_tyName {x : Str} {n : String} {pos : Pos} (hg : Gl X x) (hm : X.mg x = none) (hv : bootBuiltins x = some (.type n)) (hn : x ≠ "__name__") (hd : (x == ("__debug__" : Str)) = false) : PE X (.Name x pos) (tC (.ty n)) :=
  ⟨fun pins s σ H Q I h => ld_blt I hg hm hv ⟨.ty n, H, I, rfl, h⟩ hn hd⟩
theorem nameM_ok (ok : Ok G S X W) {x : Str} {pos : Pos} : PE X (.Name x pos) (tE (zo X G W) (nameM G S x)) := by
  unfold nameM
  by_cases c : isVis S x = true
  · rw [if_pos c]
    obtain ⟨h1, h2, h3⟩ := isVis_ok ok c
    cases h : ixOf G.N x with
    | none => exact pe_stk
    | some i => exact x_var (by rw [ok.N]; exact ixOf_ok h) h1 h2 h3
  · rw [if_neg c]
    by_cases c : isGl S x = true
    · rw [if_pos c]
      obtain ⟨h1, h2, h3⟩ := isGl_ok ok c
      cases hl : G.gl.lookup x with
      | some v =>
        cases v with
        | fn f => exact pe_stk
        | bi id => exact pe_stk
        | co d =>
          obtain ⟨sd, u, hm, ru⟩ := ok.co x d (PySem.mem_of_lookup hl)
          refine x_con (v := scV d) (pe_glob h1 hm ru h2) fun H ad => ?_
          cases d with
          | non => exact .non
          | bl b => exact .bl b
          | int i => exact .int i
          | str x => exact .str x
          | _ => exact (Bool.false_ne_true sd).elim
      | none =>
        dsimp only
        cases h : typeNames.lookup x with
        | none => exact pe_stk
        | some n =>
          refine x_con (v := .ty n) ?_ fun H ad => .ty n
          have m : (x, n) ∈ typeNames := PySem.mem_of_lookup h
          unfold typeNames at m
          simp only [List.mem_cons, Prod.mk.injEq, List.mem_nil_iff, or_false] at m
          rcases m with ⟨rfl, rfl⟩ | ⟨rfl, rfl⟩ | ⟨rfl, rfl⟩ | ⟨rfl, rfl⟩ | ⟨rfl, rfl⟩
          · exact pe_tyName h1 (ok.mgn _ (by simp [bltNames])) boot_int h3 h2
          · exact pe_tyName h1 (ok.mgn _ (by simp [bltNames])) boot_str h3 h2
          · exact pe_tyName h1 (ok.mgn _ (by simp [bltNames])) boot_tuple h3 h2
          · exact pe_tyName h1 (ok.mgn _ (by simp [bltNames])) boot_list h3 h2
          · exact pe_tyName h1 (ok.mgn _ (by simp [bltNames])) boot_bool h3 h2
    · rw [if_neg c]
      exact pe_stk
theorem conM_ok (ok : Ok G S X W) {c : Const} {k : Nat} {pos : Pos} : PE X (.Constant c k pos) (tE (zo X G W) (conM c)) := by
  cases c with
  | none => exact x_con pe_non fun _ _ => .non
  | bool b => exact x_con pe_bl fun _ _ => .bl b
  | int i => exact x_con pe_int fun _ _ => .int i
  | str x => exact x_con pe_str fun _ _ => .str x
  | float _ => exact pe_stk
  | complex _ _ => exact pe_stk
  | bytes _ => exact pe_stk
  | ellipsis => exact pe_stk
theorem binF_ok (ok : Ok G S X W) {op : Operator} {f : D → D → M D} {a b : Expr} {ma mb : Rho → M D} {pos : Pos} (h : binF op = some f) (ha : PE X a (tE (zo X G W) ma)) (hb : PE X b (tE (zo X G W) mb)) :
    PE X (.BinOp a op b pos) (tE (zo X G W) (op2 ma mb f)) := by
  cases op <;> cases h
  · exact x_op op_addX v_add ha hb
  · exact x_op op_sub v_sub ha hb
  · exact x_op op_mulA v_mul ha hb
  · exact x_op op_modN v_mod ha hb
  · exact x_op op_pow v_pow ha hb
  · exact x_op op_fdivX v_fdiv ha hb
theorem un64 (ok : Ok G S X W) : X.A.units + 64 < cLine := by have := ok.un; omega
theorem cmpF_ok (ok : Ok G S X W) {op : CmpOp} {f : D → D → M D} (h : cmpF op = some f) : ∃ r, OpR X (compareOp op) r ∧ V2 (zo X G W) r f := by
  cases op <;> cases h
  · exact ⟨_, op_eqX (un64 ok), v_eq⟩
  · exact ⟨_, op_neX (un64 ok), v_ne⟩
  · exact ⟨_, op_lt, v_lt⟩
  · exact ⟨_, op_le, v_le⟩
  · exact ⟨_, op_gt, v_gt⟩
  · exact ⟨_, op_ge, v_ge⟩
  · exact ⟨_, op_isN, v_is⟩
  · exact ⟨_, op_notN, v_isNot⟩
  · exact ⟨_, op_inQ (by have := ok.un; omega), v_in⟩
  · exact ⟨_, op_ninQ (by have := ok.un; omega), v_nin⟩
theorem star_no {e : Expr} {es : List Expr} {env : Env} (h : noStar (e :: es) = true) : starEach (e :: es) env = (false, eval e env) :: starEach es env ∧ noStar es = true := by
  cases e <;> first | exact ⟨rfl, h⟩ | exact nomatch h
theorem star_any : ∀ {es : List Expr} {pos : Pos} {env : Env}, noStar es = true → (backTo pos (starEach es env)).any (·.1) = false
  | [], _, _, _ => rfl
  | e :: es, pos, env, h => by
    obtain ⟨h1, h2⟩ := star_no (env := env) h
    rw [h1]
    show (false || (backTo pos (starEach es env)).any (·.1)) = false
    rw [star_any h2]
    rfl
theorem args_ok {R : EvS} {Z : Wd} (hR : ∀ e, PE X e (tE Z (R.e S e))) : ∀ {es : List Expr}, noStar es = true → PA X es (tA Z (evA (es.map (R.e S))))
  | [], _ => x_nil
  | e :: es, h => x_cons (hR e) (args_ok hR (star_no (env := X.env) h).2) (star_no h).1
theorem kws_ok {R : EvS} {Z : Wd} (hR : ∀ e, PE X e (tE Z (R.e S e))) : ∀ {kws : List Keyword}, PK X kws (tA Z (evA (kws.map fun k => R.e S k.value)))
  | [] => x_kwnil
  | ⟨n, v, p⟩ :: kws => x_kwcons (hR v) (kws_ok hR)
theorem kw_args {pos : Pos} {env : Env} : ∀ {kws : List Keyword}, (backToKw pos (keywordEach kws env)).map (·.1) = kws.map (·.arg)
  | [] => rfl
  | ⟨n, v, p⟩ :: kws => by
    show n :: (backToKw pos (keywordEach kws env)).map (·.1) = n :: kws.map (·.arg)
    rw [kw_args]
theorem kw_all {pos : Pos} {env : Env} {kws : List Keyword} (h : kws.all (·.arg.isSome) = true) : (backToKw pos (keywordEach kws env)).all (·.1.isSome) = true := by
  have e : (backToKw pos (keywordEach kws env)).all (·.1.isSome) = ((backToKw pos (keywordEach kws env)).map (·.1)).all (·.isSome) := by rw [List.all_map]; rfl
  rw [e, kw_args, List.all_map]
  exact h
theorem kw_any {pos : Pos} {env : Env} {kws : List Keyword} (h : kws.all (·.arg.isSome) = true) : (backToKw pos (keywordEach kws env)).any (·.1.isNone) = false := by
  have z := kw_all (pos := pos) (env := env) h
  rw [List.all_eq_true] at z
  rw [Bool.eq_false_iff]
  intro w
  obtain ⟨x, hx, hn⟩ := List.any_eq_true.mp w
  have := z x hx
  cases hq : x.1 with
  | none => rw [hq] at this; cases this
  | some _ => rw [hq] at hn; cases hn
theorem kw_names {pos : Pos} {env : Env} {kws : List Keyword} : (backToKw pos (keywordEach kws env)).filterMap (·.1) = kws.filterMap (·.arg) := by
  have e : ∀ {α : Type} (l : List (Option Str × α)), l.filterMap (·.1) = (l.map (·.1)).filterMap id := fun l => by rw [List.filterMap_map]; rfl
  have e2 : ∀ (l : List Keyword), l.filterMap (·.arg) = (l.map (·.arg)).filterMap id := fun l => by rw [List.filterMap_map]; rfl
  rw [e, e2, kw_args]
theorem callFn_ok {R : EvS} (ok : Ok G S X W) (hR : ∀ e, PE X e (tE (zo X G W) (R.e S e))) {f : FE} {x : Str} {args : List Expr} {kws : List Keyword} {p pos : Pos} (hm : (x, GV.fn f) ∈ G.gl) (hg : isGl S x = true) (hs : noStar args = true) :
    PE X (.Call (.Name x p) args kws pos) (tE (zo X G W) (callFn R S f args kws)) := by
  obtain ⟨h1, h2, h3⟩ := isGl_ok ok hg
  unfold callFn
  by_cases c : kws.all (·.arg.isSome) = true
  · rw [if_pos c]
    cases hf : f.sh.find? fun s => s.np == args.length && s.ks == kws.filterMap (·.arg) with
    | none => exact pe_stk
    | some s =>
      have hp := List.find?_some hf
      simp only [Bool.and_eq_true] at hp
      have hk : s.ks = kws.filterMap (·.arg) := eq_of_beq hp.2
      obtain ⟨a, fd, e1, e2, e4, e5⟩ := ok.fe _ _ hm
      have e3 : Room G.k X.A := ok.room.mono (Nat.le_add_right _ _)
      have hb := e5 s (List.mem_of_find?_eq_some hf)
      cases args with
      | nil => exact x_call0 (Z := zo X G W) e4 e3 ok.gd hb ok.tk rfl rfl h1 e1 e2 (kws_ok hR) (kw_all c) (by rw [kw_names]; exact hk.symm) h2 (by rw [kw_any c]; rfl)
      | cons e es => exact x_call (Z := zo X G W) e4 e3 ok.gd hb ok.tk rfl rfl h1 e1 e2 (args_ok hR hs) (kws_ok hR) (kw_all c) (by rw [kw_names]; exact hk.symm) h2 (star_no hs).1 (by rw [star_any hs, kw_any c]; rfl)
  · rw [if_neg c]
    exact pe_stk
theorem bltF_ok (ok : Ok G S X W) {x : Str} {f : List D → M D} {e : Expr} {es : List Expr} {ms : List (Rho → M D)} {p pos : Pos} (h : bltF x = some f) (hg : isGl S x = true) (ha : PA X (e :: es) (tA (zo X G W) (evA ms))) (hs : noStar (e :: es) = true) :
    PE X (.Call (.Name x p) (e :: es) [] pos) (tE (zo X G W) (appM f ms)) := by
  obtain ⟨h1, h2, h3⟩ := isGl_ok ok hg
  have s1 := (star_no (env := X.env) hs).1
  have s2 := star_any (pos := pos) (env := X.env) (star_no (env := X.env) hs).2
  unfold bltF at h
  by_cases c : (x == "len") = true
  · rw [if_pos c] at h; cases h; obtain rfl := eq_of_beq c
    exact x_callB call_lenX v_len h1 (ok.mgn _ (by simp [bltNames])) boot_len ha h3 h2 s1 s2
  rw [if_neg c] at h; clear c
  by_cases c : (x == "int") = true
  · rw [if_pos c] at h; cases h; obtain rfl := eq_of_beq c
    exact x_callTy call_int1 v_int h1 (ok.mgn _ (by simp [bltNames])) boot_int ha h3 h2 s1 s2
  rw [if_neg c] at h; clear c
  by_cases c : (x == "tuple") = true
  · rw [if_pos c] at h; cases h; obtain rfl := eq_of_beq c
    exact x_callTy call_tuple_of v_tup h1 (ok.mgn _ (by simp [bltNames])) boot_tuple ha h3 h2 s1 s2
  rw [if_neg c] at h; clear c
  by_cases c : (x == "repr") = true
  · rw [if_pos c] at h; cases h; obtain rfl := eq_of_beq c
    exact x_callB (call_reprD ok.gd (by have := ok.un; omega)) v_rep h1 (ok.mgn _ (by simp [bltNames])) PyProof.Rows.boot_repr ha h3 h2 s1 s2
  rw [if_neg c] at h; clear c
  by_cases c : (x == "sum") = true
  · rw [if_pos c] at h; cases h; obtain rfl := eq_of_beq c
    exact x_callB (cr_sum ok.calm) v_sum h1 (ok.mgn _ (by simp [bltNames])) PyProof.Rows.boot_sum ha h3 h2 s1 s2
  rw [if_neg c] at h; clear c
  by_cases c : (x == "list") = true
  · rw [if_pos c] at h; cases h; obtain rfl := eq_of_beq c
    exact x_callTy call_list_of v_lst h1 (ok.mgn _ (by simp [bltNames])) boot_list ha h3 h2 s1 s2
  rw [if_neg c] at h; clear c
  by_cases c : (x == "isinstance") = true
  · rw [if_pos c] at h; cases h; obtain rfl := eq_of_beq c
    exact x_callB call_isi v_isa h1 (ok.mgn _ (by simp [bltNames])) PyProof.Rows.boot_isinstance ha h3 h2 s1 s2
  rw [if_neg c] at h; clear c
  by_cases c : (x == "abs") = true
  · rw [if_pos c] at h; cases h; obtain rfl := eq_of_beq c
    exact x_callB call_abs v_abs h1 (ok.mgn _ (by simp [bltNames])) PyProof.Rows.boot_abs ha h3 h2 s1 s2
  rw [if_neg c] at h; clear c
  by_cases c : (x == "max") = true
  · rw [if_pos c] at h; cases h; obtain rfl := eq_of_beq c
    exact x_callB (call_max2 ok.calm) v_max h1 (ok.mgn _ (by simp [bltNames])) PyProof.Rows.boot_max ha h3 h2 s1 s2
  rw [if_neg c] at h; clear c
  by_cases c : (x == "min") = true
  · rw [if_pos c] at h; cases h; obtain rfl := eq_of_beq c
    exact x_callB (call_min2 ok.calm) v_min h1 (ok.mgn _ (by simp [bltNames])) PyProof.Rows.boot_min ha h3 h2 s1 s2
  rw [if_neg c] at h; clear c
  by_cases c : (x == "all") = true
  · rw [if_pos c] at h; cases h; obtain rfl := eq_of_beq c
    exact x_callB (cr_all ok.calm) v_all h1 (ok.mgn _ (by simp [bltNames])) PyProof.Rows.boot_all ha h3 h2 s1 s2
  rw [if_neg c] at h; clear c
  by_cases c : (x == "any") = true
  · rw [if_pos c] at h; cases h; obtain rfl := eq_of_beq c
    exact x_callB (cr_any ok.calm) v_any h1 (ok.mgn _ (by simp [bltNames])) PyProof.Rows.boot_any ha h3 h2 s1 s2
  rw [if_neg c] at h
  cases h
theorem objN_ok {R : EvS} (ok : Ok G S X W) (hR : ∀ e, PE X e (tE (zo X G W) (R.e S e))) {k : Cls} {args : List Expr} {kws : List Keyword} {p pos : Pos} (km : k ∈ G.cl) (hg : isGl S k.x = true) (hs : noStar args = true) :
    PE X (.Call (.Name k.x p) args kws pos) (tE (zo X G W) (objN R S k args kws)) := by
  obtain ⟨h1, h2, h3⟩ := isGl_ok ok hg
  unfold objN
  by_cases c : kws.isEmpty = true
  · rw [if_pos c]
    obtain rfl := List.isEmpty_iff.mp c
    by_cases d : (args.isEmpty == k.fs.isEmpty) = true
    · rw [if_pos d]
      have d := eq_of_beq d
      cases args with
      | nil => exact x_obj0 (Z := zo X G W) rfl ok.hc ok.up ok.vl km (List.isEmpty_iff.mp d.symm) h1 h2
      | cons e es => exact x_objF (Z := zo X G W) rfl ok.hc ok.up ok.vl km (fun z => by rw [z] at d; cases d) ok.room h1 h2 (args_ok hR hs) (star_no hs).1 (star_any (star_no (env := X.env) hs).2)
    · rw [if_neg d]; exact pe_stk
  · rw [if_neg c]
    by_cases d : (args.isEmpty && !k.fs.isEmpty && kws.all (·.arg.isSome) && kws.filterMap (·.arg) == k.fs) = true
    · rw [if_pos d]
      simp only [Bool.and_eq_true, Bool.not_eq_true'] at d
      obtain ⟨⟨⟨d1, d2⟩, d3⟩, d4⟩ := d
      obtain rfl := List.isEmpty_iff.mp d1
      exact x_objK (Z := zo X G W) rfl ok.hc ok.up ok.vl km (fun z => by rw [z] at d2; cases d2) ok.room h1 h2 (kws_ok hR) (kw_all d3) (by rw [kw_names]; exact eq_of_beq d4) (by rw [kw_any d3]; rfl)
    · rw [if_neg d]; exact pe_stk
theorem isoN_ok {R : EvS} (ok : Ok G S X W) (hR : ∀ e, PE X e (tE (zo X G W) (R.e S e))) {x : Str} {args : List Expr} {kws : List Keyword} {p pos : Pos} {m : Rho → M D} (h : isoN G R S x args kws = some m) (hg : isGl S x = true) (hs : noStar args = true) :
    PE X (.Call (.Name x p) args kws pos) (tE (zo X G W) m) := by
  unfold isoN at h
  split at h
  · rename_i a y yp
    by_cases c : (x == "isinstance" && kws.isEmpty && isGl S y && ((clsOf G.cl y).isSome || y == "ValueError")) = true
    · rw [if_pos c] at h
      cases h
      simp only [Bool.and_eq_true, Bool.or_eq_true] at c
      obtain ⟨⟨⟨c1, c2⟩, c3⟩, c4⟩ := c
      obtain rfl := eq_of_beq c1
      obtain rfl := List.isEmpty_iff.mp c2
      obtain ⟨h1, h2, h3⟩ := isGl_ok ok hg
      obtain ⟨y1, y2, y3⟩ := isGl_ok ok c3
      have s1 := star_no (env := X.env) hs
      have s2 := star_no (env := X.env) s1.2
      cases hc : clsOf G.cl y with
      | some k =>
        obtain ⟨km, kx⟩ := clsOf_ok hc
        obtain ⟨C, gC⟩ := ok.hc.at_ k km
        rw [kx] at gC
        exact x_iso (Z := zo X G W) (c := .ref C) (cv := .ref C) rfl rfl ok.hc ok.vl (fun u r => r) (.inl ⟨k, C, hc, gC, rfl⟩) h1 (ok.mgn _ (by simp [bltNames])) (hR a) (pe_glob y1 gC rfl y2) s1.1 s2.1 (star_any s1.2)
      | none =>
        rw [hc] at c4
        have ey : y = "ValueError" := by
          rcases c4 with z | z
          · cases z
          · exact eq_of_beq z
        subst ey
        exact x_iso (Z := zo X G W) (c := .ty "ValueError") (cv := .type "ValueError") rfl rfl ok.hc ok.vl (fun u r => r) (.inr ⟨hc, rfl, rfl⟩) h1 (ok.mgn _ (by simp [bltNames])) (hR a) (pe_tyName y1 (ok.mgn _ (by simp [bltNames])) (by kernel_rfl) y3 y2) s1.1 s2.1 (star_any s1.2)
    · rw [if_neg c] at h
      cases h
  · cases h
theorem callN_ok {R : EvS} (ok : Ok G S X W) (hR : ∀ e, PE X e (tE (zo X G W) (R.e S e))) {x : Str} {args : List Expr} {kws : List Keyword} {p pos : Pos} :
    PE X (.Call (.Name x p) args kws pos) (tE (zo X G W) (callN G R S x args kws)) := by
  unfold callN
  by_cases c : (isGl S x && noStar args) = true
  · rw [if_pos c]
    rw [Bool.and_eq_true] at c
    cases hl : G.gl.lookup x with
    | some v =>
      have hm : (x, v) ∈ G.gl := PySem.mem_of_lookup hl
      cases v with
      | fn f => exact callFn_ok ok hR hm c.1 c.2
      | bi id =>
        show PE X _ (tE (zo X G W) (if (id == "math.gcd" && kws.isEmpty && !args.isEmpty) = true then appM gcdF (args.map (R.e S)) else noM))
        by_cases d : (id == "math.gcd" && kws.isEmpty && !args.isEmpty) = true
        · rw [if_pos d]
          simp only [Bool.and_eq_true] at d
          obtain ⟨⟨d1, d2⟩, d3⟩ := d
          obtain rfl := eq_of_beq d1
          obtain rfl := List.isEmpty_iff.mp d2
          cases args with
          | nil => cases d3
          | cons e es =>
            obtain ⟨h1, h2, h3⟩ := isGl_ok ok c.1
            exact PEi (pe_callBfun cr_gcd h1 (ok.bi _ _ hm) (args_ok hR c.2) h2 (star_no c.2).1 (star_any (star_no (env := X.env) c.2).2)) (t_cb v_gcd)
        · rw [if_neg d]
          exact pe_stk
      | co d => exact pe_stk
    | none =>
      dsimp only
      cases hc : clsOf G.cl x with
      | some k =>
        obtain ⟨km, kx⟩ := clsOf_ok hc
        subst kx
        exact objN_ok ok hR km c.1 c.2
      | none =>
        dsimp only
        cases hi : isoN G R S x args kws with
        | some m => exact isoN_ok ok hR hi c.1 c.2
        | none =>
          show PE X _ (tE (zo X G W) (if (kws.isEmpty && !args.isEmpty) = true then _ else noM))
          by_cases d : (kws.isEmpty && !args.isEmpty) = true
          · rw [if_pos d]
            rw [Bool.and_eq_true] at d
            obtain rfl := List.isEmpty_iff.mp d.1
            cases args with
            | nil => cases d.2
            | cons e es =>
              cases hb : bltF x with
              | none => exact pe_stk
              | some f => exact bltF_ok ok hb c.1 (args_ok hR c.2) c.2
          · rw [if_neg d]
            exact pe_stk
  · rw [if_neg c]
    exact pe_stk
/-! ### 28b. methods of lists; lambdas handed to a def; raise -/
theorem star_all {pos : Pos} {env : Env} : ∀ {es : List Expr}, noStar es = true → (backTo pos (starEach es env)).all (fun x => !x.1) = true
  | [], _ => rfl
  | e :: es, h => by
    obtain ⟨h1, h2⟩ := star_no (env := env) h
    rw [h1]
    show (!false && (backTo pos (starEach es env)).all (fun x => !x.1)) = true
    rw [star_all h2]
    rfl
theorem methN_ok {R : EvS} (ok : Ok G S X W) (hR : ∀ e, PE X e (tE (zo X G W) (R.e S e))) {y name : Str} {yp apos cpos : Pos} {args : List Expr} :
    PE X (.Call (.Attribute (.Name y yp) name apos) args [] cpos) (tE (zo X G W) (methN R S y name yp apos cpos args)) := by
  unfold methN
  by_cases c : (noStar args && decide (args.length < 30) && !args.isEmpty && apos.endLine == cpos.line) = true
  · rw [if_pos c]
    simp only [Bool.and_eq_true, decide_eq_true_eq] at c
    obtain ⟨⟨⟨c1, c2⟩, c3⟩, c4⟩ := c
    cases args with
    | nil => cases c3
    | cons e es =>
      have hs := (star_no (env := X.env) c1).1
      have hpl := star_any (pos := cpos) (env := X.env) (star_no (env := X.env) c1).2
      have hfew : ((backTo cpos (starEach (e :: es) X.env)).all (fun x => !x.1) && (backToKw cpos (keywordEach [] X.env)).all (fun x => x.1.isSome)
          && decide ((e :: es).length + ([] : List Keyword).length + (if ([] : List Keyword).isEmpty then 0 else 1) < 30)) = true := by
        rw [star_all c1]
        exact decide_eq_true c2
      by_cases d : (name == "append") = true
      · rw [if_pos d]
        obtain rfl := eq_of_beq d
        exact x_lmeth (Z := zo X G W) rfl F.slot_list_append F.type_list_append mt_append v_app (hR _) (args_ok hR c1) rfl hfew c4 hs hpl
      · rw [if_neg d]
        by_cases d : (name == "extend") = true
        · rw [if_pos d]
          obtain rfl := eq_of_beq d
          exact x_lmeth (Z := zo X G W) rfl F.slot_list_extend F.type_list_extend mt_extX v_ext (hR _) (args_ok hR c1) rfl hfew c4 hs hpl
        · rw [if_neg d]; exact pe_stk
  · rw [if_neg c]; exact pe_stk
theorem locIx_mem {scope : Scope} : ∀ {N : List Str} {i k : Nat} {y : Str}, N[i]? = some y → scope.names.lookup y = some .local → k + i ∈ locIx scope N k
  | [], i, k, y, h, _ => by simp at h
  | z :: r, 0, k, y, h, hy => by
    have h : z = y := by simpa using h
    subst h
    unfold locIx
    rw [hy, if_pos (by simp)]
    exact List.mem_cons_self
  | z :: r, i + 1, k, y, h, hy => by
    have ih := locIx_mem (k := k + 1) (show r[i]? = some y by simpa using h) hy
    rw [show k + 1 + i = k + (i + 1) by omega] at ih
    unfold locIx
    by_cases c : (scope.names.lookup z == some .local) = true
    · rw [if_pos c]; exact List.mem_cons_of_mem _ ih
    · rw [if_neg c]; exact ih
theorem lam_ok {scope : Scope} {ds : List (Str × Int)} (ok : Ok G S X W) (L : LmS X.env.scope scope ds) {A : Around} {outer : List Env} {s : Shared} {H : Hp} {E : XK} {f c' : Addr} (hr : Room G.k (A.deeper (LamX.lamEnv X scope s.heap.objs.size f c'))) (hg : A.guards = X.A.guards) :
    Ok G ⟨scope, some scope, true⟩ (LamX.lamCx X A outer s H E scope f c') (fun cls d _ H => E cls d H) where
  sc := rfl
  N := ok.N
  nd := ok.nd
  calm := rfl
  gd := by
    show A.guards = some []
    rw [hg]
    exact ok.gd
  un := by
    have z := hr.un
    show (A.deeper (LamX.lamEnv X scope s.heap.objs.size f c')).units + 200 < cLine
    omega
  tk := takes_of rfl rfl rfl rfl
  fn := fun x => by
    show false = (scope.names.lookup x == some .cell)
    symm
    rw [Bool.eq_false_iff]
    intro z
    exact L.cel _ (PySem.mem_of_lookup (eq_of_beq z)) rfl
  mgn := ok.mgn
  fe := ok.fe
  bi := ok.bi
  room := hr
  hc := ok.hc
  up := ok.up
  vl := ok.vl
  co := ok.co
  hd := ok.hd
  lb := fun z => nomatch z
theorem hearN_ok {R : EvS} (ok : Ok G S X W) (hR : ∀ {S : Sc} {X : Cx} {W : WX}, Ok G S X W → ∀ e, PE X e (tE (zo X G W) (R.e S e))) {x : Str} {p lpos pos : Pos} {params : Arguments} {body : Expr} {scope : Scope} :
    PE X (.Call (.Name x p) [.Lambda params body scope lpos] [] pos) (tE (zo X G W) (hearN G R S x params body scope)) := by
  unfold hearN
  by_cases c : (isGl S x && !S.lam && S.o.isNone && G.lm) = true
  · rw [if_pos c]
    simp only [Bool.and_eq_true, Bool.not_eq_true', Option.isNone_iff_eq_none] at c
    obtain ⟨⟨⟨c1, c2⟩, c3⟩, c4⟩ := c
    obtain ⟨h1, h2, h3⟩ := isGl_ok ok c1
    split
    · rename_i h ds e1 e2
      by_cases d : lmSB S.s scope ds = true
      · rw [if_pos d]
        have L : LmS X.env.scope scope ds := by rw [ok.sc]; exact lmS_by d
        obtain ⟨g, pg, bg, sg, dV, kV, doc, pm, cdv, ct, oc, an, od, osl, Ng, a, hs, a1, a2, a3, a4, a5, a6, a7, a8, a9, a10, a11⟩ := ok.hd x h (PySem.mem_of_lookup e1)
        subst a11
        have hr : Room (G.k + 2) X.A := by
          have z := ok.room
          rw [c2] at z
          exact z
        have z := x_heard (W := W) (p := p) (lpos := lpos) (pos := pos) (by rw [ok.N]; exact ok.nd) ok.hc h1 a1 a2 a3 a4 a5 a6 a7 a8 a9 a10 (ok.lb c2 c3 c4) hr e2 L (vs := locIx scope X.N 0) (fun i y hi hy => by have := locIx_mem (k := 0) hi hy; rwa [Nat.zero_add] at this)
          (fun A outer s H E f c' hr' hg' => by
            have w := hR (lam_ok ok L (outer := outer) (s := s) (H := H) (E := E) hr' hg') body
            unfold zo at w
            rw [ok.N]
            exact w) h2
        rw [ok.N] at z
        exact z
      · rw [if_neg d]; exact pe_stk
    · exact pe_stk
  · rw [if_neg c]; exact pe_stk
theorem raiseN_ok {R : EvS} (ok : Ok G S X W) (hR : ∀ e, PE X e (tE (zo X G W) (R.e S e))) {x : Str} {args : List Expr} {p cpos pos : Pos} : PS X (.Raise (some (.Call (.Name x p) args [] cpos)) none pos) (tS (zo X G W) (raiseN G R S x args)) := by
  unfold raiseN
  by_cases c : (isGl S x && noStar args) = true
  · rw [if_pos c]
    rw [Bool.and_eq_true] at c
    obtain ⟨h1, h2, h3⟩ := isGl_ok ok c.1
    cases hk : clsOf G.cl x with
    | none => exact ps_stk
    | some k =>
      obtain ⟨km, kx⟩ := clsOf_ok hk
      subst kx
      dsimp only
      by_cases d : (args.isEmpty == k.fs.isEmpty) = true
      · rw [if_pos d]
        have d := eq_of_beq d
        cases args with
        | nil => exact s_raise0 ok.calm ok.tk rfl rfl ok.hc ok.up km (List.isEmpty_iff.mp d.symm) h1 h2
        | cons e es => exact s_raiseF ok.calm ok.tk rfl rfl ok.hc ok.up km (fun z => by rw [z] at d; cases d) ok.room h1 h2 (args_ok hR c.2) (star_no c.2).1 (star_any (star_no (env := X.env) c.2).2)
      · rw [if_neg d]; exact ps_stk
  · rw [if_neg c]; exact ps_stk
end PX
namespace PX
open PySem PySem.Spec PyProof.Rows L2
variable [Tabc]
variable {G : Gam} {S : Sc} {X : Cx} {W : WX}
/-! ### 29. targets, walks, comprehensions -/
theorem tgNames_ok (ok : Ok G S X W) : ∀ {es : List Expr} {is : List Nat}, tgNames G S es = some is → PGs X es (tGs (zo X G W) is) ∧ (assignEach es X.env).length = is.length ∧ (assignEach es X.env).findIdx? (·.1) = none
  | [], is, h => by
    cases h
    exact ⟨gs_nil, rfl, rfl⟩
  | e :: r, is, h => by
    cases e with
    | Name x p =>
      have h : (if isAsg S x then (ixOf G.N x).bind fun i => (tgNames G S r).map fun is => i :: is else none) = some is := h
      by_cases c : isAsg S x = true
      · rw [if_pos c] at h
        obtain ⟨i, h1, h⟩ := Option.bind_eq_some_iff.mp h
        obtain ⟨js, h2, h⟩ := Option.map_eq_some_iff.mp h
        subst h
        obtain ⟨a1, a2⟩ := isAsg_ok ok c
        obtain ⟨p1, p2, p3⟩ := tgNames_ok ok h2
        refine ⟨gs_cons (by rw [ok.N]; exact ok.nd) (by rw [ok.N]; exact ixOf_ok h1) a1 a2 p1 rfl, ?_, ?_⟩
        · show (assignEach r X.env).length + 1 = js.length + 1
          rw [p2]
        · show ((false, assign (.Name x p) X.env) :: assignEach r X.env).findIdx? (·.1) = none
          rw [List.findIdx?_cons]
          simp [p3]
      · rw [if_neg c] at h
        cases h
    | _ => cases h
theorem tgOf_ok (ok : Ok G S X W) {tg : Expr} {t : Tg} (h : tgOf G S tg = some t) : PG X tg (tG (zo X G W) t) := by
  cases tg with
  | Name x p =>
    have h : (if isAsg S x then (ixOf G.N x).map .v else none) = some t := h
    by_cases c : isAsg S x = true
    · rw [if_pos c] at h
      obtain ⟨i, h1, h2⟩ := Option.map_eq_some_iff.mp h
      subst h2
      obtain ⟨a1, a2⟩ := isAsg_ok ok c
      exact g_name (by rw [ok.N]; exact ok.nd) (by rw [ok.N]; exact ixOf_ok h1) a1 a2
    · rw [if_neg c] at h
      cases h
  | Tuple es k p =>
    have h : (tgNames G S es).map .t = some t := h
    obtain ⟨is, h1, h2⟩ := Option.map_eq_some_iff.mp h
    subst h2
    obtain ⟨p1, p2, p3⟩ := tgNames_ok ok h1
    exact g_tup ok.calm rfl p1 p2 p3
  | _ => cases h
theorem iterM_ok {R : EvS} (ok : Ok G S X W) (hR : ∀ e, PE X e (tE (zo X G W) (R.e S e))) {tg iter : Expr} : PI X tg iter (tI (zo X G W) (iterM R S tg iter)) := by
  have other : PI X tg iter (tI (zo X G W) fun ρ => bd (R.e S iter ρ) itX) := i_seq rfl (hR iter)
  have two : ∀ {a b : Expr}, noStar [a, b] = true → (noStar [a] = true ∧ noStar [b] = true) := fun {a b} h => by
    have h2 := (star_no (env := X.env) h).2
    refine ⟨?_, h2⟩
    cases a <;> first | rfl | exact nomatch h
  unfold iterM
  split
  · rename_i x p a pos
    dsimp only
    by_cases c : (isGl S x && noStar [a] && x == "range") = true
    · rw [if_pos c]
      simp only [Bool.and_eq_true] at c
      obtain ⟨⟨c1, c2⟩, c3⟩ := c
      obtain rfl := eq_of_beq c3
      exact i_rng1 (ms := [R.e S a]) (isGl_ok ok c1).1 (ok.mgn _ (by simp [bltNames])) (args_ok hR c2) (star_no c2).1
    · rw [if_neg c]
      by_cases d : (isGl S x && noStar [a] && x == "enumerate" && isTup tg) = true
      · rw [if_pos d]
        simp only [Bool.and_eq_true] at d
        obtain ⟨⟨⟨c1, c2⟩, c3⟩, c4⟩ := d
        obtain rfl := eq_of_beq c3
        cases tg with
        | Tuple elts kk tpos => exact i_enum (ms := [R.e S a]) rfl (isGl_ok ok c1).1 (ok.mgn _ (by simp [bltNames])) (args_ok hR c2) (star_no c2).1
        | _ => cases c4
      · rw [if_neg d]
        exact other
  · rename_i x p a b pos
    dsimp only
    by_cases c : (isGl S x && noStar [a, b] && x == "range") = true
    · rw [if_pos c]
      simp only [Bool.and_eq_true] at c
      obtain ⟨⟨c1, c2⟩, c3⟩ := c
      obtain rfl := eq_of_beq c3
      have s2 := (star_no (env := X.env) (two c2).2).1
      have s1 := (star_no (env := X.env) c2).1
      exact i_rng2 (ms := [R.e S a, R.e S b]) (isGl_ok ok c1).1 (ok.mgn _ (by simp [bltNames])) (args_ok hR c2) (by rw [s1, s2]; rfl) (by rw [s2]; rfl)
    · rw [if_neg c]
      by_cases d : (isGl S x && noStar [a, b] && x == "zip" && isTup tg) = true
      · rw [if_pos d]
        simp only [Bool.and_eq_true] at d
        obtain ⟨⟨⟨c1, c2⟩, c3⟩, c4⟩ := d
        obtain rfl := eq_of_beq c3
        cases tg with
        | Tuple elts kk tpos => exact i_zip (ms := [R.e S a, R.e S b]) rfl (isGl_ok ok c1).1 (ok.mgn _ (by simp [bltNames])) (args_ok hR c2) (star_no c2).1 (star_any (two c2).2)
        | _ => cases c4
      · rw [if_neg d]
        exact other
  · exact other
theorem set_no {iter : Expr} (h : notSet iter = true) (env : Env) (x : Value) : foldedSetIterable iter env x = pure x := by
  cases iter <;> first | rfl | exact nomatch h
theorem blk_ok {scope : Scope} (ok : Ok G S X W) (s : Shared) (H : Hp) (C : Addr) (cl : List (Str × Addr)) (fp : List Addr) : Ok G (inner S scope) (X.blk s H scope (compEnvC scope cl C X.env) fp) (fun _ _ _ _ => False) where
  sc := by
    show relS scope X.env.scope = relS scope S.s
    rw [ok.sc]
  N := ok.N
  nd := ok.nd
  calm := ok.calm
  gd := ok.gd
  un := ok.un
  tk := fun u s' ⟨_, _, _, _, _, _, _, _, _, _, _, _, _, _, _, _, w⟩ => w.elim
  fn := fun x => rfl
  mgn := ok.mgn
  fe := ok.fe
  bi := ok.bi
  room := ok.room
  hc := ok.hc
  up := ok.up
  vl := ok.vl
  co := ok.co
  hd := ok.hd
  lb := fun _ z => nomatch z
/-- the readings of a deeper block -/
structure Good (G : Gam) (R : EvS) : Prop where
  e : ∀ {S : Sc} {X : Cx} {W : WX}, Ok G S X W → ∀ e, PE X e (tE (zo X G W) (R.e S e))
  t : ∀ {S : Sc} {X : Cx} {W : WX}, Ok G S X W → ∀ e, PT X e (tT (zo X G W) (R.t S e))
  w : ∀ {S : Sc} {X : Cx} {W : WX}, Ok G S X W → ∀ op es pos, PW X (.BoolOp op es pos) (tT (zo X G W) (R.t S (.BoolOp op es pos)))
  s : ∀ {S : Sc} {X : Cx} {W : WX}, Ok G S X W → PassesOwn (model X.prog X.w) X.A X.env X.xe → ∀ e, PS X e (tS (zo X G W) (R.s S e))
theorem condM_ok {R : EvS} {Z : Wd} (hT : ∀ e, PT X e (tT Z (R.t S e))) : ∀ ifs, PTs X ifs (tT Z (condM R S ifs))
  | [] => pt_nil
  | [c] => pt_one (hT c)
  | _ :: _ :: _ => pts_stk
theorem compM_parts {mk : List D → M D} {R : EvS} (gd : Good G R) (ok : Ok G S X W) {elt tg iter : Expr} {ifs : List Expr} {scope : Scope} :
    compM mk G R S elt tg iter ifs scope = noM ∨ ∃ t, compM mk G R S elt tg iter ifs scope = (if inMt G iter then lcQ mk (R.e S iter) t (condM R (inner S scope) ifs) (R.e (inner S scope) elt) ((ownOf G.N scope).map (·.2)) else lcG mk (iterM R S tg iter) t (condM R (inner S scope) ifs) (R.e (inner S scope) elt) ((ownOf G.N scope).map (·.2))) ∧
      BlkOk X.N X.env.scope scope (ownOf G.N scope) ∧ (∀ j ∈ t.slots, j ∈ (ownOf G.N scope).map (·.2)) ∧ notSet iter = true ∧ tgOf G (inner S scope) tg = some t := by
  unfold compM
  by_cases c : (notSet iter && blkC G.N S.s scope (ownOf G.N scope)) = true
  · rw [if_pos c]
    rw [Bool.and_eq_true] at c
    cases h : tgOf G (inner S scope) tg with
    | none => exact .inl rfl
    | some t =>
      dsimp only
      by_cases d : (t.slots.all fun j => ((ownOf G.N scope).map (·.2)).contains j) = true
      · rw [if_pos d]
        refine .inr ⟨t, rfl, by rw [ok.N, ok.sc]; exact blkOk_by c.2, fun j hj => ?_, c.1, rfl⟩
        have := List.all_eq_true.mp d j hj
        exact List.contains_iff_mem.mp this
      · rw [if_neg d]
        exact .inl rfl
  · rw [if_neg c]
    exact .inl rfl
theorem compM_ok {mk : List D → M D} {R : EvS} (M : MkOk (zo X G W) mk) (gd : Good G R) (ok : Ok G S X W) {elt tg iter : Expr} {ifs : List Expr} {scope : Scope} {pos : Pos} : PE X (.ListComp elt [⟨tg, iter, ifs, 0⟩] scope pos) (tE (zo X G W) (compM mk G R S elt tg iter ifs scope)) := by
  rcases compM_parts (mk := mk) gd ok (elt := elt) (tg := tg) (iter := iter) (ifs := ifs) (scope := scope) with e | ⟨t, e, hb, hs, hn, ht⟩
  · rw [e]; exact pe_stk
  · rw [e]
    by_cases q : inMt G iter = true
    · rw [if_pos q]
      exact x_compQ M ok.calm (by rw [ok.N]; exact ok.nd) (i_any rfl (gd.e ok iter)) hb hs (fun s H C cl fp => tgOf_ok (blk_ok ok s H C cl fp) ht)
        (fun s H C cl fp => condM_ok (gd.t (blk_ok ok s H C cl fp)) ifs) (fun s H C cl fp => gd.e (blk_ok ok s H C cl fp) elt) (set_no hn _)
    · rw [if_neg q]
      exact x_comp M ok.calm (by rw [ok.N]; exact ok.nd) (iterM_ok ok (gd.e ok)) hb hs (fun s H C cl fp => tgOf_ok (blk_ok ok s H C cl fp) ht)
        (fun s H C cl fp => condM_ok (gd.t (blk_ok ok s H C cl fp)) ifs) (fun s H C cl fp => gd.e (blk_ok ok s H C cl fp) elt) (set_no hn _)
theorem dictKs_ok {Z : Wd} {R : EvS} (hR : ∀ e, PE X e (tE Z (R.e S e))) {pos : Pos} : ∀ {keys : List (Option Expr)} {values : List Expr} {ks : List Str}, dictKs keys = some ks → ks.length = values.length →
    PPs X pos keys values (dispTs Z (ks.zip (values.map (R.e S)))) ∧ keys.length = ks.length ∧ keys.all (·.isSome) = true
  | [], [], ks, h, _ => by
    cases h
    exact ⟨pp_nil, rfl, rfl⟩
  | [], _ :: _, ks, h, hl => by
    cases h
    cases hl
  | k :: keys, values, ks, h, hl => by
    unfold dictKs at h
    split at h
    · rename_i heq
      cases heq
    · rename_i k' _ _ r heq
      cases heq
      obtain ⟨js, h1, h2⟩ := Option.map_eq_some_iff.mp h
      subst h2
      cases values with
      | nil => cases hl
      | cons v vs =>
        obtain ⟨p1, p2, p3⟩ := dictKs_ok hR (values := vs) h1 (Nat.succ.inj hl)
        exact ⟨pp_cons (hR v) p1, congrArg (· + 1) p2, p3⟩
    · cases h
theorem notSl_ix {b : Expr} (h : notSl b = true) : PlainIx b := by
  intro o i
  cases b <;> first | rfl | exact nomatch h
/-! ### 30. expressions, tests, statements -/
theorem po_ok {R : EvS} {Z : Wd} (hR : ∀ e, PE X e (tE Z (R.e S e))) : ∀ o, PO X o (tO Z (partM R S o))
  | none => x_noPart
  | some e => x_part (hR e)
theorem stE_ok {R : EvS} (gd : Good G R) (ok : Ok G S X W) (e : Expr) : PE X e (tE (zo X G W) (stE G R S e)) := by
  have hR := gd.e ok
  have hT := gd.t ok
  unfold stE
  split
  · exact nameM_ok ok
  · exact conM_ok ok
  · rename_i a op b pos
    cases h : binF op with
    | none => exact pe_stk
    | some f => exact binF_ok ok h (hR a) (hR b)
  · exact x_un un_neg v_neg (hR _)
  · exact x_not (hR _)
  · rename_i a op b pos
    by_cases c : behindInMarks op b = true
    · rw [if_pos c]; exact pe_stk
    · rw [if_neg c]
      cases h : cmpF op with
      | none => exact pe_stk
      | some f =>
        obtain ⟨r, h1, h2⟩ := cmpF_ok ok h
        exact x_cmp h1 h2 (hR a) (hR b) (by simpa using c)
  · exact x_and (hR _) (hR _)
  · exact x_or (hR _) (hR _)
  · exact pe_one (hR _)
  · exact x_ife (hT _) (hR _) (hR _)
  · rename_i es x1 pos
    by_cases c : noStar es = true
    · rw [if_pos c]; exact x_tup (args_ok hR c)
    · rw [if_neg c]; exact pe_stk
  · rename_i es pos
    by_cases c : noStar es = true
    · rw [if_pos c]; exact x_lst (args_ok hR c)
    · rw [if_neg c]; exact pe_stk
  · exact x_slice (hR _) (po_ok hR _) (po_ok hR _) rfl
  · exact pe_stk
  · rename_i a b pos n1 n2
    have hs : notSl b = true := by
      cases b with
      | Slice lo hi st p =>
        cases st with
        | none => exact (n1 _ _ _ rfl).elim
        | some st => exact (n2 _ _ _ _ rfl).elim
      | _ => rfl
    exact x_ix (ix_X (by have := ok.un; omega)) v_ix (hR a) (hR b) (notSl_ix hs)
  · exact compM_ok mkL_fin gd ok
  · rename_i keys values pos
    cases h : dictKs keys with
    | none => exact pe_stk
    | some ks =>
      dsimp only
      by_cases c : (ks.length == values.length && !ks.isEmpty && decide (ks.length ≤ 15)) = true
      · rw [if_pos c]
        simp only [Bool.and_eq_true, decide_eq_true_eq] at c
        obtain ⟨⟨c1, c2⟩, c3⟩ := c
        have c1 := eq_of_beq c1
        obtain ⟨p1, p2, p3⟩ := dictKs_ok hR (pos := pos) h c1
        refine x_disp p1 p3 (by rw [p2, c1]) (fun z => ?_) (by rw [p2]; exact c3)
        subst z
        have : ks.length = 0 := p2.symm
        rw [List.eq_nil_of_length_eq_zero this] at c2
        cases c2
      · rw [if_neg c]; exact pe_stk
  · exact hearN_ok ok (fun ok e => gd.e ok e)
  · exact callN_ok ok hR
  · exact methN_ok ok hR
  · exact x_atr (Z := zo X G W) rfl ok.hc ok.vl (hR _) rfl
  · exact pe_stk
theorem stT_plain {R : EvS} (ok : Ok G S X W) (hR : ∀ e, PE X e (tE (zo X G W) (R.e S e))) (e : Expr) : PT X e (tT (zo X G W) (if plainT e then fun ρ => bd (R.e S e ρ) asB else noM)) := by
  by_cases c : plainT e = true
  · rw [if_pos c]
    refine x_test (hR e) fun wh => ?_
    cases e with
    | UnaryOp op a pos => cases op <;> first | rfl | exact nomatch c
    | BoolOp _ _ _ => exact nomatch c
    | IfExp _ _ _ _ => exact nomatch c
    | Compare _ _ _ _ => exact nomatch c
    | _ => rfl
  · rw [if_neg c]; exact pt_stk
theorem stT_ok {R : EvS} (gd : Good G R) (ok : Ok G S X W) (e : Expr) : PT X e (tT (zo X G W) (stT G R S e)) := by
  have hR := gd.e ok
  have hT := gd.t ok
  unfold stT
  split
  · exact x_tnot (hT _)
  · exact (x_wand (hT _) (gd.w ok _ _ _)).pt
  · exact (x_wor (hT _) (gd.w ok _ _ _)).pt
  · rename_i op a pos
    cases op
    · exact (x_wand1 (hT _)).pt
    · exact (x_wor1 (hT _)).pt
  · rename_i a op b pos
    by_cases c : behindInMarks op b = true
    · rw [if_pos c]; exact pt_stk
    · rw [if_neg c]
      cases h : cmpF op with
      | none => exact pt_stk
      | some f =>
        obtain ⟨r, h1, h2⟩ := cmpF_ok ok h
        exact x_tcmp h1 h2 (hR a) (hR b) (by simpa using c)
  · exact stT_plain ok hR e
theorem stW_ok {R : EvS} (gd : Good G R) (ok : Ok G S X W) (op : BoolOp) (es : List Expr) (pos : Pos) : PW X (.BoolOp op es pos) (tT (zo X G W) (stT G R S (.BoolOp op es pos))) := by
  have hT := gd.t ok
  match op, es with
  | .And, a :: b :: r => exact x_wand (hT _) (gd.w ok _ _ _)
  | .Or, a :: b :: r => exact x_wor (hT _) (gd.w ok _ _ _)
  | .And, [a] => exact x_wand1 (hT _)
  | .Or, [a] => exact x_wor1 (hT _)
  | .And, [] => exact pw_stk
  | .Or, [] => exact pw_stk
theorem seqs_ok {R : EvS} {Z : Wd} (hS : ∀ e, PS X e (tS Z (R.s S e))) : ∀ l, PSs X l (tS Z (seqs R S l))
  | [] => s_nil
  | st :: r => s_cons (hS st) (seqs_ok hS r)
theorem sw_other {v o i : Expr} {p : Pos} {l : Nat} {env : Env} : swapsWith v (some (.Subscript o i p)) l env = pure false := by
  unfold swapsWith
  cases v <;> rfl
theorem sw_none {v : Expr} {t : Option Expr} {l : Nat} {env : Env} (h : noComp v = true) : swapsWith v t l env = pure false := by
  unfold swapsWith
  cases v <;> first | rfl | exact nomatch h
theorem sw_tup {v : Expr} {ts : List Expr} {k : Nat} {p : Pos} {l : Nat} {env : Env} : swapsWith v (some (.Tuple ts k p)) l env = pure false := by
  unfold swapsWith
  cases v <;> rfl
def swB (scope sc : Scope) (y : Str) (py pos : Pos) : Bool := bkOf sc == .function && sc.names.lookup y == some .local && py.line == pos.line && !(scope.names.any fun (n, k) => n == y && (k == .local || k == .cell))
theorem sw_lc {elt : Expr} {gs : List Comprehension} {scope : Scope} {pos py : Pos} {y : Str} {l : Nat} {env : Env} : swapsWith (.ListComp elt gs scope pos) (some (.Name y py)) l env = pure (swB scope env.scope y py pos) := rfl
theorem mk_any {Z : Wd} {b : Bool} : MkOk Z (if b = true then mkR else mkL) := by
  cases b with
  | true => exact mkR_fin
  | false => exact mkL_fin
theorem mtE_ok {R : EvS} (ok : Ok G S X W) (hR : ∀ e, PE X e (tE (zo X G W) (R.e S e))) (v : Expr) : PE X v (tE (zo X G W) (mtE R S v)) := by
  unfold mtE
  split
  · rename_i es pos
    by_cases c : noStar es = true
    · rw [if_pos c]; exact x_lstR (args_ok hR c)
    · rw [if_neg c]; exact pe_stk
  · exact x_op op_mulA v_mulR (hR _) (hR _)
  · exact x_op op_addX v_addR (hR _) (hR _)
  · rename_i x p a pos
    by_cases c : (x == "list" && isGl S x && noStar [a]) = true
    · rw [if_pos c]
      simp only [Bool.and_eq_true] at c
      obtain ⟨⟨c1, c2⟩, c3⟩ := c
      obtain rfl := eq_of_beq c1
      obtain ⟨h1, h2, h3⟩ := isGl_ok ok c2
      exact x_callTy (ms := [R.e S a]) call_list_of v_lstR h1 (ok.mgn _ (by simp [bltNames])) boot_list (args_ok hR c3) h3 h2 (star_no c3).1 rfl
    · rw [if_neg c]; exact hR _
  · exact hR v
theorem nameAsg_ok {R : EvS} (gd : Good G R) (ok : Ok G S X W) {y : Str} {py pos : Pos} {v : Expr} : PS X (.Assign [.Name y py] v pos) (tS (zo X G W) (nameAsg G R S y v)) := by
  have hR := gd.e ok
  unfold nameAsg
  by_cases c : isAsg S y = true
  · rw [if_pos c]
    obtain ⟨a1, a2⟩ := isAsg_ok ok c
    cases h : ixOf G.N y with
    | none => exact ps_stk
    | some i =>
      have hN : X.N.Nodup := by rw [ok.N]; exact ok.nd
      have hi : X.N[i]? = some y := by rw [ok.N]; exact ixOf_ok h
      dsimp only
      split
      · rename_i elt tg iter ifs scope lp
        have hb := sw_lc (elt := elt) (gs := [⟨tg, iter, ifs, 0⟩]) (scope := scope) (pos := lp) (py := py) (y := y) (l := pos.line) (env := X.env)
        cases hB : swB scope X.env.scope y py lp with
        | false =>
          rw [hB] at hb
          exact s_set hN hi a1 (compM_ok mk_any gd ok) hb a2
        | true =>
          rw [hB] at hb
          have hyl : X.env.scope.names.lookup y = some .local := by
            unfold swB at hB
            simp only [Bool.and_eq_true] at hB
            exact eq_of_beq hB.1.1.2
          rcases compM_parts (mk := if G.mt.contains y then mkR else mkL) gd ok (elt := elt) (tg := tg) (iter := iter) (ifs := ifs) (scope := scope) with e | ⟨t, e, hbk, hs, hn, ht⟩
          · rw [e]
            exact PSi (t := tS (zo X G W) noM) ps_stk fun D σ H ⟨ad, ρ, μ, g, hl, q⟩ => ⟨ad, ρ, μ, g, hl, q⟩
          · rw [e]
            by_cases q : inMt G iter = true
            · rw [if_pos q]
              exact s_setLcQ mk_any ok.calm hN hi hyl hb (i_any rfl (hR iter)) hbk hs (fun s H C cl fp => tgOf_ok (blk_ok ok s H C cl fp) ht)
                (fun s H C cl fp => condM_ok (gd.t (blk_ok ok s H C cl fp)) ifs) (fun s H C cl fp => gd.e (blk_ok ok s H C cl fp) elt) (set_no hn _)
            · rw [if_neg q]
              exact s_setLc mk_any ok.calm hN hi hyl hb (iterM_ok ok hR) hbk hs (fun s H C cl fp => tgOf_ok (blk_ok ok s H C cl fp) ht)
                (fun s H C cl fp => condM_ok (gd.t (blk_ok ok s H C cl fp)) ifs) (fun s H C cl fp => gd.e (blk_ok ok s H C cl fp) elt) (set_no hn _)
      · by_cases d : noComp v = true
        · rw [if_pos d]
          by_cases q : G.mt.contains y = true
          · rw [if_pos q]
            exact s_set hN hi a1 (mtE_ok ok hR v) (sw_none d) a2
          · rw [if_neg q]
            exact s_set hN hi a1 (hR v) (sw_none d) a2
        · rw [if_neg d]; exact ps_stk
  · rw [if_neg c]; exact ps_stk
theorem ite_as {α : Type} {p q : Prop} [Decidable p] [Decidable q] {a b c : α} (h : p) (hq : p = q) (e : a = c) : (if q then a else b) = c := by
  subst hq
  rw [if_pos h]; exact e
theorem ite_no {α : Type} {p q : Prop} [Decidable p] [Decidable q] {a b c : α} (h : ¬ p) (hq : p = q) (e : b = c) : (if q then a else b) = c := by
  subst hq
  rw [if_neg h]; exact e
theorem swOf_ok {ts vs : List Expr} {k k2 : Nat} {p p2 : Pos} {env : Env} {r : Option (List Str)} (h : swOf ts vs env.scope = some r) : swappedStores [.Tuple ts k p] (.Tuple vs k2 p2) env = pure r := by
  unfold swOf at h
  unfold swappedStores
  dsimp only at h ⊢
  split at h
  · rename_i c
    cases h
    exact ite_as c rfl rfl
  · rename_i c
    refine ite_no c rfl ?_
    split at h
    · rename_i d
      cases h
      exact ite_as d rfl rfl
    · rename_i d
      refine ite_no d rfl ?_
      split at h
      · rename_i e
        cases h
        exact ite_as e rfl rfl
      · rename_i e
        refine ite_no e rfl ?_
        split at h
        · rename_i f
          cases h
          exact ite_as f rfl rfl
        · rename_i f
          refine ite_no f rfl ?_
          split at h
          · cases h
          · rename_i f2
            cases h
            exact ite_no f2 rfl rfl
theorem sws_tup {v : Expr} {ts : List Expr} {k : Nat} {p : Pos} {l : Nat} {env : Env} : swapsWithSole [.Tuple ts k p] v l env = pure false := sw_tup (v := v) (ts := ts) (k := k) (p := p) (l := l) (env := env)
theorem sw_alt {ts : List Expr} {v : Expr} {k : Nat} {p : Pos} {env : Env} (h : ∀ vs k2 p2, v ≠ .Tuple vs k2 p2) : swappedStores [.Tuple ts k p] v env = pure none := by
  unfold swappedStores
  cases v with
  | Tuple vs k2 p2 => exact (h vs k2 p2 rfl).elim
  | _ => rfl
theorem tupAsg_ok {R : EvS} (gd : Good G R) (ok : Ok G S X W) {ts : List Expr} {k : Nat} {p pos : Pos} {v : Expr} : PS X (.Assign [.Tuple ts k p] v pos) (tS (zo X G W) (tupAsg G R S (.Tuple ts k p) v ts)) := by
  have hR := gd.e ok
  have gen : ∀ {v : Expr}, swappedStores [.Tuple ts k p] v X.env = pure none → PS X (.Assign [.Tuple ts k p] v pos) (tS (zo X G W) (match tgOf G S (.Tuple ts k p) with
      | some t => asgM (R.e S v) t
      | none => noM)) := fun {v} hw => by
    cases h : tgOf G S (.Tuple ts k p) with
    | none => exact ps_stk
    | some t => exact s_asg (hR v) (tgOf_ok ok h) sws_tup hw rfl
  unfold tupAsg
  split
  · rename_i vs k2 p2
    cases h : swOf ts vs S.s with
    | none => exact ps_stk
    | some r =>
      have hw := swOf_ok (k := k) (k2 := k2) (p := p) (p2 := p2) (env := X.env) (r := r) (by rw [ok.sc]; exact h)
      cases r with
      | none => exact gen hw
      | some names =>
        dsimp only
        split
        · rename_i x px y py a b
          by_cases c : (names == [x, y] && S.s.names.lookup x == some .local && S.s.names.lookup y == some .local && noStar [a, b]) = true
          · rw [if_pos c]
            simp only [Bool.and_eq_true] at c
            obtain ⟨⟨⟨c0, c1⟩, c2⟩, c3⟩ := c
            cases hi : ixOf G.N x with
            | none => exact ps_stk
            | some i =>
              cases hj : ixOf G.N y with
              | none => exact ps_stk
              | some j =>
                dsimp only
                by_cases e : (i == j) = true
                · rw [if_pos e]; exact ps_stk
                · rw [if_neg e]
                  have hij : i ≠ j := fun z => e (by rw [z]; exact beq_self_eq_true j)
                  have hx : X.env.scope.names.lookup x = some .local := by rw [ok.sc]; exact eq_of_beq c1
                  have hy : X.env.scope.names.lookup y = some .local := by rw [ok.sc]; exact eq_of_beq c2
                  obtain rfl := eq_of_beq c0
                  exact s_par (ms := [R.e S a, R.e S b]) ok.calm (by rw [ok.N]; exact ok.nd) (by rw [ok.N]; exact ixOf_ok hi) (by rw [ok.N]; exact ixOf_ok hj) hij hx hy (args_ok hR c3) hw sws_tup
          · rw [if_neg c]; exact ps_stk
        · exact ps_stk
  · rename_i n
    by_cases d : noComp v = true
    · rw [if_pos d]
      exact gen (sw_alt n)
    · rw [if_neg d]; exact ps_stk
theorem stS_ok {R : EvS} (gd : Good G R) (ok : Ok G S X W) (hp : PassesOwn (model X.prog X.w) X.A X.env X.xe) (st : Stmt) : PS X st (tS (zo X G W) (stS G R S st)) := by
  have hR := gd.e ok
  have hT := gd.t ok
  have hS := gd.s ok hp
  unfold stS
  split
  · exact s_pass
  · exact s_break
  · exact s_cont
  · exact s_retN
  · exact s_ret (hR _)
  · exact s_if (hT _) (seqs_ok hS _) (seqs_ok hS _)
  · rename_i tg iter body pos
    by_cases c : notSet iter = true
    · rw [if_pos c]
      cases h : tgOf G S tg with
      | none => exact ps_stk
      | some t =>
        dsimp only
        by_cases q : inMt G iter = true
        · rw [if_pos q]
          exact s_forQ hp ok.calm (i_any rfl (hR iter)) (tgOf_ok ok h) (seqs_ok hS _) (set_no c _)
        · rw [if_neg q]
          exact s_for hp ok.calm (iterM_ok ok hR) (tgOf_ok ok h) (seqs_ok hS _) (set_no c _)
    · rw [if_neg c]; exact ps_stk
  · exact s_while hp (hT _) (seqs_ok hS _)
  · exact raiseN_ok ok hR
  · rename_i e pos
    by_cases c : noComp e = true
    · rw [if_pos c]; exact s_expr (hR _) (sw_none c)
    · rw [if_neg c]; exact ps_stk
  · exact nameAsg_ok gd ok
  · exact tupAsg_ok gd ok
  · rename_i o i p v pos
    by_cases c : notSl i = true
    · rw [if_pos c]; exact s_put (by have := ok.un; omega) (hR _) (hR _) (hR _) sw_other
    · rw [if_neg c]; exact ps_stk
  · exact ps_stk
theorem good0 : Good G step0 := ⟨fun _ _ => pe_stk, fun _ _ => pt_stk, fun _ _ _ _ => pw_stk, fun _ _ _ => ps_stk⟩
theorem ev_good : ∀ n, Good G (ev G n)
  | 0 => good0
  | n + 1 => ⟨fun ok e => stE_ok (ev_good n) ok e, fun ok e => stT_ok (ev_good n) ok e, fun ok op es pos => stW_ok (ev_good n) ok op es pos, fun ok hp st => stS_ok (ev_good n) ok hp st⟩
end PX
namespace PX
open PySem PySem.Spec PyProof.Rows L2
variable [Tabc]
/-! ### 31. the defs of a text, level by level -/
structure Row where
  x : Str
  st : Stmt
  N : List Str
  ps : List Str
  sh : List Shape
  mt : List Str
  lm : Bool
/-- a def that hears -/
structure HRow where
  x : Str
  st : Stmt
  N : List Str
  a : Str
  hs : List (Str × Option Str × HX)
structure Txt where
  tab : List Row
  bis : List (Str × String)
  cl : List Cls
  hr : List HRow
  cs : List (Str × D)
def glFn (L : Nat → List D → M D) : Nat → List Row → List (Str × GV)
  | _, [] => []
  | i, r :: t => (r.x, .fn ⟨r.ps, r.sh, L i⟩) :: glFn L (i + 1) t
def glBi : List (Str × String) → List (Str × GV)
  | [] => []
  | p :: t => (p.1, .bi p.2) :: glBi t
def glCo : List (Str × D) → List (Str × GV)
  | [] => []
  | p :: t => (p.1, .co p.2) :: glCo t
def hdOf (l : List HRow) : List (Str × List (Str × HX)) := l.map fun r => (r.x, r.hs.map fun p => (p.1, p.2.2))
def gam (T : Txt) (L : Nat → List D → M D) (r : Row) (k : Nat) : Gam := ⟨r.N, glFn L 0 T.tab ++ (glBi T.bis ++ glCo T.cs), r.mt, T.cl, hdOf T.hr, r.lm, k⟩
def FUEL : Nat := 60
def rowF (T : Txt) (L : Nat → List D → M D) (r : Row) (k : Nat) : List D → M D :=
  outD (seqs (ev (gam T L r k) FUEL) ⟨defScope r.st, none, false⟩ (defBody r.st)) r.N.length
def lev (T : Txt) : Nat → Nat → List D → M D
  | 0, _ => fun _ => stk
  | n + 1, i => match T.tab[i]? with
    | some r => rowF T (lev T n) r (3 * n)
    | none => fun _ => stk
theorem glFn_mem {L : Nat → List D → M D} {x : Str} {f : FE} : ∀ {t : List Row} {i : Nat}, (x, GV.fn f) ∈ glFn L i t → ∃ j r, t[j]? = some r ∧ r.x = x ∧ f = ⟨r.ps, r.sh, L (i + j)⟩
  | [], _, h => nomatch h
  | r :: t, i, h => by
    rcases List.mem_cons.mp h with z | z
    · cases z
      exact ⟨0, r, rfl, rfl, rfl⟩
    · obtain ⟨j, r', h1, h2, h3⟩ := glFn_mem z
      refine ⟨j + 1, r', by simpa using h1, h2, ?_⟩
      rw [h3]
      congr 2
      omega
theorem glFn_bi {L : Nat → List D → M D} {x : Str} {id : String} : ∀ {t : List Row} {i : Nat}, (x, GV.bi id) ∈ glFn L i t → False
  | [], _, h => nomatch h
  | r :: t, i, h => by
    rcases List.mem_cons.mp h with z | z
    · cases z
    · exact glFn_bi z
theorem glFn_co {L : Nat → List D → M D} {x : Str} {d : D} : ∀ {t : List Row} {i : Nat}, (x, GV.co d) ∈ glFn L i t → False
  | [], _, h => nomatch h
  | r :: t, i, h => by
    rcases List.mem_cons.mp h with z | z
    · cases z
    · exact glFn_co z
theorem glCo_mem {x : Str} {v : GV} : ∀ {t : List (Str × D)}, (x, v) ∈ glCo t → ∃ d, (x, d) ∈ t ∧ v = .co d
  | [], h => nomatch h
  | p :: t, h => by
    rcases List.mem_cons.mp h with z | z
    · cases z
      exact ⟨_, List.mem_cons_self, rfl⟩
    · obtain ⟨d, h1, h2⟩ := glCo_mem z
      exact ⟨d, List.mem_cons_of_mem _ h1, h2⟩
theorem glBi_mem {x : Str} {v : GV} : ∀ {t : List (Str × String)}, (x, v) ∈ glBi t → ∃ id, (x, id) ∈ t ∧ v = .bi id
  | [], h => nomatch h
  | p :: t, h => by
    rcases List.mem_cons.mp h with z | z
    · cases z
      exact ⟨_, List.mem_cons_self, rfl⟩
    · obtain ⟨id, h1, h2⟩ := glBi_mem z
      exact ⟨id, List.mem_cons_of_mem _ h1, h2⟩
/-- what does not hang on the run -/
structure RowOk (r : Row) : Prop where
  sc : FnScope r.N r.ps (defScope r.st)
  bd : ∀ (K : PySem.W.Frag) (kV doc pm : Value) (an : Option Addr) (cdv ct : Value), ∀ s ∈ r.sh, BindOk K (PySem.W.fnOf r.x r.x (defArgs r.st) (defBody r.st) (defScope r.st) .none kV doc pm an cdv ct) r.ps s
/-- what the top has made of it -/
def RowAt (K : PySem.W.Frag) (x : Str) (st : Stmt) : Prop := ∃ f fd, PySem.W.nsIn K mainGlobals x = some (some (.ref f)) ∧ Fun K x x st f fd
structure HRowOk (cl : List Cls) (r : HRow) : Prop where
  sc : FnScope r.N [r.a] (defScope r.st)
  lo : (defScope r.st).names.lookup r.a = some .local
  nm : okName r.a = true
  he : hearB (defBody r.st) = some (r.a, r.hs)
  cs : ∀ p ∈ r.hs, clauseB cl r.N (defScope r.st) p = true
  bd : ∀ (kV doc pm : Value) (an : Option Addr) (cdv ct : Value) (s : Shared) (u : Value), BindsTo s (PySem.W.fnOf r.x r.x (defArgs r.st) (defBody r.st) (defScope r.st) .none kV doc pm an cdv ct) ⟨[u], []⟩ [(r.a, u)]
/-- a class by the text's top -/
structure ClsF (P : Program) (w : World) (K : PySem.W.Frag) (k : Cls) (C : Addr) : Prop where
  ns : PySem.W.nsIn K mainGlobals k.x = some (some (.ref C))
  kp : PySem.W.keepIn K (.ref C) = true
  sb : PySem.W.subIn K (.ref C) (.type "BaseException") = some true
  ty : PySem.W.typeIn K (.ref C) = some (.type "type")
  own : k.fs = [] → PySem.W.excIn K C veMro "ValueError.__new__" = true
  ini : k.fs ≠ [] → XfC K C ∧ (∀ f ∈ k.fs, PySem.W.findIn K (.ref C) f = some none) ∧ ClsMk P w K C k.fs
  ec : ExcC K C
  kv : PySem.W.kitOne K (.ref C) (.type "ValueError") = some true
inductive ClsL (P : Program) (w : World) (K : PySem.W.Frag) : List Cls → List (Cls × Addr) → Prop
  | nil : ClsL P w K [] []
  | cons {k : Cls} {C : Addr} {r : List Cls} {l : List (Cls × Addr)} : ClsF P w K k C → ClsL P w K r l → ClsL P w K (k :: r) ((k, C) :: l)
theorem ClsL.get {P : Program} {w : World} {K : PySem.W.Frag} {k : Cls} : ∀ {cl : List Cls} {l : List (Cls × Addr)}, ClsL P w K cl l → k ∈ cl → ∃ C, (k, C) ∈ l ∧ ClsF P w K k C
  | _, _, .nil, h => nomatch h
  | _, _, .cons f r, h => by
    rcases List.mem_cons.mp h with z | z
    · subst z
      exact ⟨_, List.mem_cons_self, f⟩
    · obtain ⟨C, h1, h2⟩ := r.get z
      exact ⟨C, List.mem_cons_of_mem _ h1, h2⟩
/-- how any two of them stand -/
def prB (K : PySem.W.Frag) (l : List (Cls × Addr)) : Bool := l.all fun p => l.all fun q => (PySem.W.exmOne K (.ref p.2) (.ref q.2) == some (p.1.up.contains q.1.x)) && (PySem.W.kitOne K (.ref p.2) (.ref q.2) == some (p.1.up.contains q.1.x))
def ClsTop (P : Program) (w : World) (K : PySem.W.Frag) (cl : List Cls) : Prop := ∃ l, ClsL P w K cl l ∧ prB K l = true
theorem cls_top {P : Program} {w : World} {K : PySem.W.Frag} {mg : Str → Option Value} {cl : List Cls} (hm : ∀ x v, PySem.W.nsIn K mainGlobals x = some (some v) → mg x = some v) (h : ClsTop P w K cl) : ClsOk mg K cl ∧ ClsUp P w mg K cl ∧ ClsVal mg K cl := by
  obtain ⟨l, h1, h2⟩ := h
  have h2 : ∀ p ∈ l, ∀ q ∈ l, PySem.W.exmOne K (.ref p.2) (.ref q.2) = some (p.1.up.contains q.1.x) ∧ PySem.W.kitOne K (.ref p.2) (.ref q.2) = some (p.1.up.contains q.1.x) := fun p hp q hq => by
    unfold prB at h2
    have z := List.all_eq_true.mp (List.all_eq_true.mp h2 p hp) q hq
    rw [Bool.and_eq_true] at z
    exact ⟨eq_of_beq z.1, eq_of_beq z.2⟩
  have one : ∀ k ∈ cl, ∀ C, mg k.x = some (.ref C) → (k, C) ∈ l ∧ ClsF P w K k C := fun k hk C hC => by
    obtain ⟨C', m, f⟩ := h1.get hk
    have e := hm _ _ f.ns
    rw [hC] at e
    cases e
    exact ⟨m, f⟩
  refine ⟨⟨fun k hk => ?_, fun k hk k' hk' C C' e e' => (h2 _ (one k hk C e).1 _ (one k' hk' C' e').1).1, fun k hk hf C e => ?_⟩, ⟨fun k hk C e => ?_, fun k hk hf C e => (one k hk C e).2.own hf, fun k hk hf C e => ((one k hk C e).2.ini hf).2.2⟩, ⟨fun k hk C e => (one k hk C e).2.ns, fun k hk C e => (one k hk C e).2.ec, fun k hk k' hk' C C' e e' => (h2 _ (one k hk C e).1 _ (one k' hk' C' e').1).2, fun k hk C e => (one k hk C e).2.kv⟩⟩
  · obtain ⟨C', m, f⟩ := h1.get hk
    exact ⟨C', hm _ _ f.ns⟩
  · obtain ⟨z1, z2, _⟩ := (one k hk C e).2.ini hf
    exact ⟨z1, z2⟩
  · have f := (one k hk C e).2
    exact ⟨f.kp, f.sb, f.ty⟩
theorem rowAt_mk {K : PySem.W.Frag} {x : Str} {st : Stmt} {f : Addr} {oc : Value} {od an : Option Addr} {osl : Array (Option Value)} {kV doc pm cdv ct : Value} (a : PySem.W.nsIn K mainGlobals x = some (some (.ref f)))
    (l : K.lookup f = some ⟨oc, od, .func (PySem.W.fnOf x x (defArgs st) (defBody st) (defScope st) .none kV doc pm an cdv ct), osl⟩) (c : PySem.W.codeIn K cdv x = true) (k : PySem.W.keepIn K (.ref f) = true) : RowAt K x st := ⟨f, _, a, fun_mk l c k⟩
theorem all_nil {α : Type} {P : α → Prop} : ∀ x ∈ ([] : List α), P x := fun x h => (List.not_mem_nil h).elim
theorem all_cons {α : Type} {P : α → Prop} {a : α} {l : List α} (h : P a) (t : ∀ x ∈ l, P x) : ∀ x ∈ a :: l, P x := fun x hx => by
  rcases List.mem_cons.mp hx with z | z
  · rw [z]; exact h
  · exact t x z
def fnScB (N P : List Str) (sc : Scope) : Bool :=
  (match sc.kind with | .function => true | _ => false) && !sc.isCoroutine && !sc.isGenerator && decide N.Nodup && decide (N.take P.length = P) &&
    (P.all fun x => sc.names.lookup x == some .local || sc.names.lookup x == some .cell) && (sc.names.all fun y => match y.2 with | .free => false | _ => true)
theorem fnSc_by {N P : List Str} {sc : Scope} (h : fnScB N P sc = true) : FnScope N P sc := by
  unfold fnScB at h
  simp only [Bool.and_eq_true, decide_eq_true_eq, Bool.not_eq_true', List.all_eq_true, Bool.or_eq_true] at h
  obtain ⟨⟨⟨⟨⟨⟨h1, h2⟩, h3⟩, h4⟩, h5⟩, h6⟩, h7⟩ := h
  refine ⟨?_, h2, h3, h4, h5, fun x hx => (h6 x hx).imp eq_of_beq eq_of_beq, fun y hy e => ?_⟩
  · split at h1
    · assumption
    · cases h1
  · have q := h7 y hy
    rw [e] at q
    cases q
/-- a text's facts that do not hang on the run -/
structure TxtOk (T : Txt) : Prop where
  ro : ∀ r ∈ T.tab, RowOk r
  ho : ∀ r ∈ T.hr, HRowOk T.cl r
/-- what the top has made of a text -/
structure TxtAt (P : Program) (w : World) (K : PySem.W.Frag) (T : Txt) : Prop where
  fn : ∀ r ∈ T.tab, RowAt K r.x r.st
  hr : ∀ r ∈ T.hr, RowAt K r.x r.st
  bi : ∀ p ∈ T.bis, PySem.W.nsIn K mainGlobals p.1 = some (some (.builtin p.2))
  no : ∀ x ∈ bltNames, PySem.W.nsIn K mainGlobals x = some none
  cl : ClsTop P w K T.cl
  co : ∀ p ∈ T.cs, scD p.2 = true ∧ ∃ u, PySem.W.nsIn K mainGlobals p.1 = some (some u) ∧ RelV (scV p.2) u
def mksOf (T : Txt) : List Str := (T.tab.filter (·.lm)).map (·.x)
/-- the makers' tables -/
structure TabAt (K : PySem.W.Frag) (mks : List Str) : Prop where
  has : ∀ x ∈ mks, ∃ c p, PySem.W.tabIn K x = some (c, p) ∧ K.lookup p = none
  inj : ∀ a ∈ mkCs K mks, ∀ b ∈ mkCs K mks, a.2.1 = b.2.1 → a.2.2 = b.2.2
/-- the makers' code objects and tables, by the text's top -/
inductive TabL (K : PySem.W.Frag) : List Str → List (Addr × Addr × Str) → Prop
  | nil : TabL K [] []
  | cons {x : Str} {c p : Addr} {r : List Str} {l : List (Addr × Addr × Str)} : PySem.W.tabIn K x = some (c, p) → K.lookup p = none → TabL K r l → TabL K (x :: r) ((c, p, x ++ ".<locals>." ++ "<lambda>") :: l)
theorem TabL.eq {K : PySem.W.Frag} : ∀ {mks : List Str} {l : List (Addr × Addr × Str)}, TabL K mks l → mkCs K mks = l
  | _, _, .nil => rfl
  | _, _, .cons (x := x) (c := c) (p := p) (r := r) h _ t => by
    unfold mkCs
    rw [h, t.eq]
theorem TabL.has {K : PySem.W.Frag} {x : Str} : ∀ {mks : List Str} {l : List (Addr × Addr × Str)}, TabL K mks l → x ∈ mks → ∃ c p, PySem.W.tabIn K x = some (c, p) ∧ K.lookup p = none
  | _, _, .nil, h => nomatch h
  | _, _, .cons a b t, h => by
    rcases List.mem_cons.mp h with z | z
    · subst z
      exact ⟨_, _, a, b⟩
    · exact t.has z
theorem nd_inj : ∀ {l : List (Addr × Addr × Str)}, (l.map fun p => p.2.1).Nodup → ∀ a ∈ l, ∀ b ∈ l, a.2.1 = b.2.1 → a = b
  | [], _, a, ha, _, _, _ => nomatch ha
  | x :: l, h, a, ha, b, hb, e => by
    rw [List.map_cons, List.nodup_cons] at h
    rcases List.mem_cons.mp ha with za | za <;> rcases List.mem_cons.mp hb with zb | zb
    · rw [za, zb]
    · exact (h.1 (List.mem_map.mpr ⟨b, zb, by rw [← e, za]⟩)).elim
    · exact (h.1 (List.mem_map.mpr ⟨a, za, by rw [e, zb]⟩)).elim
    · exact nd_inj h.2 a za b zb e
theorem tab_mk {K : PySem.W.Frag} {mks : List Str} {l : List (Addr × Addr × Str)} (h : TabL K mks l) (nd : (l.map fun p => p.2.1).Nodup) : TabAt K mks :=
  ⟨fun x hx => h.has hx, by rw [h.eq]; exact fun a ha b hb e => by rw [nd_inj nd a ha b hb e]⟩
theorem tab_one {K : PySem.W.Frag} {x : Str} {st : Stmt} {f c p : Addr} {oc oc2 : Value} {od od2 an : Option Addr} {osl osl2 : Array (Option Value)} {kV doc pm ct : Value} {vs : Array Value} (a : PySem.W.nsIn K mainGlobals x = some (some (.ref f)))
    (l : K.lookup f = some ⟨oc, od, .func (PySem.W.fnOf x x (defArgs st) (defBody st) (defScope st) .none kV doc pm an (.ref c) ct), osl⟩) (lc : K.lookup c = some ⟨oc2, od2, .fields vs, osl2⟩) (v : vs[11]? = some (.ref p)) : PySem.W.tabIn K x = some (c, p) := by
  unfold PySem.W.tabIn
  rw [a]
  dsimp only
  rw [l]
  dsimp only [PySem.W.fnOf]
  rw [lc]
  dsimp only
  rw [v]
theorem tab_code {K : PySem.W.Frag} {x : Str} {c p f : Addr} {oc : Value} {od : Option Addr} {fd : FuncData} {osl : Array (Option Value)} (h : PySem.W.tabIn K x = some (c, p)) (a : PySem.W.nsIn K mainGlobals x = some (some (.ref f))) (l : K.lookup f = some ⟨oc, od, .func fd, osl⟩) : fd.code = .ref c := by
  unfold PySem.W.tabIn at h
  rw [a] at h
  dsimp only at h
  rw [l] at h
  dsimp only at h
  split at h
  · rename_i c' hc
    split at h
    · split at h
      · cases h
        exact hc
      · cases h
    · cases h
  · cases h
section
variable {P : Program} {w : World} {K : PySem.W.Frag} {mg : Str → Option Value} {base : Heap} {T : Txt}
theorem lev_ok (hcs : Tabc.T = (mkCs K (mksOf T)).map (·.2)) (ok : TxtOk T) (at_ : TxtAt P w K T) (hm : ∀ x v, PySem.W.nsIn K mainGlobals x = some (some v) → mg x = some v) (hn : ∀ x ∈ bltNames, mg x = none) (tb : TabAt K (mksOf T)) (hTB : ∀ p ∈ mkCs K (mksOf T), LamX.TabB base mg p.1 p.2.1) :
    ∀ (n i : Nat) (r : Row) (f : Addr) (fd : FuncData), T.tab[i]? = some r → PySem.W.nsIn K mainGlobals r.x = some (some (.ref f)) → Fun K r.x r.x r.st f fd →
      mg r.x = some (.ref f) ∧ PySem.W.keepIn K (.ref f) = true ∧ (∀ s ∈ r.sh, BindOk K fd r.ps s) ∧ FnG P w K mg base (3 * n) f fd r.ps (spF mg K r.ps.length (lev T n i))
  | 0, i, r, f, fd, hr, h1, h2 => by
    obtain ⟨oc, od, kV, doc, pm, an, cdv, ct, osl, rfl, lk, hcd⟩ := h2.ex
    exact ⟨hm _ _ h1, h2.kp, (ok.ro r (List.mem_of_getElem? hr)).bd K kV doc pm an cdv ct, FnG.stk rfl⟩
  | n + 1, i, r, f, fd, hr, h1, h2 => by
    obtain ⟨oc, od, kV, doc, pm, an, cdv, ct, osl, rfl, lk, hcd⟩ := h2.ex
    have R := ok.ro r (List.mem_of_getElem? hr)
    refine ⟨hm _ _ h1, h2.kp, R.bd K kV doc pm an cdv ct, ?_⟩
    have e : lev T (n + 1) i = rowF T (lev T n) r (3 * n) := by
      show (match T.tab[i]? with
        | some r => rowF T (lev T n) r (3 * n)
        | none => fun _ => stk) = _
      rw [hr]
    rw [e]
    obtain ⟨hc, hu, hvl⟩ := cls_top hm at_.cl
    refine fn_G (k := 3 * n + 2) (base := base) lk hcd R.sc fun A outer s H E room hg => ?_
    have okk : Ok (gam T (lev T n) r (3 * n)) ⟨defScope r.st, none, false⟩ (cxOf (L2.CX P w) P w K mg base r.N r.x (defScope r.st) f cdv A outer s H E) (fun cls d _ H => E cls d H) := {
      sc := rfl
      N := rfl
      nd := R.sc.nd
      calm := rfl
      gd := hg
      un := by
        have z := room.un
        show (A.deeper (envOfC r.x (defScope r.st) s.heap.objs.size f cdv)).units + 200 < cLine
        omega
      tk := takes_of rfl rfl rfl rfl
      fn := fun _ => rfl
      mgn := hn
      fe := fun x fe hx => by
        rcases List.mem_append.mp hx with z | z
        · obtain ⟨j, r', g1, g2, g3⟩ := glFn_mem z
          obtain ⟨f', fd', q1, q2⟩ := at_.fn r' (List.mem_of_getElem? g1)
          obtain ⟨k1, k2, k3, k4⟩ := lev_ok hcs ok at_ hm hn tb hTB n j r' f' fd' g1 q1 q2
          subst g2 g3
          rw [Nat.zero_add]
          exact ⟨f', fd', k1, k2, k4, k3⟩
        · rcases List.mem_append.mp z with z | z
          · obtain ⟨id, g1, g2⟩ := glBi_mem z
            cases g2
          · obtain ⟨d, g1, g2⟩ := glCo_mem z
            cases g2
      bi := fun x id hx => by
        rcases List.mem_append.mp hx with z | z
        · exact (glFn_bi z).elim
        · rcases List.mem_append.mp z with z | z
          · obtain ⟨id', g1, g2⟩ := glBi_mem z
            cases g2
            exact hm _ _ (at_.bi _ g1)
          · obtain ⟨d, g1, g2⟩ := glCo_mem z
            cases g2
      room := room
      hc := hc
      up := hu
      vl := hvl
      co := fun x d hx => by
        rcases List.mem_append.mp hx with z | z
        · exact (glFn_co z).elim
        · rcases List.mem_append.mp z with z | z
          · obtain ⟨id', g1, g2⟩ := glBi_mem z
            cases g2
          · obtain ⟨d', g1, g2⟩ := glCo_mem z
            cases g2
            obtain ⟨c1, u, c2, c3⟩ := at_.co _ g1
            exact ⟨c1, u, hm _ _ c2, c3⟩
      hd := fun x h hx => by
        obtain ⟨r', m1, m2⟩ := List.mem_map.mp hx
        injection m2 with m2 m3
        subst m2 m3
        have O := ok.ho r' m1
        obtain ⟨f', fd', q1, q2⟩ := at_.hr r' m1
        have kp := q2.kp
        obtain ⟨oc', od', kV', doc', pm', an', cdv', ct', osl', rfl, lk', hcd'⟩ := q2.ex
        exact ⟨f', _, _, _, _, _, _, _, _, _, _, _, _, _, r'.N, r'.a, r'.hs, hm _ _ q1, kp, lk', hcd', O.bd _ _ _ _ _ _, O.sc, O.lo, O.nm, O.he, O.cs, rfl⟩
      lb := fun _ _ hl => by
        have mem : r.x ∈ mksOf T := List.mem_map.mpr ⟨r, List.mem_filter.mpr ⟨List.mem_of_getElem? hr, hl⟩, rfl⟩
        obtain ⟨c, p, ht, _⟩ := tb.has r.x mem
        have hin := mkCs_has ht mem
        refine ⟨c, p, tab_code ht h1 lk, hTB _ hin, ?_, fun q hq e => ?_⟩
        · rw [hcs]
          exact List.mem_map.mpr ⟨_, hin, rfl⟩
        · rw [hcs] at hq
          obtain ⟨b, hb, eb⟩ := List.mem_map.mp hq
          subst eb
          exact tb.inj b hb _ hin e }
    exact seqs_ok ((ev_good FUEL).s okk (passes_of rfl)) _
end
theorem walk_tab {l : PySem.W.OpenLaw} {n k i : Nat} {q : Program} {loose : List Str} {XP : (Str → Option Value) → Heap → Prop} {YP : World → Heap → Prop} {d : DefRec} {K : Params → PySem.W.Frag} {T : Txt} {r : Row} {x : Str}
    (hn : l.most = some n) (hn2 : n ≤ 1000000) (hdf : d.params.defaults = []) (hr : Room (3 * k) callerA) (hY : ∀ (w : World) (h : Heap), YP w h → (K w.params).In h)
    (ok : TxtOk T) (hi : T.tab[i]? = some r) (hx : r.x = d.name) (hp : r.ps = [x])
    (hF : ∀ (w : World), TxtAt l.prog w (K w.params) T ∧ TabAt (K w.params) (mksOf T)) (hrec : ∀ x ∈ mksOf T, ∃ d, (recsOf q).find? (fun e => e.name == x) = some d)
    (hbn : ∀ (K : PySem.W.Frag) (kV doc pm : Value) (an : Option Addr) (cdv ct : Value) (s : Shared) (u : Value), BindsTo s (PySem.W.fnOf r.x r.x (defArgs r.st) (defBody r.st) (defScope r.st) .none kV doc pm an cdv ct) ⟨[u], []⟩ [(x, u)])
    (hT : ∀ ns : List Int, ns.length ≤ n → (∀ z ∈ ns, Builtin.Int.intBits z ≤ 1048576) → ∃ μ, lev T k i [.lst (ns.map .int)] [] = .ok (.bl true) μ) :
    PySem.W.WalkO q loose XP YP l.row.toRowW d [] (fun f vs => PySem.call f vs) := by
  refine walk_G (k := 3 * k) (F := lev T k i) (x := x) (mks := mksOf T) hn hn2 hdf hr hY (fun w x hx => ⟨hrec x hx, fun c p e => ?_⟩) (fun w mg fa h KX G hmg => ?_) hT
  · obtain ⟨c', p', e1, e2⟩ := (hF w).2.has x hx
    rw [e] at e1
    cases e1
    exact e2
  · obtain ⟨at_, tb⟩ := hF w
    have hm : ∀ x v, PySem.W.nsIn (K w.params) mainGlobals x = some (some v) → mg x = some v := fun x v e => PySem.W.mg_of KX G e
    obtain ⟨f, fd, g1, g2⟩ := at_.fn r (List.mem_of_getElem? hi)
    have e := hm _ _ g1
    rw [hx, hmg] at e
    cases e
    have g3 := g2
    obtain ⟨oc, od, kV, doc, pm, an, cdv, ct, osl, rfl, lk, hcd⟩ := g2.ex
    refine ⟨_, hbn (K w.params) kV doc pm an cdv ct, fun base _ _ hTB => ?_⟩
    letI : Tabc := tabcOf (K w.params) (mksOf T)
    obtain ⟨k1, k2, k3, k4⟩ := lev_ok (P := l.prog) (w := w) (base := base) rfl ok at_ hm (fun x hx => PySem.W.mg_none_of KX G (at_.no x hx)) tb hTB k i r _ _ hi g1 g3
    rw [hp] at k4
    exact k4
end PX
namespace PX
open PySem L2
/-! ### 32. short words for what the evaluator makes -/
def kM {α : Type} (a : α) : Rho → M α := fun _ => rt a
def neM (a : Rho → M D) : Rho → M D := fun ρ => bd (a ρ) negD
def notM (a : Rho → M D) : Rho → M D := fun ρ => bd (a ρ) fun d => bd (asB d) fun b => rt (.bl (!b))
def andM (a b : Rho → M D) : Rho → M D := fun ρ => ifB (bd (a ρ) asB) (b ρ) (rt (.bl false))
def orM (a b : Rho → M D) : Rho → M D := fun ρ => ifB (bd (a ρ) asB) (rt (.bl true)) (b ρ)
def ifM {α : Type} (c : Rho → M Bool) (a b : Rho → M α) : Rho → M α := fun ρ => ifB (c ρ) (a ρ) (b ρ)
def ptM (a : Rho → M D) : Rho → M (Option Int) := fun ρ => bd (a ρ) fun d => bd (asI d) fun i => rt (some i)
def seM (a : Rho → M D) : Rho → M (List D) := fun ρ => bd (a ρ) itX
def tnM (a : Rho → M Bool) : Rho → M Bool := fun ρ => bd (a ρ) fun b => rt (!b)
def taM (a b : Rho → M Bool) : Rho → M Bool := fun ρ => ifB (a ρ) (b ρ) (rt false)
def toM (a b : Rho → M Bool) : Rho → M Bool := fun ρ => ifB (a ρ) (rt true) (b ρ)
def tvM (a : Rho → M D) : Rho → M Bool := fun ρ => bd (a ρ) asB
def nxM : Rho → M Fl := fun ρ => rt (.nx ρ)
def bkM : Rho → M Fl := fun ρ => rt (.bk ρ)
def ctM : Rho → M Fl := fun ρ => rt (.ct ρ)
def rtM (a : Rho → M D) : Rho → M Fl := fun ρ => bd (a ρ) fun d => rt (.rt d)
def sqM (a b : Rho → M Fl) : Rho → M Fl := fun ρ => seqS (a ρ) b
def foM (i : Rho → M (List D)) (t : Tg) (b : Rho → M Fl) : Rho → M Fl := fun ρ => bd (i ρ) fun ds => forD t b ds ρ
def whM (c : Rho → M Bool) (b : Rho → M Fl) : Rho → M Fl := fun ρ => whD c b WF ρ
def exM (a : Rho → M D) : Rho → M Fl := fun ρ => bd (a ρ) fun _ => rt (.nx ρ)
def haM (cl : List Cls) (h : List (Str × HX)) (vs : List Nat) (mb : Rho → M D) : Rho → M D := fun ρ => hdM cl h (mb (wipeD ρ vs))
def fqM (i : Rho → M D) (t : Tg) (b : Rho → M Fl) : Rho → M Fl := fun ρ => bd (i ρ) fun d => forQ t b d ρ
end PX
namespace PX
open PySem L2
/-! ### 33. what a run comes to -/
def NoX : Xn → Mu → Prop := fun _ _ => False
/-- it ends so, or with an exception for which E holds -/
abbrev Ew {α : Type} (E : Xn → Mu → Prop) (r : R α) (K : α → Mu → Prop) : Prop := Sat r K E
/-- it ends with a and K holds -/
local instance : Tabc := ⟨[]⟩
section
variable {α β : Type} {K K' : α → Mu → Prop} {μ : Mu} {ρ : Rho} {E : Xn → Mu → Prop}
theorem ev_ok {a : α} : Ew E (.ok a μ) K ↔ K a μ := Iff.rfl
/-- what ends well does so whatever is wished of exceptions -/
theorem ev_use {r : R α} (h : Ew NoX r K) (hk : ∀ a μ', K a μ' → K' a μ') : Ew E r K' := h.mono hk fun _ _ z => z.elim
theorem ex_ok {x : Xn} : Ew E (.ex x μ : R α) K ↔ E x μ := Iff.rfl
theorem ex_of {r : R α} {x : Xn} {μ' : Mu} (h : r = .ex x μ') : Ew E r K ↔ E x μ' := by rw [h]; exact Iff.rfl
theorem ex_eq {r : R α} {x : Xn} (h : Ew (fun y μ' => y = x ∧ μ' = μ) r fun _ _ => False) : r = .ex x μ := by
  cases r with
  | ok b μ' => exact (show False from h).elim
  | ex y μ' =>
    obtain ⟨h1, h2⟩ := (show y = x ∧ μ' = μ from h)
    rw [h1, h2]
  | no => exact h.elim
theorem ev_eq {r : R α} {a : α} (h : Ew NoX r fun b μ' => b = a ∧ μ' = μ) : r = .ok a μ := by
  cases r with
  | ok b μ' =>
    obtain ⟨h1, h2⟩ := (show b = a ∧ μ' = μ from h)
    rw [h1, h2]
  | ex x μ' => exact h.elim
  | no => exact h.elim
theorem ev_of {r : R α} {a : α} {μ' : Mu} (h : r = .ok a μ') : Ew E r K ↔ K a μ' := by rw [h]; exact Iff.rfl
theorem ev_imp {r : R α} (h : Ew E r K) (hk : ∀ a μ', K a μ' → K' a μ') : Ew E r K' := Sat.imp h hk
theorem ev_rt {a : α} : Ew E (rt a μ) K ↔ K a μ := Iff.rfl
theorem ev_bd {x : M β} {f : β → M α} : Ew E (bd x f μ) K ↔ Ew E (x μ) fun a μ' => Ew E (f a μ') K := sat_bd
theorem ev_kM {a : α} : Ew E (kM a ρ μ) K ↔ K a μ := Iff.rfl
theorem ev_ifB {c : M Bool} {x y : M α} : Ew E (ifB c x y μ) K ↔ Ew E (c μ) fun b μ' => if b = true then Ew E (x μ') K else Ew E (y μ') K := by
  unfold ifB
  rw [ev_bd]
  constructor
  · exact fun h => ev_imp h fun b μ' q => by cases b <;> simpa using q
  · exact fun h => ev_imp h fun b μ' q => by cases b <;> simpa using q
theorem ev_ifM {c : Rho → M Bool} {x y : Rho → M α} : Ew E (ifM c x y ρ μ) K ↔ Ew E (c ρ μ) fun b μ' => if b = true then Ew E (x ρ μ') K else Ew E (y ρ μ') K := ev_ifB
end
section
variable {K : D → Mu → Prop} {μ : Mu} {ρ : Rho} {a b : Rho → M D} {f : D → D → M D} {E : Xn → Mu → Prop}
def vK (o : Option (Option D)) (μ : Mu) (K : D → Mu → Prop) : Prop := match o with
  | some (some d) => K d μ
  | _ => False
theorem vK_s {d : D} : vK (some (some d)) μ K ↔ K d μ := Iff.rfl
theorem ev_gV {i : Nat} : Ew E (gV i ρ μ) K ↔ vK ρ[i]? μ K := by
  unfold gV vK
  cases ρ[i]? with
  | none => exact Iff.rfl
  | some o => cases o <;> exact Iff.rfl
theorem ev_op2 : Ew E (op2 a b f ρ μ) K ↔ Ew E (a ρ μ) fun x μ1 => Ew E (b ρ μ1) fun y μ2 => Ew E (f x y μ2) K := by
  unfold op2
  rw [ev_bd]
  exact ⟨fun h => ev_imp h fun x μ1 q => ev_bd.mp q, fun h => ev_imp h fun x μ1 q => ev_bd.mpr q⟩
theorem ev_neM : Ew E (neM a ρ μ) K ↔ Ew E (a ρ μ) fun x μ1 => Ew E (negD x μ1) K := ev_bd
theorem ev_notM : Ew E (notM a ρ μ) K ↔ Ew E (a ρ μ) fun x μ1 => Ew E (asB x μ1) fun b μ2 => K (.bl (!b)) μ2 := by
  unfold notM
  rw [ev_bd]
  exact ⟨fun h => ev_imp h fun x μ1 q => ev_bd.mp q, fun h => ev_imp h fun x μ1 q => ev_bd.mpr q⟩
theorem ev_andM : Ew E (andM a b ρ μ) K ↔ Ew E (a ρ μ) fun x μ1 => Ew E (asB x μ1) fun c μ2 => if c = true then Ew E (b ρ μ2) K else K (.bl false) μ2 := by
  unfold andM
  rw [ev_ifB, ev_bd]
  exact Iff.rfl
theorem ev_orM : Ew E (orM a b ρ μ) K ↔ Ew E (a ρ μ) fun x μ1 => Ew E (asB x μ1) fun c μ2 => if c = true then K (.bl true) μ2 else Ew E (b ρ μ2) K := by
  unfold orM
  rw [ev_ifB, ev_bd]
  exact Iff.rfl
theorem ev_asB {k : Bool} {K : Bool → Mu → Prop} : Ew E (asB (.bl k) μ) K ↔ K k μ := Iff.rfl
theorem ev_app {α : Type} {g : List D → M α} {as : List (Rho → M D)} {K : α → Mu → Prop} : Ew E (appM g as ρ μ) K ↔ Ew E (evA as ρ μ) fun ds μ1 => Ew E (g ds μ1) K := ev_bd
theorem ev_nil {K : List D → Mu → Prop} : Ew E (evA [] ρ μ) K ↔ K [] μ := Iff.rfl
theorem ev_cons {as : List (Rho → M D)} {K : List D → Mu → Prop} : Ew E (evA (a :: as) ρ μ) K ↔ Ew E (a ρ μ) fun d μ1 => Ew E (evA as ρ μ1) fun ds μ2 => K (d :: ds) μ2 := by
  show Ew E (bd (a ρ) (fun d => bd (evA as ρ) fun ds => rt (d :: ds)) μ) K ↔ _
  rw [ev_bd]
  exact ⟨fun h => ev_imp h fun x μ1 q => ev_bd.mp q, fun h => ev_imp h fun x μ1 q => ev_bd.mpr q⟩
theorem ev_callF {F : List D → M D} {S : Shape} {n : Nat} {as ks : List (Rho → M D)} : Ew E (callF F S n as ks ρ μ) K ↔ Ew E (evA as ρ μ) fun ds μ1 => Ew E (evA ks ρ μ1) fun zs μ2 => Ew E (callM F S n ds zs μ2) K := by
  unfold callF
  rw [ev_bd]
  exact ⟨fun h => ev_imp h fun x μ1 q => ev_bd.mp q, fun h => ev_imp h fun x μ1 q => ev_bd.mpr q⟩
theorem ev_callM {F : List D → M D} {S : Shape} {n : Nat} {ds es : List D} : Ew E (callM F S n ds es μ) K ↔ if ds.length = S.np ∧ es.length = S.ks.length ∧ (pick S.pm (ds ++ es)).length = n then Ew E (F (pick S.pm (ds ++ es)) μ) K else False := by
  unfold callM
  split <;> exact Iff.rfl
theorem ev_tvM {K : Bool → Mu → Prop} : Ew E (tvM a ρ μ) K ↔ Ew E (a ρ μ) fun d μ1 => Ew E (asB d μ1) K := ev_bd
theorem ev_tnM {c : Rho → M Bool} {K : Bool → Mu → Prop} : Ew E (tnM c ρ μ) K ↔ Ew E (c ρ μ) fun b μ1 => K (!b) μ1 := ev_bd
theorem ev_taM {c e : Rho → M Bool} {K : Bool → Mu → Prop} : Ew E (taM c e ρ μ) K ↔ Ew E (c ρ μ) fun b μ1 => if b = true then Ew E (e ρ μ1) K else K false μ1 := by
  unfold taM; rw [ev_ifB]; exact Iff.rfl
theorem ev_toM {c e : Rho → M Bool} {K : Bool → Mu → Prop} : Ew E (toM c e ρ μ) K ↔ Ew E (c ρ μ) fun b μ1 => if b = true then K true μ1 else Ew E (e ρ μ1) K := by
  unfold toM; rw [ev_ifB]; exact Iff.rfl
theorem ev_slM {l u : Rho → M (Option Int)} : Ew E (slM a l u ρ μ) K ↔ Ew E (a ρ μ) fun x μ1 => Ew E (l ρ μ1) fun lo μ2 => Ew E (u ρ μ2) fun hi μ3 => Ew E (slD x lo hi μ3) K := by
  unfold slM
  rw [ev_bd]
  exact ⟨fun h => ev_imp h fun x μ1 q => ev_imp (ev_bd.mp q) fun y μ2 q => ev_bd.mp q, fun h => ev_imp h fun x μ1 q => ev_bd.mpr (ev_imp q fun y μ2 q => ev_bd.mpr q)⟩
theorem ev_ptM {K : Option Int → Mu → Prop} : Ew E (ptM a ρ μ) K ↔ Ew E (a ρ μ) fun x μ1 => Ew E (asI x μ1) fun i μ2 => K (some i) μ2 := by
  unfold ptM
  rw [ev_bd]
  exact ⟨fun h => ev_imp h fun x μ1 q => ev_bd.mp q, fun h => ev_imp h fun x μ1 q => ev_bd.mpr q⟩
theorem ev_asI {i : Int} {K : Int → Mu → Prop} : Ew E (asI (.int i) μ) K ↔ K i μ := Iff.rfl
theorem ev_seM {K : List D → Mu → Prop} : Ew E (seM a ρ μ) K ↔ Ew E (a ρ μ) fun x μ1 => Ew E (itX x μ1) K := ev_bd
theorem ev_itL {ds : List D} {K : List D → Mu → Prop} : Ew E (itX (.lst ds) μ) K ↔ K ds μ := Iff.rfl
theorem ev_itT {ds : List D} {K : List D → Mu → Prop} : Ew E (itX (.tup ds) μ) K ↔ K ds μ := Iff.rfl
theorem ev_mkT {ds : List D} : Ew E (mkT ds μ) K ↔ if ds.length ≤ 1000000 then K (.tup ds) μ else False := by
  unfold mkT
  split <;> exact Iff.rfl
theorem ev_mkL {ds : List D} : Ew E (mkL ds μ) K ↔ if ds.length ≤ 1000000 then K (.lst ds) μ else False := by
  unfold mkL
  split <;> exact Iff.rfl
theorem ev_lcM {mi : Rho → M (List D)} {t : Tg} {mc : Rho → M Bool} {me : Rho → M D} {vs : List Nat} : Ew E (lcM mi t mc me vs ρ μ) K ↔ Ew E (mi ρ μ) fun ds μ1 => Ew NoX (lcD t mc me ds (wipeD ρ vs) μ1) fun ys μ2 => Ew E (mkL ys μ2) K := by
  unfold lcM
  rw [ev_bd]
  constructor
  · refine fun h => ev_imp h fun x μ1 q => ?_
    have q := sat_noX.mp (sat_bd.mp q)
    exact q.mono (fun _ _ z => z) fun _ _ z => z
  · refine fun h => ev_imp h fun x μ1 q => ?_
    refine sat_bd.mpr (sat_noX.mpr ?_)
    exact q.mono (fun _ _ z => z) fun _ _ z => z
theorem ev_dispM {kms : List (Str × (Rho → M D))} : Ew E (dispM kms ρ μ) K ↔ Ew E (evA (kms.map (·.2)) ρ μ) fun ds μ1 => Ew E (newDk (kms.map (·.1)) ds μ1) K := ev_bd
theorem ev_lft {α : Type} {x : α} {K : α → Mu → Prop} : Ew E (lft (some x) μ) K ↔ K x μ := Iff.rfl
end
section
variable {K : Fl → Mu → Prop} {μ : Mu} {ρ : Rho} {a b c : Rho → M Fl} {e : Rho → M D} {E : Xn → Mu → Prop}
theorem ev_nxM : Ew E (nxM ρ μ) K ↔ K (.nx ρ) μ := Iff.rfl
theorem ev_rtM : Ew E (rtM e ρ μ) K ↔ Ew E (e ρ μ) fun d μ1 => K (.rt d) μ1 := ev_bd
theorem ev_exM : Ew E (exM e ρ μ) K ↔ Ew E (e ρ μ) fun d μ1 => K (.nx ρ) μ1 := ev_bd
theorem ev_setM {i : Nat} : Ew E (setM e i ρ μ) K ↔ Ew E (e ρ μ) fun d μ1 => K (.nx (ρ.set i (some d))) μ1 := ev_bd
def tgK (o : Option Rho) (μ : Mu) (K : Fl → Mu → Prop) : Prop := match o with
  | some ρ => K (.nx ρ) μ
  | none => False
theorem tgK_s : tgK (some ρ) μ K ↔ K (.nx ρ) μ := Iff.rfl
theorem ev_asgM {t : Tg} : Ew E (asgM e t ρ μ) K ↔ Ew E (e ρ μ) fun d μ1 => tgK (setTg t d ρ) μ1 K := by
  unfold asgM
  rw [ev_bd]
  have q : ∀ d μ1, Ew E (bd (lft (setTg t d ρ)) (fun ρ' => rt (.nx ρ')) μ1) K ↔ tgK (setTg t d ρ) μ1 K := fun d μ1 => by
    rw [ev_bd]
    cases setTg t d ρ <;> exact Iff.rfl
  exact ⟨fun h => ev_imp h fun d μ1 z => (q d μ1).mp z, fun h => ev_imp h fun d μ1 z => (q d μ1).mpr z⟩
theorem ev_putM {o i v : Rho → M D} : Ew E (putM o i v ρ μ) K ↔ Ew E (v ρ μ) fun x μ1 => Ew E (o ρ μ1) fun d μ2 => Ew E (i ρ μ2) fun e μ3 => Ew E (putD d e x μ3) fun _ μ4 => K (.nx ρ) μ4 := by
  unfold putM
  rw [ev_bd]
  exact ⟨fun h => ev_imp h fun x μ1 q => ev_imp (ev_bd.mp q) fun y μ2 q => ev_imp (ev_bd.mp q) fun z μ3 q => ev_bd.mp q,
    fun h => ev_imp h fun x μ1 q => ev_bd.mpr (ev_imp q fun y μ2 q => ev_bd.mpr (ev_imp q fun z μ3 q => ev_bd.mpr q))⟩
/-- the rest behind a statement -/
def thenK (E : Xn → Mu → Prop) (b : Rho → M Fl) (K : Fl → Mu → Prop) : Fl → Mu → Prop := fun f μ => match f with
  | .nx ρ => Ew E (b ρ μ) K
  | f => K f μ
theorem thenK_nx : thenK E b K (.nx ρ) μ ↔ Ew E (b ρ μ) K := Iff.rfl
theorem thenK_rt {d : D} : thenK E b K (.rt d) μ ↔ K (.rt d) μ := Iff.rfl
theorem thenK_bk : thenK E b K (.bk ρ) μ ↔ K (.bk ρ) μ := Iff.rfl
theorem thenK_ct : thenK E b K (.ct ρ) μ ↔ K (.ct ρ) μ := Iff.rfl
theorem ev_sqM : Ew E (sqM a b ρ μ) K ↔ Ew E (a ρ μ) (thenK E b K) := by
  unfold sqM seqS
  rw [ev_bd]
  exact ⟨fun h => ev_imp h fun f μ1 q => by cases f <;> exact q, fun h => ev_imp h fun f μ1 q => by cases f <;> exact q⟩
theorem ev_foM {i : Rho → M (List D)} {t : Tg} : Ew E (foM i t a ρ μ) K ↔ Ew E (i ρ μ) fun ds μ1 => Ew E (forD t a ds ρ μ1) K := ev_bd
def outK (E : Xn → Mu → Prop) (n : Nat) (K : D → Mu → Prop) : Fl → Mu → Prop := fun f μ => match f with
  | .rt d => Ew E (endD n d μ) K
  | .nx _ => K .non (μ.take n)
  | _ => False
theorem outK_rt {n : Nat} {K : D → Mu → Prop} {d : D} : outK E n K (.rt d) μ ↔ Ew E (endD n d μ) K := Iff.rfl
theorem outK_nx {n : Nat} {K : D → Mu → Prop} : outK E n K (.nx ρ) μ ↔ K .non (μ.take n) := Iff.rfl
theorem ev_out {m : Rho → M Fl} {n : Nat} {ds : List D} {K : D → Mu → Prop} : Ew NoX (outD m n ds μ) K ↔ Ew NoX (m (startD n ds) μ) (outK NoX μ.length K) := by
  unfold outD
  cases m (startD n ds) μ with
  | ok f μ' => cases f <;> exact Iff.rfl
  | ex x μ' =>
    refine ⟨fun h => ?_, fun h => h.elim⟩
    have h : Ew NoX (endX μ.length x μ') K := h
    unfold endX at h
    split at h <;> exact h.elim
  | no => exact Iff.rfl
/-- what a def lets out -/
def outX (n : Nat) (E : Xn → Mu → Prop) : Xn → Mu → Prop := fun x μ => Sat (endX n x μ) (fun _ _ => False) E
theorem ex_out {m : Rho → M Fl} {n : Nat} {ds : List D} {K : D → Mu → Prop} : Ew E (outD m n ds μ) K ↔ Ew (outX μ.length E) (m (startD n ds) μ) (outK E μ.length K) := by
  unfold outD
  cases m (startD n ds) μ with
  | ok f μ' => cases f <;> exact Iff.rfl
  | ex x μ' =>
    show Sat (endX μ.length x μ') K E ↔ Sat (endX μ.length x μ') (fun _ _ => False) E
    unfold endX
    split <;> exact Iff.rfl
  | no => exact Iff.rfl
mutual
theorem frz_pure (n : Nat) (μ : Mu) : ∀ d : D, d.pure = true → frzD n μ d = d ∧ d.low n = true
  | .non, _ => ⟨rfl, rfl⟩
  | .bl _, _ => ⟨rfl, rfl⟩
  | .int _, _ => ⟨rfl, rfl⟩
  | .str _, _ => ⟨rfl, rfl⟩
  | .ty _, _ => ⟨rfl, rfl⟩
  | .lst ds, h => let z := frzs_pure n μ ds h; ⟨congrArg D.lst z.1, z.2⟩
  | .tup ds, h => let z := frzs_pure n μ ds h; ⟨congrArg D.tup z.1, z.2⟩
  | .dic t ks ds, h => let z := frzs_pure n μ ds h; ⟨congrArg (D.dic t ks) z.1, z.2⟩
  | .obj k ks ds, h => let z := frzs_pure n μ ds h; ⟨congrArg (D.obj k ks) z.1, z.2⟩
  | .ref _, h => nomatch h
theorem frzs_pure (n : Nat) (μ : Mu) : ∀ ds : List D, D.pures ds = true → frzs n μ ds = ds ∧ D.lows n ds = true
  | [], _ => ⟨rfl, rfl⟩
  | d :: ds, h => by
    have h : d.pure = true ∧ D.pures ds = true := Bool.and_eq_true_iff.mp h
    obtain ⟨a1, a2⟩ := frz_pure n μ d h.1
    obtain ⟨b1, b2⟩ := frzs_pure n μ ds h.2
    refine ⟨?_, ?_⟩
    · show frzD n μ d :: frzs n μ ds = _
      rw [a1, b1]
    · show (d.low n && D.lows n ds) = true
      rw [a2, b2]; rfl
end
section
variable {K : D → Mu → Prop} {n k : Nat} {E : Xn → Mu → Prop}
theorem ev_endP {d : D} (h : d.pure = true) : Ew E (endD n d μ) K ↔ K d (μ.take n) := by
  unfold endD
  obtain ⟨a, b⟩ := frz_pure n μ d h
  rw [a, if_pos b]
  exact Iff.rfl
theorem ev_endI {i : Int} : Ew E (endD n (.int i) μ) K ↔ K (.int i) (μ.take n) := ev_endP rfl
theorem ev_endB {b : Bool} : Ew E (endD n (.bl b) μ) K ↔ K (.bl b) (μ.take n) := ev_endP rfl
theorem ev_endN : Ew E (endD n .non μ) K ↔ K .non (μ.take n) := ev_endP rfl
theorem ev_endS {x : Str} : Ew E (endD n (.str x) μ) K ↔ K (.str x) (μ.take n) := ev_endP rfl
theorem ev_endM {ds : List D} (h : μ[k]? = some (.ml ds)) (hk : n ≤ k) (hp : D.pures ds = true) : Ew E (endD n (.ref k) μ) K ↔ K (.lst ds) (μ.take n) := by
  unfold endD
  have e : frzD n μ (.ref k) = .lst ds := by
    show (if k < n then D.ref k else match μ[k]? with
      | some (.ml ds) => .lst ds
      | some (.dd t ks ds) => .dic t ks ds
      | _ => .ref k) = _
    rw [if_neg (by omega), h]
  rw [e, if_pos (frz_pure n μ (.lst ds) hp).2]
  exact Iff.rfl
theorem ev_endC {t : Bool} {ks ds : List D} (h : μ[k]? = some (.dd t ks ds)) (hk : n ≤ k) (hp : D.pures ds = true) : Ew E (endD n (.ref k) μ) K ↔ K (.dic t ks ds) (μ.take n) := by
  unfold endD
  have e : frzD n μ (.ref k) = .dic t ks ds := by
    show (if k < n then D.ref k else match μ[k]? with
      | some (.ml ds) => .lst ds
      | some (.dd t ks ds) => .dic t ks ds
      | _ => .ref k) = _
    rw [if_neg (by omega), h]
  rw [e, if_pos (frz_pure n μ (.dic t ks ds) hp).2]
  exact Iff.rfl
theorem pures_mapI {α : Type} (f : α → Int) (xs : List α) : D.pures (xs.map fun x => D.int (f x)) = true := by
  rw [pures_all, List.all_map]
  exact List.all_eq_true.mpr fun _ _ => rfl
theorem ev_endTI {ns : List Int} : Ew E (endD n (.tup (ns.map D.int)) μ) K ↔ K (.tup (ns.map D.int)) (μ.take n) := ev_endP (pures_ints ns)
theorem ev_endLI {ns : List Int} : Ew E (endD n (.lst (ns.map D.int)) μ) K ↔ K (.lst (ns.map D.int)) (μ.take n) := ev_endP (pures_ints ns)
theorem ev_endTF {α : Type} {f : α → Int} {xs : List α} : Ew E (endD n (.tup (xs.map fun x => D.int (f x))) μ) K ↔ K (.tup (xs.map fun x => D.int (f x))) (μ.take n) := ev_endP (pures_mapI f xs)
theorem ev_endLF {α : Type} {f : α → Int} {xs : List α} : Ew E (endD n (.lst (xs.map fun x => D.int (f x))) μ) K ↔ K (.lst (xs.map fun x => D.int (f x))) (μ.take n) := ev_endP (pures_mapI f xs)
/-- a dict of texts that is told stays where it is -/
theorem ev_endK {kd : List (Str × D)} (h : μ[k]? = some (.dk kd)) (hk : n ≤ k) : Ew E (endD n (.ref k) μ) K ↔ K (.ref k) μ := by
  unfold endD
  have e : frzD n μ (.ref k) = .ref k := by
    show (if k < n then D.ref k else match μ[k]? with
      | some (.ml ds) => .lst ds
      | some (.dd t ks ds) => .dic t ks ds
      | _ => .ref k) = _
    rw [if_neg (by omega), h]
  have z : (D.ref k).low n = false := decide_eq_false (by omega)
  rw [e, z]
  exact Iff.rfl
theorem take_set {j : Nat} {x : SO} : (μ.set j x).take μ.length = μ.set j x := List.take_of_length_le (by rw [List.length_set]; exact Nat.le_refl _)
theorem take_app {l : Mu} : (μ ++ l).take μ.length = μ := List.take_left' rfl
theorem take_self : μ.take μ.length = μ := List.take_length
end
end
/-! operations at ints -/
section
variable {μ : Mu} {K : D → Mu → Prop} {i j : Int} {E : Xn → Mu → Prop}
theorem ev_add : Ew E (addD (.int i) (.int j) μ) K ↔ K (.int (i + j)) μ := Iff.rfl
theorem ev_sub : Ew E (subD (.int i) (.int j) μ) K ↔ K (.int (i - j)) μ := Iff.rfl
theorem ev_mul : Ew E (mulD (.int i) (.int j) μ) K ↔ mulOk i j = true ∧ K (.int (i * j)) μ := by
  show Ew E ((if mulOk i j then intV (i * j) else stk) μ) K ↔ _
  by_cases c : mulOk i j = true
  · rw [if_pos c]; exact ⟨fun h => ⟨c, h⟩, fun h => h.2⟩
  · rw [if_neg c]; exact ⟨fun h => h.elim, fun h => (c h.1).elim⟩
theorem ev_fdiv : Ew E (fdivD (.int i) (.int j) μ) K ↔ divOk j = true ∧ K (.int (i.fdiv j)) μ := by
  show Ew E ((if divOk j then intV (i.fdiv j) else stk) μ) K ↔ _
  by_cases c : divOk j = true
  · rw [if_pos c]; exact ⟨fun h => ⟨c, h⟩, fun h => h.2⟩
  · rw [if_neg c]; exact ⟨fun h => h.elim, fun h => (c h.1).elim⟩
theorem ev_mod : Ew E (modD (.int i) (.int j) μ) K ↔ j ≠ 0 ∧ K (.int (i.fmod j)) μ := by
  show Ew E ((if j ≠ 0 then intV (i.fmod j) else stk) μ) K ↔ _
  by_cases c : j ≠ 0
  · rw [if_pos c]; exact ⟨fun h => ⟨c, h⟩, fun h => h.2⟩
  · rw [if_neg c]; exact ⟨fun h => h.elim, fun h => (c h.1).elim⟩
theorem ev_pow : Ew E (powD (.int i) (.int j) μ) K ↔ powOk i j = true ∧ K (.int (i ^ j.toNat)) μ := by
  show Ew E ((if powOk i j then intV (i ^ j.toNat) else stk) μ) K ↔ _
  by_cases c : powOk i j = true
  · rw [if_pos c]; exact ⟨fun h => ⟨c, h⟩, fun h => h.2⟩
  · rw [if_neg c]; exact ⟨fun h => h.elim, fun h => (c h.1).elim⟩
theorem ev_neg : Ew E (negD (.int i) μ) K ↔ K (.int (-i)) μ := Iff.rfl
theorem ev_eqI : Ew E (eqD (.int i) (.int j) μ) K ↔ K (.bl (decide (i = j))) μ := Iff.rfl
theorem ev_neI : Ew E (neD (.int i) (.int j) μ) K ↔ K (.bl (!decide (i = j))) μ := Iff.rfl
theorem ev_lt : Ew E (ltD (.int i) (.int j) μ) K ↔ K (.bl (decide (i < j))) μ := Iff.rfl
theorem ev_le : Ew E (leD (.int i) (.int j) μ) K ↔ K (.bl (decide (i ≤ j))) μ := Iff.rfl
theorem ev_gt : Ew E (gtD (.int i) (.int j) μ) K ↔ K (.bl (decide (j < i))) μ := Iff.rfl
theorem ev_ge : Ew E (geD (.int i) (.int j) μ) K ↔ K (.bl (decide (j ≤ i))) μ := Iff.rfl
theorem ev_gcd : Ew E (gcdF [.int i, .int j] μ) K ↔ K (.int ((Nat.gcd i.natAbs j.natAbs : Nat) : Int)) μ := Iff.rfl
theorem ev_absI : Ew E (absF [.int i] μ) K ↔ K (.int (if i < 0 then -i else i)) μ := Iff.rfl
theorem ev_maxI : Ew E (maxF [.int i, .int j] μ) K ↔ K (.int (if j > i then j else i)) μ := Iff.rfl
theorem ev_minI : Ew E (minF [.int i, .int j] μ) K ↔ K (.int (if j < i then j else i)) μ := Iff.rfl
theorem ev_intI : Ew E (intF [.int i] μ) K ↔ K (.int i) μ := Iff.rfl
theorem ev_intB {b : Bool} : Ew E (intF [.bl b] μ) K ↔ K (.int (if b then 1 else 0)) μ := Iff.rfl
theorem ev_tupT {xs : List D} : Ew E (tupF [.tup xs] μ) K ↔ K (.tup xs) μ := Iff.rfl
theorem ev_tupL {xs : List D} : Ew E (tupF [.lst xs] μ) K ↔ K (.tup xs) μ := Iff.rfl
theorem ev_lstT {xs : List D} : Ew E (lstF [.tup xs] μ) K ↔ K (.lst xs) μ := Iff.rfl
theorem ev_lstL {xs : List D} : Ew E (lstF [.lst xs] μ) K ↔ K (.lst xs) μ := Iff.rfl
theorem ev_lenT {xs : List D} : Ew E (lenF [.tup xs] μ) K ↔ K (.int (xs.length : Nat)) μ := Iff.rfl
theorem ev_lenL {xs : List D} : Ew E (lenF [.lst xs] μ) K ↔ K (.int (xs.length : Nat)) μ := Iff.rfl
theorem ev_sumL {ns : List Int} : Ew E (sumF [.lst (ns.map D.int)] μ) K ↔ K (.int ns.sum) μ := by
  have e : sumF [.lst (ns.map D.int)] μ = .ok (.int ns.sum) μ := by
    show (match (asL μ (.lst (ns.map D.int))).bind asInts with
      | some ns => intV ns.sum μ
      | none => .no) = _
    show (match asInts (ns.map D.int) with
      | some ns => intV ns.sum μ
      | none => .no) = _
    rw [asInts_map]
    rfl
  rw [e]
  exact Iff.rfl
theorem ev_catL {xs ys : List D} : Ew E (addD (.lst xs) (.lst ys) μ) K ↔ xs.length + ys.length ≤ 1000000 ∧ K (.lst (xs ++ ys)) μ := by
  show Ew E (catL xs ys μ) K ↔ _
  unfold catL
  by_cases c : xs.length + ys.length ≤ 1000000
  · rw [if_pos c]; exact ⟨fun h => ⟨c, h⟩, fun h => h.2⟩
  · rw [if_neg c]; exact ⟨fun h => h.elim, fun h => (c h.1).elim⟩
theorem ev_catT {xs ys : List D} : Ew E (addD (.tup xs) (.tup ys) μ) K ↔ xs.length + ys.length ≤ 1000000 ∧ K (.tup (xs ++ ys)) μ := by
  show Ew E (catT xs ys μ) K ↔ _
  unfold catT
  by_cases c : xs.length + ys.length ≤ 1000000
  · rw [if_pos c]; exact ⟨fun h => ⟨c, h⟩, fun h => h.2⟩
  · rw [if_neg c]; exact ⟨fun h => h.elim, fun h => (c h.1).elim⟩
theorem ev_ixT {xs : List D} : Ew E (ixD (.tup xs) (.int i) μ) K ↔ Ew E (lft (atI xs i) μ) K := Iff.rfl
theorem ev_ixL {xs : List D} : Ew E (ixD (.lst xs) (.int i) μ) K ↔ Ew E (lft (atI xs i) μ) K := Iff.rfl
theorem ev_slT {xs : List D} {lo hi : Option Int} : Ew E (slD (.tup xs) lo hi μ) K ↔ K (.tup (cutD xs lo hi)) μ := Iff.rfl
theorem ev_slL {xs : List D} {lo hi : Option Int} : Ew E (slD (.lst xs) lo hi μ) K ↔ K (.lst (cutD xs lo hi)) μ := Iff.rfl
theorem ev_isN {d : D} : Ew E (isD d .non μ) K ↔ Ew E (lft ((isNonB d).map D.bl) μ) K := Iff.rfl
theorem ev_isNotN {d : D} : Ew E (isNotD d .non μ) K ↔ Ew E (lft ((isNonB d).map fun b => D.bl (!b)) μ) K := Iff.rfl
end
theorem zip_self {α β : Type} : ∀ l : List (α × β), (l.map (·.1)).zip (l.map (·.2)) = l
  | [] => rfl
  | p :: l => by rw [List.map_cons, List.map_cons, List.zip_cons_cons, zip_self l]
theorem outX_p {n : Nat} {E : Xn → Mu → Prop} {x : Xn} {μ : Mu} (h : D.pures (x.fs.map (·.2)) = true) : outX n E x μ ↔ E x (μ.take n) := by
  unfold outX endX
  obtain ⟨a, b⟩ := frzs_pure n μ _ h
  rw [a, if_pos b, zip_self]
  exact Iff.rfl
theorem outX_n {n : Nat} {E : Xn → Mu → Prop} {c : Str} {μ : Mu} : outX n E ⟨c, []⟩ μ ↔ E ⟨c, []⟩ (μ.take n) := outX_p rfl
end PX
namespace PX
open PySem L2
local instance : Tabc := ⟨[]⟩
/-! ### 34. loops and comprehensions at plain data -/
section
variable {t : Tg} {b : Rho → M Fl} {μ : Mu} {ρ : Rho} {ds : List D} {E : Xn → Mu → Prop}
/-- what a turn's end comes to -/
def turnK (P : Rho → Mu → Prop) (K : Fl → Mu → Prop) : Fl → Mu → Prop := fun f μ => match f with
  | .nx ρ => P ρ μ
  | .ct ρ => P ρ μ
  | .bk ρ => K (.nx ρ) μ
  | .rt d => K (.rt d) μ
section
variable {P : Rho → Mu → Prop} {K : Fl → Mu → Prop}
theorem turnK_nx : turnK P K (.nx ρ) μ ↔ P ρ μ := Iff.rfl
theorem turnK_ct : turnK P K (.ct ρ) μ ↔ P ρ μ := Iff.rfl
theorem turnK_bk : turnK P K (.bk ρ) μ ↔ K (.nx ρ) μ := Iff.rfl
theorem turnK_rt {d : D} : turnK P K (.rt d) μ ↔ K (.rt d) μ := Iff.rfl
end
theorem ev_for {K : Fl → Mu → Prop} (P : List D → Rho → Mu → Prop) (step : ∀ d rest ρ μ, P (d :: rest) ρ μ → ∃ ρ1, setTg t d ρ = some ρ1 ∧ Ew E (b ρ1 μ) (turnK (P rest) K)) (fin : ∀ ρ μ, P [] ρ μ → K (.nx ρ) μ) :
    ∀ (ds : List D) (ρ : Rho) (μ : Mu), P ds ρ μ → Ew E (forD t b ds ρ μ) K
  | [], ρ, μ, h => fin ρ μ h
  | d :: ds, ρ, μ, h => by
    obtain ⟨ρ1, e, q⟩ := step d ds ρ μ h
    show Ew E (bd (lft (setTg t d ρ)) (fun ρ1 => bd (b ρ1) fun f => match f with
      | .nx ρ2 => forD t b ds ρ2
      | .ct ρ2 => forD t b ds ρ2
      | .bk ρ2 => rt (.nx ρ2)
      | .rt d => rt (.rt d)) μ) K
    rw [ev_bd, e]
    refine ev_bd.mpr (ev_imp q fun f μ' z => ?_)
    cases f with
    | nx ρ2 => exact ev_for P step fin ds ρ2 μ' z
    | ct ρ2 => exact ev_for P step fin ds ρ2 μ' z
    | bk ρ2 => exact z
    | rt d => exact z
theorem ev_wh {c : Rho → M Bool} {K : Fl → Mu → Prop} (P : Nat → Rho → Mu → Prop) (step : ∀ n ρ μ, P n ρ μ → Ew E (c ρ μ) fun k μ1 => if k = true then ∃ m, n = m + 1 ∧ Ew E (b ρ μ1) (turnK (P m) K) else K (.nx ρ) μ1) :
    ∀ (n N : Nat) (ρ : Rho) (μ : Mu), n < N → P n ρ μ → Ew E (whD c b N ρ μ) K
  | n, 0, ρ, μ, hn, h => absurd hn (Nat.not_lt_zero _)
  | n, N + 1, ρ, μ, hn, h => by
    have q := step n ρ μ h
    show Ew E (ifB (c ρ) (bd (b ρ) fun f => match f with
      | .nx ρ2 => whD c b N ρ2
      | .ct ρ2 => whD c b N ρ2
      | .bk ρ2 => rt (.nx ρ2)
      | .rt d => rt (.rt d)) (rt (.nx ρ)) μ) K
    rw [ev_ifB]
    refine ev_imp q fun k μ1 z => ?_
    cases k with
    | false => exact z
    | true =>
      rw [if_pos rfl] at z ⊢
      obtain ⟨m, e, z⟩ := z
      subst e
      refine ev_bd.mpr (ev_imp z fun f μ' w => ?_)
      cases f with
      | nx ρ2 => exact ev_wh P step m N ρ2 μ' (by omega) w
      | ct ρ2 => exact ev_wh P step m N ρ2 μ' (by omega) w
      | bk ρ2 => exact w
      | rt d => exact w
end
section
variable {t : Tg} {mc : Rho → M Bool} {me : Rho → M D} {ρ : Rho}
/-- a state that is kept or changed, item by item -/
theorem ev_lc {K : List D → Mu → Prop} (P : List D → List D → Mu → Prop) (step : ∀ d rest acc μ, P (d :: rest) acc μ → ∃ ρ1, setTg t d ρ = some ρ1 ∧ Ew NoX (mc ρ1 μ) fun c μ1 => if c = true then Ew NoX (me ρ1 μ1) fun y μ2 => P rest (acc ++ [y]) μ2 else P rest acc μ1)
    (fin : ∀ acc μ, P [] acc μ → K acc μ) : ∀ (ds acc : List D) (μ : Mu), P ds acc μ → Ew NoX (lcD t mc me ds ρ μ) fun ys μ' => K (acc ++ ys) μ'
  | [], acc, μ, h => by
    show K (acc ++ []) μ
    rw [List.append_nil]
    exact fin acc μ h
  | d :: ds, acc, μ, h => by
    obtain ⟨ρ1, e, q⟩ := step d ds acc μ h
    show Ew NoX (bd (lft (setTg t d ρ)) (fun ρ1 => bd (mc ρ1) fun b => if b = true then bd (me ρ1) fun y => bd (lcD t mc me ds ρ) fun ys => rt (y :: ys) else lcD t mc me ds ρ) μ) _
    rw [ev_bd, e]
    refine ev_bd.mpr (ev_imp q fun c μ1 z => ?_)
    cases c with
    | true =>
      rw [if_pos rfl] at z ⊢
      refine ev_bd.mpr (ev_imp z fun y μ2 w => ev_bd.mpr ?_)
      refine ev_imp (ev_lc P step fin ds (acc ++ [y]) μ2 w) fun ys μ3 v => ?_
      show K (acc ++ (y :: ys)) μ3
      rw [List.append_cons]
      exact v
    | false => exact ev_lc P step fin ds acc μ1 z
theorem lc_filter (p : D → Bool) (g : D → D) {μ : Mu} : ∀ (ds : List D), (∀ d ∈ ds, ∃ ρ1, setTg t d ρ = some ρ1 ∧ Ew NoX (mc ρ1 μ) (fun c μ' => c = p d ∧ μ' = μ) ∧ (p d = true → Ew NoX (me ρ1 μ) fun y μ' => y = g d ∧ μ' = μ)) → lcD t mc me ds ρ μ = .ok ((ds.filter p).map g) μ
  | [], _ => rfl
  | d :: ds, h => by
    obtain ⟨ρ1, e, q1, q2⟩ := h d List.mem_cons_self
    have ih := lc_filter p g ds fun x hx => h x (List.mem_cons_of_mem _ hx)
    have e1 := ev_eq q1
    refine ev_eq ?_
    show Ew NoX (bd (lft (setTg t d ρ)) (fun ρ1 => bd (mc ρ1) fun b => if b = true then bd (me ρ1) fun y => bd (lcD t mc me ds ρ) fun ys => rt (y :: ys) else lcD t mc me ds ρ) μ) _
    rw [ev_bd, e]
    refine ev_bd.mpr ((ev_of e1).mpr ?_)
    rw [List.filter_cons]
    cases hp : p d with
    | true =>
      rw [if_pos rfl, if_pos rfl]
      refine ev_bd.mpr ((ev_of (ev_eq (q2 hp))).mpr (ev_bd.mpr ((ev_of ih).mpr ⟨rfl, rfl⟩)))
    | false =>
      rw [if_neg Bool.false_ne_true, if_neg Bool.false_ne_true]
      exact (ev_of ih).mpr ⟨rfl, rfl⟩
theorem lc_map (g : D → D) {μ : Mu} {ds : List D} (h : ∀ d ∈ ds, ∃ ρ1, setTg t d ρ = some ρ1 ∧ Ew NoX (me ρ1 μ) fun y μ' => y = g d ∧ μ' = μ) : lcD t (kM true) me ds ρ μ = .ok (ds.map g) μ := by
  have e := lc_filter (t := t) (mc := kM true) (me := me) (ρ := ρ) (fun _ => true) g (μ := μ) ds fun d hd => let ⟨ρ1, e, q⟩ := h d hd; ⟨ρ1, e, ⟨rfl, rfl⟩, fun _ => q⟩
  rw [e]
  congr 2
  exact List.filter_eq_self.mpr fun _ _ => rfl
/-- over ints -/
theorem lc_ints (g : Int → D) {μ : Mu} {ns : List Int} {i : Nat} (h : ∀ n ∈ ns, Ew NoX (me (ρ.set i (some (.int n))) μ) fun y μ' => y = g n ∧ μ' = μ) : lcD (.v i) (kM true) me (ns.map .int) ρ μ = .ok (ns.map g) μ := by
  let g' : D → D := fun d => match d with
    | .int n => g n
    | d => d
  have e := lc_map (t := .v i) (me := me) (ρ := ρ) g' (μ := μ) (ds := ns.map .int) fun d hd => by
    obtain ⟨n, hn, rfl⟩ := List.mem_map.mp hd
    exact ⟨_, rfl, h n hn⟩
  rw [e, List.map_map]
  rfl
def pairD (p : Int × Int) : D := .tup [.int p.1, .int p.2]
theorem zip_ints (xs ys : List Int) : zipD (xs.map .int) (ys.map .int) = (xs.zip ys).map pairD := by
  unfold zipD
  induction xs generalizing ys with
  | nil => rfl
  | cons x xs ih =>
    cases ys with
    | nil => rfl
    | cons y ys =>
      show D.tup [.int x, .int y] :: List.zipWith _ _ _ = pairD (x, y) :: _
      rw [ih ys]
      rfl
theorem lc_pairs (g : Int × Int → D) {μ : Mu} {ps : List (Int × Int)} {i j : Nat} (h : ∀ p ∈ ps, Ew NoX (me ((ρ.set i (some (.int p.1))).set j (some (.int p.2))) μ) fun y μ' => y = g p ∧ μ' = μ) : lcD (.t [i, j]) (kM true) me (ps.map pairD) ρ μ = .ok (ps.map g) μ := by
  let g' : D → D := fun d => match d with
    | .tup [.int a, .int b] => g (a, b)
    | d => d
  have e := lc_map (t := .t [i, j]) (me := me) (ρ := ρ) g' (μ := μ) (ds := ps.map pairD) fun d hd => by
    obtain ⟨p, hp, rfl⟩ := List.mem_map.mp hd
    exact ⟨_, rfl, h p hp⟩
  rw [e, List.map_map]
  rfl
theorem lc_intsI (g : Int → Int) {μ : Mu} {ns : List Int} {i : Nat} (h : ∀ n ∈ ns, Ew NoX (me (ρ.set i (some (.int n))) μ) fun y μ' => y = .int (g n) ∧ μ' = μ) : lcD (.v i) (kM true) me (ns.map .int) ρ μ = .ok ((ns.map g).map .int) μ := by
  rw [lc_ints (fun x => .int (g x)) h, List.map_map]
  rfl
theorem lc_pairsI (g : Int × Int → Int) {μ : Mu} {ps : List (Int × Int)} {i j : Nat} (h : ∀ p ∈ ps, Ew NoX (me ((ρ.set i (some (.int p.1))).set j (some (.int p.2))) μ) fun y μ' => y = .int (g p) ∧ μ' = μ) :
    lcD (.t [i, j]) (kM true) me (ps.map pairD) ρ μ = .ok ((ps.map g).map .int) μ := by
  rw [lc_pairs (fun x => .int (g x)) h, List.map_map]
  rfl
theorem ev_zipTT {E : Xn → Mu → Prop} {xs ys : List Int} {μ : Mu} {K : List D → Mu → Prop} : Ew E (zipM [.tup (xs.map .int), .tup (ys.map .int)] μ) K ↔ K ((xs.zip ys).map pairD) μ := by
  show K (zipD (xs.map .int) (ys.map .int)) μ ↔ _
  rw [zip_ints]
theorem ev_zipM {E : Xn → Mu → Prop} {x y : D} {xs ys : List D} {μ : Mu} {K : List D → Mu → Prop} (hx : sqD x = some xs) (hy : sqD y = some ys) : Ew E (zipM [x, y] μ) K ↔ K (zipD xs ys) μ := by
  show Ew E (lft ((sqD x).bind fun xs => (sqD y).map fun ys => zipD xs ys) μ) K ↔ _
  rw [hx, hy]
  exact Iff.rfl
theorem ev_enumT {E : Xn → Mu → Prop} {xs : List D} {μ : Mu} {K : List D → Mu → Prop} : Ew E (enumM [.tup xs] μ) K ↔ K (enumD 0 xs) μ := Iff.rfl
theorem ev_enumL {E : Xn → Mu → Prop} {xs : List D} {μ : Mu} {K : List D → Mu → Prop} : Ew E (enumM [.lst xs] μ) K ↔ K (enumD 0 xs) μ := Iff.rfl
end
/-! places -/
theorem at_last {α : Type} (xs : List α) (x : α) : atI (xs ++ [x]) (-1) = some x := by
  unfold atI ixN
  rw [if_neg (by decide), if_pos (by simp; omega)]
  simp only [Option.bind_some, List.length_append, List.length_cons, List.length_nil]
  have e : (-1 + ((xs.length + (0 + 1) : Nat) : Int)).toNat = xs.length := by omega
  rw [e]
  simp
theorem at_nat {α : Type} {xs : List α} {k : Nat} {x : α} (h : xs[k]? = some x) : atI xs (k : Int) = some x := by
  have hk : k < xs.length := (List.getElem?_eq_some_iff.mp h).1
  unfold atI ixN
  rw [if_pos (by omega), if_pos (by omega)]
  simp only [Option.bind_some, Int.toNat_natCast]
  exact h
theorem cut_init (xs : List D) : cutD xs none (some (-1)) = xs.dropLast := by
  unfold cutD
  have e : HT.sIx xs.length 0 none = 0 := rfl
  have e2 : HT.sIx xs.length xs.length (some (-1)) = xs.length - 1 := by
    show (if (-1 : Int) < 0 then (-1 + (xs.length : Int)).toNat else min (-1 : Int).toNat xs.length) = _
    rw [if_pos (by decide)]
    omega
  rw [e, e2, List.dropLast_eq_take]
  simp
theorem cut_last (xs : List D) (x : D) : cutD (xs ++ [x]) (some (-1)) none = [x] := by
  unfold cutD
  have e : HT.sIx (xs ++ [x]).length 0 (some (-1)) = xs.length := by
    show (if (-1 : Int) < 0 then (-1 + ((xs ++ [x]).length : Int)).toNat else min (-1 : Int).toNat (xs ++ [x]).length) = _
    rw [if_pos (by decide), List.length_append]
    simp
    omega
  have e2 : HT.sIx (xs ++ [x]).length (xs ++ [x]).length none = xs.length + 1 := by
    show (xs ++ [x]).length = _
    simp
  rw [e, e2]
  simp
/-! comparing by repr -/
theorem ev_rep {E : Xn → Mu → Prop} {d : D} {μ : Mu} {K : D → Mu → Prop} (h : repOk (pdm μ d) = true) : Ew E (repF [d] μ) K ↔ K (.str (pdm μ d).shown) μ := by
  show Ew E (if repOk (pdm μ d) = true then .ok (.str (pdm μ d).shown) μ else .no) K ↔ _
  rw [if_pos h]
  exact Iff.rfl
theorem ev_eqS {E : Xn → Mu → Prop} {x y : Str} {μ : Mu} {K : D → Mu → Prop} : Ew E (eqD (.str x) (.str y) μ) K ↔ K (.bl (decide (x = y))) μ := Iff.rfl
/-- data that repr may be asked for: short lists and tuples, k deep, of numbers that are not too long -/
def fit : Nat → D → Prop
  | _, .non => True
  | _, .bl _ => True
  | _, .int i => i.natAbs.log2 < 1920
  | k + 1, .lst xs => xs.length ≤ 18 ∧ ∀ x ∈ xs, fit k x
  | k + 1, .tup xs => xs.length ≤ 18 ∧ ∀ x ∈ xs, fit k x
  | _, _ => False
def nb : Nat → Nat
  | 0 => 0
  | k + 1 => 18 * (nb k + 1)
theorem fit_all (k : Nat) (ih : ∀ d, fit k d → d.pd.canLay0 = true ∧ d.pd.showable = true ∧ d.pd.depth ≤ k ∧ nodes d.pd ≤ nb k) : ∀ xs : List D, (∀ x ∈ xs, fit k x) →
    PyData.canLayAll0 (D.pds xs) = true ∧ PyData.showableAll (D.pds xs) = true ∧ PyData.depthAll (D.pds xs) ≤ k ∧ nodesAll (D.pds xs) ≤ xs.length * (nb k + 1)
  | [], _ => ⟨rfl, rfl, Nat.zero_le _, Nat.zero_le _⟩
  | x :: xs, h => by
    obtain ⟨a1, a2, a3, a4⟩ := ih x (h x List.mem_cons_self)
    obtain ⟨b1, b2, b3, b4⟩ := fit_all k ih xs fun y hy => h y (List.mem_cons_of_mem _ hy)
    refine ⟨?_, ?_, ?_, ?_⟩
    · show (x.pd.canLay0 && PyData.canLayAll0 (D.pds xs)) = true
      rw [a1, b1]; rfl
    · show (x.pd.showable && PyData.showableAll (D.pds xs)) = true
      rw [a2, b2]; rfl
    · show max x.pd.depth (PyData.depthAll (D.pds xs)) ≤ k
      omega
    · show nodes x.pd + 1 + nodesAll (D.pds xs) ≤ (xs.length + 1) * (nb k + 1)
      rw [Nat.succ_mul]
      omega
theorem fit_pd : ∀ (k : Nat) (d : D), fit k d → d.pd.canLay0 = true ∧ d.pd.showable = true ∧ d.pd.depth ≤ k ∧ nodes d.pd ≤ nb k := by
  intro k
  induction k with
  | zero =>
    intro d h
    cases d with
    | non => exact ⟨rfl, rfl, Nat.zero_le _, Nat.zero_le _⟩
    | bl b => exact ⟨rfl, rfl, Nat.zero_le _, Nat.zero_le _⟩
    | int i => exact ⟨rfl, decide_eq_true h, Nat.zero_le _, Nat.zero_le _⟩
    | _ => exact h.elim
  | succ k ih =>
    intro d h
    have gen : ∀ xs : List D, (xs.length ≤ 18 ∧ ∀ x ∈ xs, fit k x) → PyData.canLayAll0 (D.pds xs) = true ∧ PyData.showableAll (D.pds xs) = true ∧ PyData.depthAll (D.pds xs) ≤ k ∧ nodesAll (D.pds xs) ≤ nb (k + 1) := fun xs hx => by
      obtain ⟨b1, b2, b3, b4⟩ := fit_all k ih xs hx.2
      exact ⟨b1, b2, b3, Nat.le_trans b4 (Nat.mul_le_mul_right _ hx.1)⟩
    cases d with
    | non => exact ⟨rfl, rfl, Nat.zero_le _, Nat.zero_le _⟩
    | bl b => exact ⟨rfl, rfl, Nat.zero_le _, Nat.zero_le _⟩
    | int i => exact ⟨rfl, decide_eq_true h, Nat.zero_le _, Nat.zero_le _⟩
    | lst xs =>
      obtain ⟨b1, b2, b3, b4⟩ := gen xs h
      exact ⟨b1, b2, Nat.succ_le_succ b3, b4⟩
    | tup xs =>
      obtain ⟨b1, b2, b3, b4⟩ := gen xs h
      exact ⟨b1, b2, Nat.succ_le_succ b3, b4⟩
    | _ => exact h.elim
theorem fit_rep {d : D} {μ : Mu} (h : fit 3 d) : repOk (pdm μ d) = true := by
  have e : pdm μ d = d.pd := by
    cases d with
    | ref n => exact h.elim
    | _ => rfl
  rw [e]
  obtain ⟨h1, h2, h3, h4⟩ := fit_pd 3 d h
  unfold repOk
  rw [h1, h2]
  have n3 : nb 3 = 6174 := rfl
  simp only [Bool.and_eq_true, decide_eq_true_eq, Bool.true_and]
  omega
/-- data that may be compared: lists and tuples, k deep -/
def shp : Nat → D → Prop
  | _, .non => True
  | _, .bl _ => True
  | _, .int _ => True
  | k + 1, .lst xs => ∀ x ∈ xs, shp k x
  | k + 1, .tup xs => ∀ x ∈ xs, shp k x
  | _, _ => False
theorem shp_all (k : Nat) (ih : ∀ d, shp k d → d.pd.canLay0 = true ∧ d.pd.depth ≤ k) : ∀ xs : List D, (∀ x ∈ xs, shp k x) → PyData.canLayAll0 (D.pds xs) = true ∧ PyData.depthAll (D.pds xs) ≤ k
  | [], _ => ⟨rfl, Nat.zero_le _⟩
  | x :: xs, h => by
    obtain ⟨a1, a3⟩ := ih x (h x List.mem_cons_self)
    obtain ⟨b1, b3⟩ := shp_all k ih xs fun y hy => h y (List.mem_cons_of_mem _ hy)
    refine ⟨?_, ?_⟩
    · show (x.pd.canLay0 && PyData.canLayAll0 (D.pds xs)) = true
      rw [a1, b1]; rfl
    · show max x.pd.depth (PyData.depthAll (D.pds xs)) ≤ k
      omega
theorem shp_pd : ∀ (k : Nat) (d : D), shp k d → d.pd.canLay0 = true ∧ d.pd.depth ≤ k := by
  intro k
  induction k with
  | zero =>
    intro d h
    cases d with
    | non => exact ⟨rfl, Nat.zero_le _⟩
    | bl b => exact ⟨rfl, Nat.zero_le _⟩
    | int i => exact ⟨rfl, Nat.zero_le _⟩
    | _ => exact h.elim
  | succ k ih =>
    intro d h
    cases d with
    | non => exact ⟨rfl, Nat.zero_le _⟩
    | bl b => exact ⟨rfl, Nat.zero_le _⟩
    | int i => exact ⟨rfl, Nat.zero_le _⟩
    | lst xs =>
      obtain ⟨b1, b3⟩ := shp_all k ih xs h
      exact ⟨b1, Nat.succ_le_succ b3⟩
    | tup xs =>
      obtain ⟨b1, b3⟩ := shp_all k ih xs h
      exact ⟨b1, Nat.succ_le_succ b3⟩
    | _ => exact h.elim
theorem shp_ok {d : D} {μ : Mu} (h : shp 8 d) : SeqAt.shaped (pdm μ d) = true ∧ pdm μ d = d.pd := by
  have e : pdm μ d = d.pd := by
    cases d with
    | ref n => exact h.elim
    | _ => rfl
  refine ⟨?_, e⟩
  rw [e]
  obtain ⟨h1, h2⟩ := shp_pd 8 d h
  unfold SeqAt.shaped
  rw [h1]
  simp only [Bool.true_and, decide_eq_true_eq]
  omega
theorem shp_ints (ns : List Int) : ∀ x ∈ ns.map D.int, shp 0 x := fun x hx => by
  obtain ⟨n, _, rfl⟩ := List.mem_map.mp hx
  trivial
theorem shp_mono : ∀ {j : Nat} {d : D} (k : Nat), shp j d → j ≤ k → shp k d
  | 0, d, k, h, hk => by
    cases d with
    | non => cases k <;> trivial
    | bl b => cases k <;> trivial
    | int i => cases k <;> trivial
    | _ => exact h.elim
  | j + 1, d, 0, h, hk => absurd hk (by omega)
  | j + 1, d, k + 1, h, hk => by
    cases d with
    | non => trivial
    | bl b => trivial
    | int i => trivial
    | lst xs => exact fun x hx => shp_mono k (h x hx) (by omega)
    | tup xs => exact fun x hx => shp_mono k (h x hx) (by omega)
    | _ => exact h.elim
theorem eqB_q {E : Xn → Mu → Prop} {d e : D} {μ : Mu} {K : Bool → Mu → Prop} (hd : shp 8 d) (he : shp 8 e) (hq : (∃ xs, d = .lst xs) ∨ (∃ xs, d = .tup xs)) : Ew E (eqB d e μ) K ↔ K (PyData.eqv d.pd e.pd) μ := by
  obtain ⟨a1, a2⟩ := shp_ok (μ := μ) hd
  obtain ⟨b1, b2⟩ := shp_ok (μ := μ) he
  have e1 : eqB d e μ = if SeqAt.shaped (pdm μ d) && SeqAt.shaped (pdm μ e) then .ok (PyData.eqv (pdm μ d) (pdm μ e)) μ else .no := by
    rcases hq with ⟨xs, rfl⟩ | ⟨xs, rfl⟩ <;> rfl
  rw [e1, a1, b1, a2, b2]
  exact Iff.rfl
theorem eqv_ints : ∀ a b : List Int, PyData.eqvAll (D.pds (a.map D.int)) (D.pds (b.map D.int)) = decide (a = b)
  | [], [] => rfl
  | [], _ :: _ => rfl
  | _ :: _, [] => rfl
  | x :: a, y :: b => by
    show ((x == y) && PyData.eqvAll (D.pds (a.map D.int)) (D.pds (b.map D.int))) = _
    rw [eqv_ints a b]
    by_cases h : x = y
    · subst h; simp
    · simp [h]
theorem ev_neTI {E : Xn → Mu → Prop} {a b : List Int} {μ : Mu} {K : D → Mu → Prop} : Ew E (neD (.tup (a.map .int)) (.tup (b.map .int)) μ) K ↔ K (.bl (!decide (a = b))) μ := by
  have q := eqB_q (E := E) (μ := μ) (K := fun c μ' => K (.bl (!c)) μ') (shp_mono 8 (show shp 1 (.tup (a.map .int)) from shp_ints a) (by decide)) (shp_mono 8 (show shp 1 (.tup (b.map .int)) from shp_ints b) (by decide)) (.inr ⟨_, rfl⟩)
  have e : PyData.eqv (D.pd (.tup (a.map .int))) (D.pd (.tup (b.map .int))) = decide (a = b) := eqv_ints a b
  rw [e] at q
  exact (ev_bd (f := fun b => blV (!b))).trans q
theorem ev_eqTI {E : Xn → Mu → Prop} {a b : List Int} {μ : Mu} {K : D → Mu → Prop} : Ew E (eqD (.tup (a.map .int)) (.tup (b.map .int)) μ) K ↔ K (.bl (decide (a = b))) μ := by
  have q := eqB_q (E := E) (μ := μ) (K := fun c μ' => K (.bl c) μ') (shp_mono 8 (show shp 1 (.tup (a.map .int)) from shp_ints a) (by decide)) (shp_mono 8 (show shp 1 (.tup (b.map .int)) from shp_ints b) (by decide)) (.inr ⟨_, rfl⟩)
  have e : PyData.eqv (D.pd (.tup (a.map .int))) (D.pd (.tup (b.map .int))) = decide (a = b) := eqv_ints a b
  rw [e] at q
  exact (ev_bd (f := blV)).trans q
theorem eqv_none (xs : List D) : PyData.eqv (D.pd (.lst xs)) (D.pd (.lst [])) = xs.isEmpty := by cases xs <;> rfl
theorem ev_neE {E : Xn → Mu → Prop} {xs : List D} {μ : Mu} {K : D → Mu → Prop} (h : shp 8 (.lst xs)) : Ew E (neD (.lst xs) (.lst []) μ) K ↔ K (.bl (!xs.isEmpty)) μ := by
  have q := eqB_q (E := E) (μ := μ) (K := fun c μ' => K (.bl (!c)) μ') h (show shp 8 (.lst []) from fun x hx => (List.not_mem_nil hx).elim) (.inl ⟨_, rfl⟩)
  rw [eqv_none] at q
  exact (ev_bd (f := fun b => blV (!b))).trans q
theorem ev_eqE {E : Xn → Mu → Prop} {xs : List D} {μ : Mu} {K : D → Mu → Prop} (h : shp 8 (.lst xs)) : Ew E (eqD (.lst xs) (.lst []) μ) K ↔ K (.bl xs.isEmpty) μ := by
  have q := eqB_q (E := E) (μ := μ) (K := fun c μ' => K (.bl c) μ') h (show shp 8 (.lst []) from fun x hx => (List.not_mem_nil hx).elim) (.inl ⟨_, rfl⟩)
  rw [eqv_none] at q
  exact (ev_bd (f := blV)).trans q
/-! exceptions: raised, heard -/
theorem ev_raiM {E : Xn → Mu → Prop} {k : Cls} {ms : List (Rho → M D)} {ρ : Rho} {μ : Mu} {K : Fl → Mu → Prop} : Ew E (raiM k ms ρ μ) K ↔ Ew E (evA ms ρ μ) fun ds μ' => if ds.length = k.fs.length then E ⟨k.x, k.fs.zip ds⟩ μ' else False := by
  unfold raiM
  rw [ev_bd]
  refine ⟨fun h => ev_imp h fun ds μ' q => ?_, fun h => ev_imp h fun ds μ' q => ?_⟩
  · by_cases c : ds.length = k.fs.length
    · rw [if_pos c] at q ⊢; exact q
    · rw [if_neg c] at q; exact q.elim
  · by_cases c : ds.length = k.fs.length
    · rw [if_pos c] at q ⊢; exact q
    · rw [if_neg c] at q; exact q.elim
/-- what becomes of an exception that is heard -/
def heX (cl : List Cls) (h : List (Str × HX)) (E : Xn → Mu → Prop) (K : D → Mu → Prop) : Xn → Mu → Prop := fun x μ => match clsOf cl x.c with
  | some k => Ew E (hdX cl k x h μ) K
  | none => False
theorem ev_haM {E : Xn → Mu → Prop} {cl : List Cls} {h : List (Str × HX)} {vs : List Nat} {mb : Rho → M D} {ρ : Rho} {μ : Mu} {K : D → Mu → Prop} : Ew E (haM cl h vs mb ρ μ) K ↔ Ew (heX cl h E K) (mb (wipeD ρ vs) μ) fun d μ' => K (.lst [d]) μ' := by
  unfold haM hdM
  cases mb (wipeD ρ vs) μ with
  | ok d μ' => exact Iff.rfl
  | ex x μ' =>
    show Sat (match clsOf cl x.c with
      | some k => hdX cl k x h μ'
      | none => .no) K E ↔ heX cl h E K x μ'
    unfold heX
    cases clsOf cl x.c <;> exact Iff.rfl
  | no => exact Iff.rfl
theorem heX_of {E : Xn → Mu → Prop} {cl : List Cls} {h : List (Str × HX)} {K : D → Mu → Prop} {x : Xn} {μ : Mu} {k : Cls} {d : D} (h1 : clsOf cl x.c = some k) (h2 : hdX cl k x h μ = .ok d μ) : heX cl h E K x μ ↔ K d μ := by
  unfold heX
  rw [h1]
  show Ew E (hdX cl k x h μ) K ↔ _
  rw [h2]
  exact Iff.rfl
theorem ev_fqM {E : Xn → Mu → Prop} {i : Rho → M D} {t : Tg} {b : Rho → M Fl} {ρ : Rho} {μ : Mu} {K : Fl → Mu → Prop} : Ew E (fqM i t b ρ μ) K ↔ Ew E (i ρ μ) fun d μ' => Ew E (forQ t b d ρ μ') K := ev_bd
theorem ev_lcG {E : Xn → Mu → Prop} {mk : List D → M D} {mi : Rho → M (List D)} {t : Tg} {mc : Rho → M Bool} {me : Rho → M D} {vs : List Nat} {ρ : Rho} {μ : Mu} {K : D → Mu → Prop} :
    Ew E (lcG mk mi t mc me vs ρ μ) K ↔ Ew E (mi ρ μ) fun ds μ1 => Ew NoX (lcD t mc me ds (wipeD ρ vs) μ1) fun ys μ2 => Ew E (mk ys μ2) K := by
  unfold lcG
  rw [ev_bd]
  exact ⟨fun h => ev_imp h fun x μ1 q => (sat_noX.mp (sat_bd.mp q)).mono (fun _ _ z => z) fun _ _ z => z, fun h => ev_imp h fun x μ1 q => sat_bd.mpr (sat_noX.mpr (q.mono (fun _ _ z => z) fun _ _ z => z))⟩
theorem ev_mkR {E : Xn → Mu → Prop} {ds : List D} {μ : Mu} {K : D → Mu → Prop} : Ew E (mkR ds μ) K ↔ (D.pures ds = true ∧ ds.length ≤ 1000000) ∧ K (.ref μ.length) (μ ++ [.ml ds]) := by
  unfold mkR
  by_cases c : (D.pures ds && decide (ds.length ≤ 1000000)) = true
  · rw [if_pos c]
    simp only [Bool.and_eq_true, decide_eq_true_eq] at c
    exact ⟨fun h => ⟨c, h⟩, fun h => h.2⟩
  · rw [if_neg c]
    simp only [Bool.and_eq_true, decide_eq_true_eq] at c
    exact ⟨fun h => h.elim, fun h => (c h.1).elim⟩
theorem end_p {E : Xn → Mu → Prop} {d : D} {μ : Mu} (h : d.pure = true) : Ew E (endD μ.length d μ) fun b μ' => b = d ∧ μ' = μ := (ev_endP h).mpr ⟨rfl, take_self⟩
/-! data that repr may show: depth and size -/
structure Rk (k m : Nat) (d : D) : Prop where
  nr : ∀ n, d ≠ .ref n
  lay : d.pd.canLay0 = true
  shw : d.pd.showable = true
  dep : d.pd.depth ≤ k
  nod : nodes d.pd ≤ m
theorem Rk.rep {k m : Nat} {d : D} {μ : Mu} (h : Rk k m d) (hk : k ≤ 64) (hm : m ≤ 8000) : repOk (pdm μ d) = true := by
  have e : pdm μ d = d.pd := by
    cases d with
    | ref n => exact (h.nr n rfl).elim
    | _ => rfl
  have h3 := h.dep
  have h4 := h.nod
  rw [e]
  unfold repOk
  rw [h.lay, h.shw]
  simp only [Bool.and_self, Bool.true_and, Bool.and_eq_true, decide_eq_true_eq]
  exact ⟨by omega, by omega⟩
theorem Rk.mono {j k m n : Nat} {d : D} (h : Rk j m d) (hk : j ≤ k) (hm : m ≤ n) : Rk k n d := ⟨h.nr, h.lay, h.shw, Nat.le_trans h.dep hk, Nat.le_trans h.nod hm⟩
theorem rk_non : Rk 0 0 .non := ⟨fun _ z => (nomatch z), rfl, rfl, Nat.zero_le _, Nat.zero_le _⟩
theorem rk_bl (b : Bool) : Rk 0 0 (.bl b) := ⟨fun _ z => (nomatch z), rfl, rfl, Nat.zero_le _, Nat.zero_le _⟩
theorem rk_int {i : Int} (h : i.natAbs.log2 < 1920) : Rk 0 0 (.int i) := ⟨fun _ z => (nomatch z), rfl, decide_eq_true h, Nat.zero_le _, Nat.zero_le _⟩
theorem rk_str {x : Str} (h : (PyData.str x).canLay0 = true) : Rk 0 x.cps.size (.str x) := ⟨fun _ z => (nomatch z), h, rfl, Nat.zero_le _, Nat.le_refl _⟩
theorem rk_all {k m : Nat} : ∀ xs : List D, (∀ x ∈ xs, Rk k m x) → PyData.canLayAll0 (D.pds xs) = true ∧ PyData.showableAll (D.pds xs) = true ∧ PyData.depthAll (D.pds xs) ≤ k ∧ nodesAll (D.pds xs) ≤ xs.length * (m + 1)
  | [], _ => ⟨rfl, rfl, Nat.zero_le _, Nat.zero_le _⟩
  | x :: xs, h => by
    obtain ⟨_, a1, a2, a3, a4⟩ := h x List.mem_cons_self
    obtain ⟨b1, b2, b3, b4⟩ := rk_all xs fun y hy => h y (List.mem_cons_of_mem _ hy)
    refine ⟨?_, ?_, ?_, ?_⟩
    · show (x.pd.canLay0 && PyData.canLayAll0 (D.pds xs)) = true
      rw [a1, b1]; rfl
    · show (x.pd.showable && PyData.showableAll (D.pds xs)) = true
      rw [a2, b2]; rfl
    · show max x.pd.depth (PyData.depthAll (D.pds xs)) ≤ k
      omega
    · show nodes x.pd + 1 + nodesAll (D.pds xs) ≤ (xs.length + 1) * (m + 1)
      rw [Nat.succ_mul]
      omega
theorem rk_lst {k m : Nat} {xs : List D} (h : ∀ x ∈ xs, Rk k m x) : Rk (k + 1) (xs.length * (m + 1)) (.lst xs) := by
  obtain ⟨b1, b2, b3, b4⟩ := rk_all xs h
  exact ⟨fun _ z => (nomatch z), b1, b2, Nat.succ_le_succ b3, b4⟩
theorem rk_tup {k m : Nat} {xs : List D} (h : ∀ x ∈ xs, Rk k m x) : Rk (k + 1) (xs.length * (m + 1)) (.tup xs) := by
  obtain ⟨b1, b2, b3, b4⟩ := rk_all xs h
  exact ⟨fun _ z => (nomatch z), b1, b2, Nat.succ_le_succ b3, b4⟩
theorem fit_rk {k : Nat} {d : D} (h : fit k d) : Rk k (nb k) d := by
  obtain ⟨h1, h2, h3, h4⟩ := fit_pd k d h
  refine ⟨fun n e => ?_, h1, h2, h3, h4⟩
  subst e
  cases k <;> exact h.elim
end PX
namespace PX
/-! ### plain: common divisors -/
def gcdA (a : Nat) : List Int → Nat
  | [] => a
  | x :: r => gcdA (Nat.gcd a x.natAbs) r
def gcdL (ns : List Int) : Nat := gcdA 0 ns
theorem gcdA_eq : ∀ (ns : List Int) (a : Nat), gcdA a ns = Nat.gcd a (gcdA 0 ns)
  | [], a => (Nat.gcd_zero_right a).symm
  | x :: r, a => by
    show gcdA (Nat.gcd a x.natAbs) r = Nat.gcd a (gcdA (Nat.gcd 0 x.natAbs) r)
    rw [gcdA_eq r (Nat.gcd a x.natAbs), gcdA_eq r (Nat.gcd 0 x.natAbs), Nat.gcd_zero_left, Nat.gcd_assoc]
theorem gcdL_cons (x : Int) (r : List Int) : gcdL (x :: r) = Nat.gcd x.natAbs (gcdL r) := by
  show gcdA (Nat.gcd 0 x.natAbs) r = _
  rw [gcdA_eq, Nat.gcd_zero_left]
  rfl
theorem gcdL_dvd : ∀ (ns : List Int) (x : Int), x ∈ ns → gcdL ns ∣ x.natAbs
  | y :: r, x, h => by
    rw [gcdL_cons]
    rcases List.mem_cons.mp h with z | z
    · rw [z]; exact Nat.gcd_dvd_left _ _
    · exact Nat.dvd_trans (Nat.gcd_dvd_right _ _) (gcdL_dvd r x z)
theorem gcdL_great {k : Nat} : ∀ (ns : List Int), (∀ x ∈ ns, k ∣ x.natAbs) → k ∣ gcdL ns
  | [], _ => Nat.dvd_zero k
  | y :: r, h => by
    rw [gcdL_cons]
    exact Nat.dvd_gcd (h y List.mem_cons_self) (gcdL_great r fun x hx => h x (List.mem_cons_of_mem _ hx))
theorem gcdL_zero : ∀ (ns : List Int), gcdL ns = 0 → ∀ x ∈ ns, x = 0
  | y :: r, h, x, hx => by
    rw [gcdL_cons, Nat.gcd_eq_zero_iff] at h
    rcases List.mem_cons.mp hx with z | z
    · rw [z]; exact Int.natAbs_eq_zero.mp h.1
    · exact gcdL_zero r h.2 x z
theorem gcdL_bound {B : Nat} (hB : 0 < B) (ns : List Int) (h : ∀ x ∈ ns, x.natAbs < B) : gcdL ns < B := by
  by_cases z : gcdL ns = 0
  · omega
  · have : ∃ x ∈ ns, x ≠ 0 := by
      refine Classical.byContradiction fun hn => z ?_
      have : ∀ x ∈ ns, (0 : Nat) ∣ x.natAbs := fun x hx => by
        have : x = 0 := Classical.byContradiction fun q => hn ⟨x, hx, q⟩
        rw [this]; exact Nat.dvd_refl 0
      exact Nat.eq_zero_of_zero_dvd (gcdL_great ns this)
    obtain ⟨x, hx, hne⟩ := this
    exact Nat.lt_of_le_of_lt (Nat.le_of_dvd (Int.natAbs_pos.mpr hne) (gcdL_dvd ns x hx)) (h x hx)
theorem gcdL_mul (c : Int) : ∀ ns : List Int, gcdL (ns.map fun x => c * x) = c.natAbs * gcdL ns
  | [] => rfl
  | x :: r => by
    rw [List.map_cons, gcdL_cons, gcdL_mul c r, gcdL_cons, Int.natAbs_mul, Nat.gcd_mul_left]
/-- lowered: divided by the common divisor if that is above 1 -/
def lowL (ns : List Int) : List Int := if gcdL ns < 2 then ns else ns.map fun x => x.fdiv (gcdL ns : Int)
theorem dvd_int {ns : List Int} {x : Int} (h : x ∈ ns) : ((gcdL ns : Nat) : Int) ∣ x := Int.ofNat_dvd_left.mpr (gcdL_dvd ns x h)
theorem fdiv_mul {g x : Int} (hg : 0 < g) (h : g ∣ x) : x.fdiv g * g = x := by
  rw [Int.fdiv_eq_ediv_of_nonneg _ (Int.le_of_lt hg)]
  exact Int.ediv_mul_cancel h
/-- so many times the lowered is the row -/
theorem lowL_scale (ns : List Int) : ∃ g : Int, 0 < g ∧ ns = (lowL ns).map fun x => g * x := by
  unfold lowL
  by_cases h : gcdL ns < 2
  · rw [if_pos h]
    exact ⟨1, by decide, by simp⟩
  · rw [if_neg h]
    have hg : (0 : Int) < (gcdL ns : Int) := by omega
    refine ⟨(gcdL ns : Int), hg, ?_⟩
    rw [List.map_map]
    have : ∀ x ∈ ns, ((fun x => (gcdL ns : Int) * x) ∘ fun x => x.fdiv (gcdL ns : Int)) x = x := fun x hx => by
      show (gcdL ns : Int) * x.fdiv (gcdL ns : Int) = x
      rw [Int.mul_comm]
      exact fdiv_mul hg (dvd_int hx)
    rw [List.map_congr_left this]
    simp
theorem lowL_len (ns : List Int) : (lowL ns).length = ns.length := by
  unfold lowL
  split <;> simp
theorem natAbs_fdiv {x g : Int} (hg : 0 < g) (h : g ∣ x) : (x.fdiv g).natAbs ≤ x.natAbs := by
  have e := fdiv_mul hg h
  have := congrArg Int.natAbs e
  rw [Int.natAbs_mul] at this
  have hp : 0 < g.natAbs := Int.natAbs_pos.mpr (by omega)
  exact Nat.le_trans (Nat.le_mul_of_pos_right _ hp) (Nat.le_of_eq this)
theorem lowL_bound {B : Nat} {ns : List Int} (h : ∀ x ∈ ns, x.natAbs < B) : ∀ x ∈ lowL ns, x.natAbs < B := by
  unfold lowL
  by_cases hg : gcdL ns < 2
  · rw [if_pos hg]; exact h
  · rw [if_neg hg]
    intro x hx
    obtain ⟨y, hy, rfl⟩ := List.mem_map.mp hx
    exact Nat.lt_of_le_of_lt (natAbs_fdiv (by omega) (dvd_int hy)) (h y hy)
/-- the lowered of a row that is not all noughts has the common divisor 1 -/
theorem gcdL_low {ns : List Int} (h : gcdL ns ≠ 0) : gcdL (lowL ns) = 1 := by
  unfold lowL
  by_cases hg : gcdL ns < 2
  · rw [if_pos hg]; omega
  · rw [if_neg hg]
    have hp : (0 : Int) < (gcdL ns : Int) := by omega
    have e : ns = (ns.map fun x => x.fdiv (gcdL ns : Int)).map fun x => (gcdL ns : Int) * x := by
      rw [List.map_map]
      have : ∀ x ∈ ns, ((fun x => (gcdL ns : Int) * x) ∘ fun x => x.fdiv (gcdL ns : Int)) x = x := fun x hx => by
        show (gcdL ns : Int) * x.fdiv (gcdL ns : Int) = x
        rw [Int.mul_comm]
        exact fdiv_mul hp (dvd_int hx)
      rw [List.map_congr_left this]
      simp
    have q := congrArg gcdL e
    rw [gcdL_mul, Int.natAbs_natCast] at q
    have : gcdL ns * 1 = gcdL ns * gcdL (ns.map fun x => x.fdiv (gcdL ns : Int)) := by rw [Nat.mul_one]; exact q
    exact (Nat.eq_of_mul_eq_mul_left (by omega) this).symm
theorem lowL_low (ns : List Int) : lowL (lowL ns) = lowL ns := by
  by_cases h : gcdL ns = 0
  · have e : lowL ns = ns := by unfold lowL; rw [if_pos (by omega)]
    rw [e, e]
  · show (if gcdL (lowL ns) < 2 then lowL ns else _) = _
    rw [if_pos (by rw [gcdL_low h]; decide)]
/-- a row times c -/
theorem lowL_mul {c : Int} (hc : c ≠ 0) (ns : List Int) : lowL (ns.map fun x => c * x) = (lowL ns).map fun x => c.sign * x := by
  obtain hz | hz : gcdL ns = 0 ∨ gcdL ns ≠ 0 := by omega
  · have z := gcdL_zero ns hz
    have e1 : ns.map (fun x => c * x) = ns.map fun x => c.sign * x := List.map_congr_left fun x hx => by rw [z x hx]; simp
    have e2 : lowL ns = ns := by unfold lowL; rw [if_pos (by omega)]
    have e3 : gcdL (ns.map fun x => c * x) = 0 := by rw [gcdL_mul, hz]; simp
    rw [e2, ← e1]
    unfold lowL
    rw [if_pos (by omega)]
  · obtain ⟨g, hg, e⟩ := lowL_scale ns
    have g1 := gcdL_low hz
    have q := congrArg gcdL e
    rw [gcdL_mul, g1, Nat.mul_one] at q
    have hcp : 0 < c.natAbs := Int.natAbs_pos.mpr hc
    have big : gcdL (ns.map fun x => c * x) = c.natAbs * g.natAbs := by rw [gcdL_mul, q]
    have gp : 0 < g.natAbs := Int.natAbs_pos.mpr (by omega)
    have hcs : c = c.sign * (c.natAbs : Int) := by
      rcases Int.lt_trichotomy c 0 with h | h | h
      · rw [Int.sign_eq_neg_one_of_neg h]; omega
      · exact absurd h hc
      · rw [Int.sign_eq_one_of_pos h]; omega
    have key : ∀ x : Int, (c * (g * x)).fdiv ((c.natAbs * g.natAbs : Nat) : Int) = c.sign * x := fun x => by
      have hk : (0 : Int) < ((c.natAbs * g.natAbs : Nat) : Int) := Int.natCast_pos.mpr (Nat.mul_pos hcp gp)
      rw [Int.fdiv_eq_ediv_of_nonneg _ (Int.le_of_lt hk)]
      have e2 : c * (g * x) = (c.sign * x) * ((c.natAbs * g.natAbs : Nat) : Int) := by
        rw [Int.natCast_mul, Int.natAbs_of_nonneg (Int.le_of_lt hg)]
        conv => lhs; rw [hcs]
        simp only [Int.mul_assoc, Int.mul_comm, Int.mul_left_comm]
      rw [e2]
      exact Int.mul_ediv_cancel _ (by omega)
    unfold lowL
    by_cases h1 : gcdL (ns.map fun x => c * x) < 2
    · rw [if_pos h1]
      rw [big] at h1
      have hc1 : c.natAbs = 1 := by
        have : c.natAbs * 1 ≤ c.natAbs * g.natAbs := Nat.mul_le_mul_left _ gp
        omega
      have hg1 : g.natAbs = 1 := by
        rw [hc1, Nat.one_mul] at h1
        omega
      rw [if_pos (by rw [q, hg1]; decide)]
      have : c = c.sign := by rw [hc1] at hcs; simpa using hcs
      exact List.map_congr_left fun x _ => by rw [← this]
    · rw [if_neg h1, List.map_map, big]
      have e0 : (ns.map ((fun x => x.fdiv ((c.natAbs * g.natAbs : Nat) : Int)) ∘ fun x => c * x)) = ((lowL ns).map fun x => g * x).map ((fun x => x.fdiv ((c.natAbs * g.natAbs : Nat) : Int)) ∘ fun x => c * x) := congrArg (List.map _) e
      rw [e0, List.map_map]
      have e1 : ∀ x : Int, (((fun x => x.fdiv ((c.natAbs * g.natAbs : Nat) : Int)) ∘ fun x => c * x) ∘ fun x => g * x) x = c.sign * x := fun x => key x
      rw [List.map_congr_left (fun x _ => e1 x)]
      rfl
/-! ### plain: Euclid's steps -/
/-- n steps are enough from f, r -/
def EuN (n f r : Nat) : Prop := (∃ k, n = 2 * k ∧ r < 2 ^ k) ∨ ∃ k, n = 2 * k + 1 ∧ r < f ∧ f < 2 ^ (k + 1)
theorem eun_step {n f r : Nat} (h : EuN n f r) (hr : r ≠ 0) : ∃ m, n = m + 1 ∧ EuN m r (f % r) := by
  have hp : 0 < r := Nat.pos_of_ne_zero hr
  have hm := Nat.mod_lt f hp
  rcases h with ⟨k, e, hk⟩ | ⟨k, e, h1, h2⟩
  · cases k with
    | zero => simp at hk; exact absurd hk hr
    | succ k => exact ⟨2 * k + 1, by omega, .inr ⟨k, rfl, hm, hk⟩⟩
  · refine ⟨2 * k, by omega, .inl ⟨k, rfl, ?_⟩⟩
    have hd := Nat.div_add_mod f r
    have : 1 ≤ f / r := (Nat.one_le_div_iff hp).mpr (Nat.le_of_lt h1)
    have h3 : r * 1 ≤ r * (f / r) := Nat.mul_le_mul_left _ this
    have h4 : 2 ^ (k + 1) = 2 ^ k * 2 := Nat.pow_succ ..
    omega
end PX
namespace PX
open PySem L2
/-! ### 35. what all laws share: the drawing of numbers -/
def mkd (l s : Int) (cs : List Int) (p : Int) : List (Str × D) := [("left", .int l), ("seed", .int s), ("cells", .lst (cs.map .int)), ("spot", .int p)]
theorem mkd_left {l s p : Int} {cs : List Int} : getS (mkd l s cs p) "left" = some (.int l) := rfl
theorem mkd_seed {l s p : Int} {cs : List Int} : getS (mkd l s cs p) "seed" = some (.int s) := rfl
theorem mkd_cells {l s p : Int} {cs : List Int} : getS (mkd l s cs p) "cells" = some (.lst (cs.map .int)) := rfl
theorem mkd_spot {l s p : Int} {cs : List Int} : getS (mkd l s cs p) "spot" = some (.int p) := rfl
theorem mkd_putL {l s p x : Int} {cs : List Int} : putS (mkd l s cs p) "left" (.int x) = mkd x s cs p := rfl
theorem mkd_putS {l s p x : Int} {cs : List Int} : putS (mkd l s cs p) "spot" (.int x) = mkd l s cs x := rfl
section
variable {μ : Mu} {j : Nat} {kd : List (Str × D)} {k : Str} {d v : D}
theorem ev_ixM {K : D → Mu → Prop} (h : dkAt μ j = some kd) (g : getS kd k = some d) : Ew NoX (ixD (.ref j) (.str k) μ) K ↔ K d μ := by
  show Ew NoX (match dkAt μ j with
    | some kd => lft (getS kd k) μ
    | none => dicIx (.ref j) (.str k) μ) K ↔ _
  rw [h]
  show Ew NoX (lft (getS kd k) μ) K ↔ _
  rw [g]
  exact Iff.rfl
theorem dkAt_some (h : dkAt μ j = some kd) : μ[j]? = some (.dk kd) := by
  unfold dkAt at h
  cases z : μ[j]? with
  | none => rw [z] at h; cases h
  | some o =>
    rw [z] at h
    cases o <;> cases h
    rfl
theorem ev_putK {K : Unit → Mu → Prop} (h : dkAt μ j = some kd) (hv : v.pure = true) (hl : kd.length < 1000000) : Ew NoX (putD (.ref j) (.str k) v μ) K ↔ K () (μ.set j (.dk (putS kd k v))) := by
  show Ew NoX (match (μ[j]?).bind fun so => putO so (.str k) v with
    | some so => if v.pure = true then R.ok () (μ.set j so) else .no
    | none => .no) K ↔ _
  rw [dkAt_some h]
  show Ew NoX (match (if decide (kd.length < 1000000) = true then some (SO.dk (putS kd k v)) else none) with
    | some so => if v.pure = true then R.ok () (μ.set j so) else .no
    | none => .no) K ↔ _
  rw [if_pos (decide_eq_true hl)]
  show Ew NoX (if v.pure = true then R.ok () (μ.set j (.dk (putS kd k v))) else .no) K ↔ _
  rw [if_pos hv]
  exact Iff.rfl
theorem dkAt_set (h : j < μ.length) : dkAt (μ.set j (.dk kd)) j = some kd := by
  unfold dkAt
  rw [List.getElem?_set_self h]
theorem dkAt_lt (h : dkAt μ j = some kd) : j < μ.length := by
  unfold dkAt at h
  by_cases z : j < μ.length
  · exact z
  · rw [List.getElem?_eq_none (by omega)] at h
    cases h
end
/-- only the object at j is changed -/
def Sj (j : Nat) (μ μ' : Mu) : Prop := μ'.length = μ.length ∧ ∀ i, i ≠ j → μ'[i]? = μ[i]?
theorem Sj.refl (j : Nat) (μ : Mu) : Sj j μ μ := ⟨rfl, fun _ _ => rfl⟩
theorem Sj.trans {j : Nat} {μ μ1 μ2 : Mu} (a : Sj j μ μ1) (b : Sj j μ1 μ2) : Sj j μ μ2 := ⟨b.1.trans a.1, fun i h => (b.2 i h).trans (a.2 i h)⟩
theorem Sj.set (j : Nat) (μ : Mu) (o : SO) : Sj j μ (μ.set j o) := ⟨List.length_set .., fun i h => List.getElem?_set_ne (Ne.symm h)⟩
/-- a drawer at j, at most c numbers drawn -/
def MAt (j c : Nat) (μ : Mu) : Prop := ∃ (l s : Int) (cs : List Int) (p : Nat), dkAt μ j = some (mkd l s cs p) ∧ 0 ≤ s ∧ s < 2147483647 ∧ cs ≠ [] ∧ p ≤ c
theorem MAt.le {j c c' : Nat} {μ : Mu} (h : MAt j c μ) (hc : c ≤ c') : MAt j c' μ := let ⟨l, s, cs, p, a, b, d, e, f⟩ := h; ⟨l, s, cs, p, a, b, d, e, Nat.le_trans f hc⟩
theorem mul64 {i j : Int} (h : j.natAbs < 2 ^ 64) : mulOk i j = true := by unfold mulOk; simp [h]
theorem mul64l {i j : Int} (h : i.natAbs < 2 ^ 64) : mulOk i j = true := by unfold mulOk; simp [h]
theorem div64 {b : Int} (h : 0 < b) (h2 : b.natAbs < 2 ^ 64) : divOk b = true := by
  unfold divOk
  have : b.natAbs.log2 < 64 := (Nat.log2_lt (by omega)).mpr h2
  simp only [Bool.and_eq_true, decide_eq_true_eq]
  omega
def drawB : List D → M D := outD (sqM (ifM (tvM (op2 (op2 (gV 0) (kM (.str "left")) ixD) (kM (.int 0)) gtD)) (sqM (setM (op2 (appM intF [(op2 (gV 0) (kM (.str "left")) ixD)]) (gV 1) modD) 5) (sqM (putM (gV 0) (kM (.str "left")) (op2 (op2 (gV 0) (kM (.str "left")) ixD) (gV 1) fdivD)) (sqM (rtM (gV 5)) nxM))) nxM) (sqM (setM (op2 (gV 0) (kM (.str "spot")) ixD) 2) (sqM (putM (gV 0) (kM (.str "spot")) (op2 (gV 2) (kM (.int 1)) addD)) (sqM (asgM (appM mkT [(op2 (gV 0) (kM (.str "cells")) ixD), (op2 (op2 (gV 0) (kM (.str "seed")) ixD) (op2 (op2 (kM (.int 40503)) (gV 2) mulD) (gV 2) mulD) addD)]) (.t [6, 7])) (sqM (setM (op2 (gV 6) (op2 (appM intF [(gV 2)]) (appM lenF [(gV 6)]) modD) ixD) 3) (sqM (setM (op2 (appM intF [(op2 (op2 (gV 3) (op2 (op2 (kM (.int 2)) (gV 2) mulD) (kM (.int 3)) addD) mulD) (gV 7) addD)]) (kM (.int 2147483647)) modD) 4) (sqM (setM (op2 (appM intF [(op2 (op2 (op2 (gV 4) (gV 4) mulD) (op2 (kM (.int 69621)) (gV 2) mulD) addD) (op2 (gV 0) (kM (.str "seed")) ixD) addD)]) (kM (.int 2147483629)) modD) 4) (sqM (rtM (op2 (op2 (op2 (appM intF [(op2 (op2 (gV 4) (kM (.int 48271)) mulD) (gV 2) addD)]) (kM (.int 2147483647)) modD) (kM (.int 11)) fdivD) (gV 1) modD)) nxM)))))))) 8
theorem fmod_range {i b : Int} (h : 0 < b) : 0 ≤ i.fmod b ∧ i.fmod b < b := by
  rw [Int.fmod_eq_emod_of_nonneg _ (Int.le_of_lt h)]
  exact ⟨Int.emod_nonneg _ (by omega), Int.emod_lt_of_pos _ h⟩
theorem draw_ok {j c : Nat} {μ : Mu} {b : Int} (h : MAt j c μ) (hc : c < 2 ^ 60) (hb : 0 < b) (hb2 : b < 2 ^ 60) : Ew NoX (drawB [.ref j, .int b] μ) fun d μ' => ∃ r : Int, d = .int r ∧ 0 ≤ r ∧ r < b ∧ Sj j μ μ' ∧ MAt j (c + 1) μ' := by
  obtain ⟨l, s, cs, p, hm, hs0, hs1, hcs, hp⟩ := h
  have hj := dkAt_lt hm
  have b0 : b ≠ 0 := by omega
  have b64 : b.natAbs < 2 ^ 64 := by omega
  unfold drawB
  simp only [↓ev_out, ↓ev_sqM, ↓ev_foM, ↓ev_setM, ↓ev_asgM, ↓ev_putM, ↓ev_ifM, ↓ev_tvM, ↓ev_tnM, ↓ev_taM, ↓ev_toM, ↓ev_op2, ↓ev_gV, ↓ev_kM, ↓ev_rtM, ↓ev_exM, ↓ev_neM, ↓ev_notM, ↓ev_andM, ↓ev_orM, ↓ev_nxM, ↓ev_app, ↓ev_nil, ↓ev_cons, ↓ev_callF, ↓ev_callM, ↓ev_slM, ↓ev_ptM, ↓ev_asI, ↓ev_seM, ↓ev_itL, ↓ev_itT, ↓ev_mkT, ↓ev_mkL, ↓ev_lcM, ↓ev_dispM, ↓ev_lft, ↓thenK_nx, ↓thenK_rt, ↓thenK_bk, ↓thenK_ct, ↓tgK_s, ↓outK_rt, ↓outK_nx, ↓vK_s, ↓turnK_nx, ↓turnK_rt, ↓turnK_bk, ↓turnK_ct, ↓ev_asB, ↓ev_add, ↓ev_sub, ↓ev_mul, ↓ev_fdiv, ↓ev_mod, ↓ev_pow, ↓ev_neg, ↓ev_eqI, ↓ev_neI, ↓ev_lt, ↓ev_le, ↓ev_gt, ↓ev_ge, ↓ev_gcd, ↓ev_absI, ↓ev_maxI, ↓ev_minI, ↓ev_intI, ↓ev_intB, ↓ev_tupT, ↓ev_tupL, ↓ev_lstT, ↓ev_lstL, ↓ev_lenT, ↓ev_lenL, ↓ev_catL, ↓ev_catT, ↓ev_ixT, ↓ev_ixL, ↓ev_slT, ↓ev_slL, ↓ev_isN, ↓ev_isNotN, ↓ev_zipTT, ↓ev_enumT, ↓ev_enumL, ↓ev_eqS, ↓ev_endI, ↓ev_endB, ↓ev_endN, ↓ev_endS, ↓ev_endTI, ↓ev_endLI, ↓ev_endTF, ↓ev_endLF, ↓ev_raiM, ↓ev_haM, ↓ev_fqM, ↓ev_lcG, ↓ev_mkR, startD, pick, setTg, setAll, wipeD, List.map_cons, List.map_nil, List.length_cons, List.length_nil, List.cons_append, List.nil_append, List.getElem?_cons_zero, List.getElem?_cons_succ, List.set_cons_zero, List.set_cons_succ, List.replicate_succ, List.replicate_zero, List.filterMap_cons, List.filterMap_nil, Nat.reduceAdd, Nat.reduceSub, Nat.reduceLeDiff, and_self, if_true, decide_eq_true_eq, true_and, and_true, List.set_nil, List.length_set, take_set, take_app, take_self]
  refine (ev_ixM hm mkd_left).mpr ?_
  simp only [↓ev_out, ↓ev_sqM, ↓ev_foM, ↓ev_setM, ↓ev_asgM, ↓ev_putM, ↓ev_ifM, ↓ev_tvM, ↓ev_tnM, ↓ev_taM, ↓ev_toM, ↓ev_op2, ↓ev_gV, ↓ev_kM, ↓ev_rtM, ↓ev_exM, ↓ev_neM, ↓ev_notM, ↓ev_andM, ↓ev_orM, ↓ev_nxM, ↓ev_app, ↓ev_nil, ↓ev_cons, ↓ev_callF, ↓ev_callM, ↓ev_slM, ↓ev_ptM, ↓ev_asI, ↓ev_seM, ↓ev_itL, ↓ev_itT, ↓ev_mkT, ↓ev_mkL, ↓ev_lcM, ↓ev_dispM, ↓ev_lft, ↓thenK_nx, ↓thenK_rt, ↓thenK_bk, ↓thenK_ct, ↓tgK_s, ↓outK_rt, ↓outK_nx, ↓vK_s, ↓turnK_nx, ↓turnK_rt, ↓turnK_bk, ↓turnK_ct, ↓ev_asB, ↓ev_add, ↓ev_sub, ↓ev_mul, ↓ev_fdiv, ↓ev_mod, ↓ev_pow, ↓ev_neg, ↓ev_eqI, ↓ev_neI, ↓ev_lt, ↓ev_le, ↓ev_gt, ↓ev_ge, ↓ev_gcd, ↓ev_absI, ↓ev_maxI, ↓ev_minI, ↓ev_intI, ↓ev_intB, ↓ev_tupT, ↓ev_tupL, ↓ev_lstT, ↓ev_lstL, ↓ev_lenT, ↓ev_lenL, ↓ev_catL, ↓ev_catT, ↓ev_ixT, ↓ev_ixL, ↓ev_slT, ↓ev_slL, ↓ev_isN, ↓ev_isNotN, ↓ev_zipTT, ↓ev_enumT, ↓ev_enumL, ↓ev_eqS, ↓ev_endI, ↓ev_endB, ↓ev_endN, ↓ev_endS, ↓ev_endTI, ↓ev_endLI, ↓ev_endTF, ↓ev_endLF, ↓ev_raiM, ↓ev_haM, ↓ev_fqM, ↓ev_lcG, ↓ev_mkR, startD, pick, setTg, setAll, wipeD, List.map_cons, List.map_nil, List.length_cons, List.length_nil, List.cons_append, List.nil_append, List.getElem?_cons_zero, List.getElem?_cons_succ, List.set_cons_zero, List.set_cons_succ, List.replicate_succ, List.replicate_zero, List.filterMap_cons, List.filterMap_nil, Nat.reduceAdd, Nat.reduceSub, Nat.reduceLeDiff, and_self, if_true, decide_eq_true_eq, true_and, and_true, List.set_nil, List.length_set, take_set, take_app, take_self]
  by_cases hl : 0 < l
  · rw [if_pos hl]
    refine (ev_ixM hm mkd_left).mpr ?_
    simp only [↓ev_out, ↓ev_sqM, ↓ev_foM, ↓ev_setM, ↓ev_asgM, ↓ev_putM, ↓ev_ifM, ↓ev_tvM, ↓ev_tnM, ↓ev_taM, ↓ev_toM, ↓ev_op2, ↓ev_gV, ↓ev_kM, ↓ev_rtM, ↓ev_exM, ↓ev_neM, ↓ev_notM, ↓ev_andM, ↓ev_orM, ↓ev_nxM, ↓ev_app, ↓ev_nil, ↓ev_cons, ↓ev_callF, ↓ev_callM, ↓ev_slM, ↓ev_ptM, ↓ev_asI, ↓ev_seM, ↓ev_itL, ↓ev_itT, ↓ev_mkT, ↓ev_mkL, ↓ev_lcM, ↓ev_dispM, ↓ev_lft, ↓thenK_nx, ↓thenK_rt, ↓thenK_bk, ↓thenK_ct, ↓tgK_s, ↓outK_rt, ↓outK_nx, ↓vK_s, ↓turnK_nx, ↓turnK_rt, ↓turnK_bk, ↓turnK_ct, ↓ev_asB, ↓ev_add, ↓ev_sub, ↓ev_mul, ↓ev_fdiv, ↓ev_mod, ↓ev_pow, ↓ev_neg, ↓ev_eqI, ↓ev_neI, ↓ev_lt, ↓ev_le, ↓ev_gt, ↓ev_ge, ↓ev_gcd, ↓ev_absI, ↓ev_maxI, ↓ev_minI, ↓ev_intI, ↓ev_intB, ↓ev_tupT, ↓ev_tupL, ↓ev_lstT, ↓ev_lstL, ↓ev_lenT, ↓ev_lenL, ↓ev_catL, ↓ev_catT, ↓ev_ixT, ↓ev_ixL, ↓ev_slT, ↓ev_slL, ↓ev_isN, ↓ev_isNotN, ↓ev_zipTT, ↓ev_enumT, ↓ev_enumL, ↓ev_eqS, ↓ev_endI, ↓ev_endB, ↓ev_endN, ↓ev_endS, ↓ev_endTI, ↓ev_endLI, ↓ev_endTF, ↓ev_endLF, ↓ev_raiM, ↓ev_haM, ↓ev_fqM, ↓ev_lcG, ↓ev_mkR, startD, pick, setTg, setAll, wipeD, List.map_cons, List.map_nil, List.length_cons, List.length_nil, List.cons_append, List.nil_append, List.getElem?_cons_zero, List.getElem?_cons_succ, List.set_cons_zero, List.set_cons_succ, List.replicate_succ, List.replicate_zero, List.filterMap_cons, List.filterMap_nil, Nat.reduceAdd, Nat.reduceSub, Nat.reduceLeDiff, and_self, if_true, decide_eq_true_eq, true_and, and_true, List.set_nil, List.length_set, take_set, take_app, take_self]
    refine ⟨b0, (ev_ixM hm mkd_left).mpr ?_⟩
    simp only [↓ev_out, ↓ev_sqM, ↓ev_foM, ↓ev_setM, ↓ev_asgM, ↓ev_putM, ↓ev_ifM, ↓ev_tvM, ↓ev_tnM, ↓ev_taM, ↓ev_toM, ↓ev_op2, ↓ev_gV, ↓ev_kM, ↓ev_rtM, ↓ev_exM, ↓ev_neM, ↓ev_notM, ↓ev_andM, ↓ev_orM, ↓ev_nxM, ↓ev_app, ↓ev_nil, ↓ev_cons, ↓ev_callF, ↓ev_callM, ↓ev_slM, ↓ev_ptM, ↓ev_asI, ↓ev_seM, ↓ev_itL, ↓ev_itT, ↓ev_mkT, ↓ev_mkL, ↓ev_lcM, ↓ev_dispM, ↓ev_lft, ↓thenK_nx, ↓thenK_rt, ↓thenK_bk, ↓thenK_ct, ↓tgK_s, ↓outK_rt, ↓outK_nx, ↓vK_s, ↓turnK_nx, ↓turnK_rt, ↓turnK_bk, ↓turnK_ct, ↓ev_asB, ↓ev_add, ↓ev_sub, ↓ev_mul, ↓ev_fdiv, ↓ev_mod, ↓ev_pow, ↓ev_neg, ↓ev_eqI, ↓ev_neI, ↓ev_lt, ↓ev_le, ↓ev_gt, ↓ev_ge, ↓ev_gcd, ↓ev_absI, ↓ev_maxI, ↓ev_minI, ↓ev_intI, ↓ev_intB, ↓ev_tupT, ↓ev_tupL, ↓ev_lstT, ↓ev_lstL, ↓ev_lenT, ↓ev_lenL, ↓ev_catL, ↓ev_catT, ↓ev_ixT, ↓ev_ixL, ↓ev_slT, ↓ev_slL, ↓ev_isN, ↓ev_isNotN, ↓ev_zipTT, ↓ev_enumT, ↓ev_enumL, ↓ev_eqS, ↓ev_endI, ↓ev_endB, ↓ev_endN, ↓ev_endS, ↓ev_endTI, ↓ev_endLI, ↓ev_endTF, ↓ev_endLF, ↓ev_raiM, ↓ev_haM, ↓ev_fqM, ↓ev_lcG, ↓ev_mkR, startD, pick, setTg, setAll, wipeD, List.map_cons, List.map_nil, List.length_cons, List.length_nil, List.cons_append, List.nil_append, List.getElem?_cons_zero, List.getElem?_cons_succ, List.set_cons_zero, List.set_cons_succ, List.replicate_succ, List.replicate_zero, List.filterMap_cons, List.filterMap_nil, Nat.reduceAdd, Nat.reduceSub, Nat.reduceLeDiff, and_self, if_true, decide_eq_true_eq, true_and, and_true, List.set_nil, List.length_set, take_set, take_app, take_self]
    refine ⟨div64 hb b64, (ev_putK hm rfl (show 4 < 1000000 by decide)).mpr ?_⟩
    rw [take_set]
    have r := fmod_range (i := l) hb
    refine ⟨l.fmod b, rfl, r.1, r.2, Sj.set j μ _, l.fdiv b, s, cs, p, ?_, hs0, hs1, hcs, Nat.le_succ_of_le hp⟩
    rw [dkAt_set hj, mkd_putL]
  · rw [if_neg hl]
    refine (ev_ixM hm mkd_spot).mpr ?_
    simp only [↓ev_out, ↓ev_sqM, ↓ev_foM, ↓ev_setM, ↓ev_asgM, ↓ev_putM, ↓ev_ifM, ↓ev_tvM, ↓ev_tnM, ↓ev_taM, ↓ev_toM, ↓ev_op2, ↓ev_gV, ↓ev_kM, ↓ev_rtM, ↓ev_exM, ↓ev_neM, ↓ev_notM, ↓ev_andM, ↓ev_orM, ↓ev_nxM, ↓ev_app, ↓ev_nil, ↓ev_cons, ↓ev_callF, ↓ev_callM, ↓ev_slM, ↓ev_ptM, ↓ev_asI, ↓ev_seM, ↓ev_itL, ↓ev_itT, ↓ev_mkT, ↓ev_mkL, ↓ev_lcM, ↓ev_dispM, ↓ev_lft, ↓thenK_nx, ↓thenK_rt, ↓thenK_bk, ↓thenK_ct, ↓tgK_s, ↓outK_rt, ↓outK_nx, ↓vK_s, ↓turnK_nx, ↓turnK_rt, ↓turnK_bk, ↓turnK_ct, ↓ev_asB, ↓ev_add, ↓ev_sub, ↓ev_mul, ↓ev_fdiv, ↓ev_mod, ↓ev_pow, ↓ev_neg, ↓ev_eqI, ↓ev_neI, ↓ev_lt, ↓ev_le, ↓ev_gt, ↓ev_ge, ↓ev_gcd, ↓ev_absI, ↓ev_maxI, ↓ev_minI, ↓ev_intI, ↓ev_intB, ↓ev_tupT, ↓ev_tupL, ↓ev_lstT, ↓ev_lstL, ↓ev_lenT, ↓ev_lenL, ↓ev_catL, ↓ev_catT, ↓ev_ixT, ↓ev_ixL, ↓ev_slT, ↓ev_slL, ↓ev_isN, ↓ev_isNotN, ↓ev_zipTT, ↓ev_enumT, ↓ev_enumL, ↓ev_eqS, ↓ev_endI, ↓ev_endB, ↓ev_endN, ↓ev_endS, ↓ev_endTI, ↓ev_endLI, ↓ev_endTF, ↓ev_endLF, ↓ev_raiM, ↓ev_haM, ↓ev_fqM, ↓ev_lcG, ↓ev_mkR, startD, pick, setTg, setAll, wipeD, List.map_cons, List.map_nil, List.length_cons, List.length_nil, List.cons_append, List.nil_append, List.getElem?_cons_zero, List.getElem?_cons_succ, List.set_cons_zero, List.set_cons_succ, List.replicate_succ, List.replicate_zero, List.filterMap_cons, List.filterMap_nil, Nat.reduceAdd, Nat.reduceSub, Nat.reduceLeDiff, and_self, if_true, decide_eq_true_eq, true_and, and_true, List.set_nil, List.length_set, take_set, take_app, take_self]
    refine (ev_putK hm rfl (show 4 < 1000000 by decide)).mpr ?_
    rw [mkd_putS]
    generalize hμ1 : μ.set j (.dk (mkd l s cs ((p : Int) + 1))) = μ1
    have hm1 : dkAt μ1 j = some (mkd l s cs ((p : Int) + 1)) := by rw [← hμ1]; exact dkAt_set hj
    refine (ev_ixM hm1 mkd_cells).mpr ?_
    refine (ev_ixM hm1 mkd_seed).mpr ?_
    have p64 : (p : Int).natAbs < 2 ^ 64 := by omega
    have hn : cs.length ≠ 0 := fun z => hcs (List.eq_nil_of_length_eq_zero z)
    refine ⟨mul64 p64, mul64 p64, ?_⟩
    simp only [↓ev_out, ↓ev_sqM, ↓ev_foM, ↓ev_setM, ↓ev_asgM, ↓ev_putM, ↓ev_ifM, ↓ev_tvM, ↓ev_tnM, ↓ev_taM, ↓ev_toM, ↓ev_op2, ↓ev_gV, ↓ev_kM, ↓ev_rtM, ↓ev_exM, ↓ev_neM, ↓ev_notM, ↓ev_andM, ↓ev_orM, ↓ev_nxM, ↓ev_app, ↓ev_nil, ↓ev_cons, ↓ev_callF, ↓ev_callM, ↓ev_slM, ↓ev_ptM, ↓ev_asI, ↓ev_seM, ↓ev_itL, ↓ev_itT, ↓ev_mkT, ↓ev_mkL, ↓ev_lcM, ↓ev_dispM, ↓ev_lft, ↓thenK_nx, ↓thenK_rt, ↓thenK_bk, ↓thenK_ct, ↓tgK_s, ↓outK_rt, ↓outK_nx, ↓vK_s, ↓turnK_nx, ↓turnK_rt, ↓turnK_bk, ↓turnK_ct, ↓ev_asB, ↓ev_add, ↓ev_sub, ↓ev_mul, ↓ev_fdiv, ↓ev_mod, ↓ev_pow, ↓ev_neg, ↓ev_eqI, ↓ev_neI, ↓ev_lt, ↓ev_le, ↓ev_gt, ↓ev_ge, ↓ev_gcd, ↓ev_absI, ↓ev_maxI, ↓ev_minI, ↓ev_intI, ↓ev_intB, ↓ev_tupT, ↓ev_tupL, ↓ev_lstT, ↓ev_lstL, ↓ev_lenT, ↓ev_lenL, ↓ev_catL, ↓ev_catT, ↓ev_ixT, ↓ev_ixL, ↓ev_slT, ↓ev_slL, ↓ev_isN, ↓ev_isNotN, ↓ev_zipTT, ↓ev_enumT, ↓ev_enumL, ↓ev_eqS, ↓ev_endI, ↓ev_endB, ↓ev_endN, ↓ev_endS, ↓ev_endTI, ↓ev_endLI, ↓ev_endTF, ↓ev_endLF, ↓ev_raiM, ↓ev_haM, ↓ev_fqM, ↓ev_lcG, ↓ev_mkR, startD, pick, setTg, setAll, wipeD, List.map_cons, List.map_nil, List.length_cons, List.length_nil, List.cons_append, List.nil_append, List.getElem?_cons_zero, List.getElem?_cons_succ, List.set_cons_zero, List.set_cons_succ, List.replicate_succ, List.replicate_zero, List.filterMap_cons, List.filterMap_nil, Nat.reduceAdd, Nat.reduceSub, Nat.reduceLeDiff, and_self, if_true, decide_eq_true_eq, true_and, and_true, List.set_nil, List.length_set, take_set, take_app, take_self, List.length_map]
    refine ⟨by omega, ?_⟩
    have r1 := fmod_range (i := (p : Int)) (b := (cs.length : Int)) (by omega)
    have hk : ((p : Int).fmod (cs.length : Int)).toNat < cs.length := by omega
    have ek : (p : Int).fmod (cs.length : Int) = ((((p : Int).fmod (cs.length : Int)).toNat : Nat) : Int) := by omega
    rw [ek, at_nat (x := D.int cs[((p : Int).fmod (cs.length : Int)).toNat]) (by rw [List.getElem?_map, List.getElem?_eq_getElem hk]; rfl)]
    simp only [↓ev_out, ↓ev_sqM, ↓ev_foM, ↓ev_setM, ↓ev_asgM, ↓ev_putM, ↓ev_ifM, ↓ev_tvM, ↓ev_tnM, ↓ev_taM, ↓ev_toM, ↓ev_op2, ↓ev_gV, ↓ev_kM, ↓ev_rtM, ↓ev_exM, ↓ev_neM, ↓ev_notM, ↓ev_andM, ↓ev_orM, ↓ev_nxM, ↓ev_app, ↓ev_nil, ↓ev_cons, ↓ev_callF, ↓ev_callM, ↓ev_slM, ↓ev_ptM, ↓ev_asI, ↓ev_seM, ↓ev_itL, ↓ev_itT, ↓ev_mkT, ↓ev_mkL, ↓ev_lcM, ↓ev_dispM, ↓ev_lft, ↓thenK_nx, ↓thenK_rt, ↓thenK_bk, ↓thenK_ct, ↓tgK_s, ↓outK_rt, ↓outK_nx, ↓vK_s, ↓turnK_nx, ↓turnK_rt, ↓turnK_bk, ↓turnK_ct, ↓ev_asB, ↓ev_add, ↓ev_sub, ↓ev_mul, ↓ev_fdiv, ↓ev_mod, ↓ev_pow, ↓ev_neg, ↓ev_eqI, ↓ev_neI, ↓ev_lt, ↓ev_le, ↓ev_gt, ↓ev_ge, ↓ev_gcd, ↓ev_absI, ↓ev_maxI, ↓ev_minI, ↓ev_intI, ↓ev_intB, ↓ev_tupT, ↓ev_tupL, ↓ev_lstT, ↓ev_lstL, ↓ev_lenT, ↓ev_lenL, ↓ev_catL, ↓ev_catT, ↓ev_ixT, ↓ev_ixL, ↓ev_slT, ↓ev_slL, ↓ev_isN, ↓ev_isNotN, ↓ev_zipTT, ↓ev_enumT, ↓ev_enumL, ↓ev_eqS, ↓ev_endI, ↓ev_endB, ↓ev_endN, ↓ev_endS, ↓ev_endTI, ↓ev_endLI, ↓ev_endTF, ↓ev_endLF, ↓ev_raiM, ↓ev_haM, ↓ev_fqM, ↓ev_lcG, ↓ev_mkR, startD, pick, setTg, setAll, wipeD, List.map_cons, List.map_nil, List.length_cons, List.length_nil, List.cons_append, List.nil_append, List.getElem?_cons_zero, List.getElem?_cons_succ, List.set_cons_zero, List.set_cons_succ, List.replicate_succ, List.replicate_zero, List.filterMap_cons, List.filterMap_nil, Nat.reduceAdd, Nat.reduceSub, Nat.reduceLeDiff, and_self, if_true, decide_eq_true_eq, true_and, and_true, List.set_nil, List.length_set, take_set, take_app, take_self]
    generalize cs[((p : Int).fmod (cs.length : Int)).toNat] = cell
    refine ⟨mul64 p64, mul64 (by omega), by decide, ?_⟩
    generalize hx : (cell * (2 * (p : Int) + 3) + (s + 40503 * (p : Int) * (p : Int))) = x1
    have r2 := fmod_range (i := x1) (b := 2147483647) (by decide)
    refine ⟨mul64 (by omega), mul64 p64, (ev_ixM hm1 mkd_seed).mpr ?_⟩
    simp only [↓ev_out, ↓ev_sqM, ↓ev_foM, ↓ev_setM, ↓ev_asgM, ↓ev_putM, ↓ev_ifM, ↓ev_tvM, ↓ev_tnM, ↓ev_taM, ↓ev_toM, ↓ev_op2, ↓ev_gV, ↓ev_kM, ↓ev_rtM, ↓ev_exM, ↓ev_neM, ↓ev_notM, ↓ev_andM, ↓ev_orM, ↓ev_nxM, ↓ev_app, ↓ev_nil, ↓ev_cons, ↓ev_callF, ↓ev_callM, ↓ev_slM, ↓ev_ptM, ↓ev_asI, ↓ev_seM, ↓ev_itL, ↓ev_itT, ↓ev_mkT, ↓ev_mkL, ↓ev_lcM, ↓ev_dispM, ↓ev_lft, ↓thenK_nx, ↓thenK_rt, ↓thenK_bk, ↓thenK_ct, ↓tgK_s, ↓outK_rt, ↓outK_nx, ↓vK_s, ↓turnK_nx, ↓turnK_rt, ↓turnK_bk, ↓turnK_ct, ↓ev_asB, ↓ev_add, ↓ev_sub, ↓ev_mul, ↓ev_fdiv, ↓ev_mod, ↓ev_pow, ↓ev_neg, ↓ev_eqI, ↓ev_neI, ↓ev_lt, ↓ev_le, ↓ev_gt, ↓ev_ge, ↓ev_gcd, ↓ev_absI, ↓ev_maxI, ↓ev_minI, ↓ev_intI, ↓ev_intB, ↓ev_tupT, ↓ev_tupL, ↓ev_lstT, ↓ev_lstL, ↓ev_lenT, ↓ev_lenL, ↓ev_catL, ↓ev_catT, ↓ev_ixT, ↓ev_ixL, ↓ev_slT, ↓ev_slL, ↓ev_isN, ↓ev_isNotN, ↓ev_zipTT, ↓ev_enumT, ↓ev_enumL, ↓ev_eqS, ↓ev_endI, ↓ev_endB, ↓ev_endN, ↓ev_endS, ↓ev_endTI, ↓ev_endLI, ↓ev_endTF, ↓ev_endLF, ↓ev_raiM, ↓ev_haM, ↓ev_fqM, ↓ev_lcG, ↓ev_mkR, startD, pick, setTg, setAll, wipeD, List.map_cons, List.map_nil, List.length_cons, List.length_nil, List.cons_append, List.nil_append, List.getElem?_cons_zero, List.getElem?_cons_succ, List.set_cons_zero, List.set_cons_succ, List.replicate_succ, List.replicate_zero, List.filterMap_cons, List.filterMap_nil, Nat.reduceAdd, Nat.reduceSub, Nat.reduceLeDiff, and_self, if_true, decide_eq_true_eq, true_and, and_true, List.set_nil, List.length_set, take_set, take_app, take_self]
    refine ⟨by decide, ?_⟩
    generalize hy : (x1.fmod 2147483647 * x1.fmod 2147483647 + 69621 * (p : Int) + s) = y1
    have r3 := fmod_range (i := y1) (b := 2147483629) (by decide)
    refine ⟨mul64 (by omega), by decide, by decide, b0, ?_⟩
    have tk : μ1.take μ.length = μ1 := by rw [← hμ1]; exact take_set
    rw [tk]
    refine ⟨_, rfl, (fmod_range hb).1, (fmod_range hb).2, by rw [← hμ1]; exact Sj.set j μ _, l, s, cs, p + 1, by rw [hm1]; rfl, hs0, hs1, hcs, by omega⟩
def begunB : List D → M D := outD (sqM (setM (op2 (slM (gV 0) (ptM (gV 1)) (kM none)) (slM (gV 0) (kM none) (ptM (gV 1))) addD) 2) (sqM (setM (lcM (seM (gV 2)) (.v 5) (tvM (op2 (gV 5) (op2 (kM (.int 10)) (kM (.int 18)) powD) geD)) (gV 5) [5]) 3) (sqM (setM (op2 (kM (.int 86)) (gV 1) addD) 4) (sqM (foM (seM (gV 2)) (.v 5) (sqM (setM (op2 (appM intF [(op2 (op2 (gV 4) (kM (.int 48271)) mulD) (gV 5) addD)]) (kM (.int 2147483647)) modD) 4) nxM)) (sqM (rtM (dispM [("left", (ifM (tvM (op2 (gV 3) (appM mkL []) neD)) (op2 (gV 3) (kM (.int 0)) ixD) (kM (.int 0)))), ("seed", (gV 4)), ("cells", (op2 (gV 2) (appM mkL [(op2 (op2 (kM (.int 53)) (gV 1) mulD) (kM (.int 11)) addD)]) addD)), ("spot", (kM (.int 0)))])) nxM))))) 6
theorem cut_ints (ns : List Int) (lo hi : Option Int) : ∃ ms : List Int, cutD (ns.map .int) lo hi = ms.map .int ∧ ms.length ≤ ns.length := by
  unfold cutD
  refine ⟨(ns.drop (HT.sIx (ns.map D.int).length 0 lo)).take (HT.sIx (ns.map D.int).length (ns.map D.int).length hi - HT.sIx (ns.map D.int).length 0 lo), by rw [List.map_take, List.map_drop], ?_⟩
  rw [List.length_take, List.length_drop]
  omega
def bigD : D → Bool
  | .int n => decide ((10 : Int) ^ 18 ≤ n)
  | _ => false
theorem begun_ok {ns : List Int} {i : Int} {μ : Mu} (hl : ns.length ≤ 1000) (h0 : 0 ≤ i) (h1 : i ≤ 1000) : Ew NoX (begunB [.lst (ns.map .int), .int i] μ) fun d μ' => d = .ref μ.length ∧ (∃ so, μ' = μ ++ [so]) ∧ MAt μ.length 0 μ' := by
  obtain ⟨as, ea, la⟩ := cut_ints ns (some i) none
  obtain ⟨bs, eb, lb⟩ := cut_ints ns none (some i)
  unfold begunB
  simp only [↓ev_out, ↓ev_sqM, ↓ev_foM, ↓ev_setM, ↓ev_asgM, ↓ev_putM, ↓ev_ifM, ↓ev_tvM, ↓ev_tnM, ↓ev_taM, ↓ev_toM, ↓ev_op2, ↓ev_gV, ↓ev_kM, ↓ev_rtM, ↓ev_exM, ↓ev_neM, ↓ev_notM, ↓ev_andM, ↓ev_orM, ↓ev_nxM, ↓ev_app, ↓ev_nil, ↓ev_cons, ↓ev_callF, ↓ev_callM, ↓ev_slM, ↓ev_ptM, ↓ev_asI, ↓ev_seM, ↓ev_itL, ↓ev_itT, ↓ev_mkT, ↓ev_mkL, ↓ev_lcM, ↓ev_dispM, ↓ev_lft, ↓thenK_nx, ↓thenK_rt, ↓thenK_bk, ↓thenK_ct, ↓tgK_s, ↓outK_rt, ↓outK_nx, ↓vK_s, ↓turnK_nx, ↓turnK_rt, ↓turnK_bk, ↓turnK_ct, ↓ev_asB, ↓ev_add, ↓ev_sub, ↓ev_mul, ↓ev_fdiv, ↓ev_mod, ↓ev_pow, ↓ev_neg, ↓ev_eqI, ↓ev_neI, ↓ev_lt, ↓ev_le, ↓ev_gt, ↓ev_ge, ↓ev_gcd, ↓ev_absI, ↓ev_maxI, ↓ev_minI, ↓ev_intI, ↓ev_intB, ↓ev_tupT, ↓ev_tupL, ↓ev_lstT, ↓ev_lstL, ↓ev_lenT, ↓ev_lenL, ↓ev_catL, ↓ev_catT, ↓ev_ixT, ↓ev_ixL, ↓ev_slT, ↓ev_slL, ↓ev_isN, ↓ev_isNotN, ↓ev_zipTT, ↓ev_enumT, ↓ev_enumL, ↓ev_eqS, ↓ev_endI, ↓ev_endB, ↓ev_endN, ↓ev_endS, ↓ev_endTI, ↓ev_endLI, ↓ev_endTF, ↓ev_endLF, ↓ev_raiM, ↓ev_haM, ↓ev_fqM, ↓ev_lcG, ↓ev_mkR, startD, pick, setTg, setAll, wipeD, List.map_cons, List.map_nil, List.length_cons, List.length_nil, List.cons_append, List.nil_append, List.getElem?_cons_zero, List.getElem?_cons_succ, List.set_cons_zero, List.set_cons_succ, List.replicate_succ, List.replicate_zero, List.filterMap_cons, List.filterMap_nil, Nat.reduceAdd, Nat.reduceSub, Nat.reduceLeDiff, and_self, if_true, decide_eq_true_eq, true_and, and_true, List.set_nil, List.length_set, take_set, take_app, take_self]
  rw [ea, eb]
  refine ⟨by rw [List.length_map, List.length_map]; omega, ?_⟩
  rw [← List.map_append]
  generalize hcs : as ++ bs = cs
  have hcl : cs.length ≤ 2000 := by rw [← hcs, List.length_append]; omega
  have lc : ∀ ρ : Rho, ρ = [some (.lst (ns.map .int)), some (.int i), some (.lst (cs.map .int)), none, none, none] →
      lcD (.v 5) (tvM (op2 (gV 5) (op2 (kM (.int 10)) (kM (.int 18)) powD) geD)) (gV 5) (cs.map .int) ρ μ = .ok (((cs.map D.int).filter bigD).map id) μ := fun ρ e => by
    subst e
    refine lc_filter bigD id _ fun d hd => ?_
    obtain ⟨n, hn, rfl⟩ := List.mem_map.mp hd
    refine ⟨_, rfl, ?_, fun _ => ?_⟩
    · simp only [↓ev_out, ↓ev_sqM, ↓ev_foM, ↓ev_setM, ↓ev_asgM, ↓ev_putM, ↓ev_ifM, ↓ev_tvM, ↓ev_tnM, ↓ev_taM, ↓ev_toM, ↓ev_op2, ↓ev_gV, ↓ev_kM, ↓ev_rtM, ↓ev_exM, ↓ev_neM, ↓ev_notM, ↓ev_andM, ↓ev_orM, ↓ev_nxM, ↓ev_app, ↓ev_nil, ↓ev_cons, ↓ev_callF, ↓ev_callM, ↓ev_slM, ↓ev_ptM, ↓ev_asI, ↓ev_seM, ↓ev_itL, ↓ev_itT, ↓ev_mkT, ↓ev_mkL, ↓ev_lcM, ↓ev_dispM, ↓ev_lft, ↓thenK_nx, ↓thenK_rt, ↓thenK_bk, ↓thenK_ct, ↓tgK_s, ↓outK_rt, ↓outK_nx, ↓vK_s, ↓turnK_nx, ↓turnK_rt, ↓turnK_bk, ↓turnK_ct, ↓ev_asB, ↓ev_add, ↓ev_sub, ↓ev_mul, ↓ev_fdiv, ↓ev_mod, ↓ev_pow, ↓ev_neg, ↓ev_eqI, ↓ev_neI, ↓ev_lt, ↓ev_le, ↓ev_gt, ↓ev_ge, ↓ev_gcd, ↓ev_absI, ↓ev_maxI, ↓ev_minI, ↓ev_intI, ↓ev_intB, ↓ev_tupT, ↓ev_tupL, ↓ev_lstT, ↓ev_lstL, ↓ev_lenT, ↓ev_lenL, ↓ev_catL, ↓ev_catT, ↓ev_ixT, ↓ev_ixL, ↓ev_slT, ↓ev_slL, ↓ev_isN, ↓ev_isNotN, ↓ev_zipTT, ↓ev_enumT, ↓ev_enumL, ↓ev_eqS, ↓ev_endI, ↓ev_endB, ↓ev_endN, ↓ev_endS, ↓ev_endTI, ↓ev_endLI, ↓ev_endTF, ↓ev_endLF, ↓ev_raiM, ↓ev_haM, ↓ev_fqM, ↓ev_lcG, ↓ev_mkR, startD, pick, setTg, setAll, wipeD, List.map_cons, List.map_nil, List.length_cons, List.length_nil, List.cons_append, List.nil_append, List.getElem?_cons_zero, List.getElem?_cons_succ, List.set_cons_zero, List.set_cons_succ, List.replicate_succ, List.replicate_zero, List.filterMap_cons, List.filterMap_nil, Nat.reduceAdd, Nat.reduceSub, Nat.reduceLeDiff, and_self, if_true, decide_eq_true_eq, true_and, and_true, List.set_nil, List.length_set, take_set, take_app, take_self]
      exact ⟨by decide, rfl⟩
    · simp only [↓ev_out, ↓ev_sqM, ↓ev_foM, ↓ev_setM, ↓ev_asgM, ↓ev_putM, ↓ev_ifM, ↓ev_tvM, ↓ev_tnM, ↓ev_taM, ↓ev_toM, ↓ev_op2, ↓ev_gV, ↓ev_kM, ↓ev_rtM, ↓ev_exM, ↓ev_neM, ↓ev_notM, ↓ev_andM, ↓ev_orM, ↓ev_nxM, ↓ev_app, ↓ev_nil, ↓ev_cons, ↓ev_callF, ↓ev_callM, ↓ev_slM, ↓ev_ptM, ↓ev_asI, ↓ev_seM, ↓ev_itL, ↓ev_itT, ↓ev_mkT, ↓ev_mkL, ↓ev_lcM, ↓ev_dispM, ↓ev_lft, ↓thenK_nx, ↓thenK_rt, ↓thenK_bk, ↓thenK_ct, ↓tgK_s, ↓outK_rt, ↓outK_nx, ↓vK_s, ↓turnK_nx, ↓turnK_rt, ↓turnK_bk, ↓turnK_ct, ↓ev_asB, ↓ev_add, ↓ev_sub, ↓ev_mul, ↓ev_fdiv, ↓ev_mod, ↓ev_pow, ↓ev_neg, ↓ev_eqI, ↓ev_neI, ↓ev_lt, ↓ev_le, ↓ev_gt, ↓ev_ge, ↓ev_gcd, ↓ev_absI, ↓ev_maxI, ↓ev_minI, ↓ev_intI, ↓ev_intB, ↓ev_tupT, ↓ev_tupL, ↓ev_lstT, ↓ev_lstL, ↓ev_lenT, ↓ev_lenL, ↓ev_catL, ↓ev_catT, ↓ev_ixT, ↓ev_ixL, ↓ev_slT, ↓ev_slL, ↓ev_isN, ↓ev_isNotN, ↓ev_zipTT, ↓ev_enumT, ↓ev_enumL, ↓ev_eqS, ↓ev_endI, ↓ev_endB, ↓ev_endN, ↓ev_endS, ↓ev_endTI, ↓ev_endLI, ↓ev_endTF, ↓ev_endLF, ↓ev_raiM, ↓ev_haM, ↓ev_fqM, ↓ev_lcG, ↓ev_mkR, startD, pick, setTg, setAll, wipeD, List.map_cons, List.map_nil, List.length_cons, List.length_nil, List.cons_append, List.nil_append, List.getElem?_cons_zero, List.getElem?_cons_succ, List.set_cons_zero, List.set_cons_succ, List.replicate_succ, List.replicate_zero, List.filterMap_cons, List.filterMap_nil, Nat.reduceAdd, Nat.reduceSub, Nat.reduceLeDiff, and_self, if_true, decide_eq_true_eq, true_and, and_true, List.set_nil, List.length_set, take_set, take_app, take_self]
      rfl
  refine (ev_of (lc _ rfl)).mpr ?_
  rw [List.map_id]
  generalize hg : (cs.map D.int).filter bigD = gs
  have hgi : ∃ gi : List Int, gs = gi.map .int := by
    rw [← hg, List.filter_map]
    exact ⟨_, rfl⟩
  obtain ⟨gi, rfl⟩ := hgi
  have lg : (gi.map D.int).length ≤ 2000 := by
    rw [← hg]
    exact Nat.le_trans (List.length_filter_le _ _) (by rw [List.length_map]; exact hcl)
  simp only [↓ev_out, ↓ev_sqM, ↓ev_foM, ↓ev_setM, ↓ev_asgM, ↓ev_putM, ↓ev_ifM, ↓ev_tvM, ↓ev_tnM, ↓ev_taM, ↓ev_toM, ↓ev_op2, ↓ev_gV, ↓ev_kM, ↓ev_rtM, ↓ev_exM, ↓ev_neM, ↓ev_notM, ↓ev_andM, ↓ev_orM, ↓ev_nxM, ↓ev_app, ↓ev_nil, ↓ev_cons, ↓ev_callF, ↓ev_callM, ↓ev_slM, ↓ev_ptM, ↓ev_asI, ↓ev_seM, ↓ev_itL, ↓ev_itT, ↓ev_mkT, ↓ev_mkL, ↓ev_lcM, ↓ev_dispM, ↓ev_lft, ↓thenK_nx, ↓thenK_rt, ↓thenK_bk, ↓thenK_ct, ↓tgK_s, ↓outK_rt, ↓outK_nx, ↓vK_s, ↓turnK_nx, ↓turnK_rt, ↓turnK_bk, ↓turnK_ct, ↓ev_asB, ↓ev_add, ↓ev_sub, ↓ev_mul, ↓ev_fdiv, ↓ev_mod, ↓ev_pow, ↓ev_neg, ↓ev_eqI, ↓ev_neI, ↓ev_lt, ↓ev_le, ↓ev_gt, ↓ev_ge, ↓ev_gcd, ↓ev_absI, ↓ev_maxI, ↓ev_minI, ↓ev_intI, ↓ev_intB, ↓ev_tupT, ↓ev_tupL, ↓ev_lstT, ↓ev_lstL, ↓ev_lenT, ↓ev_lenL, ↓ev_catL, ↓ev_catT, ↓ev_ixT, ↓ev_ixL, ↓ev_slT, ↓ev_slL, ↓ev_isN, ↓ev_isNotN, ↓ev_zipTT, ↓ev_enumT, ↓ev_enumL, ↓ev_eqS, ↓ev_endI, ↓ev_endB, ↓ev_endN, ↓ev_endS, ↓ev_endTI, ↓ev_endLI, ↓ev_endTF, ↓ev_endLF, ↓ev_raiM, ↓ev_haM, ↓ev_fqM, ↓ev_lcG, ↓ev_mkR, startD, pick, setTg, setAll, wipeD, List.map_cons, List.map_nil, List.length_cons, List.length_nil, List.cons_append, List.nil_append, List.getElem?_cons_zero, List.getElem?_cons_succ, List.set_cons_zero, List.set_cons_succ, List.replicate_succ, List.replicate_zero, List.filterMap_cons, List.filterMap_nil, Nat.reduceAdd, Nat.reduceSub, Nat.reduceLeDiff, and_self, if_true, decide_eq_true_eq, true_and, and_true, List.set_nil, List.length_set, take_set, take_app, take_self, if_pos (show (gi.map D.int).length ≤ 1000000 by omega)]
  refine ev_for (fun ds ρ μ' => μ' = μ ∧ ∃ (o : Option D) (s : Int) (ms : List Int), 0 ≤ s ∧ s < 2147483647 ∧ ρ = [some (.lst (ns.map .int)), some (.int i), some (.lst (cs.map .int)), some (.lst (gi.map .int)), some (.int s), o] ∧ ds = ms.map .int) ?_ ?_ _ _ _ ⟨rfl, none, 86 + i, cs, by omega, by omega, rfl, rfl⟩
  · rintro x rest ρ μ' ⟨rfl, o, s, ms, hs0, hs1, rfl, e⟩
    cases ms with
    | nil => cases e
    | cons y ms =>
      cases e
      refine ⟨_, rfl, ?_⟩
      simp only [↓ev_out, ↓ev_sqM, ↓ev_foM, ↓ev_setM, ↓ev_asgM, ↓ev_putM, ↓ev_ifM, ↓ev_tvM, ↓ev_tnM, ↓ev_taM, ↓ev_toM, ↓ev_op2, ↓ev_gV, ↓ev_kM, ↓ev_rtM, ↓ev_exM, ↓ev_neM, ↓ev_notM, ↓ev_andM, ↓ev_orM, ↓ev_nxM, ↓ev_app, ↓ev_nil, ↓ev_cons, ↓ev_callF, ↓ev_callM, ↓ev_slM, ↓ev_ptM, ↓ev_asI, ↓ev_seM, ↓ev_itL, ↓ev_itT, ↓ev_mkT, ↓ev_mkL, ↓ev_lcM, ↓ev_dispM, ↓ev_lft, ↓thenK_nx, ↓thenK_rt, ↓thenK_bk, ↓thenK_ct, ↓tgK_s, ↓outK_rt, ↓outK_nx, ↓vK_s, ↓turnK_nx, ↓turnK_rt, ↓turnK_bk, ↓turnK_ct, ↓ev_asB, ↓ev_add, ↓ev_sub, ↓ev_mul, ↓ev_fdiv, ↓ev_mod, ↓ev_pow, ↓ev_neg, ↓ev_eqI, ↓ev_neI, ↓ev_lt, ↓ev_le, ↓ev_gt, ↓ev_ge, ↓ev_gcd, ↓ev_absI, ↓ev_maxI, ↓ev_minI, ↓ev_intI, ↓ev_intB, ↓ev_tupT, ↓ev_tupL, ↓ev_lstT, ↓ev_lstL, ↓ev_lenT, ↓ev_lenL, ↓ev_catL, ↓ev_catT, ↓ev_ixT, ↓ev_ixL, ↓ev_slT, ↓ev_slL, ↓ev_isN, ↓ev_isNotN, ↓ev_zipTT, ↓ev_enumT, ↓ev_enumL, ↓ev_eqS, ↓ev_endI, ↓ev_endB, ↓ev_endN, ↓ev_endS, ↓ev_endTI, ↓ev_endLI, ↓ev_endTF, ↓ev_endLF, ↓ev_raiM, ↓ev_haM, ↓ev_fqM, ↓ev_lcG, ↓ev_mkR, startD, pick, setTg, setAll, wipeD, List.map_cons, List.map_nil, List.length_cons, List.length_nil, List.cons_append, List.nil_append, List.getElem?_cons_zero, List.getElem?_cons_succ, List.set_cons_zero, List.set_cons_succ, List.replicate_succ, List.replicate_zero, List.filterMap_cons, List.filterMap_nil, Nat.reduceAdd, Nat.reduceSub, Nat.reduceLeDiff, and_self, if_true, decide_eq_true_eq, true_and, and_true, List.set_nil, List.length_set, take_set, take_app, take_self]
      refine ⟨mul64 (by decide), by decide, ?_⟩
      have r := fmod_range (i := s * 48271 + y) (b := 2147483647) (by decide)
      exact ⟨_, _, ms, r.1, r.2, rfl, rfl⟩
  · rintro ρ μ' ⟨rfl, o, s, ms, hs0, hs1, rfl, e⟩
    simp only [↓ev_out, ↓ev_sqM, ↓ev_foM, ↓ev_setM, ↓ev_asgM, ↓ev_putM, ↓ev_ifM, ↓ev_tvM, ↓ev_tnM, ↓ev_taM, ↓ev_toM, ↓ev_op2, ↓ev_gV, ↓ev_kM, ↓ev_rtM, ↓ev_exM, ↓ev_neM, ↓ev_notM, ↓ev_andM, ↓ev_orM, ↓ev_nxM, ↓ev_app, ↓ev_nil, ↓ev_cons, ↓ev_callF, ↓ev_callM, ↓ev_slM, ↓ev_ptM, ↓ev_asI, ↓ev_seM, ↓ev_itL, ↓ev_itT, ↓ev_mkT, ↓ev_mkL, ↓ev_lcM, ↓ev_dispM, ↓ev_lft, ↓thenK_nx, ↓thenK_rt, ↓thenK_bk, ↓thenK_ct, ↓tgK_s, ↓outK_rt, ↓outK_nx, ↓vK_s, ↓turnK_nx, ↓turnK_rt, ↓turnK_bk, ↓turnK_ct, ↓ev_asB, ↓ev_add, ↓ev_sub, ↓ev_mul, ↓ev_fdiv, ↓ev_mod, ↓ev_pow, ↓ev_neg, ↓ev_eqI, ↓ev_neI, ↓ev_lt, ↓ev_le, ↓ev_gt, ↓ev_ge, ↓ev_gcd, ↓ev_absI, ↓ev_maxI, ↓ev_minI, ↓ev_intI, ↓ev_intB, ↓ev_tupT, ↓ev_tupL, ↓ev_lstT, ↓ev_lstL, ↓ev_lenT, ↓ev_lenL, ↓ev_catL, ↓ev_catT, ↓ev_ixT, ↓ev_ixL, ↓ev_slT, ↓ev_slL, ↓ev_isN, ↓ev_isNotN, ↓ev_zipTT, ↓ev_enumT, ↓ev_enumL, ↓ev_eqS, ↓ev_endI, ↓ev_endB, ↓ev_endN, ↓ev_endS, ↓ev_endTI, ↓ev_endLI, ↓ev_endTF, ↓ev_endLF, ↓ev_raiM, ↓ev_haM, ↓ev_fqM, ↓ev_lcG, ↓ev_mkR, startD, pick, setTg, setAll, wipeD, List.map_cons, List.map_nil, List.length_cons, List.length_nil, List.cons_append, List.nil_append, List.getElem?_cons_zero, List.getElem?_cons_succ, List.set_cons_zero, List.set_cons_succ, List.replicate_succ, List.replicate_zero, List.filterMap_cons, List.filterMap_nil, Nat.reduceAdd, Nat.reduceSub, Nat.reduceLeDiff, and_self, if_true, decide_eq_true_eq, true_and, and_true, List.set_nil, List.length_set, take_set, take_app, take_self, if_pos (show 0 ≤ 1000000 by decide), if_pos (show 1 ≤ 1000000 by decide)]
    refine (ev_neE (shp_mono 8 (show shp 1 (.lst (gi.map .int)) from shp_ints gi) (by decide))).mpr ?_
    have fin : ∀ l : Int, Ew NoX (newDk ["left", "seed", "cells", "spot"] [.int l, .int s, .lst ((cs ++ [53 * i + 11]).map .int), .int 0] μ') fun d μ1 => Ew NoX (endD μ'.length d μ1) fun d μ'_1 => d = .ref μ'.length ∧ (∃ so, μ'_1 = μ' ++ [so]) ∧ MAt μ'.length 0 μ'_1 := fun l => by
      have e : newDk ["left", "seed", "cells", "spot"] [.int l, .int s, .lst ((cs ++ [53 * i + 11]).map .int), .int 0] μ' = .ok (.ref μ'.length) (μ' ++ [.dk (mkd l s (cs ++ [53 * i + 11]) 0)]) := by
        unfold newDk
        have hp : D.pures [.int l, .int s, .lst ((cs ++ [53 * i + 11]).map .int), .int 0] = true := by
          show (true && (true && (D.pures ((cs ++ [53 * i + 11]).map .int) && true))) = true
          rw [pures_ints]
          rfl
        rw [hp]
        rfl
      rw [e]
      refine (ev_endK (kd := mkd l s (cs ++ [53 * i + 11]) 0) (by simp) (Nat.le_refl _)).mpr ?_
      refine ⟨rfl, ⟨_, rfl⟩, l, s, cs ++ [53 * i + 11], 0, ?_, hs0, hs1, by simp, Nat.le_refl _⟩
      unfold dkAt
      simp
    have ec : ∀ x : Int, List.map D.int cs ++ [D.int x] = (cs ++ [x]).map .int := fun x => by simp
    have hlen : (List.map D.int cs).length + 1 ≤ 1000000 := by rw [List.length_map]; omega
    cases gi with
    | nil =>
      simp only [↓ev_out, ↓ev_sqM, ↓ev_foM, ↓ev_setM, ↓ev_asgM, ↓ev_putM, ↓ev_ifM, ↓ev_tvM, ↓ev_tnM, ↓ev_taM, ↓ev_toM, ↓ev_op2, ↓ev_gV, ↓ev_kM, ↓ev_rtM, ↓ev_exM, ↓ev_neM, ↓ev_notM, ↓ev_andM, ↓ev_orM, ↓ev_nxM, ↓ev_app, ↓ev_nil, ↓ev_cons, ↓ev_callF, ↓ev_callM, ↓ev_slM, ↓ev_ptM, ↓ev_asI, ↓ev_seM, ↓ev_itL, ↓ev_itT, ↓ev_mkT, ↓ev_mkL, ↓ev_lcM, ↓ev_dispM, ↓ev_lft, ↓thenK_nx, ↓thenK_rt, ↓thenK_bk, ↓thenK_ct, ↓tgK_s, ↓outK_rt, ↓outK_nx, ↓vK_s, ↓turnK_nx, ↓turnK_rt, ↓turnK_bk, ↓turnK_ct, ↓ev_asB, ↓ev_add, ↓ev_sub, ↓ev_mul, ↓ev_fdiv, ↓ev_mod, ↓ev_pow, ↓ev_neg, ↓ev_eqI, ↓ev_neI, ↓ev_lt, ↓ev_le, ↓ev_gt, ↓ev_ge, ↓ev_gcd, ↓ev_absI, ↓ev_maxI, ↓ev_minI, ↓ev_intI, ↓ev_intB, ↓ev_tupT, ↓ev_tupL, ↓ev_lstT, ↓ev_lstL, ↓ev_lenT, ↓ev_lenL, ↓ev_catL, ↓ev_catT, ↓ev_ixT, ↓ev_ixL, ↓ev_slT, ↓ev_slL, ↓ev_isN, ↓ev_isNotN, ↓ev_zipTT, ↓ev_enumT, ↓ev_enumL, ↓ev_eqS, ↓ev_endI, ↓ev_endB, ↓ev_endN, ↓ev_endS, ↓ev_endTI, ↓ev_endLI, ↓ev_endTF, ↓ev_endLF, ↓ev_raiM, ↓ev_haM, ↓ev_fqM, ↓ev_lcG, ↓ev_mkR, startD, pick, setTg, setAll, wipeD, List.map_cons, List.map_nil, List.length_cons, List.length_nil, List.cons_append, List.nil_append, List.getElem?_cons_zero, List.getElem?_cons_succ, List.set_cons_zero, List.set_cons_succ, List.replicate_succ, List.replicate_zero, List.filterMap_cons, List.filterMap_nil, Nat.reduceAdd, Nat.reduceSub, Nat.reduceLeDiff, and_self, if_true, decide_eq_true_eq, true_and, and_true, List.set_nil, List.length_set, take_set, take_app, take_self, List.isEmpty_nil, Bool.not_true, Bool.false_eq_true, if_false]
      refine ⟨mul64l (by decide), by omega, ?_⟩
      rw [ec]
      exact fin 0
    | cons g gi =>
      simp only [↓ev_out, ↓ev_sqM, ↓ev_foM, ↓ev_setM, ↓ev_asgM, ↓ev_putM, ↓ev_ifM, ↓ev_tvM, ↓ev_tnM, ↓ev_taM, ↓ev_toM, ↓ev_op2, ↓ev_gV, ↓ev_kM, ↓ev_rtM, ↓ev_exM, ↓ev_neM, ↓ev_notM, ↓ev_andM, ↓ev_orM, ↓ev_nxM, ↓ev_app, ↓ev_nil, ↓ev_cons, ↓ev_callF, ↓ev_callM, ↓ev_slM, ↓ev_ptM, ↓ev_asI, ↓ev_seM, ↓ev_itL, ↓ev_itT, ↓ev_mkT, ↓ev_mkL, ↓ev_lcM, ↓ev_dispM, ↓ev_lft, ↓thenK_nx, ↓thenK_rt, ↓thenK_bk, ↓thenK_ct, ↓tgK_s, ↓outK_rt, ↓outK_nx, ↓vK_s, ↓turnK_nx, ↓turnK_rt, ↓turnK_bk, ↓turnK_ct, ↓ev_asB, ↓ev_add, ↓ev_sub, ↓ev_mul, ↓ev_fdiv, ↓ev_mod, ↓ev_pow, ↓ev_neg, ↓ev_eqI, ↓ev_neI, ↓ev_lt, ↓ev_le, ↓ev_gt, ↓ev_ge, ↓ev_gcd, ↓ev_absI, ↓ev_maxI, ↓ev_minI, ↓ev_intI, ↓ev_intB, ↓ev_tupT, ↓ev_tupL, ↓ev_lstT, ↓ev_lstL, ↓ev_lenT, ↓ev_lenL, ↓ev_catL, ↓ev_catT, ↓ev_ixT, ↓ev_ixL, ↓ev_slT, ↓ev_slL, ↓ev_isN, ↓ev_isNotN, ↓ev_zipTT, ↓ev_enumT, ↓ev_enumL, ↓ev_eqS, ↓ev_endI, ↓ev_endB, ↓ev_endN, ↓ev_endS, ↓ev_endTI, ↓ev_endLI, ↓ev_endTF, ↓ev_endLF, ↓ev_raiM, ↓ev_haM, ↓ev_fqM, ↓ev_lcG, ↓ev_mkR, startD, pick, setTg, setAll, wipeD, List.map_cons, List.map_nil, List.length_cons, List.length_nil, List.cons_append, List.nil_append, List.getElem?_cons_zero, List.getElem?_cons_succ, List.set_cons_zero, List.set_cons_succ, List.replicate_succ, List.replicate_zero, List.filterMap_cons, List.filterMap_nil, Nat.reduceAdd, Nat.reduceSub, Nat.reduceLeDiff, and_self, if_true, decide_eq_true_eq, true_and, and_true, List.set_nil, List.length_set, take_set, take_app, take_self, List.isEmpty_cons, Bool.not_false]
      have e0 : atI (D.int g :: List.map D.int gi) 0 = some (.int g) := at_nat (k := 0) rfl
      rw [e0]
      simp only [↓ev_out, ↓ev_sqM, ↓ev_foM, ↓ev_setM, ↓ev_asgM, ↓ev_putM, ↓ev_ifM, ↓ev_tvM, ↓ev_tnM, ↓ev_taM, ↓ev_toM, ↓ev_op2, ↓ev_gV, ↓ev_kM, ↓ev_rtM, ↓ev_exM, ↓ev_neM, ↓ev_notM, ↓ev_andM, ↓ev_orM, ↓ev_nxM, ↓ev_app, ↓ev_nil, ↓ev_cons, ↓ev_callF, ↓ev_callM, ↓ev_slM, ↓ev_ptM, ↓ev_asI, ↓ev_seM, ↓ev_itL, ↓ev_itT, ↓ev_mkT, ↓ev_mkL, ↓ev_lcM, ↓ev_dispM, ↓ev_lft, ↓thenK_nx, ↓thenK_rt, ↓thenK_bk, ↓thenK_ct, ↓tgK_s, ↓outK_rt, ↓outK_nx, ↓vK_s, ↓turnK_nx, ↓turnK_rt, ↓turnK_bk, ↓turnK_ct, ↓ev_asB, ↓ev_add, ↓ev_sub, ↓ev_mul, ↓ev_fdiv, ↓ev_mod, ↓ev_pow, ↓ev_neg, ↓ev_eqI, ↓ev_neI, ↓ev_lt, ↓ev_le, ↓ev_gt, ↓ev_ge, ↓ev_gcd, ↓ev_absI, ↓ev_maxI, ↓ev_minI, ↓ev_intI, ↓ev_intB, ↓ev_tupT, ↓ev_tupL, ↓ev_lstT, ↓ev_lstL, ↓ev_lenT, ↓ev_lenL, ↓ev_catL, ↓ev_catT, ↓ev_ixT, ↓ev_ixL, ↓ev_slT, ↓ev_slL, ↓ev_isN, ↓ev_isNotN, ↓ev_zipTT, ↓ev_enumT, ↓ev_enumL, ↓ev_eqS, ↓ev_endI, ↓ev_endB, ↓ev_endN, ↓ev_endS, ↓ev_endTI, ↓ev_endLI, ↓ev_endTF, ↓ev_endLF, ↓ev_raiM, ↓ev_haM, ↓ev_fqM, ↓ev_lcG, ↓ev_mkR, startD, pick, setTg, setAll, wipeD, List.map_cons, List.map_nil, List.length_cons, List.length_nil, List.cons_append, List.nil_append, List.getElem?_cons_zero, List.getElem?_cons_succ, List.set_cons_zero, List.set_cons_succ, List.replicate_succ, List.replicate_zero, List.filterMap_cons, List.filterMap_nil, Nat.reduceAdd, Nat.reduceSub, Nat.reduceLeDiff, and_self, if_true, decide_eq_true_eq, true_and, and_true, List.set_nil, List.length_set, take_set, take_app, take_self]
      refine ⟨mul64l (by decide), by omega, ?_⟩
      rw [ec]
      exact fin g
/-! ### 36. .. and their like, their common divisor, their lowered -/
def likeB : List D → M D := outD (sqM (rtM (op2 (appM repF [(gV 0)]) (appM repF [(gV 1)]) eqD)) nxM) 2
theorem like_ok {d : D} {μ : Mu} (h : fit 3 d) : likeB [d, d] μ = .ok (.bl true) μ := by
  refine ev_eq ?_
  unfold likeB
  simp only [↓ev_out, ↓ev_sqM, ↓ev_foM, ↓ev_setM, ↓ev_asgM, ↓ev_putM, ↓ev_ifM, ↓ev_tvM, ↓ev_tnM, ↓ev_taM, ↓ev_toM, ↓ev_op2, ↓ev_gV, ↓ev_kM, ↓ev_rtM, ↓ev_exM, ↓ev_neM, ↓ev_notM, ↓ev_andM, ↓ev_orM, ↓ev_nxM, ↓ev_app, ↓ev_nil, ↓ev_cons, ↓ev_callF, ↓ev_callM, ↓ev_slM, ↓ev_ptM, ↓ev_asI, ↓ev_seM, ↓ev_itL, ↓ev_itT, ↓ev_mkT, ↓ev_mkL, ↓ev_lcM, ↓ev_dispM, ↓ev_lft, ↓thenK_nx, ↓thenK_rt, ↓thenK_bk, ↓thenK_ct, ↓tgK_s, ↓outK_rt, ↓outK_nx, ↓vK_s, ↓turnK_nx, ↓turnK_rt, ↓turnK_bk, ↓turnK_ct, ↓ev_asB, ↓ev_add, ↓ev_sub, ↓ev_mul, ↓ev_fdiv, ↓ev_mod, ↓ev_pow, ↓ev_neg, ↓ev_eqI, ↓ev_neI, ↓ev_lt, ↓ev_le, ↓ev_gt, ↓ev_ge, ↓ev_gcd, ↓ev_absI, ↓ev_maxI, ↓ev_minI, ↓ev_intI, ↓ev_intB, ↓ev_tupT, ↓ev_tupL, ↓ev_lstT, ↓ev_lstL, ↓ev_lenT, ↓ev_lenL, ↓ev_catL, ↓ev_catT, ↓ev_ixT, ↓ev_ixL, ↓ev_slT, ↓ev_slL, ↓ev_isN, ↓ev_isNotN, ↓ev_zipTT, ↓ev_enumT, ↓ev_enumL, ↓ev_eqS, ↓ev_endI, ↓ev_endB, ↓ev_endN, ↓ev_endS, ↓ev_endTI, ↓ev_endLI, ↓ev_endTF, ↓ev_endLF, ↓ev_raiM, ↓ev_haM, ↓ev_fqM, ↓ev_lcG, ↓ev_mkR, startD, pick, setTg, setAll, wipeD, List.map_cons, List.map_nil, List.length_cons, List.length_nil, List.cons_append, List.nil_append, List.getElem?_cons_zero, List.getElem?_cons_succ, List.set_cons_zero, List.set_cons_succ, List.replicate_succ, List.replicate_zero, List.filterMap_cons, List.filterMap_nil, Nat.reduceAdd, Nat.reduceSub, Nat.reduceLeDiff, and_self, if_true, decide_eq_true_eq, true_and, and_true, List.set_nil, List.length_set, take_set, take_app, take_self]
  refine (ev_rep (fit_rep h)).mpr ?_
  refine (ev_rep (fit_rep h)).mpr ?_
  simp only [↓ev_out, ↓ev_sqM, ↓ev_foM, ↓ev_setM, ↓ev_asgM, ↓ev_putM, ↓ev_ifM, ↓ev_tvM, ↓ev_tnM, ↓ev_taM, ↓ev_toM, ↓ev_op2, ↓ev_gV, ↓ev_kM, ↓ev_rtM, ↓ev_exM, ↓ev_neM, ↓ev_notM, ↓ev_andM, ↓ev_orM, ↓ev_nxM, ↓ev_app, ↓ev_nil, ↓ev_cons, ↓ev_callF, ↓ev_callM, ↓ev_slM, ↓ev_ptM, ↓ev_asI, ↓ev_seM, ↓ev_itL, ↓ev_itT, ↓ev_mkT, ↓ev_mkL, ↓ev_lcM, ↓ev_dispM, ↓ev_lft, ↓thenK_nx, ↓thenK_rt, ↓thenK_bk, ↓thenK_ct, ↓tgK_s, ↓outK_rt, ↓outK_nx, ↓vK_s, ↓turnK_nx, ↓turnK_rt, ↓turnK_bk, ↓turnK_ct, ↓ev_asB, ↓ev_add, ↓ev_sub, ↓ev_mul, ↓ev_fdiv, ↓ev_mod, ↓ev_pow, ↓ev_neg, ↓ev_eqI, ↓ev_neI, ↓ev_lt, ↓ev_le, ↓ev_gt, ↓ev_ge, ↓ev_gcd, ↓ev_absI, ↓ev_maxI, ↓ev_minI, ↓ev_intI, ↓ev_intB, ↓ev_tupT, ↓ev_tupL, ↓ev_lstT, ↓ev_lstL, ↓ev_lenT, ↓ev_lenL, ↓ev_catL, ↓ev_catT, ↓ev_ixT, ↓ev_ixL, ↓ev_slT, ↓ev_slL, ↓ev_isN, ↓ev_isNotN, ↓ev_zipTT, ↓ev_enumT, ↓ev_enumL, ↓ev_eqS, ↓ev_endI, ↓ev_endB, ↓ev_endN, ↓ev_endS, ↓ev_endTI, ↓ev_endLI, ↓ev_endTF, ↓ev_endLF, ↓ev_raiM, ↓ev_haM, ↓ev_fqM, ↓ev_lcG, ↓ev_mkR, startD, pick, setTg, setAll, wipeD, List.map_cons, List.map_nil, List.length_cons, List.length_nil, List.cons_append, List.nil_append, List.getElem?_cons_zero, List.getElem?_cons_succ, List.set_cons_zero, List.set_cons_succ, List.replicate_succ, List.replicate_zero, List.filterMap_cons, List.filterMap_nil, Nat.reduceAdd, Nat.reduceSub, Nat.reduceLeDiff, and_self, if_true, decide_eq_true_eq, true_and, and_true, List.set_nil, List.length_set, take_set, take_app, take_self, decide_true]
theorem like_rk {d : D} {μ : Mu} (h : ∀ μ, repOk (pdm μ d) = true) : likeB [d, d] μ = .ok (.bl true) μ := by
  refine ev_eq ?_
  unfold likeB
  simp only [↓ev_out, ↓ev_sqM, ↓ev_foM, ↓ev_setM, ↓ev_asgM, ↓ev_putM, ↓ev_ifM, ↓ev_tvM, ↓ev_tnM, ↓ev_taM, ↓ev_toM, ↓ev_op2, ↓ev_gV, ↓ev_kM, ↓ev_rtM, ↓ev_exM, ↓ev_neM, ↓ev_notM, ↓ev_andM, ↓ev_orM, ↓ev_nxM, ↓ev_app, ↓ev_nil, ↓ev_cons, ↓ev_callF, ↓ev_callM, ↓ev_slM, ↓ev_ptM, ↓ev_asI, ↓ev_seM, ↓ev_itL, ↓ev_itT, ↓ev_mkT, ↓ev_mkL, ↓ev_lcM, ↓ev_dispM, ↓ev_lft, ↓thenK_nx, ↓thenK_rt, ↓thenK_bk, ↓thenK_ct, ↓tgK_s, ↓outK_rt, ↓outK_nx, ↓vK_s, ↓turnK_nx, ↓turnK_rt, ↓turnK_bk, ↓turnK_ct, ↓ev_asB, ↓ev_add, ↓ev_sub, ↓ev_mul, ↓ev_fdiv, ↓ev_mod, ↓ev_pow, ↓ev_neg, ↓ev_eqI, ↓ev_neI, ↓ev_lt, ↓ev_le, ↓ev_gt, ↓ev_ge, ↓ev_gcd, ↓ev_absI, ↓ev_maxI, ↓ev_minI, ↓ev_intI, ↓ev_intB, ↓ev_tupT, ↓ev_tupL, ↓ev_lstT, ↓ev_lstL, ↓ev_lenT, ↓ev_lenL, ↓ev_catL, ↓ev_catT, ↓ev_ixT, ↓ev_ixL, ↓ev_slT, ↓ev_slL, ↓ev_isN, ↓ev_isNotN, ↓ev_zipTT, ↓ev_enumT, ↓ev_enumL, ↓ev_eqS, ↓ev_endI, ↓ev_endB, ↓ev_endN, ↓ev_endS, ↓ev_endTI, ↓ev_endLI, ↓ev_endTF, ↓ev_endLF, ↓ev_raiM, ↓ev_haM, ↓ev_fqM, ↓ev_lcG, ↓ev_mkR, startD, pick, setTg, setAll, wipeD, List.map_cons, List.map_nil, List.length_cons, List.length_nil, List.cons_append, List.nil_append, List.getElem?_cons_zero, List.getElem?_cons_succ, List.set_cons_zero, List.set_cons_succ, List.replicate_succ, List.replicate_zero, List.filterMap_cons, List.filterMap_nil, Nat.reduceAdd, Nat.reduceSub, Nat.reduceLeDiff, and_self, if_true, decide_eq_true_eq, true_and, and_true, List.set_nil, List.length_set, take_set, take_app, take_self]
  refine (ev_rep (h _)).mpr ?_
  refine (ev_rep (h _)).mpr ?_
  simp only [↓ev_out, ↓ev_sqM, ↓ev_foM, ↓ev_setM, ↓ev_asgM, ↓ev_putM, ↓ev_ifM, ↓ev_tvM, ↓ev_tnM, ↓ev_taM, ↓ev_toM, ↓ev_op2, ↓ev_gV, ↓ev_kM, ↓ev_rtM, ↓ev_exM, ↓ev_neM, ↓ev_notM, ↓ev_andM, ↓ev_orM, ↓ev_nxM, ↓ev_app, ↓ev_nil, ↓ev_cons, ↓ev_callF, ↓ev_callM, ↓ev_slM, ↓ev_ptM, ↓ev_asI, ↓ev_seM, ↓ev_itL, ↓ev_itT, ↓ev_mkT, ↓ev_mkL, ↓ev_lcM, ↓ev_dispM, ↓ev_lft, ↓thenK_nx, ↓thenK_rt, ↓thenK_bk, ↓thenK_ct, ↓tgK_s, ↓outK_rt, ↓outK_nx, ↓vK_s, ↓turnK_nx, ↓turnK_rt, ↓turnK_bk, ↓turnK_ct, ↓ev_asB, ↓ev_add, ↓ev_sub, ↓ev_mul, ↓ev_fdiv, ↓ev_mod, ↓ev_pow, ↓ev_neg, ↓ev_eqI, ↓ev_neI, ↓ev_lt, ↓ev_le, ↓ev_gt, ↓ev_ge, ↓ev_gcd, ↓ev_absI, ↓ev_maxI, ↓ev_minI, ↓ev_intI, ↓ev_intB, ↓ev_tupT, ↓ev_tupL, ↓ev_lstT, ↓ev_lstL, ↓ev_lenT, ↓ev_lenL, ↓ev_catL, ↓ev_catT, ↓ev_ixT, ↓ev_ixL, ↓ev_slT, ↓ev_slL, ↓ev_isN, ↓ev_isNotN, ↓ev_zipTT, ↓ev_enumT, ↓ev_enumL, ↓ev_eqS, ↓ev_endI, ↓ev_endB, ↓ev_endN, ↓ev_endS, ↓ev_endTI, ↓ev_endLI, ↓ev_endTF, ↓ev_endLF, ↓ev_raiM, ↓ev_haM, ↓ev_fqM, ↓ev_lcG, ↓ev_mkR, startD, pick, setTg, setAll, wipeD, List.map_cons, List.map_nil, List.length_cons, List.length_nil, List.cons_append, List.nil_append, List.getElem?_cons_zero, List.getElem?_cons_succ, List.set_cons_zero, List.set_cons_succ, List.replicate_succ, List.replicate_zero, List.filterMap_cons, List.filterMap_nil, Nat.reduceAdd, Nat.reduceSub, Nat.reduceLeDiff, and_self, if_true, decide_eq_true_eq, true_and, and_true, List.set_nil, List.length_set, take_set, take_app, take_self, decide_true]
def signB : List D → M D := outD (sqM (rtM (op2 (appM intF [(op2 (gV 0) (kM (.int 0)) gtD)]) (appM intF [(op2 (gV 0) (kM (.int 0)) ltD)]) subD)) nxM) 1
def sgn (n : Int) : Int := if n = 0 then 0 else if 0 < n then 1 else -1
theorem sign_ok (i : Int) (μ : Mu) : signB [.int i] μ = .ok (.int (sgn i)) μ := by
  refine ev_eq ?_
  unfold signB
  simp only [↓ev_out, ↓ev_sqM, ↓ev_foM, ↓ev_setM, ↓ev_asgM, ↓ev_putM, ↓ev_ifM, ↓ev_tvM, ↓ev_tnM, ↓ev_taM, ↓ev_toM, ↓ev_op2, ↓ev_gV, ↓ev_kM, ↓ev_rtM, ↓ev_exM, ↓ev_neM, ↓ev_notM, ↓ev_andM, ↓ev_orM, ↓ev_nxM, ↓ev_app, ↓ev_nil, ↓ev_cons, ↓ev_callF, ↓ev_callM, ↓ev_slM, ↓ev_ptM, ↓ev_asI, ↓ev_seM, ↓ev_itL, ↓ev_itT, ↓ev_mkT, ↓ev_mkL, ↓ev_lcM, ↓ev_dispM, ↓ev_lft, ↓thenK_nx, ↓thenK_rt, ↓thenK_bk, ↓thenK_ct, ↓tgK_s, ↓outK_rt, ↓outK_nx, ↓vK_s, ↓turnK_nx, ↓turnK_rt, ↓turnK_bk, ↓turnK_ct, ↓ev_asB, ↓ev_add, ↓ev_sub, ↓ev_mul, ↓ev_fdiv, ↓ev_mod, ↓ev_pow, ↓ev_neg, ↓ev_eqI, ↓ev_neI, ↓ev_lt, ↓ev_le, ↓ev_gt, ↓ev_ge, ↓ev_gcd, ↓ev_absI, ↓ev_maxI, ↓ev_minI, ↓ev_intI, ↓ev_intB, ↓ev_tupT, ↓ev_tupL, ↓ev_lstT, ↓ev_lstL, ↓ev_lenT, ↓ev_lenL, ↓ev_catL, ↓ev_catT, ↓ev_ixT, ↓ev_ixL, ↓ev_slT, ↓ev_slL, ↓ev_isN, ↓ev_isNotN, ↓ev_zipTT, ↓ev_enumT, ↓ev_enumL, ↓ev_eqS, ↓ev_endI, ↓ev_endB, ↓ev_endN, ↓ev_endS, ↓ev_endTI, ↓ev_endLI, ↓ev_endTF, ↓ev_endLF, ↓ev_raiM, ↓ev_haM, ↓ev_fqM, ↓ev_lcG, ↓ev_mkR, startD, pick, setTg, setAll, wipeD, List.map_cons, List.map_nil, List.length_cons, List.length_nil, List.cons_append, List.nil_append, List.getElem?_cons_zero, List.getElem?_cons_succ, List.set_cons_zero, List.set_cons_succ, List.replicate_succ, List.replicate_zero, List.filterMap_cons, List.filterMap_nil, Nat.reduceAdd, Nat.reduceSub, Nat.reduceLeDiff, and_self, if_true, decide_eq_true_eq, true_and, and_true, List.set_nil, List.length_set, take_set, take_app, take_self]
  unfold sgn
  by_cases h : i = 0
  · subst h; rfl
  · by_cases h2 : 0 < i
    · have h3 : ¬ i < 0 := by omega
      simp [h, h2, h3]
    · have h3 : i < 0 := by omega
      simp [h, h2, h3]
def sq (b : Bool) (ns : List Int) : D := match b with
  | true => .lst (ns.map .int)
  | false => .tup (ns.map .int)
abbrev tp (ns : List Int) : D := .tup (ns.map .int)
def BB : Nat := 2 ^ 1900
set_option exponentiation.threshold 3000 in
theorem BB_pos : 0 < BB := Nat.pow_pos (by decide)
set_option exponentiation.threshold 3000 in
theorem log_BB {n : Nat} (h : n < BB) : n.log2 < 1900 := by
  by_cases z : n = 0
  · subst z; decide
  · exact (Nat.log2_lt z).mpr h
theorem divOk_BB {g : Nat} (h0 : g ≠ 0) (h : g < BB) : divOk (g : Int) = true := by
  unfold divOk
  have := log_BB h
  simp only [Bool.and_eq_true, decide_eq_true_eq, Int.natAbs_natCast]
  omega
def commonB : List D → M D := outD (sqM (setM (kM (.int 0)) 1) (sqM (foM (seM (gV 0)) (.v 2) (sqM (setM (appM absF [(gV 2)]) 3) (sqM (whM (tvM (op2 (gV 3) (kM (.int 0)) neD)) (sqM (asgM (appM mkT [(gV 3), (op2 (appM intF [(gV 1)]) (gV 3) modD)]) (.t [1, 3])) nxM)) nxM))) (sqM (rtM (gV 1)) nxM))) 4
set_option exponentiation.threshold 3000 in
theorem common_ok (b : Bool) (ns : List Int) (μ : Mu) (hb : ∀ x ∈ ns, x.natAbs < BB) : commonB [sq b ns] μ = .ok (.int (gcdL ns : Int)) μ := by
  refine ev_eq ?_
  have loop : ∀ (d : D) (m : Mu), Ew NoX (forD (.v 2) (sqM (setM (appM absF [(gV 2)]) 3) (sqM (whM (tvM (op2 (gV 3) (kM (.int 0)) neD)) (sqM (asgM (appM mkT [(gV 3), (op2 (appM intF [(gV 1)]) (gV 3) modD)]) (.t [1, 3])) nxM)) nxM)) (ns.map .int) [some d, some (.int 0), none, none] m)
      (thenK NoX (sqM (rtM (gV 1)) nxM) (outK NoX m.length fun b μ' => b = .int (gcdL ns : Int) ∧ μ' = m)) := fun d m => by
    refine ev_for (fun ds ρ μ' => μ' = m ∧ ∃ (a : Nat) (o o2 : Option D) (ms : List Int), ρ = [some d, some (.int a), o, o2] ∧ ds = ms.map .int ∧ gcdA a ms = gcdL ns ∧ ∀ x ∈ ms, x.natAbs < BB) ?_ ?_ _ _ _ ⟨rfl, 0, none, none, ns, rfl, rfl, rfl, hb⟩
    · rintro x rest ρ μ' ⟨rfl, a, o, o2, ms, rfl, e, q, hB⟩
      cases ms with
      | nil => cases e
      | cons y ms =>
        cases e
        refine ⟨_, rfl, ?_⟩
        have ey : (if y < 0 then -y else y) = (y.natAbs : Int) := by split <;> omega
        simp only [↓ev_out, ↓ev_sqM, ↓ev_foM, ↓ev_setM, ↓ev_asgM, ↓ev_putM, ↓ev_ifM, ↓ev_tvM, ↓ev_tnM, ↓ev_taM, ↓ev_toM, ↓ev_op2, ↓ev_gV, ↓ev_kM, ↓ev_rtM, ↓ev_exM, ↓ev_neM, ↓ev_notM, ↓ev_andM, ↓ev_orM, ↓ev_nxM, ↓ev_app, ↓ev_nil, ↓ev_cons, ↓ev_callF, ↓ev_callM, ↓ev_slM, ↓ev_ptM, ↓ev_asI, ↓ev_seM, ↓ev_itL, ↓ev_itT, ↓ev_mkT, ↓ev_mkL, ↓ev_lcM, ↓ev_dispM, ↓ev_lft, ↓thenK_nx, ↓thenK_rt, ↓thenK_bk, ↓thenK_ct, ↓tgK_s, ↓outK_rt, ↓outK_nx, ↓vK_s, ↓turnK_nx, ↓turnK_rt, ↓turnK_bk, ↓turnK_ct, ↓ev_asB, ↓ev_add, ↓ev_sub, ↓ev_mul, ↓ev_fdiv, ↓ev_mod, ↓ev_pow, ↓ev_neg, ↓ev_eqI, ↓ev_neI, ↓ev_lt, ↓ev_le, ↓ev_gt, ↓ev_ge, ↓ev_gcd, ↓ev_absI, ↓ev_maxI, ↓ev_minI, ↓ev_intI, ↓ev_intB, ↓ev_tupT, ↓ev_tupL, ↓ev_lstT, ↓ev_lstL, ↓ev_lenT, ↓ev_lenL, ↓ev_catL, ↓ev_catT, ↓ev_ixT, ↓ev_ixL, ↓ev_slT, ↓ev_slL, ↓ev_isN, ↓ev_isNotN, ↓ev_zipTT, ↓ev_enumT, ↓ev_enumL, ↓ev_eqS, ↓ev_endI, ↓ev_endB, ↓ev_endN, ↓ev_endS, ↓ev_endTI, ↓ev_endLI, ↓ev_endTF, ↓ev_endLF, ↓ev_raiM, ↓ev_haM, ↓ev_fqM, ↓ev_lcG, ↓ev_mkR, startD, pick, setTg, setAll, wipeD, List.map_cons, List.map_nil, List.length_cons, List.length_nil, List.cons_append, List.nil_append, List.getElem?_cons_zero, List.getElem?_cons_succ, List.set_cons_zero, List.set_cons_succ, List.replicate_succ, List.replicate_zero, List.filterMap_cons, List.filterMap_nil, Nat.reduceAdd, Nat.reduceSub, Nat.reduceLeDiff, and_self, if_true, decide_eq_true_eq, true_and, and_true, List.set_nil, List.length_set, take_set, take_app, take_self, ey]
        show Ew NoX (whD _ _ WF _ _) _
        refine ev_wh (fun n ρ μ2 => μ2 = μ' ∧ ∃ f r : Nat, ρ = [some d, some (.int f), some (.int y), some (.int r)] ∧ Nat.gcd f r = Nat.gcd a y.natAbs ∧ EuN n f r) ?_ (2 * 1900) WF _ _ (by decide) ⟨rfl, a, y.natAbs, rfl, rfl, .inl ⟨1900, rfl, hB y List.mem_cons_self⟩⟩
        rintro n ρ μ2 ⟨rfl, f, r, rfl, hg, he⟩
        simp only [↓ev_out, ↓ev_sqM, ↓ev_foM, ↓ev_setM, ↓ev_asgM, ↓ev_putM, ↓ev_ifM, ↓ev_tvM, ↓ev_tnM, ↓ev_taM, ↓ev_toM, ↓ev_op2, ↓ev_gV, ↓ev_kM, ↓ev_rtM, ↓ev_exM, ↓ev_neM, ↓ev_notM, ↓ev_andM, ↓ev_orM, ↓ev_nxM, ↓ev_app, ↓ev_nil, ↓ev_cons, ↓ev_callF, ↓ev_callM, ↓ev_slM, ↓ev_ptM, ↓ev_asI, ↓ev_seM, ↓ev_itL, ↓ev_itT, ↓ev_mkT, ↓ev_mkL, ↓ev_lcM, ↓ev_dispM, ↓ev_lft, ↓thenK_nx, ↓thenK_rt, ↓thenK_bk, ↓thenK_ct, ↓tgK_s, ↓outK_rt, ↓outK_nx, ↓vK_s, ↓turnK_nx, ↓turnK_rt, ↓turnK_bk, ↓turnK_ct, ↓ev_asB, ↓ev_add, ↓ev_sub, ↓ev_mul, ↓ev_fdiv, ↓ev_mod, ↓ev_pow, ↓ev_neg, ↓ev_eqI, ↓ev_neI, ↓ev_lt, ↓ev_le, ↓ev_gt, ↓ev_ge, ↓ev_gcd, ↓ev_absI, ↓ev_maxI, ↓ev_minI, ↓ev_intI, ↓ev_intB, ↓ev_tupT, ↓ev_tupL, ↓ev_lstT, ↓ev_lstL, ↓ev_lenT, ↓ev_lenL, ↓ev_catL, ↓ev_catT, ↓ev_ixT, ↓ev_ixL, ↓ev_slT, ↓ev_slL, ↓ev_isN, ↓ev_isNotN, ↓ev_zipTT, ↓ev_enumT, ↓ev_enumL, ↓ev_eqS, ↓ev_endI, ↓ev_endB, ↓ev_endN, ↓ev_endS, ↓ev_endTI, ↓ev_endLI, ↓ev_endTF, ↓ev_endLF, ↓ev_raiM, ↓ev_haM, ↓ev_fqM, ↓ev_lcG, ↓ev_mkR, startD, pick, setTg, setAll, wipeD, List.map_cons, List.map_nil, List.length_cons, List.length_nil, List.cons_append, List.nil_append, List.getElem?_cons_zero, List.getElem?_cons_succ, List.set_cons_zero, List.set_cons_succ, List.replicate_succ, List.replicate_zero, List.filterMap_cons, List.filterMap_nil, Nat.reduceAdd, Nat.reduceSub, Nat.reduceLeDiff, and_self, if_true, decide_eq_true_eq, true_and, and_true, List.set_nil, List.length_set, take_set, take_app, take_self]
        by_cases hr : r = 0
        · subst hr
          rw [Nat.gcd_zero_right] at hg
          simp only [Int.natCast_zero, decide_true, Bool.not_true, Bool.false_eq_true, if_false, ↓ev_out, ↓ev_sqM, ↓ev_foM, ↓ev_setM, ↓ev_asgM, ↓ev_putM, ↓ev_ifM, ↓ev_tvM, ↓ev_tnM, ↓ev_taM, ↓ev_toM, ↓ev_op2, ↓ev_gV, ↓ev_kM, ↓ev_rtM, ↓ev_exM, ↓ev_neM, ↓ev_notM, ↓ev_andM, ↓ev_orM, ↓ev_nxM, ↓ev_app, ↓ev_nil, ↓ev_cons, ↓ev_callF, ↓ev_callM, ↓ev_slM, ↓ev_ptM, ↓ev_asI, ↓ev_seM, ↓ev_itL, ↓ev_itT, ↓ev_mkT, ↓ev_mkL, ↓ev_lcM, ↓ev_dispM, ↓ev_lft, ↓thenK_nx, ↓thenK_rt, ↓thenK_bk, ↓thenK_ct, ↓tgK_s, ↓outK_rt, ↓outK_nx, ↓vK_s, ↓turnK_nx, ↓turnK_rt, ↓turnK_bk, ↓turnK_ct, ↓ev_asB, ↓ev_add, ↓ev_sub, ↓ev_mul, ↓ev_fdiv, ↓ev_mod, ↓ev_pow, ↓ev_neg, ↓ev_eqI, ↓ev_neI, ↓ev_lt, ↓ev_le, ↓ev_gt, ↓ev_ge, ↓ev_gcd, ↓ev_absI, ↓ev_maxI, ↓ev_minI, ↓ev_intI, ↓ev_intB, ↓ev_tupT, ↓ev_tupL, ↓ev_lstT, ↓ev_lstL, ↓ev_lenT, ↓ev_lenL, ↓ev_catL, ↓ev_catT, ↓ev_ixT, ↓ev_ixL, ↓ev_slT, ↓ev_slL, ↓ev_isN, ↓ev_isNotN, ↓ev_zipTT, ↓ev_enumT, ↓ev_enumL, ↓ev_eqS, ↓ev_endI, ↓ev_endB, ↓ev_endN, ↓ev_endS, ↓ev_endTI, ↓ev_endLI, ↓ev_endTF, ↓ev_endLF, ↓ev_raiM, ↓ev_haM, ↓ev_fqM, ↓ev_lcG, ↓ev_mkR, startD, pick, setTg, setAll, wipeD, List.map_cons, List.map_nil, List.length_cons, List.length_nil, List.cons_append, List.nil_append, List.getElem?_cons_zero, List.getElem?_cons_succ, List.set_cons_zero, List.set_cons_succ, List.replicate_succ, List.replicate_zero, List.filterMap_cons, List.filterMap_nil, Nat.reduceAdd, Nat.reduceSub, Nat.reduceLeDiff, and_self, if_true, decide_eq_true_eq, true_and, and_true, List.set_nil, List.length_set, take_set, take_app, take_self]
          refine ⟨f, _, _, ms, rfl, rfl, ?_, fun x hx => hB x (List.mem_cons_of_mem _ hx)⟩
          rw [hg]
          exact q
        · have hr' : ¬ (r : Int) = 0 := by omega
          obtain ⟨m', e1, e2⟩ := eun_step he hr
          simp only [hr', decide_false, Bool.not_false, if_true]
          refine ⟨m', e1, hr', ?_⟩
          have em : (f : Int).fmod (r : Int) = ((f % r : Nat) : Int) := by rw [Int.fmod_eq_emod_of_nonneg _ (by omega)]; exact (Int.natCast_emod f r).symm
          rw [em]
          refine ⟨r, f % r, rfl, ?_, e2⟩
          rw [← hg, Nat.gcd_comm r, ← Nat.gcd_rec, Nat.gcd_comm]
    · rintro ρ μ' ⟨rfl, a, o, o2, ms, rfl, e, q, hB⟩
      cases ms with
      | cons y ms => cases e
      | nil =>
        simp only [↓ev_out, ↓ev_sqM, ↓ev_foM, ↓ev_setM, ↓ev_asgM, ↓ev_putM, ↓ev_ifM, ↓ev_tvM, ↓ev_tnM, ↓ev_taM, ↓ev_toM, ↓ev_op2, ↓ev_gV, ↓ev_kM, ↓ev_rtM, ↓ev_exM, ↓ev_neM, ↓ev_notM, ↓ev_andM, ↓ev_orM, ↓ev_nxM, ↓ev_app, ↓ev_nil, ↓ev_cons, ↓ev_callF, ↓ev_callM, ↓ev_slM, ↓ev_ptM, ↓ev_asI, ↓ev_seM, ↓ev_itL, ↓ev_itT, ↓ev_mkT, ↓ev_mkL, ↓ev_lcM, ↓ev_dispM, ↓ev_lft, ↓thenK_nx, ↓thenK_rt, ↓thenK_bk, ↓thenK_ct, ↓tgK_s, ↓outK_rt, ↓outK_nx, ↓vK_s, ↓turnK_nx, ↓turnK_rt, ↓turnK_bk, ↓turnK_ct, ↓ev_asB, ↓ev_add, ↓ev_sub, ↓ev_mul, ↓ev_fdiv, ↓ev_mod, ↓ev_pow, ↓ev_neg, ↓ev_eqI, ↓ev_neI, ↓ev_lt, ↓ev_le, ↓ev_gt, ↓ev_ge, ↓ev_gcd, ↓ev_absI, ↓ev_maxI, ↓ev_minI, ↓ev_intI, ↓ev_intB, ↓ev_tupT, ↓ev_tupL, ↓ev_lstT, ↓ev_lstL, ↓ev_lenT, ↓ev_lenL, ↓ev_catL, ↓ev_catT, ↓ev_ixT, ↓ev_ixL, ↓ev_slT, ↓ev_slL, ↓ev_isN, ↓ev_isNotN, ↓ev_zipTT, ↓ev_enumT, ↓ev_enumL, ↓ev_eqS, ↓ev_endI, ↓ev_endB, ↓ev_endN, ↓ev_endS, ↓ev_endTI, ↓ev_endLI, ↓ev_endTF, ↓ev_endLF, ↓ev_raiM, ↓ev_haM, ↓ev_fqM, ↓ev_lcG, ↓ev_mkR, startD, pick, setTg, setAll, wipeD, List.map_cons, List.map_nil, List.length_cons, List.length_nil, List.cons_append, List.nil_append, List.getElem?_cons_zero, List.getElem?_cons_succ, List.set_cons_zero, List.set_cons_succ, List.replicate_succ, List.replicate_zero, List.filterMap_cons, List.filterMap_nil, Nat.reduceAdd, Nat.reduceSub, Nat.reduceLeDiff, and_self, if_true, decide_eq_true_eq, true_and, and_true, List.set_nil, List.length_set, take_set, take_app, take_self]
        rw [← q]
        rfl
  unfold commonB
  cases b with
  | true =>
    unfold sq
    simp only [↓ev_out, ↓ev_sqM, ↓ev_foM, ↓ev_setM, ↓ev_asgM, ↓ev_putM, ↓ev_ifM, ↓ev_tvM, ↓ev_tnM, ↓ev_taM, ↓ev_toM, ↓ev_op2, ↓ev_gV, ↓ev_kM, ↓ev_rtM, ↓ev_exM, ↓ev_neM, ↓ev_notM, ↓ev_andM, ↓ev_orM, ↓ev_nxM, ↓ev_app, ↓ev_nil, ↓ev_cons, ↓ev_callF, ↓ev_callM, ↓ev_slM, ↓ev_ptM, ↓ev_asI, ↓ev_seM, ↓ev_itL, ↓ev_itT, ↓ev_mkT, ↓ev_mkL, ↓ev_lcM, ↓ev_dispM, ↓ev_lft, ↓thenK_nx, ↓thenK_rt, ↓thenK_bk, ↓thenK_ct, ↓tgK_s, ↓outK_rt, ↓outK_nx, ↓vK_s, ↓turnK_nx, ↓turnK_rt, ↓turnK_bk, ↓turnK_ct, ↓ev_asB, ↓ev_add, ↓ev_sub, ↓ev_mul, ↓ev_fdiv, ↓ev_mod, ↓ev_pow, ↓ev_neg, ↓ev_eqI, ↓ev_neI, ↓ev_lt, ↓ev_le, ↓ev_gt, ↓ev_ge, ↓ev_gcd, ↓ev_absI, ↓ev_maxI, ↓ev_minI, ↓ev_intI, ↓ev_intB, ↓ev_tupT, ↓ev_tupL, ↓ev_lstT, ↓ev_lstL, ↓ev_lenT, ↓ev_lenL, ↓ev_catL, ↓ev_catT, ↓ev_ixT, ↓ev_ixL, ↓ev_slT, ↓ev_slL, ↓ev_isN, ↓ev_isNotN, ↓ev_zipTT, ↓ev_enumT, ↓ev_enumL, ↓ev_eqS, ↓ev_endI, ↓ev_endB, ↓ev_endN, ↓ev_endS, ↓ev_endTI, ↓ev_endLI, ↓ev_endTF, ↓ev_endLF, ↓ev_raiM, ↓ev_haM, ↓ev_fqM, ↓ev_lcG, ↓ev_mkR, startD, pick, setTg, setAll, wipeD, List.map_cons, List.map_nil, List.length_cons, List.length_nil, List.cons_append, List.nil_append, List.getElem?_cons_zero, List.getElem?_cons_succ, List.set_cons_zero, List.set_cons_succ, List.replicate_succ, List.replicate_zero, List.filterMap_cons, List.filterMap_nil, Nat.reduceAdd, Nat.reduceSub, Nat.reduceLeDiff, and_self, if_true, decide_eq_true_eq, true_and, and_true, List.set_nil, List.length_set, take_set, take_app, take_self]
    exact loop _ _
  | false =>
    unfold sq
    simp only [↓ev_out, ↓ev_sqM, ↓ev_foM, ↓ev_setM, ↓ev_asgM, ↓ev_putM, ↓ev_ifM, ↓ev_tvM, ↓ev_tnM, ↓ev_taM, ↓ev_toM, ↓ev_op2, ↓ev_gV, ↓ev_kM, ↓ev_rtM, ↓ev_exM, ↓ev_neM, ↓ev_notM, ↓ev_andM, ↓ev_orM, ↓ev_nxM, ↓ev_app, ↓ev_nil, ↓ev_cons, ↓ev_callF, ↓ev_callM, ↓ev_slM, ↓ev_ptM, ↓ev_asI, ↓ev_seM, ↓ev_itL, ↓ev_itT, ↓ev_mkT, ↓ev_mkL, ↓ev_lcM, ↓ev_dispM, ↓ev_lft, ↓thenK_nx, ↓thenK_rt, ↓thenK_bk, ↓thenK_ct, ↓tgK_s, ↓outK_rt, ↓outK_nx, ↓vK_s, ↓turnK_nx, ↓turnK_rt, ↓turnK_bk, ↓turnK_ct, ↓ev_asB, ↓ev_add, ↓ev_sub, ↓ev_mul, ↓ev_fdiv, ↓ev_mod, ↓ev_pow, ↓ev_neg, ↓ev_eqI, ↓ev_neI, ↓ev_lt, ↓ev_le, ↓ev_gt, ↓ev_ge, ↓ev_gcd, ↓ev_absI, ↓ev_maxI, ↓ev_minI, ↓ev_intI, ↓ev_intB, ↓ev_tupT, ↓ev_tupL, ↓ev_lstT, ↓ev_lstL, ↓ev_lenT, ↓ev_lenL, ↓ev_catL, ↓ev_catT, ↓ev_ixT, ↓ev_ixL, ↓ev_slT, ↓ev_slL, ↓ev_isN, ↓ev_isNotN, ↓ev_zipTT, ↓ev_enumT, ↓ev_enumL, ↓ev_eqS, ↓ev_endI, ↓ev_endB, ↓ev_endN, ↓ev_endS, ↓ev_endTI, ↓ev_endLI, ↓ev_endTF, ↓ev_endLF, ↓ev_raiM, ↓ev_haM, ↓ev_fqM, ↓ev_lcG, ↓ev_mkR, startD, pick, setTg, setAll, wipeD, List.map_cons, List.map_nil, List.length_cons, List.length_nil, List.cons_append, List.nil_append, List.getElem?_cons_zero, List.getElem?_cons_succ, List.set_cons_zero, List.set_cons_succ, List.replicate_succ, List.replicate_zero, List.filterMap_cons, List.filterMap_nil, Nat.reduceAdd, Nat.reduceSub, Nat.reduceLeDiff, and_self, if_true, decide_eq_true_eq, true_and, and_true, List.set_nil, List.length_set, take_set, take_app, take_self]
    exact loop _ _
def loweredB (C : List D → M D) : List D → M D := outD (sqM (setM (callF C ⟨1, [], [0]⟩ 1 [(gV 0)] []) 1) (sqM (rtM (ifM (tvM (op2 (gV 1) (kM (.int 1)) gtD)) (appM tupF [(lcM (seM (gV 0)) (.v 2) (kM true) (op2 (gV 2) (gV 1) fdivD) [2])]) (appM tupF [(gV 0)]))) nxM)) 3
theorem lowered_ok {C : List D → M D} (b : Bool) (ns : List Int) (μ : Mu) (hC : C [sq b ns] μ = .ok (.int (gcdL ns : Int)) μ) (hb : ∀ x ∈ ns, x.natAbs < BB) (hl : ns.length ≤ 1000) : loweredB C [sq b ns] μ = .ok (tp (lowL ns)) μ := by
  refine ev_eq ?_
  unfold loweredB
  simp only [↓ev_out, ↓ev_sqM, ↓ev_foM, ↓ev_setM, ↓ev_asgM, ↓ev_putM, ↓ev_ifM, ↓ev_tvM, ↓ev_tnM, ↓ev_taM, ↓ev_toM, ↓ev_op2, ↓ev_gV, ↓ev_kM, ↓ev_rtM, ↓ev_exM, ↓ev_neM, ↓ev_notM, ↓ev_andM, ↓ev_orM, ↓ev_nxM, ↓ev_app, ↓ev_nil, ↓ev_cons, ↓ev_callF, ↓ev_callM, ↓ev_slM, ↓ev_ptM, ↓ev_asI, ↓ev_seM, ↓ev_itL, ↓ev_itT, ↓ev_mkT, ↓ev_mkL, ↓ev_lcM, ↓ev_dispM, ↓ev_lft, ↓thenK_nx, ↓thenK_rt, ↓thenK_bk, ↓thenK_ct, ↓tgK_s, ↓outK_rt, ↓outK_nx, ↓vK_s, ↓turnK_nx, ↓turnK_rt, ↓turnK_bk, ↓turnK_ct, ↓ev_asB, ↓ev_add, ↓ev_sub, ↓ev_mul, ↓ev_fdiv, ↓ev_mod, ↓ev_pow, ↓ev_neg, ↓ev_eqI, ↓ev_neI, ↓ev_lt, ↓ev_le, ↓ev_gt, ↓ev_ge, ↓ev_gcd, ↓ev_absI, ↓ev_maxI, ↓ev_minI, ↓ev_intI, ↓ev_intB, ↓ev_tupT, ↓ev_tupL, ↓ev_lstT, ↓ev_lstL, ↓ev_lenT, ↓ev_lenL, ↓ev_catL, ↓ev_catT, ↓ev_ixT, ↓ev_ixL, ↓ev_slT, ↓ev_slL, ↓ev_isN, ↓ev_isNotN, ↓ev_zipTT, ↓ev_enumT, ↓ev_enumL, ↓ev_eqS, ↓ev_endI, ↓ev_endB, ↓ev_endN, ↓ev_endS, ↓ev_endTI, ↓ev_endLI, ↓ev_endTF, ↓ev_endLF, ↓ev_raiM, ↓ev_haM, ↓ev_fqM, ↓ev_lcG, ↓ev_mkR, startD, pick, setTg, setAll, wipeD, List.map_cons, List.map_nil, List.length_cons, List.length_nil, List.cons_append, List.nil_append, List.getElem?_cons_zero, List.getElem?_cons_succ, List.set_cons_zero, List.set_cons_succ, List.replicate_succ, List.replicate_zero, List.filterMap_cons, List.filterMap_nil, Nat.reduceAdd, Nat.reduceSub, Nat.reduceLeDiff, and_self, if_true, decide_eq_true_eq, true_and, and_true, List.set_nil, List.length_set, take_set, take_app, take_self]
  refine (ev_of hC).mpr ?_
  simp only [↓ev_out, ↓ev_sqM, ↓ev_foM, ↓ev_setM, ↓ev_asgM, ↓ev_putM, ↓ev_ifM, ↓ev_tvM, ↓ev_tnM, ↓ev_taM, ↓ev_toM, ↓ev_op2, ↓ev_gV, ↓ev_kM, ↓ev_rtM, ↓ev_exM, ↓ev_neM, ↓ev_notM, ↓ev_andM, ↓ev_orM, ↓ev_nxM, ↓ev_app, ↓ev_nil, ↓ev_cons, ↓ev_callF, ↓ev_callM, ↓ev_slM, ↓ev_ptM, ↓ev_asI, ↓ev_seM, ↓ev_itL, ↓ev_itT, ↓ev_mkT, ↓ev_mkL, ↓ev_lcM, ↓ev_dispM, ↓ev_lft, ↓thenK_nx, ↓thenK_rt, ↓thenK_bk, ↓thenK_ct, ↓tgK_s, ↓outK_rt, ↓outK_nx, ↓vK_s, ↓turnK_nx, ↓turnK_rt, ↓turnK_bk, ↓turnK_ct, ↓ev_asB, ↓ev_add, ↓ev_sub, ↓ev_mul, ↓ev_fdiv, ↓ev_mod, ↓ev_pow, ↓ev_neg, ↓ev_eqI, ↓ev_neI, ↓ev_lt, ↓ev_le, ↓ev_gt, ↓ev_ge, ↓ev_gcd, ↓ev_absI, ↓ev_maxI, ↓ev_minI, ↓ev_intI, ↓ev_intB, ↓ev_tupT, ↓ev_tupL, ↓ev_lstT, ↓ev_lstL, ↓ev_lenT, ↓ev_lenL, ↓ev_catL, ↓ev_catT, ↓ev_ixT, ↓ev_ixL, ↓ev_slT, ↓ev_slL, ↓ev_isN, ↓ev_isNotN, ↓ev_zipTT, ↓ev_enumT, ↓ev_enumL, ↓ev_eqS, ↓ev_endI, ↓ev_endB, ↓ev_endN, ↓ev_endS, ↓ev_endTI, ↓ev_endLI, ↓ev_endTF, ↓ev_endLF, ↓ev_raiM, ↓ev_haM, ↓ev_fqM, ↓ev_lcG, ↓ev_mkR, startD, pick, setTg, setAll, wipeD, List.map_cons, List.map_nil, List.length_cons, List.length_nil, List.cons_append, List.nil_append, List.getElem?_cons_zero, List.getElem?_cons_succ, List.set_cons_zero, List.set_cons_succ, List.replicate_succ, List.replicate_zero, List.filterMap_cons, List.filterMap_nil, Nat.reduceAdd, Nat.reduceSub, Nat.reduceLeDiff, and_self, if_true, decide_eq_true_eq, true_and, and_true, List.set_nil, List.length_set, take_set, take_app, take_self]
  have hg := gcdL_bound BB_pos ns hb
  unfold lowL
  by_cases h : gcdL ns < 2
  · have h' : ¬ (1 : Int) < (gcdL ns : Int) := by omega
    simp only [if_pos h, h', if_false, ↓ev_out, ↓ev_sqM, ↓ev_foM, ↓ev_setM, ↓ev_asgM, ↓ev_putM, ↓ev_ifM, ↓ev_tvM, ↓ev_tnM, ↓ev_taM, ↓ev_toM, ↓ev_op2, ↓ev_gV, ↓ev_kM, ↓ev_rtM, ↓ev_exM, ↓ev_neM, ↓ev_notM, ↓ev_andM, ↓ev_orM, ↓ev_nxM, ↓ev_app, ↓ev_nil, ↓ev_cons, ↓ev_callF, ↓ev_callM, ↓ev_slM, ↓ev_ptM, ↓ev_asI, ↓ev_seM, ↓ev_itL, ↓ev_itT, ↓ev_mkT, ↓ev_mkL, ↓ev_lcM, ↓ev_dispM, ↓ev_lft, ↓thenK_nx, ↓thenK_rt, ↓thenK_bk, ↓thenK_ct, ↓tgK_s, ↓outK_rt, ↓outK_nx, ↓vK_s, ↓turnK_nx, ↓turnK_rt, ↓turnK_bk, ↓turnK_ct, ↓ev_asB, ↓ev_add, ↓ev_sub, ↓ev_mul, ↓ev_fdiv, ↓ev_mod, ↓ev_pow, ↓ev_neg, ↓ev_eqI, ↓ev_neI, ↓ev_lt, ↓ev_le, ↓ev_gt, ↓ev_ge, ↓ev_gcd, ↓ev_absI, ↓ev_maxI, ↓ev_minI, ↓ev_intI, ↓ev_intB, ↓ev_tupT, ↓ev_tupL, ↓ev_lstT, ↓ev_lstL, ↓ev_lenT, ↓ev_lenL, ↓ev_catL, ↓ev_catT, ↓ev_ixT, ↓ev_ixL, ↓ev_slT, ↓ev_slL, ↓ev_isN, ↓ev_isNotN, ↓ev_zipTT, ↓ev_enumT, ↓ev_enumL, ↓ev_eqS, ↓ev_endI, ↓ev_endB, ↓ev_endN, ↓ev_endS, ↓ev_endTI, ↓ev_endLI, ↓ev_endTF, ↓ev_endLF, ↓ev_raiM, ↓ev_haM, ↓ev_fqM, ↓ev_lcG, ↓ev_mkR, startD, pick, setTg, setAll, wipeD, List.map_cons, List.map_nil, List.length_cons, List.length_nil, List.cons_append, List.nil_append, List.getElem?_cons_zero, List.getElem?_cons_succ, List.set_cons_zero, List.set_cons_succ, List.replicate_succ, List.replicate_zero, List.filterMap_cons, List.filterMap_nil, Nat.reduceAdd, Nat.reduceSub, Nat.reduceLeDiff, and_self, if_true, decide_eq_true_eq, true_and, and_true, List.set_nil, List.length_set, take_set, take_app, take_self]
    cases b <;> (unfold sq; simp only [↓ev_out, ↓ev_sqM, ↓ev_foM, ↓ev_setM, ↓ev_asgM, ↓ev_putM, ↓ev_ifM, ↓ev_tvM, ↓ev_tnM, ↓ev_taM, ↓ev_toM, ↓ev_op2, ↓ev_gV, ↓ev_kM, ↓ev_rtM, ↓ev_exM, ↓ev_neM, ↓ev_notM, ↓ev_andM, ↓ev_orM, ↓ev_nxM, ↓ev_app, ↓ev_nil, ↓ev_cons, ↓ev_callF, ↓ev_callM, ↓ev_slM, ↓ev_ptM, ↓ev_asI, ↓ev_seM, ↓ev_itL, ↓ev_itT, ↓ev_mkT, ↓ev_mkL, ↓ev_lcM, ↓ev_dispM, ↓ev_lft, ↓thenK_nx, ↓thenK_rt, ↓thenK_bk, ↓thenK_ct, ↓tgK_s, ↓outK_rt, ↓outK_nx, ↓vK_s, ↓turnK_nx, ↓turnK_rt, ↓turnK_bk, ↓turnK_ct, ↓ev_asB, ↓ev_add, ↓ev_sub, ↓ev_mul, ↓ev_fdiv, ↓ev_mod, ↓ev_pow, ↓ev_neg, ↓ev_eqI, ↓ev_neI, ↓ev_lt, ↓ev_le, ↓ev_gt, ↓ev_ge, ↓ev_gcd, ↓ev_absI, ↓ev_maxI, ↓ev_minI, ↓ev_intI, ↓ev_intB, ↓ev_tupT, ↓ev_tupL, ↓ev_lstT, ↓ev_lstL, ↓ev_lenT, ↓ev_lenL, ↓ev_catL, ↓ev_catT, ↓ev_ixT, ↓ev_ixL, ↓ev_slT, ↓ev_slL, ↓ev_isN, ↓ev_isNotN, ↓ev_zipTT, ↓ev_enumT, ↓ev_enumL, ↓ev_eqS, ↓ev_endI, ↓ev_endB, ↓ev_endN, ↓ev_endS, ↓ev_endTI, ↓ev_endLI, ↓ev_endTF, ↓ev_endLF, ↓ev_raiM, ↓ev_haM, ↓ev_fqM, ↓ev_lcG, ↓ev_mkR, startD, pick, setTg, setAll, wipeD, List.map_cons, List.map_nil, List.length_cons, List.length_nil, List.cons_append, List.nil_append, List.getElem?_cons_zero, List.getElem?_cons_succ, List.set_cons_zero, List.set_cons_succ, List.replicate_succ, List.replicate_zero, List.filterMap_cons, List.filterMap_nil, Nat.reduceAdd, Nat.reduceSub, Nat.reduceLeDiff, and_self, if_true, decide_eq_true_eq, true_and, and_true, List.set_nil, List.length_set, take_set, take_app, take_self])
  · have h' : (1 : Int) < (gcdL ns : Int) := by omega
    simp only [if_neg h, h', if_true, ↓ev_out, ↓ev_sqM, ↓ev_foM, ↓ev_setM, ↓ev_asgM, ↓ev_putM, ↓ev_ifM, ↓ev_tvM, ↓ev_tnM, ↓ev_taM, ↓ev_toM, ↓ev_op2, ↓ev_gV, ↓ev_kM, ↓ev_rtM, ↓ev_exM, ↓ev_neM, ↓ev_notM, ↓ev_andM, ↓ev_orM, ↓ev_nxM, ↓ev_app, ↓ev_nil, ↓ev_cons, ↓ev_callF, ↓ev_callM, ↓ev_slM, ↓ev_ptM, ↓ev_asI, ↓ev_seM, ↓ev_itL, ↓ev_itT, ↓ev_mkT, ↓ev_mkL, ↓ev_lcM, ↓ev_dispM, ↓ev_lft, ↓thenK_nx, ↓thenK_rt, ↓thenK_bk, ↓thenK_ct, ↓tgK_s, ↓outK_rt, ↓outK_nx, ↓vK_s, ↓turnK_nx, ↓turnK_rt, ↓turnK_bk, ↓turnK_ct, ↓ev_asB, ↓ev_add, ↓ev_sub, ↓ev_mul, ↓ev_fdiv, ↓ev_mod, ↓ev_pow, ↓ev_neg, ↓ev_eqI, ↓ev_neI, ↓ev_lt, ↓ev_le, ↓ev_gt, ↓ev_ge, ↓ev_gcd, ↓ev_absI, ↓ev_maxI, ↓ev_minI, ↓ev_intI, ↓ev_intB, ↓ev_tupT, ↓ev_tupL, ↓ev_lstT, ↓ev_lstL, ↓ev_lenT, ↓ev_lenL, ↓ev_catL, ↓ev_catT, ↓ev_ixT, ↓ev_ixL, ↓ev_slT, ↓ev_slL, ↓ev_isN, ↓ev_isNotN, ↓ev_zipTT, ↓ev_enumT, ↓ev_enumL, ↓ev_eqS, ↓ev_endI, ↓ev_endB, ↓ev_endN, ↓ev_endS, ↓ev_endTI, ↓ev_endLI, ↓ev_endTF, ↓ev_endLF, ↓ev_raiM, ↓ev_haM, ↓ev_fqM, ↓ev_lcG, ↓ev_mkR, startD, pick, setTg, setAll, wipeD, List.map_cons, List.map_nil, List.length_cons, List.length_nil, List.cons_append, List.nil_append, List.getElem?_cons_zero, List.getElem?_cons_succ, List.set_cons_zero, List.set_cons_succ, List.replicate_succ, List.replicate_zero, List.filterMap_cons, List.filterMap_nil, Nat.reduceAdd, Nat.reduceSub, Nat.reduceLeDiff, and_self, if_true, decide_eq_true_eq, true_and, and_true, List.set_nil, List.length_set, take_set, take_app, take_self]
    have lc : ∀ ρ : Rho, ρ = [some (sq b ns), some (.int (gcdL ns : Int)), none] → lcD (.v 2) (kM true) (op2 (gV 2) (gV 1) fdivD) (ns.map .int) ρ μ = .ok (ns.map fun x => .int (x.fdiv (gcdL ns : Int))) μ := fun ρ e => by
      subst e
      refine lc_ints (fun x => .int (x.fdiv (gcdL ns : Int))) fun x hx => ?_
      simp only [↓ev_out, ↓ev_sqM, ↓ev_foM, ↓ev_setM, ↓ev_asgM, ↓ev_putM, ↓ev_ifM, ↓ev_tvM, ↓ev_tnM, ↓ev_taM, ↓ev_toM, ↓ev_op2, ↓ev_gV, ↓ev_kM, ↓ev_rtM, ↓ev_exM, ↓ev_neM, ↓ev_notM, ↓ev_andM, ↓ev_orM, ↓ev_nxM, ↓ev_app, ↓ev_nil, ↓ev_cons, ↓ev_callF, ↓ev_callM, ↓ev_slM, ↓ev_ptM, ↓ev_asI, ↓ev_seM, ↓ev_itL, ↓ev_itT, ↓ev_mkT, ↓ev_mkL, ↓ev_lcM, ↓ev_dispM, ↓ev_lft, ↓thenK_nx, ↓thenK_rt, ↓thenK_bk, ↓thenK_ct, ↓tgK_s, ↓outK_rt, ↓outK_nx, ↓vK_s, ↓turnK_nx, ↓turnK_rt, ↓turnK_bk, ↓turnK_ct, ↓ev_asB, ↓ev_add, ↓ev_sub, ↓ev_mul, ↓ev_fdiv, ↓ev_mod, ↓ev_pow, ↓ev_neg, ↓ev_eqI, ↓ev_neI, ↓ev_lt, ↓ev_le, ↓ev_gt, ↓ev_ge, ↓ev_gcd, ↓ev_absI, ↓ev_maxI, ↓ev_minI, ↓ev_intI, ↓ev_intB, ↓ev_tupT, ↓ev_tupL, ↓ev_lstT, ↓ev_lstL, ↓ev_lenT, ↓ev_lenL, ↓ev_catL, ↓ev_catT, ↓ev_ixT, ↓ev_ixL, ↓ev_slT, ↓ev_slL, ↓ev_isN, ↓ev_isNotN, ↓ev_zipTT, ↓ev_enumT, ↓ev_enumL, ↓ev_eqS, ↓ev_endI, ↓ev_endB, ↓ev_endN, ↓ev_endS, ↓ev_endTI, ↓ev_endLI, ↓ev_endTF, ↓ev_endLF, ↓ev_raiM, ↓ev_haM, ↓ev_fqM, ↓ev_lcG, ↓ev_mkR, startD, pick, setTg, setAll, wipeD, List.map_cons, List.map_nil, List.length_cons, List.length_nil, List.cons_append, List.nil_append, List.getElem?_cons_zero, List.getElem?_cons_succ, List.set_cons_zero, List.set_cons_succ, List.replicate_succ, List.replicate_zero, List.filterMap_cons, List.filterMap_nil, Nat.reduceAdd, Nat.reduceSub, Nat.reduceLeDiff, and_self, if_true, decide_eq_true_eq, true_and, and_true, List.set_nil, List.length_set, take_set, take_app, take_self]
      exact divOk_BB (by omega) hg
    cases b with
    | true =>
      unfold sq
      simp only [↓ev_out, ↓ev_sqM, ↓ev_foM, ↓ev_setM, ↓ev_asgM, ↓ev_putM, ↓ev_ifM, ↓ev_tvM, ↓ev_tnM, ↓ev_taM, ↓ev_toM, ↓ev_op2, ↓ev_gV, ↓ev_kM, ↓ev_rtM, ↓ev_exM, ↓ev_neM, ↓ev_notM, ↓ev_andM, ↓ev_orM, ↓ev_nxM, ↓ev_app, ↓ev_nil, ↓ev_cons, ↓ev_callF, ↓ev_callM, ↓ev_slM, ↓ev_ptM, ↓ev_asI, ↓ev_seM, ↓ev_itL, ↓ev_itT, ↓ev_mkT, ↓ev_mkL, ↓ev_lcM, ↓ev_dispM, ↓ev_lft, ↓thenK_nx, ↓thenK_rt, ↓thenK_bk, ↓thenK_ct, ↓tgK_s, ↓outK_rt, ↓outK_nx, ↓vK_s, ↓turnK_nx, ↓turnK_rt, ↓turnK_bk, ↓turnK_ct, ↓ev_asB, ↓ev_add, ↓ev_sub, ↓ev_mul, ↓ev_fdiv, ↓ev_mod, ↓ev_pow, ↓ev_neg, ↓ev_eqI, ↓ev_neI, ↓ev_lt, ↓ev_le, ↓ev_gt, ↓ev_ge, ↓ev_gcd, ↓ev_absI, ↓ev_maxI, ↓ev_minI, ↓ev_intI, ↓ev_intB, ↓ev_tupT, ↓ev_tupL, ↓ev_lstT, ↓ev_lstL, ↓ev_lenT, ↓ev_lenL, ↓ev_catL, ↓ev_catT, ↓ev_ixT, ↓ev_ixL, ↓ev_slT, ↓ev_slL, ↓ev_isN, ↓ev_isNotN, ↓ev_zipTT, ↓ev_enumT, ↓ev_enumL, ↓ev_eqS, ↓ev_endI, ↓ev_endB, ↓ev_endN, ↓ev_endS, ↓ev_endTI, ↓ev_endLI, ↓ev_endTF, ↓ev_endLF, ↓ev_raiM, ↓ev_haM, ↓ev_fqM, ↓ev_lcG, ↓ev_mkR, startD, pick, setTg, setAll, wipeD, List.map_cons, List.map_nil, List.length_cons, List.length_nil, List.cons_append, List.nil_append, List.getElem?_cons_zero, List.getElem?_cons_succ, List.set_cons_zero, List.set_cons_succ, List.replicate_succ, List.replicate_zero, List.filterMap_cons, List.filterMap_nil, Nat.reduceAdd, Nat.reduceSub, Nat.reduceLeDiff, and_self, if_true, decide_eq_true_eq, true_and, and_true, List.set_nil, List.length_set, take_set, take_app, take_self]
      refine (ev_of (lc _ rfl)).mpr ?_
      simp only [List.length_map, if_pos (show ns.length ≤ 1000000 by omega), ↓ev_out, ↓ev_sqM, ↓ev_foM, ↓ev_setM, ↓ev_asgM, ↓ev_putM, ↓ev_ifM, ↓ev_tvM, ↓ev_tnM, ↓ev_taM, ↓ev_toM, ↓ev_op2, ↓ev_gV, ↓ev_kM, ↓ev_rtM, ↓ev_exM, ↓ev_neM, ↓ev_notM, ↓ev_andM, ↓ev_orM, ↓ev_nxM, ↓ev_app, ↓ev_nil, ↓ev_cons, ↓ev_callF, ↓ev_callM, ↓ev_slM, ↓ev_ptM, ↓ev_asI, ↓ev_seM, ↓ev_itL, ↓ev_itT, ↓ev_mkT, ↓ev_mkL, ↓ev_lcM, ↓ev_dispM, ↓ev_lft, ↓thenK_nx, ↓thenK_rt, ↓thenK_bk, ↓thenK_ct, ↓tgK_s, ↓outK_rt, ↓outK_nx, ↓vK_s, ↓turnK_nx, ↓turnK_rt, ↓turnK_bk, ↓turnK_ct, ↓ev_asB, ↓ev_add, ↓ev_sub, ↓ev_mul, ↓ev_fdiv, ↓ev_mod, ↓ev_pow, ↓ev_neg, ↓ev_eqI, ↓ev_neI, ↓ev_lt, ↓ev_le, ↓ev_gt, ↓ev_ge, ↓ev_gcd, ↓ev_absI, ↓ev_maxI, ↓ev_minI, ↓ev_intI, ↓ev_intB, ↓ev_tupT, ↓ev_tupL, ↓ev_lstT, ↓ev_lstL, ↓ev_lenT, ↓ev_lenL, ↓ev_catL, ↓ev_catT, ↓ev_ixT, ↓ev_ixL, ↓ev_slT, ↓ev_slL, ↓ev_isN, ↓ev_isNotN, ↓ev_zipTT, ↓ev_enumT, ↓ev_enumL, ↓ev_eqS, ↓ev_endI, ↓ev_endB, ↓ev_endN, ↓ev_endS, ↓ev_endTI, ↓ev_endLI, ↓ev_endTF, ↓ev_endLF, ↓ev_raiM, ↓ev_haM, ↓ev_fqM, ↓ev_lcG, ↓ev_mkR, startD, pick, setTg, setAll, wipeD, List.map_cons, List.map_nil, List.length_cons, List.length_nil, List.cons_append, List.nil_append, List.getElem?_cons_zero, List.getElem?_cons_succ, List.set_cons_zero, List.set_cons_succ, List.replicate_succ, List.replicate_zero, List.filterMap_cons, List.filterMap_nil, Nat.reduceAdd, Nat.reduceSub, Nat.reduceLeDiff, and_self, if_true, decide_eq_true_eq, true_and, and_true, List.set_nil, List.length_set, take_set, take_app, take_self]
      show D.tup _ = D.tup (List.map D.int (List.map _ ns))
      rw [List.map_map]
      rfl
    | false =>
      unfold sq
      simp only [↓ev_out, ↓ev_sqM, ↓ev_foM, ↓ev_setM, ↓ev_asgM, ↓ev_putM, ↓ev_ifM, ↓ev_tvM, ↓ev_tnM, ↓ev_taM, ↓ev_toM, ↓ev_op2, ↓ev_gV, ↓ev_kM, ↓ev_rtM, ↓ev_exM, ↓ev_neM, ↓ev_notM, ↓ev_andM, ↓ev_orM, ↓ev_nxM, ↓ev_app, ↓ev_nil, ↓ev_cons, ↓ev_callF, ↓ev_callM, ↓ev_slM, ↓ev_ptM, ↓ev_asI, ↓ev_seM, ↓ev_itL, ↓ev_itT, ↓ev_mkT, ↓ev_mkL, ↓ev_lcM, ↓ev_dispM, ↓ev_lft, ↓thenK_nx, ↓thenK_rt, ↓thenK_bk, ↓thenK_ct, ↓tgK_s, ↓outK_rt, ↓outK_nx, ↓vK_s, ↓turnK_nx, ↓turnK_rt, ↓turnK_bk, ↓turnK_ct, ↓ev_asB, ↓ev_add, ↓ev_sub, ↓ev_mul, ↓ev_fdiv, ↓ev_mod, ↓ev_pow, ↓ev_neg, ↓ev_eqI, ↓ev_neI, ↓ev_lt, ↓ev_le, ↓ev_gt, ↓ev_ge, ↓ev_gcd, ↓ev_absI, ↓ev_maxI, ↓ev_minI, ↓ev_intI, ↓ev_intB, ↓ev_tupT, ↓ev_tupL, ↓ev_lstT, ↓ev_lstL, ↓ev_lenT, ↓ev_lenL, ↓ev_catL, ↓ev_catT, ↓ev_ixT, ↓ev_ixL, ↓ev_slT, ↓ev_slL, ↓ev_isN, ↓ev_isNotN, ↓ev_zipTT, ↓ev_enumT, ↓ev_enumL, ↓ev_eqS, ↓ev_endI, ↓ev_endB, ↓ev_endN, ↓ev_endS, ↓ev_endTI, ↓ev_endLI, ↓ev_endTF, ↓ev_endLF, ↓ev_raiM, ↓ev_haM, ↓ev_fqM, ↓ev_lcG, ↓ev_mkR, startD, pick, setTg, setAll, wipeD, List.map_cons, List.map_nil, List.length_cons, List.length_nil, List.cons_append, List.nil_append, List.getElem?_cons_zero, List.getElem?_cons_succ, List.set_cons_zero, List.set_cons_succ, List.replicate_succ, List.replicate_zero, List.filterMap_cons, List.filterMap_nil, Nat.reduceAdd, Nat.reduceSub, Nat.reduceLeDiff, and_self, if_true, decide_eq_true_eq, true_and, and_true, List.set_nil, List.length_set, take_set, take_app, take_self]
      refine (ev_of (lc _ rfl)).mpr ?_
      simp only [List.length_map, if_pos (show ns.length ≤ 1000000 by omega), ↓ev_out, ↓ev_sqM, ↓ev_foM, ↓ev_setM, ↓ev_asgM, ↓ev_putM, ↓ev_ifM, ↓ev_tvM, ↓ev_tnM, ↓ev_taM, ↓ev_toM, ↓ev_op2, ↓ev_gV, ↓ev_kM, ↓ev_rtM, ↓ev_exM, ↓ev_neM, ↓ev_notM, ↓ev_andM, ↓ev_orM, ↓ev_nxM, ↓ev_app, ↓ev_nil, ↓ev_cons, ↓ev_callF, ↓ev_callM, ↓ev_slM, ↓ev_ptM, ↓ev_asI, ↓ev_seM, ↓ev_itL, ↓ev_itT, ↓ev_mkT, ↓ev_mkL, ↓ev_lcM, ↓ev_dispM, ↓ev_lft, ↓thenK_nx, ↓thenK_rt, ↓thenK_bk, ↓thenK_ct, ↓tgK_s, ↓outK_rt, ↓outK_nx, ↓vK_s, ↓turnK_nx, ↓turnK_rt, ↓turnK_bk, ↓turnK_ct, ↓ev_asB, ↓ev_add, ↓ev_sub, ↓ev_mul, ↓ev_fdiv, ↓ev_mod, ↓ev_pow, ↓ev_neg, ↓ev_eqI, ↓ev_neI, ↓ev_lt, ↓ev_le, ↓ev_gt, ↓ev_ge, ↓ev_gcd, ↓ev_absI, ↓ev_maxI, ↓ev_minI, ↓ev_intI, ↓ev_intB, ↓ev_tupT, ↓ev_tupL, ↓ev_lstT, ↓ev_lstL, ↓ev_lenT, ↓ev_lenL, ↓ev_catL, ↓ev_catT, ↓ev_ixT, ↓ev_ixL, ↓ev_slT, ↓ev_slL, ↓ev_isN, ↓ev_isNotN, ↓ev_zipTT, ↓ev_enumT, ↓ev_enumL, ↓ev_eqS, ↓ev_endI, ↓ev_endB, ↓ev_endN, ↓ev_endS, ↓ev_endTI, ↓ev_endLI, ↓ev_endTF, ↓ev_endLF, ↓ev_raiM, ↓ev_haM, ↓ev_fqM, ↓ev_lcG, ↓ev_mkR, startD, pick, setTg, setAll, wipeD, List.map_cons, List.map_nil, List.length_cons, List.length_nil, List.cons_append, List.nil_append, List.getElem?_cons_zero, List.getElem?_cons_succ, List.set_cons_zero, List.set_cons_succ, List.replicate_succ, List.replicate_zero, List.filterMap_cons, List.filterMap_nil, Nat.reduceAdd, Nat.reduceSub, Nat.reduceLeDiff, and_self, if_true, decide_eq_true_eq, true_and, and_true, List.set_nil, List.length_set, take_set, take_app, take_self]
      show D.tup _ = D.tup (List.map D.int (List.map _ ns))
      rw [List.map_map]
      rfl
/-! ### 37. drawing in a comprehension -/
theorem rng1_ok {j : Nat} {μ : Mu} {K : List D → Mu → Prop} (h : j ≤ 1000000) : Ew NoX (rng1 [.int (j : Int)] μ) K ↔ K (rngD 0 j) μ := by
  show Ew NoX ((if rngOk (j : Int) then rt (rngD 0 (j : Int).toNat) else PX.stk) μ) K ↔ _
  have e : rngOk (j : Int) = true := by
    unfold rngOk
    simp only [Bool.and_eq_true, decide_eq_true_eq]
    omega
  rw [if_pos e, Int.toNat_natCast]
  exact Iff.rfl
theorem rngD_length (lo : Int) (n : Nat) : (rngD lo n).length = n := by simp [rngD]
theorem lc_st {i j N cap : Nat} {me : Rho → M D} {ρ : Rho} {Q : D → Prop} : ∀ (ds : List D), (∀ d ∈ ds, ∀ c μ, c + N ≤ cap → MAt j c μ → Ew NoX (me (ρ.set i (some d)) μ) fun y μ' => Q y ∧ Sj j μ μ' ∧ MAt j (c + N) μ') →
    ∀ (c : Nat) (μ : Mu), c + N * ds.length ≤ cap → MAt j c μ → Ew NoX (lcD (.v i) (kM true) me ds ρ μ) fun ys μ' => ys.length = ds.length ∧ (∀ y ∈ ys, Q y) ∧ Sj j μ μ' ∧ MAt j (c + N * ds.length) μ'
  | [], _, c, μ, _, m => ⟨rfl, fun y hy => (List.not_mem_nil hy).elim, Sj.refl j μ, by simpa using m⟩
  | d :: ds, h, c, μ, hc, m => by
    have hN : N * (d :: ds).length = N + N * ds.length := by rw [List.length_cons, Nat.mul_succ]; omega
    show Ew NoX (bd (lft (some (ρ.set i (some d)))) (fun ρ1 => bd (kM true ρ1) fun b => if b = true then bd (me ρ1) fun y => bd (lcD (.v i) (kM true) me ds ρ) fun ys => rt (y :: ys) else lcD (.v i) (kM true) me ds ρ) μ) _
    rw [ev_bd]
    show Ew NoX (bd (kM true (ρ.set i (some d))) _ μ) _
    rw [ev_bd]
    show Ew NoX (bd (me (ρ.set i (some d))) _ μ) _
    rw [ev_bd]
    refine ev_imp (h d List.mem_cons_self c μ (by omega) m) fun y μ1 ⟨q1, s1, m1⟩ => ev_bd.mpr (ev_imp (lc_st ds (fun x hx => h x (List.mem_cons_of_mem _ hx)) (c + N) μ1 (by omega) m1) fun ys μ2 ⟨q2, q3, s2, m2⟩ => ?_)
    refine ⟨congrArg (· + 1) q2, fun z hz => ?_, s1.trans s2, ?_⟩
    · rcases List.mem_cons.mp hz with e | e
      · rw [e]; exact q1
      · exact q3 z e
    · have e : c + N * (d :: ds).length = c + N + N * ds.length := by omega
      rw [e]
      exact m2
/-- a list of data that are ints -/
theorem ints_of {Q : Int → Prop} : ∀ {ys : List D}, (∀ y ∈ ys, ∃ n : Int, y = .int n ∧ Q n) → ∃ ns : List Int, ys = ns.map .int ∧ ∀ n ∈ ns, Q n
  | [], _ => ⟨[], rfl, fun n h => (List.not_mem_nil h).elim⟩
  | y :: ys, h => by
    obtain ⟨n, e, q⟩ := h y List.mem_cons_self
    obtain ⟨ns, e2, q2⟩ := ints_of fun z hz => h z (List.mem_cons_of_mem _ hz)
    refine ⟨n :: ns, by rw [e, e2]; rfl, fun m hm => ?_⟩
    rcases List.mem_cons.mp hm with z | z
    · rw [z]; exact q
    · exact q2 m z
theorem mulL0 {m : Nat} {x : Int} {μ : Mu} {K : D → Mu → Prop} (h : m ≤ 100000) : Ew NoX (mulD (.lst [.int x]) (.int (m : Int)) μ) K ↔ K (.lst ((List.replicate m x).map .int)) μ := by
  show Ew NoX ((if (m : Int) ≤ 100000 ∧ -100000 ≤ (m : Int) ∧ [D.int x].length * (m : Int).toNat ≤ 1000000 then rt (.lst (List.replicate (m : Int).toNat [D.int x]).flatten) else PX.stk : M D) μ) K ↔ _
  rw [if_pos ⟨by omega, by omega, by rw [Int.toNat_natCast]; show 1 * m ≤ 1000000; omega⟩, Int.toNat_natCast]
  have e : (List.replicate m [D.int x]).flatten = (List.replicate m x).map .int := by
    rw [List.map_replicate]
    induction m with
    | zero => rfl
    | succ m ih => rw [List.replicate_succ, List.flatten_cons, ih (by omega), List.replicate_succ]; rfl
  rw [e]
  exact Iff.rfl
theorem split_last {α : Type} {xs : List α} {n : Nat} (h : xs.length = n + 1) : ∃ ys y, xs = ys ++ [y] ∧ ys.length = n := by
  have hne : xs ≠ [] := fun z => by rw [z] at h; cases h
  refine ⟨xs.dropLast, xs.getLast hne, (List.dropLast_concat_getLast hne).symm, by rw [List.length_dropLast, h]; rfl⟩
/-- the lowered of a row with a last one above 0 -/
theorem lowL_last {B : Nat} {xs : List Int} {w : Int} (hw : 0 < w) (hb : ∀ x ∈ xs ++ [w], x.natAbs < B) : ∃ ys v, lowL (xs ++ [w]) = ys ++ [v] ∧ ys.length = xs.length ∧ 0 < v ∧ ∀ x ∈ ys ++ [v], x.natAbs < B := by
  have hl : (lowL (xs ++ [w])).length = xs.length + 1 := by rw [lowL_len]; simp
  obtain ⟨ys, v, e, h⟩ := split_last hl
  obtain ⟨g, hg, e2⟩ := lowL_scale (xs ++ [w])
  refine ⟨ys, v, e, h, ?_, fun x hx => lowL_bound hb x (by rw [e]; exact hx)⟩
  rw [e, List.map_append] at e2
  have e3 := List.append_inj_right' e2 rfl
  have e4 : w = g * v := by simpa using e3
  rcases Int.lt_trichotomy v 0 with z | z | z
  · have := Int.mul_neg_of_pos_of_neg hg z; omega
  · rw [z] at e4; simp at e4; omega
  · exact z
end PX
namespace K00
open PySem L2 PX
local instance : Tabc := ⟨[]⟩
def top (i : Nat) : Stmt := PySem.Challenge.pw_onesolid_k00_fractions_and_errors.main.body.getD i (.Pass ⟨0, 0, 0, 0⟩)
def r0 : Row := ⟨"is_integer", top 21, ["value"], ["value"], [⟨1, [], [0]⟩], [], false⟩
def r1 : Row := ⟨"sign_of", top 22, ["number"], ["number"], [⟨1, [], [0]⟩], [], false⟩
def r2 : Row := ⟨"check_fraction", top 23, ["value", "top", "bottom"], ["value"], [⟨1, [], [0]⟩, ⟨0, ["value"], [0]⟩], [], false⟩
def r3 : Row := ⟨"lowest", top 24, ["top", "bottom", "part"], ["top", "bottom"], [⟨2, [], [0, 1]⟩, ⟨0, ["top", "bottom"], [0, 1]⟩], [], false⟩
def r4 : Row := ⟨"added", top 25, ["one", "other"], ["one", "other"], [⟨2, [], [0, 1]⟩, ⟨0, ["one", "other"], [0, 1]⟩], [], false⟩
def r5 : Row := ⟨"minus", top 26, ["one", "other"], ["one", "other"], [⟨2, [], [0, 1]⟩, ⟨0, ["other", "one"], [1, 0]⟩], [], false⟩
def r6 : Row := ⟨"times", top 27, ["one", "other"], ["one", "other"], [⟨2, [], [0, 1]⟩, ⟨0, ["other", "one"], [1, 0]⟩], [], false⟩
def r7 : Row := ⟨"divided", top 28, ["one", "other"], ["one", "other"], [⟨2, [], [0, 1]⟩, ⟨0, ["one", "other"], [0, 1]⟩], [], false⟩
def r8 : Row := ⟨"halfway", top 29, ["one", "other"], ["one", "other"], [⟨2, [], [0, 1]⟩, ⟨0, ["one", "other"], [0, 1]⟩], [], false⟩
def r9 : Row := ⟨"compared", top 30, ["one", "other"], ["one", "other"], [⟨2, [], [0, 1]⟩, ⟨0, ["other", "one"], [1, 0]⟩], [], false⟩
def r10 : Row := ⟨"_law_begun", top 32, ["_law_script", "_law_k", "_law_cells", "_law_great", "_law_seed", "_law_cell"], ["_law_script", "_law_k"], [⟨2, [], [0, 1]⟩], [], false⟩
def r11 : Row := ⟨"_law_draw", top 33, ["_law_m", "_law_bound", "_law_spot", "_law_cell", "_law_blend", "_law_found", "_law_cells", "_law_extra"], ["_law_m", "_law_bound"], [⟨2, [], [0, 1]⟩], [], false⟩
def r12 : Row := ⟨"_law_like", top 34, ["_law_told", "_law_due"], ["_law_told", "_law_due"], [⟨2, [], [0, 1]⟩], [], false⟩
def r13 : Row := ⟨"_law_sign", top 35, ["_law_number"], ["_law_number"], [⟨1, [], [0]⟩], [], false⟩
def r14 : Row := ⟨"_law_common", top 36, ["_law_numbers", "_law_found", "_law_number", "_law_remnant"], ["_law_numbers"], [⟨1, [], [0]⟩], [], false⟩
def r15 : Row := ⟨"_law_lowered", top 37, ["_law_numbers", "_law_whole", "_law_number"], ["_law_numbers"], [⟨1, [], [0]⟩], [], false⟩
def r16 : Row := ⟨"_law_fraction", top 38, ["_law_top_so", "_law_bottom_so", "_law_found"], ["_law_top_so", "_law_bottom_so"], [⟨2, [], [0, 1]⟩], [], false⟩
def r17 : Row := ⟨"_law_integer", top 39, ["_law_m", "_law_found", "_law_turn"], ["_law_m"], [⟨1, [], [0]⟩], [], false⟩
def r18 : Row := ⟨"_law_pair", top 41, ["_law_m", "_law_bottom_so"], ["_law_m"], [⟨1, [], [0]⟩], [], false⟩
def r19 : Row := ⟨"_law_two_right", top 42, ["_law_one_so", "_law_other_so", "_law_due", "_law_a", "_law_b", "_law_c", "_law_d"], ["_law_one_so", "_law_other_so"], [⟨2, [], [0, 1]⟩], [], true⟩
def r20 : Row := ⟨"_law_lowest_right", top 43, ["_law_m", "_law_due", "_law_pair_here", "_law_value_so", "_law_top_so", "_law_bottom_so"], ["_law_m"], [⟨1, [], [0]⟩], [], true⟩
def r21 : Row := ⟨"_law_hand_right", top 44, ["_law_odd", "_law_pair_here", "_law_told"], [], [⟨0, [], []⟩], ["_law_told"], true⟩
def r22 : Row := ⟨"_law_kinds", top 45, ["_law_error", "_law_found", "_law_word_so", "_law_is_so"], ["_law_error"], [⟨1, [], [0]⟩], [], false⟩
def r23 : Row := ⟨"_law_errors_right", top 46, ["_law_some", "_law_told", "_law_error", "_law_word_so"], [], [⟨0, [], []⟩], [], false⟩
def r24 : Row := ⟨"law", top 47, ["_law_script", "_law_k", "_law_m", "_law_turn"], ["_law_script"], [⟨1, [], [0]⟩], [], false⟩
def h0 : HRow := ⟨"_law_heard", top 40, ["_law_call", "caught"], "_law_call", [("NotNumber", (some "caught"), (.tup [.con (.str "number"), .fld "value"]))]⟩
def hd0 : List (Str × HX) := [("NotNumber", (.tup [.con (.str "number"), .fld "value"]))]
def tab : List Row := [r0, r1, r2, r3, r4, r5, r6, r7, r8, r9, r10, r11, r12, r13, r14, r15, r16, r17, r18, r19, r20, r21, r22, r23, r24]
def bis : List (Str × String) := [("gcd", "math.gcd")]
def cl : List Cls := [⟨"SolidError", ["SolidError"], []⟩, ⟨"NotNumber", ["NotNumber", "SolidError"], ["value"]⟩, ⟨"NotRow", ["NotRow", "SolidError"], ["place"]⟩, ⟨"NotPoint", ["NotPoint", "SolidError"], ["place"]⟩, ⟨"NotFormula", ["NotFormula", "SolidError"], ["path"]⟩, ⟨"NotText", ["NotText", "SolidError"], ["line", "word"]⟩, ⟨"NotForm", ["NotForm", "SolidError"], ["word"]⟩, ⟨"NotSystem", ["NotSystem", "SolidError"], ["number"]⟩, ⟨"NotMap", ["NotMap", "SolidError"], []⟩, ⟨"NotMesh", ["NotMesh", "SolidError"], ["word"]⟩, ⟨"NotPaper", ["NotPaper", "SolidError"], ["word"]⟩, ⟨"NotName", ["NotName", "SolidError"], ["name"]⟩, ⟨"NotHistory", ["NotHistory", "SolidError"], ["place"]⟩, ⟨"Unlike", ["Unlike", "SolidError"], []⟩, ⟨"Empty", ["Empty", "SolidError"], []⟩, ⟨"Endless", ["Endless", "SolidError"], []⟩, ⟨"Flat", ["Flat", "SolidError"], []⟩, ⟨"TooGreat", ["TooGreat", "SolidError"], ["most"]⟩]
def cs : List (Str × D) := []
def T : Txt := ⟨tab, bis, cl, [h0], cs⟩
def ci1 : Stmt := initOf (top 3)
theorem ci1_ok : SupSt ci1 ["value"] := ⟨⟨_, _, _, _, _, _, _, _, _, rfl, (.cons .nil), rfl⟩, rfl, rfl, rfl, by decide +kernel, by decide +kernel, by decide +kernel, by decide +kernel, by decide +kernel, by decide, by decide +kernel, by decide +kernel, by decide, ⟨_, rfl, rfl⟩, fun kwd _ _ _ _ _ _ _ _ _ _ us hl => match kwd, us, hl with | true, [_], _ => .of_eq rfl | false, [_], _ => .of_eq rfl⟩
def ci2 : Stmt := initOf (top 4)
theorem ci2_ok : SupSt ci2 ["place"] := ⟨⟨_, _, _, _, _, _, _, _, _, rfl, (.cons .nil), rfl⟩, rfl, rfl, rfl, by decide +kernel, by decide +kernel, by decide +kernel, by decide +kernel, by decide +kernel, by decide, by decide +kernel, by decide +kernel, by decide, ⟨_, rfl, rfl⟩, fun kwd _ _ _ _ _ _ _ _ _ _ us hl => match kwd, us, hl with | true, [_], _ => .of_eq rfl | false, [_], _ => .of_eq rfl⟩
def ci3 : Stmt := initOf (top 5)
theorem ci3_ok : SupSt ci3 ["place"] := ⟨⟨_, _, _, _, _, _, _, _, _, rfl, (.cons .nil), rfl⟩, rfl, rfl, rfl, by decide +kernel, by decide +kernel, by decide +kernel, by decide +kernel, by decide +kernel, by decide, by decide +kernel, by decide +kernel, by decide, ⟨_, rfl, rfl⟩, fun kwd _ _ _ _ _ _ _ _ _ _ us hl => match kwd, us, hl with | true, [_], _ => .of_eq rfl | false, [_], _ => .of_eq rfl⟩
def ci4 : Stmt := initOf (top 6)
theorem ci4_ok : SupSt ci4 ["path"] := ⟨⟨_, _, _, _, _, _, _, _, _, rfl, (.cons .nil), rfl⟩, rfl, rfl, rfl, by decide +kernel, by decide +kernel, by decide +kernel, by decide +kernel, by decide +kernel, by decide, by decide +kernel, by decide +kernel, by decide, ⟨_, rfl, rfl⟩, fun kwd _ _ _ _ _ _ _ _ _ _ us hl => match kwd, us, hl with | true, [_], _ => .of_eq rfl | false, [_], _ => .of_eq rfl⟩
def ci5 : Stmt := initOf (top 7)
theorem ci5_ok : SupSt ci5 ["line", "word"] := ⟨⟨_, _, _, _, _, _, _, _, _, rfl, (.cons (.cons .nil)), rfl⟩, rfl, rfl, rfl, by decide +kernel, by decide +kernel, by decide +kernel, by decide +kernel, by decide +kernel, by decide, by decide +kernel, by decide +kernel, by decide, ⟨_, rfl, rfl⟩, fun kwd _ _ _ _ _ _ _ _ _ _ us hl => match kwd, us, hl with | true, [_, _], _ => .of_eq rfl | false, [_, _], _ => .of_eq rfl⟩
def ci6 : Stmt := initOf (top 8)
theorem ci6_ok : SupSt ci6 ["word"] := ⟨⟨_, _, _, _, _, _, _, _, _, rfl, (.cons .nil), rfl⟩, rfl, rfl, rfl, by decide +kernel, by decide +kernel, by decide +kernel, by decide +kernel, by decide +kernel, by decide, by decide +kernel, by decide +kernel, by decide, ⟨_, rfl, rfl⟩, fun kwd _ _ _ _ _ _ _ _ _ _ us hl => match kwd, us, hl with | true, [_], _ => .of_eq rfl | false, [_], _ => .of_eq rfl⟩
def ci7 : Stmt := initOf (top 9)
theorem ci7_ok : SupSt ci7 ["number"] := ⟨⟨_, _, _, _, _, _, _, _, _, rfl, (.cons .nil), rfl⟩, rfl, rfl, rfl, by decide +kernel, by decide +kernel, by decide +kernel, by decide +kernel, by decide +kernel, by decide, by decide +kernel, by decide +kernel, by decide, ⟨_, rfl, rfl⟩, fun kwd _ _ _ _ _ _ _ _ _ _ us hl => match kwd, us, hl with | true, [_], _ => .of_eq rfl | false, [_], _ => .of_eq rfl⟩
def ci9 : Stmt := initOf (top 11)
theorem ci9_ok : SupSt ci9 ["word"] := ⟨⟨_, _, _, _, _, _, _, _, _, rfl, (.cons .nil), rfl⟩, rfl, rfl, rfl, by decide +kernel, by decide +kernel, by decide +kernel, by decide +kernel, by decide +kernel, by decide, by decide +kernel, by decide +kernel, by decide, ⟨_, rfl, rfl⟩, fun kwd _ _ _ _ _ _ _ _ _ _ us hl => match kwd, us, hl with | true, [_], _ => .of_eq rfl | false, [_], _ => .of_eq rfl⟩
def ci10 : Stmt := initOf (top 12)
theorem ci10_ok : SupSt ci10 ["word"] := ⟨⟨_, _, _, _, _, _, _, _, _, rfl, (.cons .nil), rfl⟩, rfl, rfl, rfl, by decide +kernel, by decide +kernel, by decide +kernel, by decide +kernel, by decide +kernel, by decide, by decide +kernel, by decide +kernel, by decide, ⟨_, rfl, rfl⟩, fun kwd _ _ _ _ _ _ _ _ _ _ us hl => match kwd, us, hl with | true, [_], _ => .of_eq rfl | false, [_], _ => .of_eq rfl⟩
def ci11 : Stmt := initOf (top 13)
theorem ci11_ok : SupSt ci11 ["name"] := ⟨⟨_, _, _, _, _, _, _, _, _, rfl, (.cons .nil), rfl⟩, rfl, rfl, rfl, by decide +kernel, by decide +kernel, by decide +kernel, by decide +kernel, by decide +kernel, by decide, by decide +kernel, by decide +kernel, by decide, ⟨_, rfl, rfl⟩, fun kwd _ _ _ _ _ _ _ _ _ _ us hl => match kwd, us, hl with | true, [_], _ => .of_eq rfl | false, [_], _ => .of_eq rfl⟩
def ci12 : Stmt := initOf (top 14)
theorem ci12_ok : SupSt ci12 ["place"] := ⟨⟨_, _, _, _, _, _, _, _, _, rfl, (.cons .nil), rfl⟩, rfl, rfl, rfl, by decide +kernel, by decide +kernel, by decide +kernel, by decide +kernel, by decide +kernel, by decide, by decide +kernel, by decide +kernel, by decide, ⟨_, rfl, rfl⟩, fun kwd _ _ _ _ _ _ _ _ _ _ us hl => match kwd, us, hl with | true, [_], _ => .of_eq rfl | false, [_], _ => .of_eq rfl⟩
def ci17 : Stmt := initOf (top 19)
theorem ci17_ok : SupSt ci17 ["most"] := ⟨⟨_, _, _, _, _, _, _, _, _, rfl, (.cons .nil), rfl⟩, rfl, rfl, rfl, by decide +kernel, by decide +kernel, by decide +kernel, by decide +kernel, by decide +kernel, by decide, by decide +kernel, by decide +kernel, by decide, ⟨_, rfl, rfl⟩, fun kwd _ _ _ _ _ _ _ _ _ _ us hl => match kwd, us, hl with | true, [_], _ => .of_eq rfl | false, [_], _ => .of_eq rfl⟩
theorem r0_ok : RowOk r0 := by
  refine ⟨fnSc_by (by decide +kernel), fun K kV doc pm an cdv ct => ?_⟩
  exact all_cons (fun s us ws _ h1 h2 => match us, h1, ws, h2 with | [_], _, [], _ => .of_eq rfl) (all_nil)
theorem r1_ok : RowOk r1 := by
  refine ⟨fnSc_by (by decide +kernel), fun K kV doc pm an cdv ct => ?_⟩
  exact all_cons (fun s us ws _ h1 h2 => match us, h1, ws, h2 with | [_], _, [], _ => .of_eq rfl) (all_nil)
theorem r2_ok : RowOk r2 := by
  refine ⟨fnSc_by (by decide +kernel), fun K kV doc pm an cdv ct => ?_⟩
  exact all_cons (fun s us ws _ h1 h2 => match us, h1, ws, h2 with | [_], _, [], _ => .of_eq rfl) (all_cons (fun s us ws _ h1 h2 => match us, h1, ws, h2 with | [], _, [_], _ => .of_eq rfl) (all_nil))
theorem r3_ok : RowOk r3 := by
  refine ⟨fnSc_by (by decide +kernel), fun K kV doc pm an cdv ct => ?_⟩
  exact all_cons (fun s us ws _ h1 h2 => match us, h1, ws, h2 with | [_, _], _, [], _ => .of_eq rfl) (all_cons (fun s us ws _ h1 h2 => match us, h1, ws, h2 with | [], _, [_, _], _ => .of_eq rfl) (all_nil))
theorem r4_ok : RowOk r4 := by
  refine ⟨fnSc_by (by decide +kernel), fun K kV doc pm an cdv ct => ?_⟩
  exact all_cons (fun s us ws _ h1 h2 => match us, h1, ws, h2 with | [_, _], _, [], _ => .of_eq rfl) (all_cons (fun s us ws _ h1 h2 => match us, h1, ws, h2 with | [], _, [_, _], _ => .of_eq rfl) (all_nil))
theorem r5_ok : RowOk r5 := by
  refine ⟨fnSc_by (by decide +kernel), fun K kV doc pm an cdv ct => ?_⟩
  exact all_cons (fun s us ws _ h1 h2 => match us, h1, ws, h2 with | [_, _], _, [], _ => .of_eq rfl) (all_cons (fun s us ws _ h1 h2 => match us, h1, ws, h2 with | [], _, [_, _], _ => .of_eq rfl) (all_nil))
theorem r6_ok : RowOk r6 := by
  refine ⟨fnSc_by (by decide +kernel), fun K kV doc pm an cdv ct => ?_⟩
  exact all_cons (fun s us ws _ h1 h2 => match us, h1, ws, h2 with | [_, _], _, [], _ => .of_eq rfl) (all_cons (fun s us ws _ h1 h2 => match us, h1, ws, h2 with | [], _, [_, _], _ => .of_eq rfl) (all_nil))
theorem r7_ok : RowOk r7 := by
  refine ⟨fnSc_by (by decide +kernel), fun K kV doc pm an cdv ct => ?_⟩
  exact all_cons (fun s us ws _ h1 h2 => match us, h1, ws, h2 with | [_, _], _, [], _ => .of_eq rfl) (all_cons (fun s us ws _ h1 h2 => match us, h1, ws, h2 with | [], _, [_, _], _ => .of_eq rfl) (all_nil))
theorem r8_ok : RowOk r8 := by
  refine ⟨fnSc_by (by decide +kernel), fun K kV doc pm an cdv ct => ?_⟩
  exact all_cons (fun s us ws _ h1 h2 => match us, h1, ws, h2 with | [_, _], _, [], _ => .of_eq rfl) (all_cons (fun s us ws _ h1 h2 => match us, h1, ws, h2 with | [], _, [_, _], _ => .of_eq rfl) (all_nil))
theorem r9_ok : RowOk r9 := by
  refine ⟨fnSc_by (by decide +kernel), fun K kV doc pm an cdv ct => ?_⟩
  exact all_cons (fun s us ws _ h1 h2 => match us, h1, ws, h2 with | [_, _], _, [], _ => .of_eq rfl) (all_cons (fun s us ws _ h1 h2 => match us, h1, ws, h2 with | [], _, [_, _], _ => .of_eq rfl) (all_nil))
theorem r10_ok : RowOk r10 := by
  refine ⟨fnSc_by (by decide +kernel), fun K kV doc pm an cdv ct => ?_⟩
  exact all_cons (fun s us ws _ h1 h2 => match us, h1, ws, h2 with | [_, _], _, [], _ => .of_eq rfl) (all_nil)
theorem r11_ok : RowOk r11 := by
  refine ⟨fnSc_by (by decide +kernel), fun K kV doc pm an cdv ct => ?_⟩
  exact all_cons (fun s us ws _ h1 h2 => match us, h1, ws, h2 with | [_, _], _, [], _ => .of_eq rfl) (all_nil)
theorem r12_ok : RowOk r12 := by
  refine ⟨fnSc_by (by decide +kernel), fun K kV doc pm an cdv ct => ?_⟩
  exact all_cons (fun s us ws _ h1 h2 => match us, h1, ws, h2 with | [_, _], _, [], _ => .of_eq rfl) (all_nil)
theorem r13_ok : RowOk r13 := by
  refine ⟨fnSc_by (by decide +kernel), fun K kV doc pm an cdv ct => ?_⟩
  exact all_cons (fun s us ws _ h1 h2 => match us, h1, ws, h2 with | [_], _, [], _ => .of_eq rfl) (all_nil)
theorem r14_ok : RowOk r14 := by
  refine ⟨fnSc_by (by decide +kernel), fun K kV doc pm an cdv ct => ?_⟩
  exact all_cons (fun s us ws _ h1 h2 => match us, h1, ws, h2 with | [_], _, [], _ => .of_eq rfl) (all_nil)
theorem r15_ok : RowOk r15 := by
  refine ⟨fnSc_by (by decide +kernel), fun K kV doc pm an cdv ct => ?_⟩
  exact all_cons (fun s us ws _ h1 h2 => match us, h1, ws, h2 with | [_], _, [], _ => .of_eq rfl) (all_nil)
theorem r16_ok : RowOk r16 := by
  refine ⟨fnSc_by (by decide +kernel), fun K kV doc pm an cdv ct => ?_⟩
  exact all_cons (fun s us ws _ h1 h2 => match us, h1, ws, h2 with | [_, _], _, [], _ => .of_eq rfl) (all_nil)
theorem r17_ok : RowOk r17 := by
  refine ⟨fnSc_by (by decide +kernel), fun K kV doc pm an cdv ct => ?_⟩
  exact all_cons (fun s us ws _ h1 h2 => match us, h1, ws, h2 with | [_], _, [], _ => .of_eq rfl) (all_nil)
theorem r18_ok : RowOk r18 := by
  refine ⟨fnSc_by (by decide +kernel), fun K kV doc pm an cdv ct => ?_⟩
  exact all_cons (fun s us ws _ h1 h2 => match us, h1, ws, h2 with | [_], _, [], _ => .of_eq rfl) (all_nil)
theorem r19_ok : RowOk r19 := by
  refine ⟨fnSc_by (by decide +kernel), fun K kV doc pm an cdv ct => ?_⟩
  exact all_cons (fun s us ws _ h1 h2 => match us, h1, ws, h2 with | [_, _], _, [], _ => .of_eq rfl) (all_nil)
theorem r20_ok : RowOk r20 := by
  refine ⟨fnSc_by (by decide +kernel), fun K kV doc pm an cdv ct => ?_⟩
  exact all_cons (fun s us ws _ h1 h2 => match us, h1, ws, h2 with | [_], _, [], _ => .of_eq rfl) (all_nil)
theorem r21_ok : RowOk r21 := by
  refine ⟨fnSc_by (by decide +kernel), fun K kV doc pm an cdv ct => ?_⟩
  exact all_cons (fun s us ws _ h1 h2 => match us, h1, ws, h2 with | [], _, [], _ => .of_eq rfl) (all_nil)
theorem r22_ok : RowOk r22 := by
  refine ⟨fnSc_by (by decide +kernel), fun K kV doc pm an cdv ct => ?_⟩
  exact all_cons (fun s us ws _ h1 h2 => match us, h1, ws, h2 with | [_], _, [], _ => .of_eq rfl) (all_nil)
theorem r23_ok : RowOk r23 := by
  refine ⟨fnSc_by (by decide +kernel), fun K kV doc pm an cdv ct => ?_⟩
  exact all_cons (fun s us ws _ h1 h2 => match us, h1, ws, h2 with | [], _, [], _ => .of_eq rfl) (all_nil)
theorem r24_ok : RowOk r24 := by
  refine ⟨fnSc_by (by decide +kernel), fun K kV doc pm an cdv ct => ?_⟩
  exact all_cons (fun s us ws _ h1 h2 => match us, h1, ws, h2 with | [_], _, [], _ => .of_eq rfl) (all_nil)
theorem h0_ok : HRowOk cl h0 := ⟨fnSc_by (by decide +kernel), by decide +kernel, by decide +kernel, by kernel_rfl, by decide +kernel, fun _ _ _ _ _ _ _ _ => .of_eq rfl⟩
theorem txt_ok : TxtOk T := ⟨all_cons r0_ok (all_cons r1_ok (all_cons r2_ok (all_cons r3_ok (all_cons r4_ok (all_cons r5_ok (all_cons r6_ok (all_cons r7_ok (all_cons r8_ok (all_cons r9_ok (all_cons r10_ok (all_cons r11_ok (all_cons r12_ok (all_cons r13_ok (all_cons r14_ok (all_cons r15_ok (all_cons r16_ok (all_cons r17_ok (all_cons r18_ok (all_cons r19_ok (all_cons r20_ok (all_cons r21_ok (all_cons r22_ok (all_cons r23_ok (all_cons r24_ok (all_nil))))))))))))))))))))))))), all_cons h0_ok (all_nil)⟩
/-- is_integer(value: 0) -/
def s0 (L : Nat → List D → M D) : List D → M D := outD (sqM (rtM (andM (appM isaF [(gV 0), (kM (.ty "int"))]) (notM (appM isaF [(gV 0), (kM (.ty "bool"))])))) nxM) 1
theorem s0_eq (n : Nat) : lev T (n + 1) 0 = s0 (lev T n) := by kernel_rfl
/-- sign_of(number: 0) -/
def s1 (L : Nat → List D → M D) : List D → M D := outD (sqM (ifM (tvM (op2 (gV 0) (kM (.int 0)) eqD)) (sqM (rtM (kM (.int 0))) nxM) nxM) (sqM (rtM (ifM (tvM (op2 (gV 0) (kM (.int 0)) gtD)) (kM (.int 1)) (neM (kM (.int 1))))) nxM)) 1
theorem s1_eq (n : Nat) : lev T (n + 1) 1 = s1 (lev T n) := by kernel_rfl
/-- check_fraction(value: 0, top: 1, bottom: 2) -/
def s2 (L : Nat → List D → M D) : List D → M D := outD (sqM (ifM (toM (tnM (tvM (appM isaF [(gV 0), (kM (.ty "tuple"))]))) (tvM (op2 (appM lenF [(gV 0)]) (kM (.int 2)) neD))) (sqM (raiM ⟨"NotNumber", ["NotNumber", "SolidError"], ["value"]⟩ [(gV 0)]) nxM) nxM) (sqM (asgM (gV 0) (.t [1, 2])) (sqM (ifM (toM (tnM (tvM (callF (L 0) ⟨1, [], [0]⟩ 1 [(gV 1)] []))) (tnM (tvM (callF (L 0) ⟨1, [], [0]⟩ 1 [(gV 2)] [])))) (sqM (raiM ⟨"NotNumber", ["NotNumber", "SolidError"], ["value"]⟩ [(gV 0)]) nxM) nxM) (sqM (ifM (toM (tvM (op2 (gV 2) (kM (.int 1)) ltD)) (tvM (op2 (appM gcdF [(gV 1), (gV 2)]) (kM (.int 1)) neD))) (sqM (raiM ⟨"NotNumber", ["NotNumber", "SolidError"], ["value"]⟩ [(gV 0)]) nxM) nxM) (sqM (rtM (gV 0)) nxM))))) 3
theorem s2_eq (n : Nat) : lev T (n + 1) 2 = s2 (lev T n) := by kernel_rfl
/-- lowest(top: 0, bottom: 1, part: 2) -/
def s3 (L : Nat → List D → M D) : List D → M D := outD (sqM (ifM (tvM (op2 (gV 1) (kM (.int 0)) eqD)) (sqM (raiM ⟨"NotNumber", ["NotNumber", "SolidError"], ["value"]⟩ [(gV 1)]) nxM) nxM) (sqM (setM (appM gcdF [(gV 0), (gV 1)]) 2) (sqM (ifM (tvM (op2 (gV 1) (kM (.int 0)) ltD)) (sqM (setM (neM (gV 2)) 2) nxM) nxM) (sqM (rtM (appM mkT [(op2 (gV 0) (gV 2) fdivD), (op2 (gV 1) (gV 2) fdivD)])) nxM)))) 3
theorem s3_eq (n : Nat) : lev T (n + 1) 3 = s3 (lev T n) := by kernel_rfl
/-- added(one: 0, other: 1) -/
def s4 (L : Nat → List D → M D) : List D → M D := outD (sqM (rtM (callF (L 3) ⟨2, [], [0, 1]⟩ 2 [(op2 (op2 (op2 (gV 0) (kM (.int 0)) ixD) (op2 (gV 1) (kM (.int 1)) ixD) mulD) (op2 (op2 (gV 1) (kM (.int 0)) ixD) (op2 (gV 0) (kM (.int 1)) ixD) mulD) addD), (op2 (op2 (gV 0) (kM (.int 1)) ixD) (op2 (gV 1) (kM (.int 1)) ixD) mulD)] [])) nxM) 2
theorem s4_eq (n : Nat) : lev T (n + 1) 4 = s4 (lev T n) := by kernel_rfl
/-- minus(one: 0, other: 1) -/
def s5 (L : Nat → List D → M D) : List D → M D := outD (sqM (rtM (callF (L 3) ⟨2, [], [0, 1]⟩ 2 [(op2 (op2 (op2 (gV 0) (kM (.int 0)) ixD) (op2 (gV 1) (kM (.int 1)) ixD) mulD) (op2 (op2 (gV 1) (kM (.int 0)) ixD) (op2 (gV 0) (kM (.int 1)) ixD) mulD) subD), (op2 (op2 (gV 0) (kM (.int 1)) ixD) (op2 (gV 1) (kM (.int 1)) ixD) mulD)] [])) nxM) 2
theorem s5_eq (n : Nat) : lev T (n + 1) 5 = s5 (lev T n) := by kernel_rfl
/-- times(one: 0, other: 1) -/
def s6 (L : Nat → List D → M D) : List D → M D := outD (sqM (rtM (callF (L 3) ⟨2, [], [0, 1]⟩ 2 [(op2 (op2 (gV 0) (kM (.int 0)) ixD) (op2 (gV 1) (kM (.int 0)) ixD) mulD), (op2 (op2 (gV 0) (kM (.int 1)) ixD) (op2 (gV 1) (kM (.int 1)) ixD) mulD)] [])) nxM) 2
theorem s6_eq (n : Nat) : lev T (n + 1) 6 = s6 (lev T n) := by kernel_rfl
/-- divided(one: 0, other: 1) -/
def s7 (L : Nat → List D → M D) : List D → M D := outD (sqM (ifM (tvM (op2 (op2 (gV 1) (kM (.int 0)) ixD) (kM (.int 0)) eqD)) (sqM (raiM ⟨"NotNumber", ["NotNumber", "SolidError"], ["value"]⟩ [(gV 1)]) nxM) nxM) (sqM (rtM (callF (L 3) ⟨2, [], [0, 1]⟩ 2 [(op2 (op2 (gV 0) (kM (.int 0)) ixD) (op2 (gV 1) (kM (.int 1)) ixD) mulD), (op2 (op2 (gV 0) (kM (.int 1)) ixD) (op2 (gV 1) (kM (.int 0)) ixD) mulD)] [])) nxM)) 2
theorem s7_eq (n : Nat) : lev T (n + 1) 7 = s7 (lev T n) := by kernel_rfl
/-- halfway(one: 0, other: 1) -/
def s8 (L : Nat → List D → M D) : List D → M D := outD (sqM (rtM (callF (L 3) ⟨2, [], [0, 1]⟩ 2 [(op2 (op2 (op2 (gV 0) (kM (.int 0)) ixD) (op2 (gV 1) (kM (.int 1)) ixD) mulD) (op2 (op2 (gV 1) (kM (.int 0)) ixD) (op2 (gV 0) (kM (.int 1)) ixD) mulD) addD), (op2 (op2 (kM (.int 2)) (op2 (gV 0) (kM (.int 1)) ixD) mulD) (op2 (gV 1) (kM (.int 1)) ixD) mulD)] [])) nxM) 2
theorem s8_eq (n : Nat) : lev T (n + 1) 8 = s8 (lev T n) := by kernel_rfl
/-- compared(one: 0, other: 1) -/
def s9 (L : Nat → List D → M D) : List D → M D := outD (sqM (rtM (callF (L 1) ⟨1, [], [0]⟩ 1 [(op2 (op2 (op2 (gV 0) (kM (.int 0)) ixD) (op2 (gV 1) (kM (.int 1)) ixD) mulD) (op2 (op2 (gV 1) (kM (.int 0)) ixD) (op2 (gV 0) (kM (.int 1)) ixD) mulD) subD)] [])) nxM) 2
theorem s9_eq (n : Nat) : lev T (n + 1) 9 = s9 (lev T n) := by kernel_rfl
/-- _law_begun(_law_script: 0, _law_k: 1, _law_cells: 2, _law_great: 3, _law_seed: 4, _law_cell: 5) -/
def s10 (L : Nat → List D → M D) : List D → M D := outD (sqM (setM (op2 (slM (gV 0) (ptM (gV 1)) (kM none)) (slM (gV 0) (kM none) (ptM (gV 1))) addD) 2) (sqM (setM (lcM (seM (gV 2)) (.v 5) (tvM (op2 (gV 5) (op2 (kM (.int 10)) (kM (.int 18)) powD) geD)) (gV 5) [5]) 3) (sqM (setM (op2 (kM (.int 86)) (gV 1) addD) 4) (sqM (foM (seM (gV 2)) (.v 5) (sqM (setM (op2 (appM intF [(op2 (op2 (gV 4) (kM (.int 48271)) mulD) (gV 5) addD)]) (kM (.int 2147483647)) modD) 4) nxM)) (sqM (rtM (dispM [("left", (ifM (tvM (op2 (gV 3) (appM mkL []) neD)) (op2 (gV 3) (kM (.int 0)) ixD) (kM (.int 0)))), ("seed", (gV 4)), ("cells", (op2 (gV 2) (appM mkL [(op2 (op2 (kM (.int 53)) (gV 1) mulD) (kM (.int 11)) addD)]) addD)), ("spot", (kM (.int 0)))])) nxM))))) 6
theorem s10_eq (n : Nat) : lev T (n + 1) 10 = s10 (lev T n) := by kernel_rfl
/-- _law_draw(_law_m: 0, _law_bound: 1, _law_spot: 2, _law_cell: 3, _law_blend: 4, _law_found: 5, _law_cells: 6, _law_extra: 7) -/
def s11 (L : Nat → List D → M D) : List D → M D := outD (sqM (ifM (tvM (op2 (op2 (gV 0) (kM (.str "left")) ixD) (kM (.int 0)) gtD)) (sqM (setM (op2 (appM intF [(op2 (gV 0) (kM (.str "left")) ixD)]) (gV 1) modD) 5) (sqM (putM (gV 0) (kM (.str "left")) (op2 (op2 (gV 0) (kM (.str "left")) ixD) (gV 1) fdivD)) (sqM (rtM (gV 5)) nxM))) nxM) (sqM (setM (op2 (gV 0) (kM (.str "spot")) ixD) 2) (sqM (putM (gV 0) (kM (.str "spot")) (op2 (gV 2) (kM (.int 1)) addD)) (sqM (asgM (appM mkT [(op2 (gV 0) (kM (.str "cells")) ixD), (op2 (op2 (gV 0) (kM (.str "seed")) ixD) (op2 (op2 (kM (.int 40503)) (gV 2) mulD) (gV 2) mulD) addD)]) (.t [6, 7])) (sqM (setM (op2 (gV 6) (op2 (appM intF [(gV 2)]) (appM lenF [(gV 6)]) modD) ixD) 3) (sqM (setM (op2 (appM intF [(op2 (op2 (gV 3) (op2 (op2 (kM (.int 2)) (gV 2) mulD) (kM (.int 3)) addD) mulD) (gV 7) addD)]) (kM (.int 2147483647)) modD) 4) (sqM (setM (op2 (appM intF [(op2 (op2 (op2 (gV 4) (gV 4) mulD) (op2 (kM (.int 69621)) (gV 2) mulD) addD) (op2 (gV 0) (kM (.str "seed")) ixD) addD)]) (kM (.int 2147483629)) modD) 4) (sqM (rtM (op2 (op2 (op2 (appM intF [(op2 (op2 (gV 4) (kM (.int 48271)) mulD) (gV 2) addD)]) (kM (.int 2147483647)) modD) (kM (.int 11)) fdivD) (gV 1) modD)) nxM)))))))) 8
theorem s11_eq (n : Nat) : lev T (n + 1) 11 = s11 (lev T n) := by kernel_rfl
/-- _law_like(_law_told: 0, _law_due: 1) -/
def s12 (L : Nat → List D → M D) : List D → M D := outD (sqM (rtM (op2 (appM repF [(gV 0)]) (appM repF [(gV 1)]) eqD)) nxM) 2
theorem s12_eq (n : Nat) : lev T (n + 1) 12 = s12 (lev T n) := by kernel_rfl
/-- _law_sign(_law_number: 0) -/
def s13 (L : Nat → List D → M D) : List D → M D := outD (sqM (rtM (op2 (appM intF [(op2 (gV 0) (kM (.int 0)) gtD)]) (appM intF [(op2 (gV 0) (kM (.int 0)) ltD)]) subD)) nxM) 1
theorem s13_eq (n : Nat) : lev T (n + 1) 13 = s13 (lev T n) := by kernel_rfl
/-- _law_common(_law_numbers: 0, _law_found: 1, _law_number: 2, _law_remnant: 3) -/
def s14 (L : Nat → List D → M D) : List D → M D := outD (sqM (setM (kM (.int 0)) 1) (sqM (foM (seM (gV 0)) (.v 2) (sqM (setM (appM absF [(gV 2)]) 3) (sqM (whM (tvM (op2 (gV 3) (kM (.int 0)) neD)) (sqM (asgM (appM mkT [(gV 3), (op2 (appM intF [(gV 1)]) (gV 3) modD)]) (.t [1, 3])) nxM)) nxM))) (sqM (rtM (gV 1)) nxM))) 4
theorem s14_eq (n : Nat) : lev T (n + 1) 14 = s14 (lev T n) := by kernel_rfl
/-- _law_lowered(_law_numbers: 0, _law_whole: 1, _law_number: 2) -/
def s15 (L : Nat → List D → M D) : List D → M D := outD (sqM (setM (callF (L 14) ⟨1, [], [0]⟩ 1 [(gV 0)] []) 1) (sqM (rtM (ifM (tvM (op2 (gV 1) (kM (.int 1)) gtD)) (appM tupF [(lcM (seM (gV 0)) (.v 2) (kM true) (op2 (gV 2) (gV 1) fdivD) [2])]) (appM tupF [(gV 0)]))) nxM)) 3
theorem s15_eq (n : Nat) : lev T (n + 1) 15 = s15 (lev T n) := by kernel_rfl
/-- _law_fraction(_law_top_so: 0, _law_bottom_so: 1, _law_found: 2) -/
def s16 (L : Nat → List D → M D) : List D → M D := outD (sqM (setM (callF (L 15) ⟨1, [], [0]⟩ 1 [(appM mkL [(gV 0), (gV 1)])] []) 2) (sqM (rtM (ifM (tvM (op2 (gV 1) (kM (.int 0)) gtD)) (gV 2) (appM mkT [(neM (op2 (gV 2) (kM (.int 0)) ixD)), (neM (op2 (gV 2) (kM (.int 1)) ixD))]))) nxM)) 3
theorem s16_eq (n : Nat) : lev T (n + 1) 16 = s16 (lev T n) := by kernel_rfl
/-- _law_integer(_law_m: 0, _law_found: 1, _law_turn: 2) -/
def s17 (L : Nat → List D → M D) : List D → M D := outD (sqM (setM (op2 (callF (L 11) ⟨2, [], [0, 1]⟩ 2 [(gV 0), (kM (.int 19))] []) (kM (.int 9)) subD) 1) (sqM (ifM (tvM (op2 (callF (L 11) ⟨2, [], [0, 1]⟩ 2 [(gV 0), (kM (.int 3))] []) (kM (.int 0)) gtD)) (sqM (rtM (gV 1)) nxM) nxM) (sqM (foM (appM rng1 [(callF (L 11) ⟨2, [], [0, 1]⟩ 2 [(gV 0), (kM (.int 20))] [])]) (.v 2) (sqM (setM (op2 (op2 (op2 (gV 1) (kM (.int 1000003)) mulD) (callF (L 11) ⟨2, [], [0, 1]⟩ 2 [(gV 0), (kM (.int 1000))] []) addD) (kM (.int 500)) subD) 1) nxM)) (sqM (rtM (gV 1)) nxM)))) 3
theorem s17_eq (n : Nat) : lev T (n + 1) 17 = s17 (lev T n) := by kernel_rfl
/-- _law_pair(_law_m: 0, _law_bottom_so: 1) -/
def s18 (L : Nat → List D → M D) : List D → M D := outD (sqM (setM (callF (L 17) ⟨1, [], [0]⟩ 1 [(gV 0)] []) 1) (sqM (rtM (callF (L 16) ⟨2, [], [0, 1]⟩ 2 [(callF (L 17) ⟨1, [], [0]⟩ 1 [(gV 0)] []), (ifM (tvM (op2 (gV 1) (kM (.int 0)) neD)) (gV 1) (kM (.int 1)))] [])) nxM)) 2
theorem s18_eq (n : Nat) : lev T (n + 1) 18 = s18 (lev T n) := by kernel_rfl
/-- _law_two_right(_law_one_so: 0, _law_other_so: 1, _law_due: 2, _law_a: 3, _law_b: 4, _law_c: 5, _law_d: 6) -/
def s19 (L : Nat → List D → M D) : List D → M D := outD (sqM (asgM (gV 0) (.t [3, 4])) (sqM (asgM (gV 1) (.t [5, 6])) (sqM (ifM (tnM (tvM (callF (L 12) ⟨2, [], [0, 1]⟩ 2 [(appM mkL [(callF (L 4) ⟨2, [], [0, 1]⟩ 2 [(gV 0), (gV 1)] []), (callF (L 5) ⟨2, [], [0, 1]⟩ 2 [(gV 0), (gV 1)] [])]), (appM mkL [(callF (L 16) ⟨2, [], [0, 1]⟩ 2 [(op2 (op2 (gV 3) (gV 6) mulD) (op2 (gV 5) (gV 4) mulD) addD), (op2 (gV 4) (gV 6) mulD)] []), (callF (L 16) ⟨2, [], [0, 1]⟩ 2 [(op2 (op2 (gV 3) (gV 6) mulD) (op2 (gV 5) (gV 4) mulD) subD), (op2 (gV 4) (gV 6) mulD)] [])])] []))) (sqM (rtM (kM (.bl false))) nxM) nxM) (sqM (ifM (tnM (tvM (callF (L 12) ⟨2, [], [0, 1]⟩ 2 [(appM mkL [(callF (L 6) ⟨2, [], [0, 1]⟩ 2 [(gV 0), (gV 1)] []), (callF (L 8) ⟨2, [], [0, 1]⟩ 2 [(gV 0), (gV 1)] [])]), (appM mkL [(callF (L 16) ⟨2, [], [0, 1]⟩ 2 [(op2 (gV 3) (gV 5) mulD), (op2 (gV 4) (gV 6) mulD)] []), (callF (L 16) ⟨2, [], [0, 1]⟩ 2 [(op2 (op2 (gV 3) (gV 6) mulD) (op2 (gV 5) (gV 4) mulD) addD), (op2 (op2 (kM (.int 2)) (gV 4) mulD) (gV 6) mulD)] [])])] []))) (sqM (rtM (kM (.bl false))) nxM) nxM) (sqM (setM (ifM (tvM (op2 (gV 5) (kM (.int 0)) neD)) (appM mkL [(callF (L 16) ⟨2, [], [0, 1]⟩ 2 [(op2 (gV 3) (gV 6) mulD), (op2 (gV 4) (gV 5) mulD)] [])]) (appM mkT [(kM (.str "number")), (gV 1)])) 2) (sqM (ifM (tnM (tvM (callF (L 12) ⟨2, [], [0, 1]⟩ 2 [(haM cl hd0 [] (callF (L 7) ⟨2, [], [0, 1]⟩ 2 [(gV 0), (gV 1)] [])), (gV 2)] []))) (sqM (rtM (kM (.bl false))) nxM) nxM) (sqM (rtM (callF (L 12) ⟨2, [], [0, 1]⟩ 2 [(appM mkL [(callF (L 9) ⟨2, [], [0, 1]⟩ 2 [(gV 0), (gV 1)] []), (callF (L 9) ⟨2, [], [0, 1]⟩ 2 [(gV 0), (gV 0)] [])]), (appM mkL [(callF (L 13) ⟨1, [], [0]⟩ 1 [(op2 (op2 (gV 3) (gV 6) mulD) (op2 (gV 5) (gV 4) mulD) subD)] []), (kM (.int 0))])] [])) nxM))))))) 7
theorem s19_eq (n : Nat) : lev T (n + 1) 19 = s19 (lev T n) := by kernel_rfl
/-- _law_lowest_right(_law_m: 0, _law_due: 1, _law_pair_here: 2, _law_value_so: 3, _law_top_so: 4, _law_bottom_so: 5) -/
def s20 (L : Nat → List D → M D) : List D → M D := outD (sqM (asgM (appM mkT [(callF (L 17) ⟨1, [], [0]⟩ 1 [(gV 0)] []), (callF (L 17) ⟨1, [], [0]⟩ 1 [(gV 0)] [])]) (.t [4, 5])) (sqM (setM (ifM (tvM (op2 (gV 5) (kM (.int 0)) neD)) (appM mkL [(callF (L 16) ⟨2, [], [0, 1]⟩ 2 [(gV 4), (gV 5)] [])]) (appM mkT [(kM (.str "number")), (kM (.int 0))])) 1) (sqM (ifM (tnM (tvM (callF (L 12) ⟨2, [], [0, 1]⟩ 2 [(haM cl hd0 [] (callF (L 3) ⟨2, [], [0, 1]⟩ 2 [(gV 4), (gV 5)] [])), (gV 1)] []))) (sqM (rtM (kM (.bl false))) nxM) nxM) (sqM (setM (callF (L 18) ⟨1, [], [0]⟩ 1 [(gV 0)] []) 2) (sqM (setM (op2 (appM mkL [(gV 2), (appM mkT [(op2 (gV 2) (kM (.int 0)) ixD), (neM (op2 (gV 2) (kM (.int 1)) ixD))]), (appM mkT [(op2 (kM (.int 2)) (op2 (gV 2) (kM (.int 0)) ixD) mulD), (op2 (kM (.int 2)) (op2 (gV 2) (kM (.int 1)) ixD) mulD)]), (appM lstF [(gV 2)]), (op2 (gV 2) (appM mkT [(kM (.int 1))]) addD), (appM mkT [(op2 (gV 2) (kM (.int 0)) ixD), (kM .non)]), (appM mkT [(op2 (gV 2) (kM (.int 0)) ixD), (kM (.int 0))])]) (callF (L 11) ⟨2, [], [0, 1]⟩ 2 [(gV 0), (kM (.int 7))] []) ixD) 3) (sqM (setM (ifM (taM (tvM (op2 (gV 3) (gV 2) eqD)) (tvM (appM isaF [(gV 3), (kM (.ty "tuple"))]))) (appM mkL [(gV 3)]) (appM mkT [(kM (.str "number")), (gV 3)])) 1) (sqM (rtM (callF (L 12) ⟨2, [], [0, 1]⟩ 2 [(haM cl hd0 [] (callF (L 2) ⟨1, [], [0]⟩ 1 [(gV 3)] [])), (gV 1)] [])) nxM))))))) 6
theorem s20_eq (n : Nat) : lev T (n + 1) 20 = s20 (lev T n) := by kernel_rfl
/-- _law_hand_right(_law_odd: 0, _law_pair_here: 1, _law_told: 2) -/
def s21 (L : Nat → List D → M D) : List D → M D := outD (sqM (foM (seM (appM mkT [(kM .non), (kM (.int 1)), (kM (.str "1")), (appM mkT []), (appM mkT [(kM (.int 1))]), (appM mkT [(kM (.int 1)), (kM (.int 2)), (kM (.int 3))]), (appM mkL [(kM (.int 1)), (kM (.int 2))]), (appM mkT [(kM (.bl true)), (kM (.int 1))]), (appM mkT [(kM (.int 1)), (kM (.bl true))]), (appM mkT [(kM (.int 0)), (kM (.int 2))]), (appM mkT [(kM (.int 0)), (kM (.int 0))]), (appM mkT [(kM (.int 4)), (kM (.int 6))]), (appM mkT [(kM (.int 1)), (neM (kM (.int 1)))]), (appM mkT [(kM (.str "1")), (kM (.int 2))]), (appM mkT [(kM (.int 0)), (kM (.bl true))])])) (.v 0) (sqM (ifM (tnM (tvM (callF (L 12) ⟨2, [], [0, 1]⟩ 2 [(haM cl hd0 [] (callF (L 2) ⟨1, [], [0]⟩ 1 [(gV 0)] [])), (appM mkT [(kM (.str "number")), (gV 0)])] []))) (sqM (rtM (kM (.bl false))) nxM) nxM) nxM)) (sqM (foM (seM (appM mkT [(appM mkT [(kM (.int 0)), (kM (.int 1))]), (appM mkT [(neM (kM (.int 1))), (kM (.int 1))]), (appM mkT [(kM (.int 7)), (kM (.int 12))]), (appM mkT [(op2 (kM (.int 10)) (kM (.int 40)) powD), (kM (.int 3))])])) (.v 1) (sqM (ifM (tnM (tvM (callF (L 12) ⟨2, [], [0, 1]⟩ 2 [(callF (L 2) ⟨1, [], [0]⟩ 1 [(gV 1)] []), (gV 1)] []))) (sqM (rtM (kM (.bl false))) nxM) nxM) nxM)) (sqM (ifM (toM (tnM (tvM (callF (L 12) ⟨2, [], [0, 1]⟩ 2 [(haM cl hd0 [] (callF (L 3) ⟨2, [], [0, 1]⟩ 2 [(kM (.int 5)), (kM (.int 0))] [])), (appM mkT [(kM (.str "number")), (kM (.int 0))])] []))) (tnM (tvM (callF (L 12) ⟨2, [], [0, 1]⟩ 2 [(callF (L 3) ⟨2, [], [0, 1]⟩ 2 [(neM (kM (.int 6))), (neM (kM (.int 4)))] []), (appM mkT [(kM (.int 3)), (kM (.int 2))])] [])))) (sqM (rtM (kM (.bl false))) nxM) nxM) (sqM (setM (appM mkR [(callF (L 3) ⟨0, ["top", "bottom"], [0, 1]⟩ 2 [] [(kM (.int 0)), (neM (kM (.int 7)))]), (callF (L 4) ⟨0, ["one", "other"], [0, 1]⟩ 2 [] [(appM mkT [(kM (.int 1)), (kM (.int 2))]), (appM mkT [(kM (.int 1)), (kM (.int 3))])]), (callF (L 5) ⟨0, ["other", "one"], [1, 0]⟩ 2 [] [(appM mkT [(kM (.int 1)), (kM (.int 2))]), (appM mkT [(kM (.int 1)), (kM (.int 2))])]), (callF (L 2) ⟨0, ["value"], [0]⟩ 1 [] [(appM mkT [(kM (.int 3)), (kM (.int 2))])])]) 2) (sqM (setM (op2 (gV 2) (appM mkL [(callF (L 6) ⟨0, ["other", "one"], [1, 0]⟩ 2 [] [(appM mkT [(kM (.int 2)), (kM (.int 3))]), (appM mkT [(kM (.int 3)), (kM (.int 4))])]), (callF (L 7) ⟨0, ["one", "other"], [0, 1]⟩ 2 [] [(appM mkT [(kM (.int 1)), (kM (.int 2))]), (appM mkT [(kM (.int 3)), (kM (.int 1))])]), (callF (L 8) ⟨0, ["one", "other"], [0, 1]⟩ 2 [] [(appM mkT [(kM (.int 0)), (kM (.int 1))]), (appM mkT [(kM (.int 1)), (kM (.int 1))])])]) addR) 2) (sqM (exM (methM (gV 2) [(callF (L 9) ⟨0, ["other", "one"], [1, 0]⟩ 2 [] [(appM mkT [(kM (.int 1)), (kM (.int 2))]), (appM mkT [(kM (.int 1)), (kM (.int 3))])])] chkL appD)) (sqM (rtM (callF (L 12) ⟨2, [], [0, 1]⟩ 2 [(gV 2), (appM mkL [(appM mkT [(kM (.int 0)), (kM (.int 1))]), (appM mkT [(kM (.int 5)), (kM (.int 6))]), (appM mkT [(kM (.int 0)), (kM (.int 1))]), (appM mkT [(kM (.int 3)), (kM (.int 2))]), (appM mkT [(kM (.int 1)), (kM (.int 2))]), (appM mkT [(kM (.int 1)), (kM (.int 6))]), (appM mkT [(kM (.int 1)), (kM (.int 2))]), (neM (kM (.int 1)))])] [])) nxM))))))) 3
theorem s21_eq (n : Nat) : lev T (n + 1) 21 = s21 (lev T n) := by kernel_rfl
/-- _law_kinds(_law_error: 0, _law_found: 1, _law_word_so: 2, _law_is_so: 3) -/
def s22 (L : Nat → List D → M D) : List D → M D := outD (sqM (setM (appM mkL [(appM mkT [(kM (.str "number")), (isoM cl "NotNumber" (gV 0))]), (appM mkT [(kM (.str "row")), (isoM cl "NotRow" (gV 0))]), (appM mkT [(kM (.str "point")), (isoM cl "NotPoint" (gV 0))])]) 1) (sqM (setM (op2 (gV 1) (appM mkL [(appM mkT [(kM (.str "formula")), (isoM cl "NotFormula" (gV 0))]), (appM mkT [(kM (.str "text")), (isoM cl "NotText" (gV 0))])]) addD) 1) (sqM (setM (op2 (gV 1) (appM mkL [(appM mkT [(kM (.str "form")), (isoM cl "NotForm" (gV 0))]), (appM mkT [(kM (.str "system")), (isoM cl "NotSystem" (gV 0))]), (appM mkT [(kM (.str "map")), (isoM cl "NotMap" (gV 0))])]) addD) 1) (sqM (setM (op2 (gV 1) (appM mkL [(appM mkT [(kM (.str "mesh")), (isoM cl "NotMesh" (gV 0))]), (appM mkT [(kM (.str "paper")), (isoM cl "NotPaper" (gV 0))]), (appM mkT [(kM (.str "name")), (isoM cl "NotName" (gV 0))])]) addD) 1) (sqM (setM (op2 (gV 1) (appM mkL [(appM mkT [(kM (.str "history")), (isoM cl "NotHistory" (gV 0))]), (appM mkT [(kM (.str "unlike")), (isoM cl "Unlike" (gV 0))]), (appM mkT [(kM (.str "empty")), (isoM cl "Empty" (gV 0))])]) addD) 1) (sqM (setM (op2 (gV 1) (appM mkL [(appM mkT [(kM (.str "endless")), (isoM cl "Endless" (gV 0))]), (appM mkT [(kM (.str "flat")), (isoM cl "Flat" (gV 0))]), (appM mkT [(kM (.str "great")), (isoM cl "TooGreat" (gV 0))])]) addD) 1) (sqM (ifM (toM (tnM (tvM (isoM cl "SolidError" (gV 0)))) (tnM (tvM (isoM cl "ValueError" (gV 0))))) (sqM (rtM (appM mkL [])) nxM) nxM) (sqM (rtM (lcM (seM (gV 1)) (.t [2, 3]) (tvM (gV 3)) (gV 2) [2, 3])) nxM)))))))) 4
theorem s22_eq (n : Nat) : lev T (n + 1) 22 = s22 (lev T n) := by kernel_rfl
/-- _law_errors_right(_law_some: 0, _law_told: 1, _law_error: 2, _law_word_so: 3) -/
def s23 (L : Nat → List D → M D) : List D → M D := outD (sqM (setM (appM mkL [(appM mkT [(appM (objR ⟨"NotNumber", ["NotNumber", "SolidError"], ["value"]⟩) [(appM mkT [(kM (.int 1)), (kM (.int 0))])]), (kM (.str "number"))]), (appM mkT [(appM (objR ⟨"NotRow", ["NotRow", "SolidError"], ["place"]⟩) [(neM (kM (.int 2)))]), (kM (.str "row"))]), (appM mkT [(appM (objR ⟨"NotPoint", ["NotPoint", "SolidError"], ["place"]⟩) [(kM (.int 3))]), (kM (.str "point"))]), (appM mkT [(appM (objR ⟨"NotFormula", ["NotFormula", "SolidError"], ["path"]⟩) [(appM mkT [(kM (.int 1)), (kM (.int 2))])]), (kM (.str "formula"))])]) 0) (sqM (setM (op2 (gV 0) (appM mkL [(appM mkT [(appM (objR ⟨"NotText", ["NotText", "SolidError"], ["line", "word"]⟩) [(kM .non), (kM (.int 4))]), (kM (.str "text"))]), (appM mkT [(appM (objR ⟨"NotForm", ["NotForm", "SolidError"], ["word"]⟩) [(kM (.str "cells"))]), (kM (.str "form"))]), (appM mkT [(appM (objR ⟨"NotSystem", ["NotSystem", "SolidError"], ["number"]⟩) [(kM (.int 5))]), (kM (.str "system"))]), (appM mkT [(appM (objR ⟨"NotMap", ["NotMap", "SolidError"], []⟩) []), (kM (.str "map"))])]) addD) 0) (sqM (setM (op2 (gV 0) (appM mkL [(appM mkT [(appM (objR ⟨"NotMesh", ["NotMesh", "SolidError"], ["word"]⟩) [(kM (.str "thin"))]), (kM (.str "mesh"))]), (appM mkT [(appM (objR ⟨"NotPaper", ["NotPaper", "SolidError"], ["word"]⟩) [(kM (.str "form"))]), (kM (.str "paper"))]), (appM mkT [(appM (objR ⟨"NotName", ["NotName", "SolidError"], ["name"]⟩) [(appM mkL [(kM (.str "a"))])]), (kM (.str "name"))]), (appM mkT [(appM (objR ⟨"NotHistory", ["NotHistory", "SolidError"], ["place"]⟩) [(appM mkT [(kM (.int 2)), (kM (.int 0))])]), (kM (.str "history"))])]) addD) 0) (sqM (setM (op2 (gV 0) (appM mkL [(appM mkT [(appM (objR ⟨"Unlike", ["Unlike", "SolidError"], []⟩) []), (kM (.str "unlike"))]), (appM mkT [(appM (objR ⟨"Empty", ["Empty", "SolidError"], []⟩) []), (kM (.str "empty"))]), (appM mkT [(appM (objR ⟨"Endless", ["Endless", "SolidError"], []⟩) []), (kM (.str "endless"))]), (appM mkT [(appM (objR ⟨"Flat", ["Flat", "SolidError"], []⟩) []), (kM (.str "flat"))]), (appM mkT [(appM (objR ⟨"TooGreat", ["TooGreat", "SolidError"], ["most"]⟩) [(kM (.int 60))]), (kM (.str "great"))])]) addD) 0) (sqM (ifM (tvM (op2 (lcM (seM (gV 0)) (.t [2, 3]) (tvM (op2 (callF (L 22) ⟨1, [], [0]⟩ 1 [(gV 2)] []) (appM mkL [(gV 3)]) neD)) (kM (.int 1)) [2, 3]) (appM mkL []) neD)) (sqM (rtM (kM (.bl false))) nxM) nxM) (sqM (setM (appM mkL [(atrM cl "value" (op2 (op2 (gV 0) (kM (.int 0)) ixD) (kM (.int 0)) ixD)), (atrM cl "place" (op2 (op2 (gV 0) (kM (.int 1)) ixD) (kM (.int 0)) ixD)), (atrM cl "place" (op2 (op2 (gV 0) (kM (.int 2)) ixD) (kM (.int 0)) ixD)), (atrM cl "path" (op2 (op2 (gV 0) (kM (.int 3)) ixD) (kM (.int 0)) ixD)), (atrM cl "line" (op2 (op2 (gV 0) (kM (.int 4)) ixD) (kM (.int 0)) ixD)), (atrM cl "word" (op2 (op2 (gV 0) (kM (.int 4)) ixD) (kM (.int 0)) ixD)), (atrM cl "word" (op2 (op2 (gV 0) (kM (.int 5)) ixD) (kM (.int 0)) ixD))]) 1) (sqM (setM (op2 (gV 1) (appM mkL [(atrM cl "number" (op2 (op2 (gV 0) (kM (.int 6)) ixD) (kM (.int 0)) ixD)), (atrM cl "word" (op2 (op2 (gV 0) (kM (.int 8)) ixD) (kM (.int 0)) ixD)), (atrM cl "word" (op2 (op2 (gV 0) (kM (.int 9)) ixD) (kM (.int 0)) ixD)), (atrM cl "name" (op2 (op2 (gV 0) (kM (.int 10)) ixD) (kM (.int 0)) ixD)), (atrM cl "place" (op2 (op2 (gV 0) (kM (.int 11)) ixD) (kM (.int 0)) ixD)), (atrM cl "most" (op2 (op2 (gV 0) (kM (.int 16)) ixD) (kM (.int 0)) ixD))]) addD) 1) (sqM (ifM (tnM (tvM (callF (L 12) ⟨2, [], [0, 1]⟩ 2 [(gV 1), (appM mkL [(appM mkT [(kM (.int 1)), (kM (.int 0))]), (neM (kM (.int 2))), (kM (.int 3)), (appM mkT [(kM (.int 1)), (kM (.int 2))]), (kM .non), (kM (.int 4)), (kM (.str "cells")), (kM (.int 5)), (kM (.str "thin")), (kM (.str "form")), (appM mkL [(kM (.str "a"))]), (appM mkT [(kM (.int 2)), (kM (.int 0))]), (kM (.int 60))])] []))) (sqM (rtM (kM (.bl false))) nxM) nxM) (sqM (rtM (kM (.bl true))) nxM))))))))) 4
theorem s23_eq (n : Nat) : lev T (n + 1) 23 = s23 (lev T n) := by kernel_rfl
/-- law(_law_script: 0, _law_k: 1, _law_m: 2, _law_turn: 3) -/
def s24 (L : Nat → List D → M D) : List D → M D := outD (sqM (ifM (toM (tnM (tvM (callF (L 21) ⟨0, [], []⟩ 0 [] []))) (tnM (tvM (callF (L 23) ⟨0, [], []⟩ 0 [] [])))) (sqM (rtM (kM (.bl false))) nxM) nxM) (sqM (foM (appM rng1 [(appM maxF [(kM (.int 2)), (appM minF [(appM lenF [(gV 0)]), (kM (.int 4))])])]) (.v 1) (sqM (setM (callF (L 10) ⟨2, [], [0, 1]⟩ 2 [(gV 0), (gV 1)] []) 2) (sqM (foM (appM rng1 [(kM (.int 4))]) (.v 3) (sqM (ifM (toM (tnM (tvM (callF (L 20) ⟨1, [], [0]⟩ 1 [(gV 2)] []))) (tnM (tvM (callF (L 19) ⟨2, [], [0, 1]⟩ 2 [(callF (L 18) ⟨1, [], [0]⟩ 1 [(gV 2)] []), (callF (L 18) ⟨1, [], [0]⟩ 1 [(gV 2)] [])] [])))) (sqM (rtM (kM (.bl false))) nxM) nxM) nxM)) nxM))) (sqM (rtM (kM (.bl true))) nxM))) 4
theorem s24_eq (n : Nat) : lev T (n + 1) 24 = s24 (lev T n) := by kernel_rfl
end K00
namespace K00
open PySem L2 PX
local instance : Tabc := ⟨[]⟩
abbrev F := lev T
theorem f10 {n : Nat} (hn : 1 ≤ n) (ds : List D) (μ : Mu) : F n 10 ds μ = begunB ds μ := by
  obtain ⟨k, rfl⟩ : ∃ k, n = k + 1 := ⟨n - 1, by omega⟩
  rw [F, s10_eq]
  unfold s10
  rfl
theorem f11 {n : Nat} (hn : 1 ≤ n) (ds : List D) (μ : Mu) : F n 11 ds μ = drawB ds μ := by
  obtain ⟨k, rfl⟩ : ∃ k, n = k + 1 := ⟨n - 1, by omega⟩
  rw [F, s11_eq]
  unfold s11
  rfl
theorem f12 {n : Nat} (hn : 1 ≤ n) {d : D} (μ : Mu) {k m : Nat} (h : Rk k m d) (hk : k ≤ 64) (hm : m ≤ 8000) : F n 12 [d, d] μ = .ok (.bl true) μ := by
  obtain ⟨k, rfl⟩ : ∃ k, n = k + 1 := ⟨n - 1, by omega⟩
  rw [F, s12_eq]
  unfold s12
  exact like_rk fun _ => h.rep hk hm
theorem f13 {n : Nat} (hn : 1 ≤ n) (i : Int) (μ : Mu) : F n 13 [.int i] μ = .ok (.int (sgn i)) μ := by
  obtain ⟨k, rfl⟩ : ∃ k, n = k + 1 := ⟨n - 1, by omega⟩
  rw [F, s13_eq]
  unfold s13
  exact sign_ok i μ
theorem f14 {n : Nat} (hn : 1 ≤ n) (b : Bool) (ns : List Int) (μ : Mu) (hb : ∀ x ∈ ns, x.natAbs < BB) : F n 14 [sq b ns] μ = .ok (.int (gcdL ns : Int)) μ := by
  obtain ⟨k, rfl⟩ : ∃ k, n = k + 1 := ⟨n - 1, by omega⟩
  rw [F, s14_eq]
  unfold s14
  exact common_ok b ns μ hb
theorem f15 {n : Nat} (hn : 2 ≤ n) (b : Bool) (ns : List Int) (μ : Mu) (hb : ∀ x ∈ ns, x.natAbs < BB) (hl : ns.length ≤ 1000) : F n 15 [sq b ns] μ = .ok (tp (lowL ns)) μ := by
  obtain ⟨k, rfl⟩ : ∃ k, n = k + 1 := ⟨n - 1, by omega⟩
  rw [F, s15_eq]
  unfold s15
  exact lowered_ok b ns μ (f14 (by omega) b ns μ hb) hb hl
def CAP : Nat := 2 ^ 59
theorem CAP_lt {c : Nat} (h : c + 1 ≤ CAP) : c < 2 ^ 60 := by
  unfold CAP at h
  omega
theorem f11d {n : Nat} (hn : 1 ≤ n) {j c : Nat} {μ : Mu} {b : Int} (h : MAt j c μ) (hc : c + 1 ≤ CAP) (hb : 0 < b) (hb2 : b ≤ 1000) : Ew NoX (F n 11 [.ref j, .int b] μ) fun d μ' => ∃ r : Int, d = .int r ∧ 0 ≤ r ∧ r < b ∧ Sj j μ μ' ∧ MAt j (c + 1) μ' := by
  rw [f11 hn]
  exact draw_ok h (CAP_lt hc) hb (by omega)
theorem sj_take {j : Nat} {μ μ' : Mu} (h : Sj j μ μ') : μ'.take μ.length = μ' := List.take_of_length_le (Nat.le_of_eq h.1)
theorem ten_BBk {k : Nat} (h : k ≤ 500) : 10 ^ k ≤ BB := by
  refine Nat.le_trans (Nat.pow_le_pow_right (by decide) h) ?_
  unfold BB
  exact Nat.le_trans (by decide : 10 ^ 500 ≤ 2 ^ 1700) (Nat.pow_le_pow_right (by decide) (by decide))
theorem lt_BB {x k : Nat} (h : x < 10 ^ k) (hk : k ≤ 500) : x < BB := Nat.lt_of_lt_of_le h (ten_BBk hk)
theorem mul_lt10 {i j : Int} {a b : Nat} (hi : i.natAbs < 10 ^ a) (hj : j.natAbs < 10 ^ b) : (i * j).natAbs < 10 ^ (a + b) := by
  rw [Int.natAbs_mul, Nat.pow_add]
  exact Nat.mul_lt_mul'' hi hj
theorem add_lt10 {i j : Int} {a : Nat} (hi : i.natAbs < 10 ^ a) (hj : j.natAbs < 10 ^ a) : (i + j).natAbs < 10 ^ (a + 1) := by
  rw [Nat.pow_succ]
  omega
theorem sub_lt10 {i j : Int} {a : Nat} (hi : i.natAbs < 10 ^ a) (hj : j.natAbs < 10 ^ a) : (i - j).natAbs < 10 ^ (a + 1) := by
  rw [Nat.pow_succ]
  omega
theorem up10 {x a b : Nat} (h : x < 10 ^ a) (hab : a ≤ b) : x < 10 ^ b := Nat.lt_of_lt_of_le h (Nat.pow_le_pow_right (by decide) hab)
theorem mulB {i j : Int} (hi : i.natAbs < BB) (hj : j.natAbs < BB) : mulOk i j = true := by
  have h1 := log_BB hi
  have h2 := log_BB hj
  unfold mulOk
  simp only [Bool.or_eq_true, Bool.and_eq_true, decide_eq_true_eq]
  exact .inr ⟨by omega, by omega⟩
theorem gcd2 (a b : Int) : gcdL [a, b] = Nat.gcd a.natAbs b.natAbs := by
  rw [gcdL_cons, gcdL_cons]
  show Nat.gcd a.natAbs (Nat.gcd b.natAbs 0) = _
  rw [Nat.gcd_zero_right]
theorem low2 {a b : Int} (hb : b ≠ 0) : lowL [a, b] = [a.fdiv (gcdL [a, b] : Int), b.fdiv (gcdL [a, b] : Int)] := by
  unfold lowL
  by_cases h : gcdL [a, b] < 2
  · rw [if_pos h]
    have : gcdL [a, b] ≠ 0 := fun z => by
      have := gcdL_zero _ z b (by simp)
      omega
    have e : gcdL [a, b] = 1 := by omega
    rw [e]
    show [a, b] = [a.fdiv 1, b.fdiv 1]
    rw [Int.fdiv_one, Int.fdiv_one]
  · rw [if_neg h]
    rfl
/-- a fraction: brought to lowest terms, its bottom above 0 -/
def fracL (a b : Int) : List Int := if 0 < b then lowL [a, b] else (lowL [a, b]).map fun x => -x
theorem f16 {n : Nat} (hn : 3 ≤ n) (a b : Int) (μ : Mu) (h : ∀ x ∈ [a, b], x.natAbs < BB) : F n 16 [.int a, .int b] μ = .ok (tp (fracL a b)) μ := by
  obtain ⟨k, rfl⟩ : ∃ k, n = k + 1 := ⟨n - 1, by omega⟩
  rw [F, s16_eq]
  unfold s16
  refine ev_eq ?_
  simp only [↓ev_out, ↓ev_sqM, ↓ev_foM, ↓ev_setM, ↓ev_asgM, ↓ev_putM, ↓ev_ifM, ↓ev_tvM, ↓ev_tnM, ↓ev_taM, ↓ev_toM, ↓ev_op2, ↓ev_gV, ↓ev_kM, ↓ev_rtM, ↓ev_exM, ↓ev_neM, ↓ev_notM, ↓ev_andM, ↓ev_orM, ↓ev_nxM, ↓ev_app, ↓ev_nil, ↓ev_cons, ↓ev_callF, ↓ev_callM, ↓ev_slM, ↓ev_ptM, ↓ev_asI, ↓ev_seM, ↓ev_itL, ↓ev_itT, ↓ev_mkT, ↓ev_mkL, ↓ev_lcM, ↓ev_dispM, ↓ev_lft, ↓thenK_nx, ↓thenK_rt, ↓thenK_bk, ↓thenK_ct, ↓tgK_s, ↓outK_rt, ↓outK_nx, ↓vK_s, ↓turnK_nx, ↓turnK_rt, ↓turnK_bk, ↓turnK_ct, ↓ev_asB, ↓ev_add, ↓ev_sub, ↓ev_mul, ↓ev_fdiv, ↓ev_mod, ↓ev_pow, ↓ev_neg, ↓ev_eqI, ↓ev_neI, ↓ev_lt, ↓ev_le, ↓ev_gt, ↓ev_ge, ↓ev_gcd, ↓ev_absI, ↓ev_maxI, ↓ev_minI, ↓ev_intI, ↓ev_intB, ↓ev_tupT, ↓ev_tupL, ↓ev_lstT, ↓ev_lstL, ↓ev_lenT, ↓ev_lenL, ↓ev_catL, ↓ev_catT, ↓ev_ixT, ↓ev_ixL, ↓ev_slT, ↓ev_slL, ↓ev_isN, ↓ev_isNotN, ↓ev_zipTT, ↓ev_enumT, ↓ev_enumL, ↓ev_eqS, ↓ev_endI, ↓ev_endB, ↓ev_endN, ↓ev_endS, ↓ev_endTI, ↓ev_endLI, ↓ev_endTF, ↓ev_endLF, ↓ev_raiM, ↓ev_haM, ↓ev_fqM, ↓ev_lcG, ↓ev_mkR, startD, pick, setTg, setAll, wipeD, List.map_cons, List.map_nil, List.length_cons, List.length_nil, List.cons_append, List.nil_append, List.getElem?_cons_zero, List.getElem?_cons_succ, List.set_cons_zero, List.set_cons_succ, List.replicate_succ, List.replicate_zero, List.filterMap_cons, List.filterMap_nil, Nat.reduceAdd, Nat.reduceSub, Nat.reduceLeDiff, and_self, if_true, decide_eq_true_eq, true_and, and_true, List.set_nil, List.length_set, take_set, take_app, take_self]
  refine (ev_of (f15 (b := true) (by omega) [a, b] μ h (show 2 ≤ 1000 by decide))).mpr ?_
  unfold fracL
  by_cases hb : 0 < b
  · simp only [↓ev_out, ↓ev_sqM, ↓ev_foM, ↓ev_setM, ↓ev_asgM, ↓ev_putM, ↓ev_ifM, ↓ev_tvM, ↓ev_tnM, ↓ev_taM, ↓ev_toM, ↓ev_op2, ↓ev_gV, ↓ev_kM, ↓ev_rtM, ↓ev_exM, ↓ev_neM, ↓ev_notM, ↓ev_andM, ↓ev_orM, ↓ev_nxM, ↓ev_app, ↓ev_nil, ↓ev_cons, ↓ev_callF, ↓ev_callM, ↓ev_slM, ↓ev_ptM, ↓ev_asI, ↓ev_seM, ↓ev_itL, ↓ev_itT, ↓ev_mkT, ↓ev_mkL, ↓ev_lcM, ↓ev_dispM, ↓ev_lft, ↓thenK_nx, ↓thenK_rt, ↓thenK_bk, ↓thenK_ct, ↓tgK_s, ↓outK_rt, ↓outK_nx, ↓vK_s, ↓turnK_nx, ↓turnK_rt, ↓turnK_bk, ↓turnK_ct, ↓ev_asB, ↓ev_add, ↓ev_sub, ↓ev_mul, ↓ev_fdiv, ↓ev_mod, ↓ev_pow, ↓ev_neg, ↓ev_eqI, ↓ev_neI, ↓ev_lt, ↓ev_le, ↓ev_gt, ↓ev_ge, ↓ev_gcd, ↓ev_absI, ↓ev_maxI, ↓ev_minI, ↓ev_intI, ↓ev_intB, ↓ev_tupT, ↓ev_tupL, ↓ev_lstT, ↓ev_lstL, ↓ev_lenT, ↓ev_lenL, ↓ev_catL, ↓ev_catT, ↓ev_ixT, ↓ev_ixL, ↓ev_slT, ↓ev_slL, ↓ev_isN, ↓ev_isNotN, ↓ev_zipTT, ↓ev_enumT, ↓ev_enumL, ↓ev_eqS, ↓ev_endI, ↓ev_endB, ↓ev_endN, ↓ev_endS, ↓ev_endTI, ↓ev_endLI, ↓ev_endTF, ↓ev_endLF, ↓ev_raiM, ↓ev_haM, ↓ev_fqM, ↓ev_lcG, ↓ev_mkR, startD, pick, setTg, setAll, wipeD, List.map_cons, List.map_nil, List.length_cons, List.length_nil, List.cons_append, List.nil_append, List.getElem?_cons_zero, List.getElem?_cons_succ, List.set_cons_zero, List.set_cons_succ, List.replicate_succ, List.replicate_zero, List.filterMap_cons, List.filterMap_nil, Nat.reduceAdd, Nat.reduceSub, Nat.reduceLeDiff, and_self, if_true, decide_eq_true_eq, true_and, and_true, List.set_nil, List.length_set, take_set, take_app, take_self, hb, decide_true, if_true]
  · simp only [↓ev_out, ↓ev_sqM, ↓ev_foM, ↓ev_setM, ↓ev_asgM, ↓ev_putM, ↓ev_ifM, ↓ev_tvM, ↓ev_tnM, ↓ev_taM, ↓ev_toM, ↓ev_op2, ↓ev_gV, ↓ev_kM, ↓ev_rtM, ↓ev_exM, ↓ev_neM, ↓ev_notM, ↓ev_andM, ↓ev_orM, ↓ev_nxM, ↓ev_app, ↓ev_nil, ↓ev_cons, ↓ev_callF, ↓ev_callM, ↓ev_slM, ↓ev_ptM, ↓ev_asI, ↓ev_seM, ↓ev_itL, ↓ev_itT, ↓ev_mkT, ↓ev_mkL, ↓ev_lcM, ↓ev_dispM, ↓ev_lft, ↓thenK_nx, ↓thenK_rt, ↓thenK_bk, ↓thenK_ct, ↓tgK_s, ↓outK_rt, ↓outK_nx, ↓vK_s, ↓turnK_nx, ↓turnK_rt, ↓turnK_bk, ↓turnK_ct, ↓ev_asB, ↓ev_add, ↓ev_sub, ↓ev_mul, ↓ev_fdiv, ↓ev_mod, ↓ev_pow, ↓ev_neg, ↓ev_eqI, ↓ev_neI, ↓ev_lt, ↓ev_le, ↓ev_gt, ↓ev_ge, ↓ev_gcd, ↓ev_absI, ↓ev_maxI, ↓ev_minI, ↓ev_intI, ↓ev_intB, ↓ev_tupT, ↓ev_tupL, ↓ev_lstT, ↓ev_lstL, ↓ev_lenT, ↓ev_lenL, ↓ev_catL, ↓ev_catT, ↓ev_ixT, ↓ev_ixL, ↓ev_slT, ↓ev_slL, ↓ev_isN, ↓ev_isNotN, ↓ev_zipTT, ↓ev_enumT, ↓ev_enumL, ↓ev_eqS, ↓ev_endI, ↓ev_endB, ↓ev_endN, ↓ev_endS, ↓ev_endTI, ↓ev_endLI, ↓ev_endTF, ↓ev_endLF, ↓ev_raiM, ↓ev_haM, ↓ev_fqM, ↓ev_lcG, ↓ev_mkR, startD, pick, setTg, setAll, wipeD, List.map_cons, List.map_nil, List.length_cons, List.length_nil, List.cons_append, List.nil_append, List.getElem?_cons_zero, List.getElem?_cons_succ, List.set_cons_zero, List.set_cons_succ, List.replicate_succ, List.replicate_zero, List.filterMap_cons, List.filterMap_nil, Nat.reduceAdd, Nat.reduceSub, Nat.reduceLeDiff, and_self, if_true, decide_eq_true_eq, true_and, and_true, List.set_nil, List.length_set, take_set, take_app, take_self, hb, decide_false, Bool.false_eq_true, if_false]
    have l2 := lowL_len [a, b]
    match e : lowL [a, b], l2 with
    | [x, y], _ =>
      rw [show atI (List.map D.int [x, y]) 0 = some (.int x) from rfl, show atI (List.map D.int [x, y]) 1 = some (.int y) from rfl]
      simp only [↓ev_out, ↓ev_sqM, ↓ev_foM, ↓ev_setM, ↓ev_asgM, ↓ev_putM, ↓ev_ifM, ↓ev_tvM, ↓ev_tnM, ↓ev_taM, ↓ev_toM, ↓ev_op2, ↓ev_gV, ↓ev_kM, ↓ev_rtM, ↓ev_exM, ↓ev_neM, ↓ev_notM, ↓ev_andM, ↓ev_orM, ↓ev_nxM, ↓ev_app, ↓ev_nil, ↓ev_cons, ↓ev_callF, ↓ev_callM, ↓ev_slM, ↓ev_ptM, ↓ev_asI, ↓ev_seM, ↓ev_itL, ↓ev_itT, ↓ev_mkT, ↓ev_mkL, ↓ev_lcM, ↓ev_dispM, ↓ev_lft, ↓thenK_nx, ↓thenK_rt, ↓thenK_bk, ↓thenK_ct, ↓tgK_s, ↓outK_rt, ↓outK_nx, ↓vK_s, ↓turnK_nx, ↓turnK_rt, ↓turnK_bk, ↓turnK_ct, ↓ev_asB, ↓ev_add, ↓ev_sub, ↓ev_mul, ↓ev_fdiv, ↓ev_mod, ↓ev_pow, ↓ev_neg, ↓ev_eqI, ↓ev_neI, ↓ev_lt, ↓ev_le, ↓ev_gt, ↓ev_ge, ↓ev_gcd, ↓ev_absI, ↓ev_maxI, ↓ev_minI, ↓ev_intI, ↓ev_intB, ↓ev_tupT, ↓ev_tupL, ↓ev_lstT, ↓ev_lstL, ↓ev_lenT, ↓ev_lenL, ↓ev_catL, ↓ev_catT, ↓ev_ixT, ↓ev_ixL, ↓ev_slT, ↓ev_slL, ↓ev_isN, ↓ev_isNotN, ↓ev_zipTT, ↓ev_enumT, ↓ev_enumL, ↓ev_eqS, ↓ev_endI, ↓ev_endB, ↓ev_endN, ↓ev_endS, ↓ev_endTI, ↓ev_endLI, ↓ev_endTF, ↓ev_endLF, ↓ev_raiM, ↓ev_haM, ↓ev_fqM, ↓ev_lcG, ↓ev_mkR, startD, pick, setTg, setAll, wipeD, List.map_cons, List.map_nil, List.length_cons, List.length_nil, List.cons_append, List.nil_append, List.getElem?_cons_zero, List.getElem?_cons_succ, List.set_cons_zero, List.set_cons_succ, List.replicate_succ, List.replicate_zero, List.filterMap_cons, List.filterMap_nil, Nat.reduceAdd, Nat.reduceSub, Nat.reduceLeDiff, and_self, if_true, decide_eq_true_eq, true_and, and_true, List.set_nil, List.length_set, take_set, take_app, take_self, if_pos (show 2 ≤ 1000000 by decide)]
      try exact end_p rfl
theorem fdiv_neg {g a : Int} (hg : 0 < g) (h : g ∣ a) : a.fdiv (-g) = -(a.fdiv g) := by
  obtain ⟨k, rfl⟩ := h
  have e : g * k = (-g) * (-k) := by rw [Int.neg_mul_neg]
  have h1 : (g * k).fdiv g = k := Int.mul_fdiv_cancel_left k (by omega)
  rw [h1, e]
  exact Int.mul_fdiv_cancel_left (-k) (by omega)
theorem divOk_neg {g : Nat} (h0 : g ≠ 0) (h : g < BB) : divOk (-(g : Int)) = true := by
  have z := divOk_BB h0 h
  unfold divOk at z ⊢
  rw [Int.natAbs_neg]
  simp only [Bool.and_eq_true, decide_eq_true_eq] at z ⊢
  exact ⟨by omega, z.2⟩
theorem frac_len (a b : Int) : (fracL a b).length = 2 := by
  unfold fracL
  split
  · exact lowL_len _
  · rw [List.length_map]; exact lowL_len _
theorem frac_bound {B : Nat} {a b : Int} (h : ∀ x ∈ [a, b], x.natAbs < B) : ∀ x ∈ fracL a b, x.natAbs < B := fun x hx => by
  unfold fracL at hx
  split at hx
  · exact lowL_bound h x hx
  · obtain ⟨z, hz, rfl⟩ := List.mem_map.mp hx
    rw [Int.natAbs_neg]
    exact lowL_bound h z hz
/-- a fraction in lowest terms -/
structure Fr (p q : Int) : Prop where
  pos : 0 < q
  low : gcdL [p, q] = 1
theorem frac_fr {a b : Int} (hb : b ≠ 0) : ∃ p q, fracL a b = [p, q] ∧ Fr p q := by
  have l2 := frac_len a b
  match e : fracL a b, l2 with
  | [p, q], _ =>
    refine ⟨p, q, rfl, ?_⟩
    have hg0 : gcdL [a, b] ≠ 0 := fun z => hb (by
      have := gcdL_zero _ z b (by simp)
      exact this)
    obtain ⟨g, gp, hs⟩ := lowL_scale [a, b]
    have ll := lowL_low [a, b]
    have lp := lowL_len [a, b]
    match e2 : lowL [a, b], lp with
    | [u, v], _ =>
      rw [e2] at hs ll
      have h1 : a = g * u := by injection hs
      have h2 : b = g * v := by injection hs with _ t; injection t
      have v0 : v ≠ 0 := fun z => hb (by rw [h2, z, Int.mul_zero])
      have low1 : gcdL [u, v] = 1 := by
        have g0 : gcdL [u, v] ≠ 0 := fun z => v0 (gcdL_zero _ z v (by simp))
        have l := low2 (a := u) v0
        rw [ll] at l
        have l2 : v = v.fdiv (gcdL [u, v] : Int) := by
          injection l with _ t
          injection t
        have d : (gcdL [u, v] : Int) ∣ v := dvd_int (ns := [u, v]) (by simp)
        obtain ⟨k, hk⟩ := d
        have gen : ∀ G : Int, 0 < G → v = G * k → v.fdiv G = k := fun G hG e => by
          rw [e]
          exact Int.mul_fdiv_cancel_left k (by omega)
        have e3 : v.fdiv (gcdL [u, v] : Int) = k := gen _ (by omega) hk
        rw [e3] at l2
        rw [← l2] at hk
        have : (gcdL [u, v] : Int) = 1 := by
          have h3 : v * 1 = v * (gcdL [u, v] : Int) := by rw [Int.mul_one, Int.mul_comm]; exact hk
          exact (Int.eq_of_mul_eq_mul_left v0 h3).symm
        omega
      unfold fracL at e
      by_cases c : 0 < b
      · rw [if_pos c, e2] at e
        injection e with e3 e4
        injection e4 with e4 _
        subst e3 e4
        refine ⟨?_, low1⟩
        rcases Int.lt_or_le 0 v with z | z
        · exact z
        · have := Int.mul_nonpos_of_nonneg_of_nonpos (Int.le_of_lt gp) z
          omega
      · rw [if_neg c, e2] at e
        injection e with e3 e4
        injection e4 with e4 _
        subst e3 e4
        refine ⟨?_, ?_⟩
        · show 0 < -v
          rcases Int.lt_or_le v 0 with z | z
          · omega
          · have := Int.mul_nonneg (Int.le_of_lt gp) z
            omega
        · show gcdL [-u, -v] = 1
          rw [gcd2, Int.natAbs_neg, Int.natAbs_neg, ← gcd2]
          exact low1
theorem f0 {n : Nat} (hn : 1 ≤ n) (i : Int) (μ : Mu) : F n 0 [.int i] μ = .ok (.bl true) μ := by
  obtain ⟨k, rfl⟩ : ∃ k, n = k + 1 := ⟨n - 1, by omega⟩
  rw [F, s0_eq]
  unfold s0
  refine ev_eq ?_
  simp only [↓ev_out, ↓ev_sqM, ↓ev_foM, ↓ev_setM, ↓ev_asgM, ↓ev_putM, ↓ev_ifM, ↓ev_tvM, ↓ev_tnM, ↓ev_taM, ↓ev_toM, ↓ev_op2, ↓ev_gV, ↓ev_kM, ↓ev_rtM, ↓ev_exM, ↓ev_neM, ↓ev_notM, ↓ev_andM, ↓ev_orM, ↓ev_nxM, ↓ev_app, ↓ev_nil, ↓ev_cons, ↓ev_callF, ↓ev_callM, ↓ev_slM, ↓ev_ptM, ↓ev_asI, ↓ev_seM, ↓ev_itL, ↓ev_itT, ↓ev_mkT, ↓ev_mkL, ↓ev_lcM, ↓ev_dispM, ↓ev_lft, ↓thenK_nx, ↓thenK_rt, ↓thenK_bk, ↓thenK_ct, ↓tgK_s, ↓outK_rt, ↓outK_nx, ↓vK_s, ↓turnK_nx, ↓turnK_rt, ↓turnK_bk, ↓turnK_ct, ↓ev_asB, ↓ev_add, ↓ev_sub, ↓ev_mul, ↓ev_fdiv, ↓ev_mod, ↓ev_pow, ↓ev_neg, ↓ev_eqI, ↓ev_neI, ↓ev_lt, ↓ev_le, ↓ev_gt, ↓ev_ge, ↓ev_gcd, ↓ev_absI, ↓ev_maxI, ↓ev_minI, ↓ev_intI, ↓ev_intB, ↓ev_tupT, ↓ev_tupL, ↓ev_lstT, ↓ev_lstL, ↓ev_lenT, ↓ev_lenL, ↓ev_catL, ↓ev_catT, ↓ev_ixT, ↓ev_ixL, ↓ev_slT, ↓ev_slL, ↓ev_isN, ↓ev_isNotN, ↓ev_zipTT, ↓ev_enumT, ↓ev_enumL, ↓ev_eqS, ↓ev_endI, ↓ev_endB, ↓ev_endN, ↓ev_endS, ↓ev_endTI, ↓ev_endLI, ↓ev_endTF, ↓ev_endLF, ↓ev_raiM, ↓ev_haM, ↓ev_fqM, ↓ev_lcG, ↓ev_mkR, startD, pick, setTg, setAll, wipeD, List.map_cons, List.map_nil, List.length_cons, List.length_nil, List.cons_append, List.nil_append, List.getElem?_cons_zero, List.getElem?_cons_succ, List.set_cons_zero, List.set_cons_succ, List.replicate_succ, List.replicate_zero, List.filterMap_cons, List.filterMap_nil, Nat.reduceAdd, Nat.reduceSub, Nat.reduceLeDiff, and_self, if_true, decide_eq_true_eq, true_and, and_true, List.set_nil, List.length_set, take_set, take_app, take_self]
  show Ew NoX (lft ((isaB (.int i) "int").map D.bl) μ) _
  rw [show isaB (.int i) "int" = some true from rfl]
  simp only [↓ev_out, ↓ev_sqM, ↓ev_foM, ↓ev_setM, ↓ev_asgM, ↓ev_putM, ↓ev_ifM, ↓ev_tvM, ↓ev_tnM, ↓ev_taM, ↓ev_toM, ↓ev_op2, ↓ev_gV, ↓ev_kM, ↓ev_rtM, ↓ev_exM, ↓ev_neM, ↓ev_notM, ↓ev_andM, ↓ev_orM, ↓ev_nxM, ↓ev_app, ↓ev_nil, ↓ev_cons, ↓ev_callF, ↓ev_callM, ↓ev_slM, ↓ev_ptM, ↓ev_asI, ↓ev_seM, ↓ev_itL, ↓ev_itT, ↓ev_mkT, ↓ev_mkL, ↓ev_lcM, ↓ev_dispM, ↓ev_lft, ↓thenK_nx, ↓thenK_rt, ↓thenK_bk, ↓thenK_ct, ↓tgK_s, ↓outK_rt, ↓outK_nx, ↓vK_s, ↓turnK_nx, ↓turnK_rt, ↓turnK_bk, ↓turnK_ct, ↓ev_asB, ↓ev_add, ↓ev_sub, ↓ev_mul, ↓ev_fdiv, ↓ev_mod, ↓ev_pow, ↓ev_neg, ↓ev_eqI, ↓ev_neI, ↓ev_lt, ↓ev_le, ↓ev_gt, ↓ev_ge, ↓ev_gcd, ↓ev_absI, ↓ev_maxI, ↓ev_minI, ↓ev_intI, ↓ev_intB, ↓ev_tupT, ↓ev_tupL, ↓ev_lstT, ↓ev_lstL, ↓ev_lenT, ↓ev_lenL, ↓ev_catL, ↓ev_catT, ↓ev_ixT, ↓ev_ixL, ↓ev_slT, ↓ev_slL, ↓ev_isN, ↓ev_isNotN, ↓ev_zipTT, ↓ev_enumT, ↓ev_enumL, ↓ev_eqS, ↓ev_endI, ↓ev_endB, ↓ev_endN, ↓ev_endS, ↓ev_endTI, ↓ev_endLI, ↓ev_endTF, ↓ev_endLF, ↓ev_raiM, ↓ev_haM, ↓ev_fqM, ↓ev_lcG, ↓ev_mkR, startD, pick, setTg, setAll, wipeD, List.map_cons, List.map_nil, List.length_cons, List.length_nil, List.cons_append, List.nil_append, List.getElem?_cons_zero, List.getElem?_cons_succ, List.set_cons_zero, List.set_cons_succ, List.replicate_succ, List.replicate_zero, List.filterMap_cons, List.filterMap_nil, Nat.reduceAdd, Nat.reduceSub, Nat.reduceLeDiff, and_self, if_true, decide_eq_true_eq, true_and, and_true, List.set_nil, List.length_set, take_set, take_app, take_self, Option.map_some]
  show Ew NoX (lft ((isaB (.int i) "bool").map D.bl) μ) _
  rw [show isaB (.int i) "bool" = some false from rfl]
  simp only [↓ev_out, ↓ev_sqM, ↓ev_foM, ↓ev_setM, ↓ev_asgM, ↓ev_putM, ↓ev_ifM, ↓ev_tvM, ↓ev_tnM, ↓ev_taM, ↓ev_toM, ↓ev_op2, ↓ev_gV, ↓ev_kM, ↓ev_rtM, ↓ev_exM, ↓ev_neM, ↓ev_notM, ↓ev_andM, ↓ev_orM, ↓ev_nxM, ↓ev_app, ↓ev_nil, ↓ev_cons, ↓ev_callF, ↓ev_callM, ↓ev_slM, ↓ev_ptM, ↓ev_asI, ↓ev_seM, ↓ev_itL, ↓ev_itT, ↓ev_mkT, ↓ev_mkL, ↓ev_lcM, ↓ev_dispM, ↓ev_lft, ↓thenK_nx, ↓thenK_rt, ↓thenK_bk, ↓thenK_ct, ↓tgK_s, ↓outK_rt, ↓outK_nx, ↓vK_s, ↓turnK_nx, ↓turnK_rt, ↓turnK_bk, ↓turnK_ct, ↓ev_asB, ↓ev_add, ↓ev_sub, ↓ev_mul, ↓ev_fdiv, ↓ev_mod, ↓ev_pow, ↓ev_neg, ↓ev_eqI, ↓ev_neI, ↓ev_lt, ↓ev_le, ↓ev_gt, ↓ev_ge, ↓ev_gcd, ↓ev_absI, ↓ev_maxI, ↓ev_minI, ↓ev_intI, ↓ev_intB, ↓ev_tupT, ↓ev_tupL, ↓ev_lstT, ↓ev_lstL, ↓ev_lenT, ↓ev_lenL, ↓ev_catL, ↓ev_catT, ↓ev_ixT, ↓ev_ixL, ↓ev_slT, ↓ev_slL, ↓ev_isN, ↓ev_isNotN, ↓ev_zipTT, ↓ev_enumT, ↓ev_enumL, ↓ev_eqS, ↓ev_endI, ↓ev_endB, ↓ev_endN, ↓ev_endS, ↓ev_endTI, ↓ev_endLI, ↓ev_endTF, ↓ev_endLF, ↓ev_raiM, ↓ev_haM, ↓ev_fqM, ↓ev_lcG, ↓ev_mkR, startD, pick, setTg, setAll, wipeD, List.map_cons, List.map_nil, List.length_cons, List.length_nil, List.cons_append, List.nil_append, List.getElem?_cons_zero, List.getElem?_cons_succ, List.set_cons_zero, List.set_cons_succ, List.replicate_succ, List.replicate_zero, List.filterMap_cons, List.filterMap_nil, Nat.reduceAdd, Nat.reduceSub, Nat.reduceLeDiff, and_self, if_true, decide_eq_true_eq, true_and, and_true, List.set_nil, List.length_set, take_set, take_app, take_self, Option.map_some, Bool.not_false]
theorem f1 {n : Nat} (hn : 1 ≤ n) (i : Int) (μ : Mu) : F n 1 [.int i] μ = .ok (.int (sgn i)) μ := by
  obtain ⟨k, rfl⟩ : ∃ k, n = k + 1 := ⟨n - 1, by omega⟩
  rw [F, s1_eq]
  unfold s1
  refine ev_eq ?_
  unfold sgn
  by_cases h0 : i = 0
  · simp only [↓ev_out, ↓ev_sqM, ↓ev_foM, ↓ev_setM, ↓ev_asgM, ↓ev_putM, ↓ev_ifM, ↓ev_tvM, ↓ev_tnM, ↓ev_taM, ↓ev_toM, ↓ev_op2, ↓ev_gV, ↓ev_kM, ↓ev_rtM, ↓ev_exM, ↓ev_neM, ↓ev_notM, ↓ev_andM, ↓ev_orM, ↓ev_nxM, ↓ev_app, ↓ev_nil, ↓ev_cons, ↓ev_callF, ↓ev_callM, ↓ev_slM, ↓ev_ptM, ↓ev_asI, ↓ev_seM, ↓ev_itL, ↓ev_itT, ↓ev_mkT, ↓ev_mkL, ↓ev_lcM, ↓ev_dispM, ↓ev_lft, ↓thenK_nx, ↓thenK_rt, ↓thenK_bk, ↓thenK_ct, ↓tgK_s, ↓outK_rt, ↓outK_nx, ↓vK_s, ↓turnK_nx, ↓turnK_rt, ↓turnK_bk, ↓turnK_ct, ↓ev_asB, ↓ev_add, ↓ev_sub, ↓ev_mul, ↓ev_fdiv, ↓ev_mod, ↓ev_pow, ↓ev_neg, ↓ev_eqI, ↓ev_neI, ↓ev_lt, ↓ev_le, ↓ev_gt, ↓ev_ge, ↓ev_gcd, ↓ev_absI, ↓ev_maxI, ↓ev_minI, ↓ev_intI, ↓ev_intB, ↓ev_tupT, ↓ev_tupL, ↓ev_lstT, ↓ev_lstL, ↓ev_lenT, ↓ev_lenL, ↓ev_catL, ↓ev_catT, ↓ev_ixT, ↓ev_ixL, ↓ev_slT, ↓ev_slL, ↓ev_isN, ↓ev_isNotN, ↓ev_zipTT, ↓ev_enumT, ↓ev_enumL, ↓ev_eqS, ↓ev_endI, ↓ev_endB, ↓ev_endN, ↓ev_endS, ↓ev_endTI, ↓ev_endLI, ↓ev_endTF, ↓ev_endLF, ↓ev_raiM, ↓ev_haM, ↓ev_fqM, ↓ev_lcG, ↓ev_mkR, startD, pick, setTg, setAll, wipeD, List.map_cons, List.map_nil, List.length_cons, List.length_nil, List.cons_append, List.nil_append, List.getElem?_cons_zero, List.getElem?_cons_succ, List.set_cons_zero, List.set_cons_succ, List.replicate_succ, List.replicate_zero, List.filterMap_cons, List.filterMap_nil, Nat.reduceAdd, Nat.reduceSub, Nat.reduceLeDiff, and_self, if_true, decide_eq_true_eq, true_and, and_true, List.set_nil, List.length_set, take_set, take_app, take_self, h0, decide_true]
  · by_cases h1 : 0 < i
    · simp only [↓ev_out, ↓ev_sqM, ↓ev_foM, ↓ev_setM, ↓ev_asgM, ↓ev_putM, ↓ev_ifM, ↓ev_tvM, ↓ev_tnM, ↓ev_taM, ↓ev_toM, ↓ev_op2, ↓ev_gV, ↓ev_kM, ↓ev_rtM, ↓ev_exM, ↓ev_neM, ↓ev_notM, ↓ev_andM, ↓ev_orM, ↓ev_nxM, ↓ev_app, ↓ev_nil, ↓ev_cons, ↓ev_callF, ↓ev_callM, ↓ev_slM, ↓ev_ptM, ↓ev_asI, ↓ev_seM, ↓ev_itL, ↓ev_itT, ↓ev_mkT, ↓ev_mkL, ↓ev_lcM, ↓ev_dispM, ↓ev_lft, ↓thenK_nx, ↓thenK_rt, ↓thenK_bk, ↓thenK_ct, ↓tgK_s, ↓outK_rt, ↓outK_nx, ↓vK_s, ↓turnK_nx, ↓turnK_rt, ↓turnK_bk, ↓turnK_ct, ↓ev_asB, ↓ev_add, ↓ev_sub, ↓ev_mul, ↓ev_fdiv, ↓ev_mod, ↓ev_pow, ↓ev_neg, ↓ev_eqI, ↓ev_neI, ↓ev_lt, ↓ev_le, ↓ev_gt, ↓ev_ge, ↓ev_gcd, ↓ev_absI, ↓ev_maxI, ↓ev_minI, ↓ev_intI, ↓ev_intB, ↓ev_tupT, ↓ev_tupL, ↓ev_lstT, ↓ev_lstL, ↓ev_lenT, ↓ev_lenL, ↓ev_catL, ↓ev_catT, ↓ev_ixT, ↓ev_ixL, ↓ev_slT, ↓ev_slL, ↓ev_isN, ↓ev_isNotN, ↓ev_zipTT, ↓ev_enumT, ↓ev_enumL, ↓ev_eqS, ↓ev_endI, ↓ev_endB, ↓ev_endN, ↓ev_endS, ↓ev_endTI, ↓ev_endLI, ↓ev_endTF, ↓ev_endLF, ↓ev_raiM, ↓ev_haM, ↓ev_fqM, ↓ev_lcG, ↓ev_mkR, startD, pick, setTg, setAll, wipeD, List.map_cons, List.map_nil, List.length_cons, List.length_nil, List.cons_append, List.nil_append, List.getElem?_cons_zero, List.getElem?_cons_succ, List.set_cons_zero, List.set_cons_succ, List.replicate_succ, List.replicate_zero, List.filterMap_cons, List.filterMap_nil, Nat.reduceAdd, Nat.reduceSub, Nat.reduceLeDiff, and_self, if_true, decide_eq_true_eq, true_and, and_true, List.set_nil, List.length_set, take_set, take_app, take_self, h0, h1, decide_true, decide_false, Bool.false_eq_true, if_false]
    · simp only [↓ev_out, ↓ev_sqM, ↓ev_foM, ↓ev_setM, ↓ev_asgM, ↓ev_putM, ↓ev_ifM, ↓ev_tvM, ↓ev_tnM, ↓ev_taM, ↓ev_toM, ↓ev_op2, ↓ev_gV, ↓ev_kM, ↓ev_rtM, ↓ev_exM, ↓ev_neM, ↓ev_notM, ↓ev_andM, ↓ev_orM, ↓ev_nxM, ↓ev_app, ↓ev_nil, ↓ev_cons, ↓ev_callF, ↓ev_callM, ↓ev_slM, ↓ev_ptM, ↓ev_asI, ↓ev_seM, ↓ev_itL, ↓ev_itT, ↓ev_mkT, ↓ev_mkL, ↓ev_lcM, ↓ev_dispM, ↓ev_lft, ↓thenK_nx, ↓thenK_rt, ↓thenK_bk, ↓thenK_ct, ↓tgK_s, ↓outK_rt, ↓outK_nx, ↓vK_s, ↓turnK_nx, ↓turnK_rt, ↓turnK_bk, ↓turnK_ct, ↓ev_asB, ↓ev_add, ↓ev_sub, ↓ev_mul, ↓ev_fdiv, ↓ev_mod, ↓ev_pow, ↓ev_neg, ↓ev_eqI, ↓ev_neI, ↓ev_lt, ↓ev_le, ↓ev_gt, ↓ev_ge, ↓ev_gcd, ↓ev_absI, ↓ev_maxI, ↓ev_minI, ↓ev_intI, ↓ev_intB, ↓ev_tupT, ↓ev_tupL, ↓ev_lstT, ↓ev_lstL, ↓ev_lenT, ↓ev_lenL, ↓ev_catL, ↓ev_catT, ↓ev_ixT, ↓ev_ixL, ↓ev_slT, ↓ev_slL, ↓ev_isN, ↓ev_isNotN, ↓ev_zipTT, ↓ev_enumT, ↓ev_enumL, ↓ev_eqS, ↓ev_endI, ↓ev_endB, ↓ev_endN, ↓ev_endS, ↓ev_endTI, ↓ev_endLI, ↓ev_endTF, ↓ev_endLF, ↓ev_raiM, ↓ev_haM, ↓ev_fqM, ↓ev_lcG, ↓ev_mkR, startD, pick, setTg, setAll, wipeD, List.map_cons, List.map_nil, List.length_cons, List.length_nil, List.cons_append, List.nil_append, List.getElem?_cons_zero, List.getElem?_cons_succ, List.set_cons_zero, List.set_cons_succ, List.replicate_succ, List.replicate_zero, List.filterMap_cons, List.filterMap_nil, Nat.reduceAdd, Nat.reduceSub, Nat.reduceLeDiff, and_self, if_true, decide_eq_true_eq, true_and, and_true, List.set_nil, List.length_set, take_set, take_app, take_self, h0, h1, decide_false, Bool.false_eq_true, if_false]
theorem f3 {n : Nat} (hn : 1 ≤ n) (a b : Int) (μ : Mu) (hb : b ≠ 0) (hB : b.natAbs < BB) : F n 3 [.int a, .int b] μ = .ok (tp (fracL a b)) μ := by
  obtain ⟨k, rfl⟩ : ∃ k, n = k + 1 := ⟨n - 1, by omega⟩
  rw [F, s3_eq]
  unfold s3
  refine ev_eq ?_
  have hg : gcdL [a, b] ≠ 0 := fun z => hb (gcdL_zero _ z b (by simp))
  have hgB : gcdL [a, b] < BB := Nat.lt_of_le_of_lt (Nat.le_of_dvd (Int.natAbs_pos.mpr hb) (gcdL_dvd [a, b] b (by simp))) hB
  unfold fracL
  rw [low2 hb]
  by_cases hp : 0 < b
  · have h1 : ¬ b < 0 := by omega
    simp only [↓ev_out, ↓ev_sqM, ↓ev_foM, ↓ev_setM, ↓ev_asgM, ↓ev_putM, ↓ev_ifM, ↓ev_tvM, ↓ev_tnM, ↓ev_taM, ↓ev_toM, ↓ev_op2, ↓ev_gV, ↓ev_kM, ↓ev_rtM, ↓ev_exM, ↓ev_neM, ↓ev_notM, ↓ev_andM, ↓ev_orM, ↓ev_nxM, ↓ev_app, ↓ev_nil, ↓ev_cons, ↓ev_callF, ↓ev_callM, ↓ev_slM, ↓ev_ptM, ↓ev_asI, ↓ev_seM, ↓ev_itL, ↓ev_itT, ↓ev_mkT, ↓ev_mkL, ↓ev_lcM, ↓ev_dispM, ↓ev_lft, ↓thenK_nx, ↓thenK_rt, ↓thenK_bk, ↓thenK_ct, ↓tgK_s, ↓outK_rt, ↓outK_nx, ↓vK_s, ↓turnK_nx, ↓turnK_rt, ↓turnK_bk, ↓turnK_ct, ↓ev_asB, ↓ev_add, ↓ev_sub, ↓ev_mul, ↓ev_fdiv, ↓ev_mod, ↓ev_pow, ↓ev_neg, ↓ev_eqI, ↓ev_neI, ↓ev_lt, ↓ev_le, ↓ev_gt, ↓ev_ge, ↓ev_gcd, ↓ev_absI, ↓ev_maxI, ↓ev_minI, ↓ev_intI, ↓ev_intB, ↓ev_tupT, ↓ev_tupL, ↓ev_lstT, ↓ev_lstL, ↓ev_lenT, ↓ev_lenL, ↓ev_catL, ↓ev_catT, ↓ev_ixT, ↓ev_ixL, ↓ev_slT, ↓ev_slL, ↓ev_isN, ↓ev_isNotN, ↓ev_zipTT, ↓ev_enumT, ↓ev_enumL, ↓ev_eqS, ↓ev_endI, ↓ev_endB, ↓ev_endN, ↓ev_endS, ↓ev_endTI, ↓ev_endLI, ↓ev_endTF, ↓ev_endLF, ↓ev_raiM, ↓ev_haM, ↓ev_fqM, ↓ev_lcG, ↓ev_mkR, startD, pick, setTg, setAll, wipeD, List.map_cons, List.map_nil, List.length_cons, List.length_nil, List.cons_append, List.nil_append, List.getElem?_cons_zero, List.getElem?_cons_succ, List.set_cons_zero, List.set_cons_succ, List.replicate_succ, List.replicate_zero, List.filterMap_cons, List.filterMap_nil, Nat.reduceAdd, Nat.reduceSub, Nat.reduceLeDiff, and_self, if_true, decide_eq_true_eq, true_and, and_true, List.set_nil, List.length_set, take_set, take_app, take_self, hb, h1, hp, decide_false, Bool.false_eq_true, if_false, if_true, ← gcd2, divOk_BB hg hgB]
    try exact end_p rfl
  · have h1 : b < 0 := by omega
    have da : (gcdL [a, b] : Int) ∣ a := dvd_int (ns := [a, b]) (by simp)
    have db : (gcdL [a, b] : Int) ∣ b := dvd_int (ns := [a, b]) (by simp)
    have gp : (0 : Int) < (gcdL [a, b] : Int) := by omega
    simp only [↓ev_out, ↓ev_sqM, ↓ev_foM, ↓ev_setM, ↓ev_asgM, ↓ev_putM, ↓ev_ifM, ↓ev_tvM, ↓ev_tnM, ↓ev_taM, ↓ev_toM, ↓ev_op2, ↓ev_gV, ↓ev_kM, ↓ev_rtM, ↓ev_exM, ↓ev_neM, ↓ev_notM, ↓ev_andM, ↓ev_orM, ↓ev_nxM, ↓ev_app, ↓ev_nil, ↓ev_cons, ↓ev_callF, ↓ev_callM, ↓ev_slM, ↓ev_ptM, ↓ev_asI, ↓ev_seM, ↓ev_itL, ↓ev_itT, ↓ev_mkT, ↓ev_mkL, ↓ev_lcM, ↓ev_dispM, ↓ev_lft, ↓thenK_nx, ↓thenK_rt, ↓thenK_bk, ↓thenK_ct, ↓tgK_s, ↓outK_rt, ↓outK_nx, ↓vK_s, ↓turnK_nx, ↓turnK_rt, ↓turnK_bk, ↓turnK_ct, ↓ev_asB, ↓ev_add, ↓ev_sub, ↓ev_mul, ↓ev_fdiv, ↓ev_mod, ↓ev_pow, ↓ev_neg, ↓ev_eqI, ↓ev_neI, ↓ev_lt, ↓ev_le, ↓ev_gt, ↓ev_ge, ↓ev_gcd, ↓ev_absI, ↓ev_maxI, ↓ev_minI, ↓ev_intI, ↓ev_intB, ↓ev_tupT, ↓ev_tupL, ↓ev_lstT, ↓ev_lstL, ↓ev_lenT, ↓ev_lenL, ↓ev_catL, ↓ev_catT, ↓ev_ixT, ↓ev_ixL, ↓ev_slT, ↓ev_slL, ↓ev_isN, ↓ev_isNotN, ↓ev_zipTT, ↓ev_enumT, ↓ev_enumL, ↓ev_eqS, ↓ev_endI, ↓ev_endB, ↓ev_endN, ↓ev_endS, ↓ev_endTI, ↓ev_endLI, ↓ev_endTF, ↓ev_endLF, ↓ev_raiM, ↓ev_haM, ↓ev_fqM, ↓ev_lcG, ↓ev_mkR, startD, pick, setTg, setAll, wipeD, List.map_cons, List.map_nil, List.length_cons, List.length_nil, List.cons_append, List.nil_append, List.getElem?_cons_zero, List.getElem?_cons_succ, List.set_cons_zero, List.set_cons_succ, List.replicate_succ, List.replicate_zero, List.filterMap_cons, List.filterMap_nil, Nat.reduceAdd, Nat.reduceSub, Nat.reduceLeDiff, and_self, if_true, decide_eq_true_eq, true_and, and_true, List.set_nil, List.length_set, take_set, take_app, take_self, hb, h1, hp, decide_true, decide_false, Bool.false_eq_true, if_false, ← gcd2, divOk_neg hg hgB, fdiv_neg gp da, fdiv_neg gp db]
    try exact end_p rfl
theorem f3x {n : Nat} (hn : 1 ≤ n) (a : Int) (μ : Mu) : F n 3 [.int a, .int 0] μ = .ex ⟨"NotNumber", [("value", .int 0)]⟩ μ := by
  obtain ⟨k, rfl⟩ : ∃ k, n = k + 1 := ⟨n - 1, by omega⟩
  rw [F, s3_eq]
  unfold s3
  refine ex_eq ?_
  simp only [↓ex_out, ↓ev_sqM, ↓ev_foM, ↓ev_setM, ↓ev_asgM, ↓ev_putM, ↓ev_ifM, ↓ev_tvM, ↓ev_tnM, ↓ev_taM, ↓ev_toM, ↓ev_op2, ↓ev_gV, ↓ev_kM, ↓ev_rtM, ↓ev_exM, ↓ev_neM, ↓ev_notM, ↓ev_andM, ↓ev_orM, ↓ev_nxM, ↓ev_app, ↓ev_nil, ↓ev_cons, ↓ev_callF, ↓ev_callM, ↓ev_slM, ↓ev_ptM, ↓ev_asI, ↓ev_seM, ↓ev_itL, ↓ev_itT, ↓ev_mkT, ↓ev_mkL, ↓ev_lcM, ↓ev_dispM, ↓ev_lft, ↓thenK_nx, ↓thenK_rt, ↓thenK_bk, ↓thenK_ct, ↓tgK_s, ↓outK_rt, ↓outK_nx, ↓vK_s, ↓turnK_nx, ↓turnK_rt, ↓turnK_bk, ↓turnK_ct, ↓ev_asB, ↓ev_add, ↓ev_sub, ↓ev_mul, ↓ev_fdiv, ↓ev_mod, ↓ev_pow, ↓ev_neg, ↓ev_eqI, ↓ev_neI, ↓ev_lt, ↓ev_le, ↓ev_gt, ↓ev_ge, ↓ev_gcd, ↓ev_absI, ↓ev_maxI, ↓ev_minI, ↓ev_intI, ↓ev_intB, ↓ev_tupT, ↓ev_tupL, ↓ev_lstT, ↓ev_lstL, ↓ev_lenT, ↓ev_lenL, ↓ev_catL, ↓ev_catT, ↓ev_ixT, ↓ev_ixL, ↓ev_slT, ↓ev_slL, ↓ev_isN, ↓ev_isNotN, ↓ev_zipTT, ↓ev_enumT, ↓ev_enumL, ↓ev_eqS, ↓ev_endI, ↓ev_endB, ↓ev_endN, ↓ev_endS, ↓ev_endTI, ↓ev_endLI, ↓ev_endTF, ↓ev_endLF, ↓ev_raiM, ↓ev_haM, ↓ev_fqM, ↓ev_lcG, ↓ev_mkR, startD, pick, setTg, setAll, wipeD, List.map_cons, List.map_nil, List.length_cons, List.length_nil, List.cons_append, List.nil_append, List.getElem?_cons_zero, List.getElem?_cons_succ, List.set_cons_zero, List.set_cons_succ, List.replicate_succ, List.replicate_zero, List.filterMap_cons, List.filterMap_nil, Nat.reduceAdd, Nat.reduceSub, Nat.reduceLeDiff, and_self, if_true, decide_eq_true_eq, true_and, and_true, List.set_nil, List.length_set, take_set, take_app, take_self, outX_n, decide_true]
  exact (outX_p rfl).mpr ⟨rfl, take_self⟩
/-- what two fractions bring -/
structure Two (p q r s : Int) : Prop where
  hp : p.natAbs < 10 ^ 140
  hq : q.natAbs < 10 ^ 140
  hr : r.natAbs < 10 ^ 140
  hs : s.natAbs < 10 ^ 140
  q0 : 0 < q
  s0 : 0 < s
theorem b140 {i : Int} (h : i.natAbs < 10 ^ 140) : i.natAbs < BB := lt_BB h (by decide)
theorem m280 {i j : Int} (hi : i.natAbs < 10 ^ 140) (hj : j.natAbs < 10 ^ 140) : (i * j).natAbs < 10 ^ 280 := mul_lt10 hi hj
theorem b280 {i : Int} (h : i.natAbs < 10 ^ 280) : i.natAbs < BB := lt_BB h (by decide)
theorem at0 {x y : D} : atI [x, y] 0 = some x := rfl
theorem at1 {x y : D} : atI [x, y] 1 = some y := rfl
theorem f4 {n : Nat} (hn : 2 ≤ n) (p q r s : Int) (μ : Mu) (h : Two p q r s) : F n 4 [tp [p, q], tp [r, s]] μ = .ok (tp (fracL (p * s + r * q) (q * s))) μ := by
  obtain ⟨k, rfl⟩ : ∃ k, n = k + 1 := ⟨n - 1, by omega⟩
  rw [F, s4_eq]
  unfold s4
  refine ev_eq ?_
  simp only [↓ev_out, ↓ev_sqM, ↓ev_foM, ↓ev_setM, ↓ev_asgM, ↓ev_putM, ↓ev_ifM, ↓ev_tvM, ↓ev_tnM, ↓ev_taM, ↓ev_toM, ↓ev_op2, ↓ev_gV, ↓ev_kM, ↓ev_rtM, ↓ev_exM, ↓ev_neM, ↓ev_notM, ↓ev_andM, ↓ev_orM, ↓ev_nxM, ↓ev_app, ↓ev_nil, ↓ev_cons, ↓ev_callF, ↓ev_callM, ↓ev_slM, ↓ev_ptM, ↓ev_asI, ↓ev_seM, ↓ev_itL, ↓ev_itT, ↓ev_mkT, ↓ev_mkL, ↓ev_lcM, ↓ev_dispM, ↓ev_lft, ↓thenK_nx, ↓thenK_rt, ↓thenK_bk, ↓thenK_ct, ↓tgK_s, ↓outK_rt, ↓outK_nx, ↓vK_s, ↓turnK_nx, ↓turnK_rt, ↓turnK_bk, ↓turnK_ct, ↓ev_asB, ↓ev_add, ↓ev_sub, ↓ev_mul, ↓ev_fdiv, ↓ev_mod, ↓ev_pow, ↓ev_neg, ↓ev_eqI, ↓ev_neI, ↓ev_lt, ↓ev_le, ↓ev_gt, ↓ev_ge, ↓ev_gcd, ↓ev_absI, ↓ev_maxI, ↓ev_minI, ↓ev_intI, ↓ev_intB, ↓ev_tupT, ↓ev_tupL, ↓ev_lstT, ↓ev_lstL, ↓ev_lenT, ↓ev_lenL, ↓ev_catL, ↓ev_catT, ↓ev_ixT, ↓ev_ixL, ↓ev_slT, ↓ev_slL, ↓ev_isN, ↓ev_isNotN, ↓ev_zipTT, ↓ev_enumT, ↓ev_enumL, ↓ev_eqS, ↓ev_endI, ↓ev_endB, ↓ev_endN, ↓ev_endS, ↓ev_endTI, ↓ev_endLI, ↓ev_endTF, ↓ev_endLF, ↓ev_raiM, ↓ev_haM, ↓ev_fqM, ↓ev_lcG, ↓ev_mkR, startD, pick, setTg, setAll, wipeD, List.map_cons, List.map_nil, List.length_cons, List.length_nil, List.cons_append, List.nil_append, List.getElem?_cons_zero, List.getElem?_cons_succ, List.set_cons_zero, List.set_cons_succ, List.replicate_succ, List.replicate_zero, List.filterMap_cons, List.filterMap_nil, Nat.reduceAdd, Nat.reduceSub, Nat.reduceLeDiff, and_self, if_true, decide_eq_true_eq, true_and, and_true, List.set_nil, List.length_set, take_set, take_app, take_self, at0, at1, mulB (b140 h.hp) (b140 h.hs), mulB (b140 h.hr) (b140 h.hq), mulB (b140 h.hq) (b140 h.hs)]
  exact (ev_of (f3 (by omega) _ _ μ (Int.ne_of_gt (Int.mul_pos h.q0 h.s0)) (b280 (m280 h.hq h.hs)))).mpr (end_p (pures_ints _))
theorem f5 {n : Nat} (hn : 2 ≤ n) (p q r s : Int) (μ : Mu) (h : Two p q r s) : F n 5 [tp [p, q], tp [r, s]] μ = .ok (tp (fracL (p * s - r * q) (q * s))) μ := by
  obtain ⟨k, rfl⟩ : ∃ k, n = k + 1 := ⟨n - 1, by omega⟩
  rw [F, s5_eq]
  unfold s5
  refine ev_eq ?_
  simp only [↓ev_out, ↓ev_sqM, ↓ev_foM, ↓ev_setM, ↓ev_asgM, ↓ev_putM, ↓ev_ifM, ↓ev_tvM, ↓ev_tnM, ↓ev_taM, ↓ev_toM, ↓ev_op2, ↓ev_gV, ↓ev_kM, ↓ev_rtM, ↓ev_exM, ↓ev_neM, ↓ev_notM, ↓ev_andM, ↓ev_orM, ↓ev_nxM, ↓ev_app, ↓ev_nil, ↓ev_cons, ↓ev_callF, ↓ev_callM, ↓ev_slM, ↓ev_ptM, ↓ev_asI, ↓ev_seM, ↓ev_itL, ↓ev_itT, ↓ev_mkT, ↓ev_mkL, ↓ev_lcM, ↓ev_dispM, ↓ev_lft, ↓thenK_nx, ↓thenK_rt, ↓thenK_bk, ↓thenK_ct, ↓tgK_s, ↓outK_rt, ↓outK_nx, ↓vK_s, ↓turnK_nx, ↓turnK_rt, ↓turnK_bk, ↓turnK_ct, ↓ev_asB, ↓ev_add, ↓ev_sub, ↓ev_mul, ↓ev_fdiv, ↓ev_mod, ↓ev_pow, ↓ev_neg, ↓ev_eqI, ↓ev_neI, ↓ev_lt, ↓ev_le, ↓ev_gt, ↓ev_ge, ↓ev_gcd, ↓ev_absI, ↓ev_maxI, ↓ev_minI, ↓ev_intI, ↓ev_intB, ↓ev_tupT, ↓ev_tupL, ↓ev_lstT, ↓ev_lstL, ↓ev_lenT, ↓ev_lenL, ↓ev_catL, ↓ev_catT, ↓ev_ixT, ↓ev_ixL, ↓ev_slT, ↓ev_slL, ↓ev_isN, ↓ev_isNotN, ↓ev_zipTT, ↓ev_enumT, ↓ev_enumL, ↓ev_eqS, ↓ev_endI, ↓ev_endB, ↓ev_endN, ↓ev_endS, ↓ev_endTI, ↓ev_endLI, ↓ev_endTF, ↓ev_endLF, ↓ev_raiM, ↓ev_haM, ↓ev_fqM, ↓ev_lcG, ↓ev_mkR, startD, pick, setTg, setAll, wipeD, List.map_cons, List.map_nil, List.length_cons, List.length_nil, List.cons_append, List.nil_append, List.getElem?_cons_zero, List.getElem?_cons_succ, List.set_cons_zero, List.set_cons_succ, List.replicate_succ, List.replicate_zero, List.filterMap_cons, List.filterMap_nil, Nat.reduceAdd, Nat.reduceSub, Nat.reduceLeDiff, and_self, if_true, decide_eq_true_eq, true_and, and_true, List.set_nil, List.length_set, take_set, take_app, take_self, at0, at1, mulB (b140 h.hp) (b140 h.hs), mulB (b140 h.hr) (b140 h.hq), mulB (b140 h.hq) (b140 h.hs)]
  exact (ev_of (f3 (by omega) _ _ μ (Int.ne_of_gt (Int.mul_pos h.q0 h.s0)) (b280 (m280 h.hq h.hs)))).mpr (end_p (pures_ints _))
theorem f6 {n : Nat} (hn : 2 ≤ n) (p q r s : Int) (μ : Mu) (h : Two p q r s) : F n 6 [tp [p, q], tp [r, s]] μ = .ok (tp (fracL (p * r) (q * s))) μ := by
  obtain ⟨k, rfl⟩ : ∃ k, n = k + 1 := ⟨n - 1, by omega⟩
  rw [F, s6_eq]
  unfold s6
  refine ev_eq ?_
  simp only [↓ev_out, ↓ev_sqM, ↓ev_foM, ↓ev_setM, ↓ev_asgM, ↓ev_putM, ↓ev_ifM, ↓ev_tvM, ↓ev_tnM, ↓ev_taM, ↓ev_toM, ↓ev_op2, ↓ev_gV, ↓ev_kM, ↓ev_rtM, ↓ev_exM, ↓ev_neM, ↓ev_notM, ↓ev_andM, ↓ev_orM, ↓ev_nxM, ↓ev_app, ↓ev_nil, ↓ev_cons, ↓ev_callF, ↓ev_callM, ↓ev_slM, ↓ev_ptM, ↓ev_asI, ↓ev_seM, ↓ev_itL, ↓ev_itT, ↓ev_mkT, ↓ev_mkL, ↓ev_lcM, ↓ev_dispM, ↓ev_lft, ↓thenK_nx, ↓thenK_rt, ↓thenK_bk, ↓thenK_ct, ↓tgK_s, ↓outK_rt, ↓outK_nx, ↓vK_s, ↓turnK_nx, ↓turnK_rt, ↓turnK_bk, ↓turnK_ct, ↓ev_asB, ↓ev_add, ↓ev_sub, ↓ev_mul, ↓ev_fdiv, ↓ev_mod, ↓ev_pow, ↓ev_neg, ↓ev_eqI, ↓ev_neI, ↓ev_lt, ↓ev_le, ↓ev_gt, ↓ev_ge, ↓ev_gcd, ↓ev_absI, ↓ev_maxI, ↓ev_minI, ↓ev_intI, ↓ev_intB, ↓ev_tupT, ↓ev_tupL, ↓ev_lstT, ↓ev_lstL, ↓ev_lenT, ↓ev_lenL, ↓ev_catL, ↓ev_catT, ↓ev_ixT, ↓ev_ixL, ↓ev_slT, ↓ev_slL, ↓ev_isN, ↓ev_isNotN, ↓ev_zipTT, ↓ev_enumT, ↓ev_enumL, ↓ev_eqS, ↓ev_endI, ↓ev_endB, ↓ev_endN, ↓ev_endS, ↓ev_endTI, ↓ev_endLI, ↓ev_endTF, ↓ev_endLF, ↓ev_raiM, ↓ev_haM, ↓ev_fqM, ↓ev_lcG, ↓ev_mkR, startD, pick, setTg, setAll, wipeD, List.map_cons, List.map_nil, List.length_cons, List.length_nil, List.cons_append, List.nil_append, List.getElem?_cons_zero, List.getElem?_cons_succ, List.set_cons_zero, List.set_cons_succ, List.replicate_succ, List.replicate_zero, List.filterMap_cons, List.filterMap_nil, Nat.reduceAdd, Nat.reduceSub, Nat.reduceLeDiff, and_self, if_true, decide_eq_true_eq, true_and, and_true, List.set_nil, List.length_set, take_set, take_app, take_self, at0, at1, mulB (b140 h.hp) (b140 h.hr), mulB (b140 h.hq) (b140 h.hs)]
  exact (ev_of (f3 (by omega) _ _ μ (Int.ne_of_gt (Int.mul_pos h.q0 h.s0)) (b280 (m280 h.hq h.hs)))).mpr (end_p (pures_ints _))
theorem f7 {n : Nat} (hn : 2 ≤ n) (p q r s : Int) (μ : Mu) (h : Two p q r s) (h0 : r ≠ 0) : F n 7 [tp [p, q], tp [r, s]] μ = .ok (tp (fracL (p * s) (q * r))) μ := by
  obtain ⟨k, rfl⟩ : ∃ k, n = k + 1 := ⟨n - 1, by omega⟩
  rw [F, s7_eq]
  unfold s7
  refine ev_eq ?_
  simp only [↓ev_out, ↓ev_sqM, ↓ev_foM, ↓ev_setM, ↓ev_asgM, ↓ev_putM, ↓ev_ifM, ↓ev_tvM, ↓ev_tnM, ↓ev_taM, ↓ev_toM, ↓ev_op2, ↓ev_gV, ↓ev_kM, ↓ev_rtM, ↓ev_exM, ↓ev_neM, ↓ev_notM, ↓ev_andM, ↓ev_orM, ↓ev_nxM, ↓ev_app, ↓ev_nil, ↓ev_cons, ↓ev_callF, ↓ev_callM, ↓ev_slM, ↓ev_ptM, ↓ev_asI, ↓ev_seM, ↓ev_itL, ↓ev_itT, ↓ev_mkT, ↓ev_mkL, ↓ev_lcM, ↓ev_dispM, ↓ev_lft, ↓thenK_nx, ↓thenK_rt, ↓thenK_bk, ↓thenK_ct, ↓tgK_s, ↓outK_rt, ↓outK_nx, ↓vK_s, ↓turnK_nx, ↓turnK_rt, ↓turnK_bk, ↓turnK_ct, ↓ev_asB, ↓ev_add, ↓ev_sub, ↓ev_mul, ↓ev_fdiv, ↓ev_mod, ↓ev_pow, ↓ev_neg, ↓ev_eqI, ↓ev_neI, ↓ev_lt, ↓ev_le, ↓ev_gt, ↓ev_ge, ↓ev_gcd, ↓ev_absI, ↓ev_maxI, ↓ev_minI, ↓ev_intI, ↓ev_intB, ↓ev_tupT, ↓ev_tupL, ↓ev_lstT, ↓ev_lstL, ↓ev_lenT, ↓ev_lenL, ↓ev_catL, ↓ev_catT, ↓ev_ixT, ↓ev_ixL, ↓ev_slT, ↓ev_slL, ↓ev_isN, ↓ev_isNotN, ↓ev_zipTT, ↓ev_enumT, ↓ev_enumL, ↓ev_eqS, ↓ev_endI, ↓ev_endB, ↓ev_endN, ↓ev_endS, ↓ev_endTI, ↓ev_endLI, ↓ev_endTF, ↓ev_endLF, ↓ev_raiM, ↓ev_haM, ↓ev_fqM, ↓ev_lcG, ↓ev_mkR, startD, pick, setTg, setAll, wipeD, List.map_cons, List.map_nil, List.length_cons, List.length_nil, List.cons_append, List.nil_append, List.getElem?_cons_zero, List.getElem?_cons_succ, List.set_cons_zero, List.set_cons_succ, List.replicate_succ, List.replicate_zero, List.filterMap_cons, List.filterMap_nil, Nat.reduceAdd, Nat.reduceSub, Nat.reduceLeDiff, and_self, if_true, decide_eq_true_eq, true_and, and_true, List.set_nil, List.length_set, take_set, take_app, take_self, at0, at1, h0, decide_false, Bool.false_eq_true, if_false, mulB (b140 h.hp) (b140 h.hs), mulB (b140 h.hq) (b140 h.hr)]
  exact (ev_of (f3 (by omega) _ _ μ (Int.mul_ne_zero (Int.ne_of_gt h.q0) h0) (b280 (m280 h.hq h.hr)))).mpr (end_p (pures_ints _))
theorem f7x {n : Nat} (hn : 2 ≤ n) (p q s : Int) (μ : Mu) : F n 7 [tp [p, q], tp [0, s]] μ = .ex ⟨"NotNumber", [("value", tp [0, s])]⟩ μ := by
  obtain ⟨k, rfl⟩ : ∃ k, n = k + 1 := ⟨n - 1, by omega⟩
  rw [F, s7_eq]
  unfold s7
  refine ex_eq ?_
  simp only [↓ex_out, ↓ev_sqM, ↓ev_foM, ↓ev_setM, ↓ev_asgM, ↓ev_putM, ↓ev_ifM, ↓ev_tvM, ↓ev_tnM, ↓ev_taM, ↓ev_toM, ↓ev_op2, ↓ev_gV, ↓ev_kM, ↓ev_rtM, ↓ev_exM, ↓ev_neM, ↓ev_notM, ↓ev_andM, ↓ev_orM, ↓ev_nxM, ↓ev_app, ↓ev_nil, ↓ev_cons, ↓ev_callF, ↓ev_callM, ↓ev_slM, ↓ev_ptM, ↓ev_asI, ↓ev_seM, ↓ev_itL, ↓ev_itT, ↓ev_mkT, ↓ev_mkL, ↓ev_lcM, ↓ev_dispM, ↓ev_lft, ↓thenK_nx, ↓thenK_rt, ↓thenK_bk, ↓thenK_ct, ↓tgK_s, ↓outK_rt, ↓outK_nx, ↓vK_s, ↓turnK_nx, ↓turnK_rt, ↓turnK_bk, ↓turnK_ct, ↓ev_asB, ↓ev_add, ↓ev_sub, ↓ev_mul, ↓ev_fdiv, ↓ev_mod, ↓ev_pow, ↓ev_neg, ↓ev_eqI, ↓ev_neI, ↓ev_lt, ↓ev_le, ↓ev_gt, ↓ev_ge, ↓ev_gcd, ↓ev_absI, ↓ev_maxI, ↓ev_minI, ↓ev_intI, ↓ev_intB, ↓ev_tupT, ↓ev_tupL, ↓ev_lstT, ↓ev_lstL, ↓ev_lenT, ↓ev_lenL, ↓ev_catL, ↓ev_catT, ↓ev_ixT, ↓ev_ixL, ↓ev_slT, ↓ev_slL, ↓ev_isN, ↓ev_isNotN, ↓ev_zipTT, ↓ev_enumT, ↓ev_enumL, ↓ev_eqS, ↓ev_endI, ↓ev_endB, ↓ev_endN, ↓ev_endS, ↓ev_endTI, ↓ev_endLI, ↓ev_endTF, ↓ev_endLF, ↓ev_raiM, ↓ev_haM, ↓ev_fqM, ↓ev_lcG, ↓ev_mkR, startD, pick, setTg, setAll, wipeD, List.map_cons, List.map_nil, List.length_cons, List.length_nil, List.cons_append, List.nil_append, List.getElem?_cons_zero, List.getElem?_cons_succ, List.set_cons_zero, List.set_cons_succ, List.replicate_succ, List.replicate_zero, List.filterMap_cons, List.filterMap_nil, Nat.reduceAdd, Nat.reduceSub, Nat.reduceLeDiff, and_self, if_true, decide_eq_true_eq, true_and, and_true, List.set_nil, List.length_set, take_set, take_app, take_self, outX_n, at0, decide_true]
  exact (outX_p rfl).mpr ⟨rfl, take_self⟩
theorem f8 {n : Nat} (hn : 2 ≤ n) (p q r s : Int) (μ : Mu) (h : Two p q r s) : F n 8 [tp [p, q], tp [r, s]] μ = .ok (tp (fracL (p * s + r * q) (2 * q * s))) μ := by
  obtain ⟨k, rfl⟩ : ∃ k, n = k + 1 := ⟨n - 1, by omega⟩
  rw [F, s8_eq]
  unfold s8
  refine ev_eq ?_
  have h2 : (2 * q).natAbs < 10 ^ 141 := by have := h.hq; rw [Int.natAbs_mul]; show 2 * _ < _; omega
  have m2 : mulOk 2 q = true := mul64l (by decide)
  simp only [↓ev_out, ↓ev_sqM, ↓ev_foM, ↓ev_setM, ↓ev_asgM, ↓ev_putM, ↓ev_ifM, ↓ev_tvM, ↓ev_tnM, ↓ev_taM, ↓ev_toM, ↓ev_op2, ↓ev_gV, ↓ev_kM, ↓ev_rtM, ↓ev_exM, ↓ev_neM, ↓ev_notM, ↓ev_andM, ↓ev_orM, ↓ev_nxM, ↓ev_app, ↓ev_nil, ↓ev_cons, ↓ev_callF, ↓ev_callM, ↓ev_slM, ↓ev_ptM, ↓ev_asI, ↓ev_seM, ↓ev_itL, ↓ev_itT, ↓ev_mkT, ↓ev_mkL, ↓ev_lcM, ↓ev_dispM, ↓ev_lft, ↓thenK_nx, ↓thenK_rt, ↓thenK_bk, ↓thenK_ct, ↓tgK_s, ↓outK_rt, ↓outK_nx, ↓vK_s, ↓turnK_nx, ↓turnK_rt, ↓turnK_bk, ↓turnK_ct, ↓ev_asB, ↓ev_add, ↓ev_sub, ↓ev_mul, ↓ev_fdiv, ↓ev_mod, ↓ev_pow, ↓ev_neg, ↓ev_eqI, ↓ev_neI, ↓ev_lt, ↓ev_le, ↓ev_gt, ↓ev_ge, ↓ev_gcd, ↓ev_absI, ↓ev_maxI, ↓ev_minI, ↓ev_intI, ↓ev_intB, ↓ev_tupT, ↓ev_tupL, ↓ev_lstT, ↓ev_lstL, ↓ev_lenT, ↓ev_lenL, ↓ev_catL, ↓ev_catT, ↓ev_ixT, ↓ev_ixL, ↓ev_slT, ↓ev_slL, ↓ev_isN, ↓ev_isNotN, ↓ev_zipTT, ↓ev_enumT, ↓ev_enumL, ↓ev_eqS, ↓ev_endI, ↓ev_endB, ↓ev_endN, ↓ev_endS, ↓ev_endTI, ↓ev_endLI, ↓ev_endTF, ↓ev_endLF, ↓ev_raiM, ↓ev_haM, ↓ev_fqM, ↓ev_lcG, ↓ev_mkR, startD, pick, setTg, setAll, wipeD, List.map_cons, List.map_nil, List.length_cons, List.length_nil, List.cons_append, List.nil_append, List.getElem?_cons_zero, List.getElem?_cons_succ, List.set_cons_zero, List.set_cons_succ, List.replicate_succ, List.replicate_zero, List.filterMap_cons, List.filterMap_nil, Nat.reduceAdd, Nat.reduceSub, Nat.reduceLeDiff, and_self, if_true, decide_eq_true_eq, true_and, and_true, List.set_nil, List.length_set, take_set, take_app, take_self, at0, at1, m2, mulB (b140 h.hp) (b140 h.hs), mulB (b140 h.hr) (b140 h.hq), mulB (lt_BB h2 (by decide)) (b140 h.hs)]
  have hb : (2 * q * s).natAbs < BB := lt_BB (mul_lt10 h2 h.hs) (by decide)
  have h0 : 2 * q * s ≠ 0 := Int.ne_of_gt (Int.mul_pos (by have := h.q0; omega) h.s0)
  exact (ev_of (f3 (by omega) _ _ μ h0 hb)).mpr (end_p (pures_ints _))
theorem f9 {n : Nat} (hn : 2 ≤ n) (p q r s : Int) (μ : Mu) (h : Two p q r s) : F n 9 [tp [p, q], tp [r, s]] μ = .ok (.int (sgn (p * s - r * q))) μ := by
  obtain ⟨k, rfl⟩ : ∃ k, n = k + 1 := ⟨n - 1, by omega⟩
  rw [F, s9_eq]
  unfold s9
  refine ev_eq ?_
  simp only [↓ev_out, ↓ev_sqM, ↓ev_foM, ↓ev_setM, ↓ev_asgM, ↓ev_putM, ↓ev_ifM, ↓ev_tvM, ↓ev_tnM, ↓ev_taM, ↓ev_toM, ↓ev_op2, ↓ev_gV, ↓ev_kM, ↓ev_rtM, ↓ev_exM, ↓ev_neM, ↓ev_notM, ↓ev_andM, ↓ev_orM, ↓ev_nxM, ↓ev_app, ↓ev_nil, ↓ev_cons, ↓ev_callF, ↓ev_callM, ↓ev_slM, ↓ev_ptM, ↓ev_asI, ↓ev_seM, ↓ev_itL, ↓ev_itT, ↓ev_mkT, ↓ev_mkL, ↓ev_lcM, ↓ev_dispM, ↓ev_lft, ↓thenK_nx, ↓thenK_rt, ↓thenK_bk, ↓thenK_ct, ↓tgK_s, ↓outK_rt, ↓outK_nx, ↓vK_s, ↓turnK_nx, ↓turnK_rt, ↓turnK_bk, ↓turnK_ct, ↓ev_asB, ↓ev_add, ↓ev_sub, ↓ev_mul, ↓ev_fdiv, ↓ev_mod, ↓ev_pow, ↓ev_neg, ↓ev_eqI, ↓ev_neI, ↓ev_lt, ↓ev_le, ↓ev_gt, ↓ev_ge, ↓ev_gcd, ↓ev_absI, ↓ev_maxI, ↓ev_minI, ↓ev_intI, ↓ev_intB, ↓ev_tupT, ↓ev_tupL, ↓ev_lstT, ↓ev_lstL, ↓ev_lenT, ↓ev_lenL, ↓ev_catL, ↓ev_catT, ↓ev_ixT, ↓ev_ixL, ↓ev_slT, ↓ev_slL, ↓ev_isN, ↓ev_isNotN, ↓ev_zipTT, ↓ev_enumT, ↓ev_enumL, ↓ev_eqS, ↓ev_endI, ↓ev_endB, ↓ev_endN, ↓ev_endS, ↓ev_endTI, ↓ev_endLI, ↓ev_endTF, ↓ev_endLF, ↓ev_raiM, ↓ev_haM, ↓ev_fqM, ↓ev_lcG, ↓ev_mkR, startD, pick, setTg, setAll, wipeD, List.map_cons, List.map_nil, List.length_cons, List.length_nil, List.cons_append, List.nil_append, List.getElem?_cons_zero, List.getElem?_cons_succ, List.set_cons_zero, List.set_cons_succ, List.replicate_succ, List.replicate_zero, List.filterMap_cons, List.filterMap_nil, Nat.reduceAdd, Nat.reduceSub, Nat.reduceLeDiff, and_self, if_true, decide_eq_true_eq, true_and, and_true, List.set_nil, List.length_set, take_set, take_app, take_self, at0, at1, mulB (b140 h.hp) (b140 h.hs), mulB (b140 h.hr) (b140 h.hq)]
  refine (ev_of (f1 (by omega) _ μ)).mpr ?_
  simp only [↓ev_out, ↓ev_sqM, ↓ev_foM, ↓ev_setM, ↓ev_asgM, ↓ev_putM, ↓ev_ifM, ↓ev_tvM, ↓ev_tnM, ↓ev_taM, ↓ev_toM, ↓ev_op2, ↓ev_gV, ↓ev_kM, ↓ev_rtM, ↓ev_exM, ↓ev_neM, ↓ev_notM, ↓ev_andM, ↓ev_orM, ↓ev_nxM, ↓ev_app, ↓ev_nil, ↓ev_cons, ↓ev_callF, ↓ev_callM, ↓ev_slM, ↓ev_ptM, ↓ev_asI, ↓ev_seM, ↓ev_itL, ↓ev_itT, ↓ev_mkT, ↓ev_mkL, ↓ev_lcM, ↓ev_dispM, ↓ev_lft, ↓thenK_nx, ↓thenK_rt, ↓thenK_bk, ↓thenK_ct, ↓tgK_s, ↓outK_rt, ↓outK_nx, ↓vK_s, ↓turnK_nx, ↓turnK_rt, ↓turnK_bk, ↓turnK_ct, ↓ev_asB, ↓ev_add, ↓ev_sub, ↓ev_mul, ↓ev_fdiv, ↓ev_mod, ↓ev_pow, ↓ev_neg, ↓ev_eqI, ↓ev_neI, ↓ev_lt, ↓ev_le, ↓ev_gt, ↓ev_ge, ↓ev_gcd, ↓ev_absI, ↓ev_maxI, ↓ev_minI, ↓ev_intI, ↓ev_intB, ↓ev_tupT, ↓ev_tupL, ↓ev_lstT, ↓ev_lstL, ↓ev_lenT, ↓ev_lenL, ↓ev_catL, ↓ev_catT, ↓ev_ixT, ↓ev_ixL, ↓ev_slT, ↓ev_slL, ↓ev_isN, ↓ev_isNotN, ↓ev_zipTT, ↓ev_enumT, ↓ev_enumL, ↓ev_eqS, ↓ev_endI, ↓ev_endB, ↓ev_endN, ↓ev_endS, ↓ev_endTI, ↓ev_endLI, ↓ev_endTF, ↓ev_endLF, ↓ev_raiM, ↓ev_haM, ↓ev_fqM, ↓ev_lcG, ↓ev_mkR, startD, pick, setTg, setAll, wipeD, List.map_cons, List.map_nil, List.length_cons, List.length_nil, List.cons_append, List.nil_append, List.getElem?_cons_zero, List.getElem?_cons_succ, List.set_cons_zero, List.set_cons_succ, List.replicate_succ, List.replicate_zero, List.filterMap_cons, List.filterMap_nil, Nat.reduceAdd, Nat.reduceSub, Nat.reduceLeDiff, and_self, if_true, decide_eq_true_eq, true_and, and_true, List.set_nil, List.length_set, take_set, take_app, take_self]
end K00
namespace K00
open PySem L2 PX
local instance : Tabc := ⟨[]⟩
theorem f17 {n : Nat} (hn : 2 ≤ n) {j c : Nat} {μ : Mu} (h : MAt j c μ) (hc : c + 25 ≤ CAP) : Ew NoX (F n 17 [.ref j] μ) fun d μ' => (∃ i : Int, d = .int i ∧ i.natAbs < 10 ^ 140) ∧ Sj j μ μ' ∧ MAt j (c + 25) μ' := by
  obtain ⟨k, rfl⟩ : ∃ k, n = k + 1 := ⟨n - 1, by omega⟩
  rw [F, s17_eq]
  unfold s17
  simp only [↓ev_out, ↓ev_sqM, ↓ev_foM, ↓ev_setM, ↓ev_asgM, ↓ev_putM, ↓ev_ifM, ↓ev_tvM, ↓ev_tnM, ↓ev_taM, ↓ev_toM, ↓ev_op2, ↓ev_gV, ↓ev_kM, ↓ev_rtM, ↓ev_exM, ↓ev_neM, ↓ev_notM, ↓ev_andM, ↓ev_orM, ↓ev_nxM, ↓ev_app, ↓ev_nil, ↓ev_cons, ↓ev_callF, ↓ev_callM, ↓ev_slM, ↓ev_ptM, ↓ev_asI, ↓ev_seM, ↓ev_itL, ↓ev_itT, ↓ev_mkT, ↓ev_mkL, ↓ev_lcM, ↓ev_dispM, ↓ev_lft, ↓thenK_nx, ↓thenK_rt, ↓thenK_bk, ↓thenK_ct, ↓tgK_s, ↓outK_rt, ↓outK_nx, ↓vK_s, ↓turnK_nx, ↓turnK_rt, ↓turnK_bk, ↓turnK_ct, ↓ev_asB, ↓ev_add, ↓ev_sub, ↓ev_mul, ↓ev_fdiv, ↓ev_mod, ↓ev_pow, ↓ev_neg, ↓ev_eqI, ↓ev_neI, ↓ev_lt, ↓ev_le, ↓ev_gt, ↓ev_ge, ↓ev_gcd, ↓ev_absI, ↓ev_maxI, ↓ev_minI, ↓ev_intI, ↓ev_intB, ↓ev_tupT, ↓ev_tupL, ↓ev_lstT, ↓ev_lstL, ↓ev_lenT, ↓ev_lenL, ↓ev_catL, ↓ev_catT, ↓ev_ixT, ↓ev_ixL, ↓ev_slT, ↓ev_slL, ↓ev_isN, ↓ev_isNotN, ↓ev_zipTT, ↓ev_enumT, ↓ev_enumL, ↓ev_eqS, ↓ev_endI, ↓ev_endB, ↓ev_endN, ↓ev_endS, ↓ev_endTI, ↓ev_endLI, ↓ev_endTF, ↓ev_endLF, ↓ev_raiM, ↓ev_haM, ↓ev_fqM, ↓ev_lcG, ↓ev_mkR, startD, pick, setTg, setAll, wipeD, List.map_cons, List.map_nil, List.length_cons, List.length_nil, List.cons_append, List.nil_append, List.getElem?_cons_zero, List.getElem?_cons_succ, List.set_cons_zero, List.set_cons_succ, List.replicate_succ, List.replicate_zero, List.filterMap_cons, List.filterMap_nil, Nat.reduceAdd, Nat.reduceSub, Nat.reduceLeDiff, and_self, if_true, decide_eq_true_eq, true_and, and_true, List.set_nil, List.length_set, take_set, take_app, take_self]
  refine ev_imp (f11d (by omega) h (by omega) (by decide) (by decide)) ?_
  rintro _ μ1 ⟨r1, rfl, a1, b1, s1, m1⟩
  simp only [↓ev_out, ↓ev_sqM, ↓ev_foM, ↓ev_setM, ↓ev_asgM, ↓ev_putM, ↓ev_ifM, ↓ev_tvM, ↓ev_tnM, ↓ev_taM, ↓ev_toM, ↓ev_op2, ↓ev_gV, ↓ev_kM, ↓ev_rtM, ↓ev_exM, ↓ev_neM, ↓ev_notM, ↓ev_andM, ↓ev_orM, ↓ev_nxM, ↓ev_app, ↓ev_nil, ↓ev_cons, ↓ev_callF, ↓ev_callM, ↓ev_slM, ↓ev_ptM, ↓ev_asI, ↓ev_seM, ↓ev_itL, ↓ev_itT, ↓ev_mkT, ↓ev_mkL, ↓ev_lcM, ↓ev_dispM, ↓ev_lft, ↓thenK_nx, ↓thenK_rt, ↓thenK_bk, ↓thenK_ct, ↓tgK_s, ↓outK_rt, ↓outK_nx, ↓vK_s, ↓turnK_nx, ↓turnK_rt, ↓turnK_bk, ↓turnK_ct, ↓ev_asB, ↓ev_add, ↓ev_sub, ↓ev_mul, ↓ev_fdiv, ↓ev_mod, ↓ev_pow, ↓ev_neg, ↓ev_eqI, ↓ev_neI, ↓ev_lt, ↓ev_le, ↓ev_gt, ↓ev_ge, ↓ev_gcd, ↓ev_absI, ↓ev_maxI, ↓ev_minI, ↓ev_intI, ↓ev_intB, ↓ev_tupT, ↓ev_tupL, ↓ev_lstT, ↓ev_lstL, ↓ev_lenT, ↓ev_lenL, ↓ev_catL, ↓ev_catT, ↓ev_ixT, ↓ev_ixL, ↓ev_slT, ↓ev_slL, ↓ev_isN, ↓ev_isNotN, ↓ev_zipTT, ↓ev_enumT, ↓ev_enumL, ↓ev_eqS, ↓ev_endI, ↓ev_endB, ↓ev_endN, ↓ev_endS, ↓ev_endTI, ↓ev_endLI, ↓ev_endTF, ↓ev_endLF, ↓ev_raiM, ↓ev_haM, ↓ev_fqM, ↓ev_lcG, ↓ev_mkR, startD, pick, setTg, setAll, wipeD, List.map_cons, List.map_nil, List.length_cons, List.length_nil, List.cons_append, List.nil_append, List.getElem?_cons_zero, List.getElem?_cons_succ, List.set_cons_zero, List.set_cons_succ, List.replicate_succ, List.replicate_zero, List.filterMap_cons, List.filterMap_nil, Nat.reduceAdd, Nat.reduceSub, Nat.reduceLeDiff, and_self, if_true, decide_eq_true_eq, true_and, and_true, List.set_nil, List.length_set, take_set, take_app, take_self]
  refine ev_imp (f11d (by omega) m1 (by omega) (by decide) (by decide)) ?_
  rintro _ μ2 ⟨r2, rfl, a2, b2, s2, m2⟩
  have s12 := s1.trans s2
  have small : (r1 - 9).natAbs < 10 ^ 1 := by
    have : (10 : Nat) ^ 1 = 10 := rfl
    omega
  by_cases h2 : 0 < r2
  · simp only [↓ev_out, ↓ev_sqM, ↓ev_foM, ↓ev_setM, ↓ev_asgM, ↓ev_putM, ↓ev_ifM, ↓ev_tvM, ↓ev_tnM, ↓ev_taM, ↓ev_toM, ↓ev_op2, ↓ev_gV, ↓ev_kM, ↓ev_rtM, ↓ev_exM, ↓ev_neM, ↓ev_notM, ↓ev_andM, ↓ev_orM, ↓ev_nxM, ↓ev_app, ↓ev_nil, ↓ev_cons, ↓ev_callF, ↓ev_callM, ↓ev_slM, ↓ev_ptM, ↓ev_asI, ↓ev_seM, ↓ev_itL, ↓ev_itT, ↓ev_mkT, ↓ev_mkL, ↓ev_lcM, ↓ev_dispM, ↓ev_lft, ↓thenK_nx, ↓thenK_rt, ↓thenK_bk, ↓thenK_ct, ↓tgK_s, ↓outK_rt, ↓outK_nx, ↓vK_s, ↓turnK_nx, ↓turnK_rt, ↓turnK_bk, ↓turnK_ct, ↓ev_asB, ↓ev_add, ↓ev_sub, ↓ev_mul, ↓ev_fdiv, ↓ev_mod, ↓ev_pow, ↓ev_neg, ↓ev_eqI, ↓ev_neI, ↓ev_lt, ↓ev_le, ↓ev_gt, ↓ev_ge, ↓ev_gcd, ↓ev_absI, ↓ev_maxI, ↓ev_minI, ↓ev_intI, ↓ev_intB, ↓ev_tupT, ↓ev_tupL, ↓ev_lstT, ↓ev_lstL, ↓ev_lenT, ↓ev_lenL, ↓ev_catL, ↓ev_catT, ↓ev_ixT, ↓ev_ixL, ↓ev_slT, ↓ev_slL, ↓ev_isN, ↓ev_isNotN, ↓ev_zipTT, ↓ev_enumT, ↓ev_enumL, ↓ev_eqS, ↓ev_endI, ↓ev_endB, ↓ev_endN, ↓ev_endS, ↓ev_endTI, ↓ev_endLI, ↓ev_endTF, ↓ev_endLF, ↓ev_raiM, ↓ev_haM, ↓ev_fqM, ↓ev_lcG, ↓ev_mkR, startD, pick, setTg, setAll, wipeD, List.map_cons, List.map_nil, List.length_cons, List.length_nil, List.cons_append, List.nil_append, List.getElem?_cons_zero, List.getElem?_cons_succ, List.set_cons_zero, List.set_cons_succ, List.replicate_succ, List.replicate_zero, List.filterMap_cons, List.filterMap_nil, Nat.reduceAdd, Nat.reduceSub, Nat.reduceLeDiff, and_self, if_true, decide_eq_true_eq, true_and, and_true, List.set_nil, List.length_set, take_set, take_app, take_self, h2, decide_true]
    rw [sj_take s12]
    exact ⟨⟨_, rfl, up10 small (by decide)⟩, s12, m2.le (by omega)⟩
  · simp only [↓ev_out, ↓ev_sqM, ↓ev_foM, ↓ev_setM, ↓ev_asgM, ↓ev_putM, ↓ev_ifM, ↓ev_tvM, ↓ev_tnM, ↓ev_taM, ↓ev_toM, ↓ev_op2, ↓ev_gV, ↓ev_kM, ↓ev_rtM, ↓ev_exM, ↓ev_neM, ↓ev_notM, ↓ev_andM, ↓ev_orM, ↓ev_nxM, ↓ev_app, ↓ev_nil, ↓ev_cons, ↓ev_callF, ↓ev_callM, ↓ev_slM, ↓ev_ptM, ↓ev_asI, ↓ev_seM, ↓ev_itL, ↓ev_itT, ↓ev_mkT, ↓ev_mkL, ↓ev_lcM, ↓ev_dispM, ↓ev_lft, ↓thenK_nx, ↓thenK_rt, ↓thenK_bk, ↓thenK_ct, ↓tgK_s, ↓outK_rt, ↓outK_nx, ↓vK_s, ↓turnK_nx, ↓turnK_rt, ↓turnK_bk, ↓turnK_ct, ↓ev_asB, ↓ev_add, ↓ev_sub, ↓ev_mul, ↓ev_fdiv, ↓ev_mod, ↓ev_pow, ↓ev_neg, ↓ev_eqI, ↓ev_neI, ↓ev_lt, ↓ev_le, ↓ev_gt, ↓ev_ge, ↓ev_gcd, ↓ev_absI, ↓ev_maxI, ↓ev_minI, ↓ev_intI, ↓ev_intB, ↓ev_tupT, ↓ev_tupL, ↓ev_lstT, ↓ev_lstL, ↓ev_lenT, ↓ev_lenL, ↓ev_catL, ↓ev_catT, ↓ev_ixT, ↓ev_ixL, ↓ev_slT, ↓ev_slL, ↓ev_isN, ↓ev_isNotN, ↓ev_zipTT, ↓ev_enumT, ↓ev_enumL, ↓ev_eqS, ↓ev_endI, ↓ev_endB, ↓ev_endN, ↓ev_endS, ↓ev_endTI, ↓ev_endLI, ↓ev_endTF, ↓ev_endLF, ↓ev_raiM, ↓ev_haM, ↓ev_fqM, ↓ev_lcG, ↓ev_mkR, startD, pick, setTg, setAll, wipeD, List.map_cons, List.map_nil, List.length_cons, List.length_nil, List.cons_append, List.nil_append, List.getElem?_cons_zero, List.getElem?_cons_succ, List.set_cons_zero, List.set_cons_succ, List.replicate_succ, List.replicate_zero, List.filterMap_cons, List.filterMap_nil, Nat.reduceAdd, Nat.reduceSub, Nat.reduceLeDiff, and_self, if_true, decide_eq_true_eq, true_and, and_true, List.set_nil, List.length_set, take_set, take_app, take_self, h2, decide_false, Bool.false_eq_true, if_false]
    refine ev_imp (f11d (by omega) m2 (by omega) (by decide) (by decide)) ?_
    rintro _ μ3 ⟨r3, rfl, a3, b3, s3, m3⟩
    obtain ⟨N, rfl⟩ : ∃ N : Nat, r3 = (N : Int) := ⟨r3.toNat, by omega⟩
    rw [rng1_ok (show N ≤ 1000000 by omega)]
    refine ev_for (fun ds ρ μ' => ∃ (t : Nat) (i : Int) (o : Option D), ρ = [some (.ref j), some (.int i), o] ∧ t + ds.length = N ∧ i.natAbs < 10 ^ (1 + 7 * t) ∧ Sj j μ μ' ∧ MAt j (c + 3 + t) μ') ?_ ?_ _ _ _ ⟨0, _, none, rfl, by rw [rngD_length]; omega, small, s12.trans s3, m3⟩
    · rintro x rest ρ μ' ⟨t, i, o, rfl, e, hb, s, m⟩
      rw [List.length_cons] at e
      refine ⟨_, rfl, ?_⟩
      simp only [↓ev_out, ↓ev_sqM, ↓ev_foM, ↓ev_setM, ↓ev_asgM, ↓ev_putM, ↓ev_ifM, ↓ev_tvM, ↓ev_tnM, ↓ev_taM, ↓ev_toM, ↓ev_op2, ↓ev_gV, ↓ev_kM, ↓ev_rtM, ↓ev_exM, ↓ev_neM, ↓ev_notM, ↓ev_andM, ↓ev_orM, ↓ev_nxM, ↓ev_app, ↓ev_nil, ↓ev_cons, ↓ev_callF, ↓ev_callM, ↓ev_slM, ↓ev_ptM, ↓ev_asI, ↓ev_seM, ↓ev_itL, ↓ev_itT, ↓ev_mkT, ↓ev_mkL, ↓ev_lcM, ↓ev_dispM, ↓ev_lft, ↓thenK_nx, ↓thenK_rt, ↓thenK_bk, ↓thenK_ct, ↓tgK_s, ↓outK_rt, ↓outK_nx, ↓vK_s, ↓turnK_nx, ↓turnK_rt, ↓turnK_bk, ↓turnK_ct, ↓ev_asB, ↓ev_add, ↓ev_sub, ↓ev_mul, ↓ev_fdiv, ↓ev_mod, ↓ev_pow, ↓ev_neg, ↓ev_eqI, ↓ev_neI, ↓ev_lt, ↓ev_le, ↓ev_gt, ↓ev_ge, ↓ev_gcd, ↓ev_absI, ↓ev_maxI, ↓ev_minI, ↓ev_intI, ↓ev_intB, ↓ev_tupT, ↓ev_tupL, ↓ev_lstT, ↓ev_lstL, ↓ev_lenT, ↓ev_lenL, ↓ev_catL, ↓ev_catT, ↓ev_ixT, ↓ev_ixL, ↓ev_slT, ↓ev_slL, ↓ev_isN, ↓ev_isNotN, ↓ev_zipTT, ↓ev_enumT, ↓ev_enumL, ↓ev_eqS, ↓ev_endI, ↓ev_endB, ↓ev_endN, ↓ev_endS, ↓ev_endTI, ↓ev_endLI, ↓ev_endTF, ↓ev_endLF, ↓ev_raiM, ↓ev_haM, ↓ev_fqM, ↓ev_lcG, ↓ev_mkR, startD, pick, setTg, setAll, wipeD, List.map_cons, List.map_nil, List.length_cons, List.length_nil, List.cons_append, List.nil_append, List.getElem?_cons_zero, List.getElem?_cons_succ, List.set_cons_zero, List.set_cons_succ, List.replicate_succ, List.replicate_zero, List.filterMap_cons, List.filterMap_nil, Nat.reduceAdd, Nat.reduceSub, Nat.reduceLeDiff, and_self, if_true, decide_eq_true_eq, true_and, and_true, List.set_nil, List.length_set, take_set, take_app, take_self]
      refine ⟨mul64 (by decide), ?_⟩
      refine ev_imp (f11d (by omega) m (by omega) (by decide) (by decide)) ?_
      rintro _ μ4 ⟨r4, rfl, a4, b4, s4, m4⟩
      simp only [↓ev_out, ↓ev_sqM, ↓ev_foM, ↓ev_setM, ↓ev_asgM, ↓ev_putM, ↓ev_ifM, ↓ev_tvM, ↓ev_tnM, ↓ev_taM, ↓ev_toM, ↓ev_op2, ↓ev_gV, ↓ev_kM, ↓ev_rtM, ↓ev_exM, ↓ev_neM, ↓ev_notM, ↓ev_andM, ↓ev_orM, ↓ev_nxM, ↓ev_app, ↓ev_nil, ↓ev_cons, ↓ev_callF, ↓ev_callM, ↓ev_slM, ↓ev_ptM, ↓ev_asI, ↓ev_seM, ↓ev_itL, ↓ev_itT, ↓ev_mkT, ↓ev_mkL, ↓ev_lcM, ↓ev_dispM, ↓ev_lft, ↓thenK_nx, ↓thenK_rt, ↓thenK_bk, ↓thenK_ct, ↓tgK_s, ↓outK_rt, ↓outK_nx, ↓vK_s, ↓turnK_nx, ↓turnK_rt, ↓turnK_bk, ↓turnK_ct, ↓ev_asB, ↓ev_add, ↓ev_sub, ↓ev_mul, ↓ev_fdiv, ↓ev_mod, ↓ev_pow, ↓ev_neg, ↓ev_eqI, ↓ev_neI, ↓ev_lt, ↓ev_le, ↓ev_gt, ↓ev_ge, ↓ev_gcd, ↓ev_absI, ↓ev_maxI, ↓ev_minI, ↓ev_intI, ↓ev_intB, ↓ev_tupT, ↓ev_tupL, ↓ev_lstT, ↓ev_lstL, ↓ev_lenT, ↓ev_lenL, ↓ev_catL, ↓ev_catT, ↓ev_ixT, ↓ev_ixL, ↓ev_slT, ↓ev_slL, ↓ev_isN, ↓ev_isNotN, ↓ev_zipTT, ↓ev_enumT, ↓ev_enumL, ↓ev_eqS, ↓ev_endI, ↓ev_endB, ↓ev_endN, ↓ev_endS, ↓ev_endTI, ↓ev_endLI, ↓ev_endTF, ↓ev_endLF, ↓ev_raiM, ↓ev_haM, ↓ev_fqM, ↓ev_lcG, ↓ev_mkR, startD, pick, setTg, setAll, wipeD, List.map_cons, List.map_nil, List.length_cons, List.length_nil, List.cons_append, List.nil_append, List.getElem?_cons_zero, List.getElem?_cons_succ, List.set_cons_zero, List.set_cons_succ, List.replicate_succ, List.replicate_zero, List.filterMap_cons, List.filterMap_nil, Nat.reduceAdd, Nat.reduceSub, Nat.reduceLeDiff, and_self, if_true, decide_eq_true_eq, true_and, and_true, List.set_nil, List.length_set, take_set, take_app, take_self]
      refine ⟨t + 1, _, _, rfl, by omega, ?_, s.trans s4, m4⟩
      have e1 : 10 ^ (1 + 7 * (t + 1)) = 10 ^ (1 + 7 * t) * 10000000 := by rw [show 1 + 7 * (t + 1) = (1 + 7 * t) + 7 by omega, Nat.pow_add]
      have e2 : (i * 1000003).natAbs = i.natAbs * 1000003 := by rw [Int.natAbs_mul]; rfl
      have p : 1 ≤ 10 ^ (1 + 7 * t) := Nat.pow_pos (by decide)
      rw [e1]
      generalize 10 ^ (1 + 7 * t) = P at hb p
      omega
    · rintro ρ μ' ⟨t, i, o, rfl, e, hb, s, m⟩
      simp only [↓ev_out, ↓ev_sqM, ↓ev_foM, ↓ev_setM, ↓ev_asgM, ↓ev_putM, ↓ev_ifM, ↓ev_tvM, ↓ev_tnM, ↓ev_taM, ↓ev_toM, ↓ev_op2, ↓ev_gV, ↓ev_kM, ↓ev_rtM, ↓ev_exM, ↓ev_neM, ↓ev_notM, ↓ev_andM, ↓ev_orM, ↓ev_nxM, ↓ev_app, ↓ev_nil, ↓ev_cons, ↓ev_callF, ↓ev_callM, ↓ev_slM, ↓ev_ptM, ↓ev_asI, ↓ev_seM, ↓ev_itL, ↓ev_itT, ↓ev_mkT, ↓ev_mkL, ↓ev_lcM, ↓ev_dispM, ↓ev_lft, ↓thenK_nx, ↓thenK_rt, ↓thenK_bk, ↓thenK_ct, ↓tgK_s, ↓outK_rt, ↓outK_nx, ↓vK_s, ↓turnK_nx, ↓turnK_rt, ↓turnK_bk, ↓turnK_ct, ↓ev_asB, ↓ev_add, ↓ev_sub, ↓ev_mul, ↓ev_fdiv, ↓ev_mod, ↓ev_pow, ↓ev_neg, ↓ev_eqI, ↓ev_neI, ↓ev_lt, ↓ev_le, ↓ev_gt, ↓ev_ge, ↓ev_gcd, ↓ev_absI, ↓ev_maxI, ↓ev_minI, ↓ev_intI, ↓ev_intB, ↓ev_tupT, ↓ev_tupL, ↓ev_lstT, ↓ev_lstL, ↓ev_lenT, ↓ev_lenL, ↓ev_catL, ↓ev_catT, ↓ev_ixT, ↓ev_ixL, ↓ev_slT, ↓ev_slL, ↓ev_isN, ↓ev_isNotN, ↓ev_zipTT, ↓ev_enumT, ↓ev_enumL, ↓ev_eqS, ↓ev_endI, ↓ev_endB, ↓ev_endN, ↓ev_endS, ↓ev_endTI, ↓ev_endLI, ↓ev_endTF, ↓ev_endLF, ↓ev_raiM, ↓ev_haM, ↓ev_fqM, ↓ev_lcG, ↓ev_mkR, startD, pick, setTg, setAll, wipeD, List.map_cons, List.map_nil, List.length_cons, List.length_nil, List.cons_append, List.nil_append, List.getElem?_cons_zero, List.getElem?_cons_succ, List.set_cons_zero, List.set_cons_succ, List.replicate_succ, List.replicate_zero, List.filterMap_cons, List.filterMap_nil, Nat.reduceAdd, Nat.reduceSub, Nat.reduceLeDiff, and_self, if_true, decide_eq_true_eq, true_and, and_true, List.set_nil, List.length_set, take_set, take_app, take_self]
      rw [sj_take s]
      have et : t = N := by simpa using e
      exact ⟨⟨_, rfl, up10 hb (by omega)⟩, s, m.le (by omega)⟩
theorem f18 {n : Nat} (hn : 4 ≤ n) {j c : Nat} {μ : Mu} (h : MAt j c μ) (hc : c + 50 ≤ CAP) : Ew NoX (F n 18 [.ref j] μ) fun d μ' => (∃ p q : Int, d = tp [p, q] ∧ Fr p q ∧ p.natAbs < 10 ^ 140 ∧ q.natAbs < 10 ^ 140) ∧ Sj j μ μ' ∧ MAt j (c + 50) μ' := by
  obtain ⟨k, rfl⟩ : ∃ k, n = k + 1 := ⟨n - 1, by omega⟩
  rw [F, s18_eq]
  unfold s18
  simp only [↓ev_out, ↓ev_sqM, ↓ev_foM, ↓ev_setM, ↓ev_asgM, ↓ev_putM, ↓ev_ifM, ↓ev_tvM, ↓ev_tnM, ↓ev_taM, ↓ev_toM, ↓ev_op2, ↓ev_gV, ↓ev_kM, ↓ev_rtM, ↓ev_exM, ↓ev_neM, ↓ev_notM, ↓ev_andM, ↓ev_orM, ↓ev_nxM, ↓ev_app, ↓ev_nil, ↓ev_cons, ↓ev_callF, ↓ev_callM, ↓ev_slM, ↓ev_ptM, ↓ev_asI, ↓ev_seM, ↓ev_itL, ↓ev_itT, ↓ev_mkT, ↓ev_mkL, ↓ev_lcM, ↓ev_dispM, ↓ev_lft, ↓thenK_nx, ↓thenK_rt, ↓thenK_bk, ↓thenK_ct, ↓tgK_s, ↓outK_rt, ↓outK_nx, ↓vK_s, ↓turnK_nx, ↓turnK_rt, ↓turnK_bk, ↓turnK_ct, ↓ev_asB, ↓ev_add, ↓ev_sub, ↓ev_mul, ↓ev_fdiv, ↓ev_mod, ↓ev_pow, ↓ev_neg, ↓ev_eqI, ↓ev_neI, ↓ev_lt, ↓ev_le, ↓ev_gt, ↓ev_ge, ↓ev_gcd, ↓ev_absI, ↓ev_maxI, ↓ev_minI, ↓ev_intI, ↓ev_intB, ↓ev_tupT, ↓ev_tupL, ↓ev_lstT, ↓ev_lstL, ↓ev_lenT, ↓ev_lenL, ↓ev_catL, ↓ev_catT, ↓ev_ixT, ↓ev_ixL, ↓ev_slT, ↓ev_slL, ↓ev_isN, ↓ev_isNotN, ↓ev_zipTT, ↓ev_enumT, ↓ev_enumL, ↓ev_eqS, ↓ev_endI, ↓ev_endB, ↓ev_endN, ↓ev_endS, ↓ev_endTI, ↓ev_endLI, ↓ev_endTF, ↓ev_endLF, ↓ev_raiM, ↓ev_haM, ↓ev_fqM, ↓ev_lcG, ↓ev_mkR, startD, pick, setTg, setAll, wipeD, List.map_cons, List.map_nil, List.length_cons, List.length_nil, List.cons_append, List.nil_append, List.getElem?_cons_zero, List.getElem?_cons_succ, List.set_cons_zero, List.set_cons_succ, List.replicate_succ, List.replicate_zero, List.filterMap_cons, List.filterMap_nil, Nat.reduceAdd, Nat.reduceSub, Nat.reduceLeDiff, and_self, if_true, decide_eq_true_eq, true_and, and_true, List.set_nil, List.length_set, take_set, take_app, take_self]
  refine ev_imp (f17 (by omega) h (by omega)) ?_
  rintro _ μ1 ⟨⟨b, rfl, hb⟩, s1, m1⟩
  simp only [↓ev_out, ↓ev_sqM, ↓ev_foM, ↓ev_setM, ↓ev_asgM, ↓ev_putM, ↓ev_ifM, ↓ev_tvM, ↓ev_tnM, ↓ev_taM, ↓ev_toM, ↓ev_op2, ↓ev_gV, ↓ev_kM, ↓ev_rtM, ↓ev_exM, ↓ev_neM, ↓ev_notM, ↓ev_andM, ↓ev_orM, ↓ev_nxM, ↓ev_app, ↓ev_nil, ↓ev_cons, ↓ev_callF, ↓ev_callM, ↓ev_slM, ↓ev_ptM, ↓ev_asI, ↓ev_seM, ↓ev_itL, ↓ev_itT, ↓ev_mkT, ↓ev_mkL, ↓ev_lcM, ↓ev_dispM, ↓ev_lft, ↓thenK_nx, ↓thenK_rt, ↓thenK_bk, ↓thenK_ct, ↓tgK_s, ↓outK_rt, ↓outK_nx, ↓vK_s, ↓turnK_nx, ↓turnK_rt, ↓turnK_bk, ↓turnK_ct, ↓ev_asB, ↓ev_add, ↓ev_sub, ↓ev_mul, ↓ev_fdiv, ↓ev_mod, ↓ev_pow, ↓ev_neg, ↓ev_eqI, ↓ev_neI, ↓ev_lt, ↓ev_le, ↓ev_gt, ↓ev_ge, ↓ev_gcd, ↓ev_absI, ↓ev_maxI, ↓ev_minI, ↓ev_intI, ↓ev_intB, ↓ev_tupT, ↓ev_tupL, ↓ev_lstT, ↓ev_lstL, ↓ev_lenT, ↓ev_lenL, ↓ev_catL, ↓ev_catT, ↓ev_ixT, ↓ev_ixL, ↓ev_slT, ↓ev_slL, ↓ev_isN, ↓ev_isNotN, ↓ev_zipTT, ↓ev_enumT, ↓ev_enumL, ↓ev_eqS, ↓ev_endI, ↓ev_endB, ↓ev_endN, ↓ev_endS, ↓ev_endTI, ↓ev_endLI, ↓ev_endTF, ↓ev_endLF, ↓ev_raiM, ↓ev_haM, ↓ev_fqM, ↓ev_lcG, ↓ev_mkR, startD, pick, setTg, setAll, wipeD, List.map_cons, List.map_nil, List.length_cons, List.length_nil, List.cons_append, List.nil_append, List.getElem?_cons_zero, List.getElem?_cons_succ, List.set_cons_zero, List.set_cons_succ, List.replicate_succ, List.replicate_zero, List.filterMap_cons, List.filterMap_nil, Nat.reduceAdd, Nat.reduceSub, Nat.reduceLeDiff, and_self, if_true, decide_eq_true_eq, true_and, and_true, List.set_nil, List.length_set, take_set, take_app, take_self]
  refine ev_imp (f17 (by omega) m1 (by omega)) ?_
  rintro _ μ2 ⟨⟨a, rfl, ha⟩, s2, m2⟩
  have s12 := s1.trans s2
  have fin : ∀ b : Int, b ≠ 0 → b.natAbs < 10 ^ 140 → Ew NoX (F k 16 [.int a, .int b] μ2) fun d μ1 => Ew NoX (endD μ.length d μ1) fun d μ' => (∃ p q : Int, d = tp [p, q] ∧ Fr p q ∧ p.natAbs < 10 ^ 140 ∧ q.natAbs < 10 ^ 140) ∧ Sj j μ μ' ∧ MAt j (c + 50) μ' := fun b h0 hb => by
    have hB : ∀ x ∈ [a, b], x.natAbs < 10 ^ 140 := fun x hx => by
      rcases List.mem_cons.mp hx with e | e
      · rw [e]; exact ha
      · rw [List.mem_singleton.mp e]; exact hb
    refine (ev_of (f16 (by omega) a b μ2 fun x hx => b140 (hB x hx))).mpr ?_
    refine ev_endTI.mpr ?_
    obtain ⟨p, q, e, fr⟩ := frac_fr (a := a) h0
    have bd := frac_bound hB
    rw [e] at bd ⊢
    rw [sj_take s12]
    exact ⟨⟨p, q, rfl, fr, bd p (by simp), bd q (by simp)⟩, s12, m2⟩
  by_cases h0 : b = 0
  · simp only [↓ev_out, ↓ev_sqM, ↓ev_foM, ↓ev_setM, ↓ev_asgM, ↓ev_putM, ↓ev_ifM, ↓ev_tvM, ↓ev_tnM, ↓ev_taM, ↓ev_toM, ↓ev_op2, ↓ev_gV, ↓ev_kM, ↓ev_rtM, ↓ev_exM, ↓ev_neM, ↓ev_notM, ↓ev_andM, ↓ev_orM, ↓ev_nxM, ↓ev_app, ↓ev_nil, ↓ev_cons, ↓ev_callF, ↓ev_callM, ↓ev_slM, ↓ev_ptM, ↓ev_asI, ↓ev_seM, ↓ev_itL, ↓ev_itT, ↓ev_mkT, ↓ev_mkL, ↓ev_lcM, ↓ev_dispM, ↓ev_lft, ↓thenK_nx, ↓thenK_rt, ↓thenK_bk, ↓thenK_ct, ↓tgK_s, ↓outK_rt, ↓outK_nx, ↓vK_s, ↓turnK_nx, ↓turnK_rt, ↓turnK_bk, ↓turnK_ct, ↓ev_asB, ↓ev_add, ↓ev_sub, ↓ev_mul, ↓ev_fdiv, ↓ev_mod, ↓ev_pow, ↓ev_neg, ↓ev_eqI, ↓ev_neI, ↓ev_lt, ↓ev_le, ↓ev_gt, ↓ev_ge, ↓ev_gcd, ↓ev_absI, ↓ev_maxI, ↓ev_minI, ↓ev_intI, ↓ev_intB, ↓ev_tupT, ↓ev_tupL, ↓ev_lstT, ↓ev_lstL, ↓ev_lenT, ↓ev_lenL, ↓ev_catL, ↓ev_catT, ↓ev_ixT, ↓ev_ixL, ↓ev_slT, ↓ev_slL, ↓ev_isN, ↓ev_isNotN, ↓ev_zipTT, ↓ev_enumT, ↓ev_enumL, ↓ev_eqS, ↓ev_endI, ↓ev_endB, ↓ev_endN, ↓ev_endS, ↓ev_endTI, ↓ev_endLI, ↓ev_endTF, ↓ev_endLF, ↓ev_raiM, ↓ev_haM, ↓ev_fqM, ↓ev_lcG, ↓ev_mkR, startD, pick, setTg, setAll, wipeD, List.map_cons, List.map_nil, List.length_cons, List.length_nil, List.cons_append, List.nil_append, List.getElem?_cons_zero, List.getElem?_cons_succ, List.set_cons_zero, List.set_cons_succ, List.replicate_succ, List.replicate_zero, List.filterMap_cons, List.filterMap_nil, Nat.reduceAdd, Nat.reduceSub, Nat.reduceLeDiff, and_self, if_true, decide_eq_true_eq, true_and, and_true, List.set_nil, List.length_set, take_set, take_app, take_self, h0, decide_true, Bool.not_true, Bool.false_eq_true, if_false]
    exact fin 1 (by decide) (by decide)
  · simp only [↓ev_out, ↓ev_sqM, ↓ev_foM, ↓ev_setM, ↓ev_asgM, ↓ev_putM, ↓ev_ifM, ↓ev_tvM, ↓ev_tnM, ↓ev_taM, ↓ev_toM, ↓ev_op2, ↓ev_gV, ↓ev_kM, ↓ev_rtM, ↓ev_exM, ↓ev_neM, ↓ev_notM, ↓ev_andM, ↓ev_orM, ↓ev_nxM, ↓ev_app, ↓ev_nil, ↓ev_cons, ↓ev_callF, ↓ev_callM, ↓ev_slM, ↓ev_ptM, ↓ev_asI, ↓ev_seM, ↓ev_itL, ↓ev_itT, ↓ev_mkT, ↓ev_mkL, ↓ev_lcM, ↓ev_dispM, ↓ev_lft, ↓thenK_nx, ↓thenK_rt, ↓thenK_bk, ↓thenK_ct, ↓tgK_s, ↓outK_rt, ↓outK_nx, ↓vK_s, ↓turnK_nx, ↓turnK_rt, ↓turnK_bk, ↓turnK_ct, ↓ev_asB, ↓ev_add, ↓ev_sub, ↓ev_mul, ↓ev_fdiv, ↓ev_mod, ↓ev_pow, ↓ev_neg, ↓ev_eqI, ↓ev_neI, ↓ev_lt, ↓ev_le, ↓ev_gt, ↓ev_ge, ↓ev_gcd, ↓ev_absI, ↓ev_maxI, ↓ev_minI, ↓ev_intI, ↓ev_intB, ↓ev_tupT, ↓ev_tupL, ↓ev_lstT, ↓ev_lstL, ↓ev_lenT, ↓ev_lenL, ↓ev_catL, ↓ev_catT, ↓ev_ixT, ↓ev_ixL, ↓ev_slT, ↓ev_slL, ↓ev_isN, ↓ev_isNotN, ↓ev_zipTT, ↓ev_enumT, ↓ev_enumL, ↓ev_eqS, ↓ev_endI, ↓ev_endB, ↓ev_endN, ↓ev_endS, ↓ev_endTI, ↓ev_endLI, ↓ev_endTF, ↓ev_endLF, ↓ev_raiM, ↓ev_haM, ↓ev_fqM, ↓ev_lcG, ↓ev_mkR, startD, pick, setTg, setAll, wipeD, List.map_cons, List.map_nil, List.length_cons, List.length_nil, List.cons_append, List.nil_append, List.getElem?_cons_zero, List.getElem?_cons_succ, List.set_cons_zero, List.set_cons_succ, List.replicate_succ, List.replicate_zero, List.filterMap_cons, List.filterMap_nil, Nat.reduceAdd, Nat.reduceSub, Nat.reduceLeDiff, and_self, if_true, decide_eq_true_eq, true_and, and_true, List.set_nil, List.length_set, take_set, take_app, take_self, h0, decide_false, Bool.not_false]
    exact fin b h0 hb
/-! what is judged -/
theorem ev_isa {E : Xn → Mu → Prop} {d : D} {n : String} {b : Bool} {μ : Mu} {K : D → Mu → Prop} (h : isaB d n = some b) : Ew E (isaF [d, .ty n] μ) K ↔ K (.bl b) μ := by
  show Ew E (lft ((isaB d n).map D.bl) μ) K ↔ _
  rw [h]
  exact Iff.rfl
theorem f0n {n : Nat} (hn : 1 ≤ n) (μ : Mu) : F n 0 [.non] μ = .ok (.bl false) μ := by
  obtain ⟨k, rfl⟩ : ∃ k, n = k + 1 := ⟨n - 1, by omega⟩
  rw [F, s0_eq]
  unfold s0
  refine ev_eq ?_
  simp only [↓ev_out, ↓ev_sqM, ↓ev_foM, ↓ev_setM, ↓ev_asgM, ↓ev_putM, ↓ev_ifM, ↓ev_tvM, ↓ev_tnM, ↓ev_taM, ↓ev_toM, ↓ev_op2, ↓ev_gV, ↓ev_kM, ↓ev_rtM, ↓ev_exM, ↓ev_neM, ↓ev_notM, ↓ev_andM, ↓ev_orM, ↓ev_nxM, ↓ev_app, ↓ev_nil, ↓ev_cons, ↓ev_callF, ↓ev_callM, ↓ev_slM, ↓ev_ptM, ↓ev_asI, ↓ev_seM, ↓ev_itL, ↓ev_itT, ↓ev_mkT, ↓ev_mkL, ↓ev_lcM, ↓ev_dispM, ↓ev_lft, ↓thenK_nx, ↓thenK_rt, ↓thenK_bk, ↓thenK_ct, ↓tgK_s, ↓outK_rt, ↓outK_nx, ↓vK_s, ↓turnK_nx, ↓turnK_rt, ↓turnK_bk, ↓turnK_ct, ↓ev_asB, ↓ev_add, ↓ev_sub, ↓ev_mul, ↓ev_fdiv, ↓ev_mod, ↓ev_pow, ↓ev_neg, ↓ev_eqI, ↓ev_neI, ↓ev_lt, ↓ev_le, ↓ev_gt, ↓ev_ge, ↓ev_gcd, ↓ev_absI, ↓ev_maxI, ↓ev_minI, ↓ev_intI, ↓ev_intB, ↓ev_tupT, ↓ev_tupL, ↓ev_lstT, ↓ev_lstL, ↓ev_lenT, ↓ev_lenL, ↓ev_catL, ↓ev_catT, ↓ev_ixT, ↓ev_ixL, ↓ev_slT, ↓ev_slL, ↓ev_isN, ↓ev_isNotN, ↓ev_zipTT, ↓ev_enumT, ↓ev_enumL, ↓ev_eqS, ↓ev_endI, ↓ev_endB, ↓ev_endN, ↓ev_endS, ↓ev_endTI, ↓ev_endLI, ↓ev_endTF, ↓ev_endLF, ↓ev_raiM, ↓ev_haM, ↓ev_fqM, ↓ev_lcG, ↓ev_mkR, startD, pick, setTg, setAll, wipeD, List.map_cons, List.map_nil, List.length_cons, List.length_nil, List.cons_append, List.nil_append, List.getElem?_cons_zero, List.getElem?_cons_succ, List.set_cons_zero, List.set_cons_succ, List.replicate_succ, List.replicate_zero, List.filterMap_cons, List.filterMap_nil, Nat.reduceAdd, Nat.reduceSub, Nat.reduceLeDiff, and_self, if_true, decide_eq_true_eq, true_and, and_true, List.set_nil, List.length_set, take_set, take_app, take_self]
  refine (ev_isa (b := false) rfl).mpr ?_
  simp only [↓ev_out, ↓ev_sqM, ↓ev_foM, ↓ev_setM, ↓ev_asgM, ↓ev_putM, ↓ev_ifM, ↓ev_tvM, ↓ev_tnM, ↓ev_taM, ↓ev_toM, ↓ev_op2, ↓ev_gV, ↓ev_kM, ↓ev_rtM, ↓ev_exM, ↓ev_neM, ↓ev_notM, ↓ev_andM, ↓ev_orM, ↓ev_nxM, ↓ev_app, ↓ev_nil, ↓ev_cons, ↓ev_callF, ↓ev_callM, ↓ev_slM, ↓ev_ptM, ↓ev_asI, ↓ev_seM, ↓ev_itL, ↓ev_itT, ↓ev_mkT, ↓ev_mkL, ↓ev_lcM, ↓ev_dispM, ↓ev_lft, ↓thenK_nx, ↓thenK_rt, ↓thenK_bk, ↓thenK_ct, ↓tgK_s, ↓outK_rt, ↓outK_nx, ↓vK_s, ↓turnK_nx, ↓turnK_rt, ↓turnK_bk, ↓turnK_ct, ↓ev_asB, ↓ev_add, ↓ev_sub, ↓ev_mul, ↓ev_fdiv, ↓ev_mod, ↓ev_pow, ↓ev_neg, ↓ev_eqI, ↓ev_neI, ↓ev_lt, ↓ev_le, ↓ev_gt, ↓ev_ge, ↓ev_gcd, ↓ev_absI, ↓ev_maxI, ↓ev_minI, ↓ev_intI, ↓ev_intB, ↓ev_tupT, ↓ev_tupL, ↓ev_lstT, ↓ev_lstL, ↓ev_lenT, ↓ev_lenL, ↓ev_catL, ↓ev_catT, ↓ev_ixT, ↓ev_ixL, ↓ev_slT, ↓ev_slL, ↓ev_isN, ↓ev_isNotN, ↓ev_zipTT, ↓ev_enumT, ↓ev_enumL, ↓ev_eqS, ↓ev_endI, ↓ev_endB, ↓ev_endN, ↓ev_endS, ↓ev_endTI, ↓ev_endLI, ↓ev_endTF, ↓ev_endLF, ↓ev_raiM, ↓ev_haM, ↓ev_fqM, ↓ev_lcG, ↓ev_mkR, startD, pick, setTg, setAll, wipeD, List.map_cons, List.map_nil, List.length_cons, List.length_nil, List.cons_append, List.nil_append, List.getElem?_cons_zero, List.getElem?_cons_succ, List.set_cons_zero, List.set_cons_succ, List.replicate_succ, List.replicate_zero, List.filterMap_cons, List.filterMap_nil, Nat.reduceAdd, Nat.reduceSub, Nat.reduceLeDiff, and_self, if_true, decide_eq_true_eq, true_and, and_true, List.set_nil, List.length_set, take_set, take_app, take_self, Bool.false_eq_true, if_false]
abbrev nn (d : D) : Xn := ⟨"NotNumber", [("value", d)]⟩
theorem two_i : (((2 : Nat) : Int) = 2) = True := by simp
theorem three_i : (((3 : Nat) : Int) = 2) = False := by simp
theorem f2_ok {n : Nat} (hn : 2 ≤ n) {p q : Int} (h : Fr p q) (μ : Mu) : F n 2 [tp [p, q]] μ = .ok (tp [p, q]) μ := by
  obtain ⟨k, rfl⟩ : ∃ k, n = k + 1 := ⟨n - 1, by omega⟩
  rw [F, s2_eq]
  unfold s2
  refine ev_eq ?_
  have h1 : ¬ q < 1 := by have := h.pos; omega
  have g1 : ((Nat.gcd p.natAbs q.natAbs : Nat) : Int) = 1 := by rw [← gcd2, h.low]; rfl
  simp only [↓ev_out, ↓ev_sqM, ↓ev_foM, ↓ev_setM, ↓ev_asgM, ↓ev_putM, ↓ev_ifM, ↓ev_tvM, ↓ev_tnM, ↓ev_taM, ↓ev_toM, ↓ev_op2, ↓ev_gV, ↓ev_kM, ↓ev_rtM, ↓ev_exM, ↓ev_neM, ↓ev_notM, ↓ev_andM, ↓ev_orM, ↓ev_nxM, ↓ev_app, ↓ev_nil, ↓ev_cons, ↓ev_callF, ↓ev_callM, ↓ev_slM, ↓ev_ptM, ↓ev_asI, ↓ev_seM, ↓ev_itL, ↓ev_itT, ↓ev_mkT, ↓ev_mkL, ↓ev_lcM, ↓ev_dispM, ↓ev_lft, ↓thenK_nx, ↓thenK_rt, ↓thenK_bk, ↓thenK_ct, ↓tgK_s, ↓outK_rt, ↓outK_nx, ↓vK_s, ↓turnK_nx, ↓turnK_rt, ↓turnK_bk, ↓turnK_ct, ↓ev_asB, ↓ev_add, ↓ev_sub, ↓ev_mul, ↓ev_fdiv, ↓ev_mod, ↓ev_pow, ↓ev_neg, ↓ev_eqI, ↓ev_neI, ↓ev_lt, ↓ev_le, ↓ev_gt, ↓ev_ge, ↓ev_gcd, ↓ev_absI, ↓ev_maxI, ↓ev_minI, ↓ev_intI, ↓ev_intB, ↓ev_tupT, ↓ev_tupL, ↓ev_lstT, ↓ev_lstL, ↓ev_lenT, ↓ev_lenL, ↓ev_catL, ↓ev_catT, ↓ev_ixT, ↓ev_ixL, ↓ev_slT, ↓ev_slL, ↓ev_isN, ↓ev_isNotN, ↓ev_zipTT, ↓ev_enumT, ↓ev_enumL, ↓ev_eqS, ↓ev_endI, ↓ev_endB, ↓ev_endN, ↓ev_endS, ↓ev_endTI, ↓ev_endLI, ↓ev_endTF, ↓ev_endLF, ↓ev_raiM, ↓ev_haM, ↓ev_fqM, ↓ev_lcG, ↓ev_mkR, startD, pick, setTg, setAll, wipeD, List.map_cons, List.map_nil, List.length_cons, List.length_nil, List.cons_append, List.nil_append, List.getElem?_cons_zero, List.getElem?_cons_succ, List.set_cons_zero, List.set_cons_succ, List.replicate_succ, List.replicate_zero, List.filterMap_cons, List.filterMap_nil, Nat.reduceAdd, Nat.reduceSub, Nat.reduceLeDiff, and_self, if_true, decide_eq_true_eq, true_and, and_true, List.set_nil, List.length_set, take_set, take_app, take_self]
  refine (ev_isa (b := true) rfl).mpr ?_
  simp only [↓ev_out, ↓ev_sqM, ↓ev_foM, ↓ev_setM, ↓ev_asgM, ↓ev_putM, ↓ev_ifM, ↓ev_tvM, ↓ev_tnM, ↓ev_taM, ↓ev_toM, ↓ev_op2, ↓ev_gV, ↓ev_kM, ↓ev_rtM, ↓ev_exM, ↓ev_neM, ↓ev_notM, ↓ev_andM, ↓ev_orM, ↓ev_nxM, ↓ev_app, ↓ev_nil, ↓ev_cons, ↓ev_callF, ↓ev_callM, ↓ev_slM, ↓ev_ptM, ↓ev_asI, ↓ev_seM, ↓ev_itL, ↓ev_itT, ↓ev_mkT, ↓ev_mkL, ↓ev_lcM, ↓ev_dispM, ↓ev_lft, ↓thenK_nx, ↓thenK_rt, ↓thenK_bk, ↓thenK_ct, ↓tgK_s, ↓outK_rt, ↓outK_nx, ↓vK_s, ↓turnK_nx, ↓turnK_rt, ↓turnK_bk, ↓turnK_ct, ↓ev_asB, ↓ev_add, ↓ev_sub, ↓ev_mul, ↓ev_fdiv, ↓ev_mod, ↓ev_pow, ↓ev_neg, ↓ev_eqI, ↓ev_neI, ↓ev_lt, ↓ev_le, ↓ev_gt, ↓ev_ge, ↓ev_gcd, ↓ev_absI, ↓ev_maxI, ↓ev_minI, ↓ev_intI, ↓ev_intB, ↓ev_tupT, ↓ev_tupL, ↓ev_lstT, ↓ev_lstL, ↓ev_lenT, ↓ev_lenL, ↓ev_catL, ↓ev_catT, ↓ev_ixT, ↓ev_ixL, ↓ev_slT, ↓ev_slL, ↓ev_isN, ↓ev_isNotN, ↓ev_zipTT, ↓ev_enumT, ↓ev_enumL, ↓ev_eqS, ↓ev_endI, ↓ev_endB, ↓ev_endN, ↓ev_endS, ↓ev_endTI, ↓ev_endLI, ↓ev_endTF, ↓ev_endLF, ↓ev_raiM, ↓ev_haM, ↓ev_fqM, ↓ev_lcG, ↓ev_mkR, startD, pick, setTg, setAll, wipeD, List.map_cons, List.map_nil, List.length_cons, List.length_nil, List.cons_append, List.nil_append, List.getElem?_cons_zero, List.getElem?_cons_succ, List.set_cons_zero, List.set_cons_succ, List.replicate_succ, List.replicate_zero, List.filterMap_cons, List.filterMap_nil, Nat.reduceAdd, Nat.reduceSub, Nat.reduceLeDiff, and_self, if_true, decide_eq_true_eq, true_and, and_true, List.set_nil, List.length_set, take_set, take_app, take_self, Bool.not_true, Bool.false_eq_true, if_false, two_i, decide_true]
  refine (ev_of (f0 (by omega) p μ)).mpr ?_
  simp only [↓ev_out, ↓ev_sqM, ↓ev_foM, ↓ev_setM, ↓ev_asgM, ↓ev_putM, ↓ev_ifM, ↓ev_tvM, ↓ev_tnM, ↓ev_taM, ↓ev_toM, ↓ev_op2, ↓ev_gV, ↓ev_kM, ↓ev_rtM, ↓ev_exM, ↓ev_neM, ↓ev_notM, ↓ev_andM, ↓ev_orM, ↓ev_nxM, ↓ev_app, ↓ev_nil, ↓ev_cons, ↓ev_callF, ↓ev_callM, ↓ev_slM, ↓ev_ptM, ↓ev_asI, ↓ev_seM, ↓ev_itL, ↓ev_itT, ↓ev_mkT, ↓ev_mkL, ↓ev_lcM, ↓ev_dispM, ↓ev_lft, ↓thenK_nx, ↓thenK_rt, ↓thenK_bk, ↓thenK_ct, ↓tgK_s, ↓outK_rt, ↓outK_nx, ↓vK_s, ↓turnK_nx, ↓turnK_rt, ↓turnK_bk, ↓turnK_ct, ↓ev_asB, ↓ev_add, ↓ev_sub, ↓ev_mul, ↓ev_fdiv, ↓ev_mod, ↓ev_pow, ↓ev_neg, ↓ev_eqI, ↓ev_neI, ↓ev_lt, ↓ev_le, ↓ev_gt, ↓ev_ge, ↓ev_gcd, ↓ev_absI, ↓ev_maxI, ↓ev_minI, ↓ev_intI, ↓ev_intB, ↓ev_tupT, ↓ev_tupL, ↓ev_lstT, ↓ev_lstL, ↓ev_lenT, ↓ev_lenL, ↓ev_catL, ↓ev_catT, ↓ev_ixT, ↓ev_ixL, ↓ev_slT, ↓ev_slL, ↓ev_isN, ↓ev_isNotN, ↓ev_zipTT, ↓ev_enumT, ↓ev_enumL, ↓ev_eqS, ↓ev_endI, ↓ev_endB, ↓ev_endN, ↓ev_endS, ↓ev_endTI, ↓ev_endLI, ↓ev_endTF, ↓ev_endLF, ↓ev_raiM, ↓ev_haM, ↓ev_fqM, ↓ev_lcG, ↓ev_mkR, startD, pick, setTg, setAll, wipeD, List.map_cons, List.map_nil, List.length_cons, List.length_nil, List.cons_append, List.nil_append, List.getElem?_cons_zero, List.getElem?_cons_succ, List.set_cons_zero, List.set_cons_succ, List.replicate_succ, List.replicate_zero, List.filterMap_cons, List.filterMap_nil, Nat.reduceAdd, Nat.reduceSub, Nat.reduceLeDiff, and_self, if_true, decide_eq_true_eq, true_and, and_true, List.set_nil, List.length_set, take_set, take_app, take_self, Bool.not_true, Bool.false_eq_true, if_false]
  refine (ev_of (f0 (by omega) q μ)).mpr ?_
  simp only [↓ev_out, ↓ev_sqM, ↓ev_foM, ↓ev_setM, ↓ev_asgM, ↓ev_putM, ↓ev_ifM, ↓ev_tvM, ↓ev_tnM, ↓ev_taM, ↓ev_toM, ↓ev_op2, ↓ev_gV, ↓ev_kM, ↓ev_rtM, ↓ev_exM, ↓ev_neM, ↓ev_notM, ↓ev_andM, ↓ev_orM, ↓ev_nxM, ↓ev_app, ↓ev_nil, ↓ev_cons, ↓ev_callF, ↓ev_callM, ↓ev_slM, ↓ev_ptM, ↓ev_asI, ↓ev_seM, ↓ev_itL, ↓ev_itT, ↓ev_mkT, ↓ev_mkL, ↓ev_lcM, ↓ev_dispM, ↓ev_lft, ↓thenK_nx, ↓thenK_rt, ↓thenK_bk, ↓thenK_ct, ↓tgK_s, ↓outK_rt, ↓outK_nx, ↓vK_s, ↓turnK_nx, ↓turnK_rt, ↓turnK_bk, ↓turnK_ct, ↓ev_asB, ↓ev_add, ↓ev_sub, ↓ev_mul, ↓ev_fdiv, ↓ev_mod, ↓ev_pow, ↓ev_neg, ↓ev_eqI, ↓ev_neI, ↓ev_lt, ↓ev_le, ↓ev_gt, ↓ev_ge, ↓ev_gcd, ↓ev_absI, ↓ev_maxI, ↓ev_minI, ↓ev_intI, ↓ev_intB, ↓ev_tupT, ↓ev_tupL, ↓ev_lstT, ↓ev_lstL, ↓ev_lenT, ↓ev_lenL, ↓ev_catL, ↓ev_catT, ↓ev_ixT, ↓ev_ixL, ↓ev_slT, ↓ev_slL, ↓ev_isN, ↓ev_isNotN, ↓ev_zipTT, ↓ev_enumT, ↓ev_enumL, ↓ev_eqS, ↓ev_endI, ↓ev_endB, ↓ev_endN, ↓ev_endS, ↓ev_endTI, ↓ev_endLI, ↓ev_endTF, ↓ev_endLF, ↓ev_raiM, ↓ev_haM, ↓ev_fqM, ↓ev_lcG, ↓ev_mkR, startD, pick, setTg, setAll, wipeD, List.map_cons, List.map_nil, List.length_cons, List.length_nil, List.cons_append, List.nil_append, List.getElem?_cons_zero, List.getElem?_cons_succ, List.set_cons_zero, List.set_cons_succ, List.replicate_succ, List.replicate_zero, List.filterMap_cons, List.filterMap_nil, Nat.reduceAdd, Nat.reduceSub, Nat.reduceLeDiff, and_self, if_true, decide_eq_true_eq, true_and, and_true, List.set_nil, List.length_set, take_set, take_app, take_self, Bool.not_true, Bool.false_eq_true, if_false, h1, g1, decide_true]
  try rfl
theorem f2_bad {n : Nat} (hn : 2 ≤ n) {p q : Int} (h : q < 1 ∨ gcdL [p, q] ≠ 1) (μ : Mu) : F n 2 [tp [p, q]] μ = .ex (nn (tp [p, q])) μ := by
  obtain ⟨k, rfl⟩ : ∃ k, n = k + 1 := ⟨n - 1, by omega⟩
  rw [F, s2_eq]
  unfold s2
  refine ex_eq ?_
  simp only [↓ex_out, ↓ev_sqM, ↓ev_foM, ↓ev_setM, ↓ev_asgM, ↓ev_putM, ↓ev_ifM, ↓ev_tvM, ↓ev_tnM, ↓ev_taM, ↓ev_toM, ↓ev_op2, ↓ev_gV, ↓ev_kM, ↓ev_rtM, ↓ev_exM, ↓ev_neM, ↓ev_notM, ↓ev_andM, ↓ev_orM, ↓ev_nxM, ↓ev_app, ↓ev_nil, ↓ev_cons, ↓ev_callF, ↓ev_callM, ↓ev_slM, ↓ev_ptM, ↓ev_asI, ↓ev_seM, ↓ev_itL, ↓ev_itT, ↓ev_mkT, ↓ev_mkL, ↓ev_lcM, ↓ev_dispM, ↓ev_lft, ↓thenK_nx, ↓thenK_rt, ↓thenK_bk, ↓thenK_ct, ↓tgK_s, ↓outK_rt, ↓outK_nx, ↓vK_s, ↓turnK_nx, ↓turnK_rt, ↓turnK_bk, ↓turnK_ct, ↓ev_asB, ↓ev_add, ↓ev_sub, ↓ev_mul, ↓ev_fdiv, ↓ev_mod, ↓ev_pow, ↓ev_neg, ↓ev_eqI, ↓ev_neI, ↓ev_lt, ↓ev_le, ↓ev_gt, ↓ev_ge, ↓ev_gcd, ↓ev_absI, ↓ev_maxI, ↓ev_minI, ↓ev_intI, ↓ev_intB, ↓ev_tupT, ↓ev_tupL, ↓ev_lstT, ↓ev_lstL, ↓ev_lenT, ↓ev_lenL, ↓ev_catL, ↓ev_catT, ↓ev_ixT, ↓ev_ixL, ↓ev_slT, ↓ev_slL, ↓ev_isN, ↓ev_isNotN, ↓ev_zipTT, ↓ev_enumT, ↓ev_enumL, ↓ev_eqS, ↓ev_endI, ↓ev_endB, ↓ev_endN, ↓ev_endS, ↓ev_endTI, ↓ev_endLI, ↓ev_endTF, ↓ev_endLF, ↓ev_raiM, ↓ev_haM, ↓ev_fqM, ↓ev_lcG, ↓ev_mkR, startD, pick, setTg, setAll, wipeD, List.map_cons, List.map_nil, List.length_cons, List.length_nil, List.cons_append, List.nil_append, List.getElem?_cons_zero, List.getElem?_cons_succ, List.set_cons_zero, List.set_cons_succ, List.replicate_succ, List.replicate_zero, List.filterMap_cons, List.filterMap_nil, Nat.reduceAdd, Nat.reduceSub, Nat.reduceLeDiff, and_self, if_true, decide_eq_true_eq, true_and, and_true, List.set_nil, List.length_set, take_set, take_app, take_self, outX_n]
  refine (ev_isa (b := true) rfl).mpr ?_
  simp only [↓ex_out, ↓ev_sqM, ↓ev_foM, ↓ev_setM, ↓ev_asgM, ↓ev_putM, ↓ev_ifM, ↓ev_tvM, ↓ev_tnM, ↓ev_taM, ↓ev_toM, ↓ev_op2, ↓ev_gV, ↓ev_kM, ↓ev_rtM, ↓ev_exM, ↓ev_neM, ↓ev_notM, ↓ev_andM, ↓ev_orM, ↓ev_nxM, ↓ev_app, ↓ev_nil, ↓ev_cons, ↓ev_callF, ↓ev_callM, ↓ev_slM, ↓ev_ptM, ↓ev_asI, ↓ev_seM, ↓ev_itL, ↓ev_itT, ↓ev_mkT, ↓ev_mkL, ↓ev_lcM, ↓ev_dispM, ↓ev_lft, ↓thenK_nx, ↓thenK_rt, ↓thenK_bk, ↓thenK_ct, ↓tgK_s, ↓outK_rt, ↓outK_nx, ↓vK_s, ↓turnK_nx, ↓turnK_rt, ↓turnK_bk, ↓turnK_ct, ↓ev_asB, ↓ev_add, ↓ev_sub, ↓ev_mul, ↓ev_fdiv, ↓ev_mod, ↓ev_pow, ↓ev_neg, ↓ev_eqI, ↓ev_neI, ↓ev_lt, ↓ev_le, ↓ev_gt, ↓ev_ge, ↓ev_gcd, ↓ev_absI, ↓ev_maxI, ↓ev_minI, ↓ev_intI, ↓ev_intB, ↓ev_tupT, ↓ev_tupL, ↓ev_lstT, ↓ev_lstL, ↓ev_lenT, ↓ev_lenL, ↓ev_catL, ↓ev_catT, ↓ev_ixT, ↓ev_ixL, ↓ev_slT, ↓ev_slL, ↓ev_isN, ↓ev_isNotN, ↓ev_zipTT, ↓ev_enumT, ↓ev_enumL, ↓ev_eqS, ↓ev_endI, ↓ev_endB, ↓ev_endN, ↓ev_endS, ↓ev_endTI, ↓ev_endLI, ↓ev_endTF, ↓ev_endLF, ↓ev_raiM, ↓ev_haM, ↓ev_fqM, ↓ev_lcG, ↓ev_mkR, startD, pick, setTg, setAll, wipeD, List.map_cons, List.map_nil, List.length_cons, List.length_nil, List.cons_append, List.nil_append, List.getElem?_cons_zero, List.getElem?_cons_succ, List.set_cons_zero, List.set_cons_succ, List.replicate_succ, List.replicate_zero, List.filterMap_cons, List.filterMap_nil, Nat.reduceAdd, Nat.reduceSub, Nat.reduceLeDiff, and_self, if_true, decide_eq_true_eq, true_and, and_true, List.set_nil, List.length_set, take_set, take_app, take_self, outX_n, Bool.not_true, Bool.false_eq_true, if_false, two_i, decide_true]
  refine (ev_of (f0 (by omega) p μ)).mpr ?_
  simp only [↓ex_out, ↓ev_sqM, ↓ev_foM, ↓ev_setM, ↓ev_asgM, ↓ev_putM, ↓ev_ifM, ↓ev_tvM, ↓ev_tnM, ↓ev_taM, ↓ev_toM, ↓ev_op2, ↓ev_gV, ↓ev_kM, ↓ev_rtM, ↓ev_exM, ↓ev_neM, ↓ev_notM, ↓ev_andM, ↓ev_orM, ↓ev_nxM, ↓ev_app, ↓ev_nil, ↓ev_cons, ↓ev_callF, ↓ev_callM, ↓ev_slM, ↓ev_ptM, ↓ev_asI, ↓ev_seM, ↓ev_itL, ↓ev_itT, ↓ev_mkT, ↓ev_mkL, ↓ev_lcM, ↓ev_dispM, ↓ev_lft, ↓thenK_nx, ↓thenK_rt, ↓thenK_bk, ↓thenK_ct, ↓tgK_s, ↓outK_rt, ↓outK_nx, ↓vK_s, ↓turnK_nx, ↓turnK_rt, ↓turnK_bk, ↓turnK_ct, ↓ev_asB, ↓ev_add, ↓ev_sub, ↓ev_mul, ↓ev_fdiv, ↓ev_mod, ↓ev_pow, ↓ev_neg, ↓ev_eqI, ↓ev_neI, ↓ev_lt, ↓ev_le, ↓ev_gt, ↓ev_ge, ↓ev_gcd, ↓ev_absI, ↓ev_maxI, ↓ev_minI, ↓ev_intI, ↓ev_intB, ↓ev_tupT, ↓ev_tupL, ↓ev_lstT, ↓ev_lstL, ↓ev_lenT, ↓ev_lenL, ↓ev_catL, ↓ev_catT, ↓ev_ixT, ↓ev_ixL, ↓ev_slT, ↓ev_slL, ↓ev_isN, ↓ev_isNotN, ↓ev_zipTT, ↓ev_enumT, ↓ev_enumL, ↓ev_eqS, ↓ev_endI, ↓ev_endB, ↓ev_endN, ↓ev_endS, ↓ev_endTI, ↓ev_endLI, ↓ev_endTF, ↓ev_endLF, ↓ev_raiM, ↓ev_haM, ↓ev_fqM, ↓ev_lcG, ↓ev_mkR, startD, pick, setTg, setAll, wipeD, List.map_cons, List.map_nil, List.length_cons, List.length_nil, List.cons_append, List.nil_append, List.getElem?_cons_zero, List.getElem?_cons_succ, List.set_cons_zero, List.set_cons_succ, List.replicate_succ, List.replicate_zero, List.filterMap_cons, List.filterMap_nil, Nat.reduceAdd, Nat.reduceSub, Nat.reduceLeDiff, and_self, if_true, decide_eq_true_eq, true_and, and_true, List.set_nil, List.length_set, take_set, take_app, take_self, outX_n, Bool.not_true, Bool.false_eq_true, if_false]
  refine (ev_of (f0 (by omega) q μ)).mpr ?_
  simp only [↓ex_out, ↓ev_sqM, ↓ev_foM, ↓ev_setM, ↓ev_asgM, ↓ev_putM, ↓ev_ifM, ↓ev_tvM, ↓ev_tnM, ↓ev_taM, ↓ev_toM, ↓ev_op2, ↓ev_gV, ↓ev_kM, ↓ev_rtM, ↓ev_exM, ↓ev_neM, ↓ev_notM, ↓ev_andM, ↓ev_orM, ↓ev_nxM, ↓ev_app, ↓ev_nil, ↓ev_cons, ↓ev_callF, ↓ev_callM, ↓ev_slM, ↓ev_ptM, ↓ev_asI, ↓ev_seM, ↓ev_itL, ↓ev_itT, ↓ev_mkT, ↓ev_mkL, ↓ev_lcM, ↓ev_dispM, ↓ev_lft, ↓thenK_nx, ↓thenK_rt, ↓thenK_bk, ↓thenK_ct, ↓tgK_s, ↓outK_rt, ↓outK_nx, ↓vK_s, ↓turnK_nx, ↓turnK_rt, ↓turnK_bk, ↓turnK_ct, ↓ev_asB, ↓ev_add, ↓ev_sub, ↓ev_mul, ↓ev_fdiv, ↓ev_mod, ↓ev_pow, ↓ev_neg, ↓ev_eqI, ↓ev_neI, ↓ev_lt, ↓ev_le, ↓ev_gt, ↓ev_ge, ↓ev_gcd, ↓ev_absI, ↓ev_maxI, ↓ev_minI, ↓ev_intI, ↓ev_intB, ↓ev_tupT, ↓ev_tupL, ↓ev_lstT, ↓ev_lstL, ↓ev_lenT, ↓ev_lenL, ↓ev_catL, ↓ev_catT, ↓ev_ixT, ↓ev_ixL, ↓ev_slT, ↓ev_slL, ↓ev_isN, ↓ev_isNotN, ↓ev_zipTT, ↓ev_enumT, ↓ev_enumL, ↓ev_eqS, ↓ev_endI, ↓ev_endB, ↓ev_endN, ↓ev_endS, ↓ev_endTI, ↓ev_endLI, ↓ev_endTF, ↓ev_endLF, ↓ev_raiM, ↓ev_haM, ↓ev_fqM, ↓ev_lcG, ↓ev_mkR, startD, pick, setTg, setAll, wipeD, List.map_cons, List.map_nil, List.length_cons, List.length_nil, List.cons_append, List.nil_append, List.getElem?_cons_zero, List.getElem?_cons_succ, List.set_cons_zero, List.set_cons_succ, List.replicate_succ, List.replicate_zero, List.filterMap_cons, List.filterMap_nil, Nat.reduceAdd, Nat.reduceSub, Nat.reduceLeDiff, and_self, if_true, decide_eq_true_eq, true_and, and_true, List.set_nil, List.length_set, take_set, take_app, take_self, outX_n, Bool.not_true, Bool.false_eq_true, if_false]
  by_cases h1 : q < 1
  · rw [if_pos h1]
    exact (outX_p rfl).mpr ⟨rfl, take_self⟩
  · have g1 : ¬ ((Nat.gcd p.natAbs q.natAbs : Nat) : Int) = 1 := fun z => by
      rcases h with h | h
      · exact h1 h
      · exact h (by rw [gcd2]; omega)
    rw [if_neg h1]
    simp only [g1, decide_false, Bool.not_false, if_true]
    exact (outX_p rfl).mpr ⟨rfl, take_self⟩
theorem f2_lst {n : Nat} (hn : 2 ≤ n) {p q : Int} (μ : Mu) : F n 2 [.lst [.int p, .int q]] μ = .ex (nn (.lst [.int p, .int q])) μ := by
  obtain ⟨k, rfl⟩ : ∃ k, n = k + 1 := ⟨n - 1, by omega⟩
  rw [F, s2_eq]
  unfold s2
  refine ex_eq ?_
  simp only [↓ex_out, ↓ev_sqM, ↓ev_foM, ↓ev_setM, ↓ev_asgM, ↓ev_putM, ↓ev_ifM, ↓ev_tvM, ↓ev_tnM, ↓ev_taM, ↓ev_toM, ↓ev_op2, ↓ev_gV, ↓ev_kM, ↓ev_rtM, ↓ev_exM, ↓ev_neM, ↓ev_notM, ↓ev_andM, ↓ev_orM, ↓ev_nxM, ↓ev_app, ↓ev_nil, ↓ev_cons, ↓ev_callF, ↓ev_callM, ↓ev_slM, ↓ev_ptM, ↓ev_asI, ↓ev_seM, ↓ev_itL, ↓ev_itT, ↓ev_mkT, ↓ev_mkL, ↓ev_lcM, ↓ev_dispM, ↓ev_lft, ↓thenK_nx, ↓thenK_rt, ↓thenK_bk, ↓thenK_ct, ↓tgK_s, ↓outK_rt, ↓outK_nx, ↓vK_s, ↓turnK_nx, ↓turnK_rt, ↓turnK_bk, ↓turnK_ct, ↓ev_asB, ↓ev_add, ↓ev_sub, ↓ev_mul, ↓ev_fdiv, ↓ev_mod, ↓ev_pow, ↓ev_neg, ↓ev_eqI, ↓ev_neI, ↓ev_lt, ↓ev_le, ↓ev_gt, ↓ev_ge, ↓ev_gcd, ↓ev_absI, ↓ev_maxI, ↓ev_minI, ↓ev_intI, ↓ev_intB, ↓ev_tupT, ↓ev_tupL, ↓ev_lstT, ↓ev_lstL, ↓ev_lenT, ↓ev_lenL, ↓ev_catL, ↓ev_catT, ↓ev_ixT, ↓ev_ixL, ↓ev_slT, ↓ev_slL, ↓ev_isN, ↓ev_isNotN, ↓ev_zipTT, ↓ev_enumT, ↓ev_enumL, ↓ev_eqS, ↓ev_endI, ↓ev_endB, ↓ev_endN, ↓ev_endS, ↓ev_endTI, ↓ev_endLI, ↓ev_endTF, ↓ev_endLF, ↓ev_raiM, ↓ev_haM, ↓ev_fqM, ↓ev_lcG, ↓ev_mkR, startD, pick, setTg, setAll, wipeD, List.map_cons, List.map_nil, List.length_cons, List.length_nil, List.cons_append, List.nil_append, List.getElem?_cons_zero, List.getElem?_cons_succ, List.set_cons_zero, List.set_cons_succ, List.replicate_succ, List.replicate_zero, List.filterMap_cons, List.filterMap_nil, Nat.reduceAdd, Nat.reduceSub, Nat.reduceLeDiff, and_self, if_true, decide_eq_true_eq, true_and, and_true, List.set_nil, List.length_set, take_set, take_app, take_self, outX_n]
  refine (ev_isa (b := false) rfl).mpr ?_
  simp only [↓ex_out, ↓ev_sqM, ↓ev_foM, ↓ev_setM, ↓ev_asgM, ↓ev_putM, ↓ev_ifM, ↓ev_tvM, ↓ev_tnM, ↓ev_taM, ↓ev_toM, ↓ev_op2, ↓ev_gV, ↓ev_kM, ↓ev_rtM, ↓ev_exM, ↓ev_neM, ↓ev_notM, ↓ev_andM, ↓ev_orM, ↓ev_nxM, ↓ev_app, ↓ev_nil, ↓ev_cons, ↓ev_callF, ↓ev_callM, ↓ev_slM, ↓ev_ptM, ↓ev_asI, ↓ev_seM, ↓ev_itL, ↓ev_itT, ↓ev_mkT, ↓ev_mkL, ↓ev_lcM, ↓ev_dispM, ↓ev_lft, ↓thenK_nx, ↓thenK_rt, ↓thenK_bk, ↓thenK_ct, ↓tgK_s, ↓outK_rt, ↓outK_nx, ↓vK_s, ↓turnK_nx, ↓turnK_rt, ↓turnK_bk, ↓turnK_ct, ↓ev_asB, ↓ev_add, ↓ev_sub, ↓ev_mul, ↓ev_fdiv, ↓ev_mod, ↓ev_pow, ↓ev_neg, ↓ev_eqI, ↓ev_neI, ↓ev_lt, ↓ev_le, ↓ev_gt, ↓ev_ge, ↓ev_gcd, ↓ev_absI, ↓ev_maxI, ↓ev_minI, ↓ev_intI, ↓ev_intB, ↓ev_tupT, ↓ev_tupL, ↓ev_lstT, ↓ev_lstL, ↓ev_lenT, ↓ev_lenL, ↓ev_catL, ↓ev_catT, ↓ev_ixT, ↓ev_ixL, ↓ev_slT, ↓ev_slL, ↓ev_isN, ↓ev_isNotN, ↓ev_zipTT, ↓ev_enumT, ↓ev_enumL, ↓ev_eqS, ↓ev_endI, ↓ev_endB, ↓ev_endN, ↓ev_endS, ↓ev_endTI, ↓ev_endLI, ↓ev_endTF, ↓ev_endLF, ↓ev_raiM, ↓ev_haM, ↓ev_fqM, ↓ev_lcG, ↓ev_mkR, startD, pick, setTg, setAll, wipeD, List.map_cons, List.map_nil, List.length_cons, List.length_nil, List.cons_append, List.nil_append, List.getElem?_cons_zero, List.getElem?_cons_succ, List.set_cons_zero, List.set_cons_succ, List.replicate_succ, List.replicate_zero, List.filterMap_cons, List.filterMap_nil, Nat.reduceAdd, Nat.reduceSub, Nat.reduceLeDiff, and_self, if_true, decide_eq_true_eq, true_and, and_true, List.set_nil, List.length_set, take_set, take_app, take_self, outX_n, Bool.not_false]
  exact (outX_p rfl).mpr ⟨rfl, take_self⟩
theorem f2_three {n : Nat} (hn : 2 ≤ n) {p q r : Int} (μ : Mu) : F n 2 [.tup [.int p, .int q, .int r]] μ = .ex (nn (.tup [.int p, .int q, .int r])) μ := by
  obtain ⟨k, rfl⟩ : ∃ k, n = k + 1 := ⟨n - 1, by omega⟩
  rw [F, s2_eq]
  unfold s2
  refine ex_eq ?_
  simp only [↓ex_out, ↓ev_sqM, ↓ev_foM, ↓ev_setM, ↓ev_asgM, ↓ev_putM, ↓ev_ifM, ↓ev_tvM, ↓ev_tnM, ↓ev_taM, ↓ev_toM, ↓ev_op2, ↓ev_gV, ↓ev_kM, ↓ev_rtM, ↓ev_exM, ↓ev_neM, ↓ev_notM, ↓ev_andM, ↓ev_orM, ↓ev_nxM, ↓ev_app, ↓ev_nil, ↓ev_cons, ↓ev_callF, ↓ev_callM, ↓ev_slM, ↓ev_ptM, ↓ev_asI, ↓ev_seM, ↓ev_itL, ↓ev_itT, ↓ev_mkT, ↓ev_mkL, ↓ev_lcM, ↓ev_dispM, ↓ev_lft, ↓thenK_nx, ↓thenK_rt, ↓thenK_bk, ↓thenK_ct, ↓tgK_s, ↓outK_rt, ↓outK_nx, ↓vK_s, ↓turnK_nx, ↓turnK_rt, ↓turnK_bk, ↓turnK_ct, ↓ev_asB, ↓ev_add, ↓ev_sub, ↓ev_mul, ↓ev_fdiv, ↓ev_mod, ↓ev_pow, ↓ev_neg, ↓ev_eqI, ↓ev_neI, ↓ev_lt, ↓ev_le, ↓ev_gt, ↓ev_ge, ↓ev_gcd, ↓ev_absI, ↓ev_maxI, ↓ev_minI, ↓ev_intI, ↓ev_intB, ↓ev_tupT, ↓ev_tupL, ↓ev_lstT, ↓ev_lstL, ↓ev_lenT, ↓ev_lenL, ↓ev_catL, ↓ev_catT, ↓ev_ixT, ↓ev_ixL, ↓ev_slT, ↓ev_slL, ↓ev_isN, ↓ev_isNotN, ↓ev_zipTT, ↓ev_enumT, ↓ev_enumL, ↓ev_eqS, ↓ev_endI, ↓ev_endB, ↓ev_endN, ↓ev_endS, ↓ev_endTI, ↓ev_endLI, ↓ev_endTF, ↓ev_endLF, ↓ev_raiM, ↓ev_haM, ↓ev_fqM, ↓ev_lcG, ↓ev_mkR, startD, pick, setTg, setAll, wipeD, List.map_cons, List.map_nil, List.length_cons, List.length_nil, List.cons_append, List.nil_append, List.getElem?_cons_zero, List.getElem?_cons_succ, List.set_cons_zero, List.set_cons_succ, List.replicate_succ, List.replicate_zero, List.filterMap_cons, List.filterMap_nil, Nat.reduceAdd, Nat.reduceSub, Nat.reduceLeDiff, and_self, if_true, decide_eq_true_eq, true_and, and_true, List.set_nil, List.length_set, take_set, take_app, take_self, outX_n]
  refine (ev_isa (b := true) rfl).mpr ?_
  simp only [↓ex_out, ↓ev_sqM, ↓ev_foM, ↓ev_setM, ↓ev_asgM, ↓ev_putM, ↓ev_ifM, ↓ev_tvM, ↓ev_tnM, ↓ev_taM, ↓ev_toM, ↓ev_op2, ↓ev_gV, ↓ev_kM, ↓ev_rtM, ↓ev_exM, ↓ev_neM, ↓ev_notM, ↓ev_andM, ↓ev_orM, ↓ev_nxM, ↓ev_app, ↓ev_nil, ↓ev_cons, ↓ev_callF, ↓ev_callM, ↓ev_slM, ↓ev_ptM, ↓ev_asI, ↓ev_seM, ↓ev_itL, ↓ev_itT, ↓ev_mkT, ↓ev_mkL, ↓ev_lcM, ↓ev_dispM, ↓ev_lft, ↓thenK_nx, ↓thenK_rt, ↓thenK_bk, ↓thenK_ct, ↓tgK_s, ↓outK_rt, ↓outK_nx, ↓vK_s, ↓turnK_nx, ↓turnK_rt, ↓turnK_bk, ↓turnK_ct, ↓ev_asB, ↓ev_add, ↓ev_sub, ↓ev_mul, ↓ev_fdiv, ↓ev_mod, ↓ev_pow, ↓ev_neg, ↓ev_eqI, ↓ev_neI, ↓ev_lt, ↓ev_le, ↓ev_gt, ↓ev_ge, ↓ev_gcd, ↓ev_absI, ↓ev_maxI, ↓ev_minI, ↓ev_intI, ↓ev_intB, ↓ev_tupT, ↓ev_tupL, ↓ev_lstT, ↓ev_lstL, ↓ev_lenT, ↓ev_lenL, ↓ev_catL, ↓ev_catT, ↓ev_ixT, ↓ev_ixL, ↓ev_slT, ↓ev_slL, ↓ev_isN, ↓ev_isNotN, ↓ev_zipTT, ↓ev_enumT, ↓ev_enumL, ↓ev_eqS, ↓ev_endI, ↓ev_endB, ↓ev_endN, ↓ev_endS, ↓ev_endTI, ↓ev_endLI, ↓ev_endTF, ↓ev_endLF, ↓ev_raiM, ↓ev_haM, ↓ev_fqM, ↓ev_lcG, ↓ev_mkR, startD, pick, setTg, setAll, wipeD, List.map_cons, List.map_nil, List.length_cons, List.length_nil, List.cons_append, List.nil_append, List.getElem?_cons_zero, List.getElem?_cons_succ, List.set_cons_zero, List.set_cons_succ, List.replicate_succ, List.replicate_zero, List.filterMap_cons, List.filterMap_nil, Nat.reduceAdd, Nat.reduceSub, Nat.reduceLeDiff, and_self, if_true, decide_eq_true_eq, true_and, and_true, List.set_nil, List.length_set, take_set, take_app, take_self, outX_n, Bool.not_true, Bool.false_eq_true, if_false, three_i, decide_false, Bool.not_false]
  exact (outX_p rfl).mpr ⟨rfl, take_self⟩
theorem f2_non {n : Nat} (hn : 2 ≤ n) {p : Int} (μ : Mu) : F n 2 [.tup [.int p, .non]] μ = .ex (nn (.tup [.int p, .non])) μ := by
  obtain ⟨k, rfl⟩ : ∃ k, n = k + 1 := ⟨n - 1, by omega⟩
  rw [F, s2_eq]
  unfold s2
  refine ex_eq ?_
  simp only [↓ex_out, ↓ev_sqM, ↓ev_foM, ↓ev_setM, ↓ev_asgM, ↓ev_putM, ↓ev_ifM, ↓ev_tvM, ↓ev_tnM, ↓ev_taM, ↓ev_toM, ↓ev_op2, ↓ev_gV, ↓ev_kM, ↓ev_rtM, ↓ev_exM, ↓ev_neM, ↓ev_notM, ↓ev_andM, ↓ev_orM, ↓ev_nxM, ↓ev_app, ↓ev_nil, ↓ev_cons, ↓ev_callF, ↓ev_callM, ↓ev_slM, ↓ev_ptM, ↓ev_asI, ↓ev_seM, ↓ev_itL, ↓ev_itT, ↓ev_mkT, ↓ev_mkL, ↓ev_lcM, ↓ev_dispM, ↓ev_lft, ↓thenK_nx, ↓thenK_rt, ↓thenK_bk, ↓thenK_ct, ↓tgK_s, ↓outK_rt, ↓outK_nx, ↓vK_s, ↓turnK_nx, ↓turnK_rt, ↓turnK_bk, ↓turnK_ct, ↓ev_asB, ↓ev_add, ↓ev_sub, ↓ev_mul, ↓ev_fdiv, ↓ev_mod, ↓ev_pow, ↓ev_neg, ↓ev_eqI, ↓ev_neI, ↓ev_lt, ↓ev_le, ↓ev_gt, ↓ev_ge, ↓ev_gcd, ↓ev_absI, ↓ev_maxI, ↓ev_minI, ↓ev_intI, ↓ev_intB, ↓ev_tupT, ↓ev_tupL, ↓ev_lstT, ↓ev_lstL, ↓ev_lenT, ↓ev_lenL, ↓ev_catL, ↓ev_catT, ↓ev_ixT, ↓ev_ixL, ↓ev_slT, ↓ev_slL, ↓ev_isN, ↓ev_isNotN, ↓ev_zipTT, ↓ev_enumT, ↓ev_enumL, ↓ev_eqS, ↓ev_endI, ↓ev_endB, ↓ev_endN, ↓ev_endS, ↓ev_endTI, ↓ev_endLI, ↓ev_endTF, ↓ev_endLF, ↓ev_raiM, ↓ev_haM, ↓ev_fqM, ↓ev_lcG, ↓ev_mkR, startD, pick, setTg, setAll, wipeD, List.map_cons, List.map_nil, List.length_cons, List.length_nil, List.cons_append, List.nil_append, List.getElem?_cons_zero, List.getElem?_cons_succ, List.set_cons_zero, List.set_cons_succ, List.replicate_succ, List.replicate_zero, List.filterMap_cons, List.filterMap_nil, Nat.reduceAdd, Nat.reduceSub, Nat.reduceLeDiff, and_self, if_true, decide_eq_true_eq, true_and, and_true, List.set_nil, List.length_set, take_set, take_app, take_self, outX_n]
  refine (ev_isa (b := true) rfl).mpr ?_
  simp only [↓ex_out, ↓ev_sqM, ↓ev_foM, ↓ev_setM, ↓ev_asgM, ↓ev_putM, ↓ev_ifM, ↓ev_tvM, ↓ev_tnM, ↓ev_taM, ↓ev_toM, ↓ev_op2, ↓ev_gV, ↓ev_kM, ↓ev_rtM, ↓ev_exM, ↓ev_neM, ↓ev_notM, ↓ev_andM, ↓ev_orM, ↓ev_nxM, ↓ev_app, ↓ev_nil, ↓ev_cons, ↓ev_callF, ↓ev_callM, ↓ev_slM, ↓ev_ptM, ↓ev_asI, ↓ev_seM, ↓ev_itL, ↓ev_itT, ↓ev_mkT, ↓ev_mkL, ↓ev_lcM, ↓ev_dispM, ↓ev_lft, ↓thenK_nx, ↓thenK_rt, ↓thenK_bk, ↓thenK_ct, ↓tgK_s, ↓outK_rt, ↓outK_nx, ↓vK_s, ↓turnK_nx, ↓turnK_rt, ↓turnK_bk, ↓turnK_ct, ↓ev_asB, ↓ev_add, ↓ev_sub, ↓ev_mul, ↓ev_fdiv, ↓ev_mod, ↓ev_pow, ↓ev_neg, ↓ev_eqI, ↓ev_neI, ↓ev_lt, ↓ev_le, ↓ev_gt, ↓ev_ge, ↓ev_gcd, ↓ev_absI, ↓ev_maxI, ↓ev_minI, ↓ev_intI, ↓ev_intB, ↓ev_tupT, ↓ev_tupL, ↓ev_lstT, ↓ev_lstL, ↓ev_lenT, ↓ev_lenL, ↓ev_catL, ↓ev_catT, ↓ev_ixT, ↓ev_ixL, ↓ev_slT, ↓ev_slL, ↓ev_isN, ↓ev_isNotN, ↓ev_zipTT, ↓ev_enumT, ↓ev_enumL, ↓ev_eqS, ↓ev_endI, ↓ev_endB, ↓ev_endN, ↓ev_endS, ↓ev_endTI, ↓ev_endLI, ↓ev_endTF, ↓ev_endLF, ↓ev_raiM, ↓ev_haM, ↓ev_fqM, ↓ev_lcG, ↓ev_mkR, startD, pick, setTg, setAll, wipeD, List.map_cons, List.map_nil, List.length_cons, List.length_nil, List.cons_append, List.nil_append, List.getElem?_cons_zero, List.getElem?_cons_succ, List.set_cons_zero, List.set_cons_succ, List.replicate_succ, List.replicate_zero, List.filterMap_cons, List.filterMap_nil, Nat.reduceAdd, Nat.reduceSub, Nat.reduceLeDiff, and_self, if_true, decide_eq_true_eq, true_and, and_true, List.set_nil, List.length_set, take_set, take_app, take_self, outX_n, Bool.not_true, Bool.false_eq_true, if_false, two_i, decide_true]
  refine (ev_of (f0 (by omega) p μ)).mpr ?_
  simp only [↓ex_out, ↓ev_sqM, ↓ev_foM, ↓ev_setM, ↓ev_asgM, ↓ev_putM, ↓ev_ifM, ↓ev_tvM, ↓ev_tnM, ↓ev_taM, ↓ev_toM, ↓ev_op2, ↓ev_gV, ↓ev_kM, ↓ev_rtM, ↓ev_exM, ↓ev_neM, ↓ev_notM, ↓ev_andM, ↓ev_orM, ↓ev_nxM, ↓ev_app, ↓ev_nil, ↓ev_cons, ↓ev_callF, ↓ev_callM, ↓ev_slM, ↓ev_ptM, ↓ev_asI, ↓ev_seM, ↓ev_itL, ↓ev_itT, ↓ev_mkT, ↓ev_mkL, ↓ev_lcM, ↓ev_dispM, ↓ev_lft, ↓thenK_nx, ↓thenK_rt, ↓thenK_bk, ↓thenK_ct, ↓tgK_s, ↓outK_rt, ↓outK_nx, ↓vK_s, ↓turnK_nx, ↓turnK_rt, ↓turnK_bk, ↓turnK_ct, ↓ev_asB, ↓ev_add, ↓ev_sub, ↓ev_mul, ↓ev_fdiv, ↓ev_mod, ↓ev_pow, ↓ev_neg, ↓ev_eqI, ↓ev_neI, ↓ev_lt, ↓ev_le, ↓ev_gt, ↓ev_ge, ↓ev_gcd, ↓ev_absI, ↓ev_maxI, ↓ev_minI, ↓ev_intI, ↓ev_intB, ↓ev_tupT, ↓ev_tupL, ↓ev_lstT, ↓ev_lstL, ↓ev_lenT, ↓ev_lenL, ↓ev_catL, ↓ev_catT, ↓ev_ixT, ↓ev_ixL, ↓ev_slT, ↓ev_slL, ↓ev_isN, ↓ev_isNotN, ↓ev_zipTT, ↓ev_enumT, ↓ev_enumL, ↓ev_eqS, ↓ev_endI, ↓ev_endB, ↓ev_endN, ↓ev_endS, ↓ev_endTI, ↓ev_endLI, ↓ev_endTF, ↓ev_endLF, ↓ev_raiM, ↓ev_haM, ↓ev_fqM, ↓ev_lcG, ↓ev_mkR, startD, pick, setTg, setAll, wipeD, List.map_cons, List.map_nil, List.length_cons, List.length_nil, List.cons_append, List.nil_append, List.getElem?_cons_zero, List.getElem?_cons_succ, List.set_cons_zero, List.set_cons_succ, List.replicate_succ, List.replicate_zero, List.filterMap_cons, List.filterMap_nil, Nat.reduceAdd, Nat.reduceSub, Nat.reduceLeDiff, and_self, if_true, decide_eq_true_eq, true_and, and_true, List.set_nil, List.length_set, take_set, take_app, take_self, outX_n, Bool.not_true, Bool.false_eq_true, if_false]
  refine (ev_of (f0n (by omega) μ)).mpr ?_
  simp only [↓ex_out, ↓ev_sqM, ↓ev_foM, ↓ev_setM, ↓ev_asgM, ↓ev_putM, ↓ev_ifM, ↓ev_tvM, ↓ev_tnM, ↓ev_taM, ↓ev_toM, ↓ev_op2, ↓ev_gV, ↓ev_kM, ↓ev_rtM, ↓ev_exM, ↓ev_neM, ↓ev_notM, ↓ev_andM, ↓ev_orM, ↓ev_nxM, ↓ev_app, ↓ev_nil, ↓ev_cons, ↓ev_callF, ↓ev_callM, ↓ev_slM, ↓ev_ptM, ↓ev_asI, ↓ev_seM, ↓ev_itL, ↓ev_itT, ↓ev_mkT, ↓ev_mkL, ↓ev_lcM, ↓ev_dispM, ↓ev_lft, ↓thenK_nx, ↓thenK_rt, ↓thenK_bk, ↓thenK_ct, ↓tgK_s, ↓outK_rt, ↓outK_nx, ↓vK_s, ↓turnK_nx, ↓turnK_rt, ↓turnK_bk, ↓turnK_ct, ↓ev_asB, ↓ev_add, ↓ev_sub, ↓ev_mul, ↓ev_fdiv, ↓ev_mod, ↓ev_pow, ↓ev_neg, ↓ev_eqI, ↓ev_neI, ↓ev_lt, ↓ev_le, ↓ev_gt, ↓ev_ge, ↓ev_gcd, ↓ev_absI, ↓ev_maxI, ↓ev_minI, ↓ev_intI, ↓ev_intB, ↓ev_tupT, ↓ev_tupL, ↓ev_lstT, ↓ev_lstL, ↓ev_lenT, ↓ev_lenL, ↓ev_catL, ↓ev_catT, ↓ev_ixT, ↓ev_ixL, ↓ev_slT, ↓ev_slL, ↓ev_isN, ↓ev_isNotN, ↓ev_zipTT, ↓ev_enumT, ↓ev_enumL, ↓ev_eqS, ↓ev_endI, ↓ev_endB, ↓ev_endN, ↓ev_endS, ↓ev_endTI, ↓ev_endLI, ↓ev_endTF, ↓ev_endLF, ↓ev_raiM, ↓ev_haM, ↓ev_fqM, ↓ev_lcG, ↓ev_mkR, startD, pick, setTg, setAll, wipeD, List.map_cons, List.map_nil, List.length_cons, List.length_nil, List.cons_append, List.nil_append, List.getElem?_cons_zero, List.getElem?_cons_succ, List.set_cons_zero, List.set_cons_succ, List.replicate_succ, List.replicate_zero, List.filterMap_cons, List.filterMap_nil, Nat.reduceAdd, Nat.reduceSub, Nat.reduceLeDiff, and_self, if_true, decide_eq_true_eq, true_and, and_true, List.set_nil, List.length_set, take_set, take_app, take_self, outX_n, Bool.not_false]
  exact (outX_p rfl).mpr ⟨rfl, take_self⟩
/-! heard -/
theorem he_nn {E : Xn → Mu → Prop} {K : D → Mu → Prop} {μ : Mu} {d : D} : heX cl hd0 E K (nn d) μ ↔ K (.tup [.str "number", d]) μ := heX_of (k := ⟨"NotNumber", ["NotNumber", "SolidError"], ["value"]⟩) (by kernel_rfl) (by kernel_rfl)
theorem ha_ok {vs : List Nat} {mb : Rho → M D} {ρ : Rho} {μ : Mu} {d : D} (h : mb (wipeD ρ vs) μ = .ok d μ) : haM cl hd0 vs mb ρ μ = .ok (.lst [d]) μ := ev_eq (ev_haM.mpr ((ev_of h).mpr ⟨rfl, rfl⟩))
theorem ha_nn {vs : List Nat} {mb : Rho → M D} {ρ : Rho} {μ : Mu} {d : D} (h : mb (wipeD ρ vs) μ = .ex (nn d) μ) : haM cl hd0 vs mb ρ μ = .ok (.tup [.str "number", d]) μ := ev_eq (ev_haM.mpr ((ex_of h).mpr (he_nn.mpr ⟨rfl, rfl⟩)))
/-! sizes -/
theorem rk_i {i : Int} (h : i.natAbs < BB) : Rk 0 0 (.int i) := rk_int (by have := log_BB h; omega)
theorem rk_tp {ns : List Int} (h : ∀ x ∈ ns, x.natAbs < BB) : Rk 1 ns.length (tp ns) := by
  have z := rk_tup (k := 0) (m := 0) (xs := ns.map .int) fun x hx => by
    obtain ⟨y, hy, rfl⟩ := List.mem_map.mp hx
    exact rk_i (h y hy)
  rw [List.length_map, Nat.zero_add, Nat.mul_one] at z
  exact z
theorem rk_fr {a b : Int} (h : ∀ x ∈ [a, b], x.natAbs < BB) : Rk 2 10 (tp (fracL a b)) := (rk_tp (frac_bound h)).mono (by decide) (by rw [frac_len]; decide)
theorem rk_one {k m : Nat} {d : D} (h : Rk k m d) : Rk (k + 1) (m + 1) (.lst [d]) := by
  have z := rk_lst (k := k) (m := m) (xs := [d]) fun x hx => by rw [List.mem_singleton.mp hx]; exact h
  exact z.mono (Nat.le_refl _) (by show 1 * (m + 1) ≤ m + 1; omega)
theorem rk_two {k m : Nat} {d e : D} (h : Rk k m d) (g : Rk k m e) : Rk (k + 1) (2 * (m + 1)) (.lst [d, e]) := by
  have z := rk_lst (k := k) (m := m) (xs := [d, e]) fun x hx => by
    rcases List.mem_cons.mp hx with q | q
    · rw [q]; exact h
    · rw [List.mem_singleton.mp q]; exact g
  exact z
theorem rk_num : Rk 2 10 (.str "number") := (rk_str (x := "number") (by kernel_rfl)).mono (by decide) (by decide +kernel)
theorem rk_nn {d : D} (h : Rk 2 10 d) : Rk 3 22 (.tup [.str "number", d]) := by
  have z := rk_tup (k := 2) (m := 10) (xs := [.str "number", d]) fun x hx => by
    rcases List.mem_cons.mp hx with q | q
    · rw [q]; exact rk_num
    · rw [List.mem_singleton.mp q]; exact h
  exact z.mono (Nat.le_refl _) (by show 2 * (10 + 1) ≤ 22; omega)
theorem bb2 {a b : Int} (ha : a.natAbs < BB) (hb : b.natAbs < BB) : ∀ x ∈ [a, b], x.natAbs < BB := fun x hx => by
  rcases List.mem_cons.mp hx with e | e
  · rw [e]; exact ha
  · rw [List.mem_singleton.mp e]; exact hb
theorem f19 {n : Nat} (hn : 4 ≤ n) {p q r s : Int} (μ : Mu) (h : Two p q r s) : F n 19 [tp [p, q], tp [r, s]] μ = .ok (.bl true) μ := by
  obtain ⟨k, rfl⟩ : ∃ k, n = k + 1 := ⟨n - 1, by omega⟩
  rw [F, s19_eq]
  unfold s19
  refine ev_eq ?_
  have ps := m280 h.hp h.hs
  have rq := m280 h.hr h.hq
  have qs := m280 h.hq h.hs
  have pr := m280 h.hp h.hr
  have qr := m280 h.hq h.hr
  have bA : (p * s + r * q).natAbs < BB := lt_BB (add_lt10 ps rq) (by decide)
  have bS : (p * s - r * q).natAbs < BB := lt_BB (sub_lt10 ps rq) (by decide)
  have h2 : (2 * q).natAbs < 10 ^ 141 := by have := h.hq; rw [Int.natAbs_mul]; show 2 * _ < _; omega
  have b2 : (2 * q * s).natAbs < BB := lt_BB (mul_lt10 h2 h.hs) (by decide)
  have m2 : mulOk 2 q = true := mul64l (by decide)
  simp only [↓ev_out, ↓ev_sqM, ↓ev_foM, ↓ev_setM, ↓ev_asgM, ↓ev_putM, ↓ev_ifM, ↓ev_tvM, ↓ev_tnM, ↓ev_taM, ↓ev_toM, ↓ev_op2, ↓ev_gV, ↓ev_kM, ↓ev_rtM, ↓ev_exM, ↓ev_neM, ↓ev_notM, ↓ev_andM, ↓ev_orM, ↓ev_nxM, ↓ev_app, ↓ev_nil, ↓ev_cons, ↓ev_callF, ↓ev_callM, ↓ev_slM, ↓ev_ptM, ↓ev_asI, ↓ev_seM, ↓ev_itL, ↓ev_itT, ↓ev_mkT, ↓ev_mkL, ↓ev_lcM, ↓ev_dispM, ↓ev_lft, ↓thenK_nx, ↓thenK_rt, ↓thenK_bk, ↓thenK_ct, ↓tgK_s, ↓outK_rt, ↓outK_nx, ↓vK_s, ↓turnK_nx, ↓turnK_rt, ↓turnK_bk, ↓turnK_ct, ↓ev_asB, ↓ev_add, ↓ev_sub, ↓ev_mul, ↓ev_fdiv, ↓ev_mod, ↓ev_pow, ↓ev_neg, ↓ev_eqI, ↓ev_neI, ↓ev_lt, ↓ev_le, ↓ev_gt, ↓ev_ge, ↓ev_gcd, ↓ev_absI, ↓ev_maxI, ↓ev_minI, ↓ev_intI, ↓ev_intB, ↓ev_tupT, ↓ev_tupL, ↓ev_lstT, ↓ev_lstL, ↓ev_lenT, ↓ev_lenL, ↓ev_catL, ↓ev_catT, ↓ev_ixT, ↓ev_ixL, ↓ev_slT, ↓ev_slL, ↓ev_isN, ↓ev_isNotN, ↓ev_zipTT, ↓ev_enumT, ↓ev_enumL, ↓ev_eqS, ↓ev_endI, ↓ev_endB, ↓ev_endN, ↓ev_endS, ↓ev_endTI, ↓ev_endLI, ↓ev_endTF, ↓ev_endLF, ↓ev_raiM, ↓ev_fqM, ↓ev_lcG, ↓ev_mkR, startD, pick, setTg, setAll, wipeD, List.map_cons, List.map_nil, List.length_cons, List.length_nil, List.cons_append, List.nil_append, List.getElem?_cons_zero, List.getElem?_cons_succ, List.set_cons_zero, List.set_cons_succ, List.replicate_succ, List.replicate_zero, List.filterMap_cons, List.filterMap_nil, Nat.reduceAdd, Nat.reduceSub, Nat.reduceLeDiff, and_self, if_true, decide_eq_true_eq, true_and, and_true, List.set_nil, List.length_set, take_set, take_app, take_self]
  refine (ev_of (f4 (by omega) p q r s μ h)).mpr ?_
  refine (ev_of (f5 (by omega) p q r s μ h)).mpr ?_
  simp only [↓ev_out, ↓ev_sqM, ↓ev_foM, ↓ev_setM, ↓ev_asgM, ↓ev_putM, ↓ev_ifM, ↓ev_tvM, ↓ev_tnM, ↓ev_taM, ↓ev_toM, ↓ev_op2, ↓ev_gV, ↓ev_kM, ↓ev_rtM, ↓ev_exM, ↓ev_neM, ↓ev_notM, ↓ev_andM, ↓ev_orM, ↓ev_nxM, ↓ev_app, ↓ev_nil, ↓ev_cons, ↓ev_callF, ↓ev_callM, ↓ev_slM, ↓ev_ptM, ↓ev_asI, ↓ev_seM, ↓ev_itL, ↓ev_itT, ↓ev_mkT, ↓ev_mkL, ↓ev_lcM, ↓ev_dispM, ↓ev_lft, ↓thenK_nx, ↓thenK_rt, ↓thenK_bk, ↓thenK_ct, ↓tgK_s, ↓outK_rt, ↓outK_nx, ↓vK_s, ↓turnK_nx, ↓turnK_rt, ↓turnK_bk, ↓turnK_ct, ↓ev_asB, ↓ev_add, ↓ev_sub, ↓ev_mul, ↓ev_fdiv, ↓ev_mod, ↓ev_pow, ↓ev_neg, ↓ev_eqI, ↓ev_neI, ↓ev_lt, ↓ev_le, ↓ev_gt, ↓ev_ge, ↓ev_gcd, ↓ev_absI, ↓ev_maxI, ↓ev_minI, ↓ev_intI, ↓ev_intB, ↓ev_tupT, ↓ev_tupL, ↓ev_lstT, ↓ev_lstL, ↓ev_lenT, ↓ev_lenL, ↓ev_catL, ↓ev_catT, ↓ev_ixT, ↓ev_ixL, ↓ev_slT, ↓ev_slL, ↓ev_isN, ↓ev_isNotN, ↓ev_zipTT, ↓ev_enumT, ↓ev_enumL, ↓ev_eqS, ↓ev_endI, ↓ev_endB, ↓ev_endN, ↓ev_endS, ↓ev_endTI, ↓ev_endLI, ↓ev_endTF, ↓ev_endLF, ↓ev_raiM, ↓ev_fqM, ↓ev_lcG, ↓ev_mkR, startD, pick, setTg, setAll, wipeD, List.map_cons, List.map_nil, List.length_cons, List.length_nil, List.cons_append, List.nil_append, List.getElem?_cons_zero, List.getElem?_cons_succ, List.set_cons_zero, List.set_cons_succ, List.replicate_succ, List.replicate_zero, List.filterMap_cons, List.filterMap_nil, Nat.reduceAdd, Nat.reduceSub, Nat.reduceLeDiff, and_self, if_true, decide_eq_true_eq, true_and, and_true, List.set_nil, List.length_set, take_set, take_app, take_self, mulB (b140 h.hp) (b140 h.hs), mulB (b140 h.hr) (b140 h.hq), mulB (b140 h.hq) (b140 h.hs), if_pos (show 2 ≤ 1000000 by decide)]
  refine (ev_of (f16 (by omega) _ _ μ (bb2 bA (b280 qs)))).mpr ?_
  refine (ev_of (f16 (by omega) _ _ μ (bb2 bS (b280 qs)))).mpr ?_
  refine (ev_of (f12 (by omega) μ (rk_two (rk_fr (bb2 bA (b280 qs))) (rk_fr (bb2 bS (b280 qs)))) (by decide) (by decide))).mpr ?_
  simp only [↓ev_out, ↓ev_sqM, ↓ev_foM, ↓ev_setM, ↓ev_asgM, ↓ev_putM, ↓ev_ifM, ↓ev_tvM, ↓ev_tnM, ↓ev_taM, ↓ev_toM, ↓ev_op2, ↓ev_gV, ↓ev_kM, ↓ev_rtM, ↓ev_exM, ↓ev_neM, ↓ev_notM, ↓ev_andM, ↓ev_orM, ↓ev_nxM, ↓ev_app, ↓ev_nil, ↓ev_cons, ↓ev_callF, ↓ev_callM, ↓ev_slM, ↓ev_ptM, ↓ev_asI, ↓ev_seM, ↓ev_itL, ↓ev_itT, ↓ev_mkT, ↓ev_mkL, ↓ev_lcM, ↓ev_dispM, ↓ev_lft, ↓thenK_nx, ↓thenK_rt, ↓thenK_bk, ↓thenK_ct, ↓tgK_s, ↓outK_rt, ↓outK_nx, ↓vK_s, ↓turnK_nx, ↓turnK_rt, ↓turnK_bk, ↓turnK_ct, ↓ev_asB, ↓ev_add, ↓ev_sub, ↓ev_mul, ↓ev_fdiv, ↓ev_mod, ↓ev_pow, ↓ev_neg, ↓ev_eqI, ↓ev_neI, ↓ev_lt, ↓ev_le, ↓ev_gt, ↓ev_ge, ↓ev_gcd, ↓ev_absI, ↓ev_maxI, ↓ev_minI, ↓ev_intI, ↓ev_intB, ↓ev_tupT, ↓ev_tupL, ↓ev_lstT, ↓ev_lstL, ↓ev_lenT, ↓ev_lenL, ↓ev_catL, ↓ev_catT, ↓ev_ixT, ↓ev_ixL, ↓ev_slT, ↓ev_slL, ↓ev_isN, ↓ev_isNotN, ↓ev_zipTT, ↓ev_enumT, ↓ev_enumL, ↓ev_eqS, ↓ev_endI, ↓ev_endB, ↓ev_endN, ↓ev_endS, ↓ev_endTI, ↓ev_endLI, ↓ev_endTF, ↓ev_endLF, ↓ev_raiM, ↓ev_fqM, ↓ev_lcG, ↓ev_mkR, startD, pick, setTg, setAll, wipeD, List.map_cons, List.map_nil, List.length_cons, List.length_nil, List.cons_append, List.nil_append, List.getElem?_cons_zero, List.getElem?_cons_succ, List.set_cons_zero, List.set_cons_succ, List.replicate_succ, List.replicate_zero, List.filterMap_cons, List.filterMap_nil, Nat.reduceAdd, Nat.reduceSub, Nat.reduceLeDiff, and_self, if_true, decide_eq_true_eq, true_and, and_true, List.set_nil, List.length_set, take_set, take_app, take_self, Bool.not_true, Bool.false_eq_true, if_false]
  refine (ev_of (f6 (by omega) p q r s μ h)).mpr ?_
  refine (ev_of (f8 (by omega) p q r s μ h)).mpr ?_
  refine ⟨mulB (b140 h.hp) (b140 h.hr), ?_⟩
  refine (ev_of (f16 (by omega) _ _ μ (bb2 (b280 pr) (b280 qs)))).mpr ?_
  refine ⟨m2, mulB (lt_BB h2 (by decide)) (b140 h.hs), ?_⟩
  refine (ev_of (f16 (by omega) _ _ μ (bb2 bA b2))).mpr ?_
  refine (ev_of (f12 (by omega) μ (rk_two (rk_fr (bb2 (b280 pr) (b280 qs))) (rk_fr (bb2 bA b2))) (by decide) (by decide))).mpr ?_
  simp only [↓ev_out, ↓ev_sqM, ↓ev_foM, ↓ev_setM, ↓ev_asgM, ↓ev_putM, ↓ev_ifM, ↓ev_tvM, ↓ev_tnM, ↓ev_taM, ↓ev_toM, ↓ev_op2, ↓ev_gV, ↓ev_kM, ↓ev_rtM, ↓ev_exM, ↓ev_neM, ↓ev_notM, ↓ev_andM, ↓ev_orM, ↓ev_nxM, ↓ev_app, ↓ev_nil, ↓ev_cons, ↓ev_callF, ↓ev_callM, ↓ev_slM, ↓ev_ptM, ↓ev_asI, ↓ev_seM, ↓ev_itL, ↓ev_itT, ↓ev_mkT, ↓ev_mkL, ↓ev_lcM, ↓ev_dispM, ↓ev_lft, ↓thenK_nx, ↓thenK_rt, ↓thenK_bk, ↓thenK_ct, ↓tgK_s, ↓outK_rt, ↓outK_nx, ↓vK_s, ↓turnK_nx, ↓turnK_rt, ↓turnK_bk, ↓turnK_ct, ↓ev_asB, ↓ev_add, ↓ev_sub, ↓ev_mul, ↓ev_fdiv, ↓ev_mod, ↓ev_pow, ↓ev_neg, ↓ev_eqI, ↓ev_neI, ↓ev_lt, ↓ev_le, ↓ev_gt, ↓ev_ge, ↓ev_gcd, ↓ev_absI, ↓ev_maxI, ↓ev_minI, ↓ev_intI, ↓ev_intB, ↓ev_tupT, ↓ev_tupL, ↓ev_lstT, ↓ev_lstL, ↓ev_lenT, ↓ev_lenL, ↓ev_catL, ↓ev_catT, ↓ev_ixT, ↓ev_ixL, ↓ev_slT, ↓ev_slL, ↓ev_isN, ↓ev_isNotN, ↓ev_zipTT, ↓ev_enumT, ↓ev_enumL, ↓ev_eqS, ↓ev_endI, ↓ev_endB, ↓ev_endN, ↓ev_endS, ↓ev_endTI, ↓ev_endLI, ↓ev_endTF, ↓ev_endLF, ↓ev_raiM, ↓ev_fqM, ↓ev_lcG, ↓ev_mkR, startD, pick, setTg, setAll, wipeD, List.map_cons, List.map_nil, List.length_cons, List.length_nil, List.cons_append, List.nil_append, List.getElem?_cons_zero, List.getElem?_cons_succ, List.set_cons_zero, List.set_cons_succ, List.replicate_succ, List.replicate_zero, List.filterMap_cons, List.filterMap_nil, Nat.reduceAdd, Nat.reduceSub, Nat.reduceLeDiff, and_self, if_true, decide_eq_true_eq, true_and, and_true, List.set_nil, List.length_set, take_set, take_app, take_self, Bool.not_true, Bool.false_eq_true, if_false]
  have hs2 : Two p q p q := ⟨h.hp, h.hq, h.hp, h.hq, h.q0, h.q0⟩
  have sg : ∀ x : Int, (sgn x).natAbs < BB := fun x => by
    have : (sgn x).natAbs < 10 ^ 1 := by
      unfold sgn
      split
      · decide
      · split <;> decide
    exact lt_BB this (by decide)
  have last : Ew NoX (lev T k 9 [tp [p, q], tp [r, s]] μ) fun d μ1 => Ew NoX (lev T k 9 [tp [p, q], tp [p, q]] μ1) fun d_6 μ1 => Ew NoX (lev T k 13 [D.int (p * s - r * q)] μ1) fun d_7 μ1 => Ew NoX (lev T k 12 [D.lst [d, d_6], D.lst [d_7, D.int 0]] μ1) fun d μ1 => Ew NoX (endD (List.length μ) d μ1) fun b μ' => b = D.bl true ∧ μ' = μ := by
    refine (ev_of (f9 (by omega) p q r s μ h)).mpr ?_
    refine (ev_of (f9 (by omega) p q p q μ hs2)).mpr ?_
    refine (ev_of (f13 (by omega) _ μ)).mpr ?_
    rw [Int.sub_self, show sgn 0 = 0 from rfl]
    refine (ev_of (f12 (by omega) μ (rk_two (rk_i (sg _)) (rk_i (i := 0) (lt_BB (k := 1) (by decide) (by decide)))) (by decide) (by decide))).mpr ?_
    exact end_p rfl
  by_cases h0 : r = 0
  · subst h0
    simp only [decide_true, Bool.not_true, Bool.false_eq_true, if_false]
    refine (ev_of (ha_nn (d := tp [0, s]) ?_)).mpr ?_
    · rw [← f7x (n := k) (by omega) p q s μ]
      rfl
    refine (ev_of (f12 (by omega) μ (rk_nn ((rk_tp (bb2 (b140 h.hr) (b140 h.hs))).mono (by decide) (by show 2 ≤ 10; decide))) (by decide) (by decide))).mpr ?_
    simp only [↓ev_out, ↓ev_sqM, ↓ev_foM, ↓ev_setM, ↓ev_asgM, ↓ev_putM, ↓ev_ifM, ↓ev_tvM, ↓ev_tnM, ↓ev_taM, ↓ev_toM, ↓ev_op2, ↓ev_gV, ↓ev_kM, ↓ev_rtM, ↓ev_exM, ↓ev_neM, ↓ev_notM, ↓ev_andM, ↓ev_orM, ↓ev_nxM, ↓ev_app, ↓ev_nil, ↓ev_cons, ↓ev_callF, ↓ev_callM, ↓ev_slM, ↓ev_ptM, ↓ev_asI, ↓ev_seM, ↓ev_itL, ↓ev_itT, ↓ev_mkT, ↓ev_mkL, ↓ev_lcM, ↓ev_dispM, ↓ev_lft, ↓thenK_nx, ↓thenK_rt, ↓thenK_bk, ↓thenK_ct, ↓tgK_s, ↓outK_rt, ↓outK_nx, ↓vK_s, ↓turnK_nx, ↓turnK_rt, ↓turnK_bk, ↓turnK_ct, ↓ev_asB, ↓ev_add, ↓ev_sub, ↓ev_mul, ↓ev_fdiv, ↓ev_mod, ↓ev_pow, ↓ev_neg, ↓ev_eqI, ↓ev_neI, ↓ev_lt, ↓ev_le, ↓ev_gt, ↓ev_ge, ↓ev_gcd, ↓ev_absI, ↓ev_maxI, ↓ev_minI, ↓ev_intI, ↓ev_intB, ↓ev_tupT, ↓ev_tupL, ↓ev_lstT, ↓ev_lstL, ↓ev_lenT, ↓ev_lenL, ↓ev_catL, ↓ev_catT, ↓ev_ixT, ↓ev_ixL, ↓ev_slT, ↓ev_slL, ↓ev_isN, ↓ev_isNotN, ↓ev_zipTT, ↓ev_enumT, ↓ev_enumL, ↓ev_eqS, ↓ev_endI, ↓ev_endB, ↓ev_endN, ↓ev_endS, ↓ev_endTI, ↓ev_endLI, ↓ev_endTF, ↓ev_endLF, ↓ev_raiM, ↓ev_fqM, ↓ev_lcG, ↓ev_mkR, startD, pick, setTg, setAll, wipeD, List.map_cons, List.map_nil, List.length_cons, List.length_nil, List.cons_append, List.nil_append, List.getElem?_cons_zero, List.getElem?_cons_succ, List.set_cons_zero, List.set_cons_succ, List.replicate_succ, List.replicate_zero, List.filterMap_cons, List.filterMap_nil, Nat.reduceAdd, Nat.reduceSub, Nat.reduceLeDiff, and_self, if_true, decide_eq_true_eq, true_and, and_true, List.set_nil, List.length_set, take_set, take_app, take_self, Bool.not_true, Bool.false_eq_true, if_false]
    exact last
  · simp only [h0, decide_false, Bool.not_false, if_true]
    refine ⟨mulB (b140 h.hq) (b140 h.hr), ?_⟩
    refine (ev_of (f16 (by omega) _ _ μ (bb2 (b280 ps) (b280 qr)))).mpr ?_
    refine (ev_of (ha_ok (d := tp (fracL (p * s) (q * r))) ?_)).mpr ?_
    · rw [← f7 (n := k) (by omega) p q r s μ h h0]
      rfl
    refine (ev_of (f12 (by omega) μ (rk_one (rk_fr (bb2 (b280 ps) (b280 qr)))) (by decide) (by decide))).mpr ?_
    simp only [↓ev_out, ↓ev_sqM, ↓ev_foM, ↓ev_setM, ↓ev_asgM, ↓ev_putM, ↓ev_ifM, ↓ev_tvM, ↓ev_tnM, ↓ev_taM, ↓ev_toM, ↓ev_op2, ↓ev_gV, ↓ev_kM, ↓ev_rtM, ↓ev_exM, ↓ev_neM, ↓ev_notM, ↓ev_andM, ↓ev_orM, ↓ev_nxM, ↓ev_app, ↓ev_nil, ↓ev_cons, ↓ev_callF, ↓ev_callM, ↓ev_slM, ↓ev_ptM, ↓ev_asI, ↓ev_seM, ↓ev_itL, ↓ev_itT, ↓ev_mkT, ↓ev_mkL, ↓ev_lcM, ↓ev_dispM, ↓ev_lft, ↓thenK_nx, ↓thenK_rt, ↓thenK_bk, ↓thenK_ct, ↓tgK_s, ↓outK_rt, ↓outK_nx, ↓vK_s, ↓turnK_nx, ↓turnK_rt, ↓turnK_bk, ↓turnK_ct, ↓ev_asB, ↓ev_add, ↓ev_sub, ↓ev_mul, ↓ev_fdiv, ↓ev_mod, ↓ev_pow, ↓ev_neg, ↓ev_eqI, ↓ev_neI, ↓ev_lt, ↓ev_le, ↓ev_gt, ↓ev_ge, ↓ev_gcd, ↓ev_absI, ↓ev_maxI, ↓ev_minI, ↓ev_intI, ↓ev_intB, ↓ev_tupT, ↓ev_tupL, ↓ev_lstT, ↓ev_lstL, ↓ev_lenT, ↓ev_lenL, ↓ev_catL, ↓ev_catT, ↓ev_ixT, ↓ev_ixL, ↓ev_slT, ↓ev_slL, ↓ev_isN, ↓ev_isNotN, ↓ev_zipTT, ↓ev_enumT, ↓ev_enumL, ↓ev_eqS, ↓ev_endI, ↓ev_endB, ↓ev_endN, ↓ev_endS, ↓ev_endTI, ↓ev_endLI, ↓ev_endTF, ↓ev_endLF, ↓ev_raiM, ↓ev_fqM, ↓ev_lcG, ↓ev_mkR, startD, pick, setTg, setAll, wipeD, List.map_cons, List.map_nil, List.length_cons, List.length_nil, List.cons_append, List.nil_append, List.getElem?_cons_zero, List.getElem?_cons_succ, List.set_cons_zero, List.set_cons_succ, List.replicate_succ, List.replicate_zero, List.filterMap_cons, List.filterMap_nil, Nat.reduceAdd, Nat.reduceSub, Nat.reduceLeDiff, and_self, if_true, decide_eq_true_eq, true_and, and_true, List.set_nil, List.length_set, take_set, take_app, take_self, Bool.not_true, Bool.false_eq_true, if_false]
    exact last
def tl20 (L : Nat → List D → M D) : Rho → M Fl := sqM (setM (callF (L 18) ⟨1, [], [0]⟩ 1 [(gV 0)] []) 2) (sqM (setM (op2 (appM mkL [(gV 2), (appM mkT [(op2 (gV 2) (kM (.int 0)) ixD), (neM (op2 (gV 2) (kM (.int 1)) ixD))]), (appM mkT [(op2 (kM (.int 2)) (op2 (gV 2) (kM (.int 0)) ixD) mulD), (op2 (kM (.int 2)) (op2 (gV 2) (kM (.int 1)) ixD) mulD)]), (appM lstF [(gV 2)]), (op2 (gV 2) (appM mkT [(kM (.int 1))]) addD), (appM mkT [(op2 (gV 2) (kM (.int 0)) ixD), (kM .non)]), (appM mkT [(op2 (gV 2) (kM (.int 0)) ixD), (kM (.int 0))])]) (callF (L 11) ⟨2, [], [0, 1]⟩ 2 [(gV 0), (kM (.int 7))] []) ixD) 3) (sqM (setM (ifM (taM (tvM (op2 (gV 3) (gV 2) eqD)) (tvM (appM isaF [(gV 3), (kM (.ty "tuple"))]))) (appM mkL [(gV 3)]) (appM mkT [(kM (.str "number")), (gV 3)])) 1) (sqM (rtM (callF (L 12) ⟨2, [], [0, 1]⟩ 2 [(haM cl hd0 [] (callF (L 2) ⟨1, [], [0]⟩ 1 [(gV 3)] [])), (gV 1)] [])) nxM)))
theorem s20_tl (L : Nat → List D → M D) : s20 L = outD (sqM (asgM (appM mkT [(callF (L 17) ⟨1, [], [0]⟩ 1 [(gV 0)] []), (callF (L 17) ⟨1, [], [0]⟩ 1 [(gV 0)] [])]) (.t [4, 5])) (sqM (setM (ifM (tvM (op2 (gV 5) (kM (.int 0)) neD)) (appM mkL [(callF (L 16) ⟨2, [], [0, 1]⟩ 2 [(gV 4), (gV 5)] [])]) (appM mkT [(kM (.str "number")), (kM (.int 0))])) 1) (sqM (ifM (tnM (tvM (callF (L 12) ⟨2, [], [0, 1]⟩ 2 [(haM cl hd0 [] (callF (L 3) ⟨2, [], [0, 1]⟩ 2 [(gV 4), (gV 5)] [])), (gV 1)] []))) (sqM (rtM (kM (.bl false))) nxM) nxM) (tl20 L)))) 6 := rfl
theorem ev_eqLT {E : Xn → Mu → Prop} {xs ys : List D} {μ : Mu} {K : D → Mu → Prop} {k m k2 m2 : Nat} (h : Rk k m (.lst xs)) (hk : k ≤ 64) (h2 : Rk k2 m2 (.tup ys)) (hk2 : k2 ≤ 64) : Ew E (eqD (.lst xs) (.tup ys) μ) K ↔ K (.bl false) μ := by
  have sh : ∀ {d : D} {k m : Nat}, Rk k m d → k ≤ 64 → SeqAt.shaped (pdm μ d) = true := fun {d k m} h hk => by
    have e : pdm μ d = d.pd := by
      cases d with
      | ref n => exact (h.nr n rfl).elim
      | _ => rfl
    rw [e]
    show (d.pd.canLay0 && decide (d.pd.depth ≤ 64)) = true
    rw [h.lay, decide_eq_true (Nat.le_trans h.dep hk)]
    rfl
  show Ew E (bd (fun μ => if (SeqAt.shaped (pdm μ (.lst xs)) && SeqAt.shaped (pdm μ (.tup ys))) = true then .ok (PyData.eqv (pdm μ (.lst xs)) (pdm μ (.tup ys))) μ else .no) blV μ) K ↔ _
  rw [ev_bd]
  show Ew E (if (SeqAt.shaped (pdm μ (.lst xs)) && SeqAt.shaped (pdm μ (.tup ys))) = true then .ok (PyData.eqv (pdm μ (.lst xs)) (pdm μ (.tup ys))) μ else .no : R Bool) _ ↔ _
  rw [sh h hk, sh h2 hk2, if_pos (show (true && true) = true from rfl)]
  exact Iff.rfl
theorem ev_eqNT {E : Xn → Mu → Prop} {p q r : Int} {μ : Mu} {K : D → Mu → Prop} : Ew E (eqD (.tup [.int p, .non]) (tp [q, r]) μ) K ↔ K (.bl false) μ := by
  have e : PyData.eqv (D.pd (.tup [.int p, .non])) (D.pd (tp [q, r])) = false := by
    show ((p == q) && (false && true)) = false
    cases (p == q) <;> rfl
  have q := eqB_q (E := E) (μ := μ) (K := fun c μ' => K (.bl c) μ') (d := .tup [.int p, .non]) (e := tp [q, r]) (by simp [shp]) (shp_mono 8 (show shp 1 (.tup ([q, r].map .int)) from shp_ints _) (by decide)) (.inr ⟨_, rfl⟩)
  rw [e] at q
  exact (ev_bd (f := blV)).trans q
theorem ev_eqTT {E : Xn → Mu → Prop} {a b : List Int} {μ : Mu} {K : D → Mu → Prop} : Ew E (eqD (tp a) (tp b) μ) K ↔ K (.bl (decide (a = b))) μ := ev_eqTI
theorem tl20_ok {k : Nat} (hk : 4 ≤ k) {j c : Nat} {o1 : Option D} {a b : D} {μ : Mu} {K : Fl → Mu → Prop} (h : MAt j c μ) (hc : c + 51 ≤ CAP) (hK : ∀ μ', Sj j μ μ' → MAt j (c + 51) μ' → K (.rt (.bl true)) μ') :
    Ew NoX (tl20 (lev T k) [some (.ref j), o1, none, none, some a, some b] μ) K := by
  unfold tl20
  simp only [↓ev_out, ↓ev_sqM, ↓ev_foM, ↓ev_setM, ↓ev_asgM, ↓ev_putM, ↓ev_ifM, ↓ev_tvM, ↓ev_tnM, ↓ev_taM, ↓ev_toM, ↓ev_op2, ↓ev_gV, ↓ev_kM, ↓ev_rtM, ↓ev_exM, ↓ev_neM, ↓ev_notM, ↓ev_andM, ↓ev_orM, ↓ev_nxM, ↓ev_app, ↓ev_nil, ↓ev_cons, ↓ev_callF, ↓ev_callM, ↓ev_slM, ↓ev_ptM, ↓ev_asI, ↓ev_seM, ↓ev_itL, ↓ev_itT, ↓ev_mkT, ↓ev_mkL, ↓ev_lcM, ↓ev_dispM, ↓ev_lft, ↓thenK_nx, ↓thenK_rt, ↓thenK_bk, ↓thenK_ct, ↓tgK_s, ↓outK_rt, ↓outK_nx, ↓vK_s, ↓turnK_nx, ↓turnK_rt, ↓turnK_bk, ↓turnK_ct, ↓ev_asB, ↓ev_add, ↓ev_sub, ↓ev_mul, ↓ev_fdiv, ↓ev_mod, ↓ev_pow, ↓ev_neg, ↓ev_eqI, ↓ev_neI, ↓ev_lt, ↓ev_le, ↓ev_gt, ↓ev_ge, ↓ev_gcd, ↓ev_absI, ↓ev_maxI, ↓ev_minI, ↓ev_intI, ↓ev_intB, ↓ev_tupT, ↓ev_tupL, ↓ev_lstT, ↓ev_lstL, ↓ev_lenT, ↓ev_lenL, ↓ev_catL, ↓ev_catT, ↓ev_ixT, ↓ev_ixL, ↓ev_slT, ↓ev_slL, ↓ev_isN, ↓ev_isNotN, ↓ev_zipTT, ↓ev_enumT, ↓ev_enumL, ↓ev_eqS, ↓ev_endI, ↓ev_endB, ↓ev_endN, ↓ev_endS, ↓ev_endTI, ↓ev_endLI, ↓ev_endTF, ↓ev_endLF, ↓ev_raiM, ↓ev_fqM, ↓ev_lcG, ↓ev_mkR, startD, pick, setTg, setAll, wipeD, List.map_cons, List.map_nil, List.length_cons, List.length_nil, List.cons_append, List.nil_append, List.getElem?_cons_zero, List.getElem?_cons_succ, List.set_cons_zero, List.set_cons_succ, List.replicate_succ, List.replicate_zero, List.filterMap_cons, List.filterMap_nil, Nat.reduceAdd, Nat.reduceSub, Nat.reduceLeDiff, and_self, if_true, decide_eq_true_eq, true_and, and_true, List.set_nil, List.length_set, take_set, take_app, take_self]
  refine ev_imp (f18 (by omega) h (by omega)) ?_
  rintro _ μ1 ⟨⟨p, q, rfl, fr, bp, bq⟩, s1, m1⟩
  have m2p : mulOk 2 p = true := mul64l (by decide)
  have m2q : mulOk 2 q = true := mul64l (by decide)
  simp only [↓ev_out, ↓ev_sqM, ↓ev_foM, ↓ev_setM, ↓ev_asgM, ↓ev_putM, ↓ev_ifM, ↓ev_tvM, ↓ev_tnM, ↓ev_taM, ↓ev_toM, ↓ev_op2, ↓ev_gV, ↓ev_kM, ↓ev_rtM, ↓ev_exM, ↓ev_neM, ↓ev_notM, ↓ev_andM, ↓ev_orM, ↓ev_nxM, ↓ev_app, ↓ev_nil, ↓ev_cons, ↓ev_callF, ↓ev_callM, ↓ev_slM, ↓ev_ptM, ↓ev_asI, ↓ev_seM, ↓ev_itL, ↓ev_itT, ↓ev_mkT, ↓ev_mkL, ↓ev_lcM, ↓ev_dispM, ↓ev_lft, ↓thenK_nx, ↓thenK_rt, ↓thenK_bk, ↓thenK_ct, ↓tgK_s, ↓outK_rt, ↓outK_nx, ↓vK_s, ↓turnK_nx, ↓turnK_rt, ↓turnK_bk, ↓turnK_ct, ↓ev_asB, ↓ev_add, ↓ev_sub, ↓ev_mul, ↓ev_fdiv, ↓ev_mod, ↓ev_pow, ↓ev_neg, ↓ev_eqI, ↓ev_neI, ↓ev_lt, ↓ev_le, ↓ev_gt, ↓ev_ge, ↓ev_gcd, ↓ev_absI, ↓ev_maxI, ↓ev_minI, ↓ev_intI, ↓ev_intB, ↓ev_tupT, ↓ev_tupL, ↓ev_lstT, ↓ev_lstL, ↓ev_lenT, ↓ev_lenL, ↓ev_catL, ↓ev_catT, ↓ev_ixT, ↓ev_ixL, ↓ev_slT, ↓ev_slL, ↓ev_isN, ↓ev_isNotN, ↓ev_zipTT, ↓ev_enumT, ↓ev_enumL, ↓ev_eqS, ↓ev_endI, ↓ev_endB, ↓ev_endN, ↓ev_endS, ↓ev_endTI, ↓ev_endLI, ↓ev_endTF, ↓ev_endLF, ↓ev_raiM, ↓ev_fqM, ↓ev_lcG, ↓ev_mkR, startD, pick, setTg, setAll, wipeD, List.map_cons, List.map_nil, List.length_cons, List.length_nil, List.cons_append, List.nil_append, List.getElem?_cons_zero, List.getElem?_cons_succ, List.set_cons_zero, List.set_cons_succ, List.replicate_succ, List.replicate_zero, List.filterMap_cons, List.filterMap_nil, Nat.reduceAdd, Nat.reduceSub, Nat.reduceLeDiff, and_self, if_true, decide_eq_true_eq, true_and, and_true, List.set_nil, List.length_set, take_set, take_app, take_self, at0, at1, m2p, m2q]
  refine ev_imp (f11d (by omega) m1 (by omega) (by decide) (by decide)) ?_
  rintro _ μ2 ⟨r, rfl, r0, r7, s2, m2⟩
  have s12 := s1.trans s2
  have fin := hK μ2 s12 m2
  have Bp := b140 bp
  have Bq := b140 bq
  have q0 := fr.pos
  have bad : ∀ (v : D), Rk 2 10 v → F k 2 [v] μ2 = .ex (nn v) μ2 → Ew NoX (haM cl hd0 [] (callF (lev T k 2) { np := 1, ks := [], pm := [0] } 1 [gV 3] []) [some (.ref j), some (D.tup [D.str (Str.ofString "number"), v]), some (tp [p, q]), some v, some a, some b] μ2) fun d μ1 => Ew NoX (lev T k 12 [d, D.tup [D.str (Str.ofString "number"), v]] μ1) fun d μ1 => K (Fl.rt d) μ1 := fun v rk e => by
    refine (ev_of (ha_nn (d := v) ?_)).mpr ?_
    · rw [← e]
      rfl
    exact (ev_of (f12 (by omega) μ2 (rk_nn rk) (by decide) (by decide))).mpr fin
  have rp2 : ∀ {x y : Int}, x.natAbs < BB → y.natAbs < BB → Rk 2 10 (tp [x, y]) := fun hx hy => (rk_tp (bb2 hx hy)).mono (by decide) (by show 2 ≤ 10; decide)
  have ne1 : ∀ {x y : Int}, y ≠ q → decide ([x, y] = [p, q]) = false := fun {x y} h => decide_eq_false fun z => h (by injection z with _ t; injection t)
  have B2p : (2 * p).natAbs < BB := lt_BB (k := 141) (by rw [Int.natAbs_mul]; show 2 * _ < _; omega) (by decide)
  have B2q : (2 * q).natAbs < BB := lt_BB (k := 141) (by rw [Int.natAbs_mul]; show 2 * _ < _; omega) (by decide)
  have hr : r = 0 ∨ r = 1 ∨ r = 2 ∨ r = 3 ∨ r = 4 ∨ r = 5 ∨ r = 6 := by omega
  rcases hr with rfl | rfl | rfl | rfl | rfl | rfl | rfl
  · simp only [↓ev_out, ↓ev_sqM, ↓ev_foM, ↓ev_setM, ↓ev_asgM, ↓ev_putM, ↓ev_ifM, ↓ev_tvM, ↓ev_tnM, ↓ev_taM, ↓ev_toM, ↓ev_op2, ↓ev_gV, ↓ev_kM, ↓ev_rtM, ↓ev_exM, ↓ev_neM, ↓ev_notM, ↓ev_andM, ↓ev_orM, ↓ev_nxM, ↓ev_app, ↓ev_nil, ↓ev_cons, ↓ev_callF, ↓ev_callM, ↓ev_slM, ↓ev_ptM, ↓ev_asI, ↓ev_seM, ↓ev_itL, ↓ev_itT, ↓ev_mkT, ↓ev_mkL, ↓ev_lcM, ↓ev_dispM, ↓ev_lft, ↓thenK_nx, ↓thenK_rt, ↓thenK_bk, ↓thenK_ct, ↓tgK_s, ↓outK_rt, ↓outK_nx, ↓vK_s, ↓turnK_nx, ↓turnK_rt, ↓turnK_bk, ↓turnK_ct, ↓ev_asB, ↓ev_add, ↓ev_sub, ↓ev_mul, ↓ev_fdiv, ↓ev_mod, ↓ev_pow, ↓ev_neg, ↓ev_eqI, ↓ev_neI, ↓ev_lt, ↓ev_le, ↓ev_gt, ↓ev_ge, ↓ev_gcd, ↓ev_absI, ↓ev_maxI, ↓ev_minI, ↓ev_intI, ↓ev_intB, ↓ev_tupT, ↓ev_tupL, ↓ev_lstT, ↓ev_lstL, ↓ev_lenT, ↓ev_lenL, ↓ev_catL, ↓ev_catT, ↓ev_ixT, ↓ev_ixL, ↓ev_slT, ↓ev_slL, ↓ev_isN, ↓ev_isNotN, ↓ev_zipTT, ↓ev_enumT, ↓ev_enumL, ↓ev_eqS, ↓ev_endI, ↓ev_endB, ↓ev_endN, ↓ev_endS, ↓ev_endTI, ↓ev_endLI, ↓ev_endTF, ↓ev_endLF, ↓ev_raiM, ↓ev_fqM, ↓ev_lcG, ↓ev_mkR, startD, pick, setTg, setAll, wipeD, List.map_cons, List.map_nil, List.length_cons, List.length_nil, List.cons_append, List.nil_append, List.getElem?_cons_zero, List.getElem?_cons_succ, List.set_cons_zero, List.set_cons_succ, List.replicate_succ, List.replicate_zero, List.filterMap_cons, List.filterMap_nil, Nat.reduceAdd, Nat.reduceSub, Nat.reduceLeDiff, and_self, if_true, decide_eq_true_eq, true_and, and_true, List.set_nil, List.length_set, take_set, take_app, take_self]
    rw [show ∀ (a b c d e f g : D), atI [a, b, c, d, e, f, g] 0 = some a from fun _ _ _ _ _ _ _ => rfl]
    simp only [↓ev_out, ↓ev_sqM, ↓ev_foM, ↓ev_setM, ↓ev_asgM, ↓ev_putM, ↓ev_ifM, ↓ev_tvM, ↓ev_tnM, ↓ev_taM, ↓ev_toM, ↓ev_op2, ↓ev_gV, ↓ev_kM, ↓ev_rtM, ↓ev_exM, ↓ev_neM, ↓ev_notM, ↓ev_andM, ↓ev_orM, ↓ev_nxM, ↓ev_app, ↓ev_nil, ↓ev_cons, ↓ev_callF, ↓ev_callM, ↓ev_slM, ↓ev_ptM, ↓ev_asI, ↓ev_seM, ↓ev_itL, ↓ev_itT, ↓ev_mkT, ↓ev_mkL, ↓ev_lcM, ↓ev_dispM, ↓ev_lft, ↓thenK_nx, ↓thenK_rt, ↓thenK_bk, ↓thenK_ct, ↓tgK_s, ↓outK_rt, ↓outK_nx, ↓vK_s, ↓turnK_nx, ↓turnK_rt, ↓turnK_bk, ↓turnK_ct, ↓ev_asB, ↓ev_add, ↓ev_sub, ↓ev_mul, ↓ev_fdiv, ↓ev_mod, ↓ev_pow, ↓ev_neg, ↓ev_eqI, ↓ev_neI, ↓ev_lt, ↓ev_le, ↓ev_gt, ↓ev_ge, ↓ev_gcd, ↓ev_absI, ↓ev_maxI, ↓ev_minI, ↓ev_intI, ↓ev_intB, ↓ev_tupT, ↓ev_tupL, ↓ev_lstT, ↓ev_lstL, ↓ev_lenT, ↓ev_lenL, ↓ev_catL, ↓ev_catT, ↓ev_ixT, ↓ev_ixL, ↓ev_slT, ↓ev_slL, ↓ev_isN, ↓ev_isNotN, ↓ev_zipTT, ↓ev_enumT, ↓ev_enumL, ↓ev_eqS, ↓ev_endI, ↓ev_endB, ↓ev_endN, ↓ev_endS, ↓ev_endTI, ↓ev_endLI, ↓ev_endTF, ↓ev_endLF, ↓ev_raiM, ↓ev_fqM, ↓ev_lcG, ↓ev_mkR, startD, pick, setTg, setAll, wipeD, List.map_cons, List.map_nil, List.length_cons, List.length_nil, List.cons_append, List.nil_append, List.getElem?_cons_zero, List.getElem?_cons_succ, List.set_cons_zero, List.set_cons_succ, List.replicate_succ, List.replicate_zero, List.filterMap_cons, List.filterMap_nil, Nat.reduceAdd, Nat.reduceSub, Nat.reduceLeDiff, and_self, if_true, decide_eq_true_eq, true_and, and_true, List.set_nil, List.length_set, take_set, take_app, take_self, ev_eqTT, decide_true]
    refine (ev_isa (b := true) rfl).mpr ?_
    simp only [↓ev_out, ↓ev_sqM, ↓ev_foM, ↓ev_setM, ↓ev_asgM, ↓ev_putM, ↓ev_ifM, ↓ev_tvM, ↓ev_tnM, ↓ev_taM, ↓ev_toM, ↓ev_op2, ↓ev_gV, ↓ev_kM, ↓ev_rtM, ↓ev_exM, ↓ev_neM, ↓ev_notM, ↓ev_andM, ↓ev_orM, ↓ev_nxM, ↓ev_app, ↓ev_nil, ↓ev_cons, ↓ev_callF, ↓ev_callM, ↓ev_slM, ↓ev_ptM, ↓ev_asI, ↓ev_seM, ↓ev_itL, ↓ev_itT, ↓ev_mkT, ↓ev_mkL, ↓ev_lcM, ↓ev_dispM, ↓ev_lft, ↓thenK_nx, ↓thenK_rt, ↓thenK_bk, ↓thenK_ct, ↓tgK_s, ↓outK_rt, ↓outK_nx, ↓vK_s, ↓turnK_nx, ↓turnK_rt, ↓turnK_bk, ↓turnK_ct, ↓ev_asB, ↓ev_add, ↓ev_sub, ↓ev_mul, ↓ev_fdiv, ↓ev_mod, ↓ev_pow, ↓ev_neg, ↓ev_eqI, ↓ev_neI, ↓ev_lt, ↓ev_le, ↓ev_gt, ↓ev_ge, ↓ev_gcd, ↓ev_absI, ↓ev_maxI, ↓ev_minI, ↓ev_intI, ↓ev_intB, ↓ev_tupT, ↓ev_tupL, ↓ev_lstT, ↓ev_lstL, ↓ev_lenT, ↓ev_lenL, ↓ev_catL, ↓ev_catT, ↓ev_ixT, ↓ev_ixL, ↓ev_slT, ↓ev_slL, ↓ev_isN, ↓ev_isNotN, ↓ev_zipTT, ↓ev_enumT, ↓ev_enumL, ↓ev_eqS, ↓ev_endI, ↓ev_endB, ↓ev_endN, ↓ev_endS, ↓ev_endTI, ↓ev_endLI, ↓ev_endTF, ↓ev_endLF, ↓ev_raiM, ↓ev_fqM, ↓ev_lcG, ↓ev_mkR, startD, pick, setTg, setAll, wipeD, List.map_cons, List.map_nil, List.length_cons, List.length_nil, List.cons_append, List.nil_append, List.getElem?_cons_zero, List.getElem?_cons_succ, List.set_cons_zero, List.set_cons_succ, List.replicate_succ, List.replicate_zero, List.filterMap_cons, List.filterMap_nil, Nat.reduceAdd, Nat.reduceSub, Nat.reduceLeDiff, and_self, if_true, decide_eq_true_eq, true_and, and_true, List.set_nil, List.length_set, take_set, take_app, take_self]
    refine (ev_of (ha_ok (d := tp [p, q]) ?_)).mpr ?_
    · rw [← f2_ok (n := k) (by omega) fr μ2]
      rfl
    exact (ev_of (f12 (by omega) μ2 (rk_one (rp2 Bp Bq)) (by decide) (by decide))).mpr fin
  · simp only [↓ev_out, ↓ev_sqM, ↓ev_foM, ↓ev_setM, ↓ev_asgM, ↓ev_putM, ↓ev_ifM, ↓ev_tvM, ↓ev_tnM, ↓ev_taM, ↓ev_toM, ↓ev_op2, ↓ev_gV, ↓ev_kM, ↓ev_rtM, ↓ev_exM, ↓ev_neM, ↓ev_notM, ↓ev_andM, ↓ev_orM, ↓ev_nxM, ↓ev_app, ↓ev_nil, ↓ev_cons, ↓ev_callF, ↓ev_callM, ↓ev_slM, ↓ev_ptM, ↓ev_asI, ↓ev_seM, ↓ev_itL, ↓ev_itT, ↓ev_mkT, ↓ev_mkL, ↓ev_lcM, ↓ev_dispM, ↓ev_lft, ↓thenK_nx, ↓thenK_rt, ↓thenK_bk, ↓thenK_ct, ↓tgK_s, ↓outK_rt, ↓outK_nx, ↓vK_s, ↓turnK_nx, ↓turnK_rt, ↓turnK_bk, ↓turnK_ct, ↓ev_asB, ↓ev_add, ↓ev_sub, ↓ev_mul, ↓ev_fdiv, ↓ev_mod, ↓ev_pow, ↓ev_neg, ↓ev_eqI, ↓ev_neI, ↓ev_lt, ↓ev_le, ↓ev_gt, ↓ev_ge, ↓ev_gcd, ↓ev_absI, ↓ev_maxI, ↓ev_minI, ↓ev_intI, ↓ev_intB, ↓ev_tupT, ↓ev_tupL, ↓ev_lstT, ↓ev_lstL, ↓ev_lenT, ↓ev_lenL, ↓ev_catL, ↓ev_catT, ↓ev_ixT, ↓ev_ixL, ↓ev_slT, ↓ev_slL, ↓ev_isN, ↓ev_isNotN, ↓ev_zipTT, ↓ev_enumT, ↓ev_enumL, ↓ev_eqS, ↓ev_endI, ↓ev_endB, ↓ev_endN, ↓ev_endS, ↓ev_endTI, ↓ev_endLI, ↓ev_endTF, ↓ev_endLF, ↓ev_raiM, ↓ev_fqM, ↓ev_lcG, ↓ev_mkR, startD, pick, setTg, setAll, wipeD, List.map_cons, List.map_nil, List.length_cons, List.length_nil, List.cons_append, List.nil_append, List.getElem?_cons_zero, List.getElem?_cons_succ, List.set_cons_zero, List.set_cons_succ, List.replicate_succ, List.replicate_zero, List.filterMap_cons, List.filterMap_nil, Nat.reduceAdd, Nat.reduceSub, Nat.reduceLeDiff, and_self, if_true, decide_eq_true_eq, true_and, and_true, List.set_nil, List.length_set, take_set, take_app, take_self]
    rw [show ∀ (a b c d e f g : D), atI [a, b, c, d, e, f, g] 1 = some b from fun _ _ _ _ _ _ _ => rfl]
    rw [show D.tup [D.int p, D.int (-q)] = tp [p, -q] from rfl]
    simp only [↓ev_out, ↓ev_sqM, ↓ev_foM, ↓ev_setM, ↓ev_asgM, ↓ev_putM, ↓ev_ifM, ↓ev_tvM, ↓ev_tnM, ↓ev_taM, ↓ev_toM, ↓ev_op2, ↓ev_gV, ↓ev_kM, ↓ev_rtM, ↓ev_exM, ↓ev_neM, ↓ev_notM, ↓ev_andM, ↓ev_orM, ↓ev_nxM, ↓ev_app, ↓ev_nil, ↓ev_cons, ↓ev_callF, ↓ev_callM, ↓ev_slM, ↓ev_ptM, ↓ev_asI, ↓ev_seM, ↓ev_itL, ↓ev_itT, ↓ev_mkT, ↓ev_mkL, ↓ev_lcM, ↓ev_dispM, ↓ev_lft, ↓thenK_nx, ↓thenK_rt, ↓thenK_bk, ↓thenK_ct, ↓tgK_s, ↓outK_rt, ↓outK_nx, ↓vK_s, ↓turnK_nx, ↓turnK_rt, ↓turnK_bk, ↓turnK_ct, ↓ev_asB, ↓ev_add, ↓ev_sub, ↓ev_mul, ↓ev_fdiv, ↓ev_mod, ↓ev_pow, ↓ev_neg, ↓ev_eqI, ↓ev_neI, ↓ev_lt, ↓ev_le, ↓ev_gt, ↓ev_ge, ↓ev_gcd, ↓ev_absI, ↓ev_maxI, ↓ev_minI, ↓ev_intI, ↓ev_intB, ↓ev_tupT, ↓ev_tupL, ↓ev_lstT, ↓ev_lstL, ↓ev_lenT, ↓ev_lenL, ↓ev_catL, ↓ev_catT, ↓ev_ixT, ↓ev_ixL, ↓ev_slT, ↓ev_slL, ↓ev_isN, ↓ev_isNotN, ↓ev_zipTT, ↓ev_enumT, ↓ev_enumL, ↓ev_eqS, ↓ev_endI, ↓ev_endB, ↓ev_endN, ↓ev_endS, ↓ev_endTI, ↓ev_endLI, ↓ev_endTF, ↓ev_endLF, ↓ev_raiM, ↓ev_fqM, ↓ev_lcG, ↓ev_mkR, startD, pick, setTg, setAll, wipeD, List.map_cons, List.map_nil, List.length_cons, List.length_nil, List.cons_append, List.nil_append, List.getElem?_cons_zero, List.getElem?_cons_succ, List.set_cons_zero, List.set_cons_succ, List.replicate_succ, List.replicate_zero, List.filterMap_cons, List.filterMap_nil, Nat.reduceAdd, Nat.reduceSub, Nat.reduceLeDiff, and_self, if_true, decide_eq_true_eq, true_and, and_true, List.set_nil, List.length_set, take_set, take_app, take_self, ev_eqTT, ne1 (x := p) (y := -q) (by omega), Bool.false_eq_true, if_false]
    exact bad _ (rp2 Bp (by rw [Int.natAbs_neg]; exact Bq)) (f2_bad (by omega) (.inl (by omega)) μ2)
  · simp only [↓ev_out, ↓ev_sqM, ↓ev_foM, ↓ev_setM, ↓ev_asgM, ↓ev_putM, ↓ev_ifM, ↓ev_tvM, ↓ev_tnM, ↓ev_taM, ↓ev_toM, ↓ev_op2, ↓ev_gV, ↓ev_kM, ↓ev_rtM, ↓ev_exM, ↓ev_neM, ↓ev_notM, ↓ev_andM, ↓ev_orM, ↓ev_nxM, ↓ev_app, ↓ev_nil, ↓ev_cons, ↓ev_callF, ↓ev_callM, ↓ev_slM, ↓ev_ptM, ↓ev_asI, ↓ev_seM, ↓ev_itL, ↓ev_itT, ↓ev_mkT, ↓ev_mkL, ↓ev_lcM, ↓ev_dispM, ↓ev_lft, ↓thenK_nx, ↓thenK_rt, ↓thenK_bk, ↓thenK_ct, ↓tgK_s, ↓outK_rt, ↓outK_nx, ↓vK_s, ↓turnK_nx, ↓turnK_rt, ↓turnK_bk, ↓turnK_ct, ↓ev_asB, ↓ev_add, ↓ev_sub, ↓ev_mul, ↓ev_fdiv, ↓ev_mod, ↓ev_pow, ↓ev_neg, ↓ev_eqI, ↓ev_neI, ↓ev_lt, ↓ev_le, ↓ev_gt, ↓ev_ge, ↓ev_gcd, ↓ev_absI, ↓ev_maxI, ↓ev_minI, ↓ev_intI, ↓ev_intB, ↓ev_tupT, ↓ev_tupL, ↓ev_lstT, ↓ev_lstL, ↓ev_lenT, ↓ev_lenL, ↓ev_catL, ↓ev_catT, ↓ev_ixT, ↓ev_ixL, ↓ev_slT, ↓ev_slL, ↓ev_isN, ↓ev_isNotN, ↓ev_zipTT, ↓ev_enumT, ↓ev_enumL, ↓ev_eqS, ↓ev_endI, ↓ev_endB, ↓ev_endN, ↓ev_endS, ↓ev_endTI, ↓ev_endLI, ↓ev_endTF, ↓ev_endLF, ↓ev_raiM, ↓ev_fqM, ↓ev_lcG, ↓ev_mkR, startD, pick, setTg, setAll, wipeD, List.map_cons, List.map_nil, List.length_cons, List.length_nil, List.cons_append, List.nil_append, List.getElem?_cons_zero, List.getElem?_cons_succ, List.set_cons_zero, List.set_cons_succ, List.replicate_succ, List.replicate_zero, List.filterMap_cons, List.filterMap_nil, Nat.reduceAdd, Nat.reduceSub, Nat.reduceLeDiff, and_self, if_true, decide_eq_true_eq, true_and, and_true, List.set_nil, List.length_set, take_set, take_app, take_self]
    rw [show ∀ (a b c d e f g : D), atI [a, b, c, d, e, f, g] 2 = some c from fun _ _ _ _ _ _ _ => rfl]
    rw [show D.tup [D.int (2 * p), D.int (2 * q)] = tp [2 * p, 2 * q] from rfl]
    simp only [↓ev_out, ↓ev_sqM, ↓ev_foM, ↓ev_setM, ↓ev_asgM, ↓ev_putM, ↓ev_ifM, ↓ev_tvM, ↓ev_tnM, ↓ev_taM, ↓ev_toM, ↓ev_op2, ↓ev_gV, ↓ev_kM, ↓ev_rtM, ↓ev_exM, ↓ev_neM, ↓ev_notM, ↓ev_andM, ↓ev_orM, ↓ev_nxM, ↓ev_app, ↓ev_nil, ↓ev_cons, ↓ev_callF, ↓ev_callM, ↓ev_slM, ↓ev_ptM, ↓ev_asI, ↓ev_seM, ↓ev_itL, ↓ev_itT, ↓ev_mkT, ↓ev_mkL, ↓ev_lcM, ↓ev_dispM, ↓ev_lft, ↓thenK_nx, ↓thenK_rt, ↓thenK_bk, ↓thenK_ct, ↓tgK_s, ↓outK_rt, ↓outK_nx, ↓vK_s, ↓turnK_nx, ↓turnK_rt, ↓turnK_bk, ↓turnK_ct, ↓ev_asB, ↓ev_add, ↓ev_sub, ↓ev_mul, ↓ev_fdiv, ↓ev_mod, ↓ev_pow, ↓ev_neg, ↓ev_eqI, ↓ev_neI, ↓ev_lt, ↓ev_le, ↓ev_gt, ↓ev_ge, ↓ev_gcd, ↓ev_absI, ↓ev_maxI, ↓ev_minI, ↓ev_intI, ↓ev_intB, ↓ev_tupT, ↓ev_tupL, ↓ev_lstT, ↓ev_lstL, ↓ev_lenT, ↓ev_lenL, ↓ev_catL, ↓ev_catT, ↓ev_ixT, ↓ev_ixL, ↓ev_slT, ↓ev_slL, ↓ev_isN, ↓ev_isNotN, ↓ev_zipTT, ↓ev_enumT, ↓ev_enumL, ↓ev_eqS, ↓ev_endI, ↓ev_endB, ↓ev_endN, ↓ev_endS, ↓ev_endTI, ↓ev_endLI, ↓ev_endTF, ↓ev_endLF, ↓ev_raiM, ↓ev_fqM, ↓ev_lcG, ↓ev_mkR, startD, pick, setTg, setAll, wipeD, List.map_cons, List.map_nil, List.length_cons, List.length_nil, List.cons_append, List.nil_append, List.getElem?_cons_zero, List.getElem?_cons_succ, List.set_cons_zero, List.set_cons_succ, List.replicate_succ, List.replicate_zero, List.filterMap_cons, List.filterMap_nil, Nat.reduceAdd, Nat.reduceSub, Nat.reduceLeDiff, and_self, if_true, decide_eq_true_eq, true_and, and_true, List.set_nil, List.length_set, take_set, take_app, take_self, ev_eqTT, ne1 (x := 2 * p) (y := 2 * q) (by omega), Bool.false_eq_true, if_false]
    refine bad _ (rp2 B2p B2q) (f2_bad (by omega) (.inr fun z => ?_) μ2)
    rw [gcd2, Int.natAbs_mul, Int.natAbs_mul] at z
    have z : Nat.gcd (2 * p.natAbs) (2 * q.natAbs) = 1 := z
    rw [Nat.gcd_mul_left] at z
    omega
  · simp only [↓ev_out, ↓ev_sqM, ↓ev_foM, ↓ev_setM, ↓ev_asgM, ↓ev_putM, ↓ev_ifM, ↓ev_tvM, ↓ev_tnM, ↓ev_taM, ↓ev_toM, ↓ev_op2, ↓ev_gV, ↓ev_kM, ↓ev_rtM, ↓ev_exM, ↓ev_neM, ↓ev_notM, ↓ev_andM, ↓ev_orM, ↓ev_nxM, ↓ev_app, ↓ev_nil, ↓ev_cons, ↓ev_callF, ↓ev_callM, ↓ev_slM, ↓ev_ptM, ↓ev_asI, ↓ev_seM, ↓ev_itL, ↓ev_itT, ↓ev_mkT, ↓ev_mkL, ↓ev_lcM, ↓ev_dispM, ↓ev_lft, ↓thenK_nx, ↓thenK_rt, ↓thenK_bk, ↓thenK_ct, ↓tgK_s, ↓outK_rt, ↓outK_nx, ↓vK_s, ↓turnK_nx, ↓turnK_rt, ↓turnK_bk, ↓turnK_ct, ↓ev_asB, ↓ev_add, ↓ev_sub, ↓ev_mul, ↓ev_fdiv, ↓ev_mod, ↓ev_pow, ↓ev_neg, ↓ev_eqI, ↓ev_neI, ↓ev_lt, ↓ev_le, ↓ev_gt, ↓ev_ge, ↓ev_gcd, ↓ev_absI, ↓ev_maxI, ↓ev_minI, ↓ev_intI, ↓ev_intB, ↓ev_tupT, ↓ev_tupL, ↓ev_lstT, ↓ev_lstL, ↓ev_lenT, ↓ev_lenL, ↓ev_catL, ↓ev_catT, ↓ev_ixT, ↓ev_ixL, ↓ev_slT, ↓ev_slL, ↓ev_isN, ↓ev_isNotN, ↓ev_zipTT, ↓ev_enumT, ↓ev_enumL, ↓ev_eqS, ↓ev_endI, ↓ev_endB, ↓ev_endN, ↓ev_endS, ↓ev_endTI, ↓ev_endLI, ↓ev_endTF, ↓ev_endLF, ↓ev_raiM, ↓ev_fqM, ↓ev_lcG, ↓ev_mkR, startD, pick, setTg, setAll, wipeD, List.map_cons, List.map_nil, List.length_cons, List.length_nil, List.cons_append, List.nil_append, List.getElem?_cons_zero, List.getElem?_cons_succ, List.set_cons_zero, List.set_cons_succ, List.replicate_succ, List.replicate_zero, List.filterMap_cons, List.filterMap_nil, Nat.reduceAdd, Nat.reduceSub, Nat.reduceLeDiff, and_self, if_true, decide_eq_true_eq, true_and, and_true, List.set_nil, List.length_set, take_set, take_app, take_self]
    rw [show ∀ (a b c d e f g : D), atI [a, b, c, d, e, f, g] 3 = some d from fun _ _ _ _ _ _ _ => rfl]
    have rl : Rk 2 10 (.lst [.int p, .int q]) := (rk_two (rk_i Bp) (rk_i Bq)).mono (by decide) (by decide)
    simp only [↓ev_out, ↓ev_sqM, ↓ev_foM, ↓ev_setM, ↓ev_asgM, ↓ev_putM, ↓ev_ifM, ↓ev_tvM, ↓ev_tnM, ↓ev_taM, ↓ev_toM, ↓ev_op2, ↓ev_gV, ↓ev_kM, ↓ev_rtM, ↓ev_exM, ↓ev_neM, ↓ev_notM, ↓ev_andM, ↓ev_orM, ↓ev_nxM, ↓ev_app, ↓ev_nil, ↓ev_cons, ↓ev_callF, ↓ev_callM, ↓ev_slM, ↓ev_ptM, ↓ev_asI, ↓ev_seM, ↓ev_itL, ↓ev_itT, ↓ev_mkT, ↓ev_mkL, ↓ev_lcM, ↓ev_dispM, ↓ev_lft, ↓thenK_nx, ↓thenK_rt, ↓thenK_bk, ↓thenK_ct, ↓tgK_s, ↓outK_rt, ↓outK_nx, ↓vK_s, ↓turnK_nx, ↓turnK_rt, ↓turnK_bk, ↓turnK_ct, ↓ev_asB, ↓ev_add, ↓ev_sub, ↓ev_mul, ↓ev_fdiv, ↓ev_mod, ↓ev_pow, ↓ev_neg, ↓ev_eqI, ↓ev_neI, ↓ev_lt, ↓ev_le, ↓ev_gt, ↓ev_ge, ↓ev_gcd, ↓ev_absI, ↓ev_maxI, ↓ev_minI, ↓ev_intI, ↓ev_intB, ↓ev_tupT, ↓ev_tupL, ↓ev_lstT, ↓ev_lstL, ↓ev_lenT, ↓ev_lenL, ↓ev_catL, ↓ev_catT, ↓ev_ixT, ↓ev_ixL, ↓ev_slT, ↓ev_slL, ↓ev_isN, ↓ev_isNotN, ↓ev_zipTT, ↓ev_enumT, ↓ev_enumL, ↓ev_eqS, ↓ev_endI, ↓ev_endB, ↓ev_endN, ↓ev_endS, ↓ev_endTI, ↓ev_endLI, ↓ev_endTF, ↓ev_endLF, ↓ev_raiM, ↓ev_fqM, ↓ev_lcG, ↓ev_mkR, startD, pick, setTg, setAll, wipeD, List.map_cons, List.map_nil, List.length_cons, List.length_nil, List.cons_append, List.nil_append, List.getElem?_cons_zero, List.getElem?_cons_succ, List.set_cons_zero, List.set_cons_succ, List.replicate_succ, List.replicate_zero, List.filterMap_cons, List.filterMap_nil, Nat.reduceAdd, Nat.reduceSub, Nat.reduceLeDiff, and_self, if_true, decide_eq_true_eq, true_and, and_true, List.set_nil, List.length_set, take_set, take_app, take_self]
    refine (ev_eqLT rl (by decide) (rp2 Bp Bq) (by decide)).mpr ?_
    simp only [↓ev_out, ↓ev_sqM, ↓ev_foM, ↓ev_setM, ↓ev_asgM, ↓ev_putM, ↓ev_ifM, ↓ev_tvM, ↓ev_tnM, ↓ev_taM, ↓ev_toM, ↓ev_op2, ↓ev_gV, ↓ev_kM, ↓ev_rtM, ↓ev_exM, ↓ev_neM, ↓ev_notM, ↓ev_andM, ↓ev_orM, ↓ev_nxM, ↓ev_app, ↓ev_nil, ↓ev_cons, ↓ev_callF, ↓ev_callM, ↓ev_slM, ↓ev_ptM, ↓ev_asI, ↓ev_seM, ↓ev_itL, ↓ev_itT, ↓ev_mkT, ↓ev_mkL, ↓ev_lcM, ↓ev_dispM, ↓ev_lft, ↓thenK_nx, ↓thenK_rt, ↓thenK_bk, ↓thenK_ct, ↓tgK_s, ↓outK_rt, ↓outK_nx, ↓vK_s, ↓turnK_nx, ↓turnK_rt, ↓turnK_bk, ↓turnK_ct, ↓ev_asB, ↓ev_add, ↓ev_sub, ↓ev_mul, ↓ev_fdiv, ↓ev_mod, ↓ev_pow, ↓ev_neg, ↓ev_eqI, ↓ev_neI, ↓ev_lt, ↓ev_le, ↓ev_gt, ↓ev_ge, ↓ev_gcd, ↓ev_absI, ↓ev_maxI, ↓ev_minI, ↓ev_intI, ↓ev_intB, ↓ev_tupT, ↓ev_tupL, ↓ev_lstT, ↓ev_lstL, ↓ev_lenT, ↓ev_lenL, ↓ev_catL, ↓ev_catT, ↓ev_ixT, ↓ev_ixL, ↓ev_slT, ↓ev_slL, ↓ev_isN, ↓ev_isNotN, ↓ev_zipTT, ↓ev_enumT, ↓ev_enumL, ↓ev_eqS, ↓ev_endI, ↓ev_endB, ↓ev_endN, ↓ev_endS, ↓ev_endTI, ↓ev_endLI, ↓ev_endTF, ↓ev_endLF, ↓ev_raiM, ↓ev_fqM, ↓ev_lcG, ↓ev_mkR, startD, pick, setTg, setAll, wipeD, List.map_cons, List.map_nil, List.length_cons, List.length_nil, List.cons_append, List.nil_append, List.getElem?_cons_zero, List.getElem?_cons_succ, List.set_cons_zero, List.set_cons_succ, List.replicate_succ, List.replicate_zero, List.filterMap_cons, List.filterMap_nil, Nat.reduceAdd, Nat.reduceSub, Nat.reduceLeDiff, and_self, if_true, decide_eq_true_eq, true_and, and_true, List.set_nil, List.length_set, take_set, take_app, take_self, Bool.false_eq_true, if_false]
    exact bad _ rl (f2_lst (by omega) μ2)
  · simp only [↓ev_out, ↓ev_sqM, ↓ev_foM, ↓ev_setM, ↓ev_asgM, ↓ev_putM, ↓ev_ifM, ↓ev_tvM, ↓ev_tnM, ↓ev_taM, ↓ev_toM, ↓ev_op2, ↓ev_gV, ↓ev_kM, ↓ev_rtM, ↓ev_exM, ↓ev_neM, ↓ev_notM, ↓ev_andM, ↓ev_orM, ↓ev_nxM, ↓ev_app, ↓ev_nil, ↓ev_cons, ↓ev_callF, ↓ev_callM, ↓ev_slM, ↓ev_ptM, ↓ev_asI, ↓ev_seM, ↓ev_itL, ↓ev_itT, ↓ev_mkT, ↓ev_mkL, ↓ev_lcM, ↓ev_dispM, ↓ev_lft, ↓thenK_nx, ↓thenK_rt, ↓thenK_bk, ↓thenK_ct, ↓tgK_s, ↓outK_rt, ↓outK_nx, ↓vK_s, ↓turnK_nx, ↓turnK_rt, ↓turnK_bk, ↓turnK_ct, ↓ev_asB, ↓ev_add, ↓ev_sub, ↓ev_mul, ↓ev_fdiv, ↓ev_mod, ↓ev_pow, ↓ev_neg, ↓ev_eqI, ↓ev_neI, ↓ev_lt, ↓ev_le, ↓ev_gt, ↓ev_ge, ↓ev_gcd, ↓ev_absI, ↓ev_maxI, ↓ev_minI, ↓ev_intI, ↓ev_intB, ↓ev_tupT, ↓ev_tupL, ↓ev_lstT, ↓ev_lstL, ↓ev_lenT, ↓ev_lenL, ↓ev_catL, ↓ev_catT, ↓ev_ixT, ↓ev_ixL, ↓ev_slT, ↓ev_slL, ↓ev_isN, ↓ev_isNotN, ↓ev_zipTT, ↓ev_enumT, ↓ev_enumL, ↓ev_eqS, ↓ev_endI, ↓ev_endB, ↓ev_endN, ↓ev_endS, ↓ev_endTI, ↓ev_endLI, ↓ev_endTF, ↓ev_endLF, ↓ev_raiM, ↓ev_fqM, ↓ev_lcG, ↓ev_mkR, startD, pick, setTg, setAll, wipeD, List.map_cons, List.map_nil, List.length_cons, List.length_nil, List.cons_append, List.nil_append, List.getElem?_cons_zero, List.getElem?_cons_succ, List.set_cons_zero, List.set_cons_succ, List.replicate_succ, List.replicate_zero, List.filterMap_cons, List.filterMap_nil, Nat.reduceAdd, Nat.reduceSub, Nat.reduceLeDiff, and_self, if_true, decide_eq_true_eq, true_and, and_true, List.set_nil, List.length_set, take_set, take_app, take_self]
    rw [show ∀ (a b c d e f g : D), atI [a, b, c, d, e, f, g] 4 = some e from fun _ _ _ _ _ _ _ => rfl]
    rw [show D.tup [D.int p, D.int q, D.int 1] = tp [p, q, 1] from rfl]
    simp only [↓ev_out, ↓ev_sqM, ↓ev_foM, ↓ev_setM, ↓ev_asgM, ↓ev_putM, ↓ev_ifM, ↓ev_tvM, ↓ev_tnM, ↓ev_taM, ↓ev_toM, ↓ev_op2, ↓ev_gV, ↓ev_kM, ↓ev_rtM, ↓ev_exM, ↓ev_neM, ↓ev_notM, ↓ev_andM, ↓ev_orM, ↓ev_nxM, ↓ev_app, ↓ev_nil, ↓ev_cons, ↓ev_callF, ↓ev_callM, ↓ev_slM, ↓ev_ptM, ↓ev_asI, ↓ev_seM, ↓ev_itL, ↓ev_itT, ↓ev_mkT, ↓ev_mkL, ↓ev_lcM, ↓ev_dispM, ↓ev_lft, ↓thenK_nx, ↓thenK_rt, ↓thenK_bk, ↓thenK_ct, ↓tgK_s, ↓outK_rt, ↓outK_nx, ↓vK_s, ↓turnK_nx, ↓turnK_rt, ↓turnK_bk, ↓turnK_ct, ↓ev_asB, ↓ev_add, ↓ev_sub, ↓ev_mul, ↓ev_fdiv, ↓ev_mod, ↓ev_pow, ↓ev_neg, ↓ev_eqI, ↓ev_neI, ↓ev_lt, ↓ev_le, ↓ev_gt, ↓ev_ge, ↓ev_gcd, ↓ev_absI, ↓ev_maxI, ↓ev_minI, ↓ev_intI, ↓ev_intB, ↓ev_tupT, ↓ev_tupL, ↓ev_lstT, ↓ev_lstL, ↓ev_lenT, ↓ev_lenL, ↓ev_catL, ↓ev_catT, ↓ev_ixT, ↓ev_ixL, ↓ev_slT, ↓ev_slL, ↓ev_isN, ↓ev_isNotN, ↓ev_zipTT, ↓ev_enumT, ↓ev_enumL, ↓ev_eqS, ↓ev_endI, ↓ev_endB, ↓ev_endN, ↓ev_endS, ↓ev_endTI, ↓ev_endLI, ↓ev_endTF, ↓ev_endLF, ↓ev_raiM, ↓ev_fqM, ↓ev_lcG, ↓ev_mkR, startD, pick, setTg, setAll, wipeD, List.map_cons, List.map_nil, List.length_cons, List.length_nil, List.cons_append, List.nil_append, List.getElem?_cons_zero, List.getElem?_cons_succ, List.set_cons_zero, List.set_cons_succ, List.replicate_succ, List.replicate_zero, List.filterMap_cons, List.filterMap_nil, Nat.reduceAdd, Nat.reduceSub, Nat.reduceLeDiff, and_self, if_true, decide_eq_true_eq, true_and, and_true, List.set_nil, List.length_set, take_set, take_app, take_self, ev_eqTT, show decide ([p, q, 1] = [p, q]) = false from decide_eq_false (fun z => by injection z with _ t; injection t with _ t; cases t), Bool.false_eq_true, if_false]
    refine bad _ ?_ (f2_three (by omega) μ2)
    refine (rk_tp (ns := [p, q, 1]) fun x hx => ?_).mono (by decide) (by show 3 ≤ 10; decide)
    rcases List.mem_cons.mp hx with e | hx
    · rw [e]; exact Bp
    rcases List.mem_cons.mp hx with e | hx
    · rw [e]; exact Bq
    rw [List.mem_singleton.mp hx]
    exact lt_BB (k := 1) (by decide) (by decide)
  · simp only [↓ev_out, ↓ev_sqM, ↓ev_foM, ↓ev_setM, ↓ev_asgM, ↓ev_putM, ↓ev_ifM, ↓ev_tvM, ↓ev_tnM, ↓ev_taM, ↓ev_toM, ↓ev_op2, ↓ev_gV, ↓ev_kM, ↓ev_rtM, ↓ev_exM, ↓ev_neM, ↓ev_notM, ↓ev_andM, ↓ev_orM, ↓ev_nxM, ↓ev_app, ↓ev_nil, ↓ev_cons, ↓ev_callF, ↓ev_callM, ↓ev_slM, ↓ev_ptM, ↓ev_asI, ↓ev_seM, ↓ev_itL, ↓ev_itT, ↓ev_mkT, ↓ev_mkL, ↓ev_lcM, ↓ev_dispM, ↓ev_lft, ↓thenK_nx, ↓thenK_rt, ↓thenK_bk, ↓thenK_ct, ↓tgK_s, ↓outK_rt, ↓outK_nx, ↓vK_s, ↓turnK_nx, ↓turnK_rt, ↓turnK_bk, ↓turnK_ct, ↓ev_asB, ↓ev_add, ↓ev_sub, ↓ev_mul, ↓ev_fdiv, ↓ev_mod, ↓ev_pow, ↓ev_neg, ↓ev_eqI, ↓ev_neI, ↓ev_lt, ↓ev_le, ↓ev_gt, ↓ev_ge, ↓ev_gcd, ↓ev_absI, ↓ev_maxI, ↓ev_minI, ↓ev_intI, ↓ev_intB, ↓ev_tupT, ↓ev_tupL, ↓ev_lstT, ↓ev_lstL, ↓ev_lenT, ↓ev_lenL, ↓ev_catL, ↓ev_catT, ↓ev_ixT, ↓ev_ixL, ↓ev_slT, ↓ev_slL, ↓ev_isN, ↓ev_isNotN, ↓ev_zipTT, ↓ev_enumT, ↓ev_enumL, ↓ev_eqS, ↓ev_endI, ↓ev_endB, ↓ev_endN, ↓ev_endS, ↓ev_endTI, ↓ev_endLI, ↓ev_endTF, ↓ev_endLF, ↓ev_raiM, ↓ev_fqM, ↓ev_lcG, ↓ev_mkR, startD, pick, setTg, setAll, wipeD, List.map_cons, List.map_nil, List.length_cons, List.length_nil, List.cons_append, List.nil_append, List.getElem?_cons_zero, List.getElem?_cons_succ, List.set_cons_zero, List.set_cons_succ, List.replicate_succ, List.replicate_zero, List.filterMap_cons, List.filterMap_nil, Nat.reduceAdd, Nat.reduceSub, Nat.reduceLeDiff, and_self, if_true, decide_eq_true_eq, true_and, and_true, List.set_nil, List.length_set, take_set, take_app, take_self]
    rw [show ∀ (a b c d e f g : D), atI [a, b, c, d, e, f, g] 5 = some f from fun _ _ _ _ _ _ _ => rfl]
    simp only [↓ev_out, ↓ev_sqM, ↓ev_foM, ↓ev_setM, ↓ev_asgM, ↓ev_putM, ↓ev_ifM, ↓ev_tvM, ↓ev_tnM, ↓ev_taM, ↓ev_toM, ↓ev_op2, ↓ev_gV, ↓ev_kM, ↓ev_rtM, ↓ev_exM, ↓ev_neM, ↓ev_notM, ↓ev_andM, ↓ev_orM, ↓ev_nxM, ↓ev_app, ↓ev_nil, ↓ev_cons, ↓ev_callF, ↓ev_callM, ↓ev_slM, ↓ev_ptM, ↓ev_asI, ↓ev_seM, ↓ev_itL, ↓ev_itT, ↓ev_mkT, ↓ev_mkL, ↓ev_lcM, ↓ev_dispM, ↓ev_lft, ↓thenK_nx, ↓thenK_rt, ↓thenK_bk, ↓thenK_ct, ↓tgK_s, ↓outK_rt, ↓outK_nx, ↓vK_s, ↓turnK_nx, ↓turnK_rt, ↓turnK_bk, ↓turnK_ct, ↓ev_asB, ↓ev_add, ↓ev_sub, ↓ev_mul, ↓ev_fdiv, ↓ev_mod, ↓ev_pow, ↓ev_neg, ↓ev_eqI, ↓ev_neI, ↓ev_lt, ↓ev_le, ↓ev_gt, ↓ev_ge, ↓ev_gcd, ↓ev_absI, ↓ev_maxI, ↓ev_minI, ↓ev_intI, ↓ev_intB, ↓ev_tupT, ↓ev_tupL, ↓ev_lstT, ↓ev_lstL, ↓ev_lenT, ↓ev_lenL, ↓ev_catL, ↓ev_catT, ↓ev_ixT, ↓ev_ixL, ↓ev_slT, ↓ev_slL, ↓ev_isN, ↓ev_isNotN, ↓ev_zipTT, ↓ev_enumT, ↓ev_enumL, ↓ev_eqS, ↓ev_endI, ↓ev_endB, ↓ev_endN, ↓ev_endS, ↓ev_endTI, ↓ev_endLI, ↓ev_endTF, ↓ev_endLF, ↓ev_raiM, ↓ev_fqM, ↓ev_lcG, ↓ev_mkR, startD, pick, setTg, setAll, wipeD, List.map_cons, List.map_nil, List.length_cons, List.length_nil, List.cons_append, List.nil_append, List.getElem?_cons_zero, List.getElem?_cons_succ, List.set_cons_zero, List.set_cons_succ, List.replicate_succ, List.replicate_zero, List.filterMap_cons, List.filterMap_nil, Nat.reduceAdd, Nat.reduceSub, Nat.reduceLeDiff, and_self, if_true, decide_eq_true_eq, true_and, and_true, List.set_nil, List.length_set, take_set, take_app, take_self, ev_eqNT, Bool.false_eq_true, if_false]
    refine bad _ ?_ (f2_non (by omega) μ2)
    refine (rk_tup (k := 0) (m := 0) (xs := [.int p, .non]) fun x hx => ?_).mono (by decide) (by show 2 * (0 + 1) ≤ 10; decide)
    rcases List.mem_cons.mp hx with e | hx
    · rw [e]; exact rk_i Bp
    · rw [List.mem_singleton.mp hx]; exact rk_non
  · simp only [↓ev_out, ↓ev_sqM, ↓ev_foM, ↓ev_setM, ↓ev_asgM, ↓ev_putM, ↓ev_ifM, ↓ev_tvM, ↓ev_tnM, ↓ev_taM, ↓ev_toM, ↓ev_op2, ↓ev_gV, ↓ev_kM, ↓ev_rtM, ↓ev_exM, ↓ev_neM, ↓ev_notM, ↓ev_andM, ↓ev_orM, ↓ev_nxM, ↓ev_app, ↓ev_nil, ↓ev_cons, ↓ev_callF, ↓ev_callM, ↓ev_slM, ↓ev_ptM, ↓ev_asI, ↓ev_seM, ↓ev_itL, ↓ev_itT, ↓ev_mkT, ↓ev_mkL, ↓ev_lcM, ↓ev_dispM, ↓ev_lft, ↓thenK_nx, ↓thenK_rt, ↓thenK_bk, ↓thenK_ct, ↓tgK_s, ↓outK_rt, ↓outK_nx, ↓vK_s, ↓turnK_nx, ↓turnK_rt, ↓turnK_bk, ↓turnK_ct, ↓ev_asB, ↓ev_add, ↓ev_sub, ↓ev_mul, ↓ev_fdiv, ↓ev_mod, ↓ev_pow, ↓ev_neg, ↓ev_eqI, ↓ev_neI, ↓ev_lt, ↓ev_le, ↓ev_gt, ↓ev_ge, ↓ev_gcd, ↓ev_absI, ↓ev_maxI, ↓ev_minI, ↓ev_intI, ↓ev_intB, ↓ev_tupT, ↓ev_tupL, ↓ev_lstT, ↓ev_lstL, ↓ev_lenT, ↓ev_lenL, ↓ev_catL, ↓ev_catT, ↓ev_ixT, ↓ev_ixL, ↓ev_slT, ↓ev_slL, ↓ev_isN, ↓ev_isNotN, ↓ev_zipTT, ↓ev_enumT, ↓ev_enumL, ↓ev_eqS, ↓ev_endI, ↓ev_endB, ↓ev_endN, ↓ev_endS, ↓ev_endTI, ↓ev_endLI, ↓ev_endTF, ↓ev_endLF, ↓ev_raiM, ↓ev_fqM, ↓ev_lcG, ↓ev_mkR, startD, pick, setTg, setAll, wipeD, List.map_cons, List.map_nil, List.length_cons, List.length_nil, List.cons_append, List.nil_append, List.getElem?_cons_zero, List.getElem?_cons_succ, List.set_cons_zero, List.set_cons_succ, List.replicate_succ, List.replicate_zero, List.filterMap_cons, List.filterMap_nil, Nat.reduceAdd, Nat.reduceSub, Nat.reduceLeDiff, and_self, if_true, decide_eq_true_eq, true_and, and_true, List.set_nil, List.length_set, take_set, take_app, take_self]
    rw [show ∀ (a b c d e f g : D), atI [a, b, c, d, e, f, g] 6 = some g from fun _ _ _ _ _ _ _ => rfl]
    rw [show D.tup [D.int p, D.int 0] = tp [p, 0] from rfl]
    simp only [↓ev_out, ↓ev_sqM, ↓ev_foM, ↓ev_setM, ↓ev_asgM, ↓ev_putM, ↓ev_ifM, ↓ev_tvM, ↓ev_tnM, ↓ev_taM, ↓ev_toM, ↓ev_op2, ↓ev_gV, ↓ev_kM, ↓ev_rtM, ↓ev_exM, ↓ev_neM, ↓ev_notM, ↓ev_andM, ↓ev_orM, ↓ev_nxM, ↓ev_app, ↓ev_nil, ↓ev_cons, ↓ev_callF, ↓ev_callM, ↓ev_slM, ↓ev_ptM, ↓ev_asI, ↓ev_seM, ↓ev_itL, ↓ev_itT, ↓ev_mkT, ↓ev_mkL, ↓ev_lcM, ↓ev_dispM, ↓ev_lft, ↓thenK_nx, ↓thenK_rt, ↓thenK_bk, ↓thenK_ct, ↓tgK_s, ↓outK_rt, ↓outK_nx, ↓vK_s, ↓turnK_nx, ↓turnK_rt, ↓turnK_bk, ↓turnK_ct, ↓ev_asB, ↓ev_add, ↓ev_sub, ↓ev_mul, ↓ev_fdiv, ↓ev_mod, ↓ev_pow, ↓ev_neg, ↓ev_eqI, ↓ev_neI, ↓ev_lt, ↓ev_le, ↓ev_gt, ↓ev_ge, ↓ev_gcd, ↓ev_absI, ↓ev_maxI, ↓ev_minI, ↓ev_intI, ↓ev_intB, ↓ev_tupT, ↓ev_tupL, ↓ev_lstT, ↓ev_lstL, ↓ev_lenT, ↓ev_lenL, ↓ev_catL, ↓ev_catT, ↓ev_ixT, ↓ev_ixL, ↓ev_slT, ↓ev_slL, ↓ev_isN, ↓ev_isNotN, ↓ev_zipTT, ↓ev_enumT, ↓ev_enumL, ↓ev_eqS, ↓ev_endI, ↓ev_endB, ↓ev_endN, ↓ev_endS, ↓ev_endTI, ↓ev_endLI, ↓ev_endTF, ↓ev_endLF, ↓ev_raiM, ↓ev_fqM, ↓ev_lcG, ↓ev_mkR, startD, pick, setTg, setAll, wipeD, List.map_cons, List.map_nil, List.length_cons, List.length_nil, List.cons_append, List.nil_append, List.getElem?_cons_zero, List.getElem?_cons_succ, List.set_cons_zero, List.set_cons_succ, List.replicate_succ, List.replicate_zero, List.filterMap_cons, List.filterMap_nil, Nat.reduceAdd, Nat.reduceSub, Nat.reduceLeDiff, and_self, if_true, decide_eq_true_eq, true_and, and_true, List.set_nil, List.length_set, take_set, take_app, take_self, ev_eqTT, ne1 (x := p) (y := 0) (by omega), Bool.false_eq_true, if_false]
    exact bad _ (rp2 Bp (lt_BB (k := 1) (by decide) (by decide))) (f2_bad (by omega) (.inl (by omega)) μ2)
theorem f20 {n : Nat} (hn : 5 ≤ n) {j c : Nat} {μ : Mu} (h : MAt j c μ) (hc : c + 110 ≤ CAP) : Ew NoX (F n 20 [.ref j] μ) fun d μ' => d = .bl true ∧ Sj j μ μ' ∧ MAt j (c + 110) μ' := by
  obtain ⟨k, rfl⟩ : ∃ k, n = k + 1 := ⟨n - 1, by omega⟩
  rw [F, s20_eq, s20_tl]
  simp only [↓ev_out, ↓ev_sqM, ↓ev_foM, ↓ev_setM, ↓ev_asgM, ↓ev_putM, ↓ev_ifM, ↓ev_tvM, ↓ev_tnM, ↓ev_taM, ↓ev_toM, ↓ev_op2, ↓ev_gV, ↓ev_kM, ↓ev_rtM, ↓ev_exM, ↓ev_neM, ↓ev_notM, ↓ev_andM, ↓ev_orM, ↓ev_nxM, ↓ev_app, ↓ev_nil, ↓ev_cons, ↓ev_callF, ↓ev_callM, ↓ev_slM, ↓ev_ptM, ↓ev_asI, ↓ev_seM, ↓ev_itL, ↓ev_itT, ↓ev_mkT, ↓ev_mkL, ↓ev_lcM, ↓ev_dispM, ↓ev_lft, ↓thenK_nx, ↓thenK_rt, ↓thenK_bk, ↓thenK_ct, ↓tgK_s, ↓outK_rt, ↓outK_nx, ↓vK_s, ↓turnK_nx, ↓turnK_rt, ↓turnK_bk, ↓turnK_ct, ↓ev_asB, ↓ev_add, ↓ev_sub, ↓ev_mul, ↓ev_fdiv, ↓ev_mod, ↓ev_pow, ↓ev_neg, ↓ev_eqI, ↓ev_neI, ↓ev_lt, ↓ev_le, ↓ev_gt, ↓ev_ge, ↓ev_gcd, ↓ev_absI, ↓ev_maxI, ↓ev_minI, ↓ev_intI, ↓ev_intB, ↓ev_tupT, ↓ev_tupL, ↓ev_lstT, ↓ev_lstL, ↓ev_lenT, ↓ev_lenL, ↓ev_catL, ↓ev_catT, ↓ev_ixT, ↓ev_ixL, ↓ev_slT, ↓ev_slL, ↓ev_isN, ↓ev_isNotN, ↓ev_zipTT, ↓ev_enumT, ↓ev_enumL, ↓ev_eqS, ↓ev_endI, ↓ev_endB, ↓ev_endN, ↓ev_endS, ↓ev_endTI, ↓ev_endLI, ↓ev_endTF, ↓ev_endLF, ↓ev_raiM, ↓ev_fqM, ↓ev_lcG, ↓ev_mkR, startD, pick, setTg, setAll, wipeD, List.map_cons, List.map_nil, List.length_cons, List.length_nil, List.cons_append, List.nil_append, List.getElem?_cons_zero, List.getElem?_cons_succ, List.set_cons_zero, List.set_cons_succ, List.replicate_succ, List.replicate_zero, List.filterMap_cons, List.filterMap_nil, Nat.reduceAdd, Nat.reduceSub, Nat.reduceLeDiff, and_self, if_true, decide_eq_true_eq, true_and, and_true, List.set_nil, List.length_set, take_set, take_app, take_self]
  refine ev_imp (f17 (by omega) h (by omega)) ?_
  rintro _ μ1 ⟨⟨a, rfl, ha⟩, s1, m1⟩
  refine ev_imp (f17 (by omega) m1 (by omega)) ?_
  rintro _ μ2 ⟨⟨b, rfl, hb⟩, s2, m2⟩
  have s12 := s1.trans s2
  have last : ∀ {o1 : Option D}, Ew NoX (tl20 (lev T k) [some (.ref j), o1, none, none, some (.int a), some (.int b)] μ2) (outK NoX μ.length fun d μ' => d = .bl true ∧ Sj j μ μ' ∧ MAt j (c + 110) μ') := fun {o1} => by
    refine tl20_ok (by omega) m2 (by omega) fun μ' s m => ?_
    simp only [↓ev_out, ↓ev_sqM, ↓ev_foM, ↓ev_setM, ↓ev_asgM, ↓ev_putM, ↓ev_ifM, ↓ev_tvM, ↓ev_tnM, ↓ev_taM, ↓ev_toM, ↓ev_op2, ↓ev_gV, ↓ev_kM, ↓ev_rtM, ↓ev_exM, ↓ev_neM, ↓ev_notM, ↓ev_andM, ↓ev_orM, ↓ev_nxM, ↓ev_app, ↓ev_nil, ↓ev_cons, ↓ev_callF, ↓ev_callM, ↓ev_slM, ↓ev_ptM, ↓ev_asI, ↓ev_seM, ↓ev_itL, ↓ev_itT, ↓ev_mkT, ↓ev_mkL, ↓ev_lcM, ↓ev_dispM, ↓ev_lft, ↓thenK_nx, ↓thenK_rt, ↓thenK_bk, ↓thenK_ct, ↓tgK_s, ↓outK_rt, ↓outK_nx, ↓vK_s, ↓turnK_nx, ↓turnK_rt, ↓turnK_bk, ↓turnK_ct, ↓ev_asB, ↓ev_add, ↓ev_sub, ↓ev_mul, ↓ev_fdiv, ↓ev_mod, ↓ev_pow, ↓ev_neg, ↓ev_eqI, ↓ev_neI, ↓ev_lt, ↓ev_le, ↓ev_gt, ↓ev_ge, ↓ev_gcd, ↓ev_absI, ↓ev_maxI, ↓ev_minI, ↓ev_intI, ↓ev_intB, ↓ev_tupT, ↓ev_tupL, ↓ev_lstT, ↓ev_lstL, ↓ev_lenT, ↓ev_lenL, ↓ev_catL, ↓ev_catT, ↓ev_ixT, ↓ev_ixL, ↓ev_slT, ↓ev_slL, ↓ev_isN, ↓ev_isNotN, ↓ev_zipTT, ↓ev_enumT, ↓ev_enumL, ↓ev_eqS, ↓ev_endI, ↓ev_endB, ↓ev_endN, ↓ev_endS, ↓ev_endTI, ↓ev_endLI, ↓ev_endTF, ↓ev_endLF, ↓ev_raiM, ↓ev_fqM, ↓ev_lcG, ↓ev_mkR, startD, pick, setTg, setAll, wipeD, List.map_cons, List.map_nil, List.length_cons, List.length_nil, List.cons_append, List.nil_append, List.getElem?_cons_zero, List.getElem?_cons_succ, List.set_cons_zero, List.set_cons_succ, List.replicate_succ, List.replicate_zero, List.filterMap_cons, List.filterMap_nil, Nat.reduceAdd, Nat.reduceSub, Nat.reduceLeDiff, and_self, if_true, decide_eq_true_eq, true_and, and_true, List.set_nil, List.length_set, take_set, take_app, take_self]
    rw [sj_take (s12.trans s)]
    exact ⟨s12.trans s, m.le (by omega)⟩
  simp only [↓ev_out, ↓ev_sqM, ↓ev_foM, ↓ev_setM, ↓ev_asgM, ↓ev_putM, ↓ev_ifM, ↓ev_tvM, ↓ev_tnM, ↓ev_taM, ↓ev_toM, ↓ev_op2, ↓ev_gV, ↓ev_kM, ↓ev_rtM, ↓ev_exM, ↓ev_neM, ↓ev_notM, ↓ev_andM, ↓ev_orM, ↓ev_nxM, ↓ev_app, ↓ev_nil, ↓ev_cons, ↓ev_callF, ↓ev_callM, ↓ev_slM, ↓ev_ptM, ↓ev_asI, ↓ev_seM, ↓ev_itL, ↓ev_itT, ↓ev_mkT, ↓ev_mkL, ↓ev_lcM, ↓ev_dispM, ↓ev_lft, ↓thenK_nx, ↓thenK_rt, ↓thenK_bk, ↓thenK_ct, ↓tgK_s, ↓outK_rt, ↓outK_nx, ↓vK_s, ↓turnK_nx, ↓turnK_rt, ↓turnK_bk, ↓turnK_ct, ↓ev_asB, ↓ev_add, ↓ev_sub, ↓ev_mul, ↓ev_fdiv, ↓ev_mod, ↓ev_pow, ↓ev_neg, ↓ev_eqI, ↓ev_neI, ↓ev_lt, ↓ev_le, ↓ev_gt, ↓ev_ge, ↓ev_gcd, ↓ev_absI, ↓ev_maxI, ↓ev_minI, ↓ev_intI, ↓ev_intB, ↓ev_tupT, ↓ev_tupL, ↓ev_lstT, ↓ev_lstL, ↓ev_lenT, ↓ev_lenL, ↓ev_catL, ↓ev_catT, ↓ev_ixT, ↓ev_ixL, ↓ev_slT, ↓ev_slL, ↓ev_isN, ↓ev_isNotN, ↓ev_zipTT, ↓ev_enumT, ↓ev_enumL, ↓ev_eqS, ↓ev_endI, ↓ev_endB, ↓ev_endN, ↓ev_endS, ↓ev_endTI, ↓ev_endLI, ↓ev_endTF, ↓ev_endLF, ↓ev_raiM, ↓ev_fqM, ↓ev_lcG, ↓ev_mkR, startD, pick, setTg, setAll, wipeD, List.map_cons, List.map_nil, List.length_cons, List.length_nil, List.cons_append, List.nil_append, List.getElem?_cons_zero, List.getElem?_cons_succ, List.set_cons_zero, List.set_cons_succ, List.replicate_succ, List.replicate_zero, List.filterMap_cons, List.filterMap_nil, Nat.reduceAdd, Nat.reduceSub, Nat.reduceLeDiff, and_self, if_true, decide_eq_true_eq, true_and, and_true, List.set_nil, List.length_set, take_set, take_app, take_self, if_pos (show 2 ≤ 1000000 by decide)]
  by_cases h0 : b = 0
  · subst h0
    simp only [↓ev_out, ↓ev_sqM, ↓ev_foM, ↓ev_setM, ↓ev_asgM, ↓ev_putM, ↓ev_ifM, ↓ev_tvM, ↓ev_tnM, ↓ev_taM, ↓ev_toM, ↓ev_op2, ↓ev_gV, ↓ev_kM, ↓ev_rtM, ↓ev_exM, ↓ev_neM, ↓ev_notM, ↓ev_andM, ↓ev_orM, ↓ev_nxM, ↓ev_app, ↓ev_nil, ↓ev_cons, ↓ev_callF, ↓ev_callM, ↓ev_slM, ↓ev_ptM, ↓ev_asI, ↓ev_seM, ↓ev_itL, ↓ev_itT, ↓ev_mkT, ↓ev_mkL, ↓ev_lcM, ↓ev_dispM, ↓ev_lft, ↓thenK_nx, ↓thenK_rt, ↓thenK_bk, ↓thenK_ct, ↓tgK_s, ↓outK_rt, ↓outK_nx, ↓vK_s, ↓turnK_nx, ↓turnK_rt, ↓turnK_bk, ↓turnK_ct, ↓ev_asB, ↓ev_add, ↓ev_sub, ↓ev_mul, ↓ev_fdiv, ↓ev_mod, ↓ev_pow, ↓ev_neg, ↓ev_eqI, ↓ev_neI, ↓ev_lt, ↓ev_le, ↓ev_gt, ↓ev_ge, ↓ev_gcd, ↓ev_absI, ↓ev_maxI, ↓ev_minI, ↓ev_intI, ↓ev_intB, ↓ev_tupT, ↓ev_tupL, ↓ev_lstT, ↓ev_lstL, ↓ev_lenT, ↓ev_lenL, ↓ev_catL, ↓ev_catT, ↓ev_ixT, ↓ev_ixL, ↓ev_slT, ↓ev_slL, ↓ev_isN, ↓ev_isNotN, ↓ev_zipTT, ↓ev_enumT, ↓ev_enumL, ↓ev_eqS, ↓ev_endI, ↓ev_endB, ↓ev_endN, ↓ev_endS, ↓ev_endTI, ↓ev_endLI, ↓ev_endTF, ↓ev_endLF, ↓ev_raiM, ↓ev_fqM, ↓ev_lcG, ↓ev_mkR, startD, pick, setTg, setAll, wipeD, List.map_cons, List.map_nil, List.length_cons, List.length_nil, List.cons_append, List.nil_append, List.getElem?_cons_zero, List.getElem?_cons_succ, List.set_cons_zero, List.set_cons_succ, List.replicate_succ, List.replicate_zero, List.filterMap_cons, List.filterMap_nil, Nat.reduceAdd, Nat.reduceSub, Nat.reduceLeDiff, and_self, if_true, decide_eq_true_eq, true_and, and_true, List.set_nil, List.length_set, take_set, take_app, take_self, decide_true, Bool.not_true, Bool.false_eq_true, if_false]
    refine (ev_of (ha_nn (d := .int 0) ?_)).mpr ?_
    · rw [← f3x (n := k) (by omega) a μ2]
      rfl
    refine (ev_of (f12 (by omega) μ2 (rk_nn ((rk_i (i := 0) (lt_BB (k := 1) (by decide) (by decide))).mono (by decide) (by decide))) (by decide) (by decide))).mpr ?_
    simp only [↓ev_out, ↓ev_sqM, ↓ev_foM, ↓ev_setM, ↓ev_asgM, ↓ev_putM, ↓ev_ifM, ↓ev_tvM, ↓ev_tnM, ↓ev_taM, ↓ev_toM, ↓ev_op2, ↓ev_gV, ↓ev_kM, ↓ev_rtM, ↓ev_exM, ↓ev_neM, ↓ev_notM, ↓ev_andM, ↓ev_orM, ↓ev_nxM, ↓ev_app, ↓ev_nil, ↓ev_cons, ↓ev_callF, ↓ev_callM, ↓ev_slM, ↓ev_ptM, ↓ev_asI, ↓ev_seM, ↓ev_itL, ↓ev_itT, ↓ev_mkT, ↓ev_mkL, ↓ev_lcM, ↓ev_dispM, ↓ev_lft, ↓thenK_nx, ↓thenK_rt, ↓thenK_bk, ↓thenK_ct, ↓tgK_s, ↓outK_rt, ↓outK_nx, ↓vK_s, ↓turnK_nx, ↓turnK_rt, ↓turnK_bk, ↓turnK_ct, ↓ev_asB, ↓ev_add, ↓ev_sub, ↓ev_mul, ↓ev_fdiv, ↓ev_mod, ↓ev_pow, ↓ev_neg, ↓ev_eqI, ↓ev_neI, ↓ev_lt, ↓ev_le, ↓ev_gt, ↓ev_ge, ↓ev_gcd, ↓ev_absI, ↓ev_maxI, ↓ev_minI, ↓ev_intI, ↓ev_intB, ↓ev_tupT, ↓ev_tupL, ↓ev_lstT, ↓ev_lstL, ↓ev_lenT, ↓ev_lenL, ↓ev_catL, ↓ev_catT, ↓ev_ixT, ↓ev_ixL, ↓ev_slT, ↓ev_slL, ↓ev_isN, ↓ev_isNotN, ↓ev_zipTT, ↓ev_enumT, ↓ev_enumL, ↓ev_eqS, ↓ev_endI, ↓ev_endB, ↓ev_endN, ↓ev_endS, ↓ev_endTI, ↓ev_endLI, ↓ev_endTF, ↓ev_endLF, ↓ev_raiM, ↓ev_fqM, ↓ev_lcG, ↓ev_mkR, startD, pick, setTg, setAll, wipeD, List.map_cons, List.map_nil, List.length_cons, List.length_nil, List.cons_append, List.nil_append, List.getElem?_cons_zero, List.getElem?_cons_succ, List.set_cons_zero, List.set_cons_succ, List.replicate_succ, List.replicate_zero, List.filterMap_cons, List.filterMap_nil, Nat.reduceAdd, Nat.reduceSub, Nat.reduceLeDiff, and_self, if_true, decide_eq_true_eq, true_and, and_true, List.set_nil, List.length_set, take_set, take_app, take_self, Bool.not_true, Bool.false_eq_true, if_false]
    exact last
  · simp only [↓ev_out, ↓ev_sqM, ↓ev_foM, ↓ev_setM, ↓ev_asgM, ↓ev_putM, ↓ev_ifM, ↓ev_tvM, ↓ev_tnM, ↓ev_taM, ↓ev_toM, ↓ev_op2, ↓ev_gV, ↓ev_kM, ↓ev_rtM, ↓ev_exM, ↓ev_neM, ↓ev_notM, ↓ev_andM, ↓ev_orM, ↓ev_nxM, ↓ev_app, ↓ev_nil, ↓ev_cons, ↓ev_callF, ↓ev_callM, ↓ev_slM, ↓ev_ptM, ↓ev_asI, ↓ev_seM, ↓ev_itL, ↓ev_itT, ↓ev_mkT, ↓ev_mkL, ↓ev_lcM, ↓ev_dispM, ↓ev_lft, ↓thenK_nx, ↓thenK_rt, ↓thenK_bk, ↓thenK_ct, ↓tgK_s, ↓outK_rt, ↓outK_nx, ↓vK_s, ↓turnK_nx, ↓turnK_rt, ↓turnK_bk, ↓turnK_ct, ↓ev_asB, ↓ev_add, ↓ev_sub, ↓ev_mul, ↓ev_fdiv, ↓ev_mod, ↓ev_pow, ↓ev_neg, ↓ev_eqI, ↓ev_neI, ↓ev_lt, ↓ev_le, ↓ev_gt, ↓ev_ge, ↓ev_gcd, ↓ev_absI, ↓ev_maxI, ↓ev_minI, ↓ev_intI, ↓ev_intB, ↓ev_tupT, ↓ev_tupL, ↓ev_lstT, ↓ev_lstL, ↓ev_lenT, ↓ev_lenL, ↓ev_catL, ↓ev_catT, ↓ev_ixT, ↓ev_ixL, ↓ev_slT, ↓ev_slL, ↓ev_isN, ↓ev_isNotN, ↓ev_zipTT, ↓ev_enumT, ↓ev_enumL, ↓ev_eqS, ↓ev_endI, ↓ev_endB, ↓ev_endN, ↓ev_endS, ↓ev_endTI, ↓ev_endLI, ↓ev_endTF, ↓ev_endLF, ↓ev_raiM, ↓ev_fqM, ↓ev_lcG, ↓ev_mkR, startD, pick, setTg, setAll, wipeD, List.map_cons, List.map_nil, List.length_cons, List.length_nil, List.cons_append, List.nil_append, List.getElem?_cons_zero, List.getElem?_cons_succ, List.set_cons_zero, List.set_cons_succ, List.replicate_succ, List.replicate_zero, List.filterMap_cons, List.filterMap_nil, Nat.reduceAdd, Nat.reduceSub, Nat.reduceLeDiff, and_self, if_true, decide_eq_true_eq, true_and, and_true, List.set_nil, List.length_set, take_set, take_app, take_self, h0, decide_false, Bool.not_false]
    refine (ev_of (f16 (by omega) a b μ2 (bb2 (b140 ha) (b140 hb)))).mpr ?_
    refine (ev_of (ha_ok (d := tp (fracL a b)) ?_)).mpr ?_
    · rw [← f3 (n := k) (by omega) a b μ2 h0 (b140 hb)]
      rfl
    refine (ev_of (f12 (by omega) μ2 (rk_one (rk_fr (bb2 (b140 ha) (b140 hb)))) (by decide) (by decide))).mpr ?_
    simp only [↓ev_out, ↓ev_sqM, ↓ev_foM, ↓ev_setM, ↓ev_asgM, ↓ev_putM, ↓ev_ifM, ↓ev_tvM, ↓ev_tnM, ↓ev_taM, ↓ev_toM, ↓ev_op2, ↓ev_gV, ↓ev_kM, ↓ev_rtM, ↓ev_exM, ↓ev_neM, ↓ev_notM, ↓ev_andM, ↓ev_orM, ↓ev_nxM, ↓ev_app, ↓ev_nil, ↓ev_cons, ↓ev_callF, ↓ev_callM, ↓ev_slM, ↓ev_ptM, ↓ev_asI, ↓ev_seM, ↓ev_itL, ↓ev_itT, ↓ev_mkT, ↓ev_mkL, ↓ev_lcM, ↓ev_dispM, ↓ev_lft, ↓thenK_nx, ↓thenK_rt, ↓thenK_bk, ↓thenK_ct, ↓tgK_s, ↓outK_rt, ↓outK_nx, ↓vK_s, ↓turnK_nx, ↓turnK_rt, ↓turnK_bk, ↓turnK_ct, ↓ev_asB, ↓ev_add, ↓ev_sub, ↓ev_mul, ↓ev_fdiv, ↓ev_mod, ↓ev_pow, ↓ev_neg, ↓ev_eqI, ↓ev_neI, ↓ev_lt, ↓ev_le, ↓ev_gt, ↓ev_ge, ↓ev_gcd, ↓ev_absI, ↓ev_maxI, ↓ev_minI, ↓ev_intI, ↓ev_intB, ↓ev_tupT, ↓ev_tupL, ↓ev_lstT, ↓ev_lstL, ↓ev_lenT, ↓ev_lenL, ↓ev_catL, ↓ev_catT, ↓ev_ixT, ↓ev_ixL, ↓ev_slT, ↓ev_slL, ↓ev_isN, ↓ev_isNotN, ↓ev_zipTT, ↓ev_enumT, ↓ev_enumL, ↓ev_eqS, ↓ev_endI, ↓ev_endB, ↓ev_endN, ↓ev_endS, ↓ev_endTI, ↓ev_endLI, ↓ev_endTF, ↓ev_endLF, ↓ev_raiM, ↓ev_fqM, ↓ev_lcG, ↓ev_mkR, startD, pick, setTg, setAll, wipeD, List.map_cons, List.map_nil, List.length_cons, List.length_nil, List.cons_append, List.nil_append, List.getElem?_cons_zero, List.getElem?_cons_succ, List.set_cons_zero, List.set_cons_succ, List.replicate_succ, List.replicate_zero, List.filterMap_cons, List.filterMap_nil, Nat.reduceAdd, Nat.reduceSub, Nat.reduceLeDiff, and_self, if_true, decide_eq_true_eq, true_and, and_true, List.set_nil, List.length_set, take_set, take_app, take_self, Bool.not_true, Bool.false_eq_true, if_false]
    exact last
end K00
namespace K00
open PySem L2 PX
local instance : Tabc := ⟨[]⟩
theorem h21 : F 11 21 [] [] = .ok (.bl true) [] := by kernel_rfl
theorem h23 : F 11 23 [] [] = .ok (.bl true) [] := by kernel_rfl
theorem rng1_4 {K : List D → Mu → Prop} {μ : Mu} : Ew NoX (rng1 [.int 4] μ) K ↔ K (rngD 0 4) μ := rng1_ok (j := 4) (by decide)
theorem f24 {k : Nat} (hk : 8 ≤ k) (h21 : F k 21 [] [] = .ok (.bl true) []) (h23 : F k 23 [] [] = .ok (.bl true) []) (ns : List Int) (hl : ns.length ≤ 63) : Ew NoX (F (k + 1) 24 [.lst (ns.map .int)] []) fun d _ => d = .bl true := by
  rw [F, s24_eq]
  unfold s24
  simp only [↓ev_out, ↓ev_sqM, ↓ev_foM, ↓ev_setM, ↓ev_asgM, ↓ev_putM, ↓ev_ifM, ↓ev_tvM, ↓ev_tnM, ↓ev_taM, ↓ev_toM, ↓ev_op2, ↓ev_gV, ↓ev_kM, ↓ev_rtM, ↓ev_exM, ↓ev_neM, ↓ev_notM, ↓ev_andM, ↓ev_orM, ↓ev_nxM, ↓ev_app, ↓ev_nil, ↓ev_cons, ↓ev_callF, ↓ev_callM, ↓ev_slM, ↓ev_ptM, ↓ev_asI, ↓ev_seM, ↓ev_itL, ↓ev_itT, ↓ev_mkT, ↓ev_mkL, ↓ev_lcM, ↓ev_dispM, ↓ev_lft, ↓thenK_nx, ↓thenK_rt, ↓thenK_bk, ↓thenK_ct, ↓tgK_s, ↓outK_rt, ↓outK_nx, ↓vK_s, ↓turnK_nx, ↓turnK_rt, ↓turnK_bk, ↓turnK_ct, ↓ev_asB, ↓ev_add, ↓ev_sub, ↓ev_mul, ↓ev_fdiv, ↓ev_mod, ↓ev_pow, ↓ev_neg, ↓ev_eqI, ↓ev_neI, ↓ev_lt, ↓ev_le, ↓ev_gt, ↓ev_ge, ↓ev_gcd, ↓ev_absI, ↓ev_maxI, ↓ev_minI, ↓ev_intI, ↓ev_intB, ↓ev_tupT, ↓ev_tupL, ↓ev_lstT, ↓ev_lstL, ↓ev_lenT, ↓ev_lenL, ↓ev_catL, ↓ev_catT, ↓ev_ixT, ↓ev_ixL, ↓ev_slT, ↓ev_slL, ↓ev_isN, ↓ev_isNotN, ↓ev_zipTT, ↓ev_enumT, ↓ev_enumL, ↓ev_eqS, ↓ev_endI, ↓ev_endB, ↓ev_endN, ↓ev_endS, ↓ev_endTI, ↓ev_endLI, ↓ev_endTF, ↓ev_endLF, ↓ev_raiM, ↓ev_haM, ↓ev_fqM, ↓ev_lcG, ↓ev_mkR, startD, pick, setTg, setAll, wipeD, List.map_cons, List.map_nil, List.length_cons, List.length_nil, List.cons_append, List.nil_append, List.getElem?_cons_zero, List.getElem?_cons_succ, List.set_cons_zero, List.set_cons_succ, List.replicate_succ, List.replicate_zero, List.filterMap_cons, List.filterMap_nil, Nat.reduceAdd, Nat.reduceSub, Nat.reduceLeDiff, and_self, if_true, decide_eq_true_eq, true_and, and_true, List.set_nil, List.length_set, take_set, take_app, take_self]
  refine (ev_of h21).mpr ?_
  simp only [↓ev_out, ↓ev_sqM, ↓ev_foM, ↓ev_setM, ↓ev_asgM, ↓ev_putM, ↓ev_ifM, ↓ev_tvM, ↓ev_tnM, ↓ev_taM, ↓ev_toM, ↓ev_op2, ↓ev_gV, ↓ev_kM, ↓ev_rtM, ↓ev_exM, ↓ev_neM, ↓ev_notM, ↓ev_andM, ↓ev_orM, ↓ev_nxM, ↓ev_app, ↓ev_nil, ↓ev_cons, ↓ev_callF, ↓ev_callM, ↓ev_slM, ↓ev_ptM, ↓ev_asI, ↓ev_seM, ↓ev_itL, ↓ev_itT, ↓ev_mkT, ↓ev_mkL, ↓ev_lcM, ↓ev_dispM, ↓ev_lft, ↓thenK_nx, ↓thenK_rt, ↓thenK_bk, ↓thenK_ct, ↓tgK_s, ↓outK_rt, ↓outK_nx, ↓vK_s, ↓turnK_nx, ↓turnK_rt, ↓turnK_bk, ↓turnK_ct, ↓ev_asB, ↓ev_add, ↓ev_sub, ↓ev_mul, ↓ev_fdiv, ↓ev_mod, ↓ev_pow, ↓ev_neg, ↓ev_eqI, ↓ev_neI, ↓ev_lt, ↓ev_le, ↓ev_gt, ↓ev_ge, ↓ev_gcd, ↓ev_absI, ↓ev_maxI, ↓ev_minI, ↓ev_intI, ↓ev_intB, ↓ev_tupT, ↓ev_tupL, ↓ev_lstT, ↓ev_lstL, ↓ev_lenT, ↓ev_lenL, ↓ev_catL, ↓ev_catT, ↓ev_ixT, ↓ev_ixL, ↓ev_slT, ↓ev_slL, ↓ev_isN, ↓ev_isNotN, ↓ev_zipTT, ↓ev_enumT, ↓ev_enumL, ↓ev_eqS, ↓ev_endI, ↓ev_endB, ↓ev_endN, ↓ev_endS, ↓ev_endTI, ↓ev_endLI, ↓ev_endTF, ↓ev_endLF, ↓ev_raiM, ↓ev_haM, ↓ev_fqM, ↓ev_lcG, ↓ev_mkR, startD, pick, setTg, setAll, wipeD, List.map_cons, List.map_nil, List.length_cons, List.length_nil, List.cons_append, List.nil_append, List.getElem?_cons_zero, List.getElem?_cons_succ, List.set_cons_zero, List.set_cons_succ, List.replicate_succ, List.replicate_zero, List.filterMap_cons, List.filterMap_nil, Nat.reduceAdd, Nat.reduceSub, Nat.reduceLeDiff, and_self, if_true, decide_eq_true_eq, true_and, and_true, List.set_nil, List.length_set, take_set, take_app, take_self, Bool.not_true, Bool.false_eq_true, if_false]
  refine (ev_of h23).mpr ?_
  simp only [↓ev_out, ↓ev_sqM, ↓ev_foM, ↓ev_setM, ↓ev_asgM, ↓ev_putM, ↓ev_ifM, ↓ev_tvM, ↓ev_tnM, ↓ev_taM, ↓ev_toM, ↓ev_op2, ↓ev_gV, ↓ev_kM, ↓ev_rtM, ↓ev_exM, ↓ev_neM, ↓ev_notM, ↓ev_andM, ↓ev_orM, ↓ev_nxM, ↓ev_app, ↓ev_nil, ↓ev_cons, ↓ev_callF, ↓ev_callM, ↓ev_slM, ↓ev_ptM, ↓ev_asI, ↓ev_seM, ↓ev_itL, ↓ev_itT, ↓ev_mkT, ↓ev_mkL, ↓ev_lcM, ↓ev_dispM, ↓ev_lft, ↓thenK_nx, ↓thenK_rt, ↓thenK_bk, ↓thenK_ct, ↓tgK_s, ↓outK_rt, ↓outK_nx, ↓vK_s, ↓turnK_nx, ↓turnK_rt, ↓turnK_bk, ↓turnK_ct, ↓ev_asB, ↓ev_add, ↓ev_sub, ↓ev_mul, ↓ev_fdiv, ↓ev_mod, ↓ev_pow, ↓ev_neg, ↓ev_eqI, ↓ev_neI, ↓ev_lt, ↓ev_le, ↓ev_gt, ↓ev_ge, ↓ev_gcd, ↓ev_absI, ↓ev_maxI, ↓ev_minI, ↓ev_intI, ↓ev_intB, ↓ev_tupT, ↓ev_tupL, ↓ev_lstT, ↓ev_lstL, ↓ev_lenT, ↓ev_lenL, ↓ev_catL, ↓ev_catT, ↓ev_ixT, ↓ev_ixL, ↓ev_slT, ↓ev_slL, ↓ev_isN, ↓ev_isNotN, ↓ev_zipTT, ↓ev_enumT, ↓ev_enumL, ↓ev_eqS, ↓ev_endI, ↓ev_endB, ↓ev_endN, ↓ev_endS, ↓ev_endTI, ↓ev_endLI, ↓ev_endTF, ↓ev_endLF, ↓ev_raiM, ↓ev_haM, ↓ev_fqM, ↓ev_lcG, ↓ev_mkR, startD, pick, setTg, setAll, wipeD, List.map_cons, List.map_nil, List.length_cons, List.length_nil, List.cons_append, List.nil_append, List.getElem?_cons_zero, List.getElem?_cons_succ, List.set_cons_zero, List.set_cons_succ, List.replicate_succ, List.replicate_zero, List.filterMap_cons, List.filterMap_nil, Nat.reduceAdd, Nat.reduceSub, Nat.reduceLeDiff, and_self, if_true, decide_eq_true_eq, true_and, and_true, List.set_nil, List.length_set, take_set, take_app, take_self, Bool.not_true, Bool.false_eq_true, if_false, List.length_map]
  have hN : ∃ N : Nat, N ≤ 4 ∧ (if (if (4 : Int) < (ns.length : Int) then 4 else (ns.length : Int)) > 2 then (if (4 : Int) < (ns.length : Int) then 4 else (ns.length : Int)) else 2) = (N : Int) := by
    by_cases h1 : (4 : Int) < (ns.length : Int)
    · rw [if_pos h1]; exact ⟨4, by decide, rfl⟩
    · rw [if_neg h1]
      by_cases h2 : (ns.length : Int) > 2
      · rw [if_pos h2]; exact ⟨ns.length, by omega, rfl⟩
      · rw [if_neg h2]; exact ⟨2, by decide, rfl⟩
  obtain ⟨N, hN4, eN⟩ := hN
  rw [eN, rng1_ok (show N ≤ 1000000 by omega)]
  refine ev_for (fun ds ρ μ' => (∀ d ∈ ds, ∃ i : Int, d = .int i ∧ 0 ≤ i ∧ i ≤ 1000) ∧ ∃ o1 o2 o3, ρ = [some (.lst (ns.map .int)), o1, o2, o3]) ?_ ?_ _ _ _ ⟨fun d hd => ?_, _, _, _, rfl⟩
  rotate_left
  · rintro ρ μ' ⟨_, o1, o2, o3, rfl⟩
    simp only [↓ev_out, ↓ev_sqM, ↓ev_foM, ↓ev_setM, ↓ev_asgM, ↓ev_putM, ↓ev_ifM, ↓ev_tvM, ↓ev_tnM, ↓ev_taM, ↓ev_toM, ↓ev_op2, ↓ev_gV, ↓ev_kM, ↓ev_rtM, ↓ev_exM, ↓ev_neM, ↓ev_notM, ↓ev_andM, ↓ev_orM, ↓ev_nxM, ↓ev_app, ↓ev_nil, ↓ev_cons, ↓ev_callF, ↓ev_callM, ↓ev_slM, ↓ev_ptM, ↓ev_asI, ↓ev_seM, ↓ev_itL, ↓ev_itT, ↓ev_mkT, ↓ev_mkL, ↓ev_lcM, ↓ev_dispM, ↓ev_lft, ↓thenK_nx, ↓thenK_rt, ↓thenK_bk, ↓thenK_ct, ↓tgK_s, ↓outK_rt, ↓outK_nx, ↓vK_s, ↓turnK_nx, ↓turnK_rt, ↓turnK_bk, ↓turnK_ct, ↓ev_asB, ↓ev_add, ↓ev_sub, ↓ev_mul, ↓ev_fdiv, ↓ev_mod, ↓ev_pow, ↓ev_neg, ↓ev_eqI, ↓ev_neI, ↓ev_lt, ↓ev_le, ↓ev_gt, ↓ev_ge, ↓ev_gcd, ↓ev_absI, ↓ev_maxI, ↓ev_minI, ↓ev_intI, ↓ev_intB, ↓ev_tupT, ↓ev_tupL, ↓ev_lstT, ↓ev_lstL, ↓ev_lenT, ↓ev_lenL, ↓ev_catL, ↓ev_catT, ↓ev_ixT, ↓ev_ixL, ↓ev_slT, ↓ev_slL, ↓ev_isN, ↓ev_isNotN, ↓ev_zipTT, ↓ev_enumT, ↓ev_enumL, ↓ev_eqS, ↓ev_endI, ↓ev_endB, ↓ev_endN, ↓ev_endS, ↓ev_endTI, ↓ev_endLI, ↓ev_endTF, ↓ev_endLF, ↓ev_raiM, ↓ev_haM, ↓ev_fqM, ↓ev_lcG, ↓ev_mkR, startD, pick, setTg, setAll, wipeD, List.map_cons, List.map_nil, List.length_cons, List.length_nil, List.cons_append, List.nil_append, List.getElem?_cons_zero, List.getElem?_cons_succ, List.set_cons_zero, List.set_cons_succ, List.replicate_succ, List.replicate_zero, List.filterMap_cons, List.filterMap_nil, Nat.reduceAdd, Nat.reduceSub, Nat.reduceLeDiff, and_self, if_true, decide_eq_true_eq, true_and, and_true, List.set_nil, List.length_set, take_set, take_app, take_self]
  · unfold rngD at hd
    obtain ⟨i, hi, rfl⟩ := List.mem_map.mp hd
    have := List.mem_range.mp hi
    exact ⟨_, rfl, by omega, by omega⟩
  rintro x rest ρ μ0 ⟨hds, o1, o2, o3, rfl⟩
  obtain ⟨i, rfl, hi0, hi1⟩ := hds x List.mem_cons_self
  refine ⟨_, rfl, ?_⟩
  simp only [↓ev_out, ↓ev_sqM, ↓ev_foM, ↓ev_setM, ↓ev_asgM, ↓ev_putM, ↓ev_ifM, ↓ev_tvM, ↓ev_tnM, ↓ev_taM, ↓ev_toM, ↓ev_op2, ↓ev_gV, ↓ev_kM, ↓ev_rtM, ↓ev_exM, ↓ev_neM, ↓ev_notM, ↓ev_andM, ↓ev_orM, ↓ev_nxM, ↓ev_app, ↓ev_nil, ↓ev_cons, ↓ev_callF, ↓ev_callM, ↓ev_slM, ↓ev_ptM, ↓ev_asI, ↓ev_seM, ↓ev_itL, ↓ev_itT, ↓ev_mkT, ↓ev_mkL, ↓ev_lcM, ↓ev_dispM, ↓ev_lft, ↓thenK_nx, ↓thenK_rt, ↓thenK_bk, ↓thenK_ct, ↓tgK_s, ↓outK_rt, ↓outK_nx, ↓vK_s, ↓turnK_nx, ↓turnK_rt, ↓turnK_bk, ↓turnK_ct, ↓ev_asB, ↓ev_add, ↓ev_sub, ↓ev_mul, ↓ev_fdiv, ↓ev_mod, ↓ev_pow, ↓ev_neg, ↓ev_eqI, ↓ev_neI, ↓ev_lt, ↓ev_le, ↓ev_gt, ↓ev_ge, ↓ev_gcd, ↓ev_absI, ↓ev_maxI, ↓ev_minI, ↓ev_intI, ↓ev_intB, ↓ev_tupT, ↓ev_tupL, ↓ev_lstT, ↓ev_lstL, ↓ev_lenT, ↓ev_lenL, ↓ev_catL, ↓ev_catT, ↓ev_ixT, ↓ev_ixL, ↓ev_slT, ↓ev_slL, ↓ev_isN, ↓ev_isNotN, ↓ev_zipTT, ↓ev_enumT, ↓ev_enumL, ↓ev_eqS, ↓ev_endI, ↓ev_endB, ↓ev_endN, ↓ev_endS, ↓ev_endTI, ↓ev_endLI, ↓ev_endTF, ↓ev_endLF, ↓ev_raiM, ↓ev_haM, ↓ev_fqM, ↓ev_lcG, ↓ev_mkR, startD, pick, setTg, setAll, wipeD, List.map_cons, List.map_nil, List.length_cons, List.length_nil, List.cons_append, List.nil_append, List.getElem?_cons_zero, List.getElem?_cons_succ, List.set_cons_zero, List.set_cons_succ, List.replicate_succ, List.replicate_zero, List.filterMap_cons, List.filterMap_nil, Nat.reduceAdd, Nat.reduceSub, Nat.reduceLeDiff, and_self, if_true, decide_eq_true_eq, true_and, and_true, List.set_nil, List.length_set, take_set, take_app, take_self]
  rw [← F, f10 (by omega)]
  refine ev_imp (begun_ok (by omega) hi0 hi1) ?_
  rintro _ μ1 ⟨rfl, _, m1⟩
  generalize List.length μ0 = j at m1
  try simp only [↓ev_out, ↓ev_sqM, ↓ev_foM, ↓ev_setM, ↓ev_asgM, ↓ev_putM, ↓ev_ifM, ↓ev_tvM, ↓ev_tnM, ↓ev_taM, ↓ev_toM, ↓ev_op2, ↓ev_gV, ↓ev_kM, ↓ev_rtM, ↓ev_exM, ↓ev_neM, ↓ev_notM, ↓ev_andM, ↓ev_orM, ↓ev_nxM, ↓ev_app, ↓ev_nil, ↓ev_cons, ↓ev_callF, ↓ev_callM, ↓ev_slM, ↓ev_ptM, ↓ev_asI, ↓ev_seM, ↓ev_itL, ↓ev_itT, ↓ev_mkT, ↓ev_mkL, ↓ev_lcM, ↓ev_dispM, ↓ev_lft, ↓thenK_nx, ↓thenK_rt, ↓thenK_bk, ↓thenK_ct, ↓tgK_s, ↓outK_rt, ↓outK_nx, ↓vK_s, ↓turnK_nx, ↓turnK_rt, ↓turnK_bk, ↓turnK_ct, ↓ev_asB, ↓ev_add, ↓ev_sub, ↓ev_mul, ↓ev_fdiv, ↓ev_mod, ↓ev_pow, ↓ev_neg, ↓ev_eqI, ↓ev_neI, ↓ev_lt, ↓ev_le, ↓ev_gt, ↓ev_ge, ↓ev_gcd, ↓ev_absI, ↓ev_maxI, ↓ev_minI, ↓ev_intI, ↓ev_intB, ↓ev_tupT, ↓ev_tupL, ↓ev_lstT, ↓ev_lstL, ↓ev_lenT, ↓ev_lenL, ↓ev_catL, ↓ev_catT, ↓ev_ixT, ↓ev_ixL, ↓ev_slT, ↓ev_slL, ↓ev_isN, ↓ev_isNotN, ↓ev_zipTT, ↓ev_enumT, ↓ev_enumL, ↓ev_eqS, ↓ev_endI, ↓ev_endB, ↓ev_endN, ↓ev_endS, ↓ev_endTI, ↓ev_endLI, ↓ev_endTF, ↓ev_endLF, ↓ev_raiM, ↓ev_haM, ↓ev_fqM, ↓ev_lcG, ↓ev_mkR, startD, pick, setTg, setAll, wipeD, List.map_cons, List.map_nil, List.length_cons, List.length_nil, List.cons_append, List.nil_append, List.getElem?_cons_zero, List.getElem?_cons_succ, List.set_cons_zero, List.set_cons_succ, List.replicate_succ, List.replicate_zero, List.filterMap_cons, List.filterMap_nil, Nat.reduceAdd, Nat.reduceSub, Nat.reduceLeDiff, and_self, if_true, decide_eq_true_eq, true_and, and_true, List.set_nil, List.length_set, take_set, take_app, take_self]
  rw [rng1_4]
  refine ev_for (fun ds ρ μ' => (∃ t, ds.length + t = 4 ∧ MAt j (400 * t) μ') ∧ ∃ o3, ρ = [some (.lst (ns.map .int)), some (.int i), some (.ref j), o3]) ?_ ?_ _ _ _ ⟨⟨0, by rw [rngD_length], m1⟩, _, rfl⟩
  rotate_left
  · rintro ρ μ' ⟨_, o3, rfl⟩
    simp only [↓ev_out, ↓ev_sqM, ↓ev_foM, ↓ev_setM, ↓ev_asgM, ↓ev_putM, ↓ev_ifM, ↓ev_tvM, ↓ev_tnM, ↓ev_taM, ↓ev_toM, ↓ev_op2, ↓ev_gV, ↓ev_kM, ↓ev_rtM, ↓ev_exM, ↓ev_neM, ↓ev_notM, ↓ev_andM, ↓ev_orM, ↓ev_nxM, ↓ev_app, ↓ev_nil, ↓ev_cons, ↓ev_callF, ↓ev_callM, ↓ev_slM, ↓ev_ptM, ↓ev_asI, ↓ev_seM, ↓ev_itL, ↓ev_itT, ↓ev_mkT, ↓ev_mkL, ↓ev_lcM, ↓ev_dispM, ↓ev_lft, ↓thenK_nx, ↓thenK_rt, ↓thenK_bk, ↓thenK_ct, ↓tgK_s, ↓outK_rt, ↓outK_nx, ↓vK_s, ↓turnK_nx, ↓turnK_rt, ↓turnK_bk, ↓turnK_ct, ↓ev_asB, ↓ev_add, ↓ev_sub, ↓ev_mul, ↓ev_fdiv, ↓ev_mod, ↓ev_pow, ↓ev_neg, ↓ev_eqI, ↓ev_neI, ↓ev_lt, ↓ev_le, ↓ev_gt, ↓ev_ge, ↓ev_gcd, ↓ev_absI, ↓ev_maxI, ↓ev_minI, ↓ev_intI, ↓ev_intB, ↓ev_tupT, ↓ev_tupL, ↓ev_lstT, ↓ev_lstL, ↓ev_lenT, ↓ev_lenL, ↓ev_catL, ↓ev_catT, ↓ev_ixT, ↓ev_ixL, ↓ev_slT, ↓ev_slL, ↓ev_isN, ↓ev_isNotN, ↓ev_zipTT, ↓ev_enumT, ↓ev_enumL, ↓ev_eqS, ↓ev_endI, ↓ev_endB, ↓ev_endN, ↓ev_endS, ↓ev_endTI, ↓ev_endLI, ↓ev_endTF, ↓ev_endLF, ↓ev_raiM, ↓ev_haM, ↓ev_fqM, ↓ev_lcG, ↓ev_mkR, startD, pick, setTg, setAll, wipeD, List.map_cons, List.map_nil, List.length_cons, List.length_nil, List.cons_append, List.nil_append, List.getElem?_cons_zero, List.getElem?_cons_succ, List.set_cons_zero, List.set_cons_succ, List.replicate_succ, List.replicate_zero, List.filterMap_cons, List.filterMap_nil, Nat.reduceAdd, Nat.reduceSub, Nat.reduceLeDiff, and_self, if_true, decide_eq_true_eq, true_and, and_true, List.set_nil, List.length_set, take_set, take_app, take_self]
    exact ⟨fun d hd => hds d (List.mem_cons_of_mem _ hd), _, _, _, rfl⟩
  rintro x rest' ρ μ2 ⟨⟨t, ht, m2⟩, o3, rfl⟩
  have ht' : rest'.length + (t + 1) = 4 := by rw [List.length_cons] at ht; omega
  have cap : 400 * t + 400 ≤ CAP := by
    unfold CAP
    have : 400 * t + 400 ≤ 2048 := by omega
    exact Nat.le_trans this (by decide)
  have next : ∀ {μ' : Mu} {c' : Nat}, MAt j c' μ' → c' ≤ 400 * t + 400 → ∃ t', rest'.length + t' = 4 ∧ MAt j (400 * t') μ' := fun m hc => ⟨t + 1, ht', m.le (by omega)⟩
  generalize hc0 : 400 * t = c0 at m2 cap next
  refine ⟨_, rfl, ?_⟩
  simp only [↓ev_out, ↓ev_sqM, ↓ev_foM, ↓ev_setM, ↓ev_asgM, ↓ev_putM, ↓ev_ifM, ↓ev_tvM, ↓ev_tnM, ↓ev_taM, ↓ev_toM, ↓ev_op2, ↓ev_gV, ↓ev_kM, ↓ev_rtM, ↓ev_exM, ↓ev_neM, ↓ev_notM, ↓ev_andM, ↓ev_orM, ↓ev_nxM, ↓ev_app, ↓ev_nil, ↓ev_cons, ↓ev_callF, ↓ev_callM, ↓ev_slM, ↓ev_ptM, ↓ev_asI, ↓ev_seM, ↓ev_itL, ↓ev_itT, ↓ev_mkT, ↓ev_mkL, ↓ev_lcM, ↓ev_dispM, ↓ev_lft, ↓thenK_nx, ↓thenK_rt, ↓thenK_bk, ↓thenK_ct, ↓tgK_s, ↓outK_rt, ↓outK_nx, ↓vK_s, ↓turnK_nx, ↓turnK_rt, ↓turnK_bk, ↓turnK_ct, ↓ev_asB, ↓ev_add, ↓ev_sub, ↓ev_mul, ↓ev_fdiv, ↓ev_mod, ↓ev_pow, ↓ev_neg, ↓ev_eqI, ↓ev_neI, ↓ev_lt, ↓ev_le, ↓ev_gt, ↓ev_ge, ↓ev_gcd, ↓ev_absI, ↓ev_maxI, ↓ev_minI, ↓ev_intI, ↓ev_intB, ↓ev_tupT, ↓ev_tupL, ↓ev_lstT, ↓ev_lstL, ↓ev_lenT, ↓ev_lenL, ↓ev_catL, ↓ev_catT, ↓ev_ixT, ↓ev_ixL, ↓ev_slT, ↓ev_slL, ↓ev_isN, ↓ev_isNotN, ↓ev_zipTT, ↓ev_enumT, ↓ev_enumL, ↓ev_eqS, ↓ev_endI, ↓ev_endB, ↓ev_endN, ↓ev_endS, ↓ev_endTI, ↓ev_endLI, ↓ev_endTF, ↓ev_endLF, ↓ev_raiM, ↓ev_haM, ↓ev_fqM, ↓ev_lcG, ↓ev_mkR, startD, pick, setTg, setAll, wipeD, List.map_cons, List.map_nil, List.length_cons, List.length_nil, List.cons_append, List.nil_append, List.getElem?_cons_zero, List.getElem?_cons_succ, List.set_cons_zero, List.set_cons_succ, List.replicate_succ, List.replicate_zero, List.filterMap_cons, List.filterMap_nil, Nat.reduceAdd, Nat.reduceSub, Nat.reduceLeDiff, and_self, if_true, decide_eq_true_eq, true_and, and_true, List.set_nil, List.length_set, take_set, take_app, take_self]
  refine ev_imp (f20 (by omega) m2 (by omega)) ?_
  rintro _ μ3 ⟨rfl, _, m3⟩
  simp only [↓ev_out, ↓ev_sqM, ↓ev_foM, ↓ev_setM, ↓ev_asgM, ↓ev_putM, ↓ev_ifM, ↓ev_tvM, ↓ev_tnM, ↓ev_taM, ↓ev_toM, ↓ev_op2, ↓ev_gV, ↓ev_kM, ↓ev_rtM, ↓ev_exM, ↓ev_neM, ↓ev_notM, ↓ev_andM, ↓ev_orM, ↓ev_nxM, ↓ev_app, ↓ev_nil, ↓ev_cons, ↓ev_callF, ↓ev_callM, ↓ev_slM, ↓ev_ptM, ↓ev_asI, ↓ev_seM, ↓ev_itL, ↓ev_itT, ↓ev_mkT, ↓ev_mkL, ↓ev_lcM, ↓ev_dispM, ↓ev_lft, ↓thenK_nx, ↓thenK_rt, ↓thenK_bk, ↓thenK_ct, ↓tgK_s, ↓outK_rt, ↓outK_nx, ↓vK_s, ↓turnK_nx, ↓turnK_rt, ↓turnK_bk, ↓turnK_ct, ↓ev_asB, ↓ev_add, ↓ev_sub, ↓ev_mul, ↓ev_fdiv, ↓ev_mod, ↓ev_pow, ↓ev_neg, ↓ev_eqI, ↓ev_neI, ↓ev_lt, ↓ev_le, ↓ev_gt, ↓ev_ge, ↓ev_gcd, ↓ev_absI, ↓ev_maxI, ↓ev_minI, ↓ev_intI, ↓ev_intB, ↓ev_tupT, ↓ev_tupL, ↓ev_lstT, ↓ev_lstL, ↓ev_lenT, ↓ev_lenL, ↓ev_catL, ↓ev_catT, ↓ev_ixT, ↓ev_ixL, ↓ev_slT, ↓ev_slL, ↓ev_isN, ↓ev_isNotN, ↓ev_zipTT, ↓ev_enumT, ↓ev_enumL, ↓ev_eqS, ↓ev_endI, ↓ev_endB, ↓ev_endN, ↓ev_endS, ↓ev_endTI, ↓ev_endLI, ↓ev_endTF, ↓ev_endLF, ↓ev_raiM, ↓ev_haM, ↓ev_fqM, ↓ev_lcG, ↓ev_mkR, startD, pick, setTg, setAll, wipeD, List.map_cons, List.map_nil, List.length_cons, List.length_nil, List.cons_append, List.nil_append, List.getElem?_cons_zero, List.getElem?_cons_succ, List.set_cons_zero, List.set_cons_succ, List.replicate_succ, List.replicate_zero, List.filterMap_cons, List.filterMap_nil, Nat.reduceAdd, Nat.reduceSub, Nat.reduceLeDiff, and_self, if_true, decide_eq_true_eq, true_and, and_true, List.set_nil, List.length_set, take_set, take_app, take_self, Bool.not_true, Bool.false_eq_true, if_false]
  refine ev_imp (f18 (by omega) m3 (by omega)) ?_
  rintro _ μ4 ⟨⟨p, q, rfl, fr1, bp, bq⟩, _, m4⟩
  refine ev_imp (f18 (by omega) m4 (by omega)) ?_
  rintro _ μ5 ⟨⟨r, s, rfl, fr2, br, bs⟩, _, m5⟩
  refine (ev_of (f19 (by omega) μ5 ⟨bp, bq, br, bs, fr1.pos, fr2.pos⟩)).mpr ?_
  simp only [↓ev_out, ↓ev_sqM, ↓ev_foM, ↓ev_setM, ↓ev_asgM, ↓ev_putM, ↓ev_ifM, ↓ev_tvM, ↓ev_tnM, ↓ev_taM, ↓ev_toM, ↓ev_op2, ↓ev_gV, ↓ev_kM, ↓ev_rtM, ↓ev_exM, ↓ev_neM, ↓ev_notM, ↓ev_andM, ↓ev_orM, ↓ev_nxM, ↓ev_app, ↓ev_nil, ↓ev_cons, ↓ev_callF, ↓ev_callM, ↓ev_slM, ↓ev_ptM, ↓ev_asI, ↓ev_seM, ↓ev_itL, ↓ev_itT, ↓ev_mkT, ↓ev_mkL, ↓ev_lcM, ↓ev_dispM, ↓ev_lft, ↓thenK_nx, ↓thenK_rt, ↓thenK_bk, ↓thenK_ct, ↓tgK_s, ↓outK_rt, ↓outK_nx, ↓vK_s, ↓turnK_nx, ↓turnK_rt, ↓turnK_bk, ↓turnK_ct, ↓ev_asB, ↓ev_add, ↓ev_sub, ↓ev_mul, ↓ev_fdiv, ↓ev_mod, ↓ev_pow, ↓ev_neg, ↓ev_eqI, ↓ev_neI, ↓ev_lt, ↓ev_le, ↓ev_gt, ↓ev_ge, ↓ev_gcd, ↓ev_absI, ↓ev_maxI, ↓ev_minI, ↓ev_intI, ↓ev_intB, ↓ev_tupT, ↓ev_tupL, ↓ev_lstT, ↓ev_lstL, ↓ev_lenT, ↓ev_lenL, ↓ev_catL, ↓ev_catT, ↓ev_ixT, ↓ev_ixL, ↓ev_slT, ↓ev_slL, ↓ev_isN, ↓ev_isNotN, ↓ev_zipTT, ↓ev_enumT, ↓ev_enumL, ↓ev_eqS, ↓ev_endI, ↓ev_endB, ↓ev_endN, ↓ev_endS, ↓ev_endTI, ↓ev_endLI, ↓ev_endTF, ↓ev_endLF, ↓ev_raiM, ↓ev_haM, ↓ev_fqM, ↓ev_lcG, ↓ev_mkR, startD, pick, setTg, setAll, wipeD, List.map_cons, List.map_nil, List.length_cons, List.length_nil, List.cons_append, List.nil_append, List.getElem?_cons_zero, List.getElem?_cons_succ, List.set_cons_zero, List.set_cons_succ, List.replicate_succ, List.replicate_zero, List.filterMap_cons, List.filterMap_nil, Nat.reduceAdd, Nat.reduceSub, Nat.reduceLeDiff, and_self, if_true, decide_eq_true_eq, true_and, and_true, List.set_nil, List.length_set, take_set, take_app, take_self, Bool.not_true, Bool.false_eq_true, if_false]
  exact ⟨next m5 (by omega), _, rfl⟩
theorem ok_of {r : R D} (h : Ew NoX r fun d _ => d = .bl true) : ∃ μ, r = .ok (.bl true) μ := by
  cases r with
  | ok d μ =>
    have h : d = .bl true := h
    subst h
    exact ⟨μ, rfl⟩
  | ex x μ => exact h.elim
  | no => exact h.elim
theorem law_gen {k m : Nat} (hm : m = k + 1) (hk : 8 ≤ k) (h21 : F k 21 [] [] = .ok (.bl true) []) (h23 : F k 23 [] [] = .ok (.bl true) []) (ns : List Int) (hl : ns.length ≤ 63) : ∃ μ, lev T m 24 [.lst (ns.map .int)] [] = .ok (.bl true) μ := by
  subst hm
  exact ok_of (f24 hk h21 h23 ns hl)
theorem law_true (ns : List Int) : ns.length ≤ 63 → (∀ z ∈ ns, Builtin.Int.intBits z ≤ 1048576) → ∃ μ, lev T 12 24 [.lst (ns.map .int)] [] = .ok (.bl true) μ := fun hl _ => law_gen (k := 11) rfl (by decide) h21 h23 ns hl
end K00
namespace K00
theorem mks_eq : PX.mksOf T = (["_law_two_right", "_law_lowest_right", "_law_hand_right"] : List PySem.Str) := by kernel_rfl
end K00
open PySem PySem.W PyProof.Rows
set_option maxRecDepth 100000 in
set_option maxHeartbeats 0 in
theorem PySem.Challenge.cw_onesolid_k00_fractions_and_errors_holds : PySem.Challenge.rw_onesolid_k00_fractions_and_errors.Holds := by
  w_on; o_law; k_head; (case hw => w_witness2)
  k_fill
  letI : PX.Tabc := ⟨[]⟩
  refine PX.walk_tab (l := PySem.Challenge.rw_onesolid_k00_fractions_and_errors) (n := 63) (k := 12) (i := 24) (x := "_law_script") (T := K00.T) (r := K00.r24) rfl (by decide) rfl ⟨rfl, by decide, by decide⟩ (fun w h Y => km_in_of Y) K00.txt_ok rfl rfl rfl ?F ?G (fun _ _ _ _ _ _ _ _ _ => .of_eq rfl) K00.law_true
  case F =>
    intro w
    refine ⟨⟨PX.all_cons ?_ (PX.all_cons ?_ (PX.all_cons ?_ (PX.all_cons ?_ (PX.all_cons ?_ (PX.all_cons ?_ (PX.all_cons ?_ (PX.all_cons ?_ (PX.all_cons ?_ (PX.all_cons ?_ (PX.all_cons ?_ (PX.all_cons ?_ (PX.all_cons ?_ (PX.all_cons ?_ (PX.all_cons ?_ (PX.all_cons ?_ (PX.all_cons ?_ (PX.all_cons ?_ (PX.all_cons ?_ (PX.all_cons ?_ (PX.all_cons ?_ (PX.all_cons ?_ (PX.all_cons ?_ (PX.all_cons ?_ (PX.all_cons ?_ (PX.all_nil))))))))))))))))))))))))), PX.all_cons ?_ (PX.all_nil), ?_, ?_, ?_, ?_⟩, ?_⟩
    iterate 26 (refine' PX.rowAt_mk ?a ?l ?c ?k; (case a => k_is); (case l => k_is); (case c => k_is); (case k => k_is))
    · exact PX.all_cons (by k_is) (PX.all_nil)
    · exact PX.all_cons (by k_is) (PX.all_cons (by k_is) (PX.all_cons (by k_is) (PX.all_cons (by k_is) (PX.all_cons (by k_is) (PX.all_cons (by k_is) (PX.all_cons (by k_is) (PX.all_cons (by k_is) (PX.all_cons (by k_is) (PX.all_cons (by k_is) (PX.all_cons (by k_is) (PX.all_cons (by k_is) (PX.all_cons (by k_is) (PX.all_cons (by k_is) (PX.all_cons (by k_is) (PX.all_cons (by k_is) (PX.all_cons (by k_is) (PX.all_cons (by k_is) (PX.all_cons (by k_is) (PX.all_cons (by k_is) (PX.all_cons (by k_is) (PX.all_cons (by k_is) (PX.all_nil))))))))))))))))))))))
    · refine' ⟨_, (.cons ⟨?n0, ?k0, ?s0, ?t0, ?o0, ?i0, ⟨?ea0, ?eb0, ?ec0, ?ed0, ?ee0, ?ef0, ?eg0, ?eh0⟩, ?v0⟩ (.cons ⟨?n1, ?k1, ?s1, ?t1, ?o1, ?i1, ⟨?ea1, ?eb1, ?ec1, ?ed1, ?ee1, ?ef1, ?eg1, ?eh1⟩, ?v1⟩ (.cons ⟨?n2, ?k2, ?s2, ?t2, ?o2, ?i2, ⟨?ea2, ?eb2, ?ec2, ?ed2, ?ee2, ?ef2, ?eg2, ?eh2⟩, ?v2⟩ (.cons ⟨?n3, ?k3, ?s3, ?t3, ?o3, ?i3, ⟨?ea3, ?eb3, ?ec3, ?ed3, ?ee3, ?ef3, ?eg3, ?eh3⟩, ?v3⟩ (.cons ⟨?n4, ?k4, ?s4, ?t4, ?o4, ?i4, ⟨?ea4, ?eb4, ?ec4, ?ed4, ?ee4, ?ef4, ?eg4, ?eh4⟩, ?v4⟩ (.cons ⟨?n5, ?k5, ?s5, ?t5, ?o5, ?i5, ⟨?ea5, ?eb5, ?ec5, ?ed5, ?ee5, ?ef5, ?eg5, ?eh5⟩, ?v5⟩ (.cons ⟨?n6, ?k6, ?s6, ?t6, ?o6, ?i6, ⟨?ea6, ?eb6, ?ec6, ?ed6, ?ee6, ?ef6, ?eg6, ?eh6⟩, ?v6⟩ (.cons ⟨?n7, ?k7, ?s7, ?t7, ?o7, ?i7, ⟨?ea7, ?eb7, ?ec7, ?ed7, ?ee7, ?ef7, ?eg7, ?eh7⟩, ?v7⟩ (.cons ⟨?n8, ?k8, ?s8, ?t8, ?o8, ?i8, ⟨?ea8, ?eb8, ?ec8, ?ed8, ?ee8, ?ef8, ?eg8, ?eh8⟩, ?v8⟩ (.cons ⟨?n9, ?k9, ?s9, ?t9, ?o9, ?i9, ⟨?ea9, ?eb9, ?ec9, ?ed9, ?ee9, ?ef9, ?eg9, ?eh9⟩, ?v9⟩ (.cons ⟨?n10, ?k10, ?s10, ?t10, ?o10, ?i10, ⟨?ea10, ?eb10, ?ec10, ?ed10, ?ee10, ?ef10, ?eg10, ?eh10⟩, ?v10⟩ (.cons ⟨?n11, ?k11, ?s11, ?t11, ?o11, ?i11, ⟨?ea11, ?eb11, ?ec11, ?ed11, ?ee11, ?ef11, ?eg11, ?eh11⟩, ?v11⟩ (.cons ⟨?n12, ?k12, ?s12, ?t12, ?o12, ?i12, ⟨?ea12, ?eb12, ?ec12, ?ed12, ?ee12, ?ef12, ?eg12, ?eh12⟩, ?v12⟩ (.cons ⟨?n13, ?k13, ?s13, ?t13, ?o13, ?i13, ⟨?ea13, ?eb13, ?ec13, ?ed13, ?ee13, ?ef13, ?eg13, ?eh13⟩, ?v13⟩ (.cons ⟨?n14, ?k14, ?s14, ?t14, ?o14, ?i14, ⟨?ea14, ?eb14, ?ec14, ?ed14, ?ee14, ?ef14, ?eg14, ?eh14⟩, ?v14⟩ (.cons ⟨?n15, ?k15, ?s15, ?t15, ?o15, ?i15, ⟨?ea15, ?eb15, ?ec15, ?ed15, ?ee15, ?ef15, ?eg15, ?eh15⟩, ?v15⟩ (.cons ⟨?n16, ?k16, ?s16, ?t16, ?o16, ?i16, ⟨?ea16, ?eb16, ?ec16, ?ed16, ?ee16, ?ef16, ?eg16, ?eh16⟩, ?v16⟩ (.cons ⟨?n17, ?k17, ?s17, ?t17, ?o17, ?i17, ⟨?ea17, ?eb17, ?ec17, ?ed17, ?ee17, ?ef17, ?eg17, ?eh17⟩, ?v17⟩ .nil)))))))))))))))))), ?pr⟩
      case n0 => k_is
      case k0 => k_is
      case s0 => k_is
      case t0 => k_is
      case o0 => exact fun _ => by kernel_rfl
      case i0 => exact fun h => (h rfl).elim
      case ea0 => first | k_is | kernel_rfl
      case eb0 => first | k_is | kernel_rfl
      case ec0 => first | k_is | kernel_rfl
      case ed0 => first | k_is | kernel_rfl
      case ee0 => first | k_is | kernel_rfl
      case ef0 => first | k_is | kernel_rfl
      case eg0 => first | k_is | kernel_rfl
      case eh0 => first | k_is | kernel_rfl
      case v0 => kernel_rfl
      case n1 => k_is
      case k1 => k_is
      case s1 => k_is
      case t1 => k_is
      case o1 => exact fun h => nomatch h
      case i1 =>
        refine' fun _ => PX.sup_ini K00.ci1_ok ?qxL1 ?qrb1 ?qsa1 ?qga1 ?qgg1 ?qno1 ?qiC1 ?qtI1 ?ql11 ?qc11 ?qlc1 ?qv21 ?qfe1 ?qll1 ?qsup1 ?qtop1 ?qany1 ?qmi1 ?qsC1 ?qsB1 ?qeC1 ?qhC1
        (case qxL1 => k_is)
        (case qrb1 => kernel_rfl)
        (case qsa1 => k_is)
        (case qga1 => k_is)
        (case qgg1 => k_is)
        (case qno1 => exact PX.all_cons (by k_is) (PX.all_nil))
        (case qiC1 => k_is)
        (case qtI1 => k_is)
        (case ql11 => k_is)
        (case qc11 => k_is)
        (case qlc1 => k_is)
        (case qv21 => rfl)
        (case qfe1 => first | rfl | kernel_rfl | decide +kernel)
        (case qll1 => k_is)
        (case qsup1 => k_is)
        (case qtop1 => first | rfl | kernel_rfl | decide +kernel)
        (case qany1 => k_is)
        (case qmi1 => ks_is)
        (case qsC1 => k_is)
        (case qsB1 => k_is)
        (case qeC1 => k_is)
        (case qhC1 => k_is)
      case ea1 => first | k_is | kernel_rfl
      case eb1 => first | k_is | kernel_rfl
      case ec1 => first | k_is | kernel_rfl
      case ed1 => first | k_is | kernel_rfl
      case ee1 => first | k_is | kernel_rfl
      case ef1 => first | k_is | kernel_rfl
      case eg1 => first | k_is | kernel_rfl
      case eh1 => first | k_is | kernel_rfl
      case v1 => kernel_rfl
      case n2 => k_is
      case k2 => k_is
      case s2 => k_is
      case t2 => k_is
      case o2 => exact fun h => nomatch h
      case i2 =>
        refine' fun _ => PX.sup_ini K00.ci2_ok ?qxL2 ?qrb2 ?qsa2 ?qga2 ?qgg2 ?qno2 ?qiC2 ?qtI2 ?ql12 ?qc12 ?qlc2 ?qv22 ?qfe2 ?qll2 ?qsup2 ?qtop2 ?qany2 ?qmi2 ?qsC2 ?qsB2 ?qeC2 ?qhC2
        (case qxL2 => k_is)
        (case qrb2 => kernel_rfl)
        (case qsa2 => k_is)
        (case qga2 => k_is)
        (case qgg2 => k_is)
        (case qno2 => exact PX.all_cons (by k_is) (PX.all_nil))
        (case qiC2 => k_is)
        (case qtI2 => k_is)
        (case ql12 => k_is)
        (case qc12 => k_is)
        (case qlc2 => k_is)
        (case qv22 => rfl)
        (case qfe2 => first | rfl | kernel_rfl | decide +kernel)
        (case qll2 => k_is)
        (case qsup2 => k_is)
        (case qtop2 => first | rfl | kernel_rfl | decide +kernel)
        (case qany2 => k_is)
        (case qmi2 => ks_is)
        (case qsC2 => k_is)
        (case qsB2 => k_is)
        (case qeC2 => k_is)
        (case qhC2 => k_is)
      case ea2 => first | k_is | kernel_rfl
      case eb2 => first | k_is | kernel_rfl
      case ec2 => first | k_is | kernel_rfl
      case ed2 => first | k_is | kernel_rfl
      case ee2 => first | k_is | kernel_rfl
      case ef2 => first | k_is | kernel_rfl
      case eg2 => first | k_is | kernel_rfl
      case eh2 => first | k_is | kernel_rfl
      case v2 => kernel_rfl
      case n3 => k_is
      case k3 => k_is
      case s3 => k_is
      case t3 => k_is
      case o3 => exact fun h => nomatch h
      case i3 =>
        refine' fun _ => PX.sup_ini K00.ci3_ok ?qxL3 ?qrb3 ?qsa3 ?qga3 ?qgg3 ?qno3 ?qiC3 ?qtI3 ?ql13 ?qc13 ?qlc3 ?qv23 ?qfe3 ?qll3 ?qsup3 ?qtop3 ?qany3 ?qmi3 ?qsC3 ?qsB3 ?qeC3 ?qhC3
        (case qxL3 => k_is)
        (case qrb3 => kernel_rfl)
        (case qsa3 => k_is)
        (case qga3 => k_is)
        (case qgg3 => k_is)
        (case qno3 => exact PX.all_cons (by k_is) (PX.all_nil))
        (case qiC3 => k_is)
        (case qtI3 => k_is)
        (case ql13 => k_is)
        (case qc13 => k_is)
        (case qlc3 => k_is)
        (case qv23 => rfl)
        (case qfe3 => first | rfl | kernel_rfl | decide +kernel)
        (case qll3 => k_is)
        (case qsup3 => k_is)
        (case qtop3 => first | rfl | kernel_rfl | decide +kernel)
        (case qany3 => k_is)
        (case qmi3 => ks_is)
        (case qsC3 => k_is)
        (case qsB3 => k_is)
        (case qeC3 => k_is)
        (case qhC3 => k_is)
      case ea3 => first | k_is | kernel_rfl
      case eb3 => first | k_is | kernel_rfl
      case ec3 => first | k_is | kernel_rfl
      case ed3 => first | k_is | kernel_rfl
      case ee3 => first | k_is | kernel_rfl
      case ef3 => first | k_is | kernel_rfl
      case eg3 => first | k_is | kernel_rfl
      case eh3 => first | k_is | kernel_rfl
      case v3 => kernel_rfl
      case n4 => k_is
      case k4 => k_is
      case s4 => k_is
      case t4 => k_is
      case o4 => exact fun h => nomatch h
      case i4 =>
        refine' fun _ => PX.sup_ini K00.ci4_ok ?qxL4 ?qrb4 ?qsa4 ?qga4 ?qgg4 ?qno4 ?qiC4 ?qtI4 ?ql14 ?qc14 ?qlc4 ?qv24 ?qfe4 ?qll4 ?qsup4 ?qtop4 ?qany4 ?qmi4 ?qsC4 ?qsB4 ?qeC4 ?qhC4
        (case qxL4 => k_is)
        (case qrb4 => kernel_rfl)
        (case qsa4 => k_is)
        (case qga4 => k_is)
        (case qgg4 => k_is)
        (case qno4 => exact PX.all_cons (by k_is) (PX.all_nil))
        (case qiC4 => k_is)
        (case qtI4 => k_is)
        (case ql14 => k_is)
        (case qc14 => k_is)
        (case qlc4 => k_is)
        (case qv24 => rfl)
        (case qfe4 => first | rfl | kernel_rfl | decide +kernel)
        (case qll4 => k_is)
        (case qsup4 => k_is)
        (case qtop4 => first | rfl | kernel_rfl | decide +kernel)
        (case qany4 => k_is)
        (case qmi4 => ks_is)
        (case qsC4 => k_is)
        (case qsB4 => k_is)
        (case qeC4 => k_is)
        (case qhC4 => k_is)
      case ea4 => first | k_is | kernel_rfl
      case eb4 => first | k_is | kernel_rfl
      case ec4 => first | k_is | kernel_rfl
      case ed4 => first | k_is | kernel_rfl
      case ee4 => first | k_is | kernel_rfl
      case ef4 => first | k_is | kernel_rfl
      case eg4 => first | k_is | kernel_rfl
      case eh4 => first | k_is | kernel_rfl
      case v4 => kernel_rfl
      case n5 => k_is
      case k5 => k_is
      case s5 => k_is
      case t5 => k_is
      case o5 => exact fun h => nomatch h
      case i5 =>
        refine' fun _ => PX.sup_ini K00.ci5_ok ?qxL5 ?qrb5 ?qsa5 ?qga5 ?qgg5 ?qno5 ?qiC5 ?qtI5 ?ql15 ?qc15 ?qlc5 ?qv25 ?qfe5 ?qll5 ?qsup5 ?qtop5 ?qany5 ?qmi5 ?qsC5 ?qsB5 ?qeC5 ?qhC5
        (case qxL5 => k_is)
        (case qrb5 => kernel_rfl)
        (case qsa5 => k_is)
        (case qga5 => k_is)
        (case qgg5 => k_is)
        (case qno5 => exact PX.all_cons (by k_is) (PX.all_cons (by k_is) (PX.all_nil)))
        (case qiC5 => k_is)
        (case qtI5 => k_is)
        (case ql15 => k_is)
        (case qc15 => k_is)
        (case qlc5 => k_is)
        (case qv25 => rfl)
        (case qfe5 => first | rfl | kernel_rfl | decide +kernel)
        (case qll5 => k_is)
        (case qsup5 => k_is)
        (case qtop5 => first | rfl | kernel_rfl | decide +kernel)
        (case qany5 => k_is)
        (case qmi5 => ks_is)
        (case qsC5 => k_is)
        (case qsB5 => k_is)
        (case qeC5 => k_is)
        (case qhC5 => k_is)
      case ea5 => first | k_is | kernel_rfl
      case eb5 => first | k_is | kernel_rfl
      case ec5 => first | k_is | kernel_rfl
      case ed5 => first | k_is | kernel_rfl
      case ee5 => first | k_is | kernel_rfl
      case ef5 => first | k_is | kernel_rfl
      case eg5 => first | k_is | kernel_rfl
      case eh5 => first | k_is | kernel_rfl
      case v5 => kernel_rfl
      case n6 => k_is
      case k6 => k_is
      case s6 => k_is
      case t6 => k_is
      case o6 => exact fun h => nomatch h
      case i6 =>
        refine' fun _ => PX.sup_ini K00.ci6_ok ?qxL6 ?qrb6 ?qsa6 ?qga6 ?qgg6 ?qno6 ?qiC6 ?qtI6 ?ql16 ?qc16 ?qlc6 ?qv26 ?qfe6 ?qll6 ?qsup6 ?qtop6 ?qany6 ?qmi6 ?qsC6 ?qsB6 ?qeC6 ?qhC6
        (case qxL6 => k_is)
        (case qrb6 => kernel_rfl)
        (case qsa6 => k_is)
        (case qga6 => k_is)
        (case qgg6 => k_is)
        (case qno6 => exact PX.all_cons (by k_is) (PX.all_nil))
        (case qiC6 => k_is)
        (case qtI6 => k_is)
        (case ql16 => k_is)
        (case qc16 => k_is)
        (case qlc6 => k_is)
        (case qv26 => rfl)
        (case qfe6 => first | rfl | kernel_rfl | decide +kernel)
        (case qll6 => k_is)
        (case qsup6 => k_is)
        (case qtop6 => first | rfl | kernel_rfl | decide +kernel)
        (case qany6 => k_is)
        (case qmi6 => ks_is)
        (case qsC6 => k_is)
        (case qsB6 => k_is)
        (case qeC6 => k_is)
        (case qhC6 => k_is)
      case ea6 => first | k_is | kernel_rfl
      case eb6 => first | k_is | kernel_rfl
      case ec6 => first | k_is | kernel_rfl
      case ed6 => first | k_is | kernel_rfl
      case ee6 => first | k_is | kernel_rfl
      case ef6 => first | k_is | kernel_rfl
      case eg6 => first | k_is | kernel_rfl
      case eh6 => first | k_is | kernel_rfl
      case v6 => kernel_rfl
      case n7 => k_is
      case k7 => k_is
      case s7 => k_is
      case t7 => k_is
      case o7 => exact fun h => nomatch h
      case i7 =>
        refine' fun _ => PX.sup_ini K00.ci7_ok ?qxL7 ?qrb7 ?qsa7 ?qga7 ?qgg7 ?qno7 ?qiC7 ?qtI7 ?ql17 ?qc17 ?qlc7 ?qv27 ?qfe7 ?qll7 ?qsup7 ?qtop7 ?qany7 ?qmi7 ?qsC7 ?qsB7 ?qeC7 ?qhC7
        (case qxL7 => k_is)
        (case qrb7 => kernel_rfl)
        (case qsa7 => k_is)
        (case qga7 => k_is)
        (case qgg7 => k_is)
        (case qno7 => exact PX.all_cons (by k_is) (PX.all_nil))
        (case qiC7 => k_is)
        (case qtI7 => k_is)
        (case ql17 => k_is)
        (case qc17 => k_is)
        (case qlc7 => k_is)
        (case qv27 => rfl)
        (case qfe7 => first | rfl | kernel_rfl | decide +kernel)
        (case qll7 => k_is)
        (case qsup7 => k_is)
        (case qtop7 => first | rfl | kernel_rfl | decide +kernel)
        (case qany7 => k_is)
        (case qmi7 => ks_is)
        (case qsC7 => k_is)
        (case qsB7 => k_is)
        (case qeC7 => k_is)
        (case qhC7 => k_is)
      case ea7 => first | k_is | kernel_rfl
      case eb7 => first | k_is | kernel_rfl
      case ec7 => first | k_is | kernel_rfl
      case ed7 => first | k_is | kernel_rfl
      case ee7 => first | k_is | kernel_rfl
      case ef7 => first | k_is | kernel_rfl
      case eg7 => first | k_is | kernel_rfl
      case eh7 => first | k_is | kernel_rfl
      case v7 => kernel_rfl
      case n8 => k_is
      case k8 => k_is
      case s8 => k_is
      case t8 => k_is
      case o8 => exact fun _ => by kernel_rfl
      case i8 => exact fun h => (h rfl).elim
      case ea8 => first | k_is | kernel_rfl
      case eb8 => first | k_is | kernel_rfl
      case ec8 => first | k_is | kernel_rfl
      case ed8 => first | k_is | kernel_rfl
      case ee8 => first | k_is | kernel_rfl
      case ef8 => first | k_is | kernel_rfl
      case eg8 => first | k_is | kernel_rfl
      case eh8 => first | k_is | kernel_rfl
      case v8 => kernel_rfl
      case n9 => k_is
      case k9 => k_is
      case s9 => k_is
      case t9 => k_is
      case o9 => exact fun h => nomatch h
      case i9 =>
        refine' fun _ => PX.sup_ini K00.ci9_ok ?qxL9 ?qrb9 ?qsa9 ?qga9 ?qgg9 ?qno9 ?qiC9 ?qtI9 ?ql19 ?qc19 ?qlc9 ?qv29 ?qfe9 ?qll9 ?qsup9 ?qtop9 ?qany9 ?qmi9 ?qsC9 ?qsB9 ?qeC9 ?qhC9
        (case qxL9 => k_is)
        (case qrb9 => kernel_rfl)
        (case qsa9 => k_is)
        (case qga9 => k_is)
        (case qgg9 => k_is)
        (case qno9 => exact PX.all_cons (by k_is) (PX.all_nil))
        (case qiC9 => k_is)
        (case qtI9 => k_is)
        (case ql19 => k_is)
        (case qc19 => k_is)
        (case qlc9 => k_is)
        (case qv29 => rfl)
        (case qfe9 => first | rfl | kernel_rfl | decide +kernel)
        (case qll9 => k_is)
        (case qsup9 => k_is)
        (case qtop9 => first | rfl | kernel_rfl | decide +kernel)
        (case qany9 => k_is)
        (case qmi9 => ks_is)
        (case qsC9 => k_is)
        (case qsB9 => k_is)
        (case qeC9 => k_is)
        (case qhC9 => k_is)
      case ea9 => first | k_is | kernel_rfl
      case eb9 => first | k_is | kernel_rfl
      case ec9 => first | k_is | kernel_rfl
      case ed9 => first | k_is | kernel_rfl
      case ee9 => first | k_is | kernel_rfl
      case ef9 => first | k_is | kernel_rfl
      case eg9 => first | k_is | kernel_rfl
      case eh9 => first | k_is | kernel_rfl
      case v9 => kernel_rfl
      case n10 => k_is
      case k10 => k_is
      case s10 => k_is
      case t10 => k_is
      case o10 => exact fun h => nomatch h
      case i10 =>
        refine' fun _ => PX.sup_ini K00.ci10_ok ?qxL10 ?qrb10 ?qsa10 ?qga10 ?qgg10 ?qno10 ?qiC10 ?qtI10 ?ql110 ?qc110 ?qlc10 ?qv210 ?qfe10 ?qll10 ?qsup10 ?qtop10 ?qany10 ?qmi10 ?qsC10 ?qsB10 ?qeC10 ?qhC10
        (case qxL10 => k_is)
        (case qrb10 => kernel_rfl)
        (case qsa10 => k_is)
        (case qga10 => k_is)
        (case qgg10 => k_is)
        (case qno10 => exact PX.all_cons (by k_is) (PX.all_nil))
        (case qiC10 => k_is)
        (case qtI10 => k_is)
        (case ql110 => k_is)
        (case qc110 => k_is)
        (case qlc10 => k_is)
        (case qv210 => rfl)
        (case qfe10 => first | rfl | kernel_rfl | decide +kernel)
        (case qll10 => k_is)
        (case qsup10 => k_is)
        (case qtop10 => first | rfl | kernel_rfl | decide +kernel)
        (case qany10 => k_is)
        (case qmi10 => ks_is)
        (case qsC10 => k_is)
        (case qsB10 => k_is)
        (case qeC10 => k_is)
        (case qhC10 => k_is)
      case ea10 => first | k_is | kernel_rfl
      case eb10 => first | k_is | kernel_rfl
      case ec10 => first | k_is | kernel_rfl
      case ed10 => first | k_is | kernel_rfl
      case ee10 => first | k_is | kernel_rfl
      case ef10 => first | k_is | kernel_rfl
      case eg10 => first | k_is | kernel_rfl
      case eh10 => first | k_is | kernel_rfl
      case v10 => kernel_rfl
      case n11 => k_is
      case k11 => k_is
      case s11 => k_is
      case t11 => k_is
      case o11 => exact fun h => nomatch h
      case i11 =>
        refine' fun _ => PX.sup_ini K00.ci11_ok ?qxL11 ?qrb11 ?qsa11 ?qga11 ?qgg11 ?qno11 ?qiC11 ?qtI11 ?ql111 ?qc111 ?qlc11 ?qv211 ?qfe11 ?qll11 ?qsup11 ?qtop11 ?qany11 ?qmi11 ?qsC11 ?qsB11 ?qeC11 ?qhC11
        (case qxL11 => k_is)
        (case qrb11 => kernel_rfl)
        (case qsa11 => k_is)
        (case qga11 => k_is)
        (case qgg11 => k_is)
        (case qno11 => exact PX.all_cons (by k_is) (PX.all_nil))
        (case qiC11 => k_is)
        (case qtI11 => k_is)
        (case ql111 => k_is)
        (case qc111 => k_is)
        (case qlc11 => k_is)
        (case qv211 => rfl)
        (case qfe11 => first | rfl | kernel_rfl | decide +kernel)
        (case qll11 => k_is)
        (case qsup11 => k_is)
        (case qtop11 => first | rfl | kernel_rfl | decide +kernel)
        (case qany11 => k_is)
        (case qmi11 => ks_is)
        (case qsC11 => k_is)
        (case qsB11 => k_is)
        (case qeC11 => k_is)
        (case qhC11 => k_is)
      case ea11 => first | k_is | kernel_rfl
      case eb11 => first | k_is | kernel_rfl
      case ec11 => first | k_is | kernel_rfl
      case ed11 => first | k_is | kernel_rfl
      case ee11 => first | k_is | kernel_rfl
      case ef11 => first | k_is | kernel_rfl
      case eg11 => first | k_is | kernel_rfl
      case eh11 => first | k_is | kernel_rfl
      case v11 => kernel_rfl
      case n12 => k_is
      case k12 => k_is
      case s12 => k_is
      case t12 => k_is
      case o12 => exact fun h => nomatch h
      case i12 =>
        refine' fun _ => PX.sup_ini K00.ci12_ok ?qxL12 ?qrb12 ?qsa12 ?qga12 ?qgg12 ?qno12 ?qiC12 ?qtI12 ?ql112 ?qc112 ?qlc12 ?qv212 ?qfe12 ?qll12 ?qsup12 ?qtop12 ?qany12 ?qmi12 ?qsC12 ?qsB12 ?qeC12 ?qhC12
        (case qxL12 => k_is)
        (case qrb12 => kernel_rfl)
        (case qsa12 => k_is)
        (case qga12 => k_is)
        (case qgg12 => k_is)
        (case qno12 => exact PX.all_cons (by k_is) (PX.all_nil))
        (case qiC12 => k_is)
        (case qtI12 => k_is)
        (case ql112 => k_is)
        (case qc112 => k_is)
        (case qlc12 => k_is)
        (case qv212 => rfl)
        (case qfe12 => first | rfl | kernel_rfl | decide +kernel)
        (case qll12 => k_is)
        (case qsup12 => k_is)
        (case qtop12 => first | rfl | kernel_rfl | decide +kernel)
        (case qany12 => k_is)
        (case qmi12 => ks_is)
        (case qsC12 => k_is)
        (case qsB12 => k_is)
        (case qeC12 => k_is)
        (case qhC12 => k_is)
      case ea12 => first | k_is | kernel_rfl
      case eb12 => first | k_is | kernel_rfl
      case ec12 => first | k_is | kernel_rfl
      case ed12 => first | k_is | kernel_rfl
      case ee12 => first | k_is | kernel_rfl
      case ef12 => first | k_is | kernel_rfl
      case eg12 => first | k_is | kernel_rfl
      case eh12 => first | k_is | kernel_rfl
      case v12 => kernel_rfl
      case n13 => k_is
      case k13 => k_is
      case s13 => k_is
      case t13 => k_is
      case o13 => exact fun _ => by kernel_rfl
      case i13 => exact fun h => (h rfl).elim
      case ea13 => first | k_is | kernel_rfl
      case eb13 => first | k_is | kernel_rfl
      case ec13 => first | k_is | kernel_rfl
      case ed13 => first | k_is | kernel_rfl
      case ee13 => first | k_is | kernel_rfl
      case ef13 => first | k_is | kernel_rfl
      case eg13 => first | k_is | kernel_rfl
      case eh13 => first | k_is | kernel_rfl
      case v13 => kernel_rfl
      case n14 => k_is
      case k14 => k_is
      case s14 => k_is
      case t14 => k_is
      case o14 => exact fun _ => by kernel_rfl
      case i14 => exact fun h => (h rfl).elim
      case ea14 => first | k_is | kernel_rfl
      case eb14 => first | k_is | kernel_rfl
      case ec14 => first | k_is | kernel_rfl
      case ed14 => first | k_is | kernel_rfl
      case ee14 => first | k_is | kernel_rfl
      case ef14 => first | k_is | kernel_rfl
      case eg14 => first | k_is | kernel_rfl
      case eh14 => first | k_is | kernel_rfl
      case v14 => kernel_rfl
      case n15 => k_is
      case k15 => k_is
      case s15 => k_is
      case t15 => k_is
      case o15 => exact fun _ => by kernel_rfl
      case i15 => exact fun h => (h rfl).elim
      case ea15 => first | k_is | kernel_rfl
      case eb15 => first | k_is | kernel_rfl
      case ec15 => first | k_is | kernel_rfl
      case ed15 => first | k_is | kernel_rfl
      case ee15 => first | k_is | kernel_rfl
      case ef15 => first | k_is | kernel_rfl
      case eg15 => first | k_is | kernel_rfl
      case eh15 => first | k_is | kernel_rfl
      case v15 => kernel_rfl
      case n16 => k_is
      case k16 => k_is
      case s16 => k_is
      case t16 => k_is
      case o16 => exact fun _ => by kernel_rfl
      case i16 => exact fun h => (h rfl).elim
      case ea16 => first | k_is | kernel_rfl
      case eb16 => first | k_is | kernel_rfl
      case ec16 => first | k_is | kernel_rfl
      case ed16 => first | k_is | kernel_rfl
      case ee16 => first | k_is | kernel_rfl
      case ef16 => first | k_is | kernel_rfl
      case eg16 => first | k_is | kernel_rfl
      case eh16 => first | k_is | kernel_rfl
      case v16 => kernel_rfl
      case n17 => k_is
      case k17 => k_is
      case s17 => k_is
      case t17 => k_is
      case o17 => exact fun h => nomatch h
      case i17 =>
        refine' fun _ => PX.sup_ini K00.ci17_ok ?qxL17 ?qrb17 ?qsa17 ?qga17 ?qgg17 ?qno17 ?qiC17 ?qtI17 ?ql117 ?qc117 ?qlc17 ?qv217 ?qfe17 ?qll17 ?qsup17 ?qtop17 ?qany17 ?qmi17 ?qsC17 ?qsB17 ?qeC17 ?qhC17
        (case qxL17 => k_is)
        (case qrb17 => kernel_rfl)
        (case qsa17 => k_is)
        (case qga17 => k_is)
        (case qgg17 => k_is)
        (case qno17 => exact PX.all_cons (by k_is) (PX.all_nil))
        (case qiC17 => k_is)
        (case qtI17 => k_is)
        (case ql117 => k_is)
        (case qc117 => k_is)
        (case qlc17 => k_is)
        (case qv217 => rfl)
        (case qfe17 => first | rfl | kernel_rfl | decide +kernel)
        (case qll17 => k_is)
        (case qsup17 => k_is)
        (case qtop17 => first | rfl | kernel_rfl | decide +kernel)
        (case qany17 => k_is)
        (case qmi17 => ks_is)
        (case qsC17 => k_is)
        (case qsB17 => k_is)
        (case qeC17 => k_is)
        (case qhC17 => k_is)
      case ea17 => first | k_is | kernel_rfl
      case eb17 => first | k_is | kernel_rfl
      case ec17 => first | k_is | kernel_rfl
      case ed17 => first | k_is | kernel_rfl
      case ee17 => first | k_is | kernel_rfl
      case ef17 => first | k_is | kernel_rfl
      case eg17 => first | k_is | kernel_rfl
      case eh17 => first | k_is | kernel_rfl
      case v17 => kernel_rfl
      case pr => kernel_rfl
    · exact PX.all_nil
    · rw [K00.mks_eq]
      refine' PX.tab_mk (.cons (PX.tab_one (st := K00.r19.st) ?a0 ?l0 ?c0 ?v0) ?z0 (.cons (PX.tab_one (st := K00.r20.st) ?a1 ?l1 ?c1 ?v1) ?z1 (.cons (PX.tab_one (st := K00.r21.st) ?a2 ?l2 ?c2 ?v2) ?z2 .nil))) ?nd
      case a0 => k_is
      case l0 => k_is
      case c0 => k_is
      case v0 => rfl
      case z0 => kernel_rfl
      case a1 => k_is
      case l1 => k_is
      case c1 => k_is
      case v1 => rfl
      case z1 => kernel_rfl
      case a2 => k_is
      case l2 => k_is
      case c2 => k_is
      case v2 => rfl
      case z2 => kernel_rfl
      case nd => decide
  case G =>
    rw [K00.mks_eq]
    exact PX.all_cons ⟨_, rfl⟩ (PX.all_cons ⟨_, rfl⟩ (PX.all_cons ⟨_, rfl⟩ (PX.all_nil)))
