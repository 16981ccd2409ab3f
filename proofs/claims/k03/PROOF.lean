import PyProof.Rows.All
import Wide.All
import OpenK.AllK
import Wide.FinOn
import HandS.ForMost
import HandS.ForExc
import HandS.Wide
import HandS.Gcd
import HandS.Walk
import HandS.Zip
import HandS.IsInst
import HandS.TupAny
import PyProof.ReprRoads
import PyProof.ReprLen
import HandS.TupMul
import KE.GoesNew
import HandS.Small
import HandS.EndBits
import HandS.Words
import PySem.Challenge.RW_onesolid_k03_rows_and_planes
set_option Elab.async false
set_option linter.all false
set_option autoImplicit false
set_option maxRecDepth 100000
set_option maxHeartbeats 0
set_option exponentiation.threshold 3000
namespace PX
open PySem PySem.Spec PyProof.Rows L2
/-! ### 1. plain data, the store, results -/
inductive D where
  | non | bl (b : Bool) | int (i : Int) | str (x : Str) | lst (xs : List D) | tup (xs : List D) | ref (n : Nat) | ty (n : String)
  deriving Inhabited
/-- a store object: a dict with text keys, a list that is changed -/
inductive SO where
  | dk (kvs : List (Str × D)) | ml (xs : List D)
abbrev Mu := List SO
/-- an exception: its class by name, its fields -/
structure Xn where
  c : Str
  fs : List (Str × D)
inductive R (α : Type) where
  | ok (a : α) (μ : Mu) | ex (x : Xn) (μ : Mu) | no
abbrev M (α : Type) := Mu → R α
abbrev Rho := List (Option D)
def rt {α : Type} (a : α) : M α := fun μ => .ok a μ
def stk {α : Type} : M α := fun _ => .no
def bd {α β : Type} (x : M α) (f : α → M β) : M β := fun μ => match x μ with
  | .ok a μ' => f a μ'
  | .ex e μ' => .ex e μ'
  | .no => .no
def lft {α : Type} (o : Option α) : M α := fun μ => match o with
  | some a => .ok a μ
  | none => .no
def Sat {α : Type} (r : R α) (K : α → Mu → Prop) (E : Xn → Mu → Prop) : Prop := match r with
  | .ok a μ => K a μ
  | .ex x μ => E x μ
  | .no => False
section
variable {α β : Type} {K K' : α → Mu → Prop} {E E' : Xn → Mu → Prop}
theorem Sat.mono {r : R α} (h : Sat r K E) (hK : ∀ a μ, K a μ → K' a μ) (hE : ∀ x μ, E x μ → E' x μ) : Sat r K' E' := by
  cases r with
  | ok a μ => exact hK a μ h
  | ex x μ => exact hE x μ h
  | no => exact h
theorem Sat.imp {r : R α} (h : Sat r K E) (hK : ∀ a μ, K a μ → K' a μ) : Sat r K' E := h.mono hK fun _ _ q => q
theorem sat_bd {x : M α} {f : α → M β} {μ : Mu} {L : β → Mu → Prop} : Sat (bd x f μ) L E ↔ Sat (x μ) (fun a μ' => Sat (f a μ') L E) E := by
  unfold bd
  cases x μ <;> exact Iff.rfl
theorem sat_rt {a : α} {μ : Mu} : Sat (rt a μ) K E ↔ K a μ := Iff.rfl
theorem sat_lft {o : Option α} {μ : Mu} : Sat (lft o μ) K E ↔ ∃ a, o = some a ∧ K a μ := by
  cases o with
  | none => exact ⟨fun h => h.elim, fun ⟨_, h, _⟩ => nomatch h⟩
  | some a => exact ⟨fun h => ⟨a, rfl, h⟩, fun ⟨b, h, k⟩ => by cases h; exact k⟩
theorem sat_stk {μ : Mu} : Sat ((stk : M α) μ) K E ↔ False := Iff.rfl
end
/-! ### 2. what data stands for: values over the abstract heap; ad: where the store's objects stand -/
def WrT (K : PySem.W.Frag) (a : Addr) (xs : List V) : Prop :=
  ∃ (o : Obj) (its : Array Value) (n : Nat), K.lookup a = some o ∧ o.cls = .type "tuple" ∧ o.data = .seq its n ∧ its.size ≤ sizeLine ∧ Vals xs its.toList
def WrL (K : PySem.W.Frag) (a : Addr) (xs : List V) : Prop :=
  ∃ (o : Obj) (its : Array Value) (n : Nat), K.lookup a = some o ∧ o.cls = .type "list" ∧ o.dict = none ∧ o.data = .seq its n ∧ its.size ≤ sizeLine ∧ Vals xs its.toList
/-- the store's places; places that no data stands at -/
structure Pl where
  ad : List Addr
  pr : List Addr
def Pl.out (P : Pl) (a : Addr) : Prop := a ∉ P.ad ∧ a ∉ P.pr
def Pl.add (P : Pl) (l : List Addr) : Pl := ⟨P.ad ++ l, P.pr⟩
/-- a list that no one changes; a tuple -/
def LstAt (K : PySem.W.Frag) (H : Hp) (ad : Pl) (a : Addr) (xs : List V) : Prop := (ad.out a ∧ Rd H a (.lst xs)) ∨ WrL K a xs
def TupAt (K : PySem.W.Frag) (H : Hp) (ad : Pl) (a : Addr) (xs : List V) : Prop := (ad.out a ∧ Rd H a (.tup xs)) ∨ WrT K a xs
theorem LstAt.sq {K : PySem.W.Frag} {H : Hp} {ad : Pl} {a : Addr} {xs : List V} (h : LstAt K H ad a xs) : SqL K H a xs := h.elim (fun z => .inl z.2) .inr
theorem TupAt.sq {K : PySem.W.Frag} {H : Hp} {ad : Pl} {a : Addr} {xs : List V} (h : TupAt K H ad a xs) : SqT K H a xs := h.elim (fun z => .inl z.2) .inr
mutual
inductive Rp (K : PySem.W.Frag) (H : Hp) (ad : Pl) : V → D → Prop
  | non : Rp K H ad .non .non
  | bl (b : Bool) : Rp K H ad (.bl b) (.bl b)
  | int (i : Int) : Rp K H ad (.int i) (.int i)
  | str (x : Str) : Rp K H ad (.str x) (.str x)
  | lst {a : Addr} {vs : List V} {ds : List D} : LstAt K H ad a vs → Rps K H ad vs ds → Rp K H ad (.ref a) (.lst ds)
  | tup {a : Addr} {vs : List V} {ds : List D} : TupAt K H ad a vs → Rps K H ad vs ds → Rp K H ad (.ref a) (.tup ds)
  | ref {a : Addr} {n : Nat} : ad.ad[n]? = some a → Rp K H ad (.ref a) (.ref n)
  | ty (n : String) : Rp K H ad (.ty n) (.ty n)
inductive Rps (K : PySem.W.Frag) (H : Hp) (ad : Pl) : List V → List D → Prop
  | nil : Rps K H ad [] []
  | cons {v : V} {vs : List V} {d : D} {ds : List D} : Rp K H ad v d → Rps K H ad vs ds → Rps K H ad (v :: vs) (d :: ds)
end
/-- the heap and the store's places have grown: what was tracked and is no place of the store stands as it stood -/
structure Grow (H : Hp) (ad : Pl) (H' : Hp) (ad' : Pl) : Prop where
  pre : ∃ l, ad' = ad.add l ∧ ∀ b ∈ l, H b = none
  keep : ∀ b o, b ∉ ad.ad → H b = some o → H' b = some o
  live : ∀ b, H' b = none → H b = none
section
variable {K : PySem.W.Frag} {H H' H2 : Hp} {ad ad' ad2 : Pl}
theorem Pl.add_nil : ad.add [] = ad := by
  cases ad
  simp [Pl.add]
theorem Pl.add_add (l m : List Addr) : (ad.add l).add m = ad.add (l ++ m) := by simp [Pl.add]
theorem Grow.refl : Grow H ad H ad := ⟨⟨[], Pl.add_nil.symm, by simp⟩, fun _ _ _ h => h, fun _ h => h⟩
theorem Grow.nad (g : Grow H ad H' ad') {b : Addr} {o : HO} (hb : b ∉ ad.ad) (q : H b = some o) : b ∉ ad'.ad := fun z => by
  obtain ⟨l, e, n⟩ := g.pre
  rw [e] at z
  rcases List.mem_append.mp z with z | z
  · exact hb z
  · rw [n b z] at q
    cases q
theorem Grow.pr_eq (g : Grow H ad H' ad') : ad'.pr = ad.pr := by
  obtain ⟨l, e, n⟩ := g.pre
  rw [e]
  rfl
theorem Grow.trans (g : Grow H ad H' ad') (h : Grow H' ad' H2 ad2) : Grow H ad H2 ad2 := by
  obtain ⟨l, e, n⟩ := g.pre
  obtain ⟨m, e2, n2⟩ := h.pre
  refine ⟨⟨l ++ m, by rw [e2, e, Pl.add_add], fun b hb => ?_⟩, fun b o hb q => h.keep b o (g.nad hb q) (g.keep b o hb q), fun b q => g.live b (h.live b q)⟩
  rcases List.mem_append.mp hb with z | z
  · exact n b z
  · exact g.live b (n2 b z)
theorem Grow.nin (g : Grow H ad H' ad') {b : Addr} {o : HO} (hb : ad.out b) (q : H b = some o) : ad'.out b := ⟨g.nad hb.1 q, by rw [g.pr_eq]; exact hb.2⟩
theorem Grow.at (g : Grow H ad H' ad') {n : Nat} {a : Addr} (e : ad.ad[n]? = some a) : ad'.ad[n]? = some a := by
  obtain ⟨l, e2, _⟩ := g.pre
  rw [e2]
  show (ad.ad ++ l)[n]? = some a
  rw [List.getElem?_append_left (List.getElem?_eq_some_iff.mp e).1]
  exact e
theorem Grow.rd (g : Grow H ad H' ad') {a : Addr} {u : HO} (hb : ad.out a) (r : Rd H a u) : ad'.out a ∧ Rd H' a u := by
  rcases r with r | ⟨o, r⟩
  · exact ⟨g.nin hb r, .inl (g.keep a _ hb.1 r)⟩
  · exact ⟨g.nin hb r, .inr ⟨o, g.keep a _ hb.1 r⟩⟩
theorem LstAt.grow (g : Grow H ad H' ad') {a : Addr} {xs : List V} (h : LstAt K H ad a xs) : LstAt K H' ad' a xs := h.elim (fun z => .inl (g.rd z.1 z.2)) .inr
theorem TupAt.grow (g : Grow H ad H' ad') {a : Addr} {xs : List V} (h : TupAt K H ad a xs) : TupAt K H' ad' a xs := h.elim (fun z => .inl (g.rd z.1 z.2)) .inr
mutual
theorem Rp.map (hL : ∀ a xs, LstAt K H ad a xs → LstAt K H' ad' a xs) (hT : ∀ a xs, TupAt K H ad a xs → TupAt K H' ad' a xs) (hR : ∀ (n : Nat) (a : Addr), ad.ad[n]? = some a → ad'.ad[n]? = some a) : ∀ (d : D) (v : V), Rp K H ad v d → Rp K H' ad' v d
  | .non, _, h => by cases h; exact .non
  | .bl b, _, h => by cases h; exact .bl b
  | .int i, _, h => by cases h; exact .int i
  | .str x, _, h => by cases h; exact .str x
  | .lst ds, _, h => by
    cases h with
    | lst a r => exact .lst (hL _ _ a) (Rps.map hL hT hR ds _ r)
  | .tup ds, _, h => by
    cases h with
    | tup a r => exact .tup (hT _ _ a) (Rps.map hL hT hR ds _ r)
  | .ref n, _, h => by
    cases h with
    | ref e => exact .ref (hR _ _ e)
  | .ty n, _, h => by cases h; exact .ty n
theorem Rps.map (hL : ∀ a xs, LstAt K H ad a xs → LstAt K H' ad' a xs) (hT : ∀ a xs, TupAt K H ad a xs → TupAt K H' ad' a xs) (hR : ∀ (n : Nat) (a : Addr), ad.ad[n]? = some a → ad'.ad[n]? = some a) : ∀ (ds : List D) (vs : List V), Rps K H ad vs ds → Rps K H' ad' vs ds
  | [], _, h => by cases h; exact .nil
  | d :: ds, _, h => by
    cases h with
    | cons a r => exact .cons (Rp.map hL hT hR d _ a) (Rps.map hL hT hR ds _ r)
end
theorem Rp.grow (g : Grow H ad H' ad') (d : D) (v : V) (h : Rp K H ad v d) : Rp K H' ad' v d := Rp.map (fun _ _ => .grow g) (fun _ _ => .grow g) (fun _ _ => g.at) d v h
theorem Rps.grow (g : Grow H ad H' ad') (ds : List D) (vs : List V) (h : Rps K H ad vs ds) : Rps K H' ad' vs ds := Rps.map (fun _ _ => .grow g) (fun _ _ => .grow g) (fun _ _ => g.at) ds vs h
theorem Rps.length : ∀ {vs : List V} {ds : List D}, Rps K H ad vs ds → vs.length = ds.length
  | [], [], _ => rfl
  | _ :: _, _ :: _, .cons _ r => by simp [Rps.length r]
theorem Rps.get : ∀ {vs : List V} {ds : List D} {i : Nat} {d : D}, Rps K H ad vs ds → ds[i]? = some d → ∃ v, vs[i]? = some v ∧ Rp K H ad v d
  | [], [], _, _, _, e => by simp at e
  | _ :: _, _ :: _, 0, d, .cons a _, e => ⟨_, rfl, by simp at e; exact e ▸ a⟩
  | _ :: _, _ :: _, i + 1, d, .cons _ r, e => by
    obtain ⟨v, h1, h2⟩ := Rps.get (i := i) r (by simpa using e)
    exact ⟨v, by simpa using h1, h2⟩
theorem Rps.getV : ∀ {vs : List V} {ds : List D} {i : Nat} {v : V}, Rps K H ad vs ds → vs[i]? = some v → ∃ d, ds[i]? = some d ∧ Rp K H ad v d
  | [], [], _, _, _, e => by simp at e
  | _ :: _, _ :: _, 0, d, .cons a _, e => ⟨_, rfl, by simp at e; exact e ▸ a⟩
  | _ :: _, _ :: _, i + 1, d, .cons _ r, e => by
    obtain ⟨v, h1, h2⟩ := Rps.getV (i := i) r (by simpa using e)
    exact ⟨v, by simpa using h1, h2⟩
theorem Rps.app : ∀ {vs ws : List V} {ds es : List D}, Rps K H ad vs ds → Rps K H ad ws es → Rps K H ad (vs ++ ws) (ds ++ es)
  | [], _, [], _, .nil, s => s
  | _ :: _, _, _ :: _, _, .cons a r, s => .cons a (Rps.app r s)
theorem Rps.take : ∀ (n : Nat) {vs : List V} {ds : List D}, Rps K H ad vs ds → Rps K H ad (vs.take n) (ds.take n)
  | 0, _, _, _ => by simp; exact .nil
  | _ + 1, [], [], _ => by simp; exact .nil
  | n + 1, _ :: _, _ :: _, .cons a r => .cons a (Rps.take n r)
theorem Rps.drop : ∀ (n : Nat) {vs : List V} {ds : List D}, Rps K H ad vs ds → Rps K H ad (vs.drop n) (ds.drop n)
  | 0, _, _, h => by simpa using h
  | _ + 1, [], [], _ => by simp; exact .nil
  | n + 1, _ :: _, _ :: _, .cons _ r => Rps.drop n r
theorem Rps.rep {vs : List V} {ds : List D} (h : Rps K H ad vs ds) : ∀ n : Nat, Rps K H ad (List.replicate n vs).flatten (List.replicate n ds).flatten
  | 0 => .nil
  | n + 1 => by
    rw [List.replicate_succ, List.replicate_succ, List.flatten_cons, List.flatten_cons]
    exact h.app (h.rep n)
theorem Rps.ints : ∀ {ns : List Int} {vs : List V}, Rps K H ad vs (ns.map D.int) → vs = ns.map V.int
  | [], _, h => by cases h; rfl
  | n :: ns, _, h => by
    cases h with
    | cons a r =>
      cases a
      rw [Rps.ints r]
      rfl
theorem rps_ints : ∀ (ns : List Int), Rps K H ad (ns.map V.int) (ns.map D.int)
  | [] => .nil
  | n :: ns => .cons (.int n) (rps_ints ns)
end
/-! ### 3. the store stands -/
mutual
/-- data without places of the store -/
def D.pure : D → Bool
  | .lst xs => D.pures xs
  | .tup xs => D.pures xs
  | .ref _ => false
  | _ => true
def D.pures : List D → Bool
  | [] => true
  | x :: xs => x.pure && D.pures xs
end
theorem pures_all : ∀ xs : List D, D.pures xs = xs.all D.pure
  | [] => rfl
  | x :: xs => by show (x.pure && D.pures xs) = _; rw [pures_all xs]; rfl
theorem pures_ints (ns : List Int) : D.pures (ns.map D.int) = true := by
  rw [pures_all, List.all_map]
  exact List.all_eq_true.mpr fun _ _ => rfl
theorem pures_app (xs ys : List D) : D.pures (xs ++ ys) = (D.pures xs && D.pures ys) := by rw [pures_all, pures_all, pures_all, List.all_append]
def SO.pure : SO → Bool
  | .dk kd => D.pures (kd.map (·.2))
  | .ml ds => D.pures ds
section
variable {K : PySem.W.Frag} {H : Hp} {ad ad' : Pl}
mutual
theorem Rp.pureTo (h : ∀ a, ad.out a → ad'.out a) : ∀ (d : D) (v : V), d.pure = true → Rp K H ad v d → Rp K H ad' v d
  | .non, _, _, r => by cases r; exact .non
  | .bl b, _, _, r => by cases r; exact .bl b
  | .int i, _, _, r => by cases r; exact .int i
  | .str x, _, _, r => by cases r; exact .str x
  | .lst ds, _, p, r => by
    cases r with
    | lst a q => exact .lst (a.elim (fun z => .inl ⟨h _ z.1, z.2⟩) .inr) (Rps.pureTo h ds _ p q)
  | .tup ds, _, p, r => by
    cases r with
    | tup a q => exact .tup (a.elim (fun z => .inl ⟨h _ z.1, z.2⟩) .inr) (Rps.pureTo h ds _ p q)
  | .ref n, _, p, _ => nomatch p
  | .ty n, _, _, r => by cases r; exact .ty n
theorem Rps.pureTo (h : ∀ a, ad.out a → ad'.out a) : ∀ (ds : List D) (vs : List V), D.pures ds = true → Rps K H ad vs ds → Rps K H ad' vs ds
  | [], _, _, r => by cases r; exact .nil
  | d :: ds, _, p, r => by
    have p' : d.pure = true ∧ D.pures ds = true := Bool.and_eq_true_iff.mp p
    cases r with
    | cons a q => exact .cons (Rp.pureTo h d _ p'.1 a) (Rps.pureTo h ds _ p'.2 q)
end
end
def KRs (K : PySem.W.Frag) (H : Hp) (ad : Pl) (kv : List (Key × V)) (kd : List (Str × D)) : Prop :=
  kv.map (·.1) = kd.map (fun p => Sum.inr p.1) ∧ Rps K H ad (kv.map (·.2)) (kd.map (·.2))
def SoAt (K : PySem.W.Frag) (H : Hp) (ad : Pl) (a : Addr) : SO → Prop
  | .dk kd => ∃ kv, H a = some (.dK kv) ∧ KRs K H ad kv kd
  | .ml ds => ∃ vs, H a = some (.lst vs) ∧ Rps K H ad vs ds
structure MuOk (K : PySem.W.Frag) (H : Hp) (ad : Pl) (μ : Mu) : Prop where
  len : ad.ad.length = μ.length
  nd : ad.ad.Nodup
  prn : ∀ b ∈ ad.pr, H b ≠ none ∧ b ∉ ad.ad
  so : ∀ (n : Nat) (a : Addr) (o : SO), ad.ad[n]? = some a → μ[n]? = some o → SoAt K H ad a o
  pur : ∀ (n : Nat) (o : SO), μ[n]? = some o → o.pure = true
/-- the state behind a step -/
structure Nx (K : PySem.W.Frag) (H : Hp) (ad : Pl) (H' : Hp) (ad' : Pl) (μ' : Mu) : Prop where
  gr : Grow H ad H' ad'
  mu : MuOk K H' ad' μ'
section
variable {K : PySem.W.Frag} {H H' H2 : Hp} {ad ad' ad2 : Pl} {μ μ' μ2 : Mu}
theorem Nx.refl (m : MuOk K H ad μ) : Nx K H ad H ad μ := ⟨.refl, m⟩
theorem Nx.trans (a : Nx K H ad H' ad' μ') (b : Nx K H' ad' H2 ad2 μ2) : Nx K H ad H2 ad2 μ2 := ⟨a.gr.trans b.gr, b.mu⟩
theorem MuOk.nn (m : MuOk K H ad μ) {a : Addr} (h : a ∈ ad.ad) : H a ≠ none := by
  obtain ⟨n, hn, e⟩ := List.getElem_of_mem h
  have e1 : ad.ad[n]? = some a := by rw [List.getElem?_eq_getElem hn, e]
  have hm : n < μ.length := by rw [← m.len]; exact hn
  have q := m.so n a μ[n] e1 (List.getElem?_eq_getElem hm)
  cases h : μ[n] with
  | dk kd => rw [h] at q; obtain ⟨_, z, _⟩ := q; rw [z]; exact fun z => nomatch z
  | ml ds => rw [h] at q; obtain ⟨_, z, _⟩ := q; rw [z]; exact fun z => nomatch z
/-- a new object at p, no place of the store -/
theorem MuOk.out (m : MuOk K H ad μ) {p : Addr} (hp : H p = none) : ad.out p := ⟨fun z => m.nn z hp, fun z => (m.prn p z).1 hp⟩
theorem Grow.new {p : Addr} {o : HO} (hp : H p = none) : Grow H ad (upd H p o) ad :=
  ⟨⟨[], Pl.add_nil.symm, by simp⟩, fun b u _ q => by rw [upd_ne (ne_of_none q hp)]; exact q, fun b q => by
    by_cases h : b = p
    · rw [h]; exact hp
    · rw [upd_ne h] at q; exact q⟩
theorem SoAt.grow (g : Grow H ad H' ad') {a : Addr} {o : SO} (h : SoAt K H ad a o) (e : H' a = H a) : SoAt K H' ad' a o := by
  cases o with
  | dk kd =>
    obtain ⟨kv, h1, h2, h3⟩ := h
    exact ⟨kv, e.trans h1, h2, Rps.grow g _ _ h3⟩
  | ml ds =>
    obtain ⟨vs, h1, h2⟩ := h
    exact ⟨vs, e.trans h1, Rps.grow g _ _ h2⟩
theorem MuOk.new (m : MuOk K H ad μ) {p : Addr} {o : HO} (hp : H p = none) : Nx K H ad (upd H p o) ad μ :=
  ⟨.new hp, m.len, m.nd, fun b hb => ⟨by rw [upd_ne fun z => (m.prn b hb).1 (by rw [z]; exact hp)]; exact (m.prn b hb).1, (m.prn b hb).2⟩, fun n a u h1 h2 => (m.so n a u h1 h2).grow (.new hp) (upd_ne fun z => m.nn (List.mem_of_getElem? h1) (by rw [z]; exact hp)), m.pur⟩
theorem Rp.newLst {p : Addr} {vs : List V} {ds : List D} (m : MuOk K H ad μ) (hp : H p = none) (r : Rps K H ad vs ds) : Rp K (upd H p (.lst vs)) ad (.ref p) (.lst ds) :=
  .lst (.inl ⟨m.out hp, .inl upd_same⟩) (Rps.grow (.new hp) _ _ r)
theorem Rp.newTup {p : Addr} {vs : List V} {ds : List D} (m : MuOk K H ad μ) (hp : H p = none) (r : Rps K H ad vs ds) : Rp K (upd H p (.tup vs)) ad (.ref p) (.tup ds) :=
  .tup (.inl ⟨m.out hp, .inl upd_same⟩) (Rps.grow (.new hp) _ _ r)
/-- a new object of the store -/
theorem MuOk.push (m : MuOk K H ad μ) {p : Addr} {o : HO} {so : SO} (hp : H p = none) (pu : so.pure = true) (h : ∀ H' ad', Grow H ad H' ad' → H' p = some o → SoAt K H' ad' p so) : Nx K H ad (upd H p o) (ad.add [p]) (μ ++ [so]) := by
  have g : Grow H ad (upd H p o) (ad.add [p]) := ⟨⟨[p], rfl, by simp [hp]⟩, fun b u _ q => by rw [upd_ne (ne_of_none q hp)]; exact q, fun b q => by
    by_cases h : b = p
    · rw [h]; exact hp
    · rw [upd_ne h] at q; exact q⟩
  have np : p ∉ ad.ad := fun z => m.nn z hp
  refine ⟨g, by simp [Pl.add, m.len], List.nodup_append.mpr ⟨m.nd, by simp, fun a ha b hb => by simp at hb; rw [hb]; exact fun z => np (z ▸ ha)⟩, fun b hb => ⟨fun z => (m.prn b hb).1 (g.live b z), fun z => ?_⟩, fun n a u h1 h2 => ?_, fun n u h2 => ?_⟩
  · rcases List.mem_append.mp z with z | z
    · exact (m.prn b hb).2 z
    · simp at z
      exact (m.prn b hb).1 (by rw [z]; exact hp)
  rotate_left
  · rcases List.mem_append.mp (List.mem_of_getElem? h2) with z | z
    · obtain ⟨j, hj, e⟩ := List.getElem_of_mem z
      exact m.pur j u (by rw [List.getElem?_eq_getElem hj, e])
    · simp at z; rw [z]; exact pu
  have h1 : (ad.ad ++ [p])[n]? = some a := h1
  by_cases hn : n < ad.ad.length
  · rw [List.getElem?_append_left hn] at h1
    rw [List.getElem?_append_left (by rw [← m.len]; exact hn)] at h2
    exact (m.so n a u h1 h2).grow g (upd_ne fun z => np (z ▸ List.mem_of_getElem? h1))
  · have hm : ad.ad.length ≤ n := Nat.le_of_not_lt hn
    rw [List.getElem?_append_right hm] at h1
    rw [List.getElem?_append_right (by rw [← m.len]; exact hm), ← m.len] at h2
    cases k : n - ad.ad.length with
    | zero =>
      rw [k] at h1 h2
      simp at h1 h2
      subst h1 h2
      exact h _ _ g upd_same
    | succ j =>
      rw [k] at h1
      simp at h1
/-- an object of the store is changed -/
theorem Grow.wr {p : Addr} {o : HO} (hp : p ∈ ad.ad) (hn : H p ≠ none) : Grow H ad (upd H p o) ad :=
  ⟨⟨[], Pl.add_nil.symm, by simp⟩, fun b u hb q => by rw [upd_ne fun z => hb (by rw [z]; exact hp)]; exact q, fun b q => by
    by_cases h : b = p
    · rw [h, upd_same] at q; cases q
    · rw [upd_ne h] at q; exact q⟩
theorem MuOk.wr (m : MuOk K H ad μ) {n : Nat} {p : Addr} {o : HO} {so : SO} (hp : ad.ad[n]? = some p) (pu : so.pure = true) (h : ∀ H', Grow H ad H' ad → H' p = some o → SoAt K H' ad p so) : Nx K H ad (upd H p o) ad (μ.set n so) := by
  have hm := List.mem_of_getElem? hp
  have g : Grow H ad (upd H p o) ad := .wr hm (m.nn hm)
  refine ⟨g, by simp [m.len], m.nd, fun b hb => ⟨fun z => (m.prn b hb).1 (g.live b z), (m.prn b hb).2⟩, fun k a u h1 h2 => ?_, fun k u h2 => ?_⟩
  rotate_left
  · by_cases hk : k = n
    · subst hk
      by_cases hl : k < μ.length
      · rw [List.getElem?_set_self hl] at h2; cases h2; exact pu
      · rw [List.getElem?_eq_none (by simpa using hl)] at h2; cases h2
    · rw [List.getElem?_set_ne (Ne.symm hk)] at h2; exact m.pur k u h2
  by_cases hk : k = n
  · subst hk
    rw [hp] at h1
    cases h1
    have hl : k < μ.length := by rw [← m.len]; exact (List.getElem?_eq_some_iff.mp hp).1
    rw [List.getElem?_set_self hl] at h2
    cases h2
    exact h _ g upd_same
  · rw [List.getElem?_set_ne (Ne.symm hk)] at h2
    refine (m.so k a u h1 h2).grow g (upd_ne fun z => hk ?_)
    subst z
    exact nd_ix m.nd h1 hp
end
/-! ### 4. the slots -/
structure Gd (K : PySem.W.Frag) (H : Hp) (ad : Pl) (σ : L2.St) (ρ : Rho) (μ : Mu) : Prop where
  mu : MuOk K H ad μ
  len : ρ.length = σ.length
  sl : ∀ (i : Nat) (d : D), ρ[i]? = some (some d) → ∃ v, σ[i]? = some (some v) ∧ Rp K H ad v d
section
variable {K : PySem.W.Frag} {H H' H2 : Hp} {ad ad' ad2 : Pl} {μ μ' μ2 : Mu} {σ : L2.St} {ρ : Rho}
theorem Gd.nx (g : Gd K H ad σ ρ μ) (n : Nx K H ad H' ad' μ') : Gd K H' ad' σ ρ μ' :=
  ⟨n.mu, g.len, fun i d e => let ⟨v, h1, h2⟩ := g.sl i d e; ⟨v, h1, Rp.grow n.gr d v h2⟩⟩
theorem Gd.set (g : Gd K H ad σ ρ μ) {v : V} {d : D} (r : Rp K H ad v d) (i : Nat) : Gd K H ad (σ.set i (some v)) (ρ.set i (some d)) μ := by
  refine ⟨g.mu, by simp [g.len], fun j e h => ?_⟩
  by_cases hj : j = i
  · subst hj
    by_cases hl : j < ρ.length
    · rw [List.getElem?_set_self hl] at h
      cases h
      exact ⟨v, by rw [List.getElem?_set_self (by rw [← g.len]; exact hl)], r⟩
    · rw [List.getElem?_eq_none (by simpa using hl)] at h
      cases h
  · rw [List.getElem?_set_ne (Ne.symm hj)] at h
    obtain ⟨w, h1, h2⟩ := g.sl j e h
    exact ⟨w, by rw [List.getElem?_set_ne (Ne.symm hj)]; exact h1, h2⟩
end
end PX
namespace PX
open PySem PySem.Spec PyProof.Rows L2
/-! ### 5. readings by evaluation -/
/-- an exception's object: its class by the module's name, its own dict -/
def Xp (mg : Str → Option Value) (K : PySem.W.Frag) (H : Hp) (ad : Pl) (x : Xn) (cls : Value) (dd : Option Addr) : Prop :=
  ∃ C : Addr, mg x.c = some (.ref C) ∧ cls = .ref C ∧ (x.fs = [] ∨ ∃ (a : Addr) (fv : List (Str × V)), dd = some a ∧ H a = some (.xd fv) ∧ ad.out a ∧ fv.map (·.1) = x.fs.map (·.1) ∧ Rps K H ad (fv.map (·.2)) (x.fs.map (·.2)))
/-- the fixed things around an evaluation -/
structure Wd where
  K : PySem.W.Frag
  mg : Str → Option Value
  W : WX
  n : Nat
variable {Z : Wd}
def KE (Z : Wd) (H : Hp) (ad : Pl) (Q : VK) : D → Mu → Prop := fun d μ' => ∀ v H' ad', Nx Z.K H ad H' ad' μ' → Rp Z.K H' ad' v d → Q v H'
def KA (Z : Wd) (H : Hp) (ad : Pl) (Q : List V → Hp → Prop) : List D → Mu → Prop := fun ds μ' => ∀ vs H' ad', Nx Z.K H ad H' ad' μ' → Rps Z.K H' ad' vs ds → Q vs H'
def KT (Z : Wd) (H : Hp) (ad : Pl) (Q : Bool → Hp → Prop) : Bool → Mu → Prop := fun b μ' => ∀ H' ad', Nx Z.K H ad H' ad' μ' → Q b H'
def XW (Z : Wd) (H : Hp) (ad : Pl) : Xn → Mu → Prop := fun x μ' => ∀ cls dd σ' H' ad', σ'.length = Z.n → Nx Z.K H ad H' ad' μ' → Xp Z.mg Z.K H' ad' x cls dd → Z.W cls dd σ' H'
inductive Fl where
  | nx (ρ : Rho) | rt (d : D) | bk (ρ : Rho) | ct (ρ : Rho)
def KS (Z : Wd) (H : Hp) (ad : Pl) (E : Ends) : Fl → Mu → Prop := fun f μ' => match f with
  | .nx ρ' => ∀ σ' H' ad', Nx Z.K H ad H' ad' μ' → Gd Z.K H' ad' σ' ρ' μ' → σ'.length = Z.n → E.nx σ' H'
  | .rt d => ∀ v H' ad', Nx Z.K H ad H' ad' μ' → Rp Z.K H' ad' v d → E.rt v H'
  | .bk ρ' => ∀ σ' H' ad', Nx Z.K H ad H' ad' μ' → Gd Z.K H' ad' σ' ρ' μ' → σ'.length = Z.n → E.bk σ' H'
  | .ct ρ' => ∀ σ' H' ad', Nx Z.K H ad H' ad' μ' → Gd Z.K H' ad' σ' ρ' μ' → σ'.length = Z.n → E.ct σ' H'
def tE (Z : Wd) (m : Rho → M D) : TE := fun σ H Q => ∃ ad ρ μ, Gd Z.K H ad σ ρ μ ∧ σ.length = Z.n ∧ Sat (m ρ μ) (KE Z H ad Q) (XW Z H ad)
def tA (Z : Wd) (m : Rho → M (List D)) : TA := fun σ H Q => ∃ ad ρ μ, Gd Z.K H ad σ ρ μ ∧ σ.length = Z.n ∧ Sat (m ρ μ) (KA Z H ad Q) (XW Z H ad)
def tT (Z : Wd) (m : Rho → M Bool) : TT := fun σ H Q => ∃ ad ρ μ, Gd Z.K H ad σ ρ μ ∧ σ.length = Z.n ∧ Sat (m ρ μ) (KT Z H ad Q) (XW Z H ad)
def tS (Z : Wd) (m : Rho → M Fl) : TS := fun E σ H => ∃ ad ρ μ, Gd Z.K H ad σ ρ μ ∧ σ.length = Z.n ∧ Sat (m ρ μ) (KS Z H ad E) (XW Z H ad)
section
variable {H H1 : Hp} {ad ad1 : Pl} {μ μ1 μ2 : Mu} {σ : L2.St} {ρ : Rho}
theorem KE.nx {Q : VK} {d : D} (n : Nx Z.K H ad H1 ad1 μ1) (h : KE Z H ad Q d μ2) : KE Z H1 ad1 Q d μ2 := fun v H' ad' n' r => h v H' ad' (n.trans n') r
theorem KA.nx {Q : List V → Hp → Prop} {d : List D} (n : Nx Z.K H ad H1 ad1 μ1) (h : KA Z H ad Q d μ2) : KA Z H1 ad1 Q d μ2 := fun v H' ad' n' r => h v H' ad' (n.trans n') r
theorem KT.nx {Q : Bool → Hp → Prop} {d : Bool} (n : Nx Z.K H ad H1 ad1 μ1) (h : KT Z H ad Q d μ2) : KT Z H1 ad1 Q d μ2 := fun H' ad' n' => h H' ad' (n.trans n')
theorem XW.nx {x : Xn} (n : Nx Z.K H ad H1 ad1 μ1) (h : XW Z H ad x μ2) : XW Z H1 ad1 x μ2 := fun c d σ' H' ad' l n' r => h c d σ' H' ad' l (n.trans n') r
theorem KS.nx {E : Ends} {f : Fl} (n : Nx Z.K H ad H1 ad1 μ1) (h : KS Z H ad E f μ2) : KS Z H1 ad1 E f μ2 := by
  cases f with
  | nx ρ' => exact fun σ' H' ad' n' r => h σ' H' ad' (n.trans n') r
  | rt d => exact fun v H' ad' n' r => h v H' ad' (n.trans n') r
  | bk ρ' => exact fun σ' H' ad' n' r => h σ' H' ad' (n.trans n') r
  | ct ρ' => exact fun σ' H' ad' n' r => h σ' H' ad' (n.trans n') r
/-- the wish behind a first part -/
theorem step {α : Type} {m : Rho → M D} {k : D → M α} {L : α → Mu → Prop} {Q1 : VK} (g : Gd Z.K H ad σ ρ μ) (hl : σ.length = Z.n) (h : Sat (bd (m ρ) k μ) L (XW Z H ad))
    (hk : ∀ v d H1 ad1 μ1, Nx Z.K H ad H1 ad1 μ1 → Gd Z.K H1 ad1 σ ρ μ1 → Rp Z.K H1 ad1 v d → Sat (k d μ1) L (XW Z H1 ad1) → Q1 v H1) : tE Z m σ H Q1 :=
  ⟨ad, ρ, μ, g, hl, (sat_bd.mp h).imp fun d μ1 q v H1 ad1 n r => hk v d H1 ad1 μ1 n (g.nx n) r (q.mono (fun _ _ z => z) fun _ _ z => z.nx n)⟩
theorem stepA {α : Type} {m : Rho → M (List D)} {k : List D → M α} {L : α → Mu → Prop} {Q1 : List V → Hp → Prop} (g : Gd Z.K H ad σ ρ μ) (hl : σ.length = Z.n) (h : Sat (bd (m ρ) k μ) L (XW Z H ad))
    (hk : ∀ v d H1 ad1 μ1, Nx Z.K H ad H1 ad1 μ1 → Gd Z.K H1 ad1 σ ρ μ1 → Rps Z.K H1 ad1 v d → Sat (k d μ1) L (XW Z H1 ad1) → Q1 v H1) : tA Z m σ H Q1 :=
  ⟨ad, ρ, μ, g, hl, (sat_bd.mp h).imp fun d μ1 q v H1 ad1 n r => hk v d H1 ad1 μ1 n (g.nx n) r (q.mono (fun _ _ z => z) fun _ _ z => z.nx n)⟩
theorem stepT {α : Type} {m : Rho → M Bool} {k : Bool → M α} {L : α → Mu → Prop} {Q1 : Bool → Hp → Prop} (g : Gd Z.K H ad σ ρ μ) (hl : σ.length = Z.n) (h : Sat (bd (m ρ) k μ) L (XW Z H ad))
    (hk : ∀ b H1 ad1 μ1, Nx Z.K H ad H1 ad1 μ1 → Gd Z.K H1 ad1 σ ρ μ1 → Sat (k b μ1) L (XW Z H1 ad1) → Q1 b H1) : tT Z m σ H Q1 :=
  ⟨ad, ρ, μ, g, hl, (sat_bd.mp h).imp fun d μ1 q H1 ad1 n => hk d H1 ad1 μ1 n (g.nx n) (q.mono (fun _ _ z => z) fun _ _ z => z.nx n)⟩
end
theorem PEi {X : Cx} {e : Expr} {t t' : TE} (h : PE X e t) (w : ∀ σ H Q, t' σ H Q → t σ H Q) : PE X e t' := ⟨fun pins s σ H Q I q => h.run pins s σ H Q I (w σ H Q q)⟩
theorem PTi {X : Cx} {e : Expr} {t t' : TT} (h : PT X e t) (w : ∀ σ H Q, t' σ H Q → t σ H Q) : PT X e t' := ⟨fun pins s σ H Q I q => h.run pins s σ H Q I (w σ H Q q)⟩
theorem PWi {X : Cx} {e : Expr} {t t' : TT} (h : PW X e t) (w : ∀ σ H Q, t' σ H Q → t σ H Q) : PW X e t' := ⟨fun wh pins s σ H Q I q => h.run wh pins s σ H Q I (w σ H Q q)⟩
theorem PAi {X : Cx} {e : List Expr} {t t' : TA} (h : PA X e t) (w : ∀ σ H Q, t' σ H Q → t σ H Q) : PA X e t' := ⟨fun pos pins s σ H Q I q => h.run pos pins s σ H Q I (w σ H Q q)⟩
theorem PSi {X : Cx} {e : Stmt} {t t' : TS} (h : PS X e t) (w : ∀ D σ H, t' D σ H → t D σ H) : PS X e t' := ⟨fun pins s σ H Q I q => h.run pins s σ H Q I (w Q σ H q)⟩
theorem PSsi {X : Cx} {e : List Stmt} {t t' : TS} (h : PSs X e t) (w : ∀ D σ H, t' D σ H → t D σ H) : PSs X e t' := ⟨fun pins s σ H Q I q => h.run pins s σ H Q I (w Q σ H q)⟩
/-! ### 6. names, constants, operators -/
def gV (i : Nat) (ρ : Rho) : M D := lft (ρ[i]?.join)
theorem x_var {X : Cx} {i : Nat} {x : Str} {pos : Pos} (hN : X.N[i]? = some x) (hv : Vis X.env.scope x) (hd : (x == ("__debug__" : Str)) = false) (hcd : (x == ("__classdict__" : Str)) = false) :
    PE X (.Name x pos) (tE Z (gV i)) := PEi (pe_var hN hv hd hcd) fun σ H Q ⟨ad, ρ, μ, g, hl, h⟩ => by
  obtain ⟨d, e, q⟩ := sat_lft.mp h
  have e' : ρ[i]? = some (some d) := by
    cases k : ρ[i]? with
    | none => rw [k] at e; cases e
    | some o => rw [k] at e; exact congrArg some e
  obtain ⟨v, h1, h2⟩ := g.sl i d e'
  exact ⟨v, h1, q v H ad (.refl g.mu) h2⟩
def scD : D → Bool
  | .non => true | .bl _ => true | .int _ => true | .str _ => true | _ => false
def scV : D → V
  | .non => .non | .bl b => .bl b | .int i => .int i | .str x => .str x | _ => .non
theorem x_con {X : Cx} {e : Expr} {v : V} {d : D} (h : PE X e (tC v)) (r : ∀ H ad, Rp Z.K H ad v d) : PE X e (tE Z fun _ => rt d) :=
  PEi h fun σ H Q ⟨ad, ρ, μ, g, hl, q⟩ => q v H ad (.refl g.mu) (r H ad)
/-- an operation on values is what the operation on data says -/
def V1 (Z : Wd) (r : V → Hp → VK → Prop) (f : D → M D) : Prop := ∀ (x : V) (d : D) (H : Hp) (ad : Pl) (μ : Mu) (Q : VK), MuOk Z.K H ad μ → Rp Z.K H ad x d → Sat (f d μ) (KE Z H ad Q) (XW Z H ad) → r x H Q
def V2 (Z : Wd) (r : R2) (f : D → D → M D) : Prop := ∀ (x y : V) (d e : D) (H : Hp) (ad : Pl) (μ : Mu) (Q : VK), MuOk Z.K H ad μ → Rp Z.K H ad x d → Rp Z.K H ad y e → Sat (f d e μ) (KE Z H ad Q) (XW Z H ad) → r x y H Q
def VA (Z : Wd) (r : List V → Hp → VK → Prop) (f : List D → M D) : Prop := ∀ (xs : List V) (ds : List D) (H : Hp) (ad : Pl) (μ : Mu) (Q : VK), MuOk Z.K H ad μ → Rps Z.K H ad xs ds → Sat (f ds μ) (KE Z H ad Q) (XW Z H ad) → r xs H Q
section
variable {X : Cx} {a b : Expr} {ma mb : Rho → M D} {pos : Pos}
theorem t_op {r : R2} {f : D → D → M D} (hf : V2 Z r f) : ∀ (σ : L2.St) (H : Hp) (Q : VK), tE Z (fun ρ => bd (ma ρ) fun x => bd (mb ρ) fun y => f x y) σ H Q → tOp r (tE Z ma) (tE Z mb) σ H Q :=
  fun σ H Q ⟨ad, ρ, μ, g, hl, h⟩ => step g hl h fun v d H1 ad1 μ1 n1 g1 r1 q1 => step g1 hl q1 fun w e H2 ad2 μ2 n2 g2 r2 q2 =>
    hf v w d e H2 ad2 μ2 Q n2.mu (Rp.grow n2.gr d v r1) r2 (q2.imp fun _ _ z => z.nx (n1.trans n2))
theorem x_op {op : Operator} {r : R2} {f : D → D → M D} (ho : OpR X (binaryOp op) r) (hf : V2 Z r f) (ha : PE X a (tE Z ma)) (hb : PE X b (tE Z mb)) :
    PE X (.BinOp a op b pos) (tE Z fun ρ => bd (ma ρ) fun x => bd (mb ρ) fun y => f x y) := PEi (pe_op ho ha hb) (t_op hf)
theorem x_cmp {op : CmpOp} {r : R2} {f : D → D → M D} (ho : OpR X (compareOp op) r) (hf : V2 Z r f) (ha : PE X a (tE Z ma)) (hb : PE X b (tE Z mb)) (hm : behindInMarks op b = false) :
    PE X (.Compare a [op] [b] pos) (tE Z fun ρ => bd (ma ρ) fun x => bd (mb ρ) fun y => f x y) := PEi (pe_cmpR ho ha hb hm) (t_op hf)
def asB : D → M Bool
  | .bl b => rt b
  | _ => stk
theorem t_test : ∀ (σ : L2.St) (H : Hp) (Q : Bool → Hp → Prop), tT Z (fun ρ => bd (ma ρ) asB) σ H Q → tTest (tE Z ma) σ H Q :=
  fun σ H Q ⟨ad, ρ, μ, g, hl, h⟩ => step g hl h fun v d H1 ad1 μ1 n1 g1 r1 q1 => by
    cases d with
    | bl k =>
      cases r1
      exact ⟨k, rfl, q1 H1 ad1 n1⟩
    | _ => exact q1.elim
theorem x_tcmp {op : CmpOp} {r : R2} {f : D → D → M D} (ho : OpR X (compareOp op) r) (hf : V2 Z r f) (ha : PE X a (tE Z ma)) (hb : PE X b (tE Z mb)) (hm : behindInMarks op b = false) :
    PT X (.Compare a [op] [b] pos) (tT Z fun ρ => bd (bd (ma ρ) fun x => bd (mb ρ) fun y => f x y) asB) := by
  refine PTi (pt_cmpR ho ha hb hm) fun σ H Q h => ?_
  obtain ⟨ad, ρ, μ, g, hl, h⟩ := h
  refine t_op hf σ H _ ⟨ad, ρ, μ, g, hl, (sat_bd.mp h).imp fun d μ1 q v H1 ad1 n r => ?_⟩
  cases d with
  | bl k =>
    cases r
    exact ⟨k, rfl, q H1 ad1 n⟩
  | _ => exact q.elim
theorem x_test (h : PE X a (tE Z ma)) (he : ∀ whole, isTrue a X.env whole = (do let v ← whole; standAt a.pos; holding [v] (truthy v))) : PT X a (tT Z fun ρ => bd (ma ρ) asB) :=
  PTi (pt_val h he) fun σ H Q ⟨ad, ρ, μ, g, hl, h⟩ => step g hl h fun v d H1 ad1 μ1 n1 g1 r1 q1 => by
    cases d with
    | bl k =>
      cases r1
      exact ⟨k, rfl, q1 H1 ad1 n1⟩
    | _ => exact q1.elim
theorem x_un {op : UnaryOp} {r : V → Hp → VK → Prop} {f : D → M D} (ho : UnR X (unaryOp op) r) (hf : V1 Z r f) (ha : PE X a (tE Z ma)) : PE X (.UnaryOp op a pos) (tE Z fun ρ => bd (ma ρ) f) :=
  PEi (pe_un ho ha) fun σ H Q ⟨ad, ρ, μ, g, hl, h⟩ => step g hl h fun v d H1 ad1 μ1 n1 g1 r1 q1 => hf v d H1 ad1 μ1 Q n1.mu r1 (q1.imp fun _ _ z => z.nx n1)
/-! truth values joined -/
def ifB {α : Type} (c : M Bool) (x y : M α) : M α := bd c fun b => if b then x else y
variable {tm um : Rho → M Bool} {rest : List Expr}
theorem x_tnot (h : PT X a (tT Z tm)) : PT X (.UnaryOp .Not a pos) (tT Z fun ρ => bd (tm ρ) fun b => rt (!b)) :=
  PTi (pt_not h) fun σ H Q ⟨ad, ρ, μ, g, hl, h⟩ => stepT g hl h fun b H1 ad1 μ1 n1 g1 q1 => q1 H1 ad1 n1
theorem x_wand (h : PT X a (tT Z tm)) (k : PW X (.BoolOp .And (b :: rest) pos) (tT Z um)) : PW X (.BoolOp .And (a :: b :: rest) pos) (tT Z fun ρ => ifB (tm ρ) (um ρ) (rt false)) :=
  PWi (pw_and h k) fun σ H Q ⟨ad, ρ, μ, g, hl, h⟩ => stepT g hl h fun b H1 ad1 μ1 n1 g1 q1 => by
    cases b with
    | true => exact iteT ⟨ad1, ρ, μ1, g1, hl, q1.imp fun _ _ z => z.nx n1⟩
    | false => exact iteF (q1 H1 ad1 n1)
theorem x_wor (h : PT X a (tT Z tm)) (k : PW X (.BoolOp .Or (b :: rest) pos) (tT Z um)) : PW X (.BoolOp .Or (a :: b :: rest) pos) (tT Z fun ρ => ifB (tm ρ) (rt true) (um ρ)) :=
  PWi (pw_or h k) fun σ H Q ⟨ad, ρ, μ, g, hl, h⟩ => stepT g hl h fun b H1 ad1 μ1 n1 g1 q1 => by
    cases b with
    | false => exact iteF ⟨ad1, ρ, μ1, g1, hl, q1.imp fun _ _ z => z.nx n1⟩
    | true => exact iteT (q1 H1 ad1 n1)
theorem x_wand1 (h : PT X a (tT Z tm)) : PW X (.BoolOp .And [a] pos) (tT Z tm) := pw_and1 h
theorem x_wor1 (h : PT X a (tT Z tm)) : PW X (.BoolOp .Or [a] pos) (tT Z tm) := pw_or1 h
/-! .. as values -/
theorem x_and (ha : PE X a (tE Z ma)) (hb : PE X (.BoolOp .And (b :: rest) pos) (tE Z mb)) : PE X (.BoolOp .And (a :: b :: rest) pos) (tE Z fun ρ => ifB (bd (ma ρ) asB) (mb ρ) (rt (.bl false))) :=
  PEi (pe_and ha hb) fun σ H Q ⟨ad, ρ, μ, g, hl, h⟩ => by
    have h' : Sat (bd (ma ρ) (fun d => bd (asB d) fun b => if b = true then mb ρ else rt (.bl false)) μ) (KE Z H ad Q) (XW Z H ad) := by
      refine sat_bd.mpr ((sat_bd.mp (sat_bd.mp h)).imp fun d μ1 q => ?_)
      exact sat_bd.mpr q
    exact step g hl h' fun v d H1 ad1 μ1 n1 g1 r1 q1 => by
      cases d with
      | bl k =>
        cases r1
        refine ⟨k, rfl, ?_⟩
        cases k with
        | true => exact iteT ⟨ad1, ρ, μ1, g1, hl, q1.imp fun _ _ z => z.nx n1⟩
        | false => exact iteF (q1 _ H1 ad1 n1 (.bl false))
      | _ => exact q1.elim
theorem x_or (ha : PE X a (tE Z ma)) (hb : PE X (.BoolOp .Or (b :: rest) pos) (tE Z mb)) : PE X (.BoolOp .Or (a :: b :: rest) pos) (tE Z fun ρ => ifB (bd (ma ρ) asB) (rt (.bl true)) (mb ρ)) :=
  PEi (pe_or ha hb) fun σ H Q ⟨ad, ρ, μ, g, hl, h⟩ => by
    have h' : Sat (bd (ma ρ) (fun d => bd (asB d) fun b => if b = true then rt (.bl true) else mb ρ) μ) (KE Z H ad Q) (XW Z H ad) := by
      refine sat_bd.mpr ((sat_bd.mp (sat_bd.mp h)).imp fun d μ1 q => ?_)
      exact sat_bd.mpr q
    exact step g hl h' fun v d H1 ad1 μ1 n1 g1 r1 q1 => by
      cases d with
      | bl k =>
        cases r1
        refine ⟨k, rfl, ?_⟩
        cases k with
        | false => exact iteF ⟨ad1, ρ, μ1, g1, hl, q1.imp fun _ _ z => z.nx n1⟩
        | true => exact iteT (q1 _ H1 ad1 n1 (.bl true))
      | _ => exact q1.elim
theorem x_not (ha : PE X a (tE Z ma)) : PE X (.UnaryOp .Not a pos) (tE Z fun ρ => bd (ma ρ) fun d => bd (asB d) fun b => rt (.bl (!b))) :=
  PEi (pe_not ha) fun σ H Q ⟨ad, ρ, μ, g, hl, h⟩ => step g hl h fun v d H1 ad1 μ1 n1 g1 r1 q1 => by
    cases d with
    | bl k =>
      cases r1
      exact ⟨k, rfl, q1 _ H1 ad1 n1 (.bl _)⟩
    | _ => exact q1.elim
theorem x_ife {c : Expr} (hc : PT X c (tT Z tm)) (ha : PE X a (tE Z ma)) (hb : PE X b (tE Z mb)) : PE X (.IfExp c a b pos) (tE Z fun ρ => ifB (tm ρ) (ma ρ) (mb ρ)) :=
  PEi (pe_ifExp hc ha hb) fun σ H Q ⟨ad, ρ, μ, g, hl, h⟩ => stepT g hl h fun b H1 ad1 μ1 n1 g1 q1 => by
    cases b with
    | true => exact iteT ⟨ad1, ρ, μ1, g1, hl, q1.imp fun _ _ z => z.nx n1⟩
    | false => exact iteF ⟨ad1, ρ, μ1, g1, hl, q1.imp fun _ _ z => z.nx n1⟩
/-! ### 7. arguments, displays, calls of built-ins -/
def evA (ms : List (Rho → M D)) (ρ : Rho) : M (List D) := match ms with
  | [] => rt []
  | m :: r => bd (m ρ) fun d => bd (evA r ρ) fun ds => rt (d :: ds)
theorem x_nil : PA X [] (tA Z (evA [])) := PAi pa_nil fun σ H Q ⟨ad, ρ, μ, g, hl, h⟩ => h [] H ad (.refl g.mu) .nil
theorem x_cons {es : List Expr} {ms : List (Rho → M D)} (ha : PE X a (tE Z ma)) (hr : PA X es (tA Z (evA ms))) (hs : starEach (a :: es) X.env = (false, eval a X.env) :: starEach es X.env) : PA X (a :: es) (tA Z (evA (ma :: ms))) :=
  PAi (pa_cons ha hr hs) fun σ H Q ⟨ad, ρ, μ, g, hl, h⟩ => step g hl h fun v d H1 ad1 μ1 n1 g1 r1 q1 => stepA g1 hl q1 fun vs ds H2 ad2 μ2 n2 g2 r2 q2 =>
    q2 (v :: vs) H2 ad2 (n1.trans n2) (.cons (Rp.grow n2.gr d v r1) r2)
variable {es : List Expr} {ms : List (Rho → M D)}
def mkT (ds : List D) : M D := if ds.length ≤ 1000000 then rt (.tup ds) else stk
def mkL (ds : List D) : M D := if ds.length ≤ 1000000 then rt (.lst ds) else stk
theorem million {n : Nat} (h : n ≤ 1000000) : n ≤ sizeLine := by rw [sizeLine_eq]; omega
theorem mkT_ok {ds : List D} {vs : List V} {H : Hp} {ad : Pl} {μ : Mu} {Q : VK} (m : MuOk Z.K H ad μ) (r : Rps Z.K H ad vs ds) (h : Sat (mkT ds μ) (KE Z H ad Q) (XW Z H ad)) :
    vs.length ≤ sizeLine ∧ ∀ p, H p = none → Q (.ref p) (upd H p (.tup vs)) := by
  unfold mkT at h
  by_cases hz : ds.length ≤ 1000000
  · rw [if_pos hz] at h
    exact ⟨by rw [r.length]; exact million hz, fun p hp => h (.ref p) _ ad (m.new hp) (.newTup m hp r)⟩
  · rw [if_neg hz] at h
    exact h.elim
theorem mkL_ok {ds : List D} {vs : List V} {H : Hp} {ad : Pl} {μ : Mu} {Q : VK} (m : MuOk Z.K H ad μ) (r : Rps Z.K H ad vs ds) (h : Sat (mkL ds μ) (KE Z H ad Q) (XW Z H ad)) :
    vs.length ≤ sizeLine ∧ ∀ p, H p = none → Q (.ref p) (upd H p (.lst vs)) := by
  unfold mkL at h
  by_cases hz : ds.length ≤ 1000000
  · rw [if_pos hz] at h
    exact ⟨by rw [r.length]; exact million hz, fun p hp => h (.ref p) _ ad (m.new hp) (.newLst m hp r)⟩
  · rw [if_neg hz] at h
    exact h.elim
theorem x_tup {x1 : Nat} (h : PA X es (tA Z (evA ms))) : PE X (.Tuple es x1 pos) (tE Z fun ρ => bd (evA ms ρ) mkT) :=
  PEi (pe_tup h) fun σ H Q ⟨ad, ρ, μ, g, hl, h⟩ => stepA g hl h fun vs ds H1 ad1 μ1 n1 g1 r1 q1 => mkT_ok n1.mu r1 (q1.imp fun _ _ z => z.nx n1)
theorem x_lst (h : PA X es (tA Z (evA ms))) : PE X (.List es pos) (tE Z fun ρ => bd (evA ms ρ) mkL) :=
  PEi (pe_lst h) fun σ H Q ⟨ad, ρ, μ, g, hl, h⟩ => stepA g hl h fun vs ds H1 ad1 μ1 n1 g1 r1 q1 => mkL_ok n1.mu r1 (q1.imp fun _ _ z => z.nx n1)
theorem t_cb {r : List V → Hp → VK → Prop} {f : List D → M D} (hf : VA Z r f) : ∀ (σ : L2.St) (H : Hp) (Q : VK), tE Z (fun ρ => bd (evA ms ρ) f) σ H Q → tCB r (tA Z (evA ms)) σ H Q :=
  fun σ H Q ⟨ad, ρ, μ, g, hl, h⟩ => stepA g hl h fun vs ds H1 ad1 μ1 n1 g1 r1 q1 => hf vs ds H1 ad1 μ1 Q n1.mu r1 (q1.imp fun _ _ z => z.nx n1)
theorem x_callB {id : String} {x : Str} {r : List V → Hp → VK → Prop} {f : List D → M D} {p : Pos} (hc : CallR X (.builtin id) r) (hf : VA Z r f) (hg : Gl X x) (hm : X.mg x = none) (hv : bootBuiltins x = some (.builtin id)) (ha : PA X (a :: es) (tA Z (evA ms))) (hn : x ≠ "__name__") (hdb : (x == ("__debug__" : Str)) = false)
    (he : starEach (a :: es) X.env = (false, eval a X.env) :: starEach es X.env) (hpl : (backTo pos (starEach es X.env)).any (·.1) = false) : PE X (.Call (.Name x p) (a :: es) [] pos) (tE Z fun ρ => bd (evA ms ρ) f) :=
  PEi (pe_callB hc hg hm hv ha hn hdb he hpl) (t_cb hf)
theorem x_callTy {T : String} {x : Str} {r : List V → Hp → VK → Prop} {f : List D → M D} {p : Pos} (hc : CallR X (.type T) r) (hf : VA Z r f) (hg : Gl X x) (hm : X.mg x = none) (hv : bootBuiltins x = some (.type T)) (ha : PA X (a :: es) (tA Z (evA ms))) (hn : x ≠ "__name__") (hdb : (x == ("__debug__" : Str)) = false)
    (he : starEach (a :: es) X.env = (false, eval a X.env) :: starEach es X.env) (hpl : (backTo pos (starEach es X.env)).any (·.1) = false) : PE X (.Call (.Name x p) (a :: es) [] pos) (tE Z fun ρ => bd (evA ms ρ) f) :=
  PEi (pe_callTy hc hg hm hv ha hn hdb he hpl) (t_cb hf)
theorem x_ix {r : R2} {f : D → D → M D} (hr : IxR X r) (hf : V2 Z r f) (ha : PE X a (tE Z ma)) (hb : PE X b (tE Z mb)) (hs : PlainIx b) : PE X (.Subscript a b pos) (tE Z fun ρ => bd (ma ρ) fun x => bd (mb ρ) fun y => f x y) :=
  PEi (pe_ix hr ha hb hs) (t_op hf)
end
end PX
namespace PX
open PySem PySem.Spec PyProof.Rows L2
/-! ### 8. data as the library's data -/
mutual
def D.pd : D → PyData
  | .non => .none
  | .bl b => .bool b
  | .int i => .int i
  | .str x => .str x
  | .lst xs => .list (D.pds xs)
  | .tup xs => .tuple (D.pds xs)
  | .ref _ => .dict []
  | .ty _ => .dict []
def D.pds : List D → List PyData
  | [] => []
  | x :: xs => x.pd :: D.pds xs
end
/-- the items of a list: a standing one, one of the store -/
def mlAt (μ : Mu) (n : Nat) : Option (List D) := match μ[n]? with
  | some (.ml ds) => some ds
  | _ => none
def asL (μ : Mu) : D → Option (List D)
  | .lst ds => some ds
  | .ref n => mlAt μ n
  | _ => none
def asQ (μ : Mu) : D → Option (List D)
  | .tup ds => some ds
  | d => asL μ d
def pdm (μ : Mu) (d : D) : PyData := match d with
  | .ref n => match μ[n]? with
    | some (.ml ds) => .list (D.pds ds)
    | _ => .dict []
  | d => d.pd
section
variable {K : PySem.W.Frag} {H : Hp} {ad : Pl} {μ : Mu}
theorem asL_ok (m : MuOk K H ad μ) {x : V} {d : D} {ds : List D} (r : Rp K H ad x d) (h : asL μ d = some ds) : ∃ a vs, x = .ref a ∧ SqL K H a vs ∧ Rps K H ad vs ds := by
  cases d with
  | lst es =>
    cases h
    cases r with
    | lst a r => exact ⟨_, _, rfl, a.sq, r⟩
  | ref n =>
    cases r with
    | ref e =>
      have h : mlAt μ n = some ds := h
      unfold mlAt at h
      cases k : μ[n]? with
      | none => rw [k] at h; cases h
      | some o =>
        rw [k] at h
        cases o with
        | dk kd => cases h
        | ml es =>
          cases h
          obtain ⟨vs, h1, h2⟩ := m.so n _ _ e k
          exact ⟨_, vs, rfl, .inl (.inl h1), h2⟩
  | _ => cases h
theorem asQ_ok (m : MuOk K H ad μ) {x : V} {d : D} {ds : List D} (r : Rp K H ad x d) (h : asQ μ d = some ds) : ∃ a vs, x = .ref a ∧ (SqL K H a vs ∨ SqT K H a vs) ∧ Rps K H ad vs ds := by
  by_cases k : ∃ es, d = .tup es
  · obtain ⟨es, rfl⟩ := k
    cases h
    cases r with
    | tup a r => exact ⟨_, _, rfl, .inr a.sq, r⟩
  · have h' : asL μ d = some ds := by
      cases d with
      | tup es => exact absurd ⟨es, rfl⟩ k
      | _ => exact h
    obtain ⟨a, vs, h1, h2, h3⟩ := asL_ok m r h'
    exact ⟨a, vs, h1, .inl h2, h3⟩
mutual
theorem dp_of : ∀ (d : D) (v : V), Rp K H ad v d → d.pd.canLay0 = true → Dp K H v d.pd
  | .non, _, h, _ => by cases h; exact .non
  | .bl b, _, h, _ => by cases h; exact .bl b
  | .int i, _, h, _ => by cases h; exact .int i
  | .str x, _, h, _ => by cases h; exact .str x
  | .lst ds, _, h, c => by
    cases h with
    | lst a r => exact .lst a.sq (dps_of ds _ r (by simpa only [D.pd, PyData.canLay0] using c))
  | .tup ds, _, h, c => by
    cases h with
    | tup a r => exact .tup a.sq (dps_of ds _ r (by simpa only [D.pd, PyData.canLay0] using c))
  | .ref n, _, _, c => by simp only [D.pd, PyData.canLay0] at c; exact nomatch c
  | .ty n, _, _, c => by simp only [D.pd, PyData.canLay0] at c; exact nomatch c
theorem dps_of : ∀ (ds : List D) (vs : List V), Rps K H ad vs ds → PyData.canLayAll0 (D.pds ds) = true → DpAll K H vs (D.pds ds)
  | [], _, h, _ => by cases h; exact .nil
  | d :: ds, _, h, c => by
    have c' : d.pd.canLay0 = true ∧ PyData.canLayAll0 (D.pds ds) = true := by simpa only [D.pds, PyData.canLayAll0, Bool.and_eq_true] using c
    cases h with
    | cons a r => exact .cons (dp_of d _ a c'.1) (dps_of ds _ r c'.2)
end
theorem dpm_of (m : MuOk K H ad μ) {d : D} {v : V} (r : Rp K H ad v d) (c : (pdm μ d).canLay0 = true) : Dp K H v (pdm μ d) := by
  by_cases k : ∃ n, d = .ref n
  · obtain ⟨n, rfl⟩ := k
    unfold pdm at c ⊢
    simp only at c ⊢
    cases r with
    | ref e =>
      cases q : μ[n]? with
      | none => rw [q] at c; simp only [PyData.canLay0] at c; exact nomatch c
      | some o =>
        rw [q] at c
        cases o with
        | dk kd => simp only [PyData.canLay0] at c; exact nomatch c
        | ml es =>
          obtain ⟨vs, h1, h2⟩ := m.so n _ _ e q
          exact .lst (.inl (.inl h1)) (dps_of es vs h2 (by simpa only [PyData.canLay0] using c))
  · have e : pdm μ d = d.pd := by
      cases d with
      | ref n => exact absurd ⟨n, rfl⟩ k
      | _ => rfl
    rw [e] at c ⊢
    exact dp_of d v r c
end
/-! the length of a data's text -/
mutual
def nodes : PyData → Nat
  | .str x => x.cps.size
  | .list xs => nodesAll xs
  | .tuple xs => nodesAll xs
  | .dict _ => 0
  | .int _ => 0
  | .none => 0
  | .bool _ => 0
def nodesAll : List PyData → Nat
  | [] => 0
  | x :: xs => nodes x + 1 + nodesAll xs
end
mutual
theorem shown_short : ∀ d : PyData, d.canLay0 = true → d.showable = true → d.shown.length ≤ 1923 * nodes d + 1921
  | .none, _, _ => by have e : (PyData.shown .none).length = 4 := rfl; omega
  | .bool b, _, _ => by have e : (PyData.shown (.bool b)).length ≤ 5 := by cases b <;> decide
                        omega
  | .int i, _, h => by
    have hz : i.natAbs.log2 < 1920 := by simpa only [PyData.showable, decide_eq_true_eq] using h
    have e := int_text_length_le (k := 1920) (by decide) hz
    have e2 : (PyData.shown (.int i)).length = (toString i).length := by rw [PyData.shown_int, PySem.ofString_length]
    omega
  | .str x, c, _ => by
    have h1 : ∀ c ∈ x.cps.toList, c < 16 ^ 8 := by
      intro y hy
      have h0 : x.cps.all (· < 0x110000) = true := by simpa only [PyData.canLay0, PyData.strOk] using c
      have h2 := (Array.all_eq_true_iff_forall_mem.mp h0) y (Array.mem_toList_iff.mp hy)
      have h3 : y < 0x110000 := by simpa using h2
      exact Nat.lt_of_lt_of_le h3 (by decide)
    have e := StrLaws.reprText_len x h1
    have e2 : x.length = x.cps.size := rfl
    simp only [PyData.shown, nodes]
    omega
  | .list xs, c, h => by
    have h1 := shownAll_short xs (by simpa only [PyData.canLay0] using c) (by simpa only [PyData.showable] using h)
    have h2 := listText_len_le (PyData.shownAll xs)
    rw [PyData.shownAll_length xs] at h2
    simp only [PyData.shown, nodes]
    omega
  | .tuple xs, c, h => by
    have h1 := shownAll_short xs (by simpa only [PyData.canLay0] using c) (by simpa only [PyData.showable] using h)
    have h2 := tupleText_len_le (PyData.shownAll xs)
    rw [PyData.shownAll_length xs] at h2
    simp only [PyData.shown, nodes]
    omega
  | .dict _, c, _ => by simp only [PyData.canLay0] at c; exact nomatch c
theorem shownAll_short : ∀ xs : List PyData, PyData.canLayAll0 xs = true → PyData.showableAll xs = true → ((PyData.shownAll xs).map (·.length)).sum + 2 * xs.length ≤ 1923 * nodesAll xs
  | [], _, _ => by simp only [PyData.shownAll, nodesAll, List.map_nil, List.sum_nil, List.length_nil]; omega
  | x :: xs, c, h => by
    have c' : x.canLay0 = true ∧ PyData.canLayAll0 xs = true := by simpa only [PyData.canLayAll0, Bool.and_eq_true] using c
    have h' : x.showable = true ∧ PyData.showableAll xs = true := by simpa only [PyData.showableAll, Bool.and_eq_true] using h
    have h1 := shown_short x c'.1 h'.1
    have h2 := shownAll_short xs c'.2 h'.2
    simp only [PyData.shownAll, nodesAll, List.map_cons, List.sum_cons, List.length_cons]
    omega
end
/-- what may be put into a text by repr -/
def repOk (p : PyData) : Bool := p.canLay0 && p.showable && decide (p.depth ≤ 64) && decide (nodes p ≤ 8000)
/-! ### 9. operations on values -/
section
variable {X : Cx}
def rCatR (K : PySem.W.Frag) : R2 := fun x y H Q => ∃ l b xs zs, x = .ref l ∧ y = .ref b ∧ SqL K H l xs ∧ SqL K H b zs ∧ xs.length + zs.length ≤ sizeLine ∧ ∀ p, H p = none → Q (.ref p) (upd H p (.lst (xs ++ zs)))
theorem op_catR : OpR X (binaryOp .Add) (rCatR X.K) := by
  intro pins s σ H x y v u Q I rx ry h
  obtain ⟨l, b, xs, zs, rfl, rfl, hH, hB, hz, q⟩ := h
  cases rx
  cases ry
  obtain ⟨its, r, p1, _⟩ := I.list hH
  obtain ⟨its2, r2, p2, _⟩ := I.list hB
  have l1 := r.length
  have l2 := r2.length
  obtain ⟨⟨c1, d1, t1, sl1⟩, n1, e1, hc1, hd1, ht1⟩ := p1
  obtain ⟨⟨c2, d2, t2, sl2⟩, n2, e2, hc2, hd2, ht2⟩ := p2
  simp only at hc1 ht1 hc2 ht2
  subst hc1 ht1 hc2 ht2
  refine concat_meets ⟨_, e1, rfl⟩ ⟨_, e2, rfl⟩ noFill_list_add seq_list_add PySem.F.slot_list_add PySem.F.entry_list_add (PySem.F.args_list_add_2 _ _) (list_addW l b its.toArray its2.toArray n1 n2 d1 d2 sl1 sl2 (by rw [List.size_toArray, List.size_toArray]; omega)) ⟨e1, e2, ?_⟩
  have ea : its.toArray ++ its2.toArray = (its ++ its2).toArray := by simp
  rw [ea]
  exact ⟨.ref _, _, I.lnew (t' := s.toks) (r.append r2) (by rw [List.length_append]; omega), rfl, q _ I.fresh⟩
/-- repr of data -/
def rRepr (K : PySem.W.Frag) : List V → Hp → VK → Prop := fun xs H Q => ∃ v p, xs = [v] ∧ Dp K H v p ∧ repOk p = true ∧ Q (.str p.shown) H
theorem rep_fits {p : PyData} (h : repOk p = true) : p.shown.length ≤ sizeLine := by
  unfold repOk at h
  simp only [Bool.and_eq_true, decide_eq_true_eq] at h
  have := shown_short p h.1.1.1 h.1.1.2
  rw [sizeLine_eq]
  omega
theorem call_reprD (hg : X.A.guards = some []) (hu : X.A.units + 100 < cLine) : CallR X (.builtin "repr") (rRepr X.K) := by
  intro pins s σ H xs us Q I r h
  obtain ⟨v, p, rfl, dp, ok, q⟩ := h
  obtain ⟨u, rfl, ru⟩ := vals1 r
  have fit := rep_fits ok
  have ok' := ok
  unfold repOk at ok'
  simp only [Bool.and_eq_true, decide_eq_true_eq] at ok'
  obtain ⟨⟨⟨h1, h2⟩, h3⟩, h4⟩ := ok'
  obtain ⟨as, rd⟩ := Dp.reads I p v u dp ru
  have nd : p.hasDict = true → sysModules ∉ as := PyData.noDict_hsm (PyData.hasDict_of_canLay p h1)
  have big : ∀ a, u = .ref a → wpAny (model X.prog X.w) X.A (call (.builtin "repr") [u]) (EP X pins σ Q) X.xe s := fun a e => by
    subst e
    exact repr_of_reads' rd h2 nd hg (by omega) (fun _ _ e => e) (fun h' t tk k => ⟨.str p.shown, H, I.kept k, ⟨t, rfl⟩, q⟩) fit
  cases dp with
  | non =>
    cases ru
    exact PySem.P.repr_of_none ⟨.str (PyData.shown .none), H, I.tok _, ⟨_, by rw [PyData.shown_none]⟩, q⟩
  | bl b =>
    cases ru
    exact PySem.P.repr_of_bool ⟨.str (PyData.shown (.bool b)), H, I.tok _, ⟨s.toks, by rw [PyData.shown_bool]⟩, q⟩
  | int i =>
    obtain ⟨t, rfl⟩ := ru
    exact PySem.P.repr_of_int (by simpa only [PyData.showable, decide_eq_true_eq] using h2) ⟨.str (PyData.shown (.int i)), H, I.tok _, ⟨_, by rw [PyData.shown_int]⟩, q⟩
  | str x =>
    obtain ⟨t, rfl⟩ := ru
    exact PySem.P.repr_of_str ⟨.str (PyData.shown (.str x)), H, I.tok _, ⟨_, by rw [PyData.shown_str]⟩, q⟩ (by rw [← PyData.shown_str]; exact fit)
  | lst a b => exact big _ ru
  | tup a b => exact big _ ru
end
end PX
namespace PX
open PySem PySem.Spec PyProof.Rows L2
variable {Z : Wd}
/-! ### 10. the operations on data -/
def intV (i : Int) : M D := rt (.int i)
def blV (b : Bool) : M D := rt (.bl b)
def mulOk (i j : Int) : Bool := decide (i.natAbs < 2 ^ 64) || decide (j.natAbs < 2 ^ 64) || (decide (i.natAbs.log2 < 400000) && decide (j.natAbs.log2 < 400000))
def powOk (i j : Int) : Bool := decide (0 ≤ j) && decide (j ≤ 1000000) && decide (i.natAbs < 2 ^ 64)
def divOk (j : Int) : Bool := decide (j ≠ 0) && decide (j.natAbs.log2 < 9000)
def catL (xs ys : List D) : M D := if xs.length + ys.length ≤ 1000000 then rt (.lst (xs ++ ys)) else stk
def catT (xs ys : List D) : M D := if xs.length + ys.length ≤ 1000000 then rt (.tup (xs ++ ys)) else stk
def addD (d e : D) : M D := match d, e with
  | .int i, .int j => intV (i + j)
  | .tup xs, .tup ys => catT xs ys
  | d, e => fun μ => match asL μ d, asL μ e with
    | some xs, some ys => catL xs ys μ
    | _, _ => .no
def subD (d e : D) : M D := match d, e with
  | .int i, .int j => intV (i - j)
  | _, _ => stk
def mulD (d e : D) : M D := match d, e with
  | .int i, .int j => if mulOk i j then intV (i * j) else stk
  | .lst xs, .int k => if k ≤ 100000 ∧ -100000 ≤ k ∧ xs.length * k.toNat ≤ 1000000 then rt (.lst (List.replicate k.toNat xs).flatten) else stk
  | .tup xs, .int k => if 2 ≤ k ∧ k ≤ 1000 ∧ xs.length ≤ 1000 ∧ xs.isEmpty = false then rt (.tup (List.replicate k.toNat xs).flatten) else stk
  | _, _ => stk
def fdivD (d e : D) : M D := match d, e with
  | .int i, .int j => if divOk j then intV (i.fdiv j) else stk
  | _, _ => stk
def modD (d e : D) : M D := match d, e with
  | .int i, .int j => if j ≠ 0 then intV (i.fmod j) else stk
  | _, _ => stk
def powD (d e : D) : M D := match d, e with
  | .int i, .int j => if powOk i j then intV (i ^ j.toNat) else stk
  | _, _ => stk
def negD (d : D) : M D := match d with
  | .int i => intV (-i)
  | _ => stk
def ltD (d e : D) : M D := match d, e with
  | .int i, .int j => blV (decide (i < j))
  | _, _ => stk
def leD (d e : D) : M D := match d, e with
  | .int i, .int j => blV (decide (i ≤ j))
  | _, _ => stk
def gtD (d e : D) : M D := match d, e with
  | .int i, .int j => blV (decide (j < i))
  | _, _ => stk
def geD (d e : D) : M D := match d, e with
  | .int i, .int j => blV (decide (j ≤ i))
  | _, _ => stk
def eqB (d e : D) : M Bool := match d, e with
  | .int i, .int j => rt (decide (i = j))
  | .str x, .str y => rt (decide (x = y))
  | .bl x, .bl y => rt (decide (x = y))
  | d, e => fun μ => if SeqAt.shaped (pdm μ d) && SeqAt.shaped (pdm μ e) then .ok (PyData.eqv (pdm μ d) (pdm μ e)) μ else .no
def eqD (d e : D) : M D := bd (eqB d e) blV
def neD (d e : D) : M D := bd (eqB d e) fun b => blV (!b)
def isNonB : D → Option Bool
  | .non => some true | .ref _ => some false | .ty _ => some false | _ => some false
def isD (d e : D) : M D := match e with
  | .non => lft ((isNonB d).map .bl)
  | _ => stk
def isNotD (d e : D) : M D := match e with
  | .non => lft ((isNonB d).map fun b => .bl (!b))
  | _ => stk
theorem rp_int {K : PySem.W.Frag} {H : Hp} {ad : Pl} {x : V} {i : Int} (r : Rp K H ad x (.int i)) : x = .int i := by cases r; rfl
theorem rp_bl {K : PySem.W.Frag} {H : Hp} {ad : Pl} {x : V} {b : Bool} (r : Rp K H ad x (.bl b)) : x = .bl b := by cases r; rfl
theorem rp_str {K : PySem.W.Frag} {H : Hp} {ad : Pl} {x : V} {z : Str} (r : Rp K H ad x (.str z)) : x = .str z := by cases r; rfl
theorem ke_int {H : Hp} {ad : Pl} {μ : Mu} {Q : VK} {i : Int} (m : MuOk Z.K H ad μ) (h : KE Z H ad Q (.int i) μ) : Q (.int i) H := h _ H ad (.refl m) (.int i)
theorem ke_bl {H : Hp} {ad : Pl} {μ : Mu} {Q : VK} {b : Bool} (m : MuOk Z.K H ad μ) (h : KE Z H ad Q (.bl b) μ) : Q (.bl b) H := h _ H ad (.refl m) (.bl b)
section
variable {X : Cx}
def rAddX (K : PySem.W.Frag) : R2 := fun x y H Q => (∃ i j, x = .int i ∧ y = .int j ∧ Q (.int (i + j)) H) ∨ rCatR K x y H Q ∨ rCatA K x y H Q
theorem op_addX : OpR X (binaryOp .Add) (rAddX X.K) := OpR.or op_add (OpR.or op_catR op_catA)
theorem v_add : V2 Z (rAddX Z.K) addD := by
  intro x y d e H ad μ Q m rx ry h
  have general : ∀ (h : Sat ((match asL μ d, asL μ e with
      | some xs, some ys => catL xs ys μ
      | _, _ => .no) : R D) (KE Z H ad Q) (XW Z H ad)), rAddX Z.K x y H Q := fun h => by
    cases h1 : asL μ d with
    | none => rw [h1] at h; exact h.elim
    | some xs =>
      cases h2 : asL μ e with
      | none => rw [h1, h2] at h; exact h.elim
      | some ys =>
        rw [h1, h2] at h
        obtain ⟨a, vs, rfl, r1, p1⟩ := asL_ok m rx h1
        obtain ⟨b, ws, rfl, r2, p2⟩ := asL_ok m ry h2
        have h : Sat (catL xs ys μ) (KE Z H ad Q) (XW Z H ad) := h
        unfold catL at h
        by_cases hz : xs.length + ys.length ≤ 1000000
        · rw [if_pos hz] at h
          refine .inr (.inl ⟨a, b, vs, ws, rfl, rfl, r1, r2, by rw [p1.length, p2.length]; exact million hz, fun p hp => ?_⟩)
          exact h (.ref p) _ ad (m.new hp) (.newLst m hp (p1.app p2))
        · rw [if_neg hz] at h
          exact h.elim
  cases d with
  | int i =>
    cases e with
    | int j =>
      cases rx
      cases ry
      exact .inl ⟨i, j, rfl, rfl, ke_int m h⟩
    | _ => exact general h
  | tup xs =>
    cases e with
    | tup ys =>
      have h : Sat (catT xs ys μ) (KE Z H ad Q) (XW Z H ad) := h
      unfold catT at h
      by_cases hz : xs.length + ys.length ≤ 1000000
      · rw [if_pos hz] at h
        cases rx with
        | @tup a vs _ ta p1 =>
          cases ry with
          | @tup b ws _ tb p2 =>
            refine .inr (.inr ⟨a, b, vs, ws, rfl, rfl, ta.sq, tb.sq, by rw [p1.length, p2.length]; exact million hz, fun e => ?_, fun _ e => ?_, fun _ _ p hp => ?_⟩)
            · subst e
              have e2 : xs = [] := List.eq_nil_of_length_eq_zero p1.length.symm
              subst e2
              exact h (.ref b) H ad (.refl m) (.tup tb p2)
            · subst e
              have e2 : ys = [] := List.eq_nil_of_length_eq_zero p2.length.symm
              subst e2
              exact h (.ref a) H ad (.refl m) (.tup ta (by simpa using p1))
            · exact h (.ref p) _ ad (m.new hp) (.newTup m hp (p1.app p2))
      · rw [if_neg hz] at h
        exact h.elim
    | _ => exact general h
  | non => exact general h
  | bl _ => exact general h
  | str _ => exact general h
  | lst _ => exact general h
  | ref _ => exact general h
  | ty _ => exact general h
/-- two ints, by a rule that asks c and gives g -/
theorem v_ii {r : R2} {f : D → D → M D} (g : Int → Int → M D) (hf : ∀ d e μ, (∃ i j, d = .int i ∧ e = .int j ∧ f d e μ = g i j μ) ∨ f d e μ = .no)
    (hr : ∀ (i j : Int) (H : Hp) (ad : Pl) (μ : Mu) (Q : VK), MuOk Z.K H ad μ → Sat (g i j μ) (KE Z H ad Q) (XW Z H ad) → r (.int i) (.int j) H Q) : V2 Z r f := by
  intro x y d e H ad μ Q m rx ry h
  rcases hf d e μ with ⟨i, j, rfl, rfl, q⟩ | q
  · rw [q] at h
    cases rx
    cases ry
    exact hr i j H ad μ Q m h
  · rw [q] at h
    exact h.elim
theorem v_sub : V2 Z (rI0 fun i j => .int (i - j)) subD :=
  v_ii (fun i j => intV (i - j)) (fun d e μ => by cases d <;> cases e <;> first | exact .inl ⟨_, _, rfl, rfl, rfl⟩ | exact .inr rfl) fun i j H ad μ Q m h => ⟨i, j, rfl, rfl, ke_int m h⟩
theorem op_fdivX : OpR X (binaryOp .FloorDiv) (rI (fun _ j => j ≠ 0 ∧ j.natAbs.log2 < 9000) fun i j => .int (i.fdiv j)) :=
  opI fun _ _ _ _ _ _ _ hc q => floordiv_int hc.1 q (.inl (PyProof.noPylong_of_log2 hc.2))
theorem v_fdiv : V2 Z (rI (fun _ j => j ≠ 0 ∧ j.natAbs.log2 < 9000) fun i j => .int (i.fdiv j)) fdivD :=
  v_ii (fun i j => if divOk j then intV (i.fdiv j) else stk) (fun d e μ => by cases d <;> cases e <;> first | exact .inl ⟨_, _, rfl, rfl, rfl⟩ | exact .inr rfl) fun i j H ad μ Q m h => by
    by_cases c : divOk j = true
    · rw [if_pos c] at h
      have c' := c
      unfold divOk at c'
      simp only [Bool.and_eq_true, decide_eq_true_eq] at c'
      exact ⟨i, j, rfl, rfl, c', ke_int m h⟩
    · rw [if_neg c] at h
      exact h.elim
theorem v_mod : V2 Z (rI (fun _ j => j ≠ 0) fun i j => .int (i.fmod j)) modD :=
  v_ii (fun i j => if j ≠ 0 then intV (i.fmod j) else stk) (fun d e μ => by cases d <;> cases e <;> first | exact .inl ⟨_, _, rfl, rfl, rfl⟩ | exact .inr rfl) fun i j H ad μ Q m h => by
    by_cases c : j ≠ 0
    · rw [if_pos c] at h
      exact ⟨i, j, rfl, rfl, c, ke_int m h⟩
    · rw [if_neg c] at h
      exact h.elim
theorem v_pow : V2 Z (rI CPow fun i j => .int (i ^ j.toNat)) powD :=
  v_ii (fun i j => if powOk i j then intV (i ^ j.toNat) else stk) (fun d e μ => by cases d <;> cases e <;> first | exact .inl ⟨_, _, rfl, rfl, rfl⟩ | exact .inr rfl) fun i j H ad μ Q m h => by
    by_cases c : powOk i j = true
    · rw [if_pos c] at h
      have c' := c
      unfold powOk at c'
      simp only [Bool.and_eq_true, decide_eq_true_eq] at c'
      exact ⟨i, j, rfl, rfl, ⟨c'.1.1, c'.1.2, c'.2⟩, ke_int m h⟩
    · rw [if_neg c] at h
      exact h.elim
theorem v_cmpI {c : Int → Int → Bool} {f : D → D → M D} (hf : ∀ d e μ, (∃ i j, d = .int i ∧ e = .int j ∧ f d e μ = blV (c i j) μ) ∨ f d e μ = .no) : V2 Z (rI0 fun i j => .bl (c i j)) f :=
  v_ii (fun i j => blV (c i j)) hf fun i j H ad μ Q m h => ⟨i, j, rfl, rfl, ke_bl m h⟩
theorem v_lt : V2 Z (rI0 fun i j => .bl (decide (i < j))) ltD := v_cmpI fun d e μ => by cases d <;> cases e <;> first | exact .inl ⟨_, _, rfl, rfl, rfl⟩ | exact .inr rfl
theorem v_le : V2 Z (rI0 fun i j => .bl (decide (i ≤ j))) leD := v_cmpI fun d e μ => by cases d <;> cases e <;> first | exact .inl ⟨_, _, rfl, rfl, rfl⟩ | exact .inr rfl
theorem v_gt : V2 Z (rI0 fun i j => .bl (decide (j < i))) gtD := v_cmpI fun d e μ => by cases d <;> cases e <;> first | exact .inl ⟨_, _, rfl, rfl, rfl⟩ | exact .inr rfl
theorem v_ge : V2 Z (rI0 fun i j => .bl (decide (j ≤ i))) geD := v_cmpI fun d e μ => by cases d <;> cases e <;> first | exact .inl ⟨_, _, rfl, rfl, rfl⟩ | exact .inr rfl
theorem v_neg : V1 Z (rU fun i => .int (-i)) negD := by
  intro x d H ad μ Q m rx h
  cases d with
  | int i => cases rx; exact ⟨i, rfl, ke_int m h⟩
  | _ => exact h.elim
/-! equality -/
def rEqX (K : PySem.W.Frag) : R2 := fun x y H Q => rEq x y H Q ∨ rEqD K x y H Q
def rNeX (K : PySem.W.Frag) : R2 := fun x y H Q => rNe x y H Q ∨ rNeD K x y H Q
theorem op_eqX (hu : X.A.units + 64 < cLine) : OpR X (compareOp .Eq) (rEqX X.K) := OpR.or op_eq (op_eqD hu)
theorem op_neX (hu : X.A.units + 64 < cLine) : OpR X (compareOp .NotEq) (rNeX X.K) := OpR.or op_ne (op_neD hu)
theorem eqB_cases (d e : D) : (∃ i j, d = .int i ∧ e = .int j) ∨ (∃ i j, d = .str i ∧ e = .str j) ∨ (∃ i j, d = .bl i ∧ e = .bl j) ∨
    ∀ μ, eqB d e μ = if SeqAt.shaped (pdm μ d) && SeqAt.shaped (pdm μ e) then .ok (PyData.eqv (pdm μ d) (pdm μ e)) μ else .no := by
  cases d <;> cases e <;> first
    | exact .inl ⟨_, _, rfl, rfl⟩
    | exact .inr (.inl ⟨_, _, rfl, rfl⟩)
    | exact .inr (.inr (.inl ⟨_, _, rfl, rfl⟩))
    | exact .inr (.inr (.inr fun _ => rfl))
theorem v_eqB {g : Bool → Bool} {r : R2} (h1 : ∀ x y H Q, scal x y = true → Q (.bl (g (decide (x = y)))) H → r x y H Q)
    (h2 : ∀ x y H Q d e, Dp Z.K H x d → Dp Z.K H y e → SeqAt.shaped d = true → SeqAt.shaped e = true → Q (.bl (g (PyData.eqv d e))) H → r x y H Q) : V2 Z r (fun d e => bd (eqB d e) fun b => blV (g b)) := by
  intro x y d e H ad μ Q m rx ry h
  have h := sat_bd.mp h
  rcases eqB_cases d e with ⟨i, j, rfl, rfl⟩ | ⟨i, j, rfl, rfl⟩ | ⟨i, j, rfl, rfl⟩ | q
  · cases rx; cases ry
    refine h1 _ _ H Q rfl ?_
    have q := ke_bl m h
    rw [dec_int, Bool.beq_eq_decide_eq]
    exact q
  · cases rx; cases ry
    refine h1 _ _ H Q rfl ?_
    have q := ke_bl m h
    have e : decide (V.str i = V.str j) = decide (i = j) := by
      rw [Bool.eq_iff_iff]
      simp
    rw [e]
    exact q
  · cases rx; cases ry
    refine h1 _ _ H Q rfl ?_
    have q := ke_bl m h
    have e : decide (V.bl i = V.bl j) = decide (i = j) := by
      rw [Bool.eq_iff_iff]
      simp
    rw [e]
    exact q
  · rw [q μ] at h
    by_cases c : (SeqAt.shaped (pdm μ d) && SeqAt.shaped (pdm μ e)) = true
    · rw [if_pos c] at h
      obtain ⟨c1, c2⟩ := Bool.and_eq_true_iff.mp c
      exact h2 x y H Q _ _ (dpm_of m rx (SeqAt.canLay_of_shaped c1)) (dpm_of m ry (SeqAt.canLay_of_shaped c2)) c1 c2 (ke_bl m h)
    · rw [if_neg c] at h
      exact h.elim
theorem v_eq : V2 Z (rEqX Z.K) eqD := v_eqB (g := fun b => b) (fun x y H Q h q => .inl ⟨h, q⟩) fun x y H Q d e h1 h2 h3 h4 q => .inr ⟨d, e, h1, h2, h3, h4, q⟩
theorem v_ne : V2 Z (rNeX Z.K) neD := v_eqB (g := fun b => !b) (fun x y H Q h q => .inl ⟨h, q⟩) fun x y H Q d e h1 h2 h3 h4 q => .inr ⟨d, e, h1, h2, h3, h4, q⟩
theorem non_iff {K : PySem.W.Frag} {H : Hp} {ad : Pl} {x : V} {d : D} {b : Bool} (r : Rp K H ad x d) (h : isNonB d = some b) : decide (x = .non) = b := by
  cases r with
  | non => cases h; rfl
  | _ => cases h; first | rfl | exact decide_eq_false (fun z => nomatch z)
theorem v_is : V2 Z (fun x y H Q => y = .non ∧ Q (.bl (decide (x = .non))) H) isD := by
  intro x y d e H ad μ Q m rx ry h
  cases e with
  | non =>
    cases ry
    obtain ⟨z, e, q⟩ := sat_lft.mp h
    obtain ⟨b, e1, e2⟩ := Option.map_eq_some_iff.mp e
    subst e2
    rw [non_iff rx e1]
    exact ⟨rfl, ke_bl m q⟩
  | _ => exact h.elim
theorem v_isNot : V2 Z (fun x y H Q => y = .non ∧ Q (.bl (!decide (x = .non))) H) isNotD := by
  intro x y d e H ad μ Q m rx ry h
  cases e with
  | non =>
    cases ry
    obtain ⟨z, e, q⟩ := sat_lft.mp h
    obtain ⟨b, e1, e2⟩ := Option.map_eq_some_iff.mp e
    subst e2
    rw [non_iff rx e1]
    exact ⟨rfl, ke_bl m q⟩
  | _ => exact h.elim
end
end PX
namespace PX
open PySem PySem.Spec PyProof.Rows L2
variable {Z : Wd}
section
variable {X : Cx}
/-! ### 11. products -/
def MulC (i j : Int) : Prop := mulOk i j = true
theorem MulC.ok {i j : Int} (h : MulC i j) : IntMulOk i j := by
  unfold MulC mulOk at h
  simp only [Bool.or_eq_true, Bool.and_eq_true, decide_eq_true_eq] at h
  rcases h with (h | h) | h
  · exact CMul.ok (.inl (by omega))
  · exact CMul.ok (.inr (by omega))
  · exact CMulW.ok (show i.natAbs.log2 + j.natAbs.log2 < 1000000 by omega)
theorem op_mulX : OpR X (binaryOp .Mult) (rI MulC fun i j => .int (i * j)) := opI fun _ _ _ _ _ _ _ hc q => mul_int q (MulC.ok hc)
theorem list_mulW (l : Addr) (items : Array Value) (n : Nat) (dd : Option Addr) (sl : Array (Option Value)) (x : Int) (u : Tok) (hc0 : ¬(!Builtin.List.listFitsIndex x) = true) (hc1 : ¬items.size * x.toNat > (2 ^ 63 - 1) / 8) (hc2 : ¬Builtin.List.listTooLong (items.size * x.toNat) = true) :
    Meets (Builtin.«list.__mul__» ⟨[.ref l, .int x u], []⟩) (fun _ R s => s.heap.get? l = some { cls := .type "list", dict := dd, data := .seq items n, slots := sl } ∧
      R (.ok (.ret (Value.ref s.heap.objs.size))) { s with heap := s.heap.push { cls := Value.type "list", data := Data.seq (List.foldl (fun x1 x2 => x1 ++ x2) #[] (List.replicate (if items.isEmpty = true then 0 else x.toNat) items)) }, toks := s.toks }) :=
  .of_wp fun prog w A R s h => by
    obtain ⟨hp, g, d, tk, os⟩ := s
    obtain ⟨hl, h⟩ := h
    have hsz := AutoListH.joined_fits hc2
    wp_walk using AutoSeq1.wpAny_loadPart' hl
    refine wpAny_ite_false (decide_eq_false (Nat.not_lt.mpr hsz)) ?_
    wp_walk using AutoSeq1.wpAny_loadPart' hl
    exact ⟨_, rfl, h⟩
theorem rmulW (a : Int) (t : Tok) (l : Addr) (items : Array Value) (n : Nat) (dd : Option Addr) (sl : Array (Option Value)) :
    Meets (Builtin.«int.__rmul__» ⟨[.int a t, .ref l], []⟩) (fun _ R s => s.heap.get? l = some { cls := .type "list", dict := dd, data := .seq items n, slots := sl } ∧ R (.ok (.ret Value.notImplemented)) s) :=
  .of_wp fun prog w A R s h => by
    obtain ⟨hp, g, d, tk, os⟩ := s
    obtain ⟨hl, h⟩ := h
    wp_walk using AutoSeq1.wpAny_loadPart' hl
    exact ⟨_, rfl, h⟩
def rRepR (K : PySem.W.Frag) : R2 := fun x y H Q => ∃ l k xs, x = .ref l ∧ y = .int k ∧ SqL K H l xs ∧ -100000 ≤ k ∧ k ≤ 100000 ∧ xs.length * k.toNat ≤ 1000000 ∧ ∀ p, H p = none → Q (.ref p) (upd H p (.lst (List.replicate k.toNat xs).flatten))
theorem folded (its : List Value) (m : Nat) : List.foldl (fun x1 x2 => x1 ++ x2) #[] (List.replicate (if its.toArray.isEmpty = true then 0 else m) its.toArray) = (List.replicate m its).flatten.toArray := by
  have f0 := fun k => by simpa using foldl_rep its k []
  rw [f0]
  cases its with
  | nil => simp
  | cons a r => rfl
theorem op_repR : OpR X (binaryOp .Mult) (rRepR X.K) := by
  intro pins s σ H x y v u Q I rx ry ⟨l, k, xs, ex, ey, hH, lo, hi, hz, q⟩
  subst ex ey
  cases rx
  obtain ⟨t, rfl⟩ := ry
  obtain ⟨its, r, p1, _⟩ := I.list hH
  obtain ⟨⟨c1, d1, t1, sl1⟩, n, e, hc1, hd1, ht1⟩ := p1
  simp only at hc1 ht1
  subst hc1 ht1
  have len := r.length
  have big : its.toArray.size * k.toNat ≤ 1000000 := by rw [List.size_toArray, ← len]; exact hz
  have c1 : ¬ its.toArray.size * k.toNat > (2 ^ 63 - 1) / 8 := by
    have z : (1000000 : Nat) ≤ (2 ^ 63 - 1) / 8 := by decide
    omega
  have c2 : ¬ (!Builtin.List.listFitsIndex k) = true := by
    rw [fitsIndex_both (by omega) (by omega)]
    decide
  have c3 : ¬ Builtin.List.listTooLong (its.toArray.size * k.toNat) = true := by
    rw [notLongL (by rw [sizeLine_eq]; omega)]
    decide
  have inner := list_mulW l its.toArray n d1 sl1 k t c2 c1 c3
  refine wpAny_binaryOp_repeat_ref (T := "list") (U := "int") (by decide) ⟨_, e, rfl⟩ (fun s' => typeIs_int s' k t) noFill_list_mul F.fills_int_mul F.slot_int_rmul repeat_list F.slot_int_index.lookup ?_
  refine call_meets F.slot_int_rmul (typeIs_int s k t) F.entry_int_rmul (F.args_int_rmul_2 _ _) (rmulW k t l its.toArray n d1 sl1) ⟨e, rfl, ⟨_, e, rfl⟩, ?_⟩
  refine call_meets F.slot_list_mul ⟨_, e, rfl⟩ F.entry_list_mul (F.args_list_mul_2 _ _) inner ⟨e, ?_⟩
  rw [folded]
  have fit : (List.replicate k.toNat xs).flatten.length ≤ sizeLine := by
    rw [PyProof.Rows.lm_len_rep_flat, Nat.mul_comm, sizeLine_eq]
    omega
  exact ⟨.ref _, _, I.lnew (t' := s.toks) (r.rep k.toNat) fit, rfl, q _ I.fresh⟩
def rMulX (K : PySem.W.Frag) : R2 := fun x y H Q => (rI MulC fun i j => .int (i * j)) x y H Q ∨ rRepR K x y H Q ∨ rRepT K x y H Q
theorem op_mulA : OpR X (binaryOp .Mult) (rMulX X.K) := OpR.or op_mulX (OpR.or op_repR op_repT)
theorem v_mul : V2 Z (rMulX Z.K) mulD := by
  intro x y d e H ad μ Q m rx ry h
  cases d with
  | int i =>
    cases e with
    | int j =>
      cases rx
      cases ry
      have h : Sat ((if mulOk i j then intV (i * j) else stk) μ) (KE Z H ad Q) (XW Z H ad) := h
      by_cases c : mulOk i j = true
      · rw [if_pos c] at h
        exact .inl ⟨i, j, rfl, rfl, c, ke_int m h⟩
      · rw [if_neg c] at h
        exact h.elim
    | _ => exact h.elim
  | lst xs =>
    cases e with
    | int k =>
      cases ry
      have h : Sat ((if k ≤ 100000 ∧ -100000 ≤ k ∧ xs.length * k.toNat ≤ 1000000 then rt (.lst (List.replicate k.toNat xs).flatten) else stk : M D) μ) (KE Z H ad Q) (XW Z H ad) := h
      by_cases c : k ≤ 100000 ∧ -100000 ≤ k ∧ xs.length * k.toNat ≤ 1000000
      · rw [if_pos c] at h
        cases rx with
        | @lst a vs _ la p1 =>
          refine .inr (.inl ⟨a, k, vs, rfl, rfl, la.sq, c.2.1, c.1, by rw [p1.length]; exact c.2.2, fun p hp => ?_⟩)
          exact h (.ref p) _ ad (m.new hp) (.newLst m hp (p1.rep k.toNat))
      · rw [if_neg c] at h
        exact h.elim
    | _ => exact h.elim
  | tup xs =>
    cases e with
    | int k =>
      cases ry
      have h : Sat ((if 2 ≤ k ∧ k ≤ 1000 ∧ xs.length ≤ 1000 ∧ xs.isEmpty = false then rt (.tup (List.replicate k.toNat xs).flatten) else stk : M D) μ) (KE Z H ad Q) (XW Z H ad) := h
      by_cases c : 2 ≤ k ∧ k ≤ 1000 ∧ xs.length ≤ 1000 ∧ xs.isEmpty = false
      · rw [if_pos c] at h
        cases rx with
        | @tup a vs _ la p1 =>
          refine .inr (.inr ⟨a, k, vs, rfl, rfl, la.sq, fun e => ?_, c.1, c.2.1, by rw [p1.length]; exact c.2.2.1, fun p hp => ?_⟩)
          · subst e
            have e2 : xs = [] := List.eq_nil_of_length_eq_zero p1.length.symm
            subst e2
            exact absurd c.2.2.2 (by decide)
          · exact h (.ref p) _ ad (m.new hp) (.newTup m hp (p1.rep k.toNat))
      · rw [if_neg c] at h
        exact h.elim
    | _ => exact h.elim
  | _ => exact h.elim
/-! ### 12. built-in functions -/
def asInts : List D → Option (List Int)
  | [] => some []
  | .int i :: r => (asInts r).map (i :: ·)
  | _ => none
theorem asInts_map : ∀ ns : List Int, asInts (ns.map D.int) = some ns
  | [] => rfl
  | n :: ns => by
    show (asInts (ns.map D.int)).map (n :: ·) = _
    rw [asInts_map ns]
    rfl
theorem asInts_eq : ∀ {ds : List D} {ns : List Int}, asInts ds = some ns → ds = ns.map D.int
  | [], _, h => by cases h; rfl
  | .int i :: r, ns, h => by
    obtain ⟨ms, e, q⟩ := Option.map_eq_some_iff.mp (show (asInts r).map (i :: ·) = some ns from h)
    subst q
    rw [asInts_eq e]
    rfl
def lenF (ds : List D) : M D := fun μ => match ds with
  | [.str z] => if z.length ≤ 1000000 then intV (z.length : Nat) μ else .no
  | [d] => match asQ μ d with
    | some xs => intV (xs.length : Nat) μ
    | none => .no
  | _ => .no
def absF (ds : List D) : M D := match ds with
  | [.int i] => intV (if i < 0 then -i else i)
  | _ => stk
def maxF (ds : List D) : M D := match ds with
  | [.int i, .int j] => intV (if j > i then j else i)
  | _ => stk
def minF (ds : List D) : M D := match ds with
  | [.int i, .int j] => intV (if j < i then j else i)
  | _ => stk
def intF (ds : List D) : M D := match ds with
  | [.int i] => intV i
  | [.bl b] => intV (if b then 1 else 0)
  | _ => stk
def sumF (ds : List D) : M D := fun μ => match ds with
  | [d] => match (asL μ d).bind asInts with
    | some ns => intV ns.sum μ
    | none => .no
  | _ => .no
def tupF (ds : List D) : M D := fun μ => match ds with
  | [.tup xs] => .ok (.tup xs) μ
  | [d] => match asL μ d with
    | some xs => .ok (.tup xs) μ
    | none => .no
  | _ => .no
def lstF (ds : List D) : M D := fun μ => match ds with
  | [d] => match asQ μ d with
    | some xs => .ok (.lst xs) μ
    | none => .no
  | _ => .no
def gcdF (ds : List D) : M D := match ds with
  | [.int i, .int j] => intV ((Nat.gcd i.natAbs j.natAbs : Nat) : Int)
  | _ => stk
def repF (ds : List D) : M D := fun μ => match ds with
  | [d] => if repOk (pdm μ d) then .ok (.str (pdm μ d).shown) μ else .no
  | _ => .no
def tyN : D → Option String
  | .non => some "NoneType" | .bl _ => some "bool" | .int _ => some "int" | .str _ => some "str" | .lst _ => some "list" | .tup _ => some "tuple" | _ => none
def isaB (d : D) (n : String) : Option Bool := (tyN d).bind fun t =>
  if n == "int" then some (t == "int" || t == "bool") else if n == "bool" || n == "tuple" || n == "list" || n == "str" then some (t == n) else none
def isaF (ds : List D) : M D := match ds with
  | [d, .ty n] => lft ((isaB d n).map .bl)
  | _ => stk
theorem rps1 {K : PySem.W.Frag} {H : Hp} {ad : Pl} {xs : List V} {d : D} (r : Rps K H ad xs [d]) : ∃ x, xs = [x] ∧ Rp K H ad x d := by
  cases r with
  | cons a r => cases r; exact ⟨_, rfl, a⟩
theorem rps2 {K : PySem.W.Frag} {H : Hp} {ad : Pl} {xs : List V} {d e : D} (r : Rps K H ad xs [d, e]) : ∃ x y, xs = [x, y] ∧ Rp K H ad x d ∧ Rp K H ad y e := by
  cases r with
  | cons a r =>
    obtain ⟨y, rfl, b⟩ := rps1 r
    exact ⟨_, y, rfl, a, b⟩
def rLenX (K : PySem.W.Frag) : List V → Hp → VK → Prop := fun xs H Q => (∃ p ys, xs = [.ref p] ∧ (SqL K H p ys ∨ SqT K H p ys) ∧ Q (.int ys.length) H) ∨ ∃ z, xs = [.str z] ∧ z.length ≤ sizeLine ∧ Q (.int z.length) H
theorem call_lenX : CallR X (.builtin "len") (rLenX X.K) := CallR.or call_len_seq call_len_str
theorem v_len : VA Z (rLenX Z.K) lenF := by
  intro xs ds H ad μ Q m r h0
  have gen : ∀ d, ds = [d] → Sat (match asQ μ d with
      | some xs => intV (xs.length : Nat) μ
      | none => .no) (KE Z H ad Q) (XW Z H ad) → rLenX Z.K xs H Q := fun d e h => by
    clear h0
    subst e
    obtain ⟨x, rfl, rx⟩ := rps1 r
    cases k : asQ μ d with
    | none => rw [k] at h; exact h.elim
    | some ys =>
      rw [k] at h
      obtain ⟨a, vs, rfl, q, p⟩ := asQ_ok m rx k
      refine .inl ⟨a, vs, rfl, q, ?_⟩
      rw [p.length]
      exact ke_int m h
  match ds, r, h0, gen with
  | [.str z], r, h, _ =>
    obtain ⟨x, rfl, rx⟩ := rps1 r
    cases rx
    have h : Sat (if z.length ≤ 1000000 then intV (z.length : Nat) μ else .no) (KE Z H ad Q) (XW Z H ad) := h
    by_cases c : z.length ≤ 1000000
    · rw [if_pos c] at h
      exact .inr ⟨z, rfl, million c, ke_int m h⟩
    · rw [if_neg c] at h
      exact h.elim
  | [.non], r, h, gen => exact gen _ rfl h
  | [.bl _], r, h, gen => exact gen _ rfl h
  | [.int _], r, h, gen => exact gen _ rfl h
  | [.lst _], r, h, gen => exact gen _ rfl h
  | [.tup _], r, h, gen => exact gen _ rfl h
  | [.ref _], r, h, gen => exact gen _ rfl h
  | [.ty _], r, h, gen => exact gen _ rfl h
  | [], r, h, _ => exact h.elim
  | d :: _ :: _, r, h, _ => cases d <;> exact h.elim
/-- one int -/
theorem v_i1 {r : List V → Hp → VK → Prop} {f : List D → M D} (g : Int → Int) (hf : ∀ ds μ, (∃ i, ds = [.int i] ∧ f ds μ = intV (g i) μ) ∨ f ds μ = .no)
    (hr : ∀ (i : Int) (H : Hp) (Q : VK), Q (.int (g i)) H → r [.int i] H Q) : VA Z r f := by
  intro xs ds H ad μ Q m rx h
  rcases hf ds μ with ⟨i, rfl, q⟩ | q
  · rw [q] at h
    obtain ⟨x, rfl, ry⟩ := rps1 rx
    obtain rfl := rp_int ry
    exact hr i H Q (ke_int m h)
  · rw [q] at h
    exact h.elim
theorem v_i2 {r : List V → Hp → VK → Prop} {f : List D → M D} (g : Int → Int → Int) (hf : ∀ ds μ, (∃ i j, ds = [.int i, .int j] ∧ f ds μ = intV (g i j) μ) ∨ f ds μ = .no)
    (hr : ∀ (i j : Int) (H : Hp) (Q : VK), Q (.int (g i j)) H → r [.int i, .int j] H Q) : VA Z r f := by
  intro xs ds H ad μ Q m rx h
  rcases hf ds μ with ⟨i, j, rfl, q⟩ | q
  · rw [q] at h
    obtain ⟨x, y, rfl, r1, r2⟩ := rps2 rx
    obtain rfl := rp_int r1
    obtain rfl := rp_int r2
    exact hr i j H Q (ke_int m h)
  · rw [q] at h
    exact h.elim
theorem v_abs : VA Z (fun xs H Q => ∃ i, xs = [.int i] ∧ Q (.int (if i < 0 then -i else i)) H) absF :=
  v_i1 (fun i => if i < 0 then -i else i) (fun ds μ => by
    match ds with
    | [.int i] => exact .inl ⟨i, rfl, rfl⟩
    | [] | [.non] | [.bl _] | [.str _] | [.lst _] | [.tup _] | [.ref _] | [.ty _] => exact .inr rfl
    | d :: _ :: _ => cases d <;> exact .inr rfl) fun i H Q q => ⟨i, rfl, q⟩
theorem two_cases {f : List D → M D} {g : Int → Int → Int} (h : ∀ i j, f [.int i, .int j] = intV (g i j)) (hn : ∀ ds, (∀ i j, ds ≠ [.int i, .int j]) → f ds = stk) (ds : List D) (μ : Mu) :
    (∃ i j, ds = [.int i, .int j] ∧ f ds μ = intV (g i j) μ) ∨ f ds μ = .no := by
  by_cases c : ∃ i j, ds = [.int i, .int j]
  · obtain ⟨i, j, rfl⟩ := c
    exact .inl ⟨i, j, rfl, by rw [h]⟩
  · exact .inr (by rw [hn ds fun i j e => c ⟨i, j, e⟩]; rfl)
theorem v_max : VA Z (fun xs H Q => ∃ i j, xs = [.int i, .int j] ∧ Q (.int (if j > i then j else i)) H) maxF :=
  v_i2 (fun i j => if j > i then j else i) (two_cases (fun _ _ => rfl) fun ds h => by
    unfold maxF
    split
    · exact absurd rfl (h _ _)
    · rfl) fun i j H Q q => ⟨i, j, rfl, q⟩
theorem v_min : VA Z (fun xs H Q => ∃ i j, xs = [.int i, .int j] ∧ Q (.int (if j < i then j else i)) H) minF :=
  v_i2 (fun i j => if j < i then j else i) (two_cases (fun _ _ => rfl) fun ds h => by
    unfold minF
    split
    · exact absurd rfl (h _ _)
    · rfl) fun i j H Q q => ⟨i, j, rfl, q⟩
theorem v_gcd : VA Z rGcd gcdF :=
  v_i2 (fun i j => ((Nat.gcd i.natAbs j.natAbs : Nat) : Int)) (two_cases (fun _ _ => rfl) fun ds h => by
    unfold gcdF
    split
    · exact absurd rfl (h _ _)
    · rfl) fun i j H Q q => ⟨i, j, rfl, q⟩
theorem v_int : VA Z (fun xs H Q => (∃ i, xs = [.int i] ∧ Q (.int i) H) ∨ ∃ k, xs = [.bl k] ∧ Q (.int (if k then 1 else 0)) H) intF := by
  intro xs ds H ad μ Q m r h
  match ds, r, h with
  | [.int i], r, h => obtain ⟨x, rfl, rx⟩ := rps1 r; cases rx; exact .inl ⟨i, rfl, ke_int m h⟩
  | [.bl b], r, h => obtain ⟨x, rfl, rx⟩ := rps1 r; cases rx; exact .inr ⟨b, rfl, ke_int m h⟩
  | [], _, h | [.non], _, h | [.str _], _, h | [.lst _], _, h | [.tup _], _, h | [.ref _], _, h | [.ty _], _, h => exact h.elim
  | d :: _ :: _, _, h => cases d <;> exact h.elim
theorem v_sum : VA Z (rSum Z.K) sumF := by
  intro xs ds H ad μ Q m r h
  match ds, r, h with
  | [d], r, h =>
    obtain ⟨x, rfl, rx⟩ := rps1 r
    have h : Sat (match (asL μ d).bind asInts with
      | some ns => intV ns.sum μ
      | none => .no) (KE Z H ad Q) (XW Z H ad) := h
    cases k : (asL μ d).bind asInts with
    | none => rw [k] at h; exact h.elim
    | some ns =>
      rw [k] at h
      obtain ⟨es, k1, k2⟩ := Option.bind_eq_some_iff.mp k
      obtain ⟨a, vs, rfl, q, p⟩ := asL_ok m rx k1
      have e := asInts_eq k2
      subst e
      have e := p.ints
      subst e
      exact ⟨a, ns, rfl, q, ke_int m h⟩
  | [], _, h | _ :: _ :: _, _, h => exact h.elim
def rTupX (K : PySem.W.Frag) : List V → Hp → VK → Prop := fun xs H Q => ∃ p ys, xs = [.ref p] ∧ ((SqL K H p ys ∧ ∀ l, H l = none → Q (.ref l) (upd H l (.tup ys))) ∨ (SqT K H p ys ∧ Q (.ref p) H))
theorem v_tup : VA Z (rTupX Z.K) tupF := by
  intro xs ds H ad μ Q m r h0
  have gen : ∀ d, ds = [d] → Sat (match asL μ d with
      | some xs => .ok (.tup xs) μ
      | none => .no) (KE Z H ad Q) (XW Z H ad) → rTupX Z.K xs H Q := fun d e h => by
    clear h0
    subst e
    obtain ⟨x, rfl, rx⟩ := rps1 r
    cases k : asL μ d with
    | none => rw [k] at h; exact h.elim
    | some ys =>
      rw [k] at h
      obtain ⟨a, vs, rfl, q, p⟩ := asL_ok m rx k
      exact ⟨a, vs, rfl, .inl ⟨q, fun l hl => h (.ref l) _ ad (m.new hl) (.newTup m hl p)⟩⟩
  match ds, r, h0, gen with
  | [.tup ys], r, h, _ =>
    obtain ⟨x, rfl, rx⟩ := rps1 r
    have rx' := rx
    cases rx with
    | @tup a vs _ ta p => exact ⟨a, vs, rfl, .inr ⟨ta.sq, h _ H ad (.refl m) rx'⟩⟩
  | [.non], r, h, gen => exact gen _ rfl h
  | [.bl _], r, h, gen => exact gen _ rfl h
  | [.int _], r, h, gen => exact gen _ rfl h
  | [.lst _], r, h, gen => exact gen _ rfl h
  | [.str _], r, h, gen => exact gen _ rfl h
  | [.ref _], r, h, gen => exact gen _ rfl h
  | [.ty _], r, h, gen => exact gen _ rfl h
  | [], r, h, _ => exact h.elim
  | d :: _ :: _, r, h, _ => cases d <;> exact h.elim
def rLstX (K : PySem.W.Frag) : List V → Hp → VK → Prop := fun xs H Q => ∃ p ys, xs = [.ref p] ∧ (SqL K H p ys ∨ SqT K H p ys) ∧ ∀ l, H l = none → Q (.ref l) (upd H l (.lst ys))
theorem v_lst : VA Z (rLstX Z.K) lstF := by
  intro xs ds H ad μ Q m r h
  match ds, r, h with
  | [d], r, h =>
    obtain ⟨x, rfl, rx⟩ := rps1 r
    have h : Sat (match asQ μ d with
      | some xs => .ok (.lst xs) μ
      | none => .no) (KE Z H ad Q) (XW Z H ad) := h
    cases k : asQ μ d with
    | none => rw [k] at h; exact h.elim
    | some ys =>
      rw [k] at h
      obtain ⟨a, vs, rfl, q, p⟩ := asQ_ok m rx k
      exact ⟨a, vs, rfl, q, fun l hl => h (.ref l) _ ad (m.new hl) (.newLst m hl p)⟩
  | [], _, h | _ :: _ :: _, _, h => exact h.elim
theorem v_rep : VA Z (rRepr Z.K) repF := by
  intro xs ds H ad μ Q m r h
  match ds, r, h with
  | [d], r, h =>
    obtain ⟨x, rfl, rx⟩ := rps1 r
    have h : Sat (if repOk (pdm μ d) then .ok (.str (pdm μ d).shown) μ else .no) (KE Z H ad Q) (XW Z H ad) := h
    by_cases c : repOk (pdm μ d) = true
    · rw [if_pos c] at h
      have c' := c
      unfold repOk at c'
      simp only [Bool.and_eq_true, decide_eq_true_eq] at c'
      exact ⟨x, _, rfl, dpm_of m rx c'.1.1.1, c, h _ H ad (.refl m) (.str _)⟩
    · rw [if_neg c] at h
      exact h.elim
  | [], _, h | _ :: _ :: _, _, h => exact h.elim
/-! isinstance -/
theorem tyx_of {K : PySem.W.Frag} {H : Hp} {ad : Pl} {x : V} {d : D} {t : String} (r : Rp K H ad x d) (h : tyN d = some t) : TyX K H x (.type t) := by
  cases r with
  | non => cases h; exact .base .non
  | bl b => cases h; exact .base (.bl b)
  | int i => cases h; exact .base (.int i)
  | str z => cases h; exact .base (.str z)
  | lst a p =>
    cases h
    rcases a with ⟨_, q | ⟨o, q⟩⟩ | ⟨o, its, n, q, c, _⟩
    · exact .base (.lst q)
    · exact .base (.frz q)
    · exact .kList q c
  | tup a p =>
    cases h
    rcases a with ⟨_, q | ⟨o, q⟩⟩ | ⟨o, its, n, q, c, _⟩
    · exact .base (.tup q)
    · exact .fTuple q
    · exact .kTuple q c
  | ref _ => cases h
  | ty _ => cases h
theorem kit_tab : ∀ t ∈ (["NoneType", "bool", "int", "str", "list", "tuple"] : List String), ∀ n ∈ (["int", "bool", "tuple", "list", "str"] : List String),
    kitB t n = some (if n == "int" then (t == "int" || t == "bool") else t == n) := by decide +kernel
theorem v_isa : VA Z (rIsi Z.K) isaF := by
  intro xs ds H ad μ Q m r h
  match ds, r, h with
  | [d, .ty n], r, h =>
    obtain ⟨x, y, rfl, rx, ry⟩ := rps2 r
    cases ry
    obtain ⟨z, e, q⟩ := sat_lft.mp (show Sat (lft ((isaB d n).map D.bl) μ) (KE Z H ad Q) (XW Z H ad) from h)
    obtain ⟨b, e1, e2⟩ := Option.map_eq_some_iff.mp e
    subst e2
    unfold isaB at e1
    obtain ⟨t, ht, e1⟩ := Option.bind_eq_some_iff.mp e1
    have tm : t ∈ (["NoneType", "bool", "int", "str", "list", "tuple"] : List String) := by
      cases d <;> cases ht <;> decide
    refine ⟨x, .ty n, .type t, .type n, b, rfl, .ty n, tyx_of rx ht, kit_ty ?_, ke_bl m q⟩
    by_cases c : (n == "int") = true
    · have e := eq_of_beq c
      subst e
      rw [kit_tab t tm "int" (by decide)]
      rw [if_pos c] at e1
      exact e1
    · rw [if_neg c] at e1
      by_cases c2 : (n == "bool" || n == "tuple" || n == "list" || n == "str") = true
      · rw [if_pos c2] at e1
        have nm : n ∈ (["int", "bool", "tuple", "list", "str"] : List String) := by
          simp only [Bool.or_eq_true, beq_iff_eq] at c2
          rcases c2 with ((e | e) | e) | e <;> subst e <;> decide
        rw [kit_tab t tm n nm, if_neg c]
        exact e1
      · rw [if_neg c2] at e1
        cases e1
  | [], _, h | [_], _, h | [_, .non], _, h | [_, .bl _], _, h | [_, .int _], _, h | [_, .str _], _, h | [_, .lst _], _, h | [_, .tup _], _, h | [_, .ref _], _, h => exact h.elim
  | _ :: e :: _ :: _, _, h => cases e <;> exact h.elim
end
end PX
namespace PX
open PySem PySem.Spec PyProof.Rows L2
variable {Z : Wd}
/-! ### 13. dicts with text keys -/
def putS (kd : List (Str × D)) (k : Str) (d : D) : List (Str × D) :=
  if (kd.any fun p => decide (p.1 = k)) = true then kd.map (fun p => if p.1 = k then (p.1, d) else p) else kd ++ [(k, d)]
def getS (kd : List (Str × D)) (k : Str) : Option D := (kd.find? fun p => decide (p.1 = k)).map (·.2)
section
variable {K : PySem.W.Frag} {H H' : Hp} {ad ad' : Pl} {μ : Mu}
theorem krs_cases {kv : List (Key × V)} {kd : List (Str × D)} (h : KRs K H ad kv kd) : (kv = [] ∧ kd = []) ∨ ∃ k v d kv' kd', kv = (Sum.inr k, v) :: kv' ∧ kd = (k, d) :: kd' ∧ Rp K H ad v d ∧ KRs K H ad kv' kd' := by
  obtain ⟨h1, h2⟩ := h
  cases kv with
  | nil =>
    cases kd with
    | nil => exact .inl ⟨rfl, rfl⟩
    | cons p r => simp at h1
  | cons q kv' =>
    cases kd with
    | nil => simp at h1
    | cons p kd' =>
      obtain ⟨k1, v⟩ := q
      obtain ⟨k, d⟩ := p
      simp only [List.map_cons, List.cons.injEq] at h1
      obtain ⟨e, h1⟩ := h1
      subst e
      cases h2 with
      | cons a r => exact .inr ⟨k, v, d, kv', kd', rfl, rfl, a, h1, r⟩
theorem krs_get (k : Str) : ∀ (kd : List (Str × D)) (kv : List (Key × V)), KRs K H ad kv kd → (getS kd k = none ∧ valV kv (Sum.inr k : Key) = none) ∨ ∃ d v, getS kd k = some d ∧ valV kv (Sum.inr k : Key) = some v ∧ Rp K H ad v d := by
  intro kd
  induction kd with
  | nil =>
    intro kv h
    rcases krs_cases h with ⟨rfl, _⟩ | ⟨_, _, _, _, _, _, e, _⟩
    · exact .inl ⟨rfl, rfl⟩
    · cases e
  | cons p r ih =>
    intro kv h
    rcases krs_cases h with ⟨_, e⟩ | ⟨j, v, d, kv', kd', rfl, e, a, t⟩
    · cases e
    · cases e
      by_cases c : j = k
      · subst c
        exact .inr ⟨d, v, by simp [getS], by rw [valV_pos rfl], a⟩
      · have e1 : getS ((j, d) :: r) k = getS r k := by simp [getS, List.find?_cons, c]
        have e2 : valV ((Sum.inr j, v) :: kv') (Sum.inr k : Key) = valV kv' (Sum.inr k) := valV_neg (fun z => c (Sum.inr.inj z))
        rw [e1, e2]
        exact ih kv' t
theorem krs_any (k : Str) : ∀ (kd : List (Str × D)) (kv : List (Key × V)), KRs K H ad kv kd → (kv.any fun p => decide (p.1 = (Sum.inr k : Key))) = kd.any fun p => decide (p.1 = k) := by
  intro kd
  induction kd with
  | nil =>
    intro kv h
    rcases krs_cases h with ⟨rfl, _⟩ | ⟨_, _, _, _, _, _, e, _⟩
    · rfl
    · cases e
  | cons p r ih =>
    intro kv h
    rcases krs_cases h with ⟨_, e⟩ | ⟨j, v, d, kv', kd', rfl, e, a, t⟩
    · cases e
    · cases e
      rw [List.any_cons, List.any_cons, ih kv' t]
      congr 1
      by_cases c : j = k
      · subst c; simp
      · simp [c]
theorem krs_map {k : Str} {v : V} {d : D} (a : Rp K H ad v d) : ∀ (kd : List (Str × D)) (kv : List (Key × V)), KRs K H ad kv kd →
    KRs K H ad (kv.map fun p => if p.1 = (Sum.inr k : Key) then (p.1, v) else p) (kd.map fun p => if p.1 = k then (p.1, d) else p) := by
  intro kd
  induction kd with
  | nil =>
    intro kv h
    rcases krs_cases h with ⟨rfl, _⟩ | ⟨_, _, _, _, _, _, e, _⟩
    · exact h
    · cases e
  | cons p r ih =>
    intro kv h
    rcases krs_cases h with ⟨_, e⟩ | ⟨j, w, e, kv', kd', rfl, eq, b, t⟩
    · cases e
    · cases eq
      obtain ⟨t1, t2⟩ := ih kv' t
      by_cases c : j = k
      · subst c
        simp only [List.map_cons, if_true]
        exact ⟨by simp only [List.map_cons, t1], .cons a t2⟩
      · have c' : ¬ (Sum.inr j : Key) = Sum.inr k := fun z => c (Sum.inr.inj z)
        simp only [List.map_cons, if_neg c, if_neg c']
        exact ⟨by simp only [List.map_cons, t1], .cons b t2⟩
theorem krs_put {kv : List (Key × V)} {kd : List (Str × D)} (h : KRs K H ad kv kd) {k : Str} {v : V} {d : D} (a : Rp K H ad v d) : KRs K H ad (putK kv (Sum.inr k : Key) v) (putS kd k d) := by
  unfold putK putS
  rw [krs_any k kd kv h]
  split
  · exact krs_map a kd kv h
  · exact ⟨by simp [h.1], by rw [List.map_append, List.map_append]; exact h.2.app (.cons a .nil)⟩
theorem KRs.length {kv : List (Key × V)} {kd : List (Str × D)} (h : KRs K H ad kv kd) : kv.length = kd.length := by
  have := congrArg List.length h.1
  simpa using this
def dkAt (μ : Mu) (n : Nat) : Option (List (Str × D)) := match μ[n]? with
  | some (.dk kd) => some kd
  | _ => none
theorem dkAt_ok (m : MuOk K H ad μ) {n : Nat} {a : Addr} {kd : List (Str × D)} (e : ad.ad[n]? = some a) (h : dkAt μ n = some kd) : ∃ kv, H a = some (.dK kv) ∧ KRs K H ad kv kd := by
  unfold dkAt at h
  cases k : μ[n]? with
  | none => rw [k] at h; cases h
  | some o =>
    rw [k] at h
    cases o with
    | dk kd' => cases h; exact m.so n a _ e k
    | ml es => cases h
end
/-! ### 14. subscripts -/
def ixD (d e : D) : M D := fun μ => match d, e with
  | .tup xs, .int i => lft (atI xs i) μ
  | .ref n, .str k => lft ((dkAt μ n).bind fun kd => getS kd k) μ
  | d, .int i => lft ((asL μ d).bind fun xs => atI xs i) μ
  | _, _ => .no
section
variable {X : Cx}
def rDG : R2 := fun x y H Q => ∃ a v, x = .ref a ∧ DGet H a y (some v) ∧ Q v H
theorem ix_dict (hu : X.A.units + 1 < cLine) : IxR X rDG := by
  intro value slice pins s σ H x y v u Q I rx ry ⟨a, z, ex, g, q⟩ hs
  subst ex
  obtain rfl : v = Value.ref a := rx
  have hT := dict_typeIs I g
  unfold subscriptTail
  refine wpAny_bind ?_
  rw [getitemInPython_of_ne hT.not_modules]
  refine wpAny_bind (wpAny_specialOf hT PySem.F.slot_dict_getitem.lookup ?_)
  have body : wpAny (model X.prog X.w) X.A (subscripted slice false (.ref a) u) (fun r s₃ => wpAny (model X.prog X.w) X.A (letTemporaryGo value (.ref a) r >>= fun _ => pure r) (EP X pins σ Q) X.xe s₃) X.xe s := by
    rw [hs]
    exact wpAny_operating (d_getItem hu I g ry fun w' s3 I3 rw' => wpAny_bind (wpAny_letTemporaryGo (wpAny_pure ⟨z, H, I3, rw', q⟩)))
  first
    | exact wpAny_bind body
    | exact wpAny_pure (wpAny_bind body)
    | exact wpAny_bind (wpAny_pure (wpAny_bind body))
def rIxX (K : PySem.W.Frag) : R2 := fun x y H Q => rIxL K x y H Q ∨ rIxT K x y H Q ∨ rDG x y H Q
theorem ix_X (hu : X.A.units + 1 < cLine) : IxR X (rIxX X.K) := IxR.or ix_list (IxR.or ix_tup (ix_dict hu))
theorem at_rps {K : PySem.W.Frag} {H : Hp} {ad : Pl} {vs : List V} {ds : List D} {i : Int} {d : D} (r : Rps K H ad vs ds) (h : atI ds i = some d) : ∃ v, atI vs i = some v ∧ Rp K H ad v d := by
  unfold atI at h ⊢
  rw [r.length]
  obtain ⟨j, e, h⟩ := Option.bind_eq_some_iff.mp h
  obtain ⟨v, h1, h2⟩ := r.get h
  exact ⟨v, Option.bind_eq_some_iff.mpr ⟨j, e, h1⟩, h2⟩
theorem v_ix : V2 Z (rIxX Z.K) ixD := by
  intro x y d e H ad μ Q m rx ry h0
  have gen : ∀ i, e = .int i → Sat (lft ((asL μ d).bind fun xs => atI xs i) μ) (KE Z H ad Q) (XW Z H ad) → rIxX Z.K x y H Q := fun i ei h => by
    clear h0
    subst ei
    obtain rfl := rp_int ry
    obtain ⟨z, ez, q⟩ := sat_lft.mp h
    obtain ⟨xs, k, hz⟩ := Option.bind_eq_some_iff.mp ez
    obtain ⟨a, vs, rfl, r1, p⟩ := asL_ok m rx k
    obtain ⟨v, hv, rv⟩ := at_rps p hz
    exact .inl ⟨a, vs, i, v, rfl, rfl, r1, hv, q v H ad (.refl m) rv⟩
  cases e with
  | int i =>
    cases d with
    | tup xs =>
      obtain rfl := rp_int ry
      obtain ⟨z, ez, q⟩ := sat_lft.mp (show Sat (lft (atI xs i) μ) (KE Z H ad Q) (XW Z H ad) from h0)
      cases rx with
      | @tup a vs _ ta p =>
        obtain ⟨v, hv, rv⟩ := at_rps p ez
        exact .inr (.inl ⟨a, vs, i, v, rfl, rfl, ta.sq, hv, q v H ad (.refl m) rv⟩)
    | non => exact gen i rfl h0
    | bl _ => exact gen i rfl h0
    | int _ => exact gen i rfl h0
    | str _ => exact gen i rfl h0
    | lst _ => exact gen i rfl h0
    | ref _ => exact gen i rfl h0
    | ty _ => exact gen i rfl h0
  | str k =>
    cases d with
    | ref n =>
      obtain rfl := rp_str ry
      obtain ⟨z, ez, q⟩ := sat_lft.mp (show Sat (lft ((dkAt μ n).bind fun kd => getS kd k) μ) (KE Z H ad Q) (XW Z H ad) from h0)
      obtain ⟨kd, k1, k2⟩ := Option.bind_eq_some_iff.mp ez
      cases rx with
      | @ref a _ ea =>
        obtain ⟨kv, hk, kr⟩ := dkAt_ok m ea k1
        rcases krs_get k kd kv kr with ⟨e1, _⟩ | ⟨d', v, e1, e2, rv⟩
        · rw [e1] at k2; cases k2
        · rw [e1] at k2
          cases k2
          refine .inr (.inr ⟨a, v, rfl, ?_, q v H ad (.refl m) rv⟩)
          have g := DGet.k (k := Sum.inr k) hk
          rw [e2] at g
          exact g
    | _ => exact h0.elim
  | _ => cases d <;> exact h0.elim
/-! ### 15. slices -/
def asI (d : D) : M Int := match d with
  | .int i => rt i
  | _ => stk
def cutD (xs : List D) (lo hi : Option Int) : List D := (xs.drop (HT.sIx xs.length 0 lo)).take (HT.sIx xs.length xs.length hi - HT.sIx xs.length 0 lo)
def slD (d : D) (lo hi : Option Int) : M D := fun μ => match d with
  | .tup xs => .ok (.tup (cutD xs lo hi)) μ
  | d => match asL μ d with
    | some xs => .ok (.lst (cutD xs lo hi)) μ
    | none => .no
theorem cut_rps {K : PySem.W.Frag} {H : Hp} {ad : Pl} {vs : List V} {ds : List D} (r : Rps K H ad vs ds) (lo hi : Option Int) : Rps K H ad (cutV vs lo hi) (cutD ds lo hi) := by
  unfold cutV cutD
  rw [r.length]
  exact (r.drop _).take _
theorem cut_whole {xs : List D} {lo hi : Option Int} (h : HT.sIx xs.length 0 lo = 0 ∧ HT.sIx xs.length xs.length hi = xs.length) : cutD xs lo hi = xs := by
  unfold cutD
  rw [h.1, h.2]
  simp
def rSlX (K : PySem.W.Frag) : V → Option Int → Option Int → Hp → VK → Prop := fun x lo hi H Q => rSlA K x lo hi H Q ∨ ∃ a xs, x = .ref a ∧ SqL K H a xs ∧ ∀ p, H p = none → Q (.ref p) (upd H p (.lst (cutV xs lo hi)))
theorem sl_X : SlR X (rSlX X.K) := SlR.or sl_tupA sl_list
theorem v_sl {x : V} {d : D} {lo hi : Option Int} {H : Hp} {ad : Pl} {μ : Mu} {Q : VK} (m : MuOk Z.K H ad μ) (rx : Rp Z.K H ad x d) (h0 : Sat (slD d lo hi μ) (KE Z H ad Q) (XW Z H ad)) : rSlX Z.K x lo hi H Q := by
  have gen : Sat (match asL μ d with
    | some xs => .ok (.lst (cutD xs lo hi)) μ
    | none => .no) (KE Z H ad Q) (XW Z H ad) → rSlX Z.K x lo hi H Q := fun h => by
    clear h0
    cases k : asL μ d with
    | none => rw [k] at h; exact h.elim
    | some xs =>
      rw [k] at h
      obtain ⟨a, vs, rfl, r1, p⟩ := asL_ok m rx k
      exact .inr ⟨a, vs, rfl, r1, fun q hq => h (.ref q) _ ad (m.new hq) (.newLst m hq (cut_rps p lo hi))⟩
  cases d with
  | tup xs =>
    have rx' := rx
    cases rx with
    | @tup a vs _ ta p =>
      refine .inl ⟨a, vs, rfl, ta.sq, fun w => ?_, fun _ q hq => h0 (.ref q) _ ad (m.new hq) (.newTup m hq (cut_rps p lo hi))⟩
      rw [p.length] at w
      refine h0 (.ref a) H ad (.refl m) ?_
      rw [cut_whole w]
      exact rx'
  | non => exact gen h0
  | bl _ => exact gen h0
  | int _ => exact gen h0
  | str _ => exact gen h0
  | lst _ => exact gen h0
  | ref _ => exact gen h0
  | ty _ => exact gen h0
def tO (Z : Wd) (m : Rho → M (Option Int)) : TO := fun σ H Q => ∃ ad ρ μ, Gd Z.K H ad σ ρ μ ∧ σ.length = Z.n ∧ Sat (m ρ μ) (fun o μ' => ∀ H' ad', Nx Z.K H ad H' ad' μ' → Q o H') (XW Z H ad)
theorem POi {e : Option Expr} {t t' : TO} (h : PO X e t) (w : ∀ σ H Q, t' σ H Q → t σ H Q) : PO X e t' := by
  obtain ⟨r⟩ := h
  exact ⟨fun pins s σ H Q I q => r pins s σ H Q I (w σ H Q q)⟩
theorem x_noPart : PO X none (tO Z fun _ => rt none) := POi po_none fun σ H Q ⟨ad, ρ, μ, g, hl, h⟩ => h H ad (.refl g.mu)
theorem x_part {e : Expr} {me : Rho → M D} (h : PE X e (tE Z me)) : PO X (some e) (tO Z fun ρ => bd (me ρ) fun d => bd (asI d) fun i => rt (some i)) :=
  POi (po_some h) fun σ H Q ⟨ad, ρ, μ, g, hl, h⟩ => step g hl h fun v d H1 ad1 μ1 n1 g1 r1 q1 => by
    cases d with
    | int i => exact ⟨i, rp_int r1, q1 H1 ad1 n1⟩
    | _ => exact q1.elim
theorem x_slice {a : Expr} {lo hi : Option Expr} {ma : Rho → M D} {ml mh : Rho → M (Option Int)} {p2 pos : Pos} (ha : PE X a (tE Z ma)) (hl : PO X lo (tO Z ml)) (hh : PO X hi (tO Z mh)) (hK : X.K = Z.K) :
    PE X (.Subscript a (.Slice lo hi none p2) pos) (tE Z fun ρ => bd (ma ρ) fun x => bd (ml ρ) fun l => bd (mh ρ) fun u => slD x l u) :=
  PEi (pe_slice sl_X ha hl hh) fun σ H Q ⟨ad, ρ, μ, g, hn, h⟩ => step g hn h fun v d H1 ad1 μ1 n1 g1 r1 q1 => by
    refine ⟨ad1, ρ, μ1, g1, hn, (sat_bd.mp q1).imp fun l μ2 q2 H2 ad2 n2 => ?_⟩
    refine ⟨ad2, ρ, μ2, g1.nx n2, hn, ((sat_bd.mp q2).imp fun u μ3 q3 H3 ad3 n3 => ?_).mono (fun _ _ z => z) fun _ _ z => z.nx n2⟩
    rw [hK]
    exact v_sl n3.mu (Rp.grow (n2.trans n3).gr d v r1) (q3.mono (fun _ _ z => z.nx ((n1.trans n2).trans n3)) fun _ _ z => z.nx (n2.trans n3))
end
end PX
namespace PX
open PySem PySem.Spec PyProof.Rows L2
variable {Z : Wd}
/-! ### 16. defs: what a call is worth -/
structure FnG (P : Program) (w : World) (K : PySem.W.Frag) (mg : Str → Option Value) (base : Heap) (k : Nat) (f : Addr) (fd : FuncData) (ps : List Str) (sp : Sp) : Prop where
  len : ∀ vs H Q E, sp vs H Q E → vs.length = ps.length
  run : ∀ (A : Around) (outer : List Env) (s : Shared) (H : Hp) (args : Args) (us : List Value) (vs : List V) (Q : VK) (E : XK), Room k A → A.guards = some [] → Env0 P w K mg base A outer s H →
    BindsTo s fd args (ps.zip us) → Vals vs us → sp vs H Q E → codeAny (model P w) A (.call (.ref f) args) (CR (L2.CX P w) outer P w H s Q E) s
/-- the promise of a def that reckons F -/
def XF (mg : Str → Option Value) (K : PySem.W.Frag) (H : Hp) (ad : Pl) (E : XK) : Xn → Mu → Prop := fun x μ' => ∀ cls dd H' ad', Nx K H ad H' ad' μ' → Xp mg K H' ad' x cls dd → E cls dd H'
def KF (K : PySem.W.Frag) (H : Hp) (ad : Pl) (Q : VK) : D → Mu → Prop := fun d μ' => ∀ v H' ad', Nx K H ad H' ad' μ' → Rp K H' ad' v d → Q v H'
def spF (mg : Str → Option Value) (K : PySem.W.Frag) (n : Nat) (F : List D → M D) : Sp := fun vs H Q E => ∃ ad μ ds, MuOk K H ad μ ∧ Rps K H ad vs ds ∧ ds.length = n ∧ Sat (F ds μ) (KF K H ad Q) (XF mg K H ad E)
/-- the arguments in the parameters' order -/
def pick {α : Type} (pm : List Nat) (l : List α) : List α := pm.filterMap fun i => l[i]?
theorem pick_rps {K : PySem.W.Frag} {H : Hp} {ad : Pl} {vs : List V} {ds : List D} (r : Rps K H ad vs ds) : ∀ pm : List Nat, Rps K H ad (pick pm vs) (pick pm ds)
  | [] => .nil
  | i :: pm => by
    have ih := pick_rps r pm
    unfold pick at ih ⊢
    cases e : ds[i]? with
    | none =>
      have e2 : vs[i]? = none := by
        rw [List.getElem?_eq_none_iff] at e ⊢
        rw [r.length]
        exact e
      rw [List.filterMap_cons, List.filterMap_cons, e, e2]
      exact ih
    | some d =>
      obtain ⟨v, e2, q⟩ := r.get e
      rw [List.filterMap_cons, List.filterMap_cons, e, e2]
      exact .cons q ih
theorem pick_vals {vs : List V} {us : List Value} (r : Vals vs us) : ∀ pm : List Nat, Vals (pick pm vs) (pick pm us)
  | [] => .nil
  | i :: pm => by
    have ih := pick_vals r pm
    unfold pick at ih ⊢
    cases e : vs[i]? with
    | none =>
      rw [List.filterMap_cons, List.filterMap_cons, e, r.none_of e]
      exact ih
    | some d =>
      obtain ⟨v, e2, q⟩ := r.get e
      rw [List.filterMap_cons, List.filterMap_cons, e, e2]
      exact .cons q ih
/-- a form of call: so many by place, these by name; how the parameters take them -/
structure Shape where
  np : Nat
  ks : List Str
  pm : List Nat
def BindOk (K : PySem.W.Frag) (fd : FuncData) (ps : List Str) (S : Shape) : Prop := ∀ (s : Shared) (us ws : List Value), K.In s.heap → us.length = S.np → ws.length = S.ks.length → BindsTo s fd ⟨us, S.ks.zip ws⟩ (ps.zip (pick S.pm (us ++ ws)))
section
variable {X : Cx} {k : Nat} {f : Addr} {fd : FuncData} {ps : List Str} {F : List D → M D} {x : Str} {p pos : Pos} {e : Expr} {es : List Expr} {kws : List Keyword} {ms mk : List (Rho → M D)} {S : Shape}
theorem x_kwnil : PK X [] (tA Z (evA [])) := ⟨fun pos pins s σ H Q I h => pk_nil.run pos pins s σ H Q I (let ⟨ad, ρ, μ, g, hl, q⟩ := h; q [] H ad (.refl g.mu) .nil)⟩
theorem x_kwcons {nm : Option Str} {kpos : Pos} {me : Rho → M D} (ha : PE X e (tE Z me)) (hr : PK X kws (tA Z (evA mk))) : PK X (⟨nm, e, kpos⟩ :: kws) (tA Z (evA (me :: mk))) :=
  ⟨fun pos pins s σ H Q I h => (pk_cons ha hr).run pos pins s σ H Q I (by
    obtain ⟨ad, ρ, μ, g, hl, h⟩ := h
    exact step g hl h fun v d H1 ad1 μ1 n1 g1 r1 q1 => stepA g1 hl q1 fun vs ds H2 ad2 μ2 n2 g2 r2 q2 => q2 (v :: vs) H2 ad2 (n1.trans n2) (.cons (Rp.grow n2.gr d v r1) r2))⟩
/-- the callee runs -/
theorem run_G {pins : List (Addr × Obj)} {σ : L2.St} {H : Hp} {s : Shared} {Q : VK} {us ws : List Value} {vs zs : List V} {ds es : List D} {ad : Pl} {μ : Mu} (Fn : FnG X.prog X.w X.K X.mg X.base k f fd ps (spF X.mg X.K ps.length F))
    (hr : Room k X.A) (hgd : X.A.guards = some []) (hb : BindOk X.K fd ps S) (tk : Takes X Z.W) (hK : Z.K = X.K) (hmg : Z.mg = X.mg) (hl : σ.length = Z.n) (I : Inv X pins σ H s) (r : Vals vs us) (rz : Vals zs ws) (m : MuOk Z.K H ad μ)
    (rp : Rps Z.K H ad vs ds) (rq : Rps Z.K H ad zs es) (l1 : us.length = S.np) (l2 : ws.length = S.ks.length) (l3 : (pick S.pm (ds ++ es)).length = ps.length) (h : Sat (F (pick S.pm (ds ++ es)) μ) (KE Z H ad Q) (XW Z H ad)) :
    wpAny (model X.prog X.w) X.A (call (.ref f) us (S.ks.zip ws)) (EP X pins σ Q) X.xe s := by
  have go : spF X.mg X.K ps.length F (pick S.pm (vs ++ zs)) H Q (WE Z.W σ) := by
    refine ⟨ad, μ, _, hK ▸ m, hK ▸ pick_rps (rp.app rq) S.pm, l3, h.mono (fun d μ' q v H' ad' n r => ?_) fun y μ' q cls dd H' ad' n xp => ?_⟩
    · rw [← hK] at n r
      exact q v H' ad' n r
    · rw [← hK] at n xp
      rw [← hmg] at xp
      exact q cls dd σ H' ad' hl n xp
  refine wpAny_call (codeAny_mono (Fn.run X.A X.stack s H ⟨us, S.ks.zip ws⟩ _ _ Q (WE Z.W σ) hr hgd I.env0 (hb s us ws I.kIn l1 l2) (pick_vals (r.append rz) S.pm) go) fun r s' hq => ?_)
  cases r with
  | error e => exact passAt tk σ pins H s e s' I hq
  | ok fl =>
    cases fl with
    | ret u => exact I.after hq
    | next => exact False.elim hq
    | brk => exact False.elim hq
    | cont => exact False.elim hq
def callM (F : List D → M D) (S : Shape) (n : Nat) (ds es : List D) : M D := if ds.length = S.np ∧ es.length = S.ks.length ∧ (pick S.pm (ds ++ es)).length = n then F (pick S.pm (ds ++ es)) else stk
theorem callM_ok {ds es : List D} {n : Nat} {μ : Mu} {L : D → Mu → Prop} {E : Xn → Mu → Prop} (h : Sat (callM F S n ds es μ) L E) : (ds.length = S.np ∧ es.length = S.ks.length ∧ (pick S.pm (ds ++ es)).length = n) ∧ Sat (F (pick S.pm (ds ++ es)) μ) L E := by
  unfold callM at h
  by_cases c : ds.length = S.np ∧ es.length = S.ks.length ∧ (pick S.pm (ds ++ es)).length = n
  · rw [if_pos c] at h
    exact ⟨c, h⟩
  · rw [if_neg c] at h
    exact h.elim
theorem x_call (Fn : FnG X.prog X.w X.K X.mg X.base k f fd ps (spF X.mg X.K ps.length F)) (hr : Room k X.A) (hgd : X.A.guards = some []) (hb : BindOk X.K fd ps S) (tk : Takes X Z.W) (hK : Z.K = X.K) (hmg : Z.mg = X.mg)
    (hg : Gl X x) (hm : X.mg x = some (.ref f)) (hk : PySem.W.keepIn X.K (.ref f) = true) (ha : PA X (e :: es) (tA Z (evA ms))) (hkw : PK X kws (tA Z (evA mk))) (hall : (backToKw pos (keywordEach kws X.env)).all (·.1.isSome) = true)
    (hks : (backToKw pos (keywordEach kws X.env)).filterMap (·.1) = S.ks) (hdb : (x == ("__debug__" : Str)) = false) (he : starEach (e :: es) X.env = (false, eval e X.env) :: starEach es X.env)
    (hpl : ((backTo pos (starEach (e :: es) X.env)).any (·.1) || (backToKw pos (keywordEach kws X.env)).any (·.1.isNone)) = false) :
    PE X (.Call (.Name x p) (e :: es) kws pos) (tE Z fun ρ => bd (evA ms ρ) fun ds => bd (evA mk ρ) fun zs => callM F S ps.length ds zs) := by
  refine ⟨fun pins s σ H Q I ⟨ad, ρ, μ, g, hl, h⟩ => ?_⟩
  refine wpAny_Call_Name_kw (ld_glob I hg hm ?_ hdb)
  have first : tA Z (evA ms) σ H fun vs H1 => ∃ ad1 μ1, Nx Z.K H ad H1 ad1 μ1 ∧ Gd Z.K H1 ad1 σ ρ μ1 ∧ ∃ ds, Rps Z.K H1 ad1 vs ds ∧ Sat (bd (evA mk ρ) (fun zs => callM F S ps.length ds zs) μ1) (KE Z H ad Q) (XW Z H1 ad1) :=
    stepA g hl h fun vs ds H1 ad1 μ1 n1 g1 r1 q1 => ⟨ad1, μ1, n1, g1, ds, r1, q1⟩
  refine PySem.W.callWith_KW (h₀ := X.base) I.ok.mod.kin hk hall (thn (ha.run pos pins s σ H _ I first) fun us s1 ⟨vs, H1, I1, rv, ad1, μ1, n1, g1, ds, r1, q1⟩ => ?_) hpl he
  have second : tA Z (evA mk) σ H1 fun zs H2 => ∃ ad2 μ2, Nx Z.K H1 ad1 H2 ad2 μ2 ∧ ∃ es', Rps Z.K H2 ad2 zs es' ∧ Sat (callM F S ps.length ds es' μ2) (KE Z H ad Q) (XW Z H2 ad2) :=
    stepA g1 hl q1 fun zs es' H2 ad2 μ2 n2 g2 r2 q2 => ⟨ad2, μ2, n2, es', r2, q2⟩
  refine thn (hkw.run pos pins s1 σ H1 _ I1 second) fun ws s2 ⟨zs, H2, I2, rz, ad2, μ2, n2, es', r2, q2⟩ => ⟨I2.kIn, ?_⟩
  rw [hks]
  obtain ⟨⟨c1, c2, c3⟩, q3⟩ := callM_ok q2
  refine run_G (F := F) Fn hr hgd hb tk hK hmg hl I2 rv rz n2.mu (Rps.grow n2.gr _ _ r1) r2 ?_ ?_ c3 (q3.imp fun _ _ z => z.nx (n1.trans n2))
  · show us.length = S.np
    rw [← rv.length, r1.length, c1]
  · rw [← rz.length, r2.length, c2]
theorem x_call0 (Fn : FnG X.prog X.w X.K X.mg X.base k f fd ps (spF X.mg X.K ps.length F)) (hr : Room k X.A) (hgd : X.A.guards = some []) (hb : BindOk X.K fd ps S) (tk : Takes X Z.W) (hK : Z.K = X.K) (hmg : Z.mg = X.mg)
    (hg : Gl X x) (hm : X.mg x = some (.ref f)) (hk : PySem.W.keepIn X.K (.ref f) = true) (hkw : PK X kws (tA Z (evA mk))) (hall : (backToKw pos (keywordEach kws X.env)).all (·.1.isSome) = true)
    (hks : (backToKw pos (keywordEach kws X.env)).filterMap (·.1) = S.ks) (hdb : (x == ("__debug__" : Str)) = false)
    (hpl : ((backTo pos (starEach [] X.env)).any (·.1) || (backToKw pos (keywordEach kws X.env)).any (·.1.isNone)) = false) :
    PE X (.Call (.Name x p) [] kws pos) (tE Z fun ρ => bd (evA [] ρ) fun ds => bd (evA mk ρ) fun zs => callM F S ps.length ds zs) := by
  refine ⟨fun pins s σ H Q I ⟨ad, ρ, μ, g, hl, h⟩ => ?_⟩
  refine wpAny_Call_Name_kw (ld_glob I hg hm ?_ hdb)
  have second : tA Z (evA mk) σ H fun zs H2 => ∃ ad2 μ2, Nx Z.K H ad H2 ad2 μ2 ∧ ∃ es', Rps Z.K H2 ad2 zs es' ∧ Sat (callM F S ps.length [] es' μ2) (KE Z H ad Q) (XW Z H2 ad2) :=
    stepA g hl h fun zs es' H2 ad2 μ2 n2 g2 r2 q2 => ⟨ad2, μ2, n2, es', r2, q2⟩
  refine PySem.W.callWith_KW0 (h₀ := X.base) I.ok.mod.kin hk hall (thn (hkw.run pos pins s σ H _ I second) fun ws s2 ⟨zs, H2, I2, rz, ad2, μ2, n2, es', r2, q2⟩ => ⟨I2.kIn, ?_⟩) hpl
  rw [hks]
  obtain ⟨⟨c1, c2, c3⟩, q3⟩ := callM_ok q2
  refine run_G (F := F) Fn hr hgd hb tk hK hmg hl I2 .nil rz n2.mu .nil r2 c1 ?_ c3 (q3.imp fun _ _ z => z.nx n2)
  rw [← rz.length, r2.length, c2]
end
/-! ### 17. statements -/
def seqS (m : M Fl) (k : Rho → M Fl) : M Fl := bd m fun f => match f with
  | .nx ρ => k ρ
  | f => rt f
section
variable {X : Cx} {st : Stmt} {rest : List Stmt} {m m2 : Rho → M Fl} {me : Rho → M D} {e : Expr} {pos : Pos} {tm : Rho → M Bool}
theorem s_nil : PSs X [] (tS Z fun ρ => rt (.nx ρ)) := PSsi pss_nil fun D σ H ⟨ad, ρ, μ, g, hl, h⟩ => h σ H ad (.refl g.mu) g hl
theorem s_cons (h1 : PS X st (tS Z m)) (h2 : PSs X rest (tS Z m2)) : PSs X (st :: rest) (tS Z fun ρ => seqS (m ρ) m2) :=
  PSsi (pss_cons h1 h2) fun D σ H ⟨ad, ρ, μ, g, hl, h⟩ => ⟨ad, ρ, μ, g, hl, (sat_bd.mp h).imp fun f μ1 q => by
    cases f with
    | nx ρ1 => exact fun σ' H' ad' n g' l' => ⟨ad', ρ1, μ1, g', l', q.mono (fun _ _ z => z.nx n) fun _ _ z => z.nx n⟩
    | rt d => exact q
    | bk ρ1 => exact q
    | ct ρ1 => exact q⟩
theorem s_pass : PS X (.Pass pos) (tS Z fun ρ => rt (.nx ρ)) := PSi ps_pass fun D σ H ⟨ad, ρ, μ, g, hl, h⟩ => h σ H ad (.refl g.mu) g hl
theorem s_break : PS X (.Break pos) (tS Z fun ρ => rt (.bk ρ)) := PSi ps_break fun D σ H ⟨ad, ρ, μ, g, hl, h⟩ => h σ H ad (.refl g.mu) g hl
theorem s_cont : PS X (.Continue pos) (tS Z fun ρ => rt (.ct ρ)) := PSi ps_continue fun D σ H ⟨ad, ρ, μ, g, hl, h⟩ => h σ H ad (.refl g.mu) g hl
theorem s_ret (he : PE X e (tE Z me)) : PS X (.Return (some e) pos) (tS Z fun ρ => bd (me ρ) fun d => rt (.rt d)) :=
  PSi (ps_ret he) fun D σ H ⟨ad, ρ, μ, g, hl, h⟩ => step g hl h fun v d H1 ad1 μ1 n1 g1 r1 q1 => q1 v H1 ad1 n1 r1
theorem s_retN : PS X (.Return none pos) (tS Z fun _ => rt (.rt .non)) := PSi ps_retN fun D σ H ⟨ad, ρ, μ, g, hl, h⟩ => h .non H ad (.refl g.mu) .non
theorem s_expr (he : PE X e (tE Z me)) (hs : swapsWith e none pos.line X.env = pure false) : PS X (.Expr e pos) (tS Z fun ρ => bd (me ρ) fun _ => rt (.nx ρ)) :=
  PSi (ps_expr he hs) fun D σ H ⟨ad, ρ, μ, g, hl, h⟩ => step g hl h fun v d H1 ad1 μ1 n1 g1 r1 q1 => q1 σ H1 ad1 n1 g1 hl
theorem s_if {c : Expr} {a b : List Stmt} (hc : PT X c (tT Z tm)) (ha : PSs X a (tS Z m)) (hb : PSs X b (tS Z m2)) : PS X (.If c a b pos) (tS Z fun ρ => ifB (tm ρ) (m ρ) (m2 ρ)) :=
  PSi (ps_if hc ha hb) fun D σ H ⟨ad, ρ, μ, g, hl, h⟩ => stepT g hl h fun b H1 ad1 μ1 n1 g1 q1 => by
    cases b with
    | true => exact iteT ⟨ad1, ρ, μ1, g1, hl, q1.imp fun _ _ z => z.nx n1⟩
    | false => exact iteF ⟨ad1, ρ, μ1, g1, hl, q1.imp fun _ _ z => z.nx n1⟩
theorem s_set {i : Nat} {x : Str} {pos' : Pos} (hN : X.N.Nodup) (hi : X.N[i]? = some x) (hx : Loc X.env.scope x) (he : PE X e (tE Z me)) (hs : swapsWith e (some (.Name x pos')) pos.line X.env = pure false) (hf : X.fn x = true ∨ X.env.scope.names.lookup x = some .local) :
    PS X (.Assign [.Name x pos'] e pos) (tS Z fun ρ => bd (me ρ) fun d => rt (.nx (ρ.set i (some d)))) :=
  PSi (ps_set hN hi hx he hs hf) fun D σ H ⟨ad, ρ, μ, g, hl, h⟩ => step g hl h fun v d H1 ad1 μ1 n1 g1 r1 q1 => q1 _ H1 ad1 n1 (g1.set r1 i) (by rw [List.length_set]; exact hl)
/-! targets of several names -/
inductive Tg where
  | v (i : Nat)
  | t (is : List Nat)
def Tg.slots : Tg → List Nat
  | .v i => [i]
  | .t is => is
/-- all slots but those at is stand -/
def Off (is : List Nat) (σ σ' : L2.St) : Prop := ∀ i, i ∉ is → σ'[i]? = σ[i]?
def setAll : List Nat → List D → Rho → Option Rho
  | [], [], ρ => some ρ
  | i :: is, d :: ds, ρ => setAll is ds (ρ.set i (some d))
  | _, _, _ => none
def setTg (t : Tg) (d : D) (ρ : Rho) : Option Rho := match t with
  | .v i => some (ρ.set i (some d))
  | .t is => match d with
    | .tup ds => setAll is ds ρ
    | _ => none
/-- a target's reading -/
def tG (Z : Wd) (t : Tg) : TG := fun v σ H Q => ∃ ad ρ μ d ρ', Gd Z.K H ad σ ρ μ ∧ σ.length = Z.n ∧ Rp Z.K H ad v d ∧ setTg t d ρ = some ρ' ∧ ∀ σ', Gd Z.K H ad σ' ρ' μ → σ'.length = Z.n → Off t.slots σ σ' → Q σ' H
theorem PGi {t t' : TG} (h : PG X e t) (w : ∀ v σ H Q, t' v σ H Q → t v σ H Q) : PG X e t' := by
  obtain ⟨r⟩ := h
  exact ⟨fun pins s σ H v u Q I rv q => r pins s σ H v u Q I rv (w v σ H Q q)⟩
theorem g_name {i : Nat} {x : Str} (hN : X.N.Nodup) (hi : X.N[i]? = some x) (hx : Loc X.env.scope x) (hf : X.fn x = true ∨ X.env.scope.names.lookup x = some .local) : PG X (.Name x pos) (tG Z (.v i)) :=
  PGi (pg_name hN hi hx hf) fun v σ H Q ⟨ad, ρ, μ, d, ρ', g, hl, r, e, h⟩ => by
    cases e
    exact h _ (g.set r i) (by rw [List.length_set]; exact hl) fun j hj => List.getElem?_set_ne (fun z => hj (by rw [← z]; exact List.mem_singleton.mpr rfl))
def tGs (Z : Wd) (is : List Nat) : TGs := fun vs σ H Q => ∃ ad ρ μ ds ρ', Gd Z.K H ad σ ρ μ ∧ σ.length = Z.n ∧ Rps Z.K H ad vs ds ∧ setAll is ds ρ = some ρ' ∧ ∀ σ', Gd Z.K H ad σ' ρ' μ → σ'.length = Z.n → Off is σ σ' → Q σ' H
theorem PGsi {es : List Expr} {t t' : TGs} (h : PGs X es t) (w : ∀ v σ H Q, t' v σ H Q → t v σ H Q) : PGs X es t' := by
  obtain ⟨r⟩ := h
  exact ⟨fun pins s σ H v u Q I rv q => r pins s σ H v u Q I rv (w v σ H Q q)⟩
theorem gs_nil : PGs X [] (tGs Z []) := PGsi pgs_nil fun vs σ H Q ⟨ad, ρ, μ, ds, ρ', g, hl, r, e, h⟩ => by
  cases ds with
  | nil =>
    cases r
    cases e
    exact ⟨rfl, h σ g hl fun _ _ => rfl⟩
  | cons d ds => cases e
theorem gs_cons {x : Str} {es : List Expr} {i : Nat} {is : List Nat} {p : Pos} (hN : X.N.Nodup) (hi : X.N[i]? = some x) (hx : Loc X.env.scope x) (hf : X.fn x = true ∨ X.env.scope.names.lookup x = some .local) (hr : PGs X es (tGs Z is))
    (hs : (assignEach (.Name x p :: es) X.env).map (·.2) = assign (.Name x p) X.env :: (assignEach es X.env).map (·.2)) : PGs X (.Name x p :: es) (tGs Z (i :: is)) :=
  PGsi (pgs_cons (pg_name hN hi hx hf) hr hs) fun vs σ H Q ⟨ad, ρ, μ, ds, ρ', g, hl, r, e, h⟩ => by
    cases ds with
    | nil => cases e
    | cons d ds =>
      cases r with
      | cons a r => exact ⟨_, _, rfl, ad, ρ.set i (some d), μ, ds, ρ', g.set a i, by rw [List.length_set]; exact hl, r, e, fun σ' g' l' o => h σ' g' l' fun j hj =>
          (o j fun z => hj (List.mem_cons_of_mem _ z)).trans (List.getElem?_set_ne fun z => hj (by rw [← z]; exact List.mem_cons_self))⟩
theorem setAll_len : ∀ {is : List Nat} {ds : List D} {ρ ρ' : Rho}, setAll is ds ρ = some ρ' → ds.length = is.length
  | [], [], _, _, _ => rfl
  | [], _ :: _, _, _, h => nomatch h
  | _ :: _, [], _, _, h => nomatch h
  | i :: is, d :: ds, _, _, h => congrArg (· + 1) (setAll_len (is := is) (ds := ds) h)
theorem g_tup {es : List Expr} {kk : Nat} {is : List Nat} (hc : X.calm = true) (hK : Z.K = X.K) (h : PGs X es (tGs Z is)) (hn : (assignEach es X.env).length = is.length) (hst : (assignEach es X.env).findIdx? (·.1) = none) : PG X (.Tuple es kk pos) (tG Z (.t is)) :=
  PGi (pg_tup hc h hn hst) fun v σ H Q ⟨ad, ρ, μ, d, ρ', g, hl, r, e, h⟩ => by
    cases d with
    | tup ds =>
      have e : setAll is ds ρ = some ρ' := e
      cases r with
      | @tup a vs _ ta p => exact ⟨a, vs, rfl, hK ▸ ta.sq, by rw [p.length, setAll_len e], ad, ρ, μ, ds, ρ', g, hl, p, e, h⟩
    | _ => cases e
theorem s_asg {tg : Expr} {t : Tg} (he : PE X e (tE Z me)) (hg : PG X tg (tG Z t)) (hs : swapsWithSole [tg] e pos.line X.env = pure false) (hw : swappedStores [tg] e X.env = pure none) (h1 : (assignEach [tg] X.env).map (·.2) = [assign tg X.env]) :
    PS X (.Assign [tg] e pos) (tS Z fun ρ => bd (me ρ) fun d => bd (lft (setTg t d ρ)) fun ρ' => rt (.nx ρ')) :=
  PSi (ps_asg he hg hs hw h1) fun D σ H ⟨ad, ρ, μ, g, hl, h⟩ => step g hl h fun v d H1 ad1 μ1 n1 g1 r1 q1 => by
    obtain ⟨ρ', e, q⟩ := sat_lft.mp (sat_bd.mp q1)
    exact ⟨ad1, ρ, μ1, d, ρ', g1, hl, r1, e, fun σ' g' l' _ => q σ' H1 ad1 n1 g' l'⟩
/-- a, b = x, y with plain local names -/
theorem s_par {i j : Nat} {x y : Str} {a b : Expr} {ms : List (Rho → M D)} {px py pt : Pos} {kt k2 : Nat} {pt2 : Pos} (hc : X.calm = true) (hN : X.N.Nodup) (hi : X.N[i]? = some x) (hj : X.N[j]? = some y) (hij : i ≠ j)
    (hx : X.env.scope.names.lookup x = some .local) (hy : X.env.scope.names.lookup y = some .local) (ha : PA X [a, b] (tA Z (evA ms)))
    (hw : swappedStores [.Tuple [.Name x px, .Name y py] kt pt] (.Tuple [a, b] k2 pt2) X.env = pure (some [x, y]))
    (hs : swapsWithSole [.Tuple [.Name x px, .Name y py] kt pt] (.Tuple [a, b] k2 pt2) pos.line X.env = pure false) :
    PS X (.Assign [.Tuple [.Name x px, .Name y py] kt pt] (.Tuple [a, b] k2 pt2) pos) (tS Z fun ρ => bd (bd (evA ms ρ) mkT) fun d => bd (lft (setTg (.t [i, j]) d ρ)) fun ρ' => rt (.nx ρ')) :=
  PSi (ps_par hc hN hi hj hij hx hy ha hw hs) fun D σ H ⟨ad, ρ, μ, g, hl, h⟩ => by
    have h' : Sat (bd (evA ms ρ) (fun ds => bd (mkT ds) fun d => bd (lft (setTg (.t [i, j]) d ρ)) fun ρ' => rt (.nx ρ')) μ) (KS Z H ad D) (XW Z H ad) :=
      sat_bd.mpr ((sat_bd.mp (sat_bd.mp h)).imp fun ds μ1 q => sat_bd.mpr q)
    refine stepA g hl h' fun vs ds H1 ad1 μ1 n1 g1 r1 q1 => ?_
    have q2 := sat_bd.mp q1
    unfold mkT at q2
    by_cases hz : ds.length ≤ 1000000
    · rw [if_pos hz] at q2
      obtain ⟨ρ', e, q⟩ := sat_lft.mp (sat_bd.mp q2)
      have e : setAll [i, j] ds ρ = some ρ' := e
      match ds, e, r1 with
      | [d1, d2], e, r1 =>
        cases e
        obtain ⟨v, w, rfl, a1, a2⟩ := rps2 r1
        exact ⟨v, w, rfl, q _ H1 ad1 n1 ((g1.set a1 i).set a2 j) (by rw [List.length_set, List.length_set]; exact hl)⟩
      | [], e, _ => cases e
      | [_], e, _ => cases e
      | _ :: _ :: _ :: _, e, _ => cases e
    · rw [if_neg hz] at q2
      exact q2.elim
end
end PX
namespace PX
open PySem PySem.Spec PyProof.Rows L2
variable {Z : Wd}
/-! ### 18. what is walked -/
/-- the data of a state stands in another one -/
structure Std (H0 : Hp) (ad0 : Pl) (H : Hp) (ad : Pl) : Prop where
  keep : ∀ b o, ad0.out b → H0 b = some o → ad.out b ∧ H b = some o
  at_ : ∀ (n : Nat) (a : Addr), ad0.ad[n]? = some a → ad.ad[n]? = some a
theorem Grow.std {H0 H : Hp} {ad0 ad : Pl} (g : Grow H0 ad0 H ad) : Std H0 ad0 H ad := ⟨fun b o hb q => ⟨g.nin hb q, g.keep b o hb.1 q⟩, fun _ _ => g.at⟩
section
variable {K : PySem.W.Frag} {H0 H H2 : Hp} {ad0 ad ad2 : Pl}
theorem Std.trans (a : Std H0 ad0 H ad) (b : Std H ad H2 ad2) : Std H0 ad0 H2 ad2 := ⟨fun c o hc q => let ⟨h1, h2⟩ := a.keep c o hc q; b.keep c o h1 h2, fun n c e => b.at_ n c (a.at_ n c e)⟩
theorem Std.rd (s : Std H0 ad0 H ad) {a : Addr} {u : HO} (hb : ad0.out a) (r : Rd H0 a u) : ad.out a ∧ Rd H a u := by
  rcases r with r | ⟨o, r⟩
  · exact ⟨(s.keep a _ hb r).1, .inl (s.keep a _ hb r).2⟩
  · exact ⟨(s.keep a _ hb r).1, .inr ⟨o, (s.keep a _ hb r).2⟩⟩
theorem LstAt.std (s : Std H0 ad0 H ad) {a : Addr} {xs : List V} (h : LstAt K H0 ad0 a xs) : LstAt K H ad a xs := h.elim (fun z => .inl (s.rd z.1 z.2)) .inr
theorem TupAt.std (s : Std H0 ad0 H ad) {a : Addr} {xs : List V} (h : TupAt K H0 ad0 a xs) : TupAt K H ad a xs := h.elim (fun z => .inl (s.rd z.1 z.2)) .inr
theorem Rp.std (s : Std H0 ad0 H ad) (d : D) (v : V) (h : Rp K H0 ad0 v d) : Rp K H ad v d := Rp.map (fun _ _ => .std s) (fun _ _ => .std s) s.at_ d v h
theorem Rps.std (s : Std H0 ad0 H ad) (d : List D) (v : List V) (h : Rps K H0 ad0 v d) : Rps K H ad v d := Rps.map (fun _ _ => .std s) (fun _ _ => .std s) s.at_ d v h
end
/-- turn by turn it gives what the data ds stand for -/
structure Yields (K : PySem.W.Frag) (H0 : Hp) (ad0 : Pl) (J : It) (ds : List D) : Prop where
  go : ∀ (H : Hp) (ad : Pl) (i : Nat), Std H0 ad0 H ad → i < ds.length → J.go i H
  stop : ∀ (H : Hp) (ad : Pl), Std H0 ad0 H ad → J.stop ds.length H
  yld : ∀ (H : Hp) (ad : Pl) (μ : Mu) (i : Nat) (x : V) (H' : Hp) (d : D), Std H0 ad0 H ad → MuOk K H ad μ → ds[i]? = some d → J.yld i H x H' → Nx K H ad H' ad μ ∧ Rp K H' ad x d
def tI (Z : Wd) (m : Rho → M (List D)) : TI := fun σ H R => ∃ ad ρ μ, Gd Z.K H ad σ ρ μ ∧ σ.length = Z.n ∧
  Sat (m ρ μ) (fun ds μ' => ∀ J H' ad', Nx Z.K H ad H' ad' μ' → Yields Z.K H' ad' J ds → R J H') (XW Z H ad)
theorem PIi {X : Cx} {tg e : Expr} {t t' : TI} (h : PI X tg e t) (w : ∀ σ H R, t' σ H R → t σ H R) : PI X tg e t' := ⟨fun pins s σ H R I q => h.run pins s σ H R I (w σ H R q)⟩
theorem yields_list {K : PySem.W.Frag} {H : Hp} {ad : Pl} {a : Addr} {vs : List V} {ds : List D} (h : LstAt K H ad a vs) (r : Rps K H ad vs ds) : Yields K H ad (Itl K a) ds where
  go := fun H' ad' i g hi => by
    obtain ⟨v, hv, _⟩ := r.get (List.getElem?_eq_getElem hi)
    exact ⟨vs, v, (h.std g).sq, hv⟩
  stop := fun H' ad' g => ⟨vs, (h.std g).sq, by rw [r.length]; exact Nat.le_refl _⟩
  yld := fun H' ad' μ i x H2 d g m hd ⟨e, hy⟩ => by
    subst e
    obtain ⟨v, hv, q⟩ := r.get hd
    have e2 := hy vs (h.std g).sq
    rw [hv] at e2
    cases e2
    exact ⟨.refl m, Rp.std g d _ q⟩
theorem yields_tup {K : PySem.W.Frag} {H : Hp} {ad : Pl} {a : Addr} {vs : List V} {ds : List D} (h : TupAt K H ad a vs) (r : Rps K H ad vs ds) : Yields K H ad (Itt K a) ds where
  go := fun H' ad' i g hi => by
    obtain ⟨v, hv, _⟩ := r.get (List.getElem?_eq_getElem hi)
    exact ⟨vs, v, (h.std g).sq, hv⟩
  stop := fun H' ad' g => ⟨vs, (h.std g).sq, by rw [r.length]; exact Nat.le_refl _⟩
  yld := fun H' ad' μ i x H2 d g m hd ⟨e, hy⟩ => by
    subst e
    obtain ⟨v, hv, q⟩ := r.get hd
    have e2 := hy vs (h.std g).sq
    rw [hv] at e2
    cases e2
    exact ⟨.refl m, Rp.std g d _ q⟩
def rngD (lo : Int) (n : Nat) : List D := (List.range n).map fun (i : Nat) => D.int (lo + (i : Int))
theorem yields_range {K : PySem.W.Frag} {H : Hp} {ad : Pl} {lo : Int} {n : Nat} : Yields K H ad (Itr lo n) (rngD lo n) where
  go := fun H' ad' i g hi => by
    have q : i < n := by simpa [rngD] using hi
    exact q
  stop := fun H' ad' g => by simp [rngD, Itr]
  yld := fun H' ad' μ i x H2 d g m hd ⟨e, hy⟩ => by
    subst e hy
    have hi : i < n := by
      have q := (List.getElem?_eq_some_iff.mp hd).1
      simpa [rngD] using q
    have e2 : (rngD lo n)[i]? = some (D.int (lo + (i : Int))) := by simp [rngD, hi]
    rw [e2] at hd
    cases hd
    exact ⟨.refl m, .int _⟩
/-- the items of a standing list, of a tuple -/
def itL (d : D) : M (List D) := match d with
  | .lst ds => rt ds
  | _ => stk
def itT (d : D) : M (List D) := match d with
  | .tup ds => rt ds
  | _ => stk
def itX (d : D) : M (List D) := match d with
  | .lst ds => rt ds
  | .tup ds => rt ds
  | _ => stk
section
variable {X : Cx} {tg iter : Expr} {me : Rho → M D}
/-- a list or a tuple that is walked: one rule for both -/
theorem i_seq (hK : Z.K = X.K) (h : PE X iter (tE Z me)) : PI X tg iter (tI Z fun ρ => bd (me ρ) itX) := by
  refine ⟨fun pins s σ H R I ⟨ad, ρ, μ, g, hl, h0⟩ => ?_⟩
  have first : tE Z me σ H fun v H1 => ∃ d ad1 μ1, Nx Z.K H ad H1 ad1 μ1 ∧ Rp Z.K H1 ad1 v d ∧ Sat (itX d μ1) (fun ds μ' => ∀ J H' ad', Nx Z.K H ad H' ad' μ' → Yields Z.K H' ad' J ds → R J H') (XW Z H1 ad1) :=
    step g hl h0 fun v d H1 ad1 μ1 n1 g1 r1 q1 => ⟨d, ad1, μ1, n1, r1, q1⟩
  refine thn (h.run pins s σ H _ I first) fun u s1 ⟨v, H1, I1, rv, d, ad1, μ1, n1, r1, q1⟩ => ?_
  cases d with
  | lst ds =>
    cases r1 with
    | @lst a vs _ la p =>
      cases rv
      have q2 := q1 (Itl X.K a) H1 ad1 n1 (hK ▸ yields_list la p)
      obtain ⟨its, rl, pl, hz⟩ := I1.list (hK ▸ la.sq)
      refine wpAny_pyIter_list pl.isList ?_
      refine ⟨s1.heap.objs.size, [s1.heap.objs.size], _, _, H1, rfl, I1.kept (t' := s1.toks) fun b o e => Heap.get?_push_of_some _ e, turn_list a _, ⟨_, Heap.get?_push_size _ rfl, rfl, rfl⟩, fun b hb => ?_, q2⟩
      obtain rfl : b = s1.heap.objs.size := by simpa using hb
      exact I1.fpOk (Nat.le_refl _) I1.fresh
  | tup ds =>
    cases r1 with
    | @tup a vs _ ta p =>
      cases rv
      have q2 := q1 (Itt X.K a) H1 ad1 n1 (hK ▸ yields_tup ta p)
      obtain ⟨its, rl, pl, hz⟩ := I1.tuple (hK ▸ ta.sq)
      refine wpAny_pyIter_tuple (show s1.heap.IsTuple a its.toArray from pl) ?_
      refine ⟨s1.heap.objs.size, [s1.heap.objs.size], _, _, H1, rfl, I1.kept (t' := s1.toks) fun b o e => Heap.get?_push_of_some _ e, turn_tuple a _, ⟨_, Heap.get?_push_size _ rfl, rfl, rfl⟩, fun b hb => ?_, q2⟩
      obtain rfl : b = s1.heap.objs.size := by simpa using hb
      exact I1.fpOk (Nat.le_refl _) I1.fresh
  | _ => exact q1.elim
def rngOk (i : Int) : Bool := decide (-(2 ^ 62) ≤ i) && decide (i < 2 ^ 62)
def rng1 (ds : List D) : M (List D) := match ds with
  | [.int j] => if rngOk j then rt (rngD 0 j.toNat) else stk
  | _ => stk
def rng2 (ds : List D) : M (List D) := match ds with
  | [.int i, .int j] => if rngOk i && rngOk j then rt (rngD i (j - i).toNat) else stk
  | _ => stk
variable {a b : Expr} {ms : List (Rho → M D)} {p pos : Pos}
theorem i_rng1 (hg : Gl X "range") (hm : X.mg "range" = none) (ha : PA X [a] (tA Z (evA ms))) (hs : starEach [a] X.env = [(false, eval a X.env)]) : PI X tg (.Call (.Name "range" p) [a] [] pos) (tI Z fun ρ => bd (evA ms ρ) rng1) :=
  PIi (pi_range1 hg hm ha hs) fun σ H R ⟨ad, ρ, μ, g, hl, h⟩ => stepA g hl h fun vs ds H1 ad1 μ1 n1 g1 r1 q1 => by
    match ds, r1, q1 with
    | [.int j], r1, q1 =>
      obtain ⟨x, rfl, rx⟩ := rps1 r1
      obtain rfl := rp_int rx
      have q1 : Sat ((if rngOk j then rt (rngD 0 j.toNat) else stk : M (List D)) μ1) (fun ds μ' => ∀ J H' ad', Nx Z.K H ad H' ad' μ' → Yields Z.K H' ad' J ds → R J H') (XW Z H1 ad1) := q1
      by_cases c : rngOk j = true
      · rw [if_pos c] at q1
        unfold rngOk at c
        simp only [Bool.and_eq_true, decide_eq_true_eq] at c
        exact ⟨j, rfl, c.1, c.2, q1 _ H1 ad1 n1 yields_range⟩
      · rw [if_neg c] at q1
        exact q1.elim
    | [], _, q1 | [.non], _, q1 | [.bl _], _, q1 | [.str _], _, q1 | [.lst _], _, q1 | [.tup _], _, q1 | [.ref _], _, q1 | [.ty _], _, q1 => exact q1.elim
    | d :: _ :: _, _, q1 => cases d <;> exact q1.elim
theorem rng2_cases (ds : List D) (μ : Mu) : (∃ i j, ds = [.int i, .int j]) ∨ rng2 ds μ = .no := by
  unfold rng2
  split
  · exact .inl ⟨_, _, rfl⟩
  · exact .inr rfl
theorem i_rng2 (hg : Gl X "range") (hm : X.mg "range" = none) (ha : PA X [a, b] (tA Z (evA ms))) (hs : starEach [a, b] X.env = [(false, eval a X.env), (false, eval b X.env)]) (hs2 : starEach [b] X.env = [(false, eval b X.env)]) :
    PI X tg (.Call (.Name "range" p) [a, b] [] pos) (tI Z fun ρ => bd (evA ms ρ) rng2) :=
  PIi (pi_range2 hg hm ha hs hs2) fun σ H R ⟨ad, ρ, μ, g, hl, h⟩ => stepA g hl h fun vs ds H1 ad1 μ1 n1 g1 r1 q1 => by
    rcases rng2_cases ds μ1 with ⟨i, j, rfl⟩ | e
    · obtain ⟨x, y, rfl, rx, ry⟩ := rps2 r1
      obtain rfl := rp_int rx
      obtain rfl := rp_int ry
      have q1 : Sat ((if rngOk i && rngOk j then rt (rngD i (j - i).toNat) else stk : M (List D)) μ1) (fun ds μ' => ∀ J H' ad', Nx Z.K H ad H' ad' μ' → Yields Z.K H' ad' J ds → R J H') (XW Z H1 ad1) := q1
      by_cases c : (rngOk i && rngOk j) = true
      · rw [if_pos c] at q1
        unfold rngOk at c
        simp only [Bool.and_eq_true, decide_eq_true_eq] at c
        exact ⟨i, j, rfl, ⟨c.1.1, c.1.2, c.2.1, c.2.2⟩, q1 _ H1 ad1 n1 yields_range⟩
      · rw [if_neg c] at q1
        exact q1.elim
    · rw [e] at q1
      exact q1.elim
end
/-! ### 19. loops -/
def forD (t : Tg) (body : Rho → M Fl) : List D → Rho → M Fl
  | [], ρ => rt (.nx ρ)
  | d :: ds, ρ => bd (lft (setTg t d ρ)) fun ρ1 => bd (body ρ1) fun f => match f with
    | .nx ρ2 => forD t body ds ρ2
    | .ct ρ2 => forD t body ds ρ2
    | .bk ρ2 => rt (.nx ρ2)
    | .rt d => rt (.rt d)
def whD (c : Rho → M Bool) (body : Rho → M Fl) : Nat → Rho → M Fl
  | 0, _ => stk
  | n + 1, ρ => ifB (c ρ) (bd (body ρ) fun f => match f with
    | .nx ρ2 => whD c body n ρ2
    | .ct ρ2 => whD c body n ρ2
    | .bk ρ2 => rt (.nx ρ2)
    | .rt d => rt (.rt d)) (rt (.nx ρ))
def WF : Nat := 10000000
section
variable {X : Cx} {tg iter : Expr} {mi : Rho → M (List D)} {t : Tg} {body : List Stmt} {mb : Rho → M Fl} {pos : Pos}
theorem s_for (hp : PassesOwn (model X.prog X.w) X.A X.env X.xe) (hc : X.calm = true) (hi : PI X tg iter (tI Z mi)) (hg : PG X tg (tG Z t)) (hb : PSs X body (tS Z mb)) (hs : ∀ x, foldedSetIterable iter X.env x = pure x) :
    PS X (.For tg iter body [] pos) (tS Z fun ρ => bd (mi ρ) fun ds => forD t mb ds ρ) := by
  refine PSi (ps_for hp hc hi hg hb hs) fun E σ H ⟨ad, ρ, μ, g, hl, h⟩ => ?_
  refine ⟨ad, ρ, μ, g, hl, (sat_bd.mp h).imp fun ds μ1 q J H1 ad1 n1 Y => ?_⟩
  refine ⟨fun i m σ' H' => m = ds.length - i ∧ i ≤ ds.length ∧ ∃ ad' ρ' μ', Grow H1 ad1 H' ad' ∧ Gd Z.K H' ad' σ' ρ' μ' ∧ σ'.length = Z.n ∧ Sat (forD t mb (ds.drop i) ρ' μ') (KS Z H' ad' E) (XW Z H' ad'), ⟨ds.length, rfl, Nat.zero_le _, ad1, ρ, μ1, .refl, g.nx n1, hl, ?_⟩, ?_⟩
  · rw [List.drop_zero]
    exact q.mono (fun _ _ z => z.nx n1) fun _ _ z => z.nx n1
  rintro i m σ' H' ⟨rfl, hi', ad', ρ', μ', gr, g', l', q'⟩
  by_cases hlt : i < ds.length
  · refine .inr ⟨Y.go H' ad' i gr.std hlt, fun σ2 H2 => i + 1 ≤ ds.length ∧ ∃ ad2 ρ2 μ2, Grow H1 ad1 H2 ad2 ∧ Gd Z.K H2 ad2 σ2 ρ2 μ2 ∧ σ2.length = Z.n ∧ Sat (forD t mb (ds.drop (i + 1)) ρ2 μ2) (KS Z H2 ad2 E) (XW Z H2 ad2),
      fun σ2 H2 z => ⟨ds.length - (i + 1), by omega, rfl, z⟩, fun x H2 y => ?_⟩
    have hd : ds[i]? = some ds[i] := List.getElem?_eq_getElem hlt
    obtain ⟨n2, rx⟩ := Y.yld H' ad' μ' i x H2 ds[i] gr.std g'.mu hd y
    rw [List.drop_eq_getElem_cons hlt] at q'
    obtain ⟨ρ1, e1, q2⟩ := sat_lft.mp (sat_bd.mp q')
    have q3 := sat_bd.mp q2
    refine ⟨ad', ρ', μ', ds[i], ρ1, g'.nx n2, l', rx, e1, fun σ3 g3 l3 _ => ?_⟩
    refine ⟨ad', ρ1, μ', g3, l3, q3.mono (fun f μ4 z => ?_) fun _ _ z => z.nx n2⟩
    cases f with
    | nx ρ4 => exact fun σ4 H4 ad4 n4 g4 l4 => ⟨by omega, ad4, ρ4, μ4, (gr.trans n2.gr).trans n4.gr, g4, l4, z.mono (fun _ _ w => w.nx (n2.trans n4)) fun _ _ w => w.nx (n2.trans n4)⟩
    | ct ρ4 => exact fun σ4 H4 ad4 n4 g4 l4 => ⟨by omega, ad4, ρ4, μ4, (gr.trans n2.gr).trans n4.gr, g4, l4, z.mono (fun _ _ w => w.nx (n2.trans n4)) fun _ _ w => w.nx (n2.trans n4)⟩
    | bk ρ4 => exact fun σ4 H4 ad4 n4 g4 l4 => z σ4 H4 ad4 (n2.trans n4) g4 l4
    | rt d => exact fun v H4 ad4 n4 r4 => z v H4 ad4 (n2.trans n4) r4
  · have e : i = ds.length := by omega
    subst e
    rw [List.drop_length] at q'
    exact .inl ⟨Y.stop H' ad' gr.std, q' σ' H' ad' (.refl g'.mu) g' l'⟩
theorem s_while {c : Expr} {mc : Rho → M Bool} (hp : PassesOwn (model X.prog X.w) X.A X.env X.xe) (hc : PT X c (tT Z mc)) (hb : PSs X body (tS Z mb)) : PS X (.While c body [] pos) (tS Z fun ρ => whD mc mb WF ρ) := by
  refine PSi (ps_while hp hc hb) fun E σ H ⟨ad, ρ, μ, g, hl, h⟩ => ?_
  refine ⟨fun m σ' H' => ∃ ad' ρ' μ', Gd Z.K H' ad' σ' ρ' μ' ∧ σ'.length = Z.n ∧ Sat (whD mc mb m ρ' μ') (KS Z H' ad' E) (XW Z H' ad'), ⟨WF, ad, ρ, μ, g, hl, h⟩, ?_⟩
  rintro m σ' H' ⟨ad', ρ', μ', g', l', q'⟩
  cases m with
  | zero => exact q'.elim
  | succ m =>
    refine stepT g' l' q' fun b H1 ad1 μ1 n1 g1 q1 => ?_
    cases b with
    | false => exact iteF (q1 σ' H1 ad1 n1 g1 l')
    | true =>
      refine iteT ⟨fun σ2 H2 => ∃ ad2 ρ2 μ2, Gd Z.K H2 ad2 σ2 ρ2 μ2 ∧ σ2.length = Z.n ∧ Sat (whD mc mb m ρ2 μ2) (KS Z H2 ad2 E) (XW Z H2 ad2), fun σ2 H2 z => ⟨m, Nat.lt_succ_self m, z⟩, ?_⟩
      refine ⟨ad1, ρ', μ1, g1, l', (sat_bd.mp q1).imp fun f μ4 z => ?_⟩
      cases f with
      | nx ρ4 => exact fun σ4 H4 ad4 n4 g4 l4 => ⟨ad4, ρ4, μ4, g4, l4, z.mono (fun _ _ w => w.nx (n1.trans n4)) fun _ _ w => w.nx n4⟩
      | ct ρ4 => exact fun σ4 H4 ad4 n4 g4 l4 => ⟨ad4, ρ4, μ4, g4, l4, z.mono (fun _ _ w => w.nx (n1.trans n4)) fun _ _ w => w.nx n4⟩
      | bk ρ4 => exact fun σ4 H4 ad4 n4 g4 l4 => z σ4 H4 ad4 (n1.trans n4) g4 l4
      | rt d => exact fun v H4 ad4 n4 r4 => z v H4 ad4 (n1.trans n4) r4
end
end PX
namespace PX
open PySem PySem.Spec PyProof.Rows L2
variable {Z : Wd}
/-! ### 20. lists of a comprehension -/
def noX {α : Type} (m : M α) : M α := fun μ => match m μ with
  | .ok a μ' => .ok a μ'
  | _ => .no
theorem sat_noX {α : Type} {m : M α} {μ : Mu} {L : α → Mu → Prop} {E : Xn → Mu → Prop} : Sat (noX m μ) L E ↔ Sat (m μ) L (fun _ _ => False) := by
  unfold noX
  cases m μ <;> exact Iff.rfl
def wipeD (ρ : Rho) : List Nat → Rho
  | [] => ρ
  | v :: vs => (wipeD ρ vs).set v none
def lcD (t : Tg) (mc : Rho → M Bool) (me : Rho → M D) : List D → Rho → M (List D)
  | [], _ => rt []
  | d :: ds, ρ => bd (lft (setTg t d ρ)) fun ρ1 => bd (mc ρ1) fun b => if b = true then bd (me ρ1) fun y => bd (lcD t mc me ds ρ) fun ys => rt (y :: ys) else lcD t mc me ds ρ
theorem wipe_at {σ : L2.St} {i : Nat} : ∀ {vs : List Nat}, i ∈ vs → i < σ.length → (wipe σ vs)[i]? = some none
  | v :: vs, h, hl => by
    unfold wipe
    by_cases e : v = i
    · subst e
      rw [List.getElem?_set_self (by rw [wipe_length]; exact hl)]
    · rw [List.getElem?_set_ne e]
      rcases List.mem_cons.mp h with z | z
      · exact absurd z.symm e
      · exact wipe_at z hl
theorem wipe_eq {σ σ' : L2.St} {vs : List Nat} (hl : σ'.length = σ.length) (h : ∀ i, i ∉ vs → σ'[i]? = (wipe σ vs)[i]?) : wipe σ' vs = wipe σ vs := by
  refine List.ext_getElem? fun i => ?_
  by_cases hi : i ∈ vs
  · by_cases hz : i < σ.length
    · rw [wipe_at hi hz, wipe_at hi (by rw [hl]; exact hz)]
    · rw [List.getElem?_eq_none (by rw [wipe_length, hl]; omega), List.getElem?_eq_none (by rw [wipe_length]; omega)]
  · rw [wipe_out hi, h i hi]
theorem wipeD_length (ρ : Rho) : ∀ vs : List Nat, (wipeD ρ vs).length = ρ.length
  | [] => rfl
  | v :: vs => by unfold wipeD; rw [List.length_set, wipeD_length ρ vs]
theorem wipeD_some {ρ : Rho} {i : Nat} {x : D} : ∀ {vs : List Nat}, (wipeD ρ vs)[i]? = some (some x) → ρ[i]? = some (some x) ∧ i ∉ vs
  | [], h => ⟨h, by simp⟩
  | v :: vs, h => by
    unfold wipeD at h
    by_cases hi : v = i
    · subst hi
      by_cases hv : v < (wipeD ρ vs).length
      · rw [List.getElem?_set_self hv] at h; cases h
      · rw [List.getElem?_eq_none (by simpa using hv)] at h; cases h
    · rw [List.getElem?_set_ne hi] at h
      obtain ⟨h1, h2⟩ := wipeD_some h
      exact ⟨h1, by simp only [List.mem_cons, not_or]; exact ⟨fun e => hi e.symm, h2⟩⟩
section
variable {K : PySem.W.Frag} {H H' : Hp} {ad ad' : Pl} {μ : Mu}
theorem Gd.wipe {σ : L2.St} {ρ : Rho} (g : Gd K H ad σ ρ μ) (vs : List Nat) : Gd K H ad (L2.wipe σ vs) (wipeD ρ vs) μ :=
  ⟨g.mu, by rw [wipeD_length, L2.wipe_length, g.len], fun i d e => by
    obtain ⟨h1, h2⟩ := wipeD_some e
    obtain ⟨v, q, r⟩ := g.sl i d h1
    exact ⟨v, by rw [wipe_out h2]; exact q, r⟩⟩
theorem SoAt.std (s : Std H ad H' ad') {a : Addr} {o : SO} (h : SoAt K H ad a o) (e : H' a = H a) : SoAt K H' ad' a o := by
  cases o with
  | dk kd =>
    obtain ⟨kv, h1, h2, h3⟩ := h
    exact ⟨kv, e.trans h1, h2, Rps.std s _ _ h3⟩
  | ml ds =>
    obtain ⟨vs, h1, h2⟩ := h
    exact ⟨vs, e.trans h1, Rps.std s _ _ h2⟩
theorem MuOk.to (m : MuOk K H ad μ) (s : Std H ad H' ad') (e : ad'.ad = ad.ad) (same : ∀ a ∈ ad.ad, H' a = H a) (prn : ∀ b ∈ ad'.pr, H' b ≠ none ∧ b ∉ ad'.ad) : MuOk K H' ad' μ :=
  ⟨by rw [e]; exact m.len, by rw [e]; exact m.nd, prn, fun n a o h1 h2 => by
    rw [e] at h1
    exact (m.so n a o h1 h2).std s (same a (List.mem_of_getElem? h1)), m.pur⟩
theorem Gd.to {σ : L2.St} {ρ : Rho} (g : Gd K H ad σ ρ μ) (s : Std H ad H' ad') (m : MuOk K H' ad' μ) : Gd K H' ad' σ ρ μ :=
  ⟨m, g.len, fun i d e => let ⟨v, h1, h2⟩ := g.sl i d e; ⟨v, h1, Rp.std s d v h2⟩⟩
/-- a new list at p that no data stands at -/
theorem std_hide {p : Addr} {o : HO} (hp : H p = none) : Std H ad (upd H p o) ⟨ad.ad, p :: ad.pr⟩ :=
  ⟨fun b u hb q => ⟨⟨hb.1, fun z => by
    rcases List.mem_cons.mp z with z | z
    · rw [z, hp] at q; cases q
    · exact hb.2 z⟩, by rw [upd_ne (ne_of_none q hp)]; exact q⟩, fun _ _ h => h⟩
theorem MuOk.hide (m : MuOk K H ad μ) {p : Addr} {o : HO} (hp : H p = none) : MuOk K (upd H p o) ⟨ad.ad, p :: ad.pr⟩ μ := by
  refine m.to (std_hide hp) rfl (fun a ha => upd_ne fun z => m.nn ha (by rw [z]; exact hp)) fun b hb => ?_
  rcases List.mem_cons.mp hb with z | z
  · subst z
    exact ⟨by rw [upd_same]; exact fun z => (nomatch z), (m.out hp).1⟩
  · exact ⟨by rw [upd_ne fun y => (m.prn b z).1 (by rw [y]; exact hp)]; exact (m.prn b z).1, (m.prn b z).2⟩
theorem std_over {p : Addr} {o : HO} (hp : p ∈ ad.pr) : Std H ad (upd H p o) ad :=
  ⟨fun b u hb q => ⟨hb, by rw [upd_ne fun z => hb.2 (by rw [z]; exact hp)]; exact q⟩, fun _ _ h => h⟩
theorem MuOk.over (m : MuOk K H ad μ) {p : Addr} {o : HO} (hp : p ∈ ad.pr) : MuOk K (upd H p o) ad μ :=
  m.to (std_over hp) rfl (fun a ha => upd_ne fun z => (m.prn p hp).2 (by rw [← z]; exact ha)) fun b hb => ⟨by
    by_cases e : b = p
    · rw [e, upd_same]; exact fun z => nomatch z
    · rw [upd_ne e]; exact (m.prn b hb).1, (m.prn b hb).2⟩
theorem std_show {p : Addr} {a pr : List Addr} : Std H ⟨a, p :: pr⟩ H ⟨a, pr⟩ := ⟨fun b u hb q => ⟨⟨hb.1, fun z => hb.2 (List.mem_cons_of_mem _ z)⟩, q⟩, fun _ _ h => h⟩
theorem MuOk.show {p : Addr} {a pr : List Addr} (m : MuOk K H ⟨a, p :: pr⟩ μ) : MuOk K H ⟨a, pr⟩ μ :=
  m.to std_show rfl (fun _ _ => rfl) fun b hb => m.prn b (List.mem_cons_of_mem _ hb)
end
theorem PTsi {X : Cx} {e : List Expr} {t t' : TT} (h : PTs X e t) (w : ∀ σ H Q, t' σ H Q → t σ H Q) : PTs X e t' := ⟨fun pins s σ H Q I q => h.run pins s σ H Q I (w σ H Q q)⟩
def off (Z : Wd) : Wd := { Z with W := fun _ _ _ _ => False }
section
variable {X : Cx} {tg iter elt c : Expr} {mi : Rho → M (List D)} {mc : Rho → M Bool} {me : Rho → M D} {t : Tg} {pos spos py : Pos} {ifs : List Expr} {scope : Scope} {own : List (Str × Nat)} {y : Str} {i : Nat}
theorem pt_nil : PTs X [] (tT Z fun _ => rt true) := PTsi pts_nil fun σ H Q ⟨ad, ρ, μ, g, hl, h⟩ => h H ad (.refl g.mu)
theorem pt_one (h : PT X c (tT Z mc)) : PTs X [c] (tT Z mc) := pts_one h
def lcM (mi : Rho → M (List D)) (t : Tg) (mc : Rho → M Bool) (me : Rho → M D) (vs : List Nat) (ρ : Rho) : M D := bd (mi ρ) fun ds => bd (noX (lcD t mc me ds (wipeD ρ vs))) mkL
theorem t_comp {vs : List Nat} (ht : ∀ j ∈ t.slots, j ∈ vs) : ∀ (σ : L2.St) (H : Hp) (Q : VK), tE Z (lcM mi t mc me vs) σ H Q → tLc (tI Z mi) (tG (off Z) t) (tT (off Z) mc) (tE (off Z) me) vs σ H Q :=
  fun σ H Q ⟨ad, ρ, μ, g, hl, h⟩ => by
  refine ⟨ad, ρ, μ, g, hl, (sat_bd.mp h).imp fun ds μ1 q J H1 ad1 n1 Y => ?_⟩
  intro D hD
  have q := (sat_noX.mp (sat_bd.mp q))
  have g1 := g.nx n1
  let core : Nat → Hp → Prop := fun i H' => ∃ (a' : List Addr) (μ' : Mu) (accV : List V) (accD : List PX.D), Grow H1 ad1 H' ⟨a', ad1.pr⟩ ∧ Gd Z.K H' ⟨a', D :: ad1.pr⟩ (wipe σ vs) (wipeD ρ vs) μ' ∧ H' D = some (.lst accV) ∧ Rps Z.K H' ⟨a', D :: ad1.pr⟩ accV accD ∧
    Sat (lcD t mc me (ds.drop i) (wipeD ρ vs) μ') (fun ys μf => Sat (mkL (accD ++ ys) μf) (KE Z H ad Q) (XW Z H ad)) (fun _ _ => False)
  refine ⟨fun i m H' => m = ds.length - i ∧ i ≤ ds.length ∧ core i H', ⟨ds.length, rfl, Nat.zero_le _, ad1.ad, μ1, [], [], .new hD, ((g1.wipe vs).to (std_hide hD) (n1.mu.hide hD)), upd_same, .nil, ?_⟩, ?_⟩
  · rw [List.drop_zero]
    exact q
  rintro i m H' ⟨rfl, hi', a', μ', accV, accD, gr, g', eD, rD, q'⟩
  have sd : Std H1 ad1 H' ⟨a', D :: ad1.pr⟩ := ⟨fun b o hb e => ⟨⟨(gr.nin hb e).1, fun z => by
    rcases List.mem_cons.mp z with z | z
    · rw [z, hD] at e; cases e
    · exact hb.2 z⟩, gr.keep b o hb.1 e⟩, fun n a e => gr.at e⟩
  by_cases hlt : i < ds.length
  · refine .inr ⟨Y.go H' _ i sd hlt, core (i + 1), fun H2 z => ⟨ds.length - (i + 1), by omega, rfl, hlt, z⟩, fun x H2 yl => ?_⟩
    have hd : ds[i]? = some ds[i] := List.getElem?_eq_getElem hlt
    obtain ⟨n2, rx⟩ := Y.yld H' _ μ' i x H2 ds[i] sd g'.mu hd yl
    rw [List.drop_eq_getElem_cons hlt] at q'
    obtain ⟨ρ1, e1, q2⟩ := sat_lft.mp (sat_bd.mp q')
    have q3 := sat_bd.mp q2
    refine ⟨_, wipeD ρ vs, μ', ds[i], ρ1, g'.nx n2, by rw [wipe_length]; exact hl, rx, e1, fun σ3 g3 l3 of => ⟨wipe_eq (by rw [l3]; exact hl.symm) fun j hj => of j fun z => hj (ht j z), ?_⟩⟩
    refine ⟨_, ρ1, μ', g3, l3, q3.mono (fun b μ4 z H3 ad3 n3 => ?_) fun _ _ z => z.elim⟩
    have nD : ∀ {P : Pl}, P.pr = D :: ad1.pr → P = ⟨P.ad, D :: ad1.pr⟩ := fun {P} e => by rw [← e]
    have e3 : ad3.pr = D :: ad1.pr := by rw [n3.gr.pr_eq]
    have dn : D ∉ (⟨a', D :: ad1.pr⟩ : Pl).ad := (g'.mu.prn D List.mem_cons_self).2
    have grt : ∀ {H4 : Hp} {ad4 : Pl}, Grow H' ⟨a', D :: ad1.pr⟩ H4 ad4 → Grow H1 ad1 H4 ⟨ad4.ad, ad1.pr⟩ := fun {H4 ad4} w => gr.trans (by
      obtain ⟨l, e, n⟩ := w.pre
      exact ⟨⟨l, by rw [e]; rfl, n⟩, w.keep, w.live⟩)
    cases b with
    | false =>
      refine iteF ?_
      have z : Sat (lcD t mc me (ds.drop (i + 1)) (wipeD ρ vs) μ4) _ _ := z
      have n4 := n2.trans n3
      exact ⟨ad3.ad, μ4, accV, accD, grt n4.gr, (nD e3) ▸ g'.nx n4, n4.gr.keep D _ dn eD, (nD e3) ▸ Rps.grow n4.gr _ _ rD, z⟩
    | true =>
      refine iteT ?_
      have z : Sat (bd (me ρ1) (fun y => bd (lcD t mc me (ds.drop (i + 1)) (wipeD ρ vs)) fun ys => rt (y :: ys)) μ4) _ _ := z
      refine ⟨ad3, ρ1, μ4, g3.nx n3, l3, (sat_bd.mp z).mono (fun d μ5 z2 v H4 ad4 n5 r5 => ?_) fun _ _ z => z.elim⟩
      have z2 := sat_bd.mp z2
      have n4 := (n2.trans n3).trans n5
      have e4 : ad4.pr = D :: ad1.pr := by rw [n4.gr.pr_eq]
      have eD4 := n4.gr.keep D _ dn eD
      have z3 : Sat (lcD t mc me (ds.drop (i + 1)) (wipeD ρ vs) μ5) (fun ys μf => Sat (mkL ((accD ++ [d]) ++ ys) μf) (KE Z H ad Q) (XW Z H ad)) (fun _ _ => False) := z2.imp fun ys μf w => by
        rw [List.append_assoc]
        exact w
      refine ⟨accV, eD4, ?_, ?_⟩
      · have hz : (accD ++ [d]).length ≤ 1000000 := by
          cases hr : lcD t mc me (ds.drop (i + 1)) (wipeD ρ vs) μ5 with
          | ok ys μf =>
            rw [hr] at z3
            have z3 : Sat (mkL ((accD ++ [d]) ++ ys) μf) (KE Z H ad Q) (XW Z H ad) := z3
            unfold mkL at z3
            by_cases hz : ((accD ++ [d]) ++ ys).length ≤ 1000000
            · exact Nat.le_trans (by simp) hz
            · rw [if_neg hz] at z3
              exact z3.elim
          | ex x μf => rw [hr] at z3; exact z3.elim
          | no => rw [hr] at z3; exact z3.elim
        have hs := million (n := accD.length + 1) (by simpa using hz)
        rw [rD.length]
        exact hs
      · have dp : D ∈ ad4.pr := by rw [e4]; exact List.mem_cons_self
        have so : Std H4 ad4 (upd H4 D (.lst (accV ++ [v]))) ad4 := std_over dp
        have m5 : MuOk Z.K (upd H4 D (.lst (accV ++ [v]))) ad4 μ5 := n4.mu.over dp
        refine ⟨ad4.ad, μ5, accV ++ [v], accD ++ [d], ?_, (nD e4) ▸ (g'.nx n4).to so m5, upd_same, (nD e4) ▸ (Rps.std so _ _ ((Rps.grow n4.gr _ _ rD).app (.cons r5 .nil))), z3⟩
        have w := grt n4.gr
        refine ⟨w.pre, fun b o hb e => by rw [upd_ne (ne_of_none e hD)]; exact w.keep b o hb e, fun b e => w.live b ?_⟩
        by_cases hb : b = D
        · rw [hb, upd_same] at e; cases e
        · rw [upd_ne hb] at e; exact e
  · have e : i = ds.length := by omega
    subst e
    rw [List.drop_length] at q'
    have q' : Sat (mkL (accD ++ []) μ') (KE Z H ad Q) (XW Z H ad) := q'
    rw [List.append_nil] at q'
    refine .inl ⟨Y.stop H' _ sd, ?_⟩
    unfold mkL at q'
    by_cases hz : accD.length ≤ 1000000
    · rw [if_pos hz] at q'
      have m' : MuOk Z.K H' ⟨a', ad1.pr⟩ μ' := g'.mu.show
      refine q' (.ref D) H' ⟨a', ad1.pr⟩ (n1.trans ⟨gr, m'⟩) (.lst (.inl ⟨⟨(g'.mu.prn D List.mem_cons_self).2, fun z => (n1.mu.prn D z).1 hD⟩, .inl eD⟩) (Rps.std std_show _ _ rD))
    · rw [if_neg hz] at q'
      exact q'.elim
theorem x_comp (hc : X.calm = true) (hN : X.N.Nodup) (hi : PI X tg iter (tI Z mi)) (ok : BlkOk X.N X.env.scope scope own) (ht : ∀ j ∈ t.slots, j ∈ own.map (·.2))
    (hg : ∀ (s : Shared) (H : Hp) (C : Addr) (cl : List (Str × Addr)) (fp : List Addr), PG (X.blk s H scope (compEnvC scope cl C X.env) fp) tg (tG (off Z) t))
    (hcd : ∀ (s : Shared) (H : Hp) (C : Addr) (cl : List (Str × Addr)) (fp : List Addr), PTs (X.blk s H scope (compEnvC scope cl C X.env) fp) ifs (tT (off Z) mc))
    (he : ∀ (s : Shared) (H : Hp) (C : Addr) (cl : List (Str × Addr)) (fp : List Addr), PE (X.blk s H scope (compEnvC scope cl C X.env) fp) elt (tE (off Z) me)) (hs : ∀ x, foldedSetIterable iter X.env x = pure x) :
    PE X (.ListComp elt [⟨tg, iter, ifs, 0⟩] scope pos) (tE Z (lcM mi t mc me (own.map (·.2)))) :=
  PEi (pe_lc hc hN hi ok hg hcd he hs) (t_comp ht)
theorem s_setLc (hc : X.calm = true) (hN : X.N.Nodup) (hy : X.N[i]? = some y) (hyl : X.env.scope.names.lookup y = some .local) (hsw : swapsWith (.ListComp elt [⟨tg, iter, ifs, 0⟩] scope pos) (some (.Name y py)) spos.line X.env = pure true)
    (hi : PI X tg iter (tI Z mi)) (ok : BlkOk X.N X.env.scope scope own) (ht : ∀ j ∈ t.slots, j ∈ own.map (·.2))
    (hg : ∀ (s : Shared) (H : Hp) (C : Addr) (cl : List (Str × Addr)) (fp : List Addr), PG (X.blk s H scope (compEnvC scope cl C X.env) fp) tg (tG (off Z) t))
    (hcd : ∀ (s : Shared) (H : Hp) (C : Addr) (cl : List (Str × Addr)) (fp : List Addr), PTs (X.blk s H scope (compEnvC scope cl C X.env) fp) ifs (tT (off Z) mc))
    (he : ∀ (s : Shared) (H : Hp) (C : Addr) (cl : List (Str × Addr)) (fp : List Addr), PE (X.blk s H scope (compEnvC scope cl C X.env) fp) elt (tE (off Z) me)) (hs : ∀ x, foldedSetIterable iter X.env x = pure x) :
    PS X (.Assign [.Name y py] (.ListComp elt [⟨tg, iter, ifs, 0⟩] scope pos) spos) (tS Z fun ρ => bd (lcM mi t mc me (own.map (·.2)) ρ) fun d => rt (.nx (ρ.set i (some d)))) :=
  PSi (ps_setLc hc hN hy hyl hsw hi ok hg hcd he hs) fun E σ H ⟨ad, ρ, μ, g, hl, h⟩ => t_comp ht σ H _ (step g hl h fun v d H1 ad1 μ1 n1 g1 r1 q1 => q1 _ H1 ad1 n1 (g1.set r1 i) (by rw [List.length_set]; exact hl))
end
end PX
namespace PX
open PySem PySem.Spec PyProof.Rows L2
variable {Z : Wd}
/-! ### 21. two sequences walked together; a sequence with its places -/
/-- true: a list; false: a tuple -/
def SqK (K : PySem.W.Frag) (H : Hp) (k : Bool) (a : Addr) (xs : List V) : Prop := match k with
  | true => SqL K H a xs
  | false => SqT K H a xs
def SeqAt (k : Bool) (h : Heap) (a : Addr) (its : Array Value) : Prop := match k with
  | true => h.IsList a its
  | false => h.IsTuple a its
def IterAt (k : Bool) (h : Heap) (it a : Addr) (i : Nat) : Prop := match k with
  | true => h.IsListIter it a i
  | false => h.IsTupleIter it a i
def iterObj (k : Bool) (a : Addr) : Obj := match k with
  | true => { cls := .type "list_iterator", data := .fields #[.ref a, .int 0 0] }
  | false => { cls := .type "tuple_iterator", data := .fields #[.ref a, .int 0 0] }
section
variable {X : Cx} {pins : List (Addr × Obj)} {σ : L2.St} {H : Hp} {s : Shared} {k : Bool} {a : Addr} {xs ys : List V}
theorem inv_seq (I : Inv X pins σ H s) (h : SqK X.K H k a xs) : ∃ its : List Value, Vals xs its ∧ SeqAt k s.heap a its.toArray := by
  cases k with
  | true =>
    obtain ⟨its, r, p, _⟩ := I.list h
    exact ⟨its, r, p.isList⟩
  | false =>
    obtain ⟨its, r, p, _⟩ := I.tuple h
    exact ⟨its, r, p⟩
theorem inv_inj (I : Inv X pins σ H s) (h : SqK X.K H k a xs) (h' : SqK X.K H k a ys) : xs = ys := by
  cases k with
  | true => exact I.list_inj h h'
  | false => exact I.tuple_inj h h'
theorem drawsK {prog : Program} {w : World} {A : Around} (hh : A.handled = none) (it : Addr) (k : Bool) (a : Addr) (hne : a ≠ it) (items : Array Value) :
    Draws prog w A it [it, a] items.size (fun i v => items[i]? = some v) (fun i h => IterAt k h it a i ∧ SeqAt k h a items) := by
  cases k with
  | true => exact Draws.list hh it a hne items
  | false => exact Draws.tuple hh it a hne items
theorem beginsK (k : Bool) (a : Addr) (items : Array Value) : Begins (.ref a) (iterObj k a) fun h => SeqAt k h a items := by
  cases k with
  | true => exact begins_list a items
  | false => exact begins_tuple a items
theorem seq_lt {h : Heap} {its : Array Value} (q : SeqAt k h a its) : a < h.objs.size := by
  cases k with
  | true =>
    obtain ⟨o, e, _⟩ := q
    exact Heap.lt_size e
  | false =>
    obtain ⟨o, e, _⟩ := q
    exact Heap.lt_size e
theorem iter_new {h : Heap} {it : Addr} (e : h.get? it = some (iterObj k a)) : IterAt k h it a 0 := by
  cases k with
  | true => exact ⟨_, e, rfl, rfl⟩
  | false => exact ⟨_, e, rfl, rfl⟩
theorem iter_obj {h : Heap} {it : Addr} {i : Nat} (q : IterAt k h it a i) : ∃ o, h.get? it = some o ∧ ∀ v, o.data ≠ .cell v := by
  cases k with
  | true =>
    obtain ⟨o, e, _, d⟩ := q
    exact ⟨o, e, fun v z => by rw [d] at z; cases z⟩
  | false =>
    obtain ⟨o, e, _, d⟩ := q
    exact ⟨o, e, fun v z => by rw [d] at z; cases z⟩
theorem iter_at {h h' : Heap} {it : Addr} {i : Nat} (q : IterAt k h it a i) (hk : ∀ o, h.get? it = some o → h'.get? it = some o) : IterAt k h' it a i := by
  cases k with
  | true => exact q.at hk
  | false => exact q.at hk
end
def ItZ (K : PySem.W.Frag) (k1 : Bool) (a : Addr) (k2 : Bool) (b : Addr) : It :=
  ⟨fun i H => ∃ (xs ys : List V) (x y : V), SqK K H k1 a xs ∧ SqK K H k2 b ys ∧ xs[i]? = some x ∧ ys[i]? = some y,
    fun i H v H' => ∃ T x y, v = .ref T ∧ H T = none ∧ H' = upd H T (.tup [x, y]) ∧ (∀ xs, SqK K H k1 a xs → xs[i]? = some x) ∧ ∀ ys, SqK K H k2 b ys → ys[i]? = some y,
    fun i H => ∃ xs ys : List V, SqK K H k1 a xs ∧ SqK K H k2 b ys ∧ min xs.length ys.length = i⟩
def ItE (K : PySem.W.Frag) (k0 : Int) (k : Bool) (a : Addr) : It :=
  ⟨fun i H => ∃ (xs : List V) (x : V), SqK K H k a xs ∧ xs[i]? = some x, fun i H v H' => ∃ T x, v = .ref T ∧ H T = none ∧ H' = upd H T (.tup [.int (k0 + (i : Int)), x]) ∧ ∀ xs, SqK K H k a xs → xs[i]? = some x, fun i H => ∃ xs : List V, SqK K H k a xs ∧ xs.length = i⟩
theorem turn_zipK {P : Program} {w : World} {K : PySem.W.Frag} {elts : List Expr} {kk : Nat} {tpos : Pos} {k1 k2 : Bool} {a b z TI TO i1 i2 : Addr} (S : ZipSep2 z TI TO i1 i2 [i1, a] [i2, b]) (n1 : a ≠ i1) (n2 : b ≠ i2) :
    Turn P w K (.Tuple elts kk tpos) (ItZ K k1 a k2 b) [z, TI, TO, i1, i2] z (fun i h => IsZip h z TI TO .none ∧ IsTupOf2 h TI (.ref i1) (.ref i2) ∧ (∃ x y, IsTupOf2 h TO x y) ∧ IterAt k1 h i1 a i ∧ IterAt k2 h i2 b i) where
  mem := by simp
  obj := fun i h st c hc => by
    obtain ⟨hz, hTI, ⟨x, y, hTO⟩, h1, h2⟩ := st
    have e' : c = z ∨ c = TI ∨ c = TO ∨ c = i1 ∨ c = i2 := by simpa using hc
    rcases e' with q | q | q | q | q
    · rw [q]; exact ⟨_, hz, fun v q => nomatch q⟩
    · rw [q]; exact ⟨_, hTI, fun v q => nomatch q⟩
    · rw [q]; exact ⟨_, hTO, fun v q => nomatch q⟩
    · rw [q]; exact iter_obj h1
    · rw [q]; exact iter_obj h2
  keep := fun i h h' st k => by
    obtain ⟨hz, hTI, ⟨x, y, hTO⟩, h1, h2⟩ := st
    exact ⟨k z (by simp) _ hz, k TI (by simp) _ hTI, ⟨x, y, k TO (by simp) _ hTO⟩, iter_at h1 fun o q => k i1 (by simp) o q, iter_at h2 fun o q => k i2 (by simp) o q⟩
  item := by
    intro X hP hw hK hc i pins s σ H E I hf st hg
    subst hP hw hK
    obtain ⟨xs, ys, x, y, hqx, hqy, hx, hy⟩ := hg
    obtain ⟨its, rv, p⟩ := inv_seq I hqx
    obtain ⟨its2, rv2, p2⟩ := inv_seq I hqy
    obtain ⟨u, hu, ru⟩ := rv.get hx
    obtain ⟨u2, hu2, ru2⟩ := rv2.get hy
    have hh : X.A.in1.handled = none := I.ok.hd hc
    have G := GoesN.zip2 (prog := X.prog) (w := X.w) (A := X.A) (elts := elts) (x1 := kk) (pos := tpos) S (drawsK hh i1 k1 a n1 its.toArray) (drawsK hh i2 k2 b n2 its2.toArray)
    obtain ⟨hz, hTI, hTO, h1, h2⟩ := id st
    have l1 : i < its.length := (List.getElem?_eq_some_iff.mp hu).1
    have l2 : i < its2.length := (List.getElem?_eq_some_iff.mp hu2).1
    refine G.goes i s _ E (by simp; omega) ⟨hz, hTI, hTO, ⟨h1, p⟩, ⟨h2, p2⟩⟩ fun v h' tk ⟨T, w1, w2, ev, hT, e1, e2, tup⟩ st' hk htk => ?_
    have e1 : its.toArray[i]? = some w1 := e1
    have e2 : its2.toArray[i]? = some w2 := e2
    have q1 : its[i]? = some w1 := by simpa using e1
    have q2 : its2[i]? = some w2 := by simpa using e2
    rw [hu] at q1
    rw [hu2] at q2
    cases q1
    cases q2
    subst ev
    obtain ⟨o, ho, hco, n, hd⟩ := tup
    have new : ObjOk X.prog X.w (upd H T (.tup [x, y])) h' T (.tup [x, y]) := ⟨by show 2 ≤ sizeLine; decide, [u, u2], .cons ru (.cons ru2 .nil), ⟨o, ho, hco, n, hd⟩⟩
    have I1 : Inv X pins σ (upd H T (.tup [x, y])) { s with heap := h', toks := tk } :=
      I.turnedNew (ch := [z, TI, TO, i1, i2]) (fun c o hb q => hk c o (fun hm => hb (by
        have e' : c = z ∨ c = TO ∨ c = i1 ∨ c = i2 := by simpa using hm
        rcases e' with q | q | q | q <;> simp [q])) q) hf hT new
    obtain ⟨hz', hTI', hTO', ⟨h1', _⟩, ⟨h2', _⟩⟩ := st'
    refine ⟨.ref T, _, I1, rfl, ⟨T, x, y, rfl, I.hok.fresh hT, rfl, fun l hl => by rw [inv_inj I hl hqx]; exact hx, fun l hl => by rw [inv_inj I hl hqy]; exact hy⟩, ⟨hz', hTI', hTO', h1', h2'⟩, fun c hcm => ?_⟩
    have hlt : c < s.heap.objs.size := by
      have e' : c = z ∨ c = TI ∨ c = TO ∨ c = i1 ∨ c = i2 := by simpa using hcm
      rcases e' with q | q | q | q | q
      · rw [q]; exact Heap.lt_size hz
      · rw [q]; exact Heap.lt_size hTI
      · rw [q]; obtain ⟨_, _, hTO⟩ := hTO; exact Heap.lt_size hTO
      · rw [q]; obtain ⟨_, e1, _⟩ := iter_obj h1; exact Heap.lt_size e1
      · rw [q]; obtain ⟨_, e2, _⟩ := iter_obj h2; exact Heap.lt_size e2
    rw [upd_ne (Nat.ne_of_lt (Nat.lt_of_lt_of_le hlt hT))]
    exact (hf c hcm).1
  done := by
    intro X hP hw hK hc i pins s σ H E I hf st hg
    subst hP hw hK
    obtain ⟨xs, ys, hqx, hqy, hend⟩ := hg
    obtain ⟨its, rv, p⟩ := inv_seq I hqx
    obtain ⟨its2, rv2, p2⟩ := inv_seq I hqy
    have hh : X.A.in1.handled = none := I.ok.hd hc
    have G := GoesN.zip2 (prog := X.prog) (w := X.w) (A := X.A) (elts := elts) (x1 := kk) (pos := tpos) S (drawsK hh i1 k1 a n1 its.toArray) (drawsK hh i2 k2 b n2 its2.toArray)
    obtain ⟨hz, hTI, hTO, h1, h2⟩ := id st
    have e : i = min its.toArray.size its2.toArray.size := by
      rw [← hend, rv.length, rv2.length]
      simp
    subst e
    refine G.stops s _ E ⟨hz, hTI, hTO, ⟨h1, p⟩, ⟨h2, p2⟩⟩ fun h' tk hk _ => I.turnedL (t' := tk) (ch := [z, TI, TO, i1, i2]) (fun c o hb q => hk c o (fun hm => hb (by
        have e' : c = z ∨ c = TO ∨ c = i1 ∨ c = i2 := by simpa using hm
        rcases e' with q | q | q | q <;> simp [q])) q) hf
  self := fun A i s Q E st h => wpAny_pyIter_zip st.1 h
theorem turn_enumK {P : Program} {w : World} {K : PySem.W.Frag} {elts : List Expr} {kk : Nat} {tpos : Pos} {k : Bool} {k0 : Int} {a e it : Addr} (n1 : a ≠ it) (n2 : e ≠ it) (n3 : e ≠ a) :
    Turn P w K (.Tuple elts kk tpos) (ItE K k0 k a) [e, it] e (fun i h => (∃ old, IsEnum h e it (k0 + (i : Int)) old) ∧ IterAt k h it a i) where
  mem := by simp
  obj := fun i h st c hc => by
    obtain ⟨⟨old, he⟩, h1⟩ := st
    have e' : c = e ∨ c = it := by simpa using hc
    rcases e' with q | q
    · rw [q]; exact ⟨_, he, fun v q => nomatch q⟩
    · rw [q]; exact iter_obj h1
  keep := fun i h h' st k => by
    obtain ⟨⟨old, he⟩, h1⟩ := st
    exact ⟨⟨old, k e (by simp) _ he⟩, iter_at h1 fun o q => k it (by simp) o q⟩
  item := by
    intro X hP hw hK hc i pins s σ H E I hf st hg
    subst hP hw hK
    obtain ⟨xs, x, hqx, hx⟩ := hg
    obtain ⟨its, rv, p⟩ := inv_seq I hqx
    obtain ⟨u, hu, ru⟩ := rv.get hx
    have hh : X.A.in1.handled = none := I.ok.hd hc
    have G := GoesN.enumFrom (prog := X.prog) (w := X.w) (A := X.A) (elts := elts) (x1 := kk) (pos := tpos) k0 (drawsK hh it k a n1 its.toArray) e n2 (by simp [n2, n3]) (by simp)
    obtain ⟨he, h1⟩ := id st
    have l1 : i < its.length := (List.getElem?_eq_some_iff.mp hu).1
    refine G.goes i s _ E (by simp; omega) ⟨he, ⟨h1, p⟩⟩ fun v h' tk ⟨T, t, w1, ev, hT, e1, tup⟩ st' hk htk => ?_
    have e1 : its.toArray[i]? = some w1 := e1
    have q1 : its[i]? = some w1 := by simpa using e1
    rw [hu] at q1
    cases q1
    subst ev
    obtain ⟨o, ho, hco, n, hd⟩ := tup
    have new : ObjOk X.prog X.w (upd H T (.tup [.int (k0 + (i : Int)), x])) h' T (.tup [.int (k0 + (i : Int)), x]) := ⟨by show 2 ≤ sizeLine; decide, [.int (k0 + (i : Int)) t, u], .cons ⟨_, rfl⟩ (.cons ru .nil), ⟨o, ho, hco, n, hd⟩⟩
    have I1 : Inv X pins σ (upd H T (.tup [.int (k0 + (i : Int)), x])) { s with heap := h', toks := tk } :=
      I.turnedNew (ch := [e, it]) (fun c o hb q => hk c o hb q) hf hT new
    obtain ⟨he', ⟨h1', _⟩⟩ := st'
    refine ⟨.ref T, _, I1, rfl, ⟨T, x, rfl, I.hok.fresh hT, rfl, fun l hl => by rw [inv_inj I hl hqx]; exact hx⟩, ⟨he', h1'⟩, fun c hcm => ?_⟩
    have hlt : c < s.heap.objs.size := by
      have e' : c = e ∨ c = it := by simpa using hcm
      rcases e' with q | q
      · rw [q]; obtain ⟨_, he⟩ := he; exact Heap.lt_size he
      · rw [q]; obtain ⟨_, e1, _⟩ := iter_obj h1; exact Heap.lt_size e1
    rw [upd_ne (Nat.ne_of_lt (Nat.lt_of_lt_of_le hlt hT))]
    exact (hf c hcm).1
  done := by
    intro X hP hw hK hc i pins s σ H E I hf st hg
    subst hP hw hK
    obtain ⟨xs, hqx, hend⟩ := hg
    obtain ⟨its, rv, p⟩ := inv_seq I hqx
    have hh : X.A.in1.handled = none := I.ok.hd hc
    have G := GoesN.enumFrom (prog := X.prog) (w := X.w) (A := X.A) (elts := elts) (x1 := kk) (pos := tpos) k0 (drawsK hh it k a n1 its.toArray) e n2 (by simp [n2, n3]) (by simp)
    obtain ⟨he, h1⟩ := id st
    have e0 : i = its.toArray.size := by
      rw [← hend, rv.length]
      simp
    subst e0
    refine G.stops s _ E ⟨he, ⟨h1, p⟩⟩ fun h' tk hk _ => I.turnedL (t' := tk) (ch := [e, it]) (fun c o hb q => hk c o hb q) hf
  self := fun A i s Q E st h => let ⟨⟨_, he⟩, _⟩ := st; wpAny_pyIter_enum he h
/-! the calls -/
theorem meets_enum1 {v : Value} {o : Obj} {H : Heap → Prop} (B : Begins v o H) :
    Meets (Builtin.«enumerate.__new__» ⟨[.type "enumerate", v], []⟩) (fun _ R s => H s.heap ∧
      R (.ok (.ret (.ref (s.heap.push o).objs.size))) { s with heap := (s.heap.push o).push { cls := .type "enumerate", data := .fields #[.none, .bool false, .ref s.heap.objs.size, rawInt 0, .none, .none] } }) :=
  .of_wp fun prog w A R s h => by
    obtain ⟨hp, g, d, tk, os⟩ := s; obtain ⟨h1, h⟩ := h
    have hsub := sub_enumerate
    have q1 : ∀ {A' : Around} {E : Value → Shared → Prop} {Q : Value → Shared → Prop}, Q (.ref hp.objs.size) ⟨hp.push o, g, d, tk, os⟩ → wpAny (model prog w) A' (pyIter v) Q E ⟨hp, g, d, tk, os⟩ :=
      fun q => B.iter prog w _ _ ⟨hp, g, d, tk, os⟩ _ h1 q
    wp_walk using q1
    refine wpAny_stack_any fun st => wpAny_pure ?_
    split
    · rename_i c _ _ _ _ _
      cases (c == Value.type "enumerate")
      · wp_walk using q1
        exact ⟨_, rfl, h⟩
      · wp_walk using q1
        exact ⟨_, rfl, h⟩
    · wp_walk using q1
      exact ⟨_, rfl, h⟩
theorem enum1_begins {prog : Program} {w : World} {A : Around} {E : Value → Shared → Prop} {s : Shared} {v : Value} {o : Obj} {H : Heap → Prop} {Q : Value → Shared → Prop} (B : Begins v o H) (h1 : H s.heap)
    (h : ∀ h', IsEnum h' (s.heap.objs.size + 1) s.heap.objs.size 0 .none → h'.get? s.heap.objs.size = some o → h'.objs.size = s.heap.objs.size + 2 →
      (∀ b o, s.heap.get? b = some o → h'.get? b = some o) → Q (.ref (s.heap.objs.size + 1)) { s with heap := h' }) :
    wpAny (model prog w) A (call (.type "enumerate") [v]) Q E s := by
  refine callType_new F.called_enumerate (by decide) (F.typeCall_enumerate_1 _) (F.newCall_enumerate_1 _) (fun obj => F.args_object_init_2 obj _) F.entry_enumerate_new
    (meets_enum1 B) ⟨h1, ?_⟩
  have hz : (s.heap.push o).objs.size = s.heap.objs.size + 1 := Heap.size_push ..
  show _ ∧ _
  rw [hz]
  have he : IsEnum ((s.heap.push o).push { cls := .type "enumerate", data := .fields #[.none, .bool false, .ref s.heap.objs.size, rawInt 0, .none, .none] }) (s.heap.objs.size + 1) s.heap.objs.size 0 .none := by
    have := Heap.get?_push_size (s.heap.push o) (o := { cls := .type "enumerate", data := .fields #[.none, .bool false, .ref s.heap.objs.size, rawInt 0, .none, .none] }) rfl
    rw [hz] at this; exact this
  refine ⟨⟨_, he, rfl⟩, h _ he (Heap.get?_push_of_some _ (Heap.get?_push_size _ B.free)) (by rw [Heap.size_push, hz]) fun b o x => Heap.get?_push_of_some _ (Heap.get?_push_of_some _ x)⟩
theorem nat_ne {x y : Nat} (h : x ≠ y) : (show Addr from x) ≠ (show Addr from y) := h
theorem sep_n (n a b : Nat) (la : a < n) (lb : b < n) : ZipSep2 (n + 4) (n + 2) (n + 3) n (n + 1) [n, a] [n + 1, b] := by
  refine ⟨nat_ne ?_, nat_ne ?_, nat_ne ?_, nat_ne ?_, List.mem_cons_self, ?_, ?_, nat_ne ?_, List.mem_cons_self, ?_, ?_, ?_, ?_⟩
  all_goals first
    | omega
    | (intro hm
       rcases List.mem_cons.mp hm with z | z
       · exact absurd z (nat_ne (by omega))
       · exact absurd (List.mem_singleton.mp z) (nat_ne (by omega)))
def iZipK (K : PySem.W.Frag) (ta : TA) : TI := fun σ H R => ta σ H fun vs H1 => ∃ k1 k2 a b xs ys, vs = [.ref a, .ref b] ∧ SqK K H1 k1 a xs ∧ SqK K H1 k2 b ys ∧ R (ItZ K k1 a k2 b) H1
def iEnumK (K : PySem.W.Frag) (ta : TA) : TI := fun σ H R => ta σ H fun vs H1 => ∃ k a xs, vs = [.ref a] ∧ SqK K H1 k a xs ∧ R (ItE K 0 k a) H1
section
variable {X : Cx} {e e2 : Expr} {ta : TA} {p pos tpos : Pos} {elts : List Expr} {kk : Nat}
theorem pi_zipK (hg : Gl X "zip") (hm : X.mg "zip" = none) (ha : PA X [e, e2] ta)
    (hs : starEach [e, e2] X.env = (false, eval e X.env) :: starEach [e2] X.env) (hpl : (backTo pos (starEach [e2] X.env)).any (·.1) = false) :
    PI X (.Tuple elts kk tpos) (.Call (.Name "zip" p) [e, e2] [] pos) (iZipK X.K ta) := by
  refine ⟨fun pins s σ H R I h => ?_⟩
  refine Call_ (ld_blt I hg hm PyProof.Rows.boot_zip (PyProof.Rows.callWith_type1 (thn (ha.run pos pins s σ H _ I h) fun us s1 ⟨vs, H1, I1, r1, q1⟩ => ?_) hs hpl))
  obtain ⟨k1, k2, a, b, xs, ys, ex, hqx, hqy, q⟩ := q1
  subst ex
  cases r1 with
  | cons r rr =>
    cases rr with
    | cons r' rr =>
      cases rr
      cases r
      cases r'
      obtain ⟨its, rv, p1⟩ := inv_seq I1 hqx
      obtain ⟨its2, rv2, p2⟩ := inv_seq I1 hqy
      have la := seq_lt p1
      have lb := seq_lt p2
      refine zip_begins2 (beginsK k1 a its.toArray) (beginsK k2 b its2.toArray) p1 p2 fun h' hz hTI hTO h1 h2 hsz hk => wpAny_pyIter_zip hz ?_
      have I2 : Inv X pins σ H1 { s1 with heap := h' } := I1.kept (t' := s1.toks) hk
      refine ⟨s1.heap.objs.size + 4, [s1.heap.objs.size + 4, s1.heap.objs.size + 2, s1.heap.objs.size + 3, s1.heap.objs.size, s1.heap.objs.size + 1], _, _, H1, rfl, I2,
        turn_zipK (k1 := k1) (k2 := k2) ?_ (Nat.ne_of_lt la) (Nat.ne_of_lt (Nat.lt_succ_of_lt lb)), ⟨hz, hTI, ⟨_, _, hTO⟩, iter_new h1, iter_new h2⟩, fun c hcm => ?_, q⟩
      · exact sep_n _ _ _ la lb
      · have e' : c = s1.heap.objs.size + 4 ∨ c = s1.heap.objs.size + 2 ∨ c = s1.heap.objs.size + 3 ∨ c = s1.heap.objs.size ∨ c = s1.heap.objs.size + 1 := by simpa using hcm
        have hle : s1.heap.objs.size ≤ c := by
          rcases e' with z | z | z | z | z
          · rw [z]; exact Nat.le_add_right _ _
          · rw [z]; exact Nat.le_add_right _ _
          · rw [z]; exact Nat.le_add_right _ _
          · rw [z]; exact Nat.le_refl _
          · rw [z]; exact Nat.le_add_right _ _
        exact I1.fpOk hle (I1.hok.fresh hle)
theorem pi_enumK (hg : Gl X "enumerate") (hm : X.mg "enumerate" = none) (ha : PA X [e] ta) (hs : starEach [e] X.env = [(false, eval e X.env)]) :
    PI X (.Tuple elts kk tpos) (.Call (.Name "enumerate" p) [e] [] pos) (iEnumK X.K ta) := by
  refine ⟨fun pins s σ H R I h => ?_⟩
  refine Call_ (ld_blt I hg hm boot_enumerate (PyProof.Rows.callWith_type1 (thn (ha.run pos pins s σ H _ I h) fun us s1 ⟨vs, H1, I1, r1, q1⟩ => ?_) hs rfl))
  obtain ⟨k, a, xs, ex, hqx, q⟩ := q1
  subst ex
  cases r1 with
  | cons r rr =>
    cases rr
    cases r
    obtain ⟨its, rv, p1⟩ := inv_seq I1 hqx
    have la := seq_lt p1
    refine enum1_begins (beginsK k a its.toArray) p1 fun h' he hit hsz hk => wpAny_pyIter_enum he ?_
    have I2 : Inv X pins σ H1 { s1 with heap := h' } := I1.kept (t' := s1.toks) hk
    refine ⟨s1.heap.objs.size + 1, [s1.heap.objs.size + 1, s1.heap.objs.size], _, _, H1, rfl, I2, turn_enumK (k := k) (Nat.ne_of_lt la) (Nat.succ_ne_self _) (Nat.ne_of_gt (Nat.lt_succ_of_lt la)), ⟨⟨.none, he⟩, iter_new hit⟩, fun b hb => ?_, q⟩
    have e' : b = s1.heap.objs.size + 1 ∨ b = s1.heap.objs.size := by simpa using hb
    have hle : s1.heap.objs.size ≤ b := by
      rcases e' with z | z
      · rw [z]; exact Nat.le_add_right _ _
      · rw [z]; exact Nat.le_refl _
    exact I1.fpOk hle (I1.hok.fresh hle)
end
end PX
namespace PX
open PySem PySem.Spec PyProof.Rows L2
variable {Z : Wd}
/-! ### 22. zip and enumerate read -/
def zipD (xs ys : List D) : List D := List.zipWith (fun x y => D.tup [x, y]) xs ys
def enumD : Int → List D → List D
  | _, [] => []
  | k, x :: xs => .tup [.int k, x] :: enumD (k + 1) xs
theorem enumD_length : ∀ (xs : List D) (k : Int), (enumD k xs).length = xs.length
  | [], _ => rfl
  | x :: xs, k => by show (enumD (k + 1) xs).length + 1 = xs.length + 1; rw [enumD_length xs]
theorem enumD_get : ∀ (xs : List D) (k : Int) (i : Nat), (enumD k xs)[i]? = (xs[i]?).map fun x => D.tup [.int (k + (i : Int)), x]
  | [], _, _ => by simp [enumD]
  | x :: xs, k, 0 => by simp [enumD]
  | x :: xs, k, i + 1 => by
    show (enumD (k + 1) xs)[i]? = _
    rw [enumD_get xs (k + 1) i]
    have e : k + 1 + (i : Int) = k + ((i + 1 : Nat) : Int) := by omega
    rw [e]
    simp
def sqD (d : D) : Option (List D) := match d with
  | .lst ds => some ds
  | .tup ds => some ds
  | _ => none
theorem sqD_ok {K : PySem.W.Frag} {H : Hp} {ad : Pl} {v : V} {d : D} {ds : List D} (r : Rp K H ad v d) (h : sqD d = some ds) : ∃ k a vs, v = .ref a ∧ Rps K H ad vs ds ∧ ∀ H' ad', Std H ad H' ad' → SqK K H' k a vs := by
  cases d with
  | lst es =>
    cases h
    cases r with
    | @lst a vs _ la p => exact ⟨true, a, vs, rfl, p, fun H' ad' s => (la.std s).sq⟩
  | tup es =>
    cases h
    cases r with
    | @tup a vs _ la p => exact ⟨false, a, vs, rfl, p, fun H' ad' s => (la.std s).sq⟩
  | _ => cases h
theorem std_refl {H : Hp} {ad : Pl} : Std H ad H ad := ⟨fun _ _ h q => ⟨h, q⟩, fun _ _ h => h⟩
theorem yields_zip {K : PySem.W.Frag} {H : Hp} {ad : Pl} {k1 k2 : Bool} {a b : Addr} {vs ws : List V} {ds es : List D} (h1 : ∀ H' ad', Std H ad H' ad' → SqK K H' k1 a vs) (h2 : ∀ H' ad', Std H ad H' ad' → SqK K H' k2 b ws)
    (r1 : Rps K H ad vs ds) (r2 : Rps K H ad ws es) : Yields K H ad (ItZ K k1 a k2 b) (zipD ds es) where
  go := fun H' ad' i g hi => by
    have hi : i < min ds.length es.length := by simpa [zipD] using hi
    obtain ⟨v, hv, _⟩ := r1.get (List.getElem?_eq_getElem (show i < ds.length by omega))
    obtain ⟨w, hw, _⟩ := r2.get (List.getElem?_eq_getElem (show i < es.length by omega))
    exact ⟨vs, ws, v, w, h1 _ _ g, h2 _ _ g, hv, hw⟩
  stop := fun H' ad' g => ⟨vs, ws, h1 _ _ g, h2 _ _ g, by simp [zipD, r1.length, r2.length]⟩
  yld := fun H' ad' μ i x H2 d g m hd ⟨T, x1, x2, e, hT, eH, f1, f2⟩ => by
    subst e eH
    have hd : (zipD ds es)[i]? = some d := hd
    unfold zipD at hd
    rw [List.getElem?_zipWith] at hd
    cases q1 : ds[i]? with
    | none => rw [q1] at hd; cases hd
    | some d1 =>
      cases q2 : es[i]? with
      | none => rw [q1, q2] at hd; cases hd
      | some d2 =>
        rw [q1, q2] at hd
        cases hd
        obtain ⟨v, hv, rv⟩ := r1.get q1
        obtain ⟨w, hw, rw'⟩ := r2.get q2
        have e1 := f1 _ (h1 _ _ g)
        have e2 := f2 _ (h2 _ _ g)
        rw [hv] at e1
        rw [hw] at e2
        cases e1
        cases e2
        exact ⟨m.new hT, .newTup m hT (.cons (Rp.std g _ _ rv) (.cons (Rp.std g _ _ rw') .nil))⟩
theorem yields_enum {K : PySem.W.Frag} {H : Hp} {ad : Pl} {k : Bool} {k0 : Int} {a : Addr} {vs : List V} {ds : List D} (h1 : ∀ H' ad', Std H ad H' ad' → SqK K H' k a vs)
    (r1 : Rps K H ad vs ds) : Yields K H ad (ItE K k0 k a) (enumD k0 ds) where
  go := fun H' ad' i g hi => by
    rw [enumD_length] at hi
    obtain ⟨v, hv, _⟩ := r1.get (List.getElem?_eq_getElem hi)
    exact ⟨vs, v, h1 _ _ g, hv⟩
  stop := fun H' ad' g => ⟨vs, h1 _ _ g, by rw [r1.length, enumD_length]⟩
  yld := fun H' ad' μ i x H2 d g m hd ⟨T, x1, e, hT, eH, f1⟩ => by
    subst e eH
    rw [enumD_get] at hd
    obtain ⟨d1, q1, q2⟩ := Option.map_eq_some_iff.mp hd
    cases q2
    obtain ⟨v, hv, rv⟩ := r1.get q1
    have e1 := f1 _ (h1 _ _ g)
    rw [hv] at e1
    cases e1
    exact ⟨m.new hT, .newTup m hT (.cons (.int _) (.cons (Rp.std g _ _ rv) .nil))⟩
def zipM (ds : List D) : M (List D) := match ds with
  | [x, y] => lft ((sqD x).bind fun xs => (sqD y).map fun ys => zipD xs ys)
  | _ => stk
def enumM (ds : List D) : M (List D) := match ds with
  | [x] => lft ((sqD x).map fun xs => enumD 0 xs)
  | _ => stk
section
variable {X : Cx} {a b : Expr} {ms : List (Rho → M D)} {p pos tpos : Pos} {elts : List Expr} {kk : Nat}
theorem i_zip (hK : Z.K = X.K) (hg : Gl X "zip") (hm : X.mg "zip" = none) (ha : PA X [a, b] (tA Z (evA ms))) (hs : starEach [a, b] X.env = (false, eval a X.env) :: starEach [b] X.env) (hpl : (backTo pos (starEach [b] X.env)).any (·.1) = false) :
    PI X (.Tuple elts kk tpos) (.Call (.Name "zip" p) [a, b] [] pos) (tI Z fun ρ => bd (evA ms ρ) zipM) :=
  PIi (pi_zipK hg hm ha hs hpl) fun σ H R ⟨ad, ρ, μ, g, hl, h⟩ => stepA g hl h fun vs ds H1 ad1 μ1 n1 g1 r1 q1 => by
    match ds, r1, q1 with
    | [x, y], r1, q1 =>
      obtain ⟨v, w, rfl, rx, ry⟩ := rps2 r1
      obtain ⟨es, e, q⟩ := sat_lft.mp q1
      obtain ⟨xs, ex, e⟩ := Option.bind_eq_some_iff.mp e
      obtain ⟨ys, ey, e⟩ := Option.map_eq_some_iff.mp e
      subst e
      obtain ⟨k1, c1, vs, rfl, p1, s1⟩ := sqD_ok rx ex
      obtain ⟨k2, c2, ws, rfl, p2, s2⟩ := sqD_ok ry ey
      exact ⟨k1, k2, c1, c2, vs, ws, rfl, hK ▸ s1 _ _ std_refl, hK ▸ s2 _ _ std_refl, hK ▸ q _ H1 ad1 n1 (yields_zip s1 s2 p1 p2)⟩
    | [], _, q1 => exact q1.elim
    | [_], _, q1 => exact q1.elim
    | _ :: _ :: _ :: _, _, q1 => exact q1.elim
theorem i_enum (hK : Z.K = X.K) (hg : Gl X "enumerate") (hm : X.mg "enumerate" = none) (ha : PA X [a] (tA Z (evA ms))) (hs : starEach [a] X.env = [(false, eval a X.env)]) :
    PI X (.Tuple elts kk tpos) (.Call (.Name "enumerate" p) [a] [] pos) (tI Z fun ρ => bd (evA ms ρ) enumM) :=
  PIi (pi_enumK hg hm ha hs) fun σ H R ⟨ad, ρ, μ, g, hl, h⟩ => stepA g hl h fun vs ds H1 ad1 μ1 n1 g1 r1 q1 => by
    match ds, r1, q1 with
    | [x], r1, q1 =>
      obtain ⟨v, rfl, rx⟩ := rps1 r1
      obtain ⟨es, e, q⟩ := sat_lft.mp q1
      obtain ⟨xs, ex, e⟩ := Option.map_eq_some_iff.mp e
      subst e
      obtain ⟨k1, c1, vs, rfl, p1, s1⟩ := sqD_ok rx ex
      exact ⟨k1, c1, vs, rfl, hK ▸ s1 _ _ std_refl, hK ▸ q _ H1 ad1 n1 (yields_enum s1 p1)⟩
    | [], _, q1 => exact q1.elim
    | _ :: _ :: _, _, q1 => exact q1.elim
end
/-! ### 23. a new object is hidden while its parts are made, then it joins the store -/
def era (H : Hp) (p : Addr) : Hp := fun b => if b = p then none else H b
section
variable {K : PySem.W.Frag} {H H2 : Hp} {ad ad2 : Pl} {μ μ2 : Mu} {p : Addr} {o : HO}
theorem era_upd (H : Hp) (p : Addr) (o : HO) : upd (era H p) p o = upd H p o := by
  funext b
  unfold upd era
  by_cases h : b = p
  · rw [if_pos h, if_pos h]
  · rw [if_neg h, if_neg h, if_neg h]
theorem era_self : era H p p = none := if_pos rfl
theorem era_ne {b : Addr} (h : b ≠ p) : era H p b = H b := if_neg h
theorem hid_pr (n : Nx K (upd H p o) ⟨ad.ad, p :: ad.pr⟩ H2 ad2 μ2) : ad2.pr = p :: ad.pr := n.gr.pr_eq
theorem hid_std (n : Nx K (upd H p o) ⟨ad.ad, p :: ad.pr⟩ H2 ad2 μ2) : Std H2 ad2 (era H2 p) ⟨ad2.ad, ad.pr⟩ := by
  have e := hid_pr n
  refine ⟨fun b u hb q => ?_, fun _ _ h => h⟩
  have hb2 := hb.2
  rw [e] at hb2
  refine ⟨⟨hb.1, fun z => hb2 (List.mem_cons_of_mem _ z)⟩, ?_⟩
  rw [era_ne fun z => hb2 (by rw [z]; exact List.mem_cons_self)]
  exact q
theorem hid_grow (hp : H p = none) (n : Nx K (upd H p o) ⟨ad.ad, p :: ad.pr⟩ H2 ad2 μ2) : Grow H ad (era H2 p) ⟨ad2.ad, ad.pr⟩ := by
  obtain ⟨l, e, hl⟩ := n.gr.pre
  refine ⟨⟨l, by rw [e]; rfl, fun b hb => ?_⟩, fun b u hb q => ?_, fun b q => ?_⟩
  · have z := hl b hb
    by_cases h : b = p
    · rw [h]; exact hp
    · rw [upd_ne h] at z; exact z
  · have h : b ≠ p := ne_of_none q hp
    rw [era_ne h]
    exact n.gr.keep b u hb (by rw [upd_ne h]; exact q)
  · by_cases h : b = p
    · rw [h]; exact hp
    · rw [era_ne h] at q
      have z := n.gr.live b q
      rw [upd_ne h] at z
      exact z
theorem hid_nx (m : MuOk K H ad μ) (hp : H p = none) (n : Nx K (upd H p o) ⟨ad.ad, p :: ad.pr⟩ H2 ad2 μ2) : Nx K H ad (era H2 p) ⟨ad2.ad, ad.pr⟩ μ2 := by
  have e := hid_pr n
  have hin : p ∈ ad2.pr := by rw [e]; exact List.mem_cons_self
  refine ⟨hid_grow hp n, n.mu.to (hid_std n) rfl (fun a ha => era_ne fun z => (n.mu.prn p hin).2 (by rw [← z]; exact ha)) fun b hb => ?_⟩
  have hbp : b ≠ p := fun z => (m.prn b hb).1 (by rw [z]; exact hp)
  rw [era_ne hbp]
  exact n.mu.prn b (by rw [e]; exact List.mem_cons_of_mem _ hb)
/-- an exception behind a hidden object -/
theorem show_nx (m : MuOk K H ad μ) (hp : H p = none) (n : Nx K (upd H p o) ⟨ad.ad, p :: ad.pr⟩ H2 ad2 μ2) : Nx K H ad H2 ⟨ad2.ad, ad.pr⟩ μ2 := by
  have e := hid_pr n
  obtain ⟨a2, p2⟩ := ad2
  have e : p2 = p :: ad.pr := e
  subst e
  refine ⟨?_, n.mu.show⟩
  obtain ⟨l, e, hl⟩ := n.gr.pre
  refine ⟨⟨l, by rw [(by injection e : a2 = ad.ad ++ l)]; rfl, fun b hb => ?_⟩, fun b u hb q => ?_, fun b q => ?_⟩
  · have z := hl b hb
    by_cases h : b = p
    · rw [h]; exact hp
    · rw [upd_ne h] at z; exact z
  · have h : b ≠ p := ne_of_none q hp
    exact n.gr.keep b u hb (by rw [upd_ne h]; exact q)
  · have z := n.gr.live b q
    by_cases h : b = p
    · rw [h]; exact hp
    · rw [upd_ne h] at z
      exact z
end
theorem Xp.std {mg : Str → Option Value} {K : PySem.W.Frag} {H H' : Hp} {ad ad' : Pl} {x : Xn} {cls : Value} {dd : Option Addr} (s : Std H ad H' ad') (h : Xp mg K H ad x cls dd) : Xp mg K H' ad' x cls dd := by
  obtain ⟨C, h1, h2, h3⟩ := h
  refine ⟨C, h1, h2, h3.imp id fun ⟨a, fv, e, q, o, f1, f2⟩ => ⟨a, fv, e, (s.keep a _ o q).2, (s.keep a _ o q).1, f1, Rps.std s _ _ f2⟩⟩
theorem XW.hid {H : Hp} {ad : Pl} {μ : Mu} {p : Addr} {o : HO} {x : Xn} {μ2 : Mu} (m : MuOk Z.K H ad μ) (hp : H p = none) (h : XW Z H ad x μ2) : XW Z (upd H p o) ⟨ad.ad, p :: ad.pr⟩ x μ2 := fun cls dd σ' H' ad' l n xp => by
  have n' := show_nx m hp n
  have e := hid_pr n
  obtain ⟨a2, p2⟩ := ad'
  have e : p2 = p :: ad.pr := e
  subst e
  exact h cls dd σ' H' _ l n' (xp.std std_show)
/-! ### 24. dict displays, stores to a dict's or a list's place -/
def putAll (kd : List (Str × D)) : List (Str × D) → List (Str × D)
  | [] => kd
  | (k, d) :: r => putAll (putS kd k d) r
theorem krs_all {K : PySem.W.Frag} {H : Hp} {ad : Pl} : ∀ (ks : List Str) (vs : List V) (ds : List D) (kv : List (Key × V)) (kd : List (Str × D)), Rps K H ad vs ds → KRs K H ad kv kd →
    KRs K H ad (mergeK kv ((ks.zip vs).map fun p => ((Sum.inr p.1 : Key), p.2))) (putAll kd (ks.zip ds))
  | [], _, _, kv, kd, _, q => by simpa [mergeK, putAll] using q
  | k :: ks, [], _, kv, kd, r, q => by
    cases r
    simpa [mergeK, putAll] using q
  | k :: ks, v :: vs, _, kv, kd, r, q => by
    cases r with
    | cons a r => exact krs_all ks vs _ _ _ r (krs_put q a)
theorem pures_put {kd : List (Str × D)} {k : Str} {d : D} (h : D.pures (kd.map (·.2)) = true) (hd : d.pure = true) : D.pures ((putS kd k d).map (·.2)) = true := by
  rw [pures_all, List.all_eq_true] at h ⊢
  intro x hx
  obtain ⟨p, hp, rfl⟩ := List.mem_map.mp hx
  unfold putS at hp
  split at hp
  · obtain ⟨q, hq, e⟩ := List.mem_map.mp hp
    subst e
    split
    · exact hd
    · exact h _ (List.mem_map_of_mem hq)
  · rcases List.mem_append.mp hp with z | z
    · exact h _ (List.mem_map_of_mem z)
    · rw [List.mem_singleton.mp z]; exact hd
theorem pures_putAll : ∀ (l kd : List (Str × D)), D.pures (kd.map (·.2)) = true → D.pures (l.map (·.2)) = true → D.pures ((putAll kd l).map (·.2)) = true
  | [], kd, h, _ => h
  | (k, d) :: r, kd, h, hl => by
    have hl : (d.pure && D.pures (r.map (·.2))) = true := hl
    rw [Bool.and_eq_true] at hl
    exact pures_putAll r _ (pures_put h hl.1) hl.2
theorem pures_zip : ∀ (ks : List Str) (ds : List D), D.pures ds = true → D.pures ((ks.zip ds).map (·.2)) = true
  | [], _, _ => rfl
  | _ :: _, [], _ => rfl
  | k :: ks, d :: ds, h => by
    have h : (d.pure && D.pures ds) = true := h
    rw [Bool.and_eq_true] at h
    show (d.pure && D.pures ((ks.zip ds).map (·.2))) = true
    rw [h.1, pures_zip ks ds h.2]
    rfl
def newDk (ks : List Str) (ds : List D) : M D := fun μ => if (D.pures ds && decide (ks.length = ds.length) && decide (ks.length ≤ 15)) = true then .ok (.ref μ.length) (μ ++ [.dk (putAll [] (ks.zip ds))]) else .no
def dispM (kms : List (Str × (Rho → M D))) (ρ : Rho) : M D := bd (evA (kms.map (·.2)) ρ) (newDk (kms.map (·.1)))
def dispTs (Z : Wd) (kms : List (Str × (Rho → M D))) : List (TE × TE) := kms.map fun p => (tC (.str p.1), tE Z p.2)
theorem t_pairs : ∀ (kms : List (Str × (Rho → M D))) (σ : L2.St) (H : Hp) (Q : List (V × V) → Hp → Prop), tA Z (evA (kms.map (·.2))) σ H (fun vs H' => Q (((kms.map (·.1)).zip vs).map fun p => (V.str p.1, p.2)) H') → tPairs (dispTs Z kms) σ H Q
  | [], σ, H, Q, ⟨ad, ρ, μ, g, hl, h⟩ => h [] H ad (.refl g.mu) .nil
  | (k, m) :: r, σ, H, Q, ⟨ad, ρ, μ, g, hl, h⟩ => by
    have h : Sat (bd (m ρ) (fun d => bd (evA (r.map (·.2)) ρ) fun ds => rt (d :: ds)) μ) _ _ := h
    refine step g hl h fun v d H1 ad1 μ1 n1 g1 r1 q1 => t_pairs r σ H1 _ ⟨ad1, ρ, μ1, g1, hl, (sat_bd.mp q1).mono (fun ds μ2 w vs H2 ad2 n2 rs => ?_) fun _ _ z => z⟩
    exact w (v :: vs) H2 ad2 (n1.trans n2) (.cons (Rp.grow n2.gr d v r1) rs)
section
variable {X : Cx} {keys : List (Option Expr)} {values : List Expr} {kms : List (Str × (Rho → M D))} {pos : Pos}
theorem x_disp (h : PPs X pos keys values (dispTs Z kms)) (hall : keys.all (·.isSome) = true) (hl : keys.length = values.length) (h0 : keys ≠ []) (h15 : keys.length ≤ 15) : PE X (.Dict keys values pos) (tE Z (dispM kms)) :=
  PEi (pe_disp h hall hl h0 h15) fun σ H Q ⟨ad, ρ, μ, g, hl, q⟩ => by
    intro p hp
    refine t_pairs kms σ _ _ ⟨⟨ad.ad, p :: ad.pr⟩, ρ, μ, g.to (std_hide hp) (g.mu.hide hp), hl, (sat_bd.mp q).mono (fun ds μ2 w vs H2 ad2 n2 rs => ?_) fun _ _ z => z.hid g.mu hp⟩
    have w : Sat (newDk (kms.map (·.1)) ds μ2) (KE Z H ad Q) (XW Z H ad) := w
    unfold newDk at w
    by_cases c : (D.pures ds && decide ((kms.map (·.1)).length = ds.length) && decide ((kms.map (·.1)).length ≤ 15)) = true
    · rw [if_pos c] at w
      simp only [Bool.and_eq_true, decide_eq_true_eq] at c
      obtain ⟨⟨c1, c2⟩, c3⟩ := c
      have hn := hid_nx g.mu hp n2
      refine ⟨n2.gr.keep p _ (g.mu.out hp).1 upd_same, (((kms.map (·.1)).zip vs).map fun q => ((Sum.inr q.1 : Key), q.2)), ?_, ?_, ?_⟩
      · rw [List.map_map]
        rfl
      · rw [List.length_map, List.length_zip]
        omega
      · have rs' := Rps.std (hid_std n2) _ _ rs
        have pu : (SO.dk (putAll [] ((kms.map (·.1)).zip ds))).pure = true := pures_putAll _ [] rfl (pures_zip _ _ c1)
        have n3 := hn.mu.push (p := p) (o := .dK (mergeK [] (((kms.map (·.1)).zip vs).map fun q => ((Sum.inr q.1 : Key), q.2)))) era_self pu fun H' ad' gr e => ⟨_, e, krs_all _ _ _ _ _ (Rps.grow gr _ _ rs') ⟨rfl, .nil⟩⟩
        rw [era_upd] at n3
        refine w (.ref p) _ _ (hn.trans n3) (.ref ?_)
        show ((ad2.ad ++ [p])[μ2.length]?) = some p
        rw [← hn.mu.len]
        simp
    · rw [if_neg c] at w
      exact w.elim
theorem pp_nil : PPs X pos [] [] (dispTs Z []) := pps_nil
theorem pp_cons {k : Str} {j : Nat} {kp : Pos} {v : Expr} {m : Rho → M D} {ks : List (Option Expr)} {vs : List Expr} (hv : PE X v (tE Z m)) (hr : PPs X pos ks vs (dispTs Z kms)) : PPs X pos (some (.Constant (.str k) j kp) :: ks) (v :: vs) (dispTs Z ((k, m) :: kms)) :=
  pps_cons pe_str hv hr
end
/-- o[i] = v: a dict's text key; a list's place -/
def mlOf (μ : Mu) (n : Nat) : Option (List D) := match μ[n]? with
  | some (.ml ds) => some ds
  | _ => none
theorem mlOf_ok {K : PySem.W.Frag} {H : Hp} {ad : Pl} {μ : Mu} (m : MuOk K H ad μ) {n : Nat} {a : Addr} {ds : List D} (e : ad.ad[n]? = some a) (h : mlOf μ n = some ds) : ∃ vs, H a = some (.lst vs) ∧ Rps K H ad vs ds := by
  unfold mlOf at h
  cases k : μ[n]? with
  | none => rw [k] at h; cases h
  | some o =>
    rw [k] at h
    cases o with
    | dk kd' => cases h
    | ml es => cases h; exact m.so n a _ e k
def putD (o i v : D) : M Unit := fun μ => match o, i with
  | .ref n, .str k => (match dkAt μ n with
    | some kd => if (v.pure && decide (kd.length < 1000000)) = true then .ok () (μ.set n (.dk (putS kd k v))) else .no
    | none => .no)
  | .ref n, .int j => (match mlOf μ n with
    | some ds => (match ixN ds.length j with
      | some i => if v.pure = true then .ok () (μ.set n (.ml (ds.set i v))) else .no
      | none => .no)
    | none => .no)
  | _, _ => .no
theorem Rps.set {K : PySem.W.Frag} {H : Hp} {ad : Pl} {v : V} {d : D} (a : Rp K H ad v d) : ∀ {vs : List V} {ds : List D} (i : Nat), Rps K H ad vs ds → Rps K H ad (vs.set i v) (ds.set i d)
  | _, _, _, .nil => .nil
  | _, _, 0, .cons _ r => .cons a r
  | _, _, i + 1, .cons b r => .cons b (Rps.set a i r)
theorem pures_set {d : D} (hd : d.pure = true) : ∀ (ds : List D) (i : Nat), D.pures ds = true → D.pures (ds.set i d) = true
  | [], _, h => h
  | x :: xs, 0, h => by
    have h : (x.pure && D.pures xs) = true := h
    rw [Bool.and_eq_true] at h
    show (d.pure && D.pures xs) = true
    rw [hd, h.2]; rfl
  | x :: xs, i + 1, h => by
    have h : (x.pure && D.pures xs) = true := h
    rw [Bool.and_eq_true] at h
    show (x.pure && D.pures (xs.set i d)) = true
    rw [h.1, pures_set hd xs i h.2]; rfl
def sPutX (td ty tv : TE) : TS := fun D σ H => tv σ H fun v H1 => td σ H1 fun x H2 => ty σ H2 fun y H3 => (rSetD x y v H3 fun H4 => D.nx σ H4) ∨ (rSetL x y v H3 fun H4 => D.nx σ H4)
section
variable {X : Cx} {o i value : Expr} {mo mi mv : Rho → M D} {pos pos' : Pos}
theorem ps_putX {td ty tv : TE} (hu : X.A.units + 1 < cLine) (ho : PE X o td) (hi : PE X i ty) (hv : PE X value tv) (hs : swapsWith value (some (.Subscript o i pos')) pos.line X.env = pure false) :
    PS X (.Assign [.Subscript o i pos'] value pos) (sPutX td ty tv) := by
  refine ⟨fun pins s σ H D I h => ?_⟩
  refine wpAny_Assign_Subscript (thn (hv.run pins s σ H _ I h) fun r s1 ⟨v, H1, I1, rv, q1⟩ => thn (ho.run pins s1 σ H1 _ I1 q1) fun u s2 ⟨x, H2, I2, rx, q2⟩ => thn (hi.run pins s2 σ H2 _ I2 q2) fun iv s3 ⟨y, H3, I3, ry, q3⟩ => ?_) hs
  rcases q3 with q3 | q3
  · exact wpAny_mono (set_dict hu pins s3 σ H3 x y v u iv r _ I3 rx ry rv q3) (fun _ s4 ⟨H4, I4, q4⟩ => ⟨σ, H4, I4, q4⟩) fun _ _ z => z
  · exact wpAny_mono (set_list pins s3 σ H3 x y v u iv r _ I3 rx ry rv q3) (fun _ s4 ⟨H4, I4, q4⟩ => ⟨σ, H4, I4, q4⟩) fun _ _ z => z
theorem s_put (hu : X.A.units + 1 < cLine) (ho : PE X o (tE Z mo)) (hi : PE X i (tE Z mi)) (hv : PE X value (tE Z mv)) (hs : swapsWith value (some (.Subscript o i pos')) pos.line X.env = pure false) :
    PS X (.Assign [.Subscript o i pos'] value pos) (tS Z fun ρ => bd (mv ρ) fun v => bd (mo ρ) fun d => bd (mi ρ) fun e => bd (putD d e v) fun _ => rt (.nx ρ)) :=
  PSi (ps_putX hu ho hi hv hs) fun E σ H ⟨ad, ρ, μ, g, hl, h⟩ => step g hl h fun v dv H1 ad1 μ1 n1 g1 r1 q1 => step g1 hl q1 fun x dx H2 ad2 μ2 n2 g2 r2 q2 => step g2 hl q2 fun y dy H3 ad3 μ3 n3 g3 r3 q3 => by
    have rv := Rp.grow (n2.gr.trans n3.gr) dv v r1
    have rx := Rp.grow n3.gr dx x r2
    have q3 := sat_bd.mp q3
    cases dx with
    | ref n =>
      cases rx with
      | @ref a _ ea =>
        cases dy with
        | str k =>
          obtain rfl := rp_str r3
          have q3 : Sat (match dkAt μ3 n with
            | some kd => if (dv.pure && decide (kd.length < 1000000)) = true then R.ok () (μ3.set n (.dk (putS kd k dv))) else .no
            | none => .no) _ _ := q3
          cases hk : dkAt μ3 n with
          | none => rw [hk] at q3; exact q3.elim
          | some kd =>
            rw [hk] at q3
            by_cases c : (dv.pure && decide (kd.length < 1000000)) = true
            · have q3 : Sat (if (dv.pure && decide (kd.length < 1000000)) = true then R.ok () (μ3.set n (.dk (putS kd k dv))) else .no) _ _ := q3
              rw [if_pos c] at q3
              simp only [Bool.and_eq_true, decide_eq_true_eq] at c
              obtain ⟨kv, hkv, kr⟩ := dkAt_ok g3.mu ea hk
              have pk : D.pures (kd.map (·.2)) = true := by
                unfold dkAt at hk
                cases z : μ3[n]? with
                | none => rw [z] at hk; cases hk
                | some o =>
                  rw [z] at hk
                  cases o with
                  | dk kd' => cases hk; exact g3.mu.pur n _ z
                  | ml es => cases hk
              have n4 := g3.mu.wr (n := n) (p := a) (o := .dK (putK kv (Sum.inr k : Key) v)) (so := .dk (putS kd k dv)) ea (pures_put pk c.1) fun H' gr e => ⟨_, e, krs_put ⟨kr.1, Rps.grow gr _ _ kr.2⟩ (Rp.grow gr _ _ rv)⟩
              refine .inl ⟨a, _, rfl, DPut.k (k := Sum.inr k) hkv (by rw [kr.length, sizeLine_eq]; omega), ?_⟩
              exact q3 σ _ _ (((n1.trans n2).trans n3).trans n4) (g3.nx n4) hl
            · have q3 : Sat (if (dv.pure && decide (kd.length < 1000000)) = true then R.ok () (μ3.set n (.dk (putS kd k dv))) else .no) _ _ := q3
              rw [if_neg c] at q3
              exact q3.elim
        | int j =>
          obtain rfl := rp_int r3
          have q3 : Sat (match mlOf μ3 n with
            | some ds => (match ixN ds.length j with
              | some i => if dv.pure = true then R.ok () (μ3.set n (.ml (ds.set i dv))) else .no
              | none => .no)
            | none => .no) _ _ := q3
          cases hk : mlOf μ3 n with
          | none => rw [hk] at q3; exact q3.elim
          | some ds =>
            rw [hk] at q3
            have q3 : Sat (match ixN ds.length j with
              | some i => if dv.pure = true then R.ok () (μ3.set n (.ml (ds.set i dv))) else .no
              | none => .no) _ _ := q3
            cases hj : ixN ds.length j with
            | none => rw [hj] at q3; exact q3.elim
            | some i =>
              rw [hj] at q3
              have q3 : Sat (if dv.pure = true then R.ok () (μ3.set n (.ml (ds.set i dv))) else .no) _ _ := q3
              by_cases c : dv.pure = true
              · rw [if_pos c] at q3
                obtain ⟨vs, hvs, rvs⟩ := mlOf_ok g3.mu ea hk
                have pk : D.pures ds = true := by
                  unfold mlOf at hk
                  cases z : μ3[n]? with
                  | none => rw [z] at hk; cases hk
                  | some o =>
                    rw [z] at hk
                    cases o with
                    | dk kd' => cases hk
                    | ml es => cases hk; exact g3.mu.pur n _ z
                have n4 := g3.mu.wr (n := n) (p := a) (o := .lst (vs.set i v)) (so := .ml (ds.set i dv)) ea (pures_set c ds i pk) fun H' gr e => ⟨_, e, Rps.set (Rp.grow gr _ _ rv) i (Rps.grow gr _ _ rvs)⟩
                refine .inr ⟨a, vs, j, i, rfl, rfl, hvs, by rw [rvs.length]; exact hj, ?_⟩
                exact q3 σ _ _ (((n1.trans n2).trans n3).trans n4) (g3.nx n4) hl
              · rw [if_neg c] at q3
                exact q3.elim
        | _ => exact q3.elim
    | _ => exact q3.elim
end
end PX
namespace PX
open PySem PySem.Spec PyProof.Rows L2
variable {Z : Wd}
/-! ### 25. a def by its body -/
def startD (n : Nat) (ds : List D) : Rho := ds.map some ++ List.replicate (n - ds.length) none
def outD (m : Rho → M Fl) (n : Nat) (ds : List D) : M D := bd (m (startD n ds)) fun f => match f with
  | .rt d => rt d
  | .nx _ => rt .non
  | _ => stk
theorem start_gd {K : PySem.W.Frag} {H : Hp} {ad : Pl} {μ : Mu} {N : List Str} {vs : List V} {ds : List D} (m : MuOk K H ad μ) (r : Rps K H ad vs ds) : Gd K H ad (L2.start N vs) (startD N.length ds) μ := by
  refine ⟨m, by simp [L2.start, startD, r.length], fun i d e => ?_⟩
  have e : (ds.map some ++ List.replicate (N.length - ds.length) none)[i]? = some (some d) := e
  show ∃ v, (vs.map some ++ List.replicate (N.length - vs.length) none)[i]? = some (some v) ∧ Rp K H ad v d
  by_cases hi : i < ds.length
  · rw [List.getElem?_append_left (by simpa using hi), List.getElem?_map] at e
    obtain ⟨d', h1, h2⟩ := Option.map_eq_some_iff.mp e
    cases h2
    obtain ⟨v, hv, rv⟩ := r.get h1
    refine ⟨v, ?_, rv⟩
    rw [List.getElem?_append_left (by simpa [r.length] using hi), List.getElem?_map, hv]
    rfl
  · rw [List.getElem?_append_right (by simpa using hi), List.getElem?_replicate] at e
    split at e <;> cases e
theorem envOfC_scope {qual : Str} {scope : Scope} {n : Nat} {f : Addr} {cd : Value} : (envOfC qual scope n f cd).scope = scope := rfl
section
variable {P : Program} {w : World} {K : PySem.W.Frag} {mg : Str → Option Value} {base : Heap} {k : Nat} {f : Addr} {name qual : Str} {params : Arguments} {body : List Stmt} {scope : Scope} {dV kV doc pm cdv ct oc : Value} {an od : Option Addr} {osl : Array (Option Value)} {N ps : List Str} {m : Rho → M Fl}
theorem fn_G (lk : K.lookup f = some ⟨oc, od, .func (PySem.W.fnOf name qual params body scope dV kV doc pm an cdv ct), osl⟩) (hcd : PySem.W.codeIn K cdv qual = true) (S : FnScope N ps scope)
    (hbody : ∀ (A : Around) (outer : List Env) (s : Shared) (H : Hp) (E : XK), Room k (A.deeper (envOfC qual scope s.heap.objs.size f cdv)) → A.guards = some [] →
      PSs (cxOf (L2.CX P w) P w K mg base N qual scope f cdv A outer s H E) body (tS ⟨K, mg, fun cls d _ H => E cls d H, N.length⟩ m)) :
    FnG P w K mg base (k + 1) f (PySem.W.fnOf name qual params body scope dV kV doc pm an cdv ct) ps (spF mg K ps.length (outD m N.length)) := by
  have len : ∀ vs H Q E, spF mg K ps.length (outD m N.length) vs H Q E → vs.length = ps.length := fun vs H Q E ⟨ad, μ, ds, hm, r, hl, _⟩ => by rw [r.length, hl]
  refine ⟨len, fun A outer s H args us vs Q E hr hgd e0 hb r hsp => ?_⟩
  have hl := len _ _ _ _ hsp
  have KX : K.In s.heap := e0.mod.kin.keeps fun b o e => (e0.bs b o e).1
  have lim : s.heap.NoLimit := e0.mod.nolimit.keeps fun b o e => (e0.bs b o e).1
  obtain ⟨ad, μ, ds, hm, rp, hd, q⟩ := hsp
  have kinds : ∀ y ∈ ps.zip us, scope.names.lookup y.1 = some .local ∨ (scope.names.lookup y.1 = some .cell ∧ ((cellsFrom (s.heap.objs.size + 1) scope.names []).lookup y.1).isSome = true) := fun y hy =>
    (S.par y.1 (List.of_mem_zip (a := y.1) (b := y.2) hy).1).imp id fun z => ⟨z, PySem.W.cellsFrom_some _ _ _ (.inl z)⟩
  refine codeAny_call_function hr.depth (KX _ _ lk) rfl S.co S.gen rfl (PySem.W.codeRec_of KX hcd) (hb _ _ _ _ (wpAny_newFunctionEnv_cells S.kind kinds fun env he s1 x => ?_))
  cases he
  refine ⟨lim.keeps x.toInCall.keep, codeAny_func ?_⟩
  have B := hbody A outer s H E (hr.deeper _) hgd
  have J0 := inv_start (CX := L2.CX P w) (base := base) (qual := qual) (cd := cdv) (f := f) (E := E) S hr.hd e0 hl r x
  have want : tS ⟨K, mg, fun cls d _ H => E cls d H, N.length⟩ m { nx := fun _ H' => Q .non H', rt := Q } (L2.start N vs) H := by
    refine ⟨ad, startD N.length ds, μ, start_gd hm rp, ?_, ?_⟩
    · show (vs.map some ++ List.replicate (N.length - vs.length) none).length = N.length
      have hpl := congrArg List.length S.pre
      rw [List.length_take] at hpl
      simp
      omega
    · refine (sat_bd.mp q).mono (fun fl μ' z => ?_) fun y μ' z cls dd σ' H' ad' _ n xp => z cls dd H' ad' n xp
      cases fl with
      | nx ρ' => exact fun σ' H' ad' n _ _ => z .non H' ad' n .non
      | rt d => exact fun v H' ad' n rv => z v H' ad' n rv
      | bk ρ' => exact z.elim
      | ct ρ' => exact z.elim
  refine wpAny_mono (B.run [] s1 (L2.start N vs) H _ J0 want) (fun fl s' hs => ?_) fun e s' hs => hs
  cases fl with
  | ret u =>
    obtain ⟨v, σ', H', J, rv, w⟩ := hs
    exact ⟨v, H', J.os, J.bare, J.base, J.hok, rv, w⟩
  | next =>
    obtain ⟨σ', H', J, w⟩ := hs
    exact ⟨V.non, H', J.os, J.bare, J.base, J.hok, rfl, w⟩
  | brk => exact hs.elim fun _ z => z.elim fun _ z => z.2.elim
  | cont => exact hs.elim fun _ z => z.elim fun _ z => z.2.elim
end
theorem FnG.mono {P : Program} {w : World} {K : PySem.W.Frag} {mg : Str → Option Value} {base : Heap} {j k : Nat} {f : Addr} {fd : FuncData} {ps : List Str} {sp : Sp} (F : FnG P w K mg base j f fd ps sp) (h : j ≤ k) : FnG P w K mg base k f fd ps sp :=
  ⟨F.len, fun A outer s H args us vs Q E hr => F.run A outer s H args us vs Q E (hr.mono h)⟩
theorem FnG.stk {P : Program} {w : World} {K : PySem.W.Frag} {mg : Str → Option Value} {base : Heap} {k n : Nat} {f : Addr} {fd : FuncData} {ps : List Str} (h : ps.length = n) : FnG P w K mg base k f fd ps (spF mg K n fun _ => stk) :=
  ⟨fun vs H Q E ⟨ad, μ, ds, hm, r, hl, q⟩ => q.elim, fun A outer s H args us vs Q E hr hg e0 hb hv ⟨ad, μ, ds, hm, r, hl, q⟩ => q.elim⟩
/-! ### 26. the law's end -/
section
variable {P : Program} {w : World} {K : PySem.W.Frag} {mg mb : Str → Option Value} {k : Nat} {fa a : Addr} {fd : FuncData} {x : Str} {F : List D → M D} {s1 : Shared} {us : List Value} {ns : List Int}
/-- from an abstract heap G that holds the script, or nothing -/
theorem end_core (KX : K.In s1.heap) (hns : s1.heap.Ns mainGlobals mg) (hb : s1.heap.Ns builtinsNs mb) (hbb : ∀ x : Str, x ≠ "__name__" → mb x = bootBuiltins x) (hlim : s1.heap.NoLimit) (hgen : s1.gens = #[])
    (ha : s1.heap.get? a = some { cls := .type "list", data := .seq us.toArray }) (hr : Room k callerA)
    (hF : ∀ base : Heap, K.In base → base.Ns mainGlobals mg → FnG P w K mg base k fa fd [x] (spF mg K 1 F)) (hbind : ∀ (s : Shared) (u : Value), BindsTo s fd ⟨[u], []⟩ [(x, u)]) (hT : ∃ μ, F [.lst (ns.map .int)] [] = .ok (.bl true) μ)
    (G : Hp) (only : Only G) (at_ : SqL K G a (ns.map V.int)) (ok : HOk P w G s1.heap) (sole : ∀ b, G b ≠ none → b = a) (apart : G a ≠ none → K.lookup a = none) :
    codeAny (model P w) callerA (.call (.ref fa) ⟨[.ref a], []⟩) (fun r s' => r = .ok (.ret (.bool true)) ∧ OldK s1.heap s'.heap ∧ s'.os = s1.os ∧ AllBare s'.gens) s1 := by
  have grd : ∀ {b : Addr} {o : Obj}, s1.heap.get? b = some o → (b = a → G b = none) → (hidT s1.heap G).get? b = some o := fun {b o} e h => hidT_get e (by
    cases q : G b with
    | none => rfl
    | some u =>
      have z := h (sole b (by rw [q]; exact fun z => nomatch z))
      rw [q] at z
      exact z)
  have nsK : ∀ {b : Addr} {m : Str → Option Value}, s1.heap.Ns b m → (hidT s1.heap G).Ns b m := fun {b m} ⟨o, es, ep, e, d, r⟩ => ⟨o, es, ep, grd e (fun z => by
    subst z
    rw [ha] at e
    cases e
    cases d), d, r⟩
  have kin : K.In (hidT s1.heap G) := fun b o e => grd (KX b o e) fun z => by
    subst z
    cases q : G b with
    | none => rfl
    | some u =>
      rw [apart (by rw [q]; exact fun z => nomatch z)] at e
      cases e
  have md : Mod K mg (hidT s1.heap G) := ⟨kin, nsK hns, ⟨mb, nsK hb, hbb⟩, hlim.elim fun mc z => ⟨mc, nsK z.1, z.2⟩⟩
  have e0 : Env0 P w K mg (hidT s1.heap G) callerA [] s1 G := ⟨rfl, md, fun b o e => of_hidT e, Nat.le_of_eq (hidT_size _ _), trivial, fun b hb => (List.not_mem_nil hb).elim, ok, .of_eq hgen⟩
  have want : spF mg K 1 F [.ref a] G (fun v _ => v = .bl true) (fun _ _ _ => False) := by
    refine ⟨⟨[], []⟩, [], [.lst (ns.map .int)], ⟨rfl, List.nodup_nil, fun b z => (List.not_mem_nil z).elim, fun n b o z => by simp at z, fun n o z => by simp at z⟩, .cons (.lst ?_ (rps_ints ns)) .nil, rfl, ?_⟩
    · rcases at_ with z | z
      · exact .inl ⟨⟨List.not_mem_nil, List.not_mem_nil⟩, z⟩
      · exact .inr z
    · obtain ⟨μ, e⟩ := hT
      rw [e]
      exact fun v H' ad' _ r => by cases r; rfl
  refine codeAny_mono ((hF _ kin (nsK hns)).run callerA [] s1 G ⟨[.ref a], []⟩ [.ref a] [.ref a] _ _ hr rfl e0 (hbind s1 (.ref a)) (.cons rfl .nil) want) fun r s' h => ?_
  match r, h with
  | .error e, h =>
    obtain ⟨_, _, _, _, _, _, _, _, _, _, _, _, z⟩ := h
    exact z.elim
  | .ok .next, h => exact h.elim
  | .ok .brk, h => exact h.elim
  | .ok .cont, h => exact h.elim
  | .ok (.ret u), h =>
    obtain ⟨v, G2, os, bare, un, ok2, rel, q⟩ := h
    cases (show v = .bl true from q)
    cases (show u = Value.bool true from rel)
    refine ⟨rfl, OldK.of_keep fun b o e => ?_, os, bare⟩
    cases q : G b with
    | none => exact un.keep b o e q (fun z => (List.not_mem_nil (show b ∈ ([] : List Addr) from z)).elim) List.not_mem_nil
    | some u =>
      rcases only b with z | ⟨ob, xs, z⟩
      · rw [q] at z; cases z
      · obtain ⟨e1, _⟩ := ok b _ z
        obtain ⟨e2, _⟩ := ok2 b _ (un.frzs b ob _ z)
        rw [e] at e1
        cases e1
        exact e2
theorem end_call (KX : K.In s1.heap) (hns : s1.heap.Ns mainGlobals mg) (hb : s1.heap.Ns builtinsNs mb) (hbb : ∀ x : Str, x ≠ "__name__" → mb x = bootBuiltins x) (hlim : s1.heap.NoLimit) (hgen : s1.gens = #[])
    (ha : s1.heap.get? a = some { cls := .type "list", data := .seq us.toArray }) (hi : IntsAre us ns) (hl : ns.length ≤ sizeLine) (hr : Room k callerA)
    (hF : ∀ base : Heap, K.In base → base.Ns mainGlobals mg → FnG P w K mg base k fa fd [x] (spF mg K 1 F)) (hbind : ∀ (s : Shared) (u : Value), BindsTo s fd ⟨[u], []⟩ [(x, u)]) (hT : ∃ μ, F [.lst (ns.map .int)] [] = .ok (.bl true) μ) :
    codeAny (model P w) callerA (.call (.ref fa) ⟨[.ref a], []⟩) (fun r s' => r = .ok (.ret (.bool true)) ∧ OldK s1.heap s'.heap ∧ s'.os = s1.os ∧ AllBare s'.gens) s1 := by
  have rv := vals_ints hi
  have lenV := hi.length
  cases hk : K.lookup a with
  | some o =>
    have e := KX a o hk
    rw [ha] at e
    cases e
    exact end_core KX hns hb hbb hlim hgen ha hr hF hbind hT (fun _ => none) (fun _ => .inl rfl) (.inr ⟨_, us.toArray, _, hk, rfl, rfl, rfl, by rw [List.size_toArray, lenV]; exact hl, by simpa using rv⟩) (fun b u z => nomatch z) (fun b z => (z rfl).elim) fun z => (z rfl).elim
  | none =>
    refine end_core KX hns hb hbb hlim hgen ha hr hF hbind hT (upd (fun _ => none) a (.frz { cls := .type "list", data := .seq us.toArray } (.lst (ns.map V.int)))) (fun b => ?_) (.inl (.inr ⟨{ cls := .type "list", data := .seq us.toArray }, upd_same⟩)) (fun b u z => ?_) (fun b z => ?_) fun _ => hk
    · by_cases hb : b = a
      · rw [hb]; exact .inr ⟨_, _, upd_same⟩
      · exact .inl (upd_ne hb)
    · by_cases hb : b = a
      · rw [hb, upd_same] at z
        cases z
        rw [hb]
        exact ⟨ha, by rw [List.length_map]; exact hl, us, _, rv, ha⟩
      · rw [upd_ne hb] at z
        cases z
    · by_cases hb : b = a
      · exact hb
      · exact (z (upd_ne hb)).elim
end
theorem walk_G {l : PySem.W.OpenLaw} {n k : Nat} {q : Program} {loose : List Str} {XP : (Str → Option Value) → Heap → Prop} {YP : World → Heap → Prop} {d : DefRec} {K : Params → PySem.W.Frag} {F : List D → M D} {x : Str}
    (hn : l.most = some n) (hn2 : n ≤ 1000000) (hdf : d.params.defaults = []) (hr : Room k callerA) (hY : ∀ (w : World) (h : Heap), YP w h → (K w.params).In h)
    (hF : ∀ (w : World) (mg : Str → Option Value) (fa : Addr) (h : Heap), (K w.params).In h → h.Ns mainGlobals mg → mg d.name = some (.ref fa) →
      ∃ fd : FuncData, (∀ (s : Shared) (u : Value), BindsTo s fd ⟨[u], []⟩ [(x, u)]) ∧
        ∀ base : Heap, (K w.params).In base → base.Ns mainGlobals mg → FnG l.prog w (K w.params) mg base k fa fd [x] (spF mg (K w.params) 1 F))
    (hT : ∀ ns : List Int, ns.length ≤ n → (∀ z ∈ ns, Builtin.Int.intBits z ≤ 1048576) → ∃ μ, F [.lst (ns.map .int)] [] = .ok (.bl true) μ) :
    PySem.W.WalkO q loose XP YP l.row.toRowW d [] (fun f vs => PySem.call f vs) := by
  refine Att.attach_callB hn hdf fun w s0 s1 mg mb fa o pm cd doc a us ns G Y ho hd hcd hmg hobj hints hlen hbits hg => ?_
  obtain ⟨fd, hbd, hf⟩ := hF w mg fa _ (hY w _ Y) G.T.g hmg
  exact end_call (hY w _ Y) G.T.g G.T.b G.T.builtins G.T.nolimit hg hobj hints (Nat.le_trans hlen (million hn2)) hr hf hbd (hT ns hlen hbits)
end PX
namespace PX
open PySem PySem.Spec PyProof.Rows L2
/-! ### 27. the evaluator on the text -/
structure Sc where
  s : Scope
  o : Option Scope
def Sc.fn (S : Sc) (x : Str) : Bool := match S.o with
  | none => true
  | some sc => sc.names.lookup x == some .cell
structure FE where
  ps : List Str
  sh : List Shape
  F : List D → M D
inductive GV where
  | fn (f : FE)
  | bi (id : String)
structure Gam where
  N : List Str
  gl : List (Str × GV)
def bltNames : List Str := ["len", "abs", "max", "min", "int", "sum", "tuple", "list", "repr", "isinstance", "range", "zip", "enumerate", "str", "bool", "dict", "set", "all", "any", "sorted", "frozenset"]
structure Ok (G : Gam) (S : Sc) (X : Cx) (W : WX) : Prop where
  sc : X.env.scope = S.s
  N : X.N = G.N
  nd : G.N.Nodup
  calm : X.calm = true
  gd : X.A.guards = some []
  un : X.A.units + 200 < cLine
  tk : Takes X W
  fn : ∀ x, X.fn x = S.fn x
  mgn : ∀ x ∈ bltNames, X.mg x = none
  fe : ∀ x f, (x, GV.fn f) ∈ G.gl → ∃ k a fd, X.mg x = some (.ref a) ∧ PySem.W.keepIn X.K (.ref a) = true ∧ Room k X.A ∧ FnG X.prog X.w X.K X.mg X.base k a fd f.ps (spF X.mg X.K f.ps.length f.F) ∧ ∀ s ∈ f.sh, BindOk X.K fd f.ps s
  bi : ∀ x id, (x, GV.bi id) ∈ G.gl → X.mg x = some (.builtin id)
def zo (X : Cx) (G : Gam) (W : WX) : Wd := ⟨X.K, X.mg, W, G.N.length⟩
def noM {α : Type} : Rho → M α := fun _ => stk
def ixOf : List Str → Str → Option Nat
  | [], _ => none
  | y :: r, x => if y == x then some 0 else (ixOf r x).map (· + 1)
def isGl (S : Sc) (x : Str) : Bool := S.s.names.lookup x == some .globalImplicit && !(x == ("__debug__" : Str)) && !(x == ("__name__" : Str))
def isVis (S : Sc) (x : Str) : Bool := (S.s.names.lookup x == some .local || S.s.names.lookup x == some .cell || S.s.names.lookup x == some .free) && !(x == ("__debug__" : Str)) && !(x == ("__classdict__" : Str))
def isAsg (S : Sc) (x : Str) : Bool := S.s.names.lookup x == some .local || (S.s.names.lookup x == some .cell && S.fn x)
def typeNames : List (Str × String) := [("int", "int"), ("str", "str"), ("tuple", "tuple"), ("list", "list"), ("bool", "bool")]
def nameM (G : Gam) (S : Sc) (x : Str) : Rho → M D :=
  if isVis S x then (match ixOf G.N x with
    | some i => gV i
    | none => noM)
  else if isGl S x then (match typeNames.lookup x with
    | some n => fun _ => rt (.ty n)
    | none => noM)
  else noM
def conM : Const → Rho → M D
  | .none => fun _ => rt .non
  | .bool b => fun _ => rt (.bl b)
  | .int i => fun _ => rt (.int i)
  | .str x => fun _ => rt (.str x)
  | _ => noM
def binF : Operator → Option (D → D → M D)
  | .Add => some addD
  | .Sub => some subD
  | .Mult => some mulD
  | .FloorDiv => some fdivD
  | .Mod => some modD
  | .Pow => some powD
  | _ => none
def cmpF : CmpOp → Option (D → D → M D)
  | .Eq => some eqD
  | .NotEq => some neD
  | .Lt => some ltD
  | .LtE => some leD
  | .Gt => some gtD
  | .GtE => some geD
  | .Is => some isD
  | .IsNot => some isNotD
  | _ => none
def bltF (x : Str) : Option (List D → M D) :=
  if x == "len" then some lenF else if x == "int" then some intF else if x == "tuple" then some tupF else if x == "repr" then some repF else if x == "sum" then some sumF else if x == "list" then some lstF else
  if x == "isinstance" then some isaF else if x == "abs" then some absF else if x == "max" then some maxF else if x == "min" then some minF else none
def op2 (ma mb : Rho → M D) (f : D → D → M D) (ρ : Rho) : M D := bd (ma ρ) fun x => bd (mb ρ) fun y => f x y
def noStar : List Expr → Bool
  | [] => true
  | .Starred .. :: _ => false
  | _ :: r => noStar r
def notSet : Expr → Bool
  | .Set .. => false
  | _ => true
def noComp : Expr → Bool
  | .ListComp .. => false
  | .SetComp .. => false
  | .DictComp .. => false
  | _ => true
structure EvS where
  e : Sc → Expr → Rho → M D
  t : Sc → Expr → Rho → M Bool
  s : Sc → Stmt → Rho → M Fl
def partM (R : EvS) (S : Sc) : Option Expr → Rho → M (Option Int)
  | none => fun _ => rt none
  | some e => fun ρ => bd (R.e S e ρ) fun d => bd (asI d) fun i => rt (some i)
def slM (a : Rho → M D) (l u : Rho → M (Option Int)) (ρ : Rho) : M D := bd (a ρ) fun x => bd (l ρ) fun lo => bd (u ρ) fun hi => slD x lo hi
def callF (F : List D → M D) (S : Shape) (n : Nat) (as ks : List (Rho → M D)) (ρ : Rho) : M D := bd (evA as ρ) fun ds => bd (evA ks ρ) fun zs => callM F S n ds zs
def callFn (R : EvS) (S : Sc) (f : FE) (args : List Expr) (kws : List Keyword) : Rho → M D :=
  if kws.all (·.arg.isSome) then (match f.sh.find? fun s => s.np == args.length && s.ks == kws.filterMap (·.arg) with
    | some s => callF f.F s f.ps.length (args.map (R.e S)) (kws.map fun k => R.e S k.value)
    | none => noM)
  else noM
def appM {α : Type} (f : List D → M α) (as : List (Rho → M D)) (ρ : Rho) : M α := bd (evA as ρ) f
def callN (G : Gam) (R : EvS) (S : Sc) (x : Str) (args : List Expr) (kws : List Keyword) : Rho → M D :=
  if isGl S x && noStar args then (match G.gl.lookup x with
    | some (.fn f) => callFn R S f args kws
    | some (.bi id) => if id == "math.gcd" && kws.isEmpty && !args.isEmpty then appM gcdF (args.map (R.e S)) else noM
    | none => if kws.isEmpty && !args.isEmpty then (match bltF x with
      | some f => appM f (args.map (R.e S))
      | none => noM) else noM)
  else noM
def tgNames (G : Gam) (S : Sc) : List Expr → Option (List Nat)
  | [] => some []
  | .Name x _ :: r => if isAsg S x then (ixOf G.N x).bind fun i => (tgNames G S r).map fun is => i :: is else none
  | _ :: _ => none
def tgOf (G : Gam) (S : Sc) : Expr → Option Tg
  | .Name x _ => if isAsg S x then (ixOf G.N x).map .v else none
  | .Tuple es _ _ => (tgNames G S es).map .t
  | _ => none
def isTup : Expr → Bool
  | .Tuple .. => true
  | _ => false
def iterM (R : EvS) (S : Sc) (tg iter : Expr) : Rho → M (List D) :=
  let other : Rho → M (List D) := fun ρ => bd (R.e S iter ρ) itX
  match iter with
  | .Call (.Name x _) [a] [] _ => if isGl S x && noStar [a] && x == "range" then fun ρ => bd (evA [R.e S a] ρ) rng1
    else if isGl S x && noStar [a] && x == "enumerate" && isTup tg then fun ρ => bd (evA [R.e S a] ρ) enumM else other
  | .Call (.Name x _) [a, b] [] _ => if isGl S x && noStar [a, b] && x == "range" then fun ρ => bd (evA [R.e S a, R.e S b] ρ) rng2
    else if isGl S x && noStar [a, b] && x == "zip" && isTup tg then fun ρ => bd (evA [R.e S a, R.e S b] ρ) zipM else other
  | _ => other
def ownOf (N : List Str) (scope : Scope) : List (Str × Nat) := scope.names.filterMap fun y => if y.2 == .local || y.2 == .cell then (ixOf N y.1).map fun i => (y.1, i) else none
def condM (R : EvS) (S : Sc) : List Expr → Rho → M Bool
  | [] => fun _ => rt true
  | [c] => R.t S c
  | _ => noM
def inner (S : Sc) (scope : Scope) : Sc := ⟨relS scope S.s, some scope⟩
def compM (G : Gam) (R : EvS) (S : Sc) (elt tg iter : Expr) (ifs : List Expr) (scope : Scope) : Rho → M D :=
  if notSet iter && blkC G.N S.s scope (ownOf G.N scope) then (match tgOf G (inner S scope) tg with
    | some t => if t.slots.all fun j => ((ownOf G.N scope).map (·.2)).contains j then lcM (iterM R S tg iter) t (condM R (inner S scope) ifs) (R.e (inner S scope) elt) ((ownOf G.N scope).map (·.2)) else noM
    | none => noM)
  else noM
def dictKs : List (Option Expr) → Option (List Str)
  | [] => some []
  | some (.Constant (.str k) _ _) :: r => (dictKs r).map fun ks => k :: ks
  | _ => none
def stE (G : Gam) (R : EvS) (S : Sc) (e : Expr) : Rho → M D := match e with
  | .Name x _ => nameM G S x
  | .Constant c _ _ => conM c
  | .BinOp a op b _ => (match binF op with
    | some f => op2 (R.e S a) (R.e S b) f
    | none => noM)
  | .UnaryOp .USub a _ => fun ρ => bd (R.e S a ρ) negD
  | .UnaryOp .Not a _ => fun ρ => bd (R.e S a ρ) fun d => bd (asB d) fun b => rt (.bl (!b))
  | .Compare a [op] [b] _ => if behindInMarks op b then noM else (match cmpF op with
    | some f => op2 (R.e S a) (R.e S b) f
    | none => noM)
  | .BoolOp .And (a :: b :: r) pos => fun ρ => ifB (bd (R.e S a ρ) asB) (R.e S (.BoolOp .And (b :: r) pos) ρ) (rt (.bl false))
  | .BoolOp .Or (a :: b :: r) pos => fun ρ => ifB (bd (R.e S a ρ) asB) (rt (.bl true)) (R.e S (.BoolOp .Or (b :: r) pos) ρ)
  | .BoolOp _ [a] _ => R.e S a
  | .IfExp c a b _ => fun ρ => ifB (R.t S c ρ) (R.e S a ρ) (R.e S b ρ)
  | .Tuple es _ _ => if noStar es then appM mkT (es.map (R.e S)) else noM
  | .List es _ => if noStar es then appM mkL (es.map (R.e S)) else noM
  | .Subscript a (.Slice lo hi none _) _ => slM (R.e S a) (partM R S lo) (partM R S hi)
  | .Subscript _ (.Slice _ _ (some _) _) _ => noM
  | .Subscript a b _ => op2 (R.e S a) (R.e S b) ixD
  | .ListComp elt [⟨tg, iter, ifs, 0⟩] scope _ => compM G R S elt tg iter ifs scope
  | .Dict keys values _ => (match dictKs keys with
    | some ks => if ks.length == values.length && !ks.isEmpty && decide (ks.length ≤ 15) then dispM (ks.zip (values.map (R.e S))) else noM
    | none => noM)
  | .Call (.Name x _) args kws _ => callN G R S x args kws
  | _ => noM
def plainT : Expr → Bool
  | .UnaryOp .Not _ _ => false
  | .BoolOp .. => false
  | .IfExp .. => false
  | .Compare .. => false
  | _ => true
def stT (G : Gam) (R : EvS) (S : Sc) (e : Expr) : Rho → M Bool := match e with
  | .UnaryOp .Not a _ => fun ρ => bd (R.t S a ρ) fun b => rt (!b)
  | .BoolOp .And (a :: b :: r) pos => fun ρ => ifB (R.t S a ρ) (R.t S (.BoolOp .And (b :: r) pos) ρ) (rt false)
  | .BoolOp .Or (a :: b :: r) pos => fun ρ => ifB (R.t S a ρ) (rt true) (R.t S (.BoolOp .Or (b :: r) pos) ρ)
  | .BoolOp _ [a] _ => R.t S a
  | .Compare a [op] [b] _ => if behindInMarks op b then noM else (match cmpF op with
    | some f => fun ρ => bd (op2 (R.e S a) (R.e S b) f ρ) asB
    | none => noM)
  | e => if plainT e then fun ρ => bd (R.e S e ρ) asB else noM
def seqs (R : EvS) (S : Sc) : List Stmt → Rho → M Fl
  | [] => fun ρ => rt (.nx ρ)
  | st :: r => fun ρ => seqS (R.s S st ρ) (seqs R S r)
def bkOf (sc : Scope) : ScopeKind := if sc.kind.isAnnotationScope then .function else sc.kind
def swOf (ts vs : List Expr) (sc : Scope) : Option (Option (List Str)) :=
  if !(ts.length == 2 || ts.length == 3) || vs.length != ts.length || bkOf sc != .function then some none
  else if vs.any fun | .Starred .. => true | _ => false then some none
  else
    let line := (ts.head?.map (·.pos.line)).getD 0
    let names := ts.filterMap fun
      | .Name id pos => if sc.names.lookup id == some .local && pos.line == line then some id else none
      | _ => none
    if names.length != ts.length || names.eraseDups.length != names.length then some none
    else if vs.all (foldedForSure 8) then some none
    else if vs.all (constantsAlone 8) then none
    else some (some names)
def setM (me : Rho → M D) (i : Nat) (ρ : Rho) : M Fl := bd (me ρ) fun d => rt (.nx (ρ.set i (some d)))
def asgM (me : Rho → M D) (t : Tg) (ρ : Rho) : M Fl := bd (me ρ) fun d => bd (lft (setTg t d ρ)) fun ρ' => rt (.nx ρ')
def putM (mo mi mv : Rho → M D) (ρ : Rho) : M Fl := bd (mv ρ) fun v => bd (mo ρ) fun d => bd (mi ρ) fun e => bd (putD d e v) fun _ => rt (.nx ρ)
def notSl : Expr → Bool
  | .Slice .. => false
  | _ => true
def nameAsg (G : Gam) (R : EvS) (S : Sc) (y : Str) (v : Expr) : Rho → M Fl :=
  if isAsg S y then (match ixOf G.N y with
    | some i => (match v with
      | .ListComp elt [⟨tg, iter, ifs, 0⟩] scope _ => setM (compM G R S elt tg iter ifs scope) i
      | v => if noComp v then setM (R.e S v) i else noM)
    | none => noM)
  else noM
def tupAsg (G : Gam) (R : EvS) (S : Sc) (tg v : Expr) (ts : List Expr) : Rho → M Fl := match v with
  | .Tuple vs _ _ => (match swOf ts vs S.s with
    | some none => (match tgOf G S tg with
      | some t => asgM (R.e S v) t
      | none => noM)
    | some (some names) => (match ts, vs with
      | [.Name x _, .Name y _], [a, b] => if names == [x, y] && S.s.names.lookup x == some .local && S.s.names.lookup y == some .local && noStar [a, b] then (match ixOf G.N x, ixOf G.N y with
        | some i, some j => if i == j then noM else asgM (appM mkT [R.e S a, R.e S b]) (.t [i, j])
        | _, _ => noM) else noM
      | _, _ => noM)
    | none => noM)
  | v => if noComp v then (match tgOf G S tg with
      | some t => asgM (R.e S v) t
      | none => noM) else noM
def stS (G : Gam) (R : EvS) (S : Sc) (st : Stmt) : Rho → M Fl := match st with
  | .Pass _ => fun ρ => rt (.nx ρ)
  | .Break _ => fun ρ => rt (.bk ρ)
  | .Continue _ => fun ρ => rt (.ct ρ)
  | .Return none _ => fun _ => rt (.rt .non)
  | .Return (some e) _ => fun ρ => bd (R.e S e ρ) fun d => rt (.rt d)
  | .If c a b _ => fun ρ => ifB (R.t S c ρ) (seqs R S a ρ) (seqs R S b ρ)
  | .For tg iter body [] _ => if notSet iter then (match tgOf G S tg with
    | some t => fun ρ => bd (iterM R S tg iter ρ) fun ds => forD t (seqs R S body) ds ρ
    | none => noM) else noM
  | .While c body [] _ => fun ρ => whD (R.t S c) (seqs R S body) WF ρ
  | .Expr e _ => if noComp e then fun ρ => bd (R.e S e ρ) fun _ => rt (.nx ρ) else noM
  | .Assign [.Name y _] v _ => nameAsg G R S y v
  | .Assign [.Tuple ts k p] v _ => tupAsg G R S (.Tuple ts k p) v ts
  | .Assign [.Subscript o i _] v _ => if notSl i then putM (R.e S o) (R.e S i) (R.e S v) else noM
  | _ => noM
def step0 : EvS := ⟨fun _ _ => noM, fun _ _ => noM, fun _ _ => noM⟩
def stepR (G : Gam) (R : EvS) : EvS := ⟨stE G R, stT G R, stS G R⟩
def ev (G : Gam) : Nat → EvS
  | 0 => step0
  | n + 1 => stepR G (ev G n)
end PX
namespace PX
open PySem PySem.Spec PyProof.Rows L2
variable {G : Gam} {S : Sc} {X : Cx} {W : WX}
/-! ### 28. it tells what the text does -/
theorem pe_stk {Z : Wd} {e : Expr} : PE X e (tE Z noM) := ⟨fun pins s σ H Q I ⟨ad, ρ, μ, g, hl, h⟩ => h.elim⟩
theorem pt_stk {Z : Wd} {e : Expr} : PT X e (tT Z noM) := ⟨fun pins s σ H Q I ⟨ad, ρ, μ, g, hl, h⟩ => h.elim⟩
theorem ps_stk {Z : Wd} {e : Stmt} : PS X e (tS Z noM) := ⟨fun pins s σ H Q I ⟨ad, ρ, μ, g, hl, h⟩ => h.elim⟩
theorem pw_stk {Z : Wd} {e : Expr} : PW X e (tT Z noM) := ⟨fun wh pins s σ H Q I ⟨ad, ρ, μ, g, hl, h⟩ => h.elim⟩
theorem pi_stk {Z : Wd} {tg e : Expr} : PI X tg e (tI Z noM) := ⟨fun pins s σ H Q I ⟨ad, ρ, μ, g, hl, h⟩ => h.elim⟩
theorem pts_stk {Z : Wd} {e : List Expr} : PTs X e (tT Z noM) := ⟨fun pins s σ H Q I ⟨ad, ρ, μ, g, hl, h⟩ => h.elim⟩
theorem ixOf_ok : ∀ {N : List Str} {x : Str} {i : Nat}, ixOf N x = some i → N[i]? = some x
  | [], _, _, h => nomatch h
  | y :: r, x, i, h => by
    unfold ixOf at h
    by_cases c : (y == x) = true
    · rw [if_pos c] at h
      cases h
      exact congrArg some (eq_of_beq c)
    · rw [if_neg c] at h
      obtain ⟨j, h1, h2⟩ := Option.map_eq_some_iff.mp h
      subst h2
      simpa using ixOf_ok h1
theorem isGl_ok (ok : Ok G S X W) {x : Str} (h : isGl S x = true) : Gl X x ∧ (x == ("__debug__" : Str)) = false ∧ x ≠ "__name__" := by
  unfold isGl at h
  simp only [Bool.and_eq_true, Bool.not_eq_true'] at h
  refine ⟨?_, h.1.2, fun z => ?_⟩
  · show X.env.scope.names.lookup x = _
    rw [ok.sc]
    exact eq_of_beq h.1.1
  · rw [z] at h
    exact absurd h.2 (by decide)
theorem isVis_ok (ok : Ok G S X W) {x : Str} (h : isVis S x = true) : Vis X.env.scope x ∧ (x == ("__debug__" : Str)) = false ∧ (x == ("__classdict__" : Str)) = false := by
  unfold isVis at h
  simp only [Bool.and_eq_true, Bool.not_eq_true', Bool.or_eq_true] at h
  refine ⟨?_, h.1.2, h.2⟩
  unfold Vis
  rw [ok.sc]
  rcases h.1.1 with (z | z) | z
  · exact .inl (eq_of_beq z)
  · exact .inr (.inl (eq_of_beq z))
  · exact .inr (.inr (eq_of_beq z))
theorem isAsg_ok (ok : Ok G S X W) {x : Str} (h : isAsg S x = true) : Loc X.env.scope x ∧ (X.fn x = true ∨ X.env.scope.names.lookup x = some .local) := by
  unfold isAsg at h
  simp only [Bool.and_eq_true, Bool.or_eq_true] at h
  unfold L2.Loc
  rw [ok.sc, ok.fn]
  rcases h with z | ⟨z, w⟩
  · exact ⟨.inl (eq_of_beq z), .inr (eq_of_beq z)⟩
  · exact ⟨.inr (eq_of_beq z), .inl w⟩
theorem pe_tyName {x : Str} {n : String} {pos : Pos} (hg : Gl X x) (hm : X.mg x = none) (hv : bootBuiltins x = some (.type n)) (hn : x ≠ "__name__") (hd : (x == ("__debug__" : Str)) = false) : PE X (.Name x pos) (tC (.ty n)) :=
  ⟨fun pins s σ H Q I h => ld_blt I hg hm hv ⟨.ty n, H, I, rfl, h⟩ hn hd⟩
theorem nameM_ok (ok : Ok G S X W) {x : Str} {pos : Pos} : PE X (.Name x pos) (tE (zo X G W) (nameM G S x)) := by
  unfold nameM
  by_cases c : isVis S x = true
  · rw [if_pos c]
    obtain ⟨h1, h2, h3⟩ := isVis_ok ok c
    cases h : ixOf G.N x with
    | none => exact pe_stk
    | some i => exact x_var (by rw [ok.N]; exact ixOf_ok h) h1 h2 h3
  · rw [if_neg c]
    by_cases c : isGl S x = true
    · rw [if_pos c]
      obtain ⟨h1, h2, h3⟩ := isGl_ok ok c
      cases h : typeNames.lookup x with
      | none => exact pe_stk
      | some n =>
        refine x_con (v := .ty n) ?_ fun H ad => .ty n
        have m : (x, n) ∈ typeNames := PySem.mem_of_lookup h
        unfold typeNames at m
        simp only [List.mem_cons, Prod.mk.injEq, List.mem_nil_iff, or_false] at m
        rcases m with ⟨rfl, rfl⟩ | ⟨rfl, rfl⟩ | ⟨rfl, rfl⟩ | ⟨rfl, rfl⟩ | ⟨rfl, rfl⟩
        · exact pe_tyName h1 (ok.mgn _ (by simp [bltNames])) boot_int h3 h2
        · exact pe_tyName h1 (ok.mgn _ (by simp [bltNames])) boot_str h3 h2
        · exact pe_tyName h1 (ok.mgn _ (by simp [bltNames])) boot_tuple h3 h2
        · exact pe_tyName h1 (ok.mgn _ (by simp [bltNames])) boot_list h3 h2
        · exact pe_tyName h1 (ok.mgn _ (by simp [bltNames])) boot_bool h3 h2
    · rw [if_neg c]
      exact pe_stk
theorem conM_ok (ok : Ok G S X W) {c : Const} {k : Nat} {pos : Pos} : PE X (.Constant c k pos) (tE (zo X G W) (conM c)) := by
  cases c with
  | none => exact x_con pe_non fun _ _ => .non
  | bool b => exact x_con pe_bl fun _ _ => .bl b
  | int i => exact x_con pe_int fun _ _ => .int i
  | str x => exact x_con pe_str fun _ _ => .str x
  | float _ => exact pe_stk
  | complex _ _ => exact pe_stk
  | bytes _ => exact pe_stk
  | ellipsis => exact pe_stk
theorem binF_ok (ok : Ok G S X W) {op : Operator} {f : D → D → M D} {a b : Expr} {ma mb : Rho → M D} {pos : Pos} (h : binF op = some f) (ha : PE X a (tE (zo X G W) ma)) (hb : PE X b (tE (zo X G W) mb)) :
    PE X (.BinOp a op b pos) (tE (zo X G W) (op2 ma mb f)) := by
  cases op <;> cases h
  · exact x_op op_addX v_add ha hb
  · exact x_op op_sub v_sub ha hb
  · exact x_op op_mulA v_mul ha hb
  · exact x_op op_modN v_mod ha hb
  · exact x_op op_pow v_pow ha hb
  · exact x_op op_fdivX v_fdiv ha hb
theorem un64 (ok : Ok G S X W) : X.A.units + 64 < cLine := by have := ok.un; omega
theorem cmpF_ok (ok : Ok G S X W) {op : CmpOp} {f : D → D → M D} (h : cmpF op = some f) : ∃ r, OpR X (compareOp op) r ∧ V2 (zo X G W) r f := by
  cases op <;> cases h
  · exact ⟨_, op_eqX (un64 ok), v_eq⟩
  · exact ⟨_, op_neX (un64 ok), v_ne⟩
  · exact ⟨_, op_lt, v_lt⟩
  · exact ⟨_, op_le, v_le⟩
  · exact ⟨_, op_gt, v_gt⟩
  · exact ⟨_, op_ge, v_ge⟩
  · exact ⟨_, op_isN, v_is⟩
  · exact ⟨_, op_notN, v_isNot⟩
theorem star_no {e : Expr} {es : List Expr} {env : Env} (h : noStar (e :: es) = true) : starEach (e :: es) env = (false, eval e env) :: starEach es env ∧ noStar es = true := by
  cases e <;> first | exact ⟨rfl, h⟩ | exact nomatch h
theorem star_any : ∀ {es : List Expr} {pos : Pos} {env : Env}, noStar es = true → (backTo pos (starEach es env)).any (·.1) = false
  | [], _, _, _ => rfl
  | e :: es, pos, env, h => by
    obtain ⟨h1, h2⟩ := star_no (env := env) h
    rw [h1]
    show (false || (backTo pos (starEach es env)).any (·.1)) = false
    rw [star_any h2]
    rfl
theorem args_ok {R : EvS} {Z : Wd} (hR : ∀ e, PE X e (tE Z (R.e S e))) : ∀ {es : List Expr}, noStar es = true → PA X es (tA Z (evA (es.map (R.e S))))
  | [], _ => x_nil
  | e :: es, h => x_cons (hR e) (args_ok hR (star_no (env := X.env) h).2) (star_no h).1
theorem kws_ok {R : EvS} {Z : Wd} (hR : ∀ e, PE X e (tE Z (R.e S e))) : ∀ {kws : List Keyword}, PK X kws (tA Z (evA (kws.map fun k => R.e S k.value)))
  | [] => x_kwnil
  | ⟨n, v, p⟩ :: kws => x_kwcons (hR v) (kws_ok hR)
theorem kw_args {pos : Pos} {env : Env} : ∀ {kws : List Keyword}, (backToKw pos (keywordEach kws env)).map (·.1) = kws.map (·.arg)
  | [] => rfl
  | ⟨n, v, p⟩ :: kws => by
    show n :: (backToKw pos (keywordEach kws env)).map (·.1) = n :: kws.map (·.arg)
    rw [kw_args]
theorem kw_all {pos : Pos} {env : Env} {kws : List Keyword} (h : kws.all (·.arg.isSome) = true) : (backToKw pos (keywordEach kws env)).all (·.1.isSome) = true := by
  have e : (backToKw pos (keywordEach kws env)).all (·.1.isSome) = ((backToKw pos (keywordEach kws env)).map (·.1)).all (·.isSome) := by rw [List.all_map]; rfl
  rw [e, kw_args, List.all_map]
  exact h
theorem kw_any {pos : Pos} {env : Env} {kws : List Keyword} (h : kws.all (·.arg.isSome) = true) : (backToKw pos (keywordEach kws env)).any (·.1.isNone) = false := by
  have z := kw_all (pos := pos) (env := env) h
  rw [List.all_eq_true] at z
  rw [Bool.eq_false_iff]
  intro w
  obtain ⟨x, hx, hn⟩ := List.any_eq_true.mp w
  have := z x hx
  cases hq : x.1 with
  | none => rw [hq] at this; cases this
  | some _ => rw [hq] at hn; cases hn
theorem kw_names {pos : Pos} {env : Env} {kws : List Keyword} : (backToKw pos (keywordEach kws env)).filterMap (·.1) = kws.filterMap (·.arg) := by
  have e : ∀ {α : Type} (l : List (Option Str × α)), l.filterMap (·.1) = (l.map (·.1)).filterMap id := fun l => by rw [List.filterMap_map]; rfl
  have e2 : ∀ (l : List Keyword), l.filterMap (·.arg) = (l.map (·.arg)).filterMap id := fun l => by rw [List.filterMap_map]; rfl
  rw [e, e2, kw_args]
theorem callFn_ok {R : EvS} (ok : Ok G S X W) (hR : ∀ e, PE X e (tE (zo X G W) (R.e S e))) {f : FE} {x : Str} {args : List Expr} {kws : List Keyword} {p pos : Pos} (hm : (x, GV.fn f) ∈ G.gl) (hg : isGl S x = true) (hs : noStar args = true) :
    PE X (.Call (.Name x p) args kws pos) (tE (zo X G W) (callFn R S f args kws)) := by
  obtain ⟨h1, h2, h3⟩ := isGl_ok ok hg
  unfold callFn
  by_cases c : kws.all (·.arg.isSome) = true
  · rw [if_pos c]
    cases hf : f.sh.find? fun s => s.np == args.length && s.ks == kws.filterMap (·.arg) with
    | none => exact pe_stk
    | some s =>
      have hp := List.find?_some hf
      simp only [Bool.and_eq_true] at hp
      have hk : s.ks = kws.filterMap (·.arg) := eq_of_beq hp.2
      obtain ⟨k, a, fd, e1, e2, e3, e4, e5⟩ := ok.fe _ _ hm
      have hb := e5 s (List.mem_of_find?_eq_some hf)
      cases args with
      | nil => exact x_call0 (Z := zo X G W) e4 e3 ok.gd hb ok.tk rfl rfl h1 e1 e2 (kws_ok hR) (kw_all c) (by rw [kw_names]; exact hk.symm) h2 (by rw [kw_any c]; rfl)
      | cons e es => exact x_call (Z := zo X G W) e4 e3 ok.gd hb ok.tk rfl rfl h1 e1 e2 (args_ok hR hs) (kws_ok hR) (kw_all c) (by rw [kw_names]; exact hk.symm) h2 (star_no hs).1 (by rw [star_any hs, kw_any c]; rfl)
  · rw [if_neg c]
    exact pe_stk
theorem bltF_ok (ok : Ok G S X W) {x : Str} {f : List D → M D} {e : Expr} {es : List Expr} {ms : List (Rho → M D)} {p pos : Pos} (h : bltF x = some f) (hg : isGl S x = true) (ha : PA X (e :: es) (tA (zo X G W) (evA ms))) (hs : noStar (e :: es) = true) :
    PE X (.Call (.Name x p) (e :: es) [] pos) (tE (zo X G W) (appM f ms)) := by
  obtain ⟨h1, h2, h3⟩ := isGl_ok ok hg
  have s1 := (star_no (env := X.env) hs).1
  have s2 := star_any (pos := pos) (env := X.env) (star_no (env := X.env) hs).2
  unfold bltF at h
  by_cases c : (x == "len") = true
  · rw [if_pos c] at h; cases h; obtain rfl := eq_of_beq c
    exact x_callB call_lenX v_len h1 (ok.mgn _ (by simp [bltNames])) boot_len ha h3 h2 s1 s2
  rw [if_neg c] at h; clear c
  by_cases c : (x == "int") = true
  · rw [if_pos c] at h; cases h; obtain rfl := eq_of_beq c
    exact x_callTy call_int1 v_int h1 (ok.mgn _ (by simp [bltNames])) boot_int ha h3 h2 s1 s2
  rw [if_neg c] at h; clear c
  by_cases c : (x == "tuple") = true
  · rw [if_pos c] at h; cases h; obtain rfl := eq_of_beq c
    exact x_callTy call_tuple_of v_tup h1 (ok.mgn _ (by simp [bltNames])) boot_tuple ha h3 h2 s1 s2
  rw [if_neg c] at h; clear c
  by_cases c : (x == "repr") = true
  · rw [if_pos c] at h; cases h; obtain rfl := eq_of_beq c
    exact x_callB (call_reprD ok.gd (by have := ok.un; omega)) v_rep h1 (ok.mgn _ (by simp [bltNames])) PyProof.Rows.boot_repr ha h3 h2 s1 s2
  rw [if_neg c] at h; clear c
  by_cases c : (x == "sum") = true
  · rw [if_pos c] at h; cases h; obtain rfl := eq_of_beq c
    exact x_callB (cr_sum ok.calm) v_sum h1 (ok.mgn _ (by simp [bltNames])) PyProof.Rows.boot_sum ha h3 h2 s1 s2
  rw [if_neg c] at h; clear c
  by_cases c : (x == "list") = true
  · rw [if_pos c] at h; cases h; obtain rfl := eq_of_beq c
    exact x_callTy call_list_of v_lst h1 (ok.mgn _ (by simp [bltNames])) boot_list ha h3 h2 s1 s2
  rw [if_neg c] at h; clear c
  by_cases c : (x == "isinstance") = true
  · rw [if_pos c] at h; cases h; obtain rfl := eq_of_beq c
    exact x_callB call_isi v_isa h1 (ok.mgn _ (by simp [bltNames])) PyProof.Rows.boot_isinstance ha h3 h2 s1 s2
  rw [if_neg c] at h; clear c
  by_cases c : (x == "abs") = true
  · rw [if_pos c] at h; cases h; obtain rfl := eq_of_beq c
    exact x_callB call_abs v_abs h1 (ok.mgn _ (by simp [bltNames])) PyProof.Rows.boot_abs ha h3 h2 s1 s2
  rw [if_neg c] at h; clear c
  by_cases c : (x == "max") = true
  · rw [if_pos c] at h; cases h; obtain rfl := eq_of_beq c
    exact x_callB (call_max2 ok.calm) v_max h1 (ok.mgn _ (by simp [bltNames])) PyProof.Rows.boot_max ha h3 h2 s1 s2
  rw [if_neg c] at h; clear c
  by_cases c : (x == "min") = true
  · rw [if_pos c] at h; cases h; obtain rfl := eq_of_beq c
    exact x_callB (call_min2 ok.calm) v_min h1 (ok.mgn _ (by simp [bltNames])) PyProof.Rows.boot_min ha h3 h2 s1 s2
  rw [if_neg c] at h
  cases h
theorem callN_ok {R : EvS} (ok : Ok G S X W) (hR : ∀ e, PE X e (tE (zo X G W) (R.e S e))) {x : Str} {args : List Expr} {kws : List Keyword} {p pos : Pos} :
    PE X (.Call (.Name x p) args kws pos) (tE (zo X G W) (callN G R S x args kws)) := by
  unfold callN
  by_cases c : (isGl S x && noStar args) = true
  · rw [if_pos c]
    rw [Bool.and_eq_true] at c
    cases hl : G.gl.lookup x with
    | some v =>
      have hm : (x, v) ∈ G.gl := PySem.mem_of_lookup hl
      cases v with
      | fn f => exact callFn_ok ok hR hm c.1 c.2
      | bi id =>
        show PE X _ (tE (zo X G W) (if (id == "math.gcd" && kws.isEmpty && !args.isEmpty) = true then appM gcdF (args.map (R.e S)) else noM))
        by_cases d : (id == "math.gcd" && kws.isEmpty && !args.isEmpty) = true
        · rw [if_pos d]
          simp only [Bool.and_eq_true] at d
          obtain ⟨⟨d1, d2⟩, d3⟩ := d
          obtain rfl := eq_of_beq d1
          obtain rfl := List.isEmpty_iff.mp d2
          cases args with
          | nil => cases d3
          | cons e es =>
            obtain ⟨h1, h2, h3⟩ := isGl_ok ok c.1
            exact PEi (pe_callBfun cr_gcd h1 (ok.bi _ _ hm) (args_ok hR c.2) h2 (star_no c.2).1 (star_any (star_no (env := X.env) c.2).2)) (t_cb v_gcd)
        · rw [if_neg d]
          exact pe_stk
    | none =>
      show PE X _ (tE (zo X G W) (if (kws.isEmpty && !args.isEmpty) = true then _ else noM))
      by_cases d : (kws.isEmpty && !args.isEmpty) = true
      · rw [if_pos d]
        rw [Bool.and_eq_true] at d
        obtain rfl := List.isEmpty_iff.mp d.1
        cases args with
        | nil => cases d.2
        | cons e es =>
          cases hb : bltF x with
          | none => exact pe_stk
          | some f => exact bltF_ok ok hb c.1 (args_ok hR c.2) c.2
      · rw [if_neg d]
        exact pe_stk
  · rw [if_neg c]
    exact pe_stk
end PX
namespace PX
open PySem PySem.Spec PyProof.Rows L2
variable {G : Gam} {S : Sc} {X : Cx} {W : WX}
/-! ### 29. targets, walks, comprehensions -/
theorem tgNames_ok (ok : Ok G S X W) : ∀ {es : List Expr} {is : List Nat}, tgNames G S es = some is → PGs X es (tGs (zo X G W) is) ∧ (assignEach es X.env).length = is.length ∧ (assignEach es X.env).findIdx? (·.1) = none
  | [], is, h => by
    cases h
    exact ⟨gs_nil, rfl, rfl⟩
  | e :: r, is, h => by
    cases e with
    | Name x p =>
      have h : (if isAsg S x then (ixOf G.N x).bind fun i => (tgNames G S r).map fun is => i :: is else none) = some is := h
      by_cases c : isAsg S x = true
      · rw [if_pos c] at h
        obtain ⟨i, h1, h⟩ := Option.bind_eq_some_iff.mp h
        obtain ⟨js, h2, h⟩ := Option.map_eq_some_iff.mp h
        subst h
        obtain ⟨a1, a2⟩ := isAsg_ok ok c
        obtain ⟨p1, p2, p3⟩ := tgNames_ok ok h2
        refine ⟨gs_cons (by rw [ok.N]; exact ok.nd) (by rw [ok.N]; exact ixOf_ok h1) a1 a2 p1 rfl, ?_, ?_⟩
        · show (assignEach r X.env).length + 1 = js.length + 1
          rw [p2]
        · show ((false, assign (.Name x p) X.env) :: assignEach r X.env).findIdx? (·.1) = none
          rw [List.findIdx?_cons]
          simp [p3]
      · rw [if_neg c] at h
        cases h
    | _ => cases h
theorem tgOf_ok (ok : Ok G S X W) {tg : Expr} {t : Tg} (h : tgOf G S tg = some t) : PG X tg (tG (zo X G W) t) := by
  cases tg with
  | Name x p =>
    have h : (if isAsg S x then (ixOf G.N x).map .v else none) = some t := h
    by_cases c : isAsg S x = true
    · rw [if_pos c] at h
      obtain ⟨i, h1, h2⟩ := Option.map_eq_some_iff.mp h
      subst h2
      obtain ⟨a1, a2⟩ := isAsg_ok ok c
      exact g_name (by rw [ok.N]; exact ok.nd) (by rw [ok.N]; exact ixOf_ok h1) a1 a2
    · rw [if_neg c] at h
      cases h
  | Tuple es k p =>
    have h : (tgNames G S es).map .t = some t := h
    obtain ⟨is, h1, h2⟩ := Option.map_eq_some_iff.mp h
    subst h2
    obtain ⟨p1, p2, p3⟩ := tgNames_ok ok h1
    exact g_tup ok.calm rfl p1 p2 p3
  | _ => cases h
theorem iterM_ok {R : EvS} (ok : Ok G S X W) (hR : ∀ e, PE X e (tE (zo X G W) (R.e S e))) {tg iter : Expr} : PI X tg iter (tI (zo X G W) (iterM R S tg iter)) := by
  have other : PI X tg iter (tI (zo X G W) fun ρ => bd (R.e S iter ρ) itX) := i_seq rfl (hR iter)
  have two : ∀ {a b : Expr}, noStar [a, b] = true → (noStar [a] = true ∧ noStar [b] = true) := fun {a b} h => by
    have h2 := (star_no (env := X.env) h).2
    refine ⟨?_, h2⟩
    cases a <;> first | rfl | exact nomatch h
  unfold iterM
  split
  · rename_i x p a pos
    dsimp only
    by_cases c : (isGl S x && noStar [a] && x == "range") = true
    · rw [if_pos c]
      simp only [Bool.and_eq_true] at c
      obtain ⟨⟨c1, c2⟩, c3⟩ := c
      obtain rfl := eq_of_beq c3
      exact i_rng1 (ms := [R.e S a]) (isGl_ok ok c1).1 (ok.mgn _ (by simp [bltNames])) (args_ok hR c2) (star_no c2).1
    · rw [if_neg c]
      by_cases d : (isGl S x && noStar [a] && x == "enumerate" && isTup tg) = true
      · rw [if_pos d]
        simp only [Bool.and_eq_true] at d
        obtain ⟨⟨⟨c1, c2⟩, c3⟩, c4⟩ := d
        obtain rfl := eq_of_beq c3
        cases tg with
        | Tuple elts kk tpos => exact i_enum (ms := [R.e S a]) rfl (isGl_ok ok c1).1 (ok.mgn _ (by simp [bltNames])) (args_ok hR c2) (star_no c2).1
        | _ => cases c4
      · rw [if_neg d]
        exact other
  · rename_i x p a b pos
    dsimp only
    by_cases c : (isGl S x && noStar [a, b] && x == "range") = true
    · rw [if_pos c]
      simp only [Bool.and_eq_true] at c
      obtain ⟨⟨c1, c2⟩, c3⟩ := c
      obtain rfl := eq_of_beq c3
      have s2 := (star_no (env := X.env) (two c2).2).1
      have s1 := (star_no (env := X.env) c2).1
      exact i_rng2 (ms := [R.e S a, R.e S b]) (isGl_ok ok c1).1 (ok.mgn _ (by simp [bltNames])) (args_ok hR c2) (by rw [s1, s2]; rfl) (by rw [s2]; rfl)
    · rw [if_neg c]
      by_cases d : (isGl S x && noStar [a, b] && x == "zip" && isTup tg) = true
      · rw [if_pos d]
        simp only [Bool.and_eq_true] at d
        obtain ⟨⟨⟨c1, c2⟩, c3⟩, c4⟩ := d
        obtain rfl := eq_of_beq c3
        cases tg with
        | Tuple elts kk tpos => exact i_zip (ms := [R.e S a, R.e S b]) rfl (isGl_ok ok c1).1 (ok.mgn _ (by simp [bltNames])) (args_ok hR c2) (star_no c2).1 (star_any (two c2).2)
        | _ => cases c4
      · rw [if_neg d]
        exact other
  · exact other
theorem set_no {iter : Expr} (h : notSet iter = true) (env : Env) (x : Value) : foldedSetIterable iter env x = pure x := by
  cases iter <;> first | rfl | exact nomatch h
theorem blk_ok {scope : Scope} (ok : Ok G S X W) (s : Shared) (H : Hp) (C : Addr) (cl : List (Str × Addr)) (fp : List Addr) : Ok G (inner S scope) (X.blk s H scope (compEnvC scope cl C X.env) fp) (fun _ _ _ _ => False) where
  sc := by
    show relS scope X.env.scope = relS scope S.s
    rw [ok.sc]
  N := ok.N
  nd := ok.nd
  calm := ok.calm
  gd := ok.gd
  un := ok.un
  tk := fun u s' ⟨_, _, _, _, _, _, _, _, _, _, _, _, _, _, _, _, w⟩ => w.elim
  fn := fun x => rfl
  mgn := ok.mgn
  fe := ok.fe
  bi := ok.bi
/-- the readings of a deeper block -/
structure Good (G : Gam) (R : EvS) : Prop where
  e : ∀ {S : Sc} {X : Cx} {W : WX}, Ok G S X W → ∀ e, PE X e (tE (zo X G W) (R.e S e))
  t : ∀ {S : Sc} {X : Cx} {W : WX}, Ok G S X W → ∀ e, PT X e (tT (zo X G W) (R.t S e))
  w : ∀ {S : Sc} {X : Cx} {W : WX}, Ok G S X W → ∀ op es pos, PW X (.BoolOp op es pos) (tT (zo X G W) (R.t S (.BoolOp op es pos)))
  s : ∀ {S : Sc} {X : Cx} {W : WX}, Ok G S X W → PassesOwn (model X.prog X.w) X.A X.env X.xe → ∀ e, PS X e (tS (zo X G W) (R.s S e))
theorem condM_ok {R : EvS} {Z : Wd} (hT : ∀ e, PT X e (tT Z (R.t S e))) : ∀ ifs, PTs X ifs (tT Z (condM R S ifs))
  | [] => pt_nil
  | [c] => pt_one (hT c)
  | _ :: _ :: _ => pts_stk
theorem compM_parts {R : EvS} (gd : Good G R) (ok : Ok G S X W) {elt tg iter : Expr} {ifs : List Expr} {scope : Scope} :
    compM G R S elt tg iter ifs scope = noM ∨ ∃ t, compM G R S elt tg iter ifs scope = lcM (iterM R S tg iter) t (condM R (inner S scope) ifs) (R.e (inner S scope) elt) ((ownOf G.N scope).map (·.2)) ∧
      BlkOk X.N X.env.scope scope (ownOf G.N scope) ∧ (∀ j ∈ t.slots, j ∈ (ownOf G.N scope).map (·.2)) ∧ notSet iter = true ∧ tgOf G (inner S scope) tg = some t := by
  unfold compM
  by_cases c : (notSet iter && blkC G.N S.s scope (ownOf G.N scope)) = true
  · rw [if_pos c]
    rw [Bool.and_eq_true] at c
    cases h : tgOf G (inner S scope) tg with
    | none => exact .inl rfl
    | some t =>
      dsimp only
      by_cases d : (t.slots.all fun j => ((ownOf G.N scope).map (·.2)).contains j) = true
      · rw [if_pos d]
        refine .inr ⟨t, rfl, by rw [ok.N, ok.sc]; exact blkOk_by c.2, fun j hj => ?_, c.1, rfl⟩
        have := List.all_eq_true.mp d j hj
        exact List.contains_iff_mem.mp this
      · rw [if_neg d]
        exact .inl rfl
  · rw [if_neg c]
    exact .inl rfl
theorem compM_ok {R : EvS} (gd : Good G R) (ok : Ok G S X W) {elt tg iter : Expr} {ifs : List Expr} {scope : Scope} {pos : Pos} : PE X (.ListComp elt [⟨tg, iter, ifs, 0⟩] scope pos) (tE (zo X G W) (compM G R S elt tg iter ifs scope)) := by
  rcases compM_parts gd ok (elt := elt) (tg := tg) (iter := iter) (ifs := ifs) (scope := scope) with e | ⟨t, e, hb, hs, hn, ht⟩
  · rw [e]; exact pe_stk
  · rw [e]
    exact x_comp ok.calm (by rw [ok.N]; exact ok.nd) (iterM_ok ok (gd.e ok)) hb hs (fun s H C cl fp => tgOf_ok (blk_ok ok s H C cl fp) ht)
      (fun s H C cl fp => condM_ok (gd.t (blk_ok ok s H C cl fp)) ifs) (fun s H C cl fp => gd.e (blk_ok ok s H C cl fp) elt) (set_no hn _)
theorem dictKs_ok {Z : Wd} {R : EvS} (hR : ∀ e, PE X e (tE Z (R.e S e))) {pos : Pos} : ∀ {keys : List (Option Expr)} {values : List Expr} {ks : List Str}, dictKs keys = some ks → ks.length = values.length →
    PPs X pos keys values (dispTs Z (ks.zip (values.map (R.e S)))) ∧ keys.length = ks.length ∧ keys.all (·.isSome) = true
  | [], [], ks, h, _ => by
    cases h
    exact ⟨pp_nil, rfl, rfl⟩
  | [], _ :: _, ks, h, hl => by
    cases h
    cases hl
  | k :: keys, values, ks, h, hl => by
    unfold dictKs at h
    split at h
    · rename_i heq
      cases heq
    · rename_i k' _ _ r heq
      cases heq
      obtain ⟨js, h1, h2⟩ := Option.map_eq_some_iff.mp h
      subst h2
      cases values with
      | nil => cases hl
      | cons v vs =>
        obtain ⟨p1, p2, p3⟩ := dictKs_ok hR (values := vs) h1 (Nat.succ.inj hl)
        exact ⟨pp_cons (hR v) p1, congrArg (· + 1) p2, p3⟩
    · cases h
theorem notSl_ix {b : Expr} (h : notSl b = true) : PlainIx b := by
  intro o i
  cases b <;> first | rfl | exact nomatch h
/-! ### 30. expressions, tests, statements -/
theorem po_ok {R : EvS} {Z : Wd} (hR : ∀ e, PE X e (tE Z (R.e S e))) : ∀ o, PO X o (tO Z (partM R S o))
  | none => x_noPart
  | some e => x_part (hR e)
theorem stE_ok {R : EvS} (gd : Good G R) (ok : Ok G S X W) (e : Expr) : PE X e (tE (zo X G W) (stE G R S e)) := by
  have hR := gd.e ok
  have hT := gd.t ok
  unfold stE
  split
  · exact nameM_ok ok
  · exact conM_ok ok
  · rename_i a op b pos
    cases h : binF op with
    | none => exact pe_stk
    | some f => exact binF_ok ok h (hR a) (hR b)
  · exact x_un un_neg v_neg (hR _)
  · exact x_not (hR _)
  · rename_i a op b pos
    by_cases c : behindInMarks op b = true
    · rw [if_pos c]; exact pe_stk
    · rw [if_neg c]
      cases h : cmpF op with
      | none => exact pe_stk
      | some f =>
        obtain ⟨r, h1, h2⟩ := cmpF_ok ok h
        exact x_cmp h1 h2 (hR a) (hR b) (by simpa using c)
  · exact x_and (hR _) (hR _)
  · exact x_or (hR _) (hR _)
  · exact pe_one (hR _)
  · exact x_ife (hT _) (hR _) (hR _)
  · rename_i es x1 pos
    by_cases c : noStar es = true
    · rw [if_pos c]; exact x_tup (args_ok hR c)
    · rw [if_neg c]; exact pe_stk
  · rename_i es pos
    by_cases c : noStar es = true
    · rw [if_pos c]; exact x_lst (args_ok hR c)
    · rw [if_neg c]; exact pe_stk
  · exact x_slice (hR _) (po_ok hR _) (po_ok hR _) rfl
  · exact pe_stk
  · rename_i a b pos n1 n2
    have hs : notSl b = true := by
      cases b with
      | Slice lo hi st p =>
        cases st with
        | none => exact (n1 _ _ _ rfl).elim
        | some st => exact (n2 _ _ _ _ rfl).elim
      | _ => rfl
    exact x_ix (ix_X (by have := ok.un; omega)) v_ix (hR a) (hR b) (notSl_ix hs)
  · exact compM_ok gd ok
  · rename_i keys values pos
    cases h : dictKs keys with
    | none => exact pe_stk
    | some ks =>
      dsimp only
      by_cases c : (ks.length == values.length && !ks.isEmpty && decide (ks.length ≤ 15)) = true
      · rw [if_pos c]
        simp only [Bool.and_eq_true, decide_eq_true_eq] at c
        obtain ⟨⟨c1, c2⟩, c3⟩ := c
        have c1 := eq_of_beq c1
        obtain ⟨p1, p2, p3⟩ := dictKs_ok hR (pos := pos) h c1
        refine x_disp p1 p3 (by rw [p2, c1]) (fun z => ?_) (by rw [p2]; exact c3)
        subst z
        have : ks.length = 0 := p2.symm
        rw [List.eq_nil_of_length_eq_zero this] at c2
        cases c2
      · rw [if_neg c]; exact pe_stk
  · exact callN_ok ok hR
  · exact pe_stk
theorem stT_plain {R : EvS} (ok : Ok G S X W) (hR : ∀ e, PE X e (tE (zo X G W) (R.e S e))) (e : Expr) : PT X e (tT (zo X G W) (if plainT e then fun ρ => bd (R.e S e ρ) asB else noM)) := by
  by_cases c : plainT e = true
  · rw [if_pos c]
    refine x_test (hR e) fun wh => ?_
    cases e with
    | UnaryOp op a pos => cases op <;> first | rfl | exact nomatch c
    | BoolOp _ _ _ => exact nomatch c
    | IfExp _ _ _ _ => exact nomatch c
    | Compare _ _ _ _ => exact nomatch c
    | _ => rfl
  · rw [if_neg c]; exact pt_stk
theorem stT_ok {R : EvS} (gd : Good G R) (ok : Ok G S X W) (e : Expr) : PT X e (tT (zo X G W) (stT G R S e)) := by
  have hR := gd.e ok
  have hT := gd.t ok
  unfold stT
  split
  · exact x_tnot (hT _)
  · exact (x_wand (hT _) (gd.w ok _ _ _)).pt
  · exact (x_wor (hT _) (gd.w ok _ _ _)).pt
  · rename_i op a pos
    cases op
    · exact (x_wand1 (hT _)).pt
    · exact (x_wor1 (hT _)).pt
  · rename_i a op b pos
    by_cases c : behindInMarks op b = true
    · rw [if_pos c]; exact pt_stk
    · rw [if_neg c]
      cases h : cmpF op with
      | none => exact pt_stk
      | some f =>
        obtain ⟨r, h1, h2⟩ := cmpF_ok ok h
        exact x_tcmp h1 h2 (hR a) (hR b) (by simpa using c)
  · exact stT_plain ok hR e
theorem stW_ok {R : EvS} (gd : Good G R) (ok : Ok G S X W) (op : BoolOp) (es : List Expr) (pos : Pos) : PW X (.BoolOp op es pos) (tT (zo X G W) (stT G R S (.BoolOp op es pos))) := by
  have hT := gd.t ok
  match op, es with
  | .And, a :: b :: r => exact x_wand (hT _) (gd.w ok _ _ _)
  | .Or, a :: b :: r => exact x_wor (hT _) (gd.w ok _ _ _)
  | .And, [a] => exact x_wand1 (hT _)
  | .Or, [a] => exact x_wor1 (hT _)
  | .And, [] => exact pw_stk
  | .Or, [] => exact pw_stk
theorem seqs_ok {R : EvS} {Z : Wd} (hS : ∀ e, PS X e (tS Z (R.s S e))) : ∀ l, PSs X l (tS Z (seqs R S l))
  | [] => s_nil
  | st :: r => s_cons (hS st) (seqs_ok hS r)
theorem sw_other {v o i : Expr} {p : Pos} {l : Nat} {env : Env} : swapsWith v (some (.Subscript o i p)) l env = pure false := by
  unfold swapsWith
  cases v <;> rfl
theorem sw_none {v : Expr} {t : Option Expr} {l : Nat} {env : Env} (h : noComp v = true) : swapsWith v t l env = pure false := by
  unfold swapsWith
  cases v <;> first | rfl | exact nomatch h
theorem sw_tup {v : Expr} {ts : List Expr} {k : Nat} {p : Pos} {l : Nat} {env : Env} : swapsWith v (some (.Tuple ts k p)) l env = pure false := by
  unfold swapsWith
  cases v <;> rfl
def swB (scope sc : Scope) (y : Str) (py pos : Pos) : Bool := bkOf sc == .function && sc.names.lookup y == some .local && py.line == pos.line && !(scope.names.any fun (n, k) => n == y && (k == .local || k == .cell))
theorem sw_lc {elt : Expr} {gs : List Comprehension} {scope : Scope} {pos py : Pos} {y : Str} {l : Nat} {env : Env} : swapsWith (.ListComp elt gs scope pos) (some (.Name y py)) l env = pure (swB scope env.scope y py pos) := rfl
theorem nameAsg_ok {R : EvS} (gd : Good G R) (ok : Ok G S X W) {y : Str} {py pos : Pos} {v : Expr} : PS X (.Assign [.Name y py] v pos) (tS (zo X G W) (nameAsg G R S y v)) := by
  have hR := gd.e ok
  unfold nameAsg
  by_cases c : isAsg S y = true
  · rw [if_pos c]
    obtain ⟨a1, a2⟩ := isAsg_ok ok c
    cases h : ixOf G.N y with
    | none => exact ps_stk
    | some i =>
      have hN : X.N.Nodup := by rw [ok.N]; exact ok.nd
      have hi : X.N[i]? = some y := by rw [ok.N]; exact ixOf_ok h
      dsimp only
      split
      · rename_i elt tg iter ifs scope lp
        have hb := sw_lc (elt := elt) (gs := [⟨tg, iter, ifs, 0⟩]) (scope := scope) (pos := lp) (py := py) (y := y) (l := pos.line) (env := X.env)
        cases hB : swB scope X.env.scope y py lp with
        | false =>
          rw [hB] at hb
          exact s_set hN hi a1 (compM_ok gd ok) hb a2
        | true =>
          rw [hB] at hb
          have hyl : X.env.scope.names.lookup y = some .local := by
            unfold swB at hB
            simp only [Bool.and_eq_true] at hB
            exact eq_of_beq hB.1.1.2
          rcases compM_parts gd ok (elt := elt) (tg := tg) (iter := iter) (ifs := ifs) (scope := scope) with e | ⟨t, e, hbk, hs, hn, ht⟩
          · rw [e]
            exact PSi (t := tS (zo X G W) noM) ps_stk fun D σ H ⟨ad, ρ, μ, g, hl, q⟩ => ⟨ad, ρ, μ, g, hl, q⟩
          · rw [e]
            exact s_setLc ok.calm hN hi hyl hb (iterM_ok ok hR) hbk hs (fun s H C cl fp => tgOf_ok (blk_ok ok s H C cl fp) ht)
              (fun s H C cl fp => condM_ok (gd.t (blk_ok ok s H C cl fp)) ifs) (fun s H C cl fp => gd.e (blk_ok ok s H C cl fp) elt) (set_no hn _)
      · by_cases d : noComp v = true
        · rw [if_pos d]
          exact s_set hN hi a1 (hR v) (sw_none d) a2
        · rw [if_neg d]; exact ps_stk
  · rw [if_neg c]; exact ps_stk
theorem ite_as {α : Type} {p q : Prop} [Decidable p] [Decidable q] {a b c : α} (h : p) (hq : p = q) (e : a = c) : (if q then a else b) = c := by
  subst hq
  rw [if_pos h]; exact e
theorem ite_no {α : Type} {p q : Prop} [Decidable p] [Decidable q] {a b c : α} (h : ¬ p) (hq : p = q) (e : b = c) : (if q then a else b) = c := by
  subst hq
  rw [if_neg h]; exact e
theorem swOf_ok {ts vs : List Expr} {k k2 : Nat} {p p2 : Pos} {env : Env} {r : Option (List Str)} (h : swOf ts vs env.scope = some r) : swappedStores [.Tuple ts k p] (.Tuple vs k2 p2) env = pure r := by
  unfold swOf at h
  unfold swappedStores
  dsimp only at h ⊢
  split at h
  · rename_i c
    cases h
    exact ite_as c rfl rfl
  · rename_i c
    refine ite_no c rfl ?_
    split at h
    · rename_i d
      cases h
      exact ite_as d rfl rfl
    · rename_i d
      refine ite_no d rfl ?_
      split at h
      · rename_i e
        cases h
        exact ite_as e rfl rfl
      · rename_i e
        refine ite_no e rfl ?_
        split at h
        · rename_i f
          cases h
          exact ite_as f rfl rfl
        · rename_i f
          refine ite_no f rfl ?_
          split at h
          · cases h
          · rename_i f2
            cases h
            exact ite_no f2 rfl rfl
theorem sws_tup {v : Expr} {ts : List Expr} {k : Nat} {p : Pos} {l : Nat} {env : Env} : swapsWithSole [.Tuple ts k p] v l env = pure false := sw_tup (v := v) (ts := ts) (k := k) (p := p) (l := l) (env := env)
theorem sw_alt {ts : List Expr} {v : Expr} {k : Nat} {p : Pos} {env : Env} (h : ∀ vs k2 p2, v ≠ .Tuple vs k2 p2) : swappedStores [.Tuple ts k p] v env = pure none := by
  unfold swappedStores
  cases v with
  | Tuple vs k2 p2 => exact (h vs k2 p2 rfl).elim
  | _ => rfl
theorem tupAsg_ok {R : EvS} (gd : Good G R) (ok : Ok G S X W) {ts : List Expr} {k : Nat} {p pos : Pos} {v : Expr} : PS X (.Assign [.Tuple ts k p] v pos) (tS (zo X G W) (tupAsg G R S (.Tuple ts k p) v ts)) := by
  have hR := gd.e ok
  have gen : ∀ {v : Expr}, swappedStores [.Tuple ts k p] v X.env = pure none → PS X (.Assign [.Tuple ts k p] v pos) (tS (zo X G W) (match tgOf G S (.Tuple ts k p) with
      | some t => asgM (R.e S v) t
      | none => noM)) := fun {v} hw => by
    cases h : tgOf G S (.Tuple ts k p) with
    | none => exact ps_stk
    | some t => exact s_asg (hR v) (tgOf_ok ok h) sws_tup hw rfl
  unfold tupAsg
  split
  · rename_i vs k2 p2
    cases h : swOf ts vs S.s with
    | none => exact ps_stk
    | some r =>
      have hw := swOf_ok (k := k) (k2 := k2) (p := p) (p2 := p2) (env := X.env) (r := r) (by rw [ok.sc]; exact h)
      cases r with
      | none => exact gen hw
      | some names =>
        dsimp only
        split
        · rename_i x px y py a b
          by_cases c : (names == [x, y] && S.s.names.lookup x == some .local && S.s.names.lookup y == some .local && noStar [a, b]) = true
          · rw [if_pos c]
            simp only [Bool.and_eq_true] at c
            obtain ⟨⟨⟨c0, c1⟩, c2⟩, c3⟩ := c
            cases hi : ixOf G.N x with
            | none => exact ps_stk
            | some i =>
              cases hj : ixOf G.N y with
              | none => exact ps_stk
              | some j =>
                dsimp only
                by_cases e : (i == j) = true
                · rw [if_pos e]; exact ps_stk
                · rw [if_neg e]
                  have hij : i ≠ j := fun z => e (by rw [z]; exact beq_self_eq_true j)
                  have hx : X.env.scope.names.lookup x = some .local := by rw [ok.sc]; exact eq_of_beq c1
                  have hy : X.env.scope.names.lookup y = some .local := by rw [ok.sc]; exact eq_of_beq c2
                  obtain rfl := eq_of_beq c0
                  exact s_par (ms := [R.e S a, R.e S b]) ok.calm (by rw [ok.N]; exact ok.nd) (by rw [ok.N]; exact ixOf_ok hi) (by rw [ok.N]; exact ixOf_ok hj) hij hx hy (args_ok hR c3) hw sws_tup
          · rw [if_neg c]; exact ps_stk
        · exact ps_stk
  · rename_i n
    by_cases d : noComp v = true
    · rw [if_pos d]
      exact gen (sw_alt n)
    · rw [if_neg d]; exact ps_stk
theorem stS_ok {R : EvS} (gd : Good G R) (ok : Ok G S X W) (hp : PassesOwn (model X.prog X.w) X.A X.env X.xe) (st : Stmt) : PS X st (tS (zo X G W) (stS G R S st)) := by
  have hR := gd.e ok
  have hT := gd.t ok
  have hS := gd.s ok hp
  unfold stS
  split
  · exact s_pass
  · exact s_break
  · exact s_cont
  · exact s_retN
  · exact s_ret (hR _)
  · exact s_if (hT _) (seqs_ok hS _) (seqs_ok hS _)
  · rename_i tg iter body pos
    by_cases c : notSet iter = true
    · rw [if_pos c]
      cases h : tgOf G S tg with
      | none => exact ps_stk
      | some t => exact s_for hp ok.calm (iterM_ok ok hR) (tgOf_ok ok h) (seqs_ok hS _) (set_no c _)
    · rw [if_neg c]; exact ps_stk
  · exact s_while hp (hT _) (seqs_ok hS _)
  · rename_i e pos
    by_cases c : noComp e = true
    · rw [if_pos c]; exact s_expr (hR _) (sw_none c)
    · rw [if_neg c]; exact ps_stk
  · exact nameAsg_ok gd ok
  · exact tupAsg_ok gd ok
  · rename_i o i p v pos
    by_cases c : notSl i = true
    · rw [if_pos c]; exact s_put (by have := ok.un; omega) (hR _) (hR _) (hR _) sw_other
    · rw [if_neg c]; exact ps_stk
  · exact ps_stk
theorem good0 : Good G step0 := ⟨fun _ _ => pe_stk, fun _ _ => pt_stk, fun _ _ _ _ => pw_stk, fun _ _ _ => ps_stk⟩
theorem ev_good : ∀ n, Good G (ev G n)
  | 0 => good0
  | n + 1 => ⟨fun ok e => stE_ok (ev_good n) ok e, fun ok e => stT_ok (ev_good n) ok e, fun ok op es pos => stW_ok (ev_good n) ok op es pos, fun ok hp st => stS_ok (ev_good n) ok hp st⟩
end PX
namespace PX
open PySem PySem.Spec PyProof.Rows L2
/-! ### 31. the defs of a text, level by level -/
structure Row where
  x : Str
  st : Stmt
  N : List Str
  ps : List Str
  sh : List Shape
def glFn (L : Nat → List D → M D) : Nat → List Row → List (Str × GV)
  | _, [] => []
  | i, r :: t => (r.x, .fn ⟨r.ps, r.sh, L i⟩) :: glFn L (i + 1) t
def glBi : List (Str × String) → List (Str × GV)
  | [] => []
  | p :: t => (p.1, .bi p.2) :: glBi t
def gam (tab : List Row) (bis : List (Str × String)) (L : Nat → List D → M D) (N : List Str) : Gam := ⟨N, glFn L 0 tab ++ glBi bis⟩
def FUEL : Nat := 60
def rowF (tab : List Row) (bis : List (Str × String)) (L : Nat → List D → M D) (r : Row) : List D → M D :=
  outD (seqs (ev (gam tab bis L r.N) FUEL) ⟨defScope r.st, none⟩ (defBody r.st)) r.N.length
def lev (tab : List Row) (bis : List (Str × String)) : Nat → Nat → List D → M D
  | 0, _ => fun _ => stk
  | n + 1, i => match tab[i]? with
    | some r => rowF tab bis (lev tab bis n) r
    | none => fun _ => stk
theorem glFn_mem {L : Nat → List D → M D} {x : Str} {f : FE} : ∀ {t : List Row} {i : Nat}, (x, GV.fn f) ∈ glFn L i t → ∃ j r, t[j]? = some r ∧ r.x = x ∧ f = ⟨r.ps, r.sh, L (i + j)⟩
  | [], _, h => nomatch h
  | r :: t, i, h => by
    rcases List.mem_cons.mp h with z | z
    · cases z
      exact ⟨0, r, rfl, rfl, rfl⟩
    · obtain ⟨j, r', h1, h2, h3⟩ := glFn_mem z
      refine ⟨j + 1, r', by simpa using h1, h2, ?_⟩
      rw [h3]
      congr 2
      omega
theorem glFn_bi {L : Nat → List D → M D} {x : Str} {id : String} : ∀ {t : List Row} {i : Nat}, (x, GV.bi id) ∈ glFn L i t → False
  | [], _, h => nomatch h
  | r :: t, i, h => by
    rcases List.mem_cons.mp h with z | z
    · cases z
    · exact glFn_bi z
theorem glBi_mem {x : Str} {v : GV} : ∀ {t : List (Str × String)}, (x, v) ∈ glBi t → ∃ id, (x, id) ∈ t ∧ v = .bi id
  | [], h => nomatch h
  | p :: t, h => by
    rcases List.mem_cons.mp h with z | z
    · cases z
      exact ⟨_, List.mem_cons_self, rfl⟩
    · obtain ⟨id, h1, h2⟩ := glBi_mem z
      exact ⟨id, List.mem_cons_of_mem _ h1, h2⟩
/-- what does not hang on the run -/
structure RowOk (r : Row) : Prop where
  sc : FnScope r.N r.ps (defScope r.st)
  bd : ∀ (K : PySem.W.Frag) (kV doc pm : Value) (an : Option Addr) (cdv ct : Value), ∀ s ∈ r.sh, BindOk K (PySem.W.fnOf r.x r.x (defArgs r.st) (defBody r.st) (defScope r.st) .none kV doc pm an cdv ct) r.ps s
/-- what the top has made of it -/
def RowAt (K : PySem.W.Frag) (r : Row) : Prop := ∃ f fd, PySem.W.nsIn K mainGlobals r.x = some (some (.ref f)) ∧ Fun K r.x r.x r.st f fd
theorem rowAt_mk {K : PySem.W.Frag} {r : Row} {f : Addr} {oc : Value} {od an : Option Addr} {osl : Array (Option Value)} {kV doc pm cdv ct : Value} (a : PySem.W.nsIn K mainGlobals r.x = some (some (.ref f)))
    (l : K.lookup f = some ⟨oc, od, .func (PySem.W.fnOf r.x r.x (defArgs r.st) (defBody r.st) (defScope r.st) .none kV doc pm an cdv ct), osl⟩) (c : PySem.W.codeIn K cdv r.x = true) (k : PySem.W.keepIn K (.ref f) = true) : RowAt K r := ⟨f, _, a, fun_mk l c k⟩
theorem all_nil {α : Type} {P : α → Prop} : ∀ x ∈ ([] : List α), P x := fun x h => (List.not_mem_nil h).elim
theorem all_cons {α : Type} {P : α → Prop} {a : α} {l : List α} (h : P a) (t : ∀ x ∈ l, P x) : ∀ x ∈ a :: l, P x := fun x hx => by
  rcases List.mem_cons.mp hx with z | z
  · rw [z]; exact h
  · exact t x z
def fnScB (N P : List Str) (sc : Scope) : Bool :=
  (match sc.kind with | .function => true | _ => false) && !sc.isCoroutine && !sc.isGenerator && decide N.Nodup && decide (N.take P.length = P) &&
    (P.all fun x => sc.names.lookup x == some .local || sc.names.lookup x == some .cell) && (sc.names.all fun y => match y.2 with | .free => false | _ => true)
theorem fnSc_by {N P : List Str} {sc : Scope} (h : fnScB N P sc = true) : FnScope N P sc := by
  unfold fnScB at h
  simp only [Bool.and_eq_true, decide_eq_true_eq, Bool.not_eq_true', List.all_eq_true, Bool.or_eq_true] at h
  obtain ⟨⟨⟨⟨⟨⟨h1, h2⟩, h3⟩, h4⟩, h5⟩, h6⟩, h7⟩ := h
  refine ⟨?_, h2, h3, h4, h5, fun x hx => (h6 x hx).imp eq_of_beq eq_of_beq, fun y hy e => ?_⟩
  · split at h1
    · assumption
    · cases h1
  · have q := h7 y hy
    rw [e] at q
    cases q
section
variable {P : Program} {w : World} {K : PySem.W.Frag} {mg : Str → Option Value} {base : Heap} {tab : List Row} {bis : List (Str × String)}
theorem lev_ok (ro : ∀ r ∈ tab, RowOk r) (at_ : ∀ r ∈ tab, RowAt K r) (hm : ∀ x v, PySem.W.nsIn K mainGlobals x = some (some v) → mg x = some v) (hb : ∀ p ∈ bis, mg p.1 = some (.builtin p.2)) (hn : ∀ x ∈ bltNames, mg x = none) :
    ∀ (n i : Nat) (r : Row) (f : Addr) (fd : FuncData), tab[i]? = some r → PySem.W.nsIn K mainGlobals r.x = some (some (.ref f)) → Fun K r.x r.x r.st f fd →
      mg r.x = some (.ref f) ∧ PySem.W.keepIn K (.ref f) = true ∧ (∀ s ∈ r.sh, BindOk K fd r.ps s) ∧ FnG P w K mg base n f fd r.ps (spF mg K r.ps.length (lev tab bis n i))
  | 0, i, r, f, fd, hr, h1, h2 => by
    obtain ⟨oc, od, kV, doc, pm, an, cdv, ct, osl, rfl, lk, hcd⟩ := h2.ex
    exact ⟨hm _ _ h1, h2.kp, (ro r (List.mem_of_getElem? hr)).bd K kV doc pm an cdv ct, FnG.stk rfl⟩
  | n + 1, i, r, f, fd, hr, h1, h2 => by
    obtain ⟨oc, od, kV, doc, pm, an, cdv, ct, osl, rfl, lk, hcd⟩ := h2.ex
    have R := ro r (List.mem_of_getElem? hr)
    refine ⟨hm _ _ h1, h2.kp, R.bd K kV doc pm an cdv ct, ?_⟩
    have e : lev tab bis (n + 1) i = rowF tab bis (lev tab bis n) r := by
      show (match tab[i]? with
        | some r => rowF tab bis (lev tab bis n) r
        | none => fun _ => stk) = _
      rw [hr]
    rw [e]
    refine fn_G (base := base) lk hcd R.sc fun A outer s H E room hg => ?_
    have ok : Ok (gam tab bis (lev tab bis n) r.N) ⟨defScope r.st, none⟩ (cxOf (L2.CX P w) P w K mg base r.N r.x (defScope r.st) f cdv A outer s H E) (fun cls d _ H => E cls d H) := {
      sc := rfl
      N := rfl
      nd := R.sc.nd
      calm := rfl
      gd := hg
      un := by
        have z := room.un
        show (A.deeper (envOfC r.x (defScope r.st) s.heap.objs.size f cdv)).units + 200 < cLine
        omega
      tk := takes_of rfl rfl rfl rfl
      fn := fun _ => rfl
      mgn := hn
      fe := fun x fe hx => by
        rcases List.mem_append.mp hx with z | z
        · obtain ⟨j, r', g1, g2, g3⟩ := glFn_mem z
          obtain ⟨f', fd', q1, q2⟩ := at_ r' (List.mem_of_getElem? g1)
          obtain ⟨k1, k2, k3, k4⟩ := lev_ok ro at_ hm hb hn n j r' f' fd' g1 q1 q2
          subst g2 g3
          rw [Nat.zero_add]
          exact ⟨n, f', fd', k1, k2, room, k4, k3⟩
        · obtain ⟨id, g1, g2⟩ := glBi_mem z
          cases g2
      bi := fun x id hx => by
        rcases List.mem_append.mp hx with z | z
        · exact (glFn_bi z).elim
        · obtain ⟨id', g1, g2⟩ := glBi_mem z
          cases g2
          exact hb _ g1 }
    exact seqs_ok ((ev_good FUEL).s ok (passes_of rfl)) _
end
theorem walk_tab {l : PySem.W.OpenLaw} {n k i : Nat} {q : Program} {loose : List Str} {XP : (Str → Option Value) → Heap → Prop} {YP : World → Heap → Prop} {d : DefRec} {K : Params → PySem.W.Frag} {tab : List Row} {bis : List (Str × String)} {r : Row} {x : Str}
    (hn : l.most = some n) (hn2 : n ≤ 1000000) (hdf : d.params.defaults = []) (hr : Room k callerA) (hY : ∀ (w : World) (h : Heap), YP w h → (K w.params).In h)
    (ro : ∀ r ∈ tab, RowOk r) (hi : tab[i]? = some r) (hx : r.x = d.name) (hp : r.ps = [x]) (hs : (⟨1, [], [0]⟩ : Shape) ∈ r.sh)
    (hF : ∀ (w : World), (∀ r ∈ tab, RowAt (K w.params) r) ∧ (∀ p ∈ bis, PySem.W.nsIn (K w.params) mainGlobals p.1 = some (some (.builtin p.2))) ∧ ∀ x ∈ bltNames, PySem.W.nsIn (K w.params) mainGlobals x = some none)
    (hbn : ∀ (K : PySem.W.Frag) (kV doc pm : Value) (an : Option Addr) (cdv ct : Value) (s : Shared) (u : Value), BindsTo s (PySem.W.fnOf r.x r.x (defArgs r.st) (defBody r.st) (defScope r.st) .none kV doc pm an cdv ct) ⟨[u], []⟩ [(x, u)])
    (hT : ∀ ns : List Int, ns.length ≤ n → (∀ z ∈ ns, Builtin.Int.intBits z ≤ 1048576) → ∃ μ, lev tab bis k i [.lst (ns.map .int)] [] = .ok (.bl true) μ) :
    PySem.W.WalkO q loose XP YP l.row.toRowW d [] (fun f vs => PySem.call f vs) := by
  refine walk_G (k := k) (F := lev tab bis k i) (x := x) hn hn2 hdf hr hY (fun w mg fa h KX G hmg => ?_) hT
  obtain ⟨h1, h2, h3⟩ := hF w
  have hm : ∀ x v, PySem.W.nsIn (K w.params) mainGlobals x = some (some v) → mg x = some v := fun x v e => PySem.W.mg_of KX G e
  obtain ⟨f, fd, g1, g2⟩ := h1 r (List.mem_of_getElem? hi)
  have e := hm _ _ g1
  rw [hx, hmg] at e
  cases e
  have g3 := g2
  obtain ⟨oc, od, kV, doc, pm, an, cdv, ct, osl, rfl, lk, hcd⟩ := g2.ex
  refine ⟨_, hbn (K w.params) kV doc pm an cdv ct, fun base _ _ => ?_⟩
  obtain ⟨k1, k2, k3, k4⟩ := lev_ok (P := l.prog) (w := w) (base := base) (bis := bis) ro h1 hm (fun p hp => hm _ _ (h2 p hp)) (fun x hx => PySem.W.mg_none_of KX G (h3 x hx)) k i r _ _ hi g1 g3
  rw [hp] at k4
  exact k4
end PX
namespace PX
open PySem L2
/-! ### 32. short words for what the evaluator makes -/
def kM {α : Type} (a : α) : Rho → M α := fun _ => rt a
def neM (a : Rho → M D) : Rho → M D := fun ρ => bd (a ρ) negD
def notM (a : Rho → M D) : Rho → M D := fun ρ => bd (a ρ) fun d => bd (asB d) fun b => rt (.bl (!b))
def andM (a b : Rho → M D) : Rho → M D := fun ρ => ifB (bd (a ρ) asB) (b ρ) (rt (.bl false))
def orM (a b : Rho → M D) : Rho → M D := fun ρ => ifB (bd (a ρ) asB) (rt (.bl true)) (b ρ)
def ifM {α : Type} (c : Rho → M Bool) (a b : Rho → M α) : Rho → M α := fun ρ => ifB (c ρ) (a ρ) (b ρ)
def ptM (a : Rho → M D) : Rho → M (Option Int) := fun ρ => bd (a ρ) fun d => bd (asI d) fun i => rt (some i)
def seM (a : Rho → M D) : Rho → M (List D) := fun ρ => bd (a ρ) itX
def tnM (a : Rho → M Bool) : Rho → M Bool := fun ρ => bd (a ρ) fun b => rt (!b)
def taM (a b : Rho → M Bool) : Rho → M Bool := fun ρ => ifB (a ρ) (b ρ) (rt false)
def toM (a b : Rho → M Bool) : Rho → M Bool := fun ρ => ifB (a ρ) (rt true) (b ρ)
def tvM (a : Rho → M D) : Rho → M Bool := fun ρ => bd (a ρ) asB
def nxM : Rho → M Fl := fun ρ => rt (.nx ρ)
def bkM : Rho → M Fl := fun ρ => rt (.bk ρ)
def ctM : Rho → M Fl := fun ρ => rt (.ct ρ)
def rtM (a : Rho → M D) : Rho → M Fl := fun ρ => bd (a ρ) fun d => rt (.rt d)
def sqM (a b : Rho → M Fl) : Rho → M Fl := fun ρ => seqS (a ρ) b
def foM (i : Rho → M (List D)) (t : Tg) (b : Rho → M Fl) : Rho → M Fl := fun ρ => bd (i ρ) fun ds => forD t b ds ρ
def whM (c : Rho → M Bool) (b : Rho → M Fl) : Rho → M Fl := fun ρ => whD c b WF ρ
def exM (a : Rho → M D) : Rho → M Fl := fun ρ => bd (a ρ) fun _ => rt (.nx ρ)
end PX
namespace PX
open PySem L2
/-! ### 33. what a run comes to -/
def NoX : Xn → Mu → Prop := fun _ _ => False
/-- it ends with a and K holds -/
abbrev Ev {α : Type} (r : R α) (K : α → Mu → Prop) : Prop := Sat r K NoX
section
variable {α β : Type} {K K' : α → Mu → Prop} {μ : Mu} {ρ : Rho}
theorem ev_ok {a : α} : Ev (.ok a μ) K ↔ K a μ := Iff.rfl
theorem ev_eq {r : R α} {a : α} (h : Ev r fun b μ' => b = a ∧ μ' = μ) : r = .ok a μ := by
  cases r with
  | ok b μ' =>
    obtain ⟨h1, h2⟩ := (show b = a ∧ μ' = μ from h)
    rw [h1, h2]
  | ex x μ' => exact h.elim
  | no => exact h.elim
theorem ev_of {r : R α} {a : α} {μ' : Mu} (h : r = .ok a μ') : Ev r K ↔ K a μ' := by rw [h]; exact Iff.rfl
theorem ev_imp {r : R α} (h : Ev r K) (hk : ∀ a μ', K a μ' → K' a μ') : Ev r K' := Sat.imp h hk
theorem ev_rt {a : α} : Ev (rt a μ) K ↔ K a μ := Iff.rfl
theorem ev_bd {x : M β} {f : β → M α} : Ev (bd x f μ) K ↔ Ev (x μ) fun a μ' => Ev (f a μ') K := sat_bd
theorem ev_kM {a : α} : Ev (kM a ρ μ) K ↔ K a μ := Iff.rfl
theorem ev_ifB {c : M Bool} {x y : M α} : Ev (ifB c x y μ) K ↔ Ev (c μ) fun b μ' => if b = true then Ev (x μ') K else Ev (y μ') K := by
  unfold ifB
  rw [ev_bd]
  constructor
  · exact fun h => ev_imp h fun b μ' q => by cases b <;> simpa using q
  · exact fun h => ev_imp h fun b μ' q => by cases b <;> simpa using q
theorem ev_ifM {c : Rho → M Bool} {x y : Rho → M α} : Ev (ifM c x y ρ μ) K ↔ Ev (c ρ μ) fun b μ' => if b = true then Ev (x ρ μ') K else Ev (y ρ μ') K := ev_ifB
end
section
variable {K : D → Mu → Prop} {μ : Mu} {ρ : Rho} {a b : Rho → M D} {f : D → D → M D}
def vK (o : Option (Option D)) (μ : Mu) (K : D → Mu → Prop) : Prop := match o with
  | some (some d) => K d μ
  | _ => False
theorem vK_s {d : D} : vK (some (some d)) μ K ↔ K d μ := Iff.rfl
theorem ev_gV {i : Nat} : Ev (gV i ρ μ) K ↔ vK ρ[i]? μ K := by
  unfold gV vK
  cases ρ[i]? with
  | none => exact Iff.rfl
  | some o => cases o <;> exact Iff.rfl
theorem ev_op2 : Ev (op2 a b f ρ μ) K ↔ Ev (a ρ μ) fun x μ1 => Ev (b ρ μ1) fun y μ2 => Ev (f x y μ2) K := by
  unfold op2
  rw [ev_bd]
  exact ⟨fun h => ev_imp h fun x μ1 q => ev_bd.mp q, fun h => ev_imp h fun x μ1 q => ev_bd.mpr q⟩
theorem ev_neM : Ev (neM a ρ μ) K ↔ Ev (a ρ μ) fun x μ1 => Ev (negD x μ1) K := ev_bd
theorem ev_notM : Ev (notM a ρ μ) K ↔ Ev (a ρ μ) fun x μ1 => Ev (asB x μ1) fun b μ2 => K (.bl (!b)) μ2 := by
  unfold notM
  rw [ev_bd]
  exact ⟨fun h => ev_imp h fun x μ1 q => ev_bd.mp q, fun h => ev_imp h fun x μ1 q => ev_bd.mpr q⟩
theorem ev_andM : Ev (andM a b ρ μ) K ↔ Ev (a ρ μ) fun x μ1 => Ev (asB x μ1) fun c μ2 => if c = true then Ev (b ρ μ2) K else K (.bl false) μ2 := by
  unfold andM
  rw [ev_ifB, ev_bd]
  exact Iff.rfl
theorem ev_orM : Ev (orM a b ρ μ) K ↔ Ev (a ρ μ) fun x μ1 => Ev (asB x μ1) fun c μ2 => if c = true then K (.bl true) μ2 else Ev (b ρ μ2) K := by
  unfold orM
  rw [ev_ifB, ev_bd]
  exact Iff.rfl
theorem ev_asB {k : Bool} {K : Bool → Mu → Prop} : Ev (asB (.bl k) μ) K ↔ K k μ := Iff.rfl
theorem ev_app {α : Type} {g : List D → M α} {as : List (Rho → M D)} {K : α → Mu → Prop} : Ev (appM g as ρ μ) K ↔ Ev (evA as ρ μ) fun ds μ1 => Ev (g ds μ1) K := ev_bd
theorem ev_nil {K : List D → Mu → Prop} : Ev (evA [] ρ μ) K ↔ K [] μ := Iff.rfl
theorem ev_cons {as : List (Rho → M D)} {K : List D → Mu → Prop} : Ev (evA (a :: as) ρ μ) K ↔ Ev (a ρ μ) fun d μ1 => Ev (evA as ρ μ1) fun ds μ2 => K (d :: ds) μ2 := by
  show Ev (bd (a ρ) (fun d => bd (evA as ρ) fun ds => rt (d :: ds)) μ) K ↔ _
  rw [ev_bd]
  exact ⟨fun h => ev_imp h fun x μ1 q => ev_bd.mp q, fun h => ev_imp h fun x μ1 q => ev_bd.mpr q⟩
theorem ev_callF {F : List D → M D} {S : Shape} {n : Nat} {as ks : List (Rho → M D)} : Ev (callF F S n as ks ρ μ) K ↔ Ev (evA as ρ μ) fun ds μ1 => Ev (evA ks ρ μ1) fun zs μ2 => Ev (callM F S n ds zs μ2) K := by
  unfold callF
  rw [ev_bd]
  exact ⟨fun h => ev_imp h fun x μ1 q => ev_bd.mp q, fun h => ev_imp h fun x μ1 q => ev_bd.mpr q⟩
theorem ev_callM {F : List D → M D} {S : Shape} {n : Nat} {ds es : List D} : Ev (callM F S n ds es μ) K ↔ if ds.length = S.np ∧ es.length = S.ks.length ∧ (pick S.pm (ds ++ es)).length = n then Ev (F (pick S.pm (ds ++ es)) μ) K else False := by
  unfold callM
  split <;> exact Iff.rfl
theorem ev_tvM {K : Bool → Mu → Prop} : Ev (tvM a ρ μ) K ↔ Ev (a ρ μ) fun d μ1 => Ev (asB d μ1) K := ev_bd
theorem ev_tnM {c : Rho → M Bool} {K : Bool → Mu → Prop} : Ev (tnM c ρ μ) K ↔ Ev (c ρ μ) fun b μ1 => K (!b) μ1 := ev_bd
theorem ev_taM {c e : Rho → M Bool} {K : Bool → Mu → Prop} : Ev (taM c e ρ μ) K ↔ Ev (c ρ μ) fun b μ1 => if b = true then Ev (e ρ μ1) K else K false μ1 := by
  unfold taM; rw [ev_ifB]; exact Iff.rfl
theorem ev_toM {c e : Rho → M Bool} {K : Bool → Mu → Prop} : Ev (toM c e ρ μ) K ↔ Ev (c ρ μ) fun b μ1 => if b = true then K true μ1 else Ev (e ρ μ1) K := by
  unfold toM; rw [ev_ifB]; exact Iff.rfl
theorem ev_slM {l u : Rho → M (Option Int)} : Ev (slM a l u ρ μ) K ↔ Ev (a ρ μ) fun x μ1 => Ev (l ρ μ1) fun lo μ2 => Ev (u ρ μ2) fun hi μ3 => Ev (slD x lo hi μ3) K := by
  unfold slM
  rw [ev_bd]
  exact ⟨fun h => ev_imp h fun x μ1 q => ev_imp (ev_bd.mp q) fun y μ2 q => ev_bd.mp q, fun h => ev_imp h fun x μ1 q => ev_bd.mpr (ev_imp q fun y μ2 q => ev_bd.mpr q)⟩
theorem ev_ptM {K : Option Int → Mu → Prop} : Ev (ptM a ρ μ) K ↔ Ev (a ρ μ) fun x μ1 => Ev (asI x μ1) fun i μ2 => K (some i) μ2 := by
  unfold ptM
  rw [ev_bd]
  exact ⟨fun h => ev_imp h fun x μ1 q => ev_bd.mp q, fun h => ev_imp h fun x μ1 q => ev_bd.mpr q⟩
theorem ev_asI {i : Int} {K : Int → Mu → Prop} : Ev (asI (.int i) μ) K ↔ K i μ := Iff.rfl
theorem ev_seM {K : List D → Mu → Prop} : Ev (seM a ρ μ) K ↔ Ev (a ρ μ) fun x μ1 => Ev (itX x μ1) K := ev_bd
theorem ev_itL {ds : List D} {K : List D → Mu → Prop} : Ev (itX (.lst ds) μ) K ↔ K ds μ := Iff.rfl
theorem ev_itT {ds : List D} {K : List D → Mu → Prop} : Ev (itX (.tup ds) μ) K ↔ K ds μ := Iff.rfl
theorem ev_mkT {ds : List D} : Ev (mkT ds μ) K ↔ if ds.length ≤ 1000000 then K (.tup ds) μ else False := by
  unfold mkT
  split <;> exact Iff.rfl
theorem ev_mkL {ds : List D} : Ev (mkL ds μ) K ↔ if ds.length ≤ 1000000 then K (.lst ds) μ else False := by
  unfold mkL
  split <;> exact Iff.rfl
theorem ev_lcM {mi : Rho → M (List D)} {t : Tg} {mc : Rho → M Bool} {me : Rho → M D} {vs : List Nat} : Ev (lcM mi t mc me vs ρ μ) K ↔ Ev (mi ρ μ) fun ds μ1 => Ev (lcD t mc me ds (wipeD ρ vs) μ1) fun ys μ2 => Ev (mkL ys μ2) K := by
  unfold lcM
  rw [ev_bd]
  constructor
  · refine fun h => ev_imp h fun x μ1 q => ?_
    have q := sat_noX.mp (sat_bd.mp q)
    exact q.mono (fun _ _ z => z) fun _ _ z => z.elim
  · refine fun h => ev_imp h fun x μ1 q => ?_
    refine sat_bd.mpr (sat_noX.mpr ?_)
    exact q.mono (fun _ _ z => z) fun _ _ z => z
theorem ev_dispM {kms : List (Str × (Rho → M D))} : Ev (dispM kms ρ μ) K ↔ Ev (evA (kms.map (·.2)) ρ μ) fun ds μ1 => Ev (newDk (kms.map (·.1)) ds μ1) K := ev_bd
theorem ev_lft {α : Type} {x : α} {K : α → Mu → Prop} : Ev (lft (some x) μ) K ↔ K x μ := Iff.rfl
end
section
variable {K : Fl → Mu → Prop} {μ : Mu} {ρ : Rho} {a b c : Rho → M Fl} {e : Rho → M D}
theorem ev_nxM : Ev (nxM ρ μ) K ↔ K (.nx ρ) μ := Iff.rfl
theorem ev_rtM : Ev (rtM e ρ μ) K ↔ Ev (e ρ μ) fun d μ1 => K (.rt d) μ1 := ev_bd
theorem ev_exM : Ev (exM e ρ μ) K ↔ Ev (e ρ μ) fun d μ1 => K (.nx ρ) μ1 := ev_bd
theorem ev_setM {i : Nat} : Ev (setM e i ρ μ) K ↔ Ev (e ρ μ) fun d μ1 => K (.nx (ρ.set i (some d))) μ1 := ev_bd
def tgK (o : Option Rho) (μ : Mu) (K : Fl → Mu → Prop) : Prop := match o with
  | some ρ => K (.nx ρ) μ
  | none => False
theorem tgK_s : tgK (some ρ) μ K ↔ K (.nx ρ) μ := Iff.rfl
theorem ev_asgM {t : Tg} : Ev (asgM e t ρ μ) K ↔ Ev (e ρ μ) fun d μ1 => tgK (setTg t d ρ) μ1 K := by
  unfold asgM
  rw [ev_bd]
  have q : ∀ d μ1, Ev (bd (lft (setTg t d ρ)) (fun ρ' => rt (.nx ρ')) μ1) K ↔ tgK (setTg t d ρ) μ1 K := fun d μ1 => by
    rw [ev_bd]
    cases setTg t d ρ <;> exact Iff.rfl
  exact ⟨fun h => ev_imp h fun d μ1 z => (q d μ1).mp z, fun h => ev_imp h fun d μ1 z => (q d μ1).mpr z⟩
theorem ev_putM {o i v : Rho → M D} : Ev (putM o i v ρ μ) K ↔ Ev (v ρ μ) fun x μ1 => Ev (o ρ μ1) fun d μ2 => Ev (i ρ μ2) fun e μ3 => Ev (putD d e x μ3) fun _ μ4 => K (.nx ρ) μ4 := by
  unfold putM
  rw [ev_bd]
  exact ⟨fun h => ev_imp h fun x μ1 q => ev_imp (ev_bd.mp q) fun y μ2 q => ev_imp (ev_bd.mp q) fun z μ3 q => ev_bd.mp q,
    fun h => ev_imp h fun x μ1 q => ev_bd.mpr (ev_imp q fun y μ2 q => ev_bd.mpr (ev_imp q fun z μ3 q => ev_bd.mpr q))⟩
/-- the rest behind a statement -/
def thenK (b : Rho → M Fl) (K : Fl → Mu → Prop) : Fl → Mu → Prop := fun f μ => match f with
  | .nx ρ => Ev (b ρ μ) K
  | f => K f μ
theorem thenK_nx : thenK b K (.nx ρ) μ ↔ Ev (b ρ μ) K := Iff.rfl
theorem thenK_rt {d : D} : thenK b K (.rt d) μ ↔ K (.rt d) μ := Iff.rfl
theorem thenK_bk : thenK b K (.bk ρ) μ ↔ K (.bk ρ) μ := Iff.rfl
theorem thenK_ct : thenK b K (.ct ρ) μ ↔ K (.ct ρ) μ := Iff.rfl
theorem ev_sqM : Ev (sqM a b ρ μ) K ↔ Ev (a ρ μ) (thenK b K) := by
  unfold sqM seqS
  rw [ev_bd]
  exact ⟨fun h => ev_imp h fun f μ1 q => by cases f <;> exact q, fun h => ev_imp h fun f μ1 q => by cases f <;> exact q⟩
theorem ev_foM {i : Rho → M (List D)} {t : Tg} : Ev (foM i t a ρ μ) K ↔ Ev (i ρ μ) fun ds μ1 => Ev (forD t a ds ρ μ1) K := ev_bd
def outK (K : D → Mu → Prop) : Fl → Mu → Prop := fun f μ => match f with
  | .rt d => K d μ
  | .nx _ => K .non μ
  | _ => False
theorem outK_rt {K : D → Mu → Prop} {d : D} : outK K (.rt d) μ ↔ K d μ := Iff.rfl
theorem outK_nx {K : D → Mu → Prop} : outK K (.nx ρ) μ ↔ K .non μ := Iff.rfl
theorem ev_out {m : Rho → M Fl} {n : Nat} {ds : List D} {K : D → Mu → Prop} : Ev (outD m n ds μ) K ↔ Ev (m (startD n ds) μ) (outK K) := by
  unfold outD
  rw [ev_bd]
  exact ⟨fun h => ev_imp h fun f μ1 q => by cases f <;> exact q, fun h => ev_imp h fun f μ1 q => by cases f <;> exact q⟩
end
/-! operations at ints -/
section
variable {μ : Mu} {K : D → Mu → Prop} {i j : Int}
theorem ev_add : Ev (addD (.int i) (.int j) μ) K ↔ K (.int (i + j)) μ := Iff.rfl
theorem ev_sub : Ev (subD (.int i) (.int j) μ) K ↔ K (.int (i - j)) μ := Iff.rfl
theorem ev_mul : Ev (mulD (.int i) (.int j) μ) K ↔ mulOk i j = true ∧ K (.int (i * j)) μ := by
  show Ev ((if mulOk i j then intV (i * j) else stk) μ) K ↔ _
  by_cases c : mulOk i j = true
  · rw [if_pos c]; exact ⟨fun h => ⟨c, h⟩, fun h => h.2⟩
  · rw [if_neg c]; exact ⟨fun h => h.elim, fun h => (c h.1).elim⟩
theorem ev_fdiv : Ev (fdivD (.int i) (.int j) μ) K ↔ divOk j = true ∧ K (.int (i.fdiv j)) μ := by
  show Ev ((if divOk j then intV (i.fdiv j) else stk) μ) K ↔ _
  by_cases c : divOk j = true
  · rw [if_pos c]; exact ⟨fun h => ⟨c, h⟩, fun h => h.2⟩
  · rw [if_neg c]; exact ⟨fun h => h.elim, fun h => (c h.1).elim⟩
theorem ev_mod : Ev (modD (.int i) (.int j) μ) K ↔ j ≠ 0 ∧ K (.int (i.fmod j)) μ := by
  show Ev ((if j ≠ 0 then intV (i.fmod j) else stk) μ) K ↔ _
  by_cases c : j ≠ 0
  · rw [if_pos c]; exact ⟨fun h => ⟨c, h⟩, fun h => h.2⟩
  · rw [if_neg c]; exact ⟨fun h => h.elim, fun h => (c h.1).elim⟩
theorem ev_pow : Ev (powD (.int i) (.int j) μ) K ↔ powOk i j = true ∧ K (.int (i ^ j.toNat)) μ := by
  show Ev ((if powOk i j then intV (i ^ j.toNat) else stk) μ) K ↔ _
  by_cases c : powOk i j = true
  · rw [if_pos c]; exact ⟨fun h => ⟨c, h⟩, fun h => h.2⟩
  · rw [if_neg c]; exact ⟨fun h => h.elim, fun h => (c h.1).elim⟩
theorem ev_neg : Ev (negD (.int i) μ) K ↔ K (.int (-i)) μ := Iff.rfl
theorem ev_eqI : Ev (eqD (.int i) (.int j) μ) K ↔ K (.bl (decide (i = j))) μ := Iff.rfl
theorem ev_neI : Ev (neD (.int i) (.int j) μ) K ↔ K (.bl (!decide (i = j))) μ := Iff.rfl
theorem ev_lt : Ev (ltD (.int i) (.int j) μ) K ↔ K (.bl (decide (i < j))) μ := Iff.rfl
theorem ev_le : Ev (leD (.int i) (.int j) μ) K ↔ K (.bl (decide (i ≤ j))) μ := Iff.rfl
theorem ev_gt : Ev (gtD (.int i) (.int j) μ) K ↔ K (.bl (decide (j < i))) μ := Iff.rfl
theorem ev_ge : Ev (geD (.int i) (.int j) μ) K ↔ K (.bl (decide (j ≤ i))) μ := Iff.rfl
theorem ev_gcd : Ev (gcdF [.int i, .int j] μ) K ↔ K (.int ((Nat.gcd i.natAbs j.natAbs : Nat) : Int)) μ := Iff.rfl
theorem ev_absI : Ev (absF [.int i] μ) K ↔ K (.int (if i < 0 then -i else i)) μ := Iff.rfl
theorem ev_maxI : Ev (maxF [.int i, .int j] μ) K ↔ K (.int (if j > i then j else i)) μ := Iff.rfl
theorem ev_minI : Ev (minF [.int i, .int j] μ) K ↔ K (.int (if j < i then j else i)) μ := Iff.rfl
theorem ev_intI : Ev (intF [.int i] μ) K ↔ K (.int i) μ := Iff.rfl
theorem ev_intB {b : Bool} : Ev (intF [.bl b] μ) K ↔ K (.int (if b then 1 else 0)) μ := Iff.rfl
theorem ev_tupT {xs : List D} : Ev (tupF [.tup xs] μ) K ↔ K (.tup xs) μ := Iff.rfl
theorem ev_tupL {xs : List D} : Ev (tupF [.lst xs] μ) K ↔ K (.tup xs) μ := Iff.rfl
theorem ev_lstT {xs : List D} : Ev (lstF [.tup xs] μ) K ↔ K (.lst xs) μ := Iff.rfl
theorem ev_lstL {xs : List D} : Ev (lstF [.lst xs] μ) K ↔ K (.lst xs) μ := Iff.rfl
theorem ev_lenT {xs : List D} : Ev (lenF [.tup xs] μ) K ↔ K (.int (xs.length : Nat)) μ := Iff.rfl
theorem ev_lenL {xs : List D} : Ev (lenF [.lst xs] μ) K ↔ K (.int (xs.length : Nat)) μ := Iff.rfl
theorem ev_sumL {ns : List Int} : Ev (sumF [.lst (ns.map D.int)] μ) K ↔ K (.int ns.sum) μ := by
  have e : sumF [.lst (ns.map D.int)] μ = .ok (.int ns.sum) μ := by
    show (match (asL μ (.lst (ns.map D.int))).bind asInts with
      | some ns => intV ns.sum μ
      | none => .no) = _
    show (match asInts (ns.map D.int) with
      | some ns => intV ns.sum μ
      | none => .no) = _
    rw [asInts_map]
    rfl
  rw [e]
  exact Iff.rfl
theorem ev_catL {xs ys : List D} : Ev (addD (.lst xs) (.lst ys) μ) K ↔ xs.length + ys.length ≤ 1000000 ∧ K (.lst (xs ++ ys)) μ := by
  show Ev (catL xs ys μ) K ↔ _
  unfold catL
  by_cases c : xs.length + ys.length ≤ 1000000
  · rw [if_pos c]; exact ⟨fun h => ⟨c, h⟩, fun h => h.2⟩
  · rw [if_neg c]; exact ⟨fun h => h.elim, fun h => (c h.1).elim⟩
theorem ev_catT {xs ys : List D} : Ev (addD (.tup xs) (.tup ys) μ) K ↔ xs.length + ys.length ≤ 1000000 ∧ K (.tup (xs ++ ys)) μ := by
  show Ev (catT xs ys μ) K ↔ _
  unfold catT
  by_cases c : xs.length + ys.length ≤ 1000000
  · rw [if_pos c]; exact ⟨fun h => ⟨c, h⟩, fun h => h.2⟩
  · rw [if_neg c]; exact ⟨fun h => h.elim, fun h => (c h.1).elim⟩
theorem ev_ixT {xs : List D} : Ev (ixD (.tup xs) (.int i) μ) K ↔ Ev (lft (atI xs i) μ) K := Iff.rfl
theorem ev_ixL {xs : List D} : Ev (ixD (.lst xs) (.int i) μ) K ↔ Ev (lft (atI xs i) μ) K := Iff.rfl
theorem ev_slT {xs : List D} {lo hi : Option Int} : Ev (slD (.tup xs) lo hi μ) K ↔ K (.tup (cutD xs lo hi)) μ := Iff.rfl
theorem ev_slL {xs : List D} {lo hi : Option Int} : Ev (slD (.lst xs) lo hi μ) K ↔ K (.lst (cutD xs lo hi)) μ := Iff.rfl
theorem ev_isN {d : D} : Ev (isD d .non μ) K ↔ Ev (lft ((isNonB d).map D.bl) μ) K := Iff.rfl
theorem ev_isNotN {d : D} : Ev (isNotD d .non μ) K ↔ Ev (lft ((isNonB d).map fun b => D.bl (!b)) μ) K := Iff.rfl
end
end PX
namespace PX
open PySem L2
/-! ### 34. loops and comprehensions at plain data -/
section
variable {t : Tg} {b : Rho → M Fl} {μ : Mu} {ρ : Rho} {ds : List D}
/-- what a turn's end comes to -/
def turnK (P : Rho → Mu → Prop) (K : Fl → Mu → Prop) : Fl → Mu → Prop := fun f μ => match f with
  | .nx ρ => P ρ μ
  | .ct ρ => P ρ μ
  | .bk ρ => K (.nx ρ) μ
  | .rt d => K (.rt d) μ
section
variable {P : Rho → Mu → Prop} {K : Fl → Mu → Prop}
theorem turnK_nx : turnK P K (.nx ρ) μ ↔ P ρ μ := Iff.rfl
theorem turnK_ct : turnK P K (.ct ρ) μ ↔ P ρ μ := Iff.rfl
theorem turnK_bk : turnK P K (.bk ρ) μ ↔ K (.nx ρ) μ := Iff.rfl
theorem turnK_rt {d : D} : turnK P K (.rt d) μ ↔ K (.rt d) μ := Iff.rfl
end
theorem ev_for {K : Fl → Mu → Prop} (P : List D → Rho → Mu → Prop) (step : ∀ d rest ρ μ, P (d :: rest) ρ μ → ∃ ρ1, setTg t d ρ = some ρ1 ∧ Ev (b ρ1 μ) (turnK (P rest) K)) (fin : ∀ ρ μ, P [] ρ μ → K (.nx ρ) μ) :
    ∀ (ds : List D) (ρ : Rho) (μ : Mu), P ds ρ μ → Ev (forD t b ds ρ μ) K
  | [], ρ, μ, h => fin ρ μ h
  | d :: ds, ρ, μ, h => by
    obtain ⟨ρ1, e, q⟩ := step d ds ρ μ h
    show Ev (bd (lft (setTg t d ρ)) (fun ρ1 => bd (b ρ1) fun f => match f with
      | .nx ρ2 => forD t b ds ρ2
      | .ct ρ2 => forD t b ds ρ2
      | .bk ρ2 => rt (.nx ρ2)
      | .rt d => rt (.rt d)) μ) K
    rw [ev_bd, e]
    refine ev_bd.mpr (ev_imp q fun f μ' z => ?_)
    cases f with
    | nx ρ2 => exact ev_for P step fin ds ρ2 μ' z
    | ct ρ2 => exact ev_for P step fin ds ρ2 μ' z
    | bk ρ2 => exact z
    | rt d => exact z
theorem ev_wh {c : Rho → M Bool} {K : Fl → Mu → Prop} (P : Nat → Rho → Mu → Prop) (step : ∀ n ρ μ, P n ρ μ → Ev (c ρ μ) fun k μ1 => if k = true then ∃ m, n = m + 1 ∧ Ev (b ρ μ1) (turnK (P m) K) else K (.nx ρ) μ1) :
    ∀ (n N : Nat) (ρ : Rho) (μ : Mu), n < N → P n ρ μ → Ev (whD c b N ρ μ) K
  | n, 0, ρ, μ, hn, h => absurd hn (Nat.not_lt_zero _)
  | n, N + 1, ρ, μ, hn, h => by
    have q := step n ρ μ h
    show Ev (ifB (c ρ) (bd (b ρ) fun f => match f with
      | .nx ρ2 => whD c b N ρ2
      | .ct ρ2 => whD c b N ρ2
      | .bk ρ2 => rt (.nx ρ2)
      | .rt d => rt (.rt d)) (rt (.nx ρ)) μ) K
    rw [ev_ifB]
    refine ev_imp q fun k μ1 z => ?_
    cases k with
    | false => exact z
    | true =>
      rw [if_pos rfl] at z ⊢
      obtain ⟨m, e, z⟩ := z
      subst e
      refine ev_bd.mpr (ev_imp z fun f μ' w => ?_)
      cases f with
      | nx ρ2 => exact ev_wh P step m N ρ2 μ' (by omega) w
      | ct ρ2 => exact ev_wh P step m N ρ2 μ' (by omega) w
      | bk ρ2 => exact w
      | rt d => exact w
end
section
variable {t : Tg} {mc : Rho → M Bool} {me : Rho → M D} {ρ : Rho}
/-- a state that is kept or changed, item by item -/
theorem ev_lc {K : List D → Mu → Prop} (P : List D → List D → Mu → Prop) (step : ∀ d rest acc μ, P (d :: rest) acc μ → ∃ ρ1, setTg t d ρ = some ρ1 ∧ Ev (mc ρ1 μ) fun c μ1 => if c = true then Ev (me ρ1 μ1) fun y μ2 => P rest (acc ++ [y]) μ2 else P rest acc μ1)
    (fin : ∀ acc μ, P [] acc μ → K acc μ) : ∀ (ds acc : List D) (μ : Mu), P ds acc μ → Ev (lcD t mc me ds ρ μ) fun ys μ' => K (acc ++ ys) μ'
  | [], acc, μ, h => by
    show K (acc ++ []) μ
    rw [List.append_nil]
    exact fin acc μ h
  | d :: ds, acc, μ, h => by
    obtain ⟨ρ1, e, q⟩ := step d ds acc μ h
    show Ev (bd (lft (setTg t d ρ)) (fun ρ1 => bd (mc ρ1) fun b => if b = true then bd (me ρ1) fun y => bd (lcD t mc me ds ρ) fun ys => rt (y :: ys) else lcD t mc me ds ρ) μ) _
    rw [ev_bd, e]
    refine ev_bd.mpr (ev_imp q fun c μ1 z => ?_)
    cases c with
    | true =>
      rw [if_pos rfl] at z ⊢
      refine ev_bd.mpr (ev_imp z fun y μ2 w => ev_bd.mpr ?_)
      refine ev_imp (ev_lc P step fin ds (acc ++ [y]) μ2 w) fun ys μ3 v => ?_
      show K (acc ++ (y :: ys)) μ3
      rw [List.append_cons]
      exact v
    | false => exact ev_lc P step fin ds acc μ1 z
theorem lc_filter (p : D → Bool) (g : D → D) {μ : Mu} : ∀ (ds : List D), (∀ d ∈ ds, ∃ ρ1, setTg t d ρ = some ρ1 ∧ Ev (mc ρ1 μ) (fun c μ' => c = p d ∧ μ' = μ) ∧ (p d = true → Ev (me ρ1 μ) fun y μ' => y = g d ∧ μ' = μ)) → lcD t mc me ds ρ μ = .ok ((ds.filter p).map g) μ
  | [], _ => rfl
  | d :: ds, h => by
    obtain ⟨ρ1, e, q1, q2⟩ := h d List.mem_cons_self
    have ih := lc_filter p g ds fun x hx => h x (List.mem_cons_of_mem _ hx)
    have e1 := ev_eq q1
    refine ev_eq ?_
    show Ev (bd (lft (setTg t d ρ)) (fun ρ1 => bd (mc ρ1) fun b => if b = true then bd (me ρ1) fun y => bd (lcD t mc me ds ρ) fun ys => rt (y :: ys) else lcD t mc me ds ρ) μ) _
    rw [ev_bd, e]
    refine ev_bd.mpr ((ev_of e1).mpr ?_)
    rw [List.filter_cons]
    cases hp : p d with
    | true =>
      rw [if_pos rfl, if_pos rfl]
      refine ev_bd.mpr ((ev_of (ev_eq (q2 hp))).mpr (ev_bd.mpr ((ev_of ih).mpr ⟨rfl, rfl⟩)))
    | false =>
      rw [if_neg Bool.false_ne_true, if_neg Bool.false_ne_true]
      exact (ev_of ih).mpr ⟨rfl, rfl⟩
theorem lc_map (g : D → D) {μ : Mu} {ds : List D} (h : ∀ d ∈ ds, ∃ ρ1, setTg t d ρ = some ρ1 ∧ Ev (me ρ1 μ) fun y μ' => y = g d ∧ μ' = μ) : lcD t (kM true) me ds ρ μ = .ok (ds.map g) μ := by
  have e := lc_filter (t := t) (mc := kM true) (me := me) (ρ := ρ) (fun _ => true) g (μ := μ) ds fun d hd => let ⟨ρ1, e, q⟩ := h d hd; ⟨ρ1, e, ⟨rfl, rfl⟩, fun _ => q⟩
  rw [e]
  congr 2
  exact List.filter_eq_self.mpr fun _ _ => rfl
/-- over ints -/
theorem lc_ints (g : Int → D) {μ : Mu} {ns : List Int} {i : Nat} (h : ∀ n ∈ ns, Ev (me (ρ.set i (some (.int n))) μ) fun y μ' => y = g n ∧ μ' = μ) : lcD (.v i) (kM true) me (ns.map .int) ρ μ = .ok (ns.map g) μ := by
  let g' : D → D := fun d => match d with
    | .int n => g n
    | d => d
  have e := lc_map (t := .v i) (me := me) (ρ := ρ) g' (μ := μ) (ds := ns.map .int) fun d hd => by
    obtain ⟨n, hn, rfl⟩ := List.mem_map.mp hd
    exact ⟨_, rfl, h n hn⟩
  rw [e, List.map_map]
  rfl
def pairD (p : Int × Int) : D := .tup [.int p.1, .int p.2]
theorem zip_ints (xs ys : List Int) : zipD (xs.map .int) (ys.map .int) = (xs.zip ys).map pairD := by
  unfold zipD
  induction xs generalizing ys with
  | nil => rfl
  | cons x xs ih =>
    cases ys with
    | nil => rfl
    | cons y ys =>
      show D.tup [.int x, .int y] :: List.zipWith _ _ _ = pairD (x, y) :: _
      rw [ih ys]
      rfl
theorem lc_pairs (g : Int × Int → D) {μ : Mu} {ps : List (Int × Int)} {i j : Nat} (h : ∀ p ∈ ps, Ev (me ((ρ.set i (some (.int p.1))).set j (some (.int p.2))) μ) fun y μ' => y = g p ∧ μ' = μ) : lcD (.t [i, j]) (kM true) me (ps.map pairD) ρ μ = .ok (ps.map g) μ := by
  let g' : D → D := fun d => match d with
    | .tup [.int a, .int b] => g (a, b)
    | d => d
  have e := lc_map (t := .t [i, j]) (me := me) (ρ := ρ) g' (μ := μ) (ds := ps.map pairD) fun d hd => by
    obtain ⟨p, hp, rfl⟩ := List.mem_map.mp hd
    exact ⟨_, rfl, h p hp⟩
  rw [e, List.map_map]
  rfl
theorem lc_intsI (g : Int → Int) {μ : Mu} {ns : List Int} {i : Nat} (h : ∀ n ∈ ns, Ev (me (ρ.set i (some (.int n))) μ) fun y μ' => y = .int (g n) ∧ μ' = μ) : lcD (.v i) (kM true) me (ns.map .int) ρ μ = .ok ((ns.map g).map .int) μ := by
  rw [lc_ints (fun x => .int (g x)) h, List.map_map]
  rfl
theorem lc_pairsI (g : Int × Int → Int) {μ : Mu} {ps : List (Int × Int)} {i j : Nat} (h : ∀ p ∈ ps, Ev (me ((ρ.set i (some (.int p.1))).set j (some (.int p.2))) μ) fun y μ' => y = .int (g p) ∧ μ' = μ) :
    lcD (.t [i, j]) (kM true) me (ps.map pairD) ρ μ = .ok ((ps.map g).map .int) μ := by
  rw [lc_pairs (fun x => .int (g x)) h, List.map_map]
  rfl
theorem ev_zipTT {xs ys : List Int} {μ : Mu} {K : List D → Mu → Prop} : Ev (zipM [.tup (xs.map .int), .tup (ys.map .int)] μ) K ↔ K ((xs.zip ys).map pairD) μ := by
  show K (zipD (xs.map .int) (ys.map .int)) μ ↔ _
  rw [zip_ints]
theorem ev_zipM {x y : D} {xs ys : List D} {μ : Mu} {K : List D → Mu → Prop} (hx : sqD x = some xs) (hy : sqD y = some ys) : Ev (zipM [x, y] μ) K ↔ K (zipD xs ys) μ := by
  show Ev (lft ((sqD x).bind fun xs => (sqD y).map fun ys => zipD xs ys) μ) K ↔ _
  rw [hx, hy]
  exact Iff.rfl
theorem ev_enumT {xs : List D} {μ : Mu} {K : List D → Mu → Prop} : Ev (enumM [.tup xs] μ) K ↔ K (enumD 0 xs) μ := Iff.rfl
theorem ev_enumL {xs : List D} {μ : Mu} {K : List D → Mu → Prop} : Ev (enumM [.lst xs] μ) K ↔ K (enumD 0 xs) μ := Iff.rfl
end
/-! places -/
theorem at_last {α : Type} (xs : List α) (x : α) : atI (xs ++ [x]) (-1) = some x := by
  unfold atI ixN
  rw [if_neg (by decide), if_pos (by simp; omega)]
  simp only [Option.bind_some, List.length_append, List.length_cons, List.length_nil]
  have e : (-1 + ((xs.length + (0 + 1) : Nat) : Int)).toNat = xs.length := by omega
  rw [e]
  simp
theorem at_nat {α : Type} {xs : List α} {k : Nat} {x : α} (h : xs[k]? = some x) : atI xs (k : Int) = some x := by
  have hk : k < xs.length := (List.getElem?_eq_some_iff.mp h).1
  unfold atI ixN
  rw [if_pos (by omega), if_pos (by omega)]
  simp only [Option.bind_some, Int.toNat_natCast]
  exact h
theorem cut_init (xs : List D) : cutD xs none (some (-1)) = xs.dropLast := by
  unfold cutD
  have e : HT.sIx xs.length 0 none = 0 := rfl
  have e2 : HT.sIx xs.length xs.length (some (-1)) = xs.length - 1 := by
    show (if (-1 : Int) < 0 then (-1 + (xs.length : Int)).toNat else min (-1 : Int).toNat xs.length) = _
    rw [if_pos (by decide)]
    omega
  rw [e, e2, List.dropLast_eq_take]
  simp
theorem cut_last (xs : List D) (x : D) : cutD (xs ++ [x]) (some (-1)) none = [x] := by
  unfold cutD
  have e : HT.sIx (xs ++ [x]).length 0 (some (-1)) = xs.length := by
    show (if (-1 : Int) < 0 then (-1 + ((xs ++ [x]).length : Int)).toNat else min (-1 : Int).toNat (xs ++ [x]).length) = _
    rw [if_pos (by decide), List.length_append]
    simp
    omega
  have e2 : HT.sIx (xs ++ [x]).length (xs ++ [x]).length none = xs.length + 1 := by
    show (xs ++ [x]).length = _
    simp
  rw [e, e2]
  simp
/-! comparing by repr -/
theorem ev_rep {d : D} {μ : Mu} {K : D → Mu → Prop} (h : repOk (pdm μ d) = true) : Ev (repF [d] μ) K ↔ K (.str (pdm μ d).shown) μ := by
  show Ev (if repOk (pdm μ d) = true then .ok (.str (pdm μ d).shown) μ else .no) K ↔ _
  rw [if_pos h]
  exact Iff.rfl
theorem ev_eqS {x y : Str} {μ : Mu} {K : D → Mu → Prop} : Ev (eqD (.str x) (.str y) μ) K ↔ K (.bl (decide (x = y))) μ := Iff.rfl
/-- data that repr may be asked for: short lists and tuples, k deep, of numbers that are not too long -/
def fit : Nat → D → Prop
  | _, .non => True
  | _, .bl _ => True
  | _, .int i => i.natAbs.log2 < 1920
  | k + 1, .lst xs => xs.length ≤ 18 ∧ ∀ x ∈ xs, fit k x
  | k + 1, .tup xs => xs.length ≤ 18 ∧ ∀ x ∈ xs, fit k x
  | _, _ => False
def nb : Nat → Nat
  | 0 => 0
  | k + 1 => 18 * (nb k + 1)
theorem fit_all (k : Nat) (ih : ∀ d, fit k d → d.pd.canLay0 = true ∧ d.pd.showable = true ∧ d.pd.depth ≤ k ∧ nodes d.pd ≤ nb k) : ∀ xs : List D, (∀ x ∈ xs, fit k x) →
    PyData.canLayAll0 (D.pds xs) = true ∧ PyData.showableAll (D.pds xs) = true ∧ PyData.depthAll (D.pds xs) ≤ k ∧ nodesAll (D.pds xs) ≤ xs.length * (nb k + 1)
  | [], _ => ⟨rfl, rfl, Nat.zero_le _, Nat.zero_le _⟩
  | x :: xs, h => by
    obtain ⟨a1, a2, a3, a4⟩ := ih x (h x List.mem_cons_self)
    obtain ⟨b1, b2, b3, b4⟩ := fit_all k ih xs fun y hy => h y (List.mem_cons_of_mem _ hy)
    refine ⟨?_, ?_, ?_, ?_⟩
    · show (x.pd.canLay0 && PyData.canLayAll0 (D.pds xs)) = true
      rw [a1, b1]; rfl
    · show (x.pd.showable && PyData.showableAll (D.pds xs)) = true
      rw [a2, b2]; rfl
    · show max x.pd.depth (PyData.depthAll (D.pds xs)) ≤ k
      omega
    · show nodes x.pd + 1 + nodesAll (D.pds xs) ≤ (xs.length + 1) * (nb k + 1)
      rw [Nat.succ_mul]
      omega
theorem fit_pd : ∀ (k : Nat) (d : D), fit k d → d.pd.canLay0 = true ∧ d.pd.showable = true ∧ d.pd.depth ≤ k ∧ nodes d.pd ≤ nb k := by
  intro k
  induction k with
  | zero =>
    intro d h
    cases d with
    | non => exact ⟨rfl, rfl, Nat.zero_le _, Nat.zero_le _⟩
    | bl b => exact ⟨rfl, rfl, Nat.zero_le _, Nat.zero_le _⟩
    | int i => exact ⟨rfl, decide_eq_true h, Nat.zero_le _, Nat.zero_le _⟩
    | _ => exact h.elim
  | succ k ih =>
    intro d h
    have gen : ∀ xs : List D, (xs.length ≤ 18 ∧ ∀ x ∈ xs, fit k x) → PyData.canLayAll0 (D.pds xs) = true ∧ PyData.showableAll (D.pds xs) = true ∧ PyData.depthAll (D.pds xs) ≤ k ∧ nodesAll (D.pds xs) ≤ nb (k + 1) := fun xs hx => by
      obtain ⟨b1, b2, b3, b4⟩ := fit_all k ih xs hx.2
      exact ⟨b1, b2, b3, Nat.le_trans b4 (Nat.mul_le_mul_right _ hx.1)⟩
    cases d with
    | non => exact ⟨rfl, rfl, Nat.zero_le _, Nat.zero_le _⟩
    | bl b => exact ⟨rfl, rfl, Nat.zero_le _, Nat.zero_le _⟩
    | int i => exact ⟨rfl, decide_eq_true h, Nat.zero_le _, Nat.zero_le _⟩
    | lst xs =>
      obtain ⟨b1, b2, b3, b4⟩ := gen xs h
      exact ⟨b1, b2, Nat.succ_le_succ b3, b4⟩
    | tup xs =>
      obtain ⟨b1, b2, b3, b4⟩ := gen xs h
      exact ⟨b1, b2, Nat.succ_le_succ b3, b4⟩
    | _ => exact h.elim
theorem fit_rep {d : D} {μ : Mu} (h : fit 3 d) : repOk (pdm μ d) = true := by
  have e : pdm μ d = d.pd := by
    cases d with
    | ref n => exact h.elim
    | _ => rfl
  rw [e]
  obtain ⟨h1, h2, h3, h4⟩ := fit_pd 3 d h
  unfold repOk
  rw [h1, h2]
  have n3 : nb 3 = 6174 := rfl
  simp only [Bool.and_eq_true, decide_eq_true_eq, Bool.true_and]
  omega
/-- data that may be compared: lists and tuples, k deep -/
def shp : Nat → D → Prop
  | _, .non => True
  | _, .bl _ => True
  | _, .int _ => True
  | k + 1, .lst xs => ∀ x ∈ xs, shp k x
  | k + 1, .tup xs => ∀ x ∈ xs, shp k x
  | _, _ => False
theorem shp_all (k : Nat) (ih : ∀ d, shp k d → d.pd.canLay0 = true ∧ d.pd.depth ≤ k) : ∀ xs : List D, (∀ x ∈ xs, shp k x) → PyData.canLayAll0 (D.pds xs) = true ∧ PyData.depthAll (D.pds xs) ≤ k
  | [], _ => ⟨rfl, Nat.zero_le _⟩
  | x :: xs, h => by
    obtain ⟨a1, a3⟩ := ih x (h x List.mem_cons_self)
    obtain ⟨b1, b3⟩ := shp_all k ih xs fun y hy => h y (List.mem_cons_of_mem _ hy)
    refine ⟨?_, ?_⟩
    · show (x.pd.canLay0 && PyData.canLayAll0 (D.pds xs)) = true
      rw [a1, b1]; rfl
    · show max x.pd.depth (PyData.depthAll (D.pds xs)) ≤ k
      omega
theorem shp_pd : ∀ (k : Nat) (d : D), shp k d → d.pd.canLay0 = true ∧ d.pd.depth ≤ k := by
  intro k
  induction k with
  | zero =>
    intro d h
    cases d with
    | non => exact ⟨rfl, Nat.zero_le _⟩
    | bl b => exact ⟨rfl, Nat.zero_le _⟩
    | int i => exact ⟨rfl, Nat.zero_le _⟩
    | _ => exact h.elim
  | succ k ih =>
    intro d h
    cases d with
    | non => exact ⟨rfl, Nat.zero_le _⟩
    | bl b => exact ⟨rfl, Nat.zero_le _⟩
    | int i => exact ⟨rfl, Nat.zero_le _⟩
    | lst xs =>
      obtain ⟨b1, b3⟩ := shp_all k ih xs h
      exact ⟨b1, Nat.succ_le_succ b3⟩
    | tup xs =>
      obtain ⟨b1, b3⟩ := shp_all k ih xs h
      exact ⟨b1, Nat.succ_le_succ b3⟩
    | _ => exact h.elim
theorem shp_ok {d : D} {μ : Mu} (h : shp 8 d) : SeqAt.shaped (pdm μ d) = true ∧ pdm μ d = d.pd := by
  have e : pdm μ d = d.pd := by
    cases d with
    | ref n => exact h.elim
    | _ => rfl
  refine ⟨?_, e⟩
  rw [e]
  obtain ⟨h1, h2⟩ := shp_pd 8 d h
  unfold SeqAt.shaped
  rw [h1]
  simp only [Bool.true_and, decide_eq_true_eq]
  omega
theorem shp_ints (ns : List Int) : ∀ x ∈ ns.map D.int, shp 0 x := fun x hx => by
  obtain ⟨n, _, rfl⟩ := List.mem_map.mp hx
  trivial
theorem shp_mono : ∀ {j : Nat} {d : D} (k : Nat), shp j d → j ≤ k → shp k d
  | 0, d, k, h, hk => by
    cases d with
    | non => cases k <;> trivial
    | bl b => cases k <;> trivial
    | int i => cases k <;> trivial
    | _ => exact h.elim
  | j + 1, d, 0, h, hk => absurd hk (by omega)
  | j + 1, d, k + 1, h, hk => by
    cases d with
    | non => trivial
    | bl b => trivial
    | int i => trivial
    | lst xs => exact fun x hx => shp_mono k (h x hx) (by omega)
    | tup xs => exact fun x hx => shp_mono k (h x hx) (by omega)
    | _ => exact h.elim
theorem eqB_q {d e : D} {μ : Mu} {K : Bool → Mu → Prop} (hd : shp 8 d) (he : shp 8 e) (hq : (∃ xs, d = .lst xs) ∨ (∃ xs, d = .tup xs)) : Ev (eqB d e μ) K ↔ K (PyData.eqv d.pd e.pd) μ := by
  obtain ⟨a1, a2⟩ := shp_ok (μ := μ) hd
  obtain ⟨b1, b2⟩ := shp_ok (μ := μ) he
  have e1 : eqB d e μ = if SeqAt.shaped (pdm μ d) && SeqAt.shaped (pdm μ e) then .ok (PyData.eqv (pdm μ d) (pdm μ e)) μ else .no := by
    rcases hq with ⟨xs, rfl⟩ | ⟨xs, rfl⟩ <;> rfl
  rw [e1, a1, b1, a2, b2]
  exact Iff.rfl
theorem eqv_ints : ∀ a b : List Int, PyData.eqvAll (D.pds (a.map D.int)) (D.pds (b.map D.int)) = decide (a = b)
  | [], [] => rfl
  | [], _ :: _ => rfl
  | _ :: _, [] => rfl
  | x :: a, y :: b => by
    show ((x == y) && PyData.eqvAll (D.pds (a.map D.int)) (D.pds (b.map D.int))) = _
    rw [eqv_ints a b]
    by_cases h : x = y
    · subst h; simp
    · simp [h]
theorem ev_neTI {a b : List Int} {μ : Mu} {K : D → Mu → Prop} : Ev (neD (.tup (a.map .int)) (.tup (b.map .int)) μ) K ↔ K (.bl (!decide (a = b))) μ := by
  have q := eqB_q (μ := μ) (K := fun c μ' => K (.bl (!c)) μ') (shp_mono 8 (show shp 1 (.tup (a.map .int)) from shp_ints a) (by decide)) (shp_mono 8 (show shp 1 (.tup (b.map .int)) from shp_ints b) (by decide)) (.inr ⟨_, rfl⟩)
  have e : PyData.eqv (D.pd (.tup (a.map .int))) (D.pd (.tup (b.map .int))) = decide (a = b) := eqv_ints a b
  rw [e] at q
  exact (ev_bd (f := fun b => blV (!b))).trans q
theorem ev_eqTI {a b : List Int} {μ : Mu} {K : D → Mu → Prop} : Ev (eqD (.tup (a.map .int)) (.tup (b.map .int)) μ) K ↔ K (.bl (decide (a = b))) μ := by
  have q := eqB_q (μ := μ) (K := fun c μ' => K (.bl c) μ') (shp_mono 8 (show shp 1 (.tup (a.map .int)) from shp_ints a) (by decide)) (shp_mono 8 (show shp 1 (.tup (b.map .int)) from shp_ints b) (by decide)) (.inr ⟨_, rfl⟩)
  have e : PyData.eqv (D.pd (.tup (a.map .int))) (D.pd (.tup (b.map .int))) = decide (a = b) := eqv_ints a b
  rw [e] at q
  exact (ev_bd (f := blV)).trans q
theorem eqv_none (xs : List D) : PyData.eqv (D.pd (.lst xs)) (D.pd (.lst [])) = xs.isEmpty := by cases xs <;> rfl
theorem ev_neE {xs : List D} {μ : Mu} {K : D → Mu → Prop} (h : shp 8 (.lst xs)) : Ev (neD (.lst xs) (.lst []) μ) K ↔ K (.bl (!xs.isEmpty)) μ := by
  have q := eqB_q (μ := μ) (K := fun c μ' => K (.bl (!c)) μ') h (show shp 8 (.lst []) from fun x hx => (List.not_mem_nil hx).elim) (.inl ⟨_, rfl⟩)
  rw [eqv_none] at q
  exact (ev_bd (f := fun b => blV (!b))).trans q
theorem ev_eqE {xs : List D} {μ : Mu} {K : D → Mu → Prop} (h : shp 8 (.lst xs)) : Ev (eqD (.lst xs) (.lst []) μ) K ↔ K (.bl xs.isEmpty) μ := by
  have q := eqB_q (μ := μ) (K := fun c μ' => K (.bl c) μ') h (show shp 8 (.lst []) from fun x hx => (List.not_mem_nil hx).elim) (.inl ⟨_, rfl⟩)
  rw [eqv_none] at q
  exact (ev_bd (f := blV)).trans q
end PX
namespace PX
/-! ### plain: common divisors -/
def gcdA (a : Nat) : List Int → Nat
  | [] => a
  | x :: r => gcdA (Nat.gcd a x.natAbs) r
def gcdL (ns : List Int) : Nat := gcdA 0 ns
theorem gcdA_eq : ∀ (ns : List Int) (a : Nat), gcdA a ns = Nat.gcd a (gcdA 0 ns)
  | [], a => (Nat.gcd_zero_right a).symm
  | x :: r, a => by
    show gcdA (Nat.gcd a x.natAbs) r = Nat.gcd a (gcdA (Nat.gcd 0 x.natAbs) r)
    rw [gcdA_eq r (Nat.gcd a x.natAbs), gcdA_eq r (Nat.gcd 0 x.natAbs), Nat.gcd_zero_left, Nat.gcd_assoc]
theorem gcdL_cons (x : Int) (r : List Int) : gcdL (x :: r) = Nat.gcd x.natAbs (gcdL r) := by
  show gcdA (Nat.gcd 0 x.natAbs) r = _
  rw [gcdA_eq, Nat.gcd_zero_left]
  rfl
theorem gcdL_dvd : ∀ (ns : List Int) (x : Int), x ∈ ns → gcdL ns ∣ x.natAbs
  | y :: r, x, h => by
    rw [gcdL_cons]
    rcases List.mem_cons.mp h with z | z
    · rw [z]; exact Nat.gcd_dvd_left _ _
    · exact Nat.dvd_trans (Nat.gcd_dvd_right _ _) (gcdL_dvd r x z)
theorem gcdL_great {k : Nat} : ∀ (ns : List Int), (∀ x ∈ ns, k ∣ x.natAbs) → k ∣ gcdL ns
  | [], _ => Nat.dvd_zero k
  | y :: r, h => by
    rw [gcdL_cons]
    exact Nat.dvd_gcd (h y List.mem_cons_self) (gcdL_great r fun x hx => h x (List.mem_cons_of_mem _ hx))
theorem gcdL_zero : ∀ (ns : List Int), gcdL ns = 0 → ∀ x ∈ ns, x = 0
  | y :: r, h, x, hx => by
    rw [gcdL_cons, Nat.gcd_eq_zero_iff] at h
    rcases List.mem_cons.mp hx with z | z
    · rw [z]; exact Int.natAbs_eq_zero.mp h.1
    · exact gcdL_zero r h.2 x z
theorem gcdL_bound {B : Nat} (hB : 0 < B) (ns : List Int) (h : ∀ x ∈ ns, x.natAbs < B) : gcdL ns < B := by
  by_cases z : gcdL ns = 0
  · omega
  · have : ∃ x ∈ ns, x ≠ 0 := by
      refine Classical.byContradiction fun hn => z ?_
      have : ∀ x ∈ ns, (0 : Nat) ∣ x.natAbs := fun x hx => by
        have : x = 0 := Classical.byContradiction fun q => hn ⟨x, hx, q⟩
        rw [this]; exact Nat.dvd_refl 0
      exact Nat.eq_zero_of_zero_dvd (gcdL_great ns this)
    obtain ⟨x, hx, hne⟩ := this
    exact Nat.lt_of_le_of_lt (Nat.le_of_dvd (Int.natAbs_pos.mpr hne) (gcdL_dvd ns x hx)) (h x hx)
theorem gcdL_mul (c : Int) : ∀ ns : List Int, gcdL (ns.map fun x => c * x) = c.natAbs * gcdL ns
  | [] => rfl
  | x :: r => by
    rw [List.map_cons, gcdL_cons, gcdL_mul c r, gcdL_cons, Int.natAbs_mul, Nat.gcd_mul_left]
/-- lowered: divided by the common divisor if that is above 1 -/
def lowL (ns : List Int) : List Int := if gcdL ns < 2 then ns else ns.map fun x => x.fdiv (gcdL ns : Int)
theorem dvd_int {ns : List Int} {x : Int} (h : x ∈ ns) : ((gcdL ns : Nat) : Int) ∣ x := Int.ofNat_dvd_left.mpr (gcdL_dvd ns x h)
theorem fdiv_mul {g x : Int} (hg : 0 < g) (h : g ∣ x) : x.fdiv g * g = x := by
  rw [Int.fdiv_eq_ediv_of_nonneg _ (Int.le_of_lt hg)]
  exact Int.ediv_mul_cancel h
/-- so many times the lowered is the row -/
theorem lowL_scale (ns : List Int) : ∃ g : Int, 0 < g ∧ ns = (lowL ns).map fun x => g * x := by
  unfold lowL
  by_cases h : gcdL ns < 2
  · rw [if_pos h]
    exact ⟨1, by decide, by simp⟩
  · rw [if_neg h]
    have hg : (0 : Int) < (gcdL ns : Int) := by omega
    refine ⟨(gcdL ns : Int), hg, ?_⟩
    rw [List.map_map]
    have : ∀ x ∈ ns, ((fun x => (gcdL ns : Int) * x) ∘ fun x => x.fdiv (gcdL ns : Int)) x = x := fun x hx => by
      show (gcdL ns : Int) * x.fdiv (gcdL ns : Int) = x
      rw [Int.mul_comm]
      exact fdiv_mul hg (dvd_int hx)
    rw [List.map_congr_left this]
    simp
theorem lowL_len (ns : List Int) : (lowL ns).length = ns.length := by
  unfold lowL
  split <;> simp
theorem natAbs_fdiv {x g : Int} (hg : 0 < g) (h : g ∣ x) : (x.fdiv g).natAbs ≤ x.natAbs := by
  have e := fdiv_mul hg h
  have := congrArg Int.natAbs e
  rw [Int.natAbs_mul] at this
  have hp : 0 < g.natAbs := Int.natAbs_pos.mpr (by omega)
  exact Nat.le_trans (Nat.le_mul_of_pos_right _ hp) (Nat.le_of_eq this)
theorem lowL_bound {B : Nat} {ns : List Int} (h : ∀ x ∈ ns, x.natAbs < B) : ∀ x ∈ lowL ns, x.natAbs < B := by
  unfold lowL
  by_cases hg : gcdL ns < 2
  · rw [if_pos hg]; exact h
  · rw [if_neg hg]
    intro x hx
    obtain ⟨y, hy, rfl⟩ := List.mem_map.mp hx
    exact Nat.lt_of_le_of_lt (natAbs_fdiv (by omega) (dvd_int hy)) (h y hy)
/-- the lowered of a row that is not all noughts has the common divisor 1 -/
theorem gcdL_low {ns : List Int} (h : gcdL ns ≠ 0) : gcdL (lowL ns) = 1 := by
  unfold lowL
  by_cases hg : gcdL ns < 2
  · rw [if_pos hg]; omega
  · rw [if_neg hg]
    have hp : (0 : Int) < (gcdL ns : Int) := by omega
    have e : ns = (ns.map fun x => x.fdiv (gcdL ns : Int)).map fun x => (gcdL ns : Int) * x := by
      rw [List.map_map]
      have : ∀ x ∈ ns, ((fun x => (gcdL ns : Int) * x) ∘ fun x => x.fdiv (gcdL ns : Int)) x = x := fun x hx => by
        show (gcdL ns : Int) * x.fdiv (gcdL ns : Int) = x
        rw [Int.mul_comm]
        exact fdiv_mul hp (dvd_int hx)
      rw [List.map_congr_left this]
      simp
    have q := congrArg gcdL e
    rw [gcdL_mul, Int.natAbs_natCast] at q
    have : gcdL ns * 1 = gcdL ns * gcdL (ns.map fun x => x.fdiv (gcdL ns : Int)) := by rw [Nat.mul_one]; exact q
    exact (Nat.eq_of_mul_eq_mul_left (by omega) this).symm
theorem lowL_low (ns : List Int) : lowL (lowL ns) = lowL ns := by
  by_cases h : gcdL ns = 0
  · have e : lowL ns = ns := by unfold lowL; rw [if_pos (by omega)]
    rw [e, e]
  · show (if gcdL (lowL ns) < 2 then lowL ns else _) = _
    rw [if_pos (by rw [gcdL_low h]; decide)]
/-- a row times c -/
theorem lowL_mul {c : Int} (hc : c ≠ 0) (ns : List Int) : lowL (ns.map fun x => c * x) = (lowL ns).map fun x => c.sign * x := by
  obtain hz | hz : gcdL ns = 0 ∨ gcdL ns ≠ 0 := by omega
  · have z := gcdL_zero ns hz
    have e1 : ns.map (fun x => c * x) = ns.map fun x => c.sign * x := List.map_congr_left fun x hx => by rw [z x hx]; simp
    have e2 : lowL ns = ns := by unfold lowL; rw [if_pos (by omega)]
    have e3 : gcdL (ns.map fun x => c * x) = 0 := by rw [gcdL_mul, hz]; simp
    rw [e2, ← e1]
    unfold lowL
    rw [if_pos (by omega)]
  · obtain ⟨g, hg, e⟩ := lowL_scale ns
    have g1 := gcdL_low hz
    have q := congrArg gcdL e
    rw [gcdL_mul, g1, Nat.mul_one] at q
    have hcp : 0 < c.natAbs := Int.natAbs_pos.mpr hc
    have big : gcdL (ns.map fun x => c * x) = c.natAbs * g.natAbs := by rw [gcdL_mul, q]
    have gp : 0 < g.natAbs := Int.natAbs_pos.mpr (by omega)
    have hcs : c = c.sign * (c.natAbs : Int) := by
      rcases Int.lt_trichotomy c 0 with h | h | h
      · rw [Int.sign_eq_neg_one_of_neg h]; omega
      · exact absurd h hc
      · rw [Int.sign_eq_one_of_pos h]; omega
    have key : ∀ x : Int, (c * (g * x)).fdiv ((c.natAbs * g.natAbs : Nat) : Int) = c.sign * x := fun x => by
      have hk : (0 : Int) < ((c.natAbs * g.natAbs : Nat) : Int) := Int.natCast_pos.mpr (Nat.mul_pos hcp gp)
      rw [Int.fdiv_eq_ediv_of_nonneg _ (Int.le_of_lt hk)]
      have e2 : c * (g * x) = (c.sign * x) * ((c.natAbs * g.natAbs : Nat) : Int) := by
        rw [Int.natCast_mul, Int.natAbs_of_nonneg (Int.le_of_lt hg)]
        conv => lhs; rw [hcs]
        simp only [Int.mul_assoc, Int.mul_comm, Int.mul_left_comm]
      rw [e2]
      exact Int.mul_ediv_cancel _ (by omega)
    unfold lowL
    by_cases h1 : gcdL (ns.map fun x => c * x) < 2
    · rw [if_pos h1]
      rw [big] at h1
      have hc1 : c.natAbs = 1 := by
        have : c.natAbs * 1 ≤ c.natAbs * g.natAbs := Nat.mul_le_mul_left _ gp
        omega
      have hg1 : g.natAbs = 1 := by
        rw [hc1, Nat.one_mul] at h1
        omega
      rw [if_pos (by rw [q, hg1]; decide)]
      have : c = c.sign := by rw [hc1] at hcs; simpa using hcs
      exact List.map_congr_left fun x _ => by rw [← this]
    · rw [if_neg h1, List.map_map, big]
      have e0 : (ns.map ((fun x => x.fdiv ((c.natAbs * g.natAbs : Nat) : Int)) ∘ fun x => c * x)) = ((lowL ns).map fun x => g * x).map ((fun x => x.fdiv ((c.natAbs * g.natAbs : Nat) : Int)) ∘ fun x => c * x) := congrArg (List.map _) e
      rw [e0, List.map_map]
      have e1 : ∀ x : Int, (((fun x => x.fdiv ((c.natAbs * g.natAbs : Nat) : Int)) ∘ fun x => c * x) ∘ fun x => g * x) x = c.sign * x := fun x => key x
      rw [List.map_congr_left (fun x _ => e1 x)]
      rfl
/-! ### plain: Euclid's steps -/
/-- n steps are enough from f, r -/
def EuN (n f r : Nat) : Prop := (∃ k, n = 2 * k ∧ r < 2 ^ k) ∨ ∃ k, n = 2 * k + 1 ∧ r < f ∧ f < 2 ^ (k + 1)
theorem eun_step {n f r : Nat} (h : EuN n f r) (hr : r ≠ 0) : ∃ m, n = m + 1 ∧ EuN m r (f % r) := by
  have hp : 0 < r := Nat.pos_of_ne_zero hr
  have hm := Nat.mod_lt f hp
  rcases h with ⟨k, e, hk⟩ | ⟨k, e, h1, h2⟩
  · cases k with
    | zero => simp at hk; exact absurd hk hr
    | succ k => exact ⟨2 * k + 1, by omega, .inr ⟨k, rfl, hm, hk⟩⟩
  · refine ⟨2 * k, by omega, .inl ⟨k, rfl, ?_⟩⟩
    have hd := Nat.div_add_mod f r
    have : 1 ≤ f / r := (Nat.one_le_div_iff hp).mpr (Nat.le_of_lt h1)
    have h3 : r * 1 ≤ r * (f / r) := Nat.mul_le_mul_left _ this
    have h4 : 2 ^ (k + 1) = 2 ^ k * 2 := Nat.pow_succ ..
    omega
end PX
namespace PX
open PySem L2
/-! ### 35. what all laws share: the drawing of numbers -/
def mkd (l s : Int) (cs : List Int) (p : Int) : List (Str × D) := [("left", .int l), ("seed", .int s), ("cells", .lst (cs.map .int)), ("spot", .int p)]
theorem mkd_left {l s p : Int} {cs : List Int} : getS (mkd l s cs p) "left" = some (.int l) := rfl
theorem mkd_seed {l s p : Int} {cs : List Int} : getS (mkd l s cs p) "seed" = some (.int s) := rfl
theorem mkd_cells {l s p : Int} {cs : List Int} : getS (mkd l s cs p) "cells" = some (.lst (cs.map .int)) := rfl
theorem mkd_spot {l s p : Int} {cs : List Int} : getS (mkd l s cs p) "spot" = some (.int p) := rfl
theorem mkd_putL {l s p x : Int} {cs : List Int} : putS (mkd l s cs p) "left" (.int x) = mkd x s cs p := rfl
theorem mkd_putS {l s p x : Int} {cs : List Int} : putS (mkd l s cs p) "spot" (.int x) = mkd l s cs x := rfl
section
variable {μ : Mu} {j : Nat} {kd : List (Str × D)} {k : Str} {d v : D}
theorem ev_ixM {K : D → Mu → Prop} (h : dkAt μ j = some kd) (g : getS kd k = some d) : Ev (ixD (.ref j) (.str k) μ) K ↔ K d μ := by
  show Ev (lft ((dkAt μ j).bind fun kd => getS kd k) μ) K ↔ _
  rw [h]
  show Ev (lft (getS kd k) μ) K ↔ _
  rw [g]
  exact Iff.rfl
theorem ev_putK {K : Unit → Mu → Prop} (h : dkAt μ j = some kd) (hv : v.pure = true) (hl : kd.length < 1000000) : Ev (putD (.ref j) (.str k) v μ) K ↔ K () (μ.set j (.dk (putS kd k v))) := by
  show Ev (match dkAt μ j with
    | some kd => if (v.pure && decide (kd.length < 1000000)) = true then .ok () (μ.set j (.dk (putS kd k v))) else .no
    | none => .no) K ↔ _
  rw [h]
  show Ev (if (v.pure && decide (kd.length < 1000000)) = true then .ok () (μ.set j (.dk (putS kd k v))) else .no) K ↔ _
  rw [if_pos (by simp [hv, hl])]
  exact Iff.rfl
theorem dkAt_set (h : j < μ.length) : dkAt (μ.set j (.dk kd)) j = some kd := by
  unfold dkAt
  rw [List.getElem?_set_self h]
theorem dkAt_lt (h : dkAt μ j = some kd) : j < μ.length := by
  unfold dkAt at h
  by_cases z : j < μ.length
  · exact z
  · rw [List.getElem?_eq_none (by omega)] at h
    cases h
end
/-- only the object at j is changed -/
def Sj (j : Nat) (μ μ' : Mu) : Prop := μ'.length = μ.length ∧ ∀ i, i ≠ j → μ'[i]? = μ[i]?
theorem Sj.refl (j : Nat) (μ : Mu) : Sj j μ μ := ⟨rfl, fun _ _ => rfl⟩
theorem Sj.trans {j : Nat} {μ μ1 μ2 : Mu} (a : Sj j μ μ1) (b : Sj j μ1 μ2) : Sj j μ μ2 := ⟨b.1.trans a.1, fun i h => (b.2 i h).trans (a.2 i h)⟩
theorem Sj.set (j : Nat) (μ : Mu) (o : SO) : Sj j μ (μ.set j o) := ⟨List.length_set .., fun i h => List.getElem?_set_ne (Ne.symm h)⟩
/-- a drawer at j, at most c numbers drawn -/
def MAt (j c : Nat) (μ : Mu) : Prop := ∃ (l s : Int) (cs : List Int) (p : Nat), dkAt μ j = some (mkd l s cs p) ∧ 0 ≤ s ∧ s < 2147483647 ∧ cs ≠ [] ∧ p ≤ c
theorem MAt.le {j c c' : Nat} {μ : Mu} (h : MAt j c μ) (hc : c ≤ c') : MAt j c' μ := let ⟨l, s, cs, p, a, b, d, e, f⟩ := h; ⟨l, s, cs, p, a, b, d, e, Nat.le_trans f hc⟩
theorem mul64 {i j : Int} (h : j.natAbs < 2 ^ 64) : mulOk i j = true := by unfold mulOk; simp [h]
theorem mul64l {i j : Int} (h : i.natAbs < 2 ^ 64) : mulOk i j = true := by unfold mulOk; simp [h]
theorem div64 {b : Int} (h : 0 < b) (h2 : b.natAbs < 2 ^ 64) : divOk b = true := by
  unfold divOk
  have : b.natAbs.log2 < 64 := (Nat.log2_lt (by omega)).mpr h2
  simp only [Bool.and_eq_true, decide_eq_true_eq]
  omega
def drawB : List D → M D := outD (sqM (ifM (tvM (op2 (op2 (gV 0) (kM (.str "left")) ixD) (kM (.int 0)) gtD)) (sqM (setM (op2 (appM intF [(op2 (gV 0) (kM (.str "left")) ixD)]) (gV 1) modD) 5) (sqM (putM (gV 0) (kM (.str "left")) (op2 (op2 (gV 0) (kM (.str "left")) ixD) (gV 1) fdivD)) (sqM (rtM (gV 5)) nxM))) nxM) (sqM (setM (op2 (gV 0) (kM (.str "spot")) ixD) 2) (sqM (putM (gV 0) (kM (.str "spot")) (op2 (gV 2) (kM (.int 1)) addD)) (sqM (asgM (appM mkT [(op2 (gV 0) (kM (.str "cells")) ixD), (op2 (op2 (gV 0) (kM (.str "seed")) ixD) (op2 (op2 (kM (.int 40503)) (gV 2) mulD) (gV 2) mulD) addD)]) (.t [6, 7])) (sqM (setM (op2 (gV 6) (op2 (appM intF [(gV 2)]) (appM lenF [(gV 6)]) modD) ixD) 3) (sqM (setM (op2 (appM intF [(op2 (op2 (gV 3) (op2 (op2 (kM (.int 2)) (gV 2) mulD) (kM (.int 3)) addD) mulD) (gV 7) addD)]) (kM (.int 2147483647)) modD) 4) (sqM (setM (op2 (appM intF [(op2 (op2 (op2 (gV 4) (gV 4) mulD) (op2 (kM (.int 69621)) (gV 2) mulD) addD) (op2 (gV 0) (kM (.str "seed")) ixD) addD)]) (kM (.int 2147483629)) modD) 4) (sqM (rtM (op2 (op2 (op2 (appM intF [(op2 (op2 (gV 4) (kM (.int 48271)) mulD) (gV 2) addD)]) (kM (.int 2147483647)) modD) (kM (.int 11)) fdivD) (gV 1) modD)) nxM)))))))) 8
theorem fmod_range {i b : Int} (h : 0 < b) : 0 ≤ i.fmod b ∧ i.fmod b < b := by
  rw [Int.fmod_eq_emod_of_nonneg _ (Int.le_of_lt h)]
  exact ⟨Int.emod_nonneg _ (by omega), Int.emod_lt_of_pos _ h⟩
theorem draw_ok {j c : Nat} {μ : Mu} {b : Int} (h : MAt j c μ) (hc : c < 2 ^ 60) (hb : 0 < b) (hb2 : b < 2 ^ 60) : Ev (drawB [.ref j, .int b] μ) fun d μ' => ∃ r : Int, d = .int r ∧ 0 ≤ r ∧ r < b ∧ Sj j μ μ' ∧ MAt j (c + 1) μ' := by
  obtain ⟨l, s, cs, p, hm, hs0, hs1, hcs, hp⟩ := h
  have hj := dkAt_lt hm
  have b0 : b ≠ 0 := by omega
  have b64 : b.natAbs < 2 ^ 64 := by omega
  unfold drawB
  simp only [↓ev_out, ↓ev_sqM, ↓ev_foM, ↓ev_setM, ↓ev_asgM, ↓ev_putM, ↓ev_ifM, ↓ev_tvM, ↓ev_tnM, ↓ev_taM, ↓ev_toM, ↓ev_op2, ↓ev_gV, ↓ev_kM, ↓ev_rtM, ↓ev_exM, ↓ev_neM, ↓ev_notM, ↓ev_andM, ↓ev_orM, ↓ev_nxM, ↓ev_app, ↓ev_nil, ↓ev_cons, ↓ev_callF, ↓ev_callM, ↓ev_slM, ↓ev_ptM, ↓ev_asI, ↓ev_seM, ↓ev_itL, ↓ev_itT, ↓ev_mkT, ↓ev_mkL, ↓ev_lcM, ↓ev_dispM, ↓ev_lft, ↓thenK_nx, ↓thenK_rt, ↓thenK_bk, ↓thenK_ct, ↓tgK_s, ↓outK_rt, ↓outK_nx, ↓vK_s, ↓turnK_nx, ↓turnK_rt, ↓turnK_bk, ↓turnK_ct, ↓ev_asB, ↓ev_add, ↓ev_sub, ↓ev_mul, ↓ev_fdiv, ↓ev_mod, ↓ev_pow, ↓ev_neg, ↓ev_eqI, ↓ev_neI, ↓ev_lt, ↓ev_le, ↓ev_gt, ↓ev_ge, ↓ev_gcd, ↓ev_absI, ↓ev_maxI, ↓ev_minI, ↓ev_intI, ↓ev_intB, ↓ev_tupT, ↓ev_tupL, ↓ev_lstT, ↓ev_lstL, ↓ev_lenT, ↓ev_lenL, ↓ev_catL, ↓ev_catT, ↓ev_ixT, ↓ev_ixL, ↓ev_slT, ↓ev_slL, ↓ev_isN, ↓ev_isNotN, ↓ev_zipTT, ↓ev_enumT, ↓ev_enumL, ↓ev_eqS, startD, pick, setTg, setAll, wipeD, List.map_cons, List.map_nil, List.length_cons, List.length_nil, List.cons_append, List.nil_append, List.getElem?_cons_zero, List.getElem?_cons_succ, List.set_cons_zero, List.set_cons_succ, List.replicate_succ, List.replicate_zero, List.filterMap_cons, List.filterMap_nil, Nat.reduceAdd, Nat.reduceSub, Nat.reduceLeDiff, and_self, if_true, decide_eq_true_eq, true_and, and_true, List.set_nil, List.length_set]
  refine (ev_ixM hm mkd_left).mpr ?_
  simp only [↓ev_out, ↓ev_sqM, ↓ev_foM, ↓ev_setM, ↓ev_asgM, ↓ev_putM, ↓ev_ifM, ↓ev_tvM, ↓ev_tnM, ↓ev_taM, ↓ev_toM, ↓ev_op2, ↓ev_gV, ↓ev_kM, ↓ev_rtM, ↓ev_exM, ↓ev_neM, ↓ev_notM, ↓ev_andM, ↓ev_orM, ↓ev_nxM, ↓ev_app, ↓ev_nil, ↓ev_cons, ↓ev_callF, ↓ev_callM, ↓ev_slM, ↓ev_ptM, ↓ev_asI, ↓ev_seM, ↓ev_itL, ↓ev_itT, ↓ev_mkT, ↓ev_mkL, ↓ev_lcM, ↓ev_dispM, ↓ev_lft, ↓thenK_nx, ↓thenK_rt, ↓thenK_bk, ↓thenK_ct, ↓tgK_s, ↓outK_rt, ↓outK_nx, ↓vK_s, ↓turnK_nx, ↓turnK_rt, ↓turnK_bk, ↓turnK_ct, ↓ev_asB, ↓ev_add, ↓ev_sub, ↓ev_mul, ↓ev_fdiv, ↓ev_mod, ↓ev_pow, ↓ev_neg, ↓ev_eqI, ↓ev_neI, ↓ev_lt, ↓ev_le, ↓ev_gt, ↓ev_ge, ↓ev_gcd, ↓ev_absI, ↓ev_maxI, ↓ev_minI, ↓ev_intI, ↓ev_intB, ↓ev_tupT, ↓ev_tupL, ↓ev_lstT, ↓ev_lstL, ↓ev_lenT, ↓ev_lenL, ↓ev_catL, ↓ev_catT, ↓ev_ixT, ↓ev_ixL, ↓ev_slT, ↓ev_slL, ↓ev_isN, ↓ev_isNotN, ↓ev_zipTT, ↓ev_enumT, ↓ev_enumL, ↓ev_eqS, startD, pick, setTg, setAll, wipeD, List.map_cons, List.map_nil, List.length_cons, List.length_nil, List.cons_append, List.nil_append, List.getElem?_cons_zero, List.getElem?_cons_succ, List.set_cons_zero, List.set_cons_succ, List.replicate_succ, List.replicate_zero, List.filterMap_cons, List.filterMap_nil, Nat.reduceAdd, Nat.reduceSub, Nat.reduceLeDiff, and_self, if_true, decide_eq_true_eq, true_and, and_true, List.set_nil, List.length_set]
  by_cases hl : 0 < l
  · rw [if_pos hl]
    refine (ev_ixM hm mkd_left).mpr ?_
    simp only [↓ev_out, ↓ev_sqM, ↓ev_foM, ↓ev_setM, ↓ev_asgM, ↓ev_putM, ↓ev_ifM, ↓ev_tvM, ↓ev_tnM, ↓ev_taM, ↓ev_toM, ↓ev_op2, ↓ev_gV, ↓ev_kM, ↓ev_rtM, ↓ev_exM, ↓ev_neM, ↓ev_notM, ↓ev_andM, ↓ev_orM, ↓ev_nxM, ↓ev_app, ↓ev_nil, ↓ev_cons, ↓ev_callF, ↓ev_callM, ↓ev_slM, ↓ev_ptM, ↓ev_asI, ↓ev_seM, ↓ev_itL, ↓ev_itT, ↓ev_mkT, ↓ev_mkL, ↓ev_lcM, ↓ev_dispM, ↓ev_lft, ↓thenK_nx, ↓thenK_rt, ↓thenK_bk, ↓thenK_ct, ↓tgK_s, ↓outK_rt, ↓outK_nx, ↓vK_s, ↓turnK_nx, ↓turnK_rt, ↓turnK_bk, ↓turnK_ct, ↓ev_asB, ↓ev_add, ↓ev_sub, ↓ev_mul, ↓ev_fdiv, ↓ev_mod, ↓ev_pow, ↓ev_neg, ↓ev_eqI, ↓ev_neI, ↓ev_lt, ↓ev_le, ↓ev_gt, ↓ev_ge, ↓ev_gcd, ↓ev_absI, ↓ev_maxI, ↓ev_minI, ↓ev_intI, ↓ev_intB, ↓ev_tupT, ↓ev_tupL, ↓ev_lstT, ↓ev_lstL, ↓ev_lenT, ↓ev_lenL, ↓ev_catL, ↓ev_catT, ↓ev_ixT, ↓ev_ixL, ↓ev_slT, ↓ev_slL, ↓ev_isN, ↓ev_isNotN, ↓ev_zipTT, ↓ev_enumT, ↓ev_enumL, ↓ev_eqS, startD, pick, setTg, setAll, wipeD, List.map_cons, List.map_nil, List.length_cons, List.length_nil, List.cons_append, List.nil_append, List.getElem?_cons_zero, List.getElem?_cons_succ, List.set_cons_zero, List.set_cons_succ, List.replicate_succ, List.replicate_zero, List.filterMap_cons, List.filterMap_nil, Nat.reduceAdd, Nat.reduceSub, Nat.reduceLeDiff, and_self, if_true, decide_eq_true_eq, true_and, and_true, List.set_nil, List.length_set]
    refine ⟨b0, (ev_ixM hm mkd_left).mpr ?_⟩
    simp only [↓ev_out, ↓ev_sqM, ↓ev_foM, ↓ev_setM, ↓ev_asgM, ↓ev_putM, ↓ev_ifM, ↓ev_tvM, ↓ev_tnM, ↓ev_taM, ↓ev_toM, ↓ev_op2, ↓ev_gV, ↓ev_kM, ↓ev_rtM, ↓ev_exM, ↓ev_neM, ↓ev_notM, ↓ev_andM, ↓ev_orM, ↓ev_nxM, ↓ev_app, ↓ev_nil, ↓ev_cons, ↓ev_callF, ↓ev_callM, ↓ev_slM, ↓ev_ptM, ↓ev_asI, ↓ev_seM, ↓ev_itL, ↓ev_itT, ↓ev_mkT, ↓ev_mkL, ↓ev_lcM, ↓ev_dispM, ↓ev_lft, ↓thenK_nx, ↓thenK_rt, ↓thenK_bk, ↓thenK_ct, ↓tgK_s, ↓outK_rt, ↓outK_nx, ↓vK_s, ↓turnK_nx, ↓turnK_rt, ↓turnK_bk, ↓turnK_ct, ↓ev_asB, ↓ev_add, ↓ev_sub, ↓ev_mul, ↓ev_fdiv, ↓ev_mod, ↓ev_pow, ↓ev_neg, ↓ev_eqI, ↓ev_neI, ↓ev_lt, ↓ev_le, ↓ev_gt, ↓ev_ge, ↓ev_gcd, ↓ev_absI, ↓ev_maxI, ↓ev_minI, ↓ev_intI, ↓ev_intB, ↓ev_tupT, ↓ev_tupL, ↓ev_lstT, ↓ev_lstL, ↓ev_lenT, ↓ev_lenL, ↓ev_catL, ↓ev_catT, ↓ev_ixT, ↓ev_ixL, ↓ev_slT, ↓ev_slL, ↓ev_isN, ↓ev_isNotN, ↓ev_zipTT, ↓ev_enumT, ↓ev_enumL, ↓ev_eqS, startD, pick, setTg, setAll, wipeD, List.map_cons, List.map_nil, List.length_cons, List.length_nil, List.cons_append, List.nil_append, List.getElem?_cons_zero, List.getElem?_cons_succ, List.set_cons_zero, List.set_cons_succ, List.replicate_succ, List.replicate_zero, List.filterMap_cons, List.filterMap_nil, Nat.reduceAdd, Nat.reduceSub, Nat.reduceLeDiff, and_self, if_true, decide_eq_true_eq, true_and, and_true, List.set_nil, List.length_set]
    refine ⟨div64 hb b64, (ev_putK hm rfl (show 4 < 1000000 by decide)).mpr ?_⟩
    have r := fmod_range (i := l) hb
    refine ⟨l.fmod b, rfl, r.1, r.2, Sj.set j μ _, l.fdiv b, s, cs, p, ?_, hs0, hs1, hcs, Nat.le_succ_of_le hp⟩
    rw [dkAt_set hj, mkd_putL]
  · rw [if_neg hl]
    refine (ev_ixM hm mkd_spot).mpr ?_
    simp only [↓ev_out, ↓ev_sqM, ↓ev_foM, ↓ev_setM, ↓ev_asgM, ↓ev_putM, ↓ev_ifM, ↓ev_tvM, ↓ev_tnM, ↓ev_taM, ↓ev_toM, ↓ev_op2, ↓ev_gV, ↓ev_kM, ↓ev_rtM, ↓ev_exM, ↓ev_neM, ↓ev_notM, ↓ev_andM, ↓ev_orM, ↓ev_nxM, ↓ev_app, ↓ev_nil, ↓ev_cons, ↓ev_callF, ↓ev_callM, ↓ev_slM, ↓ev_ptM, ↓ev_asI, ↓ev_seM, ↓ev_itL, ↓ev_itT, ↓ev_mkT, ↓ev_mkL, ↓ev_lcM, ↓ev_dispM, ↓ev_lft, ↓thenK_nx, ↓thenK_rt, ↓thenK_bk, ↓thenK_ct, ↓tgK_s, ↓outK_rt, ↓outK_nx, ↓vK_s, ↓turnK_nx, ↓turnK_rt, ↓turnK_bk, ↓turnK_ct, ↓ev_asB, ↓ev_add, ↓ev_sub, ↓ev_mul, ↓ev_fdiv, ↓ev_mod, ↓ev_pow, ↓ev_neg, ↓ev_eqI, ↓ev_neI, ↓ev_lt, ↓ev_le, ↓ev_gt, ↓ev_ge, ↓ev_gcd, ↓ev_absI, ↓ev_maxI, ↓ev_minI, ↓ev_intI, ↓ev_intB, ↓ev_tupT, ↓ev_tupL, ↓ev_lstT, ↓ev_lstL, ↓ev_lenT, ↓ev_lenL, ↓ev_catL, ↓ev_catT, ↓ev_ixT, ↓ev_ixL, ↓ev_slT, ↓ev_slL, ↓ev_isN, ↓ev_isNotN, ↓ev_zipTT, ↓ev_enumT, ↓ev_enumL, ↓ev_eqS, startD, pick, setTg, setAll, wipeD, List.map_cons, List.map_nil, List.length_cons, List.length_nil, List.cons_append, List.nil_append, List.getElem?_cons_zero, List.getElem?_cons_succ, List.set_cons_zero, List.set_cons_succ, List.replicate_succ, List.replicate_zero, List.filterMap_cons, List.filterMap_nil, Nat.reduceAdd, Nat.reduceSub, Nat.reduceLeDiff, and_self, if_true, decide_eq_true_eq, true_and, and_true, List.set_nil, List.length_set]
    refine (ev_putK hm rfl (show 4 < 1000000 by decide)).mpr ?_
    rw [mkd_putS]
    generalize hμ1 : μ.set j (.dk (mkd l s cs ((p : Int) + 1))) = μ1
    have hm1 : dkAt μ1 j = some (mkd l s cs ((p : Int) + 1)) := by rw [← hμ1]; exact dkAt_set hj
    refine (ev_ixM hm1 mkd_cells).mpr ?_
    refine (ev_ixM hm1 mkd_seed).mpr ?_
    have p64 : (p : Int).natAbs < 2 ^ 64 := by omega
    have hn : cs.length ≠ 0 := fun z => hcs (List.eq_nil_of_length_eq_zero z)
    refine ⟨mul64 p64, mul64 p64, ?_⟩
    simp only [↓ev_out, ↓ev_sqM, ↓ev_foM, ↓ev_setM, ↓ev_asgM, ↓ev_putM, ↓ev_ifM, ↓ev_tvM, ↓ev_tnM, ↓ev_taM, ↓ev_toM, ↓ev_op2, ↓ev_gV, ↓ev_kM, ↓ev_rtM, ↓ev_exM, ↓ev_neM, ↓ev_notM, ↓ev_andM, ↓ev_orM, ↓ev_nxM, ↓ev_app, ↓ev_nil, ↓ev_cons, ↓ev_callF, ↓ev_callM, ↓ev_slM, ↓ev_ptM, ↓ev_asI, ↓ev_seM, ↓ev_itL, ↓ev_itT, ↓ev_mkT, ↓ev_mkL, ↓ev_lcM, ↓ev_dispM, ↓ev_lft, ↓thenK_nx, ↓thenK_rt, ↓thenK_bk, ↓thenK_ct, ↓tgK_s, ↓outK_rt, ↓outK_nx, ↓vK_s, ↓turnK_nx, ↓turnK_rt, ↓turnK_bk, ↓turnK_ct, ↓ev_asB, ↓ev_add, ↓ev_sub, ↓ev_mul, ↓ev_fdiv, ↓ev_mod, ↓ev_pow, ↓ev_neg, ↓ev_eqI, ↓ev_neI, ↓ev_lt, ↓ev_le, ↓ev_gt, ↓ev_ge, ↓ev_gcd, ↓ev_absI, ↓ev_maxI, ↓ev_minI, ↓ev_intI, ↓ev_intB, ↓ev_tupT, ↓ev_tupL, ↓ev_lstT, ↓ev_lstL, ↓ev_lenT, ↓ev_lenL, ↓ev_catL, ↓ev_catT, ↓ev_ixT, ↓ev_ixL, ↓ev_slT, ↓ev_slL, ↓ev_isN, ↓ev_isNotN, ↓ev_zipTT, ↓ev_enumT, ↓ev_enumL, ↓ev_eqS, startD, pick, setTg, setAll, wipeD, List.map_cons, List.map_nil, List.length_cons, List.length_nil, List.cons_append, List.nil_append, List.getElem?_cons_zero, List.getElem?_cons_succ, List.set_cons_zero, List.set_cons_succ, List.replicate_succ, List.replicate_zero, List.filterMap_cons, List.filterMap_nil, Nat.reduceAdd, Nat.reduceSub, Nat.reduceLeDiff, and_self, if_true, decide_eq_true_eq, true_and, and_true, List.set_nil, List.length_set, List.length_map]
    refine ⟨by omega, ?_⟩
    have r1 := fmod_range (i := (p : Int)) (b := (cs.length : Int)) (by omega)
    have hk : ((p : Int).fmod (cs.length : Int)).toNat < cs.length := by omega
    have ek : (p : Int).fmod (cs.length : Int) = ((((p : Int).fmod (cs.length : Int)).toNat : Nat) : Int) := by omega
    rw [ek, at_nat (x := D.int cs[((p : Int).fmod (cs.length : Int)).toNat]) (by rw [List.getElem?_map, List.getElem?_eq_getElem hk]; rfl)]
    simp only [↓ev_out, ↓ev_sqM, ↓ev_foM, ↓ev_setM, ↓ev_asgM, ↓ev_putM, ↓ev_ifM, ↓ev_tvM, ↓ev_tnM, ↓ev_taM, ↓ev_toM, ↓ev_op2, ↓ev_gV, ↓ev_kM, ↓ev_rtM, ↓ev_exM, ↓ev_neM, ↓ev_notM, ↓ev_andM, ↓ev_orM, ↓ev_nxM, ↓ev_app, ↓ev_nil, ↓ev_cons, ↓ev_callF, ↓ev_callM, ↓ev_slM, ↓ev_ptM, ↓ev_asI, ↓ev_seM, ↓ev_itL, ↓ev_itT, ↓ev_mkT, ↓ev_mkL, ↓ev_lcM, ↓ev_dispM, ↓ev_lft, ↓thenK_nx, ↓thenK_rt, ↓thenK_bk, ↓thenK_ct, ↓tgK_s, ↓outK_rt, ↓outK_nx, ↓vK_s, ↓turnK_nx, ↓turnK_rt, ↓turnK_bk, ↓turnK_ct, ↓ev_asB, ↓ev_add, ↓ev_sub, ↓ev_mul, ↓ev_fdiv, ↓ev_mod, ↓ev_pow, ↓ev_neg, ↓ev_eqI, ↓ev_neI, ↓ev_lt, ↓ev_le, ↓ev_gt, ↓ev_ge, ↓ev_gcd, ↓ev_absI, ↓ev_maxI, ↓ev_minI, ↓ev_intI, ↓ev_intB, ↓ev_tupT, ↓ev_tupL, ↓ev_lstT, ↓ev_lstL, ↓ev_lenT, ↓ev_lenL, ↓ev_catL, ↓ev_catT, ↓ev_ixT, ↓ev_ixL, ↓ev_slT, ↓ev_slL, ↓ev_isN, ↓ev_isNotN, ↓ev_zipTT, ↓ev_enumT, ↓ev_enumL, ↓ev_eqS, startD, pick, setTg, setAll, wipeD, List.map_cons, List.map_nil, List.length_cons, List.length_nil, List.cons_append, List.nil_append, List.getElem?_cons_zero, List.getElem?_cons_succ, List.set_cons_zero, List.set_cons_succ, List.replicate_succ, List.replicate_zero, List.filterMap_cons, List.filterMap_nil, Nat.reduceAdd, Nat.reduceSub, Nat.reduceLeDiff, and_self, if_true, decide_eq_true_eq, true_and, and_true, List.set_nil, List.length_set]
    generalize cs[((p : Int).fmod (cs.length : Int)).toNat] = cell
    refine ⟨mul64 p64, mul64 (by omega), by decide, ?_⟩
    generalize hx : (cell * (2 * (p : Int) + 3) + (s + 40503 * (p : Int) * (p : Int))) = x1
    have r2 := fmod_range (i := x1) (b := 2147483647) (by decide)
    refine ⟨mul64 (by omega), mul64 p64, (ev_ixM hm1 mkd_seed).mpr ?_⟩
    simp only [↓ev_out, ↓ev_sqM, ↓ev_foM, ↓ev_setM, ↓ev_asgM, ↓ev_putM, ↓ev_ifM, ↓ev_tvM, ↓ev_tnM, ↓ev_taM, ↓ev_toM, ↓ev_op2, ↓ev_gV, ↓ev_kM, ↓ev_rtM, ↓ev_exM, ↓ev_neM, ↓ev_notM, ↓ev_andM, ↓ev_orM, ↓ev_nxM, ↓ev_app, ↓ev_nil, ↓ev_cons, ↓ev_callF, ↓ev_callM, ↓ev_slM, ↓ev_ptM, ↓ev_asI, ↓ev_seM, ↓ev_itL, ↓ev_itT, ↓ev_mkT, ↓ev_mkL, ↓ev_lcM, ↓ev_dispM, ↓ev_lft, ↓thenK_nx, ↓thenK_rt, ↓thenK_bk, ↓thenK_ct, ↓tgK_s, ↓outK_rt, ↓outK_nx, ↓vK_s, ↓turnK_nx, ↓turnK_rt, ↓turnK_bk, ↓turnK_ct, ↓ev_asB, ↓ev_add, ↓ev_sub, ↓ev_mul, ↓ev_fdiv, ↓ev_mod, ↓ev_pow, ↓ev_neg, ↓ev_eqI, ↓ev_neI, ↓ev_lt, ↓ev_le, ↓ev_gt, ↓ev_ge, ↓ev_gcd, ↓ev_absI, ↓ev_maxI, ↓ev_minI, ↓ev_intI, ↓ev_intB, ↓ev_tupT, ↓ev_tupL, ↓ev_lstT, ↓ev_lstL, ↓ev_lenT, ↓ev_lenL, ↓ev_catL, ↓ev_catT, ↓ev_ixT, ↓ev_ixL, ↓ev_slT, ↓ev_slL, ↓ev_isN, ↓ev_isNotN, ↓ev_zipTT, ↓ev_enumT, ↓ev_enumL, ↓ev_eqS, startD, pick, setTg, setAll, wipeD, List.map_cons, List.map_nil, List.length_cons, List.length_nil, List.cons_append, List.nil_append, List.getElem?_cons_zero, List.getElem?_cons_succ, List.set_cons_zero, List.set_cons_succ, List.replicate_succ, List.replicate_zero, List.filterMap_cons, List.filterMap_nil, Nat.reduceAdd, Nat.reduceSub, Nat.reduceLeDiff, and_self, if_true, decide_eq_true_eq, true_and, and_true, List.set_nil, List.length_set]
    refine ⟨by decide, ?_⟩
    generalize hy : (x1.fmod 2147483647 * x1.fmod 2147483647 + 69621 * (p : Int) + s) = y1
    have r3 := fmod_range (i := y1) (b := 2147483629) (by decide)
    refine ⟨mul64 (by omega), by decide, by decide, b0, ?_⟩
    refine ⟨_, rfl, (fmod_range hb).1, (fmod_range hb).2, by rw [← hμ1]; exact Sj.set j μ _, l, s, cs, p + 1, by rw [hm1]; rfl, hs0, hs1, hcs, by omega⟩
def begunB : List D → M D := outD (sqM (setM (op2 (slM (gV 0) (ptM (gV 1)) (kM none)) (slM (gV 0) (kM none) (ptM (gV 1))) addD) 2) (sqM (setM (lcM (seM (gV 2)) (.v 5) (tvM (op2 (gV 5) (op2 (kM (.int 10)) (kM (.int 18)) powD) geD)) (gV 5) [5]) 3) (sqM (setM (op2 (kM (.int 86)) (gV 1) addD) 4) (sqM (foM (seM (gV 2)) (.v 5) (sqM (setM (op2 (appM intF [(op2 (op2 (gV 4) (kM (.int 48271)) mulD) (gV 5) addD)]) (kM (.int 2147483647)) modD) 4) nxM)) (sqM (rtM (dispM [("left", (ifM (tvM (op2 (gV 3) (appM mkL []) neD)) (op2 (gV 3) (kM (.int 0)) ixD) (kM (.int 0)))), ("seed", (gV 4)), ("cells", (op2 (gV 2) (appM mkL [(op2 (op2 (kM (.int 53)) (gV 1) mulD) (kM (.int 11)) addD)]) addD)), ("spot", (kM (.int 0)))])) nxM))))) 6
theorem cut_ints (ns : List Int) (lo hi : Option Int) : ∃ ms : List Int, cutD (ns.map .int) lo hi = ms.map .int ∧ ms.length ≤ ns.length := by
  unfold cutD
  refine ⟨(ns.drop (HT.sIx (ns.map D.int).length 0 lo)).take (HT.sIx (ns.map D.int).length (ns.map D.int).length hi - HT.sIx (ns.map D.int).length 0 lo), by rw [List.map_take, List.map_drop], ?_⟩
  rw [List.length_take, List.length_drop]
  omega
def bigD : D → Bool
  | .int n => decide ((10 : Int) ^ 18 ≤ n)
  | _ => false
theorem begun_ok {ns : List Int} {i : Int} {μ : Mu} (hl : ns.length ≤ 1000) (h0 : 0 ≤ i) (h1 : i ≤ 1000) : Ev (begunB [.lst (ns.map .int), .int i] μ) fun d μ' => d = .ref μ.length ∧ (∃ so, μ' = μ ++ [so]) ∧ MAt μ.length 0 μ' := by
  obtain ⟨as, ea, la⟩ := cut_ints ns (some i) none
  obtain ⟨bs, eb, lb⟩ := cut_ints ns none (some i)
  unfold begunB
  simp only [↓ev_out, ↓ev_sqM, ↓ev_foM, ↓ev_setM, ↓ev_asgM, ↓ev_putM, ↓ev_ifM, ↓ev_tvM, ↓ev_tnM, ↓ev_taM, ↓ev_toM, ↓ev_op2, ↓ev_gV, ↓ev_kM, ↓ev_rtM, ↓ev_exM, ↓ev_neM, ↓ev_notM, ↓ev_andM, ↓ev_orM, ↓ev_nxM, ↓ev_app, ↓ev_nil, ↓ev_cons, ↓ev_callF, ↓ev_callM, ↓ev_slM, ↓ev_ptM, ↓ev_asI, ↓ev_seM, ↓ev_itL, ↓ev_itT, ↓ev_mkT, ↓ev_mkL, ↓ev_lcM, ↓ev_dispM, ↓ev_lft, ↓thenK_nx, ↓thenK_rt, ↓thenK_bk, ↓thenK_ct, ↓tgK_s, ↓outK_rt, ↓outK_nx, ↓vK_s, ↓turnK_nx, ↓turnK_rt, ↓turnK_bk, ↓turnK_ct, ↓ev_asB, ↓ev_add, ↓ev_sub, ↓ev_mul, ↓ev_fdiv, ↓ev_mod, ↓ev_pow, ↓ev_neg, ↓ev_eqI, ↓ev_neI, ↓ev_lt, ↓ev_le, ↓ev_gt, ↓ev_ge, ↓ev_gcd, ↓ev_absI, ↓ev_maxI, ↓ev_minI, ↓ev_intI, ↓ev_intB, ↓ev_tupT, ↓ev_tupL, ↓ev_lstT, ↓ev_lstL, ↓ev_lenT, ↓ev_lenL, ↓ev_catL, ↓ev_catT, ↓ev_ixT, ↓ev_ixL, ↓ev_slT, ↓ev_slL, ↓ev_isN, ↓ev_isNotN, ↓ev_zipTT, ↓ev_enumT, ↓ev_enumL, ↓ev_eqS, startD, pick, setTg, setAll, wipeD, List.map_cons, List.map_nil, List.length_cons, List.length_nil, List.cons_append, List.nil_append, List.getElem?_cons_zero, List.getElem?_cons_succ, List.set_cons_zero, List.set_cons_succ, List.replicate_succ, List.replicate_zero, List.filterMap_cons, List.filterMap_nil, Nat.reduceAdd, Nat.reduceSub, Nat.reduceLeDiff, and_self, if_true, decide_eq_true_eq, true_and, and_true, List.set_nil, List.length_set]
  rw [ea, eb]
  refine ⟨by rw [List.length_map, List.length_map]; omega, ?_⟩
  rw [← List.map_append]
  generalize hcs : as ++ bs = cs
  have hcl : cs.length ≤ 2000 := by rw [← hcs, List.length_append]; omega
  have lc : ∀ ρ : Rho, ρ = [some (.lst (ns.map .int)), some (.int i), some (.lst (cs.map .int)), none, none, none] →
      lcD (.v 5) (tvM (op2 (gV 5) (op2 (kM (.int 10)) (kM (.int 18)) powD) geD)) (gV 5) (cs.map .int) ρ μ = .ok (((cs.map D.int).filter bigD).map id) μ := fun ρ e => by
    subst e
    refine lc_filter bigD id _ fun d hd => ?_
    obtain ⟨n, hn, rfl⟩ := List.mem_map.mp hd
    refine ⟨_, rfl, ?_, fun _ => ?_⟩
    · simp only [↓ev_out, ↓ev_sqM, ↓ev_foM, ↓ev_setM, ↓ev_asgM, ↓ev_putM, ↓ev_ifM, ↓ev_tvM, ↓ev_tnM, ↓ev_taM, ↓ev_toM, ↓ev_op2, ↓ev_gV, ↓ev_kM, ↓ev_rtM, ↓ev_exM, ↓ev_neM, ↓ev_notM, ↓ev_andM, ↓ev_orM, ↓ev_nxM, ↓ev_app, ↓ev_nil, ↓ev_cons, ↓ev_callF, ↓ev_callM, ↓ev_slM, ↓ev_ptM, ↓ev_asI, ↓ev_seM, ↓ev_itL, ↓ev_itT, ↓ev_mkT, ↓ev_mkL, ↓ev_lcM, ↓ev_dispM, ↓ev_lft, ↓thenK_nx, ↓thenK_rt, ↓thenK_bk, ↓thenK_ct, ↓tgK_s, ↓outK_rt, ↓outK_nx, ↓vK_s, ↓turnK_nx, ↓turnK_rt, ↓turnK_bk, ↓turnK_ct, ↓ev_asB, ↓ev_add, ↓ev_sub, ↓ev_mul, ↓ev_fdiv, ↓ev_mod, ↓ev_pow, ↓ev_neg, ↓ev_eqI, ↓ev_neI, ↓ev_lt, ↓ev_le, ↓ev_gt, ↓ev_ge, ↓ev_gcd, ↓ev_absI, ↓ev_maxI, ↓ev_minI, ↓ev_intI, ↓ev_intB, ↓ev_tupT, ↓ev_tupL, ↓ev_lstT, ↓ev_lstL, ↓ev_lenT, ↓ev_lenL, ↓ev_catL, ↓ev_catT, ↓ev_ixT, ↓ev_ixL, ↓ev_slT, ↓ev_slL, ↓ev_isN, ↓ev_isNotN, ↓ev_zipTT, ↓ev_enumT, ↓ev_enumL, ↓ev_eqS, startD, pick, setTg, setAll, wipeD, List.map_cons, List.map_nil, List.length_cons, List.length_nil, List.cons_append, List.nil_append, List.getElem?_cons_zero, List.getElem?_cons_succ, List.set_cons_zero, List.set_cons_succ, List.replicate_succ, List.replicate_zero, List.filterMap_cons, List.filterMap_nil, Nat.reduceAdd, Nat.reduceSub, Nat.reduceLeDiff, and_self, if_true, decide_eq_true_eq, true_and, and_true, List.set_nil, List.length_set]
      exact ⟨by decide, rfl⟩
    · simp only [↓ev_out, ↓ev_sqM, ↓ev_foM, ↓ev_setM, ↓ev_asgM, ↓ev_putM, ↓ev_ifM, ↓ev_tvM, ↓ev_tnM, ↓ev_taM, ↓ev_toM, ↓ev_op2, ↓ev_gV, ↓ev_kM, ↓ev_rtM, ↓ev_exM, ↓ev_neM, ↓ev_notM, ↓ev_andM, ↓ev_orM, ↓ev_nxM, ↓ev_app, ↓ev_nil, ↓ev_cons, ↓ev_callF, ↓ev_callM, ↓ev_slM, ↓ev_ptM, ↓ev_asI, ↓ev_seM, ↓ev_itL, ↓ev_itT, ↓ev_mkT, ↓ev_mkL, ↓ev_lcM, ↓ev_dispM, ↓ev_lft, ↓thenK_nx, ↓thenK_rt, ↓thenK_bk, ↓thenK_ct, ↓tgK_s, ↓outK_rt, ↓outK_nx, ↓vK_s, ↓turnK_nx, ↓turnK_rt, ↓turnK_bk, ↓turnK_ct, ↓ev_asB, ↓ev_add, ↓ev_sub, ↓ev_mul, ↓ev_fdiv, ↓ev_mod, ↓ev_pow, ↓ev_neg, ↓ev_eqI, ↓ev_neI, ↓ev_lt, ↓ev_le, ↓ev_gt, ↓ev_ge, ↓ev_gcd, ↓ev_absI, ↓ev_maxI, ↓ev_minI, ↓ev_intI, ↓ev_intB, ↓ev_tupT, ↓ev_tupL, ↓ev_lstT, ↓ev_lstL, ↓ev_lenT, ↓ev_lenL, ↓ev_catL, ↓ev_catT, ↓ev_ixT, ↓ev_ixL, ↓ev_slT, ↓ev_slL, ↓ev_isN, ↓ev_isNotN, ↓ev_zipTT, ↓ev_enumT, ↓ev_enumL, ↓ev_eqS, startD, pick, setTg, setAll, wipeD, List.map_cons, List.map_nil, List.length_cons, List.length_nil, List.cons_append, List.nil_append, List.getElem?_cons_zero, List.getElem?_cons_succ, List.set_cons_zero, List.set_cons_succ, List.replicate_succ, List.replicate_zero, List.filterMap_cons, List.filterMap_nil, Nat.reduceAdd, Nat.reduceSub, Nat.reduceLeDiff, and_self, if_true, decide_eq_true_eq, true_and, and_true, List.set_nil, List.length_set]
      rfl
  refine (ev_of (lc _ rfl)).mpr ?_
  rw [List.map_id]
  generalize hg : (cs.map D.int).filter bigD = gs
  have hgi : ∃ gi : List Int, gs = gi.map .int := by
    rw [← hg, List.filter_map]
    exact ⟨_, rfl⟩
  obtain ⟨gi, rfl⟩ := hgi
  have lg : (gi.map D.int).length ≤ 2000 := by
    rw [← hg]
    exact Nat.le_trans (List.length_filter_le _ _) (by rw [List.length_map]; exact hcl)
  simp only [↓ev_out, ↓ev_sqM, ↓ev_foM, ↓ev_setM, ↓ev_asgM, ↓ev_putM, ↓ev_ifM, ↓ev_tvM, ↓ev_tnM, ↓ev_taM, ↓ev_toM, ↓ev_op2, ↓ev_gV, ↓ev_kM, ↓ev_rtM, ↓ev_exM, ↓ev_neM, ↓ev_notM, ↓ev_andM, ↓ev_orM, ↓ev_nxM, ↓ev_app, ↓ev_nil, ↓ev_cons, ↓ev_callF, ↓ev_callM, ↓ev_slM, ↓ev_ptM, ↓ev_asI, ↓ev_seM, ↓ev_itL, ↓ev_itT, ↓ev_mkT, ↓ev_mkL, ↓ev_lcM, ↓ev_dispM, ↓ev_lft, ↓thenK_nx, ↓thenK_rt, ↓thenK_bk, ↓thenK_ct, ↓tgK_s, ↓outK_rt, ↓outK_nx, ↓vK_s, ↓turnK_nx, ↓turnK_rt, ↓turnK_bk, ↓turnK_ct, ↓ev_asB, ↓ev_add, ↓ev_sub, ↓ev_mul, ↓ev_fdiv, ↓ev_mod, ↓ev_pow, ↓ev_neg, ↓ev_eqI, ↓ev_neI, ↓ev_lt, ↓ev_le, ↓ev_gt, ↓ev_ge, ↓ev_gcd, ↓ev_absI, ↓ev_maxI, ↓ev_minI, ↓ev_intI, ↓ev_intB, ↓ev_tupT, ↓ev_tupL, ↓ev_lstT, ↓ev_lstL, ↓ev_lenT, ↓ev_lenL, ↓ev_catL, ↓ev_catT, ↓ev_ixT, ↓ev_ixL, ↓ev_slT, ↓ev_slL, ↓ev_isN, ↓ev_isNotN, ↓ev_zipTT, ↓ev_enumT, ↓ev_enumL, ↓ev_eqS, startD, pick, setTg, setAll, wipeD, List.map_cons, List.map_nil, List.length_cons, List.length_nil, List.cons_append, List.nil_append, List.getElem?_cons_zero, List.getElem?_cons_succ, List.set_cons_zero, List.set_cons_succ, List.replicate_succ, List.replicate_zero, List.filterMap_cons, List.filterMap_nil, Nat.reduceAdd, Nat.reduceSub, Nat.reduceLeDiff, and_self, if_true, decide_eq_true_eq, true_and, and_true, List.set_nil, List.length_set, if_pos (show (gi.map D.int).length ≤ 1000000 by omega)]
  refine ev_for (fun ds ρ μ' => μ' = μ ∧ ∃ (o : Option D) (s : Int) (ms : List Int), 0 ≤ s ∧ s < 2147483647 ∧ ρ = [some (.lst (ns.map .int)), some (.int i), some (.lst (cs.map .int)), some (.lst (gi.map .int)), some (.int s), o] ∧ ds = ms.map .int) ?_ ?_ _ _ _ ⟨rfl, none, 86 + i, cs, by omega, by omega, rfl, rfl⟩
  · rintro x rest ρ μ' ⟨rfl, o, s, ms, hs0, hs1, rfl, e⟩
    cases ms with
    | nil => cases e
    | cons y ms =>
      cases e
      refine ⟨_, rfl, ?_⟩
      simp only [↓ev_out, ↓ev_sqM, ↓ev_foM, ↓ev_setM, ↓ev_asgM, ↓ev_putM, ↓ev_ifM, ↓ev_tvM, ↓ev_tnM, ↓ev_taM, ↓ev_toM, ↓ev_op2, ↓ev_gV, ↓ev_kM, ↓ev_rtM, ↓ev_exM, ↓ev_neM, ↓ev_notM, ↓ev_andM, ↓ev_orM, ↓ev_nxM, ↓ev_app, ↓ev_nil, ↓ev_cons, ↓ev_callF, ↓ev_callM, ↓ev_slM, ↓ev_ptM, ↓ev_asI, ↓ev_seM, ↓ev_itL, ↓ev_itT, ↓ev_mkT, ↓ev_mkL, ↓ev_lcM, ↓ev_dispM, ↓ev_lft, ↓thenK_nx, ↓thenK_rt, ↓thenK_bk, ↓thenK_ct, ↓tgK_s, ↓outK_rt, ↓outK_nx, ↓vK_s, ↓turnK_nx, ↓turnK_rt, ↓turnK_bk, ↓turnK_ct, ↓ev_asB, ↓ev_add, ↓ev_sub, ↓ev_mul, ↓ev_fdiv, ↓ev_mod, ↓ev_pow, ↓ev_neg, ↓ev_eqI, ↓ev_neI, ↓ev_lt, ↓ev_le, ↓ev_gt, ↓ev_ge, ↓ev_gcd, ↓ev_absI, ↓ev_maxI, ↓ev_minI, ↓ev_intI, ↓ev_intB, ↓ev_tupT, ↓ev_tupL, ↓ev_lstT, ↓ev_lstL, ↓ev_lenT, ↓ev_lenL, ↓ev_catL, ↓ev_catT, ↓ev_ixT, ↓ev_ixL, ↓ev_slT, ↓ev_slL, ↓ev_isN, ↓ev_isNotN, ↓ev_zipTT, ↓ev_enumT, ↓ev_enumL, ↓ev_eqS, startD, pick, setTg, setAll, wipeD, List.map_cons, List.map_nil, List.length_cons, List.length_nil, List.cons_append, List.nil_append, List.getElem?_cons_zero, List.getElem?_cons_succ, List.set_cons_zero, List.set_cons_succ, List.replicate_succ, List.replicate_zero, List.filterMap_cons, List.filterMap_nil, Nat.reduceAdd, Nat.reduceSub, Nat.reduceLeDiff, and_self, if_true, decide_eq_true_eq, true_and, and_true, List.set_nil, List.length_set]
      refine ⟨mul64 (by decide), by decide, ?_⟩
      have r := fmod_range (i := s * 48271 + y) (b := 2147483647) (by decide)
      exact ⟨_, _, ms, r.1, r.2, rfl, rfl⟩
  · rintro ρ μ' ⟨rfl, o, s, ms, hs0, hs1, rfl, e⟩
    simp only [↓ev_out, ↓ev_sqM, ↓ev_foM, ↓ev_setM, ↓ev_asgM, ↓ev_putM, ↓ev_ifM, ↓ev_tvM, ↓ev_tnM, ↓ev_taM, ↓ev_toM, ↓ev_op2, ↓ev_gV, ↓ev_kM, ↓ev_rtM, ↓ev_exM, ↓ev_neM, ↓ev_notM, ↓ev_andM, ↓ev_orM, ↓ev_nxM, ↓ev_app, ↓ev_nil, ↓ev_cons, ↓ev_callF, ↓ev_callM, ↓ev_slM, ↓ev_ptM, ↓ev_asI, ↓ev_seM, ↓ev_itL, ↓ev_itT, ↓ev_mkT, ↓ev_mkL, ↓ev_lcM, ↓ev_dispM, ↓ev_lft, ↓thenK_nx, ↓thenK_rt, ↓thenK_bk, ↓thenK_ct, ↓tgK_s, ↓outK_rt, ↓outK_nx, ↓vK_s, ↓turnK_nx, ↓turnK_rt, ↓turnK_bk, ↓turnK_ct, ↓ev_asB, ↓ev_add, ↓ev_sub, ↓ev_mul, ↓ev_fdiv, ↓ev_mod, ↓ev_pow, ↓ev_neg, ↓ev_eqI, ↓ev_neI, ↓ev_lt, ↓ev_le, ↓ev_gt, ↓ev_ge, ↓ev_gcd, ↓ev_absI, ↓ev_maxI, ↓ev_minI, ↓ev_intI, ↓ev_intB, ↓ev_tupT, ↓ev_tupL, ↓ev_lstT, ↓ev_lstL, ↓ev_lenT, ↓ev_lenL, ↓ev_catL, ↓ev_catT, ↓ev_ixT, ↓ev_ixL, ↓ev_slT, ↓ev_slL, ↓ev_isN, ↓ev_isNotN, ↓ev_zipTT, ↓ev_enumT, ↓ev_enumL, ↓ev_eqS, startD, pick, setTg, setAll, wipeD, List.map_cons, List.map_nil, List.length_cons, List.length_nil, List.cons_append, List.nil_append, List.getElem?_cons_zero, List.getElem?_cons_succ, List.set_cons_zero, List.set_cons_succ, List.replicate_succ, List.replicate_zero, List.filterMap_cons, List.filterMap_nil, Nat.reduceAdd, Nat.reduceSub, Nat.reduceLeDiff, and_self, if_true, decide_eq_true_eq, true_and, and_true, List.set_nil, List.length_set, if_pos (show 0 ≤ 1000000 by decide), if_pos (show 1 ≤ 1000000 by decide)]
    refine (ev_neE (shp_mono 8 (show shp 1 (.lst (gi.map .int)) from shp_ints gi) (by decide))).mpr ?_
    have fin : ∀ l : Int, Ev (newDk ["left", "seed", "cells", "spot"] [.int l, .int s, .lst ((cs ++ [53 * i + 11]).map .int), .int 0] μ') fun d μ'_1 => d = .ref μ'.length ∧ (∃ so, μ'_1 = μ' ++ [so]) ∧ MAt μ'.length 0 μ'_1 := fun l => by
      have e : newDk ["left", "seed", "cells", "spot"] [.int l, .int s, .lst ((cs ++ [53 * i + 11]).map .int), .int 0] μ' = .ok (.ref μ'.length) (μ' ++ [.dk (mkd l s (cs ++ [53 * i + 11]) 0)]) := by
        unfold newDk
        have hp : D.pures [.int l, .int s, .lst ((cs ++ [53 * i + 11]).map .int), .int 0] = true := by
          show (true && (true && (D.pures ((cs ++ [53 * i + 11]).map .int) && true))) = true
          rw [pures_ints]
          rfl
        rw [hp]
        rfl
      rw [e]
      refine ⟨rfl, ⟨_, rfl⟩, l, s, cs ++ [53 * i + 11], 0, ?_, hs0, hs1, by simp, Nat.le_refl _⟩
      unfold dkAt
      simp
    have ec : ∀ x : Int, List.map D.int cs ++ [D.int x] = (cs ++ [x]).map .int := fun x => by simp
    have hlen : (List.map D.int cs).length + 1 ≤ 1000000 := by rw [List.length_map]; omega
    cases gi with
    | nil =>
      simp only [↓ev_out, ↓ev_sqM, ↓ev_foM, ↓ev_setM, ↓ev_asgM, ↓ev_putM, ↓ev_ifM, ↓ev_tvM, ↓ev_tnM, ↓ev_taM, ↓ev_toM, ↓ev_op2, ↓ev_gV, ↓ev_kM, ↓ev_rtM, ↓ev_exM, ↓ev_neM, ↓ev_notM, ↓ev_andM, ↓ev_orM, ↓ev_nxM, ↓ev_app, ↓ev_nil, ↓ev_cons, ↓ev_callF, ↓ev_callM, ↓ev_slM, ↓ev_ptM, ↓ev_asI, ↓ev_seM, ↓ev_itL, ↓ev_itT, ↓ev_mkT, ↓ev_mkL, ↓ev_lcM, ↓ev_dispM, ↓ev_lft, ↓thenK_nx, ↓thenK_rt, ↓thenK_bk, ↓thenK_ct, ↓tgK_s, ↓outK_rt, ↓outK_nx, ↓vK_s, ↓turnK_nx, ↓turnK_rt, ↓turnK_bk, ↓turnK_ct, ↓ev_asB, ↓ev_add, ↓ev_sub, ↓ev_mul, ↓ev_fdiv, ↓ev_mod, ↓ev_pow, ↓ev_neg, ↓ev_eqI, ↓ev_neI, ↓ev_lt, ↓ev_le, ↓ev_gt, ↓ev_ge, ↓ev_gcd, ↓ev_absI, ↓ev_maxI, ↓ev_minI, ↓ev_intI, ↓ev_intB, ↓ev_tupT, ↓ev_tupL, ↓ev_lstT, ↓ev_lstL, ↓ev_lenT, ↓ev_lenL, ↓ev_catL, ↓ev_catT, ↓ev_ixT, ↓ev_ixL, ↓ev_slT, ↓ev_slL, ↓ev_isN, ↓ev_isNotN, ↓ev_zipTT, ↓ev_enumT, ↓ev_enumL, ↓ev_eqS, startD, pick, setTg, setAll, wipeD, List.map_cons, List.map_nil, List.length_cons, List.length_nil, List.cons_append, List.nil_append, List.getElem?_cons_zero, List.getElem?_cons_succ, List.set_cons_zero, List.set_cons_succ, List.replicate_succ, List.replicate_zero, List.filterMap_cons, List.filterMap_nil, Nat.reduceAdd, Nat.reduceSub, Nat.reduceLeDiff, and_self, if_true, decide_eq_true_eq, true_and, and_true, List.set_nil, List.length_set, List.isEmpty_nil, Bool.not_true, Bool.false_eq_true, if_false]
      refine ⟨mul64l (by decide), by omega, ?_⟩
      rw [ec]
      exact fin 0
    | cons g gi =>
      simp only [↓ev_out, ↓ev_sqM, ↓ev_foM, ↓ev_setM, ↓ev_asgM, ↓ev_putM, ↓ev_ifM, ↓ev_tvM, ↓ev_tnM, ↓ev_taM, ↓ev_toM, ↓ev_op2, ↓ev_gV, ↓ev_kM, ↓ev_rtM, ↓ev_exM, ↓ev_neM, ↓ev_notM, ↓ev_andM, ↓ev_orM, ↓ev_nxM, ↓ev_app, ↓ev_nil, ↓ev_cons, ↓ev_callF, ↓ev_callM, ↓ev_slM, ↓ev_ptM, ↓ev_asI, ↓ev_seM, ↓ev_itL, ↓ev_itT, ↓ev_mkT, ↓ev_mkL, ↓ev_lcM, ↓ev_dispM, ↓ev_lft, ↓thenK_nx, ↓thenK_rt, ↓thenK_bk, ↓thenK_ct, ↓tgK_s, ↓outK_rt, ↓outK_nx, ↓vK_s, ↓turnK_nx, ↓turnK_rt, ↓turnK_bk, ↓turnK_ct, ↓ev_asB, ↓ev_add, ↓ev_sub, ↓ev_mul, ↓ev_fdiv, ↓ev_mod, ↓ev_pow, ↓ev_neg, ↓ev_eqI, ↓ev_neI, ↓ev_lt, ↓ev_le, ↓ev_gt, ↓ev_ge, ↓ev_gcd, ↓ev_absI, ↓ev_maxI, ↓ev_minI, ↓ev_intI, ↓ev_intB, ↓ev_tupT, ↓ev_tupL, ↓ev_lstT, ↓ev_lstL, ↓ev_lenT, ↓ev_lenL, ↓ev_catL, ↓ev_catT, ↓ev_ixT, ↓ev_ixL, ↓ev_slT, ↓ev_slL, ↓ev_isN, ↓ev_isNotN, ↓ev_zipTT, ↓ev_enumT, ↓ev_enumL, ↓ev_eqS, startD, pick, setTg, setAll, wipeD, List.map_cons, List.map_nil, List.length_cons, List.length_nil, List.cons_append, List.nil_append, List.getElem?_cons_zero, List.getElem?_cons_succ, List.set_cons_zero, List.set_cons_succ, List.replicate_succ, List.replicate_zero, List.filterMap_cons, List.filterMap_nil, Nat.reduceAdd, Nat.reduceSub, Nat.reduceLeDiff, and_self, if_true, decide_eq_true_eq, true_and, and_true, List.set_nil, List.length_set, List.isEmpty_cons, Bool.not_false]
      have e0 : atI (D.int g :: List.map D.int gi) 0 = some (.int g) := at_nat (k := 0) rfl
      rw [e0]
      simp only [↓ev_out, ↓ev_sqM, ↓ev_foM, ↓ev_setM, ↓ev_asgM, ↓ev_putM, ↓ev_ifM, ↓ev_tvM, ↓ev_tnM, ↓ev_taM, ↓ev_toM, ↓ev_op2, ↓ev_gV, ↓ev_kM, ↓ev_rtM, ↓ev_exM, ↓ev_neM, ↓ev_notM, ↓ev_andM, ↓ev_orM, ↓ev_nxM, ↓ev_app, ↓ev_nil, ↓ev_cons, ↓ev_callF, ↓ev_callM, ↓ev_slM, ↓ev_ptM, ↓ev_asI, ↓ev_seM, ↓ev_itL, ↓ev_itT, ↓ev_mkT, ↓ev_mkL, ↓ev_lcM, ↓ev_dispM, ↓ev_lft, ↓thenK_nx, ↓thenK_rt, ↓thenK_bk, ↓thenK_ct, ↓tgK_s, ↓outK_rt, ↓outK_nx, ↓vK_s, ↓turnK_nx, ↓turnK_rt, ↓turnK_bk, ↓turnK_ct, ↓ev_asB, ↓ev_add, ↓ev_sub, ↓ev_mul, ↓ev_fdiv, ↓ev_mod, ↓ev_pow, ↓ev_neg, ↓ev_eqI, ↓ev_neI, ↓ev_lt, ↓ev_le, ↓ev_gt, ↓ev_ge, ↓ev_gcd, ↓ev_absI, ↓ev_maxI, ↓ev_minI, ↓ev_intI, ↓ev_intB, ↓ev_tupT, ↓ev_tupL, ↓ev_lstT, ↓ev_lstL, ↓ev_lenT, ↓ev_lenL, ↓ev_catL, ↓ev_catT, ↓ev_ixT, ↓ev_ixL, ↓ev_slT, ↓ev_slL, ↓ev_isN, ↓ev_isNotN, ↓ev_zipTT, ↓ev_enumT, ↓ev_enumL, ↓ev_eqS, startD, pick, setTg, setAll, wipeD, List.map_cons, List.map_nil, List.length_cons, List.length_nil, List.cons_append, List.nil_append, List.getElem?_cons_zero, List.getElem?_cons_succ, List.set_cons_zero, List.set_cons_succ, List.replicate_succ, List.replicate_zero, List.filterMap_cons, List.filterMap_nil, Nat.reduceAdd, Nat.reduceSub, Nat.reduceLeDiff, and_self, if_true, decide_eq_true_eq, true_and, and_true, List.set_nil, List.length_set]
      refine ⟨mul64l (by decide), by omega, ?_⟩
      rw [ec]
      exact fin g
/-! ### 36. .. and their like, their common divisor, their lowered -/
def likeB : List D → M D := outD (sqM (rtM (op2 (appM repF [(gV 0)]) (appM repF [(gV 1)]) eqD)) nxM) 2
theorem like_ok {d : D} {μ : Mu} (h : fit 3 d) : likeB [d, d] μ = .ok (.bl true) μ := by
  refine ev_eq ?_
  unfold likeB
  simp only [↓ev_out, ↓ev_sqM, ↓ev_foM, ↓ev_setM, ↓ev_asgM, ↓ev_putM, ↓ev_ifM, ↓ev_tvM, ↓ev_tnM, ↓ev_taM, ↓ev_toM, ↓ev_op2, ↓ev_gV, ↓ev_kM, ↓ev_rtM, ↓ev_exM, ↓ev_neM, ↓ev_notM, ↓ev_andM, ↓ev_orM, ↓ev_nxM, ↓ev_app, ↓ev_nil, ↓ev_cons, ↓ev_callF, ↓ev_callM, ↓ev_slM, ↓ev_ptM, ↓ev_asI, ↓ev_seM, ↓ev_itL, ↓ev_itT, ↓ev_mkT, ↓ev_mkL, ↓ev_lcM, ↓ev_dispM, ↓ev_lft, ↓thenK_nx, ↓thenK_rt, ↓thenK_bk, ↓thenK_ct, ↓tgK_s, ↓outK_rt, ↓outK_nx, ↓vK_s, ↓turnK_nx, ↓turnK_rt, ↓turnK_bk, ↓turnK_ct, ↓ev_asB, ↓ev_add, ↓ev_sub, ↓ev_mul, ↓ev_fdiv, ↓ev_mod, ↓ev_pow, ↓ev_neg, ↓ev_eqI, ↓ev_neI, ↓ev_lt, ↓ev_le, ↓ev_gt, ↓ev_ge, ↓ev_gcd, ↓ev_absI, ↓ev_maxI, ↓ev_minI, ↓ev_intI, ↓ev_intB, ↓ev_tupT, ↓ev_tupL, ↓ev_lstT, ↓ev_lstL, ↓ev_lenT, ↓ev_lenL, ↓ev_catL, ↓ev_catT, ↓ev_ixT, ↓ev_ixL, ↓ev_slT, ↓ev_slL, ↓ev_isN, ↓ev_isNotN, ↓ev_zipTT, ↓ev_enumT, ↓ev_enumL, ↓ev_eqS, startD, pick, setTg, setAll, wipeD, List.map_cons, List.map_nil, List.length_cons, List.length_nil, List.cons_append, List.nil_append, List.getElem?_cons_zero, List.getElem?_cons_succ, List.set_cons_zero, List.set_cons_succ, List.replicate_succ, List.replicate_zero, List.filterMap_cons, List.filterMap_nil, Nat.reduceAdd, Nat.reduceSub, Nat.reduceLeDiff, and_self, if_true, decide_eq_true_eq, true_and, and_true, List.set_nil, List.length_set]
  refine (ev_rep (fit_rep h)).mpr ?_
  refine (ev_rep (fit_rep h)).mpr ?_
  simp only [↓ev_out, ↓ev_sqM, ↓ev_foM, ↓ev_setM, ↓ev_asgM, ↓ev_putM, ↓ev_ifM, ↓ev_tvM, ↓ev_tnM, ↓ev_taM, ↓ev_toM, ↓ev_op2, ↓ev_gV, ↓ev_kM, ↓ev_rtM, ↓ev_exM, ↓ev_neM, ↓ev_notM, ↓ev_andM, ↓ev_orM, ↓ev_nxM, ↓ev_app, ↓ev_nil, ↓ev_cons, ↓ev_callF, ↓ev_callM, ↓ev_slM, ↓ev_ptM, ↓ev_asI, ↓ev_seM, ↓ev_itL, ↓ev_itT, ↓ev_mkT, ↓ev_mkL, ↓ev_lcM, ↓ev_dispM, ↓ev_lft, ↓thenK_nx, ↓thenK_rt, ↓thenK_bk, ↓thenK_ct, ↓tgK_s, ↓outK_rt, ↓outK_nx, ↓vK_s, ↓turnK_nx, ↓turnK_rt, ↓turnK_bk, ↓turnK_ct, ↓ev_asB, ↓ev_add, ↓ev_sub, ↓ev_mul, ↓ev_fdiv, ↓ev_mod, ↓ev_pow, ↓ev_neg, ↓ev_eqI, ↓ev_neI, ↓ev_lt, ↓ev_le, ↓ev_gt, ↓ev_ge, ↓ev_gcd, ↓ev_absI, ↓ev_maxI, ↓ev_minI, ↓ev_intI, ↓ev_intB, ↓ev_tupT, ↓ev_tupL, ↓ev_lstT, ↓ev_lstL, ↓ev_lenT, ↓ev_lenL, ↓ev_catL, ↓ev_catT, ↓ev_ixT, ↓ev_ixL, ↓ev_slT, ↓ev_slL, ↓ev_isN, ↓ev_isNotN, ↓ev_zipTT, ↓ev_enumT, ↓ev_enumL, ↓ev_eqS, startD, pick, setTg, setAll, wipeD, List.map_cons, List.map_nil, List.length_cons, List.length_nil, List.cons_append, List.nil_append, List.getElem?_cons_zero, List.getElem?_cons_succ, List.set_cons_zero, List.set_cons_succ, List.replicate_succ, List.replicate_zero, List.filterMap_cons, List.filterMap_nil, Nat.reduceAdd, Nat.reduceSub, Nat.reduceLeDiff, and_self, if_true, decide_eq_true_eq, true_and, and_true, List.set_nil, List.length_set, decide_true]
def signB : List D → M D := outD (sqM (rtM (op2 (appM intF [(op2 (gV 0) (kM (.int 0)) gtD)]) (appM intF [(op2 (gV 0) (kM (.int 0)) ltD)]) subD)) nxM) 1
def sgn (n : Int) : Int := if n = 0 then 0 else if 0 < n then 1 else -1
theorem sign_ok (i : Int) (μ : Mu) : signB [.int i] μ = .ok (.int (sgn i)) μ := by
  refine ev_eq ?_
  unfold signB
  simp only [↓ev_out, ↓ev_sqM, ↓ev_foM, ↓ev_setM, ↓ev_asgM, ↓ev_putM, ↓ev_ifM, ↓ev_tvM, ↓ev_tnM, ↓ev_taM, ↓ev_toM, ↓ev_op2, ↓ev_gV, ↓ev_kM, ↓ev_rtM, ↓ev_exM, ↓ev_neM, ↓ev_notM, ↓ev_andM, ↓ev_orM, ↓ev_nxM, ↓ev_app, ↓ev_nil, ↓ev_cons, ↓ev_callF, ↓ev_callM, ↓ev_slM, ↓ev_ptM, ↓ev_asI, ↓ev_seM, ↓ev_itL, ↓ev_itT, ↓ev_mkT, ↓ev_mkL, ↓ev_lcM, ↓ev_dispM, ↓ev_lft, ↓thenK_nx, ↓thenK_rt, ↓thenK_bk, ↓thenK_ct, ↓tgK_s, ↓outK_rt, ↓outK_nx, ↓vK_s, ↓turnK_nx, ↓turnK_rt, ↓turnK_bk, ↓turnK_ct, ↓ev_asB, ↓ev_add, ↓ev_sub, ↓ev_mul, ↓ev_fdiv, ↓ev_mod, ↓ev_pow, ↓ev_neg, ↓ev_eqI, ↓ev_neI, ↓ev_lt, ↓ev_le, ↓ev_gt, ↓ev_ge, ↓ev_gcd, ↓ev_absI, ↓ev_maxI, ↓ev_minI, ↓ev_intI, ↓ev_intB, ↓ev_tupT, ↓ev_tupL, ↓ev_lstT, ↓ev_lstL, ↓ev_lenT, ↓ev_lenL, ↓ev_catL, ↓ev_catT, ↓ev_ixT, ↓ev_ixL, ↓ev_slT, ↓ev_slL, ↓ev_isN, ↓ev_isNotN, ↓ev_zipTT, ↓ev_enumT, ↓ev_enumL, ↓ev_eqS, startD, pick, setTg, setAll, wipeD, List.map_cons, List.map_nil, List.length_cons, List.length_nil, List.cons_append, List.nil_append, List.getElem?_cons_zero, List.getElem?_cons_succ, List.set_cons_zero, List.set_cons_succ, List.replicate_succ, List.replicate_zero, List.filterMap_cons, List.filterMap_nil, Nat.reduceAdd, Nat.reduceSub, Nat.reduceLeDiff, and_self, if_true, decide_eq_true_eq, true_and, and_true, List.set_nil, List.length_set]
  unfold sgn
  by_cases h : i = 0
  · subst h; rfl
  · by_cases h2 : 0 < i
    · have h3 : ¬ i < 0 := by omega
      simp [h, h2, h3]
    · have h3 : i < 0 := by omega
      simp [h, h2, h3]
def sq (b : Bool) (ns : List Int) : D := match b with
  | true => .lst (ns.map .int)
  | false => .tup (ns.map .int)
abbrev tp (ns : List Int) : D := .tup (ns.map .int)
def BB : Nat := 2 ^ 1900
set_option exponentiation.threshold 3000 in
theorem BB_pos : 0 < BB := Nat.pow_pos (by decide)
set_option exponentiation.threshold 3000 in
theorem log_BB {n : Nat} (h : n < BB) : n.log2 < 1900 := by
  by_cases z : n = 0
  · subst z; decide
  · exact (Nat.log2_lt z).mpr h
theorem divOk_BB {g : Nat} (h0 : g ≠ 0) (h : g < BB) : divOk (g : Int) = true := by
  unfold divOk
  have := log_BB h
  simp only [Bool.and_eq_true, decide_eq_true_eq, Int.natAbs_natCast]
  omega
def commonB : List D → M D := outD (sqM (setM (kM (.int 0)) 1) (sqM (foM (seM (gV 0)) (.v 2) (sqM (setM (appM absF [(gV 2)]) 3) (sqM (whM (tvM (op2 (gV 3) (kM (.int 0)) neD)) (sqM (asgM (appM mkT [(gV 3), (op2 (appM intF [(gV 1)]) (gV 3) modD)]) (.t [1, 3])) nxM)) nxM))) (sqM (rtM (gV 1)) nxM))) 4
set_option exponentiation.threshold 3000 in
theorem common_ok (b : Bool) (ns : List Int) (μ : Mu) (hb : ∀ x ∈ ns, x.natAbs < BB) : commonB [sq b ns] μ = .ok (.int (gcdL ns : Int)) μ := by
  refine ev_eq ?_
  have loop : ∀ (d : D) (m : Mu), Ev (forD (.v 2) (sqM (setM (appM absF [(gV 2)]) 3) (sqM (whM (tvM (op2 (gV 3) (kM (.int 0)) neD)) (sqM (asgM (appM mkT [(gV 3), (op2 (appM intF [(gV 1)]) (gV 3) modD)]) (.t [1, 3])) nxM)) nxM)) (ns.map .int) [some d, some (.int 0), none, none] m)
      (thenK (sqM (rtM (gV 1)) nxM) (outK fun b μ' => b = .int (gcdL ns : Int) ∧ μ' = m)) := fun d m => by
    refine ev_for (fun ds ρ μ' => μ' = m ∧ ∃ (a : Nat) (o o2 : Option D) (ms : List Int), ρ = [some d, some (.int a), o, o2] ∧ ds = ms.map .int ∧ gcdA a ms = gcdL ns ∧ ∀ x ∈ ms, x.natAbs < BB) ?_ ?_ _ _ _ ⟨rfl, 0, none, none, ns, rfl, rfl, rfl, hb⟩
    · rintro x rest ρ μ' ⟨rfl, a, o, o2, ms, rfl, e, q, hB⟩
      cases ms with
      | nil => cases e
      | cons y ms =>
        cases e
        refine ⟨_, rfl, ?_⟩
        have ey : (if y < 0 then -y else y) = (y.natAbs : Int) := by split <;> omega
        simp only [↓ev_out, ↓ev_sqM, ↓ev_foM, ↓ev_setM, ↓ev_asgM, ↓ev_putM, ↓ev_ifM, ↓ev_tvM, ↓ev_tnM, ↓ev_taM, ↓ev_toM, ↓ev_op2, ↓ev_gV, ↓ev_kM, ↓ev_rtM, ↓ev_exM, ↓ev_neM, ↓ev_notM, ↓ev_andM, ↓ev_orM, ↓ev_nxM, ↓ev_app, ↓ev_nil, ↓ev_cons, ↓ev_callF, ↓ev_callM, ↓ev_slM, ↓ev_ptM, ↓ev_asI, ↓ev_seM, ↓ev_itL, ↓ev_itT, ↓ev_mkT, ↓ev_mkL, ↓ev_lcM, ↓ev_dispM, ↓ev_lft, ↓thenK_nx, ↓thenK_rt, ↓thenK_bk, ↓thenK_ct, ↓tgK_s, ↓outK_rt, ↓outK_nx, ↓vK_s, ↓turnK_nx, ↓turnK_rt, ↓turnK_bk, ↓turnK_ct, ↓ev_asB, ↓ev_add, ↓ev_sub, ↓ev_mul, ↓ev_fdiv, ↓ev_mod, ↓ev_pow, ↓ev_neg, ↓ev_eqI, ↓ev_neI, ↓ev_lt, ↓ev_le, ↓ev_gt, ↓ev_ge, ↓ev_gcd, ↓ev_absI, ↓ev_maxI, ↓ev_minI, ↓ev_intI, ↓ev_intB, ↓ev_tupT, ↓ev_tupL, ↓ev_lstT, ↓ev_lstL, ↓ev_lenT, ↓ev_lenL, ↓ev_catL, ↓ev_catT, ↓ev_ixT, ↓ev_ixL, ↓ev_slT, ↓ev_slL, ↓ev_isN, ↓ev_isNotN, ↓ev_zipTT, ↓ev_enumT, ↓ev_enumL, ↓ev_eqS, startD, pick, setTg, setAll, wipeD, List.map_cons, List.map_nil, List.length_cons, List.length_nil, List.cons_append, List.nil_append, List.getElem?_cons_zero, List.getElem?_cons_succ, List.set_cons_zero, List.set_cons_succ, List.replicate_succ, List.replicate_zero, List.filterMap_cons, List.filterMap_nil, Nat.reduceAdd, Nat.reduceSub, Nat.reduceLeDiff, and_self, if_true, decide_eq_true_eq, true_and, and_true, List.set_nil, List.length_set, ey]
        show Ev (whD _ _ WF _ _) _
        refine ev_wh (fun n ρ μ2 => μ2 = μ' ∧ ∃ f r : Nat, ρ = [some d, some (.int f), some (.int y), some (.int r)] ∧ Nat.gcd f r = Nat.gcd a y.natAbs ∧ EuN n f r) ?_ (2 * 1900) WF _ _ (by decide) ⟨rfl, a, y.natAbs, rfl, rfl, .inl ⟨1900, rfl, hB y List.mem_cons_self⟩⟩
        rintro n ρ μ2 ⟨rfl, f, r, rfl, hg, he⟩
        simp only [↓ev_out, ↓ev_sqM, ↓ev_foM, ↓ev_setM, ↓ev_asgM, ↓ev_putM, ↓ev_ifM, ↓ev_tvM, ↓ev_tnM, ↓ev_taM, ↓ev_toM, ↓ev_op2, ↓ev_gV, ↓ev_kM, ↓ev_rtM, ↓ev_exM, ↓ev_neM, ↓ev_notM, ↓ev_andM, ↓ev_orM, ↓ev_nxM, ↓ev_app, ↓ev_nil, ↓ev_cons, ↓ev_callF, ↓ev_callM, ↓ev_slM, ↓ev_ptM, ↓ev_asI, ↓ev_seM, ↓ev_itL, ↓ev_itT, ↓ev_mkT, ↓ev_mkL, ↓ev_lcM, ↓ev_dispM, ↓ev_lft, ↓thenK_nx, ↓thenK_rt, ↓thenK_bk, ↓thenK_ct, ↓tgK_s, ↓outK_rt, ↓outK_nx, ↓vK_s, ↓turnK_nx, ↓turnK_rt, ↓turnK_bk, ↓turnK_ct, ↓ev_asB, ↓ev_add, ↓ev_sub, ↓ev_mul, ↓ev_fdiv, ↓ev_mod, ↓ev_pow, ↓ev_neg, ↓ev_eqI, ↓ev_neI, ↓ev_lt, ↓ev_le, ↓ev_gt, ↓ev_ge, ↓ev_gcd, ↓ev_absI, ↓ev_maxI, ↓ev_minI, ↓ev_intI, ↓ev_intB, ↓ev_tupT, ↓ev_tupL, ↓ev_lstT, ↓ev_lstL, ↓ev_lenT, ↓ev_lenL, ↓ev_catL, ↓ev_catT, ↓ev_ixT, ↓ev_ixL, ↓ev_slT, ↓ev_slL, ↓ev_isN, ↓ev_isNotN, ↓ev_zipTT, ↓ev_enumT, ↓ev_enumL, ↓ev_eqS, startD, pick, setTg, setAll, wipeD, List.map_cons, List.map_nil, List.length_cons, List.length_nil, List.cons_append, List.nil_append, List.getElem?_cons_zero, List.getElem?_cons_succ, List.set_cons_zero, List.set_cons_succ, List.replicate_succ, List.replicate_zero, List.filterMap_cons, List.filterMap_nil, Nat.reduceAdd, Nat.reduceSub, Nat.reduceLeDiff, and_self, if_true, decide_eq_true_eq, true_and, and_true, List.set_nil, List.length_set]
        by_cases hr : r = 0
        · subst hr
          rw [Nat.gcd_zero_right] at hg
          simp only [Int.natCast_zero, decide_true, Bool.not_true, Bool.false_eq_true, if_false, ↓ev_out, ↓ev_sqM, ↓ev_foM, ↓ev_setM, ↓ev_asgM, ↓ev_putM, ↓ev_ifM, ↓ev_tvM, ↓ev_tnM, ↓ev_taM, ↓ev_toM, ↓ev_op2, ↓ev_gV, ↓ev_kM, ↓ev_rtM, ↓ev_exM, ↓ev_neM, ↓ev_notM, ↓ev_andM, ↓ev_orM, ↓ev_nxM, ↓ev_app, ↓ev_nil, ↓ev_cons, ↓ev_callF, ↓ev_callM, ↓ev_slM, ↓ev_ptM, ↓ev_asI, ↓ev_seM, ↓ev_itL, ↓ev_itT, ↓ev_mkT, ↓ev_mkL, ↓ev_lcM, ↓ev_dispM, ↓ev_lft, ↓thenK_nx, ↓thenK_rt, ↓thenK_bk, ↓thenK_ct, ↓tgK_s, ↓outK_rt, ↓outK_nx, ↓vK_s, ↓turnK_nx, ↓turnK_rt, ↓turnK_bk, ↓turnK_ct, ↓ev_asB, ↓ev_add, ↓ev_sub, ↓ev_mul, ↓ev_fdiv, ↓ev_mod, ↓ev_pow, ↓ev_neg, ↓ev_eqI, ↓ev_neI, ↓ev_lt, ↓ev_le, ↓ev_gt, ↓ev_ge, ↓ev_gcd, ↓ev_absI, ↓ev_maxI, ↓ev_minI, ↓ev_intI, ↓ev_intB, ↓ev_tupT, ↓ev_tupL, ↓ev_lstT, ↓ev_lstL, ↓ev_lenT, ↓ev_lenL, ↓ev_catL, ↓ev_catT, ↓ev_ixT, ↓ev_ixL, ↓ev_slT, ↓ev_slL, ↓ev_isN, ↓ev_isNotN, ↓ev_zipTT, ↓ev_enumT, ↓ev_enumL, ↓ev_eqS, startD, pick, setTg, setAll, wipeD, List.map_cons, List.map_nil, List.length_cons, List.length_nil, List.cons_append, List.nil_append, List.getElem?_cons_zero, List.getElem?_cons_succ, List.set_cons_zero, List.set_cons_succ, List.replicate_succ, List.replicate_zero, List.filterMap_cons, List.filterMap_nil, Nat.reduceAdd, Nat.reduceSub, Nat.reduceLeDiff, and_self, if_true, decide_eq_true_eq, true_and, and_true, List.set_nil, List.length_set]
          refine ⟨f, _, _, ms, rfl, rfl, ?_, fun x hx => hB x (List.mem_cons_of_mem _ hx)⟩
          rw [hg]
          exact q
        · have hr' : ¬ (r : Int) = 0 := by omega
          obtain ⟨m', e1, e2⟩ := eun_step he hr
          simp only [hr', decide_false, Bool.not_false, if_true]
          refine ⟨m', e1, hr', ?_⟩
          have em : (f : Int).fmod (r : Int) = ((f % r : Nat) : Int) := by rw [Int.fmod_eq_emod_of_nonneg _ (by omega)]; exact (Int.natCast_emod f r).symm
          rw [em]
          refine ⟨r, f % r, rfl, ?_, e2⟩
          rw [← hg, Nat.gcd_comm r, ← Nat.gcd_rec, Nat.gcd_comm]
    · rintro ρ μ' ⟨rfl, a, o, o2, ms, rfl, e, q, hB⟩
      cases ms with
      | cons y ms => cases e
      | nil =>
        simp only [↓ev_out, ↓ev_sqM, ↓ev_foM, ↓ev_setM, ↓ev_asgM, ↓ev_putM, ↓ev_ifM, ↓ev_tvM, ↓ev_tnM, ↓ev_taM, ↓ev_toM, ↓ev_op2, ↓ev_gV, ↓ev_kM, ↓ev_rtM, ↓ev_exM, ↓ev_neM, ↓ev_notM, ↓ev_andM, ↓ev_orM, ↓ev_nxM, ↓ev_app, ↓ev_nil, ↓ev_cons, ↓ev_callF, ↓ev_callM, ↓ev_slM, ↓ev_ptM, ↓ev_asI, ↓ev_seM, ↓ev_itL, ↓ev_itT, ↓ev_mkT, ↓ev_mkL, ↓ev_lcM, ↓ev_dispM, ↓ev_lft, ↓thenK_nx, ↓thenK_rt, ↓thenK_bk, ↓thenK_ct, ↓tgK_s, ↓outK_rt, ↓outK_nx, ↓vK_s, ↓turnK_nx, ↓turnK_rt, ↓turnK_bk, ↓turnK_ct, ↓ev_asB, ↓ev_add, ↓ev_sub, ↓ev_mul, ↓ev_fdiv, ↓ev_mod, ↓ev_pow, ↓ev_neg, ↓ev_eqI, ↓ev_neI, ↓ev_lt, ↓ev_le, ↓ev_gt, ↓ev_ge, ↓ev_gcd, ↓ev_absI, ↓ev_maxI, ↓ev_minI, ↓ev_intI, ↓ev_intB, ↓ev_tupT, ↓ev_tupL, ↓ev_lstT, ↓ev_lstL, ↓ev_lenT, ↓ev_lenL, ↓ev_catL, ↓ev_catT, ↓ev_ixT, ↓ev_ixL, ↓ev_slT, ↓ev_slL, ↓ev_isN, ↓ev_isNotN, ↓ev_zipTT, ↓ev_enumT, ↓ev_enumL, ↓ev_eqS, startD, pick, setTg, setAll, wipeD, List.map_cons, List.map_nil, List.length_cons, List.length_nil, List.cons_append, List.nil_append, List.getElem?_cons_zero, List.getElem?_cons_succ, List.set_cons_zero, List.set_cons_succ, List.replicate_succ, List.replicate_zero, List.filterMap_cons, List.filterMap_nil, Nat.reduceAdd, Nat.reduceSub, Nat.reduceLeDiff, and_self, if_true, decide_eq_true_eq, true_and, and_true, List.set_nil, List.length_set]
        rw [← q]
        rfl
  unfold commonB
  cases b with
  | true =>
    unfold sq
    simp only [↓ev_out, ↓ev_sqM, ↓ev_foM, ↓ev_setM, ↓ev_asgM, ↓ev_putM, ↓ev_ifM, ↓ev_tvM, ↓ev_tnM, ↓ev_taM, ↓ev_toM, ↓ev_op2, ↓ev_gV, ↓ev_kM, ↓ev_rtM, ↓ev_exM, ↓ev_neM, ↓ev_notM, ↓ev_andM, ↓ev_orM, ↓ev_nxM, ↓ev_app, ↓ev_nil, ↓ev_cons, ↓ev_callF, ↓ev_callM, ↓ev_slM, ↓ev_ptM, ↓ev_asI, ↓ev_seM, ↓ev_itL, ↓ev_itT, ↓ev_mkT, ↓ev_mkL, ↓ev_lcM, ↓ev_dispM, ↓ev_lft, ↓thenK_nx, ↓thenK_rt, ↓thenK_bk, ↓thenK_ct, ↓tgK_s, ↓outK_rt, ↓outK_nx, ↓vK_s, ↓turnK_nx, ↓turnK_rt, ↓turnK_bk, ↓turnK_ct, ↓ev_asB, ↓ev_add, ↓ev_sub, ↓ev_mul, ↓ev_fdiv, ↓ev_mod, ↓ev_pow, ↓ev_neg, ↓ev_eqI, ↓ev_neI, ↓ev_lt, ↓ev_le, ↓ev_gt, ↓ev_ge, ↓ev_gcd, ↓ev_absI, ↓ev_maxI, ↓ev_minI, ↓ev_intI, ↓ev_intB, ↓ev_tupT, ↓ev_tupL, ↓ev_lstT, ↓ev_lstL, ↓ev_lenT, ↓ev_lenL, ↓ev_catL, ↓ev_catT, ↓ev_ixT, ↓ev_ixL, ↓ev_slT, ↓ev_slL, ↓ev_isN, ↓ev_isNotN, ↓ev_zipTT, ↓ev_enumT, ↓ev_enumL, ↓ev_eqS, startD, pick, setTg, setAll, wipeD, List.map_cons, List.map_nil, List.length_cons, List.length_nil, List.cons_append, List.nil_append, List.getElem?_cons_zero, List.getElem?_cons_succ, List.set_cons_zero, List.set_cons_succ, List.replicate_succ, List.replicate_zero, List.filterMap_cons, List.filterMap_nil, Nat.reduceAdd, Nat.reduceSub, Nat.reduceLeDiff, and_self, if_true, decide_eq_true_eq, true_and, and_true, List.set_nil, List.length_set]
    exact loop _ _
  | false =>
    unfold sq
    simp only [↓ev_out, ↓ev_sqM, ↓ev_foM, ↓ev_setM, ↓ev_asgM, ↓ev_putM, ↓ev_ifM, ↓ev_tvM, ↓ev_tnM, ↓ev_taM, ↓ev_toM, ↓ev_op2, ↓ev_gV, ↓ev_kM, ↓ev_rtM, ↓ev_exM, ↓ev_neM, ↓ev_notM, ↓ev_andM, ↓ev_orM, ↓ev_nxM, ↓ev_app, ↓ev_nil, ↓ev_cons, ↓ev_callF, ↓ev_callM, ↓ev_slM, ↓ev_ptM, ↓ev_asI, ↓ev_seM, ↓ev_itL, ↓ev_itT, ↓ev_mkT, ↓ev_mkL, ↓ev_lcM, ↓ev_dispM, ↓ev_lft, ↓thenK_nx, ↓thenK_rt, ↓thenK_bk, ↓thenK_ct, ↓tgK_s, ↓outK_rt, ↓outK_nx, ↓vK_s, ↓turnK_nx, ↓turnK_rt, ↓turnK_bk, ↓turnK_ct, ↓ev_asB, ↓ev_add, ↓ev_sub, ↓ev_mul, ↓ev_fdiv, ↓ev_mod, ↓ev_pow, ↓ev_neg, ↓ev_eqI, ↓ev_neI, ↓ev_lt, ↓ev_le, ↓ev_gt, ↓ev_ge, ↓ev_gcd, ↓ev_absI, ↓ev_maxI, ↓ev_minI, ↓ev_intI, ↓ev_intB, ↓ev_tupT, ↓ev_tupL, ↓ev_lstT, ↓ev_lstL, ↓ev_lenT, ↓ev_lenL, ↓ev_catL, ↓ev_catT, ↓ev_ixT, ↓ev_ixL, ↓ev_slT, ↓ev_slL, ↓ev_isN, ↓ev_isNotN, ↓ev_zipTT, ↓ev_enumT, ↓ev_enumL, ↓ev_eqS, startD, pick, setTg, setAll, wipeD, List.map_cons, List.map_nil, List.length_cons, List.length_nil, List.cons_append, List.nil_append, List.getElem?_cons_zero, List.getElem?_cons_succ, List.set_cons_zero, List.set_cons_succ, List.replicate_succ, List.replicate_zero, List.filterMap_cons, List.filterMap_nil, Nat.reduceAdd, Nat.reduceSub, Nat.reduceLeDiff, and_self, if_true, decide_eq_true_eq, true_and, and_true, List.set_nil, List.length_set]
    exact loop _ _
def loweredB (C : List D → M D) : List D → M D := outD (sqM (setM (callF C ⟨1, [], [0]⟩ 1 [(gV 0)] []) 1) (sqM (rtM (ifM (tvM (op2 (gV 1) (kM (.int 1)) gtD)) (appM tupF [(lcM (seM (gV 0)) (.v 2) (kM true) (op2 (gV 2) (gV 1) fdivD) [2])]) (appM tupF [(gV 0)]))) nxM)) 3
theorem lowered_ok {C : List D → M D} (b : Bool) (ns : List Int) (μ : Mu) (hC : C [sq b ns] μ = .ok (.int (gcdL ns : Int)) μ) (hb : ∀ x ∈ ns, x.natAbs < BB) (hl : ns.length ≤ 1000) : loweredB C [sq b ns] μ = .ok (tp (lowL ns)) μ := by
  refine ev_eq ?_
  unfold loweredB
  simp only [↓ev_out, ↓ev_sqM, ↓ev_foM, ↓ev_setM, ↓ev_asgM, ↓ev_putM, ↓ev_ifM, ↓ev_tvM, ↓ev_tnM, ↓ev_taM, ↓ev_toM, ↓ev_op2, ↓ev_gV, ↓ev_kM, ↓ev_rtM, ↓ev_exM, ↓ev_neM, ↓ev_notM, ↓ev_andM, ↓ev_orM, ↓ev_nxM, ↓ev_app, ↓ev_nil, ↓ev_cons, ↓ev_callF, ↓ev_callM, ↓ev_slM, ↓ev_ptM, ↓ev_asI, ↓ev_seM, ↓ev_itL, ↓ev_itT, ↓ev_mkT, ↓ev_mkL, ↓ev_lcM, ↓ev_dispM, ↓ev_lft, ↓thenK_nx, ↓thenK_rt, ↓thenK_bk, ↓thenK_ct, ↓tgK_s, ↓outK_rt, ↓outK_nx, ↓vK_s, ↓turnK_nx, ↓turnK_rt, ↓turnK_bk, ↓turnK_ct, ↓ev_asB, ↓ev_add, ↓ev_sub, ↓ev_mul, ↓ev_fdiv, ↓ev_mod, ↓ev_pow, ↓ev_neg, ↓ev_eqI, ↓ev_neI, ↓ev_lt, ↓ev_le, ↓ev_gt, ↓ev_ge, ↓ev_gcd, ↓ev_absI, ↓ev_maxI, ↓ev_minI, ↓ev_intI, ↓ev_intB, ↓ev_tupT, ↓ev_tupL, ↓ev_lstT, ↓ev_lstL, ↓ev_lenT, ↓ev_lenL, ↓ev_catL, ↓ev_catT, ↓ev_ixT, ↓ev_ixL, ↓ev_slT, ↓ev_slL, ↓ev_isN, ↓ev_isNotN, ↓ev_zipTT, ↓ev_enumT, ↓ev_enumL, ↓ev_eqS, startD, pick, setTg, setAll, wipeD, List.map_cons, List.map_nil, List.length_cons, List.length_nil, List.cons_append, List.nil_append, List.getElem?_cons_zero, List.getElem?_cons_succ, List.set_cons_zero, List.set_cons_succ, List.replicate_succ, List.replicate_zero, List.filterMap_cons, List.filterMap_nil, Nat.reduceAdd, Nat.reduceSub, Nat.reduceLeDiff, and_self, if_true, decide_eq_true_eq, true_and, and_true, List.set_nil, List.length_set]
  refine (ev_of hC).mpr ?_
  simp only [↓ev_out, ↓ev_sqM, ↓ev_foM, ↓ev_setM, ↓ev_asgM, ↓ev_putM, ↓ev_ifM, ↓ev_tvM, ↓ev_tnM, ↓ev_taM, ↓ev_toM, ↓ev_op2, ↓ev_gV, ↓ev_kM, ↓ev_rtM, ↓ev_exM, ↓ev_neM, ↓ev_notM, ↓ev_andM, ↓ev_orM, ↓ev_nxM, ↓ev_app, ↓ev_nil, ↓ev_cons, ↓ev_callF, ↓ev_callM, ↓ev_slM, ↓ev_ptM, ↓ev_asI, ↓ev_seM, ↓ev_itL, ↓ev_itT, ↓ev_mkT, ↓ev_mkL, ↓ev_lcM, ↓ev_dispM, ↓ev_lft, ↓thenK_nx, ↓thenK_rt, ↓thenK_bk, ↓thenK_ct, ↓tgK_s, ↓outK_rt, ↓outK_nx, ↓vK_s, ↓turnK_nx, ↓turnK_rt, ↓turnK_bk, ↓turnK_ct, ↓ev_asB, ↓ev_add, ↓ev_sub, ↓ev_mul, ↓ev_fdiv, ↓ev_mod, ↓ev_pow, ↓ev_neg, ↓ev_eqI, ↓ev_neI, ↓ev_lt, ↓ev_le, ↓ev_gt, ↓ev_ge, ↓ev_gcd, ↓ev_absI, ↓ev_maxI, ↓ev_minI, ↓ev_intI, ↓ev_intB, ↓ev_tupT, ↓ev_tupL, ↓ev_lstT, ↓ev_lstL, ↓ev_lenT, ↓ev_lenL, ↓ev_catL, ↓ev_catT, ↓ev_ixT, ↓ev_ixL, ↓ev_slT, ↓ev_slL, ↓ev_isN, ↓ev_isNotN, ↓ev_zipTT, ↓ev_enumT, ↓ev_enumL, ↓ev_eqS, startD, pick, setTg, setAll, wipeD, List.map_cons, List.map_nil, List.length_cons, List.length_nil, List.cons_append, List.nil_append, List.getElem?_cons_zero, List.getElem?_cons_succ, List.set_cons_zero, List.set_cons_succ, List.replicate_succ, List.replicate_zero, List.filterMap_cons, List.filterMap_nil, Nat.reduceAdd, Nat.reduceSub, Nat.reduceLeDiff, and_self, if_true, decide_eq_true_eq, true_and, and_true, List.set_nil, List.length_set]
  have hg := gcdL_bound BB_pos ns hb
  unfold lowL
  by_cases h : gcdL ns < 2
  · have h' : ¬ (1 : Int) < (gcdL ns : Int) := by omega
    simp only [if_pos h, h', if_false, ↓ev_out, ↓ev_sqM, ↓ev_foM, ↓ev_setM, ↓ev_asgM, ↓ev_putM, ↓ev_ifM, ↓ev_tvM, ↓ev_tnM, ↓ev_taM, ↓ev_toM, ↓ev_op2, ↓ev_gV, ↓ev_kM, ↓ev_rtM, ↓ev_exM, ↓ev_neM, ↓ev_notM, ↓ev_andM, ↓ev_orM, ↓ev_nxM, ↓ev_app, ↓ev_nil, ↓ev_cons, ↓ev_callF, ↓ev_callM, ↓ev_slM, ↓ev_ptM, ↓ev_asI, ↓ev_seM, ↓ev_itL, ↓ev_itT, ↓ev_mkT, ↓ev_mkL, ↓ev_lcM, ↓ev_dispM, ↓ev_lft, ↓thenK_nx, ↓thenK_rt, ↓thenK_bk, ↓thenK_ct, ↓tgK_s, ↓outK_rt, ↓outK_nx, ↓vK_s, ↓turnK_nx, ↓turnK_rt, ↓turnK_bk, ↓turnK_ct, ↓ev_asB, ↓ev_add, ↓ev_sub, ↓ev_mul, ↓ev_fdiv, ↓ev_mod, ↓ev_pow, ↓ev_neg, ↓ev_eqI, ↓ev_neI, ↓ev_lt, ↓ev_le, ↓ev_gt, ↓ev_ge, ↓ev_gcd, ↓ev_absI, ↓ev_maxI, ↓ev_minI, ↓ev_intI, ↓ev_intB, ↓ev_tupT, ↓ev_tupL, ↓ev_lstT, ↓ev_lstL, ↓ev_lenT, ↓ev_lenL, ↓ev_catL, ↓ev_catT, ↓ev_ixT, ↓ev_ixL, ↓ev_slT, ↓ev_slL, ↓ev_isN, ↓ev_isNotN, ↓ev_zipTT, ↓ev_enumT, ↓ev_enumL, ↓ev_eqS, startD, pick, setTg, setAll, wipeD, List.map_cons, List.map_nil, List.length_cons, List.length_nil, List.cons_append, List.nil_append, List.getElem?_cons_zero, List.getElem?_cons_succ, List.set_cons_zero, List.set_cons_succ, List.replicate_succ, List.replicate_zero, List.filterMap_cons, List.filterMap_nil, Nat.reduceAdd, Nat.reduceSub, Nat.reduceLeDiff, and_self, if_true, decide_eq_true_eq, true_and, and_true, List.set_nil, List.length_set]
    cases b <;> (unfold sq; simp only [↓ev_out, ↓ev_sqM, ↓ev_foM, ↓ev_setM, ↓ev_asgM, ↓ev_putM, ↓ev_ifM, ↓ev_tvM, ↓ev_tnM, ↓ev_taM, ↓ev_toM, ↓ev_op2, ↓ev_gV, ↓ev_kM, ↓ev_rtM, ↓ev_exM, ↓ev_neM, ↓ev_notM, ↓ev_andM, ↓ev_orM, ↓ev_nxM, ↓ev_app, ↓ev_nil, ↓ev_cons, ↓ev_callF, ↓ev_callM, ↓ev_slM, ↓ev_ptM, ↓ev_asI, ↓ev_seM, ↓ev_itL, ↓ev_itT, ↓ev_mkT, ↓ev_mkL, ↓ev_lcM, ↓ev_dispM, ↓ev_lft, ↓thenK_nx, ↓thenK_rt, ↓thenK_bk, ↓thenK_ct, ↓tgK_s, ↓outK_rt, ↓outK_nx, ↓vK_s, ↓turnK_nx, ↓turnK_rt, ↓turnK_bk, ↓turnK_ct, ↓ev_asB, ↓ev_add, ↓ev_sub, ↓ev_mul, ↓ev_fdiv, ↓ev_mod, ↓ev_pow, ↓ev_neg, ↓ev_eqI, ↓ev_neI, ↓ev_lt, ↓ev_le, ↓ev_gt, ↓ev_ge, ↓ev_gcd, ↓ev_absI, ↓ev_maxI, ↓ev_minI, ↓ev_intI, ↓ev_intB, ↓ev_tupT, ↓ev_tupL, ↓ev_lstT, ↓ev_lstL, ↓ev_lenT, ↓ev_lenL, ↓ev_catL, ↓ev_catT, ↓ev_ixT, ↓ev_ixL, ↓ev_slT, ↓ev_slL, ↓ev_isN, ↓ev_isNotN, ↓ev_zipTT, ↓ev_enumT, ↓ev_enumL, ↓ev_eqS, startD, pick, setTg, setAll, wipeD, List.map_cons, List.map_nil, List.length_cons, List.length_nil, List.cons_append, List.nil_append, List.getElem?_cons_zero, List.getElem?_cons_succ, List.set_cons_zero, List.set_cons_succ, List.replicate_succ, List.replicate_zero, List.filterMap_cons, List.filterMap_nil, Nat.reduceAdd, Nat.reduceSub, Nat.reduceLeDiff, and_self, if_true, decide_eq_true_eq, true_and, and_true, List.set_nil, List.length_set])
  · have h' : (1 : Int) < (gcdL ns : Int) := by omega
    simp only [if_neg h, h', if_true, ↓ev_out, ↓ev_sqM, ↓ev_foM, ↓ev_setM, ↓ev_asgM, ↓ev_putM, ↓ev_ifM, ↓ev_tvM, ↓ev_tnM, ↓ev_taM, ↓ev_toM, ↓ev_op2, ↓ev_gV, ↓ev_kM, ↓ev_rtM, ↓ev_exM, ↓ev_neM, ↓ev_notM, ↓ev_andM, ↓ev_orM, ↓ev_nxM, ↓ev_app, ↓ev_nil, ↓ev_cons, ↓ev_callF, ↓ev_callM, ↓ev_slM, ↓ev_ptM, ↓ev_asI, ↓ev_seM, ↓ev_itL, ↓ev_itT, ↓ev_mkT, ↓ev_mkL, ↓ev_lcM, ↓ev_dispM, ↓ev_lft, ↓thenK_nx, ↓thenK_rt, ↓thenK_bk, ↓thenK_ct, ↓tgK_s, ↓outK_rt, ↓outK_nx, ↓vK_s, ↓turnK_nx, ↓turnK_rt, ↓turnK_bk, ↓turnK_ct, ↓ev_asB, ↓ev_add, ↓ev_sub, ↓ev_mul, ↓ev_fdiv, ↓ev_mod, ↓ev_pow, ↓ev_neg, ↓ev_eqI, ↓ev_neI, ↓ev_lt, ↓ev_le, ↓ev_gt, ↓ev_ge, ↓ev_gcd, ↓ev_absI, ↓ev_maxI, ↓ev_minI, ↓ev_intI, ↓ev_intB, ↓ev_tupT, ↓ev_tupL, ↓ev_lstT, ↓ev_lstL, ↓ev_lenT, ↓ev_lenL, ↓ev_catL, ↓ev_catT, ↓ev_ixT, ↓ev_ixL, ↓ev_slT, ↓ev_slL, ↓ev_isN, ↓ev_isNotN, ↓ev_zipTT, ↓ev_enumT, ↓ev_enumL, ↓ev_eqS, startD, pick, setTg, setAll, wipeD, List.map_cons, List.map_nil, List.length_cons, List.length_nil, List.cons_append, List.nil_append, List.getElem?_cons_zero, List.getElem?_cons_succ, List.set_cons_zero, List.set_cons_succ, List.replicate_succ, List.replicate_zero, List.filterMap_cons, List.filterMap_nil, Nat.reduceAdd, Nat.reduceSub, Nat.reduceLeDiff, and_self, if_true, decide_eq_true_eq, true_and, and_true, List.set_nil, List.length_set]
    have lc : ∀ ρ : Rho, ρ = [some (sq b ns), some (.int (gcdL ns : Int)), none] → lcD (.v 2) (kM true) (op2 (gV 2) (gV 1) fdivD) (ns.map .int) ρ μ = .ok (ns.map fun x => .int (x.fdiv (gcdL ns : Int))) μ := fun ρ e => by
      subst e
      refine lc_ints (fun x => .int (x.fdiv (gcdL ns : Int))) fun x hx => ?_
      simp only [↓ev_out, ↓ev_sqM, ↓ev_foM, ↓ev_setM, ↓ev_asgM, ↓ev_putM, ↓ev_ifM, ↓ev_tvM, ↓ev_tnM, ↓ev_taM, ↓ev_toM, ↓ev_op2, ↓ev_gV, ↓ev_kM, ↓ev_rtM, ↓ev_exM, ↓ev_neM, ↓ev_notM, ↓ev_andM, ↓ev_orM, ↓ev_nxM, ↓ev_app, ↓ev_nil, ↓ev_cons, ↓ev_callF, ↓ev_callM, ↓ev_slM, ↓ev_ptM, ↓ev_asI, ↓ev_seM, ↓ev_itL, ↓ev_itT, ↓ev_mkT, ↓ev_mkL, ↓ev_lcM, ↓ev_dispM, ↓ev_lft, ↓thenK_nx, ↓thenK_rt, ↓thenK_bk, ↓thenK_ct, ↓tgK_s, ↓outK_rt, ↓outK_nx, ↓vK_s, ↓turnK_nx, ↓turnK_rt, ↓turnK_bk, ↓turnK_ct, ↓ev_asB, ↓ev_add, ↓ev_sub, ↓ev_mul, ↓ev_fdiv, ↓ev_mod, ↓ev_pow, ↓ev_neg, ↓ev_eqI, ↓ev_neI, ↓ev_lt, ↓ev_le, ↓ev_gt, ↓ev_ge, ↓ev_gcd, ↓ev_absI, ↓ev_maxI, ↓ev_minI, ↓ev_intI, ↓ev_intB, ↓ev_tupT, ↓ev_tupL, ↓ev_lstT, ↓ev_lstL, ↓ev_lenT, ↓ev_lenL, ↓ev_catL, ↓ev_catT, ↓ev_ixT, ↓ev_ixL, ↓ev_slT, ↓ev_slL, ↓ev_isN, ↓ev_isNotN, ↓ev_zipTT, ↓ev_enumT, ↓ev_enumL, ↓ev_eqS, startD, pick, setTg, setAll, wipeD, List.map_cons, List.map_nil, List.length_cons, List.length_nil, List.cons_append, List.nil_append, List.getElem?_cons_zero, List.getElem?_cons_succ, List.set_cons_zero, List.set_cons_succ, List.replicate_succ, List.replicate_zero, List.filterMap_cons, List.filterMap_nil, Nat.reduceAdd, Nat.reduceSub, Nat.reduceLeDiff, and_self, if_true, decide_eq_true_eq, true_and, and_true, List.set_nil, List.length_set]
      exact divOk_BB (by omega) hg
    cases b with
    | true =>
      unfold sq
      simp only [↓ev_out, ↓ev_sqM, ↓ev_foM, ↓ev_setM, ↓ev_asgM, ↓ev_putM, ↓ev_ifM, ↓ev_tvM, ↓ev_tnM, ↓ev_taM, ↓ev_toM, ↓ev_op2, ↓ev_gV, ↓ev_kM, ↓ev_rtM, ↓ev_exM, ↓ev_neM, ↓ev_notM, ↓ev_andM, ↓ev_orM, ↓ev_nxM, ↓ev_app, ↓ev_nil, ↓ev_cons, ↓ev_callF, ↓ev_callM, ↓ev_slM, ↓ev_ptM, ↓ev_asI, ↓ev_seM, ↓ev_itL, ↓ev_itT, ↓ev_mkT, ↓ev_mkL, ↓ev_lcM, ↓ev_dispM, ↓ev_lft, ↓thenK_nx, ↓thenK_rt, ↓thenK_bk, ↓thenK_ct, ↓tgK_s, ↓outK_rt, ↓outK_nx, ↓vK_s, ↓turnK_nx, ↓turnK_rt, ↓turnK_bk, ↓turnK_ct, ↓ev_asB, ↓ev_add, ↓ev_sub, ↓ev_mul, ↓ev_fdiv, ↓ev_mod, ↓ev_pow, ↓ev_neg, ↓ev_eqI, ↓ev_neI, ↓ev_lt, ↓ev_le, ↓ev_gt, ↓ev_ge, ↓ev_gcd, ↓ev_absI, ↓ev_maxI, ↓ev_minI, ↓ev_intI, ↓ev_intB, ↓ev_tupT, ↓ev_tupL, ↓ev_lstT, ↓ev_lstL, ↓ev_lenT, ↓ev_lenL, ↓ev_catL, ↓ev_catT, ↓ev_ixT, ↓ev_ixL, ↓ev_slT, ↓ev_slL, ↓ev_isN, ↓ev_isNotN, ↓ev_zipTT, ↓ev_enumT, ↓ev_enumL, ↓ev_eqS, startD, pick, setTg, setAll, wipeD, List.map_cons, List.map_nil, List.length_cons, List.length_nil, List.cons_append, List.nil_append, List.getElem?_cons_zero, List.getElem?_cons_succ, List.set_cons_zero, List.set_cons_succ, List.replicate_succ, List.replicate_zero, List.filterMap_cons, List.filterMap_nil, Nat.reduceAdd, Nat.reduceSub, Nat.reduceLeDiff, and_self, if_true, decide_eq_true_eq, true_and, and_true, List.set_nil, List.length_set]
      refine (ev_of (lc _ rfl)).mpr ?_
      simp only [List.length_map, if_pos (show ns.length ≤ 1000000 by omega), ↓ev_out, ↓ev_sqM, ↓ev_foM, ↓ev_setM, ↓ev_asgM, ↓ev_putM, ↓ev_ifM, ↓ev_tvM, ↓ev_tnM, ↓ev_taM, ↓ev_toM, ↓ev_op2, ↓ev_gV, ↓ev_kM, ↓ev_rtM, ↓ev_exM, ↓ev_neM, ↓ev_notM, ↓ev_andM, ↓ev_orM, ↓ev_nxM, ↓ev_app, ↓ev_nil, ↓ev_cons, ↓ev_callF, ↓ev_callM, ↓ev_slM, ↓ev_ptM, ↓ev_asI, ↓ev_seM, ↓ev_itL, ↓ev_itT, ↓ev_mkT, ↓ev_mkL, ↓ev_lcM, ↓ev_dispM, ↓ev_lft, ↓thenK_nx, ↓thenK_rt, ↓thenK_bk, ↓thenK_ct, ↓tgK_s, ↓outK_rt, ↓outK_nx, ↓vK_s, ↓turnK_nx, ↓turnK_rt, ↓turnK_bk, ↓turnK_ct, ↓ev_asB, ↓ev_add, ↓ev_sub, ↓ev_mul, ↓ev_fdiv, ↓ev_mod, ↓ev_pow, ↓ev_neg, ↓ev_eqI, ↓ev_neI, ↓ev_lt, ↓ev_le, ↓ev_gt, ↓ev_ge, ↓ev_gcd, ↓ev_absI, ↓ev_maxI, ↓ev_minI, ↓ev_intI, ↓ev_intB, ↓ev_tupT, ↓ev_tupL, ↓ev_lstT, ↓ev_lstL, ↓ev_lenT, ↓ev_lenL, ↓ev_catL, ↓ev_catT, ↓ev_ixT, ↓ev_ixL, ↓ev_slT, ↓ev_slL, ↓ev_isN, ↓ev_isNotN, ↓ev_zipTT, ↓ev_enumT, ↓ev_enumL, ↓ev_eqS, startD, pick, setTg, setAll, wipeD, List.map_cons, List.map_nil, List.length_cons, List.length_nil, List.cons_append, List.nil_append, List.getElem?_cons_zero, List.getElem?_cons_succ, List.set_cons_zero, List.set_cons_succ, List.replicate_succ, List.replicate_zero, List.filterMap_cons, List.filterMap_nil, Nat.reduceAdd, Nat.reduceSub, Nat.reduceLeDiff, and_self, if_true, decide_eq_true_eq, true_and, and_true, List.set_nil, List.length_set]
      show D.tup _ = D.tup (List.map D.int (List.map _ ns))
      rw [List.map_map]
      rfl
    | false =>
      unfold sq
      simp only [↓ev_out, ↓ev_sqM, ↓ev_foM, ↓ev_setM, ↓ev_asgM, ↓ev_putM, ↓ev_ifM, ↓ev_tvM, ↓ev_tnM, ↓ev_taM, ↓ev_toM, ↓ev_op2, ↓ev_gV, ↓ev_kM, ↓ev_rtM, ↓ev_exM, ↓ev_neM, ↓ev_notM, ↓ev_andM, ↓ev_orM, ↓ev_nxM, ↓ev_app, ↓ev_nil, ↓ev_cons, ↓ev_callF, ↓ev_callM, ↓ev_slM, ↓ev_ptM, ↓ev_asI, ↓ev_seM, ↓ev_itL, ↓ev_itT, ↓ev_mkT, ↓ev_mkL, ↓ev_lcM, ↓ev_dispM, ↓ev_lft, ↓thenK_nx, ↓thenK_rt, ↓thenK_bk, ↓thenK_ct, ↓tgK_s, ↓outK_rt, ↓outK_nx, ↓vK_s, ↓turnK_nx, ↓turnK_rt, ↓turnK_bk, ↓turnK_ct, ↓ev_asB, ↓ev_add, ↓ev_sub, ↓ev_mul, ↓ev_fdiv, ↓ev_mod, ↓ev_pow, ↓ev_neg, ↓ev_eqI, ↓ev_neI, ↓ev_lt, ↓ev_le, ↓ev_gt, ↓ev_ge, ↓ev_gcd, ↓ev_absI, ↓ev_maxI, ↓ev_minI, ↓ev_intI, ↓ev_intB, ↓ev_tupT, ↓ev_tupL, ↓ev_lstT, ↓ev_lstL, ↓ev_lenT, ↓ev_lenL, ↓ev_catL, ↓ev_catT, ↓ev_ixT, ↓ev_ixL, ↓ev_slT, ↓ev_slL, ↓ev_isN, ↓ev_isNotN, ↓ev_zipTT, ↓ev_enumT, ↓ev_enumL, ↓ev_eqS, startD, pick, setTg, setAll, wipeD, List.map_cons, List.map_nil, List.length_cons, List.length_nil, List.cons_append, List.nil_append, List.getElem?_cons_zero, List.getElem?_cons_succ, List.set_cons_zero, List.set_cons_succ, List.replicate_succ, List.replicate_zero, List.filterMap_cons, List.filterMap_nil, Nat.reduceAdd, Nat.reduceSub, Nat.reduceLeDiff, and_self, if_true, decide_eq_true_eq, true_and, and_true, List.set_nil, List.length_set]
      refine (ev_of (lc _ rfl)).mpr ?_
      simp only [List.length_map, if_pos (show ns.length ≤ 1000000 by omega), ↓ev_out, ↓ev_sqM, ↓ev_foM, ↓ev_setM, ↓ev_asgM, ↓ev_putM, ↓ev_ifM, ↓ev_tvM, ↓ev_tnM, ↓ev_taM, ↓ev_toM, ↓ev_op2, ↓ev_gV, ↓ev_kM, ↓ev_rtM, ↓ev_exM, ↓ev_neM, ↓ev_notM, ↓ev_andM, ↓ev_orM, ↓ev_nxM, ↓ev_app, ↓ev_nil, ↓ev_cons, ↓ev_callF, ↓ev_callM, ↓ev_slM, ↓ev_ptM, ↓ev_asI, ↓ev_seM, ↓ev_itL, ↓ev_itT, ↓ev_mkT, ↓ev_mkL, ↓ev_lcM, ↓ev_dispM, ↓ev_lft, ↓thenK_nx, ↓thenK_rt, ↓thenK_bk, ↓thenK_ct, ↓tgK_s, ↓outK_rt, ↓outK_nx, ↓vK_s, ↓turnK_nx, ↓turnK_rt, ↓turnK_bk, ↓turnK_ct, ↓ev_asB, ↓ev_add, ↓ev_sub, ↓ev_mul, ↓ev_fdiv, ↓ev_mod, ↓ev_pow, ↓ev_neg, ↓ev_eqI, ↓ev_neI, ↓ev_lt, ↓ev_le, ↓ev_gt, ↓ev_ge, ↓ev_gcd, ↓ev_absI, ↓ev_maxI, ↓ev_minI, ↓ev_intI, ↓ev_intB, ↓ev_tupT, ↓ev_tupL, ↓ev_lstT, ↓ev_lstL, ↓ev_lenT, ↓ev_lenL, ↓ev_catL, ↓ev_catT, ↓ev_ixT, ↓ev_ixL, ↓ev_slT, ↓ev_slL, ↓ev_isN, ↓ev_isNotN, ↓ev_zipTT, ↓ev_enumT, ↓ev_enumL, ↓ev_eqS, startD, pick, setTg, setAll, wipeD, List.map_cons, List.map_nil, List.length_cons, List.length_nil, List.cons_append, List.nil_append, List.getElem?_cons_zero, List.getElem?_cons_succ, List.set_cons_zero, List.set_cons_succ, List.replicate_succ, List.replicate_zero, List.filterMap_cons, List.filterMap_nil, Nat.reduceAdd, Nat.reduceSub, Nat.reduceLeDiff, and_self, if_true, decide_eq_true_eq, true_and, and_true, List.set_nil, List.length_set]
      show D.tup _ = D.tup (List.map D.int (List.map _ ns))
      rw [List.map_map]
      rfl
/-! ### 37. drawing in a comprehension -/
theorem rng1_ok {j : Nat} {μ : Mu} {K : List D → Mu → Prop} (h : j ≤ 1000000) : Ev (rng1 [.int (j : Int)] μ) K ↔ K (rngD 0 j) μ := by
  show Ev ((if rngOk (j : Int) then rt (rngD 0 (j : Int).toNat) else PX.stk) μ) K ↔ _
  have e : rngOk (j : Int) = true := by
    unfold rngOk
    simp only [Bool.and_eq_true, decide_eq_true_eq]
    omega
  rw [if_pos e, Int.toNat_natCast]
  exact Iff.rfl
theorem rngD_length (lo : Int) (n : Nat) : (rngD lo n).length = n := by simp [rngD]
theorem lc_st {i j N cap : Nat} {me : Rho → M D} {ρ : Rho} {Q : D → Prop} : ∀ (ds : List D), (∀ d ∈ ds, ∀ c μ, c + N ≤ cap → MAt j c μ → Ev (me (ρ.set i (some d)) μ) fun y μ' => Q y ∧ Sj j μ μ' ∧ MAt j (c + N) μ') →
    ∀ (c : Nat) (μ : Mu), c + N * ds.length ≤ cap → MAt j c μ → Ev (lcD (.v i) (kM true) me ds ρ μ) fun ys μ' => ys.length = ds.length ∧ (∀ y ∈ ys, Q y) ∧ Sj j μ μ' ∧ MAt j (c + N * ds.length) μ'
  | [], _, c, μ, _, m => ⟨rfl, fun y hy => (List.not_mem_nil hy).elim, Sj.refl j μ, by simpa using m⟩
  | d :: ds, h, c, μ, hc, m => by
    have hN : N * (d :: ds).length = N + N * ds.length := by rw [List.length_cons, Nat.mul_succ]; omega
    show Ev (bd (lft (some (ρ.set i (some d)))) (fun ρ1 => bd (kM true ρ1) fun b => if b = true then bd (me ρ1) fun y => bd (lcD (.v i) (kM true) me ds ρ) fun ys => rt (y :: ys) else lcD (.v i) (kM true) me ds ρ) μ) _
    rw [ev_bd]
    show Ev (bd (kM true (ρ.set i (some d))) _ μ) _
    rw [ev_bd]
    show Ev (bd (me (ρ.set i (some d))) _ μ) _
    rw [ev_bd]
    refine ev_imp (h d List.mem_cons_self c μ (by omega) m) fun y μ1 ⟨q1, s1, m1⟩ => ev_bd.mpr (ev_imp (lc_st ds (fun x hx => h x (List.mem_cons_of_mem _ hx)) (c + N) μ1 (by omega) m1) fun ys μ2 ⟨q2, q3, s2, m2⟩ => ?_)
    refine ⟨congrArg (· + 1) q2, fun z hz => ?_, s1.trans s2, ?_⟩
    · rcases List.mem_cons.mp hz with e | e
      · rw [e]; exact q1
      · exact q3 z e
    · have e : c + N * (d :: ds).length = c + N + N * ds.length := by omega
      rw [e]
      exact m2
/-- a list of data that are ints -/
theorem ints_of {Q : Int → Prop} : ∀ {ys : List D}, (∀ y ∈ ys, ∃ n : Int, y = .int n ∧ Q n) → ∃ ns : List Int, ys = ns.map .int ∧ ∀ n ∈ ns, Q n
  | [], _ => ⟨[], rfl, fun n h => (List.not_mem_nil h).elim⟩
  | y :: ys, h => by
    obtain ⟨n, e, q⟩ := h y List.mem_cons_self
    obtain ⟨ns, e2, q2⟩ := ints_of fun z hz => h z (List.mem_cons_of_mem _ hz)
    refine ⟨n :: ns, by rw [e, e2]; rfl, fun m hm => ?_⟩
    rcases List.mem_cons.mp hm with z | z
    · rw [z]; exact q
    · exact q2 m z
theorem mulL0 {m : Nat} {x : Int} {μ : Mu} {K : D → Mu → Prop} (h : m ≤ 100000) : Ev (mulD (.lst [.int x]) (.int (m : Int)) μ) K ↔ K (.lst ((List.replicate m x).map .int)) μ := by
  show Ev ((if (m : Int) ≤ 100000 ∧ -100000 ≤ (m : Int) ∧ [D.int x].length * (m : Int).toNat ≤ 1000000 then rt (.lst (List.replicate (m : Int).toNat [D.int x]).flatten) else PX.stk : M D) μ) K ↔ _
  rw [if_pos ⟨by omega, by omega, by rw [Int.toNat_natCast]; show 1 * m ≤ 1000000; omega⟩, Int.toNat_natCast]
  have e : (List.replicate m [D.int x]).flatten = (List.replicate m x).map .int := by
    rw [List.map_replicate]
    induction m with
    | zero => rfl
    | succ m ih => rw [List.replicate_succ, List.flatten_cons, ih (by omega), List.replicate_succ]; rfl
  rw [e]
  exact Iff.rfl
theorem split_last {α : Type} {xs : List α} {n : Nat} (h : xs.length = n + 1) : ∃ ys y, xs = ys ++ [y] ∧ ys.length = n := by
  have hne : xs ≠ [] := fun z => by rw [z] at h; cases h
  refine ⟨xs.dropLast, xs.getLast hne, (List.dropLast_concat_getLast hne).symm, by rw [List.length_dropLast, h]; rfl⟩
/-- the lowered of a row with a last one above 0 -/
theorem lowL_last {B : Nat} {xs : List Int} {w : Int} (hw : 0 < w) (hb : ∀ x ∈ xs ++ [w], x.natAbs < B) : ∃ ys v, lowL (xs ++ [w]) = ys ++ [v] ∧ ys.length = xs.length ∧ 0 < v ∧ ∀ x ∈ ys ++ [v], x.natAbs < B := by
  have hl : (lowL (xs ++ [w])).length = xs.length + 1 := by rw [lowL_len]; simp
  obtain ⟨ys, v, e, h⟩ := split_last hl
  obtain ⟨g, hg, e2⟩ := lowL_scale (xs ++ [w])
  refine ⟨ys, v, e, h, ?_, fun x hx => lowL_bound hb x (by rw [e]; exact hx)⟩
  rw [e, List.map_append] at e2
  have e3 := List.append_inj_right' e2 rfl
  have e4 : w = g * v := by simpa using e3
  rcases Int.lt_trichotomy v 0 with z | z | z
  · have := Int.mul_neg_of_pos_of_neg hg z; omega
  · rw [z] at e4; simp at e4; omega
  · exact z
end PX
namespace K03
open PySem L2 PX
def top (i : Nat) : Stmt := PySem.Challenge.pw_onesolid_k03_rows_and_planes.main.body.getD i (.Pass ⟨0, 0, 0, 0⟩)
def r0 : Row := ⟨"is_integer", top 6, ["value"], ["value"], [⟨1, [], [0]⟩]⟩
def r1 : Row := ⟨"sign_of", top 7, ["number"], ["number"], [⟨1, [], [0]⟩]⟩
def r2 : Row := ⟨"common_part", top 8, ["numbers", "found", "number"], ["numbers"], [⟨1, [], [0]⟩]⟩
def r3 : Row := ⟨"lowered", top 9, ["numbers", "part", "number"], ["numbers"], [⟨1, [], [0]⟩]⟩
def r4 : Row := ⟨"lowest", top 10, ["top", "bottom", "part"], ["top", "bottom"], [⟨2, [], [0, 1]⟩]⟩
def r5 : Row := ⟨"first_odd", top 12, ["value", "size", "place", "entry"], ["value", "size"], [⟨2, [], [0, 1]⟩]⟩
def r6 : Row := ⟨"point_from", top 13, ["tops", "bottom"], ["tops", "bottom"], [⟨2, [], [0, 1]⟩]⟩
def r7 : Row := ⟨"moved_by", top 14, ["point", "direction", "amount", "far", "top", "bottom", "x", "v"], ["point", "direction", "amount"], [⟨3, [], [0, 1, 2]⟩]⟩
def r8 : Row := ⟨"check_row", top 16, ["dimension", "value", "place"], ["dimension", "value"], [⟨2, [], [0, 1]⟩]⟩
def r9 : Row := ⟨"plane_of", top 17, ["row", "number", "plane", "entry"], ["row"], [⟨1, [], [0]⟩, ⟨0, ["row"], [0]⟩]⟩
def r10 : Row := ⟨"check_plane", top 18, ["dimension", "value", "row"], ["dimension", "value"], [⟨2, [], [0, 1]⟩]⟩
def r11 : Row := ⟨"total_at", top 19, ["row", "point", "a", "x"], ["row", "point"], [⟨2, [], [0, 1]⟩]⟩
def r12 : Row := ⟨"value_at", top 20, ["row", "point"], ["row", "point"], [⟨2, [], [0, 1]⟩, ⟨0, ["point", "row"], [1, 0]⟩]⟩
def r13 : Row := ⟨"sign_at", top 21, ["row", "point"], ["row", "point"], [⟨2, [], [0, 1]⟩, ⟨0, ["row", "point"], [0, 1]⟩]⟩
def r14 : Row := ⟨"signs_at", top 22, ["planes", "point", "plane"], ["planes", "point"], [⟨2, [], [0, 1]⟩, ⟨0, ["planes", "point"], [0, 1]⟩]⟩
def r15 : Row := ⟨"slope", top 23, ["row", "direction", "a", "v"], ["row", "direction"], [⟨2, [], [0, 1]⟩, ⟨0, ["direction", "row"], [1, 0]⟩]⟩
def r16 : Row := ⟨"_law_begun", top 25, ["_law_script", "_law_k", "_law_cells", "_law_great", "_law_seed", "_law_cell"], ["_law_script", "_law_k"], [⟨2, [], [0, 1]⟩]⟩
def r17 : Row := ⟨"_law_draw", top 26, ["_law_m", "_law_bound", "_law_spot_here", "_law_cell", "_law_blend", "_law_found", "_law_cells", "_law_extra"], ["_law_m", "_law_bound"], [⟨2, [], [0, 1]⟩]⟩
def r18 : Row := ⟨"_law_like", top 27, ["_law_told", "_law_due"], ["_law_told", "_law_due"], [⟨2, [], [0, 1]⟩]⟩
def r19 : Row := ⟨"_law_sign", top 28, ["_law_number"], ["_law_number"], [⟨1, [], [0]⟩]⟩
def r20 : Row := ⟨"_law_common", top 29, ["_law_numbers", "_law_found", "_law_number", "_law_remnant"], ["_law_numbers"], [⟨1, [], [0]⟩]⟩
def r21 : Row := ⟨"_law_lowered", top 30, ["_law_numbers", "_law_whole", "_law_number"], ["_law_numbers"], [⟨1, [], [0]⟩]⟩
def r22 : Row := ⟨"_law_fraction", top 31, ["_law_top", "_law_bottom", "_law_found"], ["_law_top", "_law_bottom"], [⟨2, [], [0, 1]⟩]⟩
def r23 : Row := ⟨"_law_point", top 32, ["_law_numbers", "_law_bottom", "_law_sign_here", "_law_number"], ["_law_numbers", "_law_bottom"], [⟨2, [], [0, 1]⟩]⟩
def r24 : Row := ⟨"_law_total", top 33, ["_law_row_so", "_law_point_so", "_law_one", "_law_other"], ["_law_row_so", "_law_point_so"], [⟨2, [], [0, 1]⟩]⟩
def r25 : Row := ⟨"_law_signs", top 34, ["_law_planes_so", "_law_point_so", "_law_plane_here"], ["_law_planes_so", "_law_point_so"], [⟨2, [], [0, 1]⟩]⟩
def r26 : Row := ⟨"_law_plane", top 35, ["_law_row_so", "_law_spots", "_law_found", "_law_k", "_law_number"], ["_law_row_so"], [⟨1, [], [0]⟩]⟩
def r27 : Row := ⟨"_law_some_row", top 36, ["_law_m", "_law_dimension", "_law_row_so", "_law_way", "_law_k", "_law_number"], ["_law_m", "_law_dimension"], [⟨2, [], [0, 1]⟩]⟩
def r28 : Row := ⟨"_law_spot", top 37, ["_law_m", "_law_dimension", "_law_k"], ["_law_m", "_law_dimension"], [⟨2, [], [0, 1]⟩]⟩
def r29 : Row := ⟨"_law_row_right", top 38, ["_law_m", "_law_dimension", "_law_row_so", "_law_spots", "_law_spot_here", "_law_plane_here", "_law_by", "_law_total_here", "_law_k", "_law_number"], ["_law_m", "_law_dimension", "_law_row_so"], [⟨3, [], [0, 1, 2]⟩]⟩
def r30 : Row := ⟨"_law_slope_right", top 39, ["_law_m", "_law_dimension", "_law_row_so", "_law_way", "_law_due", "_law_spot_here", "_law_top", "_law_bottom", "_law_near", "_law_low", "_law_k", "_law_a", "_law_b"], ["_law_m", "_law_dimension", "_law_row_so"], [⟨3, [], [0, 1, 2]⟩]⟩
def r31 : Row := ⟨"_law_hand_right", top 40, ["_law_told"], [], [⟨0, [], []⟩]⟩
def r32 : Row := ⟨"law", top 41, ["_law_script", "_law_k", "_law_m", "_law_turn", "_law_dimension", "_law_rows", "_law_planes_so", "_law_spot_here", "_law_number", "_law_row_so"], ["_law_script"], [⟨1, [], [0]⟩]⟩
def tab : List Row := [r0, r1, r2, r3, r4, r5, r6, r7, r8, r9, r10, r11, r12, r13, r14, r15, r16, r17, r18, r19, r20, r21, r22, r23, r24, r25, r26, r27, r28, r29, r30, r31, r32]
def bis : List (Str × String) := [("gcd", "math.gcd")]
theorem r0_ok : RowOk r0 := by
  refine ⟨fnSc_by (by decide +kernel), fun K kV doc pm an cdv ct => ?_⟩
  exact all_cons (fun s us ws _ h1 h2 => match us, h1, ws, h2 with | [_], _, [], _ => .of_eq rfl) (all_nil)
theorem r1_ok : RowOk r1 := by
  refine ⟨fnSc_by (by decide +kernel), fun K kV doc pm an cdv ct => ?_⟩
  exact all_cons (fun s us ws _ h1 h2 => match us, h1, ws, h2 with | [_], _, [], _ => .of_eq rfl) (all_nil)
theorem r2_ok : RowOk r2 := by
  refine ⟨fnSc_by (by decide +kernel), fun K kV doc pm an cdv ct => ?_⟩
  exact all_cons (fun s us ws _ h1 h2 => match us, h1, ws, h2 with | [_], _, [], _ => .of_eq rfl) (all_nil)
theorem r3_ok : RowOk r3 := by
  refine ⟨fnSc_by (by decide +kernel), fun K kV doc pm an cdv ct => ?_⟩
  exact all_cons (fun s us ws _ h1 h2 => match us, h1, ws, h2 with | [_], _, [], _ => .of_eq rfl) (all_nil)
theorem r4_ok : RowOk r4 := by
  refine ⟨fnSc_by (by decide +kernel), fun K kV doc pm an cdv ct => ?_⟩
  exact all_cons (fun s us ws _ h1 h2 => match us, h1, ws, h2 with | [_, _], _, [], _ => .of_eq rfl) (all_nil)
theorem r5_ok : RowOk r5 := by
  refine ⟨fnSc_by (by decide +kernel), fun K kV doc pm an cdv ct => ?_⟩
  exact all_cons (fun s us ws _ h1 h2 => match us, h1, ws, h2 with | [_, _], _, [], _ => .of_eq rfl) (all_nil)
theorem r6_ok : RowOk r6 := by
  refine ⟨fnSc_by (by decide +kernel), fun K kV doc pm an cdv ct => ?_⟩
  exact all_cons (fun s us ws _ h1 h2 => match us, h1, ws, h2 with | [_, _], _, [], _ => .of_eq rfl) (all_nil)
theorem r7_ok : RowOk r7 := by
  refine ⟨fnSc_by (by decide +kernel), fun K kV doc pm an cdv ct => ?_⟩
  exact all_cons (fun s us ws _ h1 h2 => match us, h1, ws, h2 with | [_, _, _], _, [], _ => .of_eq rfl) (all_nil)
theorem r8_ok : RowOk r8 := by
  refine ⟨fnSc_by (by decide +kernel), fun K kV doc pm an cdv ct => ?_⟩
  exact all_cons (fun s us ws _ h1 h2 => match us, h1, ws, h2 with | [_, _], _, [], _ => .of_eq rfl) (all_nil)
theorem r9_ok : RowOk r9 := by
  refine ⟨fnSc_by (by decide +kernel), fun K kV doc pm an cdv ct => ?_⟩
  exact all_cons (fun s us ws _ h1 h2 => match us, h1, ws, h2 with | [_], _, [], _ => .of_eq rfl) (all_cons (fun s us ws _ h1 h2 => match us, h1, ws, h2 with | [], _, [_], _ => .of_eq rfl) (all_nil))
theorem r10_ok : RowOk r10 := by
  refine ⟨fnSc_by (by decide +kernel), fun K kV doc pm an cdv ct => ?_⟩
  exact all_cons (fun s us ws _ h1 h2 => match us, h1, ws, h2 with | [_, _], _, [], _ => .of_eq rfl) (all_nil)
theorem r11_ok : RowOk r11 := by
  refine ⟨fnSc_by (by decide +kernel), fun K kV doc pm an cdv ct => ?_⟩
  exact all_cons (fun s us ws _ h1 h2 => match us, h1, ws, h2 with | [_, _], _, [], _ => .of_eq rfl) (all_nil)
theorem r12_ok : RowOk r12 := by
  refine ⟨fnSc_by (by decide +kernel), fun K kV doc pm an cdv ct => ?_⟩
  exact all_cons (fun s us ws _ h1 h2 => match us, h1, ws, h2 with | [_, _], _, [], _ => .of_eq rfl) (all_cons (fun s us ws _ h1 h2 => match us, h1, ws, h2 with | [], _, [_, _], _ => .of_eq rfl) (all_nil))
theorem r13_ok : RowOk r13 := by
  refine ⟨fnSc_by (by decide +kernel), fun K kV doc pm an cdv ct => ?_⟩
  exact all_cons (fun s us ws _ h1 h2 => match us, h1, ws, h2 with | [_, _], _, [], _ => .of_eq rfl) (all_cons (fun s us ws _ h1 h2 => match us, h1, ws, h2 with | [], _, [_, _], _ => .of_eq rfl) (all_nil))
theorem r14_ok : RowOk r14 := by
  refine ⟨fnSc_by (by decide +kernel), fun K kV doc pm an cdv ct => ?_⟩
  exact all_cons (fun s us ws _ h1 h2 => match us, h1, ws, h2 with | [_, _], _, [], _ => .of_eq rfl) (all_cons (fun s us ws _ h1 h2 => match us, h1, ws, h2 with | [], _, [_, _], _ => .of_eq rfl) (all_nil))
theorem r15_ok : RowOk r15 := by
  refine ⟨fnSc_by (by decide +kernel), fun K kV doc pm an cdv ct => ?_⟩
  exact all_cons (fun s us ws _ h1 h2 => match us, h1, ws, h2 with | [_, _], _, [], _ => .of_eq rfl) (all_cons (fun s us ws _ h1 h2 => match us, h1, ws, h2 with | [], _, [_, _], _ => .of_eq rfl) (all_nil))
theorem r16_ok : RowOk r16 := by
  refine ⟨fnSc_by (by decide +kernel), fun K kV doc pm an cdv ct => ?_⟩
  exact all_cons (fun s us ws _ h1 h2 => match us, h1, ws, h2 with | [_, _], _, [], _ => .of_eq rfl) (all_nil)
theorem r17_ok : RowOk r17 := by
  refine ⟨fnSc_by (by decide +kernel), fun K kV doc pm an cdv ct => ?_⟩
  exact all_cons (fun s us ws _ h1 h2 => match us, h1, ws, h2 with | [_, _], _, [], _ => .of_eq rfl) (all_nil)
theorem r18_ok : RowOk r18 := by
  refine ⟨fnSc_by (by decide +kernel), fun K kV doc pm an cdv ct => ?_⟩
  exact all_cons (fun s us ws _ h1 h2 => match us, h1, ws, h2 with | [_, _], _, [], _ => .of_eq rfl) (all_nil)
theorem r19_ok : RowOk r19 := by
  refine ⟨fnSc_by (by decide +kernel), fun K kV doc pm an cdv ct => ?_⟩
  exact all_cons (fun s us ws _ h1 h2 => match us, h1, ws, h2 with | [_], _, [], _ => .of_eq rfl) (all_nil)
theorem r20_ok : RowOk r20 := by
  refine ⟨fnSc_by (by decide +kernel), fun K kV doc pm an cdv ct => ?_⟩
  exact all_cons (fun s us ws _ h1 h2 => match us, h1, ws, h2 with | [_], _, [], _ => .of_eq rfl) (all_nil)
theorem r21_ok : RowOk r21 := by
  refine ⟨fnSc_by (by decide +kernel), fun K kV doc pm an cdv ct => ?_⟩
  exact all_cons (fun s us ws _ h1 h2 => match us, h1, ws, h2 with | [_], _, [], _ => .of_eq rfl) (all_nil)
theorem r22_ok : RowOk r22 := by
  refine ⟨fnSc_by (by decide +kernel), fun K kV doc pm an cdv ct => ?_⟩
  exact all_cons (fun s us ws _ h1 h2 => match us, h1, ws, h2 with | [_, _], _, [], _ => .of_eq rfl) (all_nil)
theorem r23_ok : RowOk r23 := by
  refine ⟨fnSc_by (by decide +kernel), fun K kV doc pm an cdv ct => ?_⟩
  exact all_cons (fun s us ws _ h1 h2 => match us, h1, ws, h2 with | [_, _], _, [], _ => .of_eq rfl) (all_nil)
theorem r24_ok : RowOk r24 := by
  refine ⟨fnSc_by (by decide +kernel), fun K kV doc pm an cdv ct => ?_⟩
  exact all_cons (fun s us ws _ h1 h2 => match us, h1, ws, h2 with | [_, _], _, [], _ => .of_eq rfl) (all_nil)
theorem r25_ok : RowOk r25 := by
  refine ⟨fnSc_by (by decide +kernel), fun K kV doc pm an cdv ct => ?_⟩
  exact all_cons (fun s us ws _ h1 h2 => match us, h1, ws, h2 with | [_, _], _, [], _ => .of_eq rfl) (all_nil)
theorem r26_ok : RowOk r26 := by
  refine ⟨fnSc_by (by decide +kernel), fun K kV doc pm an cdv ct => ?_⟩
  exact all_cons (fun s us ws _ h1 h2 => match us, h1, ws, h2 with | [_], _, [], _ => .of_eq rfl) (all_nil)
theorem r27_ok : RowOk r27 := by
  refine ⟨fnSc_by (by decide +kernel), fun K kV doc pm an cdv ct => ?_⟩
  exact all_cons (fun s us ws _ h1 h2 => match us, h1, ws, h2 with | [_, _], _, [], _ => .of_eq rfl) (all_nil)
theorem r28_ok : RowOk r28 := by
  refine ⟨fnSc_by (by decide +kernel), fun K kV doc pm an cdv ct => ?_⟩
  exact all_cons (fun s us ws _ h1 h2 => match us, h1, ws, h2 with | [_, _], _, [], _ => .of_eq rfl) (all_nil)
theorem r29_ok : RowOk r29 := by
  refine ⟨fnSc_by (by decide +kernel), fun K kV doc pm an cdv ct => ?_⟩
  exact all_cons (fun s us ws _ h1 h2 => match us, h1, ws, h2 with | [_, _, _], _, [], _ => .of_eq rfl) (all_nil)
theorem r30_ok : RowOk r30 := by
  refine ⟨fnSc_by (by decide +kernel), fun K kV doc pm an cdv ct => ?_⟩
  exact all_cons (fun s us ws _ h1 h2 => match us, h1, ws, h2 with | [_, _, _], _, [], _ => .of_eq rfl) (all_nil)
theorem r31_ok : RowOk r31 := by
  refine ⟨fnSc_by (by decide +kernel), fun K kV doc pm an cdv ct => ?_⟩
  exact all_cons (fun s us ws _ h1 h2 => match us, h1, ws, h2 with | [], _, [], _ => .of_eq rfl) (all_nil)
theorem r32_ok : RowOk r32 := by
  refine ⟨fnSc_by (by decide +kernel), fun K kV doc pm an cdv ct => ?_⟩
  exact all_cons (fun s us ws _ h1 h2 => match us, h1, ws, h2 with | [_], _, [], _ => .of_eq rfl) (all_nil)
theorem tab_ok : ∀ r ∈ tab, RowOk r := all_cons r0_ok (all_cons r1_ok (all_cons r2_ok (all_cons r3_ok (all_cons r4_ok (all_cons r5_ok (all_cons r6_ok (all_cons r7_ok (all_cons r8_ok (all_cons r9_ok (all_cons r10_ok (all_cons r11_ok (all_cons r12_ok (all_cons r13_ok (all_cons r14_ok (all_cons r15_ok (all_cons r16_ok (all_cons r17_ok (all_cons r18_ok (all_cons r19_ok (all_cons r20_ok (all_cons r21_ok (all_cons r22_ok (all_cons r23_ok (all_cons r24_ok (all_cons r25_ok (all_cons r26_ok (all_cons r27_ok (all_cons r28_ok (all_cons r29_ok (all_cons r30_ok (all_cons r31_ok (all_cons r32_ok (all_nil)))))))))))))))))))))))))))))))))
/-- is_integer(value: 0) -/
def s0 (L : Nat → List D → M D) : List D → M D := outD (sqM (rtM (andM (appM isaF [(gV 0), (kM (.ty "int"))]) (notM (appM isaF [(gV 0), (kM (.ty "bool"))])))) nxM) 1
theorem s0_eq (n : Nat) : lev tab bis (n + 1) 0 = s0 (lev tab bis n) := by kernel_rfl
/-- sign_of(number: 0) -/
def s1 (L : Nat → List D → M D) : List D → M D := outD (sqM (ifM (tvM (op2 (gV 0) (kM (.int 0)) eqD)) (sqM (rtM (kM (.int 0))) nxM) nxM) (sqM (rtM (ifM (tvM (op2 (gV 0) (kM (.int 0)) gtD)) (kM (.int 1)) (neM (kM (.int 1))))) nxM)) 1
theorem s1_eq (n : Nat) : lev tab bis (n + 1) 1 = s1 (lev tab bis n) := by kernel_rfl
/-- common_part(numbers: 0, found: 1, number: 2) -/
def s2 (L : Nat → List D → M D) : List D → M D := outD (sqM (setM (kM (.int 0)) 1) (sqM (foM (seM (gV 0)) (.v 2) (sqM (setM (appM gcdF [(gV 1), (gV 2)]) 1) nxM)) (sqM (rtM (gV 1)) nxM))) 3
theorem s2_eq (n : Nat) : lev tab bis (n + 1) 2 = s2 (lev tab bis n) := by kernel_rfl
/-- lowered(numbers: 0, part: 1, number: 2) -/
def s3 (L : Nat → List D → M D) : List D → M D := outD (sqM (setM (callF (L 2) ⟨1, [], [0]⟩ 1 [(gV 0)] []) 1) (sqM (ifM (tvM (op2 (gV 1) (kM (.int 2)) ltD)) (sqM (rtM (appM tupF [(gV 0)])) nxM) nxM) (sqM (rtM (appM tupF [(lcM (seM (gV 0)) (.v 2) (kM true) (op2 (gV 2) (gV 1) fdivD) [2])])) nxM))) 3
theorem s3_eq (n : Nat) : lev tab bis (n + 1) 3 = s3 (lev tab bis n) := by kernel_rfl
/-- lowest(top: 0, bottom: 1, part: 2) -/
def s4 (L : Nat → List D → M D) : List D → M D := outD (sqM (ifM (tvM (op2 (gV 1) (kM (.int 0)) eqD)) (sqM noM nxM) nxM) (sqM (setM (appM gcdF [(gV 0), (gV 1)]) 2) (sqM (ifM (tvM (op2 (gV 1) (kM (.int 0)) ltD)) (sqM (setM (neM (gV 2)) 2) nxM) nxM) (sqM (rtM (appM mkT [(op2 (gV 0) (gV 2) fdivD), (op2 (gV 1) (gV 2) fdivD)])) nxM)))) 3
theorem s4_eq (n : Nat) : lev tab bis (n + 1) 4 = s4 (lev tab bis n) := by kernel_rfl
/-- first_odd(value: 0, size: 1, place: 2, entry: 3) -/
def s5 (L : Nat → List D → M D) : List D → M D := outD (sqM (ifM (toM (tnM (tvM (appM isaF [(gV 0), (kM (.ty "tuple"))]))) (tvM (op2 (appM lenF [(gV 0)]) (gV 1) neD))) (sqM (rtM (neM (kM (.int 1)))) nxM) nxM) (sqM (foM (appM enumM [(gV 0)]) (.t [2, 3]) (sqM (ifM (tnM (tvM (callF (L 0) ⟨1, [], [0]⟩ 1 [(gV 3)] []))) (sqM (rtM (gV 2)) nxM) nxM) nxM)) (sqM (rtM (kM .non)) nxM))) 4
theorem s5_eq (n : Nat) : lev tab bis (n + 1) 5 = s5 (lev tab bis n) := by kernel_rfl
/-- point_from(tops: 0, bottom: 1) -/
def s6 (L : Nat → List D → M D) : List D → M D := outD (sqM (rtM (callF (L 3) ⟨1, [], [0]⟩ 1 [(op2 (appM lstF [(gV 0)]) (appM mkL [(gV 1)]) addD)] [])) nxM) 2
theorem s6_eq (n : Nat) : lev tab bis (n + 1) 6 = s6 (lev tab bis n) := by kernel_rfl
/-- moved_by(point: 0, direction: 1, amount: 2, far: 3, top: 4, bottom: 5, x: 6, v: 7) -/
def s7 (L : Nat → List D → M D) : List D → M D := outD (sqM (asgM (gV 2) (.t [4, 5])) (sqM (setM (op2 (gV 4) (op2 (gV 0) (neM (kM (.int 1))) ixD) mulD) 3) (sqM (rtM (callF (L 6) ⟨2, [], [0, 1]⟩ 2 [(lcM (appM zipM [(gV 0), (gV 1)]) (.t [6, 7]) (kM true) (op2 (op2 (gV 5) (gV 6) mulD) (op2 (gV 3) (gV 7) mulD) addD) [6, 7]), (op2 (gV 5) (op2 (gV 0) (neM (kM (.int 1))) ixD) mulD)] [])) nxM))) 8
theorem s7_eq (n : Nat) : lev tab bis (n + 1) 7 = s7 (lev tab bis n) := by kernel_rfl
/-- check_row(dimension: 0, value: 1, place: 2) -/
def s8 (L : Nat → List D → M D) : List D → M D := outD (sqM (setM (callF (L 5) ⟨2, [], [0, 1]⟩ 2 [(gV 1), (op2 (gV 0) (kM (.int 1)) addD)] []) 2) (sqM (ifM (tvM (op2 (gV 2) (kM .non) isNotD)) (sqM noM nxM) nxM) (sqM (rtM (gV 1)) nxM))) 3
theorem s8_eq (n : Nat) : lev tab bis (n + 1) 8 = s8 (lev tab bis n) := by kernel_rfl
/-- plane_of(row: 0, number: 1, plane: 2, entry: 3) -/
def s9 (L : Nat → List D → M D) : List D → M D := outD (sqM (foM (seM (slM (gV 0) (kM none) (ptM (neM (kM (.int 1)))))) (.v 1) (sqM (ifM (tvM (op2 (gV 1) (kM (.int 0)) neD)) (sqM (setM (callF (L 3) ⟨1, [], [0]⟩ 1 [(gV 0)] []) 2) (sqM (rtM (ifM (tvM (op2 (gV 1) (kM (.int 0)) gtD)) (gV 2) (appM tupF [(lcM (seM (gV 2)) (.v 3) (kM true) (neM (gV 3)) [3])]))) nxM)) nxM) nxM)) (sqM (rtM (kM .non)) nxM)) 4
theorem s9_eq (n : Nat) : lev tab bis (n + 1) 9 = s9 (lev tab bis n) := by kernel_rfl
/-- check_plane(dimension: 0, value: 1, row: 2) -/
def s10 (L : Nat → List D → M D) : List D → M D := outD (sqM (setM (callF (L 8) ⟨2, [], [0, 1]⟩ 2 [(gV 0), (gV 1)] []) 2) (sqM (ifM (tvM (op2 (callF (L 9) ⟨1, [], [0]⟩ 1 [(gV 2)] []) (gV 2) neD)) (sqM noM nxM) nxM) (sqM (rtM (gV 2)) nxM))) 3
theorem s10_eq (n : Nat) : lev tab bis (n + 1) 10 = s10 (lev tab bis n) := by kernel_rfl
/-- total_at(row: 0, point: 1, a: 2, x: 3) -/
def s11 (L : Nat → List D → M D) : List D → M D := outD (sqM (rtM (appM sumF [(lcM (appM zipM [(gV 0), (gV 1)]) (.t [2, 3]) (kM true) (op2 (gV 2) (gV 3) mulD) [2, 3])])) nxM) 4
theorem s11_eq (n : Nat) : lev tab bis (n + 1) 11 = s11 (lev tab bis n) := by kernel_rfl
/-- value_at(row: 0, point: 1) -/
def s12 (L : Nat → List D → M D) : List D → M D := outD (sqM (rtM (callF (L 4) ⟨2, [], [0, 1]⟩ 2 [(callF (L 11) ⟨2, [], [0, 1]⟩ 2 [(gV 0), (gV 1)] []), (op2 (gV 1) (neM (kM (.int 1))) ixD)] [])) nxM) 2
theorem s12_eq (n : Nat) : lev tab bis (n + 1) 12 = s12 (lev tab bis n) := by kernel_rfl
/-- sign_at(row: 0, point: 1) -/
def s13 (L : Nat → List D → M D) : List D → M D := outD (sqM (rtM (callF (L 1) ⟨1, [], [0]⟩ 1 [(callF (L 11) ⟨2, [], [0, 1]⟩ 2 [(gV 0), (gV 1)] [])] [])) nxM) 2
theorem s13_eq (n : Nat) : lev tab bis (n + 1) 13 = s13 (lev tab bis n) := by kernel_rfl
/-- signs_at(planes: 0, point: 1, plane: 2) -/
def s14 (L : Nat → List D → M D) : List D → M D := outD (sqM (rtM (appM tupF [(lcM (seM (gV 0)) (.v 2) (kM true) (callF (L 1) ⟨1, [], [0]⟩ 1 [(callF (L 11) ⟨2, [], [0, 1]⟩ 2 [(gV 2), (gV 1)] [])] []) [2])])) nxM) 3
theorem s14_eq (n : Nat) : lev tab bis (n + 1) 14 = s14 (lev tab bis n) := by kernel_rfl
/-- slope(row: 0, direction: 1, a: 2, v: 3) -/
def s15 (L : Nat → List D → M D) : List D → M D := outD (sqM (rtM (appM sumF [(lcM (appM zipM [(gV 0), (gV 1)]) (.t [2, 3]) (kM true) (op2 (gV 2) (gV 3) mulD) [2, 3])])) nxM) 4
theorem s15_eq (n : Nat) : lev tab bis (n + 1) 15 = s15 (lev tab bis n) := by kernel_rfl
/-- _law_begun(_law_script: 0, _law_k: 1, _law_cells: 2, _law_great: 3, _law_seed: 4, _law_cell: 5) -/
def s16 (L : Nat → List D → M D) : List D → M D := outD (sqM (setM (op2 (slM (gV 0) (ptM (gV 1)) (kM none)) (slM (gV 0) (kM none) (ptM (gV 1))) addD) 2) (sqM (setM (lcM (seM (gV 2)) (.v 5) (tvM (op2 (gV 5) (op2 (kM (.int 10)) (kM (.int 18)) powD) geD)) (gV 5) [5]) 3) (sqM (setM (op2 (kM (.int 86)) (gV 1) addD) 4) (sqM (foM (seM (gV 2)) (.v 5) (sqM (setM (op2 (appM intF [(op2 (op2 (gV 4) (kM (.int 48271)) mulD) (gV 5) addD)]) (kM (.int 2147483647)) modD) 4) nxM)) (sqM (rtM (dispM [("left", (ifM (tvM (op2 (gV 3) (appM mkL []) neD)) (op2 (gV 3) (kM (.int 0)) ixD) (kM (.int 0)))), ("seed", (gV 4)), ("cells", (op2 (gV 2) (appM mkL [(op2 (op2 (kM (.int 53)) (gV 1) mulD) (kM (.int 11)) addD)]) addD)), ("spot", (kM (.int 0)))])) nxM))))) 6
theorem s16_eq (n : Nat) : lev tab bis (n + 1) 16 = s16 (lev tab bis n) := by kernel_rfl
/-- _law_draw(_law_m: 0, _law_bound: 1, _law_spot_here: 2, _law_cell: 3, _law_blend: 4, _law_found: 5, _law_cells: 6, _law_extra: 7) -/
def s17 (L : Nat → List D → M D) : List D → M D := outD (sqM (ifM (tvM (op2 (op2 (gV 0) (kM (.str "left")) ixD) (kM (.int 0)) gtD)) (sqM (setM (op2 (appM intF [(op2 (gV 0) (kM (.str "left")) ixD)]) (gV 1) modD) 5) (sqM (putM (gV 0) (kM (.str "left")) (op2 (op2 (gV 0) (kM (.str "left")) ixD) (gV 1) fdivD)) (sqM (rtM (gV 5)) nxM))) nxM) (sqM (setM (op2 (gV 0) (kM (.str "spot")) ixD) 2) (sqM (putM (gV 0) (kM (.str "spot")) (op2 (gV 2) (kM (.int 1)) addD)) (sqM (asgM (appM mkT [(op2 (gV 0) (kM (.str "cells")) ixD), (op2 (op2 (gV 0) (kM (.str "seed")) ixD) (op2 (op2 (kM (.int 40503)) (gV 2) mulD) (gV 2) mulD) addD)]) (.t [6, 7])) (sqM (setM (op2 (gV 6) (op2 (appM intF [(gV 2)]) (appM lenF [(gV 6)]) modD) ixD) 3) (sqM (setM (op2 (appM intF [(op2 (op2 (gV 3) (op2 (op2 (kM (.int 2)) (gV 2) mulD) (kM (.int 3)) addD) mulD) (gV 7) addD)]) (kM (.int 2147483647)) modD) 4) (sqM (setM (op2 (appM intF [(op2 (op2 (op2 (gV 4) (gV 4) mulD) (op2 (kM (.int 69621)) (gV 2) mulD) addD) (op2 (gV 0) (kM (.str "seed")) ixD) addD)]) (kM (.int 2147483629)) modD) 4) (sqM (rtM (op2 (op2 (op2 (appM intF [(op2 (op2 (gV 4) (kM (.int 48271)) mulD) (gV 2) addD)]) (kM (.int 2147483647)) modD) (kM (.int 11)) fdivD) (gV 1) modD)) nxM)))))))) 8
theorem s17_eq (n : Nat) : lev tab bis (n + 1) 17 = s17 (lev tab bis n) := by kernel_rfl
/-- _law_like(_law_told: 0, _law_due: 1) -/
def s18 (L : Nat → List D → M D) : List D → M D := outD (sqM (rtM (op2 (appM repF [(gV 0)]) (appM repF [(gV 1)]) eqD)) nxM) 2
theorem s18_eq (n : Nat) : lev tab bis (n + 1) 18 = s18 (lev tab bis n) := by kernel_rfl
/-- _law_sign(_law_number: 0) -/
def s19 (L : Nat → List D → M D) : List D → M D := outD (sqM (rtM (op2 (appM intF [(op2 (gV 0) (kM (.int 0)) gtD)]) (appM intF [(op2 (gV 0) (kM (.int 0)) ltD)]) subD)) nxM) 1
theorem s19_eq (n : Nat) : lev tab bis (n + 1) 19 = s19 (lev tab bis n) := by kernel_rfl
/-- _law_common(_law_numbers: 0, _law_found: 1, _law_number: 2, _law_remnant: 3) -/
def s20 (L : Nat → List D → M D) : List D → M D := outD (sqM (setM (kM (.int 0)) 1) (sqM (foM (seM (gV 0)) (.v 2) (sqM (setM (appM absF [(gV 2)]) 3) (sqM (whM (tvM (op2 (gV 3) (kM (.int 0)) neD)) (sqM (asgM (appM mkT [(gV 3), (op2 (appM intF [(gV 1)]) (gV 3) modD)]) (.t [1, 3])) nxM)) nxM))) (sqM (rtM (gV 1)) nxM))) 4
theorem s20_eq (n : Nat) : lev tab bis (n + 1) 20 = s20 (lev tab bis n) := by kernel_rfl
/-- _law_lowered(_law_numbers: 0, _law_whole: 1, _law_number: 2) -/
def s21 (L : Nat → List D → M D) : List D → M D := outD (sqM (setM (callF (L 20) ⟨1, [], [0]⟩ 1 [(gV 0)] []) 1) (sqM (rtM (ifM (tvM (op2 (gV 1) (kM (.int 1)) gtD)) (appM tupF [(lcM (seM (gV 0)) (.v 2) (kM true) (op2 (gV 2) (gV 1) fdivD) [2])]) (appM tupF [(gV 0)]))) nxM)) 3
theorem s21_eq (n : Nat) : lev tab bis (n + 1) 21 = s21 (lev tab bis n) := by kernel_rfl
/-- _law_fraction(_law_top: 0, _law_bottom: 1, _law_found: 2) -/
def s22 (L : Nat → List D → M D) : List D → M D := outD (sqM (setM (callF (L 21) ⟨1, [], [0]⟩ 1 [(appM mkL [(gV 0), (gV 1)])] []) 2) (sqM (rtM (ifM (tvM (op2 (gV 1) (kM (.int 0)) gtD)) (gV 2) (appM mkT [(neM (op2 (gV 2) (kM (.int 0)) ixD)), (neM (op2 (gV 2) (kM (.int 1)) ixD))]))) nxM)) 3
theorem s22_eq (n : Nat) : lev tab bis (n + 1) 22 = s22 (lev tab bis n) := by kernel_rfl
/-- _law_point(_law_numbers: 0, _law_bottom: 1, _law_sign_here: 2, _law_number: 3) -/
def s23 (L : Nat → List D → M D) : List D → M D := outD (sqM (setM (ifM (tvM (op2 (gV 1) (kM (.int 0)) gtD)) (kM (.int 1)) (neM (kM (.int 1)))) 2) (sqM (rtM (callF (L 21) ⟨1, [], [0]⟩ 1 [(op2 (lcM (seM (gV 0)) (.v 3) (kM true) (op2 (gV 2) (gV 3) mulD) [3]) (appM mkL [(op2 (gV 2) (gV 1) mulD)]) addD)] [])) nxM)) 4
theorem s23_eq (n : Nat) : lev tab bis (n + 1) 23 = s23 (lev tab bis n) := by kernel_rfl
/-- _law_total(_law_row_so: 0, _law_point_so: 1, _law_one: 2, _law_other: 3) -/
def s24 (L : Nat → List D → M D) : List D → M D := outD (sqM (rtM (appM sumF [(lcM (appM zipM [(gV 0), (gV 1)]) (.t [2, 3]) (kM true) (op2 (gV 2) (gV 3) mulD) [2, 3])])) nxM) 4
theorem s24_eq (n : Nat) : lev tab bis (n + 1) 24 = s24 (lev tab bis n) := by kernel_rfl
/-- _law_signs(_law_planes_so: 0, _law_point_so: 1, _law_plane_here: 2) -/
def s25 (L : Nat → List D → M D) : List D → M D := outD (sqM (rtM (appM tupF [(lcM (seM (gV 0)) (.v 2) (kM true) (callF (L 19) ⟨1, [], [0]⟩ 1 [(callF (L 24) ⟨2, [], [0, 1]⟩ 2 [(gV 2), (gV 1)] [])] []) [2])])) nxM) 3
theorem s25_eq (n : Nat) : lev tab bis (n + 1) 25 = s25 (lev tab bis n) := by kernel_rfl
/-- _law_plane(_law_row_so: 0, _law_spots: 1, _law_found: 2, _law_k: 3, _law_number: 4) -/
def s26 (L : Nat → List D → M D) : List D → M D := outD (sqM (setM (lcM (appM enumM [(slM (gV 0) (kM none) (ptM (neM (kM (.int 1)))))]) (.t [3, 4]) (tvM (op2 (gV 4) (kM (.int 0)) neD)) (gV 3) [3, 4]) 1) (sqM (ifM (tvM (op2 (gV 1) (appM mkL []) eqD)) (sqM (rtM (kM .non)) nxM) nxM) (sqM (setM (callF (L 21) ⟨1, [], [0]⟩ 1 [(gV 0)] []) 2) (sqM (rtM (ifM (tvM (op2 (op2 (gV 2) (op2 (gV 1) (kM (.int 0)) ixD) ixD) (kM (.int 0)) gtD)) (gV 2) (appM tupF [(lcM (seM (gV 2)) (.v 4) (kM true) (neM (gV 4)) [4])]))) nxM)))) 5
theorem s26_eq (n : Nat) : lev tab bis (n + 1) 26 = s26 (lev tab bis n) := by kernel_rfl
/-- _law_some_row(_law_m: 0, _law_dimension: 1, _law_row_so: 2, _law_way: 3, _law_k: 4, _law_number: 5) -/
def s27 (L : Nat → List D → M D) : List D → M D := outD (sqM (setM (lcM (appM rng1 [(op2 (gV 1) (kM (.int 1)) addD)]) (.v 4) (kM true) (op2 (callF (L 17) ⟨2, [], [0, 1]⟩ 2 [(gV 0), (kM (.int 9))] []) (kM (.int 4)) subD) [4]) 2) (sqM (setM (callF (L 17) ⟨2, [], [0, 1]⟩ 2 [(gV 0), (kM (.int 6))] []) 3) (sqM (ifM (tvM (op2 (gV 3) (kM (.int 0)) eqD)) (sqM (setM (op2 (op2 (appM mkL [(kM (.int 0))]) (gV 1) mulD) (slM (gV 2) (ptM (neM (kM (.int 1)))) (kM none)) addD) 2) nxM) nxM) (sqM (ifM (tvM (op2 (gV 3) (kM (.int 1)) eqD)) (sqM (setM (lcM (seM (gV 2)) (.v 5) (kM true) (op2 (gV 5) (op2 (op2 (kM (.int 10)) (kM (.int 25)) powD) (kM (.int 7)) addD) mulD) [5]) 2) nxM) nxM) (sqM (rtM (appM tupF [(gV 2)])) nxM))))) 6
theorem s27_eq (n : Nat) : lev tab bis (n + 1) 27 = s27 (lev tab bis n) := by kernel_rfl
/-- _law_spot(_law_m: 0, _law_dimension: 1, _law_k: 2) -/
def s28 (L : Nat → List D → M D) : List D → M D := outD (sqM (rtM (callF (L 23) ⟨2, [], [0, 1]⟩ 2 [(lcM (appM rng1 [(gV 1)]) (.v 2) (kM true) (op2 (callF (L 17) ⟨2, [], [0, 1]⟩ 2 [(gV 0), (kM (.int 13))] []) (kM (.int 6)) subD) [2]), (op2 (kM (.int 1)) (callF (L 17) ⟨2, [], [0, 1]⟩ 2 [(gV 0), (kM (.int 4))] []) addD)] [])) nxM) 3
theorem s28_eq (n : Nat) : lev tab bis (n + 1) 28 = s28 (lev tab bis n) := by kernel_rfl
/-- _law_row_right(_law_m: 0, _law_dimension: 1, _law_row_so: 2, _law_spots: 3, _law_spot_here: 4, _law_plane_here: 5, _law_by: 6, _law_total_here: 7, _law_k: 8, _law_number: 9) -/
def s29 (L : Nat → List D → M D) : List D → M D := outD (sqM (asgM (appM mkT [(callF (L 9) ⟨1, [], [0]⟩ 1 [(gV 2)] []), (op2 (appM mkL [(kM (.int 1)), (neM (kM (.int 1))), (kM (.int 2)), (neM (kM (.int 3))), (op2 (kM (.int 10)) (kM (.int 12)) powD)]) (callF (L 17) ⟨2, [], [0, 1]⟩ 2 [(gV 0), (kM (.int 5))] []) ixD)]) (.t [5, 6])) (sqM (ifM (toM (tnM (tvM (callF (L 18) ⟨2, [], [0, 1]⟩ 2 [(gV 5), (callF (L 26) ⟨1, [], [0]⟩ 1 [(gV 2)] [])] []))) (tnM (tvM (callF (L 18) ⟨2, [], [0, 1]⟩ 2 [(callF (L 8) ⟨2, [], [0, 1]⟩ 2 [(gV 1), (gV 2)] []), (gV 2)] [])))) (sqM (rtM (kM (.bl false))) nxM) nxM) (sqM (ifM (tnM (tvM (callF (L 18) ⟨2, [], [0, 1]⟩ 2 [(callF (L 9) ⟨1, [], [0]⟩ 1 [(appM tupF [(lcM (seM (gV 2)) (.v 9) (kM true) (op2 (gV 6) (gV 9) mulD) [9])])] []), (gV 5)] []))) (sqM (rtM (kM (.bl false))) nxM) nxM) (sqM (ifM (taM (tvM (op2 (gV 5) (kM .non) isNotD)) (tnM (tvM (callF (L 18) ⟨2, [], [0, 1]⟩ 2 [(callF (L 10) ⟨2, [], [0, 1]⟩ 2 [(gV 1), (gV 5)] []), (gV 5)] [])))) (sqM (rtM (kM (.bl false))) nxM) nxM) (sqM (setM (lcM (appM rng1 [(kM (.int 3))]) (.v 8) (kM true) (callF (L 28) ⟨2, [], [0, 1]⟩ 2 [(gV 0), (gV 1)] []) [8]) 3) (sqM (foM (seM (gV 3)) (.v 4) (sqM (setM (callF (L 24) ⟨2, [], [0, 1]⟩ 2 [(gV 2), (gV 4)] []) 7) (sqM (ifM (tnM (tvM (callF (L 18) ⟨2, [], [0, 1]⟩ 2 [(appM mkL [(callF (L 12) ⟨2, [], [0, 1]⟩ 2 [(gV 2), (gV 4)] []), (callF (L 13) ⟨2, [], [0, 1]⟩ 2 [(gV 2), (gV 4)] [])]), (appM mkL [(callF (L 22) ⟨2, [], [0, 1]⟩ 2 [(gV 7), (op2 (gV 4) (neM (kM (.int 1))) ixD)] []), (callF (L 19) ⟨1, [], [0]⟩ 1 [(gV 7)] [])])] []))) (sqM (rtM (kM (.bl false))) nxM) nxM) (sqM (ifM (taM (tvM (op2 (gV 5) (kM .non) isNotD)) (tvM (op2 (op2 (callF (L 13) ⟨2, [], [0, 1]⟩ 2 [(gV 5), (gV 4)] []) (kM (.int 0)) eqD) (op2 (gV 7) (kM (.int 0)) eqD) neD))) (sqM (rtM (kM (.bl false))) nxM) nxM) nxM)))) (sqM (rtM (kM (.bl true))) nxM))))))) 10
theorem s29_eq (n : Nat) : lev tab bis (n + 1) 29 = s29 (lev tab bis n) := by kernel_rfl
/-- _law_slope_right(_law_m: 0, _law_dimension: 1, _law_row_so: 2, _law_way: 3, _law_due: 4, _law_spot_here: 5, _law_top: 6, _law_bottom: 7, _law_near: 8, _law_low: 9, _law_k: 10, _law_a: 11, _law_b: 12) -/
def s30 (L : Nat → List D → M D) : List D → M D := outD (sqM (setM (callF (L 21) ⟨1, [], [0]⟩ 1 [(op2 (lcM (appM rng1 [(op2 (gV 1) (kM (.int 1)) subD)]) (.v 10) (kM true) (op2 (callF (L 17) ⟨2, [], [0, 1]⟩ 2 [(gV 0), (kM (.int 7))] []) (kM (.int 3)) subD) [10]) (appM mkL [(op2 (kM (.int 1)) (callF (L 17) ⟨2, [], [0, 1]⟩ 2 [(gV 0), (kM (.int 3))] []) addD)]) addD)] []) 3) (sqM (asgM (appM mkT [(appM sumF [(lcM (appM zipM [(slM (gV 2) (kM none) (ptM (neM (kM (.int 1))))), (gV 3)]) (.t [11, 12]) (kM true) (op2 (gV 11) (gV 12) mulD) [11, 12])]), (callF (L 28) ⟨2, [], [0, 1]⟩ 2 [(gV 0), (gV 1)] [])]) (.t [4, 5])) (sqM (ifM (tnM (tvM (callF (L 18) ⟨2, [], [0, 1]⟩ 2 [(callF (L 15) ⟨2, [], [0, 1]⟩ 2 [(gV 2), (gV 3)] []), (gV 4)] []))) (sqM (rtM (kM (.bl false))) nxM) nxM) (sqM (asgM (callF (L 12) ⟨2, [], [0, 1]⟩ 2 [(gV 2), (callF (L 7) ⟨3, [], [0, 1, 2]⟩ 3 [(gV 5), (gV 3), (appM mkT [(kM (.int 1)), (kM (.int 2))])] [])] []) (.t [6, 7])) (sqM (asgM (callF (L 12) ⟨2, [], [0, 1]⟩ 2 [(gV 2), (gV 5)] []) (.t [8, 9])) (sqM (rtM (op2 (op2 (kM (.int 2)) (op2 (op2 (gV 6) (gV 9) mulD) (op2 (gV 8) (gV 7) mulD) subD) mulD) (op2 (op2 (gV 4) (gV 7) mulD) (gV 9) mulD) eqD)) nxM)))))) 13
theorem s30_eq (n : Nat) : lev tab bis (n + 1) 30 = s30 (lev tab bis n) := by kernel_rfl
/-- _law_hand_right(_law_told: 0) -/
def s31 (L : Nat → List D → M D) : List D → M D := outD (sqM (setM (appM mkL [(callF (L 9) ⟨1, [], [0]⟩ 1 [(appM mkT [(kM (.int 0)), (kM (.int 0)), (kM (.int 3))])] []), (callF (L 9) ⟨1, [], [0]⟩ 1 [(appM mkT [(kM (.int 0)), (neM (kM (.int 2))), (kM (.int 4))])] []), (callF (L 9) ⟨1, [], [0]⟩ 1 [(appM mkT [(kM (.int 6)), (kM (.int 4)), (neM (kM (.int 2)))])] []), (callF (L 9) ⟨1, [], [0]⟩ 1 [(appM mkT [(kM (.int 0)), (kM (.int 0))])] []), (callF (L 9) ⟨1, [], [0]⟩ 1 [(appM mkT [(neM (kM (.int 5))), (kM (.int 0))])] [])]) 0) (sqM (ifM (tnM (tvM (callF (L 18) ⟨2, [], [0, 1]⟩ 2 [(gV 0), (appM mkL [(kM .non), (appM mkT [(kM (.int 0)), (kM (.int 1)), (neM (kM (.int 2)))]), (appM mkT [(kM (.int 3)), (kM (.int 2)), (neM (kM (.int 1)))]), (kM .non), (appM mkT [(kM (.int 1)), (kM (.int 0))])])] []))) (sqM (rtM (kM (.bl false))) nxM) nxM) (sqM (setM (appM mkL [(callF (L 12) ⟨2, [], [0, 1]⟩ 2 [(appM mkT [(kM (.int 2)), (neM (kM (.int 1))), (kM (.int 3))]), (appM mkT [(kM (.int 1)), (kM (.int 2)), (kM (.int 4))])] []), (callF (L 13) ⟨0, ["row", "point"], [0, 1]⟩ 2 [] [(appM mkT [(kM (.int 1)), (neM (kM (.int 1)))]), (appM mkT [(kM (.int 1)), (kM (.int 1))])]), (callF (L 14) ⟨2, [], [0, 1]⟩ 2 [(appM mkT [(appM mkT [(kM (.int 1)), (kM (.int 0))]), (appM mkT [(kM (.int 1)), (neM (kM (.int 1)))]), (appM mkT [(kM (.int 1)), (neM (kM (.int 2)))])]), (appM mkT [(kM (.int 1)), (kM (.int 1))])] []), (callF (L 15) ⟨2, [], [0, 1]⟩ 2 [(appM mkT [(kM (.int 2)), (kM (.int 5)), (kM (.int 9))]), (appM mkT [(kM (.int 1)), (neM (kM (.int 1)))])] [])]) 0) (sqM (ifM (tnM (tvM (callF (L 18) ⟨2, [], [0, 1]⟩ 2 [(gV 0), (appM mkL [(appM mkT [(kM (.int 3)), (kM (.int 1))]), (kM (.int 0)), (appM mkT [(kM (.int 1)), (kM (.int 0)), (neM (kM (.int 1)))]), (neM (kM (.int 3)))])] []))) (sqM (rtM (kM (.bl false))) nxM) nxM) (sqM (setM (appM mkL [(callF (L 14) ⟨0, ["planes", "point"], [0, 1]⟩ 2 [] [(appM mkT []), (appM mkT [(kM (.int 0)), (kM (.int 1))])]), (callF (L 9) ⟨0, ["row"], [0]⟩ 1 [] [(appM mkT [(kM (.int 0)), (kM (.int 2))])]), (callF (L 12) ⟨0, ["point", "row"], [1, 0]⟩ 2 [] [(appM mkT [(kM (.int 1)), (kM (.int 2))]), (appM mkT [(kM (.int 1)), (kM (.int 1))])]), (callF (L 15) ⟨0, ["direction", "row"], [1, 0]⟩ 2 [] [(appM mkT [(neM (kM (.int 1)))]), (appM mkT [(kM (.int 2)), (kM (.int 7))])])]) 0) (sqM (rtM (callF (L 18) ⟨2, [], [0, 1]⟩ 2 [(gV 0), (appM mkL [(appM mkT []), (kM .non), (appM mkT [(kM (.int 3)), (kM (.int 2))]), (neM (kM (.int 2)))])] [])) nxM)))))) 1
theorem s31_eq (n : Nat) : lev tab bis (n + 1) 31 = s31 (lev tab bis n) := by kernel_rfl
/-- law(_law_script: 0, _law_k: 1, _law_m: 2, _law_turn: 3, _law_dimension: 4, _law_rows: 5, _law_planes_so: 6, _law_spot_here: 7, _law_number: 8, _law_row_so: 9) -/
def s32 (L : Nat → List D → M D) : List D → M D := outD (sqM (ifM (tnM (tvM (callF (L 31) ⟨0, [], []⟩ 0 [] []))) (sqM (rtM (kM (.bl false))) nxM) nxM) (sqM (foM (appM rng1 [(appM maxF [(kM (.int 2)), (appM minF [(appM lenF [(gV 0)]), (kM (.int 4))])])]) (.v 1) (sqM (setM (callF (L 16) ⟨2, [], [0, 1]⟩ 2 [(gV 0), (gV 1)] []) 2) (sqM (foM (appM rng1 [(kM (.int 4))]) (.v 3) (sqM (setM (op2 (kM (.int 1)) (callF (L 17) ⟨2, [], [0, 1]⟩ 2 [(gV 2), (kM (.int 4))] []) addD) 4) (sqM (setM (lcM (appM rng1 [(kM (.int 2))]) (.v 8) (kM true) (callF (L 27) ⟨2, [], [0, 1]⟩ 2 [(gV 2), (gV 4)] []) [8]) 5) (sqM (ifM (tvM (op2 (lcM (seM (gV 5)) (.v 9) (toM (tnM (tvM (callF (L 29) ⟨3, [], [0, 1, 2]⟩ 3 [(gV 2), (gV 4), (gV 9)] []))) (tnM (tvM (callF (L 30) ⟨3, [], [0, 1, 2]⟩ 3 [(gV 2), (gV 4), (gV 9)] [])))) (gV 9) [9]) (appM mkL []) neD)) (sqM (rtM (kM (.bl false))) nxM) nxM) (sqM (asgM (appM mkT [(appM tupF [(lcM (seM (gV 5)) (.v 9) (tvM (op2 (callF (L 26) ⟨1, [], [0]⟩ 1 [(gV 9)] []) (kM .non) isNotD)) (callF (L 26) ⟨1, [], [0]⟩ 1 [(gV 9)] []) [9])]), (callF (L 28) ⟨2, [], [0, 1]⟩ 2 [(gV 2), (gV 4)] [])]) (.t [6, 7])) (sqM (ifM (tnM (tvM (callF (L 18) ⟨2, [], [0, 1]⟩ 2 [(callF (L 14) ⟨2, [], [0, 1]⟩ 2 [(gV 6), (gV 7)] []), (callF (L 25) ⟨2, [], [0, 1]⟩ 2 [(gV 6), (gV 7)] [])] []))) (sqM (rtM (kM (.bl false))) nxM) nxM) nxM)))))) nxM))) (sqM (rtM (kM (.bl true))) nxM))) 10
theorem s32_eq (n : Nat) : lev tab bis (n + 1) 32 = s32 (lev tab bis n) := by kernel_rfl
end K03
namespace K03
open PySem L2 PX
abbrev F := lev tab bis
theorem f0 {n : Nat} (hn : 1 ≤ n) (i : Int) (μ : Mu) : F n 0 [.int i] μ = .ok (.bl true) μ := by
  obtain ⟨k, rfl⟩ : ∃ k, n = k + 1 := ⟨n - 1, by omega⟩
  rw [F, s0_eq]
  unfold s0
  rfl
theorem f1 {n : Nat} (hn : 1 ≤ n) (i : Int) (μ : Mu) : F n 1 [.int i] μ = .ok (.int (sgn i)) μ := by
  obtain ⟨k, rfl⟩ : ∃ k, n = k + 1 := ⟨n - 1, by omega⟩
  rw [F, s1_eq]
  unfold s1
  refine ev_eq ?_
  simp only [↓ev_out, ↓ev_sqM, ↓ev_foM, ↓ev_setM, ↓ev_asgM, ↓ev_putM, ↓ev_ifM, ↓ev_tvM, ↓ev_tnM, ↓ev_taM, ↓ev_toM, ↓ev_op2, ↓ev_gV, ↓ev_kM, ↓ev_rtM, ↓ev_exM, ↓ev_neM, ↓ev_notM, ↓ev_andM, ↓ev_orM, ↓ev_nxM, ↓ev_app, ↓ev_nil, ↓ev_cons, ↓ev_callF, ↓ev_callM, ↓ev_slM, ↓ev_ptM, ↓ev_asI, ↓ev_seM, ↓ev_itL, ↓ev_itT, ↓ev_mkT, ↓ev_mkL, ↓ev_lcM, ↓ev_dispM, ↓ev_lft, ↓thenK_nx, ↓thenK_rt, ↓thenK_bk, ↓thenK_ct, ↓tgK_s, ↓outK_rt, ↓outK_nx, ↓vK_s, ↓turnK_nx, ↓turnK_rt, ↓turnK_bk, ↓turnK_ct, ↓ev_asB, ↓ev_add, ↓ev_sub, ↓ev_mul, ↓ev_fdiv, ↓ev_mod, ↓ev_pow, ↓ev_neg, ↓ev_eqI, ↓ev_neI, ↓ev_lt, ↓ev_le, ↓ev_gt, ↓ev_ge, ↓ev_gcd, ↓ev_absI, ↓ev_maxI, ↓ev_minI, ↓ev_intI, ↓ev_intB, ↓ev_tupT, ↓ev_tupL, ↓ev_lstT, ↓ev_lstL, ↓ev_lenT, ↓ev_lenL, ↓ev_catL, ↓ev_catT, ↓ev_ixT, ↓ev_ixL, ↓ev_slT, ↓ev_slL, ↓ev_isN, ↓ev_isNotN, ↓ev_zipTT, ↓ev_enumT, ↓ev_enumL, ↓ev_eqS, startD, pick, setTg, setAll, wipeD, List.map_cons, List.map_nil, List.length_cons, List.length_nil, List.cons_append, List.nil_append, List.getElem?_cons_zero, List.getElem?_cons_succ, List.set_cons_zero, List.set_cons_succ, List.replicate_succ, List.replicate_zero, List.filterMap_cons, List.filterMap_nil, Nat.reduceAdd, Nat.reduceSub, Nat.reduceLeDiff, and_self, if_true, decide_eq_true_eq, true_and, and_true, List.set_nil, List.length_set]
  unfold sgn
  by_cases h : i = 0
  · simp [h]
  · by_cases h2 : 0 < i
    · simp [h, h2]
    · simp [h, h2]
theorem f2 {n : Nat} (hn : 1 ≤ n) (b : Bool) (ns : List Int) (μ : Mu) : F n 2 [sq b ns] μ = .ok (.int (gcdL ns : Int)) μ := by
  obtain ⟨k, rfl⟩ : ∃ k, n = k + 1 := ⟨n - 1, by omega⟩
  rw [F, s2_eq]
  unfold s2
  refine ev_eq ?_
  have loop : ∀ (d : D) (m : Mu), Ev (forD (.v 2) (sqM (setM (appM gcdF [gV 1, gV 2]) 1) nxM) (ns.map .int) [some d, some (.int 0), none] m) (thenK (sqM (rtM (gV 1)) nxM) (outK fun b μ' => b = .int (gcdL ns : Int) ∧ μ' = m)) := fun d m => by
    refine ev_for (fun ds ρ μ' => μ' = m ∧ ∃ (a : Nat) (o : Option D) (ms : List Int), ρ = [some d, some (.int a), o] ∧ ds = ms.map .int ∧ gcdA a ms = gcdL ns) ?_ ?_ _ _ _ ⟨rfl, 0, none, ns, rfl, rfl, rfl⟩
    · rintro x rest ρ μ' ⟨rfl, a, o, ms, rfl, e, q⟩
      cases ms with
      | nil => cases e
      | cons y ms =>
        cases e
        refine ⟨_, rfl, ?_⟩
        simp only [↓ev_out, ↓ev_sqM, ↓ev_foM, ↓ev_setM, ↓ev_asgM, ↓ev_putM, ↓ev_ifM, ↓ev_tvM, ↓ev_tnM, ↓ev_taM, ↓ev_toM, ↓ev_op2, ↓ev_gV, ↓ev_kM, ↓ev_rtM, ↓ev_exM, ↓ev_neM, ↓ev_notM, ↓ev_andM, ↓ev_orM, ↓ev_nxM, ↓ev_app, ↓ev_nil, ↓ev_cons, ↓ev_callF, ↓ev_callM, ↓ev_slM, ↓ev_ptM, ↓ev_asI, ↓ev_seM, ↓ev_itL, ↓ev_itT, ↓ev_mkT, ↓ev_mkL, ↓ev_lcM, ↓ev_dispM, ↓ev_lft, ↓thenK_nx, ↓thenK_rt, ↓thenK_bk, ↓thenK_ct, ↓tgK_s, ↓outK_rt, ↓outK_nx, ↓vK_s, ↓turnK_nx, ↓turnK_rt, ↓turnK_bk, ↓turnK_ct, ↓ev_asB, ↓ev_add, ↓ev_sub, ↓ev_mul, ↓ev_fdiv, ↓ev_mod, ↓ev_pow, ↓ev_neg, ↓ev_eqI, ↓ev_neI, ↓ev_lt, ↓ev_le, ↓ev_gt, ↓ev_ge, ↓ev_gcd, ↓ev_absI, ↓ev_maxI, ↓ev_minI, ↓ev_intI, ↓ev_intB, ↓ev_tupT, ↓ev_tupL, ↓ev_lstT, ↓ev_lstL, ↓ev_lenT, ↓ev_lenL, ↓ev_catL, ↓ev_catT, ↓ev_ixT, ↓ev_ixL, ↓ev_slT, ↓ev_slL, ↓ev_isN, ↓ev_isNotN, ↓ev_zipTT, ↓ev_enumT, ↓ev_enumL, ↓ev_eqS, startD, pick, setTg, setAll, wipeD, List.map_cons, List.map_nil, List.length_cons, List.length_nil, List.cons_append, List.nil_append, List.getElem?_cons_zero, List.getElem?_cons_succ, List.set_cons_zero, List.set_cons_succ, List.replicate_succ, List.replicate_zero, List.filterMap_cons, List.filterMap_nil, Nat.reduceAdd, Nat.reduceSub, Nat.reduceLeDiff, and_self, if_true, decide_eq_true_eq, true_and, and_true, List.set_nil, List.length_set]
        exact ⟨_, _, ms, rfl, rfl, q⟩
    · rintro ρ μ' ⟨rfl, a, o, ms, rfl, e, q⟩
      cases ms with
      | cons y ms => cases e
      | nil =>
        simp only [↓ev_out, ↓ev_sqM, ↓ev_foM, ↓ev_setM, ↓ev_asgM, ↓ev_putM, ↓ev_ifM, ↓ev_tvM, ↓ev_tnM, ↓ev_taM, ↓ev_toM, ↓ev_op2, ↓ev_gV, ↓ev_kM, ↓ev_rtM, ↓ev_exM, ↓ev_neM, ↓ev_notM, ↓ev_andM, ↓ev_orM, ↓ev_nxM, ↓ev_app, ↓ev_nil, ↓ev_cons, ↓ev_callF, ↓ev_callM, ↓ev_slM, ↓ev_ptM, ↓ev_asI, ↓ev_seM, ↓ev_itL, ↓ev_itT, ↓ev_mkT, ↓ev_mkL, ↓ev_lcM, ↓ev_dispM, ↓ev_lft, ↓thenK_nx, ↓thenK_rt, ↓thenK_bk, ↓thenK_ct, ↓tgK_s, ↓outK_rt, ↓outK_nx, ↓vK_s, ↓turnK_nx, ↓turnK_rt, ↓turnK_bk, ↓turnK_ct, ↓ev_asB, ↓ev_add, ↓ev_sub, ↓ev_mul, ↓ev_fdiv, ↓ev_mod, ↓ev_pow, ↓ev_neg, ↓ev_eqI, ↓ev_neI, ↓ev_lt, ↓ev_le, ↓ev_gt, ↓ev_ge, ↓ev_gcd, ↓ev_absI, ↓ev_maxI, ↓ev_minI, ↓ev_intI, ↓ev_intB, ↓ev_tupT, ↓ev_tupL, ↓ev_lstT, ↓ev_lstL, ↓ev_lenT, ↓ev_lenL, ↓ev_catL, ↓ev_catT, ↓ev_ixT, ↓ev_ixL, ↓ev_slT, ↓ev_slL, ↓ev_isN, ↓ev_isNotN, ↓ev_zipTT, ↓ev_enumT, ↓ev_enumL, ↓ev_eqS, startD, pick, setTg, setAll, wipeD, List.map_cons, List.map_nil, List.length_cons, List.length_nil, List.cons_append, List.nil_append, List.getElem?_cons_zero, List.getElem?_cons_succ, List.set_cons_zero, List.set_cons_succ, List.replicate_succ, List.replicate_zero, List.filterMap_cons, List.filterMap_nil, Nat.reduceAdd, Nat.reduceSub, Nat.reduceLeDiff, and_self, if_true, decide_eq_true_eq, true_and, and_true, List.set_nil, List.length_set]
        rw [← q]
        rfl
  cases b with
  | true =>
    unfold sq
    simp only [↓ev_out, ↓ev_sqM, ↓ev_foM, ↓ev_setM, ↓ev_asgM, ↓ev_putM, ↓ev_ifM, ↓ev_tvM, ↓ev_tnM, ↓ev_taM, ↓ev_toM, ↓ev_op2, ↓ev_gV, ↓ev_kM, ↓ev_rtM, ↓ev_exM, ↓ev_neM, ↓ev_notM, ↓ev_andM, ↓ev_orM, ↓ev_nxM, ↓ev_app, ↓ev_nil, ↓ev_cons, ↓ev_callF, ↓ev_callM, ↓ev_slM, ↓ev_ptM, ↓ev_asI, ↓ev_seM, ↓ev_itL, ↓ev_itT, ↓ev_mkT, ↓ev_mkL, ↓ev_lcM, ↓ev_dispM, ↓ev_lft, ↓thenK_nx, ↓thenK_rt, ↓thenK_bk, ↓thenK_ct, ↓tgK_s, ↓outK_rt, ↓outK_nx, ↓vK_s, ↓turnK_nx, ↓turnK_rt, ↓turnK_bk, ↓turnK_ct, ↓ev_asB, ↓ev_add, ↓ev_sub, ↓ev_mul, ↓ev_fdiv, ↓ev_mod, ↓ev_pow, ↓ev_neg, ↓ev_eqI, ↓ev_neI, ↓ev_lt, ↓ev_le, ↓ev_gt, ↓ev_ge, ↓ev_gcd, ↓ev_absI, ↓ev_maxI, ↓ev_minI, ↓ev_intI, ↓ev_intB, ↓ev_tupT, ↓ev_tupL, ↓ev_lstT, ↓ev_lstL, ↓ev_lenT, ↓ev_lenL, ↓ev_catL, ↓ev_catT, ↓ev_ixT, ↓ev_ixL, ↓ev_slT, ↓ev_slL, ↓ev_isN, ↓ev_isNotN, ↓ev_zipTT, ↓ev_enumT, ↓ev_enumL, ↓ev_eqS, startD, pick, setTg, setAll, wipeD, List.map_cons, List.map_nil, List.length_cons, List.length_nil, List.cons_append, List.nil_append, List.getElem?_cons_zero, List.getElem?_cons_succ, List.set_cons_zero, List.set_cons_succ, List.replicate_succ, List.replicate_zero, List.filterMap_cons, List.filterMap_nil, Nat.reduceAdd, Nat.reduceSub, Nat.reduceLeDiff, and_self, if_true, decide_eq_true_eq, true_and, and_true, List.set_nil, List.length_set]
    exact loop _ _
  | false =>
    unfold sq
    simp only [↓ev_out, ↓ev_sqM, ↓ev_foM, ↓ev_setM, ↓ev_asgM, ↓ev_putM, ↓ev_ifM, ↓ev_tvM, ↓ev_tnM, ↓ev_taM, ↓ev_toM, ↓ev_op2, ↓ev_gV, ↓ev_kM, ↓ev_rtM, ↓ev_exM, ↓ev_neM, ↓ev_notM, ↓ev_andM, ↓ev_orM, ↓ev_nxM, ↓ev_app, ↓ev_nil, ↓ev_cons, ↓ev_callF, ↓ev_callM, ↓ev_slM, ↓ev_ptM, ↓ev_asI, ↓ev_seM, ↓ev_itL, ↓ev_itT, ↓ev_mkT, ↓ev_mkL, ↓ev_lcM, ↓ev_dispM, ↓ev_lft, ↓thenK_nx, ↓thenK_rt, ↓thenK_bk, ↓thenK_ct, ↓tgK_s, ↓outK_rt, ↓outK_nx, ↓vK_s, ↓turnK_nx, ↓turnK_rt, ↓turnK_bk, ↓turnK_ct, ↓ev_asB, ↓ev_add, ↓ev_sub, ↓ev_mul, ↓ev_fdiv, ↓ev_mod, ↓ev_pow, ↓ev_neg, ↓ev_eqI, ↓ev_neI, ↓ev_lt, ↓ev_le, ↓ev_gt, ↓ev_ge, ↓ev_gcd, ↓ev_absI, ↓ev_maxI, ↓ev_minI, ↓ev_intI, ↓ev_intB, ↓ev_tupT, ↓ev_tupL, ↓ev_lstT, ↓ev_lstL, ↓ev_lenT, ↓ev_lenL, ↓ev_catL, ↓ev_catT, ↓ev_ixT, ↓ev_ixL, ↓ev_slT, ↓ev_slL, ↓ev_isN, ↓ev_isNotN, ↓ev_zipTT, ↓ev_enumT, ↓ev_enumL, ↓ev_eqS, startD, pick, setTg, setAll, wipeD, List.map_cons, List.map_nil, List.length_cons, List.length_nil, List.cons_append, List.nil_append, List.getElem?_cons_zero, List.getElem?_cons_succ, List.set_cons_zero, List.set_cons_succ, List.replicate_succ, List.replicate_zero, List.filterMap_cons, List.filterMap_nil, Nat.reduceAdd, Nat.reduceSub, Nat.reduceLeDiff, and_self, if_true, decide_eq_true_eq, true_and, and_true, List.set_nil, List.length_set]
    exact loop _ _
theorem f3 {n : Nat} (hn : 2 ≤ n) (b : Bool) (ns : List Int) (μ : Mu) (hb : ∀ x ∈ ns, x.natAbs < BB) (hl : ns.length ≤ 1000) : F n 3 [sq b ns] μ = .ok (tp (lowL ns)) μ := by
  obtain ⟨k, rfl⟩ : ∃ k, n = k + 1 := ⟨n - 1, by omega⟩
  rw [F, s3_eq]
  unfold s3
  refine ev_eq ?_
  simp only [↓ev_out, ↓ev_sqM, ↓ev_foM, ↓ev_setM, ↓ev_asgM, ↓ev_putM, ↓ev_ifM, ↓ev_tvM, ↓ev_tnM, ↓ev_taM, ↓ev_toM, ↓ev_op2, ↓ev_gV, ↓ev_kM, ↓ev_rtM, ↓ev_exM, ↓ev_neM, ↓ev_notM, ↓ev_andM, ↓ev_orM, ↓ev_nxM, ↓ev_app, ↓ev_nil, ↓ev_cons, ↓ev_callF, ↓ev_callM, ↓ev_slM, ↓ev_ptM, ↓ev_asI, ↓ev_seM, ↓ev_itL, ↓ev_itT, ↓ev_mkT, ↓ev_mkL, ↓ev_lcM, ↓ev_dispM, ↓ev_lft, ↓thenK_nx, ↓thenK_rt, ↓thenK_bk, ↓thenK_ct, ↓tgK_s, ↓outK_rt, ↓outK_nx, ↓vK_s, ↓turnK_nx, ↓turnK_rt, ↓turnK_bk, ↓turnK_ct, ↓ev_asB, ↓ev_add, ↓ev_sub, ↓ev_mul, ↓ev_fdiv, ↓ev_mod, ↓ev_pow, ↓ev_neg, ↓ev_eqI, ↓ev_neI, ↓ev_lt, ↓ev_le, ↓ev_gt, ↓ev_ge, ↓ev_gcd, ↓ev_absI, ↓ev_maxI, ↓ev_minI, ↓ev_intI, ↓ev_intB, ↓ev_tupT, ↓ev_tupL, ↓ev_lstT, ↓ev_lstL, ↓ev_lenT, ↓ev_lenL, ↓ev_catL, ↓ev_catT, ↓ev_ixT, ↓ev_ixL, ↓ev_slT, ↓ev_slL, ↓ev_isN, ↓ev_isNotN, ↓ev_zipTT, ↓ev_enumT, ↓ev_enumL, ↓ev_eqS, startD, pick, setTg, setAll, wipeD, List.map_cons, List.map_nil, List.length_cons, List.length_nil, List.cons_append, List.nil_append, List.getElem?_cons_zero, List.getElem?_cons_succ, List.set_cons_zero, List.set_cons_succ, List.replicate_succ, List.replicate_zero, List.filterMap_cons, List.filterMap_nil, Nat.reduceAdd, Nat.reduceSub, Nat.reduceLeDiff, and_self, if_true, decide_eq_true_eq, true_and, and_true, List.set_nil, List.length_set]
  refine (ev_of (f2 (by omega) b ns μ)).mpr ?_
  simp only [↓ev_out, ↓ev_sqM, ↓ev_foM, ↓ev_setM, ↓ev_asgM, ↓ev_putM, ↓ev_ifM, ↓ev_tvM, ↓ev_tnM, ↓ev_taM, ↓ev_toM, ↓ev_op2, ↓ev_gV, ↓ev_kM, ↓ev_rtM, ↓ev_exM, ↓ev_neM, ↓ev_notM, ↓ev_andM, ↓ev_orM, ↓ev_nxM, ↓ev_app, ↓ev_nil, ↓ev_cons, ↓ev_callF, ↓ev_callM, ↓ev_slM, ↓ev_ptM, ↓ev_asI, ↓ev_seM, ↓ev_itL, ↓ev_itT, ↓ev_mkT, ↓ev_mkL, ↓ev_lcM, ↓ev_dispM, ↓ev_lft, ↓thenK_nx, ↓thenK_rt, ↓thenK_bk, ↓thenK_ct, ↓tgK_s, ↓outK_rt, ↓outK_nx, ↓vK_s, ↓turnK_nx, ↓turnK_rt, ↓turnK_bk, ↓turnK_ct, ↓ev_asB, ↓ev_add, ↓ev_sub, ↓ev_mul, ↓ev_fdiv, ↓ev_mod, ↓ev_pow, ↓ev_neg, ↓ev_eqI, ↓ev_neI, ↓ev_lt, ↓ev_le, ↓ev_gt, ↓ev_ge, ↓ev_gcd, ↓ev_absI, ↓ev_maxI, ↓ev_minI, ↓ev_intI, ↓ev_intB, ↓ev_tupT, ↓ev_tupL, ↓ev_lstT, ↓ev_lstL, ↓ev_lenT, ↓ev_lenL, ↓ev_catL, ↓ev_catT, ↓ev_ixT, ↓ev_ixL, ↓ev_slT, ↓ev_slL, ↓ev_isN, ↓ev_isNotN, ↓ev_zipTT, ↓ev_enumT, ↓ev_enumL, ↓ev_eqS, startD, pick, setTg, setAll, wipeD, List.map_cons, List.map_nil, List.length_cons, List.length_nil, List.cons_append, List.nil_append, List.getElem?_cons_zero, List.getElem?_cons_succ, List.set_cons_zero, List.set_cons_succ, List.replicate_succ, List.replicate_zero, List.filterMap_cons, List.filterMap_nil, Nat.reduceAdd, Nat.reduceSub, Nat.reduceLeDiff, and_self, if_true, decide_eq_true_eq, true_and, and_true, List.set_nil, List.length_set]
  have hg := gcdL_bound BB_pos ns hb
  unfold lowL
  by_cases h : gcdL ns < 2
  · have h' : (gcdL ns : Int) < 2 := by omega
    simp only [if_pos h, h', ↓ev_out, ↓ev_sqM, ↓ev_foM, ↓ev_setM, ↓ev_asgM, ↓ev_putM, ↓ev_ifM, ↓ev_tvM, ↓ev_tnM, ↓ev_taM, ↓ev_toM, ↓ev_op2, ↓ev_gV, ↓ev_kM, ↓ev_rtM, ↓ev_exM, ↓ev_neM, ↓ev_notM, ↓ev_andM, ↓ev_orM, ↓ev_nxM, ↓ev_app, ↓ev_nil, ↓ev_cons, ↓ev_callF, ↓ev_callM, ↓ev_slM, ↓ev_ptM, ↓ev_asI, ↓ev_seM, ↓ev_itL, ↓ev_itT, ↓ev_mkT, ↓ev_mkL, ↓ev_lcM, ↓ev_dispM, ↓ev_lft, ↓thenK_nx, ↓thenK_rt, ↓thenK_bk, ↓thenK_ct, ↓tgK_s, ↓outK_rt, ↓outK_nx, ↓vK_s, ↓turnK_nx, ↓turnK_rt, ↓turnK_bk, ↓turnK_ct, ↓ev_asB, ↓ev_add, ↓ev_sub, ↓ev_mul, ↓ev_fdiv, ↓ev_mod, ↓ev_pow, ↓ev_neg, ↓ev_eqI, ↓ev_neI, ↓ev_lt, ↓ev_le, ↓ev_gt, ↓ev_ge, ↓ev_gcd, ↓ev_absI, ↓ev_maxI, ↓ev_minI, ↓ev_intI, ↓ev_intB, ↓ev_tupT, ↓ev_tupL, ↓ev_lstT, ↓ev_lstL, ↓ev_lenT, ↓ev_lenL, ↓ev_catL, ↓ev_catT, ↓ev_ixT, ↓ev_ixL, ↓ev_slT, ↓ev_slL, ↓ev_isN, ↓ev_isNotN, ↓ev_zipTT, ↓ev_enumT, ↓ev_enumL, ↓ev_eqS, startD, pick, setTg, setAll, wipeD, List.map_cons, List.map_nil, List.length_cons, List.length_nil, List.cons_append, List.nil_append, List.getElem?_cons_zero, List.getElem?_cons_succ, List.set_cons_zero, List.set_cons_succ, List.replicate_succ, List.replicate_zero, List.filterMap_cons, List.filterMap_nil, Nat.reduceAdd, Nat.reduceSub, Nat.reduceLeDiff, and_self, if_true, decide_eq_true_eq, true_and, and_true, List.set_nil, List.length_set]
    cases b <;> (unfold sq; simp only [↓ev_out, ↓ev_sqM, ↓ev_foM, ↓ev_setM, ↓ev_asgM, ↓ev_putM, ↓ev_ifM, ↓ev_tvM, ↓ev_tnM, ↓ev_taM, ↓ev_toM, ↓ev_op2, ↓ev_gV, ↓ev_kM, ↓ev_rtM, ↓ev_exM, ↓ev_neM, ↓ev_notM, ↓ev_andM, ↓ev_orM, ↓ev_nxM, ↓ev_app, ↓ev_nil, ↓ev_cons, ↓ev_callF, ↓ev_callM, ↓ev_slM, ↓ev_ptM, ↓ev_asI, ↓ev_seM, ↓ev_itL, ↓ev_itT, ↓ev_mkT, ↓ev_mkL, ↓ev_lcM, ↓ev_dispM, ↓ev_lft, ↓thenK_nx, ↓thenK_rt, ↓thenK_bk, ↓thenK_ct, ↓tgK_s, ↓outK_rt, ↓outK_nx, ↓vK_s, ↓turnK_nx, ↓turnK_rt, ↓turnK_bk, ↓turnK_ct, ↓ev_asB, ↓ev_add, ↓ev_sub, ↓ev_mul, ↓ev_fdiv, ↓ev_mod, ↓ev_pow, ↓ev_neg, ↓ev_eqI, ↓ev_neI, ↓ev_lt, ↓ev_le, ↓ev_gt, ↓ev_ge, ↓ev_gcd, ↓ev_absI, ↓ev_maxI, ↓ev_minI, ↓ev_intI, ↓ev_intB, ↓ev_tupT, ↓ev_tupL, ↓ev_lstT, ↓ev_lstL, ↓ev_lenT, ↓ev_lenL, ↓ev_catL, ↓ev_catT, ↓ev_ixT, ↓ev_ixL, ↓ev_slT, ↓ev_slL, ↓ev_isN, ↓ev_isNotN, ↓ev_zipTT, ↓ev_enumT, ↓ev_enumL, ↓ev_eqS, startD, pick, setTg, setAll, wipeD, List.map_cons, List.map_nil, List.length_cons, List.length_nil, List.cons_append, List.nil_append, List.getElem?_cons_zero, List.getElem?_cons_succ, List.set_cons_zero, List.set_cons_succ, List.replicate_succ, List.replicate_zero, List.filterMap_cons, List.filterMap_nil, Nat.reduceAdd, Nat.reduceSub, Nat.reduceLeDiff, and_self, if_true, decide_eq_true_eq, true_and, and_true, List.set_nil, List.length_set])
  · have h' : ¬ (gcdL ns : Int) < 2 := by omega
    simp only [if_neg h, h', if_false, ↓ev_out, ↓ev_sqM, ↓ev_foM, ↓ev_setM, ↓ev_asgM, ↓ev_putM, ↓ev_ifM, ↓ev_tvM, ↓ev_tnM, ↓ev_taM, ↓ev_toM, ↓ev_op2, ↓ev_gV, ↓ev_kM, ↓ev_rtM, ↓ev_exM, ↓ev_neM, ↓ev_notM, ↓ev_andM, ↓ev_orM, ↓ev_nxM, ↓ev_app, ↓ev_nil, ↓ev_cons, ↓ev_callF, ↓ev_callM, ↓ev_slM, ↓ev_ptM, ↓ev_asI, ↓ev_seM, ↓ev_itL, ↓ev_itT, ↓ev_mkT, ↓ev_mkL, ↓ev_lcM, ↓ev_dispM, ↓ev_lft, ↓thenK_nx, ↓thenK_rt, ↓thenK_bk, ↓thenK_ct, ↓tgK_s, ↓outK_rt, ↓outK_nx, ↓vK_s, ↓turnK_nx, ↓turnK_rt, ↓turnK_bk, ↓turnK_ct, ↓ev_asB, ↓ev_add, ↓ev_sub, ↓ev_mul, ↓ev_fdiv, ↓ev_mod, ↓ev_pow, ↓ev_neg, ↓ev_eqI, ↓ev_neI, ↓ev_lt, ↓ev_le, ↓ev_gt, ↓ev_ge, ↓ev_gcd, ↓ev_absI, ↓ev_maxI, ↓ev_minI, ↓ev_intI, ↓ev_intB, ↓ev_tupT, ↓ev_tupL, ↓ev_lstT, ↓ev_lstL, ↓ev_lenT, ↓ev_lenL, ↓ev_catL, ↓ev_catT, ↓ev_ixT, ↓ev_ixL, ↓ev_slT, ↓ev_slL, ↓ev_isN, ↓ev_isNotN, ↓ev_zipTT, ↓ev_enumT, ↓ev_enumL, ↓ev_eqS, startD, pick, setTg, setAll, wipeD, List.map_cons, List.map_nil, List.length_cons, List.length_nil, List.cons_append, List.nil_append, List.getElem?_cons_zero, List.getElem?_cons_succ, List.set_cons_zero, List.set_cons_succ, List.replicate_succ, List.replicate_zero, List.filterMap_cons, List.filterMap_nil, Nat.reduceAdd, Nat.reduceSub, Nat.reduceLeDiff, and_self, if_true, decide_eq_true_eq, true_and, and_true, List.set_nil, List.length_set]
    have lc : ∀ ρ : Rho, ρ = [some (sq b ns), some (.int (gcdL ns : Int)), none] → lcD (.v 2) (kM true) (op2 (gV 2) (gV 1) fdivD) (ns.map .int) ρ μ = .ok (ns.map fun x => .int (x.fdiv (gcdL ns : Int))) μ := fun ρ e => by
      subst e
      refine lc_ints (fun x => .int (x.fdiv (gcdL ns : Int))) fun x hx => ?_
      simp only [↓ev_out, ↓ev_sqM, ↓ev_foM, ↓ev_setM, ↓ev_asgM, ↓ev_putM, ↓ev_ifM, ↓ev_tvM, ↓ev_tnM, ↓ev_taM, ↓ev_toM, ↓ev_op2, ↓ev_gV, ↓ev_kM, ↓ev_rtM, ↓ev_exM, ↓ev_neM, ↓ev_notM, ↓ev_andM, ↓ev_orM, ↓ev_nxM, ↓ev_app, ↓ev_nil, ↓ev_cons, ↓ev_callF, ↓ev_callM, ↓ev_slM, ↓ev_ptM, ↓ev_asI, ↓ev_seM, ↓ev_itL, ↓ev_itT, ↓ev_mkT, ↓ev_mkL, ↓ev_lcM, ↓ev_dispM, ↓ev_lft, ↓thenK_nx, ↓thenK_rt, ↓thenK_bk, ↓thenK_ct, ↓tgK_s, ↓outK_rt, ↓outK_nx, ↓vK_s, ↓turnK_nx, ↓turnK_rt, ↓turnK_bk, ↓turnK_ct, ↓ev_asB, ↓ev_add, ↓ev_sub, ↓ev_mul, ↓ev_fdiv, ↓ev_mod, ↓ev_pow, ↓ev_neg, ↓ev_eqI, ↓ev_neI, ↓ev_lt, ↓ev_le, ↓ev_gt, ↓ev_ge, ↓ev_gcd, ↓ev_absI, ↓ev_maxI, ↓ev_minI, ↓ev_intI, ↓ev_intB, ↓ev_tupT, ↓ev_tupL, ↓ev_lstT, ↓ev_lstL, ↓ev_lenT, ↓ev_lenL, ↓ev_catL, ↓ev_catT, ↓ev_ixT, ↓ev_ixL, ↓ev_slT, ↓ev_slL, ↓ev_isN, ↓ev_isNotN, ↓ev_zipTT, ↓ev_enumT, ↓ev_enumL, ↓ev_eqS, startD, pick, setTg, setAll, wipeD, List.map_cons, List.map_nil, List.length_cons, List.length_nil, List.cons_append, List.nil_append, List.getElem?_cons_zero, List.getElem?_cons_succ, List.set_cons_zero, List.set_cons_succ, List.replicate_succ, List.replicate_zero, List.filterMap_cons, List.filterMap_nil, Nat.reduceAdd, Nat.reduceSub, Nat.reduceLeDiff, and_self, if_true, decide_eq_true_eq, true_and, and_true, List.set_nil, List.length_set]
      exact divOk_BB (by omega) hg
    cases b with
    | true =>
      unfold sq
      simp only [↓ev_out, ↓ev_sqM, ↓ev_foM, ↓ev_setM, ↓ev_asgM, ↓ev_putM, ↓ev_ifM, ↓ev_tvM, ↓ev_tnM, ↓ev_taM, ↓ev_toM, ↓ev_op2, ↓ev_gV, ↓ev_kM, ↓ev_rtM, ↓ev_exM, ↓ev_neM, ↓ev_notM, ↓ev_andM, ↓ev_orM, ↓ev_nxM, ↓ev_app, ↓ev_nil, ↓ev_cons, ↓ev_callF, ↓ev_callM, ↓ev_slM, ↓ev_ptM, ↓ev_asI, ↓ev_seM, ↓ev_itL, ↓ev_itT, ↓ev_mkT, ↓ev_mkL, ↓ev_lcM, ↓ev_dispM, ↓ev_lft, ↓thenK_nx, ↓thenK_rt, ↓thenK_bk, ↓thenK_ct, ↓tgK_s, ↓outK_rt, ↓outK_nx, ↓vK_s, ↓turnK_nx, ↓turnK_rt, ↓turnK_bk, ↓turnK_ct, ↓ev_asB, ↓ev_add, ↓ev_sub, ↓ev_mul, ↓ev_fdiv, ↓ev_mod, ↓ev_pow, ↓ev_neg, ↓ev_eqI, ↓ev_neI, ↓ev_lt, ↓ev_le, ↓ev_gt, ↓ev_ge, ↓ev_gcd, ↓ev_absI, ↓ev_maxI, ↓ev_minI, ↓ev_intI, ↓ev_intB, ↓ev_tupT, ↓ev_tupL, ↓ev_lstT, ↓ev_lstL, ↓ev_lenT, ↓ev_lenL, ↓ev_catL, ↓ev_catT, ↓ev_ixT, ↓ev_ixL, ↓ev_slT, ↓ev_slL, ↓ev_isN, ↓ev_isNotN, ↓ev_zipTT, ↓ev_enumT, ↓ev_enumL, ↓ev_eqS, startD, pick, setTg, setAll, wipeD, List.map_cons, List.map_nil, List.length_cons, List.length_nil, List.cons_append, List.nil_append, List.getElem?_cons_zero, List.getElem?_cons_succ, List.set_cons_zero, List.set_cons_succ, List.replicate_succ, List.replicate_zero, List.filterMap_cons, List.filterMap_nil, Nat.reduceAdd, Nat.reduceSub, Nat.reduceLeDiff, and_self, if_true, decide_eq_true_eq, true_and, and_true, List.set_nil, List.length_set]
      refine (ev_of (lc _ rfl)).mpr ?_
      simp only [List.length_map, if_pos (show ns.length ≤ 1000000 by omega), ↓ev_out, ↓ev_sqM, ↓ev_foM, ↓ev_setM, ↓ev_asgM, ↓ev_putM, ↓ev_ifM, ↓ev_tvM, ↓ev_tnM, ↓ev_taM, ↓ev_toM, ↓ev_op2, ↓ev_gV, ↓ev_kM, ↓ev_rtM, ↓ev_exM, ↓ev_neM, ↓ev_notM, ↓ev_andM, ↓ev_orM, ↓ev_nxM, ↓ev_app, ↓ev_nil, ↓ev_cons, ↓ev_callF, ↓ev_callM, ↓ev_slM, ↓ev_ptM, ↓ev_asI, ↓ev_seM, ↓ev_itL, ↓ev_itT, ↓ev_mkT, ↓ev_mkL, ↓ev_lcM, ↓ev_dispM, ↓ev_lft, ↓thenK_nx, ↓thenK_rt, ↓thenK_bk, ↓thenK_ct, ↓tgK_s, ↓outK_rt, ↓outK_nx, ↓vK_s, ↓turnK_nx, ↓turnK_rt, ↓turnK_bk, ↓turnK_ct, ↓ev_asB, ↓ev_add, ↓ev_sub, ↓ev_mul, ↓ev_fdiv, ↓ev_mod, ↓ev_pow, ↓ev_neg, ↓ev_eqI, ↓ev_neI, ↓ev_lt, ↓ev_le, ↓ev_gt, ↓ev_ge, ↓ev_gcd, ↓ev_absI, ↓ev_maxI, ↓ev_minI, ↓ev_intI, ↓ev_intB, ↓ev_tupT, ↓ev_tupL, ↓ev_lstT, ↓ev_lstL, ↓ev_lenT, ↓ev_lenL, ↓ev_catL, ↓ev_catT, ↓ev_ixT, ↓ev_ixL, ↓ev_slT, ↓ev_slL, ↓ev_isN, ↓ev_isNotN, ↓ev_zipTT, ↓ev_enumT, ↓ev_enumL, ↓ev_eqS, startD, pick, setTg, setAll, wipeD, List.map_cons, List.map_nil, List.length_cons, List.length_nil, List.cons_append, List.nil_append, List.getElem?_cons_zero, List.getElem?_cons_succ, List.set_cons_zero, List.set_cons_succ, List.replicate_succ, List.replicate_zero, List.filterMap_cons, List.filterMap_nil, Nat.reduceAdd, Nat.reduceSub, Nat.reduceLeDiff, and_self, if_true, decide_eq_true_eq, true_and, and_true, List.set_nil, List.length_set]
      show D.tup _ = D.tup (List.map D.int (List.map _ ns))
      rw [List.map_map]
      rfl
    | false =>
      unfold sq
      simp only [↓ev_out, ↓ev_sqM, ↓ev_foM, ↓ev_setM, ↓ev_asgM, ↓ev_putM, ↓ev_ifM, ↓ev_tvM, ↓ev_tnM, ↓ev_taM, ↓ev_toM, ↓ev_op2, ↓ev_gV, ↓ev_kM, ↓ev_rtM, ↓ev_exM, ↓ev_neM, ↓ev_notM, ↓ev_andM, ↓ev_orM, ↓ev_nxM, ↓ev_app, ↓ev_nil, ↓ev_cons, ↓ev_callF, ↓ev_callM, ↓ev_slM, ↓ev_ptM, ↓ev_asI, ↓ev_seM, ↓ev_itL, ↓ev_itT, ↓ev_mkT, ↓ev_mkL, ↓ev_lcM, ↓ev_dispM, ↓ev_lft, ↓thenK_nx, ↓thenK_rt, ↓thenK_bk, ↓thenK_ct, ↓tgK_s, ↓outK_rt, ↓outK_nx, ↓vK_s, ↓turnK_nx, ↓turnK_rt, ↓turnK_bk, ↓turnK_ct, ↓ev_asB, ↓ev_add, ↓ev_sub, ↓ev_mul, ↓ev_fdiv, ↓ev_mod, ↓ev_pow, ↓ev_neg, ↓ev_eqI, ↓ev_neI, ↓ev_lt, ↓ev_le, ↓ev_gt, ↓ev_ge, ↓ev_gcd, ↓ev_absI, ↓ev_maxI, ↓ev_minI, ↓ev_intI, ↓ev_intB, ↓ev_tupT, ↓ev_tupL, ↓ev_lstT, ↓ev_lstL, ↓ev_lenT, ↓ev_lenL, ↓ev_catL, ↓ev_catT, ↓ev_ixT, ↓ev_ixL, ↓ev_slT, ↓ev_slL, ↓ev_isN, ↓ev_isNotN, ↓ev_zipTT, ↓ev_enumT, ↓ev_enumL, ↓ev_eqS, startD, pick, setTg, setAll, wipeD, List.map_cons, List.map_nil, List.length_cons, List.length_nil, List.cons_append, List.nil_append, List.getElem?_cons_zero, List.getElem?_cons_succ, List.set_cons_zero, List.set_cons_succ, List.replicate_succ, List.replicate_zero, List.filterMap_cons, List.filterMap_nil, Nat.reduceAdd, Nat.reduceSub, Nat.reduceLeDiff, and_self, if_true, decide_eq_true_eq, true_and, and_true, List.set_nil, List.length_set]
      refine (ev_of (lc _ rfl)).mpr ?_
      simp only [List.length_map, if_pos (show ns.length ≤ 1000000 by omega), ↓ev_out, ↓ev_sqM, ↓ev_foM, ↓ev_setM, ↓ev_asgM, ↓ev_putM, ↓ev_ifM, ↓ev_tvM, ↓ev_tnM, ↓ev_taM, ↓ev_toM, ↓ev_op2, ↓ev_gV, ↓ev_kM, ↓ev_rtM, ↓ev_exM, ↓ev_neM, ↓ev_notM, ↓ev_andM, ↓ev_orM, ↓ev_nxM, ↓ev_app, ↓ev_nil, ↓ev_cons, ↓ev_callF, ↓ev_callM, ↓ev_slM, ↓ev_ptM, ↓ev_asI, ↓ev_seM, ↓ev_itL, ↓ev_itT, ↓ev_mkT, ↓ev_mkL, ↓ev_lcM, ↓ev_dispM, ↓ev_lft, ↓thenK_nx, ↓thenK_rt, ↓thenK_bk, ↓thenK_ct, ↓tgK_s, ↓outK_rt, ↓outK_nx, ↓vK_s, ↓turnK_nx, ↓turnK_rt, ↓turnK_bk, ↓turnK_ct, ↓ev_asB, ↓ev_add, ↓ev_sub, ↓ev_mul, ↓ev_fdiv, ↓ev_mod, ↓ev_pow, ↓ev_neg, ↓ev_eqI, ↓ev_neI, ↓ev_lt, ↓ev_le, ↓ev_gt, ↓ev_ge, ↓ev_gcd, ↓ev_absI, ↓ev_maxI, ↓ev_minI, ↓ev_intI, ↓ev_intB, ↓ev_tupT, ↓ev_tupL, ↓ev_lstT, ↓ev_lstL, ↓ev_lenT, ↓ev_lenL, ↓ev_catL, ↓ev_catT, ↓ev_ixT, ↓ev_ixL, ↓ev_slT, ↓ev_slL, ↓ev_isN, ↓ev_isNotN, ↓ev_zipTT, ↓ev_enumT, ↓ev_enumL, ↓ev_eqS, startD, pick, setTg, setAll, wipeD, List.map_cons, List.map_nil, List.length_cons, List.length_nil, List.cons_append, List.nil_append, List.getElem?_cons_zero, List.getElem?_cons_succ, List.set_cons_zero, List.set_cons_succ, List.replicate_succ, List.replicate_zero, List.filterMap_cons, List.filterMap_nil, Nat.reduceAdd, Nat.reduceSub, Nat.reduceLeDiff, and_self, if_true, decide_eq_true_eq, true_and, and_true, List.set_nil, List.length_set]
      show D.tup _ = D.tup (List.map D.int (List.map _ ns))
      rw [List.map_map]
      rfl
def dot (a b : List Int) : Int := ((a.zip b).map fun p => p.1 * p.2).sum
theorem gcd2 (a b : Int) : gcdL [a, b] = Nat.gcd a.natAbs b.natAbs := by
  rw [gcdL_cons, gcdL_cons]
  show Nat.gcd a.natAbs (Nat.gcd b.natAbs 0) = _
  rw [Nat.gcd_zero_right]
theorem low2 {a b : Int} (hb : 0 < b) : lowL [a, b] = [a.fdiv (gcdL [a, b] : Int), b.fdiv (gcdL [a, b] : Int)] := by
  unfold lowL
  by_cases h : gcdL [a, b] < 2
  · rw [if_pos h]
    have : gcdL [a, b] ≠ 0 := fun z => by
      have := gcdL_zero _ z b (by simp)
      omega
    have e : gcdL [a, b] = 1 := by omega
    rw [e]
    show [a, b] = [a.fdiv 1, b.fdiv 1]
    rw [Int.fdiv_one, Int.fdiv_one]
  · rw [if_neg h]
    rfl
theorem f4 {n : Nat} (hn : 1 ≤ n) (a b : Int) (μ : Mu) (hb : 0 < b) (hB : b.natAbs < BB) : F n 4 [.int a, .int b] μ = .ok (tp (lowL [a, b])) μ := by
  obtain ⟨k, rfl⟩ : ∃ k, n = k + 1 := ⟨n - 1, by omega⟩
  rw [F, s4_eq]
  unfold s4
  refine ev_eq ?_
  have h0 : ¬ b = 0 := by omega
  have h1 : ¬ b < 0 := by omega
  have hg : gcdL [a, b] ≠ 0 := fun z => by
    have := gcdL_zero _ z b (by simp)
    omega
  have hgB : gcdL [a, b] < BB := Nat.lt_of_le_of_lt (Nat.le_of_dvd (Int.natAbs_pos.mpr h0) (gcdL_dvd [a, b] b (by simp))) hB
  have hd := divOk_BB hg hgB
  simp only [↓ev_out, ↓ev_sqM, ↓ev_foM, ↓ev_setM, ↓ev_asgM, ↓ev_putM, ↓ev_ifM, ↓ev_tvM, ↓ev_tnM, ↓ev_taM, ↓ev_toM, ↓ev_op2, ↓ev_gV, ↓ev_kM, ↓ev_rtM, ↓ev_exM, ↓ev_neM, ↓ev_notM, ↓ev_andM, ↓ev_orM, ↓ev_nxM, ↓ev_app, ↓ev_nil, ↓ev_cons, ↓ev_callF, ↓ev_callM, ↓ev_slM, ↓ev_ptM, ↓ev_asI, ↓ev_seM, ↓ev_itL, ↓ev_itT, ↓ev_mkT, ↓ev_mkL, ↓ev_lcM, ↓ev_dispM, ↓ev_lft, ↓thenK_nx, ↓thenK_rt, ↓thenK_bk, ↓thenK_ct, ↓tgK_s, ↓outK_rt, ↓outK_nx, ↓vK_s, ↓turnK_nx, ↓turnK_rt, ↓turnK_bk, ↓turnK_ct, ↓ev_asB, ↓ev_add, ↓ev_sub, ↓ev_mul, ↓ev_fdiv, ↓ev_mod, ↓ev_pow, ↓ev_neg, ↓ev_eqI, ↓ev_neI, ↓ev_lt, ↓ev_le, ↓ev_gt, ↓ev_ge, ↓ev_gcd, ↓ev_absI, ↓ev_maxI, ↓ev_minI, ↓ev_intI, ↓ev_intB, ↓ev_tupT, ↓ev_tupL, ↓ev_lstT, ↓ev_lstL, ↓ev_lenT, ↓ev_lenL, ↓ev_catL, ↓ev_catT, ↓ev_ixT, ↓ev_ixL, ↓ev_slT, ↓ev_slL, ↓ev_isN, ↓ev_isNotN, ↓ev_zipTT, ↓ev_enumT, ↓ev_enumL, ↓ev_eqS, startD, pick, setTg, setAll, wipeD, List.map_cons, List.map_nil, List.length_cons, List.length_nil, List.cons_append, List.nil_append, List.getElem?_cons_zero, List.getElem?_cons_succ, List.set_cons_zero, List.set_cons_succ, List.replicate_succ, List.replicate_zero, List.filterMap_cons, List.filterMap_nil, Nat.reduceAdd, Nat.reduceSub, Nat.reduceLeDiff, and_self, if_true, decide_eq_true_eq, true_and, and_true, List.set_nil, List.length_set, h0, h1, decide_false, Bool.false_eq_true, if_false, ← gcd2, hd]
  rw [low2 hb]
  rfl
theorem f5 {n : Nat} (hn : 2 ≤ n) (ns : List Int) (m : Nat) (μ : Mu) (hm : ns.length = m) : F n 5 [tp ns, .int (m : Int)] μ = .ok .non μ := by
  obtain ⟨k, rfl⟩ : ∃ k, n = k + 1 := ⟨n - 1, by omega⟩
  rw [F, s5_eq]
  unfold s5
  refine ev_eq ?_
  have e : isaF [tp ns, .ty "tuple"] μ = .ok (.bl true) μ := rfl
  have e2 : ((List.map D.int ns).length : Int) = (m : Int) := by rw [List.length_map, hm]
  simp only [↓ev_out, ↓ev_sqM, ↓ev_ifM, ↓ev_toM, ↓ev_tnM, ↓ev_tvM, ↓ev_out, ↓ev_sqM, ↓ev_foM, ↓ev_setM, ↓ev_asgM, ↓ev_putM, ↓ev_ifM, ↓ev_tvM, ↓ev_tnM, ↓ev_taM, ↓ev_toM, ↓ev_op2, ↓ev_gV, ↓ev_kM, ↓ev_rtM, ↓ev_exM, ↓ev_neM, ↓ev_notM, ↓ev_andM, ↓ev_orM, ↓ev_nxM, ↓ev_app, ↓ev_nil, ↓ev_cons, ↓ev_callF, ↓ev_callM, ↓ev_slM, ↓ev_ptM, ↓ev_asI, ↓ev_seM, ↓ev_itL, ↓ev_itT, ↓ev_mkT, ↓ev_mkL, ↓ev_lcM, ↓ev_dispM, ↓ev_lft, ↓thenK_nx, ↓thenK_rt, ↓thenK_bk, ↓thenK_ct, ↓tgK_s, ↓outK_rt, ↓outK_nx, ↓vK_s, ↓turnK_nx, ↓turnK_rt, ↓turnK_bk, ↓turnK_ct, ↓ev_asB, ↓ev_add, ↓ev_sub, ↓ev_mul, ↓ev_fdiv, ↓ev_mod, ↓ev_pow, ↓ev_neg, ↓ev_eqI, ↓ev_neI, ↓ev_lt, ↓ev_le, ↓ev_gt, ↓ev_ge, ↓ev_gcd, ↓ev_absI, ↓ev_maxI, ↓ev_minI, ↓ev_intI, ↓ev_intB, ↓ev_tupT, ↓ev_tupL, ↓ev_lstT, ↓ev_lstL, ↓ev_lenT, ↓ev_lenL, ↓ev_catL, ↓ev_catT, ↓ev_ixT, ↓ev_ixL, ↓ev_slT, ↓ev_slL, ↓ev_isN, ↓ev_isNotN, ↓ev_zipTT, ↓ev_enumT, ↓ev_enumL, ↓ev_eqS, startD, pick, setTg, setAll, wipeD, List.map_cons, List.map_nil, List.length_cons, List.length_nil, List.cons_append, List.nil_append, List.getElem?_cons_zero, List.getElem?_cons_succ, List.set_cons_zero, List.set_cons_succ, List.replicate_succ, List.replicate_zero, List.filterMap_cons, List.filterMap_nil, Nat.reduceAdd, Nat.reduceSub, Nat.reduceLeDiff, and_self, if_true, decide_eq_true_eq, true_and, and_true, List.set_nil, List.length_set]
  refine (ev_of e).mpr ?_
  simp only [↓ev_out, ↓ev_sqM, ↓ev_foM, ↓ev_setM, ↓ev_asgM, ↓ev_putM, ↓ev_ifM, ↓ev_tvM, ↓ev_tnM, ↓ev_taM, ↓ev_toM, ↓ev_op2, ↓ev_gV, ↓ev_kM, ↓ev_rtM, ↓ev_exM, ↓ev_neM, ↓ev_notM, ↓ev_andM, ↓ev_orM, ↓ev_nxM, ↓ev_app, ↓ev_nil, ↓ev_cons, ↓ev_callF, ↓ev_callM, ↓ev_slM, ↓ev_ptM, ↓ev_asI, ↓ev_seM, ↓ev_itL, ↓ev_itT, ↓ev_mkT, ↓ev_mkL, ↓ev_lcM, ↓ev_dispM, ↓ev_lft, ↓thenK_nx, ↓thenK_rt, ↓thenK_bk, ↓thenK_ct, ↓tgK_s, ↓outK_rt, ↓outK_nx, ↓vK_s, ↓turnK_nx, ↓turnK_rt, ↓turnK_bk, ↓turnK_ct, ↓ev_asB, ↓ev_add, ↓ev_sub, ↓ev_mul, ↓ev_fdiv, ↓ev_mod, ↓ev_pow, ↓ev_neg, ↓ev_eqI, ↓ev_neI, ↓ev_lt, ↓ev_le, ↓ev_gt, ↓ev_ge, ↓ev_gcd, ↓ev_absI, ↓ev_maxI, ↓ev_minI, ↓ev_intI, ↓ev_intB, ↓ev_tupT, ↓ev_tupL, ↓ev_lstT, ↓ev_lstL, ↓ev_lenT, ↓ev_lenL, ↓ev_catL, ↓ev_catT, ↓ev_ixT, ↓ev_ixL, ↓ev_slT, ↓ev_slL, ↓ev_isN, ↓ev_isNotN, ↓ev_zipTT, ↓ev_enumT, ↓ev_enumL, ↓ev_eqS, startD, pick, setTg, setAll, wipeD, List.map_cons, List.map_nil, List.length_cons, List.length_nil, List.cons_append, List.nil_append, List.getElem?_cons_zero, List.getElem?_cons_succ, List.set_cons_zero, List.set_cons_succ, List.replicate_succ, List.replicate_zero, List.filterMap_cons, List.filterMap_nil, Nat.reduceAdd, Nat.reduceSub, Nat.reduceLeDiff, and_self, if_true, decide_eq_true_eq, true_and, and_true, List.set_nil, List.length_set, e2, decide_true, Bool.not_true, Bool.false_eq_true, if_false]
  refine ev_for (fun ds ρ μ' => μ' = μ ∧ ∃ (o1 o2 : Option D) (k : Int) (ms : List Int), ρ = [some (tp ns), some (.int (m : Int)), o1, o2] ∧ ds = enumD k (ms.map .int)) ?_ ?_ _ _ _ ⟨rfl, none, none, 0, ns, rfl, rfl⟩
  · rintro x rest ρ μ' ⟨rfl, o1, o2, k, ms, rfl, e⟩
    cases ms with
    | nil => cases e
    | cons y ms =>
      cases e
      refine ⟨_, rfl, ?_⟩
      simp only [↓ev_out, ↓ev_sqM, ↓ev_foM, ↓ev_setM, ↓ev_asgM, ↓ev_putM, ↓ev_ifM, ↓ev_tvM, ↓ev_tnM, ↓ev_taM, ↓ev_toM, ↓ev_op2, ↓ev_gV, ↓ev_kM, ↓ev_rtM, ↓ev_exM, ↓ev_neM, ↓ev_notM, ↓ev_andM, ↓ev_orM, ↓ev_nxM, ↓ev_app, ↓ev_nil, ↓ev_cons, ↓ev_callF, ↓ev_callM, ↓ev_slM, ↓ev_ptM, ↓ev_asI, ↓ev_seM, ↓ev_itL, ↓ev_itT, ↓ev_mkT, ↓ev_mkL, ↓ev_lcM, ↓ev_dispM, ↓ev_lft, ↓thenK_nx, ↓thenK_rt, ↓thenK_bk, ↓thenK_ct, ↓tgK_s, ↓outK_rt, ↓outK_nx, ↓vK_s, ↓turnK_nx, ↓turnK_rt, ↓turnK_bk, ↓turnK_ct, ↓ev_asB, ↓ev_add, ↓ev_sub, ↓ev_mul, ↓ev_fdiv, ↓ev_mod, ↓ev_pow, ↓ev_neg, ↓ev_eqI, ↓ev_neI, ↓ev_lt, ↓ev_le, ↓ev_gt, ↓ev_ge, ↓ev_gcd, ↓ev_absI, ↓ev_maxI, ↓ev_minI, ↓ev_intI, ↓ev_intB, ↓ev_tupT, ↓ev_tupL, ↓ev_lstT, ↓ev_lstL, ↓ev_lenT, ↓ev_lenL, ↓ev_catL, ↓ev_catT, ↓ev_ixT, ↓ev_ixL, ↓ev_slT, ↓ev_slL, ↓ev_isN, ↓ev_isNotN, ↓ev_zipTT, ↓ev_enumT, ↓ev_enumL, ↓ev_eqS, startD, pick, setTg, setAll, wipeD, List.map_cons, List.map_nil, List.length_cons, List.length_nil, List.cons_append, List.nil_append, List.getElem?_cons_zero, List.getElem?_cons_succ, List.set_cons_zero, List.set_cons_succ, List.replicate_succ, List.replicate_zero, List.filterMap_cons, List.filterMap_nil, Nat.reduceAdd, Nat.reduceSub, Nat.reduceLeDiff, and_self, if_true, decide_eq_true_eq, true_and, and_true, List.set_nil, List.length_set]
      refine (ev_of (f0 (by omega) y μ')).mpr ?_
      simp only [↓ev_out, ↓ev_sqM, ↓ev_foM, ↓ev_setM, ↓ev_asgM, ↓ev_putM, ↓ev_ifM, ↓ev_tvM, ↓ev_tnM, ↓ev_taM, ↓ev_toM, ↓ev_op2, ↓ev_gV, ↓ev_kM, ↓ev_rtM, ↓ev_exM, ↓ev_neM, ↓ev_notM, ↓ev_andM, ↓ev_orM, ↓ev_nxM, ↓ev_app, ↓ev_nil, ↓ev_cons, ↓ev_callF, ↓ev_callM, ↓ev_slM, ↓ev_ptM, ↓ev_asI, ↓ev_seM, ↓ev_itL, ↓ev_itT, ↓ev_mkT, ↓ev_mkL, ↓ev_lcM, ↓ev_dispM, ↓ev_lft, ↓thenK_nx, ↓thenK_rt, ↓thenK_bk, ↓thenK_ct, ↓tgK_s, ↓outK_rt, ↓outK_nx, ↓vK_s, ↓turnK_nx, ↓turnK_rt, ↓turnK_bk, ↓turnK_ct, ↓ev_asB, ↓ev_add, ↓ev_sub, ↓ev_mul, ↓ev_fdiv, ↓ev_mod, ↓ev_pow, ↓ev_neg, ↓ev_eqI, ↓ev_neI, ↓ev_lt, ↓ev_le, ↓ev_gt, ↓ev_ge, ↓ev_gcd, ↓ev_absI, ↓ev_maxI, ↓ev_minI, ↓ev_intI, ↓ev_intB, ↓ev_tupT, ↓ev_tupL, ↓ev_lstT, ↓ev_lstL, ↓ev_lenT, ↓ev_lenL, ↓ev_catL, ↓ev_catT, ↓ev_ixT, ↓ev_ixL, ↓ev_slT, ↓ev_slL, ↓ev_isN, ↓ev_isNotN, ↓ev_zipTT, ↓ev_enumT, ↓ev_enumL, ↓ev_eqS, startD, pick, setTg, setAll, wipeD, List.map_cons, List.map_nil, List.length_cons, List.length_nil, List.cons_append, List.nil_append, List.getElem?_cons_zero, List.getElem?_cons_succ, List.set_cons_zero, List.set_cons_succ, List.replicate_succ, List.replicate_zero, List.filterMap_cons, List.filterMap_nil, Nat.reduceAdd, Nat.reduceSub, Nat.reduceLeDiff, and_self, if_true, decide_eq_true_eq, true_and, and_true, List.set_nil, List.length_set, Bool.not_true, Bool.false_eq_true, if_false]
      exact ⟨_, _, _, ms, rfl, rfl⟩
  · rintro ρ μ' ⟨rfl, o1, o2, k, ms, rfl, e⟩
    simp only [↓ev_out, ↓ev_sqM, ↓ev_foM, ↓ev_setM, ↓ev_asgM, ↓ev_putM, ↓ev_ifM, ↓ev_tvM, ↓ev_tnM, ↓ev_taM, ↓ev_toM, ↓ev_op2, ↓ev_gV, ↓ev_kM, ↓ev_rtM, ↓ev_exM, ↓ev_neM, ↓ev_notM, ↓ev_andM, ↓ev_orM, ↓ev_nxM, ↓ev_app, ↓ev_nil, ↓ev_cons, ↓ev_callF, ↓ev_callM, ↓ev_slM, ↓ev_ptM, ↓ev_asI, ↓ev_seM, ↓ev_itL, ↓ev_itT, ↓ev_mkT, ↓ev_mkL, ↓ev_lcM, ↓ev_dispM, ↓ev_lft, ↓thenK_nx, ↓thenK_rt, ↓thenK_bk, ↓thenK_ct, ↓tgK_s, ↓outK_rt, ↓outK_nx, ↓vK_s, ↓turnK_nx, ↓turnK_rt, ↓turnK_bk, ↓turnK_ct, ↓ev_asB, ↓ev_add, ↓ev_sub, ↓ev_mul, ↓ev_fdiv, ↓ev_mod, ↓ev_pow, ↓ev_neg, ↓ev_eqI, ↓ev_neI, ↓ev_lt, ↓ev_le, ↓ev_gt, ↓ev_ge, ↓ev_gcd, ↓ev_absI, ↓ev_maxI, ↓ev_minI, ↓ev_intI, ↓ev_intB, ↓ev_tupT, ↓ev_tupL, ↓ev_lstT, ↓ev_lstL, ↓ev_lenT, ↓ev_lenL, ↓ev_catL, ↓ev_catT, ↓ev_ixT, ↓ev_ixL, ↓ev_slT, ↓ev_slL, ↓ev_isN, ↓ev_isNotN, ↓ev_zipTT, ↓ev_enumT, ↓ev_enumL, ↓ev_eqS, startD, pick, setTg, setAll, wipeD, List.map_cons, List.map_nil, List.length_cons, List.length_nil, List.cons_append, List.nil_append, List.getElem?_cons_zero, List.getElem?_cons_succ, List.set_cons_zero, List.set_cons_succ, List.replicate_succ, List.replicate_zero, List.filterMap_cons, List.filterMap_nil, Nat.reduceAdd, Nat.reduceSub, Nat.reduceLeDiff, and_self, if_true, decide_eq_true_eq, true_and, and_true, List.set_nil, List.length_set]
theorem sq_list (b : Bool) (xs : List Int) (μ : Mu) : lstF [sq b xs] μ = .ok (.lst (xs.map .int)) μ := by cases b <;> rfl
theorem f6 {n : Nat} (hn : 3 ≤ n) (b : Bool) (xs : List Int) (w : Int) (μ : Mu) (hx : ∀ x ∈ xs ++ [w], x.natAbs < BB) (hl : xs.length ≤ 900) : F n 6 [sq b xs, .int w] μ = .ok (tp (lowL (xs ++ [w]))) μ := by
  obtain ⟨k, rfl⟩ : ∃ k, n = k + 1 := ⟨n - 1, by omega⟩
  rw [F, s6_eq]
  unfold s6
  refine ev_eq ?_
  simp only [↓ev_out, ↓ev_sqM, ↓ev_foM, ↓ev_setM, ↓ev_asgM, ↓ev_putM, ↓ev_ifM, ↓ev_tvM, ↓ev_tnM, ↓ev_taM, ↓ev_toM, ↓ev_op2, ↓ev_gV, ↓ev_kM, ↓ev_rtM, ↓ev_exM, ↓ev_neM, ↓ev_notM, ↓ev_andM, ↓ev_orM, ↓ev_nxM, ↓ev_app, ↓ev_nil, ↓ev_cons, ↓ev_callF, ↓ev_callM, ↓ev_slM, ↓ev_ptM, ↓ev_asI, ↓ev_seM, ↓ev_itL, ↓ev_itT, ↓ev_mkT, ↓ev_mkL, ↓ev_lcM, ↓ev_dispM, ↓ev_lft, ↓thenK_nx, ↓thenK_rt, ↓thenK_bk, ↓thenK_ct, ↓tgK_s, ↓outK_rt, ↓outK_nx, ↓vK_s, ↓turnK_nx, ↓turnK_rt, ↓turnK_bk, ↓turnK_ct, ↓ev_asB, ↓ev_add, ↓ev_sub, ↓ev_mul, ↓ev_fdiv, ↓ev_mod, ↓ev_pow, ↓ev_neg, ↓ev_eqI, ↓ev_neI, ↓ev_lt, ↓ev_le, ↓ev_gt, ↓ev_ge, ↓ev_gcd, ↓ev_absI, ↓ev_maxI, ↓ev_minI, ↓ev_intI, ↓ev_intB, ↓ev_tupT, ↓ev_tupL, ↓ev_lstT, ↓ev_lstL, ↓ev_lenT, ↓ev_lenL, ↓ev_catL, ↓ev_catT, ↓ev_ixT, ↓ev_ixL, ↓ev_slT, ↓ev_slL, ↓ev_isN, ↓ev_isNotN, ↓ev_zipTT, ↓ev_enumT, ↓ev_enumL, ↓ev_eqS, startD, pick, setTg, setAll, wipeD, List.map_cons, List.map_nil, List.length_cons, List.length_nil, List.cons_append, List.nil_append, List.getElem?_cons_zero, List.getElem?_cons_succ, List.set_cons_zero, List.set_cons_succ, List.replicate_succ, List.replicate_zero, List.filterMap_cons, List.filterMap_nil, Nat.reduceAdd, Nat.reduceSub, Nat.reduceLeDiff, and_self, if_true, decide_eq_true_eq, true_and, and_true, List.set_nil, List.length_set]
  refine (ev_of (sq_list b xs μ)).mpr ?_
  simp only [↓ev_out, ↓ev_sqM, ↓ev_foM, ↓ev_setM, ↓ev_asgM, ↓ev_putM, ↓ev_ifM, ↓ev_tvM, ↓ev_tnM, ↓ev_taM, ↓ev_toM, ↓ev_op2, ↓ev_gV, ↓ev_kM, ↓ev_rtM, ↓ev_exM, ↓ev_neM, ↓ev_notM, ↓ev_andM, ↓ev_orM, ↓ev_nxM, ↓ev_app, ↓ev_nil, ↓ev_cons, ↓ev_callF, ↓ev_callM, ↓ev_slM, ↓ev_ptM, ↓ev_asI, ↓ev_seM, ↓ev_itL, ↓ev_itT, ↓ev_mkT, ↓ev_mkL, ↓ev_lcM, ↓ev_dispM, ↓ev_lft, ↓thenK_nx, ↓thenK_rt, ↓thenK_bk, ↓thenK_ct, ↓tgK_s, ↓outK_rt, ↓outK_nx, ↓vK_s, ↓turnK_nx, ↓turnK_rt, ↓turnK_bk, ↓turnK_ct, ↓ev_asB, ↓ev_add, ↓ev_sub, ↓ev_mul, ↓ev_fdiv, ↓ev_mod, ↓ev_pow, ↓ev_neg, ↓ev_eqI, ↓ev_neI, ↓ev_lt, ↓ev_le, ↓ev_gt, ↓ev_ge, ↓ev_gcd, ↓ev_absI, ↓ev_maxI, ↓ev_minI, ↓ev_intI, ↓ev_intB, ↓ev_tupT, ↓ev_tupL, ↓ev_lstT, ↓ev_lstL, ↓ev_lenT, ↓ev_lenL, ↓ev_catL, ↓ev_catT, ↓ev_ixT, ↓ev_ixL, ↓ev_slT, ↓ev_slL, ↓ev_isN, ↓ev_isNotN, ↓ev_zipTT, ↓ev_enumT, ↓ev_enumL, ↓ev_eqS, startD, pick, setTg, setAll, wipeD, List.map_cons, List.map_nil, List.length_cons, List.length_nil, List.cons_append, List.nil_append, List.getElem?_cons_zero, List.getElem?_cons_succ, List.set_cons_zero, List.set_cons_succ, List.replicate_succ, List.replicate_zero, List.filterMap_cons, List.filterMap_nil, Nat.reduceAdd, Nat.reduceSub, Nat.reduceLeDiff, and_self, if_true, decide_eq_true_eq, true_and, and_true, List.set_nil, List.length_set, List.length_map, if_pos (show 1 ≤ 1000000 by decide)]
  refine ⟨by omega, ?_⟩
  have e : List.map D.int xs ++ [D.int w] = List.map D.int (xs ++ [w]) := by simp
  rw [e]
  refine (ev_of (f3 (b := true) (by omega) (xs ++ [w]) μ hx (by simp; omega))).mpr ?_
  exact ⟨rfl, rfl⟩
end K03
namespace K03
open PySem L2 PX
def Sm (ns : List Int) : Prop := ∀ x ∈ ns, x.natAbs < 2 ^ 64
theorem mulOk_l {i j : Int} (h : i.natAbs < 2 ^ 64) : mulOk i j = true := by
  unfold mulOk
  simp [h]
theorem mulOk_r {i j : Int} (h : j.natAbs < 2 ^ 64) : mulOk i j = true := by
  unfold mulOk
  simp [h]
theorem zip_mem {a b : List Int} {p : Int × Int} (h : p ∈ a.zip b) : p.1 ∈ a ∧ p.2 ∈ b := List.of_mem_zip h
/-- f7: a point moved on -/
def movedL (xs : List Int) (w : Int) (v : List Int) (a b : Int) : List Int := (((xs ++ [w]).zip v).map fun p => b * p.1 + a * w * p.2) ++ [b * w]
theorem f7 {n : Nat} (hn : 4 ≤ n) (xs : List Int) (w : Int) (v : List Int) (a b : Int) (μ : Mu) (ha : a.natAbs < 2 ^ 64) (hb : b.natAbs < 2 ^ 64) (hv : Sm v) (hB : ∀ x ∈ movedL xs w v a b, x.natAbs < BB) (hl : v.length ≤ 900) :
    F n 7 [tp (xs ++ [w]), tp v, tp [a, b]] μ = .ok (tp (lowL (movedL xs w v a b))) μ := by
  obtain ⟨k, rfl⟩ : ∃ k, n = k + 1 := ⟨n - 1, by omega⟩
  rw [F, s7_eq]
  unfold s7
  refine ev_eq ?_
  have el : List.map D.int (xs ++ [w]) = List.map D.int xs ++ [D.int w] := by simp
  have lz : ((xs ++ [w]).zip v).length ≤ 900 := by rw [List.length_zip]; omega
  simp only [↓ev_out, ↓ev_sqM, ↓ev_foM, ↓ev_setM, ↓ev_asgM, ↓ev_putM, ↓ev_ifM, ↓ev_tvM, ↓ev_tnM, ↓ev_taM, ↓ev_toM, ↓ev_op2, ↓ev_gV, ↓ev_kM, ↓ev_rtM, ↓ev_exM, ↓ev_neM, ↓ev_notM, ↓ev_andM, ↓ev_orM, ↓ev_nxM, ↓ev_app, ↓ev_nil, ↓ev_cons, ↓ev_callF, ↓ev_callM, ↓ev_slM, ↓ev_ptM, ↓ev_asI, ↓ev_seM, ↓ev_itL, ↓ev_itT, ↓ev_mkT, ↓ev_mkL, ↓ev_lcM, ↓ev_dispM, ↓ev_lft, ↓thenK_nx, ↓thenK_rt, ↓thenK_bk, ↓thenK_ct, ↓tgK_s, ↓outK_rt, ↓outK_nx, ↓vK_s, ↓turnK_nx, ↓turnK_rt, ↓turnK_bk, ↓turnK_ct, ↓ev_asB, ↓ev_add, ↓ev_sub, ↓ev_mul, ↓ev_fdiv, ↓ev_mod, ↓ev_pow, ↓ev_neg, ↓ev_eqI, ↓ev_neI, ↓ev_lt, ↓ev_le, ↓ev_gt, ↓ev_ge, ↓ev_gcd, ↓ev_absI, ↓ev_maxI, ↓ev_minI, ↓ev_intI, ↓ev_intB, ↓ev_tupT, ↓ev_tupL, ↓ev_lstT, ↓ev_lstL, ↓ev_lenT, ↓ev_lenL, ↓ev_catL, ↓ev_catT, ↓ev_ixT, ↓ev_ixL, ↓ev_slT, ↓ev_slL, ↓ev_isN, ↓ev_isNotN, ↓ev_zipTT, ↓ev_enumT, ↓ev_enumL, ↓ev_eqS, startD, pick, setTg, setAll, wipeD, List.map_cons, List.map_nil, List.length_cons, List.length_nil, List.cons_append, List.nil_append, List.getElem?_cons_zero, List.getElem?_cons_succ, List.set_cons_zero, List.set_cons_succ, List.replicate_succ, List.replicate_zero, List.filterMap_cons, List.filterMap_nil, Nat.reduceAdd, Nat.reduceSub, Nat.reduceLeDiff, and_self, if_true, decide_eq_true_eq, true_and, and_true, List.set_nil, List.length_set, mulOk_l ha, mulOk_l hb]
  rw [el, at_last]
  simp only [↓ev_out, ↓ev_sqM, ↓ev_foM, ↓ev_setM, ↓ev_asgM, ↓ev_putM, ↓ev_ifM, ↓ev_tvM, ↓ev_tnM, ↓ev_taM, ↓ev_toM, ↓ev_op2, ↓ev_gV, ↓ev_kM, ↓ev_rtM, ↓ev_exM, ↓ev_neM, ↓ev_notM, ↓ev_andM, ↓ev_orM, ↓ev_nxM, ↓ev_app, ↓ev_nil, ↓ev_cons, ↓ev_callF, ↓ev_callM, ↓ev_slM, ↓ev_ptM, ↓ev_asI, ↓ev_seM, ↓ev_itL, ↓ev_itT, ↓ev_mkT, ↓ev_mkL, ↓ev_lcM, ↓ev_dispM, ↓ev_lft, ↓thenK_nx, ↓thenK_rt, ↓thenK_bk, ↓thenK_ct, ↓tgK_s, ↓outK_rt, ↓outK_nx, ↓vK_s, ↓turnK_nx, ↓turnK_rt, ↓turnK_bk, ↓turnK_ct, ↓ev_asB, ↓ev_add, ↓ev_sub, ↓ev_mul, ↓ev_fdiv, ↓ev_mod, ↓ev_pow, ↓ev_neg, ↓ev_eqI, ↓ev_neI, ↓ev_lt, ↓ev_le, ↓ev_gt, ↓ev_ge, ↓ev_gcd, ↓ev_absI, ↓ev_maxI, ↓ev_minI, ↓ev_intI, ↓ev_intB, ↓ev_tupT, ↓ev_tupL, ↓ev_lstT, ↓ev_lstL, ↓ev_lenT, ↓ev_lenL, ↓ev_catL, ↓ev_catT, ↓ev_ixT, ↓ev_ixL, ↓ev_slT, ↓ev_slL, ↓ev_isN, ↓ev_isNotN, ↓ev_zipTT, ↓ev_enumT, ↓ev_enumL, ↓ev_eqS, startD, pick, setTg, setAll, wipeD, List.map_cons, List.map_nil, List.length_cons, List.length_nil, List.cons_append, List.nil_append, List.getElem?_cons_zero, List.getElem?_cons_succ, List.set_cons_zero, List.set_cons_succ, List.replicate_succ, List.replicate_zero, List.filterMap_cons, List.filterMap_nil, Nat.reduceAdd, Nat.reduceSub, Nat.reduceLeDiff, and_self, if_true, decide_eq_true_eq, true_and, and_true, List.set_nil, List.length_set, mulOk_l ha, mulOk_l hb]
  have lc : ∀ ρ : Rho, ρ = [some (tp (xs ++ [w])), some (tp v), some (tp [a, b]), some (.int (a * w)), some (.int a), some (.int b), none, none] →
      lcD (.t [6, 7]) (kM true) (op2 (op2 (gV 5) (gV 6) mulD) (op2 (gV 3) (gV 7) mulD) addD) (((xs ++ [w]).zip v).map pairD) ρ μ = .ok ((((xs ++ [w]).zip v).map fun p => b * p.1 + a * w * p.2).map .int) μ := fun ρ e => by
    subst e
    refine lc_pairsI (fun p => b * p.1 + a * w * p.2) fun p hp => ?_
    simp only [↓ev_out, ↓ev_sqM, ↓ev_foM, ↓ev_setM, ↓ev_asgM, ↓ev_putM, ↓ev_ifM, ↓ev_tvM, ↓ev_tnM, ↓ev_taM, ↓ev_toM, ↓ev_op2, ↓ev_gV, ↓ev_kM, ↓ev_rtM, ↓ev_exM, ↓ev_neM, ↓ev_notM, ↓ev_andM, ↓ev_orM, ↓ev_nxM, ↓ev_app, ↓ev_nil, ↓ev_cons, ↓ev_callF, ↓ev_callM, ↓ev_slM, ↓ev_ptM, ↓ev_asI, ↓ev_seM, ↓ev_itL, ↓ev_itT, ↓ev_mkT, ↓ev_mkL, ↓ev_lcM, ↓ev_dispM, ↓ev_lft, ↓thenK_nx, ↓thenK_rt, ↓thenK_bk, ↓thenK_ct, ↓tgK_s, ↓outK_rt, ↓outK_nx, ↓vK_s, ↓turnK_nx, ↓turnK_rt, ↓turnK_bk, ↓turnK_ct, ↓ev_asB, ↓ev_add, ↓ev_sub, ↓ev_mul, ↓ev_fdiv, ↓ev_mod, ↓ev_pow, ↓ev_neg, ↓ev_eqI, ↓ev_neI, ↓ev_lt, ↓ev_le, ↓ev_gt, ↓ev_ge, ↓ev_gcd, ↓ev_absI, ↓ev_maxI, ↓ev_minI, ↓ev_intI, ↓ev_intB, ↓ev_tupT, ↓ev_tupL, ↓ev_lstT, ↓ev_lstL, ↓ev_lenT, ↓ev_lenL, ↓ev_catL, ↓ev_catT, ↓ev_ixT, ↓ev_ixL, ↓ev_slT, ↓ev_slL, ↓ev_isN, ↓ev_isNotN, ↓ev_zipTT, ↓ev_enumT, ↓ev_enumL, ↓ev_eqS, startD, pick, setTg, setAll, wipeD, List.map_cons, List.map_nil, List.length_cons, List.length_nil, List.cons_append, List.nil_append, List.getElem?_cons_zero, List.getElem?_cons_succ, List.set_cons_zero, List.set_cons_succ, List.replicate_succ, List.replicate_zero, List.filterMap_cons, List.filterMap_nil, Nat.reduceAdd, Nat.reduceSub, Nat.reduceLeDiff, and_self, if_true, decide_eq_true_eq, true_and, and_true, List.set_nil, List.length_set, mulOk_l hb]
    exact mulOk_r (hv _ (zip_mem hp).2)
  refine (ev_of (lc _ rfl)).mpr ?_
  simp only [List.length_map, if_pos (show ((xs ++ [w]).zip v).length ≤ 1000000 by omega), ↓ev_out, ↓ev_sqM, ↓ev_foM, ↓ev_setM, ↓ev_asgM, ↓ev_putM, ↓ev_ifM, ↓ev_tvM, ↓ev_tnM, ↓ev_taM, ↓ev_toM, ↓ev_op2, ↓ev_gV, ↓ev_kM, ↓ev_rtM, ↓ev_exM, ↓ev_neM, ↓ev_notM, ↓ev_andM, ↓ev_orM, ↓ev_nxM, ↓ev_app, ↓ev_nil, ↓ev_cons, ↓ev_callF, ↓ev_callM, ↓ev_slM, ↓ev_ptM, ↓ev_asI, ↓ev_seM, ↓ev_itL, ↓ev_itT, ↓ev_mkT, ↓ev_mkL, ↓ev_lcM, ↓ev_dispM, ↓ev_lft, ↓thenK_nx, ↓thenK_rt, ↓thenK_bk, ↓thenK_ct, ↓tgK_s, ↓outK_rt, ↓outK_nx, ↓vK_s, ↓turnK_nx, ↓turnK_rt, ↓turnK_bk, ↓turnK_ct, ↓ev_asB, ↓ev_add, ↓ev_sub, ↓ev_mul, ↓ev_fdiv, ↓ev_mod, ↓ev_pow, ↓ev_neg, ↓ev_eqI, ↓ev_neI, ↓ev_lt, ↓ev_le, ↓ev_gt, ↓ev_ge, ↓ev_gcd, ↓ev_absI, ↓ev_maxI, ↓ev_minI, ↓ev_intI, ↓ev_intB, ↓ev_tupT, ↓ev_tupL, ↓ev_lstT, ↓ev_lstL, ↓ev_lenT, ↓ev_lenL, ↓ev_catL, ↓ev_catT, ↓ev_ixT, ↓ev_ixL, ↓ev_slT, ↓ev_slL, ↓ev_isN, ↓ev_isNotN, ↓ev_zipTT, ↓ev_enumT, ↓ev_enumL, ↓ev_eqS, startD, pick, setTg, setAll, wipeD, List.map_cons, List.map_nil, List.length_cons, List.length_nil, List.cons_append, List.nil_append, List.getElem?_cons_zero, List.getElem?_cons_succ, List.set_cons_zero, List.set_cons_succ, List.replicate_succ, List.replicate_zero, List.filterMap_cons, List.filterMap_nil, Nat.reduceAdd, Nat.reduceSub, Nat.reduceLeDiff, and_self, if_true, decide_eq_true_eq, true_and, and_true, List.set_nil, List.length_set, mulOk_l hb]
  refine (ev_of (f6 (b := true) (by omega) (((xs ++ [w]).zip v).map fun p => b * p.1 + a * w * p.2) (b * w) μ hB (by rw [List.length_map]; exact lz))).mpr ?_
  exact ⟨rfl, rfl⟩
theorem f8 {n : Nat} (hn : 3 ≤ n) (ns : List Int) (dm : Nat) (μ : Mu) (h : ns.length = dm + 1) : F n 8 [.int (dm : Int), tp ns] μ = .ok (tp ns) μ := by
  obtain ⟨k, rfl⟩ : ∃ k, n = k + 1 := ⟨n - 1, by omega⟩
  rw [F, s8_eq]
  unfold s8
  refine ev_eq ?_
  simp only [↓ev_out, ↓ev_sqM, ↓ev_foM, ↓ev_setM, ↓ev_asgM, ↓ev_putM, ↓ev_ifM, ↓ev_tvM, ↓ev_tnM, ↓ev_taM, ↓ev_toM, ↓ev_op2, ↓ev_gV, ↓ev_kM, ↓ev_rtM, ↓ev_exM, ↓ev_neM, ↓ev_notM, ↓ev_andM, ↓ev_orM, ↓ev_nxM, ↓ev_app, ↓ev_nil, ↓ev_cons, ↓ev_callF, ↓ev_callM, ↓ev_slM, ↓ev_ptM, ↓ev_asI, ↓ev_seM, ↓ev_itL, ↓ev_itT, ↓ev_mkT, ↓ev_mkL, ↓ev_lcM, ↓ev_dispM, ↓ev_lft, ↓thenK_nx, ↓thenK_rt, ↓thenK_bk, ↓thenK_ct, ↓tgK_s, ↓outK_rt, ↓outK_nx, ↓vK_s, ↓turnK_nx, ↓turnK_rt, ↓turnK_bk, ↓turnK_ct, ↓ev_asB, ↓ev_add, ↓ev_sub, ↓ev_mul, ↓ev_fdiv, ↓ev_mod, ↓ev_pow, ↓ev_neg, ↓ev_eqI, ↓ev_neI, ↓ev_lt, ↓ev_le, ↓ev_gt, ↓ev_ge, ↓ev_gcd, ↓ev_absI, ↓ev_maxI, ↓ev_minI, ↓ev_intI, ↓ev_intB, ↓ev_tupT, ↓ev_tupL, ↓ev_lstT, ↓ev_lstL, ↓ev_lenT, ↓ev_lenL, ↓ev_catL, ↓ev_catT, ↓ev_ixT, ↓ev_ixL, ↓ev_slT, ↓ev_slL, ↓ev_isN, ↓ev_isNotN, ↓ev_zipTT, ↓ev_enumT, ↓ev_enumL, ↓ev_eqS, startD, pick, setTg, setAll, wipeD, List.map_cons, List.map_nil, List.length_cons, List.length_nil, List.cons_append, List.nil_append, List.getElem?_cons_zero, List.getElem?_cons_succ, List.set_cons_zero, List.set_cons_succ, List.replicate_succ, List.replicate_zero, List.filterMap_cons, List.filterMap_nil, Nat.reduceAdd, Nat.reduceSub, Nat.reduceLeDiff, and_self, if_true, decide_eq_true_eq, true_and, and_true, List.set_nil, List.length_set]
  have e : (dm : Int) + 1 = ((dm + 1 : Nat) : Int) := by omega
  rw [e]
  refine (ev_of (f5 (by omega) ns (dm + 1) μ h)).mpr ?_
  show Ev (lft ((isNonB .non).map fun b => D.bl (!b)) μ) _
  simp only [isNonB, Option.map_some, ↓ev_out, ↓ev_sqM, ↓ev_foM, ↓ev_setM, ↓ev_asgM, ↓ev_putM, ↓ev_ifM, ↓ev_tvM, ↓ev_tnM, ↓ev_taM, ↓ev_toM, ↓ev_op2, ↓ev_gV, ↓ev_kM, ↓ev_rtM, ↓ev_exM, ↓ev_neM, ↓ev_notM, ↓ev_andM, ↓ev_orM, ↓ev_nxM, ↓ev_app, ↓ev_nil, ↓ev_cons, ↓ev_callF, ↓ev_callM, ↓ev_slM, ↓ev_ptM, ↓ev_asI, ↓ev_seM, ↓ev_itL, ↓ev_itT, ↓ev_mkT, ↓ev_mkL, ↓ev_lcM, ↓ev_dispM, ↓ev_lft, ↓thenK_nx, ↓thenK_rt, ↓thenK_bk, ↓thenK_ct, ↓tgK_s, ↓outK_rt, ↓outK_nx, ↓vK_s, ↓turnK_nx, ↓turnK_rt, ↓turnK_bk, ↓turnK_ct, ↓ev_asB, ↓ev_add, ↓ev_sub, ↓ev_mul, ↓ev_fdiv, ↓ev_mod, ↓ev_pow, ↓ev_neg, ↓ev_eqI, ↓ev_neI, ↓ev_lt, ↓ev_le, ↓ev_gt, ↓ev_ge, ↓ev_gcd, ↓ev_absI, ↓ev_maxI, ↓ev_minI, ↓ev_intI, ↓ev_intB, ↓ev_tupT, ↓ev_tupL, ↓ev_lstT, ↓ev_lstL, ↓ev_lenT, ↓ev_lenL, ↓ev_catL, ↓ev_catT, ↓ev_ixT, ↓ev_ixL, ↓ev_slT, ↓ev_slL, ↓ev_isN, ↓ev_isNotN, ↓ev_zipTT, ↓ev_enumT, ↓ev_enumL, ↓ev_eqS, startD, pick, setTg, setAll, wipeD, List.map_cons, List.map_nil, List.length_cons, List.length_nil, List.cons_append, List.nil_append, List.getElem?_cons_zero, List.getElem?_cons_succ, List.set_cons_zero, List.set_cons_succ, List.replicate_succ, List.replicate_zero, List.filterMap_cons, List.filterMap_nil, Nat.reduceAdd, Nat.reduceSub, Nat.reduceLeDiff, and_self, if_true, decide_eq_true_eq, true_and, and_true, List.set_nil, List.length_set, Bool.not_true, Bool.false_eq_true, if_false]
def nz (x : Int) : Bool := decide (x ≠ 0)
def planeL (ns : List Int) (x : Int) : List Int := if 0 < x then lowL ns else (lowL ns).map fun y => -y
def planeD (ns : List Int) : D := match ns.dropLast.find? nz with
  | none => .non
  | some x => tp (planeL ns x)
theorem f9 {n : Nat} (hn : 3 ≤ n) (ns : List Int) (μ : Mu) (hb : ∀ x ∈ ns, x.natAbs < BB) (hl : ns.length ≤ 1000) : F n 9 [tp ns] μ = .ok (planeD ns) μ := by
  obtain ⟨k, rfl⟩ : ∃ k, n = k + 1 := ⟨n - 1, by omega⟩
  rw [F, s9_eq]
  unfold s9
  refine ev_eq ?_
  simp only [↓ev_out, ↓ev_sqM, ↓ev_foM, ↓ev_setM, ↓ev_asgM, ↓ev_putM, ↓ev_ifM, ↓ev_tvM, ↓ev_tnM, ↓ev_taM, ↓ev_toM, ↓ev_op2, ↓ev_gV, ↓ev_kM, ↓ev_rtM, ↓ev_exM, ↓ev_neM, ↓ev_notM, ↓ev_andM, ↓ev_orM, ↓ev_nxM, ↓ev_app, ↓ev_nil, ↓ev_cons, ↓ev_callF, ↓ev_callM, ↓ev_slM, ↓ev_ptM, ↓ev_asI, ↓ev_seM, ↓ev_itL, ↓ev_itT, ↓ev_mkT, ↓ev_mkL, ↓ev_lcM, ↓ev_dispM, ↓ev_lft, ↓thenK_nx, ↓thenK_rt, ↓thenK_bk, ↓thenK_ct, ↓tgK_s, ↓outK_rt, ↓outK_nx, ↓vK_s, ↓turnK_nx, ↓turnK_rt, ↓turnK_bk, ↓turnK_ct, ↓ev_asB, ↓ev_add, ↓ev_sub, ↓ev_mul, ↓ev_fdiv, ↓ev_mod, ↓ev_pow, ↓ev_neg, ↓ev_eqI, ↓ev_neI, ↓ev_lt, ↓ev_le, ↓ev_gt, ↓ev_ge, ↓ev_gcd, ↓ev_absI, ↓ev_maxI, ↓ev_minI, ↓ev_intI, ↓ev_intB, ↓ev_tupT, ↓ev_tupL, ↓ev_lstT, ↓ev_lstL, ↓ev_lenT, ↓ev_lenL, ↓ev_catL, ↓ev_catT, ↓ev_ixT, ↓ev_ixL, ↓ev_slT, ↓ev_slL, ↓ev_isN, ↓ev_isNotN, ↓ev_zipTT, ↓ev_enumT, ↓ev_enumL, ↓ev_eqS, startD, pick, setTg, setAll, wipeD, List.map_cons, List.map_nil, List.length_cons, List.length_nil, List.cons_append, List.nil_append, List.getElem?_cons_zero, List.getElem?_cons_succ, List.set_cons_zero, List.set_cons_succ, List.replicate_succ, List.replicate_zero, List.filterMap_cons, List.filterMap_nil, Nat.reduceAdd, Nat.reduceSub, Nat.reduceLeDiff, and_self, if_true, decide_eq_true_eq, true_and, and_true, List.set_nil, List.length_set, cut_init]
  rw [show (List.map D.int ns).dropLast = List.map D.int ns.dropLast by rw [List.map_dropLast]]
  refine ev_for (fun ds ρ μ' => μ' = μ ∧ ∃ (o1 : Option D) (ms : List Int), ρ = [some (tp ns), o1, none, none] ∧ ds = ms.map .int ∧ ns.dropLast.find? nz = ms.find? nz) ?_ ?_ _ _ _ ⟨rfl, none, ns.dropLast, rfl, rfl, rfl⟩
  · rintro x rest ρ μ' ⟨rfl, o1, ms, rfl, e, q⟩
    cases ms with
    | nil => cases e
    | cons y ms =>
      cases e
      refine ⟨_, rfl, ?_⟩
      by_cases h0 : y = 0
      · subst h0
        simp only [↓ev_out, ↓ev_sqM, ↓ev_foM, ↓ev_setM, ↓ev_asgM, ↓ev_putM, ↓ev_ifM, ↓ev_tvM, ↓ev_tnM, ↓ev_taM, ↓ev_toM, ↓ev_op2, ↓ev_gV, ↓ev_kM, ↓ev_rtM, ↓ev_exM, ↓ev_neM, ↓ev_notM, ↓ev_andM, ↓ev_orM, ↓ev_nxM, ↓ev_app, ↓ev_nil, ↓ev_cons, ↓ev_callF, ↓ev_callM, ↓ev_slM, ↓ev_ptM, ↓ev_asI, ↓ev_seM, ↓ev_itL, ↓ev_itT, ↓ev_mkT, ↓ev_mkL, ↓ev_lcM, ↓ev_dispM, ↓ev_lft, ↓thenK_nx, ↓thenK_rt, ↓thenK_bk, ↓thenK_ct, ↓tgK_s, ↓outK_rt, ↓outK_nx, ↓vK_s, ↓turnK_nx, ↓turnK_rt, ↓turnK_bk, ↓turnK_ct, ↓ev_asB, ↓ev_add, ↓ev_sub, ↓ev_mul, ↓ev_fdiv, ↓ev_mod, ↓ev_pow, ↓ev_neg, ↓ev_eqI, ↓ev_neI, ↓ev_lt, ↓ev_le, ↓ev_gt, ↓ev_ge, ↓ev_gcd, ↓ev_absI, ↓ev_maxI, ↓ev_minI, ↓ev_intI, ↓ev_intB, ↓ev_tupT, ↓ev_tupL, ↓ev_lstT, ↓ev_lstL, ↓ev_lenT, ↓ev_lenL, ↓ev_catL, ↓ev_catT, ↓ev_ixT, ↓ev_ixL, ↓ev_slT, ↓ev_slL, ↓ev_isN, ↓ev_isNotN, ↓ev_zipTT, ↓ev_enumT, ↓ev_enumL, ↓ev_eqS, startD, pick, setTg, setAll, wipeD, List.map_cons, List.map_nil, List.length_cons, List.length_nil, List.cons_append, List.nil_append, List.getElem?_cons_zero, List.getElem?_cons_succ, List.set_cons_zero, List.set_cons_succ, List.replicate_succ, List.replicate_zero, List.filterMap_cons, List.filterMap_nil, Nat.reduceAdd, Nat.reduceSub, Nat.reduceLeDiff, and_self, if_true, decide_eq_true_eq, true_and, and_true, List.set_nil, List.length_set, decide_true, Bool.not_true, Bool.false_eq_true, if_false]
        exact ⟨_, ms, rfl, rfl, by rw [q]; rfl⟩
      · have hf : ns.dropLast.find? nz = some y := by rw [q, List.find?_cons]; simp [nz, h0]
        simp only [↓ev_out, ↓ev_sqM, ↓ev_foM, ↓ev_setM, ↓ev_asgM, ↓ev_putM, ↓ev_ifM, ↓ev_tvM, ↓ev_tnM, ↓ev_taM, ↓ev_toM, ↓ev_op2, ↓ev_gV, ↓ev_kM, ↓ev_rtM, ↓ev_exM, ↓ev_neM, ↓ev_notM, ↓ev_andM, ↓ev_orM, ↓ev_nxM, ↓ev_app, ↓ev_nil, ↓ev_cons, ↓ev_callF, ↓ev_callM, ↓ev_slM, ↓ev_ptM, ↓ev_asI, ↓ev_seM, ↓ev_itL, ↓ev_itT, ↓ev_mkT, ↓ev_mkL, ↓ev_lcM, ↓ev_dispM, ↓ev_lft, ↓thenK_nx, ↓thenK_rt, ↓thenK_bk, ↓thenK_ct, ↓tgK_s, ↓outK_rt, ↓outK_nx, ↓vK_s, ↓turnK_nx, ↓turnK_rt, ↓turnK_bk, ↓turnK_ct, ↓ev_asB, ↓ev_add, ↓ev_sub, ↓ev_mul, ↓ev_fdiv, ↓ev_mod, ↓ev_pow, ↓ev_neg, ↓ev_eqI, ↓ev_neI, ↓ev_lt, ↓ev_le, ↓ev_gt, ↓ev_ge, ↓ev_gcd, ↓ev_absI, ↓ev_maxI, ↓ev_minI, ↓ev_intI, ↓ev_intB, ↓ev_tupT, ↓ev_tupL, ↓ev_lstT, ↓ev_lstL, ↓ev_lenT, ↓ev_lenL, ↓ev_catL, ↓ev_catT, ↓ev_ixT, ↓ev_ixL, ↓ev_slT, ↓ev_slL, ↓ev_isN, ↓ev_isNotN, ↓ev_zipTT, ↓ev_enumT, ↓ev_enumL, ↓ev_eqS, startD, pick, setTg, setAll, wipeD, List.map_cons, List.map_nil, List.length_cons, List.length_nil, List.cons_append, List.nil_append, List.getElem?_cons_zero, List.getElem?_cons_succ, List.set_cons_zero, List.set_cons_succ, List.replicate_succ, List.replicate_zero, List.filterMap_cons, List.filterMap_nil, Nat.reduceAdd, Nat.reduceSub, Nat.reduceLeDiff, and_self, if_true, decide_eq_true_eq, true_and, and_true, List.set_nil, List.length_set, h0, decide_false, Bool.not_false, if_true]
        refine (ev_of (f3 (b := false) (by omega) ns μ' hb hl)).mpr ?_
        have ep : planeD ns = tp (planeL ns y) := by unfold planeD; rw [hf]
        rw [ep]
        unfold planeL
        by_cases h1 : 0 < y
        · simp only [↓ev_out, ↓ev_sqM, ↓ev_foM, ↓ev_setM, ↓ev_asgM, ↓ev_putM, ↓ev_ifM, ↓ev_tvM, ↓ev_tnM, ↓ev_taM, ↓ev_toM, ↓ev_op2, ↓ev_gV, ↓ev_kM, ↓ev_rtM, ↓ev_exM, ↓ev_neM, ↓ev_notM, ↓ev_andM, ↓ev_orM, ↓ev_nxM, ↓ev_app, ↓ev_nil, ↓ev_cons, ↓ev_callF, ↓ev_callM, ↓ev_slM, ↓ev_ptM, ↓ev_asI, ↓ev_seM, ↓ev_itL, ↓ev_itT, ↓ev_mkT, ↓ev_mkL, ↓ev_lcM, ↓ev_dispM, ↓ev_lft, ↓thenK_nx, ↓thenK_rt, ↓thenK_bk, ↓thenK_ct, ↓tgK_s, ↓outK_rt, ↓outK_nx, ↓vK_s, ↓turnK_nx, ↓turnK_rt, ↓turnK_bk, ↓turnK_ct, ↓ev_asB, ↓ev_add, ↓ev_sub, ↓ev_mul, ↓ev_fdiv, ↓ev_mod, ↓ev_pow, ↓ev_neg, ↓ev_eqI, ↓ev_neI, ↓ev_lt, ↓ev_le, ↓ev_gt, ↓ev_ge, ↓ev_gcd, ↓ev_absI, ↓ev_maxI, ↓ev_minI, ↓ev_intI, ↓ev_intB, ↓ev_tupT, ↓ev_tupL, ↓ev_lstT, ↓ev_lstL, ↓ev_lenT, ↓ev_lenL, ↓ev_catL, ↓ev_catT, ↓ev_ixT, ↓ev_ixL, ↓ev_slT, ↓ev_slL, ↓ev_isN, ↓ev_isNotN, ↓ev_zipTT, ↓ev_enumT, ↓ev_enumL, ↓ev_eqS, startD, pick, setTg, setAll, wipeD, List.map_cons, List.map_nil, List.length_cons, List.length_nil, List.cons_append, List.nil_append, List.getElem?_cons_zero, List.getElem?_cons_succ, List.set_cons_zero, List.set_cons_succ, List.replicate_succ, List.replicate_zero, List.filterMap_cons, List.filterMap_nil, Nat.reduceAdd, Nat.reduceSub, Nat.reduceLeDiff, and_self, if_true, decide_eq_true_eq, true_and, and_true, List.set_nil, List.length_set, h1, decide_true, if_true]
        · simp only [↓ev_out, ↓ev_sqM, ↓ev_foM, ↓ev_setM, ↓ev_asgM, ↓ev_putM, ↓ev_ifM, ↓ev_tvM, ↓ev_tnM, ↓ev_taM, ↓ev_toM, ↓ev_op2, ↓ev_gV, ↓ev_kM, ↓ev_rtM, ↓ev_exM, ↓ev_neM, ↓ev_notM, ↓ev_andM, ↓ev_orM, ↓ev_nxM, ↓ev_app, ↓ev_nil, ↓ev_cons, ↓ev_callF, ↓ev_callM, ↓ev_slM, ↓ev_ptM, ↓ev_asI, ↓ev_seM, ↓ev_itL, ↓ev_itT, ↓ev_mkT, ↓ev_mkL, ↓ev_lcM, ↓ev_dispM, ↓ev_lft, ↓thenK_nx, ↓thenK_rt, ↓thenK_bk, ↓thenK_ct, ↓tgK_s, ↓outK_rt, ↓outK_nx, ↓vK_s, ↓turnK_nx, ↓turnK_rt, ↓turnK_bk, ↓turnK_ct, ↓ev_asB, ↓ev_add, ↓ev_sub, ↓ev_mul, ↓ev_fdiv, ↓ev_mod, ↓ev_pow, ↓ev_neg, ↓ev_eqI, ↓ev_neI, ↓ev_lt, ↓ev_le, ↓ev_gt, ↓ev_ge, ↓ev_gcd, ↓ev_absI, ↓ev_maxI, ↓ev_minI, ↓ev_intI, ↓ev_intB, ↓ev_tupT, ↓ev_tupL, ↓ev_lstT, ↓ev_lstL, ↓ev_lenT, ↓ev_lenL, ↓ev_catL, ↓ev_catT, ↓ev_ixT, ↓ev_ixL, ↓ev_slT, ↓ev_slL, ↓ev_isN, ↓ev_isNotN, ↓ev_zipTT, ↓ev_enumT, ↓ev_enumL, ↓ev_eqS, startD, pick, setTg, setAll, wipeD, List.map_cons, List.map_nil, List.length_cons, List.length_nil, List.cons_append, List.nil_append, List.getElem?_cons_zero, List.getElem?_cons_succ, List.set_cons_zero, List.set_cons_succ, List.replicate_succ, List.replicate_zero, List.filterMap_cons, List.filterMap_nil, Nat.reduceAdd, Nat.reduceSub, Nat.reduceLeDiff, and_self, if_true, decide_eq_true_eq, true_and, and_true, List.set_nil, List.length_set, h1, decide_false, Bool.false_eq_true, if_false]
          have lc : ∀ ρ : Rho, lcD (.v 3) (kM true) (neM (gV 3)) ((lowL ns).map .int) [some (tp ns), some (.int y), some (tp (lowL ns)), none] μ' = .ok (((lowL ns).map fun y => -y).map .int) μ' := fun ρ => by
            refine lc_intsI (fun y => -y) fun x hx => ?_
            simp only [↓ev_out, ↓ev_sqM, ↓ev_foM, ↓ev_setM, ↓ev_asgM, ↓ev_putM, ↓ev_ifM, ↓ev_tvM, ↓ev_tnM, ↓ev_taM, ↓ev_toM, ↓ev_op2, ↓ev_gV, ↓ev_kM, ↓ev_rtM, ↓ev_exM, ↓ev_neM, ↓ev_notM, ↓ev_andM, ↓ev_orM, ↓ev_nxM, ↓ev_app, ↓ev_nil, ↓ev_cons, ↓ev_callF, ↓ev_callM, ↓ev_slM, ↓ev_ptM, ↓ev_asI, ↓ev_seM, ↓ev_itL, ↓ev_itT, ↓ev_mkT, ↓ev_mkL, ↓ev_lcM, ↓ev_dispM, ↓ev_lft, ↓thenK_nx, ↓thenK_rt, ↓thenK_bk, ↓thenK_ct, ↓tgK_s, ↓outK_rt, ↓outK_nx, ↓vK_s, ↓turnK_nx, ↓turnK_rt, ↓turnK_bk, ↓turnK_ct, ↓ev_asB, ↓ev_add, ↓ev_sub, ↓ev_mul, ↓ev_fdiv, ↓ev_mod, ↓ev_pow, ↓ev_neg, ↓ev_eqI, ↓ev_neI, ↓ev_lt, ↓ev_le, ↓ev_gt, ↓ev_ge, ↓ev_gcd, ↓ev_absI, ↓ev_maxI, ↓ev_minI, ↓ev_intI, ↓ev_intB, ↓ev_tupT, ↓ev_tupL, ↓ev_lstT, ↓ev_lstL, ↓ev_lenT, ↓ev_lenL, ↓ev_catL, ↓ev_catT, ↓ev_ixT, ↓ev_ixL, ↓ev_slT, ↓ev_slL, ↓ev_isN, ↓ev_isNotN, ↓ev_zipTT, ↓ev_enumT, ↓ev_enumL, ↓ev_eqS, startD, pick, setTg, setAll, wipeD, List.map_cons, List.map_nil, List.length_cons, List.length_nil, List.cons_append, List.nil_append, List.getElem?_cons_zero, List.getElem?_cons_succ, List.set_cons_zero, List.set_cons_succ, List.replicate_succ, List.replicate_zero, List.filterMap_cons, List.filterMap_nil, Nat.reduceAdd, Nat.reduceSub, Nat.reduceLeDiff, and_self, if_true, decide_eq_true_eq, true_and, and_true, List.set_nil, List.length_set]
          refine (ev_of (lc [])).mpr ?_
          have ll := lowL_len ns
          simp only [List.length_map, if_pos (show (lowL ns).length ≤ 1000000 by omega), ↓ev_out, ↓ev_sqM, ↓ev_foM, ↓ev_setM, ↓ev_asgM, ↓ev_putM, ↓ev_ifM, ↓ev_tvM, ↓ev_tnM, ↓ev_taM, ↓ev_toM, ↓ev_op2, ↓ev_gV, ↓ev_kM, ↓ev_rtM, ↓ev_exM, ↓ev_neM, ↓ev_notM, ↓ev_andM, ↓ev_orM, ↓ev_nxM, ↓ev_app, ↓ev_nil, ↓ev_cons, ↓ev_callF, ↓ev_callM, ↓ev_slM, ↓ev_ptM, ↓ev_asI, ↓ev_seM, ↓ev_itL, ↓ev_itT, ↓ev_mkT, ↓ev_mkL, ↓ev_lcM, ↓ev_dispM, ↓ev_lft, ↓thenK_nx, ↓thenK_rt, ↓thenK_bk, ↓thenK_ct, ↓tgK_s, ↓outK_rt, ↓outK_nx, ↓vK_s, ↓turnK_nx, ↓turnK_rt, ↓turnK_bk, ↓turnK_ct, ↓ev_asB, ↓ev_add, ↓ev_sub, ↓ev_mul, ↓ev_fdiv, ↓ev_mod, ↓ev_pow, ↓ev_neg, ↓ev_eqI, ↓ev_neI, ↓ev_lt, ↓ev_le, ↓ev_gt, ↓ev_ge, ↓ev_gcd, ↓ev_absI, ↓ev_maxI, ↓ev_minI, ↓ev_intI, ↓ev_intB, ↓ev_tupT, ↓ev_tupL, ↓ev_lstT, ↓ev_lstL, ↓ev_lenT, ↓ev_lenL, ↓ev_catL, ↓ev_catT, ↓ev_ixT, ↓ev_ixL, ↓ev_slT, ↓ev_slL, ↓ev_isN, ↓ev_isNotN, ↓ev_zipTT, ↓ev_enumT, ↓ev_enumL, ↓ev_eqS, startD, pick, setTg, setAll, wipeD, List.map_cons, List.map_nil, List.length_cons, List.length_nil, List.cons_append, List.nil_append, List.getElem?_cons_zero, List.getElem?_cons_succ, List.set_cons_zero, List.set_cons_succ, List.replicate_succ, List.replicate_zero, List.filterMap_cons, List.filterMap_nil, Nat.reduceAdd, Nat.reduceSub, Nat.reduceLeDiff, and_self, if_true, decide_eq_true_eq, true_and, and_true, List.set_nil, List.length_set]
  · rintro ρ μ' ⟨rfl, o1, ms, rfl, e, q⟩
    cases ms with
    | cons y ms => cases e
    | nil =>
      simp only [↓ev_out, ↓ev_sqM, ↓ev_foM, ↓ev_setM, ↓ev_asgM, ↓ev_putM, ↓ev_ifM, ↓ev_tvM, ↓ev_tnM, ↓ev_taM, ↓ev_toM, ↓ev_op2, ↓ev_gV, ↓ev_kM, ↓ev_rtM, ↓ev_exM, ↓ev_neM, ↓ev_notM, ↓ev_andM, ↓ev_orM, ↓ev_nxM, ↓ev_app, ↓ev_nil, ↓ev_cons, ↓ev_callF, ↓ev_callM, ↓ev_slM, ↓ev_ptM, ↓ev_asI, ↓ev_seM, ↓ev_itL, ↓ev_itT, ↓ev_mkT, ↓ev_mkL, ↓ev_lcM, ↓ev_dispM, ↓ev_lft, ↓thenK_nx, ↓thenK_rt, ↓thenK_bk, ↓thenK_ct, ↓tgK_s, ↓outK_rt, ↓outK_nx, ↓vK_s, ↓turnK_nx, ↓turnK_rt, ↓turnK_bk, ↓turnK_ct, ↓ev_asB, ↓ev_add, ↓ev_sub, ↓ev_mul, ↓ev_fdiv, ↓ev_mod, ↓ev_pow, ↓ev_neg, ↓ev_eqI, ↓ev_neI, ↓ev_lt, ↓ev_le, ↓ev_gt, ↓ev_ge, ↓ev_gcd, ↓ev_absI, ↓ev_maxI, ↓ev_minI, ↓ev_intI, ↓ev_intB, ↓ev_tupT, ↓ev_tupL, ↓ev_lstT, ↓ev_lstL, ↓ev_lenT, ↓ev_lenL, ↓ev_catL, ↓ev_catT, ↓ev_ixT, ↓ev_ixL, ↓ev_slT, ↓ev_slL, ↓ev_isN, ↓ev_isNotN, ↓ev_zipTT, ↓ev_enumT, ↓ev_enumL, ↓ev_eqS, startD, pick, setTg, setAll, wipeD, List.map_cons, List.map_nil, List.length_cons, List.length_nil, List.cons_append, List.nil_append, List.getElem?_cons_zero, List.getElem?_cons_succ, List.set_cons_zero, List.set_cons_succ, List.replicate_succ, List.replicate_zero, List.filterMap_cons, List.filterMap_nil, Nat.reduceAdd, Nat.reduceSub, Nat.reduceLeDiff, and_self, if_true, decide_eq_true_eq, true_and, and_true, List.set_nil, List.length_set]
      unfold planeD
      rw [q]
      rfl
theorem f10 {n : Nat} (hn : 4 ≤ n) (ns : List Int) (dm : Nat) (μ : Mu) (h : ns.length = dm + 1) (hp : planeD ns = tp ns) (hb : ∀ x ∈ ns, x.natAbs < BB) (hl : ns.length ≤ 1000) : F n 10 [.int (dm : Int), tp ns] μ = .ok (tp ns) μ := by
  obtain ⟨k, rfl⟩ : ∃ k, n = k + 1 := ⟨n - 1, by omega⟩
  rw [F, s10_eq]
  unfold s10
  refine ev_eq ?_
  simp only [↓ev_out, ↓ev_sqM, ↓ev_foM, ↓ev_setM, ↓ev_asgM, ↓ev_putM, ↓ev_ifM, ↓ev_tvM, ↓ev_tnM, ↓ev_taM, ↓ev_toM, ↓ev_op2, ↓ev_gV, ↓ev_kM, ↓ev_rtM, ↓ev_exM, ↓ev_neM, ↓ev_notM, ↓ev_andM, ↓ev_orM, ↓ev_nxM, ↓ev_app, ↓ev_nil, ↓ev_cons, ↓ev_callF, ↓ev_callM, ↓ev_slM, ↓ev_ptM, ↓ev_asI, ↓ev_seM, ↓ev_itL, ↓ev_itT, ↓ev_mkT, ↓ev_mkL, ↓ev_lcM, ↓ev_dispM, ↓ev_lft, ↓thenK_nx, ↓thenK_rt, ↓thenK_bk, ↓thenK_ct, ↓tgK_s, ↓outK_rt, ↓outK_nx, ↓vK_s, ↓turnK_nx, ↓turnK_rt, ↓turnK_bk, ↓turnK_ct, ↓ev_asB, ↓ev_add, ↓ev_sub, ↓ev_mul, ↓ev_fdiv, ↓ev_mod, ↓ev_pow, ↓ev_neg, ↓ev_eqI, ↓ev_neI, ↓ev_lt, ↓ev_le, ↓ev_gt, ↓ev_ge, ↓ev_gcd, ↓ev_absI, ↓ev_maxI, ↓ev_minI, ↓ev_intI, ↓ev_intB, ↓ev_tupT, ↓ev_tupL, ↓ev_lstT, ↓ev_lstL, ↓ev_lenT, ↓ev_lenL, ↓ev_catL, ↓ev_catT, ↓ev_ixT, ↓ev_ixL, ↓ev_slT, ↓ev_slL, ↓ev_isN, ↓ev_isNotN, ↓ev_zipTT, ↓ev_enumT, ↓ev_enumL, ↓ev_eqS, startD, pick, setTg, setAll, wipeD, List.map_cons, List.map_nil, List.length_cons, List.length_nil, List.cons_append, List.nil_append, List.getElem?_cons_zero, List.getElem?_cons_succ, List.set_cons_zero, List.set_cons_succ, List.replicate_succ, List.replicate_zero, List.filterMap_cons, List.filterMap_nil, Nat.reduceAdd, Nat.reduceSub, Nat.reduceLeDiff, and_self, if_true, decide_eq_true_eq, true_and, and_true, List.set_nil, List.length_set]
  refine (ev_of (f8 (by omega) ns dm μ h)).mpr ?_
  simp only [↓ev_out, ↓ev_sqM, ↓ev_foM, ↓ev_setM, ↓ev_asgM, ↓ev_putM, ↓ev_ifM, ↓ev_tvM, ↓ev_tnM, ↓ev_taM, ↓ev_toM, ↓ev_op2, ↓ev_gV, ↓ev_kM, ↓ev_rtM, ↓ev_exM, ↓ev_neM, ↓ev_notM, ↓ev_andM, ↓ev_orM, ↓ev_nxM, ↓ev_app, ↓ev_nil, ↓ev_cons, ↓ev_callF, ↓ev_callM, ↓ev_slM, ↓ev_ptM, ↓ev_asI, ↓ev_seM, ↓ev_itL, ↓ev_itT, ↓ev_mkT, ↓ev_mkL, ↓ev_lcM, ↓ev_dispM, ↓ev_lft, ↓thenK_nx, ↓thenK_rt, ↓thenK_bk, ↓thenK_ct, ↓tgK_s, ↓outK_rt, ↓outK_nx, ↓vK_s, ↓turnK_nx, ↓turnK_rt, ↓turnK_bk, ↓turnK_ct, ↓ev_asB, ↓ev_add, ↓ev_sub, ↓ev_mul, ↓ev_fdiv, ↓ev_mod, ↓ev_pow, ↓ev_neg, ↓ev_eqI, ↓ev_neI, ↓ev_lt, ↓ev_le, ↓ev_gt, ↓ev_ge, ↓ev_gcd, ↓ev_absI, ↓ev_maxI, ↓ev_minI, ↓ev_intI, ↓ev_intB, ↓ev_tupT, ↓ev_tupL, ↓ev_lstT, ↓ev_lstL, ↓ev_lenT, ↓ev_lenL, ↓ev_catL, ↓ev_catT, ↓ev_ixT, ↓ev_ixL, ↓ev_slT, ↓ev_slL, ↓ev_isN, ↓ev_isNotN, ↓ev_zipTT, ↓ev_enumT, ↓ev_enumL, ↓ev_eqS, startD, pick, setTg, setAll, wipeD, List.map_cons, List.map_nil, List.length_cons, List.length_nil, List.cons_append, List.nil_append, List.getElem?_cons_zero, List.getElem?_cons_succ, List.set_cons_zero, List.set_cons_succ, List.replicate_succ, List.replicate_zero, List.filterMap_cons, List.filterMap_nil, Nat.reduceAdd, Nat.reduceSub, Nat.reduceLeDiff, and_self, if_true, decide_eq_true_eq, true_and, and_true, List.set_nil, List.length_set]
  refine (ev_of (f9 (by omega) ns μ hb hl)).mpr ?_
  rw [hp]
  simp only [↓ev_out, ↓ev_sqM, ↓ev_foM, ↓ev_setM, ↓ev_asgM, ↓ev_putM, ↓ev_ifM, ↓ev_tvM, ↓ev_tnM, ↓ev_taM, ↓ev_toM, ↓ev_op2, ↓ev_gV, ↓ev_kM, ↓ev_rtM, ↓ev_exM, ↓ev_neM, ↓ev_notM, ↓ev_andM, ↓ev_orM, ↓ev_nxM, ↓ev_app, ↓ev_nil, ↓ev_cons, ↓ev_callF, ↓ev_callM, ↓ev_slM, ↓ev_ptM, ↓ev_asI, ↓ev_seM, ↓ev_itL, ↓ev_itT, ↓ev_mkT, ↓ev_mkL, ↓ev_lcM, ↓ev_dispM, ↓ev_lft, ↓thenK_nx, ↓thenK_rt, ↓thenK_bk, ↓thenK_ct, ↓tgK_s, ↓outK_rt, ↓outK_nx, ↓vK_s, ↓turnK_nx, ↓turnK_rt, ↓turnK_bk, ↓turnK_ct, ↓ev_asB, ↓ev_add, ↓ev_sub, ↓ev_mul, ↓ev_fdiv, ↓ev_mod, ↓ev_pow, ↓ev_neg, ↓ev_eqI, ↓ev_neI, ↓ev_lt, ↓ev_le, ↓ev_gt, ↓ev_ge, ↓ev_gcd, ↓ev_absI, ↓ev_maxI, ↓ev_minI, ↓ev_intI, ↓ev_intB, ↓ev_tupT, ↓ev_tupL, ↓ev_lstT, ↓ev_lstL, ↓ev_lenT, ↓ev_lenL, ↓ev_catL, ↓ev_catT, ↓ev_ixT, ↓ev_ixL, ↓ev_slT, ↓ev_slL, ↓ev_isN, ↓ev_isNotN, ↓ev_zipTT, ↓ev_enumT, ↓ev_enumL, ↓ev_eqS, startD, pick, setTg, setAll, wipeD, List.map_cons, List.map_nil, List.length_cons, List.length_nil, List.cons_append, List.nil_append, List.getElem?_cons_zero, List.getElem?_cons_succ, List.set_cons_zero, List.set_cons_succ, List.replicate_succ, List.replicate_zero, List.filterMap_cons, List.filterMap_nil, Nat.reduceAdd, Nat.reduceSub, Nat.reduceLeDiff, and_self, if_true, decide_eq_true_eq, true_and, and_true, List.set_nil, List.length_set, ev_neTI, decide_true, Bool.not_true, Bool.false_eq_true, if_false]
theorem f11 {n : Nat} (hn : 1 ≤ n) (a b : List Int) (μ : Mu) (hb : Sm b) (hl : b.length ≤ 1000) : F n 11 [tp a, tp b] μ = .ok (.int (dot a b)) μ := by
  obtain ⟨k, rfl⟩ : ∃ k, n = k + 1 := ⟨n - 1, by omega⟩
  rw [F, s11_eq]
  unfold s11
  refine ev_eq ?_
  simp only [↓ev_out, ↓ev_sqM, ↓ev_foM, ↓ev_setM, ↓ev_asgM, ↓ev_putM, ↓ev_ifM, ↓ev_tvM, ↓ev_tnM, ↓ev_taM, ↓ev_toM, ↓ev_op2, ↓ev_gV, ↓ev_kM, ↓ev_rtM, ↓ev_exM, ↓ev_neM, ↓ev_notM, ↓ev_andM, ↓ev_orM, ↓ev_nxM, ↓ev_app, ↓ev_nil, ↓ev_cons, ↓ev_callF, ↓ev_callM, ↓ev_slM, ↓ev_ptM, ↓ev_asI, ↓ev_seM, ↓ev_itL, ↓ev_itT, ↓ev_mkT, ↓ev_mkL, ↓ev_lcM, ↓ev_dispM, ↓ev_lft, ↓thenK_nx, ↓thenK_rt, ↓thenK_bk, ↓thenK_ct, ↓tgK_s, ↓outK_rt, ↓outK_nx, ↓vK_s, ↓turnK_nx, ↓turnK_rt, ↓turnK_bk, ↓turnK_ct, ↓ev_asB, ↓ev_add, ↓ev_sub, ↓ev_mul, ↓ev_fdiv, ↓ev_mod, ↓ev_pow, ↓ev_neg, ↓ev_eqI, ↓ev_neI, ↓ev_lt, ↓ev_le, ↓ev_gt, ↓ev_ge, ↓ev_gcd, ↓ev_absI, ↓ev_maxI, ↓ev_minI, ↓ev_intI, ↓ev_intB, ↓ev_tupT, ↓ev_tupL, ↓ev_lstT, ↓ev_lstL, ↓ev_lenT, ↓ev_lenL, ↓ev_catL, ↓ev_catT, ↓ev_ixT, ↓ev_ixL, ↓ev_slT, ↓ev_slL, ↓ev_isN, ↓ev_isNotN, ↓ev_zipTT, ↓ev_enumT, ↓ev_enumL, ↓ev_eqS, startD, pick, setTg, setAll, wipeD, List.map_cons, List.map_nil, List.length_cons, List.length_nil, List.cons_append, List.nil_append, List.getElem?_cons_zero, List.getElem?_cons_succ, List.set_cons_zero, List.set_cons_succ, List.replicate_succ, List.replicate_zero, List.filterMap_cons, List.filterMap_nil, Nat.reduceAdd, Nat.reduceSub, Nat.reduceLeDiff, and_self, if_true, decide_eq_true_eq, true_and, and_true, List.set_nil, List.length_set]
  have lc : ∀ ρ : Rho, ρ = [some (tp a), some (tp b), none, none] → lcD (.t [2, 3]) (kM true) (op2 (gV 2) (gV 3) mulD) ((a.zip b).map pairD) ρ μ = .ok (((a.zip b).map fun p => p.1 * p.2).map .int) μ := fun ρ e => by
    subst e
    refine lc_pairsI (fun p => p.1 * p.2) fun p hp => ?_
    simp only [↓ev_out, ↓ev_sqM, ↓ev_foM, ↓ev_setM, ↓ev_asgM, ↓ev_putM, ↓ev_ifM, ↓ev_tvM, ↓ev_tnM, ↓ev_taM, ↓ev_toM, ↓ev_op2, ↓ev_gV, ↓ev_kM, ↓ev_rtM, ↓ev_exM, ↓ev_neM, ↓ev_notM, ↓ev_andM, ↓ev_orM, ↓ev_nxM, ↓ev_app, ↓ev_nil, ↓ev_cons, ↓ev_callF, ↓ev_callM, ↓ev_slM, ↓ev_ptM, ↓ev_asI, ↓ev_seM, ↓ev_itL, ↓ev_itT, ↓ev_mkT, ↓ev_mkL, ↓ev_lcM, ↓ev_dispM, ↓ev_lft, ↓thenK_nx, ↓thenK_rt, ↓thenK_bk, ↓thenK_ct, ↓tgK_s, ↓outK_rt, ↓outK_nx, ↓vK_s, ↓turnK_nx, ↓turnK_rt, ↓turnK_bk, ↓turnK_ct, ↓ev_asB, ↓ev_add, ↓ev_sub, ↓ev_mul, ↓ev_fdiv, ↓ev_mod, ↓ev_pow, ↓ev_neg, ↓ev_eqI, ↓ev_neI, ↓ev_lt, ↓ev_le, ↓ev_gt, ↓ev_ge, ↓ev_gcd, ↓ev_absI, ↓ev_maxI, ↓ev_minI, ↓ev_intI, ↓ev_intB, ↓ev_tupT, ↓ev_tupL, ↓ev_lstT, ↓ev_lstL, ↓ev_lenT, ↓ev_lenL, ↓ev_catL, ↓ev_catT, ↓ev_ixT, ↓ev_ixL, ↓ev_slT, ↓ev_slL, ↓ev_isN, ↓ev_isNotN, ↓ev_zipTT, ↓ev_enumT, ↓ev_enumL, ↓ev_eqS, startD, pick, setTg, setAll, wipeD, List.map_cons, List.map_nil, List.length_cons, List.length_nil, List.cons_append, List.nil_append, List.getElem?_cons_zero, List.getElem?_cons_succ, List.set_cons_zero, List.set_cons_succ, List.replicate_succ, List.replicate_zero, List.filterMap_cons, List.filterMap_nil, Nat.reduceAdd, Nat.reduceSub, Nat.reduceLeDiff, and_self, if_true, decide_eq_true_eq, true_and, and_true, List.set_nil, List.length_set]
    exact mulOk_r (hb _ (zip_mem hp).2)
  refine (ev_of (lc _ rfl)).mpr ?_
  have lz : (a.zip b).length ≤ 1000000 := by rw [List.length_zip]; omega
  simp only [List.length_map, if_pos lz, ↓ev_out, ↓ev_sqM, ↓ev_foM, ↓ev_setM, ↓ev_asgM, ↓ev_putM, ↓ev_ifM, ↓ev_tvM, ↓ev_tnM, ↓ev_taM, ↓ev_toM, ↓ev_op2, ↓ev_gV, ↓ev_kM, ↓ev_rtM, ↓ev_exM, ↓ev_neM, ↓ev_notM, ↓ev_andM, ↓ev_orM, ↓ev_nxM, ↓ev_app, ↓ev_nil, ↓ev_cons, ↓ev_callF, ↓ev_callM, ↓ev_slM, ↓ev_ptM, ↓ev_asI, ↓ev_seM, ↓ev_itL, ↓ev_itT, ↓ev_mkT, ↓ev_mkL, ↓ev_lcM, ↓ev_dispM, ↓ev_lft, ↓thenK_nx, ↓thenK_rt, ↓thenK_bk, ↓thenK_ct, ↓tgK_s, ↓outK_rt, ↓outK_nx, ↓vK_s, ↓turnK_nx, ↓turnK_rt, ↓turnK_bk, ↓turnK_ct, ↓ev_asB, ↓ev_add, ↓ev_sub, ↓ev_mul, ↓ev_fdiv, ↓ev_mod, ↓ev_pow, ↓ev_neg, ↓ev_eqI, ↓ev_neI, ↓ev_lt, ↓ev_le, ↓ev_gt, ↓ev_ge, ↓ev_gcd, ↓ev_absI, ↓ev_maxI, ↓ev_minI, ↓ev_intI, ↓ev_intB, ↓ev_tupT, ↓ev_tupL, ↓ev_lstT, ↓ev_lstL, ↓ev_lenT, ↓ev_lenL, ↓ev_catL, ↓ev_catT, ↓ev_ixT, ↓ev_ixL, ↓ev_slT, ↓ev_slL, ↓ev_isN, ↓ev_isNotN, ↓ev_zipTT, ↓ev_enumT, ↓ev_enumL, ↓ev_eqS, startD, pick, setTg, setAll, wipeD, List.map_cons, List.map_nil, List.length_cons, List.length_nil, List.cons_append, List.nil_append, List.getElem?_cons_zero, List.getElem?_cons_succ, List.set_cons_zero, List.set_cons_succ, List.replicate_succ, List.replicate_zero, List.filterMap_cons, List.filterMap_nil, Nat.reduceAdd, Nat.reduceSub, Nat.reduceLeDiff, and_self, if_true, decide_eq_true_eq, true_and, and_true, List.set_nil, List.length_set, ev_sumL]
  rfl
theorem f15 {n : Nat} (hn : 1 ≤ n) (a b : List Int) (μ : Mu) (hb : Sm b) (hl : b.length ≤ 1000) : F n 15 [tp a, tp b] μ = .ok (.int (dot a b)) μ := by
  obtain ⟨k, rfl⟩ : ∃ k, n = k + 1 := ⟨n - 1, by omega⟩
  rw [F, s15_eq]
  unfold s15
  refine ev_eq ?_
  simp only [↓ev_out, ↓ev_sqM, ↓ev_foM, ↓ev_setM, ↓ev_asgM, ↓ev_putM, ↓ev_ifM, ↓ev_tvM, ↓ev_tnM, ↓ev_taM, ↓ev_toM, ↓ev_op2, ↓ev_gV, ↓ev_kM, ↓ev_rtM, ↓ev_exM, ↓ev_neM, ↓ev_notM, ↓ev_andM, ↓ev_orM, ↓ev_nxM, ↓ev_app, ↓ev_nil, ↓ev_cons, ↓ev_callF, ↓ev_callM, ↓ev_slM, ↓ev_ptM, ↓ev_asI, ↓ev_seM, ↓ev_itL, ↓ev_itT, ↓ev_mkT, ↓ev_mkL, ↓ev_lcM, ↓ev_dispM, ↓ev_lft, ↓thenK_nx, ↓thenK_rt, ↓thenK_bk, ↓thenK_ct, ↓tgK_s, ↓outK_rt, ↓outK_nx, ↓vK_s, ↓turnK_nx, ↓turnK_rt, ↓turnK_bk, ↓turnK_ct, ↓ev_asB, ↓ev_add, ↓ev_sub, ↓ev_mul, ↓ev_fdiv, ↓ev_mod, ↓ev_pow, ↓ev_neg, ↓ev_eqI, ↓ev_neI, ↓ev_lt, ↓ev_le, ↓ev_gt, ↓ev_ge, ↓ev_gcd, ↓ev_absI, ↓ev_maxI, ↓ev_minI, ↓ev_intI, ↓ev_intB, ↓ev_tupT, ↓ev_tupL, ↓ev_lstT, ↓ev_lstL, ↓ev_lenT, ↓ev_lenL, ↓ev_catL, ↓ev_catT, ↓ev_ixT, ↓ev_ixL, ↓ev_slT, ↓ev_slL, ↓ev_isN, ↓ev_isNotN, ↓ev_zipTT, ↓ev_enumT, ↓ev_enumL, ↓ev_eqS, startD, pick, setTg, setAll, wipeD, List.map_cons, List.map_nil, List.length_cons, List.length_nil, List.cons_append, List.nil_append, List.getElem?_cons_zero, List.getElem?_cons_succ, List.set_cons_zero, List.set_cons_succ, List.replicate_succ, List.replicate_zero, List.filterMap_cons, List.filterMap_nil, Nat.reduceAdd, Nat.reduceSub, Nat.reduceLeDiff, and_self, if_true, decide_eq_true_eq, true_and, and_true, List.set_nil, List.length_set]
  have lc : ∀ ρ : Rho, ρ = [some (tp a), some (tp b), none, none] → lcD (.t [2, 3]) (kM true) (op2 (gV 2) (gV 3) mulD) ((a.zip b).map pairD) ρ μ = .ok (((a.zip b).map fun p => p.1 * p.2).map .int) μ := fun ρ e => by
    subst e
    refine lc_pairsI (fun p => p.1 * p.2) fun p hp => ?_
    simp only [↓ev_out, ↓ev_sqM, ↓ev_foM, ↓ev_setM, ↓ev_asgM, ↓ev_putM, ↓ev_ifM, ↓ev_tvM, ↓ev_tnM, ↓ev_taM, ↓ev_toM, ↓ev_op2, ↓ev_gV, ↓ev_kM, ↓ev_rtM, ↓ev_exM, ↓ev_neM, ↓ev_notM, ↓ev_andM, ↓ev_orM, ↓ev_nxM, ↓ev_app, ↓ev_nil, ↓ev_cons, ↓ev_callF, ↓ev_callM, ↓ev_slM, ↓ev_ptM, ↓ev_asI, ↓ev_seM, ↓ev_itL, ↓ev_itT, ↓ev_mkT, ↓ev_mkL, ↓ev_lcM, ↓ev_dispM, ↓ev_lft, ↓thenK_nx, ↓thenK_rt, ↓thenK_bk, ↓thenK_ct, ↓tgK_s, ↓outK_rt, ↓outK_nx, ↓vK_s, ↓turnK_nx, ↓turnK_rt, ↓turnK_bk, ↓turnK_ct, ↓ev_asB, ↓ev_add, ↓ev_sub, ↓ev_mul, ↓ev_fdiv, ↓ev_mod, ↓ev_pow, ↓ev_neg, ↓ev_eqI, ↓ev_neI, ↓ev_lt, ↓ev_le, ↓ev_gt, ↓ev_ge, ↓ev_gcd, ↓ev_absI, ↓ev_maxI, ↓ev_minI, ↓ev_intI, ↓ev_intB, ↓ev_tupT, ↓ev_tupL, ↓ev_lstT, ↓ev_lstL, ↓ev_lenT, ↓ev_lenL, ↓ev_catL, ↓ev_catT, ↓ev_ixT, ↓ev_ixL, ↓ev_slT, ↓ev_slL, ↓ev_isN, ↓ev_isNotN, ↓ev_zipTT, ↓ev_enumT, ↓ev_enumL, ↓ev_eqS, startD, pick, setTg, setAll, wipeD, List.map_cons, List.map_nil, List.length_cons, List.length_nil, List.cons_append, List.nil_append, List.getElem?_cons_zero, List.getElem?_cons_succ, List.set_cons_zero, List.set_cons_succ, List.replicate_succ, List.replicate_zero, List.filterMap_cons, List.filterMap_nil, Nat.reduceAdd, Nat.reduceSub, Nat.reduceLeDiff, and_self, if_true, decide_eq_true_eq, true_and, and_true, List.set_nil, List.length_set]
    exact mulOk_r (hb _ (zip_mem hp).2)
  refine (ev_of (lc _ rfl)).mpr ?_
  have lz : (a.zip b).length ≤ 1000000 := by rw [List.length_zip]; omega
  simp only [List.length_map, if_pos lz, ↓ev_out, ↓ev_sqM, ↓ev_foM, ↓ev_setM, ↓ev_asgM, ↓ev_putM, ↓ev_ifM, ↓ev_tvM, ↓ev_tnM, ↓ev_taM, ↓ev_toM, ↓ev_op2, ↓ev_gV, ↓ev_kM, ↓ev_rtM, ↓ev_exM, ↓ev_neM, ↓ev_notM, ↓ev_andM, ↓ev_orM, ↓ev_nxM, ↓ev_app, ↓ev_nil, ↓ev_cons, ↓ev_callF, ↓ev_callM, ↓ev_slM, ↓ev_ptM, ↓ev_asI, ↓ev_seM, ↓ev_itL, ↓ev_itT, ↓ev_mkT, ↓ev_mkL, ↓ev_lcM, ↓ev_dispM, ↓ev_lft, ↓thenK_nx, ↓thenK_rt, ↓thenK_bk, ↓thenK_ct, ↓tgK_s, ↓outK_rt, ↓outK_nx, ↓vK_s, ↓turnK_nx, ↓turnK_rt, ↓turnK_bk, ↓turnK_ct, ↓ev_asB, ↓ev_add, ↓ev_sub, ↓ev_mul, ↓ev_fdiv, ↓ev_mod, ↓ev_pow, ↓ev_neg, ↓ev_eqI, ↓ev_neI, ↓ev_lt, ↓ev_le, ↓ev_gt, ↓ev_ge, ↓ev_gcd, ↓ev_absI, ↓ev_maxI, ↓ev_minI, ↓ev_intI, ↓ev_intB, ↓ev_tupT, ↓ev_tupL, ↓ev_lstT, ↓ev_lstL, ↓ev_lenT, ↓ev_lenL, ↓ev_catL, ↓ev_catT, ↓ev_ixT, ↓ev_ixL, ↓ev_slT, ↓ev_slL, ↓ev_isN, ↓ev_isNotN, ↓ev_zipTT, ↓ev_enumT, ↓ev_enumL, ↓ev_eqS, startD, pick, setTg, setAll, wipeD, List.map_cons, List.map_nil, List.length_cons, List.length_nil, List.cons_append, List.nil_append, List.getElem?_cons_zero, List.getElem?_cons_succ, List.set_cons_zero, List.set_cons_succ, List.replicate_succ, List.replicate_zero, List.filterMap_cons, List.filterMap_nil, Nat.reduceAdd, Nat.reduceSub, Nat.reduceLeDiff, and_self, if_true, decide_eq_true_eq, true_and, and_true, List.set_nil, List.length_set, ev_sumL]
  rfl
theorem f24 {n : Nat} (hn : 1 ≤ n) (a b : List Int) (μ : Mu) (hb : Sm b) (hl : b.length ≤ 1000) : F n 24 [tp a, tp b] μ = .ok (.int (dot a b)) μ := by
  obtain ⟨k, rfl⟩ : ∃ k, n = k + 1 := ⟨n - 1, by omega⟩
  rw [F, s24_eq]
  unfold s24
  refine ev_eq ?_
  simp only [↓ev_out, ↓ev_sqM, ↓ev_foM, ↓ev_setM, ↓ev_asgM, ↓ev_putM, ↓ev_ifM, ↓ev_tvM, ↓ev_tnM, ↓ev_taM, ↓ev_toM, ↓ev_op2, ↓ev_gV, ↓ev_kM, ↓ev_rtM, ↓ev_exM, ↓ev_neM, ↓ev_notM, ↓ev_andM, ↓ev_orM, ↓ev_nxM, ↓ev_app, ↓ev_nil, ↓ev_cons, ↓ev_callF, ↓ev_callM, ↓ev_slM, ↓ev_ptM, ↓ev_asI, ↓ev_seM, ↓ev_itL, ↓ev_itT, ↓ev_mkT, ↓ev_mkL, ↓ev_lcM, ↓ev_dispM, ↓ev_lft, ↓thenK_nx, ↓thenK_rt, ↓thenK_bk, ↓thenK_ct, ↓tgK_s, ↓outK_rt, ↓outK_nx, ↓vK_s, ↓turnK_nx, ↓turnK_rt, ↓turnK_bk, ↓turnK_ct, ↓ev_asB, ↓ev_add, ↓ev_sub, ↓ev_mul, ↓ev_fdiv, ↓ev_mod, ↓ev_pow, ↓ev_neg, ↓ev_eqI, ↓ev_neI, ↓ev_lt, ↓ev_le, ↓ev_gt, ↓ev_ge, ↓ev_gcd, ↓ev_absI, ↓ev_maxI, ↓ev_minI, ↓ev_intI, ↓ev_intB, ↓ev_tupT, ↓ev_tupL, ↓ev_lstT, ↓ev_lstL, ↓ev_lenT, ↓ev_lenL, ↓ev_catL, ↓ev_catT, ↓ev_ixT, ↓ev_ixL, ↓ev_slT, ↓ev_slL, ↓ev_isN, ↓ev_isNotN, ↓ev_zipTT, ↓ev_enumT, ↓ev_enumL, ↓ev_eqS, startD, pick, setTg, setAll, wipeD, List.map_cons, List.map_nil, List.length_cons, List.length_nil, List.cons_append, List.nil_append, List.getElem?_cons_zero, List.getElem?_cons_succ, List.set_cons_zero, List.set_cons_succ, List.replicate_succ, List.replicate_zero, List.filterMap_cons, List.filterMap_nil, Nat.reduceAdd, Nat.reduceSub, Nat.reduceLeDiff, and_self, if_true, decide_eq_true_eq, true_and, and_true, List.set_nil, List.length_set]
  have lc : ∀ ρ : Rho, ρ = [some (tp a), some (tp b), none, none] → lcD (.t [2, 3]) (kM true) (op2 (gV 2) (gV 3) mulD) ((a.zip b).map pairD) ρ μ = .ok (((a.zip b).map fun p => p.1 * p.2).map .int) μ := fun ρ e => by
    subst e
    refine lc_pairsI (fun p => p.1 * p.2) fun p hp => ?_
    simp only [↓ev_out, ↓ev_sqM, ↓ev_foM, ↓ev_setM, ↓ev_asgM, ↓ev_putM, ↓ev_ifM, ↓ev_tvM, ↓ev_tnM, ↓ev_taM, ↓ev_toM, ↓ev_op2, ↓ev_gV, ↓ev_kM, ↓ev_rtM, ↓ev_exM, ↓ev_neM, ↓ev_notM, ↓ev_andM, ↓ev_orM, ↓ev_nxM, ↓ev_app, ↓ev_nil, ↓ev_cons, ↓ev_callF, ↓ev_callM, ↓ev_slM, ↓ev_ptM, ↓ev_asI, ↓ev_seM, ↓ev_itL, ↓ev_itT, ↓ev_mkT, ↓ev_mkL, ↓ev_lcM, ↓ev_dispM, ↓ev_lft, ↓thenK_nx, ↓thenK_rt, ↓thenK_bk, ↓thenK_ct, ↓tgK_s, ↓outK_rt, ↓outK_nx, ↓vK_s, ↓turnK_nx, ↓turnK_rt, ↓turnK_bk, ↓turnK_ct, ↓ev_asB, ↓ev_add, ↓ev_sub, ↓ev_mul, ↓ev_fdiv, ↓ev_mod, ↓ev_pow, ↓ev_neg, ↓ev_eqI, ↓ev_neI, ↓ev_lt, ↓ev_le, ↓ev_gt, ↓ev_ge, ↓ev_gcd, ↓ev_absI, ↓ev_maxI, ↓ev_minI, ↓ev_intI, ↓ev_intB, ↓ev_tupT, ↓ev_tupL, ↓ev_lstT, ↓ev_lstL, ↓ev_lenT, ↓ev_lenL, ↓ev_catL, ↓ev_catT, ↓ev_ixT, ↓ev_ixL, ↓ev_slT, ↓ev_slL, ↓ev_isN, ↓ev_isNotN, ↓ev_zipTT, ↓ev_enumT, ↓ev_enumL, ↓ev_eqS, startD, pick, setTg, setAll, wipeD, List.map_cons, List.map_nil, List.length_cons, List.length_nil, List.cons_append, List.nil_append, List.getElem?_cons_zero, List.getElem?_cons_succ, List.set_cons_zero, List.set_cons_succ, List.replicate_succ, List.replicate_zero, List.filterMap_cons, List.filterMap_nil, Nat.reduceAdd, Nat.reduceSub, Nat.reduceLeDiff, and_self, if_true, decide_eq_true_eq, true_and, and_true, List.set_nil, List.length_set]
    exact mulOk_r (hb _ (zip_mem hp).2)
  refine (ev_of (lc _ rfl)).mpr ?_
  have lz : (a.zip b).length ≤ 1000000 := by rw [List.length_zip]; omega
  simp only [List.length_map, if_pos lz, ↓ev_out, ↓ev_sqM, ↓ev_foM, ↓ev_setM, ↓ev_asgM, ↓ev_putM, ↓ev_ifM, ↓ev_tvM, ↓ev_tnM, ↓ev_taM, ↓ev_toM, ↓ev_op2, ↓ev_gV, ↓ev_kM, ↓ev_rtM, ↓ev_exM, ↓ev_neM, ↓ev_notM, ↓ev_andM, ↓ev_orM, ↓ev_nxM, ↓ev_app, ↓ev_nil, ↓ev_cons, ↓ev_callF, ↓ev_callM, ↓ev_slM, ↓ev_ptM, ↓ev_asI, ↓ev_seM, ↓ev_itL, ↓ev_itT, ↓ev_mkT, ↓ev_mkL, ↓ev_lcM, ↓ev_dispM, ↓ev_lft, ↓thenK_nx, ↓thenK_rt, ↓thenK_bk, ↓thenK_ct, ↓tgK_s, ↓outK_rt, ↓outK_nx, ↓vK_s, ↓turnK_nx, ↓turnK_rt, ↓turnK_bk, ↓turnK_ct, ↓ev_asB, ↓ev_add, ↓ev_sub, ↓ev_mul, ↓ev_fdiv, ↓ev_mod, ↓ev_pow, ↓ev_neg, ↓ev_eqI, ↓ev_neI, ↓ev_lt, ↓ev_le, ↓ev_gt, ↓ev_ge, ↓ev_gcd, ↓ev_absI, ↓ev_maxI, ↓ev_minI, ↓ev_intI, ↓ev_intB, ↓ev_tupT, ↓ev_tupL, ↓ev_lstT, ↓ev_lstL, ↓ev_lenT, ↓ev_lenL, ↓ev_catL, ↓ev_catT, ↓ev_ixT, ↓ev_ixL, ↓ev_slT, ↓ev_slL, ↓ev_isN, ↓ev_isNotN, ↓ev_zipTT, ↓ev_enumT, ↓ev_enumL, ↓ev_eqS, startD, pick, setTg, setAll, wipeD, List.map_cons, List.map_nil, List.length_cons, List.length_nil, List.cons_append, List.nil_append, List.getElem?_cons_zero, List.getElem?_cons_succ, List.set_cons_zero, List.set_cons_succ, List.replicate_succ, List.replicate_zero, List.filterMap_cons, List.filterMap_nil, Nat.reduceAdd, Nat.reduceSub, Nat.reduceLeDiff, and_self, if_true, decide_eq_true_eq, true_and, and_true, List.set_nil, List.length_set, ev_sumL]
  rfl
theorem f12 {n : Nat} (hn : 2 ≤ n) (a xs : List Int) (w : Int) (μ : Mu) (hb : Sm (xs ++ [w])) (hl : xs.length ≤ 900) (hw : 0 < w) : F n 12 [tp a, tp (xs ++ [w])] μ = .ok (tp (lowL [dot a (xs ++ [w]), w])) μ := by
  obtain ⟨k, rfl⟩ : ∃ k, n = k + 1 := ⟨n - 1, by omega⟩
  rw [F, s12_eq]
  unfold s12
  refine ev_eq ?_
  have el : List.map D.int (xs ++ [w]) = List.map D.int xs ++ [D.int w] := by simp
  have hwB : w.natAbs < BB := Nat.lt_of_lt_of_le (hb w (by simp)) (Nat.pow_le_pow_right (by decide) (by decide))
  simp only [↓ev_out, ↓ev_sqM, ↓ev_foM, ↓ev_setM, ↓ev_asgM, ↓ev_putM, ↓ev_ifM, ↓ev_tvM, ↓ev_tnM, ↓ev_taM, ↓ev_toM, ↓ev_op2, ↓ev_gV, ↓ev_kM, ↓ev_rtM, ↓ev_exM, ↓ev_neM, ↓ev_notM, ↓ev_andM, ↓ev_orM, ↓ev_nxM, ↓ev_app, ↓ev_nil, ↓ev_cons, ↓ev_callF, ↓ev_callM, ↓ev_slM, ↓ev_ptM, ↓ev_asI, ↓ev_seM, ↓ev_itL, ↓ev_itT, ↓ev_mkT, ↓ev_mkL, ↓ev_lcM, ↓ev_dispM, ↓ev_lft, ↓thenK_nx, ↓thenK_rt, ↓thenK_bk, ↓thenK_ct, ↓tgK_s, ↓outK_rt, ↓outK_nx, ↓vK_s, ↓turnK_nx, ↓turnK_rt, ↓turnK_bk, ↓turnK_ct, ↓ev_asB, ↓ev_add, ↓ev_sub, ↓ev_mul, ↓ev_fdiv, ↓ev_mod, ↓ev_pow, ↓ev_neg, ↓ev_eqI, ↓ev_neI, ↓ev_lt, ↓ev_le, ↓ev_gt, ↓ev_ge, ↓ev_gcd, ↓ev_absI, ↓ev_maxI, ↓ev_minI, ↓ev_intI, ↓ev_intB, ↓ev_tupT, ↓ev_tupL, ↓ev_lstT, ↓ev_lstL, ↓ev_lenT, ↓ev_lenL, ↓ev_catL, ↓ev_catT, ↓ev_ixT, ↓ev_ixL, ↓ev_slT, ↓ev_slL, ↓ev_isN, ↓ev_isNotN, ↓ev_zipTT, ↓ev_enumT, ↓ev_enumL, ↓ev_eqS, startD, pick, setTg, setAll, wipeD, List.map_cons, List.map_nil, List.length_cons, List.length_nil, List.cons_append, List.nil_append, List.getElem?_cons_zero, List.getElem?_cons_succ, List.set_cons_zero, List.set_cons_succ, List.replicate_succ, List.replicate_zero, List.filterMap_cons, List.filterMap_nil, Nat.reduceAdd, Nat.reduceSub, Nat.reduceLeDiff, and_self, if_true, decide_eq_true_eq, true_and, and_true, List.set_nil, List.length_set]
  refine (ev_of (f11 (by omega) a (xs ++ [w]) μ hb (by simp; omega))).mpr ?_
  rw [el, at_last]
  simp only [↓ev_out, ↓ev_sqM, ↓ev_foM, ↓ev_setM, ↓ev_asgM, ↓ev_putM, ↓ev_ifM, ↓ev_tvM, ↓ev_tnM, ↓ev_taM, ↓ev_toM, ↓ev_op2, ↓ev_gV, ↓ev_kM, ↓ev_rtM, ↓ev_exM, ↓ev_neM, ↓ev_notM, ↓ev_andM, ↓ev_orM, ↓ev_nxM, ↓ev_app, ↓ev_nil, ↓ev_cons, ↓ev_callF, ↓ev_callM, ↓ev_slM, ↓ev_ptM, ↓ev_asI, ↓ev_seM, ↓ev_itL, ↓ev_itT, ↓ev_mkT, ↓ev_mkL, ↓ev_lcM, ↓ev_dispM, ↓ev_lft, ↓thenK_nx, ↓thenK_rt, ↓thenK_bk, ↓thenK_ct, ↓tgK_s, ↓outK_rt, ↓outK_nx, ↓vK_s, ↓turnK_nx, ↓turnK_rt, ↓turnK_bk, ↓turnK_ct, ↓ev_asB, ↓ev_add, ↓ev_sub, ↓ev_mul, ↓ev_fdiv, ↓ev_mod, ↓ev_pow, ↓ev_neg, ↓ev_eqI, ↓ev_neI, ↓ev_lt, ↓ev_le, ↓ev_gt, ↓ev_ge, ↓ev_gcd, ↓ev_absI, ↓ev_maxI, ↓ev_minI, ↓ev_intI, ↓ev_intB, ↓ev_tupT, ↓ev_tupL, ↓ev_lstT, ↓ev_lstL, ↓ev_lenT, ↓ev_lenL, ↓ev_catL, ↓ev_catT, ↓ev_ixT, ↓ev_ixL, ↓ev_slT, ↓ev_slL, ↓ev_isN, ↓ev_isNotN, ↓ev_zipTT, ↓ev_enumT, ↓ev_enumL, ↓ev_eqS, startD, pick, setTg, setAll, wipeD, List.map_cons, List.map_nil, List.length_cons, List.length_nil, List.cons_append, List.nil_append, List.getElem?_cons_zero, List.getElem?_cons_succ, List.set_cons_zero, List.set_cons_succ, List.replicate_succ, List.replicate_zero, List.filterMap_cons, List.filterMap_nil, Nat.reduceAdd, Nat.reduceSub, Nat.reduceLeDiff, and_self, if_true, decide_eq_true_eq, true_and, and_true, List.set_nil, List.length_set]
  refine (ev_of (f4 (by omega) (dot a (xs ++ [w])) w μ hw hwB)).mpr ⟨rfl, rfl⟩
theorem f13 {n : Nat} (hn : 2 ≤ n) (a b : List Int) (μ : Mu) (hb : Sm b) (hl : b.length ≤ 1000) : F n 13 [tp a, tp b] μ = .ok (.int (sgn (dot a b))) μ := by
  obtain ⟨k, rfl⟩ : ∃ k, n = k + 1 := ⟨n - 1, by omega⟩
  rw [F, s13_eq]
  unfold s13
  refine ev_eq ?_
  simp only [↓ev_out, ↓ev_sqM, ↓ev_foM, ↓ev_setM, ↓ev_asgM, ↓ev_putM, ↓ev_ifM, ↓ev_tvM, ↓ev_tnM, ↓ev_taM, ↓ev_toM, ↓ev_op2, ↓ev_gV, ↓ev_kM, ↓ev_rtM, ↓ev_exM, ↓ev_neM, ↓ev_notM, ↓ev_andM, ↓ev_orM, ↓ev_nxM, ↓ev_app, ↓ev_nil, ↓ev_cons, ↓ev_callF, ↓ev_callM, ↓ev_slM, ↓ev_ptM, ↓ev_asI, ↓ev_seM, ↓ev_itL, ↓ev_itT, ↓ev_mkT, ↓ev_mkL, ↓ev_lcM, ↓ev_dispM, ↓ev_lft, ↓thenK_nx, ↓thenK_rt, ↓thenK_bk, ↓thenK_ct, ↓tgK_s, ↓outK_rt, ↓outK_nx, ↓vK_s, ↓turnK_nx, ↓turnK_rt, ↓turnK_bk, ↓turnK_ct, ↓ev_asB, ↓ev_add, ↓ev_sub, ↓ev_mul, ↓ev_fdiv, ↓ev_mod, ↓ev_pow, ↓ev_neg, ↓ev_eqI, ↓ev_neI, ↓ev_lt, ↓ev_le, ↓ev_gt, ↓ev_ge, ↓ev_gcd, ↓ev_absI, ↓ev_maxI, ↓ev_minI, ↓ev_intI, ↓ev_intB, ↓ev_tupT, ↓ev_tupL, ↓ev_lstT, ↓ev_lstL, ↓ev_lenT, ↓ev_lenL, ↓ev_catL, ↓ev_catT, ↓ev_ixT, ↓ev_ixL, ↓ev_slT, ↓ev_slL, ↓ev_isN, ↓ev_isNotN, ↓ev_zipTT, ↓ev_enumT, ↓ev_enumL, ↓ev_eqS, startD, pick, setTg, setAll, wipeD, List.map_cons, List.map_nil, List.length_cons, List.length_nil, List.cons_append, List.nil_append, List.getElem?_cons_zero, List.getElem?_cons_succ, List.set_cons_zero, List.set_cons_succ, List.replicate_succ, List.replicate_zero, List.filterMap_cons, List.filterMap_nil, Nat.reduceAdd, Nat.reduceSub, Nat.reduceLeDiff, and_self, if_true, decide_eq_true_eq, true_and, and_true, List.set_nil, List.length_set]
  refine (ev_of (f11 (by omega) a b μ hb hl)).mpr ?_
  exact (ev_of (f1 (by omega) _ μ)).mpr ⟨rfl, rfl⟩
theorem f14 {n : Nat} (hn : 2 ≤ n) (ps : List (List Int)) (b : List Int) (μ : Mu) (hb : Sm b) (hl : b.length ≤ 1000) (hp : ps.length ≤ 1000) : F n 14 [.tup (ps.map tp), tp b] μ = .ok (tp (ps.map fun p => sgn (dot p b))) μ := by
  obtain ⟨k, rfl⟩ : ∃ k, n = k + 1 := ⟨n - 1, by omega⟩
  rw [F, s14_eq]
  unfold s14
  refine ev_eq ?_
  simp only [↓ev_out, ↓ev_sqM, ↓ev_foM, ↓ev_setM, ↓ev_asgM, ↓ev_putM, ↓ev_ifM, ↓ev_tvM, ↓ev_tnM, ↓ev_taM, ↓ev_toM, ↓ev_op2, ↓ev_gV, ↓ev_kM, ↓ev_rtM, ↓ev_exM, ↓ev_neM, ↓ev_notM, ↓ev_andM, ↓ev_orM, ↓ev_nxM, ↓ev_app, ↓ev_nil, ↓ev_cons, ↓ev_callF, ↓ev_callM, ↓ev_slM, ↓ev_ptM, ↓ev_asI, ↓ev_seM, ↓ev_itL, ↓ev_itT, ↓ev_mkT, ↓ev_mkL, ↓ev_lcM, ↓ev_dispM, ↓ev_lft, ↓thenK_nx, ↓thenK_rt, ↓thenK_bk, ↓thenK_ct, ↓tgK_s, ↓outK_rt, ↓outK_nx, ↓vK_s, ↓turnK_nx, ↓turnK_rt, ↓turnK_bk, ↓turnK_ct, ↓ev_asB, ↓ev_add, ↓ev_sub, ↓ev_mul, ↓ev_fdiv, ↓ev_mod, ↓ev_pow, ↓ev_neg, ↓ev_eqI, ↓ev_neI, ↓ev_lt, ↓ev_le, ↓ev_gt, ↓ev_ge, ↓ev_gcd, ↓ev_absI, ↓ev_maxI, ↓ev_minI, ↓ev_intI, ↓ev_intB, ↓ev_tupT, ↓ev_tupL, ↓ev_lstT, ↓ev_lstL, ↓ev_lenT, ↓ev_lenL, ↓ev_catL, ↓ev_catT, ↓ev_ixT, ↓ev_ixL, ↓ev_slT, ↓ev_slL, ↓ev_isN, ↓ev_isNotN, ↓ev_zipTT, ↓ev_enumT, ↓ev_enumL, ↓ev_eqS, startD, pick, setTg, setAll, wipeD, List.map_cons, List.map_nil, List.length_cons, List.length_nil, List.cons_append, List.nil_append, List.getElem?_cons_zero, List.getElem?_cons_succ, List.set_cons_zero, List.set_cons_succ, List.replicate_succ, List.replicate_zero, List.filterMap_cons, List.filterMap_nil, Nat.reduceAdd, Nat.reduceSub, Nat.reduceLeDiff, and_self, if_true, decide_eq_true_eq, true_and, and_true, List.set_nil, List.length_set]
  let g : D → D := fun d => match d with
    | .tup ds => .int (sgn (dot (ds.map fun e => match e with | .int i => i | _ => 0) b))
    | d => d
  have lc : ∀ ρ : Rho, ρ = [some (.tup (ps.map tp)), some (tp b), none] → lcD (.v 2) (kM true) (callF (lev tab bis k 1 |> fun _ => lev tab bis k 1) ⟨1, [], [0]⟩ 1 [callF (lev tab bis k 11) ⟨2, [], [0, 1]⟩ 2 [gV 2, gV 1] []] []) (ps.map tp) ρ μ = .ok ((ps.map tp).map g) μ := fun ρ e => by
    subst e
    refine lc_map g fun d hd => ?_
    obtain ⟨p, hp, rfl⟩ := List.mem_map.mp hd
    refine ⟨_, rfl, ?_⟩
    simp only [↓ev_out, ↓ev_sqM, ↓ev_foM, ↓ev_setM, ↓ev_asgM, ↓ev_putM, ↓ev_ifM, ↓ev_tvM, ↓ev_tnM, ↓ev_taM, ↓ev_toM, ↓ev_op2, ↓ev_gV, ↓ev_kM, ↓ev_rtM, ↓ev_exM, ↓ev_neM, ↓ev_notM, ↓ev_andM, ↓ev_orM, ↓ev_nxM, ↓ev_app, ↓ev_nil, ↓ev_cons, ↓ev_callF, ↓ev_callM, ↓ev_slM, ↓ev_ptM, ↓ev_asI, ↓ev_seM, ↓ev_itL, ↓ev_itT, ↓ev_mkT, ↓ev_mkL, ↓ev_lcM, ↓ev_dispM, ↓ev_lft, ↓thenK_nx, ↓thenK_rt, ↓thenK_bk, ↓thenK_ct, ↓tgK_s, ↓outK_rt, ↓outK_nx, ↓vK_s, ↓turnK_nx, ↓turnK_rt, ↓turnK_bk, ↓turnK_ct, ↓ev_asB, ↓ev_add, ↓ev_sub, ↓ev_mul, ↓ev_fdiv, ↓ev_mod, ↓ev_pow, ↓ev_neg, ↓ev_eqI, ↓ev_neI, ↓ev_lt, ↓ev_le, ↓ev_gt, ↓ev_ge, ↓ev_gcd, ↓ev_absI, ↓ev_maxI, ↓ev_minI, ↓ev_intI, ↓ev_intB, ↓ev_tupT, ↓ev_tupL, ↓ev_lstT, ↓ev_lstL, ↓ev_lenT, ↓ev_lenL, ↓ev_catL, ↓ev_catT, ↓ev_ixT, ↓ev_ixL, ↓ev_slT, ↓ev_slL, ↓ev_isN, ↓ev_isNotN, ↓ev_zipTT, ↓ev_enumT, ↓ev_enumL, ↓ev_eqS, startD, pick, setTg, setAll, wipeD, List.map_cons, List.map_nil, List.length_cons, List.length_nil, List.cons_append, List.nil_append, List.getElem?_cons_zero, List.getElem?_cons_succ, List.set_cons_zero, List.set_cons_succ, List.replicate_succ, List.replicate_zero, List.filterMap_cons, List.filterMap_nil, Nat.reduceAdd, Nat.reduceSub, Nat.reduceLeDiff, and_self, if_true, decide_eq_true_eq, true_and, and_true, List.set_nil, List.length_set]
    refine (ev_of (f11 (by omega) p b μ hb hl)).mpr ?_
    refine (ev_of (f1 (by omega) _ μ)).mpr ⟨?_, rfl⟩
    show D.int (sgn (dot p b)) = D.int (sgn (dot (List.map _ (p.map D.int)) b))
    rw [List.map_map]
    congr 3
    exact (List.map_id p).symm
  refine (ev_of (lc _ rfl)).mpr ?_
  simp only [List.length_map, if_pos (show ps.length ≤ 1000000 by omega), ↓ev_out, ↓ev_sqM, ↓ev_foM, ↓ev_setM, ↓ev_asgM, ↓ev_putM, ↓ev_ifM, ↓ev_tvM, ↓ev_tnM, ↓ev_taM, ↓ev_toM, ↓ev_op2, ↓ev_gV, ↓ev_kM, ↓ev_rtM, ↓ev_exM, ↓ev_neM, ↓ev_notM, ↓ev_andM, ↓ev_orM, ↓ev_nxM, ↓ev_app, ↓ev_nil, ↓ev_cons, ↓ev_callF, ↓ev_callM, ↓ev_slM, ↓ev_ptM, ↓ev_asI, ↓ev_seM, ↓ev_itL, ↓ev_itT, ↓ev_mkT, ↓ev_mkL, ↓ev_lcM, ↓ev_dispM, ↓ev_lft, ↓thenK_nx, ↓thenK_rt, ↓thenK_bk, ↓thenK_ct, ↓tgK_s, ↓outK_rt, ↓outK_nx, ↓vK_s, ↓turnK_nx, ↓turnK_rt, ↓turnK_bk, ↓turnK_ct, ↓ev_asB, ↓ev_add, ↓ev_sub, ↓ev_mul, ↓ev_fdiv, ↓ev_mod, ↓ev_pow, ↓ev_neg, ↓ev_eqI, ↓ev_neI, ↓ev_lt, ↓ev_le, ↓ev_gt, ↓ev_ge, ↓ev_gcd, ↓ev_absI, ↓ev_maxI, ↓ev_minI, ↓ev_intI, ↓ev_intB, ↓ev_tupT, ↓ev_tupL, ↓ev_lstT, ↓ev_lstL, ↓ev_lenT, ↓ev_lenL, ↓ev_catL, ↓ev_catT, ↓ev_ixT, ↓ev_ixL, ↓ev_slT, ↓ev_slL, ↓ev_isN, ↓ev_isNotN, ↓ev_zipTT, ↓ev_enumT, ↓ev_enumL, ↓ev_eqS, startD, pick, setTg, setAll, wipeD, List.map_cons, List.map_nil, List.length_cons, List.length_nil, List.cons_append, List.nil_append, List.getElem?_cons_zero, List.getElem?_cons_succ, List.set_cons_zero, List.set_cons_succ, List.replicate_succ, List.replicate_zero, List.filterMap_cons, List.filterMap_nil, Nat.reduceAdd, Nat.reduceSub, Nat.reduceLeDiff, and_self, if_true, decide_eq_true_eq, true_and, and_true, List.set_nil, List.length_set]
  show D.tup _ = D.tup (List.map D.int (List.map _ ps))
  rw [List.map_map, List.map_map]
  congr 1
  refine List.map_congr_left fun p hp => ?_
  show D.int (sgn (dot (List.map _ (p.map D.int)) b)) = D.int (sgn (dot p b))
  rw [List.map_map]
  congr 3
  exact List.map_id p
end K03
namespace K03
open PySem L2 PX
theorem f16 {n : Nat} (hn : 1 ≤ n) (ds : List D) (μ : Mu) : F n 16 ds μ = begunB ds μ := by
  obtain ⟨k, rfl⟩ : ∃ k, n = k + 1 := ⟨n - 1, by omega⟩
  rw [F, s16_eq]
  unfold s16
  rfl
theorem f17 {n : Nat} (hn : 1 ≤ n) (ds : List D) (μ : Mu) : F n 17 ds μ = drawB ds μ := by
  obtain ⟨k, rfl⟩ : ∃ k, n = k + 1 := ⟨n - 1, by omega⟩
  rw [F, s17_eq]
  unfold s17
  rfl
theorem f18 {n : Nat} (hn : 1 ≤ n) {d : D} (μ : Mu) (h : fit 3 d) : F n 18 [d, d] μ = .ok (.bl true) μ := by
  obtain ⟨k, rfl⟩ : ∃ k, n = k + 1 := ⟨n - 1, by omega⟩
  rw [F, s18_eq]
  unfold s18
  exact like_ok h
theorem f19 {n : Nat} (hn : 1 ≤ n) (i : Int) (μ : Mu) : F n 19 [.int i] μ = .ok (.int (sgn i)) μ := by
  obtain ⟨k, rfl⟩ : ∃ k, n = k + 1 := ⟨n - 1, by omega⟩
  rw [F, s19_eq]
  unfold s19
  exact sign_ok i μ
theorem f20 {n : Nat} (hn : 1 ≤ n) (b : Bool) (ns : List Int) (μ : Mu) (hb : ∀ x ∈ ns, x.natAbs < BB) : F n 20 [sq b ns] μ = .ok (.int (gcdL ns : Int)) μ := by
  obtain ⟨k, rfl⟩ : ∃ k, n = k + 1 := ⟨n - 1, by omega⟩
  rw [F, s20_eq]
  unfold s20
  exact common_ok b ns μ hb
theorem f21 {n : Nat} (hn : 2 ≤ n) (b : Bool) (ns : List Int) (μ : Mu) (hb : ∀ x ∈ ns, x.natAbs < BB) (hl : ns.length ≤ 1000) : F n 21 [sq b ns] μ = .ok (tp (lowL ns)) μ := by
  obtain ⟨k, rfl⟩ : ∃ k, n = k + 1 := ⟨n - 1, by omega⟩
  rw [F, s21_eq]
  unfold s21
  exact lowered_ok b ns μ (f20 (by omega) b ns μ hb) hb hl
theorem f22 {n : Nat} (hn : 3 ≤ n) (a b : Int) (μ : Mu) (hb : 0 < b) (h : ∀ x ∈ [a, b], x.natAbs < BB) : F n 22 [.int a, .int b] μ = .ok (tp (lowL [a, b])) μ := by
  obtain ⟨k, rfl⟩ : ∃ k, n = k + 1 := ⟨n - 1, by omega⟩
  rw [F, s22_eq]
  unfold s22
  refine ev_eq ?_
  simp only [↓ev_out, ↓ev_sqM, ↓ev_foM, ↓ev_setM, ↓ev_asgM, ↓ev_putM, ↓ev_ifM, ↓ev_tvM, ↓ev_tnM, ↓ev_taM, ↓ev_toM, ↓ev_op2, ↓ev_gV, ↓ev_kM, ↓ev_rtM, ↓ev_exM, ↓ev_neM, ↓ev_notM, ↓ev_andM, ↓ev_orM, ↓ev_nxM, ↓ev_app, ↓ev_nil, ↓ev_cons, ↓ev_callF, ↓ev_callM, ↓ev_slM, ↓ev_ptM, ↓ev_asI, ↓ev_seM, ↓ev_itL, ↓ev_itT, ↓ev_mkT, ↓ev_mkL, ↓ev_lcM, ↓ev_dispM, ↓ev_lft, ↓thenK_nx, ↓thenK_rt, ↓thenK_bk, ↓thenK_ct, ↓tgK_s, ↓outK_rt, ↓outK_nx, ↓vK_s, ↓turnK_nx, ↓turnK_rt, ↓turnK_bk, ↓turnK_ct, ↓ev_asB, ↓ev_add, ↓ev_sub, ↓ev_mul, ↓ev_fdiv, ↓ev_mod, ↓ev_pow, ↓ev_neg, ↓ev_eqI, ↓ev_neI, ↓ev_lt, ↓ev_le, ↓ev_gt, ↓ev_ge, ↓ev_gcd, ↓ev_absI, ↓ev_maxI, ↓ev_minI, ↓ev_intI, ↓ev_intB, ↓ev_tupT, ↓ev_tupL, ↓ev_lstT, ↓ev_lstL, ↓ev_lenT, ↓ev_lenL, ↓ev_catL, ↓ev_catT, ↓ev_ixT, ↓ev_ixL, ↓ev_slT, ↓ev_slL, ↓ev_isN, ↓ev_isNotN, ↓ev_zipTT, ↓ev_enumT, ↓ev_enumL, ↓ev_eqS, startD, pick, setTg, setAll, wipeD, List.map_cons, List.map_nil, List.length_cons, List.length_nil, List.cons_append, List.nil_append, List.getElem?_cons_zero, List.getElem?_cons_succ, List.set_cons_zero, List.set_cons_succ, List.replicate_succ, List.replicate_zero, List.filterMap_cons, List.filterMap_nil, Nat.reduceAdd, Nat.reduceSub, Nat.reduceLeDiff, and_self, if_true, decide_eq_true_eq, true_and, and_true, List.set_nil, List.length_set]
  refine (ev_of (f21 (b := true) (by omega) [a, b] μ h (show 2 ≤ 1000 by decide))).mpr ?_
  simp only [↓ev_out, ↓ev_sqM, ↓ev_foM, ↓ev_setM, ↓ev_asgM, ↓ev_putM, ↓ev_ifM, ↓ev_tvM, ↓ev_tnM, ↓ev_taM, ↓ev_toM, ↓ev_op2, ↓ev_gV, ↓ev_kM, ↓ev_rtM, ↓ev_exM, ↓ev_neM, ↓ev_notM, ↓ev_andM, ↓ev_orM, ↓ev_nxM, ↓ev_app, ↓ev_nil, ↓ev_cons, ↓ev_callF, ↓ev_callM, ↓ev_slM, ↓ev_ptM, ↓ev_asI, ↓ev_seM, ↓ev_itL, ↓ev_itT, ↓ev_mkT, ↓ev_mkL, ↓ev_lcM, ↓ev_dispM, ↓ev_lft, ↓thenK_nx, ↓thenK_rt, ↓thenK_bk, ↓thenK_ct, ↓tgK_s, ↓outK_rt, ↓outK_nx, ↓vK_s, ↓turnK_nx, ↓turnK_rt, ↓turnK_bk, ↓turnK_ct, ↓ev_asB, ↓ev_add, ↓ev_sub, ↓ev_mul, ↓ev_fdiv, ↓ev_mod, ↓ev_pow, ↓ev_neg, ↓ev_eqI, ↓ev_neI, ↓ev_lt, ↓ev_le, ↓ev_gt, ↓ev_ge, ↓ev_gcd, ↓ev_absI, ↓ev_maxI, ↓ev_minI, ↓ev_intI, ↓ev_intB, ↓ev_tupT, ↓ev_tupL, ↓ev_lstT, ↓ev_lstL, ↓ev_lenT, ↓ev_lenL, ↓ev_catL, ↓ev_catT, ↓ev_ixT, ↓ev_ixL, ↓ev_slT, ↓ev_slL, ↓ev_isN, ↓ev_isNotN, ↓ev_zipTT, ↓ev_enumT, ↓ev_enumL, ↓ev_eqS, startD, pick, setTg, setAll, wipeD, List.map_cons, List.map_nil, List.length_cons, List.length_nil, List.cons_append, List.nil_append, List.getElem?_cons_zero, List.getElem?_cons_succ, List.set_cons_zero, List.set_cons_succ, List.replicate_succ, List.replicate_zero, List.filterMap_cons, List.filterMap_nil, Nat.reduceAdd, Nat.reduceSub, Nat.reduceLeDiff, and_self, if_true, decide_eq_true_eq, true_and, and_true, List.set_nil, List.length_set, hb, decide_true, if_true]
theorem f23 {n : Nat} (hn : 3 ≤ n) (b : Bool) (xs : List Int) (w : Int) (μ : Mu) (hw : 0 < w) (h : ∀ x ∈ xs ++ [w], x.natAbs < BB) (hl : xs.length ≤ 900) : F n 23 [sq b xs, .int w] μ = .ok (tp (lowL (xs ++ [w]))) μ := by
  obtain ⟨k, rfl⟩ : ∃ k, n = k + 1 := ⟨n - 1, by omega⟩
  rw [F, s23_eq]
  unfold s23
  refine ev_eq ?_
  simp only [↓ev_out, ↓ev_sqM, ↓ev_foM, ↓ev_setM, ↓ev_asgM, ↓ev_putM, ↓ev_ifM, ↓ev_tvM, ↓ev_tnM, ↓ev_taM, ↓ev_toM, ↓ev_op2, ↓ev_gV, ↓ev_kM, ↓ev_rtM, ↓ev_exM, ↓ev_neM, ↓ev_notM, ↓ev_andM, ↓ev_orM, ↓ev_nxM, ↓ev_app, ↓ev_nil, ↓ev_cons, ↓ev_callF, ↓ev_callM, ↓ev_slM, ↓ev_ptM, ↓ev_asI, ↓ev_seM, ↓ev_itL, ↓ev_itT, ↓ev_mkT, ↓ev_mkL, ↓ev_lcM, ↓ev_dispM, ↓ev_lft, ↓thenK_nx, ↓thenK_rt, ↓thenK_bk, ↓thenK_ct, ↓tgK_s, ↓outK_rt, ↓outK_nx, ↓vK_s, ↓turnK_nx, ↓turnK_rt, ↓turnK_bk, ↓turnK_ct, ↓ev_asB, ↓ev_add, ↓ev_sub, ↓ev_mul, ↓ev_fdiv, ↓ev_mod, ↓ev_pow, ↓ev_neg, ↓ev_eqI, ↓ev_neI, ↓ev_lt, ↓ev_le, ↓ev_gt, ↓ev_ge, ↓ev_gcd, ↓ev_absI, ↓ev_maxI, ↓ev_minI, ↓ev_intI, ↓ev_intB, ↓ev_tupT, ↓ev_tupL, ↓ev_lstT, ↓ev_lstL, ↓ev_lenT, ↓ev_lenL, ↓ev_catL, ↓ev_catT, ↓ev_ixT, ↓ev_ixL, ↓ev_slT, ↓ev_slL, ↓ev_isN, ↓ev_isNotN, ↓ev_zipTT, ↓ev_enumT, ↓ev_enumL, ↓ev_eqS, startD, pick, setTg, setAll, wipeD, List.map_cons, List.map_nil, List.length_cons, List.length_nil, List.cons_append, List.nil_append, List.getElem?_cons_zero, List.getElem?_cons_succ, List.set_cons_zero, List.set_cons_succ, List.replicate_succ, List.replicate_zero, List.filterMap_cons, List.filterMap_nil, Nat.reduceAdd, Nat.reduceSub, Nat.reduceLeDiff, and_self, if_true, decide_eq_true_eq, true_and, and_true, List.set_nil, List.length_set, hw, decide_true, if_true]
  have lc : ∀ ρ : Rho, ρ = [some (sq b xs), some (.int w), some (.int 1), none] → lcD (.v 3) (kM true) (op2 (gV 2) (gV 3) mulD) (xs.map .int) ρ μ = .ok ((xs.map fun x => x).map .int) μ := fun ρ e => by
    subst e
    refine lc_intsI (fun x => x) fun x hx => ?_
    simp only [↓ev_out, ↓ev_sqM, ↓ev_foM, ↓ev_setM, ↓ev_asgM, ↓ev_putM, ↓ev_ifM, ↓ev_tvM, ↓ev_tnM, ↓ev_taM, ↓ev_toM, ↓ev_op2, ↓ev_gV, ↓ev_kM, ↓ev_rtM, ↓ev_exM, ↓ev_neM, ↓ev_notM, ↓ev_andM, ↓ev_orM, ↓ev_nxM, ↓ev_app, ↓ev_nil, ↓ev_cons, ↓ev_callF, ↓ev_callM, ↓ev_slM, ↓ev_ptM, ↓ev_asI, ↓ev_seM, ↓ev_itL, ↓ev_itT, ↓ev_mkT, ↓ev_mkL, ↓ev_lcM, ↓ev_dispM, ↓ev_lft, ↓thenK_nx, ↓thenK_rt, ↓thenK_bk, ↓thenK_ct, ↓tgK_s, ↓outK_rt, ↓outK_nx, ↓vK_s, ↓turnK_nx, ↓turnK_rt, ↓turnK_bk, ↓turnK_ct, ↓ev_asB, ↓ev_add, ↓ev_sub, ↓ev_mul, ↓ev_fdiv, ↓ev_mod, ↓ev_pow, ↓ev_neg, ↓ev_eqI, ↓ev_neI, ↓ev_lt, ↓ev_le, ↓ev_gt, ↓ev_ge, ↓ev_gcd, ↓ev_absI, ↓ev_maxI, ↓ev_minI, ↓ev_intI, ↓ev_intB, ↓ev_tupT, ↓ev_tupL, ↓ev_lstT, ↓ev_lstL, ↓ev_lenT, ↓ev_lenL, ↓ev_catL, ↓ev_catT, ↓ev_ixT, ↓ev_ixL, ↓ev_slT, ↓ev_slL, ↓ev_isN, ↓ev_isNotN, ↓ev_zipTT, ↓ev_enumT, ↓ev_enumL, ↓ev_eqS, startD, pick, setTg, setAll, wipeD, List.map_cons, List.map_nil, List.length_cons, List.length_nil, List.cons_append, List.nil_append, List.getElem?_cons_zero, List.getElem?_cons_succ, List.set_cons_zero, List.set_cons_succ, List.replicate_succ, List.replicate_zero, List.filterMap_cons, List.filterMap_nil, Nat.reduceAdd, Nat.reduceSub, Nat.reduceLeDiff, and_self, if_true, decide_eq_true_eq, true_and, and_true, List.set_nil, List.length_set, Int.one_mul]
    exact mul64l (by decide)
  have it : itX (sq b xs) μ = .ok (xs.map .int) μ := by cases b <;> rfl
  refine (ev_of it).mpr ?_
  refine (ev_of (lc _ rfl)).mpr ?_
  rw [List.map_id']
  simp only [↓ev_out, ↓ev_sqM, ↓ev_foM, ↓ev_setM, ↓ev_asgM, ↓ev_putM, ↓ev_ifM, ↓ev_tvM, ↓ev_tnM, ↓ev_taM, ↓ev_toM, ↓ev_op2, ↓ev_gV, ↓ev_kM, ↓ev_rtM, ↓ev_exM, ↓ev_neM, ↓ev_notM, ↓ev_andM, ↓ev_orM, ↓ev_nxM, ↓ev_app, ↓ev_nil, ↓ev_cons, ↓ev_callF, ↓ev_callM, ↓ev_slM, ↓ev_ptM, ↓ev_asI, ↓ev_seM, ↓ev_itL, ↓ev_itT, ↓ev_mkT, ↓ev_mkL, ↓ev_lcM, ↓ev_dispM, ↓ev_lft, ↓thenK_nx, ↓thenK_rt, ↓thenK_bk, ↓thenK_ct, ↓tgK_s, ↓outK_rt, ↓outK_nx, ↓vK_s, ↓turnK_nx, ↓turnK_rt, ↓turnK_bk, ↓turnK_ct, ↓ev_asB, ↓ev_add, ↓ev_sub, ↓ev_mul, ↓ev_fdiv, ↓ev_mod, ↓ev_pow, ↓ev_neg, ↓ev_eqI, ↓ev_neI, ↓ev_lt, ↓ev_le, ↓ev_gt, ↓ev_ge, ↓ev_gcd, ↓ev_absI, ↓ev_maxI, ↓ev_minI, ↓ev_intI, ↓ev_intB, ↓ev_tupT, ↓ev_tupL, ↓ev_lstT, ↓ev_lstL, ↓ev_lenT, ↓ev_lenL, ↓ev_catL, ↓ev_catT, ↓ev_ixT, ↓ev_ixL, ↓ev_slT, ↓ev_slL, ↓ev_isN, ↓ev_isNotN, ↓ev_zipTT, ↓ev_enumT, ↓ev_enumL, ↓ev_eqS, startD, pick, setTg, setAll, wipeD, List.map_cons, List.map_nil, List.length_cons, List.length_nil, List.cons_append, List.nil_append, List.getElem?_cons_zero, List.getElem?_cons_succ, List.set_cons_zero, List.set_cons_succ, List.replicate_succ, List.replicate_zero, List.filterMap_cons, List.filterMap_nil, Nat.reduceAdd, Nat.reduceSub, Nat.reduceLeDiff, and_self, if_true, decide_eq_true_eq, true_and, and_true, List.set_nil, List.length_set, List.length_map, if_pos (show xs.length ≤ 1000000 by omega), Int.one_mul]
  refine ⟨mul64l (by decide), by omega, ?_⟩
  have e : List.map D.int xs ++ [D.int w] = List.map D.int (xs ++ [w]) := by simp
  rw [e]
  exact (ev_of (f21 (b := true) (by omega) (xs ++ [w]) μ h (by simp; omega))).mpr ⟨rfl, rfl⟩
theorem f25 {n : Nat} (hn : 2 ≤ n) (ps : List (List Int)) (b : List Int) (μ : Mu) (hb : Sm b) (hl : b.length ≤ 1000) (hp : ps.length ≤ 1000) : F n 25 [.tup (ps.map tp), tp b] μ = .ok (tp (ps.map fun p => sgn (dot p b))) μ := by
  obtain ⟨k, rfl⟩ : ∃ k, n = k + 1 := ⟨n - 1, by omega⟩
  rw [F, s25_eq]
  unfold s25
  refine ev_eq ?_
  simp only [↓ev_out, ↓ev_sqM, ↓ev_foM, ↓ev_setM, ↓ev_asgM, ↓ev_putM, ↓ev_ifM, ↓ev_tvM, ↓ev_tnM, ↓ev_taM, ↓ev_toM, ↓ev_op2, ↓ev_gV, ↓ev_kM, ↓ev_rtM, ↓ev_exM, ↓ev_neM, ↓ev_notM, ↓ev_andM, ↓ev_orM, ↓ev_nxM, ↓ev_app, ↓ev_nil, ↓ev_cons, ↓ev_callF, ↓ev_callM, ↓ev_slM, ↓ev_ptM, ↓ev_asI, ↓ev_seM, ↓ev_itL, ↓ev_itT, ↓ev_mkT, ↓ev_mkL, ↓ev_lcM, ↓ev_dispM, ↓ev_lft, ↓thenK_nx, ↓thenK_rt, ↓thenK_bk, ↓thenK_ct, ↓tgK_s, ↓outK_rt, ↓outK_nx, ↓vK_s, ↓turnK_nx, ↓turnK_rt, ↓turnK_bk, ↓turnK_ct, ↓ev_asB, ↓ev_add, ↓ev_sub, ↓ev_mul, ↓ev_fdiv, ↓ev_mod, ↓ev_pow, ↓ev_neg, ↓ev_eqI, ↓ev_neI, ↓ev_lt, ↓ev_le, ↓ev_gt, ↓ev_ge, ↓ev_gcd, ↓ev_absI, ↓ev_maxI, ↓ev_minI, ↓ev_intI, ↓ev_intB, ↓ev_tupT, ↓ev_tupL, ↓ev_lstT, ↓ev_lstL, ↓ev_lenT, ↓ev_lenL, ↓ev_catL, ↓ev_catT, ↓ev_ixT, ↓ev_ixL, ↓ev_slT, ↓ev_slL, ↓ev_isN, ↓ev_isNotN, ↓ev_zipTT, ↓ev_enumT, ↓ev_enumL, ↓ev_eqS, startD, pick, setTg, setAll, wipeD, List.map_cons, List.map_nil, List.length_cons, List.length_nil, List.cons_append, List.nil_append, List.getElem?_cons_zero, List.getElem?_cons_succ, List.set_cons_zero, List.set_cons_succ, List.replicate_succ, List.replicate_zero, List.filterMap_cons, List.filterMap_nil, Nat.reduceAdd, Nat.reduceSub, Nat.reduceLeDiff, and_self, if_true, decide_eq_true_eq, true_and, and_true, List.set_nil, List.length_set]
  let g : D → D := fun d => match d with
    | .tup ds => .int (sgn (dot (ds.map fun e => match e with | .int i => i | _ => 0) b))
    | d => d
  have lc : ∀ ρ : Rho, ρ = [some (.tup (ps.map tp)), some (tp b), none] → lcD (.v 2) (kM true) (callF (lev tab bis k 19) ⟨1, [], [0]⟩ 1 [callF (lev tab bis k 24) ⟨2, [], [0, 1]⟩ 2 [gV 2, gV 1] []] []) (ps.map tp) ρ μ = .ok ((ps.map tp).map g) μ := fun ρ e => by
    subst e
    refine lc_map g fun d hd => ?_
    obtain ⟨p, hp, rfl⟩ := List.mem_map.mp hd
    refine ⟨_, rfl, ?_⟩
    simp only [↓ev_out, ↓ev_sqM, ↓ev_foM, ↓ev_setM, ↓ev_asgM, ↓ev_putM, ↓ev_ifM, ↓ev_tvM, ↓ev_tnM, ↓ev_taM, ↓ev_toM, ↓ev_op2, ↓ev_gV, ↓ev_kM, ↓ev_rtM, ↓ev_exM, ↓ev_neM, ↓ev_notM, ↓ev_andM, ↓ev_orM, ↓ev_nxM, ↓ev_app, ↓ev_nil, ↓ev_cons, ↓ev_callF, ↓ev_callM, ↓ev_slM, ↓ev_ptM, ↓ev_asI, ↓ev_seM, ↓ev_itL, ↓ev_itT, ↓ev_mkT, ↓ev_mkL, ↓ev_lcM, ↓ev_dispM, ↓ev_lft, ↓thenK_nx, ↓thenK_rt, ↓thenK_bk, ↓thenK_ct, ↓tgK_s, ↓outK_rt, ↓outK_nx, ↓vK_s, ↓turnK_nx, ↓turnK_rt, ↓turnK_bk, ↓turnK_ct, ↓ev_asB, ↓ev_add, ↓ev_sub, ↓ev_mul, ↓ev_fdiv, ↓ev_mod, ↓ev_pow, ↓ev_neg, ↓ev_eqI, ↓ev_neI, ↓ev_lt, ↓ev_le, ↓ev_gt, ↓ev_ge, ↓ev_gcd, ↓ev_absI, ↓ev_maxI, ↓ev_minI, ↓ev_intI, ↓ev_intB, ↓ev_tupT, ↓ev_tupL, ↓ev_lstT, ↓ev_lstL, ↓ev_lenT, ↓ev_lenL, ↓ev_catL, ↓ev_catT, ↓ev_ixT, ↓ev_ixL, ↓ev_slT, ↓ev_slL, ↓ev_isN, ↓ev_isNotN, ↓ev_zipTT, ↓ev_enumT, ↓ev_enumL, ↓ev_eqS, startD, pick, setTg, setAll, wipeD, List.map_cons, List.map_nil, List.length_cons, List.length_nil, List.cons_append, List.nil_append, List.getElem?_cons_zero, List.getElem?_cons_succ, List.set_cons_zero, List.set_cons_succ, List.replicate_succ, List.replicate_zero, List.filterMap_cons, List.filterMap_nil, Nat.reduceAdd, Nat.reduceSub, Nat.reduceLeDiff, and_self, if_true, decide_eq_true_eq, true_and, and_true, List.set_nil, List.length_set]
    refine (ev_of (f24 (by omega) p b μ hb hl)).mpr ?_
    refine (ev_of (f19 (by omega) _ μ)).mpr ⟨?_, rfl⟩
    show D.int (sgn (dot p b)) = D.int (sgn (dot (List.map _ (p.map D.int)) b))
    rw [List.map_map]
    congr 3
    exact (List.map_id p).symm
  refine (ev_of (lc _ rfl)).mpr ?_
  simp only [List.length_map, if_pos (show ps.length ≤ 1000000 by omega), ↓ev_out, ↓ev_sqM, ↓ev_foM, ↓ev_setM, ↓ev_asgM, ↓ev_putM, ↓ev_ifM, ↓ev_tvM, ↓ev_tnM, ↓ev_taM, ↓ev_toM, ↓ev_op2, ↓ev_gV, ↓ev_kM, ↓ev_rtM, ↓ev_exM, ↓ev_neM, ↓ev_notM, ↓ev_andM, ↓ev_orM, ↓ev_nxM, ↓ev_app, ↓ev_nil, ↓ev_cons, ↓ev_callF, ↓ev_callM, ↓ev_slM, ↓ev_ptM, ↓ev_asI, ↓ev_seM, ↓ev_itL, ↓ev_itT, ↓ev_mkT, ↓ev_mkL, ↓ev_lcM, ↓ev_dispM, ↓ev_lft, ↓thenK_nx, ↓thenK_rt, ↓thenK_bk, ↓thenK_ct, ↓tgK_s, ↓outK_rt, ↓outK_nx, ↓vK_s, ↓turnK_nx, ↓turnK_rt, ↓turnK_bk, ↓turnK_ct, ↓ev_asB, ↓ev_add, ↓ev_sub, ↓ev_mul, ↓ev_fdiv, ↓ev_mod, ↓ev_pow, ↓ev_neg, ↓ev_eqI, ↓ev_neI, ↓ev_lt, ↓ev_le, ↓ev_gt, ↓ev_ge, ↓ev_gcd, ↓ev_absI, ↓ev_maxI, ↓ev_minI, ↓ev_intI, ↓ev_intB, ↓ev_tupT, ↓ev_tupL, ↓ev_lstT, ↓ev_lstL, ↓ev_lenT, ↓ev_lenL, ↓ev_catL, ↓ev_catT, ↓ev_ixT, ↓ev_ixL, ↓ev_slT, ↓ev_slL, ↓ev_isN, ↓ev_isNotN, ↓ev_zipTT, ↓ev_enumT, ↓ev_enumL, ↓ev_eqS, startD, pick, setTg, setAll, wipeD, List.map_cons, List.map_nil, List.length_cons, List.length_nil, List.cons_append, List.nil_append, List.getElem?_cons_zero, List.getElem?_cons_succ, List.set_cons_zero, List.set_cons_succ, List.replicate_succ, List.replicate_zero, List.filterMap_cons, List.filterMap_nil, Nat.reduceAdd, Nat.reduceSub, Nat.reduceLeDiff, and_self, if_true, decide_eq_true_eq, true_and, and_true, List.set_nil, List.length_set]
  show D.tup _ = D.tup (List.map D.int (List.map _ ps))
  rw [List.map_map, List.map_map]
  congr 1
  refine List.map_congr_left fun p hp => ?_
  show D.int (sgn (dot (List.map _ (p.map D.int)) b)) = D.int (sgn (dot p b))
  rw [List.map_map]
  congr 3
  exact List.map_id p
/-- the first place with something else than 0 -/
def spots (k : Nat) : List Int → List Int
  | [] => []
  | x :: r => if x ≠ 0 then (k : Int) :: spots (k + 1) r else spots (k + 1) r
theorem spots_find : ∀ (xs : List Int) (k : Nat), (xs.find? nz = none ∧ spots k xs = []) ∨ ∃ x j r, xs.find? nz = some x ∧ spots k xs = ((k + j : Nat) : Int) :: r ∧ xs[j]? = some x ∧ x ≠ 0
  | [], k => .inl ⟨rfl, rfl⟩
  | x :: xs, k => by
    by_cases h : x = 0
    · have e1 : (x :: xs).find? nz = xs.find? nz := by rw [List.find?_cons]; simp [nz, h]
      have e2 : spots k (x :: xs) = spots (k + 1) xs := by show (if x ≠ 0 then _ else _) = _; rw [if_neg (by simpa using h)]
      rcases spots_find xs (k + 1) with ⟨a, b⟩ | ⟨y, j, r, a, b, c, d⟩
      · exact .inl ⟨by rw [e1, a], by rw [e2, b]⟩
      · exact .inr ⟨y, j + 1, r, by rw [e1, a], by rw [e2, b]; congr 2; omega, by simpa using c, d⟩
    · refine .inr ⟨x, 0, spots (k + 1) xs, by rw [List.find?_cons]; simp [nz, h], ?_, rfl, h⟩
      show (if x ≠ 0 then _ else _) = _
      rw [if_pos h]
      rfl
theorem low_sign {ns : List Int} {j : Nat} {x : Int} (h : ns[j]? = some x) (hx : x ≠ 0) : ∃ y, (lowL ns)[j]? = some y ∧ (0 < y ↔ 0 < x) := by
  obtain ⟨g, hg, e⟩ := lowL_scale ns
  rw [e, List.getElem?_map] at h
  obtain ⟨y, h1, h2⟩ := Option.map_eq_some_iff.mp h
  refine ⟨y, h1, ?_⟩
  rw [← h2]
  constructor
  · exact fun hy => Int.mul_pos hg hy
  · exact fun hy => by
      rcases Int.lt_trichotomy y 0 with z | z | z
      · have := Int.mul_neg_of_pos_of_neg hg z; omega
      · rw [z] at hy; simp at hy
      · exact z
theorem lc_spots {me : Rho → M D} {μ : Mu} {d0 : D} : ∀ (xs : List Int) (k : Nat) (o1 o2 o3 : Option D),
    lcD (.t [3, 4]) (tvM (op2 (gV 4) (kM (.int 0)) neD)) (gV 3) (enumD (k : Int) (xs.map .int)) [some d0, o1, o2, none, none] μ = .ok ((spots k xs).map .int) μ
  | [], k, _, _, _ => rfl
  | x :: xs, k, o1, o2, o3 => by
    have ih := lc_spots (me := me) (μ := μ) (d0 := d0) xs (k + 1) o1 o2 o3
    have ek : ((k : Int) + 1) = ((k + 1 : Nat) : Int) := by omega
    refine ev_eq ?_
    show Ev (bd (lft (setTg (.t [3, 4]) (.tup [.int (k : Int), .int x]) [some d0, o1, o2, none, none])) (fun ρ1 => bd (tvM (op2 (gV 4) (kM (.int 0)) neD) ρ1) fun b => if b = true then bd (gV 3 ρ1) fun y => bd (lcD (.t [3, 4]) (tvM (op2 (gV 4) (kM (.int 0)) neD)) (gV 3) (enumD ((k : Int) + 1) (xs.map .int)) [some d0, o1, o2, none, none]) fun ys => rt (y :: ys) else lcD (.t [3, 4]) (tvM (op2 (gV 4) (kM (.int 0)) neD)) (gV 3) (enumD ((k : Int) + 1) (xs.map .int)) [some d0, o1, o2, none, none]) μ) _
    rw [ek]
    by_cases h : x = 0
    · subst h
      simp only [↓ev_bd, ↓ev_out, ↓ev_sqM, ↓ev_foM, ↓ev_setM, ↓ev_asgM, ↓ev_putM, ↓ev_ifM, ↓ev_tvM, ↓ev_tnM, ↓ev_taM, ↓ev_toM, ↓ev_op2, ↓ev_gV, ↓ev_kM, ↓ev_rtM, ↓ev_exM, ↓ev_neM, ↓ev_notM, ↓ev_andM, ↓ev_orM, ↓ev_nxM, ↓ev_app, ↓ev_nil, ↓ev_cons, ↓ev_callF, ↓ev_callM, ↓ev_slM, ↓ev_ptM, ↓ev_asI, ↓ev_seM, ↓ev_itL, ↓ev_itT, ↓ev_mkT, ↓ev_mkL, ↓ev_lcM, ↓ev_dispM, ↓ev_lft, ↓thenK_nx, ↓thenK_rt, ↓thenK_bk, ↓thenK_ct, ↓tgK_s, ↓outK_rt, ↓outK_nx, ↓vK_s, ↓turnK_nx, ↓turnK_rt, ↓turnK_bk, ↓turnK_ct, ↓ev_asB, ↓ev_add, ↓ev_sub, ↓ev_mul, ↓ev_fdiv, ↓ev_mod, ↓ev_pow, ↓ev_neg, ↓ev_eqI, ↓ev_neI, ↓ev_lt, ↓ev_le, ↓ev_gt, ↓ev_ge, ↓ev_gcd, ↓ev_absI, ↓ev_maxI, ↓ev_minI, ↓ev_intI, ↓ev_intB, ↓ev_tupT, ↓ev_tupL, ↓ev_lstT, ↓ev_lstL, ↓ev_lenT, ↓ev_lenL, ↓ev_catL, ↓ev_catT, ↓ev_ixT, ↓ev_ixL, ↓ev_slT, ↓ev_slL, ↓ev_isN, ↓ev_isNotN, ↓ev_zipTT, ↓ev_enumT, ↓ev_enumL, ↓ev_eqS, startD, pick, setTg, setAll, wipeD, List.map_cons, List.map_nil, List.length_cons, List.length_nil, List.cons_append, List.nil_append, List.getElem?_cons_zero, List.getElem?_cons_succ, List.set_cons_zero, List.set_cons_succ, List.replicate_succ, List.replicate_zero, List.filterMap_cons, List.filterMap_nil, Nat.reduceAdd, Nat.reduceSub, Nat.reduceLeDiff, and_self, if_true, decide_eq_true_eq, true_and, and_true, List.set_nil, List.length_set, decide_true, Bool.not_true, Bool.false_eq_true, if_false]
      exact (ev_of ih).mpr ⟨rfl, rfl⟩
    · have e2 : spots k (x :: xs) = (k : Int) :: spots (k + 1) xs := by show (if x ≠ 0 then _ else _) = _; rw [if_pos h]
      simp only [↓ev_bd, ↓ev_out, ↓ev_sqM, ↓ev_foM, ↓ev_setM, ↓ev_asgM, ↓ev_putM, ↓ev_ifM, ↓ev_tvM, ↓ev_tnM, ↓ev_taM, ↓ev_toM, ↓ev_op2, ↓ev_gV, ↓ev_kM, ↓ev_rtM, ↓ev_exM, ↓ev_neM, ↓ev_notM, ↓ev_andM, ↓ev_orM, ↓ev_nxM, ↓ev_app, ↓ev_nil, ↓ev_cons, ↓ev_callF, ↓ev_callM, ↓ev_slM, ↓ev_ptM, ↓ev_asI, ↓ev_seM, ↓ev_itL, ↓ev_itT, ↓ev_mkT, ↓ev_mkL, ↓ev_lcM, ↓ev_dispM, ↓ev_lft, ↓thenK_nx, ↓thenK_rt, ↓thenK_bk, ↓thenK_ct, ↓tgK_s, ↓outK_rt, ↓outK_nx, ↓vK_s, ↓turnK_nx, ↓turnK_rt, ↓turnK_bk, ↓turnK_ct, ↓ev_asB, ↓ev_add, ↓ev_sub, ↓ev_mul, ↓ev_fdiv, ↓ev_mod, ↓ev_pow, ↓ev_neg, ↓ev_eqI, ↓ev_neI, ↓ev_lt, ↓ev_le, ↓ev_gt, ↓ev_ge, ↓ev_gcd, ↓ev_absI, ↓ev_maxI, ↓ev_minI, ↓ev_intI, ↓ev_intB, ↓ev_tupT, ↓ev_tupL, ↓ev_lstT, ↓ev_lstL, ↓ev_lenT, ↓ev_lenL, ↓ev_catL, ↓ev_catT, ↓ev_ixT, ↓ev_ixL, ↓ev_slT, ↓ev_slL, ↓ev_isN, ↓ev_isNotN, ↓ev_zipTT, ↓ev_enumT, ↓ev_enumL, ↓ev_eqS, startD, pick, setTg, setAll, wipeD, List.map_cons, List.map_nil, List.length_cons, List.length_nil, List.cons_append, List.nil_append, List.getElem?_cons_zero, List.getElem?_cons_succ, List.set_cons_zero, List.set_cons_succ, List.replicate_succ, List.replicate_zero, List.filterMap_cons, List.filterMap_nil, Nat.reduceAdd, Nat.reduceSub, Nat.reduceLeDiff, and_self, if_true, decide_eq_true_eq, true_and, and_true, List.set_nil, List.length_set, h, decide_false, Bool.not_false, if_true]
      refine (ev_of ih).mpr ?_
      rw [e2]
      exact ⟨rfl, rfl⟩
theorem spots_len : ∀ (xs : List Int) (k : Nat), (spots k xs).length ≤ xs.length
  | [], _ => Nat.le_refl _
  | x :: xs, k => by
    have := spots_len xs (k + 1)
    unfold spots
    split
    · simpa using this
    · simp; omega
theorem f26 {n : Nat} (hn : 3 ≤ n) (ns : List Int) (μ : Mu) (hb : ∀ x ∈ ns, x.natAbs < BB) (hl : ns.length ≤ 1000) : F n 26 [tp ns] μ = .ok (planeD ns) μ := by
  obtain ⟨k, rfl⟩ : ∃ k, n = k + 1 := ⟨n - 1, by omega⟩
  rw [F, s26_eq]
  unfold s26
  refine ev_eq ?_
  simp only [↓ev_out, ↓ev_sqM, ↓ev_foM, ↓ev_setM, ↓ev_asgM, ↓ev_putM, ↓ev_ifM, ↓ev_tvM, ↓ev_tnM, ↓ev_taM, ↓ev_toM, ↓ev_op2, ↓ev_gV, ↓ev_kM, ↓ev_rtM, ↓ev_exM, ↓ev_neM, ↓ev_notM, ↓ev_andM, ↓ev_orM, ↓ev_nxM, ↓ev_app, ↓ev_nil, ↓ev_cons, ↓ev_callF, ↓ev_callM, ↓ev_slM, ↓ev_ptM, ↓ev_asI, ↓ev_seM, ↓ev_itL, ↓ev_itT, ↓ev_mkT, ↓ev_mkL, ↓ev_lcM, ↓ev_dispM, ↓ev_lft, ↓thenK_nx, ↓thenK_rt, ↓thenK_bk, ↓thenK_ct, ↓tgK_s, ↓outK_rt, ↓outK_nx, ↓vK_s, ↓turnK_nx, ↓turnK_rt, ↓turnK_bk, ↓turnK_ct, ↓ev_asB, ↓ev_add, ↓ev_sub, ↓ev_mul, ↓ev_fdiv, ↓ev_mod, ↓ev_pow, ↓ev_neg, ↓ev_eqI, ↓ev_neI, ↓ev_lt, ↓ev_le, ↓ev_gt, ↓ev_ge, ↓ev_gcd, ↓ev_absI, ↓ev_maxI, ↓ev_minI, ↓ev_intI, ↓ev_intB, ↓ev_tupT, ↓ev_tupL, ↓ev_lstT, ↓ev_lstL, ↓ev_lenT, ↓ev_lenL, ↓ev_catL, ↓ev_catT, ↓ev_ixT, ↓ev_ixL, ↓ev_slT, ↓ev_slL, ↓ev_isN, ↓ev_isNotN, ↓ev_zipTT, ↓ev_enumT, ↓ev_enumL, ↓ev_eqS, startD, pick, setTg, setAll, wipeD, List.map_cons, List.map_nil, List.length_cons, List.length_nil, List.cons_append, List.nil_append, List.getElem?_cons_zero, List.getElem?_cons_succ, List.set_cons_zero, List.set_cons_succ, List.replicate_succ, List.replicate_zero, List.filterMap_cons, List.filterMap_nil, Nat.reduceAdd, Nat.reduceSub, Nat.reduceLeDiff, and_self, if_true, decide_eq_true_eq, true_and, and_true, List.set_nil, List.length_set, cut_init]
  rw [show (List.map D.int ns).dropLast = List.map D.int ns.dropLast by rw [List.map_dropLast]]
  refine (ev_of (lc_spots (me := gV 3) ns.dropLast 0 none none none)).mpr ?_
  have ls : (List.map D.int (spots 0 ns.dropLast)).length ≤ 1000000 := by
    have := spots_len ns.dropLast 0
    rw [List.length_map]
    simp at this ⊢
    omega
  simp only [↓ev_out, ↓ev_sqM, ↓ev_foM, ↓ev_setM, ↓ev_asgM, ↓ev_putM, ↓ev_ifM, ↓ev_tvM, ↓ev_tnM, ↓ev_taM, ↓ev_toM, ↓ev_op2, ↓ev_gV, ↓ev_kM, ↓ev_rtM, ↓ev_exM, ↓ev_neM, ↓ev_notM, ↓ev_andM, ↓ev_orM, ↓ev_nxM, ↓ev_app, ↓ev_nil, ↓ev_cons, ↓ev_callF, ↓ev_callM, ↓ev_slM, ↓ev_ptM, ↓ev_asI, ↓ev_seM, ↓ev_itL, ↓ev_itT, ↓ev_mkT, ↓ev_mkL, ↓ev_lcM, ↓ev_dispM, ↓ev_lft, ↓thenK_nx, ↓thenK_rt, ↓thenK_bk, ↓thenK_ct, ↓tgK_s, ↓outK_rt, ↓outK_nx, ↓vK_s, ↓turnK_nx, ↓turnK_rt, ↓turnK_bk, ↓turnK_ct, ↓ev_asB, ↓ev_add, ↓ev_sub, ↓ev_mul, ↓ev_fdiv, ↓ev_mod, ↓ev_pow, ↓ev_neg, ↓ev_eqI, ↓ev_neI, ↓ev_lt, ↓ev_le, ↓ev_gt, ↓ev_ge, ↓ev_gcd, ↓ev_absI, ↓ev_maxI, ↓ev_minI, ↓ev_intI, ↓ev_intB, ↓ev_tupT, ↓ev_tupL, ↓ev_lstT, ↓ev_lstL, ↓ev_lenT, ↓ev_lenL, ↓ev_catL, ↓ev_catT, ↓ev_ixT, ↓ev_ixL, ↓ev_slT, ↓ev_slL, ↓ev_isN, ↓ev_isNotN, ↓ev_zipTT, ↓ev_enumT, ↓ev_enumL, ↓ev_eqS, startD, pick, setTg, setAll, wipeD, List.map_cons, List.map_nil, List.length_cons, List.length_nil, List.cons_append, List.nil_append, List.getElem?_cons_zero, List.getElem?_cons_succ, List.set_cons_zero, List.set_cons_succ, List.replicate_succ, List.replicate_zero, List.filterMap_cons, List.filterMap_nil, Nat.reduceAdd, Nat.reduceSub, Nat.reduceLeDiff, and_self, if_true, decide_eq_true_eq, true_and, and_true, List.set_nil, List.length_set, if_pos ls, if_pos (show 0 ≤ 1000000 by decide)]
  refine (ev_eqE (shp_mono 8 (show shp 1 (.lst ((spots 0 ns.dropLast).map .int)) from shp_ints _) (by decide))).mpr ?_
  rcases spots_find ns.dropLast 0 with ⟨h1, h2⟩ | ⟨x, j, r, h1, h2, h3, h4⟩
  · rw [h2]
    simp only [↓ev_out, ↓ev_sqM, ↓ev_foM, ↓ev_setM, ↓ev_asgM, ↓ev_putM, ↓ev_ifM, ↓ev_tvM, ↓ev_tnM, ↓ev_taM, ↓ev_toM, ↓ev_op2, ↓ev_gV, ↓ev_kM, ↓ev_rtM, ↓ev_exM, ↓ev_neM, ↓ev_notM, ↓ev_andM, ↓ev_orM, ↓ev_nxM, ↓ev_app, ↓ev_nil, ↓ev_cons, ↓ev_callF, ↓ev_callM, ↓ev_slM, ↓ev_ptM, ↓ev_asI, ↓ev_seM, ↓ev_itL, ↓ev_itT, ↓ev_mkT, ↓ev_mkL, ↓ev_lcM, ↓ev_dispM, ↓ev_lft, ↓thenK_nx, ↓thenK_rt, ↓thenK_bk, ↓thenK_ct, ↓tgK_s, ↓outK_rt, ↓outK_nx, ↓vK_s, ↓turnK_nx, ↓turnK_rt, ↓turnK_bk, ↓turnK_ct, ↓ev_asB, ↓ev_add, ↓ev_sub, ↓ev_mul, ↓ev_fdiv, ↓ev_mod, ↓ev_pow, ↓ev_neg, ↓ev_eqI, ↓ev_neI, ↓ev_lt, ↓ev_le, ↓ev_gt, ↓ev_ge, ↓ev_gcd, ↓ev_absI, ↓ev_maxI, ↓ev_minI, ↓ev_intI, ↓ev_intB, ↓ev_tupT, ↓ev_tupL, ↓ev_lstT, ↓ev_lstL, ↓ev_lenT, ↓ev_lenL, ↓ev_catL, ↓ev_catT, ↓ev_ixT, ↓ev_ixL, ↓ev_slT, ↓ev_slL, ↓ev_isN, ↓ev_isNotN, ↓ev_zipTT, ↓ev_enumT, ↓ev_enumL, ↓ev_eqS, startD, pick, setTg, setAll, wipeD, List.map_cons, List.map_nil, List.length_cons, List.length_nil, List.cons_append, List.nil_append, List.getElem?_cons_zero, List.getElem?_cons_succ, List.set_cons_zero, List.set_cons_succ, List.replicate_succ, List.replicate_zero, List.filterMap_cons, List.filterMap_nil, Nat.reduceAdd, Nat.reduceSub, Nat.reduceLeDiff, and_self, if_true, decide_eq_true_eq, true_and, and_true, List.set_nil, List.length_set, List.isEmpty_nil, if_true]
    unfold planeD
    rw [h1]
  · rw [h2]
    have hj : ns[j]? = some x := by
      rw [List.dropLast_eq_take, List.getElem?_take] at h3
      split at h3
      · exact h3
      · cases h3
    obtain ⟨y, h5, h6⟩ := low_sign hj h4
    simp only [↓ev_out, ↓ev_sqM, ↓ev_foM, ↓ev_setM, ↓ev_asgM, ↓ev_putM, ↓ev_ifM, ↓ev_tvM, ↓ev_tnM, ↓ev_taM, ↓ev_toM, ↓ev_op2, ↓ev_gV, ↓ev_kM, ↓ev_rtM, ↓ev_exM, ↓ev_neM, ↓ev_notM, ↓ev_andM, ↓ev_orM, ↓ev_nxM, ↓ev_app, ↓ev_nil, ↓ev_cons, ↓ev_callF, ↓ev_callM, ↓ev_slM, ↓ev_ptM, ↓ev_asI, ↓ev_seM, ↓ev_itL, ↓ev_itT, ↓ev_mkT, ↓ev_mkL, ↓ev_lcM, ↓ev_dispM, ↓ev_lft, ↓thenK_nx, ↓thenK_rt, ↓thenK_bk, ↓thenK_ct, ↓tgK_s, ↓outK_rt, ↓outK_nx, ↓vK_s, ↓turnK_nx, ↓turnK_rt, ↓turnK_bk, ↓turnK_ct, ↓ev_asB, ↓ev_add, ↓ev_sub, ↓ev_mul, ↓ev_fdiv, ↓ev_mod, ↓ev_pow, ↓ev_neg, ↓ev_eqI, ↓ev_neI, ↓ev_lt, ↓ev_le, ↓ev_gt, ↓ev_ge, ↓ev_gcd, ↓ev_absI, ↓ev_maxI, ↓ev_minI, ↓ev_intI, ↓ev_intB, ↓ev_tupT, ↓ev_tupL, ↓ev_lstT, ↓ev_lstL, ↓ev_lenT, ↓ev_lenL, ↓ev_catL, ↓ev_catT, ↓ev_ixT, ↓ev_ixL, ↓ev_slT, ↓ev_slL, ↓ev_isN, ↓ev_isNotN, ↓ev_zipTT, ↓ev_enumT, ↓ev_enumL, ↓ev_eqS, startD, pick, setTg, setAll, wipeD, List.map_cons, List.map_nil, List.length_cons, List.length_nil, List.cons_append, List.nil_append, List.getElem?_cons_zero, List.getElem?_cons_succ, List.set_cons_zero, List.set_cons_succ, List.replicate_succ, List.replicate_zero, List.filterMap_cons, List.filterMap_nil, Nat.reduceAdd, Nat.reduceSub, Nat.reduceLeDiff, and_self, if_true, decide_eq_true_eq, true_and, and_true, List.set_nil, List.length_set, List.isEmpty_cons, Bool.false_eq_true, if_false]
    refine (ev_of (f21 (b := false) (by omega) ns μ hb hl)).mpr ?_
    have e0 : atI (D.int ((0 + j : Nat) : Int) :: List.map D.int r) 0 = some (.int ((0 + j : Nat) : Int)) := at_nat (k := 0) rfl
    rw [e0]
    have e1 : atI (List.map D.int (lowL ns)) ((0 + j : Nat) : Int) = some (.int y) := at_nat (by rw [Nat.zero_add, List.getElem?_map, h5]; rfl)
    simp only [↓ev_out, ↓ev_sqM, ↓ev_foM, ↓ev_setM, ↓ev_asgM, ↓ev_putM, ↓ev_ifM, ↓ev_tvM, ↓ev_tnM, ↓ev_taM, ↓ev_toM, ↓ev_op2, ↓ev_gV, ↓ev_kM, ↓ev_rtM, ↓ev_exM, ↓ev_neM, ↓ev_notM, ↓ev_andM, ↓ev_orM, ↓ev_nxM, ↓ev_app, ↓ev_nil, ↓ev_cons, ↓ev_callF, ↓ev_callM, ↓ev_slM, ↓ev_ptM, ↓ev_asI, ↓ev_seM, ↓ev_itL, ↓ev_itT, ↓ev_mkT, ↓ev_mkL, ↓ev_lcM, ↓ev_dispM, ↓ev_lft, ↓thenK_nx, ↓thenK_rt, ↓thenK_bk, ↓thenK_ct, ↓tgK_s, ↓outK_rt, ↓outK_nx, ↓vK_s, ↓turnK_nx, ↓turnK_rt, ↓turnK_bk, ↓turnK_ct, ↓ev_asB, ↓ev_add, ↓ev_sub, ↓ev_mul, ↓ev_fdiv, ↓ev_mod, ↓ev_pow, ↓ev_neg, ↓ev_eqI, ↓ev_neI, ↓ev_lt, ↓ev_le, ↓ev_gt, ↓ev_ge, ↓ev_gcd, ↓ev_absI, ↓ev_maxI, ↓ev_minI, ↓ev_intI, ↓ev_intB, ↓ev_tupT, ↓ev_tupL, ↓ev_lstT, ↓ev_lstL, ↓ev_lenT, ↓ev_lenL, ↓ev_catL, ↓ev_catT, ↓ev_ixT, ↓ev_ixL, ↓ev_slT, ↓ev_slL, ↓ev_isN, ↓ev_isNotN, ↓ev_zipTT, ↓ev_enumT, ↓ev_enumL, ↓ev_eqS, startD, pick, setTg, setAll, wipeD, List.map_cons, List.map_nil, List.length_cons, List.length_nil, List.cons_append, List.nil_append, List.getElem?_cons_zero, List.getElem?_cons_succ, List.set_cons_zero, List.set_cons_succ, List.replicate_succ, List.replicate_zero, List.filterMap_cons, List.filterMap_nil, Nat.reduceAdd, Nat.reduceSub, Nat.reduceLeDiff, and_self, if_true, decide_eq_true_eq, true_and, and_true, List.set_nil, List.length_set]
    rw [e1]
    have ep : planeD ns = tp (planeL ns x) := by unfold planeD; rw [h1]
    rw [ep]
    unfold planeL
    by_cases hx : 0 < x
    · have hy := h6.mpr hx
      simp only [↓ev_out, ↓ev_sqM, ↓ev_foM, ↓ev_setM, ↓ev_asgM, ↓ev_putM, ↓ev_ifM, ↓ev_tvM, ↓ev_tnM, ↓ev_taM, ↓ev_toM, ↓ev_op2, ↓ev_gV, ↓ev_kM, ↓ev_rtM, ↓ev_exM, ↓ev_neM, ↓ev_notM, ↓ev_andM, ↓ev_orM, ↓ev_nxM, ↓ev_app, ↓ev_nil, ↓ev_cons, ↓ev_callF, ↓ev_callM, ↓ev_slM, ↓ev_ptM, ↓ev_asI, ↓ev_seM, ↓ev_itL, ↓ev_itT, ↓ev_mkT, ↓ev_mkL, ↓ev_lcM, ↓ev_dispM, ↓ev_lft, ↓thenK_nx, ↓thenK_rt, ↓thenK_bk, ↓thenK_ct, ↓tgK_s, ↓outK_rt, ↓outK_nx, ↓vK_s, ↓turnK_nx, ↓turnK_rt, ↓turnK_bk, ↓turnK_ct, ↓ev_asB, ↓ev_add, ↓ev_sub, ↓ev_mul, ↓ev_fdiv, ↓ev_mod, ↓ev_pow, ↓ev_neg, ↓ev_eqI, ↓ev_neI, ↓ev_lt, ↓ev_le, ↓ev_gt, ↓ev_ge, ↓ev_gcd, ↓ev_absI, ↓ev_maxI, ↓ev_minI, ↓ev_intI, ↓ev_intB, ↓ev_tupT, ↓ev_tupL, ↓ev_lstT, ↓ev_lstL, ↓ev_lenT, ↓ev_lenL, ↓ev_catL, ↓ev_catT, ↓ev_ixT, ↓ev_ixL, ↓ev_slT, ↓ev_slL, ↓ev_isN, ↓ev_isNotN, ↓ev_zipTT, ↓ev_enumT, ↓ev_enumL, ↓ev_eqS, startD, pick, setTg, setAll, wipeD, List.map_cons, List.map_nil, List.length_cons, List.length_nil, List.cons_append, List.nil_append, List.getElem?_cons_zero, List.getElem?_cons_succ, List.set_cons_zero, List.set_cons_succ, List.replicate_succ, List.replicate_zero, List.filterMap_cons, List.filterMap_nil, Nat.reduceAdd, Nat.reduceSub, Nat.reduceLeDiff, and_self, if_true, decide_eq_true_eq, true_and, and_true, List.set_nil, List.length_set, hy, hx, decide_true, if_true]
    · have hy : ¬ 0 < y := fun z => hx (h6.mp z)
      simp only [↓ev_out, ↓ev_sqM, ↓ev_foM, ↓ev_setM, ↓ev_asgM, ↓ev_putM, ↓ev_ifM, ↓ev_tvM, ↓ev_tnM, ↓ev_taM, ↓ev_toM, ↓ev_op2, ↓ev_gV, ↓ev_kM, ↓ev_rtM, ↓ev_exM, ↓ev_neM, ↓ev_notM, ↓ev_andM, ↓ev_orM, ↓ev_nxM, ↓ev_app, ↓ev_nil, ↓ev_cons, ↓ev_callF, ↓ev_callM, ↓ev_slM, ↓ev_ptM, ↓ev_asI, ↓ev_seM, ↓ev_itL, ↓ev_itT, ↓ev_mkT, ↓ev_mkL, ↓ev_lcM, ↓ev_dispM, ↓ev_lft, ↓thenK_nx, ↓thenK_rt, ↓thenK_bk, ↓thenK_ct, ↓tgK_s, ↓outK_rt, ↓outK_nx, ↓vK_s, ↓turnK_nx, ↓turnK_rt, ↓turnK_bk, ↓turnK_ct, ↓ev_asB, ↓ev_add, ↓ev_sub, ↓ev_mul, ↓ev_fdiv, ↓ev_mod, ↓ev_pow, ↓ev_neg, ↓ev_eqI, ↓ev_neI, ↓ev_lt, ↓ev_le, ↓ev_gt, ↓ev_ge, ↓ev_gcd, ↓ev_absI, ↓ev_maxI, ↓ev_minI, ↓ev_intI, ↓ev_intB, ↓ev_tupT, ↓ev_tupL, ↓ev_lstT, ↓ev_lstL, ↓ev_lenT, ↓ev_lenL, ↓ev_catL, ↓ev_catT, ↓ev_ixT, ↓ev_ixL, ↓ev_slT, ↓ev_slL, ↓ev_isN, ↓ev_isNotN, ↓ev_zipTT, ↓ev_enumT, ↓ev_enumL, ↓ev_eqS, startD, pick, setTg, setAll, wipeD, List.map_cons, List.map_nil, List.length_cons, List.length_nil, List.cons_append, List.nil_append, List.getElem?_cons_zero, List.getElem?_cons_succ, List.set_cons_zero, List.set_cons_succ, List.replicate_succ, List.replicate_zero, List.filterMap_cons, List.filterMap_nil, Nat.reduceAdd, Nat.reduceSub, Nat.reduceLeDiff, and_self, if_true, decide_eq_true_eq, true_and, and_true, List.set_nil, List.length_set, hy, hx, decide_false, Bool.false_eq_true, if_false]
      have lc : ∀ ρ : Rho, ρ = [some (tp ns), some (.lst (.int ((0 + j : Nat) : Int) :: r.map .int)), some (tp (lowL ns)), none, none] → lcD (.v 4) (kM true) (neM (gV 4)) ((lowL ns).map .int) ρ μ = .ok (((lowL ns).map fun y => -y).map .int) μ := fun ρ e => by
        subst e
        refine lc_intsI (fun y => -y) fun x hx => ?_
        simp only [↓ev_out, ↓ev_sqM, ↓ev_foM, ↓ev_setM, ↓ev_asgM, ↓ev_putM, ↓ev_ifM, ↓ev_tvM, ↓ev_tnM, ↓ev_taM, ↓ev_toM, ↓ev_op2, ↓ev_gV, ↓ev_kM, ↓ev_rtM, ↓ev_exM, ↓ev_neM, ↓ev_notM, ↓ev_andM, ↓ev_orM, ↓ev_nxM, ↓ev_app, ↓ev_nil, ↓ev_cons, ↓ev_callF, ↓ev_callM, ↓ev_slM, ↓ev_ptM, ↓ev_asI, ↓ev_seM, ↓ev_itL, ↓ev_itT, ↓ev_mkT, ↓ev_mkL, ↓ev_lcM, ↓ev_dispM, ↓ev_lft, ↓thenK_nx, ↓thenK_rt, ↓thenK_bk, ↓thenK_ct, ↓tgK_s, ↓outK_rt, ↓outK_nx, ↓vK_s, ↓turnK_nx, ↓turnK_rt, ↓turnK_bk, ↓turnK_ct, ↓ev_asB, ↓ev_add, ↓ev_sub, ↓ev_mul, ↓ev_fdiv, ↓ev_mod, ↓ev_pow, ↓ev_neg, ↓ev_eqI, ↓ev_neI, ↓ev_lt, ↓ev_le, ↓ev_gt, ↓ev_ge, ↓ev_gcd, ↓ev_absI, ↓ev_maxI, ↓ev_minI, ↓ev_intI, ↓ev_intB, ↓ev_tupT, ↓ev_tupL, ↓ev_lstT, ↓ev_lstL, ↓ev_lenT, ↓ev_lenL, ↓ev_catL, ↓ev_catT, ↓ev_ixT, ↓ev_ixL, ↓ev_slT, ↓ev_slL, ↓ev_isN, ↓ev_isNotN, ↓ev_zipTT, ↓ev_enumT, ↓ev_enumL, ↓ev_eqS, startD, pick, setTg, setAll, wipeD, List.map_cons, List.map_nil, List.length_cons, List.length_nil, List.cons_append, List.nil_append, List.getElem?_cons_zero, List.getElem?_cons_succ, List.set_cons_zero, List.set_cons_succ, List.replicate_succ, List.replicate_zero, List.filterMap_cons, List.filterMap_nil, Nat.reduceAdd, Nat.reduceSub, Nat.reduceLeDiff, and_self, if_true, decide_eq_true_eq, true_and, and_true, List.set_nil, List.length_set]
      refine (ev_of (lc _ rfl)).mpr ?_
      have ll := lowL_len ns
      simp only [List.length_map, if_pos (show (lowL ns).length ≤ 1000000 by omega), ↓ev_out, ↓ev_sqM, ↓ev_foM, ↓ev_setM, ↓ev_asgM, ↓ev_putM, ↓ev_ifM, ↓ev_tvM, ↓ev_tnM, ↓ev_taM, ↓ev_toM, ↓ev_op2, ↓ev_gV, ↓ev_kM, ↓ev_rtM, ↓ev_exM, ↓ev_neM, ↓ev_notM, ↓ev_andM, ↓ev_orM, ↓ev_nxM, ↓ev_app, ↓ev_nil, ↓ev_cons, ↓ev_callF, ↓ev_callM, ↓ev_slM, ↓ev_ptM, ↓ev_asI, ↓ev_seM, ↓ev_itL, ↓ev_itT, ↓ev_mkT, ↓ev_mkL, ↓ev_lcM, ↓ev_dispM, ↓ev_lft, ↓thenK_nx, ↓thenK_rt, ↓thenK_bk, ↓thenK_ct, ↓tgK_s, ↓outK_rt, ↓outK_nx, ↓vK_s, ↓turnK_nx, ↓turnK_rt, ↓turnK_bk, ↓turnK_ct, ↓ev_asB, ↓ev_add, ↓ev_sub, ↓ev_mul, ↓ev_fdiv, ↓ev_mod, ↓ev_pow, ↓ev_neg, ↓ev_eqI, ↓ev_neI, ↓ev_lt, ↓ev_le, ↓ev_gt, ↓ev_ge, ↓ev_gcd, ↓ev_absI, ↓ev_maxI, ↓ev_minI, ↓ev_intI, ↓ev_intB, ↓ev_tupT, ↓ev_tupL, ↓ev_lstT, ↓ev_lstL, ↓ev_lenT, ↓ev_lenL, ↓ev_catL, ↓ev_catT, ↓ev_ixT, ↓ev_ixL, ↓ev_slT, ↓ev_slL, ↓ev_isN, ↓ev_isNotN, ↓ev_zipTT, ↓ev_enumT, ↓ev_enumL, ↓ev_eqS, startD, pick, setTg, setAll, wipeD, List.map_cons, List.map_nil, List.length_cons, List.length_nil, List.cons_append, List.nil_append, List.getElem?_cons_zero, List.getElem?_cons_succ, List.set_cons_zero, List.set_cons_succ, List.replicate_succ, List.replicate_zero, List.filterMap_cons, List.filterMap_nil, Nat.reduceAdd, Nat.reduceSub, Nat.reduceLeDiff, and_self, if_true, decide_eq_true_eq, true_and, and_true, List.set_nil, List.length_set]
end K03
namespace K03
open PySem L2 PX
theorem f31 (μ : Mu) : F 11 31 [] μ = .ok (.bl true) μ := by kernel_rfl
end K03
namespace K03
open PySem L2 PX
def CAP : Nat := 2 ^ 59
theorem CAP_lt {c : Nat} (h : c + 1 ≤ CAP) : c < 2 ^ 60 := by
  unfold CAP at h
  omega
theorem f17d {n : Nat} (hn : 1 ≤ n) {j c : Nat} {μ : Mu} {b : Int} (h : MAt j c μ) (hc : c + 1 ≤ CAP) (hb : 0 < b) (hb2 : b < 1000) : Ev (F n 17 [.ref j, .int b] μ) fun d μ' => ∃ r : Int, d = .int r ∧ 0 ≤ r ∧ r < b ∧ Sj j μ μ' ∧ MAt j (c + 1) μ' := by
  rw [f17 hn]
  exact draw_ok h (CAP_lt hc) hb (by omega)
/-- a row that is drawn -/
def RowP (dm : Nat) (ns : List Int) : Prop := ns.length = dm + 1 ∧ ∀ x ∈ ns, x.natAbs < 10 ^ 27
theorem f27 {n : Nat} (hn : 2 ≤ n) {j c dm : Nat} {μ : Mu} (h : MAt j c μ) (hd : dm ≤ 4) (hc : c + 6 ≤ CAP) : Ev (F n 27 [.ref j, .int (dm : Int)] μ) fun d μ' => ∃ ns, d = tp ns ∧ RowP dm ns ∧ Sj j μ μ' ∧ MAt j (c + 6) μ' := by
  obtain ⟨k, rfl⟩ : ∃ k, n = k + 1 := ⟨n - 1, by omega⟩
  rw [F, s27_eq]
  unfold s27
  simp only [↓ev_out, ↓ev_sqM, ↓ev_foM, ↓ev_setM, ↓ev_asgM, ↓ev_putM, ↓ev_ifM, ↓ev_tvM, ↓ev_tnM, ↓ev_taM, ↓ev_toM, ↓ev_op2, ↓ev_gV, ↓ev_kM, ↓ev_rtM, ↓ev_exM, ↓ev_neM, ↓ev_notM, ↓ev_andM, ↓ev_orM, ↓ev_nxM, ↓ev_app, ↓ev_nil, ↓ev_cons, ↓ev_callF, ↓ev_callM, ↓ev_slM, ↓ev_ptM, ↓ev_asI, ↓ev_seM, ↓ev_itL, ↓ev_itT, ↓ev_mkT, ↓ev_mkL, ↓ev_lcM, ↓ev_dispM, ↓ev_lft, ↓thenK_nx, ↓thenK_rt, ↓thenK_bk, ↓thenK_ct, ↓tgK_s, ↓outK_rt, ↓outK_nx, ↓vK_s, ↓turnK_nx, ↓turnK_rt, ↓turnK_bk, ↓turnK_ct, ↓ev_asB, ↓ev_add, ↓ev_sub, ↓ev_mul, ↓ev_fdiv, ↓ev_mod, ↓ev_pow, ↓ev_neg, ↓ev_eqI, ↓ev_neI, ↓ev_lt, ↓ev_le, ↓ev_gt, ↓ev_ge, ↓ev_gcd, ↓ev_absI, ↓ev_maxI, ↓ev_minI, ↓ev_intI, ↓ev_intB, ↓ev_tupT, ↓ev_tupL, ↓ev_lstT, ↓ev_lstL, ↓ev_lenT, ↓ev_lenL, ↓ev_catL, ↓ev_catT, ↓ev_ixT, ↓ev_ixL, ↓ev_slT, ↓ev_slL, ↓ev_isN, ↓ev_isNotN, ↓ev_zipTT, ↓ev_enumT, ↓ev_enumL, ↓ev_eqS, startD, pick, setTg, setAll, wipeD, List.map_cons, List.map_nil, List.length_cons, List.length_nil, List.cons_append, List.nil_append, List.getElem?_cons_zero, List.getElem?_cons_succ, List.set_cons_zero, List.set_cons_succ, List.replicate_succ, List.replicate_zero, List.filterMap_cons, List.filterMap_nil, Nat.reduceAdd, Nat.reduceSub, Nat.reduceLeDiff, and_self, if_true, decide_eq_true_eq, true_and, and_true, List.set_nil, List.length_set]
  have e1 : (dm : Int) + 1 = ((dm + 1 : Nat) : Int) := by omega
  rw [e1, rng1_ok (show dm + 1 ≤ 1000000 by omega)]
  have lr := rngD_length 0 (dm + 1)
  refine ev_imp (lc_st (N := 1) (cap := CAP) (Q := fun y => ∃ n : Int, y = .int n ∧ n.natAbs ≤ 4) (rngD 0 (dm + 1)) (fun d hd c' μ1 hc' m => ?_) c μ (by rw [rngD_length]; omega) h) ?_
  · simp only [↓ev_out, ↓ev_sqM, ↓ev_foM, ↓ev_setM, ↓ev_asgM, ↓ev_putM, ↓ev_ifM, ↓ev_tvM, ↓ev_tnM, ↓ev_taM, ↓ev_toM, ↓ev_op2, ↓ev_gV, ↓ev_kM, ↓ev_rtM, ↓ev_exM, ↓ev_neM, ↓ev_notM, ↓ev_andM, ↓ev_orM, ↓ev_nxM, ↓ev_app, ↓ev_nil, ↓ev_cons, ↓ev_callF, ↓ev_callM, ↓ev_slM, ↓ev_ptM, ↓ev_asI, ↓ev_seM, ↓ev_itL, ↓ev_itT, ↓ev_mkT, ↓ev_mkL, ↓ev_lcM, ↓ev_dispM, ↓ev_lft, ↓thenK_nx, ↓thenK_rt, ↓thenK_bk, ↓thenK_ct, ↓tgK_s, ↓outK_rt, ↓outK_nx, ↓vK_s, ↓turnK_nx, ↓turnK_rt, ↓turnK_bk, ↓turnK_ct, ↓ev_asB, ↓ev_add, ↓ev_sub, ↓ev_mul, ↓ev_fdiv, ↓ev_mod, ↓ev_pow, ↓ev_neg, ↓ev_eqI, ↓ev_neI, ↓ev_lt, ↓ev_le, ↓ev_gt, ↓ev_ge, ↓ev_gcd, ↓ev_absI, ↓ev_maxI, ↓ev_minI, ↓ev_intI, ↓ev_intB, ↓ev_tupT, ↓ev_tupL, ↓ev_lstT, ↓ev_lstL, ↓ev_lenT, ↓ev_lenL, ↓ev_catL, ↓ev_catT, ↓ev_ixT, ↓ev_ixL, ↓ev_slT, ↓ev_slL, ↓ev_isN, ↓ev_isNotN, ↓ev_zipTT, ↓ev_enumT, ↓ev_enumL, ↓ev_eqS, startD, pick, setTg, setAll, wipeD, List.map_cons, List.map_nil, List.length_cons, List.length_nil, List.cons_append, List.nil_append, List.getElem?_cons_zero, List.getElem?_cons_succ, List.set_cons_zero, List.set_cons_succ, List.replicate_succ, List.replicate_zero, List.filterMap_cons, List.filterMap_nil, Nat.reduceAdd, Nat.reduceSub, Nat.reduceLeDiff, and_self, if_true, decide_eq_true_eq, true_and, and_true, List.set_nil, List.length_set]
    refine ev_imp (f17d (by omega) m hc' (by decide) (by decide)) ?_
    rintro _ μ2 ⟨r, rfl, r0, r1, s1, m1⟩
    simp only [↓ev_out, ↓ev_sqM, ↓ev_foM, ↓ev_setM, ↓ev_asgM, ↓ev_putM, ↓ev_ifM, ↓ev_tvM, ↓ev_tnM, ↓ev_taM, ↓ev_toM, ↓ev_op2, ↓ev_gV, ↓ev_kM, ↓ev_rtM, ↓ev_exM, ↓ev_neM, ↓ev_notM, ↓ev_andM, ↓ev_orM, ↓ev_nxM, ↓ev_app, ↓ev_nil, ↓ev_cons, ↓ev_callF, ↓ev_callM, ↓ev_slM, ↓ev_ptM, ↓ev_asI, ↓ev_seM, ↓ev_itL, ↓ev_itT, ↓ev_mkT, ↓ev_mkL, ↓ev_lcM, ↓ev_dispM, ↓ev_lft, ↓thenK_nx, ↓thenK_rt, ↓thenK_bk, ↓thenK_ct, ↓tgK_s, ↓outK_rt, ↓outK_nx, ↓vK_s, ↓turnK_nx, ↓turnK_rt, ↓turnK_bk, ↓turnK_ct, ↓ev_asB, ↓ev_add, ↓ev_sub, ↓ev_mul, ↓ev_fdiv, ↓ev_mod, ↓ev_pow, ↓ev_neg, ↓ev_eqI, ↓ev_neI, ↓ev_lt, ↓ev_le, ↓ev_gt, ↓ev_ge, ↓ev_gcd, ↓ev_absI, ↓ev_maxI, ↓ev_minI, ↓ev_intI, ↓ev_intB, ↓ev_tupT, ↓ev_tupL, ↓ev_lstT, ↓ev_lstL, ↓ev_lenT, ↓ev_lenL, ↓ev_catL, ↓ev_catT, ↓ev_ixT, ↓ev_ixL, ↓ev_slT, ↓ev_slL, ↓ev_isN, ↓ev_isNotN, ↓ev_zipTT, ↓ev_enumT, ↓ev_enumL, ↓ev_eqS, startD, pick, setTg, setAll, wipeD, List.map_cons, List.map_nil, List.length_cons, List.length_nil, List.cons_append, List.nil_append, List.getElem?_cons_zero, List.getElem?_cons_succ, List.set_cons_zero, List.set_cons_succ, List.replicate_succ, List.replicate_zero, List.filterMap_cons, List.filterMap_nil, Nat.reduceAdd, Nat.reduceSub, Nat.reduceLeDiff, and_self, if_true, decide_eq_true_eq, true_and, and_true, List.set_nil, List.length_set]
    exact ⟨⟨_, rfl, by omega⟩, s1, m1⟩
  rintro ys μ1 ⟨q1, q2, s1, m1⟩
  obtain ⟨ns, rfl, q3⟩ := ints_of q2
  rw [lr] at q1 m1
  have ln : ns.length = dm + 1 := by rw [← q1, List.length_map]
  simp only [↓ev_out, ↓ev_sqM, ↓ev_foM, ↓ev_setM, ↓ev_asgM, ↓ev_putM, ↓ev_ifM, ↓ev_tvM, ↓ev_tnM, ↓ev_taM, ↓ev_toM, ↓ev_op2, ↓ev_gV, ↓ev_kM, ↓ev_rtM, ↓ev_exM, ↓ev_neM, ↓ev_notM, ↓ev_andM, ↓ev_orM, ↓ev_nxM, ↓ev_app, ↓ev_nil, ↓ev_cons, ↓ev_callF, ↓ev_callM, ↓ev_slM, ↓ev_ptM, ↓ev_asI, ↓ev_seM, ↓ev_itL, ↓ev_itT, ↓ev_mkT, ↓ev_mkL, ↓ev_lcM, ↓ev_dispM, ↓ev_lft, ↓thenK_nx, ↓thenK_rt, ↓thenK_bk, ↓thenK_ct, ↓tgK_s, ↓outK_rt, ↓outK_nx, ↓vK_s, ↓turnK_nx, ↓turnK_rt, ↓turnK_bk, ↓turnK_ct, ↓ev_asB, ↓ev_add, ↓ev_sub, ↓ev_mul, ↓ev_fdiv, ↓ev_mod, ↓ev_pow, ↓ev_neg, ↓ev_eqI, ↓ev_neI, ↓ev_lt, ↓ev_le, ↓ev_gt, ↓ev_ge, ↓ev_gcd, ↓ev_absI, ↓ev_maxI, ↓ev_minI, ↓ev_intI, ↓ev_intB, ↓ev_tupT, ↓ev_tupL, ↓ev_lstT, ↓ev_lstL, ↓ev_lenT, ↓ev_lenL, ↓ev_catL, ↓ev_catT, ↓ev_ixT, ↓ev_ixL, ↓ev_slT, ↓ev_slL, ↓ev_isN, ↓ev_isNotN, ↓ev_zipTT, ↓ev_enumT, ↓ev_enumL, ↓ev_eqS, startD, pick, setTg, setAll, wipeD, List.map_cons, List.map_nil, List.length_cons, List.length_nil, List.cons_append, List.nil_append, List.getElem?_cons_zero, List.getElem?_cons_succ, List.set_cons_zero, List.set_cons_succ, List.replicate_succ, List.replicate_zero, List.filterMap_cons, List.filterMap_nil, Nat.reduceAdd, Nat.reduceSub, Nat.reduceLeDiff, and_self, if_true, decide_eq_true_eq, true_and, and_true, List.set_nil, List.length_set, if_pos (show (List.map D.int ns).length ≤ 1000000 by omega)]
  refine ev_imp (f17d (by omega) m1 (by omega) (by decide) (by decide)) ?_
  rintro _ μ2 ⟨r, rfl, r0, r1, s2, m2⟩
  have s12 := s1.trans s2
  have m6 : MAt j (c + 6) μ2 := m2.le (by omega)
  have last : ∀ (ms : List Int) (o : Option D), ms.length = dm + 1 → (∀ x ∈ ms, x.natAbs < 10 ^ 27) → Ev (sqM (rtM (appM tupF [gV 2])) nxM [some (.ref j), some (.int (dm : Int)), some (.lst (ms.map .int)), some (.int r), none, none] μ2) (outK fun d μ' => ∃ ns, d = tp ns ∧ RowP dm ns ∧ Sj j μ μ' ∧ MAt j (c + 6) μ') := fun ms o h1 h2 => by
    simp only [↓ev_out, ↓ev_sqM, ↓ev_foM, ↓ev_setM, ↓ev_asgM, ↓ev_putM, ↓ev_ifM, ↓ev_tvM, ↓ev_tnM, ↓ev_taM, ↓ev_toM, ↓ev_op2, ↓ev_gV, ↓ev_kM, ↓ev_rtM, ↓ev_exM, ↓ev_neM, ↓ev_notM, ↓ev_andM, ↓ev_orM, ↓ev_nxM, ↓ev_app, ↓ev_nil, ↓ev_cons, ↓ev_callF, ↓ev_callM, ↓ev_slM, ↓ev_ptM, ↓ev_asI, ↓ev_seM, ↓ev_itL, ↓ev_itT, ↓ev_mkT, ↓ev_mkL, ↓ev_lcM, ↓ev_dispM, ↓ev_lft, ↓thenK_nx, ↓thenK_rt, ↓thenK_bk, ↓thenK_ct, ↓tgK_s, ↓outK_rt, ↓outK_nx, ↓vK_s, ↓turnK_nx, ↓turnK_rt, ↓turnK_bk, ↓turnK_ct, ↓ev_asB, ↓ev_add, ↓ev_sub, ↓ev_mul, ↓ev_fdiv, ↓ev_mod, ↓ev_pow, ↓ev_neg, ↓ev_eqI, ↓ev_neI, ↓ev_lt, ↓ev_le, ↓ev_gt, ↓ev_ge, ↓ev_gcd, ↓ev_absI, ↓ev_maxI, ↓ev_minI, ↓ev_intI, ↓ev_intB, ↓ev_tupT, ↓ev_tupL, ↓ev_lstT, ↓ev_lstL, ↓ev_lenT, ↓ev_lenL, ↓ev_catL, ↓ev_catT, ↓ev_ixT, ↓ev_ixL, ↓ev_slT, ↓ev_slL, ↓ev_isN, ↓ev_isNotN, ↓ev_zipTT, ↓ev_enumT, ↓ev_enumL, ↓ev_eqS, startD, pick, setTg, setAll, wipeD, List.map_cons, List.map_nil, List.length_cons, List.length_nil, List.cons_append, List.nil_append, List.getElem?_cons_zero, List.getElem?_cons_succ, List.set_cons_zero, List.set_cons_succ, List.replicate_succ, List.replicate_zero, List.filterMap_cons, List.filterMap_nil, Nat.reduceAdd, Nat.reduceSub, Nat.reduceLeDiff, and_self, if_true, decide_eq_true_eq, true_and, and_true, List.set_nil, List.length_set]
    exact ⟨ms, rfl, ⟨h1, h2⟩, s12, m6⟩
  simp only [↓ev_out, ↓ev_sqM, ↓ev_foM, ↓ev_setM, ↓ev_asgM, ↓ev_putM, ↓ev_ifM, ↓ev_tvM, ↓ev_tnM, ↓ev_taM, ↓ev_toM, ↓ev_op2, ↓ev_gV, ↓ev_kM, ↓ev_rtM, ↓ev_exM, ↓ev_neM, ↓ev_notM, ↓ev_andM, ↓ev_orM, ↓ev_nxM, ↓ev_app, ↓ev_nil, ↓ev_cons, ↓ev_callF, ↓ev_callM, ↓ev_slM, ↓ev_ptM, ↓ev_asI, ↓ev_seM, ↓ev_itL, ↓ev_itT, ↓ev_mkT, ↓ev_mkL, ↓ev_lcM, ↓ev_dispM, ↓ev_lft, ↓thenK_nx, ↓thenK_rt, ↓thenK_bk, ↓thenK_ct, ↓tgK_s, ↓outK_rt, ↓outK_nx, ↓vK_s, ↓turnK_nx, ↓turnK_rt, ↓turnK_bk, ↓turnK_ct, ↓ev_asB, ↓ev_add, ↓ev_sub, ↓ev_mul, ↓ev_fdiv, ↓ev_mod, ↓ev_pow, ↓ev_neg, ↓ev_eqI, ↓ev_neI, ↓ev_lt, ↓ev_le, ↓ev_gt, ↓ev_ge, ↓ev_gcd, ↓ev_absI, ↓ev_maxI, ↓ev_minI, ↓ev_intI, ↓ev_intB, ↓ev_tupT, ↓ev_tupL, ↓ev_lstT, ↓ev_lstL, ↓ev_lenT, ↓ev_lenL, ↓ev_catL, ↓ev_catT, ↓ev_ixT, ↓ev_ixL, ↓ev_slT, ↓ev_slL, ↓ev_isN, ↓ev_isNotN, ↓ev_zipTT, ↓ev_enumT, ↓ev_enumL, ↓ev_eqS, startD, pick, setTg, setAll, wipeD, List.map_cons, List.map_nil, List.length_cons, List.length_nil, List.cons_append, List.nil_append, List.getElem?_cons_zero, List.getElem?_cons_succ, List.set_cons_zero, List.set_cons_succ, List.replicate_succ, List.replicate_zero, List.filterMap_cons, List.filterMap_nil, Nat.reduceAdd, Nat.reduceSub, Nat.reduceLeDiff, and_self, if_true, decide_eq_true_eq, true_and, and_true, List.set_nil, List.length_set]
  by_cases w0 : r = 0
  · subst w0
    simp only [↓ev_out, ↓ev_sqM, ↓ev_foM, ↓ev_setM, ↓ev_asgM, ↓ev_putM, ↓ev_ifM, ↓ev_tvM, ↓ev_tnM, ↓ev_taM, ↓ev_toM, ↓ev_op2, ↓ev_gV, ↓ev_kM, ↓ev_rtM, ↓ev_exM, ↓ev_neM, ↓ev_notM, ↓ev_andM, ↓ev_orM, ↓ev_nxM, ↓ev_app, ↓ev_nil, ↓ev_cons, ↓ev_callF, ↓ev_callM, ↓ev_slM, ↓ev_ptM, ↓ev_asI, ↓ev_seM, ↓ev_itL, ↓ev_itT, ↓ev_mkT, ↓ev_mkL, ↓ev_lcM, ↓ev_dispM, ↓ev_lft, ↓thenK_nx, ↓thenK_rt, ↓thenK_bk, ↓thenK_ct, ↓tgK_s, ↓outK_rt, ↓outK_nx, ↓vK_s, ↓turnK_nx, ↓turnK_rt, ↓turnK_bk, ↓turnK_ct, ↓ev_asB, ↓ev_add, ↓ev_sub, ↓ev_mul, ↓ev_fdiv, ↓ev_mod, ↓ev_pow, ↓ev_neg, ↓ev_eqI, ↓ev_neI, ↓ev_lt, ↓ev_le, ↓ev_gt, ↓ev_ge, ↓ev_gcd, ↓ev_absI, ↓ev_maxI, ↓ev_minI, ↓ev_intI, ↓ev_intB, ↓ev_tupT, ↓ev_tupL, ↓ev_lstT, ↓ev_lstL, ↓ev_lenT, ↓ev_lenL, ↓ev_catL, ↓ev_catT, ↓ev_ixT, ↓ev_ixL, ↓ev_slT, ↓ev_slL, ↓ev_isN, ↓ev_isNotN, ↓ev_zipTT, ↓ev_enumT, ↓ev_enumL, ↓ev_eqS, startD, pick, setTg, setAll, wipeD, List.map_cons, List.map_nil, List.length_cons, List.length_nil, List.cons_append, List.nil_append, List.getElem?_cons_zero, List.getElem?_cons_succ, List.set_cons_zero, List.set_cons_succ, List.replicate_succ, List.replicate_zero, List.filterMap_cons, List.filterMap_nil, Nat.reduceAdd, Nat.reduceSub, Nat.reduceLeDiff, and_self, if_true, decide_eq_true_eq, true_and, and_true, List.set_nil, List.length_set, decide_true, if_true]
    refine (mulL0 (by omega)).mpr ?_
    obtain ⟨as, a, rfl, la⟩ := split_last ln
    rw [show List.map D.int (as ++ [a]) = List.map D.int as ++ [D.int a] by simp, cut_last]
    simp only [↓ev_out, ↓ev_sqM, ↓ev_foM, ↓ev_setM, ↓ev_asgM, ↓ev_putM, ↓ev_ifM, ↓ev_tvM, ↓ev_tnM, ↓ev_taM, ↓ev_toM, ↓ev_op2, ↓ev_gV, ↓ev_kM, ↓ev_rtM, ↓ev_exM, ↓ev_neM, ↓ev_notM, ↓ev_andM, ↓ev_orM, ↓ev_nxM, ↓ev_app, ↓ev_nil, ↓ev_cons, ↓ev_callF, ↓ev_callM, ↓ev_slM, ↓ev_ptM, ↓ev_asI, ↓ev_seM, ↓ev_itL, ↓ev_itT, ↓ev_mkT, ↓ev_mkL, ↓ev_lcM, ↓ev_dispM, ↓ev_lft, ↓thenK_nx, ↓thenK_rt, ↓thenK_bk, ↓thenK_ct, ↓tgK_s, ↓outK_rt, ↓outK_nx, ↓vK_s, ↓turnK_nx, ↓turnK_rt, ↓turnK_bk, ↓turnK_ct, ↓ev_asB, ↓ev_add, ↓ev_sub, ↓ev_mul, ↓ev_fdiv, ↓ev_mod, ↓ev_pow, ↓ev_neg, ↓ev_eqI, ↓ev_neI, ↓ev_lt, ↓ev_le, ↓ev_gt, ↓ev_ge, ↓ev_gcd, ↓ev_absI, ↓ev_maxI, ↓ev_minI, ↓ev_intI, ↓ev_intB, ↓ev_tupT, ↓ev_tupL, ↓ev_lstT, ↓ev_lstL, ↓ev_lenT, ↓ev_lenL, ↓ev_catL, ↓ev_catT, ↓ev_ixT, ↓ev_ixL, ↓ev_slT, ↓ev_slL, ↓ev_isN, ↓ev_isNotN, ↓ev_zipTT, ↓ev_enumT, ↓ev_enumL, ↓ev_eqS, startD, pick, setTg, setAll, wipeD, List.map_cons, List.map_nil, List.length_cons, List.length_nil, List.cons_append, List.nil_append, List.getElem?_cons_zero, List.getElem?_cons_succ, List.set_cons_zero, List.set_cons_succ, List.replicate_succ, List.replicate_zero, List.filterMap_cons, List.filterMap_nil, Nat.reduceAdd, Nat.reduceSub, Nat.reduceLeDiff, and_self, if_true, decide_eq_true_eq, true_and, and_true, List.set_nil, List.length_set, List.length_map, List.length_replicate]
    refine ⟨by omega, ?_⟩
    try simp only [↓ev_out, ↓ev_sqM, ↓ev_foM, ↓ev_setM, ↓ev_asgM, ↓ev_putM, ↓ev_ifM, ↓ev_tvM, ↓ev_tnM, ↓ev_taM, ↓ev_toM, ↓ev_op2, ↓ev_gV, ↓ev_kM, ↓ev_rtM, ↓ev_exM, ↓ev_neM, ↓ev_notM, ↓ev_andM, ↓ev_orM, ↓ev_nxM, ↓ev_app, ↓ev_nil, ↓ev_cons, ↓ev_callF, ↓ev_callM, ↓ev_slM, ↓ev_ptM, ↓ev_asI, ↓ev_seM, ↓ev_itL, ↓ev_itT, ↓ev_mkT, ↓ev_mkL, ↓ev_lcM, ↓ev_dispM, ↓ev_lft, ↓thenK_nx, ↓thenK_rt, ↓thenK_bk, ↓thenK_ct, ↓tgK_s, ↓outK_rt, ↓outK_nx, ↓vK_s, ↓turnK_nx, ↓turnK_rt, ↓turnK_bk, ↓turnK_ct, ↓ev_asB, ↓ev_add, ↓ev_sub, ↓ev_mul, ↓ev_fdiv, ↓ev_mod, ↓ev_pow, ↓ev_neg, ↓ev_eqI, ↓ev_neI, ↓ev_lt, ↓ev_le, ↓ev_gt, ↓ev_ge, ↓ev_gcd, ↓ev_absI, ↓ev_maxI, ↓ev_minI, ↓ev_intI, ↓ev_intB, ↓ev_tupT, ↓ev_tupL, ↓ev_lstT, ↓ev_lstL, ↓ev_lenT, ↓ev_lenL, ↓ev_catL, ↓ev_catT, ↓ev_ixT, ↓ev_ixL, ↓ev_slT, ↓ev_slL, ↓ev_isN, ↓ev_isNotN, ↓ev_zipTT, ↓ev_enumT, ↓ev_enumL, ↓ev_eqS, startD, pick, setTg, setAll, wipeD, List.map_cons, List.map_nil, List.length_cons, List.length_nil, List.cons_append, List.nil_append, List.getElem?_cons_zero, List.getElem?_cons_succ, List.set_cons_zero, List.set_cons_succ, List.replicate_succ, List.replicate_zero, List.filterMap_cons, List.filterMap_nil, Nat.reduceAdd, Nat.reduceSub, Nat.reduceLeDiff, and_self, if_true, decide_eq_true_eq, true_and, and_true, List.set_nil, List.length_set, show ¬ ((0 : Int) = 1) by decide, Bool.false_eq_true, if_false]
    refine ⟨List.replicate dm 0 ++ [a], by simp [tp], ⟨by simp, fun x hx => ?_⟩, s12, m6⟩
    rcases List.mem_append.mp hx with z | z
    · rw [(List.mem_replicate.mp z).2]; decide
    · rw [List.mem_singleton.mp z]
      have := q3 a (by simp)
      omega
  · simp only [↓ev_out, ↓ev_sqM, ↓ev_foM, ↓ev_setM, ↓ev_asgM, ↓ev_putM, ↓ev_ifM, ↓ev_tvM, ↓ev_tnM, ↓ev_taM, ↓ev_toM, ↓ev_op2, ↓ev_gV, ↓ev_kM, ↓ev_rtM, ↓ev_exM, ↓ev_neM, ↓ev_notM, ↓ev_andM, ↓ev_orM, ↓ev_nxM, ↓ev_app, ↓ev_nil, ↓ev_cons, ↓ev_callF, ↓ev_callM, ↓ev_slM, ↓ev_ptM, ↓ev_asI, ↓ev_seM, ↓ev_itL, ↓ev_itT, ↓ev_mkT, ↓ev_mkL, ↓ev_lcM, ↓ev_dispM, ↓ev_lft, ↓thenK_nx, ↓thenK_rt, ↓thenK_bk, ↓thenK_ct, ↓tgK_s, ↓outK_rt, ↓outK_nx, ↓vK_s, ↓turnK_nx, ↓turnK_rt, ↓turnK_bk, ↓turnK_ct, ↓ev_asB, ↓ev_add, ↓ev_sub, ↓ev_mul, ↓ev_fdiv, ↓ev_mod, ↓ev_pow, ↓ev_neg, ↓ev_eqI, ↓ev_neI, ↓ev_lt, ↓ev_le, ↓ev_gt, ↓ev_ge, ↓ev_gcd, ↓ev_absI, ↓ev_maxI, ↓ev_minI, ↓ev_intI, ↓ev_intB, ↓ev_tupT, ↓ev_tupL, ↓ev_lstT, ↓ev_lstL, ↓ev_lenT, ↓ev_lenL, ↓ev_catL, ↓ev_catT, ↓ev_ixT, ↓ev_ixL, ↓ev_slT, ↓ev_slL, ↓ev_isN, ↓ev_isNotN, ↓ev_zipTT, ↓ev_enumT, ↓ev_enumL, ↓ev_eqS, startD, pick, setTg, setAll, wipeD, List.map_cons, List.map_nil, List.length_cons, List.length_nil, List.cons_append, List.nil_append, List.getElem?_cons_zero, List.getElem?_cons_succ, List.set_cons_zero, List.set_cons_succ, List.replicate_succ, List.replicate_zero, List.filterMap_cons, List.filterMap_nil, Nat.reduceAdd, Nat.reduceSub, Nat.reduceLeDiff, and_self, if_true, decide_eq_true_eq, true_and, and_true, List.set_nil, List.length_set, w0, Bool.false_eq_true, if_false]
    by_cases w1 : r = 1
    · subst w1
      simp only [↓ev_out, ↓ev_sqM, ↓ev_foM, ↓ev_setM, ↓ev_asgM, ↓ev_putM, ↓ev_ifM, ↓ev_tvM, ↓ev_tnM, ↓ev_taM, ↓ev_toM, ↓ev_op2, ↓ev_gV, ↓ev_kM, ↓ev_rtM, ↓ev_exM, ↓ev_neM, ↓ev_notM, ↓ev_andM, ↓ev_orM, ↓ev_nxM, ↓ev_app, ↓ev_nil, ↓ev_cons, ↓ev_callF, ↓ev_callM, ↓ev_slM, ↓ev_ptM, ↓ev_asI, ↓ev_seM, ↓ev_itL, ↓ev_itT, ↓ev_mkT, ↓ev_mkL, ↓ev_lcM, ↓ev_dispM, ↓ev_lft, ↓thenK_nx, ↓thenK_rt, ↓thenK_bk, ↓thenK_ct, ↓tgK_s, ↓outK_rt, ↓outK_nx, ↓vK_s, ↓turnK_nx, ↓turnK_rt, ↓turnK_bk, ↓turnK_ct, ↓ev_asB, ↓ev_add, ↓ev_sub, ↓ev_mul, ↓ev_fdiv, ↓ev_mod, ↓ev_pow, ↓ev_neg, ↓ev_eqI, ↓ev_neI, ↓ev_lt, ↓ev_le, ↓ev_gt, ↓ev_ge, ↓ev_gcd, ↓ev_absI, ↓ev_maxI, ↓ev_minI, ↓ev_intI, ↓ev_intB, ↓ev_tupT, ↓ev_tupL, ↓ev_lstT, ↓ev_lstL, ↓ev_lenT, ↓ev_lenL, ↓ev_catL, ↓ev_catT, ↓ev_ixT, ↓ev_ixL, ↓ev_slT, ↓ev_slL, ↓ev_isN, ↓ev_isNotN, ↓ev_zipTT, ↓ev_enumT, ↓ev_enumL, ↓ev_eqS, startD, pick, setTg, setAll, wipeD, List.map_cons, List.map_nil, List.length_cons, List.length_nil, List.cons_append, List.nil_append, List.getElem?_cons_zero, List.getElem?_cons_succ, List.set_cons_zero, List.set_cons_succ, List.replicate_succ, List.replicate_zero, List.filterMap_cons, List.filterMap_nil, Nat.reduceAdd, Nat.reduceSub, Nat.reduceLeDiff, and_self, if_true, decide_eq_true_eq, true_and, and_true, List.set_nil, List.length_set, decide_true, if_true]
      have lc : ∀ ρ : Rho, ρ = [some (.ref j), some (.int (dm : Int)), some (.lst (ns.map .int)), some (.int 1), none, none] → lcD (.v 5) (kM true) (op2 (gV 5) (op2 (op2 (kM (.int 10)) (kM (.int 25)) powD) (kM (.int 7)) addD) mulD) (ns.map .int) ρ μ2 = .ok ((ns.map fun x => x * (10 ^ 25 + 7)).map .int) μ2 := fun ρ e => by
        subst e
        refine lc_intsI (fun x => x * (10 ^ 25 + 7)) fun x hx => ?_
        simp only [↓ev_out, ↓ev_sqM, ↓ev_foM, ↓ev_setM, ↓ev_asgM, ↓ev_putM, ↓ev_ifM, ↓ev_tvM, ↓ev_tnM, ↓ev_taM, ↓ev_toM, ↓ev_op2, ↓ev_gV, ↓ev_kM, ↓ev_rtM, ↓ev_exM, ↓ev_neM, ↓ev_notM, ↓ev_andM, ↓ev_orM, ↓ev_nxM, ↓ev_app, ↓ev_nil, ↓ev_cons, ↓ev_callF, ↓ev_callM, ↓ev_slM, ↓ev_ptM, ↓ev_asI, ↓ev_seM, ↓ev_itL, ↓ev_itT, ↓ev_mkT, ↓ev_mkL, ↓ev_lcM, ↓ev_dispM, ↓ev_lft, ↓thenK_nx, ↓thenK_rt, ↓thenK_bk, ↓thenK_ct, ↓tgK_s, ↓outK_rt, ↓outK_nx, ↓vK_s, ↓turnK_nx, ↓turnK_rt, ↓turnK_bk, ↓turnK_ct, ↓ev_asB, ↓ev_add, ↓ev_sub, ↓ev_mul, ↓ev_fdiv, ↓ev_mod, ↓ev_pow, ↓ev_neg, ↓ev_eqI, ↓ev_neI, ↓ev_lt, ↓ev_le, ↓ev_gt, ↓ev_ge, ↓ev_gcd, ↓ev_absI, ↓ev_maxI, ↓ev_minI, ↓ev_intI, ↓ev_intB, ↓ev_tupT, ↓ev_tupL, ↓ev_lstT, ↓ev_lstL, ↓ev_lenT, ↓ev_lenL, ↓ev_catL, ↓ev_catT, ↓ev_ixT, ↓ev_ixL, ↓ev_slT, ↓ev_slL, ↓ev_isN, ↓ev_isNotN, ↓ev_zipTT, ↓ev_enumT, ↓ev_enumL, ↓ev_eqS, startD, pick, setTg, setAll, wipeD, List.map_cons, List.map_nil, List.length_cons, List.length_nil, List.cons_append, List.nil_append, List.getElem?_cons_zero, List.getElem?_cons_succ, List.set_cons_zero, List.set_cons_succ, List.replicate_succ, List.replicate_zero, List.filterMap_cons, List.filterMap_nil, Nat.reduceAdd, Nat.reduceSub, Nat.reduceLeDiff, and_self, if_true, decide_eq_true_eq, true_and, and_true, List.set_nil, List.length_set]
        have := q3 x hx
        exact ⟨by decide, mul64l (by omega), rfl⟩
      refine (ev_of (lc _ rfl)).mpr ?_
      simp only [↓ev_out, ↓ev_sqM, ↓ev_foM, ↓ev_setM, ↓ev_asgM, ↓ev_putM, ↓ev_ifM, ↓ev_tvM, ↓ev_tnM, ↓ev_taM, ↓ev_toM, ↓ev_op2, ↓ev_gV, ↓ev_kM, ↓ev_rtM, ↓ev_exM, ↓ev_neM, ↓ev_notM, ↓ev_andM, ↓ev_orM, ↓ev_nxM, ↓ev_app, ↓ev_nil, ↓ev_cons, ↓ev_callF, ↓ev_callM, ↓ev_slM, ↓ev_ptM, ↓ev_asI, ↓ev_seM, ↓ev_itL, ↓ev_itT, ↓ev_mkT, ↓ev_mkL, ↓ev_lcM, ↓ev_dispM, ↓ev_lft, ↓thenK_nx, ↓thenK_rt, ↓thenK_bk, ↓thenK_ct, ↓tgK_s, ↓outK_rt, ↓outK_nx, ↓vK_s, ↓turnK_nx, ↓turnK_rt, ↓turnK_bk, ↓turnK_ct, ↓ev_asB, ↓ev_add, ↓ev_sub, ↓ev_mul, ↓ev_fdiv, ↓ev_mod, ↓ev_pow, ↓ev_neg, ↓ev_eqI, ↓ev_neI, ↓ev_lt, ↓ev_le, ↓ev_gt, ↓ev_ge, ↓ev_gcd, ↓ev_absI, ↓ev_maxI, ↓ev_minI, ↓ev_intI, ↓ev_intB, ↓ev_tupT, ↓ev_tupL, ↓ev_lstT, ↓ev_lstL, ↓ev_lenT, ↓ev_lenL, ↓ev_catL, ↓ev_catT, ↓ev_ixT, ↓ev_ixL, ↓ev_slT, ↓ev_slL, ↓ev_isN, ↓ev_isNotN, ↓ev_zipTT, ↓ev_enumT, ↓ev_enumL, ↓ev_eqS, startD, pick, setTg, setAll, wipeD, List.map_cons, List.map_nil, List.length_cons, List.length_nil, List.cons_append, List.nil_append, List.getElem?_cons_zero, List.getElem?_cons_succ, List.set_cons_zero, List.set_cons_succ, List.replicate_succ, List.replicate_zero, List.filterMap_cons, List.filterMap_nil, Nat.reduceAdd, Nat.reduceSub, Nat.reduceLeDiff, and_self, if_true, decide_eq_true_eq, true_and, and_true, List.set_nil, List.length_set, List.length_map, if_pos (show ns.length ≤ 1000000 by omega)]
      refine ⟨ns.map fun x => x * (10 ^ 25 + 7), rfl, ⟨by rw [List.length_map, ln], fun x hx => ?_⟩, s12, m6⟩
      obtain ⟨y, hy, rfl⟩ := List.mem_map.mp hx
      have := q3 y hy
      omega
    · simp only [↓ev_out, ↓ev_sqM, ↓ev_foM, ↓ev_setM, ↓ev_asgM, ↓ev_putM, ↓ev_ifM, ↓ev_tvM, ↓ev_tnM, ↓ev_taM, ↓ev_toM, ↓ev_op2, ↓ev_gV, ↓ev_kM, ↓ev_rtM, ↓ev_exM, ↓ev_neM, ↓ev_notM, ↓ev_andM, ↓ev_orM, ↓ev_nxM, ↓ev_app, ↓ev_nil, ↓ev_cons, ↓ev_callF, ↓ev_callM, ↓ev_slM, ↓ev_ptM, ↓ev_asI, ↓ev_seM, ↓ev_itL, ↓ev_itT, ↓ev_mkT, ↓ev_mkL, ↓ev_lcM, ↓ev_dispM, ↓ev_lft, ↓thenK_nx, ↓thenK_rt, ↓thenK_bk, ↓thenK_ct, ↓tgK_s, ↓outK_rt, ↓outK_nx, ↓vK_s, ↓turnK_nx, ↓turnK_rt, ↓turnK_bk, ↓turnK_ct, ↓ev_asB, ↓ev_add, ↓ev_sub, ↓ev_mul, ↓ev_fdiv, ↓ev_mod, ↓ev_pow, ↓ev_neg, ↓ev_eqI, ↓ev_neI, ↓ev_lt, ↓ev_le, ↓ev_gt, ↓ev_ge, ↓ev_gcd, ↓ev_absI, ↓ev_maxI, ↓ev_minI, ↓ev_intI, ↓ev_intB, ↓ev_tupT, ↓ev_tupL, ↓ev_lstT, ↓ev_lstL, ↓ev_lenT, ↓ev_lenL, ↓ev_catL, ↓ev_catT, ↓ev_ixT, ↓ev_ixL, ↓ev_slT, ↓ev_slL, ↓ev_isN, ↓ev_isNotN, ↓ev_zipTT, ↓ev_enumT, ↓ev_enumL, ↓ev_eqS, startD, pick, setTg, setAll, wipeD, List.map_cons, List.map_nil, List.length_cons, List.length_nil, List.cons_append, List.nil_append, List.getElem?_cons_zero, List.getElem?_cons_succ, List.set_cons_zero, List.set_cons_succ, List.replicate_succ, List.replicate_zero, List.filterMap_cons, List.filterMap_nil, Nat.reduceAdd, Nat.reduceSub, Nat.reduceLeDiff, and_self, if_true, decide_eq_true_eq, true_and, and_true, List.set_nil, List.length_set, w1, Bool.false_eq_true, if_false]
      exact ⟨ns, rfl, ⟨ln, fun x hx => by have := q3 x hx; omega⟩, s12, m6⟩
/-- a point that is drawn -/
def SpotP (dm : Nat) (d : D) : Prop := ∃ xs w, d = tp (xs ++ [w]) ∧ xs.length = dm ∧ 0 < w ∧ ∀ x ∈ xs ++ [w], x.natAbs < 10
theorem ten_BB : 10 ≤ BB := by
  unfold BB
  exact Nat.le_trans (by decide : 10 ≤ 2 ^ 4) (Nat.pow_le_pow_right (by decide) (by decide))
theorem f28 {n : Nat} (hn : 4 ≤ n) {j c dm : Nat} {μ : Mu} (h : MAt j c μ) (hd : dm ≤ 4) (hc : c + 6 ≤ CAP) : Ev (F n 28 [.ref j, .int (dm : Int)] μ) fun d μ' => SpotP dm d ∧ Sj j μ μ' ∧ MAt j (c + 6) μ' := by
  obtain ⟨k, rfl⟩ : ∃ k, n = k + 1 := ⟨n - 1, by omega⟩
  rw [F, s28_eq]
  unfold s28
  simp only [↓ev_out, ↓ev_sqM, ↓ev_foM, ↓ev_setM, ↓ev_asgM, ↓ev_putM, ↓ev_ifM, ↓ev_tvM, ↓ev_tnM, ↓ev_taM, ↓ev_toM, ↓ev_op2, ↓ev_gV, ↓ev_kM, ↓ev_rtM, ↓ev_exM, ↓ev_neM, ↓ev_notM, ↓ev_andM, ↓ev_orM, ↓ev_nxM, ↓ev_app, ↓ev_nil, ↓ev_cons, ↓ev_callF, ↓ev_callM, ↓ev_slM, ↓ev_ptM, ↓ev_asI, ↓ev_seM, ↓ev_itL, ↓ev_itT, ↓ev_mkT, ↓ev_mkL, ↓ev_lcM, ↓ev_dispM, ↓ev_lft, ↓thenK_nx, ↓thenK_rt, ↓thenK_bk, ↓thenK_ct, ↓tgK_s, ↓outK_rt, ↓outK_nx, ↓vK_s, ↓turnK_nx, ↓turnK_rt, ↓turnK_bk, ↓turnK_ct, ↓ev_asB, ↓ev_add, ↓ev_sub, ↓ev_mul, ↓ev_fdiv, ↓ev_mod, ↓ev_pow, ↓ev_neg, ↓ev_eqI, ↓ev_neI, ↓ev_lt, ↓ev_le, ↓ev_gt, ↓ev_ge, ↓ev_gcd, ↓ev_absI, ↓ev_maxI, ↓ev_minI, ↓ev_intI, ↓ev_intB, ↓ev_tupT, ↓ev_tupL, ↓ev_lstT, ↓ev_lstL, ↓ev_lenT, ↓ev_lenL, ↓ev_catL, ↓ev_catT, ↓ev_ixT, ↓ev_ixL, ↓ev_slT, ↓ev_slL, ↓ev_isN, ↓ev_isNotN, ↓ev_zipTT, ↓ev_enumT, ↓ev_enumL, ↓ev_eqS, startD, pick, setTg, setAll, wipeD, List.map_cons, List.map_nil, List.length_cons, List.length_nil, List.cons_append, List.nil_append, List.getElem?_cons_zero, List.getElem?_cons_succ, List.set_cons_zero, List.set_cons_succ, List.replicate_succ, List.replicate_zero, List.filterMap_cons, List.filterMap_nil, Nat.reduceAdd, Nat.reduceSub, Nat.reduceLeDiff, and_self, if_true, decide_eq_true_eq, true_and, and_true, List.set_nil, List.length_set]
  rw [rng1_ok (show dm ≤ 1000000 by omega)]
  have lr := rngD_length 0 dm
  refine ev_imp (lc_st (N := 1) (cap := CAP) (Q := fun y => ∃ n : Int, y = .int n ∧ n.natAbs ≤ 6) (rngD 0 dm) (fun d hd c' μ1 hc' m => ?_) c μ (by rw [rngD_length]; omega) h) ?_
  · simp only [↓ev_out, ↓ev_sqM, ↓ev_foM, ↓ev_setM, ↓ev_asgM, ↓ev_putM, ↓ev_ifM, ↓ev_tvM, ↓ev_tnM, ↓ev_taM, ↓ev_toM, ↓ev_op2, ↓ev_gV, ↓ev_kM, ↓ev_rtM, ↓ev_exM, ↓ev_neM, ↓ev_notM, ↓ev_andM, ↓ev_orM, ↓ev_nxM, ↓ev_app, ↓ev_nil, ↓ev_cons, ↓ev_callF, ↓ev_callM, ↓ev_slM, ↓ev_ptM, ↓ev_asI, ↓ev_seM, ↓ev_itL, ↓ev_itT, ↓ev_mkT, ↓ev_mkL, ↓ev_lcM, ↓ev_dispM, ↓ev_lft, ↓thenK_nx, ↓thenK_rt, ↓thenK_bk, ↓thenK_ct, ↓tgK_s, ↓outK_rt, ↓outK_nx, ↓vK_s, ↓turnK_nx, ↓turnK_rt, ↓turnK_bk, ↓turnK_ct, ↓ev_asB, ↓ev_add, ↓ev_sub, ↓ev_mul, ↓ev_fdiv, ↓ev_mod, ↓ev_pow, ↓ev_neg, ↓ev_eqI, ↓ev_neI, ↓ev_lt, ↓ev_le, ↓ev_gt, ↓ev_ge, ↓ev_gcd, ↓ev_absI, ↓ev_maxI, ↓ev_minI, ↓ev_intI, ↓ev_intB, ↓ev_tupT, ↓ev_tupL, ↓ev_lstT, ↓ev_lstL, ↓ev_lenT, ↓ev_lenL, ↓ev_catL, ↓ev_catT, ↓ev_ixT, ↓ev_ixL, ↓ev_slT, ↓ev_slL, ↓ev_isN, ↓ev_isNotN, ↓ev_zipTT, ↓ev_enumT, ↓ev_enumL, ↓ev_eqS, startD, pick, setTg, setAll, wipeD, List.map_cons, List.map_nil, List.length_cons, List.length_nil, List.cons_append, List.nil_append, List.getElem?_cons_zero, List.getElem?_cons_succ, List.set_cons_zero, List.set_cons_succ, List.replicate_succ, List.replicate_zero, List.filterMap_cons, List.filterMap_nil, Nat.reduceAdd, Nat.reduceSub, Nat.reduceLeDiff, and_self, if_true, decide_eq_true_eq, true_and, and_true, List.set_nil, List.length_set]
    refine ev_imp (f17d (by omega) m hc' (by decide) (by decide)) ?_
    rintro _ μ2 ⟨r, rfl, r0, r1, s1, m1⟩
    simp only [↓ev_out, ↓ev_sqM, ↓ev_foM, ↓ev_setM, ↓ev_asgM, ↓ev_putM, ↓ev_ifM, ↓ev_tvM, ↓ev_tnM, ↓ev_taM, ↓ev_toM, ↓ev_op2, ↓ev_gV, ↓ev_kM, ↓ev_rtM, ↓ev_exM, ↓ev_neM, ↓ev_notM, ↓ev_andM, ↓ev_orM, ↓ev_nxM, ↓ev_app, ↓ev_nil, ↓ev_cons, ↓ev_callF, ↓ev_callM, ↓ev_slM, ↓ev_ptM, ↓ev_asI, ↓ev_seM, ↓ev_itL, ↓ev_itT, ↓ev_mkT, ↓ev_mkL, ↓ev_lcM, ↓ev_dispM, ↓ev_lft, ↓thenK_nx, ↓thenK_rt, ↓thenK_bk, ↓thenK_ct, ↓tgK_s, ↓outK_rt, ↓outK_nx, ↓vK_s, ↓turnK_nx, ↓turnK_rt, ↓turnK_bk, ↓turnK_ct, ↓ev_asB, ↓ev_add, ↓ev_sub, ↓ev_mul, ↓ev_fdiv, ↓ev_mod, ↓ev_pow, ↓ev_neg, ↓ev_eqI, ↓ev_neI, ↓ev_lt, ↓ev_le, ↓ev_gt, ↓ev_ge, ↓ev_gcd, ↓ev_absI, ↓ev_maxI, ↓ev_minI, ↓ev_intI, ↓ev_intB, ↓ev_tupT, ↓ev_tupL, ↓ev_lstT, ↓ev_lstL, ↓ev_lenT, ↓ev_lenL, ↓ev_catL, ↓ev_catT, ↓ev_ixT, ↓ev_ixL, ↓ev_slT, ↓ev_slL, ↓ev_isN, ↓ev_isNotN, ↓ev_zipTT, ↓ev_enumT, ↓ev_enumL, ↓ev_eqS, startD, pick, setTg, setAll, wipeD, List.map_cons, List.map_nil, List.length_cons, List.length_nil, List.cons_append, List.nil_append, List.getElem?_cons_zero, List.getElem?_cons_succ, List.set_cons_zero, List.set_cons_succ, List.replicate_succ, List.replicate_zero, List.filterMap_cons, List.filterMap_nil, Nat.reduceAdd, Nat.reduceSub, Nat.reduceLeDiff, and_self, if_true, decide_eq_true_eq, true_and, and_true, List.set_nil, List.length_set]
    exact ⟨⟨_, rfl, by omega⟩, s1, m1⟩
  rintro ys μ1 ⟨q1, q2, s1, m1⟩
  obtain ⟨ns, rfl, q3⟩ := ints_of q2
  rw [lr] at q1 m1
  have ln : ns.length = dm := by rw [← q1, List.length_map]
  simp only [↓ev_out, ↓ev_sqM, ↓ev_foM, ↓ev_setM, ↓ev_asgM, ↓ev_putM, ↓ev_ifM, ↓ev_tvM, ↓ev_tnM, ↓ev_taM, ↓ev_toM, ↓ev_op2, ↓ev_gV, ↓ev_kM, ↓ev_rtM, ↓ev_exM, ↓ev_neM, ↓ev_notM, ↓ev_andM, ↓ev_orM, ↓ev_nxM, ↓ev_app, ↓ev_nil, ↓ev_cons, ↓ev_callF, ↓ev_callM, ↓ev_slM, ↓ev_ptM, ↓ev_asI, ↓ev_seM, ↓ev_itL, ↓ev_itT, ↓ev_mkT, ↓ev_mkL, ↓ev_lcM, ↓ev_dispM, ↓ev_lft, ↓thenK_nx, ↓thenK_rt, ↓thenK_bk, ↓thenK_ct, ↓tgK_s, ↓outK_rt, ↓outK_nx, ↓vK_s, ↓turnK_nx, ↓turnK_rt, ↓turnK_bk, ↓turnK_ct, ↓ev_asB, ↓ev_add, ↓ev_sub, ↓ev_mul, ↓ev_fdiv, ↓ev_mod, ↓ev_pow, ↓ev_neg, ↓ev_eqI, ↓ev_neI, ↓ev_lt, ↓ev_le, ↓ev_gt, ↓ev_ge, ↓ev_gcd, ↓ev_absI, ↓ev_maxI, ↓ev_minI, ↓ev_intI, ↓ev_intB, ↓ev_tupT, ↓ev_tupL, ↓ev_lstT, ↓ev_lstL, ↓ev_lenT, ↓ev_lenL, ↓ev_catL, ↓ev_catT, ↓ev_ixT, ↓ev_ixL, ↓ev_slT, ↓ev_slL, ↓ev_isN, ↓ev_isNotN, ↓ev_zipTT, ↓ev_enumT, ↓ev_enumL, ↓ev_eqS, startD, pick, setTg, setAll, wipeD, List.map_cons, List.map_nil, List.length_cons, List.length_nil, List.cons_append, List.nil_append, List.getElem?_cons_zero, List.getElem?_cons_succ, List.set_cons_zero, List.set_cons_succ, List.replicate_succ, List.replicate_zero, List.filterMap_cons, List.filterMap_nil, Nat.reduceAdd, Nat.reduceSub, Nat.reduceLeDiff, and_self, if_true, decide_eq_true_eq, true_and, and_true, List.set_nil, List.length_set, if_pos (show (List.map D.int ns).length ≤ 1000000 by omega)]
  refine ev_imp (f17d (by omega) m1 (by omega) (by decide) (by decide)) ?_
  rintro _ μ2 ⟨r, rfl, r0, r1, s2, m2⟩
  have hb : ∀ x ∈ ns ++ [1 + r], x.natAbs < 10 := fun x hx => by
    rcases List.mem_append.mp hx with z | z
    · have := q3 x z; omega
    · rw [List.mem_singleton.mp z]; omega
  simp only [↓ev_out, ↓ev_sqM, ↓ev_foM, ↓ev_setM, ↓ev_asgM, ↓ev_putM, ↓ev_ifM, ↓ev_tvM, ↓ev_tnM, ↓ev_taM, ↓ev_toM, ↓ev_op2, ↓ev_gV, ↓ev_kM, ↓ev_rtM, ↓ev_exM, ↓ev_neM, ↓ev_notM, ↓ev_andM, ↓ev_orM, ↓ev_nxM, ↓ev_app, ↓ev_nil, ↓ev_cons, ↓ev_callF, ↓ev_callM, ↓ev_slM, ↓ev_ptM, ↓ev_asI, ↓ev_seM, ↓ev_itL, ↓ev_itT, ↓ev_mkT, ↓ev_mkL, ↓ev_lcM, ↓ev_dispM, ↓ev_lft, ↓thenK_nx, ↓thenK_rt, ↓thenK_bk, ↓thenK_ct, ↓tgK_s, ↓outK_rt, ↓outK_nx, ↓vK_s, ↓turnK_nx, ↓turnK_rt, ↓turnK_bk, ↓turnK_ct, ↓ev_asB, ↓ev_add, ↓ev_sub, ↓ev_mul, ↓ev_fdiv, ↓ev_mod, ↓ev_pow, ↓ev_neg, ↓ev_eqI, ↓ev_neI, ↓ev_lt, ↓ev_le, ↓ev_gt, ↓ev_ge, ↓ev_gcd, ↓ev_absI, ↓ev_maxI, ↓ev_minI, ↓ev_intI, ↓ev_intB, ↓ev_tupT, ↓ev_tupL, ↓ev_lstT, ↓ev_lstL, ↓ev_lenT, ↓ev_lenL, ↓ev_catL, ↓ev_catT, ↓ev_ixT, ↓ev_ixL, ↓ev_slT, ↓ev_slL, ↓ev_isN, ↓ev_isNotN, ↓ev_zipTT, ↓ev_enumT, ↓ev_enumL, ↓ev_eqS, startD, pick, setTg, setAll, wipeD, List.map_cons, List.map_nil, List.length_cons, List.length_nil, List.cons_append, List.nil_append, List.getElem?_cons_zero, List.getElem?_cons_succ, List.set_cons_zero, List.set_cons_succ, List.replicate_succ, List.replicate_zero, List.filterMap_cons, List.filterMap_nil, Nat.reduceAdd, Nat.reduceSub, Nat.reduceLeDiff, and_self, if_true, decide_eq_true_eq, true_and, and_true, List.set_nil, List.length_set]
  refine (ev_of (f23 (b := true) (by omega) ns (1 + r) μ2 (by omega) (fun x hx => Nat.lt_of_lt_of_le (hb x hx) ten_BB) (by omega))).mpr ?_
  obtain ⟨xs, v, e, h1, h2, h3⟩ := lowL_last (B := 10) (show 0 < 1 + r by omega) hb
  rw [e]
  exact ⟨⟨xs, v, rfl, by rw [h1, ln], h2, h3⟩, s1.trans s2, m2.le (by omega)⟩
end K03
namespace K03
open PySem L2 PX
/-! the plain law -/
theorem dot_nil (b : List Int) : dot [] b = 0 := rfl
theorem dot_cons (x y : Int) (a b : List Int) : dot (x :: a) (y :: b) = x * y + dot a b := by
  unfold dot
  rw [List.zip_cons_cons, List.map_cons, List.sum_cons]
theorem dot_mul (c : Int) : ∀ (a b : List Int), dot (a.map fun x => c * x) b = c * dot a b
  | [], b => by simp [dot]
  | x :: a, [] => by simp [dot]
  | x :: a, y :: b => by rw [List.map_cons, dot_cons, dot_cons, dot_mul c a b]; grind
theorem dot_app (z : Int) : ∀ (a b : List Int) (w : Int), a.length = b.length → dot (a ++ [z]) (b ++ [w]) = dot a b + z * w
  | [], [], w, _ => by simp [dot]
  | x :: a, y :: b, w, h => by
    rw [List.cons_append, List.cons_append, dot_cons, dot_cons, dot_app z a b w (by simpa using h)]
    grind
theorem dot_bound {A B : Nat} : ∀ (a b : List Int), (∀ x ∈ a, x.natAbs ≤ A) → (∀ x ∈ b, x.natAbs ≤ B) → (dot a b).natAbs ≤ a.length * (A * B)
  | [], b, _, _ => by simp [dot]
  | x :: a, [], _, _ => by simp [dot]
  | x :: a, y :: b, ha, hb => by
    rw [dot_cons, List.length_cons, Nat.succ_mul]
    have h1 := dot_bound a b (fun z hz => ha z (List.mem_cons_of_mem _ hz)) (fun z hz => hb z (List.mem_cons_of_mem _ hz))
    have h2 : (x * y).natAbs ≤ A * B := by
      rw [Int.natAbs_mul]
      exact Nat.mul_le_mul (ha x List.mem_cons_self) (hb y List.mem_cons_self)
    have h3 := Int.natAbs_add_le (x * y) (dot a b)
    omega
theorem zip_short {a : List Int} {z : Int} {b : List Int} (h : b.length ≤ a.length) : (a ++ [z]).zip b = a.zip b := by
  induction a generalizing b with
  | nil =>
    have : b = [] := List.eq_nil_of_length_eq_zero (by simpa using h)
    subst this
    rfl
  | cons x a ih =>
    cases b with
    | nil => rfl
    | cons y b =>
      rw [List.cons_append, List.zip_cons_cons, List.zip_cons_cons, ih (by simpa using h)]
theorem dot_short {a : List Int} {z : Int} {b : List Int} (h : b.length ≤ a.length) : dot (a ++ [z]) b = dot a b := by
  unfold dot
  rw [zip_short h]
theorem find_mul {c : Int} (hc : c ≠ 0) : ∀ xs : List Int, (xs.map fun x => c * x).find? nz = (xs.find? nz).map fun x => c * x
  | [] => rfl
  | x :: xs => by
    rw [List.map_cons, List.find?_cons, List.find?_cons, find_mul hc xs]
    by_cases h : x = 0
    · subst h; simp [nz]
    · have h2 : nz (c * x) = true := by simp [nz, hc, h]
      have h3 : nz x = true := by simp [nz, h]
      rw [h2, h3]
      rfl
theorem find_nz {xs : List Int} {x : Int} (h : xs.find? nz = some x) : x ≠ 0 := by
  have := List.find?_some h
  simpa [nz] using this
theorem map_neg (l : List Int) : l.map (fun y => -y) = l.map fun y => (-1 : Int) * y := List.map_congr_left fun y _ => by omega
theorem drop_map (c : Int) (l : List Int) : (l.map fun x => c * x).dropLast = l.dropLast.map fun x => c * x := by rw [List.map_dropLast]
/-- so many times the row: the same plane -/
theorem planeD_mul {c : Int} (hc : c ≠ 0) (ns : List Int) : planeD (ns.map fun x => c * x) = planeD ns := by
  unfold planeD
  rw [drop_map, find_mul hc]
  cases h : ns.dropLast.find? nz with
  | none => rfl
  | some x =>
    have hx := find_nz h
    show tp (planeL (ns.map fun x => c * x) (c * x)) = tp (planeL ns x)
    refine congrArg (fun l => tp l) ?_
    unfold planeL
    rw [lowL_mul hc]
    rcases Int.lt_trichotomy c 0 with hs | hs | hs
    · rw [Int.sign_eq_neg_one_of_neg hs]
      rcases Int.lt_trichotomy x 0 with hx2 | hx2 | hx2
      · have : 0 < c * x := Int.mul_pos_of_neg_of_neg hs hx2
        rw [if_pos this, if_neg (by omega), map_neg]
      · exact absurd hx2 hx
      · have : c * x < 0 := Int.mul_neg_of_neg_of_pos hs hx2
        rw [if_neg (by omega), if_pos hx2, List.map_map]
        conv => rhs; rw [← List.map_id (lowL ns)]
        exact List.map_congr_left fun y _ => by simp
    · exact absurd hs hc
    · rw [Int.sign_eq_one_of_pos hs]
      have e : (lowL ns).map (fun x => (1 : Int) * x) = lowL ns := by
        conv => rhs; rw [← List.map_id (lowL ns)]
        exact List.map_congr_left fun y _ => by simp
      rw [e]
      rcases Int.lt_trichotomy x 0 with hx2 | hx2 | hx2
      · have : c * x < 0 := Int.mul_neg_of_pos_of_neg hs hx2
        rw [if_neg (by omega), if_neg (by omega)]
      · exact absurd hx2 hx
      · have : 0 < c * x := Int.mul_pos hs hx2
        rw [if_pos this, if_pos hx2]
theorem planeL_scale {ns : List Int} {x : Int} : ∃ g : Int, g ≠ 0 ∧ ns = (planeL ns x).map fun y => g * y := by
  obtain ⟨g, hg, e⟩ := lowL_scale ns
  unfold planeL
  by_cases h : 0 < x
  · rw [if_pos h]
    exact ⟨g, by omega, e⟩
  · rw [if_neg h]
    refine ⟨-g, by omega, ?_⟩
    rw [List.map_map]
    have : (lowL ns).map ((fun y => -g * y) ∘ fun y => -y) = (lowL ns).map fun y => g * y := List.map_congr_left fun y _ => by
      show -g * -y = g * y
      grind
    rw [this]
    exact e
theorem planeL_low {ns : List Int} {x : Int} : lowL (planeL ns x) = planeL ns x := by
  unfold planeL
  by_cases h : 0 < x
  · rw [if_pos h]; exact lowL_low ns
  · rw [if_neg h, map_neg, lowL_mul (by decide), lowL_low]
    rfl
/-- the plane of a plane is itself -/
theorem planeD_idem {ns : List Int} {x : Int} (h : ns.dropLast.find? nz = some x) : planeD (planeL ns x) = tp (planeL ns x) := by
  have hx := find_nz h
  obtain ⟨g, hg, e⟩ := lowL_scale ns
  have e2 : ((lowL ns).dropLast.find? nz).map (fun y => g * y) = some x := by
    rw [← find_mul (by omega), ← drop_map, ← e]
    exact h
  obtain ⟨y, h1, h2⟩ := Option.map_eq_some_iff.mp e2
  have hy : (0 < x → 0 < y) ∧ (x < 0 → y < 0) := by
    constructor
    · intro hp
      rcases Int.lt_trichotomy y 0 with z | z | z
      · have := Int.mul_neg_of_pos_of_neg hg z; omega
      · rw [z] at h2; simp at h2; omega
      · exact z
    · intro hp
      rcases Int.lt_trichotomy y 0 with z | z | z
      · exact z
      · rw [z] at h2; simp at h2; omega
      · have := Int.mul_pos hg z; omega
  have low := planeL_low (ns := ns) (x := x)
  have key : ∃ v, (planeL ns x).dropLast.find? nz = some v ∧ 0 < v := by
    unfold planeL
    by_cases hp : 0 < x
    · rw [if_pos hp]; exact ⟨y, h1, hy.1 hp⟩
    · rw [if_neg hp, map_neg, drop_map, find_mul (by decide), h1]
      exact ⟨-1 * y, rfl, by have := hy.2 (by omega); omega⟩
  obtain ⟨v, k1, k2⟩ := key
  show (match (planeL ns x).dropLast.find? nz with
    | none => D.non
    | some x' => tp (planeL (planeL ns x) x')) = _
  rw [k1]
  show tp (if 0 < v then lowL (planeL ns x) else _) = _
  rw [if_pos k2, low]
theorem planeL_len (ns : List Int) (x : Int) : (planeL ns x).length = ns.length := by
  unfold planeL
  split
  · exact lowL_len ns
  · rw [List.length_map, lowL_len]
theorem planeL_bound {B : Nat} {ns : List Int} {x : Int} (h : ∀ y ∈ ns, y.natAbs < B) : ∀ y ∈ planeL ns x, y.natAbs < B := by
  unfold planeL
  split
  · exact lowL_bound h
  · intro y hy
    obtain ⟨z, hz, rfl⟩ := List.mem_map.mp hy
    have := lowL_bound h z hz
    omega
theorem planeL_zero {ns : List Int} {x : Int} (b : List Int) : (dot (planeL ns x) b = 0) ↔ (dot ns b = 0) := by
  obtain ⟨g, hg, e⟩ := planeL_scale (ns := ns) (x := x)
  have e2 : dot ns b = g * dot (planeL ns x) b := by
    conv => lhs; rw [e]
    exact dot_mul g _ b
  rw [e2]
  constructor
  · intro h; rw [h]; simp
  · intro h
    rcases Int.mul_eq_zero.mp h with z | z
    · exact absurd z hg
    · exact z
theorem sgn_zero (i : Int) : sgn i = 0 ↔ i = 0 := by
  unfold sgn
  split
  · simp [*]
  · split <;> simp [*]
theorem slope_law {rs : List Int} {z : Int} {xs : List Int} {w : Int} {u ys : List Int} {v g T1 P due : Int} (h1 : rs.length = xs.length) (h2 : u.length = xs.length) (hg : movedL xs w u 1 2 = (ys ++ [v]).map fun y => g * y)
    (hT : T1 = dot (rs ++ [z]) (ys ++ [v])) (hP : P = dot (rs ++ [z]) (xs ++ [w])) (hd : due = dot rs u) : g * T1 = 2 * P + w * due ∧ g * v = 2 * w := by
  have hm : movedL xs w u 1 2 = ((xs.zip u).map fun p => 2 * p.1 + 1 * w * p.2) ++ [2 * w] := by
    unfold movedL
    rw [zip_short (by omega)]
  have hyl : ys.length = xs.length := by
    have := congrArg List.length hg
    rw [hm] at this
    simp at this
    omega
  have e1 := hg
  rw [hm, List.map_append] at e1
  have e2 := List.append_inj_right' e1 rfl
  have e3 := List.append_inj_left' e1 rfl
  have e4 : 2 * w = g * v := by simpa using e2
  refine ⟨?_, e4.symm⟩
  have q1 : g * T1 = dot (rs ++ [z]) (movedL xs w u 1 2) := by
    rw [hg, hT]
    have comm : ∀ a b : List Int, dot a (b.map fun y => g * y) = g * dot a b := by
      intro a
      induction a with
      | nil => intro b; simp [dot]
      | cons x a ih =>
        intro b
        cases b with
        | nil => simp [dot]
        | cons y b => rw [List.map_cons, dot_cons, dot_cons, ih b]; grind
    rw [comm]
  rw [q1, hm, dot_app _ _ _ _ (by simp; omega)]
  have q2 : ∀ (rs xs u : List Int), rs.length = xs.length → u.length = xs.length → dot rs ((xs.zip u).map fun p => 2 * p.1 + 1 * w * p.2) = 2 * dot rs xs + w * dot rs u := by
    intro rs
    induction rs with
    | nil => intro xs u _ _; simp [dot]
    | cons r rs ih =>
      intro xs u k1 k2
      cases xs with
      | nil => cases k1
      | cons x xs =>
        cases u with
        | nil => cases k2
        | cons y u =>
          rw [List.zip_cons_cons, List.map_cons, dot_cons, dot_cons, dot_cons, ih xs u (by simpa using k1) (by simpa using k2)]
          grind
  rw [q2 rs xs u h1 h2, hP, hd, dot_app z rs xs w h1]
  grind
end K03
namespace K03
open PySem L2 PX
theorem ev_neB {a b : Bool} {μ : Mu} {K : D → Mu → Prop} : Ev (neD (.bl a) (.bl b) μ) K ↔ K (.bl (!decide (a = b))) μ := Iff.rfl
theorem BB_of {a b : Nat} (h : a < b) (hb : b ≤ BB) : a < BB := Nat.lt_of_lt_of_le h hb
theorem e27_BB : 10 ^ 27 ≤ BB := by
  unfold BB
  exact Nat.le_trans (by decide : 10 ^ 27 ≤ 2 ^ 200) (Nat.pow_le_pow_right (by decide) (by decide))
theorem e40_BB : 10 ^ 40 ≤ BB := by
  unfold BB
  exact Nat.le_trans (by decide : 10 ^ 40 ≤ 2 ^ 200) (Nat.pow_le_pow_right (by decide) (by decide))
theorem fit_i {k : Nat} {i : Int} (h : i.natAbs < BB) : fit k (.int i) := by
  have := log_BB h
  cases k <;> (show i.natAbs.log2 < 1920; omega)
theorem fit_tp {k : Nat} {ns : List Int} (h : ∀ x ∈ ns, x.natAbs < BB) (hl : ns.length ≤ 18) : fit (k + 1) (tp ns) := by
  refine ⟨by rw [List.length_map]; exact hl, fun x hx => ?_⟩
  obtain ⟨y, hy, rfl⟩ := List.mem_map.mp hx
  exact fit_i (h y hy)
theorem isNot_non {μ : Mu} {K : D → Mu → Prop} : Ev (lft (Option.map (fun b => D.bl !b) (isNonB .non)) μ) K ↔ K (.bl false) μ := Iff.rfl
theorem isNot_tp {xs : List D} {μ : Mu} {K : D → Mu → Prop} : Ev (lft (Option.map (fun b => D.bl !b) (isNonB (.tup xs))) μ) K ↔ K (.bl true) μ := Iff.rfl
theorem fit_plane {dm : Nat} {ns : List Int} (h : RowP dm ns) (hd : dm ≤ 4) : fit 3 (planeD ns) := by
  unfold planeD
  split
  · trivial
  · exact fit_tp (planeL_bound fun y hy => BB_of (h.2 y hy) e27_BB) (by rw [planeL_len, h.1]; omega)
/-- what is told of a row's value at a point -/
theorem dot_lt {dm : Nat} {ns p : List Int} (h : RowP dm ns) (hd : dm ≤ 4) (hp : ∀ x ∈ p, x.natAbs < 10 ^ 10) : (dot ns p).natAbs < 10 ^ 38 := by
  have q := dot_bound ns p (fun x hx => Nat.le_of_lt (h.2 x hx)) fun x hx => Nat.le_of_lt (hp x hx)
  rw [h.1] at q
  have : (dm + 1) * (10 ^ 27 * 10 ^ 10) ≤ 5 * (10 ^ 27 * 10 ^ 10) := Nat.mul_le_mul_right _ (by omega)
  have e : 5 * (10 ^ 27 * 10 ^ 10) < 10 ^ 38 := by decide
  omega
theorem f29 {n : Nat} (hn : 6 ≤ n) {j c dm : Nat} {ns : List Int} {μ : Mu} (h : MAt j c μ) (hd : dm ≤ 4) (hr : RowP dm ns) (hc : c + 30 ≤ CAP) : Ev (F n 29 [.ref j, .int (dm : Int), tp ns] μ) fun d μ' => d = .bl true ∧ Sj j μ μ' ∧ MAt j (c + 30) μ' := by
  have hB : ∀ x ∈ ns, x.natAbs < BB := fun x hx => BB_of (hr.2 x hx) e27_BB
  have hl : ns.length ≤ 1000 := by rw [hr.1]; omega
  have fp := fit_plane hr hd
  obtain ⟨k, rfl⟩ : ∃ k, n = k + 1 := ⟨n - 1, by omega⟩
  rw [F, s29_eq]
  unfold s29
  simp only [↓ev_out, ↓ev_sqM, ↓ev_foM, ↓ev_setM, ↓ev_asgM, ↓ev_putM, ↓ev_ifM, ↓ev_tvM, ↓ev_tnM, ↓ev_taM, ↓ev_toM, ↓ev_op2, ↓ev_gV, ↓ev_kM, ↓ev_rtM, ↓ev_exM, ↓ev_neM, ↓ev_notM, ↓ev_andM, ↓ev_orM, ↓ev_nxM, ↓ev_app, ↓ev_nil, ↓ev_cons, ↓ev_callF, ↓ev_callM, ↓ev_slM, ↓ev_ptM, ↓ev_asI, ↓ev_seM, ↓ev_itL, ↓ev_itT, ↓ev_mkT, ↓ev_mkL, ↓ev_lcM, ↓ev_dispM, ↓ev_lft, ↓thenK_nx, ↓thenK_rt, ↓thenK_bk, ↓thenK_ct, ↓tgK_s, ↓outK_rt, ↓outK_nx, ↓vK_s, ↓turnK_nx, ↓turnK_rt, ↓turnK_bk, ↓turnK_ct, ↓ev_asB, ↓ev_add, ↓ev_sub, ↓ev_mul, ↓ev_fdiv, ↓ev_mod, ↓ev_pow, ↓ev_neg, ↓ev_eqI, ↓ev_neI, ↓ev_lt, ↓ev_le, ↓ev_gt, ↓ev_ge, ↓ev_gcd, ↓ev_absI, ↓ev_maxI, ↓ev_minI, ↓ev_intI, ↓ev_intB, ↓ev_tupT, ↓ev_tupL, ↓ev_lstT, ↓ev_lstL, ↓ev_lenT, ↓ev_lenL, ↓ev_catL, ↓ev_catT, ↓ev_ixT, ↓ev_ixL, ↓ev_slT, ↓ev_slL, ↓ev_isN, ↓ev_isNotN, ↓ev_zipTT, ↓ev_enumT, ↓ev_enumL, ↓ev_eqS, startD, pick, setTg, setAll, wipeD, List.map_cons, List.map_nil, List.length_cons, List.length_nil, List.cons_append, List.nil_append, List.getElem?_cons_zero, List.getElem?_cons_succ, List.set_cons_zero, List.set_cons_succ, List.replicate_succ, List.replicate_zero, List.filterMap_cons, List.filterMap_nil, Nat.reduceAdd, Nat.reduceSub, Nat.reduceLeDiff, and_self, if_true, decide_eq_true_eq, true_and, and_true, List.set_nil, List.length_set]
  refine (ev_of (f9 (by omega) ns μ hB hl)).mpr ?_
  refine ⟨by decide, ?_⟩
  refine ev_imp (f17d (by omega) h (by omega) (by decide) (by decide)) ?_
  rintro _ μ1 ⟨r, rfl, r0, r1, s1, m1⟩
  simp only [↓ev_out, ↓ev_sqM, ↓ev_foM, ↓ev_setM, ↓ev_asgM, ↓ev_putM, ↓ev_ifM, ↓ev_tvM, ↓ev_tnM, ↓ev_taM, ↓ev_toM, ↓ev_op2, ↓ev_gV, ↓ev_kM, ↓ev_rtM, ↓ev_exM, ↓ev_neM, ↓ev_notM, ↓ev_andM, ↓ev_orM, ↓ev_nxM, ↓ev_app, ↓ev_nil, ↓ev_cons, ↓ev_callF, ↓ev_callM, ↓ev_slM, ↓ev_ptM, ↓ev_asI, ↓ev_seM, ↓ev_itL, ↓ev_itT, ↓ev_mkT, ↓ev_mkL, ↓ev_lcM, ↓ev_dispM, ↓ev_lft, ↓thenK_nx, ↓thenK_rt, ↓thenK_bk, ↓thenK_ct, ↓tgK_s, ↓outK_rt, ↓outK_nx, ↓vK_s, ↓turnK_nx, ↓turnK_rt, ↓turnK_bk, ↓turnK_ct, ↓ev_asB, ↓ev_add, ↓ev_sub, ↓ev_mul, ↓ev_fdiv, ↓ev_mod, ↓ev_pow, ↓ev_neg, ↓ev_eqI, ↓ev_neI, ↓ev_lt, ↓ev_le, ↓ev_gt, ↓ev_ge, ↓ev_gcd, ↓ev_absI, ↓ev_maxI, ↓ev_minI, ↓ev_intI, ↓ev_intB, ↓ev_tupT, ↓ev_tupL, ↓ev_lstT, ↓ev_lstL, ↓ev_lenT, ↓ev_lenL, ↓ev_catL, ↓ev_catT, ↓ev_ixT, ↓ev_ixL, ↓ev_slT, ↓ev_slL, ↓ev_isN, ↓ev_isNotN, ↓ev_zipTT, ↓ev_enumT, ↓ev_enumL, ↓ev_eqS, startD, pick, setTg, setAll, wipeD, List.map_cons, List.map_nil, List.length_cons, List.length_nil, List.cons_append, List.nil_append, List.getElem?_cons_zero, List.getElem?_cons_succ, List.set_cons_zero, List.set_cons_succ, List.replicate_succ, List.replicate_zero, List.filterMap_cons, List.filterMap_nil, Nat.reduceAdd, Nat.reduceSub, Nat.reduceLeDiff, and_self, if_true, decide_eq_true_eq, true_and, and_true, List.set_nil, List.length_set]
  have hby : ∃ by_ : Int, atI ([.int 1, .int (-1), .int 2, .int (-3), .int (10 ^ (12 : Int).toNat)] : List D) r = some (.int by_) ∧ by_ ≠ 0 ∧ by_.natAbs < 10 ^ 13 := by
    have : r = 0 ∨ r = 1 ∨ r = 2 ∨ r = 3 ∨ r = 4 := by omega
    rcases this with rfl | rfl | rfl | rfl | rfl
    · exact ⟨1, rfl, by decide, by decide⟩
    · exact ⟨-1, rfl, by decide, by decide⟩
    · exact ⟨2, rfl, by decide, by decide⟩
    · exact ⟨-3, rfl, by decide, by decide⟩
    · exact ⟨10 ^ (12 : Int).toNat, rfl, by decide, by decide⟩
  obtain ⟨by_, e1, by0, by1⟩ := hby
  rw [e1]
  simp only [↓ev_out, ↓ev_sqM, ↓ev_foM, ↓ev_setM, ↓ev_asgM, ↓ev_putM, ↓ev_ifM, ↓ev_tvM, ↓ev_tnM, ↓ev_taM, ↓ev_toM, ↓ev_op2, ↓ev_gV, ↓ev_kM, ↓ev_rtM, ↓ev_exM, ↓ev_neM, ↓ev_notM, ↓ev_andM, ↓ev_orM, ↓ev_nxM, ↓ev_app, ↓ev_nil, ↓ev_cons, ↓ev_callF, ↓ev_callM, ↓ev_slM, ↓ev_ptM, ↓ev_asI, ↓ev_seM, ↓ev_itL, ↓ev_itT, ↓ev_mkT, ↓ev_mkL, ↓ev_lcM, ↓ev_dispM, ↓ev_lft, ↓thenK_nx, ↓thenK_rt, ↓thenK_bk, ↓thenK_ct, ↓tgK_s, ↓outK_rt, ↓outK_nx, ↓vK_s, ↓turnK_nx, ↓turnK_rt, ↓turnK_bk, ↓turnK_ct, ↓ev_asB, ↓ev_add, ↓ev_sub, ↓ev_mul, ↓ev_fdiv, ↓ev_mod, ↓ev_pow, ↓ev_neg, ↓ev_eqI, ↓ev_neI, ↓ev_lt, ↓ev_le, ↓ev_gt, ↓ev_ge, ↓ev_gcd, ↓ev_absI, ↓ev_maxI, ↓ev_minI, ↓ev_intI, ↓ev_intB, ↓ev_tupT, ↓ev_tupL, ↓ev_lstT, ↓ev_lstL, ↓ev_lenT, ↓ev_lenL, ↓ev_catL, ↓ev_catT, ↓ev_ixT, ↓ev_ixL, ↓ev_slT, ↓ev_slL, ↓ev_isN, ↓ev_isNotN, ↓ev_zipTT, ↓ev_enumT, ↓ev_enumL, ↓ev_eqS, startD, pick, setTg, setAll, wipeD, List.map_cons, List.map_nil, List.length_cons, List.length_nil, List.cons_append, List.nil_append, List.getElem?_cons_zero, List.getElem?_cons_succ, List.set_cons_zero, List.set_cons_succ, List.replicate_succ, List.replicate_zero, List.filterMap_cons, List.filterMap_nil, Nat.reduceAdd, Nat.reduceSub, Nat.reduceLeDiff, and_self, if_true, decide_eq_true_eq, true_and, and_true, List.set_nil, List.length_set]
  refine (ev_of (f26 (by omega) ns μ1 hB hl)).mpr ?_
  refine (ev_of (f18 (by omega) μ1 fp)).mpr ?_
  simp only [↓ev_out, ↓ev_sqM, ↓ev_foM, ↓ev_setM, ↓ev_asgM, ↓ev_putM, ↓ev_ifM, ↓ev_tvM, ↓ev_tnM, ↓ev_taM, ↓ev_toM, ↓ev_op2, ↓ev_gV, ↓ev_kM, ↓ev_rtM, ↓ev_exM, ↓ev_neM, ↓ev_notM, ↓ev_andM, ↓ev_orM, ↓ev_nxM, ↓ev_app, ↓ev_nil, ↓ev_cons, ↓ev_callF, ↓ev_callM, ↓ev_slM, ↓ev_ptM, ↓ev_asI, ↓ev_seM, ↓ev_itL, ↓ev_itT, ↓ev_mkT, ↓ev_mkL, ↓ev_lcM, ↓ev_dispM, ↓ev_lft, ↓thenK_nx, ↓thenK_rt, ↓thenK_bk, ↓thenK_ct, ↓tgK_s, ↓outK_rt, ↓outK_nx, ↓vK_s, ↓turnK_nx, ↓turnK_rt, ↓turnK_bk, ↓turnK_ct, ↓ev_asB, ↓ev_add, ↓ev_sub, ↓ev_mul, ↓ev_fdiv, ↓ev_mod, ↓ev_pow, ↓ev_neg, ↓ev_eqI, ↓ev_neI, ↓ev_lt, ↓ev_le, ↓ev_gt, ↓ev_ge, ↓ev_gcd, ↓ev_absI, ↓ev_maxI, ↓ev_minI, ↓ev_intI, ↓ev_intB, ↓ev_tupT, ↓ev_tupL, ↓ev_lstT, ↓ev_lstL, ↓ev_lenT, ↓ev_lenL, ↓ev_catL, ↓ev_catT, ↓ev_ixT, ↓ev_ixL, ↓ev_slT, ↓ev_slL, ↓ev_isN, ↓ev_isNotN, ↓ev_zipTT, ↓ev_enumT, ↓ev_enumL, ↓ev_eqS, startD, pick, setTg, setAll, wipeD, List.map_cons, List.map_nil, List.length_cons, List.length_nil, List.cons_append, List.nil_append, List.getElem?_cons_zero, List.getElem?_cons_succ, List.set_cons_zero, List.set_cons_succ, List.replicate_succ, List.replicate_zero, List.filterMap_cons, List.filterMap_nil, Nat.reduceAdd, Nat.reduceSub, Nat.reduceLeDiff, and_self, if_true, decide_eq_true_eq, true_and, and_true, List.set_nil, List.length_set, Bool.not_true, Bool.false_eq_true, if_false]
  refine (ev_of (f8 (by omega) ns dm μ1 hr.1)).mpr ?_
  refine (ev_of (f18 (by omega) μ1 (fit_tp hB (by rw [hr.1]; omega)))).mpr ?_
  simp only [↓ev_out, ↓ev_sqM, ↓ev_foM, ↓ev_setM, ↓ev_asgM, ↓ev_putM, ↓ev_ifM, ↓ev_tvM, ↓ev_tnM, ↓ev_taM, ↓ev_toM, ↓ev_op2, ↓ev_gV, ↓ev_kM, ↓ev_rtM, ↓ev_exM, ↓ev_neM, ↓ev_notM, ↓ev_andM, ↓ev_orM, ↓ev_nxM, ↓ev_app, ↓ev_nil, ↓ev_cons, ↓ev_callF, ↓ev_callM, ↓ev_slM, ↓ev_ptM, ↓ev_asI, ↓ev_seM, ↓ev_itL, ↓ev_itT, ↓ev_mkT, ↓ev_mkL, ↓ev_lcM, ↓ev_dispM, ↓ev_lft, ↓thenK_nx, ↓thenK_rt, ↓thenK_bk, ↓thenK_ct, ↓tgK_s, ↓outK_rt, ↓outK_nx, ↓vK_s, ↓turnK_nx, ↓turnK_rt, ↓turnK_bk, ↓turnK_ct, ↓ev_asB, ↓ev_add, ↓ev_sub, ↓ev_mul, ↓ev_fdiv, ↓ev_mod, ↓ev_pow, ↓ev_neg, ↓ev_eqI, ↓ev_neI, ↓ev_lt, ↓ev_le, ↓ev_gt, ↓ev_ge, ↓ev_gcd, ↓ev_absI, ↓ev_maxI, ↓ev_minI, ↓ev_intI, ↓ev_intB, ↓ev_tupT, ↓ev_tupL, ↓ev_lstT, ↓ev_lstL, ↓ev_lenT, ↓ev_lenL, ↓ev_catL, ↓ev_catT, ↓ev_ixT, ↓ev_ixL, ↓ev_slT, ↓ev_slL, ↓ev_isN, ↓ev_isNotN, ↓ev_zipTT, ↓ev_enumT, ↓ev_enumL, ↓ev_eqS, startD, pick, setTg, setAll, wipeD, List.map_cons, List.map_nil, List.length_cons, List.length_nil, List.cons_append, List.nil_append, List.getElem?_cons_zero, List.getElem?_cons_succ, List.set_cons_zero, List.set_cons_succ, List.replicate_succ, List.replicate_zero, List.filterMap_cons, List.filterMap_nil, Nat.reduceAdd, Nat.reduceSub, Nat.reduceLeDiff, and_self, if_true, decide_eq_true_eq, true_and, and_true, List.set_nil, List.length_set, Bool.not_true, Bool.false_eq_true, if_false]
  have lc : ∀ ρ : Rho, ρ = [some (.ref j), some (.int (dm : Int)), some (tp ns), none, none, some (planeD ns), some (.int by_), none, none, none] →
      lcD (.v 9) (kM true) (op2 (gV 6) (gV 9) mulD) (ns.map .int) ρ μ1 = .ok ((ns.map fun x => by_ * x).map .int) μ1 := fun ρ e => by
    subst e
    refine lc_intsI (fun x => by_ * x) fun x hx => ?_
    simp only [↓ev_out, ↓ev_sqM, ↓ev_foM, ↓ev_setM, ↓ev_asgM, ↓ev_putM, ↓ev_ifM, ↓ev_tvM, ↓ev_tnM, ↓ev_taM, ↓ev_toM, ↓ev_op2, ↓ev_gV, ↓ev_kM, ↓ev_rtM, ↓ev_exM, ↓ev_neM, ↓ev_notM, ↓ev_andM, ↓ev_orM, ↓ev_nxM, ↓ev_app, ↓ev_nil, ↓ev_cons, ↓ev_callF, ↓ev_callM, ↓ev_slM, ↓ev_ptM, ↓ev_asI, ↓ev_seM, ↓ev_itL, ↓ev_itT, ↓ev_mkT, ↓ev_mkL, ↓ev_lcM, ↓ev_dispM, ↓ev_lft, ↓thenK_nx, ↓thenK_rt, ↓thenK_bk, ↓thenK_ct, ↓tgK_s, ↓outK_rt, ↓outK_nx, ↓vK_s, ↓turnK_nx, ↓turnK_rt, ↓turnK_bk, ↓turnK_ct, ↓ev_asB, ↓ev_add, ↓ev_sub, ↓ev_mul, ↓ev_fdiv, ↓ev_mod, ↓ev_pow, ↓ev_neg, ↓ev_eqI, ↓ev_neI, ↓ev_lt, ↓ev_le, ↓ev_gt, ↓ev_ge, ↓ev_gcd, ↓ev_absI, ↓ev_maxI, ↓ev_minI, ↓ev_intI, ↓ev_intB, ↓ev_tupT, ↓ev_tupL, ↓ev_lstT, ↓ev_lstL, ↓ev_lenT, ↓ev_lenL, ↓ev_catL, ↓ev_catT, ↓ev_ixT, ↓ev_ixL, ↓ev_slT, ↓ev_slL, ↓ev_isN, ↓ev_isNotN, ↓ev_zipTT, ↓ev_enumT, ↓ev_enumL, ↓ev_eqS, startD, pick, setTg, setAll, wipeD, List.map_cons, List.map_nil, List.length_cons, List.length_nil, List.cons_append, List.nil_append, List.getElem?_cons_zero, List.getElem?_cons_succ, List.set_cons_zero, List.set_cons_succ, List.replicate_succ, List.replicate_zero, List.filterMap_cons, List.filterMap_nil, Nat.reduceAdd, Nat.reduceSub, Nat.reduceLeDiff, and_self, if_true, decide_eq_true_eq, true_and, and_true, List.set_nil, List.length_set]
    exact mul64l (by omega)
  refine (ev_of (lc _ rfl)).mpr ?_
  have hB2 : ∀ x ∈ ns.map (fun x => by_ * x), x.natAbs < BB := fun x hx => by
    obtain ⟨y, hy, rfl⟩ := List.mem_map.mp hx
    refine Nat.lt_of_lt_of_le ?_ e40_BB
    rw [Int.natAbs_mul]
    have h1 := hr.2 y hy
    calc by_.natAbs * y.natAbs ≤ 10 ^ 13 * y.natAbs := Nat.mul_le_mul_right _ (Nat.le_of_lt by1)
      _ < 10 ^ 13 * 10 ^ 27 := Nat.mul_lt_mul_of_pos_left h1 (by decide)
      _ = 10 ^ 40 := by decide
  simp only [↓ev_out, ↓ev_sqM, ↓ev_foM, ↓ev_setM, ↓ev_asgM, ↓ev_putM, ↓ev_ifM, ↓ev_tvM, ↓ev_tnM, ↓ev_taM, ↓ev_toM, ↓ev_op2, ↓ev_gV, ↓ev_kM, ↓ev_rtM, ↓ev_exM, ↓ev_neM, ↓ev_notM, ↓ev_andM, ↓ev_orM, ↓ev_nxM, ↓ev_app, ↓ev_nil, ↓ev_cons, ↓ev_callF, ↓ev_callM, ↓ev_slM, ↓ev_ptM, ↓ev_asI, ↓ev_seM, ↓ev_itL, ↓ev_itT, ↓ev_mkT, ↓ev_mkL, ↓ev_lcM, ↓ev_dispM, ↓ev_lft, ↓thenK_nx, ↓thenK_rt, ↓thenK_bk, ↓thenK_ct, ↓tgK_s, ↓outK_rt, ↓outK_nx, ↓vK_s, ↓turnK_nx, ↓turnK_rt, ↓turnK_bk, ↓turnK_ct, ↓ev_asB, ↓ev_add, ↓ev_sub, ↓ev_mul, ↓ev_fdiv, ↓ev_mod, ↓ev_pow, ↓ev_neg, ↓ev_eqI, ↓ev_neI, ↓ev_lt, ↓ev_le, ↓ev_gt, ↓ev_ge, ↓ev_gcd, ↓ev_absI, ↓ev_maxI, ↓ev_minI, ↓ev_intI, ↓ev_intB, ↓ev_tupT, ↓ev_tupL, ↓ev_lstT, ↓ev_lstL, ↓ev_lenT, ↓ev_lenL, ↓ev_catL, ↓ev_catT, ↓ev_ixT, ↓ev_ixL, ↓ev_slT, ↓ev_slL, ↓ev_isN, ↓ev_isNotN, ↓ev_zipTT, ↓ev_enumT, ↓ev_enumL, ↓ev_eqS, startD, pick, setTg, setAll, wipeD, List.map_cons, List.map_nil, List.length_cons, List.length_nil, List.cons_append, List.nil_append, List.getElem?_cons_zero, List.getElem?_cons_succ, List.set_cons_zero, List.set_cons_succ, List.replicate_succ, List.replicate_zero, List.filterMap_cons, List.filterMap_nil, Nat.reduceAdd, Nat.reduceSub, Nat.reduceLeDiff, and_self, if_true, decide_eq_true_eq, true_and, and_true, List.set_nil, List.length_set, List.length_map, if_pos (show ns.length ≤ 1000000 by omega)]
  refine (ev_of (f9 (by omega) (ns.map fun x => by_ * x) μ1 hB2 (by rw [List.length_map]; exact hl))).mpr ?_
  rw [planeD_mul by0]
  refine (ev_of (f18 (by omega) μ1 fp)).mpr ?_
  simp only [↓ev_out, ↓ev_sqM, ↓ev_foM, ↓ev_setM, ↓ev_asgM, ↓ev_putM, ↓ev_ifM, ↓ev_tvM, ↓ev_tnM, ↓ev_taM, ↓ev_toM, ↓ev_op2, ↓ev_gV, ↓ev_kM, ↓ev_rtM, ↓ev_exM, ↓ev_neM, ↓ev_notM, ↓ev_andM, ↓ev_orM, ↓ev_nxM, ↓ev_app, ↓ev_nil, ↓ev_cons, ↓ev_callF, ↓ev_callM, ↓ev_slM, ↓ev_ptM, ↓ev_asI, ↓ev_seM, ↓ev_itL, ↓ev_itT, ↓ev_mkT, ↓ev_mkL, ↓ev_lcM, ↓ev_dispM, ↓ev_lft, ↓thenK_nx, ↓thenK_rt, ↓thenK_bk, ↓thenK_ct, ↓tgK_s, ↓outK_rt, ↓outK_nx, ↓vK_s, ↓turnK_nx, ↓turnK_rt, ↓turnK_bk, ↓turnK_ct, ↓ev_asB, ↓ev_add, ↓ev_sub, ↓ev_mul, ↓ev_fdiv, ↓ev_mod, ↓ev_pow, ↓ev_neg, ↓ev_eqI, ↓ev_neI, ↓ev_lt, ↓ev_le, ↓ev_gt, ↓ev_ge, ↓ev_gcd, ↓ev_absI, ↓ev_maxI, ↓ev_minI, ↓ev_intI, ↓ev_intB, ↓ev_tupT, ↓ev_tupL, ↓ev_lstT, ↓ev_lstL, ↓ev_lenT, ↓ev_lenL, ↓ev_catL, ↓ev_catT, ↓ev_ixT, ↓ev_ixL, ↓ev_slT, ↓ev_slL, ↓ev_isN, ↓ev_isNotN, ↓ev_zipTT, ↓ev_enumT, ↓ev_enumL, ↓ev_eqS, startD, pick, setTg, setAll, wipeD, List.map_cons, List.map_nil, List.length_cons, List.length_nil, List.cons_append, List.nil_append, List.getElem?_cons_zero, List.getElem?_cons_succ, List.set_cons_zero, List.set_cons_succ, List.replicate_succ, List.replicate_zero, List.filterMap_cons, List.filterMap_nil, Nat.reduceAdd, Nat.reduceSub, Nat.reduceLeDiff, and_self, if_true, decide_eq_true_eq, true_and, and_true, List.set_nil, List.length_set, Bool.not_true, Bool.false_eq_true, if_false]
  -- the rest, whatever the plane is
  have tail : ∀ (q : D), (q = .non ∨ ∃ x, q = tp (planeL ns x)) → q = planeD ns → Ev (sqM (setM (lcM (appM rng1 [(kM (.int 3))]) (.v 8) (kM true) (callF (lev tab bis k 28) ⟨2, [], [0, 1]⟩ 2 [(gV 0), (gV 1)] []) [8]) 3) (sqM (foM (seM (gV 3)) (.v 4) (sqM (setM (callF (lev tab bis k 24) ⟨2, [], [0, 1]⟩ 2 [(gV 2), (gV 4)] []) 7) (sqM (ifM (tnM (tvM (callF (lev tab bis k 18) ⟨2, [], [0, 1]⟩ 2 [(appM mkL [(callF (lev tab bis k 12) ⟨2, [], [0, 1]⟩ 2 [(gV 2), (gV 4)] []), (callF (lev tab bis k 13) ⟨2, [], [0, 1]⟩ 2 [(gV 2), (gV 4)] [])]), (appM mkL [(callF (lev tab bis k 22) ⟨2, [], [0, 1]⟩ 2 [(gV 7), (op2 (gV 4) (neM (kM (.int 1))) ixD)] []), (callF (lev tab bis k 19) ⟨1, [], [0]⟩ 1 [(gV 7)] [])])] []))) (sqM (rtM (kM (.bl false))) nxM) nxM) (sqM (ifM (taM (tvM (op2 (gV 5) (kM .non) isNotD)) (tvM (op2 (op2 (callF (lev tab bis k 13) ⟨2, [], [0, 1]⟩ 2 [(gV 5), (gV 4)] []) (kM (.int 0)) eqD) (op2 (gV 7) (kM (.int 0)) eqD) neD))) (sqM (rtM (kM (.bl false))) nxM) nxM) nxM)))) (sqM (rtM (kM (.bl true))) nxM))
      [some (.ref j), some (.int (dm : Int)), some (tp ns), none, none, some q, some (.int by_), none, none, none] μ1) (outK fun d μ' => d = .bl true ∧ Sj j μ μ' ∧ MAt j (c + 30) μ') := fun q hq hqe => by
    simp only [↓ev_out, ↓ev_sqM, ↓ev_foM, ↓ev_setM, ↓ev_asgM, ↓ev_putM, ↓ev_ifM, ↓ev_tvM, ↓ev_tnM, ↓ev_taM, ↓ev_toM, ↓ev_op2, ↓ev_gV, ↓ev_kM, ↓ev_rtM, ↓ev_exM, ↓ev_neM, ↓ev_notM, ↓ev_andM, ↓ev_orM, ↓ev_nxM, ↓ev_app, ↓ev_nil, ↓ev_cons, ↓ev_callF, ↓ev_callM, ↓ev_slM, ↓ev_ptM, ↓ev_asI, ↓ev_seM, ↓ev_itL, ↓ev_itT, ↓ev_mkT, ↓ev_mkL, ↓ev_lcM, ↓ev_dispM, ↓ev_lft, ↓thenK_nx, ↓thenK_rt, ↓thenK_bk, ↓thenK_ct, ↓tgK_s, ↓outK_rt, ↓outK_nx, ↓vK_s, ↓turnK_nx, ↓turnK_rt, ↓turnK_bk, ↓turnK_ct, ↓ev_asB, ↓ev_add, ↓ev_sub, ↓ev_mul, ↓ev_fdiv, ↓ev_mod, ↓ev_pow, ↓ev_neg, ↓ev_eqI, ↓ev_neI, ↓ev_lt, ↓ev_le, ↓ev_gt, ↓ev_ge, ↓ev_gcd, ↓ev_absI, ↓ev_maxI, ↓ev_minI, ↓ev_intI, ↓ev_intB, ↓ev_tupT, ↓ev_tupL, ↓ev_lstT, ↓ev_lstL, ↓ev_lenT, ↓ev_lenL, ↓ev_catL, ↓ev_catT, ↓ev_ixT, ↓ev_ixL, ↓ev_slT, ↓ev_slL, ↓ev_isN, ↓ev_isNotN, ↓ev_zipTT, ↓ev_enumT, ↓ev_enumL, ↓ev_eqS, startD, pick, setTg, setAll, wipeD, List.map_cons, List.map_nil, List.length_cons, List.length_nil, List.cons_append, List.nil_append, List.getElem?_cons_zero, List.getElem?_cons_succ, List.set_cons_zero, List.set_cons_succ, List.replicate_succ, List.replicate_zero, List.filterMap_cons, List.filterMap_nil, Nat.reduceAdd, Nat.reduceSub, Nat.reduceLeDiff, and_self, if_true, decide_eq_true_eq, true_and, and_true, List.set_nil, List.length_set]
    rw [show (3 : Int) = ((3 : Nat) : Int) from rfl, rng1_ok (show 3 ≤ 1000000 by decide)]
    refine ev_imp (lc_st (N := 6) (cap := CAP) (Q := SpotP dm) (rngD 0 3) (fun d hd' c' μ2 hc' m => ?_) (c + 1) μ1 (by rw [rngD_length]; omega) m1) ?_
    · simp only [↓ev_out, ↓ev_sqM, ↓ev_foM, ↓ev_setM, ↓ev_asgM, ↓ev_putM, ↓ev_ifM, ↓ev_tvM, ↓ev_tnM, ↓ev_taM, ↓ev_toM, ↓ev_op2, ↓ev_gV, ↓ev_kM, ↓ev_rtM, ↓ev_exM, ↓ev_neM, ↓ev_notM, ↓ev_andM, ↓ev_orM, ↓ev_nxM, ↓ev_app, ↓ev_nil, ↓ev_cons, ↓ev_callF, ↓ev_callM, ↓ev_slM, ↓ev_ptM, ↓ev_asI, ↓ev_seM, ↓ev_itL, ↓ev_itT, ↓ev_mkT, ↓ev_mkL, ↓ev_lcM, ↓ev_dispM, ↓ev_lft, ↓thenK_nx, ↓thenK_rt, ↓thenK_bk, ↓thenK_ct, ↓tgK_s, ↓outK_rt, ↓outK_nx, ↓vK_s, ↓turnK_nx, ↓turnK_rt, ↓turnK_bk, ↓turnK_ct, ↓ev_asB, ↓ev_add, ↓ev_sub, ↓ev_mul, ↓ev_fdiv, ↓ev_mod, ↓ev_pow, ↓ev_neg, ↓ev_eqI, ↓ev_neI, ↓ev_lt, ↓ev_le, ↓ev_gt, ↓ev_ge, ↓ev_gcd, ↓ev_absI, ↓ev_maxI, ↓ev_minI, ↓ev_intI, ↓ev_intB, ↓ev_tupT, ↓ev_tupL, ↓ev_lstT, ↓ev_lstL, ↓ev_lenT, ↓ev_lenL, ↓ev_catL, ↓ev_catT, ↓ev_ixT, ↓ev_ixL, ↓ev_slT, ↓ev_slL, ↓ev_isN, ↓ev_isNotN, ↓ev_zipTT, ↓ev_enumT, ↓ev_enumL, ↓ev_eqS, startD, pick, setTg, setAll, wipeD, List.map_cons, List.map_nil, List.length_cons, List.length_nil, List.cons_append, List.nil_append, List.getElem?_cons_zero, List.getElem?_cons_succ, List.set_cons_zero, List.set_cons_succ, List.replicate_succ, List.replicate_zero, List.filterMap_cons, List.filterMap_nil, Nat.reduceAdd, Nat.reduceSub, Nat.reduceLeDiff, and_self, if_true, decide_eq_true_eq, true_and, and_true, List.set_nil, List.length_set]
      exact f28 (by omega) m hd hc'
    rintro ys μ2 ⟨q1, q2, s2, m2⟩
    rw [rngD_length] at q1 m2
    simp only [↓ev_out, ↓ev_sqM, ↓ev_foM, ↓ev_setM, ↓ev_asgM, ↓ev_putM, ↓ev_ifM, ↓ev_tvM, ↓ev_tnM, ↓ev_taM, ↓ev_toM, ↓ev_op2, ↓ev_gV, ↓ev_kM, ↓ev_rtM, ↓ev_exM, ↓ev_neM, ↓ev_notM, ↓ev_andM, ↓ev_orM, ↓ev_nxM, ↓ev_app, ↓ev_nil, ↓ev_cons, ↓ev_callF, ↓ev_callM, ↓ev_slM, ↓ev_ptM, ↓ev_asI, ↓ev_seM, ↓ev_itL, ↓ev_itT, ↓ev_mkT, ↓ev_mkL, ↓ev_lcM, ↓ev_dispM, ↓ev_lft, ↓thenK_nx, ↓thenK_rt, ↓thenK_bk, ↓thenK_ct, ↓tgK_s, ↓outK_rt, ↓outK_nx, ↓vK_s, ↓turnK_nx, ↓turnK_rt, ↓turnK_bk, ↓turnK_ct, ↓ev_asB, ↓ev_add, ↓ev_sub, ↓ev_mul, ↓ev_fdiv, ↓ev_mod, ↓ev_pow, ↓ev_neg, ↓ev_eqI, ↓ev_neI, ↓ev_lt, ↓ev_le, ↓ev_gt, ↓ev_ge, ↓ev_gcd, ↓ev_absI, ↓ev_maxI, ↓ev_minI, ↓ev_intI, ↓ev_intB, ↓ev_tupT, ↓ev_tupL, ↓ev_lstT, ↓ev_lstL, ↓ev_lenT, ↓ev_lenL, ↓ev_catL, ↓ev_catT, ↓ev_ixT, ↓ev_ixL, ↓ev_slT, ↓ev_slL, ↓ev_isN, ↓ev_isNotN, ↓ev_zipTT, ↓ev_enumT, ↓ev_enumL, ↓ev_eqS, startD, pick, setTg, setAll, wipeD, List.map_cons, List.map_nil, List.length_cons, List.length_nil, List.cons_append, List.nil_append, List.getElem?_cons_zero, List.getElem?_cons_succ, List.set_cons_zero, List.set_cons_succ, List.replicate_succ, List.replicate_zero, List.filterMap_cons, List.filterMap_nil, Nat.reduceAdd, Nat.reduceSub, Nat.reduceLeDiff, and_self, if_true, decide_eq_true_eq, true_and, and_true, List.set_nil, List.length_set, q1, if_pos (show 3 ≤ 1000000 by decide)]
    have s12 := s1.trans s2
    have m30 : MAt j (c + 30) μ2 := m2.le (by omega)
    refine ev_for (fun ds ρ μ' => μ' = μ2 ∧ (∀ d ∈ ds, SpotP dm d) ∧ ∃ o4 o7, ρ = [some (.ref j), some (.int (dm : Int)), some (tp ns), some (.lst ys), o4, some q, some (.int by_), o7, none, none]) ?_ ?_ _ _ _ ⟨rfl, q2, none, none, rfl⟩
    · rintro x rest ρ μ' ⟨rfl, hs, o4, o7, rfl⟩
      obtain ⟨xs, w, rfl, hx1, hx2, hx3⟩ := hs x List.mem_cons_self
      have hsm : Sm (xs ++ [w]) := fun y hy => Nat.lt_trans (hx3 y hy) (by decide)
      have hlen : (xs ++ [w]).length ≤ 1000 := by rw [List.length_append, hx1]; simp; omega
      have hdot := dot_lt hr hd fun y hy => Nat.lt_trans (hx3 y hy) (by decide : 10 < 10 ^ 10)
      have hdB : (dot ns (xs ++ [w])).natAbs < BB := Nat.lt_of_lt_of_le (Nat.lt_trans hdot (by decide : 10 ^ 38 < 10 ^ 40)) e40_BB
      have hwB : w.natAbs < BB := Nat.lt_of_lt_of_le (hx3 w (by simp)) ten_BB
      have h2B : ∀ y ∈ [dot ns (xs ++ [w]), w], y.natAbs < BB := fun y hy => by
        rcases List.mem_cons.mp hy with z | z
        · rw [z]; exact hdB
        · rw [List.mem_singleton.mp z]; exact hwB
      refine ⟨_, rfl, ?_⟩
      simp only [↓ev_out, ↓ev_sqM, ↓ev_foM, ↓ev_setM, ↓ev_asgM, ↓ev_putM, ↓ev_ifM, ↓ev_tvM, ↓ev_tnM, ↓ev_taM, ↓ev_toM, ↓ev_op2, ↓ev_gV, ↓ev_kM, ↓ev_rtM, ↓ev_exM, ↓ev_neM, ↓ev_notM, ↓ev_andM, ↓ev_orM, ↓ev_nxM, ↓ev_app, ↓ev_nil, ↓ev_cons, ↓ev_callF, ↓ev_callM, ↓ev_slM, ↓ev_ptM, ↓ev_asI, ↓ev_seM, ↓ev_itL, ↓ev_itT, ↓ev_mkT, ↓ev_mkL, ↓ev_lcM, ↓ev_dispM, ↓ev_lft, ↓thenK_nx, ↓thenK_rt, ↓thenK_bk, ↓thenK_ct, ↓tgK_s, ↓outK_rt, ↓outK_nx, ↓vK_s, ↓turnK_nx, ↓turnK_rt, ↓turnK_bk, ↓turnK_ct, ↓ev_asB, ↓ev_add, ↓ev_sub, ↓ev_mul, ↓ev_fdiv, ↓ev_mod, ↓ev_pow, ↓ev_neg, ↓ev_eqI, ↓ev_neI, ↓ev_lt, ↓ev_le, ↓ev_gt, ↓ev_ge, ↓ev_gcd, ↓ev_absI, ↓ev_maxI, ↓ev_minI, ↓ev_intI, ↓ev_intB, ↓ev_tupT, ↓ev_tupL, ↓ev_lstT, ↓ev_lstL, ↓ev_lenT, ↓ev_lenL, ↓ev_catL, ↓ev_catT, ↓ev_ixT, ↓ev_ixL, ↓ev_slT, ↓ev_slL, ↓ev_isN, ↓ev_isNotN, ↓ev_zipTT, ↓ev_enumT, ↓ev_enumL, ↓ev_eqS, startD, pick, setTg, setAll, wipeD, List.map_cons, List.map_nil, List.length_cons, List.length_nil, List.cons_append, List.nil_append, List.getElem?_cons_zero, List.getElem?_cons_succ, List.set_cons_zero, List.set_cons_succ, List.replicate_succ, List.replicate_zero, List.filterMap_cons, List.filterMap_nil, Nat.reduceAdd, Nat.reduceSub, Nat.reduceLeDiff, and_self, if_true, decide_eq_true_eq, true_and, and_true, List.set_nil, List.length_set]
      refine (ev_of (f24 (by omega) ns (xs ++ [w]) μ' hsm hlen)).mpr ?_
      simp only [↓ev_out, ↓ev_sqM, ↓ev_foM, ↓ev_setM, ↓ev_asgM, ↓ev_putM, ↓ev_ifM, ↓ev_tvM, ↓ev_tnM, ↓ev_taM, ↓ev_toM, ↓ev_op2, ↓ev_gV, ↓ev_kM, ↓ev_rtM, ↓ev_exM, ↓ev_neM, ↓ev_notM, ↓ev_andM, ↓ev_orM, ↓ev_nxM, ↓ev_app, ↓ev_nil, ↓ev_cons, ↓ev_callF, ↓ev_callM, ↓ev_slM, ↓ev_ptM, ↓ev_asI, ↓ev_seM, ↓ev_itL, ↓ev_itT, ↓ev_mkT, ↓ev_mkL, ↓ev_lcM, ↓ev_dispM, ↓ev_lft, ↓thenK_nx, ↓thenK_rt, ↓thenK_bk, ↓thenK_ct, ↓tgK_s, ↓outK_rt, ↓outK_nx, ↓vK_s, ↓turnK_nx, ↓turnK_rt, ↓turnK_bk, ↓turnK_ct, ↓ev_asB, ↓ev_add, ↓ev_sub, ↓ev_mul, ↓ev_fdiv, ↓ev_mod, ↓ev_pow, ↓ev_neg, ↓ev_eqI, ↓ev_neI, ↓ev_lt, ↓ev_le, ↓ev_gt, ↓ev_ge, ↓ev_gcd, ↓ev_absI, ↓ev_maxI, ↓ev_minI, ↓ev_intI, ↓ev_intB, ↓ev_tupT, ↓ev_tupL, ↓ev_lstT, ↓ev_lstL, ↓ev_lenT, ↓ev_lenL, ↓ev_catL, ↓ev_catT, ↓ev_ixT, ↓ev_ixL, ↓ev_slT, ↓ev_slL, ↓ev_isN, ↓ev_isNotN, ↓ev_zipTT, ↓ev_enumT, ↓ev_enumL, ↓ev_eqS, startD, pick, setTg, setAll, wipeD, List.map_cons, List.map_nil, List.length_cons, List.length_nil, List.cons_append, List.nil_append, List.getElem?_cons_zero, List.getElem?_cons_succ, List.set_cons_zero, List.set_cons_succ, List.replicate_succ, List.replicate_zero, List.filterMap_cons, List.filterMap_nil, Nat.reduceAdd, Nat.reduceSub, Nat.reduceLeDiff, and_self, if_true, decide_eq_true_eq, true_and, and_true, List.set_nil, List.length_set]
      refine (ev_of (f12 (by omega) ns xs w μ' hsm (by omega) hx2)).mpr ?_
      refine (ev_of (f13 (by omega) ns (xs ++ [w]) μ' hsm hlen)).mpr ?_
      try simp only [↓ev_out, ↓ev_sqM, ↓ev_foM, ↓ev_setM, ↓ev_asgM, ↓ev_putM, ↓ev_ifM, ↓ev_tvM, ↓ev_tnM, ↓ev_taM, ↓ev_toM, ↓ev_op2, ↓ev_gV, ↓ev_kM, ↓ev_rtM, ↓ev_exM, ↓ev_neM, ↓ev_notM, ↓ev_andM, ↓ev_orM, ↓ev_nxM, ↓ev_app, ↓ev_nil, ↓ev_cons, ↓ev_callF, ↓ev_callM, ↓ev_slM, ↓ev_ptM, ↓ev_asI, ↓ev_seM, ↓ev_itL, ↓ev_itT, ↓ev_mkT, ↓ev_mkL, ↓ev_lcM, ↓ev_dispM, ↓ev_lft, ↓thenK_nx, ↓thenK_rt, ↓thenK_bk, ↓thenK_ct, ↓tgK_s, ↓outK_rt, ↓outK_nx, ↓vK_s, ↓turnK_nx, ↓turnK_rt, ↓turnK_bk, ↓turnK_ct, ↓ev_asB, ↓ev_add, ↓ev_sub, ↓ev_mul, ↓ev_fdiv, ↓ev_mod, ↓ev_pow, ↓ev_neg, ↓ev_eqI, ↓ev_neI, ↓ev_lt, ↓ev_le, ↓ev_gt, ↓ev_ge, ↓ev_gcd, ↓ev_absI, ↓ev_maxI, ↓ev_minI, ↓ev_intI, ↓ev_intB, ↓ev_tupT, ↓ev_tupL, ↓ev_lstT, ↓ev_lstL, ↓ev_lenT, ↓ev_lenL, ↓ev_catL, ↓ev_catT, ↓ev_ixT, ↓ev_ixL, ↓ev_slT, ↓ev_slL, ↓ev_isN, ↓ev_isNotN, ↓ev_zipTT, ↓ev_enumT, ↓ev_enumL, ↓ev_eqS, startD, pick, setTg, setAll, wipeD, List.map_cons, List.map_nil, List.length_cons, List.length_nil, List.cons_append, List.nil_append, List.getElem?_cons_zero, List.getElem?_cons_succ, List.set_cons_zero, List.set_cons_succ, List.replicate_succ, List.replicate_zero, List.filterMap_cons, List.filterMap_nil, Nat.reduceAdd, Nat.reduceSub, Nat.reduceLeDiff, and_self, if_true, decide_eq_true_eq, true_and, and_true, List.set_nil, List.length_set, if_pos (show 2 ≤ 1000000 by decide)]
      rw [show List.map D.int (xs ++ [w]) = List.map D.int xs ++ [D.int w] by simp, at_last]
      simp only [↓ev_out, ↓ev_sqM, ↓ev_foM, ↓ev_setM, ↓ev_asgM, ↓ev_putM, ↓ev_ifM, ↓ev_tvM, ↓ev_tnM, ↓ev_taM, ↓ev_toM, ↓ev_op2, ↓ev_gV, ↓ev_kM, ↓ev_rtM, ↓ev_exM, ↓ev_neM, ↓ev_notM, ↓ev_andM, ↓ev_orM, ↓ev_nxM, ↓ev_app, ↓ev_nil, ↓ev_cons, ↓ev_callF, ↓ev_callM, ↓ev_slM, ↓ev_ptM, ↓ev_asI, ↓ev_seM, ↓ev_itL, ↓ev_itT, ↓ev_mkT, ↓ev_mkL, ↓ev_lcM, ↓ev_dispM, ↓ev_lft, ↓thenK_nx, ↓thenK_rt, ↓thenK_bk, ↓thenK_ct, ↓tgK_s, ↓outK_rt, ↓outK_nx, ↓vK_s, ↓turnK_nx, ↓turnK_rt, ↓turnK_bk, ↓turnK_ct, ↓ev_asB, ↓ev_add, ↓ev_sub, ↓ev_mul, ↓ev_fdiv, ↓ev_mod, ↓ev_pow, ↓ev_neg, ↓ev_eqI, ↓ev_neI, ↓ev_lt, ↓ev_le, ↓ev_gt, ↓ev_ge, ↓ev_gcd, ↓ev_absI, ↓ev_maxI, ↓ev_minI, ↓ev_intI, ↓ev_intB, ↓ev_tupT, ↓ev_tupL, ↓ev_lstT, ↓ev_lstL, ↓ev_lenT, ↓ev_lenL, ↓ev_catL, ↓ev_catT, ↓ev_ixT, ↓ev_ixL, ↓ev_slT, ↓ev_slL, ↓ev_isN, ↓ev_isNotN, ↓ev_zipTT, ↓ev_enumT, ↓ev_enumL, ↓ev_eqS, startD, pick, setTg, setAll, wipeD, List.map_cons, List.map_nil, List.length_cons, List.length_nil, List.cons_append, List.nil_append, List.getElem?_cons_zero, List.getElem?_cons_succ, List.set_cons_zero, List.set_cons_succ, List.replicate_succ, List.replicate_zero, List.filterMap_cons, List.filterMap_nil, Nat.reduceAdd, Nat.reduceSub, Nat.reduceLeDiff, and_self, if_true, decide_eq_true_eq, true_and, and_true, List.set_nil, List.length_set]
      refine (ev_of (f22 (by omega) (dot ns (xs ++ [w])) w μ' hx2 h2B)).mpr ?_
      refine (ev_of (f19 (by omega) (dot ns (xs ++ [w])) μ')).mpr ?_
      have hfit : fit 3 (.lst [tp (lowL [dot ns (xs ++ [w]), w]), .int (sgn (dot ns (xs ++ [w])))]) := by
        refine ⟨by simp, fun y hy => ?_⟩
        rcases List.mem_cons.mp hy with z | z
        · rw [z]; exact fit_tp (k := 1) (lowL_bound h2B) (by rw [lowL_len]; simp)
        · rw [List.mem_singleton.mp z]
          refine fit_i ?_
          unfold sgn
          refine Nat.lt_of_lt_of_le ?_ ten_BB
          split
          · decide
          · split <;> decide
      refine (ev_of (f18 (by omega) μ' hfit)).mpr ?_
      simp only [↓ev_out, ↓ev_sqM, ↓ev_foM, ↓ev_setM, ↓ev_asgM, ↓ev_putM, ↓ev_ifM, ↓ev_tvM, ↓ev_tnM, ↓ev_taM, ↓ev_toM, ↓ev_op2, ↓ev_gV, ↓ev_kM, ↓ev_rtM, ↓ev_exM, ↓ev_neM, ↓ev_notM, ↓ev_andM, ↓ev_orM, ↓ev_nxM, ↓ev_app, ↓ev_nil, ↓ev_cons, ↓ev_callF, ↓ev_callM, ↓ev_slM, ↓ev_ptM, ↓ev_asI, ↓ev_seM, ↓ev_itL, ↓ev_itT, ↓ev_mkT, ↓ev_mkL, ↓ev_lcM, ↓ev_dispM, ↓ev_lft, ↓thenK_nx, ↓thenK_rt, ↓thenK_bk, ↓thenK_ct, ↓tgK_s, ↓outK_rt, ↓outK_nx, ↓vK_s, ↓turnK_nx, ↓turnK_rt, ↓turnK_bk, ↓turnK_ct, ↓ev_asB, ↓ev_add, ↓ev_sub, ↓ev_mul, ↓ev_fdiv, ↓ev_mod, ↓ev_pow, ↓ev_neg, ↓ev_eqI, ↓ev_neI, ↓ev_lt, ↓ev_le, ↓ev_gt, ↓ev_ge, ↓ev_gcd, ↓ev_absI, ↓ev_maxI, ↓ev_minI, ↓ev_intI, ↓ev_intB, ↓ev_tupT, ↓ev_tupL, ↓ev_lstT, ↓ev_lstL, ↓ev_lenT, ↓ev_lenL, ↓ev_catL, ↓ev_catT, ↓ev_ixT, ↓ev_ixL, ↓ev_slT, ↓ev_slL, ↓ev_isN, ↓ev_isNotN, ↓ev_zipTT, ↓ev_enumT, ↓ev_enumL, ↓ev_eqS, startD, pick, setTg, setAll, wipeD, List.map_cons, List.map_nil, List.length_cons, List.length_nil, List.cons_append, List.nil_append, List.getElem?_cons_zero, List.getElem?_cons_succ, List.set_cons_zero, List.set_cons_succ, List.replicate_succ, List.replicate_zero, List.filterMap_cons, List.filterMap_nil, Nat.reduceAdd, Nat.reduceSub, Nat.reduceLeDiff, and_self, if_true, decide_eq_true_eq, true_and, and_true, List.set_nil, List.length_set, Bool.not_true, Bool.false_eq_true, if_false]
      rcases hq with rfl | ⟨x, rfl⟩
      · rw [isNot_non]
        simp only [↓ev_out, ↓ev_sqM, ↓ev_foM, ↓ev_setM, ↓ev_asgM, ↓ev_putM, ↓ev_ifM, ↓ev_tvM, ↓ev_tnM, ↓ev_taM, ↓ev_toM, ↓ev_op2, ↓ev_gV, ↓ev_kM, ↓ev_rtM, ↓ev_exM, ↓ev_neM, ↓ev_notM, ↓ev_andM, ↓ev_orM, ↓ev_nxM, ↓ev_app, ↓ev_nil, ↓ev_cons, ↓ev_callF, ↓ev_callM, ↓ev_slM, ↓ev_ptM, ↓ev_asI, ↓ev_seM, ↓ev_itL, ↓ev_itT, ↓ev_mkT, ↓ev_mkL, ↓ev_lcM, ↓ev_dispM, ↓ev_lft, ↓thenK_nx, ↓thenK_rt, ↓thenK_bk, ↓thenK_ct, ↓tgK_s, ↓outK_rt, ↓outK_nx, ↓vK_s, ↓turnK_nx, ↓turnK_rt, ↓turnK_bk, ↓turnK_ct, ↓ev_asB, ↓ev_add, ↓ev_sub, ↓ev_mul, ↓ev_fdiv, ↓ev_mod, ↓ev_pow, ↓ev_neg, ↓ev_eqI, ↓ev_neI, ↓ev_lt, ↓ev_le, ↓ev_gt, ↓ev_ge, ↓ev_gcd, ↓ev_absI, ↓ev_maxI, ↓ev_minI, ↓ev_intI, ↓ev_intB, ↓ev_tupT, ↓ev_tupL, ↓ev_lstT, ↓ev_lstL, ↓ev_lenT, ↓ev_lenL, ↓ev_catL, ↓ev_catT, ↓ev_ixT, ↓ev_ixL, ↓ev_slT, ↓ev_slL, ↓ev_isN, ↓ev_isNotN, ↓ev_zipTT, ↓ev_enumT, ↓ev_enumL, ↓ev_eqS, startD, pick, setTg, setAll, wipeD, List.map_cons, List.map_nil, List.length_cons, List.length_nil, List.cons_append, List.nil_append, List.getElem?_cons_zero, List.getElem?_cons_succ, List.set_cons_zero, List.set_cons_succ, List.replicate_succ, List.replicate_zero, List.filterMap_cons, List.filterMap_nil, Nat.reduceAdd, Nat.reduceSub, Nat.reduceLeDiff, and_self, if_true, decide_eq_true_eq, true_and, and_true, List.set_nil, List.length_set, Bool.false_eq_true, if_false]
        exact ⟨fun d hd => hs d (List.mem_cons_of_mem _ hd), _, _, rfl⟩
      · rw [isNot_tp]
        simp only [↓ev_out, ↓ev_sqM, ↓ev_foM, ↓ev_setM, ↓ev_asgM, ↓ev_putM, ↓ev_ifM, ↓ev_tvM, ↓ev_tnM, ↓ev_taM, ↓ev_toM, ↓ev_op2, ↓ev_gV, ↓ev_kM, ↓ev_rtM, ↓ev_exM, ↓ev_neM, ↓ev_notM, ↓ev_andM, ↓ev_orM, ↓ev_nxM, ↓ev_app, ↓ev_nil, ↓ev_cons, ↓ev_callF, ↓ev_callM, ↓ev_slM, ↓ev_ptM, ↓ev_asI, ↓ev_seM, ↓ev_itL, ↓ev_itT, ↓ev_mkT, ↓ev_mkL, ↓ev_lcM, ↓ev_dispM, ↓ev_lft, ↓thenK_nx, ↓thenK_rt, ↓thenK_bk, ↓thenK_ct, ↓tgK_s, ↓outK_rt, ↓outK_nx, ↓vK_s, ↓turnK_nx, ↓turnK_rt, ↓turnK_bk, ↓turnK_ct, ↓ev_asB, ↓ev_add, ↓ev_sub, ↓ev_mul, ↓ev_fdiv, ↓ev_mod, ↓ev_pow, ↓ev_neg, ↓ev_eqI, ↓ev_neI, ↓ev_lt, ↓ev_le, ↓ev_gt, ↓ev_ge, ↓ev_gcd, ↓ev_absI, ↓ev_maxI, ↓ev_minI, ↓ev_intI, ↓ev_intB, ↓ev_tupT, ↓ev_tupL, ↓ev_lstT, ↓ev_lstL, ↓ev_lenT, ↓ev_lenL, ↓ev_catL, ↓ev_catT, ↓ev_ixT, ↓ev_ixL, ↓ev_slT, ↓ev_slL, ↓ev_isN, ↓ev_isNotN, ↓ev_zipTT, ↓ev_enumT, ↓ev_enumL, ↓ev_eqS, startD, pick, setTg, setAll, wipeD, List.map_cons, List.map_nil, List.length_cons, List.length_nil, List.cons_append, List.nil_append, List.getElem?_cons_zero, List.getElem?_cons_succ, List.set_cons_zero, List.set_cons_succ, List.replicate_succ, List.replicate_zero, List.filterMap_cons, List.filterMap_nil, Nat.reduceAdd, Nat.reduceSub, Nat.reduceLeDiff, and_self, if_true, decide_eq_true_eq, true_and, and_true, List.set_nil, List.length_set, if_true]
        refine (ev_of (f13 (by omega) (planeL ns x) (xs ++ [w]) μ' hsm hlen)).mpr ?_
        have ez : decide (sgn (dot (planeL ns x) (xs ++ [w])) = 0) = decide (dot ns (xs ++ [w]) = 0) := by
          rw [decide_eq_decide, sgn_zero]
          exact planeL_zero _
        simp only [↓ev_out, ↓ev_sqM, ↓ev_foM, ↓ev_setM, ↓ev_asgM, ↓ev_putM, ↓ev_ifM, ↓ev_tvM, ↓ev_tnM, ↓ev_taM, ↓ev_toM, ↓ev_op2, ↓ev_gV, ↓ev_kM, ↓ev_rtM, ↓ev_exM, ↓ev_neM, ↓ev_notM, ↓ev_andM, ↓ev_orM, ↓ev_nxM, ↓ev_app, ↓ev_nil, ↓ev_cons, ↓ev_callF, ↓ev_callM, ↓ev_slM, ↓ev_ptM, ↓ev_asI, ↓ev_seM, ↓ev_itL, ↓ev_itT, ↓ev_mkT, ↓ev_mkL, ↓ev_lcM, ↓ev_dispM, ↓ev_lft, ↓thenK_nx, ↓thenK_rt, ↓thenK_bk, ↓thenK_ct, ↓tgK_s, ↓outK_rt, ↓outK_nx, ↓vK_s, ↓turnK_nx, ↓turnK_rt, ↓turnK_bk, ↓turnK_ct, ↓ev_asB, ↓ev_add, ↓ev_sub, ↓ev_mul, ↓ev_fdiv, ↓ev_mod, ↓ev_pow, ↓ev_neg, ↓ev_eqI, ↓ev_neI, ↓ev_lt, ↓ev_le, ↓ev_gt, ↓ev_ge, ↓ev_gcd, ↓ev_absI, ↓ev_maxI, ↓ev_minI, ↓ev_intI, ↓ev_intB, ↓ev_tupT, ↓ev_tupL, ↓ev_lstT, ↓ev_lstL, ↓ev_lenT, ↓ev_lenL, ↓ev_catL, ↓ev_catT, ↓ev_ixT, ↓ev_ixL, ↓ev_slT, ↓ev_slL, ↓ev_isN, ↓ev_isNotN, ↓ev_zipTT, ↓ev_enumT, ↓ev_enumL, ↓ev_eqS, startD, pick, setTg, setAll, wipeD, List.map_cons, List.map_nil, List.length_cons, List.length_nil, List.cons_append, List.nil_append, List.getElem?_cons_zero, List.getElem?_cons_succ, List.set_cons_zero, List.set_cons_succ, List.replicate_succ, List.replicate_zero, List.filterMap_cons, List.filterMap_nil, Nat.reduceAdd, Nat.reduceSub, Nat.reduceLeDiff, and_self, if_true, decide_eq_true_eq, true_and, and_true, List.set_nil, List.length_set, ez, ev_neB, decide_true, Bool.not_true, Bool.false_eq_true, if_false]
        exact ⟨fun d hd => hs d (List.mem_cons_of_mem _ hd), _, _, rfl⟩
    · rintro ρ μ' ⟨rfl, hs, o4, o7, rfl⟩
      simp only [↓ev_out, ↓ev_sqM, ↓ev_foM, ↓ev_setM, ↓ev_asgM, ↓ev_putM, ↓ev_ifM, ↓ev_tvM, ↓ev_tnM, ↓ev_taM, ↓ev_toM, ↓ev_op2, ↓ev_gV, ↓ev_kM, ↓ev_rtM, ↓ev_exM, ↓ev_neM, ↓ev_notM, ↓ev_andM, ↓ev_orM, ↓ev_nxM, ↓ev_app, ↓ev_nil, ↓ev_cons, ↓ev_callF, ↓ev_callM, ↓ev_slM, ↓ev_ptM, ↓ev_asI, ↓ev_seM, ↓ev_itL, ↓ev_itT, ↓ev_mkT, ↓ev_mkL, ↓ev_lcM, ↓ev_dispM, ↓ev_lft, ↓thenK_nx, ↓thenK_rt, ↓thenK_bk, ↓thenK_ct, ↓tgK_s, ↓outK_rt, ↓outK_nx, ↓vK_s, ↓turnK_nx, ↓turnK_rt, ↓turnK_bk, ↓turnK_ct, ↓ev_asB, ↓ev_add, ↓ev_sub, ↓ev_mul, ↓ev_fdiv, ↓ev_mod, ↓ev_pow, ↓ev_neg, ↓ev_eqI, ↓ev_neI, ↓ev_lt, ↓ev_le, ↓ev_gt, ↓ev_ge, ↓ev_gcd, ↓ev_absI, ↓ev_maxI, ↓ev_minI, ↓ev_intI, ↓ev_intB, ↓ev_tupT, ↓ev_tupL, ↓ev_lstT, ↓ev_lstL, ↓ev_lenT, ↓ev_lenL, ↓ev_catL, ↓ev_catT, ↓ev_ixT, ↓ev_ixL, ↓ev_slT, ↓ev_slL, ↓ev_isN, ↓ev_isNotN, ↓ev_zipTT, ↓ev_enumT, ↓ev_enumL, ↓ev_eqS, startD, pick, setTg, setAll, wipeD, List.map_cons, List.map_nil, List.length_cons, List.length_nil, List.cons_append, List.nil_append, List.getElem?_cons_zero, List.getElem?_cons_succ, List.set_cons_zero, List.set_cons_succ, List.replicate_succ, List.replicate_zero, List.filterMap_cons, List.filterMap_nil, Nat.reduceAdd, Nat.reduceSub, Nat.reduceLeDiff, and_self, if_true, decide_eq_true_eq, true_and, and_true, List.set_nil, List.length_set]
      exact ⟨s12, m30⟩
  cases hf : ns.dropLast.find? nz with
  | none =>
    have ep : planeD ns = .non := by unfold planeD; rw [hf]
    have t := tail .non (.inl rfl) ep.symm
    rw [ep]
    rw [isNot_non]
    simp only [↓ev_out, ↓ev_sqM, ↓ev_foM, ↓ev_setM, ↓ev_asgM, ↓ev_putM, ↓ev_ifM, ↓ev_tvM, ↓ev_tnM, ↓ev_taM, ↓ev_toM, ↓ev_op2, ↓ev_gV, ↓ev_kM, ↓ev_rtM, ↓ev_exM, ↓ev_neM, ↓ev_notM, ↓ev_andM, ↓ev_orM, ↓ev_nxM, ↓ev_app, ↓ev_nil, ↓ev_cons, ↓ev_callF, ↓ev_callM, ↓ev_slM, ↓ev_ptM, ↓ev_asI, ↓ev_seM, ↓ev_itL, ↓ev_itT, ↓ev_mkT, ↓ev_mkL, ↓ev_lcM, ↓ev_dispM, ↓ev_lft, ↓thenK_nx, ↓thenK_rt, ↓thenK_bk, ↓thenK_ct, ↓tgK_s, ↓outK_rt, ↓outK_nx, ↓vK_s, ↓turnK_nx, ↓turnK_rt, ↓turnK_bk, ↓turnK_ct, ↓ev_asB, ↓ev_add, ↓ev_sub, ↓ev_mul, ↓ev_fdiv, ↓ev_mod, ↓ev_pow, ↓ev_neg, ↓ev_eqI, ↓ev_neI, ↓ev_lt, ↓ev_le, ↓ev_gt, ↓ev_ge, ↓ev_gcd, ↓ev_absI, ↓ev_maxI, ↓ev_minI, ↓ev_intI, ↓ev_intB, ↓ev_tupT, ↓ev_tupL, ↓ev_lstT, ↓ev_lstL, ↓ev_lenT, ↓ev_lenL, ↓ev_catL, ↓ev_catT, ↓ev_ixT, ↓ev_ixL, ↓ev_slT, ↓ev_slL, ↓ev_isN, ↓ev_isNotN, ↓ev_zipTT, ↓ev_enumT, ↓ev_enumL, ↓ev_eqS, startD, pick, setTg, setAll, wipeD, List.map_cons, List.map_nil, List.length_cons, List.length_nil, List.cons_append, List.nil_append, List.getElem?_cons_zero, List.getElem?_cons_succ, List.set_cons_zero, List.set_cons_succ, List.replicate_succ, List.replicate_zero, List.filterMap_cons, List.filterMap_nil, Nat.reduceAdd, Nat.reduceSub, Nat.reduceLeDiff, and_self, if_true, decide_eq_true_eq, true_and, and_true, List.set_nil, List.length_set, Bool.false_eq_true, if_false]
    simp only [↓ev_out, ↓ev_sqM, ↓ev_foM, ↓ev_setM, ↓ev_asgM, ↓ev_putM, ↓ev_ifM, ↓ev_tvM, ↓ev_tnM, ↓ev_taM, ↓ev_toM, ↓ev_op2, ↓ev_gV, ↓ev_kM, ↓ev_rtM, ↓ev_exM, ↓ev_neM, ↓ev_notM, ↓ev_andM, ↓ev_orM, ↓ev_nxM, ↓ev_app, ↓ev_nil, ↓ev_cons, ↓ev_callF, ↓ev_callM, ↓ev_slM, ↓ev_ptM, ↓ev_asI, ↓ev_seM, ↓ev_itL, ↓ev_itT, ↓ev_mkT, ↓ev_mkL, ↓ev_lcM, ↓ev_dispM, ↓ev_lft, ↓thenK_nx, ↓thenK_rt, ↓thenK_bk, ↓thenK_ct, ↓tgK_s, ↓outK_rt, ↓outK_nx, ↓vK_s, ↓turnK_nx, ↓turnK_rt, ↓turnK_bk, ↓turnK_ct, ↓ev_asB, ↓ev_add, ↓ev_sub, ↓ev_mul, ↓ev_fdiv, ↓ev_mod, ↓ev_pow, ↓ev_neg, ↓ev_eqI, ↓ev_neI, ↓ev_lt, ↓ev_le, ↓ev_gt, ↓ev_ge, ↓ev_gcd, ↓ev_absI, ↓ev_maxI, ↓ev_minI, ↓ev_intI, ↓ev_intB, ↓ev_tupT, ↓ev_tupL, ↓ev_lstT, ↓ev_lstL, ↓ev_lenT, ↓ev_lenL, ↓ev_catL, ↓ev_catT, ↓ev_ixT, ↓ev_ixL, ↓ev_slT, ↓ev_slL, ↓ev_isN, ↓ev_isNotN, ↓ev_zipTT, ↓ev_enumT, ↓ev_enumL, ↓ev_eqS, startD, pick, setTg, setAll, wipeD, List.map_cons, List.map_nil, List.length_cons, List.length_nil, List.cons_append, List.nil_append, List.getElem?_cons_zero, List.getElem?_cons_succ, List.set_cons_zero, List.set_cons_succ, List.replicate_succ, List.replicate_zero, List.filterMap_cons, List.filterMap_nil, Nat.reduceAdd, Nat.reduceSub, Nat.reduceLeDiff, and_self, if_true, decide_eq_true_eq, true_and, and_true, List.set_nil, List.length_set] at t
    exact t
  | some x =>
    have ep : planeD ns = tp (planeL ns x) := by unfold planeD; rw [hf]
    have t := tail (tp (planeL ns x)) (.inr ⟨x, rfl⟩) ep.symm
    rw [ep]
    rw [isNot_tp]
    have hpl : (planeL ns x).length = dm + 1 := by rw [planeL_len, hr.1]
    have hpB := planeL_bound (x := x) hB
    simp only [↓ev_out, ↓ev_sqM, ↓ev_foM, ↓ev_setM, ↓ev_asgM, ↓ev_putM, ↓ev_ifM, ↓ev_tvM, ↓ev_tnM, ↓ev_taM, ↓ev_toM, ↓ev_op2, ↓ev_gV, ↓ev_kM, ↓ev_rtM, ↓ev_exM, ↓ev_neM, ↓ev_notM, ↓ev_andM, ↓ev_orM, ↓ev_nxM, ↓ev_app, ↓ev_nil, ↓ev_cons, ↓ev_callF, ↓ev_callM, ↓ev_slM, ↓ev_ptM, ↓ev_asI, ↓ev_seM, ↓ev_itL, ↓ev_itT, ↓ev_mkT, ↓ev_mkL, ↓ev_lcM, ↓ev_dispM, ↓ev_lft, ↓thenK_nx, ↓thenK_rt, ↓thenK_bk, ↓thenK_ct, ↓tgK_s, ↓outK_rt, ↓outK_nx, ↓vK_s, ↓turnK_nx, ↓turnK_rt, ↓turnK_bk, ↓turnK_ct, ↓ev_asB, ↓ev_add, ↓ev_sub, ↓ev_mul, ↓ev_fdiv, ↓ev_mod, ↓ev_pow, ↓ev_neg, ↓ev_eqI, ↓ev_neI, ↓ev_lt, ↓ev_le, ↓ev_gt, ↓ev_ge, ↓ev_gcd, ↓ev_absI, ↓ev_maxI, ↓ev_minI, ↓ev_intI, ↓ev_intB, ↓ev_tupT, ↓ev_tupL, ↓ev_lstT, ↓ev_lstL, ↓ev_lenT, ↓ev_lenL, ↓ev_catL, ↓ev_catT, ↓ev_ixT, ↓ev_ixL, ↓ev_slT, ↓ev_slL, ↓ev_isN, ↓ev_isNotN, ↓ev_zipTT, ↓ev_enumT, ↓ev_enumL, ↓ev_eqS, startD, pick, setTg, setAll, wipeD, List.map_cons, List.map_nil, List.length_cons, List.length_nil, List.cons_append, List.nil_append, List.getElem?_cons_zero, List.getElem?_cons_succ, List.set_cons_zero, List.set_cons_succ, List.replicate_succ, List.replicate_zero, List.filterMap_cons, List.filterMap_nil, Nat.reduceAdd, Nat.reduceSub, Nat.reduceLeDiff, and_self, if_true, decide_eq_true_eq, true_and, and_true, List.set_nil, List.length_set, if_true]
    refine (ev_of (f10 (by omega) (planeL ns x) dm μ1 hpl (planeD_idem hf) hpB (by omega))).mpr ?_
    refine (ev_of (f18 (by omega) μ1 (fit_tp hpB (by omega)))).mpr ?_
    simp only [↓ev_out, ↓ev_sqM, ↓ev_foM, ↓ev_setM, ↓ev_asgM, ↓ev_putM, ↓ev_ifM, ↓ev_tvM, ↓ev_tnM, ↓ev_taM, ↓ev_toM, ↓ev_op2, ↓ev_gV, ↓ev_kM, ↓ev_rtM, ↓ev_exM, ↓ev_neM, ↓ev_notM, ↓ev_andM, ↓ev_orM, ↓ev_nxM, ↓ev_app, ↓ev_nil, ↓ev_cons, ↓ev_callF, ↓ev_callM, ↓ev_slM, ↓ev_ptM, ↓ev_asI, ↓ev_seM, ↓ev_itL, ↓ev_itT, ↓ev_mkT, ↓ev_mkL, ↓ev_lcM, ↓ev_dispM, ↓ev_lft, ↓thenK_nx, ↓thenK_rt, ↓thenK_bk, ↓thenK_ct, ↓tgK_s, ↓outK_rt, ↓outK_nx, ↓vK_s, ↓turnK_nx, ↓turnK_rt, ↓turnK_bk, ↓turnK_ct, ↓ev_asB, ↓ev_add, ↓ev_sub, ↓ev_mul, ↓ev_fdiv, ↓ev_mod, ↓ev_pow, ↓ev_neg, ↓ev_eqI, ↓ev_neI, ↓ev_lt, ↓ev_le, ↓ev_gt, ↓ev_ge, ↓ev_gcd, ↓ev_absI, ↓ev_maxI, ↓ev_minI, ↓ev_intI, ↓ev_intB, ↓ev_tupT, ↓ev_tupL, ↓ev_lstT, ↓ev_lstL, ↓ev_lenT, ↓ev_lenL, ↓ev_catL, ↓ev_catT, ↓ev_ixT, ↓ev_ixL, ↓ev_slT, ↓ev_slL, ↓ev_isN, ↓ev_isNotN, ↓ev_zipTT, ↓ev_enumT, ↓ev_enumL, ↓ev_eqS, startD, pick, setTg, setAll, wipeD, List.map_cons, List.map_nil, List.length_cons, List.length_nil, List.cons_append, List.nil_append, List.getElem?_cons_zero, List.getElem?_cons_succ, List.set_cons_zero, List.set_cons_succ, List.replicate_succ, List.replicate_zero, List.filterMap_cons, List.filterMap_nil, Nat.reduceAdd, Nat.reduceSub, Nat.reduceLeDiff, and_self, if_true, decide_eq_true_eq, true_and, and_true, List.set_nil, List.length_set, Bool.not_true, Bool.false_eq_true, if_false]
    simp only [↓ev_out, ↓ev_sqM, ↓ev_foM, ↓ev_setM, ↓ev_asgM, ↓ev_putM, ↓ev_ifM, ↓ev_tvM, ↓ev_tnM, ↓ev_taM, ↓ev_toM, ↓ev_op2, ↓ev_gV, ↓ev_kM, ↓ev_rtM, ↓ev_exM, ↓ev_neM, ↓ev_notM, ↓ev_andM, ↓ev_orM, ↓ev_nxM, ↓ev_app, ↓ev_nil, ↓ev_cons, ↓ev_callF, ↓ev_callM, ↓ev_slM, ↓ev_ptM, ↓ev_asI, ↓ev_seM, ↓ev_itL, ↓ev_itT, ↓ev_mkT, ↓ev_mkL, ↓ev_lcM, ↓ev_dispM, ↓ev_lft, ↓thenK_nx, ↓thenK_rt, ↓thenK_bk, ↓thenK_ct, ↓tgK_s, ↓outK_rt, ↓outK_nx, ↓vK_s, ↓turnK_nx, ↓turnK_rt, ↓turnK_bk, ↓turnK_ct, ↓ev_asB, ↓ev_add, ↓ev_sub, ↓ev_mul, ↓ev_fdiv, ↓ev_mod, ↓ev_pow, ↓ev_neg, ↓ev_eqI, ↓ev_neI, ↓ev_lt, ↓ev_le, ↓ev_gt, ↓ev_ge, ↓ev_gcd, ↓ev_absI, ↓ev_maxI, ↓ev_minI, ↓ev_intI, ↓ev_intB, ↓ev_tupT, ↓ev_tupL, ↓ev_lstT, ↓ev_lstL, ↓ev_lenT, ↓ev_lenL, ↓ev_catL, ↓ev_catT, ↓ev_ixT, ↓ev_ixL, ↓ev_slT, ↓ev_slL, ↓ev_isN, ↓ev_isNotN, ↓ev_zipTT, ↓ev_enumT, ↓ev_enumL, ↓ev_eqS, startD, pick, setTg, setAll, wipeD, List.map_cons, List.map_nil, List.length_cons, List.length_nil, List.cons_append, List.nil_append, List.getElem?_cons_zero, List.getElem?_cons_succ, List.set_cons_zero, List.set_cons_succ, List.replicate_succ, List.replicate_zero, List.filterMap_cons, List.filterMap_nil, Nat.reduceAdd, Nat.reduceSub, Nat.reduceLeDiff, and_self, if_true, decide_eq_true_eq, true_and, and_true, List.set_nil, List.length_set] at t
    exact t
end K03
namespace K03
open PySem L2 PX
theorem low_pair (a b : Int) : ∃ x y h : Int, lowL [a, b] = [x, y] ∧ 0 < h ∧ a = h * x ∧ b = h * y := by
  obtain ⟨h, hp, e⟩ := lowL_scale [a, b]
  have hl := lowL_len [a, b]
  match hz : lowL [a, b], hl with
  | [x, y], _ =>
    rw [hz] at e
    simp only [List.map_cons, List.map_nil, List.cons.injEq, and_true] at e
    exact ⟨x, y, h, rfl, hp, e.1, e.2⟩
theorem small_part {h x b : Int} {B : Nat} (hp : 0 < h) (e : b = h * x) (hb : b.natAbs < B) : x.natAbs < B := by
  have q := congrArg Int.natAbs e
  rw [Int.natAbs_mul] at q
  have : 0 < h.natAbs := Int.natAbs_pos.mpr (by omega)
  have := Nat.le_mul_of_pos_left x.natAbs this
  omega
theorem f30 {n : Nat} (hn : 6 ≤ n) {j c dm : Nat} {ns : List Int} {μ : Mu} (h : MAt j c μ) (hd0 : 1 ≤ dm) (hd : dm ≤ 4) (hr : RowP dm ns) (hc : c + 30 ≤ CAP) : Ev (F n 30 [.ref j, .int (dm : Int), tp ns] μ) fun d μ' => d = .bl true ∧ Sj j μ μ' ∧ MAt j (c + 30) μ' := by
  obtain ⟨rs, z, rfl, lrs⟩ := split_last hr.1
  obtain ⟨dp, rfl⟩ : ∃ dp, dm = dp + 1 := ⟨dm - 1, by omega⟩
  obtain ⟨k, rfl⟩ : ∃ k, n = k + 1 := ⟨n - 1, by omega⟩
  rw [F, s30_eq]
  unfold s30
  simp only [↓ev_out, ↓ev_sqM, ↓ev_foM, ↓ev_setM, ↓ev_asgM, ↓ev_putM, ↓ev_ifM, ↓ev_tvM, ↓ev_tnM, ↓ev_taM, ↓ev_toM, ↓ev_op2, ↓ev_gV, ↓ev_kM, ↓ev_rtM, ↓ev_exM, ↓ev_neM, ↓ev_notM, ↓ev_andM, ↓ev_orM, ↓ev_nxM, ↓ev_app, ↓ev_nil, ↓ev_cons, ↓ev_callF, ↓ev_callM, ↓ev_slM, ↓ev_ptM, ↓ev_asI, ↓ev_seM, ↓ev_itL, ↓ev_itT, ↓ev_mkT, ↓ev_mkL, ↓ev_lcM, ↓ev_dispM, ↓ev_lft, ↓thenK_nx, ↓thenK_rt, ↓thenK_bk, ↓thenK_ct, ↓tgK_s, ↓outK_rt, ↓outK_nx, ↓vK_s, ↓turnK_nx, ↓turnK_rt, ↓turnK_bk, ↓turnK_ct, ↓ev_asB, ↓ev_add, ↓ev_sub, ↓ev_mul, ↓ev_fdiv, ↓ev_mod, ↓ev_pow, ↓ev_neg, ↓ev_eqI, ↓ev_neI, ↓ev_lt, ↓ev_le, ↓ev_gt, ↓ev_ge, ↓ev_gcd, ↓ev_absI, ↓ev_maxI, ↓ev_minI, ↓ev_intI, ↓ev_intB, ↓ev_tupT, ↓ev_tupL, ↓ev_lstT, ↓ev_lstL, ↓ev_lenT, ↓ev_lenL, ↓ev_catL, ↓ev_catT, ↓ev_ixT, ↓ev_ixL, ↓ev_slT, ↓ev_slL, ↓ev_isN, ↓ev_isNotN, ↓ev_zipTT, ↓ev_enumT, ↓ev_enumL, ↓ev_eqS, startD, pick, setTg, setAll, wipeD, List.map_cons, List.map_nil, List.length_cons, List.length_nil, List.cons_append, List.nil_append, List.getElem?_cons_zero, List.getElem?_cons_succ, List.set_cons_zero, List.set_cons_succ, List.replicate_succ, List.replicate_zero, List.filterMap_cons, List.filterMap_nil, Nat.reduceAdd, Nat.reduceSub, Nat.reduceLeDiff, and_self, if_true, decide_eq_true_eq, true_and, and_true, List.set_nil, List.length_set]
  rw [show ((dp + 1 : Nat) : Int) - 1 = ((dp : Nat) : Int) by omega, rng1_ok (show dp ≤ 1000000 by omega)]
  refine ev_imp (lc_st (N := 1) (cap := CAP) (Q := fun y => ∃ n : Int, y = .int n ∧ n.natAbs ≤ 3) (rngD 0 dp) (fun d hd' c' μ1 hc' m => ?_) c μ (by rw [rngD_length]; omega) h) ?_
  · simp only [↓ev_out, ↓ev_sqM, ↓ev_foM, ↓ev_setM, ↓ev_asgM, ↓ev_putM, ↓ev_ifM, ↓ev_tvM, ↓ev_tnM, ↓ev_taM, ↓ev_toM, ↓ev_op2, ↓ev_gV, ↓ev_kM, ↓ev_rtM, ↓ev_exM, ↓ev_neM, ↓ev_notM, ↓ev_andM, ↓ev_orM, ↓ev_nxM, ↓ev_app, ↓ev_nil, ↓ev_cons, ↓ev_callF, ↓ev_callM, ↓ev_slM, ↓ev_ptM, ↓ev_asI, ↓ev_seM, ↓ev_itL, ↓ev_itT, ↓ev_mkT, ↓ev_mkL, ↓ev_lcM, ↓ev_dispM, ↓ev_lft, ↓thenK_nx, ↓thenK_rt, ↓thenK_bk, ↓thenK_ct, ↓tgK_s, ↓outK_rt, ↓outK_nx, ↓vK_s, ↓turnK_nx, ↓turnK_rt, ↓turnK_bk, ↓turnK_ct, ↓ev_asB, ↓ev_add, ↓ev_sub, ↓ev_mul, ↓ev_fdiv, ↓ev_mod, ↓ev_pow, ↓ev_neg, ↓ev_eqI, ↓ev_neI, ↓ev_lt, ↓ev_le, ↓ev_gt, ↓ev_ge, ↓ev_gcd, ↓ev_absI, ↓ev_maxI, ↓ev_minI, ↓ev_intI, ↓ev_intB, ↓ev_tupT, ↓ev_tupL, ↓ev_lstT, ↓ev_lstL, ↓ev_lenT, ↓ev_lenL, ↓ev_catL, ↓ev_catT, ↓ev_ixT, ↓ev_ixL, ↓ev_slT, ↓ev_slL, ↓ev_isN, ↓ev_isNotN, ↓ev_zipTT, ↓ev_enumT, ↓ev_enumL, ↓ev_eqS, startD, pick, setTg, setAll, wipeD, List.map_cons, List.map_nil, List.length_cons, List.length_nil, List.cons_append, List.nil_append, List.getElem?_cons_zero, List.getElem?_cons_succ, List.set_cons_zero, List.set_cons_succ, List.replicate_succ, List.replicate_zero, List.filterMap_cons, List.filterMap_nil, Nat.reduceAdd, Nat.reduceSub, Nat.reduceLeDiff, and_self, if_true, decide_eq_true_eq, true_and, and_true, List.set_nil, List.length_set]
    refine ev_imp (f17d (by omega) m hc' (by decide) (by decide)) ?_
    rintro _ μ2 ⟨r, rfl, r0, r1, s1, m1⟩
    simp only [↓ev_out, ↓ev_sqM, ↓ev_foM, ↓ev_setM, ↓ev_asgM, ↓ev_putM, ↓ev_ifM, ↓ev_tvM, ↓ev_tnM, ↓ev_taM, ↓ev_toM, ↓ev_op2, ↓ev_gV, ↓ev_kM, ↓ev_rtM, ↓ev_exM, ↓ev_neM, ↓ev_notM, ↓ev_andM, ↓ev_orM, ↓ev_nxM, ↓ev_app, ↓ev_nil, ↓ev_cons, ↓ev_callF, ↓ev_callM, ↓ev_slM, ↓ev_ptM, ↓ev_asI, ↓ev_seM, ↓ev_itL, ↓ev_itT, ↓ev_mkT, ↓ev_mkL, ↓ev_lcM, ↓ev_dispM, ↓ev_lft, ↓thenK_nx, ↓thenK_rt, ↓thenK_bk, ↓thenK_ct, ↓tgK_s, ↓outK_rt, ↓outK_nx, ↓vK_s, ↓turnK_nx, ↓turnK_rt, ↓turnK_bk, ↓turnK_ct, ↓ev_asB, ↓ev_add, ↓ev_sub, ↓ev_mul, ↓ev_fdiv, ↓ev_mod, ↓ev_pow, ↓ev_neg, ↓ev_eqI, ↓ev_neI, ↓ev_lt, ↓ev_le, ↓ev_gt, ↓ev_ge, ↓ev_gcd, ↓ev_absI, ↓ev_maxI, ↓ev_minI, ↓ev_intI, ↓ev_intB, ↓ev_tupT, ↓ev_tupL, ↓ev_lstT, ↓ev_lstL, ↓ev_lenT, ↓ev_lenL, ↓ev_catL, ↓ev_catT, ↓ev_ixT, ↓ev_ixL, ↓ev_slT, ↓ev_slL, ↓ev_isN, ↓ev_isNotN, ↓ev_zipTT, ↓ev_enumT, ↓ev_enumL, ↓ev_eqS, startD, pick, setTg, setAll, wipeD, List.map_cons, List.map_nil, List.length_cons, List.length_nil, List.cons_append, List.nil_append, List.getElem?_cons_zero, List.getElem?_cons_succ, List.set_cons_zero, List.set_cons_succ, List.replicate_succ, List.replicate_zero, List.filterMap_cons, List.filterMap_nil, Nat.reduceAdd, Nat.reduceSub, Nat.reduceLeDiff, and_self, if_true, decide_eq_true_eq, true_and, and_true, List.set_nil, List.length_set]
    exact ⟨⟨_, rfl, by omega⟩, s1, m1⟩
  rintro ys μ1 ⟨q1, q2, s1, m1⟩
  obtain ⟨us, rfl, q3⟩ := ints_of q2
  rw [rngD_length] at q1 m1
  have lu : us.length = dp := by rw [← q1, List.length_map]
  simp only [↓ev_out, ↓ev_sqM, ↓ev_foM, ↓ev_setM, ↓ev_asgM, ↓ev_putM, ↓ev_ifM, ↓ev_tvM, ↓ev_tnM, ↓ev_taM, ↓ev_toM, ↓ev_op2, ↓ev_gV, ↓ev_kM, ↓ev_rtM, ↓ev_exM, ↓ev_neM, ↓ev_notM, ↓ev_andM, ↓ev_orM, ↓ev_nxM, ↓ev_app, ↓ev_nil, ↓ev_cons, ↓ev_callF, ↓ev_callM, ↓ev_slM, ↓ev_ptM, ↓ev_asI, ↓ev_seM, ↓ev_itL, ↓ev_itT, ↓ev_mkT, ↓ev_mkL, ↓ev_lcM, ↓ev_dispM, ↓ev_lft, ↓thenK_nx, ↓thenK_rt, ↓thenK_bk, ↓thenK_ct, ↓tgK_s, ↓outK_rt, ↓outK_nx, ↓vK_s, ↓turnK_nx, ↓turnK_rt, ↓turnK_bk, ↓turnK_ct, ↓ev_asB, ↓ev_add, ↓ev_sub, ↓ev_mul, ↓ev_fdiv, ↓ev_mod, ↓ev_pow, ↓ev_neg, ↓ev_eqI, ↓ev_neI, ↓ev_lt, ↓ev_le, ↓ev_gt, ↓ev_ge, ↓ev_gcd, ↓ev_absI, ↓ev_maxI, ↓ev_minI, ↓ev_intI, ↓ev_intB, ↓ev_tupT, ↓ev_tupL, ↓ev_lstT, ↓ev_lstL, ↓ev_lenT, ↓ev_lenL, ↓ev_catL, ↓ev_catT, ↓ev_ixT, ↓ev_ixL, ↓ev_slT, ↓ev_slL, ↓ev_isN, ↓ev_isNotN, ↓ev_zipTT, ↓ev_enumT, ↓ev_enumL, ↓ev_eqS, startD, pick, setTg, setAll, wipeD, List.map_cons, List.map_nil, List.length_cons, List.length_nil, List.cons_append, List.nil_append, List.getElem?_cons_zero, List.getElem?_cons_succ, List.set_cons_zero, List.set_cons_succ, List.replicate_succ, List.replicate_zero, List.filterMap_cons, List.filterMap_nil, Nat.reduceAdd, Nat.reduceSub, Nat.reduceLeDiff, and_self, if_true, decide_eq_true_eq, true_and, and_true, List.set_nil, List.length_set, if_pos (show (List.map D.int us).length ≤ 1000000 by omega)]
  refine ev_imp (f17d (by omega) m1 (by omega) (by decide) (by decide)) ?_
  rintro _ μ2 ⟨r, rfl, r0, r1, s2, m2⟩
  have hb0 : ∀ x ∈ us ++ [1 + r], x.natAbs < 10 := fun x hx => by
    rcases List.mem_append.mp hx with w | w
    · have := q3 x w; omega
    · rw [List.mem_singleton.mp w]; omega
  simp only [↓ev_out, ↓ev_sqM, ↓ev_foM, ↓ev_setM, ↓ev_asgM, ↓ev_putM, ↓ev_ifM, ↓ev_tvM, ↓ev_tnM, ↓ev_taM, ↓ev_toM, ↓ev_op2, ↓ev_gV, ↓ev_kM, ↓ev_rtM, ↓ev_exM, ↓ev_neM, ↓ev_notM, ↓ev_andM, ↓ev_orM, ↓ev_nxM, ↓ev_app, ↓ev_nil, ↓ev_cons, ↓ev_callF, ↓ev_callM, ↓ev_slM, ↓ev_ptM, ↓ev_asI, ↓ev_seM, ↓ev_itL, ↓ev_itT, ↓ev_mkT, ↓ev_mkL, ↓ev_lcM, ↓ev_dispM, ↓ev_lft, ↓thenK_nx, ↓thenK_rt, ↓thenK_bk, ↓thenK_ct, ↓tgK_s, ↓outK_rt, ↓outK_nx, ↓vK_s, ↓turnK_nx, ↓turnK_rt, ↓turnK_bk, ↓turnK_ct, ↓ev_asB, ↓ev_add, ↓ev_sub, ↓ev_mul, ↓ev_fdiv, ↓ev_mod, ↓ev_pow, ↓ev_neg, ↓ev_eqI, ↓ev_neI, ↓ev_lt, ↓ev_le, ↓ev_gt, ↓ev_ge, ↓ev_gcd, ↓ev_absI, ↓ev_maxI, ↓ev_minI, ↓ev_intI, ↓ev_intB, ↓ev_tupT, ↓ev_tupL, ↓ev_lstT, ↓ev_lstL, ↓ev_lenT, ↓ev_lenL, ↓ev_catL, ↓ev_catT, ↓ev_ixT, ↓ev_ixL, ↓ev_slT, ↓ev_slL, ↓ev_isN, ↓ev_isNotN, ↓ev_zipTT, ↓ev_enumT, ↓ev_enumL, ↓ev_eqS, startD, pick, setTg, setAll, wipeD, List.map_cons, List.map_nil, List.length_cons, List.length_nil, List.cons_append, List.nil_append, List.getElem?_cons_zero, List.getElem?_cons_succ, List.set_cons_zero, List.set_cons_succ, List.replicate_succ, List.replicate_zero, List.filterMap_cons, List.filterMap_nil, Nat.reduceAdd, Nat.reduceSub, Nat.reduceLeDiff, and_self, if_true, decide_eq_true_eq, true_and, and_true, List.set_nil, List.length_set, if_pos (show 1 ≤ 1000000 by decide), List.length_map]
  refine ⟨by omega, ?_⟩
  rw [show List.map D.int us ++ [D.int (1 + r)] = List.map D.int (us ++ [1 + r]) by simp]
  refine (ev_of (f21 (b := true) (by omega) (us ++ [1 + r]) μ2 (fun x hx => Nat.lt_of_lt_of_le (hb0 x hx) ten_BB) (by simp; omega))).mpr ?_
  obtain ⟨vs, v0, ew, hv1, hv2, hv3⟩ := lowL_last (B := 10) (show 0 < 1 + r by omega) hb0
  have lway : (lowL (us ++ [1 + r])).length = dp + 1 := by rw [lowL_len]; simp [lu]
  have hway : ∀ x ∈ lowL (us ++ [1 + r]), x.natAbs < 10 := lowL_bound hb0
  generalize lowL (us ++ [1 + r]) = way at lway hway ew
  have hwsm : Sm way := fun y hy => Nat.lt_trans (hway y hy) (by decide)
  simp only [↓ev_out, ↓ev_sqM, ↓ev_foM, ↓ev_setM, ↓ev_asgM, ↓ev_putM, ↓ev_ifM, ↓ev_tvM, ↓ev_tnM, ↓ev_taM, ↓ev_toM, ↓ev_op2, ↓ev_gV, ↓ev_kM, ↓ev_rtM, ↓ev_exM, ↓ev_neM, ↓ev_notM, ↓ev_andM, ↓ev_orM, ↓ev_nxM, ↓ev_app, ↓ev_nil, ↓ev_cons, ↓ev_callF, ↓ev_callM, ↓ev_slM, ↓ev_ptM, ↓ev_asI, ↓ev_seM, ↓ev_itL, ↓ev_itT, ↓ev_mkT, ↓ev_mkL, ↓ev_lcM, ↓ev_dispM, ↓ev_lft, ↓thenK_nx, ↓thenK_rt, ↓thenK_bk, ↓thenK_ct, ↓tgK_s, ↓outK_rt, ↓outK_nx, ↓vK_s, ↓turnK_nx, ↓turnK_rt, ↓turnK_bk, ↓turnK_ct, ↓ev_asB, ↓ev_add, ↓ev_sub, ↓ev_mul, ↓ev_fdiv, ↓ev_mod, ↓ev_pow, ↓ev_neg, ↓ev_eqI, ↓ev_neI, ↓ev_lt, ↓ev_le, ↓ev_gt, ↓ev_ge, ↓ev_gcd, ↓ev_absI, ↓ev_maxI, ↓ev_minI, ↓ev_intI, ↓ev_intB, ↓ev_tupT, ↓ev_tupL, ↓ev_lstT, ↓ev_lstL, ↓ev_lenT, ↓ev_lenL, ↓ev_catL, ↓ev_catT, ↓ev_ixT, ↓ev_ixL, ↓ev_slT, ↓ev_slL, ↓ev_isN, ↓ev_isNotN, ↓ev_zipTT, ↓ev_enumT, ↓ev_enumL, ↓ev_eqS, startD, pick, setTg, setAll, wipeD, List.map_cons, List.map_nil, List.length_cons, List.length_nil, List.cons_append, List.nil_append, List.getElem?_cons_zero, List.getElem?_cons_succ, List.set_cons_zero, List.set_cons_succ, List.replicate_succ, List.replicate_zero, List.filterMap_cons, List.filterMap_nil, Nat.reduceAdd, Nat.reduceSub, Nat.reduceLeDiff, and_self, if_true, decide_eq_true_eq, true_and, and_true, List.set_nil, List.length_set, cut_init]
  rw [show (List.map D.int (rs ++ [z])).dropLast = List.map D.int rs by simp]
  rw [ev_zipTT]
  have lc : ∀ ρ : Rho, ρ = [some (.ref j), some (.int ((dp + 1 : Nat) : Int)), some (tp (rs ++ [z])), some (tp way), none, none, none, none, none, none, none, none, none] →
      lcD (.t [11, 12]) (kM true) (op2 (gV 11) (gV 12) mulD) ((rs.zip way).map pairD) ρ μ2 = .ok (((rs.zip way).map fun p => p.1 * p.2).map .int) μ2 := fun ρ e => by
    subst e
    refine lc_pairsI (fun p => p.1 * p.2) fun p hp => ?_
    simp only [↓ev_out, ↓ev_sqM, ↓ev_foM, ↓ev_setM, ↓ev_asgM, ↓ev_putM, ↓ev_ifM, ↓ev_tvM, ↓ev_tnM, ↓ev_taM, ↓ev_toM, ↓ev_op2, ↓ev_gV, ↓ev_kM, ↓ev_rtM, ↓ev_exM, ↓ev_neM, ↓ev_notM, ↓ev_andM, ↓ev_orM, ↓ev_nxM, ↓ev_app, ↓ev_nil, ↓ev_cons, ↓ev_callF, ↓ev_callM, ↓ev_slM, ↓ev_ptM, ↓ev_asI, ↓ev_seM, ↓ev_itL, ↓ev_itT, ↓ev_mkT, ↓ev_mkL, ↓ev_lcM, ↓ev_dispM, ↓ev_lft, ↓thenK_nx, ↓thenK_rt, ↓thenK_bk, ↓thenK_ct, ↓tgK_s, ↓outK_rt, ↓outK_nx, ↓vK_s, ↓turnK_nx, ↓turnK_rt, ↓turnK_bk, ↓turnK_ct, ↓ev_asB, ↓ev_add, ↓ev_sub, ↓ev_mul, ↓ev_fdiv, ↓ev_mod, ↓ev_pow, ↓ev_neg, ↓ev_eqI, ↓ev_neI, ↓ev_lt, ↓ev_le, ↓ev_gt, ↓ev_ge, ↓ev_gcd, ↓ev_absI, ↓ev_maxI, ↓ev_minI, ↓ev_intI, ↓ev_intB, ↓ev_tupT, ↓ev_tupL, ↓ev_lstT, ↓ev_lstL, ↓ev_lenT, ↓ev_lenL, ↓ev_catL, ↓ev_catT, ↓ev_ixT, ↓ev_ixL, ↓ev_slT, ↓ev_slL, ↓ev_isN, ↓ev_isNotN, ↓ev_zipTT, ↓ev_enumT, ↓ev_enumL, ↓ev_eqS, startD, pick, setTg, setAll, wipeD, List.map_cons, List.map_nil, List.length_cons, List.length_nil, List.cons_append, List.nil_append, List.getElem?_cons_zero, List.getElem?_cons_succ, List.set_cons_zero, List.set_cons_succ, List.replicate_succ, List.replicate_zero, List.filterMap_cons, List.filterMap_nil, Nat.reduceAdd, Nat.reduceSub, Nat.reduceLeDiff, and_self, if_true, decide_eq_true_eq, true_and, and_true, List.set_nil, List.length_set]
    exact mul64 (hwsm _ (zip_mem hp).2)
  refine (ev_of (lc _ rfl)).mpr ?_
  have lz : (rs.zip way).length ≤ 1000000 := by rw [List.length_zip]; omega
  simp only [↓ev_out, ↓ev_sqM, ↓ev_foM, ↓ev_setM, ↓ev_asgM, ↓ev_putM, ↓ev_ifM, ↓ev_tvM, ↓ev_tnM, ↓ev_taM, ↓ev_toM, ↓ev_op2, ↓ev_gV, ↓ev_kM, ↓ev_rtM, ↓ev_exM, ↓ev_neM, ↓ev_notM, ↓ev_andM, ↓ev_orM, ↓ev_nxM, ↓ev_app, ↓ev_nil, ↓ev_cons, ↓ev_callF, ↓ev_callM, ↓ev_slM, ↓ev_ptM, ↓ev_asI, ↓ev_seM, ↓ev_itL, ↓ev_itT, ↓ev_mkT, ↓ev_mkL, ↓ev_lcM, ↓ev_dispM, ↓ev_lft, ↓thenK_nx, ↓thenK_rt, ↓thenK_bk, ↓thenK_ct, ↓tgK_s, ↓outK_rt, ↓outK_nx, ↓vK_s, ↓turnK_nx, ↓turnK_rt, ↓turnK_bk, ↓turnK_ct, ↓ev_asB, ↓ev_add, ↓ev_sub, ↓ev_mul, ↓ev_fdiv, ↓ev_mod, ↓ev_pow, ↓ev_neg, ↓ev_eqI, ↓ev_neI, ↓ev_lt, ↓ev_le, ↓ev_gt, ↓ev_ge, ↓ev_gcd, ↓ev_absI, ↓ev_maxI, ↓ev_minI, ↓ev_intI, ↓ev_intB, ↓ev_tupT, ↓ev_tupL, ↓ev_lstT, ↓ev_lstL, ↓ev_lenT, ↓ev_lenL, ↓ev_catL, ↓ev_catT, ↓ev_ixT, ↓ev_ixL, ↓ev_slT, ↓ev_slL, ↓ev_isN, ↓ev_isNotN, ↓ev_zipTT, ↓ev_enumT, ↓ev_enumL, ↓ev_eqS, startD, pick, setTg, setAll, wipeD, List.map_cons, List.map_nil, List.length_cons, List.length_nil, List.cons_append, List.nil_append, List.getElem?_cons_zero, List.getElem?_cons_succ, List.set_cons_zero, List.set_cons_succ, List.replicate_succ, List.replicate_zero, List.filterMap_cons, List.filterMap_nil, Nat.reduceAdd, Nat.reduceSub, Nat.reduceLeDiff, and_self, if_true, decide_eq_true_eq, true_and, and_true, List.set_nil, List.length_set, List.length_map, if_pos lz, ev_sumL]
  refine ev_imp (f28 (by omega) m2 hd (by omega)) ?_
  rintro _ μ3 ⟨⟨xs, w, rfl, hx1, hx2, hx3⟩, s3, m3⟩
  have hsm : Sm (xs ++ [w]) := fun y hy => Nat.lt_trans (hx3 y hy) (by decide)
  have s13 := (s1.trans s2).trans s3
  have m30 : MAt j (c + 30) μ3 := m3.le (by omega)
  have eds : dot (rs ++ [z]) way = dot rs way := dot_short (by omega)
  have dlt := dot_lt hr hd (p := way) fun y hy => Nat.lt_trans (hway y hy) (by decide : 10 < 10 ^ 10)
  have dB : (dot rs way).natAbs < BB := by rw [← eds]; exact Nat.lt_of_lt_of_le (Nat.lt_trans dlt (by decide : 10 ^ 38 < 10 ^ 40)) e40_BB
  try simp only [↓ev_out, ↓ev_sqM, ↓ev_foM, ↓ev_setM, ↓ev_asgM, ↓ev_putM, ↓ev_ifM, ↓ev_tvM, ↓ev_tnM, ↓ev_taM, ↓ev_toM, ↓ev_op2, ↓ev_gV, ↓ev_kM, ↓ev_rtM, ↓ev_exM, ↓ev_neM, ↓ev_notM, ↓ev_andM, ↓ev_orM, ↓ev_nxM, ↓ev_app, ↓ev_nil, ↓ev_cons, ↓ev_callF, ↓ev_callM, ↓ev_slM, ↓ev_ptM, ↓ev_asI, ↓ev_seM, ↓ev_itL, ↓ev_itT, ↓ev_mkT, ↓ev_mkL, ↓ev_lcM, ↓ev_dispM, ↓ev_lft, ↓thenK_nx, ↓thenK_rt, ↓thenK_bk, ↓thenK_ct, ↓tgK_s, ↓outK_rt, ↓outK_nx, ↓vK_s, ↓turnK_nx, ↓turnK_rt, ↓turnK_bk, ↓turnK_ct, ↓ev_asB, ↓ev_add, ↓ev_sub, ↓ev_mul, ↓ev_fdiv, ↓ev_mod, ↓ev_pow, ↓ev_neg, ↓ev_eqI, ↓ev_neI, ↓ev_lt, ↓ev_le, ↓ev_gt, ↓ev_ge, ↓ev_gcd, ↓ev_absI, ↓ev_maxI, ↓ev_minI, ↓ev_intI, ↓ev_intB, ↓ev_tupT, ↓ev_tupL, ↓ev_lstT, ↓ev_lstL, ↓ev_lenT, ↓ev_lenL, ↓ev_catL, ↓ev_catT, ↓ev_ixT, ↓ev_ixL, ↓ev_slT, ↓ev_slL, ↓ev_isN, ↓ev_isNotN, ↓ev_zipTT, ↓ev_enumT, ↓ev_enumL, ↓ev_eqS, startD, pick, setTg, setAll, wipeD, List.map_cons, List.map_nil, List.length_cons, List.length_nil, List.cons_append, List.nil_append, List.getElem?_cons_zero, List.getElem?_cons_succ, List.set_cons_zero, List.set_cons_succ, List.replicate_succ, List.replicate_zero, List.filterMap_cons, List.filterMap_nil, Nat.reduceAdd, Nat.reduceSub, Nat.reduceLeDiff, and_self, if_true, decide_eq_true_eq, true_and, and_true, List.set_nil, List.length_set, if_pos (show 2 ≤ 1000000 by decide)]
  refine (ev_of (f15 (by omega) (rs ++ [z]) way μ3 hwsm (by omega))).mpr ?_
  rw [eds]
  show Ev (F k 18 [.int (dot rs way), .int (dot rs way)] μ3) _
  refine (ev_of (f18 (by omega) μ3 (fit_i dB))).mpr ?_
  simp only [↓ev_out, ↓ev_sqM, ↓ev_foM, ↓ev_setM, ↓ev_asgM, ↓ev_putM, ↓ev_ifM, ↓ev_tvM, ↓ev_tnM, ↓ev_taM, ↓ev_toM, ↓ev_op2, ↓ev_gV, ↓ev_kM, ↓ev_rtM, ↓ev_exM, ↓ev_neM, ↓ev_notM, ↓ev_andM, ↓ev_orM, ↓ev_nxM, ↓ev_app, ↓ev_nil, ↓ev_cons, ↓ev_callF, ↓ev_callM, ↓ev_slM, ↓ev_ptM, ↓ev_asI, ↓ev_seM, ↓ev_itL, ↓ev_itT, ↓ev_mkT, ↓ev_mkL, ↓ev_lcM, ↓ev_dispM, ↓ev_lft, ↓thenK_nx, ↓thenK_rt, ↓thenK_bk, ↓thenK_ct, ↓tgK_s, ↓outK_rt, ↓outK_nx, ↓vK_s, ↓turnK_nx, ↓turnK_rt, ↓turnK_bk, ↓turnK_ct, ↓ev_asB, ↓ev_add, ↓ev_sub, ↓ev_mul, ↓ev_fdiv, ↓ev_mod, ↓ev_pow, ↓ev_neg, ↓ev_eqI, ↓ev_neI, ↓ev_lt, ↓ev_le, ↓ev_gt, ↓ev_ge, ↓ev_gcd, ↓ev_absI, ↓ev_maxI, ↓ev_minI, ↓ev_intI, ↓ev_intB, ↓ev_tupT, ↓ev_tupL, ↓ev_lstT, ↓ev_lstL, ↓ev_lenT, ↓ev_lenL, ↓ev_catL, ↓ev_catT, ↓ev_ixT, ↓ev_ixL, ↓ev_slT, ↓ev_slL, ↓ev_isN, ↓ev_isNotN, ↓ev_zipTT, ↓ev_enumT, ↓ev_enumL, ↓ev_eqS, startD, pick, setTg, setAll, wipeD, List.map_cons, List.map_nil, List.length_cons, List.length_nil, List.cons_append, List.nil_append, List.getElem?_cons_zero, List.getElem?_cons_succ, List.set_cons_zero, List.set_cons_succ, List.replicate_succ, List.replicate_zero, List.filterMap_cons, List.filterMap_nil, Nat.reduceAdd, Nat.reduceSub, Nat.reduceLeDiff, and_self, if_true, decide_eq_true_eq, true_and, and_true, List.set_nil, List.length_set, Bool.not_true, Bool.false_eq_true, if_false]
  -- the point moved on
  have hmv : ∀ y ∈ movedL xs w way 1 2, y.natAbs < 1000 := fun y hy => by
    rcases List.mem_append.mp hy with q | q
    · obtain ⟨p, hp, rfl⟩ := List.mem_map.mp q
      have h1 := hx3 p.1 (zip_mem hp).1
      have h2 := hway p.2 (zip_mem hp).2
      have h3 := hx3 w (by simp)
      have h4 : (w * p.2).natAbs ≤ 10 * 10 := by
        rw [Int.natAbs_mul]
        exact Nat.mul_le_mul (by omega) (by omega)
      show (2 * p.1 + 1 * w * p.2).natAbs < 1000
      rw [Int.one_mul]
      omega
    · rw [List.mem_singleton.mp q]
      have h3 := hx3 w (by simp)
      omega
  have th_BB : 1000 ≤ BB := Nat.le_trans (by decide) e27_BB
  have emv : ((xs ++ [w]).zip way).map (fun p => 2 * p.1 + 1 * w * p.2) ++ [2 * w] = movedL xs w way 1 2 := rfl
  refine (ev_of (f7 (by omega) xs w way 1 2 μ3 (by decide) (by decide) hwsm (fun x hx => Nat.lt_of_lt_of_le (hmv x hx) th_BB) (by omega))).mpr ?_
  obtain ⟨ps, v, ep, hp1, hp2, hp3⟩ := lowL_last (B := 1000) (show 0 < 2 * w by omega) (by rw [emv]; exact hmv)
  obtain ⟨g, hg, eg⟩ := lowL_scale (movedL xs w way 1 2)
  rw [emv] at ep
  rw [ep] at eg
  rw [ep]
  have lps : ps.length = dp + 1 := by rw [hp1, List.length_map, List.length_zip]; simp [hx1, lway]
  refine (ev_of (f12 (by omega) (rs ++ [z]) ps v μ3 (fun y hy => Nat.lt_trans (hp3 y hy) (by decide)) (by omega) hp2)).mpr ?_
  obtain ⟨tp1, bt, hh, e1, hh0, e2, e3⟩ := low_pair (dot (rs ++ [z]) (ps ++ [v])) v
  obtain ⟨nr, lo, ee, f1', ee0, f2', f3'⟩ := low_pair (dot (rs ++ [z]) (xs ++ [w])) w
  rw [e1]
  simp only [↓ev_out, ↓ev_sqM, ↓ev_foM, ↓ev_setM, ↓ev_asgM, ↓ev_putM, ↓ev_ifM, ↓ev_tvM, ↓ev_tnM, ↓ev_taM, ↓ev_toM, ↓ev_op2, ↓ev_gV, ↓ev_kM, ↓ev_rtM, ↓ev_exM, ↓ev_neM, ↓ev_notM, ↓ev_andM, ↓ev_orM, ↓ev_nxM, ↓ev_app, ↓ev_nil, ↓ev_cons, ↓ev_callF, ↓ev_callM, ↓ev_slM, ↓ev_ptM, ↓ev_asI, ↓ev_seM, ↓ev_itL, ↓ev_itT, ↓ev_mkT, ↓ev_mkL, ↓ev_lcM, ↓ev_dispM, ↓ev_lft, ↓thenK_nx, ↓thenK_rt, ↓thenK_bk, ↓thenK_ct, ↓tgK_s, ↓outK_rt, ↓outK_nx, ↓vK_s, ↓turnK_nx, ↓turnK_rt, ↓turnK_bk, ↓turnK_ct, ↓ev_asB, ↓ev_add, ↓ev_sub, ↓ev_mul, ↓ev_fdiv, ↓ev_mod, ↓ev_pow, ↓ev_neg, ↓ev_eqI, ↓ev_neI, ↓ev_lt, ↓ev_le, ↓ev_gt, ↓ev_ge, ↓ev_gcd, ↓ev_absI, ↓ev_maxI, ↓ev_minI, ↓ev_intI, ↓ev_intB, ↓ev_tupT, ↓ev_tupL, ↓ev_lstT, ↓ev_lstL, ↓ev_lenT, ↓ev_lenL, ↓ev_catL, ↓ev_catT, ↓ev_ixT, ↓ev_ixL, ↓ev_slT, ↓ev_slL, ↓ev_isN, ↓ev_isNotN, ↓ev_zipTT, ↓ev_enumT, ↓ev_enumL, ↓ev_eqS, startD, pick, setTg, setAll, wipeD, List.map_cons, List.map_nil, List.length_cons, List.length_nil, List.cons_append, List.nil_append, List.getElem?_cons_zero, List.getElem?_cons_succ, List.set_cons_zero, List.set_cons_succ, List.replicate_succ, List.replicate_zero, List.filterMap_cons, List.filterMap_nil, Nat.reduceAdd, Nat.reduceSub, Nat.reduceLeDiff, and_self, if_true, decide_eq_true_eq, true_and, and_true, List.set_nil, List.length_set]
  refine (ev_of (f12 (by omega) (rs ++ [z]) xs w μ3 hsm (by omega) hx2)).mpr ?_
  rw [f1']
  have b1 : bt.natAbs < 2 ^ 64 := Nat.lt_trans (small_part hh0 e3 (hp3 v (by simp))) (by decide)
  have b2 : lo.natAbs < 2 ^ 64 := Nat.lt_trans (small_part ee0 f3' (hx3 w (by simp))) (by decide)
  simp only [↓ev_out, ↓ev_sqM, ↓ev_foM, ↓ev_setM, ↓ev_asgM, ↓ev_putM, ↓ev_ifM, ↓ev_tvM, ↓ev_tnM, ↓ev_taM, ↓ev_toM, ↓ev_op2, ↓ev_gV, ↓ev_kM, ↓ev_rtM, ↓ev_exM, ↓ev_neM, ↓ev_notM, ↓ev_andM, ↓ev_orM, ↓ev_nxM, ↓ev_app, ↓ev_nil, ↓ev_cons, ↓ev_callF, ↓ev_callM, ↓ev_slM, ↓ev_ptM, ↓ev_asI, ↓ev_seM, ↓ev_itL, ↓ev_itT, ↓ev_mkT, ↓ev_mkL, ↓ev_lcM, ↓ev_dispM, ↓ev_lft, ↓thenK_nx, ↓thenK_rt, ↓thenK_bk, ↓thenK_ct, ↓tgK_s, ↓outK_rt, ↓outK_nx, ↓vK_s, ↓turnK_nx, ↓turnK_rt, ↓turnK_bk, ↓turnK_ct, ↓ev_asB, ↓ev_add, ↓ev_sub, ↓ev_mul, ↓ev_fdiv, ↓ev_mod, ↓ev_pow, ↓ev_neg, ↓ev_eqI, ↓ev_neI, ↓ev_lt, ↓ev_le, ↓ev_gt, ↓ev_ge, ↓ev_gcd, ↓ev_absI, ↓ev_maxI, ↓ev_minI, ↓ev_intI, ↓ev_intB, ↓ev_tupT, ↓ev_tupL, ↓ev_lstT, ↓ev_lstL, ↓ev_lenT, ↓ev_lenL, ↓ev_catL, ↓ev_catT, ↓ev_ixT, ↓ev_ixL, ↓ev_slT, ↓ev_slL, ↓ev_isN, ↓ev_isNotN, ↓ev_zipTT, ↓ev_enumT, ↓ev_enumL, ↓ev_eqS, startD, pick, setTg, setAll, wipeD, List.map_cons, List.map_nil, List.length_cons, List.length_nil, List.cons_append, List.nil_append, List.getElem?_cons_zero, List.getElem?_cons_succ, List.set_cons_zero, List.set_cons_succ, List.replicate_succ, List.replicate_zero, List.filterMap_cons, List.filterMap_nil, Nat.reduceAdd, Nat.reduceSub, Nat.reduceLeDiff, and_self, if_true, decide_eq_true_eq, true_and, and_true, List.set_nil, List.length_set]
  refine ⟨mul64 b2, mul64 b1, mul64l (by decide), mul64 b1, mul64 b2, ?_, s13, m30⟩
  obtain ⟨k1, k2⟩ := slope_law (T1 := dot (rs ++ [z]) (ps ++ [v])) (P := dot (rs ++ [z]) (xs ++ [w])) (due := dot rs way) (by omega) (by omega) eg rfl rfl rfl
  have fin : 2 * (tp1 * lo - nr * bt) = dot rs way * bt * lo := by
    have q : 2 * (tp1 * lo - nr * bt) * (hh * ee * g) = dot rs way * bt * lo * (hh * ee * g) := by
      generalize dot (rs ++ [z]) (ps ++ [v]) = T at k1 e2
      generalize dot (rs ++ [z]) (xs ++ [w]) = Pp at k1 f2'
      generalize dot rs way = due at k1 ⊢
      grind
    exact Int.eq_of_mul_eq_mul_right (Int.ne_of_gt (Int.mul_pos (Int.mul_pos hh0 ee0) hg)) q
  rw [fin]
  show D.bl (decide (dot rs way * bt * lo = dot rs way * bt * lo)) = D.bl true
  simp
theorem rng1_2 {μ : Mu} {K : List D → Mu → Prop} : Ev (rng1 [.int 2] μ) K ↔ K (rngD 0 2) μ := rng1_ok (j := 2) (by decide)
theorem rng1_4 {μ : Mu} {K : List D → Mu → Prop} : Ev (rng1 [.int 4] μ) K ↔ K (rngD 0 4) μ := rng1_ok (j := 4) (by decide)
def rowOf : D → List Int
  | .tup xs => xs.map fun d => match d with
    | .int i => i
    | _ => 0
  | _ => []
theorem rowOf_tp (ns : List Int) : rowOf (tp ns) = ns := by
  show List.map _ (List.map D.int ns) = ns
  rw [List.map_map]
  exact List.map_id ns
def hasPl (d : D) : Bool := match planeD (rowOf d) with
  | .tup _ => true
  | _ => false
theorem planeD_cases (ns : List Int) : planeD ns = .non ∨ ∃ q, planeD ns = tp q := by
  unfold planeD
  split
  · exact .inl rfl
  · exact .inr ⟨_, rfl⟩
theorem planes_tp : ∀ ys : List D, ∃ ps : List (List Int), (ys.filter hasPl).map (fun d => planeD (rowOf d)) = ps.map tp ∧ ps.length ≤ ys.length
  | [] => ⟨[], rfl, Nat.le_refl _⟩
  | y :: ys => by
    obtain ⟨ps, e, l⟩ := planes_tp ys
    rw [List.filter_cons]
    by_cases h : hasPl y = true
    · rw [if_pos h]
      rcases planeD_cases (rowOf y) with z | ⟨q, z⟩
      · unfold hasPl at h; rw [z] at h; cases h
      · exact ⟨q :: ps, by rw [List.map_cons, List.map_cons, e, z], by simp; omega⟩
    · rw [if_neg h]
      exact ⟨ps, e, by simp; omega⟩
theorem f32 {k : Nat} (hk : 8 ≤ k) (h31 : ∀ μ, F k 31 [] μ = .ok (.bl true) μ) (ns : List Int) (μ : Mu) (hl : ns.length ≤ 63) : Ev (F (k + 1) 32 [.lst (ns.map .int)] μ) fun d _ => d = .bl true := by
  rw [F, s32_eq]
  unfold s32
  simp only [↓ev_out, ↓ev_sqM, ↓ev_foM, ↓ev_setM, ↓ev_asgM, ↓ev_putM, ↓ev_ifM, ↓ev_tvM, ↓ev_tnM, ↓ev_taM, ↓ev_toM, ↓ev_op2, ↓ev_gV, ↓ev_kM, ↓ev_rtM, ↓ev_exM, ↓ev_neM, ↓ev_notM, ↓ev_andM, ↓ev_orM, ↓ev_nxM, ↓ev_app, ↓ev_nil, ↓ev_cons, ↓ev_callF, ↓ev_callM, ↓ev_slM, ↓ev_ptM, ↓ev_asI, ↓ev_seM, ↓ev_itL, ↓ev_itT, ↓ev_mkT, ↓ev_mkL, ↓ev_lcM, ↓ev_dispM, ↓ev_lft, ↓thenK_nx, ↓thenK_rt, ↓thenK_bk, ↓thenK_ct, ↓tgK_s, ↓outK_rt, ↓outK_nx, ↓vK_s, ↓turnK_nx, ↓turnK_rt, ↓turnK_bk, ↓turnK_ct, ↓ev_asB, ↓ev_add, ↓ev_sub, ↓ev_mul, ↓ev_fdiv, ↓ev_mod, ↓ev_pow, ↓ev_neg, ↓ev_eqI, ↓ev_neI, ↓ev_lt, ↓ev_le, ↓ev_gt, ↓ev_ge, ↓ev_gcd, ↓ev_absI, ↓ev_maxI, ↓ev_minI, ↓ev_intI, ↓ev_intB, ↓ev_tupT, ↓ev_tupL, ↓ev_lstT, ↓ev_lstL, ↓ev_lenT, ↓ev_lenL, ↓ev_catL, ↓ev_catT, ↓ev_ixT, ↓ev_ixL, ↓ev_slT, ↓ev_slL, ↓ev_isN, ↓ev_isNotN, ↓ev_zipTT, ↓ev_enumT, ↓ev_enumL, ↓ev_eqS, startD, pick, setTg, setAll, wipeD, List.map_cons, List.map_nil, List.length_cons, List.length_nil, List.cons_append, List.nil_append, List.getElem?_cons_zero, List.getElem?_cons_succ, List.set_cons_zero, List.set_cons_succ, List.replicate_succ, List.replicate_zero, List.filterMap_cons, List.filterMap_nil, Nat.reduceAdd, Nat.reduceSub, Nat.reduceLeDiff, and_self, if_true, decide_eq_true_eq, true_and, and_true, List.set_nil, List.length_set]
  refine (ev_of (h31 μ)).mpr ?_
  simp only [↓ev_out, ↓ev_sqM, ↓ev_foM, ↓ev_setM, ↓ev_asgM, ↓ev_putM, ↓ev_ifM, ↓ev_tvM, ↓ev_tnM, ↓ev_taM, ↓ev_toM, ↓ev_op2, ↓ev_gV, ↓ev_kM, ↓ev_rtM, ↓ev_exM, ↓ev_neM, ↓ev_notM, ↓ev_andM, ↓ev_orM, ↓ev_nxM, ↓ev_app, ↓ev_nil, ↓ev_cons, ↓ev_callF, ↓ev_callM, ↓ev_slM, ↓ev_ptM, ↓ev_asI, ↓ev_seM, ↓ev_itL, ↓ev_itT, ↓ev_mkT, ↓ev_mkL, ↓ev_lcM, ↓ev_dispM, ↓ev_lft, ↓thenK_nx, ↓thenK_rt, ↓thenK_bk, ↓thenK_ct, ↓tgK_s, ↓outK_rt, ↓outK_nx, ↓vK_s, ↓turnK_nx, ↓turnK_rt, ↓turnK_bk, ↓turnK_ct, ↓ev_asB, ↓ev_add, ↓ev_sub, ↓ev_mul, ↓ev_fdiv, ↓ev_mod, ↓ev_pow, ↓ev_neg, ↓ev_eqI, ↓ev_neI, ↓ev_lt, ↓ev_le, ↓ev_gt, ↓ev_ge, ↓ev_gcd, ↓ev_absI, ↓ev_maxI, ↓ev_minI, ↓ev_intI, ↓ev_intB, ↓ev_tupT, ↓ev_tupL, ↓ev_lstT, ↓ev_lstL, ↓ev_lenT, ↓ev_lenL, ↓ev_catL, ↓ev_catT, ↓ev_ixT, ↓ev_ixL, ↓ev_slT, ↓ev_slL, ↓ev_isN, ↓ev_isNotN, ↓ev_zipTT, ↓ev_enumT, ↓ev_enumL, ↓ev_eqS, startD, pick, setTg, setAll, wipeD, List.map_cons, List.map_nil, List.length_cons, List.length_nil, List.cons_append, List.nil_append, List.getElem?_cons_zero, List.getElem?_cons_succ, List.set_cons_zero, List.set_cons_succ, List.replicate_succ, List.replicate_zero, List.filterMap_cons, List.filterMap_nil, Nat.reduceAdd, Nat.reduceSub, Nat.reduceLeDiff, and_self, if_true, decide_eq_true_eq, true_and, and_true, List.set_nil, List.length_set, Bool.not_true, Bool.false_eq_true, if_false, List.length_map]
  have hN : ∃ N : Nat, N ≤ 4 ∧ (if (if (4 : Int) < (ns.length : Int) then 4 else (ns.length : Int)) > 2 then (if (4 : Int) < (ns.length : Int) then 4 else (ns.length : Int)) else 2) = (N : Int) := by
    by_cases h1 : (4 : Int) < (ns.length : Int)
    · rw [if_pos h1]; exact ⟨4, by decide, rfl⟩
    · rw [if_neg h1]
      by_cases h2 : (ns.length : Int) > 2
      · rw [if_pos h2]; exact ⟨ns.length, by omega, rfl⟩
      · rw [if_neg h2]; exact ⟨2, by decide, rfl⟩
  obtain ⟨N, hN4, eN⟩ := hN
  rw [eN, rng1_ok (show N ≤ 1000000 by omega)]
  refine ev_for (fun ds ρ μ' => (∀ d ∈ ds, ∃ i : Int, d = .int i ∧ 0 ≤ i ∧ i ≤ 1000) ∧ ∃ o1 o2 o3 o4 o5 o6 o7 o8 o9, ρ = [some (.lst (ns.map .int)), o1, o2, o3, o4, o5, o6, o7, o8, o9]) ?_ ?_ _ _ _ ⟨fun d hd => ?_, none, none, none, none, none, none, none, none, none, rfl⟩
  rotate_left
  · rintro ρ μ' ⟨_, o1, o2, o3, o4, o5, o6, o7, o8, o9, rfl⟩
    simp only [↓ev_out, ↓ev_sqM, ↓ev_foM, ↓ev_setM, ↓ev_asgM, ↓ev_putM, ↓ev_ifM, ↓ev_tvM, ↓ev_tnM, ↓ev_taM, ↓ev_toM, ↓ev_op2, ↓ev_gV, ↓ev_kM, ↓ev_rtM, ↓ev_exM, ↓ev_neM, ↓ev_notM, ↓ev_andM, ↓ev_orM, ↓ev_nxM, ↓ev_app, ↓ev_nil, ↓ev_cons, ↓ev_callF, ↓ev_callM, ↓ev_slM, ↓ev_ptM, ↓ev_asI, ↓ev_seM, ↓ev_itL, ↓ev_itT, ↓ev_mkT, ↓ev_mkL, ↓ev_lcM, ↓ev_dispM, ↓ev_lft, ↓thenK_nx, ↓thenK_rt, ↓thenK_bk, ↓thenK_ct, ↓tgK_s, ↓outK_rt, ↓outK_nx, ↓vK_s, ↓turnK_nx, ↓turnK_rt, ↓turnK_bk, ↓turnK_ct, ↓ev_asB, ↓ev_add, ↓ev_sub, ↓ev_mul, ↓ev_fdiv, ↓ev_mod, ↓ev_pow, ↓ev_neg, ↓ev_eqI, ↓ev_neI, ↓ev_lt, ↓ev_le, ↓ev_gt, ↓ev_ge, ↓ev_gcd, ↓ev_absI, ↓ev_maxI, ↓ev_minI, ↓ev_intI, ↓ev_intB, ↓ev_tupT, ↓ev_tupL, ↓ev_lstT, ↓ev_lstL, ↓ev_lenT, ↓ev_lenL, ↓ev_catL, ↓ev_catT, ↓ev_ixT, ↓ev_ixL, ↓ev_slT, ↓ev_slL, ↓ev_isN, ↓ev_isNotN, ↓ev_zipTT, ↓ev_enumT, ↓ev_enumL, ↓ev_eqS, startD, pick, setTg, setAll, wipeD, List.map_cons, List.map_nil, List.length_cons, List.length_nil, List.cons_append, List.nil_append, List.getElem?_cons_zero, List.getElem?_cons_succ, List.set_cons_zero, List.set_cons_succ, List.replicate_succ, List.replicate_zero, List.filterMap_cons, List.filterMap_nil, Nat.reduceAdd, Nat.reduceSub, Nat.reduceLeDiff, and_self, if_true, decide_eq_true_eq, true_and, and_true, List.set_nil, List.length_set]
  · unfold rngD at hd
    obtain ⟨i, hi, rfl⟩ := List.mem_map.mp hd
    have := List.mem_range.mp hi
    exact ⟨_, rfl, by omega, by omega⟩
  rintro x rest ρ μ0 ⟨hds, o1, o2, o3, o4, o5, o6, o7, o8, o9, rfl⟩
  obtain ⟨i, rfl, hi0, hi1⟩ := hds x List.mem_cons_self
  refine ⟨_, rfl, ?_⟩
  simp only [↓ev_out, ↓ev_sqM, ↓ev_foM, ↓ev_setM, ↓ev_asgM, ↓ev_putM, ↓ev_ifM, ↓ev_tvM, ↓ev_tnM, ↓ev_taM, ↓ev_toM, ↓ev_op2, ↓ev_gV, ↓ev_kM, ↓ev_rtM, ↓ev_exM, ↓ev_neM, ↓ev_notM, ↓ev_andM, ↓ev_orM, ↓ev_nxM, ↓ev_app, ↓ev_nil, ↓ev_cons, ↓ev_callF, ↓ev_callM, ↓ev_slM, ↓ev_ptM, ↓ev_asI, ↓ev_seM, ↓ev_itL, ↓ev_itT, ↓ev_mkT, ↓ev_mkL, ↓ev_lcM, ↓ev_dispM, ↓ev_lft, ↓thenK_nx, ↓thenK_rt, ↓thenK_bk, ↓thenK_ct, ↓tgK_s, ↓outK_rt, ↓outK_nx, ↓vK_s, ↓turnK_nx, ↓turnK_rt, ↓turnK_bk, ↓turnK_ct, ↓ev_asB, ↓ev_add, ↓ev_sub, ↓ev_mul, ↓ev_fdiv, ↓ev_mod, ↓ev_pow, ↓ev_neg, ↓ev_eqI, ↓ev_neI, ↓ev_lt, ↓ev_le, ↓ev_gt, ↓ev_ge, ↓ev_gcd, ↓ev_absI, ↓ev_maxI, ↓ev_minI, ↓ev_intI, ↓ev_intB, ↓ev_tupT, ↓ev_tupL, ↓ev_lstT, ↓ev_lstL, ↓ev_lenT, ↓ev_lenL, ↓ev_catL, ↓ev_catT, ↓ev_ixT, ↓ev_ixL, ↓ev_slT, ↓ev_slL, ↓ev_isN, ↓ev_isNotN, ↓ev_zipTT, ↓ev_enumT, ↓ev_enumL, ↓ev_eqS, startD, pick, setTg, setAll, wipeD, List.map_cons, List.map_nil, List.length_cons, List.length_nil, List.cons_append, List.nil_append, List.getElem?_cons_zero, List.getElem?_cons_succ, List.set_cons_zero, List.set_cons_succ, List.replicate_succ, List.replicate_zero, List.filterMap_cons, List.filterMap_nil, Nat.reduceAdd, Nat.reduceSub, Nat.reduceLeDiff, and_self, if_true, decide_eq_true_eq, true_and, and_true, List.set_nil, List.length_set]
  rw [← F, f16 (by omega)]
  refine ev_imp (begun_ok (by omega) hi0 hi1) ?_
  rintro _ μ1 ⟨rfl, _, m1⟩
  generalize List.length μ0 = j at m1
  try simp only [↓ev_out, ↓ev_sqM, ↓ev_foM, ↓ev_setM, ↓ev_asgM, ↓ev_putM, ↓ev_ifM, ↓ev_tvM, ↓ev_tnM, ↓ev_taM, ↓ev_toM, ↓ev_op2, ↓ev_gV, ↓ev_kM, ↓ev_rtM, ↓ev_exM, ↓ev_neM, ↓ev_notM, ↓ev_andM, ↓ev_orM, ↓ev_nxM, ↓ev_app, ↓ev_nil, ↓ev_cons, ↓ev_callF, ↓ev_callM, ↓ev_slM, ↓ev_ptM, ↓ev_asI, ↓ev_seM, ↓ev_itL, ↓ev_itT, ↓ev_mkT, ↓ev_mkL, ↓ev_lcM, ↓ev_dispM, ↓ev_lft, ↓thenK_nx, ↓thenK_rt, ↓thenK_bk, ↓thenK_ct, ↓tgK_s, ↓outK_rt, ↓outK_nx, ↓vK_s, ↓turnK_nx, ↓turnK_rt, ↓turnK_bk, ↓turnK_ct, ↓ev_asB, ↓ev_add, ↓ev_sub, ↓ev_mul, ↓ev_fdiv, ↓ev_mod, ↓ev_pow, ↓ev_neg, ↓ev_eqI, ↓ev_neI, ↓ev_lt, ↓ev_le, ↓ev_gt, ↓ev_ge, ↓ev_gcd, ↓ev_absI, ↓ev_maxI, ↓ev_minI, ↓ev_intI, ↓ev_intB, ↓ev_tupT, ↓ev_tupL, ↓ev_lstT, ↓ev_lstL, ↓ev_lenT, ↓ev_lenL, ↓ev_catL, ↓ev_catT, ↓ev_ixT, ↓ev_ixL, ↓ev_slT, ↓ev_slL, ↓ev_isN, ↓ev_isNotN, ↓ev_zipTT, ↓ev_enumT, ↓ev_enumL, ↓ev_eqS, startD, pick, setTg, setAll, wipeD, List.map_cons, List.map_nil, List.length_cons, List.length_nil, List.cons_append, List.nil_append, List.getElem?_cons_zero, List.getElem?_cons_succ, List.set_cons_zero, List.set_cons_succ, List.replicate_succ, List.replicate_zero, List.filterMap_cons, List.filterMap_nil, Nat.reduceAdd, Nat.reduceSub, Nat.reduceLeDiff, and_self, if_true, decide_eq_true_eq, true_and, and_true, List.set_nil, List.length_set]
  rw [rng1_4]
  refine ev_for (fun ds ρ μ' => (∃ t, ds.length + t = 4 ∧ MAt j (200 * t) μ') ∧ ∃ o3 o4 o5 o6 o7 o8 o9, ρ = [some (.lst (ns.map .int)), some (.int i), some (.ref j), o3, o4, o5, o6, o7, o8, o9]) ?_ ?_ _ _ _ ⟨⟨0, by rw [rngD_length], m1⟩, o3, o4, o5, o6, o7, o8, o9, rfl⟩
  rotate_left
  · rintro ρ μ' ⟨_, o3, o4, o5, o6, o7, o8, o9, rfl⟩
    simp only [↓ev_out, ↓ev_sqM, ↓ev_foM, ↓ev_setM, ↓ev_asgM, ↓ev_putM, ↓ev_ifM, ↓ev_tvM, ↓ev_tnM, ↓ev_taM, ↓ev_toM, ↓ev_op2, ↓ev_gV, ↓ev_kM, ↓ev_rtM, ↓ev_exM, ↓ev_neM, ↓ev_notM, ↓ev_andM, ↓ev_orM, ↓ev_nxM, ↓ev_app, ↓ev_nil, ↓ev_cons, ↓ev_callF, ↓ev_callM, ↓ev_slM, ↓ev_ptM, ↓ev_asI, ↓ev_seM, ↓ev_itL, ↓ev_itT, ↓ev_mkT, ↓ev_mkL, ↓ev_lcM, ↓ev_dispM, ↓ev_lft, ↓thenK_nx, ↓thenK_rt, ↓thenK_bk, ↓thenK_ct, ↓tgK_s, ↓outK_rt, ↓outK_nx, ↓vK_s, ↓turnK_nx, ↓turnK_rt, ↓turnK_bk, ↓turnK_ct, ↓ev_asB, ↓ev_add, ↓ev_sub, ↓ev_mul, ↓ev_fdiv, ↓ev_mod, ↓ev_pow, ↓ev_neg, ↓ev_eqI, ↓ev_neI, ↓ev_lt, ↓ev_le, ↓ev_gt, ↓ev_ge, ↓ev_gcd, ↓ev_absI, ↓ev_maxI, ↓ev_minI, ↓ev_intI, ↓ev_intB, ↓ev_tupT, ↓ev_tupL, ↓ev_lstT, ↓ev_lstL, ↓ev_lenT, ↓ev_lenL, ↓ev_catL, ↓ev_catT, ↓ev_ixT, ↓ev_ixL, ↓ev_slT, ↓ev_slL, ↓ev_isN, ↓ev_isNotN, ↓ev_zipTT, ↓ev_enumT, ↓ev_enumL, ↓ev_eqS, startD, pick, setTg, setAll, wipeD, List.map_cons, List.map_nil, List.length_cons, List.length_nil, List.cons_append, List.nil_append, List.getElem?_cons_zero, List.getElem?_cons_succ, List.set_cons_zero, List.set_cons_succ, List.replicate_succ, List.replicate_zero, List.filterMap_cons, List.filterMap_nil, Nat.reduceAdd, Nat.reduceSub, Nat.reduceLeDiff, and_self, if_true, decide_eq_true_eq, true_and, and_true, List.set_nil, List.length_set]
    exact ⟨fun d hd => hds d (List.mem_cons_of_mem _ hd), _, _, _, _, _, _, _, _, _, rfl⟩
  rintro x rest' ρ μ2 ⟨⟨t, ht, m2⟩, o3, o4, o5, o6, o7, o8, o9, rfl⟩
  have ht' : rest'.length + (t + 1) = 4 := by rw [List.length_cons] at ht; omega
  have cap : 200 * t + 200 ≤ CAP := by
    unfold CAP
    have : 200 * t + 200 ≤ 1024 := by omega
    exact Nat.le_trans this (by decide)
  generalize hc0 : 200 * t = c0 at m2 cap
  refine ⟨_, rfl, ?_⟩
  simp only [↓ev_out, ↓ev_sqM, ↓ev_foM, ↓ev_setM, ↓ev_asgM, ↓ev_putM, ↓ev_ifM, ↓ev_tvM, ↓ev_tnM, ↓ev_taM, ↓ev_toM, ↓ev_op2, ↓ev_gV, ↓ev_kM, ↓ev_rtM, ↓ev_exM, ↓ev_neM, ↓ev_notM, ↓ev_andM, ↓ev_orM, ↓ev_nxM, ↓ev_app, ↓ev_nil, ↓ev_cons, ↓ev_callF, ↓ev_callM, ↓ev_slM, ↓ev_ptM, ↓ev_asI, ↓ev_seM, ↓ev_itL, ↓ev_itT, ↓ev_mkT, ↓ev_mkL, ↓ev_lcM, ↓ev_dispM, ↓ev_lft, ↓thenK_nx, ↓thenK_rt, ↓thenK_bk, ↓thenK_ct, ↓tgK_s, ↓outK_rt, ↓outK_nx, ↓vK_s, ↓turnK_nx, ↓turnK_rt, ↓turnK_bk, ↓turnK_ct, ↓ev_asB, ↓ev_add, ↓ev_sub, ↓ev_mul, ↓ev_fdiv, ↓ev_mod, ↓ev_pow, ↓ev_neg, ↓ev_eqI, ↓ev_neI, ↓ev_lt, ↓ev_le, ↓ev_gt, ↓ev_ge, ↓ev_gcd, ↓ev_absI, ↓ev_maxI, ↓ev_minI, ↓ev_intI, ↓ev_intB, ↓ev_tupT, ↓ev_tupL, ↓ev_lstT, ↓ev_lstL, ↓ev_lenT, ↓ev_lenL, ↓ev_catL, ↓ev_catT, ↓ev_ixT, ↓ev_ixL, ↓ev_slT, ↓ev_slL, ↓ev_isN, ↓ev_isNotN, ↓ev_zipTT, ↓ev_enumT, ↓ev_enumL, ↓ev_eqS, startD, pick, setTg, setAll, wipeD, List.map_cons, List.map_nil, List.length_cons, List.length_nil, List.cons_append, List.nil_append, List.getElem?_cons_zero, List.getElem?_cons_succ, List.set_cons_zero, List.set_cons_succ, List.replicate_succ, List.replicate_zero, List.filterMap_cons, List.filterMap_nil, Nat.reduceAdd, Nat.reduceSub, Nat.reduceLeDiff, and_self, if_true, decide_eq_true_eq, true_and, and_true, List.set_nil, List.length_set]
  refine ev_imp (f17d (by omega) m2 (by omega) (by decide) (by decide)) ?_
  rintro _ μ3 ⟨r, rfl, r0, r1, _, m3⟩
  simp only [↓ev_out, ↓ev_sqM, ↓ev_foM, ↓ev_setM, ↓ev_asgM, ↓ev_putM, ↓ev_ifM, ↓ev_tvM, ↓ev_tnM, ↓ev_taM, ↓ev_toM, ↓ev_op2, ↓ev_gV, ↓ev_kM, ↓ev_rtM, ↓ev_exM, ↓ev_neM, ↓ev_notM, ↓ev_andM, ↓ev_orM, ↓ev_nxM, ↓ev_app, ↓ev_nil, ↓ev_cons, ↓ev_callF, ↓ev_callM, ↓ev_slM, ↓ev_ptM, ↓ev_asI, ↓ev_seM, ↓ev_itL, ↓ev_itT, ↓ev_mkT, ↓ev_mkL, ↓ev_lcM, ↓ev_dispM, ↓ev_lft, ↓thenK_nx, ↓thenK_rt, ↓thenK_bk, ↓thenK_ct, ↓tgK_s, ↓outK_rt, ↓outK_nx, ↓vK_s, ↓turnK_nx, ↓turnK_rt, ↓turnK_bk, ↓turnK_ct, ↓ev_asB, ↓ev_add, ↓ev_sub, ↓ev_mul, ↓ev_fdiv, ↓ev_mod, ↓ev_pow, ↓ev_neg, ↓ev_eqI, ↓ev_neI, ↓ev_lt, ↓ev_le, ↓ev_gt, ↓ev_ge, ↓ev_gcd, ↓ev_absI, ↓ev_maxI, ↓ev_minI, ↓ev_intI, ↓ev_intB, ↓ev_tupT, ↓ev_tupL, ↓ev_lstT, ↓ev_lstL, ↓ev_lenT, ↓ev_lenL, ↓ev_catL, ↓ev_catT, ↓ev_ixT, ↓ev_ixL, ↓ev_slT, ↓ev_slL, ↓ev_isN, ↓ev_isNotN, ↓ev_zipTT, ↓ev_enumT, ↓ev_enumL, ↓ev_eqS, startD, pick, setTg, setAll, wipeD, List.map_cons, List.map_nil, List.length_cons, List.length_nil, List.cons_append, List.nil_append, List.getElem?_cons_zero, List.getElem?_cons_succ, List.set_cons_zero, List.set_cons_succ, List.replicate_succ, List.replicate_zero, List.filterMap_cons, List.filterMap_nil, Nat.reduceAdd, Nat.reduceSub, Nat.reduceLeDiff, and_self, if_true, decide_eq_true_eq, true_and, and_true, List.set_nil, List.length_set]
  obtain ⟨dm, edm, hd0, hd⟩ : ∃ dm : Nat, 1 + r = (dm : Int) ∧ 1 ≤ dm ∧ dm ≤ 4 := ⟨(1 + r).toNat, by omega, by omega, by omega⟩
  rw [edm, rng1_2]
  have l2 : (rngD 0 2).length = 2 := rngD_length 0 2
  generalize rngD 0 2 = dl at l2 ⊢
  have hcap3 : c0 + 1 + 6 * dl.length ≤ CAP := by rw [l2]; omega
  refine ev_imp (lc_st (N := 6) (cap := CAP) (Q := fun y => ∃ ms, y = tp ms ∧ RowP dm ms) dl (fun d hd' c' μ' hc' m => ?_) (c0 + 1) μ3 hcap3 m3) ?_
  · simp only [↓ev_out, ↓ev_sqM, ↓ev_foM, ↓ev_setM, ↓ev_asgM, ↓ev_putM, ↓ev_ifM, ↓ev_tvM, ↓ev_tnM, ↓ev_taM, ↓ev_toM, ↓ev_op2, ↓ev_gV, ↓ev_kM, ↓ev_rtM, ↓ev_exM, ↓ev_neM, ↓ev_notM, ↓ev_andM, ↓ev_orM, ↓ev_nxM, ↓ev_app, ↓ev_nil, ↓ev_cons, ↓ev_callF, ↓ev_callM, ↓ev_slM, ↓ev_ptM, ↓ev_asI, ↓ev_seM, ↓ev_itL, ↓ev_itT, ↓ev_mkT, ↓ev_mkL, ↓ev_lcM, ↓ev_dispM, ↓ev_lft, ↓thenK_nx, ↓thenK_rt, ↓thenK_bk, ↓thenK_ct, ↓tgK_s, ↓outK_rt, ↓outK_nx, ↓vK_s, ↓turnK_nx, ↓turnK_rt, ↓turnK_bk, ↓turnK_ct, ↓ev_asB, ↓ev_add, ↓ev_sub, ↓ev_mul, ↓ev_fdiv, ↓ev_mod, ↓ev_pow, ↓ev_neg, ↓ev_eqI, ↓ev_neI, ↓ev_lt, ↓ev_le, ↓ev_gt, ↓ev_ge, ↓ev_gcd, ↓ev_absI, ↓ev_maxI, ↓ev_minI, ↓ev_intI, ↓ev_intB, ↓ev_tupT, ↓ev_tupL, ↓ev_lstT, ↓ev_lstL, ↓ev_lenT, ↓ev_lenL, ↓ev_catL, ↓ev_catT, ↓ev_ixT, ↓ev_ixL, ↓ev_slT, ↓ev_slL, ↓ev_isN, ↓ev_isNotN, ↓ev_zipTT, ↓ev_enumT, ↓ev_enumL, ↓ev_eqS, startD, pick, setTg, setAll, wipeD, List.map_cons, List.map_nil, List.length_cons, List.length_nil, List.cons_append, List.nil_append, List.getElem?_cons_zero, List.getElem?_cons_succ, List.set_cons_zero, List.set_cons_succ, List.replicate_succ, List.replicate_zero, List.filterMap_cons, List.filterMap_nil, Nat.reduceAdd, Nat.reduceSub, Nat.reduceLeDiff, and_self, if_true, decide_eq_true_eq, true_and, and_true, List.set_nil, List.length_set]
    refine ev_imp (f27 (by omega) m hd hc') ?_
    rintro d μ4 ⟨ms, rfl, hr, s, m4⟩
    exact ⟨⟨ms, rfl, hr⟩, s, m4⟩
  rintro ys μ4 ⟨q1, q2, _, m4⟩
  rw [l2] at q1 m4
  try simp only [↓ev_out, ↓ev_sqM, ↓ev_foM, ↓ev_setM, ↓ev_asgM, ↓ev_putM, ↓ev_ifM, ↓ev_tvM, ↓ev_tnM, ↓ev_taM, ↓ev_toM, ↓ev_op2, ↓ev_gV, ↓ev_kM, ↓ev_rtM, ↓ev_exM, ↓ev_neM, ↓ev_notM, ↓ev_andM, ↓ev_orM, ↓ev_nxM, ↓ev_app, ↓ev_nil, ↓ev_cons, ↓ev_callF, ↓ev_callM, ↓ev_slM, ↓ev_ptM, ↓ev_asI, ↓ev_seM, ↓ev_itL, ↓ev_itT, ↓ev_mkT, ↓ev_mkL, ↓ev_lcM, ↓ev_dispM, ↓ev_lft, ↓thenK_nx, ↓thenK_rt, ↓thenK_bk, ↓thenK_ct, ↓tgK_s, ↓outK_rt, ↓outK_nx, ↓vK_s, ↓turnK_nx, ↓turnK_rt, ↓turnK_bk, ↓turnK_ct, ↓ev_asB, ↓ev_add, ↓ev_sub, ↓ev_mul, ↓ev_fdiv, ↓ev_mod, ↓ev_pow, ↓ev_neg, ↓ev_eqI, ↓ev_neI, ↓ev_lt, ↓ev_le, ↓ev_gt, ↓ev_ge, ↓ev_gcd, ↓ev_absI, ↓ev_maxI, ↓ev_minI, ↓ev_intI, ↓ev_intB, ↓ev_tupT, ↓ev_tupL, ↓ev_lstT, ↓ev_lstL, ↓ev_lenT, ↓ev_lenL, ↓ev_catL, ↓ev_catT, ↓ev_ixT, ↓ev_ixL, ↓ev_slT, ↓ev_slL, ↓ev_isN, ↓ev_isNotN, ↓ev_zipTT, ↓ev_enumT, ↓ev_enumL, ↓ev_eqS, startD, pick, setTg, setAll, wipeD, List.map_cons, List.map_nil, List.length_cons, List.length_nil, List.cons_append, List.nil_append, List.getElem?_cons_zero, List.getElem?_cons_succ, List.set_cons_zero, List.set_cons_succ, List.replicate_succ, List.replicate_zero, List.filterMap_cons, List.filterMap_nil, Nat.reduceAdd, Nat.reduceSub, Nat.reduceLeDiff, and_self, if_true, decide_eq_true_eq, true_and, and_true, List.set_nil, List.length_set, q1, if_pos (show 2 ≤ 1000000 by decide)]
  refine ev_imp (ev_lc (K := fun acc μ' => acc = [] ∧ MAt j (c0 + 133) μ') (fun ds acc μ' => acc = [] ∧ (∀ d ∈ ds, ∃ ms, d = tp ms ∧ RowP dm ms) ∧ ∃ u, ds.length + u = 2 ∧ MAt j (c0 + 13 + 60 * u) μ') ?_ ?_ ys [] μ4 ⟨rfl, q2, 0, by rw [q1], m4.le (by omega)⟩) ?_
  · rintro d rest2 acc μ' ⟨rfl, hd2, u, hu, m⟩
    obtain ⟨ms, rfl, hr⟩ := hd2 d List.mem_cons_self
    have hu' : rest2.length + (u + 1) = 2 := by rw [List.length_cons] at hu; omega
    refine ⟨_, rfl, ?_⟩
    simp only [↓ev_out, ↓ev_sqM, ↓ev_foM, ↓ev_setM, ↓ev_asgM, ↓ev_putM, ↓ev_ifM, ↓ev_tvM, ↓ev_tnM, ↓ev_taM, ↓ev_toM, ↓ev_op2, ↓ev_gV, ↓ev_kM, ↓ev_rtM, ↓ev_exM, ↓ev_neM, ↓ev_notM, ↓ev_andM, ↓ev_orM, ↓ev_nxM, ↓ev_app, ↓ev_nil, ↓ev_cons, ↓ev_callF, ↓ev_callM, ↓ev_slM, ↓ev_ptM, ↓ev_asI, ↓ev_seM, ↓ev_itL, ↓ev_itT, ↓ev_mkT, ↓ev_mkL, ↓ev_lcM, ↓ev_dispM, ↓ev_lft, ↓thenK_nx, ↓thenK_rt, ↓thenK_bk, ↓thenK_ct, ↓tgK_s, ↓outK_rt, ↓outK_nx, ↓vK_s, ↓turnK_nx, ↓turnK_rt, ↓turnK_bk, ↓turnK_ct, ↓ev_asB, ↓ev_add, ↓ev_sub, ↓ev_mul, ↓ev_fdiv, ↓ev_mod, ↓ev_pow, ↓ev_neg, ↓ev_eqI, ↓ev_neI, ↓ev_lt, ↓ev_le, ↓ev_gt, ↓ev_ge, ↓ev_gcd, ↓ev_absI, ↓ev_maxI, ↓ev_minI, ↓ev_intI, ↓ev_intB, ↓ev_tupT, ↓ev_tupL, ↓ev_lstT, ↓ev_lstL, ↓ev_lenT, ↓ev_lenL, ↓ev_catL, ↓ev_catT, ↓ev_ixT, ↓ev_ixL, ↓ev_slT, ↓ev_slL, ↓ev_isN, ↓ev_isNotN, ↓ev_zipTT, ↓ev_enumT, ↓ev_enumL, ↓ev_eqS, startD, pick, setTg, setAll, wipeD, List.map_cons, List.map_nil, List.length_cons, List.length_nil, List.cons_append, List.nil_append, List.getElem?_cons_zero, List.getElem?_cons_succ, List.set_cons_zero, List.set_cons_succ, List.replicate_succ, List.replicate_zero, List.filterMap_cons, List.filterMap_nil, Nat.reduceAdd, Nat.reduceSub, Nat.reduceLeDiff, and_self, if_true, decide_eq_true_eq, true_and, and_true, List.set_nil, List.length_set]
    refine ev_imp (f29 (by omega) m hd hr (by omega)) ?_
    rintro _ μ5 ⟨rfl, _, m5⟩
    simp only [↓ev_out, ↓ev_sqM, ↓ev_foM, ↓ev_setM, ↓ev_asgM, ↓ev_putM, ↓ev_ifM, ↓ev_tvM, ↓ev_tnM, ↓ev_taM, ↓ev_toM, ↓ev_op2, ↓ev_gV, ↓ev_kM, ↓ev_rtM, ↓ev_exM, ↓ev_neM, ↓ev_notM, ↓ev_andM, ↓ev_orM, ↓ev_nxM, ↓ev_app, ↓ev_nil, ↓ev_cons, ↓ev_callF, ↓ev_callM, ↓ev_slM, ↓ev_ptM, ↓ev_asI, ↓ev_seM, ↓ev_itL, ↓ev_itT, ↓ev_mkT, ↓ev_mkL, ↓ev_lcM, ↓ev_dispM, ↓ev_lft, ↓thenK_nx, ↓thenK_rt, ↓thenK_bk, ↓thenK_ct, ↓tgK_s, ↓outK_rt, ↓outK_nx, ↓vK_s, ↓turnK_nx, ↓turnK_rt, ↓turnK_bk, ↓turnK_ct, ↓ev_asB, ↓ev_add, ↓ev_sub, ↓ev_mul, ↓ev_fdiv, ↓ev_mod, ↓ev_pow, ↓ev_neg, ↓ev_eqI, ↓ev_neI, ↓ev_lt, ↓ev_le, ↓ev_gt, ↓ev_ge, ↓ev_gcd, ↓ev_absI, ↓ev_maxI, ↓ev_minI, ↓ev_intI, ↓ev_intB, ↓ev_tupT, ↓ev_tupL, ↓ev_lstT, ↓ev_lstL, ↓ev_lenT, ↓ev_lenL, ↓ev_catL, ↓ev_catT, ↓ev_ixT, ↓ev_ixL, ↓ev_slT, ↓ev_slL, ↓ev_isN, ↓ev_isNotN, ↓ev_zipTT, ↓ev_enumT, ↓ev_enumL, ↓ev_eqS, startD, pick, setTg, setAll, wipeD, List.map_cons, List.map_nil, List.length_cons, List.length_nil, List.cons_append, List.nil_append, List.getElem?_cons_zero, List.getElem?_cons_succ, List.set_cons_zero, List.set_cons_succ, List.replicate_succ, List.replicate_zero, List.filterMap_cons, List.filterMap_nil, Nat.reduceAdd, Nat.reduceSub, Nat.reduceLeDiff, and_self, if_true, decide_eq_true_eq, true_and, and_true, List.set_nil, List.length_set, Bool.not_true, Bool.false_eq_true, if_false]
    refine ev_imp (f30 (by omega) m5 hd0 hd hr (by omega)) ?_
    rintro _ μ6 ⟨rfl, _, m6⟩
    simp only [↓ev_out, ↓ev_sqM, ↓ev_foM, ↓ev_setM, ↓ev_asgM, ↓ev_putM, ↓ev_ifM, ↓ev_tvM, ↓ev_tnM, ↓ev_taM, ↓ev_toM, ↓ev_op2, ↓ev_gV, ↓ev_kM, ↓ev_rtM, ↓ev_exM, ↓ev_neM, ↓ev_notM, ↓ev_andM, ↓ev_orM, ↓ev_nxM, ↓ev_app, ↓ev_nil, ↓ev_cons, ↓ev_callF, ↓ev_callM, ↓ev_slM, ↓ev_ptM, ↓ev_asI, ↓ev_seM, ↓ev_itL, ↓ev_itT, ↓ev_mkT, ↓ev_mkL, ↓ev_lcM, ↓ev_dispM, ↓ev_lft, ↓thenK_nx, ↓thenK_rt, ↓thenK_bk, ↓thenK_ct, ↓tgK_s, ↓outK_rt, ↓outK_nx, ↓vK_s, ↓turnK_nx, ↓turnK_rt, ↓turnK_bk, ↓turnK_ct, ↓ev_asB, ↓ev_add, ↓ev_sub, ↓ev_mul, ↓ev_fdiv, ↓ev_mod, ↓ev_pow, ↓ev_neg, ↓ev_eqI, ↓ev_neI, ↓ev_lt, ↓ev_le, ↓ev_gt, ↓ev_ge, ↓ev_gcd, ↓ev_absI, ↓ev_maxI, ↓ev_minI, ↓ev_intI, ↓ev_intB, ↓ev_tupT, ↓ev_tupL, ↓ev_lstT, ↓ev_lstL, ↓ev_lenT, ↓ev_lenL, ↓ev_catL, ↓ev_catT, ↓ev_ixT, ↓ev_ixL, ↓ev_slT, ↓ev_slL, ↓ev_isN, ↓ev_isNotN, ↓ev_zipTT, ↓ev_enumT, ↓ev_enumL, ↓ev_eqS, startD, pick, setTg, setAll, wipeD, List.map_cons, List.map_nil, List.length_cons, List.length_nil, List.cons_append, List.nil_append, List.getElem?_cons_zero, List.getElem?_cons_succ, List.set_cons_zero, List.set_cons_succ, List.replicate_succ, List.replicate_zero, List.filterMap_cons, List.filterMap_nil, Nat.reduceAdd, Nat.reduceSub, Nat.reduceLeDiff, and_self, if_true, decide_eq_true_eq, true_and, and_true, List.set_nil, List.length_set, Bool.not_true, Bool.false_eq_true, if_false]
    exact ⟨fun d hd => hd2 d (List.mem_cons_of_mem _ hd), u + 1, hu', m6.le (by omega)⟩
  · rintro acc μ' ⟨rfl, _, u, hu, m⟩
    exact ⟨rfl, m.le (by simp at hu; omega)⟩
  rintro zs μ5 ⟨hz, m5⟩
  have hz : zs = [] := by simpa using hz
  subst hz
  try simp only [↓ev_out, ↓ev_sqM, ↓ev_foM, ↓ev_setM, ↓ev_asgM, ↓ev_putM, ↓ev_ifM, ↓ev_tvM, ↓ev_tnM, ↓ev_taM, ↓ev_toM, ↓ev_op2, ↓ev_gV, ↓ev_kM, ↓ev_rtM, ↓ev_exM, ↓ev_neM, ↓ev_notM, ↓ev_andM, ↓ev_orM, ↓ev_nxM, ↓ev_app, ↓ev_nil, ↓ev_cons, ↓ev_callF, ↓ev_callM, ↓ev_slM, ↓ev_ptM, ↓ev_asI, ↓ev_seM, ↓ev_itL, ↓ev_itT, ↓ev_mkT, ↓ev_mkL, ↓ev_lcM, ↓ev_dispM, ↓ev_lft, ↓thenK_nx, ↓thenK_rt, ↓thenK_bk, ↓thenK_ct, ↓tgK_s, ↓outK_rt, ↓outK_nx, ↓vK_s, ↓turnK_nx, ↓turnK_rt, ↓turnK_bk, ↓turnK_ct, ↓ev_asB, ↓ev_add, ↓ev_sub, ↓ev_mul, ↓ev_fdiv, ↓ev_mod, ↓ev_pow, ↓ev_neg, ↓ev_eqI, ↓ev_neI, ↓ev_lt, ↓ev_le, ↓ev_gt, ↓ev_ge, ↓ev_gcd, ↓ev_absI, ↓ev_maxI, ↓ev_minI, ↓ev_intI, ↓ev_intB, ↓ev_tupT, ↓ev_tupL, ↓ev_lstT, ↓ev_lstL, ↓ev_lenT, ↓ev_lenL, ↓ev_catL, ↓ev_catT, ↓ev_ixT, ↓ev_ixL, ↓ev_slT, ↓ev_slL, ↓ev_isN, ↓ev_isNotN, ↓ev_zipTT, ↓ev_enumT, ↓ev_enumL, ↓ev_eqS, startD, pick, setTg, setAll, wipeD, List.map_cons, List.map_nil, List.length_cons, List.length_nil, List.cons_append, List.nil_append, List.getElem?_cons_zero, List.getElem?_cons_succ, List.set_cons_zero, List.set_cons_succ, List.replicate_succ, List.replicate_zero, List.filterMap_cons, List.filterMap_nil, Nat.reduceAdd, Nat.reduceSub, Nat.reduceLeDiff, and_self, if_true, decide_eq_true_eq, true_and, and_true, List.set_nil, List.length_set, if_pos (show 0 ≤ 1000000 by decide)]
  refine (ev_neE (xs := []) (fun x hx => (List.not_mem_nil hx).elim)).mpr ?_
  simp only [↓ev_out, ↓ev_sqM, ↓ev_foM, ↓ev_setM, ↓ev_asgM, ↓ev_putM, ↓ev_ifM, ↓ev_tvM, ↓ev_tnM, ↓ev_taM, ↓ev_toM, ↓ev_op2, ↓ev_gV, ↓ev_kM, ↓ev_rtM, ↓ev_exM, ↓ev_neM, ↓ev_notM, ↓ev_andM, ↓ev_orM, ↓ev_nxM, ↓ev_app, ↓ev_nil, ↓ev_cons, ↓ev_callF, ↓ev_callM, ↓ev_slM, ↓ev_ptM, ↓ev_asI, ↓ev_seM, ↓ev_itL, ↓ev_itT, ↓ev_mkT, ↓ev_mkL, ↓ev_lcM, ↓ev_dispM, ↓ev_lft, ↓thenK_nx, ↓thenK_rt, ↓thenK_bk, ↓thenK_ct, ↓tgK_s, ↓outK_rt, ↓outK_nx, ↓vK_s, ↓turnK_nx, ↓turnK_rt, ↓turnK_bk, ↓turnK_ct, ↓ev_asB, ↓ev_add, ↓ev_sub, ↓ev_mul, ↓ev_fdiv, ↓ev_mod, ↓ev_pow, ↓ev_neg, ↓ev_eqI, ↓ev_neI, ↓ev_lt, ↓ev_le, ↓ev_gt, ↓ev_ge, ↓ev_gcd, ↓ev_absI, ↓ev_maxI, ↓ev_minI, ↓ev_intI, ↓ev_intB, ↓ev_tupT, ↓ev_tupL, ↓ev_lstT, ↓ev_lstL, ↓ev_lenT, ↓ev_lenL, ↓ev_catL, ↓ev_catT, ↓ev_ixT, ↓ev_ixL, ↓ev_slT, ↓ev_slL, ↓ev_isN, ↓ev_isNotN, ↓ev_zipTT, ↓ev_enumT, ↓ev_enumL, ↓ev_eqS, startD, pick, setTg, setAll, wipeD, List.map_cons, List.map_nil, List.length_cons, List.length_nil, List.cons_append, List.nil_append, List.getElem?_cons_zero, List.getElem?_cons_succ, List.set_cons_zero, List.set_cons_succ, List.replicate_succ, List.replicate_zero, List.filterMap_cons, List.filterMap_nil, Nat.reduceAdd, Nat.reduceSub, Nat.reduceLeDiff, and_self, if_true, decide_eq_true_eq, true_and, and_true, List.set_nil, List.length_set, List.isEmpty_nil, Bool.not_true, Bool.false_eq_true, if_false]
  have lc : ∀ ρ : Rho, ρ = [some (.lst (ns.map .int)), some (.int i), some (.ref j), some x, some (.int (dm : Int)), some (.lst ys), o6, o7, o8, none] →
      lcD (.v 9) (tvM (op2 (callF (lev tab bis k 26) ⟨1, [], [0]⟩ 1 [gV 9] []) (kM .non) isNotD)) (callF (lev tab bis k 26) ⟨1, [], [0]⟩ 1 [gV 9] []) ys ρ μ5 = .ok ((ys.filter hasPl).map fun d => planeD (rowOf d)) μ5 := fun ρ e => by
    subst e
    refine lc_filter hasPl (fun d => planeD (rowOf d)) ys fun d hd' => ?_
    obtain ⟨ms, rfl, hr⟩ := q2 d hd'
    have hB : ∀ x ∈ ms, x.natAbs < BB := fun x hx => BB_of (hr.2 x hx) e27_BB
    have hlm : ms.length ≤ 1000 := by rw [hr.1]; omega
    refine ⟨_, rfl, ?_, fun _ => ?_⟩
    · simp only [↓ev_out, ↓ev_sqM, ↓ev_foM, ↓ev_setM, ↓ev_asgM, ↓ev_putM, ↓ev_ifM, ↓ev_tvM, ↓ev_tnM, ↓ev_taM, ↓ev_toM, ↓ev_op2, ↓ev_gV, ↓ev_kM, ↓ev_rtM, ↓ev_exM, ↓ev_neM, ↓ev_notM, ↓ev_andM, ↓ev_orM, ↓ev_nxM, ↓ev_app, ↓ev_nil, ↓ev_cons, ↓ev_callF, ↓ev_callM, ↓ev_slM, ↓ev_ptM, ↓ev_asI, ↓ev_seM, ↓ev_itL, ↓ev_itT, ↓ev_mkT, ↓ev_mkL, ↓ev_lcM, ↓ev_dispM, ↓ev_lft, ↓thenK_nx, ↓thenK_rt, ↓thenK_bk, ↓thenK_ct, ↓tgK_s, ↓outK_rt, ↓outK_nx, ↓vK_s, ↓turnK_nx, ↓turnK_rt, ↓turnK_bk, ↓turnK_ct, ↓ev_asB, ↓ev_add, ↓ev_sub, ↓ev_mul, ↓ev_fdiv, ↓ev_mod, ↓ev_pow, ↓ev_neg, ↓ev_eqI, ↓ev_neI, ↓ev_lt, ↓ev_le, ↓ev_gt, ↓ev_ge, ↓ev_gcd, ↓ev_absI, ↓ev_maxI, ↓ev_minI, ↓ev_intI, ↓ev_intB, ↓ev_tupT, ↓ev_tupL, ↓ev_lstT, ↓ev_lstL, ↓ev_lenT, ↓ev_lenL, ↓ev_catL, ↓ev_catT, ↓ev_ixT, ↓ev_ixL, ↓ev_slT, ↓ev_slL, ↓ev_isN, ↓ev_isNotN, ↓ev_zipTT, ↓ev_enumT, ↓ev_enumL, ↓ev_eqS, startD, pick, setTg, setAll, wipeD, List.map_cons, List.map_nil, List.length_cons, List.length_nil, List.cons_append, List.nil_append, List.getElem?_cons_zero, List.getElem?_cons_succ, List.set_cons_zero, List.set_cons_succ, List.replicate_succ, List.replicate_zero, List.filterMap_cons, List.filterMap_nil, Nat.reduceAdd, Nat.reduceSub, Nat.reduceLeDiff, and_self, if_true, decide_eq_true_eq, true_and, and_true, List.set_nil, List.length_set]
      refine (ev_of (f26 (by omega) ms μ5 hB hlm)).mpr ?_
      unfold hasPl
      rw [rowOf_tp]
      rcases planeD_cases ms with z | ⟨q, z⟩
      · rw [z]; exact ⟨rfl, rfl⟩
      · rw [z]; exact ⟨rfl, rfl⟩
    · simp only [↓ev_out, ↓ev_sqM, ↓ev_foM, ↓ev_setM, ↓ev_asgM, ↓ev_putM, ↓ev_ifM, ↓ev_tvM, ↓ev_tnM, ↓ev_taM, ↓ev_toM, ↓ev_op2, ↓ev_gV, ↓ev_kM, ↓ev_rtM, ↓ev_exM, ↓ev_neM, ↓ev_notM, ↓ev_andM, ↓ev_orM, ↓ev_nxM, ↓ev_app, ↓ev_nil, ↓ev_cons, ↓ev_callF, ↓ev_callM, ↓ev_slM, ↓ev_ptM, ↓ev_asI, ↓ev_seM, ↓ev_itL, ↓ev_itT, ↓ev_mkT, ↓ev_mkL, ↓ev_lcM, ↓ev_dispM, ↓ev_lft, ↓thenK_nx, ↓thenK_rt, ↓thenK_bk, ↓thenK_ct, ↓tgK_s, ↓outK_rt, ↓outK_nx, ↓vK_s, ↓turnK_nx, ↓turnK_rt, ↓turnK_bk, ↓turnK_ct, ↓ev_asB, ↓ev_add, ↓ev_sub, ↓ev_mul, ↓ev_fdiv, ↓ev_mod, ↓ev_pow, ↓ev_neg, ↓ev_eqI, ↓ev_neI, ↓ev_lt, ↓ev_le, ↓ev_gt, ↓ev_ge, ↓ev_gcd, ↓ev_absI, ↓ev_maxI, ↓ev_minI, ↓ev_intI, ↓ev_intB, ↓ev_tupT, ↓ev_tupL, ↓ev_lstT, ↓ev_lstL, ↓ev_lenT, ↓ev_lenL, ↓ev_catL, ↓ev_catT, ↓ev_ixT, ↓ev_ixL, ↓ev_slT, ↓ev_slL, ↓ev_isN, ↓ev_isNotN, ↓ev_zipTT, ↓ev_enumT, ↓ev_enumL, ↓ev_eqS, startD, pick, setTg, setAll, wipeD, List.map_cons, List.map_nil, List.length_cons, List.length_nil, List.cons_append, List.nil_append, List.getElem?_cons_zero, List.getElem?_cons_succ, List.set_cons_zero, List.set_cons_succ, List.replicate_succ, List.replicate_zero, List.filterMap_cons, List.filterMap_nil, Nat.reduceAdd, Nat.reduceSub, Nat.reduceLeDiff, and_self, if_true, decide_eq_true_eq, true_and, and_true, List.set_nil, List.length_set]
      refine (ev_of (f26 (by omega) ms μ5 hB hlm)).mpr ?_
      rw [rowOf_tp]
      exact ⟨rfl, rfl⟩
  refine (ev_of (lc _ rfl)).mpr ?_
  obtain ⟨ps, eps, lps⟩ := planes_tp ys
  rw [eps]
  simp only [↓ev_out, ↓ev_sqM, ↓ev_foM, ↓ev_setM, ↓ev_asgM, ↓ev_putM, ↓ev_ifM, ↓ev_tvM, ↓ev_tnM, ↓ev_taM, ↓ev_toM, ↓ev_op2, ↓ev_gV, ↓ev_kM, ↓ev_rtM, ↓ev_exM, ↓ev_neM, ↓ev_notM, ↓ev_andM, ↓ev_orM, ↓ev_nxM, ↓ev_app, ↓ev_nil, ↓ev_cons, ↓ev_callF, ↓ev_callM, ↓ev_slM, ↓ev_ptM, ↓ev_asI, ↓ev_seM, ↓ev_itL, ↓ev_itT, ↓ev_mkT, ↓ev_mkL, ↓ev_lcM, ↓ev_dispM, ↓ev_lft, ↓thenK_nx, ↓thenK_rt, ↓thenK_bk, ↓thenK_ct, ↓tgK_s, ↓outK_rt, ↓outK_nx, ↓vK_s, ↓turnK_nx, ↓turnK_rt, ↓turnK_bk, ↓turnK_ct, ↓ev_asB, ↓ev_add, ↓ev_sub, ↓ev_mul, ↓ev_fdiv, ↓ev_mod, ↓ev_pow, ↓ev_neg, ↓ev_eqI, ↓ev_neI, ↓ev_lt, ↓ev_le, ↓ev_gt, ↓ev_ge, ↓ev_gcd, ↓ev_absI, ↓ev_maxI, ↓ev_minI, ↓ev_intI, ↓ev_intB, ↓ev_tupT, ↓ev_tupL, ↓ev_lstT, ↓ev_lstL, ↓ev_lenT, ↓ev_lenL, ↓ev_catL, ↓ev_catT, ↓ev_ixT, ↓ev_ixL, ↓ev_slT, ↓ev_slL, ↓ev_isN, ↓ev_isNotN, ↓ev_zipTT, ↓ev_enumT, ↓ev_enumL, ↓ev_eqS, startD, pick, setTg, setAll, wipeD, List.map_cons, List.map_nil, List.length_cons, List.length_nil, List.cons_append, List.nil_append, List.getElem?_cons_zero, List.getElem?_cons_succ, List.set_cons_zero, List.set_cons_succ, List.replicate_succ, List.replicate_zero, List.filterMap_cons, List.filterMap_nil, Nat.reduceAdd, Nat.reduceSub, Nat.reduceLeDiff, and_self, if_true, decide_eq_true_eq, true_and, and_true, List.set_nil, List.length_set, List.length_map, if_pos (show ps.length ≤ 1000000 by omega)]
  refine ev_imp (f28 (by omega) m5 hd (by omega)) ?_
  rintro _ μ6 ⟨⟨xs, w, rfl, hx1, hx2, hx3⟩, _, m6⟩
  have hsm : Sm (xs ++ [w]) := fun y hy => Nat.lt_trans (hx3 y hy) (by decide)
  have hlen : (xs ++ [w]).length ≤ 1000 := by rw [List.length_append, hx1]; simp; omega
  try simp only [↓ev_out, ↓ev_sqM, ↓ev_foM, ↓ev_setM, ↓ev_asgM, ↓ev_putM, ↓ev_ifM, ↓ev_tvM, ↓ev_tnM, ↓ev_taM, ↓ev_toM, ↓ev_op2, ↓ev_gV, ↓ev_kM, ↓ev_rtM, ↓ev_exM, ↓ev_neM, ↓ev_notM, ↓ev_andM, ↓ev_orM, ↓ev_nxM, ↓ev_app, ↓ev_nil, ↓ev_cons, ↓ev_callF, ↓ev_callM, ↓ev_slM, ↓ev_ptM, ↓ev_asI, ↓ev_seM, ↓ev_itL, ↓ev_itT, ↓ev_mkT, ↓ev_mkL, ↓ev_lcM, ↓ev_dispM, ↓ev_lft, ↓thenK_nx, ↓thenK_rt, ↓thenK_bk, ↓thenK_ct, ↓tgK_s, ↓outK_rt, ↓outK_nx, ↓vK_s, ↓turnK_nx, ↓turnK_rt, ↓turnK_bk, ↓turnK_ct, ↓ev_asB, ↓ev_add, ↓ev_sub, ↓ev_mul, ↓ev_fdiv, ↓ev_mod, ↓ev_pow, ↓ev_neg, ↓ev_eqI, ↓ev_neI, ↓ev_lt, ↓ev_le, ↓ev_gt, ↓ev_ge, ↓ev_gcd, ↓ev_absI, ↓ev_maxI, ↓ev_minI, ↓ev_intI, ↓ev_intB, ↓ev_tupT, ↓ev_tupL, ↓ev_lstT, ↓ev_lstL, ↓ev_lenT, ↓ev_lenL, ↓ev_catL, ↓ev_catT, ↓ev_ixT, ↓ev_ixL, ↓ev_slT, ↓ev_slL, ↓ev_isN, ↓ev_isNotN, ↓ev_zipTT, ↓ev_enumT, ↓ev_enumL, ↓ev_eqS, startD, pick, setTg, setAll, wipeD, List.map_cons, List.map_nil, List.length_cons, List.length_nil, List.cons_append, List.nil_append, List.getElem?_cons_zero, List.getElem?_cons_succ, List.set_cons_zero, List.set_cons_succ, List.replicate_succ, List.replicate_zero, List.filterMap_cons, List.filterMap_nil, Nat.reduceAdd, Nat.reduceSub, Nat.reduceLeDiff, and_self, if_true, decide_eq_true_eq, true_and, and_true, List.set_nil, List.length_set, if_pos (show 2 ≤ 1000000 by decide)]
  refine (ev_of (f14 (by omega) ps (xs ++ [w]) μ6 hsm hlen (by omega))).mpr ?_
  refine (ev_of (f25 (by omega) ps (xs ++ [w]) μ6 hsm hlen (by omega))).mpr ?_
  refine (ev_of (f18 (by omega) μ6 (fit_tp (k := 2) (fun y hy => ?_) (by rw [List.length_map]; omega)))).mpr ?_
  · obtain ⟨p, hp, rfl⟩ := List.mem_map.mp hy
    refine Nat.lt_of_lt_of_le ?_ ten_BB
    unfold sgn
    split
    · decide
    · split <;> decide
  simp only [↓ev_out, ↓ev_sqM, ↓ev_foM, ↓ev_setM, ↓ev_asgM, ↓ev_putM, ↓ev_ifM, ↓ev_tvM, ↓ev_tnM, ↓ev_taM, ↓ev_toM, ↓ev_op2, ↓ev_gV, ↓ev_kM, ↓ev_rtM, ↓ev_exM, ↓ev_neM, ↓ev_notM, ↓ev_andM, ↓ev_orM, ↓ev_nxM, ↓ev_app, ↓ev_nil, ↓ev_cons, ↓ev_callF, ↓ev_callM, ↓ev_slM, ↓ev_ptM, ↓ev_asI, ↓ev_seM, ↓ev_itL, ↓ev_itT, ↓ev_mkT, ↓ev_mkL, ↓ev_lcM, ↓ev_dispM, ↓ev_lft, ↓thenK_nx, ↓thenK_rt, ↓thenK_bk, ↓thenK_ct, ↓tgK_s, ↓outK_rt, ↓outK_nx, ↓vK_s, ↓turnK_nx, ↓turnK_rt, ↓turnK_bk, ↓turnK_ct, ↓ev_asB, ↓ev_add, ↓ev_sub, ↓ev_mul, ↓ev_fdiv, ↓ev_mod, ↓ev_pow, ↓ev_neg, ↓ev_eqI, ↓ev_neI, ↓ev_lt, ↓ev_le, ↓ev_gt, ↓ev_ge, ↓ev_gcd, ↓ev_absI, ↓ev_maxI, ↓ev_minI, ↓ev_intI, ↓ev_intB, ↓ev_tupT, ↓ev_tupL, ↓ev_lstT, ↓ev_lstL, ↓ev_lenT, ↓ev_lenL, ↓ev_catL, ↓ev_catT, ↓ev_ixT, ↓ev_ixL, ↓ev_slT, ↓ev_slL, ↓ev_isN, ↓ev_isNotN, ↓ev_zipTT, ↓ev_enumT, ↓ev_enumL, ↓ev_eqS, startD, pick, setTg, setAll, wipeD, List.map_cons, List.map_nil, List.length_cons, List.length_nil, List.cons_append, List.nil_append, List.getElem?_cons_zero, List.getElem?_cons_succ, List.set_cons_zero, List.set_cons_succ, List.replicate_succ, List.replicate_zero, List.filterMap_cons, List.filterMap_nil, Nat.reduceAdd, Nat.reduceSub, Nat.reduceLeDiff, and_self, if_true, decide_eq_true_eq, true_and, and_true, List.set_nil, List.length_set, Bool.not_true, Bool.false_eq_true, if_false]
  exact ⟨⟨t + 1, ht', m6.le (by omega)⟩, _, _, _, _, _, _, _, rfl⟩
theorem law_true (ns : List Int) : ns.length ≤ 63 → (∀ z ∈ ns, Builtin.Int.intBits z ≤ 1048576) → ∃ μ, lev tab bis 12 32 [.lst (ns.map .int)] [] = .ok (.bl true) μ := fun hl _ => by
  have h := f32 (k := 11) (by decide) f31 ns [] hl
  cases e : F 12 32 [.lst (ns.map .int)] [] with
  | ok d μ =>
    rw [e] at h
    have h : d = .bl true := h
    rw [h] at e
    exact ⟨μ, e⟩
  | ex x μ => rw [e] at h; exact h.elim
  | no => rw [e] at h; exact h.elim
end K03
open PySem PySem.W PyProof.Rows
set_option maxRecDepth 100000 in
set_option maxHeartbeats 0 in
theorem PySem.Challenge.cw_onesolid_k03_rows_and_planes_holds : PySem.Challenge.rw_onesolid_k03_rows_and_planes.Holds := by
  w_on; o_law; k_head; (case hw => w_witness2)
  k_fill
  refine PX.walk_tab (l := PySem.Challenge.rw_onesolid_k03_rows_and_planes) (n := 63) (k := 12) (i := 32) (x := "_law_script") (tab := K03.tab) (bis := K03.bis) (r := K03.r32) rfl (by decide) rfl ⟨rfl, by decide, by decide⟩ (fun w h Y => kIn_of Y) K03.tab_ok rfl rfl rfl List.mem_cons_self ?F (fun _ _ _ _ _ _ _ _ _ => .of_eq rfl) K03.law_true
  case F =>
    intro w
    refine ⟨PX.all_cons ?_ (PX.all_cons ?_ (PX.all_cons ?_ (PX.all_cons ?_ (PX.all_cons ?_ (PX.all_cons ?_ (PX.all_cons ?_ (PX.all_cons ?_ (PX.all_cons ?_ (PX.all_cons ?_ (PX.all_cons ?_ (PX.all_cons ?_ (PX.all_cons ?_ (PX.all_cons ?_ (PX.all_cons ?_ (PX.all_cons ?_ (PX.all_cons ?_ (PX.all_cons ?_ (PX.all_cons ?_ (PX.all_cons ?_ (PX.all_cons ?_ (PX.all_cons ?_ (PX.all_cons ?_ (PX.all_cons ?_ (PX.all_cons ?_ (PX.all_cons ?_ (PX.all_cons ?_ (PX.all_cons ?_ (PX.all_cons ?_ (PX.all_cons ?_ (PX.all_cons ?_ (PX.all_cons ?_ (PX.all_cons ?_ (PX.all_nil))))))))))))))))))))))))))))))))), ?_, ?_⟩
    iterate 33 (refine' PX.rowAt_mk ?a ?l ?c ?k; (case a => k_is); (case l => k_is); (case c => k_is); (case k => k_is))
    · exact PX.all_cons (by k_is) (PX.all_nil)
    · exact PX.all_cons (by k_is) (PX.all_cons (by k_is) (PX.all_cons (by k_is) (PX.all_cons (by k_is) (PX.all_cons (by k_is) (PX.all_cons (by k_is) (PX.all_cons (by k_is) (PX.all_cons (by k_is) (PX.all_cons (by k_is) (PX.all_cons (by k_is) (PX.all_cons (by k_is) (PX.all_cons (by k_is) (PX.all_cons (by k_is) (PX.all_cons (by k_is) (PX.all_cons (by k_is) (PX.all_cons (by k_is) (PX.all_cons (by k_is) (PX.all_cons (by k_is) (PX.all_cons (by k_is) (PX.all_cons (by k_is) (PX.all_cons (by k_is) (PX.all_nil)))))))))))))))))))))
