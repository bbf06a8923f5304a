import PyProof.Rows.All
import HandS.ForMost
import HandS.ForExc
import HandS.Style
import HandS.Conv
import HandS.Deep
import HandS.More
import HandS.SortInts
import HandS.IsInst
import HandS.SortRule
import HandS.TupSets
import HandS.TupLe
import HandS.Small
import HandS.NoneIn
import KE.DataMinMax
import KE.SortData
import HandS.SetFor
import HandS.ExcOwn
import HandS.Wide
import PyProof.Rows.TupDisplay
import HandS.DictTup
import KE.KEqDict
import HandS.DictEq
import HandS.TupLen
import KE.KDictCopyH
import HandS.ExcIs
import HandS.ExcValue
import PySem.Challenge.RW_swapweb_k25_no_row_of_small_webs
set_option Elab.async false
set_option linter.all false
set_option maxRecDepth 100000
set_option maxHeartbeats 4000000
/-! Dl: a layer of plain data over the hand layer. What a slot holds is data (T); which objects bear it is kept out of sight (SI). -/
namespace Dl
open PySem L2
/-! ### data that objects bear -/
def kd : Key → PyData
  | .inl i => .int i
  | .inr x => .str x
/-- a tuple, tracked -/
def SqX (G : Hp) (a : Addr) (xs : List V) : Prop := G a = some (.tup xs)
theorem SqX.t {K : PySem.W.Frag} {G : Hp} {a : Addr} {xs : List V} (h : SqX G a xs) : SqT K G a xs := .inl (.inl h)
/-- a list, tracked, frozen, or of the module -/
def SqY (K : PySem.W.Frag) (G : Hp) (a : Addr) (xs : List V) : Prop := Rd G a (.lst xs) ∨ ∃ (its : Array Value) (n : Nat), K.lookup a = some ⟨.type "list", none, .seq its n, #[]⟩ ∧ its.size ≤ sizeLine ∧ Vals xs its.toList
theorem SqY.sq {K : PySem.W.Frag} {G : Hp} {a : Addr} {xs : List V} (h : SqY K G a xs) : SqL K G a xs := by
  rcases h with h | ⟨its, n, h1, h2, h3⟩
  · exact .inl h
  · exact .inr ⟨_, its, n, h1, rfl, rfl, rfl, h2, h3⟩
/-- an exception at a, of the class k -/
abbrev ExK (k : Value) (d : Option Addr) (a : Addr) : HO := .ext fun h => ∃ (o : Obj) (fs : Array Value), h.get? a = some o ∧ Zc k d o ∧ o.data = .fields fs
theorem exK_ne {k : Value} {d : Option Addr} {a : Addr} (o : Obj) (v : HO) : ExK k d a ≠ .frz o v := fun z => by cases z
/-- how an exception of the class that the top calls x is told -/
abbrev excD (x : Str) : PyData := .dict [(.list [], .str x)]
/-- no exception -/
def noX : PyData → Bool
  | .dict ((.list _, _) :: _) => false
  | _ => true
mutual
inductive Rp (K : PySem.W.Frag) (G : Hp) : V → PyData → Prop
  | non : Rp K G .non .none
  | bl (b : Bool) : Rp K G (.bl b) (.bool b)
  | int (i : Int) : Rp K G (.int i) (.int i)
  | str (x : Str) : Rp K G (.str x) (.str x)
  | lst {a : Addr} {xs : List V} {ds : List PyData} : SqY K G a xs → RpL K G xs ds → Rp K G (.ref a) (.list ds)
  | tup {a : Addr} {xs : List V} {ds : List PyData} : SqX G a xs → RpL K G xs ds → Rp K G (.ref a) (.tuple ds)
  | dk {a : Addr} {kvs : List (Key × V)} {ds : List PyData} : Rd G a (.dK kvs) → RpL K G (kvs.map (·.2)) ds → Rp K G (.ref a) (.dict ((kvs.map fun p => kd p.1).zip ds))
  | dt {a : Addr} {kvs : List (List Key × V)} {ds : List PyData} : Rd G a (.dT kvs) → RpL K G (kvs.map (·.2)) ds → Rp K G (.ref a) (.dict ((kvs.map fun p => PyData.tuple (p.1.map kd)).zip ds))
  | exc {a D : Addr} {x : Str} : Rd G a (ExK (.ref D) none a) → PySem.W.nsIn K mainGlobals x = some (some (.ref D)) → Rp K G (.ref a) (excD x)
inductive RpL (K : PySem.W.Frag) (G : Hp) : List V → List PyData → Prop
  | nil : RpL K G [] []
  | cons {v : V} {vs : List V} {d : PyData} {ds : List PyData} : Rp K G v d → RpL K G vs ds → RpL K G (v :: vs) (d :: ds)
end
/-- what is read stays to be read -/
def Er (G G' : Hp) : Prop := (∀ a u, (∀ o v, u ≠ HO.frz o v) → Rd G a u → Rd G' a u) ∧ ∀ a xs, SqX G a xs → SqX G' a xs
def Ex (G G' : Hp) : Prop := ∀ a o, G a = some o → G' a = some o
theorem Ex.refl (G : Hp) : Ex G G := fun _ _ h => h
theorem Ex.trans {A B C : Hp} (h : Ex A B) (k : Ex B C) : Ex A C := fun a o e => k a o (h a o e)
theorem Ex.er {G G' : Hp} (h : Ex G G') : Er G G' := ⟨fun a u _ r => by
  rcases r with r | ⟨o, r⟩
  · exact .inl (h _ _ r)
  · exact .inr ⟨o, h _ _ r⟩, fun a xs e => h _ _ e⟩
theorem Er.refl (G : Hp) : Er G G := ⟨fun _ _ _ h => h, fun _ _ h => h⟩
theorem Er.l {K : PySem.W.Frag} {G G' : Hp} {a : Addr} {xs : List V} (h : Er G G') (s : SqL K G a xs) : SqL K G' a xs := by
  rcases s with s | s
  · exact .inl (h.1 _ _ (fun _ _ z => nomatch z) s)
  · exact .inr s
theorem Er.t {K : PySem.W.Frag} {G G' : Hp} {a : Addr} {xs : List V} (h : Er G G') (s : SqT K G a xs) : SqT K G' a xs := by
  rcases s with s | s
  · exact .inl (h.1 _ _ (fun _ _ z => nomatch z) s)
  · exact .inr s
theorem Er.y {K : PySem.W.Frag} {G G' : Hp} {a : Addr} {xs : List V} (h : Er G G') (s : SqY K G a xs) : SqY K G' a xs := by
  rcases s with s | s
  · exact .inl (h.1 _ _ (fun _ _ z => nomatch z) s)
  · exact .inr s
theorem RpL.len {K : PySem.W.Frag} {G : Hp} : ∀ {vs : List V} {ds : List PyData}, RpL K G vs ds → vs.length = ds.length
  | _, _, .nil => rfl
  | _, _, .cons _ t => congrArg Nat.succ t.len
mutual
theorem Rp.mono {K : PySem.W.Frag} {G G' : Hp} (g : Er G G') : ∀ {v : V} {d : PyData}, Rp K G v d → Rp K G' v d
  | _, _, .non => .non
  | _, _, .bl b => .bl b
  | _, _, .int i => .int i
  | _, _, .str x => .str x
  | _, _, .lst s r => .lst (g.y s) (RpL.mono g r)
  | _, _, .tup s r => .tup (g.2 _ _ s) (RpL.mono g r)
  | _, _, .dk s r => .dk (g.1 _ _ (fun _ _ z => nomatch z) s) (RpL.mono g r)
  | _, _, .dt s r => .dt (g.1 _ _ (fun _ _ z => nomatch z) s) (RpL.mono g r)
  | _, _, .exc s r => .exc (g.1 _ _ exK_ne s) r
theorem RpL.mono {K : PySem.W.Frag} {G G' : Hp} (g : Er G G') : ∀ {vs : List V} {ds : List PyData}, RpL K G vs ds → RpL K G' vs ds
  | _, _, .nil => .nil
  | _, _, .cons h t => .cons (Rp.mono g h) (RpL.mono g t)
end
theorem RpL.get {K : PySem.W.Frag} {G : Hp} : ∀ {vs : List V} {ds : List PyData} {i : Nat} {d : PyData}, RpL K G vs ds → ds[i]? = some d → ∃ v, vs[i]? = some v ∧ Rp K G v d
  | _, _, _, _, .nil, e => by simp at e
  | _, _, 0, _, .cons r _, e => by
    simp at e
    subst e
    exact ⟨_, rfl, r⟩
  | _, _, i + 1, d, .cons _ t, e => by
    obtain ⟨v, h1, h2⟩ := RpL.get (i := i) (d := d) t (by simpa using e)
    exact ⟨v, by simpa using h1, h2⟩
theorem RpL.getV {K : PySem.W.Frag} {G : Hp} : ∀ {vs : List V} {ds : List PyData} {i : Nat} {v : V}, RpL K G vs ds → vs[i]? = some v → ∃ d, ds[i]? = some d ∧ Rp K G v d
  | _, _, _, _, .nil, e => by simp at e
  | _, _, 0, _, .cons r _, e => by
    simp at e
    subst e
    exact ⟨_, rfl, r⟩
  | _, _, i + 1, d, .cons _ t, e => by
    obtain ⟨v, h1, h2⟩ := RpL.getV (i := i) (v := d) t (by simpa using e)
    exact ⟨v, by simpa using h1, h2⟩
theorem RpL.append {K : PySem.W.Frag} {G : Hp} : ∀ {vs ws : List V} {ds es : List PyData}, RpL K G vs ds → RpL K G ws es → RpL K G (vs ++ ws) (ds ++ es)
  | _, _, _, _, .nil, s => s
  | _, _, _, _, .cons r t, s => .cons r (RpL.append t s)
theorem RpL.take {K : PySem.W.Frag} {G : Hp} : ∀ {vs : List V} {ds : List PyData} (n : Nat), RpL K G vs ds → RpL K G (vs.take n) (ds.take n)
  | _, _, 0, _ => .nil
  | _, _, _ + 1, .nil => .nil
  | _, _, n + 1, .cons r t => .cons r (RpL.take n t)
theorem RpL.drop {K : PySem.W.Frag} {G : Hp} : ∀ {vs : List V} {ds : List PyData} (n : Nat), RpL K G vs ds → RpL K G (vs.drop n) (ds.drop n)
  | _, _, 0, r => r
  | _, _, _ + 1, .nil => .nil
  | _, _, n + 1, .cons _ t => RpL.drop n t
theorem RpL.set {K : PySem.W.Frag} {G : Hp} {x : V} {d : PyData} (q : Rp K G x d) : ∀ {vs : List V} {ds : List PyData} (n : Nat), RpL K G vs ds → RpL K G (vs.set n x) (ds.set n d)
  | _, _, _, .nil => .nil
  | _, _, 0, .cons _ t => .cons q t
  | _, _, n + 1, .cons r t => .cons r (RpL.set q n t)
theorem RpL.rev {K : PySem.W.Frag} {G : Hp} : ∀ {vs : List V} {ds : List PyData}, RpL K G vs ds → RpL K G vs.reverse ds.reverse
  | _, _, .nil => .nil
  | _, _, .cons r t => by
    rw [List.reverse_cons, List.reverse_cons]
    exact (RpL.rev t).append (.cons r .nil)
/-! ### what a slot holds: known data, or an object of one's own -/
inductive T where
  | d (x : PyData)
  | ls (xs : List T)
  | tu (xs : List T)
  | dk (kvs : List (Key × PyData))
  | dt (kvs : List (List Key × PyData))
mutual
def T.data : T → PyData
  | .d x => x
  | .ls xs => .list (T.dataL xs)
  | .tu xs => .tuple (T.dataL xs)
  | .dk kvs => .dict (kvs.map fun p => (kd p.1, p.2))
  | .dt kvs => .dict (kvs.map fun p => (PyData.tuple (p.1.map kd), p.2))
def T.dataL : List T → List PyData
  | [] => []
  | t :: ts => t.data :: T.dataL ts
end
theorem dataL_map : ∀ ts : List T, T.dataL ts = ts.map T.data
  | [] => by simp [T.dataL]
  | t :: ts => by simp [T.dataL, dataL_map ts]
@[simp] theorem data_d (x : PyData) : (T.d x).data = x := by simp [T.data]
@[simp] theorem data_ls (ts : List T) : (T.ls ts).data = .list (ts.map T.data) := by simp [T.data, dataL_map]
@[simp] theorem data_tu (ts : List T) : (T.tu ts).data = .tuple (ts.map T.data) := by simp [T.data, dataL_map]
@[simp] theorem data_dk (kvs : List (Key × PyData)) : (T.dk kvs).data = .dict (kvs.map fun p => (kd p.1, p.2)) := by simp [T.data]
@[simp] theorem data_dt (kvs : List (List Key × PyData)) : (T.dt kvs).data = .dict (kvs.map fun p => (PyData.tuple (p.1.map kd), p.2)) := by simp [T.data]
mutual
inductive Own (K : PySem.W.Frag) (G H : Hp) : V → T → List Addr → Prop
  | d {v : V} {x : PyData} : Rp K G v x → Own K G H v (.d x) []
  | ls {p : Addr} {vs : List V} {ts : List T} {fp : List Addr} : H p = some (.lst vs) → OwnL K G H vs ts fp → Own K G H (.ref p) (.ls ts) (p :: fp)
  | tu {p : Addr} {vs : List V} {ts : List T} {fp : List Addr} : SqX G p vs → OwnL K G H vs ts fp → Own K G H (.ref p) (.tu ts) fp
  | dk {p : Addr} {kvs : List (Key × V)} {xs : List (Key × PyData)} : H p = some (.dK kvs) → kvs.map (·.1) = xs.map (·.1) → RpL K G (kvs.map (·.2)) (xs.map (·.2)) → Own K G H (.ref p) (.dk xs) [p]
  | dt {p : Addr} {kvs : List (List Key × V)} {xs : List (List Key × PyData)} : H p = some (.dT kvs) → kvs.map (·.1) = xs.map (·.1) → RpL K G (kvs.map (·.2)) (xs.map (·.2)) → Own K G H (.ref p) (.dt xs) [p]
inductive OwnL (K : PySem.W.Frag) (G H : Hp) : List V → List T → List Addr → Prop
  | nil : OwnL K G H [] [] []
  | cons {v : V} {vs : List V} {t : T} {ts : List T} {fp fq : List Addr} : Own K G H v t fp → OwnL K G H vs ts fq → OwnL K G H (v :: vs) (t :: ts) (fp ++ fq)
end
section
variable {K : PySem.W.Frag} {G G' H H' : Hp}
mutual
theorem Own.mono (g : Er G G') : ∀ {v : V} {t : T} {fp : List Addr}, Own K G H v t fp → (∀ a ∈ fp, H' a = H a) → Own K G' H' v t fp
  | _, _, _, .d r, _ => .d (r.mono g)
  | _, _, _, .ls e o, k => .ls ((k _ List.mem_cons_self).trans e) (OwnL.mono g o fun a h => k a (List.mem_cons_of_mem _ h))
  | _, _, _, .tu e o, k => .tu (g.2 _ _ e) (OwnL.mono g o k)
  | _, _, _, .dk e q o, k => .dk ((k _ List.mem_cons_self).trans e) q (o.mono g)
  | _, _, _, .dt e q o, k => .dt ((k _ List.mem_cons_self).trans e) q (o.mono g)
theorem OwnL.mono (g : Er G G') : ∀ {vs : List V} {ts : List T} {fp : List Addr}, OwnL K G H vs ts fp → (∀ a ∈ fp, H' a = H a) → OwnL K G' H' vs ts fp
  | _, _, _, .nil, _ => .nil
  | _, _, _, .cons o r, k => .cons (Own.mono g o fun a h => k a (List.mem_append_left _ h)) (OwnL.mono g r fun a h => k a (List.mem_append_right _ h))
end
/-- a tuple, however it is held -/
def tl : HO → Bool
  | .tup _ => true
  | .frz _ (.tup _) => true
  | _ => false
mutual
theorem Own.there : ∀ {v : V} {t : T} {fp : List Addr}, Own K G H v t fp → ∀ a ∈ fp, ∃ o, H a = some o ∧ tl o = false
  | _, _, _, .d _, a, h => by cases h
  | _, _, _, .ls e o, a, h => by
    rcases List.mem_cons.mp h with rfl | h
    · exact ⟨_, e, rfl⟩
    · exact OwnL.there o a h
  | _, _, _, .tu e o, a, h => OwnL.there o a h
  | _, _, _, .dk e _ _, a, h => by
    rcases List.mem_singleton.mp h with rfl
    exact ⟨_, e, rfl⟩
  | _, _, _, .dt e _ _, a, h => by
    rcases List.mem_singleton.mp h with rfl
    exact ⟨_, e, rfl⟩
theorem OwnL.there : ∀ {vs : List V} {ts : List T} {fp : List Addr}, OwnL K G H vs ts fp → ∀ a ∈ fp, ∃ o, H a = some o ∧ tl o = false
  | _, _, _, .nil, a, h => by cases h
  | _, _, _, .cons o r, a, h => by
    rcases List.mem_append.mp h with h | h
    · exact Own.there o a h
    · exact OwnL.there r a h
end
theorem zip_keys {κ : Type} (f : κ → PyData) : ∀ {kvs : List (κ × V)} {xs : List (κ × PyData)}, kvs.map (·.1) = xs.map (·.1) → (kvs.map fun p => f p.1).zip (xs.map (·.2)) = xs.map fun p => (f p.1, p.2)
  | [], [], _ => rfl
  | [], _ :: _, h => by simp at h
  | _ :: _, [], h => by simp at h
  | p :: ps, q :: qs, h => by
    simp only [List.map_cons, List.cons.injEq] at h
    simp only [List.map_cons, List.zip_cons_cons, h.1, zip_keys f h.2]
mutual
theorem Own.rp (g : Er G G') : ∀ {v : V} {t : T} {fp : List Addr}, Own K G H v t fp → (∀ a ∈ fp, G' a = H a) → Rp K G' v t.data
  | _, _, _, .d r, _ => by
    rw [data_d]
    exact r.mono g
  | _, _, _, .ls e o, k => by
    rw [T.data]
    exact .lst (.inl (.inl ((k _ List.mem_cons_self).trans e))) (OwnL.rp g o fun a h => k a (List.mem_cons_of_mem _ h))
  | _, _, _, .tu e o, k => by
    rw [T.data]
    exact .tup (g.2 _ _ e) (OwnL.rp g o k)
  | _, _, _, .dk e q o, k => by
    rw [data_dk, ← zip_keys kd q]
    exact .dk (.inl ((k _ List.mem_cons_self).trans e)) (o.mono g)
  | _, _, _, .dt e q o, k => by
    rw [data_dt, ← zip_keys (fun k => PyData.tuple (k.map kd)) q]
    exact .dt (.inl ((k _ List.mem_cons_self).trans e)) (o.mono g)
theorem OwnL.rp (g : Er G G') : ∀ {vs : List V} {ts : List T} {fp : List Addr}, OwnL K G H vs ts fp → (∀ a ∈ fp, G' a = H a) → RpL K G' vs (T.dataL ts)
  | _, _, _, .nil, _ => by
    rw [T.dataL]
    exact .nil
  | _, _, _, .cons o r, k => by
    rw [T.dataL]
    exact .cons (Own.rp g o fun a h => k a (List.mem_append_left _ h)) (OwnL.rp g r fun a h => k a (List.mem_append_right _ h))
end
theorem OwnL.len : ∀ {vs : List V} {ts : List T} {fp : List Addr}, OwnL K G H vs ts fp → vs.length = ts.length
  | _, _, _, .nil => rfl
  | _, _, _, .cons _ t => congrArg Nat.succ t.len
end
end Dl
set_option Elab.async false
set_option linter.all false
set_option maxRecDepth 100000
set_option maxHeartbeats 4000000
/-! Dl, second part: the state (SI) and what may be done with it. -/
namespace Dl
open PySem L2
abbrev Rho := List (Option T)
/-- what an expression has handed: data of its own, or what a slot holds -/
inductive C where
  | t (x : T)
  | al (j : Nat)
/-- what is fixed through a def's body: G0 what its arguments lean on, H0 all that is to stay, the slots that stay -/
structure Base where
  G0 : Hp
  H0 : Hp
  pin : List (Nat × V)
inductive OwnS (K : PySem.W.Frag) (G H : Hp) : L2.St → Rho → List Addr → Prop
  | nil : OwnS K G H [] [] []
  | non {o : Option V} {σ : L2.St} {ρ : Rho} {fp : List Addr} : OwnS K G H σ ρ fp → OwnS K G H (o :: σ) (none :: ρ) fp
  | som {v : V} {t : T} {σ : L2.St} {ρ : Rho} {fp fq : List Addr} : Own K G H v t fp → OwnS K G H σ ρ fq → OwnS K G H (some v :: σ) (some t :: ρ) (fp ++ fq)
inductive OwnC (K : PySem.W.Frag) (G H : Hp) (σ : L2.St) : List (V × C) → List Addr → Prop
  | nil : OwnC K G H σ [] []
  | t {v : V} {x : T} {τs : List (V × C)} {fp fq : List Addr} : Own K G H v x fp → OwnC K G H σ τs fq → OwnC K G H σ ((v, .t x) :: τs) (fp ++ fq)
  | al {v : V} {j : Nat} {τs : List (V × C)} {fq : List Addr} : σ[j]? = some (some v) → OwnC K G H σ τs fq → OwnC K G H σ ((v, .al j) :: τs) fq
structure Core (K : PySem.W.Frag) (B : Base) (G : Hp) (ρ : Rho) (σ : L2.St) (τs : List (V × C)) (H : Hp) (fs ft : List Addr) : Prop where
  g0 : Ex B.G0 G
  gh : Ex G H
  h0 : Ex B.H0 H
  tup : ∀ a o, tl o = true → H a = some o → G a = some o
  new : ∀ a, B.G0 a = none → B.H0 a ≠ none → G a = none
  slots : OwnS K G H σ ρ fs
  temps : OwnC K G H σ τs ft
  nd : (fs ++ ft).Nodup
  own : ∀ a ∈ fs ++ ft, G a = none ∧ B.H0 a = none
  pin : ∀ p ∈ B.pin, σ[p.1]? = some (some p.2)
def SI (K : PySem.W.Frag) (B : Base) (ρ : Rho) (σ : L2.St) (τs : List (V × C)) (H : Hp) : Prop := ∃ G fs ft, Core K B G ρ σ τs H fs ft
section
variable {K : PySem.W.Frag} {B : Base} {G G' H H' : Hp} {ρ : Rho} {σ : L2.St} {τs : List (V × C)} {fs ft : List Addr}
theorem OwnS.mono (g : Er G G') : ∀ {σ : L2.St} {ρ : Rho} {fp : List Addr}, OwnS K G H σ ρ fp → (∀ a ∈ fp, H' a = H a) → OwnS K G' H' σ ρ fp
  | _, _, _, .nil, _ => .nil
  | _, _, _, .non r, k => .non (OwnS.mono g r k)
  | _, _, _, .som o r, k => .som (o.mono g fun a h => k a (List.mem_append_left _ h)) (OwnS.mono g r fun a h => k a (List.mem_append_right _ h))
theorem OwnC.mono (g : Er G G') : ∀ {τs : List (V × C)} {fp : List Addr}, OwnC K G H σ τs fp → (∀ a ∈ fp, H' a = H a) → OwnC K G' H' σ τs fp
  | _, _, .nil, _ => .nil
  | _, _, .t o r, k => .t (o.mono g fun a h => k a (List.mem_append_left _ h)) (OwnC.mono g r fun a h => k a (List.mem_append_right _ h))
  | _, _, .al e r, k => .al e (OwnC.mono g r k)
theorem OwnS.there : ∀ {σ : L2.St} {ρ : Rho} {fp : List Addr}, OwnS K G H σ ρ fp → ∀ a ∈ fp, ∃ o, H a = some o ∧ tl o = false
  | _, _, _, .nil, a, h => by cases h
  | _, _, _, .non r, a, h => OwnS.there r a h
  | _, _, _, .som o r, a, h => by
    rcases List.mem_append.mp h with h | h
    · exact o.there a h
    · exact OwnS.there r a h
theorem OwnC.there : ∀ {τs : List (V × C)} {fp : List Addr}, OwnC K G H σ τs fp → ∀ a ∈ fp, ∃ o, H a = some o ∧ tl o = false
  | _, _, .nil, a, h => by cases h
  | _, _, .t o r, a, h => by
    rcases List.mem_append.mp h with h | h
    · exact o.there a h
    · exact OwnC.there r a h
  | _, _, .al e r, a, h => OwnC.there r a h
theorem OwnS.len : ∀ {σ : L2.St} {ρ : Rho} {fp : List Addr}, OwnS K G H σ ρ fp → σ.length = ρ.length
  | _, _, _, .nil => rfl
  | _, _, _, .non r => congrArg Nat.succ r.len
  | _, _, _, .som _ r => congrArg Nat.succ r.len
theorem Core.there (c : Core K B G ρ σ τs H fs ft) : ∀ a ∈ fs ++ ft, ∃ o, H a = some o ∧ tl o = false := fun a h => by
  rcases List.mem_append.mp h with h | h
  · exact c.slots.there a h
  · exact c.temps.there a h
/-- slot j's object apart: what it owns, and the rest -/
theorem OwnS.at_ : ∀ {σ : L2.St} {ρ : Rho} {fp : List Addr} {j : Nat} {t : T}, OwnS K G H σ ρ fp → ρ[j]? = some (some t) →
    ∃ v f fr, σ[j]? = some (some v) ∧ Own K G H v t f ∧ fp.Perm (f ++ fr) ∧
      (∀ {G' H' : Hp} {v' : V} {t' : T} {f' : List Addr}, Er G G' → (∀ a ∈ fr, H' a = H a) → Own K G' H' v' t' f' → ∃ fp', OwnS K G' H' (σ.set j (some v')) (ρ.set j (some t')) fp' ∧ fp'.Perm (f' ++ fr)) ∧
      (∀ {G' H' : Hp} (o : Option V), Er G G' → (∀ a ∈ fr, H' a = H a) → OwnS K G' H' (σ.set j o) (ρ.set j none) fr)
  | _, _, _, j, _, .nil, e => by simp at e
  | _, _, _, 0, t, .non r, e => by simp at e
  | _, _, _, 0, t, .som (fp := f) (fq := fr) o r, e => by
    simp at e
    subst e
    refine ⟨_, f, fr, rfl, o, .refl _, fun g k o' => ⟨_, .som o' (r.mono g k), .refl _⟩, fun o' g k => ?_⟩
    exact .non (r.mono g k)
  | _, _, _, j + 1, t, .non r, e => by
    obtain ⟨v, f, fr, h1, h2, h3, h4, h5⟩ := OwnS.at_ (j := j) r (by simpa using e)
    refine ⟨v, f, fr, by simpa using h1, h2, h3, fun g k o' => ?_, fun o' g k => ?_⟩
    · obtain ⟨fp', q1, q2⟩ := h4 g k o'
      exact ⟨fp', .non q1, q2⟩
    · exact .non (h5 o' g k)
  | _, _, _, j + 1, t, .som (fp := f0) (fq := fq) o r, e => by
    obtain ⟨v, f, fr, h1, h2, h3, h4, h5⟩ := OwnS.at_ (j := j) r (by simpa using e)
    refine ⟨v, f, f0 ++ fr, by simpa using h1, h2, ?_, fun g k o' => ?_, fun o' g k => ?_⟩
    · refine (List.Perm.append_left f0 h3).trans ?_
      rw [← List.append_assoc, ← List.append_assoc]
      exact List.Perm.append_right fr List.perm_append_comm
    · obtain ⟨fp', q1, q2⟩ := h4 g (fun a h => k a (List.mem_append_right _ h)) o'
      refine ⟨f0 ++ fp', .som (o.mono g fun a h => k a (List.mem_append_left _ h)) q1, ?_⟩
      refine (List.Perm.append_left f0 q2).trans ?_
      rw [← List.append_assoc, ← List.append_assoc]
      exact List.Perm.append_right fr List.perm_append_comm
    · exact .som (o.mono g fun a h => k a (List.mem_append_left _ h)) (h5 o' g fun a h => k a (List.mem_append_right _ h))
/-- a slot that is let go -/
theorem OwnS.drop : ∀ {σ : L2.St} {ρ : Rho} {fp : List Addr} (j : Nat) (o : Option V), OwnS K G H σ ρ fp → ∃ fp', OwnS K G H (σ.set j o) (ρ.set j none) fp' ∧ List.Sublist fp' fp
  | _, _, _, j, _, .nil => ⟨[], .nil, List.Sublist.refl _⟩
  | _, _, _, 0, _, .non r => ⟨_, .non r, List.Sublist.refl _⟩
  | _, _, _, 0, _, .som o r => ⟨_, .non r, List.sublist_append_right _ _⟩
  | _, _, _, j + 1, o', .non r => by
    obtain ⟨fp', q1, q2⟩ := OwnS.drop j o' r
    exact ⟨fp', .non q1, q2⟩
  | _, _, _, j + 1, o', .som (fp := f0) o r => by
    obtain ⟨fp', q1, q2⟩ := OwnS.drop j o' r
    exact ⟨f0 ++ fp', .som o q1, List.Sublist.append_left q2 f0⟩
/-- a slot that was empty is filled -/
theorem OwnS.fill {v : V} {t : T} {f : List Addr} (o : Own K G H v t f) : ∀ {σ : L2.St} {ρ : Rho} {fp : List Addr} (j : Nat), OwnS K G H σ ρ fp → j < ρ.length → ρ[j]? = some none →
    ∃ fp', OwnS K G H (σ.set j (some v)) (ρ.set j (some t)) fp' ∧ fp'.Perm (f ++ fp)
  | _, _, _, j, .nil, h, _ => by simp at h
  | _, _, _, 0, .non r, _, _ => ⟨_, .som o r, .refl _⟩
  | _, _, _, 0, .som _ r, _, e => by simp at e
  | _, _, _, j + 1, .non r, h, e => by
    obtain ⟨fp', q1, q2⟩ := OwnS.fill o j r (by simpa using h) (by simpa using e)
    exact ⟨fp', .non q1, q2⟩
  | _, _, _, j + 1, .som (fp := f0) (fq := fq) o' r, h, e => by
    obtain ⟨fp', q1, q2⟩ := OwnS.fill o j r (by simpa using h) (by simpa using e)
    refine ⟨f0 ++ fp', .som o' q1, ?_⟩
    refine (List.Perm.append_left f0 q2).trans ?_
    rw [← List.append_assoc, ← List.append_assoc]
    exact List.Perm.append_right fq List.perm_append_comm
/-- the temporaries in another order -/
theorem OwnC.perm {τs τs' : List (V × C)} (p : τs.Perm τs') : ∀ {ft : List Addr}, OwnC K G H σ τs ft → ∃ ft', OwnC K G H σ τs' ft' ∧ ft'.Perm ft := by
  induction p with
  | nil => exact fun h => ⟨_, h, .refl _⟩
  | cons x p ih =>
    intro ft h
    cases h with
    | t o r =>
      obtain ⟨f, q1, q2⟩ := ih r
      exact ⟨_, .t o q1, List.Perm.append_left _ q2⟩
    | al e r =>
      obtain ⟨f, q1, q2⟩ := ih r
      exact ⟨_, .al e q1, q2⟩
  | swap x y l =>
    intro ft h
    cases h with
    | t o r =>
      cases r with
      | t o' r' =>
        refine ⟨_, .t o' (.t o r'), ?_⟩
        rw [← List.append_assoc, ← List.append_assoc]
        exact List.Perm.append_right _ List.perm_append_comm
      | al e r' => exact ⟨_, .al e (.t o r'), .refl _⟩
    | al e r =>
      cases r with
      | t o' r' => exact ⟨_, .t o' (.al e r'), .refl _⟩
      | al e' r' => exact ⟨_, .al e' (.al e r'), .refl _⟩
  | trans p q ih1 ih2 =>
    intro ft h
    obtain ⟨f1, a1, b1⟩ := ih1 h
    obtain ⟨f2, a2, b2⟩ := ih2 a1
    exact ⟨f2, a2, b2.trans b1⟩
theorem SI.perm {τs' : List (V × C)} (s : SI K B ρ σ τs H) (p : τs.Perm τs') : SI K B ρ σ τs' H := by
  obtain ⟨G, fs, ft, c⟩ := s
  obtain ⟨ft', q1, q2⟩ := c.temps.perm p
  exact ⟨G, fs, ft', { c with temps := q1, nd := (List.Perm.append_left fs q2).nodup_iff.mpr c.nd, own := fun a h => c.own a ((List.Perm.append_left fs q2).mem_iff.mp h) }⟩
/-- forget the top temporary -/
theorem SI.pop {v : V} {c : C} (s : SI K B ρ σ ((v, c) :: τs) H) : SI K B ρ σ τs H := by
  obtain ⟨G, fs, ft, k⟩ := s
  cases k with
  | mk g0 gh h0 tup new slots temps nd own pin =>
  cases temps with
  | t o r =>
    rename_i x f fr
    have hs : List.Sublist (fs ++ fr) (fs ++ (f ++ fr)) := List.Sublist.append_left (List.sublist_append_right _ _) _
    exact ⟨G, fs, fr, g0, gh, h0, tup, new, slots, r, nd.sublist hs, fun a h => own a (hs.subset h), pin⟩
  | al e r => exact ⟨G, fs, _, g0, gh, h0, tup, new, slots, r, nd, own, pin⟩
theorem SI.pops {ts : List (V × C)} (s : SI K B ρ σ (ts ++ τs) H) : SI K B ρ σ τs H := by
  induction ts with
  | nil => exact s
  | cons t ts ih => exact ih s.pop
/-- what a value is -/
def dat (ρ : Rho) : C → Option PyData
  | .t x => some x.data
  | .al j => match ρ[j]? with
    | some (some t) => some t.data
    | _ => none
theorem Core.slot (c : Core K B G ρ σ τs H fs ft) {j : Nat} {t : T} (e : ρ[j]? = some (some t)) : ∃ v f, σ[j]? = some (some v) ∧ Own K G H v t f ∧ ∀ a ∈ f, a ∈ fs := by
  obtain ⟨v, f, fr, h1, h2, h3, _⟩ := c.slots.at_ e
  exact ⟨v, f, h1, h2, fun a h => h3.mem_iff.mpr (List.mem_append_left _ h)⟩
theorem SI.slot (s : SI K B ρ σ τs H) {j : Nat} {t : T} (e : ρ[j]? = some (some t)) : ∃ v, σ[j]? = some (some v) ∧ Rp K H v t.data := by
  obtain ⟨G, fs, ft, c⟩ := s
  obtain ⟨v, f, h1, h2, _⟩ := c.slot e
  exact ⟨v, h1, h2.rp c.gh.er fun _ _ => rfl⟩
theorem SI.len (s : SI K B ρ σ τs H) : σ.length = ρ.length := by
  obtain ⟨G, fs, ft, c⟩ := s
  exact c.slots.len
theorem SI.rp {v : V} {c : C} {x : PyData} (s : SI K B ρ σ ((v, c) :: τs) H) (e : dat ρ c = some x) : Rp K H v x := by
  cases c with
  | t y =>
    simp only [dat, Option.some.injEq] at e
    subst e
    obtain ⟨G, fs, ft, k⟩ := s
    have h := k.temps
    cases h with
    | t o r => exact o.rp k.gh.er fun _ _ => rfl
  | al j =>
    simp only [dat] at e
    split at e
    · rename_i t ht
      simp only [Option.some.injEq] at e
      subst e
      obtain ⟨v', h1, h2⟩ := s.slot ht
      obtain ⟨G, fs, ft, k⟩ := s
      have h := k.temps
      cases h with
      | al e' r =>
        rw [h1] at e'
        cases e'
        exact h2
    · cases e
/-- a scalar, a known thing is handed -/
theorem SI.push {v : V} {x : PyData} (s : SI K B ρ σ τs H) (r : ∀ G, Ex G H → (∀ a o, tl o = true → H a = some o → G a = some o) → Rp K G v x) : SI K B ρ σ ((v, .t (.d x)) :: τs) H := by
  obtain ⟨G, fs, ft, c⟩ := s
  exact ⟨G, fs, ft, { c with temps := .t (fp := []) (.d (r G c.gh c.tup)) c.temps }⟩
theorem SI.pushAl {v : V} {j : Nat} (s : SI K B ρ σ τs H) (e : σ[j]? = some (some v)) : SI K B ρ σ ((v, .al j) :: τs) H := by
  obtain ⟨G, fs, ft, c⟩ := s
  exact ⟨G, fs, ft, { c with temps := .al e c.temps }⟩
end
/-! data that never changes -/
mutual
def imm : PyData → Bool
  | .list _ => false
  | .dict _ => false
  | .tuple xs => immL xs
  | _ => true
def immL : List PyData → Bool
  | [] => true
  | x :: xs => imm x && immL xs
end
theorem immL_all : ∀ xs : List PyData, immL xs = xs.all imm
  | [] => by simp [immL]
  | x :: xs => by simp [immL, immL_all xs]
mutual
def T.pure : T → Bool
  | .d x => imm x
  | .ls xs => T.pureL xs
  | .tu xs => T.pureL xs
  | .dk kvs => kvs.all fun p => imm p.2
  | .dt kvs => kvs.all fun p => imm p.2
def T.pureL : List T → Bool
  | [] => true
  | t :: ts => t.pure && T.pureL ts
end
theorem pureL_all : ∀ ts : List T, T.pureL ts = ts.all T.pure
  | [] => by simp [T.pureL]
  | t :: ts => by simp [T.pureL, pureL_all ts]
section
variable {K : PySem.W.Frag} {G G' H H' : Hp}
mutual
theorem Rp.imm (g : ∀ a xs, SqX G a xs → SqX G' a xs) : ∀ {v : V} {d : PyData}, Rp K G v d → Dl.imm d = true → Rp K G' v d
  | _, _, .non, _ => .non
  | _, _, .bl b, _ => .bl b
  | _, _, .int i, _ => .int i
  | _, _, .str x, _ => .str x
  | _, _, .lst s r, e => by simp [Dl.imm] at e
  | _, _, .tup s r, e => by
    rw [Dl.imm] at e
    exact .tup (g _ _ s) (RpL.imm g r e)
  | _, _, .dk s r, e => by simp [Dl.imm] at e
  | _, _, .dt s r, e => by simp [Dl.imm] at e
  | _, _, .exc s r, e => by simp [Dl.imm, excD] at e
theorem RpL.imm (g : ∀ a xs, SqX G a xs → SqX G' a xs) : ∀ {vs : List V} {ds : List PyData}, RpL K G vs ds → Dl.immL ds = true → RpL K G' vs ds
  | _, _, .nil, _ => .nil
  | _, _, .cons h t, e => by
    rw [Dl.immL, Bool.and_eq_true] at e
    exact .cons (Rp.imm g h e.1) (RpL.imm g t e.2)
end
mutual
theorem Own.pure (g : ∀ a xs, SqX G a xs → SqX G' a xs) : ∀ {v : V} {t : T} {fp : List Addr}, Own K G H v t fp → t.pure = true → (∀ a ∈ fp, H' a = H a) → Own K G' H' v t fp
  | _, _, _, .d r, e, _ => by
    rw [T.pure] at e
    exact .d (r.imm g e)
  | _, _, _, .ls h o, e, k => by
    rw [T.pure] at e
    exact .ls ((k _ List.mem_cons_self).trans h) (OwnL.pure g o e fun a h => k a (List.mem_cons_of_mem _ h))
  | _, _, _, .tu h o, e, k => by
    rw [T.pure] at e
    exact .tu (g _ _ h) (OwnL.pure g o e k)
  | _, _, _, .dk (xs := xs) h q o, e, k => by
    rw [T.pure] at e
    refine .dk ((k _ List.mem_cons_self).trans h) q (o.imm g ?_)
    rw [immL_all, List.all_map]
    exact e
  | _, _, _, .dt (xs := xs) h q o, e, k => by
    rw [T.pure] at e
    refine .dt ((k _ List.mem_cons_self).trans h) q (o.imm g ?_)
    rw [immL_all, List.all_map]
    exact e
theorem OwnL.pure (g : ∀ a xs, SqX G a xs → SqX G' a xs) : ∀ {vs : List V} {ts : List T} {fp : List Addr}, OwnL K G H vs ts fp → T.pureL ts = true → (∀ a ∈ fp, H' a = H a) → OwnL K G' H' vs ts fp
  | _, _, _, .nil, _, _ => .nil
  | _, _, _, .cons o r, e, k => by
    rw [T.pureL, Bool.and_eq_true] at e
    exact .cons (Own.pure g o e.1 fun a h => k a (List.mem_append_left _ h)) (OwnL.pure g r e.2 fun a h => k a (List.mem_append_right _ h))
end
end
end Dl
set_option Elab.async false
set_option linter.all false
set_option maxRecDepth 100000
set_option maxHeartbeats 4000000
/-! Dl, third part: what may be done with the state. -/
namespace Dl
open PySem L2
theorem set_same {α : Type} {l : List α} {j : Nat} {x : α} (h : l[j]? = some x) : l.set j x = l := by
  apply List.ext_getElem?
  intro i
  by_cases e : j = i
  · subst e
    rw [List.getElem?_set_self (List.getElem?_eq_some_iff.mp h).1, h]
  · rw [List.getElem?_set_ne e]
/-- G and what stands at f -/
def gadd (G H : Hp) (f : List Addr) : Hp := fun a => if a ∈ f then H a else G a
section
variable {K : PySem.W.Frag} {B : Base} {G G' H H' : Hp} {ρ : Rho} {σ : L2.St} {τs : List (V × C)} {fs ft : List Addr}
theorem gadd_in {f : List Addr} {a : Addr} (h : a ∈ f) : gadd G H f a = H a := if_pos h
theorem gadd_out {f : List Addr} {a : Addr} (h : ¬ a ∈ f) : gadd G H f a = G a := if_neg h
theorem gadd_ex {f : List Addr} (h : ∀ a ∈ f, G a = none) : Ex G (gadd G H f) := fun a o e => by
  by_cases ha : a ∈ f
  · rw [h a ha] at e
    cases e
  · rw [gadd_out ha]
    exact e
theorem gadd_le {f : List Addr} (h : Ex G H) : Ex (gadd G H f) H := fun a o e => by
  by_cases ha : a ∈ f
  · rw [gadd_in ha] at e
    exact e
  · rw [gadd_out ha] at e
    exact h _ _ e
theorem Core.keep (c : Core K B G ρ σ τs H fs ft) {p : Addr} {o : HO} (hp : H p = none) : ∀ a ∈ fs ++ ft, upd H p o a = H a := fun a h => by
  obtain ⟨u, hu, _⟩ := c.there a h
  exact upd_ne (fun e => by
    subst e
    rw [hp] at hu
    cases hu)
theorem Core.free (c : Core K B G ρ σ τs H fs ft) {p : Addr} (hp : H p = none) : G p = none ∧ B.H0 p = none ∧ ¬ p ∈ fs ++ ft := by
  refine ⟨?_, ?_, fun h => ?_⟩
  · cases e : G p with
    | none => rfl
    | some u =>
      rw [c.gh _ _ e] at hp
      cases hp
  · cases e : B.H0 p with
    | none => rfl
    | some u =>
      rw [c.h0 _ _ e] at hp
      cases hp
  · obtain ⟨u, hu, _⟩ := c.there p h
    rw [hp] at hu
    cases hu
theorem ex_upd {p : Addr} {o : HO} (h : Ex G H) (hp : G p = none) : Ex G (upd H p o) := fun a u e => by
  rw [upd_ne (fun z => by
    subst z
    rw [hp] at e
    cases e)]
  exact h _ _ e
/-! ### freezing -/
theorem SI.frz {v : V} {x : T} (s : SI K B ρ σ ((v, .t x) :: τs) H) : SI K B ρ σ ((v, .t (.d x.data)) :: τs) H := by
  obtain ⟨G, fs, ft, c⟩ := s
  cases c with
  | mk g0 gh h0 tup new slots temps nd own pin =>
  cases temps with
  | t o r =>
  rename_i f fr
  have hf : ∀ a ∈ f, a ∈ fs ++ (f ++ fr) := fun a h => List.mem_append_right _ (List.mem_append_left _ h)
  have gx : Ex G (gadd G H f) := gadd_ex fun a h => (own a (hf a h)).1
  have hs : List.Sublist (fs ++ fr) (fs ++ (f ++ fr)) := List.Sublist.append_left (List.sublist_append_right _ _) _
  refine ⟨gadd G H f, fs, [] ++ fr, g0.trans gx, gadd_le gh, h0, fun a o h e => gx _ _ (tup a o h e), fun a h1 h2 => ?_, slots.mono gx.er fun _ _ => rfl,
    .t (.d (o.rp gx.er fun a h => gadd_in h)) (r.mono gx.er fun _ _ => rfl), ?_, fun a h => ?_, pin⟩
  · by_cases ha : a ∈ f
    · exact absurd (own a (hf a ha)).2 h2
    · rw [gadd_out ha]
      exact new a h1 h2
  · exact nd.sublist hs
  · have h' := hs.subset h
    refine ⟨?_, (own a h').2⟩
    have na : ¬ a ∈ f := fun ha => by
      have nd' := List.nodup_append.mp nd
      rcases List.mem_append.mp h with q | q
      · exact nd'.2.2 a q a (List.mem_append_left _ ha) rfl
      · exact (List.nodup_append.mp nd'.2.1).2.2 a ha a q rfl
    rw [gadd_out na]
    exact (own a h').1
/-- a slot's object is handed out, the slot is empty -/
theorem SI.take {v : V} {j : Nat} {t : T} (s : SI K B ρ σ ((v, .al j) :: τs) H) (e : ρ[j]? = some (some t)) : SI K B (ρ.set j none) σ ((v, .t t) :: τs) H := by
  obtain ⟨G, fs, ft, c⟩ := s
  cases c with
  | mk g0 gh h0 tup new slots temps nd own pin =>
  cases temps with
  | al e' r =>
  obtain ⟨v', f, fr, h1, h2, h3, h4, h5⟩ := slots.at_ e
  have ev : v' = v := by
    rw [h1] at e'
    cases e'
    rfl
  subst ev
  have q := h5 (some v') (Er.refl G) (H' := H) fun _ _ => rfl
  rw [set_same h1] at q
  have pm : List.Perm (fr ++ (f ++ ft)) (fs ++ ft) := by
    rw [← List.append_assoc]
    exact List.Perm.append_right ft (List.perm_append_comm.trans h3.symm)
  exact ⟨G, fr, f ++ ft, g0, gh, h0, tup, new, q, .t h2 r, pm.nodup_iff.mpr nd, fun a h => own a (pm.mem_iff.mp h), pin⟩
/-- the empty slot whose value is handed gets it back -/
theorem SI.give {v : V} {j : Nat} {t : T} (s : SI K B ρ σ ((v, .t t) :: τs) H) (e : ρ[j]? = some none) (es : σ[j]? = some (some v)) : SI K B (ρ.set j (some t)) σ ((v, .al j) :: τs) H := by
  obtain ⟨G, fs, ft, c⟩ := s
  cases c with
  | mk g0 gh h0 tup new slots temps nd own pin =>
  cases temps with
  | t o r =>
  rename_i f fr
  obtain ⟨fp', q1, q2⟩ := slots.fill o j (List.getElem?_eq_some_iff.mp e).1 e
  rw [set_same es] at q1
  have pm : List.Perm (fp' ++ fr) (fs ++ (f ++ fr)) := by
    refine (List.Perm.append_right fr q2).trans ?_
    rw [← List.append_assoc]
    exact List.Perm.append_right fr List.perm_append_comm
  exact ⟨G, fp', fr, g0, gh, h0, tup, new, q1, .al es r, pm.nodup_iff.mpr nd, fun a h => own a (pm.mem_iff.mp h), pin⟩
/-- a slot's object is from now on known data; so is what was handed of it -/
theorem SI.frzAl {v : V} {j : Nat} {t : T} (s : SI K B ρ σ ((v, .al j) :: τs) H) (e : ρ[j]? = some (some t)) : SI K B (ρ.set j (some (.d t.data))) σ ((v, .t (.d t.data)) :: τs) H := by
  have es : σ[j]? = some (some v) := by
    obtain ⟨G, fs, ft, c⟩ := s
    cases c.temps with
    | al e' r => exact e'
  have s1 := (s.take e).frz
  have r : SI K B (ρ.set j none) σ ((v, .t (.d t.data)) :: (v, .t (.d t.data)) :: τs) H := by
    obtain ⟨G, fs, ft, c⟩ := s1
    cases c with
    | mk g0 gh h0 tup new slots temps nd own pin =>
    cases temps with
    | t o r =>
    cases o with
    | d rp => exact ⟨G, fs, [] ++ ([] ++ _), g0, gh, h0, tup, new, slots, .t (.d rp) (.t (.d rp) r), nd, own, pin⟩
  have hl : j < ρ.length := (List.getElem?_eq_some_iff.mp e).1
  have s2 := r.give (j := j) (by rw [List.getElem?_set_self hl]) es
  rw [List.set_set] at s2
  exact s2.pop
/-! ### what is handed by several expressions -/
abbrev tmp (vs : List V) (ts : List T) : List (V × C) := vs.zip (ts.map C.t)
theorem OwnC.split : ∀ {vs : List V} {ts : List T} {ft : List Addr}, vs.length = ts.length → OwnC K G H σ (tmp vs ts ++ τs) ft → ∃ f fr, OwnL K G H vs ts f ∧ OwnC K G H σ τs fr ∧ ft = f ++ fr
  | [], [], ft, _, h => ⟨[], ft, .nil, h, rfl⟩
  | [], _ :: _, _, e, _ => by simp at e
  | _ :: _, [], _, e, _ => by simp at e
  | v :: vs, x :: ts, ft, e, h => by
    have h' : OwnC K G H σ ((v, .t x) :: (tmp vs ts ++ τs)) ft := h
    cases h' with
    | t o r =>
      obtain ⟨f, fr, h1, h2, h3⟩ := OwnC.split (by simpa using e) r
      exact ⟨_, fr, .cons o h1, h2, by rw [h3, List.append_assoc]⟩
theorem OwnC.join : ∀ {vs : List V} {ts : List T} {f fr : List Addr}, OwnL K G H vs ts f → OwnC K G H σ τs fr → OwnC K G H σ (tmp vs ts ++ τs) (f ++ fr)
  | _, _, _, _, .nil, h => h
  | _, _, _, _, .cons o r, h => by
    rw [List.append_assoc]
    exact .t o (OwnC.join r h)
/-! ### new objects -/
theorem SI.newL {vs : List V} {ts : List T} {p : Addr} (s : SI K B ρ σ (tmp vs ts ++ τs) H) (hl : vs.length = ts.length) (hp : H p = none) : SI K B ρ σ ((.ref p, .t (.ls ts)) :: τs) (upd H p (.lst vs)) := by
  obtain ⟨G, fs, ft, c⟩ := s
  obtain ⟨fg, fh, fn⟩ := c.free hp
  have k := c.keep (o := .lst vs) hp
  obtain ⟨f, fr, h1, h2, rfl⟩ := c.temps.split hl
  have pm : List.Perm (fs ++ (p :: f ++ fr)) (p :: (fs ++ (f ++ fr))) := List.perm_middle
  refine ⟨G, fs, p :: f ++ fr, c.g0, ex_upd c.gh fg, ex_upd c.h0 fh, fun a o ho e => ?_, c.new, c.slots.mono (Er.refl G) fun a h => k a (List.mem_append_left _ h),
    .t (.ls upd_same (h1.mono (Er.refl G) fun a h => k a (List.mem_append_right _ (List.mem_append_left _ h)))) (h2.mono (Er.refl G) fun a h => k a (List.mem_append_right _ (List.mem_append_right _ h))), ?_, fun a h => ?_, c.pin⟩
  · by_cases ha : a = p
    · subst ha
      rw [upd_same] at e
      cases e
      cases ho
    · rw [upd_ne ha] at e
      exact c.tup a o ho e
  · exact pm.nodup_iff.mpr (List.nodup_cons.mpr ⟨fn, c.nd⟩)
  · rcases List.mem_cons.mp (pm.mem_iff.mp h) with rfl | h
    · exact ⟨fg, fh⟩
    · exact c.own a h
theorem RpL.of_d : ∀ {vs : List V} {ds : List PyData} {f : List Addr}, OwnL K G H vs (ds.map T.d) f → RpL K G vs ds ∧ f = []
  | _, [], _, h => by
    cases h
    exact ⟨.nil, rfl⟩
  | _, d :: ds, _, h => by
    have h' : OwnL K G H _ (T.d d :: ds.map T.d) _ := h
    cases h' with
    | cons o r =>
      cases o with
      | d q =>
        obtain ⟨h1, h2⟩ := RpL.of_d r
        exact ⟨.cons q h1, by rw [h2] <;> rfl⟩
theorem OwnL.of_d : ∀ {vs : List V} {ds : List PyData}, RpL K G vs ds → OwnL K G H vs (ds.map T.d) []
  | _, _, .nil => .nil
  | _, _, .cons q r => .cons (fp := []) (.d q) (OwnL.of_d r)
theorem SI.newT {vs : List V} {ds : List PyData} {p : Addr} (s : SI K B ρ σ (tmp vs (ds.map T.d) ++ τs) H) (hl : vs.length = ds.length) (hp : H p = none) : SI K B ρ σ ((.ref p, .t (.d (.tuple ds))) :: τs) (upd H p (.tup vs)) := by
  obtain ⟨G, fs, ft, c⟩ := s
  obtain ⟨fg, fh, fn⟩ := c.free hp
  have k := c.keep (o := .tup vs) hp
  obtain ⟨f, fr, h1, h2, rfl⟩ := c.temps.split (by simpa using hl)
  obtain ⟨h3, rfl⟩ := RpL.of_d h1
  have gx : Ex G (upd G p (.tup vs)) := ex_upd (Ex.refl G) fg
  refine ⟨upd G p (.tup vs), fs, [] ++ fr, c.g0.trans gx, fun a o e => ?_, ex_upd c.h0 fh, fun a o ho e => ?_, fun a q1 q2 => ?_, c.slots.mono gx.er fun a h => k a (List.mem_append_left _ h),
    .t (.d (.tup upd_same (h3.mono gx.er))) (h2.mono gx.er fun a h => k a (List.mem_append_right _ h)), c.nd, fun a h => ?_, c.pin⟩
  · by_cases ha : a = p
    · subst ha
      rw [upd_same] at e
      rw [upd_same]
      exact e
    · rw [upd_ne ha] at e
      rw [upd_ne ha]
      exact c.gh _ _ e
  · by_cases ha : a = p
    · subst ha
      rw [upd_same] at e
      rw [upd_same]
      exact e
    · rw [upd_ne ha] at e
      rw [upd_ne ha]
      exact c.tup _ _ ho e
  · by_cases ha : a = p
    · subst ha
      exact absurd fh q2
    · rw [upd_ne ha]
      exact c.new a q1 q2
  · have na : a ≠ p := fun e => by
      subst e
      exact fn h
    rw [upd_ne na]
    exact c.own a h
/-- a new list of what is known -/
theorem SI.newLd {vs : List V} {ds : List PyData} {p : Addr} (s : SI K B ρ σ τs H) (r : ∀ G, Ex G H → (∀ a o, tl o = true → H a = some o → G a = some o) → SI K B ρ σ τs H → RpL K G vs ds) (hp : H p = none) :
    SI K B ρ σ ((.ref p, .t (.ls (ds.map T.d))) :: τs) (upd H p (.lst vs)) := by
  obtain ⟨G, fs, ft, c⟩ := s
  have q := r G c.gh c.tup ⟨G, fs, ft, c⟩
  have s' : SI K B ρ σ (tmp vs (ds.map T.d) ++ τs) H := ⟨G, fs, [] ++ ft, { c with temps := OwnC.join (OwnL.of_d q) c.temps }⟩
  exact s'.newL (by rw [q.len, List.length_map]) hp
/-! ### a slot is written -/
theorem OwnC.slotless {σ' : L2.St} : ∀ {τs : List (V × C)} {ft : List Addr}, (∀ p ∈ τs, ∀ j, p.2 = C.al j → σ'[j]? = σ[j]?) → OwnC K G H σ τs ft → OwnC K G H σ' τs ft
  | _, _, _, .nil => .nil
  | _, _, h, .t o r => .t o (OwnC.slotless (fun p hp => h p (List.mem_cons_of_mem _ hp)) r)
  | _, _, h, .al e r => .al ((h _ List.mem_cons_self _ rfl).trans e) (OwnC.slotless (fun p hp => h p (List.mem_cons_of_mem _ hp)) r)
theorem SI.set {v : V} {x : T} {i : Nat} (s : SI K B ρ σ ((v, .t x) :: τs) H) (na : ∀ p ∈ τs, p.2 ≠ C.al i) (hi : i < ρ.length) (np : ∀ p ∈ B.pin, p.1 ≠ i) : SI K B (ρ.set i (some x)) (σ.set i (some v)) τs H := by
  obtain ⟨G, fs, ft, c⟩ := s
  cases c with
  | mk g0 gh h0 tup new slots temps nd own pin =>
  cases temps with
  | t o r =>
  rename_i f fr
  obtain ⟨fp1, q1, q2⟩ := slots.drop i none
  obtain ⟨fp2, q3, q4⟩ := q1.fill o i (by simpa using hi) (by rw [List.getElem?_set_self hi])
  rw [List.set_set, List.set_set] at q3
  have pm : List.Perm (fp2 ++ fr) (fp1 ++ (f ++ fr)) := by
    refine (List.Perm.append_right fr q4).trans ?_
    rw [← List.append_assoc]
    exact List.Perm.append_right fr List.perm_append_comm
  have sb : List.Sublist (fp1 ++ (f ++ fr)) (fs ++ (f ++ fr)) := List.Sublist.append_right q2 _
  refine ⟨G, fp2, fr, g0, gh, h0, tup, new, q3, r.slotless (fun p hp j e => List.getElem?_set_ne fun z => na p hp (by rw [e, z])), pm.nodup_iff.mpr (nd.sublist sb), fun a h => own a (sb.subset (pm.mem_iff.mp h)), fun p hp => ?_⟩
  rw [List.getElem?_set_ne (np p hp).symm]
  exact pin p hp
/-- a slot is forgotten -/
theorem SI.forget {i : Nat} (s : SI K B ρ σ τs H) : SI K B (ρ.set i none) σ τs H := by
  obtain ⟨G, fs, ft, c⟩ := s
  have hl := c.slots.len
  by_cases hi : i < σ.length
  · obtain ⟨fp1, q1, q2⟩ := c.slots.drop i σ[i]
    rw [set_same (List.getElem?_eq_getElem hi)] at q1
    have sb : List.Sublist (fp1 ++ ft) (fs ++ ft) := List.Sublist.append_right q2 _
    exact ⟨G, fp1, ft, { c with slots := q1, nd := c.nd.sublist sb, own := fun a h => c.own a (sb.subset h) }⟩
  · rw [List.set_eq_of_length_le (by omega)]
    exact ⟨G, fs, ft, c⟩
/-- what an empty slot holds is no matter -/
theorem OwnS.any : ∀ {σ : L2.St} {ρ : Rho} {fp : List Addr} {i : Nat} (o : Option V), OwnS K G H σ ρ fp → ρ[i]? = some none → OwnS K G H (σ.set i o) ρ fp
  | _, _, _, _, _, .nil, e => by simp at e
  | _, _, _, 0, _, .non r, _ => .non r
  | _, _, _, 0, _, .som _ _, e => by simp at e
  | _, _, _, i + 1, o, .non r, e => .non (OwnS.any o r (by simpa using e))
  | _, _, _, i + 1, o, .som k r, e => .som k (OwnS.any o r (by simpa using e))
theorem SI.any {i : Nat} (o : Option V) (s : SI K B ρ σ τs H) (e : ρ[i]? = some none) (na : ∀ p ∈ τs, p.2 ≠ C.al i) (np : ∀ p ∈ B.pin, p.1 ≠ i) : SI K B ρ (σ.set i o) τs H := by
  obtain ⟨G, fs, ft, c⟩ := s
  have hp : ∀ p ∈ B.pin, (σ.set i o)[p.1]? = some (some p.2) := fun p hp => by
    rw [List.getElem?_set_ne (np p hp).symm]
    exact c.pin p hp
  have ht := c.temps.slotless (σ' := σ.set i o) (fun p hp j z => List.getElem?_set_ne fun w => na p hp (by rw [z, w]))
  exact ⟨G, fs, ft, { c with slots := c.slots.any o e, temps := ht, pin := hp }⟩
/-! ### an owned list is changed in place -/
abbrev Tri := V × T × List Addr
theorem OwnL.tri : ∀ {vs : List V} {ts : List T} {f : List Addr}, OwnL K G H vs ts f → ∃ L : List Tri, vs = L.map (·.1) ∧ ts = L.map (·.2.1) ∧ f = L.flatMap (·.2.2) ∧ ∀ x ∈ L, Own K G H x.1 x.2.1 x.2.2
  | _, _, _, .nil => ⟨[], rfl, rfl, rfl, fun _ h => by cases h⟩
  | _, _, _, .cons (v := v) (t := t) (fp := fp) o r => by
    obtain ⟨L, h1, h2, h3, h4⟩ := OwnL.tri r
    refine ⟨(v, t, fp) :: L, by rw [h1] <;> rfl, by rw [h2] <;> rfl, by rw [h3] <;> rfl, fun x hx => ?_⟩
    rcases List.mem_cons.mp hx with rfl | hx
    · exact o
    · exact h4 x hx
theorem OwnL.of_tri : ∀ (L : List Tri), (∀ x ∈ L, Own K G H x.1 x.2.1 x.2.2) → OwnL K G H (L.map (·.1)) (L.map (·.2.1)) (L.flatMap (·.2.2))
  | [], _ => .nil
  | x :: L, h => .cons (h x List.mem_cons_self) (OwnL.of_tri L fun y hy => h y (List.mem_cons_of_mem _ hy))
theorem sub_flat {α β : Type} {f : α → List β} : ∀ {l k : List α}, List.Sublist l k → List.Sublist (l.flatMap f) (k.flatMap f)
  | _, _, .slnil => List.Sublist.refl _
  | _, _, .cons a h => by
    rw [List.flatMap_cons]
    exact (sub_flat h).trans (List.sublist_append_right _ _)
  | _, _, .cons_cons a h => by
    rw [List.flatMap_cons, List.flatMap_cons]
    exact List.Sublist.append_left (sub_flat h) _
/-- the list that slot j owns, with what is handed on top: any of it may go into the list, any of the list may be handed -/
theorem SI.write {vs : List V} {ts xs : List T} {j : Nat} (s : SI K B ρ σ (tmp vs xs ++ τs) H) (hl : vs.length = xs.length) (e : ρ[j]? = some (some (.ls ts))) :
    ∃ (p : Addr) (L M : List Tri), σ[j]? = some (some (.ref p)) ∧ H p = some (.lst (L.map (·.1))) ∧ ts = L.map (·.2.1) ∧ vs = M.map (·.1) ∧ xs = M.map (·.2.1) ∧
      ∀ (L' M' : List Tri) (S : List Tri), S.Perm (L' ++ M') → S.Sublist (L ++ M) → SI K B (ρ.set j (some (.ls (L'.map (·.2.1))))) σ (tmp (M'.map (·.1)) (M'.map (·.2.1)) ++ τs) (upd H p (.lst (L'.map (·.1)))) := by
  obtain ⟨G, fs, ft, c⟩ := s
  obtain ⟨v, f, fr, h1, h2, h3, h4, h5⟩ := c.slots.at_ e
  cases h2 with
  | ls hp ho =>
  rename_i p ws f
  obtain ⟨L, e1, e2, e3, e4⟩ := ho.tri
  obtain ⟨g, gr, k1, k2, rfl⟩ := c.temps.split hl
  obtain ⟨M, d1, d2, d3, d4⟩ := k1.tri
  subst e1 e2 e3 d1 d2 d3
  refine ⟨p, L, M, h1, hp, rfl, rfl, rfl, fun L' M' S hS hSub => ?_⟩
  -- the footprints behind it
  have mem : ∀ x ∈ L' ++ M', x ∈ L ++ M := fun x hx => hSub.subset (hS.mem_iff.mpr hx)
  have q0 : List.Perm (fs ++ (M.flatMap (·.2.2) ++ gr)) ((p :: (L.flatMap (·.2.2) ++ M.flatMap (·.2.2))) ++ (fr ++ gr)) := by
    refine (List.Perm.append_right _ h3).trans ?_
    show List.Perm ((p :: L.flatMap (·.2.2)) ++ fr ++ (M.flatMap (·.2.2) ++ gr)) _
    rw [List.append_assoc]
    show List.Perm (p :: (L.flatMap (·.2.2) ++ (fr ++ (M.flatMap (·.2.2) ++ gr)))) (p :: (L.flatMap (·.2.2) ++ M.flatMap (·.2.2) ++ (fr ++ gr)))
    refine List.Perm.cons p ?_
    rw [List.append_assoc]
    refine List.Perm.append_left _ ?_
    rw [← List.append_assoc, ← List.append_assoc]
    exact List.Perm.append_right gr List.perm_append_comm
  have nd0 := q0.nodup_iff.mp c.nd
  have own0 : ∀ a ∈ (p :: (L.flatMap (·.2.2) ++ M.flatMap (·.2.2))) ++ (fr ++ gr), G a = none ∧ B.H0 a = none := fun a h => c.own a (q0.mem_iff.mpr h)
  have pp : ∀ a ∈ L.flatMap (·.2.2) ++ M.flatMap (·.2.2) ++ (fr ++ gr), a ≠ p := fun a h z => by
    subst z
    have := List.nodup_cons.mp nd0
    exact this.1 h
  have kp : ∀ a, a ≠ p → upd H p (HO.lst (L'.map (·.1))) a = H a := fun a h => upd_ne h
  have fl : ∀ x ∈ L' ++ M', ∀ a ∈ x.2.2, a ≠ p := fun x hx a ha => pp a (List.mem_append_left _ (by
    rw [← List.flatMap_append]
    exact List.mem_flatMap.mpr ⟨x, mem x hx, ha⟩))
  have ownL : ∀ x ∈ L' ++ M', Own K G (upd H p (HO.lst (L'.map (·.1)))) x.1 x.2.1 x.2.2 := fun x hx => by
    have o : Own K G H x.1 x.2.1 x.2.2 := by
      rcases List.mem_append.mp (mem x hx) with q | q
      · exact e4 x q
      · exact d4 x q
    exact o.mono (Er.refl G) fun a ha => kp a (fl x hx a ha)
  obtain ⟨fp', w1, w2⟩ := h4 (G' := G) (H' := upd H p (HO.lst (L'.map (·.1)))) (v' := .ref p) (t' := .ls (L'.map (·.2.1))) (Er.refl G) (fun a h => kp a (pp a (List.mem_append_right _ (List.mem_append_left _ h))))
    (.ls upd_same (OwnL.of_tri L' fun x hx => ownL x (List.mem_append_left _ hx)))
  rw [set_same h1] at w1
  have sub : List.Sublist (S.flatMap (·.2.2)) (L.flatMap (·.2.2) ++ M.flatMap (·.2.2)) := by
    rw [← List.flatMap_append]
    exact sub_flat hSub
  have pf : List.Perm (S.flatMap (·.2.2)) (L'.flatMap (·.2.2) ++ M'.flatMap (·.2.2)) := by
    rw [← List.flatMap_append]
    exact hS.flatMap_right _
  have q1 : List.Perm (fp' ++ (M'.flatMap (·.2.2) ++ gr)) ((p :: (L'.flatMap (·.2.2) ++ M'.flatMap (·.2.2))) ++ (fr ++ gr)) := by
    refine (List.Perm.append_right _ w2).trans ?_
    show List.Perm ((p :: L'.flatMap (·.2.2)) ++ fr ++ (M'.flatMap (·.2.2) ++ gr)) _
    rw [List.append_assoc]
    show List.Perm (p :: (L'.flatMap (·.2.2) ++ (fr ++ (M'.flatMap (·.2.2) ++ gr)))) (p :: (L'.flatMap (·.2.2) ++ M'.flatMap (·.2.2) ++ (fr ++ gr)))
    refine List.Perm.cons p ?_
    rw [List.append_assoc]
    refine List.Perm.append_left _ ?_
    rw [← List.append_assoc, ← List.append_assoc]
    exact List.Perm.append_right gr List.perm_append_comm
  have q2 : List.Perm ((p :: S.flatMap (·.2.2)) ++ (fr ++ gr)) ((p :: (L'.flatMap (·.2.2) ++ M'.flatMap (·.2.2))) ++ (fr ++ gr)) := List.Perm.append_right _ (List.Perm.cons p pf)
  have q3 : List.Sublist ((p :: S.flatMap (·.2.2)) ++ (fr ++ gr)) ((p :: (L.flatMap (·.2.2) ++ M.flatMap (·.2.2))) ++ (fr ++ gr)) := List.Sublist.append_right (List.Sublist.cons_cons p sub) _
  have hin := own0 p List.mem_cons_self
  refine ⟨G, fp', M'.flatMap (·.2.2) ++ gr, c.g0, ex_upd c.gh hin.1, ex_upd c.h0 hin.2, fun a o ho e => ?_, c.new, w1,
    OwnC.join (OwnL.of_tri M' fun x hx => ownL x (List.mem_append_right _ hx)) (k2.mono (Er.refl G) fun a h => kp a (pp a (List.mem_append_right _ (List.mem_append_right _ h)))), ?_, fun a h => ?_, c.pin⟩
  · by_cases ha : a = p
    · subst ha
      rw [upd_same] at e
      cases e
      cases ho
    · rw [upd_ne ha] at e
      exact c.tup a o ho e
  · exact q1.nodup_iff.mpr (q2.nodup_iff.mp (nd0.sublist q3))
  · exact own0 a (q3.subset (q2.mem_iff.mpr (q1.mem_iff.mp h)))
end
end Dl
set_option Elab.async false
set_option linter.all false
set_option maxRecDepth 100000
set_option maxHeartbeats 4000000
/-! Dl, fourth part: calls, the new base of a loop, a list that grows among what is handed. -/
namespace Dl
open PySem L2
/-- H without what stands at f -/
def hrem (H : Hp) (f : List Addr) : Hp := fun a => if a ∈ f then none else H a
/-- G and the tuples of H -/
def gtl (G H : Hp) : Hp := fun a => match H a with
  | some (.tup xs) => some (.tup xs)
  | some (.frz o (.tup xs)) => some (.frz o (.tup xs))
  | _ => G a
section
variable {K : PySem.W.Frag} {B : Base} {G G' H H' : Hp} {ρ : Rho} {σ : L2.St} {τs rest : List (V × C)} {fs ft : List Addr}
theorem hrem_in {f : List Addr} {a : Addr} (h : a ∈ f) : hrem H f a = none := if_pos h
theorem hrem_out {f : List Addr} {a : Addr} (h : ¬ a ∈ f) : hrem H f a = H a := if_neg h
theorem hrem_some {f : List Addr} {a : Addr} {o : HO} (h : hrem H f a = some o) : ¬ a ∈ f ∧ H a = some o := by
  by_cases ha : a ∈ f
  · rw [hrem_in ha] at h
    cases h
  · rw [hrem_out ha] at h
    exact ⟨ha, h⟩
theorem hrem_le {f : List Addr} : Ex (hrem H f) H := fun _ _ h => (hrem_some h).2
theorem gtl_tl {a : Addr} {o : HO} (ho : tl o = true) (h : H a = some o) : gtl G H a = some o := by
  unfold gtl
  cases o with
  | tup xs => rw [h]
  | frz ob u =>
    cases u with
    | tup xs => rw [h]
    | _ => cases ho
  | _ => cases ho
theorem gtl_no {a : Addr} (h : ∀ o, H a = some o → tl o = false) : gtl G H a = G a := by
  unfold gtl
  split
  · rename_i xs e
    cases h _ e
  · rename_i ob xs e
    cases h _ e
  · rfl
theorem gtl_ex (k : ∀ a o, G a = some o → H a = some o) : Ex G (gtl G H) := fun a o e => by
  by_cases ho : tl o = true
  · exact gtl_tl ho (k a o e)
  · rw [gtl_no fun u hu => by
      rw [k a o e] at hu
      cases hu
      simpa using ho]
    exact e
theorem OwnC.mem {v : V} {c : C} : ∀ {τs : List (V × C)} {ft : List Addr}, OwnC K G H σ τs ft → (v, c) ∈ τs →
    (∃ x f, c = .t x ∧ Own K G H v x f ∧ ∀ a ∈ f, a ∈ ft) ∨ ∃ j, c = .al j ∧ σ[j]? = some (some v)
  | _, _, .nil, h => by cases h
  | _, _, .t (x := x) (fp := fp) o r, h => by
    rcases List.mem_cons.mp h with e | h
    · cases e
      exact .inl ⟨x, fp, rfl, o, fun a ha => List.mem_append_left _ ha⟩
    · rcases OwnC.mem r h with ⟨y, f, h1, h2, h3⟩ | h
      · exact .inl ⟨y, f, h1, h2, fun a ha => List.mem_append_right _ (h3 a ha)⟩
      · exact .inr h
  | _, _, .al (j := j) e r, h => by
    rcases List.mem_cons.mp h with e' | h
    · cases e'
      exact .inr ⟨j, rfl, e⟩
    · exact OwnC.mem r h
theorem RpL.pur (g : ∀ a xs, SqX G a xs → SqX G' a xs) {vs : List V} {ts : List T} {f : List Addr} (h : OwnL K G H vs ts f) (e : T.pureL ts = true) : OwnL K G' H vs ts f := OwnL.pure g h e fun _ _ => rfl
/-- a call: what is handed to be changed (vI, tI) apart; behind it the same places hold outs, and the answer is new -/
theorem SI.call {vI : List V} {tI : List T} (s : SI K B ρ σ (tmp vI tI ++ rest) H) (hl : vI.length = tI.length) :
    ∃ f : List Addr, (∀ u c x, (u, c) ∈ rest → dat ρ c = some x → Rp K (hrem H f) u x) ∧ OwnL K (hrem H f) H vI tI f ∧ f.Nodup ∧ (∀ a o, tl o = true → H a = some o → hrem H f a = some o) ∧
      ∀ (H' Gc : Hp) (vr : V) (τ : T) (outs : List T) (fo fr : List Addr), Ex (hrem H f) H' → Ex Gc H' → OwnL K Gc H' vI outs fo → Own K Gc H' vr τ fr → T.pureL outs = true → τ.pure = true → (fo ++ fr).Nodup →
        (∀ a ∈ fo ++ fr, hrem H f a = none) → SI K B ρ σ ((vr, .t τ) :: (tmp vI outs ++ rest)) H' := by
  obtain ⟨G, fs, ft, c⟩ := s
  obtain ⟨f, fq, k1, k2, rfl⟩ := c.temps.split hl
  have nd := List.nodup_append.mp c.nd
  have nd2 := List.nodup_append.mp nd.2.1
  have hf : ∀ a ∈ f, a ∈ fs ++ (f ++ fq) := fun a h => List.mem_append_right _ (List.mem_append_left _ h)
  have dS : ∀ a ∈ fs, ¬ a ∈ f := fun a h q => nd.2.2 a h a (List.mem_append_left _ q) rfl
  have dQ : ∀ a ∈ fq, ¬ a ∈ f := fun a h q => nd2.2.2 a q a h rfl
  have gR : Ex G (hrem H f) := fun a o e => by
    rw [hrem_out fun ha => by
      rw [(c.own a (hf a ha)).1] at e
      cases e]
    exact c.gh a o e
  have hR : Ex B.H0 (hrem H f) := fun a o e => by
    rw [hrem_out fun ha => by
      rw [(c.own a (hf a ha)).2] at e
      cases e]
    exact c.h0 a o e
  have tR : ∀ a o, tl o = true → H a = some o → hrem H f a = some o := fun a o ho e => gR a o (c.tup a o ho e)
  refine ⟨f, fun u c' x hm hd => ?_, k1.mono gR.er fun _ _ => rfl, nd2.1, tR, fun H' Gc vr τ outs fo fr e1 e2 o1 o2 p1 p2 ndo no => ?_⟩
  · rcases k2.mem hm with ⟨y, g, rfl, o, hg⟩ | ⟨j, rfl, hj⟩
    · simp only [dat, Option.some.injEq] at hd
      subst hd
      exact o.rp gR.er fun a ha => hrem_out (dQ a (hg a ha))
    · simp only [dat] at hd
      split at hd
      · rename_i t ht
        simp only [Option.some.injEq] at hd
        subst hd
        obtain ⟨v, g, h1, h2, h3⟩ := c.slot ht
        rw [h1] at hj
        cases hj
        exact h2.rp gR.er fun a ha => hrem_out (dS a (h3 a ha))
      · cases hd
  · have kH : ∀ a, ¬ a ∈ f → ∀ o, H a = some o → H' a = some o := fun a ha o e => e1 a o (by
      rw [hrem_out ha]
      exact e)
    have kG : ∀ a o, G a = some o → H' a = some o := fun a o e => e1 a o (gR a o e)
    have gx : Ex G (gtl G H') := gtl_ex kG
    have sq : ∀ a xs, SqX Gc a xs → SqX (gtl G H') a xs := fun a xs q => gtl_tl rfl (e2 _ _ q)
    have o1' : OwnL K (gtl G H') H' vI outs fo := o1.pure sq p1 fun _ _ => rfl
    have o2' : Own K (gtl G H') H' vr τ fr := o2.pure sq p2 fun _ _ => rfl
    have there : ∀ a ∈ fs ++ fq, ∃ o, H a = some o ∧ tl o = false ∧ ¬ a ∈ f := fun a h => by
      obtain ⟨o, q1, q2⟩ := c.there a (by
        rcases List.mem_append.mp h with h | h
        · exact List.mem_append_left _ h
        · exact List.mem_append_right _ (List.mem_append_right _ h))
      refine ⟨o, q1, q2, ?_⟩
      rcases List.mem_append.mp h with h | h
      · exact dS a h
      · exact dQ a h
    have kk : ∀ a ∈ fs ++ fq, H' a = H a := fun a h => by
      obtain ⟨o, q1, _, q3⟩ := there a h
      rw [q1, kH a q3 o q1]
    have thO : ∀ a ∈ fo ++ fr, ∃ o, H' a = some o ∧ tl o = false := fun a h => by
      rcases List.mem_append.mp h with h | h
      · exact o1.there a h
      · exact o2.there a h
    have apart : ∀ a ∈ fo ++ fr, ¬ a ∈ fs ++ fq := fun a h q => by
      obtain ⟨o, q1, _, q3⟩ := there a q
      have z := no a h
      rw [hrem_out q3, q1] at z
      cases z
    have gnone : ∀ a, G a = none → (∀ o, H' a = some o → tl o = false) → gtl G H' a = none := fun a h k => by
      rw [gtl_no k]
      exact h
    refine ⟨gtl G H', fs, fr ++ (fo ++ fq), c.g0.trans gx, fun a o e => ?_, hR.trans e1, fun a o ho e => gtl_tl ho e, fun a h1 h2 => ?_, c.slots.mono gx.er fun a h => kk a (List.mem_append_left _ h),
      .t o2' (OwnC.join o1' (k2.mono gx.er fun a h => kk a (List.mem_append_right _ h))), ?_, fun a h => ?_, c.pin⟩
    · by_cases hk : ∃ u, H' a = some u ∧ tl u = true
      · obtain ⟨u, q1, q2⟩ := hk
        rw [gtl_tl q2 q1] at e
        cases e
        exact q1
      · rw [gtl_no fun u hu => by
          cases q : tl u with
          | true => exact absurd ⟨u, hu, q⟩ hk
          | false => rfl] at e
        exact kG a o e
    · have g0 := c.new a h1 h2
      obtain ⟨o, ho⟩ : ∃ o, B.H0 a = some o := by
        cases q : B.H0 a with
        | none => exact absurd q h2
        | some o => exact ⟨o, rfl⟩
      refine gnone a g0 fun u hu => ?_
      have e3 : H a = some o := c.h0 a o ho
      have e4 := e1 a o (hR a o ho)
      rw [e4] at hu
      cases hu
      cases q : tl o with
      | false => rfl
      | true =>
        have z := c.tup a o q e3
        rw [g0] at z
        cases z
    · -- no address twice
      have ndQ : (fs ++ fq).Nodup := by
        refine c.nd.sublist ?_
        exact List.Sublist.append_left (List.sublist_append_right _ _) _
      have big : ((fo ++ fr) ++ (fs ++ fq)).Nodup := List.nodup_append.mpr ⟨ndo, ndQ, fun a h b q e => apart a h (by
        subst e
        exact q)⟩
      refine List.Perm.nodup_iff (l₂ := (fo ++ fr) ++ (fs ++ fq)) ?_ |>.mpr big
      have p1 : List.Perm (fr ++ (fo ++ fq)) ((fo ++ fr) ++ fq) := by
        rw [← List.append_assoc]
        exact List.Perm.append_right fq List.perm_append_comm
      refine (List.Perm.append_left fs p1).trans ?_
      rw [show (fo ++ fr) ++ (fs ++ fq) = ((fo ++ fr) ++ fs) ++ fq from (List.append_assoc _ _ _).symm, show fs ++ ((fo ++ fr) ++ fq) = (fs ++ (fo ++ fr)) ++ fq from (List.append_assoc _ _ _).symm]
      exact List.Perm.append_right fq List.perm_append_comm
    · have cases3 : a ∈ fs ++ fq ∨ a ∈ fo ++ fr := by
        rcases List.mem_append.mp h with h | h
        · exact .inl (List.mem_append_left _ h)
        · rcases List.mem_append.mp h with h | h
          · exact .inr (List.mem_append_right _ h)
          · rcases List.mem_append.mp h with h | h
            · exact .inr (List.mem_append_left _ h)
            · exact .inl (List.mem_append_right _ h)
      rcases cases3 with q | q
      · have q' : a ∈ fs ++ (f ++ fq) := by
          rcases List.mem_append.mp q with q | q
          · exact List.mem_append_left _ q
          · exact List.mem_append_right _ (List.mem_append_right _ q)
        refine ⟨gnone a (c.own a q').1 fun u hu => ?_, (c.own a q').2⟩
        obtain ⟨o, w1, w2, _⟩ := there a q
        rw [kk a q, w1] at hu
        cases hu
        exact w2
      · have z := no a q
        refine ⟨gnone a ?_ fun u hu => ?_, ?_⟩
        · cases e : G a with
          | none => rfl
          | some o =>
            rw [gR a o e] at z
            cases z
        · obtain ⟨o, w1, w2⟩ := thO a q
          rw [w1] at hu
          cases hu
          exact w2
        · cases e : B.H0 a with
          | none => rfl
          | some o =>
            rw [hR a o e] at z
            cases z
/-- what is known stays known: a base of its own for a loop -/
theorem SI.ground {v : V} {x : PyData} (s : SI K B ρ σ ((v, .t (.d x)) :: τs) H) : ∃ B' : Base, B'.pin = B.pin ∧ SI K B' ρ σ τs H ∧ Rp K B'.G0 v x ∧ Ex B.G0 B'.G0 ∧
    (∀ ρ' σ' τs' H', SI K B' ρ' σ' τs' H' → SI K B ρ' σ' τs' H' ∧ Ex B'.G0 H') := by
  obtain ⟨G, fs, ft, c⟩ := s
  cases c with
  | mk g0 gh h0 tup new slots temps nd own pin =>
  cases temps with
  | t o r =>
  cases o with
  | d q =>
  refine ⟨⟨G, B.H0, B.pin⟩, rfl, ⟨G, fs, _, Ex.refl G, gh, h0, tup, fun a h _ => h, slots, r, nd, own, pin⟩, q, g0, fun ρ' σ' τs' H' ⟨G1, fs1, ft1, d⟩ => ⟨⟨G1, fs1, ft1, g0.trans d.g0, d.gh, d.h0, d.tup, fun a h1 h2 => ?_, d.slots, d.temps, d.nd, d.own, d.pin⟩, d.g0.trans d.gh⟩⟩
  exact d.new a (new a h1 h2) h2
/-- the list on top but one gets what is on top -/
theorem SI.app {p : Addr} {y : V} {x : T} {ts : List T} (s : SI K B ρ σ ((y, .t x) :: (.ref p, .t (.ls ts)) :: τs) H) : ∃ vs, H p = some (.lst vs) ∧ vs.length = ts.length ∧
    SI K B ρ σ ((.ref p, .t (.ls (ts ++ [x]))) :: τs) (upd H p (.lst (vs ++ [y]))) := by
  obtain ⟨G, fs, ft, c⟩ := s
  cases c with
  | mk g0 gh h0 tup new slots temps nd own pin =>
  cases temps with
  | t o r =>
  cases r with
  | t o2 r =>
  cases o2 with
  | ls hp ho =>
  rename_i f1 fr vs f2
  have pm : List.Perm (fs ++ (f1 ++ (p :: f2 ++ fr))) (p :: (fs ++ (f1 ++ (f2 ++ fr)))) := by
    have q1 : List.Perm (f1 ++ (p :: f2 ++ fr)) (p :: (f1 ++ (f2 ++ fr))) := List.perm_middle
    exact (List.Perm.append_left fs q1).trans List.perm_middle
  have nd' := List.nodup_cons.mp (pm.nodup_iff.mp nd)
  have pp : ∀ a ∈ fs ++ (f1 ++ (f2 ++ fr)), a ≠ p := fun a h e => by
    subst e
    exact nd'.1 h
  have kp : ∀ a, a ∈ fs ++ (f1 ++ (f2 ++ fr)) → upd H p (HO.lst (vs ++ [y])) a = H a := fun a h => upd_ne (pp a h)
  have hin := own p (pm.mem_iff.mpr List.mem_cons_self)
  have m1 : ∀ a ∈ fs, a ∈ fs ++ (f1 ++ (f2 ++ fr)) := fun a h => List.mem_append_left _ h
  have m2 : ∀ a ∈ f1, a ∈ fs ++ (f1 ++ (f2 ++ fr)) := fun a h => List.mem_append_right _ (List.mem_append_left _ h)
  have m3 : ∀ a ∈ f2, a ∈ fs ++ (f1 ++ (f2 ++ fr)) := fun a h => List.mem_append_right _ (List.mem_append_right _ (List.mem_append_left _ h))
  have m4 : ∀ a ∈ fr, a ∈ fs ++ (f1 ++ (f2 ++ fr)) := fun a h => List.mem_append_right _ (List.mem_append_right _ (List.mem_append_right _ h))
  have oA : ∀ {ws : List V} {us : List T} {g : List Addr} {H2 : Hp}, OwnL K G H2 ws us g → Own K G H2 y x f1 → OwnL K G H2 (ws ++ [y]) (us ++ [x]) (g ++ f1) := by
    intro ws us g H2 h k
    induction ws generalizing us g with
    | nil =>
      cases h
      show OwnL K G H2 [y] [x] f1
      have z := OwnL.cons k .nil
      rw [List.append_nil] at z
      exact z
    | cons w ws ih =>
      cases h with
      | cons a b =>
        rw [List.append_assoc]
        exact .cons a (ih b)
  have pm2 : List.Perm (fs ++ (p :: (f2 ++ f1) ++ fr)) (p :: (fs ++ (f1 ++ (f2 ++ fr)))) := by
    refine (List.perm_middle (l₁ := fs)).trans (List.Perm.cons p (List.Perm.append_left fs ?_))
    rw [← List.append_assoc]
    exact List.Perm.append_right fr List.perm_append_comm
  refine ⟨vs, hp, ho.len, G, fs, p :: (f2 ++ f1) ++ fr, g0, ex_upd gh hin.1, ex_upd h0 hin.2, fun a o ho e => ?_, new, slots.mono (Er.refl G) fun a h => kp a (m1 a h),
    .t (.ls upd_same (oA (ho.mono (Er.refl G) fun a h => kp a (m3 a h)) (o.mono (Er.refl G) fun a h => kp a (m2 a h)))) (r.mono (Er.refl G) fun a h => kp a (m4 a h)), ?_, fun a h => ?_, pin⟩
  · by_cases ha : a = p
    · subst ha
      rw [upd_same] at e
      cases e
      cases ho
    · rw [upd_ne ha] at e
      exact tup a o ho e
  · exact pm2.nodup_iff.mpr (pm.nodup_iff.mp nd)
  · exact own a (pm.mem_iff.mpr (pm2.mem_iff.mp h))
end
end Dl
set_option Elab.async false
set_option linter.all false
set_option maxRecDepth 100000
set_option maxHeartbeats 4000000
/-! Dl, fifth part: the judgements, and the rules for names, numbers, tests, plain statements. -/
namespace Dl
open PySem L2
abbrev DT := Rho → (C → Rho → Prop) → Prop
abbrev DTT := Rho → (Bool → Rho → Prop) → Prop
abbrev DTA := Rho → (List C → Rho → Prop) → Prop
abbrev DTG := T → Rho → (Rho → Prop) → Prop
structure DEnds where
  nx : Rho → Prop
  rt : T → Rho → Prop
  bk : Rho → Prop := fun _ => False
  ct : Rho → Prop := fun _ => False
abbrev DTS := DEnds → Rho → Prop
/-- what is wished of an exception -/
structure Wsh where
  W : WX
  ex : Str → Rho → Prop
def Wsh.none : Wsh := ⟨fun _ _ _ _ => False, fun _ _ => False⟩
/-- what is fixed through a body: the wish, the slots below n0 that alone are handed as slots, the slots that stay -/
structure Gm where
  w : Wsh
  n0 : Nat
  pn : List Nat
structure BOk (K : PySem.W.Frag) (mg : Str → Option Value) (g : Gm) (B : Base) (τs : List (V × C)) : Prop where
  low : ∀ p ∈ τs, ∀ j, p.2 = C.al j → j < g.n0
  wok : ∀ x C ρ' σ' H' ex, mg x = some (.ref C) → SI K B ρ' σ' (ex ++ τs) H' → g.w.ex x ρ' → g.w.W (.ref C) none σ' H'
  pin : ∀ p ∈ B.pin, p.1 ∈ g.pn
section
variable {K : PySem.W.Frag} {mg : Str → Option Value} {g : Gm} {B B' : Base} {τs ts : List (V × C)}
theorem BOk.cons {v : V} {c : C} (b : BOk K mg g B τs) (h : ∀ j, c = .al j → j < g.n0) : BOk K mg g B ((v, c) :: τs) :=
  ⟨fun p hp j e => by
    rcases List.mem_cons.mp hp with rfl | hp
    · exact h j e
    · exact b.low p hp j e, fun x C ρ' σ' H' ex hm s q => b.wok x C ρ' σ' H' (ex ++ [(v, c)]) hm (by rw [List.append_assoc]; exact s) q, b.pin⟩
theorem BOk.none (b : BOk K mg g B τs) : BOk K mg { g with w := Wsh.none } B τs := ⟨b.low, fun _ _ _ _ _ _ _ _ q => q.elim, b.pin⟩
theorem BOk.base (b : BOk K mg g B τs) (hp : B'.pin = B.pin) (h : ∀ ρ' σ' τs' H', SI K B' ρ' σ' τs' H' → SI K B ρ' σ' τs' H') : BOk K mg g B' τs :=
  ⟨b.low, fun x C ρ' σ' H' ex hm s q => b.wok x C ρ' σ' H' ex hm (h _ _ _ _ s) q, fun p k => b.pin p (by rw [← hp]; exact k)⟩
end
/-! ### the judgements -/
section
variable (X : Cx) (g : Gm)
def Dt (te : TE) (t : DT) : Prop := ∀ (B : Base) (ρ : Rho) (σ : L2.St) (τs : List (V × C)) (H : Hp) (Q : VK) (Q' : C → Rho → Prop), BOk X.K X.mg g B τs → SI X.K B ρ σ τs H →
  (∀ c ρ' v H', SI X.K B ρ' σ ((v, c) :: τs) H' → BOk X.K X.mg g B ((v, c) :: τs) → Q' c ρ' → Q v H') → t ρ Q' → te σ H Q
def DtT (tt : TT) (t : DTT) : Prop := ∀ (B : Base) (ρ : Rho) (σ : L2.St) (τs : List (V × C)) (H : Hp) (Q : Bool → Hp → Prop) (Q' : Bool → Rho → Prop), BOk X.K X.mg g B τs → SI X.K B ρ σ τs H →
  (∀ b ρ' H', SI X.K B ρ' σ τs H' → Q' b ρ' → Q b H') → t ρ Q' → tt σ H Q
def DtA (ta : TA) (t : DTA) : Prop := ∀ (B : Base) (ρ : Rho) (σ : L2.St) (τs : List (V × C)) (H : Hp) (Q : List V → Hp → Prop) (Q' : List C → Rho → Prop), BOk X.K X.mg g B τs → SI X.K B ρ σ τs H →
  (∀ cs ρ' vs H', vs.length = cs.length → SI X.K B ρ' σ (vs.zip cs ++ τs) H' → BOk X.K X.mg g B (vs.zip cs ++ τs) → Q' cs ρ' → Q vs H') → t ρ Q' → ta σ H Q
/-- a target; cb: within a comprehension -/
def DtG (cb : Bool) (tg : TG) (t : DTG) : Prop := ∀ (B : Base) (ρ : Rho) (σ : L2.St) (τs : List (V × C)) (H : Hp) (v : V) (x : T) (Q : L2.St → Hp → Prop) (Q' : Rho → Prop), BOk X.K X.mg g B τs → (cb = false → ∀ p ∈ τs, ∀ j, p.2 ≠ C.al j) → SI X.K B ρ σ ((v, .t x) :: τs) H →
  (∀ ρ' σ' H', SI X.K B ρ' σ' τs H' → Q' ρ' → Q σ' H') → t x ρ Q' → tg v σ H Q
structure EOk (B : Base) (D : Ends) (D' : DEnds) : Prop where
  nx : ∀ ρ σ H, SI X.K B ρ σ [] H → D'.nx ρ → D.nx σ H
  rt : ∀ x ρ σ v H, SI X.K B ρ σ [(v, .t x)] H → D'.rt x ρ → D.rt v H
  bk : ∀ ρ σ H, SI X.K B ρ σ [] H → D'.bk ρ → D.bk σ H
  ct : ∀ ρ σ H, SI X.K B ρ σ [] H → D'.ct ρ → D.ct σ H
def DtS (ts : TS) (t : DTS) : Prop := ∀ (B : Base) (ρ : Rho) (σ : L2.St) (H : Hp) (D : Ends) (D' : DEnds), BOk X.K X.mg g B [] → SI X.K B ρ σ [] H → EOk X B D D' → t D' ρ → ts D σ H
structure DE (e : Expr) (te : TE) (t : DT) : Prop where
  pe : PE X e te
  dt : Dt X g te t
structure DB (e : Expr) (tt : TT) (t : DTT) : Prop where
  pt : PT X e tt
  dt : DtT X g tt t
structure DA (es : List Expr) (ta : TA) (t : DTA) : Prop where
  pa : PA X es ta
  dt : DtA X g ta t
structure DG (cb : Bool) (e : Expr) (tg : TG) (t : DTG) : Prop where
  pg : PG X e tg
  dt : DtG X g cb tg t
structure DS (st : Stmt) (ts : TS) (t : DTS) : Prop where
  ps : PS X st ts
  dt : DtS X g ts t
structure DSs (st : List Stmt) (ts : TS) (t : DTS) : Prop where
  ps : PSs X st ts
  dt : DtS X g ts t
end
/-! ### data by its kind -/
def asI (o : Option PyData) (k : Int → Prop) : Prop := match o with
  | some (.int i) => k i
  | _ => False
def asB (o : Option PyData) (k : Bool → Prop) : Prop := match o with
  | some (.bool i) => k i
  | _ => False
def asS (o : Option PyData) (k : Str → Prop) : Prop := match o with
  | some (.str i) => k i
  | _ => False
def asL (o : Option PyData) (k : List PyData → Prop) : Prop := match o with
  | some (.list i) => k i
  | _ => False
def asU (o : Option PyData) (k : List PyData → Prop) : Prop := match o with
  | some (.tuple i) => k i
  | _ => False
def asD (o : Option PyData) (k : PyData → Prop) : Prop := match o with
  | some d => k d
  | none => False
theorem asI_iff {o : Option PyData} {k : Int → Prop} (h : asI o k) : ∃ i, o = some (.int i) ∧ k i := by
  unfold asI at h
  split at h
  · exact ⟨_, rfl, h⟩
  · exact h.elim
theorem asB_iff {o : Option PyData} {k : Bool → Prop} (h : asB o k) : ∃ i, o = some (.bool i) ∧ k i := by
  unfold asB at h
  split at h
  · exact ⟨_, rfl, h⟩
  · exact h.elim
theorem asS_iff {o : Option PyData} {k : Str → Prop} (h : asS o k) : ∃ i, o = some (.str i) ∧ k i := by
  unfold asS at h
  split at h
  · exact ⟨_, rfl, h⟩
  · exact h.elim
theorem asL_iff {o : Option PyData} {k : List PyData → Prop} (h : asL o k) : ∃ i, o = some (.list i) ∧ k i := by
  unfold asL at h
  split at h
  · exact ⟨_, rfl, h⟩
  · exact h.elim
theorem asU_iff {o : Option PyData} {k : List PyData → Prop} (h : asU o k) : ∃ i, o = some (.tuple i) ∧ k i := by
  unfold asU at h
  split at h
  · exact ⟨_, rfl, h⟩
  · exact h.elim
theorem asD_iff {o : Option PyData} {k : PyData → Prop} (h : asD o k) : ∃ i, o = some i ∧ k i := by
  unfold asD at h
  split at h
  · exact ⟨_, rfl, h⟩
  · exact h.elim
section
variable {K : PySem.W.Frag} {G H : Hp} {v : V}
theorem Rp.intV {i : Int} (r : Rp K G v (.int i)) : v = .int i := by
  cases r
  rfl
theorem Rp.boolV {i : Bool} (r : Rp K G v (.bool i)) : v = .bl i := by
  cases r
  rfl
theorem Rp.strV {i : Str} (r : Rp K G v (.str i)) : v = .str i := by
  cases r
  rfl
theorem Rp.noneV (r : Rp K G v .none) : v = .non := by
  cases r
  rfl
theorem Rp.listV {ds : List PyData} (r : Rp K G v (.list ds)) : ∃ a vs, v = .ref a ∧ SqL K G a vs ∧ RpL K G vs ds := by
  cases r with
  | lst s q => exact ⟨_, _, rfl, s.sq, q⟩
theorem Rp.tupV {ds : List PyData} (r : Rp K G v (.tuple ds)) : ∃ a vs, v = .ref a ∧ SqT K G a vs ∧ RpL K G vs ds := by
  cases r with
  | tup s q => exact ⟨_, _, rfl, s.t, q⟩
end
section
variable {X : Cx} {g : Gm}
/-! ### names, constants -/
def dName (j : Nat) : DT := fun ρ Q => match ρ[j]? with
  | some (some _) => Q (.al j) ρ
  | _ => False
theorem de_name (j : Nat) {x : Str} {pos : Pos} (hj : j < g.n0 := by first | (dsimp only; decide) | decide) (hN : X.N[j]? = some x := by rfl) (hv : Vis X.env.scope x := by first | exact Or.inl rfl | exact Or.inr (Or.inl rfl) | exact Or.inr (Or.inr rfl))
    (hd : (x == ("__debug__" : Str)) = false := by decide) (hcd : (x == ("__classdict__" : Str)) = false := by decide) : DE X g (.Name x pos) (tVar j) (dName j) :=
  ⟨pv j hN hv hd hcd, fun B ρ σ τs H Q Q' b s k h => by
    unfold dName at h
    split at h
    · rename_i t e
      obtain ⟨v, hv, _⟩ := s.slot e
      exact ⟨v, hv, k _ _ _ _ (s.pushAl hv) (b.cons fun i q => by cases q; exact hj) h⟩
    · exact h.elim⟩
/-- a slot that holds known data, its value -/
def dLeaf (j : Nat) : DT := fun ρ Q => match ρ[j]? with
  | some (some (.d x)) => Q (.t (.d x)) ρ
  | _ => False
theorem de_leaf (j : Nat) {x : Str} {pos : Pos} (hN : X.N[j]? = some x := by rfl) (hv : Vis X.env.scope x := by first | exact Or.inl rfl | exact Or.inr (Or.inl rfl) | exact Or.inr (Or.inr rfl))
    (hd : (x == ("__debug__" : Str)) = false := by decide) (hcd : (x == ("__classdict__" : Str)) = false := by decide) : DE X g (.Name x pos) (tVar j) (dLeaf j) :=
  ⟨pv j hN hv hd hcd, fun B ρ σ τs H Q Q' b s k h => by
    unfold dLeaf at h
    split at h
    · rename_i x e
      obtain ⟨v, hv, _⟩ := s.slot e
      refine ⟨v, hv, k _ _ _ _ ?_ (b.cons fun i q => by cases q) h⟩
      obtain ⟨G, fs, ft, c⟩ := s
      obtain ⟨v', f, h1, h2, h3⟩ := c.slot e
      rw [hv] at h1
      cases h1
      cases h2 with
      | d r => exact ⟨G, fs, [] ++ ft, { c with temps := .t (.d r) c.temps }⟩
    · exact h.elim⟩
def dC (x : PyData) : DT := fun ρ Q => Q (.t (.d x)) ρ
theorem dt_c {v : V} {x : PyData} (r : ∀ K G, Rp K G v x) : Dt X g (tC v) (dC x) := fun B ρ σ τs H Q Q' b s k h => k _ _ _ _ (s.push fun G _ _ => r _ G) (b.cons fun i q => by cases q) h
theorem de_int {i : Int} {j pos} : DE X g (.Constant (.int i) j pos) (tC (.int i)) (dC (.int i)) := ⟨pe_int, dt_c fun _ _ => .int i⟩
theorem de_bl {i : Bool} {j pos} : DE X g (.Constant (.bool i) j pos) (tC (.bl i)) (dC (.bool i)) := ⟨pe_bl, dt_c fun _ _ => .bl i⟩
theorem de_str {i : Str} {j pos} : DE X g (.Constant (.str i) j pos) (tC (.str i)) (dC (.str i)) := ⟨pe_str, dt_c fun _ _ => .str i⟩
theorem de_non {j pos} : DE X g (.Constant .none j pos) (tC .non) (dC .none) := ⟨pe_non, dt_c fun _ _ => .non⟩
/-! ### operators -/
abbrev D2 := Option PyData → Option PyData → (T → Prop) → Prop
def DR2 (X : Cx) (g : Gm) (r : R2) (d : D2) : Prop := ∀ (B : Base) (ρ : Rho) (σ : L2.St) (τs : List (V × C)) (H : Hp) (x y : V) (cx cy : C) (Q : VK), BOk X.K X.mg g B τs → SI X.K B ρ σ ((y, cy) :: (x, cx) :: τs) H →
  d (dat ρ cx) (dat ρ cy) (fun t => ∀ v H', SI X.K B ρ σ ((v, .t t) :: τs) H' → Q v H') → r x y H Q
def dOp (d : D2) (ta tb : DT) : DT := fun ρ Q => ta ρ fun ca ρ1 => tb ρ1 fun cb ρ2 => d (dat ρ2 ca) (dat ρ2 cb) fun t => Q (.t t) ρ2
def D2m (d : D2) : Prop := ∀ a b (P P' : T → Prop), (∀ t, P t → P' t) → d a b P → d a b P'
theorem BOk.untail {K : PySem.W.Frag} {mg : Str → Option Value} {g : Gm} {B : Base} {τs : List (V × C)} (b : BOk K mg g B τs) {t : T} {u : V} : BOk K mg g B ((u, .t t) :: τs) := b.cons fun i q => by cases q
theorem dt_op {r : R2} {d : D2} {ta tb : TE} {da db : DT} (hd : DR2 X g r d) (hm : D2m d) (ha : Dt X g ta da) (hb : Dt X g tb db) : Dt X g (tOp r ta tb) (dOp d da db) := fun B ρ σ τs H Q Q' b s k h => by
  refine ha B ρ σ τs H _ _ b s (fun ca ρ1 x H1 s1 b1 q1 => ?_) h
  refine hb B ρ1 σ _ H1 _ _ b1 s1 (fun cb ρ2 y H2 s2 b2 q2 => ?_) q1
  exact hd B ρ2 σ τs H2 x y ca cb Q b s2 (hm _ _ _ _ (fun t q v H' s' => k _ _ v H' s' b.untail q) q2)
/-- of two ints -/
def gI (pre : Int → Int → Prop) (f : Int → Int → PyData) : D2 := fun a b k => asI a fun i => asI b fun j => pre i j ∧ k (.d (f i j))
theorem gI_m {pre : Int → Int → Prop} {f : Int → Int → PyData} : D2m (gI pre f) := fun a b P P' hp h => by
  obtain ⟨i, rfl, h0⟩ := asI_iff h
  obtain ⟨j, rfl, h1, h2⟩ := asI_iff h0
  exact ⟨h1, hp _ h2⟩
theorem SI.two {K : PySem.W.Frag} {B : Base} {ρ : Rho} {σ : L2.St} {τs : List (V × C)} {H : Hp} {x y : V} {cx cy : C} (s : SI K B ρ σ ((y, cy) :: (x, cx) :: τs) H) {dx dy : PyData} (e1 : dat ρ cx = some dx) (e2 : dat ρ cy = some dy) : Rp K H x dx ∧ Rp K H y dy :=
  ⟨s.pop.rp e1, s.rp e2⟩
theorem dr_I {pre : Int → Int → Prop} {f : Int → Int → PyData} {gv : Int → Int → V} (hv : ∀ K G i j, Rp K G (gv i j) (f i j)) : DR2 X g (rI pre gv) (gI pre f) := fun B ρ σ τs H x y cx cy Q b s h => by
  obtain ⟨i, e1, h⟩ := asI_iff h
  obtain ⟨j, e2, h1, h2⟩ := asI_iff h
  obtain ⟨r1, r2⟩ := s.two e1 e2
  exact ⟨i, j, r1.intV, r2.intV, h1, h2 _ _ (s.pop.pop.push fun G _ _ => hv _ G i j)⟩
theorem dr_I0 {f : Int → Int → PyData} {gv : Int → Int → V} (hv : ∀ K G i j, Rp K G (gv i j) (f i j)) : DR2 X g (rI0 gv) (gI (fun _ _ => True) f) := fun B ρ σ τs H x y cx cy Q b s h => by
  obtain ⟨i, e1, h⟩ := asI_iff h
  obtain ⟨j, e2, h1, h2⟩ := asI_iff h
  obtain ⟨r1, r2⟩ := s.two e1 e2
  exact ⟨i, j, r1.intV, r2.intV, h2 _ _ (s.pop.pop.push fun G _ _ => hv _ G i j)⟩
variable {a b c : Expr} {pos : Pos} {ta tb tc : TE} {da db dc : DT}
theorem de_op {op : Operator} {r : R2} {d : D2} (ho : OpR X (binaryOp op) r) (hd : DR2 X g r d) (hm : D2m d) (ha : DE X g a ta da) (hb : DE X g b tb db) : DE X g (.BinOp a op b pos) (tOp r ta tb) (dOp d da db) := ⟨pe_op ho ha.pe hb.pe, dt_op hd hm ha.dt hb.dt⟩
def iAdd : D2 := gI (fun _ _ => True) fun i j => .int (i + j)
def iSub : D2 := gI (fun _ _ => True) fun i j => .int (i - j)
def iMul : D2 := gI CMul fun i j => .int (i * j)
def iMod : D2 := gI (fun _ j => 0 < j) fun i j => .int (i % j)
def iDiv : D2 := gI CDiv fun i j => .int (i / j)
theorem de_add (ha : DE X g a ta da) (hb : DE X g b tb db) : DE X g (.BinOp a .Add b pos) (tOp (rI0 fun i j => .int (i + j)) ta tb) (dOp iAdd da db) := de_op op_add (dr_I0 fun _ _ _ _ => .int _) gI_m ha hb
theorem de_sub (ha : DE X g a ta da) (hb : DE X g b tb db) : DE X g (.BinOp a .Sub b pos) (tOp (rI0 fun i j => .int (i - j)) ta tb) (dOp iSub da db) := de_op op_sub (dr_I0 fun _ _ _ _ => .int _) gI_m ha hb
theorem de_mul (ha : DE X g a ta da) (hb : DE X g b tb db) : DE X g (.BinOp a .Mult b pos) (tOp (rI CMul fun i j => .int (i * j)) ta tb) (dOp iMul da db) := de_op op_mul (dr_I fun _ _ _ _ => .int _) gI_m ha hb
theorem de_mod (ha : DE X g a ta da) (hb : DE X g b tb db) : DE X g (.BinOp a .Mod b pos) (tOp (rI (fun _ j => 0 < j) fun i j => .int (i % j)) ta tb) (dOp iMod da db) := de_op op_mod (dr_I fun _ _ _ _ => .int _) gI_m ha hb
theorem de_div (ha : DE X g a ta da) (hb : DE X g b tb db) : DE X g (.BinOp a .FloorDiv b pos) (tOp (rI CDiv fun i j => .int (i / j)) ta tb) (dOp iDiv da db) := de_op op_fdiv (dr_I fun _ _ _ _ => .int _) gI_m ha hb
/-! ### comparisons -/
def iLt : D2 := gI (fun _ _ => True) fun i j => .bool (decide (i < j))
def iLe : D2 := gI (fun _ _ => True) fun i j => .bool (decide (i ≤ j))
def iGt : D2 := gI (fun _ _ => True) fun i j => .bool (decide (j < i))
def iGe : D2 := gI (fun _ _ => True) fun i j => .bool (decide (j ≤ i))
/-- == of any data without dicts -/
def cmpOk (x y : PyData) : Prop := x.canLay0 = true ∧ y.canLay0 = true ∧ min x.depth y.depth ≤ 64
def gEq : D2 := fun a b k => asD a fun x => asD b fun y => cmpOk x y ∧ k (.d (.bool (PyData.eqv x y)))
def gNe : D2 := fun a b k => asD a fun x => asD b fun y => cmpOk x y ∧ k (.d (.bool (!PyData.eqv x y)))
theorem gEq_m : D2m gEq := fun a b P P' hp h => by
  obtain ⟨i, rfl, h0⟩ := asD_iff h
  obtain ⟨j, rfl, h1, h2⟩ := asD_iff h0
  exact ⟨h1, hp _ h2⟩
theorem gNe_m : D2m gNe := fun a b P P' hp h => by
  obtain ⟨i, rfl, h0⟩ := asD_iff h
  obtain ⟨j, rfl, h1, h2⟩ := asD_iff h0
  exact ⟨h1, hp _ h2⟩
end
section
variable {K : PySem.W.Frag} {H : Hp}
mutual
theorem Rp.dp : ∀ {v : V} {d : PyData}, Rp K H v d → d.canLay0 = true → Dp K H v d
  | _, _, .non, _ => .non
  | _, _, .bl b, _ => .bl b
  | _, _, .int i, _ => .int i
  | _, _, .str x, _ => .str x
  | _, _, .lst s r, e => .lst s.sq (RpL.dp r (by simpa [PyData.canLay0] using e))
  | _, _, .tup s r, e => .tup s.t (RpL.dp r (by simpa [PyData.canLay0] using e))
  | _, _, .dk s r, e => by simp [PyData.canLay0] at e
  | _, _, .dt s r, e => by simp [PyData.canLay0] at e
  | _, _, .exc s r, e => by simp [PyData.canLay0, excD] at e
theorem RpL.dp : ∀ {vs : List V} {ds : List PyData}, RpL K H vs ds → PyData.canLayAll0 ds = true → DpAll K H vs ds
  | _, _, .nil, _ => .nil
  | _, _, .cons h t, e => by
    rw [PyData.canLayAll0, Bool.and_eq_true] at e
    exact .cons (Rp.dp h e.1) (RpL.dp t e.2)
end
end
section
variable {X : Cx} {g : Gm}
def rEqC (K : PySem.W.Frag) : R2 := fun x y H Q => ∃ d e, Dp K H x d ∧ Dp K H y e ∧ cmpOk d e ∧ Q (.bl (PyData.eqv d e)) H
def rNeC (K : PySem.W.Frag) : R2 := fun x y H Q => ∃ d e, Dp K H x d ∧ Dp K H y e ∧ cmpOk d e ∧ Q (.bl (!PyData.eqv d e)) H
theorem op_eqC (hu : X.A.units + 64 < cLine) : OpR X (compareOp .Eq) (rEqC X.K) := by
  intro pins s σ H x y v u Q I rx ry h
  obtain ⟨d, e, hd, he, ⟨c1, c2, c3⟩, q⟩ := h
  obtain ⟨as, r1⟩ := Dp.reads I d x v hd rx
  obtain ⟨bs, r2⟩ := Dp.reads I e y u he ry
  exact SeqAt.compareEq_reads r1 r2 c1 c2 (by omega) ⟨.bl _, H, I, rfl, q⟩
theorem op_neC (hu : X.A.units + 64 < cLine) : OpR X (compareOp .NotEq) (rNeC X.K) := by
  intro pins s σ H x y v u Q I rx ry h
  obtain ⟨d, e, hd, he, ⟨c1, c2, c3⟩, q⟩ := h
  obtain ⟨as, r1⟩ := Dp.reads I d x v hd rx
  obtain ⟨bs, r2⟩ := Dp.reads I e y u he ry
  exact SeqAt.compareNe_reads r1 r2 c1 c2 (by omega) ⟨.bl _, H, I, rfl, q⟩
theorem dr_eq : DR2 X g (rEqC X.K) gEq := fun B ρ σ τs H x y cx cy Q b s h => by
  obtain ⟨i, e1, h⟩ := asD_iff h
  obtain ⟨j, e2, h1, h2⟩ := asD_iff h
  obtain ⟨r1, r2⟩ := s.two e1 e2
  exact ⟨i, j, r1.dp h1.1, r2.dp h1.2.1, h1, h2 _ _ (s.pop.pop.push fun G _ _ => .bl _)⟩
theorem dr_ne : DR2 X g (rNeC X.K) gNe := fun B ρ σ τs H x y cx cy Q b s h => by
  obtain ⟨i, e1, h⟩ := asD_iff h
  obtain ⟨j, e2, h1, h2⟩ := asD_iff h
  obtain ⟨r1, r2⟩ := s.two e1 e2
  exact ⟨i, j, r1.dp h1.1, r2.dp h1.2.1, h1, h2 _ _ (s.pop.pop.push fun G _ _ => .bl _)⟩
/-- a comparison's rule: what is asked of the text's operator -/
structure DCmp (X : Cx) (g : Gm) (op : CmpOp) (r : R2) (d : D2) : Prop where
  op : OpR X (compareOp op) r
  dr : DR2 X g r d
  mo : D2m d
theorem dc_lt : DCmp X g .Lt (rI0 fun i j => .bl (decide (i < j))) iLt := ⟨op_lt, dr_I0 fun _ _ _ _ => .bl _, gI_m⟩
theorem dc_le : DCmp X g .LtE (rI0 fun i j => .bl (decide (i ≤ j))) iLe := ⟨op_le, dr_I0 fun _ _ _ _ => .bl _, gI_m⟩
theorem dc_gt : DCmp X g .Gt (rI0 fun i j => .bl (decide (j < i))) iGt := ⟨op_gt, dr_I0 fun _ _ _ _ => .bl _, gI_m⟩
theorem dc_ge : DCmp X g .GtE (rI0 fun i j => .bl (decide (j ≤ i))) iGe := ⟨op_ge, dr_I0 fun _ _ _ _ => .bl _, gI_m⟩
theorem dc_eq (hu : X.A.units + 64 < cLine) : DCmp X g .Eq (rEqC X.K) gEq := ⟨op_eqC hu, dr_eq, gEq_m⟩
theorem dc_ne (hu : X.A.units + 64 < cLine) : DCmp X g .NotEq (rNeC X.K) gNe := ⟨op_neC hu, dr_ne, gNe_m⟩
/-- is None, is not None; is True, is False -/
def isNone : PyData → Bool
  | .none => true
  | _ => false
def asN (o : Option PyData) (k : Prop) : Prop := match o with
  | some .none => k
  | _ => False
theorem asN_iff {o : Option PyData} {k : Prop} (h : asN o k) : o = some .none ∧ k := by
  unfold asN at h
  split at h
  · exact ⟨rfl, h⟩
  · exact h.elim
def gIsN (neg : Bool) : D2 := fun a b k => asD a fun x => asN b (k (.d (.bool (if neg then !isNone x else isNone x))))
theorem gIsN_m {neg : Bool} : D2m (gIsN neg) := fun a b P P' hp h => by
  obtain ⟨i, rfl, h0⟩ := asD_iff h
  obtain ⟨rfl, h1⟩ := asN_iff h0
  exact hp _ h1
theorem Rp.isN {K : PySem.W.Frag} {G : Hp} {v : V} {x : PyData} (r : Rp K G v x) : decide (v = .non) = isNone x := by
  cases r <;> simp [isNone]
theorem dc_isN : DCmp X g .Is (fun x y H Q => y = .non ∧ Q (.bl (decide (x = .non))) H) (gIsN false) := ⟨op_isN, fun B ρ σ τs H x y cx cy Q b s h => by
  obtain ⟨i, e1, h0⟩ := asD_iff h
  obtain ⟨e2, h1⟩ := asN_iff h0
  obtain ⟨r1, r2⟩ := s.two e1 e2
  refine ⟨r2.noneV, ?_⟩
  rw [r1.isN]
  exact h1 _ _ (s.pop.pop.push fun G _ _ => .bl _), gIsN_m⟩
theorem dc_notN : DCmp X g .IsNot (fun x y H Q => y = .non ∧ Q (.bl (!decide (x = .non))) H) (gIsN true) := ⟨op_notN, fun B ρ σ τs H x y cx cy Q b s h => by
  obtain ⟨i, e1, h0⟩ := asD_iff h
  obtain ⟨e2, h1⟩ := asN_iff h0
  obtain ⟨r1, r2⟩ := s.two e1 e2
  refine ⟨r2.noneV, ?_⟩
  rw [r1.isN]
  exact h1 _ _ (s.pop.pop.push fun G _ _ => .bl _), gIsN_m⟩
def gIsB (neg : Bool) : D2 := fun a b k => asB a fun i => asB b fun j => k (.d (.bool (if neg then !decide (i = j) else decide (i = j))))
theorem gIsB_m {neg : Bool} : D2m (gIsB neg) := fun a b P P' hp h => by
  obtain ⟨i, rfl, h0⟩ := asB_iff h
  obtain ⟨j, rfl, h1⟩ := asB_iff h0
  exact hp _ h1
theorem dc_isB : DCmp X g .Is rIsB (gIsB false) := ⟨op_isBl, fun B ρ σ τs H x y cx cy Q b s h => by
  obtain ⟨i, e1, h⟩ := asB_iff h
  obtain ⟨j, e2, h⟩ := asB_iff h
  obtain ⟨r1, r2⟩ := s.two e1 e2
  exact ⟨i, j, r1.boolV, r2.boolV, h _ _ (s.pop.pop.push fun G _ _ => .bl _)⟩, gIsB_m⟩
theorem dc_notB : DCmp X g .IsNot rNotB (gIsB true) := ⟨op_notBl, fun B ρ σ τs H x y cx cy Q b s h => by
  obtain ⟨i, e1, h⟩ := asB_iff h
  obtain ⟨j, e2, h⟩ := asB_iff h
  obtain ⟨r1, r2⟩ := s.two e1 e2
  exact ⟨i, j, r1.boolV, r2.boolV, h _ _ (s.pop.pop.push fun G _ _ => .bl _)⟩, gIsB_m⟩
variable {a b c e : Expr} {pos : Pos} {ta tb tc te : TE} {da db dc d : DT}
theorem de_cmp {op : CmpOp} {r : R2} {d : D2} (o : DCmp X g op r d) (ha : DE X g a ta da) (hb : DE X g b tb db) (hm : behindInMarks op b = false) : DE X g (.Compare a [op] [b] pos) (tOp r ta tb) (dOp d da db) := ⟨pe_cmpR o.op ha.pe hb.pe hm, dt_op o.dr o.mo ha.dt hb.dt⟩
/-! ### tests -/
def dTst (t : DT) : DTT := fun ρ Q => t ρ fun c ρ1 => asB (dat ρ1 c) fun b => Q b ρ1
theorem dtt_of {te : TE} {t : DT} (h : Dt X g te t) : DtT X g (tTest te) (dTst t) := fun B ρ σ τs H Q Q' b s k h' => by
  refine h B ρ σ τs H _ _ b s (fun c ρ1 v H1 s1 b1 q1 => ?_) h'
  obtain ⟨i, e, q⟩ := asB_iff q1
  exact ⟨i, (s1.rp e).boolV, k _ _ _ s1.pop q⟩
theorem db_cmp {op : CmpOp} {r : R2} {d : D2} (o : DCmp X g op r d) (ha : DE X g a ta da) (hb : DE X g b tb db) (hm : behindInMarks op b = false) : DB X g (.Compare a [op] [b] pos) (tTest (tOp r ta tb)) (dTst (dOp d da db)) := ⟨pt_cmpR o.op ha.pe hb.pe hm, dtt_of (dt_op o.dr o.mo ha.dt hb.dt)⟩
theorem db_val (h : DE X g e te d) (he : ∀ whole, isTrue e X.env whole = (do let v ← whole; standAt e.pos; holding [v] (truthy v)) := by intro _; rfl) : DB X g e (tB te) (dTst d) := ⟨pt_val h.pe he, dtt_of h.dt⟩
variable {tA tB' : TT} {dA dB : DTT}
def dNot (t : DTT) : DTT := fun ρ Q => t ρ fun b ρ1 => Q (!b) ρ1
theorem db_not (h : DB X g a tA dA) : DB X g (.UnaryOp .Not a pos) (tNot tA) (dNot dA) := ⟨pt_not h.pt, fun B ρ σ τs H Q Q' b s k h' => h.dt B ρ σ τs H _ _ b s (fun b1 ρ1 H1 s1 q1 => k _ _ _ s1 q1) h'⟩
def dAnd (t u : DTT) : DTT := fun ρ Q => t ρ fun b ρ1 => if b = true then u ρ1 Q else Q false ρ1
def dOr (t u : DTT) : DTT := fun ρ Q => t ρ fun b ρ1 => if b = true then Q true ρ1 else u ρ1 Q
structure DW (X : Cx) (g : Gm) (e : Expr) (tt : TT) (t : DTT) : Prop where
  pw : PW X e tt
  dt : DtT X g tt t
theorem dw_and1 (h : DB X g a tA dA) : DW X g (.BoolOp .And [a] pos) tA dA := ⟨pw_and1 h.pt, h.dt⟩
theorem dw_or1 (h : DB X g a tA dA) : DW X g (.BoolOp .Or [a] pos) tA dA := ⟨pw_or1 h.pt, h.dt⟩
theorem dw_and {rest : List Expr} (h : DB X g a tA dA) (k : DW X g (.BoolOp .And (b :: rest) pos) tB' dB) : DW X g (.BoolOp .And (a :: b :: rest) pos) (tAnd tA tB') (dAnd dA dB) := ⟨pw_and h.pt k.pw, fun B ρ σ τs H Q Q' b s kk h' => by
  refine h.dt B ρ σ τs H _ _ b s (fun b1 ρ1 H1 s1 q1 => ?_) h'
  cases b1 with
  | true => exact k.dt B ρ1 σ τs H1 _ _ b s1 kk q1
  | false => exact kk _ _ _ s1 q1⟩
theorem dw_or {rest : List Expr} (h : DB X g a tA dA) (k : DW X g (.BoolOp .Or (b :: rest) pos) tB' dB) : DW X g (.BoolOp .Or (a :: b :: rest) pos) (tOr tA tB') (dOr dA dB) := ⟨pw_or h.pt k.pw, fun B ρ σ τs H Q Q' b s kk h' => by
  refine h.dt B ρ σ τs H _ _ b s (fun b1 ρ1 H1 s1 q1 => ?_) h'
  cases b1 with
  | true => exact kk _ _ _ s1 q1
  | false => exact k.dt B ρ1 σ τs H1 _ _ b s1 kk q1⟩
theorem DW.test (h : DW X g e tA dA) : DB X g e tA dA := ⟨h.pw.pt, h.dt⟩
/-! ### the same as values -/
def dNotV (t : DT) : DT := fun ρ Q => t ρ fun c ρ1 => asB (dat ρ1 c) fun b => Q (.t (.d (.bool (!b)))) ρ1
theorem de_not (h : DE X g a ta da) : DE X g (.UnaryOp .Not a pos) (tNotV ta) (dNotV da) := ⟨pe_not h.pe, fun B ρ σ τs H Q Q' b s k h' => by
  refine h.dt B ρ σ τs H _ _ b s (fun c ρ1 v H1 s1 b1 q1 => ?_) h'
  obtain ⟨i, e, q⟩ := asB_iff q1
  exact ⟨i, (s1.rp e).boolV, k _ _ _ _ (s1.pop.push fun G _ _ => .bl _) b.untail q⟩⟩
def dAndV (t u : DT) : DT := fun ρ Q => t ρ fun c ρ1 => asB (dat ρ1 c) fun b => if b = true then u ρ1 Q else Q (.t (.d (.bool false))) ρ1
def dOrV (t u : DT) : DT := fun ρ Q => t ρ fun c ρ1 => asB (dat ρ1 c) fun b => if b = true then Q (.t (.d (.bool true))) ρ1 else u ρ1 Q
theorem de_one {op} (h : DE X g a ta da) : DE X g (.BoolOp op [a] pos) ta da := ⟨pe_one h.pe, h.dt⟩
theorem de_and {rest : List Expr} (h : DE X g a ta da) (k : DE X g (.BoolOp .And (b :: rest) pos) tb db) : DE X g (.BoolOp .And (a :: b :: rest) pos) (tAndV ta tb) (dAndV da db) := ⟨pe_and h.pe k.pe, fun B ρ σ τs H Q Q' b s kk h' => by
  refine h.dt B ρ σ τs H _ _ b s (fun c ρ1 v H1 s1 b1 q1 => ?_) h'
  obtain ⟨i, e, q⟩ := asB_iff q1
  refine ⟨i, (s1.rp e).boolV, ?_⟩
  cases i with
  | true => exact k.dt B ρ1 σ τs H1 _ _ b s1.pop kk q
  | false => exact kk _ _ _ _ (s1.pop.push fun G _ _ => .bl _) b.untail q⟩
theorem de_or {rest : List Expr} (h : DE X g a ta da) (k : DE X g (.BoolOp .Or (b :: rest) pos) tb db) : DE X g (.BoolOp .Or (a :: b :: rest) pos) (tOrV ta tb) (dOrV da db) := ⟨pe_or h.pe k.pe, fun B ρ σ τs H Q Q' b s kk h' => by
  refine h.dt B ρ σ τs H _ _ b s (fun c ρ1 v H1 s1 b1 q1 => ?_) h'
  obtain ⟨i, e, q⟩ := asB_iff q1
  refine ⟨i, (s1.rp e).boolV, ?_⟩
  cases i with
  | true => exact kk _ _ _ _ (s1.pop.push fun G _ _ => .bl _) b.untail q
  | false => exact k.dt B ρ1 σ τs H1 _ _ b s1.pop kk q⟩
def dIf (t : DTT) (u w : DT) : DT := fun ρ Q => t ρ fun b ρ1 => if b = true then u ρ1 Q else w ρ1 Q
theorem de_if (h : DB X g c tA dA) (h1 : DE X g a ta da) (h2 : DE X g b tb db) : DE X g (.IfExp c a b pos) (tIf tA ta tb) (dIf dA da db) := ⟨pe_ifExp h.pt h1.pe h2.pe, fun B ρ σ τs H Q Q' bo s k h' => by
  refine h.dt B ρ σ τs H _ _ bo s (fun b1 ρ1 H1 s1 q1 => ?_) h'
  cases b1 with
  | true => exact h1.dt B ρ1 σ τs H1 _ _ bo s1 k q1
  | false => exact h2.dt B ρ1 σ τs H1 _ _ bo s1 k q1⟩
/-! ### several expressions -/
def dNil : DTA := fun ρ Q => Q [] ρ
def dCons (t : DT) (r : DTA) : DTA := fun ρ Q => t ρ fun c ρ1 => r ρ1 fun cs ρ2 => Q (c :: cs) ρ2
theorem da_nil : DA X g [] tNil dNil := ⟨pa_nil, fun B ρ σ τs H Q Q' b s k h => k [] ρ [] H rfl s b h⟩
theorem da_cons {es : List Expr} {t : TA} {dr : DTA} (h : DE X g e te d) (r : DA X g es t dr) (hs : starEach (e :: es) X.env = (false, eval e X.env) :: starEach es X.env := by rfl) : DA X g (e :: es) (tCons te t) (dCons d dr) :=
  ⟨pa_cons h.pe r.pa hs, fun B ρ σ τs H Q Q' b s k h' => by
    refine h.dt B ρ σ τs H _ _ b s (fun c ρ1 v H1 s1 b1 q1 => ?_) h'
    refine r.dt B ρ1 σ _ H1 _ _ b1 s1 (fun cs ρ2 vs H2 hl s2 b2 q2 => ?_) q1
    have pm : List.Perm (vs.zip cs ++ (v, c) :: τs) ((v :: vs).zip (c :: cs) ++ τs) := List.perm_middle
    refine k (c :: cs) ρ2 (v :: vs) H2 (by simpa using hl) (s2.perm pm) ⟨fun p hp => b2.low p (pm.mem_iff.mpr hp), fun x C ρ' σ' H' ex hm s' q => b2.wok x C ρ' σ' H' ex hm (s'.perm (List.Perm.append_left ex pm.symm)) q, b2.pin⟩ q2⟩
end
end Dl
set_option Elab.async false
set_option linter.all false
set_option maxRecDepth 100000
set_option maxHeartbeats 4000000
/-! Dl, sixth part: who owns what is handed; targets; statements; loops. -/
namespace Dl
open PySem L2
/-- as data of one's own: what a slot holds is frozen -/
def own (ρ : Rho) (c : C) (k : T → Rho → Prop) : Prop := match c with
  | .t x => k x ρ
  | .al j => match ρ[j]? with
    | some (some t) => k (.d t.data) (ρ.set j (some (.d t.data)))
    | _ => False
/-- as data of one's own: the slot is emptied -/
def mov (ρ : Rho) (c : C) (k : T → Rho → Prop) : Prop := match c with
  | .t x => k x ρ
  | .al j => match ρ[j]? with
    | some (some t) => k t (ρ.set j none)
    | _ => False
/-- as known data -/
def frz (ρ : Rho) (c : C) (k : PyData → Rho → Prop) : Prop := own ρ c fun x ρ' => k x.data ρ'
section
variable {K : PySem.W.Frag} {B : Base} {ρ : Rho} {σ : L2.St} {τs : List (V × C)} {H : Hp} {v : V} {c : C}
theorem SI.own {k : T → Rho → Prop} (s : SI K B ρ σ ((v, c) :: τs) H) (h : Dl.own ρ c k) : ∃ x ρ', k x ρ' ∧ SI K B ρ' σ ((v, .t x) :: τs) H := by
  cases c with
  | t x => exact ⟨x, ρ, h, s⟩
  | al j =>
    unfold Dl.own at h
    simp only at h
    split at h
    · rename_i t e
      exact ⟨_, _, h, s.frzAl e⟩
    · exact h.elim
theorem SI.mov {k : T → Rho → Prop} (s : SI K B ρ σ ((v, c) :: τs) H) (h : Dl.mov ρ c k) : ∃ x ρ', k x ρ' ∧ SI K B ρ' σ ((v, .t x) :: τs) H := by
  cases c with
  | t x => exact ⟨x, ρ, h, s⟩
  | al j =>
    unfold Dl.mov at h
    simp only at h
    split at h
    · rename_i t e
      exact ⟨_, _, h, s.take e⟩
    · exact h.elim
theorem SI.frzd {k : PyData → Rho → Prop} (s : SI K B ρ σ ((v, c) :: τs) H) (h : Dl.frz ρ c k) : ∃ x ρ', k x ρ' ∧ SI K B ρ' σ ((v, .t (.d x)) :: τs) H := by
  obtain ⟨x, ρ', h1, h2⟩ := s.own h
  exact ⟨_, _, h1, h2.frz⟩
theorem SI.pushG {x : PyData} (s : SI K B ρ σ τs H) (r : Rp K B.G0 v x) : SI K B ρ σ ((v, .t (.d x)) :: τs) H := by
  obtain ⟨G, fs, ft, c⟩ := s
  exact ⟨G, fs, [] ++ ft, { c with temps := .t (.d (r.mono c.g0.er)) c.temps }⟩
theorem SI.ex0 (s : SI K B ρ σ τs H) : Ex B.G0 H := by
  obtain ⟨G, fs, ft, c⟩ := s
  exact c.g0.trans c.gh
end
section
variable {X : Cx} {g : Gm} {e : Expr} {te : TE} {d : DT}
def dOwn (t : DT) : DT := fun ρ Q => t ρ fun c ρ1 => own ρ1 c fun x ρ2 => Q (.t x) ρ2
def dMov (t : DT) : DT := fun ρ Q => t ρ fun c ρ1 => mov ρ1 c fun x ρ2 => Q (.t x) ρ2
def dFrz (t : DT) : DT := fun ρ Q => t ρ fun c ρ1 => frz ρ1 c fun x ρ2 => Q (.t (.d x)) ρ2
theorem de_own (h : DE X g e te d) : DE X g e te (dOwn d) := ⟨h.pe, fun B ρ σ τs H Q Q' b s k h' => by
  refine h.dt B ρ σ τs H _ _ b s (fun c ρ1 v H1 s1 b1 q1 => ?_) h'
  obtain ⟨x, ρ2, q2, s2⟩ := s1.own q1
  exact k _ _ _ _ s2 b.untail q2⟩
theorem de_mov (h : DE X g e te d) : DE X g e te (dMov d) := ⟨h.pe, fun B ρ σ τs H Q Q' b s k h' => by
  refine h.dt B ρ σ τs H _ _ b s (fun c ρ1 v H1 s1 b1 q1 => ?_) h'
  obtain ⟨x, ρ2, q2, s2⟩ := s1.mov q1
  exact k _ _ _ _ s2 b.untail q2⟩
theorem de_frz (h : DE X g e te d) : DE X g e te (dFrz d) := ⟨h.pe, fun B ρ σ τs H Q Q' b s k h' => by
  refine h.dt B ρ σ τs H _ _ b s (fun c ρ1 v H1 s1 b1 q1 => ?_) h'
  obtain ⟨x, ρ2, q2, s2⟩ := s1.frzd q1
  exact k _ _ _ _ s2 b.untail q2⟩
/-! ### targets -/
def noAl (τs : List (V × C)) : Prop := ∀ p ∈ τs, ∀ j, p.2 ≠ C.al j
end
/-- a name; fz: what it holds is known data from now on -/
def gN (fz : Bool) (i : Nat) : DTG := fun x ρ Q => Q (ρ.set i (some (if fz then .d x.data else x)))
section
variable {X : Cx} {g : Gm}
theorem SI.set' {K : PySem.W.Frag} {B : Base} {ρ : Rho} {σ : L2.St} {τs : List (V × C)} {H : Hp} {v : V} {x : T} {i : Nat} (s : SI K B ρ σ ((v, .t x) :: τs) H) (na : ∀ p ∈ τs, p.2 ≠ C.al i) (np : ∀ p ∈ B.pin, p.1 ≠ i) : SI K B (ρ.set i (some x)) (σ.set i (some v)) τs H := by
  by_cases hi : i < ρ.length
  · exact s.set na hi np
  · have hl := s.len
    rw [List.set_eq_of_length_le (by omega), List.set_eq_of_length_le (by omega)]
    exact s.pop
theorem dg_name {cb : Bool} (i : Nat) (fz : Bool) {x : Str} {pos : Pos} (hN : X.N.Nodup) (hi : X.N[i]? = some x := by rfl) (hx : Loc X.env.scope x := by first | exact Or.inl rfl | exact Or.inr rfl)
    (hp : ¬ i ∈ g.pn := by first | (dsimp only; decide) | decide) (hc : cb = true → g.n0 ≤ i := by first | (dsimp only; decide) | decide) (hf : X.fn x = true ∨ X.env.scope.names.lookup x = some .local := by first | exact .inl rfl | exact .inr rfl | assumption) : DG X g cb (.Name x pos) (gName i) (gN fz i) :=
  ⟨pg_name hN hi hx hf, fun B ρ σ τs H v x Q Q' b hn s k h => by
    have na : ∀ p ∈ τs, p.2 ≠ C.al i := fun p hp e => by
      cases cb with
      | false => exact hn rfl p hp i e
      | true =>
        have := b.low p hp i e
        have := hc rfl
        omega
    have np : ∀ p ∈ B.pin, p.1 ≠ i := fun p q e => hp (by rw [← e]; exact b.pin p q)
    unfold gN at h
    cases fz with
    | true => exact k _ _ _ (s.frz.set' na np) h
    | false => exact k _ _ _ (s.set' na np) h⟩
abbrev DTGs := List T → Rho → (Rho → Prop) → Prop
def DtGs (X : Cx) (g : Gm) (cb : Bool) (tg : TGs) (t : DTGs) : Prop := ∀ (B : Base) (ρ : Rho) (σ : L2.St) (τs : List (V × C)) (H : Hp) (vs : List V) (ds : List T) (Q : L2.St → Hp → Prop) (Q' : Rho → Prop), BOk X.K X.mg g B τs → (cb = false → noAl τs) →
  SI X.K B ρ σ (tmp vs ds ++ τs) H → vs.length = ds.length → (∀ ρ' σ' H', SI X.K B ρ' σ' τs H' → Q' ρ' → Q σ' H') → t ds ρ Q' → tg vs σ H Q
structure DGs (X : Cx) (g : Gm) (cb : Bool) (es : List Expr) (tg : TGs) (t : DTGs) : Prop where
  pg : PGs X es tg
  dt : DtGs X g cb tg t
def gNil' : DTGs := fun ds ρ Q => ds = [] ∧ Q ρ
def gCons' (t : DTG) (u : DTGs) : DTGs := fun ds ρ Q => match ds with
  | x :: r => t x ρ fun ρ' => u r ρ' Q
  | [] => False
theorem dgs_nil {cb : Bool} : DGs X g cb [] gNil gNil' := ⟨pgs_nil, fun B ρ σ τs H vs ds Q Q' b hn s hl k h => by
  obtain ⟨rfl, h⟩ := h
  have e : vs = [] := List.eq_nil_of_length_eq_zero hl
  subst e
  exact ⟨rfl, k _ _ _ s h⟩⟩
theorem BOk.tmps {K : PySem.W.Frag} {mg : Str → Option Value} {g : Gm} {B : Base} {τs : List (V × C)} (b : BOk K mg g B τs) : ∀ (vs : List V) (ts : List T), BOk K mg g B (tmp vs ts ++ τs)
  | [], _ => by simpa [tmp] using b
  | _ :: _, [] => by simpa [tmp] using b
  | v :: vs, t :: ts => (BOk.tmps b vs ts).untail
theorem noAl.tmps {τs : List (V × C)} (h : noAl τs) : ∀ (vs : List V) (ts : List T), noAl (tmp vs ts ++ τs)
  | [], _ => by simpa [tmp] using h
  | _ :: _, [] => by simpa [tmp] using h
  | v :: vs, t :: ts => fun p hp j => by
    have hp' : p ∈ (v, C.t t) :: (tmp vs ts ++ τs) := hp
    rcases List.mem_cons.mp hp' with rfl | hp'
    · exact fun z => by cases z
    · exact noAl.tmps h vs ts p hp' j
theorem dgs_cons {cb : Bool} {e : Expr} {es : List Expr} {tg : TG} {tgs : TGs} {t : DTG} {u : DTGs} (h1 : DG X g cb e tg t) (h2 : DGs X g cb es tgs u)
    (hd : (assignEach (e :: es) X.env).map (·.2) = assign e X.env :: (assignEach es X.env).map (·.2) := by rfl) : DGs X g cb (e :: es) (gCons tg tgs) (gCons' t u) := ⟨pgs_cons h1.pg h2.pg hd, fun B ρ σ τs H vs ds Q Q' b hn s hl k h => by
  cases ds with
  | nil => exact h.elim
  | cons x r =>
    cases vs with
    | nil => simp at hl
    | cons v vr =>
      have s' : SI X.K B ρ σ ((v, .t x) :: (tmp vr r ++ τs)) H := s
      refine ⟨v, vr, rfl, ?_⟩
      refine h1.dt B ρ σ _ H v x _ _ (b.tmps vr _) (fun e => (hn e).tmps vr _) s' (fun ρ1 σ1 H1 s1 q1 => ?_) h
      exact h2.dt B ρ1 σ1 τs H1 vr r Q Q' b hn s1 (by simpa using hl) k q1⟩
/-- a tuple's items -/
def tupT : T → Option (List T)
  | .d (.tuple ds) => some (ds.map T.d)
  | .tu ts => some ts
  | _ => none
def gTup' (n : Nat) (t : DTGs) : DTG := fun x ρ Q => match tupT x with
  | some ts => ts.length = n ∧ t ts ρ Q
  | none => False
theorem SI.untup {K : PySem.W.Frag} {B : Base} {ρ : Rho} {σ : L2.St} {τs : List (V × C)} {H : Hp} {v : V} {ds : List PyData} (s : SI K B ρ σ ((v, .t (.d (.tuple ds))) :: τs) H) : ∃ a vs, v = .ref a ∧ SqT K H a vs ∧ vs.length = ds.length ∧ SI K B ρ σ (tmp vs (ds.map T.d) ++ τs) H := by
  obtain ⟨G, fs, ft, c⟩ := s
  cases c with
  | mk g0 gh h0 tup new slots temps nd own pin =>
  cases temps with
  | t o r =>
  cases o with
  | d q =>
  obtain ⟨a, vs, rfl, s1, s2⟩ := q.tupV
  exact ⟨a, vs, rfl, gh.er.t s1, s2.len, G, fs, [] ++ _, g0, gh, h0, tup, new, slots, OwnC.join (OwnL.of_d s2) r, nd, own, pin⟩
theorem SI.unlist {K : PySem.W.Frag} {B : Base} {ρ : Rho} {σ : L2.St} {τs : List (V × C)} {H : Hp} {v : V} {ds : List PyData} (s : SI K B ρ σ ((v, .t (.d (.list ds))) :: τs) H) : ∃ a vs, v = .ref a ∧ SqL K H a vs ∧ vs.length = ds.length ∧ SI K B ρ σ (tmp vs (ds.map T.d) ++ τs) H := by
  obtain ⟨G, fs, ft, c⟩ := s
  cases c with
  | mk g0 gh h0 tup new slots temps nd own pin =>
  cases temps with
  | t o r =>
  cases o with
  | d q =>
  obtain ⟨a, vs, rfl, s1, s2⟩ := q.listV
  exact ⟨a, vs, rfl, gh.er.l s1, s2.len, G, fs, [] ++ _, g0, gh, h0, tup, new, slots, OwnC.join (OwnL.of_d s2) r, nd, own, pin⟩
theorem SI.untupT {K : PySem.W.Frag} {B : Base} {ρ : Rho} {σ : L2.St} {τs : List (V × C)} {H : Hp} {v : V} {x : T} {ts : List T} (s : SI K B ρ σ ((v, .t x) :: τs) H) (e : tupT x = some ts) : ∃ a vs, v = .ref a ∧ SqT K H a vs ∧ vs.length = ts.length ∧ SI K B ρ σ (tmp vs ts ++ τs) H := by
  cases x with
  | d y =>
    cases y <;> simp [tupT] at e
    subst e
    obtain ⟨a, vs, h1, h2, h3, h4⟩ := s.untup
    exact ⟨a, vs, h1, h2, by simpa using h3, h4⟩
  | tu us =>
    simp [tupT] at e
    subst e
    obtain ⟨G, fs, ft, c⟩ := s
    cases c with
    | mk g0 gh h0 tup new slots temps nd own pin =>
    cases temps with
    | t o r =>
    cases o with
    | tu q o =>
    exact ⟨_, _, rfl, gh.er.t q.t, o.len, G, fs, _, g0, gh, h0, tup, new, slots, OwnC.join o r, nd, own, pin⟩
  | ls _ => cases e
  | dk _ => cases e
  | dt _ => cases e
theorem dg_tup {cb : Bool} {es : List Expr} {k : Nat} {pos : Pos} {tg : TGs} {t : DTGs} {n : Nat} (hc : X.calm = true) (h : DGs X g cb es tg t) (hn : (assignEach es X.env).length = n := by rfl) (hst : (assignEach es X.env).findIdx? (·.1) = none := by rfl) :
    DG X g cb (.Tuple es k pos) (gTup X.K n tg) (gTup' n t) := ⟨pg_tup hc h.pg hn hst, fun B ρ σ τs H v x Q Q' b hn' s k h' => by
  unfold gTup' at h'
  split at h'
  · rename_i ts e
    obtain ⟨hl, h'⟩ := h'
    obtain ⟨a, vs, rfl, h1, h2, h3⟩ := s.untupT e
    exact ⟨a, vs, rfl, h1, by omega, h.dt B ρ σ τs H vs ts Q Q' b hn' h3 h2 k h'⟩
  · exact h'.elim⟩
/-! ### plain statements -/
variable {e : Expr} {te : TE} {d : DT} {pos : Pos}
def dNext : DTS := fun D ρ => D.nx ρ
def dSeq (t u : DTS) : DTS := fun D ρ => t { D with nx := u D } ρ
theorem dss_nil : DSs X g [] tNext dNext := ⟨pss_nil, fun B ρ σ H D D' b s k h => k.nx _ _ _ s h⟩
theorem dss_cons {st : Stmt} {rest : List Stmt} {ts us : TS} {t u : DTS} (h1 : DS X g st ts t) (h2 : DSs X g rest us u) : DSs X g (st :: rest) (tSeq ts us) (dSeq t u) := ⟨pss_cons h1.ps h2.ps, fun B ρ σ H D D' b s k h =>
  h1.dt B ρ σ H _ { D' with nx := u D' } b s ⟨fun ρ' σ' H' s' q => h2.dt B ρ' σ' H' D D' b s' k q, k.rt, k.bk, k.ct⟩ h⟩
theorem dss_one {st : Stmt} {ts : TS} {t : DTS} (h : DS X g st ts t) : DSs X g [st] ts t := ⟨pss_one h.ps, h.dt⟩
theorem ds_pass : DS X g (.Pass pos) tNext dNext := ⟨ps_pass, fun B ρ σ H D D' b s k h => k.nx _ _ _ s h⟩
def dBreak : DTS := fun D ρ => D.bk ρ
def dCont : DTS := fun D ρ => D.ct ρ
theorem ds_break : DS X g (.Break pos) tBreak dBreak := ⟨ps_break, fun B ρ σ H D D' b s k h => k.bk _ _ _ s h⟩
theorem ds_continue : DS X g (.Continue pos) tCont dCont := ⟨ps_continue, fun B ρ σ H D D' b s k h => k.ct _ _ _ s h⟩
theorem ds_doc {x : Str} {j : Nat} {pos' : Pos} : DS X g (.Expr (.Constant (.str x) j pos) pos') tNext dNext := ⟨ps_doc, fun B ρ σ H D D' b s k h => k.nx _ _ _ s h⟩
def dDrop (t : DT) : DTS := fun D ρ => t ρ fun _ ρ1 => D.nx ρ1
theorem ds_expr (h : DE X g e te d) (hs : swapsWith e none pos.line X.env = pure false := by rfl) : DS X g (.Expr e pos) (tDrop te) (dDrop d) := ⟨ps_expr h.pe hs, fun B ρ σ H D D' b s k h' =>
  h.dt B ρ σ [] H _ _ b s (fun c ρ1 v H1 s1 b1 q1 => k.nx _ _ _ s1.pop q1) h'⟩
def dRet (t : DT) : DTS := fun D ρ => t ρ fun c ρ1 => mov ρ1 c D.rt
theorem ds_ret (h : DE X g e te d) : DS X g (.Return (some e) pos) (tRet te) (dRet d) := ⟨ps_ret h.pe, fun B ρ σ H D D' b s k h' =>
  h.dt B ρ σ [] H _ _ b s (fun c ρ1 v H1 s1 b1 q1 => by
    obtain ⟨x, ρ2, q2, s2⟩ := s1.mov q1
    exact k.rt _ _ _ _ _ s2 q2) h'⟩
def dRetN : DTS := fun D ρ => D.rt (.d .none) ρ
theorem ds_retN : DS X g (.Return none pos) tRetN dRetN := ⟨ps_retN, fun B ρ σ H D D' b s k h => k.rt _ _ _ _ _ (s.push fun G _ _ => .non) h⟩
def dIfS (c : DTT) (t u : DTS) : DTS := fun D ρ => c ρ fun b ρ1 => if b = true then t D ρ1 else u D ρ1
theorem ds_if {c : Expr} {a b : List Stmt} {tc : TT} {dc : DTT} {ts us : TS} {t u : DTS} (hc : DB X g c tc dc) (ha : DSs X g a ts t) (hb : DSs X g b us u) : DS X g (.If c a b pos) (tIfS tc ts us) (dIfS dc t u) := ⟨ps_if hc.pt ha.ps hb.ps, fun B ρ σ H D D' bo s k h =>
  hc.dt B ρ σ [] H _ _ bo s (fun b1 ρ1 H1 s1 q1 => by
    cases b1 with
    | true => exact ha.dt B ρ1 σ H1 D D' bo s1 k q1
    | false => exact hb.dt B ρ1 σ H1 D D' bo s1 k q1) h⟩
def dAsg (t : DT) (tg : DTG) : DTS := fun D ρ => t ρ fun c ρ1 => own ρ1 c fun x ρ2 => tg x ρ2 D.nx
theorem dts_asg {tg : TG} {dg : DTG} (h : Dt X g te d) (hg : DtG X g false tg dg) : DtS X g (tAsg te tg) (dAsg d dg) := fun B ρ σ H D D' b s k h' =>
  h B ρ σ [] H _ _ b s (fun c ρ1 v H1 s1 b1 q1 => by
    obtain ⟨x, ρ2, q2, s2⟩ := s1.own q1
    exact hg B ρ2 σ [] H1 v x _ _ b (fun _ p hp => by cases hp) s2 (fun ρ' σ' H' s' q' => k.nx _ _ _ s' q') q2) h'
theorem ds_asg {tg : Expr} {gt : TG} {dg : DTG} (h : DE X g e te d) (hg : DG X g false tg gt dg) (hs : swapsWithSole [tg] e pos.line X.env = pure false := by rfl) (hw : swappedStores [tg] e X.env = pure none := by rfl)
    (h1 : (assignEach [tg] X.env).map (·.2) = [assign tg X.env] := by rfl) : DS X g (.Assign [tg] e pos) (tAsg te gt) (dAsg d dg) := ⟨ps_asg h.pe hg.pg hs hw h1, dts_asg h.dt hg.dt⟩
end
/-! ### what is walked -/
structure Walks (K : PySem.W.Frag) (B : Base) (J : It) (ds : List PyData) : Prop where
  go : ∀ i d ρ σ τs H, ds[i]? = some d → SI K B ρ σ τs H → J.go i H
  yld : ∀ i d ρ σ τs H x H', ds[i]? = some d → SI K B ρ σ τs H → J.yld i H x H' → SI K B ρ σ ((x, .t (.d d)) :: τs) H'
  stop : ∀ ρ σ τs H, SI K B ρ σ τs H → J.stop ds.length H
abbrev DTI := Rho → (List PyData → Rho → Prop) → Prop
def DtI (X : Cx) (g : Gm) (wi : TI) (t : DTI) : Prop := ∀ (B : Base) (ρ : Rho) (σ : L2.St) (τs : List (V × C)) (H : Hp) (R : It → Hp → Prop) (R' : List PyData → Rho → Prop), BOk X.K X.mg g B τs → SI X.K B ρ σ τs H →
  (∀ ds ρ' J H' B', B'.pin = B.pin → SI X.K B' ρ' σ τs H' → (∀ ρ' σ' τs' H', SI X.K B' ρ' σ' τs' H' → SI X.K B ρ' σ' τs' H') → Walks X.K B' J ds → R' ds ρ' → R J H') → t ρ R' → wi σ H R
structure DI (X : Cx) (g : Gm) (tg iter : Expr) (wi : TI) (t : DTI) : Prop where
  pi : PI X tg iter wi
  dt : DtI X g wi t
section
variable {X : Cx} {g : Gm} {tg e : Expr} {te : TE} {d : DT} {pos : Pos}
def iL (t : DT) : DTI := fun ρ R => t ρ fun c ρ1 => frz ρ1 c fun x ρ2 => asL (some x) fun ds => R ds ρ2
theorem walks_list {K : PySem.W.Frag} {B : Base} {a : Addr} {vs : List V} {ds : List PyData} (h1 : SqL K B.G0 a vs) (h2 : RpL K B.G0 vs ds) : Walks K B (Itl K a) ds where
  go := fun i d ρ σ τs H hi s => by
    obtain ⟨v, hv, _⟩ := h2.get hi
    exact ⟨vs, v, s.ex0.er.l h1, hv⟩
  yld := fun i d ρ σ τs H x H' hi s y => by
    obtain ⟨rfl, y⟩ := y
    obtain ⟨v, hv, hr⟩ := h2.get hi
    have e := y vs (s.ex0.er.l h1)
    rw [hv] at e
    cases e
    exact s.pushG hr
  stop := fun ρ σ τs H s => ⟨vs, s.ex0.er.l h1, by rw [h2.len]; exact Nat.le_refl _⟩
theorem di_list (h : DE X g e te d) : DI X g tg e (iList X.K te) (iL d) := ⟨pi_list h.pe, fun B ρ σ τs H R R' b s k h' => by
  refine h.dt B ρ σ τs H _ _ b s (fun c ρ1 v H1 s1 b1 q1 => ?_) h'
  obtain ⟨x, ρ2, q2, s2⟩ := s1.frzd q1
  obtain ⟨ds, e, q3⟩ := asL_iff q2
  cases e
  obtain ⟨B', hp, s3, r3, x3, back⟩ := s2.ground
  obtain ⟨a, vs, rfl, h1, h2⟩ := r3.listV
  exact ⟨a, rfl, ⟨vs, s3.ex0.er.l h1⟩, k ds ρ2 _ H1 B' hp s3 (fun ρ' σ' τs' H' q => (back ρ' σ' τs' H' q).1) (walks_list h1 h2) q3⟩⟩
def iU (t : DT) : DTI := fun ρ R => t ρ fun c ρ1 => frz ρ1 c fun x ρ2 => asU (some x) fun ds => R ds ρ2
theorem walks_tup {K : PySem.W.Frag} {B : Base} {a : Addr} {vs : List V} {ds : List PyData} (h1 : SqT K B.G0 a vs) (h2 : RpL K B.G0 vs ds) : Walks K B (Itt K a) ds where
  go := fun i d ρ σ τs H hi s => by
    obtain ⟨v, hv, _⟩ := h2.get hi
    exact ⟨vs, v, s.ex0.er.t h1, hv⟩
  yld := fun i d ρ σ τs H x H' hi s y => by
    obtain ⟨rfl, y⟩ := y
    obtain ⟨v, hv, hr⟩ := h2.get hi
    have e := y vs (s.ex0.er.t h1)
    rw [hv] at e
    cases e
    exact s.pushG hr
  stop := fun ρ σ τs H s => ⟨vs, s.ex0.er.t h1, by rw [h2.len]; exact Nat.le_refl _⟩
theorem di_tup (h : DE X g e te d) : DI X g tg e (iTup X.K te) (iU d) := ⟨pi_tup h.pe, fun B ρ σ τs H R R' b s k h' => by
  refine h.dt B ρ σ τs H _ _ b s (fun c ρ1 v H1 s1 b1 q1 => ?_) h'
  obtain ⟨x, ρ2, q2, s2⟩ := s1.frzd q1
  obtain ⟨ds, e, q3⟩ := asU_iff q2
  cases e
  obtain ⟨B', hp, s3, r3, x3, back⟩ := s2.ground
  obtain ⟨a, vs, rfl, h1, h2⟩ := r3.tupV
  exact ⟨a, rfl, ⟨vs, s3.ex0.er.t h1⟩, k ds ρ2 _ H1 B' hp s3 (fun ρ' σ' τs' H' q => (back ρ' σ' τs' H' q).1) (walks_tup h1 h2) q3⟩⟩
/-- the upI from lo on, n of them -/
def upI (lo : Int) (n : Nat) : List PyData := (List.range n).map fun i => PyData.int (lo + (i : Nat))
theorem upI_get {lo : Int} {n i : Nat} {d : PyData} (h : (upI lo n)[i]? = some d) : i < n ∧ d = .int (lo + (i : Nat)) := by
  unfold upI at h
  rw [List.getElem?_map] at h
  by_cases hi : i < n
  · rw [List.getElem?_range hi] at h
    simp at h
    exact ⟨hi, h.symm⟩
  · rw [List.getElem?_eq_none (by rw [List.length_range]; omega)] at h
    cases h
theorem upI_len {lo : Int} {n : Nat} : (upI lo n).length = n := by
  unfold upI
  rw [List.length_map, List.length_range]
theorem walks_range {K : PySem.W.Frag} {B : Base} {lo : Int} {n : Nat} : Walks K B (Itr lo n) (upI lo n) where
  go := fun i d ρ σ τs H hi s => (upI_get hi).1
  yld := fun i d ρ σ τs H x H' hi s y => by
    obtain ⟨rfl, rfl⟩ := y
    rw [(upI_get hi).2]
    exact s.push fun G _ _ => .int _
  stop := fun ρ σ τs H s => by
    rw [upI_len]
    exact Nat.le_refl n
def rgB (i : Int) : Prop := -(2 ^ 62) ≤ i ∧ i < 2 ^ 62
def iR1 (t : DT) : DTI := fun ρ R => t ρ fun c ρ1 => asI (dat ρ1 c) fun n => rgB n ∧ R (upI 0 n.toNat) ρ1
theorem di_range1 {a : Expr} {ta : TE} {da : DT} {p : Pos} (hg : Gl X "range") (hm : X.mg "range" = none) (h : DE X g a ta da) (hs : starEach [a] X.env = [(false, eval a X.env)] := by rfl) : DI X g tg (.Call (.Name "range" p) [a] [] pos) (iRng1 (tCons ta tNil)) (iR1 da) :=
  ⟨pi_range1 hg hm (pa_cons h.pe pa_nil hs) hs, fun B ρ σ τs H R R' b s k h' => by
    refine h.dt B ρ σ τs H _ _ b s (fun c ρ1 v H1 s1 b1 q1 => ?_) h'
    obtain ⟨n, e, ⟨h1, h2⟩, q2⟩ := asI_iff q1
    exact ⟨n, by rw [(s1.rp e).intV], h1, h2, k _ ρ1 _ H1 B rfl s1.pop (fun _ _ _ _ q => q) walks_range q2⟩⟩
def iR2 (t u : DT) : DTI := fun ρ R => t ρ fun c ρ1 => u ρ1 fun c2 ρ2 => asI (dat ρ2 c) fun i => asI (dat ρ2 c2) fun j => rgB i ∧ rgB j ∧ R (upI i (j - i).toNat) ρ2
theorem di_range2 {a a2 : Expr} {ta ta2 : TE} {da da2 : DT} {p : Pos} (hg : Gl X "range") (hm : X.mg "range" = none) (h : DE X g a ta da) (h2 : DE X g a2 ta2 da2) (hs : starEach [a, a2] X.env = [(false, eval a X.env), (false, eval a2 X.env)] := by rfl)
    (hs2 : starEach [a2] X.env = [(false, eval a2 X.env)] := by rfl) (hs3 : starEach [a, a2] X.env = (false, eval a X.env) :: starEach [a2] X.env := by rfl) : DI X g tg (.Call (.Name "range" p) [a, a2] [] pos) (iRng2 (tCons ta (tCons ta2 tNil))) (iR2 da da2) :=
  ⟨pi_range2 hg hm (pa_cons h.pe (pa_cons h2.pe pa_nil hs2) hs3) hs hs2, fun B ρ σ τs H R R' b s k h' => by
    refine h.dt B ρ σ τs H _ _ b s (fun c ρ1 v H1 s1 b1 q1 => ?_) h'
    refine h2.dt B ρ1 σ _ H1 _ _ b1 s1 (fun c2 ρ2 v2 H2 s2 b2 q2 => ?_) q1
    obtain ⟨i, e1, q2⟩ := asI_iff q2
    obtain ⟨j, e2, ⟨h1, h2⟩, ⟨h3, h4⟩, q3⟩ := asI_iff q2
    obtain ⟨r1, r2⟩ := s2.two e1 e2
    exact ⟨i, j, by rw [r1.intV, r2.intV], ⟨h1, h2, h3, h4⟩, k _ ρ2 _ H2 B rfl s2.pop.pop (fun _ _ _ _ q => q) walks_range q3⟩⟩
/-- enumerate -/
def enumD (ds : List PyData) : List PyData := ds.mapIdx fun i d => PyData.tuple [.int (i : Nat), d]
theorem SI.pair {K : PySem.W.Frag} {B : Base} {ρ : Rho} {σ : L2.St} {τs : List (V × C)} {H : Hp} {x y : V} {dx dy : PyData} {p : Addr} (s : SI K B ρ σ ((x, .t (.d dx)) :: (y, .t (.d dy)) :: τs) H) (hp : H p = none) : SI K B ρ σ ((.ref p, .t (.d (.tuple [dx, dy]))) :: τs) (upd H p (.tup [x, y])) :=
  SI.newT (vs := [x, y]) (ds := [dx, dy]) s rfl hp
theorem walks_enum {K : PySem.W.Frag} {B : Base} {a : Addr} {vs : List V} {ds : List PyData} (h1 : SqL K B.G0 a vs) (h2 : RpL K B.G0 vs ds) : Walks K B (Ite K a) (enumD ds) where
  go := fun i d ρ σ τs H hi s => by
    unfold enumD at hi
    rw [List.getElem?_mapIdx] at hi
    cases e : ds[i]? with
    | none => simp [e] at hi
    | some x =>
      obtain ⟨v, hv, _⟩ := h2.get e
      exact ⟨vs, v, s.ex0.er.l h1, hv⟩
  yld := fun i d ρ σ τs H x H' hi s y => by
    obtain ⟨T, z, rfl, hT, rfl, y⟩ := y
    unfold enumD at hi
    rw [List.getElem?_mapIdx] at hi
    cases e : ds[i]? with
    | none => simp [e] at hi
    | some w =>
      simp only [e, Option.map_some, Option.some.injEq] at hi
      subst hi
      obtain ⟨v, hv, hr⟩ := h2.get e
      have e2 := y vs (s.ex0.er.l h1)
      rw [hv] at e2
      cases e2
      exact SI.pair ((s.pushG hr).push fun G _ _ => .int _) hT
  stop := fun ρ σ τs H s => ⟨vs, s.ex0.er.l h1, by
    unfold enumD
    rw [List.length_mapIdx, h2.len]
    exact Nat.le_refl _⟩
def iE (t : DT) : DTI := fun ρ R => t ρ fun c ρ1 => frz ρ1 c fun x ρ2 => asL (some x) fun ds => R (enumD ds) ρ2
theorem di_enum {a : Expr} {ta : TE} {da : DT} {p tpos : Pos} {elts : List Expr} {kk : Nat} (hg : Gl X "enumerate") (hm : X.mg "enumerate" = none) (h : DE X g a ta da) (hs : starEach [a] X.env = [(false, eval a X.env)] := by rfl) :
    DI X g (.Tuple elts kk tpos) (.Call (.Name "enumerate" p) [a] [] pos) (iEnum X.K (tCons ta tNil)) (iE da) := ⟨pi_enum hg hm (pa_cons h.pe pa_nil hs) hs, fun B ρ σ τs H R R' b s k h' => by
  refine h.dt B ρ σ τs H _ _ b s (fun c ρ1 v H1 s1 b1 q1 => ?_) h'
  obtain ⟨x, ρ2, q2, s2⟩ := s1.frzd q1
  obtain ⟨ds, e, q3⟩ := asL_iff q2
  cases e
  obtain ⟨B', hp, s3, r3, x3, back⟩ := s2.ground
  obtain ⟨a', vs, rfl, h1, h2⟩ := r3.listV
  exact ⟨a', vs, rfl, s3.ex0.er.l h1, k _ ρ2 _ H1 B' hp s3 (fun ρ' σ' τs' H' q => (back ρ' σ' τs' H' q).1) (walks_enum h1 h2) q3⟩⟩
/-- zip of two lists -/
def zipD (xs ys : List PyData) : List PyData := xs.zipWith (fun x y => PyData.tuple [x, y]) ys
theorem zipD_get {xs ys : List PyData} {i : Nat} {d : PyData} (h : (zipD xs ys)[i]? = some d) : ∃ x y, xs[i]? = some x ∧ ys[i]? = some y ∧ d = .tuple [x, y] := by
  unfold zipD at h
  rw [List.getElem?_zipWith] at h
  cases e1 : xs[i]? with
  | none => simp [e1] at h
  | some x =>
    cases e2 : ys[i]? with
    | none => simp [e1, e2] at h
    | some y =>
      simp [e1, e2] at h
      exact ⟨x, y, rfl, rfl, h.symm⟩
theorem walks_zip {K : PySem.W.Frag} {B : Base} {a b : Addr} {vs ws : List V} {xs ys : List PyData} (h1 : SqL K B.G0 a vs) (h2 : RpL K B.G0 vs xs) (k1 : SqL K B.G0 b ws) (k2 : RpL K B.G0 ws ys) : Walks K B (Itz K a b) (zipD xs ys) where
  go := fun i d ρ σ τs H hi s => by
    obtain ⟨x, y, e1, e2, rfl⟩ := zipD_get hi
    obtain ⟨v, hv, _⟩ := h2.get e1
    obtain ⟨w, hw, _⟩ := k2.get e2
    exact ⟨vs, ws, v, w, s.ex0.er.l h1, s.ex0.er.l k1, hv, hw⟩
  yld := fun i d ρ σ τs H x H' hi s q => by
    obtain ⟨T, z, u, rfl, hT, rfl, q1, q2⟩ := q
    obtain ⟨x, y, e1, e2, rfl⟩ := zipD_get hi
    obtain ⟨v, hv, hr⟩ := h2.get e1
    obtain ⟨w, hw, hr2⟩ := k2.get e2
    have f1 := q1 vs (s.ex0.er.l h1)
    have f2 := q2 ws (s.ex0.er.l k1)
    rw [hv] at f1
    rw [hw] at f2
    cases f1
    cases f2
    exact SI.pair ((s.pushG hr2).pushG hr) hT
  stop := fun ρ σ τs H s => ⟨vs, ws, s.ex0.er.l h1, s.ex0.er.l k1, by
    unfold zipD
    rw [List.length_zipWith, h2.len, k2.len]
    omega⟩
def iZ (t u : DT) : DTI := fun ρ R => t ρ fun c ρ1 => frz ρ1 c fun x ρ2 => u ρ2 fun c2 ρ3 => frz ρ3 c2 fun y ρ4 => asL (some x) fun xs => asL (some y) fun ys => R (zipD xs ys) ρ4
theorem di_zip {a a2 : Expr} {ta ta2 : TE} {da da2 : DT} {p tpos : Pos} {elts : List Expr} {kk : Nat} (hg : Gl X "zip") (hm : X.mg "zip" = none) (h : DE X g a ta da) (h2 : DE X g a2 ta2 da2)
    (hs : starEach [a, a2] X.env = (false, eval a X.env) :: starEach [a2] X.env := by rfl) (hpl : (backTo pos (starEach [a2] X.env)).any (·.1) = false := by rfl) (hs2 : starEach [a2] X.env = (false, eval a2 X.env) :: starEach [] X.env := by rfl) :
    DI X g (.Tuple elts kk tpos) (.Call (.Name "zip" p) [a, a2] [] pos) (iZip X.K (tCons ta (tCons ta2 tNil))) (iZ da da2) := ⟨pi_zip hg hm (pa_cons h.pe (pa_cons h2.pe pa_nil hs2) hs) hs hpl, fun B ρ σ τs H R R' b s k h' => by
  refine h.dt B ρ σ τs H _ _ b s (fun c ρ1 v H1 s1 b1 q1 => ?_) h'
  obtain ⟨x, ρ2, q2, s2⟩ := s1.frzd q1
  refine h2.dt B ρ2 σ _ H1 _ _ b.untail s2 (fun c2 ρ3 v2 H2 s3 b3 q3 => ?_) q2
  obtain ⟨y, ρ4, q4, s4⟩ := s3.frzd q3
  obtain ⟨xs, e1, q5⟩ := asL_iff q4
  obtain ⟨ys, e2, q6⟩ := asL_iff q5
  cases e1
  cases e2
  obtain ⟨B1, p1, t1, r1, x1, back1⟩ := s4.ground
  obtain ⟨B2, p2, t2, r2, x2, back2⟩ := t1.ground
  obtain ⟨a', vs, rfl, w1, w2⟩ := r2.listV
  obtain ⟨b', ws, rfl, w3, w4⟩ := (r1.mono x2.er).listV
  exact ⟨a', b', vs, ws, rfl, t2.ex0.er.l w1, t2.ex0.er.l w3, k _ ρ4 _ H2 B2 (p2.trans p1) t2 (fun ρ' σ' τs' H' q => (back1 _ _ _ _ (back2 ρ' σ' τs' H' q).1).1) (walks_zip w1 w2 w3 w4) q6⟩⟩
/-! ### for, while -/
def dFor (di : DTI) (dg : DTG) (db : DTS) : DTS := fun D ρ => di ρ fun ds ρ1 => ∃ I : Nat → Rho → Prop, I 0 ρ1 ∧ (∀ i d ρ, ds[i]? = some d → I i ρ → dg (.d d) ρ fun ρ' => db { D with nx := I (i + 1), ct := I (i + 1), bk := D.nx } ρ') ∧ ∀ ρ, I ds.length ρ → D.nx ρ
theorem EOk.base {B B' : Base} {D : Ends} {D' : DEnds} (k : EOk X B D D') (h : ∀ ρ' σ' τs' H', SI X.K B' ρ' σ' τs' H' → SI X.K B ρ' σ' τs' H') : EOk X B' D D' :=
  ⟨fun ρ σ H s q => k.nx _ _ _ (h _ _ _ _ s) q, fun x ρ σ v H s q => k.rt _ _ _ _ _ (h _ _ _ _ s) q, fun ρ σ H s q => k.bk _ _ _ (h _ _ _ _ s) q, fun ρ σ H s q => k.ct _ _ _ (h _ _ _ _ s) q⟩
theorem ds_for {iter : Expr} {body : List Stmt} {wi : TI} {gt : TG} {tb : TS} {di : DTI} {dg : DTG} {db : DTS} (hp : PassesOwn (model X.prog X.w) X.A X.env X.xe) (hc : X.calm = true) (hi : DI X g tg iter wi di) (hg : DG X g false tg gt dg) (hb : DSs X g body tb db) (hs : ∀ x, foldedSetIterable iter X.env x = pure x := by intro _; rfl) :
    DS X g (.For tg iter body [] pos) (tFor wi gt tb) (dFor di dg db) := ⟨ps_for hp hc hi.pi hg.pg hb.ps hs, fun B ρ σ H D D' b s k h => by
  refine hi.dt B ρ σ [] H _ _ b s (fun ds ρ1 J H1 B' hpin s1 back W q => ?_) h
  obtain ⟨I, i0, turn, fin⟩ := q
  have b' : BOk X.K X.mg g B' [] := b.base hpin back
  refine ⟨fun i m σ' H' => m = ds.length - i ∧ i ≤ ds.length ∧ ∃ ρ', SI X.K B' ρ' σ' [] H' ∧ I i ρ', ⟨ds.length, rfl, Nat.zero_le _, ρ1, s1, i0⟩, ?_⟩
  rintro i m σ' H' ⟨rfl, hle, ρ', s', hI⟩
  by_cases hlt : i < ds.length
  · have e : ds[i]? = some ds[i] := List.getElem?_eq_getElem hlt
    refine .inr ⟨W.go i _ _ _ _ _ e s', fun σ2 H2 => ∃ ρ2, SI X.K B' ρ2 σ2 [] H2 ∧ I (i + 1) ρ2, fun σ2 H2 ⟨ρ2, s2, q2⟩ => ⟨ds.length - (i + 1), by omega, rfl, hlt, ρ2, s2, q2⟩, fun x H2 y => ?_⟩
    have s2 := W.yld i _ _ _ _ _ _ _ e s' y
    refine hg.dt B' ρ' σ' [] H2 x (.d ds[i]) _ _ b' (fun _ p hp => by cases hp) s2 (fun ρ3 σ3 H3 s3 q3 => ?_) (turn i ds[i] ρ' e hI)
    exact hb.dt B' ρ3 σ3 H3 _ { D' with nx := I (i + 1), ct := I (i + 1), bk := D'.nx } b' s3 ⟨fun ρ4 σ4 H4 s4 q4 => ⟨ρ4, s4, q4⟩, (k.base back).rt, fun ρ4 σ4 H4 s4 q4 => k.nx _ _ _ (back _ _ _ _ s4) q4, fun ρ4 σ4 H4 s4 q4 => ⟨ρ4, s4, q4⟩⟩ q3
  · have e : i = ds.length := by omega
    subst e
    exact .inl ⟨W.stop _ _ _ _ s', k.nx _ _ _ (back _ _ _ _ s') (fin ρ' hI)⟩⟩
def dWhile (c : DTT) (db : DTS) : DTS := fun D ρ => ∃ (I : Rho → Prop) (μ : Rho → Nat), I ρ ∧ ∀ ρ, I ρ → c ρ fun b ρ1 => if b = true then db { D with nx := fun ρ' => I ρ' ∧ μ ρ' < μ ρ, ct := fun ρ' => I ρ' ∧ μ ρ' < μ ρ, bk := D.nx } ρ1 else D.nx ρ1
theorem ds_while {c : Expr} {body : List Stmt} {tc : TT} {tb : TS} {dc : DTT} {db : DTS} (hp : PassesOwn (model X.prog X.w) X.A X.env X.xe) (hc : DB X g c tc dc) (hb : DSs X g body tb db) : DS X g (.While c body [] pos) (tWhile tc tb) (dWhile dc db) :=
  ⟨ps_while hp hc.pt hb.ps, fun B ρ σ H D D' b s k h => by
    obtain ⟨I, μ, i0, turn⟩ := h
    refine ⟨fun m σ' H' => ∃ ρ', SI X.K B ρ' σ' [] H' ∧ I ρ' ∧ μ ρ' = m, ⟨μ ρ, ρ, s, i0, rfl⟩, ?_⟩
    rintro m σ' H' ⟨ρ', s', hI, rfl⟩
    refine hc.dt B ρ' σ' [] H' _ _ b s' (fun b1 ρ1 H1 s1 q1 => ?_) (turn ρ' hI)
    cases b1 with
    | true => exact ⟨fun σ2 H2 => ∃ ρ2, SI X.K B ρ2 σ2 [] H2 ∧ I ρ2 ∧ μ ρ2 < μ ρ', fun σ2 H2 ⟨ρ2, s2, q2, q3⟩ => ⟨μ ρ2, q3, ρ2, s2, q2, rfl⟩, hb.dt B ρ1 σ' H1 _ { D' with nx := fun ρ2 => I ρ2 ∧ μ ρ2 < μ ρ', ct := fun ρ2 => I ρ2 ∧ μ ρ2 < μ ρ', bk := D'.nx } b s1 ⟨fun ρ4 σ4 H4 s4 q4 => ⟨ρ4, s4, q4⟩, k.rt, fun ρ4 σ4 H4 s4 q4 => k.nx _ _ _ s4 q4, fun ρ4 σ4 H4 s4 q4 => ⟨ρ4, s4, q4⟩⟩ q1⟩
    | false => exact k.nx _ _ _ s1 q1⟩
end
end Dl
set_option Elab.async false
set_option linter.all false
set_option maxRecDepth 100000
set_option maxHeartbeats 4000000
/-! Dl, seventh part: a def's promise by data, and its call. -/
namespace Dl
open PySem PySem.Spec PyProof.Rows L2
/-- what a def does, by data: from what its parameters hold, to its answer and what the changed ones hold, or to an exception's class -/
abbrev WP := Rho → (T → Rho → Prop) → (Str → Rho → Prop) → Prop
/-- of the parameters those that are changed -/
def keep : List Bool → Rho → Rho
  | [], _ => []
  | _ :: ms, [] => none :: keep ms []
  | true :: ms, x :: xs => x :: keep ms xs
  | false :: ms, _ :: xs => none :: keep ms xs
def pick {α : Type} : List Bool → List α → List α
  | true :: ms, x :: xs => x :: pick ms xs
  | false :: ms, _ :: xs => pick ms xs
  | _, _ => []
def pickN {α : Type} : List Bool → List α → List α
  | true :: ms, _ :: xs => pickN ms xs
  | false :: ms, x :: xs => x :: pickN ms xs
  | _, _ => []
def spD (K : PySem.W.Frag) (mg : Str → Option Value) (ms : List Bool) (wp : WP) : Sp := fun vs H Q E => vs.length = ms.length ∧ ∃ B ρ0, SI K B ρ0 (vs.map some) [] H ∧ (∀ p ∈ B.pin, ms[p.1]? = some true) ∧
  (∀ (i : Nat) (v : V), ms[i]? = some true → vs[i]? = some v → (i, v) ∈ B.pin) ∧
  ∃ (Pq : T → Rho → Prop) (Rq : Str → Rho → Prop), wp ρ0 Pq Rq ∧ (∀ t ρ1 v H', Pq t ρ1 → SI K B ρ1 (vs.map some) [(v, .t t)] H' → Q v H') ∧ (∀ x ρ1 C H', Rq x ρ1 → mg x = some (.ref C) → SI K B ρ1 (vs.map some) [] H' → E (.ref C) none H')
def wpOf (ms : List Bool) (n : Nat) (rd : (Str → Rho → Prop) → DTS) : WP := fun ρ0 Q R =>
  rd (fun x ρ' => R x (keep ms ρ')) { nx := fun ρ' => Q (.d .none) (keep ms ρ'), rt := fun t ρ' => Q t (keep ms ρ') } (ρ0 ++ List.replicate (n - ms.length) none)
section
variable {K : PySem.W.Frag} {B : Base} {G H : Hp} {ρ : Rho} {σ : L2.St} {τs : List (V × C)}
theorem OwnS.keep0 : ∀ {ms : List Bool} {vs : List V}, vs.length = ms.length → OwnS K G H (vs.map some) (keep ms []) []
  | [], [], _ => .nil
  | [], _ :: _, h => by simp at h
  | _ :: _, [], h => by simp at h
  | m :: ms, v :: vs, h => by
    cases m <;> exact .non (OwnS.keep0 (ms := ms) (vs := vs) (by simpa using h))
theorem OwnS.keep' : ∀ {ms : List Bool} {vs : List V} {σ : L2.St} {ρ : Rho} {fp : List Addr}, OwnS K G H σ ρ fp → vs.length = ms.length → (∀ (i : Nat) (v : V), ms[i]? = some true → vs[i]? = some v → σ[i]? = some (some v)) →
    ∃ fp', OwnS K G H (vs.map some) (keep ms ρ) fp' ∧ List.Sublist fp' fp
  | [], [], σ, ρ, fp, _, _, _ => ⟨[], .nil, List.nil_sublist _⟩
  | [], _ :: _, _, _, _, _, h, _ => by simp at h
  | _ :: _, [], _, _, _, _, h, _ => by simp at h
  | m :: ms, v :: vs, [], _, _, .nil, h, _ => ⟨[], OwnS.keep0 (ms := m :: ms) h, List.nil_sublist _⟩
  | m :: ms, v :: vs, _ :: _, _, _, .non r, h1, h3 => by
    obtain ⟨fp', q1, q2⟩ := OwnS.keep' (ms := ms) (vs := vs) r (by simpa using h1) fun i u a b => by simpa using h3 (i + 1) u (by simpa using a) (by simpa using b)
    cases m <;> exact ⟨fp', .non q1, q2⟩
  | m :: ms, v :: vs, _ :: _, _, _, .som (v := w) (fp := f0) o r, h1, h3 => by
    obtain ⟨fp', q1, q2⟩ := OwnS.keep' (ms := ms) (vs := vs) r (by simpa using h1) fun i u a b => by simpa using h3 (i + 1) u (by simpa using a) (by simpa using b)
    cases m with
    | false => exact ⟨fp', .non q1, q2.trans (List.sublist_append_right _ _)⟩
    | true =>
      have e := h3 0 v rfl rfl
      have e' : w = v := by
        have : some (some w) = some (some v) := by simpa using e
        simpa using this
      subst e'
      exact ⟨f0 ++ fp', .som o q1, List.Sublist.append_left q2 f0⟩
theorem SI.keep' {ms : List Bool} {vs : List V} (s : SI K B ρ σ τs H) (na : ∀ p ∈ τs, ∀ j, p.2 ≠ C.al j) (h1 : vs.length = ms.length) (h3 : ∀ (i : Nat) (v : V), ms[i]? = some true → vs[i]? = some v → (i, v) ∈ B.pin)
    (h5 : ∀ p ∈ B.pin, vs[p.1]? = some p.2) : SI K B (keep ms ρ) (vs.map some) τs H := by
  obtain ⟨G, fs, ft, c⟩ := s
  obtain ⟨fp', q1, q2⟩ := c.slots.keep' h1 fun i v a b => c.pin (i, v) (h3 i v a b)
  have sb : List.Sublist (fp' ++ ft) (fs ++ ft) := List.Sublist.append_right q2 _
  have ht := c.temps.slotless (σ' := vs.map some) fun p hp j e => absurd e (na p hp j)
  have hp : ∀ p ∈ B.pin, (vs.map some)[p.1]? = some (some p.2) := fun p hp => by
    rw [List.getElem?_map, h5 p hp]
    rfl
  exact ⟨G, fp', ft, { c with slots := q1, temps := ht, nd := c.nd.sublist sb, own := fun a h => c.own a (sb.subset h), pin := hp }⟩
theorem OwnS.more (k : Nat) : ∀ {σ : L2.St} {ρ : Rho} {fp : List Addr}, OwnS K G H σ ρ fp → OwnS K G H (σ ++ List.replicate k none) (ρ ++ List.replicate k none) fp
  | _, _, _, .nil => by
    induction k with
    | zero => exact .nil
    | succ k ih => exact .non ih
  | _, _, _, .non r => .non (OwnS.more k r)
  | _, _, _, .som o r => .som o (OwnS.more k r)
theorem SI.more (k : Nat) (s : SI K B ρ σ [] H) : SI K B (ρ ++ List.replicate k none) (σ ++ List.replicate k none) [] H := by
  obtain ⟨G, fs, ft, c⟩ := s
  have ht := c.temps.slotless (σ' := σ ++ List.replicate k none) fun p hp => by cases hp
  have hp : ∀ p ∈ B.pin, (σ ++ List.replicate k none)[p.1]? = some (some p.2) := fun p hp => by
    have q := c.pin p hp
    rw [List.getElem?_append_left (List.getElem?_eq_some_iff.mp q).1]
    exact q
  exact ⟨G, fs, ft, { c with slots := c.slots.more k, temps := ht, pin := hp }⟩
theorem pick_len {α : Type} : ∀ (ms : List Bool) (xs : List α), xs.length = ms.length → (pick ms xs).length = (ms.filter id).length
  | [], [], _ => rfl
  | [], _ :: _, h => by simp at h
  | _ :: _, [], h => by simp at h
  | true :: ms, x :: xs, h => by simpa [pick] using pick_len ms xs (by simpa using h)
  | false :: ms, x :: xs, h => by simpa [pick] using pick_len ms xs (by simpa using h)
end
/-! ### the promise -/
section
variable {P : Program} {w : World} {K : PySem.W.Frag} {mg : Str → Option Value} {base : Heap}
theorem fn_D {x qual : Str} {st : Stmt} {f : Addr} {fd : FuncData} {N ps : List Str} {k n0 : Nat} {ms : List Bool} {pn : List Nat} {rd : (Str → Rho → Prop) → DTS} (F : Fun K x qual st f fd) (S : FnScope N ps (defScope st)) (hm : ms.length = ps.length) (hn : ms.length ≤ N.length)
    (hpn : ∀ i, ms[i]? = some true → i ∈ pn)
    (body : ∀ (cdv : Value) (A : Around) (outer : List Env) (s : Shared) (H : Hp) (E : XK), Room k (A.deeper (envOfC qual (defScope st) s.heap.objs.size f cdv)) → ∀ EX : Str → Rho → Prop,
      ∃ ts, DSs (cxOf (L2.CX P w) P w K mg base N qual (defScope st) f cdv A outer s H E) ⟨⟨fun cls d _ H => E cls d H, EX⟩, n0, pn⟩ (defBody st) ts (rd EX)) :
    FnOk P w K mg base (L2.CX P w) (k + 1) f fd ps (spD K mg ms (wpOf ms N.length rd)) := by
  refine F.okX S (fun vs H Q E h => h.1.trans hm) fun cdv A outer s H vs Q E hr h => ?_
  obtain ⟨hl, B, ρ0, s0, p1, p2, Pq, Rq, h, hP, hR⟩ := h
  have hp5 : ∀ p ∈ B.pin, vs[p.1]? = some p.2 := fun p hp => by
    obtain ⟨G, fs, ft, c⟩ := s0
    have q := c.pin p hp
    rw [List.getElem?_map] at q
    cases e : vs[p.1]? with
    | none => simp [e] at q
    | some u =>
      rw [e] at q
      have : u = p.2 := by simpa using q
      rw [this]
  obtain ⟨ts, D⟩ := body cdv A outer s H E hr fun x ρ' => Rq x (keep ms ρ')
  refine ⟨ts, D.ps, ?_⟩
  have hk : ∀ {ρ' : Rho} {σ' : L2.St} {τs : List (V × C)} {H' : Hp}, SI K B ρ' σ' τs H' → (∀ p ∈ τs, ∀ j, p.2 ≠ C.al j) → SI K B (keep ms ρ') (vs.map some) τs H' := fun {ρ' σ' τs H'} s' na => s'.keep' na hl p2 hp5
  have es : L2.start N vs = vs.map some ++ List.replicate (N.length - ms.length) none := by
    unfold L2.start
    rw [hl]
  have h0 : SI K B (ρ0 ++ List.replicate (N.length - ms.length) none) (L2.start N vs) [] H := by
    rw [es]
    exact s0.more _
  refine D.dt B _ _ H { nx := fun _ H' => Q .non H', rt := Q } { nx := fun ρ' => Pq (.d .none) (keep ms ρ'), rt := fun t ρ' => Pq t (keep ms ρ') } ?hb h0 ?he h
  case hb => exact ⟨fun p hp => (List.not_mem_nil hp).elim, fun x C ρ' σ' H' ex hx s' q => hR x _ C H' q hx (hk (SI.pops (ts := ex) s') fun p hp => (List.not_mem_nil hp).elim), fun p hp => hpn _ (p1 p hp)⟩
  case he =>
    refine ⟨fun ρ' σ' H' s' q => ?_, fun t ρ' σ' v H' s' q => ?_, fun ρ' σ' H' s' q => q.elim, fun ρ' σ' H' s' q => q.elim⟩
    · exact hP _ _ _ _ q ((hk s' fun p hp => (List.not_mem_nil hp).elim).push fun G _ _ => .non)
    · exact hP _ _ _ _ q (hk s' fun p hp j => by
        rcases List.mem_singleton.mp hp with rfl
        exact fun z => by cases z)
end
/-! ### the call -/
/-- the changed ones are taken out of their slots -/
def takes : List Bool → Rho → List C → Option (Rho × List T)
  | [], ρ, [] => some (ρ, [])
  | false :: ms, ρ, _ :: cs => takes ms ρ cs
  | true :: ms, ρ, .al j :: cs => match ρ[j]? with
    | some (some t) => (takes ms (ρ.set j none) cs).map fun p => (p.1, t :: p.2)
    | _ => none
  | _, _, _ => none
/-- what the callee's parameters hold -/
def ins : List Bool → Rho → List C → List T → Option Rho
  | [], _, [], [] => some []
  | false :: ms, ρ, c :: cs, ts => match dat ρ c with
    | some x => (ins ms ρ cs ts).map (some (.d x) :: ·)
    | none => none
  | true :: ms, ρ, _ :: cs, t :: ts => (ins ms ρ cs ts).map (some t :: ·)
  | _, _, _, _ => none
/-- what is behind it in the changed ones -/
def outsOf : List Bool → Rho → Option (List T)
  | [], [] => some []
  | false :: ms, _ :: ρ => outsOf ms ρ
  | true :: ms, some t :: ρ => (outsOf ms ρ).map (t :: ·)
  | _, _ => none
/-- they are given back -/
def gives : List Bool → Rho → List C → List T → (Rho → Prop) → Prop
  | [], ρ, [], [], k => k ρ
  | false :: ms, ρ, _ :: cs, ts, k => gives ms ρ cs ts k
  | true :: ms, ρ, .al j :: cs, t :: ts, k => match ρ[j]? with
    | some none => gives ms (ρ.set j (some t)) cs ts k
    | _ => False
  | _, _, _, _, _ => False
/-- the temporaries behind takes -/
def retag : List Bool → List C → List T → List C
  | true :: ms, _ :: cs, t :: ts => .t t :: retag ms cs ts
  | false :: ms, c :: cs, ts => c :: retag ms cs ts
  | _, _, _ => []
section
variable {K : PySem.W.Frag} {B : Base} {G H : Hp} {ρ : Rho} {σ : L2.St} {τs : List (V × C)}
theorem SI.alv {v : V} {j : Nat} (s : SI K B ρ σ τs H) (h : (v, C.al j) ∈ τs) : σ[j]? = some (some v) := by
  obtain ⟨G, fs, ft, c⟩ := s
  rcases c.temps.mem h with ⟨x, f, e, _⟩ | ⟨i, e, q⟩
  · cases e
  · cases e
    exact q
theorem SI.takes : ∀ {ms : List Bool} {vs : List V} {cs : List C} {ρ ρ' : Rho} {ts : List T} {τs : List (V × C)}, SI K B ρ σ (vs.zip cs ++ τs) H → vs.length = cs.length → Dl.takes ms ρ cs = some (ρ', ts) →
    SI K B ρ' σ (vs.zip (retag ms cs ts) ++ τs) H ∧ (retag ms cs ts).length = cs.length ∧ ms.length = cs.length
  | [], [], [], ρ, ρ', ts, τs, s, _, e => by
    simp only [Dl.takes, Option.some.injEq, Prod.mk.injEq] at e
    obtain ⟨rfl, rfl⟩ := e
    exact ⟨s, rfl, rfl⟩
  | [], _, _ :: _, _, _, _, _, _, _, e => by simp [Dl.takes] at e
  | [], _ :: _, [], _, _, _, _, _, h, _ => by simp at h
  | _ :: _, [], _ :: _, _, _, _, _, _, h, _ => by simp at h
  | true :: _, _, [], _, _, _, _, _, _, e => by simp [Dl.takes] at e
  | false :: _, _, [], _, _, _, _, _, _, e => by simp [Dl.takes] at e
  | true :: _, _, .t _ :: _, _, _, _, _, _, _, e => by simp [Dl.takes] at e
  | false :: ms, v :: vs, c :: cs, ρ, ρ', ts, τs, s, h, e => by
    have e' : Dl.takes ms ρ cs = some (ρ', ts) := e
    have s' : SI K B ρ σ (vs.zip cs ++ ((v, c) :: τs)) H := SI.perm (τs := (v, c) :: (vs.zip cs ++ τs)) s List.perm_middle.symm
    obtain ⟨q1, q2, q3⟩ := SI.takes s' (by simpa using h) e'
    exact ⟨SI.perm q1 List.perm_middle, by simp [retag, q2], by simp [q3]⟩
  | true :: ms, v :: vs, .al j :: cs, ρ, ρ', ts, τs, s, h, e => by
    rw [Dl.takes] at e
    split at e
    · rename_i t et
      cases q : Dl.takes ms (ρ.set j none) cs with
      | none => simp [q] at e
      | some p =>
        obtain ⟨ρ1, ts1⟩ := p
        rw [q] at e
        simp only [Option.map_some, Option.some.injEq, Prod.mk.injEq] at e
        obtain ⟨rfl, rfl⟩ := e
        have s0 : SI K B ρ σ ((v, .al j) :: (vs.zip cs ++ τs)) H := s
        have s1 := s0.take et
        have s2 : SI K B (ρ.set j none) σ (vs.zip cs ++ ((v, .t t) :: τs)) H := SI.perm s1 List.perm_middle.symm
        obtain ⟨q1, q2, q3⟩ := SI.takes s2 (by simpa using h) q
        exact ⟨SI.perm q1 List.perm_middle, by simp [retag, q2], by simp [q3]⟩
    · cases e
theorem takes_len : ∀ {ms : List Bool} {cs : List C} {ρ ρ' : Rho} {ts : List T}, Dl.takes ms ρ cs = some (ρ', ts) → ts.length = (pick ms cs).length
  | [], [], ρ, ρ', ts, e => by
    simp only [Dl.takes, Option.some.injEq, Prod.mk.injEq] at e
    obtain ⟨_, rfl⟩ := e
    rfl
  | [], _ :: _, _, _, _, e => by simp [Dl.takes] at e
  | true :: _, [], _, _, _, e => by simp [Dl.takes] at e
  | false :: _, [], _, _, _, e => by simp [Dl.takes] at e
  | true :: _, .t _ :: _, _, _, _, e => by simp [Dl.takes] at e
  | false :: ms, c :: cs, ρ, ρ', ts, e => by
    have e' : Dl.takes ms ρ cs = some (ρ', ts) := e
    simpa [pick] using takes_len e'
  | true :: ms, .al j :: cs, ρ, ρ', ts, e => by
    rw [Dl.takes] at e
    split at e
    · rename_i t et
      cases q : Dl.takes ms (ρ.set j none) cs with
      | none => simp [q] at e
      | some p =>
        obtain ⟨ρ1, ts1⟩ := p
        rw [q] at e
        simp only [Option.map_some, Option.some.injEq, Prod.mk.injEq] at e
        obtain ⟨rfl, rfl⟩ := e
        simpa [pick] using takes_len q
    · cases e
theorem retag_perm : ∀ {ms : List Bool} {vs : List V} {cs : List C} {ts : List T}, vs.length = cs.length → ms.length = cs.length → ts.length = (pick ms cs).length →
    List.Perm (vs.zip (retag ms cs ts)) (tmp (pick ms vs) ts ++ (pickN ms vs).zip (pickN ms cs))
  | [], [], [], [], _, _, _ => .refl _
  | [], [], [], _ :: _, _, _, h => by simp [pick] at h
  | [], _ :: _, [], _, h, _, _ => by simp at h
  | [], _, _ :: _, _, _, h, _ => by simp at h
  | _ :: _, _, [], _, _, h, _ => by simp at h
  | _ :: _, [], _ :: _, _, h, _, _ => by simp at h
  | true :: ms, v :: vs, c :: cs, [], _, _, h => by simp [pick] at h
  | true :: ms, v :: vs, c :: cs, t :: ts, h1, h2, h3 => by
    have ih := retag_perm (ms := ms) (vs := vs) (cs := cs) (ts := ts) (by simpa using h1) (by simpa using h2) (by simpa [pick] using h3)
    exact List.Perm.cons (v, C.t t) ih
  | false :: ms, v :: vs, c :: cs, ts, h1, h2, h3 => by
    have ih := retag_perm (ms := ms) (vs := vs) (cs := cs) (ts := ts) (by simpa using h1) (by simpa using h2) (by simpa [pick] using h3)
    exact (List.Perm.cons (v, c) ih).trans List.perm_middle.symm
theorem ins_own {f : List Addr} : ∀ {ms : List Bool} {vs : List V} {cs : List C} {ts : List T} {ρ0 : Rho} {f : List Addr}, vs.length = cs.length → ins ms ρ cs ts = some ρ0 → OwnL K G H (pick ms vs) ts f → (∀ u c x, (u, c) ∈ (pickN ms vs).zip (pickN ms cs) → dat ρ c = some x → Rp K G u x) → OwnS K G H (vs.map some) ρ0 f
  | [], [], [], [], ρ0, f, _, e, o, _ => by
    simp only [ins, Option.some.injEq] at e
    subst e
    cases o
    exact .nil
  | [], _ :: _, [], _, _, _, h, _, _, _ => by simp at h
  | [], _, _ :: _, _, _, _, _, e, _, _ => by simp [ins] at e
  | [], [], [], _ :: _, _, _, _, e, _, _ => by simp [ins] at e
  | true :: _, _, [], _, _, _, _, e, _, _ => by simp [ins] at e
  | false :: _, _, [], _, _, _, _, e, _, _ => by simp [ins] at e
  | _ :: _, [], _ :: _, _, _, _, h, _, _, _ => by simp at h
  | true :: _, _ :: _, _ :: _, [], _, _, _, e, _, _ => by simp [ins] at e
  | true :: ms, v :: vs, c :: cs, t :: ts, ρ0, f, h, e, o, q => by
    rw [ins] at e
    cases e1 : ins ms ρ cs ts with
    | none => simp [e1] at e
    | some r =>
      rw [e1] at e
      simp only [Option.map_some, Option.some.injEq] at e
      subst e
      have o' : OwnL K G H (v :: pick ms vs) (t :: ts) f := o
      cases o' with
      | cons a b => exact .som a (ins_own (f := f) (by simpa using h) e1 b q)
  | false :: ms, v :: vs, c :: cs, ts, ρ0, f, h, e, o, q => by
    rw [ins] at e
    split at e
    · rename_i x ex
      cases e1 : ins ms ρ cs ts with
      | none => simp [e1] at e
      | some r =>
        rw [e1] at e
        simp only [Option.map_some, Option.some.injEq] at e
        subst e
        have q0 : Rp K G v x := q v c x List.mem_cons_self ex
        exact .som (fp := []) (.d q0) (ins_own (f := f) (by simpa using h) e1 o fun u c' x' m d => q u c' x' (List.mem_cons_of_mem _ m) d)
    · cases e
theorem outs_own : ∀ {ms : List Bool} {vs : List V} {ρ0 : Rho} {outs : List T} {fp : List Addr}, OwnS K G H (vs.map some) ρ0 fp → outsOf ms ρ0 = some outs → ∃ f, OwnL K G H (pick ms vs) outs f ∧ List.Sublist f fp
  | [], [], ρ0, outs, fp, o, e => by
    cases o
    simp only [outsOf, Option.some.injEq] at e
    subst e
    exact ⟨[], .nil, List.nil_sublist _⟩
  | [], _ :: _, ρ0, _, _, o, e => by
    cases o <;> simp [outsOf] at e
  | true :: _, [], _, _, _, o, e => by
    cases o
    simp [outsOf] at e
  | false :: _, [], _, _, _, o, e => by
    cases o
    simp [outsOf] at e
  | false :: ms, v :: vs, ρ0, outs, fp, o, e => by
    have o' : OwnS K G H (some v :: vs.map some) ρ0 fp := o
    cases o' with
    | non r => exact outs_own (ms := ms) (vs := vs) r e
    | som a r =>
      obtain ⟨f, h1, h2⟩ := outs_own (ms := ms) (vs := vs) r e
      exact ⟨f, h1, h2.trans (List.sublist_append_right _ _)⟩
  | true :: ms, v :: vs, ρ0, outs, fp, o, e => by
    have o' : OwnS K G H (some v :: vs.map some) ρ0 fp := o
    cases o' with
    | non r => simp [outsOf] at e
    | som a r =>
      rename_i t ρr f0 fq
      rw [outsOf] at e
      cases e1 : outsOf ms ρr with
      | none => simp [e1] at e
      | some r' =>
        rw [e1] at e
        simp only [Option.map_some, Option.some.injEq] at e
        subst e
        obtain ⟨f, h1, h2⟩ := outs_own (ms := ms) (vs := vs) r e1
        exact ⟨f0 ++ f, .cons a h1, List.Sublist.append_left h2 f0⟩
theorem SI.gives {k : Rho → Prop} : ∀ {ms : List Bool} {vs : List V} {cs : List C} {outs : List T} {ρ : Rho} {τs : List (V × C)}, SI K B ρ σ (vs.zip (retag ms cs outs) ++ τs) H → vs.length = cs.length → (∀ v j, (v, C.al j) ∈ vs.zip cs → σ[j]? = some (some v)) →
    Dl.gives ms ρ cs outs k → ∃ ρ', k ρ' ∧ SI K B ρ' σ τs H
  | [], [], [], [], ρ, τs, s, _, _, h => ⟨ρ, h, s⟩
  | [], [], [], _ :: _, _, _, _, _, _, h => h.elim
  | [], _ :: _, [], _, _, _, _, h, _, _ => by simp at h
  | [], _, _ :: _, _, _, _, _, _, _, h => h.elim
  | true :: _, _, [], _, _, _, _, _, _, h => by simp [Dl.gives] at h
  | false :: _, _, [], _, _, _, _, _, _, h => by simp [Dl.gives] at h
  | _ :: _, [], _ :: _, _, _, _, _, h, _, _ => by simp at h
  | true :: _, _ :: _, .t _ :: _, _, _, _, _, _, _, h => by simp [Dl.gives] at h
  | true :: _, _ :: _, .al _ :: _, [], _, _, _, _, _, h => by simp [Dl.gives] at h
  | false :: ms, v :: vs, c :: cs, outs, ρ, τs, s, hl, hs, h => by
    have s0 : SI K B ρ σ ((v, c) :: (vs.zip (retag ms cs outs) ++ τs)) H := s
    exact SI.gives s0.pop (by simpa using hl) (fun u j m => hs u j (List.mem_cons_of_mem _ m)) h
  | true :: ms, v :: vs, .al j :: cs, t :: outs, ρ, τs, s, hl, hs, h => by
    rw [Dl.gives] at h
    split at h
    · rename_i e
      have s0 : SI K B ρ σ ((v, .t t) :: (vs.zip (retag ms cs outs) ++ τs)) H := s
      exact SI.gives (s0.give e (hs v j List.mem_cons_self)).pop (by simpa using hl) (fun u i m => hs u i (List.mem_cons_of_mem _ m)) h
    · exact h.elim
def pinsOf (ms : List Bool) (vs : List V) : List (Nat × V) := (ms.zip vs).zipIdx.filterMap fun p => if p.1.1 then some (p.2, p.1.2) else none
theorem mem_pinsOf {ms : List Bool} {vs : List V} {i : Nat} {v : V} : (i, v) ∈ pinsOf ms vs ↔ ms[i]? = some true ∧ vs[i]? = some v := by
  unfold pinsOf
  rw [List.mem_filterMap]
  constructor
  · rintro ⟨⟨⟨m, u⟩, j⟩, h1, h2⟩
    have h3 := List.mem_zipIdx_iff_getElem?.mp h1
    split at h2
    · rename_i hm
      simp only at hm
      simp only [Option.some.injEq, Prod.mk.injEq] at h2
      obtain ⟨rfl, rfl⟩ := h2
      rw [List.getElem?_zip_eq_some] at h3
      simp only at h3
      exact ⟨by rw [h3.1, hm], h3.2⟩
    · cases h2
  · rintro ⟨h1, h2⟩
    refine ⟨((true, v), i), List.mem_zipIdx_iff_getElem?.mpr ?_, by simp⟩
    rw [List.getElem?_zip_eq_some]
    exact ⟨h1, h2⟩
end
def callD (ms : List Bool) (wp : WP) (EX : Str → Rho → Prop) (ρ1 : Rho) (cs : List C) (k : T → Rho → Prop) : Prop := match takes ms ρ1 cs with
  | none => False
  | some (ρ2, ts) => match ins ms ρ2 cs ts with
    | none => False
    | some ρ0 => wp ρ0 (fun t ρo => match outsOf ms ρo with
        | some outs => t.pure = true ∧ T.pureL outs = true ∧ gives ms ρ2 cs outs (k t)
        | none => False) (fun x ρo => match outsOf ms ρo with
        | some outs => T.pureL outs = true ∧ gives ms ρ2 cs outs (EX x)
        | none => False)
theorem SI.called {K : PySem.W.Frag} {mg : Str → Option Value} {B : Base} {ρ : Rho} {σ : L2.St} {τs : List (V × C)} {H : Hp} {ms : List Bool} {wp : WP} {EX : Str → Rho → Prop} {vs : List V} {cs : List C} {k : T → Rho → Prop} {Q : VK} {E : XK}
    (s : SI K B ρ σ (vs.zip cs ++ τs) H) (hl : vs.length = cs.length) (h : callD ms wp EX ρ cs k) (hQ : ∀ t ρ' v H', SI K B ρ' σ ((v, .t t) :: τs) H' → k t ρ' → Q v H')
    (hE : ∀ x ρ' C H', mg x = some (.ref C) → SI K B ρ' σ τs H' → EX x ρ' → E (.ref C) none H') : spD K mg ms wp vs H Q E := by
  unfold callD at h
  have al : ∀ v j, (v, C.al j) ∈ vs.zip cs → σ[j]? = some (some v) := fun v j m => s.alv (List.mem_append_left _ m)
  split at h
  · exact h.elim
  · rename_i ρ2 ts e1
    split at h
    · exact h.elim
    · rename_i ρ0 e2
      obtain ⟨s2, l2, l3⟩ := s.takes hl e1
      have lt := takes_len e1
      have pm := retag_perm (ms := ms) (vs := vs) (cs := cs) (ts := ts) hl l3 lt
      have lp : (pick ms vs).length = ts.length := by rw [lt, pick_len ms vs (by omega), pick_len ms cs (by omega)]
      have s3 : SI K B ρ2 σ (tmp (pick ms vs) ts ++ ((pickN ms vs).zip (pickN ms cs) ++ τs)) H := by
        rw [← List.append_assoc]
        exact s2.perm (List.Perm.append_right τs pm)
      obtain ⟨f, c1, c2, c3, c4, c5⟩ := s3.call lp
      have o0 : OwnS K (hrem H f) H (vs.map some) ρ0 f := ins_own (f := f) hl e2 c2 fun u c x m d => c1 u c x (List.mem_append_left _ m) d
      have s0 : SI K ⟨hrem H f, hrem H f, pinsOf ms vs⟩ ρ0 (vs.map some) [] H := by
        refine ⟨hrem H f, f, [], Ex.refl _, hrem_le, hrem_le, c4, fun a q _ => q, o0, .nil, by rw [List.append_nil]; exact c3, fun a m => ?_, fun p hp => ?_⟩
        · rw [List.append_nil] at m
          exact ⟨hrem_in m, hrem_in m⟩
        · obtain ⟨i, v⟩ := p
          obtain ⟨q1, q2⟩ := mem_pinsOf.mp hp
          show (vs.map some)[i]? = some (some v)
          rw [List.getElem?_map, q2]
          rfl
      -- behind it
      have back : ∀ {t : T} {v : V} {outs : List T} {H' : Hp} {fo fr : List Addr} {Gc : Hp} {k' : Rho → Prop}, Ex (hrem H f) H' → Ex Gc H' → OwnL K Gc H' (pick ms vs) outs fo → Own K Gc H' v t fr → T.pureL outs = true → t.pure = true → (fo ++ fr).Nodup → (∀ a ∈ fo ++ fr, hrem H f a = none) → outs.length = ts.length →
          Dl.gives ms ρ2 cs outs k' → ∃ ρ', k' ρ' ∧ SI K B ρ' σ ((v, .t t) :: τs) H' := by
        intro t v outs H' fo fr Gc k' x1 x2 x3 x4 x5 x6 x7 x8 x9 x10
        have s4 := c5 H' Gc v t outs fo fr x1 x2 x3 x4 x5 x6 x7 x8
        have pm2 := retag_perm (ms := ms) (vs := vs) (cs := cs) (ts := outs) hl l3 (x9.trans lt)
        have s5 : SI K B ρ2 σ (vs.zip (retag ms cs outs) ++ ((v, .t t) :: τs)) H' := by
          refine s4.perm ?_
          refine List.Perm.trans (List.Perm.cons _ ?_) List.perm_middle.symm
          rw [← List.append_assoc]
          exact List.Perm.append_right τs pm2.symm
        exact s5.gives hl al x10
      refine ⟨by omega, _, ρ0, s0, fun p hp => ?_, fun i v h1 h2 => mem_pinsOf.mpr ⟨h1, h2⟩, _, _, h, fun t ρ1 v H' q s' => ?_, fun x ρ1 C H' q hm s' => ?_⟩
      · obtain ⟨i, v⟩ := p
        exact (mem_pinsOf.mp hp).1
      · split at q
        · rename_i outs eo
          obtain ⟨q1, q2, q3⟩ := q
          obtain ⟨Gc, fs, ft, d⟩ := s'
          cases d with
          | mk g0 gh h0 tup new slots temps nd own pin =>
          cases temps with
          | t o r =>
          cases r with
          | nil =>
          rename_i fr
          obtain ⟨fo, w1, w2⟩ := outs_own slots eo
          have sb : List.Sublist (fo ++ fr) (fs ++ (fr ++ [])) := by
            rw [List.append_nil]
            exact List.Sublist.append_right w2 _
          obtain ⟨ρ', z1, z2⟩ := back h0 gh w1 o q2 q1 (nd.sublist sb) (fun a m => (own a (sb.subset m)).2) (by rw [← w1.len, lp]) q3
          exact hQ t ρ' v H' z2 z1
        · exact q.elim
      · split at q
        · rename_i outs eo
          obtain ⟨q2, q3⟩ := q
          obtain ⟨Gc, fs, ft, d⟩ := s'
          cases d with
          | mk g0 gh h0 tup new slots temps nd own pin =>
          cases temps with
          | nil =>
          obtain ⟨fo, w1, w2⟩ := outs_own slots eo
          have sb : List.Sublist (fo ++ []) (fs ++ []) := List.Sublist.append_right w2 _
          obtain ⟨ρ', z1, z2⟩ := back (t := .d .none) (v := .non) h0 gh w1 (.d .non) q2 (by simp [T.pure, imm]) (nd.sublist sb) (fun a m => (own a (sb.subset m)).2) (by rw [← w1.len, lp]) q3
          exact hE x ρ' C H' hm z2.pop z1
        · exact q.elim
section
variable {X : Cx} {g : Gm} {k : Nat} {f : Addr} {fd : FuncData} {ps : List Str} {ms : List Bool} {wp : WP} {x : Str} {p pos : Pos} {e : Expr} {es : List Expr} {t : TA} {da : DTA}
def dCall (ms : List Bool) (wp : WP) (EX : Str → Rho → Prop) (da : DTA) : DT := fun ρ Q => da ρ fun cs ρ1 => callD ms wp EX ρ1 cs fun t ρ2 => Q (.t t) ρ2
theorem de_call (F : FnOk X.prog X.w X.K X.mg X.base (L2.CX X.prog X.w) k f fd ps (spD X.K X.mg ms wp)) (hr : Room k X.A) (hg : Gl X x) (hm : X.mg x = some (.ref f)) (hk : PySem.W.keepIn X.K (.ref f) = true) (hb : Binds X.K fd ps []) (tk : Takes X g.w.W)
    (ha : DA X g (e :: es) t da) (hdb : (x == ("__debug__" : Str)) = false := by decide) (he : starEach (e :: es) X.env = (false, eval e X.env) :: starEach es X.env := by rfl) (hpl : (backTo pos (starEach es X.env)).any (·.1) = false := by rfl) :
    DE X g (.Call (.Name x p) (e :: es) [] pos) (tCallS (spD X.K X.mg ms wp) (WE g.w.W) t) (dCall ms wp g.w.ex da) := ⟨pe_callS F hr hg hm hk hb (fun σ => passAt tk σ) ha.pa hdb he hpl, fun B ρ σ τs H Q Q' b s kk h => by
  refine ha.dt B ρ σ τs H _ _ b s (fun cs ρ1 vs H1 hl s1 b1 q1 => ?_) h
  exact s1.called hl q1 (fun t ρ' v H' s' q => kk _ _ _ _ s' b.untail q) fun x ρ' C H' hm s' q => b.wok x C ρ' σ H' [] hm s' q⟩
end
end Dl
set_option Elab.async false
set_option linter.all false
set_option maxRecDepth 100000
set_option maxHeartbeats 4000000
/-! Dl, eighth part: lists. -/
namespace Dl
open PySem PySem.Spec PyProof.Rows L2
theorem lim_le {n : Nat} (h : n ≤ 16777216) : n ≤ sizeLine := by
  rw [sizeLine_eq]
  exact h
theorem lim_lt {n : Nat} (h : n < 16777216) : n < sizeLine := by
  rw [sizeLine_eq]
  exact h
/-- all known -/
def leaves : List T → Option (List PyData)
  | [] => some []
  | .d x :: ts => (leaves ts).map (x :: ·)
  | _ :: _ => none
theorem leaves_d : ∀ ds : List PyData, leaves (ds.map T.d) = some ds
  | [] => rfl
  | d :: ds => by simp [leaves, leaves_d ds]
theorem leaves_eq : ∀ {ts : List T} {ds : List PyData}, leaves ts = some ds → ts = ds.map T.d
  | [], ds, h => by
    simp only [leaves, Option.some.injEq] at h
    subst h
    rfl
  | .d x :: ts, ds, h => by
    rw [leaves] at h
    cases e : leaves ts with
    | none => simp [e] at h
    | some r =>
      rw [e] at h
      simp only [Option.map_some, Option.some.injEq] at h
      subst h
      rw [leaves_eq e]
      rfl
  | .ls _ :: _, _, h => by simp [leaves] at h
  | .tu _ :: _, _, h => by simp [leaves] at h
  | .dk _ :: _, _, h => by simp [leaves] at h
  | .dt _ :: _, _, h => by simp [leaves] at h
/-- what a value holds -/
def look (ρ : Rho) : C → Option T
  | .t x => some x
  | .al j => match ρ[j]? with
    | some (some t) => some t
    | _ => none
/-- a list of known items; a list or a tuple of them -/
def flat : T → Option (List PyData)
  | .d (.list ds) => some ds
  | .ls ts => leaves ts
  | _ => none
def itms : T → Option (List PyData)
  | .d (.list ds) => some ds
  | .d (.tuple ds) => some ds
  | .ls ts => leaves ts
  | _ => none
def asF (o : Option T) (k : List PyData → Prop) : Prop := match o.bind flat with
  | some ds => k ds
  | none => False
def asM (o : Option T) (k : List PyData → Prop) : Prop := match o.bind itms with
  | some ds => k ds
  | none => False
theorem asF_iff {o : Option T} {k : List PyData → Prop} (h : asF o k) : ∃ t ds, o = some t ∧ flat t = some ds ∧ k ds := by
  unfold asF at h
  split at h
  · rename_i ds e
    cases o with
    | none => cases e
    | some t => exact ⟨t, ds, rfl, e, h⟩
  · exact h.elim
theorem asM_iff {o : Option T} {k : List PyData → Prop} (h : asM o k) : ∃ t ds, o = some t ∧ itms t = some ds ∧ k ds := by
  unfold asM at h
  split at h
  · rename_i ds e
    cases o with
    | none => cases e
    | some t => exact ⟨t, ds, rfl, e, h⟩
  · exact h.elim
theorem itms_flat {t : T} {ds : List PyData} (h : flat t = some ds) : itms t = some ds := by
  cases t with
  | d x => cases x <;> first | exact h | cases h
  | ls ts => exact h
  | tu _ => cases h
  | dk _ => cases h
  | dt _ => cases h
section
variable {K : PySem.W.Frag} {B : Base} {ρ : Rho} {σ : L2.St} {τs : List (V × C)} {H : Hp} {v : V} {c : C}
/-- known items, where they lie; any list of them may be handed one by one -/
theorem SI.itms {t : T} {ds : List PyData} (s : SI K B ρ σ ((v, c) :: τs) H) (h1 : look ρ c = some t) (h2 : Dl.itms t = some ds) : ∃ a vs, v = .ref a ∧ (SqL K H a vs ∨ SqT K H a vs) ∧ (Dl.flat t = some ds → SqL K H a vs) ∧ RpL K H vs ds ∧ (∀ f, t = .ls f → H a = some (.lst vs)) ∧
    ∀ vs' ds', (∀ G, RpL K G vs ds → RpL K G vs' ds') → SI K B ρ σ (tmp vs' (ds'.map T.d) ++ τs) H := by
  have go : ∀ {G : Hp} {f : List Addr}, Ex G H → Own K G H v t f → ∃ a vs, v = .ref a ∧ (SqL K H a vs ∨ SqT K H a vs) ∧ (Dl.flat t = some ds → SqL K H a vs) ∧ RpL K G vs ds ∧ (∀ f, t = .ls f → H a = some (.lst vs)) := by
    intro G f gh o
    cases o with
    | d r =>
      rename_i x
      cases x <;> simp [Dl.itms] at h2
      · subst h2
        obtain ⟨a, vs, rfl, q1, q2⟩ := r.listV
        exact ⟨a, vs, rfl, .inl (gh.er.l q1), fun _ => gh.er.l q1, q2, fun f z => (by cases z)⟩
      · subst h2
        obtain ⟨a, vs, rfl, q1, q2⟩ := r.tupV
        exact ⟨a, vs, rfl, .inr (gh.er.t q1), fun z => (by cases z), q2, fun f z => (by cases z)⟩
    | ls hp q =>
      rename_i p vs ts fp
      have e := leaves_eq (show leaves ts = some ds from h2)
      subst e
      exact ⟨p, vs, rfl, .inl (.inl (.inl hp)), fun _ => .inl (.inl hp), (RpL.of_d q).1, fun f z => hp⟩
    | tu _ _ => cases h2
    | dk _ _ _ => cases h2
    | dt _ _ _ => cases h2
  have s0 := s.pop
  obtain ⟨G, fs, ft, k⟩ := s
  cases c with
  | t x =>
    cases h1
    cases k with
    | mk g0 gh h0 tup new slots temps nd own pin =>
    cases temps with
    | t o r =>
      rename_i f fr
      obtain ⟨a, vs, q1, q2, q3, q4, q5⟩ := go gh o
      have sb : List.Sublist (fs ++ fr) (fs ++ (f ++ fr)) := List.Sublist.append_left (List.sublist_append_right _ _) _
      exact ⟨a, vs, q1, q2, q3, q4.mono gh.er, q5, fun vs' ds' hh => ⟨G, fs, [] ++ fr, g0, gh, h0, tup, new, slots, OwnC.join (OwnL.of_d (hh G q4)) r, nd.sublist sb, fun a m => own a (sb.subset m), pin⟩⟩
  | al j =>
    simp only [look] at h1
    split at h1
    · rename_i t' e
      cases h1
      obtain ⟨v', f, w1, w2, _⟩ := k.slot e
      cases k with
      | mk g0 gh h0 tup new slots temps nd own pin =>
      cases temps with
      | al e' r =>
        rw [w1] at e'
        cases e'
        obtain ⟨a, vs, q1, q2, q3, q4, q5⟩ := go gh w2
        exact ⟨a, vs, q1, q2, q3, q4.mono gh.er, q5, fun vs' ds' hh => ⟨G, fs, [] ++ ft, g0, gh, h0, tup, new, slots, OwnC.join (OwnL.of_d (hh G q4)) r, nd, own, pin⟩⟩
    · cases h1
theorem tmp_app {vs ws : List V} {ts us : List T} (h : vs.length = ts.length) : tmp (vs ++ ws) (ts ++ us) = tmp vs ts ++ tmp ws us := by
  unfold tmp
  rw [List.map_append, List.zip_append (by simpa using h)]
/-- a new list of known items -/
theorem SI.newF {vs : List V} {ds : List PyData} {p : Addr} (s : SI K B ρ σ (tmp vs (ds.map T.d) ++ τs) H) (hl : vs.length = ds.length) (hp : H p = none) : SI K B ρ σ ((.ref p, .t (.ls (ds.map T.d))) :: τs) (upd H p (.lst vs)) := s.newL (by simpa using hl) hp
end
theorem atI_len {α β : Type} {xs : List α} {ys : List β} (hl : xs.length = ys.length) {i : Int} {y : β} (h : atI ys i = some y) : ∃ (k : Nat) (x : α), ys[k]? = some y ∧ xs[k]? = some x ∧ atI xs i = some x := by
  unfold atI at h ⊢
  rw [hl]
  cases e : ixN ys.length i with
  | none => simp [e] at h
  | some k =>
    rw [e] at h
    have h' : ys[k]? = some y := h
    have hk : k < xs.length := by
      have := (List.getElem?_eq_some_iff.mp h').1
      omega
    exact ⟨k, xs[k], h', List.getElem?_eq_getElem hk, List.getElem?_eq_getElem hk⟩
section
variable {X : Cx} {g : Gm} {a b e : Expr} {ta tb te : TE} {da db d : DT} {pos : Pos}
/-! ### a[i] -/
def dIx (da db : DT) : DT := fun ρ Q => da ρ fun ca ρ1 => db ρ1 fun cb ρ2 => asI (dat ρ2 cb) fun i => asM (look ρ2 ca) fun ds => match atI ds i with
  | some d => Q (.t (.d d)) ρ2
  | none => False
theorem de_ix (ha : DE X g a ta da) (hb : DE X g b tb db) (hs : PlainIx b := by exact fun _ _ => rfl) : DE X g (.Subscript a b pos) (tOp (rIx X.K) ta tb) (dIx da db) := ⟨pe_ix ix_seq ha.pe hb.pe hs, fun B ρ σ τs H Q Q' bo s k h => by
  refine ha.dt B ρ σ τs H _ _ bo s (fun ca ρ1 x H1 s1 b1 q1 => ?_) h
  refine hb.dt B ρ1 σ _ H1 _ _ b1 s1 (fun cb ρ2 y H2 s2 b2 q2 => ?_) q1
  obtain ⟨i, e1, q3⟩ := asI_iff q2
  obtain ⟨t, ds, e2, e3, q4⟩ := asM_iff q3
  have ry := s2.rp e1
  obtain ⟨p, vs, rfl, w1, w2, w3, w4, w5⟩ := s2.pop.itms e2 e3
  split at q4
  · rename_i d ed
    obtain ⟨kk, v, z1, z2, z3⟩ := atI_len w3.len ed
    have s3 : SI X.K B ρ2 σ ((v, .t (.d d)) :: τs) H2 := w5 [v] [d] fun G r => by
      obtain ⟨v', u1, u2⟩ := r.get z1
      rw [z2] at u1
      cases u1
      exact .cons u2 .nil
    have fin := k _ _ _ _ s3 bo.untail q4
    rcases w1 with w1 | w1
    · exact .inl ⟨p, vs, i, v, rfl, ry.intV, w1, z3, fin⟩
    · exact .inr (.inl ⟨p, vs, i, v, rfl, ry.intV, w1, z3, fin⟩)
  · exact q4.elim⟩
/-- an item of what was just made: it alone is kept -/
def dIxO (da db : DT) : DT := fun ρ Q => da ρ fun ca ρ1 => db ρ1 fun cb ρ2 => asI (dat ρ2 cb) fun i => match ca with
  | .t x => match tupT x with
    | some ts => match atI ts i with
      | some t => Q (.t t) ρ2
      | none => False
    | none => match x with
      | .ls ts => match atI ts i with
        | some t => Q (.t t) ρ2
        | none => False
      | _ => False
  | _ => False
theorem tmp_get {K : PySem.W.Frag} {B : Base} {ρ : Rho} {σ : L2.St} {H : Hp} : ∀ {vs : List V} {ts : List T} {τs : List (V × C)} {k : Nat} {v : V} {t : T}, SI K B ρ σ (tmp vs ts ++ τs) H → vs[k]? = some v → ts[k]? = some t → SI K B ρ σ ((v, .t t) :: τs) H
  | [], _, _, _, _, _, _, h, _ => by simp at h
  | _ :: _, [], _, _, _, _, _, _, h => by simp at h
  | v :: vs, t :: ts, τs, 0, _, _, s, h1, h2 => by
    simp at h1 h2
    subst h1 h2
    have s0 : SI K B ρ σ ((v, .t t) :: (tmp vs ts ++ τs)) H := s
    have s1 : SI K B ρ σ (tmp vs ts ++ ((v, .t t) :: τs)) H := s0.perm List.perm_middle.symm
    exact SI.pops s1
  | v :: vs, t :: ts, τs, k + 1, _, _, s, h1, h2 => by
    have s0 : SI K B ρ σ ((v, .t t) :: (tmp vs ts ++ τs)) H := s
    exact tmp_get (vs := vs) (ts := ts) s0.pop (by simpa using h1) (by simpa using h2)
theorem SI.unlsT {K : PySem.W.Frag} {B : Base} {ρ : Rho} {σ : L2.St} {τs : List (V × C)} {H : Hp} {v : V} {ts : List T} (s : SI K B ρ σ ((v, .t (.ls ts)) :: τs) H) : ∃ a vs, v = .ref a ∧ SqL K H a vs ∧ vs.length = ts.length ∧ SI K B ρ σ (tmp vs ts ++ τs) H := by
  obtain ⟨G, fs, ft, c⟩ := s
  cases c with
  | mk g0 gh h0 tup new slots temps nd own pin =>
  cases temps with
  | t o r =>
  cases o with
  | ls q o =>
  rename_i fr p vs f
  have sb : List.Sublist (fs ++ (f ++ fr)) (fs ++ (p :: f ++ fr)) := List.Sublist.append_left (List.sublist_cons_self _ _) _
  exact ⟨p, vs, rfl, .inl (.inl q), o.len, G, fs, f ++ fr, g0, gh, h0, tup, new, slots, OwnC.join o r, nd.sublist sb, fun a h => own a (sb.subset h), pin⟩
theorem de_ixO (ha : DE X g a ta da) (hb : DE X g b tb db) (hs : PlainIx b := by exact fun _ _ => rfl) : DE X g (.Subscript a b pos) (tOp (rIx X.K) ta tb) (dIxO da db) := ⟨pe_ix ix_seq ha.pe hb.pe hs, fun B ρ σ τs H Q Q' bo s k h => by
  refine ha.dt B ρ σ τs H _ _ bo s (fun ca ρ1 x H1 s1 b1 q1 => ?_) h
  refine hb.dt B ρ1 σ _ H1 _ _ b1 s1 (fun cb ρ2 y H2 s2 b2 q2 => ?_) q1
  obtain ⟨i, e1, q3⟩ := asI_iff q2
  have ry := s2.rp e1
  split at q3
  · rename_i t
    split at q3
    · rename_i ts et
      split at q3
      · rename_i u eu
        obtain ⟨p, vs, rfl, w1, w2, w3⟩ := s2.pop.untupT et
        obtain ⟨kk, v, z1, z2, z3⟩ := atI_len w2 eu
        exact .inr (.inl ⟨p, vs, i, v, rfl, ry.intV, w1, z3, k _ _ _ _ (tmp_get w3 z2 z1) bo.untail q3⟩)
      · exact q3.elim
    · split at q3
      · rename_i ts
        split at q3
        · rename_i u eu
          obtain ⟨p, vs, rfl, w1, w2, w3⟩ := s2.pop.unlsT
          obtain ⟨kk, v, z1, z2, z3⟩ := atI_len w2 eu
          exact .inl ⟨p, vs, i, v, rfl, ry.intV, w1, z3, k _ _ _ _ (tmp_get w3 z2 z1) bo.untail q3⟩
        · exact q3.elim
      · exact q3.elim
  · exact q3.elim⟩
/-- a sign of a text -/
def dIxS (da db : DT) : DT := fun ρ Q => da ρ fun ca ρ1 => db ρ1 fun cb ρ2 => asI (dat ρ2 cb) fun i => asS (dat ρ2 ca) fun z => z.length ≤ 16777216 ∧ match atI z.cps.toList i with
  | some c => Q (.t (.d (.str ⟨#[c]⟩))) ρ2
  | none => False
theorem de_ixS (ha : DE X g a ta da) (hb : DE X g b tb db) (hs : PlainIx b := by exact fun _ _ => rfl) : DE X g (.Subscript a b pos) (tOp (rIx X.K) ta tb) (dIxS da db) := ⟨pe_ix ix_seq ha.pe hb.pe hs, fun B ρ σ τs H Q Q' bo s k h => by
  refine ha.dt B ρ σ τs H _ _ bo s (fun ca ρ1 x H1 s1 b1 q1 => ?_) h
  refine hb.dt B ρ1 σ _ H1 _ _ b1 s1 (fun cb ρ2 y H2 s2 b2 q2 => ?_) q1
  obtain ⟨i, e1, q3⟩ := asI_iff q2
  obtain ⟨z, e2, hz, q4⟩ := asS_iff q3
  have ry := s2.rp e1
  have rx := s2.pop.rp e2
  split at q4
  · rename_i c ec
    exact .inr (.inr ⟨z, i, c, rx.strV, ry.intV, lim_le hz, ec, k _ _ _ _ (s2.pop.pop.push fun G _ _ => .str _) bo.untail q4⟩)
  · exact q4.elim⟩
/-! ### slices -/
abbrev DTO := Rho → (Option Int → Rho → Prop) → Prop
structure DO (X : Cx) (g : Gm) (e : Option Expr) (to : TO) (t : DTO) : Prop where
  po : PO X e to
  dt : ∀ (B : Base) (ρ : Rho) (σ : L2.St) (τs : List (V × C)) (H : Hp) (Q : Option Int → Hp → Prop) (Q' : Option Int → Rho → Prop), BOk X.K X.mg g B τs → SI X.K B ρ σ τs H → (∀ o ρ' H', SI X.K B ρ' σ τs H' → Q' o ρ' → Q o H') → t ρ Q' → to σ H Q
def oNone : DTO := fun ρ Q => Q none ρ
def oSome (t : DT) : DTO := fun ρ Q => t ρ fun c ρ1 => asI (dat ρ1 c) fun i => Q (some i) ρ1
theorem do_none : DO X g none tNoPart oNone := ⟨po_none, fun B ρ σ τs H Q Q' b s k h => k _ _ _ s h⟩
theorem do_some (h : DE X g e te d) : DO X g (some e) (tPart te) (oSome d) := ⟨po_some h.pe, fun B ρ σ τs H Q Q' b s k h' => by
  refine h.dt B ρ σ τs H _ _ b s (fun c ρ1 v H1 s1 b1 q1 => ?_) h'
  obtain ⟨i, e1, q2⟩ := asI_iff q1
  exact ⟨i, (s1.rp e1).intV, k _ _ _ s1.pop q2⟩⟩
def cutD (xs : List PyData) (lo hi : Option Int) : List PyData := (xs.drop (HT.sIx xs.length 0 lo)).take (HT.sIx xs.length xs.length hi - HT.sIx xs.length 0 lo)
theorem cut_rp {K : PySem.W.Frag} {G : Hp} {vs : List V} {ds : List PyData} (r : RpL K G vs ds) (lo hi : Option Int) : RpL K G (cutV vs lo hi) (cutD ds lo hi) := by
  unfold cutV cutD
  rw [r.len]
  exact (r.drop _).take _
def dSl (da : DT) (l h : DTO) : DT := fun ρ Q => da ρ fun ca ρ1 => l ρ1 fun lo ρ2 => h ρ2 fun hi ρ3 => asF (look ρ3 ca) fun ds => Q (.t (.ls ((cutD ds lo hi).map T.d))) ρ3
theorem de_slice {lo hi : Option Expr} {tl th : TO} {dl dh : DTO} {p2 : Pos} (ha : DE X g a ta da) (hl : DO X g lo tl dl) (hh : DO X g hi th dh) : DE X g (.Subscript a (.Slice lo hi none p2) pos) (tSl (rSlL X.K) ta tl th) (dSl da dl dh) := ⟨pe_slice sl_list ha.pe hl.po hh.po, fun B ρ σ τs H Q Q' b s k h => by
  refine ha.dt B ρ σ τs H _ _ b s (fun ca ρ1 x H1 s1 b1 q1 => ?_) h
  refine hl.dt B ρ1 σ _ H1 _ _ b1 s1 (fun l ρ2 H2 s2 q2 => ?_) q1
  refine hh.dt B ρ2 σ _ H2 _ _ b1 s2 (fun u ρ3 H3 s3 q3 => ?_) q2
  obtain ⟨t, ds, e1, e2, q4⟩ := asF_iff q3
  obtain ⟨p, vs, rfl, w1, w2, w3, w4, w5⟩ := s3.itms e1 (itms_flat e2)
  refine ⟨p, vs, rfl, w2 e2, fun q hq => k _ _ _ _ ?_ b.untail q4⟩
  exact (w5 (cutV vs l u) (cutD ds l u) fun G r => cut_rp r l u).newF (cut_rp w3 l u).len hq⟩
def dRev (da : DT) : DT := fun ρ Q => da ρ fun ca ρ1 => asF (look ρ1 ca) fun ds => Q (.t (.ls (ds.reverse.map T.d))) ρ1
theorem de_rev {k : Nat} {p1 p2 p3 : Pos} (ha : DE X g a ta da) : DE X g (.Subscript a (.Slice none none (some (.UnaryOp .USub (.Constant (.int 1) k p1) p2)) p3) pos) (tRevL X.K ta) (dRev da) := ⟨pe_revL ha.pe, fun B ρ σ τs H Q Q' b s k h => by
  refine ha.dt B ρ σ τs H _ _ b s (fun ca ρ1 x H1 s1 b1 q1 => ?_) h
  obtain ⟨t, ds, e1, e2, q4⟩ := asF_iff q1
  obtain ⟨p, vs, rfl, w1, w2, w3, w4, w5⟩ := s1.itms e1 (itms_flat e2)
  exact ⟨p, vs, rfl, w2 e2, fun q hq => k _ _ _ _ ((w5 vs.reverse ds.reverse fun G r => r.rev).newF (by simp [w3.len]) hq) b.untail q4⟩⟩
/-! ### built-in calls on one value -/
/-- f(x): a new list of what x's items give -/
def dF1 (f : List PyData → (List PyData → Prop) → Prop) (da : DT) : DT := fun ρ Q => da ρ fun ca ρ1 => asF (look ρ1 ca) fun ds => f ds fun es => Q (.t (.ls (es.map T.d))) ρ1
def dListOf (da : DT) : DT := fun ρ Q => da ρ fun ca ρ1 => asM (look ρ1 ca) fun ds => Q (.t (.ls (ds.map T.d))) ρ1
theorem de_listOf {p : Pos} {x : Str} (hg : Gl X x) (hm : X.mg x = none) (hv : bootBuiltins x = some (.type "list")) (h : DE X g e te d) (hn : x ≠ "__name__" := by decide) (hdb : (x == ("__debug__" : Str)) = false := by decide) (hs : starEach [e] X.env = (false, eval e X.env) :: starEach [] X.env := by rfl) :
    DE X g (.Call (.Name x p) [e] [] pos) (tCB (fun xs H Q => ∃ p ys, xs = [.ref p] ∧ (SqL X.K H p ys ∨ SqT X.K H p ys) ∧ ∀ l, H l = none → Q (.ref l) (upd H l (.lst ys))) (tCons te tNil)) (dListOf d) :=
  ⟨pe_callTy call_list_of hg hm hv (pa_cons h.pe pa_nil hs) hn hdb hs, fun B ρ σ τs H Q Q' b s k h' => by
    refine h.dt B ρ σ τs H _ _ b s (fun ca ρ1 x H1 s1 b1 q1 => ?_) h'
    obtain ⟨t, ds, e1, e2, q4⟩ := asM_iff q1
    obtain ⟨p, vs, rfl, w1, w2, w3, w4, w5⟩ := s1.itms e1 e2
    exact ⟨p, vs, rfl, w1, fun q hq => k _ _ _ _ ((w5 vs ds fun G r => r).newF w3.len hq) b.untail q4⟩⟩
def dTupOf (da : DT) : DT := fun ρ Q => da ρ fun ca ρ1 => asF (look ρ1 ca) fun ds => Q (.t (.d (.tuple ds))) ρ1
theorem de_tupOf {p : Pos} (hg : Gl X "tuple") (hm : X.mg "tuple" = none) (h : DE X g e te d) (hs : starEach [e] X.env = (false, eval e X.env) :: starEach [] X.env := by rfl) : DE X g (.Call (.Name "tuple" p) [e] [] pos) (tThen te (kTup X.K)) (dTupOf d) :=
  ⟨pe_tupleOf hg hm h.pe hs, fun B ρ σ τs H Q Q' b s k h' => by
    refine h.dt B ρ σ τs H _ _ b s (fun ca ρ1 x H1 s1 b1 q1 => ?_) h'
    obtain ⟨t, ds, e1, e2, q4⟩ := asF_iff q1
    obtain ⟨p, vs, rfl, w1, w2, w3, w4, w5⟩ := s1.itms e1 (itms_flat e2)
    exact .inl ⟨p, vs, rfl, w2 e2, fun q hq => k _ _ _ _ (SI.newT (w5 vs ds fun G r => r) w3.len hq) b.untail q4⟩⟩
/-- how many -/
def lenT : T → Option Nat
  | .d (.list ds) => some ds.length
  | .d (.tuple ds) => some ds.length
  | .ls ts => some ts.length
  | .tu ts => some ts.length
  | _ => none
def dLen (da : DT) : DT := fun ρ Q => da ρ fun ca ρ1 => match (look ρ1 ca).bind lenT with
  | some n => Q (.t (.d (.int (n : Nat)))) ρ1
  | none => False
theorem SI.lenT {K : PySem.W.Frag} {B : Base} {ρ : Rho} {σ : L2.St} {τs : List (V × C)} {H : Hp} {v : V} {c : C} {n : Nat} (s : SI K B ρ σ ((v, c) :: τs) H) (h : (look ρ c).bind Dl.lenT = some n) : ∃ a vs, v = .ref a ∧ (SqL K H a vs ∨ SqT K H a vs) ∧ vs.length = n := by
  have go : ∀ {t : T}, Rp K H v t.data → Dl.lenT t = some n → ∃ a vs, v = .ref a ∧ (SqL K H a vs ∨ SqT K H a vs) ∧ vs.length = n := by
    intro t r h
    cases t with
    | d x =>
      cases x <;> simp [Dl.lenT] at h
      · rw [data_d] at r
        obtain ⟨a, vs, q1, q2, q3⟩ := r.listV
        exact ⟨a, vs, q1, .inl q2, by rw [q3.len, h]⟩
      · rw [data_d] at r
        obtain ⟨a, vs, q1, q2, q3⟩ := r.tupV
        exact ⟨a, vs, q1, .inr q2, by rw [q3.len, h]⟩
    | ls ts =>
      simp [Dl.lenT] at h
      rw [data_ls] at r
      obtain ⟨a, vs, q1, q2, q3⟩ := r.listV
      exact ⟨a, vs, q1, .inl q2, by rw [q3.len, List.length_map, h]⟩
    | tu ts =>
      simp [Dl.lenT] at h
      rw [data_tu] at r
      obtain ⟨a, vs, q1, q2, q3⟩ := r.tupV
      exact ⟨a, vs, q1, .inr q2, by rw [q3.len, List.length_map, h]⟩
    | dk _ => cases h
    | dt _ => cases h
  cases c with
  | t x => exact go (s.rp (x := x.data) rfl) h
  | al j =>
    cases e : ρ[j]? with
    | none => simp [look, e] at h
    | some o =>
      cases o with
      | none => simp [look, e] at h
      | some t => exact go (s.rp (x := t.data) (by simp [dat, e])) (by simpa [look, e] using h)
theorem de_len {p : Pos} (hg : Gl X "len") (hm : X.mg "len" = none) (h : DE X g e te d) (hs : starEach [e] X.env = (false, eval e X.env) :: starEach [] X.env := by rfl) : DE X g (.Call (.Name "len" p) [e] [] pos) (tCB (fun xs H Q => ∃ p ys, xs = [.ref p] ∧ (SqL X.K H p ys ∨ SqT X.K H p ys) ∧ Q (.int ys.length) H) (tCons te tNil)) (dLen d) :=
  ⟨pe_callB call_len_seq hg hm PySem.boot_len (pa_cons h.pe pa_nil hs) (by decide) (by decide) hs, fun B ρ σ τs H Q Q' b s k h' => by
    refine h.dt B ρ σ τs H _ _ b s (fun ca ρ1 x H1 s1 b1 q1 => ?_) h'
    split at q1
    · rename_i n en
      obtain ⟨p, vs, rfl, w1, w2⟩ := s1.lenT en
      refine ⟨p, vs, rfl, w1, ?_⟩
      rw [w2]
      exact k _ _ _ _ (s1.pop.push fun G _ _ => .int _) b.untail q1
    · exact q1.elim⟩
/-! ### displays -/
def ownL : Rho → List C → (List T → Rho → Prop) → Prop
  | ρ, [], k => k [] ρ
  | ρ, c :: cs, k => own ρ c fun t ρ1 => ownL ρ1 cs fun ts ρ2 => k (t :: ts) ρ2
theorem SI.ownL {K : PySem.W.Frag} {B : Base} {σ : L2.St} {H : Hp} : ∀ {vs : List V} {cs : List C} {ρ : Rho} {τs : List (V × C)} {k : List T → Rho → Prop}, SI K B ρ σ (vs.zip cs ++ τs) H → vs.length = cs.length → Dl.ownL ρ cs k → ∃ ts ρ', k ts ρ' ∧ ts.length = vs.length ∧ SI K B ρ' σ (tmp vs ts ++ τs) H
  | [], [], ρ, τs, k, s, _, h => ⟨[], ρ, h, rfl, s⟩
  | [], _ :: _, _, _, _, _, h, _ => by simp at h
  | _ :: _, [], _, _, _, _, h, _ => by simp at h
  | v :: vs, c :: cs, ρ, τs, k, s, hl, h => by
    have s0 : SI K B ρ σ ((v, c) :: (vs.zip cs ++ τs)) H := s
    obtain ⟨x, ρ1, q1, s1⟩ := s0.own h
    have s2 : SI K B ρ1 σ (vs.zip cs ++ ((v, .t x) :: τs)) H := s1.perm List.perm_middle.symm
    obtain ⟨ts, ρ2, q2, l2, s3⟩ := SI.ownL s2 (by simpa using hl) q1
    exact ⟨x :: ts, ρ2, q2, by simp [l2], s3.perm List.perm_middle⟩
def dLst (da : DTA) : DT := fun ρ Q => da ρ fun cs ρ1 => ownL ρ1 cs fun ts ρ2 => ts.length ≤ 16777216 ∧ Q (.t (.ls ts)) ρ2
/-- a tuple of them: known data where all are known -/
def mkTup (ts : List T) : T := match leaves ts with
  | some ds => .d (.tuple ds)
  | none => .tu ts
def dTup (da : DTA) : DT := fun ρ Q => da ρ fun cs ρ1 => ownL ρ1 cs fun ts ρ2 => ts.length ≤ 16777216 ∧ Q (.t (mkTup ts)) ρ2
theorem SI.newU {K : PySem.W.Frag} {B : Base} {ρ : Rho} {σ : L2.St} {τs : List (V × C)} {H : Hp} {vs : List V} {ts : List T} {p : Addr} (s : SI K B ρ σ (tmp vs ts ++ τs) H) (hl : vs.length = ts.length) (hp : H p = none) : SI K B ρ σ ((.ref p, .t (.tu ts)) :: τs) (upd H p (.tup vs)) := by
  obtain ⟨G, fs, ft, c⟩ := s
  obtain ⟨fg, fh, fn⟩ := c.free hp
  have k := c.keep (o := .tup vs) hp
  obtain ⟨f, fr, h1, h2, rfl⟩ := c.temps.split hl
  have gx : Ex G (upd G p (.tup vs)) := ex_upd (Ex.refl G) fg
  refine ⟨upd G p (.tup vs), fs, f ++ fr, c.g0.trans gx, fun a o e => ?_, ex_upd c.h0 fh, fun a o ho e => ?_, fun a q1 q2 => ?_, c.slots.mono gx.er fun a h => k a (List.mem_append_left _ h),
    .t (.tu upd_same (h1.mono gx.er fun a h => k a (List.mem_append_right _ (List.mem_append_left _ h)))) (h2.mono gx.er fun a h => k a (List.mem_append_right _ (List.mem_append_right _ h))), c.nd, fun a h => ?_, c.pin⟩
  · by_cases ha : a = p
    · subst ha
      rw [upd_same] at e
      rw [upd_same]
      exact e
    · rw [upd_ne ha] at e
      rw [upd_ne ha]
      exact c.gh _ _ e
  · by_cases ha : a = p
    · subst ha
      rw [upd_same] at e
      rw [upd_same]
      exact e
    · rw [upd_ne ha] at e
      rw [upd_ne ha]
      exact c.tup _ _ ho e
  · by_cases ha : a = p
    · subst ha
      exact absurd fh q2
    · rw [upd_ne ha]
      exact c.new a q1 q2
  · have na : a ≠ p := fun e => by
      subst e
      exact fn h
    rw [upd_ne na]
    exact c.own a h
theorem SI.newTup {K : PySem.W.Frag} {B : Base} {ρ : Rho} {σ : L2.St} {τs : List (V × C)} {H : Hp} {vs : List V} {ts : List T} {p : Addr} (s : SI K B ρ σ (tmp vs ts ++ τs) H) (hl : vs.length = ts.length) (hp : H p = none) : SI K B ρ σ ((.ref p, .t (mkTup ts)) :: τs) (upd H p (.tup vs)) := by
  unfold mkTup
  split
  · rename_i ds e
    have e' := leaves_eq e
    subst e'
    exact SI.newT s (by simpa using hl) hp
  · exact s.newU hl hp
theorem SI.frzL {K : PySem.W.Frag} {B : Base} {ρ : Rho} {σ : L2.St} {H : Hp} : ∀ {vs : List V} {ts : List T} {τs : List (V × C)}, SI K B ρ σ (tmp vs ts ++ τs) H → SI K B ρ σ (tmp vs ((ts.map T.data).map T.d) ++ τs) H
  | [], ts, τs, s => by simpa [tmp] using s
  | _ :: _, [], τs, s => by simpa [tmp] using s
  | v :: vs, t :: ts, τs, s => by
    have s0 : SI K B ρ σ ((v, .t t) :: (tmp vs ts ++ τs)) H := s
    have s1 : SI K B ρ σ (tmp vs ts ++ ((v, .t (.d t.data)) :: τs)) H := s0.frz.perm List.perm_middle.symm
    exact (SI.frzL s1).perm List.perm_middle
variable {es : List Expr} {tA : TA} {dA : DTA}
theorem de_lst (h : DA X g es tA dA) : DE X g (.List es pos) (tLst tA) (dLst dA) := ⟨pe_lst h.pa, fun B ρ σ τs H Q Q' b s k h' => by
  refine h.dt B ρ σ τs H _ _ b s (fun cs ρ1 vs H1 hl s1 b1 q1 => ?_) h'
  obtain ⟨ts, ρ2, ⟨q2, q3⟩, l2, s2⟩ := s1.ownL hl q1
  exact ⟨lim_le (by omega), fun p hp => k _ _ _ _ (s2.newL l2.symm hp) b.untail q3⟩⟩
theorem de_tup {x1 : Nat} (h : DA X g es tA dA) : DE X g (.Tuple es x1 pos) (tTup tA) (dTup dA) := ⟨pe_tup h.pa, fun B ρ σ τs H Q Q' b s k h' => by
  refine h.dt B ρ σ τs H _ _ b s (fun cs ρ1 vs H1 hl s1 b1 q1 => ?_) h'
  obtain ⟨ts, ρ2, ⟨q2, q3⟩, l2, s2⟩ := s1.ownL hl q1
  exact ⟨lim_le (by omega), fun p hp => k _ _ _ _ (s2.newTup l2.symm hp) b.untail q3⟩⟩
/-! ### list(range(..)) -/
def dLR1 (da : DT) : DT := fun ρ Q => da ρ fun c ρ1 => asI (dat ρ1 c) fun n => -(2 ^ 62) ≤ n ∧ n ≤ 16777216 ∧ Q (.t (.ls ((upI 0 n.toNat).map T.d))) ρ1
theorem rg_rp {K : PySem.W.Frag} {G : Hp} {i j : Int} : RpL K G (rgV i j) (upI i (j - i).toNat) := by
  unfold rgV upI
  induction (List.range (j - i).toNat) with
  | nil => exact .nil
  | cons x xs ih => exact .cons (.int _) ih
theorem de_listRg1 {p p' : Pos} (hc : X.calm = true) (hg : Gl X "list") (hm : X.mg "list" = none) (hg2 : Gl X "range") (hm2 : X.mg "range" = none) (h : DE X g e te d) (hs : starEach [e] X.env = (false, eval e X.env) :: starEach [] X.env := by rfl)
    (hs2 : starEach [.Call (.Name "range" p') [e] [] pos'] X.env = (false, eval (.Call (.Name "range" p') [e] [] pos') X.env) :: starEach [] X.env := by rfl) :
    DE X g (.Call (.Name "list" p) [.Call (.Name "range" p') [e] [] pos'] [] pos) (tLstRg (tRg1 te)) (dLR1 d) := ⟨pe_listRg hc hg hm (prg_1 hg2 hm2 h.pe hs) hs2, fun B ρ σ τs H Q Q' b s k h' => by
  refine h.dt B ρ σ τs H _ _ b s (fun ca ρ1 x H1 s1 b1 q1 => ?_) h'
  obtain ⟨n, e1, q2, q3, q4⟩ := asI_iff q1
  refine ⟨n, (s1.rp e1).intV, ⟨by decide, by decide, q2, by omega, by omega⟩, fun q hq => k _ _ _ _ ?_ b.untail q4⟩
  have e0 : (n - 0).toNat = n.toNat := by omega
  have r0 : ∀ G, RpL X.K G (rgV 0 n) (upI 0 n.toNat) := fun G => by
    have := rg_rp (K := X.K) (G := G) (i := 0) (j := n)
    rw [e0] at this
    exact this
  exact SI.newLd s1.pop (fun G _ _ _ => r0 G) hq⟩
/-! ### list + list, list * n -/
def dCat (da db : DT) : DT := fun ρ Q => da ρ fun ca ρ1 => db ρ1 fun cb ρ2 => asF (look ρ2 ca) fun xs => asF (look ρ2 cb) fun ys => xs.length + ys.length ≤ 16777216 ∧ Q (.t (.ls ((xs ++ ys).map T.d))) ρ2
def rCatS (K : PySem.W.Frag) : R2 := fun x y H Q => ∃ l b xs zs, x = .ref l ∧ y = .ref b ∧ SqL K H l xs ∧ SqL K H b zs ∧ xs.length + zs.length ≤ sizeLine ∧ ∀ p, H p = none → Q (.ref p) (upd H p (.lst (xs ++ zs)))
theorem op_catS : OpR X (binaryOp .Add) (rCatS X.K) := by
  intro pins s σ H x y v u Q I rx ry h
  obtain ⟨l, b, xs, zs, rfl, rfl, hH, hB, hz, q⟩ := h
  cases rx
  cases ry
  obtain ⟨its, r, ⟨⟨cls, dd, data, sl⟩, n, ho, hc, hdn, hd⟩, hz1⟩ := I.list hH
  obtain ⟨its2, r2, ⟨⟨cls2, dd2, data2, sl2⟩, n2, ho2, hc2, hdn2, hd2⟩, hz2⟩ := I.list hB
  simp only at hc hd hc2 hd2 hdn hdn2
  subst hc hd hc2 hd2 hdn hdn2
  have e : its.toArray ++ its2.toArray = (its ++ its2).toArray := by simp
  have l1 := r.length
  have l2 := r2.length
  refine concat_meets ⟨_, ho, rfl⟩ ⟨_, ho2, rfl⟩ noFill_list_add seq_list_add PySem.F.slot_list_add PySem.F.entry_list_add (PySem.F.args_list_add_2 _ _) (list_addW l b its.toArray its2.toArray n n2 none none sl sl2 (by rw [List.size_toArray, List.size_toArray]; omega)) ⟨ho, ho2, ?_⟩
  rw [e]
  exact ⟨.ref _, _, I.lnew (t' := s.toks) (r.append r2) (by rw [List.length_append]; omega), rfl, q _ I.fresh⟩
theorem de_cat (ha : DE X g a ta da) (hb : DE X g b tb db) : DE X g (.BinOp a .Add b pos) (tOp (rCatS X.K) ta tb) (dCat da db) := ⟨pe_op op_catS ha.pe hb.pe, fun B ρ σ τs H Q Q' bo s k h => by
  refine ha.dt B ρ σ τs H _ _ bo s (fun ca ρ1 x H1 s1 b1 q1 => ?_) h
  refine hb.dt B ρ1 σ _ H1 _ _ b1 s1 (fun cb ρ2 y H2 s2 b2 q2 => ?_) q1
  obtain ⟨t1, xs, e1, e2, q3⟩ := asF_iff q2
  obtain ⟨t2, ys, e3, e4, hz, q4⟩ := asF_iff q3
  obtain ⟨pb, ws, rfl, w1, w2, w3, w4, w5⟩ := s2.itms e3 (itms_flat e4)
  have s3 : SI X.K B ρ2 σ ((x, ca) :: (tmp ws (ys.map T.d) ++ τs)) H2 := (w5 ws ys fun G r => r).perm List.perm_middle
  obtain ⟨pa, vs, rfl, z1, z2, z3, z4, z5⟩ := s3.itms e1 (itms_flat e2)
  have s4 := z5 vs xs fun G r => r
  have s5 : SI X.K B ρ2 σ (tmp (vs ++ ws) ((xs ++ ys).map T.d) ++ τs) H2 := by
    rw [List.map_append, tmp_app (by simp [z3.len]), List.append_assoc]
    exact s4
  refine ⟨pa, pb, vs, ws, rfl, rfl, z2 e2, w2 e4, lim_le (by rw [z3.len, w3.len]; exact hz), fun p hp => k _ _ _ _ (s5.newF (by simp [z3.len, w3.len]) hp) bo.untail q4⟩⟩
/-- a new list so many times -/
def dRep (da db : DT) : DT := fun ρ Q => da ρ fun ca ρ1 => db ρ1 fun cb ρ2 => asI (dat ρ2 cb) fun n => match ca with
  | .t (.ls ts) => match leaves ts with
    | some ds => -(2 ^ 63) ≤ n ∧ n < 2 ^ 63 ∧ ds.length * n.toNat ≤ 16777216 ∧ Q (.t (.ls (((List.replicate n.toNat ds).flatten).map T.d))) ρ2
    | none => False
  | _ => False
theorem RpL.reps {K : PySem.W.Frag} {G : Hp} {vs : List V} {ds : List PyData} (r : RpL K G vs ds) : ∀ n : Nat, RpL K G (List.replicate n vs).flatten (List.replicate n ds).flatten
  | 0 => .nil
  | n + 1 => by
    rw [List.replicate_succ, List.replicate_succ, List.flatten_cons, List.flatten_cons]
    exact r.append (RpL.reps r n)
theorem de_rep (ha : DE X g a ta da) (hb : DE X g b tb db) : DE X g (.BinOp a .Mult b pos) (tOp rRep ta tb) (dRep da db) := ⟨pe_op op_rep ha.pe hb.pe, fun B ρ σ τs H Q Q' bo s k h => by
  refine ha.dt B ρ σ τs H _ _ bo s (fun ca ρ1 x H1 s1 b1 q1 => ?_) h
  refine hb.dt B ρ1 σ _ H1 _ _ b1 s1 (fun cb ρ2 y H2 s2 b2 q2 => ?_) q1
  obtain ⟨n, e1, q3⟩ := asI_iff q2
  have ry := s2.rp e1
  split at q3
  · rename_i ts
    split at q3
    · rename_i ds eds
      obtain ⟨h1, h2, h3, q4⟩ := q3
      obtain ⟨p, vs, rfl, w1, w2, w3, w4, w5⟩ := s2.pop.itms (t := .ls ts) rfl eds
      refine ⟨p, n, vs, rfl, ry.intV, w4 _ rfl, h1, h2, lim_le (by rw [w3.len]; exact h3), fun q hq => k _ _ _ _ ((w5 _ _ fun G r => r.reps n.toNat).newF ?_ hq) bo.untail q4⟩
      exact (w3.reps n.toNat).len
    · exact q3.elim
  · exact q3.elim⟩
end
end Dl
set_option Elab.async false
set_option linter.all false
set_option maxRecDepth 100000
set_option maxHeartbeats 4000000
/-! Dl, ninth part: lists changed in place; comprehensions; x op= e. -/
namespace Dl
open PySem PySem.Spec PyProof.Rows L2
def atLs (ρ : Rho) (j : Nat) (k : List T → Prop) : Prop := match ρ[j]? with
  | some (some (.ls ts)) => k ts
  | _ => False
theorem atLs_iff {ρ : Rho} {j : Nat} {k : List T → Prop} (h : atLs ρ j k) : ∃ ts, ρ[j]? = some (some (.ls ts)) ∧ k ts := by
  unfold atLs at h
  split at h
  · rename_i ts e
    exact ⟨ts, e, h⟩
  · exact h.elim
section
variable {K : PySem.W.Frag} {B : Base} {ρ : Rho} {σ : L2.St} {τs : List (V × C)} {H : Hp} {v : V} {c : C}
theorem SI.ls {ts : List T} {j : Nat} (s : SI K B ρ σ τs H) (e : ρ[j]? = some (some (.ls ts))) : ∃ p vs, σ[j]? = some (some (.ref p)) ∧ H p = some (.lst vs) ∧ vs.length = ts.length := by
  obtain ⟨G, fs, ft, k⟩ := s
  obtain ⟨v, f, h1, h2, _⟩ := k.slot e
  cases h2 with
  | ls hp o => exact ⟨_, _, h1, hp, o.len⟩
end
section
variable {X : Cx} {g : Gm} {e e2 : Expr} {te te2 : TE} {d d2 : DT} {pos : Pos} {x : Str} {np apos cpos : Pos}
theorem vis_or (j : Nat) {x : Str} {pos : Pos} (hN : X.N[j]? = some x) (hv : Vis X.env.scope x) (hd : (x == ("__debug__" : Str)) = false) (hcd : (x == ("__classdict__" : Str)) = false) : PE X (.Name x pos) (tVar j) := pv j hN hv hd hcd
/-- x.append(e) -/
def dApp (j : Nat) (d : DT) : DT := fun ρ Q => atLs ρ j fun _ => d ρ fun c ρ1 => own ρ1 c fun t ρ2 => atLs ρ2 j fun ts => ts.length < 16777216 ∧ Q (.t (.d .none)) (ρ2.set j (some (.ls (ts ++ [t]))))
theorem tyL {p : Addr} {vs : List V} {K : PySem.W.Frag} {H : Hp} (h : H p = some (.lst vs)) : tyV K "list" (.ref p) H := .inl ⟨rfl, _, .inl (.inl h)⟩
theorem de_append (j : Nat) (h : DE X g e te d) (hN : X.N[j]? = some x := by rfl) (hv : Vis X.env.scope x := by first | exact Or.inl rfl | exact Or.inr (Or.inl rfl) | exact Or.inr (Or.inr rfl))
    (hd : (x == ("__debug__" : Str)) = false := by decide) (hcd : (x == ("__classdict__" : Str)) = false := by decide)
    (hbase : attributeBase (.Name x np) "append" X.env (eval (.Name x np) X.env) = eval (.Name x np) X.env := by rfl)
    (hfew : ((backTo cpos (starEach (e :: []) X.env)).all (fun x => !x.1) && (backToKw cpos (keywordEach [] X.env)).all (fun x => x.1.isSome)
      && decide ((e :: []).length + ([] : List Keyword).length + (if ([] : List Keyword).isEmpty then 0 else 1) < 30)) = true := by rfl)
    (hline : (apos.endLine == cpos.line) = true := by rfl) (hs : starEach (e :: []) X.env = (false, eval e X.env) :: starEach [] X.env := by rfl) (hplain : (backTo cpos (starEach [] X.env)).any (·.1) = false := by rfl) :
    DE X g (.Call (.Attribute (.Name x np) "append" apos) [e] [] cpos) (tBM X.K "list" rAppend (tVar j) (tCons te tNil)) (dApp j d) :=
  ⟨pe_bm PySem.F.plainAttrs_list PySem.F.slot_list_append PySem.F.type_list_append mt_append (vis_or j hN hv hd hcd) (pa_cons h.pe pa_nil hs) hbase hfew hline hs hplain, fun B ρ σ τs H Q Q' b s k h' => by
    obtain ⟨ts0, e0, h'⟩ := atLs_iff h'
    obtain ⟨p, vs0, z1, z2, _⟩ := s.ls e0
    refine ⟨.ref p, z1, tyL z2, h.dt B ρ σ τs H _ _ b s (fun c ρ1 y H1 s1 b1 q1 => ?_) h'⟩
    obtain ⟨t, ρ2, q2, s2⟩ := s1.own q1
    obtain ⟨ts, e1, hz, q3⟩ := atLs_iff q2
    obtain ⟨p', L, M, w1, w2, w3, w4, w5, w6⟩ := SI.write (vs := [y]) (xs := [t]) s2 rfl e1
    rw [z1] at w1
    cases w1
    have s3 := w6 (L ++ M) [] (L ++ M) (by rw [List.append_nil]) (List.Sublist.refl _)
    rw [List.map_append, List.map_append, ← w3, ← w4, ← w5] at s3
    refine ⟨p, _, y, rfl, rfl, w2, lim_lt (by rw [List.length_map]; rw [w3, List.length_map] at hz; exact hz), ?_⟩
    exact k _ _ _ _ (SI.push s3 fun G _ _ => .non) b.untail q3⟩
/-- x.insert(i, e) -/
def dIns (j : Nat) (d d2 : DT) : DT := fun ρ Q => atLs ρ j fun _ => d ρ fun c ρ1 => d2 ρ1 fun c2 ρ2 => asI (dat ρ2 c) fun i => own ρ2 c2 fun t ρ3 => atLs ρ3 j fun ts => ts.length < 16777216 ∧ 0 ≤ i ∧ i < 2 ^ 63 ∧ Q (.t (.d .none)) (ρ3.set j (some (.ls (ts.take i.toNat ++ [t] ++ ts.drop i.toNat))))
theorem de_insert (j : Nat) (h : DE X g e te d) (h2 : DE X g e2 te2 d2) (hN : X.N[j]? = some x := by rfl) (hv : Vis X.env.scope x := by first | exact Or.inl rfl | exact Or.inr (Or.inl rfl) | exact Or.inr (Or.inr rfl))
    (hd : (x == ("__debug__" : Str)) = false := by decide) (hcd : (x == ("__classdict__" : Str)) = false := by decide)
    (hbase : attributeBase (.Name x np) "insert" X.env (eval (.Name x np) X.env) = eval (.Name x np) X.env := by rfl)
    (hfew : ((backTo cpos (starEach (e :: [e2]) X.env)).all (fun x => !x.1) && (backToKw cpos (keywordEach [] X.env)).all (fun x => x.1.isSome)
      && decide ((e :: [e2]).length + ([] : List Keyword).length + (if ([] : List Keyword).isEmpty then 0 else 1) < 30)) = true := by rfl)
    (hline : (apos.endLine == cpos.line) = true := by rfl) (hs : starEach (e :: [e2]) X.env = (false, eval e X.env) :: starEach [e2] X.env := by rfl) (hs2 : starEach (e2 :: []) X.env = (false, eval e2 X.env) :: starEach [] X.env := by rfl) (hplain : (backTo cpos (starEach [e2] X.env)).any (·.1) = false := by rfl) :
    DE X g (.Call (.Attribute (.Name x np) "insert" apos) [e, e2] [] cpos) (tBM X.K "list" (fun x vs H Q => ∃ (l : Addr) (xs : List V) (i : Int) (y : V), x = .ref l ∧ vs = [.int i, y] ∧ H l = some (.lst xs) ∧ xs.length < sizeLine ∧ 0 ≤ i ∧ i < 2 ^ 63 ∧
    Q .non (upd H l (.lst (xs.take i.toNat ++ [y] ++ xs.drop i.toNat)))) (tVar j) (tCons te (tCons te2 tNil))) (dIns j d d2) :=
  ⟨pe_bm PySem.F.plainAttrs_list PySem.F.slot_list_insert PySem.F.type_list_insert mt_insert (vis_or j hN hv hd hcd) (pa_cons h.pe (pa_cons h2.pe pa_nil hs2) hs) hbase hfew hline hs hplain, fun B ρ σ τs H Q Q' b s k h' => by
    obtain ⟨ts0, e0, h'⟩ := atLs_iff h'
    obtain ⟨p, vs0, z1, z2, _⟩ := s.ls e0
    refine ⟨.ref p, z1, tyL z2, h.dt B ρ σ τs H _ _ b s (fun c ρ1 y H1 s1 b1 q1 => ?_) h'⟩
    refine h2.dt B ρ1 σ _ H1 _ _ b1 s1 (fun c2 ρ2 y2 H2 s2 b2 q2 => ?_) q1
    obtain ⟨i, ei, q2⟩ := asI_iff q2
    have ry := (s2.pop.rp ei).intV
    have s2' : SI X.K B ρ2 σ ((y2, c2) :: τs) H2 := SI.pop (SI.perm s2 (List.Perm.swap _ _ _))
    obtain ⟨t, ρ3, q3, s3⟩ := s2'.own q2
    obtain ⟨ts, e1, hz, hi, hi2, q4⟩ := atLs_iff q3
    obtain ⟨p', L, M, w1, w2, w3, w4, w5, w6⟩ := SI.write (vs := [y2]) (xs := [t]) s3 rfl e1
    rw [z1] at w1
    cases w1
    have pm : List.Perm (L ++ M) ((L.take i.toNat ++ M ++ L.drop i.toNat) ++ []) := by
      rw [List.append_nil, List.append_assoc]
      conv => lhs; rw [← List.take_append_drop i.toNat L]
      rw [List.append_assoc]
      exact List.Perm.append_left _ List.perm_append_comm
    have s4 := w6 (L.take i.toNat ++ M ++ L.drop i.toNat) [] (L ++ M) pm (List.Sublist.refl _)
    simp only [List.map_append, List.map_take, List.map_drop] at s4
    rw [← w3, ← w4, ← w5] at s4
    subst ry
    refine ⟨p, _, i, y2, rfl, rfl, w2, lim_lt (by rw [List.length_map]; rw [w3, List.length_map] at hz; exact hz), hi, hi2, ?_⟩
    exact k _ _ _ _ (SI.push s4 fun G _ _ => .non) b.untail q4⟩
/-- x.pop() -/
def dPop (j : Nat) : DT := fun ρ Q => atLs ρ j fun ts => match ts.getLast? with
  | some t => Q (.t t) (ρ.set j (some (.ls ts.dropLast)))
  | none => False
theorem de_pop (j : Nat) (hN : X.N[j]? = some x := by rfl) (hv : Vis X.env.scope x := by first | exact Or.inl rfl | exact Or.inr (Or.inl rfl) | exact Or.inr (Or.inr rfl))
    (hd : (x == ("__debug__" : Str)) = false := by decide) (hcd : (x == ("__classdict__" : Str)) = false := by decide)
    (hbase : attributeBase (.Name x np) "pop" X.env (eval (.Name x np) X.env) = eval (.Name x np) X.env := by rfl)
    (hline : (apos.endLine == cpos.line) = true := by rfl) :
    DE X g (.Call (.Attribute (.Name x np) "pop" apos) [] [] cpos) (tBM0 X.K "list" rPop (tVar j)) (dPop j) :=
  ⟨pe_bm0 PySem.F.plainAttrs_list PySem.F.slot_list_pop PySem.F.type_list_pop mt_pop (vis_or j hN hv hd hcd) hbase hline, fun B ρ σ τs H Q Q' b s k h' => by
    obtain ⟨ts, e1, h'⟩ := atLs_iff h'
    obtain ⟨p, L, M, w1, w2, w3, w4, w5, w6⟩ := SI.write (vs := []) (xs := []) (τs := τs) s rfl e1
    have hM : M = [] := by
      cases M with
      | nil => rfl
      | cons m ms => simp at w4
    subst hM
    refine ⟨.ref p, w1, tyL w2, ?_⟩
    split at h'
    · rename_i t et
      obtain ⟨L0, z, rfl⟩ : ∃ L0 z, L = L0 ++ [z] := by
        cases hL : L.getLast? with
        | none =>
          rw [List.getLast?_eq_none_iff] at hL
          subst hL
          subst w3
          simp at et
        | some z =>
          obtain ⟨L0, e0⟩ := List.getLast?_eq_some_iff.mp hL
          exact ⟨L0, z, e0⟩
      have e3 : ts.dropLast = L0.map (·.2.1) := by rw [w3]; simp
      have e4 : t = z.2.1 := by
        rw [w3] at et
        simpa using et.symm
      have s2 := w6 L0 [z] (L0 ++ [z]) (List.Perm.refl _) (by rw [List.append_nil]; exact List.Sublist.refl _)
      refine ⟨p, _, z.1, rfl, rfl, w2, by simp, ?_⟩
      rw [e3, e4] at h'
      have s3 : SI X.K B (ρ.set j (some (.ls (L0.map (·.2.1))))) σ ((z.1, .t z.2.1) :: τs) (upd H p (.lst (L0.map (·.1)))) := s2
      have e5 : ((L0 ++ [z]).map (·.1)).dropLast = L0.map (·.1) := by simp
      rw [e5]
      exact k _ _ _ _ s3 b.untail h'
    · exact h'.elim⟩
/-- x.pop(i) -/
def dPopAt (j : Nat) (d : DT) : DT := fun ρ Q => atLs ρ j fun _ => d ρ fun c ρ1 => asI (dat ρ1 c) fun i => atLs ρ1 j fun ts => ts.length ≤ 16777216 ∧ match ixN ts.length i with
  | some k => match ts[k]? with
    | some t => Q (.t t) (ρ1.set j (some (.ls (ts.eraseIdx k))))
    | none => False
  | none => False
theorem erase_map {α β : Type} (f : α → β) : ∀ (l : List α) (k : Nat), (l.map f).eraseIdx k = (l.eraseIdx k).map f
  | [], _ => by simp
  | _ :: _, 0 => rfl
  | a :: l, k + 1 => by simp [erase_map f l k]
theorem erase_perm {α : Type} : ∀ {l : List α} {k : Nat} {x : α}, l[k]? = some x → List.Perm l (l.eraseIdx k ++ [x])
  | [], _, _, h => by simp at h
  | a :: l, 0, x, h => by
    simp at h
    subst h
    exact (List.perm_append_comm (l₁ := [a]) (l₂ := l))
  | a :: l, k + 1, x, h => by
    have := erase_perm (l := l) (k := k) (x := x) (by simpa using h)
    exact List.Perm.cons a this
theorem de_popAt (j : Nat) (h : DE X g e te d) (hN : X.N[j]? = some x := by rfl) (hv : Vis X.env.scope x := by first | exact Or.inl rfl | exact Or.inr (Or.inl rfl) | exact Or.inr (Or.inr rfl))
    (hd : (x == ("__debug__" : Str)) = false := by decide) (hcd : (x == ("__classdict__" : Str)) = false := by decide)
    (hbase : attributeBase (.Name x np) "pop" X.env (eval (.Name x np) X.env) = eval (.Name x np) X.env := by rfl)
    (hfew : ((backTo cpos (starEach (e :: []) X.env)).all (fun x => !x.1) && (backToKw cpos (keywordEach [] X.env)).all (fun x => x.1.isSome)
      && decide ((e :: []).length + ([] : List Keyword).length + (if ([] : List Keyword).isEmpty then 0 else 1) < 30)) = true := by rfl)
    (hline : (apos.endLine == cpos.line) = true := by rfl) (hs : starEach (e :: []) X.env = (false, eval e X.env) :: starEach [] X.env := by rfl) (hplain : (backTo cpos (starEach [] X.env)).any (·.1) = false := by rfl) :
    DE X g (.Call (.Attribute (.Name x np) "pop" apos) [e] [] cpos) (tBM X.K "list" rPopAt (tVar j) (tCons te tNil)) (dPopAt j d) :=
  ⟨pe_bm PySem.F.plainAttrs_list PySem.F.slot_list_pop PySem.F.type_list_pop mt_popAt (vis_or j hN hv hd hcd) (pa_cons h.pe pa_nil hs) hbase hfew hline hs hplain, fun B ρ σ τs H Q Q' b s k h' => by
    obtain ⟨ts0, e0, h'⟩ := atLs_iff h'
    obtain ⟨p, vs0, z1, z2, _⟩ := s.ls e0
    refine ⟨.ref p, z1, tyL z2, h.dt B ρ σ τs H _ _ b s (fun c ρ1 y H1 s1 b1 q1 => ?_) h'⟩
    obtain ⟨i, ei, q2⟩ := asI_iff q1
    have ry := (s1.rp ei).intV
    obtain ⟨ts, e1, hz, q3⟩ := atLs_iff q2
    obtain ⟨p', L, M, w1, w2, w3, w4, w5, w6⟩ := SI.write (vs := []) (xs := []) (τs := τs) s1.pop rfl e1
    rw [z1] at w1
    cases w1
    have hM : M = [] := by
      cases M with
      | nil => rfl
      | cons m ms => simp at w4
    subst hM
    split at q3
    · rename_i kk ek
      split at q3
      · rename_i t et
        have lt : ts.length = L.length := by rw [w3, List.length_map]
        rw [w3, List.getElem?_map] at et
        cases ez : L[kk]? with
        | none => simp [ez] at et
        | some z =>
          rw [ez] at et
          have et' : t = z.2.1 := by simpa using et.symm
          have s2 := w6 (L.eraseIdx kk) [z] L (erase_perm ez) (by rw [List.append_nil]; exact List.Sublist.refl _)
          obtain ⟨h1, h2, h3, h4⟩ := ixN_seq ek
          subst ry
          refine ⟨p, _, i, kk, z.1, rfl, rfl, w2, by omega, by omega, ?_, ?_, ?_⟩
          · rw [List.length_map, ← lt]
            exact h1
          · rw [List.getElem?_map, ez]
            rfl
          · have s3 : SI X.K B (ρ1.set j (some (.ls ((L.eraseIdx kk).map (·.2.1))))) σ ((z.1, .t z.2.1) :: τs) (upd H1 p (.lst ((L.eraseIdx kk).map (·.1)))) := s2
            rw [w3, erase_map, et'] at q3
            rw [erase_map]
            exact k _ _ _ _ s3 b.untail q3
      · exact q3.elim
    · exact q3.elim⟩
/-- x.clear() -/
def dClear (j : Nat) : DT := fun ρ Q => atLs ρ j fun _ => Q (.t (.d .none)) (ρ.set j (some (.ls [])))
theorem de_clear (j : Nat) (hN : X.N[j]? = some x := by rfl) (hv : Vis X.env.scope x := by first | exact Or.inl rfl | exact Or.inr (Or.inl rfl) | exact Or.inr (Or.inr rfl))
    (hd : (x == ("__debug__" : Str)) = false := by decide) (hcd : (x == ("__classdict__" : Str)) = false := by decide)
    (hbase : attributeBase (.Name x np) "clear" X.env (eval (.Name x np) X.env) = eval (.Name x np) X.env := by rfl)
    (hline : (apos.endLine == cpos.line) = true := by rfl) :
    DE X g (.Call (.Attribute (.Name x np) "clear" apos) [] [] cpos) (tBM0 X.K "list" rClear (tVar j)) (dClear j) :=
  ⟨pe_bm0 PySem.F.plainAttrs_list PySem.F.slot_list_clear PySem.F.type_list_clear mt_clear (vis_or j hN hv hd hcd) hbase hline, fun B ρ σ τs H Q Q' b s k h' => by
    obtain ⟨ts, e1, h'⟩ := atLs_iff h'
    obtain ⟨p, L, M, w1, w2, w3, w4, w5, w6⟩ := SI.write (vs := []) (xs := []) (τs := τs) s rfl e1
    refine ⟨.ref p, w1, tyL w2, p, _, rfl, rfl, w2, ?_⟩
    have s2 := w6 [] [] [] (List.Perm.refl _) (List.nil_sublist _)
    exact k _ _ _ _ (SI.push s2 fun G _ _ => .non) b.untail h'⟩
/-! ### x[i] = e -/
def gSubL (j : Nat) (d : DT) : DTG := fun t ρ Q => atLs ρ j fun _ => d ρ fun c ρ1 => asI (dat ρ1 c) fun i => atLs ρ1 j fun ts => match ixN ts.length i with
  | some k => Q (ρ1.set j (some (.ls (ts.set k t))))
  | none => False
theorem set_perm {α : Type} : ∀ {l : List α} {k : Nat} {y : α}, k < l.length → ∃ S, List.Perm S (l.set k y) ∧ List.Sublist S (l ++ [y])
  | [], _, _, h => by simp at h
  | a :: l, 0, y, _ => ⟨l ++ [y], List.perm_append_comm, List.sublist_cons_self _ _⟩
  | a :: l, k + 1, y, h => by
    obtain ⟨S, h1, h2⟩ := set_perm (l := l) (k := k) (y := y) (by simpa using h)
    exact ⟨a :: S, List.Perm.cons a h1, List.Sublist.cons_cons a h2⟩
theorem dg_sub {cb : Bool} (j : Nat) (h : DE X g e te d) (hj : j < g.n0 := by first | (dsimp only; decide) | decide) (hN : X.N[j]? = some x := by rfl) (hv : Vis X.env.scope x := by first | exact Or.inl rfl | exact Or.inr (Or.inl rfl) | exact Or.inr (Or.inr rfl))
    (hd : (x == ("__debug__" : Str)) = false := by decide) (hcd : (x == ("__classdict__" : Str)) = false := by decide)
    (ha : ∀ v, assign (.Subscript (.Name x np) e pos) X.env v = (do
      let ov ← holding [v] (eval (.Name x np) X.env)
      let iv ← holding [v, ov] (eval e X.env)
      standAt pos
      holding [v, ov, iv] (setItem ov iv v)
      release [v, ov, iv] []) := by intro _; rfl) :
    DG X g cb (.Subscript (.Name x np) e pos) (gSub (tVar j) te rSetL) (gSubL j d) := ⟨pg_sub (vis_or j hN hv hd hcd) h.pe set_list ha, fun B ρ σ τs H v t Q Q' b hn s k h' => by
  obtain ⟨ts0, e0, h'⟩ := atLs_iff h'
  obtain ⟨p, vs0, z1, z2, _⟩ := s.ls e0
  refine ⟨.ref p, z1, h.dt B ρ σ _ H _ _ b.untail s (fun c ρ1 y H1 s1 b1 q1 => ?_) h'⟩
  obtain ⟨i, ei, q2⟩ := asI_iff q1
  have ry := (s1.rp ei).intV
  obtain ⟨ts, e1, q3⟩ := atLs_iff q2
  split at q3
  · rename_i kk ek
    obtain ⟨p', L, M, w1, w2, w3, w4, w5, w6⟩ := SI.write (vs := [v]) (xs := [t]) (τs := τs) s1.pop rfl e1
    rw [z1] at w1
    cases w1
    obtain ⟨m, rfl⟩ : ∃ m, M = [m] := by
      rcases M with _ | ⟨m, _ | ⟨m2, ms⟩⟩
      · simp at w4
      · exact ⟨m, rfl⟩
      · simp at w4
    have lt : ts.length = L.length := by rw [w3, List.length_map]
    obtain ⟨h1, h2, h3, h4⟩ := ixN_seq ek
    obtain ⟨S, p1, p2⟩ := set_perm (l := L) (k := kk) (y := m) (by omega)
    have s2 := w6 (L.set kk m) [] S (by rw [List.append_nil]; exact p1) p2
    have e4 : m.1 = v := by simpa using w4.symm
    have e5 : m.2.1 = t := by simpa using w5.symm
    have a1 : (L.set kk m).map (·.1) = (L.map (·.1)).set kk v := by rw [List.map_set, e4]
    have a2 : (L.set kk m).map (·.2.1) = ts.set kk t := by rw [List.map_set, e5, w3]
    rw [a1, a2] at s2
    refine ⟨p, _, i, kk, rfl, ry, w2, ?_, ?_⟩
    · rw [List.length_map, ← lt]
      exact ek
    · exact k _ _ _ s2 q3
  · exact q3.elim⟩
/-! ### x op= e -/
def dAug (i : Nat) (d : DT) (f : D2) : DTS := fun D ρ => match ρ[i]? with
  | some (some (.d x)) => d ρ fun c ρ1 => f (some x) (dat ρ1 c) fun t => D.nx (ρ1.set i (some t))
  | _ => False
theorem ds_aug {op : Operator} {r : R2} {f : D2} (i : Nat) {pos' : Pos} (h : DE X g e te d) (ho : OpR X (inplaceOp op) r) (hd : DR2 X g r f) (hm : D2m f) (hN : X.N.Nodup) (hi : X.N[i]? = some x := by rfl) (hx : Loc X.env.scope x := by first | exact Or.inl rfl | exact Or.inr rfl) (hp : ¬ i ∈ g.pn := by first | (dsimp only; decide) | decide)
    (hf : X.fn x = true ∨ X.env.scope.names.lookup x = some .local := by first | exact .inl rfl | exact .inr rfl | assumption) :
    DS X g (.AugAssign (.Name x pos') op e pos) (tAug i te r) (dAug i d f) := ⟨ps_aug hN hi hx h.pe ho hf, fun B ρ σ H D D' b s k h' => by
  unfold dAug at h'
  split at h'
  · rename_i x ex
    obtain ⟨v, hv, _⟩ := s.slot ex
    have s0 : SI X.K B ρ σ [(v, .t (.d x))] H := by
      obtain ⟨G, fs, ft, c⟩ := s
      obtain ⟨v', f, h1, h2, h3⟩ := c.slot ex
      rw [hv] at h1
      cases h1
      cases h2 with
      | d r => exact ⟨G, fs, [] ++ ft, { c with temps := .t (.d r) c.temps }⟩
    refine ⟨v, hv, h.dt B ρ σ [(v, .t (.d x))] H _ _ b.untail s0 (fun c ρ1 y H1 s1 b1 q1 => ?_) h'⟩
    refine hd B ρ1 σ [] H1 v y (.t (.d x)) c _ b s1 (hm _ _ _ _ (fun t q v' H' s' => ?_) q1)
    exact k.nx _ _ _ (SI.set' s' (fun p hp => by cases hp) fun p q e => hp (by rw [← e]; exact b.pin p q)) q
  · exact h'.elim⟩
theorem ds_augAdd (i : Nat) {pos' : Pos} (h : DE X g e te d) (hN : X.N.Nodup) (hi : X.N[i]? = some x := by rfl) (hx : Loc X.env.scope x := by first | exact Or.inl rfl | exact Or.inr rfl) (hp : ¬ i ∈ g.pn := by first | (dsimp only; decide) | decide)
    (hf : X.fn x = true ∨ X.env.scope.names.lookup x = some .local := by first | exact .inl rfl | exact .inr rfl | assumption) : DS X g (.AugAssign (.Name x pos') .Add e pos) (tAug i te (rI0 fun i j => .int (i + j))) (dAug i d iAdd) := ds_aug i h iop_add (dr_I0 fun _ _ _ _ => .int _) gI_m hN hi hx hp hf
theorem ds_augSub (i : Nat) {pos' : Pos} (h : DE X g e te d) (hN : X.N.Nodup) (hi : X.N[i]? = some x := by rfl) (hx : Loc X.env.scope x := by first | exact Or.inl rfl | exact Or.inr rfl) (hp : ¬ i ∈ g.pn := by first | (dsimp only; decide) | decide)
    (hf : X.fn x = true ∨ X.env.scope.names.lookup x = some .local := by first | exact .inl rfl | exact .inr rfl | assumption) : DS X g (.AugAssign (.Name x pos') .Sub e pos) (tAug i te (rI0 fun i j => .int (i - j))) (dAug i d iSub) := ds_aug i h iop_sub (dr_I0 fun _ _ _ _ => .int _) gI_m hN hi hx hp hf
theorem ds_augMul (i : Nat) {pos' : Pos} (h : DE X g e te d) (hN : X.N.Nodup) (hi : X.N[i]? = some x := by rfl) (hx : Loc X.env.scope x := by first | exact Or.inl rfl | exact Or.inr rfl) (hp : ¬ i ∈ g.pn := by first | (dsimp only; decide) | decide)
    (hf : X.fn x = true ∨ X.env.scope.names.lookup x = some .local := by first | exact .inl rfl | exact .inr rfl | assumption) : DS X g (.AugAssign (.Name x pos') .Mult e pos) (tAug i te (rI CMul fun i j => .int (i * j))) (dAug i d iMul) := ds_aug i h iop_mul (dr_I fun _ _ _ _ => .int _) gI_m hN hi hx hp hf
end
/-! ### comprehensions -/
def wipeR (ρ : Rho) : List Nat → Rho
  | [] => ρ
  | v :: vs => wipeR (ρ.set v none) vs
section
variable {K : PySem.W.Frag} {B : Base} {ρ : Rho} {σ : L2.St} {τs : List (V × C)} {H : Hp}
theorem wipeR_none : ∀ {vs : List Nat} {ρ : Rho} {i : Nat}, ρ[i]? = some none → (wipeR ρ vs)[i]? = some none
  | [], _, _, h => h
  | v :: vs, ρ, i, h => wipeR_none (vs := vs) (by
      by_cases e : v = i
      · subst e
        rw [List.getElem?_set_self (List.getElem?_eq_some_iff.mp h).1]
      · rw [List.getElem?_set_ne e]
        exact h)
theorem wipeR_len : ∀ {vs : List Nat} {ρ : Rho}, (wipeR ρ vs).length = ρ.length
  | [], _ => rfl
  | v :: vs, ρ => by rw [wipeR, wipeR_len, List.length_set]
theorem set_none {ρ : Rho} {v : Nat} (h : v < ρ.length) : (ρ.set v none)[v]? = some none := by rw [List.getElem?_set_self h]
theorem SI.any' {i : Nat} (o : Option V) (s : SI K B ρ σ τs H) (e : i < ρ.length → ρ[i]? = some none) (na : ∀ p ∈ τs, p.2 ≠ C.al i) (np : ∀ p ∈ B.pin, p.1 ≠ i) : SI K B ρ (σ.set i o) τs H := by
  by_cases h : i < ρ.length
  · exact s.any o (e h) na np
  · rw [List.set_eq_of_length_le (by have := s.len; omega)]
    exact s
theorem SI.wipe : ∀ {vs : List Nat} {ρ : Rho}, SI K B ρ σ τs H → (∀ v ∈ vs, (∀ p ∈ τs, p.2 ≠ C.al v) ∧ ∀ p ∈ B.pin, p.1 ≠ v) → SI K B (wipeR ρ vs) (L2.wipe σ vs) τs H
  | [], _, s, _ => s
  | v :: vs, ρ, s, h => by
    have s1 := SI.wipe (vs := vs) (s.forget (i := v)) fun u hu => h u (List.mem_cons_of_mem _ hu)
    have hv := h v List.mem_cons_self
    refine SI.any' none s1 (fun hl => wipeR_none (ρ := ρ.set v none) ?_) hv.1 hv.2
    rw [wipeR_len] at hl
    exact set_none (by simpa using hl)
theorem SI.unwipe : ∀ {vs : List Nat} {ρ : Rho}, SI K B ρ (L2.wipe σ vs) τs H → (∀ v ∈ vs, (∀ p ∈ τs, p.2 ≠ C.al v) ∧ ∀ p ∈ B.pin, p.1 ≠ v) → SI K B (wipeR ρ vs) σ τs H
  | [], _, s, _ => s
  | v :: vs, ρ, s, h => by
    have hv := h v List.mem_cons_self
    have s1 : SI K B (ρ.set v none) ((L2.wipe σ vs).set v none) τs H := SI.forget (i := v) s
    have s2 := SI.any' ((L2.wipe σ vs)[v]?.getD none) s1 (fun hl => by
      rw [List.length_set] at hl
      rw [List.getElem?_set_self hl]) hv.1 hv.2
    have e : ((L2.wipe σ vs).set v none).set v ((L2.wipe σ vs)[v]?.getD none) = L2.wipe σ vs := by
      rw [List.set_set]
      cases q : (L2.wipe σ vs)[v]? with
      | none => rw [List.set_eq_of_length_le (by simpa using q)]
      | some o => exact set_same q
    rw [e] at s2
    exact SI.unwipe (vs := vs) s2 fun u hu => h u (List.mem_cons_of_mem _ hu)
theorem wipe_get : ∀ {vs : List Nat} {σ : L2.St} {k : Nat}, (L2.wipe σ vs)[k]? = if k ∈ vs then (σ[k]?).map (fun _ => none) else σ[k]?
  | [], σ, k => by simp [L2.wipe]
  | v :: vs, σ, k => by
    show ((L2.wipe σ vs).set v none)[k]? = _
    by_cases e : v = k
    · subst e
      rw [if_pos List.mem_cons_self, List.getElem?_set]
      simp only [if_true]
      by_cases hl : v < σ.length
      · rw [if_pos (by rw [wipe_length]; exact hl), List.getElem?_eq_getElem hl]
        rfl
      · rw [if_neg (by rw [wipe_length]; exact hl), List.getElem?_eq_none (by omega)]
        rfl
    · rw [List.getElem?_set_ne e, wipe_get]
      by_cases m : k ∈ vs
      · rw [if_pos m, if_pos (List.mem_cons_of_mem _ m)]
      · rw [if_neg m, if_neg (fun z => by
          rcases List.mem_cons.mp z with z | z
          · exact e z.symm
          · exact m z)]
theorem wipe_set {vs : List Nat} {σ : L2.St} {i : Nat} {o : Option V} (h : i ∈ vs) : L2.wipe (σ.set i o) vs = L2.wipe σ vs := by
  apply List.ext_getElem?
  intro k
  rw [wipe_get, wipe_get]
  by_cases m : k ∈ vs
  · rw [if_pos m, if_pos m]
    by_cases e : i = k
    · subst e
      rw [List.getElem?_set]
      simp only [if_true]
      by_cases hl : i < σ.length
      · rw [if_pos hl, List.getElem?_eq_getElem hl]
        rfl
      · rw [if_neg hl, List.getElem?_eq_none (by omega)]
    · rw [List.getElem?_set_ne e]
  · rw [if_neg m, if_neg m, List.getElem?_set_ne (fun e => m (by rw [← e]; exact h))]
theorem wipe_wipe {vs : List Nat} {σ : L2.St} : L2.wipe (L2.wipe σ vs) vs = L2.wipe σ vs := by
  apply List.ext_getElem?
  intro k
  rw [wipe_get]
  by_cases m : k ∈ vs
  · rw [if_pos m, wipe_get, if_pos m]
    cases σ[k]? <;> rfl
  · rw [if_neg m]
end
/-- a target of a comprehension's own names -/
def TgW (tg : TG) (vs : List Nat) : Prop := ∀ v σ H (Q : L2.St → Hp → Prop), tg v σ H Q → tg v σ H fun σ2 H2 => L2.wipe σ2 vs = L2.wipe σ vs ∧ Q σ2 H2
def TgsW (tg : TGs) (vs : List Nat) : Prop := ∀ v σ H (Q : L2.St → Hp → Prop), tg v σ H Q → tg v σ H fun σ2 H2 => L2.wipe σ2 vs = L2.wipe σ vs ∧ Q σ2 H2
theorem tw_name {i : Nat} {vs : List Nat} (h : i ∈ vs := by decide) : TgW (gName i) vs := fun v σ H Q q => ⟨wipe_set h, q⟩
theorem tws_nil {vs : List Nat} : TgsW gNil vs := fun v σ H Q ⟨q1, q2⟩ => ⟨q1, rfl, q2⟩
/-- monotone -/
def TgM (tg : TG) : Prop := ∀ v σ H (Q Q' : L2.St → Hp → Prop), (∀ a b, Q a b → Q' a b) → tg v σ H Q → tg v σ H Q'
def TgsM (tg : TGs) : Prop := ∀ v σ H (Q Q' : L2.St → Hp → Prop), (∀ a b, Q a b → Q' a b) → tg v σ H Q → tg v σ H Q'
theorem tm_name {i : Nat} : TgM (gName i) := fun v σ H Q Q' h q => h _ _ q
theorem tms_nil : TgsM gNil := fun v σ H Q Q' h ⟨q1, q2⟩ => ⟨q1, h _ _ q2⟩
theorem tms_cons {t : TG} {u : TGs} (h1 : TgM t) (h2 : TgsM u) : TgsM (gCons t u) := fun v σ H Q Q' h ⟨x, r, e, q⟩ => ⟨x, r, e, h1 _ _ _ _ _ (fun σ1 H1 q1 => h2 _ _ _ _ _ h q1) q⟩
theorem tm_tup {K : PySem.W.Frag} {n : Nat} {t : TGs} (h1 : TgsM t) : TgM (gTup K n t) := fun v σ H Q Q' h ⟨a, xs, q1, q2, q3, q4⟩ => ⟨a, xs, q1, q2, q3, h1 _ _ _ _ _ h q4⟩
theorem tws_cons {t : TG} {u : TGs} {vs : List Nat} (m : TgM t) (h1 : TgW t vs) (h2 : TgsW u vs) : TgsW (gCons t u) vs := fun v σ H Q ⟨x, r, e, q⟩ => ⟨x, r, e, m _ _ _ _ _ (fun σ1 H1 ⟨w, q1⟩ => by
  have := h2 r σ1 H1 Q q1
  rw [w] at this
  exact this) (h1 x σ H _ q)⟩
theorem tw_tup {K : PySem.W.Frag} {n : Nat} {t : TGs} {vs : List Nat} (h : TgsW t vs) : TgW (gTup K n t) vs := fun v σ H Q ⟨a, xs, q1, q2, q3, q4⟩ => ⟨a, xs, q1, q2, q3, h xs σ H Q q4⟩
section
variable {X : Cx} {g : Gm}
structure DTs (X : Cx) (g : Gm) (ifs : List Expr) (tt : TT) (t : DTT) : Prop where
  pts : PTs X ifs tt
  dt : DtT X g tt t
def dYes : DTT := fun ρ Q => Q true ρ
theorem dts_nil : DTs X g [] tYes dYes := ⟨pts_nil, fun B ρ σ τs H Q Q' b s k h => k _ _ _ s h⟩
theorem dts_one {c : Expr} {tt : TT} {t : DTT} (h : DB X g c tt t) : DTs X g [c] tt t := ⟨pts_one h.pt, h.dt⟩
def dLc (di : DTI) (dg : DTG) (tt : DTT) (d : DT) (vs : List Nat) : DT := fun ρ Q => di ρ fun ds ρ1 => ds.length ≤ 16777216 ∧ ∃ I : Nat → List T → Rho → Prop, I 0 [] (wipeR ρ1 vs) ∧
  (∀ i x acc ρ, ds[i]? = some x → I i acc ρ → dg (.d x) ρ fun ρ' => tt ρ' fun b ρ2 => if b = true then d ρ2 fun c ρ3 => own ρ3 c fun t ρ4 => I (i + 1) (acc ++ [t]) (wipeR ρ4 vs) else I (i + 1) acc (wipeR ρ2 vs)) ∧
  ∀ acc ρ, I ds.length acc ρ → Q (.t (.ls acc)) (wipeR ρ vs)
variable {elt tg iter : Expr} {ifs : List Expr} {scope : Scope} {ow : List (Str × Nat)} {pos : Pos} {wi : TI} {gt : TG} {tt : TT} {te : TE} {di : DTI} {dg : DTG} {dtt : DTT} {d : DT}
theorem dt_lc (hv : ∀ v ∈ ow.map (·.2), g.n0 ≤ v ∧ ¬ v ∈ g.pn) (hw : TgW gt (ow.map (·.2))) (hmo : TgM gt) (hi : DtI X g wi di) (hg : DtG X { g with w := Wsh.none } true gt dg) (ht : DtT X { g with w := Wsh.none } tt dtt) (he : Dt X { g with w := Wsh.none } te d) :
    Dt X g (tLc wi gt tt te (ow.map (·.2))) (dLc di dg dtt d (ow.map (·.2))) := fun B ρ σ τs H Q Q' b s k h => by
  have hq : ∀ {B' : Base} {τs' : List (V × C)}, BOk X.K X.mg { g with w := Wsh.none } B' τs' → ∀ v ∈ ow.map (·.2), (∀ p ∈ τs', p.2 ≠ C.al v) ∧ ∀ p ∈ B'.pin, p.1 ≠ v := fun {B' τs'} b' v m => ⟨fun p hp e => by
    have h1 := b'.low p hp v e
    have h2 := (hv v m).1
    have h1' : v < g.n0 := h1
    omega, fun p hp e => (hv v m).2 (by rw [← e]; exact b'.pin p hp)⟩
  refine hi B ρ σ τs H _ _ b s (fun ds ρ1 J H1 B' hpin s1 back W q => ?_) h
  obtain ⟨hz, I, i0, turn, fin⟩ := q
  have b1 : BOk X.K X.mg { g with w := Wsh.none } B' τs := (b.base hpin back).none
  intro D hD
  have s2 : SI X.K B' ρ1 σ ((.ref D, .t (.ls [])) :: τs) (upd H1 D (.lst [])) := SI.newL (vs := []) (ts := []) s1 rfl hD
  have s3 := s2.wipe (hq b1.untail)
  refine ⟨fun i m H' => m = ds.length - i ∧ i ≤ ds.length ∧ ∃ ρ' acc, acc.length ≤ i ∧ SI X.K B' ρ' (L2.wipe σ (ow.map (·.2))) ((.ref D, .t (.ls acc)) :: τs) H' ∧ I i acc ρ', ⟨ds.length, rfl, Nat.zero_le _, _, [], Nat.le_refl _, s3, i0⟩, ?_⟩
  rintro i m H' ⟨rfl, hle, ρ', acc, hacc, s', hI⟩
  by_cases hlt : i < ds.length
  · have e : ds[i]? = some ds[i] := List.getElem?_eq_getElem hlt
    refine .inr ⟨W.go i _ _ _ _ _ e s', fun H2 => ∃ ρ2 acc2, acc2.length ≤ i + 1 ∧ SI X.K B' ρ2 (L2.wipe σ (ow.map (·.2))) ((.ref D, .t (.ls acc2)) :: τs) H2 ∧ I (i + 1) acc2 ρ2, fun H2 ⟨ρ2, acc2, l2, s2, q2⟩ => ⟨ds.length - (i + 1), by omega, rfl, hlt, ρ2, acc2, l2, s2, q2⟩, fun x H2 y => ?_⟩
    have s4 := W.yld i _ _ _ _ _ _ _ e s' y
    -- the target, the word kept
    have key := hg B' ρ' (L2.wipe σ (ow.map (·.2))) ((.ref D, .t (.ls acc)) :: τs) H2 x (.d ds[i]) (fun σ2 H3 => L2.wipe σ2 (ow.map (·.2)) = L2.wipe (L2.wipe σ (ow.map (·.2))) (ow.map (·.2)) → tt σ2 H3 fun b H4 =>
      if b = true then te σ2 H4 fun y H5 => ∃ acc, H5 D = some (.lst acc) ∧ acc.length < sizeLine ∧ (fun H6 => ∃ ρ2 acc2, acc2.length ≤ i + 1 ∧ SI X.K B' ρ2 (L2.wipe σ (ow.map (·.2))) ((.ref D, .t (.ls acc2)) :: τs) H6 ∧ I (i + 1) acc2 ρ2) (upd H5 D (.lst (acc ++ [y])))
      else (fun H6 => ∃ ρ2 acc2, acc2.length ≤ i + 1 ∧ SI X.K B' ρ2 (L2.wipe σ (ow.map (·.2))) ((.ref D, .t (.ls acc2)) :: τs) H6 ∧ I (i + 1) acc2 ρ2) H4) _ b1.untail (fun z => by cases z) s4 (fun ρ3 σ3 H3 s3 q3 hwp => ?_) (turn i ds[i] acc ρ' e hI)
    · have key2 := hw x (L2.wipe σ (ow.map (·.2))) H2 _ key
      exact hmo _ _ _ _ _ (fun σ2 H3 ⟨w, q⟩ => ⟨w.trans wipe_wipe, q w⟩) key2
    · refine ht B' ρ3 σ3 _ H3 _ _ b1.untail s3 (fun bb ρ4 H4 s4 q4 => ?_) q3
      cases bb with
      | true =>
        refine he B' ρ4 σ3 _ H4 _ _ b1.untail s4 (fun c ρ5 yv H5 s5 b5 q5 => ?_) q4
        obtain ⟨t, ρ6, q6, s6⟩ := s5.own q5
        obtain ⟨vs, w1, w2, w3⟩ := s6.app
        have s7 := w3.wipe (hq b1.untail)
        rw [hwp, wipe_wipe] at s7
        exact ⟨vs, w1, lim_lt (by omega), _, acc ++ [t], by simp; omega, s7, q6⟩
      | false =>
        have s7 := s4.wipe (hq b1.untail)
        rw [hwp, wipe_wipe] at s7
        exact ⟨_, acc, by omega, s7, q4⟩
  · have e : i = ds.length := by omega
    subst e
    have s4 := s'.unwipe (hq b1.untail)
    exact .inl ⟨W.stop _ _ _ _ s', k _ _ _ _ (back _ _ _ _ s4) b.untail (fin acc ρ' hI)⟩
/-- [elt for tg in iter if ..] -/
theorem de_lc (hc : X.calm = true) (hN : X.N.Nodup) (hi : DI X g tg iter wi di) (ok : BlkOk X.N X.env.scope scope ow) (hv : ∀ v ∈ ow.map (·.2), g.n0 ≤ v ∧ ¬ v ∈ g.pn) (hw : TgW gt (ow.map (·.2))) (hmo : TgM gt)
    (hg : ∀ (s : Shared) (H : Hp) (C : Addr) (cl : List (Str × Addr)) (fp : List Addr), DG (X.blk s H scope (compEnvC scope cl C X.env) fp) { g with w := Wsh.none } true tg gt dg)
    (ht : ∀ (s : Shared) (H : Hp) (C : Addr) (cl : List (Str × Addr)) (fp : List Addr), DTs (X.blk s H scope (compEnvC scope cl C X.env) fp) { g with w := Wsh.none } ifs tt dtt)
    (he : ∀ (s : Shared) (H : Hp) (C : Addr) (cl : List (Str × Addr)) (fp : List Addr), DE (X.blk s H scope (compEnvC scope cl C X.env) fp) { g with w := Wsh.none } elt te d) (hs : ∀ x, foldedSetIterable iter X.env x = pure x := by intro _; rfl) :
    DE X g (.ListComp elt [⟨tg, iter, ifs, 0⟩] scope pos) (tLc wi gt tt te (ow.map (·.2))) (dLc di dg dtt d (ow.map (·.2))) :=
  ⟨pe_lc hc hN hi.pi ok (fun s H C cl fp => (hg s H C cl fp).pg) (fun s H C cl fp => (ht s H C cl fp).pts) (fun s H C cl fp => (he s H C cl fp).pe) hs,
    dt_lc hv hw hmo hi.dt (hg X.s_0 X.H_0 0 [] []).dt (ht X.s_0 X.H_0 0 [] []).dt (he X.s_0 X.H_0 0 [] []).dt⟩
theorem ds_setLc (i : Nat) (fz : Bool) {y : Str} {py spos : Pos} (hc : X.calm = true) (hN : X.N.Nodup) (hi : DI X g tg iter wi di) (ok : BlkOk X.N X.env.scope scope ow) (hv : ∀ v ∈ ow.map (·.2), g.n0 ≤ v ∧ ¬ v ∈ g.pn) (hw : TgW gt (ow.map (·.2))) (hmo : TgM gt)
    (hg : ∀ (s : Shared) (H : Hp) (C : Addr) (cl : List (Str × Addr)) (fp : List Addr), DG (X.blk s H scope (compEnvC scope cl C X.env) fp) { g with w := Wsh.none } true tg gt dg)
    (ht : ∀ (s : Shared) (H : Hp) (C : Addr) (cl : List (Str × Addr)) (fp : List Addr), DTs (X.blk s H scope (compEnvC scope cl C X.env) fp) { g with w := Wsh.none } ifs tt dtt)
    (he : ∀ (s : Shared) (H : Hp) (C : Addr) (cl : List (Str × Addr)) (fp : List Addr), DE (X.blk s H scope (compEnvC scope cl C X.env) fp) { g with w := Wsh.none } elt te d)
    (hsw : swapsWith (.ListComp elt [⟨tg, iter, ifs, 0⟩] scope pos) (some (.Name y py)) spos.line X.env = pure true)
    (hy : X.N[i]? = some y := by rfl) (hyl : X.env.scope.names.lookup y = some .local := by rfl) (hp : ¬ i ∈ g.pn := by first | (dsimp only; decide) | decide) (hs : ∀ x, foldedSetIterable iter X.env x = pure x := by intro _; rfl) :
    DS X g (.Assign [.Name y py] (.ListComp elt [⟨tg, iter, ifs, 0⟩] scope pos) spos) (tAsg (tLc wi gt tt te (ow.map (·.2))) (gName i)) (dAsg (dLc di dg dtt d (ow.map (·.2))) (gN fz i)) :=
  ⟨ps_setLc hc hN hy hyl hsw hi.pi ok (fun s H C cl fp => (hg s H C cl fp).pg) (fun s H C cl fp => (ht s H C cl fp).pts) (fun s H C cl fp => (he s H C cl fp).pe) hs,
    dts_asg (dt_lc hv hw hmo hi.dt (hg X.s_0 X.H_0 0 [] []).dt (ht X.s_0 X.H_0 0 [] []).dt (he X.s_0 X.H_0 0 [] []).dt)
      ((dg_name (X := X) (g := g) (cb := false) (pos := py) i fz hN hy (Or.inl hyl) hp (fun z => by cases z) (Or.inr hyl)).dt)⟩
end
end Dl
set_option Elab.async false
set_option linter.all false
set_option maxRecDepth 100000
set_option maxHeartbeats 4000000
/-! Dl, tenth part: promises where no text of an object is being made around (so that repr may be asked); defs of a text, called by name. -/
namespace Dl
open PySem PySem.Spec PyProof.Rows L2
/-- room, and no repr under way -/
structure RoomG (k : Nat) (A : Around) : Prop where
  room : Room k A
  gd : A.guards = some []
theorem RoomG.mono {j k : Nat} {A : Around} (r : RoomG k A) (h : j ≤ k) : RoomG j A := ⟨r.room.mono h, r.gd⟩
/-- as FnOk, under RoomG -/
structure FnG (P : Program) (w : World) (K : PySem.W.Frag) (mg : Str → Option Value) (base : Heap) (k : Nat) (f : Addr) (fd : FuncData) (ps : List Str) (sp : Sp) : Prop where
  len : ∀ vs H Q E, sp vs H Q E → vs.length = ps.length
  go : ∀ (A : Around) (outer : List Env) (s : Shared) (H : Hp) (args : Args) (us : List Value) (vs : List V) (Q : VK) (E : XK), RoomG k A → Env0 P w K mg base A outer s H → BindsTo s fd args (ps.zip us) → Vals vs us →
    sp vs H Q E → codeAny (model P w) A (.call (.ref f) args) (CR (L2.CX P w) outer P w H s Q E) s
section
variable {P : Program} {w : World} {K : PySem.W.Frag} {mg : Str → Option Value} {base : Heap}
theorem fnG_of {x qual : Str} {st : Stmt} {f : Addr} {fd : FuncData} {N ps : List Str} {k : Nat} {sp : Sp} (F : Fun K x qual st f fd) (S : FnScope N ps (defScope st)) (len : ∀ vs H Q E, sp vs H Q E → vs.length = ps.length)
    (body : ∀ (cdv : Value) (A : Around) (outer : List Env) (s : Shared) (H : Hp) (vs : List V) (Q : VK) (E : XK), RoomG k (A.deeper (envOfC qual (defScope st) s.heap.objs.size f cdv)) → sp vs H Q E →
      ∃ t, PSs (cxOf (L2.CX P w) P w K mg base N qual (defScope st) f cdv A outer s H E) (defBody st) t ∧ t { nx := fun _ H' => Q .non H', rt := Q } (L2.start N vs) H) : FnG P w K mg base (k + 1) f fd ps sp := by
  obtain ⟨oc, od, kV, doc, pm, an, cdv, ct, osl, rfl, lk, hcd⟩ := F.ex
  refine ⟨len, fun A outer s H args us vs Q E hr e0 hb r hsp => ?_⟩
  have KX : K.In s.heap := e0.mod.kin.keeps (fun b o e => (e0.bs b o e).1)
  have lim : s.heap.NoLimit := e0.mod.nolimit.keeps (fun b o e => (e0.bs b o e).1)
  have hkind : ∀ y ∈ ps.zip us, (defScope st).names.lookup y.1 = some .local ∨ ((defScope st).names.lookup y.1 = some .cell ∧ ((cellsFrom (s.heap.objs.size + 1) (defScope st).names []).lookup y.1).isSome = true) := by
    rintro ⟨n, v⟩ hy
    rcases S.par n (List.of_mem_zip hy).1 with q | q
    · exact Or.inl q
    · exact Or.inr ⟨q, PySem.W.cellsFrom_some _ _ _ (Or.inl q)⟩
  refine codeAny_call_function hr.room.depth (KX _ _ lk) rfl S.co S.gen rfl (PySem.W.codeRec_of KX hcd) (hb _ _ _ _ ?_)
  refine wpAny_newFunctionEnv_cells S.kind hkind (fun env he s1 xx => ?_)
  subst he
  refine ⟨lim.keeps xx.toInCall.keep, codeAny_func ?_⟩
  have hl := len _ _ _ _ hsp
  obtain ⟨t, ht, hq⟩ := body cdv A outer s H vs Q E ⟨hr.room.deeper _, hr.gd⟩ hsp
  have I : Inv (cxOf (L2.CX P w) P w K mg base N qual (defScope st) f cdv A outer s H E) [] (L2.start N vs) H s1 := inv_start S hr.room.hd e0 hl r xx
  refine wpAny_mono (ht.run [] s1 (L2.start N vs) H _ I hq) (fun fl s' hs => ?_) (fun e s' hs => hs)
  have done : ∀ {σ' : L2.St} {H' : Hp} {v : V} {u : Value}, Inv (cxOf (L2.CX P w) P w K mg base N qual (defScope st) f cdv A outer s H E) [] σ' H' s' → RelV v u → Q v H' → CE outer P w H s Q u s' := by
    intro σ' H' v u J rv q
    exact ⟨v, H', J.os, J.bare, J.base, J.hok, rv, q⟩
  cases fl with
  | ret u =>
    obtain ⟨v, σ', H', J, rv, q⟩ := hs
    exact done J rv q
  | next =>
    obtain ⟨σ', H', J, q⟩ := hs
    exact done (v := V.non) (u := Value.none) J rfl q
  | brk => exact hs.elim fun _ h => h.elim fun _ h => h.2.elim
  | cont => exact hs.elim fun _ h => h.elim fun _ h => h.2.elim
/-- the def of that name, with its promise by data -/
structure Def (P : Program) (w : World) (K : PySem.W.Frag) (mg : Str → Option Value) (base : Heap) (k : Nat) (x : Str) (ps : List Str) (ms : List Bool) (wp : WP) : Prop where
  ex : ∃ f fd, mg x = some (.ref f) ∧ PySem.W.keepIn K (.ref f) = true ∧ Binds K fd ps [] ∧ FnG P w K mg base k f fd ps (spD K mg ms wp)
/-- what the top has written of a def -/
structure FT (K : PySem.W.Frag) (mg : Str → Option Value) (x : Str) (st : Stmt) (ps : List Str) : Prop where
  ex : ∃ f fd, mg x = some (.ref f) ∧ Fun K x x st f fd ∧ Binds K fd ps []
def pnOf (ms : List Bool) : List Nat := (List.range ms.length).filter fun i => ms[i]? == some true
theorem pnOf_mem {ms : List Bool} {i : Nat} (h : ms[i]? = some true) : i ∈ pnOf ms := by
  unfold pnOf
  rw [List.mem_filter, List.mem_range]
  exact ⟨(List.getElem?_eq_some_iff.mp h).1, by rw [h]; rfl⟩
/-- THE RULE for a def, by data -/
theorem def_mk {x : Str} {st : Stmt} {N ps : List Str} {k : Nat} (n0 : Nat) {ms : List Bool} {rd : (Str → Rho → Prop) → DTS} (T : FT K mg x st ps) (S : FnScope N ps (defScope st)) (hm : ms.length = ps.length)
    (body : ∀ (f : Addr) (cdv : Value) (A : Around) (outer : List Env) (s : Shared) (H : Hp) (E : XK), RoomG k (A.deeper (envOfC x (defScope st) s.heap.objs.size f cdv)) → ∀ EX : Str → Rho → Prop,
      ∃ ts, DSs (cxOf (L2.CX P w) P w K mg base N x (defScope st) f cdv A outer s H E) ⟨⟨fun cls d _ H => E cls d H, EX⟩, n0, pnOf ms⟩ (defBody st) ts (rd EX)) :
    Def P w K mg base (k + 1) x ps ms (wpOf ms N.length rd) := by
  obtain ⟨f, fd, hmg, F, hb⟩ := T.ex
  refine ⟨f, fd, hmg, F.kp, hb, fnG_of F S (fun vs H Q E h => h.1.trans hm) fun cdv A outer s H vs Q E hr h => ?_⟩
  obtain ⟨hl, B, ρ0, s0, p1, p2, Pq, Rq, h, hP, hR⟩ := h
  have hp5 : ∀ p ∈ B.pin, vs[p.1]? = some p.2 := fun p hp => by
    obtain ⟨G, fs, ft, c⟩ := s0
    have q := c.pin p hp
    rw [List.getElem?_map] at q
    cases e : vs[p.1]? with
    | none => simp [e] at q
    | some u =>
      rw [e] at q
      have : u = p.2 := by simpa using q
      rw [this]
  obtain ⟨ts, D⟩ := body f cdv A outer s H E hr fun x ρ' => Rq x (keep ms ρ')
  refine ⟨ts, D.ps, ?_⟩
  have hk : ∀ {ρ' : Rho} {σ' : L2.St} {τs : List (V × C)} {H' : Hp}, SI K B ρ' σ' τs H' → (∀ p ∈ τs, ∀ j, p.2 ≠ C.al j) → SI K B (keep ms ρ') (vs.map some) τs H' := fun {ρ' σ' τs H'} s' na => s'.keep' na hl p2 hp5
  have es : L2.start N vs = vs.map some ++ List.replicate (N.length - ms.length) none := by
    unfold L2.start
    rw [hl]
  have h0 : SI K B (ρ0 ++ List.replicate (N.length - ms.length) none) (L2.start N vs) [] H := by
    rw [es]
    exact s0.more _
  refine D.dt B _ _ H { nx := fun _ H' => Q .non H', rt := Q } { nx := fun ρ' => Pq (.d .none) (keep ms ρ'), rt := fun t ρ' => Pq t (keep ms ρ') } ?hb h0 ?he h
  case hb => exact ⟨fun p hp => (List.not_mem_nil hp).elim, fun x C ρ' σ' H' ex hx s' q => hR x _ C H' q hx (hk (SI.pops (ts := ex) s') fun p hp => (List.not_mem_nil hp).elim), fun p hp => pnOf_mem (p1 p hp)⟩
  case he =>
    refine ⟨fun ρ' σ' H' s' q => ?_, fun t ρ' σ' v H' s' q => ?_, fun ρ' σ' H' s' q => q.elim, fun ρ' σ' H' s' q => q.elim⟩
    · exact hP _ _ _ _ q ((hk s' fun p hp => (List.not_mem_nil hp).elim).push fun G _ _ => .non)
    · exact hP _ _ _ _ q (hk s' fun p hp j => by
        rcases List.mem_singleton.mp hp with rfl
        exact fun z => by cases z)
end
section
variable {X : Cx} {g : Gm} {k : Nat} {ps : List Str} {ms : List Bool} {wp : WP} {x : Str} {p pos : Pos} {e : Expr} {es : List Expr} {t : TA} {da : DTA}
theorem run_fnG {f : Addr} {fd : FuncData} {sp : Sp} {pins : List (Addr × Obj)} {σ : L2.St} {H : Hp} {s : Shared} {Q : VK} {us : List Value} {vs : List V} {E : XK} (F : FnG X.prog X.w X.K X.mg X.base k f fd ps sp) (hr : RoomG k X.A) (hb : Binds X.K fd ps [])
    (hx : PassesAt (L2.CX X.prog X.w) X σ E) (I : Inv X pins σ H s) (r : Vals vs us) (h : sp vs H Q E) : wpAny (model X.prog X.w) X.A (call (.ref f) us) (EP X pins σ Q) X.xe s := by
  have hl : (us ++ []).length = ps.length := by
    rw [List.append_nil, ← r.length]
    exact F.len _ _ _ _ h
  have b := hb s us I.kIn hl
  rw [List.append_nil] at b
  refine wpAny_call (codeAny_mono (F.go X.A X.stack s H ⟨us, []⟩ us vs Q E hr I.env0 b r h) (fun r s' hq => ?_))
  match r, hq with
  | .error e, hq => exact hx pins H s e s' I hq
  | .ok (.ret u), hq => exact I.after hq
theorem de_callD (D : Def X.prog X.w X.K X.mg X.base k x ps ms wp) (hr : RoomG k X.A) (hg : Gl X x) (tk : Takes X g.w.W) (ha : DA X g (e :: es) t da) (hdb : (x == ("__debug__" : Str)) = false := by decide)
    (he : starEach (e :: es) X.env = (false, eval e X.env) :: starEach es X.env := by rfl) (hpl : (backTo pos (starEach es X.env)).any (·.1) = false := by rfl) :
    DE X g (.Call (.Name x p) (e :: es) [] pos) (tCallS (spD X.K X.mg ms wp) (WE g.w.W) t) (dCall ms wp g.w.ex da) := by
  obtain ⟨f, fd, hm, hk, hb, F⟩ := D.ex
  refine ⟨⟨fun pins s σ H Q I h => ?_⟩, fun B ρ σ τs H Q Q' b s kk h => ?_⟩
  · refine wpAny_Call_Name_kw (ld_glob I hg hm (PySem.W.callWith_K (h₀ := X.base) I.ok.mod.kin hk ?_ he hpl) hdb)
    exact thn (ha.pa.run pos pins s σ H _ I h) fun us s1 ⟨vs, H1, I1, r, q⟩ => ⟨I1.kIn, run_fnG F hr hb (passAt tk σ) I1 r q⟩
  · refine ha.dt B ρ σ τs H _ _ b s (fun cs ρ1 vs H1 hl s1 b1 q1 => ?_) h
    exact s1.called hl q1 (fun t ρ' v H' s' q => kk _ _ _ _ s' b.untail q) fun x ρ' C H' hm s' q => b.wok x C ρ' σ H' [] hm s' q
/-- a def without parameters -/
theorem de_callD0 (D : Def X.prog X.w X.K X.mg X.base k x [] [] wp) (hr : RoomG k X.A) (hg : Gl X x) (tk : Takes X g.w.W) (hdb : (x == ("__debug__" : Str)) = false := by decide) :
    DE X g (.Call (.Name x p) [] [] pos) (tCallS (spD X.K X.mg [] wp) (WE g.w.W) tNil) (dCall [] wp g.w.ex dNil) := by
  obtain ⟨f, fd, hm, hk, hb, F⟩ := D.ex
  refine ⟨⟨fun pins s σ H Q I h => ?_⟩, fun B ρ σ τs H Q Q' b s kk h => ?_⟩
  · refine wpAny_Call_Name_kw (ld_glob I hg hm ?_ hdb)
    exact PySem.W.callWith_K0 I.kIn hk (run_fnG (us := []) F hr hb (passAt tk σ) I .nil h)
  · refine (da_nil (X := X) (g := g)).dt B ρ σ τs H _ _ b s (fun cs ρ1 vs H1 hl s1 b1 q1 => ?_) h
    exact s1.called hl q1 (fun t ρ' v H' s' q => kk _ _ _ _ s' b.untail q) fun x ρ' C H' hm s' q => b.wok x C ρ' σ H' [] hm s' q
end
end Dl
set_option Elab.async false
set_option linter.all false
set_option maxRecDepth 100000
set_option maxHeartbeats 4000000
/-! Dl, eleventh part: from a law's promise by data to the walk that the head asks for. -/
namespace Dl
open PySem PySem.Spec PyProof.Rows L2
theorem rpL_ints {K : PySem.W.Frag} {G : Hp} : ∀ ns : List Int, RpL K G (ns.map V.int) (ns.map PyData.int)
  | [] => .nil
  | n :: ns => .cons (.int n) (rpL_ints ns)
/-- the heap in which nothing but the script is seen -/
def soloH (K : PySem.W.Frag) (a : Addr) (o : Obj) (u : HO) : Hp := fun b => if b = a ∧ K.lookup a = none then some (.frz o u) else none
theorem soloH_at {K : PySem.W.Frag} {a b : Addr} {o : Obj} {u z : HO} (h : soloH K a o u b = some z) : b = a ∧ K.lookup a = none ∧ z = .frz o u := by
  unfold soloH at h
  split at h
  · rename_i c
    exact ⟨c.1, c.2, (Option.some.inj h).symm⟩
  · cases h
section
variable {P : Program} {w : World} {K : PySem.W.Frag} {mg mb : Str → Option Value}
/-- the promise at the law's own entry -/
theorem law_sp {H : Hp} {a : Addr} {ns : List Int} {wp : WP} (hS : SqY K H a (ns.map V.int)) (h : wp [some (.d (.list (ns.map .int)))] (fun t _ => t = .d (.bool true)) (fun _ _ => False)) :
    spD K mg [false] wp [.ref a] H (fun v _ => v = .bl true) (fun _ _ _ => False) := by
  refine ⟨rfl, ⟨H, H, []⟩, _, ⟨H, [], [], ?_⟩, fun p hp => (List.not_mem_nil hp).elim, fun i v h1 h2 => ?_, _, _, h, fun t ρ1 v H' e s => ?_, fun x ρ1 C H' e _ _ => e⟩
  · exact { g0 := Ex.refl _, gh := Ex.refl _, h0 := Ex.refl _, tup := fun b o _ e => e, new := fun b e n => e, slots := .som (fp := []) (.d (.lst hS (rpL_ints ns))) .nil, temps := .nil, nd := List.nodup_nil, own := fun b m => (List.not_mem_nil m).elim, pin := fun p m => (List.not_mem_nil m).elim }
  · match i with
    | 0 => cases h1
    | i + 1 => simp at h1
  · subst e
    have r := s.rp (x := .bool true) rfl
    cases r
    rfl
theorem law_go {k : Nat} {fa a : Addr} {x nm : Str} {wp : WP} {s : Shared} {us : List Value} {ns : List Int}
    (KX : K.In s.heap) (n1 : s.heap.Ns mainGlobals mg) (n2 : s.heap.Ns builtinsNs mb) (n3 : ∀ x : Str, x ≠ "__name__" → mb x = bootBuiltins x) (n4 : s.heap.NoLimit) (g0 : s.gens = #[])
    (oa : s.heap.get? a = some ⟨.type "list", none, .seq us.toArray, #[]⟩) (iu : IntsAre us ns) (le : ns.length ≤ sizeLine) (hr : Room k callerA)
    (D : ∀ base : Heap, Def P w K mg base k nm [x] [false] wp) (hm : mg nm = some (.ref fa))
    (h : wp [some (.d (.list (ns.map .int)))] (fun t _ => t = .d (.bool true)) (fun _ _ => False)) :
    codeAny (model P w) callerA (.call (.ref fa) ⟨[.ref a], []⟩) (fun r s' => r = .ok (.ret (.bool true)) ∧ OldK s.heap s'.heap ∧ s'.os = s.os ∧ AllBare s'.gens) s := by
  have ru := vals_ints iu
  obtain ⟨H, eH⟩ : ∃ H : Hp, H = soloH K a ⟨.type "list", none, .seq us.toArray, #[]⟩ (.lst (ns.map V.int)) := ⟨_, rfl⟩
  have tiny : ∀ b z, H b = some z → b = a ∧ K.lookup a = none ∧ z = .frz ⟨.type "list", none, .seq us.toArray, #[]⟩ (.lst (ns.map V.int)) := fun b z q => by
    rw [eH] at q
    exact soloH_at q
  have sq : SqY K H a (ns.map V.int) := by
    cases q : K.lookup a with
    | none => exact .inl (.inr ⟨_, by rw [eH]; exact if_pos ⟨rfl, q⟩⟩)
    | some o =>
      have e := KX a o q
      rw [oa] at e
      cases e
      exact .inr ⟨us.toArray, _, q, by rw [List.size_toArray, iu.length]; exact le, by simpa using ru⟩
  have okH : HOk P w H s.heap := fun b z q => by
    obtain ⟨rfl, q2, rfl⟩ := tiny b z q
    exact ⟨oa, by rw [List.length_map]; exact le, us, _, ru, oa⟩
  have seen : ∀ {b : Addr} {o : Obj}, s.heap.get? b = some o → H b = none → (hidT s.heap H).get? b = some o := fun e n => hidT_get e n
  have inK : K.In (hidT s.heap H) := fun b o e => seen (KX b o e) (by
    cases q : H b with
    | none => rfl
    | some z =>
      obtain ⟨rfl, q2, _⟩ := tiny b z q
      rw [q2] at e
      cases e)
  have names : ∀ {b : Addr} {m : Str → Option Value}, s.heap.Ns b m → (hidT s.heap H).Ns b m := fun {b m} q => by
    obtain ⟨o, es, ep, e, d, r⟩ := q
    refine ⟨o, es, ep, seen e ?_, d, r⟩
    cases q : H b with
    | none => rfl
    | some z =>
      obtain ⟨rfl, _⟩ := tiny b z q
      rw [oa] at e
      cases e
      cases d
  have inM : Mod K mg (hidT s.heap H) := ⟨inK, names n1, ⟨mb, names n2, n3⟩, by
    obtain ⟨mc, q1, q2⟩ := n4
    exact ⟨mc, names q1, q2⟩⟩
  have en : Env0 P w K mg (hidT s.heap H) callerA [] s H := ⟨rfl, inM, fun b o e => of_hidT e, Nat.le_of_eq (hidT_size _ _), trivial, fun b m => (List.not_mem_nil m).elim, okH, .of_eq g0⟩
  have sp := law_sp (mg := mg) sq h
  obtain ⟨f, fd, e1, _, hb, F⟩ := D (hidT s.heap H)
  rw [hm] at e1
  cases e1
  have b := hb s [.ref a] KX rfl
  refine codeAny_mono (F.go callerA [] s H ⟨[.ref a], []⟩ [.ref a] [.ref a] _ _ ⟨hr, rfl⟩ en b (.cons rfl .nil) sp) fun r s' c => ?_
  match r, c with
  | .error e, c =>
    obtain ⟨_, _, _, _, _, _, _, _, _, _, _, _, z⟩ := c
    exact z.elim
  | .ok .next, c => exact False.elim c
  | .ok .brk, c => exact False.elim c
  | .ok .cont, c => exact False.elim c
  | .ok (.ret u), c =>
    obtain ⟨v, H', os, ba, un, ok', rv, q⟩ := c
    have q' : v = .bl true := q
    subst q'
    have eu : u = Value.bool true := rv
    subst eu
    refine ⟨rfl, OldK.of_keep fun b o e => ?_, os, ba⟩
    cases q : H b with
    | none => exact un.keep b o e q (fun m => (List.not_mem_nil m).elim) (by simp)
    | some z =>
      obtain ⟨rfl, _, rfl⟩ := tiny b z q
      have q1 := (ok' _ _ (un.frzs _ _ _ q)).1
      rw [oa] at e
      cases e
      exact q1
end
/-- the walk that k_head asks for -/
theorem walk_D {l : PySem.W.OpenLaw} {n k : Nat} {q : Program} {loose : List Str} {XP : (Str → Option Value) → Heap → Prop} {YP : World → Heap → Prop} {d : DefRec} {KF : Params → PySem.W.Frag} {x : Str} {wp : WP}
    (hn : l.most = some n) (hs : n ≤ sizeLine) (hd : d.params.defaults = []) (hr : Room k callerA) (hY : ∀ (w : World) (h : Heap), YP w h → (KF w.params).In h)
    (F : ∀ (w : World) (mg : Str → Option Value) (h : Heap), (KF w.params).In h → h.Ns mainGlobals mg → ∀ base : Heap, Def l.prog w (KF w.params) mg base k d.name [x] [false] wp)
    (hw : ∀ ns : List Int, ns.length ≤ n → wp [some (.d (.list (ns.map .int)))] (fun t _ => t = .d (.bool true)) (fun _ _ => False)) :
    PySem.W.WalkO q loose XP YP l.row.toRowW d [] (fun f vs => PySem.call f vs) := by
  refine Att.attach_call hn hd fun w s0 s1 mg mb fa o pm cd doc a us ns G Y _ _ _ hm oa iu le hg => ?_
  have KX := hY w _ Y
  exact law_go KX G.T.g G.T.b G.T.builtins G.T.nolimit hg oa iu (Nat.le_trans le hs) hr (F w mg _ KX G.T.g) hm (hw ns le)
/-- what the top has written of a def, from the fragment -/
theorem ft_mk {K : PySem.W.Frag} {h : Heap} {mg : Str → Option Value} {x : Str} {st : Stmt} {ps : List Str} {f : Addr} {od an : Option Addr} {sl : Array (Option Value)} {oc kV dc pm cd ct : Value} (X : K.In h) (G : h.Ns mainGlobals mg)
    (a : PySem.W.nsIn K mainGlobals x = some (some (.ref f))) (l : K.lookup f = some ⟨oc, od, .func (PySem.W.fnOf x x (defArgs st) (defBody st) (defScope st) .none kV dc pm an cd ct), sl⟩) (c : PySem.W.codeIn K cd x = true) (k : PySem.W.keepIn K (.ref f) = true)
    (hb : ∀ (kV dc pm : Value) (an : Option Addr) (cd ct : Value) (us : List Value), us.length = ps.length → bindArgs (PySem.W.fnOf x x (defArgs st) (defBody st) (defScope st) .none kV dc pm an cd ct) ⟨us, []⟩ = pure (ps.zip us)) : FT K mg x st ps :=
  ⟨f, _, PySem.W.mg_of X G a, fun_mk l c k, Binds.all (hb kV dc pm an cd ct)⟩
end Dl
set_option Elab.async false
set_option linter.all false
set_option maxRecDepth 100000
set_option maxHeartbeats 4000000
/-! Dl, twelfth part: built-in calls, chains, in. -/
namespace Dl
open PySem PySem.Spec PyProof.Rows L2
section
variable {X : Cx} {g : Gm} {a b c e e2 : Expr} {ta tb tc te te2 : TE} {da db dc d d2 : DT} {pos p : Pos} {x : Str}
/-! ### -i, a ** b -/
def dNeg (d : DT) : DT := fun ρ Q => d ρ fun c ρ1 => asI (dat ρ1 c) fun i => Q (.t (.d (.int (-i)))) ρ1
theorem de_neg (h : DE X g a ta da) : DE X g (.UnaryOp .USub a pos) (tUn (rU fun i => .int (-i)) ta) (dNeg da) := ⟨pe_un un_neg h.pe, fun B ρ σ τs H Q Q' bo s k h' => by
  refine h.dt B ρ σ τs H _ _ bo s (fun c ρ1 v H1 s1 b1 q1 => ?_) h'
  obtain ⟨i, e, q⟩ := asI_iff q1
  exact ⟨i, (s1.rp e).intV, k _ _ _ _ (s1.pop.push fun G _ _ => .int _) bo.untail q⟩⟩
def iPow : D2 := gI CPow fun i j => .int (i ^ j.toNat)
theorem de_pow (ha : DE X g a ta da) (hb : DE X g b tb db) : DE X g (.BinOp a .Pow b pos) (tOp (rI CPow fun i j => .int (i ^ j.toNat)) ta tb) (dOp iPow da db) := de_op op_pow (dr_I fun _ _ _ _ => .int _) gI_m ha hb
/-! ### f(x), f(x, y): built-in, what it gives known -/
abbrev D1 := Option T → (T → Prop) → Prop
def D1m (f : D1) : Prop := ∀ o (P P' : T → Prop), (∀ t, P t → P' t) → f o P → f o P'
def DR1 (X : Cx) (g : Gm) (r : List V → Hp → VK → Prop) (f : D1) : Prop := ∀ (B : Base) (ρ : Rho) (σ : L2.St) (τs : List (V × C)) (H : Hp) (x : V) (c : C) (Q : VK), BOk X.K X.mg g B τs → SI X.K B ρ σ ((x, c) :: τs) H →
  f (look ρ c) (fun t => ∀ v H', SI X.K B ρ σ ((v, .t t) :: τs) H' → Q v H') → r [x] H Q
def dC1 (f : D1) (d : DT) : DT := fun ρ Q => d ρ fun c ρ1 => f (look ρ1 c) fun t => Q (.t t) ρ1
theorem dt_c1 {r : List V → Hp → VK → Prop} {f : D1} (hd : DR1 X g r f) (hm : D1m f) (h : Dt X g te d) : Dt X g (tCB r (tCons te tNil)) (dC1 f d) := fun B ρ σ τs H Q Q' b s k h' => by
  refine h B ρ σ τs H _ _ b s (fun c ρ1 v H1 s1 b1 q1 => ?_) h'
  exact hd B ρ1 σ τs H1 v c Q b s1 (hm _ _ _ (fun t q v' H' s' => k _ _ _ _ s' b.untail q) q1)
theorem de_c1 {id : String} {r : List V → Hp → VK → Prop} {f : D1} (hc : CallR X (.builtin id) r) (hd : DR1 X g r f) (hm : D1m f) (hg : Gl X x) (hx : X.mg x = none) (hv : bootBuiltins x = some (.builtin id)) (h : DE X g e te d) (hn : x ≠ "__name__" := by decide) (hdb : (x == ("__debug__" : Str)) = false := by decide)
    (hs : starEach [e] X.env = (false, eval e X.env) :: starEach [] X.env := by rfl) : DE X g (.Call (.Name x p) [e] [] pos) (tCB r (tCons te tNil)) (dC1 f d) := ⟨pe_callB hc hg hx hv (pa_cons h.pe pa_nil hs) hn hdb hs, dt_c1 hd hm h.dt⟩
theorem de_t1 {T : String} {r : List V → Hp → VK → Prop} {f : D1} (hc : CallR X (.type T) r) (hd : DR1 X g r f) (hm : D1m f) (hg : Gl X x) (hx : X.mg x = none) (hv : bootBuiltins x = some (.type T)) (h : DE X g e te d) (hn : x ≠ "__name__" := by decide) (hdb : (x == ("__debug__" : Str)) = false := by decide)
    (hs : starEach [e] X.env = (false, eval e X.env) :: starEach [] X.env := by rfl) : DE X g (.Call (.Name x p) [e] [] pos) (tCB r (tCons te tNil)) (dC1 f d) := ⟨pe_callTy hc hg hx hv (pa_cons h.pe pa_nil hs) hn hdb hs, dt_c1 hd hm h.dt⟩
theorem look_dat {ρ : Rho} {c : C} {t : T} (h : look ρ c = some t) : dat ρ c = some t.data := by
  cases c with
  | t y =>
    cases h
    rfl
  | al j =>
    unfold look at h
    simp only at h
    split at h
    · rename_i u e
      cases h
      simp only [dat, e]
    · cases h
def kI (o : Option T) (k : Int → Prop) : Prop := match o with
  | some (.d (.int i)) => k i
  | _ => False
theorem kI_iff {o : Option T} {k : Int → Prop} (h : kI o k) : ∃ i, o = some (.d (.int i)) ∧ k i := by
  unfold kI at h
  split at h
  · exact ⟨_, rfl, h⟩
  · exact h.elim
/-- all intL -/
def intL : List PyData → Option (List Int)
  | [] => some []
  | .int i :: r => (intL r).map (i :: ·)
  | _ :: _ => none
theorem intL_eq : ∀ {ds : List PyData} {ns : List Int}, intL ds = some ns → ds = ns.map PyData.int
  | [], ns, h => by
    simp only [intL, Option.some.injEq] at h
    subst h
    rfl
  | .int i :: r, ns, h => by
    rw [intL] at h
    cases e : intL r with
    | none => simp [e] at h
    | some m =>
      rw [e] at h
      simp only [Option.map_some, Option.some.injEq] at h
      subst h
      rw [intL_eq e]
      rfl
  | .none :: _, _, h => by simp [intL] at h
  | .bool _ :: _, _, h => by simp [intL] at h
  | .str _ :: _, _, h => by simp [intL] at h
  | .list _ :: _, _, h => by simp [intL] at h
  | .tuple _ :: _, _, h => by simp [intL] at h
  | .dict _ :: _, _, h => by simp [intL] at h
@[simp] theorem intL_map : ∀ ns : List Int, intL (ns.map PyData.int) = some ns
  | [] => rfl
  | n :: ns => by simp [intL, intL_map ns]
def asIs (o : Option T) (k : List Int → Prop) : Prop := match (o.bind flat).bind intL with
  | some ns => k ns
  | none => False
theorem asIs_iff {o : Option T} {k : List Int → Prop} (h : asIs o k) : ∃ t ns, o = some t ∧ flat t = some (ns.map PyData.int) ∧ k ns := by
  unfold asIs at h
  split at h
  · rename_i ns e
    cases o with
    | none => cases e
    | some t =>
      cases e2 : flat t with
      | none => simp [e2] at e
      | some ds =>
        simp [e2] at e
        have := intL_eq e
        subst this
        exact ⟨t, ns, rfl, e2, h⟩
  · exact h.elim
theorem RpL.intsV {K : PySem.W.Frag} {G : Hp} : ∀ {ns : List Int} {vs : List V}, RpL K G vs (ns.map PyData.int) → vs = ns.map V.int
  | [], _, .nil => rfl
  | n :: ns, _, .cons h t => by
    rw [h.intV, RpL.intsV t]
    rfl
theorem SI.intsL {K : PySem.W.Frag} {B : Base} {ρ : Rho} {σ : L2.St} {τs : List (V × C)} {H : Hp} {v : V} {c : C} {t : T} {ns : List Int} (s : SI K B ρ σ ((v, c) :: τs) H) (h1 : look ρ c = some t) (h2 : flat t = some (ns.map PyData.int)) : ∃ p, v = .ref p ∧ SqL K H p (ns.map V.int) := by
  obtain ⟨p, vs, rfl, w1, w2, w3, w4, w5⟩ := s.itms h1 (itms_flat h2)
  rw [RpL.intsV w3] at w2
  exact ⟨p, rfl, w2 h2⟩
theorem SI.newI {K : PySem.W.Frag} {B : Base} {ρ : Rho} {σ : L2.St} {τs : List (V × C)} {H : Hp} {p : Addr} (ns : List Int) (s : SI K B ρ σ τs H) (hp : H p = none) : SI K B ρ σ ((.ref p, .t (.ls (ns.map fun n => T.d (.int n)))) :: τs) (upd H p (.lst (ns.map V.int))) := by
  have pushAll : ∀ ns : List Int, SI K B ρ σ (tmp (ns.map V.int) (ns.map fun n => T.d (.int n)) ++ τs) H := by
    intro ns
    induction ns with
    | nil => exact s
    | cons n ns ih => exact SI.push ih fun G _ _ => .int n
  exact SI.newL (pushAll ns) (by simp) hp
/-- sum -/
def fSum : D1 := fun o k => asIs o fun ns => k (.d (.int ns.sum))
theorem dr_sum : DR1 X g (rSum X.K) fSum := fun B ρ σ τs H x c Q b s h => by
  obtain ⟨t, ns, e1, e2, q⟩ := asIs_iff h
  obtain ⟨p, rfl, w⟩ := s.intsL e1 e2
  exact ⟨p, ns, rfl, w, q _ _ (s.pop.push fun G _ _ => .int _)⟩
theorem fSum_m : D1m fSum := fun o P P' hp h => by
  obtain ⟨t, ns, rfl, e2, q⟩ := asIs_iff h
  unfold fSum asIs
  simp only [Option.bind_some, e2, intL_map]
  exact hp _ q
theorem de_sum (hc : X.calm = true) (hg : Gl X "sum") (hx : X.mg "sum" = none) (h : DE X g e te d) (hs : starEach [e] X.env = (false, eval e X.env) :: starEach [] X.env := by rfl) : DE X g (.Call (.Name "sum" p) [e] [] pos) (tCB (rSum X.K) (tCons te tNil)) (dC1 fSum d) :=
  de_c1 (cr_sum hc) dr_sum fSum_m hg hx (by decide +kernel) h (hs := hs)
/-- sorted, intL -/
def fSort : D1 := fun o k => asIs o fun ns => ∀ ns' : List Int, ns'.Perm ns → ns'.Pairwise (· ≤ ·) → k (.ls (ns'.map fun n => T.d (.int n)))
theorem dr_sort : DR1 X g (rSortedI X.K) fSort := fun B ρ σ τs H x c Q b s h => by
  obtain ⟨t, ns, e1, e2, q⟩ := asIs_iff h
  obtain ⟨p, rfl, w⟩ := s.intsL e1 e2
  exact ⟨p, ns, rfl, w, fun ns' r h1 h2 hr => q ns' h1 h2 _ _ (SI.newI ns' s.pop hr)⟩
theorem fSort_m : D1m fSort := fun o P P' hp h => by
  obtain ⟨t, ns, rfl, e2, q⟩ := asIs_iff h
  unfold fSort asIs
  simp only [Option.bind_some, e2, intL_map]
  exact fun ns' h1 h2 => hp _ (q ns' h1 h2)
theorem de_sort (hg : Gl X "sorted") (hx : X.mg "sorted" = none) (h : DE X g e te d) (hs : starEach [e] X.env = (false, eval e X.env) :: starEach [] X.env := by rfl) : DE X g (.Call (.Name "sorted" p) [e] [] pos) (tCB (rSortedI X.K) (tCons te tNil)) (dC1 fSort d) :=
  de_c1 cr_sortedI dr_sort fSort_m hg hx (by decide +kernel) h (hs := hs)
/-- max, min of a list of intL -/
def fMax : D1 := fun o k => asIs o fun ns => 0 < ns.length ∧ ∀ m, m ∈ ns → (∀ y, y ∈ ns → y ≤ m) → k (.d (.int m))
def fMin : D1 := fun o k => asIs o fun ns => 0 < ns.length ∧ ∀ m, m ∈ ns → (∀ y, y ∈ ns → m ≤ y) → k (.d (.int m))
theorem dr_max : DR1 X g (rMax X.K) fMax := fun B ρ σ τs H x c Q b s h => by
  obtain ⟨t, ns, e1, e2, h0, q⟩ := asIs_iff h
  obtain ⟨p, rfl, w⟩ := s.intsL e1 e2
  exact ⟨p, ns, rfl, w, h0, fun m h1 h2 => q m h1 h2 _ _ (s.pop.push fun G _ _ => .int _)⟩
theorem dr_min : DR1 X g (rMin X.K) fMin := fun B ρ σ τs H x c Q b s h => by
  obtain ⟨t, ns, e1, e2, h0, q⟩ := asIs_iff h
  obtain ⟨p, rfl, w⟩ := s.intsL e1 e2
  exact ⟨p, ns, rfl, w, h0, fun m h1 h2 => q m h1 h2 _ _ (s.pop.push fun G _ _ => .int _)⟩
theorem fMax_m : D1m fMax := fun o P P' hp h => by
  obtain ⟨t, ns, rfl, e2, h0, q⟩ := asIs_iff h
  unfold fMax asIs
  simp only [Option.bind_some, e2, intL_map]
  exact ⟨h0, fun m h1 h2 => hp _ (q m h1 h2)⟩
theorem fMin_m : D1m fMin := fun o P P' hp h => by
  obtain ⟨t, ns, rfl, e2, h0, q⟩ := asIs_iff h
  unfold fMin asIs
  simp only [Option.bind_some, e2, intL_map]
  exact ⟨h0, fun m h1 h2 => hp _ (q m h1 h2)⟩
theorem de_max (hc : X.calm = true) (hg : Gl X "max") (hx : X.mg "max" = none) (h : DE X g e te d) (hs : starEach [e] X.env = (false, eval e X.env) :: starEach [] X.env := by rfl) : DE X g (.Call (.Name "max" p) [e] [] pos) (tCB (rMax X.K) (tCons te tNil)) (dC1 fMax d) :=
  de_c1 (cr_max hc) dr_max fMax_m hg hx (by decide +kernel) h (hs := hs)
theorem de_min (hc : X.calm = true) (hg : Gl X "min") (hx : X.mg "min" = none) (h : DE X g e te d) (hs : starEach [e] X.env = (false, eval e X.env) :: starEach [] X.env := by rfl) : DE X g (.Call (.Name "min" p) [e] [] pos) (tCB (rMin X.K) (tCons te tNil)) (dC1 fMin d) :=
  de_c1 (cr_min hc) dr_min fMin_m hg hx (by decide +kernel) h (hs := hs)
/-- abs -/
def fAbs : D1 := fun o k => kI o fun i => k (.d (.int (if i < 0 then -i else i)))
theorem dr_abs : DR1 X g (fun xs H Q => ∃ i, xs = [.int i] ∧ Q (.int (if i < 0 then -i else i)) H) fAbs := fun B ρ σ τs H x c Q b s h => by
  obtain ⟨i, e, q⟩ := kI_iff h
  exact ⟨i, by rw [(s.rp (look_dat e)).intV], q _ _ (s.pop.push fun G _ _ => .int _)⟩
theorem fAbs_m : D1m fAbs := fun o P P' hp h => by
  obtain ⟨i, rfl, q⟩ := kI_iff h
  exact hp _ q
abbrev rAbs1 : List V → Hp → VK → Prop := fun xs H Q => ∃ i, xs = [.int i] ∧ Q (.int (if i < 0 then -i else i)) H
theorem de_abs (hg : Gl X "abs") (hx : X.mg "abs" = none) (h : DE X g e te d) (hs : starEach [e] X.env = (false, eval e X.env) :: starEach [] X.env := by rfl) : DE X g (.Call (.Name "abs" p) [e] [] pos) (tCB rAbs1 (tCons te tNil)) (dC1 fAbs d) :=
  de_c1 call_abs dr_abs fAbs_m hg hx (by decide +kernel) h (hs := hs)
/-- int of a truth value, of an int -/
def fInt : D1 := fun o k => match o with
  | some (.d (.int i)) => k (.d (.int i))
  | some (.d (.bool b)) => k (.d (.int (if b then 1 else 0)))
  | _ => False
theorem dr_int : DR1 X g (fun xs H Q => (∃ i, xs = [.int i] ∧ Q (.int i) H) ∨ ∃ k, xs = [.bl k] ∧ Q (.int (if k then 1 else 0)) H) fInt := fun B ρ σ τs H x c Q b s h => by
  unfold fInt at h
  split at h
  · rename_i i e
    exact .inl ⟨i, by rw [(s.rp (look_dat e)).intV], h _ _ (s.pop.push fun G _ _ => .int _)⟩
  · rename_i i e
    exact .inr ⟨i, by rw [(s.rp (look_dat e)).boolV], h _ _ (s.pop.push fun G _ _ => .int _)⟩
  · exact h.elim
theorem fInt_m : D1m fInt := fun o P P' hp h => by
  unfold fInt at h ⊢
  split at h
  · exact hp _ h
  · exact hp _ h
  · exact h.elim
abbrev rInt1 : List V → Hp → VK → Prop := fun xs H Q => (∃ i, xs = [.int i] ∧ Q (.int i) H) ∨ ∃ k, xs = [.bl k] ∧ Q (.int (if k then 1 else 0)) H
theorem de_intOf (hg : Gl X "int") (hx : X.mg "int" = none) (h : DE X g e te d) (hs : starEach [e] X.env = (false, eval e X.env) :: starEach [] X.env := by rfl) : DE X g (.Call (.Name "int" p) [e] [] pos) (tCB rInt1 (tCons te tNil)) (dC1 fInt d) :=
  de_t1 call_int1 dr_int fInt_m hg hx (by decide +kernel) h (hs := hs)
/-! max(a, b), min(a, b) -/
def dC2 (f : Int → Int → Int) (d d2 : DT) : DT := fun ρ Q => d ρ fun c ρ1 => d2 ρ1 fun c2 ρ2 => asI (dat ρ2 c) fun i => asI (dat ρ2 c2) fun j => Q (.t (.d (.int (f i j)))) ρ2
theorem dt_c2 {f : Int → Int → Int} (h : Dt X g te d) (h2 : Dt X g te2 d2) : Dt X g (tCB (fun xs H Q => ∃ i j, xs = [.int i, .int j] ∧ Q (.int (f i j)) H) (tCons te (tCons te2 tNil))) (dC2 f d d2) := fun B ρ σ τs H Q Q' b s k h' => by
  refine h B ρ σ τs H _ _ b s (fun c ρ1 v H1 s1 b1 q1 => ?_) h'
  refine h2 B ρ1 σ _ H1 _ _ b1 s1 (fun c2 ρ2 v2 H2 s2 b2 q2 => ?_) q1
  obtain ⟨i, e1, q3⟩ := asI_iff q2
  obtain ⟨j, e2, q4⟩ := asI_iff q3
  exact ⟨i, j, by rw [(s2.pop.rp e1).intV, (s2.rp e2).intV], k _ _ _ _ (s2.pop.pop.push fun G _ _ => .int _) b.untail q4⟩
theorem de_max2 (hc : X.calm = true) (hg : Gl X "max") (hx : X.mg "max" = none) (h : DE X g e te d) (h2 : DE X g e2 te2 d2) (hs : starEach [e, e2] X.env = (false, eval e X.env) :: starEach [e2] X.env := by rfl) (hs2 : starEach [e2] X.env = (false, eval e2 X.env) :: starEach [] X.env := by rfl)
    (hpl : (backTo pos (starEach [e2] X.env)).any (·.1) = false := by rfl) : DE X g (.Call (.Name "max" p) [e, e2] [] pos) (tCB (fun xs H Q => ∃ i j, xs = [.int i, .int j] ∧ Q (.int (if j > i then j else i)) H) (tCons te (tCons te2 tNil))) (dC2 (fun i j => if j > i then j else i) d d2) :=
  ⟨pe_callB (call_max2 hc) hg hx (by decide +kernel) (pa_cons h.pe (pa_cons h2.pe pa_nil hs2) hs) (he := hs) (hpl := hpl), dt_c2 h.dt h2.dt⟩
theorem de_min2 (hc : X.calm = true) (hg : Gl X "min") (hx : X.mg "min" = none) (h : DE X g e te d) (h2 : DE X g e2 te2 d2) (hs : starEach [e, e2] X.env = (false, eval e X.env) :: starEach [e2] X.env := by rfl) (hs2 : starEach [e2] X.env = (false, eval e2 X.env) :: starEach [] X.env := by rfl)
    (hpl : (backTo pos (starEach [e2] X.env)).any (·.1) = false := by rfl) : DE X g (.Call (.Name "min" p) [e, e2] [] pos) (tCB (fun xs H Q => ∃ i j, xs = [.int i, .int j] ∧ Q (.int (if j < i then j else i)) H) (tCons te (tCons te2 tNil))) (dC2 (fun i j => if j < i then j else i) d d2) :=
  ⟨pe_callB (call_min2 hc) hg hx (by decide +kernel) (pa_cons h.pe (pa_cons h2.pe pa_nil hs2) hs) (he := hs) (hpl := hpl), dt_c2 h.dt h2.dt⟩
/-! ### isinstance(x, T) -/
def tyD : PyData → String
  | .none => "NoneType"
  | .bool _ => "bool"
  | .int _ => "int"
  | .str _ => "str"
  | .list _ => "list"
  | .tuple _ => "tuple"
  | .dict _ => "dict"
theorem tyX_of {K : PySem.W.Frag} {H : Hp} {v : V} {d : PyData} (r : Rp K H v d) (nd : tyD d ≠ "dict") : TyX K H v (.type (tyD d)) := by
  cases r with
  | non => exact .base .non
  | bl b => exact .base (.bl b)
  | int i => exact .base (.int i)
  | str x => exact .base (.str x)
  | lst s _ =>
    rcases s with (s | ⟨o, s⟩) | ⟨its, n, h1, _⟩
    · exact .base (.lst s)
    · exact .base (.frz s)
    · exact .kList h1 rfl
  | tup s _ => exact .base (.tup s)
  | dk s _ => exact (nd rfl).elim
  | dt s _ => exact (nd rfl).elim
  | exc s _ => exact (nd rfl).elim
def dIsi (T : String) (d : DT) : DT := fun ρ Q => d ρ fun c ρ1 => asD (dat ρ1 c) fun x => tyD x ≠ "dict" ∧ ∀ r, kitB (tyD x) T = some r → Q (.t (.d (.bool r))) ρ1
def kits (T : String) : Bool := ["NoneType", "bool", "int", "str", "list", "tuple"].all fun s => (kitB s T).isSome
theorem kits_of {T : String} (h : kits T = true) {x : PyData} (nd : tyD x ≠ "dict") : ∃ r, kitB (tyD x) T = some r := by
  unfold kits at h
  simp only [List.all_cons, List.all_nil, Bool.and_true, Bool.and_eq_true] at h
  obtain ⟨h1, h2, h3, h4, h5, h6⟩ := h
  cases x with
  | none => exact Option.isSome_iff_exists.mp h1
  | bool _ => exact Option.isSome_iff_exists.mp h2
  | int _ => exact Option.isSome_iff_exists.mp h3
  | str _ => exact Option.isSome_iff_exists.mp h4
  | list _ => exact Option.isSome_iff_exists.mp h5
  | tuple _ => exact Option.isSome_iff_exists.mp h6
  | dict _ => exact (nd rfl).elim
theorem de_isi {T : String} {y : Str} {p2 : Pos} (hg : Gl X "isinstance") (hx : X.mg "isinstance" = none) (hgy : Gl X y) (hy : X.mg y = none) (hT : bootBuiltins y = some (.type T)) (hk : kits T = true) (h : DE X g e te d) (hyn : y ≠ "__name__" := by decide) (hyd : (y == ("__debug__" : Str)) = false := by decide)
    (hs : starEach [e, .Name y p2] X.env = (false, eval e X.env) :: starEach [.Name y p2] X.env := by rfl) (hs2 : starEach [.Name y p2] X.env = (false, eval (.Name y p2) X.env) :: starEach [] X.env := by rfl) (hpl : (backTo pos (starEach [.Name y p2] X.env)).any (·.1) = false := by rfl) :
    DE X g (.Call (.Name "isinstance" p) [e, .Name y p2] [] pos) (tCB (rIsi X.K) (tCons te (tCons (tC (.ty T)) tNil))) (dIsi T d) :=
  ⟨pe_callB call_isi hg hx (by decide +kernel) (pa_cons h.pe (pa_cons (pe_bltn (v := .ty T) hgy hy hT rfl hyn hyd) pa_nil hs2) hs) (he := hs) (hpl := hpl), fun B ρ σ τs H Q Q' b s k h' => by
    refine h.dt B ρ σ τs H _ _ b s (fun c ρ1 v H1 s1 b1 q1 => ?_) h'
    obtain ⟨x, ex, nd, q⟩ := asD_iff q1
    obtain ⟨r, hr⟩ := kits_of hk nd
    exact ⟨v, .ty T, _, .type T, r, rfl, .ty T, tyX_of (s1.rp ex) nd, kit_ty hr, k _ _ _ _ (s1.pop.push fun G _ _ => .bl _) b.untail (q r hr)⟩⟩
/-! ### chains of ints -/
def dCh (f f' : Int → Int → Bool) (da db dc : DT) : DT := fun ρ Q => da ρ fun ca ρ1 => db ρ1 fun cb ρ2 => asI (dat ρ2 ca) fun i => asI (dat ρ2 cb) fun j =>
  if f i j = true then dc ρ2 fun cc ρ3 => asI (dat ρ3 cc) fun k => Q (.t (.d (.bool (f' j k)))) ρ3 else Q (.t (.d (.bool false))) ρ2
abbrev rB (f : Int → Int → Bool) : R2 := rI0 fun i j => .bl (f i j)
theorem de_chain {op op' : CmpOp} {f f' : Int → Int → Bool} (o : OpR X (compareOp op) (rB f)) (o' : OpR X (compareOp op') (rB f')) (ha : DE X g a ta da) (hb : DE X g b tb db) (hc : DE X g c tc dc) (hm : lastMarks [op, op'] [b, c] = false := by with_unfolding_all rfl) :
    DE X g (.Compare a [op, op'] [b, c] pos) (tChain (rB f) (rB f') ta tb tc) (dCh f f' da db dc) := ⟨pe_chain o o' ha.pe hb.pe hc.pe hm, fun B ρ σ τs H Q Q' bo s k h => by
  refine ha.dt B ρ σ τs H _ _ bo s (fun ca ρ1 x H1 s1 b1 q1 => ?_) h
  refine hb.dt B ρ1 σ _ H1 _ _ b1 s1 (fun cb ρ2 y H2 s2 b2 q2 => ?_) q1
  obtain ⟨i, e1, q2⟩ := asI_iff q2
  obtain ⟨j, e2, q2⟩ := asI_iff q2
  refine ⟨i, j, (s2.pop.rp e1).intV, (s2.rp e2).intV, _, rfl, ?_⟩
  have s3 := s2.pop.pop
  split
  · rename_i hf
    rw [if_pos hf] at q2
    refine hc.dt B ρ2 σ τs H2 _ _ bo s3 (fun cc ρ3 z H3 s4 b4 q3 => ?_) q2
    obtain ⟨k', e3, q4⟩ := asI_iff q3
    exact ⟨j, k', (s2.rp e2).intV, (s4.rp e3).intV, k _ _ _ _ (s4.pop.push fun G _ _ => .bl _) bo.untail q4⟩
  · rename_i hf
    rw [if_neg hf] at q2
    have : f i j = false := by simpa using hf
    rw [← this]
    rw [← this] at q2
    exact k _ _ _ _ (s3.push fun G _ _ => .bl _) bo.untail q2⟩
theorem db_chain {op op' : CmpOp} {f f' : Int → Int → Bool} (o : OpR X (compareOp op) (rB f)) (o' : OpR X (compareOp op') (rB f')) (ha : DE X g a ta da) (hb : DE X g b tb db) (hc : DE X g c tc dc) (hm : lastMarks [op, op'] [b, c] = false := by with_unfolding_all rfl) :
    DB X g (.Compare a [op, op'] [b, c] pos) (tTest (tChain (rB f) (rB f') ta tb tc)) (dTst (dCh f f' da db dc)) := ⟨pt_chain o o' ha.pe hb.pe hc.pe hm, dtt_of (de_chain (pos := pos) o o' ha hb hc hm).dt⟩
/-! ### in, not in -/
def inOk (x : PyData) (ds : List PyData) : Prop := SeqAt.shaped x = true ∧ SeqAt.shaped (.list ds) = true
def gIn (neg : Bool) : D2 := fun a b k => asD a fun x => asL b fun ds => inOk x ds ∧ k (.d (.bool (if neg then !ds.any fun z => PyData.eqv z x else ds.any fun z => PyData.eqv z x)))
theorem gIn_m {neg : Bool} : D2m (gIn neg) := fun a b P P' hp h => by
  obtain ⟨x, rfl, h0⟩ := asD_iff h
  obtain ⟨ds, rfl, h1, h2⟩ := asL_iff h0
  exact ⟨h1, hp _ h2⟩
theorem dc_in (hu : X.A.units + 65 < cLine) : DCmp X g .In (rInD X.K) (gIn false) := ⟨op_inD hu, fun B ρ σ τs H x y cx cy Q b s h => by
  obtain ⟨i, e1, h⟩ := asD_iff h
  obtain ⟨ds, e2, ⟨h1, h2⟩, h3⟩ := asL_iff h
  obtain ⟨r1, r2⟩ := s.two e1 e2
  exact ⟨i, ds, r1.dp (SeqAt.canLay_of_shaped h1), r2.dp (SeqAt.canLay_of_shaped h2), h1, h2, h3 _ _ (s.pop.pop.push fun G _ _ => .bl _)⟩, gIn_m⟩
theorem dc_notin (hu : X.A.units + 65 < cLine) : DCmp X g .NotIn (rNotInD X.K) (gIn true) := ⟨op_notInD hu, fun B ρ σ τs H x y cx cy Q b s h => by
  obtain ⟨i, e1, h⟩ := asD_iff h
  obtain ⟨ds, e2, ⟨h1, h2⟩, h3⟩ := asL_iff h
  obtain ⟨r1, r2⟩ := s.two e1 e2
  exact ⟨i, ds, r1.dp (SeqAt.canLay_of_shaped h1), r2.dp (SeqAt.canLay_of_shaped h2), h1, h2, h3 _ _ (s.pop.pop.push fun G _ _ => .bl _)⟩, gIn_m⟩
/-! ### repr -/
def reprOk (x : PyData) : Prop := x.showable = true ∧ x.canLay0 = true ∧ x.depth ≤ 60 ∧ x.shown.length ≤ 16777216
def dRepr (d : DT) : DT := fun ρ Q => d ρ fun c ρ1 => match dat ρ1 c with
  | some (.list ds) => reprOk (.list ds) ∧ Q (.t (.d (.str (PyData.list ds).shown))) ρ1
  | some (.tuple ds) => reprOk (.tuple ds) ∧ Q (.t (.d (.str (PyData.tuple ds).shown))) ρ1
  | some (.int i) => i.natAbs.log2 < 1920 ∧ Q (.t (.d (.str (toString i)))) ρ1
  | _ => False
def rRepr (K : PySem.W.Frag) : List V → Hp → VK → Prop := fun xs H Q => (∃ a d, xs = [.ref a] ∧ Dp K H (.ref a) d ∧ reprOk d ∧ Q (.str d.shown) H) ∨ ∃ i, xs = [.int i] ∧ i.natAbs.log2 < 1920 ∧ Q (.str (toString i)) H
theorem cr_repr (hg : X.A.guards = some []) (hu : X.A.units + 64 < cLine) : CallR X (.builtin "repr") (rRepr X.K) := by
  intro pins s σ H xs us Q I r h
  rcases h with ⟨a, d, rfl, hd, ⟨h1, h2, h3, h4⟩, q⟩ | ⟨i, rfl, hz, q⟩
  · rw [Vals.ref1 r]
    obtain ⟨as, rd⟩ := Dp.reads I d _ (Value.ref a) hd rfl
    exact repr_of_reads' rd h1 (PyData.noDict_hsm (PyData.hasDict_of_canLay d h2)) hg (by omega) (fun b o e => e) (fun h' u tk hk => ⟨.str _, H, I.kept hk, ⟨u, rfl⟩, q⟩) (lim_le h4)
  · obtain ⟨u, rfl, t, rfl⟩ := vals1 r
    exact PySem.P.repr_of_int hz ⟨.str _, H, I.tok _, ⟨_, rfl⟩, q⟩
theorem de_repr (hA : X.A.guards = some []) (hu : X.A.units + 64 < cLine) (hg : Gl X "repr") (hx : X.mg "repr" = none) (h : DE X g e te d) (hs : starEach [e] X.env = (false, eval e X.env) :: starEach [] X.env := by rfl) :
    DE X g (.Call (.Name "repr" p) [e] [] pos) (tCB (rRepr X.K) (tCons te tNil)) (dRepr d) := ⟨pe_callB (cr_repr hA hu) hg hx (by decide +kernel) (pa_cons h.pe pa_nil hs) (he := hs), fun B ρ σ τs H Q Q' b s k h' => by
  refine h.dt B ρ σ τs H _ _ b s (fun c ρ1 v H1 s1 b1 q1 => ?_) h'
  split at q1
  · rename_i ds e
    obtain ⟨r1, q⟩ := q1
    have r := s1.rp e
    have r' := r
    obtain ⟨a, vs, rfl, _⟩ := r'.listV
    exact .inl ⟨a, _, rfl, r.dp r1.2.1, r1, k _ _ _ _ (s1.pop.push fun G _ _ => .str _) b.untail q⟩
  · rename_i ds e
    obtain ⟨r1, q⟩ := q1
    have r := s1.rp e
    have r' := r
    obtain ⟨a, vs, rfl, _⟩ := r'.tupV
    exact .inl ⟨a, _, rfl, r.dp r1.2.1, r1, k _ _ _ _ (s1.pop.push fun G _ _ => .str _) b.untail q⟩
  · rename_i i e
    obtain ⟨r1, q⟩ := q1
    exact .inr ⟨i, by rw [(s1.rp e).intV], r1, k _ _ _ _ (s1.pop.push fun G _ _ => .str _) b.untail q⟩
  · exact q1.elim⟩
/-- == of texts -/
def gEqS (neg : Bool) : D2 := fun a b k => asS a fun x => asS b fun y => k (.d (.bool (if neg then x != y else x == y)))
end
end Dl
set_option Elab.async false
set_option linter.all false
set_option maxRecDepth 100000
set_option maxHeartbeats 4000000
/-! Dl: list(enumerate(xs)), from the library's own steps. -/
namespace Dl
open PySem PySem.Spec PyProof.Rows L2
section
variable {prog : Program} {w : World} {A : Around} {E : Value → Shared → Prop} {s : Shared}
theorem alive_ {a : Addr} {Q : Option Obj → Shared → Prop} (h : Q (s.heap.get? a) s) : wpAny (model prog w) A (loadIfAlive a) Q E s := fun Γ p hΓ => by
  unfold loadIfAlive
  rw [Sem.wp_loadIfAlive]
  exact h
/-- the enumerate object; the pair that it handed out last is at a, and lives on -/
abbrev IsEO (h : Heap) (e it : Addr) (i : Int) (old : Value) (a : Addr) (fl : Bool) : Prop :=
  h.get? e = some { cls := .type "enumerate", dict := none, data := .fields #[rawInt a, .bool fl, .ref it, rawInt i, .none, old], slots := #[] }
theorem again_body {e it l a : Addr} {i : Nat} {fl : Bool} {items : Array Value} {x old : Value} {oa : Obj} {Q : Value → Shared → Prop}
    (he : IsEO s.heap e it i old a fl) (ha : s.heap.get? a = some oa) (hae : a ≠ e) (hai : a ≠ it) (hit : s.heap.IsListIter it l i) (hl : s.heap.IsList l items) (hx : items[i]? = some x) (hne : e ≠ it)
    (hQ : ∀ h', IsEO h' e it ((i : Int) + 1) old a true → h'.IsListIter it l (i + 1) →
      h'.get? s.heap.objs.size = some { cls := .type "tuple", data := .seq #[.int i s.toks, x] } → h'.objs.size = s.heap.objs.size + 1 →
      (∀ b o, b ≠ e → b ≠ it → s.heap.get? b = some o → h'.get? b = some o) → Q (.ref s.heap.objs.size) { s with heap := h', toks := s.toks + 1 }) :
    wpAny (model prog w) A (Builtin.«enumerate.__next__» ⟨[.ref e], []⟩) (fun fin s' => ∃ v, fin = .done (.ret v) ∧ Q v s') E s := by
  obtain ⟨hp, g, d, tk, os⟩ := s
  show wpAny _ _ (field (.ref e) 2 >>= _) _ _ _
  refine wpAny_bind (wpAny_field he rfl (x := .ref it) rfl ?_)
  refine wpAny_bind (wpAny_nextOf_list_item hit hl hx fun g1 t1 b1 => ?_)
  have q1 : IsEO g1 e it i old a fl := (b1.2 e hne).trans he
  have p1 : g1.get? a = some oa := (b1.2 a hai).trans ha
  show wpAny _ _ (field (.ref e) 3 >>= _) _ _ ⟨g1, g, d, tk, os⟩
  refine wpAny_bind (wpAny_field q1 rfl (x := rawInt i) rfl ?_)
  show wpAny _ _ (field (.ref e) 4 >>= _) _ _ ⟨g1, g, d, tk, os⟩
  refine wpAny_bind (wpAny_field q1 rfl (x := .none) rfl ?_)
  show wpAny _ _ (mkInt i >>= _) _ _ ⟨g1, g, d, tk, os⟩
  refine wpAny_bind (wpAny_mkInt ?_)
  show wpAny _ _ (setField (.ref e) 3 (rawInt ((i : Int) + 1)) >>= _) _ _ ⟨g1, g, d, tk + 1, os⟩
  refine wpAny_bind (wpAny_setField_rec q1 (by simp) fun g2 q2 b2 => ?_)
  have q2' : IsEO g2 e it ((i : Int) + 1) old a fl := q2
  have p2 : g2.get? a = some oa := (b2.2 a hae).trans p1
  show wpAny _ _ (setField (.ref e) 4 .none >>= _) _ _ ⟨g2, g, d, tk + 1, os⟩
  refine wpAny_bind (wpAny_setField_rec q2' (by simp) fun g3 q3 b3 => ?_)
  have q3' : IsEO g3 e it ((i : Int) + 1) old a fl := q3
  have p3 : g3.get? a = some oa := (b3.2 a hae).trans p2
  show wpAny _ _ (newTuple [.int i tk, x] >>= _) _ _ ⟨g3, g, d, tk + 1, os⟩
  refine wpAny_bind (wpAny_newTuple ?_)
  have sz : g3.objs.size = hp.objs.size := b3.1.trans (b2.1.trans b1.1)
  obtain ⟨g4, e4⟩ : ∃ g4, g4 = g3.push { cls := .type "tuple", data := .seq #[.int i tk, x] } := ⟨_, rfl⟩
  rw [← e4, sz]
  have q4 : IsEO g4 e it ((i : Int) + 1) old a fl := by rw [e4]; exact Heap.get?_push_of_some _ q3'
  have p4 : g4.get? a = some oa := by rw [e4]; exact Heap.get?_push_of_some _ p3
  have t4 : g4.get? hp.objs.size = some { cls := .type "tuple", data := .seq #[.int i tk, x] } := by rw [e4, ← sz]; exact Heap.get?_push_size _ rfl
  have z4 : g4.objs.size = hp.objs.size + 1 := by rw [e4, Heap.size_push, sz]
  have k4 : ∀ b o, b ≠ e → b ≠ it → hp.get? b = some o → g4.get? b = some o := fun b o hbe hbi hb => by
    rw [e4]
    exact Heap.get?_push_of_some _ ((b3.2 b hbe).trans ((b2.2 b hbe).trans ((b1.2 b hbi).trans hb)))
  have i4 : g4.IsListIter it l (i + 1) := by
    obtain ⟨o, ho, r⟩ := t1
    rw [e4]
    exact ⟨o, Heap.get?_push_of_some _ ((b3.2 it (Ne.symm hne)).trans ((b2.2 it (Ne.symm hne)).trans ho)), r⟩
  have hel : e < hp.objs.size := Heap.lt_size he
  show wpAny _ _ (Builtin.SmallTypes.ownedTupleIsFree (.ref e) >>= _) _ _ ⟨g4, g, d, tk + 1, os⟩
  refine wpAny_bind ?_
  unfold Builtin.SmallTypes.ownedTupleIsFree
  refine wpAny_bind (wpAny_field q4 rfl (x := rawInt a) rfl ?_)
  show wpAny _ _ (loadIfAlive (a : Int).toNat >>= _) _ _ ⟨g4, g, d, tk + 1, os⟩
  refine wpAny_bind (alive_ ?_)
  have p4' : g4.get? (a : Int).toNat = some oa := by rw [Int.toNat_natCast]; exact p4
  show wpAny _ _ (if (g4.get? (a : Int).toNat).isNone = true then _ else _) _ _ _
  rw [p4']
  show wpAny _ _ (field (.ref e) 1 >>= _) _ _ ⟨g4, g, d, tk + 1, os⟩
  refine wpAny_bind (wpAny_field q4 rfl (x := .bool fl) rfl ?_)
  have fin : ∀ g5, IsEO g5 e it ((i : Int) + 1) old a true → Heap.SameBut e g4 g5 → Q (.ref hp.objs.size) ⟨g5, g, d, tk + 1, os⟩ := fun g5 q5 b5 =>
    hQ g5 q5 (by
      obtain ⟨o, ho, r⟩ := i4
      exact ⟨o, (b5.2 it (Ne.symm hne)).trans ho, r⟩) ((b5.2 _ (Nat.ne_of_gt hel)).trans t4) (b5.1.trans z4) fun b o hbe hbi hb => (b5.2 b hbe).trans (k4 b o hbe hbi hb)
  cases fl with
  | true =>
    show wpAny _ _ (pure false) _ _ _
    refine wpAny_pure ?_
    show wpAny _ _ (ret (.ref hp.objs.size)) _ _ _
    exact wpAny_pure ⟨_, rfl, fin g4 q4 ⟨rfl, fun _ _ => rfl⟩⟩
  | false =>
    show wpAny _ _ (setField (.ref e) 1 (.bool true) >>= fun _ => pure false) _ _ ⟨g4, g, d, tk + 1, os⟩
    refine wpAny_bind (wpAny_setField_rec q4 (by simp) fun g5 q5 b5 => ?_)
    refine wpAny_pure ?_
    show wpAny _ _ (ret (.ref hp.objs.size)) _ _ _
    exact wpAny_pure ⟨_, rfl, fin g5 q5 b5⟩
/-- where the walk stands -/
def ESt (h : Heap) (e it : Addr) (i : Int) (bad : List Addr) : Prop := (∃ old, IsEnum h e it i old) ∨ ∃ a fl old oa, IsEO h e it i old a fl ∧ h.get? a = some oa ∧ a ∉ e :: it :: bad
theorem next_enum {e it l : Addr} {i : Nat} {items : Array Value} {x : Value} {bad : List Addr} {Q : Option Value → Shared → Prop}
    (he : ESt s.heap e it i bad) (hb : ∀ b ∈ bad, b < s.heap.objs.size) (hit : s.heap.IsListIter it l i) (hl : s.heap.IsList l items) (hx : items[i]? = some x) (hne : e ≠ it)
    (hQ : ∀ h', ESt h' e it ((i : Int) + 1) bad → h'.IsListIter it l (i + 1) →
      h'.get? s.heap.objs.size = some { cls := .type "tuple", data := .seq #[.int i s.toks, x] } → h'.objs.size = s.heap.objs.size + 1 →
      (∀ b o, b ≠ e → b ≠ it → s.heap.get? b = some o → h'.get? b = some o) → Q (some (.ref s.heap.objs.size)) { s with heap := h', toks := s.toks + 1 }) :
    wpAny (model prog w) A (pyNext (.ref e)) Q E s := by
  have lit : it < s.heap.objs.size := by
    obtain ⟨o, ho, _⟩ := hit
    exact Heap.lt_size ho
  rcases he with ⟨old, he⟩ | ⟨a, fl, old, oa, he, ha, hn⟩
  · have hel : e < s.heap.objs.size := Heap.lt_size he
    refine wpAny_pyNext_enum_item he hit hl hx hne fun h' c1 c2 c3 c4 c5 => hQ h' (.inr ⟨s.heap.objs.size, false, x, _, c1, c3, fun m => ?_⟩) c2 c3 c4 c5
    rcases List.mem_cons.mp m with m | m
    · exact Nat.ne_of_gt hel m
    · rcases List.mem_cons.mp m with m | m
      · exact Nat.ne_of_gt lit m
      · exact Nat.lt_irrefl _ (hb _ m)
  · have hae : a ≠ e := fun z => hn (by rw [z]; exact List.mem_cons_self)
    have hai : a ≠ it := fun z => hn (by rw [z]; exact List.mem_cons_of_mem _ List.mem_cons_self)
    have hT : s.TypeIs (.ref e) "enumerate" := ⟨_, he, rfl⟩
    unfold pyNext
    refine wpAny_bind (wpAny_attempt (wpAny_callSpecial?_slot (name := Str.ofString "__next__") hT F.slot_enumerate_next
      (wpAny_call_entry F.slot_enumerate_next hT F.entry_enumerate_next (again_body he ha hae hai hit hl hx hne fun h' c1 c2 c3 c4 c5 => ?_) (F.args_enumerate_next_1 _))))
    exact wpAny_pure (hQ h' (.inr ⟨a, true, old, oa, c1, c5 a oa hae hai ha, hn⟩) c2 c3 c4 c5)
theorem end_enum {e it l : Addr} {i : Nat} {items : Array Value} {bad : List Addr} {Q : Option Value → Shared → Prop} (hh : A.handled = none)
    (he : ESt s.heap e it i bad) (hit : s.heap.IsListIter it l i) (hl : s.heap.IsList l items) (hx : items[i]? = none)
    (hQ : ∀ h', Heap.ExtBut it s.heap h' → Q none { s with heap := h' }) : wpAny (model prog w) A (pyNext (.ref e)) Q E s := by
  rcases he with ⟨old, he⟩ | ⟨a, fl, old, oa, he, ha, hn⟩
  · exact wpAny_pyNext_enum_end hh he hit hl hx hQ
  · have hT : s.TypeIs (.ref e) "enumerate" := ⟨_, he, rfl⟩
    unfold pyNext
    refine wpAny_bind (wpAny_attempt (wpAny_callSpecial?_slot (name := Str.ofString "__next__") hT F.slot_enumerate_next
      (wpAny_call_entry F.slot_enumerate_next hT F.entry_enumerate_next ?_ (F.args_enumerate_next_1 _))))
    show wpAny _ _ (field (.ref e) 2 >>= _) _ _ _
    refine wpAny_bind (wpAny_field he rfl (x := .ref it) rfl ?_)
    refine wpAny_bind (wpAny_nextOf_list_end hh hit hl hx fun h' x he' hx' => ?_)
    obtain ⟨o, ho, hc⟩ := hx'
    refine wpAny_bind (wpAny_isInstance (T := "StopIteration") (b := true) ⟨o, ho, hc⟩ isSubtype_stop ?_)
    exact wpAny_pure (hQ _ he')
/-- the pairs that are made -/
def PairsAt (h : Heap) (lo : Nat) (items acc : Array Value) : Prop := ∀ (j : Nat) (v : Value), acc[j]? = some v → ∃ (T : Addr) (t : Tok) (x : Value), v = .ref T ∧ lo ≤ T ∧ items[j]? = some x ∧ h.get? T = some { cls := .type "tuple", data := .seq #[.int j t, x] }
theorem iter_no {h : Heap} {it l : Addr} {i : Nat} {xs : Array Value} (hit : h.IsListIter it l i) (q : h.get? it = some { cls := .type "tuple", data := .seq xs }) : False := by
  obtain ⟨o, ho, hc, hd⟩ := hit
  have d := Option.some.inj (ho.symm.trans q)
  rw [d] at hd
  cases hd
variable {R : Result → Shared → Prop}
theorem loop_enum {e it l S : Addr} {items : Array Value} {lo : Nat} (hh : A.handled = none) (hne : e ≠ it) (hSe : S ≠ e) (hSi : S ≠ it) (hlS : l ≠ S) (hle : l ≠ e) (hli : l ≠ it) (hn : items.size ≤ sizeLine) :
    ∀ (k i : Nat) (s : Shared) (acc : Array Value) (c : Nat), items.size - i = k → i ≤ items.size → ESt s.heap e it i [S] → s.heap.IsListIter it l i → s.heap.IsList l items → s.heap.get? S = some { cls := .type "list", dict := none, data := .seq acc c, slots := #[] } →
    acc.size = i → PairsAt s.heap lo items acc → lo ≤ s.heap.objs.size → lo ≤ e → lo ≤ it → lo ≤ S →
    (∀ h' tk acc' c', (∀ b o, b ≠ e → b ≠ it → b ≠ S → s.heap.get? b = some o → h'.get? b = some o) → h'.get? S = some { cls := .type "list", dict := none, data := .seq acc' c', slots := #[] } → acc'.size = items.size → PairsAt h' lo items acc' → R (.ok (.ret .none)) { s with heap := h', toks := tk }) →
    codeAny (model prog w) A (.builtin "list.extend.loop" ⟨[.ref S, .ref e, .none], []⟩) R s := by
  intro k
  induction k with
  | zero =>
    intro i s acc c hk hi he hit hl hS hz hp hlo le1 le2 le3 hR
    have hin : i = items.size := by omega
    refine codeAny_builtin F.entry_extend_loop ?_
    rw [Around.under_plainId F.plain_extend_loop _]
    show wpAny _ A.in1 (pyNext (.ref e) >>= _) _ _ s
    refine wpAny_bind (end_enum (A := A.in1) hh he hit hl (by simp [hin]) fun h' x => ?_)
    refine wpAny_pure (hR h' s.toks acc c (fun b o b1 b2 b3 q => x b o b2 q) (x S _ hSi hS) (by omega) fun j v hv => ?_)
    obtain ⟨T, t, y, q1, q2, q3, q4⟩ := hp j v hv
    refine ⟨T, t, y, q1, q2, q3, x T _ (fun z => ?_) q4⟩
    subst z
    exact iter_no hit q4
  | succ k ih =>
    intro i s acc c hk hi he hit hl hS hz hp hlo le1 le2 le3 hR
    have hlt : i < items.size := by omega
    have hSl : S < s.heap.objs.size := Heap.lt_size hS
    refine codeAny_builtin F.entry_extend_loop ?_
    rw [Around.under_plainId F.plain_extend_loop _]
    show wpAny _ A.in1 (pyNext (.ref e) >>= _) _ _ s
    refine wpAny_bind (next_enum he (fun b hb => by rw [List.mem_singleton.mp hb]; exact hSl) hit hl (Array.getElem?_eq_getElem hlt) hne fun h' c1 c2 c3 c4 c5 => ?_)
    have hS' := c5 S _ hSe hSi hS
    show wpAny _ A.in1 (updateSeq S (·.push (.ref s.heap.objs.size)) >>= _) _ _ _
    refine wpAny_bind (wpAny_updateSeq hS' rfl ?_ (by omega) (by show (acc.push _).size ≤ sizeLine + 1; rw [Array.size_push]; omega))
    have hSn := Heap.get?_update_self (Obj.mapSeq (·.push (Value.ref s.heap.objs.size))) hS' rfl
    have oth : ∀ b o, b ≠ S → h'.get? b = some o → (h'.update S (Obj.mapSeq (·.push (Value.ref s.heap.objs.size)))).get? b = some o := fun b o hb q => (Heap.get?_update_other _ _ (Ne.symm hb)).trans q
    have hST : S ≠ s.heap.objs.size := Nat.ne_of_lt hSl
    refine wpAny_pure ⟨plainId_quiet F.plain_extend_loop _, ih (i + 1) _ (acc.push (.ref s.heap.objs.size)) _ (by omega) hlt ?_ ?_ ?_ hSn (by rw [Array.size_push]; omega) ?_ ?_ le1 le2 le3 fun h2 tk acc' c' d1 d2 d3 d4 => ?_⟩
    · rcases c1 with ⟨old, q⟩ | ⟨a, fl, old, oa, q1, q2, q3⟩
      · exact .inl ⟨old, oth _ _ (Ne.symm hSe) q⟩
      · exact .inr ⟨a, fl, old, oa, oth _ _ (Ne.symm hSe) q1, oth _ _ (fun z => q3 (by rw [z]; simp)) q2, q3⟩
    · obtain ⟨o, ho, r⟩ := c2
      exact ⟨o, oth _ _ (Ne.symm hSi) ho, r⟩
    · obtain ⟨o, ho, r⟩ := hl
      exact ⟨o, oth _ _ hlS (c5 l _ hle hli ho), r⟩
    · intro j v hv
      rw [Array.getElem?_push] at hv
      split at hv
      · rename_i ej
        cases hv
        refine ⟨s.heap.objs.size, s.toks, items[i], rfl, hlo, ?_, oth _ _ (Ne.symm hST) ?_⟩
        · rw [ej, hz]
          exact Array.getElem?_eq_getElem hlt
        · rw [ej, hz]
          exact c3
      · obtain ⟨T, t, y, q1, q2, q3, q4⟩ := hp j v hv
        have nS : T ≠ S := fun z => by
          subst z
          have d := congrArg Obj.cls (Option.some.inj (q4.symm.trans hS))
          exact absurd (Value.type.inj d) (by decide)
        have ne' : T ≠ e := fun z => by
          subst z
          rcases he with ⟨old, q⟩ | ⟨a, fl, old, oa, q, _⟩
          · have d := congrArg Obj.data (Option.some.inj (q4.symm.trans q))
            cases d
          · have d := congrArg Obj.data (Option.some.inj (q4.symm.trans q))
            cases d
        have ni : T ≠ it := fun z => by
          subst z
          exact iter_no hit q4
        exact ⟨T, t, y, q1, q2, q3, oth _ _ nS (c5 _ _ ne' ni q4)⟩
    · show lo ≤ (h'.update S _).objs.size
      rw [Heap.size_update, c4]
      omega
    · exact hR h2 tk acc' c' (fun b o b1 b2 b3 q => d1 b o b1 b2 b3 (oth b o b3 (c5 b o b1 b2 q))) d2 d3 d4
theorem enum_no_len : typeLookup (.type "enumerate") "__len__" = pure none := by rw [typeLookup_type, builtinLookup_eq_fast]; kernel_rfl
theorem enum_no_hint : typeLookup (.type "enumerate") "__length_hint__" = pure none := by rw [typeLookup_type, builtinLookup_eq_fast]; kernel_rfl
theorem hint_enum {e it : Addr} {i : Int} {old : Value} {Q : Bool → Shared → Prop} (he : IsEnum s.heap e it i old) (h : Q true s) : wpAny (model prog w) A (Builtin.List.listLengthHint (.ref e)) Q E s := by
  have hT : s.TypeIs (.ref e) "enumerate" := ⟨_, he, rfl⟩
  unfold Builtin.List.listLengthHint
  refine wpAny_bind (wpAny_specialOf hT enum_no_len ?_)
  show wpAny _ _ (specialOf (.ref e) "__length_hint__" >>= _) _ _ s
  refine wpAny_bind (wpAny_specialOf hT enum_no_hint ?_)
  exact wpAny_pure h
theorem init_enum {e it l S : Addr} {items : Array Value} (hh : A.handled = none) (hne : e ≠ it) (hSe : S ≠ e) (hSi : S ≠ it) (hlS : l ≠ S) (hle : l ≠ e) (hli : l ≠ it) (hn : items.size ≤ sizeLine) (lo : Nat)
    (he : IsEnum s.heap e it 0 .none) (hit : s.heap.IsListIter it l 0) (hl : s.heap.IsList l items) (hS : s.heap.get? S = some { cls := .type "list", data := .seq #[] }) (hlo : lo ≤ s.heap.objs.size) (l1 : lo ≤ e) (l2 : lo ≤ it) (l3 : lo ≤ S)
    (hR : ∀ h' tk acc' c', (∀ b o, b ≠ e → b ≠ it → b ≠ S → s.heap.get? b = some o → h'.get? b = some o) → h'.get? S = some { cls := .type "list", dict := none, data := .seq acc' c', slots := #[] } → acc'.size = items.size → PairsAt h' lo items acc' → R (.ok (.ret .none)) { s with heap := h', toks := tk }) :
    wpAny (model prog w) A.in1 (Builtin.«list.__init__» ⟨[.ref S, .ref e], []⟩)
      (fun fin s' => match fin with | .done f => R (.ok f) s' | .again c' => c'.quiet = true ∧ codeAny (model prog w) A c' R s') (fun x s' => R (.error x) s') s := by
  show wpAny _ _ (do let old ← Builtin.List.listItems (.ref S); Builtin.List.listUpdate (.ref S) (fun _ => #[]); letGo old.toList.reverse; Builtin.List.listExtendWith (.ref S) (.ref e) .none) _ _ s
  refine wpAny_bind ?_
  unfold Builtin.List.listItems
  refine wpAny_bind (wpAny_seqItems hS rfl (wpAny_pure ?_))
  show wpAny _ _ (updateSeq S (fun _ => #[]) >>= fun _ => letGo (#[] : Array Value).toList.reverse >>= fun _ => Builtin.List.listExtendWith (.ref S) (.ref e) .none) _ _ s
  refine wpAny_bind (wpAny_updateSeq hS rfl ?_)
  have hS1 := Heap.get?_update_self (Obj.mapSeq (fun _ => (#[] : Array Value))) hS rfl
  have o1 : ∀ b o, b ≠ S → s.heap.get? b = some o → (s.heap.update S (Obj.mapSeq (fun _ => (#[] : Array Value)))).get? b = some o :=
    fun b o hb q => (Heap.get?_update_other _ _ (Ne.symm hb)).trans q
  refine wpAny_bind (wpAny_letGo ?_)
  unfold Builtin.List.listExtendWith
  refine wpAny_bind (wpAny_typeOf (T := "enumerate") ⟨_, o1 _ _ (Ne.symm hSe) he, rfl⟩ ?_)
  have c1 : Builtin.List.listSameRef (.ref S) (.ref e) = false := by simp [Builtin.List.listSameRef, hSe]
  have c2 : (Value.type "enumerate" == Value.type "list") = false := by decide
  have c3 : (Value.type "enumerate" == Value.type "tuple") = false := by decide
  simp only [c1, c2, c3, Bool.or_false, Bool.false_eq_true, if_false]
  refine wpAny_bind (wpAny_pyIter_enum (o1 _ _ (Ne.symm hSe) he) ?_)
  refine wpAny_bind (wpAny_holding (hint_enum (o1 _ _ (Ne.symm hSe) he) ?_))
  simp only [Bool.true_or, if_true]
  refine wpAny_bind (wpAny_rule ?_)
  refine wpAny_bind ?_
  show wpAny _ _ (updateSeq S (·.push .none) >>= fun _ => updateSeq S (·.pop)) _ _ _
  refine wpAny_bind (wpAny_updateSeq hS1 rfl ?_)
  have hS2 := Heap.get?_update_self (Obj.mapSeq (·.push Value.none)) hS1 rfl
  refine wpAny_updateSeq (hz := by seq_fits) hS2 rfl ?_
  have hS3 := Heap.get?_update_self (Obj.mapSeq (·.pop)) hS2 rfl
  have o3 : ∀ b o, b ≠ S → s.heap.get? b = some o → (((s.heap.update S (Obj.mapSeq (fun _ => (#[] : Array Value)))).update S (Obj.mapSeq (·.push Value.none))).update S (Obj.mapSeq (·.pop))).get? b = some o :=
    fun b o hb q => (Heap.get?_update_other _ _ (Ne.symm hb)).trans ((Heap.get?_update_other _ _ (Ne.symm hb)).trans (o1 b o hb q))
  refine wpAny_pure ⟨plainId_quiet F.plain_extend_loop _, loop_enum (l := l) (items := items) (lo := lo) hh hne hSe hSi hlS hle hli hn items.size 0 _ #[] _ rfl (Nat.zero_le _) (.inl ⟨_, o3 _ _ (Ne.symm hSe) he⟩) ?_ ?_ hS3 rfl ?_ ?_ l1 l2 l3 fun h' tk acc' c' d1 d2 d3 d4 => ?_⟩
  · obtain ⟨o, ho, r⟩ := hit
    exact ⟨o, o3 _ _ (Ne.symm hSi) ho, r⟩
  · obtain ⟨o, ho, r⟩ := hl
    exact ⟨o, o3 _ _ hlS ho, r⟩
  · intro j v hv
    simp at hv
  · show lo ≤ (((s.heap.update S _).update S _).update S _).objs.size
    rw [Heap.size_update, Heap.size_update, Heap.size_update]
    exact hlo
  · exact hR h' tk acc' c' (fun b o b1 b2 b3 q => d1 b o b1 b2 b3 (o3 b o b3 q)) d2 d3 d4
theorem call_list_enum {e it l : Addr} {items : Array Value} {Q : Value → Shared → Prop} (hh : A.handled = none) (hne : e ≠ it) (hle : l ≠ e) (hli : l ≠ it) (hn : items.size ≤ sizeLine) (lo : Nat)
    (he : IsEnum s.heap e it 0 .none) (hit : s.heap.IsListIter it l 0) (hl : s.heap.IsList l items) (hlo : lo ≤ s.heap.objs.size) (l1 : lo ≤ e) (l2 : lo ≤ it)
    (hQ : ∀ h' tk acc' c', (∀ b o, b ≠ e → b ≠ it → s.heap.get? b = some o → h'.get? b = some o) → h'.get? s.heap.objs.size = some { cls := .type "list", dict := none, data := .seq acc' c', slots := #[] } → acc'.size = items.size → PairsAt h' lo items acc' → Q (.ref s.heap.objs.size) { s with heap := h', toks := tk }) :
    wpAny (model prog w) A (call (.type "list") [.ref e]) Q E s := by
  refine callType_codes (Q₁ := fun obj s₁ => obj = .ref s.heap.objs.size ∧ s₁ = { s with heap := s.heap.push { cls := .type "list", data := .seq #[] } }) F.called_list (F.typeCall_list_1 _) F.entry_list_init
    (code_list_new _ ⟨rfl, rfl⟩) fun obj s₁ h₁ => ?_
  obtain ⟨rfl, rfl⟩ := h₁
  have hS : (s.heap.push { cls := .type "list", data := .seq #[] }).get? s.heap.objs.size = some { cls := .type "list", data := .seq #[] } := Heap.get?_push_size _ rfl
  have hel : e < s.heap.objs.size := Heap.lt_size he
  have hil : it < s.heap.objs.size := by
    obtain ⟨o, ho, _⟩ := hit
    exact Heap.lt_size ho
  have hll : l < s.heap.objs.size := by
    obtain ⟨o, ho, _⟩ := hl
    exact Heap.lt_size ho
  refine ⟨⟨_, hS, rfl⟩, F.args_list_init_2 _ _, init_enum (A := A.in1) (l := l) (it := it) (items := items) hh hne (Nat.ne_of_gt hel) (Nat.ne_of_gt hil) (Nat.ne_of_lt hll) hle hli hn lo (Heap.get?_push_of_some _ he) ?_ ?_ hS ?_ l1 l2 hlo fun h' tk acc' c' d1 d2 d3 d4 => ?_⟩
  · obtain ⟨o, ho, r⟩ := hit
    exact ⟨o, Heap.get?_push_of_some _ ho, r⟩
  · obtain ⟨o, ho, r⟩ := hl
    exact ⟨o, Heap.get?_push_of_some _ ho, r⟩
  · show lo ≤ (s.heap.push _).objs.size
    rw [Heap.size_push]
    exact Nat.le_succ_of_le hlo
  · exact ⟨rfl, hQ h' tk acc' c' (fun b o b1 b2 q => d1 b o b1 b2 (Nat.ne_of_lt (Heap.lt_size q)) (Heap.get?_push_of_some _ q)) d2 d3 d4⟩
end
end Dl
set_option Elab.async false
set_option linter.all false
set_option maxRecDepth 100000
set_option maxHeartbeats 4000000
/-! Dl: list(enumerate(xs)) as a rule. -/
namespace Dl
open PySem PySem.Spec PyProof.Rows L2
section
variable {P : Program} {w : World} {H H1 : Hp} {h h' : Heap} {a : Addr} {o : HO} {fs ex : List Addr}
/-- one more is tracked -/
theorem hok_add (x : HOk P w H h) (hn : H a = none) (new : ObjOk P w (upd H a o) h a o) : HOk P w (upd H a o) h := fun b u e => by
  by_cases hb : b = a
  · subst hb
    rw [upd_same] at e
    cases e
    exact new
  · rw [upd_ne hb] at e
    refine (x b u e).stay (fun c v _ q => q) (fun c q => ?_) fun c xs q => ?_
    · rw [upd_ne (ne_of_none q hn)]
      exact q
    · rw [upd_ne (ne_of_none q hn)]
      exact q
theorem un_add (u : Un fs ex H H1 h h') (hn : H1 a = none) (hp : h.objs.size ≤ a) : Un fs ex H (upd H1 a o) h h' where
  keep := u.keep
  slot := u.slot
  free := fun b ob q n hx => by
    rw [upd_ne (Nat.ne_of_lt (Nat.lt_of_lt_of_le (Heap.lt_size q) hp))]
    exact u.free b ob q n hx
  there := u.there
  tups := fun b xs q => by
    have z := u.tups b xs q
    rw [upd_ne (ne_of_none z hn)]
    exact z
  frzs := fun b ob v q => by
    have z := u.frzs b ob v q
    rw [upd_ne (ne_of_none z hn)]
    exact z
  tbls := fun b ps q => by
    obtain ⟨m, z⟩ := u.tbls b ps q
    refine ⟨m, ?_⟩
    rw [upd_ne (ne_of_none z hn)]
    exact z
end
/-- new pairs, one by one -/
def LayE (Q : List V → Hp → Prop) : Nat → List V → List V → Hp → Prop
  | _, [], acc, H => Q acc H
  | i, x :: xs, acc, H => ∀ T, H T = none → LayE Q (i + 1) xs (acc ++ [.ref T]) (upd H T (.tup [.int (i : Nat), x]))
section
variable {P : Program} {w : World} {H : Hp} {h h' : Heap} {fs : List Addr}
theorem lay_go {Q : List V → Hp → Prop} {items acc : Array Value} (hl : acc.size = items.size) (hp : PairsAt h' h.objs.size items acc) (ok0 : HOk P w H h) : ∀ (xs : List V) (us : List Value) (i : Nat) (ac : List V) (Hi : Hp),
    Vals xs us → items.toList.drop i = us → Un fs [] H Hi h h' → HOk P w Hi h' → Vals ac (acc.toList.take i) → (∀ b o, Hi b = some o → H b = some o ∨ ∃ j : Nat, j < i ∧ acc[j]? = some (Value.ref b)) → LayE Q i xs ac Hi →
    ∃ ac' Hn, Q ac' Hn ∧ Un fs [] H Hn h h' ∧ HOk P w Hn h' ∧ Vals ac' acc.toList ∧ (∀ b o, Hn b = some o → H b = some o ∨ ∃ j : Nat, acc[j]? = some (Value.ref b))
  | [], _, i, ac, Hi, .nil, hd, u, ok, rv, hb, q => by
    have hi : acc.toList.take i = acc.toList := by
      apply List.take_of_length_le
      have : items.toList.length ≤ i := List.drop_eq_nil_iff.mp hd
      simp at this ⊢
      omega
    rw [hi] at rv
    exact ⟨ac, Hi, q, u, ok, rv, fun b o e => (hb b o e).imp id fun ⟨j, _, e2⟩ => ⟨j, e2⟩⟩
  | x :: xs, v :: us, i, ac, Hi, .cons r t, hd, u, ok, rv, hb, q => by
    have hi : i < items.size := by
      have : i < items.toList.length := by
        apply Nat.lt_of_not_le
        intro z
        rw [List.drop_of_length_le z] at hd
        cases hd
      simpa using this
    have hiv : items[i]? = some v := by
      have e1 : (items.toList.drop i)[0]? = some v := by rw [hd]; rfl
      rw [List.getElem?_drop] at e1
      simpa using e1
    have hia : i < acc.size := by omega
    obtain ⟨T, tk, y, q1, q2, q3, q4⟩ := hp i _ (Array.getElem?_eq_getElem hia)
    have ey : y = v := by
      rw [hiv] at q3
      exact (Option.some.inj q3).symm
    subst ey
    have hT : Hi T = none := by
      cases e : Hi T with
      | none => rfl
      | some o =>
        rcases hb T o e with z | ⟨j, z1, z2⟩
        · rw [ok0.fresh q2] at z
          cases z
        · obtain ⟨T', tk', y', p1, p2, p3, p4⟩ := hp j _ z2
          have eT : T = T' := Value.ref.inj p1
          subst eT
          have d := congrArg Obj.data (Option.some.inj (q4.symm.trans p4))
          have d2 : (#[Value.int i tk, y] : Array Value) = #[.int j tk', y'] := by
            injection d
          have d3 : Value.int (i : Nat) tk = Value.int (j : Nat) tk' := by
            have := congrArg (fun z : Array Value => z[0]?) d2
            simpa using this
          have d4 : ((i : Nat) : Int) = (j : Nat) := by
            injection d3
          omega
    have new : ObjOk P w (upd Hi T (.tup [.int (i : Nat), x])) h' T (.tup [.int (i : Nat), x]) := ⟨lim_le (by show 2 ≤ 16777216; decide), [.int i tk, y], .cons ⟨_, rfl⟩ (.cons r .nil), ⟨_, q4, rfl, _, rfl⟩⟩
    refine lay_go hl hp ok0 xs us (i + 1) (ac ++ [.ref T]) (upd Hi T (.tup [.int (i : Nat), x])) t ?_ (un_add u hT q2) (hok_add ok hT new) ?_ (fun b o e => ?_) (q T hT)
    · rw [← List.drop_drop, hd]
      rfl
    · have e1 : acc.toList.take (i + 1) = acc.toList.take i ++ [.ref T] := by
        rw [List.take_add_one, List.getElem?_eq_getElem (by simpa using hia)]
        simp [q1]
      rw [e1]
      exact rv.append (.cons rfl .nil)
    · by_cases z : b = T
      · subst z
        exact .inr ⟨i, Nat.lt_succ_self i, by rw [Array.getElem?_eq_getElem hia, q1]⟩
      · rw [upd_ne z] at e
        exact (hb b o e).imp id fun ⟨j, w1, w2⟩ => ⟨j, Nat.lt_succ_of_lt w1, w2⟩
end
section
variable {X : Cx} {g : Gm} {e : Expr} {te : TE} {d : DT} {p p2 pos pos2 : Pos}
def tListE (K : PySem.W.Frag) (te : TE) : TE := fun σ H Q => te σ H fun x H1 => ∃ a xs, x = .ref a ∧ SqL K H1 a xs ∧ LayE (fun vs H2 => ∀ p, H2 p = none → Q (.ref p) (upd H2 p (.lst vs))) 0 xs [] H1
theorem pe_listEnum (hc : X.calm = true) (hg : Gl X "list") (hm : X.mg "list" = none) (hg2 : Gl X "enumerate") (hm2 : X.mg "enumerate" = none) (h : PE X e te)
    (hs : starEach [.Call (.Name "enumerate" p2) [e] [] pos2] X.env = (false, eval (.Call (.Name "enumerate" p2) [e] [] pos2) X.env) :: starEach [] X.env := by rfl) (hs2 : starEach [e] X.env = (false, eval e X.env) :: starEach [] X.env := by rfl) :
    PE X (.Call (.Name "list" p) [.Call (.Name "enumerate" p2) [e] [] pos2] [] pos) (tListE X.K te) := by
  refine ⟨fun pins s σ H Q I h' => ?_⟩
  refine wpAny_Call_Name_kw (ld_blt I hg hm (u := .type "list") (by decide +kernel) (PyProof.Rows.callWith_type1 ?_ hs rfl))
  rw [hs]
  show wpAny _ _ (spliced ((false, eval (.Call (.Name "enumerate" p2) [e] [] pos2) X.env) :: backTo pos (starEach [] X.env))) _ _ s
  refine Calls.spliced_cons (wpAny_Call_Name_kw (ld_blt I hg2 hm2 (u := .type "enumerate") (by decide +kernel) (PyProof.Rows.callWith_type1 ?_ hs2 rfl)))
  rw [hs2]
  show wpAny _ _ (spliced ((false, eval e X.env) :: backTo pos2 (starEach [] X.env))) _ _ s
  refine Calls.spliced_cons (thn (h.run pins s σ H _ I h') fun u s1 ⟨x, H1, I1, ru, q1⟩ => Calls.spliced_nil ?_)
  · obtain ⟨a, xs, rfl, hq, q⟩ := q1
    obtain rfl : u = Value.ref a := ru
    obtain ⟨its, rv, pl, hz⟩ := I1.list hq
    refine call_enumerate_list pl.isList fun g1 he hit hsz hk => Calls.spliced_nil ?_
    have hla : a < s1.heap.objs.size := by
      obtain ⟨o, ho, _⟩ := pl.isList
      exact Heap.lt_size ho
    have hl1 : g1.IsList a its.toArray := by
      obtain ⟨o, ho, r⟩ := pl.isList
      exact ⟨o, hk _ _ ho, r⟩
    refine call_list_enum (I1.ok.hd hc) (Nat.succ_ne_self _) (Nat.ne_of_lt (Nat.lt_succ_of_lt hla)) (Nat.ne_of_lt hla) (by simp; rw [← rv.length]; exact hz) s1.heap.objs.size he hit hl1 (by show _ ≤ g1.objs.size; rw [hsz]; omega) (Nat.le_succ _) (Nat.le_refl _) fun g2 tk acc c k2 hS hz2 hp => ?_
    have keep : ∀ b o, s1.heap.get? b = some o → g2.get? b = some o := fun b o q => k2 b o (Nat.ne_of_lt (Nat.lt_succ_of_lt (Heap.lt_size q))) (Nat.ne_of_lt (Heap.lt_size q)) (hk b o q)
    have u0 : Un X.fs [] H1 H1 s1.heap g2 := Un.kept keep
    obtain ⟨ac, Hn, qn, un, okn, rvn, hbn⟩ := lay_go (P := X.prog) (w := X.w) hz2 hp I1.hok xs its 0 [] H1 rv rfl u0 (I1.hok.kept keep) .nil (fun b o e => .inl e) q
    have hSn : Hn g1.objs.size = none := by
      cases e : Hn g1.objs.size with
      | none => rfl
      | some o =>
        rcases hbn _ o e with z | ⟨j, z⟩
        · rw [I1.hok.fresh (by rw [hsz]; omega)] at z
          cases z
        · obtain ⟨T, t, y, p1, p2, p3, p4⟩ := hp j _ z
          have eT : g1.objs.size = T := Value.ref.inj p1
          subst eT
          have dd := congrArg Obj.cls (Option.some.inj (p4.symm.trans hS))
          exact absurd (Value.type.inj dd) (by decide)
    have lz : ac.length ≤ sizeLine := by
      rw [rvn.length]
      simp
      rw [hz2]
      simp
      rw [← rv.length]
      exact hz
    have new : ObjOk X.prog X.w (upd Hn g1.objs.size (.lst ac)) g2 g1.objs.size (.lst ac) := ⟨lz, acc.toList, c, rvn, by simpa using hS⟩
    have I2 : Inv X pins σ (upd Hn g1.objs.size (.lst ac)) { s1 with heap := g2, toks := tk } := I1.un (un_add un hSn (by rw [hsz]; omega)) (hok_add okn hSn new)
    exact ⟨.ref g1.objs.size, _, I2, rfl, qn _ hSn⟩
def enumG : Nat → List PyData → List PyData
  | _, [] => []
  | i, x :: xs => PyData.tuple [.int (i : Nat), x] :: enumG (i + 1) xs
theorem enumG_eq : ∀ (ds : List PyData) (i : Nat), enumG i ds = ds.mapIdx fun j d => PyData.tuple [.int ((i + j : Nat) : Int), d]
  | [], _ => rfl
  | x :: xs, i => by
    rw [enumG, enumG_eq xs (i + 1), List.mapIdx_cons]
    congr 1
    apply List.ext_getElem?
    intro k
    simp only [List.getElem?_mapIdx]
    rw [show i + 1 + k = i + (k + 1) by omega]
theorem enumG0 (ds : List PyData) : enumG 0 ds = enumD ds := by
  rw [enumG_eq]
  unfold enumD
  simp
theorem SI.layE {K : PySem.W.Frag} {B : Base} {ρ : Rho} {σ : L2.St} {τs : List (V × C)} {Q : List V → Hp → Prop} : ∀ {xs : List V} {ds : List PyData} {i : Nat} {ac : List V} {es : List PyData} {H : Hp}, xs.length = ds.length → ac.length = es.length →
    SI K B ρ σ (tmp ac (es.map T.d) ++ (tmp xs (ds.map T.d) ++ τs)) H → (∀ ac' H', ac'.length = (es ++ enumG i ds).length → SI K B ρ σ (tmp ac' ((es ++ enumG i ds).map T.d) ++ τs) H' → Q ac' H') → LayE Q i xs ac H
  | [], [], i, ac, es, H, _, hl, s, k => by
    refine k ac H (by simpa [enumG] using hl) ?_
    simpa [enumG, tmp] using s
  | [], _ :: _, _, _, _, _, h, _, _, _ => by simp at h
  | _ :: _, [], _, _, _, _, h, _, _, _ => by simp at h
  | x :: xs, d :: ds, i, ac, es, H, h, hl, s, k => by
    intro pT hT
    have s1 : SI K B ρ σ ((x, .t (.d d)) :: (tmp ac (es.map T.d) ++ (tmp xs (ds.map T.d) ++ τs))) H := SI.perm s (List.perm_middle (a := (x, C.t (.d d))) (l₁ := tmp ac (es.map T.d)) (l₂ := tmp xs (ds.map T.d) ++ τs))
    have s2 := SI.pair (s1.push (v := .int (i : Nat)) (x := .int (i : Nat)) fun G _ _ => .int _) hT
    have s3 : SI K B ρ σ (tmp (ac ++ [.ref pT]) ((es ++ [PyData.tuple [.int (i : Nat), d]]).map T.d) ++ (tmp xs (ds.map T.d) ++ τs)) (upd H pT (.tup [.int (i : Nat), x])) := by
      rw [List.map_append, tmp_app (by simpa using hl), List.append_assoc]
      exact SI.perm s2 (List.perm_middle (a := (V.ref pT, C.t (.d (PyData.tuple [.int (i : Nat), d])))) (l₁ := tmp ac (es.map T.d)) (l₂ := tmp xs (ds.map T.d) ++ τs)).symm
    have e1 : (es ++ [PyData.tuple [.int (i : Nat), d]]) ++ enumG (i + 1) ds = es ++ enumG i (d :: ds) := by simp [enumG]
    exact SI.layE (i := i + 1) (by simpa using h) (es := es ++ [PyData.tuple [.int (i : Nat), d]]) (by simp [hl]) s3 fun ac' H' h1 h2 => k ac' H' (by rw [← e1]; exact h1) (by rw [← e1]; exact h2)
def dListE (d : DT) : DT := fun ρ Q => d ρ fun c ρ1 => asF (look ρ1 c) fun ds => Q (.t (.ls ((enumD ds).map T.d))) ρ1
theorem de_listEnum (hc : X.calm = true) (hg : Gl X "list") (hm : X.mg "list" = none) (hg2 : Gl X "enumerate") (hm2 : X.mg "enumerate" = none) (h : DE X g e te d)
    (hs : starEach [.Call (.Name "enumerate" p2) [e] [] pos2] X.env = (false, eval (.Call (.Name "enumerate" p2) [e] [] pos2) X.env) :: starEach [] X.env := by rfl) (hs2 : starEach [e] X.env = (false, eval e X.env) :: starEach [] X.env := by rfl) :
    DE X g (.Call (.Name "list" p) [.Call (.Name "enumerate" p2) [e] [] pos2] [] pos) (tListE X.K te) (dListE d) := ⟨pe_listEnum hc hg hm hg2 hm2 h.pe hs hs2, fun B ρ σ τs H Q Q' b s k h' => by
  refine h.dt B ρ σ τs H _ _ b s (fun c ρ1 v H1 s1 b1 q1 => ?_) h'
  obtain ⟨t, ds, e1, e2, q⟩ := asF_iff q1
  obtain ⟨a, vs, rfl, w1, w2, w3, w4, w5⟩ := s1.itms e1 (itms_flat e2)
  refine ⟨a, vs, rfl, w2 e2, SI.layE (es := []) w3.len rfl (w5 vs ds fun G r => r) fun ac H2 hl s2 p hp => ?_⟩
  simp only [List.nil_append, enumG0] at hl s2
  exact k _ _ _ _ (SI.newF s2 hl hp) b.untail q⟩
end
end Dl
set_option Elab.async false
set_option linter.all false
set_option maxRecDepth 100000
set_option maxHeartbeats 4000000
/-! Dl: sorted, of pairs of ints. -/
namespace Dl
open PySem PySem.Spec PyProof.Rows L2
abbrev Pr := Int × Int
def pairD (p : Pr) : PyData := .tuple [.int p.1, .int p.2]
/-- p not behind q -/
def lexle (p q : Pr) : Prop := p.1 < q.1 ∨ p.1 = q.1 ∧ p.2 ≤ q.2
/-- what a heap's object tells -/
def rdP (h : Heap) : V → Pr
  | .ref t => match h.get? t with
    | some o => match o.data with
      | .seq its _ => match its.toList with
        | [.int i _, .int j _] => (i, j)
        | _ => (0, 0)
      | _ => (0, 0)
    | none => (0, 0)
  | _ => (0, 0)
def pairAt (K : PySem.W.Frag) (H : Hp) (x : V) (p : Pr) : Prop := ∃ t, x = .ref t ∧ SqT K H t [.int p.1, .int p.2]
def rSortedQ (K : PySem.W.Frag) : List V → Hp → VK → Prop := fun vs H Q => ∃ (a : Addr) (xs : List V) (ps : List Pr), vs = [V.ref a] ∧ SqL K H a xs ∧ Paired (pairAt K H) xs ps ∧
  ∀ (prs : List (V × Pr)) (p : Addr), prs.Perm (xs.zip ps) → (prs.map (·.2)).Pairwise lexle → H p = none → Q (.ref p) (upd H p (.lst (prs.map (·.1))))
section
variable {X : Cx} {pins : List (Addr × Obj)} {σ : L2.St} {H : Hp} {s : Shared}
theorem pair_tells (I : Inv X pins σ H s) {x : V} {p : Pr} (h : pairAt X.K H x p) : ∃ t o t1 t2 n, x = V.ref t ∧ s.heap.get? t = some o ∧ o.cls = .type "tuple" ∧ o.data = .seq #[.int p.1 t1, .int p.2 t2] n ∧ rdP s.heap x = p := by
  obtain ⟨t, rfl, hs⟩ := h
  obtain ⟨its, rv, ⟨o, ho, hc, n, hd⟩, _⟩ := I.tuple hs
  obtain ⟨u1, u2, rfl, ⟨t1, rfl⟩, ⟨t2, rfl⟩⟩ := vals2 rv
  refine ⟨t, o, t1, t2, n, rfl, ho, hc, hd, ?_⟩
  unfold rdP
  simp only [ho, hd]
theorem zip_map {α β : Type} (f : α → β) : ∀ {xs : List α} {ps : List β}, Paired (fun x p => f x = p) xs ps → xs.zip ps = xs.map fun x => (x, f x)
  | _, _, .nil => rfl
  | _, _, .cons r t => by
    rw [List.zip_cons_cons, List.map_cons, zip_map f t, r]
theorem cr_sortedQ : CallR X (.builtin "sorted") (rSortedQ X.K) := by
  intro pins s σ H vs us Q I r h
  obtain ⟨a, xs, ps, rfl, hs, hx, q⟩ := h
  obtain ⟨its, rv, hl, hz⟩ := I.list hs
  obtain ⟨u, rfl, ru⟩ := vals1 r
  obtain rfl : u = Value.ref a := ru
  have hm : ∀ x ∈ xs, ∃ p, pairAt X.K H x p := fun x m => by
    clear q hs rv hz hl
    induction hx with
    | nil => cases m
    | cons r t ih =>
      rcases List.mem_cons.mp m with rfl | m
      · exact ⟨_, r⟩
      · exact ih m
  obtain ⟨e1, e2⟩ := refs_back rv fun x m => by
    obtain ⟨p, t, e, _⟩ := hm x m
    exact ⟨t, e⟩
  have hzp : xs.zip ps = xs.map fun x => (x, rdP s.heap x) := zip_map (rdP s.heap) (Paired.mapP hx fun x p c => by
    obtain ⟨_, _, _, _, _, _, _, _, _, z⟩ := pair_tells I c
    exact z)
  refine SrtO.sorted_pairsO (k := fun u => rdP s.heap (backV u)) hl.isList (by rw [← rv.length]; exact hz) (fun v hv => ?_) fun h' d out h1 h2 kp hd hn => ?_
  · obtain ⟨t, rfl⟩ := e2 v hv
    have hmem : V.ref t ∈ xs := by
      rw [e1]
      exact List.mem_map.mpr ⟨_, hv, rfl⟩
    obtain ⟨p, c⟩ := hm _ hmem
    obtain ⟨t', o, t1, t2, n, e, c1, c2, c3, c4⟩ := pair_tells I c
    cases e
    have e5 : rdP s.heap (backV (Value.ref t)) = p := c4
    refine ⟨t, o, t1, t2, n, rfl, c1, c2, ?_⟩
    rw [e5]
    exact c3
  · have h3 : ∀ u ∈ out, ∃ a, u = Value.ref a := fun u hu => e2 u (h2.perm.mem_iff.mp hu)
    obtain ⟨n, hn⟩ := hn
    have hp : (out.map backV).Perm xs := by
      rw [e1]
      exact h2.perm.map backV
    have hq := q ((out.map backV).map fun x => (x, rdP s.heap x)) d (by rw [hzp]; exact hp.map _) ?_ (I.hok.fresh hd)
    · rw [List.map_map] at hq
      have ei : ((fun z : V × Pr => z.1) ∘ fun x => (x, rdP s.heap x)) = id := rfl
      rw [ei, List.map_id] at hq
      refine ⟨.ref d, upd H d (.lst (out.map backV)), I.laid (t' := s.toks) kp hd ⟨?_, out, n, vals_back h3, hn⟩, rfl, hq⟩
      rw [hp.length_eq]
      exact hz
    · rw [List.map_map, List.map_map]
      refine List.pairwise_map.mpr (List.Pairwise.imp ?_ h1)
      intro x y hxy
      have b := SrtO.lexB_no.mp hxy
      show lexle (rdP s.heap (backV x)) (rdP s.heap (backV y))
      unfold lexle
      omega
end
/-- all pairs of ints -/
def pairsL : List PyData → Option (List Pr)
  | [] => some []
  | .tuple [.int i, .int j] :: r => (pairsL r).map ((i, j) :: ·)
  | _ :: _ => none
theorem pairsL_eq : ∀ {ds : List PyData} {ps : List Pr}, pairsL ds = some ps → ds = ps.map pairD
  | [], ps, h => by
    simp only [pairsL, Option.some.injEq] at h
    subst h
    rfl
  | d :: r, ps, h => by
    unfold pairsL at h
    split at h
    · cases e : pairsL r <;> simp_all
    · rename_i i j r' heq
      cases heq
      cases e : pairsL r with
      | none => simp [e] at h
      | some m =>
        simp [e] at h
        subst h
        rw [pairsL_eq e]
        rfl
    · cases h
@[simp] theorem pairsL_map : ∀ ps : List Pr, pairsL (ps.map pairD) = some ps
  | [] => rfl
  | p :: ps => by simp [pairsL, pairD, pairsL_map ps]
@[irreducible] def asPs (o : Option T) (k : List Pr → Prop) : Prop := match (o.bind flat).bind pairsL with
  | some ns => k ns
  | none => False
theorem asPs_iff {o : Option T} {k : List Pr → Prop} (h : asPs o k) : ∃ t ns, o = some t ∧ flat t = some (ns.map pairD) ∧ k ns := by
  unfold asPs at h
  split at h
  · rename_i ns e
    cases o with
    | none => cases e
    | some t =>
      cases e2 : flat t with
      | none => simp [e2] at e
      | some ds =>
        simp [e2] at e
        have := pairsL_eq e
        subst this
        exact ⟨t, ns, rfl, e2, h⟩
  · exact h.elim
def fSortP : D1 := fun o k => asPs o fun ns => ∀ qs : List Pr, qs.Perm ns → qs.Pairwise lexle → k (.ls (qs.map fun p => T.d (pairD p)))
theorem fSortP_m : D1m fSortP := fun o P P' hp h => by
  obtain ⟨t, ns, rfl, e2, q⟩ := asPs_iff h
  unfold fSortP asPs
  simp only [Option.bind_some, e2, pairsL_map]
  exact fun ns' h1 h2 => hp _ (q ns' h1 h2)
theorem RpL.pairs {K : PySem.W.Frag} {G : Hp} : ∀ {ps : List Pr} {vs : List V}, RpL K G vs (ps.map pairD) → Paired (pairAt K G) vs ps
  | [], _, .nil => .nil
  | p :: ps, _, .cons h t => .cons (by
      obtain ⟨a, ws, rfl, w1, w2⟩ := h.tupV
      refine ⟨a, rfl, ?_⟩
      have : ws = [.int p.1, .int p.2] := by
        cases w2 with
        | cons x w2 =>
          cases w2 with
          | cons y w2 =>
            cases w2
            rw [x.intV, y.intV]
      rw [← this]
      exact w1) (RpL.pairs t)
theorem RpL.zipm {K : PySem.W.Frag} {G : Hp} : ∀ {ps : List Pr} {vs : List V}, RpL K G vs (ps.map pairD) → ∀ z ∈ vs.zip ps, Rp K G z.1 (pairD z.2)
  | [], _, .nil, z, m => by cases m
  | p :: ps, v :: _, .cons h t, z, m => by
    rw [List.zip_cons_cons] at m
    rcases List.mem_cons.mp m with rfl | m
    · exact h
    · exact RpL.zipm t z m
theorem rpL_of {K : PySem.W.Frag} {G : Hp} : ∀ {prs : List (V × Pr)}, (∀ z ∈ prs, Rp K G z.1 (pairD z.2)) → RpL K G (prs.map (·.1)) ((prs.map (·.2)).map pairD)
  | [], _ => .nil
  | z :: prs, h => .cons (h z List.mem_cons_self) (rpL_of fun y m => h y (List.mem_cons_of_mem _ m))
section
variable {X : Cx} {g : Gm} {e : Expr} {te : TE} {d : DT} {p pos : Pos}
theorem dr_sortP : DR1 X g (rSortedQ X.K) fSortP := fun B ρ σ τs H x c Q b s h => by
  obtain ⟨t, ns, e1, e2, q⟩ := asPs_iff h
  obtain ⟨a, vs, rfl, w1, w2, w3, w4, w5⟩ := s.itms e1 (itms_flat e2)
  refine ⟨a, vs, ns, rfl, w2 e2, w3.pairs, fun prs r h1 h2 hr => ?_⟩
  have hq := q (prs.map (·.2)) ?_ h2
  · refine hq _ _ ?_
    have s2 := w5 (prs.map (·.1)) ((prs.map (·.2)).map pairD) fun G rr => rpL_of fun z m => RpL.zipm rr z (h1.mem_iff.mp m)
    have s3 := SI.newF s2 (by simp) hr
    rw [List.map_map] at s3
    exact s3
  · have := h1.map (·.2)
    have e3 : (vs.zip ns).map (·.2) = ns := by
      have hl := w3.len
      rw [List.length_map] at hl
      exact List.map_snd_zip (by omega)
    rw [e3] at this
    exact this
theorem de_sortP (hg : Gl X "sorted") (hx : X.mg "sorted" = none) (h : DE X g e te d) (hs : starEach [e] X.env = (false, eval e X.env) :: starEach [] X.env := by rfl) : DE X g (.Call (.Name "sorted" p) [e] [] pos) (tCB (rSortedQ X.K) (tCons te tNil)) (dC1 fSortP d) :=
  de_c1 cr_sortedQ dr_sortP fSortP_m hg hx (by decide +kernel) h (hs := hs)
end
theorem unit65 {k : Nat} {A : Around} (r : RoomG k A) : A.units + 65 < cLine := by
  have := r.room.un
  omega
/-! ### comprehensions, the words read at each block -/
abbrev Blk (α : Type) := Shared → Hp → Addr → List (Str × Addr) → List Addr → α
section
variable {X : Cx} {g : Gm} {elt tg iter : Expr} {ifs : List Expr} {scope : Scope} {ow : List (Str × Nat)} {pos : Pos} {wi : TI} {gt : Blk TG} {tt : Blk TT} {te : Blk TE} {di : DTI} {dg : DTG} {dtt : DTT} {d : DT}
theorem de_lcB (hc : X.calm = true) (hN : X.N.Nodup) (hi : DI X g tg iter wi di) (ok : BlkOk X.N X.env.scope scope ow) (hv : ∀ v ∈ ow.map (·.2), g.n0 ≤ v ∧ ¬ v ∈ g.pn)
    (hg : ∀ (s : Shared) (H : Hp) (C : Addr) (cl : List (Str × Addr)) (fp : List Addr), DG (X.blk s H scope (compEnvC scope cl C X.env) fp) { g with w := Wsh.none } true tg (gt s H C cl fp) dg)
    (ht : ∀ (s : Shared) (H : Hp) (C : Addr) (cl : List (Str × Addr)) (fp : List Addr), DTs (X.blk s H scope (compEnvC scope cl C X.env) fp) { g with w := Wsh.none } ifs (tt s H C cl fp) dtt)
    (he : ∀ (s : Shared) (H : Hp) (C : Addr) (cl : List (Str × Addr)) (fp : List Addr), DE (X.blk s H scope (compEnvC scope cl C X.env) fp) { g with w := Wsh.none } elt (te s H C cl fp) d)
    (hw : TgW (gt X.s_0 X.H_0 0 [] []) (ow.map (·.2))) (hmo : TgM (gt X.s_0 X.H_0 0 [] []))
    (eg : ∀ (s : Shared) (H : Hp) (C : Addr) (cl : List (Str × Addr)) (fp : List Addr), gt s H C cl fp = gt X.s_0 X.H_0 0 [] [] := by intro _ _ _ _ _; rfl)
    (et : ∀ (s : Shared) (H : Hp) (C : Addr) (cl : List (Str × Addr)) (fp : List Addr), tt s H C cl fp = tt X.s_0 X.H_0 0 [] [] := by intro _ _ _ _ _; rfl)
    (ee : ∀ (s : Shared) (H : Hp) (C : Addr) (cl : List (Str × Addr)) (fp : List Addr), te s H C cl fp = te X.s_0 X.H_0 0 [] [] := by intro _ _ _ _ _; rfl)
    (hs : ∀ x, foldedSetIterable iter X.env x = pure x := by intro _; rfl) :
    DE X g (.ListComp elt [⟨tg, iter, ifs, 0⟩] scope pos) (tLc wi (gt X.s_0 X.H_0 0 [] []) (tt X.s_0 X.H_0 0 [] []) (te X.s_0 X.H_0 0 [] []) (ow.map (·.2))) (dLc di dg dtt d (ow.map (·.2))) :=
  de_lc hc hN hi ok hv hw hmo (fun s H C cl fp => eg s H C cl fp ▸ hg s H C cl fp) (fun s H C cl fp => et s H C cl fp ▸ ht s H C cl fp) (fun s H C cl fp => ee s H C cl fp ▸ he s H C cl fp) hs
theorem ds_setLcB (i : Nat) (fz : Bool) {y : Str} {py spos : Pos} (hc : X.calm = true) (hN : X.N.Nodup) (hi : DI X g tg iter wi di) (ok : BlkOk X.N X.env.scope scope ow) (hv : ∀ v ∈ ow.map (·.2), g.n0 ≤ v ∧ ¬ v ∈ g.pn)
    (hg : ∀ (s : Shared) (H : Hp) (C : Addr) (cl : List (Str × Addr)) (fp : List Addr), DG (X.blk s H scope (compEnvC scope cl C X.env) fp) { g with w := Wsh.none } true tg (gt s H C cl fp) dg)
    (ht : ∀ (s : Shared) (H : Hp) (C : Addr) (cl : List (Str × Addr)) (fp : List Addr), DTs (X.blk s H scope (compEnvC scope cl C X.env) fp) { g with w := Wsh.none } ifs (tt s H C cl fp) dtt)
    (he : ∀ (s : Shared) (H : Hp) (C : Addr) (cl : List (Str × Addr)) (fp : List Addr), DE (X.blk s H scope (compEnvC scope cl C X.env) fp) { g with w := Wsh.none } elt (te s H C cl fp) d)
    (hw : TgW (gt X.s_0 X.H_0 0 [] []) (ow.map (·.2))) (hmo : TgM (gt X.s_0 X.H_0 0 [] []))
    (hsw : swapsWith (.ListComp elt [⟨tg, iter, ifs, 0⟩] scope pos) (some (.Name y py)) spos.line X.env = pure true)
    (eg : ∀ (s : Shared) (H : Hp) (C : Addr) (cl : List (Str × Addr)) (fp : List Addr), gt s H C cl fp = gt X.s_0 X.H_0 0 [] [] := by intro _ _ _ _ _; rfl)
    (et : ∀ (s : Shared) (H : Hp) (C : Addr) (cl : List (Str × Addr)) (fp : List Addr), tt s H C cl fp = tt X.s_0 X.H_0 0 [] [] := by intro _ _ _ _ _; rfl)
    (ee : ∀ (s : Shared) (H : Hp) (C : Addr) (cl : List (Str × Addr)) (fp : List Addr), te s H C cl fp = te X.s_0 X.H_0 0 [] [] := by intro _ _ _ _ _; rfl)
    (hy : X.N[i]? = some y := by rfl) (hyl : X.env.scope.names.lookup y = some .local := by rfl) (hp : ¬ i ∈ g.pn := by first | (dsimp only; decide) | decide) (hs : ∀ x, foldedSetIterable iter X.env x = pure x := by intro _; rfl) :
    DS X g (.Assign [.Name y py] (.ListComp elt [⟨tg, iter, ifs, 0⟩] scope pos) spos) (tAsg (tLc wi (gt X.s_0 X.H_0 0 [] []) (tt X.s_0 X.H_0 0 [] []) (te X.s_0 X.H_0 0 [] []) (ow.map (·.2))) (gName i)) (dAsg (dLc di dg dtt d (ow.map (·.2))) (gN fz i)) :=
  ds_setLc i fz hc hN hi ok hv hw hmo (fun s H C cl fp => eg s H C cl fp ▸ hg s H C cl fp) (fun s H C cl fp => et s H C cl fp ▸ ht s H C cl fp) (fun s H C cl fp => ee s H C cl fp ▸ he s H C cl fp) hsw hy hyl hp hs
end
end Dl
set_option Elab.async false
set_option linter.all false
set_option maxRecDepth 100000
set_option maxHeartbeats 4000000
/-! Dl: chains of three, of ints. -/
namespace Dl
open PySem PySem.Spec PyProof.Rows L2
section
variable {X : Cx} {g : Gm} {a b c e : Expr} {ta tb tc te : TE} {da db dc de : DT} {pos : Pos}
def tCh3 (f1 f2 f3 : Int → Int → Bool) (ta tb tc te : TE) : TE := fun σ H Q => ta σ H fun x H1 => tb σ H1 fun y H2 => ∃ i j, x = .int i ∧ y = .int j ∧
  if f1 i j = true then tc σ H2 fun z H3 => ∃ k, z = .int k ∧ if f2 j k = true then te σ H3 fun w H4 => ∃ l, w = .int l ∧ Q (.bl (f3 k l)) H4 else Q (.bl false) H3 else Q (.bl false) H2
theorem pe_chain3 {op1 op2 op3 : CmpOp} {f1 f2 f3 : Int → Int → Bool} (o1 : OpR X (compareOp op1) (rB f1)) (o2 : OpR X (compareOp op2) (rB f2)) (o3 : OpR X (compareOp op3) (rB f3)) (ha : PE X a ta) (hb : PE X b tb) (hc : PE X c tc) (he : PE X e te)
    (hm : lastMarks [op1, op2, op3] [b, c, e] = false := by with_unfolding_all rfl) : PE X (.Compare a [op1, op2, op3] [b, c, e] pos) (tCh3 f1 f2 f3 ta tb tc te) := by
  refine ⟨fun pins s σ H Q I h => ?_⟩
  refine Compare_chain (thn (ha.run pins s σ H _ I h) fun v s1 ⟨x, H1, I1, r1, q1⟩ => chain_link (thn (hb.run pins s1 σ H1 _ I1 q1) fun u s2 ⟨y, H2, I2, r2, i, j, e1, e2, q2⟩ => ?_)) hm
  refine thn (o1 pins s2 σ H2 x y v u (fun z H3 => z = .bl (f1 i j) ∧ H3 = H2) I2 r1 r2 ⟨i, j, e1, e2, rfl, rfl⟩) fun d s3 ⟨z, H3, I3, r3, ez, eh⟩ => ?_
  subst ez
  subst eh
  cases r3
  refine wpAny_truthy_bool ?_
  cases hf : f1 i j with
  | false =>
    rw [hf] at q2
    exact ite_ff ⟨.bl false, H3, I3, rfl, q2⟩
  | true =>
    rw [hf] at q2
    refine ite_tt (chain_link (thn (hc.run pins s3 σ H3 _ I3 q2) fun w s4 ⟨y2, H4, I4, r4, k, e4, q4⟩ => ?_))
    refine thn (o2 pins s4 σ H4 y y2 u w (fun z H5 => z = .bl (f2 j k) ∧ H5 = H4) I4 r2 r4 ⟨j, k, e2, e4, rfl, rfl⟩) fun d s5 ⟨z, H5, I5, r5, ez, eh⟩ => ?_
    subst ez
    subst eh
    cases r5
    refine wpAny_truthy_bool ?_
    cases hf2 : f2 j k with
    | false =>
      rw [hf2] at q4
      exact ite_ff ⟨.bl false, H5, I5, rfl, q4⟩
    | true =>
      rw [hf2] at q4
      exact ite_tt (chain_last (thn (he.run pins s5 σ H5 _ I5 q4) fun w2 s6 ⟨y3, H6, I6, r6, l, e6, q6⟩ => o3 pins s6 σ H6 y2 y3 w w2 Q I6 r4 r6 ⟨k, l, e4, e6, q6⟩))
theorem pt_chain3 {op1 op2 op3 : CmpOp} {f1 f2 f3 : Int → Int → Bool} (o1 : OpR X (compareOp op1) (rB f1)) (o2 : OpR X (compareOp op2) (rB f2)) (o3 : OpR X (compareOp op3) (rB f3)) (ha : PE X a ta) (hb : PE X b tb) (hc : PE X c tc) (he : PE X e te)
    (hm : lastMarks [op1, op2, op3] [b, c, e] = false := by with_unfolding_all rfl) : PT X (.Compare a [op1, op2, op3] [b, c, e] pos) (tTest (tCh3 f1 f2 f3 ta tb tc te)) := by
  refine ⟨fun pins s σ H Q I h => ?_⟩
  refine isTrue_chain (thn (ha.run pins s σ H _ I h) fun v s1 ⟨x, H1, I1, r1, q1⟩ => test_link (thn (hb.run pins s1 σ H1 _ I1 q1) fun u s2 ⟨y, H2, I2, r2, i, j, e1, e2, q2⟩ => ?_)) hm
  refine thn (o1 pins s2 σ H2 x y v u (fun z H3 => z = .bl (f1 i j) ∧ H3 = H2) I2 r1 r2 ⟨i, j, e1, e2, rfl, rfl⟩) fun d s3 ⟨z, H3, I3, r3, ez, eh⟩ => ?_
  subst ez
  subst eh
  cases r3
  refine wpAny_truthy_bool ?_
  cases hf : f1 i j with
  | false =>
    rw [hf] at q2
    obtain ⟨_, e', q'⟩ := q2
    cases e'
    exact ite_ff ⟨H3, I3, q'⟩
  | true =>
    rw [hf] at q2
    refine ite_tt (test_link (thn (hc.run pins s3 σ H3 _ I3 q2) fun w s4 ⟨y2, H4, I4, r4, k, e4, q4⟩ => ?_))
    refine thn (o2 pins s4 σ H4 y y2 u w (fun z H5 => z = .bl (f2 j k) ∧ H5 = H4) I4 r2 r4 ⟨j, k, e2, e4, rfl, rfl⟩) fun d s5 ⟨z, H5, I5, r5, ez, eh⟩ => ?_
    subst ez
    subst eh
    cases r5
    refine wpAny_truthy_bool ?_
    cases hf2 : f2 j k with
    | false =>
      rw [hf2] at q4
      obtain ⟨_, e', q'⟩ := q4
      cases e'
      exact ite_ff ⟨H5, I5, q'⟩
    | true =>
      rw [hf2] at q4
      refine ite_tt (test_last (thn (he.run pins s5 σ H5 _ I5 q4) fun w2 s6 ⟨y3, H6, I6, r6, l, e6, q6⟩ => ?_))
      obtain ⟨_, e', q'⟩ := q6
      cases e'
      refine thn (o3 pins s6 σ H6 y2 y3 w w2 (fun z H7 => z = .bl (f3 k l) ∧ H7 = H6) I6 r4 r6 ⟨k, l, e4, e6, rfl, rfl⟩) fun d s7 ⟨z, H7, I7, r7, ez, eh⟩ => ?_
      subst ez
      subst eh
      cases r7
      exact wpAny_truthy_bool ⟨_, I7, q'⟩
def dCh3 (f1 f2 f3 : Int → Int → Bool) (da db dc de : DT) : DT := fun ρ Q => da ρ fun ca ρ1 => db ρ1 fun cb ρ2 => asI (dat ρ2 ca) fun i => asI (dat ρ2 cb) fun j =>
  if f1 i j = true then dc ρ2 fun cc ρ3 => asI (dat ρ3 cc) fun k => if f2 j k = true then de ρ3 fun ce ρ4 => asI (dat ρ4 ce) fun l => Q (.t (.d (.bool (f3 k l)))) ρ4 else Q (.t (.d (.bool false))) ρ3 else Q (.t (.d (.bool false))) ρ2
theorem dt_chain3 {f1 f2 f3 : Int → Int → Bool} (ha : Dt X g ta da) (hb : Dt X g tb db) (hc : Dt X g tc dc) (he : Dt X g te de) : Dt X g (tCh3 f1 f2 f3 ta tb tc te) (dCh3 f1 f2 f3 da db dc de) := fun B ρ σ τs H Q Q' bo s k h => by
  refine ha B ρ σ τs H _ _ bo s (fun ca ρ1 x H1 s1 b1 q1 => ?_) h
  refine hb B ρ1 σ _ H1 _ _ b1 s1 (fun cb ρ2 y H2 s2 b2 q2 => ?_) q1
  obtain ⟨i, e1, q2⟩ := asI_iff q2
  obtain ⟨j, e2, q2⟩ := asI_iff q2
  refine ⟨i, j, (s2.pop.rp e1).intV, (s2.rp e2).intV, ?_⟩
  have s3 := s2.pop.pop
  cases hf : f1 i j with
  | false =>
    rw [hf] at q2
    exact k _ _ _ _ (s3.push fun G _ _ => .bl _) bo.untail q2
  | true =>
    rw [hf] at q2
    refine hc B ρ2 σ τs H2 _ _ bo s3 (fun cc ρ3 z H3 s4 b4 q3 => ?_) q2
    obtain ⟨k', e3, q4⟩ := asI_iff q3
    refine ⟨k', (s4.rp e3).intV, ?_⟩
    cases hf2 : f2 j k' with
    | false =>
      rw [hf2] at q4
      exact k _ _ _ _ (s4.pop.push fun G _ _ => .bl _) bo.untail q4
    | true =>
      rw [hf2] at q4
      refine he B ρ3 σ τs H3 _ _ bo s4.pop (fun ce ρ4 w H4 s5 b5 q5 => ?_) q4
      obtain ⟨l, e5, q6⟩ := asI_iff q5
      exact ⟨l, (s5.rp e5).intV, k _ _ _ _ (s5.pop.push fun G _ _ => .bl _) bo.untail q6⟩
theorem de_chain3 {op1 op2 op3 : CmpOp} {f1 f2 f3 : Int → Int → Bool} (o1 : OpR X (compareOp op1) (rB f1)) (o2 : OpR X (compareOp op2) (rB f2)) (o3 : OpR X (compareOp op3) (rB f3)) (ha : DE X g a ta da) (hb : DE X g b tb db) (hc : DE X g c tc dc) (he : DE X g e te de)
    (hm : lastMarks [op1, op2, op3] [b, c, e] = false := by with_unfolding_all rfl) : DE X g (.Compare a [op1, op2, op3] [b, c, e] pos) (tCh3 f1 f2 f3 ta tb tc te) (dCh3 f1 f2 f3 da db dc de) := ⟨pe_chain3 o1 o2 o3 ha.pe hb.pe hc.pe he.pe hm, dt_chain3 ha.dt hb.dt hc.dt he.dt⟩
theorem db_chain3 {op1 op2 op3 : CmpOp} {f1 f2 f3 : Int → Int → Bool} (o1 : OpR X (compareOp op1) (rB f1)) (o2 : OpR X (compareOp op2) (rB f2)) (o3 : OpR X (compareOp op3) (rB f3)) (ha : DE X g a ta da) (hb : DE X g b tb db) (hc : DE X g c tc dc) (he : DE X g e te de)
    (hm : lastMarks [op1, op2, op3] [b, c, e] = false := by with_unfolding_all rfl) : DB X g (.Compare a [op1, op2, op3] [b, c, e] pos) (tTest (tCh3 f1 f2 f3 ta tb tc te)) (dTst (dCh3 f1 f2 f3 da db dc de)) := ⟨pt_chain3 o1 o2 o3 ha.pe hb.pe hc.pe he.pe hm, dtt_of (dt_chain3 ha.dt hb.dt hc.dt he.dt)⟩
end
end Dl
set_option Elab.async false
set_option linter.all false
set_option maxRecDepth 100000
set_option maxHeartbeats 4000000
/-! Dl: tuples of ints compared; lists within lists; calls that only look. -/
namespace Dl
open PySem PySem.Spec PyProof.Rows L2
def kIs (o : Option PyData) (k : List Int → Prop) : Prop := match o with
  | some (.tuple ds) => match intL ds with
    | some ns => k ns
    | none => False
  | _ => False
theorem kIs_iff {o : Option PyData} {k : List Int → Prop} (h : kIs o k) : ∃ ns, o = some (.tuple (ns.map .int)) ∧ k ns := by
  unfold kIs at h
  split at h
  · split at h
    · rename_i ds ns e
      rw [intL_eq e]
      exact ⟨ns, rfl, h⟩
    · exact h.elim
  · exact h.elim
section
variable {X : Cx} {g : Gm}
theorem Rp.tupI {K : PySem.W.Frag} {G : Hp} {v : V} {ns : List Int} (r : Rp K G v (.tuple (ns.map .int))) : ∃ a, v = .ref a ∧ SqT K G a (ns.map V.int) := by
  obtain ⟨a, vs, rfl, h1, h2⟩ := r.tupV
  rw [h2.intsV] at h1
  exact ⟨a, rfl, h1⟩
end
/-! ### a list that is reached over another -/
def Foc (K : PySem.W.Frag) (G H : Hp) (σ : L2.St) (fs : List Addr) (p : Addr) (L : List Tri) (mk : T → Rho) : Prop := ∃ fr, H p = some (.lst (L.map (·.1))) ∧ (∀ x ∈ L, Own K G H x.1 x.2.1 x.2.2) ∧ fs.Perm ((p :: L.flatMap (·.2.2)) ++ fr) ∧
  ∀ (H' : Hp) (t' : T) (f' : List Addr), (∀ a ∈ fr, H' a = H a) → Own K G H' (.ref p) t' f' → ∃ fp', OwnS K G H' σ (mk t') fp' ∧ fp'.Perm (f' ++ fr)
section
variable {K : PySem.W.Frag} {B : Base} {G H : Hp} {ρ : Rho} {σ : L2.St} {τs : List (V × C)} {fs ft : List Addr}
theorem Core.writeF {vs : List V} {xs : List T} {p : Addr} {L : List Tri} {mk : T → Rho} (c : Core K B G ρ σ (tmp vs xs ++ τs) H fs ft) (F : Foc K G H σ fs p L mk) (hl : vs.length = xs.length) :
    ∃ (M : List Tri), vs = M.map (·.1) ∧ xs = M.map (·.2.1) ∧
      ∀ (L' M' : List Tri) (S : List Tri), S.Perm (L' ++ M') → S.Sublist (L ++ M) → SI K B (mk (.ls (L'.map (·.2.1)))) σ (tmp (M'.map (·.1)) (M'.map (·.2.1)) ++ τs) (upd H p (.lst (L'.map (·.1)))) := by
  obtain ⟨fr, hp, e4, h3, h4⟩ := F
  obtain ⟨g, gr, k1, k2, rfl⟩ := c.temps.split hl
  obtain ⟨M, d1, d2, d3, d4⟩ := k1.tri
  subst d1 d2 d3
  refine ⟨M, rfl, rfl, fun L' M' S hS hSub => ?_⟩
  have mem : ∀ x ∈ L' ++ M', x ∈ L ++ M := fun x hx => hSub.subset (hS.mem_iff.mpr hx)
  have q0 : List.Perm (fs ++ (M.flatMap (·.2.2) ++ gr)) ((p :: (L.flatMap (·.2.2) ++ M.flatMap (·.2.2))) ++ (fr ++ gr)) := by
    refine (List.Perm.append_right _ h3).trans ?_
    show List.Perm ((p :: L.flatMap (·.2.2)) ++ fr ++ (M.flatMap (·.2.2) ++ gr)) _
    rw [List.append_assoc]
    show List.Perm (p :: (L.flatMap (·.2.2) ++ (fr ++ (M.flatMap (·.2.2) ++ gr)))) (p :: (L.flatMap (·.2.2) ++ M.flatMap (·.2.2) ++ (fr ++ gr)))
    refine List.Perm.cons p ?_
    rw [List.append_assoc]
    refine List.Perm.append_left _ ?_
    rw [← List.append_assoc, ← List.append_assoc]
    exact List.Perm.append_right gr List.perm_append_comm
  have nd0 := q0.nodup_iff.mp c.nd
  have own0 : ∀ a ∈ (p :: (L.flatMap (·.2.2) ++ M.flatMap (·.2.2))) ++ (fr ++ gr), G a = none ∧ B.H0 a = none := fun a h => c.own a (q0.mem_iff.mpr h)
  have pp : ∀ a ∈ L.flatMap (·.2.2) ++ M.flatMap (·.2.2) ++ (fr ++ gr), a ≠ p := fun a h z => by
    subst z
    have := List.nodup_cons.mp nd0
    exact this.1 h
  have kp : ∀ a, a ≠ p → upd H p (HO.lst (L'.map (·.1))) a = H a := fun a h => upd_ne h
  have fl : ∀ x ∈ L' ++ M', ∀ a ∈ x.2.2, a ≠ p := fun x hx a ha => pp a (List.mem_append_left _ (by
    rw [← List.flatMap_append]
    exact List.mem_flatMap.mpr ⟨x, mem x hx, ha⟩))
  have ownL : ∀ x ∈ L' ++ M', Own K G (upd H p (HO.lst (L'.map (·.1)))) x.1 x.2.1 x.2.2 := fun x hx => by
    have o : Own K G H x.1 x.2.1 x.2.2 := by
      rcases List.mem_append.mp (mem x hx) with q | q
      · exact e4 x q
      · exact d4 x q
    exact o.mono (Er.refl G) fun a ha => kp a (fl x hx a ha)
  obtain ⟨fp', w1, w2⟩ := h4 (upd H p (HO.lst (L'.map (·.1)))) (.ls (L'.map (·.2.1))) _ (fun a h => kp a (pp a (List.mem_append_right _ (List.mem_append_left _ h))))
    (.ls upd_same (OwnL.of_tri L' fun x hx => ownL x (List.mem_append_left _ hx)))
  have sub : List.Sublist (S.flatMap (·.2.2)) (L.flatMap (·.2.2) ++ M.flatMap (·.2.2)) := by
    rw [← List.flatMap_append]
    exact sub_flat hSub
  have pf : List.Perm (S.flatMap (·.2.2)) (L'.flatMap (·.2.2) ++ M'.flatMap (·.2.2)) := by
    rw [← List.flatMap_append]
    exact hS.flatMap_right _
  have q1 : List.Perm (fp' ++ (M'.flatMap (·.2.2) ++ gr)) ((p :: (L'.flatMap (·.2.2) ++ M'.flatMap (·.2.2))) ++ (fr ++ gr)) := by
    refine (List.Perm.append_right _ w2).trans ?_
    show List.Perm ((p :: L'.flatMap (·.2.2)) ++ fr ++ (M'.flatMap (·.2.2) ++ gr)) _
    rw [List.append_assoc]
    show List.Perm (p :: (L'.flatMap (·.2.2) ++ (fr ++ (M'.flatMap (·.2.2) ++ gr)))) (p :: (L'.flatMap (·.2.2) ++ M'.flatMap (·.2.2) ++ (fr ++ gr)))
    refine List.Perm.cons p ?_
    rw [List.append_assoc]
    refine List.Perm.append_left _ ?_
    rw [← List.append_assoc, ← List.append_assoc]
    exact List.Perm.append_right gr List.perm_append_comm
  have q2 : List.Perm ((p :: S.flatMap (·.2.2)) ++ (fr ++ gr)) ((p :: (L'.flatMap (·.2.2) ++ M'.flatMap (·.2.2))) ++ (fr ++ gr)) := List.Perm.append_right _ (List.Perm.cons p pf)
  have q3 : List.Sublist ((p :: S.flatMap (·.2.2)) ++ (fr ++ gr)) ((p :: (L.flatMap (·.2.2) ++ M.flatMap (·.2.2))) ++ (fr ++ gr)) := List.Sublist.append_right (List.Sublist.cons_cons p sub) _
  have hin := own0 p List.mem_cons_self
  refine ⟨G, fp', M'.flatMap (·.2.2) ++ gr, c.g0, ex_upd c.gh hin.1, ex_upd c.h0 hin.2, fun a o ho e => ?_, c.new, w1,
    OwnC.join (OwnL.of_tri M' fun x hx => ownL x (List.mem_append_right _ hx)) (k2.mono (Er.refl G) fun a h => kp a (pp a (List.mem_append_right _ (List.mem_append_right _ h)))), ?_, fun a h => ?_, c.pin⟩
  · by_cases ha : a = p
    · subst ha
      rw [upd_same] at e
      cases e
      cases ho
    · rw [upd_ne ha] at e
      exact c.tup a o ho e
  · exact q1.nodup_iff.mpr (q2.nodup_iff.mp (nd0.sublist q3))
  · exact own0 a (q3.subset (q2.mem_iff.mpr (q1.mem_iff.mp h)))
/-- one of the items apart -/
theorem OwnL.at_ : ∀ {vs : List V} {ts : List T} {fp : List Addr} {k : Nat} {t : T}, OwnL K G H vs ts fp → ts[k]? = some t →
    ∃ v f fr, vs[k]? = some v ∧ Own K G H v t f ∧ fp.Perm (f ++ fr) ∧ ∀ (H' : Hp) (t' : T) (f' : List Addr), (∀ a ∈ fr, H' a = H a) → Own K G H' v t' f' → ∃ fp', OwnL K G H' vs (ts.set k t') fp' ∧ fp'.Perm (f' ++ fr)
  | _, _, _, _, _, .nil, e => by simp at e
  | _, _, _, 0, t, .cons (fp := f) (fq := fr) o r, e => by
    simp at e
    subst e
    exact ⟨_, f, fr, rfl, o, .refl _, fun H' t' f' k o' => ⟨_, .cons o' (r.mono (Er.refl G) k), .refl _⟩⟩
  | _, _, _, k + 1, t, .cons (fp := f0) (fq := fq) o r, e => by
    obtain ⟨v, f, fr, h1, h2, h3, h4⟩ := OwnL.at_ (k := k) r (by simpa using e)
    refine ⟨v, f, f0 ++ fr, by simpa using h1, h2, ?_, fun H' t' f' kk o' => ?_⟩
    · refine (List.Perm.append_left f0 h3).trans ?_
      rw [← List.append_assoc, ← List.append_assoc]
      exact List.Perm.append_right fr List.perm_append_comm
    · obtain ⟨fp', q1, q2⟩ := h4 H' t' f' (fun a h => kk a (List.mem_append_right _ h)) o'
      refine ⟨f0 ++ fp', .cons (o.mono (Er.refl G) fun a h => kk a (List.mem_append_left _ h)) q1, ?_⟩
      refine (List.Perm.append_left f0 q2).trans ?_
      rw [← List.append_assoc, ← List.append_assoc]
      exact List.Perm.append_right fr List.perm_append_comm
theorem Core.foc1 {j k : Nat} {ts us : List T} (c : Core K B G ρ σ τs H fs ft) (e : ρ[j]? = some (some (.ls ts))) (e2 : ts[k]? = some (.ls us)) :
    ∃ (p q : Addr) (vs : List V) (L : List Tri), σ[j]? = some (some (.ref p)) ∧ H p = some (.lst vs) ∧ vs.length = ts.length ∧ vs[k]? = some (.ref q) ∧ us = L.map (·.2.1) ∧ Foc K G H σ fs q L fun t => ρ.set j (some (.ls (ts.set k t))) := by
  obtain ⟨v, f, fr, h1, h2, h3, h4, h5⟩ := c.slots.at_ e
  cases h2 with
  | ls hp ho =>
  rename_i p vs f
  obtain ⟨v2, f2, fr2, w1, w2, w3, w4⟩ := ho.at_ e2
  cases w2 with
  | ls hq hi =>
  rename_i q ws f2
  obtain ⟨L, e1, e2', e3, e4⟩ := hi.tri
  subst e1 e2' e3
  have np : ∀ a ∈ (q :: L.flatMap (·.2.2)) ++ fr2, a ≠ p := fun a h z => by
    subst z
    have n1 := (List.nodup_append.mp c.nd).1
    have n2 := (h3.nodup_iff.mp n1)
    have n3 := (List.nodup_append.mp n2).1
    exact (List.nodup_cons.mp n3).1 (w3.mem_iff.mpr h)
  refine ⟨p, q, vs, L, h1, hp, ho.len, w1, rfl, p :: (fr2 ++ fr), hq, e4, ?_, fun H' t' f' k' o' => ?_⟩
  · refine h3.trans ?_
    show List.Perm (p :: (f ++ fr)) _
    refine List.Perm.trans (List.Perm.cons p (List.Perm.append_right fr w3)) ?_
    rw [List.append_assoc]
    exact List.perm_middle.symm
  · obtain ⟨fp1, x1, x2⟩ := w4 H' t' f' (fun a h => k' a (List.mem_cons_of_mem _ (List.mem_append_left _ h))) o'
    obtain ⟨fp2, y1, y2⟩ := h4 (G' := G) (H' := H') (v' := .ref p) (t' := .ls (ts.set k t')) (Er.refl G) (fun a h => k' a (List.mem_cons_of_mem _ (List.mem_append_right _ h))) (.ls ((k' p List.mem_cons_self).trans hp) x1)
    rw [set_same h1] at y1
    refine ⟨fp2, y1, y2.trans ?_⟩
    show List.Perm (p :: (fp1 ++ fr)) _
    refine List.Perm.trans (List.Perm.cons p (List.Perm.append_right fr x2)) ?_
    rw [List.append_assoc]
    exact List.perm_middle.symm
end
end Dl
set_option Elab.async false
set_option linter.all false
set_option maxRecDepth 100000
set_option maxHeartbeats 4000000
/-! Dl: looking without taking; lists within lists, changed in place. -/
namespace Dl
open PySem PySem.Spec PyProof.Rows L2
abbrev DTK := Rho → (PyData → Prop) → Prop
abbrev DTN := Rho → (Nat → Nat → List T → T → Prop) → Prop
section
variable (X : Cx)
/-- an expression that only looks: the heap stays -/
structure DK (e : Expr) (te : TE) (t : DTK) : Prop where
  pe : PE X e te
  dt : ∀ (B : Base) (ρ : Rho) (σ : L2.St) (τs : List (V × C)) (H : Hp) (Q : VK) (Q' : PyData → Prop), SI X.K B ρ σ τs H → (∀ v x, Rp X.K H v x → Q' x → Q v H) → t ρ Q' → te σ H Q
structure DKs (es : List Expr) (ta : TA) (t : Rho → (List PyData → Prop) → Prop) : Prop where
  pa : PA X es ta
  dt : ∀ (B : Base) (ρ : Rho) (σ : L2.St) (τs : List (V × C)) (H : Hp) (Q : List V → Hp → Prop) (Q' : List PyData → Prop), SI X.K B ρ σ τs H → (∀ vs xs, RpL X.K H vs xs → Q' xs → Q vs H) → t ρ Q' → ta σ H Q
/-- an item of a list that a slot owns -/
structure DN (e : Expr) (te : TE) (t : DTN) : Prop where
  pe : PE X e te
  dt : ∀ (B : Base) (ρ : Rho) (σ : L2.St) (τs : List (V × C)) (H : Hp) (Q : VK) (Q' : Nat → Nat → List T → T → Prop), SI X.K B ρ σ τs H →
    (∀ j k ts u p vs v, ρ[j]? = some (some (.ls ts)) → ts[k]? = some u → σ[j]? = some (some (.ref p)) → H p = some (.lst vs) → vs[k]? = some v → Rp X.K H v u.data → Q' j k ts u → Q v H) → t ρ Q' → te σ H Q
structure DOK (e : Option Expr) (to : TO) (t : Rho → (Option Int → Prop) → Prop) : Prop where
  po : PO X e to
  dt : ∀ (B : Base) (ρ : Rho) (σ : L2.St) (τs : List (V × C)) (H : Hp) (Q : Option Int → Hp → Prop) (Q' : Option Int → Prop), SI X.K B ρ σ τs H → (∀ o, Q' o → Q o H) → t ρ Q' → to σ H Q
end
section
variable {X : Cx} {g : Gm} {a b e : Expr} {ta tb te : TE} {da db d : DTK} {dn : DTN} {pos : Pos}
def kName (j : Nat) : DTK := fun ρ Q => match ρ[j]? with
  | some (some t) => Q t.data
  | _ => False
theorem dk_name (j : Nat) {x : Str} {pos : Pos} (hN : X.N[j]? = some x := by rfl) (hv : Vis X.env.scope x := by first | exact Or.inl rfl | exact Or.inr (Or.inl rfl) | exact Or.inr (Or.inr rfl))
    (hd : (x == ("__debug__" : Str)) = false := by decide) (hcd : (x == ("__classdict__" : Str)) = false := by decide) : DK X (.Name x pos) (tVar j) (kName j) :=
  ⟨pv j hN hv hd hcd, fun B ρ σ τs H Q Q' s k h => by
    unfold kName at h
    split at h
    · rename_i t e
      obtain ⟨v, hv, r⟩ := s.slot e
      exact ⟨v, hv, k _ _ r h⟩
    · exact h.elim⟩
def kC (x : PyData) : DTK := fun _ Q => Q x
theorem dk_int {i : Int} {j pos} : DK X (.Constant (.int i) j pos) (tC (.int i)) (kC (.int i)) := ⟨pe_int, fun B ρ σ τs H Q Q' s k h => k _ _ (.int i) h⟩
theorem dk_bl {i : Bool} {j pos} : DK X (.Constant (.bool i) j pos) (tC (.bl i)) (kC (.bool i)) := ⟨pe_bl, fun B ρ σ τs H Q Q' s k h => k _ _ (.bl i) h⟩
theorem dk_str {i : Str} {j pos} : DK X (.Constant (.str i) j pos) (tC (.str i)) (kC (.str i)) := ⟨pe_str, fun B ρ σ τs H Q Q' s k h => k _ _ (.str i) h⟩
theorem dk_non {j pos} : DK X (.Constant .none j pos) (tC .non) (kC .none) := ⟨pe_non, fun B ρ σ τs H Q Q' s k h => k _ _ .non h⟩
def kNeg (d : DTK) : DTK := fun ρ Q => d ρ fun x => asI (some x) fun i => Q (.int (-i))
theorem dk_neg (h : DK X a ta da) : DK X (.UnaryOp .USub a pos) (tUn (rU fun i => .int (-i)) ta) (kNeg da) := ⟨pe_un un_neg h.pe, fun B ρ σ τs H Q Q' s k h' => by
  refine h.dt B ρ σ τs H _ _ s (fun v x r q => ?_) h'
  obtain ⟨i, e, q⟩ := asI_iff q
  cases e
  exact ⟨i, r.intV, k _ _ (.int _) q⟩⟩
def kOp (f : Int → Int → Int) (d d2 : DTK) : DTK := fun ρ Q => d ρ fun x => d2 ρ fun y => asI (some x) fun i => asI (some y) fun j => Q (.int (f i j))
theorem dk_add (h : DK X a ta da) (h2 : DK X b tb db) : DK X (.BinOp a .Add b pos) (tOp (rI0 fun i j => .int (i + j)) ta tb) (kOp (fun i j => i + j) da db) := ⟨pe_op op_add h.pe h2.pe, fun B ρ σ τs H Q Q' s k h' => by
  refine h.dt B ρ σ τs H _ _ s (fun v x r q => h2.dt B ρ σ τs H _ _ s (fun v2 y r2 q2 => ?_) q) h'
  obtain ⟨i, e, q⟩ := asI_iff q2
  obtain ⟨j, e2, q⟩ := asI_iff q
  cases e
  cases e2
  exact ⟨i, j, r.intV, r2.intV, k _ _ (.int _) q⟩⟩
theorem dk_sub (h : DK X a ta da) (h2 : DK X b tb db) : DK X (.BinOp a .Sub b pos) (tOp (rI0 fun i j => .int (i - j)) ta tb) (kOp (fun i j => i - j) da db) := ⟨pe_op op_sub h.pe h2.pe, fun B ρ σ τs H Q Q' s k h' => by
  refine h.dt B ρ σ τs H _ _ s (fun v x r q => h2.dt B ρ σ τs H _ _ s (fun v2 y r2 q2 => ?_) q) h'
  obtain ⟨i, e, q⟩ := asI_iff q2
  obtain ⟨j, e2, q⟩ := asI_iff q
  cases e
  cases e2
  exact ⟨i, j, r.intV, r2.intV, k _ _ (.int _) q⟩⟩
def itemsD : PyData → Option (List PyData)
  | .list ds => some ds
  | .tuple ds => some ds
  | _ => none
def kIx (d d2 : DTK) : DTK := fun ρ Q => d ρ fun x => d2 ρ fun y => asI (some y) fun i => match (itemsD x).bind (atI · i) with
  | some z => Q z
  | none => False
theorem dk_ix (h : DK X a ta da) (h2 : DK X b tb db) (hs : PlainIx b := by exact fun _ _ => rfl) : DK X (.Subscript a b pos) (tOp (rIx X.K) ta tb) (kIx da db) := ⟨pe_ix ix_seq h.pe h2.pe hs, fun B ρ σ τs H Q Q' s k h' => by
  refine h.dt B ρ σ τs H _ _ s (fun v x r q => h2.dt B ρ σ τs H _ _ s (fun v2 y r2 q2 => ?_) q) h'
  obtain ⟨i, e, q5⟩ := asI_iff q2
  cases e
  split at q5
  · rename_i z ez
    obtain ⟨ds, e1, e2⟩ := Option.bind_eq_some_iff.mp ez
    cases x <;> simp [itemsD] at e1
    · subst e1
      obtain ⟨p, vs, rfl, w1, w2⟩ := r.listV
      obtain ⟨kk, u, z1, z2, z3⟩ := atI_len w2.len e2
      obtain ⟨u', y1, y2⟩ := w2.get z1
      rw [z2] at y1
      cases y1
      exact .inl ⟨p, vs, i, u, rfl, r2.intV, w1, z3, k _ _ y2 q5⟩
    · subst e1
      obtain ⟨p, vs, rfl, w1, w2⟩ := r.tupV
      obtain ⟨kk, u, z1, z2, z3⟩ := atI_len w2.len e2
      obtain ⟨u', y1, y2⟩ := w2.get z1
      rw [z2] at y1
      cases y1
      exact .inr (.inl ⟨p, vs, i, u, rfl, r2.intV, w1, z3, k _ _ y2 q5⟩)
  · exact q5.elim⟩
theorem SI.pushI {K : PySem.W.Frag} {B : Base} {ρ : Rho} {σ : L2.St} {τs : List (V × C)} {H : Hp} {v : V} {x : PyData} (s : SI K B ρ σ τs H) (r : Rp K H v x) (i : imm x = true) : SI K B ρ σ ((v, .t (.d x)) :: τs) H :=
  s.push fun G gh tu => r.imm (fun a xs q => tu _ _ rfl q) i
/-- what was looked at is plain -/
def dPk (d : DTK) : DT := fun ρ Q => d ρ fun x => imm x = true ∧ Q (.t (.d x)) ρ
theorem de_pk (h : DK X e te d) : DE X g e te (dPk d) := ⟨h.pe, fun B ρ σ τs H Q Q' b s k h' => by
  refine h.dt B ρ σ τs H _ _ s (fun v x r q => ?_) h'
  exact k _ _ _ _ (s.pushI r q.1) b.untail q.2⟩
def kNil : Rho → (List PyData → Prop) → Prop := fun _ Q => Q []
def kCons (d : DTK) (r : Rho → (List PyData → Prop) → Prop) : Rho → (List PyData → Prop) → Prop := fun ρ Q => d ρ fun x => r ρ fun xs => Q (x :: xs)
theorem dks_nil : DKs X [] tNil kNil := ⟨pa_nil, fun B ρ σ τs H Q Q' s k h => k [] [] .nil h⟩
theorem dks_cons {es : List Expr} {t : TA} {dr : Rho → (List PyData → Prop) → Prop} (h : DK X e te d) (r : DKs X es t dr) (hs : starEach (e :: es) X.env = (false, eval e X.env) :: starEach es X.env := by rfl) : DKs X (e :: es) (tCons te t) (kCons d dr) :=
  ⟨pa_cons h.pe r.pa hs, fun B ρ σ τs H Q Q' s k h' => by
    refine h.dt B ρ σ τs H _ _ s (fun v x r1 q => r.dt B ρ σ τs H _ _ s (fun vs xs r2 q2 => ?_) q) h'
    exact k _ _ (.cons r1 r2) q2⟩
def okNone : Rho → (Option Int → Prop) → Prop := fun _ Q => Q none
def okSome (d : DTK) : Rho → (Option Int → Prop) → Prop := fun ρ Q => d ρ fun x => asI (some x) fun i => Q (some i)
theorem dok_none : DOK X none tNoPart okNone := ⟨po_none, fun B ρ σ τs H Q Q' s k h => k _ h⟩
theorem dok_some (h : DK X e te d) : DOK X (some e) (tPart te) (okSome d) := ⟨po_some h.pe, fun B ρ σ τs H Q Q' s k h' => by
  refine h.dt B ρ σ τs H _ _ s (fun v x r q => ?_) h'
  obtain ⟨i, e, q⟩ := asI_iff q
  cases e
  exact ⟨i, r.intV, k _ q⟩⟩
/-! ### x[i], x owned -/
def nIx (j : Nat) (d : DTK) : DTN := fun ρ Q => atLs ρ j fun ts => d ρ fun x => asI (some x) fun i => match ixN ts.length i with
  | some k => match ts[k]? with
    | some u => Q j k ts u
    | none => False
  | none => False
theorem dn_ix (j : Nat) {x : Str} {np : Pos} (h : DK X e te d) (hN : X.N[j]? = some x := by rfl) (hv : Vis X.env.scope x := by first | exact Or.inl rfl | exact Or.inr (Or.inl rfl) | exact Or.inr (Or.inr rfl))
    (hd : (x == ("__debug__" : Str)) = false := by decide) (hcd : (x == ("__classdict__" : Str)) = false := by decide) (hs : PlainIx e := by exact fun _ _ => rfl) : DN X (.Subscript (.Name x np) e pos) (tOp (rIx X.K) (tVar j) te) (nIx j d) :=
  ⟨pe_ix ix_seq (vis_or j hN hv hd hcd) h.pe hs, fun B ρ σ τs H Q Q' s k h' => by
    obtain ⟨ts, e0, h'⟩ := atLs_iff h'
    obtain ⟨G, fs, ft, c⟩ := id s
    obtain ⟨v, f, w1, w2, w9⟩ := c.slot e0
    cases w2 with
    | ls hp ho =>
    rename_i p vs fp
    refine ⟨.ref p, w1, h.dt B ρ σ τs H _ _ s (fun y z r q => ?_) h'⟩
    obtain ⟨i, e1, q5⟩ := asI_iff q
    cases e1
    split at q5
    · rename_i kk ek
      split at q5
      · rename_i u eu
        obtain ⟨v2, f2, fr2, x1, x2, _⟩ := ho.at_ eu
        refine .inl ⟨p, vs, i, v2, rfl, r.intV, .inl (.inl hp), ?_, ?_⟩
        · unfold atI
          rw [ho.len, ek]
          exact x1
        · exact k j kk ts u p vs v2 e0 eu w1 hp x1 (x2.rp c.gh.er fun _ _ => rfl) q5
      · exact q5.elim
    · exact q5.elim⟩
def kN (dn : DTN) : DTK := fun ρ Q => dn ρ fun _ _ _ u => Q u.data
theorem DN.dk (h : DN X e te dn) : DK X e te (kN dn) := ⟨h.pe, fun B ρ σ τs H Q Q' s k h' => h.dt B ρ σ τs H _ _ s (fun j kk ts u p vs v _ _ _ _ _ r q => k _ _ r q) h'⟩
theorem SI.itmsN {K : PySem.W.Frag} {B : Base} {ρ : Rho} {σ : L2.St} {τs : List (V × C)} {H : Hp} {j k : Nat} {ts : List T} {u : T} {p : Addr} {vs : List V} {v : V} {ds : List PyData} (s : SI K B ρ σ τs H) (e : ρ[j]? = some (some (.ls ts))) (e2 : ts[k]? = some u)
    (e3 : σ[j]? = some (some (.ref p))) (e4 : H p = some (.lst vs)) (e5 : vs[k]? = some v) (fl : flat u = some ds) : ∃ a ws, v = .ref a ∧ SqL K H a ws ∧ RpL K H ws ds ∧
    ∀ vs' ds', (∀ G, RpL K G ws ds → RpL K G vs' ds') → SI K B ρ σ (tmp vs' (ds'.map T.d) ++ τs) H := by
  obtain ⟨G, fs, ft, c⟩ := s
  obtain ⟨v0, f, w1, w2, w9⟩ := c.slot e
  cases w2 with
  | ls hp ho =>
  rename_i p0 vs0 f
  rw [e3] at w1
  cases w1
  rw [e4] at hp
  cases hp
  obtain ⟨v2, f2, fr2, x1, x2, x8, x9⟩ := ho.at_ e2
  rw [e5] at x1
  cases x1
  cases x2 with
  | d r =>
    rename_i y
    cases y <;> simp [flat] at fl
    subst fl
    obtain ⟨a, ws, rfl, q1, q2⟩ := r.listV
    exact ⟨a, ws, rfl, c.gh.er.l q1, q2.mono c.gh.er, fun vs' ds' hh => ⟨G, fs, [] ++ ft, { c with temps := OwnC.join (OwnL.of_d (hh G q2)) c.temps }⟩⟩
  | ls hq hi =>
    rename_i q ws us f3
    have eu := leaves_eq (show leaves us = some ds from fl)
    subst eu
    have r := (RpL.of_d hi).1
    exact ⟨q, ws, rfl, .inl (.inl hq), r.mono c.gh.er, fun vs' ds' hh => ⟨G, fs, [] ++ ft, { c with temps := OwnC.join (OwnL.of_d (hh G r)) c.temps }⟩⟩
  | tu _ _ => cases fl
  | dk _ _ _ => cases fl
  | dt _ _ _ => cases fl
def dSlN (dn : DTN) (l h : Rho → (Option Int → Prop) → Prop) : DT := fun ρ Q => dn ρ fun _ _ _ u => l ρ fun lo => h ρ fun hi => match flat u with
  | some ds => Q (.t (.ls ((cutD ds lo hi).map T.d))) ρ
  | none => False
theorem de_sliceN {lo hi : Option Expr} {tl th : TO} {dl dh : Rho → (Option Int → Prop) → Prop} {p2 : Pos} (ha : DN X a ta dn) (hl : DOK X lo tl dl) (hh : DOK X hi th dh) : DE X g (.Subscript a (.Slice lo hi none p2) pos) (L2.tSl (rSlL X.K) ta tl th) (dSlN dn dl dh) := ⟨pe_slice sl_list ha.pe hl.po hh.po, fun B ρ σ τs H Q Q' b s k h => by
  refine ha.dt B ρ σ τs H _ _ s (fun j kk ts u p vs v e1 e2 e3 e4 e5 r q => ?_) h
  refine hl.dt B ρ σ τs H _ _ s (fun l q => ?_) q
  refine hh.dt B ρ σ τs H _ _ s (fun hi q => ?_) q
  split at q
  · rename_i ds fl
    obtain ⟨a', ws, rfl, w2, w3, w5⟩ := s.itmsN e1 e2 e3 e4 e5 fl
    refine ⟨a', ws, rfl, w2, fun pq hq => k _ _ _ _ ?_ b.untail q⟩
    exact (w5 (cutV ws l hi) (cutD ds l hi) fun G r => cut_rp r l hi).newF (cut_rp w3 l hi).len hq
  · exact q.elim⟩
/-! ### changes -/
def setN (ρ : Rho) (j k : Nat) (ts us : List T) : Rho := ρ.set j (some (.ls (ts.set k (.ls us))))
theorem SI.writeN {K : PySem.W.Frag} {B : Base} {ρ : Rho} {σ : L2.St} {τs : List (V × C)} {H : Hp} {j k : Nat} {ts us xs : List T} {ws : List V} (s : SI K B ρ σ (tmp ws xs ++ τs) H) (hl : ws.length = xs.length) (e : ρ[j]? = some (some (.ls ts))) (e2 : ts[k]? = some (.ls us)) :
    ∃ (p q : Addr) (vs : List V) (L M : List Tri), σ[j]? = some (some (.ref p)) ∧ H p = some (.lst vs) ∧ vs[k]? = some (.ref q) ∧ H q = some (.lst (L.map (·.1))) ∧ us = L.map (·.2.1) ∧ ws = M.map (·.1) ∧ xs = M.map (·.2.1) ∧
      ∀ (L' M' : List Tri) (S : List Tri), S.Perm (L' ++ M') → S.Sublist (L ++ M) → SI K B (setN ρ j k ts (L'.map (·.2.1))) σ (tmp (M'.map (·.1)) (M'.map (·.2.1)) ++ τs) (upd H q (.lst (L'.map (·.1)))) := by
  obtain ⟨G, fs, ft, c⟩ := s
  obtain ⟨p, q, vs, L, h1, h2, h3, h4, h5, F⟩ := c.foc1 e e2
  obtain ⟨M, m1, m2, m3⟩ := c.writeF F hl
  obtain ⟨fr, hq, _⟩ := id F
  exact ⟨p, q, vs, L, M, h1, h2, h4, hq, h5, m1, m2, m3⟩
def dClearN (dn : DTN) : DT := fun ρ Q => dn ρ fun j k ts u => match u with
  | .ls _ => Q (.t (.d .none)) (setN ρ j k ts [])
  | _ => False
theorem de_clearN {apos cpos : Pos} (h : DN X a ta dn) (hbase : attributeBase a "clear" X.env (eval a X.env) = eval a X.env := by rfl) (hline : (apos.endLine == cpos.line) = true := by rfl) :
    DE X g (.Call (.Attribute a "clear" apos) [] [] cpos) (tBM0 X.K "list" rClear ta) (dClearN dn) :=
  ⟨pe_bm0 PySem.F.plainAttrs_list PySem.F.slot_list_clear PySem.F.type_list_clear mt_clear h.pe hbase hline, fun B ρ σ τs H Q Q' b s k h' => by
    refine h.dt B ρ σ τs H _ _ s (fun j kk ts u p vs v e1 e2 e3 e4 e5 r q => ?_) h'
    split at q
    · rename_i us
      obtain ⟨p', a', vs', L, M, w1, w2, w3, w4, w5, w6, w7, w8⟩ := SI.writeN (ws := []) (xs := []) (τs := τs) s rfl e1 e2
      rw [e3] at w1
      cases w1
      rw [e4] at w2
      cases w2
      rw [e5] at w3
      cases w3
      refine ⟨tyL w4, a', _, rfl, rfl, w4, ?_⟩
      have s2 := w8 [] [] [] (List.Perm.refl _) (List.nil_sublist _)
      exact k _ _ _ _ (SI.push s2 fun G _ _ => .non) b.untail q
    · exact q.elim⟩
def dRevN (dn : DTN) : DT := fun ρ Q => dn ρ fun j k ts u => match u with
  | .ls us => Q (.t (.d .none)) (setN ρ j k ts us.reverse)
  | _ => False
theorem de_revN {apos cpos : Pos} (h : DN X a ta dn) (hbase : attributeBase a "reverse" X.env (eval a X.env) = eval a X.env := by rfl) (hline : (apos.endLine == cpos.line) = true := by rfl) :
    DE X g (.Call (.Attribute a "reverse" apos) [] [] cpos) (tBM0 X.K "list" rReverse ta) (dRevN dn) :=
  ⟨pe_bm0 PySem.F.plainAttrs_list PySem.F.slot_list_reverse PySem.F.type_list_reverse mt_reverse h.pe hbase hline, fun B ρ σ τs H Q Q' b s k h' => by
    refine h.dt B ρ σ τs H _ _ s (fun j kk ts u p vs v e1 e2 e3 e4 e5 r q => ?_) h'
    split at q
    · rename_i us
      obtain ⟨p', a', vs', L, M, w1, w2, w3, w4, w5, w6, w7, w8⟩ := SI.writeN (ws := []) (xs := []) (τs := τs) s rfl e1 e2
      rw [e3] at w1
      cases w1
      rw [e4] at w2
      cases w2
      rw [e5] at w3
      cases w3
      have hM : M = [] := by
        cases M with
        | nil => rfl
        | cons m ms => simp at w6
      subst hM
      refine ⟨tyL w4, a', _, rfl, rfl, w4, ?_⟩
      have s2 := w8 L.reverse [] L (by rw [List.append_nil]; exact (List.reverse_perm L).symm) (by rw [List.append_nil]; exact List.Sublist.refl _)
      rw [List.map_reverse, List.map_reverse, ← w5] at s2
      exact k _ _ _ _ (SI.push s2 fun G _ _ => .non) b.untail q
    · exact q.elim⟩
def dAppN (dn : DTN) (d : DTK) : DT := fun ρ Q => dn ρ fun j k ts u => (∃ us, u = .ls us) ∧ d ρ fun x => match u with
  | .ls us => imm x = true ∧ us.length < 16777216 ∧ Q (.t (.d .none)) (setN ρ j k ts (us ++ [.d x]))
  | _ => False
theorem de_appN {apos cpos : Pos} (h : DN X a ta dn) (h2 : DK X e te d) (hbase : attributeBase a "append" X.env (eval a X.env) = eval a X.env := by rfl)
    (hfew : ((backTo cpos (starEach (e :: []) X.env)).all (fun x => !x.1) && (backToKw cpos (keywordEach [] X.env)).all (fun x => x.1.isSome)
      && decide ((e :: []).length + ([] : List Keyword).length + (if ([] : List Keyword).isEmpty then 0 else 1) < 30)) = true := by rfl)
    (hline : (apos.endLine == cpos.line) = true := by rfl) (hs : starEach (e :: []) X.env = (false, eval e X.env) :: starEach [] X.env := by rfl) (hplain : (backTo cpos (starEach [] X.env)).any (·.1) = false := by rfl) :
    DE X g (.Call (.Attribute a "append" apos) [e] [] cpos) (tBM X.K "list" rAppend ta (tCons te tNil)) (dAppN dn d) :=
  ⟨pe_bm PySem.F.plainAttrs_list PySem.F.slot_list_append PySem.F.type_list_append mt_append h.pe (pa_cons h2.pe pa_nil hs) hbase hfew hline hs hplain, fun B ρ σ τs H Q Q' b s k h' => by
    refine h.dt B ρ σ τs H _ _ s (fun j kk ts u p vs v e1 e2 e3 e4 e5 r q => ?_) h'
    refine ⟨?_, h2.dt B ρ σ τs H _ _ s (fun y x r2 q2 => ?_) q.2⟩
    · obtain ⟨us, rfl⟩ := q.1
      obtain ⟨p', a', vs', L, M, w1, w2, w3, w4, _⟩ := SI.writeN (ws := []) (xs := []) (τs := τs) s rfl e1 e2
      rw [e3] at w1
      cases w1
      rw [e4] at w2
      cases w2
      rw [e5] at w3
      cases w3
      exact tyL w4
    · split at q2
      · rename_i us
        obtain ⟨q3, q4, q5⟩ := q2
        have s1 : SI X.K B ρ σ (tmp [y] [T.d x] ++ τs) H := s.pushI r2 q3
        obtain ⟨p', a', vs', L, M, w1, w2, w3, w4, w5, w6, w7, w8⟩ := SI.writeN s1 rfl e1 e2
        rw [e3] at w1
        cases w1
        rw [e4] at w2
        cases w2
        rw [e5] at w3
        cases w3
        have s2 := w8 (L ++ M) [] (L ++ M) (by rw [List.append_nil]) (List.Sublist.refl _)
        rw [List.map_append, List.map_append, ← w5, ← w6, ← w7] at s2
        refine ⟨a', _, y, rfl, rfl, w4, lim_lt (by rw [List.length_map]; rw [w5, List.length_map] at q4; exact q4), ?_⟩
        exact k _ _ _ _ (SI.push s2 fun G _ _ => .non) b.untail q5
      · exact q2.elim⟩
end
end Dl
set_option Elab.async false
set_option linter.all false
set_option maxRecDepth 100000
set_option maxHeartbeats 4000000
/-! Dl: calls whose arguments are only looked at; pairs compared. -/
namespace Dl
open PySem PySem.Spec PyProof.Rows L2
section
variable {K : PySem.W.Frag} {mg : Str → Option Value} {B : Base} {ρ : Rho} {σ : L2.St} {τs : List (V × C)} {H G : Hp}
theorem ownS_of : ∀ {vs : List V} {xs : List PyData}, RpL K G vs xs → OwnS K G H (vs.map some) (xs.map fun x => some (T.d x)) []
  | _, _, .nil => .nil
  | _, _, .cons r t => .som (fp := []) (fq := []) (.d r) (ownS_of t)
theorem SI.calledP {wp : WP} {EX : Str → Rho → Prop} {vs : List V} {xs : List PyData} {k : T → Prop} {Q : VK} {E : XK} (s : SI K B ρ σ τs H) (r : RpL K H vs xs)
    (h : wp (xs.map fun x => some (T.d x)) (fun t _ => t.pure = true ∧ k t) (fun x _ => EX x ρ)) (hQ : ∀ t v H', SI K B ρ σ ((v, .t t) :: τs) H' → k t → Q v H')
    (hE : ∀ x C H', mg x = some (.ref C) → SI K B ρ σ τs H' → EX x ρ → E (.ref C) none H') : spD K mg (List.replicate xs.length false) wp vs H Q E := by
  have s1 : SI K B ρ σ (tmp [] [] ++ τs) H := s
  obtain ⟨f, c1, c2, c3, c4, c5⟩ := s1.call rfl
  cases c2
  have eH : hrem H [] = H := funext fun a => hrem_out (fun m => (List.not_mem_nil m).elim)
  rw [eH] at c1 c4 c5
  have s0 : SI K ⟨H, H, []⟩ (xs.map fun x => some (T.d x)) (vs.map some) [] H :=
    ⟨H, [], [], { g0 := Ex.refl _, gh := Ex.refl _, h0 := Ex.refl _, tup := fun a o _ e => e, new := fun a e n => e, slots := ownS_of r, temps := .nil, nd := List.nodup_nil, own := fun a m => (List.not_mem_nil m).elim, pin := fun p m => (List.not_mem_nil m).elim }⟩
  have rep : ∀ (i : Nat), (List.replicate xs.length false)[i]? = some true → False := fun i e => by
    have := List.eq_of_mem_replicate (List.mem_of_getElem? e)
    cases this
  refine ⟨by rw [List.length_replicate]; exact r.len, ⟨H, H, []⟩, _, s0, fun p m => (List.not_mem_nil m).elim, fun i v e _ => (rep i e).elim, _, _, h, fun t ρ1 v H' q s' => ?_, fun x ρ1 C H' q hm s' => ?_⟩
  · obtain ⟨Gc, fs, ft, d⟩ := s'
    cases d with
    | mk g0 gh h0 tup new slots temps nd own pin =>
    cases temps with
    | t o rr =>
    cases rr with
    | nil =>
    rename_i fr
    have nd2 := (List.nodup_append.mp nd).2.1
    rw [List.append_nil] at nd2
    refine hQ t v H' (c5 H' Gc v t [] [] fr h0 gh .nil o rfl q.1 nd2 fun a m => ?_) q.2
    exact (own a (List.mem_append_right _ (List.mem_append_left _ m))).2
  · obtain ⟨Gc, fs, ft, d⟩ := s'
    have s2 := c5 H' Gc .non (.d .none) [] [] [] d.h0 d.gh .nil (.d .non) rfl (by simp [T.pure, imm]) List.nodup_nil fun a m => (List.not_mem_nil m).elim
    exact hE x C H' hm s2.pop q
end
section
variable {X : Cx} {g : Gm} {k : Nat} {ps : List Str} {wp : WP} {x : Str} {p pos : Pos} {e a b : Expr} {es : List Expr} {t : TA} {dk : Rho → (List PyData → Prop) → Prop}
def dCallP (n : Nat) (wp : WP) (EX : Str → Rho → Prop) (dk : Rho → (List PyData → Prop) → Prop) : DT := fun ρ Q => dk ρ fun xs => xs.length = n ∧ wp (xs.map fun x => some (T.d x)) (fun t _ => t.pure = true ∧ Q (.t t) ρ) (fun x _ => EX x ρ)
theorem de_callP {n : Nat} (D : Def X.prog X.w X.K X.mg X.base k x ps (List.replicate n false) wp) (hr : RoomG k X.A) (hg : Gl X x) (tk : Takes X g.w.W) (ha : DKs X (e :: es) t dk) (hdb : (x == ("__debug__" : Str)) = false := by decide)
    (he : starEach (e :: es) X.env = (false, eval e X.env) :: starEach es X.env := by rfl) (hpl : (backTo pos (starEach es X.env)).any (·.1) = false := by rfl) :
    DE X g (.Call (.Name x p) (e :: es) [] pos) (tCallS (spD X.K X.mg (List.replicate n false) wp) (WE g.w.W) t) (dCallP n wp g.w.ex dk) := by
  obtain ⟨f, fd, hm, hk, hb, F⟩ := D.ex
  refine ⟨⟨fun pins s σ H Q I h => ?_⟩, fun B ρ σ τs H Q Q' b s kk h => ?_⟩
  · refine wpAny_Call_Name_kw (ld_glob I hg hm (PySem.W.callWith_K (h₀ := X.base) I.ok.mod.kin hk ?_ he hpl) hdb)
    exact thn (ha.pa.run pos pins s σ H _ I h) fun us s1 ⟨vs, H1, I1, r, q⟩ => ⟨I1.kIn, run_fnG F hr hb (passAt tk σ) I1 r q⟩
  · refine ha.dt B ρ σ τs H _ _ s (fun vs xs r q => ?_) h
    obtain ⟨q1, q2⟩ := q
    subst q1
    exact s.calledP r q2 (fun t v H' s' q => kk _ _ _ _ s' b.untail q) fun x C H' hm s' q => b.wok x C ρ σ H' [] hm s' q
/-! ### pairs compared -/
def lexleB (p q : Pr) : Bool := if p.1 = q.1 then decide (p.2 ≤ q.2) else decide (p.1 ≤ q.1)
def kP (o : Option PyData) (k : Pr → Prop) : Prop := match o with
  | some (.tuple [.int i, .int j]) => k (i, j)
  | _ => False
theorem kP_iff {o : Option PyData} {k : Pr → Prop} (h : kP o k) : ∃ p, o = some (pairD p) ∧ k p := by
  unfold kP at h
  split at h
  · exact ⟨_, rfl, h⟩
  · exact h.elim
def gLeP : D2 := fun a b k => kP a fun p => kP b fun q => k (.d (.bool (lexleB p q)))
theorem gLeP_m : D2m gLeP := fun a b P P' hp h => by
  obtain ⟨p, rfl, h0⟩ := kP_iff h
  obtain ⟨q, rfl, h1⟩ := kP_iff h0
  exact hp _ h1
theorem dc_leP (hu : X.A.units + 64 < cLine) : DCmp X g .LtE (rLeT X.K) gLeP := ⟨op_leT (by omega), fun B ρ σ τs H x y cx cy Q b s h => by
  obtain ⟨p, e1, h⟩ := kP_iff h
  obtain ⟨q, e2, h⟩ := kP_iff h
  obtain ⟨r1, r2⟩ := s.two e1 e2
  obtain ⟨a1, rfl, w1⟩ := Rp.tupI (ns := [p.1, p.2]) r1
  obtain ⟨a2, rfl, w2⟩ := Rp.tupI (ns := [q.1, q.2]) r2
  refine ⟨a1, a2, [p.1, p.2], [q.1, q.2], rfl, rfl, w1, w2, ?_⟩
  have e : Ob.lexAt (fun j => decide ([p.1, p.2].getD j 0 = [q.1, q.2].getD j 0)) (fun j => decide ([p.1, p.2].getD j 0 ≤ [q.1, q.2].getD j 0)) (decide ([p.1, p.2].length ≤ [q.1, q.2].length)) 0 (min [p.1, p.2].length [q.1, q.2].length) = lexleB p q := by
    show (if decide (p.1 = q.1) = true then (if decide (p.2 = q.2) = true then decide (2 ≤ 2) else decide (p.2 ≤ q.2)) else decide (p.1 ≤ q.1)) = lexleB p q
    unfold lexleB
    by_cases h1 : p.1 = q.1
    · by_cases h2 : p.2 = q.2
      · simp [h1, h2]
      · simp [h1, h2]
    · simp [h1]
  rw [e]
  exact h _ _ (s.pop.pop.push fun G _ _ => .bl _), gLeP_m⟩
/-! texts compared -/
def gEqT (neg : Bool) : D2 := fun a b k => asS a fun x => asS b fun y => k (.d (.bool (if neg then !decide (x = y) else decide (x = y))))
theorem gEqT_m {neg : Bool} : D2m (gEqT neg) := fun a b P P' hp h => by
  obtain ⟨i, rfl, h0⟩ := asS_iff h
  obtain ⟨j, rfl, h1⟩ := asS_iff h0
  exact hp _ h1
theorem dec_strV (x y : Str) : decide (V.str x = V.str y) = decide (x = y) := by
  by_cases h : x = y <;> simp [h]
theorem dc_eqT : DCmp X g .Eq rEq (gEqT false) := ⟨op_eq, fun B ρ σ τs H x y cx cy Q b s h => by
  obtain ⟨i, e1, h⟩ := asS_iff h
  obtain ⟨j, e2, h⟩ := asS_iff h
  obtain ⟨r1, r2⟩ := s.two e1 e2
  have h1 := r1.strV
  have h2 := r2.strV
  subst h1 h2
  refine ⟨rfl, ?_⟩
  rw [dec_strV]
  exact h _ _ (s.pop.pop.push fun G _ _ => .bl _), gEqT_m⟩
theorem dc_neT : DCmp X g .NotEq rNe (gEqT true) := ⟨op_ne, fun B ρ σ τs H x y cx cy Q b s h => by
  obtain ⟨i, e1, h⟩ := asS_iff h
  obtain ⟨j, e2, h⟩ := asS_iff h
  obtain ⟨r1, r2⟩ := s.two e1 e2
  have h1 := r1.strV
  have h2 := r2.strV
  subst h1 h2
  refine ⟨rfl, ?_⟩
  rw [dec_strV]
  exact h _ _ (s.pop.pop.push fun G _ _ => .bl _), gEqT_m⟩
end
end Dl
set_option Elab.async false
set_option linter.all false
set_option maxRecDepth 100000
set_option maxHeartbeats 4000000
/-! Dl: dicts that a slot owns, keys ints or texts; places in lists. -/
namespace Dl
open PySem L2
def getK (xs : List (Key × PyData)) (k : Key) : Option PyData := (xs.find? fun p => decide (p.1 = k)).map (·.2)
def putD (xs : List (Key × PyData)) (k : Key) (d : PyData) : List (Key × PyData) :=
  if (xs.any fun p => decide (p.1 = k)) = true then xs.map (fun p => if p.1 = k then (p.1, d) else p) else xs ++ [(k, d)]
def mergeD (xs more : List (Key × PyData)) : List (Key × PyData) := more.foldl (fun acc p => putD acc p.1 p.2) xs
inductive KR (K : PySem.W.Frag) (G : Hp) : List (Key × V) → List (Key × PyData) → Prop
  | nil : KR K G [] []
  | cons {k : Key} {v : V} {d : PyData} {kvs : List (Key × V)} {xs : List (Key × PyData)} : Rp K G v d → KR K G kvs xs → KR K G ((k, v) :: kvs) ((k, d) :: xs)
section
variable {K : PySem.W.Frag} {G G' H : Hp} {B : Base} {ρ : Rho} {σ : L2.St} {τs : List (V × C)} {fs ft : List Addr}
theorem kr_of : ∀ {kvs : List (Key × V)} {xs : List (Key × PyData)}, kvs.map (·.1) = xs.map (·.1) → RpL K G (kvs.map (·.2)) (xs.map (·.2)) → KR K G kvs xs
  | [], [], _, _ => .nil
  | [], _ :: _, h, _ => by simp at h
  | _ :: _, [], h, _ => by simp at h
  | (k, v) :: kvs, (k', d) :: xs, h, r => by
    simp only [List.map_cons, List.cons.injEq] at h
    obtain ⟨rfl, h⟩ := h
    have r' : RpL K G (v :: kvs.map (·.2)) (d :: xs.map (·.2)) := r
    cases r' with
    | cons q t => exact .cons q (kr_of h t)
theorem KR.keys : ∀ {kvs : List (Key × V)} {xs : List (Key × PyData)}, KR K G kvs xs → kvs.map (·.1) = xs.map (·.1)
  | _, _, .nil => rfl
  | _, _, .cons _ t => by rw [List.map_cons, List.map_cons, t.keys]
theorem KR.rpl : ∀ {kvs : List (Key × V)} {xs : List (Key × PyData)}, KR K G kvs xs → RpL K G (kvs.map (·.2)) (xs.map (·.2))
  | _, _, .nil => .nil
  | _, _, .cons q t => .cons q t.rpl
theorem KR.len {kvs : List (Key × V)} {xs : List (Key × PyData)} (h : KR K G kvs xs) : kvs.length = xs.length := by
  have := congrArg List.length h.keys
  simpa using this
theorem KR.mono (g : Er G G') : ∀ {kvs : List (Key × V)} {xs : List (Key × PyData)}, KR K G kvs xs → KR K G' kvs xs
  | _, _, .nil => .nil
  | _, _, .cons q t => .cons (q.mono g) (t.mono g)
theorem KR.get (k : Key) : ∀ {kvs : List (Key × V)} {xs : List (Key × PyData)}, KR K G kvs xs → (valV kvs k = none ∧ getK xs k = none) ∨ ∃ v d, valV kvs k = some v ∧ getK xs k = some d ∧ Rp K G v d
  | _, _, .nil => .inl ⟨rfl, rfl⟩
  | _, _, .cons (k := k') (v := v) (d := d) q t => by
    by_cases e : k' = k
    · exact .inr ⟨v, d, by simp [valV, e], by simp [getK, e], q⟩
    · rcases t.get k with ⟨h1, h2⟩ | ⟨v', d', h1, h2, h3⟩
      · exact .inl ⟨by unfold valV at h1 ⊢; simpa [List.find?_cons, e] using h1, by unfold getK at h2 ⊢; simpa [List.find?_cons, e] using h2⟩
      · exact .inr ⟨v', d', by unfold valV at h1 ⊢; simpa [List.find?_cons, e] using h1, by unfold getK at h2 ⊢; simpa [List.find?_cons, e] using h2, h3⟩
theorem KR.any (k : Key) : ∀ {kvs : List (Key × V)} {xs : List (Key × PyData)}, KR K G kvs xs → (kvs.any fun p => decide (p.1 = k)) = xs.any fun p => decide (p.1 = k)
  | _, _, .nil => rfl
  | _, _, .cons _ t => by rw [List.any_cons, List.any_cons, t.any k]
theorem KR.rep {v : V} {d : PyData} (k : Key) (q : Rp K G v d) : ∀ {kvs : List (Key × V)} {xs : List (Key × PyData)}, KR K G kvs xs → KR K G (kvs.map fun kv => if kv.1 = k then (kv.1, v) else kv) (xs.map fun p => if p.1 = k then (p.1, d) else p)
  | _, _, .nil => .nil
  | _, _, .cons (k := k') q' t => by
    rw [List.map_cons, List.map_cons]
    by_cases e : k' = k
    · simp only [e, if_true]
      exact .cons q (t.rep k q)
    · simp only [e, if_false]
      exact .cons q' (t.rep k q)
theorem KR.snoc {v : V} {d : PyData} {k : Key} (q : Rp K G v d) : ∀ {kvs : List (Key × V)} {xs : List (Key × PyData)}, KR K G kvs xs → KR K G (kvs ++ [(k, v)]) (xs ++ [(k, d)])
  | _, _, .nil => .cons q .nil
  | _, _, .cons q' t => .cons q' (t.snoc q)
theorem KR.put {v : V} {d : PyData} {kvs : List (Key × V)} {xs : List (Key × PyData)} (k : Key) (q : Rp K G v d) (h : KR K G kvs xs) : KR K G (putK kvs k v) (putD xs k d) := by
  unfold putK putD
  rw [h.any k]
  split
  · exact h.rep k q
  · exact h.snoc q
theorem KR.merge : ∀ {mv : List (Key × V)} {md : List (Key × PyData)}, KR K G mv md → ∀ {kvs : List (Key × V)} {xs : List (Key × PyData)}, KR K G kvs xs → KR K G (mergeK kvs mv) (mergeD xs md)
  | _, _, .nil, _, _, h => h
  | _, _, .cons q t, _, _, h => t.merge (h.put _ q)
/-- a new dict -/
theorem Core.newDk {kvs : List (Key × V)} {xs : List (Key × PyData)} {p : Addr} (c : Core K B G ρ σ τs H fs ft) (r : KR K G kvs xs) (hp : H p = none) : SI K B ρ σ ((.ref p, .t (.dk xs)) :: τs) (upd H p (.dK kvs)) := by
  obtain ⟨fg, fh, fn⟩ := c.free hp
  have k := c.keep (o := .dK kvs) hp
  have pm : List.Perm (fs ++ ([p] ++ ft)) (p :: (fs ++ ft)) := List.perm_middle
  refine ⟨G, fs, [p] ++ ft, c.g0, ex_upd c.gh fg, ex_upd c.h0 fh, fun a o ho e => ?_, c.new, c.slots.mono (Er.refl G) fun a h => k a (List.mem_append_left _ h),
    .t (.dk upd_same r.keys r.rpl) (c.temps.mono (Er.refl G) fun a h => k a (List.mem_append_right _ h)), ?_, fun a h => ?_, c.pin⟩
  · by_cases ha : a = p
    · subst ha
      rw [upd_same] at e
      cases e
      cases ho
    · rw [upd_ne ha] at e
      exact c.tup a o ho e
  · exact pm.nodup_iff.mpr (List.nodup_cons.mpr ⟨fn, c.nd⟩)
  · rcases List.mem_cons.mp (pm.mem_iff.mp h) with rfl | h
    · exact ⟨fg, fh⟩
    · exact c.own a h
theorem SI.dkAt {j : Nat} {xs : List (Key × PyData)} (s : SI K B ρ σ τs H) (e : ρ[j]? = some (some (.dk xs))) : ∃ p kvs, σ[j]? = some (some (.ref p)) ∧ H p = some (.dK kvs) ∧ KR K H kvs xs := by
  obtain ⟨G, fs, ft, c⟩ := s
  obtain ⟨v, f, h1, h2, _⟩ := c.slot e
  cases h2 with
  | dk hp q o => exact ⟨_, _, h1, hp, (kr_of q o).mono c.gh.er⟩
theorem SI.getD {j : Nat} {xs : List (Key × PyData)} {k : Key} {d : PyData} (s : SI K B ρ σ τs H) (e : ρ[j]? = some (some (.dk xs))) (hk : getK xs k = some d) :
    ∃ p kvs v, σ[j]? = some (some (.ref p)) ∧ H p = some (.dK kvs) ∧ valV kvs k = some v ∧ SI K B ρ σ ((v, .t (.d d)) :: τs) H := by
  obtain ⟨G, fs, ft, c⟩ := s
  obtain ⟨v, f, h1, h2, _⟩ := c.slot e
  cases h2 with
  | dk hp q o =>
    rcases (kr_of q o).get k with ⟨_, z⟩ | ⟨v, d', z1, z2, z3⟩
    · rw [hk] at z
      cases z
    · rw [hk] at z2
      cases z2
      exact ⟨_, _, v, h1, hp, z1, G, fs, [] ++ ft, { c with temps := .t (fp := []) (.d z3) c.temps }⟩
theorem SI.putD {j : Nat} {xs : List (Key × PyData)} {v : V} {d : PyData} (k : Key) (s : SI K B ρ σ ((v, .t (.d d)) :: τs) H) (e : ρ[j]? = some (some (.dk xs))) :
    ∃ p kvs, σ[j]? = some (some (.ref p)) ∧ H p = some (.dK kvs) ∧ kvs.length = xs.length ∧ SI K B (ρ.set j (some (.dk (Dl.putD xs k d)))) σ τs (upd H p (.dK (putK kvs k v))) := by
  obtain ⟨G, fs, ft, c⟩ := s
  obtain ⟨v', f, fr, h1, h2, h3, h4, h5⟩ := c.slots.at_ e
  cases h2 with
  | dk hp q o =>
  rename_i p kvs
  cases c with
  | mk g0 gh h0 tup new slots temps nd own pin =>
  cases temps with
  | t ov r =>
  rename_i fv ft
  cases ov with
  | d rv =>
  have kr := kr_of q o
  have ndp : (([p] ++ fr) ++ ft).Nodup := (List.Perm.append_right _ h3).nodup_iff.mp (show (fs ++ ft).Nodup from nd)
  have ownp : ∀ a ∈ ([p] ++ fr) ++ ft, G a = none ∧ B.H0 a = none := fun a h => own a ((List.Perm.append_right _ h3).mem_iff.mpr h)
  have pp : ∀ a ∈ fr ++ ft, a ≠ p := fun a h z => by
    subst z
    have n2 : (a :: (fr ++ ft)).Nodup := by simpa using ndp
    exact (List.nodup_cons.mp n2).1 h
  have kp : ∀ a, a ≠ p → upd H p (HO.dK (putK kvs k v)) a = H a := fun a h => upd_ne h
  have kr2 := kr.put k rv
  obtain ⟨fp', w1, w2⟩ := h4 (G' := G) (H' := upd H p (HO.dK (putK kvs k v))) (v' := .ref p) (t' := .dk (Dl.putD xs k d)) (Er.refl G) (fun a h => kp a (pp a (List.mem_append_left _ h)))
    (.dk upd_same kr2.keys kr2.rpl)
  rw [set_same h1] at w1
  have hin := ownp p (by simp)
  refine ⟨p, kvs, h1, hp, kr.len, G, fp', ft, g0, ex_upd gh hin.1, ex_upd h0 hin.2, fun a o ho e => ?_, new, w1, r.mono (Er.refl G) fun a h => kp a (pp a (List.mem_append_right _ h)), ?_, fun a h => ?_, pin⟩
  · by_cases ha : a = p
    · subst ha
      rw [upd_same] at e
      cases e
      cases ho
    · rw [upd_ne ha] at e
      exact tup a o ho e
  · exact (List.Perm.append_right _ w2).nodup_iff.mpr ndp
  · exact ownp a ((List.Perm.append_right _ w2).mem_iff.mp h)
end
def atDk (ρ : Rho) (j : Nat) (k : List (Key × PyData) → Prop) : Prop := match ρ[j]? with
  | some (some (.dk xs)) => k xs
  | _ => False
theorem atDk_iff {ρ : Rho} {j : Nat} {k : List (Key × PyData) → Prop} (h : atDk ρ j k) : ∃ xs, ρ[j]? = some (some (.dk xs)) ∧ k xs := by
  unfold atDk at h
  split at h
  · rename_i ts e
    exact ⟨ts, e, h⟩
  · exact h.elim
def keyD (o : Option PyData) (k : Key → Prop) : Prop := match o with
  | some (.int i) => k (.inl i)
  | some (.str x) => k (.inr x)
  | _ => False
theorem keyD_iff {o : Option PyData} {k : Key → Prop} (h : keyD o k) : ∃ x, o = some (kd x) ∧ k x := by
  unfold keyD at h
  split at h
  · exact ⟨_, rfl, h⟩
  · exact ⟨_, rfl, h⟩
  · exact h.elim
theorem Rp.keyV {K : PySem.W.Frag} {G : Hp} {v : V} {k : Key} (r : Rp K G v (kd k)) : v = kV k := by
  cases k with
  | inl i => exact r.intV
  | inr x => exact r.strV
section
variable {X : Cx} {g : Gm} {e : Expr} {te : TE} {d : DT} {pos : Pos} {x : Str} {np apos cpos : Pos}
def dNewK : DT := fun ρ Q => Q (.t (.dk [])) ρ
theorem de_dnew : DE X g (.Dict [] [] pos) tDNewK dNewK := ⟨pe_dnewK, fun B ρ σ τs H Q Q' b s k h' p hp => by
  obtain ⟨G, fs, ft, c⟩ := s
  exact k _ _ _ _ (c.newDk .nil hp) b.untail h'⟩
theorem unit1 {k : Nat} {A : Around} (r : RoomG k A) : A.units + 1 < cLine := by
  have := unit65 r
  omega
/-- x[e], x a dict -/
def dDGet (j : Nat) (d : DT) : DT := fun ρ Q => atDk ρ j fun _ => d ρ fun c ρ1 => keyD (dat ρ1 c) fun k => atDk ρ1 j fun xs => match getK xs k with
  | some v => Q (.t (.d v)) ρ1
  | none => False
theorem de_dget (j : Nat) (hu : X.A.units + 1 < cLine) (h : DE X g e te d) (hN : X.N[j]? = some x := by rfl) (hv : Vis X.env.scope x := by first | exact Or.inl rfl | exact Or.inr (Or.inl rfl) | exact Or.inr (Or.inr rfl))
    (hd : (x == ("__debug__" : Str)) = false := by decide) (hcd : (x == ("__classdict__" : Str)) = false := by decide) (hs : NoSl e := by exact fun _ _ => rfl) :
    DE X g (.Subscript (.Name x np) e pos) (tDGet (tVar j) te) (dDGet j d) := ⟨pe_dget hu (vis_or j hN hv hd hcd) h.pe hs, fun B ρ σ τs H Q Q' b s k h' => by
  obtain ⟨xs0, e0, h'⟩ := atDk_iff h'
  obtain ⟨p, kvs0, z1, z2, _⟩ := s.dkAt e0
  refine ⟨.ref p, z1, h.dt B ρ σ τs H _ _ b s (fun c ρ1 y H1 s1 b1 q1 => ?_) h'⟩
  obtain ⟨kk, ek, q2⟩ := keyD_iff q1
  obtain ⟨xs, e1, q3⟩ := atDk_iff q2
  have ry := (s1.rp ek).keyV
  split at q3
  · rename_i dd hdd
    obtain ⟨p', kvs, v, w1, w2, w3, s3⟩ := s1.pop.getD e1 hdd
    rw [z1] at w1
    cases w1
    subst ry
    have gg := DGet.k (k := kk) w2
    rw [w3] at gg
    exact ⟨p, v, rfl, gg, k _ _ _ _ s3 b.untail q3⟩
  · exact q3.elim⟩
/-- e in x, e not in x, x a dict -/
def dDIn (neg : Bool) (j : Nat) (d : DT) : DT := fun ρ Q => d ρ fun c ρ1 => keyD (dat ρ1 c) fun k => atDk ρ1 j fun xs => Q (.t (.d (.bool (if neg then !(getK xs k).isSome else (getK xs k).isSome)))) ρ1
theorem getK_some {K : PySem.W.Frag} {G : Hp} {kvs : List (Key × V)} {xs : List (Key × PyData)} (r : KR K G kvs xs) (k : Key) : (valV kvs k).isSome = (getK xs k).isSome := by
  rcases r.get k with ⟨h1, h2⟩ | ⟨v, d, h1, h2, _⟩ <;> rw [h1, h2] <;> rfl
theorem dt_din (j : Nat) (h : DE X g e te d) : Dt X g (tDIn te (tVar j)) (dDIn false j d) := fun B ρ σ τs H Q Q' b s k h' => by
  refine h.dt B ρ σ τs H _ _ b s (fun c ρ1 y H1 s1 b1 q1 => ?_) h'
  obtain ⟨kk, ek, q2⟩ := keyD_iff q1
  obtain ⟨xs, e1, q3⟩ := atDk_iff q2
  have ry := (s1.rp ek).keyV
  obtain ⟨p, kvs, z1, z2, z3⟩ := s1.dkAt e1
  subst ry
  refine ⟨.ref p, z1, p, _, rfl, DGet.k (k := kk) z2, ?_⟩
  rw [getK_some z3]
  exact k _ _ _ _ (s1.pop.push fun G _ _ => .bl _) b.untail q3
theorem dt_dnotin (j : Nat) (h : DE X g e te d) : Dt X g (tDNotIn te (tVar j)) (dDIn true j d) := fun B ρ σ τs H Q Q' b s k h' => by
  refine h.dt B ρ σ τs H _ _ b s (fun c ρ1 y H1 s1 b1 q1 => ?_) h'
  obtain ⟨kk, ek, q2⟩ := keyD_iff q1
  obtain ⟨xs, e1, q3⟩ := atDk_iff q2
  have ry := (s1.rp ek).keyV
  obtain ⟨p, kvs, z1, z2, z3⟩ := s1.dkAt e1
  subst ry
  refine ⟨.ref p, z1, p, _, rfl, DGet.k (k := kk) z2, ?_⟩
  rw [getK_some z3]
  exact k _ _ _ _ (s1.pop.push fun G _ _ => .bl _) b.untail q3
theorem dtB_of {te : TE} {t : DT} (h : Dt X g te t) : DtT X g (tB te) (dTst t) := fun B ρ σ τs H Q Q' b s k h' => by
  refine h B ρ σ τs H _ _ b s (fun c ρ1 v H1 s1 b1 q1 => ?_) h'
  obtain ⟨i, e, q⟩ := asB_iff q1
  exact ⟨i, (s1.rp e).boolV, k _ _ _ s1.pop q⟩
theorem de_din (j : Nat) (hu : X.A.units + 1 < cLine) (h : DE X g e te d) (hm : behindInMarks .In (.Name x np) = false) (hN : X.N[j]? = some x := by rfl) (hv : Vis X.env.scope x := by first | exact Or.inl rfl | exact Or.inr (Or.inl rfl) | exact Or.inr (Or.inr rfl))
    (hd : (x == ("__debug__" : Str)) = false := by decide) (hcd : (x == ("__classdict__" : Str)) = false := by decide) :
    DE X g (.Compare e [.In] [.Name x np] pos) (tDIn te (tVar j)) (dDIn false j d) := ⟨pe_cmp (pc_din hu h.pe (vis_or j hN hv hd hcd)) hm, dt_din j h⟩
theorem de_dnotin (j : Nat) (hu : X.A.units + 1 < cLine) (h : DE X g e te d) (hm : behindInMarks .NotIn (.Name x np) = false) (hN : X.N[j]? = some x := by rfl) (hv : Vis X.env.scope x := by first | exact Or.inl rfl | exact Or.inr (Or.inl rfl) | exact Or.inr (Or.inr rfl))
    (hd : (x == ("__debug__" : Str)) = false := by decide) (hcd : (x == ("__classdict__" : Str)) = false := by decide) :
    DE X g (.Compare e [.NotIn] [.Name x np] pos) (tDNotIn te (tVar j)) (dDIn true j d) := ⟨pe_cmp (pc_dnotin hu h.pe (vis_or j hN hv hd hcd)) hm, dt_dnotin j h⟩
theorem db_din (j : Nat) (hu : X.A.units + 1 < cLine) (h : DE X g e te d) (hm : behindInMarks .In (.Name x np) = false) (hN : X.N[j]? = some x := by rfl) (hv : Vis X.env.scope x := by first | exact Or.inl rfl | exact Or.inr (Or.inl rfl) | exact Or.inr (Or.inr rfl))
    (hd : (x == ("__debug__" : Str)) = false := by decide) (hcd : (x == ("__classdict__" : Str)) = false := by decide) :
    DB X g (.Compare e [.In] [.Name x np] pos) (tB (tDIn te (tVar j))) (dTst (dDIn false j d)) := ⟨pt_cmp (pc_din hu h.pe (vis_or j hN hv hd hcd)) hm, dtB_of (dt_din j h)⟩
theorem db_dnotin (j : Nat) (hu : X.A.units + 1 < cLine) (h : DE X g e te d) (hm : behindInMarks .NotIn (.Name x np) = false) (hN : X.N[j]? = some x := by rfl) (hv : Vis X.env.scope x := by first | exact Or.inl rfl | exact Or.inr (Or.inl rfl) | exact Or.inr (Or.inr rfl))
    (hd : (x == ("__debug__" : Str)) = false := by decide) (hcd : (x == ("__classdict__" : Str)) = false := by decide) :
    DB X g (.Compare e [.NotIn] [.Name x np] pos) (tB (tDNotIn te (tVar j))) (dTst (dDIn true j d)) := ⟨pt_cmp (pc_dnotin hu h.pe (vis_or j hN hv hd hcd)) hm, dtB_of (dt_dnotin j h)⟩
/-- x[e] = .., x a dict -/
def gSubD (j : Nat) (d : DT) : DTG := fun t ρ K => atDk ρ j fun _ => d ρ fun c ρ1 => keyD (dat ρ1 c) fun k => atDk ρ1 j fun xs => xs.length < 16777216 ∧ K (ρ1.set j (some (.dk (putD xs k t.data))))
theorem dg_subD {cb : Bool} (j : Nat) (hu : X.A.units + 1 < cLine) (h : DE X g e te d) (hN : X.N[j]? = some x := by rfl) (hv : Vis X.env.scope x := by first | exact Or.inl rfl | exact Or.inr (Or.inl rfl) | exact Or.inr (Or.inr rfl))
    (hd : (x == ("__debug__" : Str)) = false := by decide) (hcd : (x == ("__classdict__" : Str)) = false := by decide)
    (ha : ∀ v, assign (.Subscript (.Name x np) e pos) X.env v = (do
      let ov ← holding [v] (eval (.Name x np) X.env)
      let iv ← holding [v, ov] (eval e X.env)
      standAt pos
      holding [v, ov, iv] (setItem ov iv v)
      release [v, ov, iv] []) := by intro _; rfl) :
    DG X g cb (.Subscript (.Name x np) e pos) (gSub (tVar j) te rSetD) (gSubD j d) := ⟨pg_sub (vis_or j hN hv hd hcd) h.pe (set_dict hu) ha, fun B ρ σ τs H v t Q Q' b hn s k h' => by
  obtain ⟨xs0, e0, h'⟩ := atDk_iff h'
  obtain ⟨p, kvs0, z1, z2, _⟩ := s.dkAt e0
  refine ⟨.ref p, z1, h.dt B ρ σ _ H _ _ b.untail s (fun c ρ1 y H1 s1 b1 q1 => ?_) h'⟩
  obtain ⟨kk, ek, q2⟩ := keyD_iff q1
  obtain ⟨xs, e1, hz, q3⟩ := atDk_iff q2
  have ry := (s1.rp ek).keyV
  obtain ⟨p', kvs, w1, w2, w3, s3⟩ := SI.putD kk s1.pop.frz e1
  rw [z1] at w1
  cases w1
  subst ry
  exact ⟨p, _, rfl, DPut.k w2 (lim_lt (by rw [w3]; exact hz)), k _ _ _ s3 q3⟩⟩
/-- dict(e), e a list of pairs -/
def kvD (p : Key × PyData) : PyData := .tuple [kd p.1, p.2]
def kvL : List PyData → Option (List (Key × PyData))
  | [] => some []
  | .tuple [.int i, d] :: r => (kvL r).map ((.inl i, d) :: ·)
  | .tuple [.str x, d] :: r => (kvL r).map ((.inr x, d) :: ·)
  | _ => none
theorem kvL_eq : ∀ {ds : List PyData} {ps : List (Key × PyData)}, kvL ds = some ps → ds = ps.map kvD
  | [], ps, h => by
    simp [kvL] at h
    subst h
    rfl
  | x :: r, ps, h => by
    unfold kvL at h
    split at h
    · rename_i e; cases e
    · rename_i i d r' e
      cases e
      obtain ⟨q, e1, e2⟩ := Option.map_eq_some_iff.mp h
      subst e2
      rw [List.map_cons, ← kvL_eq e1]
      rfl
    · rename_i i d r' e
      cases e
      obtain ⟨q, e1, e2⟩ := Option.map_eq_some_iff.mp h
      subst e2
      rw [List.map_cons, ← kvL_eq e1]
      rfl
    · cases h
theorem kvL_map : ∀ ps : List (Key × PyData), kvL (ps.map kvD) = some ps
  | [] => rfl
  | (.inl i, d) :: r => by
    show (kvL (r.map kvD)).map ((.inl i, d) :: ·) = _
    rw [kvL_map r]
    rfl
  | (.inr i, d) :: r => by
    show (kvL (r.map kvD)).map ((.inr i, d) :: ·) = _
    rw [kvL_map r]
    rfl
@[irreducible] def asKv (o : Option T) (k : List (Key × PyData) → Prop) : Prop := match (o.bind flat).bind kvL with
  | some ps => k ps
  | none => False
theorem asKv_iff {o : Option T} {k : List (Key × PyData) → Prop} (h : asKv o k) : ∃ t ps, o = some t ∧ flat t = some (ps.map kvD) ∧ k ps := by
  unfold asKv at h
  split at h
  · rename_i ns e
    cases o with
    | none => cases e
    | some t =>
      rw [Option.bind_some] at e
      cases e2 : flat t with
      | none => simp [e2] at e
      | some ds =>
        simp [e2] at e
        have := kvL_eq e
        subst this
        exact ⟨t, ns, rfl, e2, h⟩
  · exact h.elim
theorem RpL.kvs {K : PySem.W.Frag} {G : Hp} : ∀ {xs : List (Key × PyData)} {vs : List V}, RpL K G vs (xs.map kvD) → ∃ (ps : List Addr) (kvs : List (Key × V)), vs = ps.map V.ref ∧ Paired (fun p kv => SqT K G p [kV kv.1, kv.2]) ps kvs ∧ KR K G kvs xs
  | [], _, .nil => ⟨[], [], rfl, .nil, .nil⟩
  | (k, d) :: xs, _, .cons (v := v) h t => by
    obtain ⟨ps, kvs, e, q1, q2⟩ := RpL.kvs t
    obtain ⟨a, ws, rfl, w1, w2⟩ := Rp.tupV (show Rp K G v (.tuple [kd k, d]) from h)
    cases w2 with
    | cons r1 w2 =>
    cases w2 with
    | cons r2 w2 =>
    cases w2
    have := r1.keyV
    subst this
    subst e
    exact ⟨a :: ps, (k, _) :: kvs, rfl, .cons w1 q1, .cons r2 q2⟩
def dDict (d : DT) : DT := fun ρ Q => d ρ fun c ρ1 => asKv (look ρ1 c) fun ps => Q (.t (.dk (mergeD [] ps))) ρ1
abbrev rDictP (K : PySem.W.Frag) : List V → Hp → VK → Prop := fun xs H Q => ∃ (a : Addr) (ps : List Addr) (kvs : List (Key × V)), xs = [.ref a] ∧ SqL K H a (ps.map V.ref) ∧ Paired (fun p kv => SqT K H p [kV kv.1, kv.2]) ps kvs ∧
    ∀ p, H p = none → Q (.ref p) (upd H p (.dK (mergeK [] kvs)))
theorem paired_mono {α β : Type} {R S : α → β → Prop} (h : ∀ a b, R a b → S a b) : ∀ {xs : List α} {ys : List β}, Paired R xs ys → Paired S xs ys
  | _, _, .nil => .nil
  | _, _, .cons r t => .cons (h _ _ r) (paired_mono h t)
theorem de_dict {p : Pos} (hc : X.calm = true) (hg : Gl X "dict") (hm : X.mg "dict" = none) (hv : bootBuiltins "dict" = some (.type "dict")) (h : DE X g e te d)
    (hs : starEach [e] X.env = (false, eval e X.env) :: starEach [] X.env := by rfl) : DE X g (.Call (.Name "dict" p) [e] [] pos) (tCB (rDictP X.K) (tCons te tNil)) (dDict d) :=
  ⟨pe_callTy (call_dictP hc) hg hm hv (pa_cons h.pe pa_nil hs) (by decide) (by decide) hs, fun B ρ σ τs H Q Q' b s k h' => by
    refine h.dt B ρ σ τs H _ _ b s (fun c ρ1 v H1 s1 b1 q1 => ?_) h'
    obtain ⟨t, xs, e1, e2, q2⟩ := asKv_iff q1
    obtain ⟨a, vs, rfl, w1, w2, w3, w4, w5⟩ := s1.itms e1 (itms_flat e2)
    have s2 := w5 vs (xs.map kvD) fun G r => r
    obtain ⟨G, fs, ft, cc⟩ := s2
    obtain ⟨f, fr, h1, h2, rfl⟩ := cc.temps.split (by rw [List.length_map]; exact w3.len)
    obtain ⟨h3, rfl⟩ := RpL.of_d h1
    obtain ⟨ps, kvs, rfl, z1, z2⟩ := h3.kvs
    have cc' : Core X.K B G ρ1 σ τs H1 fs fr := { cc with temps := h2, nd := cc.nd, own := cc.own }
    exact ⟨a, ps, kvs, rfl, w2 e2, paired_mono (fun _ _ r => cc.gh.er.t r) z1, fun p hp => k _ _ _ _ (cc'.newDk (z2.merge .nil) hp) b.untail q2⟩⟩
/-- x.index(e) -/
def lsD (ρ : Rho) (j : Nat) (k : List PyData → Prop) : Prop := match ρ[j]? with
  | some (some t) => match t.data with
    | .list ds => k ds
    | _ => False
  | _ => False
theorem lsD_iff {ρ : Rho} {j : Nat} {k : List PyData → Prop} (h : lsD ρ j k) : ∃ t ds, ρ[j]? = some (some t) ∧ t.data = .list ds ∧ k ds := by
  unfold lsD at h
  split at h
  · rename_i t e
    split at h
    · rename_i ds e2
      exact ⟨t, ds, e, e2, h⟩
    · exact h.elim
  · exact h.elim
def idxD (ds : List PyData) (x : PyData) : Option Nat := ds.findIdx? fun z => PyData.eqv z x
theorem idxD_get {ds : List PyData} {x : PyData} {i : Nat} (h : idxD ds x = some i) : ∃ z, ds[i]? = some z ∧ PyData.eqv z x = true ∧ ∀ (m : Nat) (z' : PyData), m < i → ds[m]? = some z' → PyData.eqv z' x = false := by
  obtain ⟨hi, h1, h2⟩ := List.findIdx?_eq_some_iff_getElem.mp h
  refine ⟨ds[i], List.getElem?_eq_getElem hi, h1, fun m z' hm hz => ?_⟩
  obtain ⟨hm2, e⟩ := List.getElem?_eq_some_iff.mp hz
  have := h2 m hm
  subst e
  simpa using this
def dIdx (j : Nat) (d : DT) : DT := fun ρ Q => lsD ρ j fun _ => d ρ fun c ρ1 => asD (dat ρ1 c) fun x => lsD ρ1 j fun ds => (SeqAt.shaped (.list ds) = true ∧ SeqAt.shaped x = true) ∧ match idxD ds x with
  | some i => Q (.t (.d (.int (i : Nat)))) ρ1
  | none => False
theorem de_index (j : Nat) (hu : X.A.units + 65 < cLine) (h : DE X g e te d) (hN : X.N[j]? = some x := by rfl) (hv : Vis X.env.scope x := by first | exact Or.inl rfl | exact Or.inr (Or.inl rfl) | exact Or.inr (Or.inr rfl))
    (hd : (x == ("__debug__" : Str)) = false := by decide) (hcd : (x == ("__classdict__" : Str)) = false := by decide)
    (hbase : attributeBase (.Name x np) "index" X.env (eval (.Name x np) X.env) = eval (.Name x np) X.env := by rfl)
    (hfew : ((backTo cpos (starEach (e :: []) X.env)).all (fun x => !x.1) && (backToKw cpos (keywordEach [] X.env)).all (fun x => x.1.isSome)
      && decide ((e :: []).length + ([] : List Keyword).length + (if ([] : List Keyword).isEmpty then 0 else 1) < 30)) = true := by rfl)
    (hline : (apos.endLine == cpos.line) = true := by rfl) (hs : starEach (e :: []) X.env = (false, eval e X.env) :: starEach [] X.env := by rfl) (hplain : (backTo cpos (starEach [] X.env)).any (·.1) = false := by rfl) :
    DE X g (.Call (.Attribute (.Name x np) "index" apos) [e] [] cpos) (tBM X.K "list" (rIndexD X.K) (tVar j) (tCons te tNil)) (dIdx j d) :=
  ⟨pe_bm PySem.F.plainAttrs_list PySem.F.slot_list_index PySem.F.type_list_index (mt_indexD hu) (vis_or j hN hv hd hcd) (pa_cons h.pe pa_nil hs) hbase hfew hline hs hplain, fun B ρ σ τs H Q Q' b s k h' => by
    obtain ⟨t0, ds0, e0, e0', h'⟩ := lsD_iff h'
    obtain ⟨v0, z1, z2⟩ := s.slot e0
    rw [e0'] at z2
    obtain ⟨a, vs, rfl, z3, z4⟩ := z2.listV
    refine ⟨.ref a, z1, .inl ⟨rfl, _, z3⟩, h.dt B ρ σ τs H _ _ b s (fun c ρ1 y H1 s1 b1 q1 => ?_) h'⟩
    obtain ⟨x', ex, q2⟩ := asD_iff q1
    obtain ⟨t, ds, e1, e1', ⟨g1, g2⟩, q3⟩ := lsD_iff q2
    obtain ⟨v1, y1, y2⟩ := s1.slot e1
    rw [z1] at y1
    cases y1
    rw [e1'] at y2
    split at q3
    · rename_i i hi
      obtain ⟨z, u1, u2, u3⟩ := idxD_get hi
      exact ⟨a, y, x', ds, i, z, rfl, rfl, y2.dp (SeqAt.canLay_of_shaped g1), (s1.rp ex).dp (SeqAt.canLay_of_shaped g2), g1, g2, u1, u2, u3, k _ _ _ _ (s1.pop.push fun G _ _ => .int _) b.untail q3⟩
    · exact q3.elim⟩
end
end Dl
set_option Elab.async false
set_option linter.all false
set_option maxRecDepth 100000
set_option maxHeartbeats 4000000
/-! Dl: x.update(d), {k: v}, x.extend(e). -/
namespace Dl
open PySem L2
def rUpd : V → List V → Hp → VK → Prop := fun x vs H Q => ∃ (a b : Addr) (kvs more : List (Key × V)), x = .ref a ∧ vs = [.ref b] ∧ a ≠ b ∧ H a = some (.dK kvs) ∧ H b = some (.dK more) ∧ kvs.length + more.length ≤ sizeLine ∧ Q .non (upd H a (.dK (mergeK kvs more)))
theorem mt_update {X : Cx} : MtR X "dict.update" rUpd := by
  intro pins s σ H x xs v us Q I rx rxs h
  obtain ⟨a, b, kvs, more, rfl, rfl, ne, ha, hb, hz, q⟩ := h
  cases rx
  rw [Vals.ref1 rxs]
  obtain ⟨z1, y1, vs1, r1, d1⟩ := dk_of I.hok ha
  obtain ⟨z2, y2, vs2, r2, d2⟩ := dk_of I.hok hb
  have l1 := r1.length
  have l2 := r2.length
  refine call_meetsIn PySem.F.slot_dict_update d1.typeIs PySem.F.entry_dict_update (PySem.F.args_dict_update_2 _ _) (meets_dict_update (mixKind X.prog X.w) a b ne y2) ⟨vs1, vs2, d1, d2, by omega, fun h' hd' ho' hs' => ?_⟩
  have hl : (mergeK kvs more).length ≤ sizeLine := Nat.le_trans (length_mergeK more kvs) hz
  have he : ∃ q, h'.get? a = some q := let ⟨q, _, _, hq, _⟩ := hd'; ⟨q, hq⟩
  exact ⟨.non, _, d_write I (by rw [ha]; exact True.intro) hs' he (dk_new hl y1 (r2.merge r1) hd'), rfl, q⟩
section
variable {K : PySem.W.Frag} {G H : Hp} {B : Base} {ρ : Rho} {σ : L2.St} {τs : List (V × C)} {fs ft : List Addr}
theorem SI.updD {j : Nat} {xs more : List (Key × PyData)} {y : V} (s : SI K B ρ σ ((y, .t (.dk more)) :: τs) H) (e : ρ[j]? = some (some (.dk xs))) :
    ∃ p b kvs mv, σ[j]? = some (some (.ref p)) ∧ y = .ref b ∧ p ≠ b ∧ H p = some (.dK kvs) ∧ H b = some (.dK mv) ∧ kvs.length = xs.length ∧ mv.length = more.length ∧ SI K B (ρ.set j (some (.dk (mergeD xs more)))) σ τs (upd H p (.dK (mergeK kvs mv))) := by
  obtain ⟨G, fs, ft, c⟩ := s
  obtain ⟨v', f, fr, h1, h2, h3, h4, h5⟩ := c.slots.at_ e
  cases h2 with
  | dk hp q o =>
  rename_i p kvs
  cases c with
  | mk g0 gh h0 tup new slots temps nd own pin =>
  cases temps with
  | t ov r =>
  rename_i fv ft
  cases ov with
  | dk hb q2 o2 =>
  rename_i b mv
  have kr := kr_of q o
  have kr2 := kr_of q2 o2
  have ndp : (([p] ++ fr) ++ ([b] ++ ft)).Nodup := (List.Perm.append_right _ h3).nodup_iff.mp (show (fs ++ ([b] ++ ft)).Nodup from nd)
  have ownp : ∀ a ∈ ([p] ++ fr) ++ ([b] ++ ft), G a = none ∧ B.H0 a = none := fun a h => own a ((List.Perm.append_right _ h3).mem_iff.mpr h)
  have n2 : (p :: (fr ++ (b :: ft))).Nodup := by simpa using ndp
  have pp : ∀ a ∈ fr ++ (b :: ft), a ≠ p := fun a h z => by
    subst z
    exact (List.nodup_cons.mp n2).1 h
  have kp : ∀ a, a ≠ p → upd H p (HO.dK (mergeK kvs mv)) a = H a := fun a h => upd_ne h
  have kr3 := kr2.merge kr
  obtain ⟨fp', w1, w2⟩ := h4 (G' := G) (H' := upd H p (HO.dK (mergeK kvs mv))) (v' := .ref p) (t' := .dk (mergeD xs more)) (Er.refl G) (fun a h => kp a (pp a (List.mem_append_left _ h)))
    (.dk upd_same kr3.keys kr3.rpl)
  rw [set_same h1] at w1
  have hin := ownp p (by simp)
  have nd3 : (([p] ++ fr) ++ ft).Nodup := by
    refine ndp.sublist (List.Sublist.append_left ?_ _)
    exact List.sublist_cons_self b ft
  refine ⟨p, b, kvs, mv, h1, rfl, fun z => pp b (List.mem_append_right _ List.mem_cons_self) z.symm, hp, hb, kr.len, kr2.len, G, fp', ft, g0, ex_upd gh hin.1, ex_upd h0 hin.2, fun a o ho e => ?_, new, w1, r.mono (Er.refl G) fun a h => kp a (pp a (List.mem_append_right _ (List.mem_cons_of_mem _ h))), ?_, fun a h => ?_, pin⟩
  · by_cases ha : a = p
    · subst ha
      rw [upd_same] at e
      cases e
      cases ho
    · rw [upd_ne ha] at e
      exact tup a o ho e
  · exact (List.Perm.append_right _ w2).nodup_iff.mpr nd3
  · refine ownp a ?_
    have := (List.Perm.append_right _ w2).mem_iff.mp h
    rcases List.mem_append.mp this with q | q
    · exact List.mem_append_left _ q
    · exact List.mem_append_right _ (List.mem_append_right _ q)
/-- a dict just made takes one more -/
theorem SI.putT {p : Addr} {xs : List (Key × PyData)} {v : V} {d : PyData} (k : Key) (s : SI K B ρ σ ((v, .t (.d d)) :: (.ref p, .t (.dk xs)) :: τs) H) :
    ∃ kvs, H p = some (.dK kvs) ∧ kvs.length = xs.length ∧ (xs = [] → kvs = []) ∧ SI K B ρ σ ((.ref p, .t (.dk (Dl.putD xs k d))) :: τs) (upd H p (.dK (putK kvs k v))) := by
  obtain ⟨G, fs, ft, c⟩ := s
  cases c with
  | mk g0 gh h0 tup new slots temps nd own pin =>
  cases temps with
  | t ov r =>
  cases ov with
  | d rv =>
  cases r with
  | t od r2 =>
  rename_i fd ft
  cases od with
  | dk hp q o =>
  rename_i kvs
  have kr := kr_of q o
  have kr2 := kr.put k rv
  have pm : List.Perm (fs ++ ([p] ++ ft)) (p :: (fs ++ ft)) := List.perm_middle
  have nd0 : (fs ++ ([p] ++ ft)).Nodup := nd
  have nd1 := pm.nodup_iff.mp nd0
  have pp : ∀ a ∈ fs ++ ft, a ≠ p := fun a h z => by
    subst z
    exact (List.nodup_cons.mp nd1).1 h
  have kp : ∀ a, a ≠ p → upd H p (HO.dK (putK kvs k v)) a = H a := fun a h => upd_ne h
  have hin := own p (List.mem_append_right _ (List.mem_append_right _ (List.mem_append_left _ List.mem_cons_self)))
  refine ⟨kvs, hp, kr.len, fun z => ?_, G, fs, [p] ++ ft, g0, ex_upd gh hin.1, ex_upd h0 hin.2, fun a o ho e => ?_, new, slots.mono (Er.refl G) fun a h => kp a (pp a (List.mem_append_left _ h)),
    .t (.dk upd_same kr2.keys kr2.rpl) (r2.mono (Er.refl G) fun a h => kp a (pp a (List.mem_append_right _ h))), nd0, own, pin⟩
  · subst z
    cases kr
    rfl
  · by_cases ha : a = p
    · subst ha
      rw [upd_same] at e
      cases e
      cases ho
    · rw [upd_ne ha] at e
      exact tup a o ho e
end
section
variable {X : Cx} {g : Gm} {e e2 : Expr} {te te2 : TE} {d d2 : DT} {pos : Pos} {x : Str} {np apos cpos : Pos}
def dkT (c : C) (k : List (Key × PyData) → Prop) : Prop := match c with
  | .t (.dk xs) => k xs
  | _ => False
theorem dkT_iff {c : C} {k : List (Key × PyData) → Prop} (h : dkT c k) : ∃ xs, c = .t (.dk xs) ∧ k xs := by
  unfold dkT at h
  split at h
  · exact ⟨_, rfl, h⟩
  · exact h.elim
def dUpd (j : Nat) (d : DT) : DT := fun ρ Q => atDk ρ j fun _ => d ρ fun c ρ1 => dkT c fun more => atDk ρ1 j fun xs => xs.length + more.length ≤ 16777216 ∧ Q (.t (.d .none)) (ρ1.set j (some (.dk (mergeD xs more))))
theorem de_update (j : Nat) (h : DE X g e te d) (hN : X.N[j]? = some x := by rfl) (hv : Vis X.env.scope x := by first | exact Or.inl rfl | exact Or.inr (Or.inl rfl) | exact Or.inr (Or.inr rfl))
    (hd : (x == ("__debug__" : Str)) = false := by decide) (hcd : (x == ("__classdict__" : Str)) = false := by decide)
    (hbase : attributeBase (.Name x np) "update" X.env (eval (.Name x np) X.env) = eval (.Name x np) X.env := by rfl)
    (hfew : ((backTo cpos (starEach (e :: []) X.env)).all (fun x => !x.1) && (backToKw cpos (keywordEach [] X.env)).all (fun x => x.1.isSome)
      && decide ((e :: []).length + ([] : List Keyword).length + (if ([] : List Keyword).isEmpty then 0 else 1) < 30)) = true := by rfl)
    (hline : (apos.endLine == cpos.line) = true := by rfl) (hs : starEach (e :: []) X.env = (false, eval e X.env) :: starEach [] X.env := by rfl) (hplain : (backTo cpos (starEach [] X.env)).any (·.1) = false := by rfl) :
    DE X g (.Call (.Attribute (.Name x np) "update" apos) [e] [] cpos) (tBM X.K "dict" rUpd (tVar j) (tCons te tNil)) (dUpd j d) :=
  ⟨pe_bm PySem.F.plainAttrs_dict PySem.F.slot_dict_update PySem.F.type_dict_update mt_update (vis_or j hN hv hd hcd) (pa_cons h.pe pa_nil hs) hbase hfew hline hs hplain, fun B ρ σ τs H Q Q' b s k h' => by
    obtain ⟨xs0, e0, h'⟩ := atDk_iff h'
    obtain ⟨p, kvs0, z1, z2, _⟩ := s.dkAt e0
    refine ⟨.ref p, z1, .inr (.inr (.inl ⟨rfl, .inl ⟨_, z2⟩⟩)), h.dt B ρ σ τs H _ _ b s (fun c ρ1 y H1 s1 b1 q1 => ?_) h'⟩
    obtain ⟨more, rfl, q2⟩ := dkT_iff q1
    obtain ⟨xs, e1, hz, q3⟩ := atDk_iff q2
    obtain ⟨p', bb, kvs, mv, w1, w2, w3, w4, w5, w6, w7, w8⟩ := s1.updD e1
    rw [z1] at w1
    cases w1
    refine ⟨p, bb, kvs, mv, rfl, by rw [w2], w3, w4, w5, by rw [w6, w7]; exact lim_le hz, ?_⟩
    exact k _ _ _ _ (SI.push w8 fun G _ _ => .non) b.untail q3⟩
/-- {e: e2} -/
def dDisp1 (d d2 : DT) : DT := fun ρ Q => d ρ fun c ρ1 => keyD (dat ρ1 c) fun k => d2 ρ1 fun c2 ρ2 => own ρ2 c2 fun t ρ3 => Q (.t (.dk [(k, t.data)])) ρ3
theorem de_disp1 (h : DE X g e te d) (h2 : DE X g e2 te2 d2) : DE X g (.Dict [some e] [e2] pos) (tDisp [(te, te2)]) (dDisp1 d d2) :=
  ⟨pe_disp (pps_cons h.pe h2.pe pps_nil) (by rfl) (by rfl) (fun z => by cases z) (show 1 ≤ 15 by decide), fun B ρ σ τs H Q Q' b s k h' p hp => by
    have s0 : SI X.K B ρ σ ((.ref p, .t (.dk [])) :: τs) (upd H p (.dK [])) := by
      obtain ⟨G, fs, ft, c⟩ := s
      exact c.newDk .nil hp
    refine h.dt B ρ σ _ _ _ _ b.untail s0 (fun c ρ1 y H1 s1 b1 q1 => ?_) h'
    obtain ⟨kk, ek, q2⟩ := keyD_iff q1
    have ry := (s1.rp ek).keyV
    refine h2.dt B ρ1 σ _ H1 _ _ b.untail s1.pop (fun c2 ρ2 y2 H2 s2 b2 q2 => ?_) q2
    obtain ⟨t, ρ3, q3, s3⟩ := s2.own q2
    obtain ⟨kvs, w1, w2, w3, w4⟩ := SI.putT kk s3.frz
    have hk := w3 rfl
    subst hk
    subst ry
    refine ⟨w1, [(kk, y2)], rfl, show 1 ≤ 15 by decide, ?_⟩
    exact k _ _ _ _ w4 b.untail q3⟩
/-- x.extend(e), e a list just made of known things -/
def dExt (j : Nat) (d : DT) : DT := fun ρ Q => atLs ρ j fun _ => d ρ fun c ρ1 => match c with
  | .t (.ls us) => match leaves us with
    | some ds => atLs ρ1 j fun ts => ts.length + ds.length ≤ 16777216 ∧ Q (.t (.d .none)) (ρ1.set j (some (.ls (ts ++ ds.map T.d))))
    | none => False
  | _ => False
theorem de_extend (j : Nat) (h : DE X g e te d) (hN : X.N[j]? = some x := by rfl) (hv : Vis X.env.scope x := by first | exact Or.inl rfl | exact Or.inr (Or.inl rfl) | exact Or.inr (Or.inr rfl))
    (hd : (x == ("__debug__" : Str)) = false := by decide) (hcd : (x == ("__classdict__" : Str)) = false := by decide)
    (hbase : attributeBase (.Name x np) "extend" X.env (eval (.Name x np) X.env) = eval (.Name x np) X.env := by rfl)
    (hfew : ((backTo cpos (starEach (e :: []) X.env)).all (fun x => !x.1) && (backToKw cpos (keywordEach [] X.env)).all (fun x => x.1.isSome)
      && decide ((e :: []).length + ([] : List Keyword).length + (if ([] : List Keyword).isEmpty then 0 else 1) < 30)) = true := by rfl)
    (hline : (apos.endLine == cpos.line) = true := by rfl) (hs : starEach (e :: []) X.env = (false, eval e X.env) :: starEach [] X.env := by rfl) (hplain : (backTo cpos (starEach [] X.env)).any (·.1) = false := by rfl) :
    DE X g (.Call (.Attribute (.Name x np) "extend" apos) [e] [] cpos) (tBM X.K "list" rExtend (tVar j) (tCons te tNil)) (dExt j d) :=
  ⟨pe_bm PySem.F.plainAttrs_list PySem.F.slot_list_extend PySem.F.type_list_extend mt_extend (vis_or j hN hv hd hcd) (pa_cons h.pe pa_nil hs) hbase hfew hline hs hplain, fun B ρ σ τs H Q Q' b s k h' => by
    obtain ⟨ts0, e0, h'⟩ := atLs_iff h'
    obtain ⟨p, vs0, z1, z2, _⟩ := s.ls e0
    refine ⟨.ref p, z1, tyL z2, h.dt B ρ σ τs H _ _ b s (fun c ρ1 y H1 s1 b1 q1 => ?_) h'⟩
    split at q1
    · rename_i us
      split at q1
      · rename_i ds eds
        have eus := leaves_eq eds
        subst eus
        obtain ⟨ts, e1, hz, q3⟩ := atLs_iff q1
        obtain ⟨a, vs, rfl, w1, w2, w3, w4, w5⟩ := s1.itms (t := .ls (ds.map T.d)) (ds := ds) rfl (itms_flat eds)
        have s2 := w5 vs ds fun G r => r
        have hb := w4 _ rfl
        obtain ⟨p', L, M, x1, x2, x3, x4, x5, x6⟩ := SI.write (vs := vs) (xs := ds.map T.d) s2 (by rw [List.length_map]; exact w3.len) e1
        rw [z1] at x1
        cases x1
        have s3 := x6 (L ++ M) [] (L ++ M) (by rw [List.append_nil]) (List.Sublist.refl _)
        rw [List.map_append, List.map_append, ← x3, ← x4, ← x5] at s3
        have hl1 : (L.map (·.1)).length = ts.length := by rw [x3, List.length_map, List.length_map]
        refine ⟨p, a, _, vs, rfl, rfl, x2, hb, by rw [hl1, w3.len]; exact lim_le hz, ?_⟩
        exact k _ _ _ _ (SI.push s3 fun G _ _ => .non) b.untail q3
      · exact q1.elim
    · exact q1.elim⟩
end
end Dl
set_option Elab.async false
set_option linter.all false
set_option maxRecDepth 100000
set_option maxHeartbeats 4000000
/-! Dl: calls whose answer may hold lists that stay: what is handed is known data, and so is all that the callee knew. -/
namespace Dl
open PySem L2
section
variable {K : PySem.W.Frag} {B : Base} {ρ : Rho} {σ : L2.St} {τs rest : List (V × C)} {H : Hp}
theorem SI.callF {vI : List V} {tI : List T} (s : SI K B ρ σ (tmp vI tI ++ rest) H) (hl : vI.length = tI.length) :
    ∃ (G : Hp) (f : List Addr), (∀ u x, (u, C.t (.d x)) ∈ rest → Rp K G u x) ∧ OwnL K G H vI tI f ∧ f.Nodup ∧ (∀ a o, tl o = true → H a = some o → G a = some o) ∧ Ex G (hrem H f) ∧ (∀ a ∈ f, G a = none) ∧
      ∀ (H' Gc : Hp) (vr : V) (τ : T) (outs : List T) (fo fr : List Addr), Ex (hrem H f) H' → Ex G Gc → Ex Gc H' → (∀ a o, tl o = true → H' a = some o → Gc a = some o) → (∀ a, G a = none → hrem H f a ≠ none → Gc a = none) →
        OwnL K Gc H' vI outs fo → Own K Gc H' vr τ fr → (fo ++ fr).Nodup → (∀ a ∈ fo ++ fr, Gc a = none ∧ hrem H f a = none) → SI K B ρ σ ((vr, .t τ) :: (tmp vI outs ++ rest)) H' := by
  obtain ⟨G, fs, ft, c⟩ := s
  obtain ⟨f, fq, k1, k2, rfl⟩ := c.temps.split hl
  have nd := List.nodup_append.mp c.nd
  have nd2 := List.nodup_append.mp nd.2.1
  have hf : ∀ a ∈ f, a ∈ fs ++ (f ++ fq) := fun a h => List.mem_append_right _ (List.mem_append_left _ h)
  have dS : ∀ a ∈ fs, ¬ a ∈ f := fun a h q => nd.2.2 a h a (List.mem_append_left _ q) rfl
  have dQ : ∀ a ∈ fq, ¬ a ∈ f := fun a h q => nd2.2.2 a q a h rfl
  have gR : Ex G (hrem H f) := fun a o e => by
    rw [hrem_out fun ha => by
      rw [(c.own a (hf a ha)).1] at e
      cases e]
    exact c.gh a o e
  have hR : Ex B.H0 (hrem H f) := fun a o e => by
    rw [hrem_out fun ha => by
      rw [(c.own a (hf a ha)).2] at e
      cases e]
    exact c.h0 a o e
  refine ⟨G, f, fun u x hm => ?_, k1, nd2.1, c.tup, gR, fun a ha => (c.own a (hf a ha)).1, fun H' Gc vr τ outs fo fr e1 e2 e3 t1 n1 o1 o2 ndo no => ?_⟩
  · rcases k2.mem hm with ⟨y, g, e, o, hg⟩ | ⟨j, e, hj⟩
    · cases e
      cases o with
      | d r => exact r
    · cases e
  · have kH : ∀ a, ¬ a ∈ f → ∀ o, H a = some o → H' a = some o := fun a ha o e => e1 a o (by
      rw [hrem_out ha]
      exact e)
    have there : ∀ a ∈ fs ++ fq, ∃ o, H a = some o ∧ tl o = false ∧ ¬ a ∈ f := fun a h => by
      obtain ⟨o, q1, q2⟩ := c.there a (by
        rcases List.mem_append.mp h with h | h
        · exact List.mem_append_left _ h
        · exact List.mem_append_right _ (List.mem_append_right _ h))
      refine ⟨o, q1, q2, ?_⟩
      rcases List.mem_append.mp h with h | h
      · exact dS a h
      · exact dQ a h
    have kk : ∀ a ∈ fs ++ fq, H' a = H a := fun a h => by
      obtain ⟨o, q1, _, q3⟩ := there a h
      rw [q1, kH a q3 o q1]
    have apart : ∀ a ∈ fo ++ fr, ¬ a ∈ fs ++ fq := fun a h q => by
      obtain ⟨o, q1, _, q3⟩ := there a q
      have z := (no a h).2
      rw [hrem_out q3, q1] at z
      cases z
    refine ⟨Gc, fs, fr ++ (fo ++ fq), c.g0.trans e2, e3, hR.trans e1, t1, fun a h1 h2 => ?_, c.slots.mono e2.er fun a h => kk a (List.mem_append_left _ h),
      .t o2 (OwnC.join o1 (k2.mono e2.er fun a h => kk a (List.mem_append_right _ h))), ?_, fun a h => ?_, c.pin⟩
    · refine n1 a (c.new a h1 h2) ?_
      cases q : B.H0 a with
      | none => exact absurd q h2
      | some o =>
        rw [hR a o q]
        exact fun z => by cases z
    · have ndQ : (fs ++ fq).Nodup := by
        refine c.nd.sublist ?_
        exact List.Sublist.append_left (List.sublist_append_right _ _) _
      have big : ((fo ++ fr) ++ (fs ++ fq)).Nodup := List.nodup_append.mpr ⟨ndo, ndQ, fun a h b q e => apart a h (by
        subst e
        exact q)⟩
      refine List.Perm.nodup_iff (l₂ := (fo ++ fr) ++ (fs ++ fq)) ?_ |>.mpr big
      have p1 : List.Perm (fr ++ (fo ++ fq)) ((fo ++ fr) ++ fq) := by
        rw [← List.append_assoc]
        exact List.Perm.append_right fq List.perm_append_comm
      refine (List.Perm.append_left fs p1).trans ?_
      rw [show (fo ++ fr) ++ (fs ++ fq) = ((fo ++ fr) ++ fs) ++ fq from (List.append_assoc _ _ _).symm, show fs ++ ((fo ++ fr) ++ fq) = (fs ++ (fo ++ fr)) ++ fq from (List.append_assoc _ _ _).symm]
      exact List.Perm.append_right fq List.perm_append_comm
    · have cases3 : a ∈ fs ++ fq ∨ a ∈ fo ++ fr := by
        rcases List.mem_append.mp h with h | h
        · exact .inl (List.mem_append_left _ h)
        · rcases List.mem_append.mp h with h | h
          · exact .inr (List.mem_append_right _ h)
          · rcases List.mem_append.mp h with h | h
            · exact .inr (List.mem_append_left _ h)
            · exact .inl (List.mem_append_right _ h)
      rcases cases3 with q | q
      · have q' : a ∈ fs ++ (f ++ fq) := by
          rcases List.mem_append.mp q with q | q
          · exact List.mem_append_left _ q
          · exact List.mem_append_right _ (List.mem_append_right _ q)
        obtain ⟨o, w1, w2, w3⟩ := there a q
        refine ⟨n1 a (c.own a q').1 ?_, (c.own a q').2⟩
        rw [hrem_out w3, w1]
        exact fun z => by cases z
      · refine ⟨(no a q).1, ?_⟩
        cases e : B.H0 a with
        | none => rfl
        | some o =>
          have z := (no a q).2
          rw [hR a o e] at z
          cases z
end
def insF : List Bool → List C → List T → Option Rho
  | [], [], [] => some []
  | false :: ms, .t (.d x) :: cs, ts => (insF ms cs ts).map (some (.d x) :: ·)
  | true :: ms, _ :: cs, t :: ts => (insF ms cs ts).map (some t :: ·)
  | _, _, _ => none
theorem insF_own {K : PySem.W.Frag} {G H : Hp} : ∀ {ms : List Bool} {vs : List V} {cs : List C} {ts : List T} {ρ0 : Rho} {f : List Addr}, vs.length = cs.length → insF ms cs ts = some ρ0 → OwnL K G H (pick ms vs) ts f → (∀ u x, (u, C.t (.d x)) ∈ (pickN ms vs).zip (pickN ms cs) → Rp K G u x) → OwnS K G H (vs.map some) ρ0 f
  | [], [], [], [], ρ0, f, _, e, o, _ => by
    simp only [insF, Option.some.injEq] at e
    subst e
    cases o
    exact .nil
  | [], _ :: _, [], _, _, _, h, _, _, _ => by simp at h
  | [], _, _ :: _, _, _, _, _, e, _, _ => by simp [insF] at e
  | [], [], [], _ :: _, _, _, _, e, _, _ => by simp [insF] at e
  | true :: _, _, [], _, _, _, _, e, _, _ => by simp [insF] at e
  | false :: _, _, [], _, _, _, _, e, _, _ => by simp [insF] at e
  | _ :: _, [], _ :: _, _, _, _, h, _, _, _ => by simp at h
  | true :: _, _ :: _, _ :: _, [], _, _, _, e, _, _ => by simp [insF] at e
  | true :: ms, v :: vs, c :: cs, t :: ts, ρ0, f, h, e, o, q => by
    rw [insF] at e
    cases e1 : insF ms cs ts with
    | none => simp [e1] at e
    | some r =>
      rw [e1] at e
      simp only [Option.map_some, Option.some.injEq] at e
      subst e
      have o' : OwnL K G H (v :: pick ms vs) (t :: ts) f := o
      cases o' with
      | cons a b => exact .som a (insF_own (by simpa using h) e1 b q)
  | false :: ms, v :: vs, .t (.d x) :: cs, ts, ρ0, f, h, e, o, q => by
    rw [insF] at e
    cases e1 : insF ms cs ts with
    | none => simp [e1] at e
    | some r =>
      rw [e1] at e
      simp only [Option.map_some, Option.some.injEq] at e
      subst e
      have q0 : Rp K G v x := q v x List.mem_cons_self
      exact .som (fp := []) (.d q0) (insF_own (f := f) (by simpa using h) e1 o fun u x' m => q u x' (List.mem_cons_of_mem _ m))
  | false :: ms, v :: vs, .al _ :: cs, ts, ρ0, f, h, e, o, q => by simp [insF] at e
  | false :: ms, v :: vs, .t (.ls _) :: cs, ts, ρ0, f, h, e, o, q => by simp [insF] at e
  | false :: ms, v :: vs, .t (.tu _) :: cs, ts, ρ0, f, h, e, o, q => by simp [insF] at e
  | false :: ms, v :: vs, .t (.dk _) :: cs, ts, ρ0, f, h, e, o, q => by simp [insF] at e
  | false :: ms, v :: vs, .t (.dt _) :: cs, ts, ρ0, f, h, e, o, q => by simp [insF] at e
def callF (ms : List Bool) (wp : WP) (EX : Str → Rho → Prop) (ρ1 : Rho) (cs : List C) (k : T → Rho → Prop) : Prop := match takes ms ρ1 cs with
  | none => False
  | some (ρ2, ts) => match insF ms cs ts with
    | none => False
    | some ρ0 => wp ρ0 (fun t ρo => match outsOf ms ρo with
        | some outs => gives ms ρ2 cs outs (k t)
        | none => False) (fun x ρo => match outsOf ms ρo with
        | some outs => gives ms ρ2 cs outs (EX x)
        | none => False)
theorem SI.calledF {K : PySem.W.Frag} {mg : Str → Option Value} {B : Base} {ρ : Rho} {σ : L2.St} {τs : List (V × C)} {H : Hp} {ms : List Bool} {wp : WP} {EX : Str → Rho → Prop} {vs : List V} {cs : List C} {k : T → Rho → Prop} {Q : VK} {E : XK}
    (s : SI K B ρ σ (vs.zip cs ++ τs) H) (hl : vs.length = cs.length) (h : Dl.callF ms wp EX ρ cs k) (hQ : ∀ t ρ' v H', SI K B ρ' σ ((v, .t t) :: τs) H' → k t ρ' → Q v H')
    (hE : ∀ x ρ' C H', mg x = some (.ref C) → SI K B ρ' σ τs H' → EX x ρ' → E (.ref C) none H') : spD K mg ms wp vs H Q E := by
  unfold Dl.callF at h
  have al : ∀ v j, (v, C.al j) ∈ vs.zip cs → σ[j]? = some (some v) := fun v j m => s.alv (List.mem_append_left _ m)
  split at h
  · exact h.elim
  · rename_i ρ2 ts e1
    split at h
    · exact h.elim
    · rename_i ρ0 e2
      obtain ⟨s2, l2, l3⟩ := s.takes hl e1
      have lt := takes_len e1
      have pm := retag_perm (ms := ms) (vs := vs) (cs := cs) (ts := ts) hl l3 lt
      have lp : (pick ms vs).length = ts.length := by rw [lt, pick_len ms vs (by omega), pick_len ms cs (by omega)]
      have s3 : SI K B ρ2 σ (tmp (pick ms vs) ts ++ ((pickN ms vs).zip (pickN ms cs) ++ τs)) H := by
        rw [← List.append_assoc]
        exact s2.perm (List.Perm.append_right τs pm)
      obtain ⟨G, f, c1, c2, c3, c4, c6, c7, c5⟩ := s3.callF lp
      have o0 : OwnS K G H (vs.map some) ρ0 f := insF_own (f := f) hl e2 c2 fun u x m => c1 u x (List.mem_append_left _ m)
      have s0 : SI K ⟨G, hrem H f, pinsOf ms vs⟩ ρ0 (vs.map some) [] H := by
        refine ⟨G, f, [], Ex.refl _, c6.trans hrem_le, hrem_le, c4, fun a q _ => q, o0, .nil, by rw [List.append_nil]; exact c3, fun a m => ?_, fun p hp => ?_⟩
        · rw [List.append_nil] at m
          exact ⟨c7 a m, hrem_in m⟩
        · obtain ⟨i, v⟩ := p
          obtain ⟨q1, q2⟩ := mem_pinsOf.mp hp
          show (vs.map some)[i]? = some (some v)
          rw [List.getElem?_map, q2]
          rfl
      have back : ∀ {t : T} {v : V} {outs : List T} {H' : Hp} {fo fr : List Addr} {Gc : Hp} {k' : Rho → Prop}, Ex (hrem H f) H' → Ex G Gc → Ex Gc H' → (∀ a o, tl o = true → H' a = some o → Gc a = some o) → (∀ a, G a = none → hrem H f a ≠ none → Gc a = none) → OwnL K Gc H' (pick ms vs) outs fo → Own K Gc H' v t fr → (fo ++ fr).Nodup → (∀ a ∈ fo ++ fr, Gc a = none ∧ hrem H f a = none) → outs.length = ts.length →
          Dl.gives ms ρ2 cs outs k' → ∃ ρ', k' ρ' ∧ SI K B ρ' σ ((v, .t t) :: τs) H' := by
        intro t v outs H' fo fr Gc k' x1 x2 x3 x4 x5 y1 y2 x7 x8 x9 x10
        have s4 := c5 H' Gc v t outs fo fr x1 x2 x3 x4 x5 y1 y2 x7 x8
        have pm2 := retag_perm (ms := ms) (vs := vs) (cs := cs) (ts := outs) hl l3 (x9.trans lt)
        have s5 : SI K B ρ2 σ (vs.zip (retag ms cs outs) ++ ((v, .t t) :: τs)) H' := by
          refine s4.perm ?_
          refine List.Perm.trans (List.Perm.cons _ ?_) List.perm_middle.symm
          rw [← List.append_assoc]
          exact List.Perm.append_right τs pm2.symm
        exact s5.gives hl al x10
      refine ⟨by omega, _, ρ0, s0, fun p hp => ?_, fun i v h1 h2 => mem_pinsOf.mpr ⟨h1, h2⟩, _, _, h, fun t ρ1 v H' q s' => ?_, fun x ρ1 C H' q hm s' => ?_⟩
      · obtain ⟨i, v⟩ := p
        exact (mem_pinsOf.mp hp).1
      · split at q
        · rename_i outs eo
          obtain ⟨Gc, fs, ft, d⟩ := s'
          cases d with
          | mk g0 gh h0 tup new slots temps nd own pin =>
          cases temps with
          | t o r =>
          cases r with
          | nil =>
          rename_i fr
          obtain ⟨fo, w1, w2⟩ := outs_own slots eo
          have sb : List.Sublist (fo ++ fr) (fs ++ (fr ++ [])) := by
            rw [List.append_nil]
            exact List.Sublist.append_right w2 _
          obtain ⟨ρ', z1, z2⟩ := back h0 g0 gh tup new w1 o (nd.sublist sb) (fun a m => own a (sb.subset m)) (by rw [← w1.len, lp]) q
          exact hQ t ρ' v H' z2 z1
        · exact q.elim
      · split at q
        · rename_i outs eo
          obtain ⟨Gc, fs, ft, d⟩ := s'
          cases d with
          | mk g0 gh h0 tup new slots temps nd own pin =>
          cases temps with
          | nil =>
          obtain ⟨fo, w1, w2⟩ := outs_own slots eo
          have sb : List.Sublist (fo ++ []) (fs ++ []) := List.Sublist.append_right w2 _
          obtain ⟨ρ', z1, z2⟩ := back (t := .d .none) (v := .non) h0 g0 gh tup new w1 (.d .non) (nd.sublist sb) (fun a m => own a (sb.subset m)) (by rw [← w1.len, lp]) q
          exact hE x ρ' C H' hm z2.pop z1
        · exact q.elim
section
variable {X : Cx} {g : Gm} {k : Nat} {ps : List Str} {ms : List Bool} {wp : WP} {x : Str} {p pos : Pos} {e : Expr} {es : List Expr} {t : TA} {da : DTA} {te : TE} {d : DT}
def dFz (d : DT) : DT := fun ρ Q => d ρ fun c ρ1 => frz ρ1 c fun x ρ2 => Q (.t (.d x)) ρ2
theorem de_fz (h : DE X g e te d) : DE X g e te (dFz d) := ⟨h.pe, fun B ρ σ τs H Q Q' b s k h' => by
  refine h.dt B ρ σ τs H _ _ b s (fun c ρ1 v H1 s1 b1 q1 => ?_) h'
  obtain ⟨x, ρ2, q2, s2⟩ := s1.frzd q1
  exact k _ _ _ _ s2 b.untail q2⟩
def dCallF (ms : List Bool) (wp : WP) (EX : Str → Rho → Prop) (da : DTA) : DT := fun ρ Q => da ρ fun cs ρ1 => Dl.callF ms wp EX ρ1 cs fun t ρ2 => Q (.t t) ρ2
theorem de_callF (D : Def X.prog X.w X.K X.mg X.base k x ps ms wp) (hr : RoomG k X.A) (hg : Gl X x) (tk : Takes X g.w.W) (ha : DA X g (e :: es) t da) (hdb : (x == ("__debug__" : Str)) = false := by decide)
    (he : starEach (e :: es) X.env = (false, eval e X.env) :: starEach es X.env := by rfl) (hpl : (backTo pos (starEach es X.env)).any (·.1) = false := by rfl) :
    DE X g (.Call (.Name x p) (e :: es) [] pos) (tCallS (spD X.K X.mg ms wp) (WE g.w.W) t) (dCallF ms wp g.w.ex da) := by
  obtain ⟨f, fd, hm, hk, hb, F⟩ := D.ex
  refine ⟨⟨fun pins s σ H Q I h => ?_⟩, fun B ρ σ τs H Q Q' b s kk h => ?_⟩
  · refine wpAny_Call_Name_kw (ld_glob I hg hm (PySem.W.callWith_K (h₀ := X.base) I.ok.mod.kin hk ?_ he hpl) hdb)
    exact thn (ha.pa.run pos pins s σ H _ I h) fun us s1 ⟨vs, H1, I1, r, q⟩ => ⟨I1.kIn, run_fnG F hr hb (passAt tk σ) I1 r q⟩
  · refine ha.dt B ρ σ τs H _ _ b s (fun cs ρ1 vs H1 hl s1 b1 q1 => ?_) h
    exact s1.calledF hl q1 (fun t ρ' v H' s' q => kk _ _ _ _ s' b.untail q) fun x ρ' C H' hm s' q => b.wok x C ρ' σ H' [] hm s' q
end
end Dl
set_option Elab.async false
set_option linter.all false
set_option maxRecDepth 100000
set_option maxHeartbeats 4000000
/-! Dl: min(xs)[a:b], xs a list of lists of whole numbers. -/
namespace Dl
open PySem PySem.Spec PyProof.Rows L2
abbrev liD (xs : List Int) : PyData := .list (xs.map PyData.int)
theorem liD_alike (xs ys : List Int) : PySem.W.alike (liD xs) (liD ys) = true := by
  rw [PySem.W.alike]
  induction xs generalizing ys with
  | nil => rw [List.map_nil, PySem.W.alikeAll]
  | cons x xs ih =>
    cases ys with
    | nil => rw [List.map_nil, List.map_cons, PySem.W.alikeAll]
    | cons y ys =>
      rw [List.map_cons, List.map_cons, PySem.W.alikeAll, PySem.W.alike, Bool.true_and]
      exact ih ys
theorem liD_lt (xs ys : List Int) : PySem.W.dataLt (liD xs) (liD ys) = decide (xs < ys) := by
  rw [PySem.W.dataLt_list]
  exact PySem.W.dataLt_ints xs ys
theorem fold_ge (f : List Int → List Int → List Int) (hf : f = fun a y => if y < a then y else a) : ∀ (ws : List (List Int)) (w : List Int), (ws.foldl f w ≤ w) ∧ (∀ y ∈ ws, ws.foldl f w ≤ y)
  | [], w => ⟨List.le_refl w, fun y hy => by cases hy⟩
  | y :: ws, w => by
    rw [List.foldl_cons]
    obtain ⟨h1, h2⟩ := fold_ge f hf ws (f w y)
    have e1 : f w y ≤ w := by
      rw [hf]
      simp only
      split
      · rename_i q
        exact List.le_of_lt q
      · exact List.le_refl w
    have e2 : f w y ≤ y := by
      rw [hf]
      simp only
      split
      · exact List.le_refl y
      · rename_i q
        exact List.not_lt.mp q
    refine ⟨List.le_trans h1 e1, fun z hz => ?_⟩
    rcases List.mem_cons.mp hz with rfl | hz
    · exact List.le_trans h1 e2
    · exact h2 z hz
theorem fold_li (w : List Int) (ws : List (List Int)) : (ws.map liD).foldl (fun a y => if PySem.W.dataLt y a then y else a) (liD w) = liD (ws.foldl (fun a y => if y < a then y else a) w) := by
  induction ws generalizing w with
  | nil => rfl
  | cons y ws ih =>
    rw [List.map_cons, List.foldl_cons, List.foldl_cons, ← ih]
    congr 1
    rw [liD_lt]
    by_cases q : y < w
    · rw [if_pos (decide_eq_true q), if_pos q]
    · rw [if_neg (by simpa using q), if_neg q]
def rMinL (K : PySem.W.Frag) : List V → Hp → VK → Prop := fun vs H Q => ∃ (a : Addr) (xs : List V) (ws : List (List Int)), vs = [V.ref a] ∧ SqL K H a xs ∧ DpAll K H xs (ws.map liD) ∧ 0 < ws.length ∧
  ∀ (i : Nat) (x : V) (w : List Int), xs[i]? = some x → ws[i]? = some w → (∀ y ∈ ws, w ≤ y) → Q x H
theorem liD_depth (xs : List Int) : (liD xs).depth ≤ 1 := by
  have h : PyData.depthAll (xs.map PyData.int) = 0 := by
    induction xs with
    | nil => rfl
    | cons x xs ih => simp [PyData.depthAll, PyData.depth, ih]
  simp [PyData.depth, h]
theorem liD_depths (ws : List (List Int)) : PyData.depthAll (ws.map liD) ≤ 1 := by
  induction ws with
  | nil => simp [PyData.depthAll]
  | cons w ws ih =>
    have := liD_depth w
    rw [List.map_cons, PyData.depthAll]
    omega
theorem liD_inj {xs ys : List Int} (h : liD xs = liD ys) : xs = ys := by
  have h' := PyData.list.inj h
  induction xs generalizing ys with
  | nil =>
    cases ys with
    | nil => rfl
    | cons y ys => cases h'
  | cons x xs ih =>
    cases ys with
    | nil => cases h'
    | cons y ys =>
      rw [List.map_cons, List.map_cons, List.cons.injEq] at h'
      rw [PyData.int.inj h'.1, ih (congrArg PyData.list h'.2) h'.2]
section
variable {X : Cx}
theorem cr_minL (hc : X.calm = true) (hu : X.A.units + 64 < cLine) : CallR X (.builtin "min") (rMinL X.K) := by
  intro pins s σ H vs us Q I r h
  obtain ⟨a, xs, ws, rfl, hs, hd, h0, q⟩ := h
  obtain ⟨its, rv, hl, _⟩ := I.list hs
  rw [Vals.ref1 r]
  obtain ⟨as, hr⟩ := Dp.readsAll I _ _ its hd rv
  cases ws with
  | nil => cases h0
  | cons w0 ws =>
  have hr' : ReadsAll s.heap its.toArray.toList ((w0 :: ws).map liD) as := by simpa using hr
  have hn : its.toArray.size = ws.length + 1 := by
    have := PySem.W.readsAll_len hr'
    rw [this, List.length_map, List.length_cons]
  have ha : PySem.W.AlikeAll ((w0 :: ws).map liD) := ⟨fun x hx y hy => by
    obtain ⟨u, _, rfl⟩ := List.mem_map.mp hx
    obtain ⟨v, _, rfl⟩ := List.mem_map.mp hy
    exact liD_alike u v, fun x hx => by
    obtain ⟨u, _, rfl⟩ := List.mem_map.mp hx
    intro e
    cases e⟩
  have hdp := liD_depths (w0 :: ws)
  refine PySem.call_min_walkH (PySem.W.iter_listW (A := X.A.in1) (I.ok.hd hc) hl.isList fun s₂ e W st hfp hw hk => ?_)
  refine ⟨_, _, _, _, _, _, _, s.heap, _, rfl, W, st, hfp, by omega, hw, hk, PySem.W.cmpIn_lt (A := X.A.in1) hr' ha (by show X.A.units + 1 + _ < _; omega), fun v s' hP m => ?_⟩
  obtain ⟨h', tk, rfl, hk'⟩ := PySem.W.moved_old e rfl m
  have e1 : its.toArray.size - 1 = (ws.map liD).length := by rw [List.length_map]; omega
  obtain ⟨b1, b2⟩ := PySem.W.argBest_fold PySem.W.dataLt PyData.none (liD w0) (ws.map liD) (ws.map liD).length (Nat.le_refl _)
  rw [List.take_length, fold_li] at b2
  rw [e1] at hP
  rw [List.map_cons] at hP
  obtain ⟨k, hk2⟩ : ∃ k, PySem.argBest (fun i j => PySem.W.dataLt ((liD w0 :: ws.map liD).getD i PyData.none) ((liD w0 :: ws.map liD).getD j PyData.none)) (ws.map liD).length = k := ⟨_, rfl⟩
  rw [hk2] at hP b1 b2
  have hki : its[k]? = some v := by simpa using hP
  obtain ⟨x, hx, rx⟩ : ∃ x, xs[k]? = some x ∧ RelV x v := by
    have hlt : k < xs.length := by
      rw [rv.length]
      exact (List.getElem?_eq_some_iff.mp hki).1
    obtain ⟨u, hu2, ru⟩ := rv.get (List.getElem?_eq_getElem hlt)
    rw [hki] at hu2
    cases hu2
    exact ⟨_, List.getElem?_eq_getElem hlt, ru⟩
  have hwk : (w0 :: ws)[k]? = some (ws.foldl (fun a y => if y < a then y else a) w0) := by
    rw [List.length_map] at b1
    have hlt : k < (w0 :: ws).length := by rw [List.length_cons]; omega
    rw [List.getElem?_eq_getElem hlt]
    rw [← List.map_cons, List.getD_eq_getElem?_getD, List.getElem?_map, List.getElem?_eq_getElem hlt] at b2
    exact congrArg some (liD_inj b2)
  obtain ⟨f1, f2⟩ := fold_ge _ rfl ws w0
  exact ⟨x, H, I.kept hk', rx, q k x _ hx hwk fun y hy => by
    rcases List.mem_cons.mp hy with rfl | hy
    · exact f1
    · exact f2 y hy⟩
end
/-! ### the rule -/
def rowsL : List PyData → Option (List (List Int))
  | [] => some []
  | .list ds :: r => (intL ds).bind fun ns => (rowsL r).map (ns :: ·)
  | _ :: _ => none
theorem rowsL_eq : ∀ {ds : List PyData} {ws : List (List Int)}, rowsL ds = some ws → ds = ws.map liD
  | [], ws, h => by
    simp only [rowsL, Option.some.injEq] at h
    subst h
    rfl
  | d :: ds, ws, h => by
    cases d with
    | list es =>
      simp only [rowsL] at h
      cases e1 : intL es with
      | none => simp [e1] at h
      | some ns =>
        cases e2 : rowsL ds with
        | none => simp [e1, e2] at h
        | some vs =>
          simp [e1, e2] at h
          subst h
          rw [List.map_cons, ← rowsL_eq e2, intL_eq e1]
    | _ => simp [rowsL] at h
theorem rowsL_map : ∀ ws : List (List Int), rowsL (ws.map liD) = some ws
  | [] => rfl
  | w :: ws => by simp [rowsL, liD, intL_map, rowsL_map ws]
def asRows (o : Option PyData) (k : List (List Int) → Prop) : Prop := match o with
  | some (.list ds) => match rowsL ds with
    | some ws => k ws
    | none => False
  | _ => False
theorem asRows_iff {o : Option PyData} {k : List (List Int) → Prop} (h : asRows o k) : ∃ ws, o = some (.list (ws.map liD)) ∧ k ws := by
  unfold asRows at h
  split at h
  · rename_i ds
    split at h
    · rename_i ws e
      rw [rowsL_eq e]
      exact ⟨ws, rfl, h⟩
    · exact h.elim
  · exact h.elim
/-- min(xs)[:k] -/
def dMinCut (k : Int) (d : DT) : DT := fun ρ Q => d ρ fun c ρ1 => asRows (dat ρ1 c) fun ws => 0 < ws.length ∧ ∀ w : List Int, w ∈ ws → (∀ y ∈ ws, w ≤ y) → Q (.t (.ls ((w.take k.toNat).map fun n => T.d (.int n)))) ρ1
theorem cutV_int {w : List Int} {k : Int} (h : 0 ≤ k) : cutV (w.map V.int) none (some k) = (w.take k.toNat).map V.int := by
  unfold cutV
  obtain ⟨j, rfl⟩ := Int.eq_ofNat_of_zero_le h
  rw [HT.sIx_nat, HT.sIx_none, List.length_map, List.drop_zero, List.map_take, Nat.sub_zero]
  by_cases hi : j ≤ w.length
  · rw [Nat.min_eq_left hi]
    rfl
  · rw [Nat.min_eq_right (by omega), List.take_of_length_le (by rw [List.length_map]; exact Nat.le_refl _), List.take_of_length_le (by rw [List.length_map]; simp; omega)]
theorem layAll0_li (ws : List (List Int)) : PyData.canLayAll0 (ws.map liD) = true := by
  induction ws with
  | nil => rfl
  | cons w ws ih =>
    have : PyData.canLayAll0 (w.map PyData.int) = true := by
      clear ih
      induction w with
      | nil => rfl
      | cons x w ih => simp [PyData.canLayAll0, PyData.canLay0, ih]
    simp [PyData.canLayAll0, PyData.canLay0, this, ih]
section
variable {X : Cx} {g : Gm} {e : Expr} {te : TE} {d : DT} {p p2 p3 pos : Pos} {k : Int} {j : Nat}
theorem de_minCut (hc : X.calm = true) (hu : X.A.units + 64 < cLine) (hg : Gl X "min") (hx : X.mg "min" = none) (h : DE X g e te d) (hk : 0 ≤ k := by decide) (hs : starEach [e] X.env = (false, eval e X.env) :: starEach [] X.env := by rfl) :
    DE X g (.Subscript (.Call (.Name "min" p) [e] [] pos) (.Slice none (some (.Constant (.int k) j p2)) none p3) pos') (tSl (rSlL X.K) (tCB (rMinL X.K) (tCons te tNil)) tNoPart (tPart (tC (.int k)))) (dMinCut k d) :=
  ⟨pe_slice sl_list (pe_callB (cr_minL hc hu) hg hx (by decide +kernel) (pa_cons h.pe pa_nil hs) (he := hs)) po_none (po_some pe_int), fun B ρ σ τs H Q Q' b s kk h' => by
    refine h.dt B ρ σ τs H _ _ b s (fun ca ρ1 x H1 s1 b1 q1 => ?_) h'
    obtain ⟨ws, e1, h0, q2⟩ := asRows_iff q1
    have r := s1.rp e1
    cases r with
    | lst sq rl =>
      rename_i a xs
      refine ⟨a, xs, ws, rfl, sq.sq, RpL.dp rl (layAll0_li ws), h0, fun i v w hx hw hmin => ?_⟩
      obtain ⟨d', hd', rv⟩ := rl.getV hx
      rw [List.getElem?_map, hw] at hd'
      cases hd'
      cases rv with
      | lst sq2 rl2 =>
        rename_i b' ys
        have := rl2.intsV
        subst this
        refine ⟨_, rfl, b', _, rfl, sq2.sq, fun pq hq => ?_⟩
        rw [cutV_int hk]
        exact kk _ _ _ _ (SI.newI _ s1.pop hq) b.untail (q2 w (List.mem_of_getElem? hw) hmin)⟩
end
/-! ### a, b = a list of that length -/
def gUnl' (n : Nat) (t : DTGs) : DTG := fun x ρ Q => match x with
  | .ls ts => ts.length = n ∧ t ts ρ Q
  | _ => False
section
variable {X : Cx} {g : Gm}
theorem dg_unl {cb : Bool} {es : List Expr} {k : Nat} {pos : Pos} {tg : TGs} {t : DTGs} {n : Nat} (hc : X.calm = true) (h : DGs X g cb es tg t) (hn : (assignEach es X.env).length = n := by rfl) (hst : (assignEach es X.env).findIdx? (·.1) = none := by rfl) :
    DG X g cb (.Tuple es k pos) (gUnl X.K n tg) (gUnl' n t) := ⟨pg_unl hc h.pg hn hst, fun B ρ σ τs H v x Q Q' b hn' s k h' => by
  unfold gUnl' at h'
  split at h'
  · rename_i ts
    obtain ⟨hl, h'⟩ := h'
    obtain ⟨a, vs, rfl, h1, h2, h3⟩ := s.unlsT
    exact ⟨a, vs, rfl, h1, by omega, h.dt B ρ σ τs H vs ts Q Q' b hn' h3 h2 k h'⟩
  · exact h'.elim⟩
end
end Dl
set_option Elab.async false
set_option linter.all false
set_option maxRecDepth 100000
set_option maxHeartbeats 4000000
/-! Dl: x.reverse(), x.remove(k) of an owned list. -/
namespace Dl
open PySem PySem.Spec PyProof.Rows L2
section
variable {K : PySem.W.Frag} {B : Base} {ρ : Rho} {σ : L2.St} {τs : List (V × C)} {H : Hp}
theorem SI.lsI {ns : List Int} {j : Nat} (s : SI K B ρ σ τs H) (e : ρ[j]? = some (some (.ls ((ns.map PyData.int).map T.d)))) : ∃ p, σ[j]? = some (some (.ref p)) ∧ H p = some (.lst (ns.map V.int)) := by
  obtain ⟨G, fs, ft, k⟩ := s
  obtain ⟨v, f, h1, h2, _⟩ := k.slot e
  cases h2 with
  | ls hp o =>
    have r := (RpL.of_d o).1
    rw [RpL.intsV r] at hp
    exact ⟨_, h1, hp⟩
end
section
variable {X : Cx} {g : Gm} {e e2 : Expr} {te te2 : TE} {d d2 : DT} {pos : Pos} {x : Str} {np apos cpos : Pos}
/-- x.reverse() -/
def dLRev (j : Nat) : DT := fun ρ Q => atLs ρ j fun ts => Q (.t (.d .none)) (ρ.set j (some (.ls ts.reverse)))
theorem de_lrev (j : Nat) (hN : X.N[j]? = some x := by rfl) (hv : Vis X.env.scope x := by first | exact Or.inl rfl | exact Or.inr (Or.inl rfl) | exact Or.inr (Or.inr rfl))
    (hd : (x == ("__debug__" : Str)) = false := by decide) (hcd : (x == ("__classdict__" : Str)) = false := by decide)
    (hbase : attributeBase (.Name x np) "reverse" X.env (eval (.Name x np) X.env) = eval (.Name x np) X.env := by rfl)
    (hline : (apos.endLine == cpos.line) = true := by rfl) :
    DE X g (.Call (.Attribute (.Name x np) "reverse" apos) [] [] cpos) (tBM0 X.K "list" rReverse (tVar j)) (dLRev j) :=
  ⟨pe_bm0 PySem.F.plainAttrs_list PySem.F.slot_list_reverse PySem.F.type_list_reverse mt_reverse (vis_or j hN hv hd hcd) hbase hline, fun B ρ σ τs H Q Q' b s k h' => by
    obtain ⟨ts, e1, h'⟩ := atLs_iff h'
    obtain ⟨p, L, M, w1, w2, w3, w4, w5, w6⟩ := SI.write (vs := []) (xs := []) (τs := τs) s rfl e1
    have hM : M = [] := by
      cases M with
      | nil => rfl
      | cons m ms => simp at w4
    subst hM
    refine ⟨.ref p, w1, tyL w2, p, _, rfl, rfl, w2, ?_⟩
    have s2 := w6 L.reverse [] L (by rw [List.append_nil]; exact (List.reverse_perm L).symm) (by rw [List.append_nil]; exact List.Sublist.refl _)
    rw [List.map_reverse, List.map_reverse, ← w3] at s2
    exact k _ _ _ _ (SI.push s2 fun G _ _ => .non) b.untail h'⟩
/-- x.remove(k), of whole numbers -/
def dRemI (j : Nat) (d : DT) : DT := fun ρ Q => atLs ρ j fun _ => d ρ fun c ρ1 => asI (dat ρ1 c) fun k => atLs ρ1 j fun ts => match (leaves ts).bind intL with
  | some ns => match ns.findIdx? fun z => z == k with
    | some i => Q (.t (.d .none)) (ρ1.set j (some (.ls ((ns.eraseIdx i).map fun n => T.d (.int n)))))
    | none => False
  | none => False
theorem de_remove (j : Nat) (h : DE X g e te d) (hN : X.N[j]? = some x := by rfl) (hv : Vis X.env.scope x := by first | exact Or.inl rfl | exact Or.inr (Or.inl rfl) | exact Or.inr (Or.inr rfl))
    (hd : (x == ("__debug__" : Str)) = false := by decide) (hcd : (x == ("__classdict__" : Str)) = false := by decide)
    (hbase : attributeBase (.Name x np) "remove" X.env (eval (.Name x np) X.env) = eval (.Name x np) X.env := by rfl)
    (hfew : ((backTo cpos (starEach (e :: []) X.env)).all (fun x => !x.1) && (backToKw cpos (keywordEach [] X.env)).all (fun x => x.1.isSome)
      && decide ((e :: []).length + ([] : List Keyword).length + (if ([] : List Keyword).isEmpty then 0 else 1) < 30)) = true := by rfl)
    (hline : (apos.endLine == cpos.line) = true := by rfl) (hs : starEach (e :: []) X.env = (false, eval e X.env) :: starEach [] X.env := by rfl) (hplain : (backTo cpos (starEach [] X.env)).any (·.1) = false := by rfl) :
    DE X g (.Call (.Attribute (.Name x np) "remove" apos) [e] [] cpos) (tBM X.K "list" rRemI (tVar j) (tCons te tNil)) (dRemI j d) :=
  ⟨pe_bm PySem.F.plainAttrs_list PySem.F.slot_list_remove PySem.F.type_list_remove mt_remove (vis_or j hN hv hd hcd) (pa_cons h.pe pa_nil hs) hbase hfew hline hs hplain, fun B ρ σ τs H Q Q' b s k h' => by
    obtain ⟨ts0, e0, h'⟩ := atLs_iff h'
    obtain ⟨p, vs0, z1, z2, _⟩ := s.ls e0
    refine ⟨.ref p, z1, tyL z2, h.dt B ρ σ τs H _ _ b s (fun c ρ1 y H1 s1 b1 q1 => ?_) h'⟩
    obtain ⟨i, ei, q2⟩ := asI_iff q1
    have ry := (s1.rp ei).intV
    obtain ⟨ts, e1, q3⟩ := atLs_iff q2
    split at q3
    · rename_i ns ens
      obtain ⟨ds, eds, ens⟩ := Option.bind_eq_some_iff.mp ens
      have e2 := leaves_eq eds
      have e3 := intL_eq ens
      subst e3
      subst e2
      split at q3
      · rename_i kk ek
        obtain ⟨p2, y1, y2⟩ := s1.lsI e1
        rw [z1] at y1
        cases y1
        obtain ⟨hk1, hk2, hk3⟩ := List.findIdx?_eq_some_iff_getElem.mp ek
        obtain ⟨p', L, M, w1, w2, w3, w4, w5, w6⟩ := SI.write (vs := []) (xs := []) (τs := τs) s1.pop rfl e1
        rw [z1] at w1
        cases w1
        have hM : M = [] := by
          cases M with
          | nil => rfl
          | cons m ms => simp at w4
        subst hM
        have hL : L.map (·.1) = ns.map V.int := by
          rw [y2] at w2
          exact (L2.HO.lst.inj (Option.some.inj w2)).symm
        have hlen : L.length = ns.length := by
          have := congrArg List.length hL
          rw [List.length_map, List.length_map] at this
          exact this
        have hlt : kk < L.length := by omega
        have s2 := w6 (L.eraseIdx kk) [L[kk]] L (erase_perm (List.getElem?_eq_getElem hlt)) (by rw [List.append_nil]; exact List.Sublist.refl _)
        subst ry
        refine ⟨p, ns, i, kk, rfl, rfl, y2, ?_, fun m hm e => ?_, ?_⟩
        · rw [List.getElem?_eq_getElem hk1, eq_of_beq hk2]
        · obtain ⟨hm2, e⟩ := List.getElem?_eq_some_iff.mp e
          have := hk3 m hm
          rw [e] at this
          simp at this
        · have e4 : (L.eraseIdx kk).map (·.1) = (ns.eraseIdx kk).map V.int := by rw [← erase_map, hL, erase_map]
          have e5 : (L.eraseIdx kk).map (·.2.1) = (ns.eraseIdx kk).map fun n => T.d (.int n) := by
            rw [← erase_map, ← w3, ← erase_map, List.map_map]
            rfl
          rw [e4, e5] at s2
          have s3 : SI X.K B (ρ1.set j (some (.ls ((ns.eraseIdx kk).map fun n => T.d (.int n))))) σ τs (upd H1 p (.lst ((ns.eraseIdx kk).map V.int))) := SI.pops (ts := tmp [L[kk].1] [L[kk].2.1]) s2
          exact k _ _ _ _ (SI.push s3 fun G _ _ => .non) b.untail q3
      · exact q3.elim
    · exact q3.elim⟩
end
end Dl
set_option Elab.async false
set_option linter.all false
set_option maxRecDepth 100000
set_option maxHeartbeats 4000000
/-! Dl: [elt for tg in x if ..], the list x stays its own. -/
namespace Dl
open PySem PySem.Spec PyProof.Rows L2
section
variable {K : PySem.W.Frag} {B : Base} {ρ : Rho} {σ : L2.St} {τs : List (V × C)} {H : Hp}
theorem SI.lsG {ts : List T} {ds : List PyData} {j : Nat} {p : Addr} (s : SI K B ρ σ τs H) (e : ρ[j]? = some (some (.ls ts))) (hd : ts = ds.map T.d) (hp : σ[j]? = some (some (.ref p))) :
    ∃ vs, H p = some (.lst vs) ∧ vs.length = ds.length ∧ ∀ (i : Nat) (v : V) (d : PyData), vs[i]? = some v → ds[i]? = some d → SI K B ρ σ ((v, .t (.d d)) :: τs) H := by
  subst hd
  obtain ⟨G, fs, ft, k⟩ := s
  obtain ⟨v, f, h1, h2, _⟩ := k.slot e
  rw [hp] at h1
  cases h1
  cases h2 with
  | ls hp o =>
    have r := (RpL.of_d o).1
    refine ⟨_, hp, r.len, fun i v d hv hd => ?_⟩
    obtain ⟨d', hd', rv⟩ := r.getV hv
    rw [hd] at hd'
    cases hd'
    exact ⟨G, fs, ft, { k with temps := .t (fp := []) (.d rv) k.temps }⟩
end
section
variable {X : Cx} {g : Gm} {elt tg : Expr} {ifs : List Expr} {scope : Scope} {ow : List (Str × Nat)} {pos : Pos} {gt : TG} {tt : TT} {te : TE} {dg : DTG} {dtt : DTT} {d : DT} {x : Str} {np : Pos}
def asLv (o : Option (List PyData)) (k : List PyData → Prop) : Prop := match o with
  | some ds => k ds
  | none => False
def dLcK (j : Nat) (dg : DTG) (tt : DTT) (d : DT) (vs : List Nat) : DT := fun ρ Q => atLs ρ j fun ts => asLv (leaves ts) fun ds => ds.length ≤ 16777216 ∧ ∃ I : Nat → List T → Rho → Prop, I 0 [] (wipeR ρ vs) ∧
  (∀ i x acc ρ, ds[i]? = some x → I i acc ρ → dg (.d x) ρ fun ρ' => tt ρ' fun b ρ2 => if b = true then d ρ2 fun c ρ3 => own ρ3 c fun t ρ4 => I (i + 1) (acc ++ [t]) (wipeR ρ4 vs) else I (i + 1) acc (wipeR ρ2 vs)) ∧
  (∀ i acc ρ, I i acc ρ → ρ[j]? = some (some (.ls ts))) ∧
  ∀ acc ρ, I ds.length acc ρ → Q (.t (.ls acc)) (wipeR ρ vs)
theorem dt_lcK (j : Nat) (hj : j < g.n0) (hN : X.N[j]? = some x) (hv : ∀ v ∈ ow.map (·.2), g.n0 ≤ v ∧ ¬ v ∈ g.pn) (hw : TgW gt (ow.map (·.2))) (hmo : TgM gt) (hg : DtG X { g with w := Wsh.none } true gt dg) (ht : DtT X { g with w := Wsh.none } tt dtt) (he : Dt X { g with w := Wsh.none } te d) :
    Dt X g (tLc (iList X.K (tVar j)) gt tt te (ow.map (·.2))) (dLcK j dg dtt d (ow.map (·.2))) := fun B ρ σ τs H Q Q' b s k h => by
  have hq : ∀ {B' : Base} {τs' : List (V × C)}, BOk X.K X.mg { g with w := Wsh.none } B' τs' → ∀ v ∈ ow.map (·.2), (∀ p ∈ τs', p.2 ≠ C.al v) ∧ ∀ p ∈ B'.pin, p.1 ≠ v := fun {B' τs'} b' v m => ⟨fun p hp e => by
    have h1 := b'.low p hp v e
    have h2 := (hv v m).1
    have h1' : v < g.n0 := h1
    omega, fun p hp e => (hv v m).2 (by rw [← e]; exact b'.pin p hp)⟩
  obtain ⟨ts, e1, h⟩ := atLs_iff h
  obtain ⟨a, vs0, z1, z2, z3⟩ := s.ls e1
  unfold asLv at h
  split at h
  rotate_left 1
  · exact h.elim
  rename_i ds eds
  have hts := leaves_eq eds
  obtain ⟨hz, I, i0, turn, keepI, fin⟩ := h
  have s1 := s.pushAl z1
  have b1 : BOk X.K X.mg { g with w := Wsh.none } B ((.ref a, .al j) :: τs) := BOk.cons b.none fun j' e => by
    cases e
    exact hj
  refine ⟨.ref a, z1, a, rfl, ⟨vs0, .inl (.inl z2)⟩, ?_⟩
  intro D hD
  have s2 : SI X.K B ρ σ ((.ref D, .t (.ls [])) :: (.ref a, .al j) :: τs) (upd H D (.lst [])) := SI.newL (vs := []) (ts := []) s1 rfl hD
  have s3 := s2.wipe (hq b1.untail)
  have at_ : ∀ {ρ' : Rho} {acc : List T} {σ' : L2.St} {H' : Hp}, SI X.K B ρ' σ' ((.ref D, .t (.ls acc)) :: (.ref a, .al j) :: τs) H' → σ'[j]? = some (some (.ref a)) := fun s' => s'.alv (List.mem_cons_of_mem _ List.mem_cons_self)
  refine ⟨fun i m H' => m = ds.length - i ∧ i ≤ ds.length ∧ ∃ ρ' acc, acc.length ≤ i ∧ SI X.K B ρ' (L2.wipe σ (ow.map (·.2))) ((.ref D, .t (.ls acc)) :: (.ref a, .al j) :: τs) H' ∧ I i acc ρ', ⟨ds.length, rfl, Nat.zero_le _, _, [], Nat.le_refl _, s3, i0⟩, ?_⟩
  rintro i m H' ⟨rfl, hle, ρ', acc, hacc, s', hI⟩
  obtain ⟨vs, y1, y2, y3⟩ := s'.lsG (keepI _ _ _ hI) hts (at_ s')
  by_cases hlt : i < ds.length
  · have e : ds[i]? = some ds[i] := List.getElem?_eq_getElem hlt
    have ev : vs[i]? = some vs[i] := List.getElem?_eq_getElem (by omega)
    refine .inr ⟨⟨vs, vs[i], .inl (.inl y1), ev⟩, fun H2 => ∃ ρ2 acc2, acc2.length ≤ i + 1 ∧ SI X.K B ρ2 (L2.wipe σ (ow.map (·.2))) ((.ref D, .t (.ls acc2)) :: (.ref a, .al j) :: τs) H2 ∧ I (i + 1) acc2 ρ2, fun H2 ⟨ρ2, acc2, l2, s2, q2⟩ => ⟨ds.length - (i + 1), by omega, rfl, hlt, ρ2, acc2, l2, s2, q2⟩, fun x H2 y => ?_⟩
    obtain ⟨rfl, y⟩ := y
    have ex := y vs (.inl (.inl y1))
    rw [ev] at ex
    cases ex
    have s4 := y3 i vs[i] ds[i] ev e
    have key := hg B ρ' (L2.wipe σ (ow.map (·.2))) ((.ref D, .t (.ls acc)) :: (.ref a, .al j) :: τs) H2 vs[i] (.d ds[i]) (fun σ2 H3 => L2.wipe σ2 (ow.map (·.2)) = L2.wipe (L2.wipe σ (ow.map (·.2))) (ow.map (·.2)) → tt σ2 H3 fun b H4 =>
      if b = true then te σ2 H4 fun y H5 => ∃ acc, H5 D = some (.lst acc) ∧ acc.length < sizeLine ∧ (fun H6 => ∃ ρ2 acc2, acc2.length ≤ i + 1 ∧ SI X.K B ρ2 (L2.wipe σ (ow.map (·.2))) ((.ref D, .t (.ls acc2)) :: (.ref a, .al j) :: τs) H6 ∧ I (i + 1) acc2 ρ2) (upd H5 D (.lst (acc ++ [y])))
      else (fun H6 => ∃ ρ2 acc2, acc2.length ≤ i + 1 ∧ SI X.K B ρ2 (L2.wipe σ (ow.map (·.2))) ((.ref D, .t (.ls acc2)) :: (.ref a, .al j) :: τs) H6 ∧ I (i + 1) acc2 ρ2) H4) _ b1.untail (fun z => by cases z) s4 (fun ρ3 σ3 H3 s3 q3 hwp => ?_) (turn i ds[i] acc ρ' e hI)
    · have key2 := hw vs[i] (L2.wipe σ (ow.map (·.2))) H2 _ key
      exact hmo _ _ _ _ _ (fun σ2 H3 ⟨w, q⟩ => ⟨w.trans wipe_wipe, q w⟩) key2
    · refine ht B ρ3 σ3 _ H3 _ _ b1.untail s3 (fun bb ρ4 H4 s4 q4 => ?_) q3
      cases bb with
      | true =>
        refine he B ρ4 σ3 _ H4 _ _ b1.untail s4 (fun c ρ5 yv H5 s5 b5 q5 => ?_) q4
        obtain ⟨t, ρ6, q6, s6⟩ := s5.own q5
        obtain ⟨us, w1, w2, w3⟩ := s6.app
        have s7 := w3.wipe (hq b1.untail)
        rw [hwp, wipe_wipe] at s7
        exact ⟨us, w1, lim_lt (by omega), _, acc ++ [t], by simp; omega, s7, q6⟩
      | false =>
        have s7 := s4.wipe (hq b1.untail)
        rw [hwp, wipe_wipe] at s7
        exact ⟨_, acc, by omega, s7, q4⟩
  · have e : i = ds.length := by omega
    subst e
    have s4 := s'.unwipe (hq b1.untail)
    have s5 : SI X.K B (wipeR ρ' (ow.map (·.2))) σ ((.ref D, .t (.ls acc)) :: τs) H' := (s4.perm (List.Perm.swap _ _ _)).pop
    exact .inl ⟨⟨vs, .inl (.inl y1), by omega⟩, k _ _ _ _ s5 b.untail (fin acc ρ' hI)⟩
end
section
variable {X : Cx} {g : Gm} {elt tg : Expr} {ifs : List Expr} {scope : Scope} {ow : List (Str × Nat)} {pos : Pos} {gt : Blk TG} {tt : Blk TT} {te : Blk TE} {dg : DTG} {dtt : DTT} {d : DT} {x : Str} {np : Pos}
theorem de_lcK (j : Nat) (hc : X.calm = true) (hN : X.N.Nodup) (hj : j < g.n0) (hNj : X.N[j]? = some x) (hvj : Vis X.env.scope x) (hd : (x == ("__debug__" : Str)) = false) (hcd : (x == ("__classdict__" : Str)) = false)
    (ok : BlkOk X.N X.env.scope scope ow) (hv : ∀ v ∈ ow.map (·.2), g.n0 ≤ v ∧ ¬ v ∈ g.pn)
    (hg : ∀ (s : Shared) (H : Hp) (C : Addr) (cl : List (Str × Addr)) (fp : List Addr), DG (X.blk s H scope (compEnvC scope cl C X.env) fp) { g with w := Wsh.none } true tg (gt s H C cl fp) dg)
    (ht : ∀ (s : Shared) (H : Hp) (C : Addr) (cl : List (Str × Addr)) (fp : List Addr), DTs (X.blk s H scope (compEnvC scope cl C X.env) fp) { g with w := Wsh.none } ifs (tt s H C cl fp) dtt)
    (he : ∀ (s : Shared) (H : Hp) (C : Addr) (cl : List (Str × Addr)) (fp : List Addr), DE (X.blk s H scope (compEnvC scope cl C X.env) fp) { g with w := Wsh.none } elt (te s H C cl fp) d)
    (hw : TgW (gt X.s_0 X.H_0 0 [] []) (ow.map (·.2))) (hmo : TgM (gt X.s_0 X.H_0 0 [] []))
    (eg : ∀ (s : Shared) (H : Hp) (C : Addr) (cl : List (Str × Addr)) (fp : List Addr), gt s H C cl fp = gt X.s_0 X.H_0 0 [] [] := by intro _ _ _ _ _; rfl)
    (et : ∀ (s : Shared) (H : Hp) (C : Addr) (cl : List (Str × Addr)) (fp : List Addr), tt s H C cl fp = tt X.s_0 X.H_0 0 [] [] := by intro _ _ _ _ _; rfl)
    (ee : ∀ (s : Shared) (H : Hp) (C : Addr) (cl : List (Str × Addr)) (fp : List Addr), te s H C cl fp = te X.s_0 X.H_0 0 [] [] := by intro _ _ _ _ _; rfl)
    (hs : ∀ y, foldedSetIterable (.Name x np) X.env y = pure y := by intro _; rfl) :
    DE X g (.ListComp elt [⟨tg, .Name x np, ifs, 0⟩] scope pos) (tLc (iList X.K (tVar j)) (gt X.s_0 X.H_0 0 [] []) (tt X.s_0 X.H_0 0 [] []) (te X.s_0 X.H_0 0 [] []) (ow.map (·.2))) (dLcK j dg dtt d (ow.map (·.2))) :=
  ⟨pe_lc hc hN (pi_list (vis_or j hNj hvj hd hcd)) ok (fun s H C cl fp => eg s H C cl fp ▸ (hg s H C cl fp).pg) (fun s H C cl fp => et s H C cl fp ▸ (ht s H C cl fp).pts) (fun s H C cl fp => ee s H C cl fp ▸ (he s H C cl fp).pe) hs,
    dt_lcK j hj hNj hv hw hmo (hg X.s_0 X.H_0 0 [] []).dt (ht X.s_0 X.H_0 0 [] []).dt (he X.s_0 X.H_0 0 [] []).dt⟩
end
end Dl
set_option Elab.async false
set_option linter.all false
set_option maxRecDepth 100000
set_option maxHeartbeats 4000000
/-! Dl: min(xs), xs a list of any data that can be compared. -/
namespace Dl
open PySem PySem.Spec PyProof.Rows L2
def rMinD (K : PySem.W.Frag) : List V → Hp → VK → Prop := fun vs H Q => ∃ (a : Addr) (xs : List V) (d0 : PyData) (ds : List PyData), vs = [V.ref a] ∧ SqL K H a xs ∧ DpAll K H xs (d0 :: ds) ∧ (PySem.W.AlikeAll (d0 :: ds) ∧ PyData.depthAll (d0 :: ds) ≤ 60) ∧
  ∀ (i : Nat) (x : V), xs[i]? = some x → (d0 :: ds)[i]? = some (PySem.W.minD d0 ds) → Q x H
section
variable {X : Cx}
theorem cr_minD (hc : X.calm = true) (hu : X.A.units + 64 < cLine) : CallR X (.builtin "min") (rMinD X.K) := by
  intro pins s σ H vs us Q I r h
  obtain ⟨a, xs, d0, ds, rfl, hs, hd, ⟨ha, hdp⟩, q⟩ := h
  obtain ⟨its, rv, hl, _⟩ := I.list hs
  rw [Vals.ref1 r]
  obtain ⟨as, hr⟩ := Dp.readsAll I _ _ its hd rv
  have hr' : ReadsAll s.heap its.toArray.toList (d0 :: ds) as := by simpa using hr
  have hn : its.toArray.size = ds.length + 1 := by
    have := PySem.W.readsAll_len hr'
    rw [this, List.length_cons]
  refine PySem.call_min_walkH (PySem.W.iter_listW (A := X.A.in1) (I.ok.hd hc) hl.isList fun s₂ e W st hfp hw hk => ?_)
  refine ⟨_, _, _, _, _, _, _, s.heap, _, rfl, W, st, hfp, by omega, hw, hk, PySem.W.cmpIn_lt (A := X.A.in1) hr' ha (by show X.A.units + 1 + _ < _; omega), fun v s' hP m => ?_⟩
  obtain ⟨h', tk, rfl, hk'⟩ := PySem.W.moved_old e rfl m
  have e1 : its.toArray.size - 1 = ds.length := by omega
  obtain ⟨b1, b2⟩ := PySem.W.argBest_fold PySem.W.dataLt PyData.none d0 ds ds.length (Nat.le_refl _)
  rw [List.take_length] at b2
  rw [e1] at hP
  obtain ⟨k, hk2⟩ : ∃ k, PySem.argBest (fun i j => PySem.W.dataLt ((d0 :: ds).getD i PyData.none) ((d0 :: ds).getD j PyData.none)) ds.length = k := ⟨_, rfl⟩
  rw [hk2] at hP b1 b2
  have hki : its[k]? = some v := by simpa using hP
  obtain ⟨x, hx, rx⟩ : ∃ x, xs[k]? = some x ∧ RelV x v := by
    have hlt : k < xs.length := by
      rw [rv.length]
      exact (List.getElem?_eq_some_iff.mp hki).1
    obtain ⟨u, hu2, ru⟩ := rv.get (List.getElem?_eq_getElem hlt)
    rw [hki] at hu2
    cases hu2
    exact ⟨_, List.getElem?_eq_getElem hlt, ru⟩
  have hwk : (d0 :: ds)[k]? = some (PySem.W.minD d0 ds) := by
    have hlt : k < (d0 :: ds).length := by rw [List.length_cons]; omega
    rw [List.getElem?_eq_getElem hlt]
    rw [List.getD_eq_getElem?_getD, List.getElem?_eq_getElem hlt] at b2
    exact congrArg some b2
  exact ⟨x, H, I.kept hk', rx, q k x hx hwk⟩
end
section
variable {X : Cx} {g : Gm} {e : Expr} {te : TE} {d : DT} {p pos : Pos}
def minOk (d0 : PyData) (ds : List PyData) : Prop := PySem.W.AlikeAll (d0 :: ds) ∧ PyData.depthAll (d0 :: ds) ≤ 60 ∧ PyData.canLayAll0 (d0 :: ds) = true
def dMinD (d : DT) : DT := fun ρ Q => d ρ fun c ρ1 => asF (look ρ1 c) fun ds => match ds with
  | [] => False
  | d0 :: ds => minOk d0 ds ∧ Q (.t (.d (PySem.W.minD d0 ds))) ρ1
theorem de_minD (hc : X.calm = true) (hu : X.A.units + 64 < cLine) (hg : Gl X "min") (hx : X.mg "min" = none) (h : DE X g e te d) (hs : starEach [e] X.env = (false, eval e X.env) :: starEach [] X.env := by rfl) :
    DE X g (.Call (.Name "min" p) [e] [] pos) (tCB (rMinD X.K) (tCons te tNil)) (dMinD d) :=
  ⟨pe_callB (cr_minD hc hu) hg hx (by decide +kernel) (pa_cons h.pe pa_nil hs) (he := hs), fun B ρ σ τs H Q Q' b s kk h' => by
    refine h.dt B ρ σ τs H _ _ b s (fun ca ρ1 x H1 s1 b1 q1 => ?_) h'
    obtain ⟨t, ds, e1, e2, q2⟩ := asF_iff q1
    obtain ⟨a, vs, rfl, w1, w2, w3, w4, w5⟩ := s1.itms e1 (itms_flat e2)
    split at q2
    · exact q2.elim
    · rename_i d0 ds
      obtain ⟨⟨k1, k2, k3⟩, q3⟩ := q2
      refine ⟨a, vs, d0, ds, rfl, w2 e2, RpL.dp w3 k3, ⟨k1, k2⟩, fun i x hx hd => ?_⟩
      have s3 : SI X.K B ρ1 σ ((x, .t (.d (PySem.W.minD d0 ds))) :: τs) H1 := w5 [x] [PySem.W.minD d0 ds] fun G r => by
        obtain ⟨d', u1, u2⟩ := r.getV hx
        rw [hd] at u1
        cases u1
        exact .cons u2 .nil
      exact kk _ _ _ _ s3 b.untail q3⟩
end
end Dl
set_option Elab.async false
set_option linter.all false
set_option maxRecDepth 100000
set_option maxHeartbeats 4000000
/-! Dl: x.extend(e), e a list just made, its items handed over. -/
namespace Dl
open PySem PySem.Spec PyProof.Rows L2
theorem SI.unlsH {K : PySem.W.Frag} {B : Base} {ρ : Rho} {σ : L2.St} {τs : List (V × C)} {H : Hp} {v : V} {ts : List T} (s : SI K B ρ σ ((v, .t (.ls ts)) :: τs) H) : ∃ a vs, v = .ref a ∧ H a = some (.lst vs) ∧ vs.length = ts.length ∧ SI K B ρ σ (tmp vs ts ++ τs) H := by
  obtain ⟨G, fs, ft, c⟩ := s
  cases c with
  | mk g0 gh h0 tup new slots temps nd own pin =>
  cases temps with
  | t o r =>
  cases o with
  | ls q o =>
  rename_i fr p vs f
  have sb : List.Sublist (fs ++ (f ++ fr)) (fs ++ (p :: f ++ fr)) := List.Sublist.append_left (List.sublist_cons_self _ _) _
  exact ⟨p, vs, rfl, q, o.len, G, fs, f ++ fr, g0, gh, h0, tup, new, slots, OwnC.join o r, nd.sublist sb, fun a h => own a (sb.subset h), pin⟩
section
variable {X : Cx} {g : Gm} {e e2 : Expr} {te te2 : TE} {d d2 : DT} {pos : Pos} {x : Str} {np apos cpos : Pos}
def dExtT (j : Nat) (d : DT) : DT := fun ρ Q => atLs ρ j fun _ => d ρ fun c ρ1 => match c with
  | .t (.ls us) => atLs ρ1 j fun ts => ts.length + us.length ≤ 16777216 ∧ Q (.t (.d .none)) (ρ1.set j (some (.ls (ts ++ us))))
  | _ => False
theorem de_extendT (j : Nat) (h : DE X g e te d) (hN : X.N[j]? = some x := by rfl) (hv : Vis X.env.scope x := by first | exact Or.inl rfl | exact Or.inr (Or.inl rfl) | exact Or.inr (Or.inr rfl))
    (hd : (x == ("__debug__" : Str)) = false := by decide) (hcd : (x == ("__classdict__" : Str)) = false := by decide)
    (hbase : attributeBase (.Name x np) "extend" X.env (eval (.Name x np) X.env) = eval (.Name x np) X.env := by rfl)
    (hfew : ((backTo cpos (starEach (e :: []) X.env)).all (fun x => !x.1) && (backToKw cpos (keywordEach [] X.env)).all (fun x => x.1.isSome)
      && decide ((e :: []).length + ([] : List Keyword).length + (if ([] : List Keyword).isEmpty then 0 else 1) < 30)) = true := by rfl)
    (hline : (apos.endLine == cpos.line) = true := by rfl) (hs : starEach (e :: []) X.env = (false, eval e X.env) :: starEach [] X.env := by rfl) (hplain : (backTo cpos (starEach [] X.env)).any (·.1) = false := by rfl) :
    DE X g (.Call (.Attribute (.Name x np) "extend" apos) [e] [] cpos) (tBM X.K "list" rExtend (tVar j) (tCons te tNil)) (dExtT j d) :=
  ⟨pe_bm PySem.F.plainAttrs_list PySem.F.slot_list_extend PySem.F.type_list_extend mt_extend (vis_or j hN hv hd hcd) (pa_cons h.pe pa_nil hs) hbase hfew hline hs hplain, fun B ρ σ τs H Q Q' b s k h' => by
    obtain ⟨ts0, e0, h'⟩ := atLs_iff h'
    obtain ⟨p, vs0, z1, z2, _⟩ := s.ls e0
    refine ⟨.ref p, z1, tyL z2, h.dt B ρ σ τs H _ _ b s (fun c ρ1 y H1 s1 b1 q1 => ?_) h'⟩
    split at q1
    · rename_i us
      obtain ⟨ts, e1, hz, q3⟩ := atLs_iff q1
      obtain ⟨a, vs, rfl, w1, w2, s2⟩ := s1.unlsH
      obtain ⟨p', L, M, x1, x2, x3, x4, x5, x6⟩ := SI.write (vs := vs) (xs := us) s2 w2 e1
      rw [z1] at x1
      cases x1
      have s3 := x6 (L ++ M) [] (L ++ M) (by rw [List.append_nil]) (List.Sublist.refl _)
      rw [List.map_append, List.map_append, ← x3, ← x4, ← x5] at s3
      have hl1 : (L.map (·.1)).length = ts.length := by rw [x3, List.length_map, List.length_map]
      refine ⟨p, a, _, vs, rfl, rfl, x2, w1, by rw [hl1, w2]; exact lim_le hz, ?_⟩
      exact k _ _ _ _ (SI.push s3 fun G _ _ => .non) b.untail q3
    · exact q1.elim⟩
end
end Dl
set_option Elab.async false
set_option linter.all false
set_option maxRecDepth 100000
set_option maxHeartbeats 4000000
/-! Dl: raise X("..") of an own class over ValueError. -/
namespace Dl
open PySem PySem.Spec PyProof.Rows L2
structure ExcT (K : PySem.W.Frag) (mg : Str → Option Value) (x : Str) : Prop where
  ex : ∃ C, mg x = some (.ref C) ∧ PySem.W.excIn K C [.type "ValueError", .type "Exception", .type "BaseException", .type "object"] "ValueError.__new__" = true ∧ PySem.W.keepIn K (.ref C) = true ∧
    PySem.W.subIn K (.ref C) (.type "BaseException") = some true ∧ PySem.W.typeIn K (.ref C) = some (.type "type")
def dRaise (ex : Str → Rho → Prop) (x : Str) : DTS := fun _ ρ => ex x ρ
def clsOf (v : Option Value) : Addr := match v with
  | some (.ref C) => C
  | _ => 0
def tRz (X : Cx) (g : Gm) (x : Str) : TS := fun _ σ H => (fun (_ : L2.St) (H : Hp) (Q : XK) => Q (.ref (clsOf (X.mg x))) none H) σ H fun cls d H' => g.w.W cls d σ H'
section
variable {X : Cx} {g : Gm} {x m : Str} {j : Nat} {p p2 pos pos' : Pos}
theorem ds_raiseC (hc : X.calm = true) (tk : Takes X g.w.W) (T : ExcT X.K X.mg x) (hg : Gl X x) (hdb : (x == ("__debug__" : Str)) = false := by decide) :
    DS X g (.Raise (some (.Call (.Name x p) [.Constant (.str m) j p2] [] pos)) none pos') (tRz X g x) (dRaise g.w.ex x) := by
  obtain ⟨C, gC, q, kC, bC, tC⟩ := T.ex
  have e : clsOf (X.mg x) = C := by
    rw [gC]
    rfl
  have := ps_raise (pos := pos') hc tk (pmk_own (m := m) (j := j) (p := p) (p2 := p2) (pos := pos) PySem.F.excBase_ValueError q gC kC (raises_own bC tC) hg hdb)
  unfold tRz
  rw [e]
  exact ⟨this, fun B ρ σ H D D' b s k h' => b.wok x C ρ σ H [] gC s h'⟩
end
end Dl
set_option Elab.async false
set_option linter.all false
set_option maxRecDepth 100000
set_option maxHeartbeats 4000000
/-! Dl: x[a][b] = e, x a list of lists of its own. -/
namespace Dl
open PySem PySem.Spec PyProof.Rows L2
def gSubN (dn : DTN) (d : DTK) : DTG := fun t ρ Q => dn ρ fun j k ts u => match u with
  | .ls us => d ρ fun x => asI (some x) fun i => match ixN us.length i with
    | some kk => Q (setN ρ j k ts (us.set kk t))
    | none => False
  | _ => False
section
variable {X : Cx} {g : Gm} {a e : Expr} {ta te : TE} {d : DTK} {dn : DTN} {pos : Pos}
theorem dg_subN {cb : Bool} (h : DN X a ta dn) (h2 : DK X e te d)
    (ha : ∀ v, assign (.Subscript a e pos) X.env v = (do
      let ov ← holding [v] (eval a X.env)
      let iv ← holding [v, ov] (eval e X.env)
      standAt pos
      holding [v, ov, iv] (setItem ov iv v)
      release [v, ov, iv] []) := by intro _; rfl) :
    DG X g cb (.Subscript a e pos) (gSub ta te rSetL) (gSubN dn d) := ⟨pg_sub h.pe h2.pe set_list ha, fun B ρ σ τs H v t Q Q' b hn s k h' => by
  refine h.dt B ρ σ _ H _ _ s (fun j kj ts u p vs vv e1 e2 e3 e4 e5 r q => ?_) h'
  split at q
  · rename_i us
    refine h2.dt B ρ σ _ H _ _ s (fun y x r2 q2 => ?_) q
    obtain ⟨i, ei, q3⟩ := asI_iff q2
    cases ei
    have ry := r2.intV
    split at q3
    · rename_i kk ek
      obtain ⟨p', a', vs', L, M, w1, w2, w3, w4, w5, w6, w7, w8⟩ := SI.writeN (ws := [v]) (xs := [t]) (τs := τs) s rfl e1 e2
      rw [e3] at w1
      cases w1
      rw [e4] at w2
      cases w2
      rw [e5] at w3
      cases w3
      obtain ⟨m, rfl⟩ : ∃ m, M = [m] := by
        rcases M with _ | ⟨m, _ | ⟨m2, ms⟩⟩
        · simp at w6
        · exact ⟨m, rfl⟩
        · simp at w6
      have lt : us.length = L.length := by rw [w5, List.length_map]
      obtain ⟨h1, h2, h3, h4⟩ := ixN_seq ek
      obtain ⟨S, p1, p2⟩ := set_perm (l := L) (k := kk) (y := m) (by omega)
      have s2 := w8 (L.set kk m) [] S (by rw [List.append_nil]; exact p1) p2
      have e6 : m.1 = v := by simpa using w6.symm
      have e7 : m.2.1 = t := by simpa using w7.symm
      have a1 : (L.set kk m).map (·.1) = (L.map (·.1)).set kk v := by rw [List.map_set, e6]
      have a2 : (L.set kk m).map (·.2.1) = us.set kk t := by rw [List.map_set, e7, w5]
      rw [a1, a2] at s2
      refine ⟨a', _, i, kk, rfl, ry, w4, ?_, ?_⟩
      · rw [List.length_map, ← lt]
        exact ek
      · exact k _ _ _ s2 q3
    · exact q3.elim
  · exact q.elim⟩
/-- x[a][b], an item that never changes -/
def dIxN (dn : DTN) (d : DTK) : DT := fun ρ Q => dn ρ fun _ _ _ u => match u with
  | .ls us => d ρ fun x => asI (some x) fun i => match atI (T.dataL us) i with
    | some y => imm y = true ∧ Q (.t (.d y)) ρ
    | none => False
  | _ => False
theorem de_ixN (h : DN X a ta dn) (h2 : DK X e te d) (hs : PlainIx e := by exact fun _ _ => rfl) : DE X g (.Subscript a e pos) (tOp (rIx X.K) ta te) (dIxN dn d) :=
  ⟨pe_ix ix_seq h.pe h2.pe hs, fun B ρ σ τs H Q Q' b s k h' => by
    refine h.dt B ρ σ _ H _ _ s (fun j kj ts u p vs vv e1 e2 e3 e4 e5 r q => ?_) h'
    split at q
    · rename_i us
      refine h2.dt B ρ σ _ H _ _ s (fun y x r2 q2 => ?_) q
      obtain ⟨i, ei, q3⟩ := asI_iff q2
      cases ei
      have ry := r2.intV
      split at q3
      · rename_i dd ed
        obtain ⟨q4, q5⟩ := q3
        have r' : Rp X.K H vv (.list (T.dataL us)) := r
        obtain ⟨p2, ws, rfl, w1, w2⟩ := r'.listV
        obtain ⟨kk, v, z1, z2, z3⟩ := atI_len w2.len ed
        obtain ⟨v', u1, u2⟩ := w2.get z1
        rw [z2] at u1
        cases u1
        have s3 : SI X.K B ρ σ ((v, .t (.d dd)) :: τs) H := s.pushI u2 q4
        exact .inl ⟨p2, ws, i, v, rfl, ry, w1, z3, k _ _ _ _ s3 b.untail q5⟩
      · exact q3.elim
    · exact q.elim⟩
end
end Dl
set_option Elab.async false
set_option linter.all false
set_option maxRecDepth 100000
set_option maxHeartbeats 4000000
/-! Dl: x in (a, b), a tuple. -/
namespace Dl
open PySem PySem.Spec PyProof.Rows L2
def rInT (K : PySem.W.Frag) : R2 := fun x y H Q => ∃ d ds, Dp K H x d ∧ Dp K H y (.tuple ds) ∧ SeqAt.shaped d = true ∧ SeqAt.shaped (.list ds) = true ∧ Q (.bl (ds.any fun z => PyData.eqv z d)) H
def rNotInT (K : PySem.W.Frag) : R2 := fun x y H Q => ∃ d ds, Dp K H x d ∧ Dp K H y (.tuple ds) ∧ SeqAt.shaped d = true ∧ SeqAt.shaped (.list ds) = true ∧ Q (.bl (!ds.any fun z => PyData.eqv z d)) H
def gInT (neg : Bool) : D2 := fun a b k => asD a fun x => asD b fun y => match y with
  | .tuple ds => inOk x ds ∧ k (.d (.bool (if neg then !ds.any fun z => PyData.eqv z x else ds.any fun z => PyData.eqv z x)))
  | _ => False
theorem gInT_m {neg : Bool} : D2m (gInT neg) := fun a b P P' hp h => by
  obtain ⟨x, rfl, h0⟩ := asD_iff h
  obtain ⟨y, rfl, h0⟩ := asD_iff h0
  cases y <;> first | exact h0.elim | skip
  obtain ⟨h1, h2⟩ := h0
  exact ⟨h1, hp _ h2⟩
section
variable {X : Cx} {g : Gm}
theorem op_inT (hu : X.A.units + 65 < cLine) : OpR X (compareOp .In) (rInT X.K) := by
  intro pins s σ H x y v u Q I rx ry h
  obtain ⟨d, ds, hd, he, sd, se, q⟩ := h
  obtain ⟨as, r1⟩ := Dp.reads I d x v hd rx
  obtain ⟨bs, r2⟩ := Dp.reads I (.tuple ds) y u he ry
  exact SeqAt.in_tuple_reads r2 r1 (SeqAt.canLay_of_shaped se) (SeqAt.canLay_of_shaped sd) (room_in_shaped sd hu) ⟨.bl _, H, I, rfl, q⟩
theorem op_notInT (hu : X.A.units + 65 < cLine) : OpR X (compareOp .NotIn) (rNotInT X.K) := by
  intro pins s σ H x y v u Q I rx ry h
  obtain ⟨d, ds, hd, he, sd, se, q⟩ := h
  obtain ⟨as, r1⟩ := Dp.reads I d x v hd rx
  obtain ⟨bs, r2⟩ := Dp.reads I (.tuple ds) y u he ry
  exact SeqAt.notIn_tuple_reads r2 r1 (SeqAt.canLay_of_shaped se) (SeqAt.canLay_of_shaped sd) (room_in_shaped sd hu) ⟨.bl _, H, I, rfl, q⟩
theorem dc_inT (hu : X.A.units + 65 < cLine) : DCmp X g .In (rInT X.K) (gInT false) := ⟨op_inT hu, fun B ρ σ τs H x y cx cy Q b s h => by
  obtain ⟨i, e1, h⟩ := asD_iff h
  obtain ⟨y', e2, h⟩ := asD_iff h
  cases y' <;> first | exact h.elim | skip
  obtain ⟨⟨h1, h2⟩, h3⟩ := h
  obtain ⟨r1, r2⟩ := s.two e1 e2
  exact ⟨i, _, r1.dp (SeqAt.canLay_of_shaped h1), r2.dp (SeqAt.canLay_of_shaped h2), h1, h2, h3 _ _ (s.pop.pop.push fun G _ _ => .bl _)⟩, gInT_m⟩
theorem dc_notinT (hu : X.A.units + 65 < cLine) : DCmp X g .NotIn (rNotInT X.K) (gInT true) := ⟨op_notInT hu, fun B ρ σ τs H x y cx cy Q b s h => by
  obtain ⟨i, e1, h⟩ := asD_iff h
  obtain ⟨y', e2, h⟩ := asD_iff h
  cases y' <;> first | exact h.elim | skip
  obtain ⟨⟨h1, h2⟩, h3⟩ := h
  obtain ⟨r1, r2⟩ := s.two e1 e2
  exact ⟨i, _, r1.dp (SeqAt.canLay_of_shaped h1), r2.dp (SeqAt.canLay_of_shaped h2), h1, h2, h3 _ _ (s.pop.pop.push fun G _ _ => .bl _)⟩, gInT_m⟩
end
end Dl
set_option Elab.async false
set_option linter.all false
set_option maxRecDepth 100000
set_option maxHeartbeats 4000000
/-! Dl: isinstance(x, T) of anything; a dict is not a list. -/
namespace Dl
open PySem PySem.Spec PyProof.Rows L2
section
variable {X : Cx} {pins : List (Addr × Obj)} {σ : L2.St} {H : Hp} {s : Shared}
/-- a frozen dict of tuple keys -/
def FdT (H : Hp) (x : V) (t : Value) : Prop := t = .type "dict" ∧ ∃ (a : Addr) (o : Obj) (kvs : List (List Key × V)), x = .ref a ∧ H a = some (.frz o (.dT kvs))
theorem kit_ofA {x : V} {u t : Value} (I : Inv X pins σ H s) (rx : RelV x u) (ty : TyX X.K H x t ∨ FdT H x t) : ∃ P : Heap → Prop, PySem.W.KitX X.K u t P ∧ P s.heap ∧ u ≠ .builtin "__main__.__loader__#opaque" := by
  rcases ty with ty | ⟨rfl, a, o, kvs, rfl, ea⟩
  · exact kit_of I rx ty
  · cases (show u = Value.ref a from rx)
    obtain ⟨_, _, _, xs, _, o', es, ep, h1, h2, _⟩ := (show ObjOk X.prog X.w H s.heap a (.frz o (.dT kvs)) from I.hok a _ ea)
    exact ⟨_, PySem.W.kitx_dict, ⟨o', h1, h2.1⟩, fun z => nomatch z⟩
def rIsiA (K : PySem.W.Frag) : List V → Hp → VK → Prop := fun xs H Q => ∃ (x c : V) (t u : Value) (b : Bool), xs = [x, c] ∧ ClsV c u ∧ (TyX K H x t ∨ FdT H x t) ∧ PySem.W.kitOne K t u = some b ∧ Q (.bl b) H
theorem call_isiA : CallR X (.builtin "isinstance") (rIsiA X.K) := by
  intro pins s σ H xs us Q I r h
  obtain ⟨x, c, t, u, b, rfl, k, ty, e, q⟩ := h
  obtain ⟨u1, u2, rfl, r1, r2⟩ := vals2 r
  have e2 := k.eq r2
  subst e2
  obtain ⟨P, Z, p, hx⟩ := kit_ofA I r1 ty
  exact PySem.W.kia_one Z I.kIn p e hx fun tk => ⟨.bl b, H, I.tok tk, rfl, q⟩
theorem tyA_of {K : PySem.W.Frag} {H : Hp} {v : V} {d : PyData} (r : Rp K H v d) (nx : noX d = true) : TyX K H v (.type (tyD d)) ∨ FdT H v (.type (tyD d)) := by
  cases r with
  | dk s _ =>
    rcases s with s | ⟨o, s⟩
    · exact .inl (.base (.dK s))
    · exact .inl (.fDict s)
  | dt s _ =>
    rcases s with s | ⟨o, s⟩
    · exact .inl (.base (.dT s))
    · exact .inr ⟨rfl, _, o, _, rfl, s⟩
  | exc s _ => exact absurd nx (by simp [noX])
  | non => exact .inl (tyX_of .non (by decide))
  | bl b => exact .inl (tyX_of (.bl b) (by simp [tyD]))
  | int i => exact .inl (tyX_of (.int i) (by simp [tyD]))
  | str x => exact .inl (tyX_of (.str x) (by simp [tyD]))
  | lst s q => exact .inl (tyX_of (.lst s q) (by simp [tyD]))
  | tup s q => exact .inl (tyX_of (.tup s q) (by simp [tyD]))
def isL : PyData → Bool
  | .list _ => true
  | _ => false
def isI : PyData → Bool
  | .int _ => true
  | .bool _ => true
  | _ => false
def isB : PyData → Bool
  | .bool _ => true
  | _ => false
def isS : PyData → Bool
  | .str _ => true
  | _ => false
def isT : PyData → Bool
  | .tuple _ => true
  | _ => false
def Isi (T : String) (f : PyData → Bool) : Prop := ∀ x, kitB (tyD x) T = some (f x)
theorem isi_list : Isi "list" isL := fun x => by cases x <;> (simp only [tyD, isL]; decide +kernel)
theorem isi_int : Isi "int" isI := fun x => by cases x <;> (simp only [tyD, isI]; decide +kernel)
theorem isi_bool : Isi "bool" isB := fun x => by cases x <;> (simp only [tyD, isB]; decide +kernel)
theorem isi_str : Isi "str" isS := fun x => by cases x <;> (simp only [tyD, isS]; decide +kernel)
theorem isi_tuple : Isi "tuple" isT := fun x => by cases x <;> (simp only [tyD, isT]; decide +kernel)
def dIsiA (f : PyData → Bool) (d : DT) : DT := fun ρ Q => d ρ fun c ρ1 => asD (dat ρ1 c) fun x => noX x = true ∧ Q (.t (.d (.bool (f x)))) ρ1
end
section
variable {X : Cx} {g : Gm} {e : Expr} {te : TE} {d : DT} {p pos : Pos}
theorem de_isiA {T : String} {y : Str} {p2 : Pos} (hg : Gl X "isinstance") (hx : X.mg "isinstance" = none) (hgy : Gl X y) (hy : X.mg y = none) {f : PyData → Bool} (hT : bootBuiltins y = some (.type T)) (hk : Isi T f) (h : DE X g e te d) (hyn : y ≠ "__name__" := by decide) (hyd : (y == ("__debug__" : Str)) = false := by decide)
    (hs : starEach [e, .Name y p2] X.env = (false, eval e X.env) :: starEach [.Name y p2] X.env := by rfl) (hs2 : starEach [.Name y p2] X.env = (false, eval (.Name y p2) X.env) :: starEach [] X.env := by rfl) (hpl : (backTo pos (starEach [.Name y p2] X.env)).any (·.1) = false := by rfl) :
    DE X g (.Call (.Name "isinstance" p) [e, .Name y p2] [] pos) (tCB (rIsiA X.K) (tCons te (tCons (tC (.ty T)) tNil))) (dIsiA f d) :=
  ⟨pe_callB call_isiA hg hx (by decide +kernel) (pa_cons h.pe (pa_cons (pe_bltn (v := .ty T) hgy hy hT rfl hyn hyd) pa_nil hs2) hs) (he := hs) (hpl := hpl), fun B ρ σ τs H Q Q' b s k h' => by
    refine h.dt B ρ σ τs H _ _ b s (fun c ρ1 v H1 s1 b1 q1 => ?_) h'
    obtain ⟨x, ex, q⟩ := asD_iff q1
    exact ⟨v, .ty T, _, .type T, _, rfl, .ty T, tyA_of (s1.rp ex) q.1, kit_ty (hk x), k _ _ _ _ (s1.pop.push fun G _ _ => .bl _) b.untail q.2⟩⟩
end
/-! ### a dict is not a list -/
section
open PySem.SeqAt AutoSeq1 MeetsSeq MeetsSeq2 MeetsSeq3
variable {M : Model} {A : Around} {E : Value → Shared → Prop} {s : Shared}
theorem list_ne_declines_dict (l b : Addr) (items : Array Value) (n : Nat) (dd : Option Addr) (sl : Array (Option Value)) (dd2 : Option Addr) (data2 : Data) (sl2 : Array (Option Value)) :
    Meets (Builtin.«list.__ne__» ⟨[.ref l, .ref b], []⟩) (fun _ R s => s.heap.get? l = some { cls := .type "list", dict := dd, data := .seq items n, slots := sl } ∧ s.heap.get? b = some { cls := .type "dict", dict := dd2, data := data2, slots := sl2 } ∧ R (.ok (.ret .notImplemented)) s) :=
  .of_wp fun prog w A R s h => by obtain ⟨hp, g, d, tk, os⟩ := s; obtain ⟨hl, hb, h⟩ := h; have f1 := F.sub_dict_list; wp_walk using wpAny_loadPart' hl, wpAny_loadPart' hb; exact ⟨_, rfl, h⟩
theorem dict_ne_list {prog : Program} {w : World} {l b : Addr} {o : Obj} {items : Array Value} {Q : Value → Shared → Prop} (hl : s.heap.get? l = some o) (hc : o.cls = .type "dict") (hb : s.heap.IsList b items) (hu : A.units < cLine) (h : Q (.bool true) s) :
    wpAny (model prog w) A (richCompare .NotEq (.ref l) (.ref b)) Q E s := by
  obtain ⟨⟨cls2, dd2, data2, sl2⟩, ho2, hc2, n2, hd2⟩ := id hb
  simp only at hc2 hd2
  subst hc2 hd2
  have hne : l ≠ b := fun e => by
    subst e
    rw [hl] at ho2
    cases ho2
    simp at hc
  have tl : s.TypeIs (.ref l) "dict" := ⟨_, hl, hc⟩
  have tb : s.TypeIs (.ref b) "list" := ⟨_, ho2, rfl⟩
  refine rc_ne_decline_or (k := false) tl tb (by decide) F.sub_list_dict F.slot_dict_ne F.slot_list_ne_refl (fun Q' hq => ?_) (fun Q' hq => ?_) (fun _ hq => wpAny_isSame_ref_other' hne hl ho2 (by simp) hq) (.inr hu) h
  · refine wpAny_call_entry F.slot_dict_ne tl F.entry_dict_ne ?_ (F.args_dict_ne_2 _ _)
    show wpAny _ _ (Builtin.Dict.dictSlotArgs "__ne__" ⟨[.ref l, .ref b], []⟩ >>= _) _ _ s
    refine wpAny_bind ?_
    unfold Builtin.Dict.dictSlotArgs
    refine wpAny_bind (wpAny_notOrdered_dict tl ?_)
    show wpAny _ _ (pure (Value.ref l, Value.ref b)) _ _ s
    refine wpAny_pure ?_
    refine wpAny_bind (wpAny_isInstance (T := "list") tb F.sub_list_dict ?_)
    simp only [Bool.not_false, if_true]
    refine wpAny_bind (wpAny_rule ?_)
    exact wpAny_pure ⟨_, rfl, hq⟩
  · obtain ⟨c1, c2, c3, c4⟩ := o
    simp only at hc
    subst hc
    exact call_meets F.slot_list_ne_refl tb F.entry_list_ne (F.args_list_ne_2 _ _) (list_ne_declines_dict b l items n2 dd2 sl2 c2 c3 c4) ⟨ho2, hl, hq⟩
end
/-! ### != of anything to a list -/
def neOk (x y : PyData) : Prop := cmpOk x y ∨ (∃ ds es, x = .dict ds ∧ noX x = true ∧ y = .list es) ∨ ∃ ds, x = .list ds ∧ y = .list []
def gNeA : D2 := fun a b k => asD a fun x => asD b fun y => neOk x y ∧ k (.d (.bool (!PyData.eqv x y)))
theorem gNeA_m : D2m gNeA := fun a b P P' hp h => by
  obtain ⟨i, rfl, h0⟩ := asD_iff h
  obtain ⟨j, rfl, h1, h2⟩ := asD_iff h0
  exact ⟨h1, hp _ h2⟩
def rNeA (K : PySem.W.Frag) : R2 := fun x y H Q => rNeC K x y H Q ∨ (∃ ds es, noX (.dict ds) = true ∧ Rp K H x (.dict ds) ∧ Rp K H y (.list es) ∧ Q (.bl true) H) ∨ ∃ ds, Rp K H x (.list ds) ∧ Rp K H y (.list []) ∧ Q (.bl (!ds.isEmpty)) H
section
variable {X : Cx} {g : Gm} {pins : List (Addr × Obj)} {σ : L2.St} {H : Hp} {s : Shared}
theorem Rp.dict_obj {v : V} {u : Value} {ds : List (PyData × PyData)} (I : Inv X pins σ H s) (nx : noX (.dict ds) = true) (r : Rp X.K H v (.dict ds)) (rx : RelV v u) : ∃ a o, u = .ref a ∧ s.heap.get? a = some o ∧ o.cls = .type "dict" := by
  cases r with
  | @dk a kvs ds' e _ =>
    cases (show u = Value.ref a from rx)
    rcases e with ea | ⟨ob, ea⟩
    · obtain ⟨_, _, vs, _, o, es, ep, h1, h2, _⟩ := (show ObjOk X.prog X.w H s.heap a (.dK kvs) from I.hok a _ ea)
      exact ⟨a, o, rfl, h1, h2.1⟩
    · obtain ⟨_, _, _, vs, _, o, es, ep, h1, h2, _⟩ := (show ObjOk X.prog X.w H s.heap a (.frz ob (.dK kvs)) from I.hok a _ ea)
      exact ⟨a, o, rfl, h1, h2.1⟩
  | @dt a kvs ds' e _ =>
    cases (show u = Value.ref a from rx)
    rcases e with ea | ⟨ob, ea⟩
    · obtain ⟨_, _, vs, _, o, es, ep, h1, h2, _⟩ := (show ObjOk X.prog X.w H s.heap a (.dT kvs) from I.hok a _ ea)
      exact ⟨a, o, rfl, h1, h2.1⟩
    · obtain ⟨_, _, _, vs, _, o, es, ep, h1, h2, _⟩ := (show ObjOk X.prog X.w H s.heap a (.frz ob (.dT kvs)) from I.hok a _ ea)
      exact ⟨a, o, rfl, h1, h2.1⟩
  | exc _ _ => exact absurd nx (by simp [noX])
theorem Rp.list_obj {v : V} {u : Value} {ds : List PyData} (I : Inv X pins σ H s) (r : Rp X.K H v (.list ds)) (rx : RelV v u) : ∃ a its, u = .ref a ∧ s.heap.IsList a its ∧ its.size = ds.length := by
  cases r with
  | @lst a xs _ hs hr =>
    cases (show u = Value.ref a from rx)
    obtain ⟨its, rv, p1, _⟩ := I.list hs.sq
    exact ⟨a, its.toArray, rfl, p1.isList, by rw [List.size_toArray, ← rv.length, hr.len]⟩
theorem op_neA (hu : X.A.units + 64 < cLine) : OpR X (compareOp .NotEq) (rNeA X.K) := by
  intro pins s σ H x y v u Q I rx ry h
  rcases h with h | ⟨ds, es, nx, r1, r2, q⟩ | ⟨ds, r1, r2, q⟩
  · exact op_neC hu pins s σ H x y v u Q I rx ry h
  · obtain ⟨a, o, rfl, e1, e2⟩ := Rp.dict_obj I nx r1 rx
    obtain ⟨b, its, rfl, e3, _⟩ := r2.list_obj I ry
    exact dict_ne_list e1 e2 e3 (by omega) ⟨.bl true, H, I, rfl, q⟩
  · obtain ⟨a, its, rfl, e1, z1⟩ := r1.list_obj I rx
    obtain ⟨b, its2, rfl, e2, z2⟩ := r2.list_obj I ry
    cases ds with
    | nil =>
      refine PySem.SeqAt.RcNeAt.lists (e := fun _ => true) e1 e2 (z1.trans z2.symm) (by omega) (fun j h1 h2 => ?_) _ _ _ _ ?_
      · rw [z2] at h2
        cases h2
      · rw [show ((List.range its.size).all fun _ => true) = true from List.all_eq_true.mpr fun _ _ => rfl]
        exact ⟨.bl false, H, I, rfl, q⟩
    | cons d ds =>
      exact PySem.SeqAt.RcNeAt.lists_lengths e1 e2 (by rw [z1, z2]; rfl) (by omega) _ _ _ _ ⟨.bl true, H, I, rfl, q⟩
theorem dc_neA (hu : X.A.units + 64 < cLine) : DCmp X g .NotEq (rNeA X.K) gNeA := ⟨op_neA hu, fun B ρ σ τs H x y cx cy Q b s h => by
  obtain ⟨i, e1, h⟩ := asD_iff h
  obtain ⟨j, e2, h1, h2⟩ := asD_iff h
  obtain ⟨r1, r2⟩ := s.two e1 e2
  have k := h2
  rcases h1 with h1 | ⟨ds, es, rfl, nx, rfl⟩ | ⟨ds, rfl, rfl⟩
  · exact .inl ⟨i, j, r1.dp h1.1, r2.dp h1.2.1, h1, h2 _ _ (s.pop.pop.push fun G _ _ => .bl _)⟩
  · refine .inr (.inl ⟨ds, es, nx, r1, r2, ?_⟩)
    have e : (!PyData.eqv (.dict ds) (.list es)) = true := by simp [PyData.eqv]
    rw [e] at h2
    exact h2 _ _ (s.pop.pop.push fun G _ _ => .bl _)
  · refine .inr (.inr ⟨ds, r1, r2, ?_⟩)
    have e : (!PyData.eqv (.list ds) (.list [])) = !ds.isEmpty := by cases ds <;> simp [PyData.eqv, PyData.eqvAll]
    rw [e] at h2
    exact h2 _ _ (s.pop.pop.push fun G _ _ => .bl _), gNeA_m⟩
end
end Dl
set_option Elab.async false
set_option linter.all false
set_option maxRecDepth 100000
set_option maxHeartbeats 4000000
/-! Dl: for x in xs: x.append(e), xs a list of lists of its own (and with enumerate). -/
namespace Dl
open PySem PySem.Spec PyProof.Rows L2
def dForA (j k : Nat) (d : DTK) : DTS := fun D ρ => ∃ (n : Nat) (I : Nat → Rho → Prop), I 0 ρ ∧ ∀ i ρ, I i ρ → ∃ ts, ρ[j]? = some (some (.ls ts)) ∧ ts.length = n ∧
  (i < n → k < ρ.length ∧ ∃ us, ts[i]? = some (.ls us) ∧ d (ρ.set k none) fun x => imm x = true ∧ us.length < 16777216 ∧ I (i + 1) (setN (ρ.set k none) j i ts (us ++ [.d x]))) ∧ (i = n → D.nx ρ)
section
variable {X : Cx} {g : Gm} {e : Expr} {te : TE} {d : DTK}
theorem ds_forA (j k : Nat) {x y : Str} {p1 p2 p3 apos cpos epos pos : Pos} (hp : PassesOwn (model X.prog X.w) X.A X.env X.xe) (hc : X.calm = true) (hj : PE X (.Name y p1) (tVar j)) (hk : PE X (.Name x p3) (tVar k)) (hg : PG X (.Name x p2) (gName k)) (h2 : DK X e te d)
    (hkp : ¬ k ∈ g.pn) (hjk : k ≠ j) (hbase : attributeBase (.Name x p3) "append" X.env (eval (.Name x p3) X.env) = eval (.Name x p3) X.env := by rfl)
    (hfew : ((backTo cpos (starEach (e :: []) X.env)).all (fun x => !x.1) && (backToKw cpos (keywordEach [] X.env)).all (fun x => x.1.isSome)
      && decide ((e :: []).length + ([] : List Keyword).length + (if ([] : List Keyword).isEmpty then 0 else 1) < 30)) = true := by rfl)
    (hline : (apos.endLine == cpos.line) = true := by rfl) (hs : starEach (e :: []) X.env = (false, eval e X.env) :: starEach [] X.env := by rfl) (hplain : (backTo cpos (starEach [] X.env)).any (·.1) = false := by rfl)
    (hsw : swapsWith (.Call (.Attribute (.Name x p3) "append" apos) [e] [] cpos) none epos.line X.env = pure false := by rfl)
    (hfs : ∀ x, foldedSetIterable (.Name y p1) X.env x = pure x := by intro _; rfl) :
    DS X g (.For (.Name x p2) (.Name y p1) [.Expr (.Call (.Attribute (.Name x p3) "append" apos) [e] [] cpos) epos] [] pos)
      (tFor (iList X.K (tVar j)) (gName k) (tSeq (tDrop (tBM X.K "list" rAppend (tVar k) (tCons te tNil))) tNext)) (dForA j k d) :=
  ⟨ps_for hp hc (pi_list hj) hg (pss_cons (ps_expr (pe_bm PySem.F.plainAttrs_list PySem.F.slot_list_append PySem.F.type_list_append mt_append hk (pa_cons h2.pe pa_nil hs) hbase hfew hline hs hplain) hsw) pss_nil) hfs, fun B ρ σ H D D' b s kk h => by
    obtain ⟨n, I, i0, turn⟩ := h
    obtain ⟨ts0, e0, l0, _, _⟩ := turn 0 ρ i0
    obtain ⟨a, vs0, hv0, hH0, hl0⟩ := s.ls e0
    have np : ∀ p ∈ B.pin, p.1 ≠ k := fun p q e => hkp (by rw [← e]; exact b.pin p q)
    refine ⟨_, hv0, a, rfl, ⟨_, .inl (.inl hH0)⟩, fun i m σ' H' => m = n - i ∧ i ≤ n ∧ σ'[j]? = some (some (.ref a)) ∧ ∃ ρ', SI X.K B ρ' σ' [] H' ∧ I i ρ', ⟨n, rfl, Nat.zero_le _, hv0, ρ, s, i0⟩, ?_⟩
    rintro i m σ' H' ⟨rfl, hle, hva, ρ', s', hI⟩
    obtain ⟨ts, e1, l1, go, fin⟩ := turn i ρ' hI
    obtain ⟨a1, vs1, hv1, hH1, hl1⟩ := s'.ls e1
    obtain rfl : a1 = a := by
      rw [hva] at hv1
      cases hv1
      rfl
    by_cases hlt : i < n
    · obtain ⟨hkl, us, e2, hd⟩ := go hlt
      obtain ⟨p', q, vs, L, M, w1, w2, w3, w4, _⟩ := SI.writeN (ws := []) (xs := []) (τs := []) s' rfl e1 e2
      rw [hva] at w1
      cases w1
      refine .inr ⟨⟨vs, _, .inl (.inl w2), w3⟩, fun σ2 H2 => ∃ m', m' < n - i ∧ (m' = n - (i + 1) ∧ i + 1 ≤ n ∧ σ2[j]? = some (some (.ref a1)) ∧ ∃ ρ2, SI X.K B ρ2 σ2 [] H2 ∧ I (i + 1) ρ2), fun σ2 H2 h => h, fun x H2 y => ?_⟩
      obtain ⟨rfl, yv⟩ := y
      have ex := yv vs (.inl (.inl w2))
      rw [w3] at ex
      cases ex
      have s1 : SI X.K B (ρ'.set k none) (σ'.set k (some (.ref q))) [] H2 := SI.any' (some (.ref q)) s'.forget (fun hl => by
        rw [List.length_set] at hl
        exact set_none hl) (fun p hp => by cases hp) np
      have hl2 := s'.len
      have f1 : (σ'.set k (some (.ref q)))[k]? = some (some (.ref q)) := by rw [List.getElem?_set_self (by omega)]
      have f2 : (σ'.set k (some (.ref q)))[j]? = some (some (.ref a1)) := by rw [List.getElem?_set_ne hjk]; exact hva
      have f3 : (ρ'.set k none)[j]? = some (some (.ls ts)) := by rw [List.getElem?_set_ne hjk]; exact e1
      refine ⟨.ref q, f1, tyL w4, h2.dt B _ _ [] H2 _ _ s1 (fun y x r2 q2 => ?_) hd⟩
      obtain ⟨q3, q4, q5⟩ := q2
      have s2 : SI X.K B (ρ'.set k none) (σ'.set k (some (.ref q))) (tmp [y] [T.d x] ++ []) H2 := s1.pushI r2 q3
      obtain ⟨p', q', vs', L', M', u1, u2, u3, u4, u5, u6, u7, u8⟩ := SI.writeN s2 rfl f3 e2
      rw [f2] at u1
      cases u1
      rw [w2] at u2
      cases u2
      rw [w3] at u3
      cases u3
      have s3 := u8 (L' ++ M') [] (L' ++ M') (by rw [List.append_nil]) (List.Sublist.refl _)
      rw [List.map_append, List.map_append, ← u5, ← u6, ← u7] at s3
      exact ⟨q, _, y, rfl, rfl, u4, lim_lt (by rw [List.length_map]; rw [u5, List.length_map] at q4; exact q4), _, Nat.sub_lt_sub_left hlt (Nat.lt_succ_self i), rfl, hlt, f2, _, s3, q5⟩
    · have ei : i = n := by omega
      subst ei
      exact .inl ⟨⟨vs1, .inl (.inl hH1), by omega⟩, kk.nx _ _ _ s' (fin rfl)⟩⟩
end
theorem SI.newV {K : PySem.W.Frag} {B : Base} {ρ : Rho} {σ : L2.St} {τs : List (V × C)} {H : Hp} {vs : List V} {p : Addr} (s : SI K B ρ σ τs H) (hp : H p = none) : SI K B ρ σ τs (upd H p (.tup vs)) := by
  obtain ⟨G, fs, ft, c⟩ := s
  obtain ⟨fg, fh, fn⟩ := c.free hp
  have k := c.keep (o := .tup vs) hp
  have gx : Ex G (upd G p (.tup vs)) := ex_upd (Ex.refl G) fg
  refine ⟨upd G p (.tup vs), fs, ft, c.g0.trans gx, fun a o e => ?_, ex_upd c.h0 fh, fun a o ho e => ?_, fun a q1 q2 => ?_, c.slots.mono gx.er fun a h => k a (List.mem_append_left _ h), c.temps.mono gx.er fun a h => k a (List.mem_append_right _ h), c.nd, fun a h => ?_, c.pin⟩
  · by_cases ha : a = p
    · subst ha
      rw [upd_same] at e
      rw [upd_same]
      exact e
    · rw [upd_ne ha] at e
      rw [upd_ne ha]
      exact c.gh _ _ e
  · by_cases ha : a = p
    · subst ha
      rw [upd_same] at e
      rw [upd_same]
      exact e
    · rw [upd_ne ha] at e
      rw [upd_ne ha]
      exact c.tup _ _ ho e
  · by_cases ha : a = p
    · subst ha
      exact absurd fh q2
    · rw [upd_ne ha]
      exact c.new a q1 q2
  · have na : a ≠ p := fun e => by
      subst e
      exact fn h
    rw [upd_ne na]
    exact c.own a h
def dForAE (j ka k : Nat) (d : DTK) : DTS := fun D ρ => ∃ (n : Nat) (I : Nat → Rho → Prop), I 0 ρ ∧ ∀ i ρ, I i ρ → ∃ ts, ρ[j]? = some (some (.ls ts)) ∧ ts.length = n ∧
  (i < n → k < ρ.length ∧ ∃ us, ts[i]? = some (.ls us) ∧ d ((ρ.set k none).set ka (some (.d (.int (i : Nat))))) fun x => imm x = true ∧ us.length < 16777216 ∧ I (i + 1) (setN ((ρ.set k none).set ka (some (.d (.int (i : Nat))))) j i ts (us ++ [.d x]))) ∧ (i = n → D.nx ρ)
section
variable {X : Cx} {g : Gm} {e : Expr} {te : TE} {d : DTK}
theorem ds_forAE (j ka k : Nat) {x y z : Str} {p1 p2 p3 p4 p5 p6 tpos apos cpos epos pos : Pos} {kk : Nat} (hp : PassesOwn (model X.prog X.w) X.A X.env X.xe) (hc : X.calm = true) (hge : Gl X "enumerate") (hme : X.mg "enumerate" = none) (hj : PE X (.Name y p1) (tVar j)) (hk : PE X (.Name x p3) (tVar k))
    (hg : PG X (.Tuple [.Name z p4, .Name x p2] kk tpos) (gTup X.K 2 (gCons (gName ka) (gCons (gName k) gNil)))) (h2 : DK X e te d)
    (hkp : ¬ k ∈ g.pn) (hkap : ¬ ka ∈ g.pn) (hjk : k ≠ j) (hja : ka ≠ j) (hka : ka ≠ k) (hbase : attributeBase (.Name x p3) "append" X.env (eval (.Name x p3) X.env) = eval (.Name x p3) X.env := by rfl)
    (hfew : ((backTo cpos (starEach (e :: []) X.env)).all (fun x => !x.1) && (backToKw cpos (keywordEach [] X.env)).all (fun x => x.1.isSome)
      && decide ((e :: []).length + ([] : List Keyword).length + (if ([] : List Keyword).isEmpty then 0 else 1) < 30)) = true := by rfl)
    (hline : (apos.endLine == cpos.line) = true := by rfl) (hs : starEach (e :: []) X.env = (false, eval e X.env) :: starEach [] X.env := by rfl) (hplain : (backTo cpos (starEach [] X.env)).any (·.1) = false := by rfl)
    (hsw : swapsWith (.Call (.Attribute (.Name x p3) "append" apos) [e] [] cpos) none epos.line X.env = pure false := by rfl)
    (hse : starEach [.Name y p1] X.env = [(false, eval (.Name y p1) X.env)] := by rfl)
    (hfs : ∀ v, foldedSetIterable (.Call (.Name "enumerate" p5) [.Name y p1] [] p6) X.env v = pure v := by intro _; rfl) :
    DS X g (.For (.Tuple [.Name z p4, .Name x p2] kk tpos) (.Call (.Name "enumerate" p5) [.Name y p1] [] p6) [.Expr (.Call (.Attribute (.Name x p3) "append" apos) [e] [] cpos) epos] [] pos)
      (tFor (iEnum X.K (tCons (tVar j) tNil)) (gTup X.K 2 (gCons (gName ka) (gCons (gName k) gNil))) (tSeq (tDrop (tBM X.K "list" rAppend (tVar k) (tCons te tNil))) tNext)) (dForAE j ka k d) :=
  ⟨ps_for hp hc (pi_enum hge hme (pa_cons hj pa_nil hse) hse) hg (pss_cons (ps_expr (pe_bm PySem.F.plainAttrs_list PySem.F.slot_list_append PySem.F.type_list_append mt_append hk (pa_cons h2.pe pa_nil hs) hbase hfew hline hs hplain) hsw) pss_nil) hfs, fun B ρ σ H D D' b s kd h => by
    obtain ⟨n, I, i0, turn⟩ := h
    obtain ⟨ts0, e0, l0, _, _⟩ := turn 0 ρ i0
    obtain ⟨a, vs0, hv0, hH0, hl0⟩ := s.ls e0
    have np : ∀ p ∈ B.pin, p.1 ≠ k := fun p q e => hkp (by rw [← e]; exact b.pin p q)
    have np2 : ∀ p ∈ B.pin, p.1 ≠ ka := fun p q e => hkap (by rw [← e]; exact b.pin p q)
    refine ⟨_, hv0, a, _, rfl, .inl (.inl hH0), fun i m σ' H' => m = n - i ∧ i ≤ n ∧ σ'[j]? = some (some (.ref a)) ∧ ∃ ρ', SI X.K B ρ' σ' [] H' ∧ I i ρ', ⟨n, rfl, Nat.zero_le _, hv0, ρ, s, i0⟩, ?_⟩
    rintro i m σ' H' ⟨rfl, hle, hva, ρ', s', hI⟩
    obtain ⟨ts, e1, l1, go, fin⟩ := turn i ρ' hI
    obtain ⟨a1, vs1, hv1, hH1, hl1⟩ := s'.ls e1
    obtain rfl : a1 = a := by
      rw [hva] at hv1
      cases hv1
      rfl
    by_cases hlt : i < n
    · obtain ⟨hkl, us, e2, hd⟩ := go hlt
      obtain ⟨p', q, vs, L, M, w1, w2, w3, w4, _⟩ := SI.writeN (ws := []) (xs := []) (τs := []) s' rfl e1 e2
      rw [hva] at w1
      cases w1
      refine .inr ⟨⟨vs, _, .inl (.inl w2), w3⟩, fun σ2 H2 => ∃ m', m' < n - i ∧ (m' = n - (i + 1) ∧ i + 1 ≤ n ∧ σ2[j]? = some (some (.ref a1)) ∧ ∃ ρ2, SI X.K B ρ2 σ2 [] H2 ∧ I (i + 1) ρ2), fun σ2 H2 h => h, fun x H2 y => ?_⟩
      obtain ⟨T, x', rfl, hT, rfl, yv⟩ := y
      have ex := yv vs (.inl (.inl w2))
      rw [w3] at ex
      cases ex
      have hne : ∀ o r, H' o = some r → o ≠ T := fun o r ho z => by
        rw [z, hT] at ho
        cases ho
      have s0 : SI X.K B (ρ'.set k none) σ' [] (upd H' T (.tup [.int (i : Nat), .ref q])) := SI.newV (vs := [.int (i : Nat), .ref q]) s'.forget hT
      have s0b : SI X.K B ((ρ'.set k none).set ka (some (.d (.int (i : Nat))))) (σ'.set ka (some (.int (i : Nat)))) [] (upd H' T (.tup [.int (i : Nat), .ref q])) :=
        SI.set' (x := .d (.int (i : Nat))) (s0.push fun G _ _ => .int _) (fun p hp => by cases hp) np2
      have s1 : SI X.K B ((ρ'.set k none).set ka (some (.d (.int (i : Nat))))) ((σ'.set ka (some (.int (i : Nat)))).set k (some (.ref q))) [] (upd H' T (.tup [.int (i : Nat), .ref q])) := SI.any' (some (.ref q)) s0b (fun hl => by
        rw [List.length_set, List.length_set] at hl
        rw [List.getElem?_set_ne hka]
        exact set_none hl) (fun p hp => by cases hp) np
      have hl2 := s'.len
      have f1 : ((σ'.set ka (some (.int (i : Nat)))).set k (some (.ref q)))[k]? = some (some (.ref q)) := by rw [List.getElem?_set_self (by rw [List.length_set]; omega)]
      have f2 : ((σ'.set ka (some (.int (i : Nat)))).set k (some (.ref q)))[j]? = some (some (.ref a1)) := by rw [List.getElem?_set_ne hjk, List.getElem?_set_ne hja]; exact hva
      have f3 : ((ρ'.set k none).set ka (some (.d (.int (i : Nat)))))[j]? = some (some (.ls ts)) := by rw [List.getElem?_set_ne hja, List.getElem?_set_ne hjk]; exact e1
      have g2 : (upd H' T (.tup [.int (i : Nat), .ref q])) a1 = some (.lst vs) := by rw [upd_ne (hne _ _ w2)]; exact w2
      have g4 : (upd H' T (.tup [.int (i : Nat), .ref q])) q = some (.lst (L.map (·.1))) := by rw [upd_ne (hne _ _ w4)]; exact w4
      refine ⟨T, [.int (i : Nat), .ref q], rfl, .inl (.inl upd_same), rfl, _, _, rfl, _, _, rfl, rfl, .ref q, f1, tyL g4, h2.dt B _ _ [] _ _ _ s1 (fun y x r2 q2 => ?_) hd⟩
      obtain ⟨q3, q4, q5⟩ := q2
      have s2 : SI X.K B ((ρ'.set k none).set ka (some (.d (.int (i : Nat))))) ((σ'.set ka (some (.int (i : Nat)))).set k (some (.ref q))) (tmp [y] [.d x] ++ []) (upd H' T (.tup [.int (i : Nat), .ref q])) := s1.pushI r2 q3
      obtain ⟨p', q', vs', L', M', u1, u2, u3, u4, u5, u6, u7, u8⟩ := SI.writeN s2 rfl f3 e2
      rw [f2] at u1
      cases u1
      rw [g2] at u2
      cases u2
      rw [w3] at u3
      cases u3
      have s3 := u8 (L' ++ M') [] (L' ++ M') (by rw [List.append_nil]) (List.Sublist.refl _)
      rw [List.map_append, List.map_append, ← u5, ← u6, ← u7] at s3
      exact ⟨q, _, y, rfl, rfl, u4, lim_lt (by rw [List.length_map]; rw [u5, List.length_map] at q4; exact q4), _, Nat.sub_lt_sub_left hlt (Nat.lt_succ_self i), rfl, hlt, f2, _, s3, q5⟩
    · have ei : i = n := by omega
      subst ei
      exact .inl ⟨⟨vs1, .inl (.inl hH1), by omega⟩, kd.nx _ _ _ s' (fin rfl)⟩⟩
end
/-! ### x[i].append((a, b)) -/
theorem SI.pushIs {K : PySem.W.Frag} {B : Base} {ρ : Rho} {σ : L2.St} {τs : List (V × C)} {H : Hp} : ∀ {vs : List V} {xs : List PyData}, SI K B ρ σ τs H → RpL K H vs xs → immL xs = true → SI K B ρ σ (tmp vs (xs.map T.d) ++ τs) H
  | _, _, s, .nil, _ => s
  | _, _, s, .cons h t, e => by
    rw [immL, Bool.and_eq_true] at e
    exact (SI.pushIs s t e.2).pushI h e.1
def dAppNT (dn : DTN) (d : Rho → (List PyData → Prop) → Prop) : DT := fun ρ Q => dn ρ fun j k ts u => (∃ us, u = .ls us) ∧ d ρ fun xs => match u with
  | .ls us => immL xs = true ∧ xs.length ≤ 16777216 ∧ us.length < 16777216 ∧ Q (.t (.d .none)) (setN ρ j k ts (us ++ [.d (.tuple xs)]))
  | _ => False
section
variable {X : Cx} {g : Gm} {a : Expr} {ta : TE} {es : List Expr} {tA : TA} {dn : DTN} {d : Rho → (List PyData → Prop) → Prop}
theorem de_appNT {x1 : Nat} {tpos apos cpos : Pos} (h : DN X a ta dn) (h2 : DKs X es tA d) (hbase : attributeBase a "append" X.env (eval a X.env) = eval a X.env := by rfl)
    (hfew : ((backTo cpos (starEach ((.Tuple es x1 tpos) :: []) X.env)).all (fun x => !x.1) && (backToKw cpos (keywordEach [] X.env)).all (fun x => x.1.isSome)
      && decide (((Expr.Tuple es x1 tpos) :: []).length + ([] : List Keyword).length + (if ([] : List Keyword).isEmpty then 0 else 1) < 30)) = true := by rfl)
    (hline : (apos.endLine == cpos.line) = true := by rfl) (hs : starEach ((.Tuple es x1 tpos) :: []) X.env = (false, eval (.Tuple es x1 tpos) X.env) :: starEach [] X.env := by rfl) (hplain : (backTo cpos (starEach [] X.env)).any (·.1) = false := by rfl) :
    DE X g (.Call (.Attribute a "append" apos) [.Tuple es x1 tpos] [] cpos) (tBM X.K "list" rAppend ta (tCons (tTup tA) tNil)) (dAppNT dn d) :=
  ⟨pe_bm PySem.F.plainAttrs_list PySem.F.slot_list_append PySem.F.type_list_append mt_append h.pe (pa_cons (pe_tup h2.pa) pa_nil hs) hbase hfew hline hs hplain, fun B ρ σ τs H Q Q' b s k h' => by
    refine h.dt B ρ σ τs H _ _ s (fun j kk ts u p vs v e1 e2 e3 e4 e5 r q => ?_) h'
    obtain ⟨⟨us, rfl⟩, q⟩ := q
    obtain ⟨p', a', vs', L, M, w1, w2, w3, w4, _⟩ := SI.writeN (ws := []) (xs := []) (τs := τs) s rfl e1 e2
    rw [e3] at w1
    cases w1
    rw [e4] at w2
    cases w2
    rw [e5] at w3
    cases w3
    refine ⟨tyL w4, h2.dt B ρ σ τs H _ _ s (fun ys xs r2 q2 => ?_) q⟩
    obtain ⟨q3, q3', q4, q5⟩ := q2
    refine ⟨lim_le (by rw [r2.len]; exact q3'), fun np hnp => ?_⟩
    have hne : ∀ o r, H o = some r → o ≠ np := fun o r ho z => by
      rw [z, hnp] at ho
      cases ho
    have s1 : SI X.K B ρ σ (tmp [.ref np] [T.d (.tuple xs)] ++ τs) (upd H np (.tup ys)) := SI.newT (s.pushIs r2 q3) r2.len hnp
    obtain ⟨p', a', vs', L', M', u1, u2, u3, u4, u5, u6, u7, u8⟩ := SI.writeN s1 rfl e1 e2
    rw [e3] at u1
    cases u1
    rw [upd_ne (hne _ _ e4), e4] at u2
    cases u2
    rw [e5] at u3
    cases u3
    have s2 := u8 (L' ++ M') [] (L' ++ M') (by rw [List.append_nil]) (List.Sublist.refl _)
    rw [List.map_append, List.map_append, ← u5, ← u6, ← u7] at s2
    refine ⟨a', _, .ref np, rfl, rfl, u4, lim_lt (by rw [List.length_map]; rw [u5, List.length_map] at q4; exact q4), ?_⟩
    exact k _ _ _ _ (SI.push s2 fun G _ _ => .non) b.untail q5⟩
end
end Dl
set_option Elab.async false
set_option linter.all false
set_option maxRecDepth 100000
set_option maxHeartbeats 4000000
/-! Dl: an expression that only looks at slots; all slots stay as they are. -/
namespace Dl
open PySem PySem.Spec PyProof.Rows L2
/-- the slots told, as known data; the others out of sight -/
def viewA (is : List Nat) : Nat → Rho → Rho
  | _, [] => []
  | i, o :: r => (match is.contains i, o with
    | true, some t => some (.d t.data)
    | _, _ => none) :: viewA is (i + 1) r
def view (is : List Nat) (ρ : Rho) : Rho := viewA is 0 ρ
def asPure (c : C) (k : T → Prop) : Prop := match c with
  | .t z => z.pure = true ∧ k z
  | .al _ => False
def dSee (is : List Nat) (d : DT) : DT := fun ρ Q => d (view is ρ) fun c _ => asPure c fun z => Q (.t z) ρ
section
variable {K : PySem.W.Frag} {B : Base} {σ : L2.St} {τs : List (V × C)} {H : Hp}
theorem ownS_view (is : List Nat) : ∀ (i : Nat) {ρ : Rho} {σ : L2.St}, σ.length = ρ.length → (∀ (j : Nat) (t : T), ρ[j]? = some (some t) → ∃ v, σ[j]? = some (some v) ∧ Rp K H v t.data) → OwnS K H H σ (viewA is i ρ) []
  | _, [], [], _, _ => .nil
  | _, [], _ :: _, e, _ => by cases e
  | _, _ :: _, [], e, _ => by cases e
  | i, o :: ρ, u :: σ, e, h => by
    have ih := ownS_view is (i + 1) (ρ := ρ) (σ := σ) (by simpa using e) fun j t q => by
      have := h (j + 1) t (by simpa using q)
      simpa using this
    unfold viewA
    cases hc : is.contains i with
    | false =>
      cases o <;> exact .non ih
    | true =>
      cases o with
      | none => exact .non ih
      | some t =>
        obtain ⟨v, q1, q2⟩ := h 0 t rfl
        have : u = some v := by simpa using q1
        subst this
        exact .som (fp := []) (fq := []) (.d q2) ih
theorem SI.see {ρ : Rho} (s : SI K B ρ σ τs H) (is : List Nat) : SI K ⟨H, H, B.pin⟩ (view is ρ) σ [] H := by
  have pin : ∀ p ∈ B.pin, σ[p.1]? = some (some p.2) := by
    obtain ⟨G, fs, ft, c⟩ := s
    exact c.pin
  exact ⟨H, [], [], { g0 := Ex.refl _, gh := Ex.refl _, h0 := Ex.refl _, tup := fun a o _ e => e, new := fun a e n => e, slots := ownS_view is 0 s.len fun j t e => s.slot e, temps := .nil, nd := List.nodup_nil, own := fun a m => (List.not_mem_nil m).elim, pin := pin }⟩
theorem SI.seen {ρ ρ1 : Rho} {σ1 : L2.St} {pn : List (Nat × V)} {v : V} {z : T} {H1 : Hp} (s : SI K B ρ σ τs H) (s1 : SI K ⟨H, H, pn⟩ ρ1 σ1 [(v, .t z)] H1) (pz : z.pure = true) : SI K B ρ σ ((v, .t z) :: τs) H1 := by
  have s0 : SI K B ρ σ (tmp [] [] ++ τs) H := s
  obtain ⟨f, c1, c2, c3, c4, c5⟩ := s0.call rfl
  cases c2
  have eH : hrem H [] = H := funext fun a => hrem_out (fun m => (List.not_mem_nil m).elim)
  rw [eH] at c1 c4 c5
  obtain ⟨Gc, fs, ft, d⟩ := s1
  cases d with
  | mk g0 gh h0 tup new slots temps nd own pin =>
  cases temps with
  | t o rr =>
  cases rr with
  | nil =>
  rename_i fr
  have nd2 := (List.nodup_append.mp nd).2.1
  rw [List.append_nil] at nd2
  exact c5 H1 Gc v z [] [] fr h0 gh .nil o rfl pz nd2 fun a m => (own a (List.mem_append_right _ (List.mem_append_left _ m))).2
end
section
variable {X : Cx} {g : Gm} {e : Expr} {te : TE} {d : DT}
theorem de_see (is : List Nat) (h : DE X { g with w := Wsh.none } e te d) : DE X g e te (dSee is d) :=
  ⟨h.pe, fun B ρ σ τs H Q Q' b s k hh => by
    refine h.dt ⟨H, H, B.pin⟩ (view is ρ) σ [] H _ _ ⟨fun p m => (List.not_mem_nil m).elim, fun _ _ _ _ _ _ _ _ q => q.elim, b.pin⟩ (s.see is) (fun c ρ1 v H1 s1 _ q => ?_) hh
    unfold asPure at q
    cases c with
    | al j => exact q.elim
    | t z => exact k _ _ _ _ (s.seen s1 q.1) (b.cons fun j e => by cases e) q.2⟩
end
theorem s_see {is : List Nat} {d : DT} {ρ : Rho} {Q : C → Rho → Prop} (k : d (view is ρ) fun c _ => asPure c fun z => Q (.t z) ρ) : dSee is d ρ Q := k
theorem s_pureT {z : T} {K : T → Prop} (h : z.pure = true) (k : K z) : asPure (.t z) K := ⟨h, k⟩
end Dl
set_option Elab.async false
set_option linter.all false
set_option maxRecDepth 100000
set_option maxHeartbeats 4000000
/-! Dl: for tg in x: .., the list x (known items) stays its own. -/
namespace Dl
open PySem PySem.Spec PyProof.Rows L2
def dForK (j : Nat) (dg : DTG) (db : DTS) : DTS := fun D ρ => atLs ρ j fun ts => asLv (leaves ts) fun ds => ∃ I : Nat → Rho → Prop, I 0 ρ ∧ (∀ i d ρ, ds[i]? = some d → I i ρ → dg (.d d) ρ fun ρ' => db { D with nx := I (i + 1), ct := I (i + 1), bk := D.nx } ρ') ∧
  (∀ i ρ, I i ρ → ρ[j]? = some (some (.ls ts))) ∧ ∀ ρ, I ds.length ρ → D.nx ρ
section
variable {X : Cx} {g : Gm} {tg : Expr} {body : List Stmt} {gt : TG} {tb : TS} {dg : DTG} {db : DTS} {x : Str} {np pos : Pos}
theorem ds_forK (j : Nat) (hp : PassesOwn (model X.prog X.w) X.A X.env X.xe) (hc : X.calm = true) (hj : PE X (.Name x np) (tVar j)) (hg : DG X { g with pn := j :: g.pn } false tg gt dg) (hb : DSs X { g with pn := j :: g.pn } body tb db)
    (hs : ∀ y, foldedSetIterable (.Name x np) X.env y = pure y := by intro _; rfl) : DS X g (.For tg (.Name x np) body [] pos) (tFor (iList X.K (tVar j)) gt tb) (dForK j dg db) :=
  ⟨ps_for hp hc (pi_list hj) hg.pg hb.ps hs, fun B ρ σ H D D' b s k h => by
    obtain ⟨ts, e1, h⟩ := atLs_iff h
    unfold asLv at h
    split at h
    rotate_left 1
    · exact h.elim
    rename_i ds eds
    have hts := leaves_eq eds
    obtain ⟨I, i0, turn, keepI, fin⟩ := h
    obtain ⟨a, vs0, z1, z2, z3⟩ := s.ls e1
    obtain ⟨B', hB⟩ : ∃ B' : Base, B' = { B with pin := (j, .ref a) :: B.pin } := ⟨_, rfl⟩
    have fwd : ∀ {ρ' : Rho} {σ' : L2.St} {τs : List (V × C)} {H' : Hp}, SI X.K B ρ' σ' τs H' → σ'[j]? = some (some (.ref a)) → SI X.K B' ρ' σ' τs H' := fun {ρ' σ' τs H'} q e => by
      obtain ⟨G, fs, ft, c⟩ := q
      subst hB
      have pin : ∀ p ∈ (j, V.ref a) :: B.pin, σ'[p.1]? = some (some p.2) := fun p m => by
        rcases List.mem_cons.mp m with rfl | m
        · exact e
        · exact c.pin p m
      exact ⟨G, fs, ft, { g0 := c.g0, gh := c.gh, h0 := c.h0, tup := c.tup, new := c.new, slots := c.slots, temps := c.temps, nd := c.nd, own := c.own, pin := pin }⟩
    have back : ∀ {ρ' : Rho} {σ' : L2.St} {τs : List (V × C)} {H' : Hp}, SI X.K B' ρ' σ' τs H' → SI X.K B ρ' σ' τs H' ∧ σ'[j]? = some (some (.ref a)) := fun {ρ' σ' τs H'} q => by
      obtain ⟨G, fs, ft, c⟩ := q
      subst hB
      exact ⟨⟨G, fs, ft, { g0 := c.g0, gh := c.gh, h0 := c.h0, tup := c.tup, new := c.new, slots := c.slots, temps := c.temps, nd := c.nd, own := c.own, pin := fun p m => c.pin p (List.mem_cons_of_mem _ m) }⟩, c.pin (j, .ref a) List.mem_cons_self⟩
    have b' : BOk X.K X.mg { g with pn := j :: g.pn } B' [] := ⟨b.low, fun y C ρ' σ' H' ex hm q w => b.wok y C ρ' σ' H' ex hm (back q).1 w, fun p m => by
      subst hB
      rcases List.mem_cons.mp m with rfl | m
      · exact List.mem_cons_self
      · exact List.mem_cons_of_mem _ (b.pin p m)⟩
    refine ⟨.ref a, z1, a, rfl, ⟨vs0, .inl (.inl z2)⟩, ?_⟩
    refine ⟨fun i m σ' H' => m = ds.length - i ∧ i ≤ ds.length ∧ ∃ ρ', SI X.K B' ρ' σ' [] H' ∧ I i ρ', ⟨ds.length, rfl, Nat.zero_le _, ρ, fwd s z1, i0⟩, ?_⟩
    rintro i m σ' H' ⟨rfl, hle, ρ', s', hI⟩
    obtain ⟨s0, hva⟩ := back s'
    obtain ⟨vs, y1, y2, y3⟩ := s'.lsG (keepI _ _ hI) hts hva
    by_cases hlt : i < ds.length
    · have e : ds[i]? = some ds[i] := List.getElem?_eq_getElem hlt
      have ev : vs[i]? = some vs[i] := List.getElem?_eq_getElem (by omega)
      refine .inr ⟨⟨vs, vs[i], .inl (.inl y1), ev⟩, fun σ2 H2 => ∃ ρ2, SI X.K B' ρ2 σ2 [] H2 ∧ I (i + 1) ρ2, fun σ2 H2 ⟨ρ2, s2, q2⟩ => ⟨ds.length - (i + 1), by omega, rfl, hlt, ρ2, s2, q2⟩, fun x H2 y => ?_⟩
      obtain ⟨rfl, y⟩ := y
      have ex := y vs (.inl (.inl y1))
      rw [ev] at ex
      cases ex
      have s4 := y3 i vs[i] ds[i] ev e
      refine hg.dt B' ρ' σ' [] H2 vs[i] (.d ds[i]) _ _ b' (fun _ p hp => by cases hp) s4 (fun ρ3 σ3 H3 s3 q3 => ?_) (turn i ds[i] ρ' e hI)
      exact hb.dt B' ρ3 σ3 H3 _ { D' with nx := I (i + 1), ct := I (i + 1), bk := D'.nx } b' s3 ⟨fun ρ4 σ4 H4 s4 q4 => ⟨ρ4, s4, q4⟩, fun t ρ4 σ4 v H4 s4 q4 => k.rt t ρ4 σ4 v H4 (back s4).1 q4, fun ρ4 σ4 H4 s4 q4 => k.nx _ _ _ (back s4).1 q4, fun ρ4 σ4 H4 s4 q4 => ⟨ρ4, s4, q4⟩⟩ q3
    · have e : i = ds.length := by omega
      subst e
      exact .inl ⟨⟨vs, .inl (.inl y1), by omega⟩, k.nx _ _ _ s0 (fin ρ' hI)⟩⟩
end
theorem s_forK {j : Nat} {dg : DTG} {db : DTS} {D : DEnds} {ρ : Rho} {ts : List T} {ds : List PyData} (h : ρ[j]? = some (some (.ls ts))) (h2 : leaves ts = some ds) (k : ∃ I : Nat → Rho → Prop, I 0 ρ ∧ (∀ i d ρ, ds[i]? = some d → I i ρ → dg (.d d) ρ fun ρ' => db { D with nx := I (i + 1), ct := I (i + 1), bk := D.nx } ρ') ∧
  (∀ i ρ, I i ρ → ρ[j]? = some (some (.ls ts))) ∧ ∀ ρ, I ds.length ρ → D.nx ρ) : dForK j dg db D ρ := by
  unfold dForK atLs asLv
  rw [h]
  simp only [h2]
  exact k
end Dl
set_option Elab.async false
set_option linter.all false
set_option maxRecDepth 100000
set_option maxHeartbeats 4000000
/-! Dl: sorted(xs), xs a list of data that are lists. -/
namespace Dl
open PySem PySem.Spec PyProof.Rows L2
abbrev dleD : PyData → PyData → Bool := PySem.W.dataLe false id
def rSortedD (K : PySem.W.Frag) : List V → Hp → VK → Prop := fun vs H Q => ∃ (a : Addr) (xs : List V) (ds : List PyData), vs = [V.ref a] ∧ SqL K H a xs ∧ DpAll K H xs ds ∧ (∀ x ∈ xs, ∃ t, x = V.ref t) ∧ (PySem.W.AllAlike ds ∧ PySem.W.Sortable ds ∧ PyData.depthAll ds ≤ 60) ∧
  ∀ (prs : List (V × PyData)) (p : Addr), prs.Perm (xs.zip ds) → prs.map (·.2) = ds.mergeSort dleD → H p = none → Q (.ref p) (upd H p (.lst (prs.map (·.1))))
theorem each_fst : ∀ {vs : List Value} {ds : List PyData}, vs.length = ds.length → PySem.W.EachIs (fun v (b : Value × PyData) => v = b.1) vs (vs.zip ds)
  | [], [], _ => .nil
  | [], _ :: _, h => by cases h
  | _ :: _, [], h => by cases h
  | v :: vs, d :: ds, h => .cons rfl (each_fst (by simpa using h))
theorem each_reads {h : Heap} : ∀ {vs : List Value} {ds : List PyData} {as : List Addr}, ReadsAll h vs ds as → PySem.W.EachIs (fun v (b : Value × PyData) => ∃ as, Reads h v b.2 as) vs (vs.zip ds)
  | _, _, _, .nil => .nil
  | _, _, _, .cons r t => .cons ⟨_, r⟩ (each_reads t)
theorem each_eq : ∀ {out : List Value} {bs : List (Value × PyData)}, PySem.W.EachIs (fun v b => v = b.1) out bs → out = bs.map (·.1)
  | _, _, .nil => rfl
  | _, _, .cons e t => by rw [List.map_cons, ← each_eq t, e]
theorem depth_all : ∀ {ds : List PyData} {d : PyData}, d ∈ ds → d.depth ≤ PyData.depthAll ds
  | x :: ds, d, h => by
    rw [PyData.depthAll]
    rcases List.mem_cons.mp h with rfl | h
    · omega
    · have := depth_all h
      omega
section
variable {X : Cx}
theorem cr_sortedD (hu : X.A.units + 64 < cLine) : CallR X (.builtin "sorted") (rSortedD X.K) := by
  intro pins s σ H vs us Q I r h
  obtain ⟨a, xs, ds, rfl, hs, hd, hx, ⟨ha, hk, hdp⟩, q⟩ := h
  obtain ⟨its, rv, hl, hz⟩ := I.list hs
  obtain ⟨u, rfl, ru⟩ := vals1 r
  obtain rfl : u = Value.ref a := ru
  obtain ⟨e1, e2⟩ := refs_back rv hx
  obtain ⟨as, hr⟩ := Dp.readsAll I _ _ its hd rv
  have hlen : its.length = ds.length := PySem.W.readsAll_len hr
  have em : (its.zip ds).map (fun z : Value × PyData => z.2) = ds := List.map_snd_zip (by omega)
  refine PySem.W.sorted_data (vs := its) (bs := its.zip ds) (enc := fun z : Value × PyData => z.2) (R := fun v b => v = b.1) hl.isList (each_fst hlen) (each_reads hr) (by rw [em]; exact ha) (by rw [em]; exact hk) ?hL (fun b hb => ?hU) fun out ho eo => ?_
  case hL =>
    rw [List.length_zip, hlen, Nat.min_self, ← hlen, ← rv.length]
    exact hz
  case hU =>
    have : b.2 ∈ ds := by
      rw [← em]
      exact List.mem_map.mpr ⟨b, hb, rfl⟩
    have := depth_all this
    omega
  have e3 := each_eq eo
  obtain ⟨sr, hsr⟩ : ∃ sr, (its.zip ds).mergeSort (PySem.W.dataLe false fun z : Value × PyData => z.2) = sr := ⟨_, rfl⟩
  rw [hsr] at e3
  have pm : sr.Perm (its.zip ds) := by
    rw [← hsr]
    exact List.mergeSort_perm _ _
  have e4 : sr.map (fun z : Value × PyData => z.2) = ds.mergeSort dleD := by
    rw [← hsr]
    exact (List.map_mergeSort (r := PySem.W.dataLe false fun z : Value × PyData => z.2) (s := dleD) (f := fun z : Value × PyData => z.2) (fun x _ y _ => rfl)).trans (by rw [em])
  obtain ⟨c, hc⟩ := PyProof.Rows.sortedAll_at s.heap its out.toArray
  have op : out.Perm its := by
    rw [e3]
    have := pm.map (fun z : Value × PyData => z.1)
    rwa [List.map_fst_zip (by omega)] at this
  have h3 : ∀ u ∈ out, ∃ a, u = Value.ref a := fun u hu => e2 u (op.mem_iff.mp hu)
  have hp : (out.map backV).Perm xs := by
    rw [e1]
    exact op.map backV
  have hdd : s.heap.objs.size ≤ s.heap.objs.size + 1 := Nat.le_succ _
  have hq := q (sr.map fun z => (backV z.1, z.2)) (s.heap.objs.size + 1) ?_ ?_ (I.hok.fresh hdd)
  · rw [List.map_map] at hq
    have ei : sr.map ((fun z : V × PyData => z.1) ∘ fun z : Value × PyData => (backV z.1, z.2)) = out.map backV := by
      rw [e3, List.map_map]
      rfl
    rw [ei] at hq
    refine ⟨.ref (s.heap.objs.size + 1), upd H (s.heap.objs.size + 1) (.lst (out.map backV)), I.laid (t' := s.toks) (fun _ _ => PyProof.Rows.sortedAll_old) hdd ⟨?_, out, c, vals_back h3, hc⟩, rfl, hq⟩
    rw [hp.length_eq]
    exact hz
  · have := pm.map fun z : Value × PyData => (backV z.1, z.2)
    have e5 : (its.zip ds).map (fun z : Value × PyData => (backV z.1, z.2)) = xs.zip ds := by
      rw [e1, List.zip_map_left]
      rfl
    rwa [e5] at this
  · rw [List.map_map]
    exact e4
end
def sortOkD (ds : List PyData) : Prop := PySem.W.AllAlike ds ∧ PySem.W.Sortable ds ∧ PyData.depthAll ds ≤ 60 ∧ PyData.canLayAll0 ds = true ∧ ∀ d ∈ ds, (∃ xs, d = .list xs) ∨ ∃ xs, d = .tuple xs
def fSortD : D1 := fun o k => asF o fun ds => sortOkD ds ∧ k (.ls ((ds.mergeSort dleD).map T.d))
theorem fSortD_m : D1m fSortD := fun o P P' hp h => by
  obtain ⟨t, ds, rfl, e2, q1, q2⟩ := asF_iff h
  show (match (some t).bind flat with
    | some ds => sortOkD ds ∧ P' (.ls ((ds.mergeSort dleD).map T.d))
    | none => False)
  rw [show (some t).bind flat = some ds from e2]
  exact ⟨q1, hp _ q2⟩
theorem RpL.zipD {K : PySem.W.Frag} {G : Hp} : ∀ {vs : List V} {ds : List PyData}, RpL K G vs ds → ∀ z ∈ vs.zip ds, Rp K G z.1 z.2
  | _, _, .nil, z, m => by cases m
  | _, _, .cons h t, z, m => by
    rw [List.zip_cons_cons] at m
    rcases List.mem_cons.mp m with rfl | m
    · exact h
    · exact RpL.zipD t z m
theorem rpL_ofD {K : PySem.W.Frag} {G : Hp} : ∀ {prs : List (V × PyData)}, (∀ z ∈ prs, Rp K G z.1 z.2) → RpL K G (prs.map (·.1)) (prs.map (·.2))
  | [], _ => .nil
  | z :: prs, h => .cons (h z List.mem_cons_self) (rpL_ofD fun y m => h y (List.mem_cons_of_mem _ m))
theorem Rp.refL {K : PySem.W.Frag} {G : Hp} {v : V} {xs : List PyData} (h : Rp K G v (.list xs)) : ∃ t, v = .ref t := by
  cases h <;> exact ⟨_, rfl⟩
theorem Rp.refT {K : PySem.W.Frag} {G : Hp} {v : V} {xs : List PyData} (h : Rp K G v (.tuple xs)) : ∃ t, v = .ref t := by
  cases h <;> exact ⟨_, rfl⟩
theorem RpL.refs {K : PySem.W.Frag} {G : Hp} : ∀ {vs : List V} {ds : List PyData}, RpL K G vs ds → (∀ d ∈ ds, (∃ xs, d = .list xs) ∨ ∃ xs, d = .tuple xs) → ∀ x ∈ vs, ∃ t, x = V.ref t
  | _, _, .nil, _, x, m => by cases m
  | _, _, .cons (d := d) h t, k, x, m => by
    rcases List.mem_cons.mp m with rfl | m
    · rcases k _ List.mem_cons_self with ⟨xs, e⟩ | ⟨xs, e⟩
      · rw [e] at h
        exact Rp.refL h
      · rw [e] at h
        exact Rp.refT h
    · exact RpL.refs t (fun y hy => k y (List.mem_cons_of_mem _ hy)) x m
section
variable {X : Cx} {g : Gm} {e : Expr} {te : TE} {d : DT} {p pos : Pos}
theorem dr_sortD : DR1 X g (rSortedD X.K) fSortD := fun B ρ σ τs H x c Q b s h => by
  obtain ⟨t, ds, e1, e2, ⟨k1, k2, k3, k4, k5⟩, q⟩ := asF_iff h
  obtain ⟨a, vs, rfl, w1, w2, w3, w4, w5⟩ := s.itms e1 (itms_flat e2)
  refine ⟨a, vs, ds, rfl, w2 e2, RpL.dp w3 k4, RpL.refs w3 k5, ⟨k1, k2, k3⟩, fun prs r h1 h2 hr => ?_⟩
  refine q _ _ ?_
  have s2 := w5 (prs.map (·.1)) (prs.map (·.2)) fun G rr => rpL_ofD fun z m => RpL.zipD rr z (h1.mem_iff.mp m)
  have s3 := SI.newF s2 (by simp) hr
  rw [h2] at s3
  exact s3
theorem de_sortD (hu : X.A.units + 64 < cLine) (hg : Gl X "sorted") (hx : X.mg "sorted" = none) (h : DE X g e te d) (hs : starEach [e] X.env = (false, eval e X.env) :: starEach [] X.env := by rfl) : DE X g (.Call (.Name "sorted" p) [e] [] pos) (tCB (rSortedD X.K) (tCons te tNil)) (dC1 fSortD d) :=
  de_c1 (cr_sortedD hu) dr_sortD fSortD_m hg hx (by decide +kernel) h (hs := hs)
end
end Dl
set_option Elab.async false
set_option linter.all false
set_option maxRecDepth 100000
set_option maxHeartbeats 4000000
/-! Dl: x.count(k), x a list of whole numbers. -/
namespace Dl
open PySem PySem.Spec PyProof.Rows L2
def dCnt (j : Nat) (d : DT) : DT := fun ρ Q => lsD ρ j fun _ => d ρ fun c ρ1 => asI (dat ρ1 c) fun k => lsD ρ1 j fun ds => ∃ ns : List Int, ds = ns.map PyData.int ∧ Q (.t (.d (.int (ns.count k : Nat)))) ρ1
section
variable {X : Cx} {g : Gm} {e : Expr} {te : TE} {d : DT} {x : Str} {np apos cpos : Pos}
theorem de_count (j : Nat) (h : DE X g e te d) (hN : X.N[j]? = some x := by rfl) (hv : Vis X.env.scope x := by first | exact Or.inl rfl | exact Or.inr (Or.inl rfl) | exact Or.inr (Or.inr rfl))
    (hd : (x == ("__debug__" : Str)) = false := by decide) (hcd : (x == ("__classdict__" : Str)) = false := by decide)
    (hbase : attributeBase (.Name x np) "count" X.env (eval (.Name x np) X.env) = eval (.Name x np) X.env := by rfl)
    (hfew : ((backTo cpos (starEach (e :: []) X.env)).all (fun x => !x.1) && (backToKw cpos (keywordEach [] X.env)).all (fun x => x.1.isSome)
      && decide ((e :: []).length + ([] : List Keyword).length + (if ([] : List Keyword).isEmpty then 0 else 1) < 30)) = true := by rfl)
    (hline : (apos.endLine == cpos.line) = true := by rfl) (hs : starEach (e :: []) X.env = (false, eval e X.env) :: starEach [] X.env := by rfl) (hplain : (backTo cpos (starEach [] X.env)).any (·.1) = false := by rfl) :
    DE X g (.Call (.Attribute (.Name x np) "count" apos) [e] [] cpos) (tBM X.K "list" (rCntI X.K) (tVar j) (tCons te tNil)) (dCnt j d) :=
  ⟨pe_bm PySem.F.plainAttrs_list PySem.F.slot_list_count PySem.F.type_list_count mt_lcount (vis_or j hN hv hd hcd) (pa_cons h.pe pa_nil hs) hbase hfew hline hs hplain, fun B ρ σ τs H Q Q' b s k h' => by
    obtain ⟨t0, ds0, e0, e0', h'⟩ := lsD_iff h'
    obtain ⟨v0, z1, z2⟩ := s.slot e0
    rw [e0'] at z2
    obtain ⟨a, vs, rfl, z3, z4⟩ := z2.listV
    refine ⟨.ref a, z1, .inl ⟨rfl, _, z3⟩, h.dt B ρ σ τs H _ _ b s (fun c ρ1 y H1 s1 b1 q1 => ?_) h'⟩
    obtain ⟨i, ei, q2⟩ := asI_iff q1
    have ry := (s1.rp ei).intV
    obtain ⟨t, ds, e1, e1', ns, rfl, q3⟩ := lsD_iff q2
    obtain ⟨v1, y1, y2⟩ := s1.slot e1
    rw [z1] at y1
    cases y1
    rw [e1'] at y2
    obtain ⟨a', vs', e5, w3, w4⟩ := y2.listV
    cases e5
    rw [RpL.intsV w4] at w3
    subst ry
    exact ⟨a, ns, i, rfl, rfl, w3, k _ _ _ _ (s1.pop.push fun G _ _ => .int _) b.untail q3⟩⟩
end
end Dl
set_option Elab.async false
set_option linter.all false
set_option maxRecDepth 100000
set_option maxHeartbeats 4000000
/-! Dl: x = y[e], y a list of lists of its own, x another name for the item: len(x), x.index(v), x.pop(i), x.remove(v) behind it. -/
namespace Dl
open PySem PySem.Spec PyProof.Rows L2
/-- slot i holds the k-th item of the list that slot j owns -/
def Al (σ : L2.St) (H : Hp) (ρ : Rho) (i j k : Nat) : Prop := ∃ (p q : Addr) (vs : List V) (ts us : List T), σ[i]? = some (some (.ref q)) ∧ ρ[i]? = some none ∧ σ[j]? = some (some (.ref p)) ∧ H p = some (.lst vs) ∧ vs[k]? = some (.ref q) ∧ ρ[j]? = some (some (.ls ts)) ∧ ts[k]? = some (.ls us)
section
variable {K : PySem.W.Frag} {B : Base} {ρ : Rho} {σ : L2.St} {τs : List (V × C)} {H : Hp}
theorem SI.rpN {j k : Nat} {ts us : List T} {p q : Addr} {vs : List V} (s : SI K B ρ σ τs H) (e : ρ[j]? = some (some (.ls ts))) (e2 : ts[k]? = some (.ls us)) (e3 : σ[j]? = some (some (.ref p))) (e4 : H p = some (.lst vs)) (e5 : vs[k]? = some (.ref q)) :
    ∃ ws, H q = some (.lst ws) ∧ RpL K H ws (T.dataL us) := by
  obtain ⟨G, fs, ft, c⟩ := s
  obtain ⟨v0, f, w1, w2, w9⟩ := c.slot e
  cases w2 with
  | ls hp ho =>
  rename_i p0 vs0 f
  rw [e3] at w1
  cases w1
  rw [e4] at hp
  cases hp
  obtain ⟨v2, f2, fr2, x1, x2, x8, x9⟩ := ho.at_ e2
  rw [e5] at x1
  cases x1
  cases x2 with
  | ls hq hi =>
    exact ⟨_, hq, OwnL.rp c.gh.er hi fun _ _ => rfl⟩
end
section
variable (X : Cx) (g : Gm) (i j : Nat)
structure DKA (e : Expr) (te : TE) (t : Nat → DTK) : Prop where
  pe : PE X e te
  dt : ∀ (B : Base) (ρ : Rho) (σ : L2.St) (τs : List (V × C)) (H : Hp) (Q : VK) (Q' : PyData → Prop) (k : Nat), SI X.K B ρ σ τs H → Al σ H ρ i j k → (∀ v x, Rp X.K H v x → Q' x → Q v H) → t k ρ Q' → te σ H Q
structure EOkA (B : Base) (k : Nat) (D : Ends) (D' : DEnds) : Prop where
  nx : ∀ ρ σ H, SI X.K B ρ σ [] H → Al σ H ρ i j k → D'.nx ρ → D.nx σ H
  rt : ∀ x ρ σ v H, SI X.K B ρ σ [(v, .t x)] H → D'.rt x ρ → D.rt v H
  bk : ∀ ρ σ H, SI X.K B ρ σ [] H → D'.bk ρ → D.bk σ H
  ct : ∀ ρ σ H, SI X.K B ρ σ [] H → D'.ct ρ → D.ct σ H
structure DSA (st : Stmt) (ts : TS) (t : Nat → DTS) : Prop where
  ps : PS X st ts
  dt : ∀ (B : Base) (ρ : Rho) (σ : L2.St) (H : Hp) (D : Ends) (D' : DEnds) (k : Nat), BOk X.K X.mg g B [] → SI X.K B ρ σ [] H → Al σ H ρ i j k → EOkA X i j B k D D' → t k D' ρ → ts D σ H
structure DSZ (st : Stmt) (ts : TS) (t : Nat → DTS) : Prop where
  ps : PS X st ts
  dt : ∀ (B : Base) (ρ : Rho) (σ : L2.St) (H : Hp) (D : Ends) (D' : DEnds) (k : Nat), BOk X.K X.mg g B [] → SI X.K B ρ σ [] H → Al σ H ρ i j k → EOk X B D D' → t k D' ρ → ts D σ H
structure DSsA (st : List Stmt) (ts : TS) (t : Nat → DTS) : Prop where
  ps : PSs X st ts
  dt : ∀ (B : Base) (ρ : Rho) (σ : L2.St) (H : Hp) (D : Ends) (D' : DEnds) (k : Nat), BOk X.K X.mg g B [] → SI X.K B ρ σ [] H → Al σ H ρ i j k → EOk X B D D' → t k D' ρ → ts D σ H
end
section
variable {X : Cx} {g : Gm} {i j : Nat} {e a b : Expr} {te ta tb : TE} {d da db : Nat → DTK} {pos : Pos} {x z : Str}
theorem DK.al {d : DTK} (h : DK X e te d) : DKA X i j e te (fun _ => d) := ⟨h.pe, fun B ρ σ τs H Q Q' k s _ kk q => h.dt B ρ σ τs H Q Q' s kk q⟩
theorem Al.own {σ : L2.St} {H : Hp} {ρ : Rho} {k : Nat} {us ts : List T} (h : Al σ H ρ i j k) (e1 : ρ[j]? = some (some (.ls ts))) (e2 : ts[k]? = some (.ls us)) : ∃ (p q : Addr) (vs : List V), σ[i]? = some (some (.ref q)) ∧ ρ[i]? = some none ∧ σ[j]? = some (some (.ref p)) ∧ H p = some (.lst vs) ∧ vs[k]? = some (.ref q) := by
  obtain ⟨p, q, vs, ts', us', h1, h2, h3, h4, h5, h6, h7⟩ := h
  exact ⟨p, q, vs, h1, h2, h3, h4, h5⟩
def lsN (ρ : Rho) (j k : Nat) (Q : List T → List T → Prop) : Prop := match ρ[j]? with
  | some (some (.ls ts)) => match ts[k]? with
    | some (.ls us) => Q ts us
    | _ => False
  | _ => False
theorem lsN_iff {ρ : Rho} {j k : Nat} {Q : List T → List T → Prop} (h : lsN ρ j k Q) : ∃ ts us, ρ[j]? = some (some (.ls ts)) ∧ ts[k]? = some (.ls us) ∧ Q ts us := by
  unfold lsN at h
  split at h
  · rename_i ts e
    split at h
    · rename_i us e2
      exact ⟨ts, us, e, e2, h⟩
    · exact h.elim
  · exact h.elim
def aLen (j k : Nat) : DTK := fun ρ Q => lsN ρ j k fun _ us => Q (.int (us.length : Nat))
theorem dka_len {p np : Pos} (hg : Gl X "len") (hm : X.mg "len" = none) (hx : PE X (.Name x np) (tVar i)) (hs : starEach [.Name x np] X.env = (false, eval (.Name x np) X.env) :: starEach [] X.env := by rfl) :
    DKA X i j (.Call (.Name "len" p) [.Name x np] [] pos) (tCB (fun xs H Q => ∃ p ys, xs = [.ref p] ∧ (SqL X.K H p ys ∨ SqT X.K H p ys) ∧ Q (.int ys.length) H) (tCons (tVar i) tNil)) (aLen j) :=
  ⟨pe_callB call_len_seq hg hm PySem.boot_len (pa_cons hx pa_nil hs) (by decide) (by decide) hs, fun B ρ σ τs H Q Q' k s al kk h' => by
    obtain ⟨ts, us, e1, e2, q⟩ := lsN_iff h'
    obtain ⟨p, q', vs, a1, a2, a3, a4, a5⟩ := al.own e1 e2
    obtain ⟨ws, w1, w2⟩ := s.rpN e1 e2 a3 a4 a5
    refine ⟨_, a1, q', ws, rfl, .inl (.inl (.inl w1)), ?_⟩
    have e3 : ws.length = us.length := by rw [w2.len, dataL_map, List.length_map]
    rw [e3]
    exact kk _ _ (.int _) q⟩
def aOp (pre : Int → Int → Prop) (f : Int → Int → Int) (d d2 : Nat → DTK) (k : Nat) : DTK := fun ρ Q => d k ρ fun x => d2 k ρ fun y => asI (some x) fun a => asI (some y) fun b => pre a b ∧ Q (.int (f a b))
theorem dka_op {o : Operator} {pre : Int → Int → Prop} {f : Int → Int → Int} (ho : OpR X (binaryOp o) (rI pre fun a b => .int (f a b))) (h : DKA X i j a ta da) (h2 : DKA X i j b tb db) : DKA X i j (.BinOp a o b pos) (tOp (rI pre fun a b => .int (f a b)) ta tb) (aOp pre f da db) :=
  ⟨pe_op ho h.pe h2.pe, fun B ρ σ τs H Q Q' k s al kk h' => by
    refine h.dt B ρ σ τs H _ _ k s al (fun v x r q => h2.dt B ρ σ τs H _ _ k s al (fun v2 y r2 q2 => ?_) q) h'
    obtain ⟨a, e, q⟩ := asI_iff q2
    obtain ⟨b, e2, q⟩ := asI_iff q
    cases e
    cases e2
    exact ⟨a, b, r.intV, r2.intV, q.1, kk _ _ (.int _) q.2⟩⟩
theorem dka_div (h : DKA X i j a ta da) (h2 : DKA X i j b tb db) : DKA X i j (.BinOp a .FloorDiv b pos) (tOp (rI CDiv fun i j => .int (i / j)) ta tb) (aOp CDiv (fun i j => i / j) da db) := dka_op op_fdiv h h2
theorem dka_mul (h : DKA X i j a ta da) (h2 : DKA X i j b tb db) : DKA X i j (.BinOp a .Mult b pos) (tOp (rI CMul fun i j => .int (i * j)) ta tb) (aOp CMul (fun i j => i * j) da db) := dka_op op_mul h h2
def aIdx (j : Nat) (d : DTK) (k : Nat) : DTK := fun ρ Q => lsN ρ j k fun _ us => d ρ fun x => (SeqAt.shaped (.list (T.dataL us)) = true ∧ SeqAt.shaped x = true) ∧ match idxD (T.dataL us) x with
  | some i => Q (.int (i : Nat))
  | none => False
theorem dka_index {d : DTK} {np apos cpos : Pos} (hu : X.A.units + 65 < cLine) (h : DK X e te d) (hx : PE X (.Name x np) (tVar i))
    (hbase : attributeBase (.Name x np) "index" X.env (eval (.Name x np) X.env) = eval (.Name x np) X.env := by rfl)
    (hfew : ((backTo cpos (starEach (e :: []) X.env)).all (fun x => !x.1) && (backToKw cpos (keywordEach [] X.env)).all (fun x => x.1.isSome)
      && decide ((e :: []).length + ([] : List Keyword).length + (if ([] : List Keyword).isEmpty then 0 else 1) < 30)) = true := by rfl)
    (hline : (apos.endLine == cpos.line) = true := by rfl) (hs : starEach (e :: []) X.env = (false, eval e X.env) :: starEach [] X.env := by rfl) (hplain : (backTo cpos (starEach [] X.env)).any (·.1) = false := by rfl) :
    DKA X i j (.Call (.Attribute (.Name x np) "index" apos) [e] [] cpos) (tBM X.K "list" (rIndexD X.K) (tVar i) (tCons te tNil)) (aIdx j d) :=
  ⟨pe_bm PySem.F.plainAttrs_list PySem.F.slot_list_index PySem.F.type_list_index (mt_indexD hu) hx (pa_cons h.pe pa_nil hs) hbase hfew hline hs hplain, fun B ρ σ τs H Q Q' k s al kk h' => by
    obtain ⟨ts, us, e1, e2, h'⟩ := lsN_iff h'
    obtain ⟨p, q', vs, a1, a2, a3, a4, a5⟩ := al.own e1 e2
    obtain ⟨ws, w1, w2⟩ := s.rpN e1 e2 a3 a4 a5
    refine ⟨_, a1, tyL w1, h.dt B ρ σ τs H _ _ s (fun y x' r2 q2 => ?_) h'⟩
    obtain ⟨⟨g1, g2⟩, q3⟩ := q2
    split at q3
    · rename_i i hi
      obtain ⟨z, u1, u2, u3⟩ := idxD_get hi
      exact ⟨q', y, x', _, i, z, rfl, rfl, Rp.dp (.lst (.inl (.inl w1)) w2) (SeqAt.canLay_of_shaped g1), r2.dp (SeqAt.canLay_of_shaped g2), g1, g2, u1, u2, u3, kk _ _ (.int _) q3⟩
    · exact q3.elim⟩
theorem Al.set {σ : L2.St} {H : Hp} {ρ : Rho} {k m : Nat} {o : Option V} {t : Option T} (h : Al σ H ρ i j k) (mi : m ≠ i) (mj : m ≠ j) : Al (σ.set m o) H (ρ.set m t) i j k := by
  obtain ⟨p, q, vs, ts, us, h1, h2, h3, h4, h5, h6, h7⟩ := h
  exact ⟨p, q, vs, ts, us, by rw [List.getElem?_set_ne mi]; exact h1, by rw [List.getElem?_set_ne mi]; exact h2, by rw [List.getElem?_set_ne mj]; exact h3, h4, h5, by rw [List.getElem?_set_ne mj]; exact h6, h7⟩
def sAsgA (m : Nat) (d : Nat → DTK) (k : Nat) : DTS := fun D ρ => d k ρ fun x => imm x = true ∧ D.nx (ρ.set m (some (.d x)))
theorem dsa_asg (m : Nat) {p2 : Pos} (h : DKA X i j e te d) (hg : PG X (.Name z p2) (gName m)) (mi : m ≠ i) (mj : m ≠ j) (hp : ¬ m ∈ g.pn) (hs : swapsWithSole [.Name z p2] e pos.line X.env = pure false := by rfl) (hw : swappedStores [.Name z p2] e X.env = pure none := by rfl)
    (h1 : (assignEach [.Name z p2] X.env).map (·.2) = [assign (.Name z p2) X.env] := by rfl) : DSA X g i j (.Assign [.Name z p2] e pos) (tAsg te (gName m)) (sAsgA m d) :=
  ⟨ps_asg h.pe hg hs hw h1, fun B ρ σ H D D' k b s al kk h' => by
    refine h.dt B ρ σ [] H _ _ k s al (fun v x r q => ?_) h'
    exact kk.nx _ _ _ (SI.set' (s.pushI r q.1) (fun p hp => by cases hp) fun p q e => hp (by rw [← e]; exact b.pin p q)) (al.set mi mj) q.2⟩
def sAugA (m : Nat) (d : Nat → DTK) (k : Nat) : DTS := fun D ρ => match ρ[m]? with
  | some (some (.d (.int a))) => d k ρ fun x => asI (some x) fun b => D.nx (ρ.set m (some (.d (.int (a + b)))))
  | _ => False
theorem dsa_aug (m : Nat) {p2 : Pos} (h : DKA X i j e te d) (mi : m ≠ i) (mj : m ≠ j) (hp : ¬ m ∈ g.pn) (hN : X.N.Nodup) (hi : X.N[m]? = some z := by rfl) (hx : Loc X.env.scope z := by first | exact Or.inl rfl | exact Or.inr rfl)
    (hf : X.fn z = true ∨ X.env.scope.names.lookup z = some .local := by first | exact .inl rfl | exact .inr rfl | assumption) :
    DSA X g i j (.AugAssign (.Name z p2) .Add e pos) (tAug m te (rI0 fun i j => .int (i + j))) (sAugA m d) :=
  ⟨ps_aug hN hi hx h.pe iop_add hf, fun B ρ σ H D D' k b s al kk h' => by
    unfold sAugA at h'
    split at h'
    · rename_i a ea
      obtain ⟨v, hv, rv⟩ := s.slot ea
      rw [data_d] at rv
      refine ⟨v, hv, h.dt B ρ σ [] H _ _ k s al (fun y x r q => ?_) h'⟩
      obtain ⟨c, e, q⟩ := asI_iff q
      cases e
      refine ⟨a, c, rv.intV, r.intV, ?_⟩
      exact kk.nx _ _ _ (SI.set' (s.push fun G _ _ => .int _) (fun p hp => by cases hp) fun p q e => hp (by rw [← e]; exact b.pin p q)) (al.set mi mj) q
    · exact h'.elim⟩
def intT (ns : List Int) : List T := ns.map fun n => T.d (.int n)
def lsI (us : List T) (Q : List Int → Prop) : Prop := match (leaves us).bind intL with
  | some ns => Q ns
  | none => False
theorem lsI_iff {us : List T} {Q : List Int → Prop} (h : lsI us Q) : ∃ ns : List Int, us = ns.map (fun n => T.d (.int n)) ∧ Q ns := by
  unfold lsI at h
  split at h
  · rename_i ns ens
    obtain ⟨ds, eds, ens⟩ := Option.bind_eq_some_iff.mp ens
    have e2 := leaves_eq eds
    have e3 := intL_eq ens
    subst e3
    subst e2
    exact ⟨ns, by rw [List.map_map]; rfl, h⟩
  · exact h.elim
def sRemA (j : Nat) (d : DTK) (k : Nat) : DTS := fun D ρ => lsN ρ j k fun ts us => d ρ fun x => asI (some x) fun v => lsI us fun ns => match ns.findIdx? fun z => z == v with
  | some kk => D.nx (setN ρ j k ts ((ns.eraseIdx kk).map fun n => T.d (.int n)))
  | none => False
theorem dsz_remove {d : DTK} {np apos cpos : Pos} (h : DK X e te d) (hx : PE X (.Name x np) (tVar i))
    (hbase : attributeBase (.Name x np) "remove" X.env (eval (.Name x np) X.env) = eval (.Name x np) X.env := by rfl)
    (hfew : ((backTo cpos (starEach (e :: []) X.env)).all (fun x => !x.1) && (backToKw cpos (keywordEach [] X.env)).all (fun x => x.1.isSome)
      && decide ((e :: []).length + ([] : List Keyword).length + (if ([] : List Keyword).isEmpty then 0 else 1) < 30)) = true := by rfl)
    (hline : (apos.endLine == cpos.line) = true := by rfl) (hs : starEach (e :: []) X.env = (false, eval e X.env) :: starEach [] X.env := by rfl) (hplain : (backTo cpos (starEach [] X.env)).any (·.1) = false := by rfl)
    (hsw : swapsWith (.Call (.Attribute (.Name x np) "remove" apos) [e] [] cpos) none pos.line X.env = pure false := by rfl) :
    DSZ X g i j (.Expr (.Call (.Attribute (.Name x np) "remove" apos) [e] [] cpos) pos) (tDrop (tBM X.K "list" rRemI (tVar i) (tCons te tNil))) (sRemA j d) :=
  ⟨ps_expr (pe_bm PySem.F.plainAttrs_list PySem.F.slot_list_remove PySem.F.type_list_remove mt_remove hx (pa_cons h.pe pa_nil hs) hbase hfew hline hs hplain) hsw, fun B ρ σ H D D' k b s al kk h' => by
    obtain ⟨ts, us, e1, e2, h'⟩ := lsN_iff h'
    obtain ⟨p, q', vs, a1, a2, a3, a4, a5⟩ := al.own e1 e2
    obtain ⟨ws, w1, w2⟩ := s.rpN e1 e2 a3 a4 a5
    refine ⟨_, a1, tyL w1, h.dt B ρ σ [] H _ _ s (fun y x' r2 q2 => ?_) h'⟩
    obtain ⟨v, ev, q2⟩ := asI_iff q2
    cases ev
    have ry := r2.intV
    subst ry
    obtain ⟨ns, rfl, q3⟩ := lsI_iff q2
    have ew : ws = ns.map V.int := by
      have : T.dataL (ns.map fun n => T.d (.int n)) = ns.map PyData.int := by
        rw [dataL_map, List.map_map]
        exact List.map_congr_left fun _ _ => by simp
      rw [this] at w2
      exact RpL.intsV w2
    subst ew
    split at q3
    · rename_i kx ek
      obtain ⟨hk1, hk2, hk3⟩ := List.findIdx?_eq_some_iff_getElem.mp ek
      obtain ⟨p', a', vs', L, M, u1, u2, u3, u4, u5, u6, u7, u8⟩ := SI.writeN (ws := []) (xs := []) (τs := []) s rfl e1 e2
      rw [a3] at u1
      cases u1
      rw [a4] at u2
      cases u2
      rw [a5] at u3
      cases u3
      have hM : M = [] := by
        cases M with
        | nil => rfl
        | cons m ms => simp at u6
      subst hM
      rw [w1] at u4
      have hL : L.map (·.1) = ns.map V.int := (L2.HO.lst.inj (Option.some.inj u4)).symm
      have hlen : L.length = ns.length := by
        have := congrArg List.length hL
        rw [List.length_map, List.length_map] at this
        exact this
      have hlt : kx < L.length := by omega
      have s2 := u8 (L.eraseIdx kx) [L[kx]] L (erase_perm (List.getElem?_eq_getElem hlt)) (by rw [List.append_nil]; exact List.Sublist.refl _)
      refine ⟨q', ns, v, kx, rfl, rfl, w1, ?_, fun m hm e => ?_, ?_⟩
      · rw [List.getElem?_eq_getElem hk1, eq_of_beq hk2]
      · obtain ⟨hm2, e⟩ := List.getElem?_eq_some_iff.mp e
        have := hk3 m hm
        rw [e] at this
        simp at this
      · have e4 : (L.eraseIdx kx).map (·.1) = (ns.eraseIdx kx).map V.int := by rw [← erase_map, hL, erase_map]
        have e5 : (L.eraseIdx kx).map (·.2.1) = (ns.eraseIdx kx).map fun n => T.d (.int n) := by
          rw [← erase_map, ← u5, ← erase_map]
        rw [e4, e5] at s2
        exact kk.nx _ _ _ (SI.pops (ts := tmp [L[kx].1] [L[kx].2.1]) s2) q3
    · exact q3.elim⟩
def sAppPopA (f j : Nat) (d : Nat → DTK) (k : Nat) : DTS := fun D ρ => atLs ρ f fun fs => lsN ρ j k fun ts us => d k ρ fun x => asI (some x) fun v => lsI us fun ns => us.length ≤ 16777216 ∧ match ixN ns.length v with
  | some kk => match ns[kk]? with
    | some m => fs.length < 16777216 ∧ D.nx ((setN ρ j k ts ((ns.eraseIdx kk).map fun n => T.d (.int n))).set f (some (.ls (fs ++ [.d (.int m)]))))
    | none => False
  | none => False
theorem dsz_appPop (f : Nat) {y : Str} {yp np apos cpos apos2 cpos2 : Pos} (hfj : f ≠ j) (h : DKA X i j e te d) (hx : PE X (.Name x np) (tVar i)) (hy : PE X (.Name y yp) (tVar f))
    (hbase : attributeBase (.Name x np) "pop" X.env (eval (.Name x np) X.env) = eval (.Name x np) X.env := by rfl)
    (hfew : ((backTo cpos (starEach (e :: []) X.env)).all (fun x => !x.1) && (backToKw cpos (keywordEach [] X.env)).all (fun x => x.1.isSome)
      && decide ((e :: []).length + ([] : List Keyword).length + (if ([] : List Keyword).isEmpty then 0 else 1) < 30)) = true := by rfl)
    (hline : (apos.endLine == cpos.line) = true := by rfl) (hs : starEach (e :: []) X.env = (false, eval e X.env) :: starEach [] X.env := by rfl) (hplain : (backTo cpos (starEach [] X.env)).any (·.1) = false := by rfl)
    (hbase2 : attributeBase (.Name y yp) "append" X.env (eval (.Name y yp) X.env) = eval (.Name y yp) X.env := by rfl)
    (hfew2 : ((backTo cpos2 (starEach ((.Call (.Attribute (.Name x np) "pop" apos) [e] [] cpos) :: []) X.env)).all (fun x => !x.1) && (backToKw cpos2 (keywordEach [] X.env)).all (fun x => x.1.isSome)
      && decide (((Expr.Call (.Attribute (.Name x np) "pop" apos) [e] [] cpos) :: []).length + ([] : List Keyword).length + (if ([] : List Keyword).isEmpty then 0 else 1) < 30)) = true := by rfl)
    (hline2 : (apos2.endLine == cpos2.line) = true := by rfl) (hs2 : starEach ((.Call (.Attribute (.Name x np) "pop" apos) [e] [] cpos) :: []) X.env = (false, eval (.Call (.Attribute (.Name x np) "pop" apos) [e] [] cpos) X.env) :: starEach [] X.env := by rfl) (hplain2 : (backTo cpos2 (starEach [] X.env)).any (·.1) = false := by rfl)
    (hsw : swapsWith (.Call (.Attribute (.Name y yp) "append" apos2) [.Call (.Attribute (.Name x np) "pop" apos) [e] [] cpos] [] cpos2) none pos.line X.env = pure false := by rfl) :
    DSZ X g i j (.Expr (.Call (.Attribute (.Name y yp) "append" apos2) [.Call (.Attribute (.Name x np) "pop" apos) [e] [] cpos] [] cpos2) pos)
      (tDrop (tBM X.K "list" rAppend (tVar f) (tCons (tBM X.K "list" rPopAt (tVar i) (tCons te tNil)) tNil))) (sAppPopA f j d) :=
  ⟨ps_expr (pe_bm PySem.F.plainAttrs_list PySem.F.slot_list_append PySem.F.type_list_append mt_append hy (pa_cons (pe_bm PySem.F.plainAttrs_list PySem.F.slot_list_pop PySem.F.type_list_pop mt_popAt hx (pa_cons h.pe pa_nil hs) hbase hfew hline hs hplain) pa_nil hs2) hbase2 hfew2 hline2 hs2 hplain2) hsw, fun B ρ σ H D D' k b s al kk h' => by
    obtain ⟨fs, ef, h'⟩ := atLs_iff h'
    obtain ⟨pf, vf, z1, z2, _⟩ := s.ls ef
    obtain ⟨ts, us, e1, e2, h'⟩ := lsN_iff h'
    obtain ⟨p, q', vs, a1, a2, a3, a4, a5⟩ := al.own e1 e2
    obtain ⟨ws, w1, w2⟩ := s.rpN e1 e2 a3 a4 a5
    refine ⟨_, z1, tyL z2, _, a1, tyL w1, h.dt B ρ σ [] H _ _ k s al (fun y x' r2 q2 => ?_) h'⟩
    obtain ⟨v, ev, q2⟩ := asI_iff q2
    cases ev
    have ry := r2.intV
    subst ry
    obtain ⟨ns, rfl, hz, q3⟩ := lsI_iff q2
    have ew : ws = ns.map V.int := by
      have : T.dataL (ns.map fun n => T.d (.int n)) = ns.map PyData.int := by
        rw [dataL_map, List.map_map]
        exact List.map_congr_left fun _ _ => by simp
      rw [this] at w2
      exact RpL.intsV w2
    subst ew
    split at q3
    · rename_i kx ek
      split at q3
      · rename_i m em
        rw [List.length_map] at hz
        obtain ⟨h1, h2, h3, h4⟩ := ixN_seq ek
        obtain ⟨p', a', vs', L, M, u1, u2, u3, u4, u5, u6, u7, u8⟩ := SI.writeN (ws := []) (xs := []) (τs := []) s rfl e1 e2
        rw [a3] at u1
        cases u1
        rw [a4] at u2
        cases u2
        rw [a5] at u3
        cases u3
        have hM : M = [] := by
          cases M with
          | nil => rfl
          | cons m ms => simp at u6
        subst hM
        rw [w1] at u4
        have hL : L.map (·.1) = ns.map V.int := (L2.HO.lst.inj (Option.some.inj u4)).symm
        have hlen : L.length = ns.length := by
          have := congrArg List.length hL
          rw [List.length_map, List.length_map] at this
          exact this
        have hlt : kx < L.length := by omega
        have s2 := u8 (L.eraseIdx kx) [L[kx]] L (erase_perm (List.getElem?_eq_getElem hlt)) (by rw [List.append_nil]; exact List.Sublist.refl _)
        have e4 : (L.eraseIdx kx).map (·.1) = (ns.eraseIdx kx).map V.int := by rw [← erase_map, hL, erase_map]
        have e5 : (L.eraseIdx kx).map (·.2.1) = (ns.eraseIdx kx).map fun n => T.d (.int n) := by
          rw [← erase_map, ← u5, ← erase_map]
        rw [e4, e5] at s2
        have s3 := SI.pops (ts := tmp [L[kx].1] [L[kx].2.1]) s2
        have s4 : SI X.K B (setN ρ j k ts ((ns.eraseIdx kx).map fun n => T.d (.int n))) σ (tmp [.int m] [T.d (.int m)] ++ []) (upd H q' (.lst ((ns.eraseIdx kx).map V.int))) := s3.push fun G _ _ => .int _
        have ef' : (setN ρ j k ts ((ns.eraseIdx kx).map fun n => T.d (.int n)))[f]? = some (some (.ls fs)) := by
          unfold setN
          rw [List.getElem?_set_ne (fun z => hfj z.symm)]
          exact ef
        obtain ⟨hf1, hf2⟩ := q3
        refine ⟨q', ns.map V.int, v, kx, .int m, rfl, rfl, w1, by omega, by omega, ?_, ?_, ?_⟩
        · rw [List.length_map]
          exact h1
        · rw [List.getElem?_map, em]
          rfl
        obtain ⟨p5, L5, M5, y1, y2, y3, y4, y5, y6⟩ := SI.write (vs := [.int m]) (xs := [T.d (.int m)]) s4 rfl ef'
        rw [z1] at y1
        cases y1
        have s5 := y6 (L5 ++ M5) [] (L5 ++ M5) (by rw [List.append_nil]) (List.Sublist.refl _)
        rw [List.map_append, List.map_append, ← y3, ← y4, ← y5] at s5
        rw [erase_map]
        refine ⟨pf, _, .int m, rfl, rfl, y2, lim_lt (by rw [List.length_map]; rw [y3, List.length_map] at hf1; exact hf1), ?_⟩
        exact kk.nx _ _ _ s5 hf2
      · exact q3.elim
    · exact q3.elim⟩
theorem dssA_cons {st : Stmt} {rest : List Stmt} {ts us : TS} {t u : Nat → DTS} (h1 : DSA X g i j st ts t) (h2 : DSsA X g i j rest us u) : DSsA X g i j (st :: rest) (tSeq ts us) (fun k => dSeq (t k) (u k)) := ⟨pss_cons h1.ps h2.ps, fun B ρ σ H D D' k b s al kk h =>
  h1.dt B ρ σ H _ { D' with nx := u k D' } k b s al ⟨fun ρ' σ' H' s' al' q => h2.dt B ρ' σ' H' D D' k b s' al' kk q, kk.rt, kk.bk, kk.ct⟩ h⟩
theorem dssA_z {st : Stmt} {rest : List Stmt} {ts us : TS} {t : Nat → DTS} {u : DTS} (h1 : DSZ X g i j st ts t) (h2 : DSs X g rest us u) : DSsA X g i j (st :: rest) (tSeq ts us) (fun k => dSeq (t k) u) := ⟨pss_cons h1.ps h2.ps, fun B ρ σ H D D' k b s al kk h =>
  h1.dt B ρ σ H _ { D' with nx := u D' } k b s al ⟨fun ρ' σ' H' s' q => h2.dt B ρ' σ' H' D D' b s' kk q, kk.rt, kk.bk, kk.ct⟩ h⟩
theorem dssA_one {st : Stmt} {ts : TS} {t : Nat → DTS} (h1 : DSZ X g i j st ts t) : DSsA X g i j [st] ts t := ⟨pss_one h1.ps, h1.dt⟩
def dAl (i j : Nat) (d : DTK) (u : Nat → DTS) : DTS := fun D ρ => i < ρ.length ∧ nIx j d ρ fun j' k _ w => j' = j ∧ (∃ us, w = .ls us) ∧ u k D (ρ.set i none)
theorem dss_al (i j : Nat) {d : DTK} {rest : List Stmt} {us : TS} {u : Nat → DTS} {p2 : Pos} (h : DN X e te (nIx j d)) (hg : PG X (.Name z p2) (gName i)) (r : DSsA X g i j rest us u) (hij : i ≠ j) (hp : ¬ i ∈ g.pn) (hs : swapsWithSole [.Name z p2] e pos.line X.env = pure false := by rfl) (hw : swappedStores [.Name z p2] e X.env = pure none := by rfl)
    (h1 : (assignEach [.Name z p2] X.env).map (·.2) = [assign (.Name z p2) X.env] := by rfl) : DSs X g (.Assign [.Name z p2] e pos :: rest) (tSeq (tAsg te (gName i)) us) (dAl i j d u) :=
  ⟨pss_cons (ps_asg h.pe hg hs hw h1) r.ps, fun B ρ σ H D D' b s kk h' => by
    obtain ⟨hi, h'⟩ := h'
    have np : ∀ p ∈ B.pin, p.1 ≠ i := fun p q e => hp (by rw [← e]; exact b.pin p q)
    refine h.dt B ρ σ [] H _ _ s (fun j' k ts w p vs v e1 e2 e3 e4 e5 rr q => ?_) h'
    obtain ⟨rfl, ⟨us', rfl⟩, q⟩ := q
    obtain ⟨q', ws, rfl, _, _⟩ := Rp.listV (ds := us'.map T.data) (by rw [← data_ls]; exact rr)
    have s1 : SI X.K B (ρ.set i none) (σ.set i (some (.ref q'))) [] H := SI.any' (some (.ref q')) s.forget (fun hl => by
      rw [List.length_set] at hl
      exact set_none hl) (fun p hp => by cases hp) np
    have hl2 := s.len
    refine r.dt B _ _ H D D' k b s1 ⟨p, q', vs, ts, us', ?_, ?_, ?_, e4, e5, ?_, e2⟩ kk q
    · rw [List.getElem?_set_self (by omega)]
    · rw [List.getElem?_set_self (by omega)]
    · rw [List.getElem?_set_ne hij]
      exact e3
    · rw [List.getElem?_set_ne hij]
      exact e1⟩
end
/-- d[k], looked at -/
def kDk (j : Nat) (d : DTK) : DTK := fun ρ Q => atDk ρ j fun xs => d ρ fun x => keyD (some x) fun k => match getK xs k with
  | some z => Q z
  | none => False
section
variable {X : Cx} {e : Expr} {te : TE} {d : DTK} {pos : Pos} {x : Str}
theorem dk_dget (j : Nat) {np : Pos} (hu : X.A.units + 1 < cLine) (h : DK X e te d) (hN : X.N[j]? = some x := by rfl) (hv : Vis X.env.scope x := by first | exact Or.inl rfl | exact Or.inr (Or.inl rfl) | exact Or.inr (Or.inr rfl))
    (hd : (x == ("__debug__" : Str)) = false := by decide) (hcd : (x == ("__classdict__" : Str)) = false := by decide) (hs : NoSl e := by exact fun _ _ => rfl) :
    DK X (.Subscript (.Name x np) e pos) (tDGet (tVar j) te) (kDk j d) := ⟨pe_dget hu (vis_or j hN hv hd hcd) h.pe hs, fun B ρ σ τs H Q Q' s k h' => by
  obtain ⟨xs, e0, h'⟩ := atDk_iff h'
  obtain ⟨p, kvs0, z1, z2, _⟩ := s.dkAt e0
  refine ⟨.ref p, z1, h.dt B ρ σ τs H _ _ s (fun y x' r q1 => ?_) h'⟩
  obtain ⟨kk, ek, q2⟩ := keyD_iff q1
  cases ek
  have ry := r.keyV
  split at q2
  · rename_i dd hdd
    obtain ⟨p', kvs, v, w1, w2, w3, s3⟩ := s.getD e0 hdd
    rw [z1] at w1
    cases w1
    subst ry
    have gg := DGet.k (k := kk) w2
    rw [w3] at gg
    have r3 : Rp X.K H v dd := by
      have := s3.rp (x := dd) rfl
      exact this
    exact ⟨p, v, rfl, gg, k _ _ r3 q2⟩
  · exact q2.elim⟩
end
/-! ### // of great ints -/
def iDivW : D2 := gI CDivW fun i j => .int (i / j)
section
variable {X : Cx} {g : Gm} {a b : Expr} {ta tb : TE} {da db : DT} {pos : Pos}
theorem de_divW (ha : DE X g a ta da) (hb : DE X g b tb db) : DE X g (.BinOp a .FloorDiv b pos) (tOp (rI CDivW fun i j => .int (i / j)) ta tb) (dOp iDivW da db) := de_op op_fdivW (dr_I fun _ _ _ _ => .int _) gI_m ha hb
theorem dka_divW {i j : Nat} {ka kb : Nat → DTK} (h : DKA X i j a ta ka) (h2 : DKA X i j b tb kb) : DKA X i j (.BinOp a .FloorDiv b pos) (tOp (rI CDivW fun i j => .int (i / j)) ta tb) (aOp CDivW (fun i j => i / j) ka kb) := dka_op op_fdivW h h2
end
end Dl
set_option Elab.async false
set_option linter.all false
set_option maxRecDepth 100000
set_option maxHeartbeats 4000000
/-! Dl: x, y = a, b, whole numbers. -/
namespace Dl
open PySem PySem.Spec PyProof.Rows L2
def dPar (i j : Nat) (da : DTA) : DTS := fun D ρ => da ρ fun cs ρ1 => match cs with
  | [c1, c2] => asI (dat ρ1 c1) fun a => asI (dat ρ1 c2) fun b => D.nx ((ρ1.set i (some (.d (.int a)))).set j (some (.d (.int b))))
  | _ => False
section
variable {X : Cx} {g : Gm} {a b : Expr} {ta : TA} {da : DTA} {pos : Pos} {x y : Str}
theorem ds_par (i j : Nat) {px py pt pt2 : Pos} {kt k2 : Nat} (hc : X.calm = true) (hN : X.N.Nodup) (h : DA X g [a, b] ta da) (hij : i ≠ j) (hip : ¬ i ∈ g.pn) (hjp : ¬ j ∈ g.pn) (hi : X.N[i]? = some x := by rfl) (hj : X.N[j]? = some y := by rfl)
    (hx : X.env.scope.names.lookup x = some .local := by rfl) (hy : X.env.scope.names.lookup y = some .local := by rfl)
    (hw : swappedStores [.Tuple [.Name x px, .Name y py] kt pt] (.Tuple [a, b] k2 pt2) X.env = pure (some [x, y]) := by rfl)
    (hs : swapsWithSole [.Tuple [.Name x px, .Name y py] kt pt] (.Tuple [a, b] k2 pt2) pos.line X.env = pure false := by rfl) :
    DS X g (.Assign [.Tuple [.Name x px, .Name y py] kt pt] (.Tuple [a, b] k2 pt2) pos) (tPar i j ta) (dPar i j da) :=
  ⟨ps_par hc hN hi hj hij hx hy h.pa hw hs, fun B ρ σ H D D' bk s k h' => by
    refine h.dt B ρ σ [] H _ _ bk s (fun cs ρ1 vs H1 hl s1 b1 q1 => ?_) h'
    split at q1
    · rename_i c1 c2
      obtain ⟨u, e1, q2⟩ := asI_iff q1
      obtain ⟨v, e2, q3⟩ := asI_iff q2
      obtain ⟨v1, v2, rfl⟩ : ∃ v1 v2, vs = [v1, v2] := by
        match vs, hl with
        | [p, q], _ => exact ⟨p, q, rfl⟩
      have s1' : SI X.K B ρ1 σ ((v1, c1) :: (v2, c2) :: []) H1 := s1
      have r1 := (s1'.rp e1).intV
      have r2 := (s1'.pop.rp e2).intV
      subst r1
      subst r2
      have s0 : SI X.K B ρ1 σ [] H1 := s1'.pop.pop
      have np1 : ∀ p ∈ B.pin, p.1 ≠ i := fun p q e => hip (by rw [← e]; exact bk.pin p q)
      have np2 : ∀ p ∈ B.pin, p.1 ≠ j := fun p q e => hjp (by rw [← e]; exact bk.pin p q)
      have s2 : SI X.K B (ρ1.set i (some (.d (.int u)))) (σ.set i (some (.int u))) [] H1 := SI.set' (x := .d (.int u)) (s0.push fun G _ _ => .int _) (fun p hp => by cases hp) np1
      have s3 : SI X.K B ((ρ1.set i (some (.d (.int u)))).set j (some (.d (.int v)))) ((σ.set i (some (.int u))).set j (some (.int v))) [] H1 := SI.set' (x := .d (.int v)) (s2.push fun G _ _ => .int _) (fun p hp => by cases hp) np2
      exact ⟨_, _, rfl, k.nx _ _ _ s3 q3⟩
    · exact q1.elim⟩
end
end Dl
set_option Elab.async false
set_option linter.all false
set_option maxRecDepth 100000
set_option maxHeartbeats 4000000
/-! Dl: a statement that only looks at slots (and fills slots that are let go); all others stay as they are. -/
namespace Dl
open PySem PySem.Spec PyProof.Rows L2
/-- the slots that the statement fills are let go -/
def drops : List Nat → Rho → Rho
  | [], ρ => ρ
  | k :: ks, ρ => drops ks (ρ.set k none)
theorem drops_get : ∀ (ks : List Nat) (ρ : Rho) (j : Nat) (t : T), (drops ks ρ)[j]? = some (some t) → ρ[j]? = some (some t) ∧ ¬ j ∈ ks
  | [], ρ, j, t, h => ⟨h, by simp⟩
  | k :: ks, ρ, j, t, h => by
    obtain ⟨h1, h2⟩ := drops_get ks (ρ.set k none) j t h
    by_cases e : k = j
    · subst e
      rw [List.getElem?_set] at h1
      split at h1
      · split at h1 <;> cases h1
      · rename_i z
        exact absurd rfl z
    · rw [List.getElem?_set_ne e] at h1
      exact ⟨h1, by simp only [List.mem_cons, not_or]; exact ⟨fun z => e z.symm, h2⟩⟩
section
variable {K : PySem.W.Frag} {B : Base} {G H : Hp} {ρ : Rho} {σ σ1 : L2.St} {τs : List (V × C)}
theorem OwnS.agree : ∀ {σ σ1 : L2.St} {ρ : Rho} {fp : List Addr}, OwnS K G H σ ρ fp → σ1.length = σ.length → (∀ (j : Nat) (t : T), ρ[j]? = some (some t) → σ1[j]? = σ[j]?) → OwnS K G H σ1 ρ fp
  | _, [], _, _, .nil, _, _ => .nil
  | _, _ :: _, _, _, .nil, h, _ => by cases h
  | _, [], _, _, .non _, h, _ => by cases h
  | _, [], _, _, .som _ _, h, _ => by cases h
  | _, _ :: _, _, _, .non r, h, k => .non (OwnS.agree r (by simpa using h) fun j t e => by simpa using k (j + 1) t (by simpa using e))
  | _, u :: _, _, _, .som (v := v) o r, h, k => by
    have e := k 0 _ rfl
    have e' : u = some v := by simpa using e
    subst e'
    exact .som o (OwnS.agree r (by simpa using h) fun j t e => by simpa using k (j + 1) t (by simpa using e))
theorem SI.agree (s : SI K B ρ σ [] H) (hl : σ1.length = σ.length) (h : ∀ (j : Nat) (t : T), ρ[j]? = some (some t) → σ1[j]? = σ[j]?) (hp : ∀ p ∈ B.pin, σ1[p.1]? = some (some p.2)) : SI K B ρ σ1 [] H := by
  obtain ⟨G, fs, ft, c⟩ := s
  cases c with
  | mk g0 gh h0 tup new slots temps nd own pin =>
  cases temps with
  | nil => exact ⟨G, fs, [], { g0 := g0, gh := gh, h0 := h0, tup := tup, new := new, slots := slots.agree hl h, temps := .nil, nd := nd, own := own, pin := hp }⟩
end
section
variable {K : PySem.W.Frag} {B : Base} {H : Hp} {σ : L2.St} {τs : List (V × C)}
theorem SI.drops : ∀ (ks : List Nat) {ρ : Rho}, SI K B ρ σ τs H → SI K B (Dl.drops ks ρ) σ τs H
  | [], _, s => s
  | k :: ks, _, s => SI.drops ks (s.forget (i := k))
def pinJ (σ : L2.St) (js : List Nat) : List (Nat × V) := js.filterMap fun j => match σ[j]? with
  | some (some v) => some (j, v)
  | _ => none
theorem pinJ_at {σ : L2.St} {js : List Nat} {j : Nat} {v : V} (h : j ∈ js) (e : σ[j]? = some (some v)) : (j, v) ∈ pinJ σ js := List.mem_filterMap.mpr ⟨j, h, by rw [e]⟩
theorem pinJ_ok {σ : L2.St} {js : List Nat} {p : Nat × V} (h : p ∈ pinJ σ js) : p.1 ∈ js ∧ σ[p.1]? = some (some p.2) := by
  obtain ⟨j, hj, e⟩ := List.mem_filterMap.mp h
  split at e
  · rename_i v hv
    cases e
    exact ⟨hj, hv⟩
  · cases e
end
/-- is: the slots looked at; ws: the slots filled; js: the slots that stay -/
def dSeeS (is ws js : List Nat) (t : DTS) : DTS := fun D ρ => (∀ j, j < ρ.length → j ∈ ws ∨ j ∈ js) ∧ t ⟨fun ρ1 => ρ1.length = ρ.length ∧ D.nx (drops ws ρ), fun x ρ1 => ρ1.length = ρ.length ∧ x.pure = true ∧ D.rt x (drops ws ρ), fun ρ1 => ρ1.length = ρ.length ∧ D.bk (drops ws ρ), fun ρ1 => ρ1.length = ρ.length ∧ D.ct (drops ws ρ)⟩ (view is ρ)
theorem ds_seeS {X : Cx} {g : Gm} {st : Stmt} {ts : TS} {t : DTS} (is ws js : List Nat) (h : DS X { g with pn := js ++ g.pn, w := Wsh.none } st ts t) : DS X g st ts (dSeeS is ws js t) :=
  ⟨h.ps, fun B ρ σ H D D' b s k hh => by
    obtain ⟨cov, hh⟩ := hh
    have sp : ∀ p ∈ B.pin, σ[p.1]? = some (some p.2) := by
      obtain ⟨G, fs, ft, c⟩ := s
      exact c.pin
    have s0 := s.see is
    have s1 : SI X.K ⟨H, H, pinJ σ js ++ B.pin⟩ (view is ρ) σ [] H := by
      have pin : ∀ p ∈ pinJ σ js ++ B.pin, σ[p.1]? = some (some p.2) := fun p m => by
        rcases List.mem_append.mp m with m | m
        · exact (pinJ_ok m).2
        · exact sp p m
      obtain ⟨G, fs, ft, c⟩ := s0
      exact ⟨G, fs, ft, { g0 := c.g0, gh := c.gh, h0 := c.h0, tup := c.tup, new := c.new, slots := c.slots, temps := c.temps, nd := c.nd, own := c.own, pin := pin }⟩
    have ls := s.len
    have back : ∀ {ρ1 : Rho} {σ1 : L2.St} {H1 : Hp} {v : V} {z : T}, ρ1.length = ρ.length → SI X.K ⟨H, H, pinJ σ js ++ B.pin⟩ ρ1 σ1 [(v, .t z)] H1 → z.pure = true → SI X.K B (drops ws ρ) σ1 [(v, .t z)] H1 := fun {ρ1 σ1 H1 v z} hl q pz => by
      have l1 := q.len
      have pn : ∀ p ∈ pinJ σ js ++ B.pin, σ1[p.1]? = some (some p.2) := by
        obtain ⟨G, fs, ft, c⟩ := q
        exact c.pin
      have sa : SI X.K B (drops ws ρ) σ1 [] H := (s.drops ws).agree (by omega) (fun j t e => by
        obtain ⟨e1, e2⟩ := drops_get ws ρ j t e
        have hj : j < ρ.length := (List.getElem?_eq_some_iff.mp e1).1
        have hjs := (cov j hj).resolve_left e2
        obtain ⟨v', hv, _⟩ := s.slot e1
        rw [pn (j, v') (List.mem_append_left _ (pinJ_at hjs hv)), hv]) fun p m => pn p (List.mem_append_right _ m)
      exact sa.seen q pz
    have backN : ∀ {ρ1 : Rho} {σ1 : L2.St} {H1 : Hp}, ρ1.length = ρ.length → SI X.K ⟨H, H, pinJ σ js ++ B.pin⟩ ρ1 σ1 [] H1 → SI X.K B (drops ws ρ) σ1 [] H1 := fun {ρ1 σ1 H1} hl q =>
      (back (v := .non) (z := .d .none) hl (q.push fun G _ _ => .non) rfl).pop
    refine h.dt ⟨H, H, pinJ σ js ++ B.pin⟩ (view is ρ) σ H D ⟨fun ρ1 => ρ1.length = ρ.length ∧ D'.nx (drops ws ρ), fun x ρ1 => ρ1.length = ρ.length ∧ x.pure = true ∧ D'.rt x (drops ws ρ), fun ρ1 => ρ1.length = ρ.length ∧ D'.bk (drops ws ρ), fun ρ1 => ρ1.length = ρ.length ∧ D'.ct (drops ws ρ)⟩ ⟨fun p m => (List.not_mem_nil m).elim, fun _ _ _ _ _ _ _ _ q => q.elim, fun p m => ?_⟩ s1 ⟨fun ρ1 σ1 H1 q z => k.nx _ _ _ (backN z.1 q) z.2, fun x ρ1 σ1 v H1 q z => k.rt _ _ _ _ _ (back z.1 q z.2.1) z.2.2, fun ρ1 σ1 H1 q z => k.bk _ _ _ (backN z.1 q) z.2, fun ρ1 σ1 H1 q z => k.ct _ _ _ (backN z.1 q) z.2⟩ hh
    rcases List.mem_append.mp m with m | m
    · exact List.mem_append_left _ (pinJ_ok m).1
    · exact List.mem_append_right _ (b.pin p m)⟩
end Dl
set_option Elab.async false
set_option linter.all false
set_option maxRecDepth 100000
set_option maxHeartbeats 4000000
/-! Dl: x.extend(y), y any list of known items. -/
namespace Dl
open PySem PySem.Spec PyProof.Rows L2
section
variable {X : Cx} {pins : List (Addr × Obj)} {σ : L2.St} {H : Hp} {s : Shared} {a : Addr} {xs : List V}
theorem Inv.listM (I : Inv X pins σ H s) (h : SqY X.K H a xs) : ∃ (its : List Value) (n : Nat), Vals xs its ∧ xs.length ≤ sizeLine ∧ s.heap.get? a = some { cls := .type "list", data := .seq its.toArray n } := by
  rcases h with h | ⟨its, n, hk, hz, r⟩
  · obtain ⟨z, its, n, r, e⟩ := h.ok I.hok
    exact ⟨its, n, r, z, e⟩
  · refine ⟨its.toList, n, r, ?_, ?_⟩
    · have e := r.length
      simp only [Array.length_toList] at e
      omega
    · have e := I.kIn a _ hk
      simpa using e
end
def rExtendS (K : PySem.W.Frag) : V → List V → Hp → VK → Prop := fun x vs H Q => ∃ l b xs zs, x = .ref l ∧ vs = [.ref b] ∧ H l = some (.lst xs) ∧ SqY K H b zs ∧ xs.length + zs.length ≤ sizeLine ∧ Q .non (upd H l (.lst (xs ++ zs)))
section
variable {X : Cx}
theorem mt_extendS : MtM X "list.extend" (rExtendS X.K) := by
  intro pins s σ H x vs v us Q I rx rv h
  obtain ⟨l, b, xs, zs, rfl, rfl, hH, hB, hz, q⟩ := h
  cases rx
  obtain ⟨u, rfl, ru⟩ := rv.one
  cases ru
  obtain ⟨z, its, n, r, hl, e⟩ := I.lstM hH
  obtain ⟨its2, n2, r2, z2, e2⟩ := Inv.listM I hB
  have hl2 := r2.length
  have hsz : its.toArray.size + its2.toArray.size ≤ sizeLine := by rw [List.size_toArray, List.size_toArray]; omega
  have hlong : ¬ (!its.toArray.isEmpty && Builtin.List.listTooLong (its.toArray.size + its2.toArray.size)) = true := by
    rw [notLongL hsz, Bool.and_false]
    exact Bool.false_ne_true
  refine call_meets F.slot_list_extend ⟨_, e, rfl⟩ F.entry_list_extend (F.args_list_extend_2 _ _)
    (AutoSeq1.list_extend_list_list_0 l its.toArray n b its2.toArray n2 hlong (by rw [List.size_toArray]; omega) (by omega)) ⟨e, e2, ?_⟩
  refine ⟨.non, _, I.lset (its' := its ++ its2) hH e (by simp) (r.append r2) ?_, rfl, q⟩
  rw [List.length_append]
  omega
end
section
variable {K : PySem.W.Frag} {B : Base} {ρ : Rho} {σ : L2.St} {τs : List (V × C)} {H : Hp} {v : V} {c : C}
theorem Rp.listY {K : PySem.W.Frag} {G : Hp} {v : V} {ds : List PyData} (r : Rp K G v (.list ds)) : ∃ a vs, v = .ref a ∧ SqY K G a vs ∧ RpL K G vs ds := by
  cases r with
  | lst s q => exact ⟨_, _, rfl, s, q⟩
/-- a list of known items, where they lie -/
theorem SI.flatY {t : T} {ds : List PyData} (s : SI K B ρ σ ((v, c) :: τs) H) (h1 : look ρ c = some t) (h2 : Dl.flat t = some ds) : ∃ a vs, v = .ref a ∧ SqY K H a vs ∧ RpL K H vs ds ∧
    ∀ vs' ds', (∀ G, RpL K G vs ds → RpL K G vs' ds') → SI K B ρ σ (tmp vs' (ds'.map T.d) ++ τs) H := by
  have go : ∀ {G : Hp} {f : List Addr}, Ex G H → Own K G H v t f → ∃ a vs, v = .ref a ∧ SqY K H a vs ∧ RpL K G vs ds := by
    intro G f gh o
    cases o with
    | d r =>
      rename_i x
      cases x <;> simp [Dl.flat, Dl.itms] at h2
      subst h2
      obtain ⟨a, vs, rfl, q1, q2⟩ := r.listY
      exact ⟨a, vs, rfl, gh.er.y q1, q2⟩
    | ls hp q =>
      rename_i p vs ts fp
      have e := leaves_eq (show leaves ts = some ds from h2)
      subst e
      exact ⟨p, vs, rfl, .inl (.inl hp), (RpL.of_d q).1⟩
    | tu _ _ => cases h2
    | dk _ _ _ => cases h2
    | dt _ _ _ => cases h2
  have s0 := s.pop
  obtain ⟨G, fs, ft, k⟩ := s
  cases c with
  | t x =>
    cases h1
    cases k with
    | mk g0 gh h0 tup new slots temps nd own pin =>
    cases temps with
    | t o r =>
      rename_i f fr
      obtain ⟨a, vs, q1, q2, q4⟩ := go gh o
      have sb : List.Sublist (fs ++ fr) (fs ++ (f ++ fr)) := List.Sublist.append_left (List.sublist_append_right _ _) _
      exact ⟨a, vs, q1, q2, q4.mono gh.er, fun vs' ds' hh => ⟨G, fs, [] ++ fr, g0, gh, h0, tup, new, slots, OwnC.join (OwnL.of_d (hh G q4)) r, nd.sublist sb, fun a m => own a (sb.subset m), pin⟩⟩
  | al j =>
    simp only [look] at h1
    split at h1
    · rename_i t' e
      cases h1
      obtain ⟨v', f, w1, w2, _⟩ := k.slot e
      cases k with
      | mk g0 gh h0 tup new slots temps nd own pin =>
      cases temps with
      | al e' r =>
        rw [w1] at e'
        cases e'
        obtain ⟨a, vs, q1, q2, q4⟩ := go gh w2
        exact ⟨a, vs, q1, q2, q4.mono gh.er, fun vs' ds' hh => ⟨G, fs, [] ++ ft, g0, gh, h0, tup, new, slots, OwnC.join (OwnL.of_d (hh G q4)) r, nd, own, pin⟩⟩
    · cases h1
end
section
variable {X : Cx} {g : Gm} {e : Expr} {te : TE} {d : DT} {pos : Pos} {x : Str} {np apos cpos : Pos}
def dExtN (j : Nat) (d : DT) : DT := fun ρ Q => atLs ρ j fun _ => d ρ fun c ρ1 => asF (look ρ1 c) fun ds => atLs ρ1 j fun ts => ts.length + ds.length ≤ 16777216 ∧ Q (.t (.d .none)) (ρ1.set j (some (.ls (ts ++ ds.map T.d))))
theorem de_extendN (j : Nat) (h : DE X g e te d) (hN : X.N[j]? = some x := by rfl) (hv : Vis X.env.scope x := by first | exact Or.inl rfl | exact Or.inr (Or.inl rfl) | exact Or.inr (Or.inr rfl))
    (hd : (x == ("__debug__" : Str)) = false := by decide) (hcd : (x == ("__classdict__" : Str)) = false := by decide)
    (hbase : attributeBase (.Name x np) "extend" X.env (eval (.Name x np) X.env) = eval (.Name x np) X.env := by rfl)
    (hfew : ((backTo cpos (starEach (e :: []) X.env)).all (fun x => !x.1) && (backToKw cpos (keywordEach [] X.env)).all (fun x => x.1.isSome)
      && decide ((e :: []).length + ([] : List Keyword).length + (if ([] : List Keyword).isEmpty then 0 else 1) < 30)) = true := by rfl)
    (hline : (apos.endLine == cpos.line) = true := by rfl) (hs : starEach (e :: []) X.env = (false, eval e X.env) :: starEach [] X.env := by rfl) (hplain : (backTo cpos (starEach [] X.env)).any (·.1) = false := by rfl) :
    DE X g (.Call (.Attribute (.Name x np) "extend" apos) [e] [] cpos) (tBM X.K "list" (rExtendS X.K) (tVar j) (tCons te tNil)) (dExtN j d) :=
  ⟨pe_bm PySem.F.plainAttrs_list PySem.F.slot_list_extend PySem.F.type_list_extend mt_extendS (vis_or j hN hv hd hcd) (pa_cons h.pe pa_nil hs) hbase hfew hline hs hplain, fun B ρ σ τs H Q Q' b s k h' => by
    obtain ⟨ts0, e0, h'⟩ := atLs_iff h'
    obtain ⟨p, vs0, z1, z2, _⟩ := s.ls e0
    refine ⟨.ref p, z1, tyL z2, h.dt B ρ σ τs H _ _ b s (fun c ρ1 y H1 s1 b1 q1 => ?_) h'⟩
    obtain ⟨t, ds, et, ef, q1⟩ := asF_iff q1
    obtain ⟨ts, e1, hz, q3⟩ := atLs_iff q1
    obtain ⟨a, vs, rfl, w2, w3, w5⟩ := s1.flatY et ef
    have s2 := w5 vs ds fun G r => r
    obtain ⟨p', L, M, x1, x2, x3, x4, x5, x6⟩ := SI.write (vs := vs) (xs := ds.map T.d) s2 (by rw [List.length_map]; exact w3.len) e1
    rw [z1] at x1
    cases x1
    have s3 := x6 (L ++ M) [] (L ++ M) (by rw [List.append_nil]) (List.Sublist.refl _)
    rw [List.map_append, List.map_append, ← x3, ← x4, ← x5] at s3
    have hl1 : (L.map (·.1)).length = ts.length := by rw [x3, List.length_map, List.length_map]
    refine ⟨p, a, _, vs, rfl, rfl, x2, w2, by rw [hl1, w3.len]; exact lim_le hz, ?_⟩
    exact k _ _ _ _ (SI.push s3 fun G _ _ => .non) b.untail q3⟩
end
end Dl
set_option Elab.async false
set_option linter.all false
set_option maxRecDepth 100000
set_option maxHeartbeats 4000000
/-! Dl: dicts whose keys are tuples of whole numbers and texts. -/
namespace Dl
open PySem PySem.Spec PyProof.Rows L2
def getT (xs : List (List Key × PyData)) (k : List Key) : Option PyData := (xs.find? fun p => decide (p.1 = k)).map (·.2)
def putDT (xs : List (List Key × PyData)) (k : List Key) (d : PyData) : List (List Key × PyData) :=
  if (xs.any fun p => decide (p.1 = k)) = true then xs.map (fun p => if p.1 = k then (p.1, d) else p) else xs ++ [(k, d)]
inductive TR (K : PySem.W.Frag) (G : Hp) : List (List Key × V) → List (List Key × PyData) → Prop
  | nil : TR K G [] []
  | cons {k : List Key} {v : V} {d : PyData} {kvs : List (List Key × V)} {xs : List (List Key × PyData)} : Rp K G v d → TR K G kvs xs → TR K G ((k, v) :: kvs) ((k, d) :: xs)
section
variable {K : PySem.W.Frag} {G G' H : Hp} {B : Base} {ρ : Rho} {σ : L2.St} {τs : List (V × C)} {fs ft : List Addr}
theorem tr_of : ∀ {kvs : List (List Key × V)} {xs : List (List Key × PyData)}, kvs.map (·.1) = xs.map (·.1) → RpL K G (kvs.map (·.2)) (xs.map (·.2)) → TR K G kvs xs
  | [], [], _, _ => .nil
  | [], _ :: _, h, _ => by simp at h
  | _ :: _, [], h, _ => by simp at h
  | (k, v) :: kvs, (k', d) :: xs, h, r => by
    simp only [List.map_cons, List.cons.injEq] at h
    obtain ⟨rfl, h⟩ := h
    have r' : RpL K G (v :: kvs.map (·.2)) (d :: xs.map (·.2)) := r
    cases r' with
    | cons q t => exact .cons q (tr_of h t)
theorem TR.keys : ∀ {kvs : List (List Key × V)} {xs : List (List Key × PyData)}, TR K G kvs xs → kvs.map (·.1) = xs.map (·.1)
  | _, _, .nil => rfl
  | _, _, .cons _ t => by rw [List.map_cons, List.map_cons, t.keys]
theorem TR.rpl : ∀ {kvs : List (List Key × V)} {xs : List (List Key × PyData)}, TR K G kvs xs → RpL K G (kvs.map (·.2)) (xs.map (·.2))
  | _, _, .nil => .nil
  | _, _, .cons q t => .cons q t.rpl
theorem TR.len {kvs : List (List Key × V)} {xs : List (List Key × PyData)} (h : TR K G kvs xs) : kvs.length = xs.length := by
  have := congrArg List.length h.keys
  simpa using this
theorem TR.mono (g : Er G G') : ∀ {kvs : List (List Key × V)} {xs : List (List Key × PyData)}, TR K G kvs xs → TR K G' kvs xs
  | _, _, .nil => .nil
  | _, _, .cons q t => .cons (q.mono g) (t.mono g)
theorem TR.get (k : List Key) : ∀ {kvs : List (List Key × V)} {xs : List (List Key × PyData)}, TR K G kvs xs → (valV kvs k = none ∧ getT xs k = none) ∨ ∃ v d, valV kvs k = some v ∧ getT xs k = some d ∧ Rp K G v d
  | _, _, .nil => .inl ⟨rfl, rfl⟩
  | _, _, .cons (k := k') (v := v) (d := d) q t => by
    by_cases e : k' = k
    · exact .inr ⟨v, d, by simp [valV, e], by simp [getT, e], q⟩
    · rcases t.get k with ⟨h1, h2⟩ | ⟨v', d', h1, h2, h3⟩
      · exact .inl ⟨by unfold valV at h1 ⊢; simpa [List.find?_cons, e] using h1, by unfold getT at h2 ⊢; simpa [List.find?_cons, e] using h2⟩
      · exact .inr ⟨v', d', by unfold valV at h1 ⊢; simpa [List.find?_cons, e] using h1, by unfold getT at h2 ⊢; simpa [List.find?_cons, e] using h2, h3⟩
theorem TR.any (k : List Key) : ∀ {kvs : List (List Key × V)} {xs : List (List Key × PyData)}, TR K G kvs xs → (kvs.any fun p => decide (p.1 = k)) = xs.any fun p => decide (p.1 = k)
  | _, _, .nil => rfl
  | _, _, .cons _ t => by rw [List.any_cons, List.any_cons, t.any k]
theorem TR.rep {v : V} {d : PyData} (k : List Key) (q : Rp K G v d) : ∀ {kvs : List (List Key × V)} {xs : List (List Key × PyData)}, TR K G kvs xs → TR K G (kvs.map fun kv => if kv.1 = k then (kv.1, v) else kv) (xs.map fun p => if p.1 = k then (p.1, d) else p)
  | _, _, .nil => .nil
  | _, _, .cons (k := k') q' t => by
    rw [List.map_cons, List.map_cons]
    by_cases e : k' = k
    · simp only [e, if_true]
      exact .cons q (t.rep k q)
    · simp only [e, if_false]
      exact .cons q' (t.rep k q)
theorem TR.snoc {v : V} {d : PyData} {k : List Key} (q : Rp K G v d) : ∀ {kvs : List (List Key × V)} {xs : List (List Key × PyData)}, TR K G kvs xs → TR K G (kvs ++ [(k, v)]) (xs ++ [(k, d)])
  | _, _, .nil => .cons q .nil
  | _, _, .cons q' t => .cons q' (t.snoc q)
theorem TR.put {v : V} {d : PyData} {kvs : List (List Key × V)} {xs : List (List Key × PyData)} (k : List Key) (q : Rp K G v d) (h : TR K G kvs xs) : TR K G (putK kvs k v) (putDT xs k d) := by
  unfold putK putDT
  rw [h.any k]
  split
  · exact h.rep k q
  · exact h.snoc q
/-- a new dict -/
theorem Core.newDt {kvs : List (List Key × V)} {xs : List (List Key × PyData)} {p : Addr} (c : Core K B G ρ σ τs H fs ft) (r : TR K G kvs xs) (hp : H p = none) : SI K B ρ σ ((.ref p, .t (.dt xs)) :: τs) (upd H p (.dT kvs)) := by
  obtain ⟨fg, fh, fn⟩ := c.free hp
  have k := c.keep (o := .dT kvs) hp
  have pm : List.Perm (fs ++ ([p] ++ ft)) (p :: (fs ++ ft)) := List.perm_middle
  refine ⟨G, fs, [p] ++ ft, c.g0, ex_upd c.gh fg, ex_upd c.h0 fh, fun a o ho e => ?_, c.new, c.slots.mono (Er.refl G) fun a h => k a (List.mem_append_left _ h),
    .t (.dt upd_same r.keys r.rpl) (c.temps.mono (Er.refl G) fun a h => k a (List.mem_append_right _ h)), ?_, fun a h => ?_, c.pin⟩
  · by_cases ha : a = p
    · subst ha
      rw [upd_same] at e
      cases e
      cases ho
    · rw [upd_ne ha] at e
      exact c.tup a o ho e
  · exact pm.nodup_iff.mpr (List.nodup_cons.mpr ⟨fn, c.nd⟩)
  · rcases List.mem_cons.mp (pm.mem_iff.mp h) with rfl | h
    · exact ⟨fg, fh⟩
    · exact c.own a h
theorem SI.putDtAt {j : Nat} {xs : List (List Key × PyData)} {v : V} {d : PyData} (k : List Key) (s : SI K B ρ σ ((v, .t (.d d)) :: τs) H) (e : ρ[j]? = some (some (.dt xs))) :
    ∃ p kvs, σ[j]? = some (some (.ref p)) ∧ H p = some (.dT kvs) ∧ kvs.length = xs.length ∧ SI K B (ρ.set j (some (.dt (Dl.putDT xs k d)))) σ τs (upd H p (.dT (putK kvs k v))) := by
  obtain ⟨G, fs, ft, c⟩ := s
  obtain ⟨v', f, fr, h1, h2, h3, h4, h5⟩ := c.slots.at_ e
  cases h2 with
  | dt hp q o =>
  rename_i p kvs
  cases c with
  | mk g0 gh h0 tup new slots temps nd own pin =>
  cases temps with
  | t ov r =>
  rename_i fv ft
  cases ov with
  | d rv =>
  have kr := tr_of q o
  have ndp : (([p] ++ fr) ++ ft).Nodup := (List.Perm.append_right _ h3).nodup_iff.mp (show (fs ++ ft).Nodup from nd)
  have ownp : ∀ a ∈ ([p] ++ fr) ++ ft, G a = none ∧ B.H0 a = none := fun a h => own a ((List.Perm.append_right _ h3).mem_iff.mpr h)
  have pp : ∀ a ∈ fr ++ ft, a ≠ p := fun a h z => by
    subst z
    have n2 : (a :: (fr ++ ft)).Nodup := by simpa using ndp
    exact (List.nodup_cons.mp n2).1 h
  have kp : ∀ a, a ≠ p → upd H p (HO.dT (putK kvs k v)) a = H a := fun a h => upd_ne h
  have kr2 := kr.put k rv
  obtain ⟨fp', w1, w2⟩ := h4 (G' := G) (H' := upd H p (HO.dT (putK kvs k v))) (v' := .ref p) (t' := .dt (Dl.putDT xs k d)) (Er.refl G) (fun a h => kp a (pp a (List.mem_append_left _ h)))
    (.dt upd_same kr2.keys kr2.rpl)
  rw [set_same h1] at w1
  have hin := ownp p (by simp)
  refine ⟨p, kvs, h1, hp, kr.len, G, fp', ft, g0, ex_upd gh hin.1, ex_upd h0 hin.2, fun a o ho e => ?_, new, w1, r.mono (Er.refl G) fun a h => kp a (pp a (List.mem_append_right _ h)), ?_, fun a h => ?_, pin⟩
  · by_cases ha : a = p
    · subst ha
      rw [upd_same] at e
      cases e
      cases ho
    · rw [upd_ne ha] at e
      exact tup a o ho e
  · exact (List.Perm.append_right _ w2).nodup_iff.mpr ndp
  · exact ownp a ((List.Perm.append_right _ w2).mem_iff.mp h)
end
section
variable {K : PySem.W.Frag} {G G' H : Hp} {B : Base} {ρ : Rho} {σ : L2.St} {τs : List (V × C)} {fs ft : List Addr}
/-- a dict just made takes one more -/
theorem SI.putDtT {p : Addr} {xs : List (List Key × PyData)} {v : V} {d : PyData} (k : List Key) (s : SI K B ρ σ ((v, .t (.d d)) :: (.ref p, .t (.dt xs)) :: τs) H) :
    ∃ kvs, H p = some (.dT kvs) ∧ kvs.length = xs.length ∧ (xs = [] → kvs = []) ∧ SI K B ρ σ ((.ref p, .t (.dt (Dl.putDT xs k d))) :: τs) (upd H p (.dT (putK kvs k v))) := by
  obtain ⟨G, fs, ft, c⟩ := s
  cases c with
  | mk g0 gh h0 tup new slots temps nd own pin =>
  cases temps with
  | t ov r =>
  cases ov with
  | d rv =>
  cases r with
  | t od r2 =>
  rename_i fd ft
  cases od with
  | dt hp q o =>
  rename_i kvs
  have kr := tr_of q o
  have kr2 := kr.put k rv
  have pm : List.Perm (fs ++ ([p] ++ ft)) (p :: (fs ++ ft)) := List.perm_middle
  have nd0 : (fs ++ ([p] ++ ft)).Nodup := nd
  have nd1 := pm.nodup_iff.mp nd0
  have pp : ∀ a ∈ fs ++ ft, a ≠ p := fun a h z => by
    subst z
    exact (List.nodup_cons.mp nd1).1 h
  have kp : ∀ a, a ≠ p → upd H p (HO.dT (putK kvs k v)) a = H a := fun a h => upd_ne h
  have hin := own p (List.mem_append_right _ (List.mem_append_right _ (List.mem_append_left _ List.mem_cons_self)))
  refine ⟨kvs, hp, kr.len, fun z => ?_, G, fs, [p] ++ ft, g0, ex_upd gh hin.1, ex_upd h0 hin.2, fun a o ho e => ?_, new, slots.mono (Er.refl G) fun a h => kp a (pp a (List.mem_append_left _ h)),
    .t (.dt upd_same kr2.keys kr2.rpl) (r2.mono (Er.refl G) fun a h => kp a (pp a (List.mem_append_right _ h))), nd0, own, pin⟩
  · subst z
    cases kr
    rfl
  · by_cases ha : a = p
    · subst ha
      rw [upd_same] at e
      cases e
      cases ho
    · rw [upd_ne ha] at e
      exact tup a o ho e
end
/-! keys -/
def keysOf : List PyData → Option (List Key)
  | [] => some []
  | .int i :: r => (keysOf r).map fun ks => .inl i :: ks
  | .str x :: r => (keysOf r).map fun ks => .inr x :: ks
  | _ :: _ => none
theorem keysOf_eq : ∀ {ds : List PyData} {ks : List Key}, keysOf ds = some ks → ds = ks.map kd
  | [], ks, h => by
    cases h
    rfl
  | d :: r, ks, h => by
    cases d with
    | int i =>
      rw [keysOf] at h
      obtain ⟨ks', e, rfl⟩ := Option.map_eq_some_iff.mp h
      rw [List.map_cons, ← keysOf_eq e]
      rfl
    | str x =>
      rw [keysOf] at h
      obtain ⟨ks', e, rfl⟩ := Option.map_eq_some_iff.mp h
      rw [List.map_cons, ← keysOf_eq e]
      rfl
    | _ => cases h
theorem keysOf_map : ∀ ks : List Key, keysOf (ks.map kd) = some ks
  | [] => rfl
  | .inl i :: ks => by
    show (keysOf (ks.map kd)).map _ = _
    rw [keysOf_map ks]
    rfl
  | .inr x :: ks => by
    show (keysOf (ks.map kd)).map _ = _
    rw [keysOf_map ks]
    rfl
def keyT (o : Option PyData) (k : List Key → Prop) : Prop := match o with
  | some (.tuple ds) => match keysOf ds with
    | some ks => k ks
    | none => False
  | _ => False
theorem keyT_iff {o : Option PyData} {k : List Key → Prop} (h : keyT o k) : ∃ ks, o = some (.tuple (ks.map kd)) ∧ k ks := by
  unfold keyT at h
  split at h
  · split at h
    · rename_i e
      rw [keysOf_eq e]
      exact ⟨_, rfl, h⟩
    · exact h.elim
  · exact h.elim
theorem RpL.keyVs {K : PySem.W.Frag} {G : Hp} : ∀ {ks : List Key} {vs : List V}, RpL K G vs (ks.map kd) → vs = ks.map kV
  | [], _, .nil => rfl
  | k :: ks, _, .cons r t => by rw [List.map_cons, r.keyV, t.keyVs]
theorem Rp.tupKeys {K : PySem.W.Frag} {G : Hp} {v : V} {ks : List Key} (r : Rp K G v (.tuple (ks.map kd))) : ∃ b, v = .ref b ∧ G b = some (.tup (ks.map kV)) := by
  cases r with
  | tup s q =>
    rw [q.keyVs] at s
    exact ⟨_, rfl, s⟩
/-- what a slot holds as such a dict: one of one's own, or known data (then not empty) -/
def entT : List (PyData × PyData) → Option (List (List Key × PyData))
  | [] => some []
  | (.tuple ds, v) :: r => match keysOf ds, entT r with
    | some k, some xs => some ((k, v) :: xs)
    | _, _ => none
  | _ :: _ => none
theorem entT_map : ∀ xs : List (List Key × PyData), entT (xs.map fun p => (PyData.tuple (p.1.map kd), p.2)) = some xs
  | [] => rfl
  | (k, v) :: xs => by
    rw [List.map_cons, entT, keysOf_map, entT_map xs]
theorem entT_eq : ∀ {es : List (PyData × PyData)} {xs : List (List Key × PyData)}, entT es = some xs → es = xs.map fun p => (PyData.tuple (p.1.map kd), p.2)
  | [], xs, h => by
    cases h
    rfl
  | (a, v) :: r, xs, h => by
    cases a with
    | tuple ds =>
      rw [entT] at h
      split at h
      · rename_i k ys e1 e2
        cases h
        rw [List.map_cons, ← entT_eq e2, keysOf_eq e1]
      · cases h
    | _ => cases h
def dtOf : T → Option (List (List Key × PyData))
  | .dt xs => some xs
  | .d (.dict (e :: es)) => entT (e :: es)
  | _ => none
section
variable {K : PySem.W.Frag} {G G' H : Hp} {B : Base} {ρ : Rho} {σ : L2.St} {τs : List (V × C)} {fs ft : List Addr}
theorem Rp.entT {v : V} {es : List (PyData × PyData)} {xs : List (List Key × PyData)} (r : Rp K G v (.dict es)) (e : Dl.entT es = some xs) (hn : es ≠ []) : ∃ p kvs, v = .ref p ∧ Rd G p (.dT kvs) ∧ TR K G kvs xs := by
  have e2 := entT_eq e
  generalize hD : PyData.dict es = D at r
  cases r with
  | @dk a kvs ds s q =>
    exfalso
    injection hD with hD
    have hl : kvs.length = ds.length := by simpa using q.len
    rw [e2] at hD
    cases kvs with
    | nil =>
      rw [List.map_nil, List.zip_nil_left] at hD
      rw [e2] at hn
      exact hn hD
    | cons p kvs =>
      cases ds with
      | nil => simp at hl
      | cons d ds =>
        cases xs with
        | nil => simp at hD
        | cons x xs =>
          rw [List.map_cons, List.map_cons, List.zip_cons_cons] at hD
          have := congrArg Prod.fst (List.cons.inj hD).1
          obtain ⟨k, u⟩ := p
          cases k <;> cases this
  | exc _ _ =>
    injection hD with hD
    rw [e2] at hD
    cases xs with
    | nil => simp at hD
    | cons p xs => simp at hD
  | @dt a kvs ds s q =>
    injection hD with hD
    refine ⟨a, kvs, rfl, s, ?_⟩
    rw [e2] at hD
    have go : ∀ {kvs : List (List Key × V)} {ds : List PyData} {xs : List (List Key × PyData)}, RpL K G (kvs.map (·.2)) ds → (xs.map fun p => (PyData.tuple (p.1.map kd), p.2)) = (kvs.map fun p => PyData.tuple (p.1.map kd)).zip ds → TR K G kvs xs := by
      intro kvs
      induction kvs with
      | nil =>
        intro ds xs q h
        rw [List.map_nil, List.zip_nil_left] at h
        rw [List.map_eq_nil_iff.mp h]
        exact .nil
      | cons p kvs ih =>
        intro ds xs q h
        cases ds with
        | nil => cases q
        | cons d ds =>
          cases xs with
          | nil => simp at h
          | cons x xs =>
            rw [List.map_cons, List.map_cons, List.zip_cons_cons] at h
            obtain ⟨h1, h2⟩ := List.cons.inj h
            rw [List.map_cons] at q
            cases q with
            | cons q1 q2 =>
            have a := congrArg Prod.fst h1
            have b := congrArg Prod.snd h1
            obtain ⟨xk, xv⟩ := x
            obtain ⟨pk, pv⟩ := p
            have a' : PyData.tuple (xk.map kd) = PyData.tuple (pk.map kd) := a
            injection a' with a'
            have k2 := keysOf_map xk
            rw [a', keysOf_map pk] at k2
            cases k2
            cases b
            exact .cons q1 (ih q2 h2)
    exact go q hD
  | non => cases hD
  | bl _ => cases hD
  | int _ => cases hD
  | str _ => cases hD
  | lst _ _ => cases hD
  | tup _ _ => cases hD
theorem Own.dtOf {v : V} {t : T} {f : List Addr} {xs : List (List Key × PyData)} (gh : Ex G H) (o : Own K G H v t f) (e : Dl.dtOf t = some xs) : ∃ p kvs, v = .ref p ∧ Rd H p (.dT kvs) ∧ TR K G kvs xs := by
  cases o with
  | d r =>
    rename_i x
    cases x with
    | dict es =>
      cases es with
      | nil => cases e
      | cons y es =>
        obtain ⟨p, kvs, rfl, h1, h2⟩ := r.entT e (by simp)
        exact ⟨p, kvs, rfl, gh.er.1 _ _ (fun _ _ z => nomatch z) h1, h2⟩
    | _ => cases e
  | ls _ _ => cases e
  | tu _ _ => cases e
  | dk _ _ _ => cases e
  | dt hp q o =>
    cases e
    exact ⟨_, _, rfl, .inl hp, tr_of q o⟩
theorem TR.hasS {kvs : List (List Key × V)} {xs : List (List Key × PyData)} (r : TR K G kvs xs) (k : List Key) : (valV kvs k).isSome = (getT xs k).isSome := by
  rcases r.get k with ⟨h1, h2⟩ | ⟨v, d, h1, h2, _⟩ <;> rw [h1, h2] <;> rfl
theorem SI.dtLook {j : Nat} {t : T} {xs : List (List Key × PyData)} (s : SI K B ρ σ τs H) (e : ρ[j]? = some (some t)) (e2 : Dl.dtOf t = some xs) : ∃ p kvs, σ[j]? = some (some (.ref p)) ∧ Rd H p (.dT kvs) ∧ kvs.length = xs.length ∧ (∀ k, (valV kvs k).isSome = (getT xs k).isSome) ∧
    ∀ k d, getT xs k = some d → ∃ v, valV kvs k = some v ∧ SI K B ρ σ ((v, .t (.d d)) :: τs) H := by
  obtain ⟨G, fs, ft, c⟩ := s
  obtain ⟨v, f, h1, h2, _⟩ := c.slot e
  obtain ⟨p, kvs, rfl, q1, q2⟩ := h2.dtOf c.gh e2
  refine ⟨p, kvs, h1, q1, q2.len, fun k => q2.hasS k, fun k d hk => ?_⟩
  rcases q2.get k with ⟨_, z⟩ | ⟨v, d', z1, z2, z3⟩
  · rw [hk] at z
    cases z
  · rw [hk] at z2
    cases z2
    exact ⟨v, z1, G, fs, [] ++ ft, { c with temps := .t (fp := []) (.d z3) c.temps }⟩
end
def atDt (ρ : Rho) (j : Nat) (k : List (List Key × PyData) → Prop) : Prop := match ρ[j]? with
  | some (some t) => match dtOf t with
    | some xs => k xs
    | none => False
  | _ => False
theorem atDt_iff {ρ : Rho} {j : Nat} {k : List (List Key × PyData) → Prop} (h : atDt ρ j k) : ∃ t xs, ρ[j]? = some (some t) ∧ dtOf t = some xs ∧ k xs := by
  unfold atDt at h
  split at h
  · rename_i t e
    split at h
    · rename_i xs e2
      exact ⟨t, xs, e, e2, h⟩
    · exact h.elim
  · exact h.elim
def atDtO (ρ : Rho) (j : Nat) (k : List (List Key × PyData) → Prop) : Prop := match ρ[j]? with
  | some (some (.dt xs)) => k xs
  | _ => False
theorem atDtO_iff {ρ : Rho} {j : Nat} {k : List (List Key × PyData) → Prop} (h : atDtO ρ j k) : ∃ xs, ρ[j]? = some (some (.dt xs)) ∧ k xs := by
  unfold atDtO at h
  split at h
  · rename_i ts e
    exact ⟨ts, e, h⟩
  · exact h.elim
/-! ### a display of one entry -/
/-- {k: v}, k a tuple -/
def tDispT (tk tv : TE) : TE := fun σ H Q => ∀ p, H p = none → tk σ (upd H p (.dT [])) fun x H1 => tv σ H1 fun y H2 => H2 p = some (.dT []) ∧ ∃ (b : Addr) (k : List Key), x = .ref b ∧ H2 b = some (.tup (k.map kV)) ∧ Q (.ref p) (upd H2 p (.dT [(k, y)]))
section
variable {X : Cx} {pins : List (Addr × Obj)} {σ : L2.St} {H : Hp} {s : Shared} {a : Addr} {y v : V} {u r : Value} {o : Option V} {A : Around} {E : Value → Shared → Prop}
theorem d_setT {b : Addr} {kvs : List (List Key × V)} {k : List Key} {Q : Unit → Shared → Prop} (hu : A.units < cLine) (I : Inv X pins σ H s) (e : H a = some (.dT kvs)) (eb : H b = some (.tup (k.map kV))) (l : kvs.length < sizeLine) (rv : RelV v r) (h : ∀ s', Inv X pins σ (upd H a (.dT (putK kvs k v))) s' → Q () s') :
    wpAny (model X.prog X.w) A (dictSet a (.ref b) r) Q E s := by
  obtain ⟨z, hd, xs, rel, dd⟩ := dt_of I.hok e
  have hz : xs.length ≤ sizeLine := by rw [← Paired.length rel]; exact z
  have hl : (putK kvs k v).length ≤ sizeLine := by have := length_putK kvs k v; omega
  refine wpAny_dictSet_heap (hsz := hz) (knd := tupleKind (mixKind X.prog X.w)) hu (key_of I.hok eb) dd fun h' dd' hs => h _ ?_
  obtain ⟨q, es, ep, hq, h2, h3, h4, _, h5⟩ := dd'
  refine d_write I (by rw [e]; exact True.intro) hs ⟨q, hq⟩ ⟨hl, hd, _, (rel.put k eb rv).keeps fun c ys ec => ?_, q, es, ep, hq, h2, h3, h4, h5⟩
  rw [upd_ne (ne_of ec e (fun z => nomatch z))]
  exact ec
end
theorem pe_dispT {X : Cx} {pos : Pos} {ek ev : Expr} {tk tv : TE} (hu : X.A.units < cLine) (hk : PE X ek tk) (hv : PE X ev tv) : PE X (.Dict [some ek] [ev] pos) (tDispT tk tv) := by
  refine ⟨fun pins s σ H Q I q => ?_⟩
  have hn := I.hok.fresh (Nat.le_refl s.heap.objs.size)
  have I1 := I.laid (a := s.heap.objs.size) (o := .dT []) (h' := s.heap.push { cls := .type "dict", data := .dict #[] }) (t' := s.toks) (fun _ _ q => Heap.get?_push_of_some _ q) (Nat.le_refl _) (dt_empty s.heap I.big)
  refine wpAny_Dict_any (by rfl) (by rfl) (fun z => by cases z) (show 1 ≤ 15 by decide) (thn ((pps_cons hk hv pps_nil).run pins _ σ _ (fun ps H2 => match ps with
    | [(x, y)] => H2 s.heap.objs.size = some (.dT []) ∧ ∃ (b : Addr) (k : List Key), x = .ref b ∧ H2 b = some (.tup (k.map kV)) ∧ Q (.ref s.heap.objs.size) (upd H2 s.heap.objs.size (.dT [(k, y)]))
    | _ => False) I1 ?_) fun ws s2 ⟨ps, H2, I2, rel, q0⟩ => ?_)
  · have q1 := q _ hn
    exact q1
  · split at q0
    case h_2 => exact q0.elim
    rename_i x y
    obtain ⟨e, b, k, ex, eb, q2⟩ := q0
    subst ex
    cases rel with
    | @cons p w ps ws hp t =>
    cases t
    obtain ⟨u1, u2⟩ := w
    obtain ⟨r1, r2⟩ := hp
    cases (show u1 = Value.ref b from r1)
    unfold storeAll
    rw [List.forIn_cons]
    refine wpAny_bind (wpAny_bind (d_setT (v := y) hu I2 e eb (show 0 < sizeLine by rw [sizeLine_eq]; decide) r2 fun s3 I3 => wpAny_pure ?_))
    show wpAny _ _ (forIn [] PUnit.unit _) _ _ _
    rw [List.forIn_nil]
    exact wpAny_pure ⟨.ref s.heap.objs.size, _, I3, rfl, q2⟩
section
variable {K : PySem.W.Frag} {B : Base} {H : Hp} {ρ : Rho} {σ : L2.St} {τs : List (V × C)}
theorem SI.dtAtO {j : Nat} {xs : List (List Key × PyData)} (s : SI K B ρ σ τs H) (e : ρ[j]? = some (some (.dt xs))) : ∃ p kvs, σ[j]? = some (some (.ref p)) ∧ H p = some (.dT kvs) ∧ TR K H kvs xs := by
  obtain ⟨G, fs, ft, c⟩ := s
  obtain ⟨v, f, h1, h2, _⟩ := c.slot e
  cases h2 with
  | dt hp q o => exact ⟨_, _, h1, hp, (tr_of q o).mono c.gh.er⟩
end
section
variable {X : Cx} {g : Gm} {e e2 : Expr} {te te2 : TE} {d d2 : DT} {pos : Pos} {x : Str} {np apos cpos : Pos}
/-- x[e], x a dict of tuples -/
def dTGet (j : Nat) (d : DT) : DT := fun ρ Q => atDt ρ j fun _ => d ρ fun c ρ1 => keyT (dat ρ1 c) fun k => atDt ρ1 j fun xs => match getT xs k with
  | some v => Q (.t (.d v)) ρ1
  | none => False
theorem de_tget (j : Nat) (hu : X.A.units + 1 < cLine) (h : DE X g e te d) (hN : X.N[j]? = some x := by rfl) (hv : Vis X.env.scope x := by first | exact Or.inl rfl | exact Or.inr (Or.inl rfl) | exact Or.inr (Or.inr rfl))
    (hd : (x == ("__debug__" : Str)) = false := by decide) (hcd : (x == ("__classdict__" : Str)) = false := by decide) (hs : NoSl e := by exact fun _ _ => rfl) :
    DE X g (.Subscript (.Name x np) e pos) (tDGet (tVar j) te) (dTGet j d) := ⟨pe_dget hu (vis_or j hN hv hd hcd) h.pe hs, fun B ρ σ τs H Q Q' b s k h' => by
  obtain ⟨t0, xs0, e0, f0, h'⟩ := atDt_iff h'
  obtain ⟨p, kvs0, z1, _⟩ := s.dtLook e0 f0
  refine ⟨.ref p, z1, h.dt B ρ σ τs H _ _ b s (fun c ρ1 y H1 s1 b1 q1 => ?_) h'⟩
  obtain ⟨kk, ek, q2⟩ := keyT_iff q1
  obtain ⟨t, xs, e1, e2, q3⟩ := atDt_iff q2
  obtain ⟨kb, rfl, hb⟩ := (s1.rp ek).tupKeys
  split at q3
  · rename_i dd hdd
    obtain ⟨p', kvs, w1, w2, _, _, w5⟩ := s1.pop.dtLook e1 e2
    obtain ⟨v, w3, s3⟩ := w5 kk dd hdd
    rw [z1] at w1
    cases w1
    exact ⟨p, v, rfl, .inr ⟨kvs, kk, kb, w2, rfl, hb, w3.symm⟩, k _ _ _ _ s3 b.untail q3⟩
  · exact q3.elim⟩
/-- x.get(e, e2), x a dict of tuples -/
def dTGetD (j : Nat) (d d2 : DT) : DT := fun ρ Q => atDt ρ j fun _ => d ρ fun c ρ1 => d2 ρ1 fun c2 ρ2 => keyT (dat ρ2 c) fun k => atDt ρ2 j fun xs => match getT xs k with
  | some v => Q (.t (.d v)) ρ2
  | none => Q c2 ρ2
theorem de_tgetD (j : Nat) (hu : X.A.units + 1 < cLine) (h : DE X g e te d) (h2 : DE X g e2 te2 d2) (hN : X.N[j]? = some x := by rfl) (hv : Vis X.env.scope x := by first | exact Or.inl rfl | exact Or.inr (Or.inl rfl) | exact Or.inr (Or.inr rfl))
    (m : M2 X (.Name x np) "get" apos e e2 cpos := by first | exact ⟨rfl, rfl, rfl, rfl, rfl, rfl⟩ | exact ⟨rfl, rfl, rfl, rfl, rfl⟩ | exact ⟨rfl, rfl, rfl, rfl⟩ | exact ⟨rfl, rfl, rfl⟩) (hd : (x == ("__debug__" : Str)) = false := by decide) (hcd : (x == ("__classdict__" : Str)) = false := by decide) :
    DE X g (.Call (.Attribute (.Name x np) "get" apos) [e, e2] [] cpos) (tDGet2 (tVar j) te te2) (dTGetD j d d2) := ⟨pe_dget2 hu (vis_or j hN hv hd hcd) h.pe h2.pe m, fun B ρ σ τs H Q Q' b s k h' => by
  obtain ⟨t0, xs0, e0, f0, h'⟩ := atDt_iff h'
  obtain ⟨p, kvs0, z1, z2, _⟩ := s.dtLook e0 f0
  refine ⟨.ref p, z1, p, rfl, .inr ⟨_, z2⟩, h.dt B ρ σ τs H _ _ b s (fun c ρ1 y H1 s1 b1 q1 => ?_) h'⟩
  refine h2.dt B ρ1 σ _ H1 _ _ b1 s1 (fun c2 ρ2 y2 H2 s2 b2 q3 => ?_) q1
  obtain ⟨kk, ek, q3⟩ := keyT_iff q3
  obtain ⟨t, xs, e1, e2, q4⟩ := atDt_iff q3
  obtain ⟨kb, rfl, hb⟩ := ((s2.perm (List.Perm.swap _ _ _)).rp ek).tupKeys
  have s2b := (s2.perm (List.Perm.swap _ _ _)).pop
  obtain ⟨p', kvs, w1, w2, _, w4, w5⟩ := s2b.pop.dtLook e1 e2
  rw [z1] at w1
  cases w1
  refine ⟨_, .inr ⟨kvs, kk, kb, w2, rfl, hb, rfl⟩, ?_⟩
  split at q4
  · rename_i dd hdd
    obtain ⟨v, w3, s3⟩ := w5 kk dd hdd
    rw [w3]
    exact k _ _ _ _ s3 b.untail q4
  · rename_i hdd
    have := w4 kk
    rw [hdd] at this
    cases hv2 : valV kvs kk with
    | some v =>
      rw [hv2] at this
      cases this
    | none => exact k _ _ _ _ s2b (b.cons fun j e => b2.low _ List.mem_cons_self j e) q4⟩
/-- e in x, e not in x, x a dict -/
def dTIn (neg : Bool) (j : Nat) (d : DT) : DT := fun ρ Q => d ρ fun c ρ1 => keyT (dat ρ1 c) fun k => atDt ρ1 j fun xs => Q (.t (.d (.bool (if neg then !(getT xs k).isSome else (getT xs k).isSome)))) ρ1
theorem dt_tin (j : Nat) (h : DE X g e te d) : Dt X g (tDIn te (tVar j)) (dTIn false j d) := fun B ρ σ τs H Q Q' b s k h' => by
  refine h.dt B ρ σ τs H _ _ b s (fun c ρ1 y H1 s1 b1 q1 => ?_) h'
  obtain ⟨kk, ek, q2⟩ := keyT_iff q1
  obtain ⟨t, xs, e1, e2, q3⟩ := atDt_iff q2
  obtain ⟨kb, rfl, hb⟩ := (s1.rp ek).tupKeys
  obtain ⟨p, kvs, z1, z2, _, z3, _⟩ := s1.dtLook e1 e2
  refine ⟨.ref p, z1, p, _, rfl, .inr ⟨kvs, kk, kb, z2, rfl, hb, rfl⟩, ?_⟩
  rw [z3]
  exact k _ _ _ _ (s1.pop.push fun G _ _ => .bl _) b.untail q3
theorem dt_tnotin (j : Nat) (h : DE X g e te d) : Dt X g (tDNotIn te (tVar j)) (dTIn true j d) := fun B ρ σ τs H Q Q' b s k h' => by
  refine h.dt B ρ σ τs H _ _ b s (fun c ρ1 y H1 s1 b1 q1 => ?_) h'
  obtain ⟨kk, ek, q2⟩ := keyT_iff q1
  obtain ⟨t, xs, e1, e2, q3⟩ := atDt_iff q2
  obtain ⟨kb, rfl, hb⟩ := (s1.rp ek).tupKeys
  obtain ⟨p, kvs, z1, z2, _, z3, _⟩ := s1.dtLook e1 e2
  refine ⟨.ref p, z1, p, _, rfl, .inr ⟨kvs, kk, kb, z2, rfl, hb, rfl⟩, ?_⟩
  rw [z3]
  exact k _ _ _ _ (s1.pop.push fun G _ _ => .bl _) b.untail q3
theorem de_tin (j : Nat) (hu : X.A.units + 1 < cLine) (h : DE X g e te d) (hm : behindInMarks .In (.Name x np) = false) (hN : X.N[j]? = some x := by rfl) (hv : Vis X.env.scope x := by first | exact Or.inl rfl | exact Or.inr (Or.inl rfl) | exact Or.inr (Or.inr rfl))
    (hd : (x == ("__debug__" : Str)) = false := by decide) (hcd : (x == ("__classdict__" : Str)) = false := by decide) :
    DE X g (.Compare e [.In] [.Name x np] pos) (tDIn te (tVar j)) (dTIn false j d) := ⟨pe_cmp (pc_din hu h.pe (vis_or j hN hv hd hcd)) hm, dt_tin j h⟩
theorem de_tnotin (j : Nat) (hu : X.A.units + 1 < cLine) (h : DE X g e te d) (hm : behindInMarks .NotIn (.Name x np) = false) (hN : X.N[j]? = some x := by rfl) (hv : Vis X.env.scope x := by first | exact Or.inl rfl | exact Or.inr (Or.inl rfl) | exact Or.inr (Or.inr rfl))
    (hd : (x == ("__debug__" : Str)) = false := by decide) (hcd : (x == ("__classdict__" : Str)) = false := by decide) :
    DE X g (.Compare e [.NotIn] [.Name x np] pos) (tDNotIn te (tVar j)) (dTIn true j d) := ⟨pe_cmp (pc_dnotin hu h.pe (vis_or j hN hv hd hcd)) hm, dt_tnotin j h⟩
theorem db_tin (j : Nat) (hu : X.A.units + 1 < cLine) (h : DE X g e te d) (hm : behindInMarks .In (.Name x np) = false) (hN : X.N[j]? = some x := by rfl) (hv : Vis X.env.scope x := by first | exact Or.inl rfl | exact Or.inr (Or.inl rfl) | exact Or.inr (Or.inr rfl))
    (hd : (x == ("__debug__" : Str)) = false := by decide) (hcd : (x == ("__classdict__" : Str)) = false := by decide) :
    DB X g (.Compare e [.In] [.Name x np] pos) (tB (tDIn te (tVar j))) (dTst (dTIn false j d)) := ⟨pt_cmp (pc_din hu h.pe (vis_or j hN hv hd hcd)) hm, dtB_of (dt_tin j h)⟩
theorem db_tnotin (j : Nat) (hu : X.A.units + 1 < cLine) (h : DE X g e te d) (hm : behindInMarks .NotIn (.Name x np) = false) (hN : X.N[j]? = some x := by rfl) (hv : Vis X.env.scope x := by first | exact Or.inl rfl | exact Or.inr (Or.inl rfl) | exact Or.inr (Or.inr rfl))
    (hd : (x == ("__debug__" : Str)) = false := by decide) (hcd : (x == ("__classdict__" : Str)) = false := by decide) :
    DB X g (.Compare e [.NotIn] [.Name x np] pos) (tB (tDNotIn te (tVar j))) (dTst (dTIn true j d)) := ⟨pt_cmp (pc_dnotin hu h.pe (vis_or j hN hv hd hcd)) hm, dtB_of (dt_tnotin j h)⟩
/-- x[e] = .., x a dict -/
def gSubT (j : Nat) (d : DT) : DTG := fun t ρ K => atDtO ρ j fun _ => d ρ fun c ρ1 => keyT (dat ρ1 c) fun k => atDtO ρ1 j fun xs => xs.length < 16777216 ∧ K (ρ1.set j (some (.dt (putDT xs k t.data))))
theorem dg_subT {cb : Bool} (j : Nat) (hu : X.A.units + 1 < cLine) (h : DE X g e te d) (hN : X.N[j]? = some x := by rfl) (hv : Vis X.env.scope x := by first | exact Or.inl rfl | exact Or.inr (Or.inl rfl) | exact Or.inr (Or.inr rfl))
    (hd : (x == ("__debug__" : Str)) = false := by decide) (hcd : (x == ("__classdict__" : Str)) = false := by decide)
    (ha : ∀ v, assign (.Subscript (.Name x np) e pos) X.env v = (do
      let ov ← holding [v] (eval (.Name x np) X.env)
      let iv ← holding [v, ov] (eval e X.env)
      standAt pos
      holding [v, ov, iv] (setItem ov iv v)
      release [v, ov, iv] []) := by intro _; rfl) :
    DG X g cb (.Subscript (.Name x np) e pos) (gSub (tVar j) te rSetD) (gSubT j d) := ⟨pg_sub (vis_or j hN hv hd hcd) h.pe (set_dict hu) ha, fun B ρ σ τs H v t Q Q' b hn s k h' => by
  obtain ⟨xs0, e0, h'⟩ := atDtO_iff h'
  obtain ⟨p, kvs0, z1, z2, _⟩ := s.dtAtO e0
  refine ⟨.ref p, z1, h.dt B ρ σ _ H _ _ b.untail s (fun c ρ1 y H1 s1 b1 q1 => ?_) h'⟩
  obtain ⟨kk, ek, q2⟩ := keyT_iff q1
  obtain ⟨xs, e1, hz, q3⟩ := atDtO_iff q2
  obtain ⟨kb, rfl, hb⟩ := (s1.rp ek).tupKeys
  obtain ⟨p', kvs, w1, w2, w3, s3⟩ := SI.putDtAt kk s1.pop.frz e1
  rw [z1] at w1
  cases w1
  exact ⟨p, _, rfl, DPut.t w2 hb (lim_lt (by rw [w3]; exact hz)), k _ _ _ s3 q3⟩⟩
/-- {e: e2}, e a tuple -/
def dDispT (d d2 : DT) : DT := fun ρ Q => d ρ fun c ρ1 => d2 ρ1 fun c2 ρ2 => keyT (dat ρ2 c) fun k => own ρ2 c2 fun t ρ3 => Q (.t (.dt [(k, t.data)])) ρ3
theorem de_dispT (hu : X.A.units < cLine) (h : DE X g e te d) (h2 : DE X g e2 te2 d2) : DE X g (.Dict [some e] [e2] pos) (tDispT te te2) (dDispT d d2) :=
  ⟨pe_dispT hu h.pe h2.pe, fun B ρ σ τs H Q Q' b s k h' p hp => by
    have s0 : SI X.K B ρ σ ((.ref p, .t (.dt [])) :: τs) (upd H p (.dT [])) := by
      obtain ⟨G, fs, ft, c⟩ := s
      exact c.newDt .nil hp
    refine h.dt B ρ σ _ _ _ _ b.untail s0 (fun c ρ1 y H1 s1 b1 q1 => ?_) h'
    refine h2.dt B ρ1 σ _ H1 _ _ b1 s1 (fun c2 ρ2 y2 H2 s2 b2 q2 => ?_) q1
    obtain ⟨kk, ek, q2⟩ := keyT_iff q2
    have sw := s2.perm (List.Perm.swap _ _ _)
    obtain ⟨kb, rfl, hb⟩ := (sw.rp ek).tupKeys
    obtain ⟨t, ρ3, q3, s3⟩ := sw.pop.own q2
    obtain ⟨kvs, w1, w2, w3, w4⟩ := SI.putDtT kk s3.frz
    have hk := w3 rfl
    subst hk
    refine ⟨w1, kb, kk, rfl, hb, ?_⟩
    exact k _ _ _ _ w4 b.untail q3⟩
/-- {} whose keys will be tuples -/
def dNewT : DT := fun ρ Q => Q (.t (.dt [])) ρ
theorem de_dnewT : DE X g (.Dict [] [] pos) tDNewT dNewT := ⟨pe_dnewT, fun B ρ σ τs H Q Q' b s k h' p hp => by
  obtain ⟨G, fs, ft, c⟩ := s
  exact k _ _ _ _ (c.newDt .nil hp) b.untail h'⟩
end
end Dl
set_option Elab.async false
set_option linter.all false
set_option maxRecDepth 100000
set_option maxHeartbeats 4000000
/-! Dl: walking a dict with tuple keys: its keys, its entries. The dict is locked for the walk. -/
namespace Dl
open PySem PySem.Spec PyProof.Rows L2
/-- at the end a lock may be taken off -/
def unP (X : Cx) (P : L2.St → Hp → Prop) : L2.St → Hp → Prop := fun σ' H' => P σ' H' ∨ ∃ (d : Addr) (od : Obj) (u : HO), (∀ o' u', X.H_0 d ≠ some (.frz o' u')) ∧ H' d = some (.frz od u) ∧ P σ' (upd H' d u)
def unV (X : Cx) (P : V → Hp → Prop) : V → Hp → Prop := fun v H' => P v H' ∨ ∃ (d : Addr) (od : Obj) (u : HO), (∀ o' u', X.H_0 d ≠ some (.frz o' u')) ∧ H' d = some (.frz od u) ∧ P v (upd H' d u)
def tUn (X : Cx) (t : TS) : TS := fun D σ H => t ⟨unP X D.nx, unV X D.rt, unP X D.bk, unP X D.ct⟩ σ H
theorem ps_un {X : Cx} {st : Stmt} {t : TS} (h : PS X st t) : PS X st (tUn X t) := by
  refine ⟨fun pins s σ H D I hw => ?_⟩
  refine thn (h.run pins s σ _ _ I hw) fun f s1 q => ?_
  cases f with
  | next =>
    obtain ⟨σ', H', I2, q⟩ := q
    rcases q with q | ⟨d, od, u, hn, e, q⟩
    · exact ⟨σ', H', I2, q⟩
    · exact ⟨σ', _, I2.unlock e hn, q⟩
  | brk =>
    obtain ⟨σ', H', I2, q⟩ := q
    rcases q with q | ⟨d, od, u, hn, e, q⟩
    · exact ⟨σ', H', I2, q⟩
    · exact ⟨σ', _, I2.unlock e hn, q⟩
  | cont =>
    obtain ⟨σ', H', I2, q⟩ := q
    rcases q with q | ⟨d, od, u, hn, e, q⟩
    · exact ⟨σ', H', I2, q⟩
    · exact ⟨σ', _, I2.unlock e hn, q⟩
  | ret v =>
    obtain ⟨x, σ', H', I2, r, q⟩ := q
    rcases q with q | ⟨d, od, u, hn, e, q⟩
    · exact ⟨x, σ', H', I2, r, q⟩
    · exact ⟨x, σ', _, I2.unlock e hn, r, q⟩
/-- a thing that is read alone while it is locked -/
def lockR (X : Cx) (d : Addr) (u : HO) (H1 : Hp) (R : Obj → Hp → Prop) : Prop := (∃ o, H1 d = some (.frz o u) ∧ R o H1) ∨ (H1 d = some u ∧ ∀ o, (∀ o' u', X.H_0 d ≠ some (.frz o' u')) → R o (upd H1 d (.frz o u)))
theorem lockR.go {X : Cx} {pins : List (Addr × Obj)} {σ : L2.St} {H1 : Hp} {s : Shared} {d : Addr} {u : HO} {R : Obj → Hp → Prop} (I : Inv X pins σ H1 s) (mu : Mut (some u)) (h : lockR X d u H1 R) : ∃ o H2, Inv X pins σ H2 s ∧ H2 d = some (.frz o u) ∧ R o H2 := by
  rcases h with ⟨o, e, q⟩ | ⟨e, q⟩
  · exact ⟨o, H1, I, e, q⟩
  · obtain ⟨od, I2⟩ := I.lock e mu
    exact ⟨od, _, I2, upd_same, q od (I.nofrz e mu)⟩
def iKeysL (X : Cx) (td : TE) : TI := fun σ H R => td σ H fun x H1 => ∃ d, x = .ref d ∧ ((∃ kvs, lockR X d (.dT kvs) H1 fun o H2 => R (Itkt d o kvs) H2) ∨ lockR X d (.dK []) H1 fun o H2 => R (Itk d o []) H2)
section
variable {X : Cx} {tg e : Expr} {td : TE} {apos cpos : Pos}
theorem pi_keysL (he : PE X e td) : PI X tg e (iKeysL X td) := by
  refine ⟨fun pins s σ H R I h => ?_⟩
  refine thn (he.run pins s σ H _ I h) fun u s1 ⟨x, H1, I1, rx, d, ex, q⟩ => ?_
  subst ex
  obtain rfl : u = Value.ref d := rx
  rcases q with ⟨kvs, q⟩ | q
  · obtain ⟨o, H2, I2, hd, q⟩ := lockR.go (u := .dT kvs) I1 True.intro q
    obtain ⟨hs, hgd, hx, es, ep, hdt, hsz, ent⟩ := I2.frzT hd
    refine iter_keys hs hgd hx hdt (pi_one (tk := s1.toks) I2 _ (turn_keysT _ hdt) ⟨_, Heap.get?_push_size _ rfl, rfl, ?_⟩ q)
    rw [hsz] <;> rfl
  · obtain ⟨o, H2, I2, hd, q⟩ := lockR.go (u := .dK []) I1 True.intro q
    obtain ⟨hs, hgd, hx, es, ep, vs, hdt, hsz, kv, hm⟩ := I2.frzK hd
    refine iter_keys hs hgd hx hdt (pi_one (tk := s1.toks) I2 _ (turn_keys _ hdt) ⟨_, Heap.get?_push_size _ rfl, rfl, ?_⟩ q)
    rw [hsz] <;> rfl
end
/-! ### entries -/
section
variable {X : Cx} {pins : List (Addr × Obj)} {σ : L2.St} {H : Hp} {s : Shared} {d : Addr} {o : Obj}
theorem Inv.frzT2 {kvs : List (List Key × V)} (I : Inv X pins σ H s) (h : H d = some (.frz o (.dT kvs))) :
    (d == sysModules) = false ∧ s.heap.get? d = some o ∧ o.ExactDict ∧ ∃ (es : Array DictEntry) (ep : Nat), o.data = .dict es ep ∧ es.size = kvs.length ∧
      ∀ (i : Nat) (k : List Key) (v : V), kvs[i]? = some (k, v) → ∃ (en : DictEntry) (q : Addr), es[i]? = some en ∧ en.key = .ref q ∧ H q = some (.tup (k.map kV)) ∧ RelV v en.val := by
  obtain ⟨hd, z, hs, xs, pr, o', es, ep, ho, hx, hdt, he, _⟩ := I.hok d _ h
  rw [hd] at ho
  cases ho
  refine ⟨hs, hd, hx, es, ep, hdt, ?_, fun i k v e => ?_⟩
  · have l1 : es.size = xs.length := size_of_entries he
    have l2 : kvs.length = xs.length := Paired.length pr
    omega
  · obtain ⟨b, hb, e1, e2, e3⟩ := paired_get pr e
    have q := entry_at he i
    rw [hb] at q
    exact ⟨_, b.2.1, q, rfl, e2, e3⟩
end
/-- the pairs, each a new tuple, the keys tuples -/
def Itit (d : Addr) (o : Obj) (kvs : List (List Key × V)) : It :=
  ⟨fun i H => H d = some (.frz o (.dT kvs)) ∧ i < kvs.length, fun i H x H' => ∃ T k v q, kvs[i]? = some (k, v) ∧ x = .ref T ∧ H T = none ∧ H q = some (.tup (k.map kV)) ∧ H' = upd H T (.tup [.ref q, v]), fun i H => H d = some (.frz o (.dT kvs)) ∧ kvs.length ≤ i⟩
section
variable {P : Program} {w : World} {K : PySem.W.Frag} {tg : Expr} {d : Addr} {o : Obj} {es : Array DictEntry} {ep : Nat}
theorem turn_itemsT {kvs : List (List Key × V)} {elts : List Expr} {kk : Nat} {tpos : Pos} (it : Addr) (hod : o.data = .dict es ep) :
    Turn P w K (.Tuple elts kk tpos) (Itit d o kvs) [it] it (fun i h => ∃ ok ov, IsItemIter h it d i kvs.length ep ok ov) where
  mem := by simp
  obj := fun i h st b hb => by
    have e : b = it := by simpa using hb
    subst e
    obtain ⟨ok, ov, e⟩ := st
    exact ⟨_, e, fun v z => nomatch z⟩
  keep := fun i h h' st k => let ⟨ok, ov, e⟩ := st; ⟨ok, ov, k it (by simp) _ e⟩
  item := by
    intro X hP hw hK hc i pins s σ H E I hf st hg
    subst hP hw hK
    obtain ⟨hd, hi⟩ := hg
    obtain ⟨hs, hgd, hx, es', ep', hdt, hsz, ent⟩ := Inv.frzT2 I hd
    obtain ⟨rfl, rfl⟩ := dict_ep hod hdt
    obtain ⟨⟨k, v⟩, hkv⟩ : ∃ p, kvs[i]? = some p := ⟨kvs[i], List.getElem?_eq_getElem hi⟩
    obtain ⟨en, q, hen, hkey, hq, hv⟩ := ent i k v hkv
    obtain ⟨ok, ov, he⟩ := st
    have hlt : it < s.heap.objs.size := Heap.lt_size he
    rw [← hsz] at he hi
    have een : es'[i] = en := by
      rw [Array.getElem?_eq_getElem hi] at hen
      exact Option.some.inj hen
    refine DT.nextI he ⟨o, hgd, hx, hdt⟩ hi fun h' ho hT hz hk => ?_
    rw [een] at ho hT
    refine ⟨_, rfl, wpAny_letOwnedTupleGo_items (s := { s with heap := h' }) ho fun h'' he' sb => ?_⟩
    have hT2 : h''.get? s.heap.objs.size = some { cls := .type "tuple", data := .seq #[en.key, en.val] } := (sb.2 _ (Nat.ne_of_gt hlt)).trans hT
    have new : ObjOk X.prog X.w (upd H s.heap.objs.size (.tup [.ref q, v])) h'' s.heap.objs.size (.tup [.ref q, v]) :=
      ⟨by show 2 ≤ sizeLine; rw [sizeLine_eq]; decide, [en.key, en.val], .cons hkey (.cons hv .nil), ⟨_, hT2, rfl, _, rfl⟩⟩
    have I1 : Inv X pins σ (upd H s.heap.objs.size (.tup [.ref q, v])) { s with heap := h'' } :=
      I.turnedNew (t' := s.toks) (ch := [it]) (fun b ob hb e => (sb.2 b (by simpa using hb)).trans (hk b ob (by simpa using hb) e)) hf (Nat.le_refl _) new
    refine ⟨.ref s.heap.objs.size, _, I1, rfl, ⟨_, k, v, q, hkv, rfl, I.hok.fresh (Nat.le_refl _), hq, rfl⟩, ⟨en.key, en.val, ?_⟩, fun b hb => ?_⟩
    · rw [hsz] at he'; exact he'
    · have e : b = it := by simpa using hb
      rw [e, upd_ne (Nat.ne_of_lt hlt)]
      exact (hf it (by simp)).1
  done := by
    intro X hP hw hK hc i pins s σ H E I hf st hg
    subst hP hw hK
    obtain ⟨hd, hi⟩ := hg
    obtain ⟨f0, f1, f2, f3, f4, f5⟩ := hf it (by simp)
    obtain ⟨hs, hgd, hx, es', ep', hdt, hsz, ent⟩ := Inv.frzT2 I hd
    obtain ⟨rfl, rfl⟩ := dict_ep hod hdt
    obtain ⟨ok, ov, he⟩ := st
    rw [← hsz] at he hi
    exact DT.endI (I.ok.hd hc) he ⟨o, hgd, hx, hdt⟩ hi fun h' eb => ⟨rfl, I.turned (t' := s.toks) (fun b ob hb e => eb b ob hb e) f0 f1 f3 f4 f5⟩
  self := fun A i s Q E st h => let ⟨_, _, e⟩ := st; PySem.W.kcp_self e h
end
def iItemsL (X : Cx) (td : TE) : TI := fun σ H R => td σ H fun x H1 => ∃ d kvs, x = .ref d ∧ lockR X d (.dT kvs) H1 fun o H2 => R (Itit d o kvs) H2
section
variable {X : Cx} {tg e : Expr} {td : TE} {apos cpos : Pos}
theorem pi_itemsL {elts : List Expr} {kk : Nat} {tpos : Pos} (he : PE X e td) (hbase : attributeBase e "items" X.env (eval e X.env) = eval e X.env := by rfl) (hline : (apos.endLine == cpos.line) = true := by rfl) :
    PI X (.Tuple elts kk tpos) (.Call (.Attribute e "items" apos) [] [] cpos) (iItemsL X td) := by
  refine ⟨fun pins s σ H R I h => ?_⟩
  refine wpAny_Call_method (T := "dict") (id := "dict.items") hbase rfl hline F.plainAttrs_dict F.slot_dict_items F.type_dict_items (thn (he.run pins s σ H _ I h) fun u s1 ⟨x, H1, I1, rx, d, kvs, ex, q⟩ => ?_)
  subst ex
  obtain rfl : u = Value.ref d := rx
  obtain ⟨o, H2, I2, hd, q⟩ := lockR.go (u := .dT kvs) I1 True.intro q
  obtain ⟨hs, hgd, hx, es, ep, hdt, hsz, ent⟩ := Inv.frzT2 I2 hd
  have hr : DT.Raw s1.heap d es ep := ⟨o, hgd, hx, hdt⟩
  have hty : s1.TypeIs (.ref d) "dict" := hr.typeIs
  refine ⟨hty, ?_, ?_⟩
  · intro a ea
    cases ea
    exact ⟨o, hgd, hx.2.1⟩
  have I3 : Inv X pins σ H2 { s1 with heap := s1.heap.push { cls := .type "dict_items", data := .fields #[.ref d] } } := I2.kept (t' := s1.toks) fun b ob q => Heap.get?_push_of_some _ q
  have fin : wpAny (model X.prog X.w) X.A (pyIter (.ref s1.heap.objs.size)) (PIE X pins σ (.Tuple elts kk tpos) R) X.xe { s1 with heap := s1.heap.push { cls := .type "dict_items", data := .fields #[.ref d] } } := by
    refine DT.iterI (es := es) (ep := ep) ⟨_, Heap.get?_push_size _ rfl, rfl, rfl⟩ (hr.push _) (pi_one (tk := s1.toks) I3 _ (turn_itemsT _ hdt) ⟨.none, .none, ?_⟩ q)
    rw [← hsz]
    exact Heap.get?_push_size _ rfl
  show wpAny _ _ (callWith cpos (.builtin "dict.items") [.ref d] [] []) _ X.xe s1
  exact method_meetsIn F.slot_dict_items F.entry_dict_items rfl (PySem.evalArgs_none ⟨rfl, hty, F.args_dict_items_1 _, _, DT.meetsItems (es := es) (ep := ep) hs, hr, fin⟩)
end
/-! ### the lock in the data layer -/
theorem Mut.nf {u : HO} (mu : Mut (some u)) : (∀ o v, u ≠ HO.frz o v) ∧ (∀ xs, u ≠ .tup xs) ∧ tl u = false := by
  cases u <;> first | exact False.elim mu | exact ⟨fun _ _ z => (nomatch z), fun _ z => (nomatch z), rfl⟩
theorem er_lock {G : Hp} {d : Addr} {u : HO} (h : G d = some u) (mu : Mut (some u)) (o : Obj) : Er G (upd G d (.frz o u)) := by
  obtain ⟨n1, n2, _⟩ := Mut.nf mu
  refine ⟨fun a v nf r => ?_, fun a xs e => ?_⟩
  · by_cases ha : a = d
    · subst ha
      rcases r with r | ⟨o', r⟩
      · rw [h] at r
        cases r
        exact .inr ⟨o, upd_same⟩
      · rw [h] at r
        exact absurd (Option.some.inj r) (n1 _ _)
    · unfold Rd
      rw [upd_ne ha]
      exact r
  · by_cases ha : a = d
    · subst ha
      have e' : G a = some (.tup xs) := e
      rw [h] at e'
      exact absurd (Option.some.inj e') (n2 _)
    · show upd G d _ a = _
      rw [upd_ne ha]
      exact e
theorem er_unlock {G : Hp} {d : Addr} {u : HO} {o : Obj} (h : G d = some (.frz o u)) : Er G (upd G d u) := by
  refine ⟨fun a v nf r => ?_, fun a xs e => ?_⟩
  · by_cases ha : a = d
    · subst ha
      rcases r with r | ⟨o', r⟩
      · rw [h] at r
        exact absurd (Option.some.inj r).symm (nf _ _)
      · rw [h] at r
        cases r
        exact .inl upd_same
    · unfold Rd
      rw [upd_ne ha]
      exact r
  · by_cases ha : a = d
    · subst ha
      have e' : G a = some (.tup xs) := e
      rw [h] at e'
      cases e'
    · show upd G d _ a = _
      rw [upd_ne ha]
      exact e
section
variable {K : PySem.W.Frag} {B : Base} {ρ : Rho} {σ : L2.St} {τs : List (V × C)} {H : Hp}
theorem SI.locked {d : Addr} {u : HO} (s : SI K B ρ σ τs H) (hg : B.G0 d = some u) (mu : Mut (some u)) (o : Obj) : ∃ B' : Base, B'.pin = B.pin ∧ SI K B' ρ σ τs (upd H d (.frz o u)) ∧ B'.G0 d = some (.frz o u) ∧ Er B.G0 B'.G0 ∧
    ∀ ρ' σ' τs' H', SI K B' ρ' σ' τs' H' → H' d = some (.frz o u) ∧ SI K B ρ' σ' τs' (upd H' d u) := by
  obtain ⟨n1, n2, n3⟩ := Mut.nf mu
  obtain ⟨G, fs, ft, c⟩ := s
  cases c with
  | mk g0 gh h0 tup new slots temps nd own pin =>
  have hG := g0 _ _ hg
  have hH := gh _ _ hG
  have dn : ∀ a ∈ fs ++ ft, a ≠ d := fun a h z => by
    have := (own a h).1
    rw [z, hG] at this
    cases this
  have kp : ∀ a ∈ fs ++ ft, upd H d (.frz o u) a = H a := fun a h => upd_ne (dn a h)
  have er := er_lock hG mu o
  refine ⟨⟨upd B.G0 d (.frz o u), fun a => if a = d then (B.H0 d).map (fun _ => .frz o u) else B.H0 a, B.pin⟩, rfl, ⟨upd G d (.frz o u), fs, ft, ?_⟩, upd_same, er_lock hg mu o, fun ρ' σ' τs' H' s' => ?_⟩
  · refine { g0 := fun a v e => ?_, gh := fun a v e => ?_, h0 := fun a v e => ?_, tup := fun a v ht e => ?_, new := fun a e1 e2 => ?_, slots := slots.mono er fun a h => kp a (List.mem_append_left _ h), temps := temps.mono er fun a h => kp a (List.mem_append_right _ h), nd := nd, own := fun a h => ?_, pin := pin }
    · have e' : upd B.G0 d (.frz o u) a = some v := e
      by_cases ha : a = d
      · subst ha
        rw [upd_same] at e' ⊢
        exact e'
      · rw [upd_ne ha] at e' ⊢
        exact g0 _ _ e'
    · by_cases ha : a = d
      · subst ha
        rw [upd_same] at e ⊢
        exact e
      · rw [upd_ne ha] at e ⊢
        exact gh _ _ e
    · have e' : (if a = d then (B.H0 d).map (fun _ => HO.frz o u) else B.H0 a) = some v := e
      by_cases ha : a = d
      · subst ha
        rw [if_pos rfl] at e'
        obtain ⟨_, _, rfl⟩ := Option.map_eq_some_iff.mp e'
        exact upd_same
      · rw [if_neg ha] at e'
        rw [upd_ne ha]
        exact h0 _ _ e'
    · by_cases ha : a = d
      · subst ha
        rw [upd_same] at e
        cases e
        cases u <;> first | exact absurd rfl (n2 _) | cases ht
      · rw [upd_ne ha] at e ⊢
        exact tup _ _ ht e
    · have e1' : upd B.G0 d (.frz o u) a = none := e1
      have e2' : (if a = d then (B.H0 d).map (fun _ => HO.frz o u) else B.H0 a) ≠ none := e2
      by_cases ha : a = d
      · subst ha
        rw [upd_same] at e1'
        cases e1'
      · rw [upd_ne ha] at e1' ⊢
        rw [if_neg ha] at e2'
        exact new _ e1' e2'
    · have ha := dn a h
      obtain ⟨q1, q2⟩ := own a h
      refine ⟨by rw [upd_ne ha]; exact q1, ?_⟩
      show (if a = d then (B.H0 d).map (fun _ => HO.frz o u) else B.H0 a) = none
      rw [if_neg ha]
      exact q2
  · obtain ⟨G', fs', ft', c'⟩ := s'
    cases c' with
    | mk g0' gh' h0' tup' new' slots' temps' nd' own' pin' =>
    have hG' : G' d = some (.frz o u) := g0' _ _ upd_same
    have hH' := gh' _ _ hG'
    have dn' : ∀ a ∈ fs' ++ ft', a ≠ d := fun a h z => by
      have := (own' a h).1
      rw [z, hG'] at this
      cases this
    have kp' : ∀ a ∈ fs' ++ ft', upd H' d u a = H' a := fun a h => upd_ne (dn' a h)
    have er' := er_unlock hG'
    have ho : ∀ v, B.H0 d = some v → v = u := fun v e => by
      have := h0 _ _ e
      rw [hH] at this
      exact (Option.some.inj this).symm
    refine ⟨hH', upd G' d u, fs', ft', { g0 := fun a v e => ?_, gh := fun a v e => ?_, h0 := fun a v e => ?_, tup := fun a v ht e => ?_, new := fun a e1 e2 => ?_, slots := slots'.mono er' fun a h => kp' a (List.mem_append_left _ h), temps := temps'.mono er' fun a h => kp' a (List.mem_append_right _ h), nd := nd', own := fun a h => ?_, pin := pin' }⟩
    · by_cases ha : a = d
      · subst ha
        rw [hg] at e
        rw [upd_same]
        exact e
      · rw [upd_ne ha]
        exact g0' a v (show upd B.G0 d (.frz o u) a = some v by rw [upd_ne ha]; exact e)
    · by_cases ha : a = d
      · subst ha
        rw [upd_same] at e ⊢
        exact e
      · rw [upd_ne ha] at e ⊢
        exact gh' _ _ e
    · by_cases ha : a = d
      · subst ha
        rw [upd_same, ho v e]
      · rw [upd_ne ha]
        exact h0' a v (show (if a = d then (B.H0 d).map (fun _ => HO.frz o u) else B.H0 a) = some v by rw [if_neg ha]; exact e)
    · by_cases ha : a = d
      · subst ha
        rw [upd_same] at e ⊢
        exact e
      · rw [upd_ne ha] at e ⊢
        exact tup' _ _ ht e
    · by_cases ha : a = d
      · subst ha
        rw [hg] at e1
        cases e1
      · rw [upd_ne ha]
        exact new' a (show upd B.G0 d (.frz o u) a = none by rw [upd_ne ha]; exact e1) (show (if a = d then (B.H0 d).map (fun _ => HO.frz o u) else B.H0 a) ≠ none by rw [if_neg ha]; exact e2)
    · have ha := dn' a h
      obtain ⟨q1, q2⟩ := own' a h
      have q2' : (if a = d then (B.H0 d).map (fun _ => HO.frz o u) else B.H0 a) = none := q2
      rw [if_neg ha] at q2'
      exact ⟨by rw [upd_ne ha]; exact q1, q2'⟩
end
/-- what comes back behind a lock -/
def BackL (X : Cx) (B B' : Base) : Prop := ∀ ρ' σ' τs' H', SI X.K B' ρ' σ' τs' H' → SI X.K B ρ' σ' τs' H' ∨ ∃ (d : Addr) (od : Obj) (u : HO), (∀ o' u', X.H_0 d ≠ some (.frz o' u')) ∧ H' d = some (.frz od u) ∧ SI X.K B ρ' σ' τs' (upd H' d u)
theorem lock_use {X : Cx} {B : Base} {ρ : Rho} {σ : L2.St} {τs : List (V × C)} {H : Hp} {d : Addr} {u : HO} {R : Obj → Hp → Prop} (s : SI X.K B ρ σ τs H) (rd : Rd B.G0 d u) (mu : Mut (some u))
    (h : ∀ o H2 B', B'.pin = B.pin → SI X.K B' ρ σ τs H2 → B'.G0 d = some (.frz o u) → Er B.G0 B'.G0 → BackL X B B' → R o H2) : lockR X d u H R := by
  rcases rd with e | ⟨o, e⟩
  · refine .inr ⟨s.ex0 _ _ e, fun o hn => ?_⟩
    obtain ⟨B', q1, q2, q3, q4, q5⟩ := s.locked e mu o
    exact h o _ B' q1 q2 q3 q4 fun ρ' σ' τs' H' s' => .inr ⟨d, o, u, hn, (q5 _ _ _ _ s').1, (q5 _ _ _ _ s').2⟩
  · exact .inl ⟨o, s.ex0 _ _ e, h o _ B rfl s e (Er.refl _) fun ρ' σ' τs' H' s' => .inl s'⟩
def DtIL (X : Cx) (g : Gm) (wi : TI) (t : DTI) : Prop := ∀ (B : Base) (ρ : Rho) (σ : L2.St) (H : Hp) (R : It → Hp → Prop) (R' : List PyData → Rho → Prop), BOk X.K X.mg g B [] → SI X.K B ρ σ [] H →
  (∀ ds ρ' J H' B', B'.pin = B.pin → SI X.K B' ρ' σ [] H' → BackL X B B' → Walks X.K B' J ds → R' ds ρ' → R J H') → t ρ R' → wi σ H R
section
variable {X : Cx} {g : Gm} {tg : Expr} {pos : Pos}
theorem ds_forL {iter : Expr} {body : List Stmt} {wi : TI} {gt : TG} {tb : TS} {di : DTI} {dg : DTG} {db : DTS} (hp : PassesOwn (model X.prog X.w) X.A X.env X.xe) (hc : X.calm = true) (hpi : PI X tg iter wi) (hi : DtIL X g wi di) (hg : DG X { g with w := Wsh.none } false tg gt dg) (hb : DSs X { g with w := Wsh.none } body tb db) (hs : ∀ x, foldedSetIterable iter X.env x = pure x := by intro _; rfl) :
    DS X g (.For tg iter body [] pos) (tUn X (tFor wi gt tb)) (dFor di dg db) := ⟨ps_un (ps_for hp hc hpi hg.pg hb.ps hs), fun B ρ σ H D D' b s k h => by
  refine hi B ρ σ H _ _ b s (fun ds ρ1 J H1 B' hpin s1 back W q => ?_) h
  obtain ⟨I, i0, turn, fin⟩ := q
  have b' : BOk X.K X.mg { g with w := Wsh.none } B' [] := ⟨fun p hp => (List.not_mem_nil hp).elim, fun _ _ _ _ _ _ _ _ q => q.elim, fun p m => b.pin p (by rw [← hpin]; exact m)⟩
  have bkN : ∀ {P : L2.St → Hp → Prop} {P' : Rho → Prop}, (∀ ρ σ H, SI X.K B ρ σ [] H → P' ρ → P σ H) → ∀ ρ4 σ4 H4, SI X.K B' ρ4 σ4 [] H4 → P' ρ4 → unP X P σ4 H4 := fun {P P'} hk ρ4 σ4 H4 s4 q4 => by
    rcases back _ _ _ _ s4 with z | ⟨d, od, u, n, e, z⟩
    · exact .inl (hk _ _ _ z q4)
    · exact .inr ⟨d, od, u, n, e, hk _ _ _ z q4⟩
  have bkR : ∀ x ρ4 σ4 v H4, SI X.K B' ρ4 σ4 [(v, .t x)] H4 → D'.rt x ρ4 → unV X D.rt v H4 := fun x ρ4 σ4 v H4 s4 q4 => by
    rcases back _ _ _ _ s4 with z | ⟨d, od, u, n, e, z⟩
    · exact .inl (k.rt _ _ _ _ _ z q4)
    · exact .inr ⟨d, od, u, n, e, k.rt _ _ _ _ _ z q4⟩
  refine ⟨fun i m σ' H' => m = ds.length - i ∧ i ≤ ds.length ∧ ∃ ρ', SI X.K B' ρ' σ' [] H' ∧ I i ρ', ⟨ds.length, rfl, Nat.zero_le _, ρ1, s1, i0⟩, ?_⟩
  rintro i m σ' H' ⟨rfl, hle, ρ', s', hI⟩
  by_cases hlt : i < ds.length
  · have e : ds[i]? = some ds[i] := List.getElem?_eq_getElem hlt
    refine .inr ⟨W.go i _ _ _ _ _ e s', fun σ2 H2 => ∃ ρ2, SI X.K B' ρ2 σ2 [] H2 ∧ I (i + 1) ρ2, fun σ2 H2 ⟨ρ2, s2, q2⟩ => ⟨ds.length - (i + 1), by omega, rfl, hlt, ρ2, s2, q2⟩, fun x H2 y => ?_⟩
    have s2 := W.yld i _ _ _ _ _ _ _ e s' y
    refine hg.dt B' ρ' σ' [] H2 x (.d ds[i]) _ _ b' (fun _ p hp => by cases hp) s2 (fun ρ3 σ3 H3 s3 q3 => ?_) (turn i ds[i] ρ' e hI)
    exact hb.dt B' ρ3 σ3 H3 _ { D' with nx := I (i + 1), ct := I (i + 1), bk := D'.nx } b' s3 ⟨fun ρ4 σ4 H4 s4 q4 => ⟨ρ4, s4, q4⟩, bkR, fun ρ4 σ4 H4 s4 q4 => bkN k.nx _ _ _ s4 q4, fun ρ4 σ4 H4 s4 q4 => ⟨ρ4, s4, q4⟩⟩ q3
  · have e : i = ds.length := by omega
    subst e
    exact .inl ⟨W.stop _ _ _ _ s', bkN k.nx _ _ _ s' (fin ρ' hI)⟩⟩
end
theorem rpL_keys {K : PySem.W.Frag} {G : Hp} : ∀ ks : List Key, RpL K G (ks.map kV) (ks.map kd)
  | [] => .nil
  | .inl i :: ks => .cons (.int i) (rpL_keys ks)
  | .inr x :: ks => .cons (.str x) (rpL_keys ks)
theorem TR.at_ {K : PySem.W.Frag} {G : Hp} : ∀ {kvs : List (List Key × V)} {xs : List (List Key × PyData)} {i : Nat} {k : List Key} {v : V}, TR K G kvs xs → kvs[i]? = some (k, v) → ∃ d, xs[i]? = some (k, d) ∧ Rp K G v d
  | _, _, _, _, _, .nil, e => by simp at e
  | _, _, 0, k, v, .cons q t, e => by
    simp at e
    obtain ⟨rfl, rfl⟩ := e
    exact ⟨_, rfl, q⟩
  | _, _, i + 1, k, v, .cons q t, e => by
    obtain ⟨d, h1, h2⟩ := TR.at_ (i := i) t (by simpa using e)
    exact ⟨d, by simpa using h1, h2⟩
section
variable {K : PySem.W.Frag} {B : Base} {a : Addr} {o : Obj} {kvs : List (List Key × V)} {xs : List (List Key × PyData)}
theorem walks_keysT (h1 : B.G0 a = some (.frz o (.dT kvs))) (h2 : TR K B.G0 kvs xs) : Walks K B (Itkt a o kvs) (xs.map fun p => PyData.tuple (p.1.map kd)) where
  go := fun i d ρ σ τs H hi s => ⟨s.ex0 _ _ h1, by
    have := (List.getElem?_eq_some_iff.mp hi).1
    rw [List.length_map, ← h2.len] at this
    exact this⟩
  yld := fun i d ρ σ τs H x H' hi s y => by
    obtain ⟨rfl, k, v, q, hkv, rfl, hq⟩ := y
    obtain ⟨d', e1, _⟩ := h2.at_ hkv
    rw [List.getElem?_map, e1] at hi
    cases hi
    exact s.push fun G gh tu => .tup (tu _ _ rfl hq) (rpL_keys k)
  stop := fun ρ σ τs H s => ⟨s.ex0 _ _ h1, by rw [List.length_map, h2.len]; exact Nat.le_refl _⟩
theorem walks_keys0 (h1 : B.G0 a = some (.frz o (.dK []))) : Walks K B (Itk a o []) [] where
  go := fun i d ρ σ τs H hi s => by simp at hi
  yld := fun i d ρ σ τs H x H' hi s y => by simp at hi
  stop := fun ρ σ τs H s => ⟨s.ex0 _ _ h1, Nat.le_refl _⟩
theorem walks_itemsT (h1 : B.G0 a = some (.frz o (.dT kvs))) (h2 : TR K B.G0 kvs xs) : Walks K B (Itit a o kvs) (xs.map fun p => PyData.tuple [PyData.tuple (p.1.map kd), p.2]) where
  go := fun i d ρ σ τs H hi s => ⟨s.ex0 _ _ h1, by
    have := (List.getElem?_eq_some_iff.mp hi).1
    rw [List.length_map, ← h2.len] at this
    exact this⟩
  yld := fun i d ρ σ τs H x H' hi s y => by
    obtain ⟨T, k, v, q, hkv, rfl, hT, hq, rfl⟩ := y
    obtain ⟨d', e1, e2⟩ := h2.at_ hkv
    rw [List.getElem?_map, e1] at hi
    cases hi
    exact SI.pair (SI.push (s.pushG e2) fun G gh tu => .tup (tu _ _ rfl hq) (rpL_keys k)) hT
  stop := fun ρ σ τs H s => ⟨s.ex0 _ _ h1, by rw [List.length_map, h2.len]; exact Nat.le_refl _⟩
end
def asTab (x : PyData) (k : List (List Key × PyData) → Prop) : Prop := match x with
  | .dict es => match entT es with
    | some xs => k xs
    | none => False
  | _ => False
theorem asTab_iff {x : PyData} {k : List (List Key × PyData) → Prop} (h : asTab x k) : ∃ es xs, x = .dict es ∧ entT es = some xs ∧ k xs := by
  unfold asTab at h
  split at h
  · split at h
    · rename_i es _ xs e
      exact ⟨es, xs, rfl, e, h⟩
    · exact h.elim
  · exact h.elim
theorem Rp.dict0 {K : PySem.W.Frag} {G : Hp} {v : V} (r : Rp K G v (.dict [])) : ∃ p, v = .ref p ∧ (Rd G p (.dK []) ∨ Rd G p (.dT [])) := by
  generalize hD : PyData.dict [] = D at r
  cases r with
  | @dk a kvs ds s q =>
    injection hD with hD
    have hl : kvs.length = ds.length := by simpa using q.len
    cases kvs with
    | nil => exact ⟨a, rfl, .inl s⟩
    | cons p kvs =>
      cases ds with
      | nil => simp at hl
      | cons d ds => simp at hD
  | exc _ _ =>
    injection hD with hD
    cases hD
  | @dt a kvs ds s q =>
    injection hD with hD
    have hl : kvs.length = ds.length := by simpa using q.len
    cases kvs with
    | nil => exact ⟨a, rfl, .inr s⟩
    | cons p kvs =>
      cases ds with
      | nil => simp at hl
      | cons d ds => simp at hD
  | non => cases hD
  | bl _ => cases hD
  | int _ => cases hD
  | str _ => cases hD
  | lst _ _ => cases hD
  | tup _ _ => cases hD
theorem BackL.trans {X : Cx} {A B C : Base} (h : ∀ ρ' σ' τs' H', SI X.K B ρ' σ' τs' H' → SI X.K A ρ' σ' τs' H') (k : BackL X B C) : BackL X A C := fun ρ' σ' τs' H' s => by
  rcases k _ _ _ _ s with z | ⟨d, od, u, n, e, z⟩
  · exact .inl (h _ _ _ _ z)
  · exact .inr ⟨d, od, u, n, e, h _ _ _ _ z⟩
section
variable {X : Cx} {g : Gm} {tg e : Expr} {te : TE} {d : DT} {apos cpos : Pos}
/-- the keys of a dict of tuples -/
def iKT (t : DT) : DTI := fun ρ R => t ρ fun c ρ1 => frz ρ1 c fun x ρ2 => asTab x fun xs => R (xs.map fun p => PyData.tuple (p.1.map kd)) ρ2
theorem TR.mono' {K : PySem.W.Frag} {G G' : Hp} (g : Er G G') {kvs : List (List Key × V)} {xs : List (List Key × PyData)} (h : TR K G kvs xs) : TR K G' kvs xs := h.mono g
theorem dt_keysL (h : DE X g e te d) : DtIL X g (iKeysL X te) (iKT d) := fun B ρ σ H R R' b s k h' => by
  refine h.dt B ρ σ [] H _ _ b s (fun c ρ1 v H1 s1 b1 q1 => ?_) h'
  obtain ⟨x, ρ2, q2, s2⟩ := s1.frzd q1
  obtain ⟨es, xs, rfl, ex, q3⟩ := asTab_iff q2
  obtain ⟨B0, hp, s3, r3, x3, back⟩ := s2.ground
  have bk : ∀ ρ' σ' τs' H', SI X.K B0 ρ' σ' τs' H' → SI X.K B ρ' σ' τs' H' := fun ρ' σ' τs' H' q => (back ρ' σ' τs' H' q).1
  by_cases he : es = []
  · subst he
    cases ex
    obtain ⟨p, rfl, rd | rd⟩ := r3.dict0
    · exact ⟨p, rfl, .inr (lock_use s3 rd True.intro fun o H2 B' p1 s4 hg er bl => k [] ρ2 _ H2 B' (p1.trans hp) s4 (BackL.trans bk bl) (walks_keys0 hg) q3)⟩
    · exact ⟨p, rfl, .inl ⟨[], lock_use s3 rd True.intro fun o H2 B' p1 s4 hg er bl => k [] ρ2 _ H2 B' (p1.trans hp) s4 (BackL.trans bk bl) (walks_keysT hg .nil) q3⟩⟩
  · obtain ⟨p, kvs, rfl, rd, tr⟩ := r3.entT ex he
    exact ⟨p, rfl, .inl ⟨kvs, lock_use s3 rd True.intro fun o H2 B' p1 s4 hg er bl => k _ ρ2 _ H2 B' (p1.trans hp) s4 (BackL.trans bk bl) (walks_keysT hg (tr.mono' er)) q3⟩⟩
/-- its entries -/
def asTab1 (x : PyData) (k : List (List Key × PyData) → Prop) : Prop := asTab x fun xs => xs ≠ [] ∧ k xs
def iIT (t : DT) : DTI := fun ρ R => t ρ fun c ρ1 => frz ρ1 c fun x ρ2 => asTab x fun xs => xs ≠ [] ∧ R (xs.map fun p => PyData.tuple [PyData.tuple (p.1.map kd), p.2]) ρ2
theorem dt_itemsL (h : DE X g e te d) : DtIL X g (iItemsL X te) (iIT d) := fun B ρ σ H R R' b s k h' => by
  refine h.dt B ρ σ [] H _ _ b s (fun c ρ1 v H1 s1 b1 q1 => ?_) h'
  obtain ⟨x, ρ2, q2, s2⟩ := s1.frzd q1
  obtain ⟨es, xs, rfl, ex, hne, q3⟩ := asTab_iff q2
  obtain ⟨B0, hp, s3, r3, x3, back⟩ := s2.ground
  have bk : ∀ ρ' σ' τs' H', SI X.K B0 ρ' σ' τs' H' → SI X.K B ρ' σ' τs' H' := fun ρ' σ' τs' H' q => (back ρ' σ' τs' H' q).1
  have he : es ≠ [] := fun z => by
    subst z
    cases ex
    exact hne rfl
  obtain ⟨p, kvs, rfl, rd, tr⟩ := r3.entT ex he
  exact ⟨p, kvs, rfl, lock_use s3 rd True.intro fun o H2 B' p1 s4 hg er bl => k _ ρ2 _ H2 B' (p1.trans hp) s4 (BackL.trans bk bl) (walks_itemsT hg (tr.mono' er)) q3⟩
end
end Dl
set_option Elab.async false
set_option linter.all false
set_option maxRecDepth 100000
set_option maxHeartbeats 4000000
namespace Dl
open PySem PySem.Spec PyProof.Rows L2
section
variable {prog : Program} {w : World} {A : Around} {E : Value → Shared → Prop} {s : Shared}
theorem samePairs0 {nm : String} {a b : Addr} {es : Array DictEntry} {ep ep' : Nat} {Q : Bool → Shared → Prop} (ha : (a == sysModules) = false) (hb : (b == sysModules) = false)
    (ra : DT.Raw s.heap a es ep) (rb : DT.Raw s.heap b #[] ep') (h : Q (es.size == 0) s) :
    wpAny (model prog w) A (Builtin.Dict.samePairs nm a b) Q E s := by
  obtain ⟨oa, hoa, _, hda⟩ := ra
  obtain ⟨ob, hob, _, hdb⟩ := rb
  unfold Builtin.Dict.samePairs Builtin.Dict.showsAll
  rw [if_neg (show ¬ (a == sysModules) = true by rw [ha]; exact Bool.false_ne_true), if_neg (show ¬ (b == sysModules) = true by rw [hb]; exact Bool.false_ne_true)]
  refine wpAny_bind (wpAny_pure (wpAny_bind (wpAny_pure ?_)))
  refine wpAny_bind (wpAny_dictEntries hoa hda ?_)
  dsimp only
  refine wpAny_bind (wpAny_dictEntries hob hdb ?_)
  by_cases hsz : es.size = 0
  case neg =>
    rw [if_pos (by simpa using hsz)]
    have hbf : (es.size == 0) = false := by simpa using hsz
    rw [hbf] at h
    exact wpAny_bind (wpAny_rule (wpAny_pure h))
  case pos =>
    have h' : Q true s := by simpa [hsz] using h
    rw [if_neg (by rw [hsz]; simp)]
    refine wpAny_bind (wpAny_dictEpoch hoa hda ?_)
    refine wpAny_bind ?_
    rw [Std.Legacy.Range.forIn_eq_forIn_range']
    simp only [Std.Legacy.Range.size, Nat.sub_zero, Nat.add_sub_cancel, Nat.div_one, hsz]
    show wpAny _ _ (forIn [] (none, ()) _) _ _ _
    rw [List.forIn_nil]
    exact wpAny_pure (wpAny_pure h')
theorem rc_ne0 {a b : Addr} {es : Array DictEntry} {ep ep' : Nat} {Q : Value → Shared → Prop} (ha : (a == sysModules) = false) (hb : (b == sysModules) = false)
    (ra : DT.Raw s.heap a es ep) (rb : DT.Raw s.heap b #[] ep') (hu : A.units < cLine) (h : Q (.bool (!(es.size == 0))) s) : wpAny (model prog w) A (richCompare .NotEq (.ref a) (.ref b)) Q E s := by
  have tb : s.TypeIs (.ref b) "dict" := rb.typeIs
  refine wpAny_richCompare_same_room (op := .NotEq) ra.typeIs rb.typeIs PySem.F.slot_dict_ne (wpAny_call_entry PySem.F.slot_dict_ne ra.typeIs PySem.F.entry_dict_ne ?_ (PySem.F.args_dict_ne_2 _ _)) hu
  show wpAny _ _ (Builtin.Dict.dictSlotArgs "__ne__" ⟨[.ref a, .ref b], []⟩ >>= _) _ _ s
  refine wpAny_bind ?_
  unfold Builtin.Dict.dictSlotArgs
  refine wpAny_bind (wpAny_notOrdered_dict ra.typeIs ?_)
  show wpAny _ _ (pure (Value.ref a, Value.ref b)) _ _ s
  refine wpAny_pure ?_
  refine wpAny_bind (wpAny_isInstance (T := "dict") tb PySem.F.sub_dict_dict ?_)
  simp only [Bool.not_true, Bool.false_eq_true, if_false]
  refine wpAny_bind (wpAny_pure (wpAny_bind (wpAny_pure (wpAny_bind (samePairs0 ha hb ra rb (wpAny_pure ⟨_, rfl, (fun z => (nomatch z)), ?_⟩))))))
  rw [show ((es.size == 0) == false) = !(es.size == 0) by cases es.size == 0 <;> rfl]
  exact h
end
section
variable {X : Cx} {pins : List (Addr × Obj)} {σ : L2.St} {H : Hp} {s : Shared}
/-- a dict, whatever its keys are -/
theorem Rp.dict_raw {v : V} {u : Value} {ds : List (PyData × PyData)} (I : Inv X pins σ H s) (nx : noX (.dict ds) = true) (r : Rp X.K H v (.dict ds)) (rx : RelV v u) : ∃ a es ep, u = .ref a ∧ (a == sysModules) = false ∧ DT.Raw s.heap a es ep ∧ es.size = ds.length := by
  cases r with
  | exc _ _ => exact absurd nx (by simp [noX])
  | @dk a kvs ds' e q =>
    cases (show u = Value.ref a from rx)
    obtain ⟨z, hd, vs, rel, dd⟩ := dk_rd I.hok e
    obtain ⟨o, es, ep, ho, hc, hdat, hk, hp, hn⟩ := dd
    have l1 : vs.length = es.size := by rw [← hp.length]; exact Array.length_toList
    have l2 : kvs.length = vs.length := Paired.length rel
    have l3 : kvs.length = ds'.length := by simpa using q.len
    exact ⟨a, es, ep, rfl, hd, ⟨o, ho, hc, hdat⟩, by rw [List.length_zip, List.length_map]; omega⟩
  | @dt a kvs ds' e q =>
    cases (show u = Value.ref a from rx)
    obtain ⟨z, hd, xs, rel, dd⟩ := dt_rd I.hok e
    obtain ⟨o, es, ep, ho, hc, hdat, he, hk, hn⟩ := dd
    have l1 : es.size = xs.length := size_of_entries he
    have l2 : kvs.length = xs.length := Paired.length rel
    have l3 : kvs.length = ds'.length := by simpa using q.len
    exact ⟨a, es, ep, rfl, hd, ⟨o, ho, hc, hdat⟩, by rw [List.length_zip, List.length_map]; omega⟩
/-- x != {} -/
def rNe0 (K : PySem.W.Frag) : R2 := fun x y H Q => ∃ ds, noX (.dict ds) = true ∧ Rp K H x (.dict ds) ∧ Rp K H y (.dict []) ∧ Q (.bl (!(ds.length == 0))) H
theorem op_ne0 (hu : X.A.units + 1 < cLine) : OpR X (compareOp .NotEq) (rNe0 X.K) := by
  intro pins s σ H x y v u Q I rx ry h
  obtain ⟨ds, nx, r1, r2, q⟩ := h
  obtain ⟨a, es, ep, rfl, h1, h2, h3⟩ := Rp.dict_raw I nx r1 rx
  obtain ⟨b, es', ep', rfl, h4, h5, h6⟩ := Rp.dict_raw I rfl r2 ry
  have e0 : es' = #[] := Array.eq_empty_of_size_eq_zero h6
  subst e0
  exact rc_ne0 h1 h4 h2 h5 (by omega) ⟨.bl _, H, I, by rw [h3]; rfl, q⟩
/-- len of a dict -/
def rLenD (K : PySem.W.Frag) : List V → Hp → VK → Prop := fun xs H Q => ∃ x ds, xs = [x] ∧ noX (.dict ds) = true ∧ Rp K H x (.dict ds) ∧ Q (.int ds.length) H
theorem call_lenD : CallR X (.builtin "len") (rLenD X.K) := by
  intro pins s σ H xs us Q I r h
  obtain ⟨x, ds, rfl, nx, r1, q⟩ := h
  obtain ⟨u, rfl, ru⟩ := vals1 r
  cases r1 with
  | exc _ _ => exact absurd nx (by simp [noX])
  | @dk a kvs ds' e q1 =>
    have l3 : kvs.length = ds'.length := by simpa using q1.len
    cases (show u = Value.ref a from ru)
    refine d_len I e fun t s' I' => ⟨.int _, H, I', ⟨t, rfl⟩, ?_⟩
    rw [List.length_zip, List.length_map, ← l3, Nat.min_self] at q
    exact q
  | @dt a kvs ds' e q1 =>
    have l3 : kvs.length = ds'.length := by simpa using q1.len
    cases (show u = Value.ref a from ru)
    obtain ⟨z, hd, ys, rel, dd⟩ := dt_rd I.hok e
    have hl : kvs.length = ys.length := Paired.length rel
    refine call_len_dictH hd dd (by rw [← hl]; rw [sizeLine_eq] at z; omega) ?_
    rw [← hl]
    rw [List.length_zip, List.length_map, ← l3, Nat.min_self] at q
    exact ⟨.int ((kvs.length : Nat) : Int), H, I.tok _, ⟨_, rfl⟩, q⟩
end
section
variable {prog : Program} {w : World} {A : Around} {E : Value → Shared → Prop} {s : Shared}
theorem call_min_twoH {a b : Value} {Q : Value → Shared → Prop}
    (h : wpAny (model prog w) A.in1 (pyIter (.ref s.heap.objs.size)) (fun it s₂ => ∃ I fp wr G n P St H bt, it = .ref I ∧ WalksS prog w A.in1 I fp wr G n P St ∧ St 0 s₂ ∧ (∀ b ∈ fp, b < s₂.heap.objs.size) ∧ 0 < n ∧
      (∀ b o, H.get? b = some o → b ∉ wr) ∧ (∀ b o, H.get? b = some o → s₂.heap.get? b = some o) ∧ CmpIn prog w A.in1 .Lt H P bt ∧ ∀ v s', P (argBest bt (n - 1)) v → Moved wr G s₂ s' → Q v s') E
      { s with heap := s.heap.push { cls := .type "tuple", data := .seq #[a, b] } }) :
    wpAny (model prog w) A (call (.builtin "min") [a, b]) Q E s := by
  have hname : (toString "min" ++ toString ".loop" : String) = "min.loop" := by decide
  refine call_function_tree F.kind_min F.plain_min F.entry_min (F.args_min2 _ _) ?_
  show wpAny _ A.in1 (Builtin.Builtins.bindParams "min" ["key", "default"] 0 ⟨[], []⟩ >>= _) _ _ s
  refine wpAny_bind (wpAny_of_eq (show Builtin.Builtins.bindParams "min" ["key", "default"] 0 ⟨[], []⟩ = pure [none, none] from rfl) ?_)
  show wpAny _ A.in1 (newTuple [a, b] >>= _) _ _ s
  refine wpAny_bind (wpAny_newObj_type ?_)
  refine wpAny_bind (wpAny_mono h (fun it s₂ h₂ => ?_) fun _ _ e => e)
  obtain ⟨I, fp, wr, G, n, P, St, H, bt, rfl, W, hst, hfp, hn, hw, hkeep, hcmp, hQ⟩ := h₂
  refine wpAny_bind (wpAny_newObj_type ?_)
  have hSf : s₂.heap.objs.size ∉ fp := fun hm => Nat.lt_irrefl _ (hfp _ hm)
  rw [hname]
  refine wpAny_pure ⟨plainId_quiet F.plain_min_loop _, codeAny_min_loop_firstH W H hw bt hcmp s₂.heap.objs.size hSf (fresh_in hkeep) _ hn (fun b o e => Heap.get?_push_of_some _ (hkeep b o e)) (W.frame 0 s₂ _ s₂.toks hst (Nat.le_refl _) fun b _ o e => Heap.get?_push_of_some _ e) (Heap.get?_push_size _ rfl) fun v s' hP hm => ?_⟩
  exact hQ v s' hP (Moved.drop_new (tk := s₂.toks) hm (Nat.le_refl _))
end
/-- min(x, y) of alike things -/
def rMin2 (K : PySem.W.Frag) : List V → Hp → VK → Prop := fun vs H Q => ∃ x y d0 d1, vs = [x, y] ∧ Dp K H x d0 ∧ Dp K H y d1 ∧ (PySem.W.AlikeAll [d0, d1] ∧ PyData.depthAll [d0, d1] ≤ 60) ∧ Q (if PySem.W.dataLt d1 d0 = true then y else x) H
section
variable {X : Cx}
theorem cr_min2 (hc : X.calm = true) (hu : X.A.units + 64 < cLine) : CallR X (.builtin "min") (rMin2 X.K) := by
  intro pins s σ H vs us Q I r h
  obtain ⟨x, y, d0, d1, rfl, hx, hy, ⟨ha, hdp⟩, q⟩ := h
  obtain ⟨u, w, rfl, ru, rw'⟩ := vals2 r
  obtain ⟨as, r1⟩ := Dp.reads I d0 x u hx ru
  obtain ⟨bs, r2⟩ := Dp.reads I d1 y w hy rw'
  have hT : (s.heap.push { cls := .type "tuple", data := .seq #[u, w] }).IsTuple s.heap.objs.size #[u, w] := ⟨_, Heap.get?_push_size _ rfl, rfl, 0, rfl⟩
  have hr : ReadsAll s.heap (#[u, w] : Array Value).toList [d0, d1] (as ++ (bs ++ [])) := .cons r1 (.cons r2 .nil)
  refine call_min_twoH ?_
  refine PySem.W.iter_tupleW (A := X.A.in1) (s := { s with heap := s.heap.push { cls := .type "tuple", data := .seq #[u, w] } }) (I.ok.hd hc) hT fun s₂ e W st hfp hw hk => ?_
  refine ⟨_, _, _, _, _, _, _, s.heap, _, rfl, W, st, hfp, (show 0 < 2 by decide), fun b o q => hw b o (Heap.get?_push_of_some _ q), fun b o q => hk b o (Heap.get?_push_of_some _ q), PySem.W.cmpIn_lt (A := X.A.in1) hr ha (by show X.A.units + 1 + _ < _; omega), fun v s' hP m => ?_⟩
  have hm := PySem.W.moved_old (s := { s with heap := s.heap.push { cls := .type "tuple", data := .seq #[u, w] } }) e rfl m
  obtain ⟨h', tk, rfl, hk'⟩ := hm
  have ku : ∀ b o, s.heap.get? b = some o → h'.get? b = some o := fun b o q => hk' b o (Heap.get?_push_of_some _ q)
  by_cases hlt : PySem.W.dataLt d1 d0 = true
  · rw [if_pos hlt] at q
    have e1 : argBest (fun i j => PySem.W.dataLt ([d0, d1].getD i PyData.none) ([d0, d1].getD j PyData.none)) 1 = 1 := by simp [argBest, hlt]
    have hP' : (#[u, w] : Array Value)[argBest (fun i j => PySem.W.dataLt ([d0, d1].getD i PyData.none) ([d0, d1].getD j PyData.none)) 1]? = some v := hP
    rw [e1] at hP'
    have ev : v = w := by simpa using hP'.symm
    subst ev
    exact ⟨y, H, I.kept ku, rw', q⟩
  · rw [if_neg hlt] at q
    have e1 : argBest (fun i j => PySem.W.dataLt ([d0, d1].getD i PyData.none) ([d0, d1].getD j PyData.none)) 1 = 0 := by simp [argBest, hlt]
    have hP' : (#[u, w] : Array Value)[argBest (fun i j => PySem.W.dataLt ([d0, d1].getD i PyData.none) ([d0, d1].getD j PyData.none)) 1]? = some v := hP
    rw [e1] at hP'
    have ev : v = u := by simpa using hP'.symm
    subst ev
    exact ⟨x, H, I.kept ku, ru, q⟩
end
/-! ### the rules -/
section
variable {X : Cx} {g : Gm} {e e2 : Expr} {te te2 : TE} {d d2 : DT} {p pos : Pos}
/-- x != {} -/
def gNe0 : D2 := fun a b k => asD a fun x => asD b fun y => y = .dict [] ∧ match x with
  | .dict ds => noX (.dict ds) = true ∧ k (.d (.bool (!(ds.length == 0))))
  | _ => False
theorem gNe0_m : D2m gNe0 := fun a b P P' hp h => by
  obtain ⟨x, rfl, h0⟩ := asD_iff h
  obtain ⟨y, rfl, h1, h2⟩ := asD_iff h0
  subst h1
  split at h2
  · exact ⟨rfl, h2.1, hp _ h2.2⟩
  · exact h2.elim
theorem dc_ne0 (hu : X.A.units + 1 < cLine) : DCmp X g .NotEq (rNe0 X.K) gNe0 := ⟨op_ne0 hu, fun B ρ σ τs H x y cx cy Q b s h => by
  obtain ⟨i, e1, h⟩ := asD_iff h
  obtain ⟨j, e2, h1, h2⟩ := asD_iff h
  obtain ⟨r1, r2⟩ := s.two e1 e2
  subst h1
  split at h2
  · exact ⟨_, h2.1, r1, r2, h2.2 _ _ (s.pop.pop.push fun G _ _ => .bl _)⟩
  · exact h2.elim, gNe0_m⟩
/-- len of a dict -/
def dLenD (d : DT) : DT := fun ρ Q => d ρ fun c ρ1 => match dat ρ1 c with
  | some (.dict ds) => noX (.dict ds) = true ∧ Q (.t (.d (.int (ds.length : Nat)))) ρ1
  | _ => False
theorem de_lenD (hg : Gl X "len") (hm : X.mg "len" = none) (h : DE X g e te d) (hs : starEach [e] X.env = (false, eval e X.env) :: starEach [] X.env := by rfl) : DE X g (.Call (.Name "len" p) [e] [] pos) (tCB (rLenD X.K) (tCons te tNil)) (dLenD d) :=
  ⟨pe_callB call_lenD hg hm PySem.boot_len (pa_cons h.pe pa_nil hs) (by decide) (by decide) hs, fun B ρ σ τs H Q Q' b s k h' => by
    refine h.dt B ρ σ τs H _ _ b s (fun ca ρ1 x H1 s1 b1 q1 => ?_) h'
    split at q1
    · rename_i ds en
      exact ⟨x, ds, rfl, q1.1, s1.rp en, k _ _ _ _ (s1.pop.push fun G _ _ => .int _) b.untail q1.2⟩
    · exact q1.elim⟩
/-- min(x, y) of alike things -/
def dMin2 (d d2 : DT) : DT := fun ρ Q => d ρ fun c ρ1 => frz ρ1 c fun x ρ2 => d2 ρ2 fun c2 ρ3 => frz ρ3 c2 fun y ρ4 => minOk x [y] ∧ Q (.t (.d (if PySem.W.dataLt y x = true then y else x))) ρ4
theorem de_min2D (hc : X.calm = true) (hu : X.A.units + 64 < cLine) (hg : Gl X "min") (hx : X.mg "min" = none) (h : DE X g e te d) (h2 : DE X g e2 te2 d2) (hs : starEach [e, e2] X.env = (false, eval e X.env) :: starEach [e2] X.env := by rfl) (hs2 : starEach [e2] X.env = (false, eval e2 X.env) :: starEach [] X.env := by rfl) (hpl : (backTo pos (starEach [e2] X.env)).any (·.1) = false := by rfl) :
    DE X g (.Call (.Name "min" p) [e, e2] [] pos) (tCB (rMin2 X.K) (tCons te (tCons te2 tNil))) (dMin2 d d2) :=
  ⟨pe_callB (cr_min2 hc hu) hg hx (by decide +kernel) (pa_cons h.pe (pa_cons h2.pe pa_nil hs2) hs) (he := hs) (hpl := hpl), fun B ρ σ τs H Q Q' b s kk h' => by
    refine h.dt B ρ σ τs H _ _ b s (fun ca ρ1 x H1 s1 b1 q1 => ?_) h'
    obtain ⟨dx, ρ2, q2, s2⟩ := s1.frzd q1
    refine h2.dt B ρ2 σ _ H1 _ _ (BOk.cons (c := .t (.d dx)) b fun j z => (nomatch z)) s2 (fun cb ρ3 y H2 s3 b3 q3 => ?_) q2
    obtain ⟨dy, ρ4, q4, s4⟩ := s3.frzd q3
    obtain ⟨⟨k1, k2, k3⟩, q5⟩ := q4
    have ry := s4.rp (x := dy) rfl
    have rx := s4.pop.rp (x := dx) rfl
    rw [PyData.canLayAll0, PyData.canLayAll0, PyData.canLayAll0, Bool.and_true, Bool.and_eq_true] at k3
    refine ⟨x, y, dx, dy, rfl, rx.dp k3.1, ry.dp k3.2, ⟨k1, k2⟩, ?_⟩
    by_cases hlt : PySem.W.dataLt dy dx = true
    · rw [if_pos hlt] at q5 ⊢
      exact kk _ _ _ _ ((s4.perm (List.Perm.swap _ _ _)).pop) (b.cons fun j z => (nomatch z)) q5
    · rw [if_neg hlt] at q5 ⊢
      exact kk _ _ _ _ s4.pop (b.cons fun j z => (nomatch z)) q5⟩
end
section
variable {X : Cx} {g : Gm} {tg e : Expr} {te : TE} {d : DT} {pos apos cpos : Pos} {body : List Stmt} {gt : TG} {tb : TS} {dg : DTG} {db : DTS}
theorem ds_forKT (hp : PassesOwn (model X.prog X.w) X.A X.env X.xe) (hc : X.calm = true) (h : DE X g e te d) (hg : DG X { g with w := Wsh.none } false tg gt dg) (hb : DSs X { g with w := Wsh.none } body tb db) (hs : ∀ x, foldedSetIterable e X.env x = pure x := by intro _; rfl) :
    DS X g (.For tg e body [] pos) (tUn X (tFor (iKeysL X te) gt tb)) (dFor (iKT d) dg db) := ds_forL hp hc (pi_keysL h.pe) (dt_keysL h) hg hb hs
theorem ds_forIT {elts : List Expr} {kk : Nat} {tpos : Pos} (hp : PassesOwn (model X.prog X.w) X.A X.env X.xe) (hc : X.calm = true) (h : DE X g e te d) (hg : DG X { g with w := Wsh.none } false (.Tuple elts kk tpos) gt dg) (hb : DSs X { g with w := Wsh.none } body tb db)
    (hbase : attributeBase e "items" X.env (eval e X.env) = eval e X.env := by rfl) (hline : (apos.endLine == cpos.line) = true := by rfl)
    (hs : ∀ x, foldedSetIterable (.Call (.Attribute e "items" apos) [] [] cpos) X.env x = pure x := by intro _; rfl) :
    DS X g (.For (.Tuple elts kk tpos) (.Call (.Attribute e "items" apos) [] [] cpos) body [] pos) (tUn X (tFor (iItemsL X te) gt tb)) (dFor (iIT d) dg db) := ds_forL hp hc (pi_itemsL h.pe hbase hline) (dt_itemsL h) hg hb hs
end
end Dl
set_option Elab.async false
set_option linter.all false
set_option maxRecDepth 100000
set_option maxHeartbeats 4000000
/-! Dl: list(d) of a dict with tuple keys. -/
namespace Dl
open PySem PySem.Spec PyProof.Rows L2
theorem vals_at : ∀ {xs : List V} {us : List Value}, us.length = xs.length → (∀ (j : Nat) (u : Value), us[j]? = some u → ∃ x, xs[j]? = some x ∧ RelV x u) → Vals xs us
  | [], [], _, _ => .nil
  | x :: xs, u :: us, hl, h => by
    obtain ⟨y, e1, e2⟩ := h 0 u rfl
    obtain rfl : x = y := Option.some.inj e1
    exact .cons e2 (vals_at (by simpa using hl) fun j v e => h (j + 1) v e)
  | [], _ :: _, hl, _ => by simp at hl
  | _ :: _, [], hl, _ => by simp at hl
def rListT (K : PySem.W.Frag) : List V → Hp → VK → Prop := fun xs H Q => ∃ x es tab, xs = [x] ∧ Rp K H x (.dict es) ∧ entT es = some tab ∧ es ≠ [] ∧
  ∀ qs : List Addr, Paired (fun (q : Addr) (p : List Key × PyData) => H q = some (.tup (p.1.map kV))) qs tab → ∀ p, H p = none → Q (.ref p) (upd H p (.lst (qs.map V.ref)))
theorem tabs_of {K : PySem.W.Frag} {G H : Hp} {F : (List Key × V) → (List Key × Addr × Value) → Prop} (hF : ∀ a b, F a b → H b.2.1 = some (.tup (a.1.map kV))) : ∀ {kvs : List (List Key × V)} {ys : List (List Key × Addr × Value)} {tab : List (List Key × PyData)}, Paired F kvs ys → TR K G kvs tab → Paired (fun (q : Addr) (p : List Key × PyData) => H q = some (.tup (p.1.map kV))) (ys.map (·.2.1)) tab
  | _, _, _, .nil, .nil => .nil
  | _, _, _, .cons h t, .cons r u => .cons (hF _ _ h) (tabs_of hF t u)
section
variable {X : Cx}
theorem call_listT (hcalm : X.calm = true) : CallR X (.type "list") (rListT X.K) := by
  intro pins s σ H xs us Q I r q
  obtain ⟨x, es0, tab, rfl, rp, en, hne, q⟩ := q
  obtain ⟨u, rfl, rx⟩ := vals1 r
  obtain ⟨a, kvs, rfl, rd, tr⟩ := Rp.entT rp en hne
  cases (show u = Value.ref a from rx)
  obtain ⟨z, hd, ys, rel, dd⟩ := dt_rd I.hok rd
  obtain ⟨o, es, ep, ho, hc, hdat, he, hk, hn⟩ := dd
  have l1 : es.size = ys.length := size_of_entries he
  have l2 : kvs.length = ys.length := Paired.length rel
  have raw : s.heap.DictRaw a es ep := ⟨o, ho, hc, hdat⟩
  refine PySem.W.kdl_call (PySem.KdlSrc.rawDict hd) (I.ok.hd hcalm) raw (by rw [l1, ← l2]; exact z) fun h' tk acc c' hkk hD hacc => ?_
  have hv : Vals ((ys.map (·.2.1)).map V.ref) acc.toList := by
    refine vals_at ?_ fun j v e => ?_
    · rw [Array.length_toList, hacc.1, List.length_map, List.length_map, l1]
    · obtain ⟨hi, ev⟩ := hacc.2 j v (by rw [← Array.getElem?_toList]; exact e)
      have hj : j < ys.length := by rw [← l1]; exact hi
      refine ⟨.ref ys[j].2.1, by rw [List.getElem?_map, List.getElem?_map, List.getElem?_eq_getElem hj]; rfl, ?_⟩
      have q := entry_at he j
      rw [List.getElem?_eq_getElem hj, Array.getElem?_eq_getElem hi] at q
      rw [ev, Option.some.inj q]
      rfl
  refine ⟨.ref s.heap.objs.size, upd H s.heap.objs.size (.lst ((ys.map (·.2.1)).map V.ref)), I.laid (t' := tk) hkk (Nat.le_refl _)
    (show ObjOk X.prog X.w _ _ _ (.lst ((ys.map (·.2.1)).map V.ref)) from ⟨by rw [List.length_map, List.length_map, ← l2]; exact z, acc.toList, c', hv, by rw [Array.toArray_toList]; exact hD⟩), rfl, q _ ?_ _ (I.hok.fresh (Nat.le_refl _))⟩
  exact tabs_of (fun a b h => h.2.1) rel tr
end
def dListDT (d : DT) : DT := fun ρ Q => d ρ fun c ρ1 => match dat ρ1 c with
  | some (.dict es) => match entT es with
    | some tab => es ≠ [] ∧ Q (.t (.ls ((tab.map fun p => PyData.tuple (p.1.map kd)).map T.d))) ρ1
    | none => False
  | _ => False
section
variable {X : Cx} {g : Gm} {e : Expr} {te : TE} {d : DT} {p pos : Pos}
theorem push_keys {K : PySem.W.Frag} {B : Base} {ρ : Rho} {σ : L2.St} {τs : List (V × C)} {H : Hp} (s : SI K B ρ σ τs H) : ∀ {qs : List Addr} {tab : List (List Key × PyData)}, Paired (fun (q : Addr) (p : List Key × PyData) => H q = some (.tup (p.1.map kV))) qs tab →
    SI K B ρ σ (tmp (qs.map V.ref) ((tab.map fun p => PyData.tuple (p.1.map kd)).map T.d) ++ τs) H
  | _, _, .nil => s
  | _, _, .cons (b := p) h t => (push_keys s t).push fun G gh tu => .tup (tu _ _ rfl h) (rpL_keys p.1)
theorem de_listDT (hc : X.calm = true) (hg : Gl X "list") (hm : X.mg "list" = none) (h : DE X g e te d) (hs : starEach [e] X.env = (false, eval e X.env) :: starEach [] X.env := by rfl) :
    DE X g (.Call (.Name "list" p) [e] [] pos) (tCB (rListT X.K) (tCons te tNil)) (dListDT d) :=
  ⟨pe_callTy (call_listT hc) hg hm (by decide +kernel) (pa_cons h.pe pa_nil hs) (by decide) (by decide) hs, fun B ρ σ τs H Q Q' b s k h' => by
    refine h.dt B ρ σ τs H _ _ b s (fun ca ρ1 x H1 s1 b1 q1 => ?_) h'
    split at q1
    · rename_i es en
      split at q1
      · rename_i tab et
        refine ⟨x, es, tab, rfl, s1.rp en, et, q1.1, fun qs pr q hq => k _ _ _ _ (SI.newF (push_keys s1.pop pr) ?_ hq) b.untail q1.2⟩
        rw [List.length_map, List.length_map]
        exact Paired.length pr
      · exact q1.elim
    · exact q1.elim⟩
end
/-! sorted of data: of one thing, or of tuples that hold something -/
def SortableS (ds : List PyData) : Prop := PySem.W.Sortable ds ∨ ds.length ≤ 1 ∧ ∀ d ∈ ds, d ≠ .none
section
variable {prog : Program} {w : World} {A : Around} {E : Value → Shared → Prop} {s : Shared} {β : Type} {R : Value → β → Prop} {enc : β → PyData} {vs : List Value} {bs : List β}
theorem sortsAt_short {vs : List Value} {ds : List PyData} (e : PySem.W.EachIs (fun v d => ∃ as, Reads s.heap v d as) vs ds) (hal : PySem.W.AllAlike ds) (h1 : ds.length ≤ 1) (hn : ∀ d ∈ ds, d ≠ .none) (hu : ∀ d, d ∈ ds → A.units + d.depth < cLine) : PySem.W.SortsAt prog w A s (PySem.W.dataKind s.heap ds) vs := by
  refine ⟨fun v hv => ?_, general', fun E x y a b Q ha hb hq => ?_, fun h2 => ?_⟩
  · obtain ⟨d, hd, as, r⟩ := e.left v hv
    exact ⟨_, PySem.W.dataKind_some hal hd r⟩
  · obtain ⟨d, as, hd, ra, rfl⟩ := PySem.W.dataKind_inv ha
    obtain ⟨d', as', hd', rb, rfl⟩ := PySem.W.dataKind_inv hb
    show wpAny _ _ (oneLt' false x y) _ _ _
    exact PySem.W.oneLt_alike (fun z => nomatch z) ra rb (hal d hd d' hd') (hn d hd) (Nat.lt_of_le_of_lt (Nat.add_le_add_left (Nat.min_le_left _ _) _) (hu d hd)) hq
  · have := e.length
    omega
theorem sorted_data1 {l : Addr} {Q : Value → Shared → Prop} (hl : s.heap.IsList l vs.toArray) (e : PySem.W.EachIs R vs bs) (er : PySem.W.EachIs (fun v b => ∃ as, Reads s.heap v (enc b) as) vs bs) (hal : PySem.W.AllAlike (bs.map enc)) (hk : SortableS (bs.map enc)) (hL : bs.length ≤ sizeLine)
    (hu : ∀ b, b ∈ bs → A.units + 2 + (enc b).depth < cLine) (h : ∀ out, out.length = bs.length → PySem.W.EachIs R out (bs.mergeSort (PySem.W.dataLe false enc)) → Q (.ref (s.heap.objs.size + 1)) { s with heap := sortedAll s.heap vs (List.toArray out) }) :
    wpAny (model prog w) A (call (.builtin "sorted") [.ref l]) Q E s := by
  rcases hk with hk | ⟨k1, k2⟩
  · exact PySem.W.sorted_data hl e er hal hk hL hu h
  have er' : PySem.W.EachIs (fun v b => ∃ as, Reads (PySem.W.sortingHeap (PySem.W.copyHeap s.heap vs) (s.heap.objs.size + 1) vs) v (enc b) as) vs bs := er.mono fun _ _ ⟨as, r⟩ => ⟨as, PyProof.Rows.Reads.keeps (fun _ _ => PySem.W.sorting_copy_old) r⟩
  exact PySem.W.sorted_vals hl (sortsAt_short (s := { s with heap := PySem.W.sortingHeap (PySem.W.copyHeap s.heap vs) (s.heap.objs.size + 1) vs }) (PySem.W.each_map (R := fun v d => ∃ as, Reads (PySem.W.sortingHeap (PySem.W.copyHeap s.heap vs) (s.heap.objs.size + 1) vs) v d as) enc er') hal k1 k2 (PySem.W.bound_map hu)) (by rw [e.length]; exact hL)
    (h _ (by rw [PySem.W.sortVals_length false rfl]; exact e.length) (PySem.W.sortVals_data false e er' hal))
end
def rSortedD1 (K : PySem.W.Frag) : List V → Hp → VK → Prop := fun vs H Q => ∃ (a : Addr) (xs : List V) (ds : List PyData), vs = [V.ref a] ∧ SqL K H a xs ∧ DpAll K H xs ds ∧ (∀ x ∈ xs, ∃ t, x = V.ref t) ∧ (PySem.W.AllAlike ds ∧ SortableS ds ∧ PyData.depthAll ds ≤ 60) ∧
  ∀ (prs : List (V × PyData)) (p : Addr), prs.Perm (xs.zip ds) → prs.map (·.2) = ds.mergeSort dleD → H p = none → Q (.ref p) (upd H p (.lst (prs.map (·.1))))
section
variable {X : Cx}
theorem cr_sortedD1 (hu : X.A.units + 64 < cLine) : CallR X (.builtin "sorted") (rSortedD1 X.K) := by
  intro pins s σ H vs us Q I r h
  obtain ⟨a, xs, ds, rfl, hs, hd, hx, ⟨ha, hk, hdp⟩, q⟩ := h
  obtain ⟨its, rv, hl, hz⟩ := I.list hs
  obtain ⟨u, rfl, ru⟩ := vals1 r
  obtain rfl : u = Value.ref a := ru
  obtain ⟨e1, e2⟩ := refs_back rv hx
  obtain ⟨as, hr⟩ := Dp.readsAll I _ _ its hd rv
  have hlen : its.length = ds.length := PySem.W.readsAll_len hr
  have em : (its.zip ds).map (fun z : Value × PyData => z.2) = ds := List.map_snd_zip (by omega)
  refine sorted_data1 (vs := its) (bs := its.zip ds) (enc := fun z : Value × PyData => z.2) (R := fun v b => v = b.1) hl.isList (each_fst hlen) (each_reads hr) (by rw [em]; exact ha) (by rw [em]; exact hk) ?hL (fun b hb => ?hU) fun out ho eo => ?_
  case hL =>
    rw [List.length_zip, hlen, Nat.min_self, ← hlen, ← rv.length]
    exact hz
  case hU =>
    have : b.2 ∈ ds := by
      rw [← em]
      exact List.mem_map.mpr ⟨b, hb, rfl⟩
    have := depth_all this
    omega
  have e3 := each_eq eo
  obtain ⟨sr, hsr⟩ : ∃ sr, (its.zip ds).mergeSort (PySem.W.dataLe false fun z : Value × PyData => z.2) = sr := ⟨_, rfl⟩
  rw [hsr] at e3
  have pm : sr.Perm (its.zip ds) := by
    rw [← hsr]
    exact List.mergeSort_perm _ _
  have e4 : sr.map (fun z : Value × PyData => z.2) = ds.mergeSort dleD := by
    rw [← hsr]
    exact (List.map_mergeSort (r := PySem.W.dataLe false fun z : Value × PyData => z.2) (s := dleD) (f := fun z : Value × PyData => z.2) (fun x _ y _ => rfl)).trans (by rw [em])
  obtain ⟨c, hc⟩ := PyProof.Rows.sortedAll_at s.heap its out.toArray
  have op : out.Perm its := by
    rw [e3]
    have := pm.map (fun z : Value × PyData => z.1)
    rwa [List.map_fst_zip (by omega)] at this
  have h3 : ∀ u ∈ out, ∃ a, u = Value.ref a := fun u hu => e2 u (op.mem_iff.mp hu)
  have hp : (out.map backV).Perm xs := by
    rw [e1]
    exact op.map backV
  have hdd : s.heap.objs.size ≤ s.heap.objs.size + 1 := Nat.le_succ _
  have hq := q (sr.map fun z => (backV z.1, z.2)) (s.heap.objs.size + 1) ?_ ?_ (I.hok.fresh hdd)
  · rw [List.map_map] at hq
    have ei : sr.map ((fun z : V × PyData => z.1) ∘ fun z : Value × PyData => (backV z.1, z.2)) = out.map backV := by
      rw [e3, List.map_map]
      rfl
    rw [ei] at hq
    refine ⟨.ref (s.heap.objs.size + 1), upd H (s.heap.objs.size + 1) (.lst (out.map backV)), I.laid (t' := s.toks) (fun _ _ => PyProof.Rows.sortedAll_old) hdd ⟨?_, out, c, vals_back h3, hc⟩, rfl, hq⟩
    rw [hp.length_eq]
    exact hz
  · have := pm.map fun z : Value × PyData => (backV z.1, z.2)
    have e5 : (its.zip ds).map (fun z : Value × PyData => (backV z.1, z.2)) = xs.zip ds := by
      rw [e1, List.zip_map_left]
      rfl
    rwa [e5] at this
  · rw [List.map_map]
    exact e4
end
def sortOkD1 (ds : List PyData) : Prop := PySem.W.AllAlike ds ∧ SortableS ds ∧ PyData.depthAll ds ≤ 60 ∧ PyData.canLayAll0 ds = true ∧ ∀ d ∈ ds, (∃ xs, d = .list xs) ∨ ∃ xs, d = .tuple xs
def fSortD1 : D1 := fun o k => asF o fun ds => sortOkD1 ds ∧ k (.ls ((ds.mergeSort dleD).map T.d))
theorem fSortD1_m : D1m fSortD1 := fun o P P' hp h => by
  obtain ⟨t, ds, rfl, e2, q1, q2⟩ := asF_iff h
  show (match (some t).bind flat with
    | some ds => sortOkD1 ds ∧ P' (.ls ((ds.mergeSort dleD).map T.d))
    | none => False)
  rw [show (some t).bind flat = some ds from e2]
  exact ⟨q1, hp _ q2⟩
section
variable {X : Cx} {g : Gm} {e : Expr} {te : TE} {d : DT} {p pos : Pos}
theorem dr_sortD1 : DR1 X g (rSortedD1 X.K) fSortD1 := fun B ρ σ τs H x c Q b s h => by
  obtain ⟨t, ds, e1, e2, ⟨k1, k2, k3, k4, k5⟩, q⟩ := asF_iff h
  obtain ⟨a, vs, rfl, w1, w2, w3, w4, w5⟩ := s.itms e1 (itms_flat e2)
  refine ⟨a, vs, ds, rfl, w2 e2, RpL.dp w3 k4, RpL.refs w3 k5, ⟨k1, k2, k3⟩, fun prs r h1 h2 hr => ?_⟩
  refine q _ _ ?_
  have s2 := w5 (prs.map (·.1)) (prs.map (·.2)) fun G rr => rpL_ofD fun z m => RpL.zipD rr z (h1.mem_iff.mp m)
  have s3 := SI.newF s2 (by simp) hr
  rw [h2] at s3
  exact s3
theorem de_sortD1 (hu : X.A.units + 64 < cLine) (hg : Gl X "sorted") (hx : X.mg "sorted" = none) (h : DE X g e te d) (hs : starEach [e] X.env = (false, eval e X.env) :: starEach [] X.env := by rfl) : DE X g (.Call (.Name "sorted" p) [e] [] pos) (tCB (rSortedD1 X.K) (tCons te tNil)) (dC1 fSortD1 d) :=
  de_c1 (cr_sortedD1 hu) dr_sortD1 fSortD1_m hg hx (by decide +kernel) h (hs := hs)
end
end Dl
set_option Elab.async false
set_option linter.all false
set_option maxRecDepth 100000
set_option maxHeartbeats 4000000
/-! Dl: try: .. except X as e: .. (the handler does not look at e). -/
namespace Dl
open PySem PySem.Spec PyProof.Rows L2
structure ExmT (K : PySem.W.Frag) (mg : Str → Option Value) (x : Str) (ys : List Str) : Prop where
  ex : ∃ C, mg x = some (.ref C) ∧ ∀ y ∈ ys, ∃ C', mg y = some (.ref C') ∧ PySem.W.exmOne K (.ref C') (.ref C) = some true
theorem exm_of {K : PySem.W.Frag} {D S : Addr} (h1 : PySem.W.subIn K (.ref S) (.type "BaseException") = some true) (h2 : PySem.W.isClsIn K S = true) (h3 : PySem.W.typeIn K (.ref S) = some (.type "type")) (h4 : PySem.W.subIn K (.ref D) (.ref S) = some true) :
    PySem.W.exmOne K (.ref D) (.ref S) = some true := by
  have e1 : (PySem.W.subIn K (.ref S) (.type "BaseException") == some true) = true := by rw [h1] <;> rfl
  have e2 : ((PySem.W.clsIn K S).isSome && PySem.W.typeIn K (.ref S) == some (.type "type")) = true := by
    have h2' : (PySem.W.clsIn K S).isSome = true := h2
    rw [h2', h3] <;> rfl
  show (if (PySem.W.subIn K (.ref S) (.type "BaseException") == some true) = true then (if ((PySem.W.clsIn K S).isSome && PySem.W.typeIn K (.ref S) == some (.type "type")) = true then PySem.W.subIn K (.ref D) (.ref S) else none) else none) = some true
  rw [if_pos e1, if_pos e2]
  exact h4
def dTryAs (i : Nat) (ys : List Str) (db : (Str → Rho → Prop) → DTS) (dsu : DTS) : DTS := fun D ρ =>
  db (fun y ρ' => y ∈ ys ∧ dsu { nx := fun ρ2 => D.nx (ρ2.set i none), rt := D.rt, bk := fun ρ2 => D.bk (ρ2.set i none), ct := fun ρ2 => D.ct (ρ2.set i none) } (ρ'.set i none)) D ρ
theorem exm_nil {P : Str → Prop} : ∀ y ∈ ([] : List Str), P y := fun y h => by cases h
theorem exm_cons {P : Str → Prop} {x : Str} {xs : List Str} (h : P x) (t : ∀ y ∈ xs, P y) : ∀ y ∈ x :: xs, P y := List.forall_mem_cons.mpr ⟨h, t⟩
section
variable {X : Cx} {g : Gm}
theorem hb_of {st : List Stmt} {ts ts' : TS} {ds ds' : DTS} (h : DSs X g st ts' ds') (e1 : ts' = ts) (e2 : ds' = ds) : DSs X g st ts ds := by
  subst e1
  subst e2
  exact h
theorem SI.lose {K : PySem.W.Frag} {B : Base} {ρ : Rho} {σ : L2.St} {H : Hp} {i : Nat} (o : Option V) (s : SI K B ρ σ [] H) (np : ∀ p ∈ B.pin, p.1 ≠ i) : SI K B (ρ.set i none) (σ.set i o) [] H :=
  SI.any' o (s.forget (i := i)) (fun hl => set_none (by simpa using hl)) (fun p hp => by cases hp) np
theorem ds_tryAs {i : Nat} {x n : Str} {ys : List Str} {body suite : List Stmt} {b₀ : Stmt} {np pos pos' : Pos} {tb : WX → TS} {ts : Addr → Value → Option Addr → TS} {db : (Str → Rho → Prop) → DTS} {dsu : DTS}
    (hs : X.stack = X.env :: X.outer) (hf : X.env.frame = some X.env.locals) (hN : X.N.Nodup) (hi : X.N[i]? = some n) (hln : X.env.kindOf n = some .local) (hg : Gl X x) (hdb : (x == ("__debug__" : Str)) = false) (M : ExmT X.K X.mg x ys) (tk : Takes X g.w.W) (hnp : g.pn.contains i = false)
    (hb : ∀ (W : WX) (ex : Str → Rho → Prop) (pn : List (Addr × Obj)) (xe : Value → Shared → Prop), Takes (X.tr pn xe) W → DSs (X.tr pn xe) { g with w := ⟨W, ex⟩ } body (tb W) (db ex))
    (hsu : ∀ (a : Addr) (cls : Value) (d : Option Addr) (pn : List (Addr × Obj)), DSs (X.suite a pn) { g with w := Wsh.none } (b₀ :: suite) (ts a cls d) dsu) :
    DS X g (.Try body [.ExceptHandler (some (.Name x np)) (some n) (b₀ :: suite) pos'] [] [] pos) (fun D σ H => tb (wAs X.K (.ref (clsOf (X.mg x))) i ts g.w.W D) D σ H) (dTryAs i ys db dsu) := by
  obtain ⟨C, gC, hys⟩ := M.ex
  have e : clsOf (X.mg x) = C := by
    rw [gC]
    rfl
  rw [e]
  refine ⟨ps_try_as hs hf hN hi hln ⟨hg, hdb, .inl gC⟩ tk (fun W pn xe t _ => (hb W (fun _ _ => False) pn xe t).ps) (fun a oe cls d pn _ _ => (hsu a cls d _).ps), fun B ρ σ H D D' b s k h => ?_⟩
  have npB : ∀ p ∈ B.pin, p.1 ≠ i := fun p hp z => by
    have := List.contains_iff_mem.mpr (b.pin p hp)
    rw [z, hnp] at this
    cases this
  refine (hb (wAs X.K (.ref C) i ts g.w.W D) _ [] (fun _ _ => True) (fun _ _ _ => trivial)).dt B ρ σ H D D' ⟨b.low, fun y Cy ρ' σ' H' ex hm s' q => ?_, b.pin⟩ s ⟨k.nx, k.rt, k.bk, k.ct⟩ h
  obtain ⟨hy, q⟩ := q
  obtain ⟨C', hC', hex⟩ := hys y hy
  have hm : X.mg y = some (.ref Cy) := hm
  rw [hC'] at hm
  cases hm
  refine ⟨true, hex, fun _ a ha => ?_, fun z => by cases z⟩
  have s1 : SI X.K B ρ' σ' [] H' := by
    have := s'.pops (τs := [])
    exact this
  have s2 := s1.lose (i := i) (some (.ref a)) npB
  refine (hsu a _ none []).dt B _ _ H' _ { nx := fun ρ2 => D'.nx (ρ2.set i none), rt := D'.rt, bk := fun ρ2 => D'.bk (ρ2.set i none), ct := fun ρ2 => D'.ct (ρ2.set i none) } b.none s2 ⟨fun ρ4 σ4 H4 s4 q4 => ?_, fun t ρ4 σ4 v H4 s4 q4 => k.rt t ρ4 σ4 v H4 s4 q4, fun ρ4 σ4 H4 s4 q4 => ?_, fun ρ4 σ4 H4 s4 q4 => ?_⟩ q
  · exact k.nx _ _ _ (s4.lose none npB) q4
  · exact k.bk _ _ _ (s4.lose none npB) q4
  · exact k.ct _ _ _ (s4.lose none npB) q4
end
end Dl
set_option Elab.async false
set_option linter.all false
set_option maxRecDepth 100000
set_option maxHeartbeats 4000000
/-! Dl: y = [..], a comprehension that only looks at slots (dSee). -/
namespace Dl
open PySem PySem.Spec PyProof.Rows L2
section
variable {X : Cx} {g : Gm} {e : Expr} {te : TE} {d : DT} {dd : DTS} {y : Str} {py spos : Pos}
theorem ds_seeLc (i : Nat) (fz : Bool) (hN : X.N.Nodup) (h : DS X g (.Assign [.Name y py] e spos) (tAsg te (gName i)) dd) (hd : DE X g e te d) (hy : X.N[i]? = some y := by rfl) (hyl : X.env.scope.names.lookup y = some .local := by rfl)
    (hp : ¬ i ∈ g.pn := by first | (dsimp only; decide) | decide) : DS X g (.Assign [.Name y py] e spos) (tAsg te (gName i)) (dAsg d (gN fz i)) :=
  ⟨h.ps, dts_asg hd.dt ((dg_name (X := X) (g := g) (cb := false) (pos := py) i fz hN hy (Or.inl hyl) hp (fun z => by cases z) (Or.inr hyl)).dt)⟩
end
end Dl
set_option Elab.async false
set_option linter.all false
set_option maxRecDepth 100000
set_option maxHeartbeats 4000000
/-! Dl: try: .. except X as e: y = e (the exception stays in y): the machine's side. -/
namespace Dl
open PySem PySem.Spec PyProof.Rows L2
theorem exK_ok {P : Program} {w : World} {H : Hp} {h : Heap} {a : Addr} {k : Value} {d : Option Addr} {o : Obj} {fs : Array Value} (at_ : h.get? a = some o) (z : Zc k d o) (f : o.data = .fields fs) : ObjOk P w H h a (ExK k d a) := by
  refine ⟨⟨o, fs, at_, z, f⟩, ⟨o, at_⟩, ?_⟩
  rintro h1 h2 ⟨u, gs, m1, m2, m3⟩ same
  exact ⟨u, gs, same u m1, m2, m3⟩
section
variable {X : Cx} {s : Shared} {H : Hp} {σ : L2.St} {pins : List (Addr × Obj)}
/-- what is noted becomes tracked -/
theorem inv_track {a : Addr} {o : Obj} {u : HO} (I : Inv X ((a, o) :: pins) σ H s) (old : X.s_0.heap.get? a = none) (oth : ∀ p ∈ X.pn ++ pins, p.1 ≠ a) (new : ObjOk X.prog X.w (upd H a u) s.heap a u) : Inv X pins σ (upd H a u) s := by
  have mine := I.pin (a, o) (List.mem_append_right _ List.mem_cons_self)
  have at_ : s.heap.get? a = some o := mine.1
  have free : H a = none := mine.2.1
  have other : ∀ {b v}, H b = some v → upd H a u b = some v := fun {b v} e => by
    rw [upd_ne (ne_of_none e free)]
    exact e
  have untouched : ∀ {b}, b ≠ a → H b = none → upd H a u b = none := fun {b} ne e => by
    rw [upd_ne ne]
    exact e
  have hk : HOk X.prog X.w (upd H a u) s.heap := I.hok.laidN (fun _ _ e => e) free new
  have pn : ∀ p ∈ X.pn ++ pins, p ∈ X.pn ++ (a, o) :: pins := fun p m => by
    simp only [List.mem_append, List.mem_cons] at m ⊢
    rcases m with m | m
    · exact .inl m
    · exact .inr (.inr m)
  exact {
    ok := I.ok, os := I.os, bare := I.bare, loc := I.loc, cell := I.cell, len := I.len, hok := hk
    base := {
      keep := I.base.keep, slot := I.base.slot, there := I.base.there
      free := fun b v e n nx => untouched (fun z => by rw [z, old] at e; cases e) (I.base.free b v e n nx)
      tups := fun b xs e => other (I.base.tups b xs e)
      frzs := fun b v t e => other (I.base.frzs b v t e)
      tbls := fun b ps e => (I.base.tbls b ps e).imp fun _ q => other q }
    free := untouched (fun z => mine.2.2.1 z.symm) I.free
    freeC := fun x c e => untouched (fun z => by
      obtain ⟨v, q, m, dat⟩ := I.cell x c e
      rw [z, at_] at m
      cases m
      exact mine.2.2.2.2 v dat) (I.freeC x c e)
    pin := fun p m => by
      have q := I.pin p (pn p m)
      exact ⟨q.1, untouched (oth p m) q.2.1, q.2.2⟩ }
theorem inv_out {a : Addr} {q : Addr × Obj} {more : List (Addr × Obj)} (I : Inv (X.suite a (q :: (X.pn ++ pins))) more σ H s) (ok : X.Ok) : Inv X (q :: pins) σ H s := by
  have all : ∀ p ∈ X.pn ++ q :: pins, p ∈ (q :: (X.pn ++ pins)) ++ more := fun p m => by
    simp only [List.mem_append, List.mem_cons, List.cons_append] at m ⊢
    rcases m with m | m | m
    · exact .inr (.inl (.inl m))
    · exact .inl m
    · exact .inr (.inl (.inr m))
  exact { ok := ok, os := I.os, bare := I.bare, base := I.base, loc := I.loc, cell := I.cell, free := I.free, freeC := I.freeC, hok := I.hok, len := I.len, pin := fun p m => I.pin p (all p m) }
end
/-- what 'except x as n: ..' wishes: caught in any case, it stays behind the clause -/
def wKeep (K : PySem.W.Frag) (c : Value) (i : Nat) (ts : Addr → Value → Option Addr → TS) (D : Ends) : WX := fun k d σ H =>
  PySem.W.exmOne K k c = some true ∧ ∀ a, H a = none → ts a k d ⟨fun σ' H' => D.nx (σ'.set i none) (upd H' a (ExK k d a)), fun _ _ => False, fun _ _ => False, fun _ _ => False⟩ (σ.set i (some (.ref a))) H
section
variable {X : Cx} {x n : Str} {c : Value} {i : Nat} {body su : List Stmt} {b1 : Stmt} {np pos pos' : Pos} {tb : WX → TS} {ts : Addr → Value → Option Addr → TS}
/-- the exception that flies here is caught -/
theorem seized {pins : List (Addr × Obj)} {D : Ends} {xe : Value → Shared → Prop} {u : Value} {sr : Shared} (ok : X.Ok) (hex : X.ex = []) (hs : X.stack = X.env :: X.outer) (hf : X.env.frame = some X.env.locals) (hN : X.N.Nodup) (hi : X.N[i]? = some n)
    (hln : X.env.kindOf n = some .local) (hg : Gl X x) (hdb : (x == ("__debug__" : Str)) = false) (hm : X.mg x = some c)
    (hsu : ∀ (a : Addr) (o : Obj) (k : Value) (d : Option Addr) (pn : List (Addr × Obj)), Zc k d o → (∃ fs, o.data = .fields fs) → PSs (X.suite a ((a, o) :: pn)) (b1 :: su) (ts a k d))
    (R : XE (X.tr (X.pn ++ pins) xe) (wKeep X.K c i ts D) u sr) :
    wpAny (model X.prog X.w) X.A (noteFrame u X.env) (fun _ s2 => wpAny (model X.prog X.w) X.A (setFlight u none) (fun _ s3 => wpAny (model X.prog X.w) X.A (handleBy u X.env [.ExceptHandler (some (.Name x np)) (some n) (b1 :: su) pos']) (SP X pins D) X.xe s3) X.xe s2) X.xe sr := by
  obtain ⟨a, B, sI, ps, τ, G, k, d, rfl, J0, gr, up, sk, free, os, bare, em, go⟩ := R
  have J : Inv X pins τ G sI := J0.ofTry ok
  have frm : X.A.frames = some (X.env :: X.outer) := ok.frames.trans (by rw [hs])
  have sk' : Sky B (X.env :: X.outer) a (Zc k d) X.env.locals sr.heap := hs ▸ sk
  refine Sky.land Zc.steady frm hf sk' fun hp fl upA => ?_
  obtain ⟨o, fs, m1, m2, m3⟩ := fl.there
  -- it is no frame
  have nofr : ¬ a ∈ frs (X.env :: X.outer) := fun mem => by
    obtain ⟨_, q, at_, nf⟩ := fl.2.2.1.mem mem
    cases m1.symm.trans at_
    exact nf fs m3
  have noL : a ≠ X.env.locals := fun z => nofr (by
    unfold frs
    rw [List.filterMap_cons, hf, z]
    exact List.mem_cons_self)
  have noF : ¬ a ∈ X.fs := fun mem => nofr (by
    unfold frs
    rw [List.filterMap_cons, hf]
    exact List.mem_cons_of_mem _ mem)
  -- it is new
  have newI : sI.heap.get? a = none := by
    rcases q : sI.heap.get? a with _ | t
    · rfl
    · exact absurd ((gr a t q (by rw [show (X.tr (X.pn ++ pins) xe).stack = X.env :: X.outer from hs]; exact nofr)).symm.trans fl.2.1) (fun z => by cases z)
  have new0 : X.s_0.heap.get? a = none := by
    rcases q : X.s_0.heap.get? a with _ | t
    · rfl
    · obtain ⟨t', q'⟩ := J.base.there a t q (hex ▸ List.not_mem_nil)
      exact absurd (newI.symm.trans q') (fun z => by cases z)
  have oth : ∀ p ∈ X.pn ++ pins, p.1 ≠ a := fun p mem z => absurd ((z ▸ (J.pin p mem).1).symm.trans newI) (fun z => by cases z)
  have JA : Inv X pins τ G { sr with heap := hp } := J.landed gr fl.1 (up.trans upA) os bare
  have SA := JA.suite m1 m3 free noL noF
  have ty : PySem.W.Looks (model X.prog X.w) hp (typeOf (.ref a)) k := fun _ _ _ _ same q => wpAny_typeOf_ref (same _ _ m1) (m2.1.symm ▸ q)
  refine wpAny_handleBy_cons (codeAny_handlers_test ?_) (fun q => nomatch q)
  refine ld_glob (X := X.suite a ((a, o) :: (X.pn ++ pins))) SA hg hm ((PySem.W.exm_one (M := model X.prog X.w) JA.kIn ty em).here ?_) hdb
  refine codeAny_handlers_suite_as (HandSPX.lands_againZ fl fun hq flB upB => ?_)
  obtain ⟨oB, gB, n1, n2, n3⟩ := flB.there
  have JB : Inv X pins τ G { sr with heap := hq } := J.landed gr flB.1 ((up.trans upA).trans upB) os bare
  refine store_ok (X := X.suite a ((a, oB) :: (X.pn ++ pins))) (v := .ref a) (JB.suite n1 n3 free noL noF) hN hi (.inl hln) rfl (fun sC SC => ?_) (.inr hln)
  have run := (hsu a oB k d (X.pn ++ pins) n2 ⟨gB, n3⟩).run [] sC _ G _ SC (go a free)
  refine wpAny_mono run (fun f sD res => ?_) (fun _ _ z => z.elim)
  cases f with
  | next =>
    obtain ⟨ρ, HD, ID, nx⟩ := res
    refine gone_ok (inv_out ID ok) hN hi hln fun sE IE => ⟨_, _, inv_track IE new0 oth (exK_ok ?_ n2 n3), nx⟩
    exact (IE.pin (a, oB) (List.mem_append_right _ List.mem_cons_self)).1
  | brk => exact res.elim fun _ r => r.elim fun _ r => r.2.elim
  | cont => exact res.elim fun _ r => r.elim fun _ r => r.2.elim
  | ret v => exact res.elim fun _ r => r.elim fun _ r => r.elim fun _ r => r.2.2.elim
theorem ps_try_keep (hex : X.ex = []) (hs : X.stack = X.env :: X.outer) (hf : X.env.frame = some X.env.locals) (hN : X.N.Nodup) (hi : X.N[i]? = some n) (hln : X.env.kindOf n = some .local) (hg : Gl X x) (hdb : (x == ("__debug__" : Str)) = false) (hm : X.mg x = some c)
    (hb : ∀ (W : WX) (pn : List (Addr × Obj)) (xe : Value → Shared → Prop), Takes (X.tr pn xe) W → PSs (X.tr pn xe) body (tb W))
    (hsu : ∀ (a : Addr) (o : Obj) (k : Value) (d : Option Addr) (pn : List (Addr × Obj)), Zc k d o → (∃ fs, o.data = .fields fs) → PSs (X.suite a ((a, o) :: pn)) (b1 :: su) (ts a k d)) :
    PS X (.Try body [.ExceptHandler (some (.Name x np)) (some n) (b1 :: su) pos'] [] [] pos) (fun D σ H => tb (wKeep X.K c i ts D) D σ H) := by
  constructor
  intro pins s σ H D I h
  have ok := I.ok
  refine wpAny_Try_except (wpAny_mono ((hb _ _ _ fun u sr R => seized ok hex hs hf hN hi hln hg hdb hm hsu R).run [] s σ H D (I.toTry _) h) (fun f sE res => ?_) (fun _ _ z => z))
  cases f with
  | next => exact res.elim fun τ r => r.elim fun G r => wpAny_execs_nil ⟨τ, G, r.1.ofTry ok, r.2⟩
  | brk => exact res.elim fun τ r => r.elim fun G r => ⟨τ, G, r.1.ofTry ok, r.2⟩
  | cont => exact res.elim fun τ r => r.elim fun G r => ⟨τ, G, r.1.ofTry ok, r.2⟩
  | ret v => exact res.elim fun w r => r.elim fun τ r => r.elim fun G r => ⟨w, τ, G, r.1.ofTry ok, r.2.1, r.2.2⟩
end
end Dl
set_option Elab.async false
set_option linter.all false
set_option maxRecDepth 100000
set_option maxHeartbeats 4000000
/-! Dl: the exception kept: as data (excD), isinstance of it. -/
namespace Dl
open PySem PySem.Spec PyProof.Rows L2
section
variable {K : PySem.W.Frag} {B : Base} {ρ : Rho} {σ : L2.St} {τs : List (V × C)} {H : Hp}
theorem SI.track {a D : Addr} {x : Str} (s : SI K B ρ σ τs H) (hn : H a = none) (hx : PySem.W.nsIn K mainGlobals x = some (some (.ref D))) : SI K B ρ σ ((.ref a, .t (.d (excD x))) :: τs) (upd H a (ExK (.ref D) none a)) := by
  obtain ⟨G, fs, ft, c⟩ := s
  have gn : G a = none := by
    rcases e : G a with _ | o
    · rfl
    · exact absurd ((c.gh a o e).symm.trans hn) (fun z => by cases z)
  have keepH : ∀ {b o}, H b = some o → upd H a (ExK (.ref D) none a) b = some o := fun {b o} e => by
    rw [upd_ne (ne_of_none e hn)]
    exact e
  have keepG : Ex G (upd G a (ExK (.ref D) none a)) := fun b o e => by
    rw [upd_ne (ne_of_none e gn)]
    exact e
  have sameF : ∀ b ∈ fs ++ ft, b ≠ a := fun b m z => by
    rcases List.mem_append.mp m with m | m
    · obtain ⟨o, e, _⟩ := c.slots.there b m
      rw [z, hn] at e
      cases e
    · obtain ⟨o, e, _⟩ := c.temps.there b m
      rw [z, hn] at e
      cases e
  refine ⟨upd G a (ExK (.ref D) none a), fs, ft, {
    g0 := fun b o e => keepG b o (c.g0 b o e)
    gh := fun b o e => ?_
    h0 := fun b o e => keepH (c.h0 b o e)
    tup := fun b o t e => ?_
    new := fun b n z => ?_
    slots := c.slots.mono keepG.er fun b m => upd_ne (sameF b (List.mem_append_left _ m))
    temps := .t (fp := []) (.d (.exc (.inl upd_same) hx)) (c.temps.mono keepG.er fun b m => upd_ne (sameF b (List.mem_append_right _ m)))
    nd := c.nd
    own := fun b m => ⟨by rw [upd_ne (sameF b m)]; exact (c.own b m).1, (c.own b m).2⟩
    pin := c.pin }⟩
  · by_cases q : b = a
    · subst q
      rw [upd_same] at e ⊢
      exact e
    · rw [upd_ne q] at e ⊢
      exact c.gh b o e
  · by_cases q : b = a
    · subst q
      rw [upd_same] at e ⊢
      exact e
    · rw [upd_ne q] at e ⊢
      exact c.tup b o t e
  · by_cases q : b = a
    · subst q
      exfalso
      rcases e : B.H0 b with _ | o
      · exact z e
      · exact absurd ((c.h0 b o e).symm.trans hn) (fun z => by cases z)
    · rw [upd_ne q]
      exact c.new b n z
theorem SI.loseT {i : Nat} (o : Option V) (s : SI K B ρ σ τs H) (na : ∀ p ∈ τs, p.2 ≠ C.al i) (np : ∀ p ∈ B.pin, p.1 ≠ i) : SI K B (ρ.set i none) (σ.set i o) τs H :=
  SI.any' o (s.forget (i := i)) (fun hl => set_none (by simpa using hl)) na np
end
/-- the classes ys are caught by the clause that names x -/
structure ExnT (K : PySem.W.Frag) (mg : Str → Option Value) (x : Str) (ys : List Str) : Prop where
  ex : ∃ C, mg x = some (.ref C) ∧ ∀ y ∈ ys, ∃ D, mg y = some (.ref D) ∧ PySem.W.nsIn K mainGlobals y = some (some (.ref D)) ∧ PySem.W.exmOne K (.ref D) (.ref C) = some true
def dTryKeep (i j : Nat) (ys : List Str) (db : (Str → Rho → Prop) → DTS) : DTS := fun D ρ =>
  db (fun y ρ' => y ∈ ys ∧ i < ρ'.length ∧ D.nx (((ρ'.set i none).set j (some (.d (excD y)))).set i none)) D ρ
section
variable {X : Cx} {g : Gm}
theorem ds_tryKeep (i j : Nat) {x n y : Str} {ys : List Str} {body : List Stmt} {np yp n2 ap pos pos' : Pos} {tb : WX → TS} {db : (Str → Rho → Prop) → DTS}
    (hex : X.ex = []) (hs : X.stack = X.env :: X.outer) (hf : X.env.frame = some X.env.locals) (hN : X.N.Nodup) (hi : X.N[i]? = some n) (hln : X.env.kindOf n = some .local) (hg : Gl X x) (hdb : (x == ("__debug__" : Str)) = false) (M : ExnT X.K X.mg x ys) (hnp : g.pn.contains i = false) (hnj : g.pn.contains j = false)
    (hpe : ∀ (a : Addr) (pn : List (Addr × Obj)), PS (X.suite a pn) (.Assign [.Name y yp] (.Name n n2) ap) (tAsg (tVar i) (gName j)))
    (hb : ∀ (W : WX) (ex : Str → Rho → Prop) (pn : List (Addr × Obj)) (xe : Value → Shared → Prop), Takes (X.tr pn xe) W → DSs (X.tr pn xe) { g with w := ⟨W, ex⟩ } body (tb W) (db ex)) :
    DS X g (.Try body [.ExceptHandler (some (.Name x np)) (some n) [.Assign [.Name y yp] (.Name n n2) ap] pos'] [] [] pos) (fun D σ H => tb (wKeep X.K (.ref (clsOf (X.mg x))) i (fun _ _ _ => tAsg (tVar i) (gName j)) D) D σ H) (dTryKeep i j ys db) := by
  obtain ⟨C, gC, hys⟩ := M.ex
  have e : clsOf (X.mg x) = C := by
    rw [gC]
    rfl
  rw [e]
  refine ⟨ps_try_keep hex hs hf hN hi hln hg hdb gC (fun W pn xe t => (hb W (fun _ _ => False) pn xe t).ps) (fun a o k d pn _ _ => pss_one (hpe a _)), fun B ρ σ H D D' b s k h => ?_⟩
  have npB : ∀ {l}, g.pn.contains l = false → ∀ p ∈ B.pin, p.1 ≠ l := fun {l} hl p hp z => by
    have := List.contains_iff_mem.mpr (b.pin p hp)
    rw [z, hl] at this
    cases this
  refine (hb (wKeep X.K (.ref C) i (fun _ _ _ => tAsg (tVar i) (gName j)) D) _ [] (fun _ _ => True) (fun _ _ _ => trivial)).dt B ρ σ H D D' ⟨b.low, fun y Cy ρ' σ' H' ex hm s' q => ?_, b.pin⟩ s ⟨k.nx, k.rt, k.bk, k.ct⟩ h
  obtain ⟨hy, hil, q⟩ := q
  obtain ⟨C', hC', hns, hem⟩ := hys y hy
  have hm : X.mg y = some (.ref Cy) := hm
  rw [hC'] at hm
  cases hm
  refine ⟨hem, fun a ha => ?_⟩
  have s1 : SI X.K B ρ' σ' [] H' := by
    have := s'.pops (τs := [])
    exact this
  have s2 := (s1.track ha hns).loseT (i := i) (some (.ref a)) (fun p hp => by
    rcases List.mem_cons.mp hp with rfl | m
    · exact fun z => by cases z
    · cases m) (npB hnp)
  have s3 := s2.set' (i := j) (fun p hp => by cases hp) (npB hnj)
  have s4 := s3.loseT (i := i) none (fun p hp => by cases hp) (npB hnp)
  refine ⟨.ref a, by rw [List.getElem?_set_self (by rw [s1.len]; exact hil)], ?_⟩
  exact k.nx _ _ _ s4 q
end
/-! ### isinstance of a kept exception -/
theorem exk_kit {X : Cx} {pins : List (Addr × Obj)} {σ : L2.St} {H : Hp} {s : Shared} {a D : Addr} (I : Inv X pins σ H s) (e : Rd H a (ExK (.ref D) none a)) (k : ExcC X.K D) : ∃ P : Heap → Prop, PySem.W.KitX X.K (.ref a) (.ref D) P ∧ P s.heap := by
  have q : ∃ (o : Obj) (fs : Array Value), s.heap.get? a = some o ∧ Zc (.ref D) none o ∧ o.data = .fields fs := by
    rcases e with e | ⟨o, e⟩
    · exact (I.hok a _ e).1
    · exact (I.hok a _ e).2.1
  obtain ⟨⟨cl, di, da, sl⟩, fs, at_, z, f⟩ := q
  cases z.1
  cases z.2
  cases f
  exact ⟨_, PySem.W.handS_kitx_exc k.hg k.hk k.hs k.hd k.ha k.hn k.ht k.hm, at_, rfl, rfl, trivial⟩
def rX1 (K : PySem.W.Frag) : List V → Hp → VK → Prop := fun xs H Q => ∃ (a D : Addr) (c : V) (u : Value) (b : Bool), xs = [.ref a, c] ∧ Rd H a (ExK (.ref D) none a) ∧ ExcC K D ∧ ClsV c u ∧ PySem.W.kitOne K (.ref D) u = some b ∧ Q (.bl b) H
theorem call_isX1 {X : Cx} : CallR X (.builtin "isinstance") (rX1 X.K) := by
  intro pins s σ H xs vs Q I r h
  obtain ⟨a, D, c, u, b, rfl, e, k, cl, kb, q⟩ := h
  obtain ⟨v1, v2, rfl, r1, r2⟩ := vals2 r
  cases (show v1 = Value.ref a from r1)
  cases cl.eq r2
  obtain ⟨P, kx, p⟩ := exk_kit I e k
  exact PySem.W.kia_one kx I.kIn p kb (fun z => nomatch z) fun t => ⟨.bl b, H, I.tok t, rfl, q⟩
/-- of each exception told, whether it is one of the class u -/
def IsXL (K : PySem.W.Frag) (u : Value) (tb : List (Str × Bool)) : Prop := ∀ q ∈ tb, ∀ D, PySem.W.nsIn K mainGlobals q.1 = some (some (.ref D)) → ExcC K D ∧ PySem.W.kitOne K (.ref D) u = some q.2
theorem isxl_nil {K : PySem.W.Frag} {u : Value} : IsXL K u [] := fun q h => by cases h
theorem isxl_cons {K : PySem.W.Frag} {u : Value} {y : Str} {b : Bool} {D : Addr} {tb : List (Str × Bool)} (hy : PySem.W.nsIn K mainGlobals y = some (some (.ref D))) (k : ExcC K D) (q : PySem.W.kitOne K (.ref D) u = some b) (r : IsXL K u tb) : IsXL K u ((y, b) :: tb) := fun p hp E hE => by
  rcases List.mem_cons.mp hp with rfl | m
  · rw [hy] at hE
    cases hE
    exact ⟨k, q⟩
  · exact r p m E hE
structure IsXT (K : PySem.W.Frag) (mg : Str → Option Value) (z : Str) (tb : List (Str × Bool)) : Prop where
  ex : ∃ C, mg z = some (.ref C) ∧ IsXL K (.ref C) tb
abbrev IsXB (K : PySem.W.Frag) (T : String) (tb : List (Str × Bool)) : Prop := IsXL K (.type T) tb
theorem kit_self {K : PySem.W.Frag} {u : Value} : PySem.W.kitOne K u u = some true := by
  unfold PySem.W.kitOne
  rw [if_pos (by simp)]
theorem kit_own {K : PySem.W.Frag} {D C : Addr} {b : Bool} (h2 : PySem.W.isClsIn K C = true) (h3 : PySem.W.typeIn K (.ref C) = some (.type "type")) (h4 : PySem.W.subIn K (.ref D) (.ref C) = some b) (ne : D ≠ C) : PySem.W.kitOne K (.ref D) (.ref C) = some b := by
  have h2' : (PySem.W.clsIn K C).isSome = true := h2
  unfold PySem.W.kitOne PySem.W.kitCls
  rw [if_neg (by simpa using ne)]
  dsimp only
  rw [h2', h3, if_pos (by rfl)]
  exact h4
theorem kit_blt {K : PySem.W.Frag} {D : Addr} {T : String} {b : Bool} (hm : PySem.W.kitMeta T = true) (h : PySem.W.subIn K (.ref D) (.type T) = some b) : PySem.W.kitOne K (.ref D) (.type T) = some b := by
  unfold PySem.W.kitOne PySem.W.kitCls
  rw [if_neg (by simp)]
  dsimp only
  rw [hm, if_pos rfl]
  exact h
def xOf : PyData → Option Str
  | .dict [(.list [], .str x)] => some x
  | _ => none
theorem Rp.xOf {K : PySem.W.Frag} {G : Hp} {v : V} {d : PyData} {x : Str} (r : Rp K G v d) (e : Dl.xOf d = some x) : ∃ a D, v = .ref a ∧ Rd G a (ExK (.ref D) none a) ∧ PySem.W.nsIn K mainGlobals x = some (some (.ref D)) := by
  have ed : d = excD x := by
    unfold Dl.xOf at e
    split at e
    · cases e
      rfl
    · cases e
  generalize hD : d = d' at r
  rw [ed] at hD
  cases r with
  | exc s q =>
    injection hD with hD
    cases hD
    exact ⟨_, _, rfl, s, q⟩
  | @dk a kvs ds s q =>
    injection hD with hD
    cases kvs with
    | nil => simp at hD
    | cons p kvs =>
      cases ds with
      | nil => simp at hD
      | cons d ds =>
        obtain ⟨k, w⟩ := p
        cases k <;> simp [kd] at hD
  | @dt a kvs ds s q =>
    injection hD with hD
    cases kvs with
    | nil => simp at hD
    | cons p kvs =>
      cases ds with
      | nil => simp at hD
      | cons d ds => simp at hD
  | _ => cases hD
def dIsX (tb : List (Str × Bool)) (d : DT) : DT := fun ρ Q => d ρ fun c ρ1 => asD (dat ρ1 c) fun v => match xOf v with
  | some x => ∃ b, (x, b) ∈ tb ∧ Q (.t (.d (.bool b))) ρ1
  | none => False
section
variable {X : Cx} {g : Gm} {e : Expr} {te : TE} {d : DT} {p pos : Pos}
theorem de_isXT {z : Str} {p2 : Pos} {tb : List (Str × Bool)} (hg : Gl X "isinstance") (hx : X.mg "isinstance" = none) (hgz : Gl X z) (M : IsXT X.K X.mg z tb) (h : DE X g e te d) (hzd : (z == ("__debug__" : Str)) = false := by decide)
    (hs : starEach [e, .Name z p2] X.env = (false, eval e X.env) :: starEach [.Name z p2] X.env := by rfl) (hs2 : starEach [.Name z p2] X.env = (false, eval (.Name z p2) X.env) :: starEach [] X.env := by rfl) (hpl : (backTo pos (starEach [.Name z p2] X.env)).any (·.1) = false := by rfl) :
    DE X g (.Call (.Name "isinstance" p) [e, .Name z p2] [] pos) (tCB (rX1 X.K) (tCons te (tCons (tC (.ref (clsOf (X.mg z)))) tNil))) (dIsX tb d) := by
  obtain ⟨C, gC, kk⟩ := M.ex
  have ec : clsOf (X.mg z) = C := by
    rw [gC]
    rfl
  rw [ec]
  refine ⟨pe_callB call_isX1 hg hx (by decide +kernel) (pa_cons h.pe (pa_cons (pe_glob (v := .ref C) hgz gC rfl hzd) pa_nil hs2) hs) (he := hs) (hpl := hpl), fun B ρ σ τs H Q Q' b s k h' => ?_⟩
  refine h.dt B ρ σ τs H _ _ b s (fun c ρ1 v H1 s1 b1 q1 => ?_) h'
  obtain ⟨w, ew, q⟩ := asD_iff q1
  split at q
  · rename_i x ex
    obtain ⟨r, hr, q⟩ := q
    obtain ⟨a, D, rfl, m1, m2⟩ := (s1.rp ew).xOf ex
    obtain ⟨k1, k2⟩ := kk (x, r) hr D m2
    exact ⟨a, D, .ref C, .ref C, r, rfl, m1, k1, .own C, k2, k _ _ _ _ (s1.pop.push fun G _ _ => .bl _) b.untail q⟩
  · exact q.elim
theorem de_isXB {z : Str} {T : String} {p2 : Pos} {tb : List (Str × Bool)} (hg : Gl X "isinstance") (hx : X.mg "isinstance" = none) (hgz : Gl X z) (hz : X.mg z = none) (hT : bootBuiltins z = some (.type T)) (M : IsXB X.K T tb) (h : DE X g e te d) (hzn : z ≠ "__name__" := by decide) (hzd : (z == ("__debug__" : Str)) = false := by decide)
    (hs : starEach [e, .Name z p2] X.env = (false, eval e X.env) :: starEach [.Name z p2] X.env := by rfl) (hs2 : starEach [.Name z p2] X.env = (false, eval (.Name z p2) X.env) :: starEach [] X.env := by rfl) (hpl : (backTo pos (starEach [.Name z p2] X.env)).any (·.1) = false := by rfl) :
    DE X g (.Call (.Name "isinstance" p) [e, .Name z p2] [] pos) (tCB (rX1 X.K) (tCons te (tCons (tC (.ty T)) tNil))) (dIsX tb d) := by
  refine ⟨pe_callB call_isX1 hg hx (by decide +kernel) (pa_cons h.pe (pa_cons (pe_bltn (v := .ty T) hgz hz hT rfl hzn hzd) pa_nil hs2) hs) (he := hs) (hpl := hpl), fun B ρ σ τs H Q Q' b s k h' => ?_⟩
  refine h.dt B ρ σ τs H _ _ b s (fun c ρ1 v H1 s1 b1 q1 => ?_) h'
  obtain ⟨w, ew, q⟩ := asD_iff q1
  split at q
  · rename_i x ex
    obtain ⟨r, hr, q⟩ := q
    obtain ⟨a, D, rfl, m1, m2⟩ := (s1.rp ew).xOf ex
    obtain ⟨k1, k2⟩ := M (x, r) hr D m2
    exact ⟨a, D, .ty T, .type T, r, rfl, m1, k1, .ty T, k2, k _ _ _ _ (s1.pop.push fun G _ _ => .bl _) b.untail q⟩
  · exact q.elim
end
end Dl
set_option Elab.async false
set_option linter.all false
set_option maxRecDepth 100000
set_option maxHeartbeats 4000000
/-! Dl: isinstance(e, (A, B, ..)) of a kept exception, own classes. -/
namespace Dl
open PySem PySem.Spec PyProof.Rows L2
section
variable {K : PySem.W.Frag} {B : Base} {ρ : Rho} {σ : L2.St} {τs : List (V × C)} {H : Hp}
/-- something new stands at p -/
theorem SI.fresh {p : Addr} {u : HO} (s : SI K B ρ σ τs H) (hn : H p = none) : SI K B ρ σ τs (upd H p u) := by
  obtain ⟨G, fs, ft, c⟩ := s
  have gn : G p = none := by
    rcases e : G p with _ | o
    · rfl
    · exact absurd ((c.gh p o e).symm.trans hn) (fun z => by cases z)
  have keepH : ∀ {b o}, H b = some o → upd H p u b = some o := fun {b o} e => by
    rw [upd_ne (ne_of_none e hn)]
    exact e
  have keepG : Ex G (upd G p u) := fun b o e => by
    rw [upd_ne (ne_of_none e gn)]
    exact e
  have sameF : ∀ b ∈ fs ++ ft, b ≠ p := fun b m z => by
    rcases List.mem_append.mp m with m | m
    · obtain ⟨o, e, _⟩ := c.slots.there b m
      rw [z, hn] at e
      cases e
    · obtain ⟨o, e, _⟩ := c.temps.there b m
      rw [z, hn] at e
      cases e
  refine ⟨upd G p u, fs, ft, {
    g0 := fun b o e => keepG b o (c.g0 b o e)
    gh := fun b o e => ?_
    h0 := fun b o e => keepH (c.h0 b o e)
    tup := fun b o t e => ?_
    new := fun b n z => ?_
    slots := c.slots.mono keepG.er fun b m => upd_ne (sameF b (List.mem_append_left _ m))
    temps := c.temps.mono keepG.er fun b m => upd_ne (sameF b (List.mem_append_right _ m))
    nd := c.nd
    own := fun b m => ⟨by rw [upd_ne (sameF b m)]; exact (c.own b m).1, (c.own b m).2⟩
    pin := c.pin }⟩
  · by_cases q : b = p
    · subst q
      rw [upd_same] at e ⊢
      exact e
    · rw [upd_ne q] at e ⊢
      exact c.gh b o e
  · by_cases q : b = p
    · subst q
      rw [upd_same] at e ⊢
      exact e
    · rw [upd_ne q] at e ⊢
      exact c.tup b o t e
  · by_cases q : b = p
    · subst q
      exfalso
      rcases e : B.H0 b with _ | o
      · exact z e
      · exact absurd ((c.h0 b o e).symm.trans hn) (fun z => by cases z)
    · rw [upd_ne q]
      exact c.new b n z
end
/-- names of classes, one by one -/
structure NmA (X : Cx) (es : List Expr) (zs : List Str) (ta : TA) : Prop where
  pa : PA X es ta
  go : ∀ σ H Q, Q (zs.map fun z => V.ref (clsOf (X.mg z))) H → ta σ H Q
theorem nm_nil {X : Cx} : NmA X [] [] tNil := ⟨pa_nil, fun _ _ _ h => h⟩
theorem nm_cons {X : Cx} {z : Str} {p : Pos} {es : List Expr} {zs : List Str} {ta : TA} (hg : Gl X z) (hm : X.mg z = some (.ref (clsOf (X.mg z)))) (hd : (z == ("__debug__" : Str)) = false) (h : NmA X es zs ta) (hs : starEach (.Name z p :: es) X.env = (false, eval (.Name z p) X.env) :: starEach es X.env := by rfl) :
    NmA X (.Name z p :: es) (z :: zs) (tCons (tC (.ref (clsOf (X.mg z)))) ta) :=
  ⟨pa_cons (pe_glob (v := .ref (clsOf (X.mg z))) hg hm rfl hd) h.pa hs, fun σ H Q q => h.go σ H _ q⟩
def IsXA (K : PySem.W.Frag) (us : List Value) (tb : List (Str × Bool)) : Prop := ∀ q ∈ tb, ∀ D, PySem.W.nsIn K mainGlobals q.1 = some (some (.ref D)) → ExcC K D ∧ PySem.W.kitAny K (.ref D) us = some q.2
theorem isxa_nil {K : PySem.W.Frag} {us : List Value} : IsXA K us [] := fun q h => by cases h
theorem isxa_cons {K : PySem.W.Frag} {us : List Value} {y : Str} {b : Bool} {D : Addr} {tb : List (Str × Bool)} (hy : PySem.W.nsIn K mainGlobals y = some (some (.ref D))) (k : ExcC K D) (q : PySem.W.kitAny K (.ref D) us = some b) (r : IsXA K us tb) : IsXA K us ((y, b) :: tb) := fun p hp E hE => by
  rcases List.mem_cons.mp hp with rfl | m
  · rw [hy] at hE
    cases hE
    exact ⟨k, q⟩
  · exact r p m E hE
structure IsXM (K : PySem.W.Frag) (mg : Str → Option Value) (zs : List Str) (tb : List (Str × Bool)) : Prop where
  cls : ∀ z ∈ zs, mg z = some (.ref (clsOf (mg z)))
  tab : IsXA K (zs.map fun z => .ref (clsOf (mg z))) tb
theorem zm_nil {mg : Str → Option Value} : (∀ z ∈ ([] : List Str), mg z = some (.ref (clsOf (mg z)))) ∧ ([] : List Str).map (fun z => Value.ref (clsOf (mg z))) = [] := ⟨fun z h => (by cases h), rfl⟩
theorem zm_cons {mg : Str → Option Value} {z : Str} {C : Addr} {zs : List Str} {us : List Value} (h : mg z = some (.ref C)) (r : (∀ z ∈ zs, mg z = some (.ref (clsOf (mg z)))) ∧ zs.map (fun z => Value.ref (clsOf (mg z))) = us) :
    (∀ w ∈ z :: zs, mg w = some (.ref (clsOf (mg w)))) ∧ (z :: zs).map (fun z => Value.ref (clsOf (mg z))) = .ref C :: us := by
  have e : clsOf (mg z) = C := by
    rw [h]
    rfl
  refine ⟨fun w m => ?_, by rw [List.map_cons, e, r.2]⟩
  rcases List.mem_cons.mp m with rfl | m
  · rw [e]
    exact h
  · exact r.1 w m
theorem isxm_mk {K : PySem.W.Frag} {mg : Str → Option Value} {zs : List Str} {us : List Value} {tb : List (Str × Bool)} (h : (∀ z ∈ zs, mg z = some (.ref (clsOf (mg z)))) ∧ zs.map (fun z => Value.ref (clsOf (mg z))) = us) (t : IsXA K us tb) : IsXM K mg zs tb := ⟨h.1, by rw [h.2]; exact t⟩
def rXM (K : PySem.W.Frag) : List V → Hp → VK → Prop := fun xs H Q => ∃ (a D p : Addr) (cs : List V) (us : List Value) (b : Bool), xs = [.ref a, .ref p] ∧ Rd H a (ExK (.ref D) none a) ∧ ExcC K D ∧ H p = some (.tup cs) ∧ Paired ClsV cs us ∧ PySem.W.kitAny K (.ref D) us = some b ∧ Q (.bl b) H
theorem call_isXM {X : Cx} : CallR X (.builtin "isinstance") (rXM X.K) := by
  intro pins s σ H xs vs Q I r h
  obtain ⟨a, D, p, cs, us, b, rfl, e, k, ht, pr, kb, q⟩ := h
  obtain ⟨v1, v2, rfl, r1, r2⟩ := vals2 r
  cases (show v1 = Value.ref a from r1)
  cases (show v2 = Value.ref p from r2)
  obtain ⟨P, kx, pp⟩ := exk_kit I e k
  have ot : ObjOk X.prog X.w H s.heap p (.tup cs) := I.hok p _ ht
  obtain ⟨_, ws, rv, ob, g1, g2, m, g3⟩ := ot
  cases ClsV.all pr rv
  rcases ob with ⟨oc, od, dt, sl⟩
  dsimp only at g2 g3
  cases g2
  cases g3
  exact PySem.W.kia_tup kx I.kIn pp g1 kb (fun z => nomatch z) fun t => ⟨.bl b, H, I.tok t, rfl, q⟩
theorem paired_own {mg : Str → Option Value} : ∀ zs : List Str, Paired ClsV (zs.map fun z => V.ref (clsOf (mg z))) (zs.map fun z => Value.ref (clsOf (mg z)))
  | [] => .nil
  | z :: zs => .cons (.own _) (paired_own zs)
section
variable {X : Cx} {g : Gm} {e : Expr} {te : TE} {d : DT} {p pos tp : Pos}
theorem de_isXM {es : List Expr} {zs : List Str} {ta : TA} {x1 : Nat} {tb : List (Str × Bool)} (hg : Gl X "isinstance") (hx : X.mg "isinstance" = none) (M : IsXM X.K X.mg zs tb) (N : NmA X es zs ta) (hz : zs.length ≤ sizeLine) (h : DE X g e te d)
    (hs : starEach [e, .Tuple es x1 tp] X.env = (false, eval e X.env) :: starEach [.Tuple es x1 tp] X.env := by rfl) (hs2 : starEach [.Tuple es x1 tp] X.env = (false, eval (.Tuple es x1 tp) X.env) :: starEach [] X.env := by rfl) (hpl : (backTo pos (starEach [.Tuple es x1 tp] X.env)).any (·.1) = false := by rfl) :
    DE X g (.Call (.Name "isinstance" p) [e, .Tuple es x1 tp] [] pos) (tCB (rXM X.K) (tCons te (tCons (tTup ta) tNil))) (dIsX tb d) := by
  refine ⟨pe_callB call_isXM hg hx (by decide +kernel) (pa_cons h.pe (pa_cons (pe_tup N.pa) pa_nil hs2) hs) (he := hs) (hpl := hpl), fun B ρ σ τs H Q Q' b s k h' => ?_⟩
  refine h.dt B ρ σ τs H _ _ b s (fun c ρ1 v H1 s1 b1 q1 => ?_) h'
  obtain ⟨w, ew, q⟩ := asD_iff q1
  split at q
  · rename_i x ex
    obtain ⟨r, hr, q⟩ := q
    obtain ⟨a, D, rfl, m1, m2⟩ := (s1.rp ew).xOf ex
    obtain ⟨k1, k2⟩ := M.tab (x, r) hr D m2
    refine N.go _ _ _ ⟨by rw [List.length_map]; exact hz, fun p hp => ?_⟩
    have m3 : Rd (upd H1 p (.tup (zs.map fun z => V.ref (clsOf (X.mg z))))) a (ExK (.ref D) none a) := by
      rcases m1 with m1 | ⟨o, m1⟩
      · exact .inl (by rw [upd_ne (ne_of_none m1 hp)]; exact m1)
      · exact .inr ⟨o, by rw [upd_ne (ne_of_none m1 hp)]; exact m1⟩
    exact ⟨a, D, p, _, _, r, rfl, m3, k1, upd_same, paired_own zs, k2, k _ _ _ _ ((s1.fresh hp).pop.push fun G _ _ => .bl _) b.untail q⟩
  · exact q.elim
end
end Dl
set_option Elab.async false
set_option linter.all false
set_option maxRecDepth 100000
set_option maxHeartbeats 4000000
/-! Dl: the plain law's tools. -/
namespace Dl
open PySem PySem.Spec PyProof.Rows L2
theorem ixN_nat {n : Nat} {i : Int} (h0 : 0 ≤ i) (h : i < n) : ixN n i = some i.toNat := by
  obtain ⟨m, rfl⟩ := Int.eq_ofNat_of_zero_le h0
  have hm : m < n := by omega
  rw [show ((m : Int)).toNat = m from by simp]
  unfold ixN
  simp [hm]
theorem atI_in {α : Type} {xs : List α} {i : Int} {x : α} (h0 : 0 ≤ i) (h : xs[i.toNat]? = some x) : atI xs i = some x := by
  have hl := (List.getElem?_eq_some_iff.mp h).1
  unfold atI
  rw [ixN_nat h0 (by omega)]
  exact h
@[simp] theorem ixN_two0 : ixN 2 0 = some 0 := rfl
@[simp] theorem ixN_two1 : ixN 2 1 = some 1 := rfl
@[simp] theorem atI_two0 {α : Type} (a b : α) : atI [a, b] 0 = some a := rfl
@[simp] theorem atI_two1 {α : Type} (a b : α) : atI [a, b] 1 = some b := rfl
@[simp] theorem atI_three0 {α : Type} (a b c : α) : atI [a, b, c] 0 = some a := rfl
@[simp] theorem atI_three1 {α : Type} (a b c : α) : atI [a, b, c] 1 = some b := rfl
@[simp] theorem atI_three2 {α : Type} (a b c : α) : atI [a, b, c] 2 = some c := rfl
end Dl
set_option Elab.async false
set_option linter.all false
set_option maxRecDepth 100000
set_option maxHeartbeats 4000000
/-! Dl: the readings, step by step, backward. -/
namespace Dl
open PySem PySem.Spec PyProof.Rows L2
def onSome {α : Type} (o : Option α) (K : α → Prop) : Prop := match o with
  | some x => K x
  | none => False
theorem s_on {α : Type} {o : Option α} {K : α → Prop} {x : α} (h : o = some x) (k : K x) : onSome o K := by
  subst h
  exact k
section
variable {ρ ρ1 : Rho} {Q : C → Rho → Prop} {QT : Bool → Rho → Prop} {D : DEnds} {t u w : DT} {tt uu : DTT} {da : DTA} {st su : DTS} {tg : DTG}
theorem s_seq (k : st { D with nx := su D } ρ) : dSeq st su D ρ := k
theorem s_next (k : D.nx ρ) : dNext D ρ := k
theorem s_break (k : D.bk ρ) : dBreak D ρ := k
theorem s_cont (k : D.ct ρ) : dCont D ρ := k
theorem s_drop (k : t ρ fun _ ρ1 => D.nx ρ1) : dDrop t D ρ := k
theorem s_ret (k : t ρ fun c ρ1 => mov ρ1 c D.rt) : dRet t D ρ := k
theorem s_retN (k : D.rt (.d .none) ρ) : dRetN D ρ := k
theorem s_ifS (k : tt ρ fun b ρ1 => if b = true then st D ρ1 else su D ρ1) : dIfS tt st su D ρ := k
theorem s_asg (k : t ρ fun c ρ1 => own ρ1 c fun x ρ2 => tg x ρ2 D.nx) : dAsg t tg D ρ := k
theorem s_name {j : Nat} {x : T} (h : ρ[j]? = some (some x)) (k : Q (.al j) ρ) : dName j ρ Q := by
  unfold dName
  rw [h]
  exact k
theorem s_leaf {j : Nat} {x : PyData} (h : ρ[j]? = some (some (.d x))) (k : Q (.t (.d x)) ρ) : dLeaf j ρ Q := by
  unfold dLeaf
  rw [h]
  exact k
theorem s_c {x : PyData} (k : Q (.t (.d x)) ρ) : dC x ρ Q := k
theorem s_op {d : D2} (k : t ρ fun ca ρ1 => u ρ1 fun cb ρ2 => d (dat ρ2 ca) (dat ρ2 cb) fun z => Q (.t z) ρ2) : dOp d t u ρ Q := k
theorem s_tst (k : t ρ fun c ρ1 => asB (dat ρ1 c) fun b => QT b ρ1) : dTst t ρ QT := k
theorem s_not (k : tt ρ fun b ρ1 => QT (!b) ρ1) : dNot tt ρ QT := k
theorem s_and (k : tt ρ fun b ρ1 => if b = true then uu ρ1 QT else QT false ρ1) : dAnd tt uu ρ QT := k
theorem s_or (k : tt ρ fun b ρ1 => if b = true then QT true ρ1 else uu ρ1 QT) : dOr tt uu ρ QT := k
theorem s_notV (k : t ρ fun c ρ1 => asB (dat ρ1 c) fun b => Q (.t (.d (.bool (!b)))) ρ1) : dNotV t ρ Q := k
theorem s_andV (k : t ρ fun c ρ1 => asB (dat ρ1 c) fun b => if b = true then u ρ1 Q else Q (.t (.d (.bool false))) ρ1) : dAndV t u ρ Q := k
theorem s_orV (k : t ρ fun c ρ1 => asB (dat ρ1 c) fun b => if b = true then Q (.t (.d (.bool true))) ρ1 else u ρ1 Q) : dOrV t u ρ Q := k
theorem s_if (k : tt ρ fun b ρ1 => if b = true then u ρ1 Q else w ρ1 Q) : dIf tt u w ρ Q := k
theorem s_nil {K : List C → Rho → Prop} (k : K [] ρ) : dNil ρ K := k
theorem s_cons {K : List C → Rho → Prop} (k : t ρ fun c ρ1 => da ρ1 fun cs ρ2 => K (c :: cs) ρ2) : dCons t da ρ K := k
theorem s_lst (k : da ρ fun cs ρ1 => ownL ρ1 cs fun ts ρ2 => ts.length ≤ 16777216 ∧ Q (.t (.ls ts)) ρ2) : dLst da ρ Q := k
theorem s_tup (k : da ρ fun cs ρ1 => ownL ρ1 cs fun ts ρ2 => ts.length ≤ 16777216 ∧ Q (.t (mkTup ts)) ρ2) : dTup da ρ Q := k
theorem s_movD (k : t ρ fun c ρ1 => mov ρ1 c fun x ρ2 => Q (.t x) ρ2) : dMov t ρ Q := k
theorem s_ix (k : t ρ fun ca ρ1 => u ρ1 fun cb ρ2 => asI (dat ρ2 cb) fun i => asM (look ρ2 ca) fun ds => onSome (atI ds i) fun d => Q (.t (.d d)) ρ2) : dIx t u ρ Q := by
  unfold dIx
  refine Eq.mp (congrArg (t ρ) ?_) k
  funext ca ρ1
  refine congrArg (u ρ1) ?_
  funext cb ρ2
  refine congrArg (asI (dat ρ2 cb)) ?_
  funext i
  refine congrArg (asM (look ρ2 ca)) ?_
  funext ds
  cases atI ds i <;> rfl
theorem s_len (k : t ρ fun ca ρ1 => onSome ((look ρ1 ca).bind lenT) fun n => Q (.t (.d (.int (n : Nat)))) ρ1) : dLen t ρ Q := by
  unfold dLen
  refine Eq.mp (congrArg (t ρ) ?_) k
  funext ca ρ1
  cases (look ρ1 ca).bind lenT <;> rfl
theorem s_listOf (k : t ρ fun ca ρ1 => asM (look ρ1 ca) fun ds => Q (.t (.ls (ds.map T.d))) ρ1) : dListOf t ρ Q := k
theorem s_tupOf (k : t ρ fun ca ρ1 => asF (look ρ1 ca) fun ds => Q (.t (.d (.tuple ds))) ρ1) : dTupOf t ρ Q := k
theorem s_listE (k : t ρ fun ca ρ1 => asF (look ρ1 ca) fun ds => Q (.t (.ls ((enumD ds).map T.d))) ρ1) : dListE t ρ Q := k
theorem s_lr1 (k : t ρ fun c ρ1 => asI (dat ρ1 c) fun n => -(2 ^ 62) ≤ n ∧ n ≤ 16777216 ∧ Q (.t (.ls ((upI 0 n.toNat).map T.d))) ρ1) : dLR1 t ρ Q := k
theorem s_cat (k : t ρ fun ca ρ1 => u ρ1 fun cb ρ2 => asF (look ρ2 ca) fun xs => asF (look ρ2 cb) fun ys => xs.length + ys.length ≤ 16777216 ∧ Q (.t (.ls ((xs ++ ys).map T.d))) ρ2) : dCat t u ρ Q := k
theorem s_rev (k : t ρ fun ca ρ1 => asF (look ρ1 ca) fun ds => Q (.t (.ls (ds.reverse.map T.d))) ρ1) : dRev t ρ Q := k
theorem s_sl {l h : DTO} (k : t ρ fun ca ρ1 => l ρ1 fun lo ρ2 => h ρ2 fun hi ρ3 => asF (look ρ3 ca) fun ds => Q (.t (.ls ((cutD ds lo hi).map T.d))) ρ3) : dSl t l h ρ Q := k
theorem s_oNone {K : Option Int → Rho → Prop} (k : K none ρ) : oNone ρ K := k
theorem s_oSome {K : Option Int → Rho → Prop} (k : t ρ fun c ρ1 => asI (dat ρ1 c) fun i => K (some i) ρ1) : oSome t ρ K := k
theorem s_c1 {f : D1} (k : t ρ fun c ρ1 => f (look ρ1 c) fun z => Q (.t z) ρ1) : dC1 f t ρ Q := k
theorem s_c2 {f : Int → Int → Int} (k : t ρ fun c ρ1 => u ρ1 fun c2 ρ2 => asI (dat ρ2 c) fun i => asI (dat ρ2 c2) fun j => Q (.t (.d (.int (f i j)))) ρ2) : dC2 f t u ρ Q := k
theorem s_neg (k : t ρ fun c ρ1 => asI (dat ρ1 c) fun i => Q (.t (.d (.int (-i)))) ρ1) : dNeg t ρ Q := k
theorem s_app {j : Nat} (k : atLs ρ j fun _ => t ρ fun c ρ1 => own ρ1 c fun z ρ2 => atLs ρ2 j fun ts => ts.length < 16777216 ∧ Q (.t (.d .none)) (ρ2.set j (some (.ls (ts ++ [z]))))) : dApp j t ρ Q := k
theorem s_ins {j : Nat} (k : atLs ρ j fun _ => t ρ fun c ρ1 => u ρ1 fun c2 ρ2 => asI (dat ρ2 c) fun i => own ρ2 c2 fun z ρ3 => atLs ρ3 j fun ts => ts.length < 16777216 ∧ 0 ≤ i ∧ i < 2 ^ 63 ∧ Q (.t (.d .none)) (ρ3.set j (some (.ls (ts.take i.toNat ++ [z] ++ ts.drop i.toNat))))) : dIns j t u ρ Q := k
theorem s_clear {j : Nat} (k : atLs ρ j fun _ => Q (.t (.d .none)) (ρ.set j (some (.ls [])))) : dClear j ρ Q := k
theorem s_sub {j : Nat} {x : T} {K : Rho → Prop} (k : atLs ρ j fun _ => t ρ fun c ρ1 => asI (dat ρ1 c) fun i => atLs ρ1 j fun ts => onSome (ixN ts.length i) fun k => K (ρ1.set j (some (.ls (ts.set k x))))) : gSubL j t x ρ K := by
  unfold gSubL
  refine Eq.mp (congrArg (atLs ρ j) ?_) k
  funext ts0
  refine congrArg (t ρ) ?_
  funext c ρ1
  refine congrArg (asI (dat ρ1 c)) ?_
  funext i
  refine congrArg (atLs ρ1 j) ?_
  funext ts
  cases ixN ts.length i <;> rfl
theorem s_gNf {i : Nat} {x : T} {K : Rho → Prop} (k : K (ρ.set i (some x))) : gN false i x ρ K := k
theorem s_gNt {i : Nat} {x : T} {K : Rho → Prop} (k : K (ρ.set i (some (.d x.data)))) : gN true i x ρ K := k
theorem s_gTup {n : Nat} {g : DTGs} {x : T} {K : Rho → Prop} {ts : List T} (h : tupT x = some ts) (hn : ts.length = n) (k : g ts ρ K) : gTup' n g x ρ K := by
  unfold gTup'
  rw [h]
  exact ⟨hn, k⟩
theorem s_gNil {K : Rho → Prop} (k : K ρ) : gNil' [] ρ K := ⟨rfl, k⟩
theorem s_gCons {g : DTG} {gs : DTGs} {x : T} {r : List T} {K : Rho → Prop} (k : g x ρ fun ρ' => gs r ρ' K) : gCons' g gs (x :: r) ρ K := k
/-! values -/
theorem s_asI {o : Option PyData} {K : Int → Prop} {i : Int} (h : o = some (.int i)) (k : K i) : asI o K := by
  subst h
  exact k
theorem s_asB {o : Option PyData} {K : Bool → Prop} {i : Bool} (h : o = some (.bool i)) (k : K i) : asB o K := by
  subst h
  exact k
theorem s_asL {o : Option PyData} {K : List PyData → Prop} {i : List PyData} (h : o = some (.list i)) (k : K i) : asL o K := by
  subst h
  exact k
theorem s_asU {o : Option PyData} {K : List PyData → Prop} {i : List PyData} (h : o = some (.tuple i)) (k : K i) : asU o K := by
  subst h
  exact k
theorem s_asD {o : Option PyData} {K : PyData → Prop} {i : PyData} (h : o = some i) (k : K i) : asD o K := by
  subst h
  exact k
theorem s_asF {o : Option T} {K : List PyData → Prop} {x : T} {ds : List PyData} (h : o = some x) (h2 : flat x = some ds) (k : K ds) : asF o K := by
  subst h
  unfold asF
  rw [Option.bind_some, h2]
  exact k
theorem s_asM {o : Option T} {K : List PyData → Prop} {x : T} {ds : List PyData} (h : o = some x) (h2 : itms x = some ds) (k : K ds) : asM o K := by
  subst h
  unfold asM
  rw [Option.bind_some, h2]
  exact k
theorem s_asIs {o : Option T} {K : List Int → Prop} {x : T} {ns : List Int} (h : o = some x) (h2 : flat x = some (ns.map PyData.int)) (k : K ns) : asIs o K := by
  subst h
  unfold asIs
  rw [Option.bind_some, h2, Option.bind_some, intL_map]
  exact k
theorem s_asPs {o : Option T} {K : List Pr → Prop} {x : T} {ns : List Pr} (h : o = some x) (h2 : flat x = some (ns.map pairD)) (k : K ns) : asPs o K := by
  subst h
  unfold asPs
  rw [Option.bind_some, h2, Option.bind_some, pairsL_map]
  exact k
theorem s_own {j : Nat} {x : T} {K : T → Rho → Prop} (h : ρ[j]? = some (some x)) (k : K (.d x.data) (ρ.set j (some (.d x.data)))) : own ρ (.al j) K := by
  simp only [own, h]
  exact k
theorem s_ownT {x : T} {K : T → Rho → Prop} (k : K x ρ) : own ρ (.t x) K := k
theorem s_mov {j : Nat} {x : T} {K : T → Rho → Prop} (h : ρ[j]? = some (some x)) (k : K x (ρ.set j none)) : mov ρ (.al j) K := by
  simp only [mov, h]
  exact k
theorem s_movT {x : T} {K : T → Rho → Prop} (k : K x ρ) : mov ρ (.t x) K := k
theorem s_frz {c : C} {K : PyData → Rho → Prop} (k : own ρ c fun x ρ' => K x.data ρ') : frz ρ c K := k
theorem s_ownN {K : List T → Rho → Prop} (k : K [] ρ) : ownL ρ [] K := k
theorem s_ownC {c : C} {cs : List C} {K : List T → Rho → Prop} (k : own ρ c fun t ρ1 => ownL ρ1 cs fun ts ρ2 => K (t :: ts) ρ2) : ownL ρ (c :: cs) K := k
theorem s_atLs {j : Nat} {ts : List T} {K : List T → Prop} (h : ρ[j]? = some (some (.ls ts))) (k : K ts) : atLs ρ j K := by
  unfold atLs
  rw [h]
  exact k
theorem s_I {pre : Int → Int → Prop} {f : Int → Int → PyData} {a b : Option PyData} {K : T → Prop} {i j : Int} (h1 : a = some (.int i)) (h2 : b = some (.int j)) (hp : pre i j) (k : K (.d (f i j))) : gI pre f a b K := by
  subst h1 h2
  exact ⟨hp, k⟩
variable {a b : Option PyData} {K : T → Prop} {i j : Int}
theorem s_iAdd (h1 : a = some (.int i)) (h2 : b = some (.int j)) (k : K (.d (.int (i + j)))) : iAdd a b K := s_I h1 h2 trivial k
theorem s_iSub (h1 : a = some (.int i)) (h2 : b = some (.int j)) (k : K (.d (.int (i - j)))) : iSub a b K := s_I h1 h2 trivial k
theorem s_iMul (h1 : a = some (.int i)) (h2 : b = some (.int j)) (hp : CMul i j) (k : K (.d (.int (i * j)))) : iMul a b K := s_I h1 h2 hp k
theorem s_iMod (h1 : a = some (.int i)) (h2 : b = some (.int j)) (hp : 0 < j) (k : K (.d (.int (i % j)))) : iMod a b K := s_I h1 h2 hp k
theorem s_iDiv (h1 : a = some (.int i)) (h2 : b = some (.int j)) (hp : 0 < j ∧ j < 1073741824) (k : K (.d (.int (i / j)))) : iDiv a b K := s_I h1 h2 hp k
theorem s_iPow (h1 : a = some (.int i)) (h2 : b = some (.int j)) (hp : CPow i j) (k : K (.d (.int (i ^ j.toNat)))) : iPow a b K := s_I h1 h2 hp k
theorem s_iLt (h1 : a = some (.int i)) (h2 : b = some (.int j)) (k : K (.d (.bool (decide (i < j))))) : iLt a b K := s_I h1 h2 trivial k
theorem s_iLe (h1 : a = some (.int i)) (h2 : b = some (.int j)) (k : K (.d (.bool (decide (i ≤ j))))) : iLe a b K := s_I h1 h2 trivial k
theorem s_iGt (h1 : a = some (.int i)) (h2 : b = some (.int j)) (k : K (.d (.bool (decide (j < i))))) : iGt a b K := s_I h1 h2 trivial k
theorem s_iGe (h1 : a = some (.int i)) (h2 : b = some (.int j)) (k : K (.d (.bool (decide (j ≤ i))))) : iGe a b K := s_I h1 h2 trivial k
theorem s_iteD {p : Prop} [Decidable p] {A B : Prop} (h1 : p → A) (h2 : ¬ p → B) : if decide p = true then A else B := by
  by_cases h : p
  · rw [if_pos (decide_eq_true h)]
    exact h1 h
  · rw [if_neg (by simpa using h)]
    exact h2 h
theorem s_ite {b : Bool} {A B : Prop} (h1 : b = true → A) (h2 : b = false → B) : if b = true then A else B := by
  cases b with
  | true => exact h1 rfl
  | false => exact h2 rfl
theorem s_iteT {A B : Prop} (k : A) : if true = true then A else B := k
theorem s_iteF {A B : Prop} (k : B) : if false = true then A else B := k
theorem s_int {x : Int} {K : T → Prop} {o : Option T} (h : o = some (.d (.int x))) (k : K (.d (.int x))) : fInt o K := by
  subst h
  exact k
theorem s_intB {x : Bool} {K : T → Prop} {o : Option T} (h : o = some (.d (.bool x))) (k : K (.d (.int (if x then 1 else 0)))) : fInt o K := by
  subst h
  exact k
end
section
variable {ρ ρ1 ρ2 : Rho} {Q : C → Rho → Prop} {D : DEnds} {t u : DT} {da : DTA}
theorem s_callD {ms : List Bool} {wp : WP} {EX : Str → Rho → Prop} (k : da ρ fun cs ρ1 => callD ms wp EX ρ1 cs fun z ρ2 => Q (.t z) ρ2) : dCall ms wp EX da ρ Q := k
theorem s_call {ms : List Bool} {wp : WP} {EX : Str → Rho → Prop} {cs : List C} {K : T → Rho → Prop} {ts : List T} {ρ0 : Rho} (h1 : takes ms ρ cs = some (ρ2, ts)) (h2 : ins ms ρ2 cs ts = some ρ0)
    (k : wp ρ0 (fun z ρo => onSome (outsOf ms ρo) fun outs => z.pure = true ∧ T.pureL outs = true ∧ gives ms ρ2 cs outs (K z)) (fun x ρo => onSome (outsOf ms ρo) fun outs => T.pureL outs = true ∧ gives ms ρ2 cs outs (EX x))) : callD ms wp EX ρ cs K := by
  unfold callD
  rw [h1]
  simp only [h2]
  have e1 : ∀ (z : T), (fun ρo => onSome (outsOf ms ρo) fun outs => z.pure = true ∧ T.pureL outs = true ∧ gives ms ρ2 cs outs (K z)) = fun ρo => match outsOf ms ρo with
      | some outs => z.pure = true ∧ T.pureL outs = true ∧ gives ms ρ2 cs outs (K z)
      | none => False := fun z => by
    funext ρo
    cases outsOf ms ρo <;> rfl
  have e2 : (fun (x : Str) ρo => onSome (outsOf ms ρo) fun outs => T.pureL outs = true ∧ gives ms ρ2 cs outs (EX x)) = fun x ρo => match outsOf ms ρo with
      | some outs => T.pureL outs = true ∧ gives ms ρ2 cs outs (EX x)
      | none => False := by
    funext x ρo
    cases outsOf ms ρo <;> rfl
  rw [e2, show (fun (z : T) ρo => onSome (outsOf ms ρo) fun outs => z.pure = true ∧ T.pureL outs = true ∧ gives ms ρ2 cs outs (K z)) = _ from funext e1] at k
  exact k
/-! loops -/
theorem s_iL {t : DT} {R : List PyData → Rho → Prop} (k : t ρ fun c ρ1 => frz ρ1 c fun x ρ2 => asL (some x) fun ds => R ds ρ2) : iL t ρ R := k
theorem s_iU {t : DT} {R : List PyData → Rho → Prop} (k : t ρ fun c ρ1 => frz ρ1 c fun x ρ2 => asU (some x) fun ds => R ds ρ2) : iU t ρ R := k
theorem s_iR1 {t : DT} {R : List PyData → Rho → Prop} (k : t ρ fun c ρ1 => asI (dat ρ1 c) fun n => rgB n ∧ R (upI 0 n.toNat) ρ1) : iR1 t ρ R := k
theorem s_iR2 {R : List PyData → Rho → Prop} (k : t ρ fun c ρ1 => u ρ1 fun c2 ρ2 => asI (dat ρ2 c) fun i => asI (dat ρ2 c2) fun j => rgB i ∧ rgB j ∧ R (upI i (j - i).toNat) ρ2) : iR2 t u ρ R := k
theorem s_iE {t : DT} {R : List PyData → Rho → Prop} (k : t ρ fun c ρ1 => frz ρ1 c fun x ρ2 => asL (some x) fun ds => R (enumD ds) ρ2) : iE t ρ R := k
theorem s_iZ {R : List PyData → Rho → Prop} (k : t ρ fun c ρ1 => frz ρ1 c fun x ρ2 => u ρ2 fun c2 ρ3 => frz ρ3 c2 fun y ρ4 => asL (some x) fun xs => asL (some y) fun ys => R (zipD xs ys) ρ4) : iZ t u ρ R := k
theorem s_for {di : DTI} {dg : DTG} {db : DTS} (k : di ρ fun ds ρ1 => ∃ I : Nat → Rho → Prop, I 0 ρ1 ∧ (∀ i d ρ, ds[i]? = some d → I i ρ → dg (.d d) ρ fun ρ' => db { D with nx := I (i + 1), ct := I (i + 1), bk := D.nx } ρ') ∧ ∀ ρ, I ds.length ρ → D.nx ρ) : dFor di dg db D ρ := k
theorem s_lc {di : DTI} {dg : DTG} {tt : DTT} {d : DT} {vs : List Nat} (k : di ρ fun ds ρ1 => ds.length ≤ 16777216 ∧ ∃ I : Nat → List T → Rho → Prop, I 0 [] (wipeR ρ1 vs) ∧
  (∀ i x acc ρ, ds[i]? = some x → I i acc ρ → dg (.d x) ρ fun ρ' => tt ρ' fun b ρ2 => if b = true then d ρ2 fun c ρ3 => own ρ3 c fun t ρ4 => I (i + 1) (acc ++ [t]) (wipeR ρ4 vs) else I (i + 1) acc (wipeR ρ2 vs)) ∧
  ∀ acc ρ, I ds.length acc ρ → Q (.t (.ls acc)) (wipeR ρ vs)) : dLc di dg tt d vs ρ Q := k
theorem s_yes {K : Bool → Rho → Prop} (k : K true ρ) : dYes ρ K := k
end
/-! back from a call -/
def givesF : List Bool → Rho → List C → List T → Option Rho
  | [], ρ, [], [] => some ρ
  | false :: ms, ρ, _ :: cs, ts => givesF ms ρ cs ts
  | true :: ms, ρ, .al j :: cs, t :: ts => match ρ[j]? with
    | some none => givesF ms (ρ.set j (some t)) cs ts
    | _ => none
  | _, _, _, _ => none
theorem gives_of : ∀ {ms : List Bool} {ρ ρ' : Rho} {cs : List C} {ts : List T} {K : Rho → Prop}, givesF ms ρ cs ts = some ρ' → K ρ' → gives ms ρ cs ts K
  | [], ρ, ρ', [], [], K, h, k => by
    have e : ρ = ρ' := Option.some.inj h
    subst e
    exact k
  | false :: ms, ρ, ρ', _ :: cs, ts, K, h, k => gives_of (ms := ms) (cs := cs) (ts := ts) h k
  | true :: ms, ρ, ρ', .al j :: cs, t :: ts, K, h, k => by
    unfold givesF at h
    unfold gives
    split at h
    · rename_i e
      try simp only [e]
      exact gives_of (ms := ms) (cs := cs) (ts := ts) h k
    · cases h
  | true :: ms, ρ, ρ', .t _ :: cs, t :: ts, K, h, k => by simp [givesF] at h
  | true :: ms, ρ, ρ', _ :: cs, [], K, h, k => by simp [givesF] at h
  | true :: ms, ρ, ρ', [], ts, K, h, k => by simp [givesF] at h
  | false :: ms, ρ, ρ', [], ts, K, h, k => by simp [givesF] at h
  | [], ρ, ρ', _ :: _, ts, K, h, k => by simp [givesF] at h
  | [], ρ, ρ', [], _ :: _, K, h, k => by simp [givesF] at h
theorem s_back {ms : List Bool} {ρo ρ2 ρ' : Rho} {cs : List C} {outs : List T} {z : T} {K : Rho → Prop} (h1 : outsOf ms ρo = some outs) (h2 : z.pure = true) (h3 : T.pureL outs = true) (h4 : givesF ms ρ2 cs outs = some ρ') (k : K ρ') :
    onSome (outsOf ms ρo) fun outs => z.pure = true ∧ T.pureL outs = true ∧ gives ms ρ2 cs outs K := s_on h1 ⟨h2, h3, gives_of h4 k⟩
theorem pure_map {α : Type} {f : α → T} {xs : List α} (h : ∀ x ∈ xs, (f x).pure = true) : (T.ls (xs.map f)).pure = true := by
  simp only [T.pure, pureL_all, List.all_map, List.all_eq_true]
  exact h
theorem pure_dmap {α : Type} {f : α → PyData} {xs : List α} (h : ∀ x ∈ xs, imm (f x) = true) : (T.ls (xs.map fun x => T.d (f x))).pure = true := pure_map fun x m => by
  simp only [T.pure]
  exact h x m
theorem s_le {n : Nat} {A : Prop} (h : n ≤ 16777216) (k : A) : n ≤ 16777216 ∧ A := ⟨h, k⟩
@[irreducible] def Sd (p : Prop) : Prop := p
theorem sdI {p : Prop} (h : p) : Sd p := by
  unfold Sd
  exact h
theorem s_side {p A : Prop} (h : Sd p) (k : A) : p ∧ A := ⟨by
  unfold Sd at h
  exact h, k⟩
theorem w_opt {α : Type} {A : Prop} {B : α → Prop} {o : Option α} {x : α} (h : o = some x) (k : B x) : @Option.rec α (fun _ => Prop) A B o := by
  subst h
  exact k
theorem w_dec {b : Bool} {A : ¬ b = true → Prop} {B : b = true → Prop} (h1 : ∀ h, B h) (h2 : ∀ h, A h) : @Decidable.rec (b = true) (fun _ => Prop) A B (instDecidableEqBool b true) := by
  cases h : instDecidableEqBool b true with
  | isTrue q => exact h1 q
  | isFalse q => exact h2 q
theorem w_decD {p : Prop} [Decidable p] {A : ¬ decide p = true → Prop} {B : decide p = true → Prop} (h1 : ∀ (_ : p) h, B h) (h2 : ∀ (_ : ¬ p) h, A h) : @Decidable.rec (decide p = true) (fun _ => Prop) A B (instDecidableEqBool (decide p) true) :=
  w_dec (fun h => h1 (of_decide_eq_true h) h) (fun h => h2 (fun q => h (decide_eq_true q)) h)
theorem w_decT {b : Bool} {A : ¬ b = true → Prop} {B : b = true → Prop} (e : b = true) (h1 : ∀ h, B h) : @Decidable.rec (b = true) (fun _ => Prop) A B (instDecidableEqBool b true) := w_dec h1 fun q => absurd e q
theorem w_decF {b : Bool} {A : ¬ b = true → Prop} {B : b = true → Prop} (e : b = false) (h1 : ∀ h, A h) : @Decidable.rec (b = true) (fun _ => Prop) A B (instDecidableEqBool b true) := w_dec (fun q => by rw [e] at q; cases q) h1
abbrev di (i : Int) : T := .d (.int i)
abbrev hd (a b : Int) : T := .ls [.d (.int a), .d (.int b)]
abbrev P31 : Int := 2147483587
/-! more steps -/
section
variable {ρ : Rho} {Q : C → Rho → Prop} {a b : Option PyData} {K : T → Prop} {o : Option T} {t u : DT}
theorem s_eq {x y : PyData} (h1 : a = some x) (h2 : b = some y) (hc : cmpOk x y) (k : K (.d (.bool (PyData.eqv x y)))) : gEq a b K := by
  subst h1 h2
  exact ⟨hc, k⟩
theorem s_ne {x y : PyData} (h1 : a = some x) (h2 : b = some y) (hc : cmpOk x y) (k : K (.d (.bool (!PyData.eqv x y)))) : gNe a b K := by
  subst h1 h2
  exact ⟨hc, k⟩
theorem s_sum {x : T} {ns : List Int} (h : o = some x) (h2 : flat x = some (ns.map PyData.int)) (k : K (.d (.int ns.sum))) : fSum o K := s_asIs h h2 k
theorem s_sort {x : T} {ns : List Int} (h : o = some x) (h2 : flat x = some (ns.map PyData.int)) (k : ∀ ns' : List Int, ns'.Perm ns → ns'.Pairwise (· ≤ ·) → K (.ls (ns'.map fun n => T.d (.int n)))) : fSort o K := s_asIs h h2 k
theorem s_sortP {x : T} {ns : List Pr} (h : o = some x) (h2 : flat x = some (ns.map pairD)) (k : ∀ qs : List Pr, qs.Perm ns → qs.Pairwise lexle → K (.ls (qs.map fun p => T.d (pairD p)))) : fSortP o K := s_asPs h h2 k
def repR (ca : C) (n : Int) (K : List PyData → Prop) : Prop := ∃ ds, ca = .t (.ls (ds.map T.d)) ∧ -(2 ^ 63) ≤ n ∧ n < 2 ^ 63 ∧ ds.length * n.toNat ≤ 16777216 ∧ K ((List.replicate n.toNat ds).flatten)
theorem s_rep (k : t ρ fun ca ρ1 => u ρ1 fun cb ρ2 => asI (dat ρ2 cb) fun n => repR ca n fun es => Q (.t (.ls (es.map T.d))) ρ2) : dRep t u ρ Q := by
  unfold dRep
  refine Eq.mp (congrArg (t ρ) ?_) ((show t ρ (fun ca ρ1 => u ρ1 fun cb ρ2 => asI (dat ρ2 cb) fun n => repR ca n fun es => Q (.t (.ls (es.map T.d))) ρ2) from k))
  funext ca ρ1
  refine congrArg (u ρ1) ?_
  funext cb ρ2
  refine congrArg (asI (dat ρ2 cb)) ?_
  funext n
  apply propext
  constructor
  · rintro ⟨ds, rfl, h1, h2, h3, h4⟩
    simp only [leaves_d]
    exact ⟨h1, h2, h3, h4⟩
  · intro h
    split at h
    · rename_i ts
      split at h
      · rename_i ds e
        have e' := leaves_eq e
        subst e'
        exact ⟨ds, rfl, h⟩
      · exact h.elim
    · exact h.elim
end
theorem flat_d (ds : List PyData) : flat (.ls (ds.map T.d)) = some ds := leaves_d ds
theorem itms_d (ds : List PyData) : itms (.ls (ds.map T.d)) = some ds := leaves_d ds
theorem leaves_m {α : Type} (f : α → PyData) : ∀ xs : List α, leaves (xs.map fun x => T.d (f x)) = some (xs.map f)
  | [] => rfl
  | x :: xs => by simp [leaves, leaves_m f xs]
theorem flat_m {α : Type} (f : α → PyData) (xs : List α) : flat (.ls (xs.map fun x => T.d (f x))) = some (xs.map f) := leaves_m f xs
theorem itms_m {α : Type} (f : α → PyData) (xs : List α) : itms (.ls (xs.map fun x => T.d (f x))) = some (xs.map f) := leaves_m f xs
theorem cut_map {α : Type} (f : α → PyData) (xs : List α) (lo hi : Option Int) : ∃ n m, cutD (xs.map f) lo hi = ((xs.drop n).take m).map f := ⟨_, _, by
  unfold cutD
  rw [← List.map_drop, ← List.map_take]⟩
/-! ints as data -/
theorem lay_int (ns : List Int) : PyData.canLayAll0 (ns.map PyData.int) = true := by
  induction ns with
  | nil => rfl
  | cons n ns ih => simp [PyData.canLayAll0, PyData.canLay0, ih]
theorem dep_int (ns : List Int) : PyData.depthAll (ns.map PyData.int) ≤ 1 := by
  induction ns with
  | nil => simp [PyData.depthAll]
  | cons n ns ih =>
    simp only [List.map_cons, PyData.depthAll, PyData.depth]
    omega
theorem eqv_int : ∀ ns ms : List Int, PyData.eqvAll (ns.map PyData.int) (ms.map PyData.int) = decide (ns = ms)
  | [], [] => by simp [PyData.eqvAll]
  | [], _ :: _ => by simp [PyData.eqvAll]
  | _ :: _, [] => by simp [PyData.eqvAll]
  | n :: ns, m :: ms => by
    simp only [List.map_cons, PyData.eqvAll, eqv_int ns ms, PyData.eqv]
    by_cases h1 : n = m <;> by_cases h2 : ns = ms <;> simp [h1, h2]
theorem cmp_ints (ns ms : List Int) : cmpOk (.list (ns.map PyData.int)) (.list (ms.map PyData.int)) := ⟨by simp [PyData.canLay0, lay_int], by simp [PyData.canLay0, lay_int], by
  have h1 := dep_int ns
  simp only [PyData.depth]
  omega⟩
theorem eqv_ints (ns ms : List Int) : PyData.eqv (.list (ns.map PyData.int)) (.list (ms.map PyData.int)) = decide (ns = ms) := by
  simp only [PyData.eqv, eqv_int]
theorem cmp_i (i j : Int) : cmpOk (.int i) (.int j) := ⟨rfl, rfl, by simp [PyData.depth]⟩
abbrev dis (cs : List Int) : T := .ls (cs.map fun n => T.d (.int n))
abbrev dps (ps : List Pr) : T := .ls (ps.map fun p => T.d (pairD p))
theorem data_m {α : Type} (f : α → PyData) (xs : List α) : (T.ls (xs.map fun x => T.d (f x))).data = .list (xs.map f) := by
  simp only [data_ls, List.map_map]
  congr 1
theorem data_dm (xs : List PyData) : (T.ls (xs.map T.d)).data = .list xs := by
  simp only [data_ls, List.map_map]
  congr 1
  exact List.map_id' xs
theorem at_map {α : Type} (f : α → PyData) {xs : List α} {i : Int} (h0 : 0 ≤ i) (h1 : i < xs.length) : atI (xs.map f) i = some (f (xs[i.toNat]'(by omega))) := by
  refine atI_in h0 ?_
  rw [List.getElem?_map, List.getElem?_eq_getElem (by omega)]
  rfl
/-! two places changed over -/
def swp (l : List Int) (p : Pr) : List Int := (l.set p.1.toNat (l.getD p.2.toNat 0)).set p.2.toNat (l.getD p.1.toNat 0)
def beh (l : List Int) (ps : List Pr) : List Int := ps.foldl swp l
theorem swp_len (l : List Int) (p : Pr) : (swp l p).length = l.length := by simp [swp]
theorem beh_len : ∀ (ps : List Pr) (l : List Int), (beh l ps).length = l.length
  | [], l => rfl
  | p :: ps, l => by
    show (beh (swp l p) ps).length = _
    rw [beh_len ps, swp_len]
theorem beh_snoc (l : List Int) (ps : List Pr) (p : Pr) : beh l (ps ++ [p]) = swp (beh l ps) p := by simp [beh]
theorem dm_f {α : Type} (f : α → PyData) (xs : List α) : (xs.map f).map T.d = xs.map fun x => T.d (f x) := by rw [List.map_map]; rfl
theorem s_gConsH {ρ : Rho} {g : DTG} {gs : DTGs} {x : T} {l r : List T} {K : Rho → Prop} (h : l = x :: r) (k : g x ρ fun ρ' => gs r ρ' K) : gCons' g gs l ρ K := by
  subst h
  exact k
theorem s_gNilH {ρ : Rho} {l : List T} {K : Rho → Prop} (h : l = []) (k : K ρ) : gNil' l ρ K := ⟨h, k⟩
theorem dis_swp {l : List Int} {p : Pr} (h1 : p.1.toNat < l.length) (h2 : p.2.toNat < l.length) : dis (swp l p) = .ls (((l.map fun n => T.d (.int n)).set p.1.toNat (T.d (.int (l[p.2.toNat]'h2)))).set p.2.toNat (T.d (.int (l[p.1.toNat]'h1)))) := by
  unfold dis swp
  rw [List.map_set, List.map_set, List.getD_eq_getElem?_getD, List.getD_eq_getElem?_getD, List.getElem?_eq_getElem h1, List.getElem?_eq_getElem h2]
  rfl
def listT : T → Option (List T)
  | .ls ts => some ts
  | .tu ts => some ts
  | .d (.tuple ds) => some (ds.map T.d)
  | _ => none
def ixOR (ca : C) (K : List T → Prop) : Prop := ∃ x ts, ca = .t x ∧ listT x = some ts ∧ K ts
theorem s_ixOR {x : T} {ts : List T} {K : List T → Prop} (h : listT x = some ts) (k : K ts) : ixOR (.t x) K := ⟨x, ts, rfl, h, k⟩
theorem s_ixO {ρ : Rho} {t u : DT} {Q : C → Rho → Prop} (k : t ρ fun ca ρ1 => u ρ1 fun cb ρ2 => asI (dat ρ2 cb) fun i => ixOR ca fun ts => onSome (atI ts i) fun z => Q (.t z) ρ2) : dIxO t u ρ Q := by
  unfold dIxO
  refine Eq.mp (congrArg (t ρ) ?_) ((show t ρ (fun ca ρ1 => u ρ1 fun cb ρ2 => asI (dat ρ2 cb) fun i => ixOR ca fun ts => onSome (atI ts i) fun z => Q (.t z) ρ2) from k))
  funext ca ρ1
  refine congrArg (u ρ1) ?_
  funext cb ρ2
  refine congrArg (asI (dat ρ2 cb)) ?_
  funext i
  apply propext
  cases ca with
  | al j =>
    constructor
    · rintro ⟨x, ts, h, _⟩
      cases h
    · exact fun h => h.elim
  | t x =>
    have e : ixOR (.t x) (fun ts => onSome (atI ts i) fun z => Q (.t z) ρ2) ↔ ∃ ts, listT x = some ts ∧ onSome (atI ts i) fun z => Q (.t z) ρ2 := by
      constructor
      · rintro ⟨y, ts, h, h1, h2⟩
        cases h
        exact ⟨ts, h1, h2⟩
      · rintro ⟨ts, h1, h2⟩
        exact ⟨x, ts, rfl, h1, h2⟩
    rw [e]
    have on : ∀ o : Option T, onSome o (fun z => Q (.t z) ρ2) ↔ (match o with
      | some z => Q (.t z) ρ2
      | none => False) := fun o => by cases o <;> exact Iff.rfl
    cases x with
    | ls ts =>
      simp only [tupT, listT, Option.some.injEq, exists_eq_left']
      exact on _
    | tu ts =>
      simp only [tupT, listT, Option.some.injEq, exists_eq_left']
      exact on _
    | d y =>
      cases y <;> simp only [tupT, listT, Option.some.injEq, exists_eq_left', reduceCtorEq, false_and, exists_false]
      exact on _
    | dk _ => simp [tupT, listT]
    | dt _ => simp [tupT, listT]
theorem at_mem {α : Type} {xs : List α} {i : Int} (h0 : 0 ≤ i) (h1 : i < xs.length) : ∃ x, atI xs i = some x ∧ x ∈ xs := by
  have h : i.toNat < xs.length := by omega
  exact ⟨xs[i.toNat], atI_in h0 (List.getElem?_eq_getElem h), List.getElem_mem h⟩
theorem at_two {α : Type} {a b : α} {i : Int} (h0 : 0 ≤ i) (h1 : i < 2) : ∃ x, atI [a, b] i = some x ∧ (x = a ∨ x = b) := by
  obtain ⟨x, e, m⟩ := at_mem (xs := [a, b]) h0 h1
  exact ⟨x, e, by simpa using m⟩
theorem at_three {α : Type} {a b c : α} {i : Int} (h0 : 0 ≤ i) (h1 : i < 3) : ∃ x, atI [a, b, c] i = some x ∧ (x = a ∨ x = b ∨ x = c) := by
  obtain ⟨x, e, m⟩ := at_mem (xs := [a, b, c]) h0 h1
  exact ⟨x, e, by simpa using m⟩
/-! data of a kind -/
structure Kind {α : Type} [DecidableEq α] (f : α → PyData) (n : Nat) : Prop where
  lay : ∀ a, (f a).canLay0 = true
  dep : ∀ a, (f a).depth ≤ n
  eqv : ∀ a b, PyData.eqv (f a) (f b) = decide (a = b)
theorem layAll_map {α : Type} {f : α → PyData} (h : ∀ a, (f a).canLay0 = true) (xs : List α) : PyData.canLayAll0 (xs.map f) = true := by
  induction xs with
  | nil => rfl
  | cons x xs ih => simp [PyData.canLayAll0, h, ih]
theorem depAll_map {α : Type} {f : α → PyData} {n : Nat} (h : ∀ a, (f a).depth ≤ n) (xs : List α) : PyData.depthAll (xs.map f) ≤ n + 1 := by
  induction xs with
  | nil => simp [PyData.depthAll]
  | cons x xs ih =>
    simp only [List.map_cons, PyData.depthAll]
    have := h x
    omega
theorem eqvAll_map {α : Type} [DecidableEq α] {f : α → PyData} (h : ∀ a b, PyData.eqv (f a) (f b) = decide (a = b)) : ∀ xs ys : List α, PyData.eqvAll (xs.map f) (ys.map f) = decide (xs = ys)
  | [], [] => by simp [PyData.eqvAll]
  | [], _ :: _ => by simp [PyData.eqvAll]
  | _ :: _, [] => by simp [PyData.eqvAll]
  | n :: ns, m :: ms => by
    simp only [List.map_cons, PyData.eqvAll, eqvAll_map h ns ms, h]
    by_cases h1 : n = m <;> by_cases h2 : ns = ms <;> simp [h1, h2]
theorem kind_int : Kind PyData.int 0 := ⟨fun _ => rfl, fun _ => by simp [PyData.depth], fun a b => by
  simp only [PyData.eqv]
  by_cases h : a = b <;> simp [h]⟩
theorem Kind.list {α : Type} [DecidableEq α] {f : α → PyData} {n : Nat} (k : Kind f n) : Kind (fun xs : List α => PyData.list (xs.map f)) (n + 2) := ⟨fun xs => by simp [PyData.canLay0, layAll_map k.lay], fun xs => by
  have := depAll_map k.dep xs
  simp only [PyData.depth]
  omega, fun xs ys => by simp only [PyData.eqv, eqvAll_map k.eqv]⟩
theorem kind_pr : Kind pairD 2 := ⟨fun p => rfl, fun p => by simp [pairD, PyData.depth, PyData.depthAll], fun p q => by
  obtain ⟨a, b⟩ := p
  obtain ⟨c, d⟩ := q
  simp only [pairD, PyData.eqv, PyData.eqvAll, Prod.mk.injEq]
  by_cases h1 : a = c <;> by_cases h2 : b = d <;> simp [h1, h2]⟩
theorem Kind.cmp {α : Type} [DecidableEq α] {f : α → PyData} {n : Nat} (k : Kind f n) (h : n ≤ 64) (a b : α) : cmpOk (f a) (f b) := ⟨k.lay a, k.lay b, by
  have := k.dep a
  omega⟩
theorem kind_ints : Kind (fun ns : List Int => PyData.list (ns.map PyData.int)) 2 := kind_int.list
theorem kind_prs : Kind (fun ps : List Pr => PyData.list (ps.map pairD)) 4 := kind_pr.list
section
variable {ρ : Rho} {D : DEnds} {st su sa sb : DTS} {t : DT} {tg : DTG} {tt : DTT} {di' : DTI}
theorem s_seqC (P : Rho → Prop) (hk : ∀ ρ', P ρ' → su D ρ') (h : ∀ K : Rho → Prop, (∀ ρ', P ρ' → K ρ') → st { D with nx := K } ρ) : dSeq st su D ρ := h _ hk
theorem s_seqO (P : Rho → Prop) (hk : ∀ ρ', P ρ' → su D ρ') (h : ∀ (K : Rho → Prop) (rt : T → Rho → Prop) (bk ct : Rho → Prop), (∀ ρ', P ρ' → K ρ') → st ⟨K, rt, bk, ct⟩ ρ) : dSeq st su D ρ := h _ _ _ _ hk
theorem s_seq_asg (k : dAsg t tg { D with nx := su D } ρ) : dSeq (dAsg t tg) su D ρ := k
theorem s_seq_drop (k : dDrop t { D with nx := su D } ρ) : dSeq (dDrop t) su D ρ := k
theorem s_seq_ret (k : dRet t { D with nx := su D } ρ) : dSeq (dRet t) su D ρ := k
theorem s_seq_for (k : dFor di' tg st { D with nx := su D } ρ) : dSeq (dFor di' tg st) su D ρ := k
theorem s_seq_while (k : dWhile tt st { D with nx := su D } ρ) : dSeq (dWhile tt st) su D ρ := k
theorem s_seq_next (k : su D ρ) : dSeq dNext su D ρ := k
theorem s_seq_aug {i : Nat} {f : D2} (k : dAug i t f { D with nx := su D } ρ) : dSeq (dAug i t f) su D ρ := k
end
theorem s_forC {ρ : Rho} {D : DEnds} {di : DTI} {dg : DTG} {db : DTS} (P : List PyData → Rho → Prop)
    (h1 : ∀ ds ρ1, P ds ρ1 → ∃ I : Nat → Rho → Prop, I 0 ρ1 ∧ (∀ i d ρ, ds[i]? = some d → I i ρ → dg (.d d) ρ fun ρ' => db { D with nx := I (i + 1), ct := I (i + 1), bk := D.nx } ρ') ∧ ∀ ρ, I ds.length ρ → D.nx ρ)
    (h2 : ∀ R : List PyData → Rho → Prop, (∀ ds ρ1, P ds ρ1 → R ds ρ1) → di ρ R) : dFor di dg db D ρ := h2 _ h1
theorem sIx_some {n : Nat} {i : Int} (h : 0 ≤ i) (d : Nat) : HT.sIx n d (some i) = min i.toNat n := by
  obtain ⟨k, rfl⟩ := Int.eq_ofNat_of_zero_le h
  rw [HT.sIx_nat]
  simp
theorem cut_nat {α : Type} (f : α → PyData) {xs : List α} {i : Int} (h : 0 ≤ i) : cutD (xs.map f) (some i) none = (xs.drop i.toNat).map f ∧ cutD (xs.map f) none (some i) = (xs.take i.toNat).map f := by
  unfold cutD
  constructor
  · rw [sIx_some h, HT.sIx_none, List.length_map, ← List.map_drop, ← List.map_take]
    congr 1
    by_cases hi : i.toNat ≤ xs.length
    · rw [Nat.min_eq_left hi, List.take_of_length_le (by rw [List.length_drop]; omega)]
    · rw [Nat.min_eq_right (by omega), List.drop_of_length_le (by omega), List.drop_of_length_le (by omega)]
      simp
  · rw [sIx_some h, HT.sIx_none, List.length_map, List.drop_zero, ← List.map_take, Nat.sub_zero]
    congr 1
    by_cases hi : i.toNat ≤ xs.length
    · rw [Nat.min_eq_left hi]
    · rw [Nat.min_eq_right (by omega), List.take_of_length_le (Nat.le_refl _), List.take_of_length_le (by omega)]
theorem set_swap_perm {α : Type} : ∀ {l : List α} {i j : Nat} (hi : i < l.length) (hj : j < l.length), ((l.set i l[j]).set j l[i]).Perm l := fun {l i j} hi hj => List.set_set_perm hi hj
theorem swp_perm {l : List Int} {p : Pr} (h1 : p.1.toNat < l.length) (h2 : p.2.toNat < l.length) : (swp l p).Perm l := by
  unfold swp
  rw [List.getD_eq_getElem?_getD, List.getD_eq_getElem?_getD, List.getElem?_eq_getElem h1, List.getElem?_eq_getElem h2]
  exact set_swap_perm h1 h2
theorem ways_at (x0 x1 x2 x3 : Int) {kd : Int} (h0 : 0 ≤ kd) (h1 : kd < 6) : ∃ xs : List Int, atI (T.dataL [T.ls [di x0], T.ls [di x1], T.ls [di x2], T.ls [di x3], T.ls [], T.ls []]) kd = some (.list (xs.map .int)) ∧ xs.length ≤ 1 ∧ ∀ x ∈ xs, x = x0 ∨ x = x1 ∨ x = x2 ∨ x = x3 := by
  have one : ∀ y : Int, (y = x0 ∨ y = x1 ∨ y = x2 ∨ y = x3) → ∀ x ∈ [y], x = x0 ∨ x = x1 ∨ x = x2 ∨ x = x3 := fun y hy x hx => by
    rw [List.mem_singleton.mp hx]
    exact hy
  have : kd = 0 ∨ kd = 1 ∨ kd = 2 ∨ kd = 3 ∨ kd = 4 ∨ kd = 5 := by omega
  rcases this with rfl | rfl | rfl | rfl | rfl | rfl
  · exact ⟨[x0], by simp [T.dataL, T.data, atI, ixN], Nat.le_refl _, one _ (by simp)⟩
  · exact ⟨[x1], by simp [T.dataL, T.data, atI, ixN], Nat.le_refl _, one _ (by simp)⟩
  · exact ⟨[x2], by simp [T.dataL, T.data, atI, ixN], Nat.le_refl _, one _ (by simp)⟩
  · exact ⟨[x3], by simp [T.dataL, T.data, atI, ixN], Nat.le_refl _, one _ (by simp)⟩
  · exact ⟨[], by simp [T.dataL, T.data, atI, ixN], by decide, fun x hx => by cases hx⟩
  · exact ⟨[], by simp [T.dataL, T.data, atI, ixN], by decide, fun x hx => by cases hx⟩
theorem s_popAt {ρ : Rho} {j : Nat} {t : DT} {Q : C → Rho → Prop} (k : atLs ρ j fun _ => t ρ fun c ρ1 => asI (dat ρ1 c) fun i => atLs ρ1 j fun ts => ts.length ≤ 16777216 ∧ onSome (ixN ts.length i) fun k => onSome (ts[k]?) fun x => Q (.t x) (ρ1.set j (some (.ls (ts.eraseIdx k))))) : dPopAt j t ρ Q := by
  unfold dPopAt
  refine Eq.mp (congrArg (atLs ρ j) ?_) k
  funext ts0
  refine congrArg (t ρ) ?_
  funext c ρ1
  refine congrArg (asI (dat ρ1 c)) ?_
  funext i
  refine congrArg (atLs ρ1 j) ?_
  funext ts
  refine congrArg (And (ts.length ≤ 16777216)) ?_
  cases ixN ts.length i with
  | none => rfl
  | some k =>
    have e : ∀ o : Option T, (onSome o fun x => Q (.t x) (ρ1.set j (some (.ls (ts.eraseIdx k))))) = (match o with
      | some t => Q (.t t) (ρ1.set j (some (.ls (ts.eraseIdx k))))
      | none => False) := fun o => by cases o <;> rfl
    exact e (ts[k]?)
theorem s_while {ρ : Rho} {D : DEnds} {tt : DTT} {db : DTS} (k : ∃ (I : Rho → Prop) (μ : Rho → Nat), I ρ ∧ ∀ ρ, I ρ → tt ρ fun b ρ1 => if b = true then db { D with nx := fun ρ' => I ρ' ∧ μ ρ' < μ ρ, ct := fun ρ' => I ρ' ∧ μ ρ' < μ ρ, bk := D.nx } ρ1 else D.nx ρ1) : dWhile tt db D ρ := k
theorem dataL_m {α : Type} (f : α → PyData) (xs : List α) : T.dataL (xs.map fun x => T.d (f x)) = xs.map f := by
  rw [dataL_map, List.map_map]
  congr 1
def lenAt (ρ : Rho) (j : Nat) : Nat := match ρ[j]? with
  | some (some (.ls ts)) => ts.length
  | _ => 0
theorem two_of {ns : List Int} {x y : Int} (h : ns.Perm [x, y]) : ∃ u v, ns = [u, v] ∧ (u = x ∨ u = y) ∧ (v = x ∨ v = y) := by
  have hl := h.length_eq
  match ns, hl with
  | [u, v], _ => exact ⟨u, v, rfl, by simpa using h.mem_iff.mp (by simp : u ∈ [u, v]), by simpa using h.mem_iff.mp (by simp : v ∈ [u, v])⟩
theorem perm_range {cs : List Int} {m : Nat} (h : cs.Perm ((List.range m).map Int.ofNat)) : ∀ c ∈ cs, 0 ≤ c ∧ c < m := fun c hc => by
  obtain ⟨k, hk, rfl⟩ := List.mem_map.mp (h.mem_iff.mp hc)
  have := List.mem_range.mp hk
  exact ⟨Int.natCast_nonneg k, by simpa using this⟩
theorem dps_snoc (ps : List Pr) (p : Pr) : dps (ps ++ [p]) = .ls ((ps.map fun p => T.d (pairD p)) ++ [T.d (pairD p)]) := by
  unfold dps
  rw [List.map_append]
  rfl
end Dl
namespace Dl
open PySem PySem.Spec PyProof.Rows L2
theorem textFrom_le {B : Nat} : ∀ (ts : List Str) (k : Nat) (acc : Str), (∀ t ∈ ts, t.length ≤ B) → (textFrom k acc ts).length ≤ acc.length + ts.length * (B + 2)
  | [], k, acc, _ => by
    show acc.length ≤ _
    omega
  | t :: r, k, acc, h => by
    have ih := textFrom_le (B := B) r (k + 1) (acc ++ (if k > 0 then ", " else "" : String) ++ t) fun u hu => h u (List.mem_cons_of_mem _ hu)
    have ht := h t List.mem_cons_self
    have e : (textFrom k acc (t :: r)).length = (textFrom (k + 1) (acc ++ (if k > 0 then ", " else "" : String) ++ t) r).length := rfl
    have hs : (acc ++ (if k > 0 then ", " else "" : String) ++ t : Str).length ≤ acc.length + 2 + t.length := by
      rw [PySem.Str.length_append, PySem.Str.length_append]
      split
      · exact Nat.le_refl _
      · show acc.length + 0 + t.length ≤ _
        omega
    rw [e, List.length_cons, Nat.succ_mul]
    omega
theorem shown_ints {xs : List Int} (hz : xs.length ≤ 8000) (hb : ∀ x ∈ xs, x.natAbs.log2 < 1920) : reprOk (.list (xs.map PyData.int)) := by
  refine ⟨?_, by simp [PyData.canLay0, lay_int], ?_, ?_⟩
  · simp only [PyData.showable]
    clear hz
    induction xs with
    | nil => rfl
    | cons x xs ih =>
      simp only [List.map_cons, PyData.showableAll, PyData.showable, Bool.and_eq_true, decide_eq_true_eq]
      exact ⟨hb x List.mem_cons_self, ih fun y hy => hb y (List.mem_cons_of_mem _ hy)⟩
  · have := dep_int xs
    simp only [PyData.depth]
    omega
  · have e : PyData.shownAll (xs.map PyData.int) = xs.map fun x => PyData.shown (.int x) := by
      clear hz hb
      induction xs with
      | nil => rfl
      | cons x xs ih => simp [PyData.shownAll, ih]
    have h1 : ∀ t ∈ PyData.shownAll (xs.map PyData.int), t.length ≤ 1921 := fun t ht => by
      rw [e] at ht
      obtain ⟨x, hx, rfl⟩ := List.mem_map.mp ht
      simp only [PyData.shown]
      exact int_text_len_1921 (hb x hx)
    have h2 := textFrom_le (PyData.shownAll (xs.map PyData.int)) 0 "[" h1
    have h3 : (PyData.shownAll (xs.map PyData.int)).length = xs.length := by rw [e, List.length_map]
    simp only [PyData.shown]
    unfold listText
    rw [PySem.Str.length_append]
    rw [h3] at h2
    have h4 : (("[" : String) : Str).length = 1 := rfl
    have h5 : (("]" : String) : Str).length = 1 := rfl
    rw [h5]
    rw [h4] at h2
    omega
theorem s_isi0 {ρ : Rho} {t : DT} {S : String} {Q : C → Rho → Prop} (k : t ρ fun c ρ1 => asD (dat ρ1 c) fun x => tyD x ≠ "dict" ∧ ∀ r, kitB (tyD x) S = some r → Q (.t (.d (.bool r))) ρ1) : dIsi S t ρ Q := k
theorem s_isi {x : PyData} {S : String} {r : Bool} {K : Bool → Prop} (nd : tyD x ≠ "dict") (hr : kitB (tyD x) S = some r) (k : K r) : tyD x ≠ "dict" ∧ ∀ r, kitB (tyD x) S = some r → K r := ⟨nd, fun r' h => by
  rw [hr] at h
  cases h
  exact k⟩
theorem kb_ll : kitB "list" "list" = some true := by decide +kernel
def repR1 (o : Option PyData) (K : Str → Prop) : Prop := match o with
  | some (.list ds) => reprOk (.list ds) ∧ K (PyData.list ds).shown
  | some (.tuple ds) => reprOk (.tuple ds) ∧ K (PyData.tuple ds).shown
  | some (.int i) => i.natAbs.log2 < 1920 ∧ K (toString i)
  | _ => False
theorem s_repr {ρ : Rho} {t : DT} {Q : C → Rho → Prop} (k : t ρ fun c ρ1 => repR1 (dat ρ1 c) fun x => Q (.t (.d (.str x))) ρ1) : dRepr t ρ Q := by
  unfold dRepr
  refine Eq.mp (congrArg (t ρ) ?_) k
  funext c ρ1
  unfold repR1
  cases dat ρ1 c with
  | none => rfl
  | some d => cases d <;> rfl
theorem s_repL {o : Option PyData} {ds : List PyData} {K : Str → Prop} (h : o = some (.list ds)) (hr : reprOk (.list ds)) (k : K (PyData.list ds).shown) : repR1 o K := by
  subst h
  exact ⟨hr, k⟩
theorem cmp_b (x y : Bool) : cmpOk (.bool x) (.bool y) := ⟨by simp [PyData.canLay0], by simp [PyData.canLay0], by simp [PyData.depth]⟩
theorem s_eqT {a b : Option PyData} {x y : Str} {K : T → Prop} (h1 : a = some (.str x)) (h2 : b = some (.str y)) (k : K (.d (.bool (decide (x = y))))) : gEqT false a b K := by
  subst h1 h2
  exact k
theorem s_neT {a b : Option PyData} {x y : Str} {K : T → Prop} (h1 : a = some (.str x)) (h2 : b = some (.str y)) (k : K (.d (.bool (!decide (x = y))))) : gEqT true a b K := by
  subst h1 h2
  exact k
theorem dataL_d (l : List PyData) : T.dataL (l.map T.d) = l := by
  rw [dataL_map, List.map_map]
  exact List.map_id' l
theorem enumD_get {cs : List Int} {i : Nat} {d : PyData} (h : (enumD (cs.map PyData.int))[i]? = some d) : ∃ c, i < cs.length ∧ d = .tuple [.int (i : Nat), .int c] := by
  unfold enumD at h
  rw [List.getElem?_mapIdx, List.getElem?_map] at h
  cases e : cs[i]? with
  | none => simp [e] at h
  | some c =>
    simp [e] at h
    exact ⟨c, (List.getElem?_eq_some_iff.mp e).1, h.symm⟩
def okI (xs : List Int) : Prop := xs.length ≤ 8000 ∧ ∀ x ∈ xs, x.natAbs.log2 < 1920
abbrev heldT (hs : List (List Int)) : T := .ls (hs.map fun xs => T.ls [dis xs, dis xs])
theorem okI_range {cs : List Int} {m : Nat} (h : cs.Perm ((List.range m).map Int.ofNat)) (hm : m ≤ 8000) : okI cs := by
  have hl : cs.length = m := by rw [h.length_eq, List.length_map, List.length_range]
  refine ⟨by omega, fun x hx => ?_⟩
  obtain ⟨h1, h2⟩ := perm_range h x hx
  have h3 : x.natAbs < 2 ^ 13 := by omega
  by_cases hz : x.natAbs = 0
  · rw [hz]
    decide
  · have := (Nat.log2_lt hz).mpr h3
    omega
theorem s_cutE {ρ : Rho} {t : DT} {Q : C → Rho → Prop} (P : C → Rho → Prop) (hK : ∀ c ρ', P c ρ' → Q c ρ') (h : ∀ Q' : C → Rho → Prop, (∀ c ρ', P c ρ' → Q' c ρ') → t ρ Q') : t ρ Q := h Q hK
/-! looking without taking -/
section
variable {ρ : Rho} {Q : C → Rho → Prop} {d d2 : DTK} {dn : DTN} {dk : Rho → (List PyData → Prop) → Prop}
theorem s_callP {n : Nat} {wp : WP} {EX : Str → Rho → Prop} (k : dk ρ fun xs => xs.length = n ∧ wp (xs.map fun x => some (T.d x)) (fun t _ => t.pure = true ∧ Q (.t t) ρ) (fun x _ => EX x ρ)) : dCallP n wp EX dk ρ Q := k
theorem s_kCons {K : List PyData → Prop} (k : d ρ fun x => dk ρ fun xs => K (x :: xs)) : kCons d dk ρ K := k
theorem s_kNil {K : List PyData → Prop} (k : K []) : kNil ρ K := k
theorem s_kC {x : PyData} {K : PyData → Prop} (k : K x) : kC x ρ K := k
theorem s_kName {j : Nat} {x : T} {K : PyData → Prop} (h : ρ[j]? = some (some x)) (k : K x.data) : kName j ρ K := by
  unfold kName
  rw [h]
  exact k
theorem s_kN {K : PyData → Prop} (k : dn ρ fun _ _ _ u => K u.data) : kN dn ρ K := k
theorem s_kNeg {K : PyData → Prop} (k : d ρ fun x => asI (some x) fun i => K (.int (-i))) : kNeg d ρ K := k
theorem s_kOp {f : Int → Int → Int} {K : PyData → Prop} (k : d ρ fun x => d2 ρ fun y => asI (some x) fun i => asI (some y) fun j => K (.int (f i j))) : kOp f d d2 ρ K := k
theorem s_pk (k : d ρ fun x => imm x = true ∧ Q (.t (.d x)) ρ) : dPk d ρ Q := k
theorem s_okNone {K : Option Int → Prop} (k : K none) : okNone ρ K := k
theorem s_okSome {K : Option Int → Prop} (k : d ρ fun x => asI (some x) fun i => K (some i)) : okSome d ρ K := k
theorem s_nIx {j : Nat} {K : Nat → Nat → List T → T → Prop} (k : atLs ρ j fun ts => d ρ fun x => asI (some x) fun i => onSome (ixN ts.length i) fun k => onSome (ts[k]?) fun u => K j k ts u) : nIx j d ρ K := by
  unfold nIx
  refine Eq.mp (congrArg (atLs ρ j) ?_) k
  funext ts
  refine congrArg (d ρ) ?_
  funext x
  refine congrArg (asI (some x)) ?_
  funext i
  cases ixN ts.length i with
  | none => rfl
  | some k =>
    have e : ∀ o : Option T, (onSome o fun u => K j k ts u) = (match o with
      | some u => K j k ts u
      | none => False) := fun o => by cases o <;> rfl
    exact e (ts[k]?)
def lsR (u : T) (K : List T → Prop) : Prop := ∃ us, u = .ls us ∧ K us
theorem s_lsR {u : T} {us : List T} {K : List T → Prop} (h : u = .ls us) (k : K us) : lsR u K := ⟨us, h, k⟩
theorem lsR_eq {u : T} {K : List T → Prop} : lsR u K = (match u with
  | .ls us => K us
  | _ => False) := by
  apply propext
  cases u with
  | ls us => exact ⟨fun ⟨_, e, q⟩ => by cases e; exact q, fun q => ⟨us, rfl, q⟩⟩
  | d _ => exact ⟨fun ⟨_, e, _⟩ => (by cases e), fun q => q.elim⟩
  | tu _ => exact ⟨fun ⟨_, e, _⟩ => (by cases e), fun q => q.elim⟩
  | dk _ => exact ⟨fun ⟨_, e, _⟩ => (by cases e), fun q => q.elim⟩
  | dt _ => exact ⟨fun ⟨_, e, _⟩ => (by cases e), fun q => q.elim⟩
theorem s_clearN (k : dn ρ fun j k ts u => lsR u fun _ => Q (.t (.d .none)) (setN ρ j k ts [])) : dClearN dn ρ Q := by
  unfold dClearN
  refine Eq.mp (congrArg (dn ρ) ?_) k
  funext j k ts u
  rw [lsR_eq]
  all_goals (cases u <;> rfl)
theorem s_revN (k : dn ρ fun j k ts u => lsR u fun us => Q (.t (.d .none)) (setN ρ j k ts us.reverse)) : dRevN dn ρ Q := by
  unfold dRevN
  refine Eq.mp (congrArg (dn ρ) ?_) k
  funext j k ts u
  rw [lsR_eq]
  all_goals (cases u <;> rfl)
def appR (u : T) (x : PyData) (K : List T → Prop) : Prop := match u with
  | .ls us => imm x = true ∧ us.length < 16777216 ∧ K (us ++ [.d x])
  | _ => False
theorem s_appR {us : List T} {x : PyData} {K : List T → Prop} (h1 : imm x = true) (h2 : us.length < 16777216) (k : K (us ++ [.d x])) : appR (.ls us) x K := ⟨h1, h2, k⟩
theorem s_appN (k : dn ρ fun j k ts u => (∃ us, u = .ls us) ∧ d ρ fun x => appR u x fun us => Q (.t (.d .none)) (setN ρ j k ts us)) : dAppN dn d ρ Q := by
  unfold dAppN
  refine Eq.mp (congrArg (dn ρ) ?_) k
  funext j k ts u
  refine congrArg (And (∃ us, u = .ls us)) ?_
  refine congrArg (d ρ) ?_
  funext x
  cases u <;> rfl
theorem s_slN {l h : Rho → (Option Int → Prop) → Prop} (k : dn ρ fun _ _ _ u => l ρ fun lo => h ρ fun hi => onSome (flat u) fun ds => Q (.t (.ls ((cutD ds lo hi).map T.d))) ρ) : dSlN dn l h ρ Q := by
  unfold dSlN
  refine Eq.mp (congrArg (dn ρ) ?_) k
  funext j k ts u
  refine congrArg (l ρ) ?_
  funext lo
  refine congrArg (h ρ) ?_
  funext hi
  cases flat u <;> rfl
theorem s_isLs {us : List T} {A : Prop} (k : A) : (∃ us', T.ls us = T.ls us') ∧ A := ⟨⟨us, rfl⟩, k⟩
theorem s_leN {a b : Nat} {A : Prop} (h : a = b) (k : A) : a = b ∧ A := ⟨h, k⟩
end
theorem beh_perm : ∀ {ps : List Pr} {l : List Int}, (∀ p ∈ ps, 0 ≤ p.1 ∧ p.1 < l.length ∧ 0 ≤ p.2 ∧ p.2 < l.length) → (beh l ps).Perm l
  | [], l, _ => .refl _
  | p :: ps, l, h => by
    obtain ⟨h1, h2, h3, h4⟩ := h p List.mem_cons_self
    have e : (swp l p).Perm l := swp_perm (by omega) (by omega)
    refine (beh_perm (ps := ps) (l := swp l p) fun q hq => ?_).trans e
    have := h q (List.mem_cons_of_mem _ hq)
    rw [swp_len]
    exact this
theorem okI_perm {xs ys : List Int} (h : xs.Perm ys) (k : okI ys) : okI xs := ⟨by rw [h.length_eq]; exact k.1, fun x hx => k.2 x (h.mem_iff.mp hx)⟩
theorem w_eqK {α : Type} [DecidableEq α] {f : α → PyData} {n : Nat} (kk : Kind f n) {a b : α} {A : ¬ PyData.eqv (f a) (f b) = true → Prop} {B : PyData.eqv (f a) (f b) = true → Prop} (h1 : a = b → ∀ h, B h) (h2 : ¬ a = b → ∀ h, A h) :
    @Decidable.rec (PyData.eqv (f a) (f b) = true) (fun _ => Prop) A B (instDecidableEqBool (PyData.eqv (f a) (f b)) true) :=
  w_dec (fun h => h1 (by rw [kk.eqv] at h; exact of_decide_eq_true h) h) (fun h => h2 (fun q => h (by rw [kk.eqv]; exact decide_eq_true q)) h)
theorem w_eqI {a b : Int} {A : ¬ PyData.eqv (.int a) (.int b) = true → Prop} {B : PyData.eqv (.int a) (.int b) = true → Prop} (h1 : a = b → ∀ h, B h) (h2 : ¬ a = b → ∀ h, A h) :
    @Decidable.rec (PyData.eqv (.int a) (.int b) = true) (fun _ => Prop) A B (instDecidableEqBool (PyData.eqv (.int a) (.int b)) true) := w_eqK kind_int h1 h2
theorem w_eqB {x : Bool} {a b : PyData} {c : Bool} {A : ¬ PyData.eqv a b = true → Prop} {B : PyData.eqv a b = true → Prop} (e : PyData.eqv a b = c) (h1 : c = true → ∀ h, B h) (h2 : c = false → ∀ h, A h) :
    @Decidable.rec (PyData.eqv a b = true) (fun _ => Prop) A B (instDecidableEqBool (PyData.eqv a b) true) :=
  w_dec (fun h => h1 (by rw [← e]; exact h) h) (fun h => h2 (by cases c with | true => exact absurd e h | false => rfl) h)
theorem nd_list : ("list" : String) ≠ "dict" := by decide
theorem nd_int : ("int" : String) ≠ "dict" := by decide
theorem nd_bool : ("bool" : String) ≠ "dict" := by decide
theorem nd_tuple : ("tuple" : String) ≠ "dict" := by decide
theorem nd_str : ("str" : String) ≠ "dict" := by decide
theorem nd_none : ("NoneType" : String) ≠ "dict" := by decide
theorem kb_of {t S : String} {b : Bool} (e : kitB t S = some b) {K : Bool → Prop} (k : K b) : ∀ r, kitB t S = some r → K r := fun r h => by
  rw [e] at h
  cases h
  exact k
theorem kb1 {K : Bool → Prop} (k : K true) : ∀ r, kitB "list" "list" = some r → K r := kb_of (by decide +kernel) k
theorem kb2 {K : Bool → Prop} (k : K true) : ∀ r, kitB "bool" "bool" = some r → K r := kb_of (by decide +kernel) k
theorem kb3 {K : Bool → Prop} (k : K true) : ∀ r, kitB "int" "int" = some r → K r := kb_of (by decide +kernel) k
theorem kb4 {K : Bool → Prop} (k : K false) : ∀ r, kitB "int" "bool" = some r → K r := kb_of (by decide +kernel) k
theorem kb5 {K : Bool → Prop} (k : K true) : ∀ r, kitB "tuple" "tuple" = some r → K r := kb_of (by decide +kernel) k
theorem kb6 {K : Bool → Prop} (k : K false) : ∀ r, kitB "int" "list" = some r → K r := kb_of (by decide +kernel) k
theorem kb7 {K : Bool → Prop} (k : K false) : ∀ r, kitB "tuple" "list" = some r → K r := kb_of (by decide +kernel) k
theorem kb8 {K : Bool → Prop} (k : K false) : ∀ r, kitB "bool" "list" = some r → K r := kb_of (by decide +kernel) k
theorem shaped_int (i : Int) : SeqAt.shaped (.int i) = true := by simp [SeqAt.shaped, PyData.canLay0, PyData.depth]
theorem shaped_ints (ns : List Int) : SeqAt.shaped (.list (ns.map PyData.int)) = true := by
  unfold SeqAt.shaped
  rw [Bool.and_eq_true]
  exact ⟨kind_ints.lay ns, decide_eq_true (Nat.le_trans (kind_ints.dep ns) (by decide))⟩
theorem s_whileO {ρ : Rho} {D : DEnds} {tt : DTT} {db : DTS} (I : Rho → Prop) (μ : Rho → Nat) (h0 : I ρ) (h : ∀ ρ, I ρ → ∀ (K : Rho → Prop) (rt : T → Rho → Prop) (bk : Rho → Prop), (∀ ρ', I ρ' → μ ρ' < μ ρ → K ρ') → tt ρ fun b ρ1 => if b = true then db ⟨K, rt, bk, K⟩ ρ1 else D.nx ρ1) : dWhile tt db D ρ :=
  s_while ⟨I, μ, h0, fun ρ hI => h ρ hI _ _ _ fun ρ' h1 h2 => ⟨h1, h2⟩⟩
end Dl
set_option Elab.async false
set_option linter.all false
set_option maxRecDepth 100000
set_option maxHeartbeats 4000000
namespace Dl
open PySem PySem.Spec PyProof.Rows L2
def topS (i : Nat) : Stmt := PySem.Challenge.pw_swapweb_k25_no_row_of_small_webs.main.body.getD i (.Pass ⟨0, 0, 0, 0⟩)
abbrev s_swapped : Stmt := topS 10
theorem sc_swapped : FnScope ["order", "swap", "marks"] ["order", "swap"] (defScope s_swapped) := ⟨rfl, rfl, rfl, by decide +kernel, rfl, by decide +kernel, by decide +kernel⟩
def rd_swapped (EX : Str → Rho → Prop) : DTS := (dSeq (dAsg (dListOf (dName 0)) (gN false 2))
  (dSeq (dAsg (dTup (dCons (dIx (dName 2) (dIx (dName 1) (dC (.int 1)))) (dCons (dIx (dName 2) (dIx (dName 1) (dC (.int 0)))) dNil))) (gTup' 2 (gCons' (gSubL 2 (dIx (dName 1) (dC (.int 0)))) (gCons' (gSubL 2 (dIx (dName 1) (dC (.int 1)))) gNil'))))
  (dRet (dTupOf (dName 2)))))
theorem wpx_swapped : ∃ w : WP, w = wpOf [false, false] 3 rd_swapped := ⟨_, rfl⟩
@[irreducible] noncomputable def wp_swapped : WP := Classical.choose wpx_swapped
theorem wpe_swapped : wp_swapped = wpOf [false, false] 3 rd_swapped := by
  unfold wp_swapped
  exact Classical.choose_spec wpx_swapped
abbrev s_levels_from : Stmt := topS 11
theorem sc_levels_from : FnScope ["order", "web", "found", "met", "further", "here", "count", "swap", "there"] ["order", "web"] (defScope s_levels_from) := ⟨rfl, rfl, rfl, by decide +kernel, rfl, by decide +kernel, by decide +kernel⟩
def rd_levels_from (EX : Str → Rho → Prop) : DTS := (dSeq (dAsg (dLst (dCons (dFrz (dDispT (dTupOf (dName 0)) (dC (.int 1)))) dNil)) (gN false 2))
  (dSeq (dAsg (dDispT (dTupOf (dName 0)) (dC (.bool true))) (gN false 3))
  (dSeq (dWhile (dTst (dOp gNe0 (dIx (dName 2) (dNeg (dC (.int 1)))) dNewK)) (dSeq (dAsg dNewT (gN false 4))
  (dSeq (dFor (iIT (dIx (dName 2) (dNeg (dC (.int 1))))) (gTup' 2 (gCons' (gN true 5) (gCons' (gN true 6) gNil'))) (dFor (iL (dName 1)) (gN true 7) (dSeq (dAsg (dCall [false, false] wp_swapped (fun _ _ => False) (dCons (dName 5) (dCons (dName 7) dNil))) (gN true 8))
  (dIfS (dTst (dTIn true 3 (dName 8))) (dAsg (dOp iAdd (dTGetD 4 (dName 8) (dC (.int 0))) (dName 6)) (gSubT 4 (dName 8))) dNext))))
  (dSeq (dFor (iKT (dName 4)) (gN true 8) (dAsg (dC (.bool true)) (gSubT 3 (dName 8))))
  (dDrop (dApp 2 (dName 4)))))))
  (dRet (dSl (dName 2) oNone (oSome (dNeg (dC (.int 1)))))))))
theorem wpx_levels_from : ∃ w : WP, w = wpOf [false, false] 9 rd_levels_from := ⟨_, rfl⟩
@[irreducible] noncomputable def wp_levels_from : WP := Classical.choose wpx_levels_from
theorem wpe_levels_from : wp_levels_from = wpOf [false, false] 9 rd_levels_from := by
  unfold wp_levels_from
  exact Classical.choose_spec wpx_levels_from
abbrev s_fewest : Stmt := topS 12
theorem sc_fewest : FnScope ["one", "other", "web", "levels", "away", "many", "level", "order", "here", "row", "swap", "there"] ["one", "other", "web"] (defScope s_fewest) := ⟨rfl, rfl, rfl, by decide +kernel, rfl, by decide +kernel, by decide +kernel⟩
def rd_fewest (EX : Str → Rho → Prop) : DTS := (dSeq (dAsg (dCallF [false, false] wp_levels_from EX (dCons (dFz (dName 1)) (dCons (dFz (dName 2)) dNil))) (gN true 3))
  (dSeq (dAsg dNewT (gN false 4))
  (dSeq (dFor (iE (dName 3)) (gTup' 2 (gCons' (gN true 5) (gCons' (gN false 6) gNil'))) (dFor (iKT (dName 6)) (gN true 7) (dAsg (dName 5) (gSubT 4 (dName 7)))))
  (dSeq (dAsg (dTupOf (dName 0)) (gN true 8))
  (dSeq (dIfS (dTst (dTIn true 4 (dName 8))) (dRaise EX "NoRow") dNext)
  (dSeq (dAsg (dLst dNil) (gN false 9))
  (dSeq (dWhile (dTst (dOp iGt (dTGet 4 (dName 8)) (dC (.int 0)))) (dSeq (dFor (iL (dName 2)) (gN true 10) (dSeq (dAsg (dCall [false, false] wp_swapped EX (dCons (dName 8) (dCons (dName 10) dNil))) (gN true 11))
  (dIfS (dTst (dOp iLt (dTGet 4 (dName 11)) (dTGet 4 (dName 8)))) dBreak dNext)))
  (dSeq (dDrop (dApp 9 (dName 10)))
  (dAsg (dName 11) (gN true 8)))))
  (dRet (dName 9)))))))))
theorem wpx_fewest : ∃ w : WP, w = wpOf [false, false, false] 12 rd_fewest := ⟨_, rfl⟩
@[irreducible] noncomputable def wp_fewest : WP := Classical.choose wpx_fewest
theorem wpe_fewest : wp_fewest = wpOf [false, false, false] 12 rd_fewest := by
  unfold wp_fewest
  exact Classical.choose_spec wpx_fewest
abbrev s_many_fewest : Stmt := topS 13
theorem sc_many_fewest : FnScope ["one", "other", "web", "level"] ["one", "other", "web"] (defScope s_many_fewest) := ⟨rfl, rfl, rfl, by decide +kernel, rfl, by decide +kernel, by decide +kernel⟩
def rd_many_fewest (EX : Str → Rho → Prop) : DTS := (dRet (dC1 fSum (dLc (iL (dCallF [false, false] wp_levels_from EX (dCons (dFz (dName 0)) (dCons (dFz (dName 2)) dNil)))) (gN true 3) dYes (dTGetD 3 (dTupOf (dName 1)) (dC (.int 0))) [3])))
theorem wpx_many_fewest : ∃ w : WP, w = wpOf [false, false, false] 4 rd_many_fewest := ⟨_, rfl⟩
@[irreducible] noncomputable def wp_many_fewest : WP := Classical.choose wpx_many_fewest
theorem wpe_many_fewest : wp_many_fewest = wpOf [false, false, false] 4 rd_many_fewest := by
  unfold wp_many_fewest
  exact Classical.choose_spec wpx_many_fewest
abbrev s_by_swaps : Stmt := topS 14
theorem sc_by_swaps : FnScope ["order", "web", "level"] ["order", "web"] (defScope s_by_swaps) := ⟨rfl, rfl, rfl, by decide +kernel, rfl, by decide +kernel, by decide +kernel⟩
def rd_by_swaps (EX : Str → Rho → Prop) : DTS := (dRet (dLc (iL (dCallF [false, false] wp_levels_from EX (dCons (dFz (dName 0)) (dCons (dFz (dName 1)) dNil)))) (gN true 2) dYes (dLenD (dLeaf 2)) [2]))
theorem wpx_by_swaps : ∃ w : WP, w = wpOf [false, false] 3 rd_by_swaps := ⟨_, rfl⟩
@[irreducible] noncomputable def wp_by_swaps : WP := Classical.choose wpx_by_swaps
theorem wpe_by_swaps : wp_by_swaps = wpOf [false, false] 3 rd_by_swaps := by
  unfold wp_by_swaps
  exact Classical.choose_spec wpx_by_swaps
abbrev s__law_hand : Stmt := topS 16
theorem sc__law_hand : FnScope ["cell", "k", "digits"] ["cell", "k"] (defScope s__law_hand) := ⟨rfl, rfl, rfl, by decide +kernel, rfl, by decide +kernel, by decide +kernel⟩
def rd__law_hand (EX : Str → Rho → Prop) : DTS := (dSeq (dAsg (dC (.int 0)) (gN true 2))
  (dSeq (dIfS (dTst (dOp iGe (dName 0) (dOp iPow (dC (.int 10)) (dC (.int 18))))) (dAsg (dName 0) (gN true 2)) dNext)
  (dRet (dLst (dCons (dName 2) (dCons (dOp iMod (dOp iMul (dOp iAdd (dOp iAdd (dOp iMod (dName 0) (dC (.int 2147483563))) (dOp iMul (dC (.int 6271)) (dName 1))) (dC (.int 3))) (dC (.int 40014))) (dC (.int 2147483563))) dNil))))))
theorem wpx__law_hand : ∃ w : WP, w = wpOf [false, false] 3 rd__law_hand := ⟨_, rfl⟩
@[irreducible] noncomputable def wp__law_hand : WP := Classical.choose wpx__law_hand
theorem wpe__law_hand : wp__law_hand = wpOf [false, false] 3 rd__law_hand := by
  unfold wp__law_hand
  exact Classical.choose_spec wpx__law_hand
abbrev s__law_draw : Stmt := topS 17
theorem sc__law_draw : FnScope ["hand", "limit", "got"] ["hand", "limit"] (defScope s__law_draw) := ⟨rfl, rfl, rfl, by decide +kernel, rfl, by decide +kernel, by decide +kernel⟩
def rd__law_draw (EX : Str → Rho → Prop) : DTS := (dSeq (dIfS (dTst (dOp iGt (dIx (dName 0) (dC (.int 0))) (dC (.int 0)))) (dSeq (dAsg (dOp iMod (dIx (dName 0) (dC (.int 0))) (dName 1)) (gN true 2))
  (dSeq (dAsg (dOp iDiv (dIx (dName 0) (dC (.int 0))) (dName 1)) (gSubL 0 (dC (.int 0))))
  (dRet (dName 2)))) dNext)
  (dSeq (dAsg (dOp iMod (dOp iAdd (dOp iAdd (dOp iMul (dIx (dName 0) (dC (.int 1))) (dIx (dName 0) (dC (.int 1)))) (dOp iMul (dC (.int 52774)) (dIx (dName 0) (dC (.int 1))))) (dC (.int 40692))) (dC (.int 2147483563))) (gSubL 0 (dC (.int 1))))
  (dRet (dOp iMod (dOp iDiv (dIx (dName 0) (dC (.int 1))) (dC (.int 16))) (dName 1)))))
theorem wpx__law_draw : ∃ w : WP, w = wpOf [true, false] 3 rd__law_draw := ⟨_, rfl⟩
@[irreducible] noncomputable def wp__law_draw : WP := Classical.choose wpx__law_draw
theorem wpe__law_draw : wp__law_draw = wpOf [true, false] 3 rd__law_draw := by
  unfold wp__law_draw
  exact Classical.choose_spec wpx__law_draw
abbrev s__law_cells : Stmt := topS 18
theorem sc__law_cells : FnScope ["script", "many"] ["script", "many"] (defScope s__law_cells) := ⟨rfl, rfl, rfl, by decide +kernel, rfl, by decide +kernel, by decide +kernel⟩
def rd__law_cells (EX : Str → Rho → Prop) : DTS := (dRet (dListE (dCat (dSl (dName 0) oNone (oSome (dName 1))) (dRep (dLst (dCons (dC (.int 0)) dNil)) (dC1 fInt (dOp gEq (dName 0) (dLst dNil)))))))
theorem wpx__law_cells : ∃ w : WP, w = wpOf [false, false] 2 rd__law_cells := ⟨_, rfl⟩
@[irreducible] noncomputable def wp__law_cells : WP := Classical.choose wpx__law_cells
theorem wpe__law_cells : wp__law_cells = wpOf [false, false] 2 rd__law_cells := by
  unfold wp__law_cells
  exact Classical.choose_spec wpx__law_cells
abbrev s__law_shuffled : Stmt := topS 19
theorem sc__law_shuffled : FnScope ["hand", "many", "left", "k"] ["hand", "many"] (defScope s__law_shuffled) := ⟨rfl, rfl, rfl, by decide +kernel, rfl, by decide +kernel, by decide +kernel⟩
def rd__law_shuffled (EX : Str → Rho → Prop) : DTS := (dSeq (dAsg (dLR1 (dName 1)) (gN false 2))
  (dRet (dLc (iR1 (dName 1)) (gN true 3) dYes (dPopAt 2 (dCall [true, false] wp__law_draw (fun _ _ => False) (dCons (dName 0) (dCons (dLen (dName 2)) dNil)))) [3])))
theorem wpx__law_shuffled : ∃ w : WP, w = wpOf [true, false] 4 rd__law_shuffled := ⟨_, rfl⟩
@[irreducible] noncomputable def wp__law_shuffled : WP := Classical.choose wpx__law_shuffled
theorem wpe__law_shuffled : wp__law_shuffled = wpOf [true, false] 4 rd__law_shuffled := by
  unfold wp__law_shuffled
  exact Classical.choose_spec wpx__law_shuffled
abbrev s__law_two : Stmt := topS 20
theorem sc__law_two : FnScope ["hand", "many", "one", "way", "other", "turn", "a", "b"] ["hand", "many"] (defScope s__law_two) := ⟨rfl, rfl, rfl, by decide +kernel, rfl, by decide +kernel, by decide +kernel⟩
def rd__law_two (EX : Str → Rho → Prop) : DTS := (dSeq (dAsg (dCall [true, false] wp__law_shuffled EX (dCons (dName 0) (dCons (dName 1) dNil))) (gN true 2))
  (dSeq (dAsg (dCall [true, false] wp__law_draw EX (dCons (dName 0) (dCons (dC (.int 5)) dNil))) (gN true 3))
  (dSeq (dIfS (dOr (dTst (dOp iLt (dName 3) (dC (.int 2)))) (dTst (dOp gEq (dName 1) (dC (.int 0))))) (dRet (dLst (dCons (dName 2) (dCons (dCall [true, false] wp__law_shuffled EX (dCons (dName 0) (dCons (dName 1) dNil))) dNil)))) dNext)
  (dSeq (dIfS (dTst (dOp gEq (dName 3) (dC (.int 2)))) (dRet (dLst (dCons (dName 2) (dCons (dIxO (dLst (dCons (dListOf (dName 2)) (dCons (dRev (dName 2)) dNil))) (dCall [true, false] wp__law_draw EX (dCons (dName 0) (dCons (dC (.int 2)) dNil)))) dNil)))) dNext)
  (dSeq (dAsg (dListOf (dName 2)) (gN false 4))
  (dSeq (dFor (iR1 (dOp iAdd (dC (.int 1)) (dCall [true, false] wp__law_draw EX (dCons (dName 0) (dCons (dC (.int 4)) dNil))))) (gN true 5) (dSeq (dAsg (dCall [true, false] wp__law_draw EX (dCons (dName 0) (dCons (dName 1) dNil))) (gN true 6))
  (dSeq (dAsg (dCall [true, false] wp__law_draw EX (dCons (dName 0) (dCons (dName 1) dNil))) (gN true 7))
  (dAsg (dTup (dCons (dIx (dName 4) (dName 7)) (dCons (dIx (dName 4) (dName 6)) dNil))) (gTup' 2 (gCons' (gSubL 4 (dName 6)) (gCons' (gSubL 4 (dName 7)) gNil')))))))
  (dRet (dLst (dCons (dName 2) (dCons (dName 4) dNil))))))))))
theorem wpx__law_two : ∃ w : WP, w = wpOf [true, false] 8 rd__law_two := ⟨_, rfl⟩
@[irreducible] noncomputable def wp__law_two : WP := Classical.choose wpx__law_two
theorem wpe__law_two : wp__law_two = wpOf [true, false] 8 rd__law_two := by
  unfold wp__law_two
  exact Classical.choose_spec wpx__law_two
abbrev s__law_web : Stmt := topS 21
theorem sc__law_web : FnScope ["hand", "many", "every", "way", "share", "at", "b", "swap", "a"] ["hand", "many"] (defScope s__law_web) := ⟨rfl, rfl, rfl, by decide +kernel, rfl, by decide +kernel, by decide +kernel⟩
def rd__law_web (EX : Str → Rho → Prop) : DTS := (dSeq (dAsg (dLst dNil) (gN false 2))
  (dSeq (dFor (iR1 (dName 1)) (gN true 8) (dDrop (dExtT 2 (dLc (iR2 (dOp iAdd (dLeaf 8) (dC (.int 1))) (dName 1)) (gN true 6) dYes (dTup (dCons (dLeaf 8) (dCons (dLeaf 6) dNil))) [6]))))
  (dSeq (dAsg (dCall [true, false] wp__law_draw EX (dCons (dName 0) (dCons (dC (.int 7)) dNil))) (gN true 3))
  (dSeq (dIfS (dTst (dOp iLt (dName 3) (dC (.int 3)))) (dSeq (dAsg (dOp iAdd (dC (.int 1)) (dCall [true, false] wp__law_draw EX (dCons (dName 0) (dCons (dC (.int 8)) dNil)))) (gN true 4))
  (dRet (dSl (dLc (iL (dName 2)) (gN true 7) (dTst (dOp iLt (dCall [true, false] wp__law_draw (fun _ _ => False) (dCons (dName 0) (dCons (dC (.int 9)) dNil))) (dName 4))) (dLeaf 7) [7]) oNone (oSome (dC (.int 120)))))) dNext)
  (dSeq (dIfS (dTst (dOp gEq (dName 3) (dC (.int 3)))) (dRet (dSl (dIxO (dLst (dCons (dName 2) (dCons (dLc (iR1 (dOp iSub (dName 1) (dC (.int 1)))) (gN true 8) dYes (dTup (dCons (dLeaf 8) (dCons (dOp iAdd (dLeaf 8) (dC (.int 1))) dNil))) [8]) dNil))) (dCall [true, false] wp__law_draw EX (dCons (dName 0) (dCons (dC (.int 2)) dNil)))) oNone (oSome (dC (.int 120))))) dNext)
  (dSeq (dIfS (dTst (dOp gEq (dName 3) (dC (.int 4)))) (dRet (dLc (iR2 (dC (.int 1)) (dName 1)) (gN true 6) dYes (dTup (dCons (dC (.int 0)) (dCons (dLeaf 6) dNil))) [6])) dNext)
  (dSeq (dIfS (dTst (dOp gEq (dName 3) (dC (.int 5)))) (dRet (dC1 fSortP (dLc (iR2 (dC (.int 1)) (dName 1)) (gN true 6) dYes (dTup (dCons (dCall [true, false] wp__law_draw (fun _ _ => False) (dCons (dName 0) (dCons (dLeaf 6) dNil))) (dCons (dLeaf 6) dNil))) [6]))) dNext)
  (dSeq (dAsg (dCall [true, false] wp__law_draw EX (dCons (dName 0) (dCons (dOp iAdd (dName 1) (dC (.int 1))) dNil))) (gN true 5))
  (dRet (dSl (dLc (iL (dName 2)) (gN true 7) (dAnd (dTst (dOp gEq (dOp iLt (dIx (dLeaf 7) (dC (.int 0))) (dName 5)) (dOp iLt (dIx (dLeaf 7) (dC (.int 1))) (dName 5)))) (dTst (dOp iGt (dCall [true, false] wp__law_draw (fun _ _ => False) (dCons (dName 0) (dCons (dC (.int 3)) dNil))) (dC (.int 0))))) (dLeaf 7) [7]) oNone (oSome (dC (.int 120)))))))))))))
theorem wpx__law_web : ∃ w : WP, w = wpOf [true, false] 9 rd__law_web := ⟨_, rfl⟩
@[irreducible] noncomputable def wp__law_web : WP := Classical.choose wpx__law_web
theorem wpe__law_web : wp__law_web = wpOf [true, false] 9 rd__law_web := by
  unfold wp__law_web
  exact Classical.choose_spec wpx__law_web
abbrev s__law_parted : Stmt := topS 22
theorem sc__law_parted : FnScope ["many", "web", "found", "turn", "a", "b", "low"] ["many", "web"] (defScope s__law_parted) := ⟨rfl, rfl, rfl, by decide +kernel, rfl, by decide +kernel, by decide +kernel⟩
def rd__law_parted (EX : Str → Rho → Prop) : DTS := (dSeq (dAsg (dLR1 (dName 0)) (gN false 2))
  (dSeq (dFor (iR1 (dName 0)) (gN true 3) (dFor (iL (dName 1)) (gTup' 2 (gCons' (gN true 4) (gCons' (gN true 5) gNil'))) (dSeq (dAsg (dC2 (fun i j => if j < i then j else i) (dIx (dName 2) (dName 4)) (dIx (dName 2) (dName 5))) (gN true 6))
  (dSeq (dAsg (dName 6) (gSubL 2 (dName 4)))
  (dAsg (dName 6) (gSubL 2 (dName 5)))))))
  (dRet (dName 2))))
theorem wpx__law_parted : ∃ w : WP, w = wpOf [false, false] 7 rd__law_parted := ⟨_, rfl⟩
@[irreducible] noncomputable def wp__law_parted : WP := Classical.choose wpx__law_parted
theorem wpe__law_parted : wp__law_parted = wpOf [false, false] 7 rd__law_parted := by
  unfold wp__law_parted
  exact Classical.choose_spec wpx__law_parted
abbrev s__law_leads : Stmt := topS 23
theorem sc__law_leads : FnScope ["one", "other", "web", "low", "home", "place", "mark"] ["one", "other", "web"] (defScope s__law_leads) := ⟨rfl, rfl, rfl, by decide +kernel, rfl, by decide +kernel, by decide +kernel⟩
def rd__law_leads (EX : Str → Rho → Prop) : DTS := (dSeq (dAsg (dCall [false, false] wp__law_parted EX (dCons (dLen (dName 0)) (dCons (dName 2) dNil))) (gN true 3))
  (dSeq (dAsg (dDict (dLc (iE (dName 1)) (gTup' 2 (gCons' (gN true 5) (gCons' (gN true 6) gNil'))) dYes (dTup (dCons (dLeaf 6) (dCons (dIx (dName 3) (dLeaf 5)) dNil))) [5, 6])) (gN false 4))
  (dRet (dOp gEq (dLc (iE (dName 0)) (gTup' 2 (gCons' (gN true 5) (gCons' (gN true 6) gNil'))) (dTst (dOp gNe (dDGet 4 (dLeaf 6)) (dIx (dName 3) (dLeaf 5)))) (dLeaf 6) [5, 6]) (dLst dNil)))))
theorem wpx__law_leads : ∃ w : WP, w = wpOf [false, false, false] 7 rd__law_leads := ⟨_, rfl⟩
@[irreducible] noncomputable def wp__law_leads : WP := Classical.choose wpx__law_leads
theorem wpe__law_leads : wp__law_leads = wpOf [false, false, false] 7 rd__law_leads := by
  unfold wp__law_leads
  exact Classical.choose_spec wpx__law_leads
abbrev s__law_said : Stmt := topS 24
theorem sc__law_said : FnScope ["one", "other", "web", "caught", "e", "others"] ["one", "other", "web"] (defScope s__law_said) := ⟨rfl, rfl, rfl, by decide +kernel, rfl, by decide +kernel, by decide +kernel⟩
def rd__law_said (EX : Str → Rho → Prop) : DTS := (dSeq (dAsg (dC .none) (gN true 3))
  (dSeq (dTryKeep 4 3 ["NoRow"] (fun ex => (dDrop (dCall [false, false, false] wp_fewest ex (dCons (dName 0) (dCons (dName 1) (dCons (dName 2) dNil)))))))
  (dSeq (dIfS (dTst (dOp (gIsN false) (dName 3) (dC .none))) (dRet (dC (.int 0))) dNext)
  (dSeq (dAsg (dIsX [("NoRow", false)] (dName 3)) (gN true 5))
  (dRet (dIxO (dLst (dCons (dC (.int 2)) (dCons (dC (.int 1)) dNil))) (dC1 fInt (dAndV (dIsX [("NoRow", true)] (dName 3)) (dAndV (dIsX [("NoRow", true)] (dName 3)) (dNotV (dName 5)))))))))))
theorem wpx__law_said : ∃ w : WP, w = wpOf [false, false, false] 6 rd__law_said := ⟨_, rfl⟩
@[irreducible] noncomputable def wp__law_said : WP := Classical.choose wpx__law_said
theorem wpe__law_said : wp__law_said = wpOf [false, false, false] 6 rd__law_said := by
  unfold wp__law_said
  exact Classical.choose_spec wpx__law_said
abbrev s_law : Stmt := topS 25
theorem sc_law : FnScope ["script", "k", "cell", "hand", "many", "one", "other", "web", "part", "ahead", "some", "handed", "due", "swap"] ["script"] (defScope s_law) := ⟨rfl, rfl, rfl, by decide +kernel, rfl, by decide +kernel, by decide +kernel⟩
def rd_law (EX : Str → Rho → Prop) : DTS := (dSeq (dFor (iL (dCall [false, false] wp__law_cells EX (dCons (dName 0) (dCons (dC (.int 8)) dNil)))) (gTup' 2 (gCons' (gN true 1) (gCons' (gN true 2) gNil'))) (dSeq (dAsg (dCall [false, false] wp__law_hand EX (dCons (dName 2) (dCons (dName 1) dNil))) (gN false 3))
  (dSeq (dAsg (dOp iAdd (dC (.int 2)) (dCall [true, false] wp__law_draw EX (dCons (dName 3) (dCons (dC (.int 5)) dNil)))) (gN true 4))
  (dSeq (dAsg (dCallF [true, false] wp__law_two EX (dCons (dName 3) (dCons (dFz (dName 4)) dNil))) (gUnl' 2 (gCons' (gN true 5) (gCons' (gN true 6) gNil'))))
  (dSeq (dAsg (dCall [true, false] wp__law_web EX (dCons (dName 3) (dCons (dName 4) dNil))) (gN true 7))
  (dSeq (dAsg (dLc (iL (dName 7)) (gN true 13) (dTst (dOp gEq (dCall [true, false] wp__law_draw (fun _ _ => False) (dCons (dName 3) (dCons (dC (.int 2)) dNil))) (dC (.int 0)))) (dLeaf 13) [13]) (gN true 8))
  (dSeq (dAsg (dCall [false, false] wp_by_swaps EX (dCons (dName 5) (dCons (dName 8) dNil))) (gN true 9))
  (dSeq (dFor (iL (dLst (dCons (dName 7) (dCons (dName 8) (dCons (dLst dNil) dNil))))) (gN true 10) (dSeq (dAsg (dLst (dCons (dListOf (dName 5)) (dCons (dListOf (dName 6)) (dCons (dListOf (dName 10)) dNil)))) (gN true 11))
  (dSeq (dAsg (dC1 fInt (dNotV (dCall [false, false, false] wp__law_leads EX (dCons (dName 5) (dCons (dName 6) (dCons (dName 10) dNil)))))) (gN true 12))
  (dSeq (dIfS (dOr (dTst (dOp gNe (dCall [false, false, false] wp__law_said EX (dCons (dIx (dName 11) (dC (.int 0))) (dCons (dIx (dName 11) (dC (.int 1))) (dCons (dIx (dName 11) (dC (.int 2))) dNil)))) (dName 12))) (dTst (dOp gNe (dName 11) (dLst (dCons (dName 5) (dCons (dName 6) (dCons (dName 10) dNil))))))) (dRet (dC (.bool false))) dNext)
  (dIfS (dTst (dOp gNe (dOp gEq (dCall [false, false, false] wp_many_fewest EX (dCons (dName 5) (dCons (dName 6) (dCons (dName 10) dNil)))) (dC (.int 0))) (dOp gEq (dName 12) (dC (.int 1))))) (dRet (dC (.bool false))) dNext)))))
  (dIfS (dTst (dOp gNe (dCall [false, false] wp_by_swaps EX (dCons (dName 5) (dCons (dName 8) dNil))) (dName 9))) (dRet (dC (.bool false))) dNext)))))))))
  (dRet (dAndV (dOp gEq (dCall [false, false, false] wp__law_said EX (dCons (dLst (dCons (dC (.int 0)) (dCons (dC (.int 1)) dNil))) (dCons (dLst (dCons (dC (.int 1)) (dCons (dC (.int 0)) dNil))) (dCons (dLst dNil) dNil)))) (dC (.int 1))) (dOp gEq (dCall [false, false, false] wp__law_said EX (dCons (dLst (dCons (dC (.int 0)) (dCons (dC (.int 1)) dNil))) (dCons (dLst (dCons (dC (.int 0)) (dCons (dC (.int 1)) dNil))) (dCons (dLst dNil) dNil)))) (dC (.int 0))))))
theorem wpx_law : ∃ w : WP, w = wpOf [false] 14 rd_law := ⟨_, rfl⟩
@[irreducible] noncomputable def wp_law : WP := Classical.choose wpx_law
theorem wpe_law : wp_law = wpOf [false] 14 rd_law := by
  unfold wp_law
  exact Classical.choose_spec wpx_law
theorem bd_swapped (kV dc pm : Value) (an : Option Addr) (cd ct : Value) (us : List Value) (hl : us.length = ["order", "swap"].length) : bindArgs (PySem.W.fnOf "swapped" "swapped" (defArgs s_swapped) (defBody s_swapped) (defScope s_swapped) .none kV dc pm an cd ct) ⟨us, []⟩ = pure (List.zip (["order", "swap"] : List Str) us) :=
  match us, hl with | [_, _], _ => rfl
theorem bd_levels_from (kV dc pm : Value) (an : Option Addr) (cd ct : Value) (us : List Value) (hl : us.length = ["order", "web"].length) : bindArgs (PySem.W.fnOf "levels_from" "levels_from" (defArgs s_levels_from) (defBody s_levels_from) (defScope s_levels_from) .none kV dc pm an cd ct) ⟨us, []⟩ = pure (List.zip (["order", "web"] : List Str) us) :=
  match us, hl with | [_, _], _ => rfl
theorem bd_fewest (kV dc pm : Value) (an : Option Addr) (cd ct : Value) (us : List Value) (hl : us.length = ["one", "other", "web"].length) : bindArgs (PySem.W.fnOf "fewest" "fewest" (defArgs s_fewest) (defBody s_fewest) (defScope s_fewest) .none kV dc pm an cd ct) ⟨us, []⟩ = pure (List.zip (["one", "other", "web"] : List Str) us) :=
  match us, hl with | [_, _, _], _ => rfl
theorem bd_many_fewest (kV dc pm : Value) (an : Option Addr) (cd ct : Value) (us : List Value) (hl : us.length = ["one", "other", "web"].length) : bindArgs (PySem.W.fnOf "many_fewest" "many_fewest" (defArgs s_many_fewest) (defBody s_many_fewest) (defScope s_many_fewest) .none kV dc pm an cd ct) ⟨us, []⟩ = pure (List.zip (["one", "other", "web"] : List Str) us) :=
  match us, hl with | [_, _, _], _ => rfl
theorem bd_by_swaps (kV dc pm : Value) (an : Option Addr) (cd ct : Value) (us : List Value) (hl : us.length = ["order", "web"].length) : bindArgs (PySem.W.fnOf "by_swaps" "by_swaps" (defArgs s_by_swaps) (defBody s_by_swaps) (defScope s_by_swaps) .none kV dc pm an cd ct) ⟨us, []⟩ = pure (List.zip (["order", "web"] : List Str) us) :=
  match us, hl with | [_, _], _ => rfl
theorem bd__law_hand (kV dc pm : Value) (an : Option Addr) (cd ct : Value) (us : List Value) (hl : us.length = ["cell", "k"].length) : bindArgs (PySem.W.fnOf "_law_hand" "_law_hand" (defArgs s__law_hand) (defBody s__law_hand) (defScope s__law_hand) .none kV dc pm an cd ct) ⟨us, []⟩ = pure (List.zip (["cell", "k"] : List Str) us) :=
  match us, hl with | [_, _], _ => rfl
theorem bd__law_draw (kV dc pm : Value) (an : Option Addr) (cd ct : Value) (us : List Value) (hl : us.length = ["hand", "limit"].length) : bindArgs (PySem.W.fnOf "_law_draw" "_law_draw" (defArgs s__law_draw) (defBody s__law_draw) (defScope s__law_draw) .none kV dc pm an cd ct) ⟨us, []⟩ = pure (List.zip (["hand", "limit"] : List Str) us) :=
  match us, hl with | [_, _], _ => rfl
theorem bd__law_cells (kV dc pm : Value) (an : Option Addr) (cd ct : Value) (us : List Value) (hl : us.length = ["script", "many"].length) : bindArgs (PySem.W.fnOf "_law_cells" "_law_cells" (defArgs s__law_cells) (defBody s__law_cells) (defScope s__law_cells) .none kV dc pm an cd ct) ⟨us, []⟩ = pure (List.zip (["script", "many"] : List Str) us) :=
  match us, hl with | [_, _], _ => rfl
theorem bd__law_shuffled (kV dc pm : Value) (an : Option Addr) (cd ct : Value) (us : List Value) (hl : us.length = ["hand", "many"].length) : bindArgs (PySem.W.fnOf "_law_shuffled" "_law_shuffled" (defArgs s__law_shuffled) (defBody s__law_shuffled) (defScope s__law_shuffled) .none kV dc pm an cd ct) ⟨us, []⟩ = pure (List.zip (["hand", "many"] : List Str) us) :=
  match us, hl with | [_, _], _ => rfl
theorem bd__law_two (kV dc pm : Value) (an : Option Addr) (cd ct : Value) (us : List Value) (hl : us.length = ["hand", "many"].length) : bindArgs (PySem.W.fnOf "_law_two" "_law_two" (defArgs s__law_two) (defBody s__law_two) (defScope s__law_two) .none kV dc pm an cd ct) ⟨us, []⟩ = pure (List.zip (["hand", "many"] : List Str) us) :=
  match us, hl with | [_, _], _ => rfl
theorem bd__law_web (kV dc pm : Value) (an : Option Addr) (cd ct : Value) (us : List Value) (hl : us.length = ["hand", "many"].length) : bindArgs (PySem.W.fnOf "_law_web" "_law_web" (defArgs s__law_web) (defBody s__law_web) (defScope s__law_web) .none kV dc pm an cd ct) ⟨us, []⟩ = pure (List.zip (["hand", "many"] : List Str) us) :=
  match us, hl with | [_, _], _ => rfl
theorem bd__law_parted (kV dc pm : Value) (an : Option Addr) (cd ct : Value) (us : List Value) (hl : us.length = ["many", "web"].length) : bindArgs (PySem.W.fnOf "_law_parted" "_law_parted" (defArgs s__law_parted) (defBody s__law_parted) (defScope s__law_parted) .none kV dc pm an cd ct) ⟨us, []⟩ = pure (List.zip (["many", "web"] : List Str) us) :=
  match us, hl with | [_, _], _ => rfl
theorem bd__law_leads (kV dc pm : Value) (an : Option Addr) (cd ct : Value) (us : List Value) (hl : us.length = ["one", "other", "web"].length) : bindArgs (PySem.W.fnOf "_law_leads" "_law_leads" (defArgs s__law_leads) (defBody s__law_leads) (defScope s__law_leads) .none kV dc pm an cd ct) ⟨us, []⟩ = pure (List.zip (["one", "other", "web"] : List Str) us) :=
  match us, hl with | [_, _, _], _ => rfl
theorem bd__law_said (kV dc pm : Value) (an : Option Addr) (cd ct : Value) (us : List Value) (hl : us.length = ["one", "other", "web"].length) : bindArgs (PySem.W.fnOf "_law_said" "_law_said" (defArgs s__law_said) (defBody s__law_said) (defScope s__law_said) .none kV dc pm an cd ct) ⟨us, []⟩ = pure (List.zip (["one", "other", "web"] : List Str) us) :=
  match us, hl with | [_, _, _], _ => rfl
theorem bd_law (kV dc pm : Value) (an : Option Addr) (cd ct : Value) (us : List Value) (hl : us.length = ["script"].length) : bindArgs (PySem.W.fnOf "law" "law" (defArgs s_law) (defBody s_law) (defScope s_law) .none kV dc pm an cd ct) ⟨us, []⟩ = pure (List.zip (["script"] : List Str) us) :=
  match us, hl with | [_], _ => rfl
structure Txt (K : PySem.W.Frag) (mg : Str → Option Value) : Prop where
  f_swapped : FT K mg "swapped" s_swapped ["order", "swap"]
  f_levels_from : FT K mg "levels_from" s_levels_from ["order", "web"]
  f_fewest : FT K mg "fewest" s_fewest ["one", "other", "web"]
  f_many_fewest : FT K mg "many_fewest" s_many_fewest ["one", "other", "web"]
  f_by_swaps : FT K mg "by_swaps" s_by_swaps ["order", "web"]
  f__law_hand : FT K mg "_law_hand" s__law_hand ["cell", "k"]
  f__law_draw : FT K mg "_law_draw" s__law_draw ["hand", "limit"]
  f__law_cells : FT K mg "_law_cells" s__law_cells ["script", "many"]
  f__law_shuffled : FT K mg "_law_shuffled" s__law_shuffled ["hand", "many"]
  f__law_two : FT K mg "_law_two" s__law_two ["hand", "many"]
  f__law_web : FT K mg "_law_web" s__law_web ["hand", "many"]
  f__law_parted : FT K mg "_law_parted" s__law_parted ["many", "web"]
  f__law_leads : FT K mg "_law_leads" s__law_leads ["one", "other", "web"]
  f__law_said : FT K mg "_law_said" s__law_said ["one", "other", "web"]
  f_law : FT K mg "law" s_law ["script"]
  b_ValueError : mg "ValueError" = none
  b_dict : mg "dict" = none
  b_enumerate : mg "enumerate" = none
  b_int : mg "int" = none
  b_isinstance : mg "isinstance" = none
  b_len : mg "len" = none
  b_list : mg "list" = none
  b_min : mg "min" = none
  b_range : mg "range" = none
  b_sorted : mg "sorted" = none
  b_sum : mg "sum" = none
  b_tuple : mg "tuple" = none
  x_NoRow : ExcT K mg "NoRow"
  n_SwapError : ExnT K mg "SwapError" ["NoRow"]
  yo_NoRow : IsXT K mg "NoRow" [("NoRow", true)]
  yt_NoCommand_NoMark_NoOrder_NoPlace_NoSwap_NoText : IsXM K mg ["NoCommand", "NoMark", "NoOrder", "NoPlace", "NoSwap", "NoText"] [("NoRow", false)]
  yb_ValueError : IsXB K "ValueError" [("NoRow", true)]
section
variable {P : Program} {w : World} {K : PySem.W.Frag} {mg : Str → Option Value} {base : Heap}
theorem D_swapped (T : Txt K mg) : Def P w K mg base 1 "swapped" ["order", "swap"] [false, false] wp_swapped := by
  rw [wpe_swapped]
  exact def_mk (N := ["order", "swap", "marks"]) 3 (ms := [false, false]) T.f_swapped sc_swapped rfl fun f cdv A outer s H E hr EX => ⟨_, by
  have S := sc_swapped
  exact (dss_cons (ds_asg (de_listOf (by rfl) T.b_list (by decide +kernel) (de_name 0)) (dg_name 2 false S.nd))
    (dss_cons (ds_asg (de_tup (da_cons (de_ix (de_name 2) (de_ix (de_name 1) de_int)) (da_cons (de_ix (de_name 2) (de_ix (de_name 1) de_int)) da_nil))) (dg_tup rfl (dgs_cons (dg_sub 2 (de_ix (de_name 1) de_int)) (dgs_cons (dg_sub 2 (de_ix (de_name 1) de_int)) dgs_nil))))
    (dss_one (ds_ret (de_tupOf (by rfl) T.b_tuple (de_name 2))))))⟩
theorem D_levels_from (T : Txt K mg) : Def P w K mg base 2 "levels_from" ["order", "web"] [false, false] wp_levels_from := by
  rw [wpe_levels_from]
  exact def_mk (N := ["order", "web", "found", "met", "further", "here", "count", "swap", "there"]) 9 (ms := [false, false]) T.f_levels_from sc_levels_from rfl fun f cdv A outer s H E hr EX => ⟨_, by
  have S := sc_levels_from
  exact (dss_cons (ds_asg (de_lst (da_cons (de_frz (de_dispT (Nat.lt_of_succ_lt (unit1 hr)) (de_tupOf (by rfl) T.b_tuple (de_name 0)) de_int)) da_nil)) (dg_name 2 false S.nd))
    (dss_cons (ds_asg (de_dispT (Nat.lt_of_succ_lt (unit1 hr)) (de_tupOf (by rfl) T.b_tuple (de_name 0)) de_bl) (dg_name 3 false S.nd))
    (dss_cons (ds_while (passes_of rfl) (db_cmp (dc_ne0 (unit1 hr)) (de_ix (de_name 2) (de_neg de_int)) de_dnew (nomark _)) (dss_cons (ds_asg de_dnewT (dg_name 4 false S.nd))
    (dss_cons (ds_forIT (passes_of rfl) rfl (de_ix (de_name 2) (de_neg de_int)) (dg_tup rfl (dgs_cons (dg_name 5 true S.nd) (dgs_cons (dg_name 6 true S.nd) dgs_nil))) (dss_one (ds_for (passes_of rfl) rfl (di_list (de_name 1)) (dg_name 7 true S.nd) (dss_cons (ds_asg (de_callD (D_swapped T) (hr.mono (by decide)) (by rfl) takes0 (da_cons (de_name 5) (da_cons (de_name 7) da_nil))) (dg_name 8 true S.nd))
    (dss_one (ds_if (db_tnotin 3 (unit1 hr) (de_name 8) (by with_unfolding_all rfl)) (dss_one (ds_asg (de_add (de_tgetD 4 (unit1 hr) (de_name 8) de_int) (de_name 6)) (dg_subT 4 (unit1 hr) (de_name 8)))) dss_nil))))))
    (dss_cons (ds_forKT (passes_of rfl) rfl (de_name 4) (dg_name 8 true S.nd) (dss_one (ds_asg de_bl (dg_subT 3 (unit1 hr) (de_name 8)))))
    (dss_one (ds_expr (de_append 2 (de_name 4))))))))
    (dss_one (ds_ret (de_slice (de_name 2) do_none (do_some (de_neg de_int))))))))⟩
theorem D_fewest (T : Txt K mg) : Def P w K mg base 3 "fewest" ["one", "other", "web"] [false, false, false] wp_fewest := by
  rw [wpe_fewest]
  exact def_mk (N := ["one", "other", "web", "levels", "away", "many", "level", "order", "here", "row", "swap", "there"]) 12 (ms := [false, false, false]) T.f_fewest sc_fewest rfl fun f cdv A outer s H E hr EX => ⟨_, by
  have S := sc_fewest
  exact (dss_cons (ds_asg (de_callF (D_levels_from T) (hr.mono (by decide)) (by rfl) (takes_of rfl rfl rfl rfl) (da_cons (de_fz (de_name 1)) (da_cons (de_fz (de_name 2)) da_nil))) (dg_name 3 true S.nd))
    (dss_cons (ds_asg de_dnewT (dg_name 4 false S.nd))
    (dss_cons (ds_for (passes_of rfl) rfl (di_enum (by rfl) T.b_enumerate (de_name 3)) (dg_tup rfl (dgs_cons (dg_name 5 true S.nd) (dgs_cons (dg_name 6 false S.nd) dgs_nil))) (dss_one (ds_forKT (passes_of rfl) rfl (de_name 6) (dg_name 7 true S.nd) (dss_one (ds_asg (de_name 5) (dg_subT 4 (unit1 hr) (de_name 7)))))))
    (dss_cons (ds_asg (de_tupOf (by rfl) T.b_tuple (de_name 0)) (dg_name 8 true S.nd))
    (dss_cons (ds_if (db_tnotin 4 (unit1 hr) (de_name 8) (by with_unfolding_all rfl)) (dss_one (ds_raiseC rfl (takes_of rfl rfl rfl rfl) T.x_NoRow (by rfl))) dss_nil)
    (dss_cons (ds_asg (de_lst da_nil) (dg_name 9 false S.nd))
    (dss_cons (ds_while (passes_of rfl) (db_cmp dc_gt (de_tget 4 (unit1 hr) (de_name 8)) de_int (nomark _)) (dss_cons (ds_for (passes_of rfl) rfl (di_list (de_name 2)) (dg_name 10 true S.nd) (dss_cons (ds_asg (de_callD (D_swapped T) (hr.mono (by decide)) (by rfl) (takes_of rfl rfl rfl rfl) (da_cons (de_name 8) (da_cons (de_name 10) da_nil))) (dg_name 11 true S.nd))
    (dss_one (ds_if (db_cmp dc_lt (de_tget 4 (unit1 hr) (de_name 11)) (de_tget 4 (unit1 hr) (de_name 8)) (nomark _)) (dss_one ds_break) dss_nil))))
    (dss_cons (ds_expr (de_append 9 (de_name 10)))
    (dss_one (ds_asg (de_name 11) (dg_name 8 true S.nd))))))
    (dss_one (ds_ret (de_name 9))))))))))⟩
theorem D_many_fewest (T : Txt K mg) : Def P w K mg base 3 "many_fewest" ["one", "other", "web"] [false, false, false] wp_many_fewest := by
  rw [wpe_many_fewest]
  exact def_mk (N := ["one", "other", "web", "level"]) 3 (ms := [false, false, false]) T.f_many_fewest sc_many_fewest rfl fun f cdv A outer s H E hr EX => ⟨_, by
  have S := sc_many_fewest
  exact (dss_one (ds_ret (de_sum rfl (by rfl) T.b_sum (de_lcB (ow := [("level", 3)]) rfl S.nd (di_list (de_callF (D_levels_from T) (hr.mono (by decide)) (by rfl) (takes_of rfl rfl rfl rfl) (da_cons (de_fz (de_name 0)) (da_cons (de_fz (de_name 2)) da_nil)))) (blkOk_by (N := ["one", "other", "web", "level"]) (sc := defScope s_many_fewest) (own := [("level", 3)]) (by decide +kernel)) (by dsimp only; decide) (fun _ _ _ _ _ => (dg_name 3 true S.nd)) (fun _ _ _ _ _ => dts_nil) (fun _ _ _ _ _ => (de_tgetD 3 (unit1 hr) (de_tupOf (by rfl) T.b_tuple (de_name 1)) de_int)) tw_name tm_name))))⟩
theorem D_by_swaps (T : Txt K mg) : Def P w K mg base 3 "by_swaps" ["order", "web"] [false, false] wp_by_swaps := by
  rw [wpe_by_swaps]
  exact def_mk (N := ["order", "web", "level"]) 2 (ms := [false, false]) T.f_by_swaps sc_by_swaps rfl fun f cdv A outer s H E hr EX => ⟨_, by
  have S := sc_by_swaps
  exact (dss_one (ds_ret (de_lcB (ow := [("level", 2)]) rfl S.nd (di_list (de_callF (D_levels_from T) (hr.mono (by decide)) (by rfl) (takes_of rfl rfl rfl rfl) (da_cons (de_fz (de_name 0)) (da_cons (de_fz (de_name 1)) da_nil)))) (blkOk_by (N := ["order", "web", "level"]) (sc := defScope s_by_swaps) (own := [("level", 2)]) (by decide +kernel)) (by dsimp only; decide) (fun _ _ _ _ _ => (dg_name 2 true S.nd)) (fun _ _ _ _ _ => dts_nil) (fun _ _ _ _ _ => (de_lenD (by rfl) T.b_len (de_leaf 2))) tw_name tm_name)))⟩
theorem D__law_hand (T : Txt K mg) : Def P w K mg base 1 "_law_hand" ["cell", "k"] [false, false] wp__law_hand := by
  rw [wpe__law_hand]
  exact def_mk (N := ["cell", "k", "digits"]) 3 (ms := [false, false]) T.f__law_hand sc__law_hand rfl fun f cdv A outer s H E hr EX => ⟨_, by
  have S := sc__law_hand
  exact (dss_cons (ds_asg de_int (dg_name 2 true S.nd))
    (dss_cons (ds_if (db_cmp dc_ge (de_name 0) (de_pow de_int de_int) (nomark _)) (dss_one (ds_asg (de_name 0) (dg_name 2 true S.nd))) dss_nil)
    (dss_one (ds_ret (de_lst (da_cons (de_name 2) (da_cons (de_mod (de_mul (de_add (de_add (de_mod (de_name 0) de_int) (de_mul de_int (de_name 1))) de_int) de_int) de_int) da_nil)))))))⟩
theorem D__law_draw (T : Txt K mg) : Def P w K mg base 1 "_law_draw" ["hand", "limit"] [true, false] wp__law_draw := by
  rw [wpe__law_draw]
  exact def_mk (N := ["hand", "limit", "got"]) 3 (ms := [true, false]) T.f__law_draw sc__law_draw rfl fun f cdv A outer s H E hr EX => ⟨_, by
  have S := sc__law_draw
  exact (dss_cons (ds_if (db_cmp dc_gt (de_ix (de_name 0) de_int) de_int (nomark _)) (dss_cons (ds_asg (de_mod (de_ix (de_name 0) de_int) (de_name 1)) (dg_name 2 true S.nd))
    (dss_cons (ds_asg (de_div (de_ix (de_name 0) de_int) (de_name 1)) (dg_sub 0 de_int))
    (dss_one (ds_ret (de_name 2))))) dss_nil)
    (dss_cons (ds_asg (de_mod (de_add (de_add (de_mul (de_ix (de_name 0) de_int) (de_ix (de_name 0) de_int)) (de_mul de_int (de_ix (de_name 0) de_int))) de_int) de_int) (dg_sub 0 de_int))
    (dss_one (ds_ret (de_mod (de_div (de_ix (de_name 0) de_int) de_int) (de_name 1))))))⟩
theorem D__law_cells (T : Txt K mg) : Def P w K mg base 1 "_law_cells" ["script", "many"] [false, false] wp__law_cells := by
  rw [wpe__law_cells]
  exact def_mk (N := ["script", "many"]) 2 (ms := [false, false]) T.f__law_cells sc__law_cells rfl fun f cdv A outer s H E hr EX => ⟨_, by
  have S := sc__law_cells
  exact (dss_one (ds_ret (de_listEnum rfl (by rfl) T.b_list (by rfl) T.b_enumerate (de_cat (de_slice (de_name 0) do_none (do_some (de_name 1))) (de_rep (de_lst (da_cons de_int da_nil)) (de_intOf (by rfl) T.b_int (de_cmp (dc_eq hr.room.units) (de_name 0) (de_lst da_nil) (nomark _))))))))⟩
theorem D__law_shuffled (T : Txt K mg) : Def P w K mg base 2 "_law_shuffled" ["hand", "many"] [true, false] wp__law_shuffled := by
  rw [wpe__law_shuffled]
  exact def_mk (N := ["hand", "many", "left", "k"]) 3 (ms := [true, false]) T.f__law_shuffled sc__law_shuffled rfl fun f cdv A outer s H E hr EX => ⟨_, by
  have S := sc__law_shuffled
  exact (dss_cons (ds_asg (de_listRg1 rfl (by rfl) T.b_list (by rfl) T.b_range (de_name 1)) (dg_name 2 false S.nd))
    (dss_one (ds_ret (de_lcB (ow := [("k", 3)]) rfl S.nd (di_range1 (by rfl) T.b_range (de_name 1)) (blkOk_by (N := ["hand", "many", "left", "k"]) (sc := defScope s__law_shuffled) (own := [("k", 3)]) (by decide +kernel)) (by dsimp only; decide) (fun _ _ _ _ _ => (dg_name 3 true S.nd)) (fun _ _ _ _ _ => dts_nil) (fun _ _ _ _ _ => (de_popAt 2 (de_callD (D__law_draw T) (hr.mono (by decide)) (by rfl) takes0 (da_cons (de_name 0) (da_cons (de_len (by rfl) T.b_len (de_name 2)) da_nil))))) tw_name tm_name))))⟩
theorem D__law_two (T : Txt K mg) : Def P w K mg base 3 "_law_two" ["hand", "many"] [true, false] wp__law_two := by
  rw [wpe__law_two]
  exact def_mk (N := ["hand", "many", "one", "way", "other", "turn", "a", "b"]) 8 (ms := [true, false]) T.f__law_two sc__law_two rfl fun f cdv A outer s H E hr EX => ⟨_, by
  have S := sc__law_two
  exact (dss_cons (ds_asg (de_callD (D__law_shuffled T) (hr.mono (by decide)) (by rfl) (takes_of rfl rfl rfl rfl) (da_cons (de_name 0) (da_cons (de_name 1) da_nil))) (dg_name 2 true S.nd))
    (dss_cons (ds_asg (de_callD (D__law_draw T) (hr.mono (by decide)) (by rfl) (takes_of rfl rfl rfl rfl) (da_cons (de_name 0) (da_cons de_int da_nil))) (dg_name 3 true S.nd))
    (dss_cons (ds_if ((dw_or (db_cmp dc_lt (de_name 3) de_int (nomark _)) (dw_or1 (db_cmp (dc_eq hr.room.units) (de_name 1) de_int (nomark _)))).test) (dss_one (ds_ret (de_lst (da_cons (de_name 2) (da_cons (de_callD (D__law_shuffled T) (hr.mono (by decide)) (by rfl) (takes_of rfl rfl rfl rfl) (da_cons (de_name 0) (da_cons (de_name 1) da_nil))) da_nil))))) dss_nil)
    (dss_cons (ds_if (db_cmp (dc_eq hr.room.units) (de_name 3) de_int (nomark _)) (dss_one (ds_ret (de_lst (da_cons (de_name 2) (da_cons (de_ixO (de_lst (da_cons (de_listOf (by rfl) T.b_list (by decide +kernel) (de_name 2)) (da_cons (de_rev (de_name 2)) da_nil))) (de_callD (D__law_draw T) (hr.mono (by decide)) (by rfl) (takes_of rfl rfl rfl rfl) (da_cons (de_name 0) (da_cons de_int da_nil)))) da_nil))))) dss_nil)
    (dss_cons (ds_asg (de_listOf (by rfl) T.b_list (by decide +kernel) (de_name 2)) (dg_name 4 false S.nd))
    (dss_cons (ds_for (passes_of rfl) rfl (di_range1 (by rfl) T.b_range (de_add de_int (de_callD (D__law_draw T) (hr.mono (by decide)) (by rfl) (takes_of rfl rfl rfl rfl) (da_cons (de_name 0) (da_cons de_int da_nil))))) (dg_name 5 true S.nd) (dss_cons (ds_asg (de_callD (D__law_draw T) (hr.mono (by decide)) (by rfl) (takes_of rfl rfl rfl rfl) (da_cons (de_name 0) (da_cons (de_name 1) da_nil))) (dg_name 6 true S.nd))
    (dss_cons (ds_asg (de_callD (D__law_draw T) (hr.mono (by decide)) (by rfl) (takes_of rfl rfl rfl rfl) (da_cons (de_name 0) (da_cons (de_name 1) da_nil))) (dg_name 7 true S.nd))
    (dss_one (ds_asg (de_tup (da_cons (de_ix (de_name 4) (de_name 7)) (da_cons (de_ix (de_name 4) (de_name 6)) da_nil))) (dg_tup rfl (dgs_cons (dg_sub 4 (de_name 6)) (dgs_cons (dg_sub 4 (de_name 7)) dgs_nil))))))))
    (dss_one (ds_ret (de_lst (da_cons (de_name 2) (da_cons (de_name 4) da_nil)))))))))))⟩
theorem D__law_web (T : Txt K mg) : Def P w K mg base 2 "_law_web" ["hand", "many"] [true, false] wp__law_web := by
  rw [wpe__law_web]
  exact def_mk (N := ["hand", "many", "every", "way", "share", "at", "b", "swap", "a"]) 6 (ms := [true, false]) T.f__law_web sc__law_web rfl fun f cdv A outer s H E hr EX => ⟨_, by
  have S := sc__law_web
  exact (dss_cons (ds_asg (de_lst da_nil) (dg_name 2 false S.nd))
    (dss_cons (ds_for (passes_of rfl) rfl (di_range1 (by rfl) T.b_range (de_name 1)) (dg_name 8 true S.nd) (dss_one (ds_expr (de_extendT 2 (de_lcB (ow := [("b", 6)]) rfl S.nd (di_range2 (by rfl) T.b_range (de_add (de_leaf 8) de_int) (de_name 1)) (blkOk_by (N := ["hand", "many", "every", "way", "share", "at", "b", "swap", "a"]) (sc := defScope s__law_web) (own := [("b", 6)]) (by decide +kernel)) (by dsimp only; decide) (fun _ _ _ _ _ => (dg_name 6 true S.nd)) (fun _ _ _ _ _ => dts_nil) (fun _ _ _ _ _ => (de_tup (da_cons (de_leaf 8) (da_cons (de_leaf 6) da_nil)))) tw_name tm_name)))))
    (dss_cons (ds_asg (de_callD (D__law_draw T) (hr.mono (by decide)) (by rfl) (takes_of rfl rfl rfl rfl) (da_cons (de_name 0) (da_cons de_int da_nil))) (dg_name 3 true S.nd))
    (dss_cons (ds_if (db_cmp dc_lt (de_name 3) de_int (nomark _)) (dss_cons (ds_asg (de_add de_int (de_callD (D__law_draw T) (hr.mono (by decide)) (by rfl) (takes_of rfl rfl rfl rfl) (da_cons (de_name 0) (da_cons de_int da_nil)))) (dg_name 4 true S.nd))
    (dss_one (ds_ret (de_slice (de_lcB (ow := [("swap", 7)]) rfl S.nd (di_list (de_name 2)) (blkOk_by (N := ["hand", "many", "every", "way", "share", "at", "b", "swap", "a"]) (sc := defScope s__law_web) (own := [("swap", 7)]) (by decide +kernel)) (by dsimp only; decide) (fun _ _ _ _ _ => (dg_name 7 true S.nd)) (fun _ _ _ _ _ => (dts_one (db_cmp dc_lt (de_callD (D__law_draw T) (hr.mono (by decide)) (by rfl) takes0 (da_cons (de_name 0) (da_cons de_int da_nil))) (de_name 4) (nomark _)))) (fun _ _ _ _ _ => (de_leaf 7)) tw_name tm_name) do_none (do_some de_int))))) dss_nil)
    (dss_cons (ds_if (db_cmp (dc_eq hr.room.units) (de_name 3) de_int (nomark _)) (dss_one (ds_ret (de_slice (de_ixO (de_lst (da_cons (de_name 2) (da_cons (de_lcB (ow := [("a", 8)]) rfl S.nd (di_range1 (by rfl) T.b_range (de_sub (de_name 1) de_int)) (blkOk_by (N := ["hand", "many", "every", "way", "share", "at", "b", "swap", "a"]) (sc := defScope s__law_web) (own := [("a", 8)]) (by decide +kernel)) (by dsimp only; decide) (fun _ _ _ _ _ => (dg_name 8 true S.nd)) (fun _ _ _ _ _ => dts_nil) (fun _ _ _ _ _ => (de_tup (da_cons (de_leaf 8) (da_cons (de_add (de_leaf 8) de_int) da_nil)))) tw_name tm_name) da_nil))) (de_callD (D__law_draw T) (hr.mono (by decide)) (by rfl) (takes_of rfl rfl rfl rfl) (da_cons (de_name 0) (da_cons de_int da_nil)))) do_none (do_some de_int)))) dss_nil)
    (dss_cons (ds_if (db_cmp (dc_eq hr.room.units) (de_name 3) de_int (nomark _)) (dss_one (ds_ret (de_lcB (ow := [("b", 6)]) rfl S.nd (di_range2 (by rfl) T.b_range de_int (de_name 1)) (blkOk_by (N := ["hand", "many", "every", "way", "share", "at", "b", "swap", "a"]) (sc := defScope s__law_web) (own := [("b", 6)]) (by decide +kernel)) (by dsimp only; decide) (fun _ _ _ _ _ => (dg_name 6 true S.nd)) (fun _ _ _ _ _ => dts_nil) (fun _ _ _ _ _ => (de_tup (da_cons de_int (da_cons (de_leaf 6) da_nil)))) tw_name tm_name))) dss_nil)
    (dss_cons (ds_if (db_cmp (dc_eq hr.room.units) (de_name 3) de_int (nomark _)) (dss_one (ds_ret (de_sortP (by rfl) T.b_sorted (de_lcB (ow := [("b", 6)]) rfl S.nd (di_range2 (by rfl) T.b_range de_int (de_name 1)) (blkOk_by (N := ["hand", "many", "every", "way", "share", "at", "b", "swap", "a"]) (sc := defScope s__law_web) (own := [("b", 6)]) (by decide +kernel)) (by dsimp only; decide) (fun _ _ _ _ _ => (dg_name 6 true S.nd)) (fun _ _ _ _ _ => dts_nil) (fun _ _ _ _ _ => (de_tup (da_cons (de_callD (D__law_draw T) (hr.mono (by decide)) (by rfl) takes0 (da_cons (de_name 0) (da_cons (de_leaf 6) da_nil))) (da_cons (de_leaf 6) da_nil)))) tw_name tm_name)))) dss_nil)
    (dss_cons (ds_asg (de_callD (D__law_draw T) (hr.mono (by decide)) (by rfl) (takes_of rfl rfl rfl rfl) (da_cons (de_name 0) (da_cons (de_add (de_name 1) de_int) da_nil))) (dg_name 5 true S.nd))
    (dss_one (ds_ret (de_slice (de_lcB (ow := [("swap", 7)]) rfl S.nd (di_list (de_name 2)) (blkOk_by (N := ["hand", "many", "every", "way", "share", "at", "b", "swap", "a"]) (sc := defScope s__law_web) (own := [("swap", 7)]) (by decide +kernel)) (by dsimp only; decide) (fun _ _ _ _ _ => (dg_name 7 true S.nd)) (fun _ _ _ _ _ => (dts_one ((dw_and (db_cmp (dc_eq hr.room.units) (de_cmp dc_lt (de_ix (de_leaf 7) de_int) (de_name 5) (nomark _)) (de_cmp dc_lt (de_ix (de_leaf 7) de_int) (de_name 5) (nomark _)) (nomark _)) (dw_and1 (db_cmp dc_gt (de_callD (D__law_draw T) (hr.mono (by decide)) (by rfl) takes0 (da_cons (de_name 0) (da_cons de_int da_nil))) de_int (nomark _)))).test))) (fun _ _ _ _ _ => (de_leaf 7)) tw_name tm_name) do_none (do_some de_int))))))))))))⟩
theorem D__law_parted (T : Txt K mg) : Def P w K mg base 1 "_law_parted" ["many", "web"] [false, false] wp__law_parted := by
  rw [wpe__law_parted]
  exact def_mk (N := ["many", "web", "found", "turn", "a", "b", "low"]) 7 (ms := [false, false]) T.f__law_parted sc__law_parted rfl fun f cdv A outer s H E hr EX => ⟨_, by
  have S := sc__law_parted
  exact (dss_cons (ds_asg (de_listRg1 rfl (by rfl) T.b_list (by rfl) T.b_range (de_name 0)) (dg_name 2 false S.nd))
    (dss_cons (ds_for (passes_of rfl) rfl (di_range1 (by rfl) T.b_range (de_name 0)) (dg_name 3 true S.nd) (dss_one (ds_for (passes_of rfl) rfl (di_list (de_name 1)) (dg_tup rfl (dgs_cons (dg_name 4 true S.nd) (dgs_cons (dg_name 5 true S.nd) dgs_nil))) (dss_cons (ds_asg (de_min2 rfl (by rfl) T.b_min (de_ix (de_name 2) (de_name 4)) (de_ix (de_name 2) (de_name 5))) (dg_name 6 true S.nd))
    (dss_cons (ds_asg (de_name 6) (dg_sub 2 (de_name 4)))
    (dss_one (ds_asg (de_name 6) (dg_sub 2 (de_name 5)))))))))
    (dss_one (ds_ret (de_name 2)))))⟩
theorem D__law_leads (T : Txt K mg) : Def P w K mg base 2 "_law_leads" ["one", "other", "web"] [false, false, false] wp__law_leads := by
  rw [wpe__law_leads]
  exact def_mk (N := ["one", "other", "web", "low", "home", "place", "mark"]) 5 (ms := [false, false, false]) T.f__law_leads sc__law_leads rfl fun f cdv A outer s H E hr EX => ⟨_, by
  have S := sc__law_leads
  exact (dss_cons (ds_asg (de_callD (D__law_parted T) (hr.mono (by decide)) (by rfl) (takes_of rfl rfl rfl rfl) (da_cons (de_len (by rfl) T.b_len (de_name 0)) (da_cons (de_name 2) da_nil))) (dg_name 3 true S.nd))
    (dss_cons (ds_asg (de_dict rfl (by rfl) T.b_dict (by decide +kernel) (de_lcB (ow := [("place", 5), ("mark", 6)]) rfl S.nd (di_enum (by rfl) T.b_enumerate (de_name 1)) (blkOk_by (N := ["one", "other", "web", "low", "home", "place", "mark"]) (sc := defScope s__law_leads) (own := [("place", 5), ("mark", 6)]) (by decide +kernel)) (by dsimp only; decide) (fun _ _ _ _ _ => (dg_tup rfl (dgs_cons (dg_name 5 true S.nd) (dgs_cons (dg_name 6 true S.nd) dgs_nil)))) (fun _ _ _ _ _ => dts_nil) (fun _ _ _ _ _ => (de_tup (da_cons (de_leaf 6) (da_cons (de_ix (de_name 3) (de_leaf 5)) da_nil)))) (tw_tup (tws_cons tm_name tw_name (tws_cons tm_name tw_name tws_nil))) (tm_tup (tms_cons tm_name (tms_cons tm_name tms_nil))))) (dg_name 4 false S.nd))
    (dss_one (ds_ret (de_cmp (dc_eq hr.room.units) (de_lcB (ow := [("place", 5), ("mark", 6)]) rfl S.nd (di_enum (by rfl) T.b_enumerate (de_name 0)) (blkOk_by (N := ["one", "other", "web", "low", "home", "place", "mark"]) (sc := defScope s__law_leads) (own := [("place", 5), ("mark", 6)]) (by decide +kernel)) (by dsimp only; decide) (fun _ _ _ _ _ => (dg_tup rfl (dgs_cons (dg_name 5 true S.nd) (dgs_cons (dg_name 6 true S.nd) dgs_nil)))) (fun _ _ _ _ _ => (dts_one (db_cmp (dc_ne hr.room.units) (de_dget 4 (unit1 hr) (de_leaf 6)) (de_ix (de_name 3) (de_leaf 5)) (nomark _)))) (fun _ _ _ _ _ => (de_leaf 6)) (tw_tup (tws_cons tm_name tw_name (tws_cons tm_name tw_name tws_nil))) (tm_tup (tms_cons tm_name (tms_cons tm_name tms_nil)))) (de_lst da_nil) (nomark _))))))⟩
theorem D__law_said (T : Txt K mg) : Def P w K mg base 4 "_law_said" ["one", "other", "web"] [false, false, false] wp__law_said := by
  rw [wpe__law_said]
  exact def_mk (N := ["one", "other", "web", "caught", "e", "others"]) 6 (ms := [false, false, false]) T.f__law_said sc__law_said rfl fun f cdv A outer s H E hr EX => ⟨_, by
  have S := sc__law_said
  exact (dss_cons (ds_asg de_non (dg_name 3 true S.nd))
    (dss_cons (ds_tryKeep 4 3 (ys := ["NoRow"]) rfl rfl rfl S.nd (by rfl) (by rfl) (by rfl) (by decide) T.n_SwapError (by rfl) (by rfl) (fun a pn => ps_asg (pe_var (i := 4) (by rfl) (by first | exact Or.inl rfl | exact Or.inr (Or.inl rfl) | exact Or.inr (Or.inr rfl))) (pg_name (i := 3) S.nd (by rfl) (by first | exact Or.inl rfl | exact Or.inr rfl)) (by rfl) (by rfl) (by rfl)) (fun W ex pn xe tk => hb_of (dss_one (ds_expr (de_callD (D_fewest T) (hr.mono (by decide)) (by rfl) tk (da_cons (de_name 0) (da_cons (de_name 1) (da_cons (de_name 2) da_nil)))))) (by first | rfl | (dsimp only [L2.Cx.tr]; done) | (dsimp only [L2.Cx.tr]; rfl)) (by first | rfl | (dsimp only [L2.Cx.tr]; done) | (dsimp only [L2.Cx.tr]; rfl))))
    (dss_cons (ds_if (db_cmp dc_isN (de_name 3) de_non (nomark _)) (dss_one (ds_ret de_int)) dss_nil)
    (dss_cons (ds_asg (de_isXM (by rfl) T.b_isinstance T.yt_NoCommand_NoMark_NoOrder_NoPlace_NoSwap_NoText (nm_cons (by rfl) (T.yt_NoCommand_NoMark_NoOrder_NoPlace_NoSwap_NoText.cls _ (by simp)) (by decide) (nm_cons (by rfl) (T.yt_NoCommand_NoMark_NoOrder_NoPlace_NoSwap_NoText.cls _ (by simp)) (by decide) (nm_cons (by rfl) (T.yt_NoCommand_NoMark_NoOrder_NoPlace_NoSwap_NoText.cls _ (by simp)) (by decide) (nm_cons (by rfl) (T.yt_NoCommand_NoMark_NoOrder_NoPlace_NoSwap_NoText.cls _ (by simp)) (by decide) (nm_cons (by rfl) (T.yt_NoCommand_NoMark_NoOrder_NoPlace_NoSwap_NoText.cls _ (by simp)) (by decide) (nm_cons (by rfl) (T.yt_NoCommand_NoMark_NoOrder_NoPlace_NoSwap_NoText.cls _ (by simp)) (by decide) nm_nil)))))) (by decide) (de_name 3)) (dg_name 5 true S.nd))
    (dss_one (ds_ret (de_ixO (de_lst (da_cons de_int (da_cons de_int da_nil))) (de_intOf (by rfl) T.b_int (de_and (de_isXT (by rfl) T.b_isinstance (by rfl) T.yo_NoRow (de_name 3)) (de_and (de_isXB (by rfl) T.b_isinstance (by rfl) T.b_ValueError (by decide +kernel) T.yb_ValueError (de_name 3)) (de_one (de_not (de_name 5)))))))))))))⟩
theorem D_law (T : Txt K mg) : Def P w K mg base 5 "law" ["script"] [false] wp_law := by
  rw [wpe_law]
  exact def_mk (N := ["script", "k", "cell", "hand", "many", "one", "other", "web", "part", "ahead", "some", "handed", "due", "swap"]) 13 (ms := [false]) T.f_law sc_law rfl fun f cdv A outer s H E hr EX => ⟨_, by
  have S := sc_law
  exact (dss_cons (ds_for (passes_of rfl) rfl (di_list (de_callD (D__law_cells T) (hr.mono (by decide)) (by rfl) (takes_of rfl rfl rfl rfl) (da_cons (de_name 0) (da_cons de_int da_nil)))) (dg_tup rfl (dgs_cons (dg_name 1 true S.nd) (dgs_cons (dg_name 2 true S.nd) dgs_nil))) (dss_cons (ds_asg (de_callD (D__law_hand T) (hr.mono (by decide)) (by rfl) (takes_of rfl rfl rfl rfl) (da_cons (de_name 2) (da_cons (de_name 1) da_nil))) (dg_name 3 false S.nd))
    (dss_cons (ds_asg (de_add de_int (de_callD (D__law_draw T) (hr.mono (by decide)) (by rfl) (takes_of rfl rfl rfl rfl) (da_cons (de_name 3) (da_cons de_int da_nil)))) (dg_name 4 true S.nd))
    (dss_cons (ds_asg (de_callF (D__law_two T) (hr.mono (by decide)) (by rfl) (takes_of rfl rfl rfl rfl) (da_cons (de_name 3) (da_cons (de_fz (de_name 4)) da_nil))) (dg_unl rfl (dgs_cons (dg_name 5 true S.nd) (dgs_cons (dg_name 6 true S.nd) dgs_nil))))
    (dss_cons (ds_asg (de_callD (D__law_web T) (hr.mono (by decide)) (by rfl) (takes_of rfl rfl rfl rfl) (da_cons (de_name 3) (da_cons (de_name 4) da_nil))) (dg_name 7 true S.nd))
    (dss_cons (ds_setLcB (ow := [("swap", 13)]) 8 true rfl S.nd (di_list (de_name 7)) (blkOk_by (N := ["script", "k", "cell", "hand", "many", "one", "other", "web", "part", "ahead", "some", "handed", "due", "swap"]) (sc := defScope s_law) (own := [("swap", 13)]) (by decide +kernel)) (by dsimp only; decide) (fun _ _ _ _ _ => (dg_name 13 true S.nd)) (fun _ _ _ _ _ => (dts_one (db_cmp (dc_eq hr.room.units) (de_callD (D__law_draw T) (hr.mono (by decide)) (by rfl) takes0 (da_cons (de_name 3) (da_cons de_int da_nil))) de_int (nomark _)))) (fun _ _ _ _ _ => (de_leaf 13)) tw_name tm_name (sw_true rfl rfl rfl (by decide +kernel)))
    (dss_cons (ds_asg (de_callD (D_by_swaps T) (hr.mono (by decide)) (by rfl) (takes_of rfl rfl rfl rfl) (da_cons (de_name 5) (da_cons (de_name 8) da_nil))) (dg_name 9 true S.nd))
    (dss_cons (ds_for (passes_of rfl) rfl (di_list (de_lst (da_cons (de_name 7) (da_cons (de_name 8) (da_cons (de_lst da_nil) da_nil))))) (dg_name 10 true S.nd) (dss_cons (ds_asg (de_lst (da_cons (de_listOf (by rfl) T.b_list (by decide +kernel) (de_name 5)) (da_cons (de_listOf (by rfl) T.b_list (by decide +kernel) (de_name 6)) (da_cons (de_listOf (by rfl) T.b_list (by decide +kernel) (de_name 10)) da_nil)))) (dg_name 11 true S.nd))
    (dss_cons (ds_asg (de_intOf (by rfl) T.b_int (de_not (de_callD (D__law_leads T) (hr.mono (by decide)) (by rfl) (takes_of rfl rfl rfl rfl) (da_cons (de_name 5) (da_cons (de_name 6) (da_cons (de_name 10) da_nil)))))) (dg_name 12 true S.nd))
    (dss_cons (ds_if ((dw_or (db_cmp (dc_ne hr.room.units) (de_callD (D__law_said T) (hr.mono (by decide)) (by rfl) (takes_of rfl rfl rfl rfl) (da_cons (de_ix (de_name 11) de_int) (da_cons (de_ix (de_name 11) de_int) (da_cons (de_ix (de_name 11) de_int) da_nil)))) (de_name 12) (nomark _)) (dw_or1 (db_cmp (dc_ne hr.room.units) (de_name 11) (de_lst (da_cons (de_name 5) (da_cons (de_name 6) (da_cons (de_name 10) da_nil)))) (nomark _)))).test) (dss_one (ds_ret de_bl)) dss_nil)
    (dss_one (ds_if (db_cmp (dc_ne hr.room.units) (de_cmp (dc_eq hr.room.units) (de_callD (D_many_fewest T) (hr.mono (by decide)) (by rfl) (takes_of rfl rfl rfl rfl) (da_cons (de_name 5) (da_cons (de_name 6) (da_cons (de_name 10) da_nil)))) de_int (nomark _)) (de_cmp (dc_eq hr.room.units) (de_name 12) de_int (nomark _)) (nomark _)) (dss_one (ds_ret de_bl)) dss_nil))))))
    (dss_one (ds_if (db_cmp (dc_ne hr.room.units) (de_callD (D_by_swaps T) (hr.mono (by decide)) (by rfl) (takes_of rfl rfl rfl rfl) (da_cons (de_name 5) (da_cons (de_name 8) da_nil))) (de_name 9) (nomark _)) (dss_one (ds_ret de_bl)) dss_nil))))))))))
    (dss_one (ds_ret (de_and (de_cmp (dc_eq hr.room.units) (de_callD (D__law_said T) (hr.mono (by decide)) (by rfl) (takes_of rfl rfl rfl rfl) (da_cons (de_lst (da_cons de_int (da_cons de_int da_nil))) (da_cons (de_lst (da_cons de_int (da_cons de_int da_nil))) (da_cons (de_lst da_nil) da_nil)))) de_int (nomark _)) (de_one (de_cmp (dc_eq hr.room.units) (de_callD (D__law_said T) (hr.mono (by decide)) (by rfl) (takes_of rfl rfl rfl rfl) (da_cons (de_lst (da_cons de_int (da_cons de_int da_nil))) (da_cons (de_lst (da_cons de_int (da_cons de_int da_nil))) (da_cons (de_lst da_nil) da_nil)))) de_int (nomark _)))))))⟩
end
theorem txt_mk {K : PySem.W.Frag} {h : Heap} {mg : Str → Option Value} (X : K.In h) (G : h.Ns mainGlobals mg)
  {f0 : Addr} {od0 an0 : Option Addr} {sl0 : Array (Option Value)} {oc0 kV0 dc0 pm0 cd0 ct0 : Value}
  {f1 : Addr} {od1 an1 : Option Addr} {sl1 : Array (Option Value)} {oc1 kV1 dc1 pm1 cd1 ct1 : Value}
  {f2 : Addr} {od2 an2 : Option Addr} {sl2 : Array (Option Value)} {oc2 kV2 dc2 pm2 cd2 ct2 : Value}
  {f3 : Addr} {od3 an3 : Option Addr} {sl3 : Array (Option Value)} {oc3 kV3 dc3 pm3 cd3 ct3 : Value}
  {f4 : Addr} {od4 an4 : Option Addr} {sl4 : Array (Option Value)} {oc4 kV4 dc4 pm4 cd4 ct4 : Value}
  {f5 : Addr} {od5 an5 : Option Addr} {sl5 : Array (Option Value)} {oc5 kV5 dc5 pm5 cd5 ct5 : Value}
  {f6 : Addr} {od6 an6 : Option Addr} {sl6 : Array (Option Value)} {oc6 kV6 dc6 pm6 cd6 ct6 : Value}
  {f7 : Addr} {od7 an7 : Option Addr} {sl7 : Array (Option Value)} {oc7 kV7 dc7 pm7 cd7 ct7 : Value}
  {f8 : Addr} {od8 an8 : Option Addr} {sl8 : Array (Option Value)} {oc8 kV8 dc8 pm8 cd8 ct8 : Value}
  {f9 : Addr} {od9 an9 : Option Addr} {sl9 : Array (Option Value)} {oc9 kV9 dc9 pm9 cd9 ct9 : Value}
  {f10 : Addr} {od10 an10 : Option Addr} {sl10 : Array (Option Value)} {oc10 kV10 dc10 pm10 cd10 ct10 : Value}
  {f11 : Addr} {od11 an11 : Option Addr} {sl11 : Array (Option Value)} {oc11 kV11 dc11 pm11 cd11 ct11 : Value}
  {f12 : Addr} {od12 an12 : Option Addr} {sl12 : Array (Option Value)} {oc12 kV12 dc12 pm12 cd12 ct12 : Value}
  {f13 : Addr} {od13 an13 : Option Addr} {sl13 : Array (Option Value)} {oc13 kV13 dc13 pm13 cd13 ct13 : Value}
  {f14 : Addr} {od14 an14 : Option Addr} {sl14 : Array (Option Value)} {oc14 kV14 dc14 pm14 cd14 ct14 : Value}
  {CE0 : Addr}
  {CE1 : Addr}
  {CE2 : Addr}
  {CE3 : Addr}
  {CE4 : Addr}
  {CE5 : Addr}
  {CE6 : Addr}
  {CE7 : Addr}
  (a0 : PySem.W.nsIn K mainGlobals "swapped" = some (some (.ref f0))) (l0 : K.lookup f0 = some ⟨oc0, od0, .func (PySem.W.fnOf "swapped" "swapped" (defArgs s_swapped) (defBody s_swapped) (defScope s_swapped) .none kV0 dc0 pm0 an0 cd0 ct0), sl0⟩) (c0 : PySem.W.codeIn K cd0 "swapped" = true) (k0 : PySem.W.keepIn K (.ref f0) = true)
  (a1 : PySem.W.nsIn K mainGlobals "levels_from" = some (some (.ref f1))) (l1 : K.lookup f1 = some ⟨oc1, od1, .func (PySem.W.fnOf "levels_from" "levels_from" (defArgs s_levels_from) (defBody s_levels_from) (defScope s_levels_from) .none kV1 dc1 pm1 an1 cd1 ct1), sl1⟩) (c1 : PySem.W.codeIn K cd1 "levels_from" = true) (k1 : PySem.W.keepIn K (.ref f1) = true)
  (a2 : PySem.W.nsIn K mainGlobals "fewest" = some (some (.ref f2))) (l2 : K.lookup f2 = some ⟨oc2, od2, .func (PySem.W.fnOf "fewest" "fewest" (defArgs s_fewest) (defBody s_fewest) (defScope s_fewest) .none kV2 dc2 pm2 an2 cd2 ct2), sl2⟩) (c2 : PySem.W.codeIn K cd2 "fewest" = true) (k2 : PySem.W.keepIn K (.ref f2) = true)
  (a3 : PySem.W.nsIn K mainGlobals "many_fewest" = some (some (.ref f3))) (l3 : K.lookup f3 = some ⟨oc3, od3, .func (PySem.W.fnOf "many_fewest" "many_fewest" (defArgs s_many_fewest) (defBody s_many_fewest) (defScope s_many_fewest) .none kV3 dc3 pm3 an3 cd3 ct3), sl3⟩) (c3 : PySem.W.codeIn K cd3 "many_fewest" = true) (k3 : PySem.W.keepIn K (.ref f3) = true)
  (a4 : PySem.W.nsIn K mainGlobals "by_swaps" = some (some (.ref f4))) (l4 : K.lookup f4 = some ⟨oc4, od4, .func (PySem.W.fnOf "by_swaps" "by_swaps" (defArgs s_by_swaps) (defBody s_by_swaps) (defScope s_by_swaps) .none kV4 dc4 pm4 an4 cd4 ct4), sl4⟩) (c4 : PySem.W.codeIn K cd4 "by_swaps" = true) (k4 : PySem.W.keepIn K (.ref f4) = true)
  (a5 : PySem.W.nsIn K mainGlobals "_law_hand" = some (some (.ref f5))) (l5 : K.lookup f5 = some ⟨oc5, od5, .func (PySem.W.fnOf "_law_hand" "_law_hand" (defArgs s__law_hand) (defBody s__law_hand) (defScope s__law_hand) .none kV5 dc5 pm5 an5 cd5 ct5), sl5⟩) (c5 : PySem.W.codeIn K cd5 "_law_hand" = true) (k5 : PySem.W.keepIn K (.ref f5) = true)
  (a6 : PySem.W.nsIn K mainGlobals "_law_draw" = some (some (.ref f6))) (l6 : K.lookup f6 = some ⟨oc6, od6, .func (PySem.W.fnOf "_law_draw" "_law_draw" (defArgs s__law_draw) (defBody s__law_draw) (defScope s__law_draw) .none kV6 dc6 pm6 an6 cd6 ct6), sl6⟩) (c6 : PySem.W.codeIn K cd6 "_law_draw" = true) (k6 : PySem.W.keepIn K (.ref f6) = true)
  (a7 : PySem.W.nsIn K mainGlobals "_law_cells" = some (some (.ref f7))) (l7 : K.lookup f7 = some ⟨oc7, od7, .func (PySem.W.fnOf "_law_cells" "_law_cells" (defArgs s__law_cells) (defBody s__law_cells) (defScope s__law_cells) .none kV7 dc7 pm7 an7 cd7 ct7), sl7⟩) (c7 : PySem.W.codeIn K cd7 "_law_cells" = true) (k7 : PySem.W.keepIn K (.ref f7) = true)
  (a8 : PySem.W.nsIn K mainGlobals "_law_shuffled" = some (some (.ref f8))) (l8 : K.lookup f8 = some ⟨oc8, od8, .func (PySem.W.fnOf "_law_shuffled" "_law_shuffled" (defArgs s__law_shuffled) (defBody s__law_shuffled) (defScope s__law_shuffled) .none kV8 dc8 pm8 an8 cd8 ct8), sl8⟩) (c8 : PySem.W.codeIn K cd8 "_law_shuffled" = true) (k8 : PySem.W.keepIn K (.ref f8) = true)
  (a9 : PySem.W.nsIn K mainGlobals "_law_two" = some (some (.ref f9))) (l9 : K.lookup f9 = some ⟨oc9, od9, .func (PySem.W.fnOf "_law_two" "_law_two" (defArgs s__law_two) (defBody s__law_two) (defScope s__law_two) .none kV9 dc9 pm9 an9 cd9 ct9), sl9⟩) (c9 : PySem.W.codeIn K cd9 "_law_two" = true) (k9 : PySem.W.keepIn K (.ref f9) = true)
  (a10 : PySem.W.nsIn K mainGlobals "_law_web" = some (some (.ref f10))) (l10 : K.lookup f10 = some ⟨oc10, od10, .func (PySem.W.fnOf "_law_web" "_law_web" (defArgs s__law_web) (defBody s__law_web) (defScope s__law_web) .none kV10 dc10 pm10 an10 cd10 ct10), sl10⟩) (c10 : PySem.W.codeIn K cd10 "_law_web" = true) (k10 : PySem.W.keepIn K (.ref f10) = true)
  (a11 : PySem.W.nsIn K mainGlobals "_law_parted" = some (some (.ref f11))) (l11 : K.lookup f11 = some ⟨oc11, od11, .func (PySem.W.fnOf "_law_parted" "_law_parted" (defArgs s__law_parted) (defBody s__law_parted) (defScope s__law_parted) .none kV11 dc11 pm11 an11 cd11 ct11), sl11⟩) (c11 : PySem.W.codeIn K cd11 "_law_parted" = true) (k11 : PySem.W.keepIn K (.ref f11) = true)
  (a12 : PySem.W.nsIn K mainGlobals "_law_leads" = some (some (.ref f12))) (l12 : K.lookup f12 = some ⟨oc12, od12, .func (PySem.W.fnOf "_law_leads" "_law_leads" (defArgs s__law_leads) (defBody s__law_leads) (defScope s__law_leads) .none kV12 dc12 pm12 an12 cd12 ct12), sl12⟩) (c12 : PySem.W.codeIn K cd12 "_law_leads" = true) (k12 : PySem.W.keepIn K (.ref f12) = true)
  (a13 : PySem.W.nsIn K mainGlobals "_law_said" = some (some (.ref f13))) (l13 : K.lookup f13 = some ⟨oc13, od13, .func (PySem.W.fnOf "_law_said" "_law_said" (defArgs s__law_said) (defBody s__law_said) (defScope s__law_said) .none kV13 dc13 pm13 an13 cd13 ct13), sl13⟩) (c13 : PySem.W.codeIn K cd13 "_law_said" = true) (k13 : PySem.W.keepIn K (.ref f13) = true)
  (a14 : PySem.W.nsIn K mainGlobals "law" = some (some (.ref f14))) (l14 : K.lookup f14 = some ⟨oc14, od14, .func (PySem.W.fnOf "law" "law" (defArgs s_law) (defBody s_law) (defScope s_law) .none kV14 dc14 pm14 an14 cd14 ct14), sl14⟩) (c14 : PySem.W.codeIn K cd14 "law" = true) (k14 : PySem.W.keepIn K (.ref f14) = true)
  (z0 : PySem.W.nsIn K mainGlobals "ValueError" = some none)
  (z1 : PySem.W.nsIn K mainGlobals "dict" = some none)
  (z2 : PySem.W.nsIn K mainGlobals "enumerate" = some none)
  (z3 : PySem.W.nsIn K mainGlobals "int" = some none)
  (z4 : PySem.W.nsIn K mainGlobals "isinstance" = some none)
  (z5 : PySem.W.nsIn K mainGlobals "len" = some none)
  (z6 : PySem.W.nsIn K mainGlobals "list" = some none)
  (z7 : PySem.W.nsIn K mainGlobals "min" = some none)
  (z8 : PySem.W.nsIn K mainGlobals "range" = some none)
  (z9 : PySem.W.nsIn K mainGlobals "sorted" = some none)
  (z10 : PySem.W.nsIn K mainGlobals "sum" = some none)
  (z11 : PySem.W.nsIn K mainGlobals "tuple" = some none)
  (ea0 : PySem.W.nsIn K mainGlobals "NoCommand" = some (some (.ref CE0)))
  (et0 : PySem.W.typeIn K (.ref CE0) = some (.type "type"))
  (ei0 : PySem.W.isClsIn K CE0 = true)
  (ea1 : PySem.W.nsIn K mainGlobals "NoMark" = some (some (.ref CE1)))
  (et1 : PySem.W.typeIn K (.ref CE1) = some (.type "type"))
  (ei1 : PySem.W.isClsIn K CE1 = true)
  (ea2 : PySem.W.nsIn K mainGlobals "NoOrder" = some (some (.ref CE2)))
  (et2 : PySem.W.typeIn K (.ref CE2) = some (.type "type"))
  (ei2 : PySem.W.isClsIn K CE2 = true)
  (ea3 : PySem.W.nsIn K mainGlobals "NoPlace" = some (some (.ref CE3)))
  (et3 : PySem.W.typeIn K (.ref CE3) = some (.type "type"))
  (ei3 : PySem.W.isClsIn K CE3 = true)
  (ea4 : PySem.W.nsIn K mainGlobals "NoRow" = some (some (.ref CE4)))
  (ex4 : PySem.W.excIn K CE4 [.type "ValueError", .type "Exception", .type "BaseException", .type "object"] "ValueError.__new__" = true)
  (ek4 : PySem.W.keepIn K (.ref CE4) = true)
  (eb4 : PySem.W.subIn K (.ref CE4) (.type "BaseException") = some true)
  (et4 : PySem.W.typeIn K (.ref CE4) = some (.type "type"))
  (ei4 : PySem.W.isClsIn K CE4 = true)
  (eg4 : PySem.W.findIn K (.ref CE4) "__getattribute__" = some (some (.builtin "BaseException.__getattribute__")))
  (eh4 : PySem.W.findIn K (.ref CE4) "__getattr__" = some none)
  (ed4 : PySem.W.hasDictIn K CE4 = true)
  (ec4 : PySem.W.findIn K (.ref CE4) "__class__" = some (some (.builtin "object.__class__")))
  (em4 : PySem.W.mroIn K CE4 (.type "object") = some true)
  (ea5 : PySem.W.nsIn K mainGlobals "NoSwap" = some (some (.ref CE5)))
  (et5 : PySem.W.typeIn K (.ref CE5) = some (.type "type"))
  (ei5 : PySem.W.isClsIn K CE5 = true)
  (ea6 : PySem.W.nsIn K mainGlobals "NoText" = some (some (.ref CE6)))
  (et6 : PySem.W.typeIn K (.ref CE6) = some (.type "type"))
  (ei6 : PySem.W.isClsIn K CE6 = true)
  (ea7 : PySem.W.nsIn K mainGlobals "SwapError" = some (some (.ref CE7)))
  (eb7 : PySem.W.subIn K (.ref CE7) (.type "BaseException") = some true)
  (et7 : PySem.W.typeIn K (.ref CE7) = some (.type "type"))
  (ei7 : PySem.W.isClsIn K CE7 = true)
  (en : PySem.W.specialIn K (.builtin "object.__class__") "__get__" = some (some (.builtin "getset_descriptor.__get__")))
  (eq : PySem.W.takesIn K (.builtin "object.__class__") = some true)
  (es0 : PySem.W.subIn K (.ref CE4) (.ref CE7) = some true)
  (es1 : PySem.W.subIn K (.ref CE4) (.ref CE0) = some false)
  (xn0 : CE4 ≠ CE0)
  (es2 : PySem.W.subIn K (.ref CE4) (.ref CE1) = some false)
  (xn1 : CE4 ≠ CE1)
  (es3 : PySem.W.subIn K (.ref CE4) (.ref CE2) = some false)
  (xn2 : CE4 ≠ CE2)
  (es4 : PySem.W.subIn K (.ref CE4) (.ref CE3) = some false)
  (xn3 : CE4 ≠ CE3)
  (es5 : PySem.W.subIn K (.ref CE4) (.ref CE5) = some false)
  (xn4 : CE4 ≠ CE5)
  (es6 : PySem.W.subIn K (.ref CE4) (.ref CE6) = some false)
  (xn5 : CE4 ≠ CE6)
  (es7 : PySem.W.subIn K (.ref CE4) (.type "ValueError") = some true) : Txt K mg :=
  ⟨ft_mk X G a0 l0 c0 k0 bd_swapped, ft_mk X G a1 l1 c1 k1 bd_levels_from, ft_mk X G a2 l2 c2 k2 bd_fewest, ft_mk X G a3 l3 c3 k3 bd_many_fewest, ft_mk X G a4 l4 c4 k4 bd_by_swaps, ft_mk X G a5 l5 c5 k5 bd__law_hand, ft_mk X G a6 l6 c6 k6 bd__law_draw, ft_mk X G a7 l7 c7 k7 bd__law_cells, ft_mk X G a8 l8 c8 k8 bd__law_shuffled, ft_mk X G a9 l9 c9 k9 bd__law_two, ft_mk X G a10 l10 c10 k10 bd__law_web, ft_mk X G a11 l11 c11 k11 bd__law_parted, ft_mk X G a12 l12 c12 k12 bd__law_leads, ft_mk X G a13 l13 c13 k13 bd__law_said, ft_mk X G a14 l14 c14 k14 bd_law, PySem.W.mg_none_of X G z0, PySem.W.mg_none_of X G z1, PySem.W.mg_none_of X G z2, PySem.W.mg_none_of X G z3, PySem.W.mg_none_of X G z4, PySem.W.mg_none_of X G z5, PySem.W.mg_none_of X G z6, PySem.W.mg_none_of X G z7, PySem.W.mg_none_of X G z8, PySem.W.mg_none_of X G z9, PySem.W.mg_none_of X G z10, PySem.W.mg_none_of X G z11, ⟨⟨_, PySem.W.mg_of X G ea4, ex4, ek4, eb4, et4⟩⟩, ⟨⟨_, PySem.W.mg_of X G ea7, (exm_cons ⟨_, PySem.W.mg_of X G ea4, ea4, (exm_of eb7 ei7 et7 es0)⟩ exm_nil)⟩⟩, ⟨⟨_, PySem.W.mg_of X G ea4, (isxl_cons ea4 ⟨eg4, eh4, eb4, ed4, ec4, en, eq, em4⟩ kit_self isxl_nil)⟩⟩, (isxm_mk (zm_cons (PySem.W.mg_of X G ea0) (zm_cons (PySem.W.mg_of X G ea1) (zm_cons (PySem.W.mg_of X G ea2) (zm_cons (PySem.W.mg_of X G ea3) (zm_cons (PySem.W.mg_of X G ea5) (zm_cons (PySem.W.mg_of X G ea6) zm_nil)))))) (isxa_cons ea4 ⟨eg4, eh4, eb4, ed4, ec4, en, eq, em4⟩ (kitAny_cons (kit_own ei0 et0 es1 xn0) (fun _ => (kitAny_cons (kit_own ei1 et1 es2 xn1) (fun _ => (kitAny_cons (kit_own ei2 et2 es3 xn2) (fun _ => (kitAny_cons (kit_own ei3 et3 es4 xn3) (fun _ => (kitAny_cons (kit_own ei5 et5 es5 xn4) (fun _ => (kitAny_cons (kit_own ei6 et6 es6 xn5) (fun _ => kitAny_nil) (fun z => by cases z))) (fun z => by cases z))) (fun z => by cases z))) (fun z => by cases z))) (fun z => by cases z))) (fun z => by cases z)) isxa_nil)), ((isxl_cons ea4 ⟨eg4, eh4, eb4, ed4, ec4, en, eq, em4⟩ (kit_blt (by decide +kernel) es7) isxl_nil))⟩
end Dl
namespace Dl
open PySem PySem.Spec PyProof.Rows L2
local macro_rules | `(tactic| contradiction) => `(tactic| ((conv => whnf); first
  | (refine And.intro (by first | exact trivial | exact rfl | omega | exact pure_dmap (fun _ _ => rfl) | exact ⟨by omega, by omega⟩ | exact Nat.le_of_ble_eq_true rfl | exact .inl (by omega) | exact .inr (by omega) | exact kind_int.cmp (by decide) _ _ | exact kind_ints.cmp (by decide) _ _ | exact kind_prs.cmp (by decide) _ _ | exact ⟨by omega, by omega, by omega⟩ | exact nd_list | exact nd_int | exact nd_bool | exact nd_tuple | exact cmp_b _ _ | exact Exists.intro _ rfl | exact ⟨shaped_ints _, shaped_int _⟩) ?_)
  | (refine s_asF (by with_unfolding_all exact rfl) (by first | exact flat_d _ | exact flat_m _ _ | (with_unfolding_all exact rfl)) ?_)
  | (refine s_asM (by with_unfolding_all exact rfl) (by first | exact itms_d _ | exact itms_m _ _ | (with_unfolding_all exact rfl)) ?_)
  | (refine s_asIs (by with_unfolding_all exact rfl) (by first | exact flat_m _ _ | exact flat_d _ | (with_unfolding_all exact rfl)) ?_)
  | (refine s_asPs (by with_unfolding_all exact rfl) (by first | exact flat_m _ _ | exact flat_d _ | (with_unfolding_all exact rfl)) ?_)
  | (refine kb1 ?_)
  | (refine kb2 ?_)
  | (refine kb3 ?_)
  | (refine kb4 ?_)
  | (refine kb5 ?_)
  | (refine kb6 ?_)
  | (refine kb7 ?_)
  | (refine kb8 ?_)
  | (refine s_side ?_ ?_)))
local macro_rules | `(tactic| exfalso) => `(tactic| ((repeat' contradiction) <;> (conv => whnf)))
theorem pure_enum (cs : List Int) : (T.ls ((enumD (cs.map .int)).map T.d)).pure = true := by
  refine pure_dmap (f := fun p : PyData => p) fun x hx => ?_
  obtain ⟨i, hi, e⟩ := List.mem_iff_getElem.mp hx
  obtain ⟨c, _, rfl⟩ := enumD_get (List.getElem?_eq_some_iff.mpr ⟨hi, e⟩)
  rfl
abbrev L (xs : List Int) : T := .d (.list (xs.map .int))
abbrev LP (ps : List Pr) : T := .d (.list (ps.map pairD))
theorem okI_repr {xs : List Int} (h : okI xs) : reprOk (.list (xs.map PyData.int)) := shown_ints h.1 h.2
theorem L_eq (cs : List Int) : L cs = T.d (dis cs).data := by rw [data_m]
theorem LP_eq (cs : List Pr) : LP cs = T.d (dps cs).data := by rw [data_m]
theorem dis_eq (cs : List Int) : dis cs = T.ls ((cs.map PyData.int).map T.d) := by rw [dm_f]
theorem dps_eq (cs : List Pr) : dps cs = T.ls ((cs.map pairD).map T.d) := by rw [dm_f]
theorem two_of_bool {x y : Int} (c : Bool) : ∃ z : Int, atI [T.d (PyData.int x), T.d (PyData.int y)] (if c = true then 1 else 0) = some (.d (.int z)) ∧ (z = x ∨ z = y) := by
  cases c with
  | true => exact ⟨y, rfl, .inr rfl⟩
  | false => exact ⟨x, rfl, .inl rfl⟩
def osps (os : List Int) (ps : List Pr) : PyData := .list [.list (os.map .int), .list (ps.map pairD)]
theorem cmp_osps (os qs : List Int) (ps rs : List Pr) : cmpOk (osps os ps) (osps qs rs) := by
  have h1 := kind_ints.dep os
  have h2 := kind_prs.dep ps
  refine ⟨?_, ?_, ?_⟩
  · have l1 := lay_int os
    have l2 := layAll_map kind_pr.lay ps
    simp [osps, PyData.canLay0, PyData.canLayAll0, l1, l2]
  · have l1 := lay_int qs
    have l2 := layAll_map kind_pr.lay rs
    simp [osps, PyData.canLay0, PyData.canLayAll0, l1, l2]
  · simp only [osps, PyData.depth, PyData.depthAll] at h1 h2 ⊢
    omega
theorem eqv_osps (os : List Int) (ps : List Pr) : PyData.eqv (osps os ps) (osps os ps) = true := by
  have h1 := kind_ints.eqv os os
  have h2 := kind_prs.eqv ps ps
  simp only [decide_true] at h1 h2
  simp only [osps, PyData.eqv, PyData.eqvAll] at h1 h2 ⊢
  simp [h1, h2]
theorem osps_eq (os : List Int) (ps : List Pr) : (T.ls [dis os, dps ps]).data = osps os ps := by
  simp [osps, data_m]
theorem osps_eq2 (os : List Int) (ps : List Pr) : (T.ls [T.d (L os).data, T.d (LP ps).data]).data = osps os ps := by
  simp [osps]
theorem heldT_snoc (hs : List (List Int)) (xs : List Int) : heldT (hs ++ [xs]) = .ls ((hs.map fun xs => T.ls [dis xs, dis xs]) ++ [T.ls [dis xs, dis xs]]) := by
  unfold heldT
  rw [List.map_append]
  rfl
theorem flat_snoc {α : Type} (f : α → PyData) (xs : List α) (y : PyData) : flat (.ls ((xs.map fun x => T.d (f x)) ++ [T.d y])) = some (xs.map f ++ [y]) := by
  have := flat_d (xs.map f ++ [y])
  rw [List.map_append, dm_f] at this
  exact this
theorem cut_last (xs : List PyData) (y : PyData) : cutD (xs ++ [y]) none (some (-1)) = xs := by
  unfold cutD
  have e : HT.sIx (xs ++ [y]).length (xs ++ [y]).length (some (-1)) = xs.length := by
    rw [List.length_append]
    simp [HT.sIx]
    omega
  rw [e, HT.sIx_none]
  simp
def twoD (xs : List Int) : PyData := .list [.list (xs.map .int), .list (xs.map .int)]
theorem dataL_held (hs : List (List Int)) : T.dataL (hs.map fun xs => T.ls [dis xs, dis xs]) = hs.map twoD := by
  rw [dataL_map, List.map_map]
  refine List.map_congr_left fun xs _ => ?_
  simp [twoD, data_m]
abbrev lexlt (p q : Pr) : Prop := p.1 < q.1 ∨ p.1 = q.1 ∧ p.2 < q.2
theorem lexlt_of {ps : List Pr} (h : ps.Pairwise lexle) (hn : ps.Nodup) : ps.Pairwise lexlt := by
  refine (h.and hn).imp fun {a b} hab => ?_
  obtain ⟨h1, h2⟩ := hab
  unfold lexle at h1
  rcases h1 with h1 | ⟨h1, h3⟩
  · exact .inl h1
  · refine .inr ⟨h1, ?_⟩
    rcases Int.lt_or_eq_of_le h3 with h4 | h4
    · exact h4
    · exact absurd (Prod.ext h1 h4) h2
theorem lexlt_nodup {ps : List Pr} (h : ps.Pairwise lexlt) : ps.Nodup := h.imp fun {a b} hab e => by
  subst e
  rcases hab with h | ⟨_, h⟩ <;> omega
theorem ways_at2 (x0 x1 x2 x3 : Int) {kd : Int} (h0 : 0 ≤ kd) (h1 : kd < 6) : ∃ xs : List Int, atI (T.dataL [T.ls [di x0], T.ls [di x1], T.ls [di x2], T.ls [di x3], T.ls [], T.ls []]) kd = some (.list (xs.map .int)) ∧ xs.length ≤ 1 ∧ (∀ x ∈ xs, x = x0 ∨ x = x1 ∨ x = x2 ∨ x = x3) ∧ (kd = 2 → ∀ x ∈ xs, x = x2) := by
  have one : ∀ y : Int, (y = x0 ∨ y = x1 ∨ y = x2 ∨ y = x3) → ∀ x ∈ [y], x = x0 ∨ x = x1 ∨ x = x2 ∨ x = x3 := fun y hy x hx => by
    rw [List.mem_singleton.mp hx]
    exact hy
  have : kd = 0 ∨ kd = 1 ∨ kd = 2 ∨ kd = 3 ∨ kd = 4 ∨ kd = 5 := by omega
  rcases this with rfl | rfl | rfl | rfl | rfl | rfl
  · exact ⟨[x0], by simp [T.dataL, T.data, atI, ixN], Nat.le_refl _, one _ (by simp), fun h => absurd h (by decide)⟩
  · exact ⟨[x1], by simp [T.dataL, T.data, atI, ixN], Nat.le_refl _, one _ (by simp), fun h => absurd h (by decide)⟩
  · exact ⟨[x2], by simp [T.dataL, T.data, atI, ixN], Nat.le_refl _, one _ (by simp), fun _ x hx => List.mem_singleton.mp hx⟩
  · exact ⟨[x3], by simp [T.dataL, T.data, atI, ixN], Nat.le_refl _, one _ (by simp), fun h => absurd h (by decide)⟩
  · exact ⟨[], by simp [T.dataL, T.data, atI, ixN], by decide, fun x hx => (by cases hx), fun h => absurd h (by decide)⟩
  · exact ⟨[], by simp [T.dataL, T.data, atI, ixN], by decide, fun x hx => (by cases hx), fun h => absurd h (by decide)⟩
def swOk (m : Int) (ps : List Pr) : Prop := ∀ p ∈ ps, 0 ≤ p.1 ∧ p.1 < p.2 ∧ p.2 < m
theorem swOk_nil (m : Int) : swOk m [] := fun p h => by cases h
theorem swOk_app {m n : Int} {ps qs : List Pr} (h : swOk m ps) (hmn : m ≤ n) (k : swOk n qs) : swOk n (ps ++ qs) := fun p hp => by
  rcases List.mem_append.mp hp with hp | hp
  · have := h p hp
    omega
  · exact k p hp
theorem nodup_app {m : Int} {ps qs : List Pr} (h : ps.Nodup) (k : qs.Nodup) (h1 : swOk m ps) (h2 : ∀ q ∈ qs, m ≤ q.2) : (ps ++ qs).Nodup := by
  rw [List.nodup_append]
  refine ⟨h, k, fun p hp q hq e => ?_⟩
  subst e
  have := h1 p hp
  have := h2 p hq
  omega
theorem nodup_inj {l : List Int} (h : l.Nodup) {i j : Nat} (hi : i < l.length) (hj : j < l.length) (e : l[i] = l[j]) : i = j := by
  have h' := List.pairwise_iff_getElem.mp h
  rcases Nat.lt_trichotomy i j with q | q | q
  · exact absurd e (h' i j hi hj q)
  · exact q
  · exact absurd e.symm (h' j i hj hi q)
def cpr (cs : List Int) (p : Pr) : Pr := (min (cs.getD p.1.toNat 0) (cs.getD p.2.toNat 0), max (cs.getD p.1.toNat 0) (cs.getD p.2.toNat 0))
theorem getD_in {cs : List Int} {i : Nat} (h : i < cs.length) : cs.getD i 0 = cs[i] := by
  rw [List.getD_eq_getElem?_getD, List.getElem?_eq_getElem h]
  rfl
theorem range_nodup (m : Nat) : ((List.range m).map Int.ofNat).Nodup := by
  rw [List.Nodup, List.pairwise_map]
  exact (List.nodup_range).imp fun h e => h (Int.ofNat.inj e)
theorem cpr_ok {cs : List Int} {m : Int} (hc : cs.Perm ((List.range m.toNat).map Int.ofNat)) {ps : List Pr} (h : swOk m ps) (hn : ps.Nodup) : swOk m (ps.map (cpr cs)) ∧ (ps.map (cpr cs)).Nodup := by
  have hlen : cs.length = m.toNat := by rw [hc.length_eq, List.length_map, List.length_range]
  have hnd : cs.Nodup := hc.nodup_iff.mpr (range_nodup _)
  have hin := perm_range hc
  have two : ∀ p ∈ ps, ∃ (h1 : p.1.toNat < cs.length) (h2 : p.2.toNat < cs.length), cpr cs p = (min cs[p.1.toNat] cs[p.2.toNat], max cs[p.1.toNat] cs[p.2.toNat]) := fun p hp => by
    have := h p hp
    exact ⟨by omega, by omega, by unfold cpr; rw [getD_in (by omega), getD_in (by omega)]⟩
  constructor
  · intro q hq
    obtain ⟨p, hp, rfl⟩ := List.mem_map.mp hq
    obtain ⟨h1, h2, e⟩ := two p hp
    have hp' := h p hp
    have ne : cs[p.1.toNat] ≠ cs[p.2.toNat] := fun e => by
      have := nodup_inj hnd h1 h2 e
      omega
    have a1 := hin _ (List.getElem_mem h1)
    have a2 := hin _ (List.getElem_mem h2)
    rw [e]
    simp only
    omega
  · rw [List.Nodup, List.pairwise_map]
    refine List.Pairwise.imp_of_mem (fun {p q} hp hq hne e => hne ?_) hn
    obtain ⟨h1, h2, e1⟩ := two p hp
    obtain ⟨h3, h4, e2⟩ := two q hq
    have hp' := h p hp
    have hq' := h q hq
    rw [e1, e2] at e
    simp only [Prod.mk.injEq] at e
    have : (cs[p.1.toNat] = cs[q.1.toNat] ∧ cs[p.2.toNat] = cs[q.2.toNat]) ∨ (cs[p.1.toNat] = cs[q.2.toNat] ∧ cs[p.2.toNat] = cs[q.1.toNat]) := by omega
    rcases this with ⟨q1, q2⟩ | ⟨q1, q2⟩
    · have := nodup_inj hnd h1 h3 q1
      have := nodup_inj hnd h2 h4 q2
      exact Prod.ext (by omega) (by omega)
    · have := nodup_inj hnd h1 h4 q1
      have := nodup_inj hnd h2 h3 q2
      omega
theorem srt_two {ns : List Int} {x y : Int} (h : ns.Perm [x, y]) (hs : ns.Pairwise (· ≤ ·)) : ns = [min x y, max x y] := by
  obtain ⟨u, v, rfl, hu, hv⟩ := two_of h
  have h1 : u ≤ v := by simpa using hs
  have h2 : x = u ∨ x = v := by simpa using h.mem_iff.mpr (by simp : x ∈ [x, y])
  have h3 : y = u ∨ y = v := by simpa using h.mem_iff.mpr (by simp : y ∈ [x, y])
  have : u = min x y ∧ v = max x y := by omega
  rw [this.1, this.2]
abbrev Q31 : Int := 2147483563
abbrev PR (n : Nat) (xs : List Int) : Prop := xs.Perm ((List.range n).map Int.ofNat)
theorem PR.len {n : Nat} {xs : List Int} (p : PR n xs) : xs.length = n := by rw [p.length_eq, List.length_map, List.length_range]
theorem PR.nd {n : Nat} {xs : List Int} (p : PR n xs) : xs.Nodup := p.nodup_iff.mpr (range_nodup n)
theorem PR.sub {n : Nat} {xs ys : List Int} (p : PR n xs) (q : PR n ys) : ∀ x ∈ xs, x ∈ ys := fun x hx => q.mem_iff.mpr (p.mem_iff.mp hx)
theorem PR.swp {n : Nat} {xs : List Int} (p : PR n xs) {q : Pr} (h1 : 0 ≤ q.1) (h2 : q.1 < n) (h3 : 0 ≤ q.2) (h4 : q.2 < n) : PR n (swp xs q) := by
  have := p.len
  exact (swp_perm (by omega) (by omega)).trans p
theorem l_hand {c k : Int} {Q : T → Rho → Prop} {R : Str → Rho → Prop} (h0 : 0 ≤ k) (h1 : k ≤ 1000000) (h : ∀ a b, 0 ≤ b → b < Q31 → Q (hd a b) [none, none]) : wp__law_hand [some (di c), some (di k)] Q R := by
  rw [wpe__law_hand]
  exfalso
  refine w_decD (fun g _ => ?_) (fun g _ => ?_)
  all_goals
    exfalso
    exact h _ _ (Int.emod_nonneg _ (by decide)) (Int.emod_lt_of_pos _ (by decide))
theorem l_draw {a b n : Int} {Q : T → Rho → Prop} {R : Str → Rho → Prop} (h0 : 0 < n) (h1 : n < 100000000) (h2 : 0 ≤ b) (h3 : b < Q31) (h : ∀ r a' b', 0 ≤ r → r < n → 0 ≤ b' → b' < Q31 → Q (di r) [some (hd a' b'), none]) :
    wp__law_draw [some (hd a b), some (di n)] Q R := by
  rw [wpe__law_draw]
  have h3' : b < 2147483563 := h3
  exfalso
  refine w_decD (fun g _ => ?_) (fun g _ => ?_)
  · exfalso
    exact h (a % n) (a / n) b (Int.emod_nonneg _ (by omega)) (Int.emod_lt_of_pos _ h0) h2 h3
  · exfalso
    exact h _ a _ (Int.emod_nonneg _ (by omega)) (Int.emod_lt_of_pos _ h0) (Int.emod_nonneg _ (by decide)) (Int.emod_lt_of_pos _ (by decide))
theorem l_shuffled {a b : Int} {n : Nat} {Q : T → Rho → Prop} {R : Str → Rho → Prop} (h1 : n ≤ 1000) (h2 : 0 ≤ b) (h3 : b < Q31)
    (h : ∀ a' b' (cs : List Int), 0 ≤ b' → b' < Q31 → PR n cs → Q (dis cs) [some (hd a' b'), none]) : wp__law_shuffled [some (hd a b), some (di n)] Q R := by
  rw [wpe__law_shuffled]
  have hu : (upI 0 ((n : Int)).toNat).length = n := by rw [upI_len]; simp
  have hup : (upI 0 ((n : Int)).toNat).map T.d = ((List.range n).map Int.ofNat).map fun m => T.d (.int m) := by
    unfold upI
    rw [List.map_map, List.map_map]
    simp
  exfalso
  rw [hup, hu]
  refine ⟨fun i acc ρ => ∃ (a b : Int) (cs lf : List Int), ρ = [some (hd a b), some (di n), some (dis lf), none] ∧ 0 ≤ b ∧ b < Q31 ∧ acc = (cs.map fun m => T.d (.int m)) ∧ PR n (cs ++ lf) ∧ cs.length = i, ⟨a, b, [], (List.range n).map Int.ofNat, rfl, h2, h3, rfl, .refl _, rfl⟩, fun i d acc ρ hq hI => ?_, fun acc ρ hI => ?_⟩
  · obtain ⟨a, b, cs, lf, rfl, h2, h3, rfl, hp, hl⟩ := hI
    obtain ⟨hi, rfl⟩ := upI_get hq
    have hlen := hp.len
    rw [List.length_append] at hlen
    have hll : (((lf.map fun m => T.d (.int m)).length : Nat) : Int) = lf.length := by rw [List.length_map]
    exfalso
    refine l_draw (by rw [hll]; omega) (by rw [hll]; omega) h2 h3 fun r a b r0 r1 h2 h3 => ?_
    rw [hll] at r1
    exfalso
    rw [ixN_nat r0 (by rw [List.length_map]; omega)]
    exfalso
    rw [List.getElem?_map, List.getElem?_eq_getElem (by omega : r.toNat < lf.length)]
    exfalso
    refine ⟨a, b, cs ++ [lf[r.toNat]], lf.eraseIdx r.toNat, ?_, h2, h3, ?_, ?_, ?_⟩
    · rw [erase_map]
      rfl
    · rw [List.map_append]
      rfl
    · refine List.Perm.trans ?_ hp
      rw [List.append_assoc]
      refine List.Perm.append_left cs ?_
      exact List.perm_append_comm.trans (erase_perm (List.getElem?_eq_getElem (by omega))).symm
    · rw [List.length_append]
      simp only [List.length_cons, List.length_nil]
      omega
  · obtain ⟨a, b, cs, lf, rfl, h2, h3, rfl, hp, hl⟩ := hI
    have hlen := hp.len
    rw [List.length_append] at hlen
    have e : lf = [] := List.length_eq_zero_iff.mp (by omega)
    subst e
    rw [List.append_nil] at hp
    exfalso
    exact h a b cs h2 h3 hp
theorem l_two {a b : Int} {n : Nat} {Q : T → Rho → Prop} {R : Str → Rho → Prop} (h1 : n ≤ 1000) (h2 : 0 ≤ b) (h3 : b < Q31)
    (h : ∀ a' b' (t : T) (one other : List Int), 0 ≤ b' → b' < Q31 → PR n one → PR n other → (t = .ls [L one, L other] ∨ t = .ls [L one, dis other]) → Q t [some (hd a' b'), none]) : wp__law_two [some (hd a b), some (di n)] Q R := by
  rw [wpe__law_two]
  unfold wpOf rd__law_two
  with_reducible refine s_seqO (fun ρ => ∃ (a b : Int) (one : List Int), ρ = [some (hd a b), some (di n), some (L one), none, none, none, none, none] ∧ 0 ≤ b ∧ b < Q31 ∧ PR n one) (fun ρ hI => ?_) fun K _ _ _ hK => ?_
  rotate_left 1
  · exfalso
    refine l_shuffled h1 h2 h3 fun a b cs h2 h3 hp => ?_
    exfalso
    exact hK _ ⟨a, b, cs, by rw [L_eq cs]; rfl, h2, h3, hp⟩
  obtain ⟨a, b, one, rfl, h2, h3, p1⟩ := hI
  have z1 := p1.len
  with_reducible refine s_seqO (fun ρ => ∃ (a b way : Int), ρ = [some (hd a b), some (di n), some (L one), some (di way), none, none, none, none] ∧ 0 ≤ b ∧ b < Q31) (fun ρ hI => ?_) fun K _ _ _ hK => ?_
  rotate_left 1
  · exfalso
    refine l_draw (by decide) (by decide) h2 h3 fun r a b r0 r1 h2 h3 => ?_
    exfalso
    exact hK _ ⟨a, b, r, rfl, h2, h3⟩
  obtain ⟨a, b, way, rfl, h2, h3⟩ := hI
  with_reducible refine s_seqC (fun ρ => ρ = [some (hd a b), some (di n), some (L one), some (di way), none, none, none, none] ∧ 0 < n) (fun ρ hI => ?_) fun K hK => ?_
  rotate_left 1
  · exfalso
    refine w_decD (fun q _ => ?_) (fun q _ => ?_)
    · exfalso
      refine l_shuffled h1 h2 h3 fun a b cs h2 h3 hp => ?_
      exfalso
      exact h a b _ one cs h2 h3 p1 hp (.inr rfl)
    · exfalso
      refine w_eqI (fun q2 _ => ?_) (fun q2 _ => ?_)
      · exfalso
        refine l_shuffled h1 h2 h3 fun a b cs h2 h3 hp => ?_
        exfalso
        exact h a b _ one cs h2 h3 p1 hp (.inr rfl)
      · exact hK _ ⟨rfl, by omega⟩
  obtain ⟨rfl, n0⟩ := hI
  with_reducible refine s_seqC (fun ρ => ρ = [some (hd a b), some (di n), some (L one), some (di way), none, none, none, none]) (fun ρ hI => ?_) fun K hK => ?_
  rotate_left 1
  · exfalso
    refine w_eqI (fun q _ => ?_) (fun q _ => ?_)
    · exfalso
      refine l_draw (by decide) (by decide) h2 h3 fun r a b r0 r1 h2 h3 => ?_
      exfalso
      have hr : r = 0 ∨ r = 1 := by omega
      rcases hr with rfl | rfl
      · exfalso
        exact h a b _ one one h2 h3 p1 p1 (.inr (by rw [dis_eq one]; rfl))
      · exfalso
        exact h a b _ one one.reverse h2 h3 p1 ((List.reverse_perm one).trans p1) (.inr (by rw [dis_eq one.reverse, List.map_reverse, List.map_reverse, List.map_reverse]; rfl))
    · exact hK _ rfl
  subst hI
  with_reducible refine s_seqO (fun ρ => ρ = [some (hd a b), some (di n), some (L one), some (di way), some (dis one), none, none, none]) (fun ρ hI => ?_) fun K _ _ _ hK => ?_
  rotate_left 1
  · exfalso
    exact hK _ (by rw [dis_eq one]; rfl)
  subst hI
  with_reducible refine s_seqO (fun ρ => ∃ (a b : Int) (cs : List Int) (o5 o6 o7 : Option T), ρ = [some (hd a b), some (di n), some (L one), some (di way), some (dis cs), o5, o6, o7] ∧ PR n cs ∧ 0 ≤ b ∧ b < Q31) (fun ρ hI => ?_) fun K _ _ _ hK => ?_
  rotate_left 1
  · exfalso
    refine l_draw (by decide) (by decide) h2 h3 fun r a b r0 r1 h2 h3 => ?_
    exfalso
    refine ⟨fun i ρ => ∃ (a b : Int) (cs : List Int) (o5 o6 o7 : Option T), ρ = [some (hd a b), some (di n), some (L one), some (di way), some (dis cs), o5, o6, o7] ∧ PR n cs ∧ 0 ≤ b ∧ b < Q31, ⟨a, b, one, none, none, none, rfl, p1, h2, h3⟩, fun i d ρ hq hI => ?_, fun ρ hI => hK ρ hI⟩
    obtain ⟨a, b, cs, o5, o6, o7, rfl, hp, h2, h3⟩ := hI
    obtain ⟨hi, rfl⟩ := upI_get hq
    have hlen := hp.len
    exfalso
    refine l_draw (by omega) (by omega) h2 h3 fun r a b r0 r1 h2 h3 => ?_
    exfalso
    refine l_draw (by omega) (by omega) h2 h3 fun q a b q0 q1 h2 h3 => ?_
    exfalso
    rw [at_map PyData.int q0 (by rw [hlen]; omega)]
    exfalso
    rw [at_map PyData.int r0 (by rw [hlen]; omega)]
    exfalso
    rw [ixN_nat r0 (by rw [List.length_map, hlen]; omega)]
    exfalso
    rw [ixN_nat q0 (by rw [List.length_set, List.length_map, hlen]; omega)]
    exfalso
    refine ⟨a, b, swp cs (r, q), some (di (0 + (i : Int))), some (di r), some (di q), ?_, hp.swp r0 r1 q0 q1, h2, h3⟩
    rw [dis_swp (p := (r, q)) (by simp only; omega) (by simp only; omega)]
    rfl
  obtain ⟨a, b, cs, o5, o6, o7, rfl, hp, h2, h3⟩ := hI
  exfalso
  exact h a b _ one cs h2 h3 p1 hp (.inl (by rw [L_eq cs]; rfl))
theorem l_cells {ns : List Int} {m : Int} {Q : T → Rho → Prop} {R : Str → Rho → Prop} (hn : ns.length ≤ 63) (h : ∀ cs : List Int, cs.length ≤ 64 → Q (.ls ((enumD (cs.map .int)).map T.d)) [none, none]) : wp__law_cells [some (.d (.list (ns.map .int))), some (di m)] Q R := by
  rw [wpe__law_cells]
  obtain ⟨n1, n2, e⟩ := cut_map PyData.int ns none (some m)
  have hz : ((ns.drop n1).take n2).length ≤ 63 := by
    rw [List.length_take, List.length_drop]
    omega
  have fin : ∀ (cs : List Int), cs.length ≤ 1 → Q (.ls ((enumD (cutD (ns.map PyData.int) none (some m) ++ cs.map .int)).map T.d)) [none, none] := fun cs hcs => by
    have := h ((ns.drop n1).take n2 ++ cs) (by rw [List.length_append]; omega)
    rw [List.map_append, ← e] at this
    exact this
  obtain ⟨c, hc⟩ : ∃ c : Bool, (T.d (PyData.list (ns.map PyData.int))).data.eqv (T.ls []).data = c := ⟨_, rfl⟩
  exfalso
  · exact sdI (cmp_ints ns [])
  all_goals simp only [hc]
  all_goals cases c
  all_goals try exact sdI (by decide)
  all_goals try exact fin [] (by decide)
  all_goals try exact fin [0] (by decide)
  all_goals
    refine sdI ?_
    rw [e, List.length_map]
    show _ + _ ≤ _
    first
    | (refine Nat.le_trans (Nat.add_le_add_left (m := 0) (show _ ≤ 0 from by decide) _) ?_; omega)
    | (refine Nat.le_trans (Nat.add_le_add_left (m := 1) (show _ ≤ 1 from by decide) _) ?_; omega)
/-! ### rows of neighbours' swaps -/
def swn (l : List Int) (i : Nat) : List Int := (l.set i (l.getD (i + 1) 0)).set (i + 1) (l.getD i 0)
theorem swn_len (l : List Int) (i : Nat) : (swn l i).length = l.length := by simp [swn]
theorem swn_ne {l : List Int} {i j : Nat} (h1 : j ≠ i) (h2 : j ≠ i + 1) : (swn l i).getD j 0 = l.getD j 0 := by
  unfold swn
  rw [List.getD_eq_getElem?_getD, List.getElem?_set_ne (by omega), List.getElem?_set_ne (by omega), ← List.getD_eq_getElem?_getD]
theorem swn_cons (x : Int) (t : List Int) (i : Nat) : swn (x :: t) (i + 1) = x :: swn t i := by simp [swn]
theorem swn_zero (x y : Int) (t : List Int) : swn (x :: y :: t) 0 = y :: x :: t := by simp [swn]
def inv : List Int → Nat
  | [] => 0
  | x :: t => t.countP (fun y => decide (y < x)) + inv t
theorem swn_perm : ∀ {l : List Int} {i : Nat}, i + 1 < l.length → (swn l i).Perm l
  | [], i, h => by simp at h
  | [x], i, h => by simp at h
  | x :: y :: t, 0, _ => by
    rw [swn_zero]
    exact List.Perm.swap _ _ _
  | x :: y :: t, i + 1, h => by
    rw [swn_cons]
    exact List.Perm.cons x (swn_perm (by simpa using h))
theorem inv_swn : ∀ {l : List Int} {i : Nat}, i + 1 < l.length → l.getD (i + 1) 0 < l.getD i 0 → inv (swn l i) + 1 = inv l
  | [], i, h, _ => by simp at h
  | [x], i, h, _ => by simp at h
  | x :: y :: t, 0, _, g => by
    have g' : y < x := by simpa using g
    rw [swn_zero]
    simp only [inv, List.countP_cons]
    have e1 : decide (y < x) = true := decide_eq_true g'
    have e2 : decide (x < y) = false := decide_eq_false (by omega)
    rw [e1, e2]
    simp
    omega
  | x :: y :: t, i + 1, h, g => by
    have h' : i + 1 < (y :: t).length := by simpa using h
    have ih := inv_swn h' (by simpa using g)
    rw [swn_cons]
    have p := (swn_perm h').countP_eq (fun z => decide (z < x))
    simp only [inv] at ih ⊢
    rw [p]
    omega
theorem inv_le : ∀ l : List Int, inv l ≤ l.length * l.length
  | [] => by simp [inv]
  | x :: t => by
    have h := inv_le t
    have h2 : t.countP (fun y => decide (y < x)) ≤ t.length := List.countP_le_length
    simp only [inv, List.length_cons]
    rw [Nat.succ_mul, Nat.mul_succ]
    omega
def fdIs (g : List Int) (i : Nat) : Prop := i + 1 < g.length ∧ g.getD (i + 1) 0 < g.getD i 0 ∧ ∀ j, j < i → g.getD j 0 ≤ g.getD (j + 1) 0
def fdNo (g : List Int) : Prop := ∀ j, j + 1 < g.length → g.getD j 0 ≤ g.getD (j + 1) 0
theorem fdIs_uniq {g : List Int} {i j : Nat} (h : fdIs g i) (k : fdIs g j) : i = j := by
  rcases Nat.lt_trichotomy i j with q | q | q
  · have := k.2.2 i q
    have := h.2.1
    omega
  · exact q
  · have := h.2.2 j q
    have := k.2.1
    omega
inductive Run (g : List Int) : List Pr → List Int → Prop
  | nil : Run g [] g
  | step {r : List Pr} {h : List Int} {i : Nat} : Run g r h → fdIs h i → Run g (r ++ [((i : Int), (i : Int) + 1)]) (swn h i)
theorem Run.len {g : List Int} {r : List Pr} {h : List Int} (R : Run g r h) : h.length = g.length ∧ r.length + inv h = inv g := by
  induction R with
  | nil => exact ⟨rfl, by simp⟩
  | step R f ih =>
    refine ⟨by rw [swn_len]; exact ih.1, ?_⟩
    have := inv_swn f.1 f.2.1
    rw [List.length_append]
    simp only [List.length_cons, List.length_nil]
    omega
theorem Run.uniq {g : List Int} : ∀ {n : Nat} {r1 r2 : List Pr} {h1 h2 : List Int}, r1.length = n → r2.length = n → Run g r1 h1 → Run g r2 h2 → r1 = r2 ∧ h1 = h2
  | 0, r1, r2, h1, h2, e1, e2, R1, R2 => by
    cases R1 with
    | nil =>
      cases R2 with
      | nil => exact ⟨rfl, rfl⟩
      | step R f => simp at e2
    | step R f => simp at e1
  | n + 1, r1, r2, h1, h2, e1, e2, R1, R2 => by
    cases R1 with
    | nil => simp at e1
    | step R1 f1 =>
      cases R2 with
      | nil => simp at e2
      | step R2 f2 =>
        obtain ⟨rfl, rfl⟩ := Run.uniq (n := n) (by simpa using e1) (by simpa using e2) R1 R2
        have := fdIs_uniq f1 f2
        subst this
        exact ⟨rfl, rfl⟩
theorem Run.pre {g : List Int} {r : List Pr} {h : List Int} (R : Run g r h) : ∀ n, n < r.length → ∃ h' i, Run g (r.take n) h' ∧ fdIs h' i := by
  induction R with
  | nil => intro n hn; simp at hn
  | @step r h i R f ih =>
    intro n hn
    rw [List.length_append] at hn
    simp only [List.length_cons, List.length_nil] at hn
    by_cases e : n < r.length
    · rw [List.take_append_of_le_length (by omega)]
      exact ih n e
    · have : n = r.length := by omega
      subst this
      rw [List.take_append_of_le_length (Nat.le_refl _), List.take_length]
      exact ⟨h, i, R, f⟩
theorem Run.fin {g : List Int} {r1 r2 : List Pr} {h1 h2 : List Int} (R1 : Run g r1 h1) (N1 : fdNo h1) (R2 : Run g r2 h2) (N2 : fdNo h2) : r1 = r2 := by
  have no : ∀ {r1 r2 : List Pr} {h1 h2 : List Int}, Run g r1 h1 → fdNo h1 → Run g r2 h2 → ¬ r1.length < r2.length := fun {r1 r2 h1 h2} R1 N1 R2 q => by
    obtain ⟨h', i, R', f⟩ := R2.pre _ q
    obtain ⟨_, rfl⟩ := Run.uniq (n := r1.length) rfl (by rw [List.length_take]; omega) R1 R'
    have := N1 i f.1
    have := f.2.1
    omega
  exact (Run.uniq (n := r1.length) rfl (by have := no R1 N1 R2; have := no R2 N2 R1; omega) R1 R2).1
/-- the places of one's marks in the other -/
def gl (one other : List Int) : List Int := one.map fun m => (other.idxOf m : Int)
theorem gl_len (one other : List Int) : (gl one other).length = one.length := by simp [gl]
theorem idx_int {ys : List Int} {m : Int} (h : m ∈ ys) : idxD (ys.map PyData.int) (.int m) = some (ys.idxOf m) := by
  unfold idxD
  rw [List.findIdx?_map]
  have e : (fun z => PyData.eqv z (.int m)) ∘ PyData.int = fun z : Int => decide (z = m) := by
    funext z
    exact kind_int.eqv z m
  rw [e]
  clear e
  induction ys with
  | nil => cases h
  | cons y ys ih =>
    rw [List.findIdx?_cons, List.idxOf_cons]
    by_cases q : y = m
    · subst q
      simp
    · have hm : m ∈ ys := by
        rcases List.mem_cons.mp h with e | e
        · exact absurd e.symm q
        · exact e
      have q' : (y == m) = false := by simpa using q
      simp [q, ih hm, q']
/-! dicts of a list's places -/
def kvE (k : Nat) : List Int → List (Key × PyData)
  | [] => []
  | x :: xs => (.inl x, .int (k : Nat)) :: kvE (k + 1) xs
theorem kvE_snoc : ∀ (xs : List Int) (k : Nat) (y : Int), kvE k (xs ++ [y]) = kvE k xs ++ [(.inl y, .int ((k + xs.length : Nat)))]
  | [], k, y => rfl
  | x :: xs, k, y => by
    simp only [List.cons_append, kvE, kvE_snoc xs (k + 1) y, List.length_cons]
    rw [show k + 1 + xs.length = k + (xs.length + 1) from by omega]
theorem kvE_key : ∀ {xs : List Int} {k : Nat} {p : Key × PyData}, p ∈ kvE k xs → ∃ x ∈ xs, p.1 = .inl x
  | [], k, p, h => by cases h
  | x :: xs, k, p, h => by
    rcases List.mem_cons.mp h with rfl | h
    · exact ⟨x, List.mem_cons_self, rfl⟩
    · obtain ⟨y, hy, e⟩ := kvE_key h
      exact ⟨y, List.mem_cons_of_mem _ hy, e⟩
theorem putD_new {xs : List (Key × PyData)} {k : Key} {d : PyData} (h : ∀ p ∈ xs, p.1 ≠ k) : putD xs k d = xs ++ [(k, d)] := by
  unfold putD
  rw [if_neg]
  simp only [List.any_eq_true, decide_eq_true_eq, not_exists, not_and]
  exact fun p hp => h p hp
theorem merge_new : ∀ (more xs : List (Key × PyData)), ((xs ++ more).map (·.1)).Nodup → mergeD xs more = xs ++ more
  | [], xs, _ => by simp [mergeD]
  | p :: more, xs, h => by
    have h' : ((xs ++ [p] ++ more).map (·.1)).Nodup := by simpa using h
    have hn : ∀ q ∈ xs, q.1 ≠ p.1 := fun q hq e => by
      rw [List.map_append, List.nodup_append] at h
      exact h.2.2 q.1 (List.mem_map_of_mem hq) p.1 (by simp) e
    show mergeD (putD xs p.1 p.2) more = _
    rw [putD_new hn, merge_new more _ h']
    simp
theorem kvE_nodup : ∀ {xs : List Int} {k : Nat}, xs.Nodup → ((kvE k xs).map (·.1)).Nodup
  | [], k, _ => List.nodup_nil
  | x :: xs, k, h => by
    obtain ⟨h1, h2⟩ := List.nodup_cons.mp h
    simp only [kvE, List.map_cons]
    refine List.nodup_cons.mpr ⟨fun m => ?_, kvE_nodup h2⟩
    obtain ⟨p, hp, e⟩ := List.mem_map.mp m
    obtain ⟨y, hy, e2⟩ := kvE_key hp
    rw [e2] at e
    cases e
    exact h1 hy
theorem kvE_get : ∀ {xs : List Int} {k : Nat} {m : Int}, m ∈ xs → getK (kvE k xs) (.inl m) = some (.int ((k + xs.idxOf m : Nat)))
  | [], k, m, h => by cases h
  | x :: xs, k, m, h => by
    unfold getK
    rw [kvE, List.find?_cons, List.idxOf_cons]
    by_cases e : x = m
    · subst e
      simp
    · have hm : m ∈ xs := by
        rcases List.mem_cons.mp h with q | q
        · exact absurd q.symm e
        · exact q
      have ih := kvE_get (k := k + 1) hm
      unfold getK at ih
      have e' : (x == m) = false := by simpa using e
      simp only [Sum.inl.injEq, e, decide_false, e', cond_false]
      rw [ih]
      congr 2
      omega
theorem dict_get {xs : List Int} (h : xs.Nodup) {m : Int} (hm : m ∈ xs) : getK (mergeD [] (kvE 0 xs)) (.inl m) = some (.int (xs.idxOf m : Nat)) := by
  rw [merge_new _ _ (by rw [List.nil_append]; exact kvE_nodup h), List.nil_append, kvE_get hm]
  simp
theorem enumD_get2 {cs : List Int} {i : Nat} {d : PyData} (h : (enumD (cs.map PyData.int))[i]? = some d) : ∃ c, cs[i]? = some c ∧ d = .tuple [.int (i : Nat), .int c] := by
  unfold enumD at h
  rw [List.getElem?_mapIdx, List.getElem?_map] at h
  cases e : cs[i]? with
  | none => simp [e] at h
  | some c =>
    simp [e] at h
    exact ⟨c, rfl, h.symm⟩
theorem s_asKv {o : Option T} {K : List (Key × PyData) → Prop} {x : T} {ps : List (Key × PyData)} (h : o = some x) (h2 : flat x = some (ps.map kvD)) (k : K ps) : asKv o K := by
  subst h
  unfold asKv
  rw [Option.bind_some, h2, Option.bind_some, kvL_map]
  exact k
theorem at_last {xs : List PyData} {y : PyData} : atI (xs ++ [y]) (-1) = some y := by
  unfold atI
  have e : ixN (xs ++ [y]).length (-1) = some xs.length := by
    unfold ixN
    rw [if_neg (by omega), List.length_append, List.length_singleton, if_pos (by omega)]
    congr 1
    omega
  rw [e]
  show (xs ++ [y])[xs.length]? = some y
  rw [List.getElem?_append_right (Nat.le_refl _), Nat.sub_self]
  rfl
theorem take_snoc {α : Type} {xs : List α} {j : Nat} {x : α} (h : xs[j]? = some x) : xs.take (j + 1) = xs.take j ++ [x] := by
  rw [List.take_add_one, h]
  rfl
theorem wp_args {wp : WP} {a b : Rho} {Q : T → Rho → Prop} {R : Str → Rho → Prop} (e : a = b) (h : wp b Q R) : wp a Q R := e ▸ h
theorem w_eqB2 {x : Bool} {b : Bool} {A : ¬ x = true → Prop} {B : x = true → Prop} (e : x = b) (h1 : b = true → ∀ h, B h) (h2 : b = false → ∀ h, A h) :
    @Decidable.rec (x = true) (fun _ => Prop) A B (instDecidableEqBool x true) :=
  w_dec (fun h => h1 (by rw [← e]; exact h) h) (fun h => h2 (by cases b with | true => exact absurd e h | false => rfl) h)
theorem s_cutT {ρ : Rho} {tt : DTT} {Q : Bool → Rho → Prop} (P : Bool → Rho → Prop) (hK : ∀ b ρ', P b ρ' → Q b ρ') (h : ∀ Q' : Bool → Rho → Prop, (∀ b ρ', P b ρ' → Q' b ρ') → tt ρ Q') : tt ρ Q := h Q hK
theorem swOk_take {m : Int} {ps : List Pr} (h : swOk m ps) (k : Nat) : swOk m (ps.take k) := fun p hp => h p (List.mem_of_mem_take hp)
theorem l_web2 {a b : Int} {n : Nat} {Q : T → Rho → Prop} {R : Str → Rho → Prop} (h1 : n ≤ 40) (h2 : 0 ≤ b) (h3 : b < Q31)
    (h : ∀ a' b' (web : List Pr), 0 ≤ b' → b' < Q31 → swOk n web → web.length ≤ 120 → Q (dps web) [some (hd a' b'), none]) : wp__law_web [some (hd a b), some (di n)] Q R := by
  rw [wpe__law_web]
  unfold wpOf rd__law_web
  with_reducible refine s_seqO (fun ρ => ρ = [some (hd a b), some (di n), some (dps []), none, none, none, none, none, none]) (fun ρ hI => ?_) fun K _ _ _ hK => ?_
  rotate_left 1
  · exfalso
    exact hK _ rfl
  subst hI
  with_reducible refine s_seqO (fun ρ => ∃ (ev : List Pr) (o8 : Option T), ρ = [some (hd a b), some (di n), some (dps ev), none, none, none, none, none, o8] ∧ swOk n ev ∧ ev.length ≤ 1600) (fun ρ hI => ?_) fun K _ _ _ hK => ?_
  rotate_left 1
  · exfalso
    refine ⟨fun i ρ => ∃ (ev : List Pr) (o8 : Option T), ρ = [some (hd a b), some (di n), some (dps ev), none, none, none, none, none, o8] ∧ swOk n ev ∧ ev.length ≤ 40 * i, ⟨[], none, rfl, fun p hp => (by cases hp), Nat.le_refl _⟩, fun i d ρ hq hI => ?_, fun ρ hI => ?_⟩
    · obtain ⟨ev, o8, rfl, he, hl⟩ := hI
      obtain ⟨hi, rfl⟩ := upI_get hq
      have hi' : i < n := by simpa using hi
      exfalso
      · exact sdI (by rw [upI_len]; omega)
      refine ⟨fun j acc ρ => ∃ ps : List Pr, ρ = [some (hd a b), some (di n), some (dps ev), none, none, none, none, none, some (di (0 + (i : Int)))] ∧ acc = (ps.map fun p => T.d (pairD p)) ∧ swOk n ps ∧ ps.length ≤ j, ⟨[], rfl, rfl, fun p hp => (by cases hp), Nat.le_refl _⟩, fun j d acc ρ hq2 hI => ?_, fun acc ρ hI => ?_⟩
      · obtain ⟨ps, rfl, rfl, hp, hpl⟩ := hI
        obtain ⟨hj, rfl⟩ := upI_get hq2
        exfalso
        refine ⟨ps ++ [(0 + (i : Int), 0 + (i : Int) + 1 + (j : Int))], rfl, by rw [List.map_append]; rfl, fun p hq => ?_, by rw [List.length_append]; simp only [List.length_cons, List.length_nil]; omega⟩
        rcases List.mem_append.mp hq with m | m
        · exact hp p m
        · rw [List.mem_singleton.mp m]
          simp only
          omega
      · obtain ⟨ps, rfl, rfl, hp, hpl⟩ := hI
        rw [upI_len] at hpl
        exfalso
        · exact sdI (by rw [List.length_map, List.length_map]; omega)
        refine ⟨ev ++ ps, some (di (0 + (i : Int))), ?_, swOk_app he (Int.le_refl _) hp, by rw [List.length_append]; omega⟩
        show _ = [_, _, some (dps (ev ++ ps)), _, _, _, _, _, _]
        unfold dps
        rw [List.map_append]
        rfl
    · obtain ⟨ev, o8, rfl, he, hl⟩ := hI
      rw [upI_len] at hl
      exact hK _ ⟨ev, o8, rfl, he, by simp at hl; omega⟩
  obtain ⟨ev, o8, rfl, he, hl⟩ := hI
  have cut : ∀ (ps : List Pr), swOk n ps → ∀ a b, 0 ≤ b → b < Q31 → ∀ t, t = T.ls ((cutD (ps.map pairD) none (some 120)).map T.d) → Q t [some (hd a b), none] := fun ps hp a b h2 h3 t ht => by
    subst ht
    have e1 : cutD (ps.map pairD) none (some 120) = (ps.take 120).map pairD := (cut_nat pairD (xs := ps) (i := 120) (by decide)).2
    rw [e1]
    have := h a b (ps.take 120) h2 h3 (swOk_take hp 120) (by rw [List.length_take]; omega)
    rw [dps_eq] at this
    exact this
  with_reducible refine s_seqO (fun ρ => ∃ a b way : Int, ρ = [some (hd a b), some (di n), some (dps ev), some (di way), none, none, none, none, o8] ∧ 0 ≤ b ∧ b < Q31) (fun ρ hI => ?_) fun K _ _ _ hK => ?_
  rotate_left 1
  · exfalso
    refine l_draw (by decide) (by decide) h2 h3 fun r a b r0 r1 h2 h3 => ?_
    exfalso
    exact hK _ ⟨a, b, r, rfl, h2, h3⟩
  obtain ⟨a, b, way, rfl, h2, h3⟩ := hI
  with_reducible refine s_seqC (fun ρ => ρ = [some (hd a b), some (di n), some (dps ev), some (di way), none, none, none, none, o8]) (fun ρ hI => ?_) fun K hK => ?_
  rotate_left 1
  · exfalso
    refine w_decD (fun q _ => ?_) (fun q _ => ?_)
    · exfalso
      refine l_draw (by decide) (by decide) h2 h3 fun r a b r0 r1 h2 h3 => ?_
      have hdl : T.dataL (ev.map fun p => T.d (pairD p)) = ev.map pairD := dataL_m _ _
      exfalso
      all_goals rw [hdl]
      · exact sdI (by rw [List.length_map]; omega)
      refine ⟨fun i acc ρ => ∃ (a b : Int) (ps : List Pr), ρ = [some (hd a b), some (di n), some (.d (dps ev).data), some (di way), some (di (1 + r)), none, none, none, o8] ∧ acc = (ps.map fun p => T.d (pairD p)) ∧ swOk n ps ∧ 0 ≤ b ∧ b < Q31, ⟨a, b, [], rfl, rfl, fun p hp => (by cases hp), h2, h3⟩, fun i d acc ρ hq hI => ?_, fun acc ρ hI => ?_⟩
      · obtain ⟨a, b, ps, rfl, rfl, hp, h2, h3⟩ := hI
        rw [List.getElem?_map] at hq
        cases hx : ev[i]? with
        | none => simp [hx] at hq
        | some p =>
        rw [hx] at hq
        cases hq
        exfalso
        refine l_draw (by decide) (by decide) h2 h3 fun r2 a b r0 r1 h2 h3 => ?_
        exfalso
        refine w_decD (fun q _ => ?_) (fun q _ => ?_)
        · exfalso
          refine ⟨a, b, ps ++ [p], rfl, by rw [List.map_append]; rfl, fun p' hq => ?_, h2, h3⟩
          rcases List.mem_append.mp hq with m | m
          · exact hp p' m
          · rw [List.mem_singleton.mp m]
            exact he p (List.mem_of_getElem? hx)
        · exact ⟨a, b, ps, rfl, rfl, hp, h2, h3⟩
      · obtain ⟨a, b, ps, rfl, rfl, hp, h2, h3⟩ := hI
        exfalso
        exact cut ps hp a b h2 h3 _ rfl
    · exact hK _ rfl
  subst hI
  with_reducible refine s_seqC (fun ρ => ρ = [some (hd a b), some (di n), some (dps ev), some (di way), none, none, none, none, o8]) (fun ρ hI => ?_) fun K hK => ?_
  rotate_left 1
  · exfalso
    refine w_eqI (fun q _ => ?_) (fun q _ => ?_)
    · exfalso
      · exact sdI (by rw [upI_len]; omega)
      refine ⟨fun j acc ρ => ∃ ps : List Pr, ρ = [some (hd a b), some (di n), some (dps ev), some (di way), none, none, none, none, none] ∧ acc = (ps.map fun p => T.d (pairD p)) ∧ swOk n ps, ⟨[], rfl, rfl, fun p hp => (by cases hp)⟩, fun j d acc ρ hq2 hI => ?_, fun acc ρ hI => ?_⟩
      · obtain ⟨ps, rfl, rfl, hp⟩ := hI
        obtain ⟨hj, rfl⟩ := upI_get hq2
        exfalso
        refine ⟨ps ++ [(0 + (j : Int), 0 + (j : Int) + 1)], rfl, by rw [List.map_append]; rfl, fun p hq => ?_⟩
        rcases List.mem_append.mp hq with m | m
        · exact hp p m
        · rw [List.mem_singleton.mp m]
          simp only
          omega
      · obtain ⟨ps, rfl, rfl, hp⟩ := hI
        exfalso
        refine l_draw (by decide) (by decide) h2 h3 fun r a b r0 r1 h2 h3 => ?_
        have hr : r = 0 ∨ r = 1 := by omega
        exfalso
        rcases hr with rfl | rfl
        · exfalso
          exact cut ev he a b h2 h3 _ (by rw [dataL_m])
        · exfalso
          exact cut ps hp a b h2 h3 _ rfl
    · exact hK _ rfl
  subst hI
  with_reducible refine s_seqC (fun ρ => ρ = [some (hd a b), some (di n), some (dps ev), some (di way), none, none, none, none, o8]) (fun ρ hI => ?_) fun K hK => ?_
  rotate_left 1
  · exfalso
    refine w_eqI (fun q _ => ?_) (fun q _ => ?_)
    · exfalso
      · exact sdI (by rw [upI_len]; omega)
      refine ⟨fun j acc ρ => ∃ ps : List Pr, ρ = [some (hd a b), some (di n), some (dps ev), some (di way), none, none, none, none, o8] ∧ acc = (ps.map fun p => T.d (pairD p)) ∧ swOk n ps ∧ ps.length ≤ j, ⟨[], rfl, rfl, fun p hp => (by cases hp), Nat.le_refl _⟩, fun j d acc ρ hq2 hI => ?_, fun acc ρ hI => ?_⟩
      · obtain ⟨ps, rfl, rfl, hp, hpl⟩ := hI
        obtain ⟨hj, rfl⟩ := upI_get hq2
        exfalso
        refine ⟨ps ++ [((0 : Int), 1 + (j : Int))], rfl, by rw [List.map_append]; rfl, fun p hq => ?_, by rw [List.length_append]; simp only [List.length_cons, List.length_nil]; omega⟩
        rcases List.mem_append.mp hq with m | m
        · exact hp p m
        · rw [List.mem_singleton.mp m]
          simp only
          omega
      · obtain ⟨ps, rfl, rfl, hp, hpl⟩ := hI
        rw [upI_len] at hpl
        exfalso
        exact h a b ps h2 h3 hp (by omega)
    · exact hK _ rfl
  subst hI
  with_reducible refine s_seqC (fun ρ => ρ = [some (hd a b), some (di n), some (dps ev), some (di way), none, none, none, none, o8]) (fun ρ hI => ?_) fun K hK => ?_
  rotate_left 1
  · exfalso
    refine w_eqI (fun q _ => ?_) (fun q _ => ?_)
    · exfalso
      · exact sdI (by rw [upI_len]; omega)
      refine ⟨fun j acc ρ => ∃ (a b : Int) (ps : List Pr), ρ = [some (hd a b), some (di n), some (dps ev), some (di way), none, none, none, none, o8] ∧ acc = (ps.map fun p => T.d (pairD p)) ∧ swOk n ps ∧ ps.length ≤ j ∧ 0 ≤ b ∧ b < Q31, ⟨a, b, [], rfl, rfl, fun p hp => (by cases hp), Nat.le_refl _, h2, h3⟩, fun j d acc ρ hq2 hI => ?_, fun acc ρ hI => ?_⟩
      · obtain ⟨a, b, ps, rfl, rfl, hp, hpl, h2, h3⟩ := hI
        obtain ⟨hj, rfl⟩ := upI_get hq2
        exfalso
        refine l_draw (by omega) (by omega) h2 h3 fun r a b r0 r1 h2 h3 => ?_
        exfalso
        refine ⟨a, b, ps ++ [(r, 1 + (j : Int))], rfl, by rw [List.map_append]; rfl, fun p hq => ?_, by rw [List.length_append]; simp only [List.length_cons, List.length_nil]; omega, h2, h3⟩
        rcases List.mem_append.mp hq with m | m
        · exact hp p m
        · rw [List.mem_singleton.mp m]
          simp only
          omega
      · obtain ⟨a, b, ps, rfl, rfl, hp, hpl, h2, h3⟩ := hI
        rw [upI_len] at hpl
        exfalso
        intro ps' hp' _
        exfalso
        exact h a b ps' h2 h3 (fun p hq => hp p (hp'.mem_iff.mp hq)) (by rw [hp'.length_eq]; omega)
    · exact hK _ rfl
  subst hI
  with_reducible refine s_seqO (fun ρ => ∃ a b c : Int, ρ = [some (hd a b), some (di n), some (dps ev), some (di way), none, some (di c), none, none, o8] ∧ 0 ≤ b ∧ b < Q31) (fun ρ hI => ?_) fun K _ _ _ hK => ?_
  rotate_left 1
  · exfalso
    refine l_draw (by omega) (by omega) h2 h3 fun r a b r0 r1 h2 h3 => ?_
    exfalso
    exact hK _ ⟨a, b, r, rfl, h2, h3⟩
  obtain ⟨a, b, c, rfl, h2, h3⟩ := hI
  have hdl : T.dataL (ev.map fun p => T.d (pairD p)) = ev.map pairD := dataL_m _ _
  exfalso
  all_goals rw [hdl]
  · exact sdI (by rw [List.length_map]; omega)
  refine ⟨fun i acc ρ => ∃ (a b : Int) (ps : List Pr), ρ = [some (hd a b), some (di n), some (.d (dps ev).data), some (di way), none, some (di c), none, none, o8] ∧ acc = (ps.map fun p => T.d (pairD p)) ∧ swOk n ps ∧ 0 ≤ b ∧ b < Q31, ⟨a, b, [], rfl, rfl, fun p hp => (by cases hp), h2, h3⟩, fun i d acc ρ hq hI => ?_, fun acc ρ hI => ?_⟩
  · obtain ⟨a, b, ps, rfl, rfl, hp, h2, h3⟩ := hI
    rw [List.getElem?_map] at hq
    cases hx : ev[i]? with
    | none => simp [hx] at hq
    | some p =>
    rw [hx] at hq
    cases hq
    have stay : ∀ (a b : Int), 0 ≤ b → b < Q31 → ∃ (a' b' : Int) (ps' : List Pr), [some (hd a b), some (di n), some (.d (dps ev).data), some (di way), none, some (di c), none, none, o8] = [some (hd a' b'), some (di n), some (.d (dps ev).data), some (di way), none, some (di c), none, none, o8] ∧ (ps.map fun p => T.d (pairD p)) = (ps'.map fun p => T.d (pairD p)) ∧ swOk n ps' ∧ 0 ≤ b' ∧ b' < Q31 := fun a b h2 h3 => ⟨a, b, ps, rfl, rfl, hp, h2, h3⟩
    exfalso
    refine w_dec (fun q => ?_) (fun q => ?_)
    · exfalso
      refine l_draw (by decide) (by decide) h2 h3 fun r a b r0 r1 h2 h3 => ?_
      exfalso
      refine w_decD (fun q _ => ?_) (fun q _ => ?_)
      · exfalso
        refine ⟨a, b, ps ++ [p], rfl, by rw [List.map_append]; rfl, fun p' hq => ?_, h2, h3⟩
        rcases List.mem_append.mp hq with m | m
        · exact hp p' m
        · rw [List.mem_singleton.mp m]
          exact he p (List.mem_of_getElem? hx)
      · exact stay a b h2 h3
    · exact stay a b h2 h3
  · obtain ⟨a, b, ps, rfl, rfl, hp, h2, h3⟩ := hI
    exfalso
    exact cut ps hp a b h2 h3 _ rfl
theorem srt_snoc {ps : List Pr} {x : Pr} (h : ps.Pairwise lexle) (k : ∀ p ∈ ps, lexle p x) : (ps ++ [x]).Pairwise lexle := List.pairwise_append.mpr ⟨h, List.pairwise_singleton _ _, fun a ha b hb => by
  rw [List.mem_singleton.mp hb]
  exact k a ha⟩
theorem take_snocF {α : Type} {xs : List α} {j : Nat} {x : α} (h : xs[j]? = some x) : xs.take (j + 1) = xs.take j ++ [x] := by
  rw [List.take_add_one, h]
  rfl
theorem l_web2s {a b : Int} {n : Nat} {Q : T → Rho → Prop} {R : Str → Rho → Prop} (h1 : n ≤ 40) (h2 : 0 ≤ b) (h3 : b < Q31)
    (h : ∀ a' b' (web : List Pr), 0 ≤ b' → b' < Q31 → swOk n web → web.Pairwise lexle → web.length ≤ 120 → Q (dps web) [some (hd a' b'), none]) : wp__law_web [some (hd a b), some (di n)] Q R := by
  rw [wpe__law_web]
  unfold wpOf rd__law_web
  with_reducible refine s_seqO (fun ρ => ρ = [some (hd a b), some (di n), some (dps []), none, none, none, none, none, none]) (fun ρ hI => ?_) fun K _ _ _ hK => ?_
  rotate_left 1
  · exfalso
    exact hK _ rfl
  subst hI
  with_reducible refine s_seqO (fun ρ => ∃ (ev : List Pr) (o8 : Option T), ρ = [some (hd a b), some (di n), some (dps ev), none, none, none, none, none, o8] ∧ swOk n ev ∧ ev.Pairwise lexle ∧ ev.length ≤ 1600) (fun ρ hI => ?_) fun K _ _ _ hK => ?_
  rotate_left 1
  · exfalso
    refine ⟨fun i ρ => ∃ (ev : List Pr) (o8 : Option T), ρ = [some (hd a b), some (di n), some (dps ev), none, none, none, none, none, o8] ∧ swOk n ev ∧ (ev.Pairwise lexle ∧ ∀ p ∈ ev, p.1 < (i : Int)) ∧ ev.length ≤ 40 * i, ⟨[], none, rfl, fun p hp => (by cases hp), ⟨.nil, fun p hp => (by cases hp)⟩, Nat.le_refl _⟩, fun i d ρ hq hI => ?_, fun ρ hI => ?_⟩
    · obtain ⟨ev, o8, rfl, he, hes, hl⟩ := hI
      obtain ⟨hi, rfl⟩ := upI_get hq
      have hi' : i < n := by simpa using hi
      exfalso
      · exact sdI (by rw [upI_len]; omega)
      refine ⟨fun j acc ρ => ∃ ps : List Pr, ρ = [some (hd a b), some (di n), some (dps ev), none, none, none, none, none, some (di (0 + (i : Int)))] ∧ acc = (ps.map fun p => T.d (pairD p)) ∧ swOk n ps ∧ (ps.Pairwise lexle ∧ ∀ p ∈ ps, p.1 = (i : Int) ∧ p.2 < (i : Int) + 1 + (j : Int)) ∧ ps.length ≤ j, ⟨[], rfl, rfl, fun p hp => (by cases hp), ⟨.nil, fun p hp => (by cases hp)⟩, Nat.le_refl _⟩, fun j d acc ρ hq2 hI => ?_, fun acc ρ hI => ?_⟩
      · obtain ⟨ps, rfl, rfl, hp, hps, hpl⟩ := hI
        obtain ⟨hj, rfl⟩ := upI_get hq2
        exfalso
        refine ⟨ps ++ [(0 + (i : Int), 0 + (i : Int) + 1 + (j : Int))], rfl, by rw [List.map_append]; rfl, fun p hq => ?_, ⟨srt_snoc hps.1 fun p hm => by
          have := hps.2 p hm
          unfold lexle
          simp only
          omega, fun p hm => by
          rcases List.mem_append.mp hm with m | m
          · have := hps.2 p m
            omega
          · rw [List.mem_singleton.mp m]
            simp only
            omega⟩, by rw [List.length_append]; simp only [List.length_cons, List.length_nil]; omega⟩
        rcases List.mem_append.mp hq with m | m
        · exact hp p m
        · rw [List.mem_singleton.mp m]
          simp only
          omega
      · obtain ⟨ps, rfl, rfl, hp, hps, hpl⟩ := hI
        rw [upI_len] at hpl
        exfalso
        · exact sdI (by rw [List.length_map, List.length_map]; omega)
        refine ⟨ev ++ ps, some (di (0 + (i : Int))), ?_, swOk_app he (Int.le_refl _) hp, ⟨List.pairwise_append.mpr ⟨hes.1, hps.1, fun a ha b hb => by
          have h1 := hes.2 a ha
          have h2 := hps.2 b hb
          unfold lexle
          omega⟩, fun p hm => by
          rcases List.mem_append.mp hm with m | m
          · have := hes.2 p m
            omega
          · have := hps.2 p m
            omega⟩, by rw [List.length_append]; omega⟩
        show _ = [_, _, some (dps (ev ++ ps)), _, _, _, _, _, _]
        unfold dps
        rw [List.map_append]
        rfl
    · obtain ⟨ev, o8, rfl, he, hes, hl⟩ := hI
      rw [upI_len] at hl
      exact hK _ ⟨ev, o8, rfl, he, hes.1, by simp at hl; omega⟩
  obtain ⟨ev, o8, rfl, he, hes, hl⟩ := hI
  have cut : ∀ (ps : List Pr), swOk n ps → ps.Pairwise lexle → ∀ a b, 0 ≤ b → b < Q31 → ∀ t, t = T.ls ((cutD (ps.map pairD) none (some 120)).map T.d) → Q t [some (hd a b), none] := fun ps hp hps a b h2 h3 t ht => by
    subst ht
    have e1 : cutD (ps.map pairD) none (some 120) = (ps.take 120).map pairD := (cut_nat pairD (xs := ps) (i := 120) (by decide)).2
    rw [e1]
    have := h a b (ps.take 120) h2 h3 (swOk_take hp 120) (hps.sublist (List.take_sublist _ _)) (by rw [List.length_take]; omega)
    rw [dps_eq] at this
    exact this
  with_reducible refine s_seqO (fun ρ => ∃ a b way : Int, ρ = [some (hd a b), some (di n), some (dps ev), some (di way), none, none, none, none, o8] ∧ 0 ≤ b ∧ b < Q31) (fun ρ hI => ?_) fun K _ _ _ hK => ?_
  rotate_left 1
  · exfalso
    refine l_draw (by decide) (by decide) h2 h3 fun r a b r0 r1 h2 h3 => ?_
    exfalso
    exact hK _ ⟨a, b, r, rfl, h2, h3⟩
  obtain ⟨a, b, way, rfl, h2, h3⟩ := hI
  with_reducible refine s_seqC (fun ρ => ρ = [some (hd a b), some (di n), some (dps ev), some (di way), none, none, none, none, o8]) (fun ρ hI => ?_) fun K hK => ?_
  rotate_left 1
  · exfalso
    refine w_decD (fun q _ => ?_) (fun q _ => ?_)
    · exfalso
      refine l_draw (by decide) (by decide) h2 h3 fun r a b r0 r1 h2 h3 => ?_
      have hdl : T.dataL (ev.map fun p => T.d (pairD p)) = ev.map pairD := dataL_m _ _
      exfalso
      all_goals rw [hdl]
      · exact sdI (by rw [List.length_map]; omega)
      refine ⟨fun i acc ρ => ∃ (a b : Int) (ps : List Pr), ρ = [some (hd a b), some (di n), some (.d (dps ev).data), some (di way), some (di (1 + r)), none, none, none, o8] ∧ acc = (ps.map fun p => T.d (pairD p)) ∧ swOk n ps ∧ 0 ≤ b ∧ b < Q31 ∧ List.Sublist ps (ev.take i), ⟨a, b, [], rfl, rfl, fun p hp => (by cases hp), h2, h3, List.nil_sublist _⟩, fun i d acc ρ hq hI => ?_, fun acc ρ hI => ?_⟩
      · obtain ⟨a, b, ps, rfl, rfl, hp, h2, h3, hsb⟩ := hI
        rw [List.getElem?_map] at hq
        cases hx : ev[i]? with
        | none => simp [hx] at hq
        | some p =>
        rw [hx] at hq
        cases hq
        have esn := take_snocF hx
        exfalso
        refine l_draw (by decide) (by decide) h2 h3 fun r2 a b r0 r1 h2 h3 => ?_
        exfalso
        refine w_decD (fun q _ => ?_) (fun q _ => ?_)
        · exfalso
          refine ⟨a, b, ps ++ [p], rfl, by rw [List.map_append]; rfl, fun p' hq => ?_, h2, h3, by rw [esn]; exact hsb.append (List.Sublist.refl _)⟩
          rcases List.mem_append.mp hq with m | m
          · exact hp p' m
          · rw [List.mem_singleton.mp m]
            exact he p (List.mem_of_getElem? hx)
        · exact ⟨a, b, ps, rfl, rfl, hp, h2, h3, by rw [esn]; exact hsb.trans (List.sublist_append_left _ _)⟩
      · obtain ⟨a, b, ps, rfl, rfl, hp, h2, h3, hsb⟩ := hI
        exfalso
        rw [List.length_map, List.take_length] at hsb
        exact cut ps hp (hes.sublist hsb) a b h2 h3 _ rfl
    · exact hK _ rfl
  subst hI
  with_reducible refine s_seqC (fun ρ => ρ = [some (hd a b), some (di n), some (dps ev), some (di way), none, none, none, none, o8]) (fun ρ hI => ?_) fun K hK => ?_
  rotate_left 1
  · exfalso
    refine w_eqI (fun q _ => ?_) (fun q _ => ?_)
    · exfalso
      · exact sdI (by rw [upI_len]; omega)
      refine ⟨fun j acc ρ => ∃ ps : List Pr, ρ = [some (hd a b), some (di n), some (dps ev), some (di way), none, none, none, none, none] ∧ acc = (ps.map fun p => T.d (pairD p)) ∧ swOk n ps ∧ (ps.Pairwise lexle ∧ ∀ p ∈ ps, p.1 < (j : Int)), ⟨[], rfl, rfl, fun p hp => (by cases hp), .nil, fun p hp => (by cases hp)⟩, fun j d acc ρ hq2 hI => ?_, fun acc ρ hI => ?_⟩
      · obtain ⟨ps, rfl, rfl, hp, hps⟩ := hI
        obtain ⟨hj, rfl⟩ := upI_get hq2
        exfalso
        refine ⟨ps ++ [(0 + (j : Int), 0 + (j : Int) + 1)], rfl, by rw [List.map_append]; rfl, fun p hq => ?_, ⟨srt_snoc hps.1 fun p hm => by
          have := hps.2 p hm
          unfold lexle
          simp only
          omega, fun p hm => by
          rcases List.mem_append.mp hm with m | m
          · have := hps.2 p m
            omega
          · rw [List.mem_singleton.mp m]
            simp only
            omega⟩⟩
        rcases List.mem_append.mp hq with m | m
        · exact hp p m
        · rw [List.mem_singleton.mp m]
          simp only
          omega
      · obtain ⟨ps, rfl, rfl, hp, hps⟩ := hI
        exfalso
        refine l_draw (by decide) (by decide) h2 h3 fun r a b r0 r1 h2 h3 => ?_
        have hr : r = 0 ∨ r = 1 := by omega
        exfalso
        rcases hr with rfl | rfl
        · exfalso
          exact cut ev he hes a b h2 h3 _ (by rw [dataL_m])
        · exfalso
          exact cut ps hp hps.1 a b h2 h3 _ rfl
    · exact hK _ rfl
  subst hI
  with_reducible refine s_seqC (fun ρ => ρ = [some (hd a b), some (di n), some (dps ev), some (di way), none, none, none, none, o8]) (fun ρ hI => ?_) fun K hK => ?_
  rotate_left 1
  · exfalso
    refine w_eqI (fun q _ => ?_) (fun q _ => ?_)
    · exfalso
      · exact sdI (by rw [upI_len]; omega)
      refine ⟨fun j acc ρ => ∃ ps : List Pr, ρ = [some (hd a b), some (di n), some (dps ev), some (di way), none, none, none, none, o8] ∧ acc = (ps.map fun p => T.d (pairD p)) ∧ swOk n ps ∧ (ps.Pairwise lexle ∧ ∀ p ∈ ps, p.1 = 0 ∧ p.2 < 1 + (j : Int)) ∧ ps.length ≤ j, ⟨[], rfl, rfl, fun p hp => (by cases hp), ⟨.nil, fun p hp => (by cases hp)⟩, Nat.le_refl _⟩, fun j d acc ρ hq2 hI => ?_, fun acc ρ hI => ?_⟩
      · obtain ⟨ps, rfl, rfl, hp, hps, hpl⟩ := hI
        obtain ⟨hj, rfl⟩ := upI_get hq2
        exfalso
        refine ⟨ps ++ [((0 : Int), 1 + (j : Int))], rfl, by rw [List.map_append]; rfl, fun p hq => ?_, ⟨srt_snoc hps.1 fun p hm => by
          have := hps.2 p hm
          unfold lexle
          simp only
          omega, fun p hm => by
          rcases List.mem_append.mp hm with m | m
          · have := hps.2 p m
            omega
          · rw [List.mem_singleton.mp m]
            refine ⟨rfl, ?_⟩
            simp only
            omega⟩, by rw [List.length_append]; simp only [List.length_cons, List.length_nil]; omega⟩
        rcases List.mem_append.mp hq with m | m
        · exact hp p m
        · rw [List.mem_singleton.mp m]
          simp only
          omega
      · obtain ⟨ps, rfl, rfl, hp, hps, hpl⟩ := hI
        rw [upI_len] at hpl
        exfalso
        exact h a b ps h2 h3 hp hps.1 (by omega)
    · exact hK _ rfl
  subst hI
  with_reducible refine s_seqC (fun ρ => ρ = [some (hd a b), some (di n), some (dps ev), some (di way), none, none, none, none, o8]) (fun ρ hI => ?_) fun K hK => ?_
  rotate_left 1
  · exfalso
    refine w_eqI (fun q _ => ?_) (fun q _ => ?_)
    · exfalso
      · exact sdI (by rw [upI_len]; omega)
      refine ⟨fun j acc ρ => ∃ (a b : Int) (ps : List Pr), ρ = [some (hd a b), some (di n), some (dps ev), some (di way), none, none, none, none, o8] ∧ acc = (ps.map fun p => T.d (pairD p)) ∧ swOk n ps ∧ ps.length ≤ j ∧ 0 ≤ b ∧ b < Q31, ⟨a, b, [], rfl, rfl, fun p hp => (by cases hp), Nat.le_refl _, h2, h3⟩, fun j d acc ρ hq2 hI => ?_, fun acc ρ hI => ?_⟩
      · obtain ⟨a, b, ps, rfl, rfl, hp, hpl, h2, h3⟩ := hI
        obtain ⟨hj, rfl⟩ := upI_get hq2
        exfalso
        refine l_draw (by omega) (by omega) h2 h3 fun r a b r0 r1 h2 h3 => ?_
        exfalso
        refine ⟨a, b, ps ++ [(r, 1 + (j : Int))], rfl, by rw [List.map_append]; rfl, fun p hq => ?_, by rw [List.length_append]; simp only [List.length_cons, List.length_nil]; omega, h2, h3⟩
        rcases List.mem_append.mp hq with m | m
        · exact hp p m
        · rw [List.mem_singleton.mp m]
          simp only
          omega
      · obtain ⟨a, b, ps, rfl, rfl, hp, hpl, h2, h3⟩ := hI
        rw [upI_len] at hpl
        exfalso
        intro ps' hp' hps'
        exfalso
        exact h a b ps' h2 h3 (fun p hq => hp p (hp'.mem_iff.mp hq)) hps' (by rw [hp'.length_eq]; omega)
    · exact hK _ rfl
  subst hI
  with_reducible refine s_seqO (fun ρ => ∃ a b c : Int, ρ = [some (hd a b), some (di n), some (dps ev), some (di way), none, some (di c), none, none, o8] ∧ 0 ≤ b ∧ b < Q31) (fun ρ hI => ?_) fun K _ _ _ hK => ?_
  rotate_left 1
  · exfalso
    refine l_draw (by omega) (by omega) h2 h3 fun r a b r0 r1 h2 h3 => ?_
    exfalso
    exact hK _ ⟨a, b, r, rfl, h2, h3⟩
  obtain ⟨a, b, c, rfl, h2, h3⟩ := hI
  have hdl : T.dataL (ev.map fun p => T.d (pairD p)) = ev.map pairD := dataL_m _ _
  exfalso
  all_goals rw [hdl]
  · exact sdI (by rw [List.length_map]; omega)
  refine ⟨fun i acc ρ => ∃ (a b : Int) (ps : List Pr), ρ = [some (hd a b), some (di n), some (.d (dps ev).data), some (di way), none, some (di c), none, none, o8] ∧ acc = (ps.map fun p => T.d (pairD p)) ∧ swOk n ps ∧ 0 ≤ b ∧ b < Q31 ∧ List.Sublist ps (ev.take i), ⟨a, b, [], rfl, rfl, fun p hp => (by cases hp), h2, h3, List.nil_sublist _⟩, fun i d acc ρ hq hI => ?_, fun acc ρ hI => ?_⟩
  · obtain ⟨a, b, ps, rfl, rfl, hp, h2, h3, hsb⟩ := hI
    rw [List.getElem?_map] at hq
    cases hx : ev[i]? with
    | none => simp [hx] at hq
    | some p =>
    rw [hx] at hq
    cases hq
    have esn := take_snocF hx
    have stay : ∀ (a b : Int), 0 ≤ b → b < Q31 → ∃ (a' b' : Int) (ps' : List Pr), [some (hd a b), some (di n), some (.d (dps ev).data), some (di way), none, some (di c), none, none, o8] = [some (hd a' b'), some (di n), some (.d (dps ev).data), some (di way), none, some (di c), none, none, o8] ∧ (ps.map fun p => T.d (pairD p)) = (ps'.map fun p => T.d (pairD p)) ∧ swOk n ps' ∧ 0 ≤ b' ∧ b' < Q31 ∧ List.Sublist ps' (ev.take (i + 1)) := fun a b h2 h3 => ⟨a, b, ps, rfl, rfl, hp, h2, h3, by rw [esn]; exact hsb.trans (List.sublist_append_left _ _)⟩
    exfalso
    refine w_dec (fun q => ?_) (fun q => ?_)
    · exfalso
      refine l_draw (by decide) (by decide) h2 h3 fun r a b r0 r1 h2 h3 => ?_
      exfalso
      refine w_decD (fun q _ => ?_) (fun q _ => ?_)
      · exfalso
        refine ⟨a, b, ps ++ [p], rfl, by rw [List.map_append]; rfl, fun p' hq => ?_, h2, h3, by rw [esn]; exact hsb.append (List.Sublist.refl _)⟩
        rcases List.mem_append.mp hq with m | m
        · exact hp p' m
        · rw [List.mem_singleton.mp m]
          exact he p (List.mem_of_getElem? hx)
      · exact stay a b h2 h3
    · exact stay a b h2 h3
  · obtain ⟨a, b, ps, rfl, rfl, hp, h2, h3, hsb⟩ := hI
    exfalso
    rw [List.length_map, List.take_length] at hsb
    exact cut ps hp (hes.sublist hsb) a b h2 h3 _ rfl
/-! ### what hangs together -/
def clo (web : List Pr) (S : Int → Prop) : Prop := ∀ p ∈ web, S p.1 ↔ S p.2
def conn (web : List Pr) (i j : Int) : Prop := ∀ S : Int → Prop, clo web S → (S i ↔ S j)
theorem conn_refl (web : List Pr) (i : Int) : conn web i i := fun S _ => Iff.rfl
theorem conn_symm {web : List Pr} {i j : Int} (h : conn web i j) : conn web j i := fun S c => (h S c).symm
theorem conn_trans {web : List Pr} {i j k : Int} (h : conn web i j) (h2 : conn web j k) : conn web i k := fun S c => (h S c).trans (h2 S c)
/-- for each place its neighbours -/
def nearOk (web : List Pr) (n : Nat) (near : List (List Int)) : Prop := near.length = n ∧ ∀ a : Nat, a < n → ∀ b : Int, b ∈ near.getD a [] ↔ ((a : Int), b) ∈ web ∨ (b, (a : Int)) ∈ web
structure Wk (web : List Pr) (n : Nat) (p : Int) (f : List Int) : Prop where
  nd : f.Nodup
  rg : ∀ x ∈ f, 0 ≤ x ∧ x < n
  at0 : p ∈ f
  mn : ∀ x ∈ f, conn web p x
theorem walk_all {web : List Pr} {n : Nat} {p : Int} {f : List Int} {near : List (List Int)} (hw : swOk n web) (hn : nearOk web n near) (w : Wk web n p f) (hc : ∀ x ∈ f, ∀ y ∈ near.getD x.toNat [], y ∈ f) : ∀ x : Int, x ∈ f ↔ conn web p x := fun x => by
  refine ⟨w.mn x, fun h => ?_⟩
  refine (h (fun y => y ∈ f) fun q hq => ?_).mp w.at0
  obtain ⟨q1, q2, q3⟩ := hw q hq
  constructor
  · intro h1
    refine hc q.1 h1 q.2 ((hn.2 q.1.toNat (by omega) q.2).mpr (.inl ?_))
    rw [show ((q.1.toNat : Nat) : Int) = q.1 from by omega]
    exact hq
  · intro h1
    refine hc q.2 h1 q.1 ((hn.2 q.2.toNat (by omega) q.1).mpr (.inr ?_))
    rw [show ((q.2.toNat : Nat) : Int) = q.2 from by omega]
    exact hq
theorem conn_edge {web : List Pr} {p : Pr} (h : p ∈ web) : conn web p.1 p.2 := fun S c => c p h
/-- numbers told for places: alike just where they hang together -/
def labOk (web : List Pr) (n : Nat) (l : List Int) : Prop := l.length = n ∧ ∀ i j : Nat, i < n → j < n → (l.getD i 0 = l.getD j 0 ↔ conn web i j)
def relab (l : List Int) (p : Pr) : List Int := l.map fun x => if x = max (l.getD p.1.toNat 0) (l.getD p.2.toNat 0) then min (l.getD p.1.toNat 0) (l.getD p.2.toNat 0) else x
theorem relab_len (l : List Int) (p : Pr) : (relab l p).length = l.length := by simp [relab]
theorem relab_getD {l : List Int} (p : Pr) {i : Nat} (hi : i < l.length) : (relab l p).getD i 0 = if l.getD i 0 = max (l.getD p.1.toNat 0) (l.getD p.2.toNat 0) then min (l.getD p.1.toNat 0) (l.getD p.2.toNat 0) else l.getD i 0 := by
  unfold relab
  rw [List.getD_eq_getElem?_getD, List.getElem?_map, List.getElem?_eq_getElem hi, List.getD_eq_getElem?_getD (l := l) (i := i), List.getElem?_eq_getElem hi]
  rfl
def inRg (n : Nat) (ps : List Pr) : Prop := ∀ p ∈ ps, 0 ≤ p.1 ∧ p.1 < n ∧ 0 ≤ p.2 ∧ p.2 < n
/-- one swap more -/
theorem relab_ok {web : List Pr} {n : Nat} {l : List Int} {p : Pr} (hw : inRg n web) (h : labOk web n l) (h0 : 0 ≤ p.1) (h1 : p.1 < n) (h2 : 0 ≤ p.2) (h3 : p.2 < n) : labOk (web ++ [p]) n (relab l p) := by
  obtain ⟨hl, hk⟩ := h
  refine ⟨by rw [relab_len]; exact hl, fun i j hi hj => ?_⟩
  have up : ∀ {a b : Int}, conn web a b → conn (web ++ [p]) a b := fun h S c => h S fun q hq => c q (List.mem_append_left _ hq)
  have pe : conn (web ++ [p]) p.1 p.2 := conn_edge (List.mem_append_right _ (List.mem_singleton.mpr rfl))
  have c1 : ∀ k : Nat, k < n → (l.getD k 0 = l.getD p.1.toNat 0 → conn (web ++ [p]) k p.1) := fun k hk' e => by
    have := up ((hk k p.1.toNat hk' (by omega)).mp e)
    rwa [show ((p.1.toNat : Nat) : Int) = p.1 from by omega] at this
  have c2 : ∀ k : Nat, k < n → (l.getD k 0 = l.getD p.2.toNat 0 → conn (web ++ [p]) k p.2) := fun k hk' e => by
    have := up ((hk k p.2.toNat hk' (by omega)).mp e)
    rwa [show ((p.2.toNat : Nat) : Int) = p.2 from by omega] at this
  have c3 : ∀ k : Nat, k < n → (l.getD k 0 = l.getD p.1.toNat 0 ∨ l.getD k 0 = l.getD p.2.toNat 0) → conn (web ++ [p]) k p.1 := fun k hk' e => by
    rcases e with e | e
    · exact c1 k hk' e
    · exact conn_trans (c2 k hk' e) (conn_symm pe)
  rw [relab_getD p (by omega), relab_getD p (by omega)]
  constructor
  · intro e
    by_cases same : l.getD i 0 = l.getD j 0
    · exact up ((hk i j hi hj).mp same)
    · have ei : l.getD i 0 = l.getD p.1.toNat 0 ∨ l.getD i 0 = l.getD p.2.toNat 0 := by
        split at e <;> split at e <;> omega
      have ej : l.getD j 0 = l.getD p.1.toNat 0 ∨ l.getD j 0 = l.getD p.2.toNat 0 := by
        split at e <;> split at e <;> omega
      exact conn_trans (c3 i hi ei) (conn_symm (c3 j hj ej))
  · intro c
    obtain ⟨F, hF⟩ : ∃ F : Int → Int, F = fun x => if x = max (l.getD p.1.toNat 0) (l.getD p.2.toNat 0) then min (l.getD p.1.toNat 0) (l.getD p.2.toNat 0) else x := ⟨_, rfl⟩
    have cl : clo (web ++ [p]) fun x => F (l.getD x.toNat 0) = F (l.getD i 0) := fun q hq => by
      have e : F (l.getD q.1.toNat 0) = F (l.getD q.2.toNat 0) := by
        rcases List.mem_append.mp hq with hq | hq
        · have r := hw q hq
          have := (hk q.1.toNat q.2.toNat (by omega) (by omega)).mpr (by
            rw [show ((q.1.toNat : Nat) : Int) = q.1 from by omega, show ((q.2.toNat : Nat) : Int) = q.2 from by omega]
            exact conn_edge hq)
          rw [this]
        · rw [List.mem_singleton.mp hq, hF]
          simp only
          split <;> split <;> omega
      simp only [e]
    have := (c _ cl).mp (by rw [show ((i : Int)).toNat = i from by simp])
    rw [show ((j : Int)).toNat = j from by simp, hF] at this
    exact this.symm
theorem lab_zero (n : Nat) : labOk [] n ((List.range n).map Int.ofNat) := by
  refine ⟨by rw [List.length_map, List.length_range], fun i j hi hj => ?_⟩
  have at_ : ∀ k, k < n → ((List.range n).map Int.ofNat).getD k 0 = k := fun k hk => by
    rw [List.getD_eq_getElem?_getD, List.getElem?_map, List.getElem?_range hk]
    rfl
  rw [at_ i hi, at_ j hj]
  constructor
  · intro e
    rw [e]
    exact conn_refl _ _
  · intro c
    exact ((c (fun x => x = i) fun q hq => by cases hq).mp rfl).symm
theorem beh_app (os : List Int) (xs ys : List Pr) : beh (beh os xs) ys = beh os (xs ++ ys) := by simp [beh]
theorem swp_getD {l : List Int} {p : Pr} (h1 : p.1.toNat < l.length) (h2 : p.2.toNat < l.length) (k : Nat) : (swp l p).getD k 0 = if k = p.2.toNat then l.getD p.1.toNat 0 else if k = p.1.toNat then l.getD p.2.toNat 0 else l.getD k 0 := by
  unfold swp
  by_cases q : k = p.2.toNat
  · subst q
    rw [if_pos rfl, List.getD_eq_getElem?_getD, List.getElem?_set_self (by rw [List.length_set]; omega)]
    rfl
  · rw [if_neg q, List.getD_eq_getElem?_getD, List.getElem?_set_ne (by omega)]
    by_cases r : k = p.1.toNat
    · subst r
      rw [if_pos rfl, List.getElem?_set_self (by omega)]
      rfl
    · rw [if_neg r, List.getElem?_set_ne (by omega), ← List.getD_eq_getElem?_getD]
theorem extG {l m : List Int} (h : l.length = m.length) (k : ∀ i, i < l.length → l.getD i 0 = m.getD i 0) : l = m := by
  refine List.ext_getElem h fun i h1 h2 => ?_
  have := k i h1
  rw [List.getD_eq_getElem?_getD, List.getD_eq_getElem?_getD, List.getElem?_eq_getElem h1, List.getElem?_eq_getElem h2] at this
  exact this
theorem swp_swp {l : List Int} {p : Pr} (h1 : p.1.toNat < l.length) (h2 : p.2.toNat < l.length) : swp (swp l p) p = l := by
  refine extG (by rw [swp_len, swp_len]) fun k hk => ?_
  rw [swp_getD (by rw [swp_len]; exact h1) (by rw [swp_len]; exact h2), swp_getD h1 h2, swp_getD h1 h2, swp_getD h1 h2]
  by_cases q : k = p.2.toNat
  · rw [if_pos q]
    by_cases r : p.1.toNat = p.2.toNat
    · rw [if_pos r, q, r]
    · rw [if_neg r, if_pos rfl, q]
  · rw [if_neg q]
    by_cases r : k = p.1.toNat
    · rw [if_pos r, if_pos rfl, r]
    · rw [if_neg r, if_neg q, if_neg r]
/-! ### the least place of each part; the parts in order -/
def labMin (web : List Pr) (n : Nat) (l : List Int) : Prop := ∀ i : Nat, i < n → 0 ≤ l.getD i 0 ∧ l.getD i 0 ≤ i ∧ conn web (l.getD i 0) i
theorem range_getD {n k : Nat} (hk : k < n) : ((List.range n).map Int.ofNat).getD k 0 = k := by
  rw [List.getD_eq_getElem?_getD, List.getElem?_map, List.getElem?_range hk]
  rfl
theorem labMin_zero (n : Nat) : labMin [] n ((List.range n).map Int.ofNat) := fun i hi => by
  rw [range_getD hi]
  exact ⟨by omega, Int.le_refl _, conn_refl _ _⟩
theorem conn_up {web : List Pr} {p : Pr} {a b : Int} (h : conn web a b) : conn (web ++ [p]) a b := fun S c => h S fun q hq => c q (List.mem_append_left _ hq)
theorem relab_min {web : List Pr} {n : Nat} {l : List Int} {p : Pr} (hl : labOk web n l) (h : labMin web n l) (h0 : 0 ≤ p.1) (h1 : p.1 < n) (h2 : 0 ≤ p.2) (h3 : p.2 < n) : labMin (web ++ [p]) n (relab l p) := fun i hi => by
  have a := h p.1.toNat (by omega)
  have b := h p.2.toNat (by omega)
  have c := h i hi
  rw [show ((p.1.toNat : Nat) : Int) = p.1 from by omega] at a
  rw [show ((p.2.toNat : Nat) : Int) = p.2 from by omega] at b
  have pe : conn (web ++ [p]) p.1 p.2 := conn_edge (List.mem_append_right _ (List.mem_singleton.mpr rfl))
  rw [relab_getD p (by rw [hl.1]; exact hi)]
  split
  · rename_i e
    refine ⟨by omega, by omega, ?_⟩
    have ca : conn (web ++ [p]) (l.getD p.1.toNat 0) p.1 := conn_up a.2.2
    have cb : conn (web ++ [p]) (l.getD p.2.toNat 0) p.2 := conn_up b.2.2
    have ci : conn (web ++ [p]) (l.getD i 0) i := conn_up c.2.2
    have ab : conn (web ++ [p]) (l.getD p.1.toNat 0) (l.getD p.2.toNat 0) := conn_trans ca (conn_trans pe (conn_symm cb))
    rcases Int.le_total (l.getD p.1.toNat 0) (l.getD p.2.toNat 0) with q | q
    · rw [show min (l.getD p.1.toNat 0) (l.getD p.2.toNat 0) = l.getD p.1.toNat 0 from by omega]
      rw [show max (l.getD p.1.toNat 0) (l.getD p.2.toNat 0) = l.getD p.2.toNat 0 from by omega] at e
      rw [e] at ci
      exact conn_trans ab ci
    · rw [show min (l.getD p.1.toNat 0) (l.getD p.2.toNat 0) = l.getD p.2.toNat 0 from by omega]
      rw [show max (l.getD p.1.toNat 0) (l.getD p.2.toNat 0) = l.getD p.1.toNat 0 from by omega] at e
      rw [e] at ci
      exact conn_trans (conn_symm ab) ci
  · exact ⟨c.1, c.2.1, conn_up c.2.2⟩
/-- the places of a part -/
def grp (l : List Int) (n : Nat) (m : Int) : List Int := ((List.range n).filter fun p => decide (l.getD p 0 = m)).map Int.ofNat
/-- the first places -/
def fsts (l : List Int) (n : Nat) : List Int := ((List.range n).filter fun p => decide (l.getD p 0 = (p : Int))).map Int.ofNat
def grps (l : List Int) (n : Nat) : List (List Int) := (fsts l n).map (grp l n)
theorem mem_grp {l : List Int} {n : Nat} {m x : Int} : x ∈ grp l n m ↔ 0 ≤ x ∧ x < n ∧ l.getD x.toNat 0 = m := by
  unfold grp
  rw [List.mem_map]
  constructor
  · rintro ⟨p, hp, rfl⟩
    obtain ⟨h1, h2⟩ := List.mem_filter.mp hp
    have := List.mem_range.mp h1
    refine ⟨Int.natCast_nonneg p, by simpa using this, ?_⟩
    simpa using h2
  · rintro ⟨h0, h1, h2⟩
    refine ⟨x.toNat, List.mem_filter.mpr ⟨List.mem_range.mpr (by omega), by simpa using h2⟩, ?_⟩
    show ((x.toNat : Nat) : Int) = x
    omega
theorem mem_fsts {l : List Int} {n : Nat} {x : Int} : x ∈ fsts l n ↔ 0 ≤ x ∧ x < n ∧ l.getD x.toNat 0 = x := by
  unfold fsts
  rw [List.mem_map]
  constructor
  · rintro ⟨p, hp, rfl⟩
    obtain ⟨h1, h2⟩ := List.mem_filter.mp hp
    have := List.mem_range.mp h1
    refine ⟨Int.natCast_nonneg p, by simpa using this, ?_⟩
    simpa using h2
  · rintro ⟨h0, h1, h2⟩
    refine ⟨x.toNat, List.mem_filter.mpr ⟨List.mem_range.mpr (by omega), ?_⟩, ?_⟩
    · rw [show ((x.toNat : Nat) : Int) = x from by omega]
      simpa using h2
    · show ((x.toNat : Nat) : Int) = x
      omega
theorem range_pw (n : Nat) (P : Nat → Bool) : (((List.range n).filter P).map Int.ofNat).Pairwise (· < ·) := by
  rw [List.pairwise_map]
  refine List.Pairwise.imp (fun {a b} h => ?_) (List.Pairwise.filter P List.pairwise_lt_range)
  show ((a : Nat) : Int) < b
  omega
/-- rising lists of the same members are the same -/
theorem rise_eq : ∀ {xs ys : List Int}, xs.Pairwise (· < ·) → ys.Pairwise (· < ·) → (∀ x, x ∈ xs ↔ x ∈ ys) → xs = ys := fun {xs ys} h k e =>
  List.Perm.eq_of_pairwise (le := (· < ·)) (fun a b _ _ h1 h2 => by omega) h k ((List.perm_ext_iff_of_nodup (h.imp fun h => by omega) (k.imp fun h => by omega)).mpr e)
theorem srt_rise {xs ys : List Int} (p : xs.Perm ys) (nd : ys.Nodup) (so : xs.Pairwise (· ≤ ·)) : xs.Pairwise (· < ·) := by
  have nd2 : xs.Nodup := p.nodup_iff.mpr nd
  refine (so.and nd2).imp fun {a b} ⟨h1, h2⟩ => ?_
  rcases Int.lt_or_eq_of_le h1 with q | q
  · exact q
  · exact absurd q h2
section
variable {web : List Pr} {n : Nat} {l : List Int}
theorem lab_conn (hl : labOk web n l) {x y : Int} (x0 : 0 ≤ x) (x1 : x < n) (y0 : 0 ≤ y) (y1 : y < n) : l.getD x.toNat 0 = l.getD y.toNat 0 ↔ conn web x y := by
  have := hl.2 x.toNat y.toNat (by omega) (by omega)
  rwa [show ((x.toNat : Nat) : Int) = x from by omega, show ((y.toNat : Nat) : Int) = y from by omega] at this
/-- the least place has itself as its label -/
theorem lab_self (hl : labOk web n l) (hm : labMin web n l) {i : Nat} (hi : i < n) : l.getD (l.getD i 0).toNat 0 = l.getD i 0 := by
  obtain ⟨a, b, c⟩ := hm i hi
  have := (lab_conn hl (x := l.getD i 0) (y := i) a (by omega) (by omega) (by omega)).mpr c
  simpa using this
theorem grp_conn (hl : labOk web n l) {p x : Int} (p0 : 0 ≤ p) (p1 : p < n) (e : l.getD p.toNat 0 = p) : x ∈ grp l n p ↔ 0 ≤ x ∧ x < n ∧ conn web p x := by
  rw [mem_grp]
  constructor
  · rintro ⟨h0, h1, h2⟩
    refine ⟨h0, h1, (lab_conn hl p0 p1 h0 h1).mp ?_⟩
    rw [e, h2]
  · rintro ⟨h0, h1, h2⟩
    refine ⟨h0, h1, ?_⟩
    rw [← (lab_conn hl p0 p1 h0 h1).mpr h2, e]
theorem set_fsts (hl : labOk web n l) (hm : labMin web n l) {ms : List Int} (h : ∀ x, x ∈ ms ↔ x ∈ l) (s : ms.Pairwise (· < ·)) : ms = fsts l n := by
  refine rise_eq s (range_pw n _) fun x => ?_
  rw [h, mem_fsts]
  constructor
  · intro hx
    obtain ⟨i, hi, e⟩ := List.mem_iff_getElem.mp hx
    have hi' : i < n := by rw [← hl.1]; exact hi
    have e2 : l.getD i 0 = x := by rw [getD_in hi]; exact e
    obtain ⟨a, b, c⟩ := hm i hi'
    have := lab_self hl hm hi'
    rw [e2] at this a b
    exact ⟨a, by omega, this⟩
  · rintro ⟨h0, h1, h2⟩
    rw [← h2, getD_in (by rw [hl.1]; omega)]
    exact List.getElem_mem _
theorem fsts_succ (i : Nat) : fsts l (i + 1) = fsts l i ++ (if l.getD i 0 = (i : Int) then [(i : Int)] else []) := by
  unfold fsts
  rw [List.range_succ, List.filter_append, List.map_append]
  congr 1
  by_cases h : l.getD i 0 = (i : Int)
  · rw [if_pos h, List.filter_cons, decide_eq_true h]
    rfl
  · rw [if_neg h, List.filter_cons, decide_eq_false h]
    rfl
end
/-! ### labels by passes -/
def labF (n : Nat) (web : List Pr) : List Int := web.foldl relab ((List.range n).map Int.ofNat)
theorem labF_all {n : Nat} : ∀ (rest done : List Pr) (l : List Int), inRg n (done ++ rest) → labOk done n l → labMin done n l → labOk (done ++ rest) n (rest.foldl relab l) ∧ labMin (done ++ rest) n (rest.foldl relab l)
  | [], done, l, _, h1, h2 => by
    rw [List.append_nil]
    exact ⟨h1, h2⟩
  | p :: rest, done, l, hr, h1, h2 => by
    obtain ⟨g1, g2, g3, g4⟩ := hr p (List.mem_append_right _ List.mem_cons_self)
    have := labF_all rest (done ++ [p]) (relab l p) (by rw [List.append_assoc]; exact hr) (relab_ok (fun q hq => hr q (List.mem_append_left _ hq)) h1 g1 g2 g3 g4) (relab_min h1 h2 g1 g2 g3 g4)
    rw [List.append_assoc] at this
    exact this
theorem labF_ok {n : Nat} {web : List Pr} (hr : inRg n web) : labOk web n (labF n web) ∧ labMin web n (labF n web) := by
  have := labF_all web [] _ (by simpa using hr) (lab_zero n) (labMin_zero n)
  unfold labF
  simpa using this
theorem lab_uniq {web : List Pr} {n : Nat} {l l' : List Int} (h1 : labOk web n l) (h2 : labMin web n l) (k1 : labOk web n l') (k2 : labMin web n l') : l = l' := by
  refine extG (by rw [h1.1, k1.1]) fun i hi => ?_
  rw [h1.1] at hi
  obtain ⟨a1, a2, a3⟩ := h2 i hi
  obtain ⟨b1, b2, b3⟩ := k2 i hi
  have c1 := (lab_conn k1 (x := l.getD i 0) (y := i) a1 (by omega) (by omega) (by omega)).mpr a3
  have c2 := (lab_conn h1 (x := l'.getD i 0) (y := i) b1 (by omega) (by omega) (by omega)).mpr b3
  have d1 := (k2 (l.getD i 0).toNat (by omega)).2.1
  have d2 := (h2 (l'.getD i 0).toNat (by omega)).2.1
  rw [c1, Int.toNat_natCast] at d1
  rw [c2, Int.toNat_natCast] at d2
  omega
def pstep (l : List Int) (p : Pr) : List Int := (l.set p.1.toNat (min (l.getD p.1.toNat 0) (l.getD p.2.toNat 0))).set p.2.toNat (min (l.getD p.1.toNat 0) (l.getD p.2.toNat 0))
theorem pstep_len (l : List Int) (p : Pr) : (pstep l p).length = l.length := by simp [pstep]
theorem setG (l : List Int) {i : Nat} (h : i < l.length) (v : Int) (k : Nat) : (l.set i v).getD k 0 = if k = i then v else l.getD k 0 := by
  by_cases q : k = i
  · subst q
    rw [if_pos rfl, List.getD_eq_getElem?_getD, List.getElem?_set_self h]
    rfl
  · rw [if_neg q, List.getD_eq_getElem?_getD, List.getElem?_set_ne (by omega), ← List.getD_eq_getElem?_getD]
theorem pstep_getD {l : List Int} {p : Pr} (h1 : p.1.toNat < l.length) (h2 : p.2.toNat < l.length) (k : Nat) : (pstep l p).getD k 0 = if k = p.2.toNat ∨ k = p.1.toNat then min (l.getD p.1.toNat 0) (l.getD p.2.toNat 0) else l.getD k 0 := by
  unfold pstep
  rw [setG _ (by rw [List.length_set]; exact h2), setG _ h1]
  by_cases q : k = p.2.toNat
  · rw [if_pos q, if_pos (Or.inl q)]
  · rw [if_neg q]
    by_cases r : k = p.1.toNat
    · rw [if_pos r, if_pos (Or.inr r)]
    · rw [if_neg r, if_neg (by simp [q, r])]
def pass (web : List Pr) (l : List Int) : List Int := web.foldl pstep l
theorem pass_len : ∀ (web : List Pr) (l : List Int), (pass web l).length = l.length
  | [], l => rfl
  | p :: web, l => by
    show (pass web (pstep l p)).length = _
    rw [pass_len web, pstep_len]
theorem pass_le {n : Nat} : ∀ {web : List Pr} {l : List Int}, inRg n web → l.length = n → ∀ k, (pass web l).getD k 0 ≤ l.getD k 0
  | [], l, _, _, k => Int.le_refl _
  | p :: web, l, hr, hl, k => by
    obtain ⟨g1, g2, g3, g4⟩ := hr p List.mem_cons_self
    have h1 := pass_le (web := web) (l := pstep l p) (fun q hq => hr q (List.mem_cons_of_mem _ hq)) (by rw [pstep_len]; exact hl) k
    have h2 : (pstep l p).getD k 0 ≤ l.getD k 0 := by
      rw [pstep_getD (by omega) (by omega)]
      split
      · rename_i q
        rcases q with q | q <;> subst q <;> omega
      · exact Int.le_refl _
    exact Int.le_trans h1 h2
theorem pass_edge {n : Nat} : ∀ {web : List Pr} {l : List Int}, inRg n web → l.length = n → ∀ p ∈ web, (pass web l).getD p.2.toNat 0 ≤ l.getD p.1.toNat 0 ∧ (pass web l).getD p.1.toNat 0 ≤ l.getD p.2.toNat 0
  | q :: web, l, hr, hl, p, hp => by
    obtain ⟨g1, g2, g3, g4⟩ := hr q List.mem_cons_self
    have hr' : inRg n web := fun z hz => hr z (List.mem_cons_of_mem _ hz)
    have hl' : (pstep l q).length = n := by rw [pstep_len]; exact hl
    rcases List.mem_cons.mp hp with rfl | hp
    · have h1 := pass_le hr' hl' p.1.toNat
      have h2 := pass_le hr' hl' p.2.toNat
      rw [pstep_getD (by omega) (by omega), if_pos (.inr rfl)] at h1
      rw [pstep_getD (by omega) (by omega), if_pos (.inl rfl)] at h2
      show (pass web (pstep l p)).getD _ 0 ≤ _ ∧ (pass web (pstep l p)).getD _ 0 ≤ _
      omega
    · obtain ⟨h1, h2⟩ := pass_edge hr' hl' p hp
      have k1 : ∀ k, (pstep l q).getD k 0 ≤ l.getD k 0 := fun k => pass_le (web := [q]) (fun z hz => by rw [List.mem_singleton.mp hz]; exact ⟨g1, g2, g3, g4⟩) hl k
      have a := k1 p.1.toNat
      have b := k1 p.2.toNat
      show (pass web (pstep l q)).getD _ 0 ≤ _ ∧ (pass web (pstep l q)).getD _ 0 ≤ _
      omega
def above (n : Nat) (F l : List Int) : Prop := l.length = n ∧ ∀ k, k < n → F.getD k 0 ≤ l.getD k 0 ∧ l.getD k 0 ≤ k
theorem pass_above {n : Nat} {F : List Int} : ∀ {web : List Pr} {l : List Int}, inRg n web → (∀ p ∈ web, F.getD p.1.toNat 0 = F.getD p.2.toNat 0) → above n F l → above n F (pass web l)
  | [], l, _, _, h => h
  | p :: web, l, hr, he, h => by
    obtain ⟨g1, g2, g3, g4⟩ := hr p List.mem_cons_self
    have e := he p List.mem_cons_self
    refine pass_above (web := web) (l := pstep l p) (fun q hq => hr q (List.mem_cons_of_mem _ hq)) (fun q hq => he q (List.mem_cons_of_mem _ hq)) ⟨by rw [pstep_len]; exact h.1, fun k hk => ?_⟩
    have hk' := h.2 k hk
    have ha := h.2 p.1.toNat (by omega)
    have hb := h.2 p.2.toNat (by omega)
    have hl := h.1
    rw [pstep_getD (by omega) (by omega)]
    split
    · rename_i q
      rcases q with q | q <;> subst q <;> omega
    · exact hk'
def uns (n : Nat) (F l : List Int) : List Nat := (List.range n).filter fun k => !decide (l.getD k 0 = F.getD k 0)
theorem filter_lt {P P' : Nat → Bool} : ∀ {xs : List Nat}, (∀ x ∈ xs, P' x = true → P x = true) → (xs.filter P').length ≤ (xs.filter P).length ∧ ((∃ x ∈ xs, P x = true ∧ P' x = false) → (xs.filter P').length < (xs.filter P).length)
  | [], _ => ⟨Nat.le_refl _, fun ⟨x, hx, _⟩ => by cases hx⟩
  | x :: xs, h => by
    obtain ⟨i1, i2⟩ := filter_lt (xs := xs) fun y hy => h y (List.mem_cons_of_mem _ hy)
    have hx := h x List.mem_cons_self
    rw [List.filter_cons, List.filter_cons]
    cases a : P x with
    | false =>
      have b : P' x = false := by
        cases c : P' x with
        | false => rfl
        | true => rw [hx c] at a; cases a
      simp only [b, Bool.false_eq_true, if_false]
      refine ⟨i1, fun ⟨y, hy, h1, h2⟩ => ?_⟩
      rcases List.mem_cons.mp hy with rfl | hy
      · rw [h1] at a; cases a
      · exact i2 ⟨y, hy, h1, h2⟩
    | true =>
      cases b : P' x with
      | false =>
        simp only [if_true, Bool.false_eq_true, if_false, List.length_cons]
        exact ⟨by omega, fun _ => by omega⟩
      | true =>
        simp only [if_true, List.length_cons]
        refine ⟨by omega, fun ⟨y, hy, h1, h2⟩ => ?_⟩
        rcases List.mem_cons.mp hy with rfl | hy
        · rw [h2] at b; cases b
        · have := i2 ⟨y, hy, h1, h2⟩
          omega
/-- each pass settles one place more -/
theorem pass_more {web : List Pr} {n : Nat} {F l : List Int} (hr : inRg n web) (h1 : labOk web n F) (h2 : labMin web n F) (h : above n F l) (hu : uns n F l ≠ []) : (uns n F (pass web l)).length < (uns n F l).length := by
  have he : ∀ p ∈ web, F.getD p.1.toNat 0 = F.getD p.2.toNat 0 := fun p hp => by
    obtain ⟨g1, g2, g3, g4⟩ := hr p hp
    exact (lab_conn h1 g1 g2 g3 g4).mpr (conn_edge hp)
  have hp := pass_above hr he h
  have hle := pass_le hr h.1
  obtain ⟨i, hi⟩ := List.exists_mem_of_ne_nil _ hu
  obtain ⟨i1, i2⟩ := List.mem_filter.mp hi
  have i1 := List.mem_range.mp i1
  have i2 : ¬ l.getD i 0 = F.getD i 0 := by simpa using i2
  obtain ⟨m0, m1, m2⟩ := h2 i i1
  obtain ⟨m, hm⟩ : ∃ m, F.getD i 0 = m := ⟨_, rfl⟩
  have fm : F.getD m.toNat 0 = m := by
    rw [← hm]
    exact lab_self h1 h2 i1
  rw [hm] at m0 m1 m2 i2
  have sm := h.2 m.toNat (by omega)
  rw [fm] at sm
  -- a swap between a settled place and one that is not
  obtain ⟨p, hpw, hd⟩ : ∃ p ∈ web, ¬ ((F.getD p.1.toNat 0 = m ∧ l.getD p.1.toNat 0 = m) ↔ (F.getD p.2.toNat 0 = m ∧ l.getD p.2.toNat 0 = m)) := by
    refine Classical.byContradiction fun no => ?_
    have cl : clo web fun x => F.getD x.toNat 0 = m ∧ l.getD x.toNat 0 = m := fun p hp => Classical.byContradiction fun c => no ⟨p, hp, c⟩
    have := (m2 _ cl).mp ⟨fm, by omega⟩
    rw [Int.toNat_natCast] at this
    exact i2 this.2
  obtain ⟨g1, g2, g3, g4⟩ := hr p hpw
  have ee := he p hpw
  obtain ⟨e1, e2⟩ := pass_edge hr h.1 p hpw
  unfold uns
  refine (filter_lt fun k hk q => ?_).2 ?_
  · have := hle k
    have a := (h.2 k (List.mem_range.mp hk)).1
    have b := (hp.2 k (List.mem_range.mp hk)).1
    have q' : ¬ (pass web l).getD k 0 = F.getD k 0 := by simpa using q
    have : ¬ l.getD k 0 = F.getD k 0 := by omega
    simpa using this
  · have a := h.2 p.1.toNat (by omega)
    have b := h.2 p.2.toNat (by omega)
    have a' := hp.2 p.1.toNat (by omega)
    have b' := hp.2 p.2.toNat (by omega)
    by_cases c : F.getD p.1.toNat 0 = m ∧ l.getD p.1.toNat 0 = m
    · have d : ¬ l.getD p.2.toNat 0 = m := fun z => hd ⟨fun _ => ⟨by omega, z⟩, fun _ => c⟩
      refine ⟨p.2.toNat, List.mem_range.mpr (by omega), ?_, ?_⟩
      · have : ¬ l.getD p.2.toNat 0 = F.getD p.2.toNat 0 := by omega
        simpa using this
      · have : (pass web l).getD p.2.toNat 0 = F.getD p.2.toNat 0 := by omega
        simpa using this
    · have d : F.getD p.2.toNat 0 = m ∧ l.getD p.2.toNat 0 = m := Classical.byContradiction fun z => hd ⟨fun y => absurd y c, fun y => absurd y z⟩
      have f : ¬ l.getD p.1.toNat 0 = m := fun z => c ⟨by omega, z⟩
      refine ⟨p.1.toNat, List.mem_range.mpr (by omega), ?_, ?_⟩
      · have : ¬ l.getD p.1.toNat 0 = F.getD p.1.toNat 0 := by omega
        simpa using this
      · have : (pass web l).getD p.1.toNat 0 = F.getD p.1.toNat 0 := by omega
        simpa using this
def passes (web : List Pr) (n : Nat) : Nat → List Int
  | 0 => (List.range n).map Int.ofNat
  | t + 1 => pass web (passes web n t)
theorem passes_ok {web : List Pr} {n : Nat} (hr : inRg n web) : ∀ t, above n (labF n web) (passes web n t) ∧ (uns n (labF n web) (passes web n t)).length ≤ n - t
  | 0 => by
    obtain ⟨h1, h2⟩ := labF_ok hr
    refine ⟨⟨by simp [passes], fun k hk => ?_⟩, ?_⟩
    · show _ ≤ ((List.range n).map Int.ofNat).getD k 0 ∧ ((List.range n).map Int.ofNat).getD k 0 ≤ _
      rw [range_getD hk]
      have := (h2 k hk).2.1
      omega
    · unfold uns
      have := List.length_filter_le (fun k => !decide ((passes web n 0).getD k 0 = (labF n web).getD k 0)) (List.range n)
      rwa [List.length_range] at this
  | t + 1 => by
    obtain ⟨h1, h2⟩ := labF_ok hr
    obtain ⟨i1, i2⟩ := passes_ok hr t
    have he : ∀ p ∈ web, (labF n web).getD p.1.toNat 0 = (labF n web).getD p.2.toNat 0 := fun p hp => by
      obtain ⟨g1, g2, g3, g4⟩ := hr p hp
      exact (lab_conn h1 g1 g2 g3 g4).mpr (conn_edge hp)
    have hp := pass_above hr he i1
    refine ⟨hp, ?_⟩
    by_cases q : uns n (labF n web) (passes web n t) = []
    · have : uns n (labF n web) (pass web (passes web n t)) = [] := by
        unfold uns at q ⊢
        rw [List.filter_eq_nil_iff] at q ⊢
        intro k hk
        have a := q k hk
        have a : (passes web n t).getD k 0 = (labF n web).getD k 0 := by simpa using a
        have b := pass_le hr i1.1 k
        have c := (hp.2 k (List.mem_range.mp hk)).1
        have : (pass web (passes web n t)).getD k 0 = (labF n web).getD k 0 := by omega
        rw [this]
        simp
      show (uns n (labF n web) (pass web (passes web n t))).length ≤ _
      rw [this]
      exact Nat.zero_le _
    · have := pass_more hr h1 h2 i1 q
      show (uns n (labF n web) (pass web (passes web n t))).length ≤ _
      omega
theorem passes_lab {web : List Pr} {n : Nat} (hr : inRg n web) : passes web n n = labF n web := by
  obtain ⟨h1, h2⟩ := labF_ok hr
  obtain ⟨i1, i2⟩ := passes_ok hr n
  rw [Nat.sub_self] at i2
  have q := List.length_eq_zero_iff.mp (Nat.le_zero.mp i2)
  refine extG (by rw [i1.1, h1.1]) fun k hk => ?_
  rw [i1.1] at hk
  unfold uns at q
  rw [List.filter_eq_nil_iff] at q
  have := q k (List.mem_range.mpr hk)
  simpa using this
def SP (web : List Pr) (n : Nat) (one other : List Int) : Prop := ∀ i j : Nat, i < n → j < n → one.getD i 0 = other.getD j 0 → conn web i j
theorem SP.swp {web : List Pr} {n : Nat} {l other : List Int} {p : Pr} (hl : l.length = n) (hw : swOk n web) (hp : p ∈ web) (h : SP web n l other) : SP web n (swp l p) other := fun i j hi hj e => by
  obtain ⟨p0, p1, p2⟩ := hw p hp
  have c := conn_edge hp
  rw [swp_getD (by omega) (by omega)] at e
  by_cases q : i = p.2.toNat
  · rw [if_pos q] at e
    have := h _ j (by omega) hj e
    rw [show ((p.1.toNat : Nat) : Int) = p.1 from by omega] at this
    rw [show ((i : Nat) : Int) = p.2 from by omega]
    exact conn_trans (conn_symm c) this
  · rw [if_neg q] at e
    by_cases r : i = p.1.toNat
    · rw [if_pos r] at e
      have := h _ j (by omega) hj e
      rw [show ((p.2.toNat : Nat) : Int) = p.2 from by omega] at this
      rw [show ((i : Nat) : Int) = p.1 from by omega]
      exact conn_trans c this
    · rw [if_neg r] at e
      exact h _ j hi hj e
theorem SP.beh {web : List Pr} {n : Nat} {other : List Int} (hw : swOk n web) : ∀ {row : List Pr} {l : List Int}, l.length = n → (∀ p ∈ row, p ∈ web) → SP web n l other → SP web n (beh l row) other
  | [], l, _, _, h => h
  | p :: row, l, hl, hr, h => SP.beh hw (row := row) (l := Dl.swp l p) (by rw [swp_len]; exact hl) (fun q hq => hr q (List.mem_cons_of_mem _ hq)) (h.swp hl hw (hr p List.mem_cons_self))
theorem getD_inj {l : List Int} (h : l.Nodup) {i j : Nat} (hi : i < l.length) (hj : j < l.length) (e : l.getD i 0 = l.getD j 0) : i = j := by
  rw [getD_in hi, getD_in hj] at e
  exact nodup_inj h hi hj e
theorem idxOf_getD {l : List Int} {x : Int} (h : x ∈ l) : l.getD (l.idxOf x) 0 = x := by
  rw [getD_in (List.idxOf_lt_length_iff.mpr h)]
  exact List.getElem_idxOf _
theorem perm_nd {n : Nat} {one : List Int} (p1 : one.Perm ((List.range n).map Int.ofNat)) : one.Nodup := p1.nodup_iff.mpr (range_nodup n)
theorem SP.refl {web : List Pr} {n : Nat} {one : List Int} (z1 : one.length = n) (nd : one.Nodup) : SP web n one one := fun i j hi hj e => by
  rw [getD_inj nd (by omega) (by omega) e]
  exact conn_refl _ _
theorem SP.symm {web : List Pr} {n : Nat} {one other : List Int} (h : SP web n one other) : SP web n other one := fun i j hi hj e => conn_symm (h j i hj hi e.symm)
theorem SP.row {web : List Pr} {n : Nat} {one : List Int} {row : List Pr} (hw : swOk n web) (z1 : one.length = n) (nd : one.Nodup) (hr : ∀ p ∈ row, p ∈ web) : SP web n one (Dl.beh one row) := (SP.beh hw z1 hr (SP.refl z1 nd)).symm
/-! ### a row leads to each of them -/
def Doable (web : List Pr) (n : Nat) (i j : Nat) : Prop := ∀ l : List Int, l.length = n → ∃ row, (∀ p ∈ row, p ∈ web) ∧ beh l row = swp l ((i : Int), (j : Int))
theorem swp_same {l : List Int} {i : Nat} (h : i < l.length) : swp l ((i : Int), (i : Int)) = l := by
  refine extG (by simp [swp]) fun k hk => ?_
  rw [swp_getD (by simpa using h) (by simpa using h)]
  split
  · rename_i e
    rw [e]
  · rename_i e
    rfl
theorem Doable.refl {web : List Pr} {n i : Nat} (h : i < n) : Doable web n i i := fun l hl => ⟨[], fun p hp => (by cases hp), (swp_same (l := l) (by omega)).symm⟩
theorem swp_flip {l : List Int} {i j : Nat} (hi : i < l.length) (hj : j < l.length) : swp l ((i : Int), (j : Int)) = swp l ((j : Int), (i : Int)) := by
  refine extG (by rw [swp_len, swp_len]) fun k hk => ?_
  rw [swp_getD (by simpa using hi) (by simpa using hj), swp_getD (by simpa using hj) (by simpa using hi)]
  simp only [Int.toNat_natCast]
  by_cases a : k = j
  · subst a
    by_cases b : k = i
    · subst b
      rfl
    · rw [if_pos rfl, if_neg b, if_pos rfl]
  · rw [if_neg a]
    by_cases b : k = i
    · rw [if_pos b, if_pos b]
    · rw [if_neg b, if_neg b, if_neg a]
theorem swp_three {l : List Int} {i j k : Nat} (hi : i < l.length) (hj : j < l.length) (hk : k < l.length) (ij : i ≠ j) (ik : i ≠ k) (jk : j ≠ k) :
    swp (swp (swp l ((i : Int), (j : Int))) ((j : Int), (k : Int))) ((i : Int), (j : Int)) = swp l ((i : Int), (k : Int)) := by
  refine extG (by simp only [swp_len]) fun x hx => ?_
  simp only [swp_getD, swp_len, Int.toNat_natCast, hi, hj, hk]
  have ji := Ne.symm ij
  have ki := Ne.symm ik
  have kj := Ne.symm jk
  by_cases xi : x = i
  · subst xi
    simp [ij, ik, jk, ji, ki, kj]
  · by_cases xj : x = j
    · subst xj
      simp [ij, ik, jk, ji, ki, kj]
    · by_cases xk : x = k
      · subst xk
        simp [ij, ik, jk, ji, ki, kj]
      · simp [xi, xj, xk]
theorem Doable.step {web : List Pr} {n : Nat} (hw : swOk n web) {a : Nat} (ha : a < n) {p : Pr} (hp : p ∈ web) (h : Doable web n a p.1.toNat ∨ Doable web n a p.2.toNat) : Doable web n a p.1.toNat ∧ Doable web n a p.2.toNat := by
  obtain ⟨w0, w1, w2⟩ := hw p hp
  have one : Doable web n p.1.toNat p.2.toNat := fun l hl => ⟨[p], fun q hq => by rw [List.mem_singleton.mp hq]; exact hp, by
    show swp l p = swp l (((p.1.toNat : Nat) : Int), ((p.2.toNat : Nat) : Int))
    rw [show ((p.1.toNat : Nat) : Int) = p.1 from by omega, show ((p.2.toNat : Nat) : Int) = p.2 from by omega]⟩
  have flip : ∀ {i j : Nat}, i < n → j < n → Doable web n i j → Doable web n j i := fun hi hj h l hl => by
    obtain ⟨row, r1, r2⟩ := h l hl
    exact ⟨row, r1, by rw [r2, swp_flip (by omega) (by omega)]⟩
  have tr : ∀ {i j k : Nat}, i < n → j < n → k < n → Doable web n i j → Doable web n j k → Doable web n i k := fun {i j k} hi hj hk h1 h2 => by
    by_cases ij : i = j
    · rw [ij]; exact h2
    by_cases jk : j = k
    · rw [← jk]; exact h1
    by_cases ik : i = k
    · rw [ik]; exact Doable.refl hk
    intro l hl
    obtain ⟨r1, a1, a2⟩ := h1 l hl
    obtain ⟨r2, b1, b2⟩ := h2 (swp l ((i : Int), (j : Int))) (by rw [swp_len]; exact hl)
    obtain ⟨r3, c1, c2⟩ := h1 (swp (swp l ((i : Int), (j : Int))) ((j : Int), (k : Int))) (by rw [swp_len, swp_len]; exact hl)
    refine ⟨(r1 ++ r2) ++ r3, fun q hq => ?_, ?_⟩
    · rcases List.mem_append.mp hq with hq | hq
      · rcases List.mem_append.mp hq with hq | hq
        · exact a1 q hq
        · exact b1 q hq
      · exact c1 q hq
    · rw [← beh_app, ← beh_app, a2, b2, c2, swp_three (by omega) (by omega) (by omega) ij ik jk]
  rcases h with h | h
  · exact ⟨h, tr ha (by omega) (by omega) h one⟩
  · exact ⟨tr ha (by omega) (by omega) h (flip (by omega) (by omega) one), h⟩
theorem conn_do {web : List Pr} {n : Nat} (hw : swOk n web) {i j : Nat} (hi : i < n) (h : conn web i j) : Doable web n i j := by
  have := h (fun x => Doable web n i x.toNat) fun p hp => ⟨fun q => (Doable.step hw hi hp (.inl q)).2, fun q => (Doable.step hw hi hp (.inr q)).1⟩
  simp only [Int.toNat_natCast] at this
  exact this.mp (Doable.refl hi)
theorem row_of {web : List Pr} {n : Nat} {one other : List Int} (hw : swOk n web) (p1 : one.Perm ((List.range n).map Int.ofNat)) (p2 : other.Perm ((List.range n).map Int.ofNat)) (sp : SP web n one other) :
    ∃ row, (∀ p ∈ row, p ∈ web) ∧ beh one row = other := by
  have z1 : one.length = n := by rw [p1.length_eq, List.length_map, List.length_range]
  have z2 : other.length = n := by rw [p2.length_eq, List.length_map, List.length_range]
  have nd2 := perm_nd p2
  have key : ∀ k : Nat, k ≤ n → ∃ row, (∀ p ∈ row, p ∈ web) ∧ ∀ i, i < k → (beh one row).getD i 0 = other.getD i 0 := by
    intro k
    induction k with
    | zero => exact fun _ => ⟨[], fun p hp => (by cases hp), fun i hi => absurd hi (Nat.not_lt_zero _)⟩
    | succ k ih =>
      intro hk
      obtain ⟨row, r1, r2⟩ := ih (by omega)
      have inr : ∀ q ∈ row, 0 ≤ q.1 ∧ q.1 < one.length ∧ 0 ≤ q.2 ∧ q.2 < one.length := fun q hq => by
        have := hw q (r1 q hq)
        omega
      obtain ⟨cur, hc⟩ : ∃ cur, beh one row = cur := ⟨_, rfl⟩
      have pc : cur.Perm one := by rw [← hc]; exact beh_perm inr
      have zc : cur.length = n := by rw [pc.length_eq, z1]
      have spc : SP web n cur other := by rw [← hc]; exact SP.beh hw z1 r1 sp
      rw [hc] at r2
      have hm : other.getD k 0 ∈ cur := by
        refine (pc.trans (p1.trans p2.symm)).mem_iff.mpr ?_
        rw [getD_in (by omega)]
        exact List.getElem_mem _
      obtain ⟨j, hj, e⟩ := List.getElem_of_mem hm
      have e' : cur.getD j 0 = other.getD k 0 := by rw [getD_in hj]; exact e
      have hkj : k ≤ j := by
        by_cases q : k ≤ j
        · exact q
        · have := r2 j (by omega)
          rw [e'] at this
          have := getD_inj nd2 (by omega) (by omega) this
          omega
      obtain ⟨row2, s1, s2⟩ := conn_do hw (by omega) (spc j k (by omega) (by omega) e') cur zc
      refine ⟨row ++ row2, fun p hp => (List.mem_append.mp hp).elim (r1 p) (s1 p), fun i hi => ?_⟩
      rw [← beh_app, hc, s2, swp_getD (by simp; omega) (by simp; omega)]
      simp only [Int.toNat_natCast]
      by_cases ik : i = k
      · rw [if_pos ik, e', ik]
      · rw [if_neg ik, if_neg (by omega)]
        exact r2 i (by omega)
  obtain ⟨row, r1, r2⟩ := key n (Nat.le_refl _)
  refine ⟨row, r1, extG ?_ fun i hi => r2 i ?_⟩
  · rw [beh_len, z1, z2]
  · rw [beh_len, z1] at hi
    exact hi
/-! ### breadth: orders by how many swaps -/
abbrev Od := List Int
abbrev kk (o : Od) : List Key := o.map Sum.inl
theorem kk_inj {a b : Od} (h : kk a = kk b) : a = b := by
  induction a generalizing b with
  | nil =>
    cases b with
    | nil => rfl
    | cons y b => cases h
  | cons x a ih =>
    cases b with
    | nil => cases h
    | cons y b =>
      rw [kk, kk, List.map_cons, List.map_cons] at h
      obtain ⟨h1, h2⟩ := List.cons.inj h
      rw [Sum.inl.inj h1, ih h2]
theorem keysOf_int (o : Od) : keysOf (o.map PyData.int) = some (kk o) := by
  have := keysOf_map (kk o)
  rw [List.map_map] at this
  exact this
theorem kd_kk (o : Od) : (kk o).map kd = o.map PyData.int := by
  rw [List.map_map]
  rfl
section
variable {α β : Type}
def getA (xs : List (Od × α)) (k : Od) : Option α := (xs.find? fun p => decide (p.1 = k)).map (·.2)
def putA (xs : List (Od × α)) (k : Od) (d : α) : List (Od × α) := if (xs.any fun p => decide (p.1 = k)) = true then xs.map (fun p => if p.1 = k then (p.1, d) else p) else xs ++ [(k, d)]
def enc (f : α → PyData) (xs : List (Od × α)) : List (List Key × PyData) := xs.map fun p => (kk p.1, f p.2)
theorem kk_dec (a b : Od) : decide (kk a = kk b) = decide (a = b) := by
  rw [Bool.eq_iff_iff, decide_eq_true_iff, decide_eq_true_iff]
  exact ⟨kk_inj, fun h => by rw [h]⟩
theorem getT_enc (f : α → PyData) (xs : List (Od × α)) (o : Od) : getT (enc f xs) (kk o) = (getA xs o).map f := by
  unfold getT getA enc
  rw [List.find?_map, Option.map_map, Option.map_map]
  have : ((fun p : List Key × PyData => decide (p.1 = kk o)) ∘ fun p : Od × α => (kk p.1, f p.2)) = fun p => decide (p.1 = o) := by
    funext p
    exact kk_dec _ _
  rw [this]
  rfl
theorem putDT_enc (f : α → PyData) (xs : List (Od × α)) (o : Od) (d : α) : putDT (enc f xs) (kk o) (f d) = enc f (putA xs o d) := by
  unfold putDT putA enc
  rw [List.any_map]
  have : ((fun p : List Key × PyData => decide (p.1 = kk o)) ∘ fun p : Od × α => (kk p.1, f p.2)) = fun p => decide (p.1 = o) := by
    funext p
    exact kk_dec _ _
  rw [this]
  split
  · rw [List.map_map, List.map_map]
    refine List.map_congr_left fun p _ => ?_
    show (if kk p.1 = kk o then (kk p.1, f d) else (kk p.1, f p.2)) = (fun p : Od × α => (kk p.1, f p.2)) (if p.1 = o then (p.1, d) else p)
    by_cases e : p.1 = o
    · rw [if_pos e, if_pos (by rw [e])]
    · rw [if_neg e, if_neg fun z => e (kk_inj z)]
  · rw [List.map_append]
    rfl
theorem enc_len (f : α → PyData) (xs : List (Od × α)) : (enc f xs).length = xs.length := List.length_map ..
theorem getA_some (xs : List (Od × α)) (o : Od) : (getA xs o).isSome = decide (o ∈ xs.map (·.1)) := by
  unfold getA
  rw [Option.isSome_map, Bool.eq_iff_iff, List.find?_isSome, decide_eq_true_iff, List.mem_map]
  constructor
  · rintro ⟨p, hp, e⟩
    exact ⟨p, hp, of_decide_eq_true e⟩
  · rintro ⟨p, hp, e⟩
    exact ⟨p, hp, decide_eq_true e⟩
theorem putA_keys (xs : List (Od × α)) (k : Od) (d : α) : (putA xs k d).map (·.1) = if k ∈ xs.map (·.1) then xs.map (·.1) else xs.map (·.1) ++ [k] := by
  unfold putA
  have e : (xs.any fun p => decide (p.1 = k)) = decide (k ∈ xs.map (·.1)) := by
    rw [Bool.eq_iff_iff, List.any_eq_true, decide_eq_true_iff, List.mem_map]
    constructor
    · rintro ⟨p, hp, e⟩
      exact ⟨p, hp, of_decide_eq_true e⟩
    · rintro ⟨p, hp, e⟩
      exact ⟨p, hp, decide_eq_true e⟩
  rw [e]
  by_cases h : k ∈ xs.map (·.1)
  · rw [if_pos (decide_eq_true h), if_pos h, List.map_map]
    refine List.map_congr_left fun p _ => ?_
    show (if p.1 = k then (p.1, d) else p).1 = p.1
    split <;> rfl
  · rw [if_neg (by rw [decide_eq_false h]; decide), if_neg h, List.map_append]
    rfl
theorem getA_put (xs : List (Od × α)) (k k' : Od) (d : α) : getA (putA xs k d) k' = if k' = k then some d else getA xs k' := by
  unfold getA putA
  split
  · rename_i h
    rw [List.find?_map, Option.map_map]
    have e1 : ((fun p : Od × α => decide (p.1 = k')) ∘ fun p : Od × α => if p.1 = k then (p.1, d) else p) = fun p => decide (p.1 = k') := by
      funext p
      simp only [Function.comp]
      split <;> rfl
    rw [e1]
    split
    · rename_i e
      subst e
      obtain ⟨q, hq, hk⟩ := List.any_eq_true.mp h
      cases hf : xs.find? fun p => decide (p.1 = k') with
      | none => exact absurd hk (by simpa using List.find?_eq_none.mp hf q hq)
      | some p =>
        have hp : p.1 = k' := by
          have := List.find?_some hf
          simpa using this
        show some (if p.1 = k' then (p.1, d) else p).2 = some d
        rw [if_pos hp]
    · rename_i e
      cases hf : xs.find? fun p => decide (p.1 = k') with
      | none => rfl
      | some p =>
        have hp : p.1 = k' := by
          have := List.find?_some hf
          simpa using this
        show some (if p.1 = k then (p.1, d) else p).2 = some p.2
        rw [if_neg fun z => e (by rw [← hp, z])]
  · rename_i h
    rw [List.find?_append]
    split
    · rename_i e
      subst e
      have : xs.find? (fun p => decide (p.1 = k')) = none := by
        rw [List.find?_eq_none]
        intro p hp z
        exact h (List.any_eq_true.mpr ⟨p, hp, z⟩)
      rw [this]
      simp
    · rename_i e
      have : ([(k, d)] : List (Od × α)).find? (fun p => decide (p.1 = k')) = none := by
        simp only [List.find?_cons, List.find?_nil]
        rw [decide_eq_false fun z => e z.symm]
      rw [this, Option.or_none]
theorem putA_map (π : α → β) (xs : List (Od × α)) (k : Od) (d : α) : (putA xs k d).map (fun p => (p.1, π p.2)) = putA (xs.map fun p => (p.1, π p.2)) k (π d) := by
  unfold putA
  rw [List.any_map]
  show _ = if (xs.any fun p => decide (p.1 = k)) = true then _ else _
  split
  · rw [List.map_map, List.map_map]
    refine List.map_congr_left fun p _ => ?_
    simp only [Function.comp]
    split <;> rfl
  · rw [List.map_append]
    rfl
theorem getA_map (π : α → β) (xs : List (Od × α)) (k : Od) : getA (xs.map fun p => (p.1, π p.2)) k = (getA xs k).map π := by
  unfold getA
  rw [List.find?_map, Option.map_map, Option.map_map]
  rfl
/-- one swap of one order of a level -/
def bStep (up : α → Pr → Option α → α) (met : List Od) (h : Od × α) (acc : List (Od × α)) (w : Pr) : List (Od × α) :=
  if swp h.1 w ∈ met then acc else putA acc (swp h.1 w) (up h.2 w (getA acc (swp h.1 w)))
def bRow (up : α → Pr → Option α → α) (web : List Pr) (met : List Od) (acc : List (Od × α)) (h : Od × α) : List (Od × α) := web.foldl (bStep up met h) acc
def bNext (up : α → Pr → Option α → α) (web : List Pr) (met : List Od) (cur : List (Od × α)) : List (Od × α) := cur.foldl (bRow up web met) []
/-- the level behind i steps, and what is met -/
def bSt (up : α → Pr → Option α → α) (web : List Pr) (o : Od) (a : α) : Nat → List (Od × α) × List Od
  | 0 => ([(o, a)], [o])
  | i + 1 => let s := bSt up web o a i; let t := bNext up web s.2 s.1; (t, s.2 ++ t.map (·.1))
abbrev bL (up : α → Pr → Option α → α) (web : List Pr) (o : Od) (a : α) (i : Nat) : List (Od × α) := (bSt up web o a i).1
abbrev bM (up : α → Pr → Option α → α) (web : List Pr) (o : Od) (a : α) (i : Nat) : List Od := (bSt up web o a i).2
/-- the first level that is empty -/
def bEnd (up : α → Pr → Option α → α) (web : List Pr) (o : Od) (a : α) (i : Nat) : Prop := bL up web o a i = [] ∧ ∀ j, j < i → bL up web o a j ≠ []
theorem bEnd.uniq {up : α → Pr → Option α → α} {web : List Pr} {o : Od} {a : α} {i j : Nat} (h : bEnd up web o a i) (k : bEnd up web o a j) : i = j := by
  rcases Nat.lt_trichotomy i j with z | z | z
  · exact absurd h.1 (k.2 i z)
  · exact z
  · exact absurd k.1 (h.2 j z)
/-- what is told of a level by less -/
theorem bStep_map (π : α → β) {up : α → Pr → Option α → α} {up' : β → Pr → Option β → β} (hu : ∀ a w o, π (up a w o) = up' (π a) w (o.map π)) (met : List Od) (h : Od × α) (acc : List (Od × α)) (w : Pr) :
    (bStep up met h acc w).map (fun p => (p.1, π p.2)) = bStep up' met (h.1, π h.2) (acc.map fun p => (p.1, π p.2)) w := by
  unfold bStep
  split
  · rfl
  · rw [putA_map, hu, getA_map]
theorem bRow_map (π : α → β) {up : α → Pr → Option α → α} {up' : β → Pr → Option β → β} (hu : ∀ a w o, π (up a w o) = up' (π a) w (o.map π)) (met : List Od) (h : Od × α) : ∀ (web : List Pr) (acc : List (Od × α)),
    (bRow up web met acc h).map (fun p => (p.1, π p.2)) = bRow up' web met (acc.map fun p => (p.1, π p.2)) (h.1, π h.2)
  | [], _ => rfl
  | w :: web, acc => by
    show (bRow up web met (bStep up met h acc w) h).map _ = bRow up' web met (bStep up' met _ _ w) _
    rw [bRow_map π hu met h web, bStep_map π hu]
theorem bNext_map (π : α → β) {up : α → Pr → Option α → α} {up' : β → Pr → Option β → β} (hu : ∀ a w o, π (up a w o) = up' (π a) w (o.map π)) (web : List Pr) (met : List Od) (cur : List (Od × α)) :
    (bNext up web met cur).map (fun p => (p.1, π p.2)) = bNext up' web met (cur.map fun p => (p.1, π p.2)) := by
  unfold bNext
  have : ∀ (cur : List (Od × α)) (acc : List (Od × α)), (cur.foldl (bRow up web met) acc).map (fun p => (p.1, π p.2)) = (cur.map fun p => (p.1, π p.2)).foldl (bRow up' web met) (acc.map fun p => (p.1, π p.2)) := by
    intro cur
    induction cur with
    | nil => exact fun _ => rfl
    | cons h cur ih =>
      intro acc
      rw [List.foldl_cons, List.map_cons, List.foldl_cons, ih, bRow_map π hu]
  exact this cur []
theorem bSt_map (π : α → β) {up : α → Pr → Option α → α} {up' : β → Pr → Option β → β} (hu : ∀ a w o, π (up a w o) = up' (π a) w (o.map π)) (web : List Pr) (o : Od) (a : α) : ∀ i,
    (bL up web o a i).map (fun p => (p.1, π p.2)) = bL up' web o (π a) i ∧ bM up web o a i = bM up' web o (π a) i
  | 0 => ⟨rfl, rfl⟩
  | i + 1 => by
    obtain ⟨h1, h2⟩ := bSt_map π hu web o a i
    have e : (bNext up web (bM up web o a i) (bL up web o a i)).map (fun p => (p.1, π p.2)) = bNext up' web (bM up' web o (π a) i) (bL up' web o (π a) i) := by rw [bNext_map π hu, h1, h2]
    refine ⟨e, ?_⟩
    show bM up web o a i ++ (bNext up web (bM up web o a i) (bL up web o a i)).map (·.1) = bM up' web o (π a) i ++ (bNext up' web (bM up' web o (π a) i) (bL up' web o (π a) i)).map (·.1)
    rw [← e, h2, List.map_map]
    rfl
theorem bEnd_map (π : α → β) {up : α → Pr → Option α → α} {up' : β → Pr → Option β → β} (hu : ∀ a w o, π (up a w o) = up' (π a) w (o.map π)) {web : List Pr} {o : Od} {a : α} {i : Nat} (h : bEnd up web o a i) : bEnd up' web o (π a) i := by
  refine ⟨?_, fun j hj z => h.2 j hj ?_⟩
  · rw [← (bSt_map π hu web o a i).1, h.1]
    rfl
  · rw [← (bSt_map π hu web o a j).1] at z
    exact List.map_eq_nil_iff.mp z
theorem nd1 {α : Type} (a : α) : [a].Nodup := List.nodup_cons.mpr ⟨by simp, List.nodup_nil⟩
/-! what stands in a level -/
structure OkL (n : Nat) (ks : List Od) : Prop where
  nd : ks.Nodup
  rg : ∀ o ∈ ks, o.length = n ∧ ∀ x ∈ o, 0 ≤ x ∧ x < n
def allT (n : Nat) : Nat → List Od
  | 0 => [[]]
  | k + 1 => (List.range n).flatMap fun i : Nat => (allT n k).map fun o => (i : Int) :: o
theorem allT_len (n : Nat) : ∀ k, (allT n k).length = n ^ k
  | 0 => rfl
  | k + 1 => by
    have : ∀ l : List Nat, (l.flatMap fun i : Nat => (allT n k).map fun o => (i : Int) :: o).length = l.length * n ^ k := by
      intro l
      induction l with
      | nil => simp
      | cons a l ih => rw [List.flatMap_cons, List.length_append, ih, List.length_map, allT_len n k, List.length_cons, Nat.succ_mul, Nat.add_comm]
    rw [allT, this, List.length_range, Nat.pow_succ, Nat.mul_comm]
theorem mem_allT (n : Nat) : ∀ (k : Nat) (o : Od), o.length = k → (∀ x ∈ o, 0 ≤ x ∧ x < n) → o ∈ allT n k
  | 0, o, h, _ => by rw [List.length_eq_zero_iff.mp h]; exact List.mem_singleton.mpr rfl
  | k + 1, [], h, _ => by simp at h
  | k + 1, x :: o, h, hx => by
    obtain ⟨x0, x1⟩ := hx x List.mem_cons_self
    refine List.mem_flatMap.mpr ⟨x.toNat, List.mem_range.mpr (by omega), List.mem_map.mpr ⟨o, mem_allT n k o (by simpa using h) fun y hy => hx y (List.mem_cons_of_mem _ hy), ?_⟩⟩
    rw [show ((x.toNat : Nat) : Int) = x from by omega]
theorem pigeonL {α : Type} [DecidableEq α] : ∀ {l m : List α}, l.Nodup → (∀ x ∈ l, x ∈ m) → l.length ≤ m.length
  | [], _, _, _ => Nat.zero_le _
  | x :: l, m, h, k => by
    obtain ⟨h1, h2⟩ := List.nodup_cons.mp h
    have hx := k x List.mem_cons_self
    have := pigeonL (l := l) (m := m.erase x) h2 fun y hy => (List.mem_erase_of_ne fun e => h1 (by rw [← e]; exact hy)).mpr (k y (List.mem_cons_of_mem _ hy))
    rw [List.length_erase_of_mem hx] at this
    have := List.length_pos_of_mem hx
    rw [List.length_cons]
    omega
theorem OkL.le {n : Nat} {ks : List Od} (h : OkL n ks) : ks.length ≤ n ^ n := by
  rw [← allT_len n n]
  exact pigeonL h.nd fun o ho => mem_allT n n o (h.rg o ho).1 (h.rg o ho).2
theorem pow_le6 {n : Nat} (h : n ≤ 6) : n ^ n ≤ 46656 := by
  match n, h with
  | 0, _ => decide
  | 1, _ => decide
  | 2, _ => decide
  | 3, _ => decide
  | 4, _ => decide
  | 5, _ => decide
  | 6, _ => decide
/-- orders of marks: lists of length n over 0 .. n - 1 -/
def isO (n : Nat) (o : Od) : Prop := o.length = n ∧ ∀ x ∈ o, 0 ≤ x ∧ x < n
theorem isO.swp {n : Nat} {o : Od} (h : isO n o) {w : Pr} (hw : 0 ≤ w.1 ∧ w.1 < n ∧ 0 ≤ w.2 ∧ w.2 < n) : isO n (swp o w) := by
  obtain ⟨h1, h2⟩ := h
  have pm := swp_perm (l := o) (p := w) (by omega) (by omega)
  exact ⟨by rw [swp_len, h1], fun x hx => h2 x (pm.mem_iff.mp hx)⟩
/-- the keys of what is made of a level: new ones -/
structure OkN (n : Nat) (met : List Od) (acc : List (Od × α)) : Prop where
  ok : OkL n (acc.map (·.1))
  new : ∀ o ∈ acc.map (·.1), ¬ o ∈ met
theorem OkN.nil (n : Nat) (met : List Od) : OkN n met ([] : List (Od × α)) := ⟨⟨List.nodup_nil, fun o h => by cases h⟩, fun o h => by cases h⟩
theorem OkN.put {n : Nat} {met : List Od} {acc : List (Od × α)} (h : OkN n met acc) {o : Od} (ho : isO n o) (hm : ¬ o ∈ met) (d : α) : OkN n met (putA acc o d) := by
  have e := putA_keys acc o d
  by_cases q : o ∈ acc.map (·.1)
  · rw [if_pos q] at e
    exact ⟨by rw [e]; exact h.ok, by rw [e]; exact h.new⟩
  · rw [if_neg q] at e
    refine ⟨⟨?_, fun u hu => ?_⟩, fun u hu => ?_⟩
    · rw [e, List.nodup_append]
      exact ⟨h.ok.nd, nd1 _, fun a ha b hb z => q (by rw [← List.mem_singleton.mp hb, ← z]; exact ha)⟩
    · rw [e] at hu
      rcases List.mem_append.mp hu with z | z
      · exact h.ok.rg u z
      · rw [List.mem_singleton.mp z]
        exact ho
    · rw [e] at hu
      rcases List.mem_append.mp hu with z | z
      · exact h.new u z
      · rw [List.mem_singleton.mp z]
        exact hm
theorem OkN.step {n : Nat} {met : List Od} {acc : List (Od × α)} (h : OkN n met acc) {up : α → Pr → Option α → α} {c : Od × α} (hc : isO n c.1) {w : Pr} (hw : 0 ≤ w.1 ∧ w.1 < n ∧ 0 ≤ w.2 ∧ w.2 < n) : OkN n met (bStep up met c acc w) := by
  unfold bStep
  split
  · exact h
  · rename_i q
    exact h.put (hc.swp hw) q _
theorem OkN.row {n : Nat} {met : List Od} {up : α → Pr → Option α → α} {c : Od × α} (hc : isO n c.1) : ∀ {web : List Pr} {acc : List (Od × α)}, OkN n met acc → (∀ w ∈ web, 0 ≤ w.1 ∧ w.1 < n ∧ 0 ≤ w.2 ∧ w.2 < n) → OkN n met (bRow up web met acc c)
  | [], _, h, _ => h
  | w :: web, acc, h, hw => show OkN n met (bRow up web met (bStep up met c acc w) c) from OkN.row hc (h.step hc (hw w List.mem_cons_self)) fun v hv => hw v (List.mem_cons_of_mem _ hv)
theorem OkN.rows {n : Nat} {met : List Od} {up : α → Pr → Option α → α} {web : List Pr} (hw : ∀ w ∈ web, 0 ≤ w.1 ∧ w.1 < n ∧ 0 ≤ w.2 ∧ w.2 < n) : ∀ {cur : List (Od × α)} {acc : List (Od × α)}, OkN n met acc → (∀ c ∈ cur, isO n c.1) → OkN n met (cur.foldl (bRow up web met) acc)
  | [], _, h, _ => h
  | c :: cur, acc, h, hc => show OkN n met (cur.foldl (bRow up web met) (bRow up web met acc c)) from OkN.rows hw (OkN.row (hc c List.mem_cons_self) h hw) fun v hv => hc v (List.mem_cons_of_mem _ hv)
theorem bSt_ok {n : Nat} {up : α → Pr → Option α → α} {web : List Pr} (hw : ∀ w ∈ web, 0 ≤ w.1 ∧ w.1 < n ∧ 0 ≤ w.2 ∧ w.2 < n) {o : Od} (ho : isO n o) (a : α) : ∀ i, OkL n (bM up web o a i) ∧ (∀ c ∈ bL up web o a i, isO n c.1 ∧ c.1 ∈ bM up web o a i) ∧ (bL up web o a i).length ≤ n ^ n
  | 0 => by
    refine ⟨⟨nd1 _, fun u hu => by rw [List.mem_singleton.mp hu]; exact ho⟩, fun c hc => by rw [List.mem_singleton.mp hc]; exact ⟨ho, List.mem_singleton.mpr rfl⟩, ?_⟩
    have k : OkL n [o] := ⟨nd1 _, fun u hu => by rw [List.mem_singleton.mp hu]; exact ho⟩
    exact k.le
  | i + 1 => by
    obtain ⟨h1, h2, h3⟩ := bSt_ok hw ho a i
    have k : OkN n (bM up web o a i) (bNext up web (bM up web o a i) (bL up web o a i)) := OkN.rows hw (OkN.nil n _) fun c hc => (h2 c hc).1
    obtain ⟨t, ht⟩ : ∃ t, bNext up web (bM up web o a i) (bL up web o a i) = t := ⟨_, rfl⟩
    have e1 : bL up web o a (i + 1) = t := ht
    have e2 : bM up web o a (i + 1) = bM up web o a i ++ t.map (·.1) := by rw [← ht]; rfl
    rw [ht] at k
    rw [e1, e2]
    refine ⟨⟨?_, fun u hu => ?_⟩, fun c hc => ?_, ?_⟩
    · rw [List.nodup_append]
      exact ⟨h1.nd, k.ok.nd, fun x hx y hy z => k.new y hy (by rw [← z]; exact hx)⟩
    · rcases List.mem_append.mp hu with z | z
      · exact h1.rg u z
      · exact k.ok.rg u z
    · have hm := List.mem_map_of_mem (f := (·.1)) hc
      exact ⟨k.ok.rg _ hm, List.mem_append_right _ hm⟩
    · have := k.ok.le
      rwa [List.length_map] at this
theorem bM_succ (up : α → Pr → Option α → α) (web : List Pr) (o : Od) (a : α) (i : Nat) : bM up web o a (i + 1) = bM up web o a i ++ (bL up web o a (i + 1)).map (·.1) := rfl
theorem bL_succ (up : α → Pr → Option α → α) (web : List Pr) (o : Od) (a : α) (i : Nat) : bL up web o a (i + 1) = bNext up web (bM up web o a i) (bL up web o a i) := rfl
end
theorem noX_tup {α : Type} (g : α → PyData) (h : α → List PyData) : ∀ xs : List α, noX (.dict (xs.map fun p => (PyData.tuple (h p), g p))) = true
  | [] => rfl
  | _ :: _ => rfl
/-! ### walks over levels -/
theorem ints_kd (o : Od) : (kk o).map kd = o.map PyData.int := kd_kk o
def dctD {α : Type} (f : α → PyData) (xs : List (Od × α)) : PyData := .dict (xs.map fun p => (PyData.tuple (p.1.map PyData.int), f p.2))
theorem data_enc {α : Type} (f : α → PyData) (xs : List (Od × α)) : (T.dt (enc f xs)).data = dctD f xs := by
  rw [data_dt]
  unfold enc dctD
  rw [List.map_map]
  refine congrArg PyData.dict (List.map_congr_left fun p _ => ?_)
  show (PyData.tuple ((kk p.1).map kd), f p.2) = _
  rw [kd_kk]
theorem entT_enc {α : Type} (f : α → PyData) (xs : List (Od × α)) : entT (xs.map fun p => (PyData.tuple (p.1.map PyData.int), f p.2)) = some (enc f xs) := by
  have := entT_map (enc f xs)
  rw [← this]
  refine congrArg entT ?_
  unfold enc
  rw [List.map_map]
  refine List.map_congr_left fun p _ => ?_
  show _ = (PyData.tuple ((kk p.1).map kd), f p.2)
  rw [kd_kk]
theorem items_enc {α : Type} (f : α → PyData) (xs : List (Od × α)) : ((enc f xs).map fun p => PyData.tuple [PyData.tuple (p.1.map kd), p.2]) = xs.map fun p => PyData.tuple [PyData.tuple (p.1.map PyData.int), f p.2] := by
  unfold enc
  rw [List.map_map]
  refine List.map_congr_left fun p _ => ?_
  show PyData.tuple [PyData.tuple ((kk p.1).map kd), f p.2] = _
  rw [kd_kk]
theorem keys_enc {α : Type} (f : α → PyData) (xs : List (Od × α)) : ((enc f xs).map fun p => PyData.tuple (p.1.map kd)) = xs.map fun p => PyData.tuple (p.1.map PyData.int) := by
  unfold enc
  rw [List.map_map]
  refine List.map_congr_left fun p _ => ?_
  show PyData.tuple ((kk p.1).map kd) = _
  rw [kd_kk]
/-- those that are met -/
def metA (ks : List Od) : List (Od × Unit) := ks.map fun k => (k, ())
abbrev metE (ks : List Od) : List (List Key × PyData) := enc (fun _ : Unit => .bool true) (metA ks)
theorem metA_keys (ks : List Od) : (metA ks).map (·.1) = ks := by
  unfold metA
  rw [List.map_map]
  exact (List.map_congr_left fun _ _ => rfl).trans (List.map_id ks)
theorem met_in (ks : List Od) (o : Od) : (getT (metE ks) (kk o)).isSome = decide (o ∈ ks) := by
  rw [getT_enc, Option.isSome_map, getA_some, metA_keys]
theorem met_put (ks : List Od) (o : Od) (h : ¬ o ∈ ks) : putDT (metE ks) (kk o) (.bool true) = metE (ks ++ [o]) := by
  rw [putDT_enc (fun _ : Unit => PyData.bool true) (metA ks) o ()]
  refine congrArg (enc _) ?_
  unfold putA
  rw [if_neg]
  · unfold metA
    rw [List.map_append]
    rfl
  · intro z
    obtain ⟨p, hp, e⟩ := List.any_eq_true.mp z
    refine h ?_
    rw [← metA_keys ks, ← of_decide_eq_true e]
    exact List.mem_map_of_mem hp
theorem met_len (ks : List Od) : (metE ks).length = ks.length := by
  rw [enc_len, metA, List.length_map]
theorem l_swapped {o : Od} {p : Pr} {Q : T → Rho → Prop} {R : Str → Rho → Prop} (hz : o.length ≤ 1000) (hp : 0 ≤ p.1 ∧ p.1 < o.length ∧ 0 ≤ p.2 ∧ p.2 < o.length) (h : Q (.d (.tuple ((swp o p).map PyData.int))) [none, none]) :
    wp_swapped [some (.d (.tuple (o.map PyData.int))), some (.d (pairD p))] Q R := by
  rw [wpe_swapped]
  unfold wpOf rd_swapped
  obtain ⟨g1, g2, g3, g4⟩ := hp
  with_reducible refine s_seqO (fun ρ => ρ = [some (.d (.tuple (o.map PyData.int))), some (.d (pairD p)), some (dis o)]) (fun ρ hI => ?_) fun K _ _ _ hK => ?_
  rotate_left 1
  · exfalso
    exact hK _ (by rw [dis_eq]; rfl)
  subst hI
  with_reducible refine s_seqO (fun ρ => ρ = [some (.d (.tuple (o.map PyData.int))), some (.d (pairD p)), some (dis (swp o p))]) (fun ρ hI => ?_) fun K _ _ _ hK => ?_
  rotate_left 1
  · exfalso
    rw [at_map PyData.int g3 g4]
    exfalso
    rw [at_map PyData.int g1 g2]
    exfalso
    rw [ixN_nat g1 (by rw [List.length_map]; exact g2)]
    exfalso
    rw [ixN_nat g3 (by rw [List.length_set, List.length_map]; exact g4)]
    exfalso
    refine hK _ ?_
    rw [dis_swp (by omega) (by omega)]
    rfl
  subst hI
  exfalso
  exact h
theorem pureTup (xs : List Int) : (T.d (.tuple (xs.map PyData.int))).pure = true := by
  rw [T.pure, imm, immL_all, List.all_map]
  exact List.all_eq_true.mpr fun x _ => rfl
def upC : Nat → Pr → Option Nat → Nat := fun c _ o => o.getD 0 + c
abbrev cD : Nat → PyData := fun c => .int (c : Nat)
theorem at_end (D : Nat → PyData) (i : Nat) : atI ((List.range (i + 1)).map D) (-1) = some (D i) := by
  rw [List.range_succ, List.map_append]
  exact at_last
def lastE (ρ : Rho) (j : Nat) : Nat := match ρ[j]? with
  | some (some (.ls ts)) => match ts.getLast? with
    | some (.d (.dict [])) => 0
    | _ => 1
  | _ => 1
def dtLen (ρ : Rho) (j : Nat) : Nat := match ρ[j]? with
  | some (some (.dt xs)) => xs.length
  | _ => 0
theorem lastE_at {ρ : Rho} {F : Nat → PyData} {k : Nat} {α : Type} (f : α → PyData) (xs : List (Od × α)) (h : ρ[2]? = some (some (.ls ((List.range (k + 1)).map fun j => T.d (F j))))) (e : F k = dctD f xs) : lastE ρ 2 = if xs = [] then 0 else 1 := by
  unfold lastE
  rw [h]
  simp only
  rw [List.range_succ, List.map_append, List.map_cons, List.map_nil, List.getLast?_append]
  simp only [List.getLast?_singleton, Option.some_or]
  rw [e]
  cases xs with
  | nil => rfl
  | cons a l => rfl
theorem bM_len {α : Type} {up : α → Pr → Option α → α} {web : List Pr} {o : Od} {a : α} : ∀ {i : Nat}, (∀ j, j ≤ i → bL up web o a j ≠ []) → i + 1 ≤ (bM up web o a i).length
  | 0, _ => Nat.le_refl _
  | i + 1, h => by
    have ih := bM_len (i := i) fun j hj => h j (by omega)
    rw [bM_succ, List.length_append, List.length_map]
    have := List.length_pos_iff.mpr (h (i + 1) (Nat.le_refl _))
    omega
theorem l_levels {n : Nat} {o : Od} {web : List Pr} {Q : T → Rho → Prop} {R : Str → Rho → Prop} (hn : n ≤ 6) (ho : isO n o) (hw : inRg n web) (hwz : web.length ≤ 100000)
    (h : ∀ i, bEnd upC web o 1 i → Q (.ls ((List.range i).map fun j => T.d (dctD cD (bL upC web o 1 j)))) [none, none]) : wp_levels_from [some (L o), some (LP web)] Q R := by
  rw [wpe_levels_from]
  unfold wpOf rd_levels_from
  have ok := fun i => bSt_ok (up := upC) hw ho 1 i
  have pw := pow_le6 hn
  with_reducible refine s_seqO (fun ρ => ρ = [some (L o), some (LP web), some (.ls [T.d (dctD cD [(o, 1)])]), none, none, none, none, none, none]) (fun ρ hI => ?_) fun K _ _ _ hK => ?_
  rotate_left 1
  · exfalso
    rw [keysOf_int]
    exfalso
    refine hK _ ?_
    rw [data_d, show T.dt [(kk o, PyData.int 1)] = T.dt (enc cD [(o, 1)]) from rfl, data_enc]
    rfl
  subst hI
  with_reducible refine s_seqO (fun ρ => ρ = [some (L o), some (LP web), some (.ls [T.d (dctD cD [(o, 1)])]), some (.dt (metE [o])), none, none, none, none, none]) (fun ρ hI => ?_) fun K _ _ _ hK => ?_
  rotate_left 1
  · exfalso
    rw [keysOf_int]
    exfalso
    refine hK _ ?_
    rw [data_d]
    rfl
  subst hI
  with_reducible refine s_seqO (fun ρ => ∃ (i : Nat) (o4 o5 o6 o7 o8 : Option T), ρ = [some (L o), some (LP web), some (.ls ((List.range (i + 1)).map fun j => T.d (dctD cD (bL upC web o 1 j)))), some (.dt (metE (bM upC web o 1 i))), o4, o5, o6, o7, o8] ∧ bEnd upC web o 1 i) (fun ρ hI => ?_) fun K _ _ _ hK => ?_
  rotate_left 1
  · refine s_whileO (fun ρ => ∃ (i : Nat) (o4 o5 o6 o7 o8 : Option T), ρ = [some (L o), some (LP web), some (.ls ((List.range (i + 1)).map fun j => T.d (dctD cD (bL upC web o 1 j)))), some (.dt (metE (bM upC web o 1 i))), o4, o5, o6, o7, o8] ∧ ∀ j, j < i → bL upC web o 1 j ≠ []) (fun ρ => 2 * (46656 - dtLen ρ 3) + lastE ρ 2) ⟨0, none, none, none, none, none, rfl, fun j hj => absurd hj (Nat.not_lt_zero _)⟩ fun ρ hI K2 _ _ hK2 => ?_
    obtain ⟨i, o4', o5', o6', o7', o8', rfl, hbe⟩ := hI
    obtain ⟨o4, o5, o6, o7, o8, h4, h5, h6, h7, h8⟩ : ∃ o4 o5 o6 o7 o8, o4 = o4' ∧ o5 = o5' ∧ o6 = o6' ∧ o7 = o7' ∧ o8 = o8' := ⟨_, _, _, _, _, rfl, rfl, rfl, rfl, rfl⟩
    rw [← h4, ← h5, ← h6, ← h7, ← h8]
    exfalso
    rw [at_end]
    exfalso
    · exact sdI (noX_tup _ _ _)
    rw [List.length_map]
    refine w_dec (fun q => ?_) (fun q => ?_)
    rotate_left 1
    · refine hK _ ⟨i, _, _, _, _, _, rfl, List.length_eq_zero_iff.mp (by simpa using q), hbe⟩
    have hne : bL upC web o 1 i ≠ [] := fun z => by simp [z] at q
    obtain ⟨k1, k2, k3⟩ := ok i
    obtain ⟨k1', k2', k3'⟩ := ok (i + 1)
    have es := bL_succ upC web o 1 i
    have em := bM_succ upC web o 1 i
    obtain ⟨cur, hcur⟩ : ∃ cur, bL upC web o 1 i = cur := ⟨_, rfl⟩
    obtain ⟨met, hmet⟩ : ∃ met, bM upC web o 1 i = met := ⟨_, rfl⟩
    rw [hcur] at hne k2 k3 es
    rw [hmet] at k1 k2 es em
    obtain ⟨FD, hFD⟩ : ∃ FD : Nat → PyData, (fun j => dctD cD (bL upC web o 1 j)) = FD := ⟨_, rfl⟩
    have hFD' : ∀ j, dctD cD (bL upC web o 1 j) = FD j := fun j => by rw [← hFD]
    have hFi : FD i = dctD cD cur := by rw [← hFD', hcur]
    simp only [hFD']
    rw [hmet]
    with_reducible refine s_seqO (fun ρ => ρ = [some (L o), some (LP web), some (.ls ((List.range (i + 1)).map fun j => T.d (FD j))), some (.dt (metE met)), some (.dt (enc cD [])), o5, o6, o7, o8]) (fun ρ hI => ?_) fun K _ _ _ hK => ?_
    rotate_left 1
    · exfalso
      exact hK _ rfl
    subst hI
    with_reducible refine s_seqO (fun ρ => ∃ (o5 o6 o7 o8 : Option T), ρ = [some (L o), some (LP web), some (.ls ((List.range (i + 1)).map fun j => T.d (FD j))), some (.dt (metE met)), some (.dt (enc cD (bNext upC web met cur))), o5, o6, o7, o8]) (fun ρ hI => ?_) fun K _ _ _ hK => ?_
    rotate_left 1
    · exfalso
      rw [at_end, hFi]
      exfalso
      rw [entT_enc]
      exfalso
      · exact sdI (fun z => hne (List.map_eq_nil_iff.mp z))
      rw [items_enc]
      refine ⟨fun j ρ => ∃ (o5 o6 o7 o8 : Option T), ρ = [some (L o), some (LP web), some (.ls ((List.range (i + 1)).map fun j => T.d (FD j))), some (.dt (metE met)), some (.dt (enc cD ((cur.take j).foldl (bRow upC web met) []))), o5, o6, o7, o8], ⟨o5, o6, o7, o8, rfl⟩, fun j d ρ hq hI => ?_, fun ρ hI => ?_⟩
      · obtain ⟨o5, o6, o7, o8, rfl⟩ := hI
        rw [List.getElem?_map] at hq
        cases hx : cur[j]? with
        | none => simp [hx] at hq
        | some c =>
        rw [hx] at hq
        cases hq
        have hc := (k2 c (List.mem_of_getElem? hx)).1
        have hacc : OkN n met ((cur.take j).foldl (bRow upC web met) []) := OkN.rows hw (OkN.nil n met) fun u hu => (k2 u (List.mem_of_mem_take hu)).1
        have et : (cur.take (j + 1)).foldl (bRow upC web met) [] = bRow upC web met ((cur.take j).foldl (bRow upC web met) []) c := by
          rw [take_snoc hx, List.foldl_append]
          rfl
        obtain ⟨acc, hac⟩ : ∃ acc, (cur.take j).foldl (bRow upC web met) [] = acc := ⟨_, rfl⟩
        rw [hac] at hacc et ⊢
        refine s_gTup rfl rfl (s_gCons (s_gNt (s_gCons (s_gNt (s_gNil ?_)))))
        exfalso
        refine ⟨fun l ρ => ∃ (o7 o8 : Option T), ρ = [some (L o), some (LP web), some (.ls ((List.range (i + 1)).map fun j => T.d (FD j))), some (.dt (metE met)), some (.dt (enc cD ((web.take l).foldl (bStep upC met c) acc))), some (.d (.tuple (c.1.map PyData.int))), some (di (c.2 : Nat)), o7, o8], ⟨o7, o8, rfl⟩, fun l d ρ hq hI => ?_, fun ρ hI => ?_⟩
        · obtain ⟨o7, o8, rfl⟩ := hI
          rw [List.getElem?_map] at hq
          cases hy : web[l]? with
          | none => simp [hy] at hq
          | some w =>
          rw [hy] at hq
          cases hq
          have hwl := hw w (List.mem_of_getElem? hy)
          have hacc2 : OkN n met ((web.take l).foldl (bStep upC met c) acc) := OkN.row hc hacc fun u hu => hw u (List.mem_of_mem_take hu)
          have et2 : (web.take (l + 1)).foldl (bStep upC met c) acc = bStep upC met c ((web.take l).foldl (bStep upC met c) acc) w := by
            rw [take_snoc hy, List.foldl_append]
            rfl
          obtain ⟨ac2, hac2⟩ : ∃ ac2, (web.take l).foldl (bStep upC met c) acc = ac2 := ⟨_, rfl⟩
          rw [hac2] at hacc2 et2 ⊢
          have hal := hacc2.ok.le
          rw [List.length_map] at hal
          refine s_gNt ?_
          with_reducible refine s_seqO (fun ρ => ρ = [some (L o), some (LP web), some (.ls ((List.range (i + 1)).map fun j => T.d (FD j))), some (.dt (metE met)), some (.dt (enc cD ac2)), some (.d (.tuple (c.1.map PyData.int))), some (di (c.2 : Nat)), some (.d (pairD w)), some (.d (.tuple ((swp c.1 w).map PyData.int)))]) (fun ρ hI => ?_) fun K _ _ _ hK => ?_
          rotate_left 1
          · exfalso
            refine wp_args (b := [some (.d (.tuple (c.1.map PyData.int))), some (.d (pairD w))]) rfl (l_swapped (by rw [hc.1]; omega) (by rw [hc.1]; exact hwl) ?_)
            exfalso
            · exact sdI (pureTup _)
            exact hK _ rfl
          subst hI
          exfalso
          rw [keysOf_int]
          exfalso
          rw [met_in]
          refine w_eqB2 (b := !decide (swp c.1 w ∈ met)) (by rw [if_pos rfl]) (fun q _ => ?_) (fun q _ => ?_)
          · have nm : ¬ swp c.1 w ∈ met := by simpa using q
            have eb : bStep upC met c ac2 w = putA ac2 (swp c.1 w) (upC c.2 w (getA ac2 (swp c.1 w))) := by
              unfold bStep
              rw [if_neg nm]
            exfalso
            rw [keysOf_int]
            exfalso
            rw [getT_enc]
            cases hg : getA ac2 (swp c.1 w) with
            | none =>
              exfalso
              rw [keysOf_int]
              exfalso
              · exact sdI (by rw [enc_len]; omega)
              have z : putDT (enc cD ac2) (kk (swp c.1 w)) (T.d (.int ((0 : Int) + ((c.2 : Nat) : Int)))).data = enc cD (putA ac2 (swp c.1 w) (upC c.2 w none)) := by
                rw [data_d, ← putDT_enc]
                refine congrArg (putDT (enc cD ac2) (kk (swp c.1 w))) ?_
                show _ = PyData.int (((none : Option Nat).getD 0 + c.2 : Nat) : Int)
                rw [Int.natCast_add]
                rfl
              rw [et2, eb, hg, ← z]
              exact ⟨some (.d (pairD w)), some (.d (.tuple ((swp c.1 w).map PyData.int))), rfl⟩
            | some v =>
              exfalso
              rw [keysOf_int]
              exfalso
              · exact sdI (by rw [enc_len]; omega)
              have z : putDT (enc cD ac2) (kk (swp c.1 w)) (T.d (.int (((v : Nat) : Int) + ((c.2 : Nat) : Int)))).data = enc cD (putA ac2 (swp c.1 w) (upC c.2 w (some v))) := by
                rw [data_d, ← putDT_enc]
                refine congrArg (putDT (enc cD ac2) (kk (swp c.1 w))) ?_
                show _ = PyData.int ((((some v) : Option Nat).getD 0 + c.2 : Nat) : Int)
                rw [Int.natCast_add]
                rfl
              rw [et2, eb, hg, ← z]
              exact ⟨some (.d (pairD w)), some (.d (.tuple ((swp c.1 w).map PyData.int))), rfl⟩
          · have nm : swp c.1 w ∈ met := by simpa using q
            have eb : bStep upC met c ac2 w = ac2 := by
              unfold bStep
              rw [if_pos nm]
            exact ⟨some (.d (pairD w)), some (.d (.tuple ((swp c.1 w).map PyData.int))), by rw [et2, eb]⟩
        · obtain ⟨o7, o8, rfl⟩ := hI
          rw [List.length_map, List.take_length]
          exact ⟨_, _, _, _, by rw [et]; rfl⟩
      · obtain ⟨o5, o6, o7, o8, rfl⟩ := hI
        rw [List.length_map, List.take_length]
        exact hK _ ⟨_, _, _, _, rfl⟩
    obtain ⟨o5, o6, o7, o8, rfl⟩ := hI
    rw [← es]
    obtain ⟨nxt, hnxt⟩ : ∃ nxt, bL upC web o 1 (i + 1) = nxt := ⟨_, rfl⟩
    rw [hnxt] at k2' k3' es em ⊢
    with_reducible refine s_seqO (fun ρ => ∃ (o5 o6 o7 o8 : Option T), ρ = [some (L o), some (LP web), some (.ls ((List.range (i + 1)).map fun j => T.d (FD j))), some (.dt (metE (met ++ nxt.map (·.1)))), some (.d (dctD cD nxt)), o5, o6, o7, o8]) (fun ρ hI => ?_) fun K _ _ _ hK => ?_
    rotate_left 1
    · have ew : (T.dt (enc cD nxt)).data = dctD cD nxt := data_enc cD nxt
      have hnk : (nxt.map (·.1)).Nodup ∧ ∀ u ∈ nxt.map (·.1), ¬ u ∈ met := by
        have z : OkN n met (bNext upC web met cur) := OkN.rows hw (OkN.nil n met) fun u hu => (k2 u hu).1
        rw [← es] at z
        exact ⟨z.ok.nd, z.new⟩
      exfalso
      rw [show (List.map (fun p : List Key × PyData => (PyData.tuple (List.map kd p.1), p.2)) (enc cD nxt)) = nxt.map (fun p => (PyData.tuple (p.1.map PyData.int), cD p.2)) from by
        unfold enc
        rw [List.map_map]
        refine List.map_congr_left fun p _ => ?_
        show (PyData.tuple ((kk p.1).map kd), cD p.2) = _
        rw [kd_kk], entT_enc]
      exfalso
      rw [keys_enc, ew]
      refine ⟨fun j ρ => ∃ (o5 o6 o7 o8 : Option T), ρ = [some (L o), some (LP web), some (.ls ((List.range (i + 1)).map fun j => T.d (FD j))), some (.dt (metE (met ++ (nxt.map (·.1)).take j))), some (.d (dctD cD nxt)), o5, o6, o7, o8], ⟨o5, o6, o7, o8, by rw [List.take_zero, List.append_nil]; rfl⟩, fun j d ρ hq hI => ?_, fun ρ hI => ?_⟩
      · obtain ⟨o5, o6, o7, o8, rfl⟩ := hI
        rw [List.getElem?_map] at hq
        cases hx : nxt[j]? with
        | none => simp [hx] at hq
        | some c =>
        rw [hx] at hq
        cases hq
        have hk2 := hnk.2 c.1 (List.mem_map_of_mem (List.mem_of_getElem? hx))
        have hnx : (nxt.map (·.1))[j]? = some c.1 := by
          rw [List.getElem?_map, hx]
          rfl
        have hjn : ¬ c.1 ∈ met ++ (nxt.map (·.1)).take j := fun m => by
          rcases List.mem_append.mp m with m | m
          · exact hk2 m
          · obtain ⟨l, hl, e⟩ := List.getElem_of_mem m
            rw [List.length_take] at hl
            rw [List.getElem_take] at e
            have h2 := (List.getElem?_eq_some_iff.mp hnx).2
            have := (List.getElem_inj (h₀ := by omega) (h₁ := (List.getElem?_eq_some_iff.mp hnx).1) hnk.1).mp (e.trans h2.symm)
            omega
        have hml : (met ++ (nxt.map (·.1)).take j).length ≤ 46656 + 46656 := by
          have := k1.le
          rw [List.length_append, List.length_take, List.length_map]
          omega
        refine s_gNt ?_
        exfalso
        rw [keysOf_int]
        exfalso
        · exact sdI (by rw [met_len]; omega)
        refine ⟨o5, o6, o7, some (.d (.tuple (c.1.map PyData.int))), ?_⟩
        simp only [data_d]
        rw [met_put _ _ hjn, List.append_assoc, ← take_snoc hnx]
        rfl
      · obtain ⟨o5, o6, o7, o8, rfl⟩ := hI
        rw [List.length_map, List.take_of_length_le (by rw [List.length_map]; exact Nat.le_refl _)]
        exact hK _ ⟨_, _, _, _, rfl⟩
    obtain ⟨o5, o6, o7, o8, rfl⟩ := hI
    have hib : i ≤ 46656 := by
      have z := bM_len (up := upC) (web := web) (o := o) (a := 1) (i := i) fun j hj => by
        by_cases e : j = i
        · rw [e, hcur]
          exact hne
        · exact hbe j (by omega)
      rw [hmet] at z
      have := k1.le
      omega
    exfalso
    · exact sdI (by rw [List.length_map, List.length_range]; omega)
    refine hK2 _ ⟨i + 1, some (.d (dctD cD nxt)), o5, o6, o7, o8, ?_, fun j hj => ?_⟩ ?_
    · have eF : FD (i + 1) = dctD cD nxt := by rw [← hFD', hnxt]
      simp only [data_d, hFD']
      rw [em, List.range_succ (n := i + 1), List.map_append, List.map_cons, List.map_nil, eF]
      rfl
    · by_cases e : j = i
      · rw [e, hcur]
        exact hne
      · exact hbe j (by omega)
    · have l1 := lastE_at (ρ := [some (L o), some (LP web), some (T.ls ((List.range (i + 1)).map fun j => T.d (FD j))), some (.dt (metE met)), o4', o5', o6', o7', o8']) (F := FD) (k := i) cD cur rfl hFi
      rw [if_neg hne] at l1
      have l2 := lastE_at (ρ := [some (L o), some (LP web), some (T.ls ((List.range (i + 1 + 1)).map fun j => T.d (FD j))), some (.dt (metE (met ++ nxt.map (·.1)))), some (.d (dctD cD nxt)), o5, o6, o7, o8]) (F := FD) (k := i + 1) cD nxt rfl (by rw [← hFD', hnxt])
      have d1 : (metE (met ++ nxt.map (·.1))).length = met.length + nxt.length := by rw [met_len, List.length_append, List.length_map]
      have d2 : (metE met).length = met.length := met_len met
      have b2 : met.length + nxt.length ≤ 46656 := by
        have := k1'.le
        rw [em, List.length_append, List.length_map] at this
        omega
      have eF : FD (i + 1) = dctD cD nxt := by rw [← hFD', hnxt]
      have er : List.map (fun j => T.d (FD j)) (List.range (i + 1)) ++ [T.d (dctD cD nxt)] = (List.range (i + 1 + 1)).map fun j => T.d (FD j) := by
        rw [List.range_succ (n := i + 1), List.map_append, List.map_cons, List.map_nil, eF]
      simp only [data_d, hFD', hmet]
      rw [er]
      show 2 * (46656 - (metE (met ++ nxt.map (·.1))).length) + lastE [some (L o), some (LP web), some (T.ls ((List.range (i + 1 + 1)).map fun j => T.d (FD j))), some (.dt (metE (met ++ nxt.map (·.1)))), some (.d (dctD cD nxt)), o5, o6, o7, o8] 2 < 2 * (46656 - (metE met).length) + lastE [some (L o), some (LP web), some (T.ls ((List.range (i + 1)).map fun j => T.d (FD j))), some (.dt (metE met)), o4', o5', o6', o7', o8'] 2
      rw [l1, l2, d1, d2]
      by_cases z : nxt = []
      · rw [if_pos z, z]
        simp
      · rw [if_neg z]
        have := List.length_pos_iff.mpr z
        omega
  obtain ⟨i, o4, o5, o6, o7, o8, rfl, hbe⟩ := hI
  exfalso
  have ec : cutD (List.map (fun j => dctD cD (bL upC web o 1 j)) (List.range (i + 1))) none (some (-1)) = (List.range i).map fun j => dctD cD (bL upC web o 1 j) := by
    rw [List.range_succ, List.map_append]
    exact cut_last _ _
  rw [ec, List.map_map]
  exact h i hbe
theorem swOk_rg {n : Nat} {web : List Pr} (h : swOk n web) : inRg n web := fun p hp => by
  have := h p hp
  omega
theorem PR.isO {n : Nat} {o : Od} (p : PR n o) : Dl.isO n o := ⟨p.len, fun x hx => by
  obtain ⟨k, hk, rfl⟩ := List.mem_map.mp (p.mem_iff.mp hx)
  have := List.mem_range.mp hk
  exact ⟨by show (0 : Int) ≤ (k : Int); omega, by show (k : Int) < n; omega⟩⟩
def szs (web : List Pr) (o : Od) (i : Nat) : List Int := (List.range i).map fun j => ((bL upC web o 1 j).length : Int)
theorem bEnd_le {α : Type} {n : Nat} {up : α → Pr → Option α → α} {web : List Pr} {o : Od} {a : α} {i : Nat} (hn : n ≤ 6) (ho : isO n o) (hw : inRg n web) (hi : bEnd up web o a i) : i ≤ 46656 := by
  cases i with
  | zero => omega
  | succ i =>
    have z := bM_len (up := up) (web := web) (o := o) (a := a) (i := i) fun j hj => hi.2 j (by omega)
    have := (bSt_ok (up := up) hw ho a i).1.le
    have := pow_le6 hn
    omega
theorem dataL_lv {α : Type} (f : α → PyData) (F : Nat → List (Od × α)) (i : Nat) : T.dataL ((List.range i).map fun j => T.d (dctD f (F j))) = (List.range i).map fun j => dctD f (F j) := by
  rw [dataL_map, List.map_map]
  exact List.map_congr_left fun j _ => data_d _
theorem l_byswaps {n : Nat} {o : Od} {web : List Pr} {Q : T → Rho → Prop} {R : Str → Rho → Prop} (hn : n ≤ 6) (ho : isO n o) (hw : inRg n web) (hwz : web.length ≤ 100000)
    (h : ∀ i, bEnd upC web o 1 i → Q (dis (szs web o i)) [none, none]) : wp_by_swaps [some (L o), some (LP web)] Q R := by
  rw [wpe_by_swaps]
  exfalso
  refine wp_args (b := [some (L o), some (LP web)]) rfl (l_levels hn ho hw hwz fun i hi => ?_)
  have hib := bEnd_le hn ho hw hi
  exfalso
  all_goals rw [dataL_lv]
  · exact sdI (by rw [List.length_map, List.length_range]; omega)
  refine ⟨fun j acc ρ => ρ = [some (L o), some (LP web), none] ∧ acc = ((szs web o i).take j).map fun x => T.d (.int x), ⟨rfl, rfl⟩, fun j d acc ρ hq hI => ?_, fun acc ρ hI => ?_⟩
  · obtain ⟨rfl, rfl⟩ := hI
    rw [List.getElem?_map] at hq
    by_cases hj : j < i
    · rw [List.getElem?_range hj] at hq
      cases hq
      have hs : (szs web o i)[j]? = some ((bL upC web o 1 j).length : Int) := by
        unfold szs
        rw [List.getElem?_map, List.getElem?_range hj]
        rfl
      exfalso
      · exact sdI (noX_tup _ _ _)
      rw [take_snoc hs, List.map_append, List.length_map]
      rfl
    · rw [List.getElem?_eq_none (by rw [List.length_range]; omega)] at hq
      cases hq
  · obtain ⟨rfl, rfl⟩ := hI
    rw [List.length_map, List.length_range, List.take_of_length_le (by unfold szs; rw [List.length_map, List.length_range]; exact Nat.le_refl _)]
    exfalso
    exact h i hi
theorem tuD (x y : T) (xs : List T) (h : x = .ls xs) : mkTup [x, y] = .tu [x, y] := by
  subst h
  cases y <;> rfl
/-! ### levels and rows of swaps -/
def Rr (web : List Pr) (k : Nat) (a b : Od) : Prop := ∃ row : List Pr, (∀ p ∈ row, p ∈ web) ∧ row.length = k ∧ beh a row = b
section
variable {α : Type} {up : α → Pr → Option α → α} {web : List Pr}
theorem bStep_keys (met : List Od) (h : Od × α) (acc : List (Od × α)) (w : Pr) (q : Od) : q ∈ (bStep up met h acc w).map (·.1) ↔ q ∈ acc.map (·.1) ∨ (¬ q ∈ met ∧ swp h.1 w = q) := by
  unfold bStep
  by_cases m : swp h.1 w ∈ met
  · rw [if_pos m]
    constructor
    · exact .inl
    · rintro (z | ⟨z, rfl⟩)
      · exact z
      · exact absurd m z
  · rw [if_neg m, putA_keys]
    split
    · rename_i k
      constructor
      · exact .inl
      · rintro (z | ⟨z, rfl⟩)
        · exact z
        · exact k
    · rw [List.mem_append, List.mem_singleton]
      constructor
      · rintro (z | z)
        · exact .inl z
        · exact .inr ⟨by rw [z]; exact m, z.symm⟩
      · rintro (z | ⟨z, e⟩)
        · exact .inl z
        · exact .inr e.symm
theorem bRow_keys (met : List Od) (h : Od × α) (q : Od) : ∀ (web : List Pr) (acc : List (Od × α)), q ∈ (bRow up web met acc h).map (·.1) ↔ q ∈ acc.map (·.1) ∨ (¬ q ∈ met ∧ ∃ w ∈ web, swp h.1 w = q)
  | [], acc => by
    show q ∈ acc.map (·.1) ↔ _
    simp
  | w :: web, acc => by
    show q ∈ (bRow up web met (bStep up met h acc w) h).map (·.1) ↔ _
    rw [bRow_keys met h q web, bStep_keys]
    constructor
    · rintro ((z | ⟨z, e⟩) | ⟨z, v, hv, e⟩)
      · exact .inl z
      · exact .inr ⟨z, w, List.mem_cons_self, e⟩
      · exact .inr ⟨z, v, List.mem_cons_of_mem _ hv, e⟩
    · rintro (z | ⟨z, v, hv, e⟩)
      · exact .inl (.inl z)
      · rcases List.mem_cons.mp hv with rfl | hv
        · exact .inl (.inr ⟨z, e⟩)
        · exact .inr ⟨z, v, hv, e⟩
theorem bRows_keys (met : List Od) (q : Od) : ∀ (cur acc : List (Od × α)), q ∈ (cur.foldl (bRow up web met) acc).map (·.1) ↔ q ∈ acc.map (·.1) ∨ (¬ q ∈ met ∧ ∃ c ∈ cur, ∃ w ∈ web, swp c.1 w = q)
  | [], acc => by
    show q ∈ acc.map (·.1) ↔ _
    simp
  | c :: cur, acc => by
    rw [List.foldl_cons, bRows_keys met q cur, bRow_keys]
    constructor
    · rintro ((z | ⟨z, e⟩) | ⟨z, v, hv, e⟩)
      · exact .inl z
      · exact .inr ⟨z, c, List.mem_cons_self, e⟩
      · exact .inr ⟨z, v, List.mem_cons_of_mem _ hv, e⟩
    · rintro (z | ⟨z, v, hv, e⟩)
      · exact .inl (.inl z)
      · rcases List.mem_cons.mp hv with rfl | hv
        · exact .inl (.inr ⟨z, e⟩)
        · exact .inr ⟨z, v, hv, e⟩
theorem bNext_keys (met : List Od) (cur : List (Od × α)) (q : Od) : q ∈ (bNext up web met cur).map (·.1) ↔ ¬ q ∈ met ∧ ∃ c ∈ cur, ∃ w ∈ web, swp c.1 w = q := by
  rw [bNext, bRows_keys]
  simp
theorem Rr.zero {a b : Od} : Rr web 0 a b ↔ b = a := by
  constructor
  · rintro ⟨row, _, hl, e⟩
    rw [List.length_eq_zero_iff.mp hl] at e
    exact e.symm
  · rintro rfl
    exact ⟨[], fun p hp => (by cases hp), rfl, rfl⟩
theorem Rr.snoc {k : Nat} {a b : Od} {w : Pr} (h : Rr web k a b) (hw : w ∈ web) : Rr web (k + 1) a (swp b w) := by
  obtain ⟨row, r1, r2, r3⟩ := h
  refine ⟨row ++ [w], fun p hp => ?_, by rw [List.length_append, r2]; rfl, ?_⟩
  · rcases List.mem_append.mp hp with m | m
    · exact r1 p m
    · rw [List.mem_singleton.mp m]
      exact hw
  · rw [← beh_app, r3]
    rfl
theorem Rr.unsnoc {k : Nat} {a b : Od} (h : Rr web (k + 1) a b) : ∃ c w, w ∈ web ∧ Rr web k a c ∧ swp c w = b := by
  obtain ⟨row, r1, r2, r3⟩ := h
  rcases List.eq_nil_or_concat row with e | ⟨row0, w, e⟩
  · rw [e] at r2
    simp at r2
  · rw [List.concat_eq_append] at e
    subst e
    refine ⟨beh a row0, w, r1 w (List.mem_append_right _ (List.mem_singleton.mpr rfl)), ⟨row0, fun p hp => r1 p (List.mem_append_left _ hp), by simpa using r2, rfl⟩, ?_⟩
    rw [← beh_app] at r3
    exact r3
theorem bM_R (o : Od) (a : α) : ∀ i, (∀ q, q ∈ (bL up web o a i).map (·.1) ↔ Rr web i o q ∧ ∀ k, k < i → ¬ Rr web k o q) ∧ ∀ q, q ∈ bM up web o a i ↔ ∃ k, k ≤ i ∧ Rr web k o q
  | 0 => by
    refine ⟨fun q => ?_, fun q => ?_⟩
    · show q ∈ [o] ↔ _
      rw [List.mem_singleton, ← Rr.zero (web := web)]
      exact ⟨fun h => ⟨h, fun k hk => absurd hk (Nat.not_lt_zero _)⟩, fun h => h.1⟩
    · show q ∈ [o] ↔ _
      rw [List.mem_singleton, ← Rr.zero (web := web)]
      exact ⟨fun h => ⟨0, Nat.le_refl _, h⟩, fun ⟨k, hk, h⟩ => by
        have : k = 0 := by omega
        rwa [this] at h⟩
  | i + 1 => by
    obtain ⟨h1, h2⟩ := bM_R o a i
    have key : ∀ q, q ∈ (bL up web o a (i + 1)).map (·.1) ↔ Rr web (i + 1) o q ∧ ∀ k, k < i + 1 → ¬ Rr web k o q := fun q => by
      rw [bL_succ, bNext_keys, h2]
      constructor
      · rintro ⟨hn, c, hc, w, hw, rfl⟩
        have := (h1 c.1).mp (List.mem_map_of_mem hc)
        exact ⟨this.1.snoc hw, fun k hk z => hn ⟨k, by omega, z⟩⟩
      · rintro ⟨h, hn⟩
        obtain ⟨c, w, hw, hc, rfl⟩ := h.unsnoc
        refine ⟨fun ⟨k, hk, z⟩ => hn k (by omega) z, ?_⟩
        have hm : c ∈ (bL up web o a i).map (·.1) := (h1 c).mpr ⟨hc, fun k hk z => hn (k + 1) (by omega) (z.snoc hw)⟩
        obtain ⟨p, hp, e⟩ := List.mem_map.mp hm
        exact ⟨p, hp, w, hw, by rw [e]⟩
    refine ⟨key, fun q => ?_⟩
    rw [bM_succ, List.mem_append, h2, key]
    constructor
    · rintro (⟨k, hk, z⟩ | z)
      · exact ⟨k, by omega, z⟩
      · exact ⟨i + 1, Nat.le_refl _, z.1⟩
    · rintro ⟨k, hk, z⟩
      by_cases e : ∃ k, k ≤ i ∧ Rr web k o q
      · exact .inl e
      · have : k = i + 1 := by
          by_cases q : k ≤ i
          · exact absurd ⟨k, q, z⟩ e
          · omega
        subst this
        exact .inr ⟨z, fun k hk z => e ⟨k, by omega, z⟩⟩
/-- a row of the fewest swaps -/
def Dd (web : List Pr) (k : Nat) (a b : Od) : Prop := Rr web k a b ∧ ∀ j, j < k → ¬ Rr web j a b
theorem mem_level {o : Od} {a : α} {i : Nat} {q : Od} : q ∈ (bL up web o a i).map (·.1) ↔ Dd web i o q := (bM_R o a i).1 q
theorem Dd.uniq {j k : Nat} {a b : Od} (h : Dd web j a b) (h2 : Dd web k a b) : j = k := by
  rcases Nat.lt_trichotomy j k with z | z | z
  · exact absurd h.1 (h2.2 j z)
  · exact z
  · exact absurd h2.1 (h.2 k z)
theorem Dd.ex {k : Nat} {a b : Od} : Rr web k a b → ∃ j, j ≤ k ∧ Dd web j a b := by
  induction k using Nat.strongRecOn with
  | ind k ih =>
    intro h
    by_cases e : ∃ j, j < k ∧ Rr web j a b
    · obtain ⟨j, hj, z⟩ := e
      obtain ⟨i, hi, d⟩ := ih j hj z
      exact ⟨i, by omega, d⟩
    · exact ⟨k, Nat.le_refl _, h, fun j hj z => e ⟨j, hj, z⟩⟩
theorem Dd.pred {k : Nat} {a b : Od} (h : Dd web (k + 1) a b) : ∃ c w, w ∈ web ∧ Dd web k a c ∧ swp c w = b := by
  obtain ⟨c, w, hw, hc, e⟩ := h.1.unsnoc
  exact ⟨c, w, hw, ⟨hc, fun j hj z => h.2 (j + 1) (by omega) (by rw [← e]; exact z.snoc hw)⟩, e⟩
theorem Dd.lt_end {o : Od} {a : α} {I : Nat} (hE : bEnd up web o a I) : ∀ {k : Nat} {q : Od}, Dd web k o q → k < I := by
  intro k
  induction k with
  | zero =>
    intro q h
    cases I with
    | zero => exact absurd hE.1 (fun z => by cases z)
    | succ I => omega
  | succ k ih =>
    intro q h
    obtain ⟨c, w, hw, hc, e⟩ := h.pred
    have := ih hc
    by_cases z : k + 1 = I
    · subst z
      have hm := (mem_level (up := up) (a := a)).mpr h
      rw [hE.1] at hm
      cases hm
    · omega
/-! back again -/
theorem behRev {n : Nat} : ∀ {ps : List Pr} {l : List Int}, inRg n ps → l.length = n → beh (beh l ps) ps.reverse = l
  | [], l, _, _ => rfl
  | p :: ps, l, h, hl => by
    have hp := h p List.mem_cons_self
    have e : beh l (p :: ps) = beh (swp l p) ps := rfl
    rw [e, List.reverse_cons, ← beh_app, behRev (n := n) (l := swp l p) (fun q hq => h q (List.mem_cons_of_mem _ hq)) (by rw [swp_len]; exact hl)]
    exact swp_swp (by omega) (by omega)
theorem Rr.back {n k : Nat} {a b : Od} (hw : inRg n web) (ha : a.length = n) (h : Rr web k a b) : Rr web k b a := by
  obtain ⟨row, r1, r2, r3⟩ := h
  refine ⟨row.reverse, fun p hp => r1 p (List.mem_reverse.mp hp), by rw [List.length_reverse, r2], ?_⟩
  rw [← r3]
  exact behRev (fun p hp => hw p (r1 p hp)) ha
theorem Rr.len {k : Nat} {a b : Od} (h : Rr web k a b) : b.length = a.length := by
  obtain ⟨row, r1, r2, r3⟩ := h
  rw [← r3, beh_len]
theorem Dd.back {n k : Nat} {a b : Od} (hw : inRg n web) (ha : a.length = n) (h : Dd web k a b) : Dd web k b a :=
  ⟨h.1.back hw ha, fun j hj z => h.2 j hj (z.back hw (by rw [h.1.len, ha]))⟩
end
theorem getA_in {α : Type} {xs : List (Od × α)} {k : Od} {a : α} (h : getA xs k = some a) : (k, a) ∈ xs := by
  unfold getA at h
  obtain ⟨p, hp, e⟩ := Option.map_eq_some_iff.mp h
  have h1 := List.mem_of_find?_eq_some hp
  have h2 := List.find?_some hp
  have : p.1 = k := of_decide_eq_true h2
  rw [← this, ← e]
  exact h1
/-! ### rows as lists are ordered -/
def ltP (x y : Pr) : Prop := x.1 < y.1 ∨ x.1 = y.1 ∧ x.2 < y.2
theorem ltP_irr (x : Pr) : ¬ ltP x x := fun h => by
  unfold ltP at h
  omega
theorem ltP_trans {x y z : Pr} (h : ltP x y) (k : ltP y z) : ltP x z := by
  unfold ltP at h k ⊢
  omega
theorem ltP_tri (x y : Pr) : ltP x y ∨ x = y ∨ ltP y x := by
  unfold ltP
  by_cases h : x.1 = y.1
  · by_cases k : x.2 = y.2
    · exact .inr (.inl (Prod.ext h k))
    · omega
  · omega
def lexP : List Pr → List Pr → Prop
  | [], [] => False
  | [], _ :: _ => True
  | _ :: _, [] => False
  | x :: xs, y :: ys => ltP x y ∨ x = y ∧ lexP xs ys
theorem lexP_irr : ∀ a, ¬ lexP a a
  | [], h => h
  | x :: a, h => by
    rcases h with h | ⟨_, h⟩
    · exact ltP_irr x h
    · exact lexP_irr a h
theorem lexP_trans : ∀ {a b c : List Pr}, lexP a b → lexP b c → lexP a c
  | [], [], _, h, _ => h.elim
  | [], _ :: _, [], _, k => k.elim
  | [], _ :: _, _ :: _, _, _ => trivial
  | _ :: _, [], _, h, _ => h.elim
  | _ :: _, _ :: _, [], _, k => k.elim
  | x :: a, y :: b, z :: c, h, k => by
    rcases h with h | ⟨rfl, h⟩
    · rcases k with k | ⟨rfl, k⟩
      · exact .inl (ltP_trans h k)
      · exact .inl h
    · rcases k with k | ⟨rfl, k⟩
      · exact .inl k
      · exact .inr ⟨rfl, lexP_trans h k⟩
theorem lexP_tri : ∀ a b : List Pr, lexP a b ∨ a = b ∨ lexP b a
  | [], [] => .inr (.inl rfl)
  | [], _ :: _ => .inl trivial
  | _ :: _, [] => .inr (.inr trivial)
  | x :: a, y :: b => by
    rcases ltP_tri x y with h | rfl | h
    · exact .inl (.inl h)
    · rcases lexP_tri a b with h | rfl | h
      · exact .inl (.inr ⟨rfl, h⟩)
      · exact .inr (.inl rfl)
      · exact .inr (.inr (.inr ⟨rfl, h⟩))
    · exact .inr (.inr (.inl h))
theorem le_tr {a b c : List Pr} (h : ¬ lexP b a) (k : ¬ lexP c b) : ¬ lexP c a := fun z => by
  rcases lexP_tri b c with m | rfl | m
  · exact h (lexP_trans m z)
  · exact h z
  · exact k m
theorem le_anti {a b : List Pr} (h : ¬ lexP b a) (k : ¬ lexP a b) : a = b := by
  rcases lexP_tri a b with m | m | m
  · exact absurd m k
  · exact m
  · exact absurd m h
theorem lexP_snoc {w : Pr} : ∀ {a b : List Pr}, a.length = b.length → lexP (a ++ [w]) (b ++ [w]) → lexP a b
  | [], [], _, h => by
    rcases h with h | ⟨_, h⟩
    · exact (ltP_irr w h).elim
    · exact h.elim
  | [], _ :: _, h, _ => by simp at h
  | _ :: _, [], h, _ => by simp at h
  | x :: a, y :: b, hl, h => by
    rcases h with h | ⟨e, h⟩
    · exact .inl h
    · exact .inr ⟨e, lexP_snoc (by simpa using hl) h⟩
def Rw (web : List Pr) (k : Nat) (a b : Od) (r : List Pr) : Prop := (∀ p ∈ r, p ∈ web) ∧ r.length = k ∧ beh a r = b
theorem Rw.snoc {web : List Pr} {k : Nat} {a b : Od} {r : List Pr} {w : Pr} (h : Rw web k a b r) (hw : w ∈ web) : Rw web (k + 1) a (swp b w) (r ++ [w]) := by
  obtain ⟨r1, r2, r3⟩ := h
  refine ⟨fun p hp => ?_, by rw [List.length_append, r2]; rfl, ?_⟩
  · rcases List.mem_append.mp hp with m | m
    · exact r1 p m
    · rw [List.mem_singleton.mp m]
      exact hw
  · rw [← beh_app, r3]
    rfl
theorem nd_mem {α : Type} {xs : List (Od × α)} (h : (xs.map (·.1)).Nodup) {p q : Od × α} (hp : p ∈ xs) (hq : q ∈ xs) (e : p.1 = q.1) : p = q := by
  induction xs with
  | nil => cases hp
  | cons x xs ih =>
    rw [List.map_cons, List.nodup_cons] at h
    rcases List.mem_cons.mp hp with e1 | e1
    · rcases List.mem_cons.mp hq with e2 | e2
      · rw [e1, e2]
      · exact absurd (by rw [← e1, e]; exact List.mem_map_of_mem e2) h.1
    · rcases List.mem_cons.mp hq with e2 | e2
      · exact absurd (by rw [← e2, ← e]; exact List.mem_map_of_mem e1) h.1
      · exact ih h.2 e1 e2
theorem bL_ok {α : Type} {n : Nat} {up : α → Pr → Option α → α} {web : List Pr} {o : Od} {a : α} (ho : isO n o) (hw : inRg n web) : ∀ i, OkL n ((bL up web o a i).map (·.1))
  | 0 => ⟨nd1 _, fun u hu => by
    have : u = o := List.mem_singleton.mp hu
    rw [this]
    exact ho⟩
  | i + 1 => by
    have k := (bSt_ok (up := up) hw ho a i).2.1
    have z : OkN n (bM up web o a i) (bNext up web (bM up web o a i) (bL up web o a i)) := OkN.rows hw (OkN.nil n _) fun c hc => (k c hc).1
    exact z.ok
abbrev LDz (xs : List Int) : PyData := .list (xs.map PyData.int)
theorem enumD_len (ds : List PyData) : (enumD ds).length = ds.length := by
  unfold enumD
  rw [List.length_mapIdx]
/-! ### the program's fewest -/
def awF (lv : Nat → List Od) : Nat → List (Od × Nat)
  | 0 => []
  | j + 1 => awF lv j ++ (lv j).map fun q => (q, j)
theorem awF_mem {lv : Nat → List Od} {q : Od} {d : Nat} : ∀ I, (q, d) ∈ awF lv I ↔ d < I ∧ q ∈ lv d
  | 0 => ⟨fun h => (by cases h), fun h => absurd h.1 (Nat.not_lt_zero _)⟩
  | I + 1 => by
    rw [awF, List.mem_append, awF_mem I, List.mem_map]
    constructor
    · rintro (⟨h1, h2⟩ | ⟨u, hu, e⟩)
      · exact ⟨by omega, h2⟩
      · obtain ⟨rfl, rfl⟩ := Prod.mk.inj e
        exact ⟨by omega, hu⟩
    · rintro ⟨h1, h2⟩
      by_cases e : d = I
      · subst e
        exact .inr ⟨q, h2, rfl⟩
      · exact .inl ⟨by omega, h2⟩
theorem awF_keys {lv : Nat → List Od} {q : Od} {I : Nat} : q ∈ (awF lv I).map (·.1) ↔ ∃ d, d < I ∧ q ∈ lv d := by
  rw [List.mem_map]
  constructor
  · rintro ⟨⟨u, d⟩, h, rfl⟩
    exact ⟨d, (awF_mem I).mp h⟩
  · rintro ⟨d, h⟩
    exact ⟨(q, d), (awF_mem I).mpr h, rfl⟩
abbrev lvO (web : List Pr) (o : Od) (j : Nat) : List Od := (bL upC web o 1 j).map (·.1)
theorem lv_mem {web : List Pr} {o q : Od} {j : Nat} : q ∈ lvO web o j ↔ Dd web j o q := mem_level
theorem awT_ok {n : Nat} {web : List Pr} {o : Od} (ho : isO n o) (hw : inRg n web) (j : Nat) (ks : List Od) (h : OkL n ((awF (lvO web o) j).map (·.1))) (hk : OkL n ks) (hd : ∀ q ∈ ks, Dd web j o q) : OkL n ((awF (lvO web o) j ++ ks.map fun q => (q, j)).map (·.1)) := by
  have e : (ks.map fun q => (q, j)).map (·.1) = ks := by
    rw [List.map_map]
    exact (List.map_congr_left fun _ _ => rfl).trans (List.map_id ks)
  rw [List.map_append, e]
  refine ⟨?_, fun q hq => ?_⟩
  · rw [List.nodup_append]
    refine ⟨h.nd, hk.nd, fun a ha b hb z => ?_⟩
    obtain ⟨d, h1, h2⟩ := awF_keys.mp ha
    have := (lv_mem.mp h2).uniq (by rw [z]; exact hd b hb)
    omega
  · rcases List.mem_append.mp hq with m | m
    · exact h.rg q m
    · exact hk.rg q m
theorem awx_ok {n : Nat} {web : List Pr} {o : Od} (ho : isO n o) (hw : inRg n web) : ∀ j, OkL n ((awF (lvO web o) j).map (·.1))
  | 0 => ⟨List.nodup_nil, fun q hq => by cases hq⟩
  | j + 1 => awT_ok ho hw j _ (awx_ok ho hw j) (bL_ok ho hw j) fun q hq => lv_mem.mp hq
theorem getA_of {α : Type} {xs : List (Od × α)} (h : (xs.map (·.1)).Nodup) {q : Od} {a : α} (m : (q, a) ∈ xs) : getA xs q = some a := by
  have h1 := getA_some xs q
  rw [decide_eq_true (List.mem_map_of_mem (f := (·.1)) m)] at h1
  obtain ⟨b, hb⟩ := Option.isSome_iff_exists.mp h1
  have := nd_mem h (getA_in hb) m rfl
  rw [hb, (Prod.mk.inj this).2]
theorem aw_get {n : Nat} {web : List Pr} {o q : Od} {I d : Nat} (ho : isO n o) (hw : inRg n web) (hE : bEnd upC web o 1 I) (h : Dd web d o q) : getA (awF (lvO web o) I) q = some d :=
  getA_of (awx_ok ho hw I).nd ((awF_mem I).mpr ⟨Dd.lt_end hE h, lv_mem.mpr h⟩)
theorem lexP_snoc2 {v w : Pr} : ∀ {a b : List Pr}, a.length = b.length → lexP (a ++ [v]) (b ++ [w]) → lexP a b ∨ a = b ∧ ltP v w
  | [], [], _, h => by
    rcases h with h | ⟨_, h⟩
    · exact .inr ⟨rfl, h⟩
    · exact h.elim
  | [], _ :: _, h, _ => by simp at h
  | _ :: _, [], h, _ => by simp at h
  | x :: a, y :: b, hl, h => by
    rcases h with h | ⟨e, h⟩
    · exact .inl (.inl h)
    · rcases lexP_snoc2 (by simpa using hl) h with h | ⟨e2, h⟩
      · exact .inl (.inr ⟨e, h⟩)
      · exact .inr ⟨by rw [e, e2], h⟩
/-- how far a greedy walk has come -/
structure Gd (web : List Pr) (one other : Od) (d0 : Nat) (r : List Pr) (h : Od) (d : Nat) : Prop where
  sub : ∀ p ∈ r, p ∈ web
  at_ : beh one r = h
  far : Dd web d other h
  len : r.length + d = d0
  least : ∀ s, Rw web d0 one other s → ¬ lexP (s.take r.length) r
theorem Gd.step {n : Nat} {web : List Pr} {one other : Od} {d0 d : Nat} {r : List Pr} {h : Od} (g : Gd web one other d0 r h d) (hw : inRg n web) (ho : isO n one) (hq : isO n other) (hs : web.Pairwise fun x y => ¬ ltP y x) {i : Nat} {w : Pr} (hi : web[i]? = some w) {d' : Nat} (hd : Dd web d' other (swp h w)) (hlt : d' < d)
    (hno : ∀ v ∈ web.take i, ∀ e, Dd web e other (swp h v) → ¬ e < d) : Gd web one other d0 (r ++ [w]) (swp h w) d' := by
  have hwm := List.mem_of_getElem? hi
  have hwr := hw w hwm
  have hl : h.length = n := by rw [← g.at_, beh_len, ho.1]
  have e1 : d' + 1 = d := by
    have z := hd.1.snoc hwm
    rw [swp_swp (by omega) (by omega)] at z
    have : ¬ d' + 1 < d := fun q => g.far.2 _ q z
    omega
  refine ⟨fun p hp => ?_, ?_, hd, ?_, fun s hsr => ?_⟩
  · rcases List.mem_append.mp hp with m | m
    · exact g.sub p m
    · rw [List.mem_singleton.mp m]
      exact hwm
  · rw [← beh_app, g.at_]
    rfl
  · have := g.len
    rw [List.length_append, List.length_singleton]
    omega
  · have gl := g.len
    have sl := hsr.2.1
    have hlt2 : r.length < s.length := by omega
    have ev : s[r.length]? = some s[r.length] := List.getElem?_eq_getElem hlt2
    obtain ⟨v, hv⟩ : ∃ v, s[r.length] = v := ⟨_, rfl⟩
    rw [hv] at ev
    rw [List.length_append, List.length_singleton, take_snoc ev]
    intro z
    rcases lexP_snoc2 (by rw [List.length_take]; omega) z with z | ⟨z, lt⟩
    · exact g.least s hsr z
    · have es : s = r ++ v :: s.drop (r.length + 1) := by
        have := (List.take_append_drop r.length s).symm
        rw [z, List.drop_eq_getElem_cons hlt2, hv] at this
        exact this
      have hvm : v ∈ web := hsr.1 v (List.mem_of_getElem? ev)
      have hv2 := hw v hvm
      have hb : Rr web (d - 1) (swp h v) other := by
        refine ⟨s.drop (r.length + 1), fun p hp => hsr.1 p (List.mem_of_mem_drop hp), by rw [List.length_drop]; omega, ?_⟩
        have := hsr.2.2
        rw [es, ← beh_app, g.at_] at this
        exact this
      have hb2 := hb.back hw (by rw [swp_len, hl])
      obtain ⟨e, he, hde⟩ := Dd.ex hb2
      have nv : ¬ v ∈ web.take i := fun m => hno v m e hde (by omega)
      obtain ⟨j, hj, ej⟩ := List.getElem_of_mem hvm
      have hi' := (List.getElem?_eq_some_iff.mp hi)
      obtain ⟨hil, eil⟩ := hi'
      have hji : ¬ j < i := fun q => nv (List.mem_take_iff_getElem.mpr ⟨j, by omega, ej⟩)
      by_cases q : j = i
      · subst q
        rw [ej] at eil
        rw [eil] at lt
        exact ltP_irr _ lt
      · have := List.pairwise_iff_getElem.mp hs i j hil hj (by omega)
        rw [ej, eil] at this
        exact this lt
theorem Gd.fin {web : List Pr} {one other : Od} {d0 : Nat} {r : List Pr} {h : Od} (g : Gd web one other d0 r h 0) : Rw web d0 one other r ∧ ∀ s, Rw web d0 one other s → ¬ lexP s r := by
  have e : h = other := Rr.zero.mp g.far.1
  have gl := g.len
  refine ⟨⟨g.sub, by omega, by rw [g.at_, e]⟩, fun s hs => ?_⟩
  have := g.least s hs
  rwa [List.take_of_length_le (by rw [hs.2.1]; omega)] at this
theorem Gd.more {n : Nat} {web : List Pr} {one other : Od} {d0 d : Nat} {r : List Pr} {h : Od} (g : Gd web one other d0 r h (d + 1)) (hw : inRg n web) (ho : isO n one) : ∃ w ∈ web, ∃ e, Dd web e other (swp h w) ∧ e < d + 1 := by
  obtain ⟨c, w, hwm, hc, e⟩ := g.far.pred
  have hl : h.length = n := by rw [← g.at_, beh_len, ho.1]
  have hwr := hw w hwm
  have hcl : c.length = n := by rw [← hl, ← e, swp_len]
  refine ⟨w, hwm, d, ?_, by omega⟩
  rw [← e, swp_swp (by omega) (by omega)]
  exact hc
theorem bEnd_ex {α : Type} {n : Nat} {up : α → Pr → Option α → α} {web : List Pr} {o : Od} {a : α} (hn : n ≤ 6) (ho : isO n o) (hw : inRg n web) : ∃ I, bEnd up web o a I := by
  have key : ∀ I, (∃ J, J < I ∧ bEnd up web o a J) ∨ ∀ j, j < I → bL up web o a j ≠ [] := fun I => by
    induction I with
    | zero => exact .inr fun j hj => absurd hj (Nat.not_lt_zero _)
    | succ I ih =>
      rcases ih with ⟨J, hJ, z⟩ | z
      · exact .inl ⟨J, by omega, z⟩
      · by_cases e : bL up web o a I = []
        · exact .inl ⟨I, by omega, e, z⟩
        · refine .inr fun j hj => ?_
          by_cases q : j = I
          · rw [q]
            exact e
          · exact z j (by omega)
  rcases key 46658 with ⟨J, _, z⟩ | z
  · exact ⟨J, z⟩
  · refine False.elim ?_
    have y := bM_len (up := up) (web := web) (o := o) (a := a) (i := 46657) fun j hj => z j (by omega)
    have := (bSt_ok (up := up) hw ho a 46657).1.le
    have := pow_le6 hn
    omega
abbrev tupD (o : Od) : PyData := .tuple (o.map PyData.int)
def lsL (ρ : Rho) (j : Nat) : Nat := match ρ[j]? with
  | some (some (.ls xs)) => xs.length
  | _ => 0
theorem s_dtOfT (xs : List (List Key × PyData)) : dtOf (.dt xs) = some xs := rfl
theorem l_fewest {n d0 : Nat} {one other : Od} {web : List Pr} {Q : T → Rho → Prop} {R : Str → Rho → Prop} (hn : n ≤ 6) (ho : isO n one) (hq : isO n other) (hw : inRg n web) (hwz : web.length ≤ 1000) (hs : web.Pairwise fun x y => ¬ ltP y x) (hd : Dd web d0 other one)
    (h : ∀ r, Rw web d0 one other r → (∀ s, Rw web d0 one other s → ¬ lexP s r) → Q (dps r) [none, none, none]) : wp_fewest [some (L one), some (L other), some (LP web)] Q R := by
  rw [wpe_fewest]
  unfold wpOf rd_fewest
  have pw := pow_le6 hn
  with_reducible refine s_seqO (fun ρ => ∃ I, ρ = [some (L one), some (L other), some (LP web), some (.d (.list ((List.range I).map fun j => dctD cD (bL upC web other 1 j)))), none, none, none, none, none, none, none, none] ∧ bEnd upC web other 1 I) (fun ρ hI => ?_) fun K _ _ _ hK => ?_
  rotate_left 1
  · exfalso
    refine wp_args (b := [some (L other), some (LP web)]) (by simp only [data_d]) (l_levels hn hq hw (by omega) fun I hE => ?_)
    exfalso
    refine hK _ ⟨I, ?_, hE⟩
    rw [data_m]
    rfl
  obtain ⟨I, rfl, hE⟩ := hI
  have hib := bEnd_le hn hq hw hE
  with_reducible refine s_seqO (fun ρ => ρ = [some (L one), some (L other), some (LP web), some (.d (.list ((List.range I).map fun j => dctD cD (bL upC web other 1 j)))), some (.dt (enc cD [])), none, none, none, none, none, none, none]) (fun ρ hI => ?_) fun K _ _ _ hK => ?_
  rotate_left 1
  · exfalso
    exact hK _ rfl
  subst hI
  with_reducible refine s_seqO (fun ρ => ∃ (o5 o6 o7 : Option T), ρ = [some (L one), some (L other), some (LP web), some (.d (.list ((List.range I).map fun j => dctD cD (bL upC web other 1 j)))), some (.dt (enc cD (awF (lvO web other) I))), o5, o6, o7, none, none, none, none]) (fun ρ hI => ?_) fun K _ _ _ hK => ?_
  rotate_left 1
  · exfalso
    refine ⟨fun j ρ => ∃ (o5 o6 o7 : Option T), ρ = [some (L one), some (L other), some (LP web), some (.d (.list ((List.range I).map fun j => dctD cD (bL upC web other 1 j)))), some (.dt (enc cD (awF (lvO web other) j))), o5, o6, o7, none, none, none, none], ⟨none, none, none, rfl⟩, fun j d ρ hq' hI => ?_, fun ρ hI => ?_⟩
    · obtain ⟨o5, o6, o7, rfl⟩ := hI
      unfold enumD at hq'
      rw [List.getElem?_mapIdx, List.getElem?_map] at hq'
      by_cases hj : j < I
      · rw [List.getElem?_range hj] at hq'
        cases hq'
        have hne := hE.2 j hj
        have hok := bL_ok (up := upC) (a := 1) hq hw j
        have hdd : ∀ u ∈ (bL upC web other 1 j).map (·.1), Dd web j other u := fun u hu => mem_level.mp hu
        have haw := awx_ok hq hw j
        have eaw : awF (lvO web other) (j + 1) = awF (lvO web other) j ++ ((bL upC web other 1 j).map (·.1)).map fun q => (q, j) := rfl
        obtain ⟨xs, hxs⟩ : ∃ xs, bL upC web other 1 j = xs := ⟨_, rfl⟩
        rw [hxs] at hne hok hdd eaw
        obtain ⟨A, hA⟩ : ∃ A, awF (lvO web other) j = A := ⟨_, rfl⟩
        have haw2 := fun ks h1 h2 => awT_ok hq hw j ks haw h1 h2
        rw [hA] at haw haw2 eaw
        exfalso
        rw [hxs, entT_enc]
        exfalso
        rw [keys_enc]
        refine ⟨fun l ρ => ∃ o7, ρ = [some (L one), some (L other), some (LP web), some (.d (.list ((List.range I).map fun j => dctD cD (bL upC web other 1 j)))), some (.dt (enc cD (A ++ ((xs.map (·.1)).take l).map fun q => (q, j)))), some (di (j : Nat)), some (.d (dctD cD xs)), o7, none, none, none, none], ⟨o7, by rw [hA]; simp only [data_d, List.take_zero, List.map_nil, List.append_nil, Bool.false_eq_true, if_false, if_true]; rw [hxs]; rfl⟩, fun l d ρ hq hI => ?_, fun ρ hI => ?_⟩
        · obtain ⟨o7, rfl⟩ := hI
          rw [List.getElem?_map] at hq
          cases hx : xs[l]? with
          | none => simp [hx] at hq
          | some c =>
          rw [hx] at hq
          cases hq
          have hnx : (xs.map (·.1))[l]? = some c.1 := by
            rw [List.getElem?_map, hx]
            rfl
          have hk1 : OkL n ((xs.map (·.1)).take (l + 1)) := ⟨hok.nd.sublist (List.take_sublist _ _), fun u hu => hok.rg u (List.mem_of_mem_take hu)⟩
          have z := haw2 _ hk1 fun u hu => hdd u (List.mem_of_mem_take hu)
          rw [take_snoc hnx, show (A ++ ((xs.map (·.1)).take l ++ [c.1]).map fun q => (q, j)) = (A ++ ((xs.map (·.1)).take l).map fun q => (q, j)) ++ [(c.1, j)] from by rw [List.map_append, ← List.append_assoc]; rfl] at z
          obtain ⟨B, hB⟩ : ∃ B, (A ++ ((xs.map (·.1)).take l).map fun q => (q, j)) = B := ⟨_, rfl⟩
          rw [hB] at z ⊢
          have zl := z.le
          rw [List.length_map, List.length_append] at zl
          have znd := z.nd
          rw [List.map_append, List.nodup_append] at znd
          have hnb : ¬ c.1 ∈ B.map (·.1) := fun m => znd.2.2 _ m c.1 (List.mem_singleton.mpr rfl) rfl
          refine s_gNt ?_
          exfalso
          rw [keysOf_int]
          exfalso
          · exact sdI (by rw [enc_len]; omega)
          refine ⟨some (.d (.tuple (c.1.map PyData.int))), ?_⟩
          simp only [data_d]
          rw [show PyData.int ((j : Nat) : Int) = cD j from rfl, putDT_enc, take_snoc hnx, List.map_append, ← List.append_assoc, hB]
          have ep : putA B c.1 j = B ++ [(c.1, j)] := by
            unfold putA
            rw [if_neg]
            intro q
            obtain ⟨p, hp, e⟩ := List.any_eq_true.mp q
            exact hnb (by rw [← of_decide_eq_true e]; exact List.mem_map_of_mem hp)
          rw [ep]
          rfl
        · obtain ⟨o7, rfl⟩ := hI
          rw [List.length_map, List.take_of_length_le (by rw [List.length_map]; exact Nat.le_refl _)]
          exact ⟨_, _, _, by rw [eaw]⟩
      · rw [List.getElem?_eq_none (by rw [List.length_range]; omega)] at hq'
        cases hq'
    · obtain ⟨o5, o6, o7, rfl⟩ := hI
      unfold enumD
      rw [List.length_mapIdx, List.length_map, List.length_range]
      exact hK _ ⟨_, _, _, rfl⟩
  obtain ⟨o5, o6, o7, rfl⟩ := hI
  have hget : ∀ {q : Od} {d : Nat}, Dd web d other q → getA (awF (lvO web other) I) q = some d := fun hd => aw_get hq hw hE hd
  have hAl := (awx_ok hq hw I).le
  obtain ⟨A, hA⟩ : ∃ A, awF (lvO web other) I = A := ⟨_, rfl⟩
  rw [hA] at hget hAl ⊢
  with_reducible refine s_seqO (fun ρ => ∃ o3, ρ = [some (L one), some (L other), some (LP web), o3, some (.dt (enc cD A)), o5, o6, o7, some (.d (tupD one)), none, none, none]) (fun ρ hI => ?_) fun K _ _ _ hK => ?_
  rotate_left 1
  · exfalso
    exact hK _ ⟨_, rfl⟩
  obtain ⟨o3, rfl⟩ := hI
  with_reducible refine s_seqO (fun ρ => ρ = [some (L one), some (L other), some (LP web), o3, some (.dt (enc cD A)), o5, o6, o7, some (.d (tupD one)), none, none, none]) (fun ρ hI => ?_) fun K _ _ _ hK => ?_
  rotate_left 1
  · exfalso
    rw [keysOf_int]
    exfalso
    rw [getT_enc, hget hd]
    exfalso
    exact hK _ rfl
  subst hI
  with_reducible refine s_seqO (fun ρ => ρ = [some (L one), some (L other), some (LP web), o3, some (.dt (enc cD A)), o5, o6, o7, some (.d (tupD one)), some (dps []), none, none]) (fun ρ hI => ?_) fun K _ _ _ hK => ?_
  rotate_left 1
  · exfalso
    exact hK _ rfl
  subst hI
  with_reducible refine s_seqO (fun ρ => ∃ (r : List Pr) (o8 o10 o11 : Option T), ρ = [some (L one), some (L other), some (LP web), o3, some (.dt (enc cD A)), o5, o6, o7, o8, some (dps r), o10, o11] ∧ Gd web one other d0 r other 0) (fun ρ hI => ?_) fun K _ _ _ hK => ?_
  rotate_left 1
  · refine s_whileO (fun ρ => ∃ (r : List Pr) (hh : Od) (d : Nat) (o10 o11 : Option T), ρ = [some (L one), some (L other), some (LP web), o3, some (.dt (enc cD A)), o5, o6, o7, some (.d (tupD hh)), some (dps r), o10, o11] ∧ Gd web one other d0 r hh d) (fun ρ => d0 - lsL ρ 9) ⟨[], one, d0, none, none, rfl, ⟨fun p hp => (by cases hp), rfl, hd, by simp, fun s hs z => lexP_irr _ z⟩⟩ fun ρ hI K2 _ _ hK2 => ?_
    obtain ⟨r, hh, d, o10, o11, rfl, g⟩ := hI
    exfalso
    rw [keysOf_int]
    exfalso
    rw [getT_enc, hget g.far]
    exfalso
    have hd0 : d0 ≤ 46656 := by
      have := Dd.lt_end hE hd
      omega
    have hhl : hh.length = n := by rw [← g.at_, beh_len, ho.1]
    have gl := g.len
    refine w_dec (fun q => ?_) (fun q => ?_)
    rotate_left 1
    · have hz : d = 0 := by
        by_cases z : d = 0
        · exact z
        · exact absurd (by simp; omega) q
      subst hz
      have e : hh = other := Rr.zero.mp g.far.1
      rw [e] at g
      exact hK _ ⟨r, _, _, _, rfl, g⟩
    have hz : 0 < d := by simpa using q
    with_reducible refine s_seqO (fun ρ => ∃ (i : Nat) (w : Pr) (d' : Nat), ρ = [some (L one), some (L other), some (LP web), o3, some (.dt (enc cD A)), o5, o6, o7, some (.d (tupD hh)), some (dps r), some (.d (pairD w)), some (.d (tupD (swp hh w)))] ∧ web[i]? = some w ∧ Dd web d' other (swp hh w) ∧ d' < d ∧ ∀ v ∈ web.take i, ∀ e, Dd web e other (swp hh v) → ¬ e < d) (fun ρ hI => ?_) fun K _ _ _ hK => ?_
    rotate_left 1
    · exfalso
      refine ⟨fun i ρ => ∃ (o10 o11 : Option T), ρ = [some (L one), some (L other), some (LP web), o3, some (.dt (enc cD A)), o5, o6, o7, some (.d (tupD hh)), some (dps r), o10, o11] ∧ ∀ v ∈ web.take i, ∀ e, Dd web e other (swp hh v) → ¬ e < d, ⟨o10, o11, rfl, fun v hv => by simp at hv⟩, fun i dd ρ hq hI => ?_, fun ρ hI => ?_⟩
      · obtain ⟨o10, o11, rfl, hno⟩ := hI
        rw [List.getElem?_map] at hq
        cases hy : web[i]? with
        | none => simp [hy] at hq
        | some w =>
        rw [hy] at hq
        cases hq
        have hwm := List.mem_of_getElem? hy
        have hwr := hw w hwm
        obtain ⟨e, _, hde⟩ := Dd.ex (g.far.1.snoc hwm)
        refine s_gNt ?_
        with_reducible refine s_seqO (fun ρ => ρ = [some (L one), some (L other), some (LP web), o3, some (.dt (enc cD A)), o5, o6, o7, some (.d (tupD hh)), some (dps r), some (.d (pairD w)), some (.d (tupD (swp hh w)))]) (fun ρ hI => ?_) fun K _ _ _ hK => ?_
        rotate_left 1
        · exfalso
          refine l_swapped (by omega) (by omega) ?_
          exfalso
          · exact sdI (pureTup _)
          exact hK _ rfl
        subst hI
        exfalso
        rw [keysOf_int]
        exfalso
        rw [getT_enc, hget hde]
        exfalso
        rw [keysOf_int]
        exfalso
        rw [getT_enc, hget g.far]
        exfalso
        refine w_dec (fun q => ?_) (fun q => ?_)
        · have hlt : e < d := by simpa using q
          exact hK _ ⟨i, w, e, rfl, hy, hde, hlt, hno⟩
        · have hge : ¬ e < d := by simpa using q
          refine ⟨_, _, rfl, fun v hv e' he' => ?_⟩
          rw [take_snoc hy] at hv
          rcases List.mem_append.mp hv with m | m
          · exact hno v m e' he'
          · rw [List.mem_singleton.mp m] at he'
            rw [he'.uniq hde]
            exact hge
      · obtain ⟨o10, o11, rfl, hno⟩ := hI
        exfalso
        rw [List.length_map, List.take_length] at hno
        obtain ⟨d1, rfl⟩ : ∃ d1, d = d1 + 1 := ⟨d - 1, by omega⟩
        obtain ⟨w, hwm, e, h1, h2⟩ := g.more hw ho
        exact absurd h2 (hno w hwm e h1)
    obtain ⟨i, w, d', rfl, hy, hde, hlt, hno⟩ := hI
    have g2 := g.step hw ho hq hs hy hde hlt hno
    exfalso
    · exact sdI (by rw [List.length_map]; omega)
    refine hK2 _ ⟨r ++ [w], swp hh w, d', some (.d (pairD w)), some (.d (tupD (swp hh w))), ?_, g2⟩ ?_
    · simp only [data_d]
      rw [show dps (r ++ [w]) = .ls ((r.map fun p => T.d (pairD p)) ++ [T.d (pairD w)]) from by unfold dps; rw [List.map_append]; rfl]
      rfl
    · show d0 - ((r.map fun p => T.d (pairD p)) ++ [T.d (T.d (pairD w)).data]).length < d0 - (r.map fun p => T.d (pairD p)).length
      rw [List.length_append, List.length_map, List.length_singleton]
      omega
  obtain ⟨r, o8, o10, o11, rfl, g⟩ := hI
  exfalso
  exact h r g.fin.1 g.fin.2
/-- how many rows of the fewest: told by the level that holds it -/
def cnt (web : List Pr) (o q : Od) (j : Nat) : Nat := (getA (bL upC web o 1 j) q).getD 0
def sumC (web : List Pr) (o q : Od) (i : Nat) : Int := ((List.range i).map fun j => ((cnt web o q j : Nat) : Int)).sum
theorem sumC_succ (web : List Pr) (o q : Od) (i : Nat) : sumC web o q (i + 1) = sumC web o q i + (cnt web o q i : Nat) := by
  unfold sumC
  rw [List.range_succ, List.map_append, List.sum_append]
  simp
theorem dtOf_enc {α : Type} (f : α → PyData) {xs : List (Od × α)} (h : xs ≠ []) : dtOf (.d (dctD f xs)) = some (enc f xs) := by
  cases xs with
  | nil => exact absurd rfl h
  | cons x xs => exact entT_enc f (x :: xs)
theorem s_atDt {ρ : Rho} {j : Nat} {t : T} {xs : List (List Key × PyData)} {k : List (List Key × PyData) → Prop} (h : ρ[j]? = some (some t)) (h2 : dtOf t = some xs) (q : k xs) : atDt ρ j k := by
  unfold atDt
  rw [h]
  show (match dtOf t with
    | some xs => k xs
    | none => False)
  rw [h2]
  exact q
theorem l_many {n : Nat} {o q : Od} {web : List Pr} {Q : T → Rho → Prop} {R : Str → Rho → Prop} (hn : n ≤ 6) (ho : isO n o) (hw : inRg n web) (hwz : web.length ≤ 100000)
    (h : ∀ i, bEnd upC web o 1 i → Q (di (sumC web o q i)) [none, none, none]) : wp_many_fewest [some (L o), some (L q), some (LP web)] Q R := by
  rw [wpe_many_fewest]
  exfalso
  refine wp_args (b := [some (L o), some (LP web)]) rfl (l_levels hn ho hw hwz fun i hi => ?_)
  have hib := bEnd_le hn ho hw hi
  exfalso
  all_goals rw [dataL_lv]
  · exact sdI (by rw [List.length_map, List.length_range]; omega)
  refine ⟨fun j acc ρ => ρ = [some (L o), some (L q), some (LP web), none] ∧ acc = ((List.range j).map fun k => ((cnt web o q k : Nat) : Int)).map fun x => T.d (.int x), ⟨rfl, rfl⟩, fun j d acc ρ hq hI => ?_, fun acc ρ hI => ?_⟩
  · obtain ⟨rfl, rfl⟩ := hI
    rw [List.getElem?_map] at hq
    by_cases hj : j < i
    · rw [List.getElem?_range hj] at hq
      cases hq
      have hne := hi.2 j hj
      have hc : cnt web o q j = (getA (bL upC web o 1 j) q).getD 0 := rfl
      obtain ⟨xs, hxs⟩ : ∃ xs, bL upC web o 1 j = xs := ⟨_, rfl⟩
      rw [show ((fun j => dctD cD (bL upC web o 1 j)) j) = dctD cD xs from by rw [← hxs]]
      rw [hxs] at hne hc
      have es : (List.map (fun k => ((cnt web o q k : Nat) : Int)) (List.range (j + 1))).map (fun x => T.d (.int x)) = (List.map (fun k => ((cnt web o q k : Nat) : Int)) (List.range j)).map (fun x => T.d (.int x)) ++ [T.d (.int (cnt web o q j : Nat))] := by
        rw [List.range_succ, List.map_append, List.map_append]
        rfl
      have dd : (if true = true then T.d (T.d (dctD cD xs)).data else T.d (dctD cD xs)) = T.d (dctD cD xs) := by rw [if_pos rfl, data_d]
      exfalso
      rw [dd, dtOf_enc cD hne]
      exfalso
      rw [keysOf_int]
      exfalso
      rw [dtOf_enc cD hne]
      exfalso
      rw [getT_enc]
      cases hg : getA xs q with
      | none =>
        rw [hg] at hc
        exfalso
        rw [es, hc]
        rfl
      | some c =>
        rw [hg] at hc
        exfalso
        rw [es, hc]
        rfl
    · rw [List.getElem?_eq_none (by rw [List.length_range]; omega)] at hq
      cases hq
  · obtain ⟨rfl, rfl⟩ := hI
    rw [List.length_map, List.length_range]
    exfalso
    exact h i hi
/-! ### how many rows of so many swaps lead there -/
def fr (web : List Pr) : Nat → Od → Od → Nat
  | 0, a, b => if a = b then 1 else 0
  | k + 1, a, b => (web.map fun w => fr web k (swp a w) b).sum
theorem sum_add2 {α : Type} (f g : α → Nat) : ∀ l : List α, (l.map fun x => f x + g x).sum = (l.map f).sum + (l.map g).sum
  | [] => rfl
  | x :: l => by
    have := sum_add2 f g l
    simp only [List.map_cons, List.sum_cons]
    omega
theorem sum_zero2 {α : Type} {f : α → Nat} : ∀ {l : List α}, (∀ x ∈ l, f x = 0) → (l.map f).sum = 0
  | [], _ => rfl
  | x :: l, h => by
    rw [List.map_cons, List.sum_cons, h x List.mem_cons_self, sum_zero2 fun y hy => h y (List.mem_cons_of_mem _ hy)]
theorem sum_swap2 {α β : Type} (f : α → β → Nat) (m : List β) : ∀ l : List α, (l.map fun x => (m.map fun y => f x y).sum).sum = (m.map fun y => (l.map fun x => f x y).sum).sum
  | [] => (sum_zero2 fun _ _ => rfl).symm
  | x :: l => by
    rw [List.map_cons, List.sum_cons, sum_swap2 f m l, ← sum_add2]
    rfl
theorem sum_le2 {α : Type} {f : α → Nat} {x : α} : ∀ {l : List α}, x ∈ l → f x ≤ (l.map f).sum
  | y :: l, h => by
    rw [List.map_cons, List.sum_cons]
    rcases List.mem_cons.mp h with rfl | m
    · exact Nat.le_add_right _ _
    · have := sum_le2 (f := f) m
      omega
theorem sum_ex2 {α : Type} {f : α → Nat} : ∀ {l : List α}, (l.map f).sum ≠ 0 → ∃ x ∈ l, f x ≠ 0
  | [], h => absurd rfl h
  | y :: l, h => by
    by_cases q : f y = 0
    · rw [List.map_cons, List.sum_cons, q, Nat.zero_add] at h
      obtain ⟨x, hx, e⟩ := sum_ex2 h
      exact ⟨x, List.mem_cons_of_mem _ hx, e⟩
    · exact ⟨y, List.mem_cons_self, q⟩
section
variable {web : List Pr} {n : Nat}
theorem swp_iff (hw : inRg n web) {w : Pr} (hm : w ∈ web) {a b : Od} (ha : a.length = n) (hb : b.length = n) : swp a w = b ↔ a = swp b w := by
  have := hw w hm
  constructor
  · rintro rfl
    exact (swp_swp (by omega) (by omega)).symm
  · rintro rfl
    exact swp_swp (by omega) (by omega)
theorem swp_len2 (a : Od) (w : Pr) : (swp a w).length = a.length := by simp [swp]
theorem fr_back (hw : inRg n web) : ∀ (k : Nat) {a b : Od}, a.length = n → b.length = n → fr web (k + 1) a b = (web.map fun w => fr web k a (swp b w)).sum
  | 0, a, b, ha, hb => by
    show (web.map fun w => if swp a w = b then 1 else 0).sum = (web.map fun w => if a = swp b w then 1 else 0).sum
    refine congrArg List.sum (List.map_congr_left fun w hm => ?_)
    by_cases q : swp a w = b
    · rw [if_pos q, if_pos ((swp_iff hw hm ha hb).mp q)]
    · rw [if_neg q, if_neg fun z => q ((swp_iff hw hm ha hb).mpr z)]
  | k + 1, a, b, ha, hb => by
    show (web.map fun w => fr web (k + 1) (swp a w) b).sum = (web.map fun v => (web.map fun w => fr web k (swp a w) (swp b v)).sum).sum
    rw [← sum_swap2 (fun w v => fr web k (swp a w) (swp b v))]
    refine congrArg List.sum (List.map_congr_left fun w hm => ?_)
    exact fr_back hw k (by rw [swp_len2, ha]) hb
theorem fr_sym (hw : inRg n web) : ∀ (k : Nat) {a b : Od}, a.length = n → b.length = n → fr web k a b = fr web k b a
  | 0, a, b, _, _ => by
    show (if a = b then 1 else 0) = (if b = a then 1 else 0)
    by_cases q : a = b
    · rw [if_pos q, if_pos q.symm]
    · rw [if_neg q, if_neg fun z => q z.symm]
  | k + 1, a, b, ha, hb => by
    rw [fr_back hw k hb ha]
    refine congrArg List.sum (List.map_congr_left fun w hm => ?_)
    exact fr_sym hw k (by rw [swp_len2, ha]) hb
theorem fr_pos : ∀ (k : Nat) {a b : Od}, fr web k a b ≠ 0 ↔ Rr web k a b
  | 0, a, b => by
    rw [Rr.zero]
    show (if a = b then 1 else 0) ≠ 0 ↔ _
    by_cases q : a = b
    · rw [if_pos q]
      simp [q]
    · rw [if_neg q]
      exact ⟨fun z => absurd rfl z, fun z => absurd z.symm q⟩
  | k + 1, a, b => by
    constructor
    · intro h
      obtain ⟨w, hw, e⟩ := sum_ex2 (l := web) (f := fun w => fr web k (swp a w) b) h
      obtain ⟨row, r1, r2, r3⟩ := (fr_pos k).mp e
      refine ⟨w :: row, fun p hp => ?_, by rw [List.length_cons, r2], r3⟩
      rcases List.mem_cons.mp hp with rfl | m
      · exact hw
      · exact r1 p m
    · rintro ⟨row, r1, r2, r3⟩
      cases row with
      | nil => cases r2
      | cons w row =>
        have h := (fr_pos k (a := swp a w) (b := b)).mpr ⟨row, fun p hp => r1 p (List.mem_cons_of_mem _ hp), by simpa using r2, r3⟩
        have := sum_le2 (f := fun w => fr web k (swp a w) b) (r1 w List.mem_cons_self)
        show (web.map fun w => fr web k (swp a w) b).sum ≠ 0
        omega
def vA (acc : List (Od × Nat)) (q : Od) : Nat := (getA acc q).getD 0
theorem vA_step (met : List Od) (c : Od × Nat) (acc : List (Od × Nat)) (w : Pr) {q : Od} (hq : ¬ q ∈ met) : vA (bStep upC met c acc w) q = vA acc q + if swp c.1 w = q then c.2 else 0 := by
  unfold bStep vA
  by_cases m : swp c.1 w ∈ met
  · rw [if_pos m, if_neg fun z => hq (by rw [← z]; exact m)]
    rfl
  · rw [if_neg m, getA_put]
    by_cases e : q = swp c.1 w
    · rw [if_pos e, if_pos e.symm, e]
      rfl
    · rw [if_neg e, if_neg fun z => e z.symm]
      rfl
theorem vA_row (met : List Od) (c : Od × Nat) {q : Od} (hq : ¬ q ∈ met) : ∀ (ws : List Pr) (acc : List (Od × Nat)), vA (bRow upC ws met acc c) q = vA acc q + (ws.map fun w => if swp c.1 w = q then c.2 else 0).sum
  | [], acc => rfl
  | w :: ws, acc => by
    show vA (bRow upC ws met (bStep upC met c acc w) c) q = _
    rw [vA_row met c hq ws, vA_step met c acc w hq, List.map_cons, List.sum_cons]
    omega
theorem vA_rows (ws : List Pr) (met : List Od) {q : Od} (hq : ¬ q ∈ met) : ∀ (cur acc : List (Od × Nat)), vA (cur.foldl (bRow upC ws met) acc) q = vA acc q + (cur.map fun c => (ws.map fun w => if swp c.1 w = q then c.2 else 0).sum).sum
  | [], acc => rfl
  | c :: cur, acc => by
    show vA (cur.foldl (bRow upC ws met) (bRow upC ws met acc c)) q = _
    rw [vA_rows ws met hq cur, vA_row met c hq, List.map_cons, List.sum_cons]
    omega
theorem vA_sum {p : Od} : ∀ {cur : List (Od × Nat)}, (cur.map (·.1)).Nodup → (cur.map fun c => if c.1 = p then c.2 else 0).sum = vA cur p
  | [], _ => rfl
  | c :: cur, h => by
    obtain ⟨h1, h2⟩ := List.nodup_cons.mp (show (c.1 :: cur.map (·.1)).Nodup from h)
    have ih := vA_sum (p := p) h2
    unfold vA getA at ih ⊢
    rw [List.map_cons, List.sum_cons, List.find?_cons]
    by_cases e : c.1 = p
    · rw [if_pos e, decide_eq_true e]
      have : (cur.map fun c => if c.1 = p then c.2 else 0).sum = 0 := sum_zero2 fun x hx => if_neg fun z => h1 (by rw [e, ← z]; exact List.mem_map_of_mem hx)
      rw [this]
      rfl
    · rw [if_neg e, decide_eq_false e, ih]
      simp
theorem vA_no {cur : List (Od × Nat)} {p : Od} (h : ¬ p ∈ cur.map (·.1)) : vA cur p = 0 := by
  have := getA_some cur p
  rw [decide_eq_false h] at this
  unfold vA
  cases e : getA cur p with
  | none => rfl
  | some x => rw [e] at this; cases this
theorem cnt_fr (hw : inRg n web) {o : Od} (ho : isO n o) : ∀ (k : Nat) {q : Od}, Dd web k o q → cnt web o q k = fr web k o q
  | 0, q, h => by
    have e := Rr.zero.mp h.1
    subst e
    show ((getA [(q, 1)] q).getD 0) = if q = q then 1 else 0
    simp [getA]
  | k + 1, q, h => by
    have hq : ¬ q ∈ bM upC web o 1 k := fun m => by
      obtain ⟨j, hj, r⟩ := ((bM_R o 1 k).2 q).mp m
      exact h.2 j (by omega) r
    have ql : q.length = n := by rw [h.1.len, ho.1]
    show vA (bL upC web o 1 (k + 1)) q = _
    rw [bL_succ]
    unfold bNext
    rw [vA_rows web _ hq, sum_swap2 (fun (c : Od × Nat) w => if swp c.1 w = q then c.2 else 0), fr_back hw k ho.1 ql]
    show 0 + _ = _
    rw [Nat.zero_add]
    refine congrArg List.sum (List.map_congr_left fun w hm => ?_)
    have hok := bL_ok (up := upC) (a := 1) ho hw k
    have e1 : ((bL upC web o 1 k).map fun c => if swp c.1 w = q then c.2 else 0) = (bL upC web o 1 k).map fun c => if c.1 = swp q w then c.2 else 0 := List.map_congr_left fun c hc => by
      have hl := (hok.rg c.1 (List.mem_map_of_mem hc)).1
      by_cases e : swp c.1 w = q
      · rw [if_pos e, if_pos ((swp_iff hw hm hl ql).mp e)]
      · rw [if_neg e, if_neg fun z => e ((swp_iff hw hm hl ql).mpr z)]
    rw [e1, vA_sum hok.nd]
    by_cases d : Dd web k o (swp q w)
    · exact cnt_fr hw ho k d
    · rw [vA_no fun m => d (mem_level.mp m)]
      refine Eq.symm (Classical.byContradiction fun z => ?_)
      have r := (fr_pos k).mp z
      refine d ⟨r, fun j hj rj => ?_⟩
      have := rj.snoc hm
      rw [(swp_iff hw hm (by rw [swp_len2, ql]) ql).mpr rfl] at this
      exact h.2 (j + 1) (by omega) this
theorem cnt_no {o q : Od} {k : Nat} (h : ¬ Dd web k o q) : cnt web o q k = 0 := vA_no fun m => h (mem_level.mp m)
theorem sumC_no {o q : Od} : ∀ {I : Nat}, (∀ k, k < I → ¬ Dd web k o q) → sumC web o q I = 0
  | 0, _ => rfl
  | I + 1, h => by
    rw [sumC_succ, sumC_no fun k hk => h k (by omega), cnt_no (h I (by omega))]
    rfl
theorem sumC_fr (hw : inRg n web) {o q : Od} (ho : isO n o) {d : Nat} (h : Dd web d o q) : ∀ {I : Nat}, d < I → sumC web o q I = (fr web d o q : Nat)
  | 0, z => absurd z (Nat.not_lt_zero _)
  | I + 1, z => by
    rw [sumC_succ]
    by_cases e : d = I
    · subst e
      rw [sumC_no fun k hk hd => absurd (hd.uniq h) (by omega), cnt_fr hw ho d h, Int.zero_add]
    · rw [sumC_fr hw ho h (by omega), cnt_no fun hd => e (h.uniq hd)]
      simp
end
theorem l_fewest_no {n : Nat} {one other : Od} {web : List Pr} {Q : T → Rho → Prop} {R : Str → Rho → Prop} (hn : n ≤ 6) (ho : isO n one) (hq : isO n other) (hw : inRg n web) (hwz : web.length ≤ 1000) (hno : ∀ d, ¬ Dd web d other one)
    (h : R (Str.ofString "NoRow") [none, none, none]) : wp_fewest [some (L one), some (L other), some (LP web)] Q R := by
  rw [wpe_fewest]
  unfold wpOf rd_fewest
  have pw := pow_le6 hn
  with_reducible refine s_seqO (fun ρ => ∃ I, ρ = [some (L one), some (L other), some (LP web), some (.d (.list ((List.range I).map fun j => dctD cD (bL upC web other 1 j)))), none, none, none, none, none, none, none, none] ∧ bEnd upC web other 1 I) (fun ρ hI => ?_) fun K _ _ _ hK => ?_
  rotate_left 1
  · exfalso
    refine wp_args (b := [some (L other), some (LP web)]) (by simp only [data_d]) (l_levels hn hq hw (by omega) fun I hE => ?_)
    exfalso
    refine hK _ ⟨I, ?_, hE⟩
    rw [data_m]
    rfl
  obtain ⟨I, rfl, hE⟩ := hI
  have hib := bEnd_le hn hq hw hE
  with_reducible refine s_seqO (fun ρ => ρ = [some (L one), some (L other), some (LP web), some (.d (.list ((List.range I).map fun j => dctD cD (bL upC web other 1 j)))), some (.dt (enc cD [])), none, none, none, none, none, none, none]) (fun ρ hI => ?_) fun K _ _ _ hK => ?_
  rotate_left 1
  · exfalso
    exact hK _ rfl
  subst hI
  with_reducible refine s_seqO (fun ρ => ∃ (o5 o6 o7 : Option T), ρ = [some (L one), some (L other), some (LP web), some (.d (.list ((List.range I).map fun j => dctD cD (bL upC web other 1 j)))), some (.dt (enc cD (awF (lvO web other) I))), o5, o6, o7, none, none, none, none]) (fun ρ hI => ?_) fun K _ _ _ hK => ?_
  rotate_left 1
  · exfalso
    refine ⟨fun j ρ => ∃ (o5 o6 o7 : Option T), ρ = [some (L one), some (L other), some (LP web), some (.d (.list ((List.range I).map fun j => dctD cD (bL upC web other 1 j)))), some (.dt (enc cD (awF (lvO web other) j))), o5, o6, o7, none, none, none, none], ⟨none, none, none, rfl⟩, fun j d ρ hq' hI => ?_, fun ρ hI => ?_⟩
    · obtain ⟨o5, o6, o7, rfl⟩ := hI
      unfold enumD at hq'
      rw [List.getElem?_mapIdx, List.getElem?_map] at hq'
      by_cases hj : j < I
      · rw [List.getElem?_range hj] at hq'
        cases hq'
        have hne := hE.2 j hj
        have hok := bL_ok (up := upC) (a := 1) hq hw j
        have hdd : ∀ u ∈ (bL upC web other 1 j).map (·.1), Dd web j other u := fun u hu => mem_level.mp hu
        have haw := awx_ok hq hw j
        have eaw : awF (lvO web other) (j + 1) = awF (lvO web other) j ++ ((bL upC web other 1 j).map (·.1)).map fun q => (q, j) := rfl
        obtain ⟨xs, hxs⟩ : ∃ xs, bL upC web other 1 j = xs := ⟨_, rfl⟩
        rw [hxs] at hne hok hdd eaw
        obtain ⟨A, hA⟩ : ∃ A, awF (lvO web other) j = A := ⟨_, rfl⟩
        have haw2 := fun ks h1 h2 => awT_ok hq hw j ks haw h1 h2
        rw [hA] at haw haw2 eaw
        exfalso
        rw [hxs, entT_enc]
        exfalso
        rw [keys_enc]
        refine ⟨fun l ρ => ∃ o7, ρ = [some (L one), some (L other), some (LP web), some (.d (.list ((List.range I).map fun j => dctD cD (bL upC web other 1 j)))), some (.dt (enc cD (A ++ ((xs.map (·.1)).take l).map fun q => (q, j)))), some (di (j : Nat)), some (.d (dctD cD xs)), o7, none, none, none, none], ⟨o7, by rw [hA]; simp only [data_d, List.take_zero, List.map_nil, List.append_nil, Bool.false_eq_true, if_false, if_true]; rw [hxs]; rfl⟩, fun l d ρ hq hI => ?_, fun ρ hI => ?_⟩
        · obtain ⟨o7, rfl⟩ := hI
          rw [List.getElem?_map] at hq
          cases hx : xs[l]? with
          | none => simp [hx] at hq
          | some c =>
          rw [hx] at hq
          cases hq
          have hnx : (xs.map (·.1))[l]? = some c.1 := by
            rw [List.getElem?_map, hx]
            rfl
          have hk1 : OkL n ((xs.map (·.1)).take (l + 1)) := ⟨hok.nd.sublist (List.take_sublist _ _), fun u hu => hok.rg u (List.mem_of_mem_take hu)⟩
          have z := haw2 _ hk1 fun u hu => hdd u (List.mem_of_mem_take hu)
          rw [take_snoc hnx, show (A ++ ((xs.map (·.1)).take l ++ [c.1]).map fun q => (q, j)) = (A ++ ((xs.map (·.1)).take l).map fun q => (q, j)) ++ [(c.1, j)] from by rw [List.map_append, ← List.append_assoc]; rfl] at z
          obtain ⟨B, hB⟩ : ∃ B, (A ++ ((xs.map (·.1)).take l).map fun q => (q, j)) = B := ⟨_, rfl⟩
          rw [hB] at z ⊢
          have zl := z.le
          rw [List.length_map, List.length_append] at zl
          have znd := z.nd
          rw [List.map_append, List.nodup_append] at znd
          have hnb : ¬ c.1 ∈ B.map (·.1) := fun m => znd.2.2 _ m c.1 (List.mem_singleton.mpr rfl) rfl
          refine s_gNt ?_
          exfalso
          rw [keysOf_int]
          exfalso
          · exact sdI (by rw [enc_len]; omega)
          refine ⟨some (.d (.tuple (c.1.map PyData.int))), ?_⟩
          simp only [data_d]
          rw [show PyData.int ((j : Nat) : Int) = cD j from rfl, putDT_enc, take_snoc hnx, List.map_append, ← List.append_assoc, hB]
          have ep : putA B c.1 j = B ++ [(c.1, j)] := by
            unfold putA
            rw [if_neg]
            intro q
            obtain ⟨p, hp, e⟩ := List.any_eq_true.mp q
            exact hnb (by rw [← of_decide_eq_true e]; exact List.mem_map_of_mem hp)
          rw [ep]
          rfl
        · obtain ⟨o7, rfl⟩ := hI
          rw [List.length_map, List.take_of_length_le (by rw [List.length_map]; exact Nat.le_refl _)]
          exact ⟨_, _, _, by rw [eaw]⟩
      · rw [List.getElem?_eq_none (by rw [List.length_range]; omega)] at hq'
        cases hq'
    · obtain ⟨o5, o6, o7, rfl⟩ := hI
      unfold enumD
      rw [List.length_mapIdx, List.length_map, List.length_range]
      exact hK _ ⟨_, _, _, rfl⟩
  obtain ⟨o5, o6, o7, rfl⟩ := hI
  have hget : getA (awF (lvO web other) I) one = none := by
    have z := getA_some (awF (lvO web other) I) one
    rw [decide_eq_false (fun m => by
      obtain ⟨d, _, md⟩ := awF_keys.mp m
      exact hno d (lv_mem.mp md))] at z
    cases e : getA (awF (lvO web other) I) one with
    | none => rfl
    | some v => rw [e] at z; cases z
  have hAl := (awx_ok hq hw I).le
  obtain ⟨A, hA⟩ : ∃ A, awF (lvO web other) I = A := ⟨_, rfl⟩
  rw [hA] at hget hAl ⊢
  with_reducible refine s_seqO (fun ρ => ∃ o3, ρ = [some (L one), some (L other), some (LP web), o3, some (.dt (enc cD A)), o5, o6, o7, some (.d (tupD one)), none, none, none]) (fun ρ hI => ?_) fun K _ _ _ hK => ?_
  rotate_left 1
  · exfalso
    exact hK _ ⟨_, rfl⟩
  obtain ⟨o3, rfl⟩ := hI
  with_reducible refine s_seqC (fun ρ => False) (fun ρ hI => hI.elim) fun K hK => ?_
  exfalso
  rw [keysOf_int]
  exfalso
  rw [getT_enc, hget]
  exfalso
  exact h
theorem l_said {n : Nat} {one other : Od} {web : List Pr} {Q : T → Rho → Prop} {R : Str → Rho → Prop} (hn : n ≤ 6) (ho : isO n one) (hq : isO n other) (hw : inRg n web) (hwz : web.length ≤ 1000) (hs : web.Pairwise fun x y => ¬ ltP y x)
    (h0 : ∀ d, Dd web d other one → Q (di 0) [none, none, none]) (h1 : (∀ d, ¬ Dd web d other one) → Q (di 1) [none, none, none]) : wp__law_said [some (L one), some (L other), some (LP web)] Q R := by
  rw [wpe__law_said]
  unfold wpOf rd__law_said
  with_reducible refine s_seqO (fun ρ => ρ = [some (L one), some (L other), some (LP web), some (.d .none), none, none]) (fun ρ hI => ?_) fun K _ _ _ hK => ?_
  rotate_left 1
  · exfalso
    exact hK _ rfl
  subst hI
  by_cases q : ∃ d, Dd web d other one
  · obtain ⟨d, hd⟩ := q
    with_reducible refine s_seqO (fun ρ => ρ = [some (L one), some (L other), some (LP web), some (.d .none), none, none]) (fun ρ hI => ?_) fun K _ _ _ hK => ?_
    rotate_left 1
    · unfold dTryKeep
      exfalso
      refine l_fewest hn ho hq hw hwz hs hd fun r _ _ => ?_
      exfalso
      exact hK _ rfl
    subst hI
    exfalso
    exact h0 d hd
  · have no : ∀ d, ¬ Dd web d other one := fun d hd => q ⟨d, hd⟩
    with_reducible refine s_seqO (fun ρ => ρ = [some (L one), some (L other), some (LP web), some (.d (excD (Str.ofString "NoRow"))), none, none]) (fun ρ hI => ?_) fun K _ _ _ hK => ?_
    rotate_left 1
    · unfold dTryKeep
      exfalso
      refine l_fewest_no hn ho hq hw hwz no ?_
      exfalso
      · exact sdI List.mem_cons_self
      exact hK _ rfl
    subst hI
    with_reducible refine s_seqC (fun ρ => ρ = [some (L one), some (L other), some (LP web), some (.d (excD (Str.ofString "NoRow"))), none, none]) (fun ρ hI => ?_) fun K hK => ?_
    rotate_left 1
    · exfalso
      exact hK _ rfl
    subst hI
    with_reducible refine s_seqO (fun ρ => ρ = [some (L one), some (L other), some (LP web), some (.d (excD (Str.ofString "NoRow"))), none, some (.d (.bool false))]) (fun ρ hI => ?_) fun K _ _ _ hK => ?_
    rotate_left 1
    · exfalso
      refine ⟨false, List.mem_cons_self, ?_⟩
      exfalso
      exact hK _ rfl
    subst hI
    exfalso
    refine ⟨true, List.mem_cons_self, ?_⟩
    exfalso
    refine ⟨true, List.mem_cons_self, ?_⟩
    exfalso
    exact h1 no
theorem l_lparted {n : Nat} {web : List Pr} {Q : T → Rho → Prop} {R : Str → Rho → Prop} (hz : n ≤ 1000) (hw : inRg n web) (hwz : web.length ≤ 1000) (h : Q (dis (labF n web)) [none, none]) : wp__law_parted [some (di n), some (LP web)] Q R := by
  rw [wpe__law_parted]
  unfold wpOf rd__law_parted
  with_reducible refine s_seqO (fun ρ => ρ = [some (di n), some (LP web), some (dis ((List.range n).map Int.ofNat)), none, none, none, none]) (fun ρ hI => ?_) fun K _ _ _ hK => ?_
  rotate_left 1
  · exfalso
    refine hK _ ?_
    rw [dis_eq, show ((List.range n).map Int.ofNat).map PyData.int = upI 0 n from by
      unfold upI
      rw [List.map_map]
      refine List.map_congr_left fun x _ => ?_
      simp]
    rfl
  subst hI
  with_reducible refine s_seqO (fun ρ => ∃ (o3 o4 o5 o6 : Option T), ρ = [some (di n), some (LP web), some (dis (labF n web)), o3, o4, o5, o6]) (fun ρ hI => ?_) fun K _ _ _ hK => ?_
  rotate_left 1
  · exfalso
    refine ⟨fun i ρ => ∃ (o3 o4 o5 o6 : Option T), ρ = [some (di n), some (LP web), some (dis (passes web n i)), o3, o4, o5, o6], ⟨none, none, none, none, rfl⟩, fun i d ρ hq hI => ?_, fun ρ hI => ?_⟩
    · obtain ⟨o3, o4, o5, o6, rfl⟩ := hI
      obtain ⟨hi, rfl⟩ := upI_get hq
      have pl : (passes web n i).length = n := (passes_ok hw i).1.1
      obtain ⟨l0, hl0⟩ : ∃ l0, passes web n i = l0 := ⟨_, rfl⟩
      rw [hl0] at pl ⊢
      refine s_gNt ?_
      exfalso
      refine ⟨fun j ρ => ∃ (o4 o5 o6 : Option T), ρ = [some (di n), some (LP web), some (dis (pass (web.take j) l0)), some (di (0 + (i : Int))), o4, o5, o6], ⟨o4, o5, o6, rfl⟩, fun j d ρ hq2 hI => ?_, fun ρ hI => ?_⟩
      · obtain ⟨o4, o5, o6, rfl⟩ := hI
        rw [List.getElem?_map] at hq2
        cases hpi : web[j]? with
        | none => simp [hpi] at hq2
        | some p =>
        rw [hpi] at hq2
        cases hq2
        obtain ⟨g1, g2, g3, g4⟩ := hw p (List.mem_of_getElem? hpi)
        have hl : (pass (web.take j) l0).length = n := by rw [pass_len]; exact pl
        obtain ⟨l, hl2⟩ : ∃ l, pass (web.take j) l0 = l := ⟨_, rfl⟩
        have et : pass (web.take (j + 1)) l0 = pstep l p := by
          rw [List.take_add_one, hpi]
          unfold pass
          rw [List.foldl_append]
          show pstep (pass (web.take j) l0) p = _
          rw [hl2]
        rw [hl2] at hl ⊢
        obtain ⟨x, hx⟩ : ∃ x, l.getD p.1.toNat 0 = x := ⟨_, rfl⟩
        obtain ⟨y, hy⟩ : ∃ y, l.getD p.2.toNat 0 = y := ⟨_, rfl⟩
        have a1 : atI (l.map PyData.int) p.1 = some (.int x) := by rw [at_map PyData.int g1 (by omega), ← hx, getD_in (by omega)]
        have a2 : atI (l.map PyData.int) p.2 = some (.int y) := by rw [at_map PyData.int g3 (by omega), ← hy, getD_in (by omega)]
        have mn : (if y < x then y else x) = min x y := by split <;> omega
        refine s_gTup rfl rfl (s_gCons (s_gNt (s_gCons (s_gNt (s_gNil ?_)))))
        with_reducible refine s_seqO (fun ρ => ρ = [some (di n), some (LP web), some (dis l), some (di (0 + (i : Int))), some (di p.1), some (di p.2), some (di (min x y))]) (fun ρ hI => ?_) fun K _ _ _ hK => ?_
        rotate_left 1
        · exfalso
          rw [a1]
          exfalso
          rw [a2]
          exfalso
          refine hK _ ?_
          rw [← mn]
          rfl
        subst hI
        exfalso
        rw [ixN_nat g1 (by rw [List.length_map, hl]; exact g2)]
        exfalso
        rw [ixN_nat g3 (by rw [List.length_set, List.length_map, hl]; exact g4)]
        exfalso
        refine ⟨some (di p.1), some (di p.2), some (di (min x y)), ?_⟩
        rw [et]
        have e : dis (pstep l p) = .ls (((l.map fun n => T.d (.int n)).set p.1.toNat (T.d (.int (min x y)))).set p.2.toNat (T.d (.int (min x y)))) := by
          unfold dis pstep
          rw [List.map_set, List.map_set, hx, hy]
        rw [e]
        rfl
      · obtain ⟨o4, o5, o6, rfl⟩ := hI
        rw [List.length_map, List.take_length]
        refine ⟨some (di (0 + (i : Int))), o4, o5, o6, ?_⟩
        show _ = [_, _, some (dis (pass web (passes web n i))), _, _, _, _]
        rw [hl0]
    · obtain ⟨o3, o4, o5, o6, rfl⟩ := hI
      rw [upI_len, Int.toNat_natCast, passes_lab hw]
      exact hK _ ⟨_, _, _, _, rfl⟩
  obtain ⟨o3, o4, o5, o6, rfl⟩ := hI
  exfalso
  exact h
def valF (l : List Int) : PyData → PyData
  | .int k => .int (l.getD k.toNat 0)
  | x => x
def kvW (l xs : List Int) : List (Key × PyData) := (kvE 0 xs).map fun p => (p.1, valF l p.2)
theorem getK_val (f : PyData → PyData) (xs : List (Key × PyData)) (k : Key) : getK (xs.map fun p => (p.1, f p.2)) k = (getK xs k).map f := by
  unfold getK
  rw [List.find?_map, Option.map_map, Option.map_map]
  rfl
theorem kvW_get {l xs : List Int} (h : xs.Nodup) {m : Int} (hm : m ∈ xs) : getK (mergeD [] (kvW l xs)) (.inl m) = some (.int (l.getD (xs.idxOf m) 0)) := by
  have nd := kvE_nodup (k := 0) h
  rw [merge_new _ _ (by
    rw [List.nil_append]
    unfold kvW
    rw [List.map_map]
    exact nd), List.nil_append]
  unfold kvW
  rw [getK_val, kvE_get hm]
  simp [valF]
theorem kvW_snoc (l xs : List Int) (y : Int) : kvW l (xs ++ [y]) = kvW l xs ++ [(.inl y, .int (l.getD xs.length 0))] := by
  unfold kvW
  rw [kvE_snoc, List.map_append]
  simp [valF]
def offL (l one other : List Int) (j : Nat) : List Int := ((List.range j).filter fun i => decide (l.getD (other.idxOf (one.getD i 0)) 0 ≠ l.getD i 0)).map fun i => one.getD i 0
theorem l_leads {n : Nat} {one other : List Int} {web : List Pr} {Q : T → Rho → Prop} {R : Str → Rho → Prop} (hn : n ≤ 6) (hw : swOk n web) (hwz : web.length ≤ 1000) (p1 : PR n one) (p2 : PR n other)
    (h : ∀ b : Bool, (b = true ↔ SP web n one other) → Q (.d (.bool b)) [none, none, none]) : wp__law_leads [some (L one), some (L other), some (LP web)] Q R := by
  rw [wpe__law_leads]
  unfold wpOf rd__law_leads
  have z1 := p1.len
  have z2 := p2.len
  have hr : inRg n web := fun p hp => by
    have := hw p hp
    omega
  obtain ⟨hl, _⟩ := labF_ok hr
  obtain ⟨l, hL⟩ : ∃ l, labF n web = l := ⟨_, rfl⟩
  rw [hL] at hl
  have zl := hl.1
  with_reducible refine s_seqO (fun ρ => ρ = [some (L one), some (L other), some (LP web), some (L l), none, none, none]) (fun ρ hI => ?_) fun K _ _ _ hK => ?_
  rotate_left 1
  · exfalso
    rw [List.length_map, z1]
    refine l_lparted (by omega) hr hwz ?_
    rw [hL]
    exfalso
    exact hK _ (by rw [L_eq l]; rfl)
  subst hI
  with_reducible refine s_seqO (fun ρ => ∃ o5 o6, ρ = [some (L one), some (L other), some (LP web), some (L l), some (.dk (mergeD [] (kvW l other))), o5, o6]) (fun ρ hI => ?_) fun K _ _ _ hK => ?_
  rotate_left 1
  · exfalso
    · exact sdI (by unfold enumD; rw [List.length_mapIdx, List.length_map]; omega)
    refine ⟨fun j acc ρ => ρ = [some (L one), some (L other), some (LP web), some (L l), none, none, none] ∧ acc = ((kvW l (other.take j)).map fun p => T.d (kvD p)), ⟨rfl, rfl⟩, fun j d acc ρ hq2 hI => ?_, fun acc ρ hI => ?_⟩
    · obtain ⟨rfl, rfl⟩ := hI
      obtain ⟨c, hc, rfl⟩ := enumD_get2 hq2
      have hj := (List.getElem?_eq_some_iff.mp hc).1
      exfalso
      rw [at_map PyData.int (i := (j : Int)) (by omega) (by omega)]
      exfalso
      rw [List.take_add_one, hc]
      simp only [Option.toList, Int.toNat_natCast]
      rw [kvW_snoc, List.length_take, Nat.min_eq_left (by omega), List.map_append, getD_in (by omega)]
      all_goals rfl
    · obtain ⟨rfl, rfl⟩ := hI
      unfold enumD
      rw [List.length_mapIdx, List.length_map, List.take_length]
      exfalso
      refine s_asKv (by with_unfolding_all exact rfl) (flat_m kvD (kvW l other)) ?_
      exact hK _ ⟨_, _, rfl⟩
  obtain ⟨o5, o6, rfl⟩ := hI
  have hod : ∀ i : Nat, i < n → one.getD i 0 ∈ other := fun i hi => by
    rw [getD_in (by omega)]
    exact p1.sub p2 _ (List.getElem_mem _)
  exfalso
  · exact sdI (by unfold enumD; rw [List.length_mapIdx, List.length_map]; omega)
  refine ⟨fun j acc ρ => ρ = [some (L one), some (L other), some (LP web), some (L l), some (.dk (mergeD [] (kvW l other))), none, none] ∧ acc = (offL l one other j).map fun v => T.d (.int v), ⟨rfl, rfl⟩, fun j d acc ρ hq2 hI => ?_, fun acc ρ hI => ?_⟩
  · obtain ⟨rfl, rfl⟩ := hI
    obtain ⟨c, hc, rfl⟩ := enumD_get2 hq2
    have hj := (List.getElem?_eq_some_iff.mp hc).1
    have ec : one.getD j 0 = c := by rw [List.getD_eq_getElem?_getD, hc]; rfl
    have hm := hod j (by omega)
    rw [ec] at hm
    have il := List.idxOf_lt_length_iff.mpr hm
    have off : offL l one other (j + 1) = offL l one other j ++ if l.getD (other.idxOf c) 0 = l.getD j 0 then [] else [c] := by
      unfold offL
      rw [List.range_succ, List.filter_append, List.map_append]
      congr 1
      by_cases q : l.getD (other.idxOf c) 0 = l.getD j 0
      · rw [if_pos q, List.filter_cons_of_neg (by rw [ec]; simpa using q)]
        rfl
      · rw [if_neg q, List.filter_cons_of_pos (by rw [ec]; simpa using q)]
        show [one.getD j 0] = [c]
        rw [ec]
    exfalso
    rw [kvW_get p2.nd hm]
    exfalso
    rw [at_map PyData.int (i := (j : Int)) (by omega) (by omega)]
    exfalso
    have ee : PyData.eqv (.int (l.getD (other.idxOf c) 0)) (.int (l[((j : Int)).toNat]'(by omega))) = decide (l.getD (other.idxOf c) 0 = l.getD j 0) := by
      rw [kind_int.eqv, ← getD_in (by omega), Int.toNat_natCast]
    by_cases q : l.getD (other.idxOf c) 0 = l.getD j 0
    · refine w_decF (by simp only [data_d]; rw [ee, decide_eq_true q]; rfl) fun _ => ⟨rfl, ?_⟩
      rw [off, if_pos q, List.append_nil]
    · refine w_decT (by simp only [data_d]; rw [ee, decide_eq_false q]; rfl) fun _ => ?_
      exfalso
      rw [off, if_neg q, List.map_append]
      rfl
  · obtain ⟨rfl, rfl⟩ := hI
    unfold enumD
    rw [List.length_mapIdx, List.length_map, z1]
    exfalso
    · refine sdI ?_
      rw [data_m]
      exact kind_ints.cmp (by decide) _ []
    rw [data_m]
    refine Eq.mp ?_ (h (decide (offL l one other n = [])) ?_)
    · rw [← kind_ints.eqv]
      rfl
    rw [decide_eq_true_iff]
    unfold offL
    rw [List.map_eq_nil_iff, List.filter_eq_nil_iff]
    constructor
    · intro hh i j hi hj e
      have q := hh i (List.mem_range.mpr hi)
      have q : l.getD (other.idxOf (one.getD i 0)) 0 = l.getD i 0 := by simpa using q
      have hx : other.idxOf (one.getD i 0) = j := by
        rw [e, getD_in (by omega)]
        exact nodup_inj p2.nd (List.idxOf_lt_length_iff.mpr (List.getElem_mem _)) (by omega) (List.getElem_idxOf (List.idxOf_lt_length_iff.mpr (List.getElem_mem _)))
      rw [hx] at q
      exact conn_symm ((hl.2 j i hj hi).mp q)
    · intro sp i hi
      have hi := List.mem_range.mp hi
      have hm := hod i hi
      have il := List.idxOf_lt_length_iff.mpr hm
      have c := sp i (other.idxOf (one.getD i 0)) hi (by omega) (by rw [getD_in (cs := other) (by omega)]; exact (List.getElem_idxOf il).symm)
      have := (hl.2 _ _ (by omega) hi).mpr (conn_symm c)
      simpa using this
theorem ne_int {x y : Int} (h : x = y) : (!PyData.eqv (.int x) (.int y)) = false := by
  rw [kind_int.eqv, h]
  simp
def thr (one other : List Int) (web : List Pr) : PyData := .list [.list (one.map .int), .list (other.map .int), .list (web.map pairD)]
theorem cmp_thr (one other : List Int) (web : List Pr) : cmpOk (thr one other web) (thr one other web) := by
  have h1 := kind_ints.dep one
  have h1' := kind_ints.dep other
  have h2 := kind_prs.dep web
  have l1 := lay_int one
  have l1' := lay_int other
  have l2 := layAll_map kind_pr.lay web
  refine ⟨?_, ?_, ?_⟩
  · simp [thr, PyData.canLay0, PyData.canLayAll0, l1, l1', l2]
  · simp [thr, PyData.canLay0, PyData.canLayAll0, l1, l1', l2]
  · simp only [thr, PyData.depth, PyData.depthAll] at h1 h1' h2 ⊢
    omega
theorem eqv_thr (one other : List Int) (web : List Pr) : (!PyData.eqv (thr one other web) (thr one other web)) = false := by
  have h1 := kind_ints.eqv one one
  have h1' := kind_ints.eqv other other
  have h2 := kind_prs.eqv web web
  simp only [decide_true] at h1 h1' h2
  simp only [thr, PyData.eqv, PyData.eqvAll] at h1 h1' h2 ⊢
  simp [h1, h1', h2]
theorem thr_eq (one other : List Int) (web : List Pr) : (T.ls [dis one, dis other, dps web]).data = thr one other web := by
  show PyData.list [(dis one).data, (dis other).data, (dps web).data] = _
  rw [data_m, data_m, data_m]
  rfl
theorem lexle_not {web : List Pr} (h : web.Pairwise lexle) : web.Pairwise fun x y => ¬ ltP y x := h.imp fun {x y} k z => by
  unfold lexle at k
  unfold ltP at z
  omega
theorem sp_iff {web : List Pr} {n : Nat} {one other : List Int} (hw : swOk n web) (p1 : PR n one) (p2 : PR n other) : SP web n one other ↔ ∃ d, Dd web d other one := by
  have hr : inRg n web := fun p hp => by
    have := hw p hp
    omega
  constructor
  · intro sp
    obtain ⟨row, h1, h2⟩ := row_of hw p1 p2 sp
    obtain ⟨j, _, hj⟩ := Dd.ex (k := row.length) ⟨row, h1, rfl, h2⟩
    exact ⟨j, hj.back hr p1.len⟩
  · rintro ⟨d, hd⟩
    obtain ⟨row, h1, _, h2⟩ := (hd.back hr p2.len).1
    rw [← h2]
    exact SP.row hw p1.len p1.nd h1
theorem l_law {ns : List Int} (hn : ns.length ≤ 63) : wp_law [some (.d (.list (ns.map .int)))] (fun t _ => t = .d (.bool true)) (fun _ _ => False) := by
  rw [wpe_law]
  unfold wpOf rd_law
  with_reducible refine s_seqO (fun ρ => ∃ (o1 o2 o3 o4 o5 o6 o7 o8 o9 o10 o11 o12 o13 : Option T), ρ = [some (L ns), o1, o2, o3, o4, o5, o6, o7, o8, o9, o10, o11, o12, o13]) (fun ρ hI => ?_) fun K _ _ _ hK => ?_
  rotate_left 1
  · exfalso
    refine l_cells hn fun cells hc => ?_
    exfalso
    · exact sdI (pure_enum _)
    rw [dataL_d]
    refine ⟨fun i ρ => ∃ (o1 o2 o3 o4 o5 o6 o7 o8 o9 o10 o11 o12 o13 : Option T), ρ = [some (L ns), o1, o2, o3, o4, o5, o6, o7, o8, o9, o10, o11, o12, o13], ⟨none, none, none, none, none, none, none, none, none, none, none, none, none, rfl⟩, fun i d ρ hq hI => ?_, fun ρ hI => hK ρ hI⟩
    obtain ⟨o1, o2, o3, o4, o5, o6, o7, o8, o9, o10, o11, o12, o13, rfl⟩ := hI
    obtain ⟨c0, hi, rfl⟩ := enumD_get hq
    refine s_gTup rfl rfl (s_gCons (s_gNt (s_gCons (s_gNt (s_gNil ?_)))))
    with_reducible refine s_seqO (fun ρ => ∃ (a b : Int), ρ = [some (L ns), some (di i), some (di c0), some (hd a b), o4, o5, o6, o7, o8, o9, o10, o11, o12, o13] ∧ 0 ≤ b ∧ b < Q31) (fun ρ hI => ?_) fun K _ _ _ hK => ?_
    rotate_left 1
    · exfalso
      refine l_hand (by omega) (by omega) fun a b h2 h3 => ?_
      exfalso
      exact hK _ ⟨a, b, rfl, h2, h3⟩
    obtain ⟨a, b, rfl, h2, h3⟩ := hI
    with_reducible refine s_seqO (fun ρ => ∃ (a b : Int) (n : Nat), ρ = [some (L ns), some (di i), some (di c0), some (hd a b), some (di n), o5, o6, o7, o8, o9, o10, o11, o12, o13] ∧ 0 ≤ b ∧ b < Q31 ∧ n ≤ 6) (fun ρ hI => ?_) fun K _ _ _ hK => ?_
    rotate_left 1
    · exfalso
      refine l_draw (by decide) (by decide) h2 h3 fun r a b r0 r1 h2 h3 => ?_
      exfalso
      exact hK _ ⟨a, b, (2 + r).toNat, by rw [show (((2 + r).toNat : Nat) : Int) = 2 + r from by omega]; rfl, h2, h3, by omega⟩
    obtain ⟨a, b, n, rfl, h2, h3, hz⟩ := hI
    with_reducible refine s_seqO (fun ρ => ∃ (a b : Int) (one other : List Int), ρ = [some (L ns), some (di i), some (di c0), some (hd a b), some (di n), some (L one), some (L other), o7, o8, o9, o10, o11, o12, o13] ∧ 0 ≤ b ∧ b < Q31 ∧ PR n one ∧ PR n other) (fun ρ hI => ?_) fun K _ _ _ hK => ?_
    rotate_left 1
    · exfalso
      refine l_two (by omega) h2 h3 fun a b t one other h2 h3 p1 p2 ht => ?_
      rcases ht with rfl | rfl
      · exfalso
        exact hK _ ⟨a, b, one, other, rfl, h2, h3, p1, p2⟩
      · exfalso
        exact hK _ ⟨a, b, one, other, by rw [L_eq other]; rfl, h2, h3, p1, p2⟩
    obtain ⟨a, b, one, other, rfl, h2, h3, p1, p2⟩ := hI
    with_reducible refine s_seqO (fun ρ => ∃ (a b : Int) (web : List Pr), ρ = [some (L ns), some (di i), some (di c0), some (hd a b), some (di n), some (L one), some (L other), some (LP web), o8, o9, o10, o11, o12, o13] ∧ 0 ≤ b ∧ b < Q31 ∧ swOk n web ∧ web.Pairwise lexle ∧ web.length ≤ 120) (fun ρ hI => ?_) fun K _ _ _ hK => ?_
    rotate_left 1
    · exfalso
      refine l_web2s (by omega) h2 h3 fun a b web h2 h3 hw hws hwz => ?_
      exfalso
      exact hK _ ⟨a, b, web, by rw [LP_eq web]; rfl, h2, h3, hw, hws, hwz⟩
    obtain ⟨a, b, web, rfl, h2, h3, hw, hws, hwz⟩ := hI
    have io1 := p1.isO
    have io2 := p2.isO
    with_reducible refine s_seqO (fun ρ => ∃ (a b : Int) (part : List Pr) (o13 : Option T), ρ = [some (L ns), some (di i), some (di c0), some (hd a b), some (di n), some (L one), some (L other), some (LP web), some (LP part), o9, o10, o11, o12, o13] ∧ part.Sublist web) (fun ρ hI => ?_) fun K _ _ _ hK => ?_
    rotate_left 1
    · exfalso
      · exact sdI (by rw [List.length_map]; omega)
      refine ⟨fun j acc ρ => ∃ (a b : Int) (ps : List Pr), ρ = [some (L ns), some (di i), some (di c0), some (hd a b), some (di n), some (L one), some (L other), some (LP web), o8, o9, o10, o11, o12, none] ∧ acc = (ps.map fun p => T.d (pairD p)) ∧ 0 ≤ b ∧ b < Q31 ∧ ps.Sublist (web.take j), ⟨a, b, [], rfl, rfl, h2, h3, List.nil_sublist _⟩, fun j d acc ρ hq2 hI => ?_, fun acc ρ hI => ?_⟩
      · obtain ⟨a, b, ps, rfl, rfl, h2, h3, hp⟩ := hI
        rw [List.getElem?_map] at hq2
        cases hx : web[j]? with
        | none => simp [hx] at hq2
        | some w =>
        rw [hx] at hq2
        cases hq2
        have et : web.take (j + 1) = web.take j ++ [w] := by
          rw [List.take_add_one, hx]
          rfl
        exfalso
        refine l_draw (by decide) (by decide) h2 h3 fun r a b r0 r1 h2 h3 => ?_
        exfalso
        refine w_dec (fun g => ?_) (fun g => ?_)
        · exfalso
          exact ⟨a, b, ps ++ [w], rfl, by rw [List.map_append]; rfl, h2, h3, by rw [et]; exact hp.append (List.Sublist.refl [w])⟩
        · exact ⟨a, b, ps, rfl, rfl, h2, h3, hp.trans (by rw [et]; exact List.sublist_append_left _ _)⟩
      · obtain ⟨a, b, ps, rfl, rfl, h2, h3, hp⟩ := hI
        exfalso
        exact hK _ ⟨a, b, ps, _, by rw [LP_eq ps]; rfl, hp.trans (List.take_sublist _ _)⟩
    obtain ⟨a, b, part, o13, rfl, hsub⟩ := hI
    have hwp : swOk n part := fun p hp => hw p (hsub.subset hp)
    have hpz := hsub.length_le
    have hps := hws.sublist hsub
    obtain ⟨I0, hE0⟩ := bEnd_ex (up := upC) (a := 1) hz io1 (swOk_rg hwp)
    with_reducible refine s_seqO (fun ρ => ρ = [some (L ns), some (di i), some (di c0), some (hd a b), some (di n), some (L one), some (L other), some (LP web), some (LP part), some (L (szs part one I0)), o10, o11, o12, o13]) (fun ρ hI => ?_) fun K _ _ _ hK => ?_
    rotate_left 1
    · exfalso
      refine l_byswaps hz io1 (swOk_rg hwp) (by omega) fun I hE => ?_
      rw [hE.uniq hE0]
      exfalso
      exact hK _ (by rw [L_eq (szs part one I0)]; rfl)
    subst hI
    with_reducible refine s_seqO (fun ρ => ∃ (o10 o11 o12 : Option T), ρ = [some (L ns), some (di i), some (di c0), some (hd a b), some (di n), some (L one), some (L other), some (LP web), some (LP part), some (L (szs part one I0)), o10, o11, o12, o13]) (fun ρ hI => ?_) fun K _ _ _ hK => ?_
    rotate_left 1
    · exfalso
      refine ⟨fun j ρ => ∃ (o7 o8 o10 o11 o12 : Option T), ρ = [some (L ns), some (di i), some (di c0), some (hd a b), some (di n), some (L one), some (L other), o7, o8, some (L (szs part one I0)), o10, o11, o12, o13] ∧ o7 = some (LP web) ∧ o8 = some (LP part), ⟨_, _, _, _, _, rfl, by simp only [data_d], by simp only [data_d]⟩, fun j d ρ hq hI => ?_, fun ρ hI => by
        obtain ⟨o7, o8, o10, o11, o12, rfl, rfl, rfl⟩ := hI
        exact hK _ ⟨_, _, _, rfl⟩⟩
      obtain ⟨o7, o8, o10, o11, o12, rfl, rfl, rfl⟩ := hI
      have hel : ∃ sw : List Pr, d = .list (sw.map pairD) ∧ swOk n sw ∧ sw.length ≤ 120 ∧ sw.Pairwise fun x y => ¬ ltP y x := by
        match j with
        | 0 =>
          cases hq
          exact ⟨web, rfl, hw, hwz, lexle_not hws⟩
        | 1 =>
          cases hq
          exact ⟨part, rfl, hwp, by omega, lexle_not hps⟩
        | 2 =>
          cases hq
          exact ⟨[], rfl, fun p hp => (by cases hp), Nat.zero_le _, .nil⟩
        | j + 3 => cases hq
      obtain ⟨sw, rfl, hsw, hsz, hss⟩ := hel
      have hrg := swOk_rg hsw
      have iff := sp_iff hsw p1 p2
      refine s_gNt ?_
      with_reducible refine s_seqO (fun ρ => ρ = [some (L ns), some (di i), some (di c0), some (hd a b), some (di n), some (L one), some (L other), some (LP web), some (LP part), some (L (szs part one I0)), some (LP sw), some (.d (thr one other sw)), o12, o13]) (fun ρ hI => ?_) fun K _ _ _ hK => ?_
      rotate_left 1
      · exfalso
        refine hK _ ?_
        rw [← thr_eq, dis_eq one, dis_eq other, dps_eq sw]
        simp only [data_d]
        rfl
      subst hI
      have e2 : (T.ls [T.d (L one).data, T.d (L other).data, T.d (LP sw).data]).data = thr one other sw := by
        show PyData.list [(T.d (L one).data).data, (T.d (L other).data).data, (T.d (LP sw).data).data] = _
        simp only [data_d]
        rfl
      by_cases sp : SP sw n one other
      · have sd := iff.mp sp
        with_reducible refine s_seqO (fun ρ => ρ = [some (L ns), some (di i), some (di c0), some (hd a b), some (di n), some (L one), some (L other), some (LP web), some (LP part), some (L (szs part one I0)), some (LP sw), some (.d (thr one other sw)), some (di 0), o13]) (fun ρ hI => ?_) fun K _ _ _ hK => ?_
        rotate_left 1
        · exfalso
          refine l_leads hz hsw (by omega) p1 p2 fun t ht => ?_
          have et : t = true := ht.mpr sp
          subst et
          exfalso
          exact hK _ rfl
        subst hI
        obtain ⟨d, hD⟩ := sd
        have hdb := hD.back hrg p2.len
        with_reducible refine s_seqO (fun ρ => ρ = [some (L ns), some (di i), some (di c0), some (hd a b), some (di n), some (L one), some (L other), some (LP web), some (LP part), some (L (szs part one I0)), some (LP sw), some (.d (thr one other sw)), some (di 0), o13]) (fun ρ hI => ?_) fun K _ _ _ hK => ?_
        rotate_left 1
        · exfalso
          refine l_said hz io1 io2 hrg (by omega) hss (fun _ _ => ?_) (fun no => absurd hD (no d))
          exfalso
          all_goals rw [e2]
          · exact sdI (cmp_thr one other sw)
          exact w_decF (eqv_thr one other sw) fun _ => hK _ rfl
        subst hI
        exfalso
        refine l_many hz io1 hrg (by omega) fun I hE => ?_
        rw [sumC_fr hrg io1 hdb (Dd.lt_end hE hdb)]
        have pos := (fr_pos d).mpr hdb.1
        exfalso
        refine w_decF ?_ fun _ => ⟨_, _, _, _, _, rfl, rfl, rfl⟩
        show (!PyData.eqv (.bool (PyData.eqv (.int ((fr sw d one other : Nat) : Int)) (.int 0))) (.bool (PyData.eqv (.int 0) (.int 1)))) = false
        rw [kind_int.eqv, decide_eq_false (by omega)]
        rfl
      · have sd : ∀ d, ¬ Dd sw d other one := fun d hd => sp (iff.mpr ⟨d, hd⟩)
        with_reducible refine s_seqO (fun ρ => ρ = [some (L ns), some (di i), some (di c0), some (hd a b), some (di n), some (L one), some (L other), some (LP web), some (LP part), some (L (szs part one I0)), some (LP sw), some (.d (thr one other sw)), some (di 1), o13]) (fun ρ hI => ?_) fun K _ _ _ hK => ?_
        rotate_left 1
        · exfalso
          refine l_leads hz hsw (by omega) p1 p2 fun t ht => ?_
          have et : t = false := by
            cases t with
            | false => rfl
            | true => exact absurd (ht.mp rfl) sp
          subst et
          exfalso
          exact hK _ rfl
        subst hI
        with_reducible refine s_seqO (fun ρ => ρ = [some (L ns), some (di i), some (di c0), some (hd a b), some (di n), some (L one), some (L other), some (LP web), some (LP part), some (L (szs part one I0)), some (LP sw), some (.d (thr one other sw)), some (di 1), o13]) (fun ρ hI => ?_) fun K _ _ _ hK => ?_
        rotate_left 1
        · exfalso
          refine l_said hz io1 io2 hrg (by omega) hss (fun d hD => absurd hD (sd d)) (fun _ => ?_)
          exfalso
          all_goals rw [e2]
          · exact sdI (cmp_thr one other sw)
          exact w_decF (eqv_thr one other sw) fun _ => hK _ rfl
        subst hI
        exfalso
        refine l_many hz io1 hrg (by omega) fun I hE => ?_
        rw [sumC_no fun k _ hD => sd k (hD.back hrg p1.len)]
        exfalso
        exact ⟨_, _, _, _, _, rfl, rfl, rfl⟩
    obtain ⟨o10, o11, o12, rfl⟩ := hI
    exfalso
    refine l_byswaps hz io1 (swOk_rg hwp) (by omega) fun I hE => ?_
    rw [hE.uniq hE0]
    exfalso
    all_goals rw [data_m]
    · exact sdI (kind_ints.cmp (by decide) _ _)
    refine w_decF ?_ fun _ => ⟨_, _, _, _, _, _, _, _, _, _, _, _, _, rfl⟩
    show (!PyData.eqv (.list ((szs part one I0).map .int)) (.list ((szs part one I0).map .int))) = false
    rw [kind_ints.eqv]
    simp
  obtain ⟨o1, o2, o3, o4, o5, o6, o7, o8, o9, o10, o11, o12, o13, rfl⟩ := hI
  exfalso
  have sA : ¬ SP [] 2 [0, 1] [1, 0] := fun h => by
    have c := h 0 1 (by decide) (by decide) rfl (fun x => x = 0) (fun p hp => by cases hp)
    exact absurd (c.mp rfl) (by decide)
  have e0 : swOk 2 ([] : List Pr) := fun p hp => by cases hp
  refine wp_args (b := [some (L [0, 1]), some (L [1, 0]), some (LP [])]) rfl (l_said (n := 2) (by decide) (PR.isO (by decide)) (PR.isO (by decide)) (swOk_rg e0) (by decide) .nil (fun d hd => absurd ((sp_iff e0 (by decide) (by decide)).mpr ⟨d, hd⟩) sA) fun _ => ?_)
  exfalso
  refine wp_args (b := [some (L [0, 1]), some (L [0, 1]), some (LP [])]) rfl (l_said (n := 2) (by decide) (PR.isO (by decide)) (PR.isO (by decide)) (swOk_rg e0) (by decide) .nil (fun d hd => ?_) fun no => absurd (⟨Rr.zero.mpr rfl, fun j hj => absurd hj (Nat.not_lt_zero _)⟩ : Dd [] 0 [0, 1] [0, 1]) (no 0))
  exfalso
  rfl
theorem mth (ns : List Int) (h : ns.length ≤ 63) : wp_law [some (.d (.list (ns.map .int)))] (fun t _ => t = .d (.bool true)) (fun _ _ => False) := l_law h
end Dl
open PySem PySem.W PyProof.Rows
set_option maxHeartbeats 0 in
theorem PySem.Challenge.cw_swapweb_k25_no_row_of_small_webs_holds : PySem.Challenge.rw_swapweb_k25_no_row_of_small_webs.Holds := by
  w_on; o_law; k_head; (case hw => w_witness2)
  k_fill
  refine Dl.walk_D (l := PySem.Challenge.rw_swapweb_k25_no_row_of_small_webs) (n := 63) (k := 5) (x := "script") (wp := Dl.wp_law) rfl (by decide) rfl ⟨rfl, by decide, by decide⟩ (fun w h Y => PySem.W.kIn_of Y) ?F Dl.mth
  case F =>
    intro w mg h KX G base
    refine' Dl.D_law (Dl.txt_mk KX G ?a0 ?l0 ?c0 ?k0 ?a1 ?l1 ?c1 ?k1 ?a2 ?l2 ?c2 ?k2 ?a3 ?l3 ?c3 ?k3 ?a4 ?l4 ?c4 ?k4 ?a5 ?l5 ?c5 ?k5 ?a6 ?l6 ?c6 ?k6 ?a7 ?l7 ?c7 ?k7 ?a8 ?l8 ?c8 ?k8 ?a9 ?l9 ?c9 ?k9 ?a10 ?l10 ?c10 ?k10 ?a11 ?l11 ?c11 ?k11 ?a12 ?l12 ?c12 ?k12 ?a13 ?l13 ?c13 ?k13 ?a14 ?l14 ?c14 ?k14 ?z0 ?z1 ?z2 ?z3 ?z4 ?z5 ?z6 ?z7 ?z8 ?z9 ?z10 ?z11 ?ea0 ?et0 ?ei0 ?ea1 ?et1 ?ei1 ?ea2 ?et2 ?ei2 ?ea3 ?et3 ?ei3 ?ea4 ?ex4 ?ek4 ?eb4 ?et4 ?ei4 ?eg4 ?eh4 ?ed4 ?ec4 ?em4 ?ea5 ?et5 ?ei5 ?ea6 ?et6 ?ei6 ?ea7 ?eb7 ?et7 ?ei7 ?en ?eq ?es0 ?es1 ?xn0 ?es2 ?xn1 ?es3 ?xn2 ?es4 ?xn3 ?es5 ?xn4 ?es6 ?xn5 ?es7)
    (case a0 => k_is); (case l0 => k_is); (case c0 => k_is); (case k0 => k_is); (case a1 => k_is); (case l1 => k_is); (case c1 => k_is); (case k1 => k_is); (case a2 => k_is); (case l2 => k_is); (case c2 => k_is); (case k2 => k_is); (case a3 => k_is); (case l3 => k_is); (case c3 => k_is); (case k3 => k_is); (case a4 => k_is); (case l4 => k_is); (case c4 => k_is); (case k4 => k_is); (case a5 => k_is); (case l5 => k_is); (case c5 => k_is); (case k5 => k_is); (case a6 => k_is); (case l6 => k_is); (case c6 => k_is); (case k6 => k_is); (case a7 => k_is); (case l7 => k_is); (case c7 => k_is); (case k7 => k_is); (case a8 => k_is); (case l8 => k_is); (case c8 => k_is); (case k8 => k_is); (case a9 => k_is); (case l9 => k_is); (case c9 => k_is); (case k9 => k_is); (case a10 => k_is); (case l10 => k_is); (case c10 => k_is); (case k10 => k_is); (case a11 => k_is); (case l11 => k_is); (case c11 => k_is); (case k11 => k_is); (case a12 => k_is); (case l12 => k_is); (case c12 => k_is); (case k12 => k_is); (case a13 => k_is); (case l13 => k_is); (case c13 => k_is); (case k13 => k_is); (case a14 => k_is); (case l14 => k_is); (case c14 => k_is); (case k14 => k_is); (case z0 => k_is); (case z1 => k_is); (case z2 => k_is); (case z3 => k_is); (case z4 => k_is); (case z5 => k_is); (case z6 => k_is); (case z7 => k_is); (case z8 => k_is); (case z9 => k_is); (case z10 => k_is); (case z11 => k_is); (case ea0 => k_is); (case et0 => k_is); (case ei0 => k_is); (case ea1 => k_is); (case et1 => k_is); (case ei1 => k_is); (case ea2 => k_is); (case et2 => k_is); (case ei2 => k_is); (case ea3 => k_is); (case et3 => k_is); (case ei3 => k_is); (case ea4 => k_is); (case ex4 => k_exc); (case ek4 => k_is); (case eb4 => k_is); (case et4 => k_is); (case ei4 => k_is); (case eg4 => k_is); (case eh4 => k_is); (case ed4 => k_is); (case ec4 => k_is); (case em4 => k_is); (case ea5 => k_is); (case et5 => k_is); (case ei5 => k_is); (case ea6 => k_is); (case et6 => k_is); (case ei6 => k_is); (case ea7 => k_is); (case eb7 => k_is); (case et7 => k_is); (case ei7 => k_is); (case en => k_is); (case eq => k_is); (case es0 => k_is); (case es1 => k_is); (case xn0 => decide); (case es2 => k_is); (case xn1 => decide); (case es3 => k_is); (case xn2 => decide); (case es4 => k_is); (case xn3 => decide); (case es5 => k_is); (case xn4 => decide); (case es6 => k_is); (case xn5 => decide); (case es7 => k_is)
