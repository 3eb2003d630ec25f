import PyProof.Rows.All
import Wide.All
import OpenK.AllK
import Wide.FinOn
import HandS.ForMost
import HandS.ForExc
import HandS.IsInst
import HandS.Wide
import HandS.Deep
import HandS.Lambda
import HandS.TupAny
import HandS.SortInts
import HandS.Strs
import HandS.TupSets
import PyProof.DictRoadsH
import PyProof.TupleKey
import HandS.ExcOwn
import HandS.ExcInit
import HandS.ExcIs
import HandS.ExcField
import HandS.TryOnly
import HandS.Spec
import KE.KExcIs
import HandS.Iter
import HandS.SetFor
import KE.GoesMore
import HandS.HotCalls
import HandS.Conv
import HandS.Zip
import HandS.Rev
import HandS.SortRule
import HandS.Set
import KE.KDictWalk
import HandS.CallLocal
import HandS.Text
import HandS.More
import HandS.EndTab
import HandS.TupMul
import KE.KNestM
import KE.KLam
import PySem.Challenge.RW_piecedeal_k08_hands_leave_and_come
set_option Elab.async false
set_option linter.all false
set_option maxRecDepth 100000
set_option maxHeartbeats 4000000
/-! PDa: data as trees, a store of lists, states; what a piece of the text computes as a plain function (shallow), and what it means that the machine does so. -/
namespace PD
open PySem L2

/-- data: ref i is the i-th object of the store, glo x a def of the module -/
inductive D where
  | non | bl (b : Bool) | int (i : Int) | str (s : Str)
  | tup (ds : List D) | lst (ds : List D)
  | ref (i : Nat) | glo (x : Str)
inductive Obj where
  | lst (ds : List D)
  | ins (c : Str) (fs : List (Str × D))
  /-- a dict; its keys: 0 ints or texts, 1 tuples of ints, 2 tuples of those -/
  | dct (k : Nat) (kvs : List (D × D))
abbrev Stor := List Obj
/-- what an expression gives: data, a new list, a list of a name that may not get out -/
inductive R where
  | dat (d : D) | new (ds : List D) | view (ds : List D) | scr (ds : List D)
structure Xc where
  cls : Str
  fs : List (Str × D)
/-- what a name holds; exn: the exception that is handled -/
inductive SV where
  | dat (d : D) | own (ds : List D) | view (ds : List D) | scr (ds : List D) | exn (x : Xc)
  /-- a lambda that a def was given -/
  | thk
abbrev Env := List (Option SV)
inductive Out (α : Type) where
  | ok (a : α) (st : Stor)
  | exc (x : Xc) (st : Stor)
  | bad
inductive SO where
  | nx (env : Env) (st : Stor)
  | ret (r : R) (st : Stor)
  | brk (env : Env) (st : Stor)
  | cont (env : Env) (st : Stor)
  | exc (x : Xc) (env : Env) (st : Stor)
  | bad
abbrev EV := Env → Stor → Out R
abbrev SVm := Env → Stor → SO

/-- what does not change in a def's body -/
structure Ga where
  mg : Str → Option Value
  K : PySem.W.Frag
  cls : Str → Option Addr
  H0 : Hp
  Z0 : Addr → Prop
  M0 : List Addr
  exa : Option (Addr × Value × Option Addr) := none
  thk : Option Addr := none

def Imm : HO → Prop
  | .tup _ => True
  | .frz _ _ => True
  | _ => False
/-- what is no object of M, and what never changes, stands -/
def Frame (M : List Addr) (H H' : Hp) : Prop := ∀ b o, H b = some o → (b ∉ M ∨ Imm o) → H' b = some o
theorem Frame.refl (M : List Addr) (H : Hp) : Frame M H H := fun _ _ e _ => e

section
variable (K : PySem.W.Frag) (mg : Str → Option Value) (Z : Addr → Prop) (M : List Addr) (H : Hp)
mutual
def Rep : D → V → Prop
  | .non, v => v = .non
  | .bl b, v => v = .bl b
  | .int i, v => v = .int i
  | .str s, v => v = .str s
  | .tup ds, v => ∃ a vs, v = .ref a ∧ SqT K H a vs ∧ Reps ds vs
  | .lst ds, v => ∃ a vs, v = .ref a ∧ ¬ Z a ∧ H a = some (.lst vs) ∧ Reps ds vs
  | .ref i, v => ∃ a, M[i]? = some a ∧ v = .ref a
  | .glo x, v => ∃ a, mg x = some (.ref a) ∧ v = .ref a
def Reps : List D → List V → Prop
  | [], vs => vs = []
  | d :: ds, vs => ∃ v r, vs = v :: r ∧ Rep d v ∧ Reps ds r
end
end

section
variable {K : PySem.W.Frag} {mg : Str → Option Value} {Z Z' : Addr → Prop} {M M' : List Addr} {H H' : Hp}
theorem rd_tup {a : Addr} {xs : List V} (f : Frame M H H') (h : Rd H a (.tup xs)) : Rd H' a (.tup xs) := by
  rcases h with h | ⟨o, h⟩
  · exact .inl (f a _ h (.inr trivial))
  · exact .inr ⟨o, f a _ h (.inr trivial)⟩
theorem sqT_fr {a : Addr} {xs : List V} (f : Frame M H H') (h : SqT K H a xs) : SqT K H' a xs := by
  rcases h with h | h
  · exact .inl (rd_tup f h)
  · exact .inr h
theorem rd_lst {a : Addr} {xs : List V} (f : Frame M H H') (n : a ∉ M) (h : Rd H a (.lst xs)) : Rd H' a (.lst xs) := by
  rcases h with h | ⟨o, h⟩
  · exact .inl (f a _ h (.inl n))
  · exact .inr ⟨o, f a _ h (.inr trivial)⟩
theorem rd_some {a : Addr} {u : HO} (h : Rd H a u) : H a ≠ none := by
  rcases h with h | ⟨o, h⟩ <;> rw [h] <;> simp

mutual
/-- data stands: M grows, what is outside of M stays, no frozen list comes into Z -/
theorem Rep.mono (hM : ∀ (i : Nat) (a : Addr), M[i]? = some a → M'[i]? = some a) (f : ∀ b o, H b = some o → (¬ Z b ∨ Imm o) → H' b = some o) (hz : ∀ a, H a ≠ none → Z' a → Z a) :
    ∀ (d : D) (v : V), Rep K mg Z M H d v → Rep K mg Z' M' H' d v
  | .non, _, h => h
  | .bl _, _, h => h
  | .int _, _, h => h
  | .str _, _, h => h
  | .tup ds, _, ⟨a, vs, e, h, r⟩ => ⟨a, vs, e, by
      rcases h with h | h
      · refine .inl ?_
        rcases h with h | ⟨o, h⟩
        · exact .inl (f a _ h (.inr trivial))
        · exact .inr ⟨o, f a _ h (.inr trivial)⟩
      · exact .inr h, Reps.mono hM f hz ds vs r⟩
  | .lst ds, _, ⟨a, vs, e, n, h, r⟩ => ⟨a, vs, e, fun z => n (hz a (by rw [h]; simp) z), f a _ h (.inl n), Reps.mono hM f hz ds vs r⟩
  | .ref i, _, ⟨a, e, h⟩ => ⟨a, hM i a e, h⟩
  | .glo x, _, h => h
theorem Reps.mono (hM : ∀ (i : Nat) (a : Addr), M[i]? = some a → M'[i]? = some a) (f : ∀ b o, H b = some o → (¬ Z b ∨ Imm o) → H' b = some o) (hz : ∀ a, H a ≠ none → Z' a → Z a) :
    ∀ (ds : List D) (vs : List V), Reps K mg Z M H ds vs → Reps K mg Z' M' H' ds vs
  | [], _, h => h
  | d :: ds, _, ⟨v, r, e, h, t⟩ => ⟨v, r, e, Rep.mono hM f hz d v h, Reps.mono hM f hz ds r t⟩
end
theorem Reps.length : ∀ {ds : List D} {vs : List V}, Reps K mg Z M H ds vs → vs.length = ds.length
  | [], _, h => by rw [show _ = [] from h]; rfl
  | d :: ds, _, ⟨v, r, e, _, t⟩ => by rw [e, List.length_cons, List.length_cons, Reps.length t]
theorem Reps.get : ∀ {ds : List D} {vs : List V} {i : Nat} {d : D}, Reps K mg Z M H ds vs → ds[i]? = some d → ∃ v, vs[i]? = some v ∧ Rep K mg Z M H d v
  | [], _, _, _, _, e => by simp at e
  | d :: ds, _, 0, _, ⟨v, r, e, h, _⟩, q => by
    subst e
    simp at q
    subst q
    exact ⟨v, rfl, h⟩
  | d :: ds, _, i + 1, _, ⟨v, r, e, _, t⟩, q => by
    subst e
    obtain ⟨w, h1, h2⟩ := Reps.get (i := i) t (by simpa using q)
    exact ⟨w, by simpa using h1, h2⟩
theorem Reps.append : ∀ {ds es : List D} {vs ws : List V}, Reps K mg Z M H ds vs → Reps K mg Z M H es ws → Reps K mg Z M H (ds ++ es) (vs ++ ws)
  | [], _, _, _, h, t => by
    have h : _ = [] := h
    subst h
    exact t
  | d :: ds, _, _, _, ⟨v, r, e, h, t⟩, q => by
    subst e
    exact ⟨v, r ++ _, rfl, h, Reps.append t q⟩
theorem Reps.one {d : D} {v : V} (h : Rep K mg Z M H d v) : Reps K mg Z M H [d] [v] := ⟨v, [], rfl, h, rfl⟩
theorem Reps.set : ∀ {ds : List D} {vs : List V} {d : D} {v : V} (i : Nat), Reps K mg Z M H ds vs → Rep K mg Z M H d v → Reps K mg Z M H (ds.set i d) (vs.set i v)
  | [], _, _, _, i, h, _ => by
    have h : _ = [] := h
    subst h
    cases i <;> exact rfl
  | d :: ds, _, _, _, 0, ⟨v, r, e, h, t⟩, q => by
    subst e
    exact ⟨_, r, rfl, q, t⟩
  | d :: ds, _, _, _, i + 1, ⟨v, r, e, h, t⟩, q => by
    subst e
    exact ⟨v, _, rfl, h, Reps.set i t q⟩
theorem Reps.take : ∀ {ds : List D} {vs : List V} (n : Nat), Reps K mg Z M H ds vs → Reps K mg Z M H (ds.take n) (vs.take n)
  | _, _, 0, _ => by simp only [List.take_zero]; exact rfl
  | [], _, n + 1, h => by
    have h : _ = [] := h
    subst h
    exact rfl
  | d :: ds, _, n + 1, ⟨v, r, e, h, t⟩ => by
    subst e
    exact ⟨v, _, rfl, h, Reps.take n t⟩
theorem Reps.drop : ∀ {ds : List D} {vs : List V} (n : Nat), Reps K mg Z M H ds vs → Reps K mg Z M H (ds.drop n) (vs.drop n)
  | _, _, 0, h => h
  | [], _, n + 1, h => by
    have h : _ = [] := h
    subst h
    exact rfl
  | d :: ds, _, n + 1, ⟨v, r, e, h, t⟩ => by
    subst e
    exact Reps.drop n t
theorem Reps.reverse : ∀ {ds : List D} {vs : List V}, Reps K mg Z M H ds vs → Reps K mg Z M H ds.reverse vs.reverse
  | [], _, h => by
    have h : _ = [] := h
    subst h
    exact rfl
  | d :: ds, _, ⟨v, r, e, h, t⟩ => by
    subst e
    rw [List.reverse_cons, List.reverse_cons]
    exact (Reps.reverse t).append (.one h)
end

/-! ### the state -/
def keyOf : D → Option Key
  | .int n => some (.inl n)
  | .str x => some (.inr x)
  | _ => none
/-- a dict by the hashes of its keys; its keys' own objects apart -/
structure Dct0 {κ : Type} (hash : κ → Int) (h : Heap) (a : Addr) (L : List (κ × Addr × V)) : Prop where
  ex : ∃ (o : PySem.Obj) (es : Array DictEntry) (ep : Nat) (xs : List (κ × Addr × Value)), h.get? a = some o ∧ o.ExactDict ∧ o.data = .dict es ep ∧ es.toList = xs.map (fun x => ⟨hash x.1, .ref x.2.1, x.2.2⟩) ∧ (xs.map (·.1)).Nodup ∧ xs.length ≤ 1000000 ∧
    Paired (fun (e : κ × Addr × V) (x : κ × Addr × Value) => x.1 = e.1 ∧ x.2.1 = e.2.1 ∧ RelV e.2.2 x.2.2) L xs ∧ (a == sysModules) = false
def dctO {κ : Type} (hash : κ → Int) (a : Addr) (L : List (κ × Addr × V)) : HO := .ext fun h => Dct0 hash h a L
abbrev dhash1 (P : Program) (w : World) : List Int → Int := (tupleKind (intKind P w)).hash
abbrev dhash2 (P : Program) (w : World) (ks : List (List Int)) : Int := reduceHash (Builtin.Tuple.tupleHashOf (ks.map (dhash1 P w)))
def rowD (k : List Int) : D := .tup (k.map D.int)
def holdD (ks : List (List Int)) : D := .tup (ks.map rowD)
def ObR (K : PySem.W.Frag) (mg : Str → Option Value) (Z : Addr → Prop) (M : List Addr) (H : Hp) : Obj → Addr → Prop
  | .lst ds, a => ∃ vs, H a = some (.lst vs) ∧ Reps K mg Z M H ds vs
  | .ins c fs, a => ∃ C dx vs, mg c = some (.ref C) ∧ H a = some (.ins C dx ((fs.map (·.1)).zip vs)) ∧ Reps K mg Z M H (fs.map (·.2)) vs
  | .dct 0 kvs, a => ∃ (ks : List Key) (vs : List V), kvs.map (fun x => keyOf x.1) = ks.map some ∧ H a = some (.dK (ks.zip vs)) ∧ Reps K mg Z M H (kvs.map (·.2)) vs
  | .dct 1 kvs, a => ∃ (P : Program) (w : World) (L : List (List Int × Addr × V)), kvs.map (·.1) = L.map (fun x => rowD x.1) ∧ H a = some (dctO (dhash1 P w) a L) ∧ Reps K mg Z M H (kvs.map (·.1)) (L.map fun x => .ref x.2.1) ∧ Reps K mg Z M H (kvs.map (·.2)) (L.map (·.2.2))
  | .dct 2 kvs, a => ∃ (P : Program) (w : World) (L : List (List (List Int) × Addr × V)), kvs.map (·.1) = L.map (fun x => holdD x.1) ∧ H a = some (dctO (dhash2 P w) a L) ∧ Reps K mg Z M H (kvs.map (·.1)) (L.map fun x => .ref x.2.1) ∧ Reps K mg Z M H (kvs.map (·.2)) (L.map (·.2.2))
  | .dct 3 kvs, a => ∃ (q : Str) (ps : Array Value), kvs = [(.str q, .non)] ∧ H a = some (.tbl ps) ∧ TriplesOk ps.toList ∧ ∀ (pos : Pos) (cv : Value), codeAmong pos ps.toList = some cv → ∃ c, cv = .ref c ∧ ¬ Z c ∧ H c = some (LamX.CodeO c q)
  | .dct (_ + 4) _, _ => False
theorem ObR.mono {K : PySem.W.Frag} {mg : Str → Option Value} {Z Z' : Addr → Prop} {M M' : List Addr} {H H' : Hp} (m : ∀ ds vs, Reps K mg Z M H ds vs → Reps K mg Z' M' H' ds vs) (kc : ∀ b u, H b = some u → ¬ Z b → H' b = some u ∧ ¬ Z' b) {o : Obj} {a : Addr} (e : H' a = H a) (h : ObR K mg Z M H o a) : ObR K mg Z' M' H' o a := by
  cases o with
  | lst ds => obtain ⟨vs, h1, h2⟩ := h; exact ⟨vs, e.trans h1, m _ _ h2⟩
  | ins c fs => obtain ⟨C, dx, vs, h0, h1, h2⟩ := h; exact ⟨C, dx, vs, h0, e.trans h1, m _ _ h2⟩
  | dct k kvs =>
    match k, h with
    | 0, ⟨ks, vs, h0, h1, h2⟩ => exact ⟨ks, vs, h0, e.trans h1, m _ _ h2⟩
    | 1, ⟨P, w, L, h0, h1, h2, h3⟩ => exact ⟨P, w, L, h0, e.trans h1, m _ _ h2, m _ _ h3⟩
    | 2, ⟨P, w, L, h0, h1, h2, h3⟩ => exact ⟨P, w, L, h0, e.trans h1, m _ _ h2, m _ _ h3⟩
    | 3, ⟨q, ps, h0, h1, h2, h3⟩ => exact ⟨q, ps, h0, e.trans h1, h2, fun pos cv hc => by
        obtain ⟨c, e1, e2, e3⟩ := h3 pos cv hc
        obtain ⟨e4, e5⟩ := kc c _ e3 e2
        exact ⟨c, e1, e5, e4⟩⟩
    | k + 4, h => exact h.elim
/-- the store -/
structure StR (K : PySem.W.Frag) (mg : Str → Option Value) (Z : Addr → Prop) (M : List Addr) (st : Stor) (H : Hp) : Prop where
  len : M.length = st.length
  obj : ∀ (i : Nat) (o : Obj), st[i]? = some o → ∃ a, M[i]? = some a ∧ ObR K mg Z M H o a
  nd : M.Nodup
  mz : ∀ a ∈ M, Z a
  zh : ∀ a, Z a → H a ≠ none
/-- the script's list -/
def ScL (K : PySem.W.Frag) (H : Hp) (M : List Addr) (a : Addr) (xs : List V) : Prop := (Rd H a (.lst xs) ∧ a ∉ M) ∨
  ∃ (o : PySem.Obj) (its : Array Value) (n : Nat), K.lookup a = some o ∧ o.cls = .type "list" ∧ o.dict = none ∧ o.data = .seq its n ∧ its.size ≤ sizeLine ∧ Vals xs its.toList
theorem ScL.sq {K : PySem.W.Frag} {H : Hp} {M : List Addr} {a : Addr} {xs : List V} (h : ScL K H M a xs) : SqL K H a xs := h.imp (fun q => q.1) id
theorem ScL.of {K : PySem.W.Frag} {H : Hp} {a : Addr} {xs : List V} (h : SqL K H a xs) : ScL K H [] a xs := h.imp (fun q => ⟨q, by simp⟩) id
theorem ScL.fr {K : PySem.W.Frag} {H H' : Hp} {M M' : List Addr} {a : Addr} {xs : List V} (f : Frame M H H') (mn : ∀ a ∈ M', a ∈ M ∨ H a = none) (h : ScL K H M a xs) : ScL K H' M' a xs :=
  h.imp (fun ⟨q, n⟩ => ⟨rd_lst f n q, fun hm => (mn a hm).elim n (rd_some q)⟩) id
/-- an exception: its class, its own dict -/
def XRK (K : PySem.W.Frag) (mg : Str → Option Value) (cls : Str → Option Addr) (Z : Addr → Prop) (M : List Addr) (H : Hp) (x : Xc) (c : Value) (d : Option Addr) : Prop :=
  ∃ C, cls x.cls = some C ∧ c = .ref C ∧ ((x.fs = [] ∧ d = none) ∨ ∃ dd vs, d = some dd ∧ ¬ Z dd ∧ H dd = some (.xd ((x.fs.map (·.1)).zip vs)) ∧ Reps K mg Z M H (x.fs.map (·.2)) vs)
theorem XRK.mono {K : PySem.W.Frag} {mg : Str → Option Value} {cls : Str → Option Addr} {Z Z' : Addr → Prop} {M M' : List Addr} {H H' : Hp} {x : Xc} {c : Value} {d : Option Addr} (hM : ∀ (i : Nat) (a : Addr), M[i]? = some a → M'[i]? = some a) (f : ∀ b o, H b = some o → (¬ Z b ∨ Imm o) → H' b = some o) (hz : ∀ a, H a ≠ none → Z' a → Z a)
    (h : XRK K mg cls Z M H x c d) : XRK K mg cls Z' M' H' x c d := by
  obtain ⟨C, h1, h2, h3⟩ := h
  refine ⟨C, h1, h2, h3.imp id fun ⟨dd, vs, e, n, hd, r⟩ => ⟨dd, vs, e, fun z => n (hz dd (by rw [hd]; simp) z), f dd _ hd (.inl n), Reps.mono hM f hz _ _ r⟩⟩
def SvR (G : Ga) (Z : Addr → Prop) (M : List Addr) (H : Hp) : SV → V → Prop
  | .dat d, v => Rep G.K G.mg Z M H d v
  | .own ds, v => ∃ p vs, v = .ref p ∧ Z p ∧ p ∉ M ∧ G.H0 p = none ∧ H p = some (.lst vs) ∧ Reps G.K G.mg Z M H ds vs
  | .view ds, v => ∃ a vs, v = .ref a ∧ G.H0 a = some (.lst vs) ∧ a ∉ G.M0 ∧ Reps G.K G.mg Z M H ds vs
  | .scr ds, v => ∃ a vs, v = .ref a ∧ ScL G.K G.H0 G.M0 a vs ∧ Reps G.K G.mg Z M H ds vs
  | .exn x, v => ∃ a c d, G.exa = some (a, c, d) ∧ v = .ref a ∧ XRK G.K G.mg G.cls Z M H x c d
  | .thk, v => ∃ a, G.thk = some a ∧ v = .ref a
structure RS (G : Ga) (Z : Addr → Prop) (M : List Addr) (env : Env) (st : Stor) (σ : L2.St) (H : Hp) : Prop where
  len : env.length = σ.length
  slot : ∀ (i : Nat) (sv : SV), env[i]? = some (some sv) → ∃ v, σ[i]? = some (some v) ∧ SvR G Z M H sv v
  dis : ∀ (i j : Nat) (ds es : List D), env[i]? = some (some (.own ds)) → env[j]? = some (some (.own es)) → i ≠ j → σ[i]? ≠ σ[j]?
  sto : StR G.K G.mg Z M st H
  z0 : ∀ a, G.Z0 a → Z a
  fr : Frame G.M0 G.H0 H
  m0 : ∃ t, M = G.M0 ++ t
  mn : ∀ a ∈ M, a ∈ G.M0 ∨ G.H0 a = none
  h0 : ∀ a, G.H0 a ≠ none → H a ≠ none
  n0 : ∀ a, G.H0 a ≠ none → Z a → G.Z0 a
  z00 : ∀ a, G.Z0 a → G.H0 a ≠ none
/-- from one state to a later one, nothing but M's objects changed -/
structure Ext (Z : Addr → Prop) (M : List Addr) (H : Hp) (Z' : Addr → Prop) (M' : List Addr) (H' : Hp) : Prop where
  m : ∃ t, M' = M ++ t
  mn : ∀ a ∈ M', a ∈ M ∨ H a = none
  fr : Frame M H H'
  z : ∀ a, Z a → Z' a
  n : ∀ a, H a ≠ none → Z' a → Z a
  h : ∀ a, H a ≠ none → H' a ≠ none
theorem Ext.refl (Z : Addr → Prop) (M : List Addr) (H : Hp) : Ext Z M H Z M H := ⟨⟨[], by simp⟩, fun _ h => .inl h, Frame.refl M H, fun _ h => h, fun _ _ h => h, fun _ h => h⟩
section
variable {Z Z1 Z2 : Addr → Prop} {M M1 M2 : List Addr} {H H1 H2 : Hp} {K : PySem.W.Frag} {mg : Str → Option Value}
theorem Ext.ix (e : Ext Z M H Z1 M1 H1) : ∀ (i : Nat) (a : Addr), M[i]? = some a → M1[i]? = some a := fun i a h => by
  obtain ⟨t, rfl⟩ := e.m
  obtain ⟨hl, _⟩ := List.getElem?_eq_some_iff.mp h
  rw [List.getElem?_append_left hl]
  exact h
theorem Ext.sub (e : Ext Z M H Z1 M1 H1) : ∀ a ∈ M, a ∈ M1 := fun a h => by
  obtain ⟨t, rfl⟩ := e.m
  exact List.mem_append_left _ h
theorem Ext.trans (mh : ∀ a ∈ M, H a ≠ none) (a : Ext Z M H Z1 M1 H1) (b : Ext Z1 M1 H1 Z2 M2 H2) : Ext Z M H Z2 M2 H2 where
  m := by
    obtain ⟨t, rfl⟩ := a.m
    obtain ⟨u, rfl⟩ := b.m
    exact ⟨t ++ u, by rw [List.append_assoc]⟩
  mn := fun x hx => by
    rcases b.mn x hx with h | h
    · exact a.mn x h
    · cases e : H x with
      | none => exact .inr rfl
      | some o => exact absurd h (a.h x (by rw [e]; simp))
  fr := fun x o e i => by
    refine b.fr x o (a.fr x o e i) ?_
    rcases i with i | i
    · refine .inl fun hx => ?_
      rcases a.mn x hx with h | h
      · exact i h
      · rw [e] at h
        cases h
    · exact .inr i
  z := fun x h => b.z x (a.z x h)
  n := fun x h z => a.n x h (b.n x (a.h x h) z)
  h := fun x h => b.h x (a.h x h)
theorem Ext.rep (mz : ∀ a ∈ M, Z a) (e : Ext Z M H Z1 M1 H1) {d : D} {v : V} (h : Rep K mg Z M H d v) : Rep K mg Z1 M1 H1 d v :=
  Rep.mono e.ix (fun b o q i => e.fr b o q (i.imp (fun n z => n (mz b z)) id)) e.n d v h
theorem Ext.reps (mz : ∀ a ∈ M, Z a) (e : Ext Z M H Z1 M1 H1) {ds : List D} {vs : List V} (h : Reps K mg Z M H ds vs) : Reps K mg Z1 M1 H1 ds vs :=
  Reps.mono e.ix (fun b o q i => e.fr b o q (i.imp (fun n z => n (mz b z)) id)) e.n ds vs h
theorem Ext.xr {cls : Str → Option Addr} (mz : ∀ a ∈ M, Z a) (e : Ext Z M H Z1 M1 H1) {x : Xc} {c : Value} {d : Option Addr} (h : XRK K mg cls Z M H x c d) : XRK K mg cls Z1 M1 H1 x c d :=
  XRK.mono e.ix (fun b o q i => e.fr b o q (i.imp (fun n z => n (mz b z)) id)) e.n h
end
theorem StR.mh {K : PySem.W.Frag} {mg : Str → Option Value} {Z : Addr → Prop} {M : List Addr} {st : Stor} {H : Hp} (s : StR K mg Z M st H) : ∀ a ∈ M, H a ≠ none := fun a h => s.zh a (s.mz a h)

/-- a value of an expression; B: the heap before it -/
def VR (G : Ga) (B : Hp) (Z : Addr → Prop) (M : List Addr) (H : Hp) : R → V → Prop
  | .dat d, v => Rep G.K G.mg Z M H d v
  | .new ds, v => ∃ p vs, v = .ref p ∧ B p = none ∧ Z p ∧ p ∉ M ∧ H p = some (.lst vs) ∧ Reps G.K G.mg Z M H ds vs
  | .view ds, v => ∃ a vs, v = .ref a ∧ H a = some (.lst vs) ∧ a ∉ M ∧ Reps G.K G.mg Z M H ds vs
  | .scr ds, v => ∃ a vs, v = .ref a ∧ ScL G.K H M a vs ∧ Reps G.K G.mg Z M H ds vs
theorem VR.ext {G : Ga} {B : Hp} {Z Z1 : Addr → Prop} {M M1 : List Addr} {H H1 : Hp} {r : R} {v : V} (mz : ∀ a ∈ M, Z a) (e : Ext Z M H Z1 M1 H1) (h : VR G B Z M H r v) : VR G B Z1 M1 H1 r v := by
  have nm : ∀ a, a ∉ M → H a ≠ none → a ∉ M1 := fun a n q z => by
    rcases e.mn a z with y | y
    · exact n y
    · exact q y
  cases r with
  | dat d => exact e.rep mz h
  | new ds =>
    obtain ⟨p, vs, rfl, h0, zp, np, hp, r⟩ := h
    have hs : H p ≠ none := by rw [hp]; simp
    exact ⟨p, vs, rfl, h0, e.z p zp, nm p np hs, e.fr p _ hp (.inl np), e.reps mz r⟩
  | view ds =>
    obtain ⟨a, vs, rfl, hr, n, r⟩ := h
    exact ⟨a, vs, rfl, e.fr a _ hr (.inl n), nm a n (by rw [hr]; simp), e.reps mz r⟩
  | scr ds =>
    obtain ⟨a, vs, rfl, hr, r⟩ := h
    exact ⟨a, vs, rfl, hr.fr e.fr e.mn, e.reps mz r⟩
/-- what is new beside a later heap is new beside an earlier one -/
theorem VR.base {G : Ga} {B B' : Hp} {Z : Addr → Prop} {M : List Addr} {H : Hp} {r : R} {v : V} (hb : ∀ a, B a ≠ none → B' a ≠ none) (h : VR G B' Z M H r v) : VR G B Z M H r v := by
  cases r with
  | dat d => exact h
  | new ds =>
    obtain ⟨p, vs, rfl, h0, w⟩ := h
    refine ⟨p, vs, rfl, ?_, w⟩
    cases e : B p with
    | none => rfl
    | some o => exact absurd h0 (hb p (by rw [e]; simp))
  | view ds => exact h
  | scr ds => exact h

/-- an exception, as it flies: its class, its own dict -/
abbrev XR (G : Ga) (Z : Addr → Prop) (M : List Addr) (H : Hp) (x : Xc) (c : Value) (d : Option Addr) : Prop := XRK G.K G.mg G.cls Z M H x c d
/-- what is wanted behind an expression -/
def EPost (G : Ga) (W : WX) (Z : Addr → Prop) (M : List Addr) (env : Env) (σ : L2.St) (H : Hp) (Q : VK) : Out R → Prop
  | .ok r st' => ∀ v H' M' Z', RS G Z' M' env st' σ H' → Ext Z M H Z' M' H' → VR G H Z' M' H' r v → Q v H'
  | .exc x st' => ∀ c d H' M' Z', RS G Z' M' env st' σ H' → Ext Z M H Z' M' H' → XR G Z' M' H' x c d → W c d σ H'
  | .bad => False
/-- the reading of an expression -/
def rd (G : Ga) (W : WX) (ev : EV) : TE := fun σ H Q => ∃ Z M env st, RS G Z M env st σ H ∧ EPost G W Z M env σ H Q (ev env st)

theorem EPost.mono {G : Ga} {W : WX} {Z Z1 : Addr → Prop} {M M1 : List Addr} {env : Env} {σ : L2.St} {H H1 : Hp} {Q : VK} {o : Out R} (mh : ∀ a ∈ M, H a ≠ none) (e : Ext Z M H Z1 M1 H1) (h : EPost G W Z M env σ H Q o) : EPost G W Z1 M1 env σ H1 Q o := by
  cases o with
  | ok r st => exact fun v H' M' Z' rs x vr => h v H' M' Z' rs (e.trans mh x) (vr.base e.h)
  | exc y st => exact fun c d H' M' Z' rs x xr => h c d H' M' Z' rs (e.trans mh x) xr
  | bad => exact h
end PD

/-! PDb: states carried on; expressions. -/
namespace PD
open PySem PySem.Spec L2

theorem lim_le {n : Nat} (h : n ≤ 1000000) : n ≤ sizeLine := Nat.le_trans h (by rw [sizeLine_eq]; decide)
theorem _root_.L2.PE.imp {X : Cx} {e : Expr} {t t' : TE} (h : PE X e t) (i : ∀ σ H Q, t' σ H Q → t σ H Q) : PE X e t' := ⟨fun pins s σ H Q I w => h.run pins s σ H Q I (i σ H Q w)⟩
theorem _root_.L2.PT.imp {X : Cx} {e : Expr} {t t' : TT} (h : PT X e t) (i : ∀ σ H Q, t' σ H Q → t σ H Q) : PT X e t' := ⟨fun pins s σ H Q I w => h.run pins s σ H Q I (i σ H Q w)⟩
theorem _root_.L2.PA.imp {X : Cx} {e : List Expr} {t t' : TA} (h : PA X e t) (i : ∀ σ H Q, t' σ H Q → t σ H Q) : PA X e t' := ⟨fun pos pins s σ H Q I w => h.run pos pins s σ H Q I (i σ H Q w)⟩
theorem _root_.L2.PS.imp {X : Cx} {e : Stmt} {t t' : TS} (h : PS X e t) (i : ∀ D σ H, t' D σ H → t D σ H) : PS X e t' := ⟨fun pins s σ H D I w => h.run pins s σ H D I (i D σ H w)⟩
theorem _root_.L2.PSs.imp {X : Cx} {e : List Stmt} {t t' : TS} (h : PSs X e t) (i : ∀ D σ H, t' D σ H → t D σ H) : PSs X e t' := ⟨fun pins s σ H D I w => h.run pins s σ H D I (i D σ H w)⟩

section
variable {G : Ga} {Z Z' : Addr → Prop} {M M' : List Addr} {env : Env} {st st' : Stor} {σ : L2.St} {H H' : Hp}
theorem RS.mz (rs : RS G Z M env st σ H) : ∀ a ∈ M, Z a := rs.sto.mz
theorem RS.mh (rs : RS G Z M env st σ H) : ∀ a ∈ M, H a ≠ none := rs.sto.mh
theorem RS.step (rs : RS G Z M env st σ H) (e : Ext Z M H Z' M' H') (t : StR G.K G.mg Z' M' st' H') : RS G Z' M' env st' σ H' where
  len := rs.len
  slot := fun i sv hi => by
    obtain ⟨v, h1, h2⟩ := rs.slot i sv hi
    refine ⟨v, h1, ?_⟩
    cases sv with
    | dat d => exact e.rep rs.mz h2
    | own ds =>
      obtain ⟨p, vs, rfl, zp, np, h0, hp, r⟩ := h2
      refine ⟨p, vs, rfl, e.z p zp, fun q => ?_, h0, e.fr p _ hp (.inl np), e.reps rs.mz r⟩
      rcases e.mn p q with y | y
      · exact np y
      · rw [hp] at y
        cases y
    | view ds =>
      obtain ⟨a, vs, rfl, h0, na, r⟩ := h2
      exact ⟨a, vs, rfl, h0, na, e.reps rs.mz r⟩
    | scr ds =>
      obtain ⟨a, vs, rfl, h0, r⟩ := h2
      exact ⟨a, vs, rfl, h0, e.reps rs.mz r⟩
    | exn x =>
      obtain ⟨a, c, d, h0, rfl, h⟩ := h2
      exact ⟨a, c, d, h0, rfl, e.xr rs.mz h⟩
    | thk => exact h2
  dis := rs.dis
  sto := t
  z0 := fun a h => e.z a (rs.z0 a h)
  fr := fun b o h i => by
    refine e.fr b o (rs.fr b o h i) ?_
    rcases i with i | i
    · refine .inl fun hm => ?_
      rcases rs.mn b hm with y | y
      · exact i y
      · rw [h] at y
        cases y
    · exact .inr i
  m0 := by
    obtain ⟨t1, q1⟩ := rs.m0
    obtain ⟨u, q2⟩ := e.m
    exact ⟨t1 ++ u, by rw [q2, q1, List.append_assoc]⟩
  mn := fun a h => by
    rcases e.mn a h with y | y
    · exact rs.mn a y
    · refine .inr ?_
      cases q : G.H0 a with
      | none => rfl
      | some o => exact absurd y (rs.h0 a (by rw [q]; simp))
  h0 := fun a h => e.h a (rs.h0 a h)
  n0 := fun a h z => rs.n0 a h (e.n a (rs.h0 a h) z)
  z00 := rs.z00

/-- a new object -/
theorem Ext.alloc {p : Addr} {o : HO} (mh : ∀ a ∈ M, H a ≠ none) (hp : H p = none) : Ext Z M H (fun a => Z a ∨ a = p) M (upd H p o) where
  m := ⟨[], by simp⟩
  mn := fun a h => .inl h
  fr := fun b u e _ => by
    rw [upd_ne (ne_of_none e hp)]
    exact e
  z := fun a h => .inl h
  n := fun a h z => z.elim id fun q => absurd (q ▸ hp) h
  h := fun a h => by
    by_cases q : a = p
    · rw [q, upd_same]; simp
    · rw [upd_ne q]; exact h
theorem Ext.alloc0 {p : Addr} {o : HO} (mh : ∀ a ∈ M, H a ≠ none) (hp : H p = none) : Ext Z M H Z M (upd H p o) where
  m := ⟨[], by simp⟩
  mn := fun a h => .inl h
  fr := fun b u e _ => by
    rw [upd_ne (ne_of_none e hp)]
    exact e
  z := fun a h => h
  n := fun a h z => z
  h := fun a h => by
    by_cases q : a = p
    · rw [q, upd_same]; simp
    · rw [upd_ne q]; exact h
theorem StR.keep {K : PySem.W.Frag} {mg : Str → Option Value} (s : StR K mg Z M st H) (e : Ext Z M H Z' M H') (k : ∀ a ∈ M, H' a = H a) (zh : ∀ a, Z' a → H' a ≠ none) : StR K mg Z' M st H' where
  len := s.len
  obj := fun i o h => by
    obtain ⟨a, h1, h2⟩ := s.obj i o h
    exact ⟨a, h1, h2.mono (fun _ _ r => e.reps s.mz r) (fun b u h z => ⟨e.fr b u h (.inl fun m => z (s.mz b m)), fun z' => z (e.n b (by rw [h]; simp) z')⟩) (k a (List.mem_of_getElem? h1))⟩
  nd := s.nd
  mz := fun a h => e.z a (s.mz a h)
  zh := zh
theorem RS.alloc (rs : RS G Z M env st σ H) {p : Addr} {o : HO} (hp : H p = none) : RS G (fun a => Z a ∨ a = p) M env st σ (upd H p o) := by
  have e : Ext Z M H (fun a => Z a ∨ a = p) M (upd H p o) := Ext.alloc rs.mh hp
  refine rs.step e (rs.sto.keep e (fun a h => upd_ne fun q => rs.mh a h (q ▸ hp)) fun a z => ?_)
  rcases z with z | z
  · exact e.h a (rs.sto.zh a z)
  · rw [z, upd_same]; simp
theorem RS.alloc0 (rs : RS G Z M env st σ H) {p : Addr} {o : HO} (hp : H p = none) : RS G Z M env st σ (upd H p o) := by
  have e : Ext Z M H Z M (upd H p o) := Ext.alloc0 rs.mh hp
  exact rs.step e (rs.sto.keep e (fun a h => upd_ne fun q => rs.mh a h (q ▸ hp)) fun a z => e.h a (rs.sto.zh a z))

/-- new lists become data -/
def ZFree (Z : Addr → Prop) (T : List Addr) : Addr → Prop := fun a => Z a ∧ a ∉ T
theorem StR.free {K : PySem.W.Frag} {mg : Str → Option Value} (s : StR K mg Z M st H) {T : List Addr} (hT : ∀ p ∈ T, p ∉ M) : StR K mg (ZFree Z T) M st H where
  len := s.len
  obj := fun i o h => by
    obtain ⟨a, h1, h2⟩ := s.obj i o h
    exact ⟨a, h1, h2.mono (fun _ _ r => Reps.mono (fun _ _ h => h) (fun _ _ e _ => e) (fun _ _ z => z.1) _ _ r) (fun b u h z => ⟨h, fun z' => z z'.1⟩) rfl⟩
  nd := s.nd
  mz := fun a h => ⟨s.mz a h, fun q => hT a q h⟩
  zh := fun a z => s.zh a z.1
theorem Rep.free {K : PySem.W.Frag} {mg : Str → Option Value} {T : List Addr} {d : D} {v : V} (h : Rep K mg Z M H d v) : Rep K mg (ZFree Z T) M H d v := Rep.mono (fun _ _ h => h) (fun _ _ e _ => e) (fun _ _ z => z.1) _ _ h
theorem Reps.free {K : PySem.W.Frag} {mg : Str → Option Value} {T : List Addr} {d : List D} {v : List V} (h : Reps K mg Z M H d v) : Reps K mg (ZFree Z T) M H d v := Reps.mono (fun _ _ h => h) (fun _ _ e _ => e) (fun _ _ z => z.1) _ _ h
theorem RS.free {Zb : Addr → Prop} {Mb : List Addr} {stb : Stor} {B : Hp} (rb : RS G Zb Mb env stb σ B) (rs : RS G Z M env st σ H) {T : List Addr} (hT : ∀ p ∈ T, B p = none ∧ p ∉ M) : RS G (ZFree Z T) M env st σ H where
  len := rs.len
  slot := fun i sv hi => by
    obtain ⟨v, h1, h2⟩ := rs.slot i sv hi
    refine ⟨v, h1, ?_⟩
    cases sv with
    | dat d => exact Rep.free h2
    | own ds =>
      obtain ⟨p, vs, rfl, zp, np, h0, hp, r⟩ := h2
      refine ⟨p, vs, rfl, ⟨zp, fun q => ?_⟩, np, h0, hp, Reps.free r⟩
      obtain ⟨v', g1, g2⟩ := rb.slot i _ hi
      obtain ⟨p', vs', rfl, _, _, _, hp', _⟩ := g2
      rw [h1] at g1
      cases g1
      have := (hT p q).1
      rw [hp'] at this
      cases this
    | view ds =>
      obtain ⟨a, vs, rfl, h0, na, r⟩ := h2
      exact ⟨a, vs, rfl, h0, na, Reps.free r⟩
    | scr ds =>
      obtain ⟨a, vs, rfl, h0, r⟩ := h2
      exact ⟨a, vs, rfl, h0, Reps.free r⟩
    | exn x =>
      obtain ⟨a, c, d, h0, rfl, h⟩ := h2
      exact ⟨a, c, d, h0, rfl, XRK.mono (fun _ _ h => h) (fun _ _ e _ => e) (fun _ _ z => z.1) h⟩
    | thk => exact h2
  dis := rs.dis
  sto := rs.sto.free fun p h => (hT p h).2
  z0 := fun a h => ⟨rs.z0 a h, fun q => rb.h0 a (rs.z00 a h) (hT a q).1⟩
  fr := rs.fr
  m0 := rs.m0
  mn := rs.mn
  h0 := rs.h0
  n0 := fun a h z => rs.n0 a h z.1
  z00 := rs.z00
theorem Ext.free {B : Hp} {Zb : Addr → Prop} {Mb : List Addr} (zb : ∀ a, Zb a → B a ≠ none) (e : Ext Zb Mb B Z M H) {T : List Addr} (hT : ∀ p ∈ T, B p = none ∧ p ∉ M) : Ext Zb Mb B (ZFree Z T) M H where
  m := e.m
  mn := e.mn
  fr := e.fr
  z := fun a h => ⟨e.z a h, fun q => zb a h (hT a q).1⟩
  n := fun a h z => e.n a h z.1
  h := e.h
end

/-! ### lists of values -/
def APost (G : Ga) (W : WX) (Z : Addr → Prop) (M : List Addr) (env : Env) (σ : L2.St) (H : Hp) (Q : List V → Hp → Prop) : Out (List R) → Prop
  | .ok rs st' => ∀ vs H' M' Z', RS G Z' M' env st' σ H' → Ext Z M H Z' M' H' → Paired (VR G H Z' M' H') rs vs → Q vs H'
  | .exc x st' => ∀ c d H' M' Z', RS G Z' M' env st' σ H' → Ext Z M H Z' M' H' → XR G Z' M' H' x c d → W c d σ H'
  | .bad => False
abbrev AV := Env → Stor → Out (List R)
def rdA (G : Ga) (W : WX) (ev : AV) : TA := fun σ H Q => ∃ Z M env st, RS G Z M env st σ H ∧ APost G W Z M env σ H Q (ev env st)
def aNil : AV := fun _ st => .ok [] st
def aCons (a : EV) (b : AV) : AV := fun env st => match a env st with
  | .ok r st1 => match b env st1 with
    | .ok rs st2 => .ok (r :: rs) st2
    | .exc x s => .exc x s
    | .bad => .bad
  | .exc x s => .exc x s
  | .bad => .bad
section
variable {X : Cx} {G : Ga} {W : WX} {e : Expr} {es : List Expr} {a b : EV} {as : AV} {pos : Pos}
theorem i_anil : PA X [] (rdA G W aNil) := pa_nil.imp fun σ H Q ⟨Z, M, env, st, rs, p⟩ => p [] H M Z rs (Ext.refl Z M H) .nil
theorem i_acons (ha : PE X e (rd G W a)) (hr : PA X es (rdA G W as)) (hs : starEach (e :: es) X.env = (false, eval e X.env) :: starEach es X.env := by rfl) : PA X (e :: es) (rdA G W (aCons a as)) := (pa_cons ha hr hs).imp fun σ H Q ⟨Z, M, env, st, rs, p⟩ => by
  refine ⟨Z, M, env, st, rs, ?_⟩
  unfold aCons at p
  cases ea : a env st with
  | bad => rw [ea] at p; exact p
  | exc x s => rw [ea] at p; exact p
  | ok r st1 =>
    rw [ea] at p
    dsimp only at p
    intro v1 H1 M1 Z1 rs1 e1 w1
    refine ⟨Z1, M1, env, st1, rs1, ?_⟩
    cases eb : as env st1 with
    | bad => rw [eb] at p; exact p
    | exc x s => rw [eb] at p; exact fun c d H' M' Z' rs' e' => p c d H' M' Z' rs' (e1.trans rs.mh e')
    | ok q st2 =>
      rw [eb] at p
      exact fun vs H' M' Z' rs' e' w' => p (v1 :: vs) H' M' Z' rs' (e1.trans rs.mh e') (.cons (w1.ext rs1.mz e') (L2.Paired.mapP w' fun _ _ z => z.base e1.h))

/-! ### names, constants -/
def eVar (i : Nat) : EV := fun env st => match env[i]? with
  | some (some (.dat d)) => .ok (.dat d) st
  | some (some (.own ds)) => .ok (.view ds) st
  | some (some (.view ds)) => .ok (.view ds) st
  | some (some (.scr ds)) => .ok (.scr ds) st
  | _ => .bad
theorem i_var (i : Nat) {x : Str} (hN : X.N[i]? = some x := by rfl) (hv : Vis X.env.scope x := by first | exact Or.inl rfl | exact Or.inr (Or.inl rfl) | exact Or.inr (Or.inr rfl)) (hd : (x == ("__debug__" : Str)) = false := by decide)
    (hcd : (x == ("__classdict__" : Str)) = false := by decide) : PE X (.Name x pos) (rd G W (eVar i)) := (pe_var hN hv hd hcd).imp fun σ H Q ⟨Z, M, env, st, rs, p⟩ => by
  unfold eVar at p
  cases ei : env[i]? with
  | none => rw [ei] at p; exact p.elim
  | some o =>
    cases o with
    | none => rw [ei] at p; exact p.elim
    | some sv =>
      obtain ⟨v, h1, h2⟩ := rs.slot i sv ei
      refine ⟨v, h1, ?_⟩
      rw [ei] at p
      cases sv with
      | dat d => exact p v H M Z rs (Ext.refl Z M H) h2
      | own ds =>
        obtain ⟨q, vs, rfl, _, np, _, hp, r⟩ := h2
        exact p _ H M Z rs (Ext.refl Z M H) ⟨q, vs, rfl, hp, np, r⟩
      | view ds =>
        obtain ⟨q, vs, rfl, h0, na, r⟩ := h2
        refine p _ H M Z rs (Ext.refl Z M H) ⟨q, vs, rfl, rs.fr q _ h0 (.inl na), fun hm => ?_, r⟩
        rcases rs.mn q hm with y | y
        · exact na y
        · rw [h0] at y
          cases y
      | scr ds =>
        obtain ⟨q, vs, rfl, h0, r⟩ := h2
        exact p _ H M Z rs (Ext.refl Z M H) ⟨q, vs, rfl, h0.fr rs.fr rs.mn, r⟩
      | exn x => exact p.elim
      | thk => exact p.elim
def eC (d : D) : EV := fun _ st => .ok (.dat d) st
theorem rd_c {σ : L2.St} {H : Hp} {Q : VK} {d : D} {v : V} (h : ∀ Z M H, Rep G.K G.mg Z M H d v) : rd G W (eC d) σ H Q → Q v H := fun ⟨Z, M, env, st, rs, p⟩ => p v H M Z rs (Ext.refl Z M H) (h Z M H)
theorem i_int {i j} : PE X (.Constant (.int i) j pos) (rd G W (eC (.int i))) := pe_int.imp fun σ H Q h => rd_c (d := .int i) (v := .int i) (fun _ _ _ => rfl) h
theorem i_bl {i j} : PE X (.Constant (.bool i) j pos) (rd G W (eC (.bl i))) := pe_bl.imp fun σ H Q h => rd_c (d := .bl i) (v := .bl i) (fun _ _ _ => rfl) h
theorem i_non {j} : PE X (.Constant .none j pos) (rd G W (eC .non)) := pe_non.imp fun σ H Q h => rd_c (d := .non) (v := .non) (fun _ _ _ => rfl) h
theorem i_str {x j} : PE X (.Constant (.str x) j pos) (rd G W (eC (.str x))) := pe_str.imp fun σ H Q h => rd_c (d := .str x) (v := .str x) (fun _ _ _ => rfl) h
/-- a constant of the module -/
theorem i_glob {x : Str} {v : V} {u : Value} {d : D} (hg : Gl X x) (hm : X.mg x = some u) (r : RelV v u) (h : ∀ Z M H, Rep G.K G.mg Z M H d v) (hd : (x == ("__debug__" : Str)) = false := by decide) : PE X (.Name x pos) (rd G W (eC d)) :=
  (pe_glob hg hm r hd).imp fun σ H Q q => rd_c h q

/-! ### two values, one value, a list of values -/
def eBin (f : R → R → Stor → Out R) (a b : EV) : EV := fun env st => match a env st with
  | .ok r1 st1 => match b env st1 with
    | .ok r2 st2 => f r1 r2 st2
    | .exc x s => .exc x s
    | .bad => .bad
  | .exc x s => .exc x s
  | .bad => .bad
def eUn (f : R → Stor → Out R) (a : EV) : EV := fun env st => match a env st with
  | .ok r1 st1 => f r1 st1
  | .exc x s => .exc x s
  | .bad => .bad
def eAp (f : List R → Stor → Out R) (a : AV) : EV := fun env st => match a env st with
  | .ok rs st1 => f rs st1
  | .exc x s => .exc x s
  | .bad => .bad
/-- a function of two values, by a rule of the layer. B: what stood ahead of both values -/
def Op2 (X : Cx) (G : Ga) (W : WX) (f : R → R → Stor → Out R) (r : R2) : Prop := ∀ B Z M env st σ H Q r1 r2 v1 v2, RS G Z M env st σ H → VR G B Z M H r1 v1 → VR G B Z M H r2 v2 → EPost G W Z M env σ H Q (f r1 r2 st) → r v1 v2 H Q
def Op1 (X : Cx) (G : Ga) (W : WX) (f : R → Stor → Out R) (r : V → Hp → VK → Prop) : Prop := ∀ B Z M env st σ H Q r1 v1, RS G Z M env st σ H → VR G B Z M H r1 v1 → EPost G W Z M env σ H Q (f r1 st) → r v1 H Q
def OpA (X : Cx) (G : Ga) (W : WX) (f : List R → Stor → Out R) (r : List V → Hp → VK → Prop) : Prop := ∀ B Z M env st σ H Q rs vs, RS G Z M env st σ H → Paired (VR G B Z M H) rs vs → EPost G W Z M env σ H Q (f rs st) → r vs H Q
theorem rd_bin {f : R → R → Stor → Out R} {r : R2} (hf : Op2 X G W f r) {σ : L2.St} {H : Hp} {Q : VK} (h : rd G W (eBin f a b) σ H Q) : tOp r (rd G W a) (rd G W b) σ H Q := by
  obtain ⟨Z, M, env, st, rs, p⟩ := h
  refine ⟨Z, M, env, st, rs, ?_⟩
  unfold eBin at p
  cases ea : a env st with
  | bad => rw [ea] at p; exact p
  | exc x s => rw [ea] at p; exact p
  | ok r1 st1 =>
    rw [ea] at p
    dsimp only at p
    intro v1 H1 M1 Z1 rs1 e1 w1
    refine ⟨Z1, M1, env, st1, rs1, ?_⟩
    cases eb : b env st1 with
    | bad => rw [eb] at p; exact p
    | exc x s => rw [eb] at p; exact fun c d H' M' Z' rs' e' => p c d H' M' Z' rs' (e1.trans rs.mh e')
    | ok r2 st2 =>
      rw [eb] at p
      intro v2 H2 M2 Z2 rs2 e2 w2
      exact hf H Z2 M2 env st2 σ H2 Q r1 r2 v1 v2 rs2 (w1.ext rs1.mz e2) (w2.base e1.h) (EPost.mono rs.mh (e1.trans rs.mh e2) p)
theorem rd_un {f : R → Stor → Out R} {r : V → Hp → VK → Prop} (hf : Op1 X G W f r) {σ : L2.St} {H : Hp} {Q : VK} (h : rd G W (eUn f a) σ H Q) : tUn r (rd G W a) σ H Q := by
  obtain ⟨Z, M, env, st, rs, p⟩ := h
  refine ⟨Z, M, env, st, rs, ?_⟩
  unfold eUn at p
  cases ea : a env st with
  | bad => rw [ea] at p; exact p
  | exc x s => rw [ea] at p; exact p
  | ok r1 st1 =>
    rw [ea] at p
    intro v1 H1 M1 Z1 rs1 e1 w1
    exact hf H Z1 M1 env st1 σ H1 Q r1 v1 rs1 w1 (EPost.mono rs.mh e1 p)
theorem rd_ap {f : List R → Stor → Out R} {r : List V → Hp → VK → Prop} (hf : OpA X G W f r) {σ : L2.St} {H : Hp} {Q : VK} (h : rd G W (eAp f as) σ H Q) : tCB r (rdA G W as) σ H Q := by
  obtain ⟨Z, M, env, st, rs, p⟩ := h
  refine ⟨Z, M, env, st, rs, ?_⟩
  unfold eAp at p
  cases ea : as env st with
  | bad => rw [ea] at p; exact p
  | exc x s => rw [ea] at p; exact p
  | ok r1 st1 =>
    rw [ea] at p
    intro vs H1 M1 Z1 rs1 e1 w1
    exact hf H Z1 M1 env st1 σ H1 Q r1 vs rs1 w1 (EPost.mono rs.mh e1 p)
theorem i_bin {f : R → R → Stor → Out R} {r : R2} {op : Operator} {e2 : Expr} (ho : OpR X (binaryOp op) r) (hf : Op2 X G W f r) (ha : PE X e (rd G W a)) (hb : PE X e2 (rd G W b)) : PE X (.BinOp e op e2 pos) (rd G W (eBin f a b)) := (pe_op ho ha hb).imp fun σ H Q h => rd_bin hf h
theorem i_cmp {f : R → R → Stor → Out R} {r : R2} {op : CmpOp} {e2 : Expr} (ho : OpR X (compareOp op) r) (hf : Op2 X G W f r) (ha : PE X e (rd G W a)) (hb : PE X e2 (rd G W b)) (hm : behindInMarks op e2 = false) : PE X (.Compare e [op] [e2] pos) (rd G W (eBin f a b)) :=
  (pe_cmpR ho ha hb hm).imp fun σ H Q h => rd_bin hf h
theorem i_ix {f : R → R → Stor → Out R} {r : R2} {e2 : Expr} (ho : IxR X r) (hf : Op2 X G W f r) (ha : PE X e (rd G W a)) (hb : PE X e2 (rd G W b)) (hs : PlainIx e2) : PE X (.Subscript e e2 pos) (rd G W (eBin f a b)) := (pe_ix ho ha hb hs).imp fun σ H Q h => rd_bin hf h

/-! ### what data is -/
def seqOf (st : Stor) : R → Option (List D)
  | .dat (.tup ds) => some ds
  | .dat (.lst ds) => some ds
  | .dat (.ref i) => match st[i]? with
    | some (.lst ds) => some ds
    | _ => none
  | .new ds => some ds
  | .view ds => some ds
  | .scr ds => some ds
  | _ => none
def tupOf : R → Option (List D)
  | .dat (.tup ds) => some ds
  | _ => none
def lstOf (st : Stor) : R → Option (List D)
  | .dat (.lst ds) => some ds
  | .dat (.ref i) => match st[i]? with
    | some (.lst ds) => some ds
    | _ => none
  | .new ds => some ds
  | .view ds => some ds
  | _ => none
variable {B : Hp} {Z : Addr → Prop} {M : List Addr} {env : Env} {st : Stor} {σ : L2.St} {H : Hp} {r r1 r2 : R} {v v1 v2 : V} {ds : List D}
theorem tup_rel (w : VR G B Z M H r v) (h : tupOf r = some ds) : ∃ a vs, v = .ref a ∧ SqT G.K H a vs ∧ Reps G.K G.mg Z M H ds vs := by
  cases r with
  | dat d =>
    cases d with
    | tup es =>
      cases h
      obtain ⟨a, vs, rfl, h1, h2⟩ := w
      exact ⟨a, vs, rfl, h1, h2⟩
    | _ => cases h
  | new _ => cases h
  | view _ => cases h
  | scr _ => cases h
theorem lst_rel (rs : RS G Z M env st σ H) (w : VR G B Z M H r v) (h : lstOf st r = some ds) : ∃ a vs, v = .ref a ∧ H a = some (.lst vs) ∧ Reps G.K G.mg Z M H ds vs := by
  cases r with
  | dat d =>
    cases d with
    | lst es =>
      cases h
      obtain ⟨a, vs, rfl, _, h1, h2⟩ := w
      exact ⟨a, vs, rfl, h1, h2⟩
    | ref i =>
      unfold lstOf at h
      dsimp only at h
      cases e : st[i]? with
      | none => rw [e] at h; cases h
      | some o =>
        rw [e] at h
        cases o with
        | ins c fs => cases h
        | dct k kvs => cases h
        | lst es =>
          cases h
          obtain ⟨a, h1, h2⟩ := rs.sto.obj i _ e
          obtain ⟨a', h3, rfl⟩ := w
          rw [h1] at h3
          cases h3
          obtain ⟨vs, h4, h5⟩ := h2
          exact ⟨a, vs, rfl, h4, h5⟩
    | _ => cases h
  | new es =>
    cases h
    obtain ⟨p, vs, rfl, _, _, _, h1, h2⟩ := w
    exact ⟨p, vs, rfl, h1, h2⟩
  | view es =>
    cases h
    obtain ⟨a, vs, rfl, h1, _, h2⟩ := w
    exact ⟨a, vs, rfl, h1, h2⟩
  | scr es => cases h
theorem seq_split (h : seqOf st r = some ds) : tupOf r = some ds ∨ lstOf st r = some ds ∨ r = .scr ds := by
  cases r with
  | dat d => cases d <;> first | exact .inl h | exact .inr (.inl h)
  | new _ => exact .inr (.inl h)
  | view _ => exact .inr (.inl h)
  | scr _ => cases h; exact .inr (.inr rfl)
theorem seq_rel (rs : RS G Z M env st σ H) (w : VR G B Z M H r v) (h : seqOf st r = some ds) : ∃ a vs, v = .ref a ∧ (SqL G.K H a vs ∨ SqT G.K H a vs) ∧ Reps G.K G.mg Z M H ds vs := by
  rcases seq_split h with h | h | h
  · obtain ⟨a, vs, e, h1, h2⟩ := tup_rel w h
    exact ⟨a, vs, e, .inr h1, h2⟩
  · obtain ⟨a, vs, e, h1, h2⟩ := lst_rel rs w h
    exact ⟨a, vs, e, .inl (.inl (.inl h1)), h2⟩
  · subst h
    obtain ⟨a, vs, e, h1, h2⟩ := w
    exact ⟨a, vs, e, .inl h1.sq, h2⟩
/-- answers -/
theorem ans_dat {Q : VK} {d : D} (rs : RS G Z M env st σ H) (p : EPost G W Z M env σ H Q (.ok (.dat d) st)) (h : Rep G.K G.mg Z M H d v) : Q v H := p v H M Z rs (Ext.refl Z M H) h
theorem ans_new {Q : VK} {p : Addr} {vs : List V} (rs : RS G Z M env st σ H) (q : EPost G W Z M env σ H Q (.ok (.new ds) st)) (hp : H p = none) (h : Reps G.K G.mg Z M H ds vs) : Q (.ref p) (upd H p (.lst vs)) :=
  q _ _ M _ (rs.alloc hp) (Ext.alloc rs.mh hp) ⟨p, vs, rfl, hp, .inr rfl, fun hm => rs.mh p hm hp, upd_same, (Ext.alloc rs.mh hp).reps rs.mz h⟩
theorem ans_tup {Q : VK} {p : Addr} {vs : List V} (rs : RS G Z M env st σ H) (q : EPost G W Z M env σ H Q (.ok (.dat (.tup ds)) st)) (hp : H p = none) (h : Reps G.K G.mg Z M H ds vs) : Q (.ref p) (upd H p (.tup vs)) :=
  q _ _ M _ (rs.alloc0 hp) (Ext.alloc0 rs.mh hp) ⟨p, vs, rfl, SqT.of upd_same, (Ext.alloc0 rs.mh hp).reps rs.mz h⟩
end
end PD

/-! PDc: operators, comparisons, subscripts, built-in functions. -/
namespace PD
open PySem PySem.Spec PyProof.Rows L2
section
variable {X : Cx} {G : Ga} {W : WX} {e e2 : Expr} {es : List Expr} {a b : EV} {as : AV} {pos : Pos}
/-! ### arithmetic -/
def fAdd (r1 r2 : R) (st : Stor) : Out R := match r1, r2 with
  | .dat (.int i), .dat (.int j) => .ok (.dat (.int (i + j))) st
  | .dat (.str x), .dat (.str y) => if x.length + y.length ≤ 1000000 then .ok (.dat (.str (x ++ y))) st else .bad
  | .dat (.tup xs), .dat (.tup ys) => if xs.length + ys.length ≤ 1000000 then .ok (.dat (.tup (xs ++ ys))) st else .bad
  | r1, r2 => match lstOf st r1, lstOf st r2 with
    | some xs, some ys => if xs.length + ys.length ≤ 1000000 then .ok (.new (xs ++ ys)) st else .bad
    | _, _ => .bad
def rAdd (K : PySem.W.Frag) : R2 := fun x y H Q => rI0 (fun i j => .int (i + j)) x y H Q ∨ (∃ i j, x = .str i ∧ y = .str j ∧ i.length + j.length ≤ sizeLine ∧ Q (.str (i ++ j)) H) ∨ rCatA K x y H Q ∨ rCat x y H Q
theorem op_addA : OpR X (binaryOp .Add) (rAdd X.K) := op_add.or (op_add_str.or (op_catA.or op_cat))
theorem o_add (hK : G.K = X.K) : Op2 X G W fAdd (rAdd X.K) := by
  intro B Z M env st σ H Q r1 r2 v1 v2 rs w1 w2 p
  unfold fAdd at p
  split at p
  · cases w1
    cases w2
    exact .inl ⟨_, _, rfl, rfl, ans_dat rs p rfl⟩
  · cases w1
    cases w2
    split at p
    · rename_i h
      exact .inr (.inl ⟨_, _, rfl, rfl, lim_le h, ans_dat rs p rfl⟩)
    · exact p.elim
  · split at p
    · rename_i xs ys h
      obtain ⟨a1, vs, rfl, h1, h2⟩ := w1
      obtain ⟨a2, ws, rfl, g1, g2⟩ := w2
      rw [hK] at h1 g1
      refine .inr (.inr (.inl ⟨a1, a2, vs, ws, rfl, rfl, h1, g1, lim_le (by rw [h2.length, g2.length]; exact h), fun e => ?_, fun n e => ?_, fun _ _ p' hp => ?_⟩))
      · subst e
        have : xs = [] := List.eq_nil_of_length_eq_zero (by have := h2.length; simpa using this.symm)
        subst this
        exact ans_dat rs p ⟨a2, ws, rfl, by rw [hK]; exact g1, g2⟩
      · subst e
        have : ys = [] := List.eq_nil_of_length_eq_zero (by have := g2.length; simpa using this.symm)
        subst this
        rw [List.append_nil] at p
        exact ans_dat rs p ⟨a1, vs, rfl, by rw [hK]; exact h1, h2⟩
      · exact ans_tup rs p hp (h2.append g2)
    · exact p.elim
  · split at p
    · rename_i xs ys ex ey
      split at p
      · rename_i h
        obtain ⟨a1, vs, rfl, h1, h2⟩ := lst_rel rs w1 ex
        obtain ⟨a2, ws, rfl, g1, g2⟩ := lst_rel rs w2 ey
        exact .inr (.inr (.inr ⟨a1, a2, vs, ws, rfl, rfl, h1, g1, lim_le (by rw [h2.length, g2.length]; exact h), fun p' hp => ans_new rs p hp (h2.append g2)⟩))
      · exact p.elim
    · exact p.elim
theorem i_add (hK : G.K = X.K) (ha : PE X e (rd G W a)) (hb : PE X e2 (rd G W b)) : PE X (.BinOp e .Add e2 pos) (rd G W (eBin fAdd a b)) := i_bin op_addA (o_add hK) ha hb
/-- two ints -/
def fI2 (c : Int → Int → Bool) (g : Int → Int → D) (r1 r2 : R) (st : Stor) : Out R := match r1, r2 with
  | .dat (.int i), .dat (.int j) => if c i j then .ok (.dat (g i j)) st else .bad
  | _, _ => .bad
theorem o_I2 {c : Int → Int → Bool} {C : Int → Int → Prop} {g : Int → Int → D} {gv : Int → Int → V} (hc : ∀ i j, c i j = true → C i j) (hg : ∀ i j Z M H, Rep G.K G.mg Z M H (g i j) (gv i j)) : Op2 X G W (fI2 c g) (rI C gv) := by
  intro B Z M env st σ H Q r1 r2 v1 v2 rs w1 w2 p
  unfold fI2 at p
  split at p
  · rename_i i j
    cases w1
    cases w2
    split at p
    · rename_i h
      exact ⟨i, j, rfl, rfl, hc i j h, ans_dat rs p (hg i j Z M H)⟩
    · exact p.elim
  · exact p.elim
theorem o_I0 {g : Int → Int → D} {gv : Int → Int → V} (hg : ∀ i j Z M H, Rep G.K G.mg Z M H (g i j) (gv i j)) : Op2 X G W (fI2 (fun _ _ => true) g) (rI0 gv) := by
  intro B Z M env st σ H Q r1 r2 v1 v2 rs w1 w2 p
  obtain ⟨i, j, h1, h2, _, h3⟩ := o_I2 (X := X) (C := fun _ _ => True) (fun _ _ _ => trivial) hg B Z M env st σ H Q r1 r2 v1 v2 rs w1 w2 p
  exact ⟨i, j, h1, h2, h3⟩
abbrev fSub := fI2 (fun _ _ => true) fun i j => .int (i - j)
abbrev fLt := fI2 (fun _ _ => true) fun i j => .bl (decide (i < j))
abbrev fLe := fI2 (fun _ _ => true) fun i j => .bl (decide (i ≤ j))
abbrev fGt := fI2 (fun _ _ => true) fun i j => .bl (decide (j < i))
abbrev fGe := fI2 (fun _ _ => true) fun i j => .bl (decide (j ≤ i))
theorem o_sub : Op2 X G W fSub (rI0 fun i j => .int (i - j)) := o_I0 fun _ _ _ _ _ => rfl
theorem o_lt : Op2 X G W fLt (rI0 fun i j => .bl (decide (i < j))) := o_I0 fun _ _ _ _ _ => rfl
theorem o_le : Op2 X G W fLe (rI0 fun i j => .bl (decide (i ≤ j))) := o_I0 fun _ _ _ _ _ => rfl
theorem o_gt : Op2 X G W fGt (rI0 fun i j => .bl (decide (j < i))) := o_I0 fun _ _ _ _ _ => rfl
theorem o_ge : Op2 X G W fGe (rI0 fun i j => .bl (decide (j ≤ i))) := o_I0 fun _ _ _ _ _ => rfl
theorem i_sub (ha : PE X e (rd G W a)) (hb : PE X e2 (rd G W b)) : PE X (.BinOp e .Sub e2 pos) (rd G W (eBin fSub a b)) := i_bin op_sub o_sub ha hb
theorem i_lt (ha : PE X e (rd G W a)) (hb : PE X e2 (rd G W b)) : PE X (.Compare e [.Lt] [e2] pos) (rd G W (eBin fLt a b)) := i_cmp op_lt o_lt ha hb (nomark _)
theorem i_le (ha : PE X e (rd G W a)) (hb : PE X e2 (rd G W b)) : PE X (.Compare e [.LtE] [e2] pos) (rd G W (eBin fLe a b)) := i_cmp op_le o_le ha hb (nomark _)
theorem i_gt (ha : PE X e (rd G W a)) (hb : PE X e2 (rd G W b)) : PE X (.Compare e [.Gt] [e2] pos) (rd G W (eBin fGt a b)) := i_cmp op_gt o_gt ha hb (nomark _)
theorem i_ge (ha : PE X e (rd G W a)) (hb : PE X e2 (rd G W b)) : PE X (.Compare e [.GtE] [e2] pos) (rd G W (eBin fGe a b)) := i_cmp op_ge o_ge ha hb (nomark _)
abbrev fMod := fI2 (fun _ j => decide (0 < j)) fun i j => .int (i % j)
theorem o_mod : Op2 X G W fMod (rI (fun _ j => 0 < j) fun i j => .int (i % j)) := o_I2 (fun _ _ h => of_decide_eq_true h) fun _ _ _ _ _ => rfl
theorem i_mod (ha : PE X e (rd G W a)) (hb : PE X e2 (rd G W b)) : PE X (.BinOp e .Mod e2 pos) (rd G W (eBin fMod a b)) := i_bin op_mod o_mod ha hb
abbrev fDiv := fI2 (fun _ j => decide (0 < j) && decide (j < 2 ^ 64)) fun i j => .int (i / j)
theorem o_div : Op2 X G W fDiv (rI CDivW fun i j => .int (i / j)) := o_I2 (fun i j h => by
    rw [Bool.and_eq_true] at h
    have h1 := of_decide_eq_true h.1
    have h2 := of_decide_eq_true h.2
    exact wide_div (b := 64) h1 (by omega) (by decide) (by decide)) fun _ _ _ _ _ => rfl
theorem i_div (ha : PE X e (rd G W a)) (hb : PE X e2 (rd G W b)) : PE X (.BinOp e .FloorDiv e2 pos) (rd G W (eBin fDiv a b)) := i_bin op_fdivW o_div ha hb
abbrev fPow := fI2 (fun i j => decide (0 ≤ j) && decide (j ≤ 1000) && decide (i.natAbs < 2 ^ 64)) fun i j => .int (i ^ j.toNat)
theorem o_pow : Op2 X G W fPow (rI CPow fun i j => .int (i ^ j.toNat)) := o_I2 (fun i j h => by
    simp only [Bool.and_eq_true, decide_eq_true_eq] at h
    exact ⟨h.1.1, by omega, h.2⟩) fun _ _ _ _ _ => rfl
theorem i_pow (ha : PE X e (rd G W a)) (hb : PE X e2 (rd G W b)) : PE X (.BinOp e .Pow e2 pos) (rd G W (eBin fPow a b)) := i_bin op_pow o_pow ha hb
/-- *: ints, one below 2^64; a list some times -/
def fMul (r1 r2 : R) (st : Stor) : Out R := match r1, r2 with
  | .dat (.int i), .dat (.int j) => if (decide (-(2 ^ 64) < i) && decide (i < 2 ^ 64)) || (decide (-(2 ^ 64) < j) && decide (j < 2 ^ 64)) then .ok (.dat (.int (i * j))) st else .bad
  | .new xs, .dat (.int k) => if decide (-(2 ^ 63) ≤ k) && decide (k < 2 ^ 63) && decide (xs.length * k.toNat ≤ 1000000) then .ok (.new (List.replicate k.toNat xs).flatten) st else .bad
  | _, _ => .bad
theorem Reps.rep {K : PySem.W.Frag} {mg : Str → Option Value} {Z : Addr → Prop} {M : List Addr} {H : Hp} {ds : List D} {vs : List V} (h : Reps K mg Z M H ds vs) : ∀ n : Nat, Reps K mg Z M H (List.replicate n ds).flatten (List.replicate n vs).flatten
  | 0 => rfl
  | n + 1 => by
    rw [List.replicate_succ, List.replicate_succ, List.flatten_cons, List.flatten_cons]
    exact h.append (Reps.rep h n)
theorem o_mul : Op2 X G W fMul (fun x y H Q => rI CMul (fun i j => .int (i * j)) x y H Q ∨ rRep x y H Q) := by
  intro B Z M env st σ H Q r1 r2 v1 v2 rs w1 w2 p
  unfold fMul at p
  split at p
  · cases w1
    cases w2
    split at p
    · rename_i i j h
      simp only [Bool.or_eq_true, Bool.and_eq_true, decide_eq_true_eq] at h
      exact .inl ⟨i, j, rfl, rfl, h, ans_dat rs p rfl⟩
    · exact p.elim
  · split at p
    · rename_i xs k h
      simp only [Bool.and_eq_true, decide_eq_true_eq] at h
      obtain ⟨q, vs, rfl, _, _, _, hp, r⟩ := w1
      cases w2
      exact .inr ⟨q, k, vs, rfl, rfl, hp, h.1.1, h.1.2, lim_le (by rw [r.length]; exact h.2), fun p' hp' => ans_new rs p hp' (r.rep _)⟩
    · exact p.elim
  · exact p.elim
theorem i_mul (ha : PE X e (rd G W a)) (hb : PE X e2 (rd G W b)) : PE X (.BinOp e .Mult e2 pos) (rd G W (eBin fMul a b)) := i_bin (op_mul.or op_rep) o_mul ha hb

/-! ### equality, membership -/
mutual
def toPy : D → Option PyData
  | .non => some .none
  | .bl b => some (.bool b)
  | .int i => some (.int i)
  | .str s => some (.str s)
  | .tup ds => match toPys ds with
    | some ps => some (.tuple ps)
    | none => none
  | .lst ds => match toPys ds with
    | some ps => some (.list ps)
    | none => none
  | .ref _ => none
  | .glo _ => none
def toPys : List D → Option (List PyData)
  | [] => some []
  | d :: ds => match toPy d with
    | some p => match toPys ds with
      | some ps => some (p :: ps)
      | none => none
    | none => none
end
section
variable {mg : Str → Option Value} {K : PySem.W.Frag} {Z : Addr → Prop} {M : List Addr} {H : Hp}
mutual
theorem rep_dp : ∀ (d : D) (v : V) (p : PyData), Rep K mg Z M H d v → toPy d = some p → Dp K H v p
  | .non, v, p, h, e => by cases e; rw [show v = _ from h]; exact .non
  | .bl b, v, p, h, e => by cases e; rw [show v = _ from h]; exact .bl b
  | .int b, v, p, h, e => by cases e; rw [show v = _ from h]; exact .int b
  | .str b, v, p, h, e => by cases e; rw [show v = _ from h]; exact .str b
  | .tup ds, v, p, h, e => by
    unfold toPy at e
    cases q : toPys ds with
    | none => rw [q] at e; cases e
    | some ps =>
      rw [q] at e
      cases e
      obtain ⟨a, vs, rfl, h1, h2⟩ := h
      exact .tup h1 (reps_dp ds vs ps h2 q)
  | .lst ds, v, p, h, e => by
    unfold toPy at e
    cases q : toPys ds with
    | none => rw [q] at e; cases e
    | some ps =>
      rw [q] at e
      cases e
      obtain ⟨a, vs, rfl, _, h1, h2⟩ := h
      exact .lst (SqL.of h1) (reps_dp ds vs ps h2 q)
  | .ref _, _, _, _, e => by cases e
  | .glo _, _, _, _, e => by cases e
theorem reps_dp : ∀ (ds : List D) (vs : List V) (ps : List PyData), Reps K mg Z M H ds vs → toPys ds = some ps → DpAll K H vs ps
  | [], vs, ps, h, e => by
    cases e
    rw [show vs = [] from h]
    exact .nil
  | d :: ds, vs, ps, h, e => by
    unfold toPys at e
    cases q1 : toPy d with
    | none => rw [q1] at e; cases e
    | some p =>
      rw [q1] at e
      cases q2 : toPys ds with
      | none => rw [q2] at e; cases e
      | some ps' =>
        rw [q2] at e
        cases e
        obtain ⟨v, r, rfl, h1, h2⟩ := h
        exact .cons (rep_dp d v p h1 q1) (reps_dp ds r ps' h2 q2)
end
end
def rPy (st : Stor) : R → Option PyData
  | .dat (.ref i) => match st[i]? with
    | some (.lst ds) => match toPys ds with
      | some ps => some (.list ps)
      | none => none
    | _ => none
  | .dat d => toPy d
  | .new ds => match toPys ds with
    | some ps => some (.list ps)
    | none => none
  | .view ds => match toPys ds with
    | some ps => some (.list ps)
    | none => none
  | .scr _ => none
theorem rpy_dp {B : Hp} {Z : Addr → Prop} {M : List Addr} {env : Env} {st : Stor} {σ : L2.St} {H : Hp} {r : R} {v : V} {p : PyData} (rs : RS G Z M env st σ H) (w : VR G B Z M H r v) (h : rPy st r = some p) : Dp G.K H v p := by
  have fin : ∀ ds : List D, lstOf st r = some ds → (match toPys ds with | some ps => some (PyData.list ps) | none => none) = some p → Dp G.K H v p := fun ds e q => by
    obtain ⟨a, vs, rfl, h1, h2⟩ := lst_rel rs w e
    cases q2 : toPys ds with
    | none => rw [q2] at q; cases q
    | some ps =>
      rw [q2] at q
      cases q
      exact .lst (SqL.of h1) (reps_dp ds vs ps h2 q2)
  cases r with
  | dat d =>
    cases d with
    | ref i =>
      unfold rPy at h
      dsimp only at h
      cases e : st[i]? with
      | none => rw [e] at h; cases h
      | some o =>
        rw [e] at h
        cases o with
        | ins c fs => cases h
        | dct k kvs => cases h
        | lst ds => exact fin ds (by unfold lstOf; dsimp only; rw [e]) h
    | _ => exact rep_dp _ _ _ w h
  | new ds => exact fin ds rfl h
  | view ds => exact fin ds rfl h
  | scr ds => cases h
def fEqB (neg : Bool) (r1 r2 : R) (st : Stor) : Out R := match rPy st r1, rPy st r2 with
  | some p, some q => if SeqAt.shaped p && SeqAt.shaped q then .ok (.dat (.bl (if neg then !PyData.eqv p q else PyData.eqv p q))) st else .bad
  | _, _ => .bad
theorem o_eq (hK : G.K = X.K) : Op2 X G W (fEqB false) (rEqD X.K) := by
  intro B Z M env st σ H Q r1 r2 v1 v2 rs w1 w2 p
  unfold fEqB at p
  split at p
  · rename_i p1 p2 e1 e2
    split at p
    · rename_i h
      rw [Bool.and_eq_true] at h
      exact ⟨p1, p2, hK ▸ rpy_dp rs w1 e1, hK ▸ rpy_dp rs w2 e2, h.1, h.2, ans_dat rs p rfl⟩
    · exact p.elim
  · exact p.elim
theorem o_ne (hK : G.K = X.K) : Op2 X G W (fEqB true) (rNeD X.K) := by
  intro B Z M env st σ H Q r1 r2 v1 v2 rs w1 w2 p
  unfold fEqB at p
  split at p
  · rename_i p1 p2 e1 e2
    split at p
    · rename_i h
      rw [Bool.and_eq_true] at h
      exact ⟨p1, p2, hK ▸ rpy_dp rs w1 e1, hK ▸ rpy_dp rs w2 e2, h.1, h.2, ans_dat rs p rfl⟩
    · exact p.elim
  · exact p.elim
theorem i_eq {k : Nat} (hr : Room k X.A) (hK : G.K = X.K) (ha : PE X e (rd G W a)) (hb : PE X e2 (rd G W b)) : PE X (.Compare e [.Eq] [e2] pos) (rd G W (eBin (fEqB false) a b)) := i_cmp (op_eqD hr.units) (o_eq hK) ha hb (nomark _)
theorem i_ne {k : Nat} (hr : Room k X.A) (hK : G.K = X.K) (ha : PE X e (rd G W a)) (hb : PE X e2 (rd G W b)) : PE X (.Compare e [.NotEq] [e2] pos) (rd G W (eBin (fEqB true) a b)) := i_cmp (op_neD hr.units) (o_ne hK) ha hb (nomark _)
def rInDT (K : PySem.W.Frag) : R2 := fun x y H Q => ∃ d ds, Dp K H x d ∧ Dp K H y (.tuple ds) ∧ SeqAt.shaped d = true ∧ SeqAt.shaped (.tuple ds) = true ∧ Q (.bl (ds.any fun z => PyData.eqv z d)) H
def rNotInDT (K : PySem.W.Frag) : R2 := fun x y H Q => ∃ d ds, Dp K H x d ∧ Dp K H y (.tuple ds) ∧ SeqAt.shaped d = true ∧ SeqAt.shaped (.tuple ds) = true ∧ Q (.bl (!ds.any fun z => PyData.eqv z d)) H
theorem op_inDT (hu : X.A.units + 65 < cLine) : OpR X (compareOp .In) (rInDT X.K) := by
  intro pins s σ H x y v u Q I rx ry h
  obtain ⟨d, ds, hd, he, sd, se, q⟩ := h
  obtain ⟨as, r1⟩ := Dp.reads I d x v hd rx
  obtain ⟨bs, r2⟩ := Dp.reads I (.tuple ds) y u he ry
  exact SeqAt.in_tuple_reads r2 r1 (SeqAt.canLay_of_shaped se) (SeqAt.canLay_of_shaped sd) (room_in_shaped sd hu) ⟨.bl _, H, I, rfl, q⟩
theorem op_notInDT (hu : X.A.units + 65 < cLine) : OpR X (compareOp .NotIn) (rNotInDT X.K) := by
  intro pins s σ H x y v u Q I rx ry h
  obtain ⟨d, ds, hd, he, sd, se, q⟩ := h
  obtain ⟨as, r1⟩ := Dp.reads I d x v hd rx
  obtain ⟨bs, r2⟩ := Dp.reads I (.tuple ds) y u he ry
  exact SeqAt.notIn_tuple_reads r2 r1 (SeqAt.canLay_of_shaped se) (SeqAt.canLay_of_shaped sd) (room_in_shaped sd hu) ⟨.bl _, H, I, rfl, q⟩
def pySeq : PyData → Option (List PyData)
  | .list ds => some ds
  | .tuple ds => some ds
  | _ => none
def fIn (neg : Bool) (r1 r2 : R) (st : Stor) : Out R := match rPy st r1, rPy st r2 with
  | some p, some q => match pySeq q with
    | some qs => if SeqAt.shaped p && SeqAt.shaped q then .ok (.dat (.bl (if neg then !qs.any (fun z => PyData.eqv z p) else qs.any fun z => PyData.eqv z p))) st else .bad
    | none => .bad
  | _, _ => .bad
theorem o_in (hK : G.K = X.K) : Op2 X G W (fIn false) (fun x y H Q => rInD X.K x y H Q ∨ rInDT X.K x y H Q) := by
  intro B Z M env st σ H Q r1 r2 v1 v2 rs w1 w2 p
  unfold fIn at p
  split at p
  · rename_i p1 p2 e1 e2
    split at p
    · rename_i qs eq
      split at p
      · rename_i h
        rw [Bool.and_eq_true] at h
        have d1 : Dp X.K H v1 p1 := hK ▸ rpy_dp rs w1 e1
        have d2 : Dp X.K H v2 p2 := hK ▸ rpy_dp rs w2 e2
        cases p2 with
        | list ds => cases eq; exact .inl ⟨p1, qs, d1, d2, h.1, h.2, ans_dat rs p rfl⟩
        | tuple ds => cases eq; exact .inr ⟨p1, qs, d1, d2, h.1, h.2, ans_dat rs p rfl⟩
        | _ => cases eq
      · exact p.elim
    · exact p.elim
  · exact p.elim
theorem o_notIn (hK : G.K = X.K) : Op2 X G W (fIn true) (fun x y H Q => rNotInD X.K x y H Q ∨ rNotInDT X.K x y H Q) := by
  intro B Z M env st σ H Q r1 r2 v1 v2 rs w1 w2 p
  unfold fIn at p
  split at p
  · rename_i p1 p2 e1 e2
    split at p
    · rename_i qs eq
      split at p
      · rename_i h
        rw [Bool.and_eq_true] at h
        have d1 : Dp X.K H v1 p1 := hK ▸ rpy_dp rs w1 e1
        have d2 : Dp X.K H v2 p2 := hK ▸ rpy_dp rs w2 e2
        cases p2 with
        | list ds => cases eq; exact .inl ⟨p1, qs, d1, d2, h.1, h.2, ans_dat rs p rfl⟩
        | tuple ds => cases eq; exact .inr ⟨p1, qs, d1, d2, h.1, h.2, ans_dat rs p rfl⟩
        | _ => cases eq
      · exact p.elim
    · exact p.elim
  · exact p.elim
theorem Room.u65 {k : Nat} {A : Around} (r : Room k A) : A.units + 65 < cLine := by have := r.un; omega
theorem i_in {k : Nat} (hr : Room k X.A) (hK : G.K = X.K) (ha : PE X e (rd G W a)) (hb : PE X e2 (rd G W b)) (hm : behindInMarks .In e2 = false := by rfl) : PE X (.Compare e [.In] [e2] pos) (rd G W (eBin (fIn false) a b)) :=
  i_cmp ((op_inD (Room.u65 hr)).or (op_inDT (Room.u65 hr))) (o_in hK) ha hb hm
theorem i_notIn {k : Nat} (hr : Room k X.A) (hK : G.K = X.K) (ha : PE X e (rd G W a)) (hb : PE X e2 (rd G W b)) (hm : behindInMarks .NotIn e2 = false := by rfl) : PE X (.Compare e [.NotIn] [e2] pos) (rd G W (eBin (fIn true) a b)) :=
  i_cmp ((op_notInD (Room.u65 hr)).or (op_notInDT (Room.u65 hr))) (o_notIn hK) ha hb hm

/-! ### subscripts -/
def fIx (r1 r2 : R) (st : Stor) : Out R := match seqOf st r1, r2 with
  | some ds, .dat (.int i) => match atI ds i with
    | some d => .ok (.dat d) st
    | none => .bad
  | _, _ => .bad
theorem Reps.atI {K : PySem.W.Frag} {mg : Str → Option Value} {Z : Addr → Prop} {M : List Addr} {H : Hp} {ds : List D} {vs : List V} {i : Int} {d : D} (h : Reps K mg Z M H ds vs) (e : atI ds i = some d) : ∃ v, L2.atI vs i = some v ∧ Rep K mg Z M H d v := by
  unfold L2.atI at e ⊢
  rw [h.length]
  cases q : ixN ds.length i with
  | none => rw [q] at e; cases e
  | some j =>
    rw [q] at e
    exact Reps.get h e
theorem o_ix (hK : G.K = X.K) : Op2 X G W fIx (fun x y H Q => rIxL X.K x y H Q ∨ rIxT X.K x y H Q) := by
  intro B Z M env st σ H Q r1 r2 v1 v2 rs w1 w2 p
  unfold fIx at p
  split at p
  · rename_i ds i es
    split at p
    · rename_i d ed
      obtain ⟨a1, vs, rfl, h1, h2⟩ := seq_rel rs w1 es
      cases w2
      obtain ⟨v, ev, rv⟩ := h2.atI ed
      rw [hK] at h1
      rcases h1 with h1 | h1
      · exact .inl ⟨a1, vs, i, v, rfl, rfl, h1, ev, ans_dat rs p rv⟩
      · exact .inr ⟨a1, vs, i, v, rfl, rfl, h1, ev, ans_dat rs p rv⟩
    · exact p.elim
  · exact p.elim
theorem i_at (hK : G.K = X.K) (ha : PE X e (rd G W a)) (hb : PE X e2 (rd G W b)) (hs : PlainIx e2 := by exact fun _ _ => rfl) : PE X (.Subscript e e2 pos) (rd G W (eBin fIx a b)) := i_ix (ix_list.or ix_tup) (o_ix hK) ha hb hs
/-- slices: parts that are left out, or ints -/
abbrev OV := Env → Stor → Out (Option Int)
def OPost (G : Ga) (W : WX) (Z : Addr → Prop) (M : List Addr) (env : Env) (σ : L2.St) (H : Hp) (Q : Option Int → Hp → Prop) : Out (Option Int) → Prop
  | .ok o st' => ∀ H' M' Z', RS G Z' M' env st' σ H' → Ext Z M H Z' M' H' → Q o H'
  | .exc x st' => ∀ c d H' M' Z', RS G Z' M' env st' σ H' → Ext Z M H Z' M' H' → XR G Z' M' H' x c d → W c d σ H'
  | .bad => False
def rdO (G : Ga) (W : WX) (ev : OV) : TO := fun σ H Q => ∃ Z M env st, RS G Z M env st σ H ∧ OPost G W Z M env σ H Q (ev env st)
def oNone : OV := fun _ st => .ok none st
def oSome (a : EV) : OV := fun env st => match a env st with
  | .ok (.dat (.int i)) st1 => .ok (some i) st1
  | .ok _ _ => .bad
  | .exc x s => .exc x s
  | .bad => .bad
theorem _root_.L2.PO.imp {e : Option Expr} {t t' : TO} (h : PO X e t) (i : ∀ σ H Q, t' σ H Q → t σ H Q) : PO X e t' := ⟨fun pins s σ H Q I w => h.run pins s σ H Q I (i σ H Q w)⟩
theorem i_onone : PO X none (rdO G W oNone) := po_none.imp fun σ H Q ⟨Z, M, env, st, rs, p⟩ => p H M Z rs (Ext.refl Z M H)
theorem i_osome (ha : PE X e (rd G W a)) : PO X (some e) (rdO G W (oSome a)) := (po_some ha).imp fun σ H Q ⟨Z, M, env, st, rs, p⟩ => by
  refine ⟨Z, M, env, st, rs, ?_⟩
  unfold oSome at p
  cases ea : a env st with
  | bad => rw [ea] at p; exact p
  | exc x s => rw [ea] at p; exact p
  | ok r st1 =>
    rw [ea] at p
    intro v H1 M1 Z1 rs1 e1 w1
    cases r with
    | dat d =>
      cases d with
      | int i => cases w1; exact ⟨i, rfl, p H1 M1 Z1 rs1 e1⟩
      | _ => exact p.elim
    | _ => exact p.elim
def cutD (xs : List D) (lo hi : Option Int) : List D := (xs.drop (HT.sIx xs.length 0 lo)).take (HT.sIx xs.length xs.length hi - HT.sIx xs.length 0 lo)
theorem Reps.cut {K : PySem.W.Frag} {mg : Str → Option Value} {Z : Addr → Prop} {M : List Addr} {H : Hp} {ds : List D} {vs : List V} (h : Reps K mg Z M H ds vs) (lo hi : Option Int) : Reps K mg Z M H (cutD ds lo hi) (cutV vs lo hi) := by
  unfold cutD cutV
  rw [h.length]
  exact (h.drop _).take _
def fCut (r : R) (lo hi : Option Int) (st : Stor) : Out R := match r with
  | .dat (.tup ds) => .ok (.dat (.tup (cutD ds lo hi))) st
  | r => match lstOf st r with
    | some ds => .ok (.new (cutD ds lo hi)) st
    | none => .bad
def eCut (a : EV) (l h : OV) : EV := fun env st => match a env st with
  | .ok r st1 => match l env st1 with
    | .ok lo st2 => match h env st2 with
      | .ok hi st3 => fCut r lo hi st3
      | .exc x s => .exc x s
      | .bad => .bad
    | .exc x s => .exc x s
    | .bad => .bad
  | .exc x s => .exc x s
  | .bad => .bad
theorem cutD_whole {ds : List D} {lo hi : Option Int} (h : HT.sIx ds.length 0 lo = 0 ∧ HT.sIx ds.length ds.length hi = ds.length) : cutD ds lo hi = ds := by
  unfold cutD
  rw [h.1, h.2, List.drop_zero, Nat.sub_zero, List.take_length]
theorem i_cut {lo hi : Option Expr} {l h : OV} {p2 : Pos} (hK : G.K = X.K) (ha : PE X e (rd G W a)) (hl : PO X lo (rdO G W l)) (hh : PO X hi (rdO G W h)) : PE X (.Subscript e (.Slice lo hi none p2) pos) (rd G W (eCut a l h)) :=
  (pe_slice (sl_tupA.or sl_list) ha hl hh).imp fun σ H Q ⟨Z, M, env, st, rs, p⟩ => by
    refine ⟨Z, M, env, st, rs, ?_⟩
    unfold eCut at p
    cases ea : a env st with
    | bad => rw [ea] at p; exact p
    | exc x s => rw [ea] at p; exact p
    | ok r st1 =>
      rw [ea] at p
      dsimp only at p
      intro v H1 M1 Z1 rs1 e1 w1
      refine ⟨Z1, M1, env, st1, rs1, ?_⟩
      cases el : l env st1 with
      | bad => rw [el] at p; exact p
      | exc x s => rw [el] at p; exact fun c d H' M' Z' rs' e' => p c d H' M' Z' rs' (e1.trans rs.mh e')
      | ok o1 st2 =>
        rw [el] at p
        dsimp only at p
        intro H2 M2 Z2 rs2 e2
        refine ⟨Z2, M2, env, st2, rs2, ?_⟩
        cases eh : h env st2 with
        | bad => rw [eh] at p; exact p
        | exc x s => rw [eh] at p; exact fun c d H' M' Z' rs' e' => p c d H' M' Z' rs' (e1.trans rs.mh (e2.trans rs1.mh e'))
        | ok o2 st3 =>
          rw [eh] at p
          dsimp only at p
          intro H3 M3 Z3 rs3 e3
          have w3 := w1.ext rs1.mz (e2.trans rs1.mh e3)
          have p3 := EPost.mono rs.mh (e1.trans rs.mh (e2.trans rs1.mh e3)) p
          unfold fCut at p3
          split at p3
          · rename_i ds
            obtain ⟨a1, vs, rfl, h1, h2⟩ := w3
            rw [hK] at h1
            refine .inl ⟨a1, vs, rfl, h1, ?_⟩
            refine ⟨fun hw => ?_, fun _ p' hp => ans_tup rs3 p3 hp (h2.cut o1 o2)⟩
            rw [h2.length] at hw
            rw [cutD_whole hw] at p3
            exact ans_dat rs3 p3 ⟨a1, vs, rfl, by rw [hK]; exact h1, h2⟩
          · split at p3
            · rename_i ds eds
              obtain ⟨a1, vs, rfl, h1, h2⟩ := lst_rel rs3 w3 eds
              exact .inr ⟨a1, vs, rfl, SqL.of h1, fun p' hp => ans_new rs3 p3 hp (h2.cut o1 o2)⟩
            · exact p3.elim
end
end PD

/-! PDd: tests, displays, built-in functions, calls of defs, comprehensions. -/
namespace PD
open PySem PySem.Spec PyProof.Rows L2
section
variable {X : Cx} {G : Ga} {W : WX} {e e2 e3 : Expr} {es : List Expr} {a b c : EV} {as : AV} {pos : Pos}
/-! ### tests -/
abbrev TV := Env → Stor → Out Bool
def BPost (G : Ga) (W : WX) (Z : Addr → Prop) (M : List Addr) (env : Env) (σ : L2.St) (H : Hp) (Q : Bool → Hp → Prop) : Out Bool → Prop
  | .ok o st' => ∀ H' M' Z', RS G Z' M' env st' σ H' → Ext Z M H Z' M' H' → Q o H'
  | .exc x st' => ∀ c d H' M' Z', RS G Z' M' env st' σ H' → Ext Z M H Z' M' H' → XR G Z' M' H' x c d → W c d σ H'
  | .bad => False
def rdT (G : Ga) (W : WX) (ev : TV) : TT := fun σ H Q => ∃ Z M env st, RS G Z M env st σ H ∧ BPost G W Z M env σ H Q (ev env st)
theorem BPost.mono {Z Z1 : Addr → Prop} {M M1 : List Addr} {env : Env} {σ : L2.St} {H H1 : Hp} {Q : Bool → Hp → Prop} {o : Out Bool} (mh : ∀ a ∈ M, H a ≠ none) (e : Ext Z M H Z1 M1 H1) (h : BPost G W Z M env σ H Q o) : BPost G W Z1 M1 env σ H1 Q o := by
  cases o with
  | ok r st => exact fun H' M' Z' rs x => h H' M' Z' rs (e.trans mh x)
  | exc y st => exact fun c d H' M' Z' rs x xr => h c d H' M' Z' rs (e.trans mh x) xr
  | bad => exact h
def tVal (a : EV) : TV := fun env st => match a env st with
  | .ok (.dat (.bl k)) st1 => .ok k st1
  | .ok _ _ => .bad
  | .exc x s => .exc x s
  | .bad => .bad
theorem rd_tval {σ : L2.St} {H : Hp} {Q : Bool → Hp → Prop} (h : rdT G W (tVal a) σ H Q) : tB (rd G W a) σ H Q := by
  obtain ⟨Z, M, env, st, rs, p⟩ := h
  refine ⟨Z, M, env, st, rs, ?_⟩
  unfold tVal at p
  cases ea : a env st with
  | bad => rw [ea] at p; exact p
  | exc x s => rw [ea] at p; exact p
  | ok r st1 =>
    rw [ea] at p
    intro v H1 M1 Z1 rs1 e1 w1
    cases r with
    | dat d =>
      cases d with
      | bl i => cases w1; exact ⟨i, rfl, p H1 M1 Z1 rs1 e1⟩
      | _ => exact p.elim
    | _ => exact p.elim
theorem t_val (ha : PE X e (rd G W a)) (he : ∀ whole, isTrue e X.env whole = (do let v ← whole; standAt e.pos; holding [v] (truthy v)) := by intro _; rfl) : PT X e (rdT G W (tVal a)) := (pt_val ha he).imp fun σ H Q h => rd_tval h
theorem t_cmp {f : R → R → Stor → Out R} {r : R2} {op : CmpOp} (ho : OpR X (compareOp op) r) (hf : Op2 X G W f r) (ha : PE X e (rd G W a)) (hb : PE X e2 (rd G W b)) (hm : behindInMarks op e2 = false) : PT X (.Compare e [op] [e2] pos) (rdT G W (tVal (eBin f a b))) :=
  (pt_cmpR ho ha hb hm).imp fun σ H Q h => by
    obtain ⟨Z, M, env, st, rs, p⟩ := rd_tval h
    exact rd_bin hf ⟨Z, M, env, st, rs, p⟩
theorem t_eq {k : Nat} (hr : Room k X.A) (hK : G.K = X.K) (ha : PE X e (rd G W a)) (hb : PE X e2 (rd G W b)) : PT X (.Compare e [.Eq] [e2] pos) (rdT G W (tVal (eBin (fEqB false) a b))) := t_cmp (op_eqD hr.units) (o_eq hK) ha hb (nomark _)
theorem t_ne {k : Nat} (hr : Room k X.A) (hK : G.K = X.K) (ha : PE X e (rd G W a)) (hb : PE X e2 (rd G W b)) : PT X (.Compare e [.NotEq] [e2] pos) (rdT G W (tVal (eBin (fEqB true) a b))) := t_cmp (op_neD hr.units) (o_ne hK) ha hb (nomark _)
theorem t_lt (ha : PE X e (rd G W a)) (hb : PE X e2 (rd G W b)) : PT X (.Compare e [.Lt] [e2] pos) (rdT G W (tVal (eBin fLt a b))) := t_cmp op_lt o_lt ha hb (nomark _)
theorem t_le (ha : PE X e (rd G W a)) (hb : PE X e2 (rd G W b)) : PT X (.Compare e [.LtE] [e2] pos) (rdT G W (tVal (eBin fLe a b))) := t_cmp op_le o_le ha hb (nomark _)
theorem t_gt (ha : PE X e (rd G W a)) (hb : PE X e2 (rd G W b)) : PT X (.Compare e [.Gt] [e2] pos) (rdT G W (tVal (eBin fGt a b))) := t_cmp op_gt o_gt ha hb (nomark _)
theorem t_ge (ha : PE X e (rd G W a)) (hb : PE X e2 (rd G W b)) : PT X (.Compare e [.GtE] [e2] pos) (rdT G W (tVal (eBin fGe a b))) := t_cmp op_ge o_ge ha hb (nomark _)
theorem t_in {k : Nat} (hr : Room k X.A) (hK : G.K = X.K) (ha : PE X e (rd G W a)) (hb : PE X e2 (rd G W b)) (hm : behindInMarks .In e2 = false := by rfl) : PT X (.Compare e [.In] [e2] pos) (rdT G W (tVal (eBin (fIn false) a b))) :=
  t_cmp ((op_inD (Room.u65 hr)).or (op_inDT (Room.u65 hr))) (o_in hK) ha hb hm
theorem t_notIn {k : Nat} (hr : Room k X.A) (hK : G.K = X.K) (ha : PE X e (rd G W a)) (hb : PE X e2 (rd G W b)) (hm : behindInMarks .NotIn e2 = false := by rfl) : PT X (.Compare e [.NotIn] [e2] pos) (rdT G W (tVal (eBin (fIn true) a b))) :=
  t_cmp ((op_notInD (Room.u65 hr)).or (op_notInDT (Room.u65 hr))) (o_notIn hK) ha hb hm
/-- a < b < c -/
def eChain (f g : R → R → Stor → Out R) (a b c : EV) : EV := fun env st => match a env st with
  | .ok r1 st1 => match b env st1 with
    | .ok r2 st2 => match f r1 r2 st2 with
      | .ok (.dat (.bl true)) st3 => match c env st3 with
        | .ok r3 st4 => g r2 r3 st4
        | .exc x s => .exc x s
        | .bad => .bad
      | .ok (.dat (.bl false)) st3 => .ok (.dat (.bl false)) st3
      | _ => .bad
    | .exc x s => .exc x s
    | .bad => .bad
  | .exc x s => .exc x s
  | .bad => .bad
theorem rd_chain {f g : R → R → Stor → Out R} {r r' : R2} (hf : Op2 X G W f r) (hg : Op2 X G W g r') {σ : L2.St} {H : Hp} {Q : VK} (h : rd G W (eChain f g a b c) σ H Q) : tChain r r' (rd G W a) (rd G W b) (rd G W c) σ H Q := by
  obtain ⟨Z, M, env, st, rs, p⟩ := h
  refine ⟨Z, M, env, st, rs, ?_⟩
  unfold eChain at p
  cases ea : a env st with
  | bad => rw [ea] at p; exact p
  | exc x s => rw [ea] at p; exact p
  | ok r1 st1 =>
    rw [ea] at p
    dsimp only at p
    intro v1 H1 M1 Z1 rs1 e1 w1
    refine ⟨Z1, M1, env, st1, rs1, ?_⟩
    cases eb : b env st1 with
    | bad => rw [eb] at p; exact p
    | exc x s => rw [eb] at p; exact fun c d H' M' Z' rs' e' => p c d H' M' Z' rs' (e1.trans rs.mh e')
    | ok r2 st2 =>
      rw [eb] at p
      dsimp only at p
      intro v2 H2 M2 Z2 rs2 e2 w2
      have e12 := e1.trans rs.mh e2
      refine hf H Z2 M2 env st2 σ H2 _ r1 r2 v1 v2 rs2 (w1.ext rs1.mz e2) (w2.base e1.h) ?_
      cases ef : f r1 r2 st2 with
      | bad => rw [ef] at p; exact p
      | exc x s => rw [ef] at p; exact p.elim
      | ok r3 st3 =>
        rw [ef] at p
        intro v3 H3 M3 Z3 rs3 e3 w3
        cases r3 with
        | dat d =>
          cases d with
          | bl k =>
            cases w3
            refine ⟨k, rfl, ?_⟩
            cases k with
            | false =>
              rw [if_neg Bool.false_ne_true]
              exact p _ H3 M3 Z3 rs3 (e12.trans rs.mh e3) rfl
            | true =>
              rw [if_pos rfl]
              refine ⟨Z3, M3, env, st3, rs3, ?_⟩
              dsimp only at p
              cases ec : c env st3 with
              | bad => rw [ec] at p; exact p
              | exc x s => rw [ec] at p; exact fun c d H' M' Z' rs' e' => p c d H' M' Z' rs' ((e12.trans rs.mh e3).trans rs.mh e')
              | ok r4 st4 =>
                rw [ec] at p
                dsimp only at p
                intro v4 H4 M4 Z4 rs4 e4 w4
                exact hg H Z4 M4 env st4 σ H4 Q r2 r4 v2 v4 rs4 ((w2.base e1.h).ext rs2.mz (e3.trans rs2.mh e4)) (w4.base (fun a h => e3.h a (e12.h a h))) (EPost.mono rs.mh ((e12.trans rs.mh e3).trans rs.mh e4) p)
          | _ => exact p.elim
        | _ => exact p.elim
theorem i_chain {f g : R → R → Stor → Out R} {r r' : R2} {op op' : CmpOp} (ho : OpR X (compareOp op) r) (ho' : OpR X (compareOp op') r') (hf : Op2 X G W f r) (hg : Op2 X G W g r') (ha : PE X e (rd G W a)) (hb : PE X e2 (rd G W b)) (hc : PE X e3 (rd G W c))
    (hm : lastMarks [op, op'] [e2, e3] = false := by with_unfolding_all rfl) : PE X (.Compare e [op, op'] [e2, e3] pos) (rd G W (eChain f g a b c)) := (pe_chain ho ho' ha hb hc hm).imp fun σ H Q h => rd_chain hf hg h
theorem t_chain {f g : R → R → Stor → Out R} {r r' : R2} {op op' : CmpOp} (ho : OpR X (compareOp op) r) (ho' : OpR X (compareOp op') r') (hf : Op2 X G W f r) (hg : Op2 X G W g r') (ha : PE X e (rd G W a)) (hb : PE X e2 (rd G W b)) (hc : PE X e3 (rd G W c))
    (hm : lastMarks [op, op'] [e2, e3] = false := by with_unfolding_all rfl) : PT X (.Compare e [op, op'] [e2, e3] pos) (rdT G W (tVal (eChain f g a b c))) := (pt_chain ho ho' ha hb hc hm).imp fun σ H Q h => by
    obtain ⟨Z, M, env, st, rs, p⟩ := rd_tval h
    exact rd_chain hf hg ⟨Z, M, env, st, rs, p⟩
/-- not, and, or as tests -/
def tNotT (t : TV) : TV := fun env st => match t env st with
  | .ok k st1 => .ok (!k) st1
  | .exc x s => .exc x s
  | .bad => .bad
def tAndT (t u : TV) : TV := fun env st => match t env st with
  | .ok true st1 => u env st1
  | .ok false st1 => .ok false st1
  | .exc x s => .exc x s
  | .bad => .bad
def tOrT (t u : TV) : TV := fun env st => match t env st with
  | .ok true st1 => .ok true st1
  | .ok false st1 => u env st1
  | .exc x s => .exc x s
  | .bad => .bad
variable {t u : TV}
theorem t_not (ha : PT X e (rdT G W t)) : PT X (.UnaryOp .Not e pos) (rdT G W (tNotT t)) := (pt_not ha).imp fun σ H Q ⟨Z, M, env, st, rs, p⟩ => by
  refine ⟨Z, M, env, st, rs, ?_⟩
  unfold tNotT at p
  cases ea : t env st with
  | bad => rw [ea] at p; exact p
  | exc x s => rw [ea] at p; exact p
  | ok k st1 => rw [ea] at p; exact fun H1 M1 Z1 rs1 e1 => p H1 M1 Z1 rs1 e1
theorem _root_.L2.PW.imp {e : Expr} {t t' : TT} (h : PW X e t) (i : ∀ σ H Q, t' σ H Q → t σ H Q) : PW X e t' := ⟨fun wh pins s σ H Q I w => h.run wh pins s σ H Q I (i σ H Q w)⟩
theorem w_and1 (ha : PT X e (rdT G W t)) : PW X (.BoolOp .And [e] pos) (rdT G W t) := pw_and1 ha
theorem w_or1 (ha : PT X e (rdT G W t)) : PW X (.BoolOp .Or [e] pos) (rdT G W t) := pw_or1 ha
theorem w_and {rest : List Expr} (ha : PT X e (rdT G W t)) (hb : PW X (.BoolOp .And (e2 :: rest) pos) (rdT G W u)) : PW X (.BoolOp .And (e :: e2 :: rest) pos) (rdT G W (tAndT t u)) := (pw_and ha hb).imp fun σ H Q ⟨Z, M, env, st, rs, p⟩ => by
  refine ⟨Z, M, env, st, rs, ?_⟩
  unfold tAndT at p
  cases ea : t env st with
  | bad => rw [ea] at p; exact p
  | exc x s => rw [ea] at p; exact p
  | ok k st1 =>
    rw [ea] at p
    intro H1 M1 Z1 rs1 e1
    cases k with
    | true => rw [if_pos rfl]; exact ⟨Z1, M1, env, st1, rs1, BPost.mono rs.mh e1 p⟩
    | false => rw [if_neg Bool.false_ne_true]; exact p H1 M1 Z1 rs1 e1
theorem w_or {rest : List Expr} (ha : PT X e (rdT G W t)) (hb : PW X (.BoolOp .Or (e2 :: rest) pos) (rdT G W u)) : PW X (.BoolOp .Or (e :: e2 :: rest) pos) (rdT G W (tOrT t u)) := (pw_or ha hb).imp fun σ H Q ⟨Z, M, env, st, rs, p⟩ => by
  refine ⟨Z, M, env, st, rs, ?_⟩
  unfold tOrT at p
  cases ea : t env st with
  | bad => rw [ea] at p; exact p
  | exc x s => rw [ea] at p; exact p
  | ok k st1 =>
    rw [ea] at p
    intro H1 M1 Z1 rs1 e1
    cases k with
    | true => rw [if_pos rfl]; exact p H1 M1 Z1 rs1 e1
    | false => rw [if_neg Bool.false_ne_true]; exact ⟨Z1, M1, env, st1, rs1, BPost.mono rs.mh e1 p⟩
/-- .. as values (bools ahead of the last) -/
def eNot (a : EV) : EV := fun env st => match a env st with
  | .ok (.dat (.bl k)) st1 => .ok (.dat (.bl (!k))) st1
  | .ok _ _ => .bad
  | .exc x s => .exc x s
  | .bad => .bad
def eAnd (a b : EV) : EV := fun env st => match a env st with
  | .ok (.dat (.bl true)) st1 => b env st1
  | .ok (.dat (.bl false)) st1 => .ok (.dat (.bl false)) st1
  | .ok _ _ => .bad
  | .exc x s => .exc x s
  | .bad => .bad
def eOr (a b : EV) : EV := fun env st => match a env st with
  | .ok (.dat (.bl true)) st1 => .ok (.dat (.bl true)) st1
  | .ok (.dat (.bl false)) st1 => b env st1
  | .ok _ _ => .bad
  | .exc x s => .exc x s
  | .bad => .bad
theorem i_not (ha : PE X e (rd G W a)) : PE X (.UnaryOp .Not e pos) (rd G W (eNot a)) := (pe_not ha).imp fun σ H Q ⟨Z, M, env, st, rs, p⟩ => by
  refine ⟨Z, M, env, st, rs, ?_⟩
  unfold eNot at p
  cases ea : a env st with
  | bad => rw [ea] at p; exact p
  | exc x s => rw [ea] at p; exact p
  | ok r st1 =>
    rw [ea] at p
    intro v H1 M1 Z1 rs1 e1 w1
    cases r with
    | dat d =>
      cases d with
      | bl i => cases w1; exact ⟨i, rfl, p _ H1 M1 Z1 rs1 e1 rfl⟩
      | _ => exact p.elim
    | _ => exact p.elim
theorem i_one {op} (ha : PE X e (rd G W a)) : PE X (.BoolOp op [e] pos) (rd G W a) := pe_one ha
theorem i_and {rest : List Expr} (ha : PE X e (rd G W a)) (hb : PE X (.BoolOp .And (e2 :: rest) pos) (rd G W b)) : PE X (.BoolOp .And (e :: e2 :: rest) pos) (rd G W (eAnd a b)) := (pe_and ha hb).imp fun σ H Q ⟨Z, M, env, st, rs, p⟩ => by
  refine ⟨Z, M, env, st, rs, ?_⟩
  unfold eAnd at p
  cases ea : a env st with
  | bad => rw [ea] at p; exact p
  | exc x s => rw [ea] at p; exact p
  | ok r st1 =>
    rw [ea] at p
    intro v H1 M1 Z1 rs1 e1 w1
    cases r with
    | dat d =>
      cases d with
      | bl i =>
        cases w1
        refine ⟨i, rfl, ?_⟩
        cases i with
        | true => rw [if_pos rfl]; exact ⟨Z1, M1, env, st1, rs1, EPost.mono rs.mh e1 p⟩
        | false => rw [if_neg Bool.false_ne_true]; exact p _ H1 M1 Z1 rs1 e1 rfl
      | _ => exact p.elim
    | _ => exact p.elim
theorem i_or {rest : List Expr} (ha : PE X e (rd G W a)) (hb : PE X (.BoolOp .Or (e2 :: rest) pos) (rd G W b)) : PE X (.BoolOp .Or (e :: e2 :: rest) pos) (rd G W (eOr a b)) := (pe_or ha hb).imp fun σ H Q ⟨Z, M, env, st, rs, p⟩ => by
  refine ⟨Z, M, env, st, rs, ?_⟩
  unfold eOr at p
  cases ea : a env st with
  | bad => rw [ea] at p; exact p
  | exc x s => rw [ea] at p; exact p
  | ok r st1 =>
    rw [ea] at p
    intro v H1 M1 Z1 rs1 e1 w1
    cases r with
    | dat d =>
      cases d with
      | bl i =>
        cases w1
        refine ⟨i, rfl, ?_⟩
        cases i with
        | true => rw [if_pos rfl]; exact p _ H1 M1 Z1 rs1 e1 rfl
        | false => rw [if_neg Bool.false_ne_true]; exact ⟨Z1, M1, env, st1, rs1, EPost.mono rs.mh e1 p⟩
      | _ => exact p.elim
    | _ => exact p.elim
def eIf (t : TV) (a b : EV) : EV := fun env st => match t env st with
  | .ok true st1 => a env st1
  | .ok false st1 => b env st1
  | .exc x s => .exc x s
  | .bad => .bad
theorem i_if (ht : PT X e3 (rdT G W t)) (ha : PE X e (rd G W a)) (hb : PE X e2 (rd G W b)) : PE X (.IfExp e3 e e2 pos) (rd G W (eIf t a b)) := (pe_ifExp ht ha hb).imp fun σ H Q ⟨Z, M, env, st, rs, p⟩ => by
  refine ⟨Z, M, env, st, rs, ?_⟩
  unfold eIf at p
  cases ea : t env st with
  | bad => rw [ea] at p; exact p
  | exc x s => rw [ea] at p; exact p
  | ok k st1 =>
    rw [ea] at p
    intro H1 M1 Z1 rs1 e1
    cases k with
    | true => rw [if_pos rfl]; exact ⟨Z1, M1, env, st1, rs1, EPost.mono rs.mh e1 p⟩
    | false => rw [if_neg Bool.false_ne_true]; exact ⟨Z1, M1, env, st1, rs1, EPost.mono rs.mh e1 p⟩

/-! ### displays -/
def R.froz : R → Option D
  | .dat d => some d
  | .new ds => some (.lst ds)
  | _ => none
def frozAll : List R → Option (List D)
  | [] => some []
  | r :: rs => match r.froz, frozAll rs with
    | some d, some ds => some (d :: ds)
    | _, _ => none
theorem froz_rel {B : Hp} {Z : Addr → Prop} {M : List Addr} {H : Hp} {r : R} {v : V} {d : D} (w : VR G B Z M H r v) (h : r.froz = some d) : ∃ T : List Addr, (∀ p ∈ T, B p = none ∧ p ∉ M) ∧ Rep G.K G.mg (ZFree Z T) M H d v := by
  cases r with
  | dat d' => cases h; exact ⟨[], by simp, Rep.free w⟩
  | new ds =>
    cases h
    obtain ⟨p, vs, rfl, h0, _, np, hp, r⟩ := w
    exact ⟨[p], fun q hq => by simp at hq; subst hq; exact ⟨h0, np⟩, p, vs, rfl, fun z => z.2 (by simp), hp, Reps.free r⟩
  | view ds => cases h
  | scr ds => cases h
theorem ZFree.app {Z : Addr → Prop} {T T' : List Addr} {a : Addr} (h : ZFree Z (T ++ T') a) : ZFree Z T a ∧ ZFree Z T' a := ⟨⟨h.1, fun q => h.2 (List.mem_append_left _ q)⟩, ⟨h.1, fun q => h.2 (List.mem_append_right _ q)⟩⟩
theorem frozAll_rel {B : Hp} {Z : Addr → Prop} {M : List Addr} {H : Hp} : ∀ {rs : List R} {vs : List V} {ds : List D}, Paired (VR G B Z M H) rs vs → frozAll rs = some ds → ∃ T : List Addr, (∀ p ∈ T, B p = none ∧ p ∉ M) ∧ Reps G.K G.mg (ZFree Z T) M H ds vs
  | _, _, _, .nil, h => by cases h; exact ⟨[], by simp, rfl⟩
  | r :: rs, v :: vs, ds, .cons w ws, h => by
    unfold frozAll at h
    split at h
    · rename_i d ds' h1 h2
      cases h
      obtain ⟨T1, q1, r1⟩ := froz_rel w h1
      obtain ⟨T2, q2, r2⟩ := frozAll_rel ws h2
      refine ⟨T1 ++ T2, fun p hp => (List.mem_append.mp hp).elim (q1 p) (q2 p), v, vs, rfl, ?_, ?_⟩
      · exact Rep.mono (fun _ _ h => h) (fun _ _ e _ => e) (fun _ _ z => (ZFree.app z).1) _ _ r1
      · exact Reps.mono (fun _ _ h => h) (fun _ _ e _ => e) (fun _ _ z => (ZFree.app z).2) _ _ r2
    · cases h
def eTup (as : AV) : EV := fun env st => match as env st with
  | .ok rs st1 => match frozAll rs with
    | some ds => if ds.length ≤ 1000000 then .ok (.dat (.tup ds)) st1 else .bad
    | none => .bad
  | .exc x s => .exc x s
  | .bad => .bad
def eLst (as : AV) : EV := fun env st => match as env st with
  | .ok rs st1 => match frozAll rs with
    | some ds => if ds.length ≤ 1000000 then .ok (.new ds) st1 else .bad
    | none => .bad
  | .exc x s => .exc x s
  | .bad => .bad
theorem i_tup {x1} (h : PA X es (rdA G W as)) : PE X (.Tuple es x1 pos) (rd G W (eTup as)) := (pe_tup h).imp fun σ H Q ⟨Z, M, env, st, rs, p⟩ => by
  refine ⟨Z, M, env, st, rs, ?_⟩
  unfold eTup at p
  cases ea : as env st with
  | bad => rw [ea] at p; exact p
  | exc x s => rw [ea] at p; exact p
  | ok rr st1 =>
    rw [ea] at p
    dsimp only at p
    intro vs H1 M1 Z1 rs1 e1 w1
    cases ef : frozAll rr with
    | none => rw [ef] at p; exact p.elim
    | some ds =>
      rw [ef] at p
      dsimp only at p
      split at p
      · rename_i hz
        obtain ⟨T, hT, r⟩ := frozAll_rel w1 ef
        exact ⟨lim_le (by rw [r.length]; exact hz), fun q hq => ans_tup (rs.free rs1 hT) (EPost.mono rs.mh (e1.free rs.sto.zh hT) p) hq r⟩
      · exact p.elim
theorem i_lst (h : PA X es (rdA G W as)) : PE X (.List es pos) (rd G W (eLst as)) := (pe_lst h).imp fun σ H Q ⟨Z, M, env, st, rs, p⟩ => by
  refine ⟨Z, M, env, st, rs, ?_⟩
  unfold eLst at p
  cases ea : as env st with
  | bad => rw [ea] at p; exact p
  | exc x s => rw [ea] at p; exact p
  | ok rr st1 =>
    rw [ea] at p
    dsimp only at p
    intro vs H1 M1 Z1 rs1 e1 w1
    cases ef : frozAll rr with
    | none => rw [ef] at p; exact p.elim
    | some ds =>
      rw [ef] at p
      dsimp only at p
      split at p
      · rename_i hz
        obtain ⟨T, hT, r⟩ := frozAll_rel w1 ef
        exact ⟨lim_le (by rw [r.length]; exact hz), fun q hq => ans_new (rs.free rs1 hT) (EPost.mono rs.mh (e1.free rs.sto.zh hT) p) hq r⟩
      · exact p.elim

/-! ### built-in functions -/
theorem i_callB {f : List R → Stor → Out R} {r : List V → Hp → VK → Prop} {x : Str} {id : String} {p : Pos} (hc : CallR X (.builtin id) r) (hf : OpA X G W f r) (hm : X.mg x = none) (hv : bootBuiltins x = some (.builtin id)) (ha : PA X (e :: es) (rdA G W as)) (hg : Gl X x := by rfl) (hn : x ≠ "__name__" := by decide) (hdb : (x == ("__debug__" : Str)) = false := by decide)
    (he : starEach (e :: es) X.env = (false, eval e X.env) :: starEach es X.env := by rfl) (hpl : (backTo pos (starEach es X.env)).any (·.1) = false := by rfl) : PE X (.Call (.Name x p) (e :: es) [] pos) (rd G W (eAp f as)) := (pe_callB hc hg hm hv ha hn hdb he hpl).imp fun σ H Q h => rd_ap hf h
theorem i_callTy {f : List R → Stor → Out R} {r : List V → Hp → VK → Prop} {x : Str} {T : String} {p : Pos} (hc : CallR X (.type T) r) (hf : OpA X G W f r) (hm : X.mg x = none) (hv : bootBuiltins x = some (.type T)) (ha : PA X (e :: es) (rdA G W as)) (hg : Gl X x := by rfl) (hn : x ≠ "__name__" := by decide) (hdb : (x == ("__debug__" : Str)) = false := by decide)
    (he : starEach (e :: es) X.env = (false, eval e X.env) :: starEach es X.env := by rfl) (hpl : (backTo pos (starEach es X.env)).any (·.1) = false := by rfl) : PE X (.Call (.Name x p) (e :: es) [] pos) (rd G W (eAp f as)) := (pe_callTy hc hg hm hv ha hn hdb he hpl).imp fun σ H Q h => rd_ap hf h
/-- a function of one value, as one of the list of values -/
def f1 (f : R → Stor → Out R) : List R → Stor → Out R := fun rs st => match rs with
  | [r] => f r st
  | _ => .bad
theorem o_f1 {f : R → Stor → Out R} {r : List V → Hp → VK → Prop} (h : Op1 X G W f (fun v => r [v])) : OpA X G W (f1 f) r := by
  intro B Z M env st σ H Q rs vs s w p
  cases w with
  | nil => exact p.elim
  | cons w1 w2 =>
    cases w2 with
    | nil => exact h B Z M env st σ H Q _ _ s w1 p
    | cons _ _ => exact p.elim
def fLen (r : R) (st : Stor) : Out R := match r with
  | .dat (.str s) => if s.length ≤ 1000000 then .ok (.dat (.int s.length)) st else .bad
  | r => match seqOf st r with
    | some ds => .ok (.dat (.int ds.length)) st
    | none => .bad
theorem o_len (hK : G.K = X.K) : OpA X G W (f1 fLen) (fun xs H Q => (∃ p ys, xs = [.ref p] ∧ (SqL X.K H p ys ∨ SqT X.K H p ys) ∧ Q (.int ys.length) H) ∨ (∃ z, xs = [.str z] ∧ z.length ≤ sizeLine ∧ Q (.int z.length) H)) := o_f1 fun B Z M env st σ H Q r v rs w p => by
  unfold fLen at p
  split at p
  · cases w
    split at p
    · rename_i h
      exact .inr ⟨_, rfl, lim_le h, ans_dat rs p rfl⟩
    · exact p.elim
  · split at p
    · rename_i ds e
      obtain ⟨a1, vs, rfl, h1, h2⟩ := seq_rel rs w e
      rw [hK] at h1
      exact .inl ⟨a1, vs, rfl, h1, ans_dat rs p (by rw [h2.length]; exact rfl)⟩
    · exact p.elim
theorem i_len {p : Pos} (hK : G.K = X.K) (hm : X.mg "len" = none) (ha : PA X [e] (rdA G W as)) (hg : Gl X "len" := by rfl) (he : starEach [e] X.env = (false, eval e X.env) :: starEach [] X.env := by rfl) (hpl : (backTo pos (starEach [] X.env)).any (·.1) = false := by rfl) :
    PE X (.Call (.Name "len" p) [e] [] pos) (rd G W (eAp (f1 fLen) as)) := i_callB (call_len_seq.or call_len_str) (o_len hK) hm PySem.boot_len ha hg (by decide) (by decide) he hpl
def fTuple (r : R) (st : Stor) : Out R := match r with
  | .dat (.tup ds) => .ok (.dat (.tup ds)) st
  | r => match lstOf st r with
    | some ds => .ok (.dat (.tup ds)) st
    | none => .bad
theorem o_tuple (hK : G.K = X.K) : OpA X G W (f1 fTuple) (fun xs H Q => ∃ a ys, xs = [.ref a] ∧ ((SqL X.K H a ys ∧ ∀ l, H l = none → Q (.ref l) (upd H l (.tup ys))) ∨ (SqT X.K H a ys ∧ Q (.ref a) H))) := o_f1 fun B Z M env st σ H Q r v rs w p => by
  unfold fTuple at p
  split at p
  · obtain ⟨a1, vs, rfl, h1, h2⟩ := w
    exact ⟨a1, vs, rfl, .inr ⟨hK ▸ h1, ans_dat rs p ⟨a1, vs, rfl, h1, h2⟩⟩⟩
  · split at p
    · rename_i ds e
      obtain ⟨a1, vs, rfl, h1, h2⟩ := lst_rel rs w e
      exact ⟨a1, vs, rfl, .inl ⟨SqL.of h1, fun l hl => ans_tup rs p hl h2⟩⟩
    · exact p.elim
def fList (r : R) (st : Stor) : Out R := match seqOf st r with
  | some ds => .ok (.new ds) st
  | none => .bad
theorem o_list (hK : G.K = X.K) : OpA X G W (f1 fList) (fun xs H Q => ∃ p ys, xs = [.ref p] ∧ (SqL X.K H p ys ∨ SqT X.K H p ys) ∧ ∀ l, H l = none → Q (.ref l) (upd H l (.lst ys))) := o_f1 fun B Z M env st σ H Q r v rs w p => by
  unfold fList at p
  split at p
  · rename_i ds e
    obtain ⟨a1, vs, rfl, h1, h2⟩ := seq_rel rs w e
    rw [hK] at h1
    exact ⟨a1, vs, rfl, h1, fun l hl => ans_new rs p hl h2⟩
  · exact p.elim
def fInt (r : R) (st : Stor) : Out R := match r with
  | .dat (.int i) => .ok (.dat (.int i)) st
  | .dat (.bl k) => .ok (.dat (.int (if k then 1 else 0))) st
  | _ => .bad
theorem o_int : OpA X G W (f1 fInt) (fun xs H Q => (∃ i, xs = [.int i] ∧ Q (.int i) H) ∨ ∃ k, xs = [.bl k] ∧ Q (.int (if k then 1 else 0)) H) := o_f1 fun B Z M env st σ H Q r v rs w p => by
  unfold fInt at p
  split at p
  · cases w; exact .inl ⟨_, rfl, ans_dat rs p rfl⟩
  · cases w; exact .inr ⟨_, rfl, ans_dat rs p rfl⟩
  · exact p.elim
def fStr (r : R) (st : Stor) : Out R := match r with
  | .dat (.int i) => if i.natAbs < 2 ^ 64 then .ok (.dat (.str (toString i))) st else .bad
  | _ => .bad
theorem o_str : OpA X G W (f1 fStr) (fun xs H Q => ∃ i, xs = [.int i] ∧ i.natAbs.log2 < 1920 ∧ Q (.str (toString i)) H) := o_f1 fun B Z M env st σ H Q r v rs w p => by
  unfold fStr at p
  split at p
  · cases w
    split at p
    · rename_i h
      exact ⟨_, rfl, Nat.lt_of_lt_of_le (PySem.Flt.log2_lt_of (by decide) h) (by decide), ans_dat rs p rfl⟩
    · exact p.elim
  · exact p.elim
/-- isinstance(x, T) -/
inductive Ty where
  | non | bl | int | str | tup | lst
def Ty.nm : Ty → String
  | .non => "NoneType"
  | .bl => "bool"
  | .int => "int"
  | .str => "str"
  | .tup => "tuple"
  | .lst => "list"
def Ty.isi : Ty → Ty → Bool
  | .bl, .bl => true
  | .bl, .int => true
  | .int, .int => true
  | .str, .str => true
  | .tup, .tup => true
  | .lst, .lst => true
  | _, _ => false
theorem Ty.kit : ∀ t T : Ty, (match T with | .non => False | _ => True) → kitB t.nm T.nm = some (t.isi T)
  | t, .non, h => h.elim
  | .non, .bl, _ => by decide +kernel
  | .bl, .bl, _ => by decide +kernel
  | .int, .bl, _ => by decide +kernel
  | .str, .bl, _ => by decide +kernel
  | .tup, .bl, _ => by decide +kernel
  | .lst, .bl, _ => by decide +kernel
  | .non, .int, _ => by decide +kernel
  | .bl, .int, _ => by decide +kernel
  | .int, .int, _ => by decide +kernel
  | .str, .int, _ => by decide +kernel
  | .tup, .int, _ => by decide +kernel
  | .lst, .int, _ => by decide +kernel
  | .non, .str, _ => by decide +kernel
  | .bl, .str, _ => by decide +kernel
  | .int, .str, _ => by decide +kernel
  | .str, .str, _ => by decide +kernel
  | .tup, .str, _ => by decide +kernel
  | .lst, .str, _ => by decide +kernel
  | .non, .tup, _ => by decide +kernel
  | .bl, .tup, _ => by decide +kernel
  | .int, .tup, _ => by decide +kernel
  | .str, .tup, _ => by decide +kernel
  | .tup, .tup, _ => by decide +kernel
  | .lst, .tup, _ => by decide +kernel
  | .non, .lst, _ => by decide +kernel
  | .bl, .lst, _ => by decide +kernel
  | .int, .lst, _ => by decide +kernel
  | .str, .lst, _ => by decide +kernel
  | .tup, .lst, _ => by decide +kernel
  | .lst, .lst, _ => by decide +kernel
def tyOf (st : Stor) : R → Option Ty
  | .dat .non => some .non
  | .dat (.bl _) => some .bl
  | .dat (.int _) => some .int
  | .dat (.str _) => some .str
  | .dat (.tup _) => some .tup
  | r => match lstOf st r with
    | some _ => some .lst
    | none => none
theorem ty_rel {B : Hp} {Z : Addr → Prop} {M : List Addr} {env : Env} {st : Stor} {σ : L2.St} {H : Hp} {r : R} {v : V} {t : Ty} (rs : RS G Z M env st σ H) (w : VR G B Z M H r v) (h : tyOf st r = some t) : TyX G.K H v (.type t.nm) := by
  have fin : (match lstOf st r with | some _ => some Ty.lst | none => none) = some t → TyX G.K H v (.type t.nm) := fun h => by
    split at h
    · rename_i ds e
      cases h
      obtain ⟨a, vs, rfl, h1, _⟩ := lst_rel rs w e
      exact .base (.lst h1)
    · cases h
  cases r with
  | dat d =>
    cases d with
    | non => cases h; cases w; exact .base .non
    | bl _ => cases h; cases w; exact .base (.bl _)
    | int _ => cases h; cases w; exact .base (.int _)
    | str _ => cases h; cases w; exact .base (.str _)
    | tup ds =>
      cases h
      obtain ⟨a, vs, rfl, h1, _⟩ := w
      rcases h1 with (h1 | ⟨o, h1⟩) | ⟨o, its, n, h1, h2, _⟩
      · exact .base (.tup h1)
      · exact .fTuple h1
      · exact .kTuple h1 h2
    | lst _ => exact fin h
    | ref _ => exact fin h
    | glo _ => exact fin h
  | new _ => exact fin h
  | view _ => exact fin h
  | scr _ => exact fin h
def fIsi (T : Ty) (r : R) (st : Stor) : Out R := match tyOf st r with
  | some t => .ok (.dat (.bl (t.isi T))) st
  | none => .bad
theorem i_isi (T : Ty) {x : Str} {p p2 : Pos} (hT : match T with | .non => False | _ => True) (hK : G.K = X.K) (hm : X.mg "isinstance" = none) (hm2 : X.mg x = none) (hv : bootBuiltins x = some (.type T.nm)) (ha : PE X e (rd G W a)) (hg : Gl X "isinstance" := by rfl) (hg2 : Gl X x := by rfl)
    (hn : x ≠ "__name__" := by decide) (hdb : (x == ("__debug__" : Str)) = false := by decide) (he : starEach [e, .Name x p2] X.env = (false, eval e X.env) :: starEach [.Name x p2] X.env := by rfl) (he2 : starEach [.Name x p2] X.env = (false, eval (.Name x p2) X.env) :: starEach [] X.env := by rfl)
    (hpl : (backTo pos (starEach [.Name x p2] X.env)).any (·.1) = false := by rfl) : PE X (.Call (.Name "isinstance" p) [e, .Name x p2] [] pos) (rd G W (eUn (fIsi T) a)) :=
  (pe_callB (id := "isinstance") call_isi hg hm (by decide +kernel) (pa_cons ha (pa_cons (pe_bltn (v := .ty T.nm) hg2 hm2 hv rfl hn hdb) pa_nil he2) he) (by decide) (by decide) he hpl).imp fun σ H Q h => by
    refine rd_un (X := X) (r := fun v H Q => rIsi X.K [v, .ty T.nm] H Q) (fun B Z M env st σ H Q r v rs w p => ?_) h
    unfold fIsi at p
    split at p
    · rename_i t et
      exact ⟨v, .ty T.nm, .type t.nm, .type T.nm, _, rfl, .ty _, hK ▸ ty_rel rs w et, kit_ty (Ty.kit t T hT), ans_dat rs p rfl⟩
    · exact p.elim
end
end PD

/-! PDe: calls of defs, statements. -/
namespace PD
open PySem PySem.Spec PyProof.Rows L2

/-! ### what a def promises -/
def mkG (K : PySem.W.Frag) (mg : Str → Option Value) (cls : Str → Option Addr) (Z : Addr → Prop) (M : List Addr) (H : Hp) : Ga := ⟨mg, K, cls, H, Z, M, none, none⟩
def AR (K : PySem.W.Frag) (mg : Str → Option Value) (Z : Addr → Prop) (M : List Addr) (H : Hp) : R → V → Prop
  | .dat d, v => Rep K mg Z M H d v
  | .new _, _ => False
  | .view ds, v => ∃ a vs, v = .ref a ∧ H a = some (.lst vs) ∧ a ∉ M ∧ Reps K mg Z M H ds vs
  | .scr ds, v => ∃ a vs, v = .ref a ∧ ScL K H M a vs ∧ Reps K mg Z M H ds vs
def CPost (K : PySem.W.Frag) (mg : Str → Option Value) (cls : Str → Option Addr) (Z : Addr → Prop) (M : List Addr) (H : Hp) (Q : VK) (E : XK) : Out R → Prop
  | .ok r st' => ∀ v H' M' Z', StR K mg Z' M' st' H' → Ext Z M H Z' M' H' → VR (mkG K mg cls Z M H) H Z' M' H' r v → Q v H'
  | .exc x st' => ∀ c d H' M' Z', StR K mg Z' M' st' H' → Ext Z M H Z' M' H' → XR (mkG K mg cls Z M H) Z' M' H' x c d → E c d H'
  | .bad => False
abbrev Sem := List R → Stor → Out R
def spOf (K : PySem.W.Frag) (mg : Str → Option Value) (cls : Str → Option Addr) (f : Sem) : Sp := fun vs H Q E => ∃ Z M st rs, StR K mg Z M st H ∧ Paired (AR K mg Z M H) rs vs ∧ CPost K mg cls Z M H Q E (f rs st)
def R.arg : R → R
  | .new ds => .view ds
  | r => r
def fCall (f : Sem) : Sem := fun rs st => f (rs.map R.arg) st

theorem arg_rel {G : Ga} {B : Hp} {Z : Addr → Prop} {M : List Addr} {H : Hp} : ∀ {rs : List R} {vs : List V}, Paired (VR G B Z M H) rs vs → Paired (AR G.K G.mg Z M H) (rs.map R.arg) vs
  | _, _, .nil => .nil
  | r :: rs, v :: vs, .cons w ws => by
    refine .cons ?_ (arg_rel ws)
    cases r with
    | dat d => exact w
    | new ds =>
      obtain ⟨p, vs, rfl, _, _, np, hp, r⟩ := w
      exact ⟨p, vs, rfl, hp, np, r⟩
    | view ds => exact w
    | scr ds => exact w
section
variable {X : Cx} {G : Ga} {W : WX} {e e2 e3 : Expr} {es : List Expr} {a b c : EV} {as : AV} {t : TV} {pos : Pos}
theorem i_call {k : Nat} {fa : Addr} {fd : FuncData} {ps : List Str} {f : Sem} {x : Str} {p : Pos} {cls : Str → Option Addr} (F : FnOk X.prog X.w X.K X.mg X.base (L2.CX X.prog X.w) k fa fd ps (spOf X.K X.mg cls f)) (hr : Room k X.A) (hm : X.mg x = some (.ref fa)) (hk : PySem.W.keepIn X.K (.ref fa) = true) (hb : Binds X.K fd ps [])
    (tk : Takes X W) (hK : G.K = X.K) (hM : G.mg = X.mg) (hC : G.cls = cls) (ha : PA X (e :: es) (rdA G W as)) (hg : Gl X x := by rfl) (hdb : (x == ("__debug__" : Str)) = false := by decide)
    (he : starEach (e :: es) X.env = (false, eval e X.env) :: starEach es X.env := by rfl) (hpl : (backTo pos (starEach es X.env)).any (·.1) = false := by rfl) : PE X (.Call (.Name x p) (e :: es) [] pos) (rd G W (eAp (fCall f) as)) :=
  (pe_callS F hr hg hm hk hb (fun σ => passAt tk σ) ha hdb he hpl).imp fun σ H Q ⟨Z, M, env, st, rs, p⟩ => by
    refine ⟨Z, M, env, st, rs, ?_⟩
    unfold eAp at p
    cases ea : as env st with
    | bad => rw [ea] at p; exact p
    | exc x s => rw [ea] at p; exact p
    | ok rr st1 =>
      rw [ea] at p
      intro vs H1 M1 Z1 rs1 e1 w1
      have wa := arg_rel w1
      have st1' := rs1.sto
      rw [hK, hM] at wa st1'
      refine ⟨Z1, M1, st1, rr.map R.arg, st1', wa, ?_⟩
      have p1 : EPost G W Z1 M1 env σ H1 Q (f (rr.map R.arg) st1) := EPost.mono rs.mh e1 p
      cases ef : f (rr.map R.arg) st1 with
      | bad => rw [ef] at p1; exact p1
      | exc y s =>
        rw [ef] at p1
        intro c d H' M' Z' sto x xr
        refine p1 c d H' M' Z' (rs1.step x (by rw [hK, hM]; exact sto)) x ?_
        obtain ⟨C, h1, h2, h3⟩ := xr
        refine ⟨C, by rw [hC]; exact h1, h2, ?_⟩
        rw [hK, hM]
        exact h3
      | ok r s =>
        rw [ef] at p1
        intro v H' M' Z' sto x vr
        refine p1 v H' M' Z' (rs1.step x (by rw [hK, hM]; exact sto)) x ?_
        cases r with
        | dat d => show Rep G.K G.mg _ _ _ _ _; rw [hK, hM]; exact vr
        | new ds =>
          obtain ⟨q, us, h1, h2, h3, h4, h5, h6⟩ := vr
          exact ⟨q, us, h1, h2, h3, h4, h5, by rw [hK, hM]; exact h6⟩
        | view ds =>
          obtain ⟨q, us, h1, h2, h3, h6⟩ := vr
          exact ⟨q, us, h1, h2, h3, by rw [hK, hM]; exact h6⟩
        | scr ds =>
          obtain ⟨q, us, h1, h2, h6⟩ := vr
          exact ⟨q, us, h1, by rw [hK]; exact h2, by rw [hK, hM]; exact h6⟩
/-! ### statements -/
structure SExt (Z : Addr → Prop) (M : List Addr) (H : Hp) (Z' : Addr → Prop) (M' : List Addr) (H' : Hp) : Prop where
  m : ∃ t, M' = M ++ t
  f : ∀ b o, H b = some o → (¬ Z b ∨ Imm o) → H' b = some o
  n : ∀ a, H a ≠ none → Z' a → Z a
  h : ∀ a, H a ≠ none → H' a ≠ none
theorem SExt.refl (Z : Addr → Prop) (M : List Addr) (H : Hp) : SExt Z M H Z M H := ⟨⟨[], by simp⟩, fun _ _ e _ => e, fun _ _ h => h, fun _ h => h⟩
theorem SExt.trans {Z Z1 Z2 : Addr → Prop} {M M1 M2 : List Addr} {H H1 H2 : Hp} (a : SExt Z M H Z1 M1 H1) (b : SExt Z1 M1 H1 Z2 M2 H2) : SExt Z M H Z2 M2 H2 where
  m := by
    obtain ⟨t, rfl⟩ := a.m
    obtain ⟨u, rfl⟩ := b.m
    exact ⟨t ++ u, by rw [List.append_assoc]⟩
  f := fun x o e i => b.f x o (a.f x o e i) (i.imp (fun n z => n (a.n x (by rw [e]; simp) z)) id)
  n := fun x h z => a.n x h (b.n x (a.h x h) z)
  h := fun x h => b.h x (a.h x h)
theorem Ext.s {Z Z1 : Addr → Prop} {M M1 : List Addr} {H H1 : Hp} (mz : ∀ a ∈ M, Z a) (e : Ext Z M H Z1 M1 H1) : SExt Z M H Z1 M1 H1 := ⟨e.m, fun b o q i => e.fr b o q (i.imp (fun n z => n (mz b z)) id), e.n, e.h⟩
theorem SExt.ix {Z Z1 : Addr → Prop} {M M1 : List Addr} {H H1 : Hp} (e : SExt Z M H Z1 M1 H1) : ∀ (i : Nat) (a : Addr), M[i]? = some a → M1[i]? = some a := fun i a h => by
  obtain ⟨t, rfl⟩ := e.m
  obtain ⟨hl, _⟩ := List.getElem?_eq_some_iff.mp h
  rw [List.getElem?_append_left hl]
  exact h
theorem SExt.rep {K : PySem.W.Frag} {mg : Str → Option Value} {Z Z1 : Addr → Prop} {M M1 : List Addr} {H H1 : Hp} (e : SExt Z M H Z1 M1 H1) {d : D} {v : V} (h : Rep K mg Z M H d v) : Rep K mg Z1 M1 H1 d v := Rep.mono e.ix e.f e.n d v h
theorem SExt.reps {K : PySem.W.Frag} {mg : Str → Option Value} {Z Z1 : Addr → Prop} {M M1 : List Addr} {H H1 : Hp} (e : SExt Z M H Z1 M1 H1) {d : List D} {v : List V} (h : Reps K mg Z M H d v) : Reps K mg Z1 M1 H1 d v := Reps.mono e.ix e.f e.n d v h
def SPost (G : Ga) (W : WX) (Z : Addr → Prop) (M : List Addr) (H : Hp) (N : Ends) : SO → Prop
  | .nx env' st' => ∀ Z' M' σ' H', RS G Z' M' env' st' σ' H' → SExt Z M H Z' M' H' → N.nx σ' H'
  | .brk env' st' => ∀ Z' M' σ' H', RS G Z' M' env' st' σ' H' → SExt Z M H Z' M' H' → N.bk σ' H'
  | .cont env' st' => ∀ Z' M' σ' H', RS G Z' M' env' st' σ' H' → SExt Z M H Z' M' H' → N.ct σ' H'
  | .ret r st' => ∀ v H' M' Z', StR G.K G.mg Z' M' st' H' → Ext G.Z0 G.M0 G.H0 Z' M' H' → VR G G.H0 Z' M' H' r v → N.rt v H'
  | .exc x env' st' => ∀ c d σ' H' M' Z', RS G Z' M' env' st' σ' H' → SExt Z M H Z' M' H' → XR G Z' M' H' x c d → W c d σ' H'
  | .bad => False
def rdS (G : Ga) (W : WX) (ev : SVm) : TS := fun N σ H => ∃ Z M env st, RS G Z M env st σ H ∧ SPost G W Z M H N (ev env st)
theorem SPost.mono {Z Z1 : Addr → Prop} {M M1 : List Addr} {H H1 : Hp} {N : Ends} {o : SO} (e : SExt Z M H Z1 M1 H1) (h : SPost G W Z M H N o) : SPost G W Z1 M1 H1 N o := by
  cases o with
  | nx env st => exact fun Z' M' σ' H' rs x => h Z' M' σ' H' rs (e.trans x)
  | brk env st => exact fun Z' M' σ' H' rs x => h Z' M' σ' H' rs (e.trans x)
  | cont env st => exact fun Z' M' σ' H' rs x => h Z' M' σ' H' rs (e.trans x)
  | ret r st => exact h
  | exc y env st => exact fun c d σ' H' M' Z' rs x => h c d σ' H' M' Z' rs (e.trans x)
  | bad => exact h
theorem RS.ext0 {Z : Addr → Prop} {M : List Addr} {env : Env} {st : Stor} {σ : L2.St} {H : Hp} (rs : RS G Z M env st σ H) : Ext G.Z0 G.M0 G.H0 Z M H := ⟨rs.m0, rs.mn, rs.fr, rs.z0, rs.n0, rs.h0⟩
def sNil : SVm := fun env st => .nx env st
def sSeq (s u : SVm) : SVm := fun env st => match s env st with
  | .nx env1 st1 => u env1 st1
  | o => o
theorem s_nil : PSs X [] (rdS G W sNil) := pss_nil.imp fun N σ H ⟨Z, M, env, st, rs, p⟩ => p Z M σ H rs (SExt.refl Z M H)
theorem s_cons {s u : SVm} {x : Stmt} {xs : List Stmt} (h1 : PS X x (rdS G W s)) (h2 : PSs X xs (rdS G W u)) : PSs X (x :: xs) (rdS G W (sSeq s u)) := (pss_cons h1 h2).imp fun N σ H ⟨Z, M, env, st, rs, p⟩ => by
  refine ⟨Z, M, env, st, rs, ?_⟩
  unfold sSeq at p
  cases es : s env st with
  | nx env1 st1 =>
    rw [es] at p
    exact fun Z' M' σ' H' rs' x => ⟨Z', M', env1, st1, rs', p.mono x⟩
  | brk env1 st1 => rw [es] at p; exact p
  | cont env1 st1 => rw [es] at p; exact p
  | ret r st1 => rw [es] at p; exact p
  | exc y env1 st1 => rw [es] at p; exact p
  | bad => rw [es] at p; exact p
def sIf (t : TV) (a b : SVm) : SVm := fun env st => match t env st with
  | .ok true st1 => a env st1
  | .ok false st1 => b env st1
  | .exc x s => .exc x env s
  | .bad => .bad
theorem s_if {s u : SVm} {xs ys : List Stmt} (ht : PT X e (rdT G W t)) (ha : PSs X xs (rdS G W s)) (hb : PSs X ys (rdS G W u)) : PS X (.If e xs ys pos) (rdS G W (sIf t s u)) := (ps_if ht ha hb).imp fun N σ H ⟨Z, M, env, st, rs, p⟩ => by
  refine ⟨Z, M, env, st, rs, ?_⟩
  unfold sIf at p
  cases et : t env st with
  | bad => rw [et] at p; exact p
  | exc x s => rw [et] at p; exact fun c d H' M' Z' rs' e' => p c d σ H' M' Z' rs' (e'.s rs.mz)
  | ok k st1 =>
    rw [et] at p
    intro H1 M1 Z1 rs1 e1
    cases k with
    | true => rw [if_pos rfl]; exact ⟨Z1, M1, env, st1, rs1, SPost.mono (e1.s rs.mz) p⟩
    | false => rw [if_neg Bool.false_ne_true]; exact ⟨Z1, M1, env, st1, rs1, SPost.mono (e1.s rs.mz) p⟩
def sPass : SVm := fun env st => .nx env st
def sBreak : SVm := fun env st => .brk env st
def sCont : SVm := fun env st => .cont env st
theorem s_pass : PS X (.Pass pos) (rdS G W sPass) := ps_pass.imp fun N σ H ⟨Z, M, env, st, rs, p⟩ => p Z M σ H rs (SExt.refl Z M H)
theorem s_break : PS X (.Break pos) (rdS G W sBreak) := ps_break.imp fun N σ H ⟨Z, M, env, st, rs, p⟩ => p Z M σ H rs (SExt.refl Z M H)
theorem s_cont : PS X (.Continue pos) (rdS G W sCont) := ps_continue.imp fun N σ H ⟨Z, M, env, st, rs, p⟩ => p Z M σ H rs (SExt.refl Z M H)
def sExpr (a : EV) : SVm := fun env st => match a env st with
  | .ok _ st1 => .nx env st1
  | .exc x s => .exc x env s
  | .bad => .bad
theorem s_expr (ha : PE X e (rd G W a)) (hs : swapsWith e none pos.line X.env = pure false := by rfl) : PS X (.Expr e pos) (rdS G W (sExpr a)) := (ps_expr ha hs).imp fun N σ H ⟨Z, M, env, st, rs, p⟩ => by
  refine ⟨Z, M, env, st, rs, ?_⟩
  unfold sExpr at p
  cases ea : a env st with
  | bad => rw [ea] at p; exact p
  | exc x s => rw [ea] at p; exact fun c d H' M' Z' rs' e' => p c d σ H' M' Z' rs' (e'.s rs.mz)
  | ok r st1 => rw [ea] at p; exact fun v H1 M1 Z1 rs1 e1 w1 => p Z1 M1 σ H1 rs1 (e1.s rs.mz)
def sRet (a : EV) : SVm := fun env st => match a env st with
  | .ok (.dat d) st1 => .ret (.dat d) st1
  | .ok (.new ds) st1 => .ret (.new ds) st1
  | .ok _ _ => .bad
  | .exc x s => .exc x env s
  | .bad => .bad
theorem s_ret (ha : PE X e (rd G W a)) : PS X (.Return (some e) pos) (rdS G W (sRet a)) := (ps_ret ha).imp fun N σ H ⟨Z, M, env, st, rs, p⟩ => by
  refine ⟨Z, M, env, st, rs, ?_⟩
  unfold sRet at p
  cases ea : a env st with
  | bad => rw [ea] at p; exact p
  | exc x s => rw [ea] at p; exact fun c d H' M' Z' rs' e' => p c d σ H' M' Z' rs' (e'.s rs.mz)
  | ok r st1 =>
    rw [ea] at p
    intro v H1 M1 Z1 rs1 e1 w1
    cases r with
    | dat d => exact p v H1 M1 Z1 rs1.sto rs1.ext0 (w1.base rs.h0)
    | new ds => exact p v H1 M1 Z1 rs1.sto rs1.ext0 (w1.base rs.h0)
    | _ => exact p.elim
/-- return of a name -/
def sRetV (i : Nat) : SVm := fun env st => match env[i]? with
  | some (some (.dat d)) => .ret (.dat d) st
  | some (some (.own ds)) => .ret (.new ds) st
  | _ => .bad
theorem s_retV (i : Nat) {x : Str} {p2 : Pos} (hN : X.N[i]? = some x := by rfl) (hv : Vis X.env.scope x := by first | exact Or.inl rfl | exact Or.inr (Or.inl rfl) | exact Or.inr (Or.inr rfl)) (hd : (x == ("__debug__" : Str)) = false := by decide)
    (hcd : (x == ("__classdict__" : Str)) = false := by decide) : PS X (.Return (some (.Name x p2)) pos) (rdS G W (sRetV i)) := (ps_ret (pe_var hN hv hd hcd)).imp fun N σ H ⟨Z, M, env, st, rs, p⟩ => by
  unfold sRetV at p
  cases ei : env[i]? with
  | none => rw [ei] at p; exact p.elim
  | some o =>
    cases o with
    | none => rw [ei] at p; exact p.elim
    | some sv =>
      obtain ⟨v, h1, h2⟩ := rs.slot i sv ei
      refine ⟨v, h1, ?_⟩
      rw [ei] at p
      cases sv with
      | dat d => exact p v H M Z rs.sto rs.ext0 h2
      | own ds =>
        obtain ⟨q, vs, rfl, zq, np, h0, hp, r⟩ := h2
        exact p _ H M Z rs.sto rs.ext0 ⟨q, vs, rfl, h0, zq, np, hp, r⟩
      | _ => exact p.elim
def sRetN : SVm := fun _ st => .ret (.dat .non) st
theorem s_retN : PS X (.Return none pos) (rdS G W sRetN) := ps_retN.imp fun N σ H ⟨Z, M, env, st, rs, p⟩ => p _ H M Z rs.sto rs.ext0 rfl

/-! ### names are given values -/
theorem get_set {α : Type} {l : List α} {i j : Nat} {x y : α} (h : (l.set i x)[j]? = some y) : (j = i ∧ y = x) ∨ (j ≠ i ∧ l[j]? = some y) := by
  by_cases e : i = j
  · subst e
    left
    refine ⟨rfl, ?_⟩
    by_cases hi : i < l.length
    · rw [List.getElem?_set_self hi] at h
      exact (Option.some.inj h).symm
    · rw [List.getElem?_eq_none (by simpa using hi)] at h
      cases h
  · exact .inr ⟨fun q => e q.symm, by rwa [List.getElem?_set_ne e] at h⟩
theorem RS.put {Z : Addr → Prop} {M : List Addr} {env : Env} {st : Stor} {σ : L2.St} {H : Hp} (rs : RS G Z M env st σ H) {i : Nat} {sv : SV} {v : V} (h : SvR G Z M H sv v) (hd : ∀ ds, sv = .own ds → ∀ (j : Nat) es, j ≠ i → env[j]? = some (some (.own es)) → σ[j]? ≠ some (some v)) :
    RS G Z M (env.set i (some sv)) st (σ.set i (some v)) H where
  len := by rw [List.length_set, List.length_set]; exact rs.len
  slot := fun j sv' hj => by
    rcases get_set hj with ⟨rfl, e⟩ | ⟨n, e⟩
    · cases e
      refine ⟨v, ?_, h⟩
      have hl : j < σ.length := by
        have := (List.getElem?_eq_some_iff.mp hj).1
        rw [List.length_set, rs.len] at this
        exact this
      exact List.getElem?_set_self hl
    · obtain ⟨w, h1, h2⟩ := rs.slot j sv' e
      exact ⟨w, by rw [List.getElem?_set_ne (fun q => n q.symm)]; exact h1, h2⟩
  dis := fun j k ds es hj hk n q => by
    rcases get_set hj with ⟨rfl, e⟩ | ⟨n1, e⟩
    · cases e
      rcases get_set hk with ⟨rfl, e2⟩ | ⟨n2, e2⟩
      · exact n rfl
      · have hl : j < σ.length := by
          have := (List.getElem?_eq_some_iff.mp hj).1
          rw [List.length_set, rs.len] at this
          exact this
        rw [List.getElem?_set_self hl, List.getElem?_set_ne (fun q => n q)] at q
        exact hd ds rfl k es n2 e2 q.symm
    · rcases get_set hk with ⟨rfl, e2⟩ | ⟨n2, e2⟩
      · cases e2
        have hl : k < σ.length := by
          have := (List.getElem?_eq_some_iff.mp hk).1
          rw [List.length_set, rs.len] at this
          exact this
        rw [List.getElem?_set_self hl, List.getElem?_set_ne (fun q => n1 q.symm)] at q
        exact hd es rfl j ds n1 e q
      · rw [List.getElem?_set_ne (fun q => n1 q.symm), List.getElem?_set_ne (fun q => n2 q.symm)] at q
        exact rs.dis j k ds es e e2 n q
  sto := rs.sto
  z0 := rs.z0
  fr := rs.fr
  m0 := rs.m0
  mn := rs.mn
  h0 := rs.h0
  n0 := rs.n0
  z00 := rs.z00
/-- a new list is no list of a name -/
theorem VR.own {B : Hp} {Zb Z : Addr → Prop} {Mb M : List Addr} {env : Env} {stb st : Stor} {σ : L2.St} {H : Hp} {ds : List D} {v : V} (rb : RS G Zb Mb env stb σ B) (w : VR G B Z M H (.new ds) v) :
    SvR G Z M H (.own ds) v ∧ ∀ (j : Nat) es, env[j]? = some (some (.own es)) → σ[j]? ≠ some (some v) := by
  obtain ⟨p, vs, rfl, h0, zp, np, hp, r⟩ := w
  have g0 : G.H0 p = none := by
    cases q : G.H0 p with
    | none => rfl
    | some o => exact absurd h0 (rb.h0 p (by rw [q]; simp))
  refine ⟨⟨p, vs, rfl, zp, np, g0, hp, r⟩, fun j es hj q => ?_⟩
  obtain ⟨v', h1, h2⟩ := rb.slot j _ hj
  obtain ⟨p', vs', rfl, _, _, _, hp', _⟩ := h2
  rw [h1] at q
  cases q
  rw [h0] at hp'
  cases hp'
def sSet (i : Nat) (a : EV) : SVm := fun env st => match a env st with
  | .ok (.dat d) st1 => .nx (env.set i (some (.dat d))) st1
  | .ok (.new ds) st1 => .nx (env.set i (some (.own ds))) st1
  | .ok _ _ => .bad
  | .exc x s => .exc x env s
  | .bad => .bad
theorem rd_set {i : Nat} {N : Ends} {σ : L2.St} {H : Hp} (h : rdS G W (sSet i a) N σ H) : tAsg (rd G W a) (gName i) N σ H := by
  obtain ⟨Z, M, env, st, rs, p⟩ := h
  refine ⟨Z, M, env, st, rs, ?_⟩
  unfold sSet at p
  cases ea : a env st with
  | bad => rw [ea] at p; exact p
  | exc x s => rw [ea] at p; exact fun c d H' M' Z' rs' e' => p c d σ H' M' Z' rs' (e'.s rs.mz)
  | ok r st1 =>
    rw [ea] at p
    intro v H1 M1 Z1 rs1 e1 w1
    cases r with
    | dat d => exact p Z1 M1 _ H1 (rs1.put (sv := .dat d) w1 (fun _ q => by cases q)) (e1.s rs.mz)
    | new ds =>
      obtain ⟨h1, h2⟩ := w1.own (st := st1) rs
      exact p Z1 M1 _ H1 (rs1.put h1 (fun _ _ j es _ hj => h2 j es hj)) (e1.s rs.mz)
    | _ => exact p.elim
theorem s_set (i : Nat) {x : Str} {pos' : Pos} (ha : PE X e (rd G W a)) (hN : X.N.Nodup) (hi : X.N[i]? = some x := by rfl) (hx : Loc X.env.scope x := by first | exact .inl rfl | exact .inr rfl) (hs : swapsWith e (some (.Name x pos')) pos.line X.env = pure false := by rfl)
    (hf : X.fn x = true ∨ X.env.scope.names.lookup x = some .local := by first | exact .inl rfl | exact .inr rfl) : PS X (.Assign [.Name x pos'] e pos) (rdS G W (sSet i a)) := (ps_set hN hi hx ha hs hf).imp fun N σ H h => rd_set h
/-- x = y: y's list is x's from now on -/
def sMove (i j : Nat) : SVm := fun env st => match env[j]? with
  | some (some (.dat d)) => .nx (env.set i (some (.dat d))) st
  | some (some (.own ds)) => if i = j then .bad else .nx ((env.set j none).set i (some (.own ds))) st
  | _ => .bad
theorem RS.drop {Z : Addr → Prop} {M : List Addr} {env : Env} {st : Stor} {σ : L2.St} {H : Hp} (rs : RS G Z M env st σ H) (j : Nat) : RS G Z M (env.set j none) st σ H where
  len := by rw [List.length_set]; exact rs.len
  slot := fun k sv hk => by
    rcases get_set hk with ⟨_, e⟩ | ⟨_, e⟩
    · cases e
    · exact rs.slot k sv e
  dis := fun k l ds es hk hl n => by
    rcases get_set hk with ⟨_, e⟩ | ⟨_, e⟩
    · cases e
    · rcases get_set hl with ⟨_, e2⟩ | ⟨_, e2⟩
      · cases e2
      · exact rs.dis k l ds es e e2 n
  sto := rs.sto
  z0 := rs.z0
  fr := rs.fr
  m0 := rs.m0
  mn := rs.mn
  h0 := rs.h0
  n0 := rs.n0
  z00 := rs.z00
theorem s_move (i j : Nat) {x y : Str} {p1 p2 : Pos} (hN : X.N.Nodup) (hi : X.N[i]? = some x := by rfl) (hx : Loc X.env.scope x := by first | exact .inl rfl | exact .inr rfl) (hj : X.N[j]? = some y := by rfl) (hv : Vis X.env.scope y := by first | exact Or.inl rfl | exact Or.inr (Or.inl rfl) | exact Or.inr (Or.inr rfl))
    (hd : (y == ("__debug__" : Str)) = false := by decide) (hcd : (y == ("__classdict__" : Str)) = false := by decide) (hs : swapsWith (.Name y p2) (some (.Name x p1)) pos.line X.env = pure false := by rfl)
    (hf : X.fn x = true ∨ X.env.scope.names.lookup x = some .local := by first | exact .inl rfl | exact .inr rfl) : PS X (.Assign [.Name x p1] (.Name y p2) pos) (rdS G W (sMove i j)) := (ps_set hN hi hx (pe_var hj hv hd hcd) hs hf).imp fun N σ H ⟨Z, M, env, st, rs, p⟩ => by
  unfold sMove at p
  cases ei : env[j]? with
  | none => rw [ei] at p; exact p.elim
  | some o =>
    cases o with
    | none => rw [ei] at p; exact p.elim
    | some sv =>
      obtain ⟨v, h1, h2⟩ := rs.slot j sv ei
      refine ⟨v, h1, ?_⟩
      rw [ei] at p
      cases sv with
      | dat d => exact p Z M _ H (rs.put (sv := .dat d) h2 (fun _ q => by cases q)) (SExt.refl Z M H)
      | own ds =>
        dsimp only at p
        split at p
        · exact p.elim
        · refine p Z M _ H ((rs.drop j).put h2 fun _ _ k es n hk => ?_) (SExt.refl Z M H)
          rcases get_set hk with ⟨_, e⟩ | ⟨n2, e⟩
          · cases e
          · rw [← h1]
            exact rs.dis k j es ds e ei n2
      | _ => exact p.elim
/-- a list that others may change: into the store -/
def sSetR (i : Nat) (a : EV) : SVm := fun env st => match a env st with
  | .ok (.new ds) st1 => .nx (env.set i (some (.dat (.ref st1.length)))) (st1 ++ [.lst ds])
  | .ok _ _ => .bad
  | .exc x s => .exc x env s
  | .bad => .bad
theorem append_get {α : Type} {l : List α} {x y : α} {i : Nat} (h : (l ++ [x])[i]? = some y) : l[i]? = some y ∨ (i = l.length ∧ y = x) := by
  by_cases hi : i < l.length
  · rw [List.getElem?_append_left hi] at h
    exact .inl h
  · rw [List.getElem?_append_right (by omega)] at h
    have : i - l.length = 0 := by
      cases q : i - l.length with
      | zero => rfl
      | succ n => rw [q] at h; simp at h
    rw [this] at h
    exact .inr ⟨by omega, by simpa using h.symm⟩
theorem RS.keep {Zb Z : Addr → Prop} {Mb M : List Addr} {env : Env} {stb st : Stor} {σ : L2.St} {B H : Hp} {ds : List D} {v : V} (rb : RS G Zb Mb env stb σ B) (rs : RS G Z M env st σ H) (e : Ext Zb Mb B Z M H) (w : VR G B Z M H (.new ds) v) :
    ∃ p, v = .ref p ∧ RS G Z (M ++ [p]) env (st ++ [.lst ds]) σ H ∧ Ext Zb Mb B Z (M ++ [p]) H := by
  obtain ⟨p, vs, rfl, h0, zp, np, hp, r⟩ := w
  have ix : ∀ (i : Nat) (a : Addr), M[i]? = some a → (M ++ [p])[i]? = some a := fun i a h => by
    obtain ⟨hl, _⟩ := List.getElem?_eq_some_iff.mp h
    rw [List.getElem?_append_left hl]
    exact h
  have mono : ∀ {ds vs}, Reps G.K G.mg Z M H ds vs → Reps G.K G.mg Z (M ++ [p]) H ds vs := fun h => Reps.mono ix (fun _ _ e _ => e) (fun _ _ z => z) _ _ h
  have g0 : G.H0 p = none := by
    cases q : G.H0 p with
    | none => rfl
    | some o => exact absurd h0 (rb.h0 p (by rw [q]; simp))
  have hno : ∀ (j : Nat) es, env[j]? = some (some (.own es)) → σ[j]? ≠ some (some (.ref p)) := (VR.own (st := st) rb ⟨p, vs, rfl, h0, zp, np, hp, r⟩).2
  refine ⟨p, rfl, ⟨rs.len, fun i sv hi => ?_, rs.dis, ⟨?_, fun i o hi => ?_, ?_, fun a h => ?_, rs.sto.zh⟩, rs.z0, rs.fr, ?_, fun a h => ?_, rs.h0, rs.n0, rs.z00⟩, ⟨?_, fun a h => ?_, e.fr, e.z, e.n, e.h⟩⟩
  · obtain ⟨v, h1, h2⟩ := rs.slot i sv hi
    refine ⟨v, h1, ?_⟩
    cases sv with
    | dat d => exact Rep.mono ix (fun _ _ e _ => e) (fun _ _ z => z) _ _ h2
    | own es =>
      obtain ⟨q, us, rfl, zq, nq, hq0, hq, rq⟩ := h2
      refine ⟨q, us, rfl, zq, fun hm => ?_, hq0, hq, mono rq⟩
      rcases List.mem_append.mp hm with hm | hm
      · exact nq hm
      · have : q = p := by simpa using hm
        subst this
        exact hno i es hi h1
    | view es =>
      obtain ⟨q, us, rfl, hq, nq, rq⟩ := h2
      exact ⟨q, us, rfl, hq, nq, mono rq⟩
    | scr es =>
      obtain ⟨q, us, rfl, hq, rq⟩ := h2
      exact ⟨q, us, rfl, hq, mono rq⟩
    | exn x =>
      obtain ⟨a, c, d, h0, rfl, h⟩ := h2
      exact ⟨a, c, d, h0, rfl, XRK.mono ix (fun _ _ e _ => e) (fun _ _ z => z) h⟩
    | thk => exact h2
  · rw [List.length_append, List.length_append, rs.sto.len]; rfl
  · rcases append_get hi with hi | ⟨hi2, rfl⟩
    · obtain ⟨a, h1, h2⟩ := rs.sto.obj i o hi
      exact ⟨a, ix i a h1, h2.mono (fun _ _ r => mono r) (fun b u h z => ⟨h, z⟩) rfl⟩
    · refine ⟨p, ?_, vs, hp, mono r⟩
      rw [hi2, ← rs.sto.len]
      simp
  · rw [List.nodup_append]
    refine ⟨rs.sto.nd, by simp, fun a ha b hb q => ?_⟩
    have : b = p := by simpa using hb
    subst this
    subst q
    exact np ha
  · rcases List.mem_append.mp h with h | h
    · exact rs.sto.mz a h
    · have : a = p := by simpa using h
      subst this
      exact zp
  · obtain ⟨t1, q1⟩ := rs.m0
    exact ⟨t1 ++ [p], by rw [q1, List.append_assoc]⟩
  · rcases List.mem_append.mp h with h | h
    · exact rs.mn a h
    · have : a = p := by simpa using h
      subst this
      exact .inr g0
  · obtain ⟨t1, q1⟩ := e.m
    exact ⟨t1 ++ [p], by rw [q1, List.append_assoc]⟩
  · rcases List.mem_append.mp h with h | h
    · exact e.mn a h
    · have : a = p := by simpa using h
      subst this
      exact .inr h0
theorem s_setR (i : Nat) {x : Str} {pos' : Pos} (ha : PE X e (rd G W a)) (hN : X.N.Nodup) (hi : X.N[i]? = some x := by rfl) (hx : Loc X.env.scope x := by first | exact .inl rfl | exact .inr rfl) (hs : swapsWith e (some (.Name x pos')) pos.line X.env = pure false := by rfl)
    (hf : X.fn x = true ∨ X.env.scope.names.lookup x = some .local := by first | exact .inl rfl | exact .inr rfl) : PS X (.Assign [.Name x pos'] e pos) (rdS G W (sSetR i a)) := (ps_set hN hi hx ha hs hf).imp fun N σ H ⟨Z, M, env, st, rs, p⟩ => by
  refine ⟨Z, M, env, st, rs, ?_⟩
  unfold sSetR at p
  cases ea : a env st with
  | bad => rw [ea] at p; exact p
  | exc x s => rw [ea] at p; exact fun c d H' M' Z' rs' e' => p c d σ H' M' Z' rs' (e'.s rs.mz)
  | ok r st1 =>
    rw [ea] at p
    intro v H1 M1 Z1 rs1 e1 w1
    cases r with
    | new ds =>
      obtain ⟨q, rfl, rs2, e2⟩ := RS.keep rs rs1 e1 w1
      refine p Z1 _ _ H1 (rs2.put (sv := .dat (.ref st1.length)) ⟨q, ?_, rfl⟩ (fun _ q => by cases q)) (e2.s rs.mz)
      rw [← rs1.sto.len]
      simp
    | _ => exact p.elim
end
end PD

/-! PDf: lists changed, targets, loops, comprehensions, the body of a def. -/
namespace PD
open PySem PySem.Spec PyProof.Rows L2
section
variable {G : Ga} {W : WX} {Z Z' : Addr → Prop} {M M' : List Addr} {env : Env} {st st' : Stor} {σ : L2.St} {H H' : Hp}
/-- a list that nothing of the state names is changed -/
theorem RS.mutX (rs : RS G Z M env st σ H) {p : Addr} {vs ws : List V} (zp : Z p) (np : p ∉ M) (h0 : G.H0 p = none) (hp : H p = some (.lst vs)) (no : ∀ (j : Nat) es, env[j]? = some (some (.own es)) → σ[j]? ≠ some (some (.ref p))) : RS G Z M env st σ (upd H p (.lst ws)) := by
  have f : ∀ b o, H b = some o → (¬ Z b ∨ Imm o) → upd H p (.lst ws) b = some o := fun b o e i => by
    by_cases q : b = p
    · subst q
      rcases i with i | i
      · exact absurd zp i
      · rw [hp] at e
        cases e
        exact i.elim
    · rw [upd_ne q]; exact e
  have mono : ∀ {ds vs}, Reps G.K G.mg Z M H ds vs → Reps G.K G.mg Z M (upd H p (.lst ws)) ds vs := fun h => Reps.mono (fun _ _ h => h) f (fun _ _ z => z) _ _ h
  have hh : ∀ a, H a ≠ none → upd H p (.lst ws) a ≠ none := fun a h => by
    by_cases q : a = p
    · rw [q, upd_same]; simp
    · rw [upd_ne q]; exact h
  refine ⟨rs.len, fun i sv hi => ?_, rs.dis, ⟨rs.sto.len, fun i o hi => ?_, rs.sto.nd, rs.sto.mz, fun a z => hh a (rs.sto.zh a z)⟩, rs.z0, fun b o e i => ?_, rs.m0, rs.mn, fun a h => hh a (rs.h0 a h), rs.n0, rs.z00⟩
  · obtain ⟨v, h1, h2⟩ := rs.slot i sv hi
    refine ⟨v, h1, ?_⟩
    cases sv with
    | dat d => exact Rep.mono (fun _ _ h => h) f (fun _ _ z => z) _ _ h2
    | own es =>
      obtain ⟨q, us, rfl, zq, nq, hq0, hq, rq⟩ := h2
      exact ⟨q, us, rfl, zq, nq, hq0, (upd_ne fun e => by subst e; exact no i es hi h1).trans hq, mono rq⟩
    | view es =>
      obtain ⟨q, us, rfl, hq, nq, rq⟩ := h2
      exact ⟨q, us, rfl, hq, nq, mono rq⟩
    | scr es =>
      obtain ⟨q, us, rfl, hq, rq⟩ := h2
      exact ⟨q, us, rfl, hq, mono rq⟩
    | exn x =>
      obtain ⟨a, c, d, h0, rfl, h⟩ := h2
      exact ⟨a, c, d, h0, rfl, XRK.mono (fun _ _ h => h) f (fun _ _ z => z) h⟩
    | thk => exact h2
  · obtain ⟨a, h1, h2⟩ := rs.sto.obj i o hi
    exact ⟨a, h1, h2.mono (fun _ _ r => mono r) (fun b u h z => ⟨f b u h (.inl z), z⟩) (upd_ne fun e => by subst e; exact np (List.mem_of_getElem? h1))⟩
  · have e1 := rs.fr b o e i
    rw [upd_ne]
    · exact e1
    · intro q
      rw [q, h0] at e
      cases e
theorem SExt.mut {p : Addr} {vs ws : List V} (zp : Z p) (hp : H p = some (.lst vs)) : SExt Z M H Z M (upd H p (.lst ws)) where
  m := ⟨[], by simp⟩
  f := fun b o e i => by
    by_cases q : b = p
    · subst q
      rcases i with i | i
      · exact absurd zp i
      · rw [hp] at e
        cases e
        exact i.elim
    · rw [upd_ne q]; exact e
  n := fun _ _ z => z
  h := fun a h => by
    by_cases q : a = p
    · rw [q, upd_same]; simp
    · rw [upd_ne q]; exact h
theorem RS.mutO (rs : RS G Z M env st σ H) {i : Nat} {ds es : List D} {v : V} {ws : List V} (hi : env[i]? = some (some (.own ds))) (hv : σ[i]? = some (some v)) (hr : Reps G.K G.mg Z M H es ws) : ∃ p vs, v = .ref p ∧ H p = some (.lst vs) ∧ Reps G.K G.mg Z M H ds vs ∧ Z p ∧
    RS G Z M (env.set i (some (.own es))) st σ (upd H p (.lst ws)) := by
  obtain ⟨v', h1, h2⟩ := rs.slot i _ hi
  rw [hv] at h1
  cases h1
  obtain ⟨p, vs, rfl, zp, np, h0, hp, r⟩ := h2
  refine ⟨p, vs, rfl, hp, r, zp, ?_⟩
  have rd := (rs.drop i).mutX (ws := ws) zp np h0 hp fun j ds' hj q => by
    rcases get_set hj with ⟨_, e⟩ | ⟨n, e⟩
    · cases e
    · exact rs.dis j i ds' ds e hi n (q.trans hv.symm)
  have r2 := rd.put (i := i) (sv := .own es) (v := .ref p) ⟨p, ws, rfl, zp, np, h0, upd_same, Reps.mono (fun _ _ h => h) (SExt.mut (M := M) (ws := ws) zp hp).f (fun _ _ z => z) _ _ hr⟩ fun _ _ j ds' n hj q => by
    rcases get_set hj with ⟨_, e⟩ | ⟨_, e⟩
    · cases e
    · exact rs.dis j i ds' ds e hi n (q.trans hv.symm)
  have e1 : (env.set i none).set i (some (.own es)) = env.set i (some (.own es)) := List.set_set ..
  have e2 : σ.set i (some (.ref p)) = σ := by
    apply List.ext_getElem?
    intro j
    by_cases q : i = j
    · subst q
      rw [hv]
      exact List.getElem?_set_self (List.getElem?_eq_some_iff.mp hv).1
    · exact List.getElem?_set_ne q
  rw [e1, e2] at r2
  exact r2
/-- a list of the store is changed -/
theorem RS.mutR (rs : RS G Z M env st σ H) {k : Nat} {ds es : List D} {ws : List V} (hk : st[k]? = some (.lst ds)) (hr : Reps G.K G.mg Z M H es ws) : ∃ p vs, M[k]? = some p ∧ H p = some (.lst vs) ∧ Reps G.K G.mg Z M H ds vs ∧
    RS G Z M env (st.set k (.lst es)) σ (upd H p (.lst ws)) ∧ Ext Z M H Z M (upd H p (.lst ws)) := by
  obtain ⟨p, h1, vs, hp, r⟩ := rs.sto.obj k _ hk
  have pm := List.mem_of_getElem? h1
  have zp := rs.mz p pm
  have hh : ∀ a, H a ≠ none → upd H p (.lst ws) a ≠ none := fun a h => by
    by_cases q : a = p
    · rw [q, upd_same]; simp
    · rw [upd_ne q]; exact h
  have x : Ext Z M H Z M (upd H p (.lst ws)) := ⟨⟨[], by simp⟩, fun a h => .inl h, fun b o e i => by
    by_cases q : b = p
    · subst q
      rcases i with i | i
      · exact absurd pm i
      · rw [hp] at e
        cases e
        exact i.elim
    · rw [upd_ne q]; exact e, fun _ h => h, fun _ _ z => z, hh⟩
  refine ⟨p, vs, h1, hp, r, rs.step x ⟨by rw [List.length_set]; exact rs.sto.len, fun i o hi => ?_, rs.sto.nd, rs.sto.mz, fun a z => hh a (rs.sto.zh a z)⟩, x⟩
  rcases get_set hi with ⟨rfl, e⟩ | ⟨n, e⟩
  · subst e
    exact ⟨p, h1, ws, upd_same, x.reps rs.mz hr⟩
  · obtain ⟨a, h3, h4⟩ := rs.sto.obj i o e
    refine ⟨a, h3, h4.mono (fun _ _ r => x.reps rs.mz r) (fun b u h z => ⟨x.fr b u h (.inl fun m => z (rs.mz b m)), fun z' => z (x.n b (by rw [h]; simp) z')⟩) (upd_ne fun q => ?_)⟩
    subst q
    exact n (nd_ix rs.sto.nd h3 h1)
end

/-! ### what is put into a list -/
abbrev Put := R → Stor → Option (D × Stor)
def PutOk (put : Put) : Prop := ∀ G Zb Mb env stb σ B Z M st H r v d st', RS G Zb Mb env stb σ B → RS G Z M env st σ H → Ext Zb Mb B Z M H → VR G B Z M H r v → put r st = some (d, st') → ∃ Z' M', RS G Z' M' env st' σ H ∧ Ext Zb Mb B Z' M' H ∧ Rep G.K G.mg Z' M' H d v
/-- data, or a new list that nobody changes from now on -/
def putF : Put := fun r st => match r.froz with
  | some d => some (d, st)
  | none => none
/-- a new list goes to the store, others may change it -/
def putR : Put := fun r st => match r with
  | .new ds => some (.ref st.length, st ++ [.lst ds])
  | .dat d => some (d, st)
  | _ => none
theorem putF_ok : PutOk putF := by
  intro G Zb Mb env stb σ B Z M st H r v d st' rb rs e w h
  unfold putF at h
  split at h
  · rename_i d' hd
    cases h
    obtain ⟨T, hT, r⟩ := froz_rel w hd
    exact ⟨_, M, rb.free rs hT, e.free rb.sto.zh hT, r⟩
  · cases h
theorem putR_ok : PutOk putR := by
  intro G Zb Mb env stb σ B Z M st H r v d st' rb rs e w h
  unfold putR at h
  split at h
  · cases h
    obtain ⟨q, rfl, rs2, e2⟩ := RS.keep rb rs e w
    refine ⟨Z, _, rs2, e2, q, ?_, rfl⟩
    rw [← rs.sto.len]
    simp
  · cases h
    exact ⟨Z, M, rs, e, w⟩
  · cases h

section
variable {X : Cx} {G : Ga} {W : WX} {e e2 e3 : Expr} {es : List Expr} {a b c : EV} {as : AV} {t : TV} {pos : Pos} {put : Put}
/-- x.append(e), x a name -/
def sApp (put : Put) (i : Nat) (a : EV) : SVm := fun env st => match env[i]? with
  | some (some (.own ds)) => match a env st with
    | .ok r st1 => match put r st1 with
      | some (d, st2) => if ds.length < 1000000 then .nx (env.set i (some (.own (ds ++ [d])))) st2 else .bad
      | none => .bad
    | .exc x s => .exc x env s
    | .bad => .bad
  | some (some (.dat (.ref k))) => match st[k]? with
    | some (.lst _) => match a env st with
      | .ok r st1 => match put r st1 with
        | some (d, st2) => match st2[k]? with
          | some (.lst ds) => if ds.length < 1000000 then .nx env (st2.set k (.lst (ds ++ [d]))) else .bad
          | _ => .bad
        | none => .bad
      | .exc x s => .exc x env s
      | .bad => .bad
    | _ => .bad
  | _ => .bad
theorem lim_lt {n : Nat} (h : n < 1000000) : n < sizeLine := Nat.lt_trans h (by rw [sizeLine_eq]; decide)
theorem s_app (hput : PutOk put) (i : Nat) {x : Str} {p2 apos cpos : Pos} (ha : PE X e (rd G W a)) (hN : X.N[i]? = some x := by rfl) (hv : Vis X.env.scope x := by first | exact Or.inl rfl | exact Or.inr (Or.inl rfl) | exact Or.inr (Or.inr rfl)) (hd : (x == ("__debug__" : Str)) = false := by decide)
    (hcd : (x == ("__classdict__" : Str)) = false := by decide)
    (hbase : attributeBase (.Name x p2) "append" X.env (eval (.Name x p2) X.env) = eval (.Name x p2) X.env := by rfl)
    (hfew : ((backTo cpos (starEach [e] X.env)).all (fun x => !x.1) && (backToKw cpos (keywordEach [] X.env)).all (fun x => x.1.isSome)
      && decide ([e].length + ([] : List Keyword).length + (if ([] : List Keyword).isEmpty then 0 else 1) < 30)) = true := by rfl)
    (hline : (apos.endLine == cpos.line) = true := by rfl) (hs : starEach [e] X.env = (false, eval e X.env) :: starEach [] X.env := by rfl) (hplain : (backTo cpos (starEach [] X.env)).any (·.1) = false := by rfl)
    (hsw : swapsWith (.Call (.Attribute (.Name x p2) "append" apos) [e] [] cpos) none pos.line X.env = pure false := by rfl) :
    PS X (.Expr (.Call (.Attribute (.Name x p2) "append" apos) [e] [] cpos) pos) (rdS G W (sApp put i a)) :=
  (ps_expr (pe_bm PySem.F.plainAttrs_list PySem.F.slot_list_append PySem.F.type_list_append mt_append (pe_var hN hv hd hcd) (pa_cons ha pa_nil hs) hbase hfew hline hs hplain) hsw).imp fun N σ H ⟨Z, M, env, st, rs, p⟩ => by
    unfold sApp at p
    cases ei : env[i]? with
    | none => rw [ei] at p; exact p.elim
    | some o =>
      cases o with
      | none => rw [ei] at p; exact p.elim
      | some sv =>
        obtain ⟨v, h1, h2⟩ := rs.slot i sv ei
        refine ⟨v, h1, ?_⟩
        rw [ei] at p
        cases sv with
        | own ds =>
          dsimp only at p
          obtain ⟨q, vs, rfl, zq, np, h0, hp, r⟩ := id h2
          refine ⟨.inl ⟨rfl, vs, SqL.of hp⟩, Z, M, env, st, rs, ?_⟩
          cases ea : a env st with
          | bad => rw [ea] at p; exact p
          | exc x s => rw [ea] at p; exact fun c d H' M' Z' rs' e' => p c d σ H' M' Z' rs' (e'.s rs.mz)
          | ok rr st1 =>
            rw [ea] at p
            dsimp only at p
            intro w H1 M1 Z1 rs1 e1 w1
            cases ep : put rr st1 with
            | none => rw [ep] at p; exact p.elim
            | some dd =>
              obtain ⟨d, st2⟩ := dd
              rw [ep] at p
              dsimp only at p
              split at p
              · rename_i hz
                obtain ⟨Z2, M2, rs2, x2, rd⟩ := hput G Z M env st σ H Z1 M1 st1 H1 rr w d st2 rs rs1 e1 w1 ep
                have rr2 : Reps G.K G.mg Z2 M2 H1 ds vs := x2.reps rs.mz r
                obtain ⟨q', vs', eq, hp', _, zp', rs3⟩ := rs2.mutO ei h1 (rr2.append (.one rd))
                cases eq
                have hpx : H1 q = some (.lst vs) := e1.fr q _ hp (.inl np)
                refine ⟨q, vs, w, rfl, rfl, hpx, lim_lt (by rw [r.length]; exact hz), ?_⟩
                exact p Z2 M2 σ _ rs3 ((x2.s rs.mz).trans (SExt.mut zp' hp'))
              · exact p.elim
        | dat dd =>
          cases dd with
          | ref k =>
            dsimp only at p
            split at p
            · rename_i es0 hk0
              obtain ⟨q, hm, rfl⟩ := h2
              obtain ⟨q', hm', us, hq, _⟩ := rs.sto.obj k _ hk0
              rw [hm] at hm'
              cases hm'
              refine ⟨.inl ⟨rfl, us, SqL.of hq⟩, Z, M, env, st, rs, ?_⟩
              cases ea : a env st with
              | bad => rw [ea] at p; exact p
              | exc x s => rw [ea] at p; exact fun c d H' M' Z' rs' e' => p c d σ H' M' Z' rs' (e'.s rs.mz)
              | ok rr st1 =>
                rw [ea] at p
                dsimp only at p
                intro w H1 M1 Z1 rs1 e1 w1
                cases ep : put rr st1 with
                | none => rw [ep] at p; exact p.elim
                | some dd =>
                  obtain ⟨d, st2⟩ := dd
                  rw [ep] at p
                  dsimp only at p
                  obtain ⟨Z2, M2, rs2, x2, rd⟩ := hput G Z M env st σ H Z1 M1 st1 H1 rr w d st2 rs rs1 e1 w1 ep
                  split at p
                  · rename_i ds hk
                    split at p
                    · rename_i hz
                      obtain ⟨q1, hm1, vs, hq1, r1⟩ := rs2.sto.obj k _ hk
                      rw [x2.ix k q hm] at hm1
                      cases hm1
                      obtain ⟨q2, vs2, hm2, hq2, _, rs3, x3⟩ := rs2.mutR hk (r1.append (.one rd))
                      rw [x2.ix k q hm] at hm2
                      cases hm2
                      refine ⟨q, vs, w, rfl, rfl, hq1, lim_lt (by rw [r1.length]; exact hz), ?_⟩
                      exact p Z2 M2 σ _ rs3 ((x2.s rs.mz).trans (x3.s rs2.mz))
                    · exact p.elim
                  · exact p.elim
            · exact p.elim
          | _ => exact p.elim
        | _ => exact p.elim
/-- x[k] = e, x a name -/
def sSetIx (put : Put) (i : Nat) (ix a : EV) : SVm := fun env st => match env[i]? with
  | some (some (.own ds)) => match a env st with
    | .ok r st0 => match put r st0 with
      | some (d, st1) => match ix env st1 with
        | .ok (.dat (.int k)) st2 => match ixN ds.length k with
          | some j => .nx (env.set i (some (.own (ds.set j d)))) st2
          | none => .bad
        | .ok _ _ => .bad
        | .exc x s => .exc x env s
        | .bad => .bad
      | none => .bad
    | .exc x s => .exc x env s
    | .bad => .bad
  | some (some (.dat (.ref n))) => match a env st with
    | .ok r st0 => match put r st0 with
      | some (d, st1) => match ix env st1 with
        | .ok (.dat (.int k)) st2 => match st2[n]? with
          | some (.lst ds) => match ixN ds.length k with
            | some j => .nx env (st2.set n (.lst (ds.set j d)))
            | none => .bad
          | _ => .bad
        | .ok _ _ => .bad
        | .exc x s => .exc x env s
        | .bad => .bad
      | none => .bad
    | .exc x s => .exc x env s
    | .bad => .bad
  | _ => .bad
theorem s_setIx (hput : PutOk put) (i : Nat) {x : Str} {p2 p3 : Pos} (ha : PE X e (rd G W a)) (hix : PE X e2 (rd G W b)) (hN : X.N[i]? = some x := by rfl) (hv : Vis X.env.scope x := by first | exact Or.inl rfl | exact Or.inr (Or.inl rfl) | exact Or.inr (Or.inr rfl)) (hd : (x == ("__debug__" : Str)) = false := by decide)
    (hcd : (x == ("__classdict__" : Str)) = false := by decide) (hs : swapsWithSole [.Subscript (.Name x p2) e2 p3] e pos.line X.env = pure false := by rfl) (hw : swappedStores [.Subscript (.Name x p2) e2 p3] e X.env = pure none := by rfl)
    (h1 : (assignEach [.Subscript (.Name x p2) e2 p3] X.env).map (·.2) = [assign (.Subscript (.Name x p2) e2 p3) X.env] := by rfl)
    (hsub : ∀ v, assign (.Subscript (.Name x p2) e2 p3) X.env v = (do
      let ov ← holding [v] (eval (.Name x p2) X.env)
      let iv ← holding [v, ov] (eval e2 X.env)
      standAt p3
      holding [v, ov, iv] (setItem ov iv v)
      release [v, ov, iv] []) := by intro _; rfl) : PS X (.Assign [.Subscript (.Name x p2) e2 p3] e pos) (rdS G W (sSetIx put i b a)) :=
  (ps_asg ha (pg_sub (pe_var hN hv hd hcd) hix set_list hsub) hs hw h1).imp fun N σ H ⟨Z, M, env, st, rs, p⟩ => by
    refine ⟨Z, M, env, st, rs, ?_⟩
    unfold sSetIx at p
    cases ei : env[i]? with
    | none => rw [ei] at p; exact p.elim
    | some o =>
      cases o with
      | none => rw [ei] at p; exact p.elim
      | some sv =>
        obtain ⟨v, h1, h2⟩ := rs.slot i sv ei
        rw [ei] at p
        cases sv with
        | own ds =>
          dsimp only at p
          obtain ⟨q, vs, rfl, zq, np, h0, hp, r⟩ := id h2
          cases ea : a env st with
          | bad => rw [ea] at p; exact p
          | exc x s => rw [ea] at p; exact fun c d H' M' Z' rs' e' => p c d σ H' M' Z' rs' (e'.s rs.mz)
          | ok rr st0 =>
            rw [ea] at p
            dsimp only at p
            intro w H1 M1 Z1 rs1 e1 w1
            refine ⟨_, h1, ?_⟩
            cases ep : put rr st0 with
            | none => rw [ep] at p; exact p.elim
            | some dd =>
              obtain ⟨d, st1⟩ := dd
              rw [ep] at p
              dsimp only at p
              obtain ⟨Z2, M2, rs2, x2, rd⟩ := hput G Z M env st σ H Z1 M1 st0 H1 rr w d st1 rs rs1 e1 w1 ep
              refine ⟨Z2, M2, env, st1, rs2, ?_⟩
              cases eb : b env st1 with
              | bad => rw [eb] at p; exact p
              | exc x s => rw [eb] at p; exact fun c d H' M' Z' rs' e' => p c d σ H' M' Z' rs' ((x2.trans rs.mh e').s rs.mz)
              | ok rk st2 =>
                rw [eb] at p
                intro w2 H3 M3 Z3 rs3 e3 w3
                cases rk with
                | dat dk =>
                  cases dk with
                  | int k =>
                    dsimp only at p
                    cases w3
                    split at p
                    · rename_i j hj
                      have x3 := x2.trans rs.mh e3
                      have rr2 : Reps G.K G.mg Z3 M3 H3 ds vs := x3.reps rs.mz r
                      obtain ⟨q', vs', eq, hp', _, zp', rs4⟩ := rs3.mutO ei h1 (rr2.set j (e3.rep rs2.mz rd))
                      cases eq
                      refine ⟨q, vs, k, j, rfl, rfl, x3.fr q _ hp (.inl np), by rw [r.length]; exact hj, ?_⟩
                      exact p Z3 M3 σ _ rs4 ((x3.s rs.mz).trans (SExt.mut zp' hp'))
                    · exact p.elim
                  | _ => exact p.elim
                | _ => exact p.elim
        | dat dd =>
          cases dd with
          | ref n =>
            dsimp only at p
            obtain ⟨q, hm, rfl⟩ := h2
            cases ea : a env st with
            | bad => rw [ea] at p; exact p
            | exc x s => rw [ea] at p; exact fun c d H' M' Z' rs' e' => p c d σ H' M' Z' rs' (e'.s rs.mz)
            | ok rr st0 =>
              rw [ea] at p
              dsimp only at p
              intro w H1 M1 Z1 rs1 e1 w1
              refine ⟨_, h1, ?_⟩
              cases ep : put rr st0 with
              | none => rw [ep] at p; exact p.elim
              | some dd =>
                obtain ⟨d, st1⟩ := dd
                rw [ep] at p
                dsimp only at p
                obtain ⟨Z2, M2, rs2, x2, rd⟩ := hput G Z M env st σ H Z1 M1 st0 H1 rr w d st1 rs rs1 e1 w1 ep
                refine ⟨Z2, M2, env, st1, rs2, ?_⟩
                cases eb : b env st1 with
                | bad => rw [eb] at p; exact p
                | exc x s => rw [eb] at p; exact fun c d H' M' Z' rs' e' => p c d σ H' M' Z' rs' ((x2.trans rs.mh e').s rs.mz)
                | ok rk st2 =>
                  rw [eb] at p
                  intro w2 H3 M3 Z3 rs3 e3 w3
                  cases rk with
                  | dat dk =>
                    cases dk with
                    | int k =>
                      dsimp only at p
                      cases w3
                      have x3 := x2.trans rs.mh e3
                      split at p
                      · rename_i ds hk
                        split at p
                        · rename_i j hj
                          obtain ⟨q1, hm1, vs, hq1, r1⟩ := rs3.sto.obj n _ hk
                          rw [x3.ix n q hm] at hm1
                          cases hm1
                          obtain ⟨q2, vs2, hm2, hq2, _, rs4, x4⟩ := rs3.mutR hk (r1.set j (e3.rep rs2.mz rd))
                          rw [x3.ix n q hm] at hm2
                          cases hm2
                          refine ⟨q, vs, k, j, rfl, rfl, hq1, by rw [r1.length]; exact hj, ?_⟩
                          exact p Z3 M3 σ _ rs4 ((x3.s rs.mz).trans (x4.s rs3.mz))
                        · exact p.elim
                      · exact p.elim
                    | _ => exact p.elim
                  | _ => exact p.elim
          | _ => exact p.elim
        | _ => exact p.elim
end
end PD

/-! PDg: targets, sources, loops, comprehensions. -/
namespace PD
open PySem PySem.Spec PyProof.Rows L2

/-! ### targets -/
abbrev Tg := D → Env → Option Env
structure TgR (K : PySem.W.Frag) (g : TG) (tg : Tg) (is : List Nat) : Prop where
  ok : ∀ (G : Ga) (Z : Addr → Prop) (M : List Addr) (env : Env) (st : Stor) (σ : L2.St) (H : Hp) (d : D) (v : V) (env' : Env) (Q : L2.St → Hp → Prop), G.K = K → RS G Z M env st σ H → Rep G.K G.mg Z M H d v → tg d env = some env' →
    (∀ σ', RS G Z M env' st σ' H → σ'.length = σ.length → (∀ j : Nat, j ∉ is → σ'[j]? = σ[j]?) → Q σ' H) → g v σ H Q
def tgN (i : Nat) : Tg := fun d env => some (env.set i (some (.dat d)))
theorem tgN_ok (K : PySem.W.Frag) (i : Nat) : TgR K (gName i) (tgN i) [i] := ⟨fun G Z M env st σ H d v env' Q _ rs r e q => by
  cases e
  exact q _ (rs.put (sv := .dat d) r (fun _ q => by cases q)) (List.length_set ..) fun j hj => List.getElem?_set_ne fun e => hj (by simp [e])⟩
def setAll : List Nat → List D → Env → Option Env
  | [], [], env => some env
  | i :: is, d :: ds, env => setAll is ds (env.set i (some (.dat d)))
  | _, _, _ => none
def tgT (is : List Nat) : Tg := fun d env => match d with
  | .tup ds => setAll is ds env
  | _ => none
def gNames : List Nat → TGs
  | [] => gNil
  | i :: is => gCons (gName i) (gNames is)
theorem gNames_ok {G : Ga} {Z : Addr → Prop} {M : List Addr} {st : Stor} {H : Hp} : ∀ (is : List Nat) (ds : List D) (vs : List V) (env env' : Env) (σ : L2.St) (Q : L2.St → Hp → Prop), RS G Z M env st σ H → Reps G.K G.mg Z M H ds vs → setAll is ds env = some env' →
    (∀ σ', RS G Z M env' st σ' H → σ'.length = σ.length → (∀ j : Nat, j ∉ is → σ'[j]? = σ[j]?) → Q σ' H) → gNames is vs σ H Q
  | [], [], _, _, _, _, _, rs, r, e, q => by
    cases e
    exact ⟨r, q _ rs rfl fun _ _ => rfl⟩
  | [], _ :: _, _, _, _, _, _, _, _, e, _ => by cases e
  | _ :: _, [], _, _, _, _, _, _, _, e, _ => by cases e
  | i :: is, d :: ds, _, env, env', σ, Q, rs, ⟨v, r, e1, h, t⟩, e, q => by
    subst e1
    refine ⟨v, r, rfl, ?_⟩
    refine gNames_ok is ds r _ env' _ Q (rs.put (sv := .dat d) h (fun _ q => by cases q)) t e fun σ' rs' hl ho => q σ' rs' (by rw [hl, List.length_set]) fun j hj => ?_
    rw [ho j fun z => hj (List.mem_cons_of_mem _ z)]
    exact List.getElem?_set_ne fun e => hj (by simp [e])
theorem setAll_len : ∀ {is : List Nat} {ds : List D} {env env' : Env}, setAll is ds env = some env' → ds.length = is.length
  | [], [], _, _, _ => rfl
  | [], _ :: _, _, _, e => by cases e
  | _ :: _, [], _, _, e => by cases e
  | i :: is, d :: ds, _, _, e => by
    rw [List.length_cons, List.length_cons]
    exact congrArg (· + 1) (setAll_len (is := is) (ds := ds) e)
theorem tgT_ok (K : PySem.W.Frag) (is : List Nat) {n : Nat} (hn : is.length = n) : TgR K (gTup K n (gNames is)) (tgT is) is := ⟨fun G Z M env st σ H d v env' Q hK rs r e q => by
  unfold tgT at e
  split at e
  · rename_i ds
    obtain ⟨a, vs, rfl, h1, h2⟩ := r
    exact ⟨a, vs, rfl, hK ▸ h1, by rw [h2.length, setAll_len e, hn], gNames_ok is ds vs env env' σ Q rs h2 e q⟩
  · cases e⟩

section
variable {X : Cx} {G : Ga} {W : WX} {e e2 e3 tg : Expr} {es : List Expr} {a b c : EV} {as : AV} {t : TV} {pos : Pos} {put : Put} {g : TG} {T : Tg} {is : List Nat}
/-- a, b = e -/
def sTgt (T : Tg) (a : EV) : SVm := fun env st => match a env st with
  | .ok (.dat d) st1 => match T d env with
    | some env1 => .nx env1 st1
    | none => .bad
  | .ok _ _ => .bad
  | .exc x s => .exc x env s
  | .bad => .bad
theorem s_tgt (hg : PG X tg g) (hT : TgR X.K g T is) (hK : G.K = X.K) (ha : PE X e (rd G W a)) (hs : swapsWithSole [tg] e pos.line X.env = pure false := by rfl) (hw : swappedStores [tg] e X.env = pure none := by rfl)
    (h1 : (assignEach [tg] X.env).map (·.2) = [assign tg X.env] := by rfl) : PS X (.Assign [tg] e pos) (rdS G W (sTgt T a)) := (ps_asg ha hg hs hw h1).imp fun N σ H ⟨Z, M, env, st, rs, p⟩ => by
  refine ⟨Z, M, env, st, rs, ?_⟩
  unfold sTgt at p
  cases ea : a env st with
  | bad => rw [ea] at p; exact p
  | exc x s => rw [ea] at p; exact fun c d H' M' Z' rs' e' => p c d σ H' M' Z' rs' (e'.s rs.mz)
  | ok r st1 =>
    rw [ea] at p
    intro v H1 M1 Z1 rs1 e1 w1
    cases r with
    | dat d =>
      dsimp only at p
      split at p
      · rename_i env1 et
        exact hT.ok G Z1 M1 env st1 σ H1 d v env1 _ hK rs1 w1 et fun σ' rs' _ _ => p Z1 M1 σ' H1 rs' (e1.s rs.mz)
      · exact p.elim
    | _ => exact p.elim

/-! ### what is gone through -/
structure Src (K : PySem.W.Frag) (mg : Str → Option Value) (J : It) (ds : List D) (C : (Addr → Prop) → List Addr → Hp → Prop) : Prop where
  go : ∀ Z M H (i : Nat) d, C Z M H → ds[i]? = some d → J.go i H ∧ ∀ x H', J.yld i H x H' → (H' = H ∨ ∃ p o, H p = none ∧ H' = upd H p o) ∧ ((∀ a ∈ M, Z a) → (∀ a ∈ M, H a ≠ none) → Rep K mg Z M H' d x)
  stop : ∀ Z M H, C Z M H → J.stop ds.length H
/-- a list, a tuple -/
def iSeq (K : PySem.W.Frag) (tl : TE) : TI := fun σ H R => tl σ H fun x H1 => ∃ a, x = .ref a ∧ (((∃ xs, SqL K H1 a xs) ∧ R (Itl K a) H1) ∨ ((∃ xs, SqT K H1 a xs) ∧ R (Itt K a) H1))
theorem pi_seq {l : Expr} {tl : TE} (hl : PE X l tl) : PI X tg l (iSeq X.K tl) := by
  refine ⟨fun pins s σ H R I h => ?_⟩
  refine thn (hl.run pins s σ H _ I h) fun v s1 ⟨x, H1, I1, r1, q1⟩ => ?_
  obtain ⟨a, e, q⟩ := q1
  subst e
  cases r1
  have nw : ∀ b ∈ [s1.heap.objs.size], FpOk X pins H1 b := fun b hb => by
    have e : b = s1.heap.objs.size := by simpa using hb
    subst e
    exact I1.fpOk (Nat.le_refl _) (I1.hok.fresh (Nat.le_refl _))
  rcases q with ⟨⟨xs, hq⟩, q⟩ | ⟨⟨xs, hq⟩, q⟩
  · obtain ⟨its, rv, p, hz⟩ := I1.list hq
    refine wpAny_pyIter_list p.isList ?_
    exact ⟨s1.heap.objs.size, [s1.heap.objs.size], _, _, H1, rfl, I1.kept (t' := s1.toks) fun b o e => Heap.get?_push_of_some _ e, turn_list a _, ⟨_, Heap.get?_push_size _ rfl, rfl, rfl⟩, nw, q⟩
  · obtain ⟨its, rv, p, hz⟩ := I1.tuple hq
    refine wpAny_pyIter_tuple (show s1.heap.IsTuple a its.toArray from p) ?_
    exact ⟨s1.heap.objs.size, [s1.heap.objs.size], _, _, H1, rfl, I1.kept (t' := s1.toks) fun b o e => Heap.get?_push_of_some _ e, turn_tuple a _, ⟨_, Heap.get?_push_size _ rfl, rfl, rfl⟩, nw, q⟩
abbrev Cd := (Addr → Prop) → List Addr → Hp → Prop
theorem src_list {K : PySem.W.Frag} {mg : Str → Option Value} {a : Addr} {vs : List V} {ds : List D} {C : Cd} (h : ∀ Z M H, C Z M H → SqL K H a vs ∧ Reps K mg Z M H ds vs) : Src K mg (Itl K a) ds C where
  go := fun Z M H i d c hi => by
    obtain ⟨h1, h2⟩ := h Z M H c
    obtain ⟨v, hv, hr⟩ := h2.get hi
    refine ⟨⟨vs, v, h1, hv⟩, fun x H' y => ?_⟩
    obtain ⟨e, y⟩ := y
    subst e
    have := y vs h1
    rw [hv] at this
    cases this
    exact ⟨.inl rfl, fun _ _ => hr⟩
  stop := fun Z M H c => by
    obtain ⟨h1, h2⟩ := h Z M H c
    exact ⟨vs, h1, Nat.le_of_eq h2.length⟩
theorem src_tup {K : PySem.W.Frag} {mg : Str → Option Value} {a : Addr} {vs : List V} {ds : List D} {C : Cd} (h : ∀ Z M H, C Z M H → SqT K H a vs ∧ Reps K mg Z M H ds vs) : Src K mg (Itt K a) ds C where
  go := fun Z M H i d c hi => by
    obtain ⟨h1, h2⟩ := h Z M H c
    obtain ⟨v, hv, hr⟩ := h2.get hi
    refine ⟨⟨vs, v, h1, hv⟩, fun x H' y => ?_⟩
    obtain ⟨e, y⟩ := y
    subst e
    have := y vs h1
    rw [hv] at this
    cases this
    exact ⟨.inl rfl, fun _ _ => hr⟩
  stop := fun Z M H c => by
    obtain ⟨h1, h2⟩ := h Z M H c
    exact ⟨vs, h1, Nat.le_of_eq h2.length⟩
def rngD (lo : Int) (n : Nat) : List D := (List.range n).map fun (k : Nat) => .int (lo + k)
theorem rngD_length (lo : Int) (n : Nat) : (rngD lo n).length = n := by unfold rngD; rw [List.length_map, List.length_range]
theorem src_rng {K : PySem.W.Frag} {mg : Str → Option Value} {lo : Int} {n : Nat} {C : Cd} : Src K mg (Itr lo n) (rngD lo n) C where
  go := fun Z M H i d c hi => by
    have hl : i < n := by have := (List.getElem?_eq_some_iff.mp hi).1; rwa [rngD_length] at this
    refine ⟨hl, fun x H' y => ?_⟩
    obtain ⟨e, y⟩ := y
    subst e y
    refine ⟨.inl rfl, fun _ _ => ?_⟩
    unfold rngD at hi
    rw [List.getElem?_map, List.getElem?_range hl] at hi
    cases hi
    exact rfl
  stop := fun Z M H c => by rw [rngD_length]; exact Nat.le_refl n
/-! ### for -/
def StbS (G : Ga) (C : Cd) : Prop := ∀ Z M H Z1 M1 H1 env st σ, C Z M H → SExt Z M H Z1 M1 H1 → RS G Z1 M1 env st σ H1 → C Z1 M1 H1
abbrev JV := Env → Stor → Out (List D × Env)
def JPost (G : Ga) (W : WX) (Z : Addr → Prop) (M : List Addr) (σ : L2.St) (H : Hp) (R : It → Hp → Prop) (env : Env) : Out (List D × Env) → Prop
  | .ok (ds, env') st' => ∀ J C H' M' Z', RS G Z' M' env' st' σ H' → SExt Z M H Z' M' H' → Src G.K G.mg J ds C → C Z' M' H' → StbS G C → R J H'
  | .exc x st' => ∀ c d H' M' Z', RS G Z' M' env st' σ H' → SExt Z M H Z' M' H' → XR G Z' M' H' x c d → W c d σ H'
  | .bad => False
def rdJ (G : Ga) (W : WX) (it : JV) : TI := fun σ H R => ∃ Z M env st, RS G Z M env st σ H ∧ JPost G W Z M σ H R env (it env st)
def forGo (T : Tg) (body : SVm) : List D → SVm
  | [], env, st => .nx env st
  | d :: ds, env, st => match T d env with
    | none => .bad
    | some env1 => match body env1 st with
      | .nx env2 st2 => forGo T body ds env2 st2
      | .cont env2 st2 => forGo T body ds env2 st2
      | .brk env2 st2 => .nx env2 st2
      | o => o
def sFor (it : JV) (T : Tg) (body : SVm) : SVm := fun env st => match it env st with
  | .ok (ds, env1) st1 => forGo T body ds env1 st1
  | .exc x s => .exc x env s
  | .bad => .bad
theorem s_for {it : JV} {iter : Expr} {body : SVm} {xs : List Stmt} (hp : PassesOwn (model X.prog X.w) X.A X.env X.xe) (hc : X.calm = true) (hK : G.K = X.K) (hi : PI X tg iter (rdJ G W it)) (hg : PG X tg g) (hT : TgR X.K g T is) (hb : PSs X xs (rdS G W body))
    (hs : ∀ x, foldedSetIterable iter X.env x = pure x := by intro _; rfl) : PS X (.For tg iter xs [] pos) (rdS G W (sFor it T body)) := (ps_for hp hc hi hg hb hs).imp fun N σ H ⟨Z, M, env, st, rs, p⟩ => by
  refine ⟨Z, M, env, st, rs, ?_⟩
  unfold sFor at p
  cases ei : it env st with
  | bad => rw [ei] at p; exact p
  | exc x s => rw [ei] at p; exact fun c d H' M' Z' rs' e' => p c d σ H' M' Z' rs' e'
  | ok de st1 =>
    obtain ⟨ds, env1⟩ := de
    rw [ei] at p
    dsimp only at p
    intro J C H1 M1 Z1 rs1 x1 src c1 stb
    refine ⟨fun i m σ H => m = ds.length - i ∧ i ≤ ds.length ∧ ∃ Z M env st, RS G Z M env st σ H ∧ C Z M H ∧ SPost G W Z M H N (forGo T body (ds.drop i) env st), ⟨ds.length, by simp, Nat.zero_le _, Z1, M1, env1, st1, rs1, c1, p.mono x1⟩, ?_⟩
    rintro i m σ2 H2 ⟨rfl, hi2, Z2, M2, env2, st2, rs2, c2, p2⟩
    by_cases hlt : i < ds.length
    · have hd : ds[i]? = some ds[i] := List.getElem?_eq_getElem hlt
      have hdr : ds.drop i = ds[i] :: ds.drop (i + 1) := List.drop_eq_getElem_cons hlt
      rw [hdr] at p2
      obtain ⟨go, yld⟩ := src.go Z2 M2 H2 i _ c2 hd
      refine .inr ⟨go, fun σ H => i + 1 ≤ ds.length ∧ ∃ Z M env st, RS G Z M env st σ H ∧ C Z M H ∧ SPost G W Z M H N (forGo T body (ds.drop (i + 1)) env st), fun σ' H' ⟨h1, h2⟩ => ⟨ds.length - (i + 1), by omega, rfl, h1, h2⟩, fun x H' y => ?_⟩
      obtain ⟨hh, rp⟩ := yld x H' y
      have rp := rp rs2.mz rs2.mh
      have rs3 : RS G Z2 M2 env2 st2 σ2 H' := by
        rcases hh with rfl | ⟨q, o, hq, rfl⟩
        · exact rs2
        · exact rs2.alloc0 hq
      have x3 : SExt Z2 M2 H2 Z2 M2 H' := by
        rcases hh with rfl | ⟨q, o, hq, rfl⟩
        · exact SExt.refl _ _ _
        · exact (Ext.alloc0 rs2.mh hq).s rs2.mz
      unfold forGo at p2
      split at p2
      · exact p2.elim
      · rename_i env3 et
        refine hT.ok G Z2 M2 env2 st2 σ2 H' ds[i] x env3 _ hK rs3 rp et fun σ' rs' _ _ => ⟨Z2, M2, env3, st2, rs', ?_⟩
        cases eb : body env3 st2 with
        | nx env4 st4 =>
          rw [eb] at p2
          exact fun Z' M' σ'' H'' rs'' x'' => ⟨hlt, Z', M', env4, st4, rs'', stb _ _ _ _ _ _ _ _ _ c2 (x3.trans x'') rs'', p2.mono (x3.trans x'')⟩
        | cont env4 st4 =>
          rw [eb] at p2
          exact fun Z' M' σ'' H'' rs'' x'' => ⟨hlt, Z', M', env4, st4, rs'', stb _ _ _ _ _ _ _ _ _ c2 (x3.trans x'') rs'', p2.mono (x3.trans x'')⟩
        | brk env4 st4 =>
          rw [eb] at p2
          exact fun Z' M' σ'' H'' rs'' x'' => p2 Z' M' σ'' H'' rs'' (x3.trans x'')
        | ret r st4 => rw [eb] at p2; exact p2
        | exc y env4 st4 => rw [eb] at p2; exact fun c d σ'' H'' M' Z' rs'' x'' => p2 c d σ'' H'' M' Z' rs'' (x3.trans x'')
        | bad => rw [eb] at p2; exact p2
    · have e : i = ds.length := by omega
      subst e
      rw [List.drop_length] at p2
      exact .inl ⟨src.stop _ _ _ c2, p2 Z2 M2 σ2 H2 rs2 (SExt.refl _ _ _)⟩

/-! ### the sources of a for -/
theorem _root_.L2.PI.imp {iter : Expr} {t t' : TI} (h : PI X tg iter t) (i : ∀ σ H Q, t' σ H Q → t σ H Q) : PI X tg iter t' := ⟨fun pins s σ H Q I w => h.run pins s σ H Q I (i σ H Q w)⟩
def jSeq (a : EV) : JV := fun env st => match a env st with
  | .ok (.dat (.tup ds)) st1 => .ok (ds, env) st1
  | .ok (.dat (.lst ds)) st1 => .ok (ds, env) st1
  | .ok (.new ds) st1 => .ok (ds, env) st1
  | .ok _ _ => .bad
  | .exc x s => .exc x s
  | .bad => .bad
theorem stb_tup {K : PySem.W.Frag} {a : Addr} {vs : List V} {ds : List D} (hK : G.K = K) : StbS G fun Z M H => SqT K H a vs ∧ Reps G.K G.mg Z M H ds vs := fun Z M H Z1 M1 H1 env st σ ⟨h1, h2⟩ x rs => ⟨by
  rcases h1 with (h | ⟨o, h⟩) | h
  · exact .inl (.inl (x.f a _ h (.inr trivial)))
  · exact .inl (.inr ⟨o, x.f a _ h (.inr trivial)⟩)
  · exact .inr h, x.reps h2⟩
theorem stb_lst {a : Addr} {vs : List V} {ds : List D} : StbS G fun Z M H => (H a = some (.lst vs) ∧ ¬ Z a) ∧ Reps G.K G.mg Z M H ds vs := fun Z M H Z1 M1 H1 env st σ ⟨⟨h1, n⟩, h2⟩ x rs => ⟨⟨x.f a _ h1 (.inl n), fun z => n (x.n a (by rw [h1]; simp) z)⟩, x.reps h2⟩
theorem stb_view {a : Addr} {vs : List V} {ds : List D} (h0 : G.H0 a = some (.lst vs)) (n : a ∉ G.M0) : StbS G fun Z M H => H a = some (.lst vs) ∧ Reps G.K G.mg Z M H ds vs := fun Z M H Z1 M1 H1 env st σ ⟨h1, h2⟩ x rs => ⟨rs.fr a _ h0 (.inl n), x.reps h2⟩
theorem j_seq (hK : G.K = X.K) (ha : PE X e (rd G W a)) : PI X tg e (rdJ G W (jSeq a)) := (pi_seq ha).imp fun σ H R ⟨Z, M, env, st, rs, p⟩ => by
  refine ⟨Z, M, env, st, rs, ?_⟩
  unfold jSeq at p
  cases ea : a env st with
  | bad => rw [ea] at p; exact p
  | exc x s => rw [ea] at p; exact fun c d H' M' Z' rs' e' => p c d H' M' Z' rs' (e'.s rs.mz)
  | ok r st1 =>
    rw [ea] at p
    intro v H1 M1 Z1 rs1 e1 w1
    cases r with
    | dat d =>
      cases d with
      | tup ds =>
        obtain ⟨q, vs, rfl, h1, h2⟩ := w1
        rw [hK] at h1
        refine ⟨q, rfl, .inr ⟨⟨vs, h1⟩, ?_⟩⟩
        exact p (Itt X.K q) _ H1 M1 Z1 rs1 (e1.s rs.mz) (hK ▸ src_tup fun _ _ _ h => h) ⟨h1, h2⟩ (stb_tup hK)
      | lst ds =>
        obtain ⟨q, vs, rfl, n, h1, h2⟩ := w1
        refine ⟨q, rfl, .inl ⟨⟨vs, SqL.of h1⟩, ?_⟩⟩
        exact p (Itl X.K q) _ H1 M1 Z1 rs1 (e1.s rs.mz) (hK ▸ src_list fun _ _ _ h => ⟨SqL.of h.1.1, h.2⟩) ⟨⟨h1, n⟩, h2⟩ stb_lst
      | _ => exact p.elim
    | new ds =>
      obtain ⟨q, vs, rfl, h0, zq, np, h1, h2⟩ := w1
      have hT : ∀ p ∈ [q], H p = none ∧ p ∉ M1 := fun p hp => by
        have : p = q := by simpa using hp
        subst this
        exact ⟨h0, np⟩
      refine ⟨q, rfl, .inl ⟨⟨vs, SqL.of h1⟩, ?_⟩⟩
      exact p (Itl X.K q) _ H1 M1 _ (rs.free rs1 hT) ((e1.free rs.sto.zh hT).s rs.mz) (hK ▸ src_list fun _ _ _ h => ⟨SqL.of h.1.1, h.2⟩) ⟨⟨h1, fun z => z.2 (by simp)⟩, Reps.free h2⟩ stb_lst
    | _ => exact p.elim
/-- for .. in x, x a name: its list stays as it is from now on -/
def jVar (i : Nat) : JV := fun env st => match env[i]? with
  | some (some (.dat (.tup ds))) => .ok (ds, env) st
  | some (some (.dat (.lst ds))) => .ok (ds, env) st
  | some (some (.own ds)) => .ok (ds, env.set i (some (.dat (.lst ds)))) st
  | some (some (.view ds)) => .ok (ds, env) st
  | _ => .bad
/-- a name's list becomes data -/
theorem RS.settle {Z : Addr → Prop} {M : List Addr} {env : Env} {st : Stor} {σ : L2.St} {H : Hp} (rs : RS G Z M env st σ H) {i : Nat} {ds : List D} {p : Addr} {vs : List V} (hi : env[i]? = some (some (.own ds))) (hv : σ[i]? = some (some (.ref p))) (np : p ∉ M) (h0 : G.H0 p = none) (hp : H p = some (.lst vs)) (r : Reps G.K G.mg Z M H ds vs) :
    RS G (ZFree Z [p]) M (env.set i (some (.dat (.lst ds)))) st σ H ∧ SExt Z M H (ZFree Z [p]) M H := by
  have fr : RS G (ZFree Z [p]) M (env.set i none) st σ H := by
    have rd := rs.drop i
    refine ⟨rd.len, fun j sv hj => ?_, rd.dis, rd.sto.free fun q hq => by simp at hq; subst hq; exact np, fun a h => ⟨rd.z0 a h, fun q => ?_⟩, rd.fr, rd.m0, rd.mn, rd.h0, fun a h z => rd.n0 a h z.1, rd.z00⟩
    · obtain ⟨v, h1, h2⟩ := rd.slot j sv hj
      refine ⟨v, h1, ?_⟩
      cases sv with
      | dat d => exact Rep.free h2
      | own es =>
        obtain ⟨q, us, rfl, zq, nq, hq0, hq, rq⟩ := h2
        refine ⟨q, us, rfl, ⟨zq, fun hm => ?_⟩, nq, hq0, hq, Reps.free rq⟩
        have : q = p := by simpa using hm
        subst this
        rcases get_set hj with ⟨_, e⟩ | ⟨n, e⟩
        · cases e
        · exact rs.dis j i es ds e hi n (h1.trans hv.symm)
      | view es =>
        obtain ⟨q, us, rfl, hq, nq, rq⟩ := h2
        exact ⟨q, us, rfl, hq, nq, Reps.free rq⟩
      | scr es =>
        obtain ⟨q, us, rfl, hq, rq⟩ := h2
        exact ⟨q, us, rfl, hq, Reps.free rq⟩
      | exn x =>
        obtain ⟨a, c, d, h0, rfl, h⟩ := h2
        exact ⟨a, c, d, h0, rfl, XRK.mono (fun _ _ h => h) (fun _ _ e _ => e) (fun _ _ z => z.1) h⟩
      | thk => exact h2
    · have : a = p := by simpa using q
      subst this
      exact rd.z00 a h h0
  have r2 := fr.put (i := i) (sv := .dat (.lst ds)) (v := .ref p) ⟨p, vs, rfl, fun z => z.2 (by simp), hp, Reps.free r⟩ (fun _ q => by cases q)
  have e1 : (env.set i none).set i (some (.dat (.lst ds))) = env.set i (some (.dat (.lst ds))) := List.set_set ..
  have e2 : σ.set i (some (.ref p)) = σ := by
    apply List.ext_getElem?
    intro j
    by_cases q : i = j
    · subst q
      rw [hv]
      exact List.getElem?_set_self (List.getElem?_eq_some_iff.mp hv).1
    · exact List.getElem?_set_ne q
  rw [e1, e2] at r2
  exact ⟨r2, ⟨[], by simp⟩, fun _ _ e _ => e, fun _ _ z => z.1, fun _ h => h⟩
theorem j_var (hK : G.K = X.K) (i : Nat) {x : Str} {p2 : Pos} (hN : X.N[i]? = some x := by rfl) (hv : Vis X.env.scope x := by first | exact Or.inl rfl | exact Or.inr (Or.inl rfl) | exact Or.inr (Or.inr rfl)) (hd : (x == ("__debug__" : Str)) = false := by decide)
    (hcd : (x == ("__classdict__" : Str)) = false := by decide) : PI X tg (.Name x p2) (rdJ G W (jVar i)) := (pi_seq (pe_var hN hv hd hcd)).imp fun σ H R ⟨Z, M, env, st, rs, p⟩ => by
  unfold jVar at p
  cases ei : env[i]? with
  | none => rw [ei] at p; exact p.elim
  | some o =>
    cases o with
    | none => rw [ei] at p; exact p.elim
    | some sv =>
      obtain ⟨v, h1, h2⟩ := rs.slot i sv ei
      refine ⟨v, h1, ?_⟩
      rw [ei] at p
      cases sv with
      | dat d =>
        cases d with
        | tup ds =>
          obtain ⟨q, vs, rfl, h3, h4⟩ := h2
          rw [hK] at h3
          refine ⟨q, rfl, .inr ⟨⟨vs, h3⟩, ?_⟩⟩
          exact p (Itt X.K q) _ H M Z rs (SExt.refl _ _ _) (hK ▸ src_tup fun _ _ _ h => h) ⟨h3, h4⟩ (stb_tup hK)
        | lst ds =>
          obtain ⟨q, vs, rfl, n, h3, h4⟩ := h2
          refine ⟨q, rfl, .inl ⟨⟨vs, SqL.of h3⟩, ?_⟩⟩
          exact p (Itl X.K q) _ H M Z rs (SExt.refl _ _ _) (hK ▸ src_list fun _ _ _ h => ⟨SqL.of h.1.1, h.2⟩) ⟨⟨h3, n⟩, h4⟩ stb_lst
        | _ => exact p.elim
      | own ds =>
        obtain ⟨q, vs, rfl, zq, np, h0, hp, r⟩ := h2
        obtain ⟨rs2, x2⟩ := rs.settle ei h1 np h0 hp r
        refine ⟨q, rfl, .inl ⟨⟨vs, SqL.of hp⟩, ?_⟩⟩
        exact p (Itl X.K q) _ H M _ rs2 x2 (hK ▸ src_list fun _ _ _ h => ⟨SqL.of h.1.1, h.2⟩) ⟨⟨hp, fun z => z.2 (by simp)⟩, Reps.free r⟩ stb_lst
      | view ds =>
        obtain ⟨q, vs, rfl, h0, np, r⟩ := h2
        have h3 := rs.fr q _ h0 (.inl np)
        refine ⟨q, rfl, .inl ⟨⟨vs, SqL.of h3⟩, ?_⟩⟩
        exact p (Itl X.K q) _ H M Z rs (SExt.refl _ _ _) (hK ▸ src_list fun _ _ _ h => ⟨SqL.of h.1, h.2⟩) ⟨h3, r⟩ (stb_view h0 np)
      | _ => exact p.elim
def rngOf1 : List R → Option (List D)
  | [.dat (.int j)] => if -(2 ^ 62) ≤ j ∧ j < 2 ^ 62 then some (rngD 0 j.toNat) else none
  | _ => none
def rngOf2 : List R → Option (List D)
  | [.dat (.int i), .dat (.int j)] => if -(2 ^ 62) ≤ i ∧ i < 2 ^ 62 ∧ -(2 ^ 62) ≤ j ∧ j < 2 ^ 62 then some (rngD i (j - i).toNat) else none
  | _ => none
theorem rngOf1_is {rs : List R} {ds : List D} (h : rngOf1 rs = some ds) : ∃ j, rs = [.dat (.int j)] ∧ -(2 ^ 62) ≤ j ∧ j < 2 ^ 62 ∧ ds = rngD 0 j.toNat := by
  unfold rngOf1 at h
  split at h
  · split at h
    · rename_i j hb
      cases h
      exact ⟨j, rfl, hb.1, hb.2, rfl⟩
    · cases h
  · cases h
theorem rngOf2_is {rs : List R} {ds : List D} (h : rngOf2 rs = some ds) : ∃ i j, rs = [.dat (.int i), .dat (.int j)] ∧ (-(2 ^ 62) ≤ i ∧ i < 2 ^ 62 ∧ -(2 ^ 62) ≤ j ∧ j < 2 ^ 62) ∧ ds = rngD i (j - i).toNat := by
  unfold rngOf2 at h
  split at h
  · split at h
    · rename_i i j hb
      cases h
      exact ⟨i, j, rfl, hb, rfl⟩
    · cases h
  · cases h
def jRng1 (as : AV) : JV := fun env st => match as env st with
  | .ok rs st1 => match rngOf1 rs with
    | some ds => .ok (ds, env) st1
    | none => .bad
  | .exc x s => .exc x s
  | .bad => .bad
theorem j_rng1 {p2 : Pos} (hm : X.mg "range" = none) (ha : PA X [e] (rdA G W as)) (hg : Gl X "range" := by rfl) (hs : starEach [e] X.env = [(false, eval e X.env)] := by rfl) : PI X tg (.Call (.Name "range" p2) [e] [] pos) (rdJ G W (jRng1 as)) := (pi_range1 hg hm ha hs).imp fun σ H R ⟨Z, M, env, st, rs, p⟩ => by
  refine ⟨Z, M, env, st, rs, ?_⟩
  unfold jRng1 at p
  cases ea : as env st with
  | bad => rw [ea] at p; exact p
  | exc x s => rw [ea] at p; exact fun c d H' M' Z' rs' e' => p c d H' M' Z' rs' (e'.s rs.mz)
  | ok r st1 =>
    rw [ea] at p
    dsimp only at p
    intro vs H1 M1 Z1 rs1 e1 w1
    cases er : rngOf1 r with
    | none => rw [er] at p; exact p.elim
    | some ds =>
      rw [er] at p
      obtain ⟨j, rfl, h1, h2, rfl⟩ := rngOf1_is er
      cases w1 with
      | cons h t =>
        cases t
        cases h
        exact ⟨j, rfl, h1, h2, p (Itr 0 j.toNat) (fun _ _ _ => True) H1 M1 Z1 rs1 (e1.s rs.mz) src_rng trivial (fun _ _ _ _ _ _ _ _ _ _ _ _ => trivial)⟩
def jRng2 (as : AV) : JV := fun env st => match as env st with
  | .ok rs st1 => match rngOf2 rs with
    | some ds => .ok (ds, env) st1
    | none => .bad
  | .exc x s => .exc x s
  | .bad => .bad
theorem j_rng2 {p2 : Pos} (hm : X.mg "range" = none) (ha : PA X [e, e2] (rdA G W as)) (hg : Gl X "range" := by rfl) (hs : starEach [e, e2] X.env = [(false, eval e X.env), (false, eval e2 X.env)] := by rfl) (hs2 : starEach [e2] X.env = [(false, eval e2 X.env)] := by rfl) :
    PI X tg (.Call (.Name "range" p2) [e, e2] [] pos) (rdJ G W (jRng2 as)) := (pi_range2 hg hm ha hs hs2).imp fun σ H R ⟨Z, M, env, st, rs, p⟩ => by
  refine ⟨Z, M, env, st, rs, ?_⟩
  unfold jRng2 at p
  cases ea : as env st with
  | bad => rw [ea] at p; exact p
  | exc x s => rw [ea] at p; exact fun c d H' M' Z' rs' e' => p c d H' M' Z' rs' (e'.s rs.mz)
  | ok r st1 =>
    rw [ea] at p
    dsimp only at p
    intro vs H1 M1 Z1 rs1 e1 w1
    cases er : rngOf2 r with
    | none => rw [er] at p; exact p.elim
    | some ds =>
      rw [er] at p
      obtain ⟨i, j, rfl, hb, rfl⟩ := rngOf2_is er
      cases w1 with
      | cons h t =>
        cases t with
        | cons h' t =>
          cases t
          cases h
          cases h'
          exact ⟨i, j, rfl, hb, p (Itr i (j - i).toNat) (fun _ _ _ => True) H1 M1 Z1 rs1 (e1.s rs.mz) src_rng trivial (fun _ _ _ _ _ _ _ _ _ _ _ _ => trivial)⟩
end
end PD

/-! PDh: comprehensions, the body of a def. -/
namespace PD
open PySem PySem.Spec PyProof.Rows L2
section
variable {X : Cx} {G : Ga} {W : WX} {e e2 e3 tg : Expr} {es : List Expr} {a b c : EV} {as : AV} {t : TV} {pos : Pos} {put : Put} {g : TG} {T : Tg} {is : List Nat}
/-! ### what a comprehension goes through: it changes no list of a name -/
def StbE (C : Cd) : Prop := ∀ Z M H Z1 M1 H1, (∀ a ∈ M, Z a) → (∀ a ∈ M, H a ≠ none) → C Z M H → Ext Z M H Z1 M1 H1 → C Z1 M1 H1
abbrev IV := Env → Stor → Out (List D)
def IPost (G : Ga) (W : WX) (Z : Addr → Prop) (M : List Addr) (env : Env) (σ : L2.St) (H : Hp) (R : It → Hp → Prop) : Out (List D) → Prop
  | .ok ds st' => ∀ J C H' M' Z', RS G Z' M' env st' σ H' → Ext Z M H Z' M' H' → Src G.K G.mg J ds C → C Z' M' H' → StbE C → R J H'
  | .exc x st' => ∀ c d H' M' Z', RS G Z' M' env st' σ H' → Ext Z M H Z' M' H' → XR G Z' M' H' x c d → W c d σ H'
  | .bad => False
def rdI (G : Ga) (W : WX) (it : IV) : TI := fun σ H R => ∃ Z M env st, RS G Z M env st σ H ∧ IPost G W Z M env σ H R (it env st)
def xSeq (a : EV) : IV := fun env st => match a env st with
  | .ok (.dat (.tup ds)) st1 => .ok ds st1
  | .ok (.dat (.lst ds)) st1 => .ok ds st1
  | .ok (.new ds) st1 => .ok ds st1
  | .ok (.view ds) st1 => .ok ds st1
  | .ok _ _ => .bad
  | .exc x s => .exc x s
  | .bad => .bad
theorem stbE_tup {K : PySem.W.Frag} {a : Addr} {vs : List V} {ds : List D} (hK : G.K = K) : StbE fun Z M H => SqT K H a vs ∧ Reps G.K G.mg Z M H ds vs := fun Z M H Z1 M1 H1 mz _ ⟨h1, h2⟩ x => ⟨sqT_fr x.fr h1, x.reps mz h2⟩
theorem stbE_lst {a : Addr} {vs : List V} {ds : List D} : StbE fun Z M H => (H a = some (.lst vs) ∧ a ∉ M) ∧ Reps G.K G.mg Z M H ds vs := fun Z M H Z1 M1 H1 mz _ ⟨⟨h1, n⟩, h2⟩ x => ⟨⟨x.fr a _ h1 (.inl n), fun z => (x.mn a z).elim n fun q => by rw [h1] at q; cases q⟩, x.reps mz h2⟩
theorem x_seq (hK : G.K = X.K) (ha : PE X e (rd G W a)) : PI X tg e (rdI G W (xSeq a)) := (pi_seq ha).imp fun σ H R ⟨Z, M, env, st, rs, p⟩ => by
  refine ⟨Z, M, env, st, rs, ?_⟩
  unfold xSeq at p
  cases ea : a env st with
  | bad => rw [ea] at p; exact p
  | exc x s => rw [ea] at p; exact p
  | ok r st1 =>
    rw [ea] at p
    intro v H1 M1 Z1 rs1 e1 w1
    have fin : ∀ q vs ds, v = .ref q → H1 q = some (.lst vs) → q ∉ M1 → Reps G.K G.mg Z1 M1 H1 ds vs → IPost G W Z M env σ H R (.ok ds st1) → ∃ a, v = .ref a ∧ (((∃ xs, SqL X.K H1 a xs) ∧ R (Itl X.K a) H1) ∨ ((∃ xs, SqT X.K H1 a xs) ∧ R (Itt X.K a) H1)) := fun q vs ds ev h1 np h2 p =>
      ⟨q, ev, .inl ⟨⟨vs, SqL.of h1⟩, p (Itl X.K q) _ H1 M1 Z1 rs1 e1 (hK ▸ src_list fun _ _ _ h => ⟨SqL.of h.1.1, h.2⟩) ⟨⟨h1, np⟩, h2⟩ stbE_lst⟩⟩
    cases r with
    | dat d =>
      cases d with
      | tup ds =>
        obtain ⟨q, vs, rfl, h1, h2⟩ := w1
        rw [hK] at h1
        exact ⟨q, rfl, .inr ⟨⟨vs, h1⟩, p (Itt X.K q) _ H1 M1 Z1 rs1 e1 (hK ▸ src_tup fun _ _ _ h => h) ⟨h1, h2⟩ (stbE_tup hK)⟩⟩
      | lst ds =>
        obtain ⟨q, vs, ev, n, h1, h2⟩ := w1
        exact fin q vs ds ev h1 (fun hm => n (rs1.mz q hm)) h2 p
      | _ => exact p.elim
    | new ds =>
      obtain ⟨q, vs, ev, h0, zq, np, h1, h2⟩ := w1
      exact fin q vs ds ev h1 np h2 p
    | view ds =>
      obtain ⟨q, vs, ev, h1, np, h2⟩ := w1
      exact fin q vs ds ev h1 np h2 p
    | scr ds => exact p.elim
def xRng1 (as : AV) : IV := fun env st => match as env st with
  | .ok rs st1 => match rngOf1 rs with
    | some ds => .ok ds st1
    | none => .bad
  | .exc x s => .exc x s
  | .bad => .bad
theorem x_rng1 {p2 : Pos} (hm : X.mg "range" = none) (ha : PA X [e] (rdA G W as)) (hg : Gl X "range" := by rfl) (hs : starEach [e] X.env = [(false, eval e X.env)] := by rfl) : PI X tg (.Call (.Name "range" p2) [e] [] pos) (rdI G W (xRng1 as)) := (pi_range1 hg hm ha hs).imp fun σ H R ⟨Z, M, env, st, rs, p⟩ => by
  refine ⟨Z, M, env, st, rs, ?_⟩
  unfold xRng1 at p
  cases ea : as env st with
  | bad => rw [ea] at p; exact p
  | exc x s => rw [ea] at p; exact p
  | ok r st1 =>
    rw [ea] at p
    dsimp only at p
    intro vs H1 M1 Z1 rs1 e1 w1
    cases er : rngOf1 r with
    | none => rw [er] at p; exact p.elim
    | some ds =>
      rw [er] at p
      obtain ⟨j, rfl, h1, h2, rfl⟩ := rngOf1_is er
      cases w1 with
      | cons h t =>
        cases t
        cases h
        exact ⟨j, rfl, h1, h2, p (Itr 0 j.toNat) (fun _ _ _ => True) H1 M1 Z1 rs1 e1 src_rng trivial (fun _ _ _ _ _ _ _ _ _ _ => trivial)⟩
def xRng2 (as : AV) : IV := fun env st => match as env st with
  | .ok rs st1 => match rngOf2 rs with
    | some ds => .ok ds st1
    | none => .bad
  | .exc x s => .exc x s
  | .bad => .bad
theorem x_rng2 {p2 : Pos} (hm : X.mg "range" = none) (ha : PA X [e, e2] (rdA G W as)) (hg : Gl X "range" := by rfl) (hs : starEach [e, e2] X.env = [(false, eval e X.env), (false, eval e2 X.env)] := by rfl) (hs2 : starEach [e2] X.env = [(false, eval e2 X.env)] := by rfl) :
    PI X tg (.Call (.Name "range" p2) [e, e2] [] pos) (rdI G W (xRng2 as)) := (pi_range2 hg hm ha hs hs2).imp fun σ H R ⟨Z, M, env, st, rs, p⟩ => by
  refine ⟨Z, M, env, st, rs, ?_⟩
  unfold xRng2 at p
  cases ea : as env st with
  | bad => rw [ea] at p; exact p
  | exc x s => rw [ea] at p; exact p
  | ok r st1 =>
    rw [ea] at p
    dsimp only at p
    intro vs H1 M1 Z1 rs1 e1 w1
    cases er : rngOf2 r with
    | none => rw [er] at p; exact p.elim
    | some ds =>
      rw [er] at p
      obtain ⟨i, j, rfl, hb, rfl⟩ := rngOf2_is er
      cases w1 with
      | cons h t =>
        cases t with
        | cons h' t =>
          cases t
          cases h
          cases h'
          exact ⟨i, j, rfl, hb, p (Itr i (j - i).toNat) (fun _ _ _ => True) H1 M1 Z1 rs1 e1 src_rng trivial (fun _ _ _ _ _ _ _ _ _ _ => trivial)⟩

/-! ### [elt for tg in it if cond] -/
def wipeE (env : Env) : List Nat → Env
  | [] => env
  | v :: vs => (wipeE env vs).set v none
def compGo (put : Put) (T : Tg) (cond : TV) (elt : EV) : List D → List D → Env → Stor → Out R
  | [], acc, _, st => .ok (.new acc) st
  | d :: ds, acc, env, st => match T d env with
    | none => .bad
    | some env1 => match cond env1 st with
      | .ok true st1 => match elt env1 st1 with
        | .ok r st2 => match put r st2 with
          | some (x, st3) => if acc.length < 1000000 then compGo put T cond elt ds (acc ++ [x]) env st3 else .bad
          | none => .bad
        | _ => .bad
      | .ok false st1 => compGo put T cond elt ds acc env st1
      | _ => .bad
def eLc (put : Put) (vs : List Nat) (it : IV) (T : Tg) (cond : TV) (elt : EV) : EV := fun env st => match it env st with
  | .ok ds st1 => compGo put T cond elt ds [] (wipeE env vs) st1
  | .exc x s => .exc x s
  | .bad => .bad
def tTrue : TV := fun _ st => .ok true st
abbrev W0 : WX := fun _ _ _ _ => False
theorem _root_.L2.PTs.imp {ifs : List Expr} {t t' : TT} (h : PTs X ifs t) (i : ∀ σ H Q, t' σ H Q → t σ H Q) : PTs X ifs t' := ⟨fun pins s σ H Q I w => h.run pins s σ H Q I (i σ H Q w)⟩
theorem ifs_nil : PTs X [] (rdT G W tTrue) := pts_nil.imp fun σ H Q ⟨Z, M, env, st, rs, p⟩ => p H M Z rs (Ext.refl _ _ _)
theorem ifs_one (h : PT X e (rdT G W t)) : PTs X [e] (rdT G W t) := pts_one h
theorem wipeE_get {env : Env} {i : Nat} {sv : SV} : ∀ {vs : List Nat}, (wipeE env vs)[i]? = some (some sv) → env[i]? = some (some sv) ∧ i ∉ vs
  | [], h => ⟨h, by simp⟩
  | v :: vs, h => by
    unfold wipeE at h
    rcases get_set h with ⟨_, e⟩ | ⟨n, e⟩
    · cases e
    · obtain ⟨h1, h2⟩ := wipeE_get e
      exact ⟨h1, by simp [n, h2]⟩
theorem wipeE_length (env : Env) : ∀ vs : List Nat, (wipeE env vs).length = env.length
  | [] => rfl
  | v :: vs => by unfold wipeE; rw [List.length_set, wipeE_length env vs]
theorem wipe_keep {σ : L2.St} {i : Nat} : ∀ {vs : List Nat}, i ∉ vs → (wipe σ vs)[i]? = σ[i]?
  | [], _ => rfl
  | v :: vs, h => by
    simp only [List.mem_cons, not_or] at h
    unfold wipe
    rw [List.getElem?_set_ne (fun e => h.1 e.symm)]
    exact wipe_keep h.2
theorem wipe_at {σ : L2.St} {i : Nat} (hl : i < σ.length) : ∀ {vs : List Nat}, i ∈ vs → (wipe σ vs)[i]? = some none
  | [], h => by simp at h
  | v :: vs, h => by
    unfold wipe
    by_cases q : v = i
    · subst q
      exact List.getElem?_set_self (by rw [wipe_length]; exact hl)
    · rw [List.getElem?_set_ne q]
      refine wipe_at hl ?_
      rcases List.mem_cons.mp h with h | h
      · exact absurd h.symm q
      · exact h
theorem wipe_eq {σ σ2 : L2.St} {vs is : List Nat} (hl : σ2.length = (wipe σ vs).length) (h : ∀ j : Nat, j ∉ is → σ2[j]? = (wipe σ vs)[j]?) (hs : ∀ i ∈ is, i ∈ vs) : wipe σ2 vs = wipe σ vs := by
  rw [wipe_length] at hl
  apply List.ext_getElem?
  intro j
  by_cases q : j ∈ vs
  · by_cases hj : j < σ.length
    · rw [wipe_at hj q, wipe_at (by rw [hl]; exact hj) q]
    · rw [List.getElem?_eq_none (by rw [wipe_length]; omega), List.getElem?_eq_none (by rw [wipe_length]; omega)]
  · rw [wipe_keep q, h j (fun z => q (hs j z))]
theorem RS.wipe {Z : Addr → Prop} {M : List Addr} {env : Env} {st : Stor} {σ : L2.St} {H : Hp} (rs : RS G Z M env st σ H) (vs : List Nat) : RS G Z M (wipeE env vs) st (L2.wipe σ vs) H where
  len := by rw [wipeE_length, wipe_length]; exact rs.len
  slot := fun i sv hi => by
    obtain ⟨h1, h2⟩ := wipeE_get hi
    rw [wipe_keep h2]
    exact rs.slot i sv h1
  dis := fun i j ds es hi hj n => by
    obtain ⟨h1, h2⟩ := wipeE_get hi
    obtain ⟨h3, h4⟩ := wipeE_get hj
    rw [wipe_keep h2, wipe_keep h4]
    exact rs.dis i j ds es h1 h3 n
  sto := rs.sto
  z0 := rs.z0
  fr := rs.fr
  m0 := rs.m0
  mn := rs.mn
  h0 := rs.h0
  n0 := rs.n0
  z00 := rs.z00
theorem rd_lc (hput : PutOk put) {vs : List Nat} {it : IV} {cond : TV} {elt : EV} (hK : G.K = X.K) (hT : TgR X.K g T is) (hv : ∀ i ∈ is, i ∈ vs) {σ : L2.St} {H : Hp} {Q : VK} (h : rd G W (eLc put vs it T cond elt) σ H Q) : tLc (rdI G W it) g (rdT G W0 cond) (rd G W0 elt) vs σ H Q := by
  obtain ⟨Z, M, env, st, rs, p⟩ := h
  refine ⟨Z, M, env, st, rs, ?_⟩
  unfold eLc at p
  cases ei : it env st with
  | bad => rw [ei] at p; exact p
  | exc x s => rw [ei] at p; exact p
  | ok ds st1 =>
    rw [ei] at p
    dsimp only at p
    intro J C Hs Ms Zs rs1 x1 src c1 stb D hD
    have hDm : ∀ a ∈ Ms, a ≠ D := fun a h q => rs1.mh a h (q ▸ hD)
    have p1 : EPost G W Zs Ms env σ Hs Q (compGo put T cond elt ds [] (wipeE env vs) st1) := EPost.mono rs.mh x1 p
    let Inv (i : Nat) (H : Hp) : Prop := i ≤ ds.length ∧ ∃ Z M st acc accV, StR G.K G.mg Z M st H ∧ Ext Zs Ms Hs Z M H ∧ H D = some (.lst accV) ∧ Z D ∧ D ∉ M ∧ Reps G.K G.mg Z M H acc accV ∧ EPost G W Zs Ms env σ Hs Q (compGo put T cond elt (ds.drop i) acc (wipeE env vs) st)
    have xD := Ext.alloc (Z := Zs) (M := Ms) (o := .lst []) rs1.mh hD
    refine ⟨fun i m H => m = ds.length - i ∧ Inv i H, ⟨ds.length, by simp, Nat.zero_le _, _, Ms, st1, [], [], (rs1.alloc hD).sto, xD, upd_same, .inr rfl, fun hm => hDm D hm rfl, rfl, p1⟩, ?_⟩
    rintro i m H2 ⟨rfl, hi2, Z2, M2, st2, acc, accV, sto2, x2, hA, zD, nD, rA, p2⟩
    have rs2 : RS G Z2 M2 env st2 σ H2 := rs1.step x2 sto2
    have c2 : C Z2 M2 H2 := stb _ _ _ _ _ _ rs1.mz rs1.mh c1 x2
    by_cases hlt : i < ds.length
    · have hd : ds[i]? = some ds[i] := List.getElem?_eq_getElem hlt
      have hdr : ds.drop i = ds[i] :: ds.drop (i + 1) := List.drop_eq_getElem_cons hlt
      rw [hdr] at p2
      obtain ⟨go, yld⟩ := src.go Z2 M2 H2 i _ c2 hd
      refine .inr ⟨go, Inv (i + 1), fun H' n => ⟨ds.length - (i + 1), by omega, rfl, n⟩, fun x H' y => ?_⟩
      obtain ⟨hh, rp⟩ := yld x H' y
      have rp := rp rs2.mz rs2.mh
      have rs3 : RS G Z2 M2 env st2 σ H' := by
        rcases hh with rfl | ⟨q, o, hq, rfl⟩
        · exact rs2
        · exact rs2.alloc0 hq
      have x3 : Ext Z2 M2 H2 Z2 M2 H' := by
        rcases hh with rfl | ⟨q, o, hq, rfl⟩
        · exact Ext.refl _ _ _
        · exact Ext.alloc0 rs2.mh hq
      unfold compGo at p2
      split at p2
      · exact p2.elim
      · rename_i env3 et
        refine hT.ok G Z2 M2 (wipeE env vs) st2 (wipe σ vs) H' ds[i] x env3 _ hK (rs3.wipe vs) rp et fun σ' rs' hl ho => ⟨wipe_eq hl ho hv, Z2, M2, env3, st2, rs', ?_⟩
        cases ec : cond env3 st2 with
        | bad => rw [ec] at p2; exact p2.elim
        | exc x s => rw [ec] at p2; exact p2.elim
        | ok k st4 =>
          rw [ec] at p2
          intro H4 M4 Z4 rs4 x4
          have x24 := x3.trans rs2.mh x4
          have x04 := x2.trans rs1.mh x24
          cases k with
          | false =>
            rw [if_neg Bool.false_ne_true]
            exact ⟨hlt, Z4, M4, st4, acc, accV, rs4.sto, x04, x24.fr D _ hA (.inl nD), x24.z D zD, (fun z => (x24.mn D z).elim nD fun q => by rw [hA] at q; cases q), x24.reps rs2.mz rA, p2⟩
          | true =>
            rw [if_pos rfl]
            refine ⟨Z4, M4, env3, st4, rs4, ?_⟩
            dsimp only at p2
            cases el : elt env3 st4 with
            | bad => rw [el] at p2; exact p2.elim
            | exc x s => rw [el] at p2; exact p2.elim
            | ok r st5 =>
              rw [el] at p2
              dsimp only at p2
              intro v5 H5 M5 Z5 rs5 x5 w5
              cases ep : put r st5 with
              | none => rw [ep] at p2; exact p2.elim
              | some dd =>
                obtain ⟨d, st6⟩ := dd
                rw [ep] at p2
                dsimp only at p2
                obtain ⟨Z6, M6, rs6, x6, rd6⟩ := hput G Z4 M4 env3 st4 σ' H4 Z5 M5 st5 H5 r v5 d st6 rs4 rs5 x5 w5 ep
                split at p2
                · rename_i hz
                  have x26 := x24.trans rs2.mh x6
                  have x06 := x2.trans rs1.mh x26
                  have hA6 := x26.fr D _ hA (.inl nD)
                  have zD6 := x26.z D zD
                  have nD6 : D ∉ M6 := fun z => (x26.mn D z).elim nD fun q => by rw [hA] at q; cases q
                  have rA6 := x26.reps rs2.mz rA
                  refine ⟨accV, hA6, lim_lt (by rw [rA.length]; exact hz), ?_⟩
                  have hD0 : G.H0 D = none := by
                    cases q : G.H0 D with
                    | none => rfl
                    | some o => exact absurd hD (rs1.h0 D (by rw [q]; simp))
                  have rs7 : RS G Z6 M6 env st6 σ H5 := rs2.step x26 rs6.sto
                  have rs8 := rs7.mutX (ws := accV ++ [v5]) zD6 nD6 hD0 hA6 fun j es' hj q => by
                    obtain ⟨v', h1, h2⟩ := rs1.slot j _ hj
                    obtain ⟨p', vs', rfl, _, _, _, hp', _⟩ := h2
                    rw [h1] at q
                    cases q
                    rw [hD] at hp'
                    cases hp'
                  have mono : ∀ {ds vs}, Reps G.K G.mg Z6 M6 H5 ds vs → Reps G.K G.mg Z6 M6 (upd H5 D (.lst (accV ++ [v5]))) ds vs := fun h => Reps.mono (fun _ _ h => h) (SExt.mut (M := M6) zD6 hA6).f (fun _ _ z => z) _ _ h
                  refine ⟨hlt, Z6, M6, st6, acc ++ [d], accV ++ [v5], rs8.sto, ⟨x06.m, x06.mn, fun b o eb ib => ?_, x06.z, x06.n, fun a h => ?_⟩, upd_same, zD6, nD6, mono (rA6.append (.one rd6)), p2⟩
                  · rw [upd_ne (ne_of_none eb hD)]
                    exact x06.fr b o eb ib
                  · rw [upd_ne (fun q => h (by rw [q]; exact hD))]
                    exact x06.h a h
                · exact p2.elim
    · have e : i = ds.length := by omega
      subst e
      rw [List.drop_length] at p2
      exact .inl ⟨src.stop _ _ _ c2, p2 _ H2 M2 Z2 rs2 x2 ⟨D, accV, rfl, hD, zD, nD, hA, rA⟩⟩
theorem i_lc (hput : PutOk put) {it : IV} {cond : TV} {elt : EV} {iter : Expr} {ifs : List Expr} {scope : Scope} {own : List (Str × Nat)} (hc : X.calm = true) (hN : X.N.Nodup) (hK : G.K = X.K) (hT : TgR X.K g T is) (hv : ∀ i ∈ is, i ∈ own.map (·.2)) (hi : PI X tg iter (rdI G W it)) (ok : BlkOk X.N X.env.scope scope own)
    (hg : ∀ (s : Shared) (H : Hp) (C : Addr) (cl : List (Str × Addr)) (fp : List Addr), PG (X.blk s H scope (compEnvC scope cl C X.env) fp) tg g)
    (ht : ∀ (s : Shared) (H : Hp) (C : Addr) (cl : List (Str × Addr)) (fp : List Addr), PTs (X.blk s H scope (compEnvC scope cl C X.env) fp) ifs (rdT G W0 cond))
    (he : ∀ (s : Shared) (H : Hp) (C : Addr) (cl : List (Str × Addr)) (fp : List Addr), PE (X.blk s H scope (compEnvC scope cl C X.env) fp) e (rd G W0 elt)) (hs : ∀ x, foldedSetIterable iter X.env x = pure x := by intro _; rfl) :
    PE X (.ListComp e [⟨tg, iter, ifs, 0⟩] scope pos) (rd G W (eLc put (own.map (·.2)) it T cond elt)) := (pe_lc hc hN hi ok hg ht he hs).imp fun σ H Q h => rd_lc hput hK hT hv h
theorem s_setLc (hput : PutOk put) (i : Nat) {y : Str} {py : Pos} {it : IV} {cond : TV} {elt : EV} {iter : Expr} {ifs : List Expr} {scope : Scope} {own : List (Str × Nat)} {spos : Pos} (hc : X.calm = true) (hN : X.N.Nodup) (hK : G.K = X.K) (hT : TgR X.K g T is) (hv : ∀ i ∈ is, i ∈ own.map (·.2)) (hi : PI X tg iter (rdI G W it)) (ok : BlkOk X.N X.env.scope scope own)
    (hg : ∀ (s : Shared) (H : Hp) (C : Addr) (cl : List (Str × Addr)) (fp : List Addr), PG (X.blk s H scope (compEnvC scope cl C X.env) fp) tg g)
    (ht : ∀ (s : Shared) (H : Hp) (C : Addr) (cl : List (Str × Addr)) (fp : List Addr), PTs (X.blk s H scope (compEnvC scope cl C X.env) fp) ifs (rdT G W0 cond))
    (he : ∀ (s : Shared) (H : Hp) (C : Addr) (cl : List (Str × Addr)) (fp : List Addr), PE (X.blk s H scope (compEnvC scope cl C X.env) fp) e (rd G W0 elt))
    (hsw : swapsWith (.ListComp e [⟨tg, iter, ifs, 0⟩] scope pos) (some (.Name y py)) spos.line X.env = pure true) (hy : X.N[i]? = some y := by rfl) (hyl : X.env.scope.names.lookup y = some .local := by rfl) (hs : ∀ x, foldedSetIterable iter X.env x = pure x := by intro _; rfl) :
    PS X (.Assign [.Name y py] (.ListComp e [⟨tg, iter, ifs, 0⟩] scope pos) spos) (rdS G W (sSet i (eLc put (own.map (·.2)) it T cond elt))) := (ps_setLc hc hN hy hyl hsw hi ok hg ht he hs).imp fun N σ H h => by
  have h2 := rd_set h
  exact rd_lc hput hK hT hv h2

/-! ### the body of a def -/
mutual
def D.blw (n : Nat) : D → Bool
  | .ref i => decide (i < n)
  | .tup ds => blwAll n ds
  | .lst ds => blwAll n ds
  | _ => true
def blwAll (n : Nat) : List D → Bool
  | [] => true
  | d :: ds => D.blw n d && blwAll n ds
end
def R.blw (n : Nat) : R → Bool
  | .dat d => d.blw n
  | .new ds => blwAll n ds
  | .view ds => blwAll n ds
  | .scr ds => blwAll n ds
def Obj.blw (n : Nat) : Obj → Bool
  | .lst ds => blwAll n ds
  | .ins _ fs => blwAll n (fs.map (·.2))
  | .dct _ kvs => blwAll n (kvs.map (·.1)) && blwAll n (kvs.map (·.2))
/-- what is new in the store and nobody speaks of is left -/
def gc (n : Nat) (r : R) (st : Stor) : Out R := if st.length ≤ n then .ok r st else if r.blw n && (st.take n).all (Obj.blw n) then .ok r (st.take n) else .ok r st
def finish (n : Nat) : SO → Out R
  | .nx _ st => gc n (.dat .non) st
  | .ret (.dat d) st => gc n (.dat d) st
  | .ret (.new ds) st => gc n (.new ds) st
  | .exc x _ st => .exc x st
  | _ => .bad
def R.sv : R → Option SV
  | .dat d => some (.dat d)
  | .view ds => some (.view ds)
  | .scr ds => some (.scr ds)
  | .new _ => none
def runFn (n m : Nat) (body : SVm) : Sem := fun rs st => if rs.length = n then finish st.length (body (rs.map R.sv ++ List.replicate m none) st) else .bad
section
variable {K : PySem.W.Frag} {mg : Str → Option Value} {Z : Addr → Prop} {M : List Addr} {H : Hp} {n : Nat}
mutual
theorem Rep.blw : ∀ (d : D) (v : V), d.blw n = true → Rep K mg Z M H d v → Rep K mg Z (M.take n) H d v
  | .non, _, _, h => h
  | .bl _, _, _, h => h
  | .int _, _, _, h => h
  | .str _, _, _, h => h
  | .tup ds, _, b, ⟨a, vs, e, h, r⟩ => ⟨a, vs, e, h, Reps.blw ds vs b r⟩
  | .lst ds, _, b, ⟨a, vs, e, z, h, r⟩ => ⟨a, vs, e, z, h, Reps.blw ds vs b r⟩
  | .ref i, _, b, ⟨a, e, h⟩ => ⟨a, by rw [List.getElem?_take_of_lt (of_decide_eq_true b)]; exact e, h⟩
  | .glo _, _, _, h => h
theorem Reps.blw : ∀ (ds : List D) (vs : List V), blwAll n ds = true → Reps K mg Z M H ds vs → Reps K mg Z (M.take n) H ds vs
  | [], _, _, h => h
  | d :: ds, _, b, ⟨v, r, e, h, t⟩ => by
    have b : (D.blw n d && blwAll n ds) = true := b
    rw [Bool.and_eq_true] at b
    exact ⟨v, r, e, Rep.blw d v b.1 h, Reps.blw ds r b.2 t⟩
end
end
theorem gc_ok {K : PySem.W.Frag} {mg : Str → Option Value} {cls : Str → Option Addr} {Z0 Z : Addr → Prop} {M0 M : List Addr} {st0 st : Stor} {H0 H : Hp} {Q : VK} {E : XK} {r : R} {v : V} (s0 : StR K mg Z0 M0 st0 H0) (p : CPost K mg cls Z0 M0 H0 Q E (gc st0.length r st)) (s : StR K mg Z M st H) (x : Ext Z0 M0 H0 Z M H)
    (w : VR (mkG K mg cls Z0 M0 H0) H0 Z M H r v) : Q v H := by
  unfold gc at p
  split at p
  · exact p v H M Z s x w
  · rename_i hn
    split at p
    · rename_i hb
      rw [Bool.and_eq_true] at hb
      have hM : M.take st0.length = M0 := by
        obtain ⟨t, rfl⟩ := x.m
        rw [← s0.len, List.take_left]
      have sub : ∀ a ∈ M.take st0.length, a ∈ M := fun a h => List.mem_of_mem_take h
      refine p v H (M.take st0.length) Z ⟨?_, fun i o hi => ?_, s.nd.sublist (List.take_sublist _ _), fun a h => s.mz a (sub a h), s.zh⟩ ⟨⟨[], by rw [hM]; simp⟩, fun a h => .inl (hM ▸ h), x.fr, x.z, x.n, x.h⟩ ?_
      · rw [List.length_take, List.length_take, s.len]
      · have hi' : i < st0.length := by
          have := (List.getElem?_eq_some_iff.mp hi).1
          rw [List.length_take] at this
          omega
        rw [List.getElem?_take_of_lt hi'] at hi
        obtain ⟨a, h1, h2⟩ := s.obj i o hi
        refine ⟨a, by rw [List.getElem?_take_of_lt hi']; exact h1, ?_⟩
        have hall := List.all_eq_true.mp hb.2 o (by
          refine List.mem_of_getElem? (i := i) ?_
          rw [List.getElem?_take_of_lt hi']
          exact hi)
        cases o with
        | lst ds =>
          obtain ⟨vs, h3, h4⟩ := h2
          exact ⟨vs, h3, Reps.blw ds vs hall h4⟩
        | ins c fs =>
          obtain ⟨C, dx, vs, h0, h3, h4⟩ := h2
          exact ⟨C, dx, vs, h0, h3, Reps.blw _ vs hall h4⟩
        | dct k kvs =>
          have hal : (blwAll st0.length (kvs.map (·.1)) && blwAll st0.length (kvs.map (·.2))) = true := hall
          rw [Bool.and_eq_true] at hal
          obtain ⟨q1, q2⟩ := hal
          clear hall hi
          match k, h2 with
          | 0, ⟨ks, vs, h0, h1, h2⟩ => exact ⟨ks, vs, h0, h1, Reps.blw _ vs q2 h2⟩
          | 1, ⟨P, w, L, h0, h1, h2, h3⟩ => exact ⟨P, w, L, h0, h1, Reps.blw _ _ q1 h2, Reps.blw _ _ q2 h3⟩
          | 2, ⟨P, w, L, h0, h1, h2, h3⟩ => exact ⟨P, w, L, h0, h1, Reps.blw _ _ q1 h2, Reps.blw _ _ q2 h3⟩
          | 3, h => exact h
          | k + 4, h => exact h.elim
      · cases r with
        | dat d => exact Rep.blw d v hb.1 w
        | new ds =>
          obtain ⟨q, vs, h1, h2, h3, h4, h5, h6⟩ := w
          exact ⟨q, vs, h1, h2, h3, fun z => h4 (sub q z), h5, Reps.blw ds vs hb.1 h6⟩
        | view ds =>
          obtain ⟨q, vs, h1, h2, h4, h6⟩ := w
          exact ⟨q, vs, h1, h2, fun z => h4 (sub q z), Reps.blw ds vs hb.1 h6⟩
        | scr ds =>
          obtain ⟨q, vs, h1, h2, h6⟩ := w
          refine ⟨q, vs, h1, ?_, Reps.blw ds vs hb.1 h6⟩
          exact h2.imp (fun ⟨a, b⟩ => ⟨a, fun z => b (sub q z)⟩) id
    · exact p v H M Z s x w
theorem args_rs {K : PySem.W.Frag} {mg : Str → Option Value} {cls : Str → Option Addr} {Z : Addr → Prop} {M : List Addr} {st : Stor} {H : Hp} {rs : List R} {vs : List V} (s : StR K mg Z M st H) (w : Paired (AR K mg Z M H) rs vs) (m : Nat) :
    RS (mkG K mg cls Z M H) Z M (rs.map R.sv ++ List.replicate m none) st (vs.map some ++ List.replicate m none) H where
  len := by rw [List.length_append, List.length_append, List.length_map, List.length_map, w.length, List.length_replicate, List.length_replicate]
  slot := fun i sv hi => by
    by_cases hl : i < rs.length
    · rw [List.getElem?_append_left (by rw [List.length_map]; exact hl), List.getElem?_map, List.getElem?_eq_getElem hl] at hi
      have hr : (rs[i]).sv = some sv := by simpa using hi
      obtain ⟨v, hv, ha⟩ : ∃ v, vs[i]? = some v ∧ AR K mg Z M H rs[i] v := by
        have : ∀ {rs : List R} {vs : List V} {i : Nat} {r : R}, Paired (AR K mg Z M H) rs vs → rs[i]? = some r → ∃ v, vs[i]? = some v ∧ AR K mg Z M H r v := by
          intro rs vs i r w
          induction w generalizing i with
          | nil => intro h; simp at h
          | cons h t ih =>
            intro e
            cases i with
            | zero => simp at e; subst e; exact ⟨_, rfl, h⟩
            | succ i => exact ih (by simpa using e)
        exact this w (List.getElem?_eq_getElem hl)
      have hlv : i < vs.length := (List.getElem?_eq_some_iff.mp hv).1
      refine ⟨v, by rw [List.getElem?_append_left (by rw [List.length_map]; exact hlv), List.getElem?_map, hv]; rfl, ?_⟩
      cases hq : rs[i] with
      | dat d => rw [hq] at hr ha; cases hr; exact ha
      | new ds => rw [hq] at hr; cases hr
      | view ds =>
        rw [hq] at hr ha
        cases hr
        obtain ⟨a, us, h1, h2, h3, h4⟩ := ha
        exact ⟨a, us, h1, h2, h3, h4⟩
      | scr ds =>
        rw [hq] at hr ha
        cases hr
        obtain ⟨a, us, h1, h2, h3⟩ := ha
        exact ⟨a, us, h1, h2, h3⟩
    · rw [List.getElem?_append_right (by rw [List.length_map]; omega)] at hi
      have := List.mem_of_getElem? hi
      rw [List.mem_replicate] at this
      cases this.2
  dis := fun i j ds es hi hj n => by
    have no : ∀ (i : Nat) ds, (rs.map R.sv ++ List.replicate m none)[i]? ≠ some (some (.own ds)) := fun i ds hi => by
      have := List.mem_of_getElem? hi
      rcases List.mem_append.mp this with h | h
      · obtain ⟨r, _, h2⟩ := List.mem_map.mp h
        cases r <;> cases h2
      · rw [List.mem_replicate] at h
        cases h.2
    exact absurd hi (no i ds)
  sto := s
  z0 := fun _ h => h
  fr := Frame.refl _ _
  m0 := ⟨[], by simp [mkG]⟩
  mn := fun a h => .inl h
  h0 := fun _ h => h
  n0 := fun _ _ z => z
  z00 := s.zh
theorem fn_ok {P : Program} {w : World} {K : PySem.W.Frag} {mg : Str → Option Value} {base : Heap} {cls : Str → Option Addr} {x qual : Str} {st : Stmt} {f : Addr} {fd : FuncData} {N ps : List Str} {k n m : Nat} {body : SVm} (F : Fun K x qual st f fd) (S : FnScope N ps (defScope st)) (hn : ps.length = n) (hm : N.length = n + m)
    (hb : ∀ (cdv : Value) (A : Around) (outer : List PySem.Env) (s : Shared) (H : Hp) (E : XK) (G : Ga), Room k (A.deeper (envOfC qual (defScope st) s.heap.objs.size f cdv)) → G.K = K → G.mg = mg → G.cls = cls →
      PSs (cxOf (L2.CX P w) P w K mg base N qual (defScope st) f cdv A outer s H E) (defBody st) (rdS G (fun c d _ H' => E c d H') body)) : FnOk P w K mg base (L2.CX P w) (k + 1) f fd ps (spOf K mg cls (runFn n m body)) := by
  have hl : ∀ vs H Q E, spOf K mg cls (runFn n m body) vs H Q E → vs.length = n := by
    rintro vs H Q E ⟨Z, M, st, rs, s, w, p⟩
    unfold runFn at p
    split at p
    · rename_i h
      rw [← w.length]
      exact h
    · exact p.elim
  refine F.okX S (fun vs H Q E h => (hl vs H Q E h).trans hn.symm) (fun cdv A outer s H vs Q E hr h => ?_)
  have hlv := hl vs H Q E h
  obtain ⟨Z, M, st0, rs, s0, w0, p⟩ := h
  refine ⟨_, hb cdv A outer s H E (mkG K mg cls Z M H) hr rfl rfl rfl, Z, M, _, st0, (show L2.start N vs = vs.map some ++ List.replicate m none by unfold L2.start; rw [hlv, hm]; simp) ▸ args_rs s0 w0 m, ?_⟩
  unfold runFn at p
  rw [if_pos (by rw [w0.length]; exact hlv)] at p
  cases eb : body (rs.map R.sv ++ List.replicate m none) st0 with
  | nx env1 st1 =>
    rw [eb] at p
    exact fun Z' M' σ' H' rs' x' => gc_ok s0 p rs'.sto rs'.ext0 rfl
  | brk env1 st1 => rw [eb] at p; exact p.elim
  | cont env1 st1 => rw [eb] at p; exact p.elim
  | ret r st1 =>
    rw [eb] at p
    cases r with
    | dat d => exact fun v H' M' Z' sto x vr => gc_ok s0 p sto x vr
    | new ds => exact fun v H' M' Z' sto x vr => gc_ok s0 p sto x vr
    | view ds => exact p.elim
    | scr ds => exact p.elim
  | exc y env1 st1 =>
    rw [eb] at p
    exact fun c d σ' H' M' Z' rs' x' xr => p c d H' M' Z' rs'.sto rs'.ext0 xr
  | bad => rw [eb] at p; exact p.elim
end
end PD

/-! PDi: further rules: texts, sorted ints, a call of a known def. -/
namespace PD
open PySem PySem.Spec PyProof.Rows L2

/-! ### ints sorted -/
def insI (x : Int) : List Int → List Int
  | [] => [x]
  | y :: ys => if x ≤ y then x :: y :: ys else y :: insI x ys
def isort : List Int → List Int
  | [] => []
  | x :: xs => insI x (isort xs)
theorem insI_perm (x : Int) : ∀ l : List Int, (insI x l).Perm (x :: l)
  | [] => .refl _
  | y :: ys => by
    unfold insI
    split
    · exact .refl _
    · exact ((insI_perm x ys).cons y).trans (.swap ..)
theorem isort_perm : ∀ l : List Int, (isort l).Perm l
  | [] => .refl _
  | x :: xs => (insI_perm x _).trans ((isort_perm xs).cons x)
theorem insI_sorted (x : Int) : ∀ {l : List Int}, l.Pairwise (· ≤ ·) → (insI x l).Pairwise (· ≤ ·)
  | [], _ => by simp [insI]
  | y :: ys, h => by
    have h1 := List.pairwise_cons.mp h
    unfold insI
    split
    · rename_i hxy
      refine List.pairwise_cons.mpr ⟨fun z hz => ?_, h⟩
      rcases List.mem_cons.mp hz with rfl | hz
      · exact hxy
      · exact Int.le_trans hxy (h1.1 z hz)
    · rename_i hxy
      refine List.pairwise_cons.mpr ⟨fun z hz => ?_, insI_sorted x h1.2⟩
      rcases List.mem_cons.mp ((insI_perm x ys).mem_iff.mp hz) with rfl | hz
      · omega
      · exact h1.1 z hz
theorem isort_sorted : ∀ l : List Int, (isort l).Pairwise (· ≤ ·)
  | [] => .nil
  | x :: xs => insI_sorted x (isort_sorted xs)
theorem sorted_same : ∀ {l k : List Int}, l.Perm k → l.Pairwise (· ≤ ·) → k.Pairwise (· ≤ ·) → l = k
  | [], k, p, _, _ => (List.Perm.nil_eq p)
  | x :: xs, [], p, _, _ => by simpa using p.length_eq
  | x :: xs, y :: ys, p, h1, h2 => by
    have a1 := List.pairwise_cons.mp h1
    have a2 := List.pairwise_cons.mp h2
    have e : x = y := by
      have m1 : x ∈ y :: ys := p.mem_iff.mp (by simp)
      have m2 : y ∈ x :: xs := p.mem_iff.mpr (by simp)
      rcases List.mem_cons.mp m1 with q | q
      · exact q
      · rcases List.mem_cons.mp m2 with r | r
        · exact r.symm
        · exact Int.le_antisymm (a1.1 y r) (a2.1 x q)
    subst e
    rw [sorted_same ((List.perm_cons x).mp p) a1.2 a2.2]
def intsOf : List D → Option (List Int)
  | [] => some []
  | .int i :: ds => match intsOf ds with
    | some ns => some (i :: ns)
    | none => none
  | _ :: _ => none
theorem ints_rel {K : PySem.W.Frag} {mg : Str → Option Value} {Z : Addr → Prop} {M : List Addr} {H : Hp} : ∀ {ds : List D} {vs : List V} {ns : List Int}, Reps K mg Z M H ds vs → intsOf ds = some ns → vs = ns.map V.int
  | [], vs, ns, h, e => by cases e; exact h
  | d :: ds, vs, ns, ⟨v, r, e1, h, t⟩, e => by
    subst e1
    cases d with
    | int i =>
      unfold intsOf at e
      cases q : intsOf ds with
      | none => rw [q] at e; cases e
      | some ms =>
        rw [q] at e
        cases e
        rw [show v = _ from h, ints_rel t q]
        rfl
    | _ => cases e
theorem ints_reps {K : PySem.W.Frag} {mg : Str → Option Value} {Z : Addr → Prop} {M : List Addr} {H : Hp} : ∀ ns : List Int, Reps K mg Z M H (ns.map D.int) (ns.map V.int)
  | [] => rfl
  | n :: ns => ⟨_, _, rfl, rfl, ints_reps ns⟩
def strsOf : List D → Option (List Str)
  | [] => some []
  | .str i :: ds => match strsOf ds with
    | some ns => some (i :: ns)
    | none => none
  | _ :: _ => none
theorem strs_rel {K : PySem.W.Frag} {mg : Str → Option Value} {Z : Addr → Prop} {M : List Addr} {H : Hp} : ∀ {ds : List D} {vs : List V} {ns : List Str}, Reps K mg Z M H ds vs → strsOf ds = some ns → vs = ns.map V.str
  | [], vs, ns, h, e => by cases e; exact h
  | d :: ds, vs, ns, ⟨v, r, e1, h, t⟩, e => by
    subst e1
    cases d with
    | str i =>
      unfold strsOf at e
      cases q : strsOf ds with
      | none => rw [q] at e; cases e
      | some ms =>
        rw [q] at e
        cases e
        rw [show v = _ from h, strs_rel t q]
        rfl
    | _ => cases e
section
variable {X : Cx} {G : Ga} {W : WX} {e e2 e3 tg : Expr} {es : List Expr} {a b c : EV} {as : AV} {t : TV} {pos : Pos} {put : Put}
def fSortI (r : R) (st : Stor) : Out R := match lstOf st r with
  | some ds => match intsOf ds with
    | some ns => .ok (.new ((isort ns).map D.int)) st
    | none => .bad
  | none => .bad
theorem o_sortI : OpA X G W (f1 fSortI) (rSortedI X.K) := o_f1 fun B Z M env st σ H Q r v rs w p => by
  unfold fSortI at p
  split at p
  · rename_i ds e
    split at p
    · rename_i ns ei
      obtain ⟨a1, vs, rfl, h1, h2⟩ := lst_rel rs w e
      have ev := ints_rel h2 ei
      subst ev
      refine ⟨a1, ns, rfl, SqL.of h1, fun ns' q pm so hq => ?_⟩
      rw [sorted_same (pm.trans (isort_perm ns).symm) so (isort_sorted ns)]
      exact ans_new rs p hq (ints_reps _)
    · exact p.elim
  · exact p.elim
/-- a written text joins -/
def fJoin (s : Str) (r : R) (st : Stor) : Out R := match seqOf st r with
  | some ds => match strsOf ds with
    | some ys => if (ys.map (·.length)).sum + ys.length * s.length ≤ 1000000 then .ok (.dat (.str (Str.join s ys))) st else .bad
    | none => .bad
  | none => .bad
theorem i_join {s : Str} {j : Nat} {p1 apos : Pos} (hK : G.K = X.K) (he : PE X e (rd G W a)) (hs : starEach [e] X.env = [(false, eval e X.env)] := by rfl)
    (hbase : attributeBase (.Constant (.str s) j p1) "join" X.env (eval (.Constant (.str s) j p1) X.env) = eval (.Constant (.str s) j p1) X.env := by rfl) (hline : (apos.endLine == pos.line) = true := by rfl) :
    PE X (.Call (.Attribute (.Constant (.str s) j p1) "join" apos) [e] [] pos) (rd G W (eUn (fJoin s) a)) := (pe_join pe_str he hs hbase hline).imp fun σ H Q h => by
  refine ⟨⟨s, rfl⟩, ?_⟩
  refine rd_un (X := X) (r := fun v H Q => ∃ a p, ∃ ys : List Str, V.str s = .str a ∧ [v] = [.ref p] ∧ (SqL X.K H p (ys.map V.str) ∨ SqT X.K H p (ys.map V.str)) ∧ (ys.map (·.length)).sum + ys.length * a.length ≤ 16777216 ∧ Q (.str (Txt.join a ys)) H) (fun B Z M env st σ H Q r v rs w p => ?_) h
  unfold fJoin at p
  split at p
  · rename_i ds ed
    split at p
    · rename_i ys ey
      split at p
      · rename_i hz
        obtain ⟨a1, vs, rfl, h1, h2⟩ := seq_rel rs w ed
        have ev := strs_rel h2 ey
        subst ev
        rw [hK] at h1
        refine ⟨s, a1, ys, rfl, rfl, h1, by omega, ?_⟩
        rw [TL.join_eq]
        exact ans_dat rs p rfl
      · exact p.elim
    · exact p.elim
  · exact p.elim
/-- E.append(e), E of any form: a list of the store -/
def sAppE (put : Put) (t a : EV) : SVm := fun env st => match t env st with
  | .ok (.dat (.ref k)) st0 => match st0[k]? with
    | some (.lst _) => match a env st0 with
      | .ok r st1 => match put r st1 with
        | some (d, st2) => match st2[k]? with
          | some (.lst ds) => if ds.length < 1000000 then .nx env (st2.set k (.lst (ds ++ [d]))) else .bad
          | _ => .bad
        | none => .bad
      | .exc x s => .exc x env s
      | .bad => .bad
    | _ => .bad
  | .ok _ _ => .bad
  | .exc x s => .exc x env s
  | .bad => .bad
theorem s_appE (hput : PutOk put) {o : Expr} {apos cpos : Pos} (ho : PE X o (rd G W b)) (ha : PE X e (rd G W a))
    (hbase : attributeBase o "append" X.env (eval o X.env) = eval o X.env := by rfl)
    (hfew : ((backTo cpos (starEach [e] X.env)).all (fun x => !x.1) && (backToKw cpos (keywordEach [] X.env)).all (fun x => x.1.isSome)
      && decide ([e].length + ([] : List Keyword).length + (if ([] : List Keyword).isEmpty then 0 else 1) < 30)) = true := by rfl)
    (hline : (apos.endLine == cpos.line) = true := by rfl) (hs : starEach [e] X.env = (false, eval e X.env) :: starEach [] X.env := by rfl) (hplain : (backTo cpos (starEach [] X.env)).any (·.1) = false := by rfl)
    (hsw : swapsWith (.Call (.Attribute o "append" apos) [e] [] cpos) none pos.line X.env = pure false := by rfl) :
    PS X (.Expr (.Call (.Attribute o "append" apos) [e] [] cpos) pos) (rdS G W (sAppE put b a)) :=
  (ps_expr (pe_bm PySem.F.plainAttrs_list PySem.F.slot_list_append PySem.F.type_list_append mt_append ho (pa_cons ha pa_nil hs) hbase hfew hline hs hplain) hsw).imp fun N σ H ⟨Z, M, env, st, rs, p⟩ => by
    refine ⟨Z, M, env, st, rs, ?_⟩
    unfold sAppE at p
    cases eb : b env st with
    | bad => rw [eb] at p; exact p
    | exc x s => rw [eb] at p; exact fun c d H' M' Z' rs' e' => p c d σ H' M' Z' rs' (e'.s rs.mz)
    | ok rb st0 =>
      rw [eb] at p
      intro v H0 M0 Z0 rs0 e0 w0
      cases rb with
      | dat dd =>
        cases dd with
        | ref k =>
          dsimp only at p
          split at p
          · rename_i es0 hk0
            obtain ⟨q, hm, rfl⟩ := w0
            obtain ⟨q', hm', us, hq, _⟩ := rs0.sto.obj k _ hk0
            rw [hm] at hm'
            cases hm'
            refine ⟨.inl ⟨rfl, us, SqL.of hq⟩, Z0, M0, env, st0, rs0, ?_⟩
            cases ea : a env st0 with
            | bad => rw [ea] at p; exact p
            | exc x s => rw [ea] at p; exact fun c d H' M' Z' rs' e' => p c d σ H' M' Z' rs' ((e0.trans rs.mh e').s rs.mz)
            | ok rr st1 =>
              rw [ea] at p
              dsimp only at p
              intro w H1 M1 Z1 rs1 e1 w1
              cases ep : put rr st1 with
              | none => rw [ep] at p; exact p.elim
              | some dd =>
                obtain ⟨d, st2⟩ := dd
                rw [ep] at p
                dsimp only at p
                obtain ⟨Z2, M2, rs2, x2, rd⟩ := hput G Z0 M0 env st0 σ H0 Z1 M1 st1 H1 rr w d st2 rs0 rs1 e1 w1 ep
                split at p
                · rename_i ds hk
                  split at p
                  · rename_i hz
                    obtain ⟨q1, hm1, vs, hq1, r1⟩ := rs2.sto.obj k _ hk
                    rw [x2.ix k q hm] at hm1
                    cases hm1
                    obtain ⟨q2, vs2, hm2, hq2, _, rs3, x3⟩ := rs2.mutR hk (r1.append (.one rd))
                    rw [x2.ix k q hm] at hm2
                    cases hm2
                    refine ⟨q, vs, w, rfl, rfl, hq1, lim_lt (by rw [r1.length]; exact hz), ?_⟩
                    exact p Z2 M2 σ _ rs3 ((e0.s rs.mz).trans ((x2.s rs0.mz).trans (x3.s rs2.mz)))
                  · exact p.elim
                · exact p.elim
          · exact p.elim
        | _ => exact p.elim
      | _ => exact p.elim
def fNeg (r : R) (st : Stor) : Out R := match r with
  | .dat (.int i) => .ok (.dat (.int (-i))) st
  | _ => .bad
theorem i_neg (ha : PE X e (rd G W a)) : PE X (.UnaryOp .USub e pos) (rd G W (eUn fNeg a)) := (pe_un un_neg ha).imp fun σ H Q h => rd_un (X := X) (r := rU fun i => .int (-i)) (fun B Z M env st σ H Q r v rs w p => by
  unfold fNeg at p
  split at p
  · cases w; exact ⟨_, rfl, ans_dat rs p rfl⟩
  · exact p.elim) h
def sBad : SVm := fun _ _ => .bad
theorem s_bad {s : Stmt} : PS X s (rdS G W sBad) := ps_never.imp fun N σ H ⟨Z, M, env, st, rs, p⟩ => p
/-- a def of the module, with its promise -/
def Good (P : Program) (w : World) (K : PySem.W.Frag) (mg : Str → Option Value) (base : Heap) (cls : Str → Option Addr) (k : Nat) (fa : Addr) (ps : List Str) (f : Sem) : Prop :=
  PySem.W.keepIn K (.ref fa) = true ∧ ∃ fd : FuncData, FnOk P w K mg base (L2.CX P w) k fa fd ps (spOf K mg cls f) ∧ Binds K fd ps []
/-- a def as it stands in the written part -/
def Has (K : PySem.W.Frag) (x qual : Str) (st : Stmt) (fa : Addr) (ps : List Str) : Prop := ∃ fd : FuncData, Fun K x qual st fa fd ∧ Binds K fd ps []
theorem i_callG {k j : Nat} {fa : Addr} {ps : List Str} {f : Sem} {x : Str} {p : Pos} {cls : Str → Option Addr} (F : Good X.prog X.w X.K X.mg X.base cls k fa ps f) (hm : X.mg x = some (.ref fa)) (hr : Room j X.A) (hkj : k ≤ j)
    (tk : Takes X W) (hK : G.K = X.K) (hM : G.mg = X.mg) (hC : G.cls = cls) (ha : PA X (e :: es) (rdA G W as)) (hg : Gl X x := by rfl) (hdb : (x == ("__debug__" : Str)) = false := by decide)
    (he : starEach (e :: es) X.env = (false, eval e X.env) :: starEach es X.env := by rfl) (hpl : (backTo pos (starEach es X.env)).any (·.1) = false := by rfl) : PE X (.Call (.Name x p) (e :: es) [] pos) (rd G W (eAp (fCall f) as)) := by
  obtain ⟨hk, fd, F, hb⟩ := F
  exact i_call F (hr.mono hkj) hm hk hb tk hK hM hC ha hg hdb he hpl
theorem good_of {P : Program} {w : World} {K : PySem.W.Frag} {mg : Str → Option Value} {base : Heap} {cls : Str → Option Addr} {x qual : Str} {st : Stmt} {fa : Addr} {N ps : List Str} {k n m : Nat} {body : SVm} (F : Has K x qual st fa ps) (S : FnScope N ps (defScope st)) (hn : ps.length = n) (hm : N.length = n + m)
    (hb : ∀ (cdv : Value) (A : Around) (outer : List PySem.Env) (s : Shared) (H : Hp) (E : XK) (G : Ga), Room k (A.deeper (envOfC qual (defScope st) s.heap.objs.size fa cdv)) → G.K = K → G.mg = mg → G.cls = cls →
      PSs (cxOf (L2.CX P w) P w K mg base N qual (defScope st) fa cdv A outer s H E) (defBody st) (rdS G (fun c d _ H' => E c d H') body)) : Good P w K mg base cls (k + 1) fa ps (runFn n m body) := by
  obtain ⟨fd, F, hB⟩ := F
  exact ⟨F.kp, fd, fn_ok F S hn hm hb, hB⟩
end
end PD

/-! PDj: the end of a law. -/
namespace PD
open PySem PySem.Spec PyProof.Rows L2
/-- the law's promise: whatever the module's names hold -/
def spLaw (K : PySem.W.Frag) (f : Sem) : Sp := fun vs H Q E => ∀ mg cls, spOf K mg cls f vs H Q E
theorem lawWalk {l : PySem.W.OpenLaw} {k : Nat} {q : Program} {loose : List Str} {XP : (Str → Option Value) → Heap → Prop} {YP : World → Heap → Prop} {d : DefRec} {K : Params → PySem.W.Frag} {x : Str} {f : Sem}
    (hn : l.most = some 63) (hdf : d.params.defaults = []) (hr : Room k callerA)
    (hY : ∀ (w : World) (h : Heap), YP w h → (K w.params).In h)
    (F : ∀ (w : World) (mg : Str → Option Value) (fa : Addr) (h : Heap), (K w.params).In h → h.Ns mainGlobals mg → mg d.name = some (.ref fa) →
      ∃ fd : FuncData, (∀ (s : Shared) (u : Value), BindsTo s fd ⟨[u], []⟩ [(x, u)]) ∧
        ∀ base : Heap, (K w.params).In base → base.Ns mainGlobals mg → FnOk l.prog w (K w.params) mg base (L2.CX l.prog w) k fa fd [x] (spLaw (K w.params) f))
    (h : ∀ ns : List Int, ns.length ≤ 63 → ∃ st, f [.scr (ns.map D.int)] [] = .ok (.dat (.bl true)) st) :
    PySem.W.WalkO q loose XP YP l.row.toRowW d [] (fun f vs => PySem.call f vs) :=
  L2.walk_of (n := 63) (k := k) (x := x) (CX := fun w => L2.CX l.prog w) (sp := fun w => spLaw (K w.params) f) hn (by decide) hdf hr hY F
    (fun w H a ns hl _ hS => by
      intro mg cls
      obtain ⟨st, e⟩ := h ns hl
      refine ⟨fun _ => False, [], [], [.scr (ns.map D.int)], ⟨rfl, fun i o hi => by simp at hi, .nil, fun a ha => by simp at ha, fun a z => z.elim⟩, .cons ⟨a, ns.map V.int, rfl, ScL.of hS, ints_reps ns⟩ .nil, ?_⟩
      rw [e]
      intro v H' M' Z' _ _ r
      exact r)
    (fun w H s e s' z => by
      obtain ⟨_, _, _, _, _, _, _, _, _, _, _, _, z⟩ := z
      exact z)
theorem lawFn {P : Program} {w : World} {K : PySem.W.Frag} {mg : Str → Option Value} {base : Heap} {cls : Str → Option Addr} {k : Nat} {fa : Addr} {fd : FuncData} {ps : List Str} {f : Sem} (F : FnOk P w K mg base (L2.CX P w) k fa fd ps (spOf K mg cls f)) : FnOk P w K mg base (L2.CX P w) k fa fd ps (spLaw K f) :=
  F.imp fun _ _ _ _ h => h mg cls
end PD

/-! PDk: exceptions. -/
namespace PD
open PySem PySem.Spec PyProof.Rows L2
section
variable {X : Cx} {G : Ga} {W : WX} {e e2 e3 : Expr} {es : List Expr} {a b c : EV} {as : AV} {t : TV} {pos : Pos}
/-! ### raise C('m') -/
def sRaise0 (c : Str) : SVm := fun env st => .exc ⟨c, []⟩ env st
theorem s_raise0 {x m : Str} {C : Addr} {j : Nat} {bmB : List Value} {B newId initId : String} {p p2 pos' : Pos} (hc : X.calm = true) (tk : Takes X W) (F : ExcBaseFacts B newId initId bmB) (q : PySem.W.excIn X.K C bmB newId = true) (gC : X.mg x = some (.ref C)) (kC : PySem.W.keepIn X.K (.ref C) = true)
    (r : Raises X (.ref C)) (hcls : G.cls x = some C) (hg : Gl X x := by rfl) (hdb : (x == ("__debug__" : Str)) = false := by decide) : PS X (.Raise (some (.Call (.Name x p) [.Constant (.str m) j p2] [] pos')) none pos) (rdS G W (sRaise0 x)) :=
  (ps_raise hc tk (pmk_own F q gC kC r hg hdb)).imp fun N σ H ⟨Z, M, env, st, rs, p⟩ => p (.ref C) none σ H M Z rs (SExt.refl Z M H) ⟨C, hcls, rfl, .inl ⟨rfl, rfl⟩⟩

/-! ### the state of a suite -/
def noExn (env : Env) : Bool := env.all fun o => match o with
  | some (.exn _) => false
  | _ => true
abbrev Ga.withE (G : Ga) (e : Addr × Value × Option Addr) : Ga := { G with exa := some e }
theorem noExn_at {env : Env} {i : Nat} {x : Xc} (h : noExn env = true) : env[i]? ≠ some (some (.exn x)) := fun q => by
  have := List.all_eq_true.mp h _ (List.mem_of_getElem? q)
  cases this
theorem RS.toE {Z : Addr → Prop} {M : List Addr} {env : Env} {st : Stor} {σ : L2.St} {H : Hp} (rs : RS G Z M env st σ H) (hn : noExn env = true) (ex : Addr × Value × Option Addr) : RS (G.withE ex) Z M env st σ H where
  len := rs.len
  slot := fun i sv hi => by
    obtain ⟨v, h1, h2⟩ := rs.slot i sv hi
    refine ⟨v, h1, ?_⟩
    cases sv with
    | exn x => exact absurd hi (noExn_at hn)
    | _ => exact h2
  dis := rs.dis
  sto := rs.sto
  z0 := rs.z0
  fr := rs.fr
  m0 := rs.m0
  mn := rs.mn
  h0 := rs.h0
  n0 := rs.n0
  z00 := rs.z00
theorem RS.ofE {Z : Addr → Prop} {M : List Addr} {env : Env} {st : Stor} {σ : L2.St} {H : Hp} {ex : Addr × Value × Option Addr} (rs : RS (G.withE ex) Z M env st σ H) (hn : noExn env = true) : RS G Z M env st σ H where
  len := rs.len
  slot := fun i sv hi => by
    obtain ⟨v, h1, h2⟩ := rs.slot i sv hi
    refine ⟨v, h1, ?_⟩
    cases sv with
    | exn x => exact absurd hi (noExn_at hn)
    | _ => exact h2
  dis := rs.dis
  sto := rs.sto
  z0 := rs.z0
  fr := rs.fr
  m0 := rs.m0
  mn := rs.mn
  h0 := rs.h0
  n0 := rs.n0
  z00 := rs.z00
theorem RS.unset {Z : Addr → Prop} {M : List Addr} {env : Env} {st : Stor} {σ : L2.St} {H : Hp} (rs : RS G Z M env st σ H) (i : Nat) : RS G Z M (env.set i none) st (σ.set i none) H where
  len := by rw [List.length_set, List.length_set]; exact rs.len
  slot := fun j sv hj => by
    rcases get_set hj with ⟨_, e⟩ | ⟨n, e⟩
    · cases e
    · obtain ⟨w, h1, h2⟩ := rs.slot j sv e
      exact ⟨w, by rw [List.getElem?_set_ne (fun q => n q.symm)]; exact h1, h2⟩
  dis := fun j k ds es hj hk n => by
    rcases get_set hj with ⟨_, e⟩ | ⟨n1, e⟩
    · cases e
    · rcases get_set hk with ⟨_, e2⟩ | ⟨n2, e2⟩
      · cases e2
      · rw [List.getElem?_set_ne (fun q => n1 q.symm), List.getElem?_set_ne (fun q => n2 q.symm)]
        exact rs.dis j k ds es e e2 n
  sto := rs.sto
  z0 := rs.z0
  fr := rs.fr
  m0 := rs.m0
  mn := rs.mn
  h0 := rs.h0
  n0 := rs.n0
  z00 := rs.z00

/-! ### try: .. except C as n: .. -/
def unE (i : Nat) : SO → SO
  | .nx env st => if noExn (env.set i none) then .nx (env.set i none) st else .bad
  | .brk env st => if noExn (env.set i none) then .brk (env.set i none) st else .bad
  | .cont env st => if noExn (env.set i none) then .cont (env.set i none) st else .bad
  | .ret r st => .ret r st
  | _ => .bad
def sTry (sub : Str → Bool) (i : Nat) (bs hd : SVm) : SVm := fun env st => match bs env st with
  | .exc x env1 st1 => if sub x.cls then (if noExn env1 then unE i (hd (env1.set i (some (.exn x))) st1) else .bad) else .exc x env1 st1
  | o => o
theorem s_try (i : Nat) {sub : Str → Bool} {x n : Str} {C : Addr} {body suite : List Stmt} {b₀ : Stmt} {np pos' : Pos} {bs hd : SVm} (tk : Takes X W) (hs : X.stack = X.env :: X.outer) (hf : X.env.frame = some X.env.locals) (hN : X.N.Nodup) (hM : X.mg x = some (.ref C)) (hsub : ∀ c D, G.cls c = some D → PySem.W.exmOne X.K (.ref D) (.ref C) = some (sub c))
    (hb : ∀ (W' : WX) (pn : List (Addr × PySem.Obj)) (xe : Value → Shared → Prop), Takes (X.tr pn xe) W' → PassesOwn (model X.prog X.w) X.A X.env xe → PSs (X.tr pn xe) body (rdS G W' bs))
    (hsu : ∀ (a : Addr) (oe : PySem.Obj) (cls : Value) (d : Option Addr) (pn : List (Addr × PySem.Obj)), Zc cls d oe → (∃ vs, oe.data = .fields vs) → PSs (X.suite a ((a, oe) :: pn)) (b₀ :: suite) (rdS (G.withE (a, cls, d)) (fun _ _ _ _ => False) hd))
    (hi : X.N[i]? = some n := by rfl) (hln : X.env.kindOf n = some .local := by rfl) (hg : Gl X x := by rfl) (hdb : (x == ("__debug__" : Str)) = false := by decide) :
    PS X (.Try body [.ExceptHandler (some (.Name x np)) (some n) (b₀ :: suite) pos'] [] [] pos) (rdS G W (sTry sub i bs hd)) :=
  (ps_try_as hs hf hN hi hln ⟨hg, hdb, .inl hM⟩ tk (tb := fun W' => rdS G W' bs) (ts := fun a cls d => rdS (G.withE (a, cls, d)) (fun _ _ _ _ => False) hd) hb hsu).imp fun N σ H ⟨Z, M, env, st, rs, p⟩ => by
    refine ⟨Z, M, env, st, rs, ?_⟩
    unfold sTry at p
    cases eb : bs env st with
    | nx env1 st1 => rw [eb] at p; exact p
    | brk env1 st1 => rw [eb] at p; exact p
    | cont env1 st1 => rw [eb] at p; exact p
    | ret r st1 => rw [eb] at p; exact p
    | bad => rw [eb] at p; exact p.elim
    | exc x env1 st1 =>
      rw [eb] at p
      dsimp only at p
      intro c d σ1 H1 M1 Z1 rs1 x1 xr
      obtain ⟨D, h1, rfl, h3⟩ := id xr
      refine ⟨sub x.cls, hsub _ _ h1, fun hb2 a na => ?_, fun hb2 => ?_⟩
      · rw [if_pos hb2] at p
        split at p
        · rename_i hn
          have rs2 : RS (G.withE (a, .ref D, d)) Z1 M1 (env1.set i (some (.exn x))) st1 (σ1.set i (some (.ref a))) H1 := (rs1.toE hn _).put (sv := .exn x) ⟨a, .ref D, d, rfl, rfl, xr⟩ (fun _ q => by cases q)
          refine ⟨Z1, M1, _, st1, rs2, ?_⟩
          cases eh : hd (env1.set i (some (.exn x))) st1 with
          | bad => rw [eh] at p; exact p
          | exc y env2 st2 => rw [eh] at p; exact p.elim
          | ret r st2 => rw [eh] at p; exact p
          | nx env2 st2 =>
            rw [eh] at p
            dsimp only [unE] at p
            split at p
            · rename_i hn2
              exact fun Z' M' σ' H' rs' x' => p Z' M' _ H' ((rs'.unset i).ofE hn2) (x1.trans x')
            · exact p.elim
          | brk env2 st2 =>
            rw [eh] at p
            dsimp only [unE] at p
            split at p
            · rename_i hn2
              exact fun Z' M' σ' H' rs' x' => p Z' M' _ H' ((rs'.unset i).ofE hn2) (x1.trans x')
            · exact p.elim
          | cont env2 st2 =>
            rw [eh] at p
            dsimp only [unE] at p
            split at p
            · rename_i hn2
              exact fun Z' M' σ' H' rs' x' => p Z' M' _ H' ((rs'.unset i).ofE hn2) (x1.trans x')
            · exact p.elim
        · exact p.elim
      · rw [if_neg (by rw [hb2]; exact Bool.false_ne_true)] at p
        exact p _ _ _ _ _ _ rs1 x1 xr

/-! ### what a suite asks of the exception -/
def rIsX (K : PySem.W.Frag) (a : Addr) (cls : Value) (d : Option Addr) : List V → Hp → VK → Prop := fun xs H Q => ∃ D, cls = .ref D ∧ ExcC K D ∧ (d = none ∨ ∃ dd fs, d = some dd ∧ H dd = some (.xd fs)) ∧
  ((∃ (c : V) (cv : Value) (b : Bool), xs = [.ref a, c] ∧ (∀ u, RelV c u → u = cv) ∧ PySem.W.kitOne K (.ref D) cv = some b ∧ Q (.bl b) H) ∨
   (∃ (tp : Addr) (cs : List V) (us : List Value) (b : Bool), xs = [.ref a, .ref tp] ∧ SqT K H tp cs ∧ Paired ClsV cs us ∧ PySem.W.kitAny K (.ref D) us = some b ∧ Q (.bl b) H))
theorem call_isX {a : Addr} {oe : PySem.Obj} {cls : Value} {d : Option Addr} {pn : List (Addr × PySem.Obj)} (hz : Zc cls d oe) (hf : ∃ vs, oe.data = .fields vs) : CallR (X.suite a ((a, oe) :: pn)) (.builtin "isinstance") (rIsX X.K a cls d) := by
  intro pins s σ H xs us Q I r h
  obtain ⟨D, rfl, C, hd, h⟩ := h
  obtain ⟨hget, _⟩ := I.pin (a, oe) (List.mem_append.mpr (.inl List.mem_cons_self))
  obtain ⟨vs, hv⟩ := hf
  have J : ∃ od, PySem.W.InstAt s.heap a oe D od := by
    obtain ⟨oc, od, oda, osl⟩ := oe
    obtain ⟨h1, h2⟩ := hz
    dsimp only at h1 h2 hv
    subst h1 h2 hv
    rcases hd with rfl | ⟨dd, fs, rfl, ed⟩
    · exact ⟨none, hget, rfl, rfl, trivial⟩
    · obtain ⟨mA, hns, hr⟩ := (show ObjOk X.prog X.w H s.heap dd (.xd fs) from I.hok dd _ ed)
      obtain ⟨od, ho, hl⟩ := lookIn_ns hns
      exact ⟨some od, hget, rfl, rfl, ho⟩
  obtain ⟨od, J⟩ := J
  have hcl : (PySem.W.clsIn X.K D).isSome = true := by
    obtain ⟨cd, hc, _⟩ := PySem.W.any_some C.hd
    rw [hc]; rfl
  have KX := PySem.W.kitx_exc (x := a) (ox := oe) (od := od) hcl C.hg C.hk C.hs C.ha C.hn C.ht C.hm
  rcases h with ⟨c, cv, b, rfl, hcv, e, q⟩ | ⟨tp, cs, us', b, rfl, hT, k, e, q⟩
  · cases r with
    | cons rx rr =>
      cases rr with
      | cons rt rr =>
        cases rr
        cases rx
        have ec := hcv _ rt
        subst ec
        exact PySem.W.kia_one KX I.kIn J e (fun z => nomatch z) fun tk => ⟨.bl b, H, I.tok tk, rfl, q⟩
  · obtain ⟨u1, u2, rfl, r1, r2⟩ := vals2 r
    cases (show u1 = Value.ref a from r1)
    cases (show u2 = Value.ref tp from r2)
    obtain ⟨its, o, n, rv, h1, h2, h3⟩ := sqT_at I.hok I.kIn hT
    have e3 := ClsV.all k rv
    subst e3
    obtain ⟨oc, od', dt, sl⟩ := o
    simp only at h2 h3
    subst h2 h3
    exact PySem.W.kia_tup KX I.kIn J h1 e (fun z => nomatch z) fun tk => ⟨.bl b, H, I.tok tk, rfl, q⟩
/-- which of the classes is it -/
def anyGlo (f : Str → Option Bool) : List D → Option Bool
  | [] => some false
  | .glo c :: ds => match f c, anyGlo f ds with
    | some k, some j => some (k || j)
    | _, _ => none
  | _ :: _ => none
def eIsX (f : Str → Str → Option Bool) (i : Nat) (b : EV) : EV := fun env st => match env[i]? with
  | some (some (.exn x)) => match b env st with
    | .ok (.dat (.glo c)) st1 => match f x.cls c with
      | some k => .ok (.dat (.bl k)) st1
      | none => .bad
    | .ok (.dat (.tup cs)) st1 => match anyGlo (f x.cls) cs with
      | some k => .ok (.dat (.bl k)) st1
      | none => .bad
    | _ => .bad
  | _ => .bad
theorem anyGlo_kit {K : PySem.W.Frag} {mg : Str → Option Value} {Z : Addr → Prop} {M : List Addr} {H : Hp} {DC : Addr} {f : Str → Option Bool} (hk : ∀ y C k, mg y = some (.ref C) → f y = some k → PySem.W.kitOne K (.ref DC) (.ref C) = some k) : ∀ {ds : List D} {vs : List V} {k : Bool}, Reps K mg Z M H ds vs → anyGlo f ds = some k → ∃ us, Paired ClsV vs us ∧ PySem.W.kitAny K (.ref DC) us = some k
  | [], _, k, h, e => by
    have h : _ = [] := h
    subst h
    cases e
    exact ⟨[], .nil, kitAny_nil⟩
  | d :: ds, _, k, ⟨v, r, e0, h, t⟩, e => by
    subst e0
    cases d with
    | glo c =>
      unfold anyGlo at e
      split at e
      · rename_i k1 j1 e1 e2
        cases e
        obtain ⟨C, hC, rfl⟩ := h
        obtain ⟨us, h1, h2⟩ := anyGlo_kit hk t e2
        refine ⟨.ref C :: us, .cons (.own C) h1, kitAny_cons (hk c C _ hC e1) (fun q => ?_) (fun q => ?_)⟩
        · rw [q, Bool.false_or]; exact h2
        · rw [q]; rfl
      · cases e
    | _ => cases e
/-- isinstance(e, T), T a built-in type -/
def eIsT (g : Str → Bool) (i : Nat) : EV := fun env st => match env[i]? with
  | some (some (.exn x)) => .ok (.dat (.bl (g x.cls))) st
  | _ => .bad
theorem exn_d {K : PySem.W.Frag} {mg : Str → Option Value} {cls : Str → Option Addr} {Z : Addr → Prop} {M : List Addr} {H : Hp} {x : Xc} {c : Value} {d : Option Addr} (h : XRK K mg cls Z M H x c d) : d = none ∨ ∃ dd fs, d = some dd ∧ H dd = some (.xd fs) := by
  obtain ⟨C, h1, h2, h3⟩ := h
  rcases h3 with ⟨_, h⟩ | ⟨dd, vs, e, n, hd, r⟩
  · exact .inl h
  · exact .inr ⟨dd, _, e, hd⟩
theorem i_isX (i : Nat) {f : Str → Str → Option Bool} {a : Addr} {oe : PySem.Obj} {cls : Value} {d : Option Addr} {pn : List (Addr × PySem.Obj)} {y : Str} {p p2 : Pos} (hz : Zc cls d oe) (hf : ∃ vs, oe.data = .fields vs) (hK : G.K = X.K) (hM : G.mg = X.mg) (hm : X.mg "isinstance" = none)
    (hX : ∀ c D, G.cls c = some D → ExcC X.K D) (hk : ∀ c D y C k, G.cls c = some D → X.mg y = some (.ref C) → f c y = some k → PySem.W.kitOne X.K (.ref D) (.ref C) = some k)
    (hb : PE (X.suite a ((a, oe) :: pn)) e (rd (G.withE (a, cls, d)) W b)) (hN : X.N[i]? = some y := by rfl) (hv : Vis X.env.scope y := by first | exact Or.inl rfl | exact Or.inr (Or.inl rfl) | exact Or.inr (Or.inr rfl)) (hd : (y == ("__debug__" : Str)) = false := by decide) (hcd : (y == ("__classdict__" : Str)) = false := by decide)
    (hg : Gl X "isinstance" := by rfl) (he : starEach [.Name y p2, e] X.env = (false, eval (.Name y p2) X.env) :: starEach [e] X.env := by rfl) (he2 : starEach [e] X.env = (false, eval e X.env) :: starEach [] X.env := by rfl)
    (hpl : (backTo pos (starEach [e] X.env)).any (·.1) = false := by rfl) : PE (X.suite a ((a, oe) :: pn)) (.Call (.Name "isinstance" p) [.Name y p2, e] [] pos) (rd (G.withE (a, cls, d)) W (eIsX f i b)) :=
  (pe_callB (X := X.suite a ((a, oe) :: pn)) (id := "isinstance") (call_isX hz hf) hg hm (by decide +kernel) (pa_cons (pe_var (X := X.suite a ((a, oe) :: pn)) hN hv hd hcd) (pa_cons hb pa_nil he2) he) (by decide) (by decide) he hpl).imp fun σ H Q ⟨Z, M, env, st, rs, p⟩ => by
    unfold eIsX at p
    split at p
    · rename_i x ei
      obtain ⟨v, h1, h2⟩ := rs.slot i _ ei
      obtain ⟨a', c', d', h3, rfl, xr⟩ := h2
      cases h3
      refine ⟨_, h1, Z, M, env, st, rs, ?_⟩
      cases eb : b env st with
      | bad => rw [eb] at p; exact p.elim
      | exc x s => rw [eb] at p; exact p.elim
      | ok r st1 =>
        rw [eb] at p
        intro w H1 M1 Z1 rs1 e1 w1
        obtain ⟨D, hD, rfl, _⟩ := id xr
        have xr1 := e1.xr rs.mz xr
        cases r with
        | dat dd =>
          cases dd with
          | glo y =>
            dsimp only at p
            split at p
            · rename_i k hk2
              obtain ⟨C, hC, rfl⟩ := w1
              have hC : X.mg y = some (.ref C) := hM ▸ hC
              refine ⟨D, rfl, hX _ _ hD, exn_d xr1, .inl ⟨.ref C, .ref C, k, rfl, fun u r => r, hk _ _ _ _ _ hD hC hk2, p _ H1 M1 Z1 rs1 e1 rfl⟩⟩
            · exact p.elim
          | tup cs =>
            dsimp only at p
            split at p
            · rename_i k hk2
              obtain ⟨q, vs, rfl, hq, hr⟩ := w1
              obtain ⟨us, g1, g2⟩ := anyGlo_kit (K := X.K) (mg := G.mg) (DC := D) (fun y C k hC hy => hk _ _ _ _ _ hD (by rw [← hM]; exact hC) hy) (by rw [← hK]; exact hr) hk2
              exact ⟨D, rfl, hX _ _ hD, exn_d xr1, .inr ⟨q, vs, us, k, rfl, hK ▸ hq, g1, g2, p _ H1 M1 Z1 rs1 e1 rfl⟩⟩
            · exact p.elim
          | _ => exact p.elim
        | _ => exact p.elim
    · exact p.elim
theorem i_isT (i : Nat) {g : Str → Bool} {T : String} {a : Addr} {oe : PySem.Obj} {cls : Value} {d : Option Addr} {pn : List (Addr × PySem.Obj)} {x y : Str} {p p2 p3 : Pos} (hz : Zc cls d oe) (hf : ∃ vs, oe.data = .fields vs) (hm : X.mg "isinstance" = none) (hm2 : X.mg x = none) (hv2 : bootBuiltins x = some (.type T))
    (hX : ∀ c D, G.cls c = some D → ExcC X.K D) (hk : ∀ c D, G.cls c = some D → PySem.W.kitOne X.K (.ref D) (.type T) = some (g c))
    (hN : X.N[i]? = some y := by rfl) (hv : Vis X.env.scope y := by first | exact Or.inl rfl | exact Or.inr (Or.inl rfl) | exact Or.inr (Or.inr rfl)) (hd : (y == ("__debug__" : Str)) = false := by decide) (hcd : (y == ("__classdict__" : Str)) = false := by decide)
    (hg : Gl X "isinstance" := by rfl) (hg2 : Gl X x := by rfl) (hn : x ≠ "__name__" := by decide) (hdb : (x == ("__debug__" : Str)) = false := by decide) (he : starEach [.Name y p2, .Name x p3] X.env = (false, eval (.Name y p2) X.env) :: starEach [.Name x p3] X.env := by rfl) (he2 : starEach [.Name x p3] X.env = (false, eval (.Name x p3) X.env) :: starEach [] X.env := by rfl)
    (hpl : (backTo pos (starEach [.Name x p3] X.env)).any (·.1) = false := by rfl) : PE (X.suite a ((a, oe) :: pn)) (.Call (.Name "isinstance" p) [.Name y p2, .Name x p3] [] pos) (rd (G.withE (a, cls, d)) W (eIsT g i)) :=
  (pe_callB (X := X.suite a ((a, oe) :: pn)) (id := "isinstance") (call_isX hz hf) hg hm (by decide +kernel) (pa_cons (pe_var (X := X.suite a ((a, oe) :: pn)) hN hv hd hcd) (pa_cons (pe_bltn (X := X.suite a ((a, oe) :: pn)) (v := .ty T) hg2 hm2 hv2 rfl hn hdb) pa_nil he2) he) (by decide) (by decide) he hpl).imp fun σ H Q ⟨Z, M, env, st, rs, p⟩ => by
    unfold eIsT at p
    split at p
    · rename_i x ei
      obtain ⟨v, h1, h2⟩ := rs.slot i _ ei
      obtain ⟨a', c', d', h3, rfl, xr⟩ := h2
      cases h3
      obtain ⟨D, hD, rfl, _⟩ := id xr
      exact ⟨_, h1, D, rfl, hX _ _ hD, exn_d xr, .inl ⟨.ty T, .type T, g x.cls, rfl, fun u r => r, hk _ _ hD, p _ H M Z rs (Ext.refl _ _ _) rfl⟩⟩
    · exact p.elim
/-- e.f, f a field of the exception -/
def eFld (c fnm : Str) (i : Nat) : EV := fun env st => match env[i]? with
  | some (some (.exn x)) => if x.cls = c then (match x.fs.lookup fnm with
    | some d => .ok (.dat d) st
    | none => .bad) else .bad
  | _ => .bad
theorem zip_lookup {K : PySem.W.Frag} {mg : Str → Option Value} {Z : Addr → Prop} {M : List Addr} {H : Hp} {f : Str} : ∀ {fs : List (Str × D)} {vs : List V} {d : D}, Reps K mg Z M H (fs.map (·.2)) vs → fs.lookup f = some d → ∃ v, ((fs.map (·.1)).zip vs).lookup f = some v ∧ Rep K mg Z M H d v
  | [], _, _, _, e => by simp at e
  | (g, d0) :: fs, _, d, ⟨v, r, e0, h, t⟩, e => by
    subst e0
    simp only [List.map_cons, List.zip_cons_cons, List.lookup_cons] at e ⊢
    by_cases q : (f == g) = true
    · rw [q] at e ⊢
      cases e
      exact ⟨v, rfl, h⟩
    · rw [Bool.not_eq_true] at q
      rw [q] at e ⊢
      exact zip_lookup t e
theorem i_fld (i : Nat) {cn n : Str} {C : Addr} {a : Addr} {oe : PySem.Obj} {cls : Value} {d : Option Addr} {pn : List (Addr × PySem.Obj)} {y : Str} {p2 : Pos} (hz : Zc cls d oe) (hf : ∃ vs, oe.data = .fields vs) (T : XfC X.K C) (hno : PySem.W.findIn X.K (.ref C) n = some none) (hC : ∀ D, G.cls cn = some D → D = C)
    (hN : X.N[i]? = some y := by rfl) (hv : Vis X.env.scope y := by first | exact Or.inl rfl | exact Or.inr (Or.inl rfl) | exact Or.inr (Or.inr rfl)) (hd : (y == ("__debug__" : Str)) = false := by decide) (hcd : (y == ("__classdict__" : Str)) = false := by decide)
    (hb : attributeBase (.Name y p2) n X.env (eval (.Name y p2) X.env) = eval (.Name y p2) X.env := by rfl) : PE (X.suite a ((a, oe) :: pn)) (.Attribute (.Name y p2) n pos) (rd (G.withE (a, cls, d)) W (eFld cn n i)) :=
  (pe_xf (X := X) (a := a) (oe := oe) (cls := cls) (d := d) (pn := pn) T hno hz hf (pe_var (X := X.suite a ((a, oe) :: pn)) hN hv hd hcd) hb).imp fun σ H Q ⟨Z, M, env, st, rs, p⟩ => by
    unfold eFld at p
    split at p
    · rename_i x ei
      obtain ⟨v, h1, h2⟩ := rs.slot i _ ei
      obtain ⟨a', c', d', h3, rfl, xr⟩ := h2
      cases h3
      split at p
      · rename_i hx
        split at p
        · rename_i dv hl
          obtain ⟨D, hD, rfl, h4⟩ := id xr
          have := hC D (hx ▸ hD)
          subst this
          refine ⟨_, h1, rfl, rfl, ?_⟩
          rcases h4 with ⟨e, _⟩ | ⟨dd, vs, e, n, hdd, r⟩
          · rw [e] at hl; cases hl
          · obtain ⟨w, g1, g2⟩ := zip_lookup r hl
            exact ⟨dd, _, w, e, hdd, g1, p _ H M Z rs (Ext.refl _ _ _) g2⟩
        · exact p.elim
      · exact p.elim
    · exact p.elim

/-! ### an own __init__ -/
theorem pe_dinit {x : Str} {D : Addr} {ta : TA} {p1 p2 : Pos} {pl : PySem.Sem Bool} (hg : Gl X x) (hm : X.mg x = some (.ref D)) (hrd : PySem.W.readsIn X.K D (.type "type") = true) (hsp : PySem.W.specialIn X.K (.ref D) "__getattribute__" = some (some (.builtin "type.__getattribute__"))) (vV : PySem.W.findCls X.K (.ref D) (.type "type") "__init__" = some (.val (.builtin "ValueError.__init__"))) (ha : PA X (e :: es) ta)
    (hc : eval (.Call (.Attribute (.Name x p1) "__init__" p2) (e :: es) [] pos) X.env = (do
      let ov ← eval (.Name x p1) X.env
      standAt p2.atName
      let (f, first) ← holding [ov] (getMethod ov "__init__" pl)
      callWith pos f first (backTo pos (starEach (e :: es) X.env)) (backToKw pos (keywordEach [] X.env))) := by rfl) (hdb : (x == ("__debug__" : Str)) = false := by decide)
    (he : starEach (e :: es) X.env = (false, eval e X.env) :: starEach es X.env := by rfl) (hpl : (backTo pos (starEach es X.env)).any (·.1) = false := by rfl) :
    PE X (.Call (.Attribute (.Name x p1) "__init__" p2) (e :: es) [] pos) (tVeI X.K ta) := by
  refine ⟨fun pins s σ H Q I h => ?_⟩
  refine PySem.W.methodCall_KW (ld_glob I hg hm ?_ hdb) hc
  refine PySem.W.method_cls I.kIn hsp (PySem.W.cls_value I.kIn hrd vV rfl ?_)
  show wpAny _ _ (callWith pos (Value.builtin "ValueError.__init__") [] (backTo pos (starEach (e :: es) X.env)) []) _ _ _
  refine PyProof.Rows.callWith_method1 (thn (ha.run pos pins _ σ H _ (I.tok _) h) fun us s1 ⟨vs, H1, I1, r1, a, C, ws, ev, hl, T, ea, q⟩ => ?_) he hpl
  subst ev
  cases r1 with
  | @cons _ u0 _ ur ra rw' =>
    obtain rfl : u0 = Value.ref a := ra
    have hlen : ur.length ≤ sizeLine := by
      rw [← Paired.length rw', sizeLine_eq]
      omega
    exact oinit_ok T I1 ea hlen fun s' J => ⟨.non, H1, J, rfl, q⟩
end
/-- what the __init__ of two fields promises -/
def spInit2 (K : PySem.W.Frag) (C : Addr) (f1 f2 : Str) : Sp := fun vs H Q _ => ∃ (a : Addr) (x y : V), vs = [.ref a, x, y] ∧ H a = some (exo a C none) ∧ ∀ dx, H dx = none → dx ≠ a → Q .non (upd (upd (upd H dx (exd dx [(f1, x)])) a (exo a C (some dx))) dx (exd dx [(f2, y), (f1, x)]))
def spInit1 (K : PySem.W.Frag) (C : Addr) (f1 : Str) : Sp := fun vs H Q _ => ∃ (a : Addr) (x : V), vs = [.ref a, x] ∧ H a = some (exo a C none) ∧ ∀ dx, H dx = none → dx ≠ a → Q .non (upd (upd H dx (exd dx [(f1, x)])) a (exo a C (some dx)))
def datAll : List R → Option (List D)
  | [] => some []
  | .dat d :: rs => match datAll rs with
    | some ds => some (d :: ds)
    | none => none
  | _ :: _ => none
def sRaise2 (c f1 f2 : Str) (as : AV) : SVm := fun env st => match as env st with
  | .ok [.dat x, .dat y] st1 => .exc ⟨c, [(f2, y), (f1, x)]⟩ env st1
  | .ok _ _ => .bad
  | .exc x s => .exc x env s
  | .bad => .bad
def sRaise1 (c f1 : Str) (as : AV) : SVm := fun env st => match as env st with
  | .ok [.dat x] st1 => .exc ⟨c, [(f1, x)]⟩ env st1
  | .ok _ _ => .bad
  | .exc x s => .exc x env s
  | .bad => .bad
end PD

/-! PDl: exceptions of classes with an own __init__. -/
namespace PD
open PySem PySem.Spec PyProof.Rows L2
/-- a class with its own __init__ -/
structure GoodI (P : Program) (w : World) (K : PySem.W.Frag) (mg : Str → Option Value) (base : Heap) (k : Nat) (C : Addr) (sp : Sp) : Prop where
  ox : OexC K C
  go : ∃ (fI : Addr) (fd : FuncData) (ps : List Str), PySem.W.findIn K (.ref C) "__init__" = some (some (.ref fI)) ∧ PySem.W.typeIn K (.ref fI) = some (.type "function") ∧ FnOk P w K mg base (L2.CX P w) k fI fd ps sp ∧ Binds K fd ps []
section
variable {X : Cx} {G : Ga} {W : WX} {e : Expr} {es : List Expr} {as : AV} {pos : Pos}
theorem upd_del {H : Hp} {a dx : Addr} {o1 o2 o3 o4 o5 : HO} (ha : H a = none) (n : dx ≠ a) : upd (del (upd (upd (upd (upd H a o1) dx o2) a o3) dx o4) a) dx o5 = upd H dx o5 := by
  funext b
  by_cases q : b = dx
  · subst q; rw [upd_same, upd_same]
  · rw [upd_ne q, upd_ne q]
    by_cases r : b = a
    · subst r; rw [del_same, ha]
    · rw [del_ne r, upd_ne q, upd_ne r, upd_ne q, upd_ne r]
theorem upd_del1 {H : Hp} {a dx : Addr} {o1 o2 o3 o5 : HO} (ha : H a = none) (n : dx ≠ a) : upd (del (upd (upd (upd H a o1) dx o2) a o3) a) dx o5 = upd H dx o5 := by
  funext b
  by_cases q : b = dx
  · subst q; rw [upd_same, upd_same]
  · rw [upd_ne q, upd_ne q]
    by_cases r : b = a
    · subst r; rw [del_same, ha]
    · rw [del_ne r, upd_ne r, upd_ne q, upd_ne r]
theorem s_raise2 {x f1 f2 : Str} {C : Addr} {j k : Nat} {p pos' : Pos} (hc : X.calm = true) (tk : Takes X W) (g : GoodI X.prog X.w X.K X.mg X.base k C (spInit2 X.K C f1 f2)) (hr : Room j X.A) (hkj : k + 1 ≤ j) (hm : X.mg x = some (.ref C)) (hcls : G.cls x = some C) (ha : PA X (e :: es) (rdA G W as)) (hg : Gl X x := by rfl)
    (hdb : (x == ("__debug__" : Str)) = false := by decide) (he : starEach (e :: es) X.env = (false, eval e X.env) :: starEach es X.env := by rfl) (hpl : (backTo pos' (starEach es X.env)).any (·.1) = false := by rfl) : PS X (.Raise (some (.Call (.Name x p) (e :: es) [] pos')) none pos) (rdS G W (sRaise2 x f1 f2 as)) := by
  obtain ⟨T, fI, fd, ps, iC, tI, F1, hb⟩ := g
  refine (ps_raise hc tk (pmk_oex T iC tI F1 (hr.mono hkj) hb .nil (passes_call tk (fun _ _ _ _ h => h.elim)) hg hm ha hdb he hpl)).imp fun N σ H ⟨Z, M, env, st, rs, p⟩ => ?_
  refine ⟨Z, M, env, st, rs, ?_⟩
  unfold sRaise2 at p
  cases ea : as env st with
  | bad => rw [ea] at p; exact p.elim
  | exc y s => rw [ea] at p; exact fun c d H' M' Z' rs' e' => p c d σ H' M' Z' rs' (e'.s rs.mz)
  | ok rr st1 =>
    rw [ea] at p
    intro vs H1 M1 Z1 rs1 e1 w1
    split at p
    · rename_i dx' dy' st1' eq
      cases eq
      cases w1 with
      | cons w1 w2 =>
        rename_i v1 r2
        cases w2 with
        | cons w2 w3 =>
          rename_i v2 r3
          cases w3
          refine ⟨by simp, fun a ha => ⟨a, v1, v2, rfl, upd_same, fun dx hd hn => ⟨rfl, dx, [(f2, v2), (f1, v1)], ?_, upd_same, ?_, ?_⟩⟩⟩
          · rw [upd_ne (Ne.symm hn), upd_same]
          · rw [upd_ne hn] at hd; exact hd
          · rw [upd_ne hn] at hd
            rw [upd_del ha hn]
            have z : ¬ Z1 dx := fun z => rs1.sto.zh dx z hd
            have x2 := Ext.alloc0 (Z := Z1) (M := M1) (o := .xd [(f2, v2), (f1, v1)]) rs1.mh hd
            refine p (.ref C) (some dx) σ _ M1 Z1 (rs1.alloc0 hd) ((e1.trans rs.mh x2).s rs.mz) ⟨C, hcls, rfl, .inr ⟨dx, [v2, v1], rfl, z, upd_same, ?_⟩⟩
            exact ⟨v2, [v1], rfl, x2.rep rs1.mz w2, ⟨v1, [], rfl, x2.rep rs1.mz w1, rfl⟩⟩
    · exact p.elim
    · rename_i eq; cases eq
    · exact p.elim
theorem s_raise1 {x f1 : Str} {C : Addr} {j k : Nat} {p pos' : Pos} (hc : X.calm = true) (tk : Takes X W) (g : GoodI X.prog X.w X.K X.mg X.base k C (spInit1 X.K C f1)) (hr : Room j X.A) (hkj : k + 1 ≤ j) (hm : X.mg x = some (.ref C)) (hcls : G.cls x = some C) (ha : PA X (e :: es) (rdA G W as)) (hg : Gl X x := by rfl)
    (hdb : (x == ("__debug__" : Str)) = false := by decide) (he : starEach (e :: es) X.env = (false, eval e X.env) :: starEach es X.env := by rfl) (hpl : (backTo pos' (starEach es X.env)).any (·.1) = false := by rfl) : PS X (.Raise (some (.Call (.Name x p) (e :: es) [] pos')) none pos) (rdS G W (sRaise1 x f1 as)) := by
  obtain ⟨T, fI, fd, ps, iC, tI, F1, hb⟩ := g
  refine (ps_raise hc tk (pmk_oex T iC tI F1 (hr.mono hkj) hb .nil (passes_call tk (fun _ _ _ _ h => h.elim)) hg hm ha hdb he hpl)).imp fun N σ H ⟨Z, M, env, st, rs, p⟩ => ?_
  refine ⟨Z, M, env, st, rs, ?_⟩
  unfold sRaise1 at p
  cases ea : as env st with
  | bad => rw [ea] at p; exact p.elim
  | exc y s => rw [ea] at p; exact fun c d H' M' Z' rs' e' => p c d σ H' M' Z' rs' (e'.s rs.mz)
  | ok rr st1 =>
    rw [ea] at p
    intro vs H1 M1 Z1 rs1 e1 w1
    split at p
    · rename_i dx' st1' eq
      cases eq
      cases w1 with
      | cons w1 w2 =>
        rename_i v1 r2
        cases w2
        refine ⟨by simp, fun a ha => ⟨a, v1, rfl, upd_same, fun dx hd hn => ⟨rfl, dx, [(f1, v1)], upd_same, ?_, ?_, ?_⟩⟩⟩
        · rw [upd_ne hn, upd_same]
        · rw [upd_ne hn] at hd; exact hd
        · rw [upd_ne hn] at hd
          rw [upd_del1 ha hn]
          have z : ¬ Z1 dx := fun z => rs1.sto.zh dx z hd
          have x2 := Ext.alloc0 (Z := Z1) (M := M1) (o := .xd [(f1, v1)]) rs1.mh hd
          refine p (.ref C) (some dx) σ _ M1 Z1 (rs1.alloc0 hd) ((e1.trans rs.mh x2).s rs.mz) ⟨C, hcls, rfl, .inr ⟨dx, [v1], rfl, z, upd_same, ?_⟩⟩
          exact ⟨v1, [], rfl, x2.rep rs1.mz w1, rfl⟩
    · exact p.elim
    · rename_i eq; cases eq
    · exact p.elim
end
/-! ### the __init__s -/
theorem rd_init2 {K : PySem.W.Frag} {C : Addr} {f1 f2 : Str} {vs : List V} {H : Hp} {Q : VK} {E : XK} {D : Ends} (T : OexC K C) (h1 : PySem.W.findIn K (.ref C) f1 = some none) (h2 : PySem.W.findIn K (.ref C) f2 = some none) (h : spInit2 K C f1 f2 vs H Q E) (hD : ∀ σ H', Q .non H' → D.nx σ H') {N : List Str} :
    tSeq (tDrop (tVeI K (tCons (tVar 0) (tCons (tVar 2) tNil)))) (tSeq (tOst K f1 (tVar 0) (tVar 1)) (tSeq (tOst K f2 (tVar 0) (tVar 2)) tNext)) D (L2.start N vs) H := by
  obtain ⟨a, x, y, rfl, ha, q⟩ := h
  refine ⟨_, rfl, _, rfl, a, C, [y], rfl, by simp, T, ha, _, rfl, _, rfl, a, C, rfl, T, h1, .inl ⟨ha, fun dx hd hn => ?_⟩⟩
  refine ⟨_, rfl, _, rfl, a, C, rfl, T, h2, .inr ⟨dx, [(f1, x)], upd_same, ?_, by simp, hD _ _ (q dx hd hn)⟩⟩
  rw [upd_ne hn, upd_same]
theorem rd_init1 {K : PySem.W.Frag} {C : Addr} {f1 : Str} {m : Str} {vs : List V} {H : Hp} {Q : VK} {E : XK} {D : Ends} (T : OexC K C) (h1 : PySem.W.findIn K (.ref C) f1 = some none) (h : spInit1 K C f1 vs H Q E) (hD : ∀ σ H', Q .non H' → D.nx σ H') {N : List Str} :
    tSeq (tDrop (tVeI K (tCons (tVar 0) (tCons (tC (.str m)) tNil)))) (tSeq (tOst K f1 (tVar 0) (tVar 1)) tNext) D (L2.start N vs) H := by
  obtain ⟨a, x, rfl, ha, q⟩ := h
  refine ⟨_, rfl, a, C, [.str m], rfl, by simp, T, ha, _, rfl, _, rfl, a, C, rfl, T, h1, .inl ⟨ha, fun dx hd hn => hD _ _ (q dx hd hn)⟩⟩
end PD

/-! PDm: enumerate of a tuple; sorted(set(..)). -/
namespace PD
open PySem PySem.Spec PyProof.Rows L2
open PySem.AutoSeq1 (wpAny_loadPart')
abbrev itO (t : Addr) : PySem.Obj := { cls := .type "tuple_iterator", data := .fields #[.ref t, .int 0 0] }
abbrev enO (i : Addr) : PySem.Obj := { cls := .type "enumerate", data := .fields #[.none, .bool false, .ref i, rawInt 0, .none, .none] }
theorem enT_new (t : Addr) (its : Array Value) (n : Nat) (dd : Option Addr) (sl : Array (Option Value)) :
    Meets (Builtin.«enumerate.__new__» ⟨[.type "enumerate", .ref t], []⟩) (fun _ R s => s.heap.get? t = some { cls := .type "tuple", dict := dd, data := .seq its n, slots := sl } ∧ R (.ok (.ret (.ref (s.heap.push (itO t)).objs.size))) { s with heap := (s.heap.push (itO t)).push (enO s.heap.objs.size) }) :=
  .of_wp fun prog w A R s h => by
    obtain ⟨h0, g0, d0, t0, os0⟩ := s
    obtain ⟨ht, h⟩ := h
    have sub0 := sub_enumerate
    have hT : Heap.IsTuple (Shared.heap ⟨h0, g0, d0, t0, os0⟩) t its := ⟨_, ht, rfl, n, rfl⟩
    wp_walk using wpAny_loadPart' ht
    refine wpAny_stack_any fun st0 => wpAny_pure ?_
    split
    · rename_i c0 _ _ _ _ _
      cases (c0 == Value.type "enumerate")
      · wp_walk using wpAny_loadPart' ht, wpAny_pyIter_tuple hT
        exact ⟨_, rfl, h⟩
      · wp_walk using wpAny_loadPart' ht, wpAny_pyIter_tuple hT
        exact ⟨_, rfl, h⟩
    · wp_walk using wpAny_loadPart' ht, wpAny_pyIter_tuple hT
      exact ⟨_, rfl, h⟩
theorem call_enT {prog : Program} {w : World} {A : Around} {E : Value → Shared → Prop} {s : Shared} {t : Addr} {its : Array Value} {Q : Value → Shared → Prop} (hT : s.heap.IsTuple t its)
    (h : ∀ h', IsEnum h' (s.heap.objs.size + 1) s.heap.objs.size 0 .none → h'.IsTupleIter s.heap.objs.size t 0 → (∀ b o, s.heap.get? b = some o → h'.get? b = some o) → Q (.ref (s.heap.objs.size + 1)) { s with heap := h' }) : wpAny (model prog w) A (call (.type "enumerate") [.ref t]) Q E s := by
  obtain ⟨⟨c, dd, dt, sl⟩, ht, hc, n, hd⟩ := hT
  have hc : c = .type "tuple" := hc
  have hd : dt = .seq its n := hd
  subst hc hd
  refine callType_new F.called_enumerate (by decide) (F.typeCall_enumerate_1 _) (F.newCall_enumerate_1 _) (fun obj => F.args_object_init_2 obj _) F.entry_enumerate_new (enT_new t its n dd sl) ⟨ht, ?_⟩
  have sz : (s.heap.push (itO t)).objs.size = s.heap.objs.size + 1 := Heap.size_push ..
  show _ ∧ _
  rw [sz]
  have e1 : IsEnum ((s.heap.push (itO t)).push (enO s.heap.objs.size)) (s.heap.objs.size + 1) s.heap.objs.size 0 .none := by
    have q := Heap.get?_push_size (s.heap.push (itO t)) (o := enO s.heap.objs.size) rfl
    rw [sz] at q
    exact q
  exact ⟨⟨_, e1, rfl⟩, h _ e1 ⟨_, Heap.get?_push_of_some _ (Heap.get?_push_size _ rfl), rfl, rfl⟩ fun b o x => Heap.get?_push_of_some _ (Heap.get?_push_of_some _ x)⟩
/-- the pairs of a tuple's items with their places -/
def IeT (K : PySem.W.Frag) (a : Addr) : It :=
  ⟨fun i H => ∃ xs x, SqT K H a xs ∧ xs[i]? = some x, fun i H v H' => ∃ T x, v = .ref T ∧ H T = none ∧ H' = upd H T (.tup [.int (i : Nat), x]) ∧ ∀ xs, SqT K H a xs → xs[i]? = some x, fun i H => ∃ xs, SqT K H a xs ∧ xs.length = i⟩
theorem turn_enT {P : Program} {w : World} {K : PySem.W.Frag} {elts : List Expr} {kk : Nat} {tpos : Pos} (a e it : Addr) (hae : a ≠ e) (hai : a ≠ it) (hei : e ≠ it) :
    Turn P w K (.Tuple elts kk tpos) (IeT K a) [e, it] e (fun i h => (∃ old, IsEnum h e it ((i : Nat) : Int) old) ∧ h.IsTupleIter it a i) where
  mem := List.mem_cons_self ..
  obj := fun i h st b hb => by
    obtain ⟨⟨old, he⟩, ⟨o, ho, hc, hd⟩⟩ := st
    rcases List.mem_cons.mp hb with rfl | hb
    · exact ⟨_, he, fun v q => nomatch q⟩
    · rw [List.mem_singleton.mp hb]
      exact ⟨o, ho, fun v q => by rw [hd] at q; cases q⟩
  keep := fun i h h' st k => ⟨⟨st.1.choose, k e (by simp) _ st.1.choose_spec⟩, st.2.at fun o q => k it (by simp) o q⟩
  item := by
    rintro X rfl rfl rfl hc i pins s σ H E I hf ⟨⟨old, he⟩, hit⟩ ⟨xs, x, hq, hx⟩
    obtain ⟨its, rv, p, hz⟩ := I.tuple hq
    obtain ⟨u, hu, ru⟩ := rv.get hx
    have le : e < s.heap.objs.size := Heap.lt_size he
    have li : it < s.heap.objs.size := by obtain ⟨_, q, _⟩ := hit; exact Heap.lt_size q
    have hlt : i < its.toArray.size := by
      rw [List.size_toArray]
      exact (List.getElem?_eq_some_iff.mp hu).1
    refine wpAny_pyNext_enum_itemD (Draws.tuple (A := X.A.in1) (I.ok.hd hc) it a hai its.toArray) he ⟨hit, p⟩ hlt hei (by simp; exact ⟨hei, Ne.symm hae⟩) fun y h' tk hy ho st' hT hs hk => ?_
    have hy : its[i]? = some y := by simpa using hy
    rw [hu] at hy
    cases hy
    refine ⟨_, rfl, wpAny_letOwnedTupleGo_enum (s := { s with heap := h', toks := tk + 1 }) ho fun h2 he2 sb => ?_⟩
    have hT2 : h2.get? s.heap.objs.size = some { cls := .type "tuple", data := .seq #[.int i tk, u] } := (sb.2 _ (Nat.ne_of_gt le)).trans hT
    have ok2 : ObjOk X.prog X.w (upd H s.heap.objs.size (.tup [.int (i : Nat), x])) h2 s.heap.objs.size (.tup [.int (i : Nat), x]) := ⟨by show 2 ≤ sizeLine; decide, [.int i tk, u], .cons ⟨_, rfl⟩ (.cons ru .nil), ⟨_, hT2, rfl, _, rfl⟩⟩
    have J : Inv X pins σ (upd H s.heap.objs.size (.tup [.int (i : Nat), x])) { s with heap := h2, toks := tk + 1 } := I.turnedNew (ch := [e, it]) (fun b ob hb q => (sb.2 b (fun z => hb (by simp [z]))).trans (hk b ob (fun z => hb (by simp [z])) (fun z => hb (by simp [z])) q)) hf (Nat.le_refl _) ok2
    refine ⟨.ref s.heap.objs.size, _, J, rfl, ⟨_, x, rfl, I.hok.fresh (Nat.le_refl _), rfl, fun ys hy => by rw [I.tuple_inj hy hq]; exact hx⟩, ⟨⟨u, ?_⟩, st'.1.at fun o q => (sb.2 it (Ne.symm hei)).trans q⟩, fun b hb => ?_⟩
    · rw [show ((i + 1 : Nat) : Int) = (i : Int) + 1 by omega]; exact he2
    · have lb : b < s.heap.objs.size := by
        rcases List.mem_cons.mp hb with rfl | hb
        · exact le
        · rw [List.mem_singleton.mp hb]; exact li
      rw [upd_ne (Nat.ne_of_lt lb)]
      exact (hf b hb).1
  done := by
    rintro X rfl rfl rfl hc i pins s σ H E I hf ⟨⟨old, he⟩, hit⟩ ⟨xs, hq, hx⟩
    obtain ⟨its, rv, p, hz⟩ := I.tuple hq
    obtain ⟨f0, f1, f2, f3, f4, f5⟩ := hf it (by simp)
    have hl := rv.length
    have e0 : i = its.toArray.size := by rw [List.size_toArray]; omega
    subst e0
    exact wpAny_pyNext_enum_endD (Draws.tuple (A := X.A.in1) (I.ok.hd hc) it a hai its.toArray) he ⟨hit, p⟩ fun h' eb => ⟨rfl, I.turned (t' := s.toks) (fun b o hb q => eb b o hb q) f0 f1 f3 f4 f5⟩
  self := fun A i s Q E st h => wpAny_pyIter_enum st.1.choose_spec h
def iEnT (K : PySem.W.Frag) (ta : TA) : TI := fun σ H R => ta σ H fun vs H1 => ∃ a xs, vs = [.ref a] ∧ SqT K H1 a xs ∧ R (IeT K a) H1
theorem pi_enT {X : Cx} {e : Expr} {ta : TA} {p pos tpos : Pos} {elts : List Expr} {kk : Nat} (hg : Gl X "enumerate") (hm : X.mg "enumerate" = none) (ha : PA X [e] ta) (hs : starEach [e] X.env = [(false, eval e X.env)] := by rfl) :
    PI X (.Tuple elts kk tpos) (.Call (.Name "enumerate" p) [e] [] pos) (iEnT X.K ta) := by
  refine ⟨fun pins s σ H R I h => ?_⟩
  refine Call_ (ld_blt I hg hm boot_enumerate (PyProof.Rows.callWith_type1 (thn (ha.run pos pins s σ H _ I h) fun us s1 ⟨vs, H1, I1, r1, q1⟩ => ?_) hs rfl))
  obtain ⟨a, xs, rfl, hq, q⟩ := q1
  cases r1 with
  | cons r rr =>
    cases rr
    cases r
    obtain ⟨its, rv, tp, hz⟩ := I1.tuple hq
    have la : a < s1.heap.objs.size := by obtain ⟨o, ho, _⟩ := tp; exact Heap.lt_size ho
    refine call_enT tp fun h' he hit hk => wpAny_pyIter_enum he ?_
    have J : Inv X pins σ H1 { s1 with heap := h' } := I1.kept (t' := s1.toks) hk
    refine ⟨s1.heap.objs.size + 1, [s1.heap.objs.size + 1, s1.heap.objs.size], _, _, H1, rfl, J, turn_enT a (s1.heap.objs.size + 1) s1.heap.objs.size (Nat.ne_of_lt (Nat.lt_succ_of_lt la)) (Nat.ne_of_lt la) (Nat.succ_ne_self _), ⟨⟨.none, he⟩, hit⟩, fun b hb => ?_, q⟩
    have lb : s1.heap.objs.size ≤ b := by
      rcases List.mem_cons.mp hb with rfl | hb
      · exact Nat.le_succ _
      · rw [List.mem_singleton.mp hb]; exact Nat.le_refl _
    exact I1.fpOk lb (I1.hok.fresh lb)
/-- the pairs -/
def enumD (ds : List D) : List D := (List.range ds.length).zip ds |>.map fun p => .tup [.int (p.1 : Nat), p.2]
theorem enumD_at {ds : List D} {i : Nat} {d : D} (h : (enumD ds)[i]? = some d) : ∃ d0, ds[i]? = some d0 ∧ d = .tup [.int (i : Nat), d0] := by
  unfold enumD at h
  have hl := (List.getElem?_eq_some_iff.mp h).1
  rw [List.length_map, List.length_zip, List.length_range, Nat.min_self] at hl
  have q : ((List.range ds.length).zip ds)[i]? = some (i, ds[i]) := List.getElem?_zip_eq_some.mpr ⟨List.getElem?_range hl, List.getElem?_eq_getElem hl⟩
  rw [List.getElem?_map, q] at h
  cases h
  exact ⟨_, List.getElem?_eq_getElem hl, rfl⟩
theorem enumD_length (ds : List D) : (enumD ds).length = ds.length := by
  unfold enumD
  rw [List.length_map, List.length_zip, List.length_range, Nat.min_self]
theorem src_enT {K : PySem.W.Frag} {mg : Str → Option Value} {a : Addr} {vs : List V} {ds : List D} {C : Cd} (h : ∀ Z M H, C Z M H → SqT K H a vs ∧ Reps K mg Z M H ds vs) : Src K mg (IeT K a) (enumD ds) C where
  go := fun Z M H i d c hi => by
    obtain ⟨h1, h2⟩ := h Z M H c
    obtain ⟨d0, hd0, rfl⟩ := enumD_at hi
    obtain ⟨v, hv, hr⟩ := h2.get hd0
    refine ⟨⟨vs, v, h1, hv⟩, fun x H' y => ?_⟩
    obtain ⟨T, x0, rfl, hT, rfl, y⟩ := y
    have y := y vs h1
    rw [hv] at y
    cases y
    refine ⟨.inr ⟨T, _, hT, rfl⟩, fun mz mh => ?_⟩
    have e0 := Ext.alloc0 (Z := Z) (M := M) (o := .tup [.int (i : Nat), v]) mh hT
    exact ⟨T, _, rfl, SqT.of upd_same, ⟨.int (i : Nat), [v], rfl, rfl, ⟨v, [], rfl, e0.rep mz hr, rfl⟩⟩⟩
  stop := fun Z M H c => by
    obtain ⟨h1, h2⟩ := h Z M H c
    exact ⟨vs, h1, by rw [enumD_length, h2.length]⟩
section
variable {X : Cx} {G : Ga} {W : WX} {e : Expr} {as : AV} {pos : Pos}
def jEnT (as : AV) : JV := fun env st => match as env st with
  | .ok [.dat (.tup ds)] st1 => .ok (enumD ds, env) st1
  | .ok _ _ => .bad
  | .exc x s => .exc x s
  | .bad => .bad
theorem j_enT {p tpos : Pos} {elts : List Expr} {kk : Nat} (hK : G.K = X.K) (hm : X.mg "enumerate" = none) (ha : PA X [e] (rdA G W as)) (hg : Gl X "enumerate" := by rfl) (hs : starEach [e] X.env = [(false, eval e X.env)] := by rfl) : PI X (.Tuple elts kk tpos) (.Call (.Name "enumerate" p) [e] [] pos) (rdJ G W (jEnT as)) := (pi_enT hg hm ha hs).imp fun σ H R ⟨Z, M, env, st, rs, p⟩ => by
  refine ⟨Z, M, env, st, rs, ?_⟩
  unfold jEnT at p
  cases ea : as env st with
  | bad => rw [ea] at p; exact p
  | exc x s => rw [ea] at p; exact fun c d H' M' Z' rs' e' => p c d H' M' Z' rs' (e'.s rs.mz)
  | ok r st1 =>
    rw [ea] at p
    intro vs H1 M1 Z1 rs1 e1 w1
    split at p
    · rename_i ds st2 eq
      cases eq
      cases w1 with
      | cons w1 w2 =>
        cases w2
        obtain ⟨q, us, rfl, h1, h2⟩ := w1
        rw [hK] at h1
        exact ⟨q, us, rfl, h1, p (IeT X.K q) _ H1 M1 Z1 rs1 (e1.s rs.mz) (hK ▸ src_enT fun _ _ _ h => h) ⟨h1, h2⟩ (stb_tup hK)⟩
    · exact p.elim
    · rename_i eq; cases eq
    · rename_i eq; cases eq
end
end PD

/-! PDn: sorted(set(t)), t a tuple of ints or of pairs of ints. -/
namespace L2
open PySem PySem.Spec PyProof.Rows
open PySem Builtin
abbrev sO (w : World) : PySem.Obj := { cls := .type "set", dict := none, data := .set #[] 0 (.fresh 0 0 (!w.params.followText "set-order")) }
section
variable {P : Program} {w : World} {A : Around} {E : Value → Shared → Prop} {s : Shared}
set_option maxHeartbeats 3200000 in
theorem call_setTT {t : Addr} {its : Array Value} (ks : List (Addr × List Int)) {Q : Value → Shared → Prop} (hh : A.handled = none) (ht : s.heap.IsTuple t its) (hit : its.toList = ks.map fun p => Value.ref p.1)
    (hk : ∀ p ∈ ks, IsT P w s.heap p.2 p.1) (few : ks.length < 64) (hu : A.units + 3 < cLine)
    (q : ∀ (h' : Heap) (tk : Nat) L es ep tb, SetTR P w h' s.heap.objs.size L es ep tb → Got ks ks.length L → (∀ b o, s.heap.get? b = some o → h'.get? b = some o) → Q (.ref s.heap.objs.size) { s with heap := h', toks := tk }) :
    wpAny (model P w) A (call (.type "set") [.ref t]) Q E s := by
  have sz : its.size = ks.length := by
    have e := congrArg List.length hit
    rwa [Array.length_toList, List.length_map] at e
  obtain ⟨c0, tl0, mro0⟩ := F.called_set.mro
  have made0 := F.called_set.made
  have sub0 := F.called_set.sub
  refine wpAny_call (codeAny_of_tree ?_)
  show wpAny _ _ (callAny (.type "set") _) _ _ _
  refine wpAny_pure ⟨Code.quiet_builtin _ (by decide +kernel), codeAny_builtin F.entry_type_call ?_⟩
  rw [Around.under_plain (weight_type_call_type "set" [.ref t] []) rfl]
  have nt0 := F.called_set.notType
  have cc0 := F.called_set.canCreate
  have tc0 := F.typeCall_set_1 (.ref t)
  repeat (any_goals (first | assumption | wp_step))
  refine codeAny_mono (code_set_led1 (.ref t) (E := E) (Q₁ := fun ob s1 => ob = .ref s.heap.objs.size ∧ s1 = { s with heap := s.heap.push (sO w) }) ⟨rfl, rfl⟩) fun r s1 hr => ?_
  cases r with
  | error e => exact hr
  | ok fl =>
    cases fl with
    | ret ob =>
      obtain ⟨rfl, rfl⟩ := hr
      have hS : (s.heap.push (sO w)).get? s.heap.objs.size = some (sO w) := Heap.get?_push_size _ rfl
      have hT : Shared.TypeIs { s with heap := s.heap.push (sO w) } (.ref s.heap.objs.size) "set" := ⟨_, hS, rfl⟩
      have il0 := F.called_set.init.lookup
      have ib0 := F.called_set.init.bind (.ref s.heap.objs.size)
      repeat (any_goals (first | assumption | wp_step))
      refine codeAny_mono (codeAny_call_builtin (R := wants (fun r s2 => r = .none ∧ ∃ h' tk L es ep tb, s2 = { s with heap := h', toks := tk } ∧ SetTR P w h' s.heap.objs.size L es ep tb ∧ Got ks ks.length L ∧ (∀ b o, s.heap.get? b = some o → h'.get? b = some o)) E) F.called_set.init.plain F.entry_set_init (check_set_init_1 hT ?_)) fun r2 s2 hr2 => ?_
      · obtain ⟨⟨tc, td, tdat, tsl⟩, hot, hct, nt, hdt⟩ := ht
        simp only at hct hdt
        subst hct; subst hdt
        have hot2 : (s.heap.push (sO w)).get? t = some { cls := .type "tuple", dict := td, data := .seq its nt, slots := tsl } := Heap.get?_push_of_some _ hot
        have s10 := F.sub_tuple_set
        have s20 := F.sub_tuple_frozenset
        have nd0 : (Value.type "tuple" == Value.type "dict") = false := by decide
        have tup1 : (s.heap.push (sO w)).IsTuple t its := ⟨_, hot2, rfl, nt, rfl⟩
        unfold Builtin.«set.__init__» noKeywords Builtin.Frozenset.updateFrom
        generalize hpi : pyIter = PI
        wp_walk
        subst hpi
        refine wpAny_pyIter_tuple tup1 ?_
        refine wpAny_bind (wpAny_runValue ?_)
        have lt0 : t < s.heap.objs.size := Heap.lt_size hot
        have hh3 : A.in1.in1.in1.handled = none := by simp [hh]
        have ne0 : t ≠ (s.heap.push (sO w)).objs.size := by
          rw [Heap.size_push]
          exact Nat.ne_of_lt (Nat.lt_succ_of_lt lt0)
        have nf0 : s.heap.objs.size ∉ [(s.heap.push (sO w)).objs.size, t] := by
          rw [Heap.size_push]
          intro hm
          rcases List.mem_cons.mp hm with e | hm
          · exact Nat.ne_of_lt (Nat.lt_succ_self _) e
          · exact Nat.ne_of_gt lt0 (List.mem_singleton.mp hm)
        have vals0 : ∀ (i : Nat) (v : Value), its[i]? = some v → ∃ p, ks[i]? = some p ∧ v = .ref p.1 := fun i v hv => by
          have e : its.toList[i]? = some v := by rw [Array.getElem?_toList]; exact hv
          rw [hit, List.getElem?_map] at e
          cases hq : ks[i]? with
          | none => rw [hq] at e; cases e
          | some p =>
            rw [hq] at e
            exact ⟨p, rfl, (Option.some.inj e).symm⟩
        have gone : ∀ b, s.heap.objs.size ≤ b → s.heap.get? b = none := fun b hb => by
          cases e : s.heap.get? b with
          | none => rfl
          | some o => exact absurd (Nat.lt_of_lt_of_le (Heap.lt_size e) hb) (Nat.lt_irrefl _)
        refine set_update_tups ((Walks.tuple hh3 _ t ne0 its).toS) s.heap.objs.size nf0 ks sz few vals0 s.heap hk (gone _ (Nat.le_refl _)) (fun b hb => gone b (by rw [List.mem_singleton.mp hb, Heap.size_push]; exact Nat.le_succ _)) hu (its.size - 0) 0 _ (by omega) (Nat.zero_le _) ⟨⟨_, Heap.get?_push_size _ rfl, rfl, rfl⟩, (tup1.push _)⟩ (fun b o e => Heap.get?_push_of_some _ (Heap.get?_push_of_some _ e)) ?st0 ?fin0
        case st0 => exact ⟨[], #[], 0, _, setTR_fresh (Heap.get?_push_of_some _ hS), Got.zero ks⟩
        case fin0 =>
          intro s3 L es ep tb hm hS3 g3 k3
          obtain ⟨h3, gs, dr, tk3, os3⟩ := s3
          have e1 : gs = s.gens := hm.gens
          have e2 : dr = s.drawn := hm.drawn
          have e3 : os3 = s.os := hm.os
          subst e1 e2 e3
          show wpAny _ _ _ _ _ _
          refine wpAny_pure ?_
          show wpAny _ _ (ret Value.none) _ _ _
          rw [sz] at g3
          exact wpAny_pure ⟨rfl, h3, tk3, L, es, ep, tb, rfl, hS3, g3, k3⟩
      · cases r2 with
        | error e => exact hr2
        | ok fl2 =>
          cases fl2 with
          | ret r =>
            obtain ⟨rfl, h3, tk3, L, es, ep, tb, rfl, hS3, g3, k3⟩ := hr2
            repeat (any_goals (first | assumption | wp_step))
            exact q _ _ _ _ _ _ hS3 g3 k3
          | _ => exact hr2.elim
    | _ => exact hr.elim
end
section
variable {X : Cx}
def rSetTI (K : PySem.W.Frag) (w : World) : List V → Hp → VK → Prop := fun xs H Q => ∃ (l : Addr) (ns : List Int), xs = [V.ref l] ∧ SqT K H l (ns.map V.int) ∧ ns.length < 60 ∧ ∀ a c, H a = none → c ≤ ns.length → Q (.ref a) (upd H a (SetO w a (fun j => decide (j ∈ ns)) c))
def rSetTT (K : PySem.W.Frag) (P : Program) (w : World) : List V → Hp → VK → Prop := fun xs H Q => ∃ (l : Addr) (ks : List (Addr × List Int)), xs = [V.ref l] ∧ SqT K H l (ks.map fun p => V.ref p.1) ∧ (∀ p ∈ ks, SqT K H p.1 (p.2.map V.int)) ∧ ks.length < 64 ∧
  ∀ a L, H a = none → (∀ p ∈ L, p ∈ ks) → (∀ p ∈ ks, p.2 ∈ L.map (·.2)) → Q (.ref a) (upd H a (SetTO P w a L))
theorem cr_setX (hc : X.calm = true) (hu : X.A.units + 64 < cLine) : CallR X (.type "set") (fun xs H Q => rSetTI X.K X.w xs H Q ∨ rSetTT X.K X.prog X.w xs H Q) := by
  intro pins s σ H xs us Q I r h
  rcases h with ⟨l, ns, rfl, hl, hf, q⟩ | ⟨l, ks, rfl, hl, hk, hf, q⟩
  · rw [Vals.ref1 r]
    obtain ⟨its, rv, pl, hz⟩ := I.tuple hl
    have hn : H s.heap.objs.size = none := I.hok.fresh (Nat.le_refl _)
    refine call_set_tupI (P := X.prog) (w := X.w) ns (I.ok.hd hc) pl (by simpa using ints_of_vals rv) (by unfold scanBound; omega) fun h' tk c R cl k => ?_
    exact ⟨.ref s.heap.objs.size, _, I.laid (t' := tk) k (Nat.le_refl _) (setO_new R), rfl, q _ c hn cl⟩
  · rw [Vals.ref1 r]
    obtain ⟨its, rv, pl, hz⟩ := I.tuple hl
    have hn : H s.heap.objs.size = none := I.hok.fresh (Nat.le_refl _)
    refine call_setTT (P := X.prog) (w := X.w) ks (I.ok.hd hc) pl (by simpa using refs_of_vals rv) (fun p hp => I.isT (hk p hp)) hf (by omega) fun h' tk L es ep t R g k => ?_
    refine ⟨.ref s.heap.objs.size, upd H s.heap.objs.size (SetTO X.prog X.w s.heap.objs.size L), I.laid (t' := tk) k (Nat.le_refl _) (setTO_new R.t0), rfl, q _ L hn (fun p hp => ?_) fun p hp => ?_⟩
    · exact List.mem_of_mem_take (g.sub p hp)
    · exact g.all p (by rw [List.take_length]; exact hp)
theorem cr_sortedX (hc : X.calm = true) : CallR X (.builtin "sorted") (fun xs H Q => rSortedSet X.w xs H Q ∨ rSortedT X.K X.prog X.w xs H Q) := by
  intro pins s σ H xs us Q I r h
  rcases h with h | h
  · exact cr_sortedSet hc pins s σ H xs us Q I r h
  · exact cr_sortedT hc pins s σ H xs us Q I r h
end
end L2

/-! PDo: sorted(set(t)) in the layer. -/
namespace PD
open PySem PySem.Spec PyProof.Rows L2
/-- rising, each once -/
def insU (x : Int) : List Int → List Int
  | [] => [x]
  | y :: ys => if x < y then x :: y :: ys else if x = y then y :: ys else y :: insU x ys
def usort : List Int → List Int
  | [] => []
  | x :: xs => insU x (usort xs)
theorem insU_mem {x z : Int} : ∀ {l : List Int}, z ∈ insU x l ↔ z = x ∨ z ∈ l
  | [] => by simp [insU]
  | y :: ys => by
    unfold insU
    split
    · simp
    · split
      · rename_i h1 h2
        subst h2
        simp
      · rw [List.mem_cons, insU_mem, List.mem_cons]
        constructor
        · rintro (h | h | h)
          · exact .inr (.inl h)
          · exact .inl h
          · exact .inr (.inr h)
        · rintro (h | h | h)
          · exact .inr (.inl h)
          · exact .inl h
          · exact .inr (.inr h)
theorem insU_rise {x : Int} : ∀ {l : List Int}, l.Pairwise (· < ·) → (insU x l).Pairwise (· < ·)
  | [], _ => by simp [insU]
  | y :: ys, h => by
    have h1 := List.pairwise_cons.mp h
    unfold insU
    split
    · rename_i hxy
      refine List.pairwise_cons.mpr ⟨fun z hz => ?_, h⟩
      rcases List.mem_cons.mp hz with rfl | hz
      · exact hxy
      · exact Int.lt_trans hxy (h1.1 z hz)
    · split
      · exact h
      · refine List.pairwise_cons.mpr ⟨fun z hz => ?_, insU_rise h1.2⟩
        rcases insU_mem.mp hz with rfl | hz
        · omega
        · exact h1.1 z hz
theorem usort_mem {z : Int} : ∀ {l : List Int}, z ∈ usort l ↔ z ∈ l
  | [] => by simp [usort]
  | x :: xs => by
    show z ∈ insU x (usort xs) ↔ _
    rw [insU_mem, usort_mem, List.mem_cons]
theorem usort_rise : ∀ (l : List Int), (usort l).Pairwise (· < ·)
  | [] => .nil
  | x :: xs => insU_rise (usort_rise xs)
theorem rise_same : ∀ {l k : List Int}, l.Pairwise (· < ·) → k.Pairwise (· < ·) → (∀ z, z ∈ l ↔ z ∈ k) → l = k
  | [], [], _, _, _ => rfl
  | [], y :: ys, _, _, h => absurd ((h y).mpr (List.mem_cons_self ..)) (by simp)
  | x :: xs, [], _, _, h => absurd ((h x).mp (List.mem_cons_self ..)) (by simp)
  | x :: xs, y :: ys, h1, h2, h => by
    have a1 := List.pairwise_cons.mp h1
    have a2 := List.pairwise_cons.mp h2
    have e : x = y := by
      rcases List.mem_cons.mp ((h x).mp (List.mem_cons_self ..)) with q | q
      · exact q
      · rcases List.mem_cons.mp ((h y).mpr (List.mem_cons_self ..)) with q2 | q2
        · exact q2.symm
        · have := a2.1 x q
          have := a1.1 y q2
          omega
    subst e
    rw [rise_same a1.2 a2.2 fun z => ⟨fun hz => ?_, fun hz => ?_⟩]
    · rcases List.mem_cons.mp ((h z).mp (List.mem_cons_of_mem _ hz)) with q | q
      · subst q; exact absurd (a1.1 z hz) (Int.lt_irrefl _)
      · exact q
    · rcases List.mem_cons.mp ((h z).mpr (List.mem_cons_of_mem _ hz)) with q | q
      · subst q; exact absurd (a2.1 z hz) (Int.lt_irrefl _)
      · exact q
theorem usort_self {l : List Int} (h : l.Pairwise (· < ·)) : usort l = l := rise_same (usort_rise l) h fun _ => usort_mem
/-- pairs of small numbers, as numbers -/
def pairOf : D → Option Int
  | .tup [.int a, .int b] => if 0 ≤ a ∧ a < 64 ∧ 0 ≤ b ∧ b < 64 then some (a * 64 + b) else none
  | _ => none
def pairsOf : List D → Option (List Int)
  | [] => some []
  | d :: ds => match pairOf d, pairsOf ds with
    | some k, some ks => some (k :: ks)
    | _, _ => none
def unpair (k : Int) : D := .tup [.int (k / 64), .int (k % 64)]
theorem pairOf_is {d : D} {k : Int} (h : pairOf d = some k) : ∃ a b, d = .tup [.int a, .int b] ∧ k = a * 64 + b ∧ 0 ≤ a ∧ a < 64 ∧ 0 ≤ b ∧ b < 64 := by
  unfold pairOf at h
  split at h
  · rename_i a b
    split at h
    · rename_i hc
      cases h
      exact ⟨a, b, rfl, rfl, hc.1, hc.2.1, hc.2.2.1, hc.2.2.2⟩
    · cases h
  · cases h
theorem unpair_code {a b : Int} (h : 0 ≤ b ∧ b < 64) : unpair (a * 64 + b) = .tup [.int a, .int b] := by
  unfold unpair
  have e1 : (a * 64 + b) / 64 = a := by omega
  have e2 : (a * 64 + b) % 64 = b := by omega
  rw [e1, e2]
/-- a tuple's members, rising, each once -/
def fSortSet (r : R) (st : Stor) : Out R := match r with
  | .dat (.tup ds) => match intsOf ds with
    | some ns => if ns.length < 60 then .ok (.new ((usort ns).map D.int)) st else .bad
    | none => match pairsOf ds with
      | some ks => if ks.length < 60 then .ok (.new ((usort ks).map unpair)) st else .bad
      | none => .bad
  | _ => .bad
theorem pairs_rel {K : PySem.W.Frag} {mg : Str → Option Value} {Z : Addr → Prop} {M : List Addr} {H : Hp} : ∀ {ds : List D} {vs : List V} {ks : List Int}, Reps K mg Z M H ds vs → pairsOf ds = some ks → ∃ L : List (Addr × List Int), vs = L.map (fun p => V.ref p.1) ∧ (∀ p ∈ L, SqT K H p.1 (p.2.map V.int) ∧ ∃ a b, p.2 = [a, b] ∧ 0 ≤ a ∧ a < 64 ∧ 0 ≤ b ∧ b < 64) ∧ ks = L.map (fun p => TS.code 64 p.2)
  | [], _, _, h, e => by
    have h : _ = [] := h
    subst h
    cases e
    exact ⟨[], rfl, by simp, rfl⟩
  | d :: ds, _, _, ⟨v, r, e0, h, t⟩, e => by
    subst e0
    unfold pairsOf at e
    split at e
    · rename_i k ks' e1 e2
      cases e
      obtain ⟨a, b, rfl, rfl, hb⟩ := pairOf_is e1
      obtain ⟨L, h1, h2, h3⟩ := pairs_rel t e2
      obtain ⟨q, us, rfl, hq, v1, r1, rfl, rfl, v2, r2, rfl, rfl, rfl⟩ := h
      refine ⟨(q, [a, b]) :: L, by rw [h1]; rfl, fun p hp => ?_, ?_⟩
      · rcases List.mem_cons.mp hp with rfl | hp
        · exact ⟨hq, a, b, rfl, hb⟩
        · exact h2 p hp
      · rw [h3, List.map_cons, code_pair]
    · cases e
theorem codes_rise : ∀ {L : List (Addr × List Int)}, (∀ p ∈ L, ∃ a b, p.2 = [a, b] ∧ 0 ≤ a ∧ a < 64 ∧ 0 ≤ b ∧ b < 64) → (L.map (·.2)).Nodup → L.Pairwise (fun q r => TS.code 64 q.2 ≤ TS.code 64 r.2) → (L.map fun p => TS.code 64 p.2).Pairwise (· < ·)
  | [], _, _, _ => .nil
  | p :: L, h, nd, pw => by
    have n1 := List.nodup_cons.mp nd
    have p1 := List.pairwise_cons.mp pw
    refine List.pairwise_cons.mpr ⟨fun z hz => ?_, codes_rise (fun q hq => h q (List.mem_cons_of_mem _ hq)) n1.2 p1.2⟩
    obtain ⟨r, hr, rfl⟩ := List.mem_map.mp hz
    have le := p1.1 r hr
    obtain ⟨a, b, e1, a1, a2, b1, b2⟩ := h p (List.mem_cons_self ..)
    obtain ⟨c, d, e2, c1, c2, d1, d2⟩ := h r (List.mem_cons_of_mem _ hr)
    show TS.code 64 p.2 < TS.code 64 r.2
    rw [e1, e2, code_pair, code_pair] at le ⊢
    have ne : ¬ (a = c ∧ b = d) := fun ⟨x, y⟩ => n1.1 (List.mem_map.mpr ⟨r, hr, by show r.2 = p.2; rw [e1, e2, x, y]⟩)
    omega
theorem pairs_reps {K : PySem.W.Frag} {mg : Str → Option Value} {Z : Addr → Prop} {M : List Addr} {H : Hp} : ∀ {L : List (Addr × List Int)}, (∀ p ∈ L, SqT K H p.1 (p.2.map V.int) ∧ ∃ a b, p.2 = [a, b] ∧ 0 ≤ a ∧ a < 64 ∧ 0 ≤ b ∧ b < 64) → Reps K mg Z M H ((L.map fun p => TS.code 64 p.2).map unpair) (L.map fun p => V.ref p.1)
  | [], _ => rfl
  | p :: L, h => by
    obtain ⟨hq, a, b, e, _, _, b1, b2⟩ := h p (List.mem_cons_self ..)
    refine ⟨.ref p.1, _, rfl, ?_, pairs_reps fun q hq => h q (List.mem_cons_of_mem _ hq)⟩
    show Rep K mg Z M H (unpair (TS.code 64 p.2)) (.ref p.1)
    rw [e, code_pair, unpair_code ⟨b1, b2⟩]
    exact ⟨p.1, _, rfl, hq, by rw [e]; exact ⟨_, _, rfl, rfl, ⟨_, _, rfl, rfl, rfl⟩⟩⟩
section
variable {X : Cx} {G : Ga} {W : WX} {e : Expr} {a : EV} {pos : Pos}
theorem i_sortSet {j : Nat} {p p1 p2 : Pos} (hc : X.calm = true) (hr : Room j X.A) (hK : G.K = X.K) (hm : X.mg "sorted" = none) (hm2 : X.mg "set" = none) (ha : PE X e (rd G W a)) (hg : Gl X "sorted" := by rfl) (hg2 : Gl X "set" := by rfl)
    (he : starEach [.Call (.Name "set" p2) [e] [] p1] X.env = (false, eval (.Call (.Name "set" p2) [e] [] p1) X.env) :: starEach [] X.env := by rfl) (he2 : starEach [e] X.env = (false, eval e X.env) :: starEach [] X.env := by rfl) (hpl : (backTo pos (starEach [] X.env)).any (·.1) = false := by rfl) (hpl2 : (backTo p1 (starEach [] X.env)).any (·.1) = false := by rfl) :
    PE X (.Call (.Name "sorted" p) [.Call (.Name "set" p2) [e] [] p1] [] pos) (rd G W (eUn fSortSet a)) := by
  have hu : X.A.units + 64 < cLine := by have := hr.un; omega
  refine (pe_callB (id := "sorted") (cr_sortedX hc) hg hm (by decide +kernel) (pa_cons (pe_callTy (T := "set") (cr_setX hc hu) hg2 hm2 (by decide +kernel) (pa_cons ha pa_nil he2) (by decide) (by decide) he2 hpl2) pa_nil he) (by decide) (by decide) he hpl).imp fun σ H Q ⟨Z, M, env, st, rs, p⟩ => ?_
  refine ⟨Z, M, env, st, rs, ?_⟩
  unfold eUn at p
  cases ea : a env st with
  | bad => rw [ea] at p; exact p.elim
  | exc x s => rw [ea] at p; exact p
  | ok r st1 =>
    rw [ea] at p
    intro v H1 M1 Z1 rs1 e1 w1
    have p1 : EPost G W Z1 M1 env σ H1 Q (fSortSet r st1) := EPost.mono rs.mh e1 p
    unfold fSortSet at p1
    split at p1
    · rename_i ds
      obtain ⟨q, us, rfl, hq, hrs⟩ := w1
      rw [hK] at hq
      split at p1
      · rename_i ns hn
        split at p1
        · rename_i hl
          have e2 := ints_rel hrs hn
          subst e2
          refine .inl ⟨q, ns, rfl, hq, hl, fun a0 c h0 hcl => .inl ⟨a0, _, c, rfl, upd_same, by omega, fun ns' p0 hp hm hln hp0 => ?_⟩⟩
          have es : ns' = usort ns := rise_same hp (usort_rise ns) fun z => by rw [hm, usort_mem]; simp
          subst es
          have rs2 := rs1.alloc0 (o := SetO X.w a0 (fun j => decide (j ∈ ns)) c) h0
          have e2 := Ext.alloc0 (Z := Z1) (M := M1) (o := SetO X.w a0 (fun j => decide (j ∈ ns)) c) rs1.mh h0
          exact ans_new rs2 (EPost.mono rs1.mh e2 p1) hp0 (ints_reps (usort ns))
        · exact p1.elim
      · split at p1
        · rename_i ks hks
          split at p1
          · rename_i hl
            obtain ⟨L0, rfl, hL, rfl⟩ := pairs_rel hrs hks
            rw [List.length_map] at hl
            refine .inr ⟨q, L0, rfl, hq, (fun p hp => hK ▸ (hL p hp).1), by omega, fun a0 L h0 s1 s2 => ?_⟩
            have e2 := Ext.alloc0 (Z := Z1) (M := M1) (o := SetTO X.prog X.w a0 L) rs1.mh h0
            have rs2 := rs1.alloc0 (o := SetTO X.prog X.w a0 L) h0
            have hL2 : ∀ p ∈ L, SqT G.K (upd H1 a0 (SetTO X.prog X.w a0 L)) p.1 (p.2.map V.int) ∧ ∃ a b, p.2 = [a, b] ∧ 0 ≤ a ∧ a < 64 ∧ 0 ≤ b ∧ b < 64 := fun p hp => ⟨sqT_fr e2.fr (hL p (s1 p hp)).1, (hL p (s1 p hp)).2⟩
            refine .inr ⟨a0, L, 2, 64, rfl, upd_same, fun p hp => hK ▸ (hL2 p hp).1, by omega, fun p hp => ?_, fun L' p0 pm nd l64 pw hp0 => ?_⟩
            · obtain ⟨_, x, y, e, b1, b2, b3, b4⟩ := hL2 p hp
              refine ⟨by rw [e]; rfl, fun m hm => ?_⟩
              rw [e] at hm
              simp only [List.mem_cons, List.not_mem_nil, or_false] at hm
              rcases hm with rfl | rfl
              · exact ⟨b1, b2⟩
              · exact ⟨b3, b4⟩
            · have hL3 : ∀ p ∈ L', SqT G.K (upd H1 a0 (SetTO X.prog X.w a0 L)) p.1 (p.2.map V.int) ∧ ∃ a b, p.2 = [a, b] ∧ 0 ≤ a ∧ a < 64 ∧ 0 ≤ b ∧ b < 64 := fun p hp => hL2 p (pm.mem_iff.mp hp)
              have es : L'.map (fun p => TS.code 64 p.2) = usort (L0.map fun p => TS.code 64 p.2) := by
                refine rise_same (codes_rise (fun p hp => (hL3 p hp).2) nd pw) (usort_rise _) fun z => ?_
                rw [usort_mem, List.mem_map, List.mem_map]
                constructor
                · rintro ⟨p, hp, rfl⟩
                  exact ⟨p, s1 p (pm.mem_iff.mp hp), rfl⟩
                · rintro ⟨p, hp, rfl⟩
                  obtain ⟨p', hp', e'⟩ := List.mem_map.mp (s2 p hp)
                  exact ⟨p', pm.mem_iff.mpr hp', by rw [e']⟩
              have hr3 : Reps G.K G.mg Z1 M1 (upd H1 a0 (SetTO X.prog X.w a0 L)) ((L'.map fun p => TS.code 64 p.2).map unpair) (L'.map fun p => V.ref p.1) := pairs_reps hL3
              rw [es] at hr3
              exact ans_new rs2 (EPost.mono rs1.mh e2 p1) hp0 hr3
          · exact p1.elim
        · exact p1.elim
    · exact p1.elim
end
end PD

/-! PDp: classes by tables; list.reverse. -/
namespace PD
open PySem PySem.Spec PyProof.Rows L2
theorem lookup_all {l : List (Str × Addr)} {P : Str → Addr → Prop} (h : ∀ p ∈ l, P p.1 p.2) {c : Str} {C : Addr} (e : l.lookup c = some C) : P c C := by
  induction l with
  | nil => cases e
  | cons p l ih =>
    obtain ⟨k, A⟩ := p
    rw [List.lookup_cons] at e
    by_cases q : (c == k) = true
    · rw [q] at e
      cases e
      have := beq_iff_eq.mp q
      subst this
      exact h _ (List.mem_cons_self ..)
    · rw [Bool.not_eq_true] at q
      rw [q] at e
      exact ih (fun p hp => h p (List.mem_cons_of_mem _ hp)) e
theorem lk_exm {K : PySem.W.Frag} {cl : List (Str × Addr)} {C : Addr} {b : Bool} (h : ∀ p ∈ cl, PySem.W.exmOne K (.ref p.2) (.ref C) = some b) : ∀ c DC, cl.lookup c = some DC → PySem.W.exmOne K (.ref DC) (.ref C) = some b := fun c DC e => lookup_all (P := fun _ DC => PySem.W.exmOne K (.ref DC) (.ref C) = some b) h e
theorem lk_exc {K : PySem.W.Frag} {cl : List (Str × Addr)} (h : ∀ p ∈ cl, ExcC K p.2) : ∀ c DC, cl.lookup c = some DC → ExcC K DC := fun c DC e => lookup_all (P := fun _ DC => ExcC K DC) h e
theorem lk_ty {K : PySem.W.Frag} {cl : List (Str × Addr)} {T : String} (h : ∀ p ∈ cl, PySem.W.kitOne K (.ref p.2) (.type T) = some true) : ∀ c DC, cl.lookup c = some DC → PySem.W.kitOne K (.ref DC) (.type T) = some ((fun _ : Str => true) c) := fun c DC e => lookup_all (P := fun _ DC => PySem.W.kitOne K (.ref DC) (.type T) = some true) h e
theorem lk_oc {cl : List (Str × Addr)} {cn : Str} {C : Addr} (h : ∀ p ∈ cl, p.1 = cn → p.2 = C) : ∀ DC, cl.lookup cn = some DC → DC = C := fun DC e => lookup_all (P := fun c DC => c = cn → DC = C) h e rfl
theorem all_nil {α : Type} {P : α → Prop} : ∀ p ∈ ([] : List α), P p := fun _ h => by cases h
theorem all_cons {α : Type} {P : α → Prop} {x : α} {l : List α} (h : P x) (t : ∀ p ∈ l, P p) : ∀ p ∈ x :: l, P p := List.forall_mem_cons.mpr ⟨h, t⟩
def isTab (tb : List (Str × Str × Bool)) (c y : Str) : Option Bool := (tb.find? fun t => t.1 == c && t.2.1 == y).map (·.2.2)
def KitE (K : PySem.W.Frag) (cl : List (Str × Addr)) (mg : Str → Option Value) (t : Str × Str × Bool) : Prop := ∀ DC C, cl.lookup t.1 = some DC → mg t.2.1 = some (.ref C) → PySem.W.kitOne K (.ref DC) (.ref C) = some t.2.2
theorem kit_ent {K : PySem.W.Frag} {cl : List (Str × Addr)} {mg : Str → Option Value} {c y : Str} {b : Bool} {D0 C0 : Addr} (h1 : cl.lookup c = some D0) (h2 : mg y = some (.ref C0)) (hk : PySem.W.kitOne K (.ref D0) (.ref C0) = some b) : KitE K cl mg (c, y, b) := fun DC C e1 e2 => by
  dsimp only at e1 e2
  rw [h1] at e1
  rw [h2] at e2
  cases e1
  cases e2
  exact hk
theorem kit_tab {K : PySem.W.Frag} {cl : List (Str × Addr)} {mg : Str → Option Value} {tb : List (Str × Str × Bool)} (h : ∀ t ∈ tb, KitE K cl mg t) : ∀ c DC y C k, cl.lookup c = some DC → mg y = some (.ref C) → isTab tb c y = some k → PySem.W.kitOne K (.ref DC) (.ref C) = some k := fun c DC y C k e1 e2 e3 => by
  unfold isTab at e3
  cases q : tb.find? fun t => t.1 == c && t.2.1 == y with
  | none => rw [q] at e3; cases e3
  | some t =>
    rw [q] at e3
    cases e3
    have h1 := List.find?_some q
    rw [Bool.and_eq_true] at h1
    have h2 := h t (List.mem_of_find?_eq_some q)
    have a1 := beq_iff_eq.mp h1.1
    have a2 := beq_iff_eq.mp h1.2
    subst a1 a2
    exact h2 DC C e1 e2
theorem kit_of_sub {K : PySem.W.Frag} {DC C : Addr} {b : Bool} (h : PySem.W.subIn K (.ref DC) (.ref C) = some b) (hs : PySem.W.subIn K (.ref DC) (.ref DC) = some true) (hc : PySem.W.isClsIn K C = true) (ht : PySem.W.typeIn K (.ref C) = some (.type "type")) : PySem.W.kitOne K (.ref DC) (.ref C) = some b := by
  unfold PySem.W.kitOne
  split
  · rename_i q
    have e : DC = C := Value.ref.inj (beq_iff_eq.mp q)
    subst e
    rw [hs] at h
    exact h
  · unfold PySem.W.kitCls
    have e : ((PySem.W.clsIn K C).isSome && PySem.W.typeIn K (.ref C) == some (.type "type")) = true := by
      rw [Bool.and_eq_true]
      exact ⟨hc, by rw [ht]; rfl⟩
    dsimp only
    rw [if_pos e]
    exact h
theorem kit_ty1 {K : PySem.W.Frag} {DC : Addr} {b : Bool} {T : String} (h : PySem.W.subIn K (.ref DC) (.type T) = some b) (hm : PySem.W.kitMeta T = true) : PySem.W.kitOne K (.ref DC) (.type T) = some b := by
  unfold PySem.W.kitOne
  rw [if_neg (by intro q; exact nomatch (beq_iff_eq.mp q))]
  unfold PySem.W.kitCls
  dsimp only
  rw [if_pos hm]
  exact h
theorem exm_of {K : PySem.W.Frag} {DC C : Addr} {b : Bool} (h : PySem.W.subIn K (.ref DC) (.ref C) = some b) (hb : PySem.W.subIn K (.ref C) (.type "BaseException") = some true) (hc : PySem.W.isClsIn K C = true) (ht : PySem.W.typeIn K (.ref C) = some (.type "type")) : PySem.W.exmOne K (.ref DC) (.ref C) = some b := by
  unfold PySem.W.exmOne
  rw [if_pos (by rw [hb]; rfl)]
  unfold PySem.W.kitCls
  have e : ((PySem.W.clsIn K C).isSome && PySem.W.typeIn K (.ref C) == some (.type "type")) = true := by
    rw [Bool.and_eq_true]
    exact ⟨hc, by rw [ht]; rfl⟩
  dsimp only
  rw [if_pos e]
  exact h
section
variable {X : Cx} {G : Ga} {W : WX} {e : Expr} {a : EV} {pos : Pos}
/-- x.reverse(), x a name -/
def sRev (i : Nat) : SVm := fun env st => match env[i]? with
  | some (some (.own ds)) => .nx (env.set i (some (.own ds.reverse))) st
  | _ => .bad
theorem s_rev (i : Nat) {x : Str} {p2 apos cpos : Pos} (hN : X.N[i]? = some x := by rfl) (hv : Vis X.env.scope x := by first | exact Or.inl rfl | exact Or.inr (Or.inl rfl) | exact Or.inr (Or.inr rfl)) (hd : (x == ("__debug__" : Str)) = false := by decide)
    (hcd : (x == ("__classdict__" : Str)) = false := by decide) (hbase : attributeBase (.Name x p2) "reverse" X.env (eval (.Name x p2) X.env) = eval (.Name x p2) X.env := by rfl) (hline : (apos.endLine == cpos.line) = true := by rfl)
    (hsw : swapsWith (.Call (.Attribute (.Name x p2) "reverse" apos) [] [] cpos) none pos.line X.env = pure false := by rfl) :
    PS X (.Expr (.Call (.Attribute (.Name x p2) "reverse" apos) [] [] cpos) pos) (rdS G W (sRev i)) :=
  (ps_expr (pe_bm0 PySem.F.plainAttrs_list PySem.F.slot_list_reverse PySem.F.type_list_reverse mt_reverse (pe_var hN hv hd hcd) hbase hline) hsw).imp fun N σ H ⟨Z, M, env, st, rs, p⟩ => by
    unfold sRev at p
    split at p
    · rename_i ds ei
      obtain ⟨v, h1, h2⟩ := rs.slot i _ ei
      obtain ⟨q, vs, rfl, zq, np, h0, hp, r⟩ := id h2
      refine ⟨_, h1, .inl ⟨rfl, vs, SqL.of hp⟩, q, vs, rfl, rfl, hp, ?_⟩
      obtain ⟨q', vs', eq, hp', _, zp', rs3⟩ := rs.mutO ei h1 r.reverse
      cases eq
      exact p Z M σ _ rs3 (SExt.mut zp' hp')
    · exact p.elim
end
end PD

/-! PDw: what is wanted of a computation, step by step. -/
namespace PD
open PySem PySem.Spec PyProof.Rows L2

def wE {α : Type} (o : Out α) (P : α → Stor → Prop) (Q : Xc → Stor → Prop) : Prop := match o with
  | .ok a st => P a st
  | .exc x st => Q x st
  | .bad => False
structure WS where
  nx : Env → Stor → Prop
  rt : R → Stor → Prop
  bk : Env → Stor → Prop
  ct : Env → Stor → Prop
  xc : Xc → Env → Stor → Prop
def wS (o : SO) (N : WS) : Prop := match o with
  | .nx env st => N.nx env st
  | .ret r st => N.rt r st
  | .brk env st => N.bk env st
  | .cont env st => N.ct env st
  | .exc x env st => N.xc x env st
  | .bad => False
section
variable {α : Type} {P : α → Stor → Prop} {PR : R → Stor → Prop} {PB : Bool → Stor → Prop} {PL : List R → Stor → Prop} {PO : Option Int → Stor → Prop} {PD : List D → Stor → Prop} {PJ : List D × Env → Stor → Prop} {Q : Xc → Stor → Prop} {N : WS} {env : Env} {st : Stor} {a b c : EV} {as : AV} {t u : TV} {s s2 : SVm} {f g : R → R → Stor → Out R}
theorem wE_ok {x : α} : wE (.ok x st) P Q = P x st := rfl
theorem wE_exc {x : Xc} : wE (.exc x st : Out α) P Q = Q x st := rfl
theorem wE_bad : wE (.bad : Out α) P Q = False := rfl
theorem wS_nx : wS (.nx env st) N = N.nx env st := rfl
theorem wS_ret {r : R} : wS (.ret r st) N = N.rt r st := rfl
theorem wS_brk : wS (.brk env st) N = N.bk env st := rfl
theorem wS_cont : wS (.cont env st) N = N.ct env st := rfl
theorem wS_exc {x : Xc} : wS (.exc x env st) N = N.xc x env st := rfl
theorem wS_bad : wS .bad N = False := rfl
theorem wE_nil : wE (aNil env st) PL Q = PL [] st := rfl
theorem wE_cons : wE (aCons a as env st) PL Q = wE (a env st) (fun r st1 => wE (as env st1) (fun rs st2 => PL (r :: rs) st2) Q) Q := by
  unfold aCons; cases a env st <;> simp only [wE]; rename_i r st1; cases as env st1 <;> rfl
theorem wE_bin : wE (eBin f a b env st) PR Q = wE (a env st) (fun r st1 => wE (b env st1) (fun r2 st2 => wE (f r r2 st2) PR Q) Q) Q := by
  unfold eBin; cases a env st <;> simp only [wE]; rename_i r st1; cases b env st1 <;> rfl
theorem wE_un {f : R → Stor → Out R} : wE (eUn f a env st) PR Q = wE (a env st) (fun r st1 => wE (f r st1) PR Q) Q := by
  unfold eUn; cases a env st <;> rfl
theorem wE_ap {f : List R → Stor → Out R} : wE (eAp f as env st) PR Q = wE (as env st) (fun r st1 => wE (f r st1) PR Q) Q := by
  unfold eAp; cases as env st <;> rfl
theorem wE_chain : wE (eChain f g a b c env st) PR Q = wE (a env st) (fun r1 st1 => wE (b env st1) (fun r2 st2 => wE (f r1 r2 st2) (fun r3 st3 => match r3 with
    | .dat (.bl true) => wE (c env st3) (fun r4 st4 => wE (g r2 r4 st4) PR Q) Q
    | .dat (.bl false) => PR (.dat (.bl false)) st3
    | _ => False) (fun _ _ => False)) Q) Q := by
  unfold eChain
  cases a env st <;> simp only [wE]
  rename_i r1 st1
  cases b env st1 <;> simp only []
  rename_i r2 st2
  cases f r1 r2 st2 <;> simp only []
  rename_i r3 st3
  cases r3 with
  | dat d =>
    cases d with
    | bl k =>
      cases k with
      | false => rfl
      | true =>
        dsimp only
        cases c env st3 <;> rfl
    | _ => rfl
  | _ => rfl
theorem wE_tval : wE (tVal a env st) PB Q = wE (a env st) (fun r st1 => match r with | .dat (.bl k) => PB k st1 | _ => False) Q := by
  unfold tVal
  cases a env st with
  | ok r st1 =>
    cases r with
    | dat d => cases d <;> rfl
    | _ => rfl
  | _ => rfl
theorem wE_tnot : wE (tNotT t env st) PB Q = wE (t env st) (fun k st1 => PB (!k) st1) Q := by unfold tNotT; cases t env st <;> rfl
theorem wE_tand : wE (tAndT t u env st) PB Q = wE (t env st) (fun k st1 => if k = true then wE (u env st1) PB Q else PB false st1) Q := by
  unfold tAndT
  cases t env st with
  | ok k st1 => cases k <;> rfl
  | _ => rfl
theorem wE_tor : wE (tOrT t u env st) PB Q = wE (t env st) (fun k st1 => if k = true then PB true st1 else wE (u env st1) PB Q) Q := by
  unfold tOrT
  cases t env st with
  | ok k st1 => cases k <;> rfl
  | _ => rfl
theorem wE_ttrue : wE (tTrue env st) PB Q = PB true st := rfl
theorem wE_not : wE (eNot a env st) PR Q = wE (a env st) (fun r st1 => match r with | .dat (.bl k) => PR (.dat (.bl (!k))) st1 | _ => False) Q := by
  unfold eNot
  cases a env st with
  | ok r st1 =>
    cases r with
    | dat d => cases d <;> rfl
    | _ => rfl
  | _ => rfl
theorem wE_and : wE (eAnd a b env st) PR Q = wE (a env st) (fun r st1 => match r with | .dat (.bl k) => if k = true then wE (b env st1) PR Q else PR (.dat (.bl false)) st1 | _ => False) Q := by
  unfold eAnd
  cases a env st with
  | ok r st1 =>
    cases r with
    | dat d =>
      cases d with
      | bl k => cases k <;> rfl
      | _ => rfl
    | _ => rfl
  | _ => rfl
theorem wE_or : wE (eOr a b env st) PR Q = wE (a env st) (fun r st1 => match r with | .dat (.bl k) => if k = true then PR (.dat (.bl true)) st1 else wE (b env st1) PR Q | _ => False) Q := by
  unfold eOr
  cases a env st with
  | ok r st1 =>
    cases r with
    | dat d =>
      cases d with
      | bl k => cases k <;> rfl
      | _ => rfl
    | _ => rfl
  | _ => rfl
theorem wE_if : wE (eIf t a b env st) PR Q = wE (t env st) (fun k st1 => if k = true then wE (a env st1) PR Q else wE (b env st1) PR Q) Q := by
  unfold eIf
  cases t env st with
  | ok k st1 => cases k <;> rfl
  | _ => rfl
theorem wE_tup : wE (eTup as env st) PR Q = wE (as env st) (fun rs st1 => match frozAll rs with | some ds => ds.length ≤ 1000000 ∧ PR (.dat (.tup ds)) st1 | none => False) Q := by
  unfold eTup
  cases as env st with
  | ok rs st1 =>
    simp only [wE]
    cases frozAll rs with
    | none => rfl
    | some ds =>
      dsimp only
      by_cases h : ds.length ≤ 1000000
      · rw [if_pos h]; simp only [h, true_and]
      · rw [if_neg h]; simp only [h, false_and]
  | _ => rfl
theorem wE_lst : wE (eLst as env st) PR Q = wE (as env st) (fun rs st1 => match frozAll rs with | some ds => ds.length ≤ 1000000 ∧ PR (.new ds) st1 | none => False) Q := by
  unfold eLst
  cases as env st with
  | ok rs st1 =>
    simp only [wE]
    cases frozAll rs with
    | none => rfl
    | some ds =>
      dsimp only
      by_cases h : ds.length ≤ 1000000
      · rw [if_pos h]; simp only [h, true_and]
      · rw [if_neg h]; simp only [h, false_and]
  | _ => rfl
theorem wE_onone : wE (oNone env st) PO Q = PO none st := rfl
theorem wE_osome : wE (oSome a env st) PO Q = wE (a env st) (fun r st1 => match r with | .dat (.int i) => PO (some i) st1 | _ => False) Q := by
  unfold oSome
  cases a env st with
  | ok r st1 =>
    cases r with
    | dat d => cases d <;> rfl
    | _ => rfl
  | _ => rfl
theorem wE_cut {l h : OV} : wE (eCut a l h env st) PR Q = wE (a env st) (fun r st1 => wE (l env st1) (fun lo st2 => wE (h env st2) (fun hi st3 => wE (fCut r lo hi st3) PR Q) Q) Q) Q := by
  unfold eCut
  cases a env st <;> simp only [wE]
  rename_i r1 st1
  cases l env st1 <;> simp only []
  rename_i r2 st2
  cases h env st2 <;> rfl
theorem wE_lc {put : Put} {vs : List Nat} {it : IV} {T : Tg} : wE (eLc put vs it T t a env st) PR Q = wE (it env st) (fun ds st1 => wE (compGo put T t a ds [] (wipeE env vs) st1) PR Q) Q := by
  unfold eLc; cases it env st <;> rfl
theorem wE_xseq : wE (xSeq a env st) PD Q = wE (a env st) (fun r st1 => match r with | .dat (.tup ds) => PD ds st1 | .dat (.lst ds) => PD ds st1 | .new ds => PD ds st1 | .view ds => PD ds st1 | _ => False) Q := by
  unfold xSeq
  cases a env st with
  | ok r st1 =>
    cases r with
    | dat d => cases d <;> rfl
    | _ => rfl
  | _ => rfl
theorem wE_xrng1 : wE (xRng1 as env st) PD Q = wE (as env st) (fun rs st1 => match rngOf1 rs with | some ds => PD ds st1 | none => False) Q := by
  unfold xRng1
  cases as env st with
  | ok rs st1 => simp only [wE]; cases rngOf1 rs <;> rfl
  | _ => rfl
theorem wE_xrng2 : wE (xRng2 as env st) PD Q = wE (as env st) (fun rs st1 => match rngOf2 rs with | some ds => PD ds st1 | none => False) Q := by
  unfold xRng2
  cases as env st with
  | ok rs st1 => simp only [wE]; cases rngOf2 rs <;> rfl
  | _ => rfl
/-! ### statements -/
theorem wS_nil : wS (sNil env st) N = N.nx env st := rfl
theorem wS_seq : wS (sSeq s s2 env st) N = wS (s env st) { N with nx := fun env1 st1 => wS (s2 env1 st1) N } := by
  unfold sSeq; cases s env st <;> rfl
theorem wS_if : wS (sIf t s s2 env st) N = wE (t env st) (fun k st1 => if k = true then wS (s env st1) N else wS (s2 env st1) N) (fun x st1 => N.xc x env st1) := by
  unfold sIf
  cases t env st with
  | ok k st1 => cases k <;> rfl
  | _ => rfl
theorem wS_pass : wS (sPass env st) N = N.nx env st := rfl
theorem wS_break : wS (sBreak env st) N = N.bk env st := rfl
theorem wS_cont' : wS (sCont env st) N = N.ct env st := rfl
theorem wS_expr : wS (sExpr a env st) N = wE (a env st) (fun _ st1 => N.nx env st1) (fun x st1 => N.xc x env st1) := by
  unfold sExpr; cases a env st <;> rfl
theorem wS_retE : wS (sRet a env st) N = wE (a env st) (fun r st1 => match r with | .dat d => N.rt (.dat d) st1 | .new ds => N.rt (.new ds) st1 | _ => False) (fun x st1 => N.xc x env st1) := by
  unfold sRet
  cases a env st with
  | ok r st1 => cases r <;> rfl
  | _ => rfl
theorem wS_retN : wS (sRetN env st) N = N.rt (.dat .non) st := rfl
theorem wS_set {i : Nat} : wS (sSet i a env st) N = wE (a env st) (fun r st1 => match r with | .dat d => N.nx (env.set i (some (.dat d))) st1 | .new ds => N.nx (env.set i (some (.own ds))) st1 | _ => False) (fun x st1 => N.xc x env st1) := by
  unfold sSet
  cases a env st with
  | ok r st1 => cases r <;> rfl
  | _ => rfl
theorem wS_setR {i : Nat} : wS (sSetR i a env st) N = wE (a env st) (fun r st1 => match r with | .new ds => N.nx (env.set i (some (.dat (.ref st1.length)))) (st1 ++ [.lst ds]) | _ => False) (fun x st1 => N.xc x env st1) := by
  unfold sSetR
  cases a env st with
  | ok r st1 => cases r <;> rfl
  | _ => rfl
theorem wS_tgt {T : Tg} : wS (sTgt T a env st) N = wE (a env st) (fun r st1 => match r with | .dat d => (match T d env with | some env1 => N.nx env1 st1 | none => False) | _ => False) (fun x st1 => N.xc x env st1) := by
  unfold sTgt
  cases a env st with
  | ok r st1 =>
    cases r with
    | dat d => simp only [wE]; cases T d env <;> rfl
    | _ => rfl
  | _ => rfl
theorem wS_for {it : JV} {T : Tg} : wS (sFor it T s env st) N = wE (it env st) (fun de st1 => wS (forGo T s de.1 de.2 st1) N) (fun x st1 => N.xc x env st1) := by
  unfold sFor; cases it env st <;> rfl
theorem wE_jseq : wE (jSeq a env st) PJ Q = wE (a env st) (fun r st1 => match r with | .dat (.tup ds) => PJ (ds, env) st1 | .dat (.lst ds) => PJ (ds, env) st1 | .new ds => PJ (ds, env) st1 | _ => False) Q := by
  unfold jSeq
  cases a env st with
  | ok r st1 =>
    cases r with
    | dat d => cases d <;> rfl
    | _ => rfl
  | _ => rfl
theorem wE_jrng1 : wE (jRng1 as env st) PJ Q = wE (as env st) (fun rs st1 => match rngOf1 rs with | some ds => PJ (ds, env) st1 | none => False) Q := by
  unfold jRng1
  cases as env st with
  | ok rs st1 => simp only [wE]; cases rngOf1 rs <;> rfl
  | _ => rfl
theorem wE_jrng2 : wE (jRng2 as env st) PJ Q = wE (as env st) (fun rs st1 => match rngOf2 rs with | some ds => PJ (ds, env) st1 | none => False) Q := by
  unfold jRng2
  cases as env st with
  | ok rs st1 => simp only [wE]; cases rngOf2 rs <;> rfl
  | _ => rfl
/-- a range of a small number -/
theorem rngOf1_int {j : Int} (h1 : -(2 ^ 62) ≤ j) (h2 : j < 2 ^ 62) : rngOf1 [.dat (.int j)] = some (rngD 0 j.toNat) := by unfold rngOf1; dsimp only; rw [if_pos ⟨h1, h2⟩]
theorem rngOf2_int {i j : Int} (h1 : -(2 ^ 62) ≤ i) (h2 : i < 2 ^ 62) (h3 : -(2 ^ 62) ≤ j) (h4 : j < 2 ^ 62) : rngOf2 [.dat (.int i), .dat (.int j)] = some (rngD i (j - i).toNat) := by unfold rngOf2; dsimp only; rw [if_pos ⟨h1, h2, h3, h4⟩]
theorem ite_bad {c : Prop} [Decidable c] {o : SO} : wS (if c then o else .bad) N = (c ∧ wS o N) := by
  by_cases h : c
  · rw [if_pos h]; simp only [h, true_and]
  · rw [if_neg h]; simp only [h, false_and]; rfl
/-- the end of an append to a list of the store -/
def wPut (k : Nat) (d : D) (N : WS) (env : Env) (st : Stor) : Prop := match st[k]? with
  | some (.lst ds) => ds.length < 1000000 ∧ N.nx env (st.set k (.lst (ds ++ [d])))
  | _ => False
theorem wput_eq {k : Nat} {d : D} : wS (match st[k]? with
    | some (.lst ds) => if ds.length < 1000000 then .nx env (st.set k (.lst (ds ++ [d]))) else .bad
    | _ => .bad) N = wPut k d N env st := by
  unfold wPut
  cases st[k]? with
  | none => rfl
  | some o =>
    cases o with
    | lst ds => exact ite_bad
    | ins _ _ => rfl
    | dct _ _ => rfl
theorem wS_app {put : Put} {i : Nat} : wS (sApp put i a env st) N = match env[i]? with
    | some (some (.own ds)) => wE (a env st) (fun r st1 => match put r st1 with | some (d, st2) => ds.length < 1000000 ∧ N.nx (env.set i (some (.own (ds ++ [d])))) st2 | none => False) (fun x st1 => N.xc x env st1)
    | some (some (.dat (.ref k))) => (match st[k]? with | some (.lst _) => wE (a env st) (fun r st1 => match put r st1 with | some (d, st2) => wPut k d N env st2 | none => False) (fun x st1 => N.xc x env st1) | _ => False)
    | _ => False := by
  unfold sApp
  cases env[i]? with
  | none => rfl
  | some o =>
    cases o with
    | none => rfl
    | some sv =>
      cases sv with
      | own ds =>
        dsimp only
        cases a env st with
        | ok r st1 =>
          simp only [wE]
          cases put r st1 with
          | none => rfl
          | some dd => obtain ⟨d, st2⟩ := dd; exact ite_bad
        | _ => rfl
      | dat dk =>
        cases dk with
        | ref k =>
          dsimp only
          cases st[k]? with
          | none => rfl
          | some o =>
            cases o with
            | ins _ _ => rfl
            | dct _ _ => rfl
            | lst ds0 =>
              dsimp only
              cases a env st with
              | ok r st1 =>
                simp only [wE]
                cases put r st1 with
                | none => rfl
                | some dd => obtain ⟨d, st2⟩ := dd; exact wput_eq
              | _ => rfl
        | _ => rfl
      | _ => rfl
theorem wS_appE {put : Put} : wS (sAppE put b a env st) N = wE (b env st) (fun rb st0 => match rb with
    | .dat (.ref k) => (match st0[k]? with | some (.lst _) => wE (a env st0) (fun r st1 => match put r st1 with | some (d, st2) => wPut k d N env st2 | none => False) (fun x st1 => N.xc x env st1) | _ => False)
    | _ => False) (fun x st1 => N.xc x env st1) := by
  unfold sAppE
  cases b env st with
  | ok rb st0 =>
    cases rb with
    | dat d0 =>
      cases d0 with
      | ref k =>
        simp only [wE]
        cases st0[k]? with
        | none => rfl
        | some o =>
          cases o with
          | ins _ _ => rfl
          | dct _ _ => rfl
          | lst ds0 =>
            dsimp only
            cases a env st0 with
            | ok r st1 =>
              dsimp only
              cases put r st1 with
              | none => rfl
              | some dd => obtain ⟨d, st2⟩ := dd; exact wput_eq
            | _ => rfl
      | _ => rfl
    | _ => rfl
  | _ => rfl
/-- the end of a store at a place -/
def wPutIx (n : Nat) (k : Int) (d : D) (N : WS) (env : Env) (st : Stor) : Prop := match st[n]? with
  | some (.lst ds) => (match ixN ds.length k with | some j => N.nx env (st.set n (.lst (ds.set j d))) | none => False)
  | _ => False
theorem wS_setIx {put : Put} {i : Nat} : wS (sSetIx put i b a env st) N = match env[i]? with
    | some (some (.own ds)) => wE (a env st) (fun r st0 => match put r st0 with | some (d, st1) => wE (b env st1) (fun rk st2 => match rk with | .dat (.int k) => (match ixN ds.length k with | some j => N.nx (env.set i (some (.own (ds.set j d)))) st2 | none => False) | _ => False) (fun x st1 => N.xc x env st1) | none => False) (fun x st1 => N.xc x env st1)
    | some (some (.dat (.ref n))) => wE (a env st) (fun r st0 => match put r st0 with | some (d, st1) => wE (b env st1) (fun rk st2 => match rk with | .dat (.int k) => wPutIx n k d N env st2 | _ => False) (fun x st1 => N.xc x env st1) | none => False) (fun x st1 => N.xc x env st1)
    | _ => False := by
  unfold sSetIx
  cases env[i]? with
  | none => rfl
  | some o =>
    cases o with
    | none => rfl
    | some sv =>
      cases sv with
      | own ds =>
        dsimp only
        cases a env st with
        | ok r st0 =>
          simp only [wE]
          cases put r st0 with
          | none => rfl
          | some dd =>
            obtain ⟨d, st1⟩ := dd
            dsimp only
            cases b env st1 with
            | ok rk st2 =>
              cases rk with
              | dat dk =>
                cases dk with
                | int k => dsimp only; cases ixN ds.length k <;> rfl
                | _ => rfl
              | _ => rfl
            | _ => rfl
        | _ => rfl
      | dat dk =>
        cases dk with
        | ref n =>
          dsimp only
          cases a env st with
          | ok r st0 =>
            simp only [wE]
            cases put r st0 with
            | none => rfl
            | some dd =>
              obtain ⟨d, st1⟩ := dd
              dsimp only
              cases b env st1 with
              | ok rk st2 =>
                cases rk with
                | dat dk =>
                  cases dk with
                  | int k =>
                    dsimp only
                    unfold wPutIx
                    cases st2[n]? with
                    | none => rfl
                    | some o =>
                      cases o with
                      | lst ds => dsimp only; cases ixN ds.length k <;> rfl
                      | ins _ _ => rfl
                      | dct _ _ => rfl
                  | _ => rfl
                | _ => rfl
              | _ => rfl
          | _ => rfl
        | _ => rfl
      | _ => rfl
/-- a def -/
def wF (n : Nat) (P : R → Stor → Prop) (Q : Xc → Stor → Prop) : WS where
  nx := fun _ st => wE (gc n (.dat .non) st) P Q
  rt := fun r st => match r with
    | .dat d => wE (gc n (.dat d) st) P Q
    | .new ds => wE (gc n (.new ds) st) P Q
    | _ => False
  bk := fun _ _ => False
  ct := fun _ _ => False
  xc := fun x _ st => Q x st
theorem wE_fin {n : Nat} {o : SO} : wE (finish n o) PR Q = wS o (wF n PR Q) := by
  cases o with
  | ret r st => cases r <;> rfl
  | _ => rfl
theorem wE_run {n m : Nat} {rs : List R} : wE (runFn n m s rs st) PR Q = (rs.length = n ∧ wS (s (rs.map R.sv ++ List.replicate m none) st) (wF st.length PR Q)) := by
  unfold runFn
  by_cases h : rs.length = n
  · rw [if_pos h, wE_fin]; simp only [h, true_and]
  · rw [if_neg h]; simp only [h, false_and]; rfl
/-- the store as it was -/
theorem wE_gc {n : Nat} {r : R} (h : st.length ≤ n) : wE (gc n r st) PR Q = PR r st := by unfold gc; rw [if_pos h]; rfl
theorem wE_gc2 {n : Nat} {r : R} (h : ¬ st.length ≤ n) (hb : (r.blw n && (st.take n).all (Obj.blw n)) = true) : wE (gc n r st) PR Q = PR r (st.take n) := by unfold gc; rw [if_neg h, if_pos hb]; rfl
theorem wE_mono {o : Out α} {P' : α → Stor → Prop} {Q' : Xc → Stor → Prop} (h : wE o P Q) (hp : ∀ a st, P a st → P' a st) (hq : ∀ x st, Q x st → Q' x st) : wE o P' Q' := by
  cases o with
  | ok a st => exact hp a st h
  | exc x st => exact hq x st h
  | bad => exact h
theorem wE_eq {o : Out α} {x : α} {st' : Stor} (h : wE o (fun r s => r = x ∧ s = st') (fun _ _ => False)) : o = .ok x st' := by
  cases o with
  | ok a s => obtain ⟨rfl, rfl⟩ := h; rfl
  | exc _ _ => exact h.elim
  | bad => exact h.elim
/-- a loop by what holds between the turns -/
theorem wS_forGo {T : Tg} {ds : List D} (I : Nat → Env → Stor → Prop) (h0 : I 0 env st) (hs : ∀ i d env st, ds[i]? = some d → I i env st → ∃ env1, T d env = some env1 ∧ wS (s env1 st) { N with nx := I (i + 1), ct := I (i + 1), bk := N.nx }) (hd : ∀ env st, I ds.length env st → N.nx env st) : wS (forGo T s ds env st) N := by
  have key : ∀ (n i : Nat) (env : Env) (st : Stor), n = ds.length - i → i ≤ ds.length → I i env st → wS (forGo T s (ds.drop i) env st) N := by
    intro n
    induction n with
    | zero =>
      intro i env st e hi h
      have : i = ds.length := by omega
      subst this
      rw [List.drop_length]
      exact hd env st h
    | succ n ih =>
      intro i env st e hi h
      have hlt : i < ds.length := by omega
      rw [List.drop_eq_getElem_cons hlt]
      obtain ⟨env1, e1, w⟩ := hs i _ env st (List.getElem?_eq_getElem hlt) h
      unfold forGo
      rw [e1]
      dsimp only
      cases eb : s env1 st with
      | nx env2 st2 => rw [eb] at w; exact ih (i + 1) env2 st2 (by omega) hlt w
      | cont env2 st2 => rw [eb] at w; exact ih (i + 1) env2 st2 (by omega) hlt w
      | brk env2 st2 => rw [eb] at w; exact w
      | ret r st2 => rw [eb] at w; exact w
      | exc x env2 st2 => rw [eb] at w; exact w
      | bad => rw [eb] at w; exact w
  have := key ds.length 0 env st (by simp) (Nat.zero_le _) h0
  rwa [List.drop_zero] at this
/-- a comprehension by what holds between the turns -/
theorem wE_comp {put : Put} {T : Tg} {ds : List D} {acc0 : List D} (I : Nat → List D → Stor → Prop) (h0 : I 0 acc0 st) (hs : ∀ i d acc st, ds[i]? = some d → I i acc st → ∃ env1, T d env = some env1 ∧ wE (t env1 st) (fun k st1 => if k = true then wE (a env1 st1) (fun r st2 => match put r st2 with | some (x, st3) => acc.length < 1000000 ∧ I (i + 1) (acc ++ [x]) st3 | none => False) (fun _ _ => False) else I (i + 1) acc st1) (fun _ _ => False))
    (hd : ∀ acc st, I ds.length acc st → PR (.new acc) st) : wE (compGo put T t a ds acc0 env st) PR Q := by
  have key : ∀ (n i : Nat) (acc : List D) (st : Stor), n = ds.length - i → i ≤ ds.length → I i acc st → wE (compGo put T t a (ds.drop i) acc env st) PR Q := by
    intro n
    induction n with
    | zero =>
      intro i acc st e hi h
      have : i = ds.length := by omega
      subst this
      rw [List.drop_length]
      exact hd acc st h
    | succ n ih =>
      intro i acc st e hi h
      have hlt : i < ds.length := by omega
      rw [List.drop_eq_getElem_cons hlt]
      obtain ⟨env1, e1, w⟩ := hs i _ acc st (List.getElem?_eq_getElem hlt) h
      unfold compGo
      rw [e1]
      dsimp only
      cases et : t env1 st with
      | bad => rw [et] at w; exact w.elim
      | exc x s => rw [et] at w; exact w.elim
      | ok k st1 =>
        rw [et] at w
        simp only [wE] at w
        cases k with
        | false => exact ih (i + 1) acc st1 (by omega) hlt (by simpa using w)
        | true =>
          simp only [if_true] at w
          dsimp only
          cases ea : a env1 st1 with
          | bad => rw [ea] at w; exact w.elim
          | exc x s => rw [ea] at w; exact w.elim
          | ok r st2 =>
            rw [ea] at w
            dsimp only at w ⊢
            cases ep : put r st2 with
            | none => rw [ep] at w; exact w.elim
            | some dd =>
              obtain ⟨x, st3⟩ := dd
              rw [ep] at w
              dsimp only at w ⊢
              rw [if_pos w.1]
              exact ih (i + 1) (acc ++ [x]) st3 (by omega) hlt w.2
  have := key ds.length 0 acc0 st (by simp) (Nat.zero_le _) h0
  rwa [List.drop_zero] at this
end
end PD

/-! PDv: equality of data, pure comprehensions and loops, steps that are taken alone. -/
namespace PD
open PySem PySem.Spec PyProof.Rows L2

/-! ### equality -/
mutual
def D.eqv : D → D → Bool
  | .non, .non => true
  | .bl a, .bl b => a == b
  | .bl a, .int j => (if a then 1 else 0) == j
  | .int i, .bl b => i == (if b then 1 else 0)
  | .int i, .int j => i == j
  | .str x, .str y => x == y
  | .tup xs, .tup ys => eqvs xs ys
  | .lst xs, .lst ys => eqvs xs ys
  | _, _ => false
def eqvs : List D → List D → Bool
  | [], [] => true
  | x :: xs, y :: ys => D.eqv x y && eqvs xs ys
  | _, _ => false
end
mutual
/-- plain data, at most n deep -/
def D.sh : Nat → D → Bool
  | _, .non => true
  | _, .bl _ => true
  | _, .int _ => true
  | _, .str s => PyData.strOk s
  | 0, .tup _ => false
  | 0, .lst _ => false
  | n + 1, .tup ds => shs n ds
  | n + 1, .lst ds => shs n ds
  | _, .ref _ => false
  | _, .glo _ => false
def shs : Nat → List D → Bool
  | _, [] => true
  | n, d :: ds => D.sh n d && shs n ds
end
mutual
def D.py : D → PyData
  | .non => .none
  | .bl b => .bool b
  | .int i => .int i
  | .str s => .str s
  | .tup ds => .tuple (pys ds)
  | .lst ds => .list (pys ds)
  | .ref _ => .none
  | .glo _ => .none
def pys : List D → List PyData
  | [] => []
  | d :: ds => d.py :: pys ds
end
mutual
theorem py_is : ∀ (n : Nat) (d : D), D.sh n d = true → toPy d = some d.py ∧ d.py.canLay0 = true ∧ d.py.depth ≤ n
  | _, .non, _ => ⟨rfl, by simp [D.py, PyData.canLay0], by simp [D.py, PyData.depth]⟩
  | _, .bl _, _ => ⟨rfl, by simp [D.py, PyData.canLay0], by simp [D.py, PyData.depth]⟩
  | _, .int _, _ => ⟨rfl, by simp [D.py, PyData.canLay0], by simp [D.py, PyData.depth]⟩
  | n, .str s, h => ⟨rfl, by
      have h : PyData.strOk s = true := by cases n <;> exact h
      simpa [D.py, PyData.canLay0] using h, by simp [D.py, PyData.depth]⟩
  | 0, .tup _, h => by simp [D.sh] at h
  | 0, .lst _, h => by simp [D.sh] at h
  | n + 1, .tup ds, h => by
    obtain ⟨h1, h2, h3⟩ := pys_is n ds (by simpa [D.sh] using h)
    exact ⟨by unfold toPy; rw [h1]; rfl, by simp only [D.py, PyData.canLay0]; exact h2, by simp only [D.py, PyData.depth]; omega⟩
  | n + 1, .lst ds, h => by
    obtain ⟨h1, h2, h3⟩ := pys_is n ds (by simpa [D.sh] using h)
    exact ⟨by unfold toPy; rw [h1]; rfl, by simp only [D.py, PyData.canLay0]; exact h2, by simp only [D.py, PyData.depth]; omega⟩
  | _, .ref _, h => by simp [D.sh] at h
  | _, .glo _, h => by simp [D.sh] at h
theorem pys_is : ∀ (n : Nat) (ds : List D), shs n ds = true → toPys ds = some (pys ds) ∧ PyData.canLayAll0 (pys ds) = true ∧ PyData.depthAll (pys ds) ≤ n
  | _, [], _ => ⟨rfl, by simp [pys, PyData.canLayAll0], by simp [pys, PyData.depthAll]⟩
  | n, d :: ds, h => by
    have h : (D.sh n d && shs n ds) = true := h
    rw [Bool.and_eq_true] at h
    obtain ⟨h1, h2, h3⟩ := py_is n d h.1
    obtain ⟨g1, g2, g3⟩ := pys_is n ds h.2
    refine ⟨by unfold toPys; rw [h1, g1]; rfl, by simp only [pys, PyData.canLayAll0, h2, g2, Bool.and_self], by simp only [pys, PyData.depthAll]; omega⟩
end
mutual
theorem eqv_py : ∀ (n : Nat) (d e : D), D.sh n d = true → D.sh n e = true → PyData.eqv d.py e.py = D.eqv d e
  | _, .non, .non, _, _ => rfl
  | _, .non, .bl _, _, _ => rfl
  | _, .non, .int _, _, _ => rfl
  | _, .non, .str _, _, _ => rfl
  | _, .non, .tup _, _, _ => rfl
  | _, .non, .lst _, _, _ => rfl
  | _, .bl _, .non, _, _ => rfl
  | _, .bl _, .bl _, _, _ => rfl
  | _, .bl _, .int _, _, _ => rfl
  | _, .bl _, .str _, _, _ => rfl
  | _, .bl _, .tup _, _, _ => rfl
  | _, .bl _, .lst _, _, _ => rfl
  | _, .int _, .non, _, _ => rfl
  | _, .int _, .bl _, _, _ => rfl
  | _, .int _, .int _, _, _ => rfl
  | _, .int _, .str _, _, _ => rfl
  | _, .int _, .tup _, _, _ => rfl
  | _, .int _, .lst _, _, _ => rfl
  | _, .str _, .non, _, _ => rfl
  | _, .str _, .bl _, _, _ => rfl
  | _, .str _, .int _, _, _ => rfl
  | _, .str _, .str _, _, _ => rfl
  | _, .str _, .tup _, _, _ => rfl
  | _, .str _, .lst _, _, _ => rfl
  | _, .tup _, .non, _, _ => rfl
  | _, .tup _, .bl _, _, _ => rfl
  | _, .tup _, .int _, _, _ => rfl
  | _, .tup _, .str _, _, _ => rfl
  | _, .tup _, .lst _, _, _ => rfl
  | _, .lst _, .non, _, _ => rfl
  | _, .lst _, .bl _, _, _ => rfl
  | _, .lst _, .int _, _, _ => rfl
  | _, .lst _, .str _, _, _ => rfl
  | _, .lst _, .tup _, _, _ => rfl
  | 0, .tup _, .tup _, h, _ => by simp [D.sh] at h
  | 0, .lst _, .lst _, h, _ => by simp [D.sh] at h
  | n + 1, .tup xs, .tup ys, h, g => eqvs_py n xs ys (by simpa [D.sh] using h) (by simpa [D.sh] using g)
  | n + 1, .lst xs, .lst ys, h, g => eqvs_py n xs ys (by simpa [D.sh] using h) (by simpa [D.sh] using g)
  | _, .ref _, _, h, _ => by simp [D.sh] at h
  | _, .glo _, _, h, _ => by simp [D.sh] at h
  | _, _, .ref _, _, h => by simp [D.sh] at h
  | _, _, .glo _, _, h => by simp [D.sh] at h
theorem eqvs_py : ∀ (n : Nat) (ds es : List D), shs n ds = true → shs n es = true → PyData.eqvAll (pys ds) (pys es) = eqvs ds es
  | _, [], [], _, _ => rfl
  | _, [], _ :: _, _, _ => rfl
  | _, _ :: _, [], _, _ => rfl
  | n, d :: ds, e :: es, h, g => by
    have h : (D.sh n d && shs n ds) = true := h
    have g : (D.sh n e && shs n es) = true := g
    rw [Bool.and_eq_true] at h g
    show (PyData.eqv d.py e.py && PyData.eqvAll (pys ds) (pys es)) = (D.eqv d e && eqvs ds es)
    rw [eqv_py n d e h.1 g.1, eqvs_py n ds es h.2 g.2]
end
/-- what is compared: data at most 20 deep -/
def rD (st : Stor) : R → Option D
  | .dat (.ref i) => match st[i]? with
    | some (.lst ds) => some (.lst ds)
    | _ => none
  | .dat d => some d
  | .new ds => some (.lst ds)
  | .view ds => some (.lst ds)
  | .scr _ => none
theorem rpy_is {st : Stor} {r : R} {d : D} (h : rD st r = some d) (s : D.sh 20 d = true) : rPy st r = some d.py ∧ SeqAt.shaped d.py = true := by
  obtain ⟨h1, h2, h3⟩ := py_is 20 d s
  refine ⟨?_, ?_⟩
  · have lst : ∀ ds, d = .lst ds → (match toPys ds with | some ps => some (PyData.list ps) | none => none) = some d.py := fun ds e => by
      subst e
      unfold toPy at h1
      exact h1
    cases r with
    | dat d' =>
      cases d' with
      | ref i =>
        unfold rD at h
        unfold rPy
        dsimp only at h ⊢
        cases e : st[i]? with
        | none => rw [e] at h; cases h
        | some o =>
          rw [e] at h
          cases o with
          | ins _ _ => cases h
          | dct _ _ => cases h
          | lst ds => cases h; exact lst ds rfl
      | _ => cases h; exact h1
    | new ds => cases h; exact lst ds rfl
    | view ds => cases h; exact lst ds rfl
    | scr ds => cases h
  · show (d.py.canLay0 && decide (d.py.depth ≤ 64)) = true
    rw [Bool.and_eq_true]
    exact ⟨h2, decide_eq_true (by omega)⟩
theorem fEq_is {st : Stor} {r1 r2 : R} {d e : D} (h1 : rD st r1 = some d) (h2 : rD st r2 = some e) (s1 : D.sh 20 d = true) (s2 : D.sh 20 e = true) : fEqB false r1 r2 st = .ok (.dat (.bl (D.eqv d e))) st := by
  obtain ⟨a1, a2⟩ := rpy_is h1 s1
  obtain ⟨b1, b2⟩ := rpy_is h2 s2
  unfold fEqB
  rw [a1, b1]
  dsimp only
  rw [a2, b2, eqv_py 20 d e s1 s2]
  rfl
theorem fNe_is {st : Stor} {r1 r2 : R} {d e : D} (h1 : rD st r1 = some d) (h2 : rD st r2 = some e) (s1 : D.sh 20 d = true) (s2 : D.sh 20 e = true) : fEqB true r1 r2 st = .ok (.dat (.bl (!D.eqv d e))) st := by
  obtain ⟨a1, a2⟩ := rpy_is h1 s1
  obtain ⟨b1, b2⟩ := rpy_is h2 s2
  unfold fEqB
  rw [a1, b1]
  dsimp only
  rw [a2, b2, eqv_py 20 d e s1 s2]
  rfl
def dSeq : D → Option (List D)
  | .tup ds => some ds
  | .lst ds => some ds
  | _ => none
theorem any_py : ∀ (n : Nat) (ds : List D) (d : D), shs n ds = true → D.sh n d = true → (pys ds).any (fun z => PyData.eqv z d.py) = ds.any fun z => D.eqv z d
  | _, [], _, _, _ => rfl
  | n, x :: xs, d, h, g => by
    have h : (D.sh n x && shs n xs) = true := h
    rw [Bool.and_eq_true] at h
    show (PyData.eqv x.py d.py || (pys xs).any _) = (D.eqv x d || xs.any _)
    rw [eqv_py n x d h.1 g, any_py n xs d h.2 g]
theorem sh_succ : ∀ (n : Nat), (∀ d : D, D.sh n d = true → D.sh (n + 1) d = true) ∧ ∀ ds : List D, shs n ds = true → shs (n + 1) ds = true := by
  intro n
  induction n with
  | zero =>
    have h1 : ∀ d : D, D.sh 0 d = true → D.sh 1 d = true := fun d h => by cases d <;> simp_all [D.sh]
    refine ⟨h1, fun ds => ?_⟩
    induction ds with
    | nil => intro _; rfl
    | cons d ds ih =>
      intro h
      have h : (D.sh 0 d && shs 0 ds) = true := h
      rw [Bool.and_eq_true] at h
      show (D.sh 1 d && shs 1 ds) = true
      rw [h1 d h.1, ih h.2]; rfl
  | succ n ih =>
    have h1 : ∀ d : D, D.sh (n + 1) d = true → D.sh (n + 2) d = true := fun d h => by
      cases d with
      | tup ds => exact ih.2 ds h
      | lst ds => exact ih.2 ds h
      | _ => first | exact h | rfl | (simp [D.sh] at h)
    refine ⟨h1, fun ds => ?_⟩
    induction ds with
    | nil => intro _; rfl
    | cons d ds ih2 =>
      intro h
      have h : (D.sh (n + 1) d && shs (n + 1) ds) = true := h
      rw [Bool.and_eq_true] at h
      show (D.sh (n + 2) d && shs (n + 2) ds) = true
      rw [h1 d h.1, ih2 h.2]; rfl
theorem sh_le {n m : Nat} (h : n ≤ m) : (∀ d : D, D.sh n d = true → D.sh m d = true) ∧ ∀ ds : List D, shs n ds = true → shs m ds = true := by
  induction h with
  | refl => exact ⟨fun _ h => h, fun _ h => h⟩
  | step _ ih => exact ⟨fun d q => (sh_succ _).1 d (ih.1 d q), fun d q => (sh_succ _).2 d (ih.2 d q)⟩
theorem fIn_is {st : Stor} {r1 r2 : R} {d e : D} {ds : List D} (h1 : rD st r1 = some d) (h2 : rD st r2 = some e) (he : dSeq e = some ds) (s1 : D.sh 20 d = true) (s2 : D.sh 20 e = true) : fIn false r1 r2 st = .ok (.dat (.bl (ds.any fun z => D.eqv z d))) st ∧ fIn true r1 r2 st = .ok (.dat (.bl (!ds.any fun z => D.eqv z d))) st := by
  obtain ⟨a1, a2⟩ := rpy_is h1 s1
  obtain ⟨b1, b2⟩ := rpy_is h2 s2
  have sds : shs 20 ds = true := by
    cases e with
    | tup xs => cases he; exact (sh_le (by decide : 19 ≤ 20)).2 _ s2
    | lst xs => cases he; exact (sh_le (by decide : 19 ≤ 20)).2 _ s2
    | _ => cases he
  have q : pySeq e.py = some (pys ds) := by
    cases e with
    | tup xs => cases he; rfl
    | lst xs => cases he; rfl
    | _ => cases he
  unfold fIn
  rw [a1, b1]
  dsimp only
  rw [q]
  dsimp only
  rw [a2, b2, any_py 20 ds d sds s1]
  exact ⟨rfl, rfl⟩

/-! ### data of plain Lean -/
/-- equal data, equal things -/
structure En {α : Type} [DecidableEq α] (f : α → D) (n : Nat) : Prop where
  eq : ∀ x y, D.eqv (f x) (f y) = decide (x = y)
  sh : ∀ x, D.sh n (f x) = true
  bl : ∀ k x, (f x).blw k = true
section
variable {α : Type} [DecidableEq α] {f : α → D} {n : Nat}
theorem En.int : En D.int n := ⟨fun x y => by show (x == y) = decide (x = y); rw [Bool.eq_iff_iff]; simp only [beq_iff_eq, decide_eq_true_eq], fun x => by cases n <;> rfl, fun _ _ => rfl⟩
theorem En.eqs (h : En f n) : ∀ xs ys : List α, eqvs (xs.map f) (ys.map f) = decide (xs = ys)
  | [], [] => rfl
  | [], _ :: _ => rfl
  | _ :: _, [] => rfl
  | x :: xs, y :: ys => by
    show (D.eqv (f x) (f y) && eqvs (xs.map f) (ys.map f)) = _
    rw [h.eq, h.eqs xs ys, Bool.eq_iff_iff]
    simp
theorem En.shs (h : En f n) : ∀ xs : List α, shs n (xs.map f) = true
  | [] => rfl
  | x :: xs => by
    show (D.sh n (f x) && PD.shs n (xs.map f)) = true
    rw [h.sh, h.shs xs]; rfl
theorem En.bls (h : En f n) (k : Nat) : ∀ xs : List α, blwAll k (xs.map f) = true
  | [] => rfl
  | x :: xs => by
    show (D.blw k (f x) && blwAll k (xs.map f)) = true
    rw [h.bl, h.bls k xs]; rfl
/-- a tuple of such -/
def eL (f : α → D) (xs : List α) : D := .tup (xs.map f)
theorem En.tup (h : En f n) : En (eL f) (n + 1) := ⟨fun x y => h.eqs x y, fun x => h.shs x, fun k x => h.bls k x⟩
theorem En.any (h : En f n) (xs : List α) (x : α) : ((xs.map f).any fun z => D.eqv z (f x)) = decide (x ∈ xs) := by
  induction xs with
  | nil => simp
  | cons y ys ih =>
    rw [List.map_cons, List.any_cons, ih, h.eq]
    by_cases q : y = x
    · subst q; simp
    · have q2 : ¬ x = y := fun e => q e.symm
      simp [q, q2]
theorem En.up (h : En f n) {m : Nat} (hm : n ≤ m) : En f m := ⟨h.eq, fun x => (sh_le hm).1 _ (h.sh x), h.bl⟩
end
/-- pairs, triples of ints -/
def eP (p : Int × Int) : D := .tup [.int p.1, .int p.2]
def eT (p : Int × Int × Int) : D := .tup [.int p.1, .int p.2.1, .int p.2.2]
theorem En.pair : En eP 1 := ⟨fun ⟨a, b⟩ ⟨c, d⟩ => by
  show (a == c && (b == d && true)) = decide ((a, b) = (c, d))
  rw [Bool.eq_iff_iff]
  simp only [Bool.and_eq_true, beq_iff_eq, and_true, decide_eq_true_eq, Prod.mk.injEq], fun _ => rfl, fun _ _ => rfl⟩
theorem En.trip : En eT 1 := ⟨fun ⟨a, b, c⟩ ⟨d, e, f⟩ => by
  show (a == d && (b == e && (c == f && true))) = decide ((a, b, c) = (d, e, f))
  rw [Bool.eq_iff_iff]
  simp only [Bool.and_eq_true, beq_iff_eq, and_true, decide_eq_true_eq, Prod.mk.injEq], fun _ => rfl, fun _ _ => rfl⟩

/-! ### pure comprehensions and loops -/
theorem compGo_pure {put : Put} {T : Tg} {t : TV} {a : EV} {env : Env} {st : Stor} (p : D → Bool) (g : D → D) : ∀ (ds acc : List D), (∀ d ∈ ds, ∃ env1, T d env = some env1 ∧ t env1 st = .ok (p d) st ∧ (p d = true → ∃ r, a env1 st = .ok r st ∧ put r st = some (g d, st))) → ds.length + acc.length ≤ 1000000 →
    compGo put T t a ds acc env st = .ok (.new (acc ++ (ds.filter p).map g)) st
  | [], acc, _, _ => by unfold compGo; simp
  | d :: ds, acc, h, hl => by
    obtain ⟨env1, e1, e2, e3⟩ := h d (by simp)
    unfold compGo
    rw [e1]
    dsimp only
    rw [e2]
    rw [List.length_cons] at hl
    cases hp : p d with
    | false =>
      dsimp only
      rw [compGo_pure p g ds acc (fun x hx => h x (by simp [hx])) (by omega), List.filter_cons_of_neg (by simp [hp])]
    | true =>
      obtain ⟨r, e4, e5⟩ := e3 hp
      dsimp only
      rw [e4]
      dsimp only
      rw [e5]
      dsimp only
      rw [if_pos (by omega), compGo_pure p g ds (acc ++ [g d]) (fun x hx => h x (by simp [hx])) (by rw [List.length_append, List.length_singleton]; omega), List.filter_cons_of_pos hp]
      simp
end PD

/-! PDr: the same, as rules to be used from the goal backwards; «walk_at "st"» takes one step, «walk_at "ev"» all that it can. -/
namespace PD
open PySem PySem.Spec PyProof.Rows L2
section
variable {α : Type} {P PR : R → Stor → Prop} {PB : Bool → Stor → Prop} {PL : List R → Stor → Prop} {PO : Option Int → Stor → Prop} {PD : List D → Stor → Prop} {PJ : List D × Env → Stor → Prop} {Q : Xc → Stor → Prop} {N : WS} {env env1 : Env} {st : Stor} {a b c : EV} {as : AV} {t u : TV} {s s2 : SVm} {f g : R → R → Stor → Out R} {d : D} {ds es : List D} {r r1 r2 : R} {rs : List R} {i j : Int} {k n m : Nat}
def svR : Option (Option SV) → Option R
  | some (some (.dat d)) => some (.dat d)
  | some (some (.own ds)) => some (.view ds)
  | some (some (.view ds)) => some (.view ds)
  | some (some (.scr ds)) => some (.scr ds)
  | _ => none
theorem r_var (h : svR env[k]? = some r) (x : PR r st) : wE (eVar k env st) PR Q := by
  unfold eVar
  cases e : env[k]? with
  | none => rw [e] at h; cases h
  | some o =>
    cases o with
    | none => rw [e] at h; cases h
    | some sv => rw [e] at h; cases sv <;> cases h <;> exact x
theorem r_c (x : PR (.dat d) st) : wE (eC d env st) PR Q := x
theorem r_nil (x : PL [] st) : wE (aNil env st) PL Q := x
theorem r_cons (x : wE (a env st) (fun r st1 => wE (as env st1) (fun rs st2 => PL (r :: rs) st2) Q) Q) : wE (aCons a as env st) PL Q := wE_cons ▸ x
theorem r_bin (x : wE (a env st) (fun r st1 => wE (b env st1) (fun r2 st2 => wE (f r r2 st2) PR Q) Q) Q) : wE (eBin f a b env st) PR Q := wE_bin ▸ x
theorem r_un {f : R → Stor → Out R} (x : wE (a env st) (fun r st1 => wE (f r st1) PR Q) Q) : wE (eUn f a env st) PR Q := wE_un ▸ x
theorem r_ap {f : List R → Stor → Out R} (x : wE (as env st) (fun r st1 => wE (f r st1) PR Q) Q) : wE (eAp f as env st) PR Q := wE_ap ▸ x
theorem r_f1 {f : R → Stor → Out R} (x : wE (f r st) PR Q) : wE (f1 f [r] st) PR Q := x
theorem r_call {f : Sem} {args : List R} (h : rs.map R.arg = args) (x : wE (f args st) PR Q) : wE (fCall f rs st) PR Q := by subst h; exact x
def kChain (g : R → R → Stor → Out R) (c : EV) (env : Env) (PR : R → Stor → Prop) (Q : Xc → Stor → Prop) (r2 : R) : R → Stor → Prop
  | .dat (.bl true), st3 => wE (c env st3) (fun r4 st4 => wE (g r2 r4 st4) PR Q) Q
  | .dat (.bl false), st3 => PR (.dat (.bl false)) st3
  | _, _ => False
theorem r_chain (x : wE (a env st) (fun r1 st1 => wE (b env st1) (fun r2 st2 => wE (f r1 r2 st2) (kChain g c env PR Q r2) (fun _ _ => False)) Q) Q) : wE (eChain f g a b c env st) PR Q := by
  rw [wE_chain]
  refine wE_mono x (fun r1 st1 y => wE_mono y (fun r2 st2 z => wE_mono z (fun r3 st3 w => ?_) fun _ _ h => h) fun _ _ h => h) fun _ _ h => h
  cases r3 with
  | dat d =>
    cases d with
    | bl k => cases k <;> exact w
    | _ => exact w.elim
  | _ => exact w.elim
theorem k_chain {v : Bool} (h1 : v = true → wE (c env st) (fun r4 st4 => wE (g r2 r4 st4) PR Q) Q) (h2 : v = false → PR (.dat (.bl false)) st) : kChain g c env PR Q r2 (.dat (.bl v)) st := by
  cases v
  · exact h2 rfl
  · exact h1 rfl
/-! values -/
theorem r_addI (x : PR (.dat (.int (i + j))) st) : wE (fAdd (.dat (.int i)) (.dat (.int j)) st) PR Q := x
theorem r_addS {y z : Str} (h : y.length + z.length ≤ 1000000) (x : PR (.dat (.str (y ++ z))) st) : wE (fAdd (.dat (.str y)) (.dat (.str z)) st) PR Q := by unfold fAdd; dsimp only; rw [if_pos h]; exact x
theorem r_addT (h : ds.length + es.length ≤ 1000000) (x : PR (.dat (.tup (ds ++ es))) st) : wE (fAdd (.dat (.tup ds)) (.dat (.tup es)) st) PR Q := by unfold fAdd; dsimp only; rw [if_pos h]; exact x
theorem r_addL (h1 : lstOf st r1 = some ds) (h2 : lstOf st r2 = some es) (h : ds.length + es.length ≤ 1000000) (x : PR (.new (ds ++ es)) st) : wE (fAdd r1 r2 st) PR Q := by
  unfold fAdd
  split
  · cases h1
  · cases h1
  · cases h1
  · rw [h1, h2]; dsimp only; rw [if_pos h]; exact x
theorem r_I2 {c : Int → Int → Bool} {g : Int → Int → D} (h : c i j = true) (x : PR (.dat (g i j)) st) : wE (fI2 c g (.dat (.int i)) (.dat (.int j)) st) PR Q := by unfold fI2; dsimp only; rw [if_pos h]; exact x
theorem r_sub (x : PR (.dat (.int (i - j))) st) : wE (fSub (.dat (.int i)) (.dat (.int j)) st) PR Q := x
theorem r_lt (x : PR (.dat (.bl (decide (i < j)))) st) : wE (fLt (.dat (.int i)) (.dat (.int j)) st) PR Q := x
theorem r_le (x : PR (.dat (.bl (decide (i ≤ j)))) st) : wE (fLe (.dat (.int i)) (.dat (.int j)) st) PR Q := x
theorem r_gt (x : PR (.dat (.bl (decide (j < i)))) st) : wE (fGt (.dat (.int i)) (.dat (.int j)) st) PR Q := x
theorem r_ge (x : PR (.dat (.bl (decide (j ≤ i)))) st) : wE (fGe (.dat (.int i)) (.dat (.int j)) st) PR Q := x
theorem r_mod (h : 0 < j) (x : PR (.dat (.int (i % j))) st) : wE (fMod (.dat (.int i)) (.dat (.int j)) st) PR Q := r_I2 (decide_eq_true h) x
theorem r_div (h : 0 < j) (h2 : j < 2 ^ 64) (x : PR (.dat (.int (i / j))) st) : wE (fDiv (.dat (.int i)) (.dat (.int j)) st) PR Q := r_I2 (by simp only [h, h2, decide_true, Bool.and_self]) x
theorem r_pow (h : (decide (0 ≤ j) && decide (j ≤ 1000) && decide (i.natAbs < 2 ^ 64)) = true) (x : PR (.dat (.int (i ^ j.toNat))) st) : wE (fPow (.dat (.int i)) (.dat (.int j)) st) PR Q := r_I2 h x
theorem r_mulI (h : (-(2 ^ 64) < i ∧ i < 2 ^ 64) ∨ (-(2 ^ 64) < j ∧ j < 2 ^ 64)) (x : PR (.dat (.int (i * j))) st) : wE (fMul (.dat (.int i)) (.dat (.int j)) st) PR Q := by
  unfold fMul; dsimp only; rw [if_pos (by simpa only [Bool.or_eq_true, Bool.and_eq_true, decide_eq_true_eq] using h)]; exact x
theorem r_mulL (h1 : -(2 ^ 63) ≤ i) (h2 : i < 2 ^ 63) (h : ds.length * i.toNat ≤ 1000000) (x : PR (.new (List.replicate i.toNat ds).flatten) st) : wE (fMul (.new ds) (.dat (.int i)) st) PR Q := by
  unfold fMul; dsimp only; rw [if_pos (by simp only [h1, h2, h, decide_true, Bool.and_self])]; exact x
theorem r_neg (x : PR (.dat (.int (-i))) st) : wE (fNeg (.dat (.int i)) st) PR Q := x
theorem r_ix (h1 : seqOf st r = some ds) (h2 : atI ds i = some d) (x : PR (.dat d) st) : wE (fIx r (.dat (.int i)) st) PR Q := by
  unfold fIx
  rw [h1]
  dsimp only
  rw [h2]
  exact x
theorem r_eqI (x : PR (.dat (.bl (decide (i = j)))) st) : wE (fEqB false (.dat (.int i)) (.dat (.int j)) st) PR Q := by
  rw [fEq_is rfl rfl rfl rfl]
  show PR (.dat (.bl (i == j))) st
  have : (i == j) = decide (i = j) := by rw [Bool.eq_iff_iff]; simp
  rw [this]; exact x
theorem r_neI (x : PR (.dat (.bl (!decide (i = j)))) st) : wE (fEqB true (.dat (.int i)) (.dat (.int j)) st) PR Q := by
  rw [fNe_is rfl rfl rfl rfl]
  show PR (.dat (.bl (!(i == j)))) st
  have : (i == j) = decide (i = j) := by rw [Bool.eq_iff_iff]; simp
  rw [this]; exact x
theorem r_eq {e : D} (h1 : rD st r1 = some d) (h2 : rD st r2 = some e) (s1 : D.sh 20 d = true) (s2 : D.sh 20 e = true) (x : PR (.dat (.bl (D.eqv d e))) st) : wE (fEqB false r1 r2 st) PR Q := by rw [fEq_is h1 h2 s1 s2]; exact x
theorem r_ne {e : D} (h1 : rD st r1 = some d) (h2 : rD st r2 = some e) (s1 : D.sh 20 d = true) (s2 : D.sh 20 e = true) (x : PR (.dat (.bl (!D.eqv d e))) st) : wE (fEqB true r1 r2 st) PR Q := by rw [fNe_is h1 h2 s1 s2]; exact x
theorem r_in {e : D} (h1 : rD st r1 = some d) (h2 : rD st r2 = some e) (he : dSeq e = some ds) (s1 : D.sh 20 d = true) (s2 : D.sh 20 e = true) (x : PR (.dat (.bl (ds.any fun z => D.eqv z d))) st) : wE (fIn false r1 r2 st) PR Q := by rw [(fIn_is h1 h2 he s1 s2).1]; exact x
theorem r_nin {e : D} (h1 : rD st r1 = some d) (h2 : rD st r2 = some e) (he : dSeq e = some ds) (s1 : D.sh 20 d = true) (s2 : D.sh 20 e = true) (x : PR (.dat (.bl (!ds.any fun z => D.eqv z d))) st) : wE (fIn true r1 r2 st) PR Q := by rw [(fIn_is h1 h2 he s1 s2).2]; exact x
theorem r_len (h : seqOf st r = some ds) (x : PR (.dat (.int ds.length)) st) : wE (fLen r st) PR Q := by
  unfold fLen
  split
  · cases h
  · rw [h]; exact x
theorem r_tupleT (x : PR (.dat (.tup ds)) st) : wE (fTuple (.dat (.tup ds)) st) PR Q := x
theorem r_tupleL (h : lstOf st r = some ds) (x : PR (.dat (.tup ds)) st) : wE (fTuple r st) PR Q := by
  unfold fTuple
  split
  · cases h
  · rw [h]; exact x
theorem r_list (h : seqOf st r = some ds) (x : PR (.new ds) st) : wE (fList r st) PR Q := by unfold fList; rw [h]; exact x
theorem r_intI (x : PR (.dat (.int i)) st) : wE (fInt (.dat (.int i)) st) PR Q := x
theorem r_intB {v : Bool} (x : PR (.dat (.int (if v then 1 else 0))) st) : wE (fInt (.dat (.bl v)) st) PR Q := x
theorem r_str (h : i.natAbs < 2 ^ 64) (x : PR (.dat (.str (toString i))) st) : wE (fStr (.dat (.int i)) st) PR Q := by unfold fStr; dsimp only; rw [if_pos h]; exact x
theorem r_isi {T t : Ty} {v : Bool} (h : tyOf st r = some t) (h2 : t.isi T = v) (x : PR (.dat (.bl v)) st) : wE (fIsi T r st) PR Q := by subst h2; unfold fIsi; rw [h]; exact x
theorem r_sortI {ns : List Int} (h : lstOf st r = some ds) (h2 : intsOf ds = some ns) (x : PR (.new ((isort ns).map D.int)) st) : wE (fSortI r st) PR Q := by unfold fSortI; rw [h]; dsimp only; rw [h2]; exact x
theorem r_join {y : Str} {ys : List Str} (h : seqOf st r = some ds) (h2 : strsOf ds = some ys) (h3 : (ys.map (·.length)).sum + ys.length * y.length ≤ 1000000) (x : PR (.dat (.str (Str.join y ys))) st) : wE (fJoin y r st) PR Q := by unfold fJoin; rw [h]; dsimp only; rw [h2]; dsimp only; rw [if_pos h3]; exact x
/-! tests -/
def kB (PB : Bool → Stor → Prop) : R → Stor → Prop
  | .dat (.bl v), st => PB v st
  | _, _ => False
theorem r_tval (x : wE (a env st) (kB PB) Q) : wE (tVal a env st) PB Q := by
  rw [wE_tval]
  refine wE_mono x (fun r st1 y => ?_) fun _ _ h => h
  cases r with
  | dat d => cases d <;> first | exact y | exact y.elim
  | _ => exact y.elim
theorem k_B {v : Bool} (x : PB v st) : kB PB (.dat (.bl v)) st := x
theorem r_tnot (x : wE (t env st) (fun k st1 => PB (!k) st1) Q) : wE (tNotT t env st) PB Q := wE_tnot ▸ x
theorem r_tand (x : wE (t env st) (fun k st1 => if k = true then wE (u env st1) PB Q else PB false st1) Q) : wE (tAndT t u env st) PB Q := wE_tand ▸ x
theorem r_tor (x : wE (t env st) (fun k st1 => if k = true then PB true st1 else wE (u env st1) PB Q) Q) : wE (tOrT t u env st) PB Q := wE_tor ▸ x
theorem r_ttrue (x : PB true st) : wE (tTrue env st) PB Q := x
theorem r_not (x : wE (a env st) (kB fun k st1 => PR (.dat (.bl (!k))) st1) Q) : wE (eNot a env st) PR Q := by
  rw [wE_not]
  refine wE_mono x (fun r st1 y => ?_) fun _ _ h => h
  cases r with
  | dat d => cases d <;> first | exact y | exact y.elim
  | _ => exact y.elim
theorem r_and (x : wE (a env st) (kB fun k st1 => if k = true then wE (b env st1) PR Q else PR (.dat (.bl false)) st1) Q) : wE (eAnd a b env st) PR Q := by
  rw [wE_and]
  refine wE_mono x (fun r st1 y => ?_) fun _ _ h => h
  cases r with
  | dat d => cases d <;> first | exact y | exact y.elim
  | _ => exact y.elim
theorem r_or (x : wE (a env st) (kB fun k st1 => if k = true then PR (.dat (.bl true)) st1 else wE (b env st1) PR Q) Q) : wE (eOr a b env st) PR Q := by
  rw [wE_or]
  refine wE_mono x (fun r st1 y => ?_) fun _ _ h => h
  cases r with
  | dat d => cases d <;> first | exact y | exact y.elim
  | _ => exact y.elim
theorem r_if (x : wE (t env st) (fun k st1 => if k = true then wE (a env st1) PR Q else wE (b env st1) PR Q) Q) : wE (eIf t a b env st) PR Q := wE_if ▸ x
theorem r_ite {v : Bool} {A B : Prop} (h1 : v = true → A) (h2 : v = false → B) : if v = true then A else B := by
  cases v
  · rw [if_neg Bool.false_ne_true]; exact h2 rfl
  · rw [if_pos rfl]; exact h1 rfl
theorem r_ifT {A B : Prop} (h : A) : if true = true then A else B := by rw [if_pos rfl]; exact h
theorem r_ifN {A B : Prop} (h : A) : if (!false) = true then A else B := h
theorem r_ifM {A B : Prop} (h : B) : if (!true) = true then A else B := h
theorem r_ifP {v : Bool} {A B : Prop} (e : v = true) (h : A) : if v = true then A else B := by rw [if_pos e]; exact h
theorem r_ifQ {v : Bool} {A B : Prop} (e : v = false) (h : B) : if v = true then A else B := by rw [if_neg (by rw [e]; exact Bool.false_ne_true)]; exact h
theorem r_ifF {A B : Prop} (h : B) : if false = true then A else B := by rw [if_neg Bool.false_ne_true]; exact h
/-- two ways that meet again -/
theorem r_iteJ {v : Bool} {o : Out α} {K J : α → Stor → Prop} {x : α} (h1 : v = true → wE o J Q) (h2 : v = false → J x st) (h3 : ∀ r s, J r s → K r s) : if v = true then wE o K Q else K x st := by
  cases v
  · rw [if_neg Bool.false_ne_true]; exact h3 _ _ (h2 rfl)
  · rw [if_pos rfl]; exact wE_mono (h1 rfl) h3 fun _ _ h => h
theorem r_iteK {v : Bool} {o : Out α} {K J : α → Stor → Prop} {x : α} (h1 : v = true → J x st) (h2 : v = false → wE o J Q) (h3 : ∀ r s, J r s → K r s) : if v = true then K x st else wE o K Q := by
  cases v
  · rw [if_neg Bool.false_ne_true]; exact wE_mono (h2 rfl) h3 fun _ _ h => h
  · rw [if_pos rfl]; exact h3 _ _ (h1 rfl)
theorem r_cutS {o : SO} {J K : Env → Stor → Prop} (h1 : wS o { N with nx := J }) (h3 : ∀ e s, J e s → K e s) : wS o { N with nx := K } := by
  cases o with
  | nx e s => exact h3 _ _ h1
  | _ => exact h1
/-- what follows is asked of what is known alone -/
theorem r_cut0 {o : Out α} {K J : α → Stor → Prop} (h1 : wE o J Q) (h3 : ∀ r s, J r s → K r s) : wE o K Q := wE_mono h1 h3 fun _ _ h => h
/-- an if whose ways meet again -/
theorem r_iteS {v : Bool} {o : SO} {J : Env → Stor → Prop} (h1 : v = true → wS o { N with nx := J }) (h2 : v = false → J env st) (h3 : ∀ e s, J e s → N.nx e s) : if v = true then wS o N else wS (sNil env st) N := by
  cases v
  · rw [if_neg Bool.false_ne_true]; exact h3 _ _ (h2 rfl)
  · rw [if_pos rfl]
    have h := h1 rfl
    cases o with
    | nx e s => exact h3 _ _ h
    | _ => exact h
/-! displays -/
theorem r_tup (x : wE (as env st) (fun rs st1 => ∃ ds, frozAll rs = some ds ∧ ds.length ≤ 1000000 ∧ PR (.dat (.tup ds)) st1) Q) : wE (eTup as env st) PR Q := by
  rw [wE_tup]
  refine wE_mono x (fun r st1 y => ?_) fun _ _ h => h
  obtain ⟨ds, h, y⟩ := y
  rw [h]; exact y
theorem r_lst (x : wE (as env st) (fun rs st1 => ∃ ds, frozAll rs = some ds ∧ ds.length ≤ 1000000 ∧ PR (.new ds) st1) Q) : wE (eLst as env st) PR Q := by
  rw [wE_lst]
  refine wE_mono x (fun r st1 y => ?_) fun _ _ h => h
  obtain ⟨ds, h, y⟩ := y
  rw [h]; exact y
theorem k_disp {A : List D → Prop} (h : frozAll rs = some ds) (hl : ds.length ≤ 1000000) (x : A ds) : ∃ ds, frozAll rs = some ds ∧ ds.length ≤ 1000000 ∧ A ds := ⟨ds, h, hl, x⟩
theorem r_onone (x : PO none st) : wE (oNone env st) PO Q := x
def kO (PO : Option Int → Stor → Prop) : R → Stor → Prop
  | .dat (.int i), st => PO (some i) st
  | _, _ => False
theorem r_osome (x : wE (a env st) (kO PO) Q) : wE (oSome a env st) PO Q := by
  rw [wE_osome]
  refine wE_mono x (fun r st1 y => ?_) fun _ _ h => h
  cases r with
  | dat d => cases d <;> first | exact y | exact y.elim
  | _ => exact y.elim
theorem k_O (x : PO (some i) st) : kO PO (.dat (.int i)) st := x
theorem r_cut {l h : OV} (x : wE (a env st) (fun r st1 => wE (l env st1) (fun lo st2 => wE (h env st2) (fun hi st3 => wE (fCut r lo hi st3) PR Q) Q) Q) Q) : wE (eCut a l h env st) PR Q := wE_cut ▸ x
theorem r_cutT {lo hi : Option Int} (x : PR (.dat (.tup (cutD ds lo hi))) st) : wE (fCut (.dat (.tup ds)) lo hi st) PR Q := x
theorem r_cutL {lo hi : Option Int} (h : lstOf st r = some ds) (x : PR (.new (cutD ds lo hi)) st) : wE (fCut r lo hi st) PR Q := by
  unfold fCut
  split
  · cases h
  · rw [h]; exact x
theorem r_lc {put : Put} {vs : List Nat} {it : IV} {T : Tg} (x : wE (it env st) (fun ds st1 => wE (compGo put T t a ds [] (wipeE env vs) st1) PR Q) Q) : wE (eLc put vs it T t a env st) PR Q := wE_lc ▸ x
def itOf : R → Option (List D)
  | .dat (.tup ds) => some ds
  | .dat (.lst ds) => some ds
  | .new ds => some ds
  | .view ds => some ds
  | _ => none
def kSeq (PD : List D → Stor → Prop) (r : R) (st : Stor) : Prop := ∃ ds, itOf r = some ds ∧ PD ds st
theorem r_xseq (x : wE (a env st) (kSeq PD) Q) : wE (xSeq a env st) PD Q := by
  rw [wE_xseq]
  refine wE_mono x (fun r st1 y => ?_) fun _ _ h => h
  obtain ⟨ds, h, y⟩ := y
  cases r with
  | dat d => cases d <;> first | (cases h; exact y) | cases h
  | new _ => cases h; exact y
  | view _ => cases h; exact y
  | scr _ => cases h
theorem k_seq (h : itOf r = some ds) (x : PD ds st) : kSeq PD r st := ⟨ds, h, x⟩
def kRng1 (PD : List D → Stor → Prop) (rs : List R) (st : Stor) : Prop := ∃ ds, rngOf1 rs = some ds ∧ PD ds st
def kRng2 (PD : List D → Stor → Prop) (rs : List R) (st : Stor) : Prop := ∃ ds, rngOf2 rs = some ds ∧ PD ds st
theorem r_xrng1 (x : wE (as env st) (kRng1 PD) Q) : wE (xRng1 as env st) PD Q := by
  rw [wE_xrng1]
  refine wE_mono x (fun r st1 y => ?_) fun _ _ h => h
  obtain ⟨ds, h, y⟩ := y
  rw [h]; exact y
theorem r_xrng2 (x : wE (as env st) (kRng2 PD) Q) : wE (xRng2 as env st) PD Q := by
  rw [wE_xrng2]
  refine wE_mono x (fun r st1 y => ?_) fun _ _ h => h
  obtain ⟨ds, h, y⟩ := y
  rw [h]; exact y
theorem k_rng1 (h1 : -(2 ^ 62) ≤ j) (h2 : j < 2 ^ 62) (x : PD (rngD 0 j.toNat) st) : kRng1 PD [.dat (.int j)] st := ⟨_, rngOf1_int h1 h2, x⟩
theorem k_rng2 (h1 : -(2 ^ 62) ≤ i) (h2 : i < 2 ^ 62) (h3 : -(2 ^ 62) ≤ j) (h4 : j < 2 ^ 62) (x : PD (rngD i (j - i).toNat) st) : kRng2 PD [.dat (.int i), .dat (.int j)] st := ⟨_, rngOf2_int h1 h2 h3 h4, x⟩
/-! statements -/
theorem r_snil (x : N.nx env st) : wS (sNil env st) N := x
theorem r_seq (x : wS (s env st) { N with nx := fun env1 st1 => wS (s2 env1 st1) N }) : wS (sSeq s s2 env st) N := wS_seq ▸ x
theorem r_sif (x : wE (t env st) (fun k st1 => if k = true then wS (s env st1) N else wS (s2 env st1) N) (fun x st1 => N.xc x env st1)) : wS (sIf t s s2 env st) N := wS_if ▸ x
theorem r_pass (x : N.nx env st) : wS (sPass env st) N := x
theorem r_break (x : N.bk env st) : wS (sBreak env st) N := x
theorem r_scont (x : N.ct env st) : wS (sCont env st) N := x
theorem r_expr (x : wE (a env st) (fun _ st1 => N.nx env st1) (fun x st1 => N.xc x env st1)) : wS (sExpr a env st) N := wS_expr ▸ x
def kRet (N : WS) : R → Stor → Prop
  | .dat d, st => N.rt (.dat d) st
  | .new ds, st => N.rt (.new ds) st
  | _, _ => False
theorem r_ret (x : wE (a env st) (kRet N) (fun x st1 => N.xc x env st1)) : wS (sRet a env st) N := by
  rw [wS_retE]
  refine wE_mono x (fun r st1 y => ?_) fun _ _ h => h
  cases r <;> first | exact y | exact y.elim
theorem k_retD (x : N.rt (.dat d) st) : kRet N (.dat d) st := x
theorem k_retN (x : N.rt (.new ds) st) : kRet N (.new ds) st := x
def svRet : Option (Option SV) → Option R
  | some (some (.dat d)) => some (.dat d)
  | some (some (.own ds)) => some (.new ds)
  | _ => none
theorem r_retV (h : svRet env[k]? = some r) (x : N.rt r st) : wS (sRetV k env st) N := by
  unfold sRetV
  cases e : env[k]? with
  | none => rw [e] at h; cases h
  | some o =>
    cases o with
    | none => rw [e] at h; cases h
    | some sv => rw [e] at h; cases sv <;> first | (cases h; exact x) | cases h
theorem r_retN (x : N.rt (.dat .non) st) : wS (sRetN env st) N := x
def putSV : R → Option SV
  | .dat d => some (.dat d)
  | .new ds => some (.own ds)
  | _ => none
def kSet (k : Nat) (env : Env) (N : WS) (r : R) (st : Stor) : Prop := ∃ sv env1, putSV r = some sv ∧ env.set k (some sv) = env1 ∧ N.nx env1 st
theorem r_set (x : wE (a env st) (kSet k env N) (fun x st1 => N.xc x env st1)) : wS (sSet k a env st) N := by
  rw [wS_set]
  refine wE_mono x (fun r st1 y => ?_) fun _ _ h => h
  obtain ⟨sv, env1, h, rfl, y⟩ := y
  cases r <;> first | (cases h; exact y) | cases h
theorem k_set {sv : SV} (h : putSV r = some sv) (h2 : env.set k (some sv) = env1) (x : N.nx env1 st) : kSet k env N r st := ⟨sv, env1, h, h2, x⟩
def kSetR (k : Nat) (env : Env) (N : WS) (r : R) (st : Stor) : Prop := ∃ ds, r = .new ds ∧ N.nx (env.set k (some (.dat (.ref st.length)))) (st ++ [.lst ds])
theorem r_setR (x : wE (a env st) (kSetR k env N) (fun x st1 => N.xc x env st1)) : wS (sSetR k a env st) N := by
  rw [wS_setR]
  refine wE_mono x (fun r st1 y => ?_) fun _ _ h => h
  obtain ⟨ds, rfl, y⟩ := y
  exact y
theorem r_move {sv : SV} (h : env[m]? = some (some sv)) (h2 : (match sv with | .dat d => some (env.set k (some (.dat d))) | .own ds => if k = m then none else some ((env.set m none).set k (some (.own ds))) | _ => none) = some env1) (x : N.nx env1 st) : wS (sMove k m env st) N := by
  unfold sMove
  rw [h]
  cases sv with
  | dat d => cases h2; exact x
  | own ds =>
    dsimp only at h2 ⊢
    split at h2
    · cases h2
    · rename_i hn
      cases h2
      rw [if_neg hn]; exact x
  | _ => cases h2
def kTgt (T : Tg) (env : Env) (N : WS) (r : R) (st : Stor) : Prop := ∃ d env1, r = .dat d ∧ T d env = some env1 ∧ N.nx env1 st
theorem r_tgt {T : Tg} (x : wE (a env st) (kTgt T env N) (fun x st1 => N.xc x env st1)) : wS (sTgt T a env st) N := by
  rw [wS_tgt]
  refine wE_mono x (fun r st1 y => ?_) fun _ _ h => h
  obtain ⟨d, env1, rfl, h, y⟩ := y
  dsimp only
  rw [h]; exact y
theorem k_tgt {T : Tg} (h : T d env = some env1) (x : N.nx env1 st) : kTgt T env N (.dat d) st := ⟨d, env1, rfl, h, x⟩
theorem r_for {it : JV} {T : Tg} (x : wE (it env st) (fun de st1 => wS (forGo T s de.1 de.2 st1) N) (fun x st1 => N.xc x env st1)) : wS (sFor it T s env st) N := wS_for ▸ x
def jtOf : R → Option (List D)
  | .dat (.tup ds) => some ds
  | .dat (.lst ds) => some ds
  | .new ds => some ds
  | _ => none
def kJ (env : Env) (PJ : List D × Env → Stor → Prop) (r : R) (st : Stor) : Prop := ∃ ds, jtOf r = some ds ∧ PJ (ds, env) st
theorem r_jseq (x : wE (a env st) (kJ env PJ) Q) : wE (jSeq a env st) PJ Q := by
  rw [wE_jseq]
  refine wE_mono x (fun r st1 y => ?_) fun _ _ h => h
  obtain ⟨ds, h, y⟩ := y
  cases r with
  | dat d => cases d <;> first | (cases h; exact y) | cases h
  | new _ => cases h; exact y
  | _ => cases h
theorem k_J (h : jtOf r = some ds) (x : PJ (ds, env) st) : kJ env PJ r st := ⟨ds, h, x⟩
theorem r_jrng1 (x : wE (as env st) (kRng1 fun ds st1 => PJ (ds, env) st1) Q) : wE (jRng1 as env st) PJ Q := by
  rw [wE_jrng1]
  refine wE_mono x (fun r st1 y => ?_) fun _ _ h => h
  obtain ⟨ds, h, y⟩ := y
  rw [h]; exact y
theorem r_jrng2 (x : wE (as env st) (kRng2 fun ds st1 => PJ (ds, env) st1) Q) : wE (jRng2 as env st) PJ Q := by
  rw [wE_jrng2]
  refine wE_mono x (fun r st1 y => ?_) fun _ _ h => h
  obtain ⟨ds, h, y⟩ := y
  rw [h]; exact y
/-- what a for goes through, a name: its list stays -/
def jvOf (env : Env) (k : Nat) : Option (List D × Env) := match env[k]? with
  | some (some (.dat (.tup ds))) => some (ds, env)
  | some (some (.dat (.lst ds))) => some (ds, env)
  | some (some (.own ds)) => some (ds, env.set k (some (.dat (.lst ds))))
  | some (some (.view ds)) => some (ds, env)
  | _ => none
theorem r_jvar (h : jvOf env k = some (ds, env1)) (x : PJ (ds, env1) st) : wE (jVar k env st) PJ Q := by
  unfold jvOf at h
  unfold jVar
  split at h <;> first | (cases h; exact x) | (cases h; rename_i e; rw [e]; exact x) | cases h
def kApp (put : Put) (k : Nat) (ds : List D) (env : Env) (N : WS) (r : R) (st : Stor) : Prop := ∃ d st2, put r st = some (d, st2) ∧ ds.length < 1000000 ∧ N.nx (env.set k (some (.own (ds ++ [d])))) st2
theorem r_app {put : Put} (h : env[k]? = some (some (.own ds))) (x : wE (a env st) (kApp put k ds env N) (fun x st1 => N.xc x env st1)) : wS (sApp put k a env st) N := by
  rw [wS_app, h]
  refine wE_mono x (fun r st1 y => ?_) fun _ _ h => h
  obtain ⟨d, st2, h, y⟩ := y
  rw [h]; exact y
theorem k_app {put : Put} {st2 : Stor} (h : put r st = some (d, st2)) (hl : ds.length < 1000000) (h2 : env.set k (some (.own (ds ++ [d]))) = env1) (x : N.nx env1 st2) : kApp put k ds env N r st := ⟨d, st2, h, hl, h2.symm ▸ x⟩
def kAppR (put : Put) (m : Nat) (env : Env) (N : WS) (r : R) (st : Stor) : Prop := ∃ d st2 ds, put r st = some (d, st2) ∧ st2[m]? = some (.lst ds) ∧ ds.length < 1000000 ∧ N.nx env (st2.set m (.lst (ds ++ [d])))
theorem r_appR {put : Put} (h : env[k]? = some (some (.dat (.ref m)))) (h2 : st[m]? = some (.lst ds)) (x : wE (a env st) (kAppR put m env N) (fun x st1 => N.xc x env st1)) : wS (sApp put k a env st) N := by
  rw [wS_app, h]
  dsimp only
  rw [h2]
  refine wE_mono x (fun r st1 y => ?_) fun _ _ h => h
  obtain ⟨d, st2, ds, h, h3, h4, y⟩ := y
  rw [h]
  dsimp only
  unfold wPut
  rw [h3]
  exact ⟨h4, y⟩
theorem r_appE {put : Put} (x : wE (b env st) (fun rb st0 => ∃ m ds, rb = .dat (.ref m) ∧ st0[m]? = some (.lst ds) ∧ wE (a env st0) (kAppR put m env N) (fun x st1 => N.xc x env st1)) (fun x st1 => N.xc x env st1)) : wS (sAppE put b a env st) N := by
  rw [wS_appE]
  refine wE_mono x (fun r st1 y => ?_) fun _ _ h => h
  obtain ⟨m, ds, rfl, h2, x⟩ := y
  dsimp only
  rw [h2]
  refine wE_mono x (fun r st1 y => ?_) fun _ _ h => h
  obtain ⟨d, st2, ds, h, h3, h4, y⟩ := y
  rw [h]
  dsimp only
  unfold wPut
  rw [h3]
  exact ⟨h4, y⟩
def kIxO (put : Put) (k : Nat) (ds : List D) (b : EV) (env : Env) (N : WS) (r : R) (st : Stor) : Prop := ∃ d st1, put r st = some (d, st1) ∧ wE (b env st1) (fun rk st2 => ∃ i j, rk = .dat (.int i) ∧ ixN ds.length i = some j ∧ N.nx (env.set k (some (.own (ds.set j d)))) st2) (fun x st1 => N.xc x env st1)
theorem r_setIxO {put : Put} (h : env[k]? = some (some (.own ds))) (x : wE (a env st) (kIxO put k ds b env N) (fun x st1 => N.xc x env st1)) : wS (sSetIx put k b a env st) N := by
  rw [wS_setIx, h]
  refine wE_mono x (fun r st1 y => ?_) fun _ _ h => h
  obtain ⟨d, st2, h, y⟩ := y
  rw [h]
  refine wE_mono y (fun r st1 y => ?_) fun _ _ h => h
  obtain ⟨i, j, rfl, h, y⟩ := y
  dsimp only
  rw [h]; exact y
def kIxR (put : Put) (m : Nat) (b : EV) (env : Env) (N : WS) (r : R) (st : Stor) : Prop := ∃ d st1, put r st = some (d, st1) ∧ wE (b env st1) (fun rk st2 => ∃ i j ds, rk = .dat (.int i) ∧ st2[m]? = some (.lst ds) ∧ ixN ds.length i = some j ∧ N.nx env (st2.set m (.lst (ds.set j d)))) (fun x st1 => N.xc x env st1)
theorem r_setIxR {put : Put} (h : env[k]? = some (some (.dat (.ref m)))) (x : wE (a env st) (kIxR put m b env N) (fun x st1 => N.xc x env st1)) : wS (sSetIx put k b a env st) N := by
  rw [wS_setIx, h]
  refine wE_mono x (fun r st1 y => ?_) fun _ _ h => h
  obtain ⟨d, st2, h, y⟩ := y
  rw [h]
  refine wE_mono y (fun r st1 y => ?_) fun _ _ h => h
  obtain ⟨i, j, ds, rfl, h, h2, y⟩ := y
  dsimp only
  unfold wPutIx
  rw [h]
  dsimp only
  rw [h2]; exact y
/-! exceptions, enumerate, sets -/
theorem r_wFx {y : Xc} (x : Q y st) : (wF n PR Q).xc y env st := x
theorem r_raise0 {c : Str} (x : N.xc ⟨c, []⟩ env st) : wS (sRaise0 c env st) N := x
def kR2 (c f1 f2 : Str) (env : Env) (N : WS) (rs : List R) (st : Stor) : Prop := ∃ a b, rs = [.dat a, .dat b] ∧ N.xc ⟨c, [(f2, b), (f1, a)]⟩ env st
theorem r_raise2 {c f1 f2 : Str} (x : wE (as env st) (kR2 c f1 f2 env N) (fun x st1 => N.xc x env st1)) : wS (sRaise2 c f1 f2 as env st) N := by
  unfold sRaise2
  cases ea : as env st with
  | ok rs st1 =>
    rw [ea] at x
    obtain ⟨a, b, rfl, x⟩ := x
    exact x
  | exc y s => rw [ea] at x; exact x
  | bad => rw [ea] at x; exact x.elim
theorem k_R2 {c f1 f2 : Str} {d1 d2 : D} (x : N.xc ⟨c, [(f2, d2), (f1, d1)]⟩ env st) : kR2 c f1 f2 env N [.dat d1, .dat d2] st := ⟨_, _, rfl, x⟩
def tryN (i : Nat) (N : WS) : WS where
  nx := fun env st => noExn (env.set i none) = true ∧ N.nx (env.set i none) st
  rt := N.rt
  bk := fun env st => noExn (env.set i none) = true ∧ N.bk (env.set i none) st
  ct := fun env st => noExn (env.set i none) = true ∧ N.ct (env.set i none) st
  xc := fun _ _ _ => False
theorem r_try {sub : Str → Bool} {i : Nat} (x : wS (s env st) { N with xc := fun y env1 st1 => if sub y.cls = true then noExn env1 = true ∧ wS (s2 (env1.set i (some (.exn y))) st1) (tryN i N) else N.xc y env1 st1 }) : wS (sTry sub i s s2 env st) N := by
  unfold sTry
  cases eb : s env st with
  | exc y env1 st1 =>
    rw [eb] at x
    have x : if sub y.cls = true then noExn env1 = true ∧ wS (s2 (env1.set i (some (.exn y))) st1) (tryN i N) else N.xc y env1 st1 := x
    dsimp only
    split
    · rename_i hb
      rw [if_pos hb] at x
      rw [if_pos x.1]
      have x2 := x.2
      cases eh : s2 (env1.set i (some (.exn y))) st1 with
      | nx env2 st2 =>
        rw [eh] at x2
        have x2 : noExn (env2.set i none) = true ∧ N.nx (env2.set i none) st2 := x2
        dsimp only [unE]
        rw [if_pos x2.1]; exact x2.2
      | brk env2 st2 =>
        rw [eh] at x2
        have x2 : noExn (env2.set i none) = true ∧ N.bk (env2.set i none) st2 := x2
        dsimp only [unE]
        rw [if_pos x2.1]; exact x2.2
      | cont env2 st2 =>
        rw [eh] at x2
        have x2 : noExn (env2.set i none) = true ∧ N.ct (env2.set i none) st2 := x2
        dsimp only [unE]
        rw [if_pos x2.1]; exact x2.2
      | ret r st2 => rw [eh] at x2; exact x2
      | exc z env2 st2 => rw [eh] at x2; exact x2.elim
      | bad => rw [eh] at x2; exact x2.elim
    · rename_i hb
      rw [if_neg hb] at x
      exact x
  | nx _ _ => rw [eb] at x; exact x
  | ret _ _ => rw [eb] at x; exact x
  | brk _ _ => rw [eb] at x; exact x
  | cont _ _ => rw [eb] at x; exact x
  | bad => rw [eb] at x; exact x
theorem r_isX {f : Str → Str → Option Bool} {y : Xc} (h : env[k]? = some (some (.exn y))) (x : wE (a env st) (fun r st1 => ∃ v, (match r with | .dat (.glo c) => f y.cls c | .dat (.tup cs) => anyGlo (f y.cls) cs | _ => none) = some v ∧ PR (.dat (.bl v)) st1) (fun _ _ => False)) : wE (eIsX f k a env st) PR Q := by
  unfold eIsX
  rw [h]
  dsimp only
  cases ea : a env st with
  | ok r st1 =>
    rw [ea] at x
    obtain ⟨v, h1, h2⟩ := x
    cases r with
    | dat d =>
      cases d <;> first | (dsimp only at h1 ⊢; rw [h1]; exact h2) | cases h1
    | _ => cases h1
  | exc _ _ => rw [ea] at x; exact x.elim
  | bad => rw [ea] at x; exact x.elim
theorem k_isX {A : Bool → Prop} {o : Option Bool} {v : Bool} (h : o = some v) (x : A v) : ∃ v, o = some v ∧ A v := ⟨v, h, x⟩
theorem r_isT {g : Str → Bool} {y : Xc} {v : Bool} (h : env[k]? = some (some (.exn y))) (h2 : g y.cls = v) (x : PR (.dat (.bl v)) st) : wE (eIsT g k env st) PR Q := by
  subst h2; unfold eIsT; rw [h]; exact x
theorem r_fld {c f : Str} {y : Xc} {d : D} (h : env[k]? = some (some (.exn y))) (h2 : y.cls = c) (h3 : y.fs.lookup f = some d) (x : PR (.dat d) st) : wE (eFld c f k env st) PR Q := by
  unfold eFld; rw [h]; dsimp only; rw [if_pos h2, h3]; exact x
theorem r_rev (h : env[k]? = some (some (.own ds))) (x : N.nx (env.set k (some (.own ds.reverse))) st) : wS (sRev k env st) N := by
  unfold sRev; rw [h]; exact x
theorem r_jenT (x : wE (as env st) (fun rs st1 => ∃ ds, rs = [.dat (.tup ds)] ∧ PJ (enumD ds, env) st1) Q) : wE (jEnT as env st) PJ Q := by
  unfold jEnT
  cases ea : as env st with
  | ok rs st1 =>
    rw [ea] at x
    obtain ⟨ds, rfl, x⟩ := x
    exact x
  | exc _ _ => rw [ea] at x; exact x
  | bad => rw [ea] at x; exact x
theorem k_enT {A : List D → Prop} (x : A ds) : ∃ es, [R.dat (.tup ds)] = [.dat (.tup es)] ∧ A es := ⟨ds, rfl, x⟩
theorem r_ssI {ns : List Int} (h : intsOf ds = some ns) (hl : ns.length < 60) (x : PR (.new ((usort ns).map D.int)) st) : wE (fSortSet (.dat (.tup ds)) st) PR Q := by
  unfold fSortSet; dsimp only; rw [h]; dsimp only; rw [if_pos hl]; exact x
theorem r_ssP {ks : List Int} (h0 : intsOf ds = none) (h : pairsOf ds = some ks) (hl : ks.length < 60) (x : PR (.new ((usort ks).map unpair)) st) : wE (fSortSet (.dat (.tup ds)) st) PR Q := by
  unfold fSortSet; dsimp only; rw [h0]; dsimp only; rw [h]; dsimp only; rw [if_pos hl]; exact x
theorem r_run (h : rs.length = n) (h2 : rs.map R.sv ++ List.replicate m none = env) (x : wS (s env st) (wF st.length PR Q)) : wE (runFn n m s rs st) PR Q := by
  rw [wE_run, h2]; exact ⟨h, x⟩
theorem k_gc (h : st.length ≤ n) (x : PR r st) : wE (gc n r st) PR Q := (wE_gc h).symm ▸ x
end
end PD

/-! PDq: a def called while an exception is handled; more of lists and tuples. -/
namespace PD
open PySem PySem.Spec PyProof.Rows L2
section
variable {P : Program} {w : World} {K : PySem.W.Frag} {mg : Str → Option Value} {base : Heap} {CX : CXT}
theorem inv_warm {X : Cx} {A1 : Around} {x1 : Value → Shared → Prop} {pins : List (Addr × PySem.Obj)} {σ : L2.St} {H : Hp} {s : Shared} (I : Inv X pins σ H s) (h : A1.frames = X.A.frames) : Inv { X with A := A1, calm := false, xe := x1 } pins σ H s where
  ok := { I.ok with hd := fun z => Bool.noConfusion z, frames := h.trans I.ok.frames }
  os := I.os
  bare := I.bare
  base := I.base
  loc := I.loc
  cell := I.cell
  free := I.free
  freeC := I.freeC
  pin := I.pin
  hok := I.hok
  len := I.len
/-- what a def promises that does not ask whether an exception is handled -/
structure FnQ (P : Program) (w : World) (K : PySem.W.Frag) (mg : Str → Option Value) (base : Heap) (CX : CXT) (k : Nat) (fa : Addr) (fd : FuncData) (ps : List Str) (sp : Sp) : Prop where
  ln : ∀ vs H Q E, sp vs H Q E → vs.length = ps.length
  go : ∀ (A : Around) (out : List PySem.Env) (s : Shared) (H : Hp) (ar : Args) (us : List Value) (vs : List V) (Q : VK) (E : XK), L2H.RoomH k A → Env0 P w K mg base A out s H → BindsTo s fd ar (ps.zip us) → Vals vs us → sp vs H Q E →
    codeAny (model P w) A (.call (.ref fa) ar) (CR CX out P w H s Q E) s
/-- a body's context, whatever is handled -/
def cxQ (CX : CXT) (P : Program) (w : World) (K : PySem.W.Frag) (mg : Str → Option Value) (base : Heap) (N : List Str) (qual : Str) (sc : Scope) (fa : Addr) (cd : Value) (A : Around) (out : List PySem.Env) (s : Shared) (H : Hp) (E : XK) : Cx :=
  { cxOf CX P w K mg base N qual sc fa cd A out s H E with calm := false }
theorem fnQ_of {x qual : Str} {st : Stmt} {fa : Addr} {fd : FuncData} {N ps : List Str} {k : Nat} {sp : Sp} (F : Fun K x qual st fa fd) (S : FnScope N ps (defScope st)) (ln : ∀ vs H Q E, sp vs H Q E → vs.length = ps.length)
    (hb : ∀ (cdv : Value) (A : Around) (out : List PySem.Env) (s : Shared) (H : Hp) (vs : List V) (Q : VK) (E : XK), sp vs H Q E →
      ∃ t, PSs (cxQ CX P w K mg base N qual (defScope st) fa cdv A out s H E) (defBody st) t ∧ t { nx := fun _ H1 => Q .non H1, rt := Q } (start N vs) H) : FnQ P w K mg base CX (k + 1) fa fd ps sp := by
  obtain ⟨oc, od, kV, doc, pm, an, cdv, ct, osl, rfl, lk, hcd⟩ := F.ex
  refine ⟨ln, fun A out s H ar us vs Q E rm e0 bd rv hs => ?_⟩
  have inK : K.In s.heap := e0.mod.kin.keeps fun b o q => (e0.bs b o q).1
  have nl : s.heap.NoLimit := e0.mod.nolimit.keeps fun b o q => (e0.bs b o q).1
  refine codeAny_call_function rm.depth (inK _ _ lk) rfl S.co S.gen rfl (PySem.W.codeRec_of inK hcd) (bd _ _ _ _ ?_)
  refine wpAny_newFunctionEnv_cells S.kind (fun y hy => ?_) fun env he s1 ic => ?_
  · obtain ⟨n, v⟩ := y
    rcases S.par n (List.of_mem_zip hy).1 with z | z
    · exact .inl z
    · exact .inr ⟨z, PySem.W.cellsFrom_some _ _ _ (.inl z)⟩
  subst he
  refine ⟨nl.keeps ic.toInCall.keep, codeAny_func ?_⟩
  obtain ⟨t, ht, hq⟩ := hb cdv A out s H vs Q E hs
  have e0' : Env0 P w K mg base { A with handled := none } out s H := ⟨e0.frames, e0.mod, e0.bs, e0.bsz, e0.funs, e0.frf, e0.hok, e0.bare⟩
  have I0 : Inv (cxOf CX P w K mg base N qual (defScope st) fa cdv { A with handled := none } out s H E) [] (start N vs) H s1 := inv_start (CX := CX) (E := E) S rfl e0' (ln _ _ _ _ hs) rv ic
  have I1 := inv_warm (x1 := (cxQ CX P w K mg base N qual (defScope st) fa cdv A out s H E).xe) (A1 := A.deeper (envOfC qual (defScope st) s.heap.objs.size fa cdv)) I0 rfl
  have I : Inv (cxQ CX P w K mg base N qual (defScope st) fa cdv A out s H E) [] (start N vs) H s1 := I1
  refine wpAny_mono (ht.run [] s1 (start N vs) H _ I hq) (fun fl s2 hf => ?_) fun _ _ z => z
  cases fl with
  | ret u =>
    obtain ⟨v, σ2, H2, J, r2, q⟩ := hf
    exact ⟨v, H2, J.os, J.bare, J.base, J.hok, r2, q⟩
  | next =>
    obtain ⟨σ2, H2, J, q⟩ := hf
    exact ⟨.non, H2, J.os, J.bare, J.base, J.hok, rfl, q⟩
  | brk => exact hf.choose_spec.choose_spec.2.elim
  | cont => exact hf.choose_spec.choose_spec.2.elim
end
section
variable {X : Cx} {G : Ga} {W : WX} {e e2 e3 : Expr} {es : List Expr} {a b c : EV} {as : AV} {t : TV} {pos : Pos}
theorem pe_callQ {k : Nat} {fa : Addr} {fd : FuncData} {ps : List Str} {sp : Sp} {x : Str} {p : Pos} {ta : TA} (F : FnQ X.prog X.w X.K X.mg X.base (L2.CX X.prog X.w) k fa fd ps sp) (hr : L2H.RoomH k X.A) (hm : X.mg x = some (.ref fa)) (hk : PySem.W.keepIn X.K (.ref fa) = true) (hb : Binds X.K fd ps [])
    (ha : PA X (e :: es) ta) (hx : ∀ σ, PassesAt (L2.CX X.prog X.w) X σ (fun _ _ _ => False)) (hg : Gl X x) (hdb : (x == ("__debug__" : Str)) = false) (he : starEach (e :: es) X.env = (false, eval e X.env) :: starEach es X.env) (hpl : (backTo pos (starEach es X.env)).any (·.1) = false) :
    PE X (.Call (.Name x p) (e :: es) [] pos) (fun σ H Q => ta σ H fun vs H1 => sp vs H1 Q fun _ _ _ => False) := by
  refine ⟨fun pins s σ H Q I h => wpAny_Call_Name_kw (ld_glob I hg hm ?_ hdb)⟩
  refine PySem.W.callWith_K (h₀ := X.base) I.ok.mod.kin hk (thn (ha.run pos pins s σ H _ I h) fun us s1 ⟨vs, H1, J, r, q⟩ => ⟨J.kIn, ?_⟩) he hpl
  have bd := hb s1 us J.kIn (by rw [List.append_nil, ← r.length]; exact F.ln _ _ _ _ q)
  rw [List.append_nil] at bd
  refine wpAny_call (codeAny_mono (F.go X.A X.stack s1 H1 ⟨us, []⟩ us vs Q _ hr J.env0 bd r q) fun rr s2 hq => ?_)
  cases rr with
  | error u => exact hx σ pins H1 s1 u s2 J hq
  | ok fl =>
    cases fl with
    | ret u => exact J.after hq
    | next => exact hq.elim
    | brk => exact hq.elim
    | cont => exact hq.elim
/-- a def of the module that may be called anywhere -/
def GoodQ (P : Program) (w : World) (K : PySem.W.Frag) (mg : Str → Option Value) (base : Heap) (cls : Str → Option Addr) (k : Nat) (fa : Addr) (ps : List Str) (f : Sem) : Prop :=
  PySem.W.keepIn K (.ref fa) = true ∧ ∃ fd : FuncData, FnQ P w K mg base (L2.CX P w) k fa fd ps (spOf K mg cls f) ∧ Binds K fd ps []
theorem i_callQ {k : Nat} {fa : Addr} {ps : List Str} {f : Sem} {x : Str} {p : Pos} {cls : Str → Option Addr} (F : GoodQ X.prog X.w X.K X.mg X.base cls k fa ps f) (hm : X.mg x = some (.ref fa)) (hr : L2H.RoomH k X.A)
    (hK : G.K = X.K) (hM : G.mg = X.mg) (hC : G.cls = cls) (ha : PA X (e :: es) (rdA G W0 as)) (hx : ∀ σ, PassesAt (L2.CX X.prog X.w) X σ (fun _ _ _ => False)) (hg : Gl X x := by rfl) (hdb : (x == ("__debug__" : Str)) = false := by decide)
    (he : starEach (e :: es) X.env = (false, eval e X.env) :: starEach es X.env := by rfl) (hpl : (backTo pos (starEach es X.env)).any (·.1) = false := by rfl) : PE X (.Call (.Name x p) (e :: es) [] pos) (rd G W0 (eAp (fCall f) as)) := by
  obtain ⟨hk, fd, F, hb⟩ := F
  refine (pe_callQ F hr hm hk hb ha hx hg hdb he hpl).imp fun σ H Q ⟨Z, M, env, st, rs, p⟩ => ?_
  refine ⟨Z, M, env, st, rs, ?_⟩
  unfold eAp at p
  cases ea : as env st with
  | bad => rw [ea] at p; exact p
  | exc x s => rw [ea] at p; exact p
  | ok rr st1 =>
    rw [ea] at p
    intro vs H1 M1 Z1 rs1 e1 w1
    have wa := arg_rel w1
    have st1' := rs1.sto
    rw [hK, hM] at wa st1'
    refine ⟨Z1, M1, st1, rr.map R.arg, st1', wa, ?_⟩
    have p1 : EPost G W0 Z1 M1 env σ H1 Q (f (rr.map R.arg) st1) := EPost.mono rs.mh e1 p
    cases ef : f (rr.map R.arg) st1 with
    | bad => rw [ef] at p1; exact p1
    | exc y s =>
      rw [ef] at p1
      intro c d H' M' Z' sto x xr
      refine p1 c d H' M' Z' (rs1.step x (by rw [hK, hM]; exact sto)) x ?_
      obtain ⟨C, h1, h2, h3⟩ := xr
      exact ⟨C, by rw [hC]; exact h1, h2, by rw [hK, hM]; exact h3⟩
    | ok r s =>
      rw [ef] at p1
      intro v H' M' Z' sto x vr
      refine p1 v H' M' Z' (rs1.step x (by rw [hK, hM]; exact sto)) x ?_
      cases r with
      | dat d => show Rep G.K G.mg _ _ _ _ _; rw [hK, hM]; exact vr
      | new ds =>
        obtain ⟨q, us, h1, h2, h3, h4, h5, h6⟩ := vr
        exact ⟨q, us, h1, h2, h3, h4, h5, by rw [hK, hM]; exact h6⟩
      | view ds =>
        obtain ⟨q, us, h1, h2, h3, h6⟩ := vr
        exact ⟨q, us, h1, h2, h3, by rw [hK, hM]; exact h6⟩
      | scr ds =>
        obtain ⟨q, us, h1, h2, h6⟩ := vr
        exact ⟨q, us, h1, by rw [hK]; exact h2, by rw [hK, hM]; exact h6⟩
theorem fin_passes {σ : L2.St} : PassesAt (L2.CX X.prog X.w) X σ (fun _ _ _ => False) := fun _ _ _ _ _ _ ⟨_, _, _, _, _, _, _, _, _, _, _, _, z⟩ => z.elim
theorem goodQ_of {P : Program} {w : World} {K : PySem.W.Frag} {mg : Str → Option Value} {base : Heap} {cls : Str → Option Addr} {x qual : Str} {st : Stmt} {fa : Addr} {N ps : List Str} {k n m : Nat} {body : SVm} (F : Has K x qual st fa ps) (S : FnScope N ps (defScope st)) (hn : ps.length = n) (hm : N.length = n + m)
    (hb : ∀ (cdv : Value) (A : Around) (outer : List PySem.Env) (s : Shared) (H : Hp) (E : XK) (G : Ga), G.K = K → G.mg = mg → G.cls = cls →
      PSs (cxQ (L2.CX P w) P w K mg base N qual (defScope st) fa cdv A outer s H E) (defBody st) (rdS G (fun c d _ H' => E c d H') body)) : GoodQ P w K mg base cls (k + 1) fa ps (runFn n m body) := by
  obtain ⟨fd, F, hB⟩ := F
  have hl : ∀ vs H Q E, spOf K mg cls (runFn n m body) vs H Q E → vs.length = n := by
    rintro vs H Q E ⟨Z, M, st, rs, s, w, p⟩
    unfold runFn at p
    split at p
    · rename_i h
      rw [← w.length]
      exact h
    · exact p.elim
  refine ⟨F.kp, fd, fnQ_of F S (fun vs H Q E h => (hl vs H Q E h).trans hn.symm) (fun cdv A outer s H vs Q E h => ?_), hB⟩
  have hlv := hl vs H Q E h
  obtain ⟨Z, M, st0, rs, s0, w0, p⟩ := h
  refine ⟨_, hb cdv A outer s H E (mkG K mg cls Z M H) rfl rfl rfl, Z, M, _, st0, (show L2.start N vs = vs.map some ++ List.replicate m none by unfold L2.start; rw [hlv, hm]; simp) ▸ args_rs s0 w0 m, ?_⟩
  unfold runFn at p
  rw [if_pos (by rw [w0.length]; exact hlv)] at p
  cases eb : body (rs.map R.sv ++ List.replicate m none) st0 with
  | nx env1 st1 =>
    rw [eb] at p
    exact fun Z' M' σ' H' rs' x' => gc_ok s0 p rs'.sto rs'.ext0 rfl
  | ret r st1 =>
    rw [eb] at p
    cases r with
    | dat d => exact fun v H' M' Z' sto x vr => gc_ok s0 p sto x vr
    | new ds => exact fun v H' M' Z' sto x vr => gc_ok s0 p sto x vr
    | view ds => exact p.elim
    | scr ds => exact p.elim
  | exc y env1 st1 =>
    rw [eb] at p
    exact fun c d σ' H' M' Z' rs' x' xr => p c d H' M' Z' rs'.sto rs'.ext0 xr
  | brk env1 st1 => rw [eb] at p; exact p.elim
  | cont env1 st1 => rw [eb] at p; exact p.elim
  | bad => rw [eb] at p; exact p.elim
end

/-! ### zip of two tuples -/
def zipD (ds es : List D) : List D := (ds.zip es).map fun p => .tup [p.1, p.2]
theorem zipD_at {ds es : List D} {i : Nat} {d : D} (h : (zipD ds es)[i]? = some d) : ∃ x y, ds[i]? = some x ∧ es[i]? = some y ∧ d = .tup [x, y] := by
  unfold zipD at h
  rw [List.getElem?_map] at h
  cases e : (ds.zip es)[i]? with
  | none => rw [e] at h; cases h
  | some p =>
    rw [e] at h
    cases h
    obtain ⟨x, y⟩ := p
    obtain ⟨h1, h2⟩ := List.getElem?_zip_eq_some.mp e
    exact ⟨x, y, h1, h2, rfl⟩
theorem src_zipT {K : PySem.W.Frag} {mg : Str → Option Value} {a b : Addr} {vs us : List V} {ds es : List D} {C : Cd} (h : ∀ Z M H, C Z M H → (SqT K H a vs ∧ Reps K mg Z M H ds vs) ∧ SqT K H b us ∧ Reps K mg Z M H es us) : Src K mg (RZ.ItzT K a b) (zipD ds es) C where
  go := fun Z M H i d c hi => by
    obtain ⟨⟨h1, h2⟩, h3, h4⟩ := h Z M H c
    obtain ⟨x, y, hx, hy, rfl⟩ := zipD_at hi
    obtain ⟨v, hv, rv⟩ := h2.get hx
    obtain ⟨u, hu, ru⟩ := h4.get hy
    refine ⟨⟨vs, us, v, u, h1, h3, hv, hu⟩, fun z H' t => ?_⟩
    obtain ⟨T, x0, y0, rfl, hT, rfl, t1, t2⟩ := t
    have t1 := t1 vs h1
    have t2 := t2 us h3
    rw [hv] at t1
    rw [hu] at t2
    cases t1
    cases t2
    refine ⟨.inr ⟨T, _, hT, rfl⟩, fun mz mh => ?_⟩
    have e0 := Ext.alloc0 (Z := Z) (M := M) (o := .tup [v, u]) mh hT
    exact ⟨T, _, rfl, SqT.of upd_same, v, [u], rfl, e0.rep mz rv, u, [], rfl, e0.rep mz ru, rfl⟩
  stop := fun Z M H c => by
    obtain ⟨⟨h1, h2⟩, h3, h4⟩ := h Z M H c
    refine ⟨vs, us, h1, h3, ?_⟩
    unfold zipD
    rw [List.length_map, List.length_zip, h2.length, h4.length]
    omega
section
variable {X : Cx} {G : Ga} {W : WX} {e e2 : Expr} {a : EV} {as : AV} {pos : Pos}
def jZip (as : AV) : JV := fun env st => match as env st with
  | .ok [.dat (.tup ds), .dat (.tup es)] st1 => .ok (zipD ds es, env) st1
  | .ok _ _ => .bad
  | .exc x s => .exc x s
  | .bad => .bad
theorem j_zip {p tpos : Pos} {elts : List Expr} {kk : Nat} (hK : G.K = X.K) (hm : X.mg "zip" = none) (ha : PA X [e, e2] (rdA G W as)) (hg : Gl X "zip" := by rfl) (hs : starEach [e, e2] X.env = (false, eval e X.env) :: starEach [e2] X.env := by rfl)
    (hpl : (backTo pos (starEach [e2] X.env)).any (·.1) = false := by rfl) : PI X (.Tuple elts kk tpos) (.Call (.Name "zip" p) [e, e2] [] pos) (rdJ G W (jZip as)) := (RZ.pi_zipA hg hm ha hs hpl).imp fun σ H R ⟨Z, M, env, st, rs, p⟩ => by
  refine ⟨Z, M, env, st, rs, ?_⟩
  unfold jZip at p
  cases ea : as env st with
  | bad => rw [ea] at p; exact p
  | exc x s => rw [ea] at p; exact fun c d H' M' Z' rs' e' => p c d H' M' Z' rs' (e'.s rs.mz)
  | ok r st1 =>
    rw [ea] at p
    intro vs H1 M1 Z1 rs1 e1 w1
    split at p
    · rename_i ds es st2 eq
      cases eq
      cases w1 with
      | cons w1 w2 =>
        cases w2 with
        | cons w2 w3 =>
          cases w3
          obtain ⟨q, us, rfl, h1, h2⟩ := w1
          obtain ⟨q', us', rfl, h3, h4⟩ := w2
          rw [hK] at h1 h3
          refine ⟨q, q', us, us', rfl, .inr ⟨h1, h3, p (RZ.ItzT X.K q q') (fun Z M H => (SqT X.K H q us ∧ Reps G.K G.mg Z M H ds us) ∧ SqT X.K H q' us' ∧ Reps G.K G.mg Z M H es us') H1 M1 Z1 rs1 (e1.s rs.mz) (hK ▸ src_zipT fun _ _ _ h => h) ⟨⟨h1, h2⟩, h3, h4⟩ ?_⟩⟩
          exact fun Z M H Z1 M1 H1 env st σ ⟨c1, c2⟩ x rs => ⟨stb_tup hK Z M H Z1 M1 H1 env st σ c1 x rs, stb_tup hK Z M H Z1 M1 H1 env st σ c2 x rs⟩
    · exact p.elim
    · rename_i eq; cases eq
    · rename_i eq; cases eq

/-! ### list(range(n)) -/
theorem reps_rng {K : PySem.W.Frag} {mg : Str → Option Value} {Z : Addr → Prop} {M : List Addr} {H : Hp} (lo : Int) (n : Nat) : Reps K mg Z M H (rngD lo n) ((List.range n).map fun i => V.int (lo + (i : Nat))) := by
  unfold rngD
  generalize List.range n = l
  induction l with
  | nil => exact rfl
  | cons i l ih => exact ⟨_, _, rfl, rfl, ih⟩
def fLstRg (r : R) (st : Stor) : Out R := match r with
  | .dat (.int j) => if -(2 ^ 62) ≤ j ∧ j ≤ 1000 then .ok (.new (rngD 0 j.toNat)) st else .bad
  | _ => .bad
theorem i_listRg {p p2 pos2 : Pos} (hc : X.calm = true) (hm : X.mg "list" = none) (hm2 : X.mg "range" = none) (ha : PE X e (rd G W a)) (hg : Gl X "list" := by rfl) (hg2 : Gl X "range" := by rfl)
    (na : starEach [.Call (.Name "range" p2) [e] [] pos2] X.env = (false, eval (.Call (.Name "range" p2) [e] [] pos2) X.env) :: starEach [] X.env := by rfl) (na2 : starEach [e] X.env = (false, eval e X.env) :: starEach [] X.env := by rfl) :
    PE X (.Call (.Name "list" p) [.Call (.Name "range" p2) [e] [] pos2] [] pos) (rd G W (eUn fLstRg a)) := (pe_listRg hc hg hm (prg_1 hg2 hm2 ha na2) na).imp fun σ H Q h => by
  refine rd_un (X := X) (r := fun x H1 Q => ∃ n, x = .int n ∧ RgOk 0 n ∧ ∀ q, H1 q = none → Q (.ref q) (upd H1 q (.lst (rgV 0 n)))) (fun B Z M env st σ H Q r v rs w p => ?_) h
  unfold fLstRg at p
  split at p
  · rename_i j
    split at p
    · rename_i hj
      have ev : v = .int j := w
      refine ⟨j, ev, ⟨by decide, by decide, hj.1, by omega, by omega⟩, fun q hq => ans_new rs p hq ?_⟩
      unfold rgV
      rw [Int.sub_zero]
      exact reps_rng 0 j.toNat
    · exact p.elim
  · exact p.elim
/-! ### t[::-1] -/
theorem adj_back (n : Nat) : Builtin.Slice.sliceAdjust none none (-1) (n : Int) = ((n : Int) - 1, -1) := rfl
theorem plc_back (n : Nat) : Builtin.Slice.slicePlaces ((n : Int) - 1) (-1) (-1) = n := by
  unfold Builtin.Slice.slicePlaces
  rw [if_neg (by decide)]
  simp only [Int.neg_neg, Int.ediv_one]
  split <;> omega
theorem pick_back (xs : Array Value) : ((List.range xs.size).filterMap fun (m : Nat) => xs[((xs.size : Int) - 1 + (m : Int) * (-1)).toNat]?) = xs.toList.reverse := by
  have h : ∀ m, m < xs.size → xs[((xs.size : Int) - 1 + (m : Int) * (-1)).toNat]? = xs.toList.reverse[m]? := fun m hm => by
    rw [List.getElem?_reverse (by rw [Array.length_toList]; exact hm), Array.length_toList, Array.getElem?_toList]
    congr 1
    omega
  have cg : ∀ (l : List Nat) (f g : Nat → Option Value), (∀ m ∈ l, f m = g m) → l.filterMap f = l.filterMap g := fun l f g hq => by
    induction l with
    | nil => rfl
    | cons x l ih => rw [List.filterMap_cons, List.filterMap_cons, hq x (by simp), ih fun m hm => hq m (by simp [hm])]
  rw [cg _ _ _ fun m hm => h m (List.mem_range.mp hm)]
  have hl : xs.size = xs.toList.reverse.length := by rw [List.length_reverse, Array.length_toList]
  rw [hl]
  generalize xs.toList.reverse = l
  induction l with
  | nil => rfl
  | cons x l ih =>
    rw [List.length_cons, List.range_succ_eq_map, List.filterMap_cons]
    simp only [List.getElem?_cons_zero, List.filterMap_map]
    congr 1
theorem item_back {prog : Program} {w : World} {A : Around} {E : Value → Shared → Prop} {s : Shared} {t sl : Addr} {its : Array Value} {v1 v2 v3 : Value} {Q : Value → Shared → Prop} (ht : IsTup s.heap t its) (hs : s.heap.IsSliceOf sl v1 v2 v3) (p1 : IsPart v1 none) (p2 : IsPart v2 none) (p3 : IsPart v3 (some (-1))) (hz : its.size ≤ sizeLine)
    (h : Q (.ref s.heap.objs.size) { s with heap := s.heap.push { cls := .type "tuple", data := .seq its.toList.reverse.toArray } }) : wpAny (model prog w) A (getItem (.ref t) (.ref sl)) Q E s := by
  have fits : sizeOk (.seq its.toList.reverse.toArray) := by
    show its.toList.reverse.toArray.size ≤ sizeLine
    rw [List.size_toArray, List.length_reverse, Array.length_toList]
    exact hz
  obtain ⟨oS, eS, cS, dS⟩ := id hs
  have ty : s.TypeIs (.ref sl) "slice" := ⟨oS, eS, cS⟩
  unfold getItem
  try with_reducible refine wpAny_holding ?_
  first | refine wpAny_bind (wpAny_pure ?_) | skip
  refine wpAny_bind (wpAny_sequenceKey ht.typeIs (by decide) ?_)
  refine wpAny_bind (wpAny_callSpecial?_slot (name := Str.ofString "__getitem__") ht.typeIs PyProof.Rows.slot_tuple_getitem (wpAny_call_entry PyProof.Rows.slot_tuple_getitem ht.typeIs entry_tuple_getitem ?_ (args_tuple_getitem _ _)))
  refine wpAny_bind (m := Builtin.Tuple.tupleItemsOf (.ref t)) (tupleItemsOf_ ht ?_)
  refine wpAny_bind (wpAny_typeOf ty ?_)
  rw [if_pos (by decide)]
  refine wpAny_bind (m := Builtin.Slice.sliceApplied (.ref sl) (pure (its.size : Int))) ?_
  unfold Builtin.Slice.sliceApplied Builtin.Slice.sliceFields
  refine wpAny_bind (wpAny_bind (wpAny_field eS dS (x := v1) rfl (wpAny_bind (wpAny_field eS dS (x := v2) rfl (wpAny_bind (wpAny_field eS dS (x := v3) rfl (wpAny_pure ?_)))))))
  refine wpAny_bind (HT.slicePart_ p3 ?_)
  show wpAny _ _ (if ((-1 : Int) == 0) = true then _ else _) _ _ s
  rw [if_neg (by decide)]
  refine wpAny_bind (HT.slicePart_ p1 (wpAny_bind (HT.slicePart_ p2 (wpAny_bind (wpAny_pure ?_)))))
  show wpAny _ _ (pure ((its.size : Int) - 1, (-1 : Int), Builtin.Slice.slicePlaces ((its.size : Int) - 1) (-1) (-1))) _ _ s
  rw [plc_back]
  refine wpAny_pure ?_
  have no : ¬ ((((its.size : Int) - 1) == 0 && (-1 : Int) == 1 && its.size == its.size) = true) := by
    intro z
    rw [Bool.and_eq_true, Bool.and_eq_true] at z
    exact absurd (eq_of_beq z.1.2) (by decide)
  show wpAny _ _ (if (((its.size : Int) - 1) == 0 && (-1 : Int) == 1 && its.size == its.size) = true then _ else _) _ _ s
  rw [if_neg no, pick_back]
  first
    | exact wpAny_bind (m := Builtin.Tuple.tupleExact _) (wpAny_newObj_type (wpAny_pure ⟨_, rfl, wpAny_pure h⟩) fits)
    | exact wpAny_bind (m := Builtin.Tuple.tupleExact _) (wpAny_newObj_type (wpAny_bind (wpAny_pure (wpAny_pure ⟨_, rfl, wpAny_pure h⟩))) fits)
    | exact wpAny_bind (wpAny_bind (m := Builtin.Tuple.tupleExact _) (wpAny_newObj_type (wpAny_pure (wpAny_pure ⟨_, rfl, wpAny_pure h⟩)) fits))
    | exact wpAny_bind (wpAny_bind (m := Builtin.Tuple.tupleExact _) (wpAny_newObj_type (wpAny_pure ⟨_, rfl, wpAny_pure h⟩) fits))
def rBack (K : PySem.W.Frag) : V → Hp → VK → Prop := fun x H Q => ∃ a xs, x = .ref a ∧ SqT K H a xs ∧ ∀ p, H p = none → Q (.ref p) (upd H p (.tup xs.reverse))
theorem pe_back {te : TE} {k : Nat} {p1 p2 p3 pos : Pos} (he : PE X e te) : PE X (.Subscript e (.Slice none none (some (.UnaryOp .USub (.Constant (.int 1) k p1) p2)) p3) pos) (tUn (rBack X.K) te) := by
  refine ⟨fun pins s σ H Q I h => ?_⟩
  refine Subscript_ (thn (he.run pins s σ H _ I h) fun v s1 ⟨x, H1, I1, r1, q1⟩ => ?_)
  obtain ⟨a, xs, ex, hx, q⟩ := q1
  subst ex
  cases r1
  have st : PO X (some (.UnaryOp .USub (.Constant (.int 1) k p1) p2)) (tPart (tUn (rU fun i => .int (-i)) (tC (.int 1)))) := po_some (pe_un un_neg pe_int)
  refine wpAny_Slice (thn (po_none.run pins s1 σ H1 (fun o H2 => o = none ∧ H2 = H1) I1 ⟨rfl, rfl⟩) fun w1 s2 ⟨o1, H2, I2, a1, b1, c1⟩ => ?_)
  subst b1 c1
  refine thn (po_none.run pins s2 σ H2 (fun o H3 => o = none ∧ H3 = H2) I2 ⟨rfl, rfl⟩) fun w2 s3 ⟨o2, H3, I3, a2, b2, c2⟩ => ?_
  subst b2 c2
  refine thn (st.run pins s3 σ H3 (fun o H4 => o = some (-1) ∧ H4 = H3) I3 ⟨1, rfl, -1, rfl, rfl, rfl⟩) fun w3 s4 ⟨o3, H4, I4, a3, b3, c3⟩ => ?_
  subst b3 c3
  have I5 : Inv X pins σ H4 { s4 with heap := s4.heap.push { cls := .type "slice", data := .fields #[w1, w2, w3] } } := I4.kept (t' := s4.toks) fun b ob z => Heap.get?_push_of_some _ z
  obtain ⟨its, rr, tp, hz⟩ := I5.tuple hx
  have hl := rr.length
  show wpAny (model X.prog X.w) X.A (subscriptTail e (.Slice none none (some (.UnaryOp .USub (.Constant (.int 1) k p1) p2)) p3) (.ref a) (.ref s4.heap.objs.size)) (EP X pins σ Q) X.xe { s4 with heap := s4.heap.push { cls := .type "slice", data := .fields #[w1, w2, w3] } }
  refine tail_any (ops := [.ref a, .ref s4.heap.objs.size]) tp.typeIs PyProof.Rows.slot_tuple_getitem.lookup ?_ (by with_unfolding_all rfl)
  refine item_back tp (Heap.IsSliceOf.new _ w1 w2 w3) a1 a2 a3 (by rw [List.size_toArray]; omega) ?_
  refine ⟨.ref _, _, I5.laid (t' := s4.toks) (o := .tup xs.reverse) (fun b ob z => Heap.get?_push_of_some _ z) (Nat.le_refl _) ?_, rfl, q _ (I5.hok.fresh (Nat.le_refl _))⟩
  exact ⟨by rw [List.length_reverse]; exact hz, its.reverse, rr.reverse, IsTup.new _ _⟩
def fBack (r : R) (st : Stor) : Out R := match r with
  | .dat (.tup ds) => .ok (.dat (.tup ds.reverse)) st
  | _ => .bad
theorem i_back {k : Nat} {p1 p2 p3 : Pos} (hK : G.K = X.K) (ha : PE X e (rd G W a)) : PE X (.Subscript e (.Slice none none (some (.UnaryOp .USub (.Constant (.int 1) k p1) p2)) p3) pos) (rd G W (eUn fBack a)) := (pe_back ha).imp fun σ H Q h => by
  refine rd_un (X := X) (r := rBack X.K) (fun B Z M env st σ H Q r v rs w p => ?_) h
  unfold fBack at p
  split at p
  · obtain ⟨q, us, ev, hq, hr⟩ := w
    exact ⟨q, us, ev, hK ▸ hq, fun z hz => ans_tup rs p hz hr.reverse⟩
  · exact p.elim
end
end PD
namespace PD
section
variable {α : Type} {P PR : R → Stor → Prop} {PB : Bool → Stor → Prop} {PL : List R → Stor → Prop} {PJ : List D × Env → Stor → Prop} {Q : Xc → Stor → Prop} {N : WS} {env : Env} {st : Stor} {as : AV} {ds es : List D} {j : Int}
/-! what a goal is -/
theorem g_S {o : SO} (h : wS o N) : wS o N := h
theorem g_R {o : Out R} (h : wE o PR Q) : wE o PR Q := h
theorem g_L {o : Out (List R)} (h : wE o PL Q) : wE o PL Q := h
theorem g_B {o : Out Bool} (h : wE o PB Q) : wE o PB Q := h
theorem g_E {o : Out α} {P : α → Stor → Prop} (h : wE o P Q) : wE o P Q := h
/-! reversed tuples, lists of ranges, zip -/
theorem r_back (x : PR (.dat (.tup ds.reverse)) st) : wE (fBack (.dat (.tup ds)) st) PR Q := x
theorem r_lstRg (h1 : -(2 ^ 62) ≤ j) (h2 : j ≤ 1000) (x : PR (.new (rngD 0 j.toNat)) st) : wE (fLstRg (.dat (.int j)) st) PR Q := by unfold fLstRg; dsimp only; rw [if_pos ⟨h1, h2⟩]; exact x
theorem r_jzip (x : wE (as env st) (fun rs st1 => ∃ ds es, rs = [.dat (.tup ds), .dat (.tup es)] ∧ PJ (zipD ds es, env) st1) Q) : wE (jZip as env st) PJ Q := by
  unfold jZip
  cases ea : as env st with
  | ok rs st1 =>
    rw [ea] at x
    obtain ⟨ds, es, rfl, x⟩ := x
    exact x
  | exc _ _ => rw [ea] at x; exact x
  | bad => rw [ea] at x; exact x
theorem k_zip {A : List D → List D → Prop} (x : A ds es) : ∃ ds' es', [R.dat (.tup ds), .dat (.tup es)] = [.dat (.tup ds'), .dat (.tup es')] ∧ A ds' es' := ⟨ds, es, rfl, x⟩
end
end PD

/-! PEa: tuples of tuples of ints as keys: their hash, ==, what they show. -/
namespace SX
open PySem PySem.Spec PyProof.Rows L2
section
variable {P : Program} {w : World} {A : Around} {E : Value → Shared → Prop} {s : Shared}
/-! ### one level -/
theorem qt1 {n : Nat} {k : List Int} {b : Addr} {Q : Bool → Shared → Prop} (hk : IsT P w s.heap k b) (q : Q true s) : wpAny (model P w) A (eqIsQuiet (n + 1) (.ref b)) Q E s := by
  have ty := hk.typeIs
  obtain ⟨o, its, m, ho, _, hd, hi⟩ := hk
  have ii := items_int hi
  unfold eqIsQuiet
  refine wpAny_bind (wpAny_specialOf ty F.slot_tuple_eq.lookup ?_)
  refine wpAny_bind (m := isInstance (.ref b) (.type "tuple")) (wpAny_isInstance ty isSubtype_tuple_tuple ?_)
  simp only [Bool.not_true, Bool.false_eq_true, if_false]
  refine wpAny_bind (wpAny_seqItems ho hd (wpAny_bind ?_))
  show wpAny _ _ (forIn its _ _) _ _ s
  rw [← Array.forIn_toList]
  refine wpAny_forIn_list _ (fun l r s1 => r.1 = none ∧ s1 = s ∧ ∀ v ∈ l, ∃ i t, v = Value.int i t) _ ?_ ?_ _ _ ⟨rfl, rfl, ii⟩
  · rintro v l r s1 ⟨hr, rfl, hl⟩
    obtain ⟨i, t, rfl⟩ := hl v List.mem_cons_self
    rw [eqIsQuiet_byValue _ rfl]
    refine wpAny_bind (wpAny_pure ?_)
    simp only [Bool.not_true, Bool.false_eq_true, if_false]
    exact wpAny_pure ⟨rfl, rfl, fun u hu => hl u (List.mem_cons_of_mem _ hu)⟩
  · rintro ⟨r1, r2⟩ s1 ⟨hr, rfl, _⟩
    simp only at hr
    subst hr
    exact wpAny_pure q
theorem oc1 {n : Nat} {k : List Int} {b : Addr} {Q : Bool → Shared → Prop} (hk : IsT P w s.heap k b) (q : Q false s) : wpAny (model P w) A (ofAClassStatement (n + 1) (.ref b)) Q E s := by
  have ty := hk.typeIs
  obtain ⟨o, its, m, ho, _, hd, hi⟩ := hk
  have ii := items_int hi
  unfold ofAClassStatement
  refine wpAny_bind (wpAny_typeOf ty ?_)
  dsimp only
  have et : (("tuple" : String) == "tuple") = true := by decide
  simp only [et, if_true, Bool.not_true, Bool.false_eq_true, if_false]
  try refine wpAny_bind (wpAny_pure ?_)
  try simp only [Bool.not_true, Bool.false_eq_true, if_false]
  refine wpAny_bind (m := seqItems? (.ref b)) (wpAny_seqItems ho hd ?_)
  dsimp only
  refine wpAny_bind ?_
  show wpAny _ _ (forIn its _ _) _ _ s
  rw [← Array.forIn_toList]
  refine wpAny_forIn_list _ (fun l r s1 => r.1 = none ∧ s1 = s ∧ ∀ v ∈ l, ∃ i t, v = Value.int i t) _ ?_ ?_ _ _ ⟨rfl, rfl, ii⟩
  · rintro v l r s1 ⟨hr, rfl, hl⟩
    obtain ⟨i, t, rfl⟩ := hl v List.mem_cons_self
    rw [ofAClass_int]
    refine wpAny_bind (wpAny_pure ?_)
    simp only [Bool.false_eq_true, if_false]
    exact wpAny_pure ⟨rfl, rfl, fun u hu => hl u (List.mem_cons_of_mem _ hu)⟩
  · rintro ⟨r1, r2⟩ s1 ⟨hr, rfl, _⟩
    simp only at hr
    subst hr
    exact wpAny_pure q
theorem hb1 {n : Nat} {k : List Int} {b : Addr} {Q : Bool → Shared → Prop} (hk : IsT P w s.heap k b) (q : Q true s) : wpAny (model P w) A (hashByValue (n + 1) (.ref b)) Q E s := by
  have ty := hk.typeIs
  obtain ⟨o, its, m, ho, _, hd, hi⟩ := hk
  have ii := items_int hi
  unfold hashByValue
  refine wpAny_bind (wpAny_specialOf ty F.slot_tuple_hash.lookup ?_)
  refine wpAny_bind (m := seqItems? (.ref b)) (wpAny_seqItems ho hd (wpAny_bind ?_))
  show wpAny _ _ (forIn its _ _) _ _ s
  rw [← Array.forIn_toList]
  refine wpAny_forIn_list _ (fun l r s1 => r.1 = none ∧ s1 = s ∧ ∀ v ∈ l, ∃ i t, v = Value.int i t) _ ?_ ?_ _ _ ⟨rfl, rfl, ii⟩
  · rintro v l r s1 ⟨hr, rfl, hl⟩
    obtain ⟨i, t, rfl⟩ := hl v List.mem_cons_self
    rw [hashBy_int]
    refine wpAny_bind (wpAny_pure ?_)
    simp only [Bool.not_true, Bool.false_eq_true, if_false]
    exact wpAny_pure ⟨rfl, rfl, fun u hu => hl u (List.mem_cons_of_mem _ hu)⟩
  · rintro ⟨r1, r2⟩ s1 ⟨hr, rfl, _⟩
    simp only at hr
    subst hr
    exact wpAny_pure q
end

/-! ### tuples of such -/
/-- a tuple, as it is laid -/
def TupO (o : PySem.Obj) : Prop := o.cls = .type "tuple" ∧ ∃ its n, o.data = .seq its n
inductive Rows2 (P : Program) (w : World) (h : Heap) : List (List Int) → List Value → Prop
  | nil : Rows2 P w h [] []
  | cons {k : List Int} {b : Addr} {ks : List (List Int)} {vs : List Value} : IsT P w h k b → Rows2 P w h ks vs → Rows2 P w h (k :: ks) (.ref b :: vs)
def IsT2 (P : Program) (w : World) (h : Heap) (ks : List (List Int)) (a : Addr) : Prop := ∃ o its n, h.get? a = some o ∧ o.cls = .type "tuple" ∧ o.data = .seq its n ∧ Rows2 P w h ks its.toList
section
variable {P : Program} {w : World} {A : Around} {E : Value → Shared → Prop} {s : Shared}
theorem Rows2.inj {h : Heap} : ∀ {x y : List (List Int)} {vs : List Value}, Rows2 P w h x vs → Rows2 P w h y vs → x = y
  | _, _, _, .nil, .nil => rfl
  | _, _, _, .cons a t, .cons b u => by rw [IsTupleKey.inj a b, t.inj u]
theorem Rows2.mono {h h' : Heap} (f : ∀ b o, h.get? b = some o → TupO o → h'.get? b = some o) : ∀ {x : List (List Int)} {vs : List Value}, Rows2 P w h x vs → Rows2 P w h' x vs
  | _, _, .nil => .nil
  | _, _, .cons ⟨o, its, n, ho, hc, hd, r⟩ t => .cons ⟨o, its, n, f _ o ho ⟨hc, its, n, hd⟩, hc, hd, r⟩ (t.mono f)
theorem Rows2.refs {h : Heap} : ∀ {x : List (List Int)} {vs : List Value}, Rows2 P w h x vs → ∀ v ∈ vs, ∃ k b, v = Value.ref b ∧ IsT P w h k b
  | _, _, .cons a t, v, hv => by
    rcases List.mem_cons.mp hv with rfl | hv
    · exact ⟨_, _, rfl, a⟩
    · exact t.refs v hv
theorem Rows2.length {h : Heap} : ∀ {x : List (List Int)} {vs : List Value}, Rows2 P w h x vs → x.length = vs.length
  | _, _, .nil => rfl
  | _, _, .cons _ t => by rw [List.length_cons, List.length_cons, t.length]
theorem IsT2.ty {ks : List (List Int)} {a : Addr} (x : IsT2 P w s.heap ks a) : s.TypeIs (.ref a) "tuple" := let ⟨o, _, _, ho, hc, _⟩ := x; ⟨o, ho, hc⟩
theorem IsT2.inj {h : Heap} {a : Addr} {x y : List (List Int)} (hx : IsT2 P w h x a) (hy : IsT2 P w h y a) : x = y := by
  obtain ⟨o, its, n, ho, _, hd, hi⟩ := hx
  obtain ⟨o2, its2, n2, ho2, _, hd2, hi2⟩ := hy
  rw [ho] at ho2
  cases ho2
  rw [hd] at hd2
  cases hd2
  exact hi.inj hi2
theorem IsT2.mono {h h' : Heap} {x : List (List Int)} {a : Addr} (hx : IsT2 P w h x a) (f : ∀ b o, h.get? b = some o → TupO o → h'.get? b = some o) : IsT2 P w h' x a := by
  obtain ⟨o, its, n, ho, hc, hd, hi⟩ := hx
  exact ⟨o, its, n, f _ o ho ⟨hc, its, n, hd⟩, hc, hd, hi.mono f⟩
def hash2 (P : Program) (w : World) (ks : List (List Int)) : Int := reduceHash (Builtin.Tuple.tupleHashOf (ks.map (thash P w)))
def draws2 (ks : List (List Int)) : Nat := (ks.map fun k => k.length + 1).sum
theorem hash2_w {ks : List (List Int)} {a : Addr} {Q : Int → Shared → Prop} (hu : A.units + 2 < cLine) (hk : IsT2 P w s.heap ks a) (q : Q (hash2 P w ks) { s with toks := s.toks + (draws2 ks + 1) }) : wpAny (model P w) A (pyHash (.ref a)) Q E s := by
  have ty := hk.ty
  obtain ⟨o, its, n, ho, _, hd, hi⟩ := hk
  unfold pyHash
  first | unfold pyHashByItsType | skip
  first | refine wpAny_bind (wpAny_cRoomFor_or (.inr (by omega)) ?_) | skip
  refine wpAny_bind (wpAny_specialOf ty F.slot_tuple_hash.lookup ?_)
  have neq : ¬ ((some (Value.builtin "tuple.__hash__") == some Value.none) = true) := by rw [beq_builtin_none]; exact Bool.false_ne_true
  show wpAny _ _ (if (some (Value.builtin "tuple.__hash__") == some Value.none) = true then _ else _) Q E s
  rw [if_neg neq]
  refine wpAny_bind (wpAny_specialOf ty F.slot_tuple_hash.lookup ?_)
  refine wpAny_bind (m := callSpecialIfBoundUnlessNone? (.ref a) "__hash__" _) (wpAny_callSpecialIfBoundUnlessNone?_slot ty F.slot_tuple_hash (wpAny_call_entry F.slot_tuple_hash ty F.entry_tuple_hash ?_ (F.args_tuple_hash_1 _)))
  refine wpAny_bind (m := Builtin.Tuple.tupleItemsOf (.ref a)) (wpAny_tupleItemsOf ho hd (wpAny_bind ?_))
  rw [← Array.forIn_toList]
  refine wpAny_forIn_list _ (fun l (b : Array Int) s1 => ∃ x y, ks = x ++ y ∧ Rows2 P w s.heap y l ∧ b.toList = x.map (thash P w) ∧ s1 = { s with toks := s.toks + draws2 x }) _ ?_ ?_ _ _ ⟨[], ks, rfl, hi, rfl, rfl⟩
  · rintro v l b s1 ⟨x, y, rfl, hl, hb, rfl⟩
    cases hl with
    | @cons k c y2 _ h1 hl =>
      have nx : ∃ x1 y1, x ++ k :: y2 = x1 ++ y1 ∧ Rows2 P w s.heap y1 l ∧ (b.push (thash P w k)).toList = x1.map (thash P w) ∧ ({ s with toks := s.toks + draws2 x + (k.length + 1) } : Shared) = { s with toks := s.toks + draws2 x1 } := by
        refine ⟨x ++ [k], y2, by simp, hl, by simp [hb], ?_⟩
        unfold draws2
        rw [List.map_append, List.sum_append]
        simp [Nat.add_assoc]
      refine wpAny_bind (wpAny_pyHash_tuple (s := { s with toks := s.toks + draws2 x }) (by show A.units + 1 < cLine; omega) h1 ?_)
      first
        | exact wpAny_pure nx
        | exact wpAny_bind (wpAny_pure (wpAny_pure nx))
  · rintro b s1 ⟨x, y, rfl, hl, hb, rfl⟩
    cases hl
    rw [List.append_nil] at q
    show wpAny _ _ (retInt (Builtin.Tuple.tupleHashOf b.toList)) _ _ _
    rw [hb]
    refine wpAny_ret_mkInt ?_
    unfold hash2 reduceHash at q
    by_cases c : (decide (-(2 : Int) ^ 63 ≤ Builtin.Tuple.tupleHashOf (x.map (thash P w))) && decide (Builtin.Tuple.tupleHashOf (x.map (thash P w)) < 2 ^ 63)) = true
    · rw [if_pos c] at q
      show wpAny _ _ (if (decide (-(2 : Int) ^ 63 ≤ Builtin.Tuple.tupleHashOf (x.map (thash P w))) && decide (Builtin.Tuple.tupleHashOf (x.map (thash P w)) < 2 ^ 63)) = true then _ else _) Q E _
      rw [if_pos c]
      exact wpAny_pure (by simpa [Nat.add_assoc] using q)
    · rw [if_neg c] at q
      show wpAny _ _ (if (decide (-(2 : Int) ^ 63 ≤ Builtin.Tuple.tupleHashOf (x.map (thash P w))) && decide (Builtin.Tuple.tupleHashOf (x.map (thash P w)) < 2 ^ 63)) = true then _ else _) Q E _
      rw [if_neg c]
      exact wpAny_bind (wpAny_rule (wpAny_pure (by simpa [Nat.add_assoc] using q)))
theorem eqT2 {x y : List (List Int)} {a b : Addr} {R : PySem.Fin → Shared → Prop} (hu : A.units + 2 < cLine) (hx : IsT2 P w s.heap x a) (hy : IsT2 P w s.heap y b) (q : R (.done (.ret (.bool (decide (x = y))))) s) : wpAny (model P w) A (Builtin.«tuple.__eq__» ⟨[.ref a, .ref b], []⟩) R E s := by
  have tyb := hy.ty
  obtain ⟨o1, xs, n1, g1, _, d1, i1⟩ := hx
  obtain ⟨o2, ys, n2, g2, _, d2, i2⟩ := hy
  refine wpAny_bind (m := isInstance (.ref b) (.type "tuple")) (wpAny_isInstance tyb isSubtype_tuple_tuple ?_)
  simp only [Bool.not_true, Bool.false_eq_true, if_false]
  refine wpAny_bind (wpAny_tupleItemsOf g1 d1 (wpAny_bind (wpAny_tupleItemsOf g2 d2 (wpAny_bind ?_))))
  refine wpAny_forIn_list _ (fun l r s1 => r.1 = none ∧ s1 = s ∧ ∃ u v us vs, l = List.zip us vs ∧ Rows2 P w s.heap u us ∧ Rows2 P w s.heap v vs ∧ decide (u = v) = decide (x = y) ∧ (us.length == vs.length) = (xs.size == ys.size)) _ ?_ ?_ _ _ ⟨rfl, rfl, x, y, xs.toList, ys.toList, rfl, i1, i2, rfl, by simp⟩
  · rintro ⟨c, d⟩ l r s1 ⟨hr, rfl, u, v, us, vs, hz, hu1, hv1, he, hn⟩
    cases hu1 with
    | nil => simp at hz
    | @cons k1 b1 u2 us2 h1 t1 =>
      cases hv1 with
      | nil => simp at hz
      | @cons k2 b2 v2 vs2 h2 t2 =>
        simp only [List.zip_cons_cons, List.cons.injEq, Prod.mk.injEq] at hz
        obtain ⟨⟨rfl, rfl⟩, rfl⟩ := hz
        refine wpAny_bind (wpAny_eqBool_tuple (by omega) h1 h2 ?_)
        by_cases c : k1 = k2
        · subst c
          rw [decide_eq_true rfl]
          simp only [Bool.not_true, Bool.false_eq_true, if_false]
          refine wpAny_pure ⟨rfl, rfl, u2, v2, us2, vs2, rfl, t1, t2, ?_, by simpa using hn⟩
          rw [← he]
          by_cases z : u2 = v2 <;> simp [z]
        · rw [decide_eq_false c]
          simp only [Bool.not_false, if_true]
          have hf : decide (x = y) = false := by rw [← he]; simp [c]
          rw [hf] at q
          exact wpAny_bind (wpAny_pure (wpAny_pure (wpAny_pure q)))
  · rintro ⟨r1, r2⟩ s1 ⟨hr, rfl, u, v, us, vs, hz, hu1, hv1, he, hn⟩
    simp only at hr
    subst hr
    have fin : (xs.size == ys.size) = decide (x = y) := by
      rw [← he, ← hn]
      cases hu1 with
      | nil => cases hv1 <;> simp
      | cons _ _ =>
        cases hv1 with
        | nil => simp
        | cons _ _ => simp at hz
    refine wpAny_pure ?_
    show R (.done (.ret (.bool (xs.size == ys.size)))) s1
    rw [fin]
    exact q
theorem eq2_w {x y : List (List Int)} {a b : Addr} {Q : Bool → Shared → Prop} (hu : A.units + 4 < cLine) (hx : IsT2 P w s.heap x a) (hy : IsT2 P w s.heap y b) (q : Q (decide (x = y)) s) : wpAny (model P w) A (eqBool (.ref a) (.ref b)) Q E s := by
  unfold eqBool
  try with_reducible refine wpAny_holding ?_
  show wpAny _ _ (if (Value.ref a == Value.ref b) = true then _ else _) Q E s
  by_cases c : (Value.ref a == Value.ref b) = true
  · have e : a = b := by have := eq_of_beq c; injection this
    subst e
    obtain rfl := hx.inj hy
    rw [if_pos c]
    exact wpAny_bind (wpAny_rule (wpAny_pure (by simpa using q)))
  · rw [if_neg c]
    exact wpAny_bind (wpAny_richCompare_same_room (op := .Eq) hx.ty hy.ty F.slot_tuple_eq (wpAny_call_entry F.slot_tuple_eq hx.ty F.entry_tuple_eq (eqT2 (by show A.units + 1 + 2 < cLine; omega) hx hy ⟨_, rfl, (fun e => nomatch e), wpAny_truthy_bool q⟩) (F.args_tuple_eq_2 _ _)) (by omega))
end
end SX

/-! PEb: two kinds of keys, tuples of ints and tuples of those; tables of any of eight sizes. -/
namespace SX
open PySem PySem.Spec PyProof.Rows L2
section
variable {P : Program} {w : World} {A : Around} {E : Value → Shared → Prop} {s : Shared}
theorem qt2 {ks : List (List Int)} {b : Addr} {Q : Bool → Shared → Prop} (hk : IsT2 P w s.heap ks b) (q : Q true s) : wpAny (model P w) A (eqIsQuiet 8 (.ref b)) Q E s := by
  have ty := hk.ty
  obtain ⟨o, its, m, ho, _, hd, hi⟩ := hk
  have ii := hi.refs
  unfold eqIsQuiet
  refine wpAny_bind (wpAny_specialOf ty F.slot_tuple_eq.lookup ?_)
  refine wpAny_bind (m := isInstance (.ref b) (.type "tuple")) (wpAny_isInstance ty isSubtype_tuple_tuple ?_)
  simp only [Bool.not_true, Bool.false_eq_true, if_false]
  refine wpAny_bind (wpAny_seqItems ho hd (wpAny_bind ?_))
  show wpAny _ _ (forIn its _ _) _ _ s
  rw [← Array.forIn_toList]
  refine wpAny_forIn_list _ (fun l r s1 => r.1 = none ∧ s1 = s ∧ ∀ v ∈ l, ∃ k c, v = Value.ref c ∧ IsT P w s.heap k c) _ ?_ ?_ _ _ ⟨rfl, rfl, ii⟩
  · rintro v l r s1 ⟨hr, rfl, hl⟩
    obtain ⟨k, c, rfl, hc⟩ := hl v List.mem_cons_self
    refine wpAny_bind (qt1 (n := 6) hc ?_)
    simp only [Bool.not_true, Bool.false_eq_true, if_false]
    exact wpAny_pure ⟨rfl, rfl, fun u hu => hl u (List.mem_cons_of_mem _ hu)⟩
  · rintro ⟨r1, r2⟩ s1 ⟨hr, rfl, _⟩
    simp only at hr
    subst hr
    exact wpAny_pure q
theorem oc2 {ks : List (List Int)} {b : Addr} {Q : Bool → Shared → Prop} (hk : IsT2 P w s.heap ks b) (q : Q false s) : wpAny (model P w) A (ofAClassStatement 8 (.ref b)) Q E s := by
  have ty := hk.ty
  obtain ⟨o, its, m, ho, _, hd, hi⟩ := hk
  have ii := hi.refs
  unfold ofAClassStatement
  refine wpAny_bind (wpAny_typeOf ty ?_)
  dsimp only
  have et : (("tuple" : String) == "tuple") = true := by decide
  simp only [et, if_true, Bool.not_true, Bool.false_eq_true, if_false]
  try refine wpAny_bind (wpAny_pure ?_)
  try simp only [Bool.not_true, Bool.false_eq_true, if_false]
  refine wpAny_bind (m := seqItems? (.ref b)) (wpAny_seqItems ho hd ?_)
  dsimp only
  refine wpAny_bind ?_
  show wpAny _ _ (forIn its _ _) _ _ s
  rw [← Array.forIn_toList]
  refine wpAny_forIn_list _ (fun l r s1 => r.1 = none ∧ s1 = s ∧ ∀ v ∈ l, ∃ k c, v = Value.ref c ∧ IsT P w s.heap k c) _ ?_ ?_ _ _ ⟨rfl, rfl, ii⟩
  · rintro v l r s1 ⟨hr, rfl, hl⟩
    obtain ⟨k, c, rfl, hc⟩ := hl v List.mem_cons_self
    refine wpAny_bind (oc1 (n := 6) hc ?_)
    simp only [Bool.false_eq_true, if_false]
    exact wpAny_pure ⟨rfl, rfl, fun u hu => hl u (List.mem_cons_of_mem _ hu)⟩
  · rintro ⟨r1, r2⟩ s1 ⟨hr, rfl, _⟩
    simp only at hr
    subst hr
    exact wpAny_pure q
theorem hb2 {ks : List (List Int)} {b : Addr} {Q : Bool → Shared → Prop} (hk : IsT2 P w s.heap ks b) (q : Q true s) : wpAny (model P w) A (hashByValue 8 (.ref b)) Q E s := by
  have ty := hk.ty
  obtain ⟨o, its, m, ho, _, hd, hi⟩ := hk
  have ii := hi.refs
  unfold hashByValue
  refine wpAny_bind (wpAny_specialOf ty F.slot_tuple_hash.lookup ?_)
  refine wpAny_bind (m := seqItems? (.ref b)) (wpAny_seqItems ho hd (wpAny_bind ?_))
  show wpAny _ _ (forIn its _ _) _ _ s
  rw [← Array.forIn_toList]
  refine wpAny_forIn_list _ (fun l r s1 => r.1 = none ∧ s1 = s ∧ ∀ v ∈ l, ∃ k c, v = Value.ref c ∧ IsT P w s.heap k c) _ ?_ ?_ _ _ ⟨rfl, rfl, ii⟩
  · rintro v l r s1 ⟨hr, rfl, hl⟩
    obtain ⟨k, c, rfl, hc⟩ := hl v List.mem_cons_self
    refine wpAny_bind (hb1 (n := 6) hc ?_)
    simp only [Bool.not_true, Bool.false_eq_true, if_false]
    exact wpAny_pure ⟨rfl, rfl, fun u hu => hl u (List.mem_cons_of_mem _ hu)⟩
  · rintro ⟨r1, r2⟩ s1 ⟨hr, rfl, _⟩
    simp only at hr
    subst hr
    exact wpAny_pure q
end
def K2 (P : Program) (w : World) : HeapKind P w (List (List Int)) where
  is := IsT2 P w
  hash := hash2 P w
  draws := fun ks => draws2 ks + 1
  room := fun A => A.units + 4 < cLine
  inj := fun hx hy => hx.inj hy
  keeps := fun {h h' k a d o es ep} x ho hd hs => x.mono fun b u e c => (hs.2 b (fun z => by
    subst z
    obtain ⟨_, its, n, d2⟩ := c
    rw [ho] at e
    cases e
    rw [hd] at d2
    exact nomatch d2)).trans e
  pyHash := fun hu hk q => hash2_w (by omega) hk q
  eqBool := fun hu hx hy q => eq2_w hu hx hy q
  quiet := fun hk q => qt2 hk q
/-- a kind of keys that a set may hold -/
structure SK (P : Program) (w : World) (K : Type) [DecidableEq K] where
  k : HeapKind P w K
  fr : ∀ {h h' : Heap} {x : K} {a : Addr}, k.is h x a → (∀ b o, h.get? b = some o → TupO o → h'.get? b = some o) → k.is h' x a
  oc : ∀ {A : Around} {E : Value → Shared → Prop} {s : Shared} {x : K} {a : Addr} {Q : Bool → Shared → Prop}, k.is s.heap x a → Q false s → wpAny (model P w) A (ofAClassStatement 8 (.ref a)) Q E s
  hb : ∀ {A : Around} {E : Value → Shared → Prop} {s : Shared} {x : K} {a : Addr} {Q : Bool → Shared → Prop}, k.is s.heap x a → Q true s → wpAny (model P w) A (hashByValue 8 (.ref a)) Q E s
  rm : ∀ {A : Around}, A.units + 4 < cLine → k.room A
def S1 (P : Program) (w : World) : SK P w (List Int) where
  k := tupleKind (intKind P w)
  fr := fun {h h' x a} ⟨o, its, n, ho, hc, hd, r⟩ f => ⟨o, its, n, f _ o ho ⟨hc, its, n, hd⟩, hc, hd, r⟩
  oc := fun hk q => oc1 (n := 7) hk q
  hb := fun hk q => hb1 (n := 7) hk q
  rm := fun {A} h => by show A.units < cLine; omega
def S2 (P : Program) (w : World) : SK P w (List (List Int)) where
  k := K2 P w
  fr := fun x f => IsT2.mono x f
  oc := fun hk q => oc2 hk q
  hb := fun hk q => hb2 hk q
  rm := fun h => h

/-! ### the sizes of tables -/
def SzOk (m : Nat) : Prop := ∃ n, 3 ≤ n ∧ n ≤ 11 ∧ m + 1 = 2 ^ n
theorem SzOk.le {m : Nat} (h : SzOk m) : m ≤ 2047 := by
  obtain ⟨n, h1, h2, h3⟩ := h
  have : 2 ^ n ≤ 2 ^ 11 := Nat.pow_le_pow_right (by decide) h2
  omega
theorem SzOk.odd {m : Nat} (h : SzOk m) : m % 2 = 1 := by
  obtain ⟨n, h1, h2, h3⟩ := h
  obtain ⟨k, rfl⟩ : ∃ k, n = k + 1 := ⟨n - 1, by omega⟩
  rw [Nat.pow_succ] at h3
  omega
/-- the places that i -> 5 i + 1 meets, as bits -/
def seenB (m : Nat) : Nat → Nat → Nat → Nat
  | 0, _, acc => acc
  | k + 1, i, acc => seenB m k ((i * 5 + 1) % (m + 1)) (acc ||| (1 <<< i))
theorem seen_spec (m j : Nat) : ∀ (k i acc : Nat), (seenB m k i acc).testBit j = true → acc.testBit j = true ∨ ∃ b, b < k ∧ lcgI m i b = j
  | 0, _, _, h => .inl h
  | k + 1, i, acc, h => by
    rcases seen_spec m j k _ _ h with h | ⟨b, hb, e⟩
    · rw [Nat.testBit_or, Bool.or_eq_true] at h
      rcases h with h | h
      · exact .inl h
      · refine .inr ⟨0, Nat.succ_pos _, ?_⟩
        rw [Nat.testBit_shiftLeft] at h
        simp only [ge_iff_le, Bool.and_eq_true, decide_eq_true_eq] at h
        obtain ⟨h1, h2⟩ := h
        show i = j
        by_cases z : j - i = 0
        · omega
        · rw [Nat.testBit_one_eq_true_iff_self_eq_zero] at h2
          omega
    · refine .inr ⟨b + 1, Nat.succ_lt_succ hb, ?_⟩
      rw [← e]
      clear e h hb
      induction b with
      | zero => rfl
      | succ b ih =>
        show (lcgI m i (b + 1) * 5 + 1) % (m + 1) = (lcgI m ((i * 5 + 1) % (m + 1)) b * 5 + 1) % (m + 1)
        rw [ih]
theorem seen_all : ∀ n, 3 ≤ n → n ≤ 11 → seenB (2 ^ n - 1) (2 ^ n) 0 0 = 2 ^ (2 ^ n) - 1 ∧ lcgI (2 ^ n - 1) 0 (2 ^ n) = 0 := by
  intro n h1 h2
  have : n = 3 ∨ n = 4 ∨ n = 5 ∨ n = 6 ∨ n = 7 ∨ n = 8 ∨ n = 9 ∨ n = 10 ∨ n = 11 := by omega
  rcases this with rfl | rfl | rfl | rfl | rfl | rfl | rfl | rfl | rfl <;> decide +kernel
end SX

/-! PEc: tables of eight to 2048 places: all that is put in is found again. -/
namespace SX
open PySem PySem.Spec PyProof.Rows L2
theorem lcgI_add (m i a : Nat) : ∀ k, lcgI m (lcgI m i a) k = lcgI m i (a + k)
  | 0 => rfl
  | k + 1 => by
    show (lcgI m (lcgI m i a) k * 5 + 1) % (m + 1) = (lcgI m i (a + k) * 5 + 1) % (m + 1)
    rw [lcgI_add m i a k]
theorem lcg0 {m : Nat} (hm : SzOk m) : lcgI m 0 (m + 1) = 0 ∧ ∀ j, j ≤ m → ∃ b, b < m + 1 ∧ lcgI m 0 b = j := by
  obtain ⟨n, h1, h2, h3⟩ := hm
  obtain ⟨s1, s2⟩ := seen_all n h1 h2
  rw [← h3, Nat.add_sub_cancel] at s1 s2
  refine ⟨s2, fun j hj => ?_⟩
  have t : (seenB m (m + 1) 0 0).testBit j = true := by
    rw [s1, Nat.testBit_two_pow_sub_one]
    exact decide_eq_true (by omega)
  rcases seen_spec m j (m + 1) 0 0 t with h | h
  · simp at h
  · exact h
theorem lcg_loop {m : Nat} (hm : SzOk m) : ∀ k, lcgI m 0 (m + 1 + k) = lcgI m 0 k
  | 0 => (lcg0 hm).1
  | k + 1 => by
    show (lcgI m 0 (m + 1 + k) * 5 + 1) % (m + 1) = (lcgI m 0 k * 5 + 1) % (m + 1)
    rw [lcg_loop hm k]
theorem lcg_from {m i j : Nat} (hm : SzOk m) (hi : i ≤ m) (hj : j ≤ m) : ∃ k, k ≤ m ∧ lcgI m i k = j := by
  obtain ⟨a, ha, rfl⟩ := (lcg0 hm).2 i hi
  obtain ⟨b, hb, rfl⟩ := (lcg0 hm).2 j hj
  by_cases c : a ≤ b
  · refine ⟨b - a, by omega, ?_⟩
    rw [lcgI_add, show a + (b - a) = b by omega]
  · refine ⟨b + (m + 1) - a, by omega, ?_⟩
    rw [lcgI_add, show a + (b + (m + 1) - a) = m + 1 + b by omega, lcg_loop hm]
/-- within the search's turns each place begins a run -/
theorem run_at {m j : Nat} (hm : SzOk m) (h : Int) (hj : j ≤ m) : ∃ n, n ≤ m + 12 ∧ runI m (SetTable.bits h) n = j := by
  obtain ⟨k, hk, e⟩ := lcg_from hm (runI_le m (SetTable.bits h) 12) hj
  refine ⟨12 + k, by omega, ?_⟩
  rw [runI_tail (bits_lt h)]
  exact e
theorem way_at {m j : Nat} (hm : SzOk m) (h : Int) (hj : j ≤ m) : ∃ k, k < 10 * SetTable.turns m ∧ way m h k = j := by
  obtain ⟨n, hn, e⟩ := run_at hm h hj
  obtain ⟨k, hk, e2⟩ := run_nth m (SetTable.bits h) n
  refine ⟨k, by unfold SetTable.turns; omega, ?_⟩
  show (nth m (runAt m (SetTable.bits h % (m + 1)) (SetTable.bits h)) k).j = j
  rw [e2]
  exact e
theorem way_in (m : Nat) (h : Int) (k : Nat) : way m h k ≤ m := by
  have b0 : SetTable.bits h % (m + 1) ≤ m := Nat.le_of_lt_succ (Nat.mod_lt _ (Nat.succ_pos _))
  have b1 := runEnd_bd b0
  have b2 := nth_in (m := m) k (runAt m (SetTable.bits h % (m + 1)) (SetTable.bits h)) (show SetTable.bits h % (m + 1) + (SetTable.runEnd m (SetTable.bits h % (m + 1)) - SetTable.bits h % (m + 1)) ≤ m by omega)
  exact Nat.le_trans (Nat.le_add_right _ _) b2
/-- a table in which the hashes hs stand, each to be found from its hash -/
structure Tab (t : SetTable) (hs : List Int) : Prop where
  up : Ris t.place.toList
  no : t.dummies = #[]
  sz : t.place.size = hs.length
  ok : SzOk t.mask
  bd : ∀ x ∈ t.place.toList, x ≤ t.mask
  go : ∀ (i : Nat) (h : Int) (j : Nat), hs[i]? = some h → t.place.toList[i]? = some j → ∃ k, way t.mask h k = j ∧ ∀ c, c < k → way t.mask h c ∈ t.place.toList
theorem Tab.free {t : SetTable} {hs : List Int} (T : Tab t hs) (hl : hs.length ≤ t.mask) (h : Int) : ∃ K, K < 10 * SetTable.turns t.mask ∧ way t.mask h K ∉ t.place.toList ∧ ∀ c, c < K → way t.mask h c ∈ t.place.toList := by
  obtain ⟨j, hj, nj⟩ := st_missing t.place.toList (t.mask + 1) (by rw [Array.length_toList, T.sz]; omega)
  obtain ⟨k, hk, rfl⟩ := way_at T.ok h (Nat.le_of_lt_succ hj)
  obtain ⟨K, a, b, c⟩ := st_least (p := fun k => way t.mask h k ∉ t.place.toList) k nj
  exact ⟨K, Nat.lt_of_le_of_lt a hk, b, fun d hd => Classical.not_not.mp (c d hd)⟩
theorem Tab.ahead {t : SetTable} {hs : List Int} (T : Tab t hs) {h : Int} {K i j : Nat} (nK : way t.mask h K ∉ t.place.toList) (hi : hs[i]? = some h) (hj : t.place.toList[i]? = some j) : ∃ k, k < K ∧ way t.mask h k = j := by
  obtain ⟨k, rfl, q⟩ := T.go i h j hi hj
  refine ⟨k, Nat.lt_of_not_le fun z => ?_, rfl⟩
  rcases Nat.eq_or_lt_of_le z with z | z
  · rw [z] at nK
    exact nK (List.mem_of_getElem? hj)
  · exact nK (q K z)
theorem Tab.add {t : SetTable} {hs : List Int} (T : Tab t hs) {h : Int} {K : Nat} (nK : way t.mask h K ∉ t.place.toList) (hb : ∀ c, c < K → way t.mask h c ∈ t.place.toList) :
    SetTable.below t.place (way t.mask h K) ≤ hs.length ∧ Tab (t.put (way t.mask h K)).1 (hs.take (SetTable.below t.place (way t.mask h K)) ++ h :: hs.drop (SetTable.below t.place (way t.mask h K))) ∧ (t.put (way t.mask h K)).1.fill = hs.length + 1 := by
  have jm := way_in t.mask h K
  generalize hjw : way t.mask h K = j at nK jm
  obtain ⟨c1, _, _⟩ := below_cut T.up j
  have l1 : SetTable.below t.place j ≤ t.place.toList.length := by rw [Array.length_toList]; exact c1
  have l2 : SetTable.below t.place j ≤ hs.length := by rw [← T.sz]; exact c1
  have l3 : t.place.toList.length = hs.length := by rw [Array.length_toList]; exact T.sz
  have pl := put_place t j
  have sz : (t.put j).1.place.size = hs.length + 1 := by rw [← Array.length_toList, pl, len_ins _ l1, l3]
  have old : ∀ {x : Nat}, x ∈ t.place.toList → x ∈ (t.put j).1.place.toList := fun {x} hx => by rw [pl]; exact mem_ins.2 (.inr hx)
  refine ⟨l2, ⟨ris_insert T.up fun e => nK (List.mem_of_getElem? (by rw [Array.getElem?_toList]; exact e)), put_dm T.no j, by rw [len_ins _ l2]; exact sz, T.ok, fun x hx => ?_, fun i g y h1 h2 => ?_⟩, ?_⟩
  · rw [pl] at hx
    rcases mem_ins.1 hx with rfl | z
    · exact jm
    · exact T.bd x z
  · rw [tins_get hs l2] at h1
    rw [pl, tins_get _ l1] at h2
    show ∃ k, way t.mask g k = y ∧ ∀ c, c < k → way t.mask g c ∈ (t.put j).1.place.toList
    by_cases a : i < SetTable.below t.place j
    · rw [if_pos a] at h1 h2
      obtain ⟨k, e, z⟩ := T.go i g y h1 h2
      exact ⟨k, e, fun c hc => old (z c hc)⟩
    · rw [if_neg a] at h1 h2
      by_cases b : i = SetTable.below t.place j
      · rw [if_pos b] at h1 h2
        cases h1
        cases h2
        exact ⟨K, hjw, fun c hc => old (hb c hc)⟩
      · rw [if_neg b] at h1 h2
        obtain ⟨k, e, z⟩ := T.go (i - 1) g y h1 h2
        exact ⟨k, e, fun c hc => old (z c hc)⟩
  · show (t.put j).1.place.size + (t.put j).1.dummies.size = hs.length + 1
    rw [sz, put_dm T.no j]
    rfl
/-! ### laid anew -/
theorem find_free {m j : Nat} (hm : SzOk m) (ow : Array (Option Nat)) (h : Int) (hj : j ≤ m) (hf : oAt ow j = none) :
    ∃ K, SetTable.layClean.free m ow (SetTable.turns m) (SetTable.bits h % (m + 1)) (SetTable.bits h) = some (way m h K) ∧ oAt ow (way m h K) = none ∧ ∀ c, c < K → oAt ow (way m h c) ≠ none := by
  obtain ⟨n, hn, e⟩ := run_at hm h hj
  have w : way m h (off m (SetTable.bits h % (m + 1)) (SetTable.bits h) n) = j := by
    show (nth m (runAt m (SetTable.bits h % (m + 1)) (SetTable.bits h)) (off m (SetTable.bits h % (m + 1)) (SetTable.bits h) n)).j = j
    rw [nth_off, itL_run]
    exact e
  obtain ⟨K, a, b, c⟩ := st_least (p := fun k => oAt ow (way m h k) = none) (off m (SetTable.bits h % (m + 1)) (SetTable.bits h) n) (by show oAt ow (way m h _) = none; rw [w]; exact hf)
  refine ⟨K, free_spec m ow (SetTable.turns m) n _ _ K (by unfold SetTable.turns; omega) a (fun k hk => ?_) ?_, b, c⟩
  · have q := c k hk
    cases z : oAt ow (nth m (runAt m (SetTable.bits h % (m + 1)) (SetTable.bits h)) k).j with
    | none => exact absurd z q
    | some _ => rfl
  · have q : oAt ow (nth m (runAt m (SetTable.bits h % (m + 1)) (SetTable.bits h)) K).j = none := b
    rw [q]
    rfl
theorem own_step {m : Nat} (hm : SzOk m) {done : List Int} {ow : Array (Option Nat)} (W : Own m done ow) (hl : done.length ≤ m) (h : Int) :
    ∃ j, SetTable.layClean.free m ow (SetTable.turns m) (SetTable.bits h % (m + 1)) (SetTable.bits h) = some j ∧ Own m (done ++ [h]) (ow.setIfInBounds j (some done.length)) := by
  obtain ⟨ps, p1, p2⟩ := W.ps
  obtain ⟨y, hy, ny⟩ := st_missing ps (m + 1) (by omega)
  have fy : oAt ow y = none := by
    cases z : oAt ow y with
    | none => rfl
    | some k => exact absurd (p2 y (Nat.le_of_lt_succ hy) (by rw [z]; exact fun e => nomatch e)) ny
  obtain ⟨K, a, b, c⟩ := find_free hm ow h (Nat.le_of_lt_succ hy) fy
  have jm := way_in m h K
  have js : way m h K < ow.size := by rw [W.sz]; exact Nat.lt_succ_of_le jm
  have here := oAt_set_self (some done.length) js
  have keep : ∀ {i : Nat}, oAt ow i ≠ none → oAt (ow.setIfInBounds (way m h K) (some done.length)) i ≠ none := fun {i} hi => by
    by_cases z : i = way m h K
    · rw [z, here]
      exact fun e => nomatch e
    · rw [oAt_set_ne _ z]
      exact hi
  refine ⟨way m h K, a, ⟨by rw [Array.size_setIfInBounds]; exact W.sz, fun j k hj e => ?_, fun k hk => ?_, way m h K :: ps, by rw [List.length_cons, List.length_append, p1]; rfl, fun j hj e => ?_⟩⟩
  · by_cases z : j = way m h K
    · rw [z, here] at e
      cases e
      exact ⟨h, K, by rw [List.getElem?_append_right (Nat.le_refl _), Nat.sub_self]; rfl, z.symm, fun d hd => keep (c d hd)⟩
    · rw [oAt_set_ne _ z] at e
      obtain ⟨h', K', a1, a2, a3⟩ := W.at_ j k hj e
      exact ⟨h', K', by rw [List.getElem?_append_left (List.getElem?_eq_some_iff.mp a1).1]; exact a1, a2, fun d hd => keep (a3 d hd)⟩
  · rw [List.length_append, List.length_singleton] at hk
    by_cases z : k < done.length
    · obtain ⟨j, hj, e⟩ := W.all k z
      exact ⟨j, hj, by rw [oAt_set_ne _ (fun z => by rw [z, b] at e; cases e)]; exact e⟩
    · exact ⟨way m h K, jm, by rw [here]; congr 1; omega⟩
  · by_cases z : j = way m h K
    · rw [z]; exact List.mem_cons_self
    · rw [oAt_set_ne _ z] at e
      exact List.mem_cons_of_mem _ (p2 j hj e)
theorem own_all {m : Nat} (hm : SzOk m) : ∀ (rest done : List Int) (ow : Array (Option Nat)), Own m done ow → done.length + rest.length ≤ m →
    ∃ ow', rest.foldl (stepF m) (some (ow, done.length)) = some (ow', (done ++ rest).length) ∧ Own m (done ++ rest) ow'
  | [], done, ow, W, _ => ⟨ow, by rw [List.append_nil]; rfl, by rw [List.append_nil]; exact W⟩
  | h :: rest, done, ow, W, hl => by
    rw [List.length_cons] at hl
    obtain ⟨j, e, W1⟩ := own_step hm W (by omega) h
    have l1 : (done ++ [h]).length = done.length + 1 := by rw [List.length_append]; rfl
    obtain ⟨ow', f, W2⟩ := own_all hm rest (done ++ [h]) _ W1 (by omega)
    rw [show done ++ [h] ++ rest = done ++ h :: rest by rw [List.append_assoc]; rfl] at f W2
    rw [l1] at f
    exact ⟨ow', by rw [List.foldl_cons, stepF_some e]; exact f, W2⟩
theorem anew (t : SetTable) {hs : Array Int} {wanted M : Nat} (hw : SetTable.sizeAbove wanted - 1 = M) (hM : SzOk M) (hn : hs.size ≤ M) :
    ∃ t' order, t.relaid hs wanted = some (t', order) ∧ order.toList.Perm (List.range hs.size) ∧ Tab t' (order.toList.map fun i => hs.getD i 0) ∧ t'.mask = M ∧ t'.led = t.led ∧ t'.plain = t.plain := by
  obtain ⟨ow, f, W⟩ := own_all hM hs.toList [] _ (Own.init M) (by rw [Array.length_toList]; show 0 + hs.size ≤ M; omega)
  rw [List.nil_append] at W
  have lay : SetTable.layClean M hs = some ow := by
    have f' : hs.toList.foldl (stepF M) (some (Array.replicate (M + 1) none, 0)) = some (ow, ([] ++ hs.toList).length) := f
    rw [layClean_eq, f']
    rfl
  have re : t.relaid hs wanted = some (tabOf t M ow, ((liveOf M ow).map (·.2)).toArray) := by
    rw [relaid_eq, hw, lay]
    rfl
  have rl := ris_live (fun j => ow.getD j none) (List.range (M + 1)) (by
    unfold Ris
    first | exact List.pairwise_lt_range | exact List.pairwise_lt_range _)
  have u1 : Ris ((liveOf M ow).map (·.1)) := rl.1
  have u2 : ∀ x ∈ (liveOf M ow).map (·.1), x ∈ List.range (M + 1) := rl.2
  have len : (liveOf M ow).length = hs.size := by
    obtain ⟨ps, p1, p2⟩ := W.ps
    have nd : ((liveOf M ow).map (·.1)).Nodup := List.Pairwise.imp (fun h => Nat.ne_of_lt h) u1
    have a := nat_nodup_len ((liveOf M ow).map (·.1)) ps nd fun x hx => by
      obtain ⟨⟨y, k⟩, hq, rfl⟩ := List.mem_map.mp hx
      obtain ⟨b1, b2⟩ := (mem_live W.sz).1 hq
      exact p2 y b1 (by rw [b2]; exact fun z => nomatch z)
    have b := nat_nodup_len (List.range hs.size) ((liveOf M ow).map (·.2)) List.nodup_range fun k hk => by
      obtain ⟨j, b1, b2⟩ := W.all k (by rw [Array.length_toList]; exact List.mem_range.mp hk)
      exact List.mem_map.mpr ⟨(j, k), (mem_live W.sz).2 ⟨b1, b2⟩, rfl⟩
    rw [List.length_map, p1] at a
    rw [List.length_map, List.length_range] at b
    have z : hs.toList.length = hs.size := rfl
    omega
  refine ⟨tabOf t M ow, ((liveOf M ow).map (·.2)).toArray, re, perm_range hs.size _ ?_ (fun k hk => ?_), ⟨u1, rfl, ?_, hM, fun x hx => ?_, fun i h j h1 h2 => ?_⟩, rfl, rfl, rfl⟩
  · show ((liveOf M ow).map (·.2)).length = hs.size
    rw [List.length_map]
    exact len
  · obtain ⟨j, b1, b2⟩ := W.all k (by rw [Array.length_toList]; exact hk)
    exact List.mem_map.mpr ⟨(j, k), (mem_live W.sz).2 ⟨b1, b2⟩, rfl⟩
  · show ((liveOf M ow).map (·.1)).toArray.size = (((liveOf M ow).map (·.2)).map fun i => hs.getD i 0).length
    rw [List.size_toArray, List.length_map, List.length_map, List.length_map]
  · exact Nat.le_of_lt_succ (List.mem_range.mp (u2 x hx))
  · have g1 : (((liveOf M ow).map (·.2)).map fun i => hs.getD i 0)[i]? = some h := h1
    have g2 : ((liveOf M ow).map (·.1))[i]? = some j := h2
    rw [List.getElem?_map, List.getElem?_map] at g1
    rw [List.getElem?_map] at g2
    cases hq : (liveOf M ow)[i]? with
    | none => rw [hq] at g2; cases g2
    | some q =>
      obtain ⟨y, k⟩ := q
      rw [hq] at g1 g2
      have e1 : y = j := Option.some.inj g2
      have e2 : hs.getD k 0 = h := Option.some.inj g1
      subst e1
      obtain ⟨b1, b2⟩ := (mem_live W.sz).1 (List.mem_of_getElem? hq)
      obtain ⟨h0, K, a1, a2, a3⟩ := W.at_ y k b1 b2
      have e3 : hs.getD k 0 = h0 := by
        rw [Array.getD_eq_getD_getElem?, ← Array.getElem?_toList, a1]
        rfl
      have e4 : h0 = h := e3.symm.trans e2
      subst e4
      refine ⟨K, a2, fun c hc => ?_⟩
      show way M h0 c ∈ (liveOf M ow).map (·.1)
      cases z : oAt ow (way M h0 c) with
      | none => exact absurd z (a3 c hc)
      | some k2 => exact List.mem_map.mpr ⟨(way M h0 c, k2), (mem_live W.sz).2 ⟨way_in M h0 c, z⟩, rfl⟩
/-- the sizes that are taken -/
theorem grow_sz {m n : Nat} (hm : SzOk m) (h1 : n * 5 < m * 3) (h2 : m * 3 ≤ (n + 1) * 5) (hn : n < 600) : ∃ M, SetTable.sizeAbove (SetTable.grown (n + 1)) - 1 = M ∧ SzOk M ∧ (n + 1) * 5 < M * 3 ∧ SetTable.sizeAbove (SetTable.grown (n + 1)) ≤ 2048 := by
  obtain ⟨k, k1, k2, k3⟩ := hm
  have go : ∀ N, n = N → (∃ k, 3 ≤ k ∧ k ≤ 11 ∧ SetTable.sizeAbove (SetTable.grown (N + 1)) = 2 ^ k ∧ (N + 1) * 5 < (2 ^ k - 1) * 3) → ∃ M, SetTable.sizeAbove (SetTable.grown (n + 1)) - 1 = M ∧ SzOk M ∧ (n + 1) * 5 < M * 3 ∧ SetTable.sizeAbove (SetTable.grown (n + 1)) ≤ 2048 := by
    rintro N rfl ⟨k, a, b, c, d⟩
    have : 1 ≤ 2 ^ k := Nat.one_le_two_pow
    have p11 : 2 ^ k ≤ 2 ^ 11 := Nat.pow_le_pow_right (by decide) b
    exact ⟨2 ^ k - 1, by rw [c], ⟨k, a, b, by omega⟩, d, by rw [c]; exact p11⟩
  have : k = 3 ∨ k = 4 ∨ k = 5 ∨ k = 6 ∨ k = 7 ∨ k = 8 ∨ k = 9 ∨ k = 10 ∨ k = 11 := by omega
  rcases this with rfl | rfl | rfl | rfl | rfl | rfl | rfl | rfl | rfl
  · have e : n = 4 := by omega
    exact go 4 e ⟨5, by decide, by decide, by decide +kernel, by decide⟩
  · have e : n = 8 := by omega
    exact go 8 e ⟨6, by decide, by decide, by decide +kernel, by decide⟩
  · have e : n = 18 := by omega
    exact go 18 e ⟨7, by decide, by decide, by decide +kernel, by decide⟩
  · have e : n = 37 := by omega
    exact go 37 e ⟨8, by decide, by decide, by decide +kernel, by decide⟩
  · have e : n = 76 := by omega
    exact go 76 e ⟨9, by decide, by decide, by decide +kernel, by decide⟩
  · have e : n = 152 := by omega
    exact go 152 e ⟨10, by decide, by decide, by decide +kernel, by decide⟩
  · have e : n = 306 := by omega
    exact go 306 e ⟨11, by decide, by decide, by decide +kernel, by decide⟩
  · exfalso; omega
  · exfalso; omega
end SX

/-! PEd: sets of such keys: searched, added to, made of a tuple or a list. -/
namespace SX
open PySem PySem.Spec PyProof.Rows L2
section
variable {P : Program} {w : World} {A : Around} {E : Value → Shared → Prop} {s : Shared} {K : Type} [DecidableEq K]
def rowsK (S : SK P w K) (L : List (Addr × K)) : List (Int × Value) := L.map fun p => (S.k.hash p.2, Value.ref p.1)
structure SetK (S : SK P w K) (h : Heap) (a : Addr) (L : List (Addr × K)) (es : Array (Int × Value)) (ep : Nat) (t : SetTable) : Prop where
  ob : ∃ o, h.get? a = some o ∧ o.ExactSet ∧ o.data = .set es ep t
  rows : es.toList = rowsK S L
  tab : Tab t (L.map fun p => S.k.hash p.2)
  nd : (L.map (·.2)).Nodup
  key : ∀ p ∈ L, S.k.is h p.2 p.1
  plain : t.plain = true
  led : w.params.followText "set-order" = true ∨ t.led = true
  room : L.length * 5 < t.mask * 3
  few : L.length < 600
variable {S : SK P w K} {a : Addr} {L : List (Addr × K)} {es : Array (Int × Value)} {ep : Nat} {t : SetTable}
theorem SetK.size (R : SetK S s.heap a L es ep t) : es.size = L.length := by
  have e := congrArg List.length R.rows
  unfold rowsK at e
  rwa [Array.length_toList, List.length_map] at e
theorem SetK.fits (R : SetK S s.heap a L es ep t) : t.fits es.size = true := by
  have e1 := R.tab.sz
  rw [List.length_map] at e1
  have e2 := R.size
  have e3 := R.room
  unfold SetTable.fits SetTable.fill
  rw [R.tab.no, Bool.and_eq_true, beq_iff_eq, decide_eq_true_eq]
  show t.place.size = es.size ∧ t.place.size + 0 ≤ t.mask
  omega
theorem SetK.at (R : SetK S s.heap a L es ep t) {i : Nat} {p : Addr × K} (h : L[i]? = some p) : es[i]? = some (S.k.hash p.2, Value.ref p.1) := by
  rw [← Array.getElem?_toList, R.rows]
  unfold rowsK
  rw [List.getElem?_map, h]
  rfl
theorem SetK.kept (R : SetK S s.heap a L es ep t) : ¬ t.gaveWay = true := by
  unfold SetTable.gaveWay
  rw [R.tab.ok.odd]
  decide
/-- among such keys a search shows nothing -/
theorem quiet_all {x : K} {b : Addr} {Q : Bool → Shared → Prop} (hx : S.k.is s.heap x b) {ys : List Value} (hy : ∀ y ∈ ys, ∃ k c, y = Value.ref c ∧ S.k.is s.heap k c) (q : Q false s) : wpAny (model P w) A (searchCouldBeSeen (.ref b) ys) Q E s := by
  unfold searchCouldBeSeen
  refine wpAny_bind ?_
  refine wpAny_forIn_list _ (fun l r s1 => r.1 = none ∧ s1 = s ∧ ∀ y ∈ l, ∃ k c, y = Value.ref c ∧ S.k.is s.heap k c) _ ?_ ?_ _ _ ⟨rfl, rfl, hy⟩
  · rintro v l r s1 ⟨hr, rfl, hl⟩
    obtain ⟨k, c, rfl, hc⟩ := hl v List.mem_cons_self
    have more : ∀ y ∈ l, ∃ k c, y = Value.ref c ∧ S.k.is s1.heap k c := fun u hu => hl u (List.mem_cons_of_mem _ hu)
    dsimp only
    by_cases z : (b == c || (carriedByValue (.ref b) && carriedByValue (.ref c))) = true
    · exact wp_if_pos z (wpAny_pure ⟨rfl, rfl, more⟩)
    · refine wp_if_neg z (wpAny_bind (S.k.quiet hx ?_))
      simp only [Bool.not_true, Bool.false_eq_true, if_false]
      refine wpAny_bind (S.k.quiet hc ?_)
      simp only [Bool.not_true, Bool.false_eq_true, if_false]
      refine wpAny_bind (S.oc hx ?_)
      simp only [Bool.false_eq_true, if_false]
      refine wpAny_bind (S.oc hc ?_)
      simp only [Bool.false_eq_true, if_false]
      exact wpAny_pure ⟨rfl, rfl, more⟩
  · rintro ⟨r1, r2⟩ s1 ⟨hr, rfl, _⟩
    simp only at hr
    subst hr
    exact wpAny_pure q
theorem nth_dummy (m : Nat) : ∀ (n : Nat) (p : SetTable.Probe), p.dummy = none → (nth m p n).dummy = none
  | 0, _, h => h
  | n + 1, p, h => nth_dummy m n (adv m p) (by
    unfold adv
    split <;> exact h)
/-- the search from the c-th step on -/
theorem look_from (R : SetK S s.heap a L es ep t) {x : Addr} {k : K} (hx : S.k.is s.heap k x) (hu : A.units + 4 < cLine) {N : Nat} (nf : N < 10 * SetTable.turns t.mask)
    (nN : way t.mask (S.k.hash k) N ∉ t.place.toList) (bN : ∀ c, c < N → way t.mask (S.k.hash k) c ∈ t.place.toList) {Q : SetFound → Shared → Prop}
    (yes : k ∈ L.map (·.2) → Q (.there none) s) (no : k ∉ L.map (·.2) → Q (.free (way t.mask (S.k.hash k) N) false) s) :
    ∀ (f c : Nat) (st : Option SetTable.Probe), st.getD (t.probeStart (S.k.hash k)) = nth t.mask (runAt t.mask (SetTable.bits (S.k.hash k) % (t.mask + 1)) (SetTable.bits (S.k.hash k))) c → c ≤ N → N - c < f →
      (∀ (i : Nat) p, L[i]? = some p → p.2 = k → ∃ d, c ≤ d ∧ d < N ∧ t.place.toList[i]? = some (way t.mask (S.k.hash k) d)) →
      wpAny (model P w) A (setSearchFrom a (.ref x) (S.k.hash k) true f st) Q E s := by
  intro f
  induction f with
  | zero => exact fun c st _ _ z => absurd z (Nat.not_lt_zero _)
  | succ f ih =>
    intro c st hst hc hf hre
    obtain ⟨o, ho, hex, hd⟩ := R.ob
    rw [setSearchFrom_succ]
    refine wpAny_bind (wpAny_setState_of ho hd R.fits ?_)
    dsimp only
    refine wp_if_neg R.kept ?_
    try refine wpAny_bind (wpAny_pure ?_)
    generalize hB : runAt t.mask (SetTable.bits (S.k.hash k) % (t.mask + 1)) (SetTable.bits (S.k.hash k)) = B at hst ih
    have dm : (nth t.mask B c).dummy = none := nth_dummy _ c _ (by rw [← hB]; rfl)
    have sh : ∀ q, nth t.mask (nth t.mask B c) q = nth t.mask B (c + q) := fun q => (nth_add t.mask c _ q).symm
    have wy : ∀ q, (nth t.mask (nth t.mask B c) q).j = way t.mask (S.k.hash k) (c + q) := fun q => by rw [sh, ← hB]
    have spec := go_spec t R.tab.up R.tab.no (fun i => (es[i]?.map (·.1)).getD 0) (S.k.hash k) (10 * SetTable.turns t.mask) (N - c) _ dm (by omega) (fun q hq => by rw [wy]; exact bN (c + q) (by omega)) (by rw [wy, show c + (N - c) = N by omega]; exact nN)
    have hat : ∀ (i : Nat) p, L[i]? = some p → (fun i => (es[i]?.map (·.1)).getD 0) i = S.k.hash p.2 := fun i p hp => by
      show (es[i]?.map (·.1)).getD 0 = _
      rw [R.at hp]
      rfl
    rcases spec with ⟨q, i, hq, hi, hh, hno, hpr⟩ | ⟨hno, hpr⟩
    · have pr : t.probe (fun i => (es[i]?.map (·.1)).getD 0) (S.k.hash k) (st.getD (t.probeStart (S.k.hash k))) = some (.candidate (way t.mask (S.k.hash k) (c + q)) i (nth t.mask B (c + (q + 1)))) := by
        rw [hst, ← wy, ← sh]
        exact hpr
      rw [pr]
      dsimp only
      rw [wy] at hi
      have il : i < L.length := by
        have z1 : i < t.place.toList.length := (List.getElem?_eq_some_iff.mp hi).1
        have z2 := R.tab.sz
        rw [List.length_map] at z2
        rw [Array.length_toList] at z1
        omega
      have hp : L[i]? = some L[i] := List.getElem?_eq_getElem il
      generalize L[i] = p at hp
      have pm : p ∈ L := List.mem_of_getElem? hp
      have pk := R.key p pm
      have rest : wpAny (model P w) A (searchRest a (.ref x) (S.k.hash k) true f es t (way t.mask (S.k.hash k) (c + q)) i (nth t.mask B (c + (q + 1)))) Q E s := by
        unfold searchRest
        rw [R.at hp]
        dsimp only
        refine wpAny_bind (wpAny_holding (S.k.eqBool (S.rm hu) pk hx ?_))
        refine wpAny_bind (wpAny_setState_of ho hd R.fits ?_)
        dsimp only
        by_cases e : p.2 = k
        · exact wp_if_pos (by simp [e]) (wpAny_pure (yes (List.mem_map.mpr ⟨p, pm, e⟩)))
        · refine wp_if_neg (by simp [e]) ?_
          try refine wpAny_bind (wpAny_pure ?_)
          rw [sameMem]
          dsimp only
          have sl : t.slot (way t.mask (S.k.hash k) (c + q)) = .live i := slot_live R.tab.up hi
          simp only [if_true, sl, R.at hp]
          refine wpAny_bind (wpAny_isSame_ref_self (wpAny_bind (wpAny_pure ?_)))
          simp only [if_true]
          refine wp_if_neg (by simp [e]) ?_
          refine ih (c + (q + 1)) _ rfl (by omega) (by omega) fun j r hj hr => ?_
          obtain ⟨d, d1, d2, d3⟩ := hre j r hj hr
          refine ⟨d, ?_, d2, d3⟩
          rcases Nat.lt_trichotomy d (c + q) with z | z | z
          · exact absurd ((hat j r hj).trans (congrArg S.k.hash hr)) (hno (d - c) j (by omega) (by rw [wy, show c + (d - c) = d by omega]; exact d3))
          · rw [z] at d3
            have s0 := slot_live R.tab.up d3
            rw [sl] at s0
            injection s0 with s0
            rw [← s0, hp] at hj
            exact absurd ((congrArg Prod.snd (Option.some.inj hj)).trans hr) e
          · omega
      by_cases l : t.led = true
      · refine wp_if_neg (by simp [l]) ?_
        try refine wpAny_bind (wpAny_pure ?_)
        exact rest
      · refine wp_if_pos (by simp [l]) (wpAny_bind (quiet_all (S := S) hx (fun y hy => ?_) ?_))
        · obtain ⟨e, he, ee⟩ := List.mem_map.mp hy
          have he1 : e ∈ es ∧ e.1 = S.k.hash k := by simpa using he
          have he2 : e ∈ es.toList := by simpa using he1.1
          rw [R.rows] at he2
          obtain ⟨p2, hp2, e2⟩ := List.mem_map.mp he2
          exact ⟨p2.2, p2.1, by rw [← ee, ← e2], R.key p2 hp2⟩
        · refine wp_if_neg (by decide) ?_
          try refine wpAny_bind (wpAny_pure ?_)
          exact rest
    · have pr : t.probe (fun i => (es[i]?.map (·.1)).getD 0) (S.k.hash k) (st.getD (t.probeStart (S.k.hash k))) = some (.empty (way t.mask (S.k.hash k) N) none) := by
        have e2 : way t.mask (S.k.hash k) N = (nth t.mask (nth t.mask B c) (N - c)).j := by rw [wy, show c + (N - c) = N by omega]
        rw [hst, e2]
        exact hpr
      rw [pr]
      dsimp only
      refine wpAny_pure (no fun hm => ?_)
      obtain ⟨r, hr, er⟩ := List.mem_map.mp hm
      obtain ⟨j, hj, ej⟩ := List.getElem_of_mem hr
      have hj2 : L[j]? = some r := by rw [List.getElem?_eq_getElem hj, ej]
      obtain ⟨d, d1, d2, d3⟩ := hre j r hj2 er
      exact absurd ((hat j r hj2).trans (congrArg S.k.hash er)) (hno (d - c) j (by omega) (by rw [wy, show c + (d - c) = d by omega]; exact d3))
theorem look (R : SetK S s.heap a L es ep t) {x : Addr} {k : K} (hx : S.k.is s.heap k x) (hu : A.units + 4 < cLine) {Q : SetFound → Shared → Prop}
    (yes : k ∈ L.map (·.2) → Q (.there none) s)
    (no : ∀ N, k ∉ L.map (·.2) → way t.mask (S.k.hash k) N ∉ t.place.toList → (∀ c, c < N → way t.mask (S.k.hash k) c ∈ t.place.toList) → Q (.free (way t.mask (S.k.hash k) N) false) s) :
    wpAny (model P w) A (setSearch a (.ref x) (S.k.hash k) true) Q E s := by
  have rm := R.room
  have mb := R.tab.ok.le
  obtain ⟨N, nf, nN, bN⟩ := R.tab.free (by rw [List.length_map]; omega) (S.k.hash k)
  have big : N < 100000 := by unfold SetTable.turns at nf; omega
  unfold setSearch
  refine look_from R hx hu nf nN bN yes (fun z => no N z nN bN) 100000 0 none rfl (Nat.zero_le _) (by omega) fun i p hp hk => ?_
  have hi : (L.map fun p => S.k.hash p.2)[i]? = some (S.k.hash k) := by rw [List.getElem?_map, hp, ← hk]; rfl
  have il : i < t.place.toList.length := by
    have z1 : i < L.length := (List.getElem?_eq_some_iff.mp hp).1
    have z2 := R.tab.sz
    rw [List.length_map] at z2
    rw [Array.length_toList]
    omega
  have hj := List.getElem?_eq_getElem il
  obtain ⟨d, hd, e⟩ := R.tab.ahead nN hi hj
  exact ⟨d, Nat.zero_le _, hd, by rw [hj, e]⟩
/-! ### put in -/
theorem same_key {h h' : Heap} {k : K} {b : Addr} {o : PySem.Obj} (hb : S.k.is h k b) (ho : h.get? a = some o) (hd : o.data = .set es ep t) (hs : Heap.SameBut a h h') : S.k.is h' k b := S.fr hb fun c u e hc => (hs.2 c fun z => by
  subst z
  obtain ⟨_, its, n, d2⟩ := hc
  rw [ho] at e
  cases e
  rw [hd] at d2
  exact nomatch d2).trans e
theorem rows_of_order (L : List (Addr × K)) (es : Array (Int × Value)) (ord : Array Nat) (hr : es.toList = rowsK S L) (hp : ord.toList.Perm (List.range L.length)) :
    ∃ L2, (ord.filterMap (es[·]?)).toList = rowsK S L2 ∧ L2.Perm L ∧ (L2.map fun p => S.k.hash p.2) = ord.toList.map fun i => (es.map (·.1)).getD i 0 := by
  have at_ : ∀ i (h : i < L.length), es[i]? = some (S.k.hash (L[i]).2, Value.ref (L[i]).1) := fun i h => by
    rw [← Array.getElem?_toList, hr]
    unfold rowsK
    rw [List.getElem?_map, List.getElem?_eq_getElem h]
    rfl
  have sz : es.size = L.length := by
    have e := congrArg List.length hr
    unfold rowsK at e
    rwa [Array.length_toList, List.length_map] at e
  have all : ∀ l : List Nat, (∀ i ∈ l, i < L.length) → ∃ L2 : List (Addr × K), l.filterMap (fun i => es[i]?) = rowsK S L2 ∧ L2 = l.filterMap (fun i => L[i]?) ∧ (L2.map fun p => S.k.hash p.2) = l.map fun i => (es.map (·.1)).getD i 0 := by
    intro l
    induction l with
    | nil => exact fun _ => ⟨[], rfl, rfl, rfl⟩
    | cons i l ih =>
      intro hl
      have hi := hl i List.mem_cons_self
      obtain ⟨L2, a1, a2, a3⟩ := ih fun j hj => hl j (List.mem_cons_of_mem _ hj)
      have a4 : (es.map (·.1)).getD i 0 = S.k.hash (L[i]).2 := by
        have a5 : (es.map (·.1))[i]? = some (S.k.hash (L[i]).2) := by rw [Array.getElem?_map, at_ i hi]; rfl
        simp [Array.getD_eq_getD_getElem?, a5]
      exact ⟨L[i] :: L2, by rw [List.filterMap_cons_some (at_ i hi), a1]; rfl, by rw [List.filterMap_cons_some (List.getElem?_eq_getElem hi), a2], by rw [List.map_cons, List.map_cons, a3, a4]⟩
  obtain ⟨L2, a1, a2, a3⟩ := all ord.toList fun i hi => List.mem_range.mp (hp.mem_iff.mp hi)
  have id_ : (List.range L.length).filterMap (fun i => L[i]?) = L := by
    have up : ∀ n, n ≤ L.length → (List.range n).filterMap (fun i => L[i]?) = L.take n := by
      intro n
      induction n with
      | zero => exact fun _ => rfl
      | succ n ih =>
        intro hn
        have lt : n < L.length := hn
        rw [List.range_succ, List.filterMap_append, ih (Nat.le_of_lt lt), List.take_succ, List.getElem?_eq_getElem lt, List.filterMap_cons_some (List.getElem?_eq_getElem lt)]
        rfl
    rw [up L.length (Nat.le_refl _), List.take_length]
  refine ⟨L2, by first | (rw [Array.toList_filterMap]; exact a1) | simpa using a1, ?_, a3⟩
  have pm : L2.Perm ((List.range L.length).filterMap fun i => L[i]?) := by rw [a2]; exact hp.filterMap _
  rw [id_] at pm
  exact pm
theorem lay_anew {o : PySem.Obj} (ho : s.heap.get? a = some o) (hex : o.ExactSet) (hd : o.data = .set es ep t) (rows : es.toList = rowsK S L) (sz : t.place.size = es.size) (dm : t.dummies = #[]) (fl : es.size ≤ t.mask)
    (nd : (L.map (·.2)).Nodup) (key : ∀ p ∈ L, S.k.is s.heap p.2 p.1) (pl : t.plain = true) (ld : w.params.followText "set-order" = true ∨ t.led = true) (few : L.length < 600) {wanted M : Nat}
    (hw : SetTable.sizeAbove wanted - 1 = M) (hM : SzOk M) (hw2 : SetTable.sizeAbove wanted ≤ 2048) (hn : L.length * 5 < M * 3) {Q : Unit → Shared → Prop}
    (hQ : ∀ h' L' es' ep' t', Heap.SameBut a s.heap h' → SetK S h' a L' es' ep' t' → L'.Perm L → Q () { s with heap := h' }) : wpAny (model P w) A (setRelay a wanted) Q E s := by
  have eL : es.size = L.length := by
    have e := congrArg List.length rows
    unfold rowsK at e
    rwa [Array.length_toList, List.length_map] at e
  have ft : t.fits es.size = true := by
    unfold SetTable.fits SetTable.fill
    rw [dm, Bool.and_eq_true, beq_iff_eq, decide_eq_true_eq]
    show t.place.size = es.size ∧ t.place.size + 0 ≤ t.mask
    omega
  obtain ⟨t2, ord, re, pm, T, em, el, ep2⟩ := anew t (hs := es.map (·.1)) (wanted := wanted) hw hM (by rw [Array.size_map, eL]; omega)
  rw [Array.size_map, eL] at pm
  obtain ⟨L2, r1, r2, r3⟩ := rows_of_order L es ord rows pm
  rw [← r3] at T
  have s2 : (ord.filterMap (es[·]?)).size = es.size := by
    have e := congrArg List.length r1
    unfold rowsK at e
    rw [Array.length_toList, List.length_map, r2.length_eq] at e
    rw [e, eL]
  rw [setRelay_eq]
  refine wpAny_bind (wpAny_setState_of ho hd ft ?_)
  dsimp only
  refine wp_if_neg (by rw [sizeLine_eq]; omega) ?_
  try refine wpAny_bind (wpAny_pure ?_)
  rw [re]
  dsimp only
  refine wpAny_bind (wp_if_neg (by rw [s2]; simp) ?_)
  try refine wpAny_bind (wpAny_pure ?_)
  refine wpAny_pure ?_
  dsimp only
  refine wpAny_storeSet_of ho hd ?_ (by rw [s2, eL, sizeLine_eq]; omega)
  have sb : Heap.SameBut a s.heap (s.heap.update a (Obj.putSet (ord.filterMap (es[·]?)) t2)) := Heap.SameBut.update ..
  refine hQ _ L2 _ (ep + 1) t2 sb ⟨⟨_, store_at ho hd, ⟨hex.1, hex.2.1, hex.2.2⟩, rfl⟩, r1, T, (r2.map (·.2)).nodup_iff.mpr nd, fun p hp => same_key (key p (r2.mem_iff.mp hp)) ho hd sb, by rw [ep2]; exact pl, by rw [el]; exact ld, by rw [r2.length_eq, em]; exact hn, by rw [r2.length_eq]; exact few⟩ r2
/-- what is there is not put in again -/
theorem in_key (R : SetK S s.heap a L es ep t) {x : Addr} {k : K} (hx : S.k.is s.heap k x) (hu : A.units + 4 < cLine) (hm : k ∈ L.map (·.2)) {Q : Bool → Shared → Prop} (q : Q false s) : wpAny (model P w) A (setAddHashed a (.ref x) (S.k.hash k)) Q E s := by
  obtain ⟨o, ho, hex, hd⟩ := R.ob
  unfold setAddHashed
  refine wpAny_holding ?_
  rw [show (100000 : Nat) = 99999 + 1 from rfl, setAddHashedIn_succ]
  refine wpAny_bind (wpAny_setState_of ho hd R.fits ?_)
  dsimp only
  refine wp_if_neg (by simp [byScan, Value.scannable]) ?_
  try refine wpAny_bind (wpAny_pure ?_)
  refine wpAny_bind (look R hx hu (fun _ => ?_) fun N hn _ _ => absurd hm hn)
  dsimp only
  exact wpAny_pure q
theorem add_key (R : SetK S s.heap a L es ep t) {x : Addr} {k : K} (hx : S.k.is s.heap k x) (hu : A.units + 4 < cLine) (hfew : L.length + 1 < 600) {Q : Bool → Shared → Prop}
    (hQ : ∀ b h' L' es' ep' t', Heap.SameBut a s.heap h' → SetK S h' a L' es' ep' t' → (k ∈ L.map (·.2) → L' = L) → (k ∉ L.map (·.2) → L'.Perm ((x, k) :: L)) → Q b { s with heap := h' }) :
    wpAny (model P w) A (setAddHashed a (.ref x) (S.k.hash k)) Q E s := by
  obtain ⟨o, ho, hex, hd⟩ := R.ob
  have eL := R.size
  have rm := R.room
  unfold setAddHashed
  refine wpAny_holding ?_
  rw [show (100000 : Nat) = 99999 + 1 from rfl, setAddHashedIn_succ]
  refine wpAny_bind (wpAny_setState_of ho hd R.fits ?_)
  dsimp only
  refine wp_if_neg (by simp [byScan, Value.scannable]) ?_
  try refine wpAny_bind (wpAny_pure ?_)
  refine wpAny_bind (look R hx hu (fun hm => ?_) fun N hm nN bN => ?_)
  · dsimp only
    exact wpAny_pure (hQ false s.heap L es ep t (Heap.SameBut.refl a s.heap) R (fun _ => rfl) fun z => absurd hm z)
  · dsimp only
    refine wpAny_bind (wpAny_setState_of ho hd R.fits ?_)
    dsimp only
    obtain ⟨q2, q3, q9⟩ := R.tab.add nN bN
    have q4 : (t.put (way t.mask (S.k.hash k) N)).1.mask = t.mask := rfl
    have q5 : (t.put (way t.mask (S.k.hash k) N)).1.led = t.led := rfl
    have q1 : (t.put (way t.mask (S.k.hash k) N)).2 = SetTable.below t.place (way t.mask (S.k.hash k) N) := rfl
    have q6 : (t.put (way t.mask (S.k.hash k) N)).1.plain = true := R.plain
    generalize t.put (way t.mask (S.k.hash k) N) = pt at q1 q3 q4 q5 q6 q9 ⊢
    obtain ⟨t1, p⟩ := pt
    dsimp only at q1 q3 q4 q5 q6 q9 ⊢
    subst q1
    first
      | (refine wpAny_bind ?_; refine wp_if_pos q6 ?_; refine S.hb hx ?_)
      | refine wp_if_pos q6 (wpAny_bind (S.hb hx ?_))
    simp only [if_true]
    generalize hpp : SetTable.below t.place (way t.mask (S.k.hash k) N) = p at q2 q3 ⊢
    have rw1 : (SetTable.insertAt es p (S.k.hash k, Value.ref x)).toList = rowsK S (L.take p ++ (x, k) :: L.drop p) := by
      rw [SetTable.toList_insertAt, R.rows]
      unfold rowsK
      rw [List.map_append, List.map_cons, List.map_take, List.map_drop]
    have pm := put_perm L p (x, k)
    have len : (L.take p ++ (x, k) :: L.drop p).length = L.length + 1 := pm.length_eq
    have hh : (L.take p ++ (x, k) :: L.drop p).map (fun p => S.k.hash p.2) = (L.map fun p => S.k.hash p.2).take p ++ S.k.hash k :: (L.map fun p => S.k.hash p.2).drop p := by rw [List.map_append, List.map_cons, List.map_take, List.map_drop]
    rw [← hh] at q3
    have nd1 : ((L.take p ++ (x, k) :: L.drop p).map (·.2)).Nodup := (pm.map (·.2)).nodup_iff.mpr (by rw [List.map_cons]; exact List.nodup_cons.mpr ⟨hm, R.nd⟩)
    have e1 : (SetTable.insertAt es p (S.k.hash k, Value.ref x)).size = L.length + 1 := by
      have e := congrArg List.length rw1
      unfold rowsK at e
      rwa [Array.length_toList, List.length_map, len] at e
    generalize SetTable.insertAt es p (S.k.hash k, Value.ref x) = es1 at rw1 e1 ⊢
    generalize L.take p ++ (x, k) :: L.drop p = L1 at pm len q3 nd1 rw1
    refine wpAny_bind (wpAny_storeSet_of ho hd ?_ (by rw [e1, sizeLine_eq]; omega))
    have sb : Heap.SameBut a s.heap (s.heap.update a (Obj.putSet es1 t1)) := Heap.SameBut.update ..
    have ho1 := store_at (es' := es1) (t' := t1) ho hd
    generalize s.heap.update a (Obj.putSet es1 t1) = h1 at sb ho1 ⊢
    have key1 : ∀ p ∈ L1, S.k.is h1 p.2 p.1 := fun p hp => by
      rcases List.mem_cons.mp (pm.mem_iff.mp hp) with e | hp
      · rw [e]; exact same_key hx ho hd sb
      · exact same_key (R.key p hp) ho hd sb
    have ld1 : w.params.followText "set-order" = true ∨ t1.led = true := by rw [q5]; exact R.led
    by_cases hf : t1.tooFull = true
    · have full : t1.mask * 3 ≤ (L.length + 1) * 5 := by
        have e := hf
        unfold SetTable.tooFull at e
        rw [decide_eq_true_eq, q9, List.length_map] at e
        exact e
      first
        | (refine wpAny_bind ?_; refine wp_if_pos (by simp [hf]) ?_)
        | (refine wp_if_pos (by simp [hf]) ?_; refine wpAny_bind ?_)
      rw [eL]
      have sz1 : t1.place.size = es1.size := by
        have e := q3.sz
        rw [List.length_map, len] at e
        rw [e, e1]
      obtain ⟨M, m1, m2, m3, m4⟩ := grow_sz (n := L.length) R.tab.ok rm (by rw [q4] at full; exact full) (by omega)
      refine lay_anew (s := { s with heap := h1 }) ho1 ⟨hex.1, hex.2.1, hex.2.2⟩ rfl rw1 sz1 q3.no (by rw [e1, q4]; have := R.tab.ok; have := rm; obtain ⟨n, n1, n2, n3⟩ := R.tab.ok; have : 2 ^ 3 ≤ 2 ^ n := Nat.pow_le_pow_right (by decide) n1; omega) nd1 key1 q6 ld1 (by rw [len]; exact hfew) m1 m2 m4 (by rw [len]; exact m3) ?_
      intro h2 L2 es2 ep2 t2 sb2 R2 pm2
      exact wpAny_pure (hQ true h2 L2 es2 ep2 t2 (sb.trans sb2) R2 (fun z => absurd z hm) fun _ => pm2.trans pm)
    · have less : (L.length + 1) * 5 < t1.mask * 3 := by
        have e := hf
        unfold SetTable.tooFull at e
        rw [decide_eq_true_eq, q9, List.length_map] at e
        omega
      first
        | refine wp_if_neg (by simp [hf]) ?_
        | (refine wpAny_bind ?_; refine wp_if_neg (by simp [hf]) ?_; refine wpAny_pure ?_)
      exact wpAny_pure (hQ true h1 L1 es1 (ep + 1) t1 sb ⟨⟨_, ho1, ⟨hex.1, hex.2.1, hex.2.2⟩, rfl⟩, rw1, q3, nd1, key1, q6, ld1, by rw [len]; exact less, by rw [len]; exact hfew⟩ (fun z => absurd z hm) fun _ => pm)
end
end SX

/-! PEe: set(xs), xs a tuple or a list of such keys, few of them different. -/
namespace SX
open PySem PySem.Spec PyProof.Rows L2
section
variable {P : Program} {w : World} {K : Type} [DecidableEq K]
/-- what the set has of the first i -/
structure GotK (ks : List (Addr × K)) (i : Nat) (L : List (Addr × K)) : Prop where
  sub : ∀ p ∈ L, p ∈ ks.take i
  all : ∀ p ∈ ks.take i, p.2 ∈ L.map (·.2)
theorem GotK.same {ks L : List (Addr × K)} {i : Nat} {x : Addr × K} (g : GotK ks i L) (h : ks[i]? = some x) (hm : x.2 ∈ L.map (·.2)) : GotK ks (i + 1) L := by
  refine ⟨fun p hp => ?_, fun p hp => ?_⟩
  · rw [take_next h]
    exact List.mem_append_left _ (g.sub p hp)
  · rw [take_next h] at hp
    rcases List.mem_append.mp hp with z | z
    · exact g.all p z
    · rw [List.mem_singleton.mp z]; exact hm
theorem GotK.more {ks L L' : List (Addr × K)} {i : Nat} {x : Addr × K} (g : GotK ks i L) (h : ks[i]? = some x) (pm : L'.Perm (x :: L)) : GotK ks (i + 1) L' := by
  refine ⟨fun p hp => ?_, fun p hp => ?_⟩
  · rw [take_next h]
    rcases List.mem_cons.mp (pm.mem_iff.mp hp) with rfl | z
    · exact List.mem_append_right _ (List.mem_singleton.mpr rfl)
    · exact List.mem_append_left _ (g.sub p z)
  · rw [(pm.map (·.2)).mem_iff, List.map_cons]
    rw [take_next h] at hp
    rcases List.mem_append.mp hp with z | z
    · exact List.mem_cons_of_mem _ (g.all p z)
    · rw [List.mem_singleton.mp z]; exact List.mem_cons_self
/-- few different ones -/
def Few (n : Nat) (ks : List (Addr × K)) : Prop := ∃ D : List K, D.length < n ∧ ∀ p ∈ ks, p.2 ∈ D
theorem nodup_len : ∀ (l D : List K), l.Nodup → (∀ x ∈ l, x ∈ D) → l.length ≤ D.length
  | [], _, _, _ => Nat.zero_le _
  | x :: l, D, hn, hs => by
    obtain ⟨h1, h2⟩ := List.nodup_cons.mp hn
    have hx : x ∈ D := hs x List.mem_cons_self
    have ih := nodup_len l (D.erase x) h2 fun y hy => (List.mem_erase_of_ne (by intro e; subst e; exact h1 hy)).2 (hs y (List.mem_cons_of_mem _ hy))
    have e := List.length_erase_of_mem hx
    have p := List.length_pos_of_mem hx
    rw [List.length_cons]
    omega
variable {A : Around} {E : Value → Shared → Prop} {s : Shared} {S : SK P w K}
theorem keep_key {h h' : Heap} {k : K} {b : Addr} (x : S.k.is h k b) (hk : ∀ c o, h.get? c = some o → h'.get? c = some o) : S.k.is h' k b := S.fr x fun c o e _ => hk c o e
theorem SetK.stay {h h' : Heap} {a : Addr} {L : List (Addr × K)} {es : Array (Int × Value)} {ep : Nat} {t : SetTable} (R : SetK S h a L es ep t) (ha : ∀ o, h.get? a = some o → h'.get? a = some o) (ht : ∀ p ∈ L, S.k.is h' p.2 p.1) : SetK S h' a L es ep t := by
  obtain ⟨o, ho, r⟩ := R.ob
  exact ⟨⟨o, ha o ho, r⟩, R.rows, R.tab, R.nd, ht, R.plain, R.led, R.room, R.few⟩
theorem setK_new {h : Heap} {a : Addr} (ho : h.get? a = some { cls := .type "set", dict := none, data := .set #[] 0 (.fresh 0 0 (!w.params.followText "set-order")) }) : SetK S h a [] #[] 0 (.fresh 0 0 (!w.params.followText "set-order")) where
  ob := ⟨_, ho, ⟨rfl, rfl, rfl⟩, rfl⟩
  rows := rfl
  tab := ⟨List.Pairwise.nil, rfl, rfl, ⟨3, by decide, by decide, rfl⟩, fun x hx => (by cases hx), fun i h j hi => (by simp at hi)⟩
  nd := List.nodup_nil
  key := fun p hp => (by cases hp)
  plain := rfl
  led := by
    show _ ∨ (!w.params.followText "set-order") = true
    cases w.params.followText "set-order"
    · exact .inr rfl
    · exact .inl rfl
  room := by
    show 0 * 5 < 7 * 3
    decide
  few := by
    show 0 < 600
    decide
theorem upd_loop {I : Addr} {fp wr : List Addr} {G : Array GenState → Array GenState → Prop} {n : Nat} {Pv : Nat → Value → Prop} {St : Nat → Shared → Prop} {R : Result → Shared → Prop}
    (W : WalksS P w A.in1 I fp wr G n Pv St) (T : Addr) (hTf : T ∉ fp) (ks : List (Addr × K)) (hn : n = ks.length) (few : Few 600 ks) (hval : ∀ i v, Pv i v → ∃ p, ks[i]? = some p ∧ v = .ref p.1)
    (h0 : Heap) (hk : ∀ p ∈ ks, S.k.is h0 p.2 p.1) (hT0 : h0.get? T = none) (hw0 : ∀ b ∈ wr, h0.get? b = none) (hu : A.in1.units + 4 < cLine) :
    ∀ (k i : Nat) (s : Shared), n - i = k → i ≤ n → St i s → (∀ b o, h0.get? b = some o → s.heap.get? b = some o) → (∃ L es ep t, SetK S s.heap T L es ep t ∧ GotK ks i L) →
      (∀ s' L es ep t, Moved (T :: wr) G s s' → SetK S s'.heap T L es ep t → GotK ks n L → (∀ b o, h0.get? b = some o → s'.heap.get? b = some o) → R (.ok (.ret .none)) s') →
      codeAny (model P w) A (.builtin "set.update.loop" ⟨[.ref T, .ref I], []⟩) R s := by
  have nTw : T ∉ wr := fun h => hTf (W.sub _ h)
  have sub : ∀ b ∈ wr, b ∈ T :: wr := fun b hb => List.mem_cons_of_mem _ hb
  have carry : ∀ {s s' : Shared}, Moved wr G s s' → (∀ b o, h0.get? b = some o → s.heap.get? b = some o) → ∀ b o, h0.get? b = some o → s'.heap.get? b = some o := fun hm q b o e => hm.heap b o (fun hb => by rw [hw0 b hb] at e; cases e) (q b o e)
  intro k
  induction k with
  | zero =>
    intro i s z hi hst q ⟨L, es, ep, t, hS, g⟩ hR
    have e : i = n := by omega
    subst e
    refine codeAny_builtin F.entry_set_update_loop ?_
    rw [Around.under_plainId F.plain_set_update_loop _]
    refine wpAny_bind (m := pyNext (.ref I)) (W.done s _ _ hst fun s' hm => ?_)
    have q2 := carry hm q
    exact wpAny_pure (hR s' L es ep t (hm.mono sub) (hS.stay (fun o e => hm.heap T o nTw e) fun p hp => keep_key (hk p (List.mem_of_mem_take (g.sub p hp))) q2) g q2)
  | succ k ih =>
    intro i s z hi hst q ⟨L, es, ep, t, hS, g⟩ hR
    have lt : i < n := by omega
    refine codeAny_builtin F.entry_set_update_loop ?_
    rw [Around.under_plainId F.plain_set_update_loop _]
    refine wpAny_bind (m := pyNext (.ref I)) (W.item i s _ _ lt hst fun v s' hP hst2 hm => ?_)
    obtain ⟨p, hp, rfl⟩ := hval i v hP
    have q2 := carry hm q
    have hS2 : SetK S s'.heap T L es ep t := hS.stay (fun o e => hm.heap T o nTw e) fun r hr => keep_key (hk r (List.mem_of_mem_take (g.sub r hr))) q2
    have hx : S.k.is s'.heap p.2 p.1 := keep_key (hk p (List.mem_of_getElem? hp)) q2
    have lf : p.2 ∉ L.map (·.2) → L.length + 1 < 600 := fun nm => by
      obtain ⟨D, d1, d2⟩ := few
      have nd : (p.2 :: L.map (·.2)).Nodup := List.nodup_cons.mpr ⟨nm, hS.nd⟩
      have := nodup_len _ D nd fun y hy => by
        rcases List.mem_cons.mp hy with rfl | hy
        · exact d2 p (List.mem_of_getElem? hp)
        · obtain ⟨r, hr, rfl⟩ := List.mem_map.mp hy
          exact d2 r (List.mem_of_mem_take (g.sub r hr))
      rw [List.length_cons, List.length_map] at this
      omega
    refine wpAny_bind (m := holding [Value.ref p.1] (setAdd T (.ref p.1))) (wpAny_holding ?_)
    unfold setAdd
    refine wpAny_holding (wpAny_bind (S.k.pyHash (S.rm hu) hx ?_))
    have more : ∀ (b : Bool) h' L' es' ep' t', Heap.SameBut T s'.heap h' → SetK S h' T L' es' ep' t' → (p.2 ∈ L.map (·.2) → L' = L) → (p.2 ∉ L.map (·.2) → L'.Perm ((p.1, p.2) :: L)) → codeAny (model P w) A (.builtin "set.update.loop" ⟨[.ref T, .ref I], []⟩) R { s' with heap := h', toks := s'.toks + S.k.draws p.2 } := fun b h' L' es' ep' t' hsb hS3 c1 c2 => by
      have g2 : GotK ks (i + 1) L' := by
        rcases Classical.em (p.2 ∈ L.map (·.2)) with c | c
        · rw [c1 c]; exact g.same hp c
        · exact g.more hp (c2 c)
      have q3 : ∀ b o, h0.get? b = some o → h'.get? b = some o := fun b o e => (hsb.2 b (fun z => by rw [z, hT0] at e; cases e)).trans (q2 b o e)
      refine ih (i + 1) _ (by omega) lt (W.frame _ s' _ _ hst2 (Nat.le_add_right _ _) fun b hb o e => ?_) q3 ⟨L', es', ep', t', hS3, g2⟩ fun s3 L2 es2 ep2 t2 hm3 hS4 g3 q4 => ?_
      · rw [hsb.2 b (fun h : b = T => hTf (by rw [← h]; exact hb))]; exact e
      · refine hR s3 L2 es2 ep2 t2 (Moved.trans W.gtrans ((hm.mono sub).then_heap (Nat.le_add_right _ _) fun b o hb e => ?_) hm3) hS4 g3 q4
        rw [hsb.2 b (fun h : b = T => hb (by rw [h]; exact List.mem_cons_self))]; exact e
    rcases Classical.em (p.2 ∈ L.map (·.2)) with c | c
    · refine in_key (s := { s' with toks := s'.toks + S.k.draws p.2 }) hS2 hx hu c ?_
      exact wpAny_pure ⟨plainId_quiet F.plain_set_update_loop _, more false s'.heap L es ep t (Heap.SameBut.refl T s'.heap) hS2 (fun _ => rfl) fun z => absurd c z⟩
    · refine add_key (s := { s' with toks := s'.toks + S.k.draws p.2 }) hS2 hx hu (lf c) fun b h' L' es' ep' t' hsb hS3 c1 c2 => ?_
      exact wpAny_pure ⟨plainId_quiet F.plain_set_update_loop _, more b h' L' es' ep' t' hsb hS3 c1 c2⟩
end
end SX

/-! PEf: the order of tuples of ints, of tuples of those; sorting any number of them. -/
namespace SX
open PySem PySem.Spec PyProof.Rows L2
/-! ### orders -/
def lexG {α : Type} [DecidableEq α] (lt : α → α → Bool) : List α → List α → Bool
  | [], [] => false
  | [], _ :: _ => true
  | _ :: _, [] => false
  | x :: xs, y :: ys => if x = y then lexG lt xs ys else lt x y
/-- a strict order of all -/
structure Slo {α : Type} (lt : α → α → Bool) : Prop where
  asym : ∀ x y, lt x y = true → lt y x = false
  tri : ∀ x y, lt x y = false → lt y x = false → x = y
  tr : ∀ x y z, lt x y = true → lt y z = true → lt x z = true
theorem Slo.irr {α : Type} {lt : α → α → Bool} (h : Slo lt) (x : α) : lt x x = false := by
  cases e : lt x x with
  | false => rfl
  | true =>
    have := h.asym x x e
    rw [e] at this
    exact this
theorem Slo.swo {α : Type} {lt : α → α → Bool} (h : Slo lt) : SrtO.Swo lt where
  asym := h.asym
  tr := fun x y z a b => by
    cases e : lt z x with
    | false => rfl
    | true =>
      cases c : lt x y with
      | true =>
        have := h.tr z x y e c
        rw [b] at this
        cases this
      | false =>
        have := h.tri x y c a
        subst this
        rw [b] at e
        cases e
theorem slo_int : Slo fun x y : Int => decide (x < y) where
  asym := fun x y h => decide_eq_false (by have := of_decide_eq_true h; omega)
  tri := fun x y a b => by have := of_decide_eq_false a; have := of_decide_eq_false b; omega
  tr := fun x y z a b => decide_eq_true (by have := of_decide_eq_true a; have := of_decide_eq_true b; omega)
theorem slo_lex {α : Type} [DecidableEq α] {lt : α → α → Bool} (h : Slo lt) : Slo (lexG lt) where
  asym := by
    intro x
    induction x with
    | nil => intro y q; cases y <;> rfl
    | cons a x ih =>
      intro y q
      cases y with
      | nil => cases q
      | cons b y =>
        unfold lexG at q ⊢
        by_cases e : a = b
        · rw [if_pos e] at q
          rw [if_pos e.symm]
          exact ih y q
        · rw [if_neg e] at q
          rw [if_neg (Ne.symm e)]
          exact h.asym a b q
  tri := by
    intro x
    induction x with
    | nil =>
      intro y q _
      cases y with
      | nil => rfl
      | cons b y => cases q
    | cons a x ih =>
      intro y q1 q2
      cases y with
      | nil => cases q2
      | cons b y =>
        unfold lexG at q1 q2
        by_cases e : a = b
        · rw [if_pos e] at q1
          rw [if_pos e.symm] at q2
          rw [e, ih y q1 q2]
        · rw [if_neg e] at q1
          rw [if_neg (Ne.symm e)] at q2
          exact absurd (h.tri a b q1 q2) e
  tr := by
    intro x
    induction x with
    | nil =>
      intro y z q1 q2
      cases z with
      | nil => cases y <;> cases q2
      | cons c z => rfl
    | cons a x ih =>
      intro y z q1 q2
      cases y with
      | nil => cases q1
      | cons b y =>
        cases z with
        | nil => cases q2
        | cons c z =>
          unfold lexG at q1 q2 ⊢
          by_cases e1 : a = b
          · rw [if_pos e1] at q1
            subst e1
            by_cases e2 : a = c
            · rw [if_pos e2] at q2 ⊢
              exact ih y z q1 q2
            · rw [if_neg e2] at q2 ⊢
              exact q2
          · rw [if_neg e1] at q1
            by_cases e2 : b = c
            · subst e2
              rw [if_neg e1]
              exact q1
            · rw [if_neg e2] at q2
              have e3 : a ≠ c := fun z => by
                subst z
                have := h.asym a b q1
                rw [q2] at this
                cases this
              rw [if_neg e3]
              exact h.tr a b c q1 q2
abbrev lt1 : List Int → List Int → Bool := lexG fun x y => decide (x < y)
abbrev lt2 : List (List Int) → List (List Int) → Bool := lexG lt1
theorem slo1 : Slo lt1 := slo_lex slo_int
theorem slo2 : Slo lt2 := slo_lex slo1
theorem lt1_lex : ∀ x y : List Int, lt1 x y = HT.lexLt x y
  | [], [] => rfl
  | [], _ :: _ => rfl
  | _ :: _, [] => rfl
  | x :: xs, y :: ys => by
    show (if x = y then lt1 xs ys else decide (x < y)) = (if x = y then HT.lexLt xs ys else decide (x < y))
    rw [lt1_lex xs ys]
section
variable {P : Program} {w : World} {A : Around} {E : Value → Shared → Prop} {s : Shared}
/-! ### two tuples of ints compared -/
theorem isT_tup {h : Heap} {k : List Int} {a : Addr} (x : IsT P w h k a) : ∃ its, IsTup h a its ∧ IntsAre its.toList k := by
  obtain ⟨o, its, n, ho, hc, hd, hi⟩ := x
  exact ⟨its, ⟨o, ho, hc, n, hd⟩, ints_of_items hi⟩
theorem lex_pairs {fin : Bool} {Q : Bool → Shared → Prop} : ∀ {ns ms : List Int} {vs us : List Value} (i : Nat), IntsAre vs ns → IntsAre us ms → fin = decide (ns.length < ms.length) → Q (lt1 ns ms) s → PySem.W.KatLex P w A true fin Q (vs.zip us) i s
  | _, _, _, _, _, .nil, .nil, hf, q => by
    rw [hf]
    exact PySem.W.kat_nil q
  | _, _, _, _, _, .nil, .cons _ _ _, hf, q => by
    rw [hf]
    refine PySem.W.kat_nil ?_
    rw [List.length_nil, List.length_cons, decide_eq_true (Nat.succ_pos _)]
    exact q
  | _, _, _, _, _, .cons _ _ _, .nil, hf, q => by
    rw [hf]
    refine PySem.W.kat_nil ?_
    rw [List.length_nil, List.length_cons, decide_eq_false (Nat.not_lt_zero _)]
    exact q
  | _, _, _, _, i, .cons (ns := ns) (vs := vs) x t hv, .cons (ns := ms) (vs := us) y u hu, hf, q => by
    refine PySem.W.kat_cons (SeqAt.EqAt.int_int x t y u P w _ _ ?_)
    have q : Q (if x = y then lt1 ns ms else decide (x < y)) s := q
    refine PySem.W.kat_go (fun e => ?_) (fun e => ?_)
    · have e : x = y := by simpa using e
      rw [if_pos e] at q
      exact PySem.W.kat_yes (lex_pairs (i + 1) hv hu (by simpa using hf) q)
    · have e : ¬ x = y := by simpa using e
      rw [if_neg e] at q
      exact PySem.W.kat_no (TS.oneLt_ints _ q)
theorem lt_rows {x y : List Int} {a b : Addr} {Q : Bool → Shared → Prop} (hu : A.units + 4 < cLine) (hx : IsT P w s.heap x a) (hy : IsT P w s.heap y b) (q : Q (lt1 x y) s) : wpAny (model P w) A (oneLt' false (.ref a) (.ref b)) Q E s := by
  obtain ⟨i1, t1, n1⟩ := isT_tup hx
  obtain ⟨i2, t2, n2⟩ := isT_tup hy
  refine PySem.W.kat_one _ _ (HT.lt_tupInts t1 t2 n1 n2 (by omega) ?_)
  rw [← lt1_lex]
  exact q
theorem lt_rows1 {x y : List Int} {a b : Addr} {Q : Bool → Shared → Prop} (hu : A.units + 4 < cLine) (hx : IsT P w s.heap x a) (hy : IsT P w s.heap y b) (q : Q (lt1 x y) s) : wpAny (model P w) A (oneLt' true (.ref a) (.ref b)) Q E s := by
  obtain ⟨i1, ⟨⟨c1, d1, dt1, s1⟩, g1, e1, m1, f1⟩, n1⟩ := isT_tup hx
  obtain ⟨i2, ⟨⟨c2, d2, dt2, s2⟩, g2, e2, m2, f2⟩, n2⟩ := isT_tup hy
  simp only at e1 f1 e2 f2
  subst e1 f1 e2 f2
  rw [oneLt'_eq]
  simp only [if_true]
  refine wpAny_bind (wpAny_cRoomFor_or (.inr (by omega)) ?_)
  refine wpAny_bind (wpAny_callSpecialIfBound?_slot ⟨_, g1, rfl⟩ PySem.F.slot_tuple_lt ?_)
  refine call_meets PySem.F.slot_tuple_lt ⟨_, g1, rfl⟩ PySem.F.entry_tuple_lt (PySem.F.args_tuple_lt_2 _ _) (HT.tuple_lt_ints a b i1 i2 m1 m2 d1 d2 s1 s2 x y n1 n2) ⟨g1, g2, ?_⟩
  rw [← lt1_lex]
  exact wpAny_truthy_bool q
/-- rows of tuples compared -/
theorem lex_rows {fin : Bool} {Q : Bool → Shared → Prop} (hu : A.units + 6 < cLine) : ∀ {x y : List (List Int)} {vs us : List Value} (i : Nat), Rows2 P w s.heap x vs → Rows2 P w s.heap y us → fin = decide (x.length < y.length) → Q (lt2 x y) s → PySem.W.KatLex P w A false fin Q (vs.zip us) i s
  | _, _, _, _, _, .nil, .nil, hf, q => by
    rw [hf]
    exact PySem.W.kat_nil q
  | _, _, _, _, _, .nil, .cons _ _, hf, q => by
    rw [hf]
    refine PySem.W.kat_nil ?_
    rw [List.length_nil, List.length_cons, decide_eq_true (Nat.succ_pos _)]
    exact q
  | _, _, _, _, _, .cons _ _, .nil, hf, q => by
    rw [hf]
    refine PySem.W.kat_nil ?_
    rw [List.length_nil, List.length_cons, decide_eq_false (Nat.not_lt_zero _)]
    exact q
  | _, _, _, _, i, .cons (k := x) (ks := xs) hx tx, .cons (k := y) (ks := ys) hy ty, hf, q => by
    refine PySem.W.kat_cons (wpAny_eqBool_tuple (by omega) hx hy ?_)
    have q : Q (if x = y then lt2 xs ys else lt1 x y) s := q
    refine PySem.W.kat_go (fun e => ?_) (fun e => ?_)
    · have e : x = y := of_decide_eq_true e
      rw [if_pos e] at q
      exact PySem.W.kat_yes (lex_rows hu (i + 1) tx ty (by simpa using hf) q)
    · have e : ¬ x = y := of_decide_eq_false e
      rw [if_neg e] at q
      refine PySem.W.kat_no ?_
      rw [Bool.false_and]
      exact lt_rows (by omega) hx hy q
/-! ### the kind of a list -/
def fstV (h : Heap) : Value → Option Value
  | .ref a => match h.get? a with
    | some o => match o.data with
      | .seq its _ => its[0]?
      | _ => none
    | none => none
  | _ => none
theorem fstV_is {h : Heap} {a : Addr} {o : PySem.Obj} {its : Array Value} {n : Nat} (ho : h.get? a = some o) (hd : o.data = .seq its n) : fstV h (.ref a) = its[0]? := by
  unfold fstV
  dsimp only
  rw [ho]
  dsimp only
  rw [hd]
theorem firsts_w : ∀ (vs : List Value) {Q : List (Option Value) → Shared → Prop}, (∀ v ∈ vs, ∃ a o, v = Value.ref a ∧ s.heap.get? a = some o ∧ TupO o) → Q (vs.map (fstV s.heap)) s → wpAny (model P w) A (vs.mapM firstOfTuple') Q E s
  | [], _, _, q => by rw [List.mapM_nil]; exact wpAny_pure q
  | v :: vs, Q, h, q => by
    obtain ⟨a, o, rfl, ho, hc, its, n, hd⟩ := h v List.mem_cons_self
    rw [List.mapM_cons]
    refine wpAny_bind ?_
    rw [PySem.W.kas_first_eq]
    refine wpAny_bind (PySem.W.Looks.here (show PySem.W.Looks (model P w) s.heap (typeOf (.ref a)) o.cls from (PySem.W.Looks.ld ho).andThen .now) ?_)
    rw [hc, if_neg (by first | decide | simp)]
    refine wpAny_bind (listItems_at ho hd (wpAny_pure ?_))
    refine wpAny_bind (firsts_w vs (Q := fun bs s' => wpAny (model P w) A (pure (its[0]? :: bs)) Q E s') (fun u hu => h u (List.mem_cons_of_mem _ hu)) (wpAny_pure ?_))
    rw [List.map_cons, fstV_is ho hd] at q
    exact q
theorem types_w : ∀ (vs : List Value) {Q : List Value → Shared → Prop}, (∀ v ∈ vs, ∃ a o, v = Value.ref a ∧ s.heap.get? a = some o ∧ TupO o) → Q (vs.map fun _ => Value.type "tuple") s → wpAny (model P w) A (vs.mapM typeOf) Q E s :=
  fun vs Q h q => PySem.W.kas_mapM (r := Value.type "tuple") vs (fun v hv Q' q' => by
    obtain ⟨a, o, rfl, ho, hc, _⟩ := h v hv
    exact wpAny_typeOf (⟨o, ho, hc⟩ : s.TypeIs (.ref a) "tuple") q') q
theorem tups_all (vs : List Value) : ((vs.map fun _ => Value.type "tuple").toArray.all fun x => x == Value.type "tuple") = true := by
  simp only [List.all_toArray, List.all_map, List.all_eq_true]
  intro _ _
  rfl
/-- some are empty: the kind by the first one -/
theorem kind_mixed {v : Value} {vs : List Value} {Q : SortKind → Shared → Prop} (h : ∀ u ∈ v :: vs, ∃ a o, u = Value.ref a ∧ s.heap.get? a = some o ∧ TupO o) (hn : ((v :: vs).map (fstV s.heap)).all (·.isSome) = false)
    (q1 : (fstV s.heap v).isSome = true → Q general' s) (q2 : (fstV s.heap v).isSome = false → Q oneType' s) : wpAny (model P w) A (keyKind' (v :: vs).toArray) Q E s := by
  rw [keyKind'_eq, List.mapM_toArray, map_eq_pure_bind]
  refine wpAny_bind (wpAny_bind (firsts_w (v :: vs) h (wpAny_pure ?_)))
  have n1 : ¬ ((((v :: vs).map (fstV s.heap)).toArray.all fun x => x.isSome) = true) := by
    rw [List.all_toArray, hn]
    exact Bool.false_ne_true
  rw [if_neg n1]
  try refine wpAny_bind (wpAny_pure ?_)
  have f0 : (((v :: vs).map (fstV s.heap)).toArray[0]?.bind id) = fstV s.heap v := by simp
  rw [f0]
  cases e : (fstV s.heap v).isSome with
  | true =>
    show wpAny (model P w) A (pure general') Q E s
    exact wpAny_pure (q1 e)
  | false =>
    show wpAny (model P w) A (oneTypeOnly' (v :: vs).toArray >>= fun r => pure (if r.isSome = true then oneType' else general')) Q E s
    rw [oneTypeOnly'_eq, List.mapM_toArray, map_eq_pure_bind]
    refine wpAny_bind (wpAny_bind (wpAny_bind (types_w (v :: vs) h (wpAny_pure ?_))))
    have g0 : ((v :: vs).map fun _ => Value.type "tuple").toArray[0]? = some (Value.type "tuple") := by simp
    rw [g0]
    simp only [tups_all, if_true]
    exact wpAny_pure (wpAny_pure (q2 e))
end
end SX

/-! PEg: lists of such keys sorted; sorted(set(..)). -/
namespace SX
open PySem PySem.Spec PyProof.Rows L2
/-- keys that can be sorted -/
structure SO (P : Program) (w : World) (K : Type) [DecidableEq K] extends SK P w K where
  lt : K → K → Bool
  slo : Slo lt
  good : K → Prop
  srt : ∀ {A : Around} {s : Shared} {vs : List Value} {kv : Value → K}, (∀ v ∈ vs, good (kv v) ∧ ∃ a, v = Value.ref a ∧ k.is s.heap (kv v) a) → 2 ≤ vs.length → A.units + 8 < cLine →
    ∃ κ, (∀ (Q : SortKind → Shared → Prop) (E : Value → Shared → Prop), Q κ s → wpAny (model P w) A (keyKind' vs.toArray) Q E s) ∧ SrtO.Cmp P w A s κ (fun p => p.1 ∈ vs) (SrtO.lt2 fun v u => lt (kv v) (kv u))
section
variable {P : Program} {w : World} {A : Around} {E : Value → Shared → Prop} {s : Shared}
theorem fsts1 {kv : Value → List Int} : ∀ {vs : List Value}, (∀ v ∈ vs, kv v ≠ [] ∧ ∃ a, v = Value.ref a ∧ IsT P w s.heap (kv v) a) → ∃ fs, PySem.W.KatTups s.heap vs fs ∧ fs.length = vs.length ∧ ∀ f ∈ fs, ∃ i t, f = Value.int i t
  | [], _ => ⟨[], PySem.W.KatTups.nil, rfl, fun _ h => by simp at h⟩
  | v :: vs, h => by
    obtain ⟨fs, h1, h2, h3⟩ := fsts1 (vs := vs) fun u hu => h u (List.mem_cons_of_mem _ hu)
    obtain ⟨ne, a, e, o, its, n, ho, hc, hd, hi⟩ := h v List.mem_cons_self
    generalize kv v = k at ne hi
    subst e
    cases hk : its.toList with
    | nil =>
      rw [hk] at hi
      cases hi
      exact absurd rfl ne
    | cons f r =>
      have ii := items_int hi f (by rw [hk]; exact List.mem_cons_self)
      have f0 : its[0]? = some f := by rw [← Array.getElem?_toList, hk]; rfl
      refine ⟨f :: fs, PySem.W.KatTups.cons ho hc hd f0 h1, by rw [List.length_cons, List.length_cons, h2], fun g hg => ?_⟩
      rcases List.mem_cons.mp hg with rfl | hg
      · exact ii
      · exact h3 g hg
theorem fsts2 {kv : Value → List (List Int)} : ∀ {vs : List Value}, (∀ v ∈ vs, kv v ≠ [] ∧ ∃ a, v = Value.ref a ∧ IsT2 P w s.heap (kv v) a) → ∃ fs, PySem.W.KatTups s.heap vs fs ∧ fs.length = vs.length ∧ ∀ f ∈ fs, ∃ k a, f = Value.ref a ∧ IsT P w s.heap k a
  | [], _ => ⟨[], PySem.W.KatTups.nil, rfl, fun _ h => by simp at h⟩
  | v :: vs, h => by
    obtain ⟨fs, h1, h2, h3⟩ := fsts2 (vs := vs) fun u hu => h u (List.mem_cons_of_mem _ hu)
    obtain ⟨ne, a, e, o, its, n, ho, hc, hd, hi⟩ := h v List.mem_cons_self
    generalize kv v = k at ne hi
    subst e
    cases hk : its.toList with
    | nil =>
      rw [hk] at hi
      cases hi
      exact absurd rfl ne
    | cons f r =>
      obtain ⟨k1, c, e1, q1⟩ := hi.refs f (by rw [hk]; exact List.mem_cons_self)
      have f0 : its[0]? = some f := by rw [← Array.getElem?_toList, hk]; rfl
      refine ⟨f :: fs, PySem.W.KatTups.cons ho hc hd f0 h1, by rw [List.length_cons, List.length_cons, h2], fun g hg => ?_⟩
      rcases List.mem_cons.mp hg with rfl | hg
      · exact ⟨k1, c, e1, q1⟩
      · exact h3 g hg
theorem isT_fst {k : List Int} {a : Addr} (h : IsT P w s.heap k a) : (fstV s.heap (.ref a)).isSome = !k.isEmpty := by
  obtain ⟨o, its, n, ho, hc, hd, hi⟩ := h
  rw [fstV_is ho hd, ← Array.getElem?_toList]
  generalize its.toList = l at hi
  cases hi <;> rfl
theorem isT_TupO {k : List Int} {a : Addr} (h : IsT P w s.heap k a) : ∃ o, s.heap.get? a = some o ∧ TupO o := by
  obtain ⟨o, its, n, ho, hc, hd, hi⟩ := h
  exact ⟨o, ho, hc, its, n, hd⟩
end
def O1 (P : Program) (w : World) : SO P w (List Int) where
  toSK := S1 P w
  lt := lt1
  slo := slo1
  good := fun _ => True
  srt := by
    intro A s vs kv h h2 hu
    have hk : ∀ v ∈ vs, ∃ a, v = Value.ref a ∧ IsT P w s.heap (kv v) a := fun v hv => (h v hv).2
    have ho : ∀ u ∈ vs, ∃ a o, u = Value.ref a ∧ s.heap.get? a = some o ∧ TupO o := fun u hu => by
      obtain ⟨a, rfl, q⟩ := hk u hu
      obtain ⟨o, q1, q2⟩ := isT_TupO q
      exact ⟨a, o, rfl, q1, q2⟩
    by_cases c : ∀ v ∈ vs, kv v ≠ []
    · obtain ⟨fs, h1, h3, h4⟩ := fsts1 fun v hv => ⟨c v hv, hk v hv⟩
      refine ⟨tuples' true, fun Q E q => ?_, fun p r hp hr => ?_⟩
      · refine PySem.W.kat_kind (T := .type "int") h1 (by omega) (fun f hm => ?_) (by rfl) ?_
        · obtain ⟨x, t, rfl⟩ := h4 f hm
          exact PySem.W.Looks.now
        · have e : (Value.type "int" != Value.type "tuple") = true := by first | decide +kernel | rfl | decide
          rw [e]
          exact q
      · obtain ⟨a, e1, o1, i1, n1, g1, _, d1, t1⟩ := hk _ hp
        obtain ⟨b, e2, o2, i2, n2, g2, _, d2, t2⟩ := hk _ hr
        show wpAny (model P w) A (keyLt' (tuples' true) p.1 r.1) (fun z s' => s' = s ∧ z = lt1 (kv p.1) (kv r.1)) (fun _ _ => False) s
        generalize kv p.1 = x at t1 ⊢
        generalize kv r.1 = y at t2 ⊢
        rw [e1, e2]
        have l1 := t1.length
        have l2 := t2.length
        exact PySem.W.kat_lt g1 d1 g2 d2 (lex_pairs 0 (ints_of_items t1) (ints_of_items t2) (by rw [l1, l2, Array.length_toList, Array.length_toList]) ⟨rfl, rfl⟩)
    · obtain ⟨v, vs', rfl⟩ : ∃ v vs', vs = v :: vs' := by
        cases vs with
        | nil => simp at h2
        | cons v vs' => exact ⟨v, vs', rfl⟩
      have hn : ((v :: vs').map (fstV s.heap)).all (·.isSome) = false := by
        rw [List.all_eq_false]
        refine Classical.byContradiction fun z => c fun u hu e => z ⟨fstV s.heap u, List.mem_map.mpr ⟨u, hu, rfl⟩, ?_⟩
        obtain ⟨a, rfl, q⟩ := hk u hu
        rw [isT_fst q, e]
        exact Bool.false_ne_true
      cases e : (fstV s.heap v).isSome with
      | true =>
        refine ⟨general', fun Q E q => kind_mixed ho hn (fun _ => q) (fun z => by rw [e] at z; cases z), fun p r hp hr => ?_⟩
        obtain ⟨a, e1, t1⟩ := hk _ hp
        obtain ⟨b, e2, t2⟩ := hk _ hr
        show wpAny (model P w) A (oneLt' false p.1 r.1) (fun z s' => s' = s ∧ z = lt1 (kv p.1) (kv r.1)) (fun _ _ => False) s
        generalize kv p.1 = x at t1 ⊢
        generalize kv r.1 = y at t2 ⊢
        rw [e1, e2]
        exact lt_rows (by omega) t1 t2 ⟨rfl, rfl⟩
      | false =>
        refine ⟨oneType', fun Q E q => kind_mixed ho hn (fun z => by rw [e] at z; cases z) (fun _ => q), fun p r hp hr => ?_⟩
        obtain ⟨a, e1, t1⟩ := hk _ hp
        obtain ⟨b, e2, t2⟩ := hk _ hr
        show wpAny (model P w) A (oneLt' true p.1 r.1) (fun z s' => s' = s ∧ z = lt1 (kv p.1) (kv r.1)) (fun _ _ => False) s
        generalize kv p.1 = x at t1 ⊢
        generalize kv r.1 = y at t2 ⊢
        rw [e1, e2]
        exact lt_rows1 (by omega) t1 t2 ⟨rfl, rfl⟩
def O2 (P : Program) (w : World) : SO P w (List (List Int)) where
  toSK := S2 P w
  lt := lt2
  slo := slo2
  good := fun k => k ≠ []
  srt := by
    intro A s vs kv h h2 hu
    have hk : ∀ v ∈ vs, kv v ≠ [] ∧ ∃ a, v = Value.ref a ∧ IsT2 P w s.heap (kv v) a := h
    obtain ⟨fs, h1, h3, h4⟩ := fsts2 hk
    refine ⟨tuples' false, fun Q E q => ?_, fun p r hp hr => ?_⟩
    · refine PySem.W.kat_kind (T := .type "tuple") h1 (by omega) (fun f hm => ?_) (by rfl) ?_
      · obtain ⟨k, a, rfl, o, its, n, ho, hc, _⟩ := h4 f hm
        have l : PySem.W.Looks (model P w) s.heap (typeOf (.ref a)) o.cls := (PySem.W.Looks.ld ho).andThen .now
        rw [hc] at l
        exact l
      · have e : (Value.type "tuple" != Value.type "tuple") = false := by first | decide +kernel | rfl | decide
        rw [e]
        exact q
    · obtain ⟨_, a, e1, o1, i1, n1, g1, _, d1, t1⟩ := hk _ hp
      obtain ⟨_, b, e2, o2, i2, n2, g2, _, d2, t2⟩ := hk _ hr
      show wpAny (model P w) A (keyLt' (tuples' false) p.1 r.1) (fun z s' => s' = s ∧ z = lt2 (kv p.1) (kv r.1)) (fun _ _ => False) s
      generalize kv p.1 = x at t1 ⊢
      generalize kv r.1 = y at t2 ⊢
      rw [e1, e2]
      have l1 := t1.length
      have l2 := t2.length
      exact PySem.W.kat_lt g1 d1 g2 d2 (lex_rows (by omega) 0 t1 t2 (by rw [l1, l2, Array.length_toList, Array.length_toList]) ⟨rfl, rfl⟩)
end SX

/-! PEh: set(xs) called; sorted of such a set, of a list of such keys. -/
namespace SX
open PySem PySem.Spec PyProof.Rows L2
open PySem Builtin
section
variable {P : Program} {w : World} {A : Around} {E : Value → Shared → Prop} {s : Shared} {K : Type} [DecidableEq K]
/-- what set.__init__ is to do -/
abbrev DoesInit (P : Program) (w : World) (A : Around) (s : Shared) (x : Value) (Rel : Heap → Prop) : Prop := ∀ R : Result → Shared → Prop, (∀ (h' : Heap) (tk : Nat), Rel h' → R (.ok (.ret .none)) { s with heap := h', toks := tk }) →
  wpAny (model P w) A.in1.in1 (Builtin.«set.__init__» ⟨[.ref s.heap.objs.size, x], []⟩) (fun fin s' => match fin with | .done f => R (.ok f) s' | .again c' => c'.quiet = true ∧ codeAny (model P w) A.in1 c' R s') (fun e s' => R (.error e) s') { s with heap := s.heap.push (sO w) }
set_option maxHeartbeats 3200000 in
theorem set_any {x : Value} {Rel : Heap → Prop} {Q : Value → Shared → Prop} (init : DoesInit P w A s x Rel) (q : ∀ (h' : Heap) (tk : Nat), Rel h' → Q (.ref s.heap.objs.size) { s with heap := h', toks := tk }) : wpAny (model P w) A (call (.type "set") [x]) Q E s := by
  obtain ⟨c0, tl0, mro0⟩ := F.called_set.mro
  have made0 := F.called_set.made
  have sub0 := F.called_set.sub
  have nt0 := F.called_set.notType
  have cc0 := F.called_set.canCreate
  have tc0 := F.typeCall_set_1 x
  have il0 := F.called_set.init.lookup
  have ib0 := F.called_set.init.bind (.ref s.heap.objs.size)
  have pl0 := F.called_set.init.plain
  refine wpAny_call (codeAny_of_tree ?_)
  show wpAny _ _ (callAny (.type "set") _) _ _ _
  refine wpAny_pure ⟨Code.quiet_builtin _ (by decide +kernel), codeAny_builtin F.entry_type_call ?_⟩
  rw [Around.under_plain (weight_type_call_type "set" [x] []) rfl]
  repeat (any_goals (first | assumption | wp_step))
  refine codeAny_mono (code_set_led1 x (E := E) (Q₁ := fun ob s1 => ob = .ref s.heap.objs.size ∧ s1 = { s with heap := s.heap.push (sO w) }) ⟨rfl, rfl⟩) fun r s1 hr => ?_
  cases r with
  | error e => exact hr
  | ok fl =>
    cases fl with
    | ret ob =>
      obtain ⟨rfl, rfl⟩ := hr
      have hS : (s.heap.push (sO w)).get? s.heap.objs.size = some (sO w) := Heap.get?_push_size _ rfl
      have hT : Shared.TypeIs { s with heap := s.heap.push (sO w) } (.ref s.heap.objs.size) "set" := ⟨_, hS, rfl⟩
      repeat (any_goals (first | assumption | wp_step))
      refine codeAny_mono (codeAny_call_builtin (R := wants (fun r s2 => r = .none ∧ ∃ h' tk, s2 = { s with heap := h', toks := tk } ∧ Rel h') E) pl0 F.entry_set_init (check_set_init_1 hT (init _ fun h' tk hR => ⟨rfl, h', tk, rfl, hR⟩))) fun r2 s2 hr2 => ?_
      cases r2 with
      | error e => exact hr2
      | ok fl2 =>
        cases fl2 with
        | ret r =>
          obtain ⟨rfl, h3, tk3, rfl, hR⟩ := hr2
          have qq := q h3 tk3 hR
          clear init q
          repeat (any_goals (first | assumption | wp_step))
        | _ => exact hr2.elim
    | _ => exact hr.elim
set_option maxHeartbeats 3200000 in
theorem init_tup {t : Addr} {its : Array Value} {Rel : Heap → Prop} (ht : s.heap.IsTuple t its)
    (loop : codeAny (model P w) A.in1.in1 (.builtin "set.update.loop" ⟨[.ref s.heap.objs.size, .ref (s.heap.push (sO w)).objs.size], []⟩) (fun r s' => r = .ok (.ret .none) ∧ s'.gens = s.gens ∧ s'.drawn = s.drawn ∧ s'.os = s.os ∧ Rel s'.heap) { s with heap := (s.heap.push (sO w)).push { cls := .type "tuple_iterator", data := .fields #[.ref t, .int 0 0] } }) : DoesInit P w A s (.ref t) Rel := by
  intro R q
  obtain ⟨⟨tc, td, tdat, tsl⟩, hot, hct, nt, hdt⟩ := ht
  simp only at hct hdt
  subst hct; subst hdt
  have hS : (s.heap.push (sO w)).get? s.heap.objs.size = some (sO w) := Heap.get?_push_size _ rfl
  have hT : Shared.TypeIs { s with heap := s.heap.push (sO w) } (.ref s.heap.objs.size) "set" := ⟨_, hS, rfl⟩
  have hot2 : (s.heap.push (sO w)).get? t = some { cls := .type "tuple", dict := td, data := .seq its nt, slots := tsl } := Heap.get?_push_of_some _ hot
  have s10 := F.sub_tuple_set
  have s20 := F.sub_tuple_frozenset
  have nd0 : (Value.type "tuple" == Value.type "dict") = false := by decide
  have tup1 : (s.heap.push (sO w)).IsTuple t its := ⟨_, hot2, rfl, nt, rfl⟩
  unfold Builtin.«set.__init__» noKeywords Builtin.Frozenset.updateFrom
  generalize hpi : pyIter = PI
  wp_walk
  subst hpi
  refine wpAny_pyIter_tuple tup1 ?_
  refine wpAny_bind (wpAny_runValue ?_)
  refine codeAny_mono loop fun r s3 h => ?_
  obtain ⟨rfl, g1, g2, g3, hR⟩ := h
  obtain ⟨h3, gs, dr, tk3, os3⟩ := s3
  dsimp only at g1 g2 g3 hR
  subst g1 g2 g3
  show wpAny _ _ _ _ _ _
  refine wpAny_pure ?_
  show wpAny _ _ (ret Value.none) _ _ _
  exact wpAny_pure (q h3 tk3 hR)
set_option maxHeartbeats 3200000 in
theorem init_lst {t : Addr} {its : Array Value} {Rel : Heap → Prop} (ht : s.heap.IsList t its)
    (loop : codeAny (model P w) A.in1.in1 (.builtin "set.update.loop" ⟨[.ref s.heap.objs.size, .ref (s.heap.push (sO w)).objs.size], []⟩) (fun r s' => r = .ok (.ret .none) ∧ s'.gens = s.gens ∧ s'.drawn = s.drawn ∧ s'.os = s.os ∧ Rel s'.heap) { s with heap := (s.heap.push (sO w)).push { cls := .type "list_iterator", data := .fields #[.ref t, .int 0 0] } }) : DoesInit P w A s (.ref t) Rel := by
  intro R q
  obtain ⟨⟨tc, td, tdat, tsl⟩, hot, hct, nt, hdt⟩ := ht
  simp only at hct hdt
  subst hct; subst hdt
  have hS : (s.heap.push (sO w)).get? s.heap.objs.size = some (sO w) := Heap.get?_push_size _ rfl
  have hT : Shared.TypeIs { s with heap := s.heap.push (sO w) } (.ref s.heap.objs.size) "set" := ⟨_, hS, rfl⟩
  have hot2 : (s.heap.push (sO w)).get? t = some { cls := .type "list", dict := td, data := .seq its nt, slots := tsl } := Heap.get?_push_of_some _ hot
  have s10 := F.sub_list_set
  have s20 := F.sub_list_frozenset
  have nd0 : (Value.type "list" == Value.type "dict") = false := by decide
  have tup1 : (s.heap.push (sO w)).IsList t its := ⟨_, hot2, rfl, nt, rfl⟩
  unfold Builtin.«set.__init__» noKeywords Builtin.Frozenset.updateFrom
  generalize hpi : pyIter = PI
  wp_walk
  subst hpi
  refine wpAny_pyIter_list tup1 ?_
  refine wpAny_bind (wpAny_runValue ?_)
  refine codeAny_mono loop fun r s3 h => ?_
  obtain ⟨rfl, g1, g2, g3, hR⟩ := h
  obtain ⟨h3, gs, dr, tk3, os3⟩ := s3
  dsimp only at g1 g2 g3 hR
  subst g1 g2 g3
  show wpAny _ _ _ _ _ _
  refine wpAny_pure ?_
  show wpAny _ _ (ret Value.none) _ _ _
  exact wpAny_pure (q h3 tk3 hR)
theorem call_setK_tup {t : Addr} {its : Array Value} (S : SK P w K) (ks : List (Addr × K)) {Q : Value → Shared → Prop} (hh : A.handled = none) (ht : s.heap.IsTuple t its) (hit : its.toList = ks.map fun p => Value.ref p.1)
    (hk : ∀ p ∈ ks, S.k.is s.heap p.2 p.1) (few : Few 600 ks) (hu : A.units + 12 < cLine)
    (q : ∀ (h' : Heap) (tk : Nat) L es ep tb, SetK S h' s.heap.objs.size L es ep tb → GotK ks ks.length L → (∀ b o, s.heap.get? b = some o → h'.get? b = some o) → Q (.ref s.heap.objs.size) { s with heap := h', toks := tk }) :
    wpAny (model P w) A (call (.type "set") [.ref t]) Q E s := by
  have sz : its.size = ks.length := by
    have e := congrArg List.length hit
    rwa [Array.length_toList, List.length_map] at e
  refine set_any (Rel := fun h' => ∃ L es ep tb, SetK S h' s.heap.objs.size L es ep tb ∧ GotK ks ks.length L ∧ ∀ b o, s.heap.get? b = some o → h'.get? b = some o) (init_tup ht ?_) fun h' tk ⟨L, es, ep, tb, c1, c2, c3⟩ => q h' tk L es ep tb c1 c2 c3
  obtain ⟨o0, hot, hct, nt, hdt⟩ := id ht
  have hS : (s.heap.push (sO w)).get? s.heap.objs.size = some (sO w) := Heap.get?_push_size _ rfl
  have tup1 : (s.heap.push (sO w)).IsTuple t its := ⟨o0, Heap.get?_push_of_some _ hot, hct, nt, hdt⟩
  have lt0 : t < s.heap.objs.size := Heap.lt_size hot
  have hh3 : A.in1.in1.in1.handled = none := by simp [hh]
  have ne0 : t ≠ (s.heap.push (sO w)).objs.size := by
    rw [Heap.size_push]
    exact Nat.ne_of_lt (Nat.lt_succ_of_lt lt0)
  have nf0 : s.heap.objs.size ∉ [(s.heap.push (sO w)).objs.size, t] := by
    rw [Heap.size_push]
    intro hm
    rcases List.mem_cons.mp hm with e | hm
    · exact Nat.ne_of_lt (Nat.lt_succ_self _) e
    · exact Nat.ne_of_gt lt0 (List.mem_singleton.mp hm)
  have vals0 : ∀ (i : Nat) (v : Value), its[i]? = some v → ∃ p, ks[i]? = some p ∧ v = .ref p.1 := fun i v hv => by
    have e : its.toList[i]? = some v := by rw [Array.getElem?_toList]; exact hv
    rw [hit, List.getElem?_map] at e
    cases hq : ks[i]? with
    | none => rw [hq] at e; cases e
    | some p =>
      rw [hq] at e
      exact ⟨p, rfl, (Option.some.inj e).symm⟩
  have gone : ∀ b, s.heap.objs.size ≤ b → s.heap.get? b = none := fun b hb => by
    cases e : s.heap.get? b with
    | none => rfl
    | some o => exact absurd (Nat.lt_of_lt_of_le (Heap.lt_size e) hb) (Nat.lt_irrefl _)
  refine upd_loop (S := S) ((Walks.tuple hh3 _ t ne0 its).toS) s.heap.objs.size nf0 ks sz few vals0 s.heap hk (gone _ (Nat.le_refl _)) (fun b hb => gone b (by rw [List.mem_singleton.mp hb, Heap.size_push]; exact Nat.le_succ _)) (by simp only [Around.in1_units]; omega) (its.size - 0) 0 _ (by omega) (Nat.zero_le _) ⟨⟨_, Heap.get?_push_size _ rfl, rfl, rfl⟩, (tup1.push _)⟩ (fun b o e => Heap.get?_push_of_some _ (Heap.get?_push_of_some _ e)) ?st0 ?fin0
  case st0 => exact ⟨[], #[], 0, _, setK_new (Heap.get?_push_of_some _ hS), ⟨fun p h => (by cases h), fun p h => (by simp at h)⟩⟩
  case fin0 =>
    intro s3 L es ep tb hm hS3 g3 k3
    rw [sz] at g3
    exact ⟨rfl, hm.gens, hm.drawn, hm.os, L, es, ep, tb, hS3, g3, k3⟩
theorem call_setK_lst {t : Addr} {its : Array Value} (S : SK P w K) (ks : List (Addr × K)) {Q : Value → Shared → Prop} (hh : A.handled = none) (ht : s.heap.IsList t its) (hit : its.toList = ks.map fun p => Value.ref p.1)
    (hk : ∀ p ∈ ks, S.k.is s.heap p.2 p.1) (few : Few 600 ks) (hu : A.units + 12 < cLine)
    (q : ∀ (h' : Heap) (tk : Nat) L es ep tb, SetK S h' s.heap.objs.size L es ep tb → GotK ks ks.length L → (∀ b o, s.heap.get? b = some o → h'.get? b = some o) → Q (.ref s.heap.objs.size) { s with heap := h', toks := tk }) :
    wpAny (model P w) A (call (.type "set") [.ref t]) Q E s := by
  have sz : its.size = ks.length := by
    have e := congrArg List.length hit
    rwa [Array.length_toList, List.length_map] at e
  refine set_any (Rel := fun h' => ∃ L es ep tb, SetK S h' s.heap.objs.size L es ep tb ∧ GotK ks ks.length L ∧ ∀ b o, s.heap.get? b = some o → h'.get? b = some o) (init_lst ht ?_) fun h' tk ⟨L, es, ep, tb, c1, c2, c3⟩ => q h' tk L es ep tb c1 c2 c3
  obtain ⟨o0, hot, hct, nt, hdt⟩ := id ht
  have hS : (s.heap.push (sO w)).get? s.heap.objs.size = some (sO w) := Heap.get?_push_size _ rfl
  have tup1 : (s.heap.push (sO w)).IsList t its := ⟨o0, Heap.get?_push_of_some _ hot, hct, nt, hdt⟩
  have lt0 : t < s.heap.objs.size := Heap.lt_size hot
  have hh3 : A.in1.in1.in1.handled = none := by simp [hh]
  have ne0 : t ≠ (s.heap.push (sO w)).objs.size := by
    rw [Heap.size_push]
    exact Nat.ne_of_lt (Nat.lt_succ_of_lt lt0)
  have nf0 : s.heap.objs.size ∉ [(s.heap.push (sO w)).objs.size, t] := by
    rw [Heap.size_push]
    intro hm
    rcases List.mem_cons.mp hm with e | hm
    · exact Nat.ne_of_lt (Nat.lt_succ_self _) e
    · exact Nat.ne_of_gt lt0 (List.mem_singleton.mp hm)
  have vals0 : ∀ (i : Nat) (v : Value), its[i]? = some v → ∃ p, ks[i]? = some p ∧ v = .ref p.1 := fun i v hv => by
    have e : its.toList[i]? = some v := by rw [Array.getElem?_toList]; exact hv
    rw [hit, List.getElem?_map] at e
    cases hq : ks[i]? with
    | none => rw [hq] at e; cases e
    | some p =>
      rw [hq] at e
      exact ⟨p, rfl, (Option.some.inj e).symm⟩
  have gone : ∀ b, s.heap.objs.size ≤ b → s.heap.get? b = none := fun b hb => by
    cases e : s.heap.get? b with
    | none => rfl
    | some o => exact absurd (Nat.lt_of_lt_of_le (Heap.lt_size e) hb) (Nat.lt_irrefl _)
  refine upd_loop (S := S) ((Walks.list hh3 _ t ne0 its).toS) s.heap.objs.size nf0 ks sz few vals0 s.heap hk (gone _ (Nat.le_refl _)) (fun b hb => gone b (by rw [List.mem_singleton.mp hb, Heap.size_push]; exact Nat.le_succ _)) (by simp only [Around.in1_units]; omega) (its.size - 0) 0 _ (by omega) (Nat.zero_le _) ⟨⟨_, Heap.get?_push_size _ rfl, rfl, rfl⟩, (tup1.push _)⟩ (fun b o e => Heap.get?_push_of_some _ (Heap.get?_push_of_some _ e)) ?st0 ?fin0
  case st0 => exact ⟨[], #[], 0, _, setK_new (Heap.get?_push_of_some _ hS), ⟨fun p h => (by cases h), fun p h => (by simp at h)⟩⟩
  case fin0 =>
    intro s3 L es ep tb hm hS3 g3 k3
    rw [sz] at g3
    exact ⟨rfl, hm.gens, hm.drawn, hm.os, L, es, ep, tb, hS3, g3, k3⟩
/-! ### sorted -/
open Classical in
/-- the key that stands at a value -/
noncomputable def keyAt [Inhabited K] (S : SK P w K) (h : Heap) : Value → K
  | .ref a => if q : ∃ x, S.k.is h x a then Classical.choose q else default
  | _ => default
theorem keyAt_is [Inhabited K] {S : SK P w K} {h : Heap} {x : K} {a : Addr} (q : S.k.is h x a) : keyAt S h (.ref a) = x := by
  unfold keyAt
  dsimp only
  have e : ∃ x, S.k.is h x a := ⟨x, q⟩
  rw [dif_pos e]
  exact S.k.inj (Classical.choose_spec e) q
def adr : Value → Addr
  | .ref a => a
  | _ => 0
theorem back_pairs [Inhabited K] {S : SK P w K} {h : Heap} {ks : List (Addr × K)} (hk : ∀ p ∈ ks, S.k.is h p.2 p.1) {out : List Value} (pm : out.Perm (ks.map fun p => Value.ref p.1)) :
    ∃ L : List (Addr × K), out = L.map (fun p => Value.ref p.1) ∧ L.Perm ks ∧ ∀ p ∈ L, p.2 = keyAt S h (.ref p.1) := by
  have e1 : ks = (ks.map fun p => Value.ref p.1).map fun v => (adr v, keyAt S h v) := by
    rw [List.map_map]
    conv => lhs; rw [← List.map_id ks]
    refine List.map_congr_left fun p hp => ?_
    show p = (p.1, keyAt S h (.ref p.1))
    rw [keyAt_is (hk p hp)]
  have refs : ∀ v ∈ out, ∃ a, v = Value.ref a := fun v hv => by
    obtain ⟨p, _, rfl⟩ := List.mem_map.mp (pm.mem_iff.mp hv)
    exact ⟨_, rfl⟩
  refine ⟨out.map fun v => (adr v, keyAt S h v), ?_, ?_, fun p hp => ?_⟩
  · rw [List.map_map]
    conv => lhs; rw [← List.map_id out]
    refine List.map_congr_left fun v hv => ?_
    obtain ⟨a, rfl⟩ := refs v hv
    rfl
  · rw [e1]
    exact pm.map _
  · obtain ⟨v, hv, rfl⟩ := List.mem_map.mp hp
    obtain ⟨a, rfl⟩ := refs v hv
    rfl
theorem vals_srt [Inhabited K] {O : SO P w K} {h : Heap} {ks : List (Addr × K)} (hk : ∀ p ∈ ks, O.k.is h p.2 p.1) {out : List Value} (hs : SrtO.Srtd (fun v u => O.lt (keyAt O.toSK h v) (keyAt O.toSK h u)) out) (pm : out.Perm (ks.map fun p => Value.ref p.1)) :
    ∃ L : List (Addr × K), out = L.map (fun p => Value.ref p.1) ∧ L.Perm ks ∧ L.Pairwise fun p q => O.lt q.2 p.2 = false := by
  obtain ⟨L, e, p1, p2⟩ := back_pairs (S := O.toSK) hk pm
  refine ⟨L, e, p1, ?_⟩
  rw [e] at hs
  refine List.Pairwise.imp_of_mem (fun {p q} hp hq z => ?_) (List.pairwise_map.mp hs)
  rw [p2 p hp, p2 q hq]
  exact z
theorem sortable_keys [Inhabited K] {O : SO P w K} {a : Addr} {ks : List (Addr × K)} (hk : ∀ p ∈ ks, O.k.is s.heap p.2 p.1) (hg : ∀ p ∈ ks, O.good p.2) (h2 : 2 ≤ ks.length) (hu : A.units + 8 < cLine) (ha : ∀ o, s.heap.get? a = some o → ¬ TupO o) (h0 : Heap) (hk0 : ∀ p ∈ ks, O.k.is h0 p.2 p.1) :
    SrtO.SortableO P w A s a (ks.map fun p => Value.ref p.1) fun v u => O.lt (keyAt O.toSK h0 v) (keyAt O.toSK h0 u) := by
  intro h' keep
  refine O.srt (fun v hv => ?_) (by rw [List.length_map]; exact h2) hu
  obtain ⟨p, hp, rfl⟩ := List.mem_map.mp hv
  have e : keyAt O.toSK h0 (.ref p.1) = p.2 := keyAt_is (S := O.toSK) (hk0 p hp)
  refine ⟨by rw [e]; exact hg p hp, p.1, rfl, ?_⟩
  rw [e]
  exact O.fr (hk p hp) fun b o q t => keep b o (fun z => by subst z; exact ha o q t) q
theorem list_not {a : Addr} {vs : Array Value} {n : Nat} {h : Heap} (e : h.get? a = some (seqObj "list" vs n)) : ∀ o, h.get? a = some o → ¬ TupO o := fun o q t => by
  rw [e] at q
  cases q
  exact absurd (Value.type.inj t.1) (by decide)
/-- sorted(l) of such keys -/
theorem sorted_keys [Inhabited K] (O : SO P w K) {l : Addr} {ks : List (Addr × K)} {Q : Value → Shared → Prop} (hl : s.heap.IsList l (ks.map fun p => Value.ref p.1).toArray) (hz : ks.length ≤ sizeLine) (hk : ∀ p ∈ ks, O.k.is s.heap p.2 p.1) (hg : ∀ p ∈ ks, O.good p.2) (hu : A.units + 12 < cLine)
    (h : ∀ (h' : Heap) (d : Addr) (L : List (Addr × K)), L.Perm ks → L.Pairwise (fun p q => O.lt q.2 p.2 = false) → (∀ b o, s.heap.get? b = some o → h'.get? b = some o) → s.heap.objs.size ≤ d → (∃ n, h'.get? d = some (seqObj "list" (L.map fun p => Value.ref p.1).toArray n)) → Q (.ref d) { s with heap := h' }) :
    wpAny (model P w) A (call (.builtin "sorted") [.ref l]) Q E s := by
  refine SrtO.sorted_ord (ltv := fun v u => O.lt (keyAt O.toSK s.heap v) (keyAt O.toSK s.heap u)) ⟨fun x y => O.slo.swo.asym _ _, fun x y z => O.slo.swo.tr _ _ _⟩ hl (by rw [List.length_map]; exact hz) (fun h2 h₁ a ha kk => ?_) fun out hs hb => ?_
  · rw [List.length_map] at h2
    exact sortable_keys (s := { s with heap := h₁ }) (fun p hp => O.fr (hk p hp) fun b o e _ => (kk b o e).2) hg h2 (by simp only [Around.in1_units]; omega) (list_not ha) s.heap hk
  · obtain ⟨L, e, p1, p2⟩ := vals_srt (O := O) hk hs hb.perm
    subst e
    exact h _ _ L p1 p2 (fun b o e => sortedAll_old e) (Nat.le_succ _) (sortedAll_at s.heap _ _)
/-- sorted(s) of a set of such keys -/
theorem sorted_setK [Inhabited K] (O : SO P w K) {a : Addr} {L : List (Addr × K)} {es : Array (Int × Value)} {ep : Nat} {t : SetTable} {Q : Value → Shared → Prop} (R : SetK O.toSK s.heap a L es ep t) (hh : A.handled = none) (hg : ∀ p ∈ L, O.good p.2) (hu : A.units + 12 < cLine)
    (hQ : ∀ (s' : Shared) (p : Addr) (c : Nat) (L' : List (Addr × K)), (∀ b o, s.heap.get? b = some o → s'.heap.get? b = some o) → s'.gens = s.gens → s'.os = s.os → s.heap.objs.size ≤ p → s'.heap.get? p = some (seqObj "list" (L'.map fun q => Value.ref q.1).toArray c) → L'.Perm L → L'.Pairwise (fun q r => O.lt q.2 r.2 = true) → Q (.ref p) s') :
    wpAny (model P w) A (call (.builtin "sorted") [.ref a]) Q E s := by
  obtain ⟨o, ho, hex, hd⟩ := R.ob
  have few := R.few
  refine Calls.call_function_entry kind_sorted plain_sorted entry_sorted (args_sorted1 _) ?_
  unfold Builtin.«sorted»
  refine wpAny_bind (m := checkCount "sorted" 1 1 _) (wpAny_pure ?_)
  refine wpAny_bind (collect_set (A := A.in1) hh ⟨o, ho, hex.1, hd⟩ R.fits (by rw [R.size]; unfold scanBound; omega) R.tab.up R.led fun s1 vs k1 z1 g1 o1 pm => ?_)
  have e0 : es.toList.map (·.2) = L.map fun q => Value.ref q.1 := by
    rw [R.rows]
    unfold rowsK
    rw [List.map_map]
    rfl
  rw [e0] at pm
  obtain ⟨M, rfl, m1, m2⟩ := back_pairs (S := O.toSK) R.key pm
  have ml : M.length < 600 := by rw [m1.length_eq]; exact few
  refine wpAny_bind (wpAny_newList ?_ (by rw [List.length_map, sizeLine_eq]; omega))
  have oL : (s1.heap.push (seqObj "list" (M.map fun p => Value.ref p.1).toArray 0)).get? s1.heap.objs.size = some (seqObj "list" (M.map fun p => Value.ref p.1).toArray 0) := Heap.get?_push_size _ rfl
  have mk : ∀ p ∈ M, O.k.is (s1.heap.push (seqObj "list" (M.map fun p => Value.ref p.1).toArray 0)) p.2 p.1 := fun p hp => keep_key (S := O.toSK) (R.key p (m1.mem_iff.mp hp)) fun b u e => Heap.get?_push_of_some _ (k1 b u e)
  refine wpAny_bind (wpAny_holding (wpAny_call_entry slot_list_sort ⟨_, oL, rfl⟩ entry_list_sort (SrtO.list_sort_ord (s := { s1 with heap := s1.heap.push (seqObj "list" (M.map fun p => Value.ref p.1).toArray 0) }) (ltv := fun v u => O.lt (keyAt O.toSK s.heap v) (keyAt O.toSK s.heap u)) ⟨fun x y => O.slo.swo.asym _ _, fun x y z => O.slo.swo.tr _ _ _⟩ oL (by rw [List.length_map, sizeLine_eq]; omega) (fun h2 => ?_) fun out hs hb => ⟨_, rfl, ?_⟩) (args_list_sort _)))
  · rw [List.length_map] at h2
    exact sortable_keys (s := { s1 with heap := s1.heap.push (seqObj "list" (M.map fun p => Value.ref p.1).toArray 0) }) mk (fun p hp => hg p (m1.mem_iff.mp hp)) h2 (by simp only [Around.in1_units]; omega) (list_not oL) s.heap fun p hp => R.key p (m1.mem_iff.mp hp)
  · obtain ⟨L', e', p1, p2⟩ := vals_srt (O := O) (h := s.heap) (fun p hp => R.key p (m1.mem_iff.mp hp)) hs hb.perm
    subst e'
    obtain ⟨c, hc⟩ := sortedHeap_at (vs := M.map fun p => Value.ref p.1) (out := (L'.map fun p => Value.ref p.1).toArray) oL
    have pL := p1.trans m1
    have nd : (L'.map (·.2)).Nodup := (pL.map (·.2)).nodup_iff.mpr R.nd
    have st : L'.Pairwise fun q r => O.lt q.2 r.2 = true := by
      have z := List.pairwise_map.mp nd
      refine List.Pairwise.imp (fun {q r} h => ?_) (List.pairwise_and_iff.mpr ⟨p2, z⟩)
      cases e : O.lt q.2 r.2 with
      | true => rfl
      | false => exact absurd (O.slo.tri _ _ e h.1) h.2
    refine wpAny_pure ⟨_, rfl, hQ _ s1.heap.objs.size c L' (fun b u e => ?_) g1 o1 z1 hc pL st⟩
    have q := k1 b u e
    have lt := Heap.lt_size q
    show (sortedHeap (s1.heap.push (seqObj "list" (M.map fun p => Value.ref p.1).toArray 0)) s1.heap.objs.size (M.map fun p => Value.ref p.1) (L'.map fun p => Value.ref p.1).toArray).get? b = some u
    rw [sortedHeap_old (Nat.ne_of_lt lt) (by rw [size_push']; exact Nat.lt_succ_of_lt lt)]
    exact Heap.get?_push_of_some _ q
end
end SX

/-! PEi: sorted(set(e)), sorted(e) in the layer: ints, tuples of ints, tuples of those. -/
namespace SX
open PySem PySem.Spec PyProof.Rows L2
section
variable {P : Program} {w : World} {K : Type} [DecidableEq K]
/-- the set at a, without its keys' own objects -/
structure SetK0 (S : SK P w K) (h : Heap) (a : Addr) (L : List (Addr × K)) : Prop where
  ex : ∃ (es : Array (Int × Value)) (ep : Nat) (t : SetTable), (∃ o, h.get? a = some o ∧ o.ExactSet ∧ o.data = .set es ep t) ∧ es.toList = rowsK S L ∧ Tab t (L.map fun p => S.k.hash p.2) ∧ (L.map (·.2)).Nodup ∧ t.plain = true ∧
    (w.params.followText "set-order" = true ∨ t.led = true) ∧ L.length * 5 < t.mask * 3 ∧ L.length < 600
def SetKO (S : SK P w K) (a : Addr) (L : List (Addr × K)) : HO := .ext fun h => SetK0 S h a L
theorem SetK.k0 {S : SK P w K} {h : Heap} {a : Addr} {L : List (Addr × K)} {es : Array (Int × Value)} {ep : Nat} {t : SetTable} (R : SetK S h a L es ep t) : SetK0 S h a L := ⟨es, ep, t, R.ob, R.rows, R.tab, R.nd, R.plain, R.led, R.room, R.few⟩
theorem SetK0.all {S : SK P w K} {h : Heap} {a : Addr} {L : List (Addr × K)} (R : SetK0 S h a L) (ht : ∀ p ∈ L, S.k.is h p.2 p.1) : ∃ es ep t, SetK S h a L es ep t := by
  obtain ⟨es, ep, t, h1, h2, h3, h4, h5, h6, h7, h8⟩ := R.ex
  exact ⟨es, ep, t, h1, h2, h3, h4, ht, h5, h6, h7, h8⟩
theorem setKO_new {S : SK P w K} {H : Hp} {h : Heap} {a : Addr} {L : List (Addr × K)} (R : SetK0 S h a L) : ObjOk P w H h a (SetKO S a L) := by
  have ⟨es, ep, t, ⟨o, ho, r⟩, q⟩ := R.ex
  refine ⟨R, ⟨o, ho⟩, fun h1 h2 p k => ?_⟩
  have ⟨es2, ep2, t2, ⟨o2, ho2, r2⟩, q2⟩ := SetK0.ex p
  exact ⟨es2, ep2, t2, ⟨o2, k o2 ho2, r2⟩, q2⟩
theorem vals_refs {K : Type} : ∀ {ks : List (Addr × K)} {us : List Value}, Vals (ks.map fun p => V.ref p.1) us → us = ks.map fun p => Value.ref p.1
  | [], _, .nil => rfl
  | p :: ks, _, .cons r t => by
    cases r
    rw [vals_refs t]
    rfl
theorem refs_vals {K : Type} : ∀ (ks : List (Addr × K)), Vals (ks.map fun p => V.ref p.1) (ks.map fun p => Value.ref p.1)
  | [] => .nil
  | p :: ks => .cons rfl (refs_vals ks)
end
/-- what a key is in the abstract heap -/
structure HK (X : Cx) {K : Type} [DecidableEq K] (O : SO X.prog X.w K) (R : Hp → K → Addr → Prop) : Prop where
  to : ∀ {pins : List (Addr × PySem.Obj)} {σ : L2.St} {H : Hp} {s : Shared} {k : K} {a : Addr}, Inv X pins σ H s → R H k a → O.k.is s.heap k a
  up : ∀ {H : Hp} {k : K} {a b : Addr} {o : HO}, H b = none → R H k a → R (upd H b o) k a
def R1 (K : PySem.W.Frag) (H : Hp) (k : List Int) (a : Addr) : Prop := SqT K H a (k.map V.int)
def R2 (K : PySem.W.Frag) (H : Hp) (ks : List (List Int)) (a : Addr) : Prop := ∃ bs : List Addr, SqT K H a (bs.map V.ref) ∧ Paired (R1 K H) ks bs
theorem sqT_up {K : PySem.W.Frag} {H : Hp} {a b : Addr} {xs : List V} {o : HO} (hb : H b = none) (h : SqT K H a xs) : SqT K (upd H b o) a xs := by
  refine h.imp (fun q => ?_) id
  have ne : ∀ u, H a = some u → a ≠ b := fun u e z => by rw [z, hb] at e; cases e
  rcases q with q | ⟨o2, q⟩
  · exact .inl (by rw [upd_ne (ne _ q)]; exact q)
  · exact .inr ⟨o2, by rw [upd_ne (ne _ q)]; exact q⟩
theorem hk1 (X : Cx) : HK X (O1 X.prog X.w) (R1 X.K) := ⟨fun I h => I.isT h, fun hb h => sqT_up hb h⟩
theorem pair_up {K : PySem.W.Frag} {H : Hp} {b : Addr} {o : HO} (hb : H b = none) : ∀ {ks : List (List Int)} {bs : List Addr}, Paired (R1 K H) ks bs → Paired (R1 K (upd H b o)) ks bs
  | _, _, .nil => .nil
  | _, _, .cons h t => .cons (sqT_up hb h) (pair_up hb t)
theorem rows2_of {X : Cx} {pins : List (Addr × PySem.Obj)} {σ : L2.St} {H : Hp} {s : Shared} (I : Inv X pins σ H s) : ∀ {ks : List (List Int)} {bs : List Addr} {its : List Value}, Paired (R1 X.K H) ks bs → Vals (bs.map V.ref) its → Rows2 X.prog X.w s.heap ks its
  | _, _, _, .nil, .nil => .nil
  | _, _, _, .cons h t, .cons r q => by
    cases r
    exact .cons (I.isT h) (rows2_of I t q)
theorem hk2 (X : Cx) : HK X (O2 X.prog X.w) (R2 X.K) := ⟨fun {pins σ H s k a} I ⟨bs, h, p⟩ => by
  obtain ⟨its, r, ⟨o, ho, hc, n, hd⟩, _⟩ := I.tuple h
  exact ⟨o, its.toArray, n, ho, hc, hd, rows2_of I p r⟩, fun hb ⟨bs, h, p⟩ => ⟨bs, sqT_up hb h, pair_up hb p⟩⟩
section
variable {X : Cx} {K : Type} [DecidableEq K] [Inhabited K] {O : SO X.prog X.w K} {R : Hp → K → Addr → Prop}
/-- set(xs) of keys -/
def rSetK (R : Hp → K → Addr → Prop) (O : SO X.prog X.w K) (T : Hp → Addr → List V → Prop) : List V → Hp → VK → Prop := fun xs H Q => ∃ (l : Addr) (ks : List (Addr × K)), xs = [V.ref l] ∧ T H l (ks.map fun p => V.ref p.1) ∧ (∀ p ∈ ks, R H p.2 p.1) ∧ Few 600 ks ∧
  ∀ a L, H a = none → (∀ p ∈ L, p ∈ ks) → (∀ p ∈ ks, p.2 ∈ L.map (·.2)) → Q (.ref a) (upd H a (SetKO O.toSK a L))
theorem cr_setKT (B : HK X O R) (hc : X.calm = true) (hu : X.A.units + 64 < cLine) : CallR X (.type "set") (rSetK R O (SqT X.K)) := by
  intro pins s σ H xs us Q I r h
  obtain ⟨l, ks, rfl, hl, hk, few, q⟩ := h
  rw [Vals.ref1 r]
  obtain ⟨its, rv, pl, hz⟩ := I.tuple hl
  have hn : H s.heap.objs.size = none := I.hok.fresh (Nat.le_refl _)
  refine call_setK_tup O.toSK ks (I.ok.hd hc) pl (by simpa using vals_refs rv) (fun p hp => B.to I (hk p hp)) few (by omega) fun h' tk L es ep t C g k => ?_
  exact ⟨.ref s.heap.objs.size, _, I.laid (t' := tk) k (Nat.le_refl _) (setKO_new C.k0), rfl, q _ L hn (fun p hp => List.mem_of_mem_take (g.sub p hp)) fun p hp => g.all p (by rw [List.take_length]; exact hp)⟩
theorem cr_setKL (B : HK X O R) (hc : X.calm = true) (hu : X.A.units + 64 < cLine) : CallR X (.type "set") (rSetK R O (SqL X.K)) := by
  intro pins s σ H xs us Q I r h
  obtain ⟨l, ks, rfl, hl, hk, few, q⟩ := h
  rw [Vals.ref1 r]
  obtain ⟨its, rv, pl, hz⟩ := I.list hl
  have hn : H s.heap.objs.size = none := I.hok.fresh (Nat.le_refl _)
  refine call_setK_lst O.toSK ks (I.ok.hd hc) pl.isList (by simpa using vals_refs rv) (fun p hp => B.to I (hk p hp)) few (by omega) fun h' tk L es ep t C g k => ?_
  exact ⟨.ref s.heap.objs.size, _, I.laid (t' := tk) k (Nat.le_refl _) (setKO_new C.k0), rfl, q _ L hn (fun p hp => List.mem_of_mem_take (g.sub p hp)) fun p hp => g.all p (by rw [List.take_length]; exact hp)⟩
/-- sorted of such a set -/
def rSrtSetK (R : Hp → K → Addr → Prop) (O : SO X.prog X.w K) : List V → Hp → VK → Prop := fun xs H Q => ∃ (a : Addr) (L : List (Addr × K)), xs = [V.ref a] ∧ H a = some (SetKO O.toSK a L) ∧ (∀ p ∈ L, R H p.2 p.1) ∧ (∀ p ∈ L, O.good p.2) ∧
  ∀ (L' : List (Addr × K)) (p : Addr), L'.Perm L → L'.Pairwise (fun q r => O.lt q.2 r.2 = true) → H p = none → Q (.ref p) (upd H p (.lst (L'.map fun q => V.ref q.1)))
theorem cr_srtSetK (B : HK X O R) (hc : X.calm = true) (hu : X.A.units + 64 < cLine) : CallR X (.builtin "sorted") (rSrtSetK R O) := by
  intro pins s σ H xs us Q I r h
  obtain ⟨a, L, rfl, ha, hk, hg, q⟩ := h
  rw [Vals.ref1 r]
  have C : SetK0 O.toSK s.heap a L := (I.hok a _ ha).1
  obtain ⟨es, ep, t, C⟩ := C.all fun p hp => B.to I (hk p hp)
  have few := C.few
  refine sorted_setK O C (I.ok.hd hc) hg (by omega) fun s' p c L' k g o hp hat pm pw => ?_
  have len : (L'.map fun q => V.ref q.1).length ≤ sizeLine := by rw [List.length_map, pm.length_eq, sizeLine_eq]; omega
  have hn : H p = none := I.hok.fresh hp
  have J : Inv X pins σ (upd H p (.lst (L'.map fun q => V.ref q.1))) { s with heap := s'.heap, gens := s'.gens, drawn := s'.drawn, toks := s'.toks } :=
    I.call (ch := []) (Un.laid k hp hn) (I.hok.laid k hp ⟨len, _, c, refs_vals L', hat⟩) (by rw [g]; exact I.bare) (fun _ z => nomatch z)
  have e : s' = { s with heap := s'.heap, gens := s'.gens, drawn := s'.drawn, toks := s'.toks } := by
    cases s'
    cases s
    cases o
    rfl
  rw [e]
  exact ⟨.ref p, _, J, rfl, q L' p pm pw hn⟩
/-- sorted of a list of keys -/
def rSrtK (R : Hp → K → Addr → Prop) (K0 : PySem.W.Frag) (O : SO X.prog X.w K) : List V → Hp → VK → Prop := fun xs H Q => ∃ (l : Addr) (ks : List (Addr × K)), xs = [V.ref l] ∧ SqL K0 H l (ks.map fun p => V.ref p.1) ∧ (∀ p ∈ ks, R H p.2 p.1) ∧ (∀ p ∈ ks, O.good p.2) ∧
  ∀ (L : List (Addr × K)) (p : Addr), L.Perm ks → L.Pairwise (fun q r => O.lt r.2 q.2 = false) → H p = none → Q (.ref p) (upd H p (.lst (L.map fun q => V.ref q.1)))
theorem cr_srtK (B : HK X O R) (hu : X.A.units + 64 < cLine) : CallR X (.builtin "sorted") (rSrtK R X.K O) := by
  intro pins s σ H xs us Q I r h
  obtain ⟨l, ks, rfl, hl, hk, hg, q⟩ := h
  rw [Vals.ref1 r]
  obtain ⟨its, rv, pl, hz⟩ := I.list hl
  rw [List.length_map] at hz
  have e0 := vals_refs rv
  subst e0
  refine sorted_keys O pl.isList hz (fun p hp => B.to I (hk p hp)) hg (by omega) fun h' d L pm pw k hp ⟨n, hat⟩ => ?_
  have len : (L.map fun q => V.ref q.1).length ≤ sizeLine := by rw [List.length_map, pm.length_eq]; exact hz
  exact ⟨.ref d, _, I.laid (t' := s.toks) (o := .lst (L.map fun q => V.ref q.1)) k hp ⟨len, _, n, refs_vals L, hat⟩, rfl, q L d pm pw (I.hok.fresh hp)⟩
end
end SX

/-! PEj: sorted(set(e)), sorted(e) in the layer. -/
namespace PD
open PySem PySem.Spec PyProof.Rows L2 SX
section
variable {α : Type} [DecidableEq α] {lt : α → α → Bool}
def insG (lt : α → α → Bool) (x : α) : List α → List α
  | [] => [x]
  | y :: ys => if lt x y then x :: y :: ys else if x = y then y :: ys else y :: insG lt x ys
def usortG (lt : α → α → Bool) : List α → List α
  | [] => []
  | x :: xs => insG lt x (usortG lt xs)
abbrev RiseG (lt : α → α → Bool) (l : List α) : Prop := l.Pairwise fun x y => lt x y = true
theorem insG_mem {x z : α} : ∀ {l : List α}, z ∈ insG lt x l ↔ z = x ∨ z ∈ l
  | [] => by simp [insG]
  | y :: ys => by
    unfold insG
    split
    · simp
    · split
      · rename_i _ e
        subst e
        simp
      · rw [List.mem_cons, insG_mem, List.mem_cons]
        constructor
        · rintro (h | h | h)
          · exact .inr (.inl h)
          · exact .inl h
          · exact .inr (.inr h)
        · rintro (h | h | h)
          · exact .inr (.inl h)
          · exact .inl h
          · exact .inr (.inr h)
theorem usortG_mem {z : α} : ∀ {l : List α}, z ∈ usortG lt l ↔ z ∈ l
  | [] => by simp [usortG]
  | x :: xs => by
    show z ∈ insG lt x (usortG lt xs) ↔ _
    rw [insG_mem, usortG_mem, List.mem_cons]
theorem insG_rise (O : Slo lt) {x : α} : ∀ {l : List α}, RiseG lt l → RiseG lt (insG lt x l)
  | [], _ => by simp [insG]
  | y :: ys, h => by
    have h1 := List.pairwise_cons.mp h
    unfold insG
    split
    · rename_i q
      refine List.pairwise_cons.mpr ⟨fun z hz => ?_, h⟩
      rcases List.mem_cons.mp hz with rfl | hz
      · exact q
      · exact O.tr _ _ _ q (h1.1 z hz)
    · split
      · exact h
      · rename_i q1 q2
        refine List.pairwise_cons.mpr ⟨fun z hz => ?_, insG_rise O h1.2⟩
        rcases insG_mem.mp hz with rfl | hz
        · cases e : lt y z with
          | true => rfl
          | false => exact absurd (O.tri z y (by simpa using q1) e) q2
        · exact h1.1 z hz
theorem usortG_rise (O : Slo lt) : ∀ (l : List α), RiseG lt (usortG lt l)
  | [] => .nil
  | x :: xs => insG_rise O (usortG_rise O xs)
theorem riseG_same (O : Slo lt) : ∀ {l k : List α}, RiseG lt l → RiseG lt k → (∀ z, z ∈ l ↔ z ∈ k) → l = k
  | [], [], _, _, _ => rfl
  | [], y :: ys, _, _, h => absurd ((h y).mpr (List.mem_cons_self ..)) (by simp)
  | x :: xs, [], _, _, h => absurd ((h x).mp (List.mem_cons_self ..)) (by simp)
  | x :: xs, y :: ys, h1, h2, h => by
    have a1 := List.pairwise_cons.mp h1
    have a2 := List.pairwise_cons.mp h2
    have no : ∀ z, lt z z ≠ true := fun z q => by rw [O.irr] at q; cases q
    have e : x = y := by
      rcases List.mem_cons.mp ((h x).mp (List.mem_cons_self ..)) with q | q
      · exact q
      · rcases List.mem_cons.mp ((h y).mpr (List.mem_cons_self ..)) with q2 | q2
        · exact q2.symm
        · have z1 := a2.1 x q
          have z2 := O.asym _ _ z1
          rw [a1.1 y q2] at z2
          cases z2
    subst e
    rw [riseG_same O a1.2 a2.2 fun z => ⟨fun hz => ?_, fun hz => ?_⟩]
    · rcases List.mem_cons.mp ((h z).mp (List.mem_cons_of_mem _ hz)) with q | q
      · subst q; exact absurd (a1.1 z hz) (no z)
      · exact q
    · rcases List.mem_cons.mp ((h z).mpr (List.mem_cons_of_mem _ hz)) with q | q
      · subst q; exact absurd (a2.1 z hz) (no z)
      · exact q
theorem usortG_self (O : Slo lt) {l : List α} (h : RiseG lt l) : usortG lt l = l := riseG_same O (usortG_rise O l) h fun _ => usortG_mem
theorem riseG_nodup (O : Slo lt) {l : List α} (h : RiseG lt l) : l.Nodup := List.Pairwise.imp (fun {a b} q e => by subst e; rw [O.irr] at q; cases q) h
/-- sorted, some perhaps twice -/
def insD (lt : α → α → Bool) (x : α) : List α → List α
  | [] => [x]
  | y :: ys => if lt y x then y :: insD lt x ys else x :: y :: ys
def isortG (lt : α → α → Bool) : List α → List α
  | [] => []
  | x :: xs => insD lt x (isortG lt xs)
abbrev SrtG (lt : α → α → Bool) (l : List α) : Prop := l.Pairwise fun x y => lt y x = false
theorem insD_perm (x : α) : ∀ l : List α, (insD lt x l).Perm (x :: l)
  | [] => .refl _
  | y :: ys => by
    unfold insD
    split
    · exact ((insD_perm x ys).cons y).trans (.swap ..)
    · exact .refl _
theorem isortG_perm : ∀ l : List α, (isortG lt l).Perm l
  | [] => .refl _
  | x :: xs => (insD_perm x _).trans ((isortG_perm xs).cons x)
theorem insD_srt (O : Slo lt) (x : α) : ∀ {l : List α}, SrtG lt l → SrtG lt (insD lt x l)
  | [], _ => by simp [insD]
  | y :: ys, h => by
    have h1 := List.pairwise_cons.mp h
    unfold insD
    split
    · rename_i q
      refine List.pairwise_cons.mpr ⟨fun z hz => ?_, insD_srt O x h1.2⟩
      rcases List.mem_cons.mp ((insD_perm x ys).mem_iff.mp hz) with rfl | hz
      · exact O.asym _ _ q
      · exact h1.1 z hz
    · rename_i q
      have q : lt y x = false := by simpa using q
      refine List.pairwise_cons.mpr ⟨fun z hz => ?_, h⟩
      rcases List.mem_cons.mp hz with rfl | hz
      · exact q
      · exact O.swo.tr _ _ _ q (h1.1 z hz)
theorem isortG_srt (O : Slo lt) : ∀ l : List α, SrtG lt (isortG lt l)
  | [] => .nil
  | x :: xs => insD_srt O x (isortG_srt O xs)
theorem srtG_same (O : Slo lt) : ∀ {l k : List α}, l.Perm k → SrtG lt l → SrtG lt k → l = k
  | [], k, p, _, _ => (List.Perm.eq_nil p.symm).symm
  | x :: xs, [], p, _, _ => absurd p.length_eq (by simp)
  | x :: xs, y :: ys, p, h1, h2 => by
    have a1 := List.pairwise_cons.mp h1
    have a2 := List.pairwise_cons.mp h2
    have z1 : lt y x = false := by
      rcases List.mem_cons.mp (p.mem_iff.mpr (List.mem_cons_self ..)) with rfl | q
      · exact O.irr _
      · exact a1.1 y q
    have z2 : lt x y = false := by
      rcases List.mem_cons.mp (p.mem_iff.mp (List.mem_cons_self ..)) with rfl | q
      · exact O.irr _
      · exact a2.1 x q
    have e := O.tri _ _ z2 z1
    subst e
    rw [srtG_same O p.cons_inv a1.2 a2.2]
theorem isortG_rise (O : Slo lt) {l : List α} (h : RiseG lt l) : isortG lt l = l := srtG_same O (isortG_perm l) (isortG_srt O l) (List.Pairwise.imp (fun {a b} q => O.asym _ _ q) h)
end
/-! ### rows, holdings of data -/
def rowOf : D → Option (List Int)
  | .tup ds => intsOf ds
  | _ => none
def rowsOf : List D → Option (List (List Int))
  | [] => some []
  | d :: ds => match rowOf d, rowsOf ds with
    | some k, some ks => some (k :: ks)
    | _, _ => none
def holdOf : D → Option (List (List Int))
  | .tup ds => rowsOf ds
  | _ => none
def holdsOf : List D → Option (List (List (List Int)))
  | [] => some []
  | d :: ds => match holdOf d, holdsOf ds with
    | some k, some ks => some (k :: ks)
    | _, _ => none
def encR (k : List Int) : D := .tup (k.map D.int)
def encH (ks : List (List Int)) : D := .tup (ks.map encR)
section
variable {K : PySem.W.Frag} {mg : Str → Option Value} {Z : Addr → Prop} {M : List Addr} {H : Hp}
theorem row_rel {d : D} {v : V} {k : List Int} (h : Rep K mg Z M H d v) (e : rowOf d = some k) : ∃ a, v = .ref a ∧ R1 K H k a := by
  cases d with
  | tup ds =>
    obtain ⟨a, vs, rfl, h1, h2⟩ := h
    refine ⟨a, rfl, ?_⟩
    rw [ints_rel h2 e] at h1
    exact h1
  | _ => cases e
theorem rows_rel : ∀ {ds : List D} {vs : List V} {ks : List (List Int)}, Reps K mg Z M H ds vs → rowsOf ds = some ks → ∃ L : List (Addr × List Int), vs = L.map (fun p => V.ref p.1) ∧ (∀ p ∈ L, R1 K H p.2 p.1) ∧ ks = L.map (·.2)
  | [], _, _, h, e => by
    have h : _ = [] := h
    subst h
    cases e
    exact ⟨[], rfl, by simp, rfl⟩
  | d :: ds, _, _, ⟨v, r, e0, h, t⟩, e => by
    subst e0
    unfold rowsOf at e
    split at e
    · rename_i k ks' e1 e2
      cases e
      obtain ⟨a, rfl, q⟩ := row_rel h e1
      obtain ⟨L, h1, h2, h3⟩ := rows_rel t e2
      refine ⟨(a, k) :: L, by rw [h1]; rfl, fun p hp => ?_, by rw [h3]; rfl⟩
      rcases List.mem_cons.mp hp with rfl | hp
      · exact q
      · exact h2 p hp
    · cases e
theorem pair_rows : ∀ {L : List (Addr × List Int)}, (∀ p ∈ L, R1 K H p.2 p.1) → Paired (R1 K H) (L.map (·.2)) (L.map (·.1))
  | [], _ => .nil
  | p :: L, h => .cons (h p (List.mem_cons_self ..)) (pair_rows fun q hq => h q (List.mem_cons_of_mem _ hq))
theorem hold_rel {d : D} {v : V} {k : List (List Int)} (h : Rep K mg Z M H d v) (e : holdOf d = some k) : ∃ a, v = .ref a ∧ R2 K H k a := by
  cases d with
  | tup ds =>
    obtain ⟨a, vs, rfl, h1, h2⟩ := h
    obtain ⟨L, rfl, q1, rfl⟩ := rows_rel h2 e
    exact ⟨a, rfl, L.map (·.1), by rw [List.map_map]; exact h1, pair_rows q1⟩
  | _ => cases e
theorem holds_rel : ∀ {ds : List D} {vs : List V} {ks : List (List (List Int))}, Reps K mg Z M H ds vs → holdsOf ds = some ks → ∃ L : List (Addr × List (List Int)), vs = L.map (fun p => V.ref p.1) ∧ (∀ p ∈ L, R2 K H p.2 p.1) ∧ ks = L.map (·.2)
  | [], _, _, h, e => by
    have h : _ = [] := h
    subst h
    cases e
    exact ⟨[], rfl, by simp, rfl⟩
  | d :: ds, _, _, ⟨v, r, e0, h, t⟩, e => by
    subst e0
    unfold holdsOf at e
    split at e
    · rename_i k ks' e1 e2
      cases e
      obtain ⟨a, rfl, q⟩ := hold_rel h e1
      obtain ⟨L, h1, h2, h3⟩ := holds_rel t e2
      refine ⟨(a, k) :: L, by rw [h1]; rfl, fun p hp => ?_, by rw [h3]; rfl⟩
      rcases List.mem_cons.mp hp with rfl | hp
      · exact q
      · exact h2 p hp
    · cases e
theorem rep_row {k : List Int} {a : Addr} (h : R1 K H k a) : Rep K mg Z M H (encR k) (.ref a) := ⟨a, _, rfl, h, ints_reps k⟩
theorem reps_rows : ∀ {L : List (Addr × List Int)}, (∀ p ∈ L, R1 K H p.2 p.1) → Reps K mg Z M H (L.map fun p => encR p.2) (L.map fun p => V.ref p.1)
  | [], _ => rfl
  | p :: L, h => ⟨_, _, rfl, rep_row (h p (List.mem_cons_self ..)), reps_rows fun q hq => h q (List.mem_cons_of_mem _ hq)⟩
theorem reps_pair : ∀ {ks : List (List Int)} {bs : List Addr}, Paired (R1 K H) ks bs → Reps K mg Z M H (ks.map encR) (bs.map V.ref)
  | _, _, .nil => rfl
  | _, _, .cons h t => ⟨_, _, rfl, rep_row h, reps_pair t⟩
theorem reps_holds : ∀ {L : List (Addr × List (List Int))}, (∀ p ∈ L, R2 K H p.2 p.1) → Reps K mg Z M H (L.map fun p => encH p.2) (L.map fun p => V.ref p.1)
  | [], _ => rfl
  | p :: L, h => by
    obtain ⟨bs, h1, h2⟩ := h p (List.mem_cons_self ..)
    exact ⟨_, _, rfl, ⟨p.1, _, rfl, h1, reps_pair h2⟩, reps_holds fun q hq => h q (List.mem_cons_of_mem _ hq)⟩
end
/-! ### sorted(set(e)) -/
def keysOut (ds : List D) : Option (List D) := match rowsOf ds with
  | some ks => if (usortG lt1 ks).length < 600 then some ((usortG lt1 ks).map encR) else none
  | none => match holdsOf ds with
    | some hs => if (usortG SX.lt2 hs).length < 600 ∧ [] ∉ hs then some ((usortG SX.lt2 hs).map encH) else none
    | none => none
def fSortSet2 (r : R) (st : Stor) : Out R := match r with
  | .dat (.tup ds) => (match intsOf ds with
    | some ns => if ns.length < 60 then .ok (.new ((usort ns).map D.int)) st else .bad
    | none => match keysOut ds with
      | some es => .ok (.new es) st
      | none => .bad)
  | r => match lstOf st r with
    | some ds => (match keysOut ds with
      | some es => .ok (.new es) st
      | none => .bad)
    | none => .bad
end PD

/-! PEk: the rules sorted(set(e)), sorted(e). -/
namespace PD
open PySem PySem.Spec PyProof.Rows L2 SX
section
variable {X : Cx} {G : Ga} {W : WX} {e : Expr} {es : List Expr} {a : EV} {as : AV} {pos : Pos}
def rSetAll (X : Cx) : List V → Hp → VK → Prop := fun xs H Q => rSetTI X.K X.w xs H Q ∨ rSetK (R1 X.K) (O1 X.prog X.w) (SqT X.K) xs H Q ∨ rSetK (R1 X.K) (O1 X.prog X.w) (SqL X.K) xs H Q ∨ rSetK (R2 X.K) (O2 X.prog X.w) (SqT X.K) xs H Q ∨ rSetK (R2 X.K) (O2 X.prog X.w) (SqL X.K) xs H Q
theorem cr_setAll (hc : X.calm = true) (hu : X.A.units + 64 < cLine) : CallR X (.type "set") (rSetAll X) := by
  intro pins s σ H xs us Q I r h
  rcases h with h | h | h | h | h
  · exact cr_setX hc hu pins s σ H xs us Q I r (.inl h)
  · exact cr_setKT (hk1 X) hc hu pins s σ H xs us Q I r h
  · exact cr_setKL (hk1 X) hc hu pins s σ H xs us Q I r h
  · exact cr_setKT (hk2 X) hc hu pins s σ H xs us Q I r h
  · exact cr_setKL (hk2 X) hc hu pins s σ H xs us Q I r h
def rSrtAll (X : Cx) : List V → Hp → VK → Prop := fun xs H Q => rSortedSet X.w xs H Q ∨ rSrtSetK (R1 X.K) (O1 X.prog X.w) xs H Q ∨ rSrtSetK (R2 X.K) (O2 X.prog X.w) xs H Q
theorem cr_srtAll (hc : X.calm = true) (hu : X.A.units + 64 < cLine) : CallR X (.builtin "sorted") (rSrtAll X) := by
  intro pins s σ H xs us Q I r h
  rcases h with h | h | h
  · exact cr_sortedSet hc pins s σ H xs us Q I r h
  · exact cr_srtSetK (hk1 X) hc hu pins s σ H xs us Q I r h
  · exact cr_srtSetK (hk2 X) hc hu pins s σ H xs us Q I r h
theorem few_of {α : Type} [DecidableEq α] {lt : α → α → Bool} {L : List (Addr × α)} (h : (usortG lt (L.map (·.2))).length < 600) : Few 600 L := ⟨_, h, fun p hp => usortG_mem.mpr (List.mem_map.mpr ⟨p, hp, rfl⟩)⟩
/-- the keys sorted are what the function tells -/
theorem out_keys {α : Type} [DecidableEq α] {lt : α → α → Bool} (O : Slo lt) {L0 L L' : List (Addr × α)} (s1 : ∀ p ∈ L, p ∈ L0) (s2 : ∀ p ∈ L0, p.2 ∈ L.map (·.2)) (pm : L'.Perm L) (pw : L'.Pairwise fun q r => lt q.2 r.2 = true) : L'.map (·.2) = usortG lt (L0.map (·.2)) := by
  refine riseG_same O (List.pairwise_map.mpr pw) (usortG_rise O _) fun z => ?_
  rw [usortG_mem, List.mem_map, List.mem_map]
  constructor
  · rintro ⟨p, hp, rfl⟩
    exact ⟨p, s1 p (pm.mem_iff.mp hp), rfl⟩
  · rintro ⟨p, hp, rfl⟩
    obtain ⟨q, hq, e⟩ := List.mem_map.mp (s2 p hp)
    exact ⟨q, pm.mem_iff.mpr hq, e⟩
theorem ss_keys {Z : Addr → Prop} {M : List Addr} {env : Env} {st : Stor} {σ : L2.St} {H : Hp} {Q : VK} {l : Addr} {vs : List V} {ds es : List D} (hK : G.K = X.K) (rs : RS G Z M env st σ H) (hq : SqT X.K H l vs ∨ SqL X.K H l vs) (hr : Reps G.K G.mg Z M H ds vs) (he : keysOut ds = some es) (p : EPost G W Z M env σ H Q (.ok (.new es) st)) :
    rSetAll X [V.ref l] H fun v H1 => rSrtAll X [v] H1 Q := by
  unfold keysOut at he
  split at he
  · rename_i ks e1
    split at he
    · rename_i hf
      cases he
      obtain ⟨L0, rfl, k1, rfl⟩ := rows_rel hr e1
      rw [hK] at k1
      have core : ∀ (a0 : Addr) (L : List (Addr × List Int)), H a0 = none → (∀ p ∈ L, p ∈ L0) → (∀ p ∈ L0, p.2 ∈ L.map (·.2)) → rSrtAll X [V.ref a0] (upd H a0 (SetKO (O1 X.prog X.w).toSK a0 L)) Q := fun a0 L h0 s1 s2 => by
        have x0 := Ext.alloc0 (Z := Z) (M := M) (o := SetKO (O1 X.prog X.w).toSK a0 L) rs.mh h0
        refine .inr (.inl ⟨a0, L, rfl, upd_same, fun p hp => sqT_up h0 (k1 p (s1 p hp)), fun _ _ => trivial, fun L' p0 pm pw hp0 => ?_⟩)
        have o := out_keys slo1 s1 s2 pm pw
        have rr := reps_rows (K := X.K) (mg := G.mg) (Z := Z) (M := M) (H := upd H a0 (SetKO (O1 X.prog X.w).toSK a0 L)) (L := L') fun q hq => sqT_up h0 (k1 q (s1 q (pm.mem_iff.mp hq)))
        have e3 : (L'.map fun p => encR p.2) = (usortG lt1 (L0.map (·.2))).map encR := by rw [← o, List.map_map]; rfl
        rw [e3, ← hK] at rr
        exact ans_new (rs.alloc0 h0) (EPost.mono rs.mh x0 p) hp0 rr
      rcases hq with hq | hq
      · exact .inr (.inl ⟨l, L0, rfl, hq, k1, few_of hf, core⟩)
      · exact .inr (.inr (.inl ⟨l, L0, rfl, hq, k1, few_of hf, core⟩))
    · cases he
  · split at he
    · rename_i hs e1
      split at he
      · rename_i hf
        cases he
        obtain ⟨L0, rfl, k1, rfl⟩ := holds_rel hr e1
        rw [hK] at k1
        have core : ∀ (a0 : Addr) (L : List (Addr × List (List Int))), H a0 = none → (∀ p ∈ L, p ∈ L0) → (∀ p ∈ L0, p.2 ∈ L.map (·.2)) → rSrtAll X [V.ref a0] (upd H a0 (SetKO (O2 X.prog X.w).toSK a0 L)) Q := fun a0 L h0 s1 s2 => by
          have x0 := Ext.alloc0 (Z := Z) (M := M) (o := SetKO (O2 X.prog X.w).toSK a0 L) rs.mh h0
          refine .inr (.inr ⟨a0, L, rfl, upd_same, fun p hp => (hk2 X).up h0 (k1 p (s1 p hp)), fun p hp e => hf.2 (List.mem_map.mpr ⟨p, s1 p hp, e⟩), fun L' p0 pm pw hp0 => ?_⟩)
          have o := out_keys slo2 s1 s2 pm pw
          have rr := reps_holds (K := X.K) (mg := G.mg) (Z := Z) (M := M) (H := upd H a0 (SetKO (O2 X.prog X.w).toSK a0 L)) (L := L') fun q hq => (hk2 X).up h0 (k1 q (s1 q (pm.mem_iff.mp hq)))
          have e3 : (L'.map fun p => encH p.2) = (usortG SX.lt2 (L0.map (·.2))).map encH := by rw [← o, List.map_map]; rfl
          rw [e3, ← hK] at rr
          exact ans_new (rs.alloc0 h0) (EPost.mono rs.mh x0 p) hp0 rr
        rcases hq with hq | hq
        · exact .inr (.inr (.inr (.inl ⟨l, L0, rfl, hq, k1, few_of hf.1, core⟩)))
        · exact .inr (.inr (.inr (.inr ⟨l, L0, rfl, hq, k1, few_of hf.1, core⟩)))
      · cases he
    · cases he
theorem i_sortSet2 {j : Nat} {p p1 p2 : Pos} (hc : X.calm = true) (hr : Room j X.A) (hK : G.K = X.K) (hm : X.mg "sorted" = none) (hm2 : X.mg "set" = none) (ha : PE X e (rd G W a)) (hg : Gl X "sorted" := by rfl) (hg2 : Gl X "set" := by rfl)
    (he : starEach [.Call (.Name "set" p2) [e] [] p1] X.env = (false, eval (.Call (.Name "set" p2) [e] [] p1) X.env) :: starEach [] X.env := by rfl) (he2 : starEach [e] X.env = (false, eval e X.env) :: starEach [] X.env := by rfl) (hpl : (backTo pos (starEach [] X.env)).any (·.1) = false := by rfl) (hpl2 : (backTo p1 (starEach [] X.env)).any (·.1) = false := by rfl) :
    PE X (.Call (.Name "sorted" p) [.Call (.Name "set" p2) [e] [] p1] [] pos) (rd G W (eUn fSortSet2 a)) := by
  have hu : X.A.units + 64 < cLine := by have := hr.un; omega
  refine (pe_callB (id := "sorted") (cr_srtAll hc hu) hg hm (by decide +kernel) (pa_cons (pe_callTy (T := "set") (cr_setAll hc hu) hg2 hm2 (by decide +kernel) (pa_cons ha pa_nil he2) (by decide) (by decide) he2 hpl2) pa_nil he) (by decide) (by decide) he hpl).imp fun σ H Q ⟨Z, M, env, st, rs, p⟩ => ?_
  refine ⟨Z, M, env, st, rs, ?_⟩
  unfold eUn at p
  cases ea : a env st with
  | bad => rw [ea] at p; exact p.elim
  | exc x s => rw [ea] at p; exact p
  | ok r st1 =>
    rw [ea] at p
    intro v H1 M1 Z1 rs1 e1 w1
    have p1 : EPost G W Z1 M1 env σ H1 Q (fSortSet2 r st1) := EPost.mono rs.mh e1 p
    unfold fSortSet2 at p1
    split at p1
    · rename_i ds
      obtain ⟨q, us, rfl, hq, hrs⟩ := w1
      rw [hK] at hq
      split at p1
      · rename_i ns hn
        split at p1
        · rename_i hl
          have e2 := ints_rel hrs hn
          subst e2
          refine .inl ⟨q, ns, rfl, hq, hl, fun a0 c h0 hcl => .inl ⟨a0, _, c, rfl, upd_same, by omega, fun ns' p0 hp hm hln hp0 => ?_⟩⟩
          have es : ns' = usort ns := rise_same hp (usort_rise ns) fun z => by rw [hm, usort_mem]; simp
          subst es
          have rs2 := rs1.alloc0 (o := SetO X.w a0 (fun j => decide (j ∈ ns)) c) h0
          have e2 := Ext.alloc0 (Z := Z1) (M := M1) (o := SetO X.w a0 (fun j => decide (j ∈ ns)) c) rs1.mh h0
          exact ans_new rs2 (EPost.mono rs1.mh e2 p1) hp0 (ints_reps (usort ns))
        · exact p1.elim
      · split at p1
        · rename_i es he
          exact ss_keys hK rs1 (.inl hq) hrs he p1
        · exact p1.elim
    · split at p1
      · rename_i ds hl
        split at p1
        · rename_i es he
          obtain ⟨q, us, rfl, hq, hrs⟩ := lst_rel rs1 w1 hl
          exact ss_keys hK rs1 (.inr (.inl (.inl hq))) hrs he p1
        · exact p1.elim
      · exact p1.elim
/-! ### sorted(e) of keys -/
def srtOut (ds : List D) : Option (List D) := match intsOf ds with
  | some ns => some ((isort ns).map D.int)
  | none => match rowsOf ds with
    | some ks => some ((isortG lt1 ks).map encR)
    | none => match holdsOf ds with
      | some hs => if [] ∉ hs then some ((isortG SX.lt2 hs).map encH) else none
      | none => none
def fSort2 (r : R) (st : Stor) : Out R := match lstOf st r with
  | some ds => (match srtOut ds with
    | some es => .ok (.new es) st
    | none => .bad)
  | none => .bad
def rSort2 (X : Cx) : List V → Hp → VK → Prop := fun xs H Q => rSortedI X.K xs H Q ∨ rSrtK (R1 X.K) X.K (O1 X.prog X.w) xs H Q ∨ rSrtK (R2 X.K) X.K (O2 X.prog X.w) xs H Q
theorem cr_sort2 (hu : X.A.units + 64 < cLine) : CallR X (.builtin "sorted") (rSort2 X) := by
  intro pins s σ H xs us Q I r h
  rcases h with h | h | h
  · exact cr_sortedI pins s σ H xs us Q I r h
  · exact cr_srtK (hk1 X) hu pins s σ H xs us Q I r h
  · exact cr_srtK (hk2 X) hu pins s σ H xs us Q I r h
theorem o_sort2 (hK : G.K = X.K) : OpA X G W (f1 fSort2) (rSort2 X) := o_f1 fun B Z M env st σ H Q r v rs w p => by
  unfold fSort2 at p
  split at p
  · rename_i ds hl
    split at p
    · rename_i es he
      obtain ⟨q, us, rfl, hq, hr⟩ := lst_rel rs w hl
      have hq : SqL X.K H q us := .inl (.inl hq)
      unfold srtOut at he
      split at he
      · rename_i ns e1
        cases he
        have e2 := ints_rel hr e1
        subst e2
        refine .inl ⟨q, ns, rfl, hq, fun ns' p0 pm pw hp0 => ?_⟩
        have es : ns' = isort ns := sorted_same (pm.trans (isort_perm ns).symm) pw (isort_sorted ns)
        subst es
        exact ans_new rs p hp0 (ints_reps _)
      · split at he
        · rename_i ks e1
          cases he
          obtain ⟨L0, rfl, k1, rfl⟩ := rows_rel hr e1
          rw [hK] at k1
          refine .inr (.inl ⟨q, L0, rfl, hq, k1, fun _ _ => trivial, fun L p0 pm pw hp0 => ?_⟩)
          have o : L.map (·.2) = isortG lt1 (L0.map (·.2)) := srtG_same slo1 ((pm.map _).trans (isortG_perm _).symm) (List.pairwise_map.mpr pw) (isortG_srt slo1 _)
          have rr := reps_rows (K := X.K) (mg := G.mg) (Z := Z) (M := M) (H := H) (L := L) fun q hq => k1 q (pm.mem_iff.mp hq)
          have e3 : (L.map fun p => encR p.2) = (isortG lt1 (L0.map (·.2))).map encR := by rw [← o, List.map_map]; rfl
          rw [e3, ← hK] at rr
          exact ans_new rs p hp0 rr
        · split at he
          · rename_i hs e1
            split at he
            · rename_i hf
              cases he
              obtain ⟨L0, rfl, k1, rfl⟩ := holds_rel hr e1
              rw [hK] at k1
              refine .inr (.inr ⟨q, L0, rfl, hq, k1, fun p hp e => hf (List.mem_map.mpr ⟨p, hp, e⟩), fun L p0 pm pw hp0 => ?_⟩)
              have o : L.map (·.2) = isortG SX.lt2 (L0.map (·.2)) := srtG_same slo2 ((pm.map _).trans (isortG_perm _).symm) (List.pairwise_map.mpr pw) (isortG_srt slo2 _)
              have rr := reps_holds (K := X.K) (mg := G.mg) (Z := Z) (M := M) (H := H) (L := L) fun q hq => k1 q (pm.mem_iff.mp hq)
              have e3 : (L.map fun p => encH p.2) = (isortG SX.lt2 (L0.map (·.2))).map encH := by rw [← o, List.map_map]; rfl
              rw [e3, ← hK] at rr
              exact ans_new rs p hp0 rr
            · cases he
          · cases he
    · exact p.elim
  · exact p.elim
end
end PD

/-! PEl: what the functions of sorted(set(e)), sorted(e) answer. -/
namespace PD
open PySem PySem.Spec PyProof.Rows L2 SX
theorem usortG_len {α : Type} [DecidableEq α] {lt : α → α → Bool} : ∀ l : List α, (usortG lt l).length ≤ l.length
  | [] => Nat.le_refl _
  | x :: xs => by
    have h : ∀ l : List α, (insG lt x l).length ≤ l.length + 1 := fun l => by
      induction l with
      | nil => exact Nat.le_refl _
      | cons y ys ih =>
        unfold insG
        split
        · exact Nat.le_refl _
        · split
          · exact Nat.le_succ _
          · rw [List.length_cons, List.length_cons]; omega
    have := usortG_len (lt := lt) xs
    have h2 := h (usortG lt xs)
    show (insG lt x (usortG lt xs)).length ≤ _
    rw [List.length_cons]
    omega
def uRow (k : Int) : List Int := [k / 64, k % 64]
theorem uRow_enc (k : Int) : encR (uRow k) = unpair k := rfl
theorem uRow_lt {a b : Int} : lt1 (uRow a) (uRow b) = decide (a < b) := by
  show (if a / 64 = b / 64 then (if a % 64 = b % 64 then lt1 [] [] else decide (a % 64 < b % 64)) else decide (a / 64 < b / 64)) = _
  have z : lt1 [] [] = false := rfl
  rw [z]
  split
  · split
    · exact (decide_eq_false (by omega)).symm
    · exact decide_eq_decide.mpr (by omega)
  · exact decide_eq_decide.mpr (by omega)
theorem uRow_inj {a b : Int} (h : uRow a = uRow b) : a = b := by
  unfold uRow at h
  rw [List.cons.injEq, List.cons.injEq] at h
  omega
theorem usortG_uRow (ks : List Int) : usortG lt1 (ks.map uRow) = (usort ks).map uRow := by
  refine riseG_same slo1 (usortG_rise slo1 _) (List.pairwise_map.mpr ((usort_rise ks).imp fun {a b} h => ?_)) fun z => ?_
  · rw [uRow_lt]; exact decide_eq_true h
  · rw [usortG_mem, List.mem_map, List.mem_map]
    constructor
    · rintro ⟨a, h, rfl⟩; exact ⟨a, usort_mem.mpr h, rfl⟩
    · rintro ⟨a, h, rfl⟩; exact ⟨a, usort_mem.mp h, rfl⟩
theorem rows_pairs : ∀ {ds : List D} {ks : List Int}, pairsOf ds = some ks → rowsOf ds = some (ks.map uRow)
  | [], _, h => by cases h; rfl
  | d :: ds, _, h => by
    unfold pairsOf at h
    split at h
    · rename_i k ks e1 e2
      cases h
      obtain ⟨a, b, rfl, rfl, h1, h2, h3, h4⟩ := pairOf_is e1
      have e3 := rows_pairs e2
      have e4 : rowOf (.tup [.int a, .int b]) = some [a, b] := rfl
      unfold rowsOf
      rw [e3, e4]
      have e5 : uRow (a * 64 + b) = [a, b] := by
        unfold uRow
        rw [List.cons.injEq, List.cons.injEq]
        exact ⟨by omega, by omega, rfl⟩
      rw [List.map_cons, e5]
    · cases h
section
variable {ds : List D} {st : Stor} {PR : R → Stor → Prop} {Q : Xc → Stor → Prop} {r : R}
theorem keys_rows {ks : List (List Int)} (h : rowsOf ds = some ks) (hl : ks.length < 600) : keysOut ds = some ((usortG lt1 ks).map encR) := by
  unfold keysOut; rw [h]; dsimp only; rw [if_pos (Nat.lt_of_le_of_lt (usortG_len ks) hl)]
theorem keys_holds {hs : List (List (List Int))} (h0 : rowsOf ds = none) (h : holdsOf ds = some hs) (hl : (usortG SX.lt2 hs).length < 600) (hn : [] ∉ hs) : keysOut ds = some ((usortG SX.lt2 hs).map encH) := by
  unfold keysOut; rw [h0]; dsimp only; rw [h]; dsimp only; rw [if_pos ⟨hl, hn⟩]
theorem r_ss2I {ns : List Int} (h : intsOf ds = some ns) (hl : ns.length < 60) (x : PR (.new ((usort ns).map D.int)) st) : wE (fSortSet2 (.dat (.tup ds)) st) PR Q := by
  unfold fSortSet2; dsimp only; rw [h]; dsimp only; rw [if_pos hl]; exact x
theorem r_ss2K {es : List D} (h0 : intsOf ds = none) (h : keysOut ds = some es) (x : PR (.new es) st) : wE (fSortSet2 (.dat (.tup ds)) st) PR Q := by
  unfold fSortSet2; dsimp only; rw [h0]; dsimp only; rw [h]; exact x
theorem r_ss2P {ks : List Int} (h0 : intsOf ds = none) (h : pairsOf ds = some ks) (hl : ks.length < 600) (x : PR (.new ((usort ks).map unpair)) st) : wE (fSortSet2 (.dat (.tup ds)) st) PR Q := by
  refine r_ss2K h0 (keys_rows (rows_pairs h) (by rw [List.length_map]; exact hl)) ?_
  rw [usortG_uRow, List.map_map]
  exact x
theorem r_ss2L {es : List D} (hr : ∀ ds, r ≠ .dat (.tup ds)) (hl : lstOf st r = some ds) (h : keysOut ds = some es) (x : PR (.new es) st) : wE (fSortSet2 r st) PR Q := by
  unfold fSortSet2
  split
  · exact absurd rfl (hr _)
  · rw [hl]; dsimp only; rw [h]; exact x
theorem r_sort2 {es : List D} (h : lstOf st r = some ds) (h2 : srtOut ds = some es) (x : PR (.new es) st) : wE (fSort2 r st) PR Q := by unfold fSort2; rw [h]; dsimp only; rw [h2]; exact x
theorem srt_ints {ns : List Int} (h : intsOf ds = some ns) : srtOut ds = some ((isort ns).map D.int) := by unfold srtOut; rw [h]
theorem srt_rows {ks : List (List Int)} (h0 : intsOf ds = none) (h : rowsOf ds = some ks) : srtOut ds = some ((isortG lt1 ks).map encR) := by unfold srtOut; rw [h0, h]
theorem srt_holds {hs : List (List (List Int))} (h0 : intsOf ds = none) (h1 : rowsOf ds = none) (h : holdsOf ds = some hs) (hn : [] ∉ hs) : srtOut ds = some ((isortG SX.lt2 hs).map encH) := by
  unfold srtOut; rw [h0]; dsimp only; rw [h1]; dsimp only; rw [h]; dsimp only; rw [if_pos hn]
theorem r_sort2I {ns : List Int} (h : lstOf st r = some ds) (h2 : intsOf ds = some ns) (x : PR (.new ((isort ns).map D.int)) st) : wE (fSort2 r st) PR Q := r_sort2 h (srt_ints h2) x
end
end PD

/-! PEm: for x in a name that holds a list of the store; the list stays the same meanwhile. -/
namespace PD
open PySem PySem.Spec PyProof.Rows L2
open Classical in
noncomputable def forGoR (k : Nat) (full : List D) (T : Tg) (body : SVm) : List D → SVm
  | [], env, st => if st[k]? = some (.lst full) then .nx env st else .bad
  | d :: ds, env, st => if st[k]? = some (.lst full) then (match T d env with
    | none => .bad
    | some env1 => match body env1 st with
      | .nx env2 st2 => forGoR k full T body ds env2 st2
      | .cont env2 st2 => forGoR k full T body ds env2 st2
      | .brk env2 st2 => .nx env2 st2
      | o => o) else .bad
noncomputable def sForR (i : Nat) (T : Tg) (body : SVm) : SVm := fun env st => match env[i]? with
  | some (some (.dat (.ref k))) => (match st[k]? with
    | some (.lst full) => forGoR k full T body full env st
    | _ => .bad)
  | _ => .bad
section
variable {X : Cx} {G : Ga} {W : WX}
theorem forR_same {k : Nat} {full ds : List D} {T : Tg} {body : SVm} {env : Env} {st : Stor} {Z : Addr → Prop} {M : List Addr} {H : Hp} {N : Ends} (p : SPost G W Z M H N (forGoR k full T body ds env st)) : st[k]? = some (.lst full) := by
  refine Classical.byContradiction fun h => ?_
  cases ds with
  | nil => unfold forGoR at p; rw [if_neg h] at p; exact p
  | cons d ds => unfold forGoR at p; rw [if_neg h] at p; exact p
theorem s_forR {tg : Expr} {g : TG} {T : Tg} {is : List Nat} {pos : Pos} {body : SVm} {xs : List Stmt} (i : Nat) {x : Str} {p2 : Pos} (hp : PassesOwn (model X.prog X.w) X.A X.env X.xe) (hc : X.calm = true) (hK : G.K = X.K) (hg : PG X tg g) (hT : TgR X.K g T is) (hb : PSs X xs (rdS G W body))
    (hN : X.N[i]? = some x := by rfl) (hv : Vis X.env.scope x := by first | exact Or.inl rfl | exact Or.inr (Or.inl rfl) | exact Or.inr (Or.inr rfl)) (hd : (x == ("__debug__" : Str)) = false := by decide) (hcd : (x == ("__classdict__" : Str)) = false := by decide)
    (hs : ∀ z, foldedSetIterable (.Name x p2) X.env z = pure z := by intro _; rfl) : PS X (.For tg (.Name x p2) xs [] pos) (rdS G W (sForR i T body)) := (ps_for hp hc (pi_seq (pe_var hN hv hd hcd)) hg hb hs).imp fun N σ H ⟨Z, M, env, st, rs, p⟩ => by
  unfold sForR at p
  split at p
  · rename_i k ei
    split at p
    · rename_i full ek
      obtain ⟨v, h1, h2⟩ := rs.slot i _ ei
      refine ⟨v, h1, ?_⟩
      obtain ⟨q, hMq, vs, hq, hr⟩ := rs.sto.obj k _ ek
      have hvq : v = .ref q := by
        obtain ⟨a, ha, rfl⟩ := h2
        rw [hMq] at ha
        cases ha
        rfl
      subst hvq
      refine ⟨q, rfl, .inl ⟨⟨vs, SqL.of hq⟩, ?_⟩⟩
      refine ⟨fun i m σ H => m = full.length - i ∧ i ≤ full.length ∧ ∃ Z M env st, RS G Z M env st σ H ∧ M[k]? = some q ∧ SPost G W Z M H N (forGoR k full T body (full.drop i) env st), ⟨full.length, by simp, Nat.zero_le _, Z, M, env, st, rs, hMq, p⟩, ?_⟩
      rintro i m σ2 H2 ⟨rfl, hi2, Z2, M2, env2, st2, rs2, c2, p2⟩
      have ek2 := forR_same p2
      obtain ⟨q2, hMq2, vs2, hq2, hr2⟩ := rs2.sto.obj k _ ek2
      rw [c2] at hMq2
      cases hMq2
      rw [hK] at hr2
      have src : Src X.K G.mg (Itl X.K q) full (fun Z' M' H' => SqL X.K H' q vs2 ∧ Reps X.K G.mg Z' M' H' full vs2) := src_list fun _ _ _ h => h
      have c3 : SqL X.K H2 q vs2 ∧ Reps X.K G.mg Z2 M2 H2 full vs2 := ⟨SqL.of hq2, hr2⟩
      by_cases hlt : i < full.length
      · have hd : full[i]? = some full[i] := List.getElem?_eq_getElem hlt
        have hdr : full.drop i = full[i] :: full.drop (i + 1) := List.drop_eq_getElem_cons hlt
        rw [hdr] at p2
        obtain ⟨go, yld⟩ := src.go Z2 M2 H2 i _ c3 hd
        refine .inr ⟨go, fun σ H => i + 1 ≤ full.length ∧ ∃ Z M env st, RS G Z M env st σ H ∧ M[k]? = some q ∧ SPost G W Z M H N (forGoR k full T body (full.drop (i + 1)) env st), fun σ' H' ⟨h1, h2⟩ => ⟨full.length - (i + 1), by omega, rfl, h1, h2⟩, fun x H' y => ?_⟩
        obtain ⟨hh, rp⟩ := yld x H' y
        have rp := rp rs2.mz rs2.mh
        rw [← hK] at rp
        have rs3 : RS G Z2 M2 env2 st2 σ2 H' := by
          rcases hh with rfl | ⟨q, o, hq, rfl⟩
          · exact rs2
          · exact rs2.alloc0 hq
        have x3 : SExt Z2 M2 H2 Z2 M2 H' := by
          rcases hh with rfl | ⟨q, o, hq, rfl⟩
          · exact SExt.refl _ _ _
          · exact (Ext.alloc0 rs2.mh hq).s rs2.mz
        have keep : ∀ {Z' M' H''}, SExt Z2 M2 H' Z' M' H'' → M'[k]? = some q := fun x'' => by
          obtain ⟨t, rfl⟩ := x''.m
          rw [List.getElem?_append_left (List.getElem?_eq_some_iff.mp c2).1]
          exact c2
        unfold forGoR at p2
        rw [if_pos ek2] at p2
        split at p2
        · exact p2.elim
        · rename_i env3 et
          refine hT.ok G Z2 M2 env2 st2 σ2 H' full[i] x env3 _ hK rs3 rp et fun σ' rs' _ _ => ⟨Z2, M2, env3, st2, rs', ?_⟩
          cases eb : body env3 st2 with
          | nx env4 st4 =>
            rw [eb] at p2
            exact fun Z' M' σ'' H'' rs'' x'' => ⟨hlt, Z', M', env4, st4, rs'', keep x'', p2.mono (x3.trans x'')⟩
          | cont env4 st4 =>
            rw [eb] at p2
            exact fun Z' M' σ'' H'' rs'' x'' => ⟨hlt, Z', M', env4, st4, rs'', keep x'', p2.mono (x3.trans x'')⟩
          | brk env4 st4 =>
            rw [eb] at p2
            exact fun Z' M' σ'' H'' rs'' x'' => p2 Z' M' σ'' H'' rs'' (x3.trans x'')
          | ret r st4 => rw [eb] at p2; exact p2
          | exc y env4 st4 => rw [eb] at p2; exact fun c d σ'' H'' M' Z' rs'' x'' => p2 c d σ'' H'' M' Z' rs'' (x3.trans x'')
          | bad => rw [eb] at p2; exact p2
      · have e : i = full.length := by omega
        subst e
        rw [List.drop_length] at p2
        unfold forGoR at p2
        rw [if_pos ek2] at p2
        exact .inl ⟨src.stop _ _ _ c3, p2 Z2 M2 σ2 H2 rs2 (SExt.refl _ _ _)⟩
    · exact p.elim
  · exact p.elim
end
section
variable {N : WS} {env : Env} {st : Stor} {s : SVm}
theorem wS_forR {T : Tg} {i k : Nat} {full : List D} (I : Nat → Env → Stor → Prop) (hi : env[i]? = some (some (.dat (.ref k)))) (hk : st[k]? = some (.lst full)) (h0 : I 0 env st) (same : ∀ j env st, I j env st → st[k]? = some (.lst full))
    (hs : ∀ i d env st, full[i]? = some d → I i env st → ∃ env1, T d env = some env1 ∧ wS (s env1 st) { N with nx := I (i + 1), ct := I (i + 1), bk := N.nx }) (hd : ∀ env st, I full.length env st → N.nx env st) : wS (sForR i T s env st) N := by
  have key : ∀ (n i : Nat) (env : Env) (st : Stor), n = full.length - i → i ≤ full.length → I i env st → wS (forGoR k full T s (full.drop i) env st) N := by
    intro n
    induction n with
    | zero =>
      intro i env st e hi h
      have : i = full.length := by omega
      subst this
      rw [List.drop_length]
      unfold forGoR
      rw [if_pos (same _ _ _ h)]
      exact hd env st h
    | succ n ih =>
      intro i env st e hi h
      have hlt : i < full.length := by omega
      rw [List.drop_eq_getElem_cons hlt]
      obtain ⟨env1, e1, w⟩ := hs i _ env st (List.getElem?_eq_getElem hlt) h
      unfold forGoR
      rw [if_pos (same _ _ _ h), e1]
      dsimp only
      cases eb : s env1 st with
      | nx env2 st2 => rw [eb] at w; exact ih (i + 1) env2 st2 (by omega) hlt w
      | cont env2 st2 => rw [eb] at w; exact ih (i + 1) env2 st2 (by omega) hlt w
      | brk env2 st2 => rw [eb] at w; exact w
      | ret r st2 => rw [eb] at w; exact w
      | exc x env2 st2 => rw [eb] at w; exact w
      | bad => rw [eb] at w; exact w
  have := key full.length 0 env st (by simp) (Nat.zero_le _) h0
  rw [List.drop_zero] at this
  unfold sForR
  rw [hi]
  dsimp only
  rw [hk]
  exact this
end
end PD

/-! PEn: min, max of two numbers, sum of a list. -/
namespace PD
open PySem PySem.Spec PyProof.Rows L2
section
variable {X : Cx} {G : Ga} {W : WX} {e : Expr} {es : List Expr} {a : EV} {as : AV} {pos : Pos}
def fMin2 : List R → Stor → Out R := fun rs st => match rs with
  | [.dat (.int i), .dat (.int j)] => .ok (.dat (.int (if j < i then j else i))) st
  | _ => .bad
def fMax2 : List R → Stor → Out R := fun rs st => match rs with
  | [.dat (.int i), .dat (.int j)] => .ok (.dat (.int (if j > i then j else i))) st
  | _ => .bad
theorem o_min2 : OpA X G W fMin2 (fun xs H Q => ∃ i j, xs = [V.int i, V.int j] ∧ Q (V.int (if j < i then j else i)) H) := by
  intro B Z M env st σ H Q rs vs s w p
  unfold fMin2 at p
  split at p
  · cases w with
    | cons w1 w2 => cases w2 with
      | cons w2 w3 => cases w3 with
        | nil =>
          rename_i i j u v
          have h1 : u = .int i := w1
          have h2 : v = .int j := w2
          subst h1; subst h2
          exact ⟨i, j, rfl, ans_dat s p rfl⟩
  · exact p.elim
theorem o_max2 : OpA X G W fMax2 (fun xs H Q => ∃ i j, xs = [V.int i, V.int j] ∧ Q (V.int (if j > i then j else i)) H) := by
  intro B Z M env st σ H Q rs vs s w p
  unfold fMax2 at p
  split at p
  · cases w with
    | cons w1 w2 => cases w2 with
      | cons w2 w3 => cases w3 with
        | nil =>
          rename_i i j u v
          have h1 : u = .int i := w1
          have h2 : v = .int j := w2
          subst h1; subst h2
          exact ⟨i, j, rfl, ans_dat s p rfl⟩
  · exact p.elim
def fSum (r : R) (st : Stor) : Out R := match lstOf st r with
  | some ds => (match intsOf ds with
    | some ns => .ok (.dat (.int ns.sum)) st
    | none => .bad)
  | none => .bad
theorem o_sum (hK : G.K = X.K) : OpA X G W (f1 fSum) (rSum X.K) := o_f1 fun B Z M env st σ H Q r v rs w p => by
  unfold fSum at p
  split at p
  · rename_i ds e
    split at p
    · rename_i ns e2
      obtain ⟨a1, vs, rfl, h1, h2⟩ := lst_rel rs w e
      have := ints_rel h2 e2
      subst this
      exact ⟨a1, ns, rfl, SqL.of h1, ans_dat rs p rfl⟩
    · exact p.elim
  · exact p.elim
end
section
variable {st : Stor} {PR : R → Stor → Prop} {Q : Xc → Stor → Prop} {i j : Int}
theorem r_min2 (x : PR (.dat (.int (if j < i then j else i))) st) : wE (fMin2 [.dat (.int i), .dat (.int j)] st) PR Q := x
theorem r_max2 (x : PR (.dat (.int (if j > i then j else i))) st) : wE (fMax2 [.dat (.int i), .dat (.int j)] st) PR Q := x
theorem r_sum {r : R} {ds : List D} {ns : List Int} (h : lstOf st r = some ds) (h2 : intsOf ds = some ns) (x : PR (.dat (.int ns.sum)) st) : wE (f1 fSum [r] st) PR Q := by
  show wE (fSum r st) PR Q
  unfold fSum; rw [h]; dsimp only; rw [h2]; exact x
end
end PD

/-! PEo: dicts whose keys are tuples of ints or tuples of those, in the machine. -/
namespace PD
open PySem PySem.Spec PyProof.Rows L2 SX
abbrev DRel (κ : Type) : κ × Addr × V → κ × Addr × Value → Prop := fun e x => x.1 = e.1 ∧ x.2.1 = e.2.1 ∧ RelV e.2.2 x.2.2
section
variable {κ : Type} [DecidableEq κ] {P : Program} {w : World}
theorem dct_objOk {hash : κ → Int} {H : Hp} {h : Heap} {a : Addr} {L : List (κ × Addr × V)} (R : Dct0 hash h a L) : ObjOk P w H h a (dctO hash a L) := by
  have ⟨o, es, ep, xs, ho, r⟩ := R.ex
  refine ⟨R, ⟨o, ho⟩, fun h1 h2 p k => ?_⟩
  have ⟨o2, es2, ep2, xs2, ho2, r2⟩ := Dct0.ex p
  exact ⟨o2, es2, ep2, xs2, k o2 ho2, r2⟩
def atL (L : List (κ × Addr × V)) (k : κ) : Option (Addr × V) := (L.find? fun e => decide (e.1 = k)).map (·.2)
theorem at_rel (k : κ) : ∀ {L : List (κ × Addr × V)} {xs : List (κ × Addr × Value)}, Paired (DRel κ) L xs → (atL L k = none ∧ atKey xs k = none) ∨ ∃ b v u, atL L k = some (b, v) ∧ atKey xs k = some (b, u) ∧ RelV v u
  | _, _, .nil => .inl ⟨rfl, rfl⟩
  | e :: L, x :: xs, .cons ⟨h1, h2, h3⟩ t => by
    unfold atL atKey
    rw [List.find?_cons, List.find?_cons, h1]
    by_cases q : e.1 = k
    · rw [decide_eq_true q]
      exact .inr ⟨e.2.1, e.2.2, x.2.2, rfl, by rw [← h2]; rfl, h3⟩
    · rw [decide_eq_false q]
      exact at_rel k t
theorem at_some {k : κ} {L : List (κ × Addr × V)} {xs : List (κ × Addr × Value)} (h : Paired (DRel κ) L xs) : (atKey xs k).isSome = (atL L k).isSome := by
  rcases at_rel k h with ⟨a, b⟩ | ⟨b, v, u, a, c, _⟩ <;> simp_all
def putL (L : List (κ × Addr × V)) (k : κ) (b : Addr) (v : V) : List (κ × Addr × V) := if (atL L k).isSome then L.map (fun e => if e.1 = k then (e.1, e.2.1, v) else e) else L ++ [(k, b, v)]
theorem paired_app {α β : Type} {R : α → β → Prop} : ∀ {xs : List α} {ys : List β} {us : List α} {vs : List β}, Paired R xs ys → Paired R us vs → Paired R (xs ++ us) (ys ++ vs)
  | _, _, _, _, .nil, h => h
  | _, _, _, _, .cons h t, q => .cons h (paired_app t q)
theorem put_map {k : κ} {v : V} {u : Value} (r : RelV v u) : ∀ {L : List (κ × Addr × V)} {xs : List (κ × Addr × Value)}, Paired (DRel κ) L xs → Paired (DRel κ) (L.map fun e => if e.1 = k then (e.1, e.2.1, v) else e) (xs.map (putAt k u))
  | _, _, .nil => .nil
  | e :: _, x :: _, .cons ⟨h1, h2, h3⟩ t => by
    refine .cons ?_ (put_map r t)
    show DRel κ (if e.1 = k then (e.1, e.2.1, v) else e) (putAt k u x)
    unfold putAt
    by_cases q : e.1 = k
    · rw [if_pos q, if_pos (h1.trans q)]; exact ⟨h1, h2, r⟩
    · rw [if_neg q, if_neg (fun z => q (h1.symm.trans z))]; exact ⟨h1, h2, h3⟩
theorem keys_is {knd : HeapKind P w κ} {h : Heap} : ∀ {L : List (κ × Addr × V)} {xs : List (κ × Addr × Value)}, Paired (DRel κ) L xs → (∀ e ∈ L, knd.is h e.1 e.2.1) → ∀ x ∈ xs, knd.is h x.1 x.2.1
  | _, _, .nil, _, _, hx => by cases hx
  | e :: _, x :: _, .cons ⟨q1, q2, q3⟩ t, hk, y, hy => by
    rcases List.mem_cons.mp hy with rfl | hy
    · rw [q1, q2]; exact hk e (by simp)
    · exact keys_is t (fun e he => hk e (by simp [he])) y hy
theorem put_rel {k : κ} {b : Addr} {v : V} {u : Value} (r : RelV v u) {L : List (κ × Addr × V)} {xs : List (κ × Addr × Value)} (h : Paired (DRel κ) L xs) : Paired (DRel κ) (putL L k b v) (storedH xs k b u) := by
  unfold putL storedH
  rw [at_some h]
  split
  · exact put_map r h
  · exact paired_app h (.cons ⟨rfl, rfl, r⟩ .nil)
theorem Dct0.of {knd : HeapKind P w κ} {h : Heap} {a : Addr} {L : List (κ × Addr × V)} (R : Dct0 knd.hash h a L) (hk : ∀ e ∈ L, knd.is h e.1 e.2.1) : ∃ xs, Heap.DictOfH knd h a xs ∧ Paired (DRel κ) L xs ∧ xs.length ≤ 1000000 ∧ (a == sysModules) = false := by
  obtain ⟨o, es, ep, xs, h1, h2, h3, h4, h5, h6, h7, h8⟩ := R.ex
  refine ⟨xs, ⟨o, es, ep, h1, h2, h3, h4, ?_, h5⟩, h7, h6, h8⟩
  exact keys_is h7 hk
theorem Dct0.by {knd : HeapKind P w κ} {h : Heap} {a : Addr} {L : List (κ × Addr × V)} {xs : List (κ × Addr × Value)} (D : Heap.DictOfH knd h a xs) (p : Paired (DRel κ) L xs) (l : xs.length ≤ 1000000) (n : (a == sysModules) = false) : Dct0 knd.hash h a L := by
  obtain ⟨o, es, ep, h1, h2, h3, h4, _, h5⟩ := D
  exact ⟨o, es, ep, xs, h1, h2, h3, h4, h5, l, p, n⟩
theorem paired_len {α β : Type} {R : α → β → Prop} : ∀ {xs : List α} {ys : List β}, Paired R xs ys → ys.length = xs.length
  | _, _, .nil => rfl
  | _, _, .cons _ t => by rw [List.length_cons, List.length_cons, paired_len t]
end
section
variable {X : Cx} {κ : Type} [DecidableEq κ] {O : SX.SO X.prog X.w κ} {R : Hp → κ → Addr → Prop} {hash : κ → Int} {o i : Expr} {pos : Pos} {td ty : TE}
theorem room_in (O : SX.SO X.prog X.w κ) (hu : X.A.units + 64 < cLine) : O.toSK.k.room X.A.in1 := O.toSK.rm (by rw [Around.in1_units]; omega)
theorem pe_dnewH (hash : κ → Int) : PE X (.Dict [] [] pos) (fun _ H Q => ∀ p, H p = none → Q (.ref p) (upd H p (dctO hash p []))) := ⟨fun pins s σ H Q I h => wpAny_Dict_empty ⟨.ref s.heap.objs.size, _, I.laid (fun b u q => Heap.get?_push_of_some _ q) (Nat.le_refl _) (dct_objOk ⟨_, #[], _, [], Heap.get?_push_size _ rfl, ⟨rfl, rfl, rfl⟩, rfl, rfl, List.nodup_nil, by simp, .nil, by
    rw [beq_eq_false_iff_ne]
    exact Nat.ne_of_gt I.big⟩), rfl, h _ (HOk.fresh I.hok (Nat.le_refl _))⟩⟩
/-- d[k] of what is there -/
def tGetH (R : Hp → κ → Addr → Prop) (hash : κ → Int) (td ty : TE) : TE := fun σ H Q => td σ H fun x H1 => ty σ H1 fun y H2 => ∃ a b L k c v, x = .ref a ∧ y = .ref b ∧ H2 a = some (dctO hash a L) ∧ R H2 k b ∧ (∀ e ∈ L, R H2 e.1 e.2.1) ∧ atL L k = some (c, v) ∧ Q v H2
theorem pe_dgetH (B : HK X O R) (hh : O.toSK.k.hash = hash) (hu : X.A.units + 64 < cLine) (ho : PE X o td) (hi : PE X i ty) (hs : NoSl i) : PE X (.Subscript o i pos) (tGetH R hash td ty) :=
  ⟨fun pins s σ H Q I h => subD_of F.slot_dict_getitem.lookup hs (thn (ho.run pins s σ H _ I h) fun u s1 ⟨x, H1, I1, rx, q1⟩ => thn (hi.run pins s1 σ H1 _ I1 q1) fun iv s2 ⟨y, H2, I2, ry, a, b, L, k, c, v, ex, ey, ha, hk, hL, hv, q2⟩ => by
    subst ex; subst ey
    have e1 : u = .ref a := rx
    have e2 : iv = .ref b := ry
    subst e1; subst e2
    have C : Dct0 hash s2.heap a L := (I2.hok a _ ha).1
    rw [← hh] at C
    obtain ⟨xs, dd, pr, _, _⟩ := C.of fun e he => B.to I2 (hL e he)
    refine ⟨Heap.DictOfH.typeIs dd, ?_⟩
    rcases at_rel k pr with ⟨z, _⟩ | ⟨c', v', u', z1, z2, z3⟩
    · rw [hv] at z; cases z
    · rw [hv] at z1
      cases z1
      exact wpAny_getItem_heap (room_in O hu) (B.to I2 hk) dd z2 ⟨v, H2, I2.tok _, z3, q2⟩)⟩
def tInH (R : Hp → κ → Addr → Prop) (hash : κ → Int) (neg : Bool) (ty td : TE) : TE := fun σ H Q => ty σ H fun y H1 => td σ H1 fun x H2 => ∃ a b L k, x = .ref a ∧ y = .ref b ∧ H2 a = some (dctO hash a L) ∧ R H2 k b ∧ (∀ e ∈ L, R H2 e.1 e.2.1) ∧ Q (.bl (neg ^^ (atL L k).isSome)) H2
theorem pc_inH (B : HK X O R) (hh : O.toSK.k.hash = hash) (hu : X.A.units + 64 < cLine) (hi : PE X i ty) (ho : PE X o td) : PC X .In i o (tInH R hash false ty td) :=
  ⟨fun pins s σ H Q I h => thn (hi.run pins s σ H _ I h) fun iv s1 ⟨y, H1, I1, ry, q1⟩ => thn (ho.run pins s1 σ H1 _ I1 q1) fun u s2 ⟨x, H2, I2, rx, a, b, L, k, ex, ey, ha, hk, hL, q2⟩ => by
    subst ex; subst ey
    have e1 : u = .ref a := rx
    have e2 : iv = .ref b := ry
    subst e1; subst e2
    have C : Dct0 hash s2.heap a L := (I2.hok a _ ha).1
    rw [← hh] at C
    obtain ⟨xs, dd, pr, _, ns⟩ := C.of fun e he => B.to I2 (hL e he)
    refine wpAny_in_heap (room_in O hu) (B.to I2 hk) ns dd ?_
    rw [at_some pr]
    rw [Bool.false_xor] at q2
    exact ⟨.bl (atL L k).isSome, H2, I2.tok _, rfl, q2⟩⟩
theorem pc_notInH (B : HK X O R) (hh : O.toSK.k.hash = hash) (hu : X.A.units + 64 < cLine) (hi : PE X i ty) (ho : PE X o td) : PC X .NotIn i o (tInH R hash true ty td) :=
  ⟨fun pins s σ H Q I h => thn (hi.run pins s σ H _ I h) fun iv s1 ⟨y, H1, I1, ry, q1⟩ => thn (ho.run pins s1 σ H1 _ I1 q1) fun u s2 ⟨x, H2, I2, rx, a, b, L, k, ex, ey, ha, hk, hL, q2⟩ => by
    subst ex; subst ey
    have e1 : u = .ref a := rx
    have e2 : iv = .ref b := ry
    subst e1; subst e2
    have C : Dct0 hash s2.heap a L := (I2.hok a _ ha).1
    rw [← hh] at C
    obtain ⟨xs, dd, pr, _, ns⟩ := C.of fun e he => B.to I2 (hL e he)
    refine wpAny_notIn_heap (room_in O hu) (B.to I2 hk) ns dd ?_
    rw [at_some pr]
    rw [Bool.true_xor] at q2
    exact ⟨.bl (!(atL L k).isSome), H2, I2.tok _, rfl, q2⟩⟩
/-- d[k] = v -/
def rPutH (R : Hp → κ → Addr → Prop) (hash : κ → Int) : TSet := fun o i v H Q => ∃ a b L k, o = .ref a ∧ i = .ref b ∧ H a = some (dctO hash a L) ∧ R H k b ∧ (∀ e ∈ L, R H e.1 e.2.1) ∧ L.length < 1000000 ∧ Q (upd H a (dctO hash a (putL L k b v)))
theorem put_len {L : List (κ × Addr × V)} {k : κ} {b : Addr} {v : V} : (putL L k b v).length ≤ L.length + 1 := by
  unfold putL
  split
  · rw [List.length_map]; omega
  · rw [List.length_append, List.length_singleton]; omega
theorem set_dH (B : HK X O R) (hh : O.toSK.k.hash = hash) (hu : X.A.units + 64 < cLine) : PSet X (rPutH R hash) := fun pins s σ H o i v ov iv u Q I ro ri rv ⟨a, b, L, k, eo, ei, ha, hk, hL, hl, q⟩ => by
  subst eo; subst ei
  have e1 : ov = .ref a := ro
  have e2 : iv = .ref b := ri
  subst e1; subst e2
  have C : Dct0 hash s.heap a L := (I.hok a _ ha).1
  rw [← hh] at C
  obtain ⟨xs, dd, pr, lx, ns⟩ := C.of fun e he => B.to I (hL e he)
  have plen := paired_len pr
  refine wpAny_setItem_heap (room_in O hu) (B.to I hk) dd (fun h' dd' hs => ?_) (by rw [sizeLine_eq]; omega)
  have pr2 := put_rel (k := k) (b := b) rv pr
  have l2 := paired_len pr2
  have l3 := put_len (L := L) (k := k) (b := b) (v := v)
  have D2 : Dct0 hash h' a (putL L k b v) := by rw [← hh]; exact Dct0.by dd' pr2 (by omega) ns
  obtain ⟨ob, _, _, hob, _⟩ := dd'
  exact ⟨_, d_write I (by rw [ha]; exact trivial) hs ⟨ob, hob⟩ (dct_objOk D2), q⟩
def rPut0 : TSet := fun o i v H Q => ∃ a H', o = .ref a ∧ DPut H a i v H' ∧ Q H'
theorem set_d0 (hu : X.A.units + 64 < cLine) : PSet X rPut0 := fun pins s σ H o i v ov iv u Q I ro ri rv ⟨a, H', e, g, q⟩ => by
  subst e
  have e2 : ov = .ref a := ro
  subst e2
  exact d_setItem (by omega) I g ri rv fun s' I' => ⟨H', I', q⟩
/-- list(d) -/
theorem kdl_raw {prog : Program} {w : World} {d : Addr} {es : Array DictEntry} {ep : Nat} (lo : (d == sysModules) = false) : W.KdlSrc prog w "dict" d d es.size (fun i v => ∃ e, es[i]? = some e ∧ v = e.key) (fun h => h.DictRaw d es ep) where
  type := fun s ⟨o, h1, h2, _⟩ => ⟨o, h1, h2.1⟩
  there := fun h ⟨o, h1, _⟩ => ⟨Heap.lt_size h1, Heap.lt_size h1⟩
  keep := fun h h' ⟨o, h1, r⟩ k => ⟨o, k d (.inl rfl) o h1, r⟩
  notList := by decide
  notTuple := by decide
  hint := fun A E s Q ⟨o, h1, h2, _⟩ q => W.kdl_hint_dict ⟨o, h1, h2.1⟩ q
  iter := fun A s hh hm => by
    have hlt : d < s.heap.objs.size := by obtain ⟨o, h1, _⟩ := hm; exact Heap.lt_size h1
    refine ⟨{ cls := .type "dict_keyiterator", data := .fields #[.ref d, .int 0 0, .int (es.size : Int) 0, .int (ep : Int) 0] }, fun i h => h.IsKeyIter s.heap.objs.size d i es.size ep ∧ h.DictRaw d es ep, fun E Q hq => wpAny_pyIter_dict_raw lo hm hq, ⟨fun b hb => by simp at hb; simp [hb], fun i h h' st k => ?_, fun i s1 Q E hi st hQ => ?_, fun s1 Q E st hQ => ?_, fun i s1 Q E st hQ => wpAny_pyIter_keyiter st.1 hQ⟩, ?_, ?_⟩
    · obtain ⟨⟨o, h1, r⟩, ⟨o2, h2, r2⟩⟩ := st
      exact ⟨⟨o, k _ (by simp) o h1, r⟩, ⟨o2, k _ (by simp) o2 h2, r2⟩⟩
    · refine wpAny_pyNext_keys_item_raw st.1 st.2 hi fun h' hit hs => hQ _ h' s1.toks ⟨es[i], by rw [Array.getElem?_eq_getElem hi], rfl⟩ ⟨hit, ?_⟩ fun b o hb e => ?_
      · obtain ⟨o2, h2, r2⟩ := st.2
        exact ⟨o2, (hs.2 d (Nat.ne_of_lt hlt)).trans h2, r2⟩
      · exact (hs.2 b fun z => hb (by simp [z])).trans e
    · refine wpAny_pyNext_keys_end_raw hh st.1 st.2 (Nat.le_refl _) fun h' he => hQ h' s1.toks fun b o hb e => he b o (fun z => hb (by simp [z])) e
    · exact ⟨_, Heap.get?_push_size _ rfl, rfl, rfl⟩
    · obtain ⟨o2, h2, r2⟩ := hm
      exact ⟨o2, Heap.get?_push_of_some _ h2, r2⟩
def rListH (hash : κ → Int) : List V → Hp → VK → Prop := fun xs H Q => ∃ a L, xs = [V.ref a] ∧ H a = some (dctO hash a L) ∧ ∀ p, H p = none → Q (.ref p) (upd H p (.lst (L.map fun e => V.ref e.2.1)))
theorem cr_listH (hc : X.calm = true) : CallR X (.type "list") (rListH hash) := by
  intro pins s σ H xs us Q I r h
  obtain ⟨a, L, rfl, ha, q⟩ := h
  rw [Vals.ref1 r]
  have C : Dct0 hash s.heap a L := (I.hok a _ ha).1
  obtain ⟨o, es, ep, xs, h1, h2, h3, h4, h5, h6, h7, h8⟩ := C.ex
  have lx := paired_len h7
  have le : es.size = L.length := by rw [← Array.length_toList, h4, List.length_map, lx]
  have hn : H s.heap.objs.size = none := I.hok.fresh (Nat.le_refl _)
  refine W.kdl_call (kdl_raw h8) (I.ok.hd hc) ⟨o, h1, h2, h3⟩ (by rw [sizeLine_eq]; omega) fun h' tk acc' c' hkeep hS hacc => ?_
  refine ⟨.ref s.heap.objs.size, _, I.laid (t' := tk) (o := .lst (L.map fun e => V.ref e.2.1)) hkeep (Nat.le_refl _) ?_, rfl, q _ hn⟩
  refine ⟨by rw [List.length_map, sizeLine_eq]; omega, acc'.toList, c', ?_, by simpa using hS⟩
  obtain ⟨e1, e2⟩ := hacc
  refine vals_of_at (by rw [List.length_map]; exact le.symm.trans (e1.symm.trans Array.length_toList.symm)) fun j x u hx hu => ?_
  rw [Array.getElem?_toList] at hu
  obtain ⟨e, he, rfl⟩ := e2 j u hu
  rw [← Array.getElem?_toList, h4, List.getElem?_map] at he
  rw [List.getElem?_map] at hx
  have pat : ∀ {L : List (κ × Addr × V)} {xs : List (κ × Addr × Value)}, Paired (DRel κ) L xs → ∀ (j : Nat) e x, L[j]? = some e → xs[j]? = some x → DRel κ e x := by
    intro L xs p
    induction p with
    | nil => intro j e x h; simp at h
    | cons q t ih =>
      intro j e x a b
      cases j with
      | zero => simp at a b; subst a; subst b; exact q
      | succ j => exact ih j e x (by simpa using a) (by simpa using b)
  cases hL : L[j]? with
  | none => rw [hL] at hx; cases hx
  | some l =>
    cases hX : xs[j]? with
    | none => rw [hX] at he; cases he
    | some y =>
      rw [hL] at hx
      rw [hX] at he
      cases hx; cases he
      have z := (pat h7 j l y hL hX).2.1
      show Value.ref y.2.1 = Value.ref l.2.1
      rw [z]
end
end PD

/-! PEp: dicts in the store; while; a local name that holds a def. -/
namespace PD
open PySem PySem.Spec PyProof.Rows L2 SX
section
variable {G : Ga} {Z : Addr → Prop} {M : List Addr} {env : Env} {st : Stor} {σ : L2.St} {H : Hp}
/-- a new object of the store -/
theorem RS.push {p : Addr} {ho : HO} {o : Obj} (rs : RS G Z M env st σ H) (hp : H p = none) (ob : ObR G.K G.mg (fun a => Z a ∨ a = p) (M ++ [p]) (upd H p ho) o p) :
    RS G (fun a => Z a ∨ a = p) (M ++ [p]) env (st ++ [o]) σ (upd H p ho) ∧ Ext Z M H (fun a => Z a ∨ a = p) (M ++ [p]) (upd H p ho) := by
  have rs1 := rs.alloc (o := ho) hp
  have e1 : Ext Z M H (fun a => Z a ∨ a = p) M (upd H p ho) := Ext.alloc rs.mh hp
  have np : p ∉ M := fun h => rs.mh p h hp
  have ix : ∀ (i : Nat) (a : Addr), M[i]? = some a → (M ++ [p])[i]? = some a := fun i a h => by
    obtain ⟨hl, _⟩ := List.getElem?_eq_some_iff.mp h
    rw [List.getElem?_append_left hl]
    exact h
  have mono : ∀ {ds vs}, Reps G.K G.mg (fun a => Z a ∨ a = p) M (upd H p ho) ds vs → Reps G.K G.mg (fun a => Z a ∨ a = p) (M ++ [p]) (upd H p ho) ds vs := fun h => Reps.mono ix (fun _ _ e _ => e) (fun _ _ z => z) _ _ h
  have g0 : G.H0 p = none := by
    cases q : G.H0 p with
    | none => rfl
    | some o => exact absurd hp (rs.h0 p (by rw [q]; simp))
  refine ⟨⟨rs1.len, fun i sv hi => ?_, rs1.dis, ⟨?_, fun i o hi => ?_, ?_, fun a h => ?_, rs1.sto.zh⟩, rs1.z0, rs1.fr, ?_, fun a h => ?_, rs1.h0, rs1.n0, rs1.z00⟩, ⟨⟨[p], rfl⟩, fun a h => ?_, e1.fr, e1.z, e1.n, e1.h⟩⟩
  · obtain ⟨v, h1, h2⟩ := rs1.slot i sv hi
    refine ⟨v, h1, ?_⟩
    cases sv with
    | dat d => exact Rep.mono ix (fun _ _ e _ => e) (fun _ _ z => z) _ _ h2
    | own ds =>
      obtain ⟨q, vs, rfl, zq, nq, h0, hq, r⟩ := h2
      refine ⟨q, vs, rfl, zq, fun hm => ?_, h0, hq, mono r⟩
      rcases List.mem_append.mp hm with hm | hm
      · exact nq hm
      · have e : q = p := List.mem_singleton.mp hm
        subst e
        obtain ⟨v', g1, g2⟩ := rs.slot i _ hi
        obtain ⟨q', vs', rfl, _, _, _, hq', _⟩ := g2
        rw [h1] at g1
        cases g1
        rw [hp] at hq'
        cases hq'
    | view ds =>
      obtain ⟨a, vs, rfl, h0, na, r⟩ := h2
      exact ⟨a, vs, rfl, h0, na, mono r⟩
    | scr ds =>
      obtain ⟨a, vs, rfl, h0, r⟩ := h2
      exact ⟨a, vs, rfl, h0, mono r⟩
    | exn x =>
      obtain ⟨a, c, d, h0, rfl, h⟩ := h2
      exact ⟨a, c, d, h0, rfl, XRK.mono ix (fun _ _ e _ => e) (fun _ _ z => z) h⟩
    | thk => exact h2
  · rw [List.length_append, List.length_append, rs.sto.len]; rfl
  · rcases append_get hi with hi | ⟨hi2, rfl⟩
    · obtain ⟨a, h1, h2⟩ := rs1.sto.obj i o hi
      exact ⟨a, ix i a h1, h2.mono (fun _ _ r => mono r) (fun b u h z => ⟨h, z⟩) rfl⟩
    · refine ⟨p, ?_, ob⟩
      rw [hi2, ← rs.sto.len]
      simp
  · rw [List.nodup_append]
    refine ⟨rs.sto.nd, by simp, fun a ha b hb q => ?_⟩
    have e : b = p := List.mem_singleton.mp hb
    subst e
    subst q
    exact np ha
  · rcases List.mem_append.mp h with h | h
    · exact .inl (rs.mz a h)
    · exact .inr (List.mem_singleton.mp h)
  · obtain ⟨t, q⟩ := rs.m0
    exact ⟨t ++ [p], by rw [q, List.append_assoc]⟩
  · rcases List.mem_append.mp h with h | h
    · exact rs.mn a h
    · rw [List.mem_singleton.mp h]; exact .inr g0
  · rcases List.mem_append.mp h with h | h
    · exact .inl h
    · rw [List.mem_singleton.mp h]; exact .inr hp
/-- an object of the store is changed -/
theorem RS.wr (rs : RS G Z M env st σ H) {k : Nat} {o o' : Obj} {p : Addr} {x ho : HO} (hk : st[k]? = some o) (h1 : M[k]? = some p) (hp : H p = some x) (ni : ¬ Imm x)
    (ob : (∀ ds vs, Reps G.K G.mg Z M H ds vs → Reps G.K G.mg Z M (upd H p ho) ds vs) → ObR G.K G.mg Z M (upd H p ho) o' p) :
    RS G Z M env (st.set k o') σ (upd H p ho) ∧ Ext Z M H Z M (upd H p ho) := by
  have pm := List.mem_of_getElem? h1
  have zp := rs.mz p pm
  have hh : ∀ a, H a ≠ none → upd H p ho a ≠ none := fun a h => by
    by_cases q : a = p
    · rw [q, upd_same]; simp
    · rw [upd_ne q]; exact h
  have e : Ext Z M H Z M (upd H p ho) := ⟨⟨[], by simp⟩, fun a h => .inl h, fun b o e i => by
    by_cases q : b = p
    · subst q
      rcases i with i | i
      · exact absurd pm i
      · rw [hp] at e
        cases e
        exact absurd i ni
    · rw [upd_ne q]; exact e, fun _ h => h, fun _ _ z => z, hh⟩
  refine ⟨rs.step e ⟨by rw [List.length_set]; exact rs.sto.len, fun i o hi => ?_, rs.sto.nd, rs.sto.mz, fun a z => hh a (rs.sto.zh a z)⟩, e⟩
  rcases get_set hi with ⟨rfl, q⟩ | ⟨n, q⟩
  · subst q
    exact ⟨p, h1, ob fun ds vs r => e.reps rs.mz r⟩
  · obtain ⟨a, h3, h4⟩ := rs.sto.obj i o q
    refine ⟨a, h3, h4.mono (fun _ _ r => e.reps rs.mz r) (fun b u h z => ⟨e.fr b u h (.inl fun m => z (rs.mz b m)), fun z' => z (e.n b (by rw [h]; simp) z')⟩) (upd_ne fun q => ?_)⟩
    subst q
    exact n (nd_ix rs.sto.nd h3 h1)
end
/-! ### keys -/
section
variable {κ : Type} [DecidableEq κ]
def dFind (dec : D → Option κ) (kvs : List (D × D)) (q : κ) : Option D := (kvs.find? fun x => decide (dec x.1 = some q)).map (·.2)
def dSet (dec : D → Option κ) (kvs : List (D × D)) (d : D) (q : κ) (v : D) : List (D × D) := if (dFind dec kvs q).isSome then kvs.map (fun x => if dec x.1 = some q then (x.1, v) else x) else kvs ++ [(d, v)]
variable {K : PySem.W.Frag} {mg : Str → Option Value} {Z : Addr → Prop} {M : List Addr} {H : Hp} {dec : D → Option κ} {enc : κ → D}
theorem find_rel (hd : ∀ k, dec (enc k) = some k) (q : κ) : ∀ {kvs : List (D × D)} {L : List (κ × Addr × V)}, kvs.map (·.1) = L.map (fun x => enc x.1) → Reps K mg Z M H (kvs.map (·.2)) (L.map (·.2.2)) → (dFind dec kvs q = none ∧ atL L q = none) ∨ ∃ d c v, dFind dec kvs q = some d ∧ atL L q = some (c, v) ∧ Rep K mg Z M H d v
  | [], [], _, _ => .inl ⟨rfl, rfl⟩
  | [], _ :: _, e, _ => by cases e
  | _ :: _, [], e, _ => by cases e
  | x :: kvs, e :: L, h, ⟨v, r, e1, h1, h2⟩ => by
    rw [List.map_cons, List.map_cons] at h
    obtain ⟨a1, a2⟩ := List.cons.inj h
    obtain ⟨b1, b2⟩ := List.cons.inj e1
    subst b2
    have b1 : e.2.2 = v := b1
    subst b1
    unfold dFind atL
    rw [List.find?_cons, List.find?_cons, a1, hd]
    by_cases z : e.1 = q
    · rw [decide_eq_true z, decide_eq_true (congrArg some z)]
      exact .inr ⟨x.2, e.2.1, e.2.2, rfl, rfl, h1⟩
    · rw [decide_eq_false z, decide_eq_false (fun y => z (Option.some.inj y))]
      exact find_rel hd q a2 h2
theorem find_some (hd : ∀ k, dec (enc k) = some k) (q : κ) {kvs : List (D × D)} {L : List (κ × Addr × V)} (h : kvs.map (·.1) = L.map (fun x => enc x.1)) (r : Reps K mg Z M H (kvs.map (·.2)) (L.map (·.2.2))) : (atL L q).isSome = (dFind dec kvs q).isSome := by
  rcases find_rel hd q h r with ⟨a, b⟩ | ⟨d, c, v, a, b, _⟩ <;> simp_all
theorem set_rel (hd : ∀ k, dec (enc k) = some k) {q : κ} {b : Addr} {v : V} {dv : D} (hv : Rep K mg Z M H dv v) : ∀ {kvs : List (D × D)} {L : List (κ × Addr × V)}, kvs.map (·.1) = L.map (fun x => enc x.1) → Reps K mg Z M H (kvs.map (·.2)) (L.map (·.2.2)) →
    (kvs.map (fun x => if dec x.1 = some q then (x.1, dv) else x)).map (·.1) = (L.map fun e => if e.1 = q then (e.1, e.2.1, v) else e).map (fun x => enc x.1) ∧ (kvs.map (fun x => if dec x.1 = some q then (x.1, dv) else x)).map (·.1) = kvs.map (·.1) ∧ (L.map fun e => if e.1 = q then (e.1, e.2.1, v) else e).map (fun x => V.ref x.2.1) = L.map (fun x => V.ref x.2.1) ∧
    Reps K mg Z M H ((kvs.map (fun x => if dec x.1 = some q then (x.1, dv) else x)).map (·.2)) ((L.map fun e => if e.1 = q then (e.1, e.2.1, v) else e).map (·.2.2))
  | [], [], _, _ => ⟨rfl, rfl, rfl, rfl⟩
  | [], _ :: _, e, _ => by cases e
  | _ :: _, [], e, _ => by cases e
  | x :: kvs, e :: L, h, ⟨w, r, e1, h1, h2⟩ => by
    rw [List.map_cons, List.map_cons] at h
    obtain ⟨a1, a2⟩ := List.cons.inj h
    obtain ⟨b1, b2⟩ := List.cons.inj e1
    subst b2
    have b1 : e.2.2 = w := b1
    subst b1
    obtain ⟨i1, i2, i3, i4⟩ := set_rel hd hv (q := q) (b := b) a2 h2
    simp only [List.map_cons]
    rw [a1, hd]
    by_cases z : e.1 = q
    · rw [if_pos z, if_pos (congrArg some z)]
      exact ⟨by rw [i1], by rw [i2], by rw [i3], _, _, rfl, hv, i4⟩
    · rw [if_neg z, if_neg (fun y => z (Option.some.inj y))]
      exact ⟨by rw [i1, a1], by rw [i2, a1], by rw [i3], _, _, rfl, h1, i4⟩
end
end PD

/-! PEq: dicts as expressions and statements; while; a local name that holds a def. -/
namespace PD
open PySem PySem.Spec PyProof.Rows L2 SX
/-! ### what is computed -/
def eDct (kd : Nat) : EV := fun _ st => .ok (.dat (.ref st.length)) (st ++ [.dct kd []])
def dLook (kd : Nat) (kvs : List (D × D)) (d : D) : Option (Option D) := match kd with
  | 0 => (keyOf d).map (dFind keyOf kvs)
  | 1 => (rowOf d).map (dFind rowOf kvs)
  | 2 => (holdOf d).map (dFind holdOf kvs)
  | _ => none
def dStore (kd : Nat) (kvs : List (D × D)) (d v : D) : Option (List (D × D)) := match kd with
  | 0 => (keyOf d).map fun q => dSet keyOf kvs d q v
  | 1 => (rowOf d).map fun q => dSet rowOf kvs d q v
  | 2 => (holdOf d).map fun q => dSet holdOf kvs d q v
  | _ => none
def dctAt (kd : Nat) (st : Stor) (r : R) : Option (Nat × List (D × D)) := match r with
  | .dat (.ref i) => (match st[i]? with
    | some (.dct k kvs) => if k = kd then some (i, kvs) else none
    | _ => none)
  | _ => none
theorem dctAt_is {kd : Nat} {st : Stor} {r : R} {i : Nat} {kvs : List (D × D)} (h : dctAt kd st r = some (i, kvs)) : r = .dat (.ref i) ∧ st[i]? = some (.dct kd kvs) := by
  unfold dctAt at h
  split at h
  · split at h
    · split at h
      · rename_i j k kvs' e q
        subst q
        cases h
        exact ⟨rfl, e⟩
      · cases h
    · cases h
  · cases h
def fDGet (kd : Nat) (r1 r2 : R) (st : Stor) : Out R := match dctAt kd st r1, r2 with
  | some (_, kvs), .dat d => (match dLook kd kvs d with
    | some (some v) => .ok (.dat v) st
    | _ => .bad)
  | _, _ => .bad
def fDIn (kd : Nat) (neg : Bool) (r1 r2 : R) (st : Stor) : Out R := match r1, dctAt kd st r2 with
  | .dat d, some (_, kvs) => (match dLook kd kvs d with
    | some o => .ok (.dat (.bl (neg ^^ o.isSome))) st
    | _ => .bad)
  | _, _ => .bad
def fListD (kd : Nat) (r : R) (st : Stor) : Out R := match dctAt kd st r with
  | some (_, kvs) => .ok (.new (kvs.map (·.1))) st
  | none => .bad
def sDPut (kd : Nat) (o k v : EV) : SVm := fun env st => match v env st with
  | .ok (.dat dv) st1 => (match o env st1 with
    | .ok ro st2 => (match k env st2 with
      | .ok (.dat dk) st3 => (match dctAt kd st3 ro with
        | some (i, kvs) => (match dStore kd kvs dk dv with
          | some kvs' => if kvs.length < 1000000 then .nx env (st3.set i (.dct kd kvs')) else .bad
          | none => .bad)
        | none => .bad)
      | .ok _ _ => .bad
      | .exc x s => .exc x env s
      | .bad => .bad)
    | .exc x s => .exc x env s
    | .bad => .bad)
  | .ok _ _ => .bad
  | .exc x s => .exc x env s
  | .bad => .bad
def wGo (t : TV) (b : SVm) : Nat → SVm
  | 0 => fun _ _ => .bad
  | n + 1 => fun env st => match t env st with
    | .ok true st1 => (match b env st1 with
      | .nx e s => wGo t b n e s
      | .cont e s => wGo t b n e s
      | .brk e s => .nx e s
      | o => o)
    | .ok false st1 => .nx env st1
    | .exc x s => .exc x env s
    | .bad => .bad
def sWhile (t : TV) (b : SVm) : SVm := wGo t b 100000
def eCallV (tab : List (Str × Sem)) (i : Nat) (as : AV) : EV := fun env st => match env[i]? with
  | some (some (.dat (.glo x))) => (match tab.lookup x with
    | some f => eAp (fCall f) as env st
    | none => .bad)
  | _ => .bad
section
variable {X : Cx} {G : Ga} {W : WX} {e e2 e3 : Expr} {es : List Expr} {a b c : EV} {as : AV} {t : TV} {pos : Pos} {s : SVm}
theorem rd_push {o : Obj} {ho : Addr → HO} {σ : L2.St} {H : Hp} {Q : VK} (hob : ∀ Z M p, ObR G.K G.mg Z M (upd H p (ho p)) o p) (h : rd G W (fun _ st => .ok (.dat (.ref st.length)) (st ++ [o])) σ H Q) : ∀ p, H p = none → Q (.ref p) (upd H p (ho p)) := by
  obtain ⟨Z, M, env, st, rs, p⟩ := h
  intro q hq
  obtain ⟨rs2, e2⟩ := rs.push (ho := ho q) (o := o) hq (hob _ _ q)
  refine p _ _ _ _ rs2 e2 ⟨q, ?_, rfl⟩
  rw [← rs.sto.len]
  simp
theorem i_dct0 : PE X (.Dict [] [] pos) (rd G W (eDct 0)) := pe_dnewK.imp fun σ H Q h => rd_push (o := .dct 0 []) (ho := fun _ => .dK []) (fun Z M p => ⟨[], [], rfl, upd_same, rfl⟩) h
theorem i_dct1 : PE X (.Dict [] [] pos) (rd G W (eDct 1)) := (pe_dnewH (dhash1 X.prog X.w)).imp fun σ H Q h => rd_push (o := .dct 1 []) (ho := fun p => dctO (dhash1 X.prog X.w) p []) (fun Z M p => ⟨X.prog, X.w, [], rfl, upd_same, rfl, rfl⟩) h
theorem i_dct2 : PE X (.Dict [] [] pos) (rd G W (eDct 2)) := (pe_dnewH (dhash2 X.prog X.w)).imp fun σ H Q h => rd_push (o := .dct 2 []) (ho := fun p => dctO (dhash2 X.prog X.w) p []) (fun Z M p => ⟨X.prog, X.w, [], rfl, upd_same, rfl, rfl⟩) h
/-! keys in the heap -/
theorem rowOf_rowD (k : List Int) : rowOf (rowD k) = some k := by
  show intsOf (k.map D.int) = some k
  induction k with
  | nil => rfl
  | cons x xs ih => rw [List.map_cons]; unfold intsOf; rw [ih]
theorem rowsOf_rowD : ∀ ks : List (List Int), PD.rowsOf (ks.map rowD) = some ks
  | [] => rfl
  | k :: ks => by rw [List.map_cons]; unfold PD.rowsOf; rw [rowsOf_rowD ks, rowOf_rowD]
theorem holdOf_holdD (ks : List (List Int)) : holdOf (holdD ks) = some ks := rowsOf_rowD ks
variable {Z : Addr → Prop} {M : List Addr} {env : Env} {st : Stor} {σ : L2.St} {H : Hp}
theorem ref_of_rep {κ : Type} {K : PySem.W.Frag} {mg : Str → Option Value} {R : Hp → κ → Addr → Prop} {dec : D → Option κ} (hr : ∀ {d : D} {v : V} {k : κ}, Rep K mg Z M H d v → dec d = some k → ∃ a, v = .ref a ∧ R H k a) {enc : κ → D} (hd : ∀ k, dec (enc k) = some k) :
    ∀ {kvs : List (D × D)} {L : List (κ × Addr × V)}, kvs.map (·.1) = L.map (fun x => enc x.1) → Reps K mg Z M H (kvs.map (·.1)) (L.map fun x => .ref x.2.1) → ∀ e ∈ L, R H e.1 e.2.1
  | [], [], _, _, _, he => by cases he
  | [], _ :: _, e, _, _, _ => by cases e
  | _ :: _, [], e, _, _, _ => by cases e
  | x :: kvs, l :: L, h, ⟨v, r, e1, h1, h2⟩, e, he => by
    rw [List.map_cons, List.map_cons] at h
    obtain ⟨a1, a2⟩ := List.cons.inj h
    obtain ⟨b1, b2⟩ := List.cons.inj e1
    subst b2
    rcases List.mem_cons.mp he with rfl | he
    · have h1 : Rep K mg Z M H x.1 v := h1
      rw [a1] at h1
      obtain ⟨a, q1, q2⟩ := hr h1 (hd _)
      have b1 : V.ref e.2.1 = v := b1
      rw [← b1] at q1
      cases q1
      exact q2
    · exact ref_of_rep hr hd a2 h2 e he
theorem row_R1 {K : PySem.W.Frag} {mg : Str → Option Value} {d : D} {v : V} {k : List Int} (h : Rep K mg Z M H d v) (e : rowOf d = some k) : ∃ a, v = .ref a ∧ R1 K H k a := row_rel h e
theorem hold_R2 {K : PySem.W.Frag} {mg : Str → Option Value} {d : D} {v : V} {k : List (List Int)} (h : Rep K mg Z M H d v) (e : holdOf d = some k) : ∃ a, v = .ref a ∧ R2 K H k a := hold_rel h e
end
end PD

/-! PEr: the same: the machine does so. -/
namespace PD
open PySem PySem.Spec PyProof.Rows L2 SX
section
variable {X : Cx} {G : Ga} {W : WX} {e e2 e3 : Expr} {es : List Expr} {a b c : EV} {as : AV} {t : TV} {pos : Pos} {s : SVm}
variable {K : PySem.W.Frag} {mg : Str → Option Value} {Z : Addr → Prop} {M : List Addr} {env : Env} {st : Stor} {σ : L2.St} {H : Hp}
/-! ints and texts as keys -/
theorem find0 (q : Key) : ∀ {kvs : List (D × D)} {ks : List Key} {vs : List V}, kvs.map (fun x => keyOf x.1) = ks.map some → Reps K mg Z M H (kvs.map (·.2)) vs → (dFind keyOf kvs q = none ∧ valV (ks.zip vs) q = none) ∨ ∃ d v, dFind keyOf kvs q = some d ∧ valV (ks.zip vs) q = some v ∧ Rep K mg Z M H d v
  | [], [], _, _, _ => .inl ⟨rfl, rfl⟩
  | [], _ :: _, _, e, _ => by cases e
  | _ :: _, [], _, e, _ => by cases e
  | x :: kvs, k :: ks, vs, h, ⟨v, r, e1, h1, h2⟩ => by
    subst e1
    rw [List.map_cons, List.map_cons] at h
    obtain ⟨a1, a2⟩ := List.cons.inj h
    unfold dFind valV
    rw [List.zip_cons_cons, List.find?_cons, List.find?_cons, a1]
    by_cases z : k = q
    · rw [decide_eq_true z, decide_eq_true (congrArg some z)]
      exact .inr ⟨x.2, v, rfl, rfl, h1⟩
    · rw [decide_eq_false z, decide_eq_false (fun y => z (Option.some.inj y))]
      exact find0 q a2 h2
theorem any_valV {κ : Type} [DecidableEq κ] {kvs : List (κ × V)} {q : κ} : (kvs.any fun kv => decide (kv.1 = q)) = (valV kvs q).isSome := by
  unfold valV
  induction kvs with
  | nil => rfl
  | cons x xs ih =>
    rw [List.any_cons, List.find?_cons]
    by_cases z : x.1 = q
    · rw [decide_eq_true z]; rfl
    · rw [decide_eq_false z, Bool.false_or]; exact ih
theorem upd0 {q : Key} {v : V} {dv : D} (hv : Rep K mg Z M H dv v) : ∀ {kvs : List (D × D)} {ks : List Key} {vs : List V}, kvs.map (fun x => keyOf x.1) = ks.map some → Reps K mg Z M H (kvs.map (·.2)) vs →
    ∃ vs', (ks.zip vs).map (fun kv => if kv.1 = q then (kv.1, v) else kv) = ks.zip vs' ∧ (kvs.map fun x => if keyOf x.1 = some q then (x.1, dv) else x).map (fun x => keyOf x.1) = ks.map some ∧ Reps K mg Z M H ((kvs.map fun x => if keyOf x.1 = some q then (x.1, dv) else x).map (·.2)) vs'
  | [], [], vs, _, h => ⟨[], rfl, rfl, rfl⟩
  | [], _ :: _, _, e, _ => by cases e
  | _ :: _, [], _, e, _ => by cases e
  | x :: kvs, k :: ks, vs, h, ⟨w, r, e1, h1, h2⟩ => by
    subst e1
    rw [List.map_cons, List.map_cons] at h
    obtain ⟨a1, a2⟩ := List.cons.inj h
    obtain ⟨vs', i1, i2, i3⟩ := upd0 (q := q) hv a2 h2
    by_cases z : k = q
    · refine ⟨v :: vs', ?_, ?_, ?_⟩
      · rw [List.zip_cons_cons, List.map_cons, i1, if_pos z]; rfl
      · rw [List.map_cons, List.map_cons, i2, if_pos (a1.trans (congrArg some z)), List.map_cons, a1]
      · rw [List.map_cons, List.map_cons, if_pos (a1.trans (congrArg some z))]
        exact ⟨_, _, rfl, hv, i3⟩
    · have nz : ¬ keyOf x.1 = some q := fun y => z (Option.some.inj (a1.symm.trans y))
      refine ⟨w :: vs', ?_, ?_, ?_⟩
      · rw [List.zip_cons_cons, List.map_cons, i1, if_neg z]; rfl
      · rw [List.map_cons, List.map_cons, i2, if_neg nz, List.map_cons, a1]
      · rw [List.map_cons, List.map_cons, if_neg nz]
        exact ⟨_, _, rfl, h1, i3⟩
theorem put0 {q : Key} {v : V} {d dv : D} (hd : keyOf d = some q) (hv : Rep K mg Z M H dv v) {kvs : List (D × D)} {ks : List Key} {vs : List V} (h : kvs.map (fun x => keyOf x.1) = ks.map some) (r : Reps K mg Z M H (kvs.map (·.2)) vs) :
    ∃ (ks' : List Key) (vs' : List V), putK (ks.zip vs) q v = ks'.zip vs' ∧ (dSet keyOf kvs d q dv).map (fun x => keyOf x.1) = ks'.map some ∧ Reps K mg Z M H ((dSet keyOf kvs d q dv).map (·.2)) vs' := by
  unfold putK dSet
  rw [any_valV]
  have e : (valV (ks.zip vs) q).isSome = (dFind keyOf kvs q).isSome := by
    rcases find0 q h r with ⟨a, b⟩ | ⟨d, v, a, b, _⟩ <;> rw [a, b] <;> rfl
  rw [e]
  split
  · obtain ⟨vs', i1, i2, i3⟩ := upd0 (q := q) hv h r
    exact ⟨ks, vs', i1, i2, i3⟩
  · have l1 : ks.length = vs.length := by
      have := congrArg List.length h
      rw [List.length_map, List.length_map] at this
      have r2 := r.length
      rw [List.length_map] at r2
      omega
    refine ⟨ks ++ [q], vs ++ [v], ?_, ?_, ?_⟩
    · rw [List.zip_append l1]; rfl
    · rw [List.map_append, List.map_append, h]
      simp [hd]
    · rw [List.map_append]
      exact r.append (.one hv)
theorem key_val {d : D} {v : V} {q : Key} (h : Rep K mg Z M H d v) (e : keyOf d = some q) : v = kV q := by
  cases d with
  | int n => cases e; exact h
  | str x => cases e; exact h
  | _ => cases e
theorem Rd.of {a : Addr} {u : HO} (h : H a = some u) : Rd H a u := .inl h
/-! ### d[k] -/
theorem rd_dgetH (X : Cx) {κ : Type} [DecidableEq κ] {R : Hp → κ → Addr → Prop} {hash : κ → Int} {dec : D → Option κ} {enc : κ → D} {kd : Nat}
    (hlk : ∀ kvs d, dLook kd kvs d = (dec d).map (dFind dec kvs)) (hed : ∀ k, dec (enc k) = some k) (hrep : ∀ {Z : Addr → Prop} {M : List Addr} {H : Hp} {d : D} {v : V} {k : κ}, Rep G.K G.mg Z M H d v → dec d = some k → ∃ a, v = .ref a ∧ R H k a)
    (hob : ∀ {Z : Addr → Prop} {M : List Addr} {H : Hp} {kvs : List (D × D)} {p : Addr}, ObR G.K G.mg Z M H (.dct kd kvs) p → ∃ L : List (κ × Addr × V), kvs.map (·.1) = L.map (fun x => enc x.1) ∧ H p = some (dctO hash p L) ∧ Reps G.K G.mg Z M H (kvs.map (·.1)) (L.map fun x => .ref x.2.1) ∧ Reps G.K G.mg Z M H (kvs.map (·.2)) (L.map (·.2.2)))
    {σ : L2.St} {H : Hp} {Q : VK} (h : rd G W (eBin (fDGet kd) a b) σ H Q) : tGetH R hash (rd G W a) (rd G W b) σ H Q := by
  have h2 := rd_bin (X := X) (r := fun x y H2 Q => ∃ a b L k c v, x = .ref a ∧ y = .ref b ∧ H2 a = some (dctO hash a L) ∧ R H2 k b ∧ (∀ e ∈ L, R H2 e.1 e.2.1) ∧ atL L k = some (c, v) ∧ Q v H2) (fun B Z M env st σ H Q r1 r2 v1 v2 rs w1 w2 p => ?_) h
  · exact h2
  · unfold fDGet at p
    split at p
    · rename_i i kvs d e1
      obtain ⟨rfl, ei⟩ := dctAt_is e1
      rw [hlk] at p
      cases ek : dec d with
      | none => rw [ek] at p; exact p.elim
      | some k =>
        rw [ek] at p
        obtain ⟨q, hM, ob⟩ := rs.sto.obj i _ ei
        obtain ⟨L, g1, g2, g3, g4⟩ := hob ob
        obtain ⟨bb, rfl, hR⟩ := hrep w2 ek
        have hv1 : v1 = .ref q := by
          obtain ⟨a, ha, rfl⟩ := w1
          rw [hM] at ha
          cases ha
          rfl
        subst hv1
        have p : EPost G W Z M env σ H Q (match some (dFind dec kvs k) with | some (some v) => .ok (.dat v) st | _ => .bad) := p
        rcases find_rel hed k g1 g4 with ⟨z, _⟩ | ⟨d', cc, v, z1, z2, z3⟩
        · rw [z] at p; exact p.elim
        · rw [z1] at p
          exact ⟨q, bb, L, k, cc, v, rfl, rfl, g2, hR, ref_of_rep hrep hed g1 g3, z2, ans_dat rs p z3⟩
    · exact p.elim
theorem dct1_ob {p : Addr} {kvs : List (D × D)} (P : Program) (w : World) (ob : ObR K mg Z M H (.dct 1 kvs) p) : ∃ L : List (List Int × Addr × V), kvs.map (·.1) = L.map (fun x => rowD x.1) ∧ H p = some (dctO (dhash1 P w) p L) ∧ Reps K mg Z M H (kvs.map (·.1)) (L.map fun x => .ref x.2.1) ∧ Reps K mg Z M H (kvs.map (·.2)) (L.map (·.2.2)) := by
  obtain ⟨_, _, L, h⟩ := ob; exact ⟨L, h⟩
theorem dct2_ob {p : Addr} {kvs : List (D × D)} (P : Program) (w : World) (ob : ObR K mg Z M H (.dct 2 kvs) p) : ∃ L : List (List (List Int) × Addr × V), kvs.map (·.1) = L.map (fun x => holdD x.1) ∧ H p = some (dctO (dhash2 P w) p L) ∧ Reps K mg Z M H (kvs.map (·.1)) (L.map fun x => .ref x.2.1) ∧ Reps K mg Z M H (kvs.map (·.2)) (L.map (·.2.2)) := by
  obtain ⟨_, _, L, h⟩ := ob; exact ⟨L, h⟩
theorem hu_room {j : Nat} (hr : Room j X.A) : X.A.units + 64 < cLine := by have := hr.un; omega
theorem i_dget1 {j : Nat} (hr : Room j X.A) (hK : G.K = X.K) (ha : PE X e (rd G W a)) (hb : PE X e2 (rd G W b)) (hs : NoSl e2 := by intro _ _; rfl) : PE X (.Subscript e e2 pos) (rd G W (eBin (fDGet 1) a b)) :=
  (pe_dgetH (hk1 X) (hash := dhash1 X.prog X.w) rfl (hu_room hr) ha hb hs).imp fun σ H Q h => rd_dgetH X (dec := rowOf) (enc := rowD) (fun _ _ => rfl) rowOf_rowD (fun r e => by rw [← hK]; exact row_R1 r e) (dct1_ob _ _) h
theorem i_dget2 {j : Nat} (hr : Room j X.A) (hK : G.K = X.K) (ha : PE X e (rd G W a)) (hb : PE X e2 (rd G W b)) (hs : NoSl e2 := by intro _ _; rfl) : PE X (.Subscript e e2 pos) (rd G W (eBin (fDGet 2) a b)) :=
  (pe_dgetH (hk2 X) (hash := dhash2 X.prog X.w) rfl (hu_room hr) ha hb hs).imp fun σ H Q h => rd_dgetH X (dec := holdOf) (enc := holdD) (fun _ _ => rfl) holdOf_holdD (fun r e => by rw [← hK]; exact hold_R2 r e) (dct2_ob _ _) h
theorem i_dget0 {j : Nat} (hr : Room j X.A) (ha : PE X e (rd G W a)) (hb : PE X e2 (rd G W b)) (hs : NoSl e2 := by intro _ _; rfl) : PE X (.Subscript e e2 pos) (rd G W (eBin (fDGet 0) a b)) :=
  (pe_dget (by have := hr.un; omega) ha hb hs).imp fun σ H Q h => rd_bin (X := X) (r := fun x y H2 Q => ∃ a v, x = .ref a ∧ DGet H2 a y (some v) ∧ Q v H2) (fun B Z M env st σ H Q r1 r2 v1 v2 rs w1 w2 p => by
    unfold fDGet at p
    split at p
    · rename_i i kvs d e1
      obtain ⟨rfl, ei⟩ := dctAt_is e1
      unfold dLook at p
      cases ek : keyOf d with
      | none => rw [ek] at p; exact p.elim
      | some k =>
        rw [ek] at p
        obtain ⟨q, hM, ks, vs, g1, g2, g3⟩ := rs.sto.obj i _ ei
        have hv1 : v1 = .ref q := by
          obtain ⟨a, ha, rfl⟩ := w1
          rw [hM] at ha
          cases ha
          rfl
        subst hv1
        have p : EPost G W Z M env σ H Q (match some (dFind keyOf kvs k) with | some (some v) => .ok (.dat v) st | _ => .bad) := p
        rcases find0 k g1 g3 with ⟨z, _⟩ | ⟨d', v, z1, z2, z3⟩
        · rw [z] at p; exact p.elim
        · rw [z1] at p
          exact ⟨q, v, rfl, .inl ⟨_, k, Rd.of g2, key_val w2 ek, z2.symm⟩, ans_dat rs p z3⟩
    · exact p.elim) h
/-! ### k in d -/
theorem rd_dinH (X : Cx) {κ : Type} [DecidableEq κ] {R : Hp → κ → Addr → Prop} {hash : κ → Int} {dec : D → Option κ} {enc : κ → D} {kd : Nat} {neg : Bool}
    (hlk : ∀ kvs d, dLook kd kvs d = (dec d).map (dFind dec kvs)) (hed : ∀ k, dec (enc k) = some k) (hrep : ∀ {Z : Addr → Prop} {M : List Addr} {H : Hp} {d : D} {v : V} {k : κ}, Rep G.K G.mg Z M H d v → dec d = some k → ∃ a, v = .ref a ∧ R H k a)
    (hob : ∀ {Z : Addr → Prop} {M : List Addr} {H : Hp} {kvs : List (D × D)} {p : Addr}, ObR G.K G.mg Z M H (.dct kd kvs) p → ∃ L : List (κ × Addr × V), kvs.map (·.1) = L.map (fun x => enc x.1) ∧ H p = some (dctO hash p L) ∧ Reps G.K G.mg Z M H (kvs.map (·.1)) (L.map fun x => .ref x.2.1) ∧ Reps G.K G.mg Z M H (kvs.map (·.2)) (L.map (·.2.2)))
    {σ : L2.St} {H : Hp} {Q : VK} (h : rd G W (eBin (fDIn kd neg) a b) σ H Q) : tInH R hash neg (rd G W a) (rd G W b) σ H Q := by
  have h2 := rd_bin (X := X) (r := fun y x H2 Q => ∃ a b L k, x = .ref a ∧ y = .ref b ∧ H2 a = some (dctO hash a L) ∧ R H2 k b ∧ (∀ e ∈ L, R H2 e.1 e.2.1) ∧ Q (.bl (neg ^^ (atL L k).isSome)) H2) (fun B Z M env st σ H Q r1 r2 v1 v2 rs w1 w2 p => ?_) h
  · exact h2
  · unfold fDIn at p
    split at p
    · rename_i d i kvs e1
      obtain ⟨rfl, ei⟩ := dctAt_is e1
      rw [hlk] at p
      cases ek : dec d with
      | none => rw [ek] at p; exact p.elim
      | some k =>
        rw [ek] at p
        obtain ⟨q, hM, ob⟩ := rs.sto.obj i _ ei
        obtain ⟨L, g1, g2, g3, g4⟩ := hob ob
        obtain ⟨bb, rfl, hR⟩ := hrep w1 ek
        have hv1 : v2 = .ref q := by
          obtain ⟨a, ha, rfl⟩ := w2
          rw [hM] at ha
          cases ha
          rfl
        subst hv1
        have p : EPost G W Z M env σ H Q (.ok (.dat (.bl (neg ^^ (dFind dec kvs k).isSome))) st) := p
        rw [← find_some hed k g1 g4] at p
        exact ⟨q, bb, L, k, rfl, rfl, g2, hR, ref_of_rep hrep hed g1 g3, ans_dat rs p rfl⟩
    · exact p.elim
theorem i_din1 {j : Nat} (hr : Room j X.A) (hK : G.K = X.K) (ha : PE X e (rd G W a)) (hb : PE X e2 (rd G W b)) (hm : behindInMarks .In e2 = false := by rfl) : PE X (.Compare e [.In] [e2] pos) (rd G W (eBin (fDIn 1 false) a b)) :=
  (pe_cmp (pc_inH (hk1 X) (hash := dhash1 X.prog X.w) rfl (hu_room hr) ha hb) hm).imp fun σ H Q h => rd_dinH X (dec := rowOf) (enc := rowD) (fun _ _ => rfl) rowOf_rowD (fun r e => by rw [← hK]; exact row_R1 r e) (dct1_ob _ _) h
theorem i_dnin1 {j : Nat} (hr : Room j X.A) (hK : G.K = X.K) (ha : PE X e (rd G W a)) (hb : PE X e2 (rd G W b)) (hm : behindInMarks .NotIn e2 = false := by rfl) : PE X (.Compare e [.NotIn] [e2] pos) (rd G W (eBin (fDIn 1 true) a b)) :=
  (pe_cmp (pc_notInH (hk1 X) (hash := dhash1 X.prog X.w) rfl (hu_room hr) ha hb) hm).imp fun σ H Q h => rd_dinH X (dec := rowOf) (enc := rowD) (fun _ _ => rfl) rowOf_rowD (fun r e => by rw [← hK]; exact row_R1 r e) (dct1_ob _ _) h
theorem i_din2 {j : Nat} (hr : Room j X.A) (hK : G.K = X.K) (ha : PE X e (rd G W a)) (hb : PE X e2 (rd G W b)) (hm : behindInMarks .In e2 = false := by rfl) : PE X (.Compare e [.In] [e2] pos) (rd G W (eBin (fDIn 2 false) a b)) :=
  (pe_cmp (pc_inH (hk2 X) (hash := dhash2 X.prog X.w) rfl (hu_room hr) ha hb) hm).imp fun σ H Q h => rd_dinH X (dec := holdOf) (enc := holdD) (fun _ _ => rfl) holdOf_holdD (fun r e => by rw [← hK]; exact hold_R2 r e) (dct2_ob _ _) h
theorem i_dnin2 {j : Nat} (hr : Room j X.A) (hK : G.K = X.K) (ha : PE X e (rd G W a)) (hb : PE X e2 (rd G W b)) (hm : behindInMarks .NotIn e2 = false := by rfl) : PE X (.Compare e [.NotIn] [e2] pos) (rd G W (eBin (fDIn 2 true) a b)) :=
  (pe_cmp (pc_notInH (hk2 X) (hash := dhash2 X.prog X.w) rfl (hu_room hr) ha hb) hm).imp fun σ H Q h => rd_dinH X (dec := holdOf) (enc := holdD) (fun _ _ => rfl) holdOf_holdD (fun r e => by rw [← hK]; exact hold_R2 r e) (dct2_ob _ _) h
end
end PD

/-! PEs: d[k] = v, list(d), while, a call of a local name. -/
namespace PD
open PySem PySem.Spec PyProof.Rows L2 SX
section
variable {X : Cx} {G : Ga} {W : WX} {e e2 e3 : Expr} {es : List Expr} {a b c : EV} {as : AV} {t : TV} {pos : Pos} {s : SVm}
theorem dset_keys {κ : Type} [DecidableEq κ] {dec : D → Option κ} {enc : κ → D} {K : PySem.W.Frag} {mg : Str → Option Value} {Z : Addr → Prop} {M : List Addr} {H : Hp} (hed : ∀ k, dec (enc k) = some k) {kvs : List (D × D)} {L : List (κ × Addr × V)} {d dv : D} {k : κ} {bb : Addr} {v : V} (de : d = enc k) (hb : Rep K mg Z M H d (.ref bb)) (hv : Rep K mg Z M H dv v)
    (g1 : kvs.map (·.1) = L.map (fun x => enc x.1)) (g3 : Reps K mg Z M H (kvs.map (·.1)) (L.map fun x => .ref x.2.1)) (g4 : Reps K mg Z M H (kvs.map (·.2)) (L.map (·.2.2))) :
    (dSet dec kvs d k dv).map (·.1) = (putL L k bb v).map (fun x => enc x.1) ∧ Reps K mg Z M H ((dSet dec kvs d k dv).map (·.1)) ((putL L k bb v).map fun x => .ref x.2.1) ∧ Reps K mg Z M H ((dSet dec kvs d k dv).map (·.2)) ((putL L k bb v).map (·.2.2)) := by
  unfold dSet putL
  rw [find_some hed k g1 g4]
  split
  · obtain ⟨i1, i2, i3, i4⟩ := set_rel hed (q := k) (b := bb) hv g1 g4
    exact ⟨i1, by rw [i2, i3]; exact g3, i4⟩
  · refine ⟨?_, ?_, ?_⟩
    · rw [List.map_append, List.map_append, g1, de]; rfl
    · rw [List.map_append, List.map_append]; exact g3.append (.one hb)
    · rw [List.map_append, List.map_append]; exact g4.append (.one hv)
theorem rd_dputH (X : Cx) {κ : Type} [DecidableEq κ] {R : Hp → κ → Addr → Prop} {hash : κ → Int} {dec : D → Option κ} {enc : κ → D} {kd : Nat}
    (hst : ∀ kvs d v, dStore kd kvs d v = (dec d).map (fun q => dSet dec kvs d q v)) (hed : ∀ k, dec (enc k) = some k) (hde : ∀ d k, dec d = some k → d = enc k) (hrep : ∀ {Z : Addr → Prop} {M : List Addr} {H : Hp} {d : D} {v : V} {k : κ}, Rep G.K G.mg Z M H d v → dec d = some k → ∃ a, v = .ref a ∧ R H k a)
    (hob : ∀ {Z : Addr → Prop} {M : List Addr} {H : Hp} {kvs : List (D × D)} {p : Addr}, ObR G.K G.mg Z M H (.dct kd kvs) p → ∃ L : List (κ × Addr × V), kvs.map (·.1) = L.map (fun x => enc x.1) ∧ H p = some (dctO hash p L) ∧ Reps G.K G.mg Z M H (kvs.map (·.1)) (L.map fun x => .ref x.2.1) ∧ Reps G.K G.mg Z M H (kvs.map (·.2)) (L.map (·.2.2)))
    (hbo : ∀ {Z : Addr → Prop} {M : List Addr} {H : Hp} {kvs : List (D × D)} {p : Addr} {L : List (κ × Addr × V)}, kvs.map (·.1) = L.map (fun x => enc x.1) → H p = some (dctO hash p L) → Reps G.K G.mg Z M H (kvs.map (·.1)) (L.map fun x => .ref x.2.1) → Reps G.K G.mg Z M H (kvs.map (·.2)) (L.map (·.2.2)) → ObR G.K G.mg Z M H (.dct kd kvs) p)
    {o : EV} {N : Ends} {σ : L2.St} {H : Hp} (h : rdS G W (sDPut kd o b c) N σ H) : rd G W c σ H fun v H1 => rd G W o σ H1 fun x H2 => rd G W b σ H2 fun y H3 => rPutH R hash x y v H3 fun H4 => N.nx σ H4 := by
  obtain ⟨Z, M, env, st, rs, p⟩ := h
  refine ⟨Z, M, env, st, rs, ?_⟩
  unfold sDPut at p
  cases ec : c env st with
  | bad => rw [ec] at p; exact p
  | exc x s => rw [ec] at p; exact fun c d H' M' Z' rs' e' => p c d σ H' M' Z' rs' (e'.s rs.mz)
  | ok r st1 =>
    rw [ec] at p
    intro v1 H1 M1 Z1 rs1 e1 w1
    cases r with
    | dat dv =>
      try dsimp only at p
      refine ⟨Z1, M1, env, st1, rs1, ?_⟩
      cases eo : o env st1 with
      | bad => rw [eo] at p; exact p
      | exc x s => rw [eo] at p; exact fun c d H' M' Z' rs' e' => p c d σ H' M' Z' rs' ((e1.trans rs.mh e').s rs.mz)
      | ok ro st2 =>
        rw [eo] at p
        try dsimp only at p
        intro v2 H2 M2 Z2 rs2 e2 w2
        refine ⟨Z2, M2, env, st2, rs2, ?_⟩
        have e12 := e1.trans rs.mh e2
        cases eb : b env st2 with
        | bad => rw [eb] at p; exact p
        | exc x s => rw [eb] at p; exact fun c d H' M' Z' rs' e' => p c d σ H' M' Z' rs' ((e12.trans rs.mh e').s rs.mz)
        | ok rk st3 =>
          rw [eb] at p
          try dsimp only at p
          intro v3 H3 M3 Z3 rs3 e3 w3
          have e123 := e12.trans rs.mh e3
          cases rk with
          | dat dk =>
            try dsimp only at p
            split at p
            · rename_i i kvs ed
              obtain ⟨rfl, ei⟩ := dctAt_is ed
              rw [hst] at p
              cases ek : dec dk with
              | none => rw [ek] at p; exact p.elim
              | some k =>
                rw [ek] at p
                have p : SPost G W Z M H N (if kvs.length < 1000000 then .nx env (st3.set i (.dct kd (dSet dec kvs dk k dv))) else .bad) := p
                split at p
                · rename_i hl
                  obtain ⟨q, hM, ob⟩ := rs3.sto.obj i _ ei
                  obtain ⟨L, g1, g2, g3, g4⟩ := hob ob
                  obtain ⟨bb, rfl, hR⟩ := hrep w3 ek
                  have hv2 : v2 = .ref q := by
                    have w23 : Rep G.K G.mg Z3 M3 H3 (.ref i) v2 := e3.rep rs2.mz w2
                    obtain ⟨a, ha, rfl⟩ := w23
                    rw [hM] at ha
                    cases ha
                    rfl
                  subst hv2
                  have wv : Rep G.K G.mg Z3 M3 H3 dv v1 := (e2.trans rs1.mh e3).rep rs1.mz w1
                  have ll : L.length = kvs.length := by
                    have := congrArg List.length g1
                    rw [List.length_map, List.length_map] at this
                    exact this.symm
                  obtain ⟨i1, i2, i3⟩ := dset_keys (bb := bb) (v := v1) hed (hde _ _ ek) w3 wv g1 g3 g4
                  obtain ⟨rs4, e4⟩ := rs3.wr (o' := .dct kd (dSet dec kvs dk k dv)) (ho := dctO hash q (putL L k bb v1)) ei hM g2 (fun z => z) fun mono => hbo i1 upd_same (mono _ _ i2) (mono _ _ i3)
                  exact ⟨q, bb, L, k, rfl, rfl, g2, hR, ref_of_rep hrep hed g1 g3, by omega, p Z3 M3 σ _ rs4 ((e123.trans rs.mh e4).s rs.mz)⟩
                · exact p.elim
            · exact p.elim
          | _ => exact p.elim
    | _ => exact p.elim
theorem row_dec : ∀ (d : D) (k : List Int), rowOf d = some k → d = rowD k
  | .tup ds, k, h => by
    have h : intsOf ds = some k := h
    have : ∀ {ds : List D} {k : List Int}, intsOf ds = some k → ds = k.map D.int := by
      intro ds
      induction ds with
      | nil => intro k h; cases h; rfl
      | cons d ds ih =>
        intro k h
        cases d with
        | int i =>
          have h : (match intsOf ds with | some ns => some (i :: ns) | none => none) = some k := h
          cases e : intsOf ds with
          | none => rw [e] at h; cases h
          | some ns => rw [e] at h; cases h; rw [ih e]; rfl
        | _ => cases h
    rw [this h]; rfl
theorem hold_dec : ∀ (d : D) (k : List (List Int)), holdOf d = some k → d = holdD k
  | .tup ds, k, h => by
    have h : PD.rowsOf ds = some k := h
    have : ∀ {ds : List D} {k : List (List Int)}, PD.rowsOf ds = some k → ds = k.map rowD := by
      intro ds
      induction ds with
      | nil => intro k h; cases h; rfl
      | cons d ds ih =>
        intro k h
        unfold PD.rowsOf at h
        split at h
        · rename_i n ns e2 e3
          cases h
          rw [ih e3, row_dec _ _ e2]; rfl
        · cases h
    rw [this h]; rfl
/-- d[k] = v, the keys tuples -/
theorem s_dput1 {o : EV} {eo ek ev : Expr} {p3 : Pos} {j : Nat} (hr : Room j X.A) (hK : G.K = X.K) (ho : PE X eo (rd G W o)) (hk : PE X ek (rd G W b)) (hv : PE X ev (rd G W c))
    (hs : swapsWithSole [.Subscript eo ek p3] ev pos.line X.env = pure false := by rfl) (hw : swappedStores [.Subscript eo ek p3] ev X.env = pure none := by rfl)
    (h1 : (assignEach [.Subscript eo ek p3] X.env).map (·.2) = [assign (.Subscript eo ek p3) X.env] := by rfl)
    (hsub : ∀ v, assign (.Subscript eo ek p3) X.env v = (do
      let ov ← holding [v] (eval eo X.env)
      let iv ← holding [v, ov] (eval ek X.env)
      standAt p3
      holding [v, ov, iv] (setItem ov iv v)
      release [v, ov, iv] []) := by intro _; rfl) : PS X (.Assign [.Subscript eo ek p3] ev pos) (rdS G W (sDPut 1 o b c)) :=
  (ps_asg hv (pg_sub ho hk (set_dH (hk1 X) (hash := dhash1 X.prog X.w) rfl (hu_room hr)) hsub) hs hw h1).imp fun N σ H h => rd_dputH X (dec := rowOf) (enc := rowD) (fun _ _ _ => rfl) rowOf_rowD row_dec (fun r e => by rw [← hK]; exact row_R1 r e) (dct1_ob _ _) (fun a b c d => ⟨_, _, _, a, b, c, d⟩) h
theorem s_dput2 {o : EV} {eo ek ev : Expr} {p3 : Pos} {j : Nat} (hr : Room j X.A) (hK : G.K = X.K) (ho : PE X eo (rd G W o)) (hk : PE X ek (rd G W b)) (hv : PE X ev (rd G W c))
    (hs : swapsWithSole [.Subscript eo ek p3] ev pos.line X.env = pure false := by rfl) (hw : swappedStores [.Subscript eo ek p3] ev X.env = pure none := by rfl)
    (h1 : (assignEach [.Subscript eo ek p3] X.env).map (·.2) = [assign (.Subscript eo ek p3) X.env] := by rfl)
    (hsub : ∀ v, assign (.Subscript eo ek p3) X.env v = (do
      let ov ← holding [v] (eval eo X.env)
      let iv ← holding [v, ov] (eval ek X.env)
      standAt p3
      holding [v, ov, iv] (setItem ov iv v)
      release [v, ov, iv] []) := by intro _; rfl) : PS X (.Assign [.Subscript eo ek p3] ev pos) (rdS G W (sDPut 2 o b c)) :=
  (ps_asg hv (pg_sub ho hk (set_dH (hk2 X) (hash := dhash2 X.prog X.w) rfl (hu_room hr)) hsub) hs hw h1).imp fun N σ H h => rd_dputH X (dec := holdOf) (enc := holdD) (fun _ _ _ => rfl) holdOf_holdD hold_dec (fun r e => by rw [← hK]; exact hold_R2 r e) (dct2_ob _ _) (fun a b c d => ⟨_, _, _, a, b, c, d⟩) h
/-- d[k] = v, the keys ints or texts -/
theorem s_dput0 {o : EV} {eo ek ev : Expr} {p3 : Pos} {j : Nat} (hr : Room j X.A) (ho : PE X eo (rd G W o)) (hk : PE X ek (rd G W b)) (hv : PE X ev (rd G W c))
    (hs : swapsWithSole [.Subscript eo ek p3] ev pos.line X.env = pure false := by rfl) (hw : swappedStores [.Subscript eo ek p3] ev X.env = pure none := by rfl)
    (h1 : (assignEach [.Subscript eo ek p3] X.env).map (·.2) = [assign (.Subscript eo ek p3) X.env] := by rfl)
    (hsub : ∀ v, assign (.Subscript eo ek p3) X.env v = (do
      let ov ← holding [v] (eval eo X.env)
      let iv ← holding [v, ov] (eval ek X.env)
      standAt p3
      holding [v, ov, iv] (setItem ov iv v)
      release [v, ov, iv] []) := by intro _; rfl) : PS X (.Assign [.Subscript eo ek p3] ev pos) (rdS G W (sDPut 0 o b c)) :=
  (ps_asg hv (pg_sub ho hk (set_d0 (hu_room hr)) hsub) hs hw h1).imp fun N σ H ⟨Z, M, env, st, rs, p⟩ => by
    refine ⟨Z, M, env, st, rs, ?_⟩
    unfold sDPut at p
    cases ec : c env st with
    | bad => rw [ec] at p; exact p
    | exc x s => rw [ec] at p; exact fun c d H' M' Z' rs' e' => p c d σ H' M' Z' rs' (e'.s rs.mz)
    | ok r st1 =>
      rw [ec] at p
      intro v1 H1 M1 Z1 rs1 e1 w1
      cases r with
      | dat dv =>
        refine ⟨Z1, M1, env, st1, rs1, ?_⟩
        try dsimp only at p
        cases eo : o env st1 with
        | bad => rw [eo] at p; exact p
        | exc x s => rw [eo] at p; exact fun c d H' M' Z' rs' e' => p c d σ H' M' Z' rs' ((e1.trans rs.mh e').s rs.mz)
        | ok ro st2 =>
          rw [eo] at p
          try dsimp only at p
          intro v2 H2 M2 Z2 rs2 e2 w2
          refine ⟨Z2, M2, env, st2, rs2, ?_⟩
          have e12 := e1.trans rs.mh e2
          cases eb : b env st2 with
          | bad => rw [eb] at p; exact p
          | exc x s => rw [eb] at p; exact fun c d H' M' Z' rs' e' => p c d σ H' M' Z' rs' ((e12.trans rs.mh e').s rs.mz)
          | ok rk st3 =>
            rw [eb] at p
            try dsimp only at p
            intro v3 H3 M3 Z3 rs3 e3 w3
            have e123 := e12.trans rs.mh e3
            cases rk with
            | dat dk =>
              try dsimp only at p
              split at p
              · rename_i i kvs ed
                obtain ⟨rfl, ei⟩ := dctAt_is ed
                unfold dStore at p
                cases ek : keyOf dk with
                | none => rw [ek] at p; exact p.elim
                | some k =>
                  rw [ek] at p
                  have p : SPost G W Z M H N (if kvs.length < 1000000 then .nx env (st3.set i (.dct 0 (dSet keyOf kvs dk k dv))) else .bad) := p
                  split at p
                  · rename_i hl
                    obtain ⟨q, hM, ks, vs, g1, g2, g3⟩ := rs3.sto.obj i _ ei
                    have hv2 : v2 = .ref q := by
                      have w23 : Rep G.K G.mg Z3 M3 H3 (.ref i) v2 := e3.rep rs2.mz w2
                      obtain ⟨a, ha, rfl⟩ := w23
                      rw [hM] at ha
                      cases ha
                      rfl
                    subst hv2
                    have wv : Rep G.K G.mg Z3 M3 H3 dv v1 := (e2.trans rs1.mh e3).rep rs1.mz w1
                    obtain ⟨ks', vs', i1, i2, i3⟩ := put0 ek wv g1 g3
                    have lz : (ks.zip vs).length < sizeLine := by
                      have := congrArg List.length g1
                      rw [List.length_map, List.length_map] at this
                      rw [List.length_zip, sizeLine_eq]; omega
                    obtain ⟨rs4, e4⟩ := rs3.wr (o' := .dct 0 (dSet keyOf kvs dk k dv)) (ho := .dK (ks'.zip vs')) ei hM g2 (fun z => z) fun mono => ⟨ks', vs', i2, upd_same, mono _ _ i3⟩
                    exact ⟨q, _, rfl, .inl ⟨_, k, g2, key_val w3 ek, lz, by rw [i1]⟩, p Z3 M3 σ _ rs4 ((e123.trans rs.mh e4).s rs.mz)⟩
                  · exact p.elim
              · exact p.elim
            | _ => exact p.elim
      | _ => exact p.elim
/-! list(d) -/
theorem o_listD1 : OpA X G W (f1 (fListD 1)) (rListH (dhash1 X.prog X.w)) := o_f1 fun B Z M env st σ H Q r v rs w p => by
  unfold fListD at p
  split at p
  · rename_i i kvs ed
    obtain ⟨rfl, ei⟩ := dctAt_is ed
    obtain ⟨q, hM, ob⟩ := rs.sto.obj i _ ei
    obtain ⟨L, g1, g2, g3, g4⟩ := dct1_ob X.prog X.w ob
    obtain ⟨a, ha, rfl⟩ := w
    rw [hM] at ha
    cases ha
    exact ⟨q, L, rfl, g2, fun l hl => ans_new rs p hl g3⟩
  · exact p.elim
theorem o_listD2 : OpA X G W (f1 (fListD 2)) (rListH (dhash2 X.prog X.w)) := o_f1 fun B Z M env st σ H Q r v rs w p => by
  unfold fListD at p
  split at p
  · rename_i i kvs ed
    obtain ⟨rfl, ei⟩ := dctAt_is ed
    obtain ⟨q, hM, ob⟩ := rs.sto.obj i _ ei
    obtain ⟨L, g1, g2, g3, g4⟩ := dct2_ob X.prog X.w ob
    obtain ⟨a, ha, rfl⟩ := w
    rw [hM] at ha
    cases ha
    exact ⟨q, L, rfl, g2, fun l hl => ans_new rs p hl g3⟩
  · exact p.elim
theorem keys_reps {K : PySem.W.Frag} {mg : Str → Option Value} {Z : Addr → Prop} {M : List Addr} {H : Hp} : ∀ {kvs : List (D × D)} {ks : List Key} {vs : List V}, kvs.map (fun x => keyOf x.1) = ks.map some → vs.length = ks.length → Reps K mg Z M H (kvs.map (·.1)) ((ks.zip vs).map fun kv => kV kv.1)
  | [], [], _, _, _ => rfl
  | [], _ :: _, _, e, _ => by cases e
  | _ :: _, [], _, e, _ => by cases e
  | x :: kvs, k :: ks, [], _, h => by cases h
  | x :: kvs, k :: ks, v :: vs, h, hl => by
    rw [List.map_cons, List.map_cons] at h
    obtain ⟨a1, a2⟩ := List.cons.inj h
    refine ⟨kV k, _, rfl, ?_, keys_reps a2 (by simpa using hl)⟩
    show Rep K mg Z M H x.1 (kV k)
    cases hx : x.1 with
    | int n => rw [hx] at a1; cases a1; exact rfl
    | str n => rw [hx] at a1; cases a1; exact rfl
    | _ => rw [hx] at a1; cases a1
theorem o_listD0 : OpA X G W (f1 (fListD 0)) rListD := o_f1 fun B Z M env st σ H Q r v rs w p => by
  unfold fListD at p
  split at p
  · rename_i i kvs ed
    obtain ⟨rfl, ei⟩ := dctAt_is ed
    obtain ⟨q, hM, ks, vs, g1, g2, g3⟩ := rs.sto.obj i _ ei
    obtain ⟨a, ha, rfl⟩ := w
    rw [hM] at ha
    cases ha
    have l1 := congrArg List.length g1
    rw [List.length_map, List.length_map] at l1
    have l2 := g3.length
    rw [List.length_map] at l2
    exact ⟨q, _, rfl, g2, fun l hl => ans_new rs p hl (keys_reps g1 (by omega))⟩
  · exact p.elim
/-! while -/
theorem s_while {xs : List Stmt} (hp : PassesOwn (model X.prog X.w) X.A X.env X.xe) (ht : PT X e (rdT G W t)) (hb : PSs X xs (rdS G W s)) : PS X (.While e xs [] pos) (rdS G W (sWhile t s)) := (ps_while hp ht hb).imp fun N σ H ⟨Z, M, env, st, rs, p⟩ => by
  refine ⟨fun m σ H => ∃ Z M env st, RS G Z M env st σ H ∧ SPost G W Z M H N (wGo t s m env st), ⟨100000, Z, M, env, st, rs, p⟩, ?_⟩
  rintro m σ1 H1 ⟨Z1, M1, env1, st1, rs1, p1⟩
  refine ⟨Z1, M1, env1, st1, rs1, ?_⟩
  cases m with
  | zero => exact p1.elim
  | succ m =>
    unfold wGo at p1
    cases et : t env1 st1 with
    | bad => rw [et] at p1; exact p1.elim
    | exc x s => rw [et] at p1; exact fun c d H' M' Z' rs' e' => p1 c d _ H' M' Z' rs' (e'.s rs1.mz)
    | ok k st2 =>
      rw [et] at p1
      intro H2 M2 Z2 rs2 e2
      cases k with
      | false => rw [if_neg Bool.false_ne_true]; exact p1 Z2 M2 _ H2 rs2 (e2.s rs1.mz)
      | true =>
        rw [if_pos rfl]
        try dsimp only at p1
        refine ⟨fun σ' H' => ∃ Z M env st, RS G Z M env st σ' H' ∧ SPost G W Z M H' N (wGo t s m env st), fun σ' H' h => ⟨m, Nat.lt_succ_self _, h⟩, Z2, M2, env1, st2, rs2, ?_⟩
        cases eb : s env1 st2 with
        | nx e3 s3 => rw [eb] at p1; exact fun Z' M' σ' H' rs' x => ⟨Z', M', e3, s3, rs', SPost.mono ((e2.s rs1.mz).trans x) p1⟩
        | cont e3 s3 => rw [eb] at p1; exact fun Z' M' σ' H' rs' x => ⟨Z', M', e3, s3, rs', SPost.mono ((e2.s rs1.mz).trans x) p1⟩
        | brk e3 s3 => rw [eb] at p1; exact fun Z' M' σ' H' rs' x => p1 Z' M' σ' H' rs' ((e2.s rs1.mz).trans x)
        | ret r s3 => rw [eb] at p1; exact p1
        | exc y e3 s3 => rw [eb] at p1; exact fun c d σ' H' M' Z' rs' x => p1 c d σ' H' M' Z' rs' ((e2.s rs1.mz).trans x)
        | bad => rw [eb] at p1; exact p1
end
end PD

/-! PEt: instances of own classes; a display of three texts; texts split; int of a text; a tuple of the module. -/
namespace PD
open PySem PySem.Spec PyProof.Rows L2 SX
/-! ### instances -/
def insAt (cn : Str) (st : Stor) (r : R) : Option (Nat × List (Str × D)) := match r with
  | .dat (.ref i) => (match st[i]? with
    | some (.ins c fs) => if c = cn then some (i, fs) else none
    | _ => none)
  | _ => none
theorem insAt_is {cn : Str} {st : Stor} {r : R} {i : Nat} {fs : List (Str × D)} (h : insAt cn st r = some (i, fs)) : r = .dat (.ref i) ∧ st[i]? = some (.ins cn fs) := by
  unfold insAt at h
  split at h
  · split at h
    · split at h
      · rename_i j c fs' e q
        subst q
        cases h
        exact ⟨rfl, e⟩
      · cases h
    · cases h
  · cases h
def putG {α : Type} (f : Str) (v : α) : List (Str × α) → List (Str × α)
  | [] => [(f, v)]
  | (g, w) :: r => if g = f then (g, v) :: r else (g, w) :: putG f v r
theorem putG_putF (f : Str) (v : V) : ∀ l : List (Str × V), L2.putF f v l = putG f v l
  | [] => rfl
  | (g, w) :: r => by
    show (if g = f then (g, v) :: r else (g, w) :: L2.putF f v r) = _
    rw [putG_putF f v r]; rfl
theorem putG_zip {K : PySem.W.Frag} {mg : Str → Option Value} {Z : Addr → Prop} {M : List Addr} {H : Hp} {f : Str} {d : D} {v : V} (hd : Rep K mg Z M H d v) : ∀ {fs : List (Str × D)} {vs : List V}, Reps K mg Z M H (fs.map (·.2)) vs → ∃ vs', putG f v ((fs.map (·.1)).zip vs) = ((putG f d fs).map (·.1)).zip vs' ∧ Reps K mg Z M H ((putG f d fs).map (·.2)) vs'
  | [], vs, h => by
    have h : vs = [] := h
    subst h
    exact ⟨[v], rfl, _, _, rfl, hd, rfl⟩
  | (g, w) :: r, vs, ⟨x, vr, e, h1, h2⟩ => by
    subst e
    obtain ⟨vs', i1, i2⟩ := putG_zip (f := f) hd h2
    by_cases q : g = f
    · refine ⟨v :: vr, ?_, ?_⟩
      · show (if g = f then (g, v) :: (r.map (·.1)).zip vr else (g, x) :: putG f v ((r.map (·.1)).zip vr)) = ((if g = f then (g, d) :: r else (g, w) :: putG f d r).map (·.1)).zip (v :: vr)
        rw [if_pos q, if_pos q]; rfl
      · show Reps K mg Z M H ((if g = f then (g, d) :: r else (g, w) :: putG f d r).map (·.2)) (v :: vr)
        rw [if_pos q]
        exact ⟨_, _, rfl, hd, h2⟩
    · refine ⟨x :: vs', ?_, ?_⟩
      · show (if g = f then (g, v) :: (r.map (·.1)).zip vr else (g, x) :: putG f v ((r.map (·.1)).zip vr)) = ((if g = f then (g, d) :: r else (g, w) :: putG f d r).map (·.1)).zip (x :: vs')
        rw [if_neg q, if_neg q, i1]; rfl
      · show Reps K mg Z M H ((if g = f then (g, d) :: r else (g, w) :: putG f d r).map (·.2)) (x :: vs')
        rw [if_neg q]
        exact ⟨_, _, rfl, h1, i2⟩
def fFldI (cn f : Str) (r : R) (st : Stor) : Out R := match insAt cn st r with
  | some (_, fs) => (match fs.lookup f with
    | some d => .ok (.dat d) st
    | none => .bad)
  | none => .bad
def sFldI (cn f : Str) (o v : EV) : SVm := fun env st => match v env st with
  | .ok r st1 => (match putR r st1 with
    | some (d, st2) => (match o env st2 with
      | .ok ro st3 => (match insAt cn st3 ro with
        | some (i, fs) => if fs.length < 1000 then .nx env (st3.set i (.ins cn (putG f d fs))) else .bad
        | none => .bad)
      | .exc x s => .exc x env s
      | .bad => .bad)
    | none => .bad)
  | .exc x s => .exc x env s
  | .bad => .bad
def eMeth (cn m : Str) (f : Sem) (o : EV) (as : AV) : EV := fun env st => match o env st with
  | .ok ro st1 => (match insAt cn st1 ro with
    | some (i, fs) => (match fs.lookup m with
      | none => (match as env st1 with
        | .ok rs st2 => f (.dat (.ref i) :: rs.map R.arg) st2
        | .exc x s => .exc x s
        | .bad => .bad)
      | some _ => .bad)
    | none => .bad)
  | .exc x s => .exc x s
  | .bad => .bad
def eMake (cn : Str) (f : Sem) (as : AV) : EV := fun env st => match as env st with
  | .ok rs st1 => (match f (.dat (.ref st1.length) :: rs.map R.arg) (st1 ++ [.ins cn []]) with
    | .ok (.dat .non) st2 => .ok (.dat (.ref st1.length)) st2
    | _ => .bad)
  | .exc x s => .exc x s
  | .bad => .bad
section
variable {X : Cx} {G : Ga} {W : WX} {e e2 e3 : Expr} {es : List Expr} {a b c : EV} {as : AV} {t : TV} {pos : Pos} {s : SVm}
theorem ins_ob {Z : Addr → Prop} {M : List Addr} {env : Env} {st : Stor} {σ : L2.St} {H : Hp} {i : Nat} {cn : Str} {fs : List (Str × D)} {C : Addr} {v : V} (rs : RS G Z M env st σ H) (ei : st[i]? = some (.ins cn fs)) (hm : G.mg cn = some (.ref C)) (w : Rep G.K G.mg Z M H (.ref i) v) :
    ∃ q dx vs, v = .ref q ∧ M[i]? = some q ∧ H q = some (.ins C dx ((fs.map (·.1)).zip vs)) ∧ Reps G.K G.mg Z M H (fs.map (·.2)) vs := by
  obtain ⟨q, hM, C', dx, vs, g0, g1, g2⟩ := rs.sto.obj i _ ei
  obtain ⟨a, ha, rfl⟩ := w
  rw [hM] at ha
  cases ha
  rw [hm] at g0
  cases g0
  exact ⟨q, dx, vs, rfl, hM, g1, g2⟩
/-- o.f -/
theorem i_fldI {cn f : Str} {C : Addr} (hM : G.mg = X.mg) (hm : X.mg cn = some (.ref C)) (hc : Cls X.K C) (hn : NoAttr X.K C f) (ha : PE X e (rd G W a)) (hb : attributeBase e f X.env (eval e X.env) = eval e X.env := by rfl) : PE X (.Attribute e f pos) (rd G W (eUn (fFldI cn f) a)) :=
  (pe_fld ha hb).imp fun σ H Q h => rd_un (X := X) (r := fun x H1 Q => ∃ a C dx fs v, x = .ref a ∧ H1 a = some (.ins C dx fs) ∧ Cls X.K C ∧ NoAttr X.K C f ∧ fs.lookup f = some v ∧ Q v H1) (fun B Z M env st σ H Q r v rs w p => by
    unfold fFldI at p
    split at p
    · rename_i i fs ei
      obtain ⟨rfl, ej⟩ := insAt_is ei
      split at p
      · rename_i d el
        obtain ⟨q, dx, vs, rfl, _, g1, g2⟩ := ins_ob rs ej (by rw [hM]; exact hm) w
        obtain ⟨u, z1, z2⟩ := zip_lookup g2 el
        exact ⟨q, C, dx, _, u, rfl, g1, hc, hn, z1, ans_dat rs p z2⟩
      · exact p.elim
    · exact p.elim) h
/-- o.f = e -/
theorem s_fldI {cn f : Str} {C : Addr} {p2 : Pos} (hM : G.mg = X.mg) (hm : X.mg cn = some (.ref C)) (hc : Cls X.K C) (hn : NoAttr X.K C f) (ho : PE X e (rd G W a)) (hv : PE X e2 (rd G W b)) (hs : swapsWith e2 (some (.Attribute e f p2)) pos.line X.env = pure false := by rfl) : PS X (.Assign [.Attribute e f p2] e2 pos) (rdS G W (sFldI cn f a b)) :=
  (ps_fld ho hv hs).imp fun N σ H ⟨Z, M, env, st, rs, p⟩ => by
    refine ⟨Z, M, env, st, rs, ?_⟩
    unfold sFldI at p
    cases eb : b env st with
    | bad => rw [eb] at p; exact p
    | exc x s => rw [eb] at p; exact fun c d H' M' Z' rs' e' => p c d σ H' M' Z' rs' (e'.s rs.mz)
    | ok r st1 =>
      rw [eb] at p
      intro v1 H1 M1 Z1 rs1 e1 w1
      dsimp only at p
      cases ep : putR r st1 with
      | none => rw [ep] at p; exact p.elim
      | some ds =>
        obtain ⟨d, st2⟩ := ds
        rw [ep] at p
        dsimp only at p
        obtain ⟨Z2, M2, rs2, e2, w2⟩ := putR_ok G Z M env st σ H Z1 M1 st1 H1 r v1 d st2 rs rs1 e1 w1 ep
        refine ⟨Z2, M2, env, st2, rs2, ?_⟩
        cases ea : a env st2 with
        | bad => rw [ea] at p; exact p
        | exc x s => rw [ea] at p; exact fun c d H' M' Z' rs' e' => p c d σ H' M' Z' rs' ((e2.trans rs.mh e').s rs.mz)
        | ok ro st3 =>
          rw [ea] at p
          dsimp only at p
          intro v3 H3 M3 Z3 rs3 e3 w3
          have e23 := e2.trans rs.mh e3
          split at p
          · rename_i i fs ei
            obtain ⟨rfl, ej⟩ := insAt_is ei
            split at p
            · rename_i hl
              obtain ⟨q, dx, vs, rfl, hM3, g1, g2⟩ := ins_ob rs3 ej (by rw [hM]; exact hm) w3
              have wv : Rep G.K G.mg Z3 M3 H3 d v1 := e3.rep rs2.mz w2
              obtain ⟨vs', i1, i2⟩ := putG_zip (f := f) wv g2
              have lz : ((fs.map (·.1)).zip vs).length < 1000 := by rw [List.length_zip, List.length_map]; omega
              obtain ⟨rs4, e4⟩ := rs3.wr (o' := .ins cn (putG f d fs)) (ho := .ins C dx (L2.putF f v1 ((fs.map (·.1)).zip vs))) ej hM3 g1 (fun z => z) fun mono => ⟨C, dx, vs', by rw [hM]; exact hm, by rw [putG_putF, i1]; exact upd_same, mono _ _ i2⟩
              exact ⟨q, C, dx, _, rfl, g1, hc, hn, lz, p Z3 M3 σ _ rs4 ((e23.trans rs.mh e4).s rs.mz)⟩
            · exact p.elim
          · exact p.elim
theorem lookup_zip_none {f : Str} {fs : List (Str × D)} : ∀ {vs : List V}, vs.length = fs.length → fs.lookup f = none → ((fs.map (·.1)).zip vs).lookup f = none := by
  induction fs with
  | nil => intro vs _ _; rfl
  | cons x r ih =>
    intro vs hl h
    cases vs with
    | nil => rfl
    | cons v vs =>
      obtain ⟨g, w⟩ := x
      rw [List.map_cons, List.zip_cons_cons]
      unfold List.lookup at h ⊢
      split at h
      · cases h
      · rename_i q
        dsimp only
        rw [q]
        exact ih (by simpa using hl) h
/-- a method of an own class -/
def GoodM (P : Program) (w : World) (K : PySem.W.Frag) (mg : Str → Option Value) (base : Heap) (cls : Str → Option Addr) (k : Nat) (C : Addr) (m : Str) (ps : List Str) (f : Sem) : Prop :=
  Cls K C ∧ ∃ fa : Addr, Meth K C m fa ∧ ∃ fd : FuncData, FnOk P w K mg base (L2.CX P w) k fa fd ps (spOf K mg cls f) ∧ Binds K fd ps []
/-- what a call of a def asks, from what is computed -/
theorem rd_callX {cls : Str → Option Addr} {f : Sem} {Z : Addr → Prop} {M : List Addr} {env : Env} {st : Stor} {σ : L2.St} {H : Hp} {Q : VK} {rr : List R} {vs : List V} (hK : G.K = X.K) (hM : G.mg = X.mg) (hC : G.cls = cls) (rs1 : RS G Z M env st σ H) (w1 : Paired (AR G.K G.mg Z M H) rr vs) (p1 : EPost G W Z M env σ H Q (f rr st)) : spOf X.K X.mg cls f vs H Q (WE W σ) := by
  have st1' := rs1.sto
  rw [hK, hM] at w1 st1'
  refine ⟨Z, M, st, rr, st1', w1, ?_⟩
  cases ef : f rr st with
  | bad => rw [ef] at p1; exact p1
  | exc y s =>
    rw [ef] at p1
    intro c d H' M' Z' sto x xr
    refine p1 c d H' M' Z' (rs1.step x (by rw [hK, hM]; exact sto)) x ?_
    obtain ⟨C, h1, h2, h3⟩ := xr
    refine ⟨C, by rw [hC]; exact h1, h2, ?_⟩
    rw [hK, hM]
    exact h3
  | ok r s =>
    rw [ef] at p1
    intro v H' M' Z' sto x vr
    refine p1 v H' M' Z' (rs1.step x (by rw [hK, hM]; exact sto)) x ?_
    cases r with
    | dat d => show Rep G.K G.mg _ _ _ _ _; rw [hK, hM]; exact vr
    | new ds =>
      obtain ⟨q, us, h1, h2, h3, h4, h5, h6⟩ := vr
      exact ⟨q, us, h1, h2, h3, h4, h5, by rw [hK, hM]; exact h6⟩
    | view ds =>
      obtain ⟨q, us, h1, h2, h3, h6⟩ := vr
      exact ⟨q, us, h1, h2, h3, by rw [hK, hM]; exact h6⟩
    | scr ds =>
      obtain ⟨q, us, h1, h2, h6⟩ := vr
      exact ⟨q, us, h1, by rw [hK]; exact h2, by rw [hK, hM]; exact h6⟩
theorem rd_meth {cls : Str → Option Addr} {cn m : Str} {C : Addr} {f : Sem} {σ : L2.St} {H : Hp} {Q : VK} (hK : G.K = X.K) (hM : G.mg = X.mg) (hC : G.cls = cls) (hm : X.mg cn = some (.ref C)) (h : rd G W (eMeth cn m f a as) σ H Q) :
    rd G W a σ H fun x H1 => ∃ q dx fs, x = .ref q ∧ H1 q = some (.ins C dx fs) ∧ fs.lookup m = none ∧ rdA G W as σ H1 fun vs H2 => spOf X.K X.mg cls f (x :: vs) H2 Q (WE W σ) := by
  obtain ⟨Z, M, env, st, rs, p⟩ := h
  refine ⟨Z, M, env, st, rs, ?_⟩
  unfold eMeth at p
  cases ea : a env st with
  | bad => rw [ea] at p; exact p
  | exc x s => rw [ea] at p; exact p
  | ok r st1 =>
    rw [ea] at p
    dsimp only at p
    intro v1 H1 M1 Z1 rs1 e1 w1
    split at p
    · rename_i i fs ei
      obtain ⟨rfl, ej⟩ := insAt_is ei
      split at p
      · rename_i el
        obtain ⟨q, dx, vs, rfl, hM1, g1, g2⟩ := ins_ob rs1 ej (by rw [hM]; exact hm) w1
        refine ⟨q, dx, _, rfl, g1, lookup_zip_none (by rw [g2.length, List.length_map]) el, Z1, M1, env, st1, rs1, ?_⟩
        cases eb : as env st1 with
        | bad => rw [eb] at p; exact p
        | exc x s => rw [eb] at p; exact fun c d H' M' Z' rs' e' => p c d H' M' Z' rs' (e1.trans rs.mh e')
        | ok rr st2 =>
          rw [eb] at p
          intro us H2 M2 Z2 rs2 e2 w2
          have wa := arg_rel w2
          have wq : AR G.K G.mg Z2 M2 H2 (.dat (.ref i)) (.ref q) := e2.rep rs1.mz w1
          exact rd_callX hK hM hC rs2 (.cons wq wa) (EPost.mono rs.mh (e1.trans rs.mh e2) p)
      · exact p.elim
    · exact p.elim
/-- o.m(e, ..) -/
theorem i_meth {cls : Str → Option Addr} {cn m : Str} {C : Addr} {f : Sem} {k j : Nat} {ps : List Str} {apos : Pos} {pl : PySem.Sem Bool} (F : GoodM X.prog X.w X.K X.mg X.base cls k C m ps f) (hm : X.mg cn = some (.ref C)) (hr : Room j X.A) (hkj : k ≤ j) (tk : Takes X W) (hK : G.K = X.K) (hM : G.mg = X.mg) (hC : G.cls = cls) (ho : PE X e (rd G W a)) (ha : PA X (e2 :: es) (rdA G W as))
    (hst : starEach (e2 :: es) X.env = (false, eval e2 X.env) :: starEach es X.env := by rfl) (hpl : (backTo pos (starEach es X.env)).any (·.1) = false := by rfl)
    (ht : eval (.Call (.Attribute e m apos) (e2 :: es) [] pos) X.env = (do
      let ov ← eval e X.env
      standAt apos.atName
      let (f, first) ← holding [ov] (getMethod ov m pl)
      callWith pos f first (backTo pos (starEach (e2 :: es) X.env)) (backToKw pos (keywordEach [] X.env))) := by rfl) : PE X (.Call (.Attribute e m apos) (e2 :: es) [] pos) (rd G W (eMeth cn m f a as)) := by
  obtain ⟨c, fa, hme, fd, F, hb⟩ := F
  refine ⟨fun pins s σ H Q I h => PySem.W.methodCall_KW (thn (ho.run pins s σ H _ I (rd_meth hK hM hC hm h)) fun u s1 ⟨x, H1, I1, rx, q, dx, fs, ex, ea, l, q2⟩ => ?_) ht⟩
  subst ex
  have e1 : u = .ref q := rx
  subst e1
  have rq : RelV (V.ref q) (.ref q) := rfl
  refine getmeth_ok I1 ea c hme l (PySem.W.callWith_K I1.ok.mod.kin hme.kp (thn (ha.run pos pins s1 σ H1 _ I1 q2) fun us s2 ⟨vs, H2, I2, r, q3⟩ => ⟨Inv.kIn I2, run_fnS F (hr.mono hkj) hb (passAt tk σ) I2 (.cons rq r) q3⟩) hst hpl)
/-- o.m() -/
theorem i_meth0 {cls : Str → Option Addr} {cn m : Str} {C : Addr} {f : Sem} {k j : Nat} {ps : List Str} {apos : Pos} {pl : PySem.Sem Bool} (F : GoodM X.prog X.w X.K X.mg X.base cls k C m ps f) (hm : X.mg cn = some (.ref C)) (hr : Room j X.A) (hkj : k ≤ j) (tk : Takes X W) (hK : G.K = X.K) (hM : G.mg = X.mg) (hC : G.cls = cls) (ho : PE X e (rd G W a))
    (ht : eval (.Call (.Attribute e m apos) [] [] pos) X.env = (do
      let ov ← eval e X.env
      standAt apos.atName
      let (f, first) ← holding [ov] (getMethod ov m pl)
      callWith pos f first (backTo pos (starEach [] X.env)) (backToKw pos (keywordEach [] X.env))) := by rfl) : PE X (.Call (.Attribute e m apos) [] [] pos) (rd G W (eMeth cn m f a aNil)) := by
  obtain ⟨c, fa, hme, fd, F, hb⟩ := F
  refine ⟨fun pins s σ H Q I h => PySem.W.methodCall_KW (thn (ho.run pins s σ H _ I (rd_meth hK hM hC hm h)) fun u s1 ⟨x, H1, I1, rx, q, dx, fs, ex, ea, l, q2⟩ => ?_) ht⟩
  subst ex
  have e1 : u = .ref q := rx
  subst e1
  obtain ⟨Z, M, env, st, rs, p⟩ := q2
  have q3 := p [] H1 M Z rs (Ext.refl Z M H1) .nil
  have rq : RelV (V.ref q) (.ref q) := rfl
  exact getmeth_ok I1 ea c hme l (PySem.W.callWith_K0 (Inv.kIn I1) hme.kp (run_fnS F (hr.mono hkj) hb (passAt tk σ) I1 (.cons rq .nil) q3))
end
end PD

/-! PEu: an instance made; {k: [], ..}; texts split; int of a text; a tuple of the module, its index. -/
namespace PD
open PySem PySem.Spec PyProof.Rows L2 SX
section
variable {X : Cx} {G : Ga} {W : WX} {e e2 e3 : Expr} {es : List Expr} {a b c : EV} {as : AV} {t : TV} {pos : Pos} {s : SVm}
/-- a class whose instances are made by an own __init__ that raises nothing -/
def GoodK (P : Program) (w : World) (K : PySem.W.Frag) (mg : Str → Option Value) (base : Heap) (cls : Str → Option Addr) (k : Nat) (C : Addr) (ps : List Str) (f : Sem) : Prop :=
  ∃ fa : Addr, Mk K C fa ∧ ∃ fd : FuncData, FnOk P w K mg base (L2.CX P w) k fa fd ps (spOf K mg cls f) ∧ Binds K fd ps []
theorem rd_make {cls : Str → Option Addr} {cn : Str} {C : Addr} {f : Sem} {σ : L2.St} {H : Hp} {Q : VK} (hK : G.K = X.K) (hM : G.mg = X.mg) (hC : G.cls = cls) (hm : X.mg cn = some (.ref C)) (h : rd G W (eMake cn f as) σ H Q) :
    rdA G W as σ H fun vs H1 => ∀ x dx, H1 x = none → H1 dx = none → dx ≠ x → spOf X.K X.mg cls f (.ref x :: vs) (upd (upd H1 dx (.own x)) x (.ins C dx [])) (fun v H2 => v = .non ∧ Q (.ref x) H2) (fun _ _ _ => False) := by
  obtain ⟨Z, M, env, st, rs, p⟩ := h
  refine ⟨Z, M, env, st, rs, ?_⟩
  unfold eMake at p
  cases eb : as env st with
  | bad => rw [eb] at p; exact p
  | exc x s => rw [eb] at p; exact p
  | ok rr st1 =>
    rw [eb] at p
    dsimp only at p
    intro us H1 M1 Z1 rs1 e1 w1 x dx hx hdx hne
    have wa := arg_rel w1
    have r1 := rs1.alloc0 (o := .own x) hdx
    have x1 : Ext Z1 M1 H1 Z1 M1 (upd H1 dx (.own x)) := Ext.alloc0 rs1.mh hdx
    have hx2 : upd H1 dx (.own x) x = none := by rw [upd_ne hne.symm]; exact hx
    obtain ⟨r2, x2⟩ := r1.push (o := .ins cn []) (ho := .ins C dx []) hx2 ⟨C, dx, [], by rw [hM]; exact hm, upd_same, rfl⟩
    have x12 := x1.trans rs1.mh x2
    have wx : AR G.K G.mg (fun a => Z1 a ∨ a = x) (M1 ++ [x]) (upd (upd H1 dx (.own x)) x (.ins C dx [])) (.dat (.ref st1.length)) (.ref x) := ⟨x, by rw [← rs1.sto.len]; simp, rfl⟩
    have wa2 : Paired (AR G.K G.mg (fun a => Z1 a ∨ a = x) (M1 ++ [x]) (upd (upd H1 dx (.own x)) x (.ins C dx []))) (rr.map R.arg) us := L2.Paired.mapP wa fun r v z => by
      cases r with
      | dat d => exact x12.rep rs1.mz z
      | new ds => exact z
      | view ds =>
        obtain ⟨q, vs, e, h1, h2, h3⟩ := z
        refine ⟨q, vs, e, x12.fr q _ h1 (.inl h2), fun hq => ?_, x12.reps rs1.mz h3⟩
        rcases x12.mn q hq with y | y
        · exact h2 y
        · rw [h1] at y
          cases y
      | scr ds =>
        obtain ⟨q, vs, e, h1, h3⟩ := z
        exact ⟨q, vs, e, h1.fr x12.fr x12.mn, x12.reps rs1.mz h3⟩
    have wl : Paired (AR G.K G.mg (fun a => Z1 a ∨ a = x) (M1 ++ [x]) (upd (upd H1 dx (.own x)) x (.ins C dx []))) (.dat (.ref st1.length) :: rr.map R.arg) (.ref x :: us) := .cons wx wa2
    have sto2 := r2.sto
    rw [hK, hM] at wl sto2
    refine ⟨_, _, _, _, sto2, wl, ?_⟩
    cases ef : f (.dat (.ref st1.length) :: rr.map R.arg) (st1 ++ [.ins cn []]) with
    | bad => rw [ef] at p; exact p.elim
    | exc y s => rw [ef] at p; exact p.elim
    | ok r st2 =>
      rw [ef] at p
      intro v H' M' Z' sto x3 vr
      cases r with
      | dat d =>
        cases d with
        | non =>
          have vr : v = .non := vr
          have rs3 := r2.step x3 (by rw [hK, hM]; exact sto)
          have x123 := x12.trans rs1.mh x3
          exact ⟨vr, p _ H' M' Z' rs3 (e1.trans rs.mh x123) (x3.rep r2.mz wx)⟩
        | _ => exact p.elim
      | _ => exact p.elim
theorem rdA_mono {σ : L2.St} {H : Hp} {Q Q' : List V → Hp → Prop} (h : rdA G W as σ H Q) (i : ∀ vs H1, Q vs H1 → Q' vs H1) : rdA G W as σ H Q' := by
  obtain ⟨Z, M, env, st, rs, p⟩ := h
  refine ⟨Z, M, env, st, rs, ?_⟩
  cases ea : as env st with
  | bad => rw [ea] at p; exact p
  | exc x s => rw [ea] at p; exact p
  | ok r s => rw [ea] at p; exact fun vs H' M' Z' rs' e' w' => i _ _ (p vs H' M' Z' rs' e' w')
theorem i_make {cls : Str → Option Addr} {cn : Str} {C : Addr} {f : Sem} {k j : Nat} {ps : List Str} {p : Pos} (F : GoodK X.prog X.w X.K X.mg X.base cls k C ps f) (hm : X.mg cn = some (.ref C)) (hr : Room j X.A) (hkj : k + 1 ≤ j) (hK : G.K = X.K) (hM : G.mg = X.mg) (hC : G.cls = cls) (ha : PA X (e :: es) (rdA G W as)) (hg : Gl X cn := by rfl) (hdb : (cn == ("__debug__" : Str)) = false := by decide)
    (he : starEach (e :: es) X.env = (false, eval e X.env) :: starEach es X.env := by rfl) (hpl : (backTo pos (starEach es X.env)).any (·.1) = false := by rfl) : PE X (.Call (.Name cn p) (e :: es) [] pos) (rd G W (eMake cn f as)) := by
  obtain ⟨fa, M, fd, F, hb⟩ := F
  exact (pe_make M F (hr.mono hkj) hg hm hb .nil (fun pins σ H s e s' I c => fin_passes (σ := σ) pins H s e s' I c) ha hdb he hpl).imp fun σ H Q h => by
    have := rd_make hK hM hC hm h
    refine (rdA_mono this ?_)
    intro vs H1 q x dx h1 h2 h3
    rw [List.append_nil]
    exact q x dx h1 h2 h3
theorem i_make0 {cls : Str → Option Addr} {cn : Str} {C : Addr} {f : Sem} {k j : Nat} {ps : List Str} {p : Pos} (F : GoodK X.prog X.w X.K X.mg X.base cls k C ps f) (hm : X.mg cn = some (.ref C)) (hr : Room j X.A) (hkj : k + 1 ≤ j) (hK : G.K = X.K) (hM : G.mg = X.mg) (hC : G.cls = cls) (hg : Gl X cn := by rfl) (hdb : (cn == ("__debug__" : Str)) = false := by decide) : PE X (.Call (.Name cn p) [] [] pos) (rd G W (eMake cn f aNil)) := by
  obtain ⟨fa, M, fd, F, hb⟩ := F
  exact (pe_make0 M F (hr.mono hkj) hg hm hb .nil (fun pins σ H s e s' I c => fin_passes (σ := σ) pins H s e s' I c) hdb).imp fun σ H Q h => by
    obtain ⟨Z, M, env, st, rs, p⟩ := rd_make hK hM hC hm h
    have q := p [] H M Z rs (Ext.refl Z M H) .nil
    intro x dx h1 h2 h3
    exact q x dx h1 h2 h3
/-! ### {k1: [], k2: [], k3: []} -/
def eDisp3 (k1 k2 k3 : Str) : EV := fun _ st => .ok (.dat (.ref st.length)) (st ++ [.dct 0 [(.str k1, .ref (st.length + 1)), (.str k2, .ref (st.length + 2)), (.str k3, .ref (st.length + 3))], .lst [], .lst [], .lst []])
theorem i_disp3 {k1 k2 k3 : Str} {j1 j2 j3 : _} {q1 q2 q3 p1 p2 p3 : Pos} (n12 : k1 ≠ k2) (n13 : k1 ≠ k3) (n23 : k2 ≠ k3) : PE X (.Dict [some (.Constant (.str k1) j1 q1), some (.Constant (.str k2) j2 q2), some (.Constant (.str k3) j3 q3)] [.List [] p1, .List [] p2, .List [] p3] pos) (rd G W (eDisp3 k1 k2 k3)) :=
  (pe_disp (pps_cons pe_str (pe_lst pa_nil) (pps_cons pe_str (pe_lst pa_nil) (pps_cons pe_str (pe_lst pa_nil) pps_nil))) (by rfl) (by rfl) (fun z => by cases z) (by show 3 ≤ 15; decide)).imp fun σ H Q ⟨Z, M, env, st, rs, p⟩ => by
    intro a ha
    obtain ⟨r1, x1⟩ := rs.push (o := .dct 0 []) (ho := .dK []) ha ⟨[], [], rfl, upd_same, rfl⟩
    refine ⟨by decide, fun b1 hb1 => ?_⟩
    obtain ⟨r2, x2⟩ := r1.push (o := .lst []) (ho := .lst []) hb1 ⟨[], upd_same, rfl⟩
    refine ⟨by decide, fun b2 hb2 => ?_⟩
    obtain ⟨r3, x3⟩ := r2.push (o := .lst []) (ho := .lst []) hb2 ⟨[], upd_same, rfl⟩
    refine ⟨by decide, fun b3 hb3 => ?_⟩
    obtain ⟨r4, x4⟩ := r3.push (o := .lst []) (ho := .lst []) hb3 ⟨[], upd_same, rfl⟩
    have hl := rs.sto.len
    have n1 : b1 ≠ a := fun e => by subst e; rw [upd_same] at hb1; cases hb1
    have n2 : b2 ≠ a := fun e => by subst e; rw [upd_ne n1.symm, upd_same] at hb2; cases hb2
    have n3 : b3 ≠ a := fun e => by subst e; rw [upd_ne n2.symm, upd_ne n1.symm, upd_same] at hb3; cases hb3
    have hat : upd (upd (upd (upd H a (.dK [])) b1 (.lst [])) b2 (.lst [])) b3 (.lst []) a = some (.dK []) := by rw [upd_ne n3.symm, upd_ne n2.symm, upd_ne n1.symm, upd_same]
    have m0 : (M ++ [a] ++ [b1] ++ [b2] ++ [b3])[st.length]? = some a := by rw [← hl]; simp
    have m1 : (M ++ [a] ++ [b1] ++ [b2] ++ [b3])[st.length + 1]? = some b1 := by rw [← hl]; simp
    have m2 : (M ++ [a] ++ [b1] ++ [b2] ++ [b3])[st.length + 2]? = some b2 := by rw [← hl]; simp
    have m3 : (M ++ [a] ++ [b1] ++ [b2] ++ [b3])[st.length + 3]? = some b3 := by rw [← hl]; simp
    have s0 : (st ++ [.dct 0 []] ++ [.lst []] ++ [.lst []] ++ [.lst []] : Stor)[st.length]? = some (.dct 0 []) := by simp
    obtain ⟨r5, x5⟩ := r4.wr (o' := .dct 0 [(.str k1, .ref (st.length + 1)), (.str k2, .ref (st.length + 2)), (.str k3, .ref (st.length + 3))]) (ho := .dK [(.inr k1, .ref b1), (.inr k2, .ref b2), (.inr k3, .ref b3)]) s0 m0 hat (fun z => z) fun mono =>
      ⟨[.inr k1, .inr k2, .inr k3], [.ref b1, .ref b2, .ref b3], rfl, upd_same, mono _ _ ⟨_, _, rfl, ⟨b1, m1, rfl⟩, _, _, rfl, ⟨b2, m2, rfl⟩, _, _, rfl, ⟨b3, m3, rfl⟩, rfl⟩⟩
    have es : (st ++ [.dct 0 []] ++ [.lst []] ++ [.lst []] ++ [.lst []] : Stor).set st.length (.dct 0 [(.str k1, .ref (st.length + 1)), (.str k2, .ref (st.length + 2)), (.str k3, .ref (st.length + 3))]) = st ++ [.dct 0 [(.str k1, .ref (st.length + 1)), (.str k2, .ref (st.length + 2)), (.str k3, .ref (st.length + 3))], .lst [], .lst [], .lst []] := by simp
    rw [es] at r5
    have x12 := x1.trans rs.mh x2
    have x123 := x12.trans rs.mh x3
    have x1234 := x123.trans rs.mh x4
    refine ⟨hat, [(.inr k1, .ref b1), (.inr k2, .ref b2), (.inr k3, .ref b3)], rfl, by show 3 ≤ 15; decide, ?_⟩
    have em : mergeK [] [((.inr k1 : Key), V.ref b1), (.inr k2, .ref b2), (.inr k3, .ref b3)] = [(.inr k1, .ref b1), (.inr k2, .ref b2), (.inr k3, .ref b3)] := by
      have z12 : ¬ (Sum.inr k1 : Key) = .inr k2 := fun e => n12 (Sum.inr.inj e)
      have z13 : ¬ (Sum.inr k1 : Key) = .inr k3 := fun e => n13 (Sum.inr.inj e)
      have z23 : ¬ (Sum.inr k2 : Key) = .inr k3 := fun e => n23 (Sum.inr.inj e)
      simp [mergeK, putK, z12, z13, z23, n12, n13, n23]
    rw [em]
    exact p _ _ _ _ r5 (x1234.trans rs.mh x5) ⟨a, m0, rfl⟩
end
end PD

/-! PEv: texts split, int of a text, a tuple of texts of the module. -/
namespace PD
open PySem PySem.Spec PyProof.Rows L2 SX
/-- a tuple of texts that the module wrote -/
def KTup (K : PySem.W.Frag) (a : Addr) (ys : List Str) : Prop := ∃ o its n, List.lookup a K = some o ∧ o.cls = .type "tuple" ∧ o.dict = none ∧ o.data = .seq its n ∧ its.size ≤ sizeLine ∧ Vals (ys.map V.str) its.toList
def fSplit (b : Str) (r : R) (st : Stor) : Out R := match r with
  | .dat (.str a) => if (b.length == 0) = false ∧ a.length ≤ 1000000 then .ok (.new ((Txt.split a b).map D.str)) st else .bad
  | _ => .bad
def idxS (ys : List Str) (z : Str) : Option Nat := ys.findIdx? fun y => decide (y = z)
def fTIx (ys : List Str) (r : R) (st : Stor) : Out R := match r with
  | .dat (.str z) => (match idxS ys z with
    | some j => .ok (.dat (.int j)) st
    | none => .bad)
  | _ => .bad
def fIntS (r : R) (st : Stor) : Out R := match r with
  | .dat (.str a) => (match intText? a with
    | some n => if a.length ≤ 640 then .ok (.dat (.int n)) st else .bad
    | none => .bad)
  | _ => .bad
section
variable {X : Cx} {G : Ga} {W : WX} {e e2 e3 : Expr} {es : List Expr} {a b c : EV} {as : AV} {t : TV} {pos : Pos} {s : SVm}
theorem strs_reps {K : PySem.W.Frag} {mg : Str → Option Value} {Z : Addr → Prop} {M : List Addr} {H : Hp} : ∀ ys : List Str, Reps K mg Z M H (ys.map D.str) (ys.map V.str)
  | [] => rfl
  | y :: ys => ⟨_, _, rfl, rfl, strs_reps ys⟩
theorem i_globT {x : Str} {ad : Addr} {ys : List Str} (hK : G.K = X.K) (hm : X.mg x = some (.ref ad)) (k : KTup X.K ad ys) (hg : Gl X x := by rfl) (hd : (x == ("__debug__" : Str)) = false := by decide) : PE X (.Name x pos) (rd G W (eC (.tup (ys.map D.str)))) :=
  i_glob (v := .ref ad) hg hm rfl (fun Z M H => by
    obtain ⟨o, its, n, h1, h2, h3, h4, h5, h6⟩ := k
    exact ⟨ad, ys.map V.str, rfl, .inr ⟨o, its, n, by rw [hK]; exact h1, h2, h4, h5, h6⟩, strs_reps ys⟩) hd
theorem i_split {b : Str} {j : _} {p1 apos : Pos} (ho : PE X e (rd G W a)) (hs : starEach [.Constant (.str b) j p1] X.env = [(false, eval (.Constant (.str b) j p1) X.env)] := by rfl) (hb : attributeBase e "split" X.env (eval e X.env) = eval e X.env := by rfl) (hl : (apos.endLine == pos.line) = true := by rfl) : PE X (.Call (.Attribute e "split" apos) [.Constant (.str b) j p1] [] pos) (rd G W (eUn (fSplit b) a)) :=
  (pe_split ho pe_str hs hb hl).imp fun σ H Q h => rd_un (X := X) (r := fun x H1 Q => (∃ a, x = .str a) ∧ ∃ a c, x = V.str a ∧ [V.str b] = [V.str c] ∧ (c.length == 0) = false ∧ a.length + 2 ≤ sizeLine ∧ rNewStrs (Txt.split a c) H1 Q) (fun B Z M env st σ H Q r v rs w p => by
    unfold fSplit at p
    split at p
    · split at p
      · rename_i y hq
        have e1 : v = .str y := w
        subst e1
        exact ⟨⟨y, rfl⟩, y, b, rfl, rfl, hq.1, by rw [sizeLine_eq]; omega, fun q hq2 => ans_new rs p hq2 (strs_reps _)⟩
      · exact p.elim
    · exact p.elim) h
theorem idx_is {ys : List Str} {z : Str} {j : Nat} (h : idxS ys z = some j) : ys[j]? = some z ∧ ∀ m, m < j → ys[m]? ≠ some z := by
  unfold idxS at h
  rw [List.findIdx?_eq_some_iff_getElem] at h
  obtain ⟨hj, h1, h2⟩ := h
  refine ⟨by rw [List.getElem?_eq_getElem hj]; exact congrArg some (of_decide_eq_true h1), fun m hm e => ?_⟩
  have := h2 m hm
  rw [List.getElem?_eq_getElem (by omega)] at e
  cases e
  simp at this
theorem i_tindex {x : Str} {ad : Addr} {ys : List Str} {p1 apos : Pos} (hm : X.mg x = some (.ref ad)) (k : KTup X.K ad ys) (he : PE X e (rd G W a)) (hg : Gl X x := by rfl) (hd : (x == ("__debug__" : Str)) = false := by decide)
    (hbase : attributeBase (.Name x p1) "index" X.env (eval (.Name x p1) X.env) = eval (.Name x p1) X.env := by rfl)
    (hfew : ((backTo pos (starEach [e] X.env)).all (fun x => !x.1) && (backToKw pos (keywordEach [] X.env)).all (fun x => x.1.isSome)
      && decide ([e].length + ([] : List Keyword).length + (if ([] : List Keyword).isEmpty then 0 else 1) < 30)) = true := by rfl)
    (hline : (apos.endLine == pos.line) = true := by rfl) (hs : starEach [e] X.env = (false, eval e X.env) :: starEach [] X.env := by rfl) (hplain : (backTo pos (starEach [] X.env)).any (·.1) = false := by rfl) :
    PE X (.Call (.Attribute (.Name x p1) "index" apos) [e] [] pos) (rd G W (eUn (fTIx ys) a)) :=
  (pe_bm PySem.F.plainAttrs_tuple PySem.F.slot_tuple_index PySem.F.type_tuple_index mt_tup_index (pe_glob (v := .ref ad) hg hm rfl hd) (pa_cons he pa_nil hs) hbase hfew hline hs hplain).imp fun σ H Q h => by
    obtain ⟨o, its, n, h1, h2, h3, h4, h5, h6⟩ := k
    refine ⟨.inr (.inl ⟨rfl, o, h1, h2, h3⟩), ?_⟩
    refine rd_un (X := X) (r := fun v H1 Q => ∃ p, ∃ ys : List Str, ∃ z j, V.ref ad = .ref p ∧ [v] = [V.str z] ∧ SqT X.K H1 p (ys.map V.str) ∧ ys[j]? = some z ∧ (∀ m, m < j → ys[m]? ≠ some z) ∧ Q (.int (j : Nat)) H1) (fun B Z M env st σ H Q r v rs w p => ?_) h
    unfold fTIx at p
    split at p
    · split at p
      · rename_i z _ j ej
        have e1 : v = .str z := w
        subst e1
        obtain ⟨q1, q2⟩ := idx_is ej
        exact ⟨ad, ys, z, j, rfl, rfl, .inr ⟨o, its, n, h1, h2, h4, h5, h6⟩, q1, q2, ans_dat rs p rfl⟩
      · exact p.elim
    · exact p.elim
theorem o_intS : OpA X G W (f1 fIntS) (fun xs H Q => ∃ a n, xs = [V.str a] ∧ intText? a = some n ∧ a.length ≤ 640 ∧ Q (V.int n) H) := o_f1 fun B Z M env st σ H Q r v rs w p => by
  unfold fIntS at p
  split at p
  · split at p
    · rename_i y _ n en
      split at p
      · rename_i hl
        have e1 : v = .str y := w
        subst e1
        exact ⟨y, n, rfl, en, hl, ans_dat rs p rfl⟩
      · exact p.elim
    · exact p.elim
  · exact p.elim
end
/-! ### as rules to be used from the goal backwards -/
section
variable {α : Type} {P PR : R → Stor → Prop} {PB : Bool → Stor → Prop} {PL : List R → Stor → Prop} {Q : Xc → Stor → Prop} {N : WS} {env env1 : Env} {st : Stor} {a b c : EV} {as : AV} {t u : TV} {s s2 : SVm} {d : D} {ds es : List D} {r r1 r2 : R} {rs : List R} {i j : Int} {k n m : Nat} {kvs kvs' : List (D × D)} {fs : List (Str × D)} {cn f : Str}
theorem r_dct {kd : Nat} (x : PR (.dat (.ref st.length)) (st ++ [.dct kd []])) : wE (eDct kd env st) PR Q := x
theorem r_disp3 {k1 k2 k3 : Str} (x : PR (.dat (.ref st.length)) (st ++ [.dct 0 [(.str k1, .ref (st.length + 1)), (.str k2, .ref (st.length + 2)), (.str k3, .ref (st.length + 3))], .lst [], .lst [], .lst []])) : wE (eDisp3 k1 k2 k3 env st) PR Q := x
theorem dctAt_of {kd : Nat} (h : st[k]? = some (.dct kd kvs)) : dctAt kd st (.dat (.ref k)) = some (k, kvs) := by
  unfold dctAt; dsimp only; rw [h]; dsimp only; rw [if_pos rfl]
theorem insAt_of (h : st[k]? = some (.ins cn fs)) : insAt cn st (.dat (.ref k)) = some (k, fs) := by
  unfold insAt; dsimp only; rw [h]; dsimp only; rw [if_pos rfl]
theorem r_dget {kd : Nat} {v : D} (h : st[k]? = some (.dct kd kvs)) (h2 : dLook kd kvs d = some (some v)) (x : PR (.dat v) st) : wE (fDGet kd (.dat (.ref k)) (.dat d) st) PR Q := by
  unfold fDGet; rw [dctAt_of h]; dsimp only; rw [h2]; exact x
theorem r_din {kd : Nat} {neg : Bool} {o : Option D} (h : st[k]? = some (.dct kd kvs)) (h2 : dLook kd kvs d = some o) (x : PR (.dat (.bl (neg ^^ o.isSome))) st) : wE (fDIn kd neg (.dat d) (.dat (.ref k)) st) PR Q := by
  unfold fDIn; rw [dctAt_of h]; dsimp only; rw [h2]; exact x
theorem r_listD {kd : Nat} (h : st[k]? = some (.dct kd kvs)) (x : PR (.new (kvs.map (·.1))) st) : wE (f1 (fListD kd) [.dat (.ref k)] st) PR Q := by
  show wE (fListD kd (.dat (.ref k)) st) PR Q
  unfold fListD; rw [dctAt_of h]; exact x
def kDPut3 (kd : Nat) (dv : D) (ro : R) (env : Env) (N : WS) (rk : R) (st : Stor) : Prop := ∃ dk i kvs kvs', rk = .dat dk ∧ ro = .dat (.ref i) ∧ st[i]? = some (.dct kd kvs) ∧ dStore kd kvs dk dv = some kvs' ∧ kvs.length < 1000000 ∧ N.nx env (st.set i (.dct kd kvs'))
theorem r_dput {kd : Nat} (x : wE (c env st) (fun rv st1 => ∃ dv, rv = .dat dv ∧ wE (a env st1) (fun ro st2 => wE (b env st2) (kDPut3 kd dv ro env N) (fun x st1 => N.xc x env st1)) (fun x st1 => N.xc x env st1)) (fun x st1 => N.xc x env st1)) : wS (sDPut kd a b c env st) N := by
  unfold sDPut
  cases ec : c env st with
  | bad => rw [ec] at x; exact x
  | exc y s => rw [ec] at x; exact x
  | ok rv st1 =>
    rw [ec] at x
    obtain ⟨dv, rfl, x⟩ := x
    dsimp only
    cases ea : a env st1 with
    | bad => rw [ea] at x; exact x
    | exc y s => rw [ea] at x; exact x
    | ok ro st2 =>
      rw [ea] at x
      dsimp only
      have x : wE (b env st2) (kDPut3 kd dv ro env N) (fun x st1 => N.xc x env st1) := x
      cases eb : b env st2 with
      | bad => rw [eb] at x; exact x
      | exc y s => rw [eb] at x; exact x
      | ok rk st3 =>
        rw [eb] at x
        obtain ⟨dk, i, kvs, kvs', rfl, rfl, h1, h2, h3, x⟩ := x
        dsimp only
        rw [dctAt_of h1]
        dsimp only
        rw [h2]
        dsimp only
        rw [if_pos h3]
        exact x
theorem wS_while (I : Nat → Env → Stor → Prop) {m : Nat} (hm : m < 100000) (h0 : I m env st) (step : ∀ m env st, I m env st → wE (t env st) (fun k s1 => if k = true then wS (s env s1) { N with nx := fun e1 s2 => ∃ m', m' < m ∧ I m' e1 s2, ct := fun e1 s2 => ∃ m', m' < m ∧ I m' e1 s2, bk := N.nx } else N.nx env s1) (fun x s1 => N.xc x env s1)) : wS (sWhile t s env st) N := by
  have key : ∀ (n m : Nat) (env : Env) (st : Stor), m < n → I m env st → wS (wGo t s n env st) N := by
    intro n
    induction n with
    | zero => intro m env st h; omega
    | succ n ih =>
      intro m env st hl h
      have w := step m env st h
      unfold wGo
      cases et : t env st with
      | bad => rw [et] at w; exact w
      | exc x s1 => rw [et] at w; exact w
      | ok k s1 =>
        rw [et] at w
        cases k with
        | false => exact w
        | true =>
          have w : wS (s env s1) { N with nx := fun e1 s2 => ∃ m', m' < m ∧ I m' e1 s2, ct := fun e1 s2 => ∃ m', m' < m ∧ I m' e1 s2, bk := N.nx } := w
          dsimp only
          cases eb : s env s1 with
          | nx e1 s2 => rw [eb] at w; obtain ⟨m', h1, h2⟩ := w; exact ih m' e1 s2 (by omega) h2
          | cont e1 s2 => rw [eb] at w; obtain ⟨m', h1, h2⟩ := w; exact ih m' e1 s2 (by omega) h2
          | brk e1 s2 => rw [eb] at w; exact w
          | ret r s2 => rw [eb] at w; exact w
          | exc x e1 s2 => rw [eb] at w; exact w
          | bad => rw [eb] at w; exact w
  exact key 100000 m env st hm h0
theorem r_fldI (h : st[k]? = some (.ins cn fs)) (h2 : fs.lookup f = some d) (x : PR (.dat d) st) : wE (fFldI cn f (.dat (.ref k)) st) PR Q := by
  unfold fFldI; rw [insAt_of h]; dsimp only; rw [h2]; exact x
def kFld2 (cn f : Str) (d : D) (env : Env) (N : WS) (ro : R) (st : Stor) : Prop := ∃ i fs, ro = .dat (.ref i) ∧ st[i]? = some (.ins cn fs) ∧ fs.length < 1000 ∧ N.nx env (st.set i (.ins cn (putG f d fs)))
theorem r_sfld (x : wE (b env st) (fun r st1 => ∃ d st2, putR r st1 = some (d, st2) ∧ wE (a env st2) (kFld2 cn f d env N) (fun x st1 => N.xc x env st1)) (fun x st1 => N.xc x env st1)) : wS (sFldI cn f a b env st) N := by
  unfold sFldI
  cases eb : b env st with
  | bad => rw [eb] at x; exact x
  | exc y s => rw [eb] at x; exact x
  | ok r st1 =>
    rw [eb] at x
    obtain ⟨d, st2, h1, x⟩ := x
    dsimp only
    rw [h1]
    dsimp only
    cases ea : a env st2 with
    | bad => rw [ea] at x; exact x
    | exc y s => rw [ea] at x; exact x
    | ok ro st3 =>
      rw [ea] at x
      obtain ⟨i, fs, rfl, h2, h3, x⟩ := x
      dsimp only
      rw [insAt_of h2]
      dsimp only
      rw [if_pos h3]
      exact x
theorem r_meth {g : Sem} (x : wE (a env st) (fun ro st1 => ∃ i fs, ro = .dat (.ref i) ∧ st1[i]? = some (.ins cn fs) ∧ fs.lookup f = none ∧ wE (as env st1) (fun rs st2 => wE (g (.dat (.ref i) :: rs.map R.arg) st2) PR Q) Q) Q) : wE (eMeth cn f g a as env st) PR Q := by
  unfold eMeth
  cases ea : a env st with
  | bad => rw [ea] at x; exact x
  | exc y s => rw [ea] at x; exact x
  | ok ro st1 =>
    rw [ea] at x
    obtain ⟨i, fs, rfl, h1, h2, x⟩ := x
    dsimp only
    rw [insAt_of h1]
    dsimp only
    rw [h2]
    dsimp only
    cases eb : as env st1 with
    | bad => rw [eb] at x; exact x
    | exc y s => rw [eb] at x; exact x
    | ok rs st2 => rw [eb] at x; exact x
theorem r_make {g : Sem} (x : wE (as env st) (fun rs st1 => wE (g (.dat (.ref st1.length) :: rs.map R.arg) (st1 ++ [.ins cn []])) (fun r st2 => r = .dat .non ∧ PR (.dat (.ref st1.length)) st2) (fun _ _ => False)) Q) : wE (eMake cn g as env st) PR Q := by
  unfold eMake
  cases eb : as env st with
  | bad => rw [eb] at x; exact x
  | exc y s => rw [eb] at x; exact x
  | ok rs st1 =>
    rw [eb] at x
    dsimp only
    have x : wE (g (.dat (.ref st1.length) :: rs.map R.arg) (st1 ++ [.ins cn []])) (fun r st2 => r = .dat .non ∧ PR (.dat (.ref st1.length)) st2) (fun _ _ => False) := x
    cases eg : g (.dat (.ref st1.length) :: rs.map R.arg) (st1 ++ [.ins cn []]) with
    | bad => rw [eg] at x; exact x.elim
    | exc y s => rw [eg] at x; exact x.elim
    | ok r st2 =>
      rw [eg] at x
      obtain ⟨rfl, x⟩ := x
      exact x
theorem r_split {y z : Str} (h : (z.length == 0) = false) (h2 : y.length ≤ 1000000) (x : PR (.new ((Txt.split y z).map D.str)) st) : wE (fSplit z (.dat (.str y)) st) PR Q := by
  unfold fSplit; dsimp only; rw [if_pos ⟨h, h2⟩]; exact x
theorem r_tix {ys : List Str} {z : Str} (h : idxS ys z = some k) (x : PR (.dat (.int k)) st) : wE (fTIx ys (.dat (.str z)) st) PR Q := by
  unfold fTIx; dsimp only; rw [h]; exact x
theorem r_intS {y : Str} (h : intText? y = some i) (h2 : y.length ≤ 640) (x : PR (.dat (.int i)) st) : wE (f1 fIntS [.dat (.str y)] st) PR Q := by
  show wE (fIntS (.dat (.str y)) st) PR Q
  unfold fIntS; dsimp only; rw [h]; dsimp only; rw [if_pos h2]; exact x
end
end PD

/-! PEw: a text in a text. -/
namespace PD
open PySem PySem.Spec PyProof.Rows L2 SX
def inS (i j : Str) : Bool := !(Builtin.Str.occurrences j i 0 j.length 1).isEmpty
def fInS (neg : Bool) (r1 r2 : R) (st : Stor) : Out R := match r1, r2 with
  | .dat (.str i), .dat (.str j) => .ok (.dat (.bl (neg ^^ inS i j))) st
  | _, _ => .bad
section
variable {X : Cx} {G : Ga} {W : WX} {e e2 e3 : Expr} {es : List Expr} {a b c : EV} {as : AV} {t : TV} {pos : Pos} {s : SVm}
theorem o_inS : Op2 X G W (fInS false) (fun x y H Q => ∃ i j, x = .str i ∧ y = .str j ∧ Q (.bl (inS i j)) H) := by
  intro B Z M env st σ H Q r1 r2 v1 v2 rs w1 w2 p
  unfold fInS at p
  split at p
  · rename_i i j
    have e1 : v1 = .str i := w1
    have e2 : v2 = .str j := w2
    subst e1; subst e2
    rw [Bool.false_xor] at p
    exact ⟨i, j, rfl, rfl, ans_dat rs p rfl⟩
  · exact p.elim
theorem i_inS (ha : PE X e (rd G W a)) (hb : PE X e2 (rd G W b)) (hm : behindInMarks .In e2 = false := by rfl) : PE X (.Compare e [.In] [e2] pos) (rd G W (eBin (fInS false) a b)) := i_cmp op_in_str o_inS ha hb hm
theorem t_inS (ha : PE X e (rd G W a)) (hb : PE X e2 (rd G W b)) (hm : behindInMarks .In e2 = false := by rfl) : PT X (.Compare e [.In] [e2] pos) (rdT G W (tVal (eBin (fInS false) a b))) := t_cmp op_in_str o_inS ha hb hm
end
section
variable {st : Stor} {PR : R → Stor → Prop} {Q : Xc → Stor → Prop}
theorem r_inS {i j : Str} (x : PR (.dat (.bl (inS i j))) st) : wE (fInS false (.dat (.str i)) (.dat (.str j)) st) PR Q := by
  show PR (.dat (.bl (false ^^ inS i j))) st
  rw [Bool.false_xor]; exact x
end
end PD

/-! PEx: is none, is not none; tests of a dict's keys. -/
namespace PD
open PySem PySem.Spec PyProof.Rows L2 SX
def nonOf : R → Option Bool
  | .dat .non => some true
  | .dat (.bl _) => some false
  | .dat (.int _) => some false
  | .dat (.str _) => some false
  | .dat (.tup _) => some false
  | .dat (.lst _) => some false
  | .dat _ => none
  | .new _ => some false
  | .view _ => some false
  | .scr _ => some false
def fIsN (neg : Bool) (r1 r2 : R) (st : Stor) : Out R := match r2 with
  | .dat .non => (match nonOf r1 with
    | some b => .ok (.dat (.bl (neg ^^ b))) st
    | none => .bad)
  | _ => .bad
theorem non_of {G : Ga} {B : Hp} {Z : Addr → Prop} {M : List Addr} {H : Hp} {r : R} {v : V} {b : Bool} (h : nonOf r = some b) (w : VR G B Z M H r v) : decide (v = .non) = b := by
  cases r with
  | dat d =>
    cases d with
    | non => cases h; have e : v = .non := w; subst e; rfl
    | bl x => cases h; have e : v = .bl x := w; subst e; rfl
    | int x => cases h; have e : v = .int x := w; subst e; rfl
    | str x => cases h; have e : v = .str x := w; subst e; rfl
    | tup x => cases h; obtain ⟨a, vs, rfl, _⟩ := w; rfl
    | lst x => cases h; obtain ⟨a, vs, rfl, _⟩ := w; rfl
    | ref _ => cases h
    | glo _ => cases h
  | new ds => cases h; obtain ⟨a, vs, rfl, _⟩ := w; rfl
  | view ds => cases h; obtain ⟨a, vs, rfl, _⟩ := w; rfl
  | scr ds => cases h; obtain ⟨a, vs, rfl, _⟩ := w; rfl
section
variable {X : Cx} {G : Ga} {W : WX} {e e2 e3 : Expr} {es : List Expr} {a b c : EV} {as : AV} {t : TV} {pos : Pos} {s : SVm}
theorem o_isN : Op2 X G W (fIsN false) (fun x y H Q => y = .non ∧ Q (.bl (decide (x = .non))) H) := by
  intro B Z M env st σ H Q r1 r2 v1 v2 rs w1 w2 p
  unfold fIsN at p
  split at p
  · split at p
    · rename_i b hb
      have e2 : v2 = .non := w2
      subst e2
      rw [Bool.false_xor] at p
      exact ⟨rfl, by rw [non_of hb w1]; exact ans_dat rs p rfl⟩
    · exact p.elim
  · exact p.elim
theorem o_notN : Op2 X G W (fIsN true) (fun x y H Q => y = .non ∧ Q (.bl (!decide (x = .non))) H) := by
  intro B Z M env st σ H Q r1 r2 v1 v2 rs w1 w2 p
  unfold fIsN at p
  split at p
  · split at p
    · rename_i b hb
      have e2 : v2 = .non := w2
      subst e2
      rw [Bool.true_xor] at p
      exact ⟨rfl, by rw [non_of hb w1]; exact ans_dat rs p rfl⟩
    · exact p.elim
  · exact p.elim
theorem i_isN (ha : PE X e (rd G W a)) (hb : PE X e2 (rd G W b)) (hm : behindInMarks .Is e2 = false := by rfl) : PE X (.Compare e [.Is] [e2] pos) (rd G W (eBin (fIsN false) a b)) := i_cmp op_isN o_isN ha hb hm
theorem i_notN (ha : PE X e (rd G W a)) (hb : PE X e2 (rd G W b)) (hm : behindInMarks .IsNot e2 = false := by rfl) : PE X (.Compare e [.IsNot] [e2] pos) (rd G W (eBin (fIsN true) a b)) := i_cmp op_notN o_notN ha hb hm
theorem t_isN (ha : PE X e (rd G W a)) (hb : PE X e2 (rd G W b)) (hm : behindInMarks .Is e2 = false := by rfl) : PT X (.Compare e [.Is] [e2] pos) (rdT G W (tVal (eBin (fIsN false) a b))) := t_cmp op_isN o_isN ha hb hm
theorem t_notN (ha : PE X e (rd G W a)) (hb : PE X e2 (rd G W b)) (hm : behindInMarks .IsNot e2 = false := by rfl) : PT X (.Compare e [.IsNot] [e2] pos) (rdT G W (tVal (eBin (fIsN true) a b))) := t_cmp op_notN o_notN ha hb hm
end
section
variable {st : Stor} {PR : R → Stor → Prop} {Q : Xc → Stor → Prop}
theorem r_isN {r : R} {b : Bool} (h : nonOf r = some b) (x : PR (.dat (.bl b)) st) : wE (fIsN false r (.dat .non) st) PR Q := by
  show wE (match nonOf r with | some b => .ok (.dat (.bl (false ^^ b))) st | none => .bad) PR Q
  rw [h]
  show PR (.dat (.bl (false ^^ b))) st
  rw [Bool.false_xor]; exact x
theorem r_notN {r : R} {b : Bool} (h : nonOf r = some b) (x : PR (.dat (.bl (!b))) st) : wE (fIsN true r (.dat .non) st) PR Q := by
  show wE (match nonOf r with | some b => .ok (.dat (.bl (true ^^ b))) st | none => .bad) PR Q
  rw [h]
  show PR (.dat (.bl (true ^^ b))) st
  rw [Bool.true_xor]; exact x
end
end PD

/-! PEy: a list comprehension that an exception leaves, at the machine. -/
namespace PD
open PySem PySem.Spec PyProof.Rows L2 SX
section
variable {M : Model} {A : Around} {E : Value → Shared → Prop} {s : Shared} {env : PySem.Env}
/-- what is to hold behind the block; the block's own frame is known -/
def cPostX (M : Model) (A : Around) (E : Value → Shared → Prop) (Q : Value → Shared → Prop) (acc : Value) (cenv : PySem.Env) (r : Result) (s' : Shared) : Prop :=
  match r with
  | .ok _ => ∃ m, s'.heap.Ns cenv.locals m ∧ ∀ h', Heap.SameBut cenv.locals s'.heap h' → Q acc { s' with heap := h' }
  | .error x => ∃ m, s'.heap.Ns cenv.locals m ∧ ∀ h', Heap.SameBut cenv.locals s'.heap h' → wpAny M A (PySem.passOn "comprehension.variables-let-go" x cenv : PySem.Sem Value) (fun _ _ => False) E { s' with heap := h' }
theorem comp_freeX {e : Expr} {scope : Scope} {pos : Pos} {newAcc first : PySem.Sem Value} {g : Comprehension} {gs : List Comprehension} {cl : List (Str × Addr)} {Q : Value → Shared → Prop}
    (hcl : clausesOf e = g :: gs) (hs : ∀ x, foldedSetIterable g.iter env x = pure x) (hclos : closureFor scope env = pure cl)
    (hkind : scope.kind = .function) (hnames : ∀ x ∈ scope.names, x.2 = .local → scope.names.lookup x.1 = some .local)
    (h : wpAny M A first (fun x s₁ => wpAny M A (pyIter x) (fun it s₂ => wpAny M A newAcc (fun acc s₃ =>
      wpAny M A (newFunctionEnv scope env.globals cl [] env.qual none .none (some env)) (fun cenv s₄ =>
        codeAny M A (.compStart e 0 it acc { cenv with scope := relabel scope env }) (cPostX M A E Q acc { cenv with scope := relabel scope env }) s₄) E s₃) E s₂) E s₁) E s) :
    wpAny M A (comprehension e scope env pos newAcc false first none) Q E s := by
  unfold comprehension
  rw [hclos, hcl]
  refine wpAny_bind (wpAny_mono h (fun x s₁ h₁ => wpAny_bind (wpAny_standAt (wpAny_bind (wpAny_of_eq (hs x) (wpAny_bind (wpAny_holding (wpAny_mono h₁ (fun it s₂ h₂ =>
    wpAny_standIf (wpAny_bind (wpAny_mono h₂ (fun acc s₃ h₃ => wpAny_bind (wpAny_pure (wpAny_bind (wpAny_mono h₃ (fun cenv s₄ h₄ => ?_) fun _ _ h' => h')))) fun _ _ h' => h')))
      fun _ _ h' => h'))))))) fun _ _ h' => h')
  dsimp only
  have hv : ∀ x ∈ (scope.names.filter fun x => (x.2 == .local || x.2 == .cell) && x.1 != (".0" : Str)).reverse, x.2 = .local →
      Env.kindOf { cenv with scope := relabel scope env } x.1 = some .local := fun x hx hl => lookup_relabel_local (hnames x (List.mem_filter.mp (List.mem_reverse.mp hx)).1 hl)
  refine wpAny_holding (wpAny_bind (wpAny_attempt (wpAny_holding (wpAny_run (codeAny_mono h₄ fun r s' hr => ?_)))))
  cases r with
  | ok f =>
    obtain ⟨m, hn, hr⟩ := hr
    exact wpAny_bind (wpAny_holding (wpAny_comp_letGo (cenv := { cenv with scope := relabel scope env }) hkind _ s' m hv hn fun h' m' _ hs' => wpAny_pure (hr h' hs')))
  | error x =>
    obtain ⟨m, hn, hr⟩ := hr
    exact wpAny_bind (wpAny_holding (wpAny_comp_letGo (cenv := { cenv with scope := relabel scope env }) hkind _ s' m hv hn fun h' m' _ hs' => wpAny_mono (hr h' hs') (fun _ _ f => f.elim) fun _ _ y => y))
end
theorem inv_xe {X : Cx} {x1 : Value → Shared → Prop} {pins : List (Addr × PySem.Obj)} {σ : L2.St} {H : Hp} {s : Shared} (I : Inv X pins σ H s) : Inv { X with xe := x1 } pins σ H s where
  ok := { I.ok with }
  os := I.os
  bare := I.bare
  base := I.base
  loc := I.loc
  cell := I.cell
  free := I.free
  freeC := I.freeC
  pin := I.pin
  hok := I.hok
  len := I.len
/-- an exception noted by another frame is noted by this one -/
theorem look_otherZ {M : Model} {A : Around} {E : Value → Shared → Prop} {s : Shared} {base : Heap} {env : PySem.Env} {outer : List PySem.Env} {e L L' : Addr} {Z : PySem.Obj → Prop} {Q : Unit → Shared → Prop} (hZ : HandSPX.Steady Z) (hfr : A.frames = some (env :: outer)) (hf : env.frame = some L) (hL : (rawInt L' == rawInt L) = false)
    (hfl : HandSPX.HeldZ base (env :: outer) e Z L' s.heap) (hQ : ∀ h', HandSPX.HeldZ base (env :: outer) e Z L h' → s.heap.UpToSlots h' → Q () { s with heap := h' }) : wpAny M A (noteFrame (.ref e) env) Q E s := by
  obtain ⟨hkb, hen, hl, oe, vs, T, oT, ts, he, hz, hd, h1, hnT, hTe, hT, hdT, h3⟩ := hfl
  unfold noteFrame
  simp only [hf]
  refine wpAny_bind (wpAny_field he hd h1 ?_)
  rw [if_pos (show (Value.ref T != Value.none) = true from by simp)]
  refine wpAny_bind (wpAny_field hT hdT h3 ?_)
  rw [if_neg (by rw [hL]; exact Bool.false_ne_true)]
  refine wpAny_bind (wpAny_setField hT hdT (Array.getElem?_eq_some_iff.mp h3).1 ?_)
  have other : ∀ b, b ≠ T → (s.heap.update T (Obj.mapFields (·.setIfInBounds 3 Value.none))).get? b = s.heap.get? b := fun b hb => Heap.get?_update_other _ _ (Ne.symm hb)
  have noRecord : ∀ b o, s.heap.get? b = some o → (∀ vs, o.data ≠ .fields vs) → b ≠ T := fun b o hb hnf q => by
    rw [q, hT] at hb; injection hb with hb; subst hb; exact hnf ts hdT
  refine HandSPX.wpAny_entryZ hZ hfr (hl.of_keeps fun b o hb hnf => ⟨o, (other b (noRecord b o hb hnf)).trans hb, rfl⟩) hf ((other e (Ne.symm hTe)).trans he)
    (fun b o hbo => (other b fun q => by rw [q, hnT] at hbo; cases hbo).trans (hkb b o hbo)) hen hd (Array.getElem?_eq_some_iff.mp h1).1 hz fun h' hN => ?_
  obtain ⟨x1, x2, x3, x4⟩ := hN
  exact hQ h' ⟨x1, hen, x2, x3⟩ fun b o hb hnf => x4 b o ((other b (noRecord b o hb hnf)).trans hb) hnf
end PD

/-! PEz: a list comprehension that an exception leaves: its rule. -/
namespace PD
open PySem PySem.Spec PyProof.Rows L2 SX
section
variable {X : Cx} {pins : List (Addr × PySem.Obj)} {σ : L2.St} {H H3 : Hp} {s3 s' : Shared} {scope : Scope} {ce : PySem.Env} {fp : List Addr} {W Wb : WX}
/-- the block's context, its exceptions told by a wish -/
abbrev blkX (X : Cx) (s : Shared) (H : Hp) (scope : Scope) (ce : PySem.Env) (fp : List Addr) (Wb : WX) : Cx := { X.blk s H scope ce fp with xe := fun u s' => XE (X.blk s H scope ce fp) Wb u s' }
theorem takes_blk : Takes (blkX X s3 H scope ce fp Wb) Wb := fun u s' ⟨a, B, sI, pins, σ, H, cls, d, e, I, r⟩ => ⟨a, B, sI, pins, σ, H, cls, d, e, inv_xe I, r⟩
theorem rawInt_ne {a b : Addr} (h : a ≠ b) : (rawInt a == rawInt b) = false := by
  cases e : rawInt a == rawInt b with
  | false => rfl
  | true =>
    have z := beq_iff_eq.mp e
    unfold rawInt at z
    injection z with z
    exact absurd (Int.ofNat.inj z) h
/-- it leaves the block: noted by the def's frame, the block's names let go, then in the def's air -/
theorem XE.leaveBlk {E₁ : Value → Shared → Prop} (hs : X.stack = X.env :: X.outer) (hf : X.env.frame = some X.env.locals) (I3 : Inv X pins σ H s3) (hcf : ce.frame = X.env.frame) (hcl : ce.locals ≠ X.env.locals)
    (hfp : ∀ b ∈ fp, FpOk X pins H b) (hfC : ∀ H', H' ce.locals = none → FpOk X pins H' ce.locals) (hW : ∀ cls d σ' H', Wb cls d σ' H' → W cls d σ H') {Q : Value → Shared → Prop} {acc : Value} {u : Value} (x : XE (X.blk s3 H scope ce fp) Wb u s') :
    wpAny (model X.prog X.w) X.A (noteFrame u ce) (fun _ s2 => cPostX (model X.prog X.w) X.A (fun u s4 => XE X W u s4) Q acc ce (.error u) s2) E₁ s' := by
  obtain ⟨a, B, sI, pinsB, σB, H', cls, d, rfl, I', nb, up, sky, na, os, ag, w⟩ := x
  have hfr : X.A.frames = some (X.env :: X.outer) := by rw [I3.ok.frames, hs]
  have nC : H' ce.locals = none := I'.free
  have fC : FpOk X pins H' ce.locals := hfC H' nC
  have I7 : Inv X pins σ H' sI := I3.call' (ch := fp) I'.os I'.base I'.hok I'.bare fun b hb => ⟨(hfp b hb).2.2.2.1, (hfp b hb).2.1, (hfp b hb).2.2.2.2.1, (hfp b hb).2.2.2.2.2⟩
  obtain ⟨m, hn, _⟩ := I'.loc
  have hn : sI.heap.Ns ce.locals m := hn
  have nstk : ce.locals ∉ frs X.stack := fun hm => by
    rcases List.mem_cons.mp (I7.stkSub _ hm) with z | z
    · exact hcl z
    · exact fC.2.2.1 z
  obtain ⟨oC, es, ep, hoC, hdC, r1, r2⟩ := hn
  have hBC : B.get? ce.locals = some oC := nb _ _ hoC nstk
  have sky : Sky B X.stack a (Zc cls d) ce.locals s'.heap := sky
  rw [hs] at sky
  -- noted by the def's frame
  have fin : ∀ h1, HandSPX.HeldZ B (X.env :: X.outer) a (Zc cls d) X.env.locals h1 → s'.heap.UpToSlots h1 → cPostX (model X.prog X.w) X.A (fun u s4 => XE X W u s4) Q acc ce (.error (.ref a)) { s' with heap := h1 } := fun h1 hh up1 => by
    obtain ⟨k1, k2, k3, k4⟩ := hh
    have h1C : h1.get? ce.locals = some oC := k1 _ _ hBC
    refine ⟨m, ⟨oC, es, ep, h1C, hdC, r1, r2⟩, fun h2 sb => ?_⟩
    have keep : ∀ b, b ≠ ce.locals → h2.get? b = h1.get? b := sb.2
    obtain ⟨B2, b1, b2⟩ := restrict B fun b => decide (b ≠ ce.locals)
    obtain ⟨G, g1, g2⟩ := restrict sI.heap fun b => decide (b ≠ ce.locals)
    have B2at : ∀ b o, B2.get? b = some o → b ≠ ce.locals ∧ B.get? b = some o := fun b o e => by
      by_cases q : b = ce.locals
      · rw [b2 b (by simp [q])] at e; cases e
      · rw [b1 b (by simp [q])] at e; exact ⟨q, e⟩
    have Gat : ∀ b o, G.get? b = some o → b ≠ ce.locals ∧ sI.heap.get? b = some o := fun b o e => by
      by_cases q : b = ce.locals
      · rw [g2 b (by simp [q])] at e; cases e
      · rw [g1 b (by simp [q])] at e; exact ⟨q, e⟩
    obtain ⟨oe, vs, T, oT, ts, he, hz, hd, hv1, hnT, hTe, hT, hdT, h3⟩ := k4
    have nae : a ≠ ce.locals := fun q => by
      rw [q, h1C] at he; cases he
      rw [hdC] at hd; cases hd
    have nTe : T ≠ ce.locals := fun q => by
      rw [q, h1C] at hT; cases hT
      rw [hdC] at hdT; cases hdT
    have held : HandSPX.HeldZ B2 (X.env :: X.outer) a (Zc cls d) X.env.locals h2 := by
      refine ⟨fun b o e => ?_, ?_, ?_, oe, vs, T, oT, ts, (keep a nae).trans he, hz, hd, hv1, ?_, hTe, (keep T nTe).trans hT, hdT, h3⟩
      · obtain ⟨q, e⟩ := B2at b o e
        exact (keep b q).trans (k1 b o e)
      · cases e : B2.get? a with
        | none => rfl
        | some o => have z := (B2at a o e).2; rw [k2] at z; cases z
      · have hk : ∀ L ∈ frs (X.env :: X.outer), B2.get? L = none := fun L hL => by
          cases e : B2.get? L with
          | none => rfl
          | some o =>
            obtain ⟨_, e⟩ := B2at L o e
            obtain ⟨hb, _⟩ := k3.mem hL
            rw [hb] at e; cases e
        have kk : ∀ {l : List PySem.Env}, h1.FunFrames B l → (∀ L ∈ frs l, L ≠ ce.locals) → h2.FunFrames B l := by
          intro l
          induction l with
          | nil => exact fun _ _ => trivial
          | cons env l ih =>
            intro hl hne
            obtain ⟨hk, ⟨L, o, hf, hb, ho, hd⟩, hr⟩ := hl
            exact ⟨hk, ⟨L, o, hf, hb, (keep L (hne L (List.mem_filterMap.mpr ⟨env, List.mem_cons_self, hf⟩))).trans ho, hd⟩, ih hr fun b hb => by
              obtain ⟨e, he, q⟩ := List.mem_filterMap.mp hb
              exact hne b (List.mem_filterMap.mpr ⟨e, List.mem_cons_of_mem _ he, q⟩)⟩
        exact funFrames_none (kk k3 fun L hL q => nstk (by rw [hs, ← q]; exact hL)) hk
      · cases e : B2.get? T with
        | none => rfl
        | some o => have z := (B2at T o e).2; rw [hnT] at z; cases z
    have IG : Inv X pins σ H' { sI with heap := G, toks := sI.toks } := I7.turned (t' := sI.toks) (it := ce.locals) (fun b o q e => by rw [g1 b (by simp [q])]; exact e) nC fC.2.1 fC.2.2.2.1 fC.2.2.2.2.1 fC.2.2.2.2.2
    have nbG : ∀ b o, G.get? b = some o → b ∉ frs X.stack → B2.get? b = some o := fun b o e hb => by
      obtain ⟨q, e⟩ := Gat b o e
      rw [b1 b (by simp [q])]
      exact nb b o e hb
    have upG : G.UpToSlots h2 := fun b o e hnf => by
      obtain ⟨q, e⟩ := Gat b o e
      obtain ⟨sl, e1⟩ := up b o e hnf
      obtain ⟨sl2, e2⟩ := up1 b _ e1 hnf
      exact ⟨sl2, (keep b q).trans e2⟩
    obtain ⟨q1, q2, q3, oe2, vs2, T2, oT2, ts2, he2, hz2, hd2, hv2, hr2⟩ := id held
    unfold PySem.passOn
    refine wpAny_bind (wpAny_field he2 hd2 hv2 ?_)
    rw [if_neg (show ¬ ((Value.ref T2 == Value.none) = true) from by simp)]
    have fin2 : wpAny (model X.prog X.w) X.A (setFlight (.ref a) ce.frame) (fun _ s4 => wpAny (model X.prog X.w) X.A (throw (.ref a) : PySem.Sem Value) (fun _ _ => False) (fun u s4 => XE X W u s4) s4) (fun u s4 => XE X W u s4) { s' with heap := h2 } := by
      rw [hcf, hf]
      refine HandSPX.setFlight_onZ held fun h4 hh4 up4 => wpAny_throw ?_
      exact ⟨a, B2, _, pins, σ, H', cls, d, rfl, IG, nbG, Heap.UpToSlots.trans upG up4, .inr (.inr (by rw [hs]; exact hh4)), na, os, ag, hW _ _ _ _ w⟩
    first
      | exact wpAny_bind (wpAny_pure (wpAny_bind fin2))
      | exact wpAny_bind fin2
  have eq : noteFrame (.ref a) ce = noteFrame (.ref a) X.env := by
    unfold noteFrame PySem.frameOf
    rw [hcf]
  rw [eq]
  rcases sky with ⟨hB, hn, hl, oe, vs, he, hz, hd, h1⟩ | fl | hh
  · exact HandSPX.look_newZ Zc.steady hfr hl hf he hB hn hd h1 hz fin
  · exact HandSPX.looks_onZ Zc.steady hfr hf fl fin
  · exact look_otherZ Zc.steady hfr hf (rawInt_ne hcl) hh fin
theorem lcX_core {Q : VK} {elt tg iter : Expr} {ifs : List Expr} {own : List (Str × Nat)} {pos pos' : Pos} {wi : TI} {g : TG} {tt : TT} {te : TE} {s : Shared}
    (hs : X.stack = X.env :: X.outer) (hf : X.env.frame = some X.env.locals) (tk : Takes X W) (hWb : ∀ cls d σ' H', Wb cls d σ' H' → W cls d σ H')
    (hc : X.calm = true) (hN : X.N.Nodup) (I : Inv X pins σ H s) (hi : PI X tg iter wi) (ok : BlkOk X.N X.env.scope scope own)
    (hg : ∀ (s : Shared) (H : Hp) (C : Addr) (cl : List (Str × Addr)) (fp : List Addr), PG (X.blk s H scope (compEnvC scope cl C X.env) fp) tg g) (ht : ∀ (s : Shared) (H : Hp) (C : Addr) (cl : List (Str × Addr)) (fp : List Addr), PTs (X.blk s H scope (compEnvC scope cl C X.env) fp) ifs tt)
    (he : ∀ (s : Shared) (H : Hp) (C : Addr) (cl : List (Str × Addr)) (fp : List Addr), PE (blkX X s H scope (compEnvC scope cl C X.env) fp Wb) elt te) (hsf : ∀ x, foldedSetIterable iter X.env x = pure x)
    (h : tLc wi g tt te (own.map (·.2)) σ H Q) :
    wpAny (model X.prog X.w) X.A (comprehension (.ListComp elt [⟨tg, iter, ifs, 0⟩] scope pos) scope X.env pos' (newList []) false (eval iter X.env) none) (EP X pins σ Q) X.xe s := by
  have hfree : ∀ y ∈ scope.names, y.2 = .free → ∃ c, X.env.cells.lookup y.1 = some c := fun y hy e => by
    rcases ok.free y hy e with k | k
    · exact I.ok.has _ (.inl k)
    · exact I.ok.has _ (.inr k)
  refine wpAny_mono (comp_freeX (E := fun u s4 => X.xe u s4) (Q := EP X pins σ Q) rfl hsf (closure_ok hfree) ok.kind (fun y hy e => by rw [ok.uniq y hy, e])
    (thn (hi.run pins s σ H _ I h) fun xv s1 hx => thn hx fun itv s2 h2 => ?_)) (fun _ _ z => z) fun _ _ z => z
  obtain ⟨it, fp, tn, J, H2, e, I2, T, st2, f2, q⟩ := h2
  subst e
  refine wpAny_newObj_type (newEnv_comp ?_) (by show 0 ≤ sizeLine; decide)
  generalize hD : s2.heap.objs.size = D
  have hDn : H2 D = none := I2.hok.fresh (Nat.le_of_eq hD)
  obtain ⟨Wd, ⟨m0, w0⟩, turn⟩ := q D hDn
  generalize hs3 : ({ s2 with heap := s2.heap.push { cls := .type "list", data := .seq ([] : List Value).toArray } } : Shared) = s3
  have I3 : Inv X pins σ (upd H2 D (.lst [])) s3 := by
    rw [← hs3]
    refine I2.laid (t' := s2.toks) (fun b o e => Heap.get?_push_of_some _ e) (Nat.le_of_eq hD) ⟨Nat.zero_le _, [], 0, .nil, ?_⟩
    rw [← hD]
    exact Heap.get?_push_size _ rfl
  have h3 : s3.heap = s2.heap.push { cls := .type "list", data := .seq ([] : List Value).toArray } := by rw [← hs3]
  have sz : ∀ b ∈ fp, b < s2.heap.objs.size := fun b hb => by
    obtain ⟨o, e, _⟩ := T.obj _ _ st2 b hb
    exact Heap.lt_size e
  have f3 : ∀ b ∈ fp, FpOk X pins (upd H2 D (.lst [])) b ∧ b < s3.heap.objs.size := fun b hb => by
    have hlt := sz b hb
    refine ⟨⟨?_, (f2 b hb).2⟩, by rw [h3, Heap.size_push]; exact Nat.lt_succ_of_lt hlt⟩
    rw [upd_ne (by rw [← hD]; exact Nat.ne_of_lt hlt)]
    exact (f2 b hb).1
  have st3 : tn 0 s3.heap := T.keep _ _ _ st2 fun b _ o e => by rw [h3]; exact Heap.get?_push_of_some _ e
  have I4 := block_start I3 ok hN f3
  have pg := hg s3 (upd H2 D (.lst [])) s3.heap.objs.size (cellsFrom (s3.heap.objs.size + 1) scope.names (cloFrom X.env.cells scope.names [])) fp
  have pt := ht s3 (upd H2 D (.lst [])) s3.heap.objs.size (cellsFrom (s3.heap.objs.size + 1) scope.names (cloFrom X.env.cells scope.names [])) fp
  have pe := he s3 (upd H2 D (.lst [])) s3.heap.objs.size (cellsFrom (s3.heap.objs.size + 1) scope.names (cloFrom X.env.cells scope.names [])) fp
  show codeAny _ _ (.compStart (.ListComp elt [⟨tg, iter, ifs, 0⟩] scope pos) 0 (.ref it) (.ref D) (compEnvC scope (cellsFrom (s3.heap.objs.size + 1) scope.names (cloFrom X.env.cells scope.names [])) s3.heap.objs.size X.env)) (cPostX (model X.prog X.w) X.A (fun u s4 => X.xe u s4) (EP X pins σ Q) (.ref D) (compEnvC scope (cellsFrom (s3.heap.objs.size + 1) scope.names (cloFrom X.env.cells scope.names [])) s3.heap.objs.size X.env)) { s3 with heap := pushCells (s3.heap.push { cls := .type "dict", data := .dict #[] }) scope.names }
  have nfp : ∀ b ∈ fp, (upd H2 D (.lst [])) b = none := fun b hb => (f3 b hb).1.1
  generalize hce : compEnvC scope (cellsFrom (s3.heap.objs.size + 1) scope.names (cloFrom X.env.cells scope.names [])) s3.heap.objs.size X.env = ce at I4 pg pt pe ⊢
  have cL : ce.locals = s3.heap.objs.size := by subst hce; rfl
  have cF : ce.frame = X.env.frame := by subst hce; rfl
  generalize hH3 : upd H2 D (.lst []) = H3 at I3 I4 pg pt pe w0 nfp f3
  generalize hs4 : ({ s3 with heap := pushCells (s3.heap.push { cls := .type "dict", data := .dict #[] }) scope.names } : Shared) = s4 at I4 ⊢
  have st4 : tn 0 s4.heap := T.keep _ _ _ st3 fun b _ o e => by rw [← hs4]; exact pushCells_keeps _ _ _ _ (Heap.get?_push_of_some _ e)
  have stat : ∀ {σ' : L2.St} {H' : Hp} {s' : Shared}, Inv (X.blk s3 H3 scope ce fp) [] σ' H' s' → (∀ b ∈ fp, H' b = none) → ∀ b ∈ fp, FpOk (X.blk s3 H3 scope ce fp) [] H' b := fun {σ' H' s'} I' hn b hb =>
    ⟨hn b hb, (I'.ok.exf b hb).1, I'.ok.exfs b hb, .inl hb, fun x c e => (I'.ok.exf b hb).2 x c e, fun p hp => absurd (show p ∈ ([] : List (Addr × PySem.Obj)) ++ [] from hp) (by simp)⟩
  have neL : ce.locals ≠ X.env.locals := by
    rw [cL]
    exact (I3.fpOk (H' := fun _ => none) (Nat.le_refl _) rfl).2.1
  have loop : codeAny (model X.prog X.w) X.A (.compLoop (.ListComp elt [⟨tg, iter, ifs, 0⟩] scope pos) 0 (.ref it) (.ref D) ce) (cPostX (model X.prog X.w) X.A (fun u s4 => X.xe u s4) (EP X pins σ Q) (.ref D) ce) s4 := by
    refine compLoop_any (fun n s' => ∃ i H', Inv (X.blk s3 H3 scope ce fp) [] (wipe σ (own.map (·.2))) H' s' ∧ tn i s'.heap ∧ (∀ b ∈ fp, H' b = none) ∧ Wd i n H') ?_ m0 ⟨0, H3, I4, st4, nfp, w0⟩
    rintro n s5 ⟨i, H5, I5, st5, n5, w5⟩
    rcases turn i n H5 w5 with ⟨stop, qq⟩ | ⟨go, Nx, hNx, step⟩
    · have td := T.done (X.blk s3 H3 scope ce fp) rfl rfl rfl hc i [] s5 _ H5 (fun _ _ => False) I5 (stat I5 n5) st5 stop
      refine thnF td fun r s6 ⟨hr, I6⟩ => ?_
      subst hr
      have I7 : Inv X pins σ H5 s6 := I3.call' (ch := fp) I6.os I6.base I6.hok I6.bare fun b hb => ⟨(f3 b hb).1.2.2.2.1, (f3 b hb).1.2.1, (f3 b hb).1.2.2.2.2.1, (f3 b hb).1.2.2.2.2.2⟩
      have nC : H5 s3.heap.objs.size = none := by
        have z : H5 ce.locals = none := I6.free
        rw [cL] at z
        exact z
      obtain ⟨m, hn, _⟩ := I6.loc
      have hn : s6.heap.Ns ce.locals m := hn
      refine ⟨m, hn, fun h'' sb => ?_⟩
      rw [cL] at sb
      obtain ⟨f0, f1, f2, f3, f4, f5⟩ := I3.fpOk (Nat.le_refl _) nC
      exact ⟨.ref D, H5, I7.turned (t' := s6.toks) (fun b o hb e => (sb.2 b hb).trans e) f0 f1 f3 f4 f5, rfl, qq⟩
    · have ti := T.item (X.blk s3 H3 scope ce fp) rfl rfl rfl hc i [] s5 _ H5 (fun _ _ => False) I5 (stat I5 n5) st5 go
      refine thnF ti fun r s6 ⟨u, hr, h6⟩ => ?_
      subst hr
      refine thnF h6 fun _ s7 ⟨x, H7, I7, r7, y7, st7, n7⟩ => ?_
      have I7' := I7.pinned (stat I7 n7) (T.obj _ _ st7)
      refine thnF (pg.run _ s7 _ H7 x u _ I7' r7 (step x H7 y7)) fun _ s8 ⟨σ8, H8, I8, hw8, q8⟩ => ?_
      refine thnF (pt.run _ s8 σ8 H8 _ I8 q8) fun b s9 ⟨H9, I9, q9⟩ => ?_
      have fin : ∀ {s' : Shared} {H' : Hp}, Inv (X.blk s3 H3 scope ce fp) ([] ++ pinsAt fp s7.heap) σ8 H' s' → Nx H' → ∃ m, m < n ∧ ∃ i H', Inv (X.blk s3 H3 scope ce fp) [] (wipe σ (own.map (·.2))) H' s' ∧ tn i s'.heap ∧ (∀ b ∈ fp, H' b = none) ∧ Wd i m H' := fun {s' H'} I' nx => by
        obtain ⟨m', hm, w'⟩ := hNx H' nx
        have pin' : ∀ b ∈ fp, ∀ o, s7.heap.get? b = some o → s'.heap.get? b = some o ∧ H' b = none := fun b hb o e =>
          let z := I'.pin (b, o) (List.mem_append_right _ (List.mem_append_right _ (mem_pinsAt hb e)))
          ⟨z.1, z.2.1⟩
        have hl : (wipe σ (own.map (·.2))).length = σ8.length := by rw [← hw8, wipe_length]
        refine ⟨m', hm, i + 1, H', (I'.unpinned (pins := [])).weak hl (fun j v e => ?_), T.keep _ _ _ st7 fun b hb o e => (pin' b hb o e).1, fun b hb => ?_, w'⟩
        · rw [← hw8] at e
          exact (wipe_some e).1
        · obtain ⟨o, e, _⟩ := T.obj _ _ st7 b hb
          exact (pin' b hb o e).2
      cases b with
      | false =>
        simp only [Bool.false_eq_true, if_false] at q9 ⊢
        exact fin I9 q9
      | true =>
        simp only [if_true] at q9 ⊢
        have run := pe.run _ s9 σ8 H9 _ (inv_xe I9) q9
        refine wpAny_mono run (fun z s10 ⟨yv, H10, I10, r10, acc, hD10, hz10, nx⟩ => ?_) fun u s10 hx => ?_
        · exact app_ok (X := X.blk s3 H3 scope ce fp) (inv_xe (x1 := fun _ _ => False) I10) hD10 hz10 r10 fun s11 I11 => fin I11 nx
        · have lv := XE.leaveBlk (E₁ := fun e s' => cPostX (model X.prog X.w) X.A (fun u s4 => X.xe u s4) (EP X pins σ Q) (.ref D) ce (.error e) s') (W := W) (Q := EP X pins σ Q) (acc := .ref D) hs hf I3 cF neL (fun b hb => (f3 b hb).1) (fun H' hn => by rw [cL] at hn ⊢; exact I3.fpOk (Nat.le_refl _) hn) hWb hx
          refine wpAny_mono lv (fun _ s11 hp => ?_) fun _ _ z => z
          obtain ⟨m, hn, hp⟩ := hp
          exact ⟨m, hn, fun h' sb => wpAny_mono (hp h' sb) (fun _ _ z => z) fun u s12 hx => tk u s12 hx⟩
  exact codeAny_compStart_list loop (T.self X.A 0 _ _ _ st4 loop)
theorem pe_lcX {elt tg iter : Expr} {ifs : List Expr} {own : List (Str × Nat)} {pos : Pos} {wi : TI} {g : TG} {tt : TT} {te : WX → TE} (hs : X.stack = X.env :: X.outer) (hf : X.env.frame = some X.env.locals) (tk : Takes X W) (hc : X.calm = true) (hN : X.N.Nodup) (hi : PI X tg iter wi) (ok : BlkOk X.N X.env.scope scope own)
    (hg : ∀ (s : Shared) (H : Hp) (C : Addr) (cl : List (Str × Addr)) (fp : List Addr), PG (X.blk s H scope (compEnvC scope cl C X.env) fp) tg g) (ht : ∀ (s : Shared) (H : Hp) (C : Addr) (cl : List (Str × Addr)) (fp : List Addr), PTs (X.blk s H scope (compEnvC scope cl C X.env) fp) ifs tt)
    (he : ∀ (Wb : WX) (s : Shared) (H : Hp) (C : Addr) (cl : List (Str × Addr)) (fp : List Addr), PE (blkX X s H scope (compEnvC scope cl C X.env) fp Wb) elt (te Wb)) (hsf : ∀ x, foldedSetIterable iter X.env x = pure x := by intro _; rfl) :
    PE X (.ListComp elt [⟨tg, iter, ifs, 0⟩] scope pos) (fun σ H Q => tLc wi g tt (te fun cls d _ H' => W cls d σ H') (own.map (·.2)) σ H Q) := by
  refine ⟨fun pins s σ H Q I h => ?_⟩
  rw [eval_ListComp]
  exact lcX_core (Wb := fun cls d _ H' => W cls d σ H') hs hf tk (fun _ _ _ _ z => z) hc hN I hi ok hg ht (he _) hsf h
end
end PD

/-! PFa: a list comprehension that an exception leaves: what it computes. -/
namespace PD
open PySem PySem.Spec PyProof.Rows L2 SX
section
variable {X : Cx} {G : Ga} {W : WX} {e : Expr} {t : TV} {pos : Pos} {put : Put} {T : Tg} {tg : Expr} {g : TG} {is : List Nat}
def compGoX (put : Put) (T : Tg) (cond : TV) (elt : EV) : List D → List D → Env → Stor → Out R
  | [], acc, _, st => .ok (.new acc) st
  | d :: ds, acc, env, st => match T d env with
    | none => .bad
    | some env1 => match cond env1 st with
      | .ok true st1 => match elt env1 st1 with
        | .ok r st2 => match put r st2 with
          | some (x, st3) => if acc.length < 1000000 then compGoX put T cond elt ds (acc ++ [x]) env st3 else .bad
          | none => .bad
        | .exc x s => .exc x s
        | .bad => .bad
      | .ok false st1 => compGoX put T cond elt ds acc env st1
      | _ => .bad
def eLcX (put : Put) (vs : List Nat) (it : IV) (T : Tg) (cond : TV) (elt : EV) : EV := fun env st => match it env st with
  | .ok ds st1 => compGoX put T cond elt ds [] (wipeE env vs) st1
  | .exc x s => .exc x s
  | .bad => .bad
theorem rd_lcX (hput : PutOk put) {vs : List Nat} {it : IV} {cond : TV} {elt : EV} (hK : G.K = X.K) (hT : TgR X.K g T is) (hv : ∀ i ∈ is, i ∈ vs) {σ : L2.St} {H : Hp} {Q : VK} (h : rd G W (eLcX put vs it T cond elt) σ H Q) : tLc (rdI G W it) g (rdT G W0 cond) (rd G (fun cls d _ H' => W cls d σ H') elt) vs σ H Q := by
  obtain ⟨Z, M, env, st, rs, p⟩ := h
  refine ⟨Z, M, env, st, rs, ?_⟩
  unfold eLcX at p
  cases ei : it env st with
  | bad => rw [ei] at p; exact p
  | exc x s => rw [ei] at p; exact p
  | ok ds st1 =>
    rw [ei] at p
    dsimp only at p
    intro J C Hs Ms Zs rs1 x1 src c1 stb D hD
    have hDm : ∀ a ∈ Ms, a ≠ D := fun a h q => rs1.mh a h (q ▸ hD)
    have p1 : EPost G W Zs Ms env σ Hs Q (compGoX put T cond elt ds [] (wipeE env vs) st1) := EPost.mono rs.mh x1 p
    let Inv (i : Nat) (H : Hp) : Prop := i ≤ ds.length ∧ ∃ Z M st acc accV, StR G.K G.mg Z M st H ∧ Ext Zs Ms Hs Z M H ∧ H D = some (.lst accV) ∧ Z D ∧ D ∉ M ∧ Reps G.K G.mg Z M H acc accV ∧ EPost G W Zs Ms env σ Hs Q (compGoX put T cond elt (ds.drop i) acc (wipeE env vs) st)
    have xD := Ext.alloc (Z := Zs) (M := Ms) (o := .lst []) rs1.mh hD
    refine ⟨fun i m H => m = ds.length - i ∧ Inv i H, ⟨ds.length, by simp, Nat.zero_le _, _, Ms, st1, [], [], (rs1.alloc hD).sto, xD, upd_same, .inr rfl, fun hm => hDm D hm rfl, rfl, p1⟩, ?_⟩
    rintro i m H2 ⟨rfl, hi2, Z2, M2, st2, acc, accV, sto2, x2, hA, zD, nD, rA, p2⟩
    have rs2 : RS G Z2 M2 env st2 σ H2 := rs1.step x2 sto2
    have c2 : C Z2 M2 H2 := stb _ _ _ _ _ _ rs1.mz rs1.mh c1 x2
    by_cases hlt : i < ds.length
    · have hd : ds[i]? = some ds[i] := List.getElem?_eq_getElem hlt
      have hdr : ds.drop i = ds[i] :: ds.drop (i + 1) := List.drop_eq_getElem_cons hlt
      rw [hdr] at p2
      obtain ⟨go, yld⟩ := src.go Z2 M2 H2 i _ c2 hd
      refine .inr ⟨go, Inv (i + 1), fun H' n => ⟨ds.length - (i + 1), by omega, rfl, n⟩, fun x H' y => ?_⟩
      obtain ⟨hh, rp⟩ := yld x H' y
      have rp := rp rs2.mz rs2.mh
      have rs3 : RS G Z2 M2 env st2 σ H' := by
        rcases hh with rfl | ⟨q, o, hq, rfl⟩
        · exact rs2
        · exact rs2.alloc0 hq
      have x3 : Ext Z2 M2 H2 Z2 M2 H' := by
        rcases hh with rfl | ⟨q, o, hq, rfl⟩
        · exact Ext.refl _ _ _
        · exact Ext.alloc0 rs2.mh hq
      unfold compGoX at p2
      split at p2
      · exact p2.elim
      · rename_i env3 et
        refine hT.ok G Z2 M2 (wipeE env vs) st2 (wipe σ vs) H' ds[i] x env3 _ hK (rs3.wipe vs) rp et fun σ' rs' hl ho => ⟨wipe_eq hl ho hv, Z2, M2, env3, st2, rs', ?_⟩
        cases ec : cond env3 st2 with
        | bad => rw [ec] at p2; exact p2.elim
        | exc x s => rw [ec] at p2; exact p2.elim
        | ok k st4 =>
          rw [ec] at p2
          intro H4 M4 Z4 rs4 x4
          have x24 := x3.trans rs2.mh x4
          have x04 := x2.trans rs1.mh x24
          cases k with
          | false =>
            rw [if_neg Bool.false_ne_true]
            exact ⟨hlt, Z4, M4, st4, acc, accV, rs4.sto, x04, x24.fr D _ hA (.inl nD), x24.z D zD, (fun z => (x24.mn D z).elim nD fun q => by rw [hA] at q; cases q), x24.reps rs2.mz rA, p2⟩
          | true =>
            rw [if_pos rfl]
            refine ⟨Z4, M4, env3, st4, rs4, ?_⟩
            dsimp only at p2
            cases el : elt env3 st4 with
            | bad => rw [el] at p2; exact p2.elim
            | exc x s =>
              rw [el] at p2
              intro c d H5 M5 Z5 rs5 x5 xr5
              have x05 := x04.trans rs1.mh x5
              exact p2 c d H5 M5 Z5 (rs1.step x05 rs5.sto) x05 xr5
            | ok r st5 =>
              rw [el] at p2
              dsimp only at p2
              intro v5 H5 M5 Z5 rs5 x5 w5
              cases ep : put r st5 with
              | none => rw [ep] at p2; exact p2.elim
              | some dd =>
                obtain ⟨d, st6⟩ := dd
                rw [ep] at p2
                dsimp only at p2
                obtain ⟨Z6, M6, rs6, x6, rd6⟩ := hput G Z4 M4 env3 st4 σ' H4 Z5 M5 st5 H5 r v5 d st6 rs4 rs5 x5 w5 ep
                split at p2
                · rename_i hz
                  have x26 := x24.trans rs2.mh x6
                  have x06 := x2.trans rs1.mh x26
                  have hA6 := x26.fr D _ hA (.inl nD)
                  have zD6 := x26.z D zD
                  have nD6 : D ∉ M6 := fun z => (x26.mn D z).elim nD fun q => by rw [hA] at q; cases q
                  have rA6 := x26.reps rs2.mz rA
                  refine ⟨accV, hA6, lim_lt (by rw [rA.length]; exact hz), ?_⟩
                  have hD0 : G.H0 D = none := by
                    cases q : G.H0 D with
                    | none => rfl
                    | some o => exact absurd hD (rs1.h0 D (by rw [q]; simp))
                  have rs7 : RS G Z6 M6 env st6 σ H5 := rs2.step x26 rs6.sto
                  have rs8 := rs7.mutX (ws := accV ++ [v5]) zD6 nD6 hD0 hA6 fun j es' hj q => by
                    obtain ⟨v', h1, h2⟩ := rs1.slot j _ hj
                    obtain ⟨p', vs', rfl, _, _, _, hp', _⟩ := h2
                    rw [h1] at q
                    cases q
                    rw [hD] at hp'
                    cases hp'
                  have mono : ∀ {ds vs}, Reps G.K G.mg Z6 M6 H5 ds vs → Reps G.K G.mg Z6 M6 (upd H5 D (.lst (accV ++ [v5]))) ds vs := fun h => Reps.mono (fun _ _ h => h) (SExt.mut (M := M6) zD6 hA6).f (fun _ _ z => z) _ _ h
                  refine ⟨hlt, Z6, M6, st6, acc ++ [d], accV ++ [v5], rs8.sto, ⟨x06.m, x06.mn, fun b o eb ib => ?_, x06.z, x06.n, fun a h => ?_⟩, upd_same, zD6, nD6, mono (rA6.append (.one rd6)), p2⟩
                  · rw [upd_ne (ne_of_none eb hD)]
                    exact x06.fr b o eb ib
                  · rw [upd_ne (fun q => h (by rw [q]; exact hD))]
                    exact x06.h a h
                · exact p2.elim
    · have e : i = ds.length := by omega
      subst e
      rw [List.drop_length] at p2
      exact .inl ⟨src.stop _ _ _ c2, p2 _ H2 M2 Z2 rs2 x2 ⟨D, accV, rfl, hD, zD, nD, hA, rA⟩⟩
theorem i_lcX (hput : PutOk put) {it : IV} {cond : TV} {elt : EV} {iter : Expr} {ifs : List Expr} {scope : Scope} {own : List (Str × Nat)} (hs : X.stack = X.env :: X.outer) (hf : X.env.frame = some X.env.locals) (tk : Takes X W) (hc : X.calm = true) (hN : X.N.Nodup) (hK : G.K = X.K) (hT : TgR X.K g T is) (hv : ∀ i ∈ is, i ∈ own.map (·.2)) (hi : PI X tg iter (rdI G W it)) (ok : BlkOk X.N X.env.scope scope own)
    (hg : ∀ (s : Shared) (H : Hp) (C : Addr) (cl : List (Str × Addr)) (fp : List Addr), PG (X.blk s H scope (compEnvC scope cl C X.env) fp) tg g)
    (ht : ∀ (s : Shared) (H : Hp) (C : Addr) (cl : List (Str × Addr)) (fp : List Addr), PTs (X.blk s H scope (compEnvC scope cl C X.env) fp) ifs (rdT G W0 cond))
    (he : ∀ (Wb : WX) (s : Shared) (H : Hp) (C : Addr) (cl : List (Str × Addr)) (fp : List Addr), PE (blkX X s H scope (compEnvC scope cl C X.env) fp Wb) e (rd G Wb elt)) (hsf : ∀ x, foldedSetIterable iter X.env x = pure x := by intro _; rfl) :
    PE X (.ListComp e [⟨tg, iter, ifs, 0⟩] scope pos) (rd G W (eLcX put (own.map (·.2)) it T cond elt)) := (pe_lcX (te := fun Wb => rd G Wb elt) hs hf tk hc hN hi ok hg ht he hsf).imp fun σ H Q h => rd_lcX hput hK hT hv h
end
section
variable {P : List D → Stor → Prop}
theorem wE_compX {put : Put} {T : Tg} {t : TV} {a : EV} {ds : List D} {acc0 : List D} {env : Env} {st : Stor} {PR : R → Stor → Prop} {Q : Xc → Stor → Prop} (I : Nat → List D → Stor → Prop) (h0 : I 0 acc0 st)
    (hs : ∀ i d acc st, ds[i]? = some d → I i acc st → ∃ env1, T d env = some env1 ∧ wE (t env1 st) (fun k st1 => if k = true then wE (a env1 st1) (fun r st2 => match put r st2 with | some (x, st3) => acc.length < 1000000 ∧ I (i + 1) (acc ++ [x]) st3 | none => False) Q else I (i + 1) acc st1) (fun _ _ => False))
    (hd : ∀ acc st, I ds.length acc st → PR (.new acc) st) : wE (compGoX put T t a ds acc0 env st) PR Q := by
  have key : ∀ (n i : Nat) (acc : List D) (st : Stor), n = ds.length - i → i ≤ ds.length → I i acc st → wE (compGoX put T t a (ds.drop i) acc env st) PR Q := by
    intro n
    induction n with
    | zero =>
      intro i acc st e hi h
      have : i = ds.length := by omega
      subst this
      rw [List.drop_length]
      exact hd acc st h
    | succ n ih =>
      intro i acc st e hi h
      have hlt : i < ds.length := by omega
      rw [List.drop_eq_getElem_cons hlt]
      obtain ⟨env1, e1, w⟩ := hs i _ acc st (List.getElem?_eq_getElem hlt) h
      unfold compGoX
      rw [e1]
      dsimp only
      cases et : t env1 st with
      | bad => rw [et] at w; exact w.elim
      | exc x s => rw [et] at w; exact w.elim
      | ok k st1 =>
        rw [et] at w
        have w : if k = true then wE (a env1 st1) (fun r st2 => match put r st2 with | some (x, st3) => acc.length < 1000000 ∧ I (i + 1) (acc ++ [x]) st3 | none => False) Q else I (i + 1) acc st1 := w
        cases k with
        | false =>
          rw [if_neg Bool.false_ne_true] at w
          exact ih (i + 1) acc st1 (by omega) (by omega) w
        | true =>
          rw [if_pos rfl] at w
          dsimp only
          cases ea : a env1 st1 with
          | bad => rw [ea] at w; exact w.elim
          | exc x s => rw [ea] at w; exact w
          | ok r st2 =>
            rw [ea] at w
            have w : (match put r st2 with | some (x, st3) => acc.length < 1000000 ∧ I (i + 1) (acc ++ [x]) st3 | none => False) := w
            dsimp only
            cases ep : put r st2 with
            | none => rw [ep] at w; exact w.elim
            | some dd =>
              obtain ⟨x, st3⟩ := dd
              rw [ep] at w
              dsimp only at w ⊢
              rw [if_pos w.1]
              exact ih (i + 1) _ st3 (by omega) (by omega) w.2
  have := key _ 0 acc0 st rfl (Nat.zero_le _) h0
  rwa [List.drop_zero] at this
end
section
variable {env : Env} {st : Stor} {PR : R → Stor → Prop} {Q : Xc → Stor → Prop} {put : Put} {T : Tg} {cond : TV} {elt : EV}
theorem r_lcX {vs : List Nat} {it : IV} (x : wE (it env st) (fun ds st1 => wE (compGoX put T cond elt ds [] (wipeE env vs) st1) PR Q) Q) : wE (eLcX put vs it T cond elt env st) PR Q := by
  unfold eLcX
  cases e : it env st with
  | bad => rw [e] at x; exact x
  | exc y s => rw [e] at x; exact x
  | ok ds st1 => rw [e] at x; exact x
end
end PD

/-! PFb: l.index(x), l.count(x), flat items. -/
namespace PD
open PySem PySem.Spec PyProof.Rows L2 SX
section
variable {X : Cx}
def rCountV (K : PySem.W.Frag) : V → List V → Hp → VK → Prop := fun x xs H Q => ∃ (a : Addr) (ys : List V) (y : V), x = V.ref a ∧ xs = [y] ∧ SqL K H a ys ∧ flatV y = true ∧ ys.all flatV = true ∧ Q (.int (ys.countP fun z => eqV z y : Nat)) H
theorem count_eqU {x : V} : ∀ {xs : List V} {us : List Value}, Vals xs us → xs.all flatV = true → us.countP (eqU x) = xs.countP fun y => eqV y x
  | _, _, .nil, _ => rfl
  | y :: xs, u :: us, .cons r t, f => by
    rw [List.all_cons, Bool.and_eq_true] at f
    rw [List.countP_cons, List.countP_cons, count_eqU t f.2, eqU_of r f.1]
theorem mt_countV : MtR X "list.count" (rCountV X.K) := by
  intro pins s σ H x xs v us Q I rx rxs h
  obtain ⟨a, ys, y, rfl, rfl, hs, fy, fys, q⟩ := h
  cases rx
  cases rxs with
  | cons ry rt =>
    rename_i uy ut
    cases rt
    obtain ⟨its, rv, ⟨⟨cls, dd, data, sl⟩, n, ho, hc, hdn, hd⟩, hlen⟩ := I.list hs
    simp only at hc hd
    subst hc hd
    refine call_meets PySem.F.slot_list_count ⟨_, ho, rfl⟩ PySem.F.entry_list_count (PySem.F.args_list_count_2 _ _)
      (SeqAt.list_countAt a its.toArray n dd sl uy (eqU y)) ⟨ho, fun u' hu' => mem_eqAt ry fy rv fys u' (by simpa using hu'), ?_⟩
    have ec : its.toArray.toList.countP (eqU y) = ys.countP fun z => eqV z y := count_eqU rv fys
    refine ⟨.int (ys.countP fun z => eqV z y : Nat), H, I.tok _, ⟨s.toks, ?_⟩, q⟩
    show Value.int ((its.toArray.toList.countP (eqU y) : Nat) : Int) s.toks = Value.int ((ys.countP fun z => eqV z y : Nat) : Int) s.toks
    rw [ec]
end
def D.flat : D → Bool
  | .non => true
  | .bl _ => true
  | .int _ => true
  | .str _ => true
  | _ => false
def fLIdx (ds : List D) (r : R) (st : Stor) : Out R := match r with
  | .dat d => if d.flat && ds.all D.flat then (match ds.findIdx? fun z => D.eqv z d with
    | some j => .ok (.dat (.int j)) st
    | none => .bad) else .bad
  | _ => .bad
def fLCnt (ds : List D) (r : R) (st : Stor) : Out R := match r with
  | .dat d => if d.flat && ds.all D.flat then .ok (.dat (.int (ds.countP fun z => D.eqv z d : Nat))) st else .bad
  | _ => .bad
/-- a method of a list, one argument -/
def eMt1 (f : List D → R → Stor → Out R) (a b : EV) : EV := fun env st => match a env st with
  | .ok r1 st1 => (match lstOf st1 r1 with
    | some _ => (match b env st1 with
      | .ok r2 st2 => (match lstOf st2 r1 with
        | some ds => f ds r2 st2
        | none => .bad)
      | .exc x s => .exc x s
      | .bad => .bad)
    | none => .bad)
  | .exc x s => .exc x s
  | .bad => .bad
section
variable {X : Cx} {G : Ga} {W : WX} {e e2 e3 : Expr} {es : List Expr} {a b c : EV} {as : AV} {t : TV} {pos : Pos} {s : SVm}
theorem flat_rep {K : PySem.W.Frag} {mg : Str → Option Value} {Z : Addr → Prop} {M : List Addr} {H : Hp} {d : D} {v : V} (h : Rep K mg Z M H d v) (f : d.flat = true) : flatV v = true ∧ ∀ {d2 : D} {v2 : V}, Rep K mg Z M H d2 v2 → d2.flat = true → eqV v v2 = D.eqv d d2 := by
  cases d with
  | non =>
    have e : v = .non := h
    subst e
    refine ⟨rfl, fun {d2 v2} h2 f2 => ?_⟩
    cases d2 with
    | non => have e : v2 = .non := h2; subst e; rfl
    | bl b => have e : v2 = .bl b := h2; subst e; rfl
    | int b => have e : v2 = .int b := h2; subst e; rfl
    | str b => have e : v2 = .str b := h2; subst e; rfl
    | _ => cases f2
  | bl x =>
    have e : v = .bl x := h
    subst e
    refine ⟨rfl, fun {d2 v2} h2 f2 => ?_⟩
    cases d2 with
    | non => have e : v2 = .non := h2; subst e; rfl
    | bl b => have e : v2 = .bl b := h2; subst e; rfl
    | int b => have e : v2 = .int b := h2; subst e; rfl
    | str b => have e : v2 = .str b := h2; subst e; rfl
    | _ => cases f2
  | int x =>
    have e : v = .int x := h
    subst e
    refine ⟨rfl, fun {d2 v2} h2 f2 => ?_⟩
    cases d2 with
    | non => have e : v2 = .non := h2; subst e; rfl
    | bl b => have e : v2 = .bl b := h2; subst e; rfl
    | int b => have e : v2 = .int b := h2; subst e; rfl
    | str b => have e : v2 = .str b := h2; subst e; rfl
    | _ => cases f2
  | str x =>
    have e : v = .str x := h
    subst e
    refine ⟨rfl, fun {d2 v2} h2 f2 => ?_⟩
    cases d2 with
    | non => have e : v2 = .non := h2; subst e; rfl
    | bl b => have e : v2 = .bl b := h2; subst e; rfl
    | int b => have e : v2 = .int b := h2; subst e; rfl
    | str b => have e : v2 = .str b := h2; subst e; rfl
    | _ => cases f2
  | _ => cases f
theorem flats_rep {K : PySem.W.Frag} {mg : Str → Option Value} {Z : Addr → Prop} {M : List Addr} {H : Hp} : ∀ {ds : List D} {vs : List V}, Reps K mg Z M H ds vs → ds.all D.flat = true → vs.all flatV = true
  | [], _, h, _ => by rw [show _ = [] from h]; rfl
  | d :: ds, _, ⟨v, r, e, h, t⟩, f => by
    subst e
    rw [List.all_cons, Bool.and_eq_true] at f
    rw [List.all_cons, (flat_rep h f.1).1, flats_rep t f.2]; rfl
theorem count_rep {K : PySem.W.Frag} {mg : Str → Option Value} {Z : Addr → Prop} {M : List Addr} {H : Hp} {d : D} {v : V} (hd : Rep K mg Z M H d v) (fd : d.flat = true) : ∀ {ds : List D} {vs : List V}, Reps K mg Z M H ds vs → ds.all D.flat = true → (vs.countP fun z => eqV z v) = ds.countP fun z => D.eqv z d
  | [], _, h, _ => by rw [show _ = [] from h]; rfl
  | d :: ds, _, ⟨v, r, e, h, t⟩, f => by
    subst e
    rw [List.all_cons, Bool.and_eq_true] at f
    rw [List.countP_cons, List.countP_cons, count_rep hd fd t f.2, (flat_rep h f.1).2 hd fd]
/-- the reading of a list's method -/
theorem rd_mt1 {f : List D → R → Stor → Out R} {r : V → List V → Hp → VK → Prop} (hf : ∀ B Z M env st σ H Q ds r2 p vs v2, RS G Z M env st σ H → H p = some (.lst vs) → Reps G.K G.mg Z M H ds vs → VR G B Z M H r2 v2 → EPost G W Z M env σ H Q (f ds r2 st) → r (.ref p) [v2] H Q) {σ : L2.St} {H : Hp} {Q : VK} (h : rd G W (eMt1 f a b) σ H Q) : tBM X.K "list" r (rd G W a) (tCons (rd G W b) tNil) σ H Q := by
  obtain ⟨Z, M, env, st, rs, p⟩ := h
  refine ⟨Z, M, env, st, rs, ?_⟩
  unfold eMt1 at p
  cases ea : a env st with
  | bad => rw [ea] at p; exact p
  | exc x s => rw [ea] at p; exact p
  | ok r1 st1 =>
    rw [ea] at p
    dsimp only at p
    intro v1 H1 M1 Z1 rs1 e1 w1
    split at p
    · rename_i ds0 el0
      obtain ⟨q, us, rfl, hq, _⟩ := lst_rel rs1 w1 el0
      refine ⟨.inl ⟨rfl, us, SqL.of hq⟩, Z1, M1, env, st1, rs1, ?_⟩
      cases eb : b env st1 with
      | bad => rw [eb] at p; exact p
      | exc x s => rw [eb] at p; exact fun c d H' M' Z' rs' e' => p c d H' M' Z' rs' (e1.trans rs.mh e')
      | ok r2 st2 =>
        rw [eb] at p
        dsimp only at p
        intro v2 H2 M2 Z2 rs2 e2 w2
        split at p
        · rename_i ds el
          obtain ⟨q', vs, e', hq', hr⟩ := lst_rel rs2 (w1.ext rs1.mz e2) el
          cases e'
          exact hf H1 Z2 M2 env st2 σ H2 Q ds r2 q vs v2 rs2 hq' hr w2 (EPost.mono rs.mh (e1.trans rs.mh e2) p)
        · exact p.elim
    · exact p.elim
theorem i_lcount {o : Expr} {apos cpos : Pos} (ho : PE X o (rd G W a)) (he : PE X e (rd G W b))
    (hbase : attributeBase o "count" X.env (eval o X.env) = eval o X.env := by rfl)
    (hfew : ((backTo cpos (starEach [e] X.env)).all (fun x => !x.1) && (backToKw cpos (keywordEach [] X.env)).all (fun x => x.1.isSome)
      && decide ([e].length + ([] : List Keyword).length + (if ([] : List Keyword).isEmpty then 0 else 1) < 30)) = true := by rfl)
    (hline : (apos.endLine == cpos.line) = true := by rfl) (hs : starEach [e] X.env = (false, eval e X.env) :: starEach [] X.env := by rfl) (hplain : (backTo cpos (starEach [] X.env)).any (·.1) = false := by rfl) :
    PE X (.Call (.Attribute o "count" apos) [e] [] cpos) (rd G W (eMt1 fLCnt a b)) :=
  (pe_bm PySem.F.plainAttrs_list PySem.F.slot_list_count PySem.F.type_list_count mt_countV ho (pa_cons he pa_nil hs) hbase hfew hline hs hplain).imp fun σ H Q h =>
    rd_mt1 (fun B Z M env st σ H Q ds r2 p vs v2 rs hp hr w2 q => by
      unfold fLCnt at q
      split at q
      · rename_i d
        split at q
        · rename_i hfl
          rw [Bool.and_eq_true] at hfl
          have wd : Rep G.K G.mg Z M H d v2 := w2
          refine ⟨p, vs, v2, rfl, rfl, SqL.of hp, (flat_rep wd hfl.1).1, flats_rep hr hfl.2, ?_⟩
          rw [count_rep wd hfl.1 hr hfl.2]
          exact ans_dat rs q rfl
        · exact q.elim
      · exact q.elim) h
theorem i_lindex {o : Expr} {apos cpos : Pos} (ho : PE X o (rd G W a)) (he : PE X e (rd G W b))
    (hbase : attributeBase o "index" X.env (eval o X.env) = eval o X.env := by rfl)
    (hfew : ((backTo cpos (starEach [e] X.env)).all (fun x => !x.1) && (backToKw cpos (keywordEach [] X.env)).all (fun x => x.1.isSome)
      && decide ([e].length + ([] : List Keyword).length + (if ([] : List Keyword).isEmpty then 0 else 1) < 30)) = true := by rfl)
    (hline : (apos.endLine == cpos.line) = true := by rfl) (hs : starEach [e] X.env = (false, eval e X.env) :: starEach [] X.env := by rfl) (hplain : (backTo cpos (starEach [] X.env)).any (·.1) = false := by rfl) :
    PE X (.Call (.Attribute o "index" apos) [e] [] cpos) (rd G W (eMt1 fLIdx a b)) :=
  (pe_bm PySem.F.plainAttrs_list PySem.F.slot_list_index PySem.F.type_list_index mt_index ho (pa_cons he pa_nil hs) hbase hfew hline hs hplain).imp fun σ H Q h =>
    rd_mt1 (fun B Z M env st σ H Q ds r2 p vs v2 rs hp hr w2 q => by
      unfold fLIdx at q
      split at q
      · rename_i d
        split at q
        · rename_i hfl
          rw [Bool.and_eq_true] at hfl
          have wd : Rep G.K G.mg Z M H d v2 := w2
          split at q
          · rename_i j ej
            rw [List.findIdx?_eq_some_iff_getElem] at ej
            obtain ⟨hj, h1, h2⟩ := ej
            obtain ⟨v, hv, rv⟩ := hr.get (List.getElem?_eq_getElem hj)
            have fl : ∀ (i : Nat) (hi : i < ds.length), ds[i].flat = true := fun i hi => List.all_eq_true.mp hfl.2 _ (List.getElem_mem hi)
            refine ⟨p, vs, v2, j, v, rfl, rfl, SqL.of hp, (flat_rep wd hfl.1).1, flats_rep hr hfl.2, hv, ?_, fun m z hm hz => ?_, ans_dat rs q rfl⟩
            · rw [(flat_rep rv (fl j hj)).2 wd hfl.1]; exact h1
            · have hml : m < ds.length := by omega
              obtain ⟨u, hu, ru⟩ := hr.get (List.getElem?_eq_getElem hml)
              rw [hu] at hz
              cases hz
              rw [(flat_rep ru (fl m hml)).2 wd hfl.1]
              have := h2 m hm
              simpa using this
          · exact q.elim
        · exact q.elim
      · exact q.elim) h
end
section
variable {env : Env} {st : Stor} {PR : R → Stor → Prop} {Q : Xc → Stor → Prop} {a b : EV} {f : List D → R → Stor → Out R}
theorem r_mt1 (x : wE (a env st) (fun r1 st1 => (∃ ds0, lstOf st1 r1 = some ds0) ∧ wE (b env st1) (fun r2 st2 => ∃ ds, lstOf st2 r1 = some ds ∧ wE (f ds r2 st2) PR Q) Q) Q) : wE (eMt1 f a b env st) PR Q := by
  unfold eMt1
  cases e : a env st with
  | bad => rw [e] at x; exact x
  | exc y s => rw [e] at x; exact x
  | ok r1 st1 =>
    rw [e] at x
    obtain ⟨⟨ds0, e0⟩, x⟩ := x
    dsimp only
    rw [e0]
    dsimp only
    cases e1 : b env st1 with
    | bad => rw [e1] at x; exact x
    | exc y s => rw [e1] at x; exact x
    | ok r2 st2 =>
      rw [e1] at x
      obtain ⟨ds, e2, x⟩ := x
      dsimp only
      rw [e2]
      exact x
theorem r_lcnt {ds : List D} {d : D} (h : (d.flat && ds.all D.flat) = true) {n : Nat} (hn : (ds.countP fun z => D.eqv z d) = n) (x : PR (.dat (.int n)) st) : wE (fLCnt ds (.dat d) st) PR Q := by
  unfold fLCnt; dsimp only; rw [if_pos h, hn]; exact x
theorem r_lidx {ds : List D} {d : D} (h : (d.flat && ds.all D.flat) = true) {j : Nat} (hj : (ds.findIdx? fun z => D.eqv z d) = some j) (x : PR (.dat (.int j)) st) : wE (fLIdx ds (.dat d) st) PR Q := by
  unfold fLIdx; dsimp only; rw [if_pos h, hj]; exact x
end
end PD

/-! PFc: == where an exception is handled; tests of a dict's keys. -/
namespace PD
open PySem PySem.Spec PyProof.Rows L2 SX
section
variable {X : Cx} {G : Ga} {W : WX} {e e2 e3 : Expr} {es : List Expr} {a b c : EV} {as : AV} {t : TV} {pos : Pos} {s : SVm}
theorem i_eqU (hu : X.A.units + 64 < cLine) (hK : G.K = X.K) (ha : PE X e (rd G W a)) (hb : PE X e2 (rd G W b)) : PE X (.Compare e [.Eq] [e2] pos) (rd G W (eBin (fEqB false) a b)) := i_cmp (op_eqD hu) (o_eq hK) ha hb (nomark _)
theorem i_neU (hu : X.A.units + 64 < cLine) (hK : G.K = X.K) (ha : PE X e (rd G W a)) (hb : PE X e2 (rd G W b)) : PE X (.Compare e [.NotEq] [e2] pos) (rd G W (eBin (fEqB true) a b)) := i_cmp (op_neD hu) (o_ne hK) ha hb (nomark _)
theorem t_eqU (hu : X.A.units + 64 < cLine) (hK : G.K = X.K) (ha : PE X e (rd G W a)) (hb : PE X e2 (rd G W b)) : PT X (.Compare e [.Eq] [e2] pos) (rdT G W (tVal (eBin (fEqB false) a b))) := t_cmp (op_eqD hu) (o_eq hK) ha hb (nomark _)
theorem t_neU (hu : X.A.units + 64 < cLine) (hK : G.K = X.K) (ha : PE X e (rd G W a)) (hb : PE X e2 (rd G W b)) : PT X (.Compare e [.NotEq] [e2] pos) (rdT G W (tVal (eBin (fEqB true) a b))) := t_cmp (op_neD hu) (o_ne hK) ha hb (nomark _)
/-- name = value; a new list is changed by nobody from now on -/
def sSetF (i : Nat) (a : EV) : SVm := fun env st => match a env st with
  | .ok r st1 => (match putF r st1 with
    | some (d, st2) => .nx (env.set i (some (.dat d))) st2
    | none => .bad)
  | .exc x s => .exc x env s
  | .bad => .bad
theorem s_setF (i : Nat) {x : Str} {pos' : Pos} (ha : PE X e (rd G W a)) (hN : X.N.Nodup) (hi : X.N[i]? = some x := by rfl) (hx : Loc X.env.scope x := by first | exact .inl rfl | exact .inr rfl) (hs : swapsWith e (some (.Name x pos')) pos.line X.env = pure false := by rfl)
    (hf : X.fn x = true ∨ X.env.scope.names.lookup x = some .local := by first | exact .inl rfl | exact .inr rfl) : PS X (.Assign [.Name x pos'] e pos) (rdS G W (sSetF i a)) := (ps_set hN hi hx ha hs hf).imp fun N σ H ⟨Z, M, env, st, rs, p⟩ => by
  refine ⟨Z, M, env, st, rs, ?_⟩
  unfold sSetF at p
  cases ea : a env st with
  | bad => rw [ea] at p; exact p
  | exc x s => rw [ea] at p; exact fun c d H' M' Z' rs' e' => p c d σ H' M' Z' rs' (e'.s rs.mz)
  | ok r st1 =>
    rw [ea] at p
    dsimp only at p
    intro v H1 M1 Z1 rs1 e1 w1
    cases ep : putF r st1 with
    | none => rw [ep] at p; exact p.elim
    | some dd =>
      obtain ⟨d, st2⟩ := dd
      rw [ep] at p
      dsimp only at p
      obtain ⟨Z2, M2, rs2, x2, rd⟩ := putF_ok G Z M env st σ H Z1 M1 st1 H1 r v d st2 rs rs1 e1 w1 ep
      exact p Z2 M2 _ H1 (rs2.put (sv := .dat d) rd (fun _ q => by cases q)) (x2.s rs.mz)
end
section
variable {env : Env} {st : Stor} {a : EV} {N : WS}
theorem r_setF {i : Nat} (x : wE (a env st) (fun r st1 => ∃ d st2, putF r st1 = some (d, st2) ∧ N.nx (env.set i (some (.dat d))) st2) (fun x st1 => N.xc x env st1)) : wS (sSetF i a env st) N := by
  unfold sSetF
  cases e : a env st with
  | bad => rw [e] at x; exact x
  | exc y s => rw [e] at x; exact x
  | ok r st1 =>
    rw [e] at x
    obtain ⟨d, st2, h, x⟩ := x
    dsimp only
    rw [h]
    exact x
end
end PD

/-! PFd: list(reversed(l)), l a list. -/
namespace PD
open PySem PySem.Spec PyProof.Rows L2 SX RT
section
variable {prog : Program} {w : World} {A : Around} {E : Value → Shared → Prop} {s : Shared} {R : Result → Shared → Prop}
theorem extend_rev {it l : Addr} {items : Array Value} (S : Addr) (res : Value) (c₀ : Nat) (hh : A.handled = none) (hit : s.heap.IsRevIter it l ((items.size : Int) - 1)) (hl : s.heap.IsList l items) (hne : l ≠ it) (hn : items.size ≤ sizeLine) (hSi : S ≠ it) (hSl : S ≠ l)
    (hS : s.heap.get? S = some { cls := .type "list", data := .seq #[] c₀ })
    (hR : ∀ (h' : Heap) (tk : Nat) (acc : Array Value) (c' : Nat), (∀ b o, b ≠ it → b ≠ S → s.heap.get? b = some o → h'.get? b = some o) → h'.get? S = some { cls := .type "list", dict := none, data := .seq acc c', slots := #[] } → ItemsOf (fun i v => items[items.size - 1 - i]? = some v) acc items.size → R (.ok (.ret res)) { s with heap := h', toks := tk }) :
    wpAny (model prog w) A.in1 (Builtin.List.listExtendWith (.ref S) (.ref it) res)
      (fun fin s' => match fin with | .done f => R (.ok f) s' | .again c' => c'.quiet = true ∧ codeAny (model prog w) A c' R s') (fun e s' => R (.error e) s') s := by
  have W := (Walks.listRev (prog := prog) (w := w) (A := A.in1) hh it l hne items).toS
  have hSf : S ∉ [it, l] := by simp only [List.mem_cons, List.not_mem_nil, or_false, not_or]; exact ⟨hSi, hSl⟩
  have h1 : Builtin.List.listSameRef (.ref S) (.ref it) = false := by simp [Builtin.List.listSameRef, hSi]
  have hT : s.TypeIs (.ref it) "list_reverseiterator" := hit.typeIs
  unfold Builtin.List.listExtendWith
  refine wpAny_bind (wpAny_typeOf hT ?_)
  rw [if_neg (by rw [h1]; decide)]
  refine wpAny_bind (wpAny_pyIter_revIter hit ?_)
  refine wpAny_bind (wpAny_holding ?_)
  unfold Builtin.List.listLengthHint
  refine wpAny_bind (wpAny_specialOf hT nolen_lri ?_)
  show wpAny _ A.in1 (specialOf (Value.ref it) (Str.ofString "__length_hint__") >>= _) _ _ _
  refine wpAny_bind (wpAny_specialOf hT hint_lri ?_)
  generalize hid : ("list_reverseiterator.__length_hint__" : String) = id0
  wp_delta
  rw [show splitId id0 = some ("list_reverseiterator", "__length_hint__") from by subst hid; decide +kernel]
  subst hid
  refine wpAny_bind (wpAny_isInstance (b := true) hT (by rw [isSubtype_type]; kernel_rfl) ?_)
  refine wpAny_pure ?_
  rw [if_neg (by decide)]
  have e0 : ((items.size : Nat) : Int) - 1 - ((0 : Nat) : Int) = (items.size : Int) - 1 := by omega
  refine wpAny_pure ⟨plainId_quiet F.plain_extend_loop _, codeAny_extend_loopS W hn _ hSf _ items.size 0 _ _ _ rfl (Nat.zero_le _) ⟨Nat.zero_le _, by rw [e0]; exact hit, hl⟩ hS (ItemsOf.nil _) fun s' acc' c' hm hS' hacc => ?_⟩
  rw [Moved.eq_with hm]
  refine hR s'.heap s'.toks acc' c' (fun b o hb hbS e => hm.heap b o (fun hmem => ?_) e) hS' hacc
  rcases List.mem_cons.mp hmem with e' | hmem
  · exact hbS e'
  · exact hb (List.mem_singleton.mp hmem)
theorem init_rev {it l : Addr} {items : Array Value} (S : Addr) (hh : A.handled = none) (hit : s.heap.IsRevIter it l ((items.size : Int) - 1)) (hl : s.heap.IsList l items) (hne : l ≠ it) (hn : items.size ≤ sizeLine) (hSi : S ≠ it) (hSl : S ≠ l)
    (hS : s.heap.get? S = some { cls := .type "list", data := .seq #[] })
    (hR : ∀ (h' : Heap) (tk : Nat) (acc : Array Value) (c' : Nat), (∀ b o, b ≠ it → b ≠ S → s.heap.get? b = some o → h'.get? b = some o) → h'.get? S = some { cls := .type "list", dict := none, data := .seq acc c', slots := #[] } → ItemsOf (fun i v => items[items.size - 1 - i]? = some v) acc items.size → R (.ok (.ret .none)) { s with heap := h', toks := tk }) :
    wpAny (model prog w) A.in1 (Builtin.«list.__init__» ⟨[.ref S, .ref it], []⟩)
      (fun fin s' => match fin with | .done f => R (.ok f) s' | .again c' => c'.quiet = true ∧ codeAny (model prog w) A c' R s') (fun e s' => R (.error e) s') s := by
  show wpAny _ A.in1 (do let old ← Builtin.List.listItems (.ref S); Builtin.List.listUpdate (.ref S) (fun _ => #[]); letGo old.toList.reverse; Builtin.List.listExtendWith (.ref S) (.ref it) .none) _ _ s
  refine wpAny_bind ?_
  unfold Builtin.List.listItems
  refine wpAny_bind (wpAny_seqItems hS rfl (wpAny_pure ?_))
  show wpAny _ A.in1 (updateSeq S (fun _ => #[]) >>= fun _ => letGo (#[] : Array Value).toList.reverse >>= fun _ => Builtin.List.listExtendWith (.ref S) (.ref it) .none) _ _ s
  refine wpAny_bind (wpAny_updateSeq hS rfl ?_)
  have hS₂ := Heap.get?_update_self (Obj.mapSeq (fun _ => (#[] : Array Value))) hS rfl
  have oth : ∀ b o, b ≠ S → s.heap.get? b = some o → (s.heap.update S (Obj.mapSeq (fun _ => (#[] : Array Value)))).get? b = some o :=
    fun b o hb e => (Heap.get?_update_other _ _ (Ne.symm hb)).trans e
  have hl2 : (s.heap.update S (Obj.mapSeq (fun _ => (#[] : Array Value)))).IsList l items := by
    obtain ⟨o, ho, r⟩ := hl
    exact ⟨o, oth l o hSl.symm ho, r⟩
  refine wpAny_bind (wpAny_letGo ?_)
  exact extend_rev (s := { s with heap := s.heap.update S (Obj.mapSeq (fun _ => (#[] : Array Value))) }) S .none _ hh (hit.at fun o e => oth it o hSi.symm e) hl2 hne hn hSi hSl hS₂ fun h' tk acc c' hk hS' hacc => hR h' tk acc c' (fun b o hb hbS e => hk b o hb hbS (oth b o hbS e)) hS' hacc
theorem call_list_rev {it l : Addr} {items : Array Value} {Q : Value → Shared → Prop} (hh : A.handled = none) (hit : s.heap.IsRevIter it l ((items.size : Int) - 1)) (hl : s.heap.IsList l items) (hne : l ≠ it) (hn : items.size ≤ sizeLine)
    (hQ : ∀ (h' : Heap) (tk : Nat) (acc : Array Value) (c' : Nat), (∀ b o, b ≠ it → s.heap.get? b = some o → h'.get? b = some o) → h'.get? s.heap.objs.size = some { cls := .type "list", dict := none, data := .seq acc c', slots := #[] } → ItemsOf (fun i v => items[items.size - 1 - i]? = some v) acc items.size →
      Q (.ref s.heap.objs.size) { s with heap := h', toks := tk }) :
    wpAny (model prog w) A (call (.type "list") [.ref it]) Q E s := by
  obtain ⟨oi, hoi, _⟩ := id hit
  obtain ⟨ol, hol, _⟩ := id hl
  refine callType_codes (Q₁ := fun obj s₁ => obj = .ref s.heap.objs.size ∧ s₁ = { s with heap := s.heap.push { cls := .type "list", data := .seq #[] } }) F.called_list (F.typeCall_list_1 _) F.entry_list_init
    (code_list_new _ ⟨rfl, rfl⟩) fun obj s₁ h₁ => ?_
  obtain ⟨rfl, rfl⟩ := h₁
  have hS : (s.heap.push { cls := .type "list", data := .seq #[] }).get? s.heap.objs.size = some { cls := .type "list", data := .seq #[] } := Heap.get?_push_size _ rfl
  refine ⟨⟨_, hS, rfl⟩, F.args_list_init_2 _ _, init_rev (A := A.in1) (s := { s with heap := s.heap.push { cls := .type "list", data := .seq #[] } }) s.heap.objs.size hh (hit.at fun o e => Heap.get?_push_of_some _ e) (hl.push _) hne hn (Nat.ne_of_gt (Heap.lt_size hoi)) (Nat.ne_of_gt (Heap.lt_size hol)) hS fun h' tk acc c' hk hS' hacc => ?_⟩
  refine ⟨rfl, hQ h' tk acc c' (fun b o hb e => hk b o hb (fun q => ?_) (Heap.get?_push_of_some _ e)) hS' hacc⟩
  exact absurd (Heap.lt_size e) (by rw [q]; exact Nat.lt_irrefl _)
end
section
variable {X : Cx}
/-- list(reversed(x)), x a list: a new list -/
def tListRev (K : PySem.W.Frag) (te : TE) : TE := fun σ H Q => te σ H fun v H1 => ∃ (a : Addr) (xs : List V), v = .ref a ∧ SqL K H1 a xs ∧ ∀ q, H1 q = none → Q (.ref q) (upd H1 q (.lst xs.reverse))
theorem pe_listRev {e : Expr} {te : TE} {p p2 pos pos2 : Pos} (hc : X.calm = true) (hg : Gl X "list") (hm : X.mg "list" = none) (hg2 : Gl X "reversed") (hm2 : X.mg "reversed" = none) (he : PE X e te)
    (hs : starEach [e] X.env = (false, eval e X.env) :: starEach [] X.env := by rfl)
    (hs2 : starEach [.Call (.Name "reversed" p2) [e] [] pos2] X.env = (false, eval (.Call (.Name "reversed" p2) [e] [] pos2) X.env) :: starEach [] X.env := by rfl) :
    PE X (.Call (.Name "list" p) [.Call (.Name "reversed" p2) [e] [] pos2] [] pos) (tListRev X.K te) := by
  refine ⟨fun pins s σ H Q I h => ?_⟩
  refine Call_ (ld_blt I hg hm boot_list (PyProof.Rows.callWith_type1 (args_cons (Call_ (ld_blt I hg2 hm2 PyProof.Rows.boot_reversed (PyProof.Rows.callWith_type1 (args_cons (thn (he.run pins s σ H _ I h) fun u s1 ⟨v, H1, I1, r1, q1⟩ => args_nil ?_) hs) hs rfl))) hs2) hs2 rfl))
  obtain ⟨a, xs, ev, hq, q⟩ := q1
  subst ev
  obtain rfl : u = Value.ref a := r1
  obtain ⟨its, rv, p', hz⟩ := I1.list hq
  refine call_reversed_list p'.isList (args_nil ?_)
  have k0 : ∀ b o, s1.heap.get? b = some o → (s1.heap.push (revObj a ((its.toArray.size : Int) - 1))).get? b = some o := fun b o e => Heap.get?_push_of_some _ e
  have I2 : Inv X pins σ H1 { s1 with heap := s1.heap.push (revObj a ((its.toArray.size : Int) - 1)) } := I1.kept (t' := s1.toks) k0
  obtain ⟨f0, f1, f2, f3, f4, f5⟩ := I1.fpOk (H' := H1) (b := s1.heap.objs.size) (Nat.le_refl _) (I1.hok.fresh (Nat.le_refl _))
  have hl := p'.isList
  obtain ⟨ol, hol, _⟩ := id hl
  have hne : a ≠ s1.heap.objs.size := Nat.ne_of_lt (Heap.lt_size hol)
  have hn : its.toArray.size ≤ sizeLine := by rw [List.size_toArray, ← rv.length]; exact hz
  refine call_list_rev (s := { s1 with heap := s1.heap.push (revObj a ((its.toArray.size : Int) - 1)) }) (I1.ok.hd hc) ⟨_, Heap.get?_push_size _ rfl, rfl, rfl⟩ (hl.push _) hne hn fun h' tk acc c' hk hS' hi => ?_
  have I3 : Inv X pins σ H1 { s1 with heap := h', toks := tk } := I2.turned (t' := tk) (fun b o hb e => hk b o hb e) f0 f1 f3 f4 f5
  generalize hD : (s1.heap.push (revObj a ((its.toArray.size : Int) - 1))).objs.size = D at hS'
  have hfr : H1 D = none := I2.hok.fresh (Nat.le_of_eq hD)
  refine ⟨.ref D, upd H1 D (.lst xs.reverse), ?_, by rw [← hD]; rfl, q _ hfr⟩
  refine I2.turnedNew (t' := tk) (ch := [s1.heap.objs.size]) (fun b o hb e => hk b o (fun q => hb (by simp [q])) e) (fun b hb => ?_) (Nat.le_of_eq hD) ⟨by rw [List.length_reverse]; exact hz, acc.toList, c', vals_rev rv hi, ?_⟩
  · have e : b = s1.heap.objs.size := by simpa using hb
    subst e
    exact ⟨f0, f1, f2, f3, f4, f5⟩
  · rw [Array.toArray_toList]
    exact hS'
end
/-- list(reversed(l)) -/
def fListRev (r : R) (st : Stor) : Out R := match lstOf st r with
  | some ds => .ok (.new ds.reverse) st
  | none => .bad
section
variable {X : Cx} {G : Ga} {W : WX} {e e2 e3 : Expr} {a b c : EV} {as : AV} {pos : Pos}
theorem Reps.rev {K : PySem.W.Frag} {mg : Str → Option Value} {Z : Addr → Prop} {M : List Addr} {H : Hp} : ∀ {ds : List D} {vs : List V}, Reps K mg Z M H ds vs → Reps K mg Z M H ds.reverse vs.reverse
  | [], _, h => by rw [show _ = [] from h]; rfl
  | d :: ds, _, ⟨v, r, e, h, t⟩ => by
    subst e
    rw [List.reverse_cons, List.reverse_cons]
    exact (Reps.rev t).append (.one h)
theorem i_listRev {p p2 pos2 : Pos} (hc : X.calm = true) (hm : X.mg "list" = none) (hm2 : X.mg "reversed" = none) (he : PE X e (rd G W a)) (hg : Gl X "list" := by rfl) (hg2 : Gl X "reversed" := by rfl)
    (hs : starEach [e] X.env = (false, eval e X.env) :: starEach [] X.env := by rfl)
    (hs2 : starEach [.Call (.Name "reversed" p2) [e] [] pos2] X.env = (false, eval (.Call (.Name "reversed" p2) [e] [] pos2) X.env) :: starEach [] X.env := by rfl) :
    PE X (.Call (.Name "list" p) [.Call (.Name "reversed" p2) [e] [] pos2] [] pos) (rd G W (eUn fListRev a)) :=
  (pe_listRev hc hg hm hg2 hm2 he hs hs2).imp fun σ H Q h => rd_un (X := X) (r := fun v H1 Q => ∃ (a : Addr) (xs : List V), v = .ref a ∧ SqL X.K H1 a xs ∧ ∀ q, H1 q = none → Q (.ref q) (upd H1 q (.lst xs.reverse))) (fun B Z M env st σ H Q r v rs w p => by
    unfold fListRev at p
    split at p
    · rename_i ds hd
      obtain ⟨q, vs, rfl, hq, hr⟩ := lst_rel rs w hd
      exact ⟨q, vs, rfl, SqL.of hq, fun q2 hq2 => ans_new rs p hq2 (Reps.rev hr)⟩
    · exact p.elim) h
end
section
variable {st : Stor} {PR : R → Stor → Prop} {Q : Xc → Stor → Prop}
theorem r_listRev {r : R} {ds : List D} (h : lstOf st r = some ds) (x : PR (.new ds.reverse) st) : wE (fListRev r st) PR Q := by
  unfold fListRev; rw [h]; exact x
end
end PD

/-! PFe: tests of a dict's keys; a call of a name that holds a def. -/
namespace PD
open PySem PySem.Spec PyProof.Rows L2 SX
section
variable {X : Cx} {G : Ga} {W : WX} {e e2 e3 : Expr} {es : List Expr} {a b c : EV} {as : AV} {t : TV} {pos : Pos} {s : SVm}
theorem t_din1 {j : Nat} (hr : Room j X.A) (hK : G.K = X.K) (ha : PE X e (rd G W a)) (hb : PE X e2 (rd G W b)) (hm : behindInMarks .In e2 = false := by rfl) : PT X (.Compare e [.In] [e2] pos) (rdT G W (tVal (eBin (fDIn 1 false) a b))) :=
  (pt_cmp (pc_inH (hk1 X) (hash := dhash1 X.prog X.w) rfl (hu_room hr) ha hb) hm).imp fun σ H Q h => rd_dinH X (dec := rowOf) (enc := rowD) (fun _ _ => rfl) rowOf_rowD (fun r e => by rw [← hK]; exact row_R1 r e) (dct1_ob _ _) (rd_tval h)
theorem t_dnin1 {j : Nat} (hr : Room j X.A) (hK : G.K = X.K) (ha : PE X e (rd G W a)) (hb : PE X e2 (rd G W b)) (hm : behindInMarks .NotIn e2 = false := by rfl) : PT X (.Compare e [.NotIn] [e2] pos) (rdT G W (tVal (eBin (fDIn 1 true) a b))) :=
  (pt_cmp (pc_notInH (hk1 X) (hash := dhash1 X.prog X.w) rfl (hu_room hr) ha hb) hm).imp fun σ H Q h => rd_dinH X (dec := rowOf) (enc := rowD) (fun _ _ => rfl) rowOf_rowD (fun r e => by rw [← hK]; exact row_R1 r e) (dct1_ob _ _) (rd_tval h)
theorem t_din2 {j : Nat} (hr : Room j X.A) (hK : G.K = X.K) (ha : PE X e (rd G W a)) (hb : PE X e2 (rd G W b)) (hm : behindInMarks .In e2 = false := by rfl) : PT X (.Compare e [.In] [e2] pos) (rdT G W (tVal (eBin (fDIn 2 false) a b))) :=
  (pt_cmp (pc_inH (hk2 X) (hash := dhash2 X.prog X.w) rfl (hu_room hr) ha hb) hm).imp fun σ H Q h => rd_dinH X (dec := holdOf) (enc := holdD) (fun _ _ => rfl) holdOf_holdD (fun r e => by rw [← hK]; exact hold_R2 r e) (dct2_ob _ _) (rd_tval h)
theorem t_dnin2 {j : Nat} (hr : Room j X.A) (hK : G.K = X.K) (ha : PE X e (rd G W a)) (hb : PE X e2 (rd G W b)) (hm : behindInMarks .NotIn e2 = false := by rfl) : PT X (.Compare e [.NotIn] [e2] pos) (rdT G W (tVal (eBin (fDIn 2 true) a b))) :=
  (pt_cmp (pc_notInH (hk2 X) (hash := dhash2 X.prog X.w) rfl (hu_room hr) ha hb) hm).imp fun σ H Q h => rd_dinH X (dec := holdOf) (enc := holdD) (fun _ _ => rfl) holdOf_holdD (fun r e => by rw [← hK]; exact hold_R2 r e) (dct2_ob _ _) (rd_tval h)
theorem rd_callS {f : Sem} {cls : Str → Option Addr} (hK : G.K = X.K) (hM : G.mg = X.mg) (hC : G.cls = cls) {σ : L2.St} {H : Hp} {Q : VK} (h : rd G W (eAp (fCall f) as) σ H Q) : tCallS (spOf X.K X.mg cls f) (fun σ => L2.WE W σ) (rdA G W as) σ H Q := by
  obtain ⟨Z, M, env, st, rs, p⟩ := h
  refine ⟨Z, M, env, st, rs, ?_⟩
  unfold eAp at p
  cases ea : as env st with
  | bad => rw [ea] at p; exact p
  | exc x s => rw [ea] at p; exact p
  | ok rr st1 =>
    rw [ea] at p
    intro vs H1 M1 Z1 rs1 e1 w1
    have wa := arg_rel w1
    have st1' := rs1.sto
    rw [hK, hM] at wa st1'
    refine ⟨Z1, M1, st1, rr.map R.arg, st1', wa, ?_⟩
    have p1 : EPost G W Z1 M1 env σ H1 Q (f (rr.map R.arg) st1) := EPost.mono rs.mh e1 p
    cases ef : f (rr.map R.arg) st1 with
    | bad => rw [ef] at p1; exact p1
    | exc y s =>
      rw [ef] at p1
      intro c d H' M' Z' sto x xr
      refine p1 c d H' M' Z' (rs1.step x (by rw [hK, hM]; exact sto)) x ?_
      obtain ⟨C, h1, h2, h3⟩ := xr
      refine ⟨C, by rw [hC]; exact h1, h2, ?_⟩
      rw [hK, hM]
      exact h3
    | ok r s =>
      rw [ef] at p1
      intro v H' M' Z' sto x vr
      refine p1 v H' M' Z' (rs1.step x (by rw [hK, hM]; exact sto)) x ?_
      cases r with
      | dat d => show Rep G.K G.mg _ _ _ _ _; rw [hK, hM]; exact vr
      | new ds =>
        obtain ⟨q, us, h1, h2, h3, h4, h5, h6⟩ := vr
        exact ⟨q, us, h1, h2, h3, h4, h5, by rw [hK, hM]; exact h6⟩
      | view ds =>
        obtain ⟨q, us, h1, h2, h3, h6⟩ := vr
        exact ⟨q, us, h1, h2, h3, by rw [hK, hM]; exact h6⟩
      | scr ds =>
        obtain ⟨q, us, h1, h2, h6⟩ := vr
        exact ⟨q, us, h1, by rw [hK]; exact h2, by rw [hK, hM]; exact h6⟩
theorem run_callV {k i : Nat} {fa : Addr} {fd : FuncData} {ps : List Str} {sp : Sp} {E : L2.St → XK} {x : Str} {p : Pos} {tt : TA} {pins : List (Addr × PySem.Obj)} {s : Shared} {σ : L2.St} {H : Hp} {Q : VK} (F : FnOk X.prog X.w X.K X.mg X.base (L2.CX X.prog X.w) k fa fd ps sp) (hr : Room k X.A) (hN : X.N[i]? = some x) (hv : Vis X.env.scope x) (hk : PySem.W.keepIn X.K (.ref fa) = true) (hb : Binds X.K fd ps []) (hx : ∀ σ, PassesAt (L2.CX X.prog X.w) X σ (E σ)) (ha : PA X (e :: es) tt)
    (I : Inv X pins σ H s) (hs : σ[i]? = some (some (.ref fa))) (ht : tt σ H fun vs H1 => sp vs H1 Q (E σ)) (hdb : (x == ("__debug__" : Str)) = false := by decide) (hcd : (x == ("__classdict__" : Str)) = false := by decide)
    (he : starEach (e :: es) X.env = (false, eval e X.env) :: starEach es X.env := by rfl) (hpl : (backTo pos (starEach es X.env)).any (·.1) = false := by rfl) : wpAny (model X.prog X.w) X.A (eval (.Call (.Name x p) (e :: es) [] pos) X.env) (EP X pins σ Q) X.xe s := by
  refine wpAny_Call_Name_kw (thn ((pe_var (pos := p) hN hv hdb hcd).run pins s σ H (fun v H1 => v = .ref fa ∧ H1 = H) I ⟨.ref fa, hs, rfl, rfl⟩) fun u s1 ⟨v, H1, I1, r1, q1⟩ => ?_)
  obtain ⟨rfl, rfl⟩ := q1
  cases r1
  refine PySem.W.callWith_K (h₀ := X.base) I.ok.mod.kin hk (thn (ha.run pos pins s1 σ _ _ I1 ht) fun us s2 ⟨vs, H2, I2, r, q⟩ => ⟨I2.kIn, ?_⟩) he hpl
  exact run_fnS F hr hb (hx σ) I2 r q
theorem i_callV {j i : Nat} {tab : List (Str × Sem)} {x : Str} {p : Pos} {cls : Str → Option Addr} (F : ∀ y f, tab.lookup y = some f → ∃ fa ps k, k ≤ j ∧ X.mg y = some (.ref fa) ∧ Good X.prog X.w X.K X.mg X.base cls k fa ps f) (hr : Room j X.A)
    (tk : Takes X W) (hK : G.K = X.K) (hM : G.mg = X.mg) (hC : G.cls = cls) (hN : X.N[i]? = some x) (hv : Vis X.env.scope x) (ha : PA X (e :: es) (rdA G W as)) (hdb : (x == ("__debug__" : Str)) = false := by decide) (hcd : (x == ("__classdict__" : Str)) = false := by decide)
    (he : starEach (e :: es) X.env = (false, eval e X.env) :: starEach es X.env := by rfl) (hpl : (backTo pos (starEach es X.env)).any (·.1) = false := by rfl) : PE X (.Call (.Name x p) (e :: es) [] pos) (rd G W (eCallV tab i as)) := by
  refine ⟨fun pins s σ H Q I h => ?_⟩
  obtain ⟨Z, M, env, st, rs, q⟩ := h
  unfold eCallV at q
  split at q
  · rename_i y hy
    split at q
    · rename_i f hf
      obtain ⟨fa, ps, k, hkj, hm, hk, fd, F1, hb⟩ := F y f hf
      obtain ⟨v, h1, h2⟩ := rs.slot i _ hy
      obtain ⟨ad, hm2, rfl⟩ := h2
      rw [hM, hm] at hm2
      cases hm2
      exact run_callV F1 (hr.mono hkj) hN hv hk hb (fun σ => passAt tk σ) ha I h1 (rd_callS hK hM hC ⟨Z, M, env, st, rs, q⟩) hdb hcd he hpl
    · exact q.elim
  · exact q.elim
end
theorem callv2 {P : Program} {w : World} {K : PySem.W.Frag} {mg : Str → Option Value} {base : Heap} {cls : Str → Option Addr} {y1 y2 : Str} {f1 f2 : Sem} {a1 a2 : Addr} {p1 p2 : List Str} {k1 k2 j : Nat} (m1 : mg y1 = some (.ref a1)) (l1 : k1 ≤ j) (g1 : Good P w K mg base cls k1 a1 p1 f1) (m2 : mg y2 = some (.ref a2)) (l2 : k2 ≤ j) (g2 : Good P w K mg base cls k2 a2 p2 f2) :
    ∀ y f, [(y1, f1), (y2, f2)].lookup y = some f → ∃ fa ps k, k ≤ j ∧ mg y = some (.ref fa) ∧ Good P w K mg base cls k fa ps f := by
  intro y f h
  rw [List.lookup_cons] at h
  split at h
  · rename_i e
    cases h
    rw [eq_of_beq e]
    exact ⟨a1, p1, k1, l1, m1, g1⟩
  · rw [List.lookup_cons] at h
    split at h
    · rename_i e
      cases h
      rw [eq_of_beq e]
      exact ⟨a2, p2, k2, l2, m2, g2⟩
    · cases h
/-- a body that is not to be reached -/
theorem ss_bad {X : Cx} {G : Ga} {W : WX} {xs : List Stmt} : PSs X xs (rdS G W fun _ _ => .bad) := ⟨fun _ _ _ _ _ _ ⟨_, _, _, _, _, p⟩ => p.elim⟩
section
variable {env : Env} {st : Stor} {PR : R → Stor → Prop} {Q : Xc → Stor → Prop}
theorem r_callV {tab : List (Str × Sem)} {i : Nat} {as : AV} {x : Str} {f : Sem} (h : env[i]? = some (some (.dat (.glo x)))) (h2 : tab.lookup x = some f) (k : wE (eAp (fCall f) as env st) PR Q) : wE (eCallV tab i as env st) PR Q := by
  unfold eCallV; rw [h]; dsimp only; rw [h2]; exact k
end
end PD

/-! PFf: set(l) of a list of ints (after the kit's rule for a tuple). -/
namespace PD
open PySem PySem.Spec PyProof.Rows L2 SX
section
variable {P : Program} {w : World} {A : Around} {E : Value → Shared → Prop} {s : Shared}
set_option maxHeartbeats 3200000 in
theorem call_set_lstI {l : Addr} {items : Array Value} (ns : List Int) {Q : Value → Shared → Prop} (hh : A.handled = none) (hl : s.heap.IsList l items) (hit : IntsAre items.toList ns) (hb : ns.length + 1 < scanBound)
    (h : ∀ (h' : Heap) (tk c : Nat), SetR w h' s.heap.objs.size (fun j => decide (j ∈ ns)) c → c ≤ ns.length → (∀ b o, s.heap.get? b = some o → h'.get? b = some o) → Q (.ref s.heap.objs.size) { s with heap := h', toks := tk }) :
    wpAny (model P w) A (call (.type "set") [.ref l]) Q E s := by
  have hisz : items.size = ns.length := by
    have q := IntsAre.length hit
    rw [Array.length_toList] at q
    exact q
  obtain ⟨c, tl, hmro⟩ := F.called_set.mro
  have hmade := F.called_set.made
  have hsub := F.called_set.sub
  refine wpAny_call (codeAny_of_tree ?_)
  show wpAny _ _ (callAny (.type "set") _) _ _ _
  refine wpAny_pure ⟨Code.quiet_builtin _ (by decide +kernel), codeAny_builtin F.entry_type_call ?_⟩
  rw [Around.under_plain (weight_type_call_type "set" [.ref l] []) rfl]
  have h1 := F.called_set.notType
  have h2 := F.called_set.canCreate
  have hct := F.typeCall_set_1 (.ref l)
  repeat (any_goals (first | assumption | wp_step))

  refine codeAny_mono (code_set_led1 (.ref l) (E := E) (Q₁ := fun obj s₁ => obj = .ref s.heap.objs.size ∧ s₁ = { s with heap := s.heap.push { cls := .type "set", dict := none, data := .set #[] 0 (.fresh 0 0 (!w.params.followText "set-order")) } }) ⟨rfl, rfl⟩) fun r s₁ hr => ?_
  cases r with
  | error e => exact hr
  | ok fl =>
    cases fl with
    | ret obj =>
      obtain ⟨rfl, rfl⟩ := hr
      have hS : (s.heap.push { cls := .type "set", dict := none, data := .set #[] 0 (.fresh 0 0 (!w.params.followText "set-order")) }).get? s.heap.objs.size = some { cls := .type "set", dict := none, data := .set #[] 0 (.fresh 0 0 (!w.params.followText "set-order")) } := Heap.get?_push_size _ rfl
      have hT : Shared.TypeIs { s with heap := s.heap.push { cls := .type "set", dict := none, data := .set #[] 0 (.fresh 0 0 (!w.params.followText "set-order")) } } (.ref s.heap.objs.size) "set" := ⟨_, hS, rfl⟩
      have hli := F.called_set.init.lookup
      have hbi := F.called_set.init.bind (.ref s.heap.objs.size)
      repeat (any_goals (first | assumption | wp_step))

      refine codeAny_mono (codeAny_call_builtin (R := wants (fun r s₂ => r = .none ∧ ∃ h' tk c, s₂ = { s with heap := h', toks := tk } ∧ SetR w h' s.heap.objs.size (fun j => decide (j ∈ ns)) c ∧ c ≤ ns.length ∧
          (∀ b o, s.heap.get? b = some o → h'.get? b = some o)) E) F.called_set.init.plain F.entry_set_init (check_set_init_1 hT ?_)) fun r₂ s₂ hr₂ => ?_
      · obtain ⟨ol, hol, hcl, nl, hdl⟩ := hl
        obtain ⟨ocls, odict, odata, oslots⟩ := ol
        simp only at hcl hdl
        subst hcl; subst hdl
        have hol' : (s.heap.push { cls := .type "set", dict := none, data := .set #[] 0 (.fresh 0 0 (!w.params.followText "set-order")) }).get? l = some { cls := .type "list", dict := odict, data := .seq items nl, slots := oslots } := Heap.get?_push_of_some _ hol
        have hsls := F.sub_list_set
        have hslf := F.sub_list_frozenset
        have hne : (Value.type "list" == Value.type "dict") = false := by decide
        have hl1 : (s.heap.push { cls := .type "set", dict := none, data := .set #[] 0 (.fresh 0 0 (!w.params.followText "set-order")) }).IsList l items := ⟨_, hol', rfl, nl, rfl⟩
        unfold Builtin.«set.__init__» noKeywords Builtin.Frozenset.updateFrom
        generalize hPI : pyIter = PI
        wp_walk
        subst hPI

        refine wpAny_pyIter_list hl1 ?_
        refine wpAny_bind (wpAny_runValue ?_)
        have hlS : l < s.heap.objs.size := Heap.lt_size hol
        have hh3 : A.in1.in1.in1.handled = none := by simp [hh]
        have hz1 : (s.heap.push { cls := .type "set", dict := none, data := .set #[] 0 (.fresh 0 0 (!w.params.followText "set-order")) }).objs.size = s.heap.objs.size + 1 := Heap.size_push ..
        have hneI : l ≠ (s.heap.push { cls := .type "set", dict := none, data := .set #[] 0 (.fresh 0 0 (!w.params.followText "set-order")) }).objs.size := by
          rw [Heap.size_push]; exact Nat.ne_of_lt (Nat.lt_succ_of_lt hlS)
        have hSf : s.heap.objs.size ∉ [(s.heap.push { cls := .type "set", dict := none, data := .set #[] 0 (.fresh 0 0 (!w.params.followText "set-order")) }).objs.size, l] := by
          rw [Heap.size_push]; simp only [List.mem_cons, List.mem_singleton, List.not_mem_nil, or_false, not_or]
          exact ⟨Nat.ne_of_lt (Nat.lt_succ_self _), Nat.ne_of_gt hlS⟩
        have hval : ∀ (i : Nat) (v : Value), items[i]? = some v → ∃ k t, ns[i]? = some k ∧ v = .int k t := fun i v hv => by
          have hi : i < ns.length := by rw [← hisz]; exact (Array.getElem?_eq_some_iff.mp hv).1
          obtain ⟨t, e⟩ := PyProof.Rows.IntsAre.int_at hit i v (by rw [Array.getElem?_toList]; exact hv)
          refine ⟨ns[i], t, List.getElem?_eq_getElem hi, ?_⟩
          rw [e, List.getD_eq_getElem?_getD, List.getElem?_eq_getElem hi] <;> rfl
        refine set_update_ints ((Walks.list hh3 _ l hneI items).toS) s.heap.objs.size
          hSf ns hisz hb hval (items.size - 0) 0 _ (by omega) (Nat.zero_le _)
          ⟨⟨_, Heap.get?_push_size _ rfl, rfl, rfl⟩, (hl1.push _)⟩ ?hS0 ?hR
        case hS0 =>
          have hget : ((s.heap.push { cls := .type "set", dict := none, data := .set #[] 0 (.fresh 0 0 (!w.params.followText "set-order")) }).push { cls := .type "list_iterator", data := .fields #[.ref l, .int 0 0] }).get? s.heap.objs.size
              = some { cls := .type "set", dict := none, data := .set #[] 0 (.fresh 0 0 (!w.params.followText "set-order")) } := Heap.get?_push_of_some _ hS
          exact ⟨0, Nat.le_refl 0, setR_new_at hget⟩
        case hR =>
          intro s' c' hm hc' hS'
          obtain ⟨h', g2, d', tk', os'⟩ := s'
          have eg : g2 = s.gens := hm.gens
          have ed : d' = s.drawn := hm.drawn
          have eo : os' = s.os := hm.os
          subst eg; subst ed; subst eo
          show wpAny _ _ _ _ _ _
          refine wpAny_pure ?_
          show wpAny _ _ (ret Value.none) _ _ _
          rw [hisz] at hc'
          refine wpAny_pure ⟨rfl, h', tk', c', rfl, hS', hc', fun b o e => ?_⟩
          have hb0 : b < s.heap.objs.size := Heap.lt_size e
          have hb1 : b ≠ s.heap.objs.size := Nat.ne_of_lt hb0
          have hb2 : b ≠ (s.heap.push { cls := .type "set", dict := none, data := .set #[] 0 (.fresh 0 0 (!w.params.followText "set-order")) }).objs.size := by
            rw [Heap.size_push]; exact Nat.ne_of_lt (Nat.lt_succ_of_lt hb0)
          exact hm.heap b o (by simp only [List.mem_cons, List.mem_singleton, List.not_mem_nil, or_false, not_or]; exact ⟨hb1, hb2⟩) (Heap.get?_push_of_some _ (Heap.get?_push_of_some _ e))

      · cases r₂ with
        | error e => exact hr₂
        | ok fl₂ =>
          cases fl₂ with
          | ret r =>
            obtain ⟨rfl, h', tk, c', rfl, hS', hc', hk'⟩ := hr₂
            repeat (any_goals (first | assumption | wp_step))
            exact h _ _ _ hS' hc' hk'
          | _ => exact hr₂.elim
    | _ => exact hr.elim


end
theorem nodup_sub_len {α : Type} [DecidableEq α] : ∀ {l m : List α}, l.Nodup → (∀ x ∈ l, x ∈ m) → l.length ≤ m.length
  | [], _, _, _ => Nat.zero_le _
  | x :: l, m, nd, h => by
    have hx : x ∈ m := h x (List.mem_cons_self ..)
    have nd2 := List.nodup_cons.mp nd
    have := nodup_sub_len (l := l) (m := m.erase x) nd2.2 fun y hy => (List.mem_erase_of_ne (fun e : y = x => nd2.1 (by rw [← e]; exact hy))).mpr (h y (List.mem_cons_of_mem _ hy))
    rw [List.length_erase_of_mem hx] at this
    have := List.length_pos_of_mem hx
    rw [List.length_cons]
    omega
theorem setR_few {w : World} {h : Heap} {a : Addr} {ns : List Int} {c : Nat} (R : SetR w h a (fun j => decide (j ∈ ns)) c) : c ≤ (usort ns).length := by
  obtain ⟨o, es, ep, t, _, _, _, _, nd, hm, _, _, hn, _⟩ := R
  have := nodup_sub_len (m := usort ns) nd fun x hx => usort_mem.mpr (of_decide_eq_true ((hm x).mpr hx))
  rw [List.length_map, Array.length_toList] at this
  omega
section
variable {X : Cx}
def rSetLI (K : PySem.W.Frag) (w : World) : List V → Hp → VK → Prop := fun xs H Q => ∃ (l : Addr) (ns : List Int), xs = [V.ref l] ∧ SqL K H l (ns.map V.int) ∧ ns.length < 400 ∧ ∀ a c, H a = none → c ≤ (usort ns).length → Q (.ref a) (upd H a (SetO w a (fun j => decide (j ∈ ns)) c))
theorem cr_setLI (hc : X.calm = true) : CallR X (.type "set") (rSetLI X.K X.w) := by
  intro pins s σ H xs us Q I r h
  obtain ⟨l, ns, rfl, hl, hf, q⟩ := h
  rw [Vals.ref1 r]
  obtain ⟨its, rv, pl, hz⟩ := I.list hl
  have hn : H s.heap.objs.size = none := I.hok.fresh (Nat.le_refl _)
  refine call_set_lstI (P := X.prog) (w := X.w) ns (I.ok.hd hc) pl.isList (by simpa using ints_of_vals rv) (by unfold scanBound; omega) fun h' tk c R cl k => ?_
  exact ⟨.ref s.heap.objs.size, _, I.laid (t' := tk) k (Nat.le_refl _) (setO_new R), rfl, q _ c hn (setR_few R)⟩
end
/-- sorted(set(l)), l a list of ints -/
def fSortSetI (r : R) (st : Stor) : Out R := match lstOf st r with
  | some ds => (match intsOf ds with
    | some ns => if ns.length < 400 ∧ (usort ns).length < 60 then .ok (.new ((usort ns).map D.int)) st else .bad
    | none => .bad)
  | none => .bad
section
variable {X : Cx} {G : Ga} {W : WX} {e : Expr} {es : List Expr} {a : EV} {as : AV} {pos : Pos}
theorem i_sortSetI {j : Nat} {p p1 p2 : Pos} (hc : X.calm = true) (hr : Room j X.A) (hK : G.K = X.K) (hm : X.mg "sorted" = none) (hm2 : X.mg "set" = none) (ha : PE X e (rd G W a)) (hg : Gl X "sorted" := by rfl) (hg2 : Gl X "set" := by rfl)
    (he : starEach [.Call (.Name "set" p2) [e] [] p1] X.env = (false, eval (.Call (.Name "set" p2) [e] [] p1) X.env) :: starEach [] X.env := by rfl) (he2 : starEach [e] X.env = (false, eval e X.env) :: starEach [] X.env := by rfl) (hpl : (backTo pos (starEach [] X.env)).any (·.1) = false := by rfl) (hpl2 : (backTo p1 (starEach [] X.env)).any (·.1) = false := by rfl) :
    PE X (.Call (.Name "sorted" p) [.Call (.Name "set" p2) [e] [] p1] [] pos) (rd G W (eUn fSortSetI a)) := by
  refine (pe_callB (id := "sorted") (cr_sortedSet hc) hg hm (by decide +kernel) (pa_cons (pe_callTy (T := "set") (cr_setLI hc) hg2 hm2 (by decide +kernel) (pa_cons ha pa_nil he2) (by decide) (by decide) he2 hpl2) pa_nil he) (by decide) (by decide) he hpl).imp fun σ H Q ⟨Z, M, env, st, rs, p⟩ => ?_
  refine ⟨Z, M, env, st, rs, ?_⟩
  unfold eUn at p
  cases ea : a env st with
  | bad => rw [ea] at p; exact p.elim
  | exc x s => rw [ea] at p; exact p
  | ok r st1 =>
    rw [ea] at p
    intro v H1 M1 Z1 rs1 e1 w1
    have p1 : EPost G W Z1 M1 env σ H1 Q (fSortSetI r st1) := EPost.mono rs.mh e1 p
    unfold fSortSetI at p1
    split at p1
    · rename_i ds hl
      split at p1
      · rename_i ns hn
        split at p1
        · rename_i hb
          obtain ⟨q, us, rfl, hq, hrs⟩ := lst_rel rs1 w1 hl
          have e2 := ints_rel hrs hn
          subst e2
          refine ⟨q, ns, rfl, by rw [← hK]; exact SqL.of hq, hb.1, fun a0 c h0 hcl => ⟨a0, _, c, rfl, upd_same, by omega, fun ns' p0 hp hm hln hp0 => ?_⟩⟩
          have es : ns' = usort ns := rise_same hp (usort_rise ns) fun z => by rw [hm, usort_mem]; simp
          subst es
          have rs2 := rs1.alloc0 (o := SetO X.w a0 (fun j => decide (j ∈ ns)) c) h0
          have e2 := Ext.alloc0 (Z := Z1) (M := M1) (o := SetO X.w a0 (fun j => decide (j ∈ ns)) c) rs1.mh h0
          exact ans_new rs2 (EPost.mono rs1.mh e2 p1) hp0 (ints_reps (usort ns))
        · exact p1.elim
      · exact p1.elim
    · exact p1.elim
end
section
variable {st : Stor} {PR : R → Stor → Prop} {Q : Xc → Stor → Prop}
theorem intsOf_map : ∀ ns : List Int, intsOf (ns.map D.int) = some ns
  | [] => rfl
  | n :: ns => by
    have := intsOf_map ns
    show (match intsOf (ns.map D.int) with | some r => some (n :: r) | none => none) = _
    rw [this]
theorem r_ssLI {r : R} {ns : List Int} (h : lstOf st r = some (ns.map D.int)) (h1 : ns.length < 400) (h2 : (usort ns).length < 60) (x : PR (.new ((usort ns).map D.int)) st) : wE (fSortSetI r st) PR Q := by
  unfold fSortSetI; rw [h]; dsimp only; rw [intsOf_map]; dsimp only; rw [if_pos ⟨h1, h2⟩]; exact x
end
end PD

/-! PFg: a lambda without parameters, handed to a def that calls it. -/
namespace PD
open PySem PySem.Spec PyProof.Rows L2 LamX
/-- the lambda at a: its text, its captured cells, its code object -/
def LamO (a : Addr) (q : Str) (params : Arguments) (body : Expr) (scope : Scope) (cl : List (Str × Addr)) (c' : Addr) : HO := .ext fun h => ∃ pm ctv : Value, h.get? a = some (PySem.W.kla_obj "<lambda>" q params body scope cl pm c' ctv)
theorem lam_objOk {P : Program} {w : World} {H : Hp} {h : Heap} {a : Addr} {q : Str} {params : Arguments} {body : Expr} {scope : Scope} {cl : List (Str × Addr)} {c' : Addr} {pm ctv : Value} (e : h.get? a = some (PySem.W.kla_obj "<lambda>" q params body scope cl pm c' ctv)) : ObjOk P w H h a (LamO a q params body scope cl c') :=
  ⟨⟨pm, ctv, e⟩, ⟨_, e⟩, fun h1 h2 ⟨pm, ctv, p⟩ k => ⟨pm, ctv, k _ p⟩⟩
section
variable {X : Cx} {pins : List (Addr × PySem.Obj)} {σ : L2.St} {H : Hp} {s : Shared}
/-- the lambda is made: it is ours from now on -/
theorem lam_make3 {c P : Addr} {params : Arguments} {body : Expr} {scope : Scope} {pos : Pos} {E : Value → Shared → Prop} {Q : Value → Shared → Prop} {ok : Addr → Prop} {ps : Array Value} (I : Inv X pins σ H s) (TB : TabB X.base X.mg c P) (hcode : X.env.code = .ref c)
    (hP : H P = some (.tbl ps)) (ht : TriplesOk ps.toList) (ha : ∀ (pos : Pos) (cv : Value), codeAmong pos ps.toList = some cv → ∃ c, cv = .ref c ∧ ok c ∧ H c = some (CodeO c (X.env.qual ++ "<lambda>")))
    (hdef : defaultsOf params X.env = ([], [])) (hfree : ∀ y ∈ scope.names, y.2 = .free → ∃ c, X.env.cells.lookup y.1 = some c)
    (h : ∀ (f c' : Addr) (ps' : Array Value) (H1 : Hp) (s' : Shared), Inv X pins σ H1 s' → (∀ b o, H b = some o → b ≠ P → H1 b = some o) → H1 P = some (.tbl ps') → TriplesOk ps'.toList →
      (∀ (pos : Pos) (cv : Value), codeAmong pos ps'.toList = some cv → ∃ c, cv = .ref c ∧ (ok c ∨ H c = none) ∧ H1 c = some (CodeO c (X.env.qual ++ "<lambda>"))) →
      H f = none → H1 f = some (LamO f (X.env.qual ++ "<lambda>") params body scope (cloFrom X.env.cells scope.names []) c') → (ok c' ∨ H c' = none) → H1 c' = some (CodeO c' (X.env.qual ++ "<lambda>")) → Q (.ref f) s') :
    wpAny (model X.prog X.w) X.A (eval (.Lambda params body scope pos) X.env) Q E s := by
  refine PySem.W.kla_eval hdef ?_
  have bP : s.heap.BuiltinsAt X.mg P := TB.bm.keeps I.bk
  have hP' : s.heap.get? P = some { cls := .none, data := .fields ps } := I.hok P _ hP
  cases hc : codeAmong pos ps.toList with
  | none =>
    refine PySem.W.kla_makeFunction (mg := X.mg) (c := c) (P := P) (ps := ps) (closure_ok hfree) I.ok.glob (I.mod.glob.keeps I.bk) hcode (TB.code.keeps I.bk) hP' ht hc TB.gP bP fun c' ctv h' tk hx hge hlt hrec htb => ?_
    obtain ⟨c2, oc, vs, t, e2, hoc, hd, hv⟩ := hrec
    cases e2
    have hsz : s.heap.objs.size ≤ h'.objs.size := Nat.le_trans hge (Nat.le_of_lt hlt)
    have nC : H c' = none := I.hok.fresh hge
    have nF : H h'.objs.size = none := I.hok.fresh hsz
    have I1 := inv_table (t' := tk) (more := #[rawInt pos.line, rawInt pos.col, .ref c']) (h' := h') (q := X.env.qual ++ "<lambda>") I hP (fun b o hb e => hx b o hb e) htb hge ⟨oc, vs, t, hoc, hd, hv⟩
    have I2 := I1.laid (t' := tk) (h' := h'.push (PySem.W.kla_obj "<lambda>" (X.env.qual ++ "<lambda>") params body scope (cloFrom X.env.cells scope.names []) ((X.mg "__name__").getD .none) c' ctv)) (a := h'.objs.size) (o := LamO h'.objs.size (X.env.qual ++ "<lambda>") params body scope (cloFrom X.env.cells scope.names []) c')
      (fun b o e => Heap.get?_push_of_some _ e) (Nat.le_refl _) (lam_objOk (Heap.get?_push_size _ rfl))
    have nPc : P ≠ c' := ne_of_none hP nC
    have nPf : P ≠ h'.objs.size := ne_of_none hP nF
    have ncf : c' ≠ h'.objs.size := Nat.ne_of_lt hlt
    have eL : (ps ++ #[rawInt pos.line, rawInt pos.col, .ref c']).toList = ps.toList ++ [rawInt pos.line, rawInt pos.col, .ref c'] := by simp
    have old : ∀ b o, H b = some o → b ≠ P → upd (upd (upd H P (.tbl (ps ++ #[rawInt pos.line, rawInt pos.col, .ref c']))) c' (CodeO c' (X.env.qual ++ "<lambda>"))) h'.objs.size (LamO h'.objs.size (X.env.qual ++ "<lambda>") params body scope (cloFrom X.env.cells scope.names []) c') b = some o := fun b o e n => by
      rw [upd_ne (ne_of_none e nF), upd_ne (ne_of_none e nC), upd_ne n]
      exact e
    have hcc : upd (upd (upd H P (.tbl (ps ++ #[rawInt pos.line, rawInt pos.col, .ref c']))) c' (CodeO c' (X.env.qual ++ "<lambda>"))) h'.objs.size (LamO h'.objs.size (X.env.qual ++ "<lambda>") params body scope (cloFrom X.env.cells scope.names []) c') c' = some (CodeO c' (X.env.qual ++ "<lambda>")) := by rw [upd_ne ncf, upd_same]
    refine h h'.objs.size c' _ _ _ I2 old (by rw [upd_ne nPf, upd_ne nPc, upd_same]) (by rw [eL]; exact PySem.TriplesOk_snoc _ _ _ _ ht) (fun p' cv hcv => ?_) nF upd_same (.inr nC) hcc
    rw [eL] at hcv
    rcases among_app _ ht hcv with z | z
    · obtain ⟨c0, e1, e2, e3⟩ := ha p' cv z
      exact ⟨c0, e1, .inl e2, old _ _ e3 fun q => by
        rw [q, hP] at e3
        exact codeO_ne ps (Option.some.inj e3).symm⟩
    · exact ⟨c', z, .inr nC, hcc⟩
  | some cv =>
    obtain ⟨c', e, ho, hco⟩ := ha pos cv hc
    subst e
    refine PySem.W.kla_makeFunctionHit (mg := X.mg) (c := c) (P := P) (ps := ps) (closure_ok hfree) I.ok.glob (I.mod.glob.keeps I.bk) hcode (TB.code.keeps I.bk) hP' ht hc bP fun ctv h' tk hx hsz => ?_
    have nF : H h'.objs.size = none := I.hok.fresh hsz
    have I2 := I.laid (t' := tk) (h' := h'.push (PySem.W.kla_obj "<lambda>" (X.env.qual ++ "<lambda>") params body scope (cloFrom X.env.cells scope.names []) ((X.mg "__name__").getD .none) c' ctv)) (a := h'.objs.size) (o := LamO h'.objs.size (X.env.qual ++ "<lambda>") params body scope (cloFrom X.env.cells scope.names []) c')
      (fun b o e => Heap.get?_push_of_some _ (hx b o e)) hsz (lam_objOk (Heap.get?_push_size _ rfl))
    have old : ∀ b o, H b = some o → upd H h'.objs.size (LamO h'.objs.size (X.env.qual ++ "<lambda>") params body scope (cloFrom X.env.cells scope.names []) c') b = some o := fun b o e => by
      rw [upd_ne (ne_of_none e nF)]
      exact e
    refine h h'.objs.size c' ps _ _ I2 (fun b o e _ => old b o e) (old _ _ hP) ht (fun p' cv hcv => ?_) nF upd_same (.inl ho) (old _ _ hco)
    obtain ⟨c0, e1, e2, e3⟩ := ha p' cv hcv
    exact ⟨c0, e1, .inl e2, old _ _ e3⟩
/-- x(), in the def that got the lambda -/
theorem pe_act2 {Eg : XK} {Ng : List Str} {qg : Str} {sg : Scope} {g f c' : Addr} {cdg : Value} {params : Arguments} {body : Expr} {scope : Scope} {k i : Nat} {a : Str} {pn : List (Addr × PySem.Obj)} {xe : Value → Shared → Prop} {W : WX} {tb : XK → TE} {p1 p2 : Pos}
    (I : Inv X pins σ H s) (L : LamS X.env.scope scope)
    (hbind : ∀ (q : Str) (cl : List (Str × Addr)) (pm cv ctv : Value), bindArgs (PySem.W.kla_fn "<lambda>" q params body scope cl pm cv ctv) ⟨[], []⟩ = pure [])
    (tk : Takes ((cxOf (L2.CX X.prog X.w) X.prog X.w X.K X.mg X.base Ng qg sg g cdg X.A X.stack s H Eg).tr pn xe) W) (hr : Room (k + 1) (X.A.deeper (envOfC qg sg s.heap.objs.size g cdg)))
    (hbody : ∀ (A : Around) (outer : List PySem.Env) (s : Shared) (H : Hp) (E : XK), Room k (A.deeper (lamEnv X scope s.heap.objs.size f c')) → PE (lamCx X A outer s H E scope f c') body (tb E))
    (hN : Ng[i]? = some a) (hv : Vis sg a) (hd : (a == ("__debug__" : Str)) = false := by decide) (hcd : (a == ("__classdict__" : Str)) = false := by decide) :
    PE ((cxOf (L2.CX X.prog X.w) X.prog X.w X.K X.mg X.base Ng qg sg g cdg X.A X.stack s H Eg).tr pn xe) (.Call (.Name a p1) [] [] p2)
      (fun σZ HZ Q => σZ[i]? = some (some (.ref f)) ∧ HZ f = some (LamO f (X.env.qual ++ "<lambda>") params body scope (cloFrom X.env.cells scope.names []) c') ∧ HZ c' = some (CodeO c' (X.env.qual ++ "<lambda>")) ∧ tb (WE W σZ) σ HZ Q) := by
  refine ⟨fun pinsZ sZ σZ HZ Q IZ h => ?_⟩
  obtain ⟨hs, hf, hc, ht⟩ := h
  refine wpAny_Call_Name_kw (thn ((pe_var (pos := p1) (i := i) hN hv hd hcd).run pinsZ sZ σZ HZ (fun v H1 => v = .ref f ∧ H1 = HZ) IZ ⟨.ref f, hs, rfl, rfl⟩) fun u s1 ⟨v, H1, I1, r1, q1⟩ => ?_)
  obtain ⟨ev, eH⟩ := q1
  subst ev
  rw [eH] at I1
  obtain rfl : u = Value.ref f := r1
  obtain ⟨⟨pm, ctv, of1⟩, _, _⟩ := I1.hok f _ hf
  refine PySem.W.callWith_F0 ⟨_, _, _, _, of1⟩ ?_
  have un : Un (frs X.stack) [] H HZ s.heap s1.heap := I1.base
  obtain ⟨⟨oc, vs, t, hoc, hdc, hvc⟩, _, _⟩ := I1.hok c' _ hc
  have rc : codeAny (model X.prog X.w) (X.A.deeper (envOfC qg sg s.heap.objs.size g cdg)) (.call (.ref f) ⟨[], []⟩) (CR (L2.CX X.prog X.w) (envOfC qg sg s.heap.objs.size g cdg :: X.stack) X.prog X.w HZ s1 Q (WE W σZ)) s1 := by
    refine PySem.W.kla_callFunE hr.depth of1 rfl L.co L.gen rfl ⟨c', oc, vs, t, rfl, hoc, hdc, hvc⟩ ?_
    rw [hbind]
    refine wpAny_pure (wpAny_newFunctionEnv (fun y hy => (L.own y hy).2) (fun y hy => absurd hy (by simp)) (fun h₁ hns hsb => ⟨I1.nolimit.fresh _ hsb, ?_⟩) L.kind)
    show codeAny _ _ (.expr body (lamEnv X scope s1.heap.objs.size f c')) _ _
    have kp : ∀ b o, s1.heap.get? b = some o → h₁.get? b = some o := fun b o e => hsb.extBut b o (Nat.ne_of_lt (Heap.lt_size e)) (Heap.get?_push_of_some _ e)
    have J : Inv (lamCx X (X.A.deeper (envOfC qg sg s.heap.objs.size g cdg)) (envOfC qg sg s.heap.objs.size g cdg :: X.stack) s1 HZ (WE W σZ) scope f c') [] σ HZ { s1 with heap := h₁, toks := s1.toks + ([] : List (Str × Value)).length } :=
      lam_start2 I L I1.env0 hr.hd un hns kp
    refine PySem.W.kla_codeExpr (wpAny_mono ((hbody _ _ s1 HZ (WE W σZ) (hr.deeper _)).run [] _ _ HZ Q J ht) (fun v s' hq => ?_) fun e s' hq => hq)
    obtain ⟨w', H', J', rv, q⟩ := hq
    exact ⟨w', H', J'.os, J'.bare, J'.base, J'.hok, rv, q⟩
  have hx := passAt tk σZ
  refine wpAny_call (codeAny_mono rc fun r s' hq => ?_)
  cases r with
  | error e => exact hx pinsZ HZ s1 e s' I1 hq
  | ok fl =>
    cases fl with
    | ret u => exact I1.after hq
    | next => exact False.elim hq
    | brk => exact False.elim hq
    | cont => exact False.elim hq
end
/-! ### what is computed -/
/-- x(), x the lambda that the def was given -/
def eThk (i : Nat) (th : Stor → Out R) : EV := fun env st => match env[i]? with
  | some (some .thk) => (match th st with
    | .ok (.dat d) s => .ok (.dat d) s
    | .ok (.new ds) s => .ok (.new ds) s
    | .exc x s => .exc x s
    | _ => .bad)
  | _ => .bad
def runThk (m : Nat) (b : SVm) : Stor → Out R := fun st => finish st.length (b (some .thk :: List.replicate m none) st)
/-- the def g that calls what it got -/
def GoodT (P : Program) (w : World) (K : PySem.W.Frag) (mg : Str → Option Value) (base : Heap) (cls : Str → Option Addr) (k : Nat) (fa : Addr) (x : Str) (m : Nat) (b : (Stor → Out R) → SVm) : Prop :=
  ∃ (st : Stmt) (fd : FuncData) (N : List Str) (a : Str), Fun K x x st fa fd ∧ Binds K fd [a] [] ∧ FnScope N [a] (defScope st) ∧ N.length = 1 + m ∧ (a == ("__debug__" : Str)) = false ∧ (a == ("__classdict__" : Str)) = false ∧
    ∀ (th : Stor → Out R) (cdv : Value) (A : Around) (outer : List PySem.Env) (s : Shared) (H : Hp) (E : XK) (G : Ga), Room k (A.deeper (envOfC x (defScope st) s.heap.objs.size fa cdv)) → G.K = K → G.mg = mg → G.cls = cls →
      (∀ (pn : List (Addr × PySem.Obj)) (xe : Value → Shared → Prop) (W : WX) (p1 p2 : Pos), Takes ((cxOf (L2.CX P w) P w K mg base N x (defScope st) fa cdv A outer s H E).tr pn xe) W → PE ((cxOf (L2.CX P w) P w K mg base N x (defScope st) fa cdv A outer s H E).tr pn xe) (.Call (.Name a p1) [] [] p2) (rd G W (eThk 0 th))) →
      PSs (cxOf (L2.CX P w) P w K mg base N x (defScope st) fa cdv A outer s H E) (defBody st) (rdS G (fun c d _ H' => E c d H') (b th))
section
variable {X : Cx} {G : Ga} {W : WX} {pins : List (Addr × PySem.Obj)} {σ : L2.St} {H : Hp} {s : Shared} {Z : Addr → Prop} {M : List Addr} {env : Env} {st : Stor} {Q : VK} {cls : Str → Option Addr}
theorem cpost_of (rs : RS G Z M env st σ H) (hK : G.K = X.K) (hM : G.mg = X.mg) (hC : G.cls = cls) {o : Out R} (p : EPost G W Z M env σ H Q o) : CPost X.K X.mg cls Z M H Q (fun c d H' => W c d σ H') o := by
  cases o with
  | bad => exact p.elim
  | exc y s =>
    intro c d H' M' Z' sto x xr
    refine p c d H' M' Z' (rs.step x (by rw [hK, hM]; exact sto)) x ?_
    obtain ⟨C, h1, h2, h3⟩ := xr
    refine ⟨C, by rw [hC]; exact h1, h2, ?_⟩
    rw [hK, hM]
    exact h3
  | ok r s =>
    intro v H' M' Z' sto x vr
    refine p v H' M' Z' (rs.step x (by rw [hK, hM]; exact sto)) x ?_
    cases r with
    | dat d => show Rep G.K G.mg _ _ _ _ _; rw [hK, hM]; exact vr
    | new ds =>
      obtain ⟨q, us, h1, h2, h3, h4, h5, h6⟩ := vr
      exact ⟨q, us, h1, h2, h3, h4, h5, by rw [hK, hM]; exact h6⟩
    | view ds =>
      obtain ⟨q, us, h1, h2, h3, h6⟩ := vr
      exact ⟨q, us, h1, h2, h3, by rw [hK, hM]; exact h6⟩
    | scr ds =>
      obtain ⟨q, us, h1, h2, h6⟩ := vr
      exact ⟨q, us, h1, by rw [hK]; exact h2, by rw [hK, hM]; exact h6⟩
def thkG (K : PySem.W.Frag) (mg : Str → Option Value) (cls : Str → Option Addr) (Z : Addr → Prop) (M : List Addr) (H : Hp) (f : Addr) : Ga := ⟨mg, K, cls, H, Z, M, none, some f⟩
theorem thk_rs {K : PySem.W.Frag} {mg : Str → Option Value} (s : StR K mg Z M st H) (f : Addr) (m : Nat) : RS (thkG K mg cls Z M H f) Z M (some .thk :: List.replicate m none) st (some (.ref f) :: List.replicate m none) H where
  len := by rw [List.length_cons, List.length_cons, List.length_replicate, List.length_replicate]
  slot := fun i sv hi => by
    cases i with
    | zero =>
      have hi : sv = .thk := by simpa using hi.symm
      subst hi
      exact ⟨_, rfl, f, rfl, rfl⟩
    | succ i =>
      have hi : (List.replicate m (none : Option SV))[i]? = some (some sv) := by simpa using hi
      have := List.mem_of_getElem? hi
      rw [List.mem_replicate] at this
      cases this.2
  dis := fun i j ds es hi hj n => by
    cases i with
    | zero => simp at hi
    | succ i =>
      have hi : (List.replicate m (none : Option SV))[i]? = some (some (.own ds)) := by simpa using hi
      have := List.mem_of_getElem? hi
      rw [List.mem_replicate] at this
      cases this.2
  sto := s
  z0 := fun _ h => h
  fr := Frame.refl _ _
  m0 := ⟨[], by simp [thkG]⟩
  mn := fun a h => .inl h
  h0 := fun _ h => h
  n0 := fun _ _ z => z
  z00 := s.zh
theorem run_thk {k kl m : Nat} {g f c' : Addr} {x : Str} {b : (Stor → Out R) → SVm} {bL : EV} {params : Arguments} {body : Expr} {scope : Scope} (F : GoodT X.prog X.w X.K X.mg X.base cls k g x m b) (hr : Room (k + 1) X.A) (hkl : kl + 1 ≤ k) (tk : Takes X W) (hK : G.K = X.K) (hM : G.mg = X.mg) (hC : G.cls = cls)
    (I : Inv X pins σ H s) (rs : RS G Z M env st σ H) (hf : H f = some (LamO f (X.env.qual ++ "<lambda>") params body scope (cloFrom X.env.cells scope.names []) c')) (zf : ¬ Z f) (hc : H c' = some (CodeO c' (X.env.qual ++ "<lambda>"))) (zc : ¬ Z c') (L : LamS X.env.scope scope)
    (hbind : ∀ (q : Str) (cl : List (Str × Addr)) (pm cv ctv : Value), bindArgs (PySem.W.kla_fn "<lambda>" q params body scope cl pm cv ctv) ⟨[], []⟩ = pure [])
    (hbody : ∀ (A : Around) (outer : List PySem.Env) (s : Shared) (H : Hp) (E : XK) (f c' : Addr), Room kl (A.deeper (lamEnv X scope s.heap.objs.size f c')) → PE (lamCx X A outer s H E scope f c') body (rd G (fun c d _ H' => E c d H') bL))
    (p : EPost G W Z M env σ H Q (runThk m (b fun s => bL env s) st)) : wpAny (model X.prog X.w) X.A (call (.ref g) [.ref f]) (EP X pins σ Q) X.xe s := by
  obtain ⟨stm, fd, N, a, F1, hb, Sg, hNl, hd, hcd, hB⟩ := F
  obtain ⟨oc, od, kV, doc, pm, an, cdv, ct, osl, rfl, lk, hcode⟩ := F1.ex
  have hb0 := hb s [.ref f] I.kIn rfl
  rw [List.append_nil] at hb0
  have hNg : N[0]? = some a := by
    have := Sg.pre
    cases N with
    | nil => simp at this
    | cons y ys =>
      have : y = a := by simpa using this
      rw [this]; rfl
  have hva : Vis (defScope stm) a := (Sg.par a (List.mem_singleton.mpr rfl)).elim .inl fun z => .inr (.inl z)
  have hstart : L2.start N [.ref f] = some (.ref f) :: List.replicate m none := by
    unfold L2.start
    rw [hNl]
    simp
  refine wpAny_call (codeAny_mono (run_ofS (CX := L2.CX X.prog X.w) (N := N) (ps := [a]) (us := [.ref f]) (vs := [.ref f]) (k := k) (E := L2.WE W σ) (Q := Q) lk hcode Sg hr I.env0 hb0 (.cons rfl .nil) rfl fun hr' => ?_) fun r s' hq => ?_)
  · refine ⟨_, hB (fun s => bL env s) cdv X.A X.stack s H (L2.WE W σ) (thkG X.K X.mg cls Z M H f) hr' rfl rfl rfl (fun pn xe W' p1 p2 tk' => ?_), ?_⟩
    · refine (pe_act2 (i := 0) (f := f) (c' := c') (tb := fun E => rd G (fun c d _ H' => E c d H') bL) I L hbind tk' (hr'.mono hkl) (fun A outer s H E hr2 => hbody A outer s H E f c' hr2) hNg hva hd hcd).imp fun σZ HZ Q' ⟨Z', M', env', st', rs', p'⟩ => ?_
      unfold eThk at p'
      split at p'
      · rename_i hi
        obtain ⟨v, h1, ⟨a', e1, rfl⟩⟩ := rs'.slot 0 _ hi
        cases e1
        have e0 : Ext Z M H Z' M' HZ := rs'.ext0
        have sto : StR G.K G.mg Z' M' st' HZ := by
          have := rs'.sto
          rw [hK, hM]
          exact this
        have rsL : RS G Z' M' env st' σ HZ := rs.step e0 sto
        refine ⟨h1, e0.fr f _ hf (.inl fun m => zf (rs.mz f m)), e0.fr c' _ hc (.inl fun m => zc (rs.mz c' m)), Z', M', env, st', rsL, ?_⟩
        have vrK : ∀ {B Z M H r v}, VR G B Z M H r v → VR (thkG X.K X.mg cls Z M H f) B Z M H r v := fun {B Z M H r v} w => by
          cases r with
          | dat d => show Rep X.K X.mg _ _ _ _ _; rw [← hK, ← hM]; exact w
          | new ds =>
            obtain ⟨q, us, h1, h2, h3, h4, h5, h6⟩ := w
            exact ⟨q, us, h1, h2, h3, h4, h5, by show Reps X.K X.mg _ _ _ _ _; rw [← hK, ← hM]; exact h6⟩
          | view ds =>
            obtain ⟨q, us, h1, h2, h3, h6⟩ := w
            exact ⟨q, us, h1, h2, h3, by show Reps X.K X.mg _ _ _ _ _; rw [← hK, ← hM]; exact h6⟩
          | scr ds =>
            obtain ⟨q, us, h1, h2, h6⟩ := w
            exact ⟨q, us, h1, by show ScL X.K _ _ _ _; rw [← hK]; exact h2, by show Reps X.K X.mg _ _ _ _ _; rw [← hK, ← hM]; exact h6⟩
        have stoK : ∀ {Z M st H}, StR G.K G.mg Z M st H → StR X.K X.mg Z M st H := fun {Z M st H} s => by
          rw [hK, hM] at s
          exact s
        dsimp only at p'
        cases eb : bL env st' with
        | bad => rw [eb] at p'; exact p'.elim
        | exc y s'' =>
          rw [eb] at p'
          intro c d H'' M'' Z'' rs'' e'' xr
          refine p' c d H'' M'' Z'' (rs'.step e'' (stoK rs''.sto)) e'' ?_
          obtain ⟨C, g1, g2, g3⟩ := xr
          refine ⟨C, by rw [hC] at g1; exact g1, g2, ?_⟩
          rw [hK, hM] at g3
          exact g3
        | ok r s'' =>
          rw [eb] at p'
          cases r with
          | dat d => exact fun v H'' M'' Z'' rs'' e'' w => p' v H'' M'' Z'' (rs'.step e'' (stoK rs''.sto)) e'' (vrK w)
          | new ds => exact fun v H'' M'' Z'' rs'' e'' w => p' v H'' M'' Z'' (rs'.step e'' (stoK rs''.sto)) e'' (vrK w)
          | view ds => exact p'.elim
          | scr ds => exact p'.elim
      · exact p'.elim
    · rw [hstart]
      have sto : StR X.K X.mg Z M st H := by
        have := rs.sto
        rw [hK, hM] at this
        exact this
      refine ⟨Z, M, _, st, thk_rs sto f m, ?_⟩
      have p2 := cpost_of rs hK hM hC p
      unfold runThk at p2
      cases eb : b (fun s => bL env s) (some .thk :: List.replicate m none) st with
      | nx env1 st1 =>
        rw [eb] at p2
        exact fun Z' M' σ' H' rs' x' => gc_ok sto p2 rs'.sto rs'.ext0 rfl
      | brk env1 st1 => rw [eb] at p2; exact p2.elim
      | cont env1 st1 => rw [eb] at p2; exact p2.elim
      | ret r st1 =>
        rw [eb] at p2
        cases r with
        | dat d => exact fun v H' M' Z' sto' x vr => gc_ok sto p2 sto' x vr
        | new ds => exact fun v H' M' Z' sto' x vr => gc_ok sto p2 sto' x vr
        | view ds => exact p2.elim
        | scr ds => exact p2.elim
      | exc y env1 st1 =>
        rw [eb] at p2
        exact fun c d σ' H' M' Z' rs' x' xr => p2 c d H' M' Z' rs'.sto rs'.ext0 xr
      | bad => rw [eb] at p2; exact p2.elim
  · cases r with
    | error e => exact passAt tk σ pins H s e s' I hq
    | ok fl =>
      cases fl with
      | ret u => exact I.after hq
      | next => exact False.elim hq
      | brk => exact False.elim hq
      | cont => exact False.elim hq
end
/-! ### x(lambda: body) -/
/-- the table of a def's lambdas: the first object of the store -/
def tabO (q : Str) : PD.Obj := .dct 3 [(.str q, .non)]
def tabIs (q : Str) (st : Stor) : Bool := match st[0]? with
  | some (PD.Obj.dct 3 [(D.str q', D.non)]) => decide (q' = q)
  | _ => false
theorem tabIs_at {q : Str} {st : Stor} (h : tabIs q st = true) : st[0]? = some (tabO q) := by
  unfold tabIs at h
  split at h
  · rename_i q' e
    have := of_decide_eq_true h
    subst this
    exact e
  · cases h
def eLam (q : Str) (m : Nat) (b : (Stor → Out R) → SVm) (bL : EV) : EV := fun env st => if tabIs q st then runThk m (b fun s => bL env s) st else .bad
section
variable {X : Cx} {G : Ga} {W : WX} {σ : L2.St} {H : Hp} {s : Shared} {Z : Addr → Prop} {M : List Addr} {env : Env} {st : Stor} {Q : VK} {cls : Str → Option Addr}
/-- the lambda made: the state behind it -/
theorem lam_rs {P : Addr} {q : Str} {H1 : Hp} {ps' : Array Value} (rs : RS G Z M env st σ H) (hM0 : M[0]? = some P) (ht : st[0]? = some (tabO q)) (h1 : ∀ b o, H b = some o → b ≠ P → H1 b = some o) (h2 : H1 P = some (.tbl ps')) (h3 : TriplesOk ps'.toList)
    (h4 : ∀ (pos : Pos) (cv : Value), codeAmong pos ps'.toList = some cv → ∃ c, cv = .ref c ∧ (¬ Z c ∨ H c = none) ∧ H1 c = some (CodeO c q)) : RS G Z M env st σ H1 ∧ Ext Z M H Z M H1 := by
  have pm : P ∈ M := List.mem_of_getElem? hM0
  have hs : ∀ a, H a ≠ none → H1 a ≠ none := fun a h => by
    by_cases e : a = P
    · rw [e, h2]; simp
    · cases q : H a with
      | none => exact absurd q h
      | some o => rw [h1 a o q e]; simp
  obtain ⟨P', e1, q0, ps, e2, hP, _, _⟩ := rs.sto.obj 0 _ ht
  rw [hM0] at e1
  cases e1
  have e : Ext Z M H Z M H1 := ⟨⟨[], by simp⟩, fun a h => .inl h, fun b o e i => by
    refine h1 b o e fun q => ?_
    rcases i with i | i
    · exact i (q ▸ pm)
    · rw [q, hP] at e
      cases e
      exact i.elim, fun _ h => h, fun _ _ z => z, hs⟩
  refine ⟨rs.step e ⟨rs.sto.len, fun i o hi => ?_, rs.sto.nd, rs.sto.mz, fun a z => hs a (rs.sto.zh a z)⟩, e⟩
  obtain ⟨a, g1, g2⟩ := rs.sto.obj i o hi
  by_cases hi0 : i = 0
  · subst hi0
    rw [ht] at hi
    cases hi
    refine ⟨P, hM0, q, ps', rfl, h2, h3, fun pos cv hc => ?_⟩
    obtain ⟨c, c1, c2, c3⟩ := h4 pos cv hc
    exact ⟨c, c1, c2.elim id fun n z => absurd n (rs.sto.zh c z), c3⟩
  · have hne : a ≠ P := fun q => hi0 (nd_ix rs.sto.nd (q ▸ g1) hM0)
    have ha : H a ≠ none := rs.mh a (List.mem_of_getElem? g1)
    refine ⟨a, g1, g2.mono (fun _ _ r => e.reps rs.mz r) (fun b u h z => ⟨e.fr b u h (.inl fun m => z (rs.mz b m)), z⟩) ?_⟩
    cases q : H a with
    | none => exact absurd q ha
    | some o => exact h1 a o q hne
theorem i_lam {k kl m : Nat} {g c P : Addr} {x q : Str} {b : (Stor → Out R) → SVm} {bL : EV} {params : Arguments} {body : Expr} {scope : Scope} {p lpos pos : Pos} (F : GoodT X.prog X.w X.K X.mg X.base cls k g x m b) (hm : X.mg x = some (.ref g)) {j : Nat} (hr : Room j X.A) (hj : k + 1 ≤ j) (hkl : kl + 1 ≤ k) (tk : Takes X W) (hK : G.K = X.K) (hM : G.mg = X.mg) (hC : G.cls = cls)
    (TB : TabB X.base X.mg c P) (hcode : X.env.code = .ref c) (hG : G.M0[0]? = some P) (hq : X.env.qual ++ "<lambda>" = q)
    (L : LamS X.env.scope scope) (hdef : defaultsOf params X.env = ([], []))
    (hbind : ∀ (q : Str) (cl : List (Str × Addr)) (pm cv ctv : Value), bindArgs (PySem.W.kla_fn "<lambda>" q params body scope cl pm cv ctv) ⟨[], []⟩ = pure [])
    (hbody : ∀ (A : Around) (outer : List PySem.Env) (s : Shared) (H : Hp) (E : XK) (f c' : Addr), Room kl (A.deeper (lamEnv X scope s.heap.objs.size f c')) → PE (lamCx X A outer s H E scope f c') body (rd G (fun c d _ H' => E c d H') bL))
    (hg : Gl X x := by rfl) (hdb : (x == ("__debug__" : Str)) = false := by decide) :
    PE X (.Call (.Name x p) [.Lambda params body scope lpos] [] pos) (rd G W (eLam q m b bL)) := by
  refine ⟨fun pins s σ H Q I ⟨Z, M, env, st, rs, h⟩ => ?_⟩
  unfold eLam at h
  split at h
  · rename_i ht
    have ht := tabIs_at ht
    obtain ⟨P', e1, q0, ps, e2, hP, hT, hA⟩ := rs.sto.obj 0 _ ht
    have hM0 : M[0]? = some P := by
      obtain ⟨t, e⟩ := rs.m0
      obtain ⟨hl, _⟩ := List.getElem?_eq_some_iff.mp hG
      rw [e, List.getElem?_append_left hl]
      exact hG
    rw [hM0] at e1
    cases e1
    cases e2
    subst hq
    obtain ⟨stm, fd, N, a, F1, hrest⟩ := id F
    refine wpAny_Call_Name_kw (ld_glob I hg hm ?_ hdb)
    refine PySem.W.callWith_K (h₀ := X.base) I.ok.mod.kin F1.kp ?_ (by rfl) (by rfl)
    show wpAny _ _ (spliced ((false, eval (.Lambda params body scope lpos) X.env) :: backTo pos (starEach [] X.env))) _ _ s
    refine Calls.spliced_cons (lam_make3 (ok := fun c => ¬ Z c) I TB hcode hP hT hA hdef (L.has I.ok) fun f c' ps' H1 s' I1 h1 h2 h3 h4 hfn hf zc hc => ?_)
    refine Calls.spliced_nil ⟨I1.kIn, ?_⟩
    obtain ⟨rs1, x1⟩ := lam_rs rs hM0 ht h1 h2 h3 h4
    exact run_thk F (hr.mono hj) hkl tk hK hM hC I1 rs1 hf (fun z => rs.sto.zh f z hfn) hc (zc.elim id fun n z => rs.sto.zh c' z n) L hbind hbody (EPost.mono rs.mh x1 h)
  · exact h.elim
end
/-! ### a law that makes lambdas -/
def spOfT (K : PySem.W.Frag) (mg : Str → Option Value) (cls : Str → Option Addr) (P : Addr) (f : Sem) : Sp := fun vs H Q E => ∃ Z st rs, StR K mg Z [P] st H ∧ Paired (AR K mg Z [P] H) rs vs ∧ CPost K mg cls Z [P] H Q E (f rs st)
theorem fn_okT {P : Program} {w : World} {K : PySem.W.Frag} {mg : Str → Option Value} {base : Heap} {cls : Str → Option Addr} {x qual : Str} {st : Stmt} {f Pt : Addr} {N ps : List Str} {k n m : Nat} {body : SVm} {oc kV doc pm cdv ct : Value} {od an : Option Addr} {osl : Array (Option Value)}
    (lk : K.lookup f = some ⟨oc, od, .func (PySem.W.fnOf x qual (defArgs st) (defBody st) (defScope st) .none kV doc pm an cdv ct), osl⟩) (hcd : PySem.W.codeIn K cdv qual = true) (S : FnScope N ps (defScope st)) (hn : ps.length = n) (hm : N.length = n + m)
    (hb : ∀ (A : Around) (outer : List PySem.Env) (s : Shared) (H : Hp) (E : XK) (G : Ga), Room k (A.deeper (envOfC qual (defScope st) s.heap.objs.size f cdv)) → G.K = K → G.mg = mg → G.cls = cls → G.M0 = [Pt] →
      PSs (cxOf (L2.CX P w) P w K mg base N qual (defScope st) f cdv A outer s H E) (defBody st) (rdS G (fun c d _ H' => E c d H') body)) : FnOk P w K mg base (L2.CX P w) (k + 1) f (PySem.W.fnOf x qual (defArgs st) (defBody st) (defScope st) .none kV doc pm an cdv ct) ps (spOfT K mg cls Pt (runFn n m body)) := by
  have hl : ∀ vs H Q E, spOfT K mg cls Pt (runFn n m body) vs H Q E → vs.length = n := by
    rintro vs H Q E ⟨Z, st, rs, s, w, p⟩
    unfold runFn at p
    split at p
    · rename_i h
      rw [← w.length]
      exact h
    · exact p.elim
  refine fn_of lk hcd S (fun vs H Q E h => (hl vs H Q E h).trans hn.symm) (fun A outer s H vs Q E hr h => ?_)
  have hlv := hl vs H Q E h
  obtain ⟨Z, st0, rs, s0, w0, p⟩ := h
  refine ⟨_, hb A outer s H E (mkG K mg cls Z [Pt] H) hr rfl rfl rfl rfl, Z, [Pt], _, st0, (show L2.start N vs = vs.map some ++ List.replicate m none by unfold L2.start; rw [hlv, hm]; simp) ▸ args_rs s0 w0 m, ?_⟩
  unfold runFn at p
  rw [if_pos (by rw [w0.length]; exact hlv)] at p
  cases eb : body (rs.map R.sv ++ List.replicate m none) st0 with
  | nx env1 st1 =>
    rw [eb] at p
    exact fun Z' M' σ' H' rs' x' => gc_ok s0 p rs'.sto rs'.ext0 rfl
  | brk env1 st1 => rw [eb] at p; exact p.elim
  | cont env1 st1 => rw [eb] at p; exact p.elim
  | ret r st1 =>
    rw [eb] at p
    cases r with
    | dat d => exact fun v H' M' Z' sto x vr => gc_ok s0 p sto x vr
    | new ds => exact fun v H' M' Z' sto x vr => gc_ok s0 p sto x vr
    | view ds => exact p.elim
    | scr ds => exact p.elim
  | exc y env1 st1 =>
    rw [eb] at p
    exact fun c d σ' H' M' Z' rs' x' xr => p c d H' M' Z' rs'.sto rs'.ext0 xr
  | bad => rw [eb] at p; exact p.elim
def spLawT (K : PySem.W.Frag) (P : Addr) (f : Sem) : Sp := fun vs H Q E => ∀ mg cls, spOfT K mg cls P f vs H Q E
theorem lawFnT {P : Program} {w : World} {K : PySem.W.Frag} {mg : Str → Option Value} {base : Heap} {cls : Str → Option Addr} {k : Nat} {fa Pt : Addr} {fd : FuncData} {ps : List Str} {f : Sem} (F : FnOk P w K mg base (L2.CX P w) k fa fd ps (spOfT K mg cls Pt f)) : FnOk P w K mg base (L2.CX P w) k fa fd ps (spLawT K Pt f) :=
  F.imp fun _ _ _ _ h => h mg cls
theorem lawWalkT {l : PySem.W.OpenLaw} {k : Nat} {q : Program} {loose : List Str} {XP : (Str → Option Value) → Heap → Prop} {YP : World → Heap → Prop} {d : DefRec} {K : Params → PySem.W.Frag} {x qn : Str} {f : Sem}
    (hn : l.most = some 63) (hdf : d.params.defaults = []) (hr : Room k callerA)
    (hY : ∀ (w : World) (h : Heap), YP w h → (K w.params).In h)
    (F : ∀ (w : World) (mg : Str → Option Value) (fa : Addr) (h : Heap), YP w h → (K w.params).In h → h.Ns mainGlobals mg → mg d.name = some (.ref fa) →
      ∃ (fd : FuncData) (c Pt : Addr), h.get? Pt = some { cls := .none, data := .fields #[] } ∧ (K w.params).lookup Pt = none ∧ PySem.W.CodeHd h c Pt ∧ (∀ (s : Shared) (v : Value), BindsTo s fd ⟨[v], []⟩ [(x, v)]) ∧
        ∀ base : Heap, (K w.params).In base → base.Ns mainGlobals mg → TabB base mg c Pt → FnOk l.prog w (K w.params) mg base (L2.CX l.prog w) k fa fd [x] (spLawT (K w.params) Pt f))
    (h : ∀ ns : List Int, ns.length ≤ 63 → ∃ st, f [.scr (ns.map D.int)] [tabO qn] = .ok (.dat (.bl true)) st) :
    PySem.W.WalkO q loose XP YP l.row.toRowW d [] (fun f vs => PySem.call f vs) := by
  refine walk_ofTs (n := 63) (k := k) (x := x) (CX := fun w => L2.CX l.prog w) hn (by decide) hdf hr hY (fun w mg fa hp Y KX G hm => ?_) (fun w H s e s' z => ?_)
  · obtain ⟨fd, c, Pt, h1, h2, h3, h4, h5⟩ := F w mg fa hp Y KX G hm
    refine ⟨fd, [(c, Pt)], spLawT (K w.params) Pt f, fun p hp => ?_, fun p hp => ?_, fun p hp => ?_, h4, fun H a ns hl _ hT hS => ?_, fun base KB GB TB => h5 base KB GB (TB _ (List.mem_singleton.mpr rfl))⟩
    · rw [List.mem_singleton.mp hp]; exact h1
    · rw [List.mem_singleton.mp hp]; exact h2
    · rw [List.mem_singleton.mp hp]; exact h3
    · intro mg cls
      have hP := hT _ (List.mem_singleton.mpr rfl)
      obtain ⟨st, e⟩ := h ns hl
      have na : ¬ a ∈ [Pt] ∨ ¬ Rd H a (.lst (ns.map V.int)) := by
        by_cases q : a = Pt
        · subst q
          refine .inr fun z => ?_
          rcases z with z | ⟨o, z⟩
          · rw [hP] at z; cases z
          · rw [hP] at z; cases z
        · exact .inl (by simpa using q)
      have hSc : ScL (K w.params) H [Pt] a (ns.map V.int) := by
        rcases hS with z | z
        · exact .inl ⟨z, na.elim id fun q => absurd z q⟩
        · exact .inr z
      refine ⟨fun b => b = Pt, [tabO qn], [.scr (ns.map D.int)], ⟨rfl, fun i o hi => ?_, by simp, fun a ha => List.mem_singleton.mp ha, fun b z => by rw [show b = Pt from z, hP]; simp⟩, .cons ⟨a, ns.map V.int, rfl, hSc, ints_reps ns⟩ .nil, ?_⟩
      · cases i with
        | zero =>
          cases hi
          exact ⟨Pt, rfl, qn, #[], rfl, hP, True.intro, fun pos cv hc => by
            have z : codeAmong pos [] = some cv := hc
            simp [codeAmong] at z⟩
        | succ i => simp at hi
      · rw [e]
        intro v H' M' Z' _ _ r
        exact r
  · obtain ⟨_, _, _, _, _, _, _, _, _, _, _, _, z⟩ := z
    exact z
end PD

/-! PFh: tuple * int, the number at least 1. -/
namespace PD
open PySem PySem.Spec PyProof.Rows L2
theorem tuple_mul1 (l : Addr) (items : Array Value) (n : Nat) (dd : Option Addr) (sl : Array (Option Value)) (x : Int) (u : Tok) (c0 : (decide (x < -(2 ^ 63)) || decide (x ≥ 2 ^ 63)) = false) (c1 : (items.isEmpty || x == 1) = true) :
    Meets (Builtin.«tuple.__mul__» ⟨[.ref l, .int x u], []⟩) (fun _ R s => s.heap.get? l = some { cls := .type "tuple", dict := dd, data := .seq items n, slots := sl } ∧
      R (.ok (.ret (Value.ref l))) s) :=
  .of_wp fun prog w A R s h => by
    obtain ⟨hp, g, d, tk, os⟩ := s
    obtain ⟨hl, h⟩ := h
    have f1 := AutoSeq1.idx_int
    wp_walk using wpAny_loadPart' hl
    repeat (first
      | (refine wpAny_ite_false (decide_eq_false (by rw [c0]; exact Bool.false_ne_true)) ?_; wp_walk using wpAny_loadPart' hl)
      | (refine wpAny_ite_true (decide_eq_true (by rw [c1])) ?_; wp_walk using wpAny_loadPart' hl))
    exact ⟨_, rfl, h⟩
def rRepT1 (K : PySem.W.Frag) : R2 := fun x y H Q => ∃ l xs, x = .ref l ∧ y = .int 1 ∧ SqT K H l xs ∧ Q (.ref l) H
section
variable {X : Cx}
theorem op_repT1 : OpR X (binaryOp .Mult) (rRepT1 X.K) := by
  intro pins s σ H x y v u Q I rx ry h
  obtain ⟨l, xs, rfl, rfl, hT, q⟩ := h
  cases rx
  obtain ⟨t, rfl⟩ := ry
  obtain ⟨its, r, ⟨⟨cls, dd, data, sl⟩, ho, hc, n, hd⟩, hs⟩ := I.tuple hT
  simp only at hc hd
  subst hc hd
  have c0 : (decide ((1 : Int) < -(2 ^ 63)) || decide ((1 : Int) ≥ 2 ^ 63)) = false := by decide
  have c1 : (its.toArray.isEmpty || (1 : Int) == 1) = true := by simp
  refine wpAny_binaryOp_repeat_ref (T := "tuple") (U := "int") (by decide) ⟨_, ho, rfl⟩ (fun s' => typeIs_int s' 1 t) noFill_tuple_mul F.fills_int_mul F.slot_int_rmul repeat_tuple F.slot_int_index.lookup
    (call_meets F.slot_int_rmul (typeIs_int s 1 t) F.entry_int_rmul (F.args_int_rmul_2 _ _) (int_rmul_tuple 1 t l its.toArray n dd sl)
      ⟨ho, rfl, ⟨_, ho, rfl⟩, call_meets F.slot_tuple_mul ⟨_, ho, rfl⟩ F.entry_tuple_mul (F.args_tuple_mul_2 _ _) (tuple_mul1 l its.toArray n dd sl 1 t c0 c1) ⟨ho, ?_⟩⟩)
  exact ⟨.ref l, H, I, rfl, q⟩
end
def fMulT (r1 r2 : R) (st : Stor) : Out R := match r1, r2 with
  | .dat (.tup ds), .dat (.int k) => if decide (ds ≠ []) && decide (1 ≤ k) && decide (k ≤ 1000) && decide (ds.length ≤ 1000) then .ok (.dat (.tup (List.replicate k.toNat ds).flatten)) st else .bad
  | _, _ => .bad
section
variable {X : Cx} {G : Ga} {W : WX} {e e2 : Expr} {a b : EV} {pos : Pos}
theorem o_mulT (hK : G.K = X.K) : Op2 X G W fMulT (fun x y H Q => rRepT X.K x y H Q ∨ rRepT1 X.K x y H Q) := by
  intro B Z M env st σ H Q r1 r2 v1 v2 rs w1 w2 p
  unfold fMulT at p
  split at p
  · rename_i ds k
    obtain ⟨l, vs, rfl, hq, hr⟩ := w1
    rw [hK] at hq
    cases w2
    split at p
    · rename_i h
      simp only [Bool.and_eq_true, decide_eq_true_eq] at h
      obtain ⟨⟨⟨h0, h1⟩, h2⟩, h3⟩ := h
      have hl := hr.length
      have hne : vs ≠ [] := fun e => h0 (by rw [e] at hl; exact List.eq_nil_of_length_eq_zero hl.symm)
      rcases Int.lt_or_le k 2 with q | q
      · have e : k = 1 := by omega
        subst e
        refine .inr ⟨l, vs, rfl, rfl, hq, ?_⟩
        have e2 : (List.replicate (1 : Int).toNat ds).flatten = ds := by simp
        rw [e2] at p
        exact ans_dat rs p ⟨l, vs, rfl, by rw [hK]; exact hq, hr⟩
      · exact .inl ⟨l, k, vs, rfl, rfl, hq, hne, q, h2, by omega, fun p' hp => ans_tup rs p hp (hr.rep k.toNat)⟩
    · exact p.elim
  · exact p.elim
theorem i_mulT (hK : G.K = X.K) (ha : PE X e (rd G W a)) (hb : PE X e2 (rd G W b)) : PE X (.BinOp e .Mult e2 pos) (rd G W (eBin fMulT a b)) := i_bin (op_repT.or op_repT1) (o_mulT hK) ha hb
end
section
variable {st : Stor} {PR : R → Stor → Prop} {Q : Xc → Stor → Prop}
theorem r_mulT {ds : List D} {k : Int} (h0 : ds ≠ []) (h1 : 1 ≤ k) (h2 : k ≤ 1000) (h3 : ds.length ≤ 1000) (x : PR (.dat (.tup (List.replicate k.toNat ds).flatten)) st) : wE (fMulT (.dat (.tup ds)) (.dat (.int k)) st) PR Q := by
  unfold fMulT; dsimp only; rw [if_pos (by simp only [h1, h2, h3, decide_true, Bool.and_true, decide_eq_true_eq]; exact h0)]; exact x
end
end PD

/-! PFi: lambdas in walks. -/
namespace PD
open PySem PySem.Spec PyProof.Rows L2
section
variable {P PR : R → Stor → Prop} {Q : Xc → Stor → Prop} {env : Env} {st : Stor} {m k : Nat} {b : SVm}
theorem r_thk (x : wS (b (some .thk :: List.replicate m none) st) (wF st.length P Q)) : wE (runThk m b st) P Q := by
  unfold runThk
  cases e : b (some .thk :: List.replicate m none) st with
  | nx env1 st1 => rw [e] at x; exact x
  | brk env1 st1 => rw [e] at x; exact x
  | cont env1 st1 => rw [e] at x; exact x
  | ret r st1 => rw [e] at x; cases r <;> exact x
  | exc y env1 st1 => rw [e] at x; exact x
  | bad => rw [e] at x; exact x
def thkOk : R → Prop
  | .dat _ => True
  | .new _ => True
  | _ => False
theorem r_ethk {th : Stor → Out R} (h : env[k]? = some (some .thk)) (x : wE (th st) (fun r s => thkOk r ∧ PR r s) Q) : wE (eThk k th env st) PR Q := by
  unfold eThk
  rw [h]
  dsimp only
  cases e : th st with
  | ok r s =>
    rw [e] at x
    cases r with
    | dat d => exact x.2
    | new ds => exact x.2
    | view ds => exact x.1.elim
    | scr ds => exact x.1.elim
  | exc y s => rw [e] at x; exact x
  | bad => rw [e] at x; exact x
theorem tabIs_of {q : Str} (h : st[0]? = some (tabO q)) : tabIs q st = true := by
  unfold tabIs
  rw [h]
  exact decide_eq_true rfl
theorem r_lam {q : Str} {b : (Stor → Out R) → SVm} {bL : EV} (h : st[0]? = some (tabO q)) (x : wE (runThk m (b fun s => bL env s) st) PR Q) : wE (eLam q m b bL env st) PR Q := by
  unfold eLam
  rw [if_pos (tabIs_of h)]
  exact x
end
end PD

noncomputable section
namespace PT
open PySem PySem.Spec PyProof.Rows L2 PD
def kitT : List (Str × Str × Bool) := [("BadDeal", "BadDeal", true), ("BadDeal", "BadHolding", false), ("BadDeal", "BadRound", false), ("BadDeal", "NoDeal", false), ("BadDeal", "BadText", false), ("BadHolding", "BadDeal", false), ("BadHolding", "BadHolding", true), ("BadHolding", "BadRound", false), ("BadHolding", "NoDeal", false), ("BadHolding", "BadText", false)]
def b_p_is_number : SVm :=
    (sSeq (sRet (eAnd (eUn (fIsi .int) (eVar 0)) (eAnd (eNot (eUn (fIsi .bl) (eVar 0))) (eChain fLe fLe (eVar 1) (eVar 0) (eVar 2)))))
    sNil)
@[irreducible] def f_p_is_number : Sem := runFn 3 0 b_p_is_number
def b_p_is_rising : SVm :=
    (sSeq (sIf (tNotT (tVal (eUn (fIsi .tup) (eVar 0))))
    (sSeq (sRet (eC (.bl false)))
    sNil)
    sNil)
    (sSeq (sSet 2 (eUn fNeg (eC (.int 1))))
    (sSeq (sFor (jVar 0) (tgN 3)
    (sSeq (sIf (tNotT (tVal (eAp (fCall f_p_is_number) (aCons (eVar 3) (aCons (eBin fAdd (eVar 2) (eC (.int 1))) (aCons (eVar 1) aNil))))))
    (sSeq (sRet (eC (.bl false)))
    sNil)
    sNil)
    (sSeq (sMove 2 3)
    sNil)))
    (sSeq (sRet (eC (.bl true)))
    sNil))))
@[irreducible] def f_p_is_rising : Sem := runFn 2 2 b_p_is_rising
def b_p_must : SVm :=
    (sSeq (sIf (tNotT (tVal (eVar 0)))
    (sSeq (sRaise0 "BadDeal")
    sNil)
    sNil)
    sNil)
@[irreducible] def f_p_must : Sem := runFn 1 0 b_p_must
def b_p_need_deal : SVm :=
    (sSeq (sExpr (eAp (fCall f_p_must) (aCons (eAnd (eUn (fIsi .tup) (eVar 0)) (eBin (fEqB false) (eAp (f1 fLen) (aCons (eVar 0) aNil)) (eC (.int 3)))) aNil)))
    (sSeq (sExpr (eAp (fCall f_p_must) (aCons (eAnd (eAp (fCall f_p_is_number) (aCons (eBin fIx (eVar 0) (eC (.int 0))) (aCons (eC (.int 1)) (aCons (eC (.int 4)) aNil)))) (eAp (fCall f_p_is_number) (aCons (eBin fIx (eVar 0) (eC (.int 1))) (aCons (eC (.int 1)) (aCons (eC (.int 4)) aNil))))) aNil)))
    (sSeq (sExpr (eAp (fCall f_p_must) (aCons (eAnd (eUn (fIsi .tup) (eBin fIx (eVar 0) (eC (.int 2)))) (eBin fLe (eAp (f1 fLen) (aCons (eBin fIx (eVar 0) (eC (.int 2))) aNil)) (eC (.int 8)))) aNil)))
    (sSeq (sSet 1 (eLst aNil))
    (sSeq (sFor (jSeq (eBin fIx (eVar 0) (eC (.int 2)))) (tgN 2)
    (sSeq (sExpr (eAp (fCall f_p_must) (aCons (eAnd (eUn (fIsi .tup) (eVar 2)) (eAnd (eBin (fEqB false) (eAp (f1 fLen) (aCons (eVar 2) aNil)) (eC (.int 3))) (eAp (fCall f_p_is_number) (aCons (eBin fIx (eVar 2) (eC (.int 2))) (aCons (eC (.int 1)) (aCons (eC (.int 4)) aNil)))))) aNil)))
    (sSeq (sExpr (eAp (fCall f_p_must) (aCons (eAnd (eAp (fCall f_p_is_number) (aCons (eBin fIx (eVar 2) (eC (.int 0))) (aCons (eC (.int 0)) (aCons (eBin fSub (eBin fIx (eVar 0) (eC (.int 0))) (eC (.int 1))) aNil)))) (eAp (fCall f_p_is_number) (aCons (eBin fIx (eVar 2) (eC (.int 1))) (aCons (eC (.int 0)) (aCons (eBin fSub (eBin fIx (eVar 0) (eC (.int 0))) (eC (.int 1))) aNil))))) aNil)))
    (sSeq (sExpr (eAp (fCall f_p_must) (aCons (eAnd (eBin (fEqB true) (eBin fIx (eVar 2) (eC (.int 0))) (eBin fIx (eVar 2) (eC (.int 1)))) (eBin (fIn true) (eCut (eVar 2) oNone (oSome (eC (.int 2)))) (eVar 1))) aNil)))
    (sSeq (sApp putF 1 (eCut (eVar 2) oNone (oSome (eC (.int 2)))))
    sNil)))))
    sNil)))))
@[irreducible] def f_p_need_deal : Sem := runFn 1 2 b_p_need_deal
def b_p_need_holding : SVm :=
    (sSeq (sExpr (eAp (fCall f_p_need_deal) (aCons (eVar 0) aNil)))
    (sSeq (sIf (tOrT (tNotT (tVal (eUn (fIsi .tup) (eVar 1)))) (tVal (eBin (fEqB true) (eAp (f1 fLen) (aCons (eVar 1) aNil)) (eBin fIx (eVar 0) (eC (.int 0))))))
    (sSeq (sRaise0 "BadHolding")
    sNil)
    sNil)
    (sSeq (sIf (tVal (eBin (fEqB true) (eLc putF [2] (xSeq (eVar 1)) (tgN 2) (tNotT (tVal (eAp (fCall f_p_is_rising) (aCons (eVar 2) (aCons (eBin fSub (eBin fIx (eVar 0) (eC (.int 1))) (eC (.int 1))) aNil))))) (eVar 2)) (eLst aNil)))
    (sSeq (sRaise0 "BadHolding")
    sNil)
    sNil)
    sNil)))
@[irreducible] def f_p_need_holding : Sem := runFn 2 1 b_p_need_holding
def b_p_comes : SVm :=
    (sSeq (sExpr (eAp (fCall f_p_need_holding) (aCons (eVar 0) (aCons (eVar 1) aNil))))
    (sSeq (sIf (tNotT (tVal (eUn (fIsi .tup) (eVar 3))))
    (sSeq (sSet 4 (eTup (aCons (eBin fAdd (eBin fIx (eVar 0) (eC (.int 0))) (eC (.int 1))) (aCons (eBin fIx (eVar 0) (eC (.int 1))) (aCons (eVar 3) aNil)))))
    sNil)
    (sSeq (sSet 4 (eTup (aCons (eBin fAdd (eBin fIx (eVar 0) (eC (.int 0))) (eC (.int 1))) (aCons (eBin fIx (eVar 0) (eC (.int 1))) (aCons (eBin fAdd (eBin fIx (eVar 0) (eC (.int 2))) (eVar 3)) aNil)))))
    sNil))
    (sSeq (sSet 5 (eBin fAdd (eVar 1) (eTup (aCons (eVar 2) aNil))))
    (sSeq (sExpr (eAp (fCall f_p_need_holding) (aCons (eVar 4) (aCons (eVar 5) aNil))))
    (sSeq (sRet (eTup (aCons (eVar 4) (aCons (eVar 5) aNil))))
    sNil)))))
@[irreducible] def f_p_comes : Sem := runFn 4 2 b_p_comes
def b_l_roll : SVm :=
    (sSeq (sIf (tVal (eBin fGt (eBin fIx (eVar 0) (eC (.int 1))) (eC (.int 0))))
    (sSeq (sSet 2 (eBin fMod (eBin fIx (eVar 0) (eC (.int 1))) (eVar 1)))
    (sSeq (sSetIx putF 0 (eC (.int 1)) (eBin fDiv (eBin fIx (eVar 0) (eC (.int 1))) (eVar 1)))
    (sSeq (sRetV 2)
    sNil)))
    sNil)
    (sSeq (sSetIx putF 0 (eC (.int 0)) (eBin fMod (eBin fAdd (eBin fMul (eBin fIx (eVar 0) (eC (.int 0))) (eC (.int 48271))) (eC (.int 11))) (eC (.int 2147483647))))
    (sSeq (sRet (eBin fMod (eBin fDiv (eBin fIx (eVar 0) (eC (.int 0))) (eC (.int 7))) (eVar 1)))
    sNil)))
@[irreducible] def f_l_roll : Sem := runFn 2 1 b_l_roll
def b_l_more : SVm :=
    (sSeq (sIf (tOrT (tVal (eBin (fEqB false) (eBin fIx (eVar 0) (eC (.int 0))) (eC (.int 4)))) (tVal (eBin fGt (eBin fAdd (eAp (f1 fLen) (aCons (eBin fIx (eVar 0) (eC (.int 2))) aNil)) (eAp (f1 fLen) (aCons (eVar 3) aNil))) (eC (.int 8)))))
    (sSeq (sRet (eC (.str "deal")))
    sNil)
    sNil)
    (sSeq (sRet (eTup (aCons (eTup (aCons (eBin fAdd (eBin fIx (eVar 0) (eC (.int 0))) (eC (.int 1))) (aCons (eBin fIx (eVar 0) (eC (.int 1))) (aCons (eBin fAdd (eBin fIx (eVar 0) (eC (.int 2))) (eVar 3)) aNil)))) (aCons (eBin fAdd (eVar 1) (eTup (aCons (eVar 2) aNil))) aNil))))
    sNil))
@[irreducible] def f_l_more : Sem := runFn 4 0 b_l_more
def b_l_ties : SVm :=
    (sSeq (sSet 2 (eLst aNil))
    (sSeq (sFor (jRng1 (aCons (eAp (fCall f_l_roll) (aCons (eVar 0) (aCons (eC (.int 4)) aNil))) aNil)) (tgN 3)
    (sSeq (sSet 4 (eBin fIx (eLst (aCons (eTup (aCons (eBin fIx (eVar 1) (eC (.int 0))) (aCons (eAp (fCall f_l_roll) (aCons (eVar 0) (aCons (eBin fIx (eVar 1) (eC (.int 0))) aNil))) aNil))) (aCons (eTup (aCons (eAp (fCall f_l_roll) (aCons (eVar 0) (aCons (eBin fIx (eVar 1) (eC (.int 0))) aNil))) (aCons (eBin fIx (eVar 1) (eC (.int 0))) aNil))) aNil))) (eAp (fCall f_l_roll) (aCons (eVar 0) (aCons (eC (.int 2)) aNil)))))
    (sSeq (sIf (tVal (eBin (fEqB false) (eAp (fCall f_l_roll) (aCons (eVar 0) (aCons (eC (.int 3)) aNil))) (eC (.int 0))))
    (sSeq (sSet 4 (eTup (aCons (eAp (fCall f_l_roll) (aCons (eVar 0) (aCons (eBin fIx (eVar 1) (eC (.int 0))) aNil))) (aCons (eAp (fCall f_l_roll) (aCons (eVar 0) (aCons (eBin fIx (eVar 1) (eC (.int 0))) aNil))) aNil))))
    sNil)
    sNil)
    (sSeq (sIf (tAndT (tVal (eBin (fEqB true) (eBin fIx (eVar 4) (eC (.int 0))) (eBin fIx (eVar 4) (eC (.int 1))))) (tVal (eBin (fIn true) (eVar 4) (eLc putF [5] (xSeq (eBin fAdd (eVar 2) (eAp (f1 fList) (aCons (eBin fIx (eVar 1) (eC (.int 2))) aNil)))) (tgN 5) tTrue (eCut (eVar 5) oNone (oSome (eC (.int 2))))))))
    (sSeq (sApp putF 2 (eBin fAdd (eVar 4) (eTup (aCons (eBin fAdd (eC (.int 1)) (eAp (fCall f_l_roll) (aCons (eVar 0) (aCons (eC (.int 4)) aNil)))) aNil))))
    sNil)
    sNil)
    sNil))))
    (sSeq (sRet (eAp (f1 fTuple) (aCons (eVar 2) aNil)))
    sNil)))
@[irreducible] def f_l_ties : Sem := runFn 2 4 b_l_ties
def b_p_less : SVm :=
    (sSeq (sRet (eBin fSub (eVar 0) (eAp (f1 fInt) (aCons (eBin fGt (eVar 0) (eVar 1)) aNil))))
    sNil)
@[irreducible] def f_p_less : Sem := runFn 2 0 b_p_less
def b_p_leaves : SVm :=
    (sSeq (sExpr (eAp (fCall f_p_need_holding) (aCons (eVar 0) (aCons (eVar 1) aNil))))
    (sSeq (sSet 3 (eLst aNil))
    (sSeq (sFor (jSeq (eBin fIx (eVar 0) (eC (.int 2)))) (tgT [4, 5, 6])
    (sSeq (sIf (tAndT (tVal (eBin (fEqB true) (eVar 4) (eVar 2))) (tVal (eBin (fEqB true) (eVar 5) (eVar 2))))
    (sSeq (sApp putF 3 (eTup (aCons (eAp (fCall f_p_less) (aCons (eVar 4) (aCons (eVar 2) aNil))) (aCons (eAp (fCall f_p_less) (aCons (eVar 5) (aCons (eVar 2) aNil))) (aCons (eVar 6) aNil)))))
    sNil)
    sNil)
    sNil))
    (sSeq (sSet 7 (eTup (aCons (eBin fSub (eBin fIx (eVar 0) (eC (.int 0))) (eC (.int 1))) (aCons (eBin fIx (eVar 0) (eC (.int 1))) (aCons (eAp (f1 fTuple) (aCons (eVar 3) aNil)) aNil)))))
    (sSeq (sSet 8 (eBin fAdd (eCut (eVar 1) oNone (oSome (eVar 2))) (eCut (eVar 1) (oSome (eBin fAdd (eVar 2) (eC (.int 1)))) oNone)))
    (sSeq (sExpr (eAp (fCall f_p_need_holding) (aCons (eVar 7) (aCons (eVar 8) aNil))))
    (sSeq (sRet (eTup (aCons (eVar 7) (aCons (eVar 8) aNil))))
    sNil)))))))
@[irreducible] def f_p_leaves : Sem := runFn 3 6 b_p_leaves
def b_l_less : SVm :=
    (sSeq (sIf (tVal (eBin (fEqB false) (eBin fIx (eVar 0) (eC (.int 0))) (eC (.int 1))))
    (sSeq (sRet (eC (.str "deal")))
    sNil)
    sNil)
    (sSeq (sSet 3 (eLc putF [8] (xRng1 (aCons (eBin fIx (eVar 0) (eC (.int 0))) aNil)) (tgN 8) (tVal (eBin (fEqB true) (eVar 8) (eVar 2))) (eVar 8)))
    (sSeq (sSet 4 (eLst aNil))
    (sSeq (sFor (jSeq (eBin fIx (eVar 0) (eC (.int 2)))) (tgT [5, 6, 7])
    (sSeq (sIf (tAndT (tVal (eBin (fIn false) (eVar 5) (eVar 3))) (tVal (eBin (fIn false) (eVar 6) (eVar 3))))
    (sSeq (sApp putF 4 (eTup (aCons (eMt1 fLIdx (eVar 3) (eVar 5)) (aCons (eMt1 fLIdx (eVar 3) (eVar 6)) (aCons (eVar 7) aNil)))))
    sNil)
    sNil)
    sNil))
    (sSeq (sRet (eTup (aCons (eTup (aCons (eAp (f1 fLen) (aCons (eVar 3) aNil)) (aCons (eBin fIx (eVar 0) (eC (.int 1))) (aCons (eAp (f1 fTuple) (aCons (eVar 4) aNil)) aNil)))) (aCons (eAp (f1 fTuple) (aCons (eLc putF [8] (xSeq (eVar 3)) (tgN 8) tTrue (eBin fIx (eVar 1) (eVar 8))) aNil)) aNil))))
    sNil)))))
@[irreducible] def f_l_less : Sem := runFn 3 6 b_l_less
def b_l_dice : SVm :=
    (sSeq (sRet (eLst (aCons (eBin fMod (eVar 0) (eC (.int 2147483647))) (aCons (eBin fMul (eBin fDiv (eVar 0) (eC (.int 2147483647))) (eAp (f1 fInt) (aCons (eBin fGe (eVar 0) (eBin fPow (eC (.int 10)) (eC (.int 18)))) aNil))) aNil))))
    sNil)
@[irreducible] def f_l_dice : Sem := runFn 1 0 b_l_dice
def b_l_cell_at : SVm :=
    (sSeq (sIf (tVal (eBin fLt (eVar 1) (eAp (f1 fLen) (aCons (eVar 0) aNil))))
    (sSeq (sRet (eBin fIx (eVar 0) (eVar 1)))
    sNil)
    sNil)
    (sSeq (sRet (eC (.int 0)))
    sNil))
@[irreducible] def f_l_cell_at : Sem := runFn 2 0 b_l_cell_at
def b_l_holding : SVm :=
    (sSeq (sSet 2 (eLc putR [7] (xRng1 (aCons (eBin fIx (eVar 1) (eC (.int 0))) aNil)) (tgN 7) tTrue (eLst aNil)))
    (sSeq (sSet 3 (eAp (fCall f_l_roll) (aCons (eVar 0) (aCons (eC (.int 3)) aNil))))
    (sSeq (sSet 4 (eAp (fCall f_l_roll) (aCons (eVar 0) (aCons (eBin fIx (eVar 1) (eC (.int 0))) aNil))))
    (sSeq (sFor (jRng1 (aCons (eBin fIx (eVar 1) (eC (.int 1))) aNil)) (tgN 5)
    (sSeq (sIf (tOrT (tVal (eBin (fEqB false) (eVar 3) (eC (.int 0)))) (tVal (eBin fGt (eAp (fCall f_l_roll) (aCons (eVar 0) (aCons (eC (.int 9)) aNil))) (eC (.int 0)))))
    (sSeq (sAppE putF (eBin fIx (eVar 2) (eBin fIx (eLst (aCons (eVar 4) (aCons (eAp (fCall f_l_roll) (aCons (eVar 0) (aCons (eBin fIx (eVar 1) (eC (.int 0))) aNil))) aNil))) (eAp (f1 fInt) (aCons (eBin fGt (eVar 3) (eC (.int 0))) aNil)))) (eVar 5))
    sNil)
    sNil)
    (sSeq (sFor (jVar 2) (tgN 6)
    (sSeq (sIf (tAndT (tVal (eBin (fEqB false) (eVar 3) (eC (.int 2)))) (tAndT (tVal (eBin (fIn true) (eVar 5) (eVar 6))) (tVal (eBin (fEqB false) (eAp (fCall f_l_roll) (aCons (eVar 0) (aCons (eC (.int 3)) aNil))) (eC (.int 0))))))
    (sSeq (sApp putF 6 (eVar 5))
    sNil)
    sNil)
    sNil))
    sNil)))
    (sSeq (sRet (eAp (f1 fTuple) (aCons (eLc putF [6] (xSeq (eVar 2)) (tgN 6) tTrue (eAp (f1 fTuple) (aCons (eAp (f1 fSort2) (aCons (eVar 6) aNil)) aNil))) aNil)))
    sNil)))))
@[irreducible] def f_l_holding : Sem := runFn 2 6 b_l_holding
def b_l_deal : SVm :=
    (sSeq (sSet 3 (eBin fAdd (eC (.int 1)) (eAp (fCall f_l_roll) (aCons (eVar 0) (aCons (eVar 1) aNil)))))
    (sSeq (sSet 4 (eBin fAdd (eC (.int 1)) (eAp (fCall f_l_roll) (aCons (eVar 0) (aCons (eVar 2) aNil)))))
    (sSeq (sSet 5 (eLst aNil))
    (sSeq (sSet 6 (eAp (fCall f_l_roll) (aCons (eVar 0) (aCons (eC (.int 3)) aNil))))
    (sSeq (sSet 7 (eBin fMul (eLc putF [8] (xRng1 (aCons (eVar 3) aNil)) (tgN 8) tTrue (eTup (aCons (eVar 8) (aCons (eBin fMod (eBin fAdd (eVar 8) (eC (.int 1))) (eVar 3)) aNil)))) (eAp (f1 fInt) (aCons (eAnd (eBin (fEqB false) (eVar 6) (eC (.int 0))) (eBin fGt (eVar 3) (eC (.int 1)))) aNil))))
    (sSeq (sFor (jRng1 (aCons (eAp (fCall f_l_roll) (aCons (eVar 0) (aCons (eC (.int 9)) aNil))) aNil)) (tgN 8)
    (sSeq (sSet 9 (eAp (fCall f_l_roll) (aCons (eVar 0) (aCons (eVar 3) aNil))))
    (sSeq (sSet 10 (eAp (fCall f_l_roll) (aCons (eVar 0) (aCons (eVar 3) aNil))))
    (sSeq (sIf (tVal (eBin (fEqB true) (eVar 9) (eVar 10)))
    (sSeq (sApp putF 7 (eTup (aCons (eVar 9) (aCons (eVar 10) aNil))))
    sNil)
    sNil)
    sNil))))
    (sSeq (sFor (jRng1 (aCons (eAp (f1 fLen) (aCons (eVar 7) aNil)) aNil)) (tgN 8)
    (sSeq (sSet 11 (eBin fAdd (eC (.int 1)) (eBin fIx (eLst (aCons (eC (.int 0)) (aCons (eAp (fCall f_l_roll) (aCons (eVar 0) (aCons (eC (.int 2)) aNil))) (aCons (eAp (fCall f_l_roll) (aCons (eVar 0) (aCons (eC (.int 4)) aNil))) aNil)))) (eAp (fCall f_l_roll) (aCons (eVar 0) (aCons (eC (.int 3)) aNil))))))
    (sSeq (sIf (tAndT (tVal (eBin (fIn true) (eBin fIx (eVar 7) (eVar 8)) (eCut (eVar 7) oNone (oSome (eVar 8))))) (tVal (eBin fLt (eAp (f1 fLen) (aCons (eVar 5) aNil)) (eC (.int 8)))))
    (sSeq (sApp putF 5 (eBin fAdd (eBin fIx (eVar 7) (eVar 8)) (eTup (aCons (eVar 11) aNil))))
    sNil)
    sNil)
    sNil)))
    (sSeq (sRet (eTup (aCons (eVar 3) (aCons (eVar 4) (aCons (eAp (f1 fTuple) (aCons (eVar 5) aNil)) aNil)))))
    sNil))))))))
@[irreducible] def f_l_deal : Sem := runFn 3 9 b_l_deal
def b_l_some : SVm :=
    (sSeq (sSetR 2 (eAp (fCall f_l_dice) (aCons (eAp (fCall f_l_cell_at) (aCons (eVar 0) (aCons (eC (.int 0)) aNil))) aNil)))
    (sSeq (sTgt (tgT [3, 4]) (eBin fIx (eVar 1) (eBin fMod (eAp (fCall f_l_cell_at) (aCons (eVar 0) (aCons (eC (.int 1)) aNil))) (eAp (f1 fLen) (aCons (eVar 1) aNil)))))
    (sSeq (sSet 5 (eAp (fCall f_l_deal) (aCons (eVar 2) (aCons (eVar 3) (aCons (eVar 4) aNil)))))
    (sSeq (sRet (eTup (aCons (eVar 5) (aCons (eAp (fCall f_l_holding) (aCons (eVar 2) (aCons (eVar 5) aNil))) aNil))))
    sNil))))
@[irreducible] def f_l_some : Sem := runFn 2 4 b_l_some
abbrev M_l_word : Nat := 2
abbrev KL_l_word : Nat := 4
def b_l_word (th : Stor → Out R) : SVm :=
    (sSeq (sTry (fun _ => true) 1
    (sSeq (sRet (eThk 0 th))
    sNil)
    (sSeq (sSet 2 (eLst (aCons (eIsX (isTab kitT) 1 (eC (.glo "BadDeal"))) (aCons (eIsX (isTab kitT) 1 (eC (.glo "BadHolding"))) aNil))))
    (sSeq (sIf (tOrT (tVal (eIsX (isTab kitT) 1 (eTup (aCons (eC (.glo "BadRound")) (aCons (eC (.glo "BadText")) (aCons (eC (.glo "NoDeal")) aNil)))))) (tOrT (tVal (eBin (fEqB true) (eMt1 fLCnt (eVar 2) (eC (.bl true))) (eC (.int 1)))) (tNotT (tVal (eIsT (fun _ => true) 1)))))
    (sSeq (sRet (eC (.str "other")))
    sNil)
    sNil)
    (sSeq (sRet (eBin fIx (eLst (aCons (eC (.str "deal")) (aCons (eC (.str "holding")) aNil))) (eMt1 fLIdx (eVar 2) (eC (.bl true)))))
    sNil))))
    sNil)
def b_p_law : SVm :=
    (sSeq (sTgt (tgT [1, 2]) (eAp (fCall f_l_some) (aCons (eVar 0) (aCons (eLst (aCons (eTup (aCons (eC (.int 4)) (aCons (eC (.int 4)) aNil))) (aCons (eTup (aCons (eC (.int 3)) (aCons (eC (.int 4)) aNil))) aNil))) aNil))))
    (sSeq (sSetR 3 (eAp (fCall f_l_dice) (aCons (eAp (fCall f_l_cell_at) (aCons (eVar 0) (aCons (eC (.int 2)) aNil))) aNil)))
    (sSeq (sFor (jRng1 (aCons (eBin fIx (eVar 1) (eC (.int 0))) aNil)) (tgN 4)
    (sSeq (sIf (tVal (eBin (fEqB true) (eLam "law.<locals>.<lambda>" M_l_word b_l_word (eAp (fCall f_p_leaves) (aCons (eVar 1) (aCons (eVar 2) (aCons (eVar 4) aNil))))) (eAp (fCall f_l_less) (aCons (eVar 1) (aCons (eVar 2) (aCons (eVar 4) aNil))))))
    (sSeq (sRet (eC (.bl false)))
    sNil)
    sNil)
    sNil))
    (sSeq (sFor (jRng1 (aCons (eC (.int 3)) aNil)) (tgN 5)
    (sSeq (sSet 6 (eAp (fCall f_l_ties) (aCons (eVar 3) (aCons (eVar 1) aNil))))
    (sSeq (sSet 7 (eAp (f1 fTuple) (aCons (eLc putF [12] (xRng1 (aCons (eBin fIx (eVar 1) (eC (.int 1))) aNil)) (tgN 12) (tVal (eBin (fEqB false) (eAp (fCall f_l_roll) (aCons (eVar 3) (aCons (eC (.int 2)) aNil))) (eC (.int 0)))) (eVar 12)) aNil)))
    (sSeq (sSet 8 (eAp (fCall f_l_more) (aCons (eVar 1) (aCons (eVar 2) (aCons (eVar 7) (aCons (eVar 6) aNil))))))
    (sSeq (sIf (tVal (eBin (fEqB true) (eLam "law.<locals>.<lambda>" M_l_word b_l_word (eAp (fCall f_p_comes) (aCons (eVar 1) (aCons (eVar 2) (aCons (eVar 7) (aCons (eVar 6) aNil)))))) (eVar 8)))
    (sSeq (sRet (eC (.bl false)))
    sNil)
    sNil)
    (sSeq (sSet 9 (eBin fAdd (eBin fAdd (eBin fIx (eVar 1) (eC (.int 0))) (eC (.int 1))) (eAp (fCall f_l_roll) (aCons (eVar 3) (aCons (eC (.int 9)) aNil)))))
    (sSeq (sSet 10 (eLst (aCons (eTup (aCons (eTup (aCons (eBin fIx (eVar 1) (eC (.int 0))) (aCons (eVar 9) (aCons (eC (.int 1)) aNil)))) aNil)) (aCons (eTup (aCons (eTup (aCons (eVar 9) (aCons (eC (.int 0)) (aCons (eC (.int 1)) aNil)))) aNil)) (aCons (eTup (aCons (eTup (aCons (eBin fIx (eVar 1) (eC (.int 0))) (aCons (eC (.int 0)) (aCons (eC (.int 0)) aNil)))) aNil)) aNil)))))
    (sSeq (sSet 10 (eBin fAdd (eBin fAdd (eVar 10) (eLst (aCons (eBin fMulT (eTup (aCons (eTup (aCons (eBin fIx (eVar 1) (eC (.int 0))) (aCons (eC (.int 0)) (aCons (eC (.int 1)) aNil)))) aNil)) (eC (.int 2))) (aCons (eLst (aCons (eTup (aCons (eBin fIx (eVar 1) (eC (.int 0))) (aCons (eC (.int 0)) (aCons (eC (.int 1)) aNil)))) aNil)) (aCons (eC .non) aNil))))) (eLc putF [13] (xSeq (eCut (eBin fIx (eVar 1) (eC (.int 2))) oNone (oSome (eC (.int 2))))) (tgN 13) tTrue (eTup (aCons (eBin fAdd (eCut (eVar 13) oNone (oSome (eC (.int 2)))) (eTup (aCons (eC (.int 1)) aNil))) aNil)))))
    (sSeq (sIf (tVal (eBin (fEqB true) (eLam "law.<locals>.<lambda>" M_l_word b_l_word (eAp (fCall f_p_comes) (aCons (eVar 1) (aCons (eVar 2) (aCons (eVar 7) (aCons (eBin fIx (eVar 10) (eAp (fCall f_l_roll) (aCons (eVar 3) (aCons (eAp (f1 fLen) (aCons (eVar 10) aNil)) aNil)))) aNil)))))) (eC (.str "deal"))))
    (sSeq (sRet (eC (.bl false)))
    sNil)
    sNil)
    (sSeq (sSet 11 (eBin fIx (eLst (aCons (eTup (aCons (eBin fIx (eVar 1) (eC (.int 1))) aNil)) (aCons (eLst (aCons (eC (.int 0)) aNil)) (aCons (eC .non) (aCons (eTup (aCons (eC (.int 0)) (aCons (eC (.int 0)) aNil))) (aCons (eTup (aCons (eUn fNeg (eC (.int 1))) aNil)) aNil)))))) (eAp (fCall f_l_roll) (aCons (eVar 3) (aCons (eC (.int 5)) aNil)))))
    (sSeq (sIf (tAndT (tVal (eBin (fEqB true) (eVar 8) (eC (.str "deal")))) (tVal (eBin (fEqB true) (eLam "law.<locals>.<lambda>" M_l_word b_l_word (eAp (fCall f_p_comes) (aCons (eVar 1) (aCons (eVar 2) (aCons (eVar 11) (aCons (eVar 6) aNil)))))) (eC (.str "holding")))))
    (sSeq (sRet (eC (.bl false)))
    sNil)
    sNil)
    sNil)))))))))))
    (sSeq (sRet (eC (.bl true)))
    sNil)))))
@[irreducible] def f_p_law : Sem := runFn 1 13 b_p_law
end PT

local macro_rules | `(tactic| walk_at "ev") => `(tactic| repeat (first
  | (with_reducible refine' PD.g_R ?_; (first
    | with_reducible refine' PD.r_var (by (with_unfolding_all exact rfl)) ?_
    | with_reducible refine' PD.r_c ?_
    | with_reducible refine' PD.r_bin ?_
    | with_reducible refine' PD.r_ap ?_
    | with_reducible refine' PD.r_f1 ?_
    | with_reducible refine' PD.r_un ?_
    | with_reducible refine' PD.r_call (by (with_unfolding_all exact rfl)) ?_
    | with_reducible refine' PD.r_addI ?_
    | with_reducible refine' PD.r_sub ?_
    | with_reducible refine' PD.r_ix (by first | (with_unfolding_all exact rfl) | assumption) (by (with_unfolding_all exact rfl)) ?_
    | with_reducible refine' PD.r_len (by first | (with_unfolding_all exact rfl) | assumption) ?_
    | with_reducible refine' PD.r_lt ?_
    | with_reducible refine' PD.r_le ?_
    | with_reducible refine' PD.r_gt ?_
    | with_reducible refine' PD.r_ge ?_
    | with_reducible refine' PD.r_eqI ?_
    | with_reducible refine' PD.r_neI ?_
    | with_reducible refine' PD.r_isi (by (with_unfolding_all exact rfl)) (by first | (show _ = true; with_unfolding_all rfl) | (show _ = false; with_unfolding_all rfl)) ?_
    | with_reducible refine' PD.r_tup ?_
    | with_reducible refine' PD.r_lst ?_
    | with_reducible refine' PD.r_not ?_
    | with_reducible refine' PD.r_and ?_
    | with_reducible refine' PD.r_or ?_
    | with_reducible refine' PD.r_if ?_
    | with_reducible refine' PD.r_lc ?_
    | with_reducible refine' PD.r_tupleT ?_
    | with_reducible refine' PD.r_tupleL (by first | (with_unfolding_all exact rfl) | assumption) ?_
    | with_reducible refine' PD.r_list (by first | (with_unfolding_all exact rfl) | assumption) ?_
    | with_reducible refine' PD.r_chain ?_
    | with_reducible refine' PD.r_cut ?_
    | with_reducible refine' PD.r_cutT ?_
    | with_reducible refine' PD.r_cutL (by first | (with_unfolding_all exact rfl) | assumption) ?_
    | with_reducible refine' PD.r_mod (by first | omega | assumption) ?_
    | with_reducible refine' PD.r_div (by first | omega | assumption) (by first | omega | assumption) ?_
    | with_reducible refine' PD.r_pow (by decide) ?_
    | with_reducible refine' PD.r_mulI (by omega) ?_
    | with_reducible refine' PD.r_neg ?_
    | with_reducible refine' PD.r_intI ?_
    | with_reducible refine' PD.r_intB ?_
    | with_reducible refine' PD.r_isX (by (with_unfolding_all exact rfl)) ?_
    | with_reducible refine' PD.r_isT (by (with_unfolding_all exact rfl)) (by first | (show _ = true; with_unfolding_all rfl) | (show _ = false; with_unfolding_all rfl)) ?_
    | with_reducible refine' PD.r_fld (by (with_unfolding_all exact rfl)) (by (with_unfolding_all exact rfl)) (by (with_unfolding_all exact rfl)) ?_
    | with_reducible refine' PD.r_addT (by (first | decide | (simp only [List.length_cons, List.length_nil]; omega))) ?_
    | with_reducible refine' PD.r_back ?_
    | with_reducible refine' PD.r_lstRg (by omega) (by omega) ?_
    | with_reducible refine' PD.r_min2 ?_
    | with_reducible refine' PD.r_max2 ?_))
  | (with_reducible refine' PD.g_L ?_; (first
    | with_reducible refine' PD.r_cons ?_
    | with_reducible refine' PD.r_nil ?_))
  | (with_reducible refine' PD.g_S ?_; (first
    | with_reducible refine' PD.r_seq ?_
    | with_reducible refine' PD.r_snil ?_
    | with_reducible refine' PD.r_set ?_
    | with_reducible refine' PD.r_sif ?_
    | with_reducible refine' PD.r_expr ?_
    | with_reducible refine' PD.r_ret ?_
    | with_reducible refine' PD.r_retV (by (with_unfolding_all exact rfl)) ?_
    | with_reducible refine' PD.r_for ?_
    | with_reducible refine' PD.r_pass ?_
    | with_reducible refine' PD.r_break ?_
    | with_reducible refine' PD.r_scont ?_
    | with_reducible refine' PD.r_retN ?_
    | with_reducible refine' PD.r_setR ?_
    | with_reducible refine' PD.r_tgt ?_
    | with_reducible refine' PD.r_app (by (with_unfolding_all exact rfl)) ?_
    | with_reducible refine' PD.r_raise0 ?_
    | with_reducible refine' PD.r_raise2 ?_
    | with_reducible refine' PD.r_try ?_
    | with_reducible refine' PD.r_rev (by (with_unfolding_all exact rfl)) ?_
    | with_reducible refine' PD.r_appE ?_))
  | (with_reducible refine' PD.g_B ?_; (first
    | with_reducible refine' PD.r_tval ?_
    | with_reducible refine' PD.r_tnot ?_
    | with_reducible refine' PD.r_tand ?_
    | with_reducible refine' PD.r_tor ?_
    | with_reducible refine' PD.r_ttrue ?_))
  | (with_reducible refine' PD.g_E ?_; (first
    | with_reducible refine' PD.r_onone ?_
    | with_reducible refine' PD.r_osome ?_
    | with_reducible refine' PD.r_xseq ?_
    | with_reducible refine' PD.r_xrng1 ?_
    | with_reducible refine' PD.r_xrng2 ?_
    | with_reducible refine' PD.r_jseq ?_
    | with_reducible refine' PD.r_jrng1 ?_
    | with_reducible refine' PD.r_jrng2 ?_
    | with_reducible refine' PD.r_jvar (by (with_unfolding_all exact rfl)) ?_
    | with_reducible refine' PD.r_jenT ?_
    | with_reducible refine' PD.r_jzip ?_))
  | with_reducible refine' PD.r_ifT ?_
  | with_reducible refine' PD.r_ifF ?_
  | with_reducible refine' PD.r_ifN ?_
  | with_reducible refine' PD.r_ifM ?_
  | with_reducible refine' PD.r_ifP (by with_unfolding_all exact rfl) ?_
  | with_reducible refine' PD.r_ifQ (by with_unfolding_all exact rfl) ?_
  | (with_reducible refine' PD.k_set (by (with_unfolding_all exact rfl)) (by (with_unfolding_all exact rfl)) ?_; (try simp only [List.set_cons_zero, List.set_cons_succ]))
  | with_reducible refine' PD.k_B ?_
  | with_reducible refine' PD.k_disp (by (with_unfolding_all exact rfl)) (by (first | decide | (simp only [List.length_cons, List.length_nil]; omega))) ?_
  | with_reducible refine' PD.k_retD ?_
  | with_reducible refine' PD.k_retN ?_
  | with_reducible refine' PD.k_O ?_
  | with_reducible refine' PD.k_seq (by (with_unfolding_all exact rfl)) ?_
  | with_reducible refine' PD.k_J (by (with_unfolding_all exact rfl)) ?_
  | with_reducible refine' PD.k_rng1 (by omega) (by omega) ?_
  | with_reducible refine' PD.k_rng2 (by omega) (by omega) (by omega) (by omega) ?_
  | with_reducible refine' PD.k_tgt (by (with_unfolding_all exact rfl)) ?_
  | with_reducible refine' PD.r_wFx ?_
  | with_reducible refine' PD.k_R2 ?_
  | with_reducible refine' PD.k_isX (by first | (show _ = some true; with_unfolding_all rfl) | (show _ = some false; with_unfolding_all rfl)) ?_
  | with_reducible refine' PD.k_enT ?_
  | with_reducible refine' PD.k_zip ?_))
local macro_rules | `(tactic| walk_at "st") => `(tactic| first
  | (with_reducible refine' PD.g_R ?_; (first
    | with_reducible refine' PD.r_var (by (with_unfolding_all exact rfl)) ?_
    | with_reducible refine' PD.r_c ?_
    | with_reducible refine' PD.r_bin ?_
    | with_reducible refine' PD.r_ap ?_
    | with_reducible refine' PD.r_f1 ?_
    | with_reducible refine' PD.r_un ?_
    | with_reducible refine' PD.r_call (by (with_unfolding_all exact rfl)) ?_
    | with_reducible refine' PD.r_addI ?_
    | with_reducible refine' PD.r_sub ?_
    | with_reducible refine' PD.r_ix (by first | (with_unfolding_all exact rfl) | assumption) (by (with_unfolding_all exact rfl)) ?_
    | with_reducible refine' PD.r_len (by first | (with_unfolding_all exact rfl) | assumption) ?_
    | with_reducible refine' PD.r_lt ?_
    | with_reducible refine' PD.r_le ?_
    | with_reducible refine' PD.r_gt ?_
    | with_reducible refine' PD.r_ge ?_
    | with_reducible refine' PD.r_eqI ?_
    | with_reducible refine' PD.r_neI ?_
    | with_reducible refine' PD.r_isi (by (with_unfolding_all exact rfl)) (by first | (show _ = true; with_unfolding_all rfl) | (show _ = false; with_unfolding_all rfl)) ?_
    | with_reducible refine' PD.r_tup ?_
    | with_reducible refine' PD.r_lst ?_
    | with_reducible refine' PD.r_not ?_
    | with_reducible refine' PD.r_and ?_
    | with_reducible refine' PD.r_or ?_
    | with_reducible refine' PD.r_if ?_
    | with_reducible refine' PD.r_lc ?_
    | with_reducible refine' PD.r_tupleT ?_
    | with_reducible refine' PD.r_tupleL (by first | (with_unfolding_all exact rfl) | assumption) ?_
    | with_reducible refine' PD.r_list (by first | (with_unfolding_all exact rfl) | assumption) ?_
    | with_reducible refine' PD.r_chain ?_
    | with_reducible refine' PD.r_cut ?_
    | with_reducible refine' PD.r_cutT ?_
    | with_reducible refine' PD.r_cutL (by first | (with_unfolding_all exact rfl) | assumption) ?_
    | with_reducible refine' PD.r_mod (by first | omega | assumption) ?_
    | with_reducible refine' PD.r_div (by first | omega | assumption) (by first | omega | assumption) ?_
    | with_reducible refine' PD.r_pow (by decide) ?_
    | with_reducible refine' PD.r_mulI (by omega) ?_
    | with_reducible refine' PD.r_neg ?_
    | with_reducible refine' PD.r_intI ?_
    | with_reducible refine' PD.r_intB ?_
    | with_reducible refine' PD.r_isX (by (with_unfolding_all exact rfl)) ?_
    | with_reducible refine' PD.r_isT (by (with_unfolding_all exact rfl)) (by first | (show _ = true; with_unfolding_all rfl) | (show _ = false; with_unfolding_all rfl)) ?_
    | with_reducible refine' PD.r_fld (by (with_unfolding_all exact rfl)) (by (with_unfolding_all exact rfl)) (by (with_unfolding_all exact rfl)) ?_
    | with_reducible refine' PD.r_addT (by (first | decide | (simp only [List.length_cons, List.length_nil]; omega))) ?_
    | with_reducible refine' PD.r_back ?_
    | with_reducible refine' PD.r_lstRg (by omega) (by omega) ?_
    | with_reducible refine' PD.r_min2 ?_
    | with_reducible refine' PD.r_max2 ?_))
  | (with_reducible refine' PD.g_L ?_; (first
    | with_reducible refine' PD.r_cons ?_
    | with_reducible refine' PD.r_nil ?_))
  | (with_reducible refine' PD.g_S ?_; (first
    | with_reducible refine' PD.r_seq ?_
    | with_reducible refine' PD.r_snil ?_
    | with_reducible refine' PD.r_set ?_
    | with_reducible refine' PD.r_sif ?_
    | with_reducible refine' PD.r_expr ?_
    | with_reducible refine' PD.r_ret ?_
    | with_reducible refine' PD.r_retV (by (with_unfolding_all exact rfl)) ?_
    | with_reducible refine' PD.r_for ?_
    | with_reducible refine' PD.r_pass ?_
    | with_reducible refine' PD.r_break ?_
    | with_reducible refine' PD.r_scont ?_
    | with_reducible refine' PD.r_retN ?_
    | with_reducible refine' PD.r_setR ?_
    | with_reducible refine' PD.r_tgt ?_
    | with_reducible refine' PD.r_app (by (with_unfolding_all exact rfl)) ?_
    | with_reducible refine' PD.r_raise0 ?_
    | with_reducible refine' PD.r_raise2 ?_
    | with_reducible refine' PD.r_try ?_
    | with_reducible refine' PD.r_rev (by (with_unfolding_all exact rfl)) ?_
    | with_reducible refine' PD.r_appE ?_))
  | (with_reducible refine' PD.g_B ?_; (first
    | with_reducible refine' PD.r_tval ?_
    | with_reducible refine' PD.r_tnot ?_
    | with_reducible refine' PD.r_tand ?_
    | with_reducible refine' PD.r_tor ?_
    | with_reducible refine' PD.r_ttrue ?_))
  | (with_reducible refine' PD.g_E ?_; (first
    | with_reducible refine' PD.r_onone ?_
    | with_reducible refine' PD.r_osome ?_
    | with_reducible refine' PD.r_xseq ?_
    | with_reducible refine' PD.r_xrng1 ?_
    | with_reducible refine' PD.r_xrng2 ?_
    | with_reducible refine' PD.r_jseq ?_
    | with_reducible refine' PD.r_jrng1 ?_
    | with_reducible refine' PD.r_jrng2 ?_
    | with_reducible refine' PD.r_jvar (by (with_unfolding_all exact rfl)) ?_
    | with_reducible refine' PD.r_jenT ?_
    | with_reducible refine' PD.r_jzip ?_))
  | with_reducible refine' PD.r_ifT ?_
  | with_reducible refine' PD.r_ifF ?_
  | with_reducible refine' PD.r_ifN ?_
  | with_reducible refine' PD.r_ifM ?_
  | with_reducible refine' PD.r_ifP (by with_unfolding_all exact rfl) ?_
  | with_reducible refine' PD.r_ifQ (by with_unfolding_all exact rfl) ?_
  | (with_reducible refine' PD.k_set (by (with_unfolding_all exact rfl)) (by (with_unfolding_all exact rfl)) ?_; (try simp only [List.set_cons_zero, List.set_cons_succ]))
  | with_reducible refine' PD.k_B ?_
  | with_reducible refine' PD.k_disp (by (with_unfolding_all exact rfl)) (by (first | decide | (simp only [List.length_cons, List.length_nil]; omega))) ?_
  | with_reducible refine' PD.k_retD ?_
  | with_reducible refine' PD.k_retN ?_
  | with_reducible refine' PD.k_O ?_
  | with_reducible refine' PD.k_seq (by (with_unfolding_all exact rfl)) ?_
  | with_reducible refine' PD.k_J (by (with_unfolding_all exact rfl)) ?_
  | with_reducible refine' PD.k_rng1 (by omega) (by omega) ?_
  | with_reducible refine' PD.k_rng2 (by omega) (by omega) (by omega) (by omega) ?_
  | with_reducible refine' PD.k_tgt (by (with_unfolding_all exact rfl)) ?_
  | with_reducible refine' PD.r_wFx ?_
  | with_reducible refine' PD.k_R2 ?_
  | with_reducible refine' PD.k_isX (by first | (show _ = some true; with_unfolding_all rfl) | (show _ = some false; with_unfolding_all rfl)) ?_
  | with_reducible refine' PD.k_enT ?_
  | with_reducible refine' PD.k_zip ?_)

namespace PM
open PySem PySem.Spec PyProof.Rows L2 PD PT
theorem gset_self {α : Type} {l : List α} {i : Nat} {x y : α} (h : l[i]? = some y) : (l.set i x)[i]? = some x := List.getElem?_set_self (List.getElem?_eq_some_iff.mp h).1
/-- the dice: two numbers in the store -/
structure Dc (st : Stor) (i : Nat) (a b : Int) : Prop where
  at' : st[i]? = some (.lst [.int a, .int b])
  a0 : 0 ≤ a
  a1 : a < 2147483647
  b0 : 0 ≤ b
theorem Dc.seq {st : Stor} {i : Nat} {a b : Int} (h : Dc st i a b) : seqOf st (.dat (.ref i)) = some [.int a, .int b] := by
  unfold seqOf; dsimp only; rw [h.at']
theorem Dc.mk' {st : Stor} {i : Nat} {a b a' b' : Int} (h : Dc st i a b) (h1 : 0 ≤ a') (h2 : a' < 2147483647) (h3 : 0 ≤ b') : Dc (st.set i (.lst [.int a', .int b'])) i a' b' := ⟨gset_self h.at', h1, h2, h3⟩
theorem roll_w {st : Stor} {i : Nat} {a b m : Int} {P : R → Stor → Prop} {Q : Xc → Stor → Prop} (h : Dc st i a b) (m1 : 1 ≤ m) (m2 : m < 2 ^ 62) (k : ∀ r a' b', 0 ≤ r → r < m → Dc (st.set i (.lst [.int a', .int b'])) i a' b' → P (.dat (.int r)) (st.set i (.lst [.int a', .int b']))) : wE (f_l_roll [.dat (.ref i), .dat (.int m)] st) P Q := by
  have hs := h.seq
  obtain ⟨h1, h2, h3, h4⟩ := id h
  unfold f_l_roll b_l_roll
  refine r_run (env := [some (.dat (.ref i)), some (.dat (.int m)), none]) rfl rfl ?_
  walk_at "ev"
  refine r_ite (fun c => ?_) (fun c => ?_)
  · walk_at "ev"
    refine r_setIxR rfl ?_
    walk_at "ev"
    refine ⟨_, _, rfl, ?_⟩
    walk_at "ev"
    refine ⟨1, 1, [.int a, .int b], rfl, h1, rfl, ?_⟩
    walk_at "ev"
    refine k_gc (by simp) ?_
    exact k _ a (b / m) (Int.emod_nonneg _ (by omega)) (Int.emod_lt_of_pos _ (by omega)) (h.mk' h2 h3 (Int.ediv_nonneg h4 (by omega)))
  · walk_at "ev"
    refine r_setIxR rfl ?_
    walk_at "ev"
    refine ⟨_, _, rfl, ?_⟩
    walk_at "ev"
    refine ⟨0, 0, [.int a, .int b], rfl, h1, rfl, ?_⟩
    have hd := h.mk' (a' := (a * 48271 + 11) % 2147483647) (b' := b) (Int.emod_nonneg _ (by omega)) (Int.emod_lt_of_pos _ (by omega)) h4
    have hs2 := hd.seq
    simp only [List.set_cons_zero]
    walk_at "ev"
    refine k_gc (by simp) ?_
    exact k _ _ b (Int.emod_nonneg _ (by omega)) (Int.emod_lt_of_pos _ (by omega)) hd
/-- the store but for the dice -/
def Dst (st0 : Stor) (i : Nat) (st : Stor) : Prop := ∃ a b, st = st0.set i (.lst [.int a, .int b]) ∧ Dc st i a b
theorem Dst.of {st : Stor} {i : Nat} {a b : Int} (h : Dc st i a b) : Dst st i st := ⟨a, b, by
  apply List.ext_getElem?
  intro j
  by_cases q : i = j
  · subst q
    rw [gset_self h.at', h.at']
  · rw [List.getElem?_set_ne q], h⟩
theorem Dst.len {st0 st : Stor} {i : Nat} (h : Dst st0 i st) : st.length = st0.length := by
  obtain ⟨a, b, rfl, _⟩ := h
  rw [List.length_set]
theorem roll_d {st0 st : Stor} {i : Nat} {m : Int} {P : R → Stor → Prop} {Q : Xc → Stor → Prop} (h : Dst st0 i st) (m1 : 1 ≤ m) (m2 : m < 2 ^ 62) (k : ∀ r st', 0 ≤ r → r < m → Dst st0 i st' → P (.dat (.int r)) st') : wE (f_l_roll [.dat (.ref i), .dat (.int m)] st) P Q := by
  obtain ⟨a, b, e, hd⟩ := h
  refine roll_w hd m1 m2 fun r a' b' h1 h2 hd' => k r _ h1 h2 ⟨a', b', ?_, hd'⟩
  rw [e, List.set_set]
theorem rngD_at {lo : Int} {n j : Nat} {d : D} (h : (rngD lo n)[j]? = some d) : d = .int (lo + j) ∧ j < n := by
  have hl := (List.getElem?_eq_some_iff.mp h).1
  rw [rngD_length] at hl
  unfold rngD at h
  rw [List.getElem?_map, List.getElem?_range hl] at h
  cases h
  exact ⟨rfl, hl⟩
theorem sh_e {α : Type} [DecidableEq α] {f : α → D} {n : Nat} (h : En f n) (hn : n ≤ 20) (x : α) : D.sh 20 (f x) = true := (h.up hn).sh x
theorem sh_lst {α : Type} [DecidableEq α] {f : α → D} {n : Nat} (h : En f n) (hn : n ≤ 19) (xs : List α) : D.sh 20 (.lst (xs.map f)) = true := (h.up hn).shs xs
theorem sh_tup {α : Type} [DecidableEq α] {f : α → D} {n : Nat} (h : En f n) (hn : n ≤ 19) (xs : List α) : D.sh 20 (.tup (xs.map f)) = true := (h.up hn).shs xs
theorem atI_nat {α : Type} {xs : List α} {j : Nat} {x : α} (h : xs[j]? = some x) : atI xs (j : Int) = some x := by
  have hl := (List.getElem?_eq_some_iff.mp h).1
  unfold L2.atI L2.ixN
  rw [if_pos (by omega), if_pos (by omega)]
  exact h
/-! ### deals -/
structure GoodDeal (h p : Int) (ts : List (Int × Int × Int)) : Prop where
  h1 : 1 ≤ h
  h4 : h ≤ 4
  p1 : 1 ≤ p
  p4 : p ≤ 4
  len : ts.length ≤ 8
  ok : ∀ t ∈ ts, 0 ≤ t.1 ∧ t.1 < h ∧ 0 ≤ t.2.1 ∧ t.2.1 < h ∧ t.1 ≠ t.2.1 ∧ 1 ≤ t.2.2 ∧ t.2.2 ≤ 4
  nd : (ts.map fun t => (t.1, t.2.1)).Nodup
def eDeal (h p : Int) (ts : List (Int × Int × Int)) : D := .tup [.int h, .int p, eL eT ts]
structure PsOk (h : Int) (ps : List (Int × Int)) : Prop where
  ok : ∀ t ∈ ps, 0 ≤ t.1 ∧ t.1 < h ∧ 0 ≤ t.2 ∧ t.2 < h ∧ t.1 ≠ t.2
theorem cutD_take {ds : List D} {k : Nat} : PD.cutD ds none (some (k : Int)) = ds.take k := by
  unfold PD.cutD
  rw [HT.sIx_nat, HT.sIx_none, List.drop_zero, Nat.sub_zero, List.take_eq_take_iff]
  omega
def gPair (h : Int) : D → D
  | .int k => .tup [.int k, .int ((k + 1) % h)]
  | d => d
theorem gPair_eq (h : Int) (n : Nat) : ((rngD 0 n).filter fun _ => true).map (gPair h) = ((List.range n).map fun (k : Nat) => ((k : Int), ((k : Int) + 1) % h)).map eP := by
  rw [List.filter_eq_self.mpr (fun _ _ => rfl)]
  unfold rngD
  rw [List.map_map, List.map_map]
  apply List.map_congr_left
  intro k _
  show D.tup [.int (0 + k), .int ((0 + (k : Int) + 1) % h)] = .tup [.int k, .int (((k : Int) + 1) % h)]
  rw [Int.zero_add]
theorem deal_w {st0 st : Stor} {i : Nat} {mo pc : Int} {P : R → Stor → Prop} {Q : Xc → Stor → Prop} (hd : Dst st0 i st) (m1 : 1 ≤ mo) (m4 : mo ≤ 4) (p1 : 1 ≤ pc) (p4 : pc ≤ 4)
    (k : ∀ h p ts st', GoodDeal h p ts → h ≤ mo → p ≤ pc → Dst st0 i st' → P (.dat (eDeal h p ts)) st') : wE (f_l_deal [.dat (.ref i), .dat (.int mo), .dat (.int pc)] st) P Q := by
  unfold f_l_deal b_l_deal
  refine r_run (env := [some (.dat (.ref i)), some (.dat (.int mo)), some (.dat (.int pc)), none, none, none, none, none, none, none, none, none]) rfl rfl ?_
  have hl := hd.len
  walk_at "ev"
  refine roll_d hd (by omega) (by omega) fun r1 st1 a1 b1 hd1 => ?_
  walk_at "ev"
  refine roll_d hd1 (by omega) (by omega) fun r2 st2 a2 b2 hd2 => ?_
  walk_at "ev"
  refine roll_d hd2 (by omega) (by omega) fun r3 st3 a3 b3 hd3 => ?_
  walk_at "ev"
  rw [compGo_pure (fun _ => true) (gPair (1 + r1)) _ _ (fun d hd => ?_) (by rw [rngD_length, List.length_nil]; omega)]
  · rw [List.nil_append, gPair_eq]
    generalize hps : (List.range (1 + r1).toNat).map (fun (k : Nat) => ((k : Int), ((k : Int) + 1) % (1 + r1))) = ps0
    have hpl : ps0.length ≤ 4 := by rw [← hps, List.length_map, List.length_range]; omega
    rw [wE_ok]
    walk_at "ev"
    -- the pairs of the ring
    have ring : ∀ n : Nat, (n = 0 ∨ (n = 1 ∧ 1 < 1 + r1)) → ∃ ps : List (Int × Int), (List.replicate n (ps0.map eP)).flatten = ps.map eP ∧ PsOk (1 + r1) ps ∧ ps.length ≤ 4 := by
      rintro n (rfl | ⟨rfl, hh⟩)
      · exact ⟨[], by simp, ⟨by simp⟩, by simp⟩
      · refine ⟨ps0, by simp, ⟨fun t ht => ?_⟩, hpl⟩
        rw [← hps, List.mem_map] at ht
        obtain ⟨x, hx, rfl⟩ := ht
        rw [List.mem_range] at hx
        have h1 := Int.emod_nonneg ((x : Int) + 1) (by omega : (1 + r1 : Int) ≠ 0)
        have h2 := Int.emod_lt_of_pos ((x : Int) + 1) (by omega : (0 : Int) < 1 + r1)
        refine ⟨by dsimp only; omega, by dsimp only; omega, h1, h2, ?_⟩
        dsimp only
        intro e
        by_cases q : (x : Int) + 1 < 1 + r1
        · rw [Int.emod_eq_of_lt (by omega) q] at e
          omega
        · have : (x : Int) + 1 = 1 + r1 := by omega
          rw [this, Int.emod_self] at e
          omega
    refine r_iteJ (J := fun r s => ∃ v : Bool, r = .dat (.bl v) ∧ (v = true → 1 < 1 + r1) ∧ s = st3) (fun c => ?_) (fun c => ?_) ?_
    · walk_at "ev"
      exact ⟨_, rfl, fun h => of_decide_eq_true h, rfl⟩
    · exact ⟨false, rfl, (fun h => by cases h), rfl⟩
    rintro _ _ ⟨v, rfl, hv, rfl⟩
    walk_at "ev"
    refine r_mulL (by split <;> omega) (by split <;> omega) (by rw [List.length_map]; split <;> simp <;> omega) ?_
    walk_at "ev"
    obtain ⟨ps, e1, ok1, l1⟩ := ring (if v = true then 1 else 0 : Int).toNat (by cases v <;> simp at hv ⊢; omega)
    rw [e1]
    refine roll_d hd3 (by omega) (by omega) fun r4 st4 a4 b4 hd4 => ?_
    walk_at "ev"
    refine wS_forGo (fun j env st => ∃ ps o8 o9 o10, env = [some (.dat (.ref i)), some (.dat (.int mo)), some (.dat (.int pc)), some (.dat (.int (1 + r1))), some (.dat (.int (1 + r2))), some (.own []), some (.dat (.int r3)), some (.own (ps.map eP)), o8, o9, o10, none] ∧ PsOk (1 + r1) ps ∧ ps.length ≤ 4 + j ∧ Dst st0 i st)
      ⟨ps, _, _, _, rfl, ok1, by omega, hd4⟩ ?_ ?_
    · rintro j d env st5 hj ⟨ps, o8, o9, o10, rfl, ok2, l2, hd5⟩
      refine ⟨_, rfl, ?_⟩
      have hjl := (List.getElem?_eq_some_iff.mp hj).1
      rw [rngD_length] at hjl
      walk_at "ev"
      refine roll_d hd5 (by omega) (by omega) fun r5 st6 a5 b5 hd6 => ?_
      walk_at "ev"
      refine roll_d hd6 (by omega) (by omega) fun r6 st7 a6 b6 hd7 => ?_
      walk_at "ev"
      refine r_ite (fun c => ?_) (fun c => ?_)
      · walk_at "ev"
        refine k_app rfl (by rw [List.length_map]; omega) rfl ?_
        walk_at "ev"
        refine ⟨ps ++ [(r5, r6)], some (.dat d), some (.dat (.int r5)), some (.dat (.int r6)), ?_, ⟨fun t ht => ?_⟩, ?_, hd7⟩
        · rw [List.map_append]; rfl
        · rcases List.mem_append.mp ht with ht | ht
          · exact ok2.ok t ht
          · have : t = (r5, r6) := by simpa using ht
            subst this
            have : r5 ≠ r6 := by simpa using c
            exact ⟨a5, b5, a6, b6, this⟩
        · rw [List.length_append, List.length_singleton]; omega
      · walk_at "ev"
        exact ⟨ps, some (.dat d), some (.dat (.int r5)), some (.dat (.int r6)), rfl, ok2, by omega, hd7⟩
    · intro env st5 hI
      dsimp only at hI
      rw [rngD_length] at hI
      obtain ⟨ps2, o8, o9, o10, e, ok2, l2, hd5⟩ := hI
      subst e
      have hml : (ps2.map eP).length ≤ 12 := by rw [List.length_map]; omega
      walk_at "ev"
      refine wS_forGo (fun j env st => ∃ ts o8 o11, env = [some (.dat (.ref i)), some (.dat (.int mo)), some (.dat (.int pc)), some (.dat (.int (1 + r1))), some (.dat (.int (1 + r2))), some (.own (ts.map eT)), some (.dat (.int r3)), some (.own (ps2.map eP)), o8, o9, o10, o11] ∧ GoodDeal (1 + r1) (1 + r2) ts ∧ (∀ t ∈ ts, (t.1, t.2.1) ∈ ps2.take j) ∧ Dst st0 i st)
        ⟨[], o8, none, rfl, ⟨by omega, by omega, by omega, by omega, by simp, by simp, by simp⟩, by simp, hd5⟩ ?_ ?_
      · rintro j d env st6 hj ⟨ts, o8', o11, rfl, ok3, in3, hd6⟩
        refine ⟨_, rfl, ?_⟩
        obtain ⟨rfl, hjl⟩ := rngD_at hj
        rw [Int.zero_add]
        have hjp : j < ps2.length := by rw [List.length_map] at hjl; omega
        obtain ⟨a, b, hab⟩ : ∃ a b, ps2[j] = (a, b) := ⟨_, _, rfl⟩
        have hat : ps2[j]? = some (a, b) := by rw [List.getElem?_eq_getElem hjp, hab]
        have hat2 : (ps2.map eP)[j]? = some (.tup [.int a, .int b]) := by rw [List.getElem?_map, hat]; rfl
        have hjm : ((ps2.map eP).take j) = (ps2.take j).map eP := by rw [List.map_take]
        walk_at "ev"
        refine roll_d hd6 (by omega) (by omega) fun r5 st7 a5 b5 hd7 => ?_
        walk_at "ev"
        refine roll_d hd7 (by omega) (by omega) fun r6 st8 a6 b6 hd8 => ?_
        walk_at "ev"
        refine roll_d hd8 (by omega) (by omega) fun r7 st9 a7 b7 hd9 => ?_
        have hv : ∃ v, atI [D.int 0, .int r5, .int r6] r7 = some (.int v) ∧ 0 ≤ v ∧ v < 4 := by
          have : r7 = 0 ∨ r7 = 1 ∨ r7 = 2 := by omega
          rcases this with rfl | rfl | rfl
          · exact ⟨0, rfl, by omega, by omega⟩
          · exact ⟨r5, rfl, by omega, by omega⟩
          · exact ⟨r6, rfl, by omega, by omega⟩
        obtain ⟨v, hv, v1, v2⟩ := hv
        walk_at "ev"
        refine r_ix rfl hv ?_
        walk_at "ev"
        refine r_ix rfl (atI_nat hat2) ?_
        walk_at "ev"
        rw [cutD_take, hjm]
        refine r_nin (d := eP (a, b)) (e := .lst ((ps2.take j).map eP)) rfl rfl rfl (sh_e En.pair (by decide) _) (sh_lst En.pair (by decide) _) ?_
        rw [En.pair.any]
        walk_at "ev"
        have hin4 : ∀ t ∈ ts, (t.1, t.2.1) ∈ ps2.take (j + 1) := fun t ht => by
          rw [List.take_succ]
          exact List.mem_append_left _ (in3 t ht)
        refine r_ite (fun c => ?_) (fun c => ?_)
        · walk_at "ev"
          refine r_ite (fun c2 => ?_) (fun c2 => ?_)
          · walk_at "ev"
            refine r_ix rfl (atI_nat hat2) ?_
            walk_at "ev"
            have c2 := of_decide_eq_true c2
            refine k_app rfl (by omega) rfl ?_
            walk_at "ev"
            rw [List.length_map] at c2
            have hnin : (a, b) ∉ ps2.take j := by simpa using c
            have hok := ok2.ok (a, b) (hab ▸ List.getElem_mem hjp)
            refine ⟨ts ++ [(a, b, 1 + v)], some (.dat (.int j)), some (.dat (.int (1 + v))), ?_, ⟨ok3.h1, ok3.h4, ok3.p1, ok3.p4, ?_, ?_, ?_⟩, ?_, hd9⟩
            · rw [List.map_append]; rfl
            · rw [List.length_append, List.length_singleton]; omega
            · intro t ht
              rcases List.mem_append.mp ht with ht | ht
              · exact ok3.ok t ht
              · have : t = (a, b, 1 + v) := by simpa using ht
                subst this
                exact ⟨hok.1, hok.2.1, hok.2.2.1, hok.2.2.2.1, hok.2.2.2.2, by dsimp only; omega, by dsimp only; omega⟩
            · rw [List.map_append, List.nodup_append]
              refine ⟨ok3.nd, by simp, ?_⟩
              intro x hx y hy e
              have : y = (a, b) := by simpa using hy
              subst this
              subst e
              obtain ⟨t, ht, e⟩ := List.mem_map.mp hx
              exact hnin (e ▸ in3 t ht)
            · intro t ht
              rcases List.mem_append.mp ht with ht | ht
              · exact hin4 t ht
              · have : t = (a, b, 1 + v) := by simpa using ht
                subst this
                rw [List.take_succ, hat]
                simp
          · walk_at "ev"
            exact ⟨ts, some (.dat (.int j)), some (.dat (.int (1 + v))), rfl, ok3, hin4, hd9⟩
        · walk_at "ev"
          exact ⟨ts, some (.dat (.int j)), some (.dat (.int (1 + v))), rfl, ok3, hin4, hd9⟩
      · rintro env st6 ⟨ts, o8', o11, rfl, ok3, in3, hd6⟩
        walk_at "ev"
        refine k_gc (by rw [hd6.len, hl]; omega) ?_
        exact k _ _ _ _ ok3 (by omega) (by omega) hd6
  · obtain ⟨j, hj⟩ := List.mem_iff_getElem?.mp hd
    obtain ⟨rfl, hjl⟩ := rngD_at hj
    refine ⟨_, rfl, rfl, fun _ => ⟨.dat (gPair (1 + r1) (.int (0 + j))), ?_, rfl⟩⟩
    refine wE_eq ?_
    walk_at "ev"
    exact ⟨rfl, rfl⟩
end PM

namespace PM
open PySem PySem.Spec PyProof.Rows L2 PD PT
structure GoodHold (h p : Int) (rows : List (List Int)) : Prop where
  len : (rows.length : Int) = h
  ok : ∀ r ∈ rows, r.Pairwise (· < ·) ∧ ∀ x ∈ r, 0 ≤ x ∧ x < p
abbrev eH (rows : List (List Int)) : D := eL (eL D.int) rows
def oRow (r : List Int) : PD.Obj := .lst (r.map D.int)
/-- the rows that are built, rising, of pieces below n -/
def RowsOk (n : Int) (rows : List (List Int)) : Prop := ∀ r ∈ rows, r.Pairwise (· < ·) ∧ ∀ x ∈ r, 0 ≤ x ∧ x < n
theorem RowsOk.mono {n m : Int} {rows : List (List Int)} (h : RowsOk n rows) (q : n ≤ m) : RowsOk m rows := fun r hr => ⟨(h r hr).1, fun x hx => ⟨((h r hr).2 x hx).1, by have := ((h r hr).2 x hx).2; omega⟩⟩
theorem RowsOk.put {n : Nat} {rows : List (List Int)} {k : Nat} {r : List Int} (h : RowsOk (n + 1) rows) (hr : rows[k]? = some r) (hx : ∀ x ∈ r, x < (n : Int)) : RowsOk (n + 1) (rows.set k (r ++ [(n : Int)])) := by
  intro s hs
  rcases List.mem_or_eq_of_mem_set hs with hs | rfl
  · exact h s hs
  · have hm := List.mem_of_getElem? hr
    refine ⟨?_, fun x hx2 => ?_⟩
    · rw [List.pairwise_append]
      exact ⟨(h r hm).1, by simp, fun x hx2 y hy => by simp at hy; subst hy; exact hx x hx2⟩
    · rcases List.mem_append.mp hx2 with hx2 | hx2
      · exact (h r hm).2 x hx2
      · simp at hx2; omega
def refs (n h : Nat) : List D := (List.range h).map fun k => .ref (n + k)
theorem refs_at {n h k : Nat} (hk : k < h) : (refs n h)[k]? = some (.ref (n + k)) := by unfold refs; rw [List.getElem?_map, List.getElem?_range hk]; rfl
theorem refs_len {n h : Nat} : (refs n h).length = h := by unfold refs; rw [List.length_map, List.length_range]
/-- the store: the dice changed, the rows behind -/
def Hst (st0 : Stor) (i : Nat) (rows : List (List Int)) (st : Stor) : Prop := Dst (st0 ++ rows.map oRow) i st
theorem Hst.at {st0 st : Stor} {i : Nat} {rows : List (List Int)} {k : Nat} {r : List Int} (h : Hst st0 i rows st) (hi : i < st0.length) (hr : rows[k]? = some r) : st[st0.length + k]? = some (oRow r) := by
  obtain ⟨a, b, rfl, _⟩ := h
  rw [List.getElem?_set_ne (by omega), List.getElem?_append_right (by omega), Nat.add_sub_cancel_left, List.getElem?_map, hr]
  rfl
theorem Hst.put {st0 st : Stor} {i : Nat} {rows : List (List Int)} {k : Nat} {r : List Int} (h : Hst st0 i rows st) (hi : i < st0.length) : Hst st0 i (rows.set k r) (st.set (st0.length + k) (oRow r)) := by
  obtain ⟨a, b, rfl, hd⟩ := h
  refine ⟨a, b, ?_, ?_⟩
  · rw [List.set_comm _ _ (by omega : i ≠ st0.length + k), List.set_append_right _ _ (by omega), Nat.add_sub_cancel_left, List.map_set]
  · obtain ⟨h1, h2, h3, h4⟩ := hd
    exact ⟨by rw [List.getElem?_set_ne (by omega)]; exact h1, h2, h3, h4⟩
theorem Hst.len {st0 st : Stor} {i : Nat} {rows : List (List Int)} (h : Hst st0 i rows st) : st.length = st0.length + rows.length := by
  have := Dst.len h
  rw [List.length_append, List.length_map] at this
  exact this
theorem refs_succ {n h : Nat} : refs n (h + 1) = refs n h ++ [.ref (n + h)] := by unfold refs; rw [List.range_succ, List.map_append]; rfl
theorem Hst.snoc {st0 st : Stor} {i : Nat} {rows : List (List Int)} {r : List Int} (h : Hst st0 i rows st) (hi : i < st0.length) : Hst st0 i (rows ++ [r]) (st ++ [oRow r]) := by
  obtain ⟨a, b, rfl, hd⟩ := h
  refine ⟨a, b, ?_, ?_⟩
  · rw [List.map_append, ← List.append_assoc, List.set_append_left (s := st0 ++ rows.map oRow) _ _ (by rw [List.length_append]; omega)]
    rfl
  · obtain ⟨h1, h2, h3, h4⟩ := hd
    refine ⟨?_, h2, h3, h4⟩
    rw [List.getElem?_append_left (by rw [List.length_set, List.length_append]; omega)]
    exact h1
theorem row_ints {r : List Int} : intsOf (r.map D.int) = some r := by
  induction r with
  | nil => rfl
  | cons x xs ih =>
    rw [List.map_cons]
    unfold intsOf
    rw [ih]
theorem rise_len {n : Int} : ∀ (r : List Int) (lo : Int), r.Pairwise (· < ·) → (∀ x ∈ r, lo ≤ x ∧ x < n) → lo ≤ n → (r.length : Int) ≤ n - lo
  | [], lo, _, _, h => by simp; omega
  | x :: xs, lo, h, h2, h3 => by
    have h1 := List.pairwise_cons.mp h
    have hx := h2 x (by simp)
    have := rise_len xs (x + 1) h1.2 (fun y hy => ⟨h1.1 y hy, (h2 y (by simp [hy])).2⟩) (by omega)
    rw [List.length_cons]
    omega
theorem isort_self {r : List Int} (h : r.Pairwise (· < ·)) : isort r = r :=
  sorted_same (isort_perm r) (isort_sorted r) (h.imp fun h => Int.le_of_lt h)
theorem holding_w {st0 st : Stor} {i : Nat} {h p : Int} {ts : List (Int × Int × Int)} {P : R → Stor → Prop} {Q : Xc → Stor → Prop} (hd : Dst st0 i st) (hi : i < st0.length) (hb : ∀ o ∈ st0, Obj.blw st0.length o = true) (g : GoodDeal h p ts)
    (k : ∀ rows st', GoodHold h p rows → Dst st0 i st' → P (.dat (eH rows)) st') : wE (f_l_holding [.dat (.ref i), .dat (eDeal h p ts)] st) P Q := by
  obtain ⟨h1, h4, p1, p4, -, -, -⟩ := id g
  have hl := hd.len
  unfold f_l_holding b_l_holding
  refine r_run (env := [some (.dat (.ref i)), some (.dat (eDeal h p ts)), none, none, none, none, none, none]) rfl rfl ?_
  rw [hl]
  walk_at "ev"
  refine wE_comp (fun j acc s => acc = refs st0.length j ∧ Hst st0 i (List.replicate j []) s) ⟨rfl, by unfold Hst; simpa using hd⟩ ?_ ?_
  · rintro j d acc s hj ⟨rfl, hs⟩
    refine ⟨_, rfl, ?_⟩
    have hjl := (rngD_at hj).2
    walk_at "ev"
    have e := hs.len
    rw [List.length_replicate] at e
    refine ⟨by rw [refs_len]; omega, ?_, ?_⟩
    · rw [e, refs_succ]
    · rw [List.replicate_succ']
      exact hs.snoc hi
  · intro acc s hI
    rw [rngD_length] at hI
    obtain ⟨rfl, hs⟩ := hI
    have hs : ∃ rows : List (List Int), (rows.length : Int) = h ∧ RowsOk 0 rows ∧ Hst st0 i rows s := ⟨_, by rw [List.length_replicate]; omega, fun r hr => by rw [List.eq_of_mem_replicate hr]; exact ⟨.nil, by simp⟩, hs⟩
    obtain ⟨rows, hrl, hr0, hs⟩ := hs
    walk_at "ev"
    refine roll_d hs (by omega) (by omega) fun r3 s3 a3 b3 hs3 => ?_
    walk_at "ev"
    refine roll_d hs3 (by omega) (by omega) fun r4 s4 a4 b4 hs4 => ?_
    walk_at "ev"
    refine wS_forGo (fun j env st => ∃ sv o5 o6 rows, env = [some (.dat (.ref i)), some (.dat (eDeal h p ts)), some sv, some (.dat (.int r3)), some (.dat (.int r4)), o5, o6, none] ∧ (sv = .own (refs st0.length h.toNat) ∨ sv = .dat (.lst (refs st0.length h.toNat))) ∧ (rows.length : Int) = h ∧ RowsOk j rows ∧ Hst st0 i rows st)
      ⟨_, none, none, rows, rfl, .inl rfl, hrl, hr0, hs4⟩ ?_ ?_
    · rintro j d env s5 hj ⟨sv, o5, o6, rows, rfl, hsv, hrl, hr5, hs5⟩
      obtain ⟨rfl, hjl⟩ := rngD_at hj
      rw [Int.zero_add]
      refine ⟨_, rfl, ?_⟩
      refine r_seq ?_
      refine r_cutS (J := fun env st => ∃ rows, env = [some (.dat (.ref i)), some (.dat (eDeal h p ts)), some sv, some (.dat (.int r3)), some (.dat (.int r4)), some (.dat (.int j)), o6, none] ∧ (rows.length : Int) = h ∧ RowsOk (j + 1) rows ∧ Hst st0 i rows st) ?_ ?_
      · rcases hsv with rfl | rfl
        all_goals
          have tail : ∀ (v : Int) (s6 : Stor), 0 ≤ v → v < h → Hst st0 i rows s6 → ∃ n r, atI (refs st0.length h.toNat) v = some (.ref (st0.length + n)) ∧ rows[n]? = some r ∧ r.length < 1000000 ∧ RowsOk (j + 1) (rows.set n (r ++ [(j : Int)])) ∧ Hst st0 i (rows.set n (r ++ [(j : Int)])) (s6.set (st0.length + n) (oRow (r ++ [(j : Int)]))) := by
            intro v s6 v0 v1 hs6
            obtain ⟨n, rfl⟩ := Int.eq_ofNat_of_zero_le v0
            have hn : n < rows.length := by omega
            have hr := List.getElem?_eq_getElem hn
            have hm := hr5 _ (List.mem_of_getElem? hr)
            have := rise_len _ 0 hm.1 hm.2 (by omega)
            exact ⟨n, _, atI_nat (refs_at (by omega)), hr, by omega, (hr5.mono (by omega)).put hr (fun x hx => (hm.2 x hx).2), hs6.put hi⟩
          walk_at "ev"
          refine r_ite (fun c => ?_) (fun c => ?_)
          · walk_at "ev"
            refine roll_d hs5 (by omega) (by omega) fun r6 s6 a6 b6 hs6 => ?_
            have hix : ∃ v, atI [D.int r4, .int r6] (if decide (0 < r3) = true then 1 else 0) = some (.int v) ∧ 0 ≤ v ∧ v < h := by
              split
              · exact ⟨r6, rfl, by omega, by omega⟩
              · exact ⟨r4, rfl, by omega, by omega⟩
            obtain ⟨v, hv, v1, v2⟩ := hix
            obtain ⟨n, r, e1, e2, e3, e4, e5⟩ := tail v s6 v1 v2 hs6
            walk_at "ev"
            refine r_ix rfl hv ?_
            refine r_ix rfl e1 ?_
            refine ⟨_, _, rfl, Hst.at hs6 hi e2, ?_⟩
            walk_at "ev"
            refine ⟨_, _, _, rfl, Hst.at hs6 hi e2, by rw [List.length_map]; exact e3, ?_⟩
            walk_at "ev"
            refine ⟨_, rfl, by rw [List.length_set]; exact hrl, e4, ?_⟩
            unfold oRow at e5
            rw [List.map_append] at e5
            exact e5
          · walk_at "ev"
            refine roll_d hs5 (by omega) (by omega) fun r7 s7 a7 b7 hs7 => ?_
            walk_at "ev"
            refine r_ite (fun c => ?_) (fun c => ?_)
            · walk_at "ev"
              refine roll_d hs7 (by omega) (by omega) fun r6 s6 a6 b6 hs6 => ?_
              have hix : ∃ v, atI [D.int r4, .int r6] (if decide (0 < r3) = true then 1 else 0) = some (.int v) ∧ 0 ≤ v ∧ v < h := by
                split
                · exact ⟨r6, rfl, by omega, by omega⟩
                · exact ⟨r4, rfl, by omega, by omega⟩
              obtain ⟨v, hv, v1, v2⟩ := hix
              obtain ⟨n, r, e1, e2, e3, e4, e5⟩ := tail v s6 v1 v2 hs6
              walk_at "ev"
              refine r_ix rfl hv ?_
              refine r_ix rfl e1 ?_
              refine ⟨_, _, rfl, Hst.at hs6 hi e2, ?_⟩
              walk_at "ev"
              refine ⟨_, _, _, rfl, Hst.at hs6 hi e2, by rw [List.length_map]; exact e3, ?_⟩
              walk_at "ev"
              refine ⟨_, rfl, by rw [List.length_set]; exact hrl, e4, ?_⟩
              unfold oRow at e5
              rw [List.map_append] at e5
              exact e5
            · walk_at "ev"
              exact ⟨rows, rfl, hrl, hr5.mono (by omega), hs7⟩
      · rintro env s6 ⟨rows, rfl, hrl, hr6, hs6⟩
        have hsv2 : (sv = .own (refs st0.length h.toNat) ∨ sv = .dat (.lst (refs st0.length h.toNat))) := hsv
        rcases hsv with rfl | rfl
        all_goals
          walk_at "ev"
          refine wS_forGo (fun m env st => ∃ o6 rows, env = [some (.dat (.ref i)), some (.dat (eDeal h p ts)), some (.dat (.lst (refs st0.length h.toNat))), some (.dat (.int r3)), some (.dat (.int r4)), some (.dat (.int j)), o6, none] ∧ (rows.length : Int) = h ∧ RowsOk (j + 1) rows ∧ Hst st0 i rows st)
            ⟨o6, rows, rfl, hrl, hr6, hs6⟩ ?_ ?_
          · rintro m d env s7 hm ⟨o6, rows, rfl, hrl, hr7, hs7⟩
            have hml : m < h.toNat := by
              have := (List.getElem?_eq_some_iff.mp hm).1
              rw [refs_len] at this
              exact this
            have hm2 : (refs st0.length h.toNat)[m]? = some d := hm
            rw [refs_at hml] at hm2
            cases hm2
            have hmr : m < rows.length := by omega
            obtain ⟨r, hr⟩ : ∃ r, rows[m]? = some r := ⟨_, List.getElem?_eq_getElem hmr⟩
            have hmm := hr7 _ (List.mem_of_getElem? hr)
            have hlen := rise_len _ 0 hmm.1 hmm.2 (by omega)
            refine ⟨_, rfl, ?_⟩
            walk_at "ev"
            refine r_ite (fun c => ?_) (fun c => ?_)
            · walk_at "ev"
              refine r_nin (d := .int j) (e := .lst (r.map D.int)) rfl (by unfold rD; dsimp only; rw [Hst.at hs7 hi hr]; rfl) rfl rfl (sh_lst (n := 0) En.int (by decide) r) ?_
              rw [(En.int (n := 0)).any]
              walk_at "ev"
              refine r_ite (fun c2 => ?_) (fun c2 => ?_)
              · walk_at "ev"
                refine roll_d hs7 (by omega) (by omega) fun r8 s8 a8 b8 hs8 => ?_
                walk_at "ev"
                refine r_ite (fun c3 => ?_) (fun c3 => ?_)
                · walk_at "ev"
                  refine r_appR rfl (Hst.at hs8 hi hr) ?_
                  walk_at "ev"
                  refine ⟨_, _, _, rfl, Hst.at hs8 hi hr, by rw [List.length_map]; omega, ?_⟩
                  walk_at "ev"
                  have hnin : (j : Int) ∉ r := by simpa using c2
                  have e4 := hr7.put hr (fun x hx => by
                    have := (hmm.2 x hx).2
                    have : x ≠ j := fun e => hnin (e ▸ hx)
                    omega)
                  have e5 := Hst.put (k := m) (r := r ++ [(j : Int)]) hs8 hi
                  unfold oRow at e5
                  rw [List.map_append] at e5
                  exact ⟨_, _, rfl, by rw [List.length_set]; exact hrl, e4, e5⟩
                · walk_at "ev"
                  exact ⟨_, rows, rfl, hrl, hr7, hs8⟩
              · walk_at "ev"
                exact ⟨_, rows, rfl, hrl, hr7, hs7⟩
            · walk_at "ev"
              exact ⟨_, rows, rfl, hrl, hr7, hs7⟩
          · rintro env s7 ⟨o6, rows, rfl, hrl, hr7, hs7⟩
            walk_at "ev"
            exact ⟨_, _, _, rows, rfl, .inr rfl, hrl, hr7, hs7⟩
    · intro env s5 hI
      dsimp only at hI
      rw [rngD_length] at hI
      obtain ⟨sv, o5, o6, rows, e, hsv, hrl, hr5, hs5⟩ := hI
      subst e
      have hpe : ((p.toNat : Nat) : Int) = p := by omega
      rw [hpe] at hr5
      have fin : wE (compGo PD.putF (tgN 6) tTrue (eAp (f1 fTuple) (aCons (eAp (f1 fSort2) (aCons (eVar 6) aNil)) aNil)) (refs st0.length h.toNat) [] [some (.dat (.ref i)), some (.dat (eDeal h p ts)), some sv, some (.dat (.int r3)), some (.dat (.int r4)), o5, none, none] s5) (fun r s => r = .new (rows.map (eL D.int)) ∧ s = s5) (fun _ _ => False) := by
        refine wE_comp (fun j acc s => acc = (rows.take j).map (eL D.int) ∧ s = s5) ⟨rfl, rfl⟩ ?_ ?_
        · rintro m d acc s hm ⟨rfl, rfl⟩
          have hml : m < h.toNat := by
            have := (List.getElem?_eq_some_iff.mp hm).1
            rw [refs_len] at this
            exact this
          rw [refs_at hml] at hm
          cases hm
          obtain ⟨r, hr⟩ : ∃ r, rows[m]? = some r := ⟨_, List.getElem?_eq_getElem (by omega)⟩
          have hmm := hr5 _ (List.mem_of_getElem? hr)
          refine ⟨_, rfl, ?_⟩
          walk_at "ev"
          refine r_sort2I (by unfold lstOf; dsimp only; rw [Hst.at hs5 hi hr]; rfl) row_ints ?_
          rw [isort_self hmm.1]
          walk_at "ev"
          refine ⟨?_, ?_, rfl⟩
          · rw [List.length_map, List.length_take]; omega
          · rw [List.take_succ, hr, List.map_append]; rfl
        · intro acc s hI
          rw [refs_len, List.take_of_length_le (by omega)] at hI
          exact ⟨by rw [hI.1], hI.2⟩
      have gcl : ¬ s5.length ≤ st0.length := by have := hs5.len; omega
      have gcd : Dst st0 i (s5.take st0.length) ∧ ∀ o ∈ s5.take st0.length, Obj.blw st0.length o = true := by
        obtain ⟨a, b, e, h1, h2, h3, h4⟩ := hs5
        have e2 : s5.take st0.length = st0.set i (.lst [.int a, .int b]) := by rw [e, List.set_append_left _ _ hi, List.take_left' (by rw [List.length_set])]
        refine ⟨⟨a, b, e2, ⟨?_, h2, h3, h4⟩⟩, fun o ho => ?_⟩
        · rw [e2, List.getElem?_set_self hi]
        · rw [e2] at ho
          rcases List.mem_or_eq_of_mem_set ho with ho | rfl
          · exact hb o ho
          · rfl
      have gcb : ((R.dat (eH rows)).blw st0.length && (s5.take st0.length).all (Obj.blw st0.length)) = true := by
        rw [Bool.and_eq_true]
        exact ⟨(En.int (n := 0)).tup.tup.bl _ rows, List.all_eq_true.mpr gcd.2⟩
      have gcd := gcd.1
      rcases hsv with rfl | rfl
      all_goals
        walk_at "ev"
        refine wE_mono fin ?_ fun _ _ h => h.elim
        rintro _ _ ⟨rfl, rfl⟩
        walk_at "ev"
        show wE (gc st0.length (.dat (eH rows)) _) P Q
        rw [wE_gc2 gcl gcb]
        exact k rows _ ⟨hrl, hr5⟩ gcd
end PM

namespace PM
open PySem PySem.Spec PyProof.Rows L2 PD PT
mutual
theorem blw_le {n m : Nat} (h : n ≤ m) : ∀ {d : D}, D.blw n d = true → D.blw m d = true
  | .non, _ => rfl
  | .bl _, _ => rfl
  | .int _, _ => rfl
  | .str _, _ => rfl
  | .glo _, _ => rfl
  | .ref i, q => by
    unfold D.blw at q ⊢
    have := of_decide_eq_true q
    exact decide_eq_true (by omega)
  | .tup ds, q => blws_le h (ds := ds) q
  | .lst ds, q => blws_le h (ds := ds) q
theorem blws_le {n m : Nat} (h : n ≤ m) : ∀ {ds : List D}, blwAll n ds = true → blwAll m ds = true
  | [], _ => rfl
  | d :: ds, q => by
    have q : (D.blw n d && blwAll n ds) = true := q
    rw [Bool.and_eq_true] at q
    show (D.blw m d && blwAll m ds) = true
    rw [blw_le h q.1, blws_le h q.2]; rfl
end
theorem cell_w {ns : List Int} {j : Nat} {st : Stor} {P : R → Stor → Prop} {Q : Xc → Stor → Prop} (hn : ns.length < 1000) (k : ∀ c, P (.dat (.int c)) st) : wE (f_l_cell_at [.scr (ns.map D.int), .dat (.int j)] st) P Q := by
  unfold f_l_cell_at b_l_cell_at
  refine r_run (env := [some (.scr (ns.map D.int)), some (.dat (.int j))]) rfl rfl ?_
  walk_at "ev"
  refine r_ite (fun c => ?_) (fun c => ?_)
  · have c := of_decide_eq_true c
    rw [List.length_map] at c
    walk_at "ev"
    refine r_ix (d := .int ns[j]) rfl (atI_nat ?_) ?_
    · rw [List.getElem?_map, List.getElem?_eq_getElem (by omega)]; rfl
    walk_at "ev"
    exact k_gc (Nat.le_refl _) (k _)
  · walk_at "ev"
    exact k_gc (Nat.le_refl _) (k _)
theorem dice_w {c : Int} {st : Stor} {P : R → Stor → Prop} {Q : Xc → Stor → Prop} (k : ∀ a b, 0 ≤ a → a < 2147483647 → 0 ≤ b → P (.new [.int a, .int b]) st) : wE (f_l_dice [.dat (.int c)] st) P Q := by
  unfold f_l_dice b_l_dice
  refine r_run (env := [some (.dat (.int c))]) rfl rfl ?_
  walk_at "ev"
  refine k_gc (Nat.le_refl _) (k _ _ (Int.emod_nonneg _ (by omega)) (Int.emod_lt_of_pos _ (by omega)) ?_)
  split
  · rename_i h
    have h := of_decide_eq_true h
    have : (0 : Int) ≤ c := Int.le_trans (by decide) h
    have := Int.ediv_nonneg this (by decide : (0 : Int) ≤ 2147483647)
    omega
  · omega
theorem some_w {ns : List Int} {sizes : List (Int × Int)} {st : Stor} {P : R → Stor → Prop} {Q : Xc → Stor → Prop} (hn : ns.length < 1000) (hs : ∀ s ∈ sizes, 1 ≤ s.1 ∧ s.1 ≤ 4 ∧ 1 ≤ s.2 ∧ s.2 ≤ 4) (h0 : 0 < sizes.length) (h1 : sizes.length < 1000) (hb : ∀ o ∈ st, Obj.blw st.length o = true)
    (k : ∀ h p ts rows mo pc, (mo, pc) ∈ sizes → h ≤ mo → p ≤ pc → GoodDeal h p ts → GoodHold h p rows → P (.dat (.tup [eDeal h p ts, eH rows])) st) : wE (f_l_some [.scr (ns.map D.int), .view (sizes.map eP)] st) P Q := by
  unfold f_l_some b_l_some
  refine r_run (env := [some (.scr (ns.map D.int)), some (.view (sizes.map eP)), none, none, none, none]) rfl rfl ?_
  walk_at "ev"
  refine cell_w (j := 0) hn fun c => ?_
  walk_at "ev"
  refine dice_w fun a b a0 a1 b0 => ?_
  refine ⟨_, rfl, ?_⟩
  simp only [List.set_cons_zero, List.set_cons_succ]
  have hd : Dst (st ++ [.lst [.int a, .int b]]) st.length (st ++ [.lst [.int a, .int b]]) := Dst.of (a := a) (b := b) ⟨by rw [List.getElem?_append_right (Nat.le_refl _), Nat.sub_self]; rfl, a0, a1, b0⟩
  have hb2 : ∀ o ∈ st ++ [.lst [.int a, .int b]], Obj.blw (st ++ [PD.Obj.lst [.int a, .int b]]).length o = true := by
    intro o ho
    rcases List.mem_append.mp ho with ho | ho
    · cases o with
      | lst ds =>
        refine blws_le (n := st.length) (by rw [List.length_append]; omega) (hb _ ho)
      | ins _ fs => exact blws_le (n := st.length) (by rw [List.length_append]; omega) (show blwAll st.length (fs.map (·.2)) = true from hb _ ho)
      | dct _ kvs =>
        have h2 : (blwAll st.length (kvs.map (·.1)) && blwAll st.length (kvs.map (·.2))) = true := hb _ ho
        have h3 := Bool.and_eq_true_iff.mp h2
        show (blwAll _ (kvs.map (·.1)) && blwAll _ (kvs.map (·.2))) = true
        rw [blws_le (n := st.length) (by rw [List.length_append]; omega) h3.1, blws_le (n := st.length) (by rw [List.length_append]; omega) h3.2]
        rfl
    · simp at ho
      subst ho
      rfl
  walk_at "ev"
  refine cell_w (j := 1) hn fun c1 => ?_
  have hml : (sizes.map eP).length = sizes.length := List.length_map ..
  walk_at "ev"
  have hc0 := Int.emod_nonneg c1 (by omega : ((sizes.map eP).length : Int) ≠ 0)
  have hc1 := Int.emod_lt_of_pos c1 (by omega : (0 : Int) < ((sizes.map eP).length : Int))
  obtain ⟨n, hn2⟩ := Int.eq_ofNat_of_zero_le hc0
  rw [hn2]
  rw [hn2] at hc1
  have hnl : n < sizes.length := by omega
  obtain ⟨mo, pc, hmp⟩ : ∃ mo pc, sizes[n] = (mo, pc) := ⟨_, _, rfl⟩
  have hin : (mo, pc) ∈ sizes := hmp ▸ List.getElem_mem hnl
  refine r_ix (d := .tup [.int mo, .int pc]) rfl (atI_nat (by rw [List.getElem?_map, List.getElem?_eq_getElem hnl, hmp]; rfl)) ?_
  walk_at "ev"
  have hz := hs _ hin
  refine deal_w hd hz.1 hz.2.1 hz.2.2.1 hz.2.2.2 fun h p ts st1 g hm hp hd1 => ?_
  walk_at "ev"
  refine holding_w hd1 (by rw [List.length_append]; simp) hb2 g fun rows st2 gh hd2 => ?_
  walk_at "ev"
  have hl := hd2.len
  have ht : st2.take st.length = st := by
    obtain ⟨a, b, rfl, _⟩ := hd2
    rw [List.set_append_right _ _ (Nat.le_refl _), List.take_left]
  show wE (gc st.length (.dat (.tup [eDeal h p ts, eH rows])) _) P Q
  rw [wE_gc2]
  · rw [ht]
    exact k _ _ _ _ _ _ hin hm hp g gh
  · rw [hl, List.length_append]; simp
  · rw [Bool.and_eq_true, ht]
    refine ⟨?_, List.all_eq_true.mpr hb⟩
    show (D.blw st.length (eDeal h p ts) && (D.blw st.length (eH rows) && true)) = true
    rw [(En.int (n := 0)).tup.tup.bl]
    show ((true && (true && (D.blw st.length (eL eT ts) && true))) && (true && true)) = true
    rw [En.trip.tup.bl]
    rfl
end PM

namespace PM
open PySem PySem.Spec PyProof.Rows L2 PD PT
/-- a comprehension that makes of each its own -/
theorem comp_map {α : Type} {T : Tg} {a : EV} {env : PD.Env} {st : Stor} (f g : α → D) (xs : List α) (hl : xs.length ≤ 1000000) (hs : ∀ x ∈ xs, ∃ env1, T (f x) env = some env1 ∧ wE (a env1 st) (fun r s => r.froz = some (g x) ∧ s = st) (fun _ _ => False)) : compGo PD.putF T tTrue a (xs.map f) [] env st = .ok (.new (xs.map g)) st := by
  refine wE_eq (wE_comp (fun j acc s => acc = (xs.take j).map g ∧ s = st) ⟨rfl, rfl⟩ ?_ ?_)
  · rintro j d acc s hj ⟨rfl, rfl⟩
    have hjl := (List.getElem?_eq_some_iff.mp hj).1
    rw [List.length_map] at hjl
    have hat := List.getElem?_eq_getElem hjl
    rw [List.getElem?_map, hat] at hj
    cases hj
    obtain ⟨env1, e1, h⟩ := hs _ (List.getElem_mem hjl)
    refine ⟨env1, e1, ?_⟩
    refine r_ttrue ?_
    refine r_ifT ?_
    refine wE_mono h ?_ fun _ _ h => h.elim
    rintro r s ⟨e, rfl⟩
    unfold PD.putF
    rw [e]
    refine ⟨by rw [List.length_map, List.length_take]; omega, ?_, rfl⟩
    rw [List.take_succ, hat, List.map_append]
    rfl
  · rintro acc s ⟨rfl, rfl⟩
    rw [List.length_map, List.take_of_length_le (Nat.le_refl _)]
    exact ⟨rfl, rfl⟩
theorem any_not {α : Type} [DecidableEq α] {f : α → D} {n : Nat} (h : En f n) {xs : List α} {x : α} (hx : x ∉ xs) : ((xs.map f).any fun z => D.eqv z (f x)) = false := by rw [h.any]; exact decide_eq_false hx
theorem any_mem {α : Type} [DecidableEq α] {f : α → D} {n : Nat} (h : En f n) {xs : List α} {x : α} (hx : x ∈ xs) : ((xs.map f).any fun z => D.eqv z (f x)) = true := by rw [h.any]; exact decide_eq_true hx
theorem isnum_w {x lo hi : Int} {st : Stor} {P : R → Stor → Prop} {Q : Xc → Stor → Prop} (k : P (.dat (.bl (decide (lo ≤ x) && decide (x ≤ hi)))) st) : wE (f_p_is_number [.dat (.int x), .dat (.int lo), .dat (.int hi)] st) P Q := by
  unfold f_p_is_number b_p_is_number
  refine r_run (env := [some (.dat (.int x)), some (.dat (.int lo)), some (.dat (.int hi))]) rfl rfl ?_
  walk_at "ev"
  refine k_chain (fun c => ?_) (fun c => ?_)
  · walk_at "ev"
    rw [c, Bool.true_and] at k
    exact k_gc (Nat.le_refl _) k
  · walk_at "ev"
    rw [c, Bool.false_and] at k
    exact k_gc (Nat.le_refl _) k
theorem isnum_t {x lo hi : Int} {st : Stor} {P : R → Stor → Prop} {Q : Xc → Stor → Prop} (h : lo ≤ x ∧ x ≤ hi) (k : P (.dat (.bl true)) st) : wE (f_p_is_number [.dat (.int x), .dat (.int lo), .dat (.int hi)] st) P Q := by
  refine isnum_w ?_
  rw [decide_eq_true h.1, decide_eq_true h.2]
  exact k
theorem must_t {st : Stor} {P : R → Stor → Prop} {Q : Xc → Stor → Prop} (k : P (.dat .non) st) : wE (f_p_must [.dat (.bl true)] st) P Q := by
  unfold f_p_must b_p_must
  refine r_run (env := [some (.dat (.bl true))]) rfl rfl ?_
  walk_at "ev"
  exact k_gc (Nat.le_refl _) k
theorem need_deal_t {h p : Int} {ts : List (Int × Int × Int)} {st : Stor} {P : R → Stor → Prop} {Q : Xc → Stor → Prop} (g : GoodDeal h p ts) (k : P (.dat .non) st) : wE (f_p_need_deal [.dat (eDeal h p ts)] st) P Q := by
  obtain ⟨h1, h4, p1, p4, hl, hok, hnd⟩ := id g
  have hml : (ts.map eT).length = ts.length := List.length_map ..
  unfold f_p_need_deal b_p_need_deal
  refine r_run (env := [some (.dat (eDeal h p ts)), none, none]) rfl rfl ?_
  walk_at "ev"
  refine must_t ?_
  walk_at "ev"
  refine isnum_t (by omega) ?_
  walk_at "ev"
  refine isnum_t (by omega) ?_
  walk_at "ev"
  refine must_t ?_
  walk_at "ev"
  rw [decide_eq_true (show ((ts.map eT).length : Int) ≤ 8 by omega)]
  refine must_t ?_
  walk_at "ev"
  refine wS_forGo (fun j env s => ∃ o2, env = [some (.dat (eDeal h p ts)), some (.own ((ts.take j).map fun t => eP (t.1, t.2.1))), o2] ∧ s = st) ⟨none, rfl, rfl⟩ ?_ ?_
  · rintro j d env s hj ⟨o2, rfl, rfl⟩
    have hj : (ts.map eT)[j]? = some d := hj
    have hjl := (List.getElem?_eq_some_iff.mp hj).1
    rw [hml] at hjl
    obtain ⟨a, b, c, hab⟩ : ∃ a b c, ts[j] = (a, b, c) := ⟨_, _, _, rfl⟩
    have hat : ts[j]? = some (a, b, c) := by rw [List.getElem?_eq_getElem hjl, hab]
    rw [List.getElem?_map, hat] at hj
    cases hj
    have hz := hok _ (hab ▸ List.getElem_mem hjl)
    dsimp only at hz
    refine ⟨[some (.dat (eDeal h p ts)), some (.own ((ts.take j).map fun t => eP (t.1, t.2.1))), some (.dat (.tup [.int a, .int b, .int c]))], rfl, ?_⟩
    walk_at "ev"
    refine isnum_t (by omega) ?_
    walk_at "ev"
    refine must_t ?_
    walk_at "ev"
    refine isnum_t (by omega) ?_
    walk_at "ev"
    refine isnum_t (by omega) ?_
    walk_at "ev"
    refine must_t ?_
    walk_at "ev"
    refine r_ifP (by simpa using hz.2.2.2.2.1) ?_
    walk_at "ev"
    refine r_nin (d := eP (a, b)) (e := .lst (((ts.take j).map fun t => (t.1, t.2.1)).map eP)) (by with_unfolding_all exact rfl) (by rw [List.map_map]; rfl) rfl (sh_e En.pair (by decide) _) (sh_lst En.pair (by decide) _) ?_
    have hnin : (a, b) ∉ (ts.take j).map fun t => (t.1, t.2.1) := by
      intro hin
      obtain ⟨t, ht, e⟩ := List.mem_map.mp hin
      obtain ⟨i, hi⟩ := List.mem_iff_getElem?.mp ht
      rw [List.getElem?_take] at hi
      split at hi
      · rename_i hij
        have h1 : (ts.map fun t => (t.1, t.2.1))[i]? = some (a, b) := by rw [List.getElem?_map, hi, Option.map_some, e]
        have h2 : (ts.map fun t => (t.1, t.2.1))[j]? = some (a, b) := by rw [List.getElem?_map, hat]; rfl
        have := (List.getElem?_inj (by rw [List.length_map]; omega) hnd).mp (h1.trans h2.symm)
        omega
      · cases hi
    rw [any_not En.pair hnin]
    walk_at "ev"
    refine must_t ?_
    walk_at "ev"
    refine k_app rfl (by rw [List.length_map, List.length_take]; omega) rfl ?_
    walk_at "ev"
    refine ⟨some (.dat (.tup [.int a, .int b, .int c])), ?_, rfl⟩
    rw [List.take_succ, hat, List.map_append]
    rfl
  · rintro env s ⟨o2, rfl, rfl⟩
    exact k_gc (Nat.le_refl _) k
theorem rising_t {p : Int} {r : List Int} {st : Stor} {P : R → Stor → Prop} {Q : Xc → Stor → Prop} (h : r.Pairwise (· < ·)) (h2 : ∀ x ∈ r, 0 ≤ x ∧ x < p) (k : P (.dat (.bl true)) st) : wE (f_p_is_rising [.dat (eL D.int r), .dat (.int (p - 1))] st) P Q := by
  unfold f_p_is_rising b_p_is_rising
  refine r_run (env := [some (.dat (eL D.int r)), some (.dat (.int (p - 1))), none, none]) rfl rfl ?_
  walk_at "ev"
  refine wS_forGo (fun j env s => ∃ o3 last, env = [some (.dat (eL D.int r)), some (.dat (.int (p - 1))), some (.dat (.int last)), o3] ∧ s = st ∧ ∀ x ∈ r.drop j, last < x) ⟨none, -1, rfl, rfl, fun x hx => by have := (h2 x (List.mem_of_mem_drop hx)).1; omega⟩ ?_ ?_
  · rintro j d env s hj ⟨o3, last, rfl, rfl, hlast⟩
    have hj : (r.map D.int)[j]? = some d := hj
    have hjl := (List.getElem?_eq_some_iff.mp hj).1
    rw [List.length_map] at hjl
    rw [List.getElem?_map, List.getElem?_eq_getElem hjl] at hj
    cases hj
    have hz := h2 _ (List.getElem_mem hjl)
    have hdr := List.drop_eq_getElem_cons hjl
    have hlt := hlast r[j] (by rw [hdr]; exact List.mem_cons_self ..)
    refine ⟨_, rfl, ?_⟩
    walk_at "ev"
    refine isnum_t (by omega) ?_
    walk_at "ev"
    refine r_move rfl rfl ?_
    walk_at "ev"
    refine ⟨_, _, rfl, rfl, fun x hx => ?_⟩
    have hp := (h.sublist (List.drop_sublist j r))
    rw [hdr] at hp
    exact (List.pairwise_cons.mp hp).1 x hx
  · rintro env s ⟨o3, last, rfl, rfl, hlast⟩
    walk_at "ev"
    exact k_gc (Nat.le_refl _) k
theorem need_holding_t {h p : Int} {ts : List (Int × Int × Int)} {rows : List (List Int)} {st : Stor} {P : R → Stor → Prop} {Q : Xc → Stor → Prop} (g : GoodDeal h p ts) (gh : GoodHold h p rows) (k : P (.dat .non) st) : wE (f_p_need_holding [.dat (eDeal h p ts), .dat (eH rows)] st) P Q := by
  have hh := gh.len
  have hml : (rows.map (eL D.int)).length = rows.length := List.length_map ..
  unfold f_p_need_holding b_p_need_holding
  refine r_run (env := [some (.dat (eDeal h p ts)), some (.dat (eH rows)), none]) rfl rfl ?_
  walk_at "ev"
  refine need_deal_t g ?_
  walk_at "ev"
  refine r_ifQ (by rw [decide_eq_true (show ((rows.map (eL D.int)).length : Int) = h by omega)]; rfl) ?_
  walk_at "ev"
  have hc : ∀ (N : R → Stor → Prop) (Q : Xc → Stor → Prop), N (.new []) st → wE (compGo PD.putF (tgN 2) (tNotT (tVal (eAp (fCall f_p_is_rising) (aCons (eVar 2) (aCons (eBin fSub (eBin fIx (eVar 0) (eC (.int 1))) (eC (.int 1))) aNil))))) (eVar 2) (rows.map (eL D.int)) [] [some (.dat (eDeal h p ts)), some (.dat (eH rows)), none] st) N Q := fun N Q hN => by
    refine wE_comp (fun j acc s => acc = [] ∧ s = st) ⟨rfl, rfl⟩ ?_ ?_
    · rintro j d acc s hj ⟨rfl, rfl⟩
      have hm := List.mem_of_getElem? hj
      obtain ⟨r, hr, rfl⟩ := List.mem_map.mp hm
      have hz := gh.ok r hr
      refine ⟨_, rfl, ?_⟩
      walk_at "ev"
      refine rising_t hz.1 hz.2 ?_
      walk_at "ev"
      exact ⟨rfl, rfl⟩
    · rintro acc s ⟨rfl, rfl⟩
      exact hN
  refine hc _ _ ?_
  walk_at "ev"
  refine r_ne (d := .lst []) (e := .lst []) rfl rfl rfl rfl ?_
  walk_at "ev"
  exact k_gc (Nat.le_refl _) k
end PM

set_option pp.maxSteps 600
set_option pp.deepTerms false
namespace PM
open PySem PySem.Spec PyProof.Rows L2 PD PT
/-! ### what refuses deals and holdings, for any plain data -/
abbrev xBD0 : Xc := ⟨"BadDeal", []⟩
abbrev xBH0 : Xc := ⟨"BadHolding", []⟩
theorem mustD_0 {st : Stor} {P : R → Stor → Prop} {Q : Xc → Stor → Prop} (k : Q xBD0 st) : wE (f_p_must [.dat (.bl false)] st) P Q := by
  unfold f_p_must b_p_must
  refine r_run (env := [some (.dat (.bl false))]) rfl rfl ?_
  walk_at "ev"
  exact k
def numB (lo hi : Int) : D → Bool
  | .int x => decide (lo ≤ x) && decide (x ≤ hi)
  | _ => false
theorem numB_t {lo hi : Int} {d : D} (h : numB lo hi d = true) : ∃ x, d = .int x ∧ lo ≤ x ∧ x ≤ hi := by
  cases d with
  | int x =>
    have h : (decide (lo ≤ x) && decide (x ≤ hi)) = true := h
    simp only [Bool.and_eq_true, decide_eq_true_eq] at h
    exact ⟨x, rfl, h⟩
  | _ => cases h
theorem numB_i {lo hi x : Int} (h : lo ≤ x ∧ x ≤ hi) : numB lo hi (.int x) = true := by
  show (decide (lo ≤ x) && decide (x ≤ hi)) = true
  simp only [Bool.and_eq_true, decide_eq_true_eq]
  exact h
theorem isnum_D {d : D} {n : Nat} {lo hi : Int} {st : Stor} {P : R → Stor → Prop} {Q : Xc → Stor → Prop} (hs : D.sh n d = true) (k : P (.dat (.bl (numB lo hi d))) st) : wE (f_p_is_number [.dat d, .dat (.int lo), .dat (.int hi)] st) P Q := by
  cases d with
  | int x => exact isnum_w k
  | ref i => cases n <;> cases hs
  | glo i => cases n <;> cases hs
  | _ =>
    unfold f_p_is_number b_p_is_number
    refine r_run rfl rfl ?_
    walk_at "ev"
    exact k_gc (Nat.le_refl _) k
theorem tup_or {n : Nat} {d : D} (hs : D.sh n d = true) : (∃ ds, d = .tup ds) ∨ ((∀ ds, d ≠ .tup ds) ∧ ∃ t : Ty, t.isi .tup = false ∧ ∀ st, tyOf st (.dat d) = some t) := by
  cases d with
  | tup ds => exact .inl ⟨ds, rfl⟩
  | ref i => cases n <;> cases hs
  | glo i => cases n <;> cases hs
  | _ => exact .inr ⟨fun ds e => (by cases e), _, rfl, fun st => rfl⟩
theorem shs_at {n : Nat} : ∀ {ds : List D} {i : Nat} {d : D}, PD.shs n ds = true → ds[i]? = some d → D.sh n d = true
  | [], _, _, _, h => by simp at h
  | x :: xs, 0, d, h, e => by
    have h : (D.sh n x && PD.shs n xs) = true := h
    rw [Bool.and_eq_true] at h
    have e : x = d := by simpa using e
    exact e ▸ h.1
  | x :: xs, i + 1, d, h, e => by
    have h : (D.sh n x && PD.shs n xs) = true := h
    rw [Bool.and_eq_true] at h
    exact shs_at h.2 (by simpa using e)
theorem sh_tup_in {n : Nat} {ds : List D} (h : D.sh (n + 1) (.tup ds) = true) : PD.shs n ds = true := h
def three : List D → Option (D × D × D)
  | [a, b, c] => some (a, b, c)
  | _ => none
theorem three_len {ds : List D} (h : (ds.length : Int) = 3) : ∃ a b c, ds = [a, b, c] := by
  match ds, h with
  | [], h => simp at h
  | [_], h => simp at h
  | [_, _], h => simp at h
  | [a, b, c], _ => exact ⟨a, b, c, rfl⟩
  | _ :: _ :: _ :: _ :: _, h => simp at h; omega
def GDeal (d : D) : Prop := ∃ h p ts, d = eDeal h p ts ∧ GoodDeal h p ts
theorem need_dealD {d : D} {st : Stor} {P : R → Stor → Prop} {Q : Xc → Stor → Prop} (hs : D.sh 10 d = true) (hP : GDeal d → P (.dat .non) st) (hQ : ¬ GDeal d → Q xBD0 st) : wE (f_p_need_deal [.dat d] st) P Q := by
  unfold f_p_need_deal b_p_need_deal
  refine r_run (env := [some (.dat d), none, none]) rfl rfl ?_
  rcases tup_or hs with ⟨ds, rfl⟩ | ⟨hno, t, ht, hty⟩
  rotate_left
  · walk_at "ev"
    refine r_isi (hty _) ht ?_
    walk_at "ev"
    exact mustD_0 (hQ fun ⟨h, p, ts, e, _⟩ => hno _ e)
  walk_at "ev"
  by_cases q0 : (ds.length : Int) = 3
  rotate_left
  · rw [decide_eq_false q0]
    refine mustD_0 (hQ fun ⟨h, p, ts, e, _⟩ => q0 ?_)
    cases e; rfl
  rw [decide_eq_true q0]
  obtain ⟨a, b, c, rfl⟩ := three_len q0
  have hs := sh_tup_in hs
  have sa : D.sh 9 a = true := shs_at (i := 0) hs rfl
  have sb : D.sh 9 b = true := shs_at (i := 1) hs rfl
  have sc : D.sh 9 c = true := shs_at (i := 2) hs rfl
  refine must_t ?_
  walk_at "ev"
  refine isnum_D sa ?_
  cases qa : numB 1 4 a with
  | false =>
    walk_at "ev"
    refine mustD_0 (hQ fun ⟨h, p, ts, e, g⟩ => ?_)
    cases e
    rw [numB_i ⟨g.h1, g.h4⟩] at qa
    cases qa
  | true =>
  walk_at "ev"
  refine isnum_D sb ?_
  cases qb : numB 1 4 b with
  | false =>
    walk_at "ev"
    refine mustD_0 (hQ fun ⟨h, p, ts, e, g⟩ => ?_)
    cases e
    rw [numB_i ⟨g.p1, g.p4⟩] at qb
    cases qb
  | true =>
  obtain ⟨h, rfl, h1, h4⟩ := numB_t qa
  obtain ⟨p, rfl, p1, p4⟩ := numB_t qb
  walk_at "ev"
  refine must_t ?_
  rcases tup_or sc with ⟨cs, rfl⟩ | ⟨hno, t, ht, hty⟩
  rotate_left
  · walk_at "ev"
    refine r_isi (hty _) ht ?_
    walk_at "ev"
    refine mustD_0 (hQ fun ⟨h, p, ts, e, _⟩ => ?_)
    cases e
    exact hno _ rfl
  walk_at "ev"
  by_cases q3 : (cs.length : Int) ≤ 8
  rotate_left
  · rw [decide_eq_false q3]
    refine mustD_0 (hQ fun ⟨h, p, ts, e, g⟩ => q3 ?_)
    cases e
    have := g.len
    rw [List.length_map]; omega
  rw [decide_eq_true q3]
  have hcs := sh_tup_in sc
  refine must_t ?_
  walk_at "ev"
  refine wS_forGo (fun j env s => ∃ (o2 : Option SV) (ts : List (Int × Int × Int)), env = [some (.dat (.tup [.int h, .int p, .tup cs])), some (.own (ts.map fun t => eP (t.1, t.2.1))), o2] ∧ s = st ∧ cs.take j = ts.map eT ∧ (∀ t ∈ ts, 0 ≤ t.1 ∧ t.1 < h ∧ 0 ≤ t.2.1 ∧ t.2.1 < h ∧ t.1 ≠ t.2.1 ∧ 1 ≤ t.2.2 ∧ t.2.2 ≤ 4) ∧ (ts.map fun t => (t.1, t.2.1)).Nodup) ⟨none, [], rfl, rfl, by simp, fun t ht => by simp at ht, by simp⟩ ?_ ?_
  · rintro j d env s hj ⟨o2, ts, rfl, rfl, htk, hok, hnd⟩
    have hj : cs[j]? = some d := hj
    have hjl := (List.getElem?_eq_some_iff.mp hj).1
    have sd : D.sh 8 d = true := shs_at hcs hj
    have good : ∀ h' p' ts', (D.tup [.int h, .int p, .tup cs]) = eDeal h' p' ts' → h' = h ∧ p' = p ∧ cs = ts'.map eT := fun h' p' ts' e => by
      cases e; exact ⟨rfl, rfl, rfl⟩
    have tie : ∀ h' p' ts', (D.tup [.int h, .int p, .tup cs]) = eDeal h' p' ts' → GoodDeal h' p' ts' → ∃ t : Int × Int × Int, ts'[j]? = some t ∧ d = eT t ∧ 0 ≤ t.1 ∧ t.1 < h ∧ 0 ≤ t.2.1 ∧ t.2.1 < h ∧ t.1 ≠ t.2.1 ∧ 1 ≤ t.2.2 ∧ t.2.2 ≤ 4 := fun h' p' ts' e g => by
      obtain ⟨rfl, rfl, e2⟩ := good _ _ _ e
      rw [e2, List.getElem?_map] at hj
      obtain ⟨t, ht, rfl⟩ := Option.map_eq_some_iff.mp hj
      exact ⟨t, ht, rfl, g.ok t (List.mem_of_getElem? ht)⟩
    refine ⟨[some (.dat (.tup [.int h, .int p, .tup cs])), some (.own (ts.map fun t => eP (t.1, t.2.1))), some (.dat d)], rfl, ?_⟩
    rcases tup_or sd with ⟨es, rfl⟩ | ⟨hno, t, ht, hty⟩
    rotate_left
    · walk_at "ev"
      refine r_isi (hty _) ht ?_
      walk_at "ev"
      refine mustD_0 (hQ fun ⟨h', p', ts', e, g⟩ => ?_)
      obtain ⟨t, _, e2, _⟩ := tie _ _ _ e g
      exact hno _ e2
    walk_at "ev"
    by_cases q0 : (es.length : Int) = 3
    rotate_left
    · rw [decide_eq_false q0]
      walk_at "ev"
      refine mustD_0 (hQ fun ⟨h', p', ts', e, g⟩ => q0 ?_)
      obtain ⟨t, _, e2, _⟩ := tie _ _ _ e g
      cases e2; rfl
    rw [decide_eq_true q0]
    obtain ⟨x, y, z, rfl⟩ := three_len q0
    have sd := sh_tup_in sd
    have sx : D.sh 7 x = true := shs_at (i := 0) sd rfl
    have sy : D.sh 7 y = true := shs_at (i := 1) sd rfl
    have sz : D.sh 7 z = true := shs_at (i := 2) sd rfl
    walk_at "ev"
    refine isnum_D sz ?_
    cases qz : numB 1 4 z with
    | false =>
      walk_at "ev"
      refine mustD_0 (hQ fun ⟨h', p', ts', e, g⟩ => ?_)
      obtain ⟨⟨t1, t2, t3⟩, _, e2, _, _, _, _, _, g6⟩ := tie _ _ _ e g
      cases e2
      rw [numB_i g6] at qz
      cases qz
    | true =>
    walk_at "ev"
    refine must_t ?_
    walk_at "ev"
    refine isnum_D sx ?_
    cases qx : numB 0 (h - 1) x with
    | false =>
      walk_at "ev"
      refine mustD_0 (hQ fun ⟨h', p', ts', e, g⟩ => ?_)
      obtain ⟨⟨t1, t2, t3⟩, _, e2, g1, g2, _⟩ := tie _ _ _ e g
      cases e2
      rw [numB_i ⟨g1, by dsimp only at g2 ⊢; omega⟩] at qx
      cases qx
    | true =>
    walk_at "ev"
    refine isnum_D sy ?_
    cases qy : numB 0 (h - 1) y with
    | false =>
      walk_at "ev"
      refine mustD_0 (hQ fun ⟨h', p', ts', e, g⟩ => ?_)
      obtain ⟨⟨t1, t2, t3⟩, _, e2, _, _, g1, g2, _⟩ := tie _ _ _ e g
      cases e2
      rw [numB_i ⟨g1, by dsimp only at g2 ⊢; omega⟩] at qy
      cases qy
    | true =>
    obtain ⟨z, rfl, z1, z2⟩ := numB_t qz
    obtain ⟨x, rfl, x1, x2⟩ := numB_t qx
    obtain ⟨y, rfl, y1, y2⟩ := numB_t qy
    walk_at "ev"
    refine must_t ?_
    walk_at "ev"
    by_cases q7 : x = y
    · refine r_ifQ (by simp [q7]) ?_
      walk_at "ev"
      have fin := hQ fun ⟨h', p', ts', e, g⟩ => by
        obtain ⟨⟨t1, t2, t3⟩, _, e2, _, _, _, _, g5, _⟩ := tie _ _ _ e g
        cases e2
        exact g5 q7
      first
        | exact mustD_0 fin
        | (rw [show (!decide (x = y)) = false by simp [q7]]; exact mustD_0 fin)
    refine r_ifP (by simpa using q7) ?_
    walk_at "ev"
    refine r_nin (d := eP (x, y)) (e := .lst ((ts.map fun t => (t.1, t.2.1)).map eP)) (by with_unfolding_all exact rfl) (by rw [List.map_map]; rfl) rfl (sh_e En.pair (by decide) _) (sh_lst En.pair (by decide) _) ?_
    have htl : (cs.take j).length = j := by rw [List.length_take]; omega
    by_cases q8 : (x, y) ∈ ts.map fun t => (t.1, t.2.1)
    · rw [any_mem En.pair q8]
      refine mustD_0 (hQ fun ⟨h', p', ts', e, g⟩ => ?_)
      obtain ⟨⟨t1, t2, t3⟩, htj, e2, _⟩ := tie _ _ _ e g
      obtain ⟨_, _, e3⟩ := good _ _ _ e
      have ex : t1 = x ∧ t2 = y := by
        cases e2
        exact ⟨rfl, rfl⟩
      obtain ⟨t, ht, e⟩ := List.mem_map.mp q8
      obtain ⟨i, hi⟩ := List.mem_iff_getElem?.mp ht
      have hil := (List.getElem?_eq_some_iff.mp hi).1
      have hlen : ts.length = j := by
        have := congrArg List.length htk
        rw [htl, List.length_map] at this
        exact this.symm
      have hci : cs[i]? = some (eT t) := by
        have h1 : (cs.take j)[i]? = some (eT t) := by rw [htk, List.getElem?_map, hi]; rfl
        rw [List.getElem?_take_of_lt (by omega)] at h1
        exact h1
      rw [e3, List.getElem?_map] at hci
      obtain ⟨u, hu, eu⟩ := Option.map_eq_some_iff.mp hci
      have eu : u = t := by
        obtain ⟨u1, u2, u3⟩ := u
        obtain ⟨v1, v2, v3⟩ := t
        cases eu; rfl
      subst eu
      have h1 : (ts'.map fun t => (t.1, t.2.1))[i]? = some (x, y) := by rw [List.getElem?_map, hu, Option.map_some, e]
      have h2 : (ts'.map fun t => (t.1, t.2.1))[j]? = some (x, y) := by rw [List.getElem?_map, htj, ← ex.1, ← ex.2]; rfl
      have h3 := (List.getElem?_inj (by have := (List.getElem?_eq_some_iff.mp h1).1; exact this) g.nd).mp (h1.trans h2.symm)
      omega
    rw [any_not En.pair q8]
    walk_at "ev"
    refine must_t ?_
    walk_at "ev"
    have hlt : ts.length = j := by
      have := congrArg List.length htk
      rw [htl, List.length_map] at this
      exact this.symm
    refine k_app rfl (by rw [List.length_map]; omega) rfl ?_
    walk_at "ev"
    refine ⟨some (.dat (.tup [.int x, .int y, .int z])), ts ++ [(x, y, z)], by rw [List.map_append]; rfl, rfl, ?_, fun t ht => ?_, ?_⟩
    · rw [List.take_succ, hj, htk, List.map_append]
      rfl
    · rcases List.mem_append.mp ht with ht | ht
      · exact hok t ht
      · simp at ht
        subst ht
        dsimp only
        exact ⟨x1, by omega, y1, by omega, q7, z1, z2⟩
    · rw [List.map_append]
      refine List.nodup_append.mpr ⟨hnd, by simp, fun u hu v hv => ?_⟩
      simp at hv
      subst hv
      intro e
      subst e
      exact q8 hu
  · rintro env s ⟨o2, ts, rfl, rfl, htk, hok, hnd⟩
    rw [List.take_of_length_le (Nat.le_refl _)] at htk
    subst htk
    rw [List.length_map] at q3
    exact k_gc (Nat.le_refl _) (hP ⟨h, p, ts, rfl, h1, h4, p1, p4, by omega, hok, hnd⟩)
/-! ### rows -/
def risF (lo hi : Int) : List D → Bool
  | [] => true
  | .int x :: ds => decide (lo ≤ x) && decide (x ≤ hi) && risF (x + 1) hi ds
  | _ :: _ => false
def rowB (hi : Int) : D → Bool
  | .tup ds => risF 0 hi ds
  | _ => false
theorem risF_cons {lo hi : Int} {d : D} {ds : List D} : risF lo hi (d :: ds) = match d with | .int x => numB lo hi (.int x) && risF (x + 1) hi ds | _ => false := by
  cases d <;> rfl
theorem risF_t {hi : Int} : ∀ {ds : List D} {lo : Int}, risF lo hi ds = true → ∃ r : List Int, ds = r.map D.int ∧ r.Pairwise (· < ·) ∧ ∀ x ∈ r, lo ≤ x ∧ x ≤ hi
  | [], _, _ => ⟨[], rfl, .nil, fun x h => by simp at h⟩
  | d :: ds, lo, h => by
    cases d with
    | int x =>
      have h : (decide (lo ≤ x) && decide (x ≤ hi) && risF (x + 1) hi ds) = true := h
      simp only [Bool.and_eq_true, decide_eq_true_eq] at h
      obtain ⟨r, rfl, h2, h3⟩ := risF_t h.2
      refine ⟨x :: r, rfl, List.pairwise_cons.mpr ⟨fun y hy => by have := h3 y hy; omega, h2⟩, fun y hy => ?_⟩
      rcases List.mem_cons.mp hy with rfl | hy
      · exact h.1
      · have := h3 y hy; omega
    | _ => cases h
theorem risF_r {hi : Int} : ∀ {r : List Int} {lo : Int}, r.Pairwise (· < ·) → (∀ x ∈ r, lo ≤ x ∧ x ≤ hi) → risF lo hi (r.map D.int) = true
  | [], _, _, _ => rfl
  | x :: r, lo, h, q => by
    have hc := List.pairwise_cons.mp h
    show (decide (lo ≤ x) && decide (x ≤ hi) && risF (x + 1) hi (r.map D.int)) = true
    have q0 := q x (List.mem_cons_self ..)
    rw [risF_r (r := r) (lo := x + 1) hc.2 fun y hy => ⟨by have := hc.1 y hy; omega, (q y (List.mem_cons_of_mem _ hy)).2⟩, decide_eq_true q0.1, decide_eq_true q0.2]
    rfl
theorem rising_D {d : D} {hi : Int} {st : Stor} {P : R → Stor → Prop} {Q : Xc → Stor → Prop} (hs : D.sh 9 d = true) (k : P (.dat (.bl (rowB hi d))) st) : wE (f_p_is_rising [.dat d, .dat (.int hi)] st) P Q := by
  unfold f_p_is_rising b_p_is_rising
  refine r_run (env := [some (.dat d), some (.dat (.int hi)), none, none]) rfl rfl ?_
  rcases tup_or hs with ⟨ds, rfl⟩ | ⟨hno, t, ht, hty⟩
  rotate_left
  · walk_at "ev"
    refine r_isi (hty _) ht ?_
    walk_at "ev"
    refine k_gc (Nat.le_refl _) ?_
    have e : rowB hi d = false := by
      cases d with
      | tup ds => exact absurd rfl (hno ds)
      | _ => rfl
    rw [e] at k
    exact k
  have hs := sh_tup_in hs
  walk_at "ev"
  refine wS_forGo (fun j env s => ∃ o3 last, env = [some (.dat (.tup ds)), some (.dat (.int hi)), some (.dat (.int last)), o3] ∧ s = st ∧ risF 0 hi ds = risF (last + 1) hi (ds.drop j)) ⟨none, -1, rfl, rfl, rfl⟩ ?_ ?_
  · rintro j d env s hj ⟨o3, last, rfl, rfl, h1⟩
    have hjl := (List.getElem?_eq_some_iff.mp hj).1
    have hdr := List.drop_eq_getElem_cons hjl
    have hje : ds[j] = d := (List.getElem?_eq_some_iff.mp hj).2
    rw [hdr, hje, risF_cons] at h1
    refine ⟨_, rfl, ?_⟩
    walk_at "ev"
    refine isnum_D (shs_at hs hj) ?_
    cases q : numB (last + 1) hi d with
    | false =>
      walk_at "ev"
      refine k_gc (Nat.le_refl _) ?_
      have e : rowB hi (.tup ds) = false := by
        show risF 0 hi ds = false
        rw [h1]
        cases d with
        | int x => dsimp only; rw [q]; rfl
        | _ => rfl
      rw [e] at k
      exact k
    | true =>
      obtain ⟨x, rfl, _, _⟩ := numB_t q
      walk_at "ev"
      refine r_move rfl rfl ?_
      walk_at "ev"
      refine ⟨_, _, rfl, rfl, ?_⟩
      rw [h1]
      dsimp only
      rw [q, Bool.true_and]
  · rintro env s ⟨o3, last, rfl, rfl, h1⟩
    rw [List.drop_length] at h1
    walk_at "ev"
    refine k_gc (Nat.le_refl _) ?_
    rw [show rowB hi (.tup ds) = true from h1] at k
    exact k
def GHold (h p : Int) (d : D) : Prop := ∃ rows, d = eH rows ∧ GoodHold h p rows
theorem rowB_t {p : Int} {d : D} (h : rowB (p - 1) d = true) : ∃ r : List Int, d = eL D.int r ∧ r.Pairwise (· < ·) ∧ ∀ x ∈ r, 0 ≤ x ∧ x < p := by
  cases d with
  | tup ds =>
    obtain ⟨r, rfl, h2, h3⟩ := risF_t h
    exact ⟨r, rfl, h2, fun x hx => ⟨(h3 x hx).1, by have := (h3 x hx).2; omega⟩⟩
  | _ => cases h
theorem rowB_r {p : Int} {r : List Int} (h : r.Pairwise (· < ·)) (q : ∀ x ∈ r, 0 ≤ x ∧ x < p) : rowB (p - 1) (eL D.int r) = true := risF_r h fun x hx => ⟨(q x hx).1, by have := (q x hx).2; omega⟩
theorem rows_t {p : Int} : ∀ {ds : List D}, (∀ d ∈ ds, rowB (p - 1) d = true) → ∃ rows : List (List Int), ds = rows.map (eL D.int) ∧ ∀ r ∈ rows, r.Pairwise (· < ·) ∧ ∀ x ∈ r, 0 ≤ x ∧ x < p
  | [], _ => ⟨[], rfl, fun r h => by simp at h⟩
  | d :: ds, h => by
    obtain ⟨r, rfl, h1, h2⟩ := rowB_t (h d (List.mem_cons_self ..))
    obtain ⟨rows, rfl, h3⟩ := rows_t fun x hx => h x (List.mem_cons_of_mem _ hx)
    exact ⟨r :: rows, rfl, fun s hs => by
      rcases List.mem_cons.mp hs with rfl | hs
      · exact ⟨h1, h2⟩
      · exact h3 s hs⟩
theorem need_holdingD {h p : Int} {ts : List (Int × Int × Int)} {d : D} {st : Stor} {P : R → Stor → Prop} {Q : Xc → Stor → Prop} (g : GoodDeal h p ts) (hs : D.sh 10 d = true) (hP : GHold h p d → P (.dat .non) st) (hQ : ¬ GHold h p d → Q xBH0 st) : wE (f_p_need_holding [.dat (eDeal h p ts), .dat d] st) P Q := by
  have h4 := g.h4
  unfold f_p_need_holding b_p_need_holding
  refine r_run (env := [some (.dat (eDeal h p ts)), some (.dat d), none]) rfl rfl ?_
  walk_at "ev"
  refine need_deal_t g ?_
  rcases tup_or hs with ⟨ds, rfl⟩ | ⟨hno, t, ht, hty⟩
  rotate_left
  · walk_at "ev"
    refine r_isi (hty _) ht ?_
    walk_at "ev"
    exact hQ fun ⟨rows, e, _⟩ => hno _ e
  have hss := sh_tup_in hs
  walk_at "ev"
  by_cases q1 : (ds.length : Int) = h
  rotate_left
  · refine r_ifP (by rw [decide_eq_false q1]; rfl) ?_
    walk_at "ev"
    refine hQ fun ⟨rows, e, g2⟩ => q1 ?_
    cases e
    rw [List.length_map]
    exact g2.len
  refine r_ifQ (by rw [decide_eq_true q1]; rfl) ?_
  walk_at "ev"
  refine wE_comp (fun j acc s => acc = (ds.take j).filter (fun r => !rowB (p - 1) r) ∧ s = st) ⟨rfl, rfl⟩ ?_ ?_
  · rintro j d acc s hj ⟨rfl, rfl⟩
    refine ⟨_, rfl, ?_⟩
    walk_at "ev"
    refine rising_D (shs_at hss hj) ?_
    cases q2 : rowB (p - 1) d with
    | true =>
      walk_at "ev"
      refine ⟨?_, rfl⟩
      rw [List.take_succ, hj, List.filter_append]
      simp [q2]
    | false =>
      walk_at "ev"
      have hfl := List.length_filter_le (fun r => !rowB (p - 1) r) (ds.take j)
      rw [List.length_take] at hfl
      refine ⟨by omega, ?_, rfl⟩
      rw [List.take_succ, hj, List.filter_append]
      simp [q2]
  · rintro acc s ⟨rfl, rfl⟩
    rw [List.take_of_length_le (Nat.le_refl _)]
    walk_at "ev"
    have hsf : PD.shs 9 (ds.filter fun r => !rowB (p - 1) r) = true := by
      have : ∀ xs : List D, PD.shs 9 xs = true → PD.shs 9 (xs.filter fun r => !rowB (p - 1) r) = true := by
        intro xs
        induction xs with
        | nil => exact fun h => h
        | cons x xs ih =>
          intro hx
          have hx : (D.sh 9 x && PD.shs 9 xs) = true := hx
          rw [Bool.and_eq_true] at hx
          rw [List.filter_cons]
          split
          · show (D.sh 9 x && PD.shs 9 _) = true
            rw [hx.1, ih hx.2]; rfl
          · exact ih hx.2
      exact this ds hss
    refine r_ne (d := .lst (ds.filter fun r => !rowB (p - 1) r)) (e := .lst []) rfl rfl ((sh_le (by decide : 9 ≤ 19)).2 _ hsf) rfl ?_
    cases e : ds.filter (fun r => !rowB (p - 1) r) with
    | nil =>
      walk_at "ev"
      have hall : ∀ d ∈ ds, rowB (p - 1) d = true := fun d hd => by
        have := List.filter_eq_nil_iff.mp e d hd
        simpa using this
      obtain ⟨rows, rfl, h3⟩ := rows_t hall
      exact k_gc (Nat.le_refl _) (hP ⟨rows, rfl, by rw [List.length_map] at q1; exact q1, h3⟩)
    | cons r rs =>
      walk_at "ev"
      refine hQ fun ⟨rows, e2, g2⟩ => ?_
      cases e2
      have hm : r ∈ (rows.map (eL D.int)).filter (fun r => !rowB (p - 1) r) := by rw [e]; exact List.mem_cons_self ..
      have h2 := List.mem_filter.mp hm
      obtain ⟨r', hr', rfl⟩ := List.mem_map.mp h2.1
      have h3 := g2.ok r' hr'
      rw [rowB_r h3.1 h3.2] at h2
      exact absurd h2.2 (by simp)
/-- a deal that is none, with whatever holding -/
theorem need_holdingB {d e : D} {st : Stor} {P : R → Stor → Prop} {Q : Xc → Stor → Prop} (hs : D.sh 10 d = true) (hb : ¬ GDeal d) (hQ : Q xBD0 st) : wE (f_p_need_holding [.dat d, .dat e] st) P Q := by
  unfold f_p_need_holding b_p_need_holding
  refine r_run (env := [some (.dat d), some (.dat e), none]) rfl rfl ?_
  walk_at "ev"
  refine need_dealD hs (fun g => absurd g hb) fun _ => ?_
  walk_at "ev"
  exact hQ
end PM

set_option pp.maxSteps 600
set_option pp.deepTerms false
namespace PM
open PySem PySem.Spec PyProof.Rows L2 PD PT
/-! ### a hand leaves -/
abbrev Tie3 := Int × Int × Int
theorem cutU_drop {ds : List D} {k : Nat} (h : k ≤ ds.length) : PD.cutD ds (some (k : Int)) none = ds.drop k := by
  unfold PD.cutD
  rw [HT.sIx_nat, HT.sIx_none, Nat.min_eq_left h]
  exact List.take_of_length_le (by rw [List.length_drop]; omega)
theorem shsU {n : Nat} : ∀ {ds : List D}, (∀ d ∈ ds, D.sh n d = true) → PD.shs n ds = true
  | [], _ => rfl
  | d :: ds, h => by
    show (D.sh n d && PD.shs n ds) = true
    rw [h d (List.mem_cons_self ..), shsU fun x hx => h x (List.mem_cons_of_mem _ hx)]
    rfl
def lessN (hd x : Int) : Int := x - (if hd < x then 1 else 0)
def lessT (hd : Int) (t : Tie3) : Tie3 := (lessN hd t.1, lessN hd t.2.1, t.2.2)
def keepT (hd : Int) (t : Tie3) : Bool := !decide (t.1 = hd) && !decide (t.2.1 = hd)
def tsL (hd : Int) (ts : List Tie3) : List Tie3 := (ts.filter (keepT hd)).map (lessT hd)
def rowsL (n : Nat) (rows : List (List Int)) : List (List Int) := rows.take n ++ rows.drop (n + 1)
theorem lessN_inj {hd x y : Int} (hx : x ≠ hd) (hy : y ≠ hd) (h : lessN hd x = lessN hd y) : x = y := by
  unfold lessN at h
  split at h <;> split at h <;> omega
theorem keepT_iff {hd : Int} {t : Tie3} : keepT hd t = true ↔ t.1 ≠ hd ∧ t.2.1 ≠ hd := by
  unfold keepT
  simp [Bool.and_eq_true]
theorem tsL_good {h p : Int} {ts : List Tie3} {n : Nat} (g : GoodDeal h p ts) (hn : (n : Int) < h) (h2 : 2 ≤ h) : GoodDeal (h - 1) p (tsL n ts) := by
  have hlen : (tsL n ts).length ≤ ts.length := by
    unfold tsL
    rw [List.length_map]
    exact List.length_filter_le _ _
  refine ⟨by omega, by have := g.h4; omega, g.p1, g.p4, by have := g.len; omega, fun t ht => ?_, ?_⟩
  · unfold tsL at ht
    obtain ⟨u, hu, rfl⟩ := List.mem_map.mp ht
    obtain ⟨hu, hk⟩ := List.mem_filter.mp hu
    obtain ⟨k1, k2⟩ := keepT_iff.mp hk
    obtain ⟨g1, g2, g3, g4, g5, g6, g7⟩ := g.ok u hu
    refine ⟨?_, ?_, ?_, ?_, fun e => g5 (lessN_inj k1 k2 e), g6, g7⟩
    · show 0 ≤ lessN n u.1; unfold lessN; split <;> omega
    · show lessN n u.1 < h - 1; unfold lessN; split <;> omega
    · show 0 ≤ lessN n u.2.1; unfold lessN; split <;> omega
    · show lessN n u.2.1 < h - 1; unfold lessN; split <;> omega
  · unfold tsL
    rw [List.map_map]
    have hnd := g.nd
    unfold List.Nodup at hnd ⊢
    rw [List.pairwise_map] at hnd ⊢
    refine (List.Pairwise.filter (keepT n) hnd).imp_of_mem fun {a b} ha hb hab e => hab ?_
    obtain ⟨a1, a2⟩ := keepT_iff.mp (List.mem_filter.mp ha).2
    obtain ⟨b1, b2⟩ := keepT_iff.mp (List.mem_filter.mp hb).2
    have e : (lessN n a.1, lessN n a.2.1) = (lessN n b.1, lessN n b.2.1) := e
    have e1 := lessN_inj a1 b1 (congrArg Prod.fst e)
    have e2 := lessN_inj a2 b2 (congrArg Prod.snd e)
    show (a.1, a.2.1) = (b.1, b.2.1)
    rw [e1, e2]
theorem rowsL_good {h p : Int} {rows : List (List Int)} {n : Nat} (g : GoodHold h p rows) (hn : (n : Int) < h) : GoodHold (h - 1) p (rowsL n rows) := by
  have hl := g.len
  refine ⟨?_, fun r hr => ?_⟩
  · unfold rowsL
    rw [List.length_append, List.length_take, List.length_drop]
    omega
  · unfold rowsL at hr
    rcases List.mem_append.mp hr with hr | hr
    · exact g.ok r (List.mem_of_mem_take hr)
    · exact g.ok r (List.mem_of_mem_drop hr)
theorem deal_sh {h p : Int} {ts : List Tie3} : D.sh 10 (eDeal h p ts) = true := by
  show (true && (true && (PD.shs 8 (ts.map eT) && true))) = true
  rw [(En.trip.up (by decide : 1 ≤ 8)).shs ts]
  rfl
theorem deal_inj {h h' p p' : Int} {ts ts' : List Tie3} (e : eDeal h p ts = eDeal h' p' ts') : h = h' ∧ p = p' ∧ ts.map eT = ts'.map eT := by
  unfold eDeal eL at e
  simp only [D.tup.injEq, List.cons.injEq, D.int.injEq, and_true] at e
  exact ⟨e.1, e.2.1, e.2.2⟩
theorem less_w {x hd : Int} {st : Stor} {P : R → Stor → Prop} {Q : Xc → Stor → Prop} (k : P (.dat (.int (lessN hd x))) st) : wE (f_p_less [.dat (.int x), .dat (.int hd)] st) P Q := by
  unfold f_p_less b_p_less
  refine r_run (env := [some (.dat (.int x)), some (.dat (.int hd))]) rfl rfl ?_
  walk_at "ev"
  refine k_gc (Nat.le_refl _) ?_
  unfold lessN at k
  by_cases q : hd < x
  · rw [decide_eq_true q]; rw [if_pos q] at k; exact k
  · rw [decide_eq_false q]; rw [if_neg q] at k; exact k
theorem leaves_w {h p : Int} {ts : List Tie3} {rows : List (List Int)} {n : Nat} {st : Stor} {P : R → Stor → Prop} {Q : Xc → Stor → Prop} (g : GoodDeal h p ts) (gh : GoodHold h p rows) (hn : (n : Int) < h) (hP : 2 ≤ h → P (.dat (.tup [eDeal (h - 1) p (tsL n ts), eH (rowsL n rows)])) st) (hQ : h = 1 → Q xBD0 st) : wE (f_p_leaves [.dat (eDeal h p ts), .dat (eH rows), .dat (.int n)] st) P Q := by
  have hl := gh.len
  have h1 := g.h1
  have h4 := g.h4
  have htl := g.len
  have hml : (ts.map eT).length = ts.length := List.length_map ..
  have hrl : (rows.map (eL D.int)).length = rows.length := List.length_map ..
  unfold f_p_leaves b_p_leaves
  refine r_run (env := [some (.dat (eDeal h p ts)), some (.dat (eH rows)), some (.dat (.int n)), none, none, none, none, none, none]) rfl rfl ?_
  walk_at "ev"
  refine need_holding_t g gh ?_
  walk_at "ev"
  refine wS_forGo (fun j env s => ∃ o4 o5 o6, env = [some (.dat (eDeal h p ts)), some (.dat (eH rows)), some (.dat (.int n)), some (.own ((tsL n (ts.take j)).map eT)), o4, o5, o6, none, none] ∧ s = st) ⟨none, none, none, rfl, rfl⟩ ?_ ?_
  · rintro j d env s hj ⟨o4, o5, o6, rfl, rfl⟩
    have hj : (ts.map eT)[j]? = some d := hj
    rw [List.getElem?_map] at hj
    obtain ⟨⟨a, b, c⟩, ht, rfl⟩ := Option.map_eq_some_iff.mp hj
    have hjl := (List.getElem?_eq_some_iff.mp ht).1
    have hnext : tsL n (ts.take (j + 1)) = tsL n (ts.take j) ++ (if keepT n (a, b, c) = true then [lessT n (a, b, c)] else []) := by
      unfold tsL
      rw [List.take_succ, ht, Option.toList_some, List.filter_append, List.map_append]
      congr 1
      by_cases q : keepT n (a, b, c) = true
      · rw [List.filter_cons_of_pos q, if_pos q]; rfl
      · rw [List.filter_cons_of_neg q, if_neg q]; rfl
    have hlen : ((tsL n (ts.take j)).map eT).length < 1000000 := by
      rw [List.length_map]
      have : (tsL n (ts.take j)).length ≤ (ts.take j).length := by
        unfold tsL; rw [List.length_map]; exact List.length_filter_le _ _
      rw [List.length_take] at this
      omega
    refine ⟨[some (.dat (eDeal h p ts)), some (.dat (eH rows)), some (.dat (.int n)), some (.own ((tsL n (ts.take j)).map eT)), some (.dat (.int a)), some (.dat (.int b)), some (.dat (.int c)), none, none], rfl, ?_⟩
    walk_at "ev"
    by_cases q1 : a = n
    · refine r_ifQ (by rw [decide_eq_true q1]; rfl) ?_
      walk_at "ev"
      exact ⟨_, _, _, by rw [hnext, if_neg (fun q => (keepT_iff.mp q).1 q1), List.append_nil], rfl⟩
    · refine r_ifP (by rw [decide_eq_false q1]; rfl) ?_
      walk_at "ev"
      by_cases q2 : b = n
      · refine r_ifQ (by rw [decide_eq_true q2]; rfl) ?_
        walk_at "ev"
        exact ⟨_, _, _, by rw [hnext, if_neg (fun q => (keepT_iff.mp q).2 q2), List.append_nil], rfl⟩
      · refine r_ifP (by rw [decide_eq_false q2]; rfl) ?_
        walk_at "ev"
        refine less_w ?_
        walk_at "ev"
        refine less_w ?_
        walk_at "ev"
        refine k_app rfl hlen rfl ?_
        walk_at "ev"
        exact ⟨_, _, _, by rw [hnext, if_pos (keepT_iff.mpr ⟨q1, q2⟩), List.map_append]; rfl, rfl⟩
  · rintro env s ⟨o4, o5, o6, rfl, rfl⟩
    rw [List.take_of_length_le (by show ts.length ≤ (ts.map eT).length; omega)]
    walk_at "ev"
    refine r_cutT (ds := rows.map (eL D.int)) ?_
    rw [cutD_take]
    walk_at "ev"
    refine r_cutT (ds := rows.map (eL D.int)) ?_
    rw [show (n : Int) + 1 = ((n + 1 : Nat) : Int) from rfl, cutU_drop (by omega)]
    walk_at "ev"
    refine r_addT (by rw [List.length_take, List.length_drop]; omega) ?_
    walk_at "ev"
    have hrw : (rows.map (eL D.int)).take n ++ (rows.map (eL D.int)).drop (n + 1) = (rowsL n rows).map (eL D.int) := by
      unfold rowsL
      rw [List.map_append, List.map_take, List.map_drop]
    rw [hrw]
    by_cases q : h = 1
    · refine need_holdingB (d := eDeal (h - 1) p (tsL n ts)) deal_sh (fun ⟨h', p', ts', e, g'⟩ => ?_) ?_
      · have e := (deal_inj e).1
        have := g'.h1
        omega
      · walk_at "ev"
        exact hQ q
    · refine need_holding_t (tsL_good g hn (by omega)) (rowsL_good gh hn) ?_
      walk_at "ev"
      exact k_gc (Nat.le_refl _) (hP (by omega))
end PM

set_option pp.maxSteps 600
set_option pp.deepTerms false
namespace PM
open PySem PySem.Spec PyProof.Rows L2 PD PT
/-- a comprehension that keeps some -/
theorem comp_filterU {α : Type} {T : Tg} {t : TV} {a : EV} {env : PD.Env} {st : Stor} (f : α → D) (p : α → Bool) (xs : List α) (hl : xs.length ≤ 1000000) (hs : ∀ x ∈ xs, ∃ env1, T (f x) env = some env1 ∧ wE (t env1 st) (fun k s => k = p x ∧ s = st) (fun _ _ => False) ∧ wE (a env1 st) (fun r s => r.froz = some (f x) ∧ s = st) (fun _ _ => False)) : compGo PD.putF T t a (xs.map f) [] env st = .ok (.new ((xs.filter p).map f)) st := by
  refine wE_eq (wE_comp (fun j acc s => acc = ((xs.take j).filter p).map f ∧ s = st) ⟨rfl, rfl⟩ ?_ ?_)
  · rintro j d acc s hj ⟨rfl, rfl⟩
    have hjl := (List.getElem?_eq_some_iff.mp hj).1
    rw [List.length_map] at hjl
    have hat := List.getElem?_eq_getElem hjl
    rw [List.getElem?_map, hat] at hj
    cases hj
    obtain ⟨env1, e1, h1, h2⟩ := hs _ (List.getElem_mem hjl)
    refine ⟨env1, e1, ?_⟩
    refine wE_mono h1 ?_ fun _ _ h => h.elim
    rintro k s ⟨rfl, rfl⟩
    cases hp : p xs[j] with
    | false =>
      refine r_ifF ?_
      rw [List.take_succ, hat, List.filter_append]
      simp [hp]
    | true =>
      refine r_ifT ?_
      refine wE_mono h2 ?_ fun _ _ h => h.elim
      rintro r s ⟨e, rfl⟩
      unfold PD.putF
      rw [e]
      refine ⟨?_, ?_, rfl⟩
      · rw [List.length_map]
        have := List.length_filter_le p (xs.take j)
        rw [List.length_take] at this
        omega
      · rw [List.take_succ, hat, List.filter_append, List.map_append]
        simp [hp]
  · rintro acc s ⟨rfl, rfl⟩
    rw [List.length_map, List.take_of_length_le (Nat.le_refl _)]
    exact ⟨rfl, rfl⟩
/-! ### is_letter, fault -/
/-! ### the law's own: a hand leaves -/
def oth (n m : Nat) : List Nat := (List.range m).filter fun k => !decide (k = n)
def othD (n m : Nat) : List D := (oth n m).map fun (k : Nat) => D.int (k : Int)
theorem oth_mem {n m k : Nat} : k ∈ oth n m ↔ k < m ∧ k ≠ n := by
  unfold oth
  rw [List.mem_filter, List.mem_range]
  simp
theorem oth_idx : ∀ m < 5, ∀ n < m, ∀ k < m, k ≠ n → (oth n m).findIdx? (fun z => decide (z = k)) = some (k - if n < k then 1 else 0) := by decide
theorem oth_len : ∀ m < 5, ∀ n < m, (oth n m).length = m - 1 := by decide
theorem othD_idx {n m k : Nat} (hm : m < 5) (hn : n < m) (hk : k < m) (hne : k ≠ n) : (othD n m).findIdx? (fun z => D.eqv z (.int (k : Int))) = some (k - if n < k then 1 else 0) := by
  unfold othD
  rw [List.findIdx?_map, ← oth_idx m hm n hn k hk hne]
  congr 1
  funext z
  show ((z : Int) == (k : Int)) = decide (z = k)
  rw [Bool.eq_iff_iff]
  simp only [beq_iff_eq, decide_eq_true_eq]
  omega
theorem othD_any {n m k : Nat} : ((othD n m).any fun z => D.eqv z (.int (k : Int))) = decide (k < m ∧ k ≠ n) := by
  unfold othD
  rw [show (oth n m).map (fun (k : Nat) => D.int (k : Int)) = ((oth n m).map fun (k : Nat) => (k : Int)).map D.int by rw [List.map_map]; rfl, (En.int (n := 0)).any, decide_eq_decide, ← oth_mem, List.mem_map]
  constructor
  · rintro ⟨z, hz, e⟩
    have : z = k := by omega
    exact this ▸ hz
  · exact fun h => ⟨k, h, rfl⟩
theorem rows_oth {rows : List (List Int)} : ∀ {n : Nat}, rows.length < 5 → n < rows.length → (oth n rows.length).map (fun k => rows.getD k []) = rowsL n rows := by
  intro n h1 h2
  match rows, h1, h2 with
  | [], _, h2 => simp at h2
  | [a], _, h2 => match n, h2 with | 0, _ => rfl
  | [a, b], _, h2 => match n, h2 with | 0, _ => rfl | 1, _ => rfl
  | [a, b, c], _, h2 => match n, h2 with | 0, _ => rfl | 1, _ => rfl | 2, _ => rfl
  | [a, b, c, d], _, h2 => match n, h2 with | 0, _ => rfl | 1, _ => rfl | 2, _ => rfl | 3, _ => rfl
  | _ :: _ :: _ :: _ :: _ :: _, h1, _ => simp at h1; omega
theorem othD_flat {n m : Nat} : (othD n m).all D.flat = true := by
  rw [List.all_eq_true]
  intro x hx
  obtain ⟨k, _, rfl⟩ := List.mem_map.mp hx
  rfl
theorem lless_w {h p : Int} {ts : List Tie3} {rows : List (List Int)} {n : Nat} {st : Stor} {P : R → Stor → Prop} {Q : Xc → Stor → Prop} (g : GoodDeal h p ts) (gh : GoodHold h p rows) (hn : (n : Int) < h) (hP : 2 ≤ h → P (.dat (.tup [eDeal (h - 1) p (tsL n ts), eH (rowsL n rows)])) st) (hQ : h = 1 → P (.dat (.str "deal")) st) : wE (f_l_less [.dat (eDeal h p ts), .dat (eH rows), .dat (.int n)] st) P Q := by
  have hl := gh.len
  have h1 := g.h1
  have h4 := g.h4
  have htl := g.len
  have hml : (ts.map eT).length = ts.length := List.length_map ..
  obtain ⟨m, hm⟩ := Int.eq_ofNat_of_zero_le (show 0 ≤ h by omega)
  subst hm
  unfold f_l_less b_l_less
  refine r_run (env := [some (.dat (eDeal m p ts)), some (.dat (eH rows)), some (.dat (.int n)), none, none, none, none, none, none]) rfl rfl ?_
  walk_at "ev"
  by_cases q : (m : Int) = 1
  · refine r_ifP (decide_eq_true q) ?_
    walk_at "ev"
    exact k_gc (Nat.le_refl _) (hQ q)
  refine r_ifQ (decide_eq_false q) ?_
  walk_at "ev"
  have hrg : rngD 0 (m : Int).toNat = (List.range m).map (fun (k : Nat) => D.int (k : Int)) := by
    unfold rngD
    rw [Int.toNat_natCast]
    exact List.map_congr_left fun k _ => by rw [Int.zero_add]
  rw [hrg, comp_filterU (fun (k : Nat) => D.int (k : Int)) (fun k => !decide (k = n)) (List.range m) (by rw [List.length_range]; omega) fun k hk => ⟨_, rfl, ?_, ?_⟩, wE_ok]
  rotate_left
  · walk_at "ev"
    refine ⟨?_, rfl⟩
    congr 1
    rw [decide_eq_decide]
    omega
  · walk_at "ev"
    exact ⟨rfl, rfl⟩
  change kSet _ _ _ (.new (othD n m)) st
  walk_at "ev"
  refine wS_forGo (fun j env s => ∃ o5 o6 o7, env = [some (.dat (eDeal m p ts)), some (.dat (eH rows)), some (.dat (.int n)), some (.own (othD n m)), some (.own ((tsL n (ts.take j)).map eT)), o5, o6, o7, none] ∧ s = st) ⟨none, none, none, rfl, rfl⟩ ?_ ?_
  · rintro j d env s hj ⟨o5, o6, o7, rfl, rfl⟩
    have hj : (ts.map eT)[j]? = some d := hj
    rw [List.getElem?_map] at hj
    obtain ⟨⟨a, b, c⟩, ht, rfl⟩ := Option.map_eq_some_iff.mp hj
    have hjl := (List.getElem?_eq_some_iff.mp ht).1
    obtain ⟨g1, g2, g3, g4, g5, _⟩ := g.ok _ (List.mem_of_getElem? ht)
    dsimp only at g1 g2 g3 g4 g5
    obtain ⟨a', ha⟩ := Int.eq_ofNat_of_zero_le g1
    obtain ⟨b', hb⟩ := Int.eq_ofNat_of_zero_le g3
    subst ha hb
    have hnext : tsL n (ts.take (j + 1)) = tsL n (ts.take j) ++ (if keepT n ((a' : Int), (b' : Int), c) = true then [lessT n ((a' : Int), (b' : Int), c)] else []) := by
      unfold tsL
      rw [List.take_succ, ht, Option.toList_some, List.filter_append, List.map_append]
      congr 1
      by_cases q : keepT n ((a' : Int), (b' : Int), c) = true
      · rw [List.filter_cons_of_pos q, if_pos q]; rfl
      · rw [List.filter_cons_of_neg q, if_neg q]; rfl
    have hlen : ((tsL n (ts.take j)).map eT).length < 1000000 := by
      rw [List.length_map]
      have : (tsL n (ts.take j)).length ≤ (ts.take j).length := by
        unfold tsL; rw [List.length_map]; exact List.length_filter_le _ _
      rw [List.length_take] at this
      omega
    have hsh : D.sh 20 (.lst (othD n m)) = true := by
      unfold othD
      rw [show (oth n m).map (fun (k : Nat) => D.int (k : Int)) = ((oth n m).map fun (k : Nat) => (k : Int)).map D.int by rw [List.map_map]; rfl]
      exact sh_lst (n := 0) En.int (by decide) _
    refine ⟨[some (.dat (eDeal m p ts)), some (.dat (eH rows)), some (.dat (.int n)), some (.own (othD n m)), some (.own ((tsL n (ts.take j)).map eT)), some (.dat (.int (a' : Int))), some (.dat (.int (b' : Int))), some (.dat (.int c)), none], rfl, ?_⟩
    walk_at "ev"
    refine r_in (d := .int (a' : Int)) (e := .lst (othD n m)) rfl rfl rfl rfl hsh ?_
    rw [othD_any]
    by_cases q1 : a' = n
    · rw [decide_eq_false (fun z => z.2 q1)]
      walk_at "ev"
      exact ⟨_, _, _, by rw [hnext, if_neg (fun q => (keepT_iff.mp q).1 (by rw [q1])), List.append_nil], rfl⟩
    · rw [decide_eq_true (show a' < m ∧ a' ≠ n from ⟨by omega, q1⟩)]
      walk_at "ev"
      refine r_in (d := .int (b' : Int)) (e := .lst (othD n m)) rfl rfl rfl rfl hsh ?_
      rw [othD_any]
      by_cases q2 : b' = n
      · rw [decide_eq_false (fun z => z.2 q2)]
        walk_at "ev"
        exact ⟨_, _, _, by rw [hnext, if_neg (fun q => (keepT_iff.mp q).2 (by rw [q2])), List.append_nil], rfl⟩
      · rw [decide_eq_true (show b' < m ∧ b' ≠ n from ⟨by omega, q2⟩)]
        walk_at "ev"
        refine r_mt1 ?_
        walk_at "ev"
        refine ⟨⟨_, rfl⟩, ?_⟩
        walk_at "ev"
        refine ⟨_, rfl, ?_⟩
        refine r_lidx (by rw [othD_flat]; rfl) (othD_idx (by omega) (by omega) (by omega) q1) ?_
        walk_at "ev"
        refine r_mt1 ?_
        walk_at "ev"
        refine ⟨⟨_, rfl⟩, ?_⟩
        walk_at "ev"
        refine ⟨_, rfl, ?_⟩
        refine r_lidx (by rw [othD_flat]; rfl) (othD_idx (by omega) (by omega) (by omega) q2) ?_
        walk_at "ev"
        refine k_app rfl hlen rfl ?_
        walk_at "ev"
        refine ⟨some (.dat (.int (a' : Int))), some (.dat (.int (b' : Int))), some (.dat (.int c)), ?_, rfl⟩
        rw [hnext, if_pos (keepT_iff.mpr ⟨by dsimp only; omega, by dsimp only; omega⟩), List.map_append]
        have e : ∀ k : Nat, k ≠ n → ((k - if n < k then 1 else 0 : Nat) : Int) = lessN n k := fun k hk => by
          unfold lessN
          by_cases z : n < k
          · rw [if_pos z, if_pos (by omega)]; omega
          · rw [if_neg z, if_neg (by omega)]; omega
        rw [e a' q1, e b' q2]
        rfl
  · rintro env s ⟨o5, o6, o7, rfl, rfl⟩
    rw [List.take_of_length_le (by show ts.length ≤ (ts.map eT).length; omega)]
    walk_at "ev"
    change wE (compGo PD.putF _ _ _ ((oth n m).map fun (k : Nat) => D.int (k : Int)) [] _ s) _ _
    have hol := oth_len m (by omega) n (by omega)
    rw [comp_map (fun (k : Nat) => D.int (k : Int)) (fun k => eL D.int (rows.getD k [])) (oth n m) (by omega) fun k hk => ⟨_, rfl, ?_⟩, wE_ok]
    rotate_left
    · have hk2 := (oth_mem.mp hk).1
      have hkl : k < rows.length := by omega
      walk_at "ev"
      refine r_ix (d := eL D.int (rows.getD k [])) rfl (atI_nat (by rw [List.getElem?_map, List.getElem?_eq_getElem hkl, List.getD_eq_getElem?_getD, List.getElem?_eq_getElem hkl]; rfl)) ?_
      exact ⟨rfl, rfl⟩
    walk_at "ev"
    refine k_gc (Nat.le_refl _) ?_
    have hx := hP (by omega)
    have e1 : ((othD n m).length : Int) = (m : Int) - 1 := by unfold othD; rw [List.length_map, hol]; omega
    have e2 : (oth n m).map (fun k => eL D.int (rows.getD k [])) = (rowsL n rows).map (eL D.int) := by
      have : m = rows.length := by omega
      subst this
      rw [← rows_oth (by omega) (by omega), List.map_map]; rfl
    rw [e1, e2]
    exact hx
end PM

set_option pp.maxSteps 600
set_option pp.deepTerms false
namespace PM
open PySem PySem.Spec PyProof.Rows L2 PD PT
/-! ### a hand comes -/
def pairT (t : Tie3) : Int × Int := (t.1, t.2.1)
structure MoreOk (h : Int) (ts us : List Tie3) : Prop where
  len : us.length ≤ 3
  ok : ∀ t ∈ us, 0 ≤ t.1 ∧ t.1 ≤ h ∧ 0 ≤ t.2.1 ∧ t.2.1 ≤ h ∧ t.1 ≠ t.2.1 ∧ 1 ≤ t.2.2 ∧ t.2.2 ≤ 4
  nd : ((us ++ ts).map pairT).Nodup
theorem ties_w {st0 st : Stor} {i : Nat} {h p : Int} {ts : List Tie3} {P : R → Stor → Prop} {Q : Xc → Stor → Prop} (hd : Dst st0 i st) (g : GoodDeal h p ts) (k : ∀ us st', MoreOk h ts us → Dst st0 i st' → P (.dat (eL eT us)) st') : wE (f_l_ties [.dat (.ref i), .dat (eDeal h p ts)] st) P Q := by
  have h1 := g.h1
  have h4 := g.h4
  have htl := g.len
  have hml : (ts.map eT).length = ts.length := List.length_map ..
  unfold f_l_ties b_l_ties
  refine r_run (env := [some (.dat (.ref i)), some (.dat (eDeal h p ts)), none, none, none, none]) rfl rfl ?_
  walk_at "ev"
  refine roll_d hd (by omega) (by omega) fun r1 st1 a1 b1 hd1 => ?_
  walk_at "ev"
  refine wS_forGo (fun j env s => ∃ (o3 o4 o5 : Option SV) (us : List Tie3), env = [some (.dat (.ref i)), some (.dat (eDeal h p ts)), some (.own (us.map eT)), o3, o4, o5] ∧ Dst st0 i s ∧ us.length ≤ j ∧ (∀ t ∈ us, 0 ≤ t.1 ∧ t.1 ≤ h ∧ 0 ≤ t.2.1 ∧ t.2.1 ≤ h ∧ t.1 ≠ t.2.1 ∧ 1 ≤ t.2.2 ∧ t.2.2 ≤ 4) ∧ ((us ++ ts).map pairT).Nodup) ⟨none, none, none, [], rfl, hd1, by simp, fun t ht => by simp at ht, g.nd⟩ ?_ ?_
  · rintro j d env s hj ⟨o3, o4, o5, us, rfl, hds, hul, hok, hnd⟩
    obtain ⟨rfl, hjl⟩ := rngD_at hj
    have hjl : j < 4 := by omega
    refine ⟨[some (.dat (.ref i)), some (.dat (eDeal h p ts)), some (.own (us.map eT)), some (.dat (.int (0 + j))), o4, o5], rfl, ?_⟩
    walk_at "ev"
    refine roll_d hds (by omega) (by omega) fun r2 st2 a2 b2 hd2 => ?_
    walk_at "ev"
    refine roll_d hd2 (by omega) (by omega) fun r3 st3 a3 b3 hd3 => ?_
    walk_at "ev"
    refine roll_d hd3 (by omega) (by omega) fun r4 st4 a4 b4 hd4 => ?_
    have hpair : ∃ x y : Int, atI [D.tup [.int h, .int r2], D.tup [.int r3, .int h]] r4 = some (.tup [.int x, .int y]) ∧ 0 ≤ x ∧ x ≤ h ∧ 0 ≤ y ∧ y ≤ h := by
      rcases (show r4 = 0 ∨ r4 = 1 by omega) with rfl | rfl
      · exact ⟨h, r2, rfl, by omega, by omega, by omega, by omega⟩
      · exact ⟨r3, h, rfl, by omega, by omega, by omega, by omega⟩
    obtain ⟨x0, y0, hat, x00, x01, y00, y01⟩ := hpair
    refine r_ix rfl hat ?_
    walk_at "ev"
    refine roll_d hd4 (by omega) (by omega) fun r5 st5 a5 b5 hd5 => ?_
    walk_at "ev"
    refine r_iteS (J := fun env s => ∃ x y : Int, env = [some (.dat (.ref i)), some (.dat (eDeal h p ts)), some (.own (us.map eT)), some (.dat (.int (0 + j))), some (.dat (.tup [.int x, .int y])), o5] ∧ 0 ≤ x ∧ x ≤ h ∧ 0 ≤ y ∧ y ≤ h ∧ Dst st0 i s) (fun _ => ?_) (fun _ => ⟨x0, y0, rfl, x00, x01, y00, y01, hd5⟩) ?_
    · walk_at "ev"
      refine roll_d hd5 (by omega) (by omega) fun r6 st6 a6 b6 hd6 => ?_
      walk_at "ev"
      refine roll_d hd6 (by omega) (by omega) fun r7 st7 a7 b7 hd7 => ?_
      walk_at "ev"
      exact ⟨r6, r7, rfl, a6, by omega, a7, by omega, hd7⟩
    · rintro env s7 ⟨x, y, rfl, x0, x1, y0, y1, hd7⟩
      walk_at "ev"
      by_cases q : x = y
      · refine r_ifQ (by simp [q]) ?_
        walk_at "ev"
        exact ⟨_, _, _, us, rfl, hd7, by omega, hok, hnd⟩
      refine r_ifP (by simpa using q) ?_
      walk_at "ev"
      refine r_addL rfl rfl (by rw [List.length_map, hml]; omega) ?_
      walk_at "ev"
      rw [show us.map eT ++ ts.map eT = (us ++ ts).map eT from List.map_append.symm, comp_map eT (fun t => eP (pairT t)) (us ++ ts) (by rw [List.length_append]; omega) fun t ht => ⟨_, rfl, ?_⟩, wE_ok]
      rotate_left
      · walk_at "ev"
        exact ⟨rfl, rfl⟩
      refine r_nin (d := eP (x, y)) (e := .lst (((us ++ ts).map pairT).map eP)) (by with_unfolding_all exact rfl) (by rw [List.map_map]; rfl) rfl (sh_e En.pair (by decide) _) (sh_lst En.pair (by decide) _) ?_
      by_cases q8 : (x, y) ∈ (us ++ ts).map pairT
      · rw [any_mem En.pair q8]
        walk_at "ev"
        exact ⟨_, _, _, us, rfl, hd7, by omega, hok, hnd⟩
      · rw [any_not En.pair q8]
        walk_at "ev"
        refine roll_d hd7 (by omega) (by omega) fun r8 st8 a8 b8 hd8 => ?_
        walk_at "ev"
        refine k_app rfl (by rw [List.length_map]; omega) rfl ?_
        walk_at "ev"
        refine ⟨some (.dat (.int (0 + j))), some (.dat (.tup [.int x, .int y])), o5, us ++ [(x, y, 1 + r8)], by rw [List.map_append]; rfl, hd8, by rw [List.length_append]; simp; omega, fun t ht => ?_, ?_⟩
        · rcases List.mem_append.mp ht with ht | ht
          · exact hok t ht
          · rw [List.mem_singleton.mp ht]
            exact ⟨x0, x1, y0, y1, q, by dsimp only; omega, by dsimp only; omega⟩
        · have pm : ((us ++ [(x, y, 1 + r8)] ++ ts).map pairT).Perm ((x, y) :: (us ++ ts).map pairT) := by
            rw [List.append_assoc, List.map_append, List.map_append, List.map_append]
            exact List.perm_middle
          exact pm.nodup_iff.mpr (List.nodup_cons.mpr ⟨q8, hnd⟩)
  · rintro env s ⟨o3, o4, o5, us, rfl, hds, hul, hok, hnd⟩
    have hlen := hds.len
    have hlen0 := hd.len
    walk_at "ev"
    refine k_gc (by omega) ?_
    have : (rngD 0 r1.toNat).length = r1.toNat := rngD_length ..
    exact k us s ⟨by have : us.length ≤ (rngD 0 r1.toNat).length := hul; omega, hok, hnd⟩ hds
theorem more_good {h p : Int} {ts us : List Tie3} (g : GoodDeal h p ts) (m : MoreOk h ts us) (h4 : h ≠ 4) (hl : ts.length + us.length ≤ 8) : GoodDeal (h + 1) p (ts ++ us) := by
  refine ⟨by have := g.h1; omega, by have := g.h4; omega, g.p1, g.p4, by rw [List.length_append]; omega, fun t ht => ?_, ?_⟩
  · rcases List.mem_append.mp ht with ht | ht
    · have := g.ok t ht; exact ⟨this.1, by omega, this.2.2.1, by omega, this.2.2.2.2⟩
    · have := m.ok t ht; exact ⟨this.1, by omega, this.2.2.1, by omega, this.2.2.2.2⟩
  · have pm : ((ts ++ us).map fun t => (t.1, t.2.1)).Perm ((us ++ ts).map pairT) := by
      rw [List.map_append, List.map_append]
      exact List.perm_append_comm
    exact pm.nodup_iff.mpr m.nd
theorem deal_len {h p : Int} {ts us : List Tie3} (hb : h = 4 ∨ 8 < ts.length + us.length) : ¬ GDeal (eDeal (h + 1) p (ts ++ us)) := by
  rintro ⟨h', p', ts', e, g⟩
  obtain ⟨e1, _, e3⟩ := deal_inj e
  have := g.h4
  have := g.len
  have e4 := congrArg List.length e3
  rw [List.length_map, List.length_map, List.length_append] at e4
  omega
theorem lmore_w {h p : Int} {ts us : List Tie3} {rows : List (List Int)} {pc : List Int} {st : Stor} {P : R → Stor → Prop} {Q : Xc → Stor → Prop} (g : GoodDeal h p ts) (gh : GoodHold h p rows) (m : MoreOk h ts us)
    (k : P (.dat (if h = 4 ∨ 8 < ts.length + us.length then .str "deal" else .tup [eDeal (h + 1) p (ts ++ us), eH (rows ++ [pc])])) st) : wE (f_l_more [.dat (eDeal h p ts), .dat (eH rows), .dat (eL D.int pc), .dat (eL eT us)] st) P Q := by
  have h1 := g.h1
  have h4 := g.h4
  have htl := g.len
  have hrl := gh.len
  have hul := m.len
  have hml : (ts.map eT).length = ts.length := List.length_map ..
  have hmu : (us.map eT).length = us.length := List.length_map ..
  unfold f_l_more b_l_more
  refine r_run (env := [some (.dat (eDeal h p ts)), some (.dat (eH rows)), some (.dat (eL D.int pc)), some (.dat (eL eT us))]) rfl rfl ?_
  walk_at "ev"
  by_cases q : h = 4
  · rw [if_pos (.inl q)] at k
    refine r_ifP (decide_eq_true q) ?_
    walk_at "ev"
    exact k_gc (Nat.le_refl _) k
  refine r_ifQ (decide_eq_false q) ?_
  walk_at "ev"
  by_cases q2 : 8 < ts.length + us.length
  · rw [if_pos (.inr q2)] at k
    refine r_ifP (decide_eq_true (by omega)) ?_
    walk_at "ev"
    exact k_gc (Nat.le_refl _) k
  rw [if_neg (not_or.mpr ⟨q, q2⟩)] at k
  refine r_ifQ (decide_eq_false (by omega)) ?_
  walk_at "ev"
  refine r_addT (by omega) ?_
  walk_at "ev"
  refine r_addT (by rw [List.length_map]; simp; omega) ?_
  walk_at "ev"
  refine k_gc (Nat.le_refl _) ?_
  have e1 : (ts.map eT) ++ us.map eT = (ts ++ us).map eT := List.map_append.symm
  have e2 : (rows.map (eL D.int)) ++ [eL D.int pc] = (rows ++ [pc]).map (eL D.int) := by rw [List.map_append]; rfl
  rw [e1, e2]
  exact k
/-- what comes is made of -/
def madeD (h p : Int) (ts : List Tie3) : D → D
  | .tup es => .tup [.int (h + 1), .int p, .tup (ts.map eT ++ es)]
  | e => .tup [.int (h + 1), .int p, e]
def moreD (rows : List (List Int)) (pc : D) : D := .tup (rows.map (eL D.int) ++ [pc])
theorem shs_app {n : Nat} {xs ys : List D} (h1 : PD.shs n xs = true) (h2 : PD.shs n ys = true) : PD.shs n (xs ++ ys) = true := shsU fun d hd => by
  rcases List.mem_append.mp hd with hd | hd
  · obtain ⟨i, hi⟩ := List.mem_iff_getElem?.mp hd
    exact shs_at h1 hi
  · obtain ⟨i, hi⟩ := List.mem_iff_getElem?.mp hd
    exact shs_at h2 hi
theorem comes_D {h p : Int} {ts : List Tie3} {rows : List (List Int)} {e pc : D} {st : Stor} {P : R → Stor → Prop} {Q : Xc → Stor → Prop} (g : GoodDeal h p ts) (gh : GoodHold h p rows) (se : D.sh 9 e = true) (sp : D.sh 9 pc = true) (hel : ∀ es, e = .tup es → es.length ≤ 1000)
    (hP : GDeal (madeD h p ts e) → GHold (h + 1) p (moreD rows pc) → P (.dat (.tup [madeD h p ts e, moreD rows pc])) st) (hB : ¬ GDeal (madeD h p ts e) → Q xBD0 st) (hH : GDeal (madeD h p ts e) → ¬ GHold (h + 1) p (moreD rows pc) → Q xBH0 st) :
    wE (f_p_comes [.dat (eDeal h p ts), .dat (eH rows), .dat pc, .dat e] st) P Q := by
  have h4 := g.h4
  have htl := g.len
  have hrl := gh.len
  have hml : (ts.map eT).length = ts.length := List.length_map ..
  have smore : D.sh 10 (moreD rows pc) = true := shs_app (((En.int (n := 0)).tup.up (by decide : 1 ≤ 9)).shs rows) (by show (D.sh 9 pc && true) = true; rw [sp]; rfl)
  have smade : D.sh 10 (madeD h p ts e) = true := by
    have h8 : PD.shs 8 (ts.map eT) = true := (En.trip.up (by decide : 1 ≤ 8)).shs ts
    have k3 : ∀ e : D, D.sh 9 e = true → D.sh 10 (.tup [.int (h + 1), .int p, e]) = true := fun e se => shsU (n := 9) fun d hd => by
      simp only [List.mem_cons, List.not_mem_nil, or_false] at hd
      rcases hd with rfl | rfl | rfl
      · rfl
      · rfl
      · exact se
    cases e with
    | tup es => exact k3 _ (shs_app h8 se)
    | _ => exact k3 _ se
  have tail : ∀ (made : D), made = madeD h p ts e → wE (f_p_need_holding [.dat made, .dat (moreD rows pc)] st) (fun r s => s = st ∧ GDeal made ∧ GHold (h + 1) p (moreD rows pc)) (fun x s => s = st ∧ ((x = xBD0 ∧ ¬ GDeal made) ∨ (x = xBH0 ∧ GDeal made ∧ ¬ GHold (h + 1) p (moreD rows pc)))) := by
    rintro made rfl
    by_cases q : GDeal (madeD h p ts e)
    · obtain ⟨h', p', ts', e1, g'⟩ := id q
      have e2 : h' = h + 1 ∧ p' = p := by
        cases e with
        | tup es =>
          unfold madeD eDeal eL at e1
          simp only [D.tup.injEq, List.cons.injEq, D.int.injEq, and_true] at e1
          exact ⟨e1.1.symm, e1.2.1.symm⟩
        | _ =>
          unfold madeD eDeal eL at e1
          simp only [D.tup.injEq, List.cons.injEq, D.int.injEq, and_true] at e1
          exact ⟨e1.1.symm, e1.2.1.symm⟩
      obtain ⟨rfl, rfl⟩ := e2
      rw [e1]
      rw [e1] at q
      exact need_holdingD g' smore (fun z => ⟨rfl, q, z⟩) fun z => ⟨rfl, .inr ⟨rfl, q, z⟩⟩
    · exact need_holdingB smade q ⟨rfl, .inl ⟨rfl, q⟩⟩
  unfold f_p_comes b_p_comes
  refine r_run (env := [some (.dat (eDeal h p ts)), some (.dat (eH rows)), some (.dat pc), some (.dat e), none, none]) rfl rfl ?_
  walk_at "ev"
  refine need_holding_t g gh ?_
  rcases tup_or se with ⟨es, rfl⟩ | ⟨hno, t, ht, hty⟩
  · have hel := hel es rfl
    walk_at "ev"
    refine r_addT (by omega) ?_
    walk_at "ev"
    refine r_addT (by rw [List.length_map]; simp; omega) ?_
    walk_at "ev"
    refine wE_mono (tail _ rfl) ?_ ?_
    · rintro r s ⟨rfl, q1, q2⟩
      walk_at "ev"
      exact k_gc (Nat.le_refl _) (hP q1 q2)
    · rintro x s ⟨rfl, ⟨rfl, q⟩ | ⟨rfl, q1, q2⟩⟩
      · exact hB q
      · exact hH q1 q2
  · walk_at "ev"
    refine r_isi (hty _) ht ?_
    walk_at "ev"
    refine r_addT (by rw [List.length_map]; simp; omega) ?_
    walk_at "ev"
    have em : D.tup [.int (h + 1), .int p, e] = madeD h p ts e := by
      cases e with
      | tup es => exact absurd rfl (hno es)
      | _ => rfl
    rw [em]
    refine wE_mono (tail _ rfl) ?_ ?_
    · rintro r s ⟨rfl, q1, q2⟩
      walk_at "ev"
      exact k_gc (Nat.le_refl _) (hP q1 q2)
    · rintro x s ⟨rfl, ⟨rfl, q⟩ | ⟨rfl, q1, q2⟩⟩
      · exact hB q
      · exact hH q1 q2
/-! ### the word of a refusal -/
theorem word_thk {th : Stor → Out R} {st : Stor} {P : R → Stor → Prop} {Q : Xc → Stor → Prop} (x : wE (th st) (fun r s => (∃ d, r = .dat d) ∧ s.length ≤ st.length ∧ P r s) (fun x s => s.length ≤ st.length ∧ ((x = xBD0 ∧ P (.dat (.str "deal")) s) ∨ (x = xBH0 ∧ P (.dat (.str "holding")) s)))) : wE (runThk M_l_word (b_l_word th) st) P Q := by
  refine r_thk ?_
  show wS (b_l_word th [some .thk, none, none] st) _
  unfold b_l_word
  walk_at "ev"
  refine r_ethk rfl ?_
  refine wE_mono x ?_ ?_
  · rintro r s ⟨⟨d, rfl⟩, hl, hp⟩
    refine ⟨trivial, ?_⟩
    walk_at "ev"
    exact k_gc hl hp
  · rintro x s ⟨hl, ⟨rfl, hp⟩ | ⟨rfl, hp⟩⟩
    · walk_at "ev"
      refine ⟨rfl, ?_⟩
      walk_at "ev"
      refine r_mt1 ?_
      walk_at "ev"
      refine ⟨⟨_, rfl⟩, ?_⟩
      walk_at "ev"
      refine ⟨_, rfl, ?_⟩
      refine r_lcnt (n := 1) (by decide) (by decide) ?_
      walk_at "ev"
      refine r_mt1 ?_
      walk_at "ev"
      refine ⟨⟨_, rfl⟩, ?_⟩
      walk_at "ev"
      refine ⟨_, rfl, ?_⟩
      refine r_lidx (j := 0) (by decide) (by decide) ?_
      walk_at "ev"
      exact k_gc hl hp
    · walk_at "ev"
      refine ⟨rfl, ?_⟩
      walk_at "ev"
      refine r_mt1 ?_
      walk_at "ev"
      refine ⟨⟨_, rfl⟩, ?_⟩
      walk_at "ev"
      refine ⟨_, rfl, ?_⟩
      refine r_lcnt (n := 1) (by decide) (by decide) ?_
      walk_at "ev"
      refine r_mt1 ?_
      walk_at "ev"
      refine ⟨⟨_, rfl⟩, ?_⟩
      walk_at "ev"
      refine ⟨_, rfl, ?_⟩
      refine r_lidx (j := 1) (by decide) (by decide) ?_
      walk_at "ev"
      exact k_gc hl hp
end PM

set_option pp.maxSteps 600
set_option pp.deepTerms false
namespace PM
open PySem PySem.Spec PyProof.Rows L2 PD PT
/-! ### the law -/
mutual
theorem eqv_self : ∀ (n : Nat) (d : D), D.sh n d = true → D.eqv d d = true
  | _, .non, _ => rfl
  | _, .bl b, _ => by show (b == b) = true; simp
  | _, .int i, _ => by show (i == i) = true; simp
  | _, .str s, _ => by show (s == s) = true; simp
  | 0, .tup _, h => by simp [D.sh] at h
  | 0, .lst _, h => by simp [D.sh] at h
  | n + 1, .tup xs, h => eqvs_self n xs h
  | n + 1, .lst xs, h => eqvs_self n xs h
  | n, .ref _, h => by cases n <;> cases h
  | n, .glo _, h => by cases n <;> cases h
theorem eqvs_self : ∀ (n : Nat) (ds : List D), PD.shs n ds = true → eqvs ds ds = true
  | _, [], _ => rfl
  | n, d :: ds, h => by
    have h : (D.sh n d && PD.shs n ds) = true := h
    rw [Bool.and_eq_true] at h
    show (D.eqv d d && eqvs ds ds) = true
    rw [eqv_self n d h.1, eqvs_self n ds h.2]; rfl
end
theorem r_ne_same {d : D} {st : Stor} {P : R → Stor → Prop} {Q : Xc → Stor → Prop} (hr : rD st (.dat d) = some d) (s : D.sh 20 d = true) (k : P (.dat (.bl false)) st) : wE (fEqB true (.dat d) (.dat d) st) P Q := by
  refine r_ne hr hr s s ?_
  rw [eqv_self 20 d s]
  exact k
theorem hold_sh {rows : List (List Int)} : D.sh 10 (eH rows) = true := ((En.int (n := 0)).tup.up (by decide : 1 ≤ 9)).shs rows
theorem both_sh {h p : Int} {ts : List Tie3} {rows : List (List Int)} : D.sh 20 (.tup [eDeal h p ts, eH rows]) = true := by
  refine shsU (n := 19) fun d hd => ?_
  simp only [List.mem_cons, List.not_mem_nil, or_false] at hd
  rcases hd with rfl | rfl
  · exact (sh_le (by decide : 10 ≤ 19)).1 _ deal_sh
  · exact (sh_le (by decide : 10 ≤ 19)).1 _ hold_sh
theorem eT_inj : ∀ {xs ys : List Tie3}, xs.map eT = ys.map eT → xs = ys
  | [], [], _ => rfl
  | [], _ :: _, h => by simp at h
  | _ :: _, [], h => by simp at h
  | (a, b, c) :: xs, (d, e, f) :: ys, h => by
    rw [List.map_cons, List.map_cons] at h
    injection h with h1 h2
    unfold eT at h1
    simp only [D.tup.injEq, List.cons.injEq, D.int.injEq, and_true] at h1
    rw [eT_inj h2, h1.1, h1.2.1, h1.2.2]
theorem int_inj : ∀ {xs ys : List Int}, xs.map D.int = ys.map D.int → xs = ys
  | [], [], _ => rfl
  | [], _ :: _, h => by simp at h
  | _ :: _, [], h => by simp at h
  | a :: xs, b :: ys, h => by
    rw [List.map_cons, List.map_cons] at h
    injection h with h1 h2
    injection h1 with h1
    rw [int_inj h2, h1]
theorem gdeal_iff {h p : Int} {ts : List Tie3} : GDeal (eDeal h p ts) ↔ GoodDeal h p ts := by
  constructor
  · rintro ⟨h', p', ts', e, g⟩
    obtain ⟨rfl, rfl, e3⟩ := deal_inj e
    rw [eT_inj e3]
    exact g
  · exact fun g => ⟨h, p, ts, rfl, g⟩
theorem made_ties {h p : Int} {ts us : List Tie3} : madeD h p ts (eL eT us) = eDeal (h + 1) p (ts ++ us) := by
  show D.tup [.int (h + 1), .int p, .tup (ts.map eT ++ us.map eT)] = .tup [.int (h + 1), .int p, .tup ((ts ++ us).map eT)]
  rw [List.map_append]
theorem more_row {rows : List (List Int)} {pc : List Int} : moreD rows (eL D.int pc) = eH (rows ++ [pc]) := by
  show D.tup (rows.map (eL D.int) ++ [eL D.int pc]) = .tup ((rows ++ [pc]).map (eL D.int))
  rw [List.map_append]; rfl
theorem made_no {h p : Int} {ts : List Tie3} {e : D} (he : ∀ es, e ≠ .tup es) : ¬ GDeal (madeD h p ts e) := by
  rintro ⟨h', p', ts', e1, _⟩
  have e2 : madeD h p ts e = .tup [.int (h + 1), .int p, e] := by
    cases e with
    | tup es => exact absurd rfl (he es)
    | _ => rfl
  rw [e2] at e1
  unfold eDeal eL at e1
  simp only [D.tup.injEq, List.cons.injEq, and_true] at e1
  exact he _ e1.2.2
def oddL (h far : Int) (ts : List Tie3) : List D := [.tup [.tup [.int h, .int far, .int 1]], .tup [.tup [.int far, .int 0, .int 1]], .tup [.tup [.int h, .int 0, .int 0]]] ++ [.tup [.tup [.int h, .int 0, .int 1], .tup [.int h, .int 0, .int 1]], .lst [.tup [.int h, .int 0, .int 1]], .non] ++ (ts.take 2).map fun t => .tup [.tup [.int t.1, .int t.2.1, .int 1]]
theorem odd_bad {h p far : Int} {ts : List Tie3} (g : GoodDeal h p ts) (hf : h + 1 ≤ far) {x : D} (hx : x ∈ oddL h far ts) : D.sh 9 x = true ∧ (∀ es, x = .tup es → es.length ≤ 1000) ∧ ¬ GDeal (madeD h p ts x) := by
  have tie : ∀ us : List Tie3, us.length ≤ 2 → ¬ GoodDeal (h + 1) p (ts ++ us) → D.sh 9 (eL eT us) = true ∧ (∀ es, eL eT us = .tup es → es.length ≤ 1000) ∧ ¬ GDeal (madeD h p ts (eL eT us)) := fun us hl hn => by
    refine ⟨(En.trip.up (by decide : 1 ≤ 8)).shs us, fun es e => ?_, fun q => hn (gdeal_iff.mp (made_ties ▸ q))⟩
    cases e
    rw [List.length_map]; omega
  unfold oddL at hx
  simp only [List.mem_append, List.mem_cons, List.not_mem_nil, or_false, List.mem_map] at hx
  rcases hx with ((rfl | rfl | rfl) | rfl | rfl | rfl) | ⟨t, ht, rfl⟩
  · exact tie [(h, far, 1)] (by simp) fun q => by
      have := q.ok (h, far, 1) (by simp)
      dsimp only at this
      omega
  · exact tie [(far, 0, 1)] (by simp) fun q => by
      have := q.ok (far, 0, 1) (by simp)
      dsimp only at this
      omega
  · exact tie [(h, 0, 0)] (by simp) fun q => by
      have := q.ok (h, 0, 0) (by simp)
      dsimp only at this
      omega
  · exact tie [(h, 0, 1), (h, 0, 1)] (by simp) fun q => by
      have := q.nd
      rw [List.map_append] at this
      have := (List.nodup_append.mp this).2.1
      simp at this
  · exact ⟨rfl, fun es e => (by cases e), made_no fun es e => (by cases e)⟩
  · exact ⟨rfl, fun es e => (by cases e), made_no fun es e => (by cases e)⟩
  · exact tie [(t.1, t.2.1, 1)] (by simp) fun q => by
      have := q.nd
      rw [List.map_append] at this
      exact (List.nodup_append.mp this).2.2 (t.1, t.2.1) (List.mem_map.mpr ⟨t, List.mem_of_mem_take ht, rfl⟩) (t.1, t.2.1) (by simp) rfl
def badL (p : Int) : List D := [.tup [.int p], .lst [.int 0], .non, .tup [.int 0, .int 0], .tup [.int (-1)]]
theorem bad_row {h p : Int} {rows : List (List Int)} {x : D} (hx : x ∈ badL p) : D.sh 9 x = true ∧ ¬ GHold (h + 1) p (moreD rows x) := by
  have key : ∀ x : D, (∀ r : List Int, x = eL D.int r → ¬ (r.Pairwise (· < ·) ∧ ∀ y ∈ r, 0 ≤ y ∧ y < p)) → ¬ GHold (h + 1) p (moreD rows x) := by
    rintro x hno ⟨rows', e, g⟩
    have e : rows.map (eL D.int) ++ [x] = rows'.map (eL D.int) := by
      unfold moreD at e
      exact D.tup.inj e
    have hm : x ∈ rows'.map (eL D.int) := by rw [← e]; simp
    obtain ⟨r, hr, e2⟩ := List.mem_map.mp hm
    exact hno r e2.symm (g.ok r hr)
  have row : ∀ s r : List Int, eL D.int s = eL D.int r → s = r := fun s r e => int_inj (D.tup.inj e)
  unfold badL at hx
  simp only [List.mem_cons, List.not_mem_nil, or_false] at hx
  rcases hx with rfl | rfl | rfl | rfl | rfl
  · exact ⟨rfl, key _ fun r e q => by
      have := row [p] r e
      subst this
      have := q.2 p (by simp)
      omega⟩
  · exact ⟨rfl, key _ fun r e q => by cases e⟩
  · exact ⟨rfl, key _ fun r e q => by cases e⟩
  · exact ⟨rfl, key _ fun r e q => by
      have := row [0, 0] r e
      subst this
      have := q.1
      simp at this⟩
  · exact ⟨rfl, key _ fun r e q => by
      have := row [-1] r e
      subst this
      have := q.2 (-1) (by simp)
      omega⟩
theorem dst_tab {st0 st : Stor} {q : Str} (h : Dst st0 1 st) (h0 : st0[0]? = some (tabO q)) : st[0]? = some (tabO q) := by
  obtain ⟨a, b, rfl, _⟩ := h
  rw [List.getElem?_set_ne (by decide)]
  exact h0
theorem gc_one {d : D} {o : PD.Obj} {st : Stor} {P : R → Stor → Prop} {Q : Xc → Stor → Prop} (hb : D.blw 1 d = true) (hob : Obj.blw 1 o = true) (ho : st[0]? = some o) (k : P (.dat d) [o]) : wE (gc 1 (.dat d) st) P Q := by
  have ht : st.take 1 = [o] := by
    cases st with
    | nil => simp at ho
    | cons x xs => simp at ho; subst ho; rfl
  by_cases h : st.length ≤ 1
  · refine k_gc h ?_
    rw [List.take_of_length_le h] at ht
    rw [ht]; exact k
  · rw [wE_gc2 h (by rw [ht]; show (D.blw 1 d && (Obj.blw 1 o && true)) = true; rw [hb, hob]; rfl), ht]
    exact k
theorem atI_mem {xs : List D} {r : Int} (h0 : 0 ≤ r) (h1 : r < xs.length) : ∃ x, atI xs r = some x ∧ x ∈ xs := by
  obtain ⟨n, rfl⟩ := Int.eq_ofNat_of_zero_le h0
  have hn : n < xs.length := by omega
  exact ⟨xs[n], atI_nat (List.getElem?_eq_getElem hn), List.getElem_mem hn⟩
theorem cut_two {ts : List Tie3} : PD.cutD (ts.map eT) none (some 2) = (ts.take 2).map eT := by
  rw [List.map_take]
  have h := cutD_take (ds := ts.map eT) (k := 2)
  simpa using h
theorem law_k08 (ns : List Int) (hn : ns.length ≤ 63) : ∃ st, f_p_law [.scr (ns.map D.int)] [tabO "law.<locals>.<lambda>"] = .ok (.dat (.bl true)) st := by
  refine ⟨[tabO "law.<locals>.<lambda>"], wE_eq ?_⟩
  unfold f_p_law b_p_law
  with_reducible refine r_run (env := [some (.scr (ns.map D.int)), none, none, none, none, none, none, none, none, none, none, none, none, none]) (by with_unfolding_all rfl) (by with_unfolding_all rfl) ?_
  walk_at "ev"
  refine some_w (sizes := [(4, 4), (3, 4)]) (by omega) (by decide) (by decide) (by decide) (fun o ho => by rw [List.mem_singleton.mp ho]; rfl) fun h p ts rows mo pc _ _ _ g gh => ?_
  walk_at "ev"
  refine cell_w (j := 2) (by omega) fun c2 => ?_
  walk_at "ev"
  refine dice_w fun a b a0 a1 b0 => ?_
  refine ⟨_, rfl, ?_⟩
  have hd : Dst [tabO "law.<locals>.<lambda>", .lst [.int a, .int b]] 1 [tabO "law.<locals>.<lambda>", .lst [.int a, .int b]] := Dst.of (a := a) (b := b) ⟨rfl, a0, a1, b0⟩
  have h00 : ([tabO "law.<locals>.<lambda>", .lst [.int a, .int b]] : Stor)[0]? = some (tabO "law.<locals>.<lambda>") := rfl
  show WS.nx _ _ [tabO "law.<locals>.<lambda>", .lst [.int a, .int b]]
  generalize ([tabO "law.<locals>.<lambda>", .lst [.int a, .int b]] : Stor) = st0 at hd h00
  have hp1 := g.p1
  have hp4 := g.p4
  have hh4 := g.h4
  have hh1 := g.h1
  have hrl := gh.len
  have htl := g.len
  walk_at "ev"
  refine wS_forGo (fun j env s => ∃ o4, env = [some (.scr (ns.map D.int)), some (.dat (eDeal h p ts)), some (.dat (eH rows)), some (.dat (.ref 1)), o4, none, none, none, none, none, none, none, none, none] ∧ s = st0) ⟨none, rfl, rfl⟩ ?_ ?_
  · rintro j d env s hj ⟨o4, rfl, rfl⟩
    obtain ⟨rfl, hjl⟩ := rngD_at hj
    rw [Int.zero_add]
    refine ⟨[some (.scr (ns.map D.int)), some (.dat (eDeal h p ts)), some (.dat (eH rows)), some (.dat (.ref 1)), some (.dat (.int (j : Int))), none, none, none, none, none, none, none, none, none], rfl, ?_⟩
    walk_at "ev"
    refine r_lam (dst_tab hd h00) (word_thk ?_)
    walk_at "ev"
    refine leaves_w g gh (by omega) (fun h2 => ⟨⟨_, rfl⟩, Nat.le_refl _, ?_⟩) (fun h2 => ⟨Nat.le_refl _, .inl ⟨rfl, ?_⟩⟩)
    · walk_at "ev"
      refine lless_w g gh (by omega) (fun _ => ?_) (fun h3 => by omega)
      refine r_ne_same rfl both_sh ?_
      walk_at "ev"
      exact ⟨_, rfl, rfl⟩
    · walk_at "ev"
      refine lless_w g gh (by omega) (fun h3 => by omega) (fun _ => ?_)
      refine r_ne_same rfl (by decide +kernel) ?_
      walk_at "ev"
      exact ⟨_, rfl, rfl⟩
  · rintro env s ⟨o4, rfl, rfl⟩
    walk_at "ev"
    refine wS_forGo (fun j env s1 => ∃ o5 o6 o7 o8 o9 o10 o11, env = [some (.scr (ns.map D.int)), some (.dat (eDeal h p ts)), some (.dat (eH rows)), some (.dat (.ref 1)), o4, o5, o6, o7, o8, o9, o10, o11, none, none] ∧ Dst s 1 s1) ⟨none, none, none, none, none, none, none, rfl, hd⟩ ?_ ?_
    · rintro j d env s1 hj ⟨o5, o6, o7, o8, o9, o10, o11, rfl, hd1⟩
      refine ⟨[some (.scr (ns.map D.int)), some (.dat (eDeal h p ts)), some (.dat (eH rows)), some (.dat (.ref 1)), o4, some (.dat d), o6, o7, o8, o9, o10, o11, none, none], rfl, ?_⟩
      walk_at "ev"
      refine ties_w hd1 g fun us s2 m hd2 => ?_
      walk_at "ev"
      refine wE_comp (fun j acc s3 => ∃ pc : List Int, acc = pc.map D.int ∧ pc.Pairwise (· < ·) ∧ (∀ x ∈ pc, 0 ≤ x ∧ x < (j : Int)) ∧ pc.length ≤ j ∧ Dst s 1 s3) ⟨[], rfl, .nil, fun x hx => by simp at hx, by simp, hd2⟩ ?_ ?_
      · rintro i d acc s3 hi ⟨pc, rfl, hpw, hpb, hpl, hd3⟩
        obtain ⟨rfl, hil⟩ := rngD_at hi
        rw [Int.zero_add]
        refine ⟨_, rfl, ?_⟩
        walk_at "ev"
        refine roll_d hd3 (by omega) (by omega) fun r s4 a4 b4 hd4 => ?_
        walk_at "ev"
        by_cases q : r = 0
        · rw [decide_eq_true q]
          walk_at "ev"
          refine ⟨by rw [List.length_map]; omega, pc ++ [(i : Int)], by rw [List.map_append]; rfl, ?_, fun x hx => ?_, by rw [List.length_append]; simp; omega, hd4⟩
          · refine List.pairwise_append.mpr ⟨hpw, by simp, fun x hx y hy => ?_⟩
            rw [List.mem_singleton.mp hy]
            exact (hpb x hx).2
          · rcases List.mem_append.mp hx with hx | hx
            · have := hpb x hx; omega
            · rw [List.mem_singleton.mp hx]; omega
        · rw [decide_eq_false q]
          walk_at "ev"
          exact ⟨pc, rfl, hpw, fun x hx => by have := hpb x hx; omega, by omega, hd4⟩
      · rintro acc s3 ⟨pc, rfl, hpw, hpb, hpl, hd3⟩
        have hpl : pc.length ≤ p.toNat := by rw [rngD_length] at hpl; exact hpl
        have hpb : ∀ x ∈ pc, 0 ≤ x ∧ x < p := fun x hx => by
          have := hpb x hx
          rw [rngD_length] at this
          omega
        walk_at "ev"
        refine lmore_w (pc := pc) g gh m ?_
        have gmore : GoodHold (h + 1) p (rows ++ [pc]) := ⟨by rw [List.length_append]; simp; omega, fun r hr => by
          rcases List.mem_append.mp hr with hr | hr
          · exact gh.ok r hr
          · rw [List.mem_singleton.mp hr]; exact ⟨hpw, hpb⟩⟩
        have spc : D.sh 9 (eL D.int pc) = true := ((En.int (n := 0)).up (by decide : 0 ≤ 8)).shs pc
        have sus : D.sh 9 (eL eT us) = true := (En.trip.up (by decide : 1 ≤ 8)).shs us
        have lus : ∀ es, eL eT us = .tup es → es.length ≤ 1000 := fun es e => by
          cases e
          have := m.len
          rw [List.length_map]; omega
        have word2 : ∀ (due : D), due = (if h = 4 ∨ 8 < ts.length + us.length then .str "deal" else .tup [eDeal (h + 1) p (ts ++ us), eH (rows ++ [pc])]) → D.sh 20 due = true ∧ ∀ (st4 : Stor) (P : R → Stor → Prop) (Q : Xc → Stor → Prop), P (.dat due) st4 →
            wE (f_p_comes [.dat (eDeal h p ts), .dat (eH rows), .dat (eL D.int pc), .dat (eL eT us)] st4) (fun r s => (∃ d, r = .dat d) ∧ s.length ≤ st4.length ∧ P r s) (fun x s => s.length ≤ st4.length ∧ ((x = xBD0 ∧ P (.dat (.str "deal")) s) ∨ (x = xBH0 ∧ P (.dat (.str "holding")) s))) := by
          rintro due rfl
          by_cases hb : h = 4 ∨ 8 < ts.length + us.length
          · rw [if_pos hb]
            refine ⟨by decide +kernel, fun st4 P Q hP => ?_⟩
            have no : ¬ GDeal (madeD h p ts (eL eT us)) := by rw [made_ties]; exact deal_len hb
            exact comes_D g gh sus spc lus (fun q => absurd q no) (fun _ => ⟨Nat.le_refl _, .inl ⟨rfl, hP⟩⟩) fun q => absurd q no
          · rw [if_neg hb]
            refine ⟨both_sh, fun st4 P Q hP => ?_⟩
            have yes : GDeal (madeD h p ts (eL eT us)) := by rw [made_ties]; exact gdeal_iff.mpr (more_good g m (fun e => hb (.inl e)) (by omega))
            have yes2 : GHold (h + 1) p (moreD rows (eL D.int pc)) := ⟨_, more_row, gmore⟩
            refine comes_D g gh sus spc lus (fun _ _ => ⟨⟨_, rfl⟩, Nat.le_refl _, ?_⟩) (fun q => absurd yes q) fun _ q => absurd yes2 q
            rw [made_ties, more_row]
            exact hP
        obtain ⟨due, hdue⟩ : ∃ due : D, due = (if h = 4 ∨ 8 < ts.length + us.length then .str "deal" else .tup [eDeal (h + 1) p (ts ++ us), eH (rows ++ [pc])]) := ⟨_, rfl⟩
        obtain ⟨sdue, wdue⟩ := word2 due hdue
        rw [← hdue]
        walk_at "ev"
        refine r_lam (dst_tab hd3 h00) (word_thk ?_)
        walk_at "ev"
        refine wdue s3 _ (fun _ _ => False) ?_
        walk_at "ev"
        refine r_ne_same (by rw [hdue]; split <;> rfl) sdue ?_
        walk_at "ev"
        refine roll_d hd3 (by omega) (by omega) fun r9 s4 a9 b9 hd4 => ?_
        walk_at "ev"
        refine r_mulT (by simp) (by omega) (by omega) (by simp) ?_
        walk_at "ev"
        refine r_addL rfl rfl (by simp) ?_
        walk_at "ev"
        refine r_cutT (ds := ts.map eT) ?_
        rw [cut_two]
        walk_at "ev"
        rw [comp_map eT (fun t => D.tup [.tup [.int t.1, .int t.2.1, .int 1]]) (ts.take 2) (by rw [List.length_take]; omega) fun t ht => ⟨_, rfl, ?_⟩, wE_ok]
        rotate_left
        · obtain ⟨ta, tb, tc⟩ := t
          refine r_tup (r_cons (r_bin (r_cut (r_var rfl (r_onone (r_osome (r_c (k_O (r_cutT ?_)))))))))
          walk_at "ev"
          refine r_addT (ds := [.int ta, .int tb]) (es := [.int 1]) (by simp) ?_
          walk_at "ev"
          exact ⟨rfl, rfl⟩
        refine r_addL rfl rfl (by rw [List.length_map, List.length_take]; simp; omega) ?_
        walk_at "ev"
        have hodd : [D.tup [D.tup [D.int h, D.int (h + 1 + r9), D.int 1]], D.tup [D.tup [D.int (h + 1 + r9), D.int 0, D.int 1]], D.tup [D.tup [D.int h, D.int 0, D.int 0]]] ++ [D.tup (List.replicate (Int.toNat 2) [D.tup [D.int h, D.int 0, D.int 1]]).flatten, D.lst [D.tup [D.int h, D.int 0, D.int 1]], D.non] ++ (ts.take 2).map (fun t => D.tup [.tup [.int t.1, .int t.2.1, .int 1]]) = oddL h (h + 1 + r9) ts := rfl
        rw [hodd]
        have hol : (oddL h (h + 1 + r9) ts).length ≤ 8 ∧ 6 ≤ (oddL h (h + 1 + r9) ts).length := by
          unfold oddL
          rw [List.length_append, List.length_map, List.length_take]
          simp
          omega
        have hob := fun x => odd_bad (x := x) g (far := h + 1 + r9) (by omega)
        generalize oddL h (h + 1 + r9) ts = odd at hol hob
        refine r_lam (dst_tab hd4 h00) (word_thk ?_)
        walk_at "ev"
        refine roll_d hd4 (by omega) (by omega) fun r10 s5 a10 b10 hd5 => ?_
        obtain ⟨x, hx, hxm⟩ := atI_mem (xs := odd) a10 (by omega)
        obtain ⟨sx, lx, nx⟩ := hob x hxm
        have e5 := hd5.len
        have e4 := hd4.len
        refine r_ix rfl hx ?_
        walk_at "ev"
        refine comes_D g gh sx spc lx (fun q => absurd q nx) (fun _ => ⟨by omega, .inl ⟨rfl, ?_⟩⟩) fun q => absurd q nx
        walk_at "ev"
        refine r_ne_same rfl (by decide +kernel) ?_
        walk_at "ev"
        refine roll_d hd5 (by omega) (by omega) fun r11 s6 a11 b11 hd6 => ?_
        obtain ⟨y, hy, hym⟩ := atI_mem (xs := badL p) a11 (by show r11 < 5; omega)
        obtain ⟨sy, ny⟩ := bad_row (h := h) (rows := rows) hym
        refine r_ix rfl hy ?_
        walk_at "ev"
        by_cases hb : h = 4 ∨ 8 < ts.length + us.length
        · rw [if_pos hb] at hdue
          subst hdue
          refine r_ne_same rfl (by decide +kernel) ?_
          walk_at "ev"
          exact ⟨_, _, _, _, _, _, _, rfl, hd6⟩
        · rw [if_neg hb] at hdue
          subst hdue
          refine r_ne (d := .tup [eDeal (h + 1) p (ts ++ us), eH (rows ++ [pc])]) (e := .str "deal") rfl rfl both_sh (by decide +kernel) ?_
          refine k_B ?_
          refine r_ifP rfl ?_
          walk_at "ev"
          refine r_lam (dst_tab hd6 h00) (word_thk ?_)
          walk_at "ev"
          have yes : GDeal (madeD h p ts (eL eT us)) := by rw [made_ties]; exact gdeal_iff.mpr (more_good g m (fun e => hb (.inl e)) (by omega))
          refine comes_D g gh sus sy lus (fun _ q => absurd q ny) (fun q => absurd yes q) fun _ _ => ⟨Nat.le_refl _, .inr ⟨rfl, ?_⟩⟩
          walk_at "ev"
          refine r_ne_same rfl (by decide +kernel) ?_
          walk_at "ev"
          exact ⟨_, _, _, _, _, _, _, rfl, hd6⟩
    · rintro env s1 ⟨o5, o6, o7, o8, o9, o10, o11, rfl, hd1⟩
      walk_at "ev"
      exact gc_one rfl rfl (dst_tab hd1 h00) ⟨rfl, rfl⟩
end PM

namespace PT
open PySem PySem.Spec PyProof.Rows L2 PD
theorem hu_of {j : Nat} {A : Around} (hr : Room j A) : A.units + 64 < cLine := by have := hr.un; omega
theorem hu2 {j : Nat} {A B : Around} (hr : Room j A) (e : B.units = A.units) : B.units + 64 < cLine := by have := hr.un; omega
theorem roomQ {j k : Nat} {A B : Around} (hr : Room j A) (e1 : B.depth = A.depth) (e2 : B.units = A.units) (h : k ≤ j) : L2H.RoomH k B := ⟨by have := hr.dp; omega, by have := hr.un; omega⟩
def top (i : Nat) : Stmt := PySem.Challenge.pw_piecedeal_k08_hands_leave_and_come.main.body.getD i (.Pass ⟨0, 0, 0, 0⟩)
def exL (A : Nat → Addr) : List (Str × Addr) := [("BadDeal", A 2), ("BadHolding", A 3)]
abbrev clsF (A : Nat → Addr) : Str → Option Addr := fun c => (exL A).lookup c
/-- what the written part tells -/
structure Txt (K : PySem.W.Frag) (mg : Str → Option Value) (A : Nat → Addr) (tk : Nat → Tok) : Prop where
  h_p_is_number : Has K "is_number" "is_number" (top 13) (A 13) ["thing", "least", "most"]
  g_p_is_number : mg "is_number" = some (.ref (A 13))
  h_p_is_rising : Has K "is_rising" "is_rising" (top 16) (A 16) ["row", "most"]
  g_p_is_rising : mg "is_rising" = some (.ref (A 16))
  h_p_must : Has K "must" "must" (top 14) (A 14) ["good"]
  g_p_must : mg "must" = some (.ref (A 14))
  h_p_need_deal : Has K "need_deal" "need_deal" (top 15) (A 15) ["deal"]
  g_p_need_deal : mg "need_deal" = some (.ref (A 15))
  h_p_need_holding : Has K "need_holding" "need_holding" (top 17) (A 17) ["deal", "holding"]
  g_p_need_holding : mg "need_holding" = some (.ref (A 17))
  h_p_comes : Has K "comes" "comes" (top 21) (A 21) ["deal", "holding", "pieces", "ties"]
  g_p_comes : mg "comes" = some (.ref (A 21))
  h_l_roll : Has K "_law_roll" "_law_roll" (top 25) (A 25) ["_law_dice_here", "_law_most"]
  g_l_roll : mg "_law_roll" = some (.ref (A 25))
  h_l_more : Has K "_law_more" "_law_more" (top 33) (A 33) ["_law_deal_here", "_law_holding_here", "_law_pieces", "_law_ties_here"]
  g_l_more : mg "_law_more" = some (.ref (A 33))
  h_l_ties : Has K "_law_ties" "_law_ties" (top 32) (A 32) ["_law_dice_here", "_law_deal_here"]
  g_l_ties : mg "_law_ties" = some (.ref (A 32))
  h_p_less : Has K "less" "less" (top 19) (A 19) ["number", "hand"]
  g_p_less : mg "less" = some (.ref (A 19))
  h_p_leaves : Has K "leaves" "leaves" (top 20) (A 20) ["deal", "holding", "hand"]
  g_p_leaves : mg "leaves" = some (.ref (A 20))
  h_l_less : Has K "_law_less" "_law_less" (top 31) (A 31) ["_law_deal_here", "_law_holding_here", "_law_hand"]
  g_l_less : mg "_law_less" = some (.ref (A 31))
  h_l_dice : Has K "_law_dice" "_law_dice" (top 24) (A 24) ["_law_cell"]
  g_l_dice : mg "_law_dice" = some (.ref (A 24))
  h_l_cell_at : Has K "_law_cell_at" "_law_cell_at" (top 23) (A 23) ["_law_script", "_law_k"]
  g_l_cell_at : mg "_law_cell_at" = some (.ref (A 23))
  h_l_holding : Has K "_law_holding" "_law_holding" (top 28) (A 28) ["_law_dice_here", "_law_deal_here"]
  g_l_holding : mg "_law_holding" = some (.ref (A 28))
  h_l_deal : Has K "_law_deal" "_law_deal" (top 27) (A 27) ["_law_dice_here", "_law_most", "_law_pieces"]
  g_l_deal : mg "_law_deal" = some (.ref (A 27))
  h_l_some : Has K "_law_some" "_law_some" (top 29) (A 29) ["_law_script", "_law_sizes"]
  g_l_some : mg "_law_some" = some (.ref (A 29))
  h_l_word : Has K "_law_word" "_law_word" (top 30) (A 30) ["_law_work"]
  g_l_word : mg "_law_word" = some (.ref (A 30))
  h_p_law : Has K "law" "law" (top 34) (A 34) ["_law_script"]
  g_p_law : mg "law" = some (.ref (A 34))
  e_DealError : mg "DealError" = some (.ref (A 1))
  e_BadDeal : mg "BadDeal" = some (.ref (A 2))
  kp_BadDeal : PySem.W.keepIn K (.ref (A 2)) = true
  b_BadDeal : PySem.W.subIn K (.ref (A 2)) (.type "BaseException") = some true
  t_BadDeal : PySem.W.typeIn K (.ref (A 2)) = some (.type "type")
  x_BadDeal : PySem.W.excIn K (A 2) [.type "ValueError", .type "Exception", .type "BaseException", .type "object"] "ValueError.__new__" = true
  e_BadHolding : mg "BadHolding" = some (.ref (A 3))
  kp_BadHolding : PySem.W.keepIn K (.ref (A 3)) = true
  b_BadHolding : PySem.W.subIn K (.ref (A 3)) (.type "BaseException") = some true
  t_BadHolding : PySem.W.typeIn K (.ref (A 3)) = some (.type "type")
  x_BadHolding : PySem.W.excIn K (A 3) [.type "ValueError", .type "Exception", .type "BaseException", .type "object"] "ValueError.__new__" = true
  e_BadRound : mg "BadRound" = some (.ref (A 4))
  e_NoDeal : mg "NoDeal" = some (.ref (A 5))
  e_BadText : mg "BadText" = some (.ref (A 6))
  exs : ∀ p ∈ exL A, ExcC K p.2
  ves : ∀ p ∈ exL A, PySem.W.kitOne K (.ref p.2) (.type "ValueError") = some true
  ct_DealError : ∀ p ∈ exL A, PySem.W.exmOne K (.ref p.2) (.ref (A 1)) = some true
  kits : ∀ t ∈ kitT, KitE K (exL A) mg t
  n_ValueError : mg "ValueError" = none
  n_bool : mg "bool" = none
  n_int : mg "int" = none
  n_isinstance : mg "isinstance" = none
  n_len : mg "len" = none
  n_list : mg "list" = none
  n_range : mg "range" = none
  n_sorted : mg "sorted" = none
  n_tuple : mg "tuple" = none
  c_HANDS : mg "HANDS" = some (.int 0 (tk 0))
  c_MOST : mg "MOST" = some (.int 4 (tk 1))
  c_MOST_TIES : mg "MOST_TIES" = some (.int 8 (tk 2))
  c_PIECES : mg "PIECES" = some (.int 1 (tk 3))
  c_TIES : mg "TIES" = some (.int 2 (tk 4))
section
variable {P : Program} {w : World} {K : PySem.W.Frag} {mg : Str → Option Value} {base : Heap} {cls : Str → Option Addr} {A : Nat → Addr} {tk : Nat → Tok}
theorem sc_p_is_number : FnScope ["thing", "least", "most"] ["thing", "least", "most"] (defScope (top 13)) := ⟨rfl, rfl, rfl, by decide +kernel, rfl, by decide +kernel, by decide +kernel⟩
theorem ok_p_is_number (T : Txt K mg A tk)  : Good P w K mg base (clsF A) 1 (A 13) ["thing", "least", "most"] f_p_is_number := by
  have nd : (["thing", "least", "most"] : List Str).Nodup := sc_p_is_number.nd
  unfold f_p_is_number
  refine good_of (cls := clsF A) (N := ["thing", "least", "most"]) (n := 3) (m := 0) T.h_p_is_number sc_p_is_number rfl rfl (fun cdv A' outer s H E G hr hK hM hC => ?_)
  exact (s_cons (s_ret (i_and (i_isi .int trivial hK T.n_isinstance T.n_int (by decide +kernel) (i_var 0)) (i_and (i_not (i_isi .bl trivial hK T.n_isinstance T.n_bool (by decide +kernel) (i_var 0))) (i_one (i_chain op_le op_le o_le o_le (i_var 1) (i_var 0) (i_var 2))))))
    s_nil)
theorem sc_p_is_rising : FnScope ["row", "most", "last", "number"] ["row", "most"] (defScope (top 16)) := ⟨rfl, rfl, rfl, by decide +kernel, rfl, by decide +kernel, by decide +kernel⟩
theorem ok_p_is_rising (T : Txt K mg A tk) (G_p_is_number : Good P w K mg base (clsF A) 1 (A 13) ["thing", "least", "most"] f_p_is_number) : Good P w K mg base (clsF A) 2 (A 16) ["row", "most"] f_p_is_rising := by
  have nd : (["row", "most", "last", "number"] : List Str).Nodup := sc_p_is_rising.nd
  unfold f_p_is_rising
  refine good_of (cls := clsF A) (N := ["row", "most", "last", "number"]) (n := 2) (m := 2) T.h_p_is_rising sc_p_is_rising rfl rfl (fun cdv A' outer s H E G hr hK hM hC => ?_)
  exact (s_cons (s_if (t_not (t_val (i_isi .tup trivial hK T.n_isinstance T.n_tuple (by decide +kernel) (i_var 0))))
    (s_cons (s_ret i_bl)
    s_nil)
    s_nil)
    (s_cons (s_set 2 (i_neg i_int) nd)
    (s_cons (s_for (passes_of rfl) rfl hK (j_var hK 0) (pg_name (i := 3) nd rfl (by first | exact Or.inl rfl | exact Or.inr rfl)) (tgN_ok _ 3)
    (s_cons (s_if (t_not (t_val (i_callG G_p_is_number T.g_p_is_number hr (by decide) (takes_of rfl rfl rfl rfl) hK hM hC (i_acons (i_var 3) (i_acons (i_add hK (i_var 2) i_int) (i_acons (i_var 1) i_anil))))))
    (s_cons (s_ret i_bl)
    s_nil)
    s_nil)
    (s_cons (s_move 2 3 nd)
    s_nil)))
    (s_cons (s_ret i_bl)
    s_nil))))
theorem sc_p_must : FnScope ["good"] ["good"] (defScope (top 14)) := ⟨rfl, rfl, rfl, by decide +kernel, rfl, by decide +kernel, by decide +kernel⟩
theorem ok_p_must (T : Txt K mg A tk)  : Good P w K mg base (clsF A) 1 (A 14) ["good"] f_p_must := by
  have nd : (["good"] : List Str).Nodup := sc_p_must.nd
  unfold f_p_must
  refine good_of (cls := clsF A) (N := ["good"]) (n := 1) (m := 0) T.h_p_must sc_p_must rfl rfl (fun cdv A' outer s H E G hr hK hM hC => ?_)
  exact (s_cons (s_if (t_not (t_val (i_var 0)))
    (s_cons (s_raise0 rfl (takes_of rfl rfl rfl rfl) F.excBase_ValueError T.x_BadDeal T.e_BadDeal T.kp_BadDeal (raises_own T.b_BadDeal T.t_BadDeal) (by rw [hC]; rfl))
    s_nil)
    s_nil)
    s_nil)
theorem sc_p_need_deal : FnScope ["deal", "seen", "tie"] ["deal"] (defScope (top 15)) := ⟨rfl, rfl, rfl, by decide +kernel, rfl, by decide +kernel, by decide +kernel⟩
theorem ok_p_need_deal (T : Txt K mg A tk) (G_p_must : Good P w K mg base (clsF A) 1 (A 14) ["good"] f_p_must) (G_p_is_number : Good P w K mg base (clsF A) 1 (A 13) ["thing", "least", "most"] f_p_is_number) : Good P w K mg base (clsF A) 2 (A 15) ["deal"] f_p_need_deal := by
  have nd : (["deal", "seen", "tie"] : List Str).Nodup := sc_p_need_deal.nd
  unfold f_p_need_deal
  refine good_of (cls := clsF A) (N := ["deal", "seen", "tie"]) (n := 1) (m := 2) T.h_p_need_deal sc_p_need_deal rfl rfl (fun cdv A' outer s H E G hr hK hM hC => ?_)
  exact (s_cons (s_expr (i_callG G_p_must T.g_p_must hr (by decide) (takes_of rfl rfl rfl rfl) hK hM hC (i_acons (i_and (i_isi .tup trivial hK T.n_isinstance T.n_tuple (by decide +kernel) (i_var 0)) (i_one (i_eq hr hK (i_len hK T.n_len (i_acons (i_var 0) i_anil)) i_int))) i_anil)))
    (s_cons (s_expr (i_callG G_p_must T.g_p_must hr (by decide) (takes_of rfl rfl rfl rfl) hK hM hC (i_acons (i_and (i_callG G_p_is_number T.g_p_is_number hr (by decide) (takes_of rfl rfl rfl rfl) hK hM hC (i_acons (i_at hK (i_var 0) (i_glob (v := .int 0) rfl T.c_HANDS ⟨_, rfl⟩ (fun _ _ _ => rfl))) (i_acons i_int (i_acons (i_glob (v := .int 4) rfl T.c_MOST ⟨_, rfl⟩ (fun _ _ _ => rfl)) i_anil)))) (i_one (i_callG G_p_is_number T.g_p_is_number hr (by decide) (takes_of rfl rfl rfl rfl) hK hM hC (i_acons (i_at hK (i_var 0) (i_glob (v := .int 1) rfl T.c_PIECES ⟨_, rfl⟩ (fun _ _ _ => rfl))) (i_acons i_int (i_acons (i_glob (v := .int 4) rfl T.c_MOST ⟨_, rfl⟩ (fun _ _ _ => rfl)) i_anil)))))) i_anil)))
    (s_cons (s_expr (i_callG G_p_must T.g_p_must hr (by decide) (takes_of rfl rfl rfl rfl) hK hM hC (i_acons (i_and (i_isi .tup trivial hK T.n_isinstance T.n_tuple (by decide +kernel) (i_at hK (i_var 0) (i_glob (v := .int 2) rfl T.c_TIES ⟨_, rfl⟩ (fun _ _ _ => rfl)))) (i_one (i_le (i_len hK T.n_len (i_acons (i_at hK (i_var 0) (i_glob (v := .int 2) rfl T.c_TIES ⟨_, rfl⟩ (fun _ _ _ => rfl))) i_anil)) (i_glob (v := .int 8) rfl T.c_MOST_TIES ⟨_, rfl⟩ (fun _ _ _ => rfl))))) i_anil)))
    (s_cons (s_set 1 (i_lst i_anil) nd)
    (s_cons (s_for (passes_of rfl) rfl hK (j_seq hK (i_at hK (i_var 0) (i_glob (v := .int 2) rfl T.c_TIES ⟨_, rfl⟩ (fun _ _ _ => rfl)))) (pg_name (i := 2) nd rfl (by first | exact Or.inl rfl | exact Or.inr rfl)) (tgN_ok _ 2)
    (s_cons (s_expr (i_callG G_p_must T.g_p_must hr (by decide) (takes_of rfl rfl rfl rfl) hK hM hC (i_acons (i_and (i_isi .tup trivial hK T.n_isinstance T.n_tuple (by decide +kernel) (i_var 2)) (i_and (i_eq hr hK (i_len hK T.n_len (i_acons (i_var 2) i_anil)) i_int) (i_one (i_callG G_p_is_number T.g_p_is_number hr (by decide) (takes_of rfl rfl rfl rfl) hK hM hC (i_acons (i_at hK (i_var 2) i_int) (i_acons i_int (i_acons (i_glob (v := .int 4) rfl T.c_MOST ⟨_, rfl⟩ (fun _ _ _ => rfl)) i_anil))))))) i_anil)))
    (s_cons (s_expr (i_callG G_p_must T.g_p_must hr (by decide) (takes_of rfl rfl rfl rfl) hK hM hC (i_acons (i_and (i_callG G_p_is_number T.g_p_is_number hr (by decide) (takes_of rfl rfl rfl rfl) hK hM hC (i_acons (i_at hK (i_var 2) i_int) (i_acons i_int (i_acons (i_sub (i_at hK (i_var 0) (i_glob (v := .int 0) rfl T.c_HANDS ⟨_, rfl⟩ (fun _ _ _ => rfl))) i_int) i_anil)))) (i_one (i_callG G_p_is_number T.g_p_is_number hr (by decide) (takes_of rfl rfl rfl rfl) hK hM hC (i_acons (i_at hK (i_var 2) i_int) (i_acons i_int (i_acons (i_sub (i_at hK (i_var 0) (i_glob (v := .int 0) rfl T.c_HANDS ⟨_, rfl⟩ (fun _ _ _ => rfl))) i_int) i_anil)))))) i_anil)))
    (s_cons (s_expr (i_callG G_p_must T.g_p_must hr (by decide) (takes_of rfl rfl rfl rfl) hK hM hC (i_acons (i_and (i_ne hr hK (i_at hK (i_var 2) i_int) (i_at hK (i_var 2) i_int)) (i_one (i_notIn hr hK (i_cut hK (i_var 2) i_onone (i_osome i_int)) (i_var 1)))) i_anil)))
    (s_cons (s_app putF_ok 1 (i_cut hK (i_var 2) i_onone (i_osome i_int)))
    s_nil)))))
    s_nil)))))
theorem sc_p_need_holding : FnScope ["deal", "holding", "row"] ["deal", "holding"] (defScope (top 17)) := ⟨rfl, rfl, rfl, by decide +kernel, rfl, by decide +kernel, by decide +kernel⟩
theorem ok_p_need_holding (T : Txt K mg A tk) (G_p_is_rising : Good P w K mg base (clsF A) 2 (A 16) ["row", "most"] f_p_is_rising) (G_p_need_deal : Good P w K mg base (clsF A) 2 (A 15) ["deal"] f_p_need_deal) : Good P w K mg base (clsF A) 3 (A 17) ["deal", "holding"] f_p_need_holding := by
  have nd : (["deal", "holding", "row"] : List Str).Nodup := sc_p_need_holding.nd
  unfold f_p_need_holding
  refine good_of (cls := clsF A) (N := ["deal", "holding", "row"]) (n := 2) (m := 1) T.h_p_need_holding sc_p_need_holding rfl rfl (fun cdv A' outer s H E G hr hK hM hC => ?_)
  exact (s_cons (s_expr (i_callG G_p_need_deal T.g_p_need_deal hr (by decide) (takes_of rfl rfl rfl rfl) hK hM hC (i_acons (i_var 0) i_anil)))
    (s_cons (s_if (PW.pt (w_or (t_not (t_val (i_isi .tup trivial hK T.n_isinstance T.n_tuple (by decide +kernel) (i_var 1)))) (w_or1 (t_ne hr hK (i_len hK T.n_len (i_acons (i_var 1) i_anil)) (i_at hK (i_var 0) (i_glob (v := .int 0) rfl T.c_HANDS ⟨_, rfl⟩ (fun _ _ _ => rfl)))))))
    (s_cons (s_raise0 rfl (takes_of rfl rfl rfl rfl) F.excBase_ValueError T.x_BadHolding T.e_BadHolding T.kp_BadHolding (raises_own T.b_BadHolding T.t_BadHolding) (by rw [hC]; rfl))
    s_nil)
    s_nil)
    (s_cons (s_if (t_ne hr hK (i_lc putF_ok (own := [("row", 2)]) rfl nd hK (tgN_ok _ 2) (by decide) (x_seq hK (i_var 1)) (blkOk_by (own := [("row", 2)]) (N := ["deal", "holding", "row"]) (sc := defScope (top 17)) (by decide +kernel)) (fun _ _ _ _ _ => (pg_name (i := 2) nd rfl (by first | exact Or.inl rfl | exact Or.inr rfl))) (fun _ _ _ _ _ => (ifs_one (t_not (t_val (i_callG G_p_is_rising T.g_p_is_rising hr (by decide) takes0 hK hM hC (i_acons (i_var 2) (i_acons (i_sub (i_at hK (i_var 0) (i_glob (v := .int 1) rfl T.c_PIECES ⟨_, rfl⟩ (fun _ _ _ => rfl))) i_int) i_anil))))))) (fun _ _ _ _ _ => (i_var 2))) (i_lst i_anil))
    (s_cons (s_raise0 rfl (takes_of rfl rfl rfl rfl) F.excBase_ValueError T.x_BadHolding T.e_BadHolding T.kp_BadHolding (raises_own T.b_BadHolding T.t_BadHolding) (by rw [hC]; rfl))
    s_nil)
    s_nil)
    s_nil)))
theorem sc_p_comes : FnScope ["deal", "holding", "pieces", "ties", "made", "more"] ["deal", "holding", "pieces", "ties"] (defScope (top 21)) := ⟨rfl, rfl, rfl, by decide +kernel, rfl, by decide +kernel, by decide +kernel⟩
theorem ok_p_comes (T : Txt K mg A tk) (G_p_need_holding : Good P w K mg base (clsF A) 3 (A 17) ["deal", "holding"] f_p_need_holding) : Good P w K mg base (clsF A) 4 (A 21) ["deal", "holding", "pieces", "ties"] f_p_comes := by
  have nd : (["deal", "holding", "pieces", "ties", "made", "more"] : List Str).Nodup := sc_p_comes.nd
  unfold f_p_comes
  refine good_of (cls := clsF A) (N := ["deal", "holding", "pieces", "ties", "made", "more"]) (n := 4) (m := 2) T.h_p_comes sc_p_comes rfl rfl (fun cdv A' outer s H E G hr hK hM hC => ?_)
  exact (s_cons (s_expr (i_callG G_p_need_holding T.g_p_need_holding hr (by decide) (takes_of rfl rfl rfl rfl) hK hM hC (i_acons (i_var 0) (i_acons (i_var 1) i_anil))))
    (s_cons (s_if (t_not (t_val (i_isi .tup trivial hK T.n_isinstance T.n_tuple (by decide +kernel) (i_var 3))))
    (s_cons (s_set 4 (i_tup (i_acons (i_add hK (i_at hK (i_var 0) (i_glob (v := .int 0) rfl T.c_HANDS ⟨_, rfl⟩ (fun _ _ _ => rfl))) i_int) (i_acons (i_at hK (i_var 0) (i_glob (v := .int 1) rfl T.c_PIECES ⟨_, rfl⟩ (fun _ _ _ => rfl))) (i_acons (i_var 3) i_anil)))) nd)
    s_nil)
    (s_cons (s_set 4 (i_tup (i_acons (i_add hK (i_at hK (i_var 0) (i_glob (v := .int 0) rfl T.c_HANDS ⟨_, rfl⟩ (fun _ _ _ => rfl))) i_int) (i_acons (i_at hK (i_var 0) (i_glob (v := .int 1) rfl T.c_PIECES ⟨_, rfl⟩ (fun _ _ _ => rfl))) (i_acons (i_add hK (i_at hK (i_var 0) (i_glob (v := .int 2) rfl T.c_TIES ⟨_, rfl⟩ (fun _ _ _ => rfl))) (i_var 3)) i_anil)))) nd)
    s_nil))
    (s_cons (s_set 5 (i_add hK (i_var 1) (i_tup (i_acons (i_var 2) i_anil))) nd)
    (s_cons (s_expr (i_callG G_p_need_holding T.g_p_need_holding hr (by decide) (takes_of rfl rfl rfl rfl) hK hM hC (i_acons (i_var 4) (i_acons (i_var 5) i_anil))))
    (s_cons (s_ret (i_tup (i_acons (i_var 4) (i_acons (i_var 5) i_anil))))
    s_nil)))))
theorem sc_l_roll : FnScope ["_law_dice_here", "_law_most", "_law_found"] ["_law_dice_here", "_law_most"] (defScope (top 25)) := ⟨rfl, rfl, rfl, by decide +kernel, rfl, by decide +kernel, by decide +kernel⟩
theorem ok_l_roll (T : Txt K mg A tk)  : Good P w K mg base (clsF A) 1 (A 25) ["_law_dice_here", "_law_most"] f_l_roll := by
  have nd : (["_law_dice_here", "_law_most", "_law_found"] : List Str).Nodup := sc_l_roll.nd
  unfold f_l_roll
  refine good_of (cls := clsF A) (N := ["_law_dice_here", "_law_most", "_law_found"]) (n := 2) (m := 1) T.h_l_roll sc_l_roll rfl rfl (fun cdv A' outer s H E G hr hK hM hC => ?_)
  exact (s_cons (s_if (t_gt (i_at hK (i_var 0) i_int) i_int)
    (s_cons (s_set 2 (i_mod (i_at hK (i_var 0) i_int) (i_var 1)) nd)
    (s_cons (s_setIx putF_ok 0 (i_div (i_at hK (i_var 0) i_int) (i_var 1)) i_int)
    (s_cons (s_retV 2)
    s_nil)))
    s_nil)
    (s_cons (s_setIx putF_ok 0 (i_mod (i_add hK (i_mul (i_at hK (i_var 0) i_int) i_int) i_int) i_int) i_int)
    (s_cons (s_ret (i_mod (i_div (i_at hK (i_var 0) i_int) i_int) (i_var 1)))
    s_nil)))
theorem sc_l_more : FnScope ["_law_deal_here", "_law_holding_here", "_law_pieces", "_law_ties_here"] ["_law_deal_here", "_law_holding_here", "_law_pieces", "_law_ties_here"] (defScope (top 33)) := ⟨rfl, rfl, rfl, by decide +kernel, rfl, by decide +kernel, by decide +kernel⟩
theorem ok_l_more (T : Txt K mg A tk)  : Good P w K mg base (clsF A) 1 (A 33) ["_law_deal_here", "_law_holding_here", "_law_pieces", "_law_ties_here"] f_l_more := by
  have nd : (["_law_deal_here", "_law_holding_here", "_law_pieces", "_law_ties_here"] : List Str).Nodup := sc_l_more.nd
  unfold f_l_more
  refine good_of (cls := clsF A) (N := ["_law_deal_here", "_law_holding_here", "_law_pieces", "_law_ties_here"]) (n := 4) (m := 0) T.h_l_more sc_l_more rfl rfl (fun cdv A' outer s H E G hr hK hM hC => ?_)
  exact (s_cons (s_if (PW.pt (w_or (t_eq hr hK (i_at hK (i_var 0) i_int) i_int) (w_or1 (t_gt (i_add hK (i_len hK T.n_len (i_acons (i_at hK (i_var 0) i_int) i_anil)) (i_len hK T.n_len (i_acons (i_var 3) i_anil))) i_int))))
    (s_cons (s_ret i_str)
    s_nil)
    s_nil)
    (s_cons (s_ret (i_tup (i_acons (i_tup (i_acons (i_add hK (i_at hK (i_var 0) i_int) i_int) (i_acons (i_at hK (i_var 0) i_int) (i_acons (i_add hK (i_at hK (i_var 0) i_int) (i_var 3)) i_anil)))) (i_acons (i_add hK (i_var 1) (i_tup (i_acons (i_var 2) i_anil))) i_anil))))
    s_nil))
theorem sc_l_ties : FnScope ["_law_dice_here", "_law_deal_here", "_law_out", "_law_k", "_law_pair", "_law_tie"] ["_law_dice_here", "_law_deal_here"] (defScope (top 32)) := ⟨rfl, rfl, rfl, by decide +kernel, rfl, by decide +kernel, by decide +kernel⟩
theorem ok_l_ties (T : Txt K mg A tk) (G_l_roll : Good P w K mg base (clsF A) 1 (A 25) ["_law_dice_here", "_law_most"] f_l_roll) : Good P w K mg base (clsF A) 2 (A 32) ["_law_dice_here", "_law_deal_here"] f_l_ties := by
  have nd : (["_law_dice_here", "_law_deal_here", "_law_out", "_law_k", "_law_pair", "_law_tie"] : List Str).Nodup := sc_l_ties.nd
  unfold f_l_ties
  refine good_of (cls := clsF A) (N := ["_law_dice_here", "_law_deal_here", "_law_out", "_law_k", "_law_pair", "_law_tie"]) (n := 2) (m := 4) T.h_l_ties sc_l_ties rfl rfl (fun cdv A' outer s H E G hr hK hM hC => ?_)
  exact (s_cons (s_set 2 (i_lst i_anil) nd)
    (s_cons (s_for (passes_of rfl) rfl hK (j_rng1 T.n_range (i_acons (i_callG G_l_roll T.g_l_roll hr (by decide) (takes_of rfl rfl rfl rfl) hK hM hC (i_acons (i_var 0) (i_acons i_int i_anil))) i_anil)) (pg_name (i := 3) nd rfl (by first | exact Or.inl rfl | exact Or.inr rfl)) (tgN_ok _ 3)
    (s_cons (s_set 4 (i_at hK (i_lst (i_acons (i_tup (i_acons (i_at hK (i_var 1) i_int) (i_acons (i_callG G_l_roll T.g_l_roll hr (by decide) (takes_of rfl rfl rfl rfl) hK hM hC (i_acons (i_var 0) (i_acons (i_at hK (i_var 1) i_int) i_anil))) i_anil))) (i_acons (i_tup (i_acons (i_callG G_l_roll T.g_l_roll hr (by decide) (takes_of rfl rfl rfl rfl) hK hM hC (i_acons (i_var 0) (i_acons (i_at hK (i_var 1) i_int) i_anil))) (i_acons (i_at hK (i_var 1) i_int) i_anil))) i_anil))) (i_callG G_l_roll T.g_l_roll hr (by decide) (takes_of rfl rfl rfl rfl) hK hM hC (i_acons (i_var 0) (i_acons i_int i_anil)))) nd)
    (s_cons (s_if (t_eq hr hK (i_callG G_l_roll T.g_l_roll hr (by decide) (takes_of rfl rfl rfl rfl) hK hM hC (i_acons (i_var 0) (i_acons i_int i_anil))) i_int)
    (s_cons (s_set 4 (i_tup (i_acons (i_callG G_l_roll T.g_l_roll hr (by decide) (takes_of rfl rfl rfl rfl) hK hM hC (i_acons (i_var 0) (i_acons (i_at hK (i_var 1) i_int) i_anil))) (i_acons (i_callG G_l_roll T.g_l_roll hr (by decide) (takes_of rfl rfl rfl rfl) hK hM hC (i_acons (i_var 0) (i_acons (i_at hK (i_var 1) i_int) i_anil))) i_anil))) nd)
    s_nil)
    s_nil)
    (s_cons (s_if (PW.pt (w_and (t_ne hr hK (i_at hK (i_var 4) i_int) (i_at hK (i_var 4) i_int)) (w_and1 (t_notIn hr hK (i_var 4) (i_lc putF_ok (own := [("_law_tie", 5)]) rfl nd hK (tgN_ok _ 5) (by decide) (x_seq hK (i_add hK (i_var 2) (i_callTy call_list_of (o_list hK) T.n_list (by decide +kernel) (i_acons (i_at hK (i_var 1) i_int) i_anil)))) (blkOk_by (own := [("_law_tie", 5)]) (N := ["_law_dice_here", "_law_deal_here", "_law_out", "_law_k", "_law_pair", "_law_tie"]) (sc := defScope (top 32)) (by decide +kernel)) (fun _ _ _ _ _ => (pg_name (i := 5) nd rfl (by first | exact Or.inl rfl | exact Or.inr rfl))) (fun _ _ _ _ _ => ifs_nil) (fun _ _ _ _ _ => (i_cut hK (i_var 5) i_onone (i_osome i_int))))))))
    (s_cons (s_app putF_ok 2 (i_add hK (i_var 4) (i_tup (i_acons (i_add hK i_int (i_callG G_l_roll T.g_l_roll hr (by decide) (takes_of rfl rfl rfl rfl) hK hM hC (i_acons (i_var 0) (i_acons i_int i_anil)))) i_anil))))
    s_nil)
    s_nil)
    s_nil))))
    (s_cons (s_ret (i_callTy call_tuple_of (o_tuple hK) T.n_tuple (by decide +kernel) (i_acons (i_var 2) i_anil)))
    s_nil)))
theorem sc_p_less : FnScope ["number", "hand"] ["number", "hand"] (defScope (top 19)) := ⟨rfl, rfl, rfl, by decide +kernel, rfl, by decide +kernel, by decide +kernel⟩
theorem ok_p_less (T : Txt K mg A tk)  : Good P w K mg base (clsF A) 1 (A 19) ["number", "hand"] f_p_less := by
  have nd : (["number", "hand"] : List Str).Nodup := sc_p_less.nd
  unfold f_p_less
  refine good_of (cls := clsF A) (N := ["number", "hand"]) (n := 2) (m := 0) T.h_p_less sc_p_less rfl rfl (fun cdv A' outer s H E G hr hK hM hC => ?_)
  exact (s_cons (s_ret (i_sub (i_var 0) (i_callTy call_int1 o_int T.n_int (by decide +kernel) (i_acons (i_gt (i_var 0) (i_var 1)) i_anil))))
    s_nil)
theorem sc_p_leaves : FnScope ["deal", "holding", "hand", "ties", "one", "other", "letters", "made", "left"] ["deal", "holding", "hand"] (defScope (top 20)) := ⟨rfl, rfl, rfl, by decide +kernel, rfl, by decide +kernel, by decide +kernel⟩
theorem ok_p_leaves (T : Txt K mg A tk) (G_p_need_holding : Good P w K mg base (clsF A) 3 (A 17) ["deal", "holding"] f_p_need_holding) (G_p_less : Good P w K mg base (clsF A) 1 (A 19) ["number", "hand"] f_p_less) : Good P w K mg base (clsF A) 4 (A 20) ["deal", "holding", "hand"] f_p_leaves := by
  have nd : (["deal", "holding", "hand", "ties", "one", "other", "letters", "made", "left"] : List Str).Nodup := sc_p_leaves.nd
  unfold f_p_leaves
  refine good_of (cls := clsF A) (N := ["deal", "holding", "hand", "ties", "one", "other", "letters", "made", "left"]) (n := 3) (m := 6) T.h_p_leaves sc_p_leaves rfl rfl (fun cdv A' outer s H E G hr hK hM hC => ?_)
  exact (s_cons (s_expr (i_callG G_p_need_holding T.g_p_need_holding hr (by decide) (takes_of rfl rfl rfl rfl) hK hM hC (i_acons (i_var 0) (i_acons (i_var 1) i_anil))))
    (s_cons (s_set 3 (i_lst i_anil) nd)
    (s_cons (s_for (passes_of rfl) rfl hK (j_seq hK (i_at hK (i_var 0) (i_glob (v := .int 2) rfl T.c_TIES ⟨_, rfl⟩ (fun _ _ _ => rfl)))) (pg_tup (t := gNames [4, 5, 6]) (n := 3) rfl (pgs_cons (pg_name (i := 4) nd rfl (by first | exact Or.inl rfl | exact Or.inr rfl)) (pgs_cons (pg_name (i := 5) nd rfl (by first | exact Or.inl rfl | exact Or.inr rfl)) (pgs_cons (pg_name (i := 6) nd rfl (by first | exact Or.inl rfl | exact Or.inr rfl)) pgs_nil)))) (tgT_ok _ [4, 5, 6] rfl)
    (s_cons (s_if (PW.pt (w_and (t_ne hr hK (i_var 4) (i_var 2)) (w_and1 (t_ne hr hK (i_var 5) (i_var 2)))))
    (s_cons (s_app putF_ok 3 (i_tup (i_acons (i_callG G_p_less T.g_p_less hr (by decide) (takes_of rfl rfl rfl rfl) hK hM hC (i_acons (i_var 4) (i_acons (i_var 2) i_anil))) (i_acons (i_callG G_p_less T.g_p_less hr (by decide) (takes_of rfl rfl rfl rfl) hK hM hC (i_acons (i_var 5) (i_acons (i_var 2) i_anil))) (i_acons (i_var 6) i_anil)))))
    s_nil)
    s_nil)
    s_nil))
    (s_cons (s_set 7 (i_tup (i_acons (i_sub (i_at hK (i_var 0) (i_glob (v := .int 0) rfl T.c_HANDS ⟨_, rfl⟩ (fun _ _ _ => rfl))) i_int) (i_acons (i_at hK (i_var 0) (i_glob (v := .int 1) rfl T.c_PIECES ⟨_, rfl⟩ (fun _ _ _ => rfl))) (i_acons (i_callTy call_tuple_of (o_tuple hK) T.n_tuple (by decide +kernel) (i_acons (i_var 3) i_anil)) i_anil)))) nd)
    (s_cons (s_set 8 (i_add hK (i_cut hK (i_var 1) i_onone (i_osome (i_var 2))) (i_cut hK (i_var 1) (i_osome (i_add hK (i_var 2) i_int)) i_onone)) nd)
    (s_cons (s_expr (i_callG G_p_need_holding T.g_p_need_holding hr (by decide) (takes_of rfl rfl rfl rfl) hK hM hC (i_acons (i_var 7) (i_acons (i_var 8) i_anil))))
    (s_cons (s_ret (i_tup (i_acons (i_var 7) (i_acons (i_var 8) i_anil))))
    s_nil)))))))
theorem sc_l_less : FnScope ["_law_deal_here", "_law_holding_here", "_law_hand", "_law_others", "_law_ties_here", "_law_one", "_law_other", "_law_letters", "_law_k"] ["_law_deal_here", "_law_holding_here", "_law_hand"] (defScope (top 31)) := ⟨rfl, rfl, rfl, by decide +kernel, rfl, by decide +kernel, by decide +kernel⟩
theorem ok_l_less (T : Txt K mg A tk)  : Good P w K mg base (clsF A) 1 (A 31) ["_law_deal_here", "_law_holding_here", "_law_hand"] f_l_less := by
  have nd : (["_law_deal_here", "_law_holding_here", "_law_hand", "_law_others", "_law_ties_here", "_law_one", "_law_other", "_law_letters", "_law_k"] : List Str).Nodup := sc_l_less.nd
  unfold f_l_less
  refine good_of (cls := clsF A) (N := ["_law_deal_here", "_law_holding_here", "_law_hand", "_law_others", "_law_ties_here", "_law_one", "_law_other", "_law_letters", "_law_k"]) (n := 3) (m := 6) T.h_l_less sc_l_less rfl rfl (fun cdv A' outer s H E G hr hK hM hC => ?_)
  exact (s_cons (s_if (t_eq hr hK (i_at hK (i_var 0) i_int) i_int)
    (s_cons (s_ret i_str)
    s_nil)
    s_nil)
    (s_cons (s_setLc putF_ok 3 (own := [("_law_k", 8)]) rfl nd hK (tgN_ok _ 8) (by decide) (x_rng1 T.n_range (i_acons (i_at hK (i_var 0) i_int) i_anil)) (blkOk_by (own := [("_law_k", 8)]) (N := ["_law_deal_here", "_law_holding_here", "_law_hand", "_law_others", "_law_ties_here", "_law_one", "_law_other", "_law_letters", "_law_k"]) (sc := defScope (top 31)) (by decide +kernel)) (fun _ _ _ _ _ => (pg_name (i := 8) nd rfl (by first | exact Or.inl rfl | exact Or.inr rfl))) (fun _ _ _ _ _ => (ifs_one (t_ne hr hK (i_var 8) (i_var 2)))) (fun _ _ _ _ _ => (i_var 8)) (sw_true rfl rfl rfl (by decide +kernel)))
    (s_cons (s_set 4 (i_lst i_anil) nd)
    (s_cons (s_for (passes_of rfl) rfl hK (j_seq hK (i_at hK (i_var 0) i_int)) (pg_tup (t := gNames [5, 6, 7]) (n := 3) rfl (pgs_cons (pg_name (i := 5) nd rfl (by first | exact Or.inl rfl | exact Or.inr rfl)) (pgs_cons (pg_name (i := 6) nd rfl (by first | exact Or.inl rfl | exact Or.inr rfl)) (pgs_cons (pg_name (i := 7) nd rfl (by first | exact Or.inl rfl | exact Or.inr rfl)) pgs_nil)))) (tgT_ok _ [5, 6, 7] rfl)
    (s_cons (s_if (PW.pt (w_and (t_in hr hK (i_var 5) (i_var 3)) (w_and1 (t_in hr hK (i_var 6) (i_var 3)))))
    (s_cons (s_app putF_ok 4 (i_tup (i_acons (i_lindex (i_var 3) (i_var 5)) (i_acons (i_lindex (i_var 3) (i_var 6)) (i_acons (i_var 7) i_anil)))))
    s_nil)
    s_nil)
    s_nil))
    (s_cons (s_ret (i_tup (i_acons (i_tup (i_acons (i_len hK T.n_len (i_acons (i_var 3) i_anil)) (i_acons (i_at hK (i_var 0) i_int) (i_acons (i_callTy call_tuple_of (o_tuple hK) T.n_tuple (by decide +kernel) (i_acons (i_var 4) i_anil)) i_anil)))) (i_acons (i_callTy call_tuple_of (o_tuple hK) T.n_tuple (by decide +kernel) (i_acons (i_lc putF_ok (own := [("_law_k", 8)]) rfl nd hK (tgN_ok _ 8) (by decide) (x_seq hK (i_var 3)) (blkOk_by (own := [("_law_k", 8)]) (N := ["_law_deal_here", "_law_holding_here", "_law_hand", "_law_others", "_law_ties_here", "_law_one", "_law_other", "_law_letters", "_law_k"]) (sc := defScope (top 31)) (by decide +kernel)) (fun _ _ _ _ _ => (pg_name (i := 8) nd rfl (by first | exact Or.inl rfl | exact Or.inr rfl))) (fun _ _ _ _ _ => ifs_nil) (fun _ _ _ _ _ => (i_at hK (i_var 1) (i_var 8)))) i_anil)) i_anil))))
    s_nil)))))
theorem sc_l_dice : FnScope ["_law_cell"] ["_law_cell"] (defScope (top 24)) := ⟨rfl, rfl, rfl, by decide +kernel, rfl, by decide +kernel, by decide +kernel⟩
theorem ok_l_dice (T : Txt K mg A tk)  : Good P w K mg base (clsF A) 1 (A 24) ["_law_cell"] f_l_dice := by
  have nd : (["_law_cell"] : List Str).Nodup := sc_l_dice.nd
  unfold f_l_dice
  refine good_of (cls := clsF A) (N := ["_law_cell"]) (n := 1) (m := 0) T.h_l_dice sc_l_dice rfl rfl (fun cdv A' outer s H E G hr hK hM hC => ?_)
  exact (s_cons (s_ret (i_lst (i_acons (i_mod (i_var 0) i_int) (i_acons (i_mul (i_div (i_var 0) i_int) (i_callTy call_int1 o_int T.n_int (by decide +kernel) (i_acons (i_ge (i_var 0) (i_pow i_int i_int)) i_anil))) i_anil))))
    s_nil)
theorem sc_l_cell_at : FnScope ["_law_script", "_law_k"] ["_law_script", "_law_k"] (defScope (top 23)) := ⟨rfl, rfl, rfl, by decide +kernel, rfl, by decide +kernel, by decide +kernel⟩
theorem ok_l_cell_at (T : Txt K mg A tk)  : Good P w K mg base (clsF A) 1 (A 23) ["_law_script", "_law_k"] f_l_cell_at := by
  have nd : (["_law_script", "_law_k"] : List Str).Nodup := sc_l_cell_at.nd
  unfold f_l_cell_at
  refine good_of (cls := clsF A) (N := ["_law_script", "_law_k"]) (n := 2) (m := 0) T.h_l_cell_at sc_l_cell_at rfl rfl (fun cdv A' outer s H E G hr hK hM hC => ?_)
  exact (s_cons (s_if (t_lt (i_var 1) (i_len hK T.n_len (i_acons (i_var 0) i_anil)))
    (s_cons (s_ret (i_at hK (i_var 0) (i_var 1)))
    s_nil)
    s_nil)
    (s_cons (s_ret i_int)
    s_nil))
theorem sc_l_holding : FnScope ["_law_dice_here", "_law_deal_here", "_law_rows", "_law_sort", "_law_home", "_law_piece", "_law_row", "_law_hand"] ["_law_dice_here", "_law_deal_here"] (defScope (top 28)) := ⟨rfl, rfl, rfl, by decide +kernel, rfl, by decide +kernel, by decide +kernel⟩
theorem ok_l_holding (T : Txt K mg A tk) (G_l_roll : Good P w K mg base (clsF A) 1 (A 25) ["_law_dice_here", "_law_most"] f_l_roll) : Good P w K mg base (clsF A) 2 (A 28) ["_law_dice_here", "_law_deal_here"] f_l_holding := by
  have nd : (["_law_dice_here", "_law_deal_here", "_law_rows", "_law_sort", "_law_home", "_law_piece", "_law_row", "_law_hand"] : List Str).Nodup := sc_l_holding.nd
  unfold f_l_holding
  refine good_of (cls := clsF A) (N := ["_law_dice_here", "_law_deal_here", "_law_rows", "_law_sort", "_law_home", "_law_piece", "_law_row", "_law_hand"]) (n := 2) (m := 6) T.h_l_holding sc_l_holding rfl rfl (fun cdv A' outer s H E G hr hK hM hC => ?_)
  exact (s_cons (s_setLc putR_ok 2 (own := [("_law_hand", 7)]) rfl nd hK (tgN_ok _ 7) (by decide) (x_rng1 T.n_range (i_acons (i_at hK (i_var 1) i_int) i_anil)) (blkOk_by (own := [("_law_hand", 7)]) (N := ["_law_dice_here", "_law_deal_here", "_law_rows", "_law_sort", "_law_home", "_law_piece", "_law_row", "_law_hand"]) (sc := defScope (top 28)) (by decide +kernel)) (fun _ _ _ _ _ => (pg_name (i := 7) nd rfl (by first | exact Or.inl rfl | exact Or.inr rfl))) (fun _ _ _ _ _ => ifs_nil) (fun _ _ _ _ _ => (i_lst i_anil)) (sw_true rfl rfl rfl (by decide +kernel)))
    (s_cons (s_set 3 (i_callG G_l_roll T.g_l_roll hr (by decide) (takes_of rfl rfl rfl rfl) hK hM hC (i_acons (i_var 0) (i_acons i_int i_anil))) nd)
    (s_cons (s_set 4 (i_callG G_l_roll T.g_l_roll hr (by decide) (takes_of rfl rfl rfl rfl) hK hM hC (i_acons (i_var 0) (i_acons (i_at hK (i_var 1) i_int) i_anil))) nd)
    (s_cons (s_for (passes_of rfl) rfl hK (j_rng1 T.n_range (i_acons (i_at hK (i_var 1) i_int) i_anil)) (pg_name (i := 5) nd rfl (by first | exact Or.inl rfl | exact Or.inr rfl)) (tgN_ok _ 5)
    (s_cons (s_if (PW.pt (w_or (t_eq hr hK (i_var 3) i_int) (w_or1 (t_gt (i_callG G_l_roll T.g_l_roll hr (by decide) (takes_of rfl rfl rfl rfl) hK hM hC (i_acons (i_var 0) (i_acons i_int i_anil))) i_int))))
    (s_cons (s_appE putF_ok (i_at hK (i_var 2) (i_at hK (i_lst (i_acons (i_var 4) (i_acons (i_callG G_l_roll T.g_l_roll hr (by decide) (takes_of rfl rfl rfl rfl) hK hM hC (i_acons (i_var 0) (i_acons (i_at hK (i_var 1) i_int) i_anil))) i_anil))) (i_callTy call_int1 o_int T.n_int (by decide +kernel) (i_acons (i_gt (i_var 3) i_int) i_anil)))) (i_var 5))
    s_nil)
    s_nil)
    (s_cons (s_for (passes_of rfl) rfl hK (j_var hK 2) (pg_name (i := 6) nd rfl (by first | exact Or.inl rfl | exact Or.inr rfl)) (tgN_ok _ 6)
    (s_cons (s_if (PW.pt (w_and (t_eq hr hK (i_var 3) i_int) (w_and (t_notIn hr hK (i_var 5) (i_var 6)) (w_and1 (t_eq hr hK (i_callG G_l_roll T.g_l_roll hr (by decide) (takes_of rfl rfl rfl rfl) hK hM hC (i_acons (i_var 0) (i_acons i_int i_anil))) i_int)))))
    (s_cons (s_app putF_ok 6 (i_var 5))
    s_nil)
    s_nil)
    s_nil))
    s_nil)))
    (s_cons (s_ret (i_callTy call_tuple_of (o_tuple hK) T.n_tuple (by decide +kernel) (i_acons (i_lc putF_ok (own := [("_law_row", 6)]) rfl nd hK (tgN_ok _ 6) (by decide) (x_seq hK (i_var 2)) (blkOk_by (own := [("_law_row", 6)]) (N := ["_law_dice_here", "_law_deal_here", "_law_rows", "_law_sort", "_law_home", "_law_piece", "_law_row", "_law_hand"]) (sc := defScope (top 28)) (by decide +kernel)) (fun _ _ _ _ _ => (pg_name (i := 6) nd rfl (by first | exact Or.inl rfl | exact Or.inr rfl))) (fun _ _ _ _ _ => ifs_nil) (fun _ _ _ _ _ => (i_callTy call_tuple_of (o_tuple hK) T.n_tuple (by decide +kernel) (i_acons (i_callB (cr_sort2 (hu_of hr)) (o_sort2 hK) T.n_sorted (by decide +kernel) (i_acons (i_var 6) i_anil)) i_anil)))) i_anil)))
    s_nil)))))
theorem sc_l_deal : FnScope ["_law_dice_here", "_law_most", "_law_pieces", "_law_hands", "_law_many", "_law_ties_here", "_law_sort", "_law_pairs", "_law_k", "_law_one", "_law_other", "_law_letters"] ["_law_dice_here", "_law_most", "_law_pieces"] (defScope (top 27)) := ⟨rfl, rfl, rfl, by decide +kernel, rfl, by decide +kernel, by decide +kernel⟩
theorem ok_l_deal (T : Txt K mg A tk) (G_l_roll : Good P w K mg base (clsF A) 1 (A 25) ["_law_dice_here", "_law_most"] f_l_roll) : Good P w K mg base (clsF A) 2 (A 27) ["_law_dice_here", "_law_most", "_law_pieces"] f_l_deal := by
  have nd : (["_law_dice_here", "_law_most", "_law_pieces", "_law_hands", "_law_many", "_law_ties_here", "_law_sort", "_law_pairs", "_law_k", "_law_one", "_law_other", "_law_letters"] : List Str).Nodup := sc_l_deal.nd
  unfold f_l_deal
  refine good_of (cls := clsF A) (N := ["_law_dice_here", "_law_most", "_law_pieces", "_law_hands", "_law_many", "_law_ties_here", "_law_sort", "_law_pairs", "_law_k", "_law_one", "_law_other", "_law_letters"]) (n := 3) (m := 9) T.h_l_deal sc_l_deal rfl rfl (fun cdv A' outer s H E G hr hK hM hC => ?_)
  exact (s_cons (s_set 3 (i_add hK i_int (i_callG G_l_roll T.g_l_roll hr (by decide) (takes_of rfl rfl rfl rfl) hK hM hC (i_acons (i_var 0) (i_acons (i_var 1) i_anil)))) nd)
    (s_cons (s_set 4 (i_add hK i_int (i_callG G_l_roll T.g_l_roll hr (by decide) (takes_of rfl rfl rfl rfl) hK hM hC (i_acons (i_var 0) (i_acons (i_var 2) i_anil)))) nd)
    (s_cons (s_set 5 (i_lst i_anil) nd)
    (s_cons (s_set 6 (i_callG G_l_roll T.g_l_roll hr (by decide) (takes_of rfl rfl rfl rfl) hK hM hC (i_acons (i_var 0) (i_acons i_int i_anil))) nd)
    (s_cons (s_set 7 (i_mul (i_lc putF_ok (own := [("_law_k", 8)]) rfl nd hK (tgN_ok _ 8) (by decide) (x_rng1 T.n_range (i_acons (i_var 3) i_anil)) (blkOk_by (own := [("_law_k", 8)]) (N := ["_law_dice_here", "_law_most", "_law_pieces", "_law_hands", "_law_many", "_law_ties_here", "_law_sort", "_law_pairs", "_law_k", "_law_one", "_law_other", "_law_letters"]) (sc := defScope (top 27)) (by decide +kernel)) (fun _ _ _ _ _ => (pg_name (i := 8) nd rfl (by first | exact Or.inl rfl | exact Or.inr rfl))) (fun _ _ _ _ _ => ifs_nil) (fun _ _ _ _ _ => (i_tup (i_acons (i_var 8) (i_acons (i_mod (i_add hK (i_var 8) i_int) (i_var 3)) i_anil))))) (i_callTy call_int1 o_int T.n_int (by decide +kernel) (i_acons (i_and (i_eq hr hK (i_var 6) i_int) (i_one (i_gt (i_var 3) i_int))) i_anil))) nd)
    (s_cons (s_for (passes_of rfl) rfl hK (j_rng1 T.n_range (i_acons (i_callG G_l_roll T.g_l_roll hr (by decide) (takes_of rfl rfl rfl rfl) hK hM hC (i_acons (i_var 0) (i_acons i_int i_anil))) i_anil)) (pg_name (i := 8) nd rfl (by first | exact Or.inl rfl | exact Or.inr rfl)) (tgN_ok _ 8)
    (s_cons (s_set 9 (i_callG G_l_roll T.g_l_roll hr (by decide) (takes_of rfl rfl rfl rfl) hK hM hC (i_acons (i_var 0) (i_acons (i_var 3) i_anil))) nd)
    (s_cons (s_set 10 (i_callG G_l_roll T.g_l_roll hr (by decide) (takes_of rfl rfl rfl rfl) hK hM hC (i_acons (i_var 0) (i_acons (i_var 3) i_anil))) nd)
    (s_cons (s_if (t_ne hr hK (i_var 9) (i_var 10))
    (s_cons (s_app putF_ok 7 (i_tup (i_acons (i_var 9) (i_acons (i_var 10) i_anil))))
    s_nil)
    s_nil)
    s_nil))))
    (s_cons (s_for (passes_of rfl) rfl hK (j_rng1 T.n_range (i_acons (i_len hK T.n_len (i_acons (i_var 7) i_anil)) i_anil)) (pg_name (i := 8) nd rfl (by first | exact Or.inl rfl | exact Or.inr rfl)) (tgN_ok _ 8)
    (s_cons (s_set 11 (i_add hK i_int (i_at hK (i_lst (i_acons i_int (i_acons (i_callG G_l_roll T.g_l_roll hr (by decide) (takes_of rfl rfl rfl rfl) hK hM hC (i_acons (i_var 0) (i_acons i_int i_anil))) (i_acons (i_callG G_l_roll T.g_l_roll hr (by decide) (takes_of rfl rfl rfl rfl) hK hM hC (i_acons (i_var 0) (i_acons i_int i_anil))) i_anil)))) (i_callG G_l_roll T.g_l_roll hr (by decide) (takes_of rfl rfl rfl rfl) hK hM hC (i_acons (i_var 0) (i_acons i_int i_anil))))) nd)
    (s_cons (s_if (PW.pt (w_and (t_notIn hr hK (i_at hK (i_var 7) (i_var 8)) (i_cut hK (i_var 7) i_onone (i_osome (i_var 8)))) (w_and1 (t_lt (i_len hK T.n_len (i_acons (i_var 5) i_anil)) i_int))))
    (s_cons (s_app putF_ok 5 (i_add hK (i_at hK (i_var 7) (i_var 8)) (i_tup (i_acons (i_var 11) i_anil))))
    s_nil)
    s_nil)
    s_nil)))
    (s_cons (s_ret (i_tup (i_acons (i_var 3) (i_acons (i_var 4) (i_acons (i_callTy call_tuple_of (o_tuple hK) T.n_tuple (by decide +kernel) (i_acons (i_var 5) i_anil)) i_anil)))))
    s_nil))))))))
theorem sc_l_some : FnScope ["_law_script", "_law_sizes", "_law_dice_here", "_law_most", "_law_pieces", "_law_deal_here"] ["_law_script", "_law_sizes"] (defScope (top 29)) := ⟨rfl, rfl, rfl, by decide +kernel, rfl, by decide +kernel, by decide +kernel⟩
theorem ok_l_some (T : Txt K mg A tk) (G_l_holding : Good P w K mg base (clsF A) 2 (A 28) ["_law_dice_here", "_law_deal_here"] f_l_holding) (G_l_deal : Good P w K mg base (clsF A) 2 (A 27) ["_law_dice_here", "_law_most", "_law_pieces"] f_l_deal) (G_l_cell_at : Good P w K mg base (clsF A) 1 (A 23) ["_law_script", "_law_k"] f_l_cell_at) (G_l_dice : Good P w K mg base (clsF A) 1 (A 24) ["_law_cell"] f_l_dice) : Good P w K mg base (clsF A) 3 (A 29) ["_law_script", "_law_sizes"] f_l_some := by
  have nd : (["_law_script", "_law_sizes", "_law_dice_here", "_law_most", "_law_pieces", "_law_deal_here"] : List Str).Nodup := sc_l_some.nd
  unfold f_l_some
  refine good_of (cls := clsF A) (N := ["_law_script", "_law_sizes", "_law_dice_here", "_law_most", "_law_pieces", "_law_deal_here"]) (n := 2) (m := 4) T.h_l_some sc_l_some rfl rfl (fun cdv A' outer s H E G hr hK hM hC => ?_)
  exact (s_cons (s_setR 2 (i_callG G_l_dice T.g_l_dice hr (by decide) (takes_of rfl rfl rfl rfl) hK hM hC (i_acons (i_callG G_l_cell_at T.g_l_cell_at hr (by decide) (takes_of rfl rfl rfl rfl) hK hM hC (i_acons (i_var 0) (i_acons i_int i_anil))) i_anil)) nd)
    (s_cons (s_tgt (pg_tup (t := gNames [3, 4]) (n := 2) rfl (pgs_cons (pg_name (i := 3) nd rfl (by first | exact Or.inl rfl | exact Or.inr rfl)) (pgs_cons (pg_name (i := 4) nd rfl (by first | exact Or.inl rfl | exact Or.inr rfl)) pgs_nil))) (tgT_ok _ [3, 4] rfl) hK (i_at hK (i_var 1) (i_mod (i_callG G_l_cell_at T.g_l_cell_at hr (by decide) (takes_of rfl rfl rfl rfl) hK hM hC (i_acons (i_var 0) (i_acons i_int i_anil))) (i_len hK T.n_len (i_acons (i_var 1) i_anil)))))
    (s_cons (s_set 5 (i_callG G_l_deal T.g_l_deal hr (by decide) (takes_of rfl rfl rfl rfl) hK hM hC (i_acons (i_var 2) (i_acons (i_var 3) (i_acons (i_var 4) i_anil)))) nd)
    (s_cons (s_ret (i_tup (i_acons (i_var 5) (i_acons (i_callG G_l_holding T.g_l_holding hr (by decide) (takes_of rfl rfl rfl rfl) hK hM hC (i_acons (i_var 2) (i_acons (i_var 5) i_anil))) i_anil))))
    s_nil))))
theorem sc_l_word : FnScope ["_law_work", "e", "_law_kinds"] ["_law_work"] (defScope (top 30)) := ⟨rfl, rfl, rfl, by decide +kernel, rfl, by decide +kernel, by decide +kernel⟩
theorem okT_l_word (T : Txt K mg A tk)  : GoodT P w K mg base (clsF A) 5 (A 30) "_law_word" M_l_word b_l_word := by
  have nd : (["_law_work", "e", "_law_kinds"] : List Str).Nodup := sc_l_word.nd
  obtain ⟨fd, F1, hB⟩ := T.h_l_word
  refine ⟨_, fd, ["_law_work", "e", "_law_kinds"], "_law_work", F1, hB, sc_l_word, rfl, by decide, by decide, fun th cdv A' outer s H E G hr hK hM hC act => ?_⟩
  exact (s_cons (s_try 1 (takes_of rfl rfl rfl rfl) rfl rfl nd T.e_DealError (by rw [hC]; exact lk_exm T.ct_DealError) (fun W' pn xe tk pa => (s_cons (s_ret (act _ _ _ _ _ tk))
    s_nil))
    (fun a oe cls d pn hz hf => (s_cons (s_set 2 (i_lst (i_acons (i_isX 1 hz hf hK hM T.n_isinstance (by rw [hC]; exact lk_exc T.exs) (by rw [hC]; exact kit_tab T.kits) (i_glob (v := .ref (A 2)) rfl T.e_BadDeal rfl (fun _ _ _ => ⟨_, by rw [hM]; exact T.e_BadDeal, rfl⟩))) (i_acons (i_isX 1 hz hf hK hM T.n_isinstance (by rw [hC]; exact lk_exc T.exs) (by rw [hC]; exact kit_tab T.kits) (i_glob (v := .ref (A 3)) rfl T.e_BadHolding rfl (fun _ _ _ => ⟨_, by rw [hM]; exact T.e_BadHolding, rfl⟩))) i_anil))) nd)
    (s_cons (s_if (PW.pt (w_or (t_val (i_isX 1 hz hf hK hM T.n_isinstance (by rw [hC]; exact lk_exc T.exs) (by rw [hC]; exact kit_tab T.kits) (i_tup (i_acons (i_glob (v := .ref (A 4)) rfl T.e_BadRound rfl (fun _ _ _ => ⟨_, by rw [hM]; exact T.e_BadRound, rfl⟩)) (i_acons (i_glob (v := .ref (A 6)) rfl T.e_BadText rfl (fun _ _ _ => ⟨_, by rw [hM]; exact T.e_BadText, rfl⟩)) (i_acons (i_glob (v := .ref (A 5)) rfl T.e_NoDeal rfl (fun _ _ _ => ⟨_, by rw [hM]; exact T.e_NoDeal, rfl⟩)) i_anil)))))) (w_or (t_neU (hu2 hr rfl) hK (i_lcount (i_var 2) i_bl) i_int) (w_or1 (t_not (t_val (i_isT (T := "ValueError") 1 hz hf T.n_isinstance T.n_ValueError (by decide +kernel) (by rw [hC]; exact lk_exc T.exs) (by rw [hC]; exact lk_ty T.ves))))))))
    (s_cons (s_ret i_str)
    s_nil)
    s_nil)
    (s_cons (s_ret (i_at hK (i_lst (i_acons i_str (i_acons i_str i_anil))) (i_lindex (i_var 2) i_bl)))
    s_nil)))))
    s_nil)
theorem sc_p_law : FnScope ["_law_script", "_law_deal_here", "_law_holding_here", "_law_dice_here", "_law_hand", "_law_turn", "_law_ties_here", "_law_pieces", "_law_due", "_law_far", "_law_odd", "_law_bad", "_law_piece", "_law_tie"] ["_law_script"] (defScope (top 34)) := ⟨rfl, rfl, rfl, by decide +kernel, rfl, by decide +kernel, by decide +kernel⟩
theorem ok_p_law {fa Pt c : Addr} {oc kV dc pm ct : Value} {od an : Option Addr} {sl : Array (Option Value)} (lk : K.lookup fa = some ⟨oc, od, .func (PySem.W.fnOf "law" "law" (defArgs (top 34)) (defBody (top 34)) (defScope (top 34)) .none kV dc pm an (.ref c) ct), sl⟩) (hcd : PySem.W.codeIn K (.ref c) "law" = true) (TB : LamX.TabB base mg c Pt) (T : Txt K mg A tk) (G_p_comes : Good P w K mg base (clsF A) 4 (A 21) ["deal", "holding", "pieces", "ties"] f_p_comes) (G_l_roll : Good P w K mg base (clsF A) 1 (A 25) ["_law_dice_here", "_law_most"] f_l_roll) (G_l_more : Good P w K mg base (clsF A) 1 (A 33) ["_law_deal_here", "_law_holding_here", "_law_pieces", "_law_ties_here"] f_l_more) (G_l_ties : Good P w K mg base (clsF A) 2 (A 32) ["_law_dice_here", "_law_deal_here"] f_l_ties) (G_p_leaves : Good P w K mg base (clsF A) 4 (A 20) ["deal", "holding", "hand"] f_p_leaves) (G_l_less : Good P w K mg base (clsF A) 1 (A 31) ["_law_deal_here", "_law_holding_here", "_law_hand"] f_l_less) (G_l_dice : Good P w K mg base (clsF A) 1 (A 24) ["_law_cell"] f_l_dice) (G_l_cell_at : Good P w K mg base (clsF A) 1 (A 23) ["_law_script", "_law_k"] f_l_cell_at) (G_l_some : Good P w K mg base (clsF A) 3 (A 29) ["_law_script", "_law_sizes"] f_l_some) (GT_l_word : GoodT P w K mg base (clsF A) 5 (A 30) "_law_word" M_l_word b_l_word) : FnOk P w K mg base (L2.CX P w) 7 fa (PySem.W.fnOf "law" "law" (defArgs (top 34)) (defBody (top 34)) (defScope (top 34)) .none kV dc pm an (.ref c) ct) ["_law_script"] (spOfT K mg (clsF A) Pt f_p_law) := by
  have nd : (["_law_script", "_law_deal_here", "_law_holding_here", "_law_dice_here", "_law_hand", "_law_turn", "_law_ties_here", "_law_pieces", "_law_due", "_law_far", "_law_odd", "_law_bad", "_law_piece", "_law_tie"] : List Str).Nodup := sc_p_law.nd
  unfold f_p_law
  refine fn_okT (cls := clsF A) (N := ["_law_script", "_law_deal_here", "_law_holding_here", "_law_dice_here", "_law_hand", "_law_turn", "_law_ties_here", "_law_pieces", "_law_due", "_law_far", "_law_odd", "_law_bad", "_law_piece", "_law_tie"]) (n := 1) (m := 13) lk hcd sc_p_law rfl rfl (fun A' outer s H E G hr hK hM hC hG0 => ?_)
  exact (s_cons (s_tgt (pg_tup (t := gNames [1, 2]) (n := 2) rfl (pgs_cons (pg_name (i := 1) nd rfl (by first | exact Or.inl rfl | exact Or.inr rfl)) (pgs_cons (pg_name (i := 2) nd rfl (by first | exact Or.inl rfl | exact Or.inr rfl)) pgs_nil))) (tgT_ok _ [1, 2] rfl) hK (i_callG G_l_some T.g_l_some hr (by decide) (takes_of rfl rfl rfl rfl) hK hM hC (i_acons (i_var 0) (i_acons (i_lst (i_acons (i_tup (i_acons i_int (i_acons i_int i_anil))) (i_acons (i_tup (i_acons i_int (i_acons i_int i_anil))) i_anil))) i_anil))))
    (s_cons (s_setR 3 (i_callG G_l_dice T.g_l_dice hr (by decide) (takes_of rfl rfl rfl rfl) hK hM hC (i_acons (i_callG G_l_cell_at T.g_l_cell_at hr (by decide) (takes_of rfl rfl rfl rfl) hK hM hC (i_acons (i_var 0) (i_acons i_int i_anil))) i_anil)) nd)
    (s_cons (s_for (passes_of rfl) rfl hK (j_rng1 T.n_range (i_acons (i_at hK (i_var 1) i_int) i_anil)) (pg_name (i := 4) nd rfl (by first | exact Or.inl rfl | exact Or.inr rfl)) (tgN_ok _ 4)
    (s_cons (s_if (t_ne hr hK (i_lam (kl := KL_l_word) GT_l_word T.g_l_word hr (by decide) (by decide) (takes_of rfl rfl rfl rfl) hK hM hC TB rfl (by rw [hG0]; rfl) rfl (LamX.lamS_by (sc := defScope (top 34)) (by decide +kernel)) rfl (fun _ _ _ _ _ => rfl) (fun A' outer s H E f c' hr => (i_callG G_p_leaves T.g_p_leaves hr (by decide) (takes_of rfl rfl rfl rfl) hK hM hC (i_acons (i_var 1) (i_acons (i_var 2) (i_acons (i_var 4) i_anil)))))) (i_callG G_l_less T.g_l_less hr (by decide) (takes_of rfl rfl rfl rfl) hK hM hC (i_acons (i_var 1) (i_acons (i_var 2) (i_acons (i_var 4) i_anil)))))
    (s_cons (s_ret i_bl)
    s_nil)
    s_nil)
    s_nil))
    (s_cons (s_for (passes_of rfl) rfl hK (j_rng1 T.n_range (i_acons i_int i_anil)) (pg_name (i := 5) nd rfl (by first | exact Or.inl rfl | exact Or.inr rfl)) (tgN_ok _ 5)
    (s_cons (s_set 6 (i_callG G_l_ties T.g_l_ties hr (by decide) (takes_of rfl rfl rfl rfl) hK hM hC (i_acons (i_var 3) (i_acons (i_var 1) i_anil))) nd)
    (s_cons (s_set 7 (i_callTy call_tuple_of (o_tuple hK) T.n_tuple (by decide +kernel) (i_acons (i_lc putF_ok (own := [("_law_piece", 12)]) rfl nd hK (tgN_ok _ 12) (by decide) (x_rng1 T.n_range (i_acons (i_at hK (i_var 1) i_int) i_anil)) (blkOk_by (own := [("_law_piece", 12)]) (N := ["_law_script", "_law_deal_here", "_law_holding_here", "_law_dice_here", "_law_hand", "_law_turn", "_law_ties_here", "_law_pieces", "_law_due", "_law_far", "_law_odd", "_law_bad", "_law_piece", "_law_tie"]) (sc := defScope (top 34)) (by decide +kernel)) (fun _ _ _ _ _ => (pg_name (i := 12) nd rfl (by first | exact Or.inl rfl | exact Or.inr rfl))) (fun _ _ _ _ _ => (ifs_one (t_eq hr hK (i_callG G_l_roll T.g_l_roll hr (by decide) takes0 hK hM hC (i_acons (i_var 3) (i_acons i_int i_anil))) i_int))) (fun _ _ _ _ _ => (i_var 12))) i_anil)) nd)
    (s_cons (s_set 8 (i_callG G_l_more T.g_l_more hr (by decide) (takes_of rfl rfl rfl rfl) hK hM hC (i_acons (i_var 1) (i_acons (i_var 2) (i_acons (i_var 7) (i_acons (i_var 6) i_anil))))) nd)
    (s_cons (s_if (t_ne hr hK (i_lam (kl := KL_l_word) GT_l_word T.g_l_word hr (by decide) (by decide) (takes_of rfl rfl rfl rfl) hK hM hC TB rfl (by rw [hG0]; rfl) rfl (LamX.lamS_by (sc := defScope (top 34)) (by decide +kernel)) rfl (fun _ _ _ _ _ => rfl) (fun A' outer s H E f c' hr => (i_callG G_p_comes T.g_p_comes hr (by decide) (takes_of rfl rfl rfl rfl) hK hM hC (i_acons (i_var 1) (i_acons (i_var 2) (i_acons (i_var 7) (i_acons (i_var 6) i_anil))))))) (i_var 8))
    (s_cons (s_ret i_bl)
    s_nil)
    s_nil)
    (s_cons (s_set 9 (i_add hK (i_add hK (i_at hK (i_var 1) i_int) i_int) (i_callG G_l_roll T.g_l_roll hr (by decide) (takes_of rfl rfl rfl rfl) hK hM hC (i_acons (i_var 3) (i_acons i_int i_anil)))) nd)
    (s_cons (s_set 10 (i_lst (i_acons (i_tup (i_acons (i_tup (i_acons (i_at hK (i_var 1) i_int) (i_acons (i_var 9) (i_acons i_int i_anil)))) i_anil)) (i_acons (i_tup (i_acons (i_tup (i_acons (i_var 9) (i_acons i_int (i_acons i_int i_anil)))) i_anil)) (i_acons (i_tup (i_acons (i_tup (i_acons (i_at hK (i_var 1) i_int) (i_acons i_int (i_acons i_int i_anil)))) i_anil)) i_anil)))) nd)
    (s_cons (s_set 10 (i_add hK (i_add hK (i_var 10) (i_lst (i_acons (i_mulT hK (i_tup (i_acons (i_tup (i_acons (i_at hK (i_var 1) i_int) (i_acons i_int (i_acons i_int i_anil)))) i_anil)) i_int) (i_acons (i_lst (i_acons (i_tup (i_acons (i_at hK (i_var 1) i_int) (i_acons i_int (i_acons i_int i_anil)))) i_anil)) (i_acons i_non i_anil))))) (i_lc putF_ok (own := [("_law_tie", 13)]) rfl nd hK (tgN_ok _ 13) (by decide) (x_seq hK (i_cut hK (i_at hK (i_var 1) i_int) i_onone (i_osome i_int))) (blkOk_by (own := [("_law_tie", 13)]) (N := ["_law_script", "_law_deal_here", "_law_holding_here", "_law_dice_here", "_law_hand", "_law_turn", "_law_ties_here", "_law_pieces", "_law_due", "_law_far", "_law_odd", "_law_bad", "_law_piece", "_law_tie"]) (sc := defScope (top 34)) (by decide +kernel)) (fun _ _ _ _ _ => (pg_name (i := 13) nd rfl (by first | exact Or.inl rfl | exact Or.inr rfl))) (fun _ _ _ _ _ => ifs_nil) (fun _ _ _ _ _ => (i_tup (i_acons (i_add hK (i_cut hK (i_var 13) i_onone (i_osome i_int)) (i_tup (i_acons i_int i_anil))) i_anil))))) nd)
    (s_cons (s_if (t_ne hr hK (i_lam (kl := KL_l_word) GT_l_word T.g_l_word hr (by decide) (by decide) (takes_of rfl rfl rfl rfl) hK hM hC TB rfl (by rw [hG0]; rfl) rfl (LamX.lamS_by (sc := defScope (top 34)) (by decide +kernel)) rfl (fun _ _ _ _ _ => rfl) (fun A' outer s H E f c' hr => (i_callG G_p_comes T.g_p_comes hr (by decide) (takes_of rfl rfl rfl rfl) hK hM hC (i_acons (i_var 1) (i_acons (i_var 2) (i_acons (i_var 7) (i_acons (i_at hK (i_var 10) (i_callG G_l_roll T.g_l_roll hr (by decide) (takes_of rfl rfl rfl rfl) hK hM hC (i_acons (i_var 3) (i_acons (i_len hK T.n_len (i_acons (i_var 10) i_anil)) i_anil)))) i_anil))))))) i_str)
    (s_cons (s_ret i_bl)
    s_nil)
    s_nil)
    (s_cons (s_set 11 (i_at hK (i_lst (i_acons (i_tup (i_acons (i_at hK (i_var 1) i_int) i_anil)) (i_acons (i_lst (i_acons i_int i_anil)) (i_acons i_non (i_acons (i_tup (i_acons i_int (i_acons i_int i_anil))) (i_acons (i_tup (i_acons (i_neg i_int) i_anil)) i_anil)))))) (i_callG G_l_roll T.g_l_roll hr (by decide) (takes_of rfl rfl rfl rfl) hK hM hC (i_acons (i_var 3) (i_acons i_int i_anil)))) nd)
    (s_cons (s_if (PW.pt (w_and (t_ne hr hK (i_var 8) i_str) (w_and1 (t_ne hr hK (i_lam (kl := KL_l_word) GT_l_word T.g_l_word hr (by decide) (by decide) (takes_of rfl rfl rfl rfl) hK hM hC TB rfl (by rw [hG0]; rfl) rfl (LamX.lamS_by (sc := defScope (top 34)) (by decide +kernel)) rfl (fun _ _ _ _ _ => rfl) (fun A' outer s H E f c' hr => (i_callG G_p_comes T.g_p_comes hr (by decide) (takes_of rfl rfl rfl rfl) hK hM hC (i_acons (i_var 1) (i_acons (i_var 2) (i_acons (i_var 11) (i_acons (i_var 6) i_anil))))))) i_str))))
    (s_cons (s_ret i_bl)
    s_nil)
    s_nil)
    s_nil)))))))))))
    (s_cons (s_ret i_bl)
    s_nil)))))
theorem ok_all {fa Pt c : Addr} {oc kV dc pm ct : Value} {od an : Option Addr} {sl : Array (Option Value)} (lk : K.lookup fa = some ⟨oc, od, .func (PySem.W.fnOf "law" "law" (defArgs (top 34)) (defBody (top 34)) (defScope (top 34)) .none kV dc pm an (.ref c) ct), sl⟩) (hcd : PySem.W.codeIn K (.ref c) "law" = true) (TB : LamX.TabB base mg c Pt) (T : Txt K mg A tk) : FnOk P w K mg base (L2.CX P w) 7 fa (PySem.W.fnOf "law" "law" (defArgs (top 34)) (defBody (top 34)) (defScope (top 34)) .none kV dc pm an (.ref c) ct) ["_law_script"] (spOfT K mg (clsF A) Pt f_p_law) := by
  have G_p_is_number : Good P w K mg base (clsF A) 1 (A 13) ["thing", "least", "most"] f_p_is_number := ok_p_is_number T 
  have G_p_is_rising : Good P w K mg base (clsF A) 2 (A 16) ["row", "most"] f_p_is_rising := ok_p_is_rising T G_p_is_number
  have G_p_must : Good P w K mg base (clsF A) 1 (A 14) ["good"] f_p_must := ok_p_must T 
  have G_p_need_deal : Good P w K mg base (clsF A) 2 (A 15) ["deal"] f_p_need_deal := ok_p_need_deal T G_p_must G_p_is_number
  have G_p_need_holding : Good P w K mg base (clsF A) 3 (A 17) ["deal", "holding"] f_p_need_holding := ok_p_need_holding T G_p_is_rising G_p_need_deal
  have G_p_comes : Good P w K mg base (clsF A) 4 (A 21) ["deal", "holding", "pieces", "ties"] f_p_comes := ok_p_comes T G_p_need_holding
  have G_l_roll : Good P w K mg base (clsF A) 1 (A 25) ["_law_dice_here", "_law_most"] f_l_roll := ok_l_roll T 
  have G_l_more : Good P w K mg base (clsF A) 1 (A 33) ["_law_deal_here", "_law_holding_here", "_law_pieces", "_law_ties_here"] f_l_more := ok_l_more T 
  have G_l_ties : Good P w K mg base (clsF A) 2 (A 32) ["_law_dice_here", "_law_deal_here"] f_l_ties := ok_l_ties T G_l_roll
  have G_p_less : Good P w K mg base (clsF A) 1 (A 19) ["number", "hand"] f_p_less := ok_p_less T 
  have G_p_leaves : Good P w K mg base (clsF A) 4 (A 20) ["deal", "holding", "hand"] f_p_leaves := ok_p_leaves T G_p_need_holding G_p_less
  have G_l_less : Good P w K mg base (clsF A) 1 (A 31) ["_law_deal_here", "_law_holding_here", "_law_hand"] f_l_less := ok_l_less T 
  have G_l_dice : Good P w K mg base (clsF A) 1 (A 24) ["_law_cell"] f_l_dice := ok_l_dice T 
  have G_l_cell_at : Good P w K mg base (clsF A) 1 (A 23) ["_law_script", "_law_k"] f_l_cell_at := ok_l_cell_at T 
  have G_l_holding : Good P w K mg base (clsF A) 2 (A 28) ["_law_dice_here", "_law_deal_here"] f_l_holding := ok_l_holding T G_l_roll
  have G_l_deal : Good P w K mg base (clsF A) 2 (A 27) ["_law_dice_here", "_law_most", "_law_pieces"] f_l_deal := ok_l_deal T G_l_roll
  have G_l_some : Good P w K mg base (clsF A) 3 (A 29) ["_law_script", "_law_sizes"] f_l_some := ok_l_some T G_l_holding G_l_deal G_l_cell_at G_l_dice
  have GT_l_word : GoodT P w K mg base (clsF A) 5 (A 30) "_law_word" M_l_word b_l_word := okT_l_word T 
  exact ok_p_law lk hcd TB T G_p_comes G_l_roll G_l_more G_l_ties G_p_leaves G_l_less G_l_dice G_l_cell_at G_l_some GT_l_word
end
end PT

namespace PT
open PySem PySem.Spec PyProof.Rows L2 PD
def pick {α : Type} (d : α) : List (Nat × α) → Nat → α
  | [], _ => d
  | (i, x) :: r, n => if i = n then x else pick d r n
theorem all_mk {l : PySem.W.OpenLaw} {w : World} {K : PySem.W.Frag} {h : Heap} {mg : Str → Option Value} {fa : Addr} (X : K.In h) (G : h.Ns mainGlobals mg) (hfa : mg "law" = some (.ref fa))
    {f13 : Addr} {od13 an13 : Option Addr} {sl13 : Array (Option Value)} {oc13 kV13 dc13 pm13 cd13 ct13 : Value}
    {f16 : Addr} {od16 an16 : Option Addr} {sl16 : Array (Option Value)} {oc16 kV16 dc16 pm16 cd16 ct16 : Value}
    {f14 : Addr} {od14 an14 : Option Addr} {sl14 : Array (Option Value)} {oc14 kV14 dc14 pm14 cd14 ct14 : Value}
    {f15 : Addr} {od15 an15 : Option Addr} {sl15 : Array (Option Value)} {oc15 kV15 dc15 pm15 cd15 ct15 : Value}
    {f17 : Addr} {od17 an17 : Option Addr} {sl17 : Array (Option Value)} {oc17 kV17 dc17 pm17 cd17 ct17 : Value}
    {f21 : Addr} {od21 an21 : Option Addr} {sl21 : Array (Option Value)} {oc21 kV21 dc21 pm21 cd21 ct21 : Value}
    {f25 : Addr} {od25 an25 : Option Addr} {sl25 : Array (Option Value)} {oc25 kV25 dc25 pm25 cd25 ct25 : Value}
    {f33 : Addr} {od33 an33 : Option Addr} {sl33 : Array (Option Value)} {oc33 kV33 dc33 pm33 cd33 ct33 : Value}
    {f32 : Addr} {od32 an32 : Option Addr} {sl32 : Array (Option Value)} {oc32 kV32 dc32 pm32 cd32 ct32 : Value}
    {f19 : Addr} {od19 an19 : Option Addr} {sl19 : Array (Option Value)} {oc19 kV19 dc19 pm19 cd19 ct19 : Value}
    {f20 : Addr} {od20 an20 : Option Addr} {sl20 : Array (Option Value)} {oc20 kV20 dc20 pm20 cd20 ct20 : Value}
    {f31 : Addr} {od31 an31 : Option Addr} {sl31 : Array (Option Value)} {oc31 kV31 dc31 pm31 cd31 ct31 : Value}
    {f24 : Addr} {od24 an24 : Option Addr} {sl24 : Array (Option Value)} {oc24 kV24 dc24 pm24 cd24 ct24 : Value}
    {f23 : Addr} {od23 an23 : Option Addr} {sl23 : Array (Option Value)} {oc23 kV23 dc23 pm23 cd23 ct23 : Value}
    {f28 : Addr} {od28 an28 : Option Addr} {sl28 : Array (Option Value)} {oc28 kV28 dc28 pm28 cd28 ct28 : Value}
    {f27 : Addr} {od27 an27 : Option Addr} {sl27 : Array (Option Value)} {oc27 kV27 dc27 pm27 cd27 ct27 : Value}
    {f29 : Addr} {od29 an29 : Option Addr} {sl29 : Array (Option Value)} {oc29 kV29 dc29 pm29 cd29 ct29 : Value}
    {f30 : Addr} {od30 an30 : Option Addr} {sl30 : Array (Option Value)} {oc30 kV30 dc30 pm30 cd30 ct30 : Value}
    {f34 : Addr} {od34 an34 : Option Addr} {sl34 : Array (Option Value)} {oc34 kV34 dc34 pm34 cd34 ct34 : Value}
    {C1 : Addr}
    {C2 : Addr}
    {C3 : Addr}
    {C4 : Addr}
    {C5 : Addr}
    {C6 : Addr}
    {t_HANDS : Tok}
    {t_MOST : Tok}
    {t_MOST_TIES : Tok}
    {t_PIECES : Tok}
    {t_TIES : Tok}
    {cL Pt : Addr}
    (hT : h.get? Pt = some { cls := .none, data := .fields #[] })
    (a13 : PySem.W.nsIn K mainGlobals "is_number" = some (some (.ref f13)))
    (l13 : K.lookup f13 = some ⟨oc13, od13, .func (PySem.W.fnOf "is_number" "is_number" (defArgs (top 13)) (defBody (top 13)) (defScope (top 13)) .none kV13 dc13 pm13 an13 cd13 ct13), sl13⟩)
    (c13 : PySem.W.codeIn K cd13 "is_number" = true) (k13 : PySem.W.keepIn K (.ref f13) = true)
    (a16 : PySem.W.nsIn K mainGlobals "is_rising" = some (some (.ref f16)))
    (l16 : K.lookup f16 = some ⟨oc16, od16, .func (PySem.W.fnOf "is_rising" "is_rising" (defArgs (top 16)) (defBody (top 16)) (defScope (top 16)) .none kV16 dc16 pm16 an16 cd16 ct16), sl16⟩)
    (c16 : PySem.W.codeIn K cd16 "is_rising" = true) (k16 : PySem.W.keepIn K (.ref f16) = true)
    (a14 : PySem.W.nsIn K mainGlobals "must" = some (some (.ref f14)))
    (l14 : K.lookup f14 = some ⟨oc14, od14, .func (PySem.W.fnOf "must" "must" (defArgs (top 14)) (defBody (top 14)) (defScope (top 14)) .none kV14 dc14 pm14 an14 cd14 ct14), sl14⟩)
    (c14 : PySem.W.codeIn K cd14 "must" = true) (k14 : PySem.W.keepIn K (.ref f14) = true)
    (a15 : PySem.W.nsIn K mainGlobals "need_deal" = some (some (.ref f15)))
    (l15 : K.lookup f15 = some ⟨oc15, od15, .func (PySem.W.fnOf "need_deal" "need_deal" (defArgs (top 15)) (defBody (top 15)) (defScope (top 15)) .none kV15 dc15 pm15 an15 cd15 ct15), sl15⟩)
    (c15 : PySem.W.codeIn K cd15 "need_deal" = true) (k15 : PySem.W.keepIn K (.ref f15) = true)
    (a17 : PySem.W.nsIn K mainGlobals "need_holding" = some (some (.ref f17)))
    (l17 : K.lookup f17 = some ⟨oc17, od17, .func (PySem.W.fnOf "need_holding" "need_holding" (defArgs (top 17)) (defBody (top 17)) (defScope (top 17)) .none kV17 dc17 pm17 an17 cd17 ct17), sl17⟩)
    (c17 : PySem.W.codeIn K cd17 "need_holding" = true) (k17 : PySem.W.keepIn K (.ref f17) = true)
    (a21 : PySem.W.nsIn K mainGlobals "comes" = some (some (.ref f21)))
    (l21 : K.lookup f21 = some ⟨oc21, od21, .func (PySem.W.fnOf "comes" "comes" (defArgs (top 21)) (defBody (top 21)) (defScope (top 21)) .none kV21 dc21 pm21 an21 cd21 ct21), sl21⟩)
    (c21 : PySem.W.codeIn K cd21 "comes" = true) (k21 : PySem.W.keepIn K (.ref f21) = true)
    (a25 : PySem.W.nsIn K mainGlobals "_law_roll" = some (some (.ref f25)))
    (l25 : K.lookup f25 = some ⟨oc25, od25, .func (PySem.W.fnOf "_law_roll" "_law_roll" (defArgs (top 25)) (defBody (top 25)) (defScope (top 25)) .none kV25 dc25 pm25 an25 cd25 ct25), sl25⟩)
    (c25 : PySem.W.codeIn K cd25 "_law_roll" = true) (k25 : PySem.W.keepIn K (.ref f25) = true)
    (a33 : PySem.W.nsIn K mainGlobals "_law_more" = some (some (.ref f33)))
    (l33 : K.lookup f33 = some ⟨oc33, od33, .func (PySem.W.fnOf "_law_more" "_law_more" (defArgs (top 33)) (defBody (top 33)) (defScope (top 33)) .none kV33 dc33 pm33 an33 cd33 ct33), sl33⟩)
    (c33 : PySem.W.codeIn K cd33 "_law_more" = true) (k33 : PySem.W.keepIn K (.ref f33) = true)
    (a32 : PySem.W.nsIn K mainGlobals "_law_ties" = some (some (.ref f32)))
    (l32 : K.lookup f32 = some ⟨oc32, od32, .func (PySem.W.fnOf "_law_ties" "_law_ties" (defArgs (top 32)) (defBody (top 32)) (defScope (top 32)) .none kV32 dc32 pm32 an32 cd32 ct32), sl32⟩)
    (c32 : PySem.W.codeIn K cd32 "_law_ties" = true) (k32 : PySem.W.keepIn K (.ref f32) = true)
    (a19 : PySem.W.nsIn K mainGlobals "less" = some (some (.ref f19)))
    (l19 : K.lookup f19 = some ⟨oc19, od19, .func (PySem.W.fnOf "less" "less" (defArgs (top 19)) (defBody (top 19)) (defScope (top 19)) .none kV19 dc19 pm19 an19 cd19 ct19), sl19⟩)
    (c19 : PySem.W.codeIn K cd19 "less" = true) (k19 : PySem.W.keepIn K (.ref f19) = true)
    (a20 : PySem.W.nsIn K mainGlobals "leaves" = some (some (.ref f20)))
    (l20 : K.lookup f20 = some ⟨oc20, od20, .func (PySem.W.fnOf "leaves" "leaves" (defArgs (top 20)) (defBody (top 20)) (defScope (top 20)) .none kV20 dc20 pm20 an20 cd20 ct20), sl20⟩)
    (c20 : PySem.W.codeIn K cd20 "leaves" = true) (k20 : PySem.W.keepIn K (.ref f20) = true)
    (a31 : PySem.W.nsIn K mainGlobals "_law_less" = some (some (.ref f31)))
    (l31 : K.lookup f31 = some ⟨oc31, od31, .func (PySem.W.fnOf "_law_less" "_law_less" (defArgs (top 31)) (defBody (top 31)) (defScope (top 31)) .none kV31 dc31 pm31 an31 cd31 ct31), sl31⟩)
    (c31 : PySem.W.codeIn K cd31 "_law_less" = true) (k31 : PySem.W.keepIn K (.ref f31) = true)
    (a24 : PySem.W.nsIn K mainGlobals "_law_dice" = some (some (.ref f24)))
    (l24 : K.lookup f24 = some ⟨oc24, od24, .func (PySem.W.fnOf "_law_dice" "_law_dice" (defArgs (top 24)) (defBody (top 24)) (defScope (top 24)) .none kV24 dc24 pm24 an24 cd24 ct24), sl24⟩)
    (c24 : PySem.W.codeIn K cd24 "_law_dice" = true) (k24 : PySem.W.keepIn K (.ref f24) = true)
    (a23 : PySem.W.nsIn K mainGlobals "_law_cell_at" = some (some (.ref f23)))
    (l23 : K.lookup f23 = some ⟨oc23, od23, .func (PySem.W.fnOf "_law_cell_at" "_law_cell_at" (defArgs (top 23)) (defBody (top 23)) (defScope (top 23)) .none kV23 dc23 pm23 an23 cd23 ct23), sl23⟩)
    (c23 : PySem.W.codeIn K cd23 "_law_cell_at" = true) (k23 : PySem.W.keepIn K (.ref f23) = true)
    (a28 : PySem.W.nsIn K mainGlobals "_law_holding" = some (some (.ref f28)))
    (l28 : K.lookup f28 = some ⟨oc28, od28, .func (PySem.W.fnOf "_law_holding" "_law_holding" (defArgs (top 28)) (defBody (top 28)) (defScope (top 28)) .none kV28 dc28 pm28 an28 cd28 ct28), sl28⟩)
    (c28 : PySem.W.codeIn K cd28 "_law_holding" = true) (k28 : PySem.W.keepIn K (.ref f28) = true)
    (a27 : PySem.W.nsIn K mainGlobals "_law_deal" = some (some (.ref f27)))
    (l27 : K.lookup f27 = some ⟨oc27, od27, .func (PySem.W.fnOf "_law_deal" "_law_deal" (defArgs (top 27)) (defBody (top 27)) (defScope (top 27)) .none kV27 dc27 pm27 an27 cd27 ct27), sl27⟩)
    (c27 : PySem.W.codeIn K cd27 "_law_deal" = true) (k27 : PySem.W.keepIn K (.ref f27) = true)
    (a29 : PySem.W.nsIn K mainGlobals "_law_some" = some (some (.ref f29)))
    (l29 : K.lookup f29 = some ⟨oc29, od29, .func (PySem.W.fnOf "_law_some" "_law_some" (defArgs (top 29)) (defBody (top 29)) (defScope (top 29)) .none kV29 dc29 pm29 an29 cd29 ct29), sl29⟩)
    (c29 : PySem.W.codeIn K cd29 "_law_some" = true) (k29 : PySem.W.keepIn K (.ref f29) = true)
    (a30 : PySem.W.nsIn K mainGlobals "_law_word" = some (some (.ref f30)))
    (l30 : K.lookup f30 = some ⟨oc30, od30, .func (PySem.W.fnOf "_law_word" "_law_word" (defArgs (top 30)) (defBody (top 30)) (defScope (top 30)) .none kV30 dc30 pm30 an30 cd30 ct30), sl30⟩)
    (c30 : PySem.W.codeIn K cd30 "_law_word" = true) (k30 : PySem.W.keepIn K (.ref f30) = true)
    (a34 : PySem.W.nsIn K mainGlobals "law" = some (some (.ref f34)))
    (l34 : K.lookup f34 = some ⟨oc34, od34, .func (PySem.W.fnOf "law" "law" (defArgs (top 34)) (defBody (top 34)) (defScope (top 34)) .none kV34 dc34 pm34 an34 cd34 ct34), sl34⟩)
    (c34 : PySem.W.codeIn K cd34 "law" = true) (k34 : PySem.W.keepIn K (.ref f34) = true)
    (e1 : PySem.W.nsIn K mainGlobals "DealError" = some (some (.ref C1)))
    (bb1 : PySem.W.subIn K (.ref C1) (.type "BaseException") = some true)
    (tt1 : PySem.W.typeIn K (.ref C1) = some (.type "type"))
    (ic1 : PySem.W.isClsIn K C1 = true)
    (e2 : PySem.W.nsIn K mainGlobals "BadDeal" = some (some (.ref C2)))
    (bb2 : PySem.W.subIn K (.ref C2) (.type "BaseException") = some true)
    (tt2 : PySem.W.typeIn K (.ref C2) = some (.type "type"))
    (kp2 : PySem.W.keepIn K (.ref C2) = true)
    (xx2 : PySem.W.excIn K C2 [.type "ValueError", .type "Exception", .type "BaseException", .type "object"] "ValueError.__new__" = true)
    (ic2 : PySem.W.isClsIn K C2 = true)
    (hg2 : PySem.W.findIn K (.ref C2) "__getattribute__" = some (some (.builtin "BaseException.__getattribute__")))
    (hk2 : PySem.W.findIn K (.ref C2) "__getattr__" = some none)
    (hd2 : PySem.W.hasDictIn K C2 = true)
    (ha2 : PySem.W.findIn K (.ref C2) "__class__" = some (some (.builtin "object.__class__")))
    (hm2 : PySem.W.mroIn K C2 (.type "object") = some true)
    (sv2 : PySem.W.subIn K (.ref C2) (.type "ValueError") = some true)
    (ss2 : PySem.W.subIn K (.ref C2) (.ref C2) = some true)
    (e3 : PySem.W.nsIn K mainGlobals "BadHolding" = some (some (.ref C3)))
    (bb3 : PySem.W.subIn K (.ref C3) (.type "BaseException") = some true)
    (tt3 : PySem.W.typeIn K (.ref C3) = some (.type "type"))
    (kp3 : PySem.W.keepIn K (.ref C3) = true)
    (xx3 : PySem.W.excIn K C3 [.type "ValueError", .type "Exception", .type "BaseException", .type "object"] "ValueError.__new__" = true)
    (ic3 : PySem.W.isClsIn K C3 = true)
    (hg3 : PySem.W.findIn K (.ref C3) "__getattribute__" = some (some (.builtin "BaseException.__getattribute__")))
    (hk3 : PySem.W.findIn K (.ref C3) "__getattr__" = some none)
    (hd3 : PySem.W.hasDictIn K C3 = true)
    (ha3 : PySem.W.findIn K (.ref C3) "__class__" = some (some (.builtin "object.__class__")))
    (hm3 : PySem.W.mroIn K C3 (.type "object") = some true)
    (sv3 : PySem.W.subIn K (.ref C3) (.type "ValueError") = some true)
    (ss3 : PySem.W.subIn K (.ref C3) (.ref C3) = some true)
    (e4 : PySem.W.nsIn K mainGlobals "BadRound" = some (some (.ref C4)))
    (bb4 : PySem.W.subIn K (.ref C4) (.type "BaseException") = some true)
    (tt4 : PySem.W.typeIn K (.ref C4) = some (.type "type"))
    (ic4 : PySem.W.isClsIn K C4 = true)
    (e5 : PySem.W.nsIn K mainGlobals "NoDeal" = some (some (.ref C5)))
    (bb5 : PySem.W.subIn K (.ref C5) (.type "BaseException") = some true)
    (tt5 : PySem.W.typeIn K (.ref C5) = some (.type "type"))
    (ic5 : PySem.W.isClsIn K C5 = true)
    (e6 : PySem.W.nsIn K mainGlobals "BadText" = some (some (.ref C6)))
    (bb6 : PySem.W.subIn K (.ref C6) (.type "BaseException") = some true)
    (tt6 : PySem.W.typeIn K (.ref C6) = some (.type "type"))
    (ic6 : PySem.W.isClsIn K C6 = true)
    (hn0 : PySem.W.specialIn K (.builtin "object.__class__") "__get__" = some (some (.builtin "getset_descriptor.__get__")))
    (ht0 : PySem.W.takesIn K (.builtin "object.__class__") = some true)
    (su2_1 : PySem.W.subIn K (.ref C2) (.ref C1) = some true)
    (su2_3 : PySem.W.subIn K (.ref C2) (.ref C3) = some false)
    (su2_4 : PySem.W.subIn K (.ref C2) (.ref C4) = some false)
    (su2_5 : PySem.W.subIn K (.ref C2) (.ref C5) = some false)
    (su2_6 : PySem.W.subIn K (.ref C2) (.ref C6) = some false)
    (su3_1 : PySem.W.subIn K (.ref C3) (.ref C1) = some true)
    (su3_2 : PySem.W.subIn K (.ref C3) (.ref C2) = some false)
    (su3_4 : PySem.W.subIn K (.ref C3) (.ref C4) = some false)
    (su3_5 : PySem.W.subIn K (.ref C3) (.ref C5) = some false)
    (su3_6 : PySem.W.subIn K (.ref C3) (.ref C6) = some false)
    (z_ValueError : PySem.W.nsIn K mainGlobals "ValueError" = some none)
    (z_bool : PySem.W.nsIn K mainGlobals "bool" = some none)
    (z_int : PySem.W.nsIn K mainGlobals "int" = some none)
    (z_isinstance : PySem.W.nsIn K mainGlobals "isinstance" = some none)
    (z_len : PySem.W.nsIn K mainGlobals "len" = some none)
    (z_list : PySem.W.nsIn K mainGlobals "list" = some none)
    (z_range : PySem.W.nsIn K mainGlobals "range" = some none)
    (z_sorted : PySem.W.nsIn K mainGlobals "sorted" = some none)
    (z_tuple : PySem.W.nsIn K mainGlobals "tuple" = some none)
    (y_HANDS : PySem.W.nsIn K mainGlobals "HANDS" = some (some (.int 0 t_HANDS)))
    (y_MOST : PySem.W.nsIn K mainGlobals "MOST" = some (some (.int 4 t_MOST)))
    (y_MOST_TIES : PySem.W.nsIn K mainGlobals "MOST_TIES" = some (some (.int 8 t_MOST_TIES)))
    (y_PIECES : PySem.W.nsIn K mainGlobals "PIECES" = some (some (.int 1 t_PIECES)))
    (y_TIES : PySem.W.nsIn K mainGlobals "TIES" = some (some (.int 2 t_TIES)))
    (hc0 : cd34 = .ref cL)
    (tq : PySem.W.tabIn K "law" = some (cL, Pt))
    (cq : PySem.W.codeHdIn K cL Pt = true)
    (nT : K.lookup Pt = none) :
    ∃ (fd : FuncData) (c Pt : Addr), h.get? Pt = some { cls := .none, data := .fields #[] } ∧ K.lookup Pt = none ∧ PySem.W.CodeHd h c Pt ∧ (∀ (s : Shared) (v : Value), BindsTo s fd ⟨[v], []⟩ [("_law_script", v)]) ∧ ∀ base : Heap, K.In base → base.Ns mainGlobals mg → LamX.TabB base mg c Pt → FnOk l.prog w K mg base (L2.CX l.prog w) 7 fa fd ["_law_script"] (spLawT K Pt f_p_law) := by
  have e := hfa.symm.trans (PySem.W.mg_of X G a34)
  cases e
  have F13 := fun_mk (st := (top 13)) l13 c13 k13
  have B13 := F13.binds (ps := ["thing", "least", "most"]) fun _ _ _ _ _ _ us hl => match us, hl with | [_, _, _], _ => rfl
  have F16 := fun_mk (st := (top 16)) l16 c16 k16
  have B16 := F16.binds (ps := ["row", "most"]) fun _ _ _ _ _ _ us hl => match us, hl with | [_, _], _ => rfl
  have F14 := fun_mk (st := (top 14)) l14 c14 k14
  have B14 := F14.binds (ps := ["good"]) fun _ _ _ _ _ _ us hl => match us, hl with | [_], _ => rfl
  have F15 := fun_mk (st := (top 15)) l15 c15 k15
  have B15 := F15.binds (ps := ["deal"]) fun _ _ _ _ _ _ us hl => match us, hl with | [_], _ => rfl
  have F17 := fun_mk (st := (top 17)) l17 c17 k17
  have B17 := F17.binds (ps := ["deal", "holding"]) fun _ _ _ _ _ _ us hl => match us, hl with | [_, _], _ => rfl
  have F21 := fun_mk (st := (top 21)) l21 c21 k21
  have B21 := F21.binds (ps := ["deal", "holding", "pieces", "ties"]) fun _ _ _ _ _ _ us hl => match us, hl with | [_, _, _, _], _ => rfl
  have F25 := fun_mk (st := (top 25)) l25 c25 k25
  have B25 := F25.binds (ps := ["_law_dice_here", "_law_most"]) fun _ _ _ _ _ _ us hl => match us, hl with | [_, _], _ => rfl
  have F33 := fun_mk (st := (top 33)) l33 c33 k33
  have B33 := F33.binds (ps := ["_law_deal_here", "_law_holding_here", "_law_pieces", "_law_ties_here"]) fun _ _ _ _ _ _ us hl => match us, hl with | [_, _, _, _], _ => rfl
  have F32 := fun_mk (st := (top 32)) l32 c32 k32
  have B32 := F32.binds (ps := ["_law_dice_here", "_law_deal_here"]) fun _ _ _ _ _ _ us hl => match us, hl with | [_, _], _ => rfl
  have F19 := fun_mk (st := (top 19)) l19 c19 k19
  have B19 := F19.binds (ps := ["number", "hand"]) fun _ _ _ _ _ _ us hl => match us, hl with | [_, _], _ => rfl
  have F20 := fun_mk (st := (top 20)) l20 c20 k20
  have B20 := F20.binds (ps := ["deal", "holding", "hand"]) fun _ _ _ _ _ _ us hl => match us, hl with | [_, _, _], _ => rfl
  have F31 := fun_mk (st := (top 31)) l31 c31 k31
  have B31 := F31.binds (ps := ["_law_deal_here", "_law_holding_here", "_law_hand"]) fun _ _ _ _ _ _ us hl => match us, hl with | [_, _, _], _ => rfl
  have F24 := fun_mk (st := (top 24)) l24 c24 k24
  have B24 := F24.binds (ps := ["_law_cell"]) fun _ _ _ _ _ _ us hl => match us, hl with | [_], _ => rfl
  have F23 := fun_mk (st := (top 23)) l23 c23 k23
  have B23 := F23.binds (ps := ["_law_script", "_law_k"]) fun _ _ _ _ _ _ us hl => match us, hl with | [_, _], _ => rfl
  have F28 := fun_mk (st := (top 28)) l28 c28 k28
  have B28 := F28.binds (ps := ["_law_dice_here", "_law_deal_here"]) fun _ _ _ _ _ _ us hl => match us, hl with | [_, _], _ => rfl
  have F27 := fun_mk (st := (top 27)) l27 c27 k27
  have B27 := F27.binds (ps := ["_law_dice_here", "_law_most", "_law_pieces"]) fun _ _ _ _ _ _ us hl => match us, hl with | [_, _, _], _ => rfl
  have F29 := fun_mk (st := (top 29)) l29 c29 k29
  have B29 := F29.binds (ps := ["_law_script", "_law_sizes"]) fun _ _ _ _ _ _ us hl => match us, hl with | [_, _], _ => rfl
  have F30 := fun_mk (st := (top 30)) l30 c30 k30
  have B30 := F30.binds (ps := ["_law_work"]) fun _ _ _ _ _ _ us hl => match us, hl with | [_], _ => rfl
  have F34 := fun_mk (st := (top 34)) l34 c34 k34
  have B34 := F34.binds (ps := ["_law_script"]) fun _ _ _ _ _ _ us hl => match us, hl with | [_], _ => rfl
  have EC2 : ExcC K C2 := ⟨hg2, hk2, bb2, hd2, ha2, hn0, ht0, hm2⟩
  have EC3 : ExcC K C3 := ⟨hg3, hk3, bb3, hd3, ha3, hn0, ht0, hm3⟩
  have T : Txt K mg (pick 0 [(1, C1), (2, C2), (3, C3), (4, C4), (5, C5), (6, C6), (13, f13), (16, f16), (14, f14), (15, f15), (17, f17), (21, f21), (25, f25), (33, f33), (32, f32), (19, f19), (20, f20), (31, f31), (24, f24), (23, f23), (28, f28), (27, f27), (29, f29), (30, f30), (34, fa)]) (pick 0 [(0, t_HANDS), (1, t_MOST), (2, t_MOST_TIES), (3, t_PIECES), (4, t_TIES)]) := {
    h_p_is_number := ⟨_, F13, B13⟩,
    g_p_is_number := PySem.W.mg_of X G a13,
    h_p_is_rising := ⟨_, F16, B16⟩,
    g_p_is_rising := PySem.W.mg_of X G a16,
    h_p_must := ⟨_, F14, B14⟩,
    g_p_must := PySem.W.mg_of X G a14,
    h_p_need_deal := ⟨_, F15, B15⟩,
    g_p_need_deal := PySem.W.mg_of X G a15,
    h_p_need_holding := ⟨_, F17, B17⟩,
    g_p_need_holding := PySem.W.mg_of X G a17,
    h_p_comes := ⟨_, F21, B21⟩,
    g_p_comes := PySem.W.mg_of X G a21,
    h_l_roll := ⟨_, F25, B25⟩,
    g_l_roll := PySem.W.mg_of X G a25,
    h_l_more := ⟨_, F33, B33⟩,
    g_l_more := PySem.W.mg_of X G a33,
    h_l_ties := ⟨_, F32, B32⟩,
    g_l_ties := PySem.W.mg_of X G a32,
    h_p_less := ⟨_, F19, B19⟩,
    g_p_less := PySem.W.mg_of X G a19,
    h_p_leaves := ⟨_, F20, B20⟩,
    g_p_leaves := PySem.W.mg_of X G a20,
    h_l_less := ⟨_, F31, B31⟩,
    g_l_less := PySem.W.mg_of X G a31,
    h_l_dice := ⟨_, F24, B24⟩,
    g_l_dice := PySem.W.mg_of X G a24,
    h_l_cell_at := ⟨_, F23, B23⟩,
    g_l_cell_at := PySem.W.mg_of X G a23,
    h_l_holding := ⟨_, F28, B28⟩,
    g_l_holding := PySem.W.mg_of X G a28,
    h_l_deal := ⟨_, F27, B27⟩,
    g_l_deal := PySem.W.mg_of X G a27,
    h_l_some := ⟨_, F29, B29⟩,
    g_l_some := PySem.W.mg_of X G a29,
    h_l_word := ⟨_, F30, B30⟩,
    g_l_word := PySem.W.mg_of X G a30,
    h_p_law := ⟨_, F34, B34⟩,
    g_p_law := PySem.W.mg_of X G a34,
    e_DealError := PySem.W.mg_of X G e1,
    e_BadDeal := PySem.W.mg_of X G e2,
    kp_BadDeal := kp2,
    b_BadDeal := bb2,
    t_BadDeal := tt2,
    x_BadDeal := xx2,
    e_BadHolding := PySem.W.mg_of X G e3,
    kp_BadHolding := kp3,
    b_BadHolding := bb3,
    t_BadHolding := tt3,
    x_BadHolding := xx3,
    e_BadRound := PySem.W.mg_of X G e4,
    e_NoDeal := PySem.W.mg_of X G e5,
    e_BadText := PySem.W.mg_of X G e6,
    exs := (all_cons EC2 (all_cons EC3 all_nil)),
    ves := (all_cons (kit_ty1 sv2 (by decide +kernel)) (all_cons (kit_ty1 sv3 (by decide +kernel)) all_nil)),
    ct_DealError := (all_cons (exm_of su2_1 bb1 ic1 tt1) (all_cons (exm_of su3_1 bb1 ic1 tt1) all_nil)),
    kits := (all_cons (kit_ent (D0 := C2) (C0 := C2) rfl (PySem.W.mg_of X G e2) (kit_of_sub ss2 ss2 ic2 tt2)) (all_cons (kit_ent (D0 := C2) (C0 := C3) rfl (PySem.W.mg_of X G e3) (kit_of_sub su2_3 ss2 ic3 tt3)) (all_cons (kit_ent (D0 := C2) (C0 := C4) rfl (PySem.W.mg_of X G e4) (kit_of_sub su2_4 ss2 ic4 tt4)) (all_cons (kit_ent (D0 := C2) (C0 := C5) rfl (PySem.W.mg_of X G e5) (kit_of_sub su2_5 ss2 ic5 tt5)) (all_cons (kit_ent (D0 := C2) (C0 := C6) rfl (PySem.W.mg_of X G e6) (kit_of_sub su2_6 ss2 ic6 tt6)) (all_cons (kit_ent (D0 := C3) (C0 := C2) rfl (PySem.W.mg_of X G e2) (kit_of_sub su3_2 ss3 ic2 tt2)) (all_cons (kit_ent (D0 := C3) (C0 := C3) rfl (PySem.W.mg_of X G e3) (kit_of_sub ss3 ss3 ic3 tt3)) (all_cons (kit_ent (D0 := C3) (C0 := C4) rfl (PySem.W.mg_of X G e4) (kit_of_sub su3_4 ss3 ic4 tt4)) (all_cons (kit_ent (D0 := C3) (C0 := C5) rfl (PySem.W.mg_of X G e5) (kit_of_sub su3_5 ss3 ic5 tt5)) (all_cons (kit_ent (D0 := C3) (C0 := C6) rfl (PySem.W.mg_of X G e6) (kit_of_sub su3_6 ss3 ic6 tt6)) all_nil)))))))))),
    n_ValueError := PySem.W.mg_none_of X G z_ValueError,
    n_bool := PySem.W.mg_none_of X G z_bool,
    n_int := PySem.W.mg_none_of X G z_int,
    n_isinstance := PySem.W.mg_none_of X G z_isinstance,
    n_len := PySem.W.mg_none_of X G z_len,
    n_list := PySem.W.mg_none_of X G z_list,
    n_range := PySem.W.mg_none_of X G z_range,
    n_sorted := PySem.W.mg_none_of X G z_sorted,
    n_tuple := PySem.W.mg_none_of X G z_tuple,
    c_HANDS := PySem.W.mg_of X G y_HANDS,
    c_MOST := PySem.W.mg_of X G y_MOST,
    c_MOST_TIES := PySem.W.mg_of X G y_MOST_TIES,
    c_PIECES := PySem.W.mg_of X G y_PIECES,
    c_TIES := PySem.W.mg_of X G y_TIES }
  subst hc0
  exact ⟨_, cL, Pt, hT, nT, PySem.W.codeHd_of_K X cq, fun s v => .of_eq rfl, fun base _ _ TB => lawFnT (ok_all (P := l.prog) (w := w) (base := base) l34 c34 TB T)⟩
theorem law_true (ns : List Int) (h : ns.length ≤ 63) : ∃ st, f_p_law [.scr (ns.map D.int)] [tabO "law.<locals>.<lambda>"] = .ok (.dat (.bl true)) st := PM.law_k08 ns h
theorem walk {l : PySem.W.OpenLaw} {q : Program} {loose : List Str} {XP : (Str → Option Value) → Heap → Prop} {YP : World → Heap → Prop} {d : DefRec} {K : Params → PySem.W.Frag} (hn : l.most = some 63) (hdf : d.params.defaults = [])
    (hY : ∀ (w : World) (h : Heap), YP w h → (K w.params).In h)
    (F : ∀ (w : World) (mg : Str → Option Value) (fa : Addr) (h : Heap), YP w h → (K w.params).In h → h.Ns mainGlobals mg → mg d.name = some (.ref fa) →
      ∃ (fd : FuncData) (c Pt : Addr), h.get? Pt = some { cls := .none, data := .fields #[] } ∧ (K w.params).lookup Pt = none ∧ PySem.W.CodeHd h c Pt ∧ (∀ (s : Shared) (v : Value), BindsTo s fd ⟨[v], []⟩ [("_law_script", v)]) ∧ ∀ base : Heap, (K w.params).In base → base.Ns mainGlobals mg → LamX.TabB base mg c Pt → FnOk l.prog w (K w.params) mg base (L2.CX l.prog w) 7 fa fd ["_law_script"] (spLawT (K w.params) Pt f_p_law)) :
    PySem.W.WalkO q loose XP YP l.row.toRowW d [] (fun f vs => PySem.call f vs) :=
  lawWalkT (qn := "law.<locals>.<lambda>") hn hdf ⟨rfl, by decide, by decide⟩ hY F law_true
end PT
open PySem PySem.W PyProof.Rows in
set_option maxHeartbeats 0 in
theorem PySem.Challenge.cw_piecedeal_k08_hands_leave_and_come_holds : PySem.Challenge.rw_piecedeal_k08_hands_leave_and_come.Holds := by
  w_on; o_law; k_head; (case hw => w_witness2)
  k_fill
  refine PT.walk (l := PySem.Challenge.rw_piecedeal_k08_hands_leave_and_come) rfl rfl (fun w h Y => PySem.W.km_in_of Y) ?F
  case F =>
    intro w mg fa h Y KX G hmg
    refine' PT.all_mk KX G hmg ?hT ?a13 ?l13 ?c13 ?k13 ?a16 ?l16 ?c16 ?k16 ?a14 ?l14 ?c14 ?k14 ?a15 ?l15 ?c15 ?k15 ?a17 ?l17 ?c17 ?k17 ?a21 ?l21 ?c21 ?k21 ?a25 ?l25 ?c25 ?k25 ?a33 ?l33 ?c33 ?k33 ?a32 ?l32 ?c32 ?k32 ?a19 ?l19 ?c19 ?k19 ?a20 ?l20 ?c20 ?k20 ?a31 ?l31 ?c31 ?k31 ?a24 ?l24 ?c24 ?k24 ?a23 ?l23 ?c23 ?k23 ?a28 ?l28 ?c28 ?k28 ?a27 ?l27 ?c27 ?k27 ?a29 ?l29 ?c29 ?k29 ?a30 ?l30 ?c30 ?k30 ?a34 ?l34 ?c34 ?k34 ?e1 ?bb1 ?tt1 ?ic1 ?e2 ?bb2 ?tt2 ?kp2 ?xx2 ?ic2 ?hg2 ?hk2 ?hd2 ?ha2 ?hm2 ?sv2 ?ss2 ?e3 ?bb3 ?tt3 ?kp3 ?xx3 ?ic3 ?hg3 ?hk3 ?hd3 ?ha3 ?hm3 ?sv3 ?ss3 ?e4 ?bb4 ?tt4 ?ic4 ?e5 ?bb5 ?tt5 ?ic5 ?e6 ?bb6 ?tt6 ?ic6 ?hn0 ?ht0 ?su2_1 ?su2_3 ?su2_4 ?su2_5 ?su2_6 ?su3_1 ?su3_2 ?su3_4 ?su3_5 ?su3_6 ?z_ValueError ?z_bool ?z_int ?z_isinstance ?z_len ?z_list ?z_range ?z_sorted ?z_tuple ?y_HANDS ?y_MOST ?y_MOST_TIES ?y_PIECES ?y_TIES ?hc0 ?tq ?cq ?nT
    (case hT => exact PySem.W.km_tabs_of Y _ (List.Mem.head _))
    (case a13 => k_is)
    (case l13 => k_is)
    (case c13 => k_is)
    (case k13 => k_is)
    (case a16 => k_is)
    (case l16 => k_is)
    (case c16 => k_is)
    (case k16 => k_is)
    (case a14 => k_is)
    (case l14 => k_is)
    (case c14 => k_is)
    (case k14 => k_is)
    (case a15 => k_is)
    (case l15 => k_is)
    (case c15 => k_is)
    (case k15 => k_is)
    (case a17 => k_is)
    (case l17 => k_is)
    (case c17 => k_is)
    (case k17 => k_is)
    (case a21 => k_is)
    (case l21 => k_is)
    (case c21 => k_is)
    (case k21 => k_is)
    (case a25 => k_is)
    (case l25 => k_is)
    (case c25 => k_is)
    (case k25 => k_is)
    (case a33 => k_is)
    (case l33 => k_is)
    (case c33 => k_is)
    (case k33 => k_is)
    (case a32 => k_is)
    (case l32 => k_is)
    (case c32 => k_is)
    (case k32 => k_is)
    (case a19 => k_is)
    (case l19 => k_is)
    (case c19 => k_is)
    (case k19 => k_is)
    (case a20 => k_is)
    (case l20 => k_is)
    (case c20 => k_is)
    (case k20 => k_is)
    (case a31 => k_is)
    (case l31 => k_is)
    (case c31 => k_is)
    (case k31 => k_is)
    (case a24 => k_is)
    (case l24 => k_is)
    (case c24 => k_is)
    (case k24 => k_is)
    (case a23 => k_is)
    (case l23 => k_is)
    (case c23 => k_is)
    (case k23 => k_is)
    (case a28 => k_is)
    (case l28 => k_is)
    (case c28 => k_is)
    (case k28 => k_is)
    (case a27 => k_is)
    (case l27 => k_is)
    (case c27 => k_is)
    (case k27 => k_is)
    (case a29 => k_is)
    (case l29 => k_is)
    (case c29 => k_is)
    (case k29 => k_is)
    (case a30 => k_is)
    (case l30 => k_is)
    (case c30 => k_is)
    (case k30 => k_is)
    (case a34 => k_is)
    (case l34 => k_is)
    (case c34 => k_is)
    (case k34 => k_is)
    (case e1 => k_is)
    (case bb1 => k_is)
    (case tt1 => k_is)
    (case ic1 => k_is)
    (case e2 => k_is)
    (case bb2 => k_is)
    (case tt2 => k_is)
    (case kp2 => k_is)
    (case xx2 => k_exc)
    (case ic2 => k_is)
    (case hg2 => k_is)
    (case hk2 => k_is)
    (case hd2 => k_is)
    (case ha2 => k_is)
    (case hm2 => k_is)
    (case sv2 => k_is)
    (case ss2 => k_is)
    (case e3 => k_is)
    (case bb3 => k_is)
    (case tt3 => k_is)
    (case kp3 => k_is)
    (case xx3 => k_exc)
    (case ic3 => k_is)
    (case hg3 => k_is)
    (case hk3 => k_is)
    (case hd3 => k_is)
    (case ha3 => k_is)
    (case hm3 => k_is)
    (case sv3 => k_is)
    (case ss3 => k_is)
    (case e4 => k_is)
    (case bb4 => k_is)
    (case tt4 => k_is)
    (case ic4 => k_is)
    (case e5 => k_is)
    (case bb5 => k_is)
    (case tt5 => k_is)
    (case ic5 => k_is)
    (case e6 => k_is)
    (case bb6 => k_is)
    (case tt6 => k_is)
    (case ic6 => k_is)
    (case hn0 => k_is)
    (case ht0 => k_is)
    (case su2_1 => k_is)
    (case su2_3 => k_is)
    (case su2_4 => k_is)
    (case su2_5 => k_is)
    (case su2_6 => k_is)
    (case su3_1 => k_is)
    (case su3_2 => k_is)
    (case su3_4 => k_is)
    (case su3_5 => k_is)
    (case su3_6 => k_is)
    (case z_ValueError => k_is)
    (case z_bool => k_is)
    (case z_int => k_is)
    (case z_isinstance => k_is)
    (case z_len => k_is)
    (case z_list => k_is)
    (case z_range => k_is)
    (case z_sorted => k_is)
    (case z_tuple => k_is)
    (case y_HANDS => k_is)
    (case y_MOST => k_is)
    (case y_MOST_TIES => k_is)
    (case y_PIECES => k_is)
    (case y_TIES => k_is)
    (case hc0 => rfl)
    (case tq => first | k_is | kernel_rfl)
    (case cq => first | k_is | kernel_rfl)
    (case nT => first | k_is | kernel_rfl)
