import PyProof.Rows.All
import HandS.ForMost
import HandS.Walk
import HandS.IsInst
import HandS.Deep
import HandS.Zip
import HandS.Style
import HandS.TupAny
import HandS.TupMul
import HandS.Conv
import HandS.Exc
import HandS.Defaults
import HandS.CallLocal
import HandS.More
import HandS.HeadHook3
import HandS.Head0
import HandS.Head1
import HandS.Head2
import HandS.HeadEnd
import HandS.HeadHook1
import HandS.HeadHook2
import PySem.Challenge.RW_blamekeep_k40_whole_triples_in_any_order
set_option Elab.async false
set_option linter.all false
set_option maxRecDepth 100000
set_option maxHeartbeats 4000000
/-! Core, part A: data, the store, how both lie in the abstract heap. -/
namespace PC
open PySem PySem.Spec PyProof.Rows L2

/-- what never changes; ptr n: the n-th thing of the store -/
inductive D where
  | non | bl (b : Bool) | int (i : Int) | str (x : Str)
  | tup (xs : List D) | lst (xs : List D) | ptr (n : Nat) | dct (kvs : List (Key × D)) | tab (kvs : List (Str × D))

/-- a thing of the store -/
inductive Cell where
  | lst (xs : List D) | dct (kvs : List (Key × D)) | dead
abbrev Store := List Cell
abbrev Slots := List (Option D)

/-- a thing of the store, or a dict: never within another one -/
def D.isPtr : D → Bool
  | .ptr _ => true
  | .dct _ => true
  | .tab _ => true
  | _ => false
def noPtr (xs : List D) : Bool := xs.all fun d => !d.isPtr

/-- what is fixed through a law -/
structure GI where
  K : PySem.W.Frag
  w : World

mutual
inductive Rp (G : GI) (F : Hp) : V → D → Prop
  | non : Rp G F .non .non
  | bl (b : Bool) : Rp G F (.bl b) (.bl b)
  | int (i : Int) : Rp G F (.int i) (.int i)
  | str (x : Str) (h : PyData.strOk x = true) : Rp G F (.str x) (.str x)
  | tup {a : Addr} {vs : List V} {ds : List D} : SqT G.K F a vs → RpAll G F vs ds → Rp G F (.ref a) (.tup ds)
  | lst {a : Addr} {vs : List V} {ds : List D} : SqL G.K F a vs → RpAll G F vs ds → Rp G F (.ref a) (.lst ds)
inductive RpAll (G : GI) (F : Hp) : List V → List D → Prop
  | nil : RpAll G F [] []
  | cons {v : V} {vs : List V} {d : D} {ds : List D} : Rp G F v d → RpAll G F vs ds → RpAll G F (v :: vs) (d :: ds)
end

def keyOk : Key → Bool
  | .inl _ => true
  | .inr x => PyData.strOk x
inductive KvOk (G : GI) (F : Hp) : List (Key × V) → List (Key × D) → Prop
  | nil : KvOk G F [] []
  | cons {k : Key} {v : V} {d : D} {ks : List (Key × V)} {ds : List (Key × D)} : keyOk k = true → Rp G F v d → KvOk G F ks ds → KvOk G F ((k, v) :: ks) ((k, d) :: ds)
def tabD (kvs : List (Str × D)) (x : Str) : Option D := (kvs.find? fun p => decide (p.1 = x)).map (·.2)
/-- a table of the module -/
def TabOk (G : GI) (a : Addr) (kvs : List (Str × D)) : Prop := (∃ es n, KDict G.K G.w a es n) ∧ ∀ x d, tabD kvs x = some d → ∃ u v, PySem.W.nsIn G.K a x = some (some u) ∧ RelV v u ∧ ∀ F, Rp G F v d
/-- a value of a name: data, or a thing of the store, or a dict that never changes -/
def RpT (G : GI) (As : List Addr) (F : Hp) (v : V) (d : D) : Prop := Rp G F v d ∨ (∃ n a, d = .ptr n ∧ As[n]? = some a ∧ v = .ref a) ∨ (∃ a kvs ds, d = .dct ds ∧ v = .ref a ∧ Rd F a (.dK kvs) ∧ KvOk G F kvs ds) ∨ ∃ a kvs, d = .tab kvs ∧ v = .ref a ∧ TabOk G a kvs
inductive RpTs (G : GI) (As : List Addr) (F : Hp) : List V → List D → Prop
  | nil : RpTs G As F [] []
  | cons {v : V} {vs : List V} {d : D} {ds : List D} : RpT G As F v d → RpTs G As F vs ds → RpTs G As F (v :: vs) (d :: ds)

def Sub (F H : Hp) : Prop := ∀ a o, F a = some o → H a = some o
theorem Sub.refl (F : Hp) : Sub F F := fun _ _ h => h
theorem Sub.trans {F G H : Hp} (a : Sub F G) (b : Sub G H) : Sub F H := fun x o h => b x o (a x o h)
theorem Sub.rd {F H : Hp} {a : Addr} {u : HO} (s : Sub F H) (h : Rd F a u) : Rd H a u := by
  rcases h with h | ⟨o, h⟩
  · exact .inl (s _ _ h)
  · exact .inr ⟨o, s _ _ h⟩
theorem Sub.sqL {K : PySem.W.Frag} {F H : Hp} {a : Addr} {xs : List V} (s : Sub F H) (h : SqL K F a xs) : SqL K H a xs := by
  rcases h with h | h
  · exact .inl (s.rd h)
  · exact .inr h
theorem Sub.sqT {K : PySem.W.Frag} {F H : Hp} {a : Addr} {xs : List V} (s : Sub F H) (h : SqT K F a xs) : SqT K H a xs := by
  rcases h with h | h
  · exact .inl (s.rd h)
  · exact .inr h
theorem Sub.new {F : Hp} {p : Addr} {o : HO} (h : F p = none) : Sub F (upd F p o) := fun a u e => by
  rw [upd_ne (ne_of_none e h)]; exact e

section
variable {G : GI} {F F' H : Hp} {As As' : List Addr}
mutual
theorem Rp.mono (s : Sub F F') : ∀ {v : V} {d : D}, Rp G F v d → Rp G F' v d
  | _, _, .non => .non
  | _, _, .bl b => .bl b
  | _, _, .int i => .int i
  | _, _, .str x h => .str x h
  | _, _, .tup h t => .tup (s.sqT h) (RpAll.mono s t)
  | _, _, .lst h t => .lst (s.sqL h) (RpAll.mono s t)
theorem RpAll.mono (s : Sub F F') : ∀ {vs : List V} {ds : List D}, RpAll G F vs ds → RpAll G F' vs ds
  | _, _, .nil => .nil
  | _, _, .cons h t => .cons (Rp.mono s h) (RpAll.mono s t)
end
theorem KvOk.mono (s : Sub F F') {ks : List (Key × V)} {ds : List (Key × D)} (h : KvOk G F ks ds) : KvOk G F' ks ds := by
  induction h with
  | nil => exact .nil
  | cons h1 h2 _ ih => exact .cons h1 (h2.mono s) ih
theorem KvOk.length {ks : List (Key × V)} {ds : List (Key × D)} (h : KvOk G F ks ds) : ks.length = ds.length := by
  induction h with
  | nil => rfl
  | cons _ _ _ ih => simp [ih]
theorem Rp.noptr {v : V} {d : D} (h : Rp G F v d) : d.isPtr = false := by cases h <;> rfl
theorem RpT.of {v : V} {d : D} (h : Rp G F v d) : RpT G As F v d := .inl h
theorem RpT.data {v : V} {d : D} (h : RpT G As F v d) (n : d.isPtr = false) : Rp G F v d := by
  rcases h with h | ⟨k, a, rfl, _, _⟩ | ⟨a, kvs, ds, rfl, _⟩ | ⟨a, kvs, rfl, _⟩
  · exact h
  · cases n
  · cases n
  · cases n
theorem RpT.ptr {v : V} {n : Nat} (h : RpT G As F v (.ptr n)) : ∃ a, As[n]? = some a ∧ v = .ref a := by
  rcases h with h | ⟨k, a, e, h1, h2⟩ | ⟨a, kvs, ds, e, _⟩ | ⟨a, kvs, e, _⟩
  · cases h
  · cases e; exact ⟨a, h1, h2⟩
  · cases e
  · cases e
theorem RpT.dct {v : V} {ds : List (Key × D)} (h : RpT G As F v (.dct ds)) : ∃ a kvs, v = .ref a ∧ Rd F a (.dK kvs) ∧ KvOk G F kvs ds := by
  rcases h with h | ⟨k, a, e, h1, h2⟩ | ⟨a, kvs, ds, e, h1, h2, h3⟩ | ⟨a, kvs, e, _⟩
  · cases h
  · cases e
  · cases e; exact ⟨a, kvs, h1, h2, h3⟩
  · cases e
theorem RpT.tab {v : V} {ds : List (Str × D)} (h : RpT G As F v (.tab ds)) : ∃ a, v = .ref a ∧ TabOk G a ds := by
  rcases h with h | ⟨k, a, e, h1, h2⟩ | ⟨a, kvs, ds, e, h1, h2, h3⟩ | ⟨a, kvs, e, h1, h2⟩
  · cases h
  · cases e
  · cases e
  · cases e; exact ⟨a, h1, h2⟩
/-- more addresses, a greater frozen part -/
def Pre (As As' : List Addr) : Prop := ∃ l, As' = As ++ l
theorem Pre.refl (As : List Addr) : Pre As As := ⟨[], by simp⟩
theorem Pre.trans {As As' As'' : List Addr} (a : Pre As As') (b : Pre As' As'') : Pre As As'' := by
  obtain ⟨l, rfl⟩ := a; obtain ⟨m, rfl⟩ := b; exact ⟨l ++ m, by simp⟩
theorem Pre.get (p : Pre As As') {n : Nat} {a : Addr} (h : As[n]? = some a) : As'[n]? = some a := by
  obtain ⟨l, rfl⟩ := p
  obtain ⟨hn, e⟩ := List.getElem?_eq_some_iff.mp h
  rw [List.getElem?_append_left hn]; exact h
theorem Pre.len (p : Pre As As') : As.length ≤ As'.length := by
  obtain ⟨l, rfl⟩ := p; simp
theorem RpT.mono (p : Pre As As') (s : Sub F F') {v : V} {d : D} (h : RpT G As F v d) : RpT G As' F' v d := by
  rcases h with h | ⟨n, a, e, h1, h2⟩ | ⟨a, kvs, ds, e, h1, h2, h3⟩ | ⟨a, kvs, e, h1, h2⟩
  · exact .inl (h.mono s)
  · exact .inr (.inl ⟨n, a, e, p.get h1, h2⟩)
  · exact .inr (.inr (.inl ⟨a, kvs, ds, e, h1, s.rd h2, h3.mono s⟩))
  · exact .inr (.inr (.inr ⟨a, kvs, e, h1, h2⟩))
theorem RpTs.mono (p : Pre As As') (s : Sub F F') {vs : List V} {ds : List D} (h : RpTs G As F vs ds) : RpTs G As' F' vs ds := by
  induction h with
  | nil => exact .nil
  | cons h _ ih => exact .cons (h.mono p s) ih
theorem RpTs.all {vs : List V} {ds : List D} (h : RpTs G As F vs ds) (n : noPtr ds = true) : RpAll G F vs ds := by
  induction h with
  | nil => exact .nil
  | cons h _ ih =>
    unfold noPtr at n
    rw [List.all_cons, Bool.and_eq_true] at n
    exact .cons (h.data (by simpa using n.1)) (ih n.2)
theorem RpTs.length {vs : List V} {ds : List D} (h : RpTs G As F vs ds) : vs.length = ds.length := by
  induction h with
  | nil => rfl
  | cons _ _ ih => simp [ih]
theorem RpAll.length : ∀ {vs : List V} {ds : List D}, RpAll G F vs ds → vs.length = ds.length
  | _, _, .nil => rfl
  | _, _, .cons _ t => by simp [RpAll.length t]
theorem RpAll.ts : ∀ {vs : List V} {ds : List D}, RpAll G F vs ds → RpTs G As F vs ds
  | _, _, .nil => .nil
  | _, _, .cons h t => .cons (.of h) (RpAll.ts t)
theorem RpAll.get : ∀ {vs : List V} {ds : List D} {i : Nat} {v : V} {d : D}, RpAll G F vs ds → vs[i]? = some v → ds[i]? = some d → Rp G F v d
  | _, _, _, _, _, .nil, h, _ => by simp at h
  | _, _, 0, _, _, .cons r _, h, h' => by simp at h h'; subst h h'; exact r
  | _, _, i + 1, _, _, .cons _ t, h, h' => RpAll.get (i := i) t (by simpa using h) (by simpa using h')
theorem RpAll.getD {vs : List V} {ds : List D} {i : Nat} {d : D} (r : RpAll G F vs ds) (h : ds[i]? = some d) : ∃ v, vs[i]? = some v ∧ Rp G F v d := by
  obtain ⟨hi, e⟩ := List.getElem?_eq_some_iff.mp h
  have hl := r.length
  have hv : i < vs.length := by omega
  exact ⟨vs[i], by simp [hv], r.get (by simp [hv]) h⟩
theorem RpAll.append : ∀ {vs ws : List V} {ds es : List D}, RpAll G F vs ds → RpAll G F ws es → RpAll G F (vs ++ ws) (ds ++ es)
  | _, _, _, _, .nil, s => s
  | _, _, _, _, .cons r t, s => .cons r (RpAll.append t s)
theorem RpAll.take : ∀ {vs : List V} {ds : List D} (n : Nat), RpAll G F vs ds → RpAll G F (vs.take n) (ds.take n)
  | _, _, 0, _ => .nil
  | _, _, _ + 1, .nil => .nil
  | _, _, n + 1, .cons r t => .cons r (RpAll.take n t)
theorem RpAll.drop : ∀ {vs : List V} {ds : List D} (n : Nat), RpAll G F vs ds → RpAll G F (vs.drop n) (ds.drop n)
  | _, _, 0, r => r
  | _, _, _ + 1, .nil => .nil
  | _, _, n + 1, .cons _ t => RpAll.drop n t
theorem RpAll.set : ∀ {vs : List V} {ds : List D} (i : Nat) {v : V} {d : D}, Rp G F v d → RpAll G F vs ds → RpAll G F (vs.set i v) (ds.set i d)
  | _, _, _, _, _, _, .nil => .nil
  | _, _, 0, _, _, r, .cons _ t => .cons r t
  | _, _, i + 1, _, _, r, .cons q t => .cons q (RpAll.set i r t)
theorem RpAll.reverse {vs : List V} {ds : List D} (h : RpAll G F vs ds) : RpAll G F vs.reverse ds.reverse := by
  induction vs generalizing ds with
  | nil => cases h; exact .nil
  | cons v vs ih =>
    cases h with
    | cons r t => rw [List.reverse_cons, List.reverse_cons]; exact (ih t).append (.cons r .nil)
theorem RpAll.dropLast : ∀ {vs : List V} {ds : List D}, RpAll G F vs ds → RpAll G F vs.dropLast ds.dropLast
  | _, _, .nil => .nil
  | [_], [_], .cons _ .nil => .nil
  | _ :: _ :: _, _ :: _ :: _, .cons r (.cons q t) => .cons r (RpAll.dropLast (.cons q t))
theorem RpAll.rep {vs : List V} {ds : List D} (r : RpAll G F vs ds) : ∀ k : Nat, RpAll G F (List.replicate k vs).flatten (List.replicate k ds).flatten
  | 0 => .nil
  | k + 1 => by
    rw [List.replicate_succ, List.replicate_succ, List.flatten_cons, List.flatten_cons]
    exact r.append (RpAll.rep r k)
theorem RpAll.ints : ∀ ns : List Int, RpAll G F (ns.map V.int) (ns.map D.int)
  | [] => .nil
  | n :: r => .cons (.int n) (RpAll.ints r)

/-- a thing of the store, what lies in the heap for it -/
def CellAt (G : GI) (F : Hp) : Cell → HO → Prop
  | .lst ds, .lst vs => RpAll G F vs ds
  | .dct ds, .dK kvs => KvOk G F kvs ds
  | _, _ => False
theorem CellAt.mono (s : Sub F F') {c : Cell} {o : HO} (h : CellAt G F c o) : CellAt G F' c o := by
  cases c with
  | lst ds => cases o <;> first | exact RpAll.mono s h | cases h
  | dct ds => cases o <;> first | exact KvOk.mono s h | cases h
  | dead => cases o <;> cases h
/-- a thing of the store at an address -/
def CellOk (G : GI) (F H : Hp) (a : Addr) (c : Cell) : Prop := c = .dead ∨ (F a = none ∧ ∃ o, H a = some o ∧ CellAt G F c o)
theorem CellOk.lst {H : Hp} {a : Addr} {ds : List D} (h : CellOk G F H a (.lst ds)) : F a = none ∧ ∃ vs, H a = some (.lst vs) ∧ RpAll G F vs ds := by
  rcases h with h | ⟨h1, o, h2, h3⟩
  · cases h
  · cases o <;> first | (cases h3; done) | exact ⟨h1, _, h2, h3⟩
theorem CellOk.dct {H : Hp} {a : Addr} {ds : List (Key × D)} (h : CellOk G F H a (.dct ds)) : F a = none ∧ ∃ vs, H a = some (.dK vs) ∧ KvOk G F vs ds := by
  rcases h with h | ⟨h1, o, h2, h3⟩
  · cases h
  · cases o <;> first | (cases h3; done) | exact ⟨h1, _, h2, h3⟩
/-- .. kept, where the heap and the frozen part are kept at its address -/
theorem CellOk.keep {H H' : Hp} {a : Addr} {c : Cell} (h : CellOk G F H a c) (s : Sub F F') (f : F a = none → F' a = none) (k : ∀ o, H a = some o → H' a = some o) : CellOk G F' H' a c := by
  rcases h with h | ⟨h1, o, h2, h3⟩
  · exact .inl h
  · exact .inr ⟨f h1, o, k o h2, h3.mono s⟩
structure StOk (G : GI) (As : List Addr) (S : Store) (F H : Hp) : Prop where
  sub : Sub F H
  len : As.length = S.length
  nd : As.Nodup
  there : ∀ a, a ∈ As → ∃ o, H a = some o
  cells : ∀ (n : Nat) (c : Cell) (a : Addr), S[n]? = some c → As[n]? = some a → CellOk G F H a c
/-- the names' values -/
structure EnvOk (G : GI) (As : List Addr) (F : Hp) (env : Slots) (σ : L2.St) : Prop where
  len : env.length = σ.length
  at_ : ∀ (i : Nat) (d : D), env[i]? = some (some d) → ∃ v, σ[i]? = some (some v) ∧ RpT G As F v d
theorem EnvOk.mono (p : Pre As As') (s : Sub F F') {env : Slots} {σ : L2.St} (h : EnvOk G As F env σ) : EnvOk G As' F' env σ := ⟨h.len, fun i d e => by
  obtain ⟨v, e1, r⟩ := h.at_ i d e
  exact ⟨v, e1, r.mono p s⟩⟩
theorem EnvOk.set {env : Slots} {σ : L2.St} (h : EnvOk G As F env σ) {i : Nat} {v : V} {d : D} (r : RpT G As F v d) : EnvOk G As F (env.set i (some d)) (σ.set i (some v)) := ⟨by simp [h.len], fun j e q => by
  by_cases hj : i = j
  · subst hj
    by_cases hi : i < env.length
    · rw [List.getElem?_set_self hi] at q
      cases q
      exact ⟨v, List.getElem?_set_self (by rw [← h.len]; exact hi), r⟩
    · rw [List.getElem?_eq_none (by simpa using hi)] at q; cases q
  · rw [List.getElem?_set_ne hj] at q
    obtain ⟨w, e1, r1⟩ := h.at_ j e q
    exact ⟨w, by rw [List.getElem?_set_ne hj]; exact e1, r1⟩⟩
theorem EnvOk.setN {env : Slots} {σ : L2.St} (h : EnvOk G As F env σ) {i : Nat} : EnvOk G As F (env.set i none) (σ.set i none) := ⟨by simp [h.len], fun j e q => by
  by_cases hj : i = j
  · subst hj
    by_cases hi : i < env.length
    · rw [List.getElem?_set_self hi] at q; cases q
    · rw [List.getElem?_eq_none (by simpa using hi)] at q; cases q
  · rw [List.getElem?_set_ne hj] at q
    obtain ⟨w, e1, r1⟩ := h.at_ j e q
    exact ⟨w, by rw [List.getElem?_set_ne hj]; exact e1, r1⟩⟩
/-- what an evaluation leaves as it was -/
structure Ext (As As' : List Addr) (F F' H H' : Hp) : Prop where
  pre : Pre As As'
  sub : Sub F F'
  keep : ∀ a o, H a = some o → a ∉ As → H' a = some o
  new : ∀ a, a ∈ As' → a ∈ As ∨ H a = none
  frz : ∀ a o, F' a = some o → F a = some o ∨ a ∈ As ∨ H a = none
theorem Ext.refl (As : List Addr) (F H : Hp) : Ext As As F F H H := ⟨.refl _, .refl _, fun _ _ h _ => h, fun _ h => .inl h, fun _ _ h => .inl h⟩
theorem Ext.trans {As As' As'' : List Addr} {F F' F'' H H' H'' : Hp} (x : Ext As As' F F' H H') (y : Ext As' As'' F' F'' H' H'') : Ext As As'' F F'' H H'' where
  pre := x.pre.trans y.pre
  sub := x.sub.trans y.sub
  keep := fun a o h n => by
    refine y.keep a o (x.keep a o h n) fun m => ?_
    rcases x.new a m with z | z
    · exact n z
    · rw [z] at h; cases h
  new := fun a m => by
    rcases y.new a m with z | z
    · exact x.new a z
    · cases q : H a with
      | none => exact .inr rfl
      | some o =>
        by_cases n : a ∈ As
        · exact .inl n
        · rw [x.keep a o q n] at z; cases z
  frz := fun a o e => by
    have back : H' a = none → a ∈ As ∨ H a = none := fun z => by
      cases q : H a with
      | none => exact .inr rfl
      | some o =>
        by_cases n : a ∈ As
        · exact .inl n
        · rw [x.keep a o q n] at z; cases z
    rcases y.frz a o e with z | z | z
    · exact x.frz a o z
    · exact .inr (x.new a z)
    · exact .inr (back z)
/-- a new object that never changes -/
theorem StOk.alloc {S : Store} {p : Addr} {o : HO} (h : StOk G As S F H) (n : H p = none) : StOk G As S (upd F p o) (upd H p o) ∧ Ext As As F (upd F p o) H (upd H p o) := by
  have nF : F p = none := by
    cases e : F p with
    | none => rfl
    | some u => rw [h.sub _ _ e] at n; cases n
  have sF : Sub F (upd F p o) := Sub.new nF
  have np : p ∉ As := fun m => by obtain ⟨u, e⟩ := h.there p m; rw [e] at n; cases n
  refine ⟨⟨fun a u e => ?_, h.len, h.nd, fun a m => ?_, fun k c a e1 e2 => ?_⟩, ⟨.refl _, sF, fun a u e _ => by rw [upd_ne (ne_of_none e n)]; exact e, fun _ m => .inl m, fun a u e => by
    by_cases q : a = p
    · subst q; exact .inr (.inr n)
    · rw [upd_ne q] at e; exact .inl e⟩⟩
  · by_cases q : a = p
    · subst q; rw [upd_same] at e ⊢; exact e
    · rw [upd_ne q] at e ⊢; exact h.sub _ _ e
  · by_cases q : a = p
    · subst q; exact ⟨_, upd_same⟩
    · rw [upd_ne q]; exact h.there a m
  · have ne : a ≠ p := fun z => np (z ▸ List.mem_of_getElem? e2)
    exact (h.cells k c a e1 e2).keep sF (fun f => by rw [upd_ne ne]; exact f) fun o e => by rw [upd_ne ne]; exact e
/-- the store's n-th thing is changed -/
theorem StOk.write {S : Store} {n : Nat} {a : Addr} {o : HO} {c c' : Cell} (h : StOk G As S F H) (ha : As[n]? = some a) (hc : S[n]? = some c) (hn : F a = none) (r : CellAt G F c' o) :
    StOk G As (S.set n c') F (upd H a o) ∧ Ext As As F F H (upd H a o) := by
  have ma : a ∈ As := List.mem_of_getElem? ha
  refine ⟨⟨fun b u e => ?_, by rw [List.length_set]; exact h.len, h.nd, fun b m => ?_, fun k c' b e1 e2 => ?_⟩, ⟨.refl _, .refl _, fun b u e m => by rw [upd_ne (show b ≠ a from fun z => m (by rw [z]; exact ma))]; exact e, fun _ m => .inl m, fun _ _ e => .inl e⟩⟩
  · by_cases q : b = a
    · subst q; rw [hn] at e; cases e
    · rw [upd_ne q]; exact h.sub _ _ e
  · by_cases q : b = a
    · subst q; exact ⟨_, upd_same⟩
    · rw [upd_ne q]; exact h.there b m
  · by_cases q : k = n
    · subst q
      rw [ha] at e2; cases e2
      have hk : k < S.length := (List.getElem?_eq_some_iff.mp hc).1
      rw [List.getElem?_set_self hk] at e1
      cases e1
      exact .inr ⟨hn, o, upd_same, r⟩
    · rw [List.getElem?_set_ne (Ne.symm q)] at e1
      have ne : b ≠ a := fun z => q (nd_ix h.nd (z ▸ e2) ha)
      exact (h.cells k c' b e1 e2).keep (.refl _) id fun o e => by rw [upd_ne ne]; exact e
/-- a new thing of the store -/
theorem StOk.allocP {S : Store} {p : Addr} {o : HO} {c' : Cell} (h : StOk G As S F H) (n : H p = none) (r : CellAt G F c' o) :
    StOk G (As ++ [p]) (S ++ [c']) F (upd H p o) ∧ Ext As (As ++ [p]) F F H (upd H p o) ∧ (As ++ [p])[S.length]? = some p := by
  have nF : F p = none := by
    cases e : F p with
    | none => rfl
    | some u => rw [h.sub _ _ e] at n; cases n
  have np : p ∉ As := fun m => by obtain ⟨u, e⟩ := h.there p m; rw [e] at n; cases n
  refine ⟨⟨fun a u e => ?_, by simp [h.len], ?_, fun a m => ?_, fun k c a e1 e2 => ?_⟩, ⟨⟨[p], rfl⟩, .refl _, fun a u e _ => by rw [upd_ne (ne_of_none e n)]; exact e, fun a m => ?_, fun _ _ e => .inl e⟩, ?_⟩
  · rw [upd_ne (ne_of_none (h.sub _ _ e) n)]; exact h.sub _ _ e
  · rw [List.nodup_append]
    exact ⟨h.nd, by simp, fun a m b mb => by
      have e : b = p := by simpa using mb
      rw [e]; exact fun z => np (z ▸ m)⟩
  · rcases List.mem_append.mp m with m | m
    · obtain ⟨u, e⟩ := h.there a m
      exact ⟨u, by rw [upd_ne (ne_of_none e n)]; exact e⟩
    · have e : a = p := by simpa using m
      subst e; exact ⟨_, upd_same⟩
  · by_cases hk : k < S.length
    · rw [List.getElem?_append_left hk] at e1
      rw [List.getElem?_append_left (by rw [h.len]; exact hk)] at e2
      have ne : a ≠ p := fun z => np (z ▸ List.mem_of_getElem? e2)
      exact (h.cells k c a e1 e2).keep (.refl _) id fun o e => by rw [upd_ne ne]; exact e
    · rw [List.getElem?_append_right (by omega)] at e1
      rw [List.getElem?_append_right (by rw [h.len]; omega)] at e2
      have e0 : k - S.length = 0 := by
        cases q : k - S.length with
        | zero => rfl
        | succ m => rw [q] at e1; simp at e1
      rw [e0] at e1
      rw [h.len, e0] at e2
      simp at e1 e2
      subst e1 e2
      exact .inr ⟨nF, o, upd_same, r⟩
  · rcases List.mem_append.mp m with m | m
    · exact .inl m
    · have e : a = p := by simpa using m
      subst e; exact .inr n
  · rw [List.getElem?_append_right (by rw [h.len]; exact Nat.le_refl _), h.len]
    simp
/-- a thing that the proof holds apart: neither frozen nor of the store -/
structure Apart (As : List Addr) (F H : Hp) (p : Addr) (o : HO) : Prop where
  here : H p = some o
  nF : F p = none
  nA : p ∉ As
theorem StOk.apart {S : Store} {p : Addr} {o : HO} (h : StOk G As S F H) (n : H p = none) : StOk G As S F (upd H p o) ∧ Apart As F (upd H p o) p o ∧ Ext As As F F H (upd H p o) := by
  have nF : F p = none := by
    cases e : F p with
    | none => rfl
    | some u => rw [h.sub _ _ e] at n; cases n
  have np : p ∉ As := fun m => by obtain ⟨u, e⟩ := h.there p m; rw [e] at n; cases n
  refine ⟨⟨fun a u e => ?_, h.len, h.nd, fun a m => ?_, fun k c a e1 e2 => ?_⟩, ⟨upd_same, nF, np⟩, ⟨.refl _, .refl _, fun a o e _ => by rw [upd_ne (ne_of_none e n)]; exact e, fun _ m => .inl m, fun _ _ e => .inl e⟩⟩
  · rw [upd_ne (ne_of_none (h.sub _ _ e) n)]; exact h.sub _ _ e
  · obtain ⟨u, e⟩ := h.there a m
    exact ⟨u, by rw [upd_ne (ne_of_none e n)]; exact e⟩
  · have ne : a ≠ p := fun z => np (z ▸ List.mem_of_getElem? e2)
    exact (h.cells k c a e1 e2).keep (.refl _) id fun o e => by rw [upd_ne ne]; exact e
theorem Apart.ext {p : Addr} {o : HO} {H' : Hp} (a : Apart As F H p o) (x : Ext As As' F F' H H') : Apart As' F' H' p o where
  here := x.keep p _ a.here a.nA
  nF := by
    cases e : F' p with
    | none => rfl
    | some o =>
      rcases x.frz p o e with z | z | z
      · rw [a.nF] at z; cases z
      · exact absurd z a.nA
      · rw [a.here] at z; cases z
  nA := fun m => by
    rcases x.new p m with z | z
    · exact a.nA z
    · rw [a.here] at z; cases z
theorem StOk.apartSet {S : Store} {p : Addr} {o o' : HO} (h : StOk G As S F H) (a : Apart As F H p o) : StOk G As S F (upd H p o') ∧ Apart As F (upd H p o') p o' := by
  refine ⟨⟨fun b u e => ?_, h.len, h.nd, fun b m => ?_, fun k c b e1 e2 => ?_⟩, ⟨upd_same, a.nF, a.nA⟩⟩
  · have ne : b ≠ p := fun z => by rw [z, a.nF] at e; cases e
    rw [upd_ne ne]; exact h.sub _ _ e
  · have ne : b ≠ p := fun z => a.nA (z ▸ m)
    rw [upd_ne ne]; exact h.there b m
  · have ne : b ≠ p := fun z => a.nA (z ▸ List.mem_of_getElem? e2)
    exact (h.cells k c b e1 e2).keep (.refl _) id fun o e => by rw [upd_ne ne]; exact e
/-- what was held apart becomes a thing of the store -/
theorem StOk.take {S : Store} {p : Addr} {o : HO} {c' : Cell} (h : StOk G As S F H) (a : Apart As F H p o) (r : CellAt G F c' o) : StOk G (As ++ [p]) (S ++ [c']) F H ∧ (As ++ [p])[S.length]? = some p := by
  refine ⟨⟨h.sub, by simp [h.len], ?_, fun b m => ?_, fun k c b e1 e2 => ?_⟩, ?_⟩
  · rw [List.nodup_append]
    exact ⟨h.nd, by simp, fun b m c mc => by
      have e : c = p := by simpa using mc
      rw [e]; exact fun z => a.nA (z ▸ m)⟩
  · rcases List.mem_append.mp m with m | m
    · exact h.there b m
    · have e : b = p := by simpa using m
      subst e; exact ⟨_, a.here⟩
  · by_cases hk : k < S.length
    · rw [List.getElem?_append_left hk] at e1
      rw [List.getElem?_append_left (by rw [h.len]; exact hk)] at e2
      exact h.cells k c b e1 e2
    · rw [List.getElem?_append_right (by omega)] at e1
      rw [List.getElem?_append_right (by rw [h.len]; omega)] at e2
      have e0 : k - S.length = 0 := by
        cases q : k - S.length with
        | zero => rfl
        | succ m => rw [q] at e1; simp at e1
      rw [e0] at e1
      rw [h.len, e0] at e2
      simp at e1 e2
      subst e1 e2
      exact .inr ⟨a.nF, o, a.here, r⟩
  · rw [List.getElem?_append_right (by rw [h.len]; exact Nat.le_refl _), h.len]
    simp
/-- from now on it never changes -/
theorem StOk.freeze {S : Store} {p : Addr} {o : HO} (h : StOk G As S F H) (a : Apart As F H p o) : StOk G As S (upd F p o) H := by
  have sF : Sub F (upd F p o) := Sub.new a.nF
  refine ⟨fun b u e => ?_, h.len, h.nd, h.there, fun k c b e1 e2 => ?_⟩
  · by_cases q : b = p
    · subst q; rw [upd_same] at e; cases e; exact a.here
    · rw [upd_ne q] at e; exact h.sub _ _ e
  · have ne : b ≠ p := fun z => a.nA (z ▸ List.mem_of_getElem? e2)
    exact (h.cells k c b e1 e2).keep sF (fun f => by rw [upd_ne ne]; exact f) fun o e => e
end
end PC

set_option Elab.async false
set_option linter.all false
set_option maxRecDepth 100000
set_option maxHeartbeats 4000000
/-! Core, part B: the small syntax and its evaluator. -/
namespace PC
open PySem PyProof.Rows L2

inductive BO where | add | sub | mul | fdiv | mod | pow
  deriving DecidableEq
inductive CO where | eq | ne | lt | le | gt | ge | is_ | isnot | in_ | notin
  deriving DecidableEq
/-- built-ins by name -/
inductive BI where | len | tuple | list | int | all | any | abs
  deriving DecidableEq
/-- methods of lists -/
inductive MT where | append
  deriving DecidableEq
mutual
inductive CT where
  | name (i : Nat) | tup (ts : CTs)
inductive CTs where
  | nil | cons (t : CT) (r : CTs)
end
mutual
inductive CE where
  | var (i : Nat) | con (d : D) | glob (j : Nat)
  | tup (es : CEs) | lst (own : Bool) (es : CEs)
  | ifx (t a b : CE) | and_ (a b : CE) | or_ (a b : CE) | last (a : CE) | not_ (a : CE)
  | cmp (o : CO) (a b : CE) | bin (o : BO) (a b : CE) | neg (a : CE)
  | ix (a i : CE) | sl (a : CE) (lo hi : CEs) | rev (a : CE) | frz (a : CE)
  | dic (own : Bool) (es : CEs) | get1 (o k : CE) | get2 (o k x : CE)
  | call (f : Nat) (es : CEs) | bi (b : BI) (es : CEs) | mt (m : MT) (o : CE) (es : CEs) | isi (e : CE) (t : String)
  | lc (elt : CE) (tg : CT) (it : CI) (test : CEs) (ows : List Nat)
inductive CEs where
  | nil | cons (e : CE) (r : CEs)
inductive CI where
  | seq (e : CE) | rng (es : CEs) | zip (es : CEs)
end
mutual
inductive CS where
  | expr (e : CE) | asg (t : CT) (e : CE) | par (is : List Nat) (es : CEs) | setix (o i e : CE) | ret (e : CE) | if_ (t : CE) (a b : CSs) | for_ (t : CT) (it : CI) (b : CSs)
  | pass
inductive CSs where
  | nil | cons (s : CS) (r : CSs)
end

abbrev R (α : Type) := Option (α × Store)
def Bd {α β : Type} (x : R α) (f : α → Store → R β) : R β := match x with
  | some (a, S) => f a S
  | none => none
@[simp] theorem Bd_some {α β : Type} (a : α) (S : Store) (f : α → Store → R β) : Bd (some (a, S)) f = f a S := rfl
@[simp] theorem Bd_none {α β : Type} (f : α → Store → R β) : Bd none f = none := rfl
theorem Bd_eq {α β : Type} {x : R α} {f : α → Store → R β} {r : β × Store} (h : Bd x f = some r) : ∃ a S, x = some (a, S) ∧ f a S = some r := by
  cases x with
  | none => cases h
  | some p => exact ⟨p.1, p.2, rfl, h⟩

def lim : Nat := 1000000
def D.nl : D → Bool
  | .non => true | .ptr _ => true | .dct _ => true | .tab _ => true
  | _ => false
mutual
def D.eqv : D → D → Bool
  | .non, .non => true
  | .bl a, .bl b => a == b
  | .bl a, .int j => (if a then 1 else 0) == j
  | .int i, .bl b => i == (if b then 1 else 0)
  | .int i, .int j => i == j
  | .str x, .str y => x == y
  | .lst xs, .lst ys => D.eqvs xs ys
  | .tup xs, .tup ys => D.eqvs xs ys
  | .ptr _, y => y.nl
  | .dct _, y => y.nl
  | .tab _, y => y.nl
  | .non, .ptr _ => true
  | .non, .dct _ => true
  | .non, .tab _ => true
  | _, _ => false
def D.eqvs : List D → List D → Bool
  | [], [] => true
  | x :: xs, y :: ys => D.eqv x y && D.eqvs xs ys
  | _, _ => false
end
mutual
/-- at most n within one another -/
def D.shal : Nat → D → Bool
  | n + 1, .tup xs => D.shals n xs
  | n + 1, .lst xs => D.shals n xs
  | 0, .tup _ => false
  | 0, .lst _ => false
  | _, _ => true
def D.shals : Nat → List D → Bool
  | _, [] => true
  | n, x :: xs => D.shal n x && D.shals n xs
end
def D.toB : D → Option Bool
  | .bl b => some b
  | _ => none
/-- a list of the store, as it stands -/
def deref (S : Store) (d : D) : D := match d with
  | .ptr n => (match S[n]? with
    | some (.lst xs) => .lst xs
    | some (.dct xs) => .dct xs
    | _ => .ptr n)
  | _ => d
/-- a dict's keys, its pairs -/
def keyD : D → Option Key
  | .int i => some (.inl i)
  | .str x => some (.inr x)
  | _ => none
def kD : Key → D
  | .inl i => .int i
  | .inr x => .str x
def getKD (kvs : List (Key × D)) (k : Key) : Option D := (kvs.find? fun kv => decide (kv.1 = k)).map (·.2)
def putKD (kvs : List (Key × D)) (k : Key) (d : D) : List (Key × D) :=
  if (kvs.any fun kv => decide (kv.1 = k)) = true then kvs.map (fun kv => if kv.1 = k then (kv.1, d) else kv) else kvs ++ [(k, d)]
def mergeKD (kvs more : List (Key × D)) : List (Key × D) := more.foldl (fun acc kv => putKD acc kv.1 kv.2) kvs
/-- the pairs of a display -/
def pairK : List D → Option (List (Key × D))
  | [] => some []
  | k :: d :: r => (keyD k).bind fun kk => if d.isPtr then none else (pairK r).map fun l => (kk, d) :: l
  | [_] => none
def near (a b : D) : Bool := a.shal 60 || b.shal 60
def binD : BO → D → D → Option D
  | .add, .int a, .int b => some (.int (a + b))
  | .sub, .int a, .int b => some (.int (a - b))
  | .mul, .int a, .int b => if (-(2 ^ 64) < a ∧ a < 2 ^ 64) ∨ (-(2 ^ 64) < b ∧ b < 2 ^ 64) then some (.int (a * b)) else none
  | .fdiv, .int a, .int b => if 0 < b ∧ b < 1073741824 then some (.int (a / b)) else none
  | .mod, .int a, .int b => if 0 < b then some (.int (a % b)) else none
  | .pow, .int a, .int b => if 0 ≤ b ∧ b ≤ 1000000 ∧ a.natAbs < 2 ^ 64 then some (.int (a ^ b.toNat)) else none
  | .add, .tup a, .tup b => if a.length + b.length ≤ lim then some (.tup (a ++ b)) else none
  | _, _, _ => none
def flat : D → Bool
  | .non => true | .bl _ => true | .int _ => true | .str _ => true
  | _ => false
/-- x == y -/
def eqD (a b : D) : Option Bool := if a.isPtr || b.isPtr then none else if near a b then some (a.eqv b) else none
/-- x is y, y None or both truths -/
def isD (a b : D) : Option Bool := match b with
  | .non => if a.isPtr then none else some (match a with | .non => true | _ => false)
  | .bl y => (match a with
    | .bl x => some (decide (x = y))
    | _ => none)
  | _ => none
/-- x in a row -/
def inD (x y : D) : Option Bool := match y with
  | .lst xs => if x.isPtr then none else if x.shal 60 then some (xs.any fun y => y.eqv x) else none
  | .tup xs => if flat x && xs.all flat then some (xs.any fun y => y.eqv x) else none
  | .dct kvs => (keyD x).map fun k => (getKD kvs k).isSome
  | _ => none
def ltD (p : Int → Int → Bool) (a b : D) : Option Bool := match a with
  | .int i => (match b with
    | .int j => some (p i j)
    | _ => none)
  | _ => none
def cmpB (o : CO) (a b : D) : Option Bool := match o with
  | .eq => eqD a b
  | .ne => (eqD a b).map not
  | .lt => ltD (fun i j => decide (i < j)) a b
  | .le => ltD (fun i j => decide (i ≤ j)) a b
  | .gt => ltD (fun i j => decide (j < i)) a b
  | .ge => ltD (fun i j => decide (j ≤ i)) a b
  | .is_ => isD a b
  | .isnot => (isD a b).map not
  | .in_ => inD a b
  | .notin => (inD a b).map not
def cmpD (o : CO) (a b : D) : Option D := (cmpB o a b).map .bl
def ixD : D → D → Option D
  | .tup xs, .int i => L2.atI xs i
  | .lst xs, .int i => L2.atI xs i
  | .dct kvs, y => (keyD y).bind (getKD kvs)
  | .tab kvs, .str z => tabD kvs z
  | _, _ => none
def cutD (xs : List D) (lo hi : Option Int) : List D := (xs.drop (HT.sIx xs.length 0 lo)).take (HT.sIx xs.length xs.length hi - HT.sIx xs.length 0 lo)
def slD (d : D) (lo hi : Option Int) : Option D := match d with
  | .tup xs => some (.tup (cutD xs lo hi))
  | .lst xs => some (.lst (cutD xs lo hi))
  | _ => none
def allB : List D → Option (List Bool)
  | [] => some []
  | .bl b :: r => (allB r).map (b :: ·)
  | _ :: _ => none
def biD : BI → List D → Option D
  | .len, [.tup xs] => some (.int xs.length)
  | .len, [.lst xs] => some (.int xs.length)
  | .len, [.dct xs] => some (.int xs.length)
  | .tuple, [.tup xs] => some (.tup xs)
  | .tuple, [.lst xs] => some (.tup xs)
  | .list, [.tup xs] => some (.lst xs)
  | .list, [.lst xs] => some (.lst xs)
  | .int, [.int i] => some (.int i)
  | .int, [.bl b] => some (.int (if b then 1 else 0))
  | .all, [.lst xs] => (allB xs).map fun bs => .bl (bs.all id)
  | .any, [.lst xs] => (allB xs).map fun bs => .bl (bs.any id)
  | .abs, [.int i] => some (.int (if i < 0 then -i else i))
  | _, _ => none
def isiD : D → String → Option Bool
  | .tup _, t => L2.kitB "tuple" t
  | .lst _, t => L2.kitB "list" t
  | .int _, t => L2.kitB "int" t
  | .bl _, t => L2.kitB "bool" t
  | .str _, t => L2.kitB "str" t
  | .non, t => L2.kitB "NoneType" t
  | .ptr _, _ => none
  | .dct _, _ => none
  | .tab _, _ => none
def rngD : List D → Option (List D)
  | [.int n] => if -1000000 ≤ n ∧ n ≤ 1000000 then some ((List.range n.toNat).map fun i => .int (i : Nat)) else none
  | [.int a, .int b] => if (-1000000 ≤ a ∧ a ≤ 1000000) ∧ (-1000000 ≤ b ∧ b ≤ 1000000) then some ((List.range (b - a).toNat).map fun i => .int (a + (i : Nat))) else none
  | _ => none
def zipD : List D → Option (List D)
  | [.tup xs, .tup ys] => some (List.zipWith (fun x y => .tup [x, y]) xs ys)
  | [.lst xs, .lst ys] => some (List.zipWith (fun x y => .tup [x, y]) xs ys)
  | _ => none
mutual
def bindT : CT → D → Slots → Option Slots
  | .name i, d, env => if i < env.length then some (env.set i (some d)) else none
  | .tup ts, .tup ds, env => bindTs ts ds env
  | .tup _, _, _ => none
def bindTs : CTs → List D → Slots → Option Slots
  | .nil, [], env => some env
  | .cons t r, d :: ds, env => (bindT t d env).bind fun e => bindTs r ds e
  | _, _, _ => none
end
def bindP : List Nat → List D → Slots → Option Slots
  | [], [], env => some env
  | i :: is, d :: ds, env => if i < env.length then bindP is ds (env.set i (some d)) else none
  | _, _, _ => none
def wipeS (env : Slots) : List Nat → Slots
  | [] => env
  | v :: vs => (wipeS env vs).set v none

structure Fd where
  ps : Nat
  n : Nat
  body : CSs
structure Prog where
  gl : List D
  fs : List Fd

inductive Fl where
  | nx (env : Slots) | ret (d : D) | brk (env : Slots) | ct (env : Slots)
def optCons {α : Type} : Option α → List α → List α
  | some y, ys => y :: ys
  | none, ys => ys
/-- the turns of a comprehension -/
def lcLoop (step : D → Store → R (Option D)) : List D → Store → R (List D)
  | [], S => some ([], S)
  | x :: xs, S => Bd (step x S) fun o S1 => Bd (lcLoop step xs S1) fun ys S2 => some (optCons o ys, S2)
def forLoop (step : D → Slots → Store → R Fl) : List D → Slots → Store → R Fl
  | [], env, S => some (.nx env, S)
  | x :: xs, env, S => Bd (step x env S) fun fl S1 => match fl with
    | .nx e => forLoop step xs e S1
    | .ct e => forLoop step xs e S1
    | .brk e => some (.nx e, S1)
    | .ret d => some (.ret d, S1)
def isLst (S : Store) (d : D) : Bool := match deref S d with
  | .lst _ => true
  | _ => false
/-- o.append(d) -/
def appD (o d : D) (S : Store) : R D := match o with
  | .ptr n => (match S[n]? with
    | some (.lst xs) => if xs.length < lim && !d.isPtr then some (.non, S.set n (.lst (xs ++ [d]))) else none
    | _ => none)
  | _ => none
def mtD (m : MT) (o : D) (ds : List D) (S : Store) : R D := match m with
  | .append => (match ds with
    | [d] => appD o d S
    | _ => none)
/-- d.get(k, x) -/
def getD2 (o k x : D) : Option D := match o with
  | .dct kvs => (keyD k).map fun kk => (getKD kvs kk).getD x
  | _ => none
def isDct (S : Store) (d : D) : Bool := match deref S d with
  | .dct _ => true
  | _ => false
/-- never changed from now on -/
def frzD (d : D) (S : Store) : R D := match d with
  | .ptr n => (match S[n]? with
    | some (.lst xs) => some (.lst xs, S.set n .dead)
    | some (.dct xs) => some (.dct xs, S.set n .dead)
    | _ => none)
  | _ => none
abbrev Cl := Nat → List D → Store → R D
def okPart : List D → Option (Option Int)
  | [] => some none
  | [.int i] => some (some i)
  | _ => none
section
variable (P : Prog) (cl : Cl)
mutual
def evE : CE → Slots → Store → R D
  | .var i, env, S => (match env[i]? with
    | some (some d) => some (d, S)
    | _ => none)
  | .con d, _, S => some (d, S)
  | .glob j, _, S => (match P.gl[j]? with
    | some d => some (d, S)
    | none => none)
  | .tup es, env, S => Bd (evEs es env S) fun ds S1 => if noPtr ds then some (.tup ds, S1) else none
  | .lst own es, env, S => Bd (evEs es env S) fun ds S1 => if noPtr ds then (if own then some (.ptr S1.length, S1 ++ [.lst ds]) else some (.lst ds, S1)) else none
  | .ifx t a b, env, S => Bd (evE t env S) fun d S1 => match d.toB with
    | some true => evE a env S1
    | some false => evE b env S1
    | none => none
  | .and_ a b, env, S => Bd (evE a env S) fun d S1 => match d.toB with
    | some true => evE b env S1
    | some false => some (.bl false, S1)
    | none => none
  | .or_ a b, env, S => Bd (evE a env S) fun d S1 => match d.toB with
    | some true => some (.bl true, S1)
    | some false => evE b env S1
    | none => none
  | .last a, env, S => evE a env S
  | .not_ a, env, S => Bd (evE a env S) fun d S1 => match d.toB with
    | some b => some (.bl (!b), S1)
    | none => none
  | .cmp o a b, env, S => Bd (evE a env S) fun x S1 => Bd (evE b env S1) fun y S2 => (cmpD o x (deref S2 y)).map fun d => (d, S2)
  | .bin o a b, env, S => Bd (evE a env S) fun x S1 => Bd (evE b env S1) fun y S2 => (binD o x y).map fun d => (d, S2)
  | .neg a, env, S => Bd (evE a env S) fun x S1 => match x with
    | .int i => some (.int (-i), S1)
    | _ => none
  | .ix a i, env, S => Bd (evE a env S) fun x S1 => Bd (evE i env S1) fun y S2 => (ixD (deref S2 x) y).map fun d => (d, S2)
  | .sl a lo hi, env, S => Bd (evE a env S) fun x S1 => Bd (evEs lo env S1) fun l S2 => Bd (evEs hi env S2) fun h S3 =>
    match okPart l, okPart h with
    | some l', some h' => (slD (deref S3 x) l' h').map fun d => (d, S3)
    | _, _ => none
  | .rev a, env, S => Bd (evE a env S) fun x S1 => match deref S1 x with
    | .lst xs => some (.lst xs.reverse, S1)
    | _ => none
  | .frz a, env, S => Bd (evE a env S) fun x S1 => frzD x S1
  | .dic own es, env, S => Bd (evEs es env S) fun ds S1 => match pairK ds with
    | some kvs => if kvs.length ≤ 15 then (if own then some (.ptr S1.length, S1 ++ [.dct (mergeKD [] kvs)]) else some (.dct (mergeKD [] kvs), S1)) else none
    | none => none
  | .get1 o k, env, S => Bd (evE o env S) fun x S1 => if isDct S1 x then Bd (evE k env S1) fun y S2 => (getD2 (deref S2 x) y .non).map fun d => (d, S2) else none
  | .get2 o k z, env, S => Bd (evE o env S) fun x S1 => if isDct S1 x then Bd (evE k env S1) fun y S2 => Bd (evE z env S2) fun w S3 => if w.isPtr then none else (getD2 (deref S3 x) y w).map fun d => (d, S3) else none
  | .call f es, env, S => Bd (evEs es env S) fun ds S1 => cl f ds S1
  | .bi b es, env, S => Bd (evEs es env S) fun ds S1 => (biD b (ds.map (deref S1))).map fun d => (d, S1)
  | .mt m o es, env, S => Bd (evE o env S) fun x S1 => if isLst S1 x then Bd (evEs es env S1) fun ds S2 => mtD m x ds S2 else none
  | .isi e t, env, S => Bd (evE e env S) fun x S1 => (isiD x t).map fun b => (.bl b, S1)
  | .lc elt tg it test ows, env, S => Bd (evI it env S) fun ds S1 => Bd (lcLoop (fun d S =>
      match bindT tg d (wipeS env ows) with
      | none => none
      | some env' => Bd (evTest test env' S) fun b S2 => if b then Bd (evE elt env' S2) fun y S3 => if y.isPtr then none else some (some y, S3) else some (none, S2)) ds S1) fun ys S2 =>
      if ys.length ≤ lim then some (.lst ys, S2) else none
def evTest : CEs → Slots → Store → R Bool
  | .nil, _, S => some (true, S)
  | .cons t .nil, env, S => Bd (evE t env S) fun d S1 => match d.toB with
    | some b => some (b, S1)
    | none => none
  | .cons _ (.cons _ _), _, _ => none
def evEs : CEs → Slots → Store → R (List D)
  | .nil, _, S => some ([], S)
  | .cons e r, env, S => Bd (evE e env S) fun d S1 => Bd (evEs r env S1) fun ds S2 => some (d :: ds, S2)
def evI : CI → Slots → Store → R (List D)
  | .seq e, env, S => Bd (evE e env S) fun d S1 => match d with
    | .tup xs => some (xs, S1)
    | .lst xs => some (xs, S1)
    | _ => none
  | .rng es, env, S => Bd (evEs es env S) fun ds S1 => (rngD ds).map fun xs => (xs, S1)
  | .zip es, env, S => Bd (evEs es env S) fun ds S1 => (zipD ds).map fun xs => (xs, S1)
end
def setixD (o i d : D) (S : Store) : Option Store := match o, i with
  | .ptr n, .int k => (match S[n]? with
    | some (.lst xs) => (match L2.ixN xs.length k with
      | some j => if d.isPtr then none else some (S.set n (.lst (xs.set j d)))
      | none => none)
    | some (.dct kvs) => if d.isPtr || !decide (kvs.length < lim) then none else some (S.set n (.dct (putKD kvs (.inl k) d)))
    | _ => none)
  | .ptr n, .str z => (match S[n]? with
    | some (.dct kvs) => if d.isPtr || !decide (kvs.length < lim) then none else some (S.set n (.dct (putKD kvs (.inr z) d)))
    | _ => none)
  | _, _ => none
mutual
def evS : CS → Slots → Store → R Fl
  | .expr e, env, S => Bd (evE P cl e env S) fun _ S1 => some (.nx env, S1)
  | .asg t e, env, S => Bd (evE P cl e env S) fun d S1 => match bindT t d env with
    | some env' => some (.nx env', S1)
    | none => none
  | .par is es, env, S => Bd (evEs P cl es env S) fun ds S1 => match bindP is ds env with
    | some env' => some (.nx env', S1)
    | none => none
  | .setix o i e, env, S => Bd (evE P cl e env S) fun d S1 => Bd (evE P cl o env S1) fun x S2 => Bd (evE P cl i env S2) fun k S3 => match setixD x k d S3 with
    | some S4 => some (.nx env, S4)
    | none => none
  | .ret e, env, S => Bd (evE P cl e env S) fun d S1 => some (.ret d, S1)
  | .if_ t a b, env, S => Bd (evE P cl t env S) fun d S1 => match d.toB with
    | some true => evSs a env S1
    | some false => evSs b env S1
    | none => none
  | .for_ t it b, env, S => Bd (evI P cl it env S) fun ds S1 => forLoop (fun d env S => match bindT t d env with
    | none => none
    | some env' => evSs b env' S) ds env S1
  | .pass, env, S => some (.nx env, S)
def evSs : CSs → Slots → Store → R Fl
  | .nil, env, S => some (.nx env, S)
  | .cons s r, env, S => Bd (evS s env S) fun fl S1 => match fl with
    | .nx e => evSs r e S1
    | fl => some (fl, S1)
end
end
def fin (n : Nat) (d : D) (S : Store) : R D := match d with
  | .ptr m => if m < n then some (d, S.take n) else some (d, S)
  | _ => some (d, S.take n)
/-- the f-th def, called with such data, k calls deep at most -/
def callK (P : Prog) : Nat → Cl
  | 0, _, _, _ => none
  | k + 1, f, ds, S => match P.fs[f]? with
    | none => none
    | some fd => if ds.length = fd.ps then Bd (evSs P (callK P k) fd.body (ds.map some ++ List.replicate (fd.n - fd.ps) none) S) fun fl S1 => match fl with
      | .nx _ => fin S.length .non S1
      | .ret d => fin S.length d S1
      | _ => none else none
end PC

set_option Elab.async false
set_option linter.all false
set_option maxRecDepth 100000
set_option maxHeartbeats 4000000
/-! Core, part C: the operations by values, over the heap. -/
namespace PC
open PySem PySem.Spec PyProof.Rows L2

/-! ### equality -/
mutual
def D.toPy : D → PyData
  | .non => .none
  | .bl b => .bool b
  | .int i => .int i
  | .str x => .str x
  | .tup xs => .tuple (D.toPys xs)
  | .lst xs => .list (D.toPys xs)
  | .ptr _ => .none
  | .dct _ => .none
  | .tab _ => .none
def D.toPys : List D → List PyData
  | [] => []
  | x :: xs => D.toPy x :: D.toPys xs
end
mutual
theorem eqv_py : ∀ a b : D, PyData.eqv a.toPy b.toPy = a.eqv b
  | .tup xs, b => by
    cases b with
    | tup ys => simp only [D.toPy, PyData.eqv, D.eqv]; exact eqvs_py xs ys
    | _ => simp only [D.toPy, PyData.eqv, D.eqv]
  | .lst xs, b => by
    cases b with
    | lst ys => simp only [D.toPy, PyData.eqv, D.eqv]; exact eqvs_py xs ys
    | _ => simp only [D.toPy, PyData.eqv, D.eqv]
  | .non, b => by cases b <;> simp only [D.toPy, PyData.eqv, D.eqv]
  | .bl _, b => by cases b <;> simp only [D.toPy, PyData.eqv, D.eqv]
  | .int _, b => by cases b <;> simp only [D.toPy, PyData.eqv, D.eqv]
  | .str _, b => by cases b <;> simp only [D.toPy, PyData.eqv, D.eqv]
  | .ptr _, b => by cases b <;> simp only [D.toPy, PyData.eqv, D.eqv, D.nl]
  | .dct _, b => by cases b <;> simp only [D.toPy, PyData.eqv, D.eqv, D.nl]
  | .tab _, b => by cases b <;> simp only [D.toPy, PyData.eqv, D.eqv, D.nl]
theorem eqvs_py : ∀ xs ys : List D, PyData.eqvAll (D.toPys xs) (D.toPys ys) = D.eqvs xs ys
  | [], ys => by cases ys <;> simp only [D.toPys, PyData.eqvAll, D.eqvs]
  | x :: xs, ys => by
    cases ys with
    | nil => simp only [D.toPys, PyData.eqvAll, D.eqvs]
    | cons y ys => simp only [D.toPys, PyData.eqvAll, D.eqvs]; rw [eqv_py x y, eqvs_py xs ys]
end
mutual
theorem shal_depth : ∀ (n : Nat) (d : D), d.shal n = true → d.toPy.depth ≤ n
  | n + 1, .tup xs, h => by
    simp only [D.toPy, PyData.depth]
    exact Nat.succ_le_succ (shals_depth n xs (by simpa only [D.shal] using h))
  | n + 1, .lst xs, h => by
    simp only [D.toPy, PyData.depth]
    exact Nat.succ_le_succ (shals_depth n xs (by simpa only [D.shal] using h))
  | 0, .tup _, h => by simp [D.shal] at h
  | 0, .lst _, h => by simp [D.shal] at h
  | n, .non, _ => by simp [D.toPy, PyData.depth]
  | n, .bl _, _ => by simp [D.toPy, PyData.depth]
  | n, .int _, _ => by simp [D.toPy, PyData.depth]
  | n, .str _, _ => by simp [D.toPy, PyData.depth]
  | n, .ptr _, _ => by simp [D.toPy, PyData.depth]
  | n, .dct _, _ => by simp [D.toPy, PyData.depth]
  | n, .tab _, _ => by simp [D.toPy, PyData.depth]
theorem shals_depth : ∀ (n : Nat) (xs : List D), D.shals n xs = true → PyData.depthAll (D.toPys xs) ≤ n
  | n, [], _ => by simp [D.toPys, PyData.depthAll]
  | n, x :: xs, h => by
    simp only [D.shals, Bool.and_eq_true] at h
    simp only [D.toPys, PyData.depthAll]
    exact Nat.max_le.mpr ⟨shal_depth n x h.1, shals_depth n xs h.2⟩
end
section
variable {G : GI} {F F' H : Hp} {As As' : List Addr}
mutual
theorem Rp.dp (s : Sub F H) : ∀ {v : V} {d : D}, Rp G F v d → Dp G.K H v d.toPy
  | _, _, .non => .non
  | _, _, .bl b => .bl b
  | _, _, .int i => .int i
  | _, _, .str x _ => .str x
  | _, _, .tup h t => by simp only [D.toPy]; exact .tup (s.sqT h) (RpAll.dp s t)
  | _, _, .lst h t => by simp only [D.toPy]; exact .lst (s.sqL h) (RpAll.dp s t)
theorem RpAll.dp (s : Sub F H) : ∀ {vs : List V} {ds : List D}, RpAll G F vs ds → DpAll G.K H vs (D.toPys ds)
  | _, _, .nil => .nil
  | _, _, .cons h t => .cons (Rp.dp s h) (RpAll.dp s t)
end
mutual
theorem Rp.lay : ∀ {v : V} {d : D}, Rp G F v d → d.toPy.canLay0 = true
  | _, _, .non => by simp [D.toPy, PyData.canLay0]
  | _, _, .bl b => by simp [D.toPy, PyData.canLay0]
  | _, _, .int i => by simp [D.toPy, PyData.canLay0]
  | _, _, .str x h => by simpa [D.toPy, PyData.canLay0] using h
  | _, _, .tup h t => by simp only [D.toPy, PyData.canLay0]; exact RpAll.lay t
  | _, _, .lst h t => by simp only [D.toPy, PyData.canLay0]; exact RpAll.lay t
theorem RpAll.lay : ∀ {vs : List V} {ds : List D}, RpAll G F vs ds → PyData.canLayAll0 (D.toPys ds) = true
  | _, _, .nil => by simp [D.toPys, PyData.canLayAll0]
  | _, _, .cons h t => by simp only [D.toPys, PyData.canLayAll0, Bool.and_eq_true]; exact ⟨Rp.lay h, RpAll.lay t⟩
end
end
section
variable {X : Cx}
def rEqN (K : PySem.W.Frag) : R2 := fun x y H Q => ∃ d e, Dp K H x d ∧ Dp K H y e ∧ d.canLay0 = true ∧ e.canLay0 = true ∧ min d.depth e.depth ≤ 60 ∧ Q (.bl (PyData.eqv d e)) H
def rNeN (K : PySem.W.Frag) : R2 := fun x y H Q => ∃ d e, Dp K H x d ∧ Dp K H y e ∧ d.canLay0 = true ∧ e.canLay0 = true ∧ min d.depth e.depth ≤ 60 ∧ Q (.bl (!PyData.eqv d e)) H
theorem op_eqN (hu : X.A.units + 64 < cLine) : OpR X (compareOp .Eq) (rEqN X.K) := by
  intro pins s σ H x y v u Q I rx ry h
  obtain ⟨d, e, hd, he, sd, se, hm, q⟩ := h
  obtain ⟨as, r1⟩ := Dp.reads I d x v hd rx
  obtain ⟨bs, r2⟩ := Dp.reads I e y u he ry
  exact SeqAt.compareEq_reads r1 r2 sd se (by omega) ⟨.bl _, H, I, rfl, q⟩
theorem op_neN (hu : X.A.units + 64 < cLine) : OpR X (compareOp .NotEq) (rNeN X.K) := by
  intro pins s σ H x y v u Q I rx ry h
  obtain ⟨d, e, hd, he, sd, se, hm, q⟩ := h
  obtain ⟨as, r1⟩ := Dp.reads I d x v hd rx
  obtain ⟨bs, r2⟩ := Dp.reads I e y u he ry
  exact SeqAt.compareNe_reads r1 r2 sd se (by omega) ⟨.bl _, H, I, rfl, q⟩
def rInN (K : PySem.W.Frag) : R2 := fun x y H Q => ∃ d ds, Dp K H x d ∧ Dp K H y (.list ds) ∧ d.canLay0 = true ∧ PyData.canLayAll0 ds = true ∧ d.depth ≤ 60 ∧ Q (.bl (ds.any fun z => PyData.eqv z d)) H
def rNotInN (K : PySem.W.Frag) : R2 := fun x y H Q => ∃ d ds, Dp K H x d ∧ Dp K H y (.list ds) ∧ d.canLay0 = true ∧ PyData.canLayAll0 ds = true ∧ d.depth ≤ 60 ∧ Q (.bl (!ds.any fun z => PyData.eqv z d)) H
theorem op_inN (hu : X.A.units + 64 < cLine) : OpR X (compareOp .In) (rInN X.K) := by
  intro pins s σ H x y v u Q I rx ry h
  obtain ⟨d, ds, hd, he, sd, se, hm, q⟩ := h
  obtain ⟨as, r1⟩ := Dp.reads I d x v hd rx
  obtain ⟨bs, r2⟩ := Dp.reads I (.list ds) y u he ry
  exact SeqAt.in_list_reads r2 r1 se sd (by omega) ⟨.bl _, H, I, rfl, q⟩
theorem op_notInN (hu : X.A.units + 64 < cLine) : OpR X (compareOp .NotIn) (rNotInN X.K) := by
  intro pins s σ H x y v u Q I rx ry h
  obtain ⟨d, ds, hd, he, sd, se, hm, q⟩ := h
  obtain ⟨as, r1⟩ := Dp.reads I d x v hd rx
  obtain ⟨bs, r2⟩ := Dp.reads I (.list ds) y u he ry
  exact SeqAt.notIn_list_reads r2 r1 se sd (by omega) ⟨.bl _, H, I, rfl, q⟩
theorem OpR.or {f : Value → Value → Sem Value} {r r' : R2} (h : OpR X f r) (h' : OpR X f r') : OpR X f (fun x y H Q => r x y H Q ∨ r' x y H Q) := by
  intro pins s σ H x y v u Q I rx ry q
  rcases q with q | q
  · exact h pins s σ H x y v u Q I rx ry q
  · exact h' pins s σ H x y v u Q I rx ry q
theorem any_toPy (x : D) : ∀ xs : List D, ((D.toPys xs).any fun z => PyData.eqv z x.toPy) = xs.any fun y => y.eqv x
  | [] => by simp [D.toPys]
  | y :: ys => by simp only [D.toPys, List.any_cons]; rw [eqv_py, any_toPy x ys]
end

/-! ### views -/
section
variable {G : GI} {F F' H : Hp} {As As' : List Addr} {S : Store} {v : V} {d : D} {ds : List D}
theorem deref_non {e : D} (he : deref S d = e) (hn : e.isPtr = false) (hl : ∀ xs, e ≠ .lst xs) : d = e := by
  cases d with
  | ptr n =>
    simp only [deref] at he
    split at he
    · exact absurd he.symm (hl _)
    · subst he; cases hn
    · subst he; cases hn
  | _ => exact he
theorem deref_tup (h : deref S d = .tup ds) : d = .tup ds := by
  exact deref_non h rfl (fun _ z => nomatch z)
theorem view_tup (st : StOk G As S F H) (r : RpT G As F v d) (h : deref S d = .tup ds) : ∃ a vs, v = .ref a ∧ SqT G.K F a vs ∧ SqT G.K H a vs ∧ RpAll G F vs ds := by
  have e := deref_tup h
  subst e
  have q := r.data rfl
  cases q with
  | tup h t => exact ⟨_, _, rfl, h, st.sub.sqT h, t⟩
theorem view_lst (st : StOk G As S F H) (r : RpT G As F v d) (h : deref S d = .lst ds) : ∃ a vs, v = .ref a ∧ SqL G.K H a vs ∧ RpAll G F vs ds := by
  cases d with
  | lst xs =>
    have e : (D.lst xs) = .lst ds := h
    cases e
    have q := r.data rfl
    cases q with
    | lst h t => exact ⟨_, _, rfl, st.sub.sqL h, t⟩
  | ptr n =>
    obtain ⟨a, ha, rfl⟩ := r.ptr
    simp only [deref] at h
    split at h
    · rename_i xs hx
      cases h
      obtain ⟨_, vs, e, t⟩ := (st.cells n _ a hx ha).lst
      exact ⟨a, vs, rfl, .inl (.inl e), t⟩
    · cases h
    · cases h
  | _ => cases h
theorem view_dct {ds : List (Key × D)} (st : StOk G As S F H) (r : RpT G As F v d) (h : deref S d = .dct ds) : ∃ a kvs, v = .ref a ∧ Rd H a (.dK kvs) ∧ KvOk G F kvs ds := by
  cases d with
  | dct xs =>
    have e : (D.dct xs) = .dct ds := h
    cases e
    obtain ⟨a, kvs, e, h, t⟩ := r.dct
    exact ⟨a, kvs, e, st.sub.rd h, t⟩
  | ptr n =>
    obtain ⟨a, ha, rfl⟩ := r.ptr
    simp only [deref] at h
    split at h
    · cases h
    · rename_i xs hx
      cases h
      obtain ⟨_, vs, e, t⟩ := (st.cells n _ a hx ha).dct
      exact ⟨a, vs, rfl, .inl e, t⟩
    · cases h
  | _ => cases h
theorem KvOk.get {ks : List (Key × V)} {ds : List (Key × D)} (k : Key) (h : KvOk G F ks ds) : (∀ d, getKD ds k = some d → ∃ v, valV ks k = some v ∧ Rp G F v d) ∧ (getKD ds k = none → valV ks k = none) := by
  induction h with
  | nil => exact ⟨fun d e => (by cases e), fun _ => rfl⟩
  | @cons k' v d ks ds hk r t ih =>
    unfold getKD valV at ih ⊢
    by_cases e : k' = k
    · simp only [List.find?_cons, e, decide_true, Option.map_some]
      exact ⟨fun d' q => (by cases q; exact ⟨v, rfl, r⟩), fun q => nomatch q⟩
    · simp only [List.find?_cons, e, decide_false]
      exact ih
theorem KvOk.isSome {ks : List (Key × V)} {ds : List (Key × D)} (k : Key) (h : KvOk G F ks ds) : (getKD ds k).isSome = (valV ks k).isSome := by
  obtain ⟨h1, h2⟩ := h.get k
  cases e : getKD ds k with
  | none => rw [h2 e]; rfl
  | some d =>
    obtain ⟨v, e2, _⟩ := h1 d e
    rw [e2]; rfl
theorem KvOk.any {ks : List (Key × V)} {ds : List (Key × D)} (k : Key) (h : KvOk G F ks ds) : (ks.any fun kv => decide (kv.1 = k)) = ds.any fun kv => decide (kv.1 = k) := by
  induction h with
  | nil => rfl
  | cons _ _ _ ih => simp only [List.any_cons, ih]
theorem KvOk.append {ks ks' : List (Key × V)} {ds ds' : List (Key × D)} (h : KvOk G F ks ds) (h' : KvOk G F ks' ds') : KvOk G F (ks ++ ks') (ds ++ ds') := by
  induction h with
  | nil => exact h'
  | cons h1 h2 _ ih => exact .cons h1 h2 ih
theorem KvOk.put {ks : List (Key × V)} {ds : List (Key × D)} {k : Key} {v : V} {d : D} (h : KvOk G F ks ds) (hk : keyOk k = true) (r : Rp G F v d) : KvOk G F (putK ks k v) (putKD ds k d) := by
  unfold putK putKD
  rw [h.any k]
  split
  · clear hk
    rename_i hx
    clear hx
    induction h with
    | nil => exact .nil
    | @cons k' v' d' ks ds hk' r' t ih =>
      rw [List.map_cons, List.map_cons]
      by_cases e : k' = k
      · simp only [e, if_true]; subst e; exact .cons hk' r ih
      · simp only [e, if_false]; exact .cons hk' r' ih
  · exact h.append (.cons hk r .nil)
theorem KvOk.merge {ms ks : List (Key × V)} {es ds : List (Key × D)} (h : KvOk G F ms es) : KvOk G F ks ds → KvOk G F (mergeK ks ms) (mergeKD ds es) := by
  unfold mergeK mergeKD
  induction h generalizing ks ds with
  | nil => exact id
  | cons h1 h2 _ ih => intro t; exact ih (t.put h1 h2)
theorem keyD_ok {k : Key} (r : RpT G As F v d) (h : keyD d = some k) : v = kV k ∧ keyOk k = true := by
  unfold keyD at h
  split at h
  · cases h; rcases r with r | ⟨_, _, e, _⟩ | ⟨_, _, _, e, _⟩ | ⟨_, _, e, _⟩
    · cases r; exact ⟨rfl, rfl⟩
    all_goals cases e
  · cases h; rcases r with r | ⟨_, _, e, _⟩ | ⟨_, _, _, e, _⟩ | ⟨_, _, e, _⟩
    · cases r; rename_i h; exact ⟨rfl, h⟩
    all_goals cases e
  · cases h
theorem Rp.tup_inv {ds : List D} (h : Rp G F v (.tup ds)) : ∃ a vs, v = .ref a ∧ SqT G.K F a vs ∧ RpAll G F vs ds := by
  cases h with
  | tup h t => exact ⟨_, _, rfl, h, t⟩
theorem Rp.lst_inv {ds : List D} (h : Rp G F v (.lst ds)) : ∃ a vs, v = .ref a ∧ SqL G.K F a vs ∧ RpAll G F vs ds := by
  cases h with
  | lst h t => exact ⟨_, _, rfl, h, t⟩
theorem Rp.int_inv {i : Int} (h : Rp G F v (.int i)) : v = .int i := by cases h; rfl
theorem Rp.bl_inv {i : Bool} (h : Rp G F v (.bl i)) : v = .bl i := by cases h; rfl
theorem Rp.non_inv (h : Rp G F v .non) : v = .non := by cases h; rfl
theorem RpT.int_inv {i : Int} (h : RpT G As F v (.int i)) : v = .int i := (h.data rfl).int_inv
theorem RpT.bl_inv {i : Bool} (h : RpT G As F v (.bl i)) : v = .bl i := (h.data rfl).bl_inv
theorem RpT.non_inv (h : RpT G As F v .non) : v = .non := (h.data rfl).non_inv
end

/-! ### what a def's operations ask, by values -/
section
variable {X : Cx} {G : GI}
/-- the value z may stand for d behind a greater frozen part -/
abbrev Out (G : GI) (As : List Addr) (S : Store) (F H : Hp) (d : D) (Q : VK) : Prop := ∀ F' H' z, Ext As As F F' H H' → StOk G As S F' H' → RpT G As F' z d → Q z H'
variable {As : List Addr} {S : Store} {F H : Hp} {x y : V} {a b d : D} {Q : VK}
theorem Out.val (st : StOk G As S F H) (o : Out G As S F H d Q) {z : V} (r : RpT G As F z d) : Q z H := o F H z (.refl _ _ _) st r
theorem Out.tup (st : StOk G As S F H) {vs : List V} {ds : List D} (o : Out G As S F H (.tup ds) Q) (r : RpAll G F vs ds) : ∀ p, H p = none → Q (.ref p) (upd H p (.tup vs)) := fun p hp => by
  obtain ⟨s', x'⟩ := st.alloc (o := .tup vs) hp
  exact o _ _ _ x' s' (.of (.tup (.inl (.inl upd_same)) (r.mono x'.sub)))
theorem Out.lst (st : StOk G As S F H) {vs : List V} {ds : List D} (o : Out G As S F H (.lst ds) Q) (r : RpAll G F vs ds) : ∀ p, H p = none → Q (.ref p) (upd H p (.lst vs)) := fun p hp => by
  obtain ⟨s', x'⟩ := st.alloc (o := .lst vs) hp
  exact o _ _ _ x' s' (.of (.lst (.inl (.inl upd_same)) (r.mono x'.sub)))
theorem lim_le {n : Nat} (h : n ≤ lim) : n ≤ sizeLine := Nat.le_trans h (by decide)
theorem lim_lt {n : Nat} (h : n < lim) : n < sizeLine := Nat.lt_of_lt_of_le h (by decide)

def opB : BO → Operator
  | .add => .Add | .sub => .Sub | .mul => .Mult | .fdiv => .FloorDiv | .mod => .Mod | .pow => .Pow
/-- the reading of a binary operation -/
def rB (K : PySem.W.Frag) : BO → R2
  | .add => fun x y H Q => (∃ i j, x = .int i ∧ y = .int j ∧ Q (.int (i + j)) H) ∨ rCatA K x y H Q
  | .sub => rI0 fun i j => .int (i - j)
  | .mul => rI CMul fun i j => .int (i * j)
  | .fdiv => rI CDiv fun i j => .int (i / j)
  | .mod => rI (fun _ j => 0 < j) fun i j => .int (i % j)
  | .pow => rI CPow fun i j => .int (i ^ j.toNat)
theorem opr_B (o : BO) : OpR X (binaryOp (opB o)) (rB X.K o) := by
  cases o with
  | add => exact OpR.or op_add op_catA
  | sub => exact op_sub
  | mul => exact op_mul
  | fdiv => exact op_fdiv
  | mod => exact op_mod
  | pow => exact op_pow
theorem rB_ok {o : BO} (st : StOk G As S F H) (ra : RpT G As F x a) (rb : RpT G As F y b) (h : binD o a b = some d) (q : Out G As S F H d Q) : rB G.K o x y H Q := by
  unfold binD at h
  split at h
  · cases h; exact .inl ⟨_, _, ra.int_inv, rb.int_inv, q.val st (.of (.int _))⟩
  · cases h; exact ⟨_, _, ra.int_inv, rb.int_inv, q.val st (.of (.int _))⟩
  · split at h
    · rename_i hc; cases h; exact ⟨_, _, ra.int_inv, rb.int_inv, hc, q.val st (.of (.int _))⟩
    · cases h
  · split at h
    · rename_i hc; cases h; exact ⟨_, _, ra.int_inv, rb.int_inv, hc, q.val st (.of (.int _))⟩
    · cases h
  · split at h
    · rename_i hc; cases h; exact ⟨_, _, ra.int_inv, rb.int_inv, hc, q.val st (.of (.int _))⟩
    · cases h
  · split at h
    · rename_i hc; cases h; exact ⟨_, _, ra.int_inv, rb.int_inv, hc, q.val st (.of (.int _))⟩
    · cases h
  · split at h
    · rename_i ds es hc
      cases h
      obtain ⟨p, vs, rfl, h1, t1⟩ := (ra.data rfl).tup_inv
      obtain ⟨p', ws, rfl, h2, t2⟩ := (rb.data rfl).tup_inv
      have l1 := t1.length
      have l2 := t2.length
      refine .inr ⟨p, p', vs, ws, rfl, rfl, st.sub.sqT h1, st.sub.sqT h2, by rw [l1, l2]; exact lim_le hc, fun e => ?_, fun _ e => ?_, fun _ _ => ?_⟩
      · subst e
        cases t1
        exact q.val st (.of (.tup h2 t2))
      · subst e
        cases t2
        rw [List.append_nil] at q
        exact q.val st (.of (.tup h1 t1))
      · exact q.tup st (t1.append t2)
    · cases h
  · cases h

def opC : CO → CmpOp
  | .eq => .Eq | .ne => .NotEq | .lt => .Lt | .le => .LtE | .gt => .Gt | .ge => .GtE | .is_ => .Is | .isnot => .IsNot | .in_ => .In | .notin => .NotIn
def rIsA : R2 := fun x y H Q => (y = .non ∧ Q (.bl (decide (x = .non))) H) ∨ rIsB x y H Q
def rNotA : R2 := fun x y H Q => (y = .non ∧ Q (.bl (!decide (x = .non))) H) ∨ rNotB x y H Q
def rInD (neg : Bool) : R2 := fun x y H Q => ∃ a o, y = .ref a ∧ DGet H a x o ∧ Q (.bl (if neg then !o.isSome else o.isSome)) H
theorem op_inD (hu : X.A.units + 64 < cLine) : OpR X (compareOp .In) (rInD false) := by
  intro pins s σ H x y v u Q I rx ry h
  obtain ⟨a, o, rfl, g, q⟩ := h
  obtain rfl : u = Value.ref a := ry
  exact d_in (by omega) I g rx fun s3 I3 => ⟨.bl o.isSome, H, I3, rfl, q⟩
theorem op_notInD (hu : X.A.units + 64 < cLine) : OpR X (compareOp .NotIn) (rInD true) := by
  intro pins s σ H x y v u Q I rx ry h
  obtain ⟨a, o, rfl, g, q⟩ := h
  obtain rfl : u = Value.ref a := ry
  exact d_notIn (by omega) I g rx fun s3 I3 => ⟨.bl (!o.isSome), H, I3, rfl, q⟩
def rC (K : PySem.W.Frag) : CO → R2
  | .eq => rEqN K
  | .ne => rNeN K
  | .lt => rI0 fun i j => .bl (decide (i < j))
  | .le => rI0 fun i j => .bl (decide (i ≤ j))
  | .gt => rI0 fun i j => .bl (decide (j < i))
  | .ge => rI0 fun i j => .bl (decide (j ≤ i))
  | .is_ => rIsA
  | .isnot => rNotA
  | .in_ => fun x y H Q => rInD false x y H Q ∨ rInN K x y H Q ∨ rIn K false x y H Q
  | .notin => fun x y H Q => rInD true x y H Q ∨ rNotInN K x y H Q ∨ rIn K true x y H Q
theorem opr_C (o : CO) (hu : X.A.units + 64 < cLine) : OpR X (compareOp (opC o)) (rC X.K o) := by
  cases o with
  | eq => exact op_eqN hu
  | ne => exact op_neN hu
  | lt => exact op_lt
  | le => exact op_le
  | gt => exact op_gt
  | ge => exact op_ge
  | is_ => exact OpR.or op_isN op_isBl
  | isnot => exact OpR.or op_notN op_notBl
  | in_ => exact OpR.or (op_inD hu) (OpR.or (op_inN hu) op_in_seq)
  | notin => exact OpR.or (op_notInD hu) (OpR.or (op_notInN hu) op_notIn_seq)
theorem near_min {a b : D} (h : near a b = true) : min a.toPy.depth b.toPy.depth ≤ 60 := by
  unfold near at h
  rw [Bool.or_eq_true] at h
  rcases h with h | h
  · exact Nat.le_trans (Nat.min_le_left _ _) (shal_depth _ _ h)
  · exact Nat.le_trans (Nat.min_le_right _ _) (shal_depth _ _ h)
theorem flat_np : ∀ {a : D}, flat a = true → a.isPtr = false
  | .non, _ => rfl
  | .bl _, _ => rfl
  | .int _, _ => rfl
  | .str _, _ => rfl
theorem flat_V (r : Rp G F x a) (h : flat a = true) : flatV x = true := by
  cases r <;> first | rfl | cases h
theorem flat_all : ∀ {vs : List V} {ds : List D}, RpAll G F vs ds → ds.all flat = true → vs.all flatV = true
  | _, _, .nil, _ => rfl
  | _, _, .cons r t, h => by
    rw [List.all_cons, Bool.and_eq_true] at h ⊢
    exact ⟨flat_V r h.1, flat_all t h.2⟩
theorem eqV_eqv (ra : Rp G F x a) (rb : Rp G F y b) (ha : flat a = true) (hb : flat b = true) : eqV x y = a.eqv b := by
  cases ra <;> first | (cases ha; done) | (cases rb <;> first | (cases hb; done) | simp [eqV, D.eqv])
theorem inV_any (r : Rp G F x a) (ha : flat a = true) : ∀ {vs : List V} {ds : List D}, RpAll G F vs ds → ds.all flat = true → inV x vs = ds.any fun z => z.eqv a
  | _, _, .nil, _ => rfl
  | v :: vs, d :: ds, .cons q t, h => by
    rw [List.all_cons, Bool.and_eq_true] at h
    have ih := inV_any r ha t h.2
    unfold inV at ih ⊢
    rw [List.any_cons, List.any_cons, ih, eqV_eqv q r h.1 ha]
theorem map_bl {o : Option Bool} {f : Bool → Bool} {d : D} (h : (o.map f).map D.bl = some d) : ∃ k, o = some k ∧ d = .bl (f k) := by
  cases o with
  | none => cases h
  | some k => cases h; exact ⟨k, rfl, rfl⟩
theorem map_bl0 {o : Option Bool} {d : D} (h : o.map D.bl = some d) : ∃ k, o = some k ∧ d = .bl k := by
  cases o with
  | none => cases h
  | some k => cases h; exact ⟨k, rfl, rfl⟩
theorem deref_or (st : StOk G As S F H) (rb : RpT G As F y b) (hn : (deref S b).isPtr = false) : (∃ xs, deref S b = .lst xs) ∨ deref S b = b := by
  cases b with
  | ptr n =>
    simp only [deref] at hn ⊢
    split
    · exact .inl ⟨_, rfl⟩
    · rename_i e; rw [e] at hn; cases hn
    · exact .inr rfl
  | _ => exact .inr rfl
theorem eqD_ok {k : Bool} (st : StOk G As S F H) (ra : RpT G As F x a) (rb : RpT G As F y b) (h : eqD a (deref S b) = some k) :
    ∃ d e, Dp G.K H x d ∧ Dp G.K H y e ∧ d.canLay0 = true ∧ e.canLay0 = true ∧ min d.depth e.depth ≤ 60 ∧ PyData.eqv d e = k := by
  unfold eqD at h
  split at h
  · cases h
  · rename_i hp
    rw [Bool.or_eq_true, not_or] at hp
    split at h
    · rename_i hn
      cases h
      have e1 := ra.data (by simpa using hp.1)
      rcases deref_or st rb (by simpa using hp.2) with ⟨xs, hl⟩ | e
      · obtain ⟨p, vs, rfl, hs, t⟩ := view_lst st rb hl
        rw [hl] at hn ⊢
        exact ⟨a.toPy, .list (D.toPys xs), e1.dp st.sub, .lst hs (t.dp st.sub), e1.lay, by simp only [PyData.canLay0]; exact t.lay, near_min hn, eqv_py a (.lst xs)⟩
      · rw [e] at hn hp ⊢
        have e2 := rb.data (by simpa using hp.2)
        exact ⟨a.toPy, b.toPy, e1.dp st.sub, e2.dp st.sub, e1.lay, e2.lay, near_min hn, eqv_py a b⟩
    · cases h
theorem deref_eq {e : D} (he : deref S b = e) (hn : e.isPtr = false) (hl : ∀ xs, e ≠ .lst xs) : b = e := deref_non he hn hl
theorem isD_ok {k : Bool} (ra : RpT G As F x a) (rb : RpT G As F y b) (h : isD a (deref S b) = some k) :
    (y = .non ∧ decide (x = .non) = k) ∨ ∃ i j : Bool, x = .bl i ∧ y = .bl j ∧ decide (i = j) = k := by
  unfold isD at h
  split at h
  · rename_i he
    have e := deref_eq he rfl (fun _ z => nomatch z)
    subst e
    split at h
    · cases h
    · rename_i hp
      cases h
      have e1 := ra.data (by simpa using hp)
      refine .inl ⟨rb.non_inv, ?_⟩
      cases e1 <;> simp
  · rename_i j he
    have e := deref_eq he rfl (fun _ z => nomatch z)
    subst e
    split at h
    · cases h; exact .inr ⟨_, _, ra.bl_inv, rb.bl_inv, rfl⟩
    · cases h
  · cases h
theorem ltD_ok {p : Int → Int → Bool} {k : Bool} (ra : RpT G As F x a) (rb : RpT G As F y b) (h : ltD p a (deref S b) = some k) : ∃ i j, x = .int i ∧ y = .int j ∧ p i j = k := by
  unfold ltD at h
  split at h
  · split at h
    · rename_i j he
      have e := deref_eq he rfl (fun _ z => nomatch z)
      subst e
      cases h
      exact ⟨_, _, ra.int_inv, rb.int_inv, rfl⟩
    · cases h
  · cases h
theorem inD_ok {k : Bool} (st : StOk G As S F H) (ra : RpT G As F x a) (rb : RpT G As F y b) (h : inD a (deref S b) = some k) :
    (∃ d ds, Dp G.K H x d ∧ Dp G.K H y (.list ds) ∧ d.canLay0 = true ∧ PyData.canLayAll0 ds = true ∧ d.depth ≤ 60 ∧ (ds.any fun z => PyData.eqv z d) = k) ∨
    (∃ p xs, y = .ref p ∧ SqT G.K H p xs ∧ flatV x = true ∧ xs.all flatV = true ∧ inV x xs = k) ∨
    (∃ a o, y = .ref a ∧ DGet H a x o ∧ o.isSome = k) := by
  unfold inD at h
  split at h
  · rename_i xs he
    split at h
    · cases h
    · rename_i hp
      split at h
      · rename_i hs
        cases h
        obtain ⟨p, vs, rfl, hq, t⟩ := view_lst st rb he
        have e1 := ra.data (by simpa using hp)
        exact .inl ⟨a.toPy, D.toPys xs, e1.dp st.sub, .lst hq (t.dp st.sub), e1.lay, t.lay, shal_depth _ _ hs, any_toPy a xs⟩
      · cases h
  · rename_i xs he
    split at h
    · rename_i hf
      rw [Bool.and_eq_true] at hf
      cases h
      obtain ⟨p, vs, rfl, _, hq, t⟩ := view_tup st rb he
      have e1 := ra.data (flat_np hf.1)
      exact .inr (.inl ⟨p, vs, rfl, hq, flat_V e1 hf.1, flat_all t hf.2, inV_any e1 hf.1 t hf.2⟩)
    · cases h
  · rename_i kvs he
    obtain ⟨kk, h1, h2⟩ := Option.map_eq_some_iff.mp h
    obtain ⟨p, ks, rfl, hq, t⟩ := view_dct st rb he
    obtain ⟨rfl, _⟩ := keyD_ok ra h1
    exact .inr (.inr ⟨p, _, rfl, .inl ⟨ks, kk, hq, rfl, rfl⟩, by rw [← t.isSome]; exact h2⟩)
  · cases h
theorem rC_ok {o : CO} (st : StOk G As S F H) (ra : RpT G As F x a) (rb : RpT G As F y b) (h : cmpD o a (deref S b) = some d) (q : Out G As S F H d Q) : rC G.K o x y H Q := by
  have fin : ∀ {k k' : Bool}, d = .bl k' → k = k' → Q (.bl k) H := fun {k k'} e1 e2 => by
    subst e1 e2
    exact q.val st (.of (.bl _))
  unfold cmpD at h
  cases o with
  | eq =>
    obtain ⟨k, hk, e⟩ := map_bl0 h
    obtain ⟨d', e', h1, h2, h3, h4, h5, h6⟩ := eqD_ok st ra rb hk
    exact ⟨d', e', h1, h2, h3, h4, h5, fin e h6⟩
  | ne =>
    obtain ⟨k, hk, e⟩ := map_bl h
    obtain ⟨d', e', h1, h2, h3, h4, h5, h6⟩ := eqD_ok st ra rb hk
    exact ⟨d', e', h1, h2, h3, h4, h5, fin e (by rw [h6])⟩
  | lt =>
    obtain ⟨k, hk, e⟩ := map_bl0 h
    obtain ⟨i, j, h1, h2, h3⟩ := ltD_ok ra rb hk
    exact ⟨i, j, h1, h2, fin e h3⟩
  | le =>
    obtain ⟨k, hk, e⟩ := map_bl0 h
    obtain ⟨i, j, h1, h2, h3⟩ := ltD_ok ra rb hk
    exact ⟨i, j, h1, h2, fin e h3⟩
  | gt =>
    obtain ⟨k, hk, e⟩ := map_bl0 h
    obtain ⟨i, j, h1, h2, h3⟩ := ltD_ok ra rb hk
    exact ⟨i, j, h1, h2, fin e h3⟩
  | ge =>
    obtain ⟨k, hk, e⟩ := map_bl0 h
    obtain ⟨i, j, h1, h2, h3⟩ := ltD_ok ra rb hk
    exact ⟨i, j, h1, h2, fin e h3⟩
  | is_ =>
    obtain ⟨k, hk, e⟩ := map_bl0 h
    rcases isD_ok ra rb hk with ⟨h1, h2⟩ | ⟨i, j, h1, h2, h3⟩
    · exact .inl ⟨h1, fin e h2⟩
    · exact .inr ⟨i, j, h1, h2, fin e h3⟩
  | isnot =>
    obtain ⟨k, hk, e⟩ := map_bl h
    rcases isD_ok ra rb hk with ⟨h1, h2⟩ | ⟨i, j, h1, h2, h3⟩
    · exact .inl ⟨h1, fin e (by rw [h2])⟩
    · exact .inr ⟨i, j, h1, h2, fin e (by rw [h3])⟩
  | in_ =>
    obtain ⟨k, hk, e⟩ := map_bl0 h
    rcases inD_ok st ra rb hk with ⟨d', ds, h1, h2, h3, h4, h5, h6⟩ | ⟨p, xs, h1, h2, h3, h4, h5⟩ | ⟨p, o, h1, h2, h3⟩
    · exact .inr (.inl ⟨d', ds, h1, h2, h3, h4, h5, fin e h6⟩)
    · exact .inr (.inr ⟨p, xs, h1, .inr h2, h3, h4, by rw [if_neg Bool.false_ne_true]; exact fin e h5⟩)
    · exact .inl ⟨p, o, h1, h2, by rw [if_neg Bool.false_ne_true]; exact fin e h3⟩
  | notin =>
    obtain ⟨k, hk, e⟩ := map_bl h
    rcases inD_ok st ra rb hk with ⟨d', ds, h1, h2, h3, h4, h5, h6⟩ | ⟨p, xs, h1, h2, h3, h4, h5⟩ | ⟨p, o, h1, h2, h3⟩
    · exact .inr (.inl ⟨d', ds, h1, h2, h3, h4, h5, fin e (by rw [h6])⟩)
    · exact .inr (.inr ⟨p, xs, h1, .inr h2, h3, h4, by rw [if_pos rfl]; exact fin e (by rw [h5])⟩)
    · exact .inl ⟨p, o, h1, h2, by rw [if_pos rfl]; exact fin e (by rw [h3])⟩
end
end PC

set_option Elab.async false
set_option linter.all false
set_option maxRecDepth 100000
set_option maxHeartbeats 4000000
/-! Core, part D: subscripts, built-ins, methods, by values. -/
namespace PC
open PySem PySem.Spec PyProof.Rows L2
section
variable {X : Cx} {G : GI} {As : List Addr} {S : Store} {F H : Hp} {x y : V} {a b d : D} {Q : VK}

theorem atI_rp {vs : List V} {ds : List D} (t : RpAll G F vs ds) {i : Int} (h : atI ds i = some d) : ∃ v, atI vs i = some v ∧ Rp G F v d := by
  unfold atI at h ⊢
  rw [t.length]
  cases e : ixN ds.length i with
  | none => rw [e] at h; cases h
  | some j =>
    rw [e] at h
    exact t.getD h
def rIxDct : R2 := fun x y H Q => ∃ a v, x = .ref a ∧ DGet H a y (some v) ∧ Q v H
theorem ix_dct (hu : X.A.units + 1 < cLine) : IxR X rIxDct := by
  intro value slice pins s σ H x y v u Q I rx ry h hs
  obtain ⟨a, r, rfl, g, q⟩ := h
  obtain rfl : v = Value.ref a := rx
  exact tail_any (dict_typeIs I g) slot_dict_getitem.lookup (d_getItem hu I g ry fun w' s3 I3 rw' => ⟨r, H, I3, rw', q⟩) hs
def rIxP (K : PySem.W.Frag) (w : World) : R2 := fun x y H Q => rIx K x y H Q ∨ rIxDct x y H Q ∨ rIxD K w x y H Q
theorem ix_P (hu : X.A.units + 1 < cLine) : IxR X (rIxP X.K X.w) := ix_seq.or ((ix_dct hu).or ix_kdict)
theorem deref_tab {ds : List (Str × D)} (h : deref S d = .tab ds) : d = .tab ds := by
  cases d with
  | ptr n => simp only [deref] at h; split at h <;> cases h
  | _ => exact h
theorem Rp.str_inv {z : Str} (h : Rp G F x (.str z)) : x = .str z := by cases h; rfl
theorem ixD_ok (st : StOk G As S F H) (ra : RpT G As F x a) (rb : RpT G As F y b) (h : ixD (deref S a) b = some d) (q : Out G As S F H d Q) : rIxP G.K G.w x y H Q := by
  unfold ixD at h
  split at h
  · rename_i xs i he
    obtain ⟨p, vs, rfl, _, hs, t⟩ := view_tup st ra he
    obtain ⟨v, hv, r⟩ := atI_rp t h
    exact .inl (.inr (.inl ⟨p, vs, i, v, rfl, rb.int_inv, hs, hv, q.val st (.of r)⟩))
  · rename_i xs i he
    obtain ⟨p, vs, rfl, hs, t⟩ := view_lst st ra he
    obtain ⟨v, hv, r⟩ := atI_rp t h
    exact .inl (.inl ⟨p, vs, i, v, rfl, rb.int_inv, hs, hv, q.val st (.of r)⟩)
  · rename_i bb _ _ kvs he
    cases hk : keyD bb with
    | none => rw [hk] at h; cases h
    | some kk =>
      rw [hk] at h
      obtain ⟨p, ks, rfl, hq, t⟩ := view_dct st ra he
      obtain ⟨rfl, _⟩ := keyD_ok rb hk
      obtain ⟨v, hv, r⟩ := (t.get kk).1 d h
      exact .inr (.inl ⟨p, v, rfl, .inl ⟨ks, kk, hq, rfl, hv.symm⟩, q.val st (.of r)⟩)
  · rename_i kvs z he
    have e := deref_tab he
    subst e
    obtain ⟨p, rfl, ⟨es, n, kd⟩, tk⟩ := ra.tab
    obtain ⟨u, v, e1, e2, e3⟩ := tk z d h
    exact .inr (.inr ⟨p, z, v, rfl, (rb.data rfl).str_inv, ⟨es, n, u, kd.at_, kd.lit, e1, e2⟩, q.val st (.of (e3 F))⟩)
  · cases h
theorem cut_rp {vs : List V} {ds : List D} (t : RpAll G F vs ds) (lo hi : Option Int) : RpAll G F (cutV vs lo hi) (cutD ds lo hi) := by
  unfold cutV cutD
  rw [t.length]
  exact (t.drop _).take _
theorem cut_whole {ds : List D} {lo hi : Option Int} (h : HT.sIx ds.length 0 lo = 0 ∧ HT.sIx ds.length ds.length hi = ds.length) : cutD ds lo hi = ds := by
  unfold cutD
  rw [h.1, h.2, List.drop_zero, Nat.sub_zero, List.take_length]
def rSlD (K : PySem.W.Frag) : V → Option Int → Option Int → Hp → VK → Prop := fun x lo hi H Q => rSlA K x lo hi H Q ∨ rSlL K x lo hi H Q
theorem sl_D : SlR X (rSlD X.K) := SlR.or sl_tupA sl_list
theorem slD_ok {lo' hi' : Option Int} (st : StOk G As S F H) (ra : RpT G As F x a) (h : slD (deref S a) lo' hi' = some d) (q : Out G As S F H d Q) : rSlD G.K x lo' hi' H Q := by
  unfold slD at h
  split at h
  · rename_i xs he
    cases h
    obtain ⟨p, vs, rfl, h1, hs, t⟩ := view_tup st ra he
    refine .inl ⟨p, vs, rfl, hs, fun hw => ?_, fun _ => q.tup st (cut_rp t lo' hi')⟩
    rw [t.length] at hw
    rw [cut_whole hw] at q
    exact q.val st (.of (.tup h1 t))
  · rename_i xs he
    cases h
    obtain ⟨p, vs, rfl, hs, t⟩ := view_lst st ra he
    exact .inr ⟨p, vs, rfl, hs, q.lst st (cut_rp t lo' hi')⟩
  · cases h

/-! ### built-ins -/
def biName : BI → Str
  | .len => "len" | .tuple => "tuple" | .list => "list" | .int => "int" | .all => "all" | .any => "any" | .abs => "abs"
def rBi (K : PySem.W.Frag) : BI → List V → Hp → VK → Prop
  | .len => fun xs H Q => (∃ p ys, xs = [.ref p] ∧ (SqL K H p ys ∨ SqT K H p ys) ∧ Q (.int ys.length) H) ∨ ∃ a kvs, xs = [V.ref a] ∧ Rd H a (.dK kvs) ∧ Q (.int kvs.length) H
  | .tuple => fun xs H Q => ∃ p ys, xs = [.ref p] ∧ ((SqL K H p ys ∧ ∀ l, H l = none → Q (.ref l) (upd H l (.tup ys))) ∨ (SqT K H p ys ∧ Q (.ref p) H))
  | .list => fun xs H Q => ∃ p ys, xs = [.ref p] ∧ (SqL K H p ys ∨ SqT K H p ys) ∧ ∀ l, H l = none → Q (.ref l) (upd H l (.lst ys))
  | .int => fun xs H Q => (∃ i, xs = [.int i] ∧ Q (.int i) H) ∨ ∃ k, xs = [.bl k] ∧ Q (.int (if k then 1 else 0)) H
  | .all => rAll K
  | .any => rAny K
  | .abs => fun xs H Q => ∃ i, xs = [.int i] ∧ Q (.int (if i < 0 then -i else i)) H
theorem all_not {n : Str} (h : n ≠ "__name__") : n ≠ "__name__" := h
theorem CallR.or {f : Value} {r r' : List V → Hp → VK → Prop} (h : CallR X f r) (h' : CallR X f r') : CallR X f (fun xs H Q => r xs H Q ∨ r' xs H Q) := by
  intro pins s σ H xs us Q I rs q
  rcases q with q | q
  · exact h pins s σ H xs us Q I rs q
  · exact h' pins s σ H xs us Q I rs q
theorem call_lenRd : CallR X (.builtin "len") (fun xs H Q => ∃ a kvs, xs = [V.ref a] ∧ Rd H a (.dK kvs) ∧ Q (.int kvs.length) H) := by
  intro pins s σ H xs us Q I r h
  obtain ⟨a, kvs, rfl, ha, q⟩ := h
  cases r with
  | cons r1 r2 =>
    cases r2
    cases r1
    exact d_len I ha fun t s' I' => ⟨.int kvs.length, H, I', ⟨t, rfl⟩, q⟩
theorem call_len2 : CallR X (.builtin "len") (rBi X.K .len) := CallR.or call_len_seq call_lenRd
theorem pe_bi {e : Expr} {t : TA} {p pos : Pos} (b : BI) (hc : X.calm = true) (hg : Gl X (biName b)) (hm : X.mg (biName b) = none) (ha : PA X [e] t) (he : starEach [e] X.env = (false, eval e X.env) :: starEach [] X.env) :
    PE X (.Call (.Name (biName b) p) [e] [] pos) (tCB (rBi X.K b) t) := by
  cases b with
  | len => exact pe_callB call_len2 hg hm PySem.boot_len ha (by decide) (by decide) he rfl
  | tuple => exact pe_callTy call_tuple_of hg hm (by decide +kernel) ha (by decide) (by decide) he rfl
  | list => exact pe_callTy call_list_of hg hm (by decide +kernel) ha (by decide) (by decide) he rfl
  | int => exact pe_callTy call_int1 hg hm (by decide +kernel) ha (by decide) (by decide) he rfl
  | all => exact pe_callB (cr_all hc) hg hm (by decide +kernel) ha (by decide) (by decide) he rfl
  | any => exact pe_callB (cr_any hc) hg hm (by decide +kernel) ha (by decide) (by decide) he rfl
  | abs => exact pe_callB call_abs hg hm PyProof.Rows.boot_abs ha (by decide) (by decide) he rfl
theorem allB_map : ∀ {ds : List D} {bs : List Bool}, allB ds = some bs → ∀ {vs : List V}, RpAll G F vs ds → vs = bs.map V.bl
  | [], bs, h, vs, t => by cases h; cases t; rfl
  | .bl b :: r, bs, h, vs, t => by
    simp only [allB] at h
    cases e : allB r with
    | none => rw [e] at h; cases h
    | some cs =>
      rw [e] at h
      cases h
      cases t with
      | cons h1 h2 => rw [h1.bl_inv, allB_map e h2]; rfl
  | .non :: _, _, h, _, _ => by cases h
  | .int _ :: _, _, h, _, _ => by cases h
  | .str _ :: _, _, h, _, _ => by cases h
  | .tup _ :: _, _, h, _, _ => by cases h
  | .lst _ :: _, _, h, _, _ => by cases h
  | .ptr _ :: _, _, h, _, _ => by cases h
  | .dct _ :: _, _, h, _, _ => by cases h
  | .tab _ :: _, _, h, _, _ => by cases h
theorem RpTs.one {vs : List V} (h : RpTs G As F vs [a]) : ∃ v, vs = [v] ∧ RpT G As F v a := by
  cases h with
  | cons r t => cases t; exact ⟨_, rfl, r⟩
theorem map_one {f : D → D} {ds : List D} {e : D} (h : ds.map f = [e]) : ∃ d, ds = [d] ∧ f d = e := by
  cases ds with
  | nil => cases h
  | cons d r =>
    cases r with
    | nil => exact ⟨d, rfl, by simpa using h⟩
    | cons _ _ => simp at h
theorem deref_int {i : Int} (h : deref S a = .int i) : a = .int i := by
  exact deref_non h rfl (fun _ z => nomatch z)
theorem deref_bl {i : Bool} (h : deref S a = .bl i) : a = .bl i := by
  exact deref_non h rfl (fun _ z => nomatch z)
theorem rBi_ok {bi : BI} {vs : List V} {ds : List D} (st : StOk G As S F H) (r : RpTs G As F vs ds) (h : biD bi (ds.map (deref S)) = some d) (q : Out G As S F H d Q) : rBi G.K bi vs H Q := by
  generalize hd : ds.map (deref S) = es at h
  unfold biD at h
  split at h
  · cases h
    obtain ⟨e, rfl, he⟩ := map_one hd
    obtain ⟨v, rfl, rv⟩ := r.one
    obtain ⟨p, ws, rfl, _, hs, t⟩ := view_tup st rv he
    refine .inl ⟨p, ws, rfl, .inr hs, ?_⟩
    rw [t.length]
    exact q.val st (.of (.int _))
  · cases h
    obtain ⟨e, rfl, he⟩ := map_one hd
    obtain ⟨v, rfl, rv⟩ := r.one
    obtain ⟨p, ws, rfl, hs, t⟩ := view_lst st rv he
    refine .inl ⟨p, ws, rfl, .inl hs, ?_⟩
    rw [t.length]
    exact q.val st (.of (.int _))
  · cases h
    obtain ⟨e, rfl, he⟩ := map_one hd
    obtain ⟨v, rfl, rv⟩ := r.one
    obtain ⟨p, ks, rfl, hs, t⟩ := view_dct st rv he
    refine .inr ⟨p, ks, rfl, hs, ?_⟩
    rw [t.length]
    exact q.val st (.of (.int _))
  · cases h
    obtain ⟨e, rfl, he⟩ := map_one hd
    obtain ⟨v, rfl, rv⟩ := r.one
    obtain ⟨p, ws, rfl, h1, hs, t⟩ := view_tup st rv he
    exact ⟨p, ws, rfl, .inr ⟨hs, q.val st (.of (.tup h1 t))⟩⟩
  · cases h
    obtain ⟨e, rfl, he⟩ := map_one hd
    obtain ⟨v, rfl, rv⟩ := r.one
    obtain ⟨p, ws, rfl, hs, t⟩ := view_lst st rv he
    exact ⟨p, ws, rfl, .inl ⟨hs, q.tup st t⟩⟩
  · cases h
    obtain ⟨e, rfl, he⟩ := map_one hd
    obtain ⟨v, rfl, rv⟩ := r.one
    obtain ⟨p, ws, rfl, _, hs, t⟩ := view_tup st rv he
    exact ⟨p, ws, rfl, .inr hs, q.lst st t⟩
  · cases h
    obtain ⟨e, rfl, he⟩ := map_one hd
    obtain ⟨v, rfl, rv⟩ := r.one
    obtain ⟨p, ws, rfl, hs, t⟩ := view_lst st rv he
    exact ⟨p, ws, rfl, .inl hs, q.lst st t⟩
  · cases h
    obtain ⟨e, rfl, he⟩ := map_one hd
    obtain ⟨v, rfl, rv⟩ := r.one
    have := deref_int he
    subst this
    exact .inl ⟨_, by rw [rv.int_inv], q.val st (.of (.int _))⟩
  · cases h
    obtain ⟨e, rfl, he⟩ := map_one hd
    obtain ⟨v, rfl, rv⟩ := r.one
    have := deref_bl he
    subst this
    exact .inr ⟨_, by rw [rv.bl_inv], q.val st (.of (.int _))⟩
  · rename_i xs
    obtain ⟨e, rfl, he⟩ := map_one hd
    obtain ⟨v, rfl, rv⟩ := r.one
    obtain ⟨p, ws, rfl, hs, t⟩ := view_lst st rv he
    cases eb : allB xs with
    | none => rw [eb] at h; cases h
    | some bs =>
      rw [eb] at h; cases h
      rw [allB_map eb t] at hs
      exact ⟨p, bs, rfl, hs, q.val st (.of (.bl _))⟩
  · rename_i xs
    obtain ⟨e, rfl, he⟩ := map_one hd
    obtain ⟨v, rfl, rv⟩ := r.one
    obtain ⟨p, ws, rfl, hs, t⟩ := view_lst st rv he
    cases eb : allB xs with
    | none => rw [eb] at h; cases h
    | some bs =>
      rw [eb] at h; cases h
      rw [allB_map eb t] at hs
      exact ⟨p, bs, rfl, hs, q.val st (.of (.bl _))⟩
  · cases h
    obtain ⟨e, rfl, he⟩ := map_one hd
    obtain ⟨v, rfl, rv⟩ := r.one
    have := deref_int he
    subst this
    exact ⟨_, by rw [rv.int_inv], q.val st (.of (.int _))⟩
  · cases h

/-! ### isinstance -/
theorem tyx_tup {a : Addr} {vs : List V} (h : SqT G.K H a vs) : TyX G.K H (.ref a) (.type "tuple") := by
  rcases h with (h | ⟨o, h⟩) | ⟨o, its, n, h1, h2, _⟩
  · exact .base (.tup h)
  · exact .fTuple h
  · exact .kTuple h1 h2
theorem tyx_lst {a : Addr} {vs : List V} (h : SqL G.K H a vs) : TyX G.K H (.ref a) (.type "list") := by
  rcases h with (h | ⟨o, h⟩) | ⟨o, its, n, h1, h2, _⟩
  · exact .base (.lst h)
  · exact .base (.frz h)
  · exact .kList h1 h2
theorem isi_ok {t : String} {k : Bool} (st : StOk G As S F H) (ra : RpT G As F x a) (h : isiD a t = some k) (q : Out G As S F H (.bl k) Q) : rIsi G.K [x, .ty t] H Q := by
  unfold isiD at h
  split at h
  · obtain ⟨p, ws, rfl, h1, _⟩ := (ra.data rfl).tup_inv
    exact ⟨_, _, _, _, k, rfl, .ty t, tyx_tup (st.sub.sqT h1), kit_ty h, q.val st (.of (.bl _))⟩
  · obtain ⟨p, ws, rfl, h1, _⟩ := (ra.data rfl).lst_inv
    exact ⟨_, _, _, _, k, rfl, .ty t, tyx_lst (st.sub.sqL h1), kit_ty h, q.val st (.of (.bl _))⟩
  · have e := ra.int_inv
    subst e
    exact ⟨_, _, _, _, k, rfl, .ty t, .base (.int _), kit_ty h, q.val st (.of (.bl _))⟩
  · have e := ra.bl_inv
    subst e
    exact ⟨_, _, _, _, k, rfl, .ty t, .base (.bl _), kit_ty h, q.val st (.of (.bl _))⟩
  · have e := ra.data rfl
    cases e
    exact ⟨_, _, _, _, k, rfl, .ty t, .base (.str _), kit_ty h, q.val st (.of (.bl _))⟩
  · have e := ra.non_inv
    subst e
    exact ⟨_, _, _, _, k, rfl, .ty t, .base .non, kit_ty h, q.val st (.of (.bl _))⟩
  · cases h
  · cases h
  · cases h

/-! ### methods of lists, stores -/
theorem append_ok {S' : Store} (st : StOk G As S F H) (ra : RpT G As F x a) (rb : RpT G As F y b) (h : appD a b S = some (d, S'))
    (q : ∀ H' z, Ext As As F F H H' → StOk G As S' F H' → RpT G As F z d → Q z H') : rAppend x [y] H Q := by
  unfold appD at h
  split at h
  · split at h
    · rename_i xs hS
      split at h
      · rename_i hc
        rw [Bool.and_eq_true] at hc
        cases h
        obtain ⟨p, hp, rfl⟩ := ra.ptr
        obtain ⟨hF, ws, e, t⟩ := (st.cells _ _ p hS hp).lst
        obtain ⟨s', x'⟩ := st.write (o := .lst (ws ++ [y])) (c' := .lst (xs ++ [b])) hp hS hF (t.append (.cons (rb.data (by simpa using hc.2)) .nil))
        exact ⟨p, ws, y, rfl, rfl, e, by rw [t.length]; exact lim_lt (by simpa using hc.1), q _ _ x' s' (.of .non)⟩
      · cases h
    · cases h
  · cases h
theorem ty_lst (st : StOk G As S F H) (ra : RpT G As F x a) (h : isLst S a = true) : tyV G.K "list" x H := by
  unfold isLst at h
  split at h
  · rename_i xs he
    obtain ⟨p, vs, rfl, hs, _⟩ := view_lst st ra he
    exact .inl ⟨rfl, vs, hs⟩
  · cases h
def rSetDct (o i v : V) (H : Hp) (Q : Hp → Prop) : Prop := ∃ a H', o = .ref a ∧ DPut H a i v H' ∧ Q H'
theorem put_ok {v : V} {p : Addr} {n : Nat} {kvs : List (Key × D)} {kk : Key} {dd : D} {Q : Hp → Prop} (st : StOk G As S F H) (hS : S[n]? = some (.dct kvs)) (hp : As[n]? = some p) (hk : keyOk kk = true) (rv : Rp G F v dd) (hl : kvs.length < lim)
    (q : ∀ H', Ext As As F F H H' → StOk G As (S.set n (.dct (putKD kvs kk dd))) F H' → Q H') : rSetDct (.ref p) (kV kk) v H Q := by
  obtain ⟨hF, ks, e, t⟩ := (st.cells n _ p hS hp).dct
  obtain ⟨s', x'⟩ := st.write (o := .dK (putK ks kk v)) (c' := .dct (putKD kvs kk dd)) hp hS hF (t.put hk rv)
  exact ⟨p, _, rfl, .inl ⟨ks, kk, e, rfl, by rw [t.length]; exact lim_lt hl, rfl⟩, q _ x' s'⟩
theorem setix_ok {o i v : V} {od idd dd : D} {S' : Store} {Q : Hp → Prop} (st : StOk G As S F H) (ro : RpT G As F o od) (ri : RpT G As F i idd) (rv : RpT G As F v dd) (h : setixD od idd dd S = some S')
    (q : ∀ H', Ext As As F F H H' → StOk G As S' F H' → Q H') : rSetL o i v H Q ∨ rSetDct o i v H Q := by
  unfold setixD at h
  split at h
  · rename_i n k
    split at h
    · rename_i xs hS
      split at h
      · rename_i j hj
        split at h
        · cases h
        · rename_i hp'
          cases h
          obtain ⟨p, hp, rfl⟩ := ro.ptr
          obtain ⟨hF, ws, e, t⟩ := (st.cells n _ p hS hp).lst
          obtain ⟨s', x'⟩ := st.write (o := .lst (ws.set j v)) (c' := .lst (xs.set j dd)) hp hS hF (t.set j (rv.data (by simpa using hp')))
          exact .inl ⟨p, ws, k, j, rfl, ri.int_inv, e, by rw [t.length]; exact hj, q _ x' s'⟩
      · cases h
    · rename_i kvs hS
      split at h
      · cases h
      · rename_i hc
        rw [Bool.or_eq_true, not_or] at hc
        cases h
        obtain ⟨p, hp, rfl⟩ := ro.ptr
        rw [ri.int_inv]
        exact .inr (put_ok (kk := .inl k) st hS hp rfl (rv.data (by simpa using hc.1)) (by simpa using hc.2) q)
    · cases h
  · rename_i n z
    split at h
    · rename_i kvs hS
      split at h
      · cases h
      · rename_i hc
        rw [Bool.or_eq_true, not_or] at hc
        cases h
        obtain ⟨p, hp, rfl⟩ := ro.ptr
        obtain ⟨rfl, ok⟩ := keyD_ok (k := .inr z) ri rfl
        exact .inr (put_ok (kk := .inr z) st hS hp ok (rv.data (by simpa using hc.1)) (by simpa using hc.2) q)
    · cases h
  · cases h
/-! ### get, reversed, frozen -/
theorem isD_dct (st : StOk G As S F H) (ra : RpT G As F x a) (h : isDct S a = true) : ∃ p, x = .ref p ∧ IsD H p := by
  unfold isDct at h
  split at h
  · rename_i xs he
    obtain ⟨p, ks, rfl, hs, _⟩ := view_dct st ra he
    exact ⟨p, rfl, .inl ⟨ks, hs⟩⟩
  · cases h
theorem get2_ok {z : V} {c : D} (st : StOk G As S F H) (ra : RpT G As F x a) (rb : RpT G As F y b) (rc : Rp G F z c) (h : getD2 (deref S a) b c = some d) : ∃ p o, x = .ref p ∧ DGet H p y o ∧ Rp G F (o.getD z) d := by
  unfold getD2 at h
  split at h
  · rename_i kvs he
    obtain ⟨kk, h1, h2⟩ := Option.map_eq_some_iff.mp h
    obtain ⟨p, ks, rfl, hs, t⟩ := view_dct st ra he
    obtain ⟨rfl, _⟩ := keyD_ok rb h1
    refine ⟨p, _, rfl, .inl ⟨ks, kk, hs, rfl, rfl⟩, ?_⟩
    cases e : getKD kvs kk with
    | none =>
      rw [e] at h2
      rw [(t.get kk).2 e]
      have e2 : c = d := h2
      exact e2 ▸ rc
    | some d' =>
      rw [e] at h2
      obtain ⟨v, hv, r⟩ := (t.get kk).1 d' e
      rw [hv]
      have e2 : d' = d := h2
      exact e2 ▸ r
  · cases h
theorem StOk.freezeC {n : Nat} {p : Addr} {o : HO} {c : Cell} (st : StOk G As S F H) (hS : S[n]? = some c) (hp : As[n]? = some p) (hF : F p = none) (hH : H p = some o) :
    StOk G As (S.set n .dead) (upd F p o) H ∧ Ext As As F (upd F p o) H H := by
  have sF : Sub F (upd F p o) := Sub.new hF
  refine ⟨⟨fun b u e => ?_, by rw [List.length_set]; exact st.len, st.nd, st.there, fun k c b e1 e2 => ?_⟩, ⟨.refl _, sF, fun _ _ e _ => e, fun _ m => .inl m, fun b u e => ?_⟩⟩
  · by_cases q : b = p
    · subst q; rw [upd_same] at e; cases e; exact hH
    · rw [upd_ne q] at e; exact st.sub _ _ e
  · by_cases q : k = n
    · subst q
      have hk : k < S.length := (List.getElem?_eq_some_iff.mp hS).1
      rw [List.getElem?_set_self hk] at e1
      cases e1
      exact .inl rfl
    · rw [List.getElem?_set_ne (Ne.symm q)] at e1
      have ne : b ≠ p := fun z => q (nd_ix st.nd (z ▸ e2) hp)
      exact (st.cells k c b e1 e2).keep sF (fun f => by rw [upd_ne ne]; exact f) fun o e => e
  · by_cases q : b = p
    · subst q; exact .inr (.inl (List.mem_of_getElem? hp))
    · rw [upd_ne q] at e; exact .inl e
theorem frz_ok {S' : Store} (st : StOk G As S F H) (ra : RpT G As F x a) (h : frzD a S = some (d, S')) : ∃ F', Ext As As F F' H H ∧ StOk G As S' F' H ∧ RpT G As F' x d := by
  unfold frzD at h
  split at h
  · rename_i n
    obtain ⟨p, hp, rfl⟩ := ra.ptr
    split at h
    · rename_i xs hS
      cases h
      obtain ⟨hF, vs, e, t⟩ := (st.cells n _ p hS hp).lst
      obtain ⟨s', x'⟩ := st.freezeC hS hp hF e
      exact ⟨_, x', s', .of (.lst (.inl (.inl upd_same)) (t.mono x'.sub))⟩
    · rename_i xs hS
      cases h
      obtain ⟨hF, vs, e, t⟩ := (st.cells n _ p hS hp).dct
      obtain ⟨s', x'⟩ := st.freezeC hS hp hF e
      exact ⟨_, x', s', .inr (.inr (.inl ⟨p, vs, xs, rfl, rfl, .inl upd_same, t.mono x'.sub⟩))⟩
    · cases h
  · cases h
end
end PC

set_option Elab.async false
set_option linter.all false
set_option maxRecDepth 100000
set_option maxHeartbeats 4000000
/-! Core, part E: the readings of the small syntax, and that they give what the rules ask. -/
namespace PC
open PySem PySem.Spec PyProof.Rows L2

theorem PE.imp {X : Cx} {e : Expr} {t t' : TE} (h : PE X e t) (i : ∀ σ H Q, t' σ H Q → t σ H Q) : PE X e t' := ⟨fun pins s σ H Q I q => h.run pins s σ H Q I (i _ _ _ q)⟩
theorem PT.imp {X : Cx} {e : Expr} {t t' : TT} (h : PT X e t) (i : ∀ σ H Q, t' σ H Q → t σ H Q) : PT X e t' := ⟨fun pins s σ H Q I q => h.run pins s σ H Q I (i _ _ _ q)⟩
theorem PW.imp {X : Cx} {e : Expr} {t t' : TT} (h : PW X e t) (i : ∀ σ H Q, t' σ H Q → t σ H Q) : PW X e t' := ⟨fun wh pins s σ H Q I q => h.run wh pins s σ H Q I (i _ _ _ q)⟩
theorem PA.imp {X : Cx} {es : List Expr} {t t' : TA} (h : PA X es t) (i : ∀ σ H Q, t' σ H Q → t σ H Q) : PA X es t' := ⟨fun pos pins s σ H Q I q => h.run pos pins s σ H Q I (i _ _ _ q)⟩
theorem PO.imp {X : Cx} {e : Option Expr} {t t' : TO} (h : PO X e t) (i : ∀ σ H Q, t' σ H Q → t σ H Q) : PO X e t' := by
  obtain ⟨r⟩ := h
  exact ⟨fun pins s σ H Q I q => r pins s σ H Q I (i _ _ _ q)⟩
theorem PTs.imp {X : Cx} {es : List Expr} {t t' : TT} (h : PTs X es t) (i : ∀ σ H Q, t' σ H Q → t σ H Q) : PTs X es t' := ⟨fun pins s σ H Q I q => h.run pins s σ H Q I (i _ _ _ q)⟩
theorem PI.imp {X : Cx} {tg it : Expr} {t t' : TI} (h : PI X tg it t) (i : ∀ σ H Q, t' σ H Q → t σ H Q) : PI X tg it t' := ⟨fun pins s σ H Q I q => h.run pins s σ H Q I (i _ _ _ q)⟩
theorem PG.imp {X : Cx} {tg : Expr} {t t' : TG} (h : PG X tg t) (i : ∀ v σ H Q, t' v σ H Q → t v σ H Q) : PG X tg t' := ⟨fun pins s σ H v u Q I r q => h.run pins s σ H v u Q I r (i _ _ _ _ q)⟩
theorem PGs.imp {X : Cx} {tg : List Expr} {t t' : TGs} (h : PGs X tg t) (i : ∀ v σ H Q, t' v σ H Q → t v σ H Q) : PGs X tg t' := ⟨fun pins s σ H v u Q I r q => h.run pins s σ H v u Q I r (i _ _ _ _ q)⟩
theorem PS.imp {X : Cx} {st : Stmt} {t t' : TS} (h : PS X st t) (i : ∀ D σ H, t' D σ H → t D σ H) : PS X st t' := ⟨fun pins s σ H D I q => h.run pins s σ H D I (i _ _ _ q)⟩
theorem PSs.imp {X : Cx} {st : List Stmt} {t t' : TS} (h : PSs X st t) (i : ∀ D σ H, t' D σ H → t D σ H) : PSs X st t' := ⟨fun pins s σ H D I q => h.run pins s σ H D I (i _ _ _ q)⟩
theorem PI.or {X : Cx} {tg it : Expr} {t t' : TI} (h : PI X tg it t) (h' : PI X tg it t') : PI X tg it (fun σ H R => t σ H R ∨ t' σ H R) := ⟨fun pins s σ H Q I q => by
  rcases q with q | q
  · exact h.run pins s σ H Q I q
  · exact h'.run pins s σ H Q I q⟩

section
variable (G : GI)
/-- the reading of an evaluation -/
def tX {α β : Type} (ev : Slots → Store → R α) (rel : List Addr → Hp → β → α → Prop) : L2.St → Hp → (β → Hp → Prop) → Prop := fun σ H Q =>
  ∃ (As : List Addr) (F : Hp) (env : Slots) (S : Store) (a : α) (S' : Store), StOk G As S F H ∧ EnvOk G As F env σ ∧ ev env S = some (a, S') ∧
    ∀ (As' : List Addr) (F' H' : Hp) (b : β), Ext As As' F F' H H' → StOk G As' S' F' H' → rel As' F' b a → Q b H'
variable (P : Prog) (cl : Cl)
def tE (c : CE) : TE := tX G (evE P cl c) fun As F v d => RpT G As F v d
def evT (c : CE) (env : Slots) (S : Store) : R Bool := Bd (evE P cl c env S) fun d S1 => match d.toB with
  | some b => some (b, S1)
  | none => none
def tT (c : CE) : TT := tX G (evT P cl c) fun _ _ b b' => b = b'
def tA (es : CEs) : TA := tX G (evEs P cl es) fun As F vs ds => RpTs G As F vs ds
def evO (es : CEs) (env : Slots) (S : Store) : R (Option Int) := Bd (evEs P cl es env S) fun ds S1 => match okPart ds with
  | some o => some (o, S1)
  | none => none
def tO (es : CEs) : TO := tX G (evO P cl es) fun _ _ o o' => o = o'
def tTs (es : CEs) : TT := tX G (evTest P cl es) fun _ _ b b' => b = b'
/-- J walks over ds -/
def Walks (F : Hp) (ds : List D) (J : It) : Prop := ∃ (Gp : Hp → Prop) (Y : Nat → Hp → V → Hp → Prop), Walk J ds.length Gp Y ∧ (∀ F' H', Sub F F' → Sub F' H' → Gp H') ∧
  ∀ (i : Nat) (d : D) (H0 : Hp) (x : V) (H1 : Hp) (As : List Addr) (S : Store) (F' : Hp), ds[i]? = some d → Y i H0 x H1 → Sub F F' → StOk G As S F' H0 →
    ∃ F2, Ext As As F' F2 H0 H1 ∧ StOk G As S F2 H1 ∧ Rp G F2 x d
def tI (it : CI) : TI := tX G (evI P cl it) fun _ F J ds => Walks G F ds J
mutual
def slotsT : CT → List Nat
  | .name i => [i]
  | .tup ts => slotsTs ts
def slotsTs : CTs → List Nat
  | .nil => []
  | .cons t r => slotsT t ++ slotsTs r
end
def tG (t : CT) : TG := fun v σ H Q => ∃ (As : List Addr) (F : Hp) (env : Slots) (S : Store) (d : D) (env' : Slots), StOk G As S F H ∧ EnvOk G As F env σ ∧ RpT G As F v d ∧ bindT t d env = some env' ∧
  ∀ σ', EnvOk G As F env' σ' → (∀ j, j ∉ slotsT t → σ'[j]? = σ[j]?) → Q σ' H
def tGs (ts : CTs) : TGs := fun vs σ H Q => ∃ (As : List Addr) (F : Hp) (env : Slots) (S : Store) (ds : List D) (env' : Slots), StOk G As S F H ∧ EnvOk G As F env σ ∧ RpTs G As F vs ds ∧ bindTs ts ds env = some env' ∧
  ∀ σ', EnvOk G As F env' σ' → (∀ j, j ∉ slotsTs ts → σ'[j]? = σ[j]?) → Q σ' H
/-- an end of a statement -/
def FlOk (D : Ends) (As : List Addr) (F : Hp) (H : Hp) : Fl → Prop
  | .nx env => ∀ σ, EnvOk G As F env σ → D.nx σ H
  | .ret d => ∀ v, RpT G As F v d → D.rt v H
  | .brk env => ∀ σ, EnvOk G As F env σ → D.bk σ H
  | .ct env => ∀ σ, EnvOk G As F env σ → D.ct σ H
def tF (ev : Slots → Store → R Fl) : TS := fun D σ H => ∃ (As : List Addr) (F : Hp) (env : Slots) (S : Store) (fl : Fl) (S' : Store), StOk G As S F H ∧ EnvOk G As F env σ ∧ ev env S = some (fl, S') ∧
  ∀ (As' : List Addr) (F' H' : Hp), Ext As As' F F' H H' → StOk G As' S' F' H' → FlOk G D As' F' H' fl
end

section
variable {G : GI} {P : Prog} {cl : Cl} {σ : L2.St} {H : Hp}
theorem tX.mk {α β : Type} {ev : Slots → Store → R α} {rel : List Addr → Hp → β → α → Prop} {Q : β → Hp → Prop} {As : List Addr} {F : Hp} {env : Slots} {S : Store} {a : α} {S' : Store} (st : StOk G As S F H) (en : EnvOk G As F env σ) (h : ev env S = some (a, S'))
    (k : ∀ (As' : List Addr) (F' H' : Hp) (b : β), Ext As As' F F' H H' → StOk G As' S' F' H' → rel As' F' b a → Q b H') : tX G ev rel σ H Q := ⟨As, F, env, S, a, S', st, en, h, k⟩
/-- the left one, then what follows in the same names -/
theorem tX.bd {α β γ δ : Type} {e1 : Slots → Store → R α} {e2 : α → Slots → Store → R γ} {rel1 : List Addr → Hp → β → α → Prop} {rel : List Addr → Hp → δ → γ → Prop} {Q : δ → Hp → Prop} {Q1 : β → Hp → Prop}
    (h : tX G (fun env S => Bd (e1 env S) fun a S1 => e2 a env S1) rel σ H Q)
    (k : ∀ (b : β) (a : α) (H1 : Hp) (As1 : List Addr) (F1 : Hp) (env : Slots) (S1 : Store) (c : γ) (S2 : Store), StOk G As1 S1 F1 H1 → EnvOk G As1 F1 env σ → rel1 As1 F1 b a → e2 a env S1 = some (c, S2) →
      (∀ (As' : List Addr) (F' H' : Hp) (b : δ), Ext As1 As' F1 F' H1 H' → StOk G As' S2 F' H' → rel As' F' b c → Q b H') → Q1 b H1) : tX G e1 rel1 σ H Q1 := by
  obtain ⟨As, F, env, S, c, S2, st, en, ev, q⟩ := h
  obtain ⟨a, S1, h1, h2⟩ := Bd_eq ev
  exact ⟨As, F, env, S, a, S1, st, en, h1, fun As1 F1 H1 b x st1 r => k b a H1 As1 F1 env S1 c S2 st1 (en.mono x.pre x.sub) r h2 fun As' F' H' b' x' st' r' => q As' F' H' b' (x.trans x') st' r'⟩
theorem tX.congr {α β : Type} {ev ev' : Slots → Store → R α} {rel : List Addr → Hp → β → α → Prop} {Q : β → Hp → Prop} (h : tX G ev rel σ H Q) (e : ∀ env S, ev env S = ev' env S) : tX G ev' rel σ H Q := by
  obtain ⟨As, F, env, S, a, S', st, en, hv, q⟩ := h
  exact ⟨As, F, env, S, a, S', st, en, by rw [← e]; exact hv, q⟩
variable {c a b t : CE} {es lo hi : CEs}
theorem toB_bl {d : D} {k : Bool} (h : d.toB = some k) : d = .bl k := by
  cases d <;> first | (cases h; rfl) | cases h

/-! ### expressions -/
theorem imp_var {i : Nat} {Q : VK} (h : tE G P cl (.var i) σ H Q) : tVar i σ H Q := by
  obtain ⟨As, F, env, S, d, S', st, en, ev, q⟩ := h
  simp only [evE] at ev
  split at ev
  · rename_i d' hd
    cases ev
    obtain ⟨v, e, r⟩ := en.at_ i d hd
    exact ⟨v, e, q _ _ _ v (.refl _ _ _) st r⟩
  · cases ev
theorem imp_con {d : D} {v : V} {Q : VK} (h : tE G P cl (.con d) σ H Q) (r : ∀ F, Rp G F v d) : tC v σ H Q := by
  obtain ⟨As, F, env, S, d', S', st, en, ev, q⟩ := h
  simp only [evE] at ev
  cases ev
  exact q _ _ _ v (.refl _ _ _) st (.of (r F))
theorem imp_glob {j : Nat} {d : D} {v : V} {Q : VK} (hd : P.gl[j]? = some d) (h : tE G P cl (.glob j) σ H Q) (r : ∀ As F, RpT G As F v d) : tC v σ H Q := by
  obtain ⟨As, F, env, S, d', S', st, en, ev, q⟩ := h
  simp only [evE, hd] at ev
  cases ev
  exact q _ _ _ v (.refl _ _ _) st (r As F)
theorem imp_nil {Q : List V → Hp → Prop} (h : tA G P cl .nil σ H Q) : tNil σ H Q := by
  obtain ⟨As, F, env, S, ds, S', st, en, ev, q⟩ := h
  simp only [evEs] at ev
  cases ev
  exact q _ _ _ [] (.refl _ _ _) st .nil
theorem imp_cons {Q : List V → Hp → Prop} (h : tA G P cl (.cons a es) σ H Q) : tCons (tE G P cl a) (tA G P cl es) σ H Q := by
  refine tX.bd (rel1 := fun As F v d => RpT G As F v d) (h.congr fun env S => by simp only [evEs]; rfl) fun v d H1 As1 F1 env S1 ds S2 st en r h2 k => ?_
  obtain ⟨ds', S3, h3, h4⟩ := Bd_eq h2
  cases h4
  exact tX.mk st en h3 fun As' F' H' vs x st' rs => k As' F' H' (v :: vs) x st' (.cons (r.mono x.pre x.sub) rs)
theorem lenEs : ∀ {es : CEs} {env : Slots} {S : Store} {ds : List D} {S' : Store}, evEs P cl es env S = some (ds, S') → ∀ {n : Nat}, (∀ (m : Nat), m = n → True) → True := fun _ => fun _ => trivial
def cnt : CEs → Nat
  | .nil => 0
  | .cons _ r => cnt r + 1
theorem cnt_len : ∀ {es : CEs} {env : Slots} {S : Store} {ds : List D} {S' : Store}, evEs P cl es env S = some (ds, S') → ds.length = cnt es
  | .nil, env, S, ds, S', h => by simp only [evEs] at h; cases h; rfl
  | .cons e r, env, S, ds, S', h => by
    simp only [evEs] at h
    obtain ⟨d, S1, _, h2⟩ := Bd_eq h
    obtain ⟨ds', S2, h3, h4⟩ := Bd_eq h2
    cases h4
    have ih := cnt_len h3
    simp [cnt, ih]
theorem imp_tup {Q : VK} (hl : cnt es ≤ 1000) (h : tE G P cl (.tup es) σ H Q) : tTup (tA G P cl es) σ H Q := by
  obtain ⟨As, F, env, S, d, S', st, en, ev, q⟩ := h
  simp only [evE] at ev
  obtain ⟨ds, S1, h1, h2⟩ := Bd_eq ev
  split at h2
  · rename_i np
    cases h2
    refine tX.mk st en h1 fun As' F' H' vs x st' rs => ⟨by rw [rs.length, cnt_len h1]; exact Nat.le_trans hl (by decide), ?_⟩
    exact Out.tup st' (fun F2 H2 z x2 s2 r2 => q _ _ _ z (x.trans x2) s2 r2) (rs.all np)
  · cases h2
theorem imp_lst {own : Bool} {Q : VK} (hl : cnt es ≤ 1000) (h : tE G P cl (.lst own es) σ H Q) : tLst (tA G P cl es) σ H Q := by
  obtain ⟨As, F, env, S, d, S', st, en, ev, q⟩ := h
  simp only [evE] at ev
  obtain ⟨ds, S1, h1, h2⟩ := Bd_eq ev
  split at h2
  · rename_i np
    refine tX.mk st en h1 fun As' F' H' vs x st' rs => ⟨by rw [rs.length, cnt_len h1]; exact Nat.le_trans hl (by decide), ?_⟩
    cases own with
    | false =>
      rw [if_neg Bool.false_ne_true] at h2
      cases h2
      exact Out.lst st' (fun F2 H2 z x2 s2 r2 => q _ _ _ z (x.trans x2) s2 r2) (rs.all np)
    | true =>
      rw [if_pos rfl] at h2
      cases h2
      intro p hp
      obtain ⟨s2, x2, e2⟩ := st'.allocP (o := .lst vs) (c' := .lst ds) hp (rs.all np)
      exact q _ _ _ _ (x.trans x2) s2 (.inr (.inl ⟨_, p, rfl, e2, rfl⟩))
  · cases h2
theorem imp_ifx {Q : VK} (h : tE G P cl (.ifx t a b) σ H Q) : tIf (tT G P cl t) (tE G P cl a) (tE G P cl b) σ H Q := by
  obtain ⟨As, F, env, S, d, S', st, en, ev, q⟩ := h
  simp only [evE] at ev
  obtain ⟨k, S1, h1, h2⟩ := Bd_eq ev
  split at h2
  · rename_i hk
    refine tX.mk (a := true) (S' := S1) st en (by simp only [evT, h1, Bd_some, hk]) fun As' F' H' c x st' rs => ?_
    subst rs
    rw [if_pos rfl]
    exact tX.mk st' (en.mono x.pre x.sub) h2 fun _ _ _ _ x2 s2 r2 => q _ _ _ _ (x.trans x2) s2 r2
  · rename_i hk
    refine tX.mk (a := false) (S' := S1) st en (by simp only [evT, h1, Bd_some, hk]) fun As' F' H' c x st' rs => ?_
    subst rs
    rw [if_neg Bool.false_ne_true]
    exact tX.mk st' (en.mono x.pre x.sub) h2 fun _ _ _ _ x2 s2 r2 => q _ _ _ _ (x.trans x2) s2 r2
  · cases h2
theorem imp_andV {Q : VK} (h : tE G P cl (.and_ a b) σ H Q) : tAndV (tE G P cl a) (tE G P cl b) σ H Q := by
  obtain ⟨As, F, env, S, d, S', st, en, ev, q⟩ := h
  simp only [evE] at ev
  obtain ⟨k, S1, h1, h2⟩ := Bd_eq ev
  refine tX.mk st en h1 fun As' F' H' v x st' r => ?_
  split at h2
  · rename_i hk
    have := toB_bl hk; subst this
    refine ⟨true, r.bl_inv, ?_⟩
    rw [if_pos rfl]
    exact tX.mk st' (en.mono x.pre x.sub) h2 fun _ _ _ _ x2 s2 r2 => q _ _ _ _ (x.trans x2) s2 r2
  · rename_i hk
    have := toB_bl hk; subst this
    refine ⟨false, r.bl_inv, ?_⟩
    rw [if_neg Bool.false_ne_true]
    cases h2
    exact q _ _ _ _ x st' (.of (.bl _))
  · cases h2
theorem imp_orV {Q : VK} (h : tE G P cl (.or_ a b) σ H Q) : tOrV (tE G P cl a) (tE G P cl b) σ H Q := by
  obtain ⟨As, F, env, S, d, S', st, en, ev, q⟩ := h
  simp only [evE] at ev
  obtain ⟨k, S1, h1, h2⟩ := Bd_eq ev
  refine tX.mk st en h1 fun As' F' H' v x st' r => ?_
  split at h2
  · rename_i hk
    have := toB_bl hk; subst this
    refine ⟨true, r.bl_inv, ?_⟩
    rw [if_pos rfl]
    cases h2
    exact q _ _ _ _ x st' (.of (.bl _))
  · rename_i hk
    have := toB_bl hk; subst this
    refine ⟨false, r.bl_inv, ?_⟩
    rw [if_neg Bool.false_ne_true]
    exact tX.mk st' (en.mono x.pre x.sub) h2 fun _ _ _ _ x2 s2 r2 => q _ _ _ _ (x.trans x2) s2 r2
  · cases h2
theorem imp_last {Q : VK} (h : tE G P cl (.last a) σ H Q) : tE G P cl a σ H Q := h.congr fun env S => by simp only [evE]
theorem imp_notV {Q : VK} (h : tE G P cl (.not_ a) σ H Q) : tNotV (tE G P cl a) σ H Q := by
  obtain ⟨As, F, env, S, d, S', st, en, ev, q⟩ := h
  simp only [evE] at ev
  obtain ⟨k, S1, h1, h2⟩ := Bd_eq ev
  split at h2
  · rename_i b hk
    cases h2
    refine tX.mk st en h1 fun As' F' H' v x st' r => ?_
    have := toB_bl hk; subst this
    exact ⟨b, r.bl_inv, q _ _ _ _ x st' (.of (.bl _))⟩
  · cases h2
theorem imp_cmp {o : CO} {Q : VK} (h : tE G P cl (.cmp o a b) σ H Q) : tOp (rC G.K o) (tE G P cl a) (tE G P cl b) σ H Q := by
  obtain ⟨As, F, env, S, d, S', st, en, ev, q⟩ := h
  simp only [evE] at ev
  obtain ⟨x, S1, h1, h2⟩ := Bd_eq ev
  obtain ⟨y, S2, h3, h4⟩ := Bd_eq h2
  obtain ⟨e, h5, h6⟩ := Option.map_eq_some_iff.mp h4
  cases h6
  refine tX.mk st en h1 fun As1 F1 H1 v x1 st1 r1 => tX.mk st1 (en.mono x1.pre x1.sub) h3 fun As2 F2 H2 w x2 st2 r2 => ?_
  exact rC_ok st2 (r1.mono x2.pre x2.sub) r2 h5 fun F3 H3 z x3 s3 r3 => q _ _ _ z ((x1.trans x2).trans x3) s3 r3
theorem imp_bin {o : BO} {Q : VK} (h : tE G P cl (.bin o a b) σ H Q) : tOp (rB G.K o) (tE G P cl a) (tE G P cl b) σ H Q := by
  obtain ⟨As, F, env, S, d, S', st, en, ev, q⟩ := h
  simp only [evE] at ev
  obtain ⟨x, S1, h1, h2⟩ := Bd_eq ev
  obtain ⟨y, S2, h3, h4⟩ := Bd_eq h2
  obtain ⟨e, h5, h6⟩ := Option.map_eq_some_iff.mp h4
  cases h6
  refine tX.mk st en h1 fun As1 F1 H1 v x1 st1 r1 => tX.mk st1 (en.mono x1.pre x1.sub) h3 fun As2 F2 H2 w x2 st2 r2 => ?_
  exact rB_ok st2 (r1.mono x2.pre x2.sub) r2 h5 fun F3 H3 z x3 s3 r3 => q _ _ _ z ((x1.trans x2).trans x3) s3 r3
theorem imp_neg {Q : VK} (h : tE G P cl (.neg a) σ H Q) : tUn (rU fun i => .int (-i)) (tE G P cl a) σ H Q := by
  obtain ⟨As, F, env, S, d, S', st, en, ev, q⟩ := h
  simp only [evE] at ev
  obtain ⟨x, S1, h1, h2⟩ := Bd_eq ev
  split at h2
  · cases h2
    exact tX.mk st en h1 fun As1 F1 H1 v x1 st1 r1 => ⟨_, r1.int_inv, q _ _ _ _ x1 st1 (.of (.int _))⟩
  · cases h2
theorem imp_ix {Q : VK} (h : tE G P cl (.ix a b) σ H Q) : tOp (rIxP G.K G.w) (tE G P cl a) (tE G P cl b) σ H Q := by
  obtain ⟨As, F, env, S, d, S', st, en, ev, q⟩ := h
  simp only [evE] at ev
  obtain ⟨x, S1, h1, h2⟩ := Bd_eq ev
  obtain ⟨y, S2, h3, h4⟩ := Bd_eq h2
  obtain ⟨e, h5, h6⟩ := Option.map_eq_some_iff.mp h4
  cases h6
  refine tX.mk st en h1 fun As1 F1 H1 v x1 st1 r1 => tX.mk st1 (en.mono x1.pre x1.sub) h3 fun As2 F2 H2 w x2 st2 r2 => ?_
  exact ixD_ok st2 (r1.mono x2.pre x2.sub) r2 h5 fun F3 H3 z x3 s3 r3 => q _ _ _ z ((x1.trans x2).trans x3) s3 r3
theorem imp_rev {Q : VK} (h : tE G P cl (.rev a) σ H Q) : tRevL G.K (tE G P cl a) σ H Q := by
  obtain ⟨As, F, env, S, d, S', st, en, ev, q⟩ := h
  simp only [evE] at ev
  obtain ⟨x, S1, h1, h2⟩ := Bd_eq ev
  split at h2
  · rename_i xs he
    cases h2
    refine tX.mk st en h1 fun As1 F1 H1 v x1 st1 r1 => ?_
    obtain ⟨p, vs, rfl, hs, t⟩ := view_lst st1 r1 he
    exact ⟨p, vs, rfl, hs, Out.lst st1 (fun F2 H2 z x2 s2 r2 => q _ _ _ z (x1.trans x2) s2 r2) t.reverse⟩
  · cases h2
theorem imp_frz {Q : VK} (h : tE G P cl (.frz a) σ H Q) : tE G P cl a σ H Q := by
  obtain ⟨As, F, env, S, d, S', st, en, ev, q⟩ := h
  simp only [evE] at ev
  obtain ⟨x, S1, h1, h2⟩ := Bd_eq ev
  refine tX.mk st en h1 fun As1 F1 H1 v x1 st1 r1 => ?_
  obtain ⟨F2, x2, s2, r2⟩ := frz_ok st1 r1 h2
  exact q _ _ _ _ (x1.trans x2) s2 r2
theorem imp_get1 {Q : VK} (h : tE G P cl (.get1 a b) σ H Q) : tDGet1 (tE G P cl a) (tE G P cl b) σ H Q := by
  obtain ⟨As, F, env, S, d, S', st, en, ev, q⟩ := h
  simp only [evE] at ev
  obtain ⟨x, S1, h1, h2⟩ := Bd_eq ev
  split at h2
  · rename_i hd
    obtain ⟨y, S2, h3, h4⟩ := Bd_eq h2
    obtain ⟨e, h5, h6⟩ := Option.map_eq_some_iff.mp h4
    cases h6
    refine tX.mk st en h1 fun As1 F1 H1 v x1 st1 r1 => ?_
    obtain ⟨p, rfl, hp⟩ := isD_dct st1 r1 hd
    refine ⟨p, rfl, hp, tX.mk st1 (en.mono x1.pre x1.sub) h3 fun As2 F2 H2 w x2 st2 r2 => ?_⟩
    obtain ⟨p', o, e, g, r⟩ := get2_ok st2 (r1.mono x2.pre x2.sub) r2 .non h5
    cases e
    exact ⟨o, g, q _ _ _ _ (x1.trans x2) st2 (.of r)⟩
  · cases h2
theorem imp_get2 {c : CE} {Q : VK} (h : tE G P cl (.get2 a b c) σ H Q) : tDGet2 (tE G P cl a) (tE G P cl b) (tE G P cl c) σ H Q := by
  obtain ⟨As, F, env, S, d, S', st, en, ev, q⟩ := h
  simp only [evE] at ev
  obtain ⟨x, S1, h1, h2⟩ := Bd_eq ev
  split at h2
  · rename_i hd
    obtain ⟨y, S2, h3, h4⟩ := Bd_eq h2
    obtain ⟨z, S3, h5, h6⟩ := Bd_eq h4
    split at h6
    · cases h6
    · rename_i hp
      obtain ⟨e, h7, h8⟩ := Option.map_eq_some_iff.mp h6
      cases h8
      refine tX.mk st en h1 fun As1 F1 H1 v x1 st1 r1 => ?_
      obtain ⟨p, rfl, hpd⟩ := isD_dct st1 r1 hd
      have en1 := en.mono x1.pre x1.sub
      refine ⟨p, rfl, hpd, tX.mk st1 en1 h3 fun As2 F2 H2 w x2 st2 r2 => tX.mk st2 (en1.mono x2.pre x2.sub) h5 fun As3 F3 H3 u x3 st3 r3 => ?_⟩
      have x23 := x2.trans x3
      obtain ⟨p', o, e, g, r⟩ := get2_ok st3 (r1.mono x23.pre x23.sub) (r2.mono x3.pre x3.sub) (r3.data (by simpa using hp)) h7
      cases e
      exact ⟨o, g, q _ _ _ _ (x1.trans x23) st3 (.of r)⟩
  · cases h2
/-! dict displays -/
theorem tX.imp {α β : Type} {ev : Slots → Store → R α} {rel : List Addr → Hp → β → α → Prop} {Q Q' : β → Hp → Prop} (h : tX G ev rel σ H Q) (i : ∀ b H', Q b H' → Q' b H') : tX G ev rel σ H Q' := by
  obtain ⟨As, F, env, S, a, S', st, en, hv, q⟩ := h
  exact ⟨As, F, env, S, a, S', st, en, hv, fun As' F' H' b x s r => i _ _ (q As' F' H' b x s r)⟩
/-- the pairs' readings -/
def tPs (G : GI) (P : Prog) (cl : Cl) : CEs → List (TE × TE)
  | .nil => []
  | .cons _ .nil => []
  | .cons k (.cons v r) => (tE G P cl k, tE G P cl v) :: tPs G P cl r
def even : CEs → Bool
  | .nil => true
  | .cons _ .nil => false
  | .cons _ (.cons _ r) => even r
def flatP : List (V × V) → List V
  | [] => []
  | p :: r => p.1 :: p.2 :: flatP r
theorem imp_pairs : ∀ {es : CEs} {H : Hp} {Q : List (V × V) → Hp → Prop}, even es = true → tA G P cl es σ H (fun vs H' => ∀ ps, vs = flatP ps → Q ps H') → tPairs (tPs G P cl es) σ H Q
  | .nil, H, Q, _, h => imp_nil h [] rfl
  | .cons _ .nil, H, Q, e, h => by simp [even] at e
  | .cons k (.cons v r), H, Q, e, h => by
    have h1 : tCons (tE G P cl k) (tA G P cl (.cons v r)) σ H _ := imp_cons h
    refine tX.imp h1 fun x H1 h2 => ?_
    have h3 : tCons (tE G P cl v) (tA G P cl r) σ H1 _ := imp_cons h2
    refine tX.imp h3 fun y H2 h4 => imp_pairs (by simpa [even] using e) (tX.imp h4 fun vs H3 h5 ps e2 => h5 _ (by rw [e2]; rfl))
theorem pairK_ok {As : List Addr} {F : Hp} : ∀ {ds : List D} {kvs : List (Key × D)} {vs : List V}, pairK ds = some kvs → RpTs G As F vs ds → ∃ ks : List (Key × V), vs = flatP (ks.map fun kv => (kV kv.1, kv.2)) ∧ KvOk G F ks kvs
  | [], kvs, vs, h, r => by cases r; cases h; exact ⟨[], rfl, .nil⟩
  | [_], kvs, vs, h, r => by cases h
  | k :: d :: ds, kvs, vs, h, r => by
    simp only [pairK] at h
    cases hk : keyD k with
    | none => rw [hk] at h; cases h
    | some kk =>
      rw [hk] at h
      simp only [Option.bind_some] at h
      split at h
      · cases h
      · rename_i hp
        obtain ⟨l, h1, h2⟩ := Option.map_eq_some_iff.mp h
        cases h2
        cases r with
        | cons r1 r =>
          cases r with
          | cons r2 r =>
            obtain ⟨ks, e, t⟩ := pairK_ok h1 r
            obtain ⟨rfl, ok⟩ := keyD_ok r1 hk
            exact ⟨(kk, _) :: ks, by rw [e]; rfl, .cons ok (r2.data (by simpa using hp)) t⟩
theorem flatP_inj : ∀ {ps qs : List (V × V)}, flatP ps = flatP qs → ps = qs
  | [], [], _ => rfl
  | [], _ :: _, h => by simp [flatP] at h
  | _ :: _, [], h => by simp [flatP] at h
  | p :: ps, q :: qs, h => by
    simp only [flatP, List.cons.injEq] at h
    rw [flatP_inj h.2.2, Prod.ext h.1 h.2.1]
theorem StOk.freezeA {As : List Addr} {S : Store} {F H : Hp} {p : Addr} {o : HO} {Hb : Hp} (st : StOk G As S F H) (ap : Apart As F H p o) (nb : Hb p = none) {As0 : List Addr} {F0 : Hp} (x : Ext As0 As F0 F Hb H) : StOk G As S (upd F p o) H ∧ Ext As0 As F0 (upd F p o) Hb H :=
  ⟨st.freeze ap, ⟨x.pre, x.sub.trans (Sub.new ap.nF), x.keep, x.new, fun a o e => by
      by_cases z : a = p
      · subst z; exact .inr (.inr nb)
      · rw [upd_ne z] at e; exact x.frz a o e⟩⟩
theorem imp_dic {own : Bool} {Q : VK} (he : even es = true) (h : tE G P cl (.dic own es) σ H Q) : tDisp (tPs G P cl es) σ H Q := by
  obtain ⟨As, F, env, S, d, S', st, en, ev, q⟩ := h
  simp only [evE] at ev
  obtain ⟨ds, S1, h1, h2⟩ := Bd_eq ev
  split at h2
  case h_2 => cases h2
  rename_i kvs hk
  split at h2
  case isFalse => cases h2
  rename_i h15
  intro p hp
  obtain ⟨st1, ap1, x1⟩ := st.apart (o := .dK []) hp
  refine imp_pairs he (tX.mk st1 (en.mono x1.pre x1.sub) h1 fun As2 F2 H2 vs x2 st2 r2 ps eps => ?_)
  have ap2 := ap1.ext x2
  obtain ⟨ks, e, t⟩ := pairK_ok hk r2
  have e2 := flatP_inj (eps.symm.trans e)
  refine ⟨ap2.here, ks, e2, by rw [t.length]; exact h15, ?_⟩
  obtain ⟨st3, ap3⟩ := st2.apartSet (o' := .dK (mergeK [] ks)) ap2
  have tm : KvOk G F2 (mergeK [] ks) (mergeKD [] kvs) := t.merge .nil
  have x12 := x1.trans x2
  have x3 : Ext As As2 F F2 H (upd H2 p (.dK (mergeK [] ks))) := ⟨x12.pre, x12.sub, fun a o e n => by rw [upd_ne (ne_of_none e hp)]; exact x12.keep a o e n, x12.new, x12.frz⟩
  cases own with
  | false =>
    rw [if_neg Bool.false_ne_true] at h2
    cases h2
    obtain ⟨s4, x4⟩ := st3.freezeA ap3 hp x3
    exact q _ _ _ _ x4 s4 (.inr (.inr (.inl ⟨p, _, _, rfl, rfl, .inl upd_same, tm.mono (Sub.new ap3.nF)⟩)))
  | true =>
    rw [if_pos rfl] at h2
    cases h2
    obtain ⟨s4, e4⟩ := st3.take (c' := .dct (mergeKD [] kvs)) ap3 tm
    refine q _ _ _ _ ⟨x3.pre.trans ⟨[p], rfl⟩, x3.sub, x3.keep, fun a m => ?_, x3.frz⟩ s4 (.inr (.inl ⟨_, p, rfl, e4, rfl⟩))
    rcases List.mem_append.mp m with m | m
    · exact x3.new a m
    · have e : a = p := by simpa using m
      subst e; exact .inr hp
theorem imp_dic0 {own : Bool} {Q : VK} (h : tE G P cl (.dic own .nil) σ H Q) : tDNewK σ H Q := by
  obtain ⟨As, F, env, S, d, S', st, en, ev, q⟩ := h
  simp only [evE, evEs, Bd_some, pairK, List.length_nil, Nat.zero_le, if_true] at ev
  intro p hp
  cases own with
  | false =>
    rw [if_neg Bool.false_ne_true] at ev
    cases ev
    obtain ⟨s2, x2⟩ := st.alloc (o := .dK []) hp
    exact q _ _ _ _ x2 s2 (.inr (.inr (.inl ⟨p, _, _, rfl, rfl, .inl upd_same, .nil⟩)))
  | true =>
    rw [if_pos rfl] at ev
    cases ev
    obtain ⟨s2, x2, e2⟩ := st.allocP (o := .dK []) (c' := .dct []) hp .nil
    exact q _ _ _ _ x2 s2 (.inr (.inl ⟨_, p, rfl, e2, rfl⟩))
theorem imp_part0 {Q : Option Int → Hp → Prop} (h : tO G P cl .nil σ H Q) : tNoPart σ H Q := by
  obtain ⟨As, F, env, S, d, S', st, en, ev, q⟩ := h
  simp only [evO, evEs, Bd_some, okPart] at ev
  cases ev
  exact q _ _ _ none (.refl _ _ _) st rfl
theorem imp_part1 {Q : Option Int → Hp → Prop} (h : tO G P cl (.cons a .nil) σ H Q) : tPart (tE G P cl a) σ H Q := by
  obtain ⟨As, F, env, S, d, S', st, en, ev, q⟩ := h
  simp only [evO, evEs] at ev
  obtain ⟨ds, S1, h1, h2⟩ := Bd_eq ev
  obtain ⟨y, S2, h3, h4⟩ := Bd_eq h1
  simp only [Bd_some] at h4
  cases h4
  split at h2
  · rename_i o ho
    cases h2
    refine tX.mk st en h3 fun As1 F1 H1 v x1 st1 r1 => ?_
    unfold okPart at ho
    split at ho
    · rename_i e; cases e
    · rename_i i e
      cases ho; cases e
      exact ⟨i, r1.int_inv, q _ _ _ _ x1 st1 rfl⟩
    · cases ho
  · cases h2
theorem imp_sl {Q : VK} (h : tE G P cl (.sl a lo hi) σ H Q) : tSl (rSlD G.K) (tE G P cl a) (tO G P cl lo) (tO G P cl hi) σ H Q := by
  obtain ⟨As, F, env, S, d, S', st, en, ev, q⟩ := h
  simp only [evE] at ev
  obtain ⟨x, S1, h1, h2⟩ := Bd_eq ev
  obtain ⟨l, S2, h3, h4⟩ := Bd_eq h2
  obtain ⟨u, S3, h5, h6⟩ := Bd_eq h4
  split at h6
  · rename_i l' u' hl hu
    obtain ⟨e, h7, h8⟩ := Option.map_eq_some_iff.mp h6
    cases h8
    refine tX.mk st en h1 fun As1 F1 H1 v x1 st1 r1 => ?_
    have en1 := en.mono x1.pre x1.sub
    refine tX.mk (a := l') (S' := S2) st1 en1 (by simp only [evO, h3, Bd_some, hl]) fun As2 F2 H2 w x2 st2 r2 => ?_
    subst r2
    refine tX.mk (a := u') (S' := S') st2 (en1.mono x2.pre x2.sub) (by simp only [evO, h5, Bd_some, hu]) fun As3 F3 H3 w' x3 st3 r3 => ?_
    subst r3
    have x13 := x2.trans x3
    exact slD_ok st3 (r1.mono x13.pre x13.sub) h7 fun F4 H4 z x4 s4 r4 => q _ _ _ z ((x1.trans x13).trans x4) s4 r4
  · cases h6
theorem imp_bi {bi : BI} {Q : VK} (h : tE G P cl (.bi bi es) σ H Q) : tCB (rBi G.K bi) (tA G P cl es) σ H Q := by
  obtain ⟨As, F, env, S, d, S', st, en, ev, q⟩ := h
  simp only [evE] at ev
  obtain ⟨ds, S1, h1, h2⟩ := Bd_eq ev
  obtain ⟨e, h5, h6⟩ := Option.map_eq_some_iff.mp h2
  cases h6
  refine tX.mk st en h1 fun As1 F1 H1 vs x1 st1 r1 => ?_
  exact rBi_ok st1 r1 h5 fun F3 H3 z x3 s3 r3 => q _ _ _ z (x1.trans x3) s3 r3
theorem imp_isi {ty : String} {Q : VK} (h : tE G P cl (.isi a ty) σ H Q) : tCB (rIsi G.K) (tCons (tE G P cl a) (tCons (tC (.ty ty)) tNil)) σ H Q := by
  obtain ⟨As, F, env, S, d, S', st, en, ev, q⟩ := h
  simp only [evE] at ev
  obtain ⟨x, S1, h1, h2⟩ := Bd_eq ev
  obtain ⟨e, h5, h6⟩ := Option.map_eq_some_iff.mp h2
  cases h6
  refine tX.mk st en h1 fun As1 F1 H1 v x1 st1 r1 => ?_
  exact isi_ok st1 r1 h5 fun F3 H3 z x3 s3 r3 => q _ _ _ z (x1.trans x3) s3 r3
theorem imp_append {Q : VK} (h : tE G P cl (.mt .append a (.cons b .nil)) σ H Q) : tBM G.K "list" rAppend (tE G P cl a) (tCons (tE G P cl b) tNil) σ H Q := by
  obtain ⟨As, F, env, S, d, S', st, en, ev, q⟩ := h
  simp only [evE, evEs] at ev
  obtain ⟨x, S1, h1, h2⟩ := Bd_eq ev
  split at h2
  case isFalse => cases h2
  rename_i hl
  obtain ⟨ds, S2, h3, h4⟩ := Bd_eq h2
  obtain ⟨y, S3, h5, h6⟩ := Bd_eq h3
  simp only [Bd_some] at h6
  cases h6
  simp only [mtD] at h4
  refine tX.mk st en h1 fun As1 F1 H1 v x1 st1 r1 => ⟨ty_lst st1 r1 hl, tX.mk st1 (en.mono x1.pre x1.sub) h5 fun As2 F2 H2 w x2 st2 r2 => ?_⟩
  exact append_ok st2 (r1.mono x2.pre x2.sub) r2 h4 fun H3 z x3 s3 r3 => q _ _ _ z ((x1.trans x2).trans x3) s3 r3
end
end PC

set_option Elab.async false
set_option linter.all false
set_option maxRecDepth 100000
set_option maxHeartbeats 4000000
/-! Core, part F: targets, what is walked, comprehensions, statements. -/
namespace PC
open PySem PySem.Spec PyProof.Rows L2
section
variable {G : GI} {P : Prog} {cl : Cl} {σ : L2.St} {H : Hp}

/-! ### targets -/
theorem imp_gname {i : Nat} {v : V} {Q : L2.St → Hp → Prop} (h : tG G (.name i) v σ H Q) : gName i v σ H Q := by
  obtain ⟨As, F, env, S, d, env', st, en, r, b, q⟩ := h
  simp only [bindT] at b
  split at b
  · cases b
    exact q _ (en.set r) fun j hj => List.getElem?_set_ne (by simpa [slotsT] using fun e : i = j => hj (by simp [slotsT, e]))
  · cases b
mutual
theorem bindT_len : ∀ {t : CT} {d : D} {env env' : Slots}, bindT t d env = some env' → env'.length = env.length
  | .name i, d, env, env', h => by
    simp only [bindT] at h
    split at h
    · cases h; simp
    · cases h
  | .tup ts, .tup ds, env, env', h => by
    simp only [bindT] at h
    exact bindTs_len h
  | .tup _, .non, _, _, h => by simp [bindT] at h
  | .tup _, .bl _, _, _, h => by simp [bindT] at h
  | .tup _, .int _, _, _, h => by simp [bindT] at h
  | .tup _, .str _, _, _, h => by simp [bindT] at h
  | .tup _, .lst _, _, _, h => by simp [bindT] at h
  | .tup _, .ptr _, _, _, h => by simp [bindT] at h
theorem bindTs_len : ∀ {ts : CTs} {ds : List D} {env env' : Slots}, bindTs ts ds env = some env' → env'.length = env.length
  | .nil, [], _, _, h => by simp only [bindTs] at h; cases h; rfl
  | .nil, _ :: _, _, _, h => by simp [bindTs] at h
  | .cons _ _, [], _, _, h => by simp [bindTs] at h
  | .cons t r, d :: ds, env, env', h => by
    simp only [bindTs] at h
    cases e : bindT t d env with
    | none => rw [e] at h; cases h
    | some e1 =>
      rw [e] at h
      rw [bindTs_len (show bindTs r ds e1 = some env' from h), bindT_len e]
end
def cntT : CTs → Nat
  | .nil => 0
  | .cons _ r => cntT r + 1
theorem cntT_len : ∀ {ts : CTs} {ds : List D} {env env' : Slots}, bindTs ts ds env = some env' → ds.length = cntT ts
  | .nil, [], _, _, _ => rfl
  | .nil, _ :: _, _, _, h => by simp [bindTs] at h
  | .cons _ _, [], _, _, h => by simp [bindTs] at h
  | .cons t r, d :: ds, env, env', h => by
    simp only [bindTs] at h
    cases e : bindT t d env with
    | none => rw [e] at h; cases h
    | some e1 =>
      rw [e] at h
      have ih := cntT_len (show bindTs r ds e1 = some env' from h)
      simp [cntT, ih]
theorem imp_gtup {ts : CTs} {v : V} {Q : L2.St → Hp → Prop} (h : tG G (.tup ts) v σ H Q) : gTup G.K (cntT ts) (tGs G ts) v σ H Q := by
  obtain ⟨As, F, env, S, d, env', st, en, r, b, q⟩ := h
  cases d with
  | tup ds =>
    simp only [bindT] at b
    obtain ⟨p, vs, rfl, hs, t⟩ := (r.data rfl).tup_inv
    refine ⟨p, vs, rfl, st.sub.sqT hs, by rw [t.length]; exact cntT_len b, As, F, env, S, ds, env', st, en, t.ts, b, fun σ' e' k => q σ' e' fun j hj => k j (by simpa [slotsT] using hj)⟩
  | _ => simp [bindT] at b
theorem imp_gnil {vs : List V} {Q : L2.St → Hp → Prop} (h : tGs G .nil vs σ H Q) : gNil vs σ H Q := by
  obtain ⟨As, F, env, S, ds, env', st, en, r, b, q⟩ := h
  cases ds with
  | nil =>
    cases r
    simp only [bindTs] at b
    cases b
    exact ⟨rfl, q _ en fun _ _ => rfl⟩
  | cons _ _ => simp [bindTs] at b
theorem imp_gcons {t : CT} {ts : CTs} {vs : List V} {Q : L2.St → Hp → Prop} (h : tGs G (.cons t ts) vs σ H Q) : gCons (tG G t) (tGs G ts) vs σ H Q := by
  obtain ⟨As, F, env, S, ds, env', st, en, r, b, q⟩ := h
  cases ds with
  | nil => simp [bindTs] at b
  | cons d ds =>
    cases r with
    | cons r1 rs =>
      simp only [bindTs] at b
      cases e : bindT t d env with
      | none => rw [e] at b; cases b
      | some e1 =>
        rw [e] at b
        refine ⟨_, _, rfl, As, F, env, S, d, e1, st, en, r1, e, fun σ1 en1 k1 => ?_⟩
        exact ⟨As, F, e1, S, ds, env', st, en1, rs, b, fun σ2 en2 k2 => q σ2 en2 fun j hj => by
          simp only [slotsTs, List.mem_append, not_or] at hj
          rw [k2 j hj.2, k1 j hj.1]⟩

/-! ### what is walked -/
theorem walks_list {F : Hp} {a : Addr} {vs : List V} {ds : List D} (hs : SqL G.K F a vs) (t : RpAll G F vs ds) : Walks G F ds (Itl G.K a) := by
  refine ⟨fun H => SqL G.K H a vs, YAt vs, by rw [← t.length]; exact walk_list, fun F' H' s1 s2 => (s1.trans s2).sqL hs, fun i d H0 x H1 As S F' hd y s st => ?_⟩
  obtain ⟨rfl, hx⟩ := y
  exact ⟨F', .refl _ _ _, st, (t.get hx hd).mono s⟩
theorem walks_tup {F : Hp} {a : Addr} {vs : List V} {ds : List D} (hs : SqT G.K F a vs) (t : RpAll G F vs ds) : Walks G F ds (Itt G.K a) := by
  refine ⟨fun H => SqT G.K H a vs, YAt vs, by rw [← t.length]; exact walk_tup, fun F' H' s1 s2 => (s1.trans s2).sqT hs, fun i d H0 x H1 As S F' hd y s st => ?_⟩
  obtain ⟨rfl, hx⟩ := y
  exact ⟨F', .refl _ _ _, st, (t.get hx hd).mono s⟩
theorem walks_rng {F : Hp} {lo : Int} {n : Nat} : Walks G F ((List.range n).map fun i => .int (lo + (i : Nat))) (Itr lo n) := by
  refine ⟨fun _ => True, YFn fun i => .int (lo + i), by rw [List.length_map, List.length_range]; exact walk_range, fun _ _ _ _ => trivial, fun i d H0 x H1 As S F' hd y s st => ?_⟩
  obtain ⟨h0, hx⟩ := y
  subst h0 hx
  have e : d = .int (lo + (i : Nat)) := by
    rw [List.getElem?_map] at hd
    cases q : (List.range n)[i]? with
    | none => rw [q] at hd; cases hd
    | some j =>
      rw [q] at hd
      obtain ⟨hj, e⟩ := List.getElem?_eq_some_iff.mp q
      rw [List.getElem_range] at e
      subst e
      cases hd; rfl
  subst e
  exact ⟨F', .refl _ _ _, st, .int _⟩
theorem walk_zipT {K : PySem.W.Frag} {a b : Addr} {xs ys : List V} {n : Nat} (hn : n = min xs.length ys.length) : Walk (RZ.ItzT K a b) n (fun H => SqT K H a xs ∧ SqT K H b ys) (YPair (fun i => xs[i]?) (fun i => ys[i]?)) := by
  subst hn
  refine ⟨fun i _ hi q => ?_, fun _ q => ⟨xs, ys, q.1, q.2, by omega⟩, fun i H v H' _ q y => ?_⟩
  · have h1 : i < xs.length := by omega
    have h2 : i < ys.length := by omega
    exact ⟨xs, ys, xs[i], ys[i], q.1, q.2, by simp [h1], by simp [h2]⟩
  · obtain ⟨T, x, z, h1, h2, h3, h4, h5⟩ := y
    exact ⟨T, x, z, h1, h2, h3, h4 xs q.1, h5 ys q.2⟩
theorem pair_turn {F : Hp} {xs ys : List V} {ds es : List D} (t1 : RpAll G F xs ds) (t2 : RpAll G F ys es) (i : Nat) (d : D) (H0 : Hp) (x : V) (H1 : Hp) (As : List Addr) (S : Store) (F' : Hp)
    (hd : (List.zipWith (fun x y => D.tup [x, y]) ds es)[i]? = some d) (y : YPair (fun i => xs[i]?) (fun i => ys[i]?) i H0 x H1) (s : Sub F F') (st : StOk G As S F' H0) :
    ∃ F2, Ext As As F' F2 H0 H1 ∧ StOk G As S F2 H1 ∧ Rp G F2 x d := by
  obtain ⟨T, u, w, rfl, hT, rfl, hu, hw⟩ := y
  rw [List.getElem?_zipWith] at hd
  cases e1 : ds[i]? with
  | none => rw [e1] at hd; cases hd
  | some d1 =>
    cases e2 : es[i]? with
    | none => rw [e1, e2] at hd; cases hd
    | some d2 =>
      rw [e1, e2] at hd
      cases hd
      obtain ⟨s', x'⟩ := st.alloc (o := .tup [u, w]) hT
      exact ⟨_, x', s', .tup (.inl (.inl upd_same)) (.cons (((t1.get hu e1).mono s).mono x'.sub) (.cons (((t2.get hw e2).mono s).mono x'.sub) .nil))⟩
theorem walks_zipL {F : Hp} {a b : Addr} {xs ys : List V} {ds es : List D} (h1 : SqL G.K F a xs) (h2 : SqL G.K F b ys) (t1 : RpAll G F xs ds) (t2 : RpAll G F ys es) :
    Walks G F (List.zipWith (fun x y => .tup [x, y]) ds es) (Itz G.K a b) :=
  ⟨fun H => SqL G.K H a xs ∧ SqL G.K H b ys, _, walk_zip (by rw [List.length_zipWith, t1.length, t2.length]), fun F' H' s1 s2 => ⟨(s1.trans s2).sqL h1, (s1.trans s2).sqL h2⟩, pair_turn t1 t2⟩
theorem walks_zipT {F : Hp} {a b : Addr} {xs ys : List V} {ds es : List D} (h1 : SqT G.K F a xs) (h2 : SqT G.K F b ys) (t1 : RpAll G F xs ds) (t2 : RpAll G F ys es) :
    Walks G F (List.zipWith (fun x y => .tup [x, y]) ds es) (RZ.ItzT G.K a b) :=
  ⟨fun H => SqT G.K H a xs ∧ SqT G.K H b ys, _, walk_zipT (by rw [List.length_zipWith, t1.length, t2.length]), fun F' H' s1 s2 => ⟨(s1.trans s2).sqT h1, (s1.trans s2).sqT h2⟩, pair_turn t1 t2⟩
theorem imp_iseq {e : CE} {R : It → Hp → Prop} (h : tI G P cl (.seq e) σ H R) : iTup G.K (tE G P cl e) σ H R ∨ iList G.K (tE G P cl e) σ H R := by
  obtain ⟨As, F, env, S, ds, S', st, en, ev, q⟩ := h
  simp only [evI] at ev
  obtain ⟨d, S1, h1, h2⟩ := Bd_eq ev
  split at h2
  · cases h2
    refine .inl (tX.mk st en h1 fun As1 F1 H1 v x1 st1 r1 => ?_)
    obtain ⟨p, vs, rfl, hs, t⟩ := (r1.data rfl).tup_inv
    exact ⟨p, rfl, ⟨vs, st1.sub.sqT hs⟩, q _ _ _ _ x1 st1 (walks_tup hs t)⟩
  · cases h2
    refine .inr (tX.mk st en h1 fun As1 F1 H1 v x1 st1 r1 => ?_)
    obtain ⟨p, vs, rfl, hs, t⟩ := (r1.data rfl).lst_inv
    exact ⟨p, rfl, ⟨vs, st1.sub.sqL hs⟩, q _ _ _ _ x1 st1 (walks_list hs t)⟩
  · cases h2
theorem imp_irng {es : CEs} {R : It → Hp → Prop} (h : tI G P cl (.rng es) σ H R) : (cnt es = 1 → iRng1 (tA G P cl es) σ H R) ∧ (cnt es = 2 → iRng2 (tA G P cl es) σ H R) := by
  obtain ⟨As, F, env, S, ds, S', st, en, ev, q⟩ := h
  simp only [evI] at ev
  obtain ⟨d, S1, h1, h2⟩ := Bd_eq ev
  have hc := cnt_len h1
  obtain ⟨xs, h5, h6⟩ := Option.map_eq_some_iff.mp h2
  cases h6
  unfold rngD at h5
  split at h5
  · rename_i n
    split at h5
    · rename_i hn
      cases h5
      refine ⟨fun _ => tX.mk st en h1 fun As1 F1 H1 vs x1 st1 r1 => ?_, fun e => (by rw [← hc] at e; cases e)⟩
      obtain ⟨v, rfl, rv⟩ := r1.one
      refine ⟨n, by rw [rv.int_inv], by omega, by omega, ?_⟩
      have w : Walks G F1 ((List.range n.toNat).map fun i => .int (0 + (i : Nat))) (Itr 0 n.toNat) := walks_rng
      simp only [Int.zero_add] at w
      exact q _ _ _ _ x1 st1 w
    · cases h5
  · rename_i a b
    split at h5
    · rename_i hn
      cases h5
      refine ⟨fun e => (by rw [← hc] at e; cases e), fun _ => tX.mk st en h1 fun As1 F1 H1 vs x1 st1 r1 => ?_⟩
      cases r1 with
      | cons r1 rr =>
        obtain ⟨w, rfl, rw'⟩ := rr.one
        exact ⟨a, b, by rw [r1.int_inv, rw'.int_inv], by omega, q _ _ _ _ x1 st1 walks_rng⟩
    · cases h5
  · cases h5
theorem imp_izip {es : CEs} {R : It → Hp → Prop} (h : tI G P cl (.zip es) σ H R) : RZ.iZipA G.K (tA G P cl es) σ H R := by
  obtain ⟨As, F, env, S, ds, S', st, en, ev, q⟩ := h
  simp only [evI] at ev
  obtain ⟨d, S1, h1, h2⟩ := Bd_eq ev
  obtain ⟨xs, h5, h6⟩ := Option.map_eq_some_iff.mp h2
  cases h6
  unfold zipD at h5
  split at h5
  · cases h5
    refine tX.mk st en h1 fun As1 F1 H1 vs x1 st1 r1 => ?_
    cases r1 with
    | cons r1 rr =>
      obtain ⟨w, rfl, rw'⟩ := rr.one
      obtain ⟨p, us, rfl, hs, t⟩ := (r1.data rfl).tup_inv
      obtain ⟨p', ws, rfl, hs', t'⟩ := (rw'.data rfl).tup_inv
      exact ⟨p, p', us, ws, rfl, .inr ⟨st1.sub.sqT hs, st1.sub.sqT hs', q _ _ _ _ x1 st1 (walks_zipT hs hs' t t')⟩⟩
  · cases h5
    refine tX.mk st en h1 fun As1 F1 H1 vs x1 st1 r1 => ?_
    cases r1 with
    | cons r1 rr =>
      obtain ⟨w, rfl, rw'⟩ := rr.one
      obtain ⟨p, us, rfl, hs, t⟩ := (r1.data rfl).lst_inv
      obtain ⟨p', ws, rfl, hs', t'⟩ := (rw'.data rfl).lst_inv
      exact ⟨p, p', us, ws, rfl, .inl ⟨st1.sub.sqL hs, st1.sub.sqL hs', q _ _ _ _ x1 st1 (walks_zipL hs hs' t t')⟩⟩
  · cases h5

/-! ### comprehensions -/
theorem EnvOk.wipe {As : List Addr} {F : Hp} {env : Slots} (en : EnvOk G As F env σ) : ∀ ows : List Nat, EnvOk G As F (wipeS env ows) (L2.wipe σ ows)
  | [] => en
  | v :: vs => by
    unfold wipeS L2.wipe
    exact (EnvOk.wipe en vs).setN
theorem wipe_at {σ : L2.St} {j : Nat} : ∀ {ows : List Nat}, (L2.wipe σ ows)[j]? = if j ∈ ows ∧ j < σ.length then some none else σ[j]?
  | [] => by simp [L2.wipe]
  | v :: vs => by
    unfold L2.wipe
    by_cases hv : v = j
    · subst hv
      by_cases hl : v < σ.length
      · rw [List.getElem?_set_self (by rw [wipe_length]; exact hl), if_pos ⟨by simp, hl⟩]
      · rw [List.getElem?_eq_none (by rw [List.length_set, wipe_length]; omega), if_neg (fun z => hl z.2), List.getElem?_eq_none (by omega)]
    · rw [List.getElem?_set_ne hv, wipe_at]
      have hv' : ¬ j = v := fun e => hv e.symm
      simp [hv']
theorem wipe_eq {σ σ' : L2.St} {ows : List Nat} (hl : σ'.length = σ.length) (h : ∀ j, j ∉ ows → σ'[j]? = (L2.wipe σ ows)[j]?) : L2.wipe σ' ows = L2.wipe σ ows := by
  apply List.ext_getElem?
  intro j
  rw [wipe_at]
  by_cases hj : j ∈ ows
  · rw [wipe_at, hl]
    by_cases hlt : j < σ.length
    · rw [if_pos ⟨hj, hlt⟩, if_pos ⟨hj, hlt⟩]
    · rw [if_neg (fun z => hlt z.2), if_neg (fun z => hlt z.2), List.getElem?_eq_none (by omega), List.getElem?_eq_none (by omega)]
  · rw [if_neg (fun z => hj z.1)]
    exact h j hj
def lcStep (P : Prog) (cl : Cl) (elt : CE) (tg : CT) (test : CEs) (ows : List Nat) (env : Slots) : D → Store → R (Option D) := fun d S =>
  match bindT tg d (wipeS env ows) with
  | none => none
  | some env' => Bd (evTest P cl test env' S) fun b S2 => if b then Bd (evE P cl elt env' S2) fun y S3 => if y.isPtr then none else some (some y, S3) else some (none, S2)
theorem evE_lc {elt : CE} {tg : CT} {it : CI} {test : CEs} {ows : List Nat} {env : Slots} {S : Store} : evE P cl (.lc elt tg it test ows) env S =
    Bd (evI P cl it env S) fun ds S1 => Bd (lcLoop (lcStep P cl elt tg test ows env) ds S1) fun ys S2 => if ys.length ≤ lim then some (.lst ys, S2) else none := by
  simp only [evE]; rfl
theorem imp_lc {elt : CE} {tg : CT} {it : CI} {test : CEs} {ows : List Nat} {Q : VK} (hsl : ∀ j ∈ slotsT tg, j ∈ ows) (h : tE G P cl (.lc elt tg it test ows) σ H Q) :
    tLc (tI G P cl it) (tG G tg) (tTs G P cl test) (tE G P cl elt) ows σ H Q := by
  obtain ⟨As, F, env, S, d, S', st, en, ev, q⟩ := h
  rw [evE_lc] at ev
  obtain ⟨ds, S1, h1, h2⟩ := Bd_eq ev
  obtain ⟨ys, S2, h3, h4⟩ := Bd_eq h2
  split at h4
  case isFalse => cases h4
  rename_i hlim
  cases h4
  refine tX.mk st en h1 fun As1 F1 H1 J x1 st1 w => ?_
  obtain ⟨Gp, Y, wk, wG, wY⟩ := w
  intro Dp hDp
  obtain ⟨st2, ap2, _⟩ := st1.apart (o := .lst []) hDp
  have en1 := en.mono x1.pre x1.sub
  refine lc_it wk (fun i Hi => ∃ (As2 : List Addr) (F2 : Hp) (S3 : Store) (acc : List V) (accD rest : List D), StOk G As2 S3 F2 Hi ∧ Ext As1 As2 F1 F2 H1 Hi ∧ Apart As2 F2 Hi Dp (.lst acc) ∧ RpAll G F2 acc accD ∧
    lcLoop (lcStep P cl elt tg test ows env) (ds.drop i) S3 = some (rest, S') ∧ accD ++ rest = ys) ?_ ?_ ?_ ?_
  · refine ⟨As1, F1, S1, [], [], ys, st2, ⟨.refl _, .refl _, fun a o e _ => by rw [upd_ne (ne_of_none e hDp)]; exact e, fun _ m => .inl m, fun _ _ e => .inl e⟩, ap2, .nil, by rw [List.drop_zero]; exact h3, rfl⟩
  · rintro i Hi _ ⟨As2, F2, S3, acc, accD, rest, st3, x3, ap3, ra, hl, he⟩
    exact wG _ _ x3.sub st3.sub
  · rintro i x Hi Hi' hi ⟨As2, F2, S3, acc, accD, rest, st3, x3, ap3, ra, hl, he⟩ hY
    have hd : ds[i]? = some ds[i] := by simp [hi]
    obtain ⟨F3, x4, st4, rx⟩ := wY i _ Hi x Hi' As2 S3 F2 hd hY x3.sub st3
    rw [List.drop_eq_getElem_cons hi] at hl
    simp only [lcLoop] at hl
    obtain ⟨o, S4, hl1, hl2⟩ := Bd_eq hl
    obtain ⟨more, S5, hl3, hl4⟩ := Bd_eq hl2
    have e5 : S5 = S' := congrArg Prod.snd (Option.some.inj hl4)
    have hrest : rest = optCons o more := (congrArg Prod.fst (Option.some.inj hl4)).symm
    subst e5
    clear hl4
    unfold lcStep at hl1
    cases hb : bindT tg ds[i] (wipeS env ows) with
    | none => rw [hb] at hl1; cases hl1
    | some env' =>
      rw [hb] at hl1
      simp only at hl1
      obtain ⟨b, S6, ht1, ht2⟩ := Bd_eq hl1
      have x14 := x3.trans x4
      have enw : EnvOk G As2 F3 (wipeS env ows) (L2.wipe σ ows) := (en1.mono x14.pre x14.sub).wipe ows
      refine ⟨As2, F3, wipeS env ows, S3, ds[i], env', st4, enw, .of rx, hb, fun σ2 en2 k2 => ⟨?_, ?_⟩⟩
      · refine wipe_eq ?_ fun j hj => k2 j fun z => hj (hsl j z)
        have l1 := en2.len
        have l2 := enw.len
        rw [wipe_length] at l2
        rw [← l1, bindT_len hb, l2]
      · refine tX.mk st4 en2 ht1 fun As5 F5 H5 b' x5 st5 eb => ?_
        subst eb
        have en5 := en2.mono x5.pre x5.sub
        cases b' with
        | false =>
          rw [if_neg Bool.false_ne_true] at ht2 ⊢
          cases ht2
          exact ⟨As5, F5, S4, acc, accD, rest, st5, x14.trans x5, (ap3.ext x4).ext x5, (ra.mono x4.sub).mono x5.sub, by rw [hl3, hrest]; rfl, he⟩
        | true =>
          rw [if_pos rfl] at ht2 ⊢
          obtain ⟨y, S7, hy1, hy2⟩ := Bd_eq ht2
          split at hy2
          · cases hy2
          · rename_i hp
            cases hy2
            refine tX.mk st5 en5 hy1 fun As6 F6 H6 v x6 st6 rv => ?_
            have ap6 := ((ap3.ext x4).ext x5).ext x6
            have ra6 := ((ra.mono x4.sub).mono x5.sub).mono x6.sub
            have rv' := rv.data (by simpa using hp)
            obtain ⟨st7, ap7⟩ := st6.apartSet (o' := .lst (acc ++ [v])) ap6
            refine ⟨acc, ap6.here, ?_, As6, F6, S4, acc ++ [v], accD ++ [y], more, st7, ?_, ap7, ra6.append (.cons rv' .nil), hl3, ?_⟩
            · rw [ra.length]
              have : ys.length = accD.length + (more.length + 1) := by rw [← he, hrest]; simp [optCons]
              exact lim_lt (by omega)
            · have x16 := (x14.trans x5).trans x6
              exact ⟨x16.pre, x16.sub, fun a o e n => by rw [upd_ne (ne_of_none e hDp)]; exact x16.keep a o e n, x16.new, x16.frz⟩
            · rw [← he, hrest]; simp [optCons]
  · rintro Hi ⟨As2, F2, S3, acc, accD, rest, st3, x3, ap3, ra, hl, he⟩
    rw [List.drop_length] at hl
    simp only [lcLoop] at hl
    cases hl
    rw [List.append_nil] at he
    subst he
    have st4 := st3.freeze ap3
    have x4 : Ext As1 As2 F1 (upd F2 Dp (.lst acc)) H1 Hi := ⟨x3.pre, x3.sub.trans (Sub.new ap3.nF), x3.keep, x3.new, fun a o e => by
      by_cases z : a = Dp
      · subst z; exact .inr (.inr hDp)
      · rw [upd_ne z] at e; exact x3.frz a o e⟩
    exact q _ _ _ _ (x1.trans x4) st4 (.of (.lst (.inl (.inl upd_same)) (ra.mono (Sub.new ap3.nF))))
end
end PC

set_option Elab.async false
set_option linter.all false
set_option maxRecDepth 100000
set_option maxHeartbeats 4000000
/-! Core, part G: statements, a def's promise. -/
namespace PC
open PySem PySem.Spec PyProof.Rows L2
section
variable {G : GI} {P : Prog} {cl : Cl} {σ : L2.St} {H : Hp} {D : Ends}
theorem tF.mk {ev : Slots → Store → R Fl} {As : List Addr} {F : Hp} {env : Slots} {S : Store} {fl : Fl} {S' : Store} (st : StOk G As S F H) (en : EnvOk G As F env σ) (h : ev env S = some (fl, S'))
    (k : ∀ (As' : List Addr) (F' H' : Hp), Ext As As' F F' H H' → StOk G As' S' F' H' → FlOk G D As' F' H' fl) : tF G ev D σ H := ⟨As, F, env, S, fl, S', st, en, h, k⟩
def tS (G : GI) (P : Prog) (cl : Cl) (s : CS) : TS := tF G (evS P cl s)
def tSs (G : GI) (P : Prog) (cl : Cl) (s : CSs) : TS := tF G (evSs P cl s)
def rSetP : TSet := fun o i v H Q => rSetL o i v H Q ∨ rSetDct o i v H Q
theorem set_P {X : Cx} (hu : X.A.units + 1 < cLine) : PSet X rSetP := by
  intro pins s σ H o i v ov iv u Q I ro ri rv h
  rcases h with h | ⟨a, H', rfl, g, q⟩
  · exact set_list pins s σ H o i v ov iv u Q I ro ri rv h
  · obtain rfl : ov = Value.ref a := ro
    exact d_setItem hu I g ri rv fun s' I' => ⟨H', I', q⟩
/-- the flow of a statement, then what follows -/
theorem imp_nil_s (h : tSs G P cl .nil D σ H) : tNext D σ H := by
  obtain ⟨As, F, env, S, fl, S', st, en, ev, q⟩ := h
  simp only [evSs] at ev
  cases ev
  exact q _ _ _ (.refl _ _ _) st σ en
theorem imp_cons_s {s : CS} {r : CSs} (h : tSs G P cl (.cons s r) D σ H) : tSeq (tS G P cl s) (tSs G P cl r) D σ H := by
  obtain ⟨As, F, env, S, fl, S', st, en, ev, q⟩ := h
  simp only [evSs] at ev
  obtain ⟨f1, S1, h1, h2⟩ := Bd_eq ev
  refine tF.mk st en h1 fun As1 F1 H1 x1 st1 => ?_
  cases f1 with
  | nx e => exact fun σ1 en1 => tF.mk st1 en1 h2 fun As2 F2 H2 x2 st2 => q _ _ _ (x1.trans x2) st2
  | ret d => cases h2; exact q _ _ _ x1 st1
  | brk e => cases h2; exact q _ _ _ x1 st1
  | ct e => cases h2; exact q _ _ _ x1 st1
theorem imp_one_s {s : CS} (h : tSs G P cl (.cons s .nil) D σ H) : tS G P cl s D σ H := by
  obtain ⟨As, F, env, S, fl, S', st, en, ev, q⟩ := h
  simp only [evSs] at ev
  obtain ⟨f1, S1, h1, h2⟩ := Bd_eq ev
  refine tF.mk st en h1 fun As1 F1 H1 x1 st1 => ?_
  cases f1 with
  | nx e => cases h2; exact q _ _ _ x1 st1
  | ret d => cases h2; exact q _ _ _ x1 st1
  | brk e => cases h2; exact q _ _ _ x1 st1
  | ct e => cases h2; exact q _ _ _ x1 st1
theorem imp_expr {e : CE} (h : tS G P cl (.expr e) D σ H) : tDrop (tE G P cl e) D σ H := by
  obtain ⟨As, F, env, S, fl, S', st, en, ev, q⟩ := h
  simp only [evS] at ev
  obtain ⟨d, S1, h1, h2⟩ := Bd_eq ev
  cases h2
  exact tX.mk st en h1 fun As1 F1 H1 v x1 st1 r1 => q _ _ _ x1 st1 σ (en.mono x1.pre x1.sub)
theorem imp_asg {t : CT} {e : CE} (h : tS G P cl (.asg t e) D σ H) : tAsg (tE G P cl e) (tG G t) D σ H := by
  obtain ⟨As, F, env, S, fl, S', st, en, ev, q⟩ := h
  simp only [evS] at ev
  obtain ⟨d, S1, h1, h2⟩ := Bd_eq ev
  split at h2
  · rename_i env' hb
    cases h2
    exact tX.mk st en h1 fun As1 F1 H1 v x1 st1 r1 => ⟨As1, F1, env, S', d, env', st1, en.mono x1.pre x1.sub, r1, hb, fun σ' en' _ => q _ _ _ x1 st1 σ' en'⟩
  · cases h2
theorem imp_par2 {i j : Nat} {es : CEs} (h : tS G P cl (.par [i, j] es) D σ H) : tPar i j (tA G P cl es) D σ H := by
  obtain ⟨As, F, env, S, fl, S', st, en, ev, q⟩ := h
  simp only [evS] at ev
  obtain ⟨ds, S1, h1, h2⟩ := Bd_eq ev
  split at h2
  · rename_i env' hb
    cases h2
    refine tX.mk st en h1 fun As1 F1 H1 vs x1 st1 r1 => ?_
    have en1 := en.mono x1.pre x1.sub
    cases r1 with
    | nil => simp [bindP] at hb
    | cons ra rr =>
      cases rr with
      | nil =>
        simp only [bindP] at hb
        split at hb <;> cases hb
      | cons rb rr =>
        cases rr with
        | cons _ _ =>
          simp only [bindP] at hb
          split at hb
          · split at hb <;> cases hb
          · cases hb
        | nil =>
          simp only [bindP] at hb
          split at hb
          · split at hb
            · cases hb
              exact ⟨_, _, rfl, q _ _ _ x1 st1 _ ((en1.set ra).set rb)⟩
            · cases hb
          · cases hb
  · cases h2
theorem imp_par3 {i j l : Nat} {es : CEs} (h : tS G P cl (.par [i, j, l] es) D σ H) : tPar3 i j l (tA G P cl es) D σ H := by
  obtain ⟨As, F, env, S, fl, S', st, en, ev, q⟩ := h
  simp only [evS] at ev
  obtain ⟨ds, S1, h1, h2⟩ := Bd_eq ev
  split at h2
  · rename_i env' hb
    cases h2
    refine tX.mk st en h1 fun As1 F1 H1 vs x1 st1 r1 => ?_
    have en1 := en.mono x1.pre x1.sub
    rcases r1 with _ | ⟨ra, _ | ⟨rb, _ | ⟨rc, _ | ⟨_, _⟩⟩⟩⟩
    · simp [bindP] at hb
    · simp only [bindP] at hb
      split at hb <;> cases hb
    · simp only [bindP] at hb
      split at hb
      · split at hb <;> cases hb
      · cases hb
    · simp only [bindP] at hb
      split at hb
      · split at hb
        · split at hb
          · cases hb
            exact ⟨_, _, _, rfl, q _ _ _ x1 st1 _ (((en1.set ra).set rb).set rc)⟩
          · cases hb
        · cases hb
      · cases hb
    · simp only [bindP] at hb
      split at hb
      · split at hb
        · split at hb <;> cases hb
        · cases hb
      · cases hb
  · cases h2
theorem imp_setix {o i e : CE} (h : tS G P cl (.setix o i e) D σ H) : tAsg (tE G P cl e) (gSub (tE G P cl o) (tE G P cl i) rSetP) D σ H := by
  obtain ⟨As, F, env, S, fl, S', st, en, ev, q⟩ := h
  simp only [evS] at ev
  obtain ⟨d, S1, h1, h2⟩ := Bd_eq ev
  obtain ⟨x, S2, h3, h4⟩ := Bd_eq h2
  obtain ⟨k, S3, h5, h6⟩ := Bd_eq h4
  split at h6
  · rename_i S4 hs
    cases h6
    refine tX.mk st en h1 fun As1 F1 H1 v x1 st1 r1 => ?_
    have en1 := en.mono x1.pre x1.sub
    refine tX.mk st1 en1 h3 fun As2 F2 H2 ov x2 st2 r2 => ?_
    have en2 := en1.mono x2.pre x2.sub
    refine tX.mk st2 en2 h5 fun As3 F3 H3 kv x3 st3 r3 => ?_
    have x23 := x2.trans x3
    exact setix_ok st3 (r2.mono x3.pre x3.sub) r3 (r1.mono x23.pre x23.sub) hs fun H4 x4 st4 => q _ _ _ ((x1.trans x23).trans x4) st4 σ (en1.mono x23.pre x23.sub)
  · cases h6
theorem imp_ret {e : CE} (h : tS G P cl (.ret e) D σ H) : tRet (tE G P cl e) D σ H := by
  obtain ⟨As, F, env, S, fl, S', st, en, ev, q⟩ := h
  simp only [evS] at ev
  obtain ⟨d, S1, h1, h2⟩ := Bd_eq ev
  cases h2
  exact tX.mk st en h1 fun As1 F1 H1 v x1 st1 r1 => q _ _ _ x1 st1 v r1
theorem imp_if {t : CE} {a b : CSs} (h : tS G P cl (.if_ t a b) D σ H) : tIfS (tT G P cl t) (tSs G P cl a) (tSs G P cl b) D σ H := by
  obtain ⟨As, F, env, S, fl, S', st, en, ev, q⟩ := h
  simp only [evS] at ev
  obtain ⟨k, S1, h1, h2⟩ := Bd_eq ev
  split at h2
  · rename_i hk
    refine tX.mk (a := true) (S' := S1) st en (by simp only [evT, h1, Bd_some, hk]) fun As' F' H' c x st' rs => ?_
    subst rs
    rw [if_pos rfl]
    exact tF.mk st' (en.mono x.pre x.sub) h2 fun _ _ _ x2 s2 => q _ _ _ (x.trans x2) s2
  · rename_i hk
    refine tX.mk (a := false) (S' := S1) st en (by simp only [evT, h1, Bd_some, hk]) fun As' F' H' c x st' rs => ?_
    subst rs
    rw [if_neg Bool.false_ne_true]
    exact tF.mk st' (en.mono x.pre x.sub) h2 fun _ _ _ x2 s2 => q _ _ _ (x.trans x2) s2
  · cases h2
theorem imp_pass (h : tS G P cl .pass D σ H) : tNext D σ H := by
  obtain ⟨As, F, env, S, fl, S', st, en, ev, q⟩ := h
  simp only [evS] at ev
  cases ev
  exact q _ _ _ (.refl _ _ _) st σ en
def forStep (P : Prog) (cl : Cl) (t : CT) (b : CSs) : PC.D → Slots → Store → R Fl := fun d env S => match bindT t d env with
    | none => none
    | some env' => evSs P cl b env' S
theorem imp_for {t : CT} {it : CI} {b : CSs} (h : tS G P cl (.for_ t it b) D σ H) : tFor (tI G P cl it) (tG G t) (tSs G P cl b) D σ H := by
  obtain ⟨As, F, env, S, fl, S', st, en, ev, q⟩ := h
  simp only [evS] at ev
  obtain ⟨ds, S1, h1, h2⟩ := Bd_eq ev
  have h2 : forLoop (forStep P cl t b) ds env S1 = some (fl, S') := h2
  refine tX.mk st en h1 fun As1 F1 H1 J x1 st1 w => ?_
  obtain ⟨Gp, Y, wk, wG, wY⟩ := w
  have en1 := en.mono x1.pre x1.sub
  refine for_it wk (fun i σi Hi => ∃ (As2 : List Addr) (F2 : Hp) (S3 : Store) (env2 : Slots), StOk G As2 S3 F2 Hi ∧ EnvOk G As2 F2 env2 σi ∧ Ext As1 As2 F1 F2 H1 Hi ∧ forLoop (forStep P cl t b) (ds.drop i) env2 S3 = some (fl, S')) ?_ ?_ ?_ ?_
  · exact ⟨As1, F1, S1, env, st1, en1, .refl _ _ _, by rw [List.drop_zero]; exact h2⟩
  · rintro i σi Hi _ ⟨As2, F2, S3, env2, st3, en3, x3, hl⟩
    exact wG _ _ x3.sub st3.sub
  · rintro i x σi Hi Hi' hi ⟨As2, F2, S3, env2, st3, en3, x3, hl⟩ hY
    have hd : ds[i]? = some ds[i] := by simp [hi]
    obtain ⟨F3, x4, st4, rx⟩ := wY i _ Hi x Hi' As2 S3 F2 hd hY x3.sub st3
    rw [List.drop_eq_getElem_cons hi] at hl
    simp only [forLoop] at hl
    obtain ⟨f1, S4, hl1, hl2⟩ := Bd_eq hl
    unfold forStep at hl1
    cases hb : bindT t ds[i] env2 with
    | none => rw [hb] at hl1; cases hl1
    | some env' =>
      rw [hb] at hl1
      simp only at hl1
      have x14 := x3.trans x4
      refine ⟨As2, F3, env2, S3, ds[i], env', st4, en3.mono x4.pre x4.sub, .of rx, hb, fun σ2 en2 _ => ?_⟩
      refine tF.mk st4 en2 hl1 fun As5 F5 H5 x5 st5 => ?_
      have x15 := x14.trans x5
      cases f1 with
      | nx e => exact fun σ5 en5 => ⟨As5, F5, S4, e, st5, en5, x15, hl2⟩
      | ct e => exact fun σ5 en5 => ⟨As5, F5, S4, e, st5, en5, x15, hl2⟩
      | brk e => cases hl2; exact fun σ5 en5 => q _ _ _ (x1.trans x15) st5 σ5 en5
      | ret d => cases hl2; exact fun v rv => q _ _ _ (x1.trans x15) st5 v rv
  · rintro σi Hi ⟨As2, F2, S3, env2, st3, en3, x3, hl⟩
    rw [List.drop_length] at hl
    simp only [forLoop] at hl
    cases hl
    exact q _ _ _ (x1.trans x3) st3 σi en3
end

/-! ### a def's promise -/
/-- called with data, at most k calls deep, it hands back what the evaluator says -/
def spF (G : GI) (P : Prog) (k f : Nat) : Sp := fun vs H Q _ => ∃ (As : List Addr) (F : Hp) (S : Store) (ds : List D) (d : D) (S' : Store), StOk G As S F H ∧ RpTs G As F vs ds ∧ callK P k f ds S = some (d, S') ∧
  ∀ (As' : List Addr) (F' H' : Hp) (v : V), Ext As As' F F' H H' → StOk G As' S' F' H' → RpT G As' F' v d → Q v H'
theorem spF_len {G : GI} {P : Prog} {k f : Nat} {fd : Fd} (hf : P.fs[f]? = some fd) {vs : List V} {H : Hp} {Q : VK} {E : XK} (h : spF G P k f vs H Q E) : vs.length = fd.ps := by
  obtain ⟨As, F, S, ds, d, S', st, r, hc, q⟩ := h
  rw [r.length]
  cases k with
  | zero => simp [callK] at hc
  | succ k =>
    simp only [callK, hf] at hc
    split at hc
    · assumption
    · cases hc
theorem StOk.cut {G : GI} {As : List Addr} {S : Store} {F H : Hp} (h : StOk G As S F H) (n : Nat) : StOk G (As.take n) (S.take n) F H where
  sub := h.sub
  len := by rw [List.length_take, List.length_take, h.len]
  nd := h.nd.sublist (List.take_sublist _ _)
  there := fun a m => h.there a (List.mem_of_mem_take m)
  cells := fun k c a e1 e2 => by
    rw [List.getElem?_take] at e1 e2
    split at e1
    · rename_i hk
      rw [if_pos hk] at e2
      exact h.cells k c a e1 e2
    · cases e1
theorem Ext.cut {As As' : List Addr} {F F' H H' : Hp} (x : Ext As As' F F' H H') (n : Nat) (hn : n = As.length) : Ext As (As'.take n) F F' H H' where
  pre := by
    obtain ⟨l, rfl⟩ := x.pre
    exact ⟨[], by rw [hn]; simp⟩
  sub := x.sub
  keep := x.keep
  new := fun a m => x.new a (List.mem_of_mem_take m)
  frz := x.frz
theorem fin_ok {G : GI} {As As' : List Addr} {S S1 S' : Store} {F F' H H' : Hp} {d d' : D} {v : V} (hS : StOk G As S F H) (h : fin S.length d S1 = some (d', S')) (x : Ext As As' F F' H H') (st : StOk G As' S1 F' H') (r : RpT G As' F' v d) :
    ∃ As2, Ext As As2 F F' H H' ∧ StOk G As2 S' F' H' ∧ RpT G As2 F' v d' := by
  have cut : ∀ d', (∀ m, d' ≠ .ptr m) → d = d' → ∃ As2, Ext As As2 F F' H H' ∧ StOk G As2 (S1.take S.length) F' H' ∧ RpT G As2 F' v d' := fun d' hn e => by
    subst e
    refine ⟨_, x.cut _ hS.len.symm, st.cut _, ?_⟩
    rcases r with r | ⟨m, _, e, _⟩ | r | r
    · exact .inl r
    · exact absurd e (hn m)
    · exact .inr (.inr (.inl r))
    · exact .inr (.inr (.inr r))
  cases d with
  | ptr m =>
    simp only [fin] at h
    split at h
    · rename_i hm
      cases h
      refine ⟨_, x.cut _ hS.len.symm, st.cut _, ?_⟩
      obtain ⟨a, ha, rfl⟩ := r.ptr
      exact .inr (.inl ⟨m, a, rfl, by rw [List.getElem?_take, if_pos hm]; exact ha, rfl⟩)
    · cases h
      exact ⟨As', x, st, r⟩
  | non => cases h; exact cut _ (fun _ z => nomatch z) rfl
  | bl b => cases h; exact cut _ (fun _ z => nomatch z) rfl
  | int i => cases h; exact cut _ (fun _ z => nomatch z) rfl
  | str z => cases h; exact cut _ (fun _ z => nomatch z) rfl
  | tup xs => cases h; exact cut _ (fun _ z => nomatch z) rfl
  | lst xs => cases h; exact cut _ (fun _ z => nomatch z) rfl
  | dct xs => cases h; exact cut _ (fun _ z => nomatch z) rfl
  | tab xs => cases h; exact cut _ (fun _ z => nomatch z) rfl
theorem start_env {G : GI} {As : List Addr} {F : Hp} {N : List Str} : ∀ {vs : List V} {ds : List D}, RpTs G As F vs ds → EnvOk G As F (ds.map some ++ List.replicate (N.length - ds.length) none) (L2.start N vs) := fun {vs ds} r => by
  have hl := r.length
  refine ⟨by simp [L2.start, hl], fun i d e => ?_⟩
  have hi : i < ds.length := by
    by_cases hi : i < ds.length
    · exact hi
    · rw [List.getElem?_append_right (by simpa using hi), List.getElem?_replicate] at e
      split at e <;> cases e
  rw [List.getElem?_append_left (by simpa using hi), List.getElem?_map] at e
  have hd : ds[i]? = some d := by
    cases q : ds[i]? with
    | none => rw [q] at e; cases e
    | some d' => rw [q] at e; cases e; rfl
  have key : ∀ {vs : List V} {ds : List D} {i : Nat} {d : D}, RpTs G As F vs ds → ds[i]? = some d → ∃ v, vs[i]? = some v ∧ RpT G As F v d := by
    intro vs ds i d r
    induction r generalizing i with
    | nil => intro h; simp at h
    | cons r1 _ ih =>
      intro h
      cases i with
      | zero => simp at h; subst h; exact ⟨_, rfl, r1⟩
      | succ i => exact ih (by simpa using h)
  obtain ⟨v, hv, rv⟩ := key r hd
  refine ⟨v, ?_, rv⟩
  unfold L2.start
  rw [List.getElem?_append_left (by rw [List.length_map, hl]; exact hi), List.getElem?_map, hv]
  rfl
/-- the body's reading gives the def's promise -/
theorem body_ok {G : GI} {P : Prog} {k f : Nat} {fd : Fd} {N : List Str} (hf : P.fs[f]? = some fd) (hN : N.length = fd.n) {vs : List V} {H : Hp} {Q : VK} {E : XK} (h : spF G P (k + 1) f vs H Q E) :
    tSs G P (callK P k) fd.body { nx := fun _ H' => Q .non H', rt := Q } (L2.start N vs) H := by
  obtain ⟨As, F, S, ds, d, S', st, r, hc, q⟩ := h
  simp only [callK, hf] at hc
  split at hc
  case isFalse => cases hc
  rename_i hps
  obtain ⟨fl, S1, h1, h2⟩ := Bd_eq hc
  have en := start_env (N := N) r
  rw [hN, hps] at en
  refine tF.mk st en h1 fun As1 F1 H1 x1 st1 => ?_
  cases fl with
  | nx e =>
    intro σ' _
    obtain ⟨As2, x2, st2, r2⟩ := fin_ok (v := .non) st h2 x1 st1 (.of .non)
    exact q _ _ _ _ x2 st2 r2
  | ret d1 =>
    intro v rv
    obtain ⟨As2, x2, st2, r2⟩ := fin_ok st h2 x1 st1 rv
    exact q _ _ _ _ x2 st2 r2
  | brk e => cases h2
  | ct e => cases h2
/-- what a call asks -/
theorem imp_call {G : GI} {P : Prog} {k f : Nat} {σ : L2.St} {H : Hp} {es : CEs} {Q : VK} {E : XK} (h : tE G P (callK P k) (.call f es) σ H Q) : tCall (spF G P k f) [] E (tA G P (callK P k) es) σ H Q := by
  obtain ⟨As, F, env, S, d, S', st, en, ev, q⟩ := h
  simp only [evE] at ev
  obtain ⟨ds, S1, h1, h2⟩ := Bd_eq ev
  refine tX.mk st en h1 fun As1 F1 H1 vs x1 st1 r1 => ?_
  rw [List.append_nil]
  exact ⟨As1, F1, S1, ds, d, S', st1, r1, h2, fun As2 F2 H2 v x2 st2 r2 => q _ _ _ v (x1.trans x2) st2 r2⟩
end PC

set_option Elab.async false
set_option linter.all false
set_option maxRecDepth 100000
set_option maxHeartbeats 4000000
/-! Core, part H: the small syntax against the given one, expressions. -/
namespace PC
open PySem PySem.Spec PyProof.Rows L2

/-- the module's names: constants, defs, by their numbers -/
structure Nms where
  gl : List Str
  fs : List Str
structure Sx where
  N : List Str
  sc : Scope
  fb : Str → Bool
def Sx.blk (s : Sx) (scope : Scope) : Sx := ⟨s.N, relS scope s.sc, fun x => scope.names.lookup x == some .cell⟩
def visB (sc : Scope) (x : Str) : Bool := match sc.names.lookup x with
  | some .local => true | some .cell => true | some .free => true | _ => false
def locB (sc : Scope) (x : Str) : Bool := match sc.names.lookup x with
  | some .local => true | some .cell => true | _ => false
def glB (sc : Scope) (x : Str) : Bool := match sc.names.lookup x with
  | some .globalImplicit => true | _ => false
def okName (x : Str) : Bool := !(x == ("__debug__" : Str)) && !(x == ("__classdict__" : Str)) && !(x == ("__name__" : Str))
def notStar : Expr → Bool
  | .Starred _ _ => false
  | _ => true
def notSet : Expr → Bool
  | .Set _ _ _ => false
  | _ => true
def notComp : Expr → Bool
  | .ListComp _ _ _ _ => false | .SetComp _ _ _ _ => false | .DictComp _ _ _ _ _ => false
  | _ => true
def notTup : Expr → Bool
  | .Tuple _ _ _ => false
  | _ => true
def notSlice : Expr → Bool
  | .Slice _ _ _ _ => false
  | _ => true
def okBase : Expr → Bool
  | .Name _ _ => true | .Attribute _ _ _ => true | .Subscript _ _ _ => true | .Dict _ _ _ => true
  | _ => false
def isNm : BI → Bool := fun _ => true
def tyNames : List String := ["tuple", "list", "int", "bool", "str"]
def ownOf (N : List Str) (ows : List Nat) : List (Str × Nat) := ows.map fun i => (N.getD i (Str.ofString ""), i)
mutual
def chkT (s : Sx) : CT → Expr → Bool
  | .name i, e => (match e with
    | .Name x _ => decide (s.N[i]? = some x) && locB s.sc x && (s.fb x || decide (s.sc.names.lookup x = some .local))
    | _ => false)
  | .tup ts, e => (match e with
    | .Tuple es _ _ => chkTs s ts es
    | _ => false)
def chkTs (s : Sx) : CTs → List Expr → Bool
  | .nil, es => (match es with
    | [] => true
    | _ => false)
  | .cons t r, es => (match es with
    | e :: es => notStar e && chkT s t e && chkTs s r es
    | _ => false)
end
def conB (d : D) (c : Const) : Bool := match d, c with
  | .non, .none => true
  | .bl a, .bool b => a == b
  | .int i, .int j => decide (i = j)
  | .str x, .str y => decide (x = y) && PyData.strOk x
  | _, _ => false
mutual
def chkE (g : Nms) (s : Sx) : CE → Expr → Bool
  | .var i, e => (match e with
    | .Name x _ => decide (s.N[i]? = some x) && visB s.sc x && okName x
    | _ => false)
  | .con d, e => (match e with
    | .Constant c _ _ => conB d c
    | _ => false)
  | .glob j, e => (match e with
    | .Name x _ => decide (g.gl[j]? = some x) && glB s.sc x && okName x
    | _ => false)
  | .tup cs, e => (match e with
    | .Tuple es _ _ => chkEs g s cs es && decide (cnt cs ≤ 1000)
    | _ => false)
  | .lst _ cs, e => (match e with
    | .List es _ => chkEs g s cs es && decide (cnt cs ≤ 1000)
    | _ => false)
  | .ifx t a b, e => (match e with
    | .IfExp t' a' b' _ => chkE g s t t' && chkE g s a a' && chkE g s b b'
    | _ => false)
  | .and_ a b, e => (match e with
    | .BoolOp .And (x :: y :: r) pos => chkE g s a x && chkE g s b (.BoolOp .And (y :: r) pos)
    | _ => false)
  | .or_ a b, e => (match e with
    | .BoolOp .Or (x :: y :: r) pos => chkE g s a x && chkE g s b (.BoolOp .Or (y :: r) pos)
    | _ => false)
  | .last a, e => (match e with
    | .BoolOp _ [x] _ => chkE g s a x
    | _ => false)
  | .not_ a, e => (match e with
    | .UnaryOp .Not x _ => chkE g s a x
    | _ => false)
  | .cmp o a b, e => (match e with
    | .Compare x [op] [y] _ => decide (op = opC o) && notSet y && chkE g s a x && chkE g s b y
    | _ => false)
  | .bin o a b, e => (match e with
    | .BinOp x op y _ => decide (op = opB o) && chkE g s a x && chkE g s b y
    | _ => false)
  | .neg a, e => (match e with
    | .UnaryOp .USub x _ => chkE g s a x
    | _ => false)
  | .ix a i, e => (match e with
    | .Subscript x y _ => notSlice y && chkE g s a x && chkE g s i y
    | _ => false)
  | .sl a lo hi, e => (match e with
    | .Subscript x (.Slice l h none _) _ => chkE g s a x && chkO g s lo l && chkO g s hi h
    | _ => false)
  | .rev a, e => (match e with
    | .Subscript x (.Slice none none (some (.UnaryOp .USub (.Constant (.int j) _ _) _)) _) _ => decide (j = 1) && chkE g s a x
    | _ => false)
  | .frz a, e => (match e with
    | .Name x p => chkE g s a (.Name x p)
    | _ => false)
  | .dic _ cs, e => (match e with
    | .Dict ks vs _ => chkPs g s cs ks vs && decide (ks.length ≤ 15)
    | _ => false)
  | .get1 o k, e => (match e with
    | .Call (.Attribute o' name apos) [y] [] cpos => decide (name = ("get" : Str)) && okBase o' && (apos.endLine == cpos.line) && notStar y && chkE g s o o' && chkE g s k y
    | _ => false)
  | .get2 o k x, e => (match e with
    | .Call (.Attribute o' name apos) [y, z] [] cpos => decide (name = ("get" : Str)) && okBase o' && (apos.endLine == cpos.line) && notStar y && notStar z && chkE g s o o' && chkE g s k y && chkE g s x z
    | _ => false)
  | .call f cs, e => (match e with
    | .Call (.Name x _) (y :: ys) [] _ => decide (g.fs[f]? = some x) && glB s.sc x && okName x && chkEs g s cs (y :: ys)
    | _ => false)
  | .bi b cs, e => (match e with
    | .Call (.Name x _) [y] [] _ => decide (x = biName b) && glB s.sc x && chkEs g s cs [y]
    | _ => false)
  | .mt m o cs, e => (match e with
    | .Call (.Attribute o' name apos) [y] [] cpos => decide (m = .append) && decide (name = ("append" : Str)) && okBase o' && (apos.endLine == cpos.line) && chkE g s o o' && chkEs g s cs [y]
    | _ => false)
  | .isi a t, e => (match e with
    | .Call (.Name x _) [y, .Name z _] [] _ => decide (x = ("isinstance" : Str)) && glB s.sc x && notStar y && chkE g s a y && decide (t ∈ tyNames) && decide (z = Str.ofString t) && glB s.sc z
    | _ => false)
  | .lc elt tg it test ows, e => (match e with
    | .ListComp elt' [⟨tg', it', ifs, 0⟩] scope _ => notSet it' && blkC s.N s.sc scope (ownOf s.N ows) && decide (∀ j ∈ slotsT tg, j ∈ ows) && chkT (s.blk scope) tg tg' && chkI g s it tg' it' && chkTests g (s.blk scope) test ifs && chkE g (s.blk scope) elt elt'
    | _ => false)
def chkO (g : Nms) (s : Sx) : CEs → Option Expr → Bool
  | .nil, o => (match o with
    | none => true
    | _ => false)
  | .cons c .nil, o => (match o with
    | some e => chkE g s c e
    | none => false)
  | .cons _ (.cons _ _), _ => false
def chkTests (g : Nms) (s : Sx) : CEs → List Expr → Bool
  | .nil, o => (match o with
    | [] => true
    | _ => false)
  | .cons c .nil, o => (match o with
    | [e] => chkE g s c e
    | _ => false)
  | .cons _ (.cons _ _), _ => false
def chkEs (g : Nms) (s : Sx) : CEs → List Expr → Bool
  | .nil, es => (match es with
    | [] => true
    | _ => false)
  | .cons c r, es => (match es with
    | e :: es => notStar e && chkE g s c e && chkEs g s r es
    | _ => false)
def chkPs (g : Nms) (s : Sx) : CEs → List (Option Expr) → List Expr → Bool
  | .nil, ks, vs => (match ks, vs with
    | [], [] => true
    | _, _ => false)
  | .cons _ .nil, _, _ => false
  | .cons k (.cons v r), ks, vs => (match ks, vs with
    | some k' :: ks, v' :: vs => chkE g s k k' && chkE g s v v' && chkPs g s r ks vs
    | _, _ => false)
def chkI (g : Nms) (s : Sx) : CI → Expr → Expr → Bool
  | .seq c, _, e => chkE g s c e
  | .rng cs, _, e => (match e with
    | .Call (.Name x _) ys [] _ => decide (x = ("range" : Str)) && glB s.sc x && chkEs g s cs ys && (decide (ys.length = 1) || decide (ys.length = 2))
    | _ => false)
  | .zip cs, tg, e => (match e, tg with
    | .Call (.Name x _) [y, z] [] _, .Tuple _ _ _ => decide (x = ("zip" : Str)) && glB s.sc x && chkEs g s cs [y, z]
    | _, _ => false)
end

/-- built-in names that the small syntax knows -/
def bnames : List Str := ["len", "tuple", "list", "int", "all", "any", "abs", "range", "zip", "isinstance", "bool", "str"]
/-- where one stands -/
structure Ctx (G : GI) (P : Prog) (g : Nms) (k : Nat) (s : Sx) (X : Cx) : Prop where
  K : X.K = G.K
  N : X.N = s.N
  nd : X.N.Nodup
  sc : X.env.scope = s.sc
  fb : X.fn = s.fb
  calm : X.calm = true
  xe : X.xe = fun _ _ => False
  room : Room k X.A
  w : X.w = G.w
  gl : ∀ (j : Nat) (x : Str), g.gl[j]? = some x → ∃ d u v, P.gl[j]? = some d ∧ X.mg x = some u ∧ RelV v u ∧ ∀ As F, RpT G As F v d
  bl : ∀ x ∈ bnames, X.mg x = none
  fs : ∀ (f : Nat) (x : Str), g.fs[f]? = some x → ∃ a fd ps, X.mg x = some (.ref a) ∧ PySem.W.keepIn X.K (.ref a) = true ∧ Binds X.K fd ps [] ∧ FnOk X.prog X.w X.K X.mg X.base CX0 k a fd ps (spF G P k f)
section
variable {G : GI} {P : Prog} {g : Nms} {k : Nat} {s : Sx} {X : Cx}
theorem Ctx.blk (c : Ctx G P g k s X) (sh : Shared) (H : Hp) (scope : Scope) (C : Addr) (cl : List (Str × Addr)) (fp : List Addr) : Ctx G P g k (s.blk scope) (X.blk sh H scope (compEnvC scope cl C X.env) fp) where
  K := c.K
  N := c.N
  nd := c.nd
  sc := by
    show relS scope X.env.scope = relS scope s.sc
    rw [c.sc]
  fb := rfl
  calm := c.calm
  xe := rfl
  room := c.room
  w := c.w
  gl := c.gl
  bl := c.bl
  fs := c.fs
theorem visB_ok {sc : Scope} {x : Str} (h : visB sc x = true) : Vis sc x := by
  unfold visB at h
  split at h
  · exact .inl (by assumption)
  · exact .inr (.inl (by assumption))
  · exact .inr (.inr (by assumption))
  · cases h
theorem locB_ok {sc : Scope} {x : Str} (h : locB sc x = true) : Loc sc x := by
  unfold locB at h
  split at h
  · exact .inl (by assumption)
  · exact .inr (by assumption)
  · cases h
theorem glB_ok {sc : Scope} {x : Str} (h : glB sc x = true) : sc.names.lookup x = some .globalImplicit := by
  unfold glB at h
  split at h
  · assumption
  · cases h
theorem Ctx.gl_ {x : Str} (c : Ctx G P g k s X) (h : glB s.sc x = true) : Gl X x := by
  show X.env.scope.names.lookup x = _
  rw [c.sc]
  exact glB_ok h
theorem okName_ok {x : Str} (h : okName x = true) : (x == ("__debug__" : Str)) = false ∧ (x == ("__classdict__" : Str)) = false ∧ x ≠ "__name__" := by
  unfold okName at h
  simp only [Bool.and_eq_true, Bool.not_eq_true'] at h
  exact ⟨h.1.1, h.1.2, fun e => by
    have := h.2
    rw [beq_eq_false_iff_ne] at this
    exact this e⟩
theorem star_cons {e : Expr} {es : List Expr} {env : Env} (h : notStar e = true) : starEach (e :: es) env = (false, eval e env) :: starEach es env := by
  cases e <;> first | rfl | cases h
theorem chkEs_plain : ∀ {cs : CEs} {es : List Expr}, chkEs g s cs es = true → ∀ (env : Env) (pos : Pos), (backTo pos (starEach es env)).any (·.1) = false
  | .nil, es, h, env, pos => by
    simp only [chkEs] at h
    split at h
    · rfl
    · cases h
  | .cons c r, es, h, env, pos => by
    simp only [chkEs] at h
    split at h
    · rename_i e es
      simp only [Bool.and_eq_true] at h
      rw [star_cons h.1.1]
      show (false || (backTo pos (starEach es env)).any (·.1)) = false
      rw [chkEs_plain h.2 env pos]
      rfl
    · cases h
theorem chkEs_cnt : ∀ {cs : CEs} {es : List Expr}, chkEs g s cs es = true → cnt cs = es.length
  | .nil, es, h => by
    simp only [chkEs] at h
    split at h
    · rfl
    · cases h
  | .cons c r, es, h => by
    simp only [chkEs] at h
    split at h
    · simp only [Bool.and_eq_true] at h
      simp [cnt, chkEs_cnt h.2]
    · cases h
theorem chkPs_even : ∀ {cs : CEs} {ks : List (Option Expr)} {vs : List Expr}, chkPs g s cs ks vs = true → even cs = true ∧ ks.all (·.isSome) = true ∧ ks.length = vs.length ∧ (cs ≠ .nil → ks ≠ [])
  | .nil, ks, vs, h => by
    simp only [chkPs] at h
    split at h
    · exact ⟨rfl, rfl, rfl, fun z => absurd rfl z⟩
    · cases h
  | .cons _ .nil, ks, vs, h => by simp [chkPs] at h
  | .cons k (.cons v r), ks, vs, h => by
    simp only [chkPs] at h
    split at h
    · simp only [Bool.and_eq_true] at h
      obtain ⟨h1, h2, h3, _⟩ := chkPs_even h.2
      exact ⟨by simpa [even] using h1, by simpa using h2, by simp [h3], fun _ z => nomatch z⟩
    · cases h
/-! ### tests -/
variable {σ : L2.St} {H : Hp} {cl : Cl} {a b c t : CE}
theorem imp_tB {Q : Bool → Hp → Prop} (h : tT G P cl c σ H Q) : tE G P cl c σ H fun x H' => ∃ k, x = .bl k ∧ Q k H' := by
  obtain ⟨As, F, env, S, d, S', st, en, ev, q⟩ := h
  unfold evT at ev
  obtain ⟨x, S1, h1, h2⟩ := Bd_eq ev
  split at h2
  · rename_i b hb
    cases h2
    have := toB_bl hb; subst this
    exact tX.mk st en h1 fun As1 F1 H1 v x1 st1 r1 => ⟨_, r1.bl_inv, q _ _ _ _ x1 st1 rfl⟩
  · cases h2
theorem imp_andT {Q : Bool → Hp → Prop} (h : tT G P cl (.and_ a b) σ H Q) : tAnd (tT G P cl a) (tT G P cl b) σ H Q := by
  obtain ⟨As, F, env, S, d, S', st, en, ev, q⟩ := h
  simp only [evT, evE] at ev
  obtain ⟨x, S1, h1, h2⟩ := Bd_eq ev
  obtain ⟨k, S2, h3, h4⟩ := Bd_eq h1
  cases hk : k.toB with
  | none => rw [hk] at h4; cases h4
  | some kb =>
    refine tX.mk (a := kb) (S' := S2) st en (by simp only [evT, h3, Bd_some, hk]) fun As1 F1 H1 c x1 st1 r1 => ?_
    subst r1
    rw [hk] at h4
    cases c with
    | true =>
      rw [if_pos rfl]
      refine tX.mk (a := d) (S' := S') st1 (en.mono x1.pre x1.sub) ?_ fun As2 F2 H2 c x2 st2 r2 => q _ _ _ _ (x1.trans x2) st2 r2
      simp only [evT]
      simp only at h4
      rw [h4]
      exact h2
    | false =>
      rw [if_neg Bool.false_ne_true]
      cases h4
      cases h2
      exact q _ _ _ _ x1 st1 rfl
theorem imp_orT {Q : Bool → Hp → Prop} (h : tT G P cl (.or_ a b) σ H Q) : tOr (tT G P cl a) (tT G P cl b) σ H Q := by
  obtain ⟨As, F, env, S, d, S', st, en, ev, q⟩ := h
  simp only [evT, evE] at ev
  obtain ⟨x, S1, h1, h2⟩ := Bd_eq ev
  obtain ⟨k, S2, h3, h4⟩ := Bd_eq h1
  cases hk : k.toB with
  | none => rw [hk] at h4; cases h4
  | some kb =>
    refine tX.mk (a := kb) (S' := S2) st en (by simp only [evT, h3, Bd_some, hk]) fun As1 F1 H1 c x1 st1 r1 => ?_
    subst r1
    rw [hk] at h4
    cases c with
    | false =>
      rw [if_neg Bool.false_ne_true]
      refine tX.mk (a := d) (S' := S') st1 (en.mono x1.pre x1.sub) ?_ fun As2 F2 H2 c x2 st2 r2 => q _ _ _ _ (x1.trans x2) st2 r2
      simp only [evT]
      simp only at h4
      rw [h4]
      exact h2
    | true =>
      rw [if_pos rfl]
      cases h4
      cases h2
      exact q _ _ _ _ x1 st1 rfl
theorem imp_lastT {Q : Bool → Hp → Prop} (h : tT G P cl (.last a) σ H Q) : tT G P cl a σ H Q := h.congr fun env S => by simp only [evT, evE]
theorem imp_notT {Q : Bool → Hp → Prop} (h : tT G P cl (.not_ a) σ H Q) : tNot (tT G P cl a) σ H Q := by
  obtain ⟨As, F, env, S, d, S', st, en, ev, q⟩ := h
  simp only [evT, evE] at ev
  obtain ⟨x, S1, h1, h2⟩ := Bd_eq ev
  obtain ⟨k, S2, h3, h4⟩ := Bd_eq h1
  cases hk : k.toB with
  | none => rw [hk] at h4; cases h4
  | some kb =>
    rw [hk] at h4
    cases h4
    cases h2
    refine tX.mk (a := kb) (S' := S') st en (by simp only [evT, h3, Bd_some, hk]) fun As1 F1 H1 c x1 st1 r1 => ?_
    subst r1
    exact q _ _ _ _ x1 st1 rfl
def tIfT (t u w : TT) : TT := fun σ H Q => t σ H fun c H1 => if c = true then u σ H1 Q else w σ H1 Q
theorem pt_ifx {X : Cx} {t a b : Expr} {tt ta tb : TT} {pos : Pos} (ht : PT X t tt) (ha : PT X a ta) (hb : PT X b tb) : PT X (.IfExp t a b pos) (tIfT tt ta tb) := by
  refine ⟨fun pins s σ H Q I h => ?_⟩
  show wpAny _ _ (do if ← isTrue t X.env (eval t X.env) then isTrue a X.env (eval a X.env) else isTrue b X.env (eval b X.env)) _ _ s
  refine wpAny_bind (thn (ht.run pins s σ H _ I h) fun d s1 ⟨H1, I1, q1⟩ => ?_)
  cases d with
  | true => exact ha.run pins s1 σ H1 Q I1 q1
  | false => exact hb.run pins s1 σ H1 Q I1 q1
theorem imp_ifT {Q : Bool → Hp → Prop} (h : tT G P cl (.ifx t a b) σ H Q) : tIfT (tT G P cl t) (tT G P cl a) (tT G P cl b) σ H Q := by
  obtain ⟨As, F, env, S, d, S', st, en, ev, q⟩ := h
  simp only [evT, evE] at ev
  obtain ⟨x, S1, h1, h2⟩ := Bd_eq ev
  obtain ⟨k, S2, h3, h4⟩ := Bd_eq h1
  cases hk : k.toB with
  | none => rw [hk] at h4; cases h4
  | some kb =>
    refine tX.mk (a := kb) (S' := S2) st en (by simp only [evT, h3, Bd_some, hk]) fun As1 F1 H1 c x1 st1 r1 => ?_
    subst r1
    rw [hk] at h4
    cases c with
    | true =>
      rw [if_pos rfl]
      refine tX.mk (a := d) (S' := S') st1 (en.mono x1.pre x1.sub) ?_ fun As2 F2 H2 c x2 st2 r2 => q _ _ _ _ (x1.trans x2) st2 r2
      simp only [evT]
      simp only at h4
      rw [h4]
      exact h2
    | false =>
      rw [if_neg Bool.false_ne_true]
      refine tX.mk (a := d) (S' := S') st1 (en.mono x1.pre x1.sub) ?_ fun As2 F2 H2 c x2 st2 r2 => q _ _ _ _ (x1.trans x2) st2 r2
      simp only [evT]
      simp only at h4
      rw [h4]
      exact h2
theorem imp_tests0 {Q : Bool → Hp → Prop} (h : tTs G P cl .nil σ H Q) : tYes σ H Q := by
  obtain ⟨As, F, env, S, d, S', st, en, ev, q⟩ := h
  simp only [evTest] at ev
  cases ev
  exact q _ _ _ _ (.refl _ _ _) st rfl
theorem imp_tests1 {Q : Bool → Hp → Prop} (h : tTs G P cl (.cons c .nil) σ H Q) : tT G P cl c σ H Q := h.congr fun env S => by simp only [evTest, evT] <;> rfl
/-! ### targets -/
mutual
theorem okT (c : Ctx G P g k s X) : ∀ (t : CT) (e : Expr), chkT s t e = true → PG X e (tG G t)
  | .name i, e, h => by
    simp only [chkT] at h
    split at h
    · rename_i x p
      simp only [Bool.and_eq_true, decide_eq_true_eq, Bool.or_eq_true] at h
      obtain ⟨⟨h1, h2⟩, h3⟩ := h
      refine PG.imp (pg_name c.nd (by rw [c.N]; exact h1) (by rw [c.sc]; exact locB_ok h2) (hf := ?_)) fun v σ H Q q => imp_gname q
      rw [c.fb, c.sc]
      exact h3
    · cases h
  | .tup ts, e, h => by
    simp only [chkT] at h
    split at h
    · rename_i es kk p
      refine PG.imp (pg_tup c.calm (okTs c ts es h) ?_ ?_) fun v σ H Q q => by
        have e := imp_gtup q
        rw [← c.K] at e
        exact e
      · exact lenT c ts es h
      · exact starT c ts es h
    · cases h
theorem okTs (c : Ctx G P g k s X) : ∀ (t : CTs) (es : List Expr), chkTs s t es = true → PGs X es (tGs G t)
  | .nil, es, h => by
    simp only [chkTs] at h
    split at h
    · exact PGs.imp pgs_nil fun v σ H Q q => imp_gnil q
    · cases h
  | .cons t r, es, h => by
    simp only [chkTs] at h
    split at h
    · rename_i e es
      simp only [Bool.and_eq_true] at h
      refine PGs.imp (pgs_cons (okT c t e h.1.2) (okTs c r es h.2) ?_) fun v σ H Q q => imp_gcons q
      have hs := h.1.1
      cases e <;> first | rfl | cases hs
    · cases h
theorem lenT (c : Ctx G P g k s X) : ∀ (t : CTs) (es : List Expr), chkTs s t es = true → (assignEach es X.env).length = cntT t
  | .nil, es, h => by
    simp only [chkTs] at h
    split at h
    · rfl
    · cases h
  | .cons t r, es, h => by
    simp only [chkTs] at h
    split at h
    · rename_i e es
      simp only [Bool.and_eq_true] at h
      have hs := h.1.1
      have ih := lenT c r es h.2
      have e2 : (assignEach (e :: es) X.env).length = (assignEach es X.env).length + 1 := by cases e <;> first | rfl | cases hs
      rw [e2, ih]; rfl
    · cases h
theorem starT (c : Ctx G P g k s X) : ∀ (t : CTs) (es : List Expr), chkTs s t es = true → (assignEach es X.env).findIdx? (·.1) = none
  | .nil, es, h => by
    simp only [chkTs] at h
    split at h
    · rfl
    · cases h
  | .cons t r, es, h => by
    simp only [chkTs] at h
    split at h
    · rename_i e es
      simp only [Bool.and_eq_true] at h
      have hs := h.1.1
      have ih := starT c r es h.2
      have e2 : assignEach (e :: es) X.env = (false, assign e X.env) :: assignEach es X.env := by cases e <;> first | rfl | cases hs
      rw [e2, List.findIdx?_cons, ih]; rfl
    · cases h
end
end
end PC

set_option Elab.async false
set_option linter.all false
set_option maxRecDepth 100000
set_option maxHeartbeats 8000000
/-! Core, part I: whatever the look passes is done as the evaluator says: expressions. -/
namespace PC
open PySem PySem.Spec PyProof.Rows L2
/-- an expression as a value, as a test, as a test whatever its 'whole' is -/
structure OkE (G : GI) (P : Prog) (k : Nat) (X : Cx) (c : CE) (e : Expr) : Prop where
  pe : PE X e (tE G P (callK P k) c)
  pt : PT X e (tT G P (callK P k) c)
  pw : ∀ op xs pos, e = .BoolOp op xs pos → PW X e (tT G P (callK P k) c)
section
variable {G : GI} {P : Prog} {g : Nms} {k : Nat}
theorem OkE.of {X : Cx} {c : CE} {e : Expr} (pe : PE X e (tE G P (callK P k) c)) (he : ∀ whole, isTrue e X.env whole = (do let v ← whole; standAt e.pos; holding [v] (truthy v))) (hn : ∀ op xs pos, e ≠ .BoolOp op xs pos) : OkE G P k X c e :=
  ⟨pe, PT.imp (pt_val pe he) fun σ H Q q => imp_tB q, fun op xs pos z => absurd z (hn op xs pos)⟩
theorem con_v {d : D} {c : Const} {X : Cx} {pos : Pos} {j : Nat} (h : conB d c = true) : PE X (.Constant c j pos) (tE G P (callK P k) (.con d)) := by
  unfold conB at h
  split at h
  · exact PE.imp pe_non fun σ H Q q => imp_con q fun F => .non
  · have e := eq_of_beq h
    subst e
    exact PE.imp pe_bl fun σ H Q q => imp_con q fun F => .bl _
  · have e := of_decide_eq_true h
    subst e
    exact PE.imp pe_int fun σ H Q q => imp_con q fun F => .int _
  · rw [Bool.and_eq_true] at h
    have e := of_decide_eq_true h.1
    subst e
    exact PE.imp pe_str fun σ H Q q => imp_con q fun F => .str _ h.2
  · cases h
theorem pe_isi {X : Cx} {e : Expr} {te : TE} {p p2 pos : Pos} (t : String) (ht : t ∈ tyNames) (hg : Gl X "isinstance") (hm : X.mg "isinstance" = none) (hg2 : Gl X (Str.ofString t)) (hm2 : ∀ x ∈ bnames, X.mg x = none) (he : PE X e te) (hs : notStar e = true) :
    PE X (.Call (.Name "isinstance" p) [e, .Name (Str.ofString t) p2] [] pos) (tCB (rIsi X.K) (tCons te (tCons (tC (.ty t)) tNil))) := by
  have ty : PE X (.Name (Str.ofString t) p2) (tC (.ty t)) := by
    have h : t = "tuple" ∨ t = "list" ∨ t = "int" ∨ t = "bool" ∨ t = "str" := by simpa [tyNames] using ht
    rcases h with rfl | rfl | rfl | rfl | rfl
    · exact pe_bltn (u := .type "tuple") hg2 (hm2 _ (by decide)) (by decide +kernel) rfl (by decide) (by decide)
    · exact pe_bltn (u := .type "list") hg2 (hm2 _ (by decide)) (by decide +kernel) rfl (by decide) (by decide)
    · exact pe_bltn (u := .type "int") hg2 (hm2 _ (by decide)) (by decide +kernel) rfl (by decide) (by decide)
    · exact pe_bltn (u := .type "bool") hg2 (hm2 _ (by decide)) (by decide +kernel) rfl (by decide) (by decide)
    · exact pe_bltn (u := .type "str") hg2 (hm2 _ (by decide)) (by decide +kernel) rfl (by decide) (by decide)
  exact pe_callB call_isi hg hm (by decide +kernel) (pa_cons he (pa_cons ty pa_nil rfl) (star_cons hs)) (by decide) (by decide) (star_cons hs) rfl
theorem units64 {A : Around} (r : Room k A) : A.units + 64 < cLine := r.units
theorem notSlice_plain {b : Expr} (h : notSlice b = true) : PlainIx b := fun o i => by cases b <;> first | rfl | cases h
theorem notSet_mark {b : Expr} {op : CmpOp} (h : notSet b = true) : behindInMarks op b = false := by cases b <;> first | rfl | cases h
theorem notSet_folded {b : Expr} (h : notSet b = true) (env : Env) (x : Value) : foldedSetIterable b env x = pure x := by cases b <;> first | rfl | cases h
theorem own_snd (N : List Str) (ows : List Nat) : (ownOf N ows).map (·.2) = ows := by
  unfold ownOf
  rw [List.map_map]
  exact List.map_id' _
theorem okBase_ok {o : Expr} {m : Str} {env : Env} (h : okBase o = true) : attributeBase o m env (eval o env) = eval o env := by cases o <;> first | rfl | cases h
mutual
theorem okE : ∀ (c : CE) (s : Sx) (X : Cx) (e : Expr), Ctx G P g k s X → chkE g s c e = true → OkE G P k X c e
  | .var i, s, X, e, cx, h => by
    simp only [chkE] at h
    split at h
    · simp only [Bool.and_eq_true, decide_eq_true_eq] at h
      obtain ⟨⟨h1, h2⟩, h3⟩ := h
      obtain ⟨n1, n2, _⟩ := okName_ok h3
      exact .of (PE.imp (pe_var (by rw [cx.N]; exact h1) (by rw [cx.sc]; exact visB_ok h2) n1 n2) fun σ H Q q => imp_var q) (fun _ => rfl) (fun _ _ _ z => nomatch z)
    · cases h
  | .con d, s, X, e, cx, h => by
    simp only [chkE] at h
    split at h
    · exact .of (con_v h) (fun _ => rfl) (fun _ _ _ z => nomatch z)
    · cases h
  | .glob j, s, X, e, cx, h => by
    simp only [chkE] at h
    split at h
    · simp only [Bool.and_eq_true, decide_eq_true_eq] at h
      obtain ⟨⟨h1, h2⟩, h3⟩ := h
      obtain ⟨n1, n2, _⟩ := okName_ok h3
      obtain ⟨d, u, v, hd, hm, rv, rp⟩ := cx.gl j _ h1
      exact .of (PE.imp (pe_glob (cx.gl_ h2) hm rv n1) fun σ H Q q => imp_glob hd q rp) (fun _ => rfl) (fun _ _ _ z => nomatch z)
    · cases h
  | .tup cs, s, X, e, cx, h => by
    simp only [chkE] at h
    split at h
    · simp only [Bool.and_eq_true, decide_eq_true_eq] at h
      exact .of (PE.imp (pe_tup (okEs cs s X _ cx h.1)) fun σ H Q q => imp_tup h.2 q) (fun _ => rfl) (fun _ _ _ z => nomatch z)
    · cases h
  | .lst own cs, s, X, e, cx, h => by
    simp only [chkE] at h
    split at h
    · simp only [Bool.and_eq_true, decide_eq_true_eq] at h
      exact .of (PE.imp (pe_lst (okEs cs s X _ cx h.1)) fun σ H Q q => imp_lst h.2 q) (fun _ => rfl) (fun _ _ _ z => nomatch z)
    · cases h
  | .ifx t a b, s, X, e, cx, h => by
    simp only [chkE] at h
    split at h
    · simp only [Bool.and_eq_true] at h
      have it := okE t s X _ cx h.1.1
      have ia := okE a s X _ cx h.1.2
      have ib := okE b s X _ cx h.2
      exact ⟨PE.imp (pe_ifExp it.pt ia.pe ib.pe) fun σ H Q q => imp_ifx q, PT.imp (pt_ifx it.pt ia.pt ib.pt) fun σ H Q q => imp_ifT q, fun _ _ _ z => nomatch z⟩
    · cases h
  | .and_ a b, s, X, e, cx, h => by
    simp only [chkE] at h
    split at h
    · simp only [Bool.and_eq_true] at h
      have ia := okE a s X _ cx h.1
      have ib := okE b s X _ cx h.2
      have w := PW.imp (pw_and ia.pt (ib.pw _ _ _ rfl)) fun σ H Q q => imp_andT (G := G) (P := P) (cl := callK P k) q
      exact ⟨PE.imp (pe_and ia.pe ib.pe) fun σ H Q q => imp_andV q, w.pt, fun _ _ _ _ => w⟩
    · cases h
  | .or_ a b, s, X, e, cx, h => by
    simp only [chkE] at h
    split at h
    · simp only [Bool.and_eq_true] at h
      have ia := okE a s X _ cx h.1
      have ib := okE b s X _ cx h.2
      have w := PW.imp (pw_or ia.pt (ib.pw _ _ _ rfl)) fun σ H Q q => imp_orT (G := G) (P := P) (cl := callK P k) q
      exact ⟨PE.imp (pe_or ia.pe ib.pe) fun σ H Q q => imp_orV q, w.pt, fun _ _ _ _ => w⟩
    · cases h
  | .last a, s, X, e, cx, h => by
    simp only [chkE] at h
    split at h
    · rename_i op x pos
      have ia := okE a s X _ cx h
      have w : PW X (.BoolOp op [x] pos) (tT G P (callK P k) (.last a)) := by
        cases op with
        | And => exact PW.imp (pw_and1 ia.pt) fun σ H Q q => imp_lastT q
        | Or => exact PW.imp (pw_or1 ia.pt) fun σ H Q q => imp_lastT q
      exact ⟨PE.imp (pe_one ia.pe) fun σ H Q q => imp_last q, w.pt, fun _ _ _ _ => w⟩
    · cases h
  | .not_ a, s, X, e, cx, h => by
    simp only [chkE] at h
    split at h
    · have ia := okE a s X _ cx h
      exact ⟨PE.imp (pe_not ia.pe) fun σ H Q q => imp_notV q, PT.imp (pt_not ia.pt) fun σ H Q q => imp_notT q, fun _ _ _ z => nomatch z⟩
    · cases h
  | .cmp o a b, s, X, e, cx, h => by
    simp only [chkE] at h
    split at h
    · simp only [Bool.and_eq_true, decide_eq_true_eq] at h
      obtain ⟨⟨⟨h1, h2⟩, h3⟩, h4⟩ := h
      subst h1
      have ia := okE a s X _ cx h3
      have ib := okE b s X _ cx h4
      have hu := units64 cx.room
      have hr : OpR X (compareOp (opC o)) (rC G.K o) := by
        have := opr_C (X := X) o hu
        rw [cx.K] at this
        exact this
      exact ⟨PE.imp (pe_cmpR hr ia.pe ib.pe (notSet_mark h2)) fun σ H Q q => imp_cmp q, PT.imp (pt_cmpR hr ia.pe ib.pe (notSet_mark h2)) fun σ H Q q => imp_cmp (imp_tB q), fun _ _ _ z => nomatch z⟩
    · cases h
  | .bin o a b, s, X, e, cx, h => by
    simp only [chkE] at h
    split at h
    · simp only [Bool.and_eq_true, decide_eq_true_eq] at h
      obtain ⟨⟨h1, h3⟩, h4⟩ := h
      subst h1
      have ia := okE a s X _ cx h3
      have ib := okE b s X _ cx h4
      have hr : OpR X (binaryOp (opB o)) (rB G.K o) := by
        have := opr_B (X := X) o
        rw [cx.K] at this
        exact this
      exact .of (PE.imp (pe_op hr ia.pe ib.pe) fun σ H Q q => imp_bin q) (fun _ => rfl) (fun _ _ _ z => nomatch z)
    · cases h
  | .neg a, s, X, e, cx, h => by
    simp only [chkE] at h
    split at h
    · have ia := okE a s X _ cx h
      exact .of (PE.imp (pe_un un_neg ia.pe) fun σ H Q q => imp_neg q) (fun _ => rfl) (fun _ _ _ z => nomatch z)
    · cases h
  | .ix a i, s, X, e, cx, h => by
    simp only [chkE] at h
    split at h
    · simp only [Bool.and_eq_true] at h
      have ia := okE a s X _ cx h.1.2
      have ib := okE i s X _ cx h.2
      have hr : IxR X (rIxP G.K G.w) := by
        have := ix_P (X := X) (by have := units64 cx.room; omega)
        rw [cx.K, cx.w] at this
        exact this
      exact .of (PE.imp (pe_ix hr ia.pe ib.pe (notSlice_plain h.1.1)) fun σ H Q q => imp_ix q) (fun _ => rfl) (fun _ _ _ z => nomatch z)
    · cases h
  | .sl a lo hi, s, X, e, cx, h => by
    simp only [chkE] at h
    split at h
    · simp only [Bool.and_eq_true] at h
      have ia := okE a s X _ cx h.1.1
      have il := okO lo s X _ cx h.1.2
      have ih := okO hi s X _ cx h.2
      have hr : SlR X (rSlD G.K) := by
        have := sl_D (X := X)
        rw [cx.K] at this
        exact this
      exact .of (PE.imp (pe_slice hr ia.pe il ih) fun σ H Q q => imp_sl q) (fun _ => rfl) (fun _ _ _ z => nomatch z)
    · cases h
  | .rev a, s, X, e, cx, h => by
    simp only [chkE] at h
    split at h
    · simp only [Bool.and_eq_true, decide_eq_true_eq] at h
      obtain ⟨h1, h2⟩ := h
      subst h1
      have ia := okE a s X _ cx h2
      refine .of (PE.imp (pe_revL ia.pe) fun σ H Q q => ?_) (fun _ => rfl) (fun _ _ _ z => nomatch z)
      rw [cx.K]
      exact imp_rev q
    · cases h
  | .frz a, s, X, e, cx, h => by
    simp only [chkE] at h
    split at h
    · have ia := okE a s X _ cx h
      exact .of (PE.imp ia.pe fun σ H Q q => imp_frz q) (fun _ => rfl) (fun _ _ _ z => nomatch z)
    · cases h
  | .dic own cs, s, X, e, cx, h => by
    simp only [chkE] at h
    split at h
    · simp only [Bool.and_eq_true, decide_eq_true_eq] at h
      obtain ⟨h1, h2⟩ := h
      obtain ⟨c1, c2, c3, c4⟩ := chkPs_even h1
      have ia := okPs cs s X _ _ cx h1
      cases cs with
      | nil =>
        simp only [chkPs] at h1
        split at h1
        · exact .of (PE.imp pe_dnewK fun σ H Q q => imp_dic0 q) (fun _ => rfl) (fun _ _ _ z => nomatch z)
        · cases h1
      | cons a r => exact .of (PE.imp (pe_disp (ia _) c2 c3 (c4 (fun z => nomatch z)) h2) fun σ H Q q => imp_dic c1 q) (fun _ => rfl) (fun _ _ _ z => nomatch z)
    · cases h
  | .get1 o c, s, X, e, cx, h => by
    simp only [chkE] at h
    split at h
    · rename_i o' name apos y cpos
      simp only [Bool.and_eq_true, decide_eq_true_eq] at h
      obtain ⟨⟨⟨⟨⟨h1, h2⟩, h3⟩, h4⟩, h5⟩, h6⟩ := h
      subst h1
      have io := okE o s X _ cx h5
      have iy := okE c s X _ cx h6
      exact .of (PE.imp (pe_dget1 (by have := units64 cx.room; omega) io.pe iy.pe ⟨okBase_ok h2, by rw [star_cons h4]; rfl, h3, by rw [star_cons h4]; rfl⟩) fun σ H Q q => imp_get1 q) (fun _ => rfl) (fun _ _ _ z => nomatch z)
    · cases h
  | .get2 o c d, s, X, e, cx, h => by
    simp only [chkE] at h
    split at h
    · rename_i o' name apos y z cpos
      simp only [Bool.and_eq_true, decide_eq_true_eq] at h
      obtain ⟨⟨⟨⟨⟨⟨⟨h1, h2⟩, h3⟩, h4⟩, h4'⟩, h5⟩, h6⟩, h7⟩ := h
      subst h1
      have io := okE o s X _ cx h5
      have iy := okE c s X _ cx h6
      have iz := okE d s X _ cx h7
      exact .of (PE.imp (pe_dget2 (by have := units64 cx.room; omega) io.pe iy.pe iz.pe ⟨okBase_ok h2, by rw [star_cons h4, star_cons h4']; rfl, h3, by rw [star_cons h4, star_cons h4']; rfl⟩) fun σ H Q q => imp_get2 q) (fun _ => rfl) (fun _ _ _ z => nomatch z)
    · cases h
  | .call f cs, s, X, e, cx, h => by
    simp only [chkE] at h
    split at h
    · rename_i x p y ys pos
      simp only [Bool.and_eq_true, decide_eq_true_eq] at h
      obtain ⟨⟨⟨h1, h2⟩, h3⟩, h4⟩ := h
      obtain ⟨n1, n2, _⟩ := okName_ok h3
      obtain ⟨a, fd, ps, hm, hk, hb, F⟩ := cx.fs f _ h1
      have hst : notStar y = true := by
        cases cs with
        | nil => simp [chkEs] at h4
        | cons c r => simp only [chkEs, Bool.and_eq_true] at h4; exact h4.1.1
      have hpl : (backTo pos (starEach ys X.env)).any (·.1) = false := by
        cases cs with
        | nil => simp [chkEs] at h4
        | cons c r => simp only [chkEs, Bool.and_eq_true] at h4; exact chkEs_plain h4.2 _ _
      exact .of (PE.imp (pe_call F cx.room (cx.gl_ h2) hm hk hb .nil pass0 (okEs cs s X _ cx h4) n1 (star_cons hst) hpl) fun σ H Q q => imp_call (E := E0) q) (fun _ => rfl) (fun _ _ _ z => nomatch z)
    · cases h
  | .bi b cs, s, X, e, cx, h => by
    simp only [chkE] at h
    split at h
    · rename_i x p y pos
      simp only [Bool.and_eq_true, decide_eq_true_eq] at h
      obtain ⟨⟨h1, h2⟩, h4⟩ := h
      subst h1
      have hst : notStar y = true := by
        cases cs with
        | nil => simp [chkEs] at h4
        | cons c r => simp only [chkEs, Bool.and_eq_true] at h4; exact h4.1.1
      have hm : X.mg (biName b) = none := cx.bl _ (by cases b <;> decide)
      refine .of (PE.imp (pe_bi b cx.calm (cx.gl_ h2) hm (okEs cs s X _ cx h4) (star_cons hst)) fun σ H Q q => ?_) (fun _ => rfl) (fun _ _ _ z => nomatch z)
      rw [cx.K]
      exact imp_bi q
    · cases h
  | .mt m o cs, s, X, e, cx, h => by
    simp only [chkE] at h
    split at h
    · rename_i o' name apos y cpos
      simp only [Bool.and_eq_true, decide_eq_true_eq] at h
      obtain ⟨⟨⟨⟨⟨h1, h2⟩, h3⟩, h4⟩, h5⟩, h6⟩ := h
      subst h2
      cases m
      have io := okE o s X _ cx h5
      cases cs with
      | nil => simp [chkEs] at h6
      | cons c r =>
        simp only [chkEs, Bool.and_eq_true] at h6
        cases r with
        | cons _ _ => simp [chkEs] at h6
        | nil =>
          have iy := okE c s X _ cx h6.1.2
          have hst := h6.1.1
          refine .of (PE.imp (pe_bm PySem.F.plainAttrs_list PySem.F.slot_list_append PySem.F.type_list_append mt_append io.pe (pa_cons iy.pe pa_nil (star_cons hst)) (okBase_ok h3) ?_ h4 (star_cons hst) rfl) fun σ H Q q => ?_) (fun _ => rfl) (fun _ _ _ z => nomatch z)
          · rw [star_cons hst]; rfl
          · rw [cx.K]
            exact imp_append q
    · cases h
  | .isi a t, s, X, e, cx, h => by
    simp only [chkE] at h
    split at h
    · rename_i x p y z p2 pos
      simp only [Bool.and_eq_true, decide_eq_true_eq] at h
      obtain ⟨⟨⟨⟨⟨⟨h1, h2⟩, h3⟩, h4⟩, h5⟩, h6⟩, h7⟩ := h
      subst h1 h6
      have ia := okE a s X _ cx h4
      refine .of (PE.imp (pe_isi t h5 (cx.gl_ h2) (cx.bl _ (by decide)) (cx.gl_ h7) cx.bl ia.pe h3) fun σ H Q q => ?_) (fun _ => rfl) (fun _ _ _ z => nomatch z)
      rw [cx.K]
      exact imp_isi q
    · cases h
  | .lc elt tg it test ows, s, X, e, cx, h => by
    simp only [chkE] at h
    split at h
    · rename_i elt' tg' it' ifs scope pos
      simp only [Bool.and_eq_true, decide_eq_true_eq] at h
      obtain ⟨⟨⟨⟨⟨⟨h1, h2⟩, h3⟩, h4⟩, h5⟩, h6⟩, h7⟩ := h
      have ok : BlkOk X.N X.env.scope scope (ownOf s.N ows) := by
        rw [cx.N, cx.sc]
        exact blkOk_by h2
      have ii := okI it s X tg' it' cx h5
      refine .of (PE.imp (pe_lc (own := ownOf s.N ows) cx.calm cx.nd ii ok (fun sh H C cl fp => okT (cx.blk sh H scope C cl fp) tg tg' h4) (fun sh H C cl fp => okTests test _ _ ifs (cx.blk sh H scope C cl fp) h6)
        (fun sh H C cl fp => (okE elt _ _ elt' (cx.blk sh H scope C cl fp) h7).pe) (fun x => notSet_folded h1 _ x)) fun σ H Q q => ?_) (fun _ => rfl) (fun _ _ _ z => nomatch z)
      rw [own_snd]
      exact imp_lc h3 q
    · cases h
theorem okO : ∀ (cs : CEs) (s : Sx) (X : Cx) (o : Option Expr), Ctx G P g k s X → chkO g s cs o = true → PO X o (tO G P (callK P k) cs)
  | .nil, s, X, o, cx, h => by
    simp only [chkO] at h
    split at h
    · exact PO.imp po_none fun σ H Q q => imp_part0 q
    · cases h
  | .cons c .nil, s, X, o, cx, h => by
    simp only [chkO] at h
    split at h
    · exact PO.imp (po_some (okE c s X _ cx h).pe) fun σ H Q q => imp_part1 q
    · cases h
  | .cons _ (.cons _ _), s, X, o, cx, h => by simp [chkO] at h
theorem okTests : ∀ (cs : CEs) (s : Sx) (X : Cx) (es : List Expr), Ctx G P g k s X → chkTests g s cs es = true → PTs X es (tTs G P (callK P k) cs)
  | .nil, s, X, o, cx, h => by
    simp only [chkTests] at h
    split at h
    · exact PTs.imp pts_nil fun σ H Q q => imp_tests0 q
    · cases h
  | .cons c .nil, s, X, o, cx, h => by
    simp only [chkTests] at h
    split at h
    · exact PTs.imp (pts_one (okE c s X _ cx h).pt) fun σ H Q q => imp_tests1 q
    · cases h
  | .cons _ (.cons _ _), s, X, o, cx, h => by simp [chkTests] at h
theorem okEs : ∀ (cs : CEs) (s : Sx) (X : Cx) (es : List Expr), Ctx G P g k s X → chkEs g s cs es = true → PA X es (tA G P (callK P k) cs)
  | .nil, s, X, es, cx, h => by
    simp only [chkEs] at h
    split at h
    · exact PA.imp pa_nil fun σ H Q q => imp_nil q
    · cases h
  | .cons c r, s, X, es, cx, h => by
    simp only [chkEs] at h
    split at h
    · simp only [Bool.and_eq_true] at h
      exact PA.imp (pa_cons (okE c s X _ cx h.1.2).pe (okEs r s X _ cx h.2) (star_cons h.1.1)) fun σ H Q q => imp_cons q
    · cases h
theorem okPs : ∀ (cs : CEs) (s : Sx) (X : Cx) (ks : List (Option Expr)) (vs : List Expr), Ctx G P g k s X → chkPs g s cs ks vs = true → ∀ pos, PPs X pos ks vs (tPs G P (callK P k) cs)
  | .nil, s, X, ks, vs, cx, h => by
    simp only [chkPs] at h
    split at h
    · exact fun pos => pps_nil
    · cases h
  | .cons _ .nil, s, X, ks, vs, cx, h => by simp [chkPs] at h
  | .cons c (.cons v r), s, X, ks, vs, cx, h => by
    simp only [chkPs] at h
    split at h
    · simp only [Bool.and_eq_true] at h
      exact fun pos => pps_cons (okE c s X _ cx h.1.1).pe (okE v s X _ cx h.1.2).pe (okPs r s X _ _ cx h.2 pos)
    · cases h
theorem okI : ∀ (it : CI) (s : Sx) (X : Cx) (tg e : Expr), Ctx G P g k s X → chkI g s it tg e = true → PI X tg e (tI G P (callK P k) it)
  | .seq c, s, X, tg, e, cx, h => by
    simp only [chkI] at h
    have ic := okE c s X _ cx h
    have p := PI.or (pi_tup (tg := tg) ic.pe) (pi_list (tg := tg) ic.pe)
    rw [cx.K] at p
    exact PI.imp p fun σ H Q q => imp_iseq q
  | .rng cs, s, X, tg, e, cx, h => by
    simp only [chkI] at h
    split at h
    · rename_i x p ys pos
      simp only [Bool.and_eq_true, Bool.or_eq_true, decide_eq_true_eq] at h
      obtain ⟨⟨⟨h1, h2⟩, h3⟩, h4⟩ := h
      subst h1
      have hc := chkEs_cnt h3
      have ia := okEs cs s X _ cx h3
      have hm : X.mg "range" = none := cx.bl _ (by decide)
      cases ys with
      | nil => rcases h4 with h4 | h4 <;> cases h4
      | cons y ys =>
        have hst : ∃ c r, cs = .cons c r ∧ notStar y = true ∧ chkEs g s r ys = true := by
          cases cs with
          | nil => simp [chkEs] at h3
          | cons c r => simp only [chkEs, Bool.and_eq_true] at h3; exact ⟨c, r, rfl, h3.1.1, h3.2⟩
        obtain ⟨c0, r0, _, hy, hr⟩ := hst
        cases ys with
        | nil => exact PI.imp (pi_range1 (tg := tg) (cx.gl_ h2) hm ia (star_cons hy)) fun σ H Q q => (imp_irng q).1 hc
        | cons z zs =>
          cases zs with
          | cons _ _ => simp at h4
          | nil =>
            have hz : notStar z = true := by
              cases r0 with
              | nil => simp [chkEs] at hr
              | cons c r => simp only [chkEs, Bool.and_eq_true] at hr; exact hr.1.1
            exact PI.imp (pi_range2 (tg := tg) (cx.gl_ h2) hm ia (by rw [star_cons hy, star_cons hz]; rfl) (star_cons hz)) fun σ H Q q => (imp_irng q).2 hc
    · cases h
  | .zip cs, s, X, tg, e, cx, h => by
    simp only [chkI] at h
    split at h
    · rename_i x p y z pos es kk tpos
      simp only [Bool.and_eq_true, decide_eq_true_eq] at h
      obtain ⟨⟨h1, h2⟩, h3⟩ := h
      subst h1
      have ia := okEs cs s X _ cx h3
      have hm : X.mg "zip" = none := cx.bl _ (by decide)
      have hst : notStar y = true ∧ notStar z = true := by
        cases cs with
        | nil => simp [chkEs] at h3
        | cons c r =>
          simp only [chkEs, Bool.and_eq_true] at h3
          cases r with
          | nil => simp [chkEs] at h3
          | cons c' r' => simp only [chkEs, Bool.and_eq_true] at h3; exact ⟨h3.1.1, h3.2.1.1⟩
      refine PI.imp (RZ.pi_zipA (cx.gl_ h2) hm ia (star_cons hst.1) (by rw [star_cons hst.2]; rfl)) fun σ H Q q => ?_
      rw [cx.K]
      exact imp_izip q
    · cases h
end
end
end PC

set_option Elab.async false
set_option linter.all false
set_option maxRecDepth 100000
set_option maxHeartbeats 8000000
/-! Core, part J: statements, and all defs at once. -/
namespace PC
open PySem PySem.Spec PyProof.Rows L2
/-- the names of a written tuple of targets that are plain local ones on its line -/
def swNames (sc : Scope) (ts : List Expr) : List Str := ts.filterMap fun
    | .Name id pos => if sc.names.lookup id == some .local && pos.line == (ts.head?.map (·.pos.line)).getD 0 then some id else none
    | _ => none
def starAny (vs : List Expr) : Bool := vs.any fun | .Starred .. => true | _ => false
/-- a tuple of targets, a tuple of values: stored by the ordinary road -/
def plainPair (sc : Scope) (ts vs : List Expr) : Bool := !(ts.length == 2 || ts.length == 3) || vs.length != ts.length || (!starAny vs && (swNames sc ts).length != ts.length)
/-- .. stored from the right -/
def swapPair (sc : Scope) (ts vs : List Expr) (ns : List Str) : Bool := (ts.length == 2 || ts.length == 3) && vs.length == ts.length && decide (sc.kind = .function) && !starAny vs && decide (swNames sc ts = ns) && (ns.length == ts.length) && (ns.eraseDups.length == ns.length) &&
  !(vs.all (foldedForSure 8)) && !(vs.all (constantsAlone 8))
theorem swapped_eq {sc : Scope} {ts vs : List Expr} {kt k2 : Nat} {pt p2 : Pos} {env : Env} (he : env.scope = sc) : swappedStores [.Tuple ts kt pt] (.Tuple vs k2 p2) env =
    (if (!(ts.length == 2 || ts.length == 3) || vs.length != ts.length || env.blockKind != .function) = true then pure none else
      if starAny vs = true then pure none else
      if ((swNames sc ts).length != ts.length || (swNames sc ts).eraseDups.length != (swNames sc ts).length) = true then pure none else
      if vs.all (foldedForSure 8) = true then pure none else
      if vs.all (constantsAlone 8) = true then (do unsupported "assign.tuple-of-constant-expressions:order-of-the-stores"; pure (some (swNames sc ts))) else pure (some (swNames sc ts))) := by
  subst he
  rfl
theorem plain_eq {sc : Scope} {ts vs : List Expr} {kt k2 : Nat} {pt p2 : Pos} {env : Env} (he : env.scope = sc) (h : plainPair sc ts vs = true) : swappedStores [.Tuple ts kt pt] (.Tuple vs k2 p2) env = pure none := by
  rw [swapped_eq he]
  unfold plainPair at h
  simp only [Bool.or_eq_true, Bool.and_eq_true, Bool.not_eq_true'] at h
  split
  · rfl
  · rename_i h1
    rcases h with h | ⟨h2, h3⟩
    · exact absurd (by simp only [Bool.or_eq_true, Bool.not_eq_true']; exact .inl h) h1
    · rw [if_neg (by rw [h2]; decide), if_pos (by rw [Bool.or_eq_true]; exact .inl h3)]
theorem swap_eq {sc : Scope} {ts vs : List Expr} {ns : List Str} {kt k2 : Nat} {pt p2 : Pos} {env : Env} (he : env.scope = sc) (h : swapPair sc ts vs ns = true) : swappedStores [.Tuple ts kt pt] (.Tuple vs k2 p2) env = pure (some ns) := by
  rw [swapped_eq he]
  unfold swapPair at h
  simp only [Bool.and_eq_true, Bool.not_eq_true', decide_eq_true_eq] at h
  obtain ⟨⟨⟨⟨⟨⟨⟨⟨h1, h2⟩, h3⟩, h4⟩, h5⟩, h6⟩, h7⟩, h8⟩, h9⟩ := h
  subst h5
  have bk : env.blockKind = .function := by unfold Env.blockKind; rw [he, h3]; rfl
  rw [if_neg (by rw [h1, bk]; simp [bne, h2]), if_neg (by rw [h4]; decide), if_neg (by simp [bne, h6, h7]), if_neg (by rw [h8]; decide), if_neg (by rw [h9]; decide)]
mutual
def chkS (g : Nms) (s : Sx) : CS → Stmt → Bool
  | .expr c, st => (match st with
    | .Expr e _ => notComp e && chkE g s c e
    | _ => false)
  | .asg t c, st => (match st with
    | .Assign [tg] e pos => chkT s t tg && chkE g s c e && (match tg, e with
      | .Name x px, .ListComp _ [⟨_, _, _, 0⟩] scope cpos => decide (s.sc.kind = .function) && decide (s.sc.names.lookup x = some .local) && (px.line == cpos.line) && !(scope.names.any fun (n, k) => n == x && (k == .local || k == .cell))
      | .Name _ _, e => notComp e
      | .Tuple ts _ _, .Tuple vs _ _ => plainPair s.sc ts vs
      | .Tuple _ _ _, _ => true
      | _, _ => false)
    | _ => false)
  | .par is cs, st => (match st with
    | .Assign [.Tuple ts _ _] (.Tuple vs _ _) _ => (match is, ts, vs with
      | [i, j], [.Name x _, .Name y _], [_, _] => decide (s.N[i]? = some x) && decide (s.N[j]? = some y) && decide (i ≠ j) && decide (s.sc.names.lookup x = some .local) && decide (s.sc.names.lookup y = some .local) && swapPair s.sc ts vs [x, y]
      | [i, j, l], [.Name x _, .Name y _, .Name z _], [_, _, _] => decide (s.N[i]? = some x) && decide (s.N[j]? = some y) && decide (s.N[l]? = some z) && decide (i ≠ j) && decide (i ≠ l) && decide (j ≠ l) && decide (s.sc.names.lookup x = some .local) && decide (s.sc.names.lookup y = some .local) && decide (s.sc.names.lookup z = some .local) && swapPair s.sc ts vs [x, y, z]
      | _, _, _ => false) && chkEs g s cs vs
    | _ => false)
  | .setix o i c, st => (match st with
    | .Assign [.Subscript o' i' _] e _ => notSlice i' && chkE g s o o' && chkE g s i i' && chkE g s c e
    | _ => false)
  | .ret c, st => (match st with
    | .Return (some e) _ => chkE g s c e
    | .Return none _ => (match c with
      | .con .non => true
      | _ => false)
    | _ => false)
  | .if_ t a b, st => (match st with
    | .If t' a' b' _ => chkE g s t t' && chkSs g s a a' && chkSs g s b b'
    | _ => false)
  | .for_ t it b, st => (match st with
    | .For tg iter body [] _ => notSet iter && chkT s t tg && chkI g s it tg iter && chkSs g s b body
    | _ => false)
  | .pass, st => (match st with
    | .Pass _ => true
    | _ => false)
def chkSs (g : Nms) (s : Sx) : CSs → List Stmt → Bool
  | .nil, ss => (match ss with
    | [] => true
    | _ => false)
  | .cons c r, ss => (match ss with
    | st :: ss => chkS g s c st && chkSs g s r ss
    | _ => false)
end
section
variable {G : GI} {P : Prog} {g : Nms} {k : Nat}
theorem own_any {scope : Scope} {x : Str} (h : (!(scope.names.any fun (n, k) => n == x && (k == .local || k == .cell))) = true) : (scope.names.any fun (n, k) => n == x && (k == .local || k == .cell)) = false := by simpa using h
mutual
theorem okS : ∀ (c : CS) (s : Sx) (X : Cx) (st : Stmt), Ctx G P g k s X → chkS g s c st = true → PS X st (tS G P (callK P k) c)
  | .expr c, s, X, st, cx, h => by
    simp only [chkS] at h
    split at h
    · rename_i e pos
      simp only [Bool.and_eq_true] at h
      refine PS.imp (ps_expr (okE c s X e cx h.2).pe ?_) fun D σ H q => imp_expr q
      have := h.1
      cases e <;> first | rfl | cases this
    · cases h
  | .asg t c, s, X, st, cx, h => by
    simp only [chkS] at h
    split at h
    · rename_i tg e pos
      simp only [Bool.and_eq_true] at h
      obtain ⟨⟨ht, he⟩, hm⟩ := h
      have it := okT cx t tg ht
      have ie := (okE c s X e cx he).pe
      split at hm
      · rename_i x px elt' tg' it' ifs scope cpos
        simp only [Bool.and_eq_true, decide_eq_true_eq] at hm
        obtain ⟨⟨⟨m1, m2⟩, m3⟩, m4⟩ := hm
        cases t with
        | tup _ => simp [chkT] at ht
        | name i =>
          simp only [chkT, Bool.and_eq_true, decide_eq_true_eq] at ht
          have hi : X.N[i]? = some x := by rw [cx.N]; exact ht.1.1
          have hk : X.env.scope.kind = .function := by rw [cx.sc]; exact m1
          have hy : X.env.scope.names.lookup x = some .local := by rw [cx.sc]; exact m2
          cases c with
          | lc elt tg it test ows =>
            simp only [chkE, Bool.and_eq_true, decide_eq_true_eq] at he
            obtain ⟨⟨⟨⟨⟨⟨h1, h2⟩, h3⟩, h4⟩, h5⟩, h6⟩, h7⟩ := he
            have ok : BlkOk X.N X.env.scope scope (ownOf s.N ows) := by
              rw [cx.N, cx.sc]
              exact blkOk_by h2
            refine PS.imp (ps_setLc (own := ownOf s.N ows) cx.calm cx.nd hi hy (sw_true hk hy m3 (own_any m4)) (okI it s X tg' it' cx h5) ok (fun sh H C cl fp => okT (cx.blk sh H scope C cl fp) tg tg' h4) (fun sh H C cl fp => okTests test _ _ ifs (cx.blk sh H scope C cl fp) h6)
              (fun sh H C cl fp => (okE elt _ _ elt' (cx.blk sh H scope C cl fp) h7).pe) (fun x => notSet_folded h1 _ x)) fun D σ H q => ?_
            have q1 := imp_asg q
            rw [own_snd]
            refine imp_lc h3 ?_
            obtain ⟨As, F, env, S, d, S', st, en, ev, q⟩ := q1
            exact ⟨As, F, env, S, d, S', st, en, ev, fun As' F' H' v x st' r => imp_gname (q As' F' H' v x st' r)⟩
          | _ => simp [chkE] at he
      · rename_i x px hne hne2
        refine PS.imp (ps_asg ie it ?_ ?_ rfl) fun D σ H q => imp_asg q
        · cases e <;> first | rfl | cases hm
        · cases e <;> rfl
      · rename_i ts kt pt vs k2 p2
        refine PS.imp (ps_asg ie it ?_ ?_ rfl) fun D σ H q => imp_asg q
        · rfl
        · exact plain_eq cx.sc hm
      · rename_i ts kt pt e' hne
        refine PS.imp (ps_asg ie it ?_ ?_ rfl) fun D σ H q => imp_asg q
        · cases e <;> rfl
        · cases e <;> first | rfl | (exact absurd rfl (hne _ _ _))
      · cases hm
    · cases h
  | .par is cs, s, X, st, cx, h => by
    simp only [chkS] at h
    split at h
    · rename_i ts kt pt vs k2 p2 pos
      simp only [Bool.and_eq_true] at h
      obtain ⟨hm, he⟩ := h
      have ia := okEs cs s X vs cx he
      split at hm
      · rename_i i j x px y py a b
        simp only [Bool.and_eq_true, decide_eq_true_eq] at hm
        obtain ⟨⟨⟨⟨⟨h1, h2⟩, h3⟩, h4⟩, h5⟩, h6⟩ := hm
        exact PS.imp (ps_par cx.calm cx.nd (by rw [cx.N]; exact h1) (by rw [cx.N]; exact h2) h3 (by rw [cx.sc]; exact h4) (by rw [cx.sc]; exact h5) ia (swap_eq cx.sc h6) rfl) fun D σ H q => imp_par2 q
      · rename_i i j l x px y py z pz a b c
        simp only [Bool.and_eq_true, decide_eq_true_eq] at hm
        obtain ⟨⟨⟨⟨⟨⟨⟨⟨⟨h1, h2⟩, h3⟩, h4⟩, h5⟩, h6⟩, h7⟩, h8⟩, h9⟩, h10⟩ := hm
        exact PS.imp (ps_par3 cx.calm cx.nd (by rw [cx.N]; exact h1) (by rw [cx.N]; exact h2) (by rw [cx.N]; exact h3) h4 h5 h6 (by rw [cx.sc]; exact h7) (by rw [cx.sc]; exact h8) (by rw [cx.sc]; exact h9) ia (swap_eq cx.sc h10) rfl) fun D σ H q => imp_par3 q
      · cases hm
    · cases h
  | .setix o i c, s, X, st, cx, h => by
    simp only [chkS] at h
    split at h
    · rename_i o' i' p1 e pos
      simp only [Bool.and_eq_true] at h
      obtain ⟨⟨⟨h1, h2⟩, h3⟩, h4⟩ := h
      refine PS.imp (ps_asg (okE c s X e cx h4).pe (pg_sub (okE o s X _ cx h2).pe (okE i s X _ cx h3).pe (set_P (by have := units64 cx.room; omega)) ?_) ?_ ?_ rfl) fun D σ H q => imp_setix q
      · intro v
        cases i' <;> first | rfl | cases h1
      · cases e <;> rfl
      · cases e <;> rfl
    · cases h
  | .ret c, s, X, st, cx, h => by
    simp only [chkS] at h
    split at h
    · exact PS.imp (ps_ret (okE c s X _ cx h).pe) fun D σ H q => imp_ret q
    · split at h
      · refine PS.imp ps_retN fun D σ H q => ?_
        exact imp_con (v := .non) (imp_ret q) fun F => .non
      · cases h
    · cases h
  | .if_ t a b, s, X, st, cx, h => by
    simp only [chkS] at h
    split at h
    · simp only [Bool.and_eq_true] at h
      exact PS.imp (ps_if (okE t s X _ cx h.1.1).pt (okSs a s X _ cx h.1.2) (okSs b s X _ cx h.2)) fun D σ H q => imp_if q
    · cases h
  | .for_ t it b, s, X, st, cx, h => by
    simp only [chkS] at h
    split at h
    · simp only [Bool.and_eq_true] at h
      obtain ⟨⟨⟨h1, h2⟩, h3⟩, h4⟩ := h
      exact PS.imp (ps_for (by rw [cx.xe]; exact PassesOwn.never) cx.calm (okI it s X _ _ cx h3) (okT cx t _ h2) (okSs b s X _ cx h4) (fun x => notSet_folded h1 _ x)) fun D σ H q => imp_for q
    · cases h
  | .pass, s, X, st, cx, h => by
    simp only [chkS] at h
    split at h
    · exact PS.imp ps_pass fun D σ H q => imp_pass q
    · cases h
theorem okSs : ∀ (c : CSs) (s : Sx) (X : Cx) (ss : List Stmt), Ctx G P g k s X → chkSs g s c ss = true → PSs X ss (tSs G P (callK P k) c)
  | .nil, s, X, ss, cx, h => by
    simp only [chkSs] at h
    split at h
    · exact PSs.imp pss_nil fun D σ H q => imp_nil_s q
    · cases h
  | .cons c r, s, X, ss, cx, h => by
    simp only [chkSs] at h
    split at h
    · simp only [Bool.and_eq_true] at h
      exact PSs.imp (pss_cons (okS c s X _ cx h.1) (okSs r s X _ cx h.2)) fun D σ H q => imp_cons_s q
    · cases h
end
end

/-! ### the defs -/
/-- a def of the text: its name, its names (parameters first), how many parameters -/
structure DI where
  x : Str
  N : List Str
  np : Nat
  params : Arguments
  body : List Stmt
  scope : Scope
def DI.ps (d : DI) : List Str := d.N.take d.np
def scB (N ps : List Str) (sc : Scope) : Bool := decide (sc.kind = .function) && !sc.isCoroutine && !sc.isGenerator && decide N.Nodup && decide (N.take ps.length = ps) && (ps.all fun x => locB sc x) && sc.names.all fun y => decide (y.2 ≠ .free)
theorem scB_ok {N ps : List Str} {sc : Scope} (h : scB N ps sc = true) : FnScope N ps sc := by
  unfold scB at h
  simp only [Bool.and_eq_true, decide_eq_true_eq, Bool.not_eq_true', List.all_eq_true] at h
  obtain ⟨⟨⟨⟨⟨⟨h1, h2⟩, h3⟩, h4⟩, h5⟩, h6⟩, h7⟩ := h
  exact ⟨h1, h2, h3, h4, h5, fun x hx => locB_ok (h6 x hx), fun y hy => h7 y hy⟩
/-- the f-th def of the small program against the text -/
def chkD (g : Nms) (d : DI) (fd : Fd) : Bool := scB d.N d.ps d.scope && decide (d.N.length = fd.n) && decide (d.ps.length = fd.ps) && chkSs g ⟨d.N, d.scope, fun _ => true⟩ fd.body d.body
/-- what stands behind the top -/
structure Top (G : GI) (P : Prog) (g : Nms) (ds : List DI) (w : World) (mg : Str → Option Value) : Prop where
  w : w = G.w
  gl : ∀ (j : Nat) (x : Str), g.gl[j]? = some x → ∃ d u v, P.gl[j]? = some d ∧ mg x = some u ∧ RelV v u ∧ ∀ As F, RpT G As F v d
  bl : ∀ x ∈ bnames, mg x = none
  fs : ∀ (f : Nat) (x : Str), g.fs[f]? = some x → ∃ d fd a fdat, ds[f]? = some d ∧ P.fs[f]? = some fd ∧ chkD g d fd = true ∧ mg x = some (.ref a) ∧ Binds G.K fdat d.ps [] ∧ FunD G.K d.x d.x d.params d.body d.scope [] [] a fdat
theorem one_ok {G : GI} {P : Prog} {g : Nms} {ds : List DI} {prog : Program} {w : World} {mg : Str → Option Value} {base : Heap} (T : Top G P g ds w mg) :
    ∀ (k : Nat) (f : Nat) (d : DI) (fd : Fd) (a : Addr) (fdat : FuncData), P.fs[f]? = some fd → chkD g d fd = true → FunD G.K d.x d.x d.params d.body d.scope [] [] a fdat → FnOk prog w G.K mg base CX0 k a fdat d.ps (spF G P k f)
  | 0, f, d, fd, a, fdat, h2, h3, h6 => by
    have no : ∀ vs H Q E, ¬ spF G P 0 f vs H Q E := fun vs H Q E ⟨_, _, _, _, _, _, _, _, z, _⟩ => by simp [callK] at z
    exact ⟨fun vs H Q E z => absurd z (no vs H Q E), fun A outer s H args us vs Q E _ _ _ _ z => absurd z (no vs H Q E)⟩
  | k + 1, f, d, fd, a, fdat, h2, h3, h6 => by
    unfold chkD at h3
    simp only [Bool.and_eq_true, decide_eq_true_eq] at h3
    obtain ⟨⟨⟨c1, c2⟩, c3⟩, c4⟩ := h3
    refine h6.ok (scB_ok c1) (fun vs H Q E z => by rw [spF_len h2 z, c3]) fun cdv A outer s H vs Q E hr hsp => ?_
    refine ⟨tSs G P (callK P k) fd.body, PSs.nox (okSs fd.body ⟨d.N, d.scope, fun _ => true⟩ _ d.body ?_ c4), body_ok h2 c2 hsp⟩
    refine ⟨rfl, rfl, (scB_ok c1).nd, rfl, rfl, rfl, rfl, hr, T.w, T.gl, T.bl, fun f' x' h' => ?_⟩
    obtain ⟨d', fd', a', fdat', g1, g2, g3, g4, g5, g6⟩ := T.fs f' x' h'
    exact ⟨a', fdat', d'.ps, g4, g6.kp, g5, one_ok T k f' d' fd' a' fdat' g2 g3 g6⟩
end PC

set_option Elab.async false
set_option linter.all false
set_option maxRecDepth 100000
set_option maxHeartbeats 8000000
/-! Core, part K: what stands behind the top, read off it; a law's end. -/
namespace PC
open PySem PySem.Spec PyProof.Rows L2
/-! ### constants of the top -/
mutual
def rdV (K : PySem.W.Frag) : Value → D → Bool
  | u, .non => (match u with
    | .none => true
    | _ => false)
  | u, .bl b => (match u with
    | .bool c => b == c
    | _ => false)
  | u, .int i => (match u with
    | .int j _ => decide (i = j)
    | _ => false)
  | u, .str x => (match u with
    | .str y _ => decide (x = y) && PyData.strOk x
    | _ => false)
  | u, .tup ds => (match u with
    | .ref a => (match K.lookup a with
      | some ⟨.type c, _, .seq its _, _⟩ => decide (c = "tuple") && decide (its.size ≤ sizeLine) && rdVs K its.toList ds
      | _ => false)
    | _ => false)
  | _, .lst _ => false
  | _, .ptr _ => false
  | _, .dct _ => false
  | _, .tab _ => false
def rdVs (K : PySem.W.Frag) : List Value → List D → Bool
  | us, [] => (match us with
    | [] => true
    | _ => false)
  | us, d :: ds => (match us with
    | u :: us => rdV K u d && rdVs K us ds
    | _ => false)
end
mutual
theorem rdV_ok {K : PySem.W.Frag} {w : World} : ∀ (d : D) (u : Value), rdV K u d = true → ∃ v, RelV v u ∧ ∀ F, Rp ⟨K, w⟩ F v d
  | .non, u, h => by
    simp only [rdV] at h
    split at h
    · exact ⟨.non, rfl, fun _ => .non⟩
    · cases h
  | .bl b, u, h => by
    simp only [rdV] at h
    split at h
    · have e := eq_of_beq h
      subst e
      exact ⟨.bl _, rfl, fun _ => .bl _⟩
    · cases h
  | .int i, u, h => by
    simp only [rdV] at h
    split at h
    · have e := of_decide_eq_true h
      subst e
      exact ⟨.int _, ⟨_, rfl⟩, fun _ => .int _⟩
    · cases h
  | .str x, u, h => by
    simp only [rdV] at h
    split at h
    · rw [Bool.and_eq_true] at h
      have e := of_decide_eq_true h.1
      subst e
      exact ⟨.str _, ⟨_, rfl⟩, fun _ => .str _ h.2⟩
    · cases h
  | .tup ds, u, h => by
    simp only [rdV] at h
    split at h
    · rename_i a
      split at h
      · rename_i c dd its n sl e
        simp only [Bool.and_eq_true, decide_eq_true_eq] at h
        obtain ⟨vs, r, t⟩ := rdVs_ok ds _ h.2
        refine ⟨.ref a, rfl, fun F => .tup (.inr ⟨_, its, n, e, by rw [h.1.1], rfl, h.1.2, r⟩) (t F)⟩
      · cases h
    · cases h
  | .lst _, u, h => by simp [rdV] at h
  | .ptr _, u, h => by simp [rdV] at h
  | .dct _, u, h => by simp [rdV] at h
  | .tab _, u, h => by simp [rdV] at h
theorem rdVs_ok {K : PySem.W.Frag} {w : World} : ∀ (ds : List D) (us : List Value), rdVs K us ds = true → ∃ vs, Vals vs us ∧ ∀ F, RpAll ⟨K, w⟩ F vs ds
  | [], us, h => by
    simp only [rdVs] at h
    split at h
    · exact ⟨[], .nil, fun _ => .nil⟩
    · cases h
  | d :: ds, us, h => by
    simp only [rdVs] at h
    split at h
    · rw [Bool.and_eq_true] at h
      obtain ⟨v, r, t⟩ := rdV_ok d _ h.1
      obtain ⟨vs, rs, ts⟩ := rdVs_ok ds _ h.2
      exact ⟨v :: vs, .cons r rs, fun F => .cons (t F) (ts F)⟩
    · cases h
end
/-- a constant of the top -/
def rdO (K : PySem.W.Frag) (o : Option (Option Value)) (d : D) : Bool := match o with
  | some (some u) => rdV K u d
  | _ => false
theorem rdO_ok {K : PySem.W.Frag} {w : World} {o : Option (Option Value)} {d : D} (h : rdO K o d = true) : ∃ u v, o = some (some u) ∧ RelV v u ∧ ∀ F, Rp ⟨K, w⟩ F v d := by
  unfold rdO at h
  split at h
  · obtain ⟨v, r, t⟩ := rdV_ok (w := w) _ _ h
    exact ⟨_, v, rfl, r, t⟩
  · cases h
def rdG (K : PySem.W.Frag) (x : Str) : D → Bool
  | .tab kvs => He.eqO (PySem.W.nsIn K mainGlobals x) (some (some (.ref (He.ga K x)))) && kvs.all fun q => rdO K (PySem.W.nsIn K (He.ga K x) q.1) q.2
  | d => rdO K (PySem.W.nsIn K mainGlobals x) d
/-- the tables of the top -/
def tabOf (q : Str × D) : Option (Str × List Str) := match q.2 with
  | .tab kvs => some (q.1, kvs.map (·.1))
  | _ => none
def tabsOf (gl : List (Str × D)) : List (Str × List Str) := gl.filterMap tabOf
theorem tabD_mem {kvs : List (Str × D)} {x : Str} {d : D} (h : tabD kvs x = some d) : (x, d) ∈ kvs := by
  unfold tabD at h
  obtain ⟨p, h1, h2⟩ := Option.map_eq_some_iff.mp h
  have e := List.find?_some h1
  have m := List.mem_of_find?_eq_some h1
  have e1 : p.1 = x := by simpa using e
  rw [← e1, ← h2]; exact m
def DI.def_ (d : DI) : He.DefD := ⟨(d.x, none), d.x, d.x, d.params, d.body, d.scope, [], []⟩
/-- what is looked at behind the top -/
structure Look where
  P : Prog
  g : Nms
  ds : List DI
def Look.facts (L : Look) (K : PySem.W.Frag) : Bool :=
  (decide (L.g.gl.length = L.P.gl.length) && (L.g.gl.zip L.P.gl).all fun q => rdG K q.1 q.2) && (bnames.all fun x => He.eqO (PySem.W.nsIn K mainGlobals x) (some none)) &&
    L.ds.all fun d => He.eqO (PySem.W.nsIn K mainGlobals d.x) (some (some (.ref (He.ga K d.x)))) && d.def_.ok K
def Look.tabs (L : Look) : List (Str × List Str) := tabsOf (L.g.gl.zip L.P.gl)
def Look.obs (L : Look) (K : PySem.W.Frag) : He.AlT := ((L.facts K, L.ds.map fun d => He.fnW K d.def_.at_), L.tabs.map fun t => He.dicW K (He.ga K t.1))
def Look.val (L : Look) (w : World) : He.AlT := ((true, L.ds.map fun d => d.def_.val), L.tabs.map fun t => some (He.keysIn w.params t.2))
def Look.says (L : Look) (w : World) (K : PySem.W.Frag) : Prop := L.obs K = L.val w
def Look.obsG (L : Look) (n : Nat) (g : Addr → Option Obj) : He.AlT := L.obs (He.frG g (He.asD g n))
def Look.hook (L : Look) (n : Nat) : PySem.W.Hook where
  α := He.AlT
  obs := fun s => L.obsG n s.heap.get?
  val := fun w => L.val w
  says := fun w h => ∃ K : PySem.W.Frag, K.In h ∧ L.says w K
  of := fun _ _ e => ⟨_, He.frG_in, e⟩
  keeps := fun _ _ _ ⟨K, hK, c⟩ k => ⟨K, PySem.W.Frag.In.keeps hK k, c⟩
theorem Look.obsG_eq {L : Look} {n : Nat} {g : Addr → Option Obj} {s : Shared} (h : ∀ a, g a = s.heap.get? a) : L.obsG n g = (L.hook n).obs s := by
  have e : g = s.heap.get? := funext h
  rw [e] <;> rfl
/-- what the text itself must show: the small program is the text's, and how parameters are bound -/
structure Look.Ok (L : Look) : Prop where
  len : L.g.fs.length = L.ds.length ∧ L.ds.length = L.P.fs.length
  nm : L.g.fs = L.ds.map (·.x)
  chk : (L.ds.zip L.P.fs).all (fun q => chkD L.g q.1 q.2) = true
  bnd : ∀ d ∈ L.ds, ∀ (kV doc pm : Value) (an : Option Addr) (cdv ct : Value) (us : List Value), us.length = d.ps.length → bindArgs (PySem.W.fnOf d.x d.x d.params d.body d.scope .none kV doc pm an cdv ct) ⟨us, []⟩ = pure (d.ps.zip us)
theorem Look.top {L : Look} (ok : L.Ok) {K : PySem.W.Frag} {w : World} {h : Heap} {mg : Str → Option Value} (X : K.In h) (N : h.Ns mainGlobals mg) (c : L.says w K) : Top ⟨K, w⟩ L.P L.g L.ds w mg := by
  have f1 : L.facts K = true := congrArg (fun z : He.AlT => z.1.1) c
  have f2 : (L.ds.map fun d => He.fnW K d.def_.at_) = L.ds.map fun d => d.def_.val := congrArg (fun z : He.AlT => z.1.2) c
  have f3 : (L.tabs.map fun t => He.dicW K (He.ga K t.1)) = L.tabs.map fun t => some (He.keysIn w.params t.2) := congrArg (fun z : He.AlT => z.2) c
  have tb : ∀ t ∈ L.tabs, ∃ es n, KDict K w (He.ga K t.1) es n := fun t ht => by
    obtain ⟨i, hi⟩ := List.getElem?_of_mem ht
    have e2 : (L.tabs.map fun t => He.dicW K (He.ga K t.1))[i]? = (L.tabs.map fun t => some (He.keysIn w.params t.2))[i]? := by rw [f3]
    rw [List.getElem?_map, List.getElem?_map, hi] at e2
    exact He.dicW_ok (Option.some.inj e2)
  unfold Look.facts at f1
  simp only [Bool.and_eq_true, decide_eq_true_eq] at f1
  obtain ⟨⟨⟨g1, g2⟩, g3⟩, g4⟩ := f1
  refine ⟨rfl, fun j x hj => ?_, fun x hx => ?_, fun f x hf => ?_⟩
  · obtain ⟨hl, _⟩ := List.getElem?_eq_some_iff.mp hj
    have hd : L.P.gl[j]? = some (L.P.gl[j]'(by omega)) := by simp [show j < L.P.gl.length by omega]
    have hm : (x, L.P.gl[j]'(by omega)) ∈ L.g.gl.zip L.P.gl := by
      refine List.mem_of_getElem? (i := j) ?_
      rw [List.getElem?_zip_eq_some]
      exact ⟨hj, hd⟩
    have q := List.all_eq_true.mp g2 _ hm
    refine (?_ : ∃ d u v, L.P.gl[j]? = some d ∧ _)
    generalize hD : L.P.gl[j]'(by omega) = d at hd hm q
    unfold rdG at q
    split at q
    · rename_i kvs ed
      have ed : d = .tab kvs := ed
      subst ed
      rw [Bool.and_eq_true] at q
      refine ⟨_, .ref (He.ga K x), .ref (He.ga K x), hd, PySem.W.mg_of X N (He.eqO_ok q.1), rfl, fun As F => .inr (.inr (.inr ⟨_, kvs, rfl, rfl, tb (x, kvs.map (·.1)) ?_, fun z d hz => ?_⟩))⟩
      · exact List.mem_filterMap.mpr ⟨_, hm, rfl⟩
      · exact rdO_ok (List.all_eq_true.mp q.2 (z, d) (tabD_mem hz))
    · obtain ⟨u, v, e, r, t⟩ := rdO_ok (w := w) q
      exact ⟨_, u, v, hd, PySem.W.mg_of X N e, r, fun As F => .of (t F)⟩
  · exact PySem.W.mg_none_of X N (He.eqO_ok (List.all_eq_true.mp g3 x hx))
  · rw [ok.nm, List.getElem?_map] at hf
    cases hd : L.ds[f]? with
    | none => rw [hd] at hf; cases hf
    | some d =>
      rw [hd] at hf
      have e : d.x = x := Option.some.inj hf
      obtain ⟨hl, _⟩ := List.getElem?_eq_some_iff.mp hd
      have l2 := ok.len.2
      have hfd : L.P.fs[f]? = some (L.P.fs[f]'(by omega)) := by simp [show f < L.P.fs.length by omega]
      have md := List.mem_of_getElem? hd
      have q4 := List.all_eq_true.mp g4 d md
      rw [Bool.and_eq_true] at q4
      have ch : chkD L.g d (L.P.fs[f]'(by omega)) = true := by
        refine List.all_eq_true.mp ok.chk (d, _) (List.mem_of_getElem? (i := f) ?_)
        rw [List.getElem?_zip_eq_some]
        exact ⟨hd, hfd⟩
      have e2 : (L.ds.map fun d => He.fnW K d.def_.at_)[f]? = (L.ds.map fun d => d.def_.val)[f]? := by rw [f2]
      rw [List.getElem?_map, List.getElem?_map, hd] at e2
      obtain ⟨fdat, F⟩ := He.DefD.funD (K := K) (d := d.def_) (Option.some.inj e2) q4.2
      refine ⟨d, _, He.ga K d.x, fdat, rfl, hfd, ch, ?_, ?_, F⟩
      · rw [← e]
        exact PySem.W.mg_of X N (He.eqO_ok q4.1)
      · exact FunD.bindsN F fun kV doc pm an cdv ct us hl => ok.bnd d md kV doc pm an cdv ct us hl
/-- the law's promise at its call -/
theorem law_sp {K : PySem.W.Frag} {w : World} {P : Prog} {k f : Nat} (h : ∀ ns : List Int, ns.length ≤ 63 → callK P k f [.lst (ns.map D.int)] [] = some (.bl true, [])) {H : Hp} {a : Addr} {ns : List Int} (hl : ns.length ≤ 63) (hS : SqL K H a (ns.map V.int)) :
    spF ⟨K, w⟩ P k f [.ref a] H (fun v _ => v = .bl true) (fun _ _ _ => False) :=
  ⟨[], H, [], _, _, _, ⟨.refl _, rfl, .nil, (fun a m => nomatch m), fun n c a e => nomatch e⟩, .cons (.of (.lst hS (RpAll.ints ns))) .nil, h ns hl, fun _ _ _ v _ _ r => r.bl_inv⟩
/-- a law, from the head's facts -/
theorem law_end {l : PySem.W.OpenLaw} {L : Look} {n k f : Nat} {x : Str} {q : Program} {loose : List Str} {XP : (Str → Option Value) → Heap → Prop} {d : DefRec} {di : DI} (ok : L.Ok)
    (hn : l.most = some 63) (hdf : d.params.defaults = []) (hr : Room k callerA) (hf : L.ds[f]? = some di) (hx : di.ps = [x]) (hdn : d.name = di.x)
    (law : ∀ ns : List Int, ns.length ≤ 63 → callK L.P k f [.lst (ns.map D.int)] [] = some (.bl true, [])) :
    PySem.W.WalkO q loose XP (L.hook n).says l.row.toRowW d [] (fun f vs => PySem.call f vs) := by
  refine L2.walk_ofE (l := l) (n := 63) (k := k) (x := x) (CX := L2.CX0) hn (by decide) hdf hr ?_ (fun _ _ _ _ z => z)
  intro w mg fa h Y N hmg
  obtain ⟨K, KX, c⟩ := Y
  have T := L.top (w := w) ok KX N c
  have hfs : L.g.fs[f]? = some di.x := by rw [ok.nm, List.getElem?_map, hf]; rfl
  obtain ⟨d', fd, a, fdat, h1, h2, h3, h4, h5, h6⟩ := T.fs f _ hfs
  rw [hf] at h1; cases h1
  rw [hdn] at hmg
  rw [h4] at hmg; cases hmg
  refine ⟨K, fdat, spF ⟨K, w⟩ L.P k f, KX, fun s u => ?_, fun H a ns hl _ hS => law_sp law hl hS, fun base _ _ => ?_⟩
  · have b := FunD.bindsA h6 (ps := di.ps) (fun kV doc pm an cdv ct us hl => ok.bnd di (List.mem_of_getElem? hf) kV doc pm an cdv ct us hl) s [u] (by rw [hx]; rfl)
    rw [hx] at b
    exact b
  · rw [← hx]
    exact one_ok (prog := l.prog) (w := w) (base := base) T k f di _ _ fdat h2 h3 h6
end PC

set_option Elab.async false
set_option linter.all false
set_option maxRecDepth 100000
set_option maxHeartbeats 4000000
/-! rules that walk the small program -/
namespace PC
open PySem PyProof.Rows L2
inductive All2 {α β : Type} (R : α → β → Prop) : List α → List β → Prop
  | nil : All2 R [] []
  | cons {a : α} {b : β} {as : List α} {bs : List β} : R a b → All2 R as bs → All2 R (a :: as) (b :: bs)
structure W {α : Type} (x : R α) (Q : α → Store → Prop) : Prop where
  out : ∃ a S, x = some (a, S) ∧ Q a S
/-- an operation's answer -/
structure OQ {α : Type} (r : Option α) (Q : α → Prop) : Prop where
  out : ∃ d, r = some d ∧ Q d
structure IfB (d : D) (A B : Prop) : Prop where
  out : ∃ b, d = .bl b ∧ (b = true → A) ∧ (b = false → B)
def Then (fl : Fl) (S : Store) (A : Slots → Prop) (Q : Fl → Store → Prop) : Prop := match fl with
  | .nx e => A e
  | fl => Q fl S
section
variable {α β : Type}
theorem W.mono {x : R α} {Q Q' : α → Store → Prop} (h : W x Q') (i : ∀ a S, Q' a S → Q a S) : W x Q := by
  obtain ⟨a, S, e, q⟩ := h
  exact ⟨a, S, e, i a S q⟩
theorem W.eq {x : R α} {a : α} {S : Store} {Q : α → Store → Prop} (h : x = some (a, S)) (q : Q a S) : W x Q := ⟨a, S, h, q⟩
theorem W.ret {a : α} {S : Store} {Q : α → Store → Prop} (q : Q a S) : W (some (a, S)) Q := ⟨a, S, rfl, q⟩
theorem W.bd {x : R α} {f : α → Store → R β} {Q : β → Store → Prop} (h : W x fun a S => W (f a S) Q) : W (Bd x f) Q := by
  obtain ⟨a, S, e, b, S', e', q⟩ := h
  exact ⟨b, S', by rw [e]; exact e', q⟩
theorem W.map {o : Option α} {S : Store} {Q : α → Store → Prop} (h : OQ o fun d => Q d S) : W (o.map fun d => (d, S)) Q := by
  obtain ⟨d, rfl, q⟩ := h
  exact ⟨d, S, rfl, q⟩
theorem OQ.is {a : α} {Q : α → Prop} (q : Q a) : OQ (some a) Q := ⟨a, rfl, q⟩
theorem OQ.eq {a : α} {x : Option α} {Q : α → Prop} (h : x = some a) (q : Q a) : OQ x Q := ⟨a, h, q⟩
theorem IfB.t {A B : Prop} (h : A) : IfB (.bl true) A B := ⟨true, rfl, fun _ => h, fun z => nomatch z⟩
theorem IfB.f {A B : Prop} (h : B) : IfB (.bl false) A B := ⟨false, rfl, (fun z => nomatch z), fun _ => h⟩
theorem IfB.i {A B : Prop} {b : Bool} (h : b = true → A) (h' : b = false → B) : IfB (.bl b) A B := ⟨b, rfl, h, h'⟩
theorem Then.nx {e : Slots} {S : Store} {A : Slots → Prop} {Q : Fl → Store → Prop} (h : A e) : Then (.nx e) S A Q := h
theorem Then.ret {d : D} {S : Store} {A : Slots → Prop} {Q : Fl → Store → Prop} (h : Q (.ret d) S) : Then (.ret d) S A Q := h
end
section
variable {P : Prog} {cl : Cl} {env : Slots} {S : Store} {Q : D → Store → Prop}
theorem W.var {i : Nat} {d : D} (h : env[i]? = some (some d)) (q : Q d S) : W (evE P cl (.var i) env S) Q := ⟨d, S, by simp only [evE, h], q⟩
theorem W.con {d : D} (q : Q d S) : W (evE P cl (.con d) env S) Q := ⟨d, S, rfl, q⟩
theorem W.glob {j : Nat} {d : D} (h : P.gl[j]? = some d) (q : Q d S) : W (evE P cl (.glob j) env S) Q := ⟨d, S, by simp only [evE, h], q⟩
theorem W.tup {es : CEs} (h : W (evEs P cl es env S) fun ds S1 => noPtr ds = true ∧ Q (.tup ds) S1) : W (evE P cl (.tup es) env S) Q := by
  obtain ⟨ds, S1, e, n, q⟩ := h
  exact ⟨_, _, by simp only [evE, e, Bd_some, n, if_true], q⟩
theorem W.lstF {es : CEs} (h : W (evEs P cl es env S) fun ds S1 => noPtr ds = true ∧ Q (.lst ds) S1) : W (evE P cl (.lst false es) env S) Q := by
  obtain ⟨ds, S1, e, n, q⟩ := h
  exact ⟨_, _, by simp only [evE, e, Bd_some, n, if_true, Bool.false_eq_true, if_false], q⟩
theorem W.lstT {es : CEs} (h : W (evEs P cl es env S) fun ds S1 => noPtr ds = true ∧ Q (.ptr S1.length) (S1 ++ [.lst ds])) : W (evE P cl (.lst true es) env S) Q := by
  obtain ⟨ds, S1, e, n, q⟩ := h
  exact ⟨_, _, by simp only [evE, e, Bd_some, n, if_true], q⟩
theorem W.ifx {t a b : CE} (h : W (evE P cl t env S) fun d S1 => IfB d (W (evE P cl a env S1) Q) (W (evE P cl b env S1) Q)) : W (evE P cl (.ifx t a b) env S) Q := by
  obtain ⟨d, S1, e, b, rfl, h1, h2⟩ := h
  cases b with
  | true => obtain ⟨d, S2, e2, q⟩ := h1 rfl; exact ⟨d, S2, by simp only [evE, e, Bd_some, D.toB, e2], q⟩
  | false => obtain ⟨d, S2, e2, q⟩ := h2 rfl; exact ⟨d, S2, by simp only [evE, e, Bd_some, D.toB, e2], q⟩
theorem W.and {a b : CE} (h : W (evE P cl a env S) fun d S1 => IfB d (W (evE P cl b env S1) Q) (Q (.bl false) S1)) : W (evE P cl (.and_ a b) env S) Q := by
  obtain ⟨d, S1, e, b, rfl, h1, h2⟩ := h
  cases b with
  | true => obtain ⟨d, S2, e2, q⟩ := h1 rfl; exact ⟨d, S2, by simp only [evE, e, Bd_some, D.toB, e2], q⟩
  | false => exact ⟨_, S1, by simp only [evE, e, Bd_some, D.toB], h2 rfl⟩
theorem W.or {a b : CE} (h : W (evE P cl a env S) fun d S1 => IfB d (Q (.bl true) S1) (W (evE P cl b env S1) Q)) : W (evE P cl (.or_ a b) env S) Q := by
  obtain ⟨d, S1, e, b, rfl, h1, h2⟩ := h
  cases b with
  | false => obtain ⟨d, S2, e2, q⟩ := h2 rfl; exact ⟨d, S2, by simp only [evE, e, Bd_some, D.toB, e2], q⟩
  | true => exact ⟨_, S1, by simp only [evE, e, Bd_some, D.toB], h1 rfl⟩
theorem W.last {a : CE} (h : W (evE P cl a env S) Q) : W (evE P cl (.last a) env S) Q := h
theorem W.not {a : CE} (h : W (evE P cl a env S) fun d S1 => ∃ b, d = .bl b ∧ Q (.bl (!b)) S1) : W (evE P cl (.not_ a) env S) Q := by
  obtain ⟨d, S1, e, b, rfl, q⟩ := h
  exact ⟨_, S1, by simp only [evE, e, Bd_some, D.toB], q⟩
theorem W.cmp {o : CO} {a b : CE} (h : W (evE P cl a env S) fun x S1 => W (evE P cl b env S1) fun y S2 => ∀ r, cmpD o x (deref S2 y) = r → OQ r fun d => Q d S2) : W (evE P cl (.cmp o a b) env S) Q := by
  obtain ⟨x, S1, e, y, S2, e2, h⟩ := h
  obtain ⟨d, e3, q⟩ := h _ rfl
  exact ⟨d, S2, by simp only [evE, e, Bd_some, e2, e3, Option.map_some], q⟩
theorem W.bin {o : BO} {a b : CE} (h : W (evE P cl a env S) fun x S1 => W (evE P cl b env S1) fun y S2 => ∀ r, binD o x y = r → OQ r fun d => Q d S2) : W (evE P cl (.bin o a b) env S) Q := by
  obtain ⟨x, S1, e, y, S2, e2, h⟩ := h
  obtain ⟨d, e3, q⟩ := h _ rfl
  exact ⟨d, S2, by simp only [evE, e, Bd_some, e2, e3, Option.map_some], q⟩
theorem W.neg {a : CE} (h : W (evE P cl a env S) fun d S1 => ∃ i, d = .int i ∧ Q (.int (-i)) S1) : W (evE P cl (.neg a) env S) Q := by
  obtain ⟨d, S1, e, b, rfl, q⟩ := h
  exact ⟨_, S1, by simp only [evE, e, Bd_some], q⟩
theorem W.ix {a i : CE} (h : W (evE P cl a env S) fun x S1 => W (evE P cl i env S1) fun y S2 => ∀ r, ixD (deref S2 x) y = r → OQ r fun d => Q d S2) : W (evE P cl (.ix a i) env S) Q := by
  obtain ⟨x, S1, e, y, S2, e2, h⟩ := h
  obtain ⟨d, e3, q⟩ := h _ rfl
  exact ⟨d, S2, by simp only [evE, e, Bd_some, e2, e3, Option.map_some], q⟩
theorem W.sl {a : CE} {lo hi : CEs} (h : W (evE P cl a env S) fun x S1 => W (evEs P cl lo env S1) fun l S2 => W (evEs P cl hi env S2) fun h S3 => OQ (okPart l) fun l' => OQ (okPart h) fun h' => ∀ r, slD (deref S3 x) l' h' = r → OQ r fun d => Q d S3) : W (evE P cl (.sl a lo hi) env S) Q := by
  obtain ⟨x, S1, e, y, S2, e2, z, S3, e3, l', e4, h', e5, h⟩ := h
  obtain ⟨d, e6, q⟩ := h _ rfl
  exact ⟨d, S3, by simp only [evE, e, Bd_some, e2, e3, e4, e5, e6, Option.map_some], q⟩
theorem W.rev {a : CE} (h : W (evE P cl a env S) fun d S1 => ∃ xs, deref S1 d = .lst xs ∧ Q (.lst xs.reverse) S1) : W (evE P cl (.rev a) env S) Q := by
  obtain ⟨d, S1, e, b, h, q⟩ := h
  exact ⟨_, S1, by simp only [evE, e, Bd_some, h], q⟩
theorem W.frz {a : CE} (h : W (evE P cl a env S) fun d S1 => W (frzD d S1) Q) : W (evE P cl (.frz a) env S) Q := W.bd h
theorem W.dicF {es : CEs} (h : W (evEs P cl es env S) fun ds S1 => ∀ r, pairK ds = r → OQ r fun kvs => kvs.length ≤ 15 ∧ Q (.dct (mergeKD [] kvs)) S1) : W (evE P cl (.dic false es) env S) Q := by
  obtain ⟨ds, S1, e, h⟩ := h
  obtain ⟨kvs, e2, h3, q⟩ := h _ rfl
  exact ⟨_, S1, by simp only [evE, e, Bd_some, e2, h3, if_true, Bool.false_eq_true, if_false], q⟩
theorem W.dicT {es : CEs} (h : W (evEs P cl es env S) fun ds S1 => ∀ r, pairK ds = r → OQ r fun kvs => kvs.length ≤ 15 ∧ Q (.ptr S1.length) (S1 ++ [.dct (mergeKD [] kvs)])) : W (evE P cl (.dic true es) env S) Q := by
  obtain ⟨ds, S1, e, h⟩ := h
  obtain ⟨kvs, e2, h3, q⟩ := h _ rfl
  exact ⟨_, _, by simp only [evE, e, Bd_some, e2, h3, if_true], q⟩
theorem W.get2 {o k z : CE} (h : W (evE P cl o env S) fun x S1 => isDct S1 x = true ∧ W (evE P cl k env S1) fun y S2 => W (evE P cl z env S2) fun w S3 => w.isPtr = false ∧ ∀ r, getD2 (deref S3 x) y w = r → OQ r fun d => Q d S3) : W (evE P cl (.get2 o k z) env S) Q := by
  obtain ⟨x, S1, e, h1, y, S2, e2, w, S3, e3, h2, h⟩ := h
  obtain ⟨d, e4, q⟩ := h _ rfl
  exact ⟨d, S3, by simp only [evE, e, Bd_some, h1, e2, e3, h2, e4, if_true, Bool.false_eq_true, if_false, Option.map_some], q⟩
theorem W.call {f : Nat} {es : CEs} (h : W (evEs P cl es env S) fun ds S1 => W (cl f ds S1) Q) : W (evE P cl (.call f es) env S) Q := W.bd h
theorem W.bi {b : BI} {es : CEs} (h : W (evEs P cl es env S) fun ds S1 => ∀ r, biD b (ds.map (deref S1)) = r → OQ r fun d => Q d S1) : W (evE P cl (.bi b es) env S) Q := by
  obtain ⟨ds, S1, e, h⟩ := h
  obtain ⟨d, e3, q⟩ := h _ rfl
  exact ⟨d, S1, by simp only [evE, e, Bd_some, e3, Option.map_some], q⟩
theorem W.mt {m : MT} {o : CE} {es : CEs} (h : W (evE P cl o env S) fun x S1 => isLst S1 x = true ∧ W (evEs P cl es env S1) fun ds S2 => ∀ r, mtD m x ds S2 = r → W r Q) : W (evE P cl (.mt m o es) env S) Q := by
  obtain ⟨x, S1, e, h1, ds, S2, e2, h⟩ := h
  obtain ⟨d, S3, e3, q⟩ := h _ rfl
  exact ⟨d, S3, by simp only [evE, e, Bd_some, h1, if_true, e2, e3], q⟩
theorem W.isi {a : CE} {t : String} (h : W (evE P cl a env S) fun x S1 => ∀ r, isiD x t = r → OQ r fun b => Q (.bl b) S1) : W (evE P cl (.isi a t) env S) Q := by
  obtain ⟨x, S1, e, h⟩ := h
  obtain ⟨d, e3, q⟩ := h _ rfl
  exact ⟨_, S1, by simp only [evE, e, Bd_some, e3, Option.map_some], q⟩
/-- one turn of a comprehension -/
def lcT (P : Prog) (cl : Cl) (elt : CE) (tg : CT) (test : CEs) (env : Slots) : D → Store → R (Option D) := fun d S =>
  match bindT tg d env with
  | none => none
  | some env' => Bd (evTest P cl test env' S) fun b S2 => if b then Bd (evE P cl elt env' S2) fun y S3 => if y.isPtr then none else some (some y, S3) else some (none, S2)
theorem W.lc {elt : CE} {tg : CT} {it : CI} {test : CEs} {ows : List Nat} (h : W (evI P cl it env S) fun ds S1 => ∀ env', wipeS env ows = env' → W (lcLoop (lcT P cl elt tg test env') ds S1) fun ys S2 => ys.length ≤ lim ∧ Q (.lst ys) S2) : W (evE P cl (.lc elt tg it test ows) env S) Q := by
  obtain ⟨ds, S1, e, h⟩ := h
  obtain ⟨ys, S2, e2, hl, q⟩ := h _ rfl
  have e4 : evE P cl (.lc elt tg it test ows) env S = Bd (evI P cl it env S) fun ds S1 => Bd (lcLoop (lcT P cl elt tg test (wipeS env ows)) ds S1) fun ys S2 => if ys.length ≤ lim then some (.lst ys, S2) else none := by
    simp only [evE]; rfl
  exact ⟨_, S2, by rw [e4, e, Bd_some, e2, Bd_some, if_pos hl], q⟩
theorem W.turn {elt : CE} {tg : CT} {test : CEs} {d : D} {Q : Option D → Store → Prop} (h : ∀ r, bindT tg d env = r → OQ r fun env' => W (evTest P cl test env' S) fun b S2 => (b = true → W (evE P cl elt env' S2) fun y S3 => y.isPtr = false ∧ Q (some y) S3) ∧ (b = false → Q none S2)) :
    W (lcT P cl elt tg test env d S) Q := by
  obtain ⟨env', e, b, S2, e2, h1, h2⟩ := h _ rfl
  cases b with
  | true =>
    obtain ⟨y, S3, e3, n, q⟩ := h1 rfl
    exact ⟨_, S3, by simp only [lcT, e, e2, Bd_some, if_true, e3, n, Bool.false_eq_true, if_false], q⟩
  | false => exact ⟨_, S2, by simp only [lcT, e, e2, Bd_some, Bool.false_eq_true, if_false], h2 rfl⟩
/-- .. without a test -/
theorem W.turn0 {elt : CE} {tg : CT} {d : D} {Q : Option D → Store → Prop} (h : ∀ r, bindT tg d env = r → OQ r fun env' => W (evE P cl elt env' S) fun y S3 => y.isPtr = false ∧ Q (some y) S3) :
    W (lcT P cl elt tg .nil env d S) Q := by
  obtain ⟨env', e, y, S3, e3, n, q⟩ := h _ rfl
  exact ⟨_, S3, by simp only [lcT, e, evTest, Bd_some, if_true, e3, n, Bool.false_eq_true, if_false], q⟩
theorem W.test0 {Q : Bool → Store → Prop} (q : Q true S) : W (evTest P cl .nil env S) Q := ⟨_, _, rfl, q⟩
theorem W.test1 {t : CE} {Q : Bool → Store → Prop} (h : W (evE P cl t env S) fun d S1 => ∃ b, d = .bl b ∧ Q b S1) : W (evTest P cl (.cons t .nil) env S) Q := by
  obtain ⟨d, S1, e, b, rfl, q⟩ := h
  exact ⟨b, S1, by simp only [evTest, e, Bd_some, D.toB], q⟩
theorem W.lc0 {st : D → Store → R (Option D)} {Q : List D → Store → Prop} (q : Q [] S) : W (lcLoop st [] S) Q := ⟨_, _, rfl, q⟩
theorem W.lc1 {st : D → Store → R (Option D)} {x : D} {xs : List D} {Q : List D → Store → Prop} (h : W (st x S) fun o S1 => W (lcLoop st xs S1) fun ys S2 => Q (optCons o ys) S2) : W (lcLoop st (x :: xs) S) Q := by
  obtain ⟨o, S1, e, ys, S2, e2, q⟩ := h
  exact ⟨_, S2, by simp only [lcLoop, e, e2, Bd_some], q⟩
/-- a comprehension that leaves something true and makes things of a kind, without a test -/
theorem W.lcInv {st : D → Store → R (Option D)} {I : Store → Prop} {R' : D → D → Prop} : ∀ {xs : List D} {S : Store} {Q : List D → Store → Prop}, I S → (∀ x ∈ xs, ∀ S, I S → W (st x S) fun o S' => ∃ y, o = some y ∧ R' x y ∧ I S') →
    (∀ ys S', I S' → All2 R' xs ys → Q ys S') → W (lcLoop st xs S) Q
  | [], S, Q, hI, _, q => .lc0 (q [] S hI .nil)
  | x :: xs, S, Q, hI, h, q => by
    refine .lc1 (W.mono (h x (by simp) S hI) fun o S1 ⟨y, e, r, i⟩ => ?_)
    subst e
    exact W.lcInv (I := I) (R' := R') i (fun z hz => h z (by simp [hz])) fun ys S' i' f => q (y :: ys) S' i' (.cons r f)
/-- .. that changes nothing -/
theorem W.lcMap {st : D → Store → R (Option D)} {f : D → D} {S : Store} : ∀ {xs : List D} {Q : List D → Store → Prop}, (∀ x ∈ xs, st x S = some (some (f x), S)) → Q (xs.map f) S → W (lcLoop st xs S) Q
  | [], Q, _, q => .lc0 q
  | x :: xs, Q, h, q => .lc1 (.eq (h x (by simp)) (W.lcMap (f := f) (fun z hz => h z (by simp [hz])) q))
theorem W.enil {Q : List D → Store → Prop} (q : Q [] S) : W (evEs P cl .nil env S) Q := ⟨_, _, rfl, q⟩
theorem W.econs {e : CE} {r : CEs} {Q : List D → Store → Prop} (h : W (evE P cl e env S) fun d S1 => W (evEs P cl r env S1) fun ds S2 => Q (d :: ds) S2) : W (evEs P cl (.cons e r) env S) Q := by
  obtain ⟨d, S1, e1, ds, S2, e2, q⟩ := h
  exact ⟨_, S2, by simp only [evEs, e1, e2, Bd_some], q⟩
theorem W.seq {e : CE} {Q : List D → Store → Prop} (h : W (evE P cl e env S) fun d S1 => ∃ xs, (d = .tup xs ∨ d = .lst xs) ∧ Q xs S1) : W (evI P cl (.seq e) env S) Q := by
  obtain ⟨d, S1, e1, xs, h, q⟩ := h
  rcases h with rfl | rfl
  · exact ⟨xs, S1, by simp only [evI, e1, Bd_some], q⟩
  · exact ⟨xs, S1, by simp only [evI, e1, Bd_some], q⟩
theorem W.rng {es : CEs} {Q : List D → Store → Prop} (h : W (evEs P cl es env S) fun ds S1 => ∀ r, rngD ds = r → OQ r fun xs => Q xs S1) : W (evI P cl (.rng es) env S) Q := by
  obtain ⟨ds, S1, e, h⟩ := h
  obtain ⟨d, e3, q⟩ := h _ rfl
  exact ⟨d, S1, by simp only [evI, e, Bd_some, e3, Option.map_some], q⟩
theorem W.zip {es : CEs} {Q : List D → Store → Prop} (h : W (evEs P cl es env S) fun ds S1 => ∀ r, zipD ds = r → OQ r fun xs => Q xs S1) : W (evI P cl (.zip es) env S) Q := by
  obtain ⟨ds, S1, e, h⟩ := h
  obtain ⟨d, e3, q⟩ := h _ rfl
  exact ⟨d, S1, by simp only [evI, e, Bd_some, e3, Option.map_some], q⟩
/-! statements -/
variable {F : Fl → Store → Prop}
theorem W.snil (q : F (.nx env) S) : W (evSs P cl .nil env S) F := ⟨_, _, rfl, q⟩
theorem W.scons {s : CS} {r : CSs} (h : W (evS P cl s env S) fun fl S1 => Then fl S1 (fun e => W (evSs P cl r e S1) F) F) : W (evSs P cl (.cons s r) env S) F := by
  obtain ⟨fl, S1, e, h⟩ := h
  cases fl with
  | nx en => obtain ⟨f2, S2, e2, q⟩ := h; exact ⟨f2, S2, by simp only [evSs, e, Bd_some, e2], q⟩
  | ret d => exact ⟨_, S1, by simp only [evSs, e, Bd_some], h⟩
  | brk d => exact ⟨_, S1, by simp only [evSs, e, Bd_some], h⟩
  | ct d => exact ⟨_, S1, by simp only [evSs, e, Bd_some], h⟩
theorem W.skip {s : CS} {r : CSs} (h : W (evS P cl s env S) fun fl S' => fl = .nx env ∧ S' = S) (k : W (evSs P cl r env S) F) : W (evSs P cl (.cons s r) env S) F := by
  refine W.scons (h.mono ?_)
  rintro fl S' ⟨rfl, rfl⟩
  exact k
theorem W.expr {e : CE} (h : W (evE P cl e env S) fun _ S1 => F (.nx env) S1) : W (evS P cl (.expr e) env S) F := by
  obtain ⟨d, S1, e1, q⟩ := h
  exact ⟨_, S1, by simp only [evS, e1, Bd_some], q⟩
theorem W.asg {t : CT} {e : CE} (h : W (evE P cl e env S) fun d S1 => ∀ r, bindT t d env = r → OQ r fun env' => F (.nx env') S1) : W (evS P cl (.asg t e) env S) F := by
  obtain ⟨d, S1, e1, h⟩ := h
  obtain ⟨env', e2, q⟩ := h _ rfl
  exact ⟨_, S1, by simp only [evS, e1, Bd_some, e2], q⟩
theorem W.par {is : List Nat} {es : CEs} (h : W (evEs P cl es env S) fun ds S1 => ∀ r, bindP is ds env = r → OQ r fun env' => F (.nx env') S1) : W (evS P cl (.par is es) env S) F := by
  obtain ⟨d, S1, e1, h⟩ := h
  obtain ⟨env', e2, q⟩ := h _ rfl
  exact ⟨_, S1, by simp only [evS, e1, Bd_some, e2], q⟩
theorem W.setix {o i e : CE} (h : W (evE P cl e env S) fun d S1 => W (evE P cl o env S1) fun x S2 => W (evE P cl i env S2) fun k S3 => ∀ r, setixD x k d S3 = r → OQ r fun S4 => F (.nx env) S4) : W (evS P cl (.setix o i e) env S) F := by
  obtain ⟨d, S1, e1, x, S2, e2, k, S3, e3, h⟩ := h
  obtain ⟨S4, e4, q⟩ := h _ rfl
  exact ⟨_, S4, by simp only [evS, e1, Bd_some, e2, e3, e4], q⟩
theorem W.rets {e : CE} (h : W (evE P cl e env S) fun d S1 => F (.ret d) S1) : W (evS P cl (.ret e) env S) F := by
  obtain ⟨d, S1, e1, q⟩ := h
  exact ⟨_, S1, by simp only [evS, e1, Bd_some], q⟩
theorem W.ifs {t : CE} {a b : CSs} (h : W (evE P cl t env S) fun d S1 => IfB d (W (evSs P cl a env S1) F) (W (evSs P cl b env S1) F)) : W (evS P cl (.if_ t a b) env S) F := by
  obtain ⟨d, S1, e, b, rfl, h1, h2⟩ := h
  cases b with
  | true => obtain ⟨d, S2, e2, q⟩ := h1 rfl; exact ⟨d, S2, by simp only [evS, e, Bd_some, D.toB, e2], q⟩
  | false => obtain ⟨d, S2, e2, q⟩ := h2 rfl; exact ⟨d, S2, by simp only [evS, e, Bd_some, D.toB, e2], q⟩
def forT (P : Prog) (cl : Cl) (t : CT) (b : CSs) : D → Slots → Store → R Fl := fun d env S => match bindT t d env with
    | none => none
    | some env' => evSs P cl b env' S
theorem W.fors {t : CT} {it : CI} {b : CSs} (h : W (evI P cl it env S) fun ds S1 => W (forLoop (forT P cl t b) ds env S1) F) : W (evS P cl (.for_ t it b) env S) F := by
  obtain ⟨ds, S1, e, fl, S2, e2, q⟩ := h
  have e4 : evS P cl (.for_ t it b) env S = Bd (evI P cl it env S) fun ds S1 => forLoop (forT P cl t b) ds env S1 := by
    simp only [evS]; rfl
  exact ⟨fl, S2, by rw [e4, e, Bd_some, e2], q⟩
theorem W.fturn {t : CT} {b : CSs} {d : D} (h : ∀ r, bindT t d env = r → OQ r fun env' => W (evSs P cl b env' S) F) : W (forT P cl t b d env S) F := by
  obtain ⟨env', e, fl, S2, e2, q⟩ := h _ rfl
  exact ⟨fl, S2, by simp only [forT, e, e2], q⟩
theorem W.pass (q : F (.nx env) S) : W (evS P cl .pass env S) F := ⟨_, _, rfl, q⟩
theorem W.for0 {st : D → Slots → Store → R Fl} (q : F (.nx env) S) : W (forLoop st [] env S) F := ⟨_, _, rfl, q⟩
/-- a turn's end -/
def Turn (fl : Fl) (S : Store) (A : Slots → Prop) (F : Fl → Store → Prop) : Prop := match fl with
  | .nx e => A e
  | .ct e => A e
  | .brk e => F (.nx e) S
  | .ret d => F (.ret d) S
theorem W.for1 {st : D → Slots → Store → R Fl} {x : D} {xs : List D} (h : W (st x env S) fun fl S1 => Turn fl S1 (fun e => W (forLoop st xs e S1) F) F) : W (forLoop st (x :: xs) env S) F := by
  obtain ⟨fl, S1, e, h⟩ := h
  cases fl with
  | nx en => obtain ⟨f2, S2, e2, q⟩ := h; exact ⟨f2, S2, by simp only [forLoop, e, Bd_some, e2], q⟩
  | ct en => obtain ⟨f2, S2, e2, q⟩ := h; exact ⟨f2, S2, by simp only [forLoop, e, Bd_some, e2], q⟩
  | ret d => exact ⟨_, S1, by simp only [forLoop, e, Bd_some], h⟩
  | brk d => exact ⟨_, S1, by simp only [forLoop, e, Bd_some], h⟩
/-- a loop that keeps something true and never leaves -/
theorem W.forInv {st : D → Slots → Store → R Fl} {I : Slots → Store → Prop} : ∀ {xs : List D} {env : Slots} {S : Store}, I env S → (∀ x ∈ xs, ∀ env S, I env S → W (st x env S) fun fl S' => ∃ e, fl = .nx e ∧ I e S') →
    (∀ e S', I e S' → F (.nx e) S') → W (forLoop st xs env S) F
  | [], env, S, hI, _, q => .for0 (q env S hI)
  | x :: xs, env, S, hI, h, q => by
    refine .for1 (W.mono (h x (by simp) env S hI) fun fl S1 ⟨e, e1, i⟩ => ?_)
    subst e1
    exact W.forInv (I := I) i (fun z hz => h z (by simp [hz])) q
/-- a loop over things, that may leave by a return -/
theorem W.forEx {α : Type} {st : D → Slots → Store → R Fl} {g : α → D} {I : List α → Slots → Store → Prop} {all : List α} : ∀ {done todo : List α} {env : Slots} {S : Store}, done ++ todo = all → I done env S →
    (∀ done x rest env S, done ++ x :: rest = all → I done env S → W (st (g x) env S) fun fl S' => (∃ e, fl = .nx e ∧ I (done ++ [x]) e S') ∨ (∃ d, fl = .ret d ∧ F (.ret d) S')) →
    (∀ e S', I all e S' → F (.nx e) S') → W (forLoop st (todo.map g) env S) F
  | done, [], env, S, ha, hI, _, q => .for0 (q env S (by rw [← ha, List.append_nil]; exact hI))
  | done, x :: todo, env, S, ha, hI, h, q => by
    refine .for1 (W.mono (h done x todo env S ha hI) fun fl S1 hh => ?_)
    rcases hh with ⟨e, e1, i⟩ | ⟨d, e1, i⟩
    · subst e1
      exact W.forEx (I := I) (all := all) (done := done ++ [x]) (by rw [List.append_assoc]; exact ha) i h q
    · subst e1
      exact i
/-- a comprehension that makes the same thing each time -/
theorem W.lcConst {st : D → Store → R (Option D)} {y : D} {S : Store} : ∀ {xs : List D} {Q : List D → Store → Prop}, (∀ x ∈ xs, W (st x S) fun o S' => o = some y ∧ S' = S) → Q (List.replicate xs.length y) S → W (lcLoop st xs S) Q
  | [], Q, _, q => .lc0 q
  | x :: xs, Q, h, q => by
    refine .lc1 (W.mono (h x (by simp)) fun o S1 ⟨e1, e2⟩ => ?_)
    subst e1 e2
    exact W.lcConst (y := y) (fun z hz => h z (by simp [hz])) q
/-- a comprehension whose test fails each time -/
theorem W.lcNone {st : D → Store → R (Option D)} {S : Store} : ∀ {xs : List D} {Q : List D → Store → Prop}, (∀ x ∈ xs, W (st x S) fun o S' => o = none ∧ S' = S) → Q [] S → W (lcLoop st xs S) Q
  | [], Q, _, q => .lc0 q
  | x :: xs, Q, h, q => by
    refine .lc1 (W.mono (h x (by simp)) fun o S1 ⟨e1, e2⟩ => ?_)
    subst e1 e2
    exact W.lcNone (fun z hz => h z (by simp [hz])) q
/-- .. over things, one by one -/
theorem W.lcMapG {α : Type} {st : D → Store → R (Option D)} {g : α → D} {f : α → D} {S : Store} : ∀ {xs : List α} {Q : List D → Store → Prop}, (∀ x ∈ xs, W (st (g x) S) fun o S' => o = some (f x) ∧ S' = S) → Q (xs.map f) S → W (lcLoop st (xs.map g) S) Q
  | [], Q, _, q => .lc0 q
  | x :: xs, Q, h, q => by
    refine .lc1 (W.mono (h x (by simp)) fun o S1 ⟨e1, e2⟩ => ?_)
    subst e1 e2
    exact W.lcMapG (g := g) (f := f) (fun z hz => h z (by simp [hz])) q
/-! calls -/
/-- what a call's body leaves -/
def Fin (n : Nat) (Q : D → Store → Prop) (fl : Fl) (S : Store) : Prop := match fl with
  | .nx _ => Q .non (S.take n)
  | .ret d => ∀ r, fin n d S = r → W r Q
  | _ => False
theorem W.fn {k f : Nat} {ds : List D} {fd : Fd} (h : P.fs[f]? = some fd) (hl : ds.length = fd.ps) (w : W (evSs P (callK P k) fd.body (ds.map some ++ List.replicate (fd.n - fd.ps) none) S) (Fin S.length Q)) : W (callK P (k + 1) f ds S) Q := by
  obtain ⟨fl, S1, e, h2⟩ := w
  cases fl with
  | nx en => exact ⟨_, _, by simp only [callK, h, if_pos hl, e, Bd_some, fin], h2⟩
  | ret d =>
    obtain ⟨a, S2, e2, q⟩ := h2 _ rfl
    exact ⟨a, S2, by simp only [callK, h, if_pos hl, e, Bd_some, e2], q⟩
  | brk d => cases h2
  | ct d => cases h2
theorem Fin.data {n : Nat} {d : D} (h : d.isPtr = false) (q : Q d (S.take n)) : Fin n Q (.ret d) S := by
  intro r e
  subst e
  have e : fin n d S = some (d, S.take n) := by cases d <;> first | rfl | cases h
  rw [e]
  exact ⟨_, _, rfl, q⟩
theorem W.get {α : Type} {x : R α} {a : α} {S : Store} (h : W x fun b S' => b = a ∧ S' = S) : x = some (a, S) := by
  obtain ⟨b, S', e, rfl, rfl⟩ := h
  exact e

/-! one step, found by the goal's form -/
class Go (g : Prop) (h : outParam Prop) : Prop where
  go : h → g
variable {F : Fl → Store → Prop}
instance {i : Nat} : Go (W (evE P cl (.var i) env S) Q) (∃ d, env[i]? = some (some d) ∧ Q d S) := ⟨fun ⟨_, e, q⟩ => W.var e q⟩
instance {d : D} : Go (W (evE P cl (.con d) env S) Q) (Q d S) := ⟨W.con⟩
instance {j : Nat} : Go (W (evE P cl (.glob j) env S) Q) (∃ d, P.gl[j]? = some d ∧ Q d S) := ⟨fun ⟨_, e, q⟩ => W.glob e q⟩
instance {es : CEs} : Go (W (evE P cl (.tup es) env S) Q) (W (evEs P cl es env S) fun ds S1 => noPtr ds = true ∧ Q (.tup ds) S1) := ⟨W.tup⟩
instance {es : CEs} : Go (W (evE P cl (.lst false es) env S) Q) (W (evEs P cl es env S) fun ds S1 => noPtr ds = true ∧ Q (.lst ds) S1) := ⟨W.lstF⟩
instance {es : CEs} : Go (W (evE P cl (.lst true es) env S) Q) (W (evEs P cl es env S) fun ds S1 => noPtr ds = true ∧ Q (.ptr S1.length) (S1 ++ [.lst ds])) := ⟨W.lstT⟩
instance {t a b : CE} : Go (W (evE P cl (.ifx t a b) env S) Q) (W (evE P cl t env S) fun d S1 => IfB d (W (evE P cl a env S1) Q) (W (evE P cl b env S1) Q)) := ⟨W.ifx⟩
instance {a b : CE} : Go (W (evE P cl (.and_ a b) env S) Q) (W (evE P cl a env S) fun d S1 => IfB d (W (evE P cl b env S1) Q) (Q (.bl false) S1)) := ⟨W.and⟩
instance {a b : CE} : Go (W (evE P cl (.or_ a b) env S) Q) (W (evE P cl a env S) fun d S1 => IfB d (Q (.bl true) S1) (W (evE P cl b env S1) Q)) := ⟨W.or⟩
instance {a : CE} : Go (W (evE P cl (.last a) env S) Q) (W (evE P cl a env S) Q) := ⟨W.last⟩
instance {a : CE} : Go (W (evE P cl (.not_ a) env S) Q) (W (evE P cl a env S) fun d S1 => ∃ b, d = .bl b ∧ Q (.bl (!b)) S1) := ⟨W.not⟩
instance {o : CO} {a b : CE} : Go (W (evE P cl (.cmp o a b) env S) Q) (W (evE P cl a env S) fun x S1 => W (evE P cl b env S1) fun y S2 => ∀ r, cmpD o x (deref S2 y) = r → OQ r fun d => Q d S2) := ⟨W.cmp⟩
instance {o : BO} {a b : CE} : Go (W (evE P cl (.bin o a b) env S) Q) (W (evE P cl a env S) fun x S1 => W (evE P cl b env S1) fun y S2 => ∀ r, binD o x y = r → OQ r fun d => Q d S2) := ⟨W.bin⟩
instance {a : CE} : Go (W (evE P cl (.neg a) env S) Q) (W (evE P cl a env S) fun d S1 => ∃ i, d = .int i ∧ Q (.int (-i)) S1) := ⟨W.neg⟩
instance {a i : CE} : Go (W (evE P cl (.ix a i) env S) Q) (W (evE P cl a env S) fun x S1 => W (evE P cl i env S1) fun y S2 => ∀ r, ixD (deref S2 x) y = r → OQ r fun d => Q d S2) := ⟨W.ix⟩
instance {a : CE} {lo hi : CEs} : Go (W (evE P cl (.sl a lo hi) env S) Q) (W (evE P cl a env S) fun x S1 => W (evEs P cl lo env S1) fun l S2 => W (evEs P cl hi env S2) fun h S3 => OQ (okPart l) fun l' => OQ (okPart h) fun h' => ∀ r, slD (deref S3 x) l' h' = r → OQ r fun d => Q d S3) := ⟨W.sl⟩
instance {a : CE} : Go (W (evE P cl (.rev a) env S) Q) (W (evE P cl a env S) fun d S1 => ∃ xs, deref S1 d = .lst xs ∧ Q (.lst xs.reverse) S1) := ⟨W.rev⟩
instance {a : CE} : Go (W (evE P cl (.frz a) env S) Q) (W (evE P cl a env S) fun d S1 => W (frzD d S1) Q) := ⟨W.frz⟩
instance {es : CEs} : Go (W (evE P cl (.dic false es) env S) Q) (W (evEs P cl es env S) fun ds S1 => ∀ r, pairK ds = r → OQ r fun kvs => kvs.length ≤ 15 ∧ Q (.dct (mergeKD [] kvs)) S1) := ⟨W.dicF⟩
instance {es : CEs} : Go (W (evE P cl (.dic true es) env S) Q) (W (evEs P cl es env S) fun ds S1 => ∀ r, pairK ds = r → OQ r fun kvs => kvs.length ≤ 15 ∧ Q (.ptr S1.length) (S1 ++ [.dct (mergeKD [] kvs)])) := ⟨W.dicT⟩
instance {o k z : CE} : Go (W (evE P cl (.get2 o k z) env S) Q) (W (evE P cl o env S) fun x S1 => isDct S1 x = true ∧ W (evE P cl k env S1) fun y S2 => W (evE P cl z env S2) fun w S3 => w.isPtr = false ∧ ∀ r, getD2 (deref S3 x) y w = r → OQ r fun d => Q d S3) := ⟨W.get2⟩
instance {f : Nat} {es : CEs} : Go (W (evE P cl (.call f es) env S) Q) (W (evEs P cl es env S) fun ds S1 => W (cl f ds S1) Q) := ⟨W.call⟩
instance {b : BI} {es : CEs} : Go (W (evE P cl (.bi b es) env S) Q) (W (evEs P cl es env S) fun ds S1 => ∀ r, biD b (ds.map (deref S1)) = r → OQ r fun d => Q d S1) := ⟨W.bi⟩
instance {a : CE} {t : String} : Go (W (evE P cl (.isi a t) env S) Q) (W (evE P cl a env S) fun x S1 => ∀ r, isiD x t = r → OQ r fun b => Q (.bl b) S1) := ⟨W.isi⟩
instance {m : MT} {o : CE} {es : CEs} : Go (W (evE P cl (.mt m o es) env S) Q) (W (evE P cl o env S) fun x S1 => isLst S1 x = true ∧ W (evEs P cl es env S1) fun ds S2 => ∀ r, mtD m x ds S2 = r → W r Q) := ⟨W.mt⟩
instance {elt : CE} {tg : CT} {it : CI} {test : CEs} {ows : List Nat} : Go (W (evE P cl (.lc elt tg it test ows) env S) Q) (W (evI P cl it env S) fun ds S1 => ∀ env', wipeS env ows = env' → W (lcLoop (lcT P cl elt tg test env') ds S1) fun ys S2 => ys.length ≤ lim ∧ Q (.lst ys) S2) := ⟨W.lc⟩
instance {t : CE} {Q : Bool → Store → Prop} : Go (W (evTest P cl (.cons t .nil) env S) Q) (W (evE P cl t env S) fun d S1 => ∃ b, d = .bl b ∧ Q b S1) := ⟨W.test1⟩
instance {Q : List D → Store → Prop} : Go (W (evEs P cl .nil env S) Q) (Q [] S) := ⟨W.enil⟩
instance {e : CE} {r : CEs} {Q : List D → Store → Prop} : Go (W (evEs P cl (.cons e r) env S) Q) (W (evE P cl e env S) fun d S1 => W (evEs P cl r env S1) fun ds S2 => Q (d :: ds) S2) := ⟨W.econs⟩
instance {es : CEs} {Q : List D → Store → Prop} : Go (W (evI P cl (.rng es) env S) Q) (W (evEs P cl es env S) fun ds S1 => ∀ r, rngD ds = r → OQ r fun xs => Q xs S1) := ⟨W.rng⟩
instance {es : CEs} {Q : List D → Store → Prop} : Go (W (evI P cl (.zip es) env S) Q) (W (evEs P cl es env S) fun ds S1 => ∀ r, zipD ds = r → OQ r fun xs => Q xs S1) := ⟨W.zip⟩
instance {e : CE} {Q : List D → Store → Prop} : Go (W (evI P cl (.seq e) env S) Q) (W (evE P cl e env S) fun d S1 => ∃ xs, (d = .tup xs ∨ d = .lst xs) ∧ Q xs S1) := ⟨W.seq⟩
instance  : Go (W (evSs P cl .nil env S) F) (F (.nx env) S) := ⟨W.snil⟩
instance {s : CS} {r : CSs} : Go (W (evSs P cl (.cons s r) env S) F) (W (evS P cl s env S) fun fl S1 => Then fl S1 (fun e => W (evSs P cl r e S1) F) F) := ⟨W.scons⟩
instance {e : CE} : Go (W (evS P cl (.expr e) env S) F) (W (evE P cl e env S) fun _ S1 => F (.nx env) S1) := ⟨W.expr⟩
instance {t : CT} {e : CE} : Go (W (evS P cl (.asg t e) env S) F) (W (evE P cl e env S) fun d S1 => ∀ r, bindT t d env = r → OQ r fun env' => F (.nx env') S1) := ⟨W.asg⟩
instance {is : List Nat} {es : CEs} : Go (W (evS P cl (.par is es) env S) F) (W (evEs P cl es env S) fun ds S1 => ∀ r, bindP is ds env = r → OQ r fun env' => F (.nx env') S1) := ⟨W.par⟩
instance {o i e : CE} : Go (W (evS P cl (.setix o i e) env S) F) (W (evE P cl e env S) fun d S1 => W (evE P cl o env S1) fun x S2 => W (evE P cl i env S2) fun k S3 => ∀ r, setixD x k d S3 = r → OQ r fun S4 => F (.nx env) S4) := ⟨W.setix⟩
instance {e : CE} : Go (W (evS P cl (.ret e) env S) F) (W (evE P cl e env S) fun d S1 => F (.ret d) S1) := ⟨W.rets⟩
instance {t : CE} {a b : CSs} : Go (W (evS P cl (.if_ t a b) env S) F) (W (evE P cl t env S) fun d S1 => IfB d (W (evSs P cl a env S1) F) (W (evSs P cl b env S1) F)) := ⟨W.ifs⟩
instance {t : CT} {it : CI} {b : CSs} : Go (W (evS P cl (.for_ t it b) env S) F) (W (evI P cl it env S) fun ds S1 => W (forLoop (forT P cl t b) ds env S1) F) := ⟨W.fors⟩
instance {t : CT} {b : CSs} {d : D} : Go (W (forT P cl t b d env S) F) (∀ r, bindT t d env = r → OQ r fun env' => W (evSs P cl b env' S) F) := ⟨W.fturn⟩
instance  : Go (W (evS P cl .pass env S) F) (F (.nx env) S) := ⟨W.pass⟩
instance {st : D → Slots → Store → R Fl} : Go (W (forLoop st [] env S) F) (F (.nx env) S) := ⟨W.for0⟩
instance {st : D → Store → R (Option D)} {Q : List D → Store → Prop} : Go (W (lcLoop st [] S) Q) (Q [] S) := ⟨W.lc0⟩
instance {st : D → Store → R (Option D)} {x : D} {xs : List D} {Q : List D → Store → Prop} : Go (W (lcLoop st (x :: xs) S) Q) (W (st x S) fun o S1 => W (lcLoop st xs S1) fun ys S2 => Q (optCons o ys) S2) := ⟨W.lc1⟩
instance {elt : CE} {tg : CT} {d : D} {Q : Option D → Store → Prop} : Go (W (lcT P cl elt tg .nil env d S) Q) (∀ r, bindT tg d env = r → OQ r fun env' => W (evE P cl elt env' S) fun y S3 => y.isPtr = false ∧ Q (some y) S3) := ⟨W.turn0⟩
instance {Q : Bool → Store → Prop} : Go (W (evTest P cl .nil env S) Q) (Q true S) := ⟨W.test0⟩
instance {A B : Prop} : Go (IfB (.bl true) A B) A := ⟨IfB.t⟩
instance {A B : Prop} : Go (IfB (.bl false) A B) B := ⟨IfB.f⟩
instance {e : Slots} {S : Store} {A : Slots → Prop} {Q : Fl → Store → Prop} : Go (Then (.nx e) S A Q) (A e) := ⟨Then.nx⟩
instance {d : D} {S : Store} {A : Slots → Prop} {Q : Fl → Store → Prop} : Go (Then (.ret d) S A Q) (Q (.ret d) S) := ⟨Then.ret⟩
instance {e : Slots} {S : Store} {A : Slots → Prop} {Q : Fl → Store → Prop} : Go (Turn (.nx e) S A Q) (A e) := ⟨id⟩
instance {d : D} {S : Store} {A : Slots → Prop} {Q : Fl → Store → Prop} : Go (Turn (.ret d) S A Q) (Q (.ret d) S) := ⟨id⟩
instance {α : Type} {a : α} {Q : α → Prop} : Go (OQ (some a) Q) (Q a) := ⟨OQ.is⟩
instance {d : D} : Go (W (frzD d S) Q) (∀ r, frzD d S = r → W r Q) := ⟨fun h => h _ rfl⟩
instance {α : Type} {xs : List α} {i : Int} {Q : α → Prop} : Go (OQ (L2.atI xs i) Q) (∃ a, L2.atI xs i = some a ∧ Q a) := ⟨fun ⟨a, e, q⟩ => OQ.eq e q⟩
instance {Q : Option Int → Prop} : Go (OQ (okPart []) Q) (Q none) := ⟨OQ.is⟩
instance {i : Int} {Q : Option Int → Prop} : Go (OQ (okPart [.int i]) Q) (Q (some i)) := ⟨OQ.is⟩
end
end PC

set_option Elab.async false
set_option linter.all false
set_option maxRecDepth 100000
set_option maxHeartbeats 4000000
/-! the data's equations, for simp -/
namespace PC
open PySem PyProof.Rows L2
section
variable {P : Prog} {cl : Cl} {env : Slots} {S : Store}
/-! data -/
@[simp] theorem toB_bl' {b : Bool} : (D.bl b).toB = some b := rfl
@[simp] theorem isPtr_non : D.non.isPtr = false := rfl
@[simp] theorem isPtr_bl {b : Bool} : (D.bl b).isPtr = false := rfl
@[simp] theorem isPtr_int {b : Int} : (D.int b).isPtr = false := rfl
@[simp] theorem isPtr_str {b : Str} : (D.str b).isPtr = false := rfl
@[simp] theorem isPtr_tup {b : List D} : (D.tup b).isPtr = false := rfl
@[simp] theorem isPtr_lst {b : List D} : (D.lst b).isPtr = false := rfl
@[simp] theorem noPtr_nil : noPtr [] = true := rfl
@[simp] theorem noPtr_cons {d : D} {r : List D} : noPtr (d :: r) = (!d.isPtr && noPtr r) := rfl
@[simp] theorem deref_non' : deref S .non = .non := rfl
@[simp] theorem deref_bl' {b : Bool} : deref S (.bl b) = .bl b := rfl
@[simp] theorem deref_int' {b : Int} : deref S (.int b) = .int b := rfl
@[simp] theorem deref_str' {b : Str} : deref S (.str b) = .str b := rfl
@[simp] theorem deref_tup' {b : List D} : deref S (.tup b) = .tup b := rfl
@[simp] theorem deref_lst' {b : List D} : deref S (.lst b) = .lst b := rfl
@[simp] theorem deref_dct' {b : List (Key × D)} : deref S (.dct b) = .dct b := rfl
@[simp] theorem deref_tab' {b : List (Str × D)} : deref S (.tab b) = .tab b := rfl
theorem deref_data {d : D} (h : d.isPtr = false) : deref S d = d := by cases d <;> first | rfl | cases h
theorem deref_ptr {n : Nat} {xs : List D} (h : S[n]? = some (.lst xs)) : deref S (.ptr n) = .lst xs := by simp only [deref, h]
@[simp] theorem bindT_name {i : Nat} {d : D} : bindT (.name i) d env = if i < env.length then some (env.set i (some d)) else none := rfl
@[simp] theorem bindT_tup {ts : CTs} {ds : List D} : bindT (.tup ts) (.tup ds) env = bindTs ts ds env := rfl
@[simp] theorem bindTs_nil : bindTs .nil [] env = some env := rfl
@[simp] theorem bindTs_cons {t : CT} {r : CTs} {d : D} {ds : List D} : bindTs (.cons t r) (d :: ds) env = (bindT t d env).bind fun e => bindTs r ds e := rfl
@[simp] theorem bindP_nil : bindP [] [] env = some env := rfl
@[simp] theorem bindP_cons {i : Nat} {is : List Nat} {d : D} {ds : List D} : bindP (i :: is) (d :: ds) env = if i < env.length then bindP is ds (env.set i (some d)) else none := rfl
@[simp] theorem wipeS_nil : wipeS env [] = env := rfl
@[simp] theorem wipeS_cons {v : Nat} {vs : List Nat} : wipeS env (v :: vs) = (wipeS env vs).set v none := rfl
@[simp] theorem ixD_tup {xs : List D} {i : Int} : ixD (.tup xs) (.int i) = L2.atI xs i := rfl
@[simp] theorem ixD_lst {xs : List D} {i : Int} : ixD (.lst xs) (.int i) = L2.atI xs i := rfl
@[simp] theorem atI_0 {α : Type} {x : α} {xs : List α} : L2.atI (x :: xs) 0 = some x := by
  simp [L2.atI, L2.ixN]
@[simp] theorem atI_1 {α : Type} {x y : α} {xs : List α} : L2.atI (x :: y :: xs) 1 = some y := by
  simp [L2.atI, L2.ixN]
  rw [if_pos (by omega)]; rfl
@[simp] theorem atI_2 {α : Type} {x y z : α} {xs : List α} : L2.atI (x :: y :: z :: xs) 2 = some z := by
  simp [L2.atI, L2.ixN]
  rw [if_pos (by omega)]; rfl
@[simp] theorem atI_3 {α : Type} {x y z w : α} {xs : List α} : L2.atI (x :: y :: z :: w :: xs) 3 = some w := by
  simp [L2.atI, L2.ixN]
  rw [if_pos (by omega)]; rfl
@[simp] theorem slD_tup {xs : List D} {lo hi : Option Int} : slD (.tup xs) lo hi = some (.tup (cutD xs lo hi)) := rfl
@[simp] theorem slD_lst {xs : List D} {lo hi : Option Int} : slD (.lst xs) lo hi = some (.lst (cutD xs lo hi)) := rfl
@[simp] theorem cutD_1 {x : D} {xs : List D} : cutD (x :: xs) (some 1) none = xs := by
  simp [cutD, HT.sIx]
@[simp] theorem okPart_nil : okPart [] = some none := rfl
@[simp] theorem okPart_one {i : Int} : okPart [.int i] = some (some i) := rfl
@[simp] theorem biD_len_tup {xs : List D} : biD .len [.tup xs] = some (.int xs.length) := rfl
@[simp] theorem biD_len_lst {xs : List D} : biD .len [.lst xs] = some (.int xs.length) := rfl
@[simp] theorem biD_tuple_lst {xs : List D} : biD .tuple [.lst xs] = some (.tup xs) := rfl
@[simp] theorem biD_tuple_tup {xs : List D} : biD .tuple [.tup xs] = some (.tup xs) := rfl
@[simp] theorem biD_list_lst {xs : List D} : biD .list [.lst xs] = some (.lst xs) := rfl
@[simp] theorem biD_int {i : Int} : biD .int [.int i] = some (.int i) := rfl
@[simp] theorem biD_all {xs : List D} : biD .all [.lst xs] = (allB xs).map fun bs => .bl (bs.all id) := rfl
@[simp] theorem allB_nil : allB [] = some [] := rfl
@[simp] theorem allB_cons {b : Bool} {r : List D} : allB (.bl b :: r) = (allB r).map (b :: ·) := rfl
@[simp] theorem binD_add_int {a b : Int} : binD .add (.int a) (.int b) = some (.int (a + b)) := rfl
@[simp] theorem binD_sub_int {a b : Int} : binD .sub (.int a) (.int b) = some (.int (a - b)) := rfl
theorem binD_mul_int {a b : Int} : binD .mul (.int a) (.int b) = if (-(2 ^ 64) < a ∧ a < 2 ^ 64) ∨ (-(2 ^ 64) < b ∧ b < 2 ^ 64) then some (.int (a * b)) else none := rfl
@[simp] theorem binD_fdiv_int {a b : Int} : binD .fdiv (.int a) (.int b) = if 0 < b ∧ b < 1073741824 then some (.int (a / b)) else none := rfl
@[simp] theorem binD_mod_int {a b : Int} : binD .mod (.int a) (.int b) = if 0 < b then some (.int (a % b)) else none := rfl
@[simp] theorem binD_pow_int {a b : Int} : binD .pow (.int a) (.int b) = if 0 ≤ b ∧ b ≤ 1000000 ∧ a.natAbs < 2 ^ 64 then some (.int (a ^ b.toNat)) else none := rfl
@[simp] theorem binD_add_tup {a b : List D} : binD .add (.tup a) (.tup b) = if a.length + b.length ≤ lim then some (.tup (a ++ b)) else none := rfl
@[simp] theorem zipD_tup {xs ys : List D} : zipD [.tup xs, .tup ys] = some (List.zipWith (fun x y => .tup [x, y]) xs ys) := rfl
@[simp] theorem zipD_lst {xs ys : List D} : zipD [.lst xs, .lst ys] = some (List.zipWith (fun x y => .tup [x, y]) xs ys) := rfl
@[simp] theorem optCons_some {α : Type} {y : α} {ys : List α} : optCons (some y) ys = y :: ys := rfl
@[simp] theorem optCons_none {α : Type} {ys : List α} : optCons none ys = ys := rfl
theorem get_own {c : Cell} : (S ++ [c])[S.length]? = some c := by simp
@[simp] theorem deref_own {xs : List D} : deref (S ++ [.lst xs]) (.ptr S.length) = .lst xs := by simp [deref]
@[simp] theorem isLst_own {xs : List D} : isLst (S ++ [.lst xs]) (.ptr S.length) = true := by simp [isLst]
theorem appD_own {xs : List D} {d : D} (h : xs.length < lim) (hd : d.isPtr = false) : mtD .append (.ptr S.length) [d] (S ++ [.lst xs]) = some (.non, S ++ [.lst (xs ++ [d])]) := by
  simp only [mtD, appD, get_own, h, hd, decide_true, Bool.not_false, Bool.and_self, if_true]
  simp
/-! comparisons -/
@[simp] theorem cmpD_eq {a b : D} : cmpD .eq a b = (eqD a b).map .bl := rfl
@[simp] theorem cmpD_ne {a b : D} : cmpD .ne a b = ((eqD a b).map not).map .bl := rfl
@[simp] theorem cmpD_lt {a b : Int} : cmpD .lt (.int a) (.int b) = some (.bl (decide (a < b))) := rfl
@[simp] theorem cmpD_le {a b : Int} : cmpD .le (.int a) (.int b) = some (.bl (decide (a ≤ b))) := rfl
@[simp] theorem cmpD_gt {a b : Int} : cmpD .gt (.int a) (.int b) = some (.bl (decide (b < a))) := rfl
@[simp] theorem cmpD_ge {a b : Int} : cmpD .ge (.int a) (.int b) = some (.bl (decide (b ≤ a))) := rfl
@[simp] theorem cmpD_is_bl {a b : Bool} : cmpD .is_ (.bl a) (.bl b) = some (.bl (decide (a = b))) := rfl
@[simp] theorem cmpD_isnot_bl {a b : Bool} : cmpD .isnot (.bl a) (.bl b) = some (.bl (!decide (a = b))) := rfl
@[simp] theorem shal_str {n : Nat} {x : Str} : D.shal n (.str x) = true := by cases n <;> rfl
@[simp] theorem shal_int {n : Nat} {x : Int} : D.shal n (.int x) = true := by cases n <;> rfl
@[simp] theorem shal_bl {n : Nat} {x : Bool} : D.shal n (.bl x) = true := by cases n <;> rfl
@[simp] theorem shal_non {n : Nat} : D.shal n .non = true := by cases n <;> rfl
@[simp] theorem shal_tup {n : Nat} {xs : List D} : D.shal (n + 1) (.tup xs) = D.shals n xs := by simp only [D.shal]
@[simp] theorem shals_nil {n : Nat} : D.shals n [] = true := by simp only [D.shals]
@[simp] theorem shals_cons {n : Nat} {x : D} {xs : List D} : D.shals n (x :: xs) = (D.shal n x && D.shals n xs) := by simp only [D.shals]
/-- equality where one side is flat or shallow -/
theorem eqD_r {a b : D} (ha : a.isPtr = false) (hb : b.isPtr = false) (h : b.shal 60 = true) : eqD a b = some (a.eqv b) := by
  simp [eqD, near, ha, hb, h]
theorem eqD_l {a b : D} (ha : a.isPtr = false) (hb : b.isPtr = false) (h : a.shal 60 = true) : eqD a b = some (a.eqv b) := by
  simp [eqD, near, ha, hb, h]
@[simp] theorem eqD_str {x y : Str} : eqD (.str x) (.str y) = some (x == y) := by
  simp [eqD, near, D.eqv]
@[simp] theorem eqD_int {x y : Int} : eqD (.int x) (.int y) = some (x == y) := by
  simp [eqD, near, D.eqv]
@[simp] theorem eqD_bl {x y : Bool} : eqD (.bl x) (.bl y) = some (x == y) := by
  simp [eqD, near, D.eqv]
@[simp] theorem eqD_tt {xs ys : List D} (h : D.shals 59 ys = true) : eqD (.tup xs) (.tup ys) = some (D.eqvs xs ys) := by
  rw [eqD_r rfl rfl (by simp only [D.shal]; exact h)]; simp only [D.eqv]
@[simp] theorem eqvs_nil : D.eqvs [] [] = true := by simp only [D.eqvs]
@[simp] theorem eqvs_cons {x y : D} {xs ys : List D} : D.eqvs (x :: xs) (y :: ys) = (x.eqv y && D.eqvs xs ys) := by simp only [D.eqvs]
@[simp] theorem eqvs_cn {x : D} {xs : List D} : D.eqvs (x :: xs) [] = false := by simp only [D.eqvs]
@[simp] theorem eqvs_nc {x : D} {xs : List D} : D.eqvs [] (x :: xs) = false := by simp only [D.eqvs]
@[simp] theorem eqv_tup {xs ys : List D} : (D.tup xs).eqv (.tup ys) = D.eqvs xs ys := by simp only [D.eqv]
@[simp] theorem eqv_str {x y : Str} : (D.str x).eqv (.str y) = (x == y) := by simp only [D.eqv]
@[simp] theorem eqv_int {x y : Int} : (D.int x).eqv (.int y) = (x == y) := by simp only [D.eqv]
@[simp] theorem eqv_bl {x y : Bool} : (D.bl x).eqv (.bl y) = (x == y) := by simp only [D.eqv]
@[simp] theorem eqv_tup_str {xs : List D} {y : Str} : (D.tup xs).eqv (.str y) = false := by simp only [D.eqv]
@[simp] theorem eqv_str_tup {xs : List D} {y : Str} : (D.str y).eqv (.tup xs) = false := by simp only [D.eqv]
@[simp] theorem eqv_tup_non {xs : List D} : (D.tup xs).eqv .non = false := by simp only [D.eqv]
end
end PC

set_option Elab.async false
set_option linter.all false
set_option maxRecDepth 100000
set_option maxHeartbeats 4000000
/-! texts, the law's draws -/
namespace PC
open PySem PyProof.Rows L2
theorem char_toNat_inj {a b : Char} (h : a.toNat = b.toNat) : a = b := Char.ext (UInt32.toNat_inj.mp h)
theorem map_inj' : ∀ {x y : List Char}, x.map Char.toNat = y.map Char.toNat → x = y
  | [], [], _ => rfl
  | [], _ :: _, h => by simp at h
  | _ :: _, [], h => by simp at h
  | a :: x, b :: y, h => by
    simp only [List.map_cons, List.cons.injEq] at h
    rw [char_toNat_inj h.1, map_inj' h.2]
theorem ofString_inj {x y : String} : Str.ofString x = Str.ofString y ↔ x = y := by
  constructor
  · intro h
    rw [Str.ofString_eq_toList, Str.ofString_eq_toList] at h
    simp only [Str.mk.injEq] at h
    have e := congrArg Array.toList h
    simp only [List.toList_toArray] at e
    exact String.toList_inj.mp (map_inj' e)
  · intro h; rw [h]
@[simp] theorem ofString_beq {x y : String} : (Str.ofString x == Str.ofString y) = (x == y) := by
  by_cases h : x = y
  · subst h; simp
  · rw [beq_eq_false_iff_ne.mpr h, beq_eq_false_iff_ne.mpr (fun e => h (ofString_inj.mp e))]
@[simp] theorem ofString_dec {x y : String} : (decide (Str.ofString x = Str.ofString y)) = (decide (x = y)) := by simp only [ofString_inj]
@[simp] theorem ofString_eq' {x y : String} : (Str.ofString x = Str.ofString y) = (x = y) := by simp only [ofString_inj]
@[simp] theorem isi_tup_tuple {xs : List D} : isiD (.tup xs) "tuple" = some true := by show L2.kitB "tuple" "tuple" = _; decide +kernel
@[simp] theorem isi_tup_list {xs : List D} : isiD (.tup xs) "list" = some false := by show L2.kitB "tuple" "list" = _; decide +kernel
@[simp] theorem isi_tup_int {xs : List D} : isiD (.tup xs) "int" = some false := by show L2.kitB "tuple" "int" = _; decide +kernel
@[simp] theorem isi_tup_bool {xs : List D} : isiD (.tup xs) "bool" = some false := by show L2.kitB "tuple" "bool" = _; decide +kernel
@[simp] theorem isi_tup_str {xs : List D} : isiD (.tup xs) "str" = some false := by show L2.kitB "tuple" "str" = _; decide +kernel
@[simp] theorem isi_lst_tuple {xs : List D} : isiD (.lst xs) "tuple" = some false := by show L2.kitB "list" "tuple" = _; decide +kernel
@[simp] theorem isi_lst_list {xs : List D} : isiD (.lst xs) "list" = some true := by show L2.kitB "list" "list" = _; decide +kernel
@[simp] theorem isi_lst_int {xs : List D} : isiD (.lst xs) "int" = some false := by show L2.kitB "list" "int" = _; decide +kernel
@[simp] theorem isi_lst_bool {xs : List D} : isiD (.lst xs) "bool" = some false := by show L2.kitB "list" "bool" = _; decide +kernel
@[simp] theorem isi_lst_str {xs : List D} : isiD (.lst xs) "str" = some false := by show L2.kitB "list" "str" = _; decide +kernel
@[simp] theorem isi_int_tuple {i : Int} : isiD (.int i) "tuple" = some false := by show L2.kitB "int" "tuple" = _; decide +kernel
@[simp] theorem isi_int_list {i : Int} : isiD (.int i) "list" = some false := by show L2.kitB "int" "list" = _; decide +kernel
@[simp] theorem isi_int_int {i : Int} : isiD (.int i) "int" = some true := by show L2.kitB "int" "int" = _; decide +kernel
@[simp] theorem isi_int_bool {i : Int} : isiD (.int i) "bool" = some false := by show L2.kitB "int" "bool" = _; decide +kernel
@[simp] theorem isi_int_str {i : Int} : isiD (.int i) "str" = some false := by show L2.kitB "int" "str" = _; decide +kernel
@[simp] theorem isi_bl_tuple {b : Bool} : isiD (.bl b) "tuple" = some false := by show L2.kitB "bool" "tuple" = _; decide +kernel
@[simp] theorem isi_bl_list {b : Bool} : isiD (.bl b) "list" = some false := by show L2.kitB "bool" "list" = _; decide +kernel
@[simp] theorem isi_bl_int {b : Bool} : isiD (.bl b) "int" = some true := by show L2.kitB "bool" "int" = _; decide +kernel
@[simp] theorem isi_bl_bool {b : Bool} : isiD (.bl b) "bool" = some true := by show L2.kitB "bool" "bool" = _; decide +kernel
@[simp] theorem isi_bl_str {b : Bool} : isiD (.bl b) "str" = some false := by show L2.kitB "bool" "str" = _; decide +kernel
@[simp] theorem isi_str_tuple {s : Str} : isiD (.str s) "tuple" = some false := by show L2.kitB "str" "tuple" = _; decide +kernel
@[simp] theorem isi_str_list {s : Str} : isiD (.str s) "list" = some false := by show L2.kitB "str" "list" = _; decide +kernel
@[simp] theorem isi_str_int {s : Str} : isiD (.str s) "int" = some false := by show L2.kitB "str" "int" = _; decide +kernel
@[simp] theorem isi_str_bool {s : Str} : isiD (.str s) "bool" = some false := by show L2.kitB "str" "bool" = _; decide +kernel
@[simp] theorem isi_str_str {s : Str} : isiD (.str s) "str" = some true := by show L2.kitB "str" "str" = _; decide +kernel
@[simp] theorem isi_non_tuple  : isiD (.non) "tuple" = some false := by show L2.kitB "NoneType" "tuple" = _; decide +kernel
@[simp] theorem isi_non_list  : isiD (.non) "list" = some false := by show L2.kitB "NoneType" "list" = _; decide +kernel
@[simp] theorem isi_non_int  : isiD (.non) "int" = some false := by show L2.kitB "NoneType" "int" = _; decide +kernel
@[simp] theorem isi_non_bool  : isiD (.non) "bool" = some false := by show L2.kitB "NoneType" "bool" = _; decide +kernel
@[simp] theorem isi_non_str  : isiD (.non) "str" = some false := by show L2.kitB "NoneType" "str" = _; decide +kernel
@[simp] theorem rng_11 : rngD [.int 1, .int 1] = some [] := rfl
@[simp] theorem rng_12 : rngD [.int 1, .int 2] = some [.int 1] := rfl
@[simp] theorem rng_13 : rngD [.int 1, .int 3] = some [.int 1, .int 2] := rfl
theorem atI_get {α : Type} {xs : List α} {i : Nat} (h : i < xs.length) : L2.atI xs (i : Int) = some xs[i] := by
  have h1 : L2.ixN xs.length (i : Int) = some i := by
    unfold L2.ixN
    rw [if_pos (by omega), if_pos (by omega)]
    simp
  unfold L2.atI
  rw [h1]
  simp [h]
/-- data that is the same as itself by the law's look -/
inductive Gd : Nat → D → Prop
  | str {n : Nat} {s : Str} : Gd n (.str s)
  | int {n : Nat} {i : Int} : Gd n (.int i)
  | bl {n : Nat} {b : Bool} : Gd n (.bl b)
  | non {n : Nat} : Gd n .non
  | tup {n : Nat} {xs : List D} : xs.length ≤ 1000 → (∀ x ∈ xs, Gd n x) → Gd (n + 1) (.tup xs)
/-- the state of the draws -/
def drS (cells : List Int) (i : Nat) (big seed : Int) : Cell := .lst [.lst (cells.map D.int), .int i, .int big, .int seed]
/-- .. stands first, the things T behind it -/
def DW (T S : Store) : Prop := ∃ (cells : List Int) (i : Nat) (big seed : Int), S = drS cells i big seed :: T ∧ 0 ≤ big ∧ 0 ≤ seed ∧ seed < 2147483648
theorem DW.len {T S : Store} (h : DW T S) : S.length = T.length + 1 := by
  obtain ⟨_, _, _, _, rfl, _⟩ := h; rfl
theorem DW.take {T S S' : Store} (h : DW T S) (h' : DW T S') : DW T (S'.take S.length) := by
  rw [h.len, ← h'.len, List.take_length]; exact h'
end PC

set_option Elab.async false
set_option linter.all false
set_option maxRecDepth 100000
set_option maxHeartbeats 4000000
namespace PC
open PySem PyProof.Rows L2
theorem atI_cells {cells : List Int} {i : Nat} (h : i < cells.length) : ∃ c, L2.atI (cells.map D.int) (i : Int) = some (.int c) := by
  refine ⟨cells[i], ?_⟩
  have h1 : L2.ixN (cells.map D.int).length (i : Int) = some i := by
    unfold L2.ixN
    rw [List.length_map]
    rw [if_pos (by omega), if_pos (by omega)]
    simp
  unfold L2.atI
  rw [h1]
  simp [h]
def bDraw : CSs := (.cons (.if_ (.and_ (.cmp .eq (.ix (.var 0) (.con (.int 2))) (.con (.int 0))) (.last (.cmp .lt (.ix (.var 0) (.con (.int 1))) (.bi .len (.cons (.ix (.var 0) (.con (.int 0))) .nil))))) (.cons (.asg (.name 2) (.ix (.ix (.var 0) (.con (.int 0))) (.ix (.var 0) (.con (.int 1))))) (.cons (.setix (.var 0) (.con (.int 1)) (.bin .add (.ix (.var 0) (.con (.int 1))) (.con (.int 1)))) (.cons (.if_ (.cmp .ge (.var 2) (.bin .pow (.con (.int 10)) (.con (.int 18)))) (.cons (.setix (.var 0) (.con (.int 2)) (.var 2)) .nil) .nil) (.cons (.setix (.var 0) (.con (.int 3)) (.bin .mod (.bi .int (.cons (.bin .add (.bin .add (.bin .mul (.ix (.var 0) (.con (.int 3))) (.con (.int 48271))) (.var 2)) (.con (.int 13))) .nil)) (.con (.int 2147483647)))) .nil)))) .nil) (.cons (.if_ (.cmp .gt (.ix (.var 0) (.con (.int 2))) (.con (.int 0))) (.cons (.asg (.name 3) (.bin .mod (.bi .int (.cons (.ix (.var 0) (.con (.int 2))) .nil)) (.var 1))) (.cons (.setix (.var 0) (.con (.int 2)) (.bin .fdiv (.ix (.var 0) (.con (.int 2))) (.var 1))) (.cons (.ret (.var 3)) .nil))) .nil) (.cons (.setix (.var 0) (.con (.int 3)) (.bin .mod (.bi .int (.cons (.bin .add (.bin .mul (.ix (.var 0) (.con (.int 3))) (.con (.int 69621))) (.con (.int 7))) .nil)) (.con (.int 2147483629)))) (.cons (.ret (.bin .mod (.bi .int (.cons (.bin .fdiv (.ix (.var 0) (.con (.int 3))) (.con (.int 11))) .nil)) (.var 1))) .nil))))
def fdDraw : Fd := ⟨2, 4, bDraw⟩
theorem draw_any {prog : Prog} {f : Nat} (hf : prog.fs[f]? = some fdDraw) {k : Nat} {lim' : Int} {T S : Store} {Q : D → Store → Prop} (hd : DW T S) (h1 : 0 < lim') (h2 : lim' < 1073741824) (q : ∀ (v : Int) S', 0 ≤ v → v < lim' → DW T S' → Q (.int v) S') : W (callK prog (k + 1) f [.ptr 0, .int lim'] S) Q := by
  obtain ⟨cells, i, big, seed, rfl, hb, hs1, hs2⟩ := hd
  refine W.fn (fd := fdDraw) hf rfl ?_
  show W (evSs prog (callK prog k) bDraw [some (.ptr 0), some (.int lim'), none, none] _) _
  unfold bDraw
  refine W.scons (W.mono (Q' := fun fl S' => ∃ x cells i big seed, fl = .nx [some (.ptr 0), some (.int lim'), x, none] ∧ S' = drS cells i big seed :: T ∧ 0 ≤ big ∧ 0 ≤ seed ∧ seed < 2147483648) ?_ ?_)
  · repeat (first
      | refine Go.go ?_
      | (refine Fin.data ?_ ?_; focus (simp [deref, drS]; done))
      | (refine fun r (hr : _ = r) => ?_; (try simp [deref, drS] at hr); subst hr; first | refine OQ.is ?_ | refine W.ret ?_ | skip)
      | refine Exists.intro _ (And.intro rfl ?_)
      | (refine And.intro (a := noPtr _ = true) ?_ ?_; focus (simp [deref, drS]; done))
      | (refine And.intro (a := D.isPtr _ = false) ?_ ?_; focus (simp [deref, drS]; done))
      | refine Exists.intro _ (And.intro (Or.inl rfl) ?_)
      | refine Exists.intro _ (And.intro (Or.inr rfl) ?_)
      | (refine And.intro (a := isLst _ _ = true) ?_ ?_; focus (simp [deref, drS]; done))
      | (refine And.intro (a := isDct _ _ = true) ?_ ?_; focus (simp [deref, drS]; done))
      | (refine And.intro (a := List.length _ ≤ 15) ?_ ?_; focus (first | exact Nat.le_of_ble_eq_true rfl | (simp [deref, drS]; done)))
      | (refine And.intro (a := List.length _ ≤ lim) ?_ ?_; focus (first | exact Nat.le_of_ble_eq_true rfl | (simp [deref, drS]; done)))
      | refine W.turn ?_
      | (refine IfB.i (fun _ => ?_) (fun (e : _ = false) => False.elim ?_); rotate_left; focus (simp [deref, drS] at e; done))
      | (refine IfB.i (fun (e : _ = true) => False.elim ?_) (fun _ => ?_); focus (simp [deref, drS] at e; done))
      | refine And.intro (fun _ => ?_) (fun (z : true = false) => nomatch z)
      | refine And.intro (fun (z : false = true) => nomatch z) (fun _ => ?_)
      )
    refine IfB.i (fun e => ?_) (fun e => ?_)
    · repeat (first
        | refine Go.go ?_
        | (refine Fin.data ?_ ?_; focus (simp [deref, drS]; done))
        | (refine fun r (hr : _ = r) => ?_; (try simp [deref, drS] at hr); subst hr; first | refine OQ.is ?_ | refine W.ret ?_ | skip)
        | refine Exists.intro _ (And.intro rfl ?_)
        | (refine And.intro (a := noPtr _ = true) ?_ ?_; focus (simp [deref, drS]; done))
        | (refine And.intro (a := D.isPtr _ = false) ?_ ?_; focus (simp [deref, drS]; done))
        | refine Exists.intro _ (And.intro (Or.inl rfl) ?_)
        | refine Exists.intro _ (And.intro (Or.inr rfl) ?_)
        | (refine And.intro (a := isLst _ _ = true) ?_ ?_; focus (simp [deref, drS]; done))
        | (refine And.intro (a := isDct _ _ = true) ?_ ?_; focus (simp [deref, drS]; done))
        | (refine And.intro (a := List.length _ ≤ 15) ?_ ?_; focus (first | exact Nat.le_of_ble_eq_true rfl | (simp [deref, drS]; done)))
        | (refine And.intro (a := List.length _ ≤ lim) ?_ ?_; focus (first | exact Nat.le_of_ble_eq_true rfl | (simp [deref, drS]; done)))
        | refine W.turn ?_
        | (refine IfB.i (fun _ => ?_) (fun (e : _ = false) => False.elim ?_); rotate_left; focus (simp [deref, drS] at e; done))
        | (refine IfB.i (fun (e : _ = true) => False.elim ?_) (fun _ => ?_); focus (simp [deref, drS] at e; done))
        | refine And.intro (fun _ => ?_) (fun (z : true = false) => nomatch z)
        | refine And.intro (fun (z : false = true) => nomatch z) (fun _ => ?_)
        )
      refine IfB.i (fun e2 => ?_) (fun e2 => ?_)
      · obtain ⟨c, hc⟩ := atI_cells (cells := cells) (i := i) (by simpa using e2)
        repeat (first
          | refine Go.go ?_
          | (refine Fin.data ?_ ?_; focus (simp [deref, drS, setixD, L2.ixN, hc, binD_mul_int]; done))
          | (refine fun r (hr : _ = r) => ?_; (try simp [deref, drS, setixD, L2.ixN, hc, binD_mul_int] at hr); subst hr; first | refine OQ.is ?_ | refine W.ret ?_ | skip)
          | refine Exists.intro _ (And.intro rfl ?_)
          | (refine And.intro (a := noPtr _ = true) ?_ ?_; focus (simp [deref, drS, setixD, L2.ixN, hc, binD_mul_int]; done))
          | (refine And.intro (a := D.isPtr _ = false) ?_ ?_; focus (simp [deref, drS, setixD, L2.ixN, hc, binD_mul_int]; done))
          | refine Exists.intro _ (And.intro (Or.inl rfl) ?_)
          | refine Exists.intro _ (And.intro (Or.inr rfl) ?_)
          | (refine And.intro (a := isLst _ _ = true) ?_ ?_; focus (simp [deref, drS, setixD, L2.ixN, hc, binD_mul_int]; done))
          | (refine And.intro (a := isDct _ _ = true) ?_ ?_; focus (simp [deref, drS, setixD, L2.ixN, hc, binD_mul_int]; done))
          | (refine And.intro (a := List.length _ ≤ 15) ?_ ?_; focus (first | exact Nat.le_of_ble_eq_true rfl | (simp [deref, drS, setixD, L2.ixN, hc, binD_mul_int]; done)))
          | (refine And.intro (a := List.length _ ≤ lim) ?_ ?_; focus (first | exact Nat.le_of_ble_eq_true rfl | (simp [deref, drS, setixD, L2.ixN, hc, binD_mul_int]; done)))
          | refine W.turn ?_
          | (refine IfB.i (fun _ => ?_) (fun (e : _ = false) => False.elim ?_); rotate_left; focus (simp [deref, drS, setixD, L2.ixN, hc, binD_mul_int] at e; done))
          | (refine IfB.i (fun (e : _ = true) => False.elim ?_) (fun _ => ?_); focus (simp [deref, drS, setixD, L2.ixN, hc, binD_mul_int] at e; done))
          | refine And.intro (fun _ => ?_) (fun (z : true = false) => nomatch z)
          | refine And.intro (fun (z : false = true) => nomatch z) (fun _ => ?_)
          )
        refine IfB.i (fun e3 => ?_) (fun e3 => ?_)
        · repeat (first
            | refine Go.go ?_
            | (refine Fin.data ?_ ?_; focus (simp [deref, drS, setixD, L2.ixN, hc, binD_mul_int]; done))
            | (refine fun r (hr : _ = r) => ?_; (try simp [deref, drS, setixD, L2.ixN, hc, binD_mul_int] at hr); subst hr; first | refine OQ.is ?_ | refine W.ret ?_ | skip)
            | refine Exists.intro _ (And.intro rfl ?_)
            | (refine And.intro (a := noPtr _ = true) ?_ ?_; focus (simp [deref, drS, setixD, L2.ixN, hc, binD_mul_int]; done))
            | (refine And.intro (a := D.isPtr _ = false) ?_ ?_; focus (simp [deref, drS, setixD, L2.ixN, hc, binD_mul_int]; done))
            | refine Exists.intro _ (And.intro (Or.inl rfl) ?_)
            | refine Exists.intro _ (And.intro (Or.inr rfl) ?_)
            | (refine And.intro (a := isLst _ _ = true) ?_ ?_; focus (simp [deref, drS, setixD, L2.ixN, hc, binD_mul_int]; done))
            | (refine And.intro (a := isDct _ _ = true) ?_ ?_; focus (simp [deref, drS, setixD, L2.ixN, hc, binD_mul_int]; done))
            | (refine And.intro (a := List.length _ ≤ 15) ?_ ?_; focus (first | exact Nat.le_of_ble_eq_true rfl | (simp [deref, drS, setixD, L2.ixN, hc, binD_mul_int]; done)))
            | (refine And.intro (a := List.length _ ≤ lim) ?_ ?_; focus (first | exact Nat.le_of_ble_eq_true rfl | (simp [deref, drS, setixD, L2.ixN, hc, binD_mul_int]; done)))
            | refine W.turn ?_
            | (refine IfB.i (fun _ => ?_) (fun (e : _ = false) => False.elim ?_); rotate_left; focus (simp [deref, drS, setixD, L2.ixN, hc, binD_mul_int] at e; done))
            | (refine IfB.i (fun (e : _ = true) => False.elim ?_) (fun _ => ?_); focus (simp [deref, drS, setixD, L2.ixN, hc, binD_mul_int] at e; done))
            | refine And.intro (fun _ => ?_) (fun (z : true = false) => nomatch z)
            | refine And.intro (fun (z : false = true) => nomatch z) (fun _ => ?_)
            )
          refine ⟨some (.int c), cells, i + 1, c, (seed * 48271 + c + 13) % 2147483647, rfl, by simp [drS], ?_, Int.emod_nonneg _ (by decide), Int.lt_of_lt_of_le (Int.emod_lt_of_pos _ (by decide)) (by decide)⟩
          simp at e3; omega
        · repeat (first
            | refine Go.go ?_
            | (refine Fin.data ?_ ?_; focus (simp [deref, drS, setixD, L2.ixN, hc, binD_mul_int]; done))
            | (refine fun r (hr : _ = r) => ?_; (try simp [deref, drS, setixD, L2.ixN, hc, binD_mul_int] at hr); subst hr; first | refine OQ.is ?_ | refine W.ret ?_ | skip)
            | refine Exists.intro _ (And.intro rfl ?_)
            | (refine And.intro (a := noPtr _ = true) ?_ ?_; focus (simp [deref, drS, setixD, L2.ixN, hc, binD_mul_int]; done))
            | (refine And.intro (a := D.isPtr _ = false) ?_ ?_; focus (simp [deref, drS, setixD, L2.ixN, hc, binD_mul_int]; done))
            | refine Exists.intro _ (And.intro (Or.inl rfl) ?_)
            | refine Exists.intro _ (And.intro (Or.inr rfl) ?_)
            | (refine And.intro (a := isLst _ _ = true) ?_ ?_; focus (simp [deref, drS, setixD, L2.ixN, hc, binD_mul_int]; done))
            | (refine And.intro (a := isDct _ _ = true) ?_ ?_; focus (simp [deref, drS, setixD, L2.ixN, hc, binD_mul_int]; done))
            | (refine And.intro (a := List.length _ ≤ 15) ?_ ?_; focus (first | exact Nat.le_of_ble_eq_true rfl | (simp [deref, drS, setixD, L2.ixN, hc, binD_mul_int]; done)))
            | (refine And.intro (a := List.length _ ≤ lim) ?_ ?_; focus (first | exact Nat.le_of_ble_eq_true rfl | (simp [deref, drS, setixD, L2.ixN, hc, binD_mul_int]; done)))
            | refine W.turn ?_
            | (refine IfB.i (fun _ => ?_) (fun (e : _ = false) => False.elim ?_); rotate_left; focus (simp [deref, drS, setixD, L2.ixN, hc, binD_mul_int] at e; done))
            | (refine IfB.i (fun (e : _ = true) => False.elim ?_) (fun _ => ?_); focus (simp [deref, drS, setixD, L2.ixN, hc, binD_mul_int] at e; done))
            | refine And.intro (fun _ => ?_) (fun (z : true = false) => nomatch z)
            | refine And.intro (fun (z : false = true) => nomatch z) (fun _ => ?_)
            )
          refine ⟨some (.int c), cells, i + 1, big, (seed * 48271 + c + 13) % 2147483647, rfl, by simp [drS], hb, Int.emod_nonneg _ (by decide), Int.lt_of_lt_of_le (Int.emod_lt_of_pos _ (by decide)) (by decide)⟩
      · repeat (first
          | refine Go.go ?_
          | (refine Fin.data ?_ ?_; focus (simp [deref, drS]; done))
          | (refine fun r (hr : _ = r) => ?_; (try simp [deref, drS] at hr); subst hr; first | refine OQ.is ?_ | refine W.ret ?_ | skip)
          | refine Exists.intro _ (And.intro rfl ?_)
          | (refine And.intro (a := noPtr _ = true) ?_ ?_; focus (simp [deref, drS]; done))
          | (refine And.intro (a := D.isPtr _ = false) ?_ ?_; focus (simp [deref, drS]; done))
          | refine Exists.intro _ (And.intro (Or.inl rfl) ?_)
          | refine Exists.intro _ (And.intro (Or.inr rfl) ?_)
          | (refine And.intro (a := isLst _ _ = true) ?_ ?_; focus (simp [deref, drS]; done))
          | (refine And.intro (a := isDct _ _ = true) ?_ ?_; focus (simp [deref, drS]; done))
          | (refine And.intro (a := List.length _ ≤ 15) ?_ ?_; focus (first | exact Nat.le_of_ble_eq_true rfl | (simp [deref, drS]; done)))
          | (refine And.intro (a := List.length _ ≤ lim) ?_ ?_; focus (first | exact Nat.le_of_ble_eq_true rfl | (simp [deref, drS]; done)))
          | refine W.turn ?_
          | (refine IfB.i (fun _ => ?_) (fun (e : _ = false) => False.elim ?_); rotate_left; focus (simp [deref, drS] at e; done))
          | (refine IfB.i (fun (e : _ = true) => False.elim ?_) (fun _ => ?_); focus (simp [deref, drS] at e; done))
          | refine And.intro (fun _ => ?_) (fun (z : true = false) => nomatch z)
          | refine And.intro (fun (z : false = true) => nomatch z) (fun _ => ?_)
          )
        exact ⟨none, cells, i, big, seed, rfl, rfl, hb, hs1, hs2⟩
    · repeat (first
        | refine Go.go ?_
        | (refine Fin.data ?_ ?_; focus (simp [deref, drS]; done))
        | (refine fun r (hr : _ = r) => ?_; (try simp [deref, drS] at hr); subst hr; first | refine OQ.is ?_ | refine W.ret ?_ | skip)
        | refine Exists.intro _ (And.intro rfl ?_)
        | (refine And.intro (a := noPtr _ = true) ?_ ?_; focus (simp [deref, drS]; done))
        | (refine And.intro (a := D.isPtr _ = false) ?_ ?_; focus (simp [deref, drS]; done))
        | refine Exists.intro _ (And.intro (Or.inl rfl) ?_)
        | refine Exists.intro _ (And.intro (Or.inr rfl) ?_)
        | (refine And.intro (a := isLst _ _ = true) ?_ ?_; focus (simp [deref, drS]; done))
        | (refine And.intro (a := isDct _ _ = true) ?_ ?_; focus (simp [deref, drS]; done))
        | (refine And.intro (a := List.length _ ≤ 15) ?_ ?_; focus (first | exact Nat.le_of_ble_eq_true rfl | (simp [deref, drS]; done)))
        | (refine And.intro (a := List.length _ ≤ lim) ?_ ?_; focus (first | exact Nat.le_of_ble_eq_true rfl | (simp [deref, drS]; done)))
        | refine W.turn ?_
        | (refine IfB.i (fun _ => ?_) (fun (e : _ = false) => False.elim ?_); rotate_left; focus (simp [deref, drS] at e; done))
        | (refine IfB.i (fun (e : _ = true) => False.elim ?_) (fun _ => ?_); focus (simp [deref, drS] at e; done))
        | refine And.intro (fun _ => ?_) (fun (z : true = false) => nomatch z)
        | refine And.intro (fun (z : false = true) => nomatch z) (fun _ => ?_)
        )
      exact ⟨none, cells, i, big, seed, rfl, rfl, hb, hs1, hs2⟩
  · rintro fl S' ⟨x, cells, i, big, seed, rfl, rfl, hb, hs1, hs2⟩
    repeat (first
      | refine Go.go ?_
      | (refine Fin.data ?_ ?_; focus (simp [deref, drS]; done))
      | (refine fun r (hr : _ = r) => ?_; (try simp [deref, drS] at hr); subst hr; first | refine OQ.is ?_ | refine W.ret ?_ | skip)
      | refine Exists.intro _ (And.intro rfl ?_)
      | (refine And.intro (a := noPtr _ = true) ?_ ?_; focus (simp [deref, drS]; done))
      | (refine And.intro (a := D.isPtr _ = false) ?_ ?_; focus (simp [deref, drS]; done))
      | refine Exists.intro _ (And.intro (Or.inl rfl) ?_)
      | refine Exists.intro _ (And.intro (Or.inr rfl) ?_)
      | (refine And.intro (a := isLst _ _ = true) ?_ ?_; focus (simp [deref, drS]; done))
      | (refine And.intro (a := isDct _ _ = true) ?_ ?_; focus (simp [deref, drS]; done))
      | (refine And.intro (a := List.length _ ≤ 15) ?_ ?_; focus (first | exact Nat.le_of_ble_eq_true rfl | (simp [deref, drS]; done)))
      | (refine And.intro (a := List.length _ ≤ lim) ?_ ?_; focus (first | exact Nat.le_of_ble_eq_true rfl | (simp [deref, drS]; done)))
      | refine W.turn ?_
      | (refine IfB.i (fun _ => ?_) (fun (e : _ = false) => False.elim ?_); rotate_left; focus (simp [deref, drS] at e; done))
      | (refine IfB.i (fun (e : _ = true) => False.elim ?_) (fun _ => ?_); focus (simp [deref, drS] at e; done))
      | refine And.intro (fun _ => ?_) (fun (z : true = false) => nomatch z)
      | refine And.intro (fun (z : false = true) => nomatch z) (fun _ => ?_)
      )
    refine IfB.i (fun e => ?_) (fun e => ?_)
    · repeat (first
        | refine Go.go ?_
        | (refine Fin.data ?_ ?_; focus (simp [deref, drS, setixD, L2.ixN, h1, h2]; done))
        | (refine fun r (hr : _ = r) => ?_; (try simp [deref, drS, setixD, L2.ixN, h1, h2] at hr); subst hr; first | refine OQ.is ?_ | refine W.ret ?_ | skip)
        | refine Exists.intro _ (And.intro rfl ?_)
        | (refine And.intro (a := noPtr _ = true) ?_ ?_; focus (simp [deref, drS, setixD, L2.ixN, h1, h2]; done))
        | (refine And.intro (a := D.isPtr _ = false) ?_ ?_; focus (simp [deref, drS, setixD, L2.ixN, h1, h2]; done))
        | refine Exists.intro _ (And.intro (Or.inl rfl) ?_)
        | refine Exists.intro _ (And.intro (Or.inr rfl) ?_)
        | (refine And.intro (a := isLst _ _ = true) ?_ ?_; focus (simp [deref, drS, setixD, L2.ixN, h1, h2]; done))
        | (refine And.intro (a := isDct _ _ = true) ?_ ?_; focus (simp [deref, drS, setixD, L2.ixN, h1, h2]; done))
        | (refine And.intro (a := List.length _ ≤ 15) ?_ ?_; focus (first | exact Nat.le_of_ble_eq_true rfl | (simp [deref, drS, setixD, L2.ixN, h1, h2]; done)))
        | (refine And.intro (a := List.length _ ≤ lim) ?_ ?_; focus (first | exact Nat.le_of_ble_eq_true rfl | (simp [deref, drS, setixD, L2.ixN, h1, h2]; done)))
        | refine W.turn ?_
        | (refine IfB.i (fun _ => ?_) (fun (e : _ = false) => False.elim ?_); rotate_left; focus (simp [deref, drS, setixD, L2.ixN, h1, h2] at e; done))
        | (refine IfB.i (fun (e : _ = true) => False.elim ?_) (fun _ => ?_); focus (simp [deref, drS, setixD, L2.ixN, h1, h2] at e; done))
        | refine And.intro (fun _ => ?_) (fun (z : true = false) => nomatch z)
        | refine And.intro (fun (z : false = true) => nomatch z) (fun _ => ?_)
        )
      refine q _ _ (Int.emod_nonneg _ (by omega)) (Int.emod_lt_of_pos _ h1) ⟨cells, i, big / lim', seed, by simp [drS], Int.ediv_nonneg hb (by omega), hs1, hs2⟩
    · repeat (first
        | refine Go.go ?_
        | (refine Fin.data ?_ ?_; focus (simp [deref, drS, setixD, L2.ixN, h1, h2, binD_mul_int]; done))
        | (refine fun r (hr : _ = r) => ?_; (try simp [deref, drS, setixD, L2.ixN, h1, h2, binD_mul_int] at hr); subst hr; first | refine OQ.is ?_ | refine W.ret ?_ | skip)
        | refine Exists.intro _ (And.intro rfl ?_)
        | (refine And.intro (a := noPtr _ = true) ?_ ?_; focus (simp [deref, drS, setixD, L2.ixN, h1, h2, binD_mul_int]; done))
        | (refine And.intro (a := D.isPtr _ = false) ?_ ?_; focus (simp [deref, drS, setixD, L2.ixN, h1, h2, binD_mul_int]; done))
        | refine Exists.intro _ (And.intro (Or.inl rfl) ?_)
        | refine Exists.intro _ (And.intro (Or.inr rfl) ?_)
        | (refine And.intro (a := isLst _ _ = true) ?_ ?_; focus (simp [deref, drS, setixD, L2.ixN, h1, h2, binD_mul_int]; done))
        | (refine And.intro (a := isDct _ _ = true) ?_ ?_; focus (simp [deref, drS, setixD, L2.ixN, h1, h2, binD_mul_int]; done))
        | (refine And.intro (a := List.length _ ≤ 15) ?_ ?_; focus (first | exact Nat.le_of_ble_eq_true rfl | (simp [deref, drS, setixD, L2.ixN, h1, h2, binD_mul_int]; done)))
        | (refine And.intro (a := List.length _ ≤ lim) ?_ ?_; focus (first | exact Nat.le_of_ble_eq_true rfl | (simp [deref, drS, setixD, L2.ixN, h1, h2, binD_mul_int]; done)))
        | refine W.turn ?_
        | (refine IfB.i (fun _ => ?_) (fun (e : _ = false) => False.elim ?_); rotate_left; focus (simp [deref, drS, setixD, L2.ixN, h1, h2, binD_mul_int] at e; done))
        | (refine IfB.i (fun (e : _ = true) => False.elim ?_) (fun _ => ?_); focus (simp [deref, drS, setixD, L2.ixN, h1, h2, binD_mul_int] at e; done))
        | refine And.intro (fun _ => ?_) (fun (z : true = false) => nomatch z)
        | refine And.intro (fun (z : false = true) => nomatch z) (fun _ => ?_)
        )
      refine q _ _ (Int.emod_nonneg _ (by omega)) (Int.emod_lt_of_pos _ h1) ⟨cells, i, big, (seed * 69621 + 7) % 2147483629, by simp [drS], hb, Int.emod_nonneg _ (by decide), Int.lt_of_lt_of_le (Int.emod_lt_of_pos _ (by decide)) (by decide)⟩
end PC

set_option Elab.async false
set_option linter.all false
set_option maxRecDepth 1000000
set_option maxHeartbeats 8000000
namespace PC
open PySem PySem.Spec PyProof.Rows L2
/-! the small program, printed by gen.py -/
def top (i : Nat) : PySem.Stmt := PySem.Challenge.pw_blamekeep_k40_whole_triples_in_any_order.main.body.getD i (.Pass ⟨0, 0, 0, 0⟩)
def b_meet : CSs := (.cons (.if_ (.or_ (.cmp .eq (.var 0) (.glob 0)) (.last (.cmp .eq (.var 1) (.glob 0)))) (.cons (.ret (.ifx (.cmp .eq (.var 0) (.glob 0)) (.var 1) (.var 0))) .nil) .nil) (.cons (.if_ (.cmp .ne (.ix (.var 0) (.con (.int 0))) (.ix (.var 1) (.con (.int 0)))) (.cons (.ret (.con .non)) .nil) .nil) (.cons (.asg (.name 2) (.lc (.call 0 (.cons (.var 3) (.cons (.var 4) .nil))) (.tup (.cons (.name 3) (.cons (.name 4) .nil))) (.zip (.cons (.sl (.var 0) (.cons (.con (.int 1)) .nil) .nil) (.cons (.sl (.var 1) (.cons (.con (.int 1)) .nil) .nil) .nil))) .nil [3, 4])) (.cons (.ret (.ifx (.cmp .in_ (.con .non) (.var 2)) (.con .non) (.bin .add (.tup (.cons (.ix (.var 0) (.con (.int 0))) .nil)) (.bi .tuple (.cons (.var 2) .nil))))) .nil))))
def f_meet : Fd := ⟨2, 5, b_meet⟩
def d_meet : DI := ⟨"meet", ["one", "two", "parts", "first", "other"], 2, defArgs (top 2), defBody (top 2), defScope (top 2)⟩
def b_middle_meet : CSs := (.cons (.if_ (.or_ (.cmp .eq (.var 0) (.glob 0)) (.last (.cmp .eq (.var 1) (.glob 0)))) (.cons (.ret (.ifx (.cmp .eq (.var 0) (.glob 0)) (.var 1) (.var 0))) .nil) .nil) (.cons (.if_ (.or_ (.cmp .eq (.var 0) (.glob 1)) (.or_ (.cmp .eq (.var 1) (.glob 1)) (.last (.cmp .ne (.ix (.var 0) (.con (.int 0))) (.ix (.var 1) (.con (.int 0))))))) (.cons (.ret (.glob 1)) .nil) .nil) (.cons (.asg (.name 2) (.lc (.call 1 (.cons (.var 3) (.cons (.var 4) .nil))) (.tup (.cons (.name 3) (.cons (.name 4) .nil))) (.zip (.cons (.sl (.var 0) (.cons (.con (.int 1)) .nil) .nil) (.cons (.sl (.var 1) (.cons (.con (.int 1)) .nil) .nil) .nil))) .nil [3, 4])) (.cons (.if_ (.and_ (.cmp .eq (.ix (.var 0) (.con (.int 0))) (.con (.str "pair"))) (.last (.cmp .in_ (.glob 1) (.var 2)))) (.cons (.ret (.glob 1)) .nil) .nil) (.cons (.ret (.bin .add (.tup (.cons (.ix (.var 0) (.con (.int 0))) .nil)) (.bi .tuple (.cons (.var 2) .nil)))) .nil)))))
def f_middle_meet : Fd := ⟨2, 5, b_middle_meet⟩
def d_middle_meet : DI := ⟨"middle_meet", ["one", "two", "parts", "first", "other"], 2, defArgs (top 5), defBody (top 5), defScope (top 5)⟩
def b_triple : CSs := (.cons (.ret (.tup (.cons (.var 0) (.cons (.call 0 (.cons (.var 0) (.cons (.var 1) .nil))) (.cons (.var 1) .nil))))) .nil)
def f_triple : Fd := ⟨2, 2, b_triple⟩
def d_triple : DI := ⟨"triple", ["kind", "due"], 2, defArgs (top 6), defBody (top 6), defScope (top 6)⟩
def b_joined : CSs := (.cons (.ret (.tup (.cons (.ix (.var 0) (.con (.int 0))) (.cons (.call 1 (.cons (.ix (.var 0) (.con (.int 1))) (.cons (.ix (.var 1) (.con (.int 1))) .nil))) (.cons (.ix (.var 1) (.con (.int 2))) .nil))))) .nil)
def f_joined : Fd := ⟨2, 2, b_joined⟩
def d_joined : DI := ⟨"joined", ["first", "other"], 2, defArgs (top 7), defBody (top 7), defScope (top 7)⟩
def b_joined_all : CSs := (.cons (.asg (.name 1) (.call 2 (.cons (.ix (.var 0) (.con (.int 0))) (.cons (.ix (.var 0) (.con (.int 0))) .nil)))) (.cons (.for_ (.tup (.cons (.name 2) (.cons (.name 3) .nil))) (.zip (.cons (.var 0) (.cons (.sl (.var 0) (.cons (.con (.int 1)) .nil) .nil) .nil))) (.cons (.asg (.name 1) (.call 3 (.cons (.var 1) (.cons (.call 2 (.cons (.var 2) (.cons (.var 3) .nil))) .nil)))) .nil)) (.cons (.ret (.var 1)) .nil)))
def f_joined_all : Fd := ⟨1, 4, b_joined_all⟩
def d_joined_all : DI := ⟨"joined_all", ["kinds", "found", "one", "two"], 1, defArgs (top 8), defBody (top 8), defScope (top 8)⟩
def b_tells : CSs := (.cons (.if_ (.or_ (.cmp .eq (.var 0) (.glob 1)) (.last (.cmp .eq (.var 1) (.glob 0)))) (.cons (.ret (.con (.bl true))) .nil) .nil) (.cons (.if_ (.cmp .ne (.ix (.var 0) (.con (.int 0))) (.ix (.var 1) (.con (.int 0)))) (.cons (.ret (.con (.bl false))) .nil) .nil) (.cons (.ret (.bi .all (.cons (.lc (.call 5 (.cons (.var 2) (.cons (.var 3) .nil))) (.tup (.cons (.name 2) (.cons (.name 3) .nil))) (.zip (.cons (.sl (.var 0) (.cons (.con (.int 1)) .nil) .nil) (.cons (.sl (.var 1) (.cons (.con (.int 1)) .nil) .nil) .nil))) .nil [2, 3]) .nil))) .nil)))
def f_tells : Fd := ⟨2, 4, b_tells⟩
def d_tells : DI := ⟨"tells", ["middle", "kind", "first", "other"], 2, defArgs (top 9), defBody (top 9), defScope (top 9)⟩
def b_goes : CSs := (.cons (.if_ (.cmp .eq (.var 1) (.glob 0)) (.cons (.ret (.con (.bl true))) .nil) .nil) (.cons (.if_ (.or_ (.cmp .eq (.var 1) (.glob 1)) (.last (.cmp .ne (.ix (.var 0) (.con (.int 0))) (.get2 (.dic false (.cons (.con (.str "list")) (.cons (.con (.str "items")) .nil))) (.ix (.var 1) (.con (.int 0))) (.ix (.var 1) (.con (.int 0))))))) (.cons (.ret (.con (.bl false))) .nil) .nil) (.cons (.if_ (.cmp .eq (.ix (.var 0) (.con (.int 0))) (.con (.str "pair"))) (.cons (.ret (.and_ (.call 6 (.cons (.ix (.var 0) (.con (.int 1))) (.cons (.ix (.var 1) (.con (.int 1))) .nil))) (.last (.call 6 (.cons (.ix (.var 0) (.con (.int 2))) (.cons (.ix (.var 1) (.con (.int 2))) .nil)))))) .nil) .nil) (.cons (.if_ (.cmp .eq (.ix (.var 0) (.con (.int 0))) (.con (.str "items"))) (.cons (.ret (.bi .all (.cons (.lc (.call 6 (.cons (.var 2) (.cons (.ix (.var 1) (.con (.int 1))) .nil))) (.name 2) (.seq (.ix (.var 0) (.con (.int 1)))) .nil [2]) .nil))) .nil) .nil) (.cons (.ret (.con (.bl true))) .nil)))))
def f_goes : Fd := ⟨2, 3, b_goes⟩
def d_goes : DI := ⟨"goes", ["value", "middle", "item"], 2, defArgs (top 10), defBody (top 10), defScope (top 10)⟩
def b__law_draws : CSs := (.cons (.ret (.lst true (.cons (.bi .list (.cons (.var 0) .nil)) (.cons (.con (.int 0)) (.cons (.con (.int 0)) (.cons (.con (.int 1)) .nil)))))) .nil)
def f__law_draws : Fd := ⟨1, 1, b__law_draws⟩
def d__law_draws : DI := ⟨"_law_draws", ["script"], 1, defArgs (top 12), defBody (top 12), defScope (top 12)⟩
def b__law_draw : CSs := (.cons (.if_ (.and_ (.cmp .eq (.ix (.var 0) (.con (.int 2))) (.con (.int 0))) (.last (.cmp .lt (.ix (.var 0) (.con (.int 1))) (.bi .len (.cons (.ix (.var 0) (.con (.int 0))) .nil))))) (.cons (.asg (.name 2) (.ix (.ix (.var 0) (.con (.int 0))) (.ix (.var 0) (.con (.int 1))))) (.cons (.setix (.var 0) (.con (.int 1)) (.bin .add (.ix (.var 0) (.con (.int 1))) (.con (.int 1)))) (.cons (.if_ (.cmp .ge (.var 2) (.bin .pow (.con (.int 10)) (.con (.int 18)))) (.cons (.setix (.var 0) (.con (.int 2)) (.var 2)) .nil) .nil) (.cons (.setix (.var 0) (.con (.int 3)) (.bin .mod (.bi .int (.cons (.bin .add (.bin .add (.bin .mul (.ix (.var 0) (.con (.int 3))) (.con (.int 48271))) (.var 2)) (.con (.int 13))) .nil)) (.con (.int 2147483647)))) .nil)))) .nil) (.cons (.if_ (.cmp .gt (.ix (.var 0) (.con (.int 2))) (.con (.int 0))) (.cons (.asg (.name 3) (.bin .mod (.bi .int (.cons (.ix (.var 0) (.con (.int 2))) .nil)) (.var 1))) (.cons (.setix (.var 0) (.con (.int 2)) (.bin .fdiv (.ix (.var 0) (.con (.int 2))) (.var 1))) (.cons (.ret (.var 3)) .nil))) .nil) (.cons (.setix (.var 0) (.con (.int 3)) (.bin .mod (.bi .int (.cons (.bin .add (.bin .mul (.ix (.var 0) (.con (.int 3))) (.con (.int 69621))) (.con (.int 7))) .nil)) (.con (.int 2147483629)))) (.cons (.ret (.bin .mod (.bi .int (.cons (.bin .fdiv (.ix (.var 0) (.con (.int 3))) (.con (.int 11))) .nil)) (.var 1))) .nil))))
def f__law_draw : Fd := ⟨2, 4, b__law_draw⟩
def d__law_draw : DI := ⟨"_law_draw", ["draws", "limit", "cell", "value"], 2, defArgs (top 13), defBody (top 13), defScope (top 13)⟩
def b__law_same : CSs := (.cons (.if_ (.or_ (.isi (.var 1) "tuple") (.last (.isi (.var 1) "list"))) (.cons (.if_ (.or_ (.cmp .ne (.isi (.var 1) "tuple") (.isi (.var 0) "tuple")) (.last (.cmp .ne (.isi (.var 1) "list") (.isi (.var 0) "list")))) (.cons (.ret (.con (.bl false))) .nil) .nil) (.cons (.if_ (.cmp .ne (.bi .len (.cons (.var 0) .nil)) (.bi .len (.cons (.var 1) .nil))) (.cons (.ret (.con (.bl false))) .nil) .nil) (.cons (.ret (.cmp .eq (.bi .len (.cons (.lc (.var 2) (.name 2) (.rng (.cons (.bi .len (.cons (.var 1) .nil)) .nil)) (.cons (.not_ (.call 9 (.cons (.ix (.var 0) (.var 2)) (.cons (.ix (.var 1) (.var 2)) .nil)))) .nil) [2]) .nil)) (.con (.int 0)))) .nil))) .nil) (.cons (.if_ (.isi (.var 1) "str") (.cons (.ret (.and_ (.isi (.var 0) "str") (.last (.cmp .eq (.var 0) (.var 1))))) .nil) .nil) (.cons (.if_ (.cmp .is_ (.var 1) (.con .non)) (.cons (.ret (.cmp .is_ (.var 0) (.con .non))) .nil) .nil) (.cons (.if_ (.or_ (.isi (.var 1) "bool") (.last (.isi (.var 0) "bool"))) (.cons (.ret (.and_ (.isi (.var 1) "bool") (.and_ (.isi (.var 0) "bool") (.last (.cmp .eq (.var 0) (.var 1)))))) .nil) .nil) (.cons (.ret (.and_ (.isi (.var 0) "int") (.and_ (.isi (.var 1) "int") (.last (.cmp .eq (.var 0) (.var 1)))))) .nil)))))
def f__law_same : Fd := ⟨2, 3, b__law_same⟩
def d__law_same : DI := ⟨"_law_same", ["actual", "expected", "k"], 2, defArgs (top 14), defBody (top 14), defScope (top 14)⟩
def b__law_type : CSs := (.cons (.asg (.name 2) (.ifx (.cmp .gt (.var 1) (.con (.int 1))) (.call 8 (.cons (.var 0) (.cons (.con (.int 6)) .nil))) (.call 8 (.cons (.var 0) (.cons (.con (.int 2)) .nil))))) (.cons (.if_ (.cmp .lt (.var 2) (.con (.int 2))) (.cons (.ret (.ix (.lst false (.cons (.tup (.cons (.con (.str "int")) .nil)) (.cons (.tup (.cons (.con (.str "bool")) .nil)) .nil))) (.var 2))) .nil) .nil) (.cons (.if_ (.cmp .lt (.var 2) (.con (.int 4))) (.cons (.ret (.tup (.cons (.con (.str "fn")) (.cons (.call 10 (.cons (.var 0) (.cons (.bin .sub (.var 1) (.con (.int 1))) .nil))) (.cons (.call 10 (.cons (.var 0) (.cons (.bin .sub (.var 1) (.con (.int 1))) .nil))) .nil))))) .nil) .nil) (.cons (.ret (.ifx (.cmp .eq (.var 2) (.con (.int 4))) (.tup (.cons (.con (.str "pair")) (.cons (.call 10 (.cons (.var 0) (.cons (.bin .sub (.var 1) (.con (.int 1))) .nil))) (.cons (.call 10 (.cons (.var 0) (.cons (.bin .sub (.var 1) (.con (.int 1))) .nil))) .nil)))) (.tup (.cons (.con (.str "list")) (.cons (.call 10 (.cons (.var 0) (.cons (.bin .sub (.var 1) (.con (.int 1))) .nil))) .nil))))) .nil))))
def f__law_type : Fd := ⟨2, 3, b__law_type⟩
def d__law_type : DI := ⟨"_law_type", ["draws", "deep", "kind"], 2, defArgs (top 15), defBody (top 15), defScope (top 15)⟩
def b__law_vaguer : CSs := (.cons (.if_ (.cmp .eq (.call 8 (.cons (.var 0) (.cons (.con (.int 4)) .nil))) (.con (.int 0))) (.cons (.ret (.tup (.cons (.con (.str "any")) .nil))) .nil) .nil) (.cons (.ret (.bin .add (.tup (.cons (.ix (.var 1) (.con (.int 0))) .nil)) (.bi .tuple (.cons (.lc (.call 11 (.cons (.var 0) (.cons (.var 2) .nil))) (.name 2) (.seq (.sl (.var 1) (.cons (.con (.int 1)) .nil) .nil)) .nil [2]) .nil)))) .nil))
def f__law_vaguer : Fd := ⟨2, 3, b__law_vaguer⟩
def d__law_vaguer : DI := ⟨"_law_vaguer", ["draws", "kind", "part"], 2, defArgs (top 16), defBody (top 16), defScope (top 16)⟩
def b__law_alike : CSs := (.cons (.if_ (.cmp .in_ (.tup (.cons (.con (.str "any")) .nil)) (.lst false (.cons (.var 0) (.cons (.var 1) .nil)))) (.cons (.ret (.con (.bl true))) .nil) .nil) (.cons (.ret (.and_ (.cmp .eq (.ix (.var 0) (.con (.int 0))) (.ix (.var 1) (.con (.int 0)))) (.last (.cmp .eq (.bi .len (.cons (.lc (.var 2) (.name 2) (.rng (.cons (.con (.int 1)) (.cons (.bi .len (.cons (.var 0) .nil)) .nil))) (.cons (.not_ (.call 12 (.cons (.ix (.var 0) (.var 2)) (.cons (.ix (.var 1) (.var 2)) .nil)))) .nil) [2]) .nil)) (.con (.int 0)))))) .nil))
def f__law_alike : Fd := ⟨2, 3, b__law_alike⟩
def d__law_alike : DI := ⟨"_law_alike", ["one", "two", "k"], 2, defArgs (top 17), defBody (top 17), defScope (top 17)⟩
def b__law_finer : CSs := (.cons (.if_ (.cmp .eq (.var 1) (.tup (.cons (.con (.str "any")) .nil))) (.cons (.ret (.con (.bl true))) .nil) .nil) (.cons (.ret (.and_ (.cmp .eq (.ix (.var 0) (.con (.int 0))) (.ix (.var 1) (.con (.int 0)))) (.last (.cmp .eq (.bi .len (.cons (.lc (.var 2) (.name 2) (.rng (.cons (.con (.int 1)) (.cons (.bi .len (.cons (.var 0) .nil)) .nil))) (.cons (.not_ (.call 13 (.cons (.ix (.var 0) (.var 2)) (.cons (.ix (.var 1) (.var 2)) .nil)))) .nil) [2]) .nil)) (.con (.int 0)))))) .nil))
def f__law_finer : Fd := ⟨2, 3, b__law_finer⟩
def d__law_finer : DI := ⟨"_law_finer", ["one", "two", "k"], 2, defArgs (top 18), defBody (top 18), defScope (top 18)⟩
def b__law_value : CSs := (.cons (.if_ (.cmp .eq (.var 1) (.tup (.cons (.con (.str "any")) .nil))) (.cons (.asg (.name 3) (.ix (.lst false (.cons (.tup (.cons (.con (.str "int")) .nil)) (.cons (.tup (.cons (.con (.str "bool")) .nil)) (.cons (.tup (.cons (.con (.str "pair")) (.cons (.tup (.cons (.con (.str "any")) .nil)) (.cons (.tup (.cons (.con (.str "any")) .nil)) .nil)))) (.cons (.tup (.cons (.con (.str "list")) (.cons (.tup (.cons (.con (.str "any")) .nil)) .nil))) .nil))))) (.call 8 (.cons (.var 0) (.cons (.ifx (.cmp .gt (.var 2) (.con (.int 0))) (.con (.int 4)) (.con (.int 2))) .nil))))) (.cons (.ret (.tup (.cons (.con (.str "tag")) (.cons (.var 3) (.cons (.call 14 (.cons (.var 0) (.cons (.var 3) (.cons (.bin .sub (.var 2) (.con (.int 1))) .nil)))) .nil))))) .nil)) .nil) (.cons (.if_ (.cmp .eq (.var 1) (.tup (.cons (.con (.str "int")) .nil))) (.cons (.ret (.tup (.cons (.con (.str "int")) (.cons (.bin .sub (.call 8 (.cons (.var 0) (.cons (.con (.int 9)) .nil))) (.con (.int 4))) .nil)))) .nil) .nil) (.cons (.if_ (.cmp .eq (.var 1) (.tup (.cons (.con (.str "bool")) .nil))) (.cons (.ret (.tup (.cons (.con (.str "bool")) (.cons (.cmp .eq (.call 8 (.cons (.var 0) (.cons (.con (.int 2)) .nil))) (.con (.int 0))) .nil)))) .nil) .nil) (.cons (.if_ (.cmp .eq (.ix (.var 1) (.con (.int 0))) (.con (.str "pair"))) (.cons (.ret (.tup (.cons (.con (.str "pair")) (.cons (.call 14 (.cons (.var 0) (.cons (.ix (.var 1) (.con (.int 1))) (.cons (.bin .sub (.var 2) (.con (.int 1))) .nil)))) (.cons (.call 14 (.cons (.var 0) (.cons (.ix (.var 1) (.con (.int 2))) (.cons (.bin .sub (.var 2) (.con (.int 1))) .nil)))) .nil))))) .nil) .nil) (.cons (.ret (.tup (.cons (.con (.str "items")) (.cons (.bi .tuple (.cons (.lc (.call 14 (.cons (.var 0) (.cons (.ix (.var 1) (.con (.int 1))) (.cons (.bin .sub (.var 2) (.con (.int 1))) .nil)))) (.name 4) (.rng (.cons (.call 8 (.cons (.var 0) (.cons (.con (.int 3)) .nil))) .nil)) .nil [4]) .nil)) .nil)))) .nil)))))
def f__law_value : Fd := ⟨3, 5, b__law_value⟩
def d__law_value : DI := ⟨"_law_value", ["draws", "kind", "deep", "ground", "k"], 3, defArgs (top 19), defBody (top 19), defScope (top 19)⟩
def b__law_plain : CSs := (.cons (.asg (.name 2) (.ifx (.cmp .gt (.var 1) (.con (.int 1))) (.call 8 (.cons (.var 0) (.cons (.con (.int 6)) .nil))) (.call 8 (.cons (.var 0) (.cons (.con (.int 3)) .nil))))) (.cons (.if_ (.cmp .lt (.var 2) (.con (.int 3))) (.cons (.ret (.ix (.lst false (.cons (.tup (.cons (.con (.str "int")) .nil)) (.cons (.tup (.cons (.con (.str "bool")) .nil)) (.cons (.tup (.cons (.con (.str "any")) .nil)) .nil)))) (.var 2))) .nil) .nil) (.cons (.ret (.ifx (.cmp .eq (.var 2) (.con (.int 3))) (.tup (.cons (.con (.str "list")) (.cons (.call 15 (.cons (.var 0) (.cons (.bin .sub (.var 1) (.con (.int 1))) .nil))) .nil))) (.tup (.cons (.con (.str "pair")) (.cons (.call 15 (.cons (.var 0) (.cons (.bin .sub (.var 1) (.con (.int 1))) .nil))) (.cons (.call 15 (.cons (.var 0) (.cons (.bin .sub (.var 1) (.con (.int 1))) .nil))) .nil)))))) .nil)))
def f__law_plain : Fd := ⟨2, 3, b__law_plain⟩
def d__law_plain : DI := ⟨"_law_plain", ["draws", "deep", "form"], 2, defArgs (top 20), defBody (top 20), defScope (top 20)⟩
def b__law_plain_chain : CSs := (.cons (.asg (.name 2) (.call 15 (.cons (.var 0) (.cons (.con (.int 3)) .nil)))) (.cons (.asg (.name 3) (.lst true (.cons (.call 11 (.cons (.var 0) (.cons (.var 2) .nil))) .nil))) (.cons (.for_ (.name 4) (.rng (.cons (.var 1) .nil)) (.cons (.if_ (.and_ (.cmp .eq (.ix (.var 3) (.var 4)) (.tup (.cons (.con (.str "any")) .nil))) (.last (.cmp .eq (.call 8 (.cons (.var 0) (.cons (.con (.int 2)) .nil))) (.con (.int 0))))) (.cons (.asg (.name 2) (.call 15 (.cons (.var 0) (.cons (.con (.int 3)) .nil)))) .nil) .nil) (.cons (.expr (.mt .append (.var 3) (.cons (.ifx (.or_ (.cmp .eq (.call 8 (.cons (.var 0) (.cons (.con (.int 4)) .nil))) (.con (.int 0))) (.last (.not_ (.call 12 (.cons (.ix (.var 3) (.var 4)) (.cons (.var 2) .nil)))))) (.tup (.cons (.con (.str "any")) .nil)) (.call 11 (.cons (.var 0) (.cons (.var 2) .nil)))) .nil))) .nil))) (.cons (.ret (.frz (.var 3))) .nil))))
def f__law_plain_chain : Fd := ⟨2, 5, b__law_plain_chain⟩
def d__law_plain_chain : DI := ⟨"_law_plain_chain", ["draws", "many", "base", "kinds", "k"], 2, defArgs (top 21), defBody (top 21), defScope (top 21)⟩
def b__law_bare : CSs := (.cons (.if_ (.cmp .eq (.ix (.var 0) (.con (.int 0))) (.con (.str "tag"))) (.cons (.ret (.call 17 (.cons (.ix (.var 0) (.con (.int 2))) .nil))) .nil) .nil) (.cons (.if_ (.cmp .eq (.ix (.var 0) (.con (.int 0))) (.con (.str "pair"))) (.cons (.ret (.tup (.cons (.con (.str "pair")) (.cons (.call 17 (.cons (.ix (.var 0) (.con (.int 1))) .nil)) (.cons (.call 17 (.cons (.ix (.var 0) (.con (.int 2))) .nil)) .nil))))) .nil) .nil) (.cons (.ret (.ifx (.cmp .eq (.ix (.var 0) (.con (.int 0))) (.con (.str "items"))) (.tup (.cons (.con (.str "items")) (.cons (.bi .tuple (.cons (.lc (.call 17 (.cons (.var 1) .nil)) (.name 1) (.seq (.ix (.var 0) (.con (.int 1)))) .nil [1]) .nil)) .nil))) (.var 0))) .nil)))
def f__law_bare : Fd := ⟨1, 2, b__law_bare⟩
def d__law_bare : DI := ⟨"_law_bare", ["value", "one"], 1, defArgs (top 22), defBody (top 22), defScope (top 22)⟩
def b_law : CSs := (.cons (.asg (.name 1) (.call 7 (.cons (.var 0) .nil))) (.cons (.for_ (.name 2) (.rng (.cons (.con (.int 8)) .nil)) (.cons (.par [10, 11] (.cons (.call 10 (.cons (.var 1) (.cons (.con (.int 3)) .nil))) (.cons (.call 10 (.cons (.var 1) (.cons (.con (.int 3)) .nil))) .nil))) (.cons (.par [12, 13, 14] (.cons (.call 11 (.cons (.var 1) (.cons (.var 10) .nil))) (.cons (.call 11 (.cons (.var 1) (.cons (.var 11) .nil))) (.cons (.call 11 (.cons (.var 1) (.cons (.ifx (.cmp .eq (.call 8 (.cons (.var 1) (.cons (.con (.int 2)) .nil))) (.con (.int 0))) (.var 10) (.var 11)) .nil))) .nil)))) (.cons (.asg (.name 3) (.call 1 (.cons (.var 12) (.cons (.var 13) .nil)))) (.cons (.if_ (.or_ (.not_ (.call 9 (.cons (.call 1 (.cons (.var 13) (.cons (.var 12) .nil))) (.cons (.var 3) .nil)))) (.or_ (.not_ (.call 9 (.cons (.call 1 (.cons (.var 3) (.cons (.var 3) .nil))) (.cons (.var 3) .nil)))) (.last (.not_ (.call 9 (.cons (.call 1 (.cons (.var 3) (.cons (.tup (.cons (.con (.str "any")) .nil)) .nil))) (.cons (.var 3) .nil))))))) (.cons (.ret (.con (.bl false))) .nil) .nil) (.cons (.if_ (.or_ (.not_ (.call 9 (.cons (.call 1 (.cons (.var 3) (.cons (.var 14) .nil))) (.cons (.call 1 (.cons (.var 12) (.cons (.call 1 (.cons (.var 13) (.cons (.var 14) .nil))) .nil))) .nil)))) (.last (.cmp .ne (.call 1 (.cons (.var 3) (.cons (.glob 1) .nil))) (.glob 1)))) (.cons (.ret (.con (.bl false))) .nil) .nil) (.cons (.if_ (.or_ (.cmp .isnot (.call 5 (.cons (.var 3) (.cons (.var 12) .nil))) (.con (.bl true))) (.last (.cmp .isnot (.call 5 (.cons (.var 3) (.cons (.var 13) .nil))) (.con (.bl true))))) (.cons (.ret (.con (.bl false))) .nil) .nil) (.cons (.asg (.name 4) (.call 16 (.cons (.var 1) (.cons (.con (.int 4)) .nil)))) (.cons (.asg (.name 5) (.call 4 (.cons (.var 4) .nil))) (.cons (.asg (.name 6) (.lc (.call 2 (.cons (.ix (.var 4) (.var 17)) (.cons (.ix (.var 4) (.bin .add (.var 17) (.con (.int 1)))) .nil))) (.name 17) (.rng (.cons (.bin .sub (.bi .len (.cons (.var 4) .nil)) (.con (.int 1))) .nil)) .nil [17])) (.cons (.par [15, 16] (.cons (.ix (.var 6) (.con (.int 0))) (.cons (.ix (.var 6) (.bin .sub (.bi .len (.cons (.var 6) .nil)) (.con (.int 1)))) .nil))) (.cons (.for_ (.name 7) (.seq (.sl (.var 6) (.cons (.con (.int 1)) .nil) .nil)) (.cons (.asg (.name 15) (.call 3 (.cons (.var 15) (.cons (.var 7) .nil)))) .nil)) (.cons (.for_ (.name 7) (.seq (.rev (.sl (.var 6) .nil (.cons (.bin .sub (.bi .len (.cons (.var 6) .nil)) (.con (.int 1))) .nil)))) (.cons (.asg (.name 16) (.call 3 (.cons (.var 7) (.cons (.var 16) .nil)))) .nil)) (.cons (.if_ (.or_ (.not_ (.call 9 (.cons (.var 15) (.cons (.var 5) .nil)))) (.or_ (.not_ (.call 9 (.cons (.var 16) (.cons (.var 5) .nil)))) (.last (.not_ (.call 9 (.cons (.call 3 (.cons (.call 2 (.cons (.ix (.var 4) (.con (.int 0))) (.cons (.ix (.var 4) (.con (.int 0))) .nil))) (.cons (.var 15) .nil))) (.cons (.var 15) .nil))))))) (.cons (.ret (.con (.bl false))) .nil) .nil) (.cons (.asg (.name 8) (.call 17 (.cons (.call 14 (.cons (.var 1) (.cons (.ix (.var 4) (.con (.int 0))) (.cons (.con (.int 3)) .nil)))) .nil))) (.cons (.asg (.name 9) (.call 4 (.cons (.sl (.var 4) .nil (.cons (.con (.int 3)) .nil)) .nil))) (.cons (.if_ (.or_ (.and_ (.call 6 (.cons (.var 8) (.cons (.ix (.var 5) (.con (.int 1))) .nil))) (.last (.not_ (.call 6 (.cons (.var 8) (.cons (.ix (.var 9) (.con (.int 1))) .nil)))))) (.last (.cmp .isnot (.call 6 (.cons (.var 8) (.cons (.ix (.call 4 (.cons (.sl (.var 4) .nil (.cons (.con (.int 1)) .nil)) .nil)) (.con (.int 1))) .nil))) (.con (.bl true))))) (.cons (.ret (.con (.bl false))) .nil) .nil) .nil))))))))))))))))) (.cons (.ret (.con (.bl true))) .nil)))
def f_law : Fd := ⟨1, 18, b_law⟩
def d_law : DI := ⟨"law", ["script", "draws", "turn", "both", "rows", "whole", "parts", "part", "value", "short", "base", "far", "one", "two", "three", "left", "right", "k"], 1, defArgs (top 23), defBody (top 23), defScope (top 23)⟩
def gls : List D := [(.tup [(.str "any")]), (.tup [(.str "never")])]
def prog : Prog := ⟨gls, [f_meet, f_middle_meet, f_triple, f_joined, f_joined_all, f_tells, f_goes, f__law_draws, f__law_draw, f__law_same, f__law_type, f__law_vaguer, f__law_alike, f__law_finer, f__law_value, f__law_plain, f__law_plain_chain, f__law_bare, f_law]⟩
def nms : Nms := ⟨["ANY", "NEVER"], ["meet", "middle_meet", "triple", "joined", "joined_all", "tells", "goes", "_law_draws", "_law_draw", "_law_same", "_law_type", "_law_vaguer", "_law_alike", "_law_finer", "_law_value", "_law_plain", "_law_plain_chain", "_law_bare", "law"]⟩
def dis : List DI := [d_meet, d_middle_meet, d_triple, d_joined, d_joined_all, d_tells, d_goes, d__law_draws, d__law_draw, d__law_same, d__law_type, d__law_vaguer, d__law_alike, d__law_finer, d__law_value, d__law_plain, d__law_plain_chain, d__law_bare, d_law]
def look : Look := ⟨prog, nms, dis⟩
theorem c_meet : chkD nms d_meet f_meet = true := by decide +kernel
theorem c_middle_meet : chkD nms d_middle_meet f_middle_meet = true := by decide +kernel
theorem c_triple : chkD nms d_triple f_triple = true := by decide +kernel
theorem c_joined : chkD nms d_joined f_joined = true := by decide +kernel
theorem c_joined_all : chkD nms d_joined_all f_joined_all = true := by decide +kernel
theorem c_tells : chkD nms d_tells f_tells = true := by decide +kernel
theorem c_goes : chkD nms d_goes f_goes = true := by decide +kernel
theorem c__law_draws : chkD nms d__law_draws f__law_draws = true := by decide +kernel
theorem c__law_draw : chkD nms d__law_draw f__law_draw = true := by decide +kernel
theorem c__law_same : chkD nms d__law_same f__law_same = true := by decide +kernel
theorem c__law_type : chkD nms d__law_type f__law_type = true := by decide +kernel
theorem c__law_vaguer : chkD nms d__law_vaguer f__law_vaguer = true := by decide +kernel
theorem c__law_alike : chkD nms d__law_alike f__law_alike = true := by decide +kernel
theorem c__law_finer : chkD nms d__law_finer f__law_finer = true := by decide +kernel
theorem c__law_value : chkD nms d__law_value f__law_value = true := by decide +kernel
theorem c__law_plain : chkD nms d__law_plain f__law_plain = true := by decide +kernel
theorem c__law_plain_chain : chkD nms d__law_plain_chain f__law_plain_chain = true := by decide +kernel
theorem c__law_bare : chkD nms d__law_bare f__law_bare = true := by decide +kernel
theorem c_law : chkD nms d_law f_law = true := by decide +kernel
abbrev ix_meet : Nat := 0
theorem call_meet {k : Nat} {x0 x1 : D} {S : Store} {Q : D → Store → Prop} (w : W (evSs prog (callK prog k) b_meet [some x0, some x1, none, none, none] S) (Fin S.length Q)) : W (callK prog (k + 1) ix_meet [x0, x1] S) Q := W.fn (fd := f_meet) rfl rfl w
abbrev ix_middle_meet : Nat := 1
theorem call_middle_meet {k : Nat} {x0 x1 : D} {S : Store} {Q : D → Store → Prop} (w : W (evSs prog (callK prog k) b_middle_meet [some x0, some x1, none, none, none] S) (Fin S.length Q)) : W (callK prog (k + 1) ix_middle_meet [x0, x1] S) Q := W.fn (fd := f_middle_meet) rfl rfl w
abbrev ix_triple : Nat := 2
theorem call_triple {k : Nat} {x0 x1 : D} {S : Store} {Q : D → Store → Prop} (w : W (evSs prog (callK prog k) b_triple [some x0, some x1] S) (Fin S.length Q)) : W (callK prog (k + 1) ix_triple [x0, x1] S) Q := W.fn (fd := f_triple) rfl rfl w
abbrev ix_joined : Nat := 3
theorem call_joined {k : Nat} {x0 x1 : D} {S : Store} {Q : D → Store → Prop} (w : W (evSs prog (callK prog k) b_joined [some x0, some x1] S) (Fin S.length Q)) : W (callK prog (k + 1) ix_joined [x0, x1] S) Q := W.fn (fd := f_joined) rfl rfl w
abbrev ix_joined_all : Nat := 4
theorem call_joined_all {k : Nat} {x0 : D} {S : Store} {Q : D → Store → Prop} (w : W (evSs prog (callK prog k) b_joined_all [some x0, none, none, none] S) (Fin S.length Q)) : W (callK prog (k + 1) ix_joined_all [x0] S) Q := W.fn (fd := f_joined_all) rfl rfl w
abbrev ix_tells : Nat := 5
theorem call_tells {k : Nat} {x0 x1 : D} {S : Store} {Q : D → Store → Prop} (w : W (evSs prog (callK prog k) b_tells [some x0, some x1, none, none] S) (Fin S.length Q)) : W (callK prog (k + 1) ix_tells [x0, x1] S) Q := W.fn (fd := f_tells) rfl rfl w
abbrev ix_goes : Nat := 6
theorem call_goes {k : Nat} {x0 x1 : D} {S : Store} {Q : D → Store → Prop} (w : W (evSs prog (callK prog k) b_goes [some x0, some x1, none] S) (Fin S.length Q)) : W (callK prog (k + 1) ix_goes [x0, x1] S) Q := W.fn (fd := f_goes) rfl rfl w
abbrev ix__law_draws : Nat := 7
theorem call__law_draws {k : Nat} {x0 : D} {S : Store} {Q : D → Store → Prop} (w : W (evSs prog (callK prog k) b__law_draws [some x0] S) (Fin S.length Q)) : W (callK prog (k + 1) ix__law_draws [x0] S) Q := W.fn (fd := f__law_draws) rfl rfl w
abbrev ix__law_draw : Nat := 8
theorem call__law_draw {k : Nat} {x0 x1 : D} {S : Store} {Q : D → Store → Prop} (w : W (evSs prog (callK prog k) b__law_draw [some x0, some x1, none, none] S) (Fin S.length Q)) : W (callK prog (k + 1) ix__law_draw [x0, x1] S) Q := W.fn (fd := f__law_draw) rfl rfl w
abbrev ix__law_same : Nat := 9
theorem call__law_same {k : Nat} {x0 x1 : D} {S : Store} {Q : D → Store → Prop} (w : W (evSs prog (callK prog k) b__law_same [some x0, some x1, none] S) (Fin S.length Q)) : W (callK prog (k + 1) ix__law_same [x0, x1] S) Q := W.fn (fd := f__law_same) rfl rfl w
abbrev ix__law_type : Nat := 10
theorem call__law_type {k : Nat} {x0 x1 : D} {S : Store} {Q : D → Store → Prop} (w : W (evSs prog (callK prog k) b__law_type [some x0, some x1, none] S) (Fin S.length Q)) : W (callK prog (k + 1) ix__law_type [x0, x1] S) Q := W.fn (fd := f__law_type) rfl rfl w
abbrev ix__law_vaguer : Nat := 11
theorem call__law_vaguer {k : Nat} {x0 x1 : D} {S : Store} {Q : D → Store → Prop} (w : W (evSs prog (callK prog k) b__law_vaguer [some x0, some x1, none] S) (Fin S.length Q)) : W (callK prog (k + 1) ix__law_vaguer [x0, x1] S) Q := W.fn (fd := f__law_vaguer) rfl rfl w
abbrev ix__law_alike : Nat := 12
theorem call__law_alike {k : Nat} {x0 x1 : D} {S : Store} {Q : D → Store → Prop} (w : W (evSs prog (callK prog k) b__law_alike [some x0, some x1, none] S) (Fin S.length Q)) : W (callK prog (k + 1) ix__law_alike [x0, x1] S) Q := W.fn (fd := f__law_alike) rfl rfl w
abbrev ix__law_finer : Nat := 13
theorem call__law_finer {k : Nat} {x0 x1 : D} {S : Store} {Q : D → Store → Prop} (w : W (evSs prog (callK prog k) b__law_finer [some x0, some x1, none] S) (Fin S.length Q)) : W (callK prog (k + 1) ix__law_finer [x0, x1] S) Q := W.fn (fd := f__law_finer) rfl rfl w
abbrev ix__law_value : Nat := 14
theorem call__law_value {k : Nat} {x0 x1 x2 : D} {S : Store} {Q : D → Store → Prop} (w : W (evSs prog (callK prog k) b__law_value [some x0, some x1, some x2, none, none] S) (Fin S.length Q)) : W (callK prog (k + 1) ix__law_value [x0, x1, x2] S) Q := W.fn (fd := f__law_value) rfl rfl w
abbrev ix__law_plain : Nat := 15
theorem call__law_plain {k : Nat} {x0 x1 : D} {S : Store} {Q : D → Store → Prop} (w : W (evSs prog (callK prog k) b__law_plain [some x0, some x1, none] S) (Fin S.length Q)) : W (callK prog (k + 1) ix__law_plain [x0, x1] S) Q := W.fn (fd := f__law_plain) rfl rfl w
abbrev ix__law_plain_chain : Nat := 16
theorem call__law_plain_chain {k : Nat} {x0 x1 : D} {S : Store} {Q : D → Store → Prop} (w : W (evSs prog (callK prog k) b__law_plain_chain [some x0, some x1, none, none, none] S) (Fin S.length Q)) : W (callK prog (k + 1) ix__law_plain_chain [x0, x1] S) Q := W.fn (fd := f__law_plain_chain) rfl rfl w
abbrev ix__law_bare : Nat := 17
theorem call__law_bare {k : Nat} {x0 : D} {S : Store} {Q : D → Store → Prop} (w : W (evSs prog (callK prog k) b__law_bare [some x0, none] S) (Fin S.length Q)) : W (callK prog (k + 1) ix__law_bare [x0] S) Q := W.fn (fd := f__law_bare) rfl rfl w
abbrev ix_law : Nat := 18
theorem call_law {k : Nat} {x0 : D} {S : Store} {Q : D → Store → Prop} (w : W (evSs prog (callK prog k) b_law [some x0, none, none, none, none, none, none, none, none, none, none, none, none, none, none, none, none, none] S) (Fin S.length Q)) : W (callK prog (k + 1) ix_law [x0] S) Q := W.fn (fd := f_law) rfl rfl w
theorem look_ok : look.Ok where
  len := ⟨rfl, rfl⟩
  nm := rfl
  chk := by
    simp only [look, dis, prog, List.zip_cons_cons, List.zip_nil_right, List.all_cons, List.all_nil, c_meet, c_middle_meet, c_triple, c_joined, c_joined_all, c_tells, c_goes, c__law_draws, c__law_draw, c__law_same, c__law_type, c__law_vaguer, c__law_alike, c__law_finer, c__law_value, c__law_plain, c__law_plain_chain, c__law_bare, c_law, Bool.and_self]
  bnd := by
    intro d hd
    simp only [look, dis, List.mem_cons, List.not_mem_nil, or_false] at hd
    rcases hd with rfl | rfl | rfl | rfl | rfl | rfl | rfl | rfl | rfl | rfl | rfl | rfl | rfl | rfl | rfl | rfl | rfl | rfl | rfl
    · exact fun _ _ _ _ _ _ us hl => match us, hl with | [_, _], _ => rfl
    · exact fun _ _ _ _ _ _ us hl => match us, hl with | [_, _], _ => rfl
    · exact fun _ _ _ _ _ _ us hl => match us, hl with | [_, _], _ => rfl
    · exact fun _ _ _ _ _ _ us hl => match us, hl with | [_, _], _ => rfl
    · exact fun _ _ _ _ _ _ us hl => match us, hl with | [_], _ => rfl
    · exact fun _ _ _ _ _ _ us hl => match us, hl with | [_, _], _ => rfl
    · exact fun _ _ _ _ _ _ us hl => match us, hl with | [_, _], _ => rfl
    · exact fun _ _ _ _ _ _ us hl => match us, hl with | [_], _ => rfl
    · exact fun _ _ _ _ _ _ us hl => match us, hl with | [_, _], _ => rfl
    · exact fun _ _ _ _ _ _ us hl => match us, hl with | [_, _], _ => rfl
    · exact fun _ _ _ _ _ _ us hl => match us, hl with | [_, _], _ => rfl
    · exact fun _ _ _ _ _ _ us hl => match us, hl with | [_, _], _ => rfl
    · exact fun _ _ _ _ _ _ us hl => match us, hl with | [_, _], _ => rfl
    · exact fun _ _ _ _ _ _ us hl => match us, hl with | [_, _], _ => rfl
    · exact fun _ _ _ _ _ _ us hl => match us, hl with | [_, _, _], _ => rfl
    · exact fun _ _ _ _ _ _ us hl => match us, hl with | [_, _], _ => rfl
    · exact fun _ _ _ _ _ _ us hl => match us, hl with | [_, _], _ => rfl
    · exact fun _ _ _ _ _ _ us hl => match us, hl with | [_], _ => rfl
    · exact fun _ _ _ _ _ _ us hl => match us, hl with | [_], _ => rfl
end PC

set_option Elab.async false
set_option linter.all false
set_option maxRecDepth 100000
set_option maxHeartbeats 4000000
namespace PC
open PySem PyProof.Rows L2
variable {T : Store}
inductive Ty where
  | int | bool | any | fn (a b : Ty) | pair (a b : Ty) | list (a : Ty)
def Ty.d : Ty → D
  | .int => .tup [.str "int"]
  | .bool => .tup [.str "bool"]
  | .any => .tup [.str "any"]
  | .fn a b => .tup [.str "fn", a.d, b.d]
  | .pair a b => .tup [.str "pair", a.d, b.d]
  | .list a => .tup [.str "list", a.d]
def Ty.dep : Ty → Nat
  | .fn a b => max a.dep b.dep + 1
  | .pair a b => max a.dep b.dep + 1
  | .list a => a.dep + 1
  | _ => 0
@[simp] theorem Ty.d_np (t : Ty) : t.d.isPtr = false := by cases t <;> rfl
@[simp] theorem Ty.d_deref (t : Ty) {S : Store} : deref S t.d = t.d := deref_data t.d_np
@[simp] theorem Ty.d_non (t : Ty) : t.d.eqv .non = false := by cases t <;> simp [Ty.d]
/-! vaguer types -/
inductive Vag : Ty → Ty → Prop
  | any (t : Ty) : Vag .any t
  | int : Vag .int .int
  | bool : Vag .bool .bool
  | fn {a b c d : Ty} : Vag a c → Vag b d → Vag (.fn a b) (.fn c d)
  | pair {a b c d : Ty} : Vag a c → Vag b d → Vag (.pair a b) (.pair c d)
  | list {a c : Ty} : Vag a c → Vag (.list a) (.list c)
theorem Vag.dep {a b : Ty} (h : Vag a b) : a.dep ≤ b.dep := by
  induction h <;> simp only [Ty.dep] <;> omega
def Ty.plain : Ty → Bool
  | .fn _ _ => false
  | .pair a b => a.plain && b.plain
  | .list a => a.plain
  | _ => true
theorem Vag.plain {a b : Ty} (h : Vag a b) : b.plain = true → a.plain = true := by
  induction h <;> simp_all [Ty.plain]
theorem Vag.trans {a b : Ty} (h : Vag a b) : ∀ {c : Ty}, Vag b c → Vag a c := by
  induction h with
  | any t => intro c _; exact .any c
  | int => intro c h; exact h
  | bool => intro c h; exact h
  | fn _ _ ih1 ih2 => intro c h; cases h with | fn h1 h2 => exact .fn (ih1 h1) (ih2 h2)
  | pair _ _ ih1 ih2 => intro c h; cases h with | pair h1 h2 => exact .pair (ih1 h1) (ih2 h2)
  | list _ ih1 => intro c h; cases h with | list h1 => exact .list (ih1 h1)
theorem run_vaguer : ∀ (t : Ty) (k : Nat) (S : Store), t.dep + 1 < k → DW T S → W (callK prog k ix__law_vaguer [.ptr 0, t.d] S) fun d S' => ∃ v : Ty, d = v.d ∧ Vag v t ∧ DW T S' := by
  intro t
  induction t with
  | int =>
    intro k S h hd0
    obtain ⟨k, rfl⟩ : ∃ j, k = j + 2 := ⟨k - 2, by omega⟩
    refine call__law_vaguer ?_
    unfold b__law_vaguer
    repeat (first
      | refine Go.go ?_
      | refine draw_any rfl hd0 (by decide) (by decide) fun v S' h1 h2 hd => ?_
      | (refine Fin.data ?_ ?_; focus (simp []; done))
      | (refine fun r (hr : _ = r) => ?_; (try simp [] at hr); subst hr; first | refine OQ.is ?_ | refine W.ret ?_ | skip)
      | refine Exists.intro _ (And.intro rfl ?_)
      | (refine And.intro (a := noPtr _ = true) ?_ ?_; focus (simp []; done))
      | (refine And.intro (a := D.isPtr _ = false) ?_ ?_; focus (simp []; done))
      | refine Exists.intro _ (And.intro (Or.inl rfl) ?_)
      | refine Exists.intro _ (And.intro (Or.inr rfl) ?_)
      | (refine And.intro (a := isLst _ _ = true) ?_ ?_; focus (simp []; done))
      | (refine And.intro (a := isDct _ _ = true) ?_ ?_; focus (simp []; done))
      | (refine And.intro (a := List.length _ ≤ 15) ?_ ?_; focus (first | exact Nat.le_of_ble_eq_true rfl | (simp []; done)))
      | (refine And.intro (a := List.length _ ≤ lim) ?_ ?_; focus (first | exact Nat.le_of_ble_eq_true rfl | (simp []; done)))
      | refine W.turn ?_
      | (refine IfB.i (fun _ => ?_) (fun (e : _ = false) => False.elim ?_); rotate_left; focus (simp [] at e; done))
      | (refine IfB.i (fun (e : _ = true) => False.elim ?_) (fun _ => ?_); focus (simp [] at e; done))
      | refine And.intro (fun _ => ?_) (fun (z : true = false) => nomatch z)
      | refine And.intro (fun (z : false = true) => nomatch z) (fun _ => ?_)
      )
    refine IfB.i (fun e => ?_) (fun e => ?_)
    · repeat (first
        | refine Go.go ?_
        | (refine Fin.data ?_ ?_; focus (simp [Ty.d]; done))
        | (refine fun r (hr : _ = r) => ?_; (try simp [Ty.d] at hr); subst hr; first | refine OQ.is ?_ | refine W.ret ?_ | skip)
        | refine Exists.intro _ (And.intro rfl ?_)
        | (refine And.intro (a := noPtr _ = true) ?_ ?_; focus (simp [Ty.d]; done))
        | (refine And.intro (a := D.isPtr _ = false) ?_ ?_; focus (simp [Ty.d]; done))
        | refine Exists.intro _ (And.intro (Or.inl rfl) ?_)
        | refine Exists.intro _ (And.intro (Or.inr rfl) ?_)
        | (refine And.intro (a := isLst _ _ = true) ?_ ?_; focus (simp [Ty.d]; done))
        | (refine And.intro (a := isDct _ _ = true) ?_ ?_; focus (simp [Ty.d]; done))
        | (refine And.intro (a := List.length _ ≤ 15) ?_ ?_; focus (first | exact Nat.le_of_ble_eq_true rfl | (simp [Ty.d]; done)))
        | (refine And.intro (a := List.length _ ≤ lim) ?_ ?_; focus (first | exact Nat.le_of_ble_eq_true rfl | (simp [Ty.d]; done)))
        | refine W.turn ?_
        | (refine IfB.i (fun _ => ?_) (fun (e : _ = false) => False.elim ?_); rotate_left; focus (simp [Ty.d] at e; done))
        | (refine IfB.i (fun (e : _ = true) => False.elim ?_) (fun _ => ?_); focus (simp [Ty.d] at e; done))
        | refine And.intro (fun _ => ?_) (fun (z : true = false) => nomatch z)
        | refine And.intro (fun (z : false = true) => nomatch z) (fun _ => ?_)
        )
      exact ⟨.any, rfl, .any _, hd0.take hd⟩
    · repeat (first
        | refine Go.go ?_
        | (refine Fin.data ?_ ?_; focus (simp [Ty.d]; done))
        | (refine fun r (hr : _ = r) => ?_; (try simp [Ty.d] at hr); subst hr; first | refine OQ.is ?_ | refine W.ret ?_ | skip)
        | refine Exists.intro _ (And.intro rfl ?_)
        | (refine And.intro (a := noPtr _ = true) ?_ ?_; focus (simp [Ty.d]; done))
        | (refine And.intro (a := D.isPtr _ = false) ?_ ?_; focus (simp [Ty.d]; done))
        | refine Exists.intro _ (And.intro (Or.inl rfl) ?_)
        | refine Exists.intro _ (And.intro (Or.inr rfl) ?_)
        | (refine And.intro (a := isLst _ _ = true) ?_ ?_; focus (simp [Ty.d]; done))
        | (refine And.intro (a := isDct _ _ = true) ?_ ?_; focus (simp [Ty.d]; done))
        | (refine And.intro (a := List.length _ ≤ 15) ?_ ?_; focus (first | exact Nat.le_of_ble_eq_true rfl | (simp [Ty.d]; done)))
        | (refine And.intro (a := List.length _ ≤ lim) ?_ ?_; focus (first | exact Nat.le_of_ble_eq_true rfl | (simp [Ty.d]; done)))
        | refine W.turn ?_
        | (refine IfB.i (fun _ => ?_) (fun (e : _ = false) => False.elim ?_); rotate_left; focus (simp [Ty.d] at e; done))
        | (refine IfB.i (fun (e : _ = true) => False.elim ?_) (fun _ => ?_); focus (simp [Ty.d] at e; done))
        | refine And.intro (fun _ => ?_) (fun (z : true = false) => nomatch z)
        | refine And.intro (fun (z : false = true) => nomatch z) (fun _ => ?_)
        )
      exact ⟨.int, rfl, .int, hd0.take hd⟩
  | bool =>
    intro k S h hd0
    obtain ⟨k, rfl⟩ : ∃ j, k = j + 2 := ⟨k - 2, by omega⟩
    refine call__law_vaguer ?_
    unfold b__law_vaguer
    repeat (first
      | refine Go.go ?_
      | refine draw_any rfl hd0 (by decide) (by decide) fun v S' h1 h2 hd => ?_
      | (refine Fin.data ?_ ?_; focus (simp []; done))
      | (refine fun r (hr : _ = r) => ?_; (try simp [] at hr); subst hr; first | refine OQ.is ?_ | refine W.ret ?_ | skip)
      | refine Exists.intro _ (And.intro rfl ?_)
      | (refine And.intro (a := noPtr _ = true) ?_ ?_; focus (simp []; done))
      | (refine And.intro (a := D.isPtr _ = false) ?_ ?_; focus (simp []; done))
      | refine Exists.intro _ (And.intro (Or.inl rfl) ?_)
      | refine Exists.intro _ (And.intro (Or.inr rfl) ?_)
      | (refine And.intro (a := isLst _ _ = true) ?_ ?_; focus (simp []; done))
      | (refine And.intro (a := isDct _ _ = true) ?_ ?_; focus (simp []; done))
      | (refine And.intro (a := List.length _ ≤ 15) ?_ ?_; focus (first | exact Nat.le_of_ble_eq_true rfl | (simp []; done)))
      | (refine And.intro (a := List.length _ ≤ lim) ?_ ?_; focus (first | exact Nat.le_of_ble_eq_true rfl | (simp []; done)))
      | refine W.turn ?_
      | (refine IfB.i (fun _ => ?_) (fun (e : _ = false) => False.elim ?_); rotate_left; focus (simp [] at e; done))
      | (refine IfB.i (fun (e : _ = true) => False.elim ?_) (fun _ => ?_); focus (simp [] at e; done))
      | refine And.intro (fun _ => ?_) (fun (z : true = false) => nomatch z)
      | refine And.intro (fun (z : false = true) => nomatch z) (fun _ => ?_)
      )
    refine IfB.i (fun e => ?_) (fun e => ?_)
    · repeat (first
        | refine Go.go ?_
        | (refine Fin.data ?_ ?_; focus (simp [Ty.d]; done))
        | (refine fun r (hr : _ = r) => ?_; (try simp [Ty.d] at hr); subst hr; first | refine OQ.is ?_ | refine W.ret ?_ | skip)
        | refine Exists.intro _ (And.intro rfl ?_)
        | (refine And.intro (a := noPtr _ = true) ?_ ?_; focus (simp [Ty.d]; done))
        | (refine And.intro (a := D.isPtr _ = false) ?_ ?_; focus (simp [Ty.d]; done))
        | refine Exists.intro _ (And.intro (Or.inl rfl) ?_)
        | refine Exists.intro _ (And.intro (Or.inr rfl) ?_)
        | (refine And.intro (a := isLst _ _ = true) ?_ ?_; focus (simp [Ty.d]; done))
        | (refine And.intro (a := isDct _ _ = true) ?_ ?_; focus (simp [Ty.d]; done))
        | (refine And.intro (a := List.length _ ≤ 15) ?_ ?_; focus (first | exact Nat.le_of_ble_eq_true rfl | (simp [Ty.d]; done)))
        | (refine And.intro (a := List.length _ ≤ lim) ?_ ?_; focus (first | exact Nat.le_of_ble_eq_true rfl | (simp [Ty.d]; done)))
        | refine W.turn ?_
        | (refine IfB.i (fun _ => ?_) (fun (e : _ = false) => False.elim ?_); rotate_left; focus (simp [Ty.d] at e; done))
        | (refine IfB.i (fun (e : _ = true) => False.elim ?_) (fun _ => ?_); focus (simp [Ty.d] at e; done))
        | refine And.intro (fun _ => ?_) (fun (z : true = false) => nomatch z)
        | refine And.intro (fun (z : false = true) => nomatch z) (fun _ => ?_)
        )
      exact ⟨.any, rfl, .any _, hd0.take hd⟩
    · repeat (first
        | refine Go.go ?_
        | (refine Fin.data ?_ ?_; focus (simp [Ty.d]; done))
        | (refine fun r (hr : _ = r) => ?_; (try simp [Ty.d] at hr); subst hr; first | refine OQ.is ?_ | refine W.ret ?_ | skip)
        | refine Exists.intro _ (And.intro rfl ?_)
        | (refine And.intro (a := noPtr _ = true) ?_ ?_; focus (simp [Ty.d]; done))
        | (refine And.intro (a := D.isPtr _ = false) ?_ ?_; focus (simp [Ty.d]; done))
        | refine Exists.intro _ (And.intro (Or.inl rfl) ?_)
        | refine Exists.intro _ (And.intro (Or.inr rfl) ?_)
        | (refine And.intro (a := isLst _ _ = true) ?_ ?_; focus (simp [Ty.d]; done))
        | (refine And.intro (a := isDct _ _ = true) ?_ ?_; focus (simp [Ty.d]; done))
        | (refine And.intro (a := List.length _ ≤ 15) ?_ ?_; focus (first | exact Nat.le_of_ble_eq_true rfl | (simp [Ty.d]; done)))
        | (refine And.intro (a := List.length _ ≤ lim) ?_ ?_; focus (first | exact Nat.le_of_ble_eq_true rfl | (simp [Ty.d]; done)))
        | refine W.turn ?_
        | (refine IfB.i (fun _ => ?_) (fun (e : _ = false) => False.elim ?_); rotate_left; focus (simp [Ty.d] at e; done))
        | (refine IfB.i (fun (e : _ = true) => False.elim ?_) (fun _ => ?_); focus (simp [Ty.d] at e; done))
        | refine And.intro (fun _ => ?_) (fun (z : true = false) => nomatch z)
        | refine And.intro (fun (z : false = true) => nomatch z) (fun _ => ?_)
        )
      exact ⟨.bool, rfl, .bool, hd0.take hd⟩
  | any =>
    intro k S h hd0
    obtain ⟨k, rfl⟩ : ∃ j, k = j + 2 := ⟨k - 2, by omega⟩
    refine call__law_vaguer ?_
    unfold b__law_vaguer
    repeat (first
      | refine Go.go ?_
      | refine draw_any rfl hd0 (by decide) (by decide) fun v S' h1 h2 hd => ?_
      | (refine Fin.data ?_ ?_; focus (simp []; done))
      | (refine fun r (hr : _ = r) => ?_; (try simp [] at hr); subst hr; first | refine OQ.is ?_ | refine W.ret ?_ | skip)
      | refine Exists.intro _ (And.intro rfl ?_)
      | (refine And.intro (a := noPtr _ = true) ?_ ?_; focus (simp []; done))
      | (refine And.intro (a := D.isPtr _ = false) ?_ ?_; focus (simp []; done))
      | refine Exists.intro _ (And.intro (Or.inl rfl) ?_)
      | refine Exists.intro _ (And.intro (Or.inr rfl) ?_)
      | (refine And.intro (a := isLst _ _ = true) ?_ ?_; focus (simp []; done))
      | (refine And.intro (a := isDct _ _ = true) ?_ ?_; focus (simp []; done))
      | (refine And.intro (a := List.length _ ≤ 15) ?_ ?_; focus (first | exact Nat.le_of_ble_eq_true rfl | (simp []; done)))
      | (refine And.intro (a := List.length _ ≤ lim) ?_ ?_; focus (first | exact Nat.le_of_ble_eq_true rfl | (simp []; done)))
      | refine W.turn ?_
      | (refine IfB.i (fun _ => ?_) (fun (e : _ = false) => False.elim ?_); rotate_left; focus (simp [] at e; done))
      | (refine IfB.i (fun (e : _ = true) => False.elim ?_) (fun _ => ?_); focus (simp [] at e; done))
      | refine And.intro (fun _ => ?_) (fun (z : true = false) => nomatch z)
      | refine And.intro (fun (z : false = true) => nomatch z) (fun _ => ?_)
      )
    refine IfB.i (fun e => ?_) (fun e => ?_)
    · repeat (first
        | refine Go.go ?_
        | (refine Fin.data ?_ ?_; focus (simp [Ty.d]; done))
        | (refine fun r (hr : _ = r) => ?_; (try simp [Ty.d] at hr); subst hr; first | refine OQ.is ?_ | refine W.ret ?_ | skip)
        | refine Exists.intro _ (And.intro rfl ?_)
        | (refine And.intro (a := noPtr _ = true) ?_ ?_; focus (simp [Ty.d]; done))
        | (refine And.intro (a := D.isPtr _ = false) ?_ ?_; focus (simp [Ty.d]; done))
        | refine Exists.intro _ (And.intro (Or.inl rfl) ?_)
        | refine Exists.intro _ (And.intro (Or.inr rfl) ?_)
        | (refine And.intro (a := isLst _ _ = true) ?_ ?_; focus (simp [Ty.d]; done))
        | (refine And.intro (a := isDct _ _ = true) ?_ ?_; focus (simp [Ty.d]; done))
        | (refine And.intro (a := List.length _ ≤ 15) ?_ ?_; focus (first | exact Nat.le_of_ble_eq_true rfl | (simp [Ty.d]; done)))
        | (refine And.intro (a := List.length _ ≤ lim) ?_ ?_; focus (first | exact Nat.le_of_ble_eq_true rfl | (simp [Ty.d]; done)))
        | refine W.turn ?_
        | (refine IfB.i (fun _ => ?_) (fun (e : _ = false) => False.elim ?_); rotate_left; focus (simp [Ty.d] at e; done))
        | (refine IfB.i (fun (e : _ = true) => False.elim ?_) (fun _ => ?_); focus (simp [Ty.d] at e; done))
        | refine And.intro (fun _ => ?_) (fun (z : true = false) => nomatch z)
        | refine And.intro (fun (z : false = true) => nomatch z) (fun _ => ?_)
        )
      exact ⟨.any, rfl, .any _, hd0.take hd⟩
    · repeat (first
        | refine Go.go ?_
        | (refine Fin.data ?_ ?_; focus (simp [Ty.d]; done))
        | (refine fun r (hr : _ = r) => ?_; (try simp [Ty.d] at hr); subst hr; first | refine OQ.is ?_ | refine W.ret ?_ | skip)
        | refine Exists.intro _ (And.intro rfl ?_)
        | (refine And.intro (a := noPtr _ = true) ?_ ?_; focus (simp [Ty.d]; done))
        | (refine And.intro (a := D.isPtr _ = false) ?_ ?_; focus (simp [Ty.d]; done))
        | refine Exists.intro _ (And.intro (Or.inl rfl) ?_)
        | refine Exists.intro _ (And.intro (Or.inr rfl) ?_)
        | (refine And.intro (a := isLst _ _ = true) ?_ ?_; focus (simp [Ty.d]; done))
        | (refine And.intro (a := isDct _ _ = true) ?_ ?_; focus (simp [Ty.d]; done))
        | (refine And.intro (a := List.length _ ≤ 15) ?_ ?_; focus (first | exact Nat.le_of_ble_eq_true rfl | (simp [Ty.d]; done)))
        | (refine And.intro (a := List.length _ ≤ lim) ?_ ?_; focus (first | exact Nat.le_of_ble_eq_true rfl | (simp [Ty.d]; done)))
        | refine W.turn ?_
        | (refine IfB.i (fun _ => ?_) (fun (e : _ = false) => False.elim ?_); rotate_left; focus (simp [Ty.d] at e; done))
        | (refine IfB.i (fun (e : _ = true) => False.elim ?_) (fun _ => ?_); focus (simp [Ty.d] at e; done))
        | refine And.intro (fun _ => ?_) (fun (z : true = false) => nomatch z)
        | refine And.intro (fun (z : false = true) => nomatch z) (fun _ => ?_)
        )
      exact ⟨.any, rfl, .any _, hd0.take hd⟩
  | fn a b iha ihb =>
    intro k S h hd0
    obtain ⟨k, rfl⟩ : ∃ j, k = j + 2 := ⟨k - 2, by omega⟩
    simp only [Ty.dep] at h
    refine call__law_vaguer ?_
    unfold b__law_vaguer
    repeat (first
      | refine Go.go ?_
      | refine draw_any rfl hd0 (by decide) (by decide) fun v S' h1 h2 hd => ?_
      | (refine Fin.data ?_ ?_; focus (simp []; done))
      | (refine fun r (hr : _ = r) => ?_; (try simp [] at hr); subst hr; first | refine OQ.is ?_ | refine W.ret ?_ | skip)
      | refine Exists.intro _ (And.intro rfl ?_)
      | (refine And.intro (a := noPtr _ = true) ?_ ?_; focus (simp []; done))
      | (refine And.intro (a := D.isPtr _ = false) ?_ ?_; focus (simp []; done))
      | refine Exists.intro _ (And.intro (Or.inl rfl) ?_)
      | refine Exists.intro _ (And.intro (Or.inr rfl) ?_)
      | (refine And.intro (a := isLst _ _ = true) ?_ ?_; focus (simp []; done))
      | (refine And.intro (a := isDct _ _ = true) ?_ ?_; focus (simp []; done))
      | (refine And.intro (a := List.length _ ≤ 15) ?_ ?_; focus (first | exact Nat.le_of_ble_eq_true rfl | (simp []; done)))
      | (refine And.intro (a := List.length _ ≤ lim) ?_ ?_; focus (first | exact Nat.le_of_ble_eq_true rfl | (simp []; done)))
      | refine W.turn ?_
      | (refine IfB.i (fun _ => ?_) (fun (e : _ = false) => False.elim ?_); rotate_left; focus (simp [] at e; done))
      | (refine IfB.i (fun (e : _ = true) => False.elim ?_) (fun _ => ?_); focus (simp [] at e; done))
      | refine And.intro (fun _ => ?_) (fun (z : true = false) => nomatch z)
      | refine And.intro (fun (z : false = true) => nomatch z) (fun _ => ?_)
      )
    refine IfB.i (fun e => ?_) (fun e => ?_)
    · repeat (first
        | refine Go.go ?_
        | (refine Fin.data ?_ ?_; focus (simp [Ty.d]; done))
        | (refine fun r (hr : _ = r) => ?_; (try simp [Ty.d] at hr); subst hr; first | refine OQ.is ?_ | refine W.ret ?_ | skip)
        | refine Exists.intro _ (And.intro rfl ?_)
        | (refine And.intro (a := noPtr _ = true) ?_ ?_; focus (simp [Ty.d]; done))
        | (refine And.intro (a := D.isPtr _ = false) ?_ ?_; focus (simp [Ty.d]; done))
        | refine Exists.intro _ (And.intro (Or.inl rfl) ?_)
        | refine Exists.intro _ (And.intro (Or.inr rfl) ?_)
        | (refine And.intro (a := isLst _ _ = true) ?_ ?_; focus (simp [Ty.d]; done))
        | (refine And.intro (a := isDct _ _ = true) ?_ ?_; focus (simp [Ty.d]; done))
        | (refine And.intro (a := List.length _ ≤ 15) ?_ ?_; focus (first | exact Nat.le_of_ble_eq_true rfl | (simp [Ty.d]; done)))
        | (refine And.intro (a := List.length _ ≤ lim) ?_ ?_; focus (first | exact Nat.le_of_ble_eq_true rfl | (simp [Ty.d]; done)))
        | refine W.turn ?_
        | (refine IfB.i (fun _ => ?_) (fun (e : _ = false) => False.elim ?_); rotate_left; focus (simp [Ty.d] at e; done))
        | (refine IfB.i (fun (e : _ = true) => False.elim ?_) (fun _ => ?_); focus (simp [Ty.d] at e; done))
        | refine And.intro (fun _ => ?_) (fun (z : true = false) => nomatch z)
        | refine And.intro (fun (z : false = true) => nomatch z) (fun _ => ?_)
        )
      exact ⟨.any, rfl, .any _, hd0.take hd⟩
    · repeat (first
        | refine Go.go ?_
        | (refine W.mono (iha _ _ (by omega) (by assumption)) ?_; rintro _ _ ⟨v1, rfl, hv1, hd1⟩)
        | (refine W.mono (ihb _ _ (by omega) (by assumption)) ?_; rintro _ _ ⟨v2, rfl, hv2, hd2⟩)
        | (refine Fin.data ?_ ?_; focus (simp [Ty.d]; done))
        | (refine fun r (hr : _ = r) => ?_; (try simp [Ty.d] at hr); subst hr; first | refine OQ.is ?_ | refine W.ret ?_ | skip)
        | refine Exists.intro _ (And.intro rfl ?_)
        | (refine And.intro (a := noPtr _ = true) ?_ ?_; focus (simp [Ty.d]; done))
        | (refine And.intro (a := D.isPtr _ = false) ?_ ?_; focus (simp [Ty.d]; done))
        | refine Exists.intro _ (And.intro (Or.inl rfl) ?_)
        | refine Exists.intro _ (And.intro (Or.inr rfl) ?_)
        | (refine And.intro (a := isLst _ _ = true) ?_ ?_; focus (simp [Ty.d]; done))
        | (refine And.intro (a := isDct _ _ = true) ?_ ?_; focus (simp [Ty.d]; done))
        | (refine And.intro (a := List.length _ ≤ 15) ?_ ?_; focus (first | exact Nat.le_of_ble_eq_true rfl | (simp [Ty.d]; done)))
        | (refine And.intro (a := List.length _ ≤ lim) ?_ ?_; focus (first | exact Nat.le_of_ble_eq_true rfl | (simp [Ty.d]; done)))
        | refine W.turn ?_
        | (refine IfB.i (fun _ => ?_) (fun (e : _ = false) => False.elim ?_); rotate_left; focus (simp [Ty.d] at e; done))
        | (refine IfB.i (fun (e : _ = true) => False.elim ?_) (fun _ => ?_); focus (simp [Ty.d] at e; done))
        | refine And.intro (fun _ => ?_) (fun (z : true = false) => nomatch z)
        | refine And.intro (fun (z : false = true) => nomatch z) (fun _ => ?_)
        )
      exact ⟨.fn v1 v2, rfl, .fn hv1 hv2, hd0.take hd2⟩
  | pair a b iha ihb =>
    intro k S h hd0
    obtain ⟨k, rfl⟩ : ∃ j, k = j + 2 := ⟨k - 2, by omega⟩
    simp only [Ty.dep] at h
    refine call__law_vaguer ?_
    unfold b__law_vaguer
    repeat (first
      | refine Go.go ?_
      | refine draw_any rfl hd0 (by decide) (by decide) fun v S' h1 h2 hd => ?_
      | (refine Fin.data ?_ ?_; focus (simp []; done))
      | (refine fun r (hr : _ = r) => ?_; (try simp [] at hr); subst hr; first | refine OQ.is ?_ | refine W.ret ?_ | skip)
      | refine Exists.intro _ (And.intro rfl ?_)
      | (refine And.intro (a := noPtr _ = true) ?_ ?_; focus (simp []; done))
      | (refine And.intro (a := D.isPtr _ = false) ?_ ?_; focus (simp []; done))
      | refine Exists.intro _ (And.intro (Or.inl rfl) ?_)
      | refine Exists.intro _ (And.intro (Or.inr rfl) ?_)
      | (refine And.intro (a := isLst _ _ = true) ?_ ?_; focus (simp []; done))
      | (refine And.intro (a := isDct _ _ = true) ?_ ?_; focus (simp []; done))
      | (refine And.intro (a := List.length _ ≤ 15) ?_ ?_; focus (first | exact Nat.le_of_ble_eq_true rfl | (simp []; done)))
      | (refine And.intro (a := List.length _ ≤ lim) ?_ ?_; focus (first | exact Nat.le_of_ble_eq_true rfl | (simp []; done)))
      | refine W.turn ?_
      | (refine IfB.i (fun _ => ?_) (fun (e : _ = false) => False.elim ?_); rotate_left; focus (simp [] at e; done))
      | (refine IfB.i (fun (e : _ = true) => False.elim ?_) (fun _ => ?_); focus (simp [] at e; done))
      | refine And.intro (fun _ => ?_) (fun (z : true = false) => nomatch z)
      | refine And.intro (fun (z : false = true) => nomatch z) (fun _ => ?_)
      )
    refine IfB.i (fun e => ?_) (fun e => ?_)
    · repeat (first
        | refine Go.go ?_
        | (refine Fin.data ?_ ?_; focus (simp [Ty.d]; done))
        | (refine fun r (hr : _ = r) => ?_; (try simp [Ty.d] at hr); subst hr; first | refine OQ.is ?_ | refine W.ret ?_ | skip)
        | refine Exists.intro _ (And.intro rfl ?_)
        | (refine And.intro (a := noPtr _ = true) ?_ ?_; focus (simp [Ty.d]; done))
        | (refine And.intro (a := D.isPtr _ = false) ?_ ?_; focus (simp [Ty.d]; done))
        | refine Exists.intro _ (And.intro (Or.inl rfl) ?_)
        | refine Exists.intro _ (And.intro (Or.inr rfl) ?_)
        | (refine And.intro (a := isLst _ _ = true) ?_ ?_; focus (simp [Ty.d]; done))
        | (refine And.intro (a := isDct _ _ = true) ?_ ?_; focus (simp [Ty.d]; done))
        | (refine And.intro (a := List.length _ ≤ 15) ?_ ?_; focus (first | exact Nat.le_of_ble_eq_true rfl | (simp [Ty.d]; done)))
        | (refine And.intro (a := List.length _ ≤ lim) ?_ ?_; focus (first | exact Nat.le_of_ble_eq_true rfl | (simp [Ty.d]; done)))
        | refine W.turn ?_
        | (refine IfB.i (fun _ => ?_) (fun (e : _ = false) => False.elim ?_); rotate_left; focus (simp [Ty.d] at e; done))
        | (refine IfB.i (fun (e : _ = true) => False.elim ?_) (fun _ => ?_); focus (simp [Ty.d] at e; done))
        | refine And.intro (fun _ => ?_) (fun (z : true = false) => nomatch z)
        | refine And.intro (fun (z : false = true) => nomatch z) (fun _ => ?_)
        )
      exact ⟨.any, rfl, .any _, hd0.take hd⟩
    · repeat (first
        | refine Go.go ?_
        | (refine W.mono (iha _ _ (by omega) (by assumption)) ?_; rintro _ _ ⟨v1, rfl, hv1, hd1⟩)
        | (refine W.mono (ihb _ _ (by omega) (by assumption)) ?_; rintro _ _ ⟨v2, rfl, hv2, hd2⟩)
        | (refine Fin.data ?_ ?_; focus (simp [Ty.d]; done))
        | (refine fun r (hr : _ = r) => ?_; (try simp [Ty.d] at hr); subst hr; first | refine OQ.is ?_ | refine W.ret ?_ | skip)
        | refine Exists.intro _ (And.intro rfl ?_)
        | (refine And.intro (a := noPtr _ = true) ?_ ?_; focus (simp [Ty.d]; done))
        | (refine And.intro (a := D.isPtr _ = false) ?_ ?_; focus (simp [Ty.d]; done))
        | refine Exists.intro _ (And.intro (Or.inl rfl) ?_)
        | refine Exists.intro _ (And.intro (Or.inr rfl) ?_)
        | (refine And.intro (a := isLst _ _ = true) ?_ ?_; focus (simp [Ty.d]; done))
        | (refine And.intro (a := isDct _ _ = true) ?_ ?_; focus (simp [Ty.d]; done))
        | (refine And.intro (a := List.length _ ≤ 15) ?_ ?_; focus (first | exact Nat.le_of_ble_eq_true rfl | (simp [Ty.d]; done)))
        | (refine And.intro (a := List.length _ ≤ lim) ?_ ?_; focus (first | exact Nat.le_of_ble_eq_true rfl | (simp [Ty.d]; done)))
        | refine W.turn ?_
        | (refine IfB.i (fun _ => ?_) (fun (e : _ = false) => False.elim ?_); rotate_left; focus (simp [Ty.d] at e; done))
        | (refine IfB.i (fun (e : _ = true) => False.elim ?_) (fun _ => ?_); focus (simp [Ty.d] at e; done))
        | refine And.intro (fun _ => ?_) (fun (z : true = false) => nomatch z)
        | refine And.intro (fun (z : false = true) => nomatch z) (fun _ => ?_)
        )
      exact ⟨.pair v1 v2, rfl, .pair hv1 hv2, hd0.take hd2⟩
  | list a iha =>
    intro k S h hd0
    obtain ⟨k, rfl⟩ : ∃ j, k = j + 2 := ⟨k - 2, by omega⟩
    simp only [Ty.dep] at h
    refine call__law_vaguer ?_
    unfold b__law_vaguer
    repeat (first
      | refine Go.go ?_
      | refine draw_any rfl hd0 (by decide) (by decide) fun v S' h1 h2 hd => ?_
      | (refine Fin.data ?_ ?_; focus (simp []; done))
      | (refine fun r (hr : _ = r) => ?_; (try simp [] at hr); subst hr; first | refine OQ.is ?_ | refine W.ret ?_ | skip)
      | refine Exists.intro _ (And.intro rfl ?_)
      | (refine And.intro (a := noPtr _ = true) ?_ ?_; focus (simp []; done))
      | (refine And.intro (a := D.isPtr _ = false) ?_ ?_; focus (simp []; done))
      | refine Exists.intro _ (And.intro (Or.inl rfl) ?_)
      | refine Exists.intro _ (And.intro (Or.inr rfl) ?_)
      | (refine And.intro (a := isLst _ _ = true) ?_ ?_; focus (simp []; done))
      | (refine And.intro (a := isDct _ _ = true) ?_ ?_; focus (simp []; done))
      | (refine And.intro (a := List.length _ ≤ 15) ?_ ?_; focus (first | exact Nat.le_of_ble_eq_true rfl | (simp []; done)))
      | (refine And.intro (a := List.length _ ≤ lim) ?_ ?_; focus (first | exact Nat.le_of_ble_eq_true rfl | (simp []; done)))
      | refine W.turn ?_
      | (refine IfB.i (fun _ => ?_) (fun (e : _ = false) => False.elim ?_); rotate_left; focus (simp [] at e; done))
      | (refine IfB.i (fun (e : _ = true) => False.elim ?_) (fun _ => ?_); focus (simp [] at e; done))
      | refine And.intro (fun _ => ?_) (fun (z : true = false) => nomatch z)
      | refine And.intro (fun (z : false = true) => nomatch z) (fun _ => ?_)
      )
    refine IfB.i (fun e => ?_) (fun e => ?_)
    · repeat (first
        | refine Go.go ?_
        | (refine Fin.data ?_ ?_; focus (simp [Ty.d]; done))
        | (refine fun r (hr : _ = r) => ?_; (try simp [Ty.d] at hr); subst hr; first | refine OQ.is ?_ | refine W.ret ?_ | skip)
        | refine Exists.intro _ (And.intro rfl ?_)
        | (refine And.intro (a := noPtr _ = true) ?_ ?_; focus (simp [Ty.d]; done))
        | (refine And.intro (a := D.isPtr _ = false) ?_ ?_; focus (simp [Ty.d]; done))
        | refine Exists.intro _ (And.intro (Or.inl rfl) ?_)
        | refine Exists.intro _ (And.intro (Or.inr rfl) ?_)
        | (refine And.intro (a := isLst _ _ = true) ?_ ?_; focus (simp [Ty.d]; done))
        | (refine And.intro (a := isDct _ _ = true) ?_ ?_; focus (simp [Ty.d]; done))
        | (refine And.intro (a := List.length _ ≤ 15) ?_ ?_; focus (first | exact Nat.le_of_ble_eq_true rfl | (simp [Ty.d]; done)))
        | (refine And.intro (a := List.length _ ≤ lim) ?_ ?_; focus (first | exact Nat.le_of_ble_eq_true rfl | (simp [Ty.d]; done)))
        | refine W.turn ?_
        | (refine IfB.i (fun _ => ?_) (fun (e : _ = false) => False.elim ?_); rotate_left; focus (simp [Ty.d] at e; done))
        | (refine IfB.i (fun (e : _ = true) => False.elim ?_) (fun _ => ?_); focus (simp [Ty.d] at e; done))
        | refine And.intro (fun _ => ?_) (fun (z : true = false) => nomatch z)
        | refine And.intro (fun (z : false = true) => nomatch z) (fun _ => ?_)
        )
      exact ⟨.any, rfl, .any _, hd0.take hd⟩
    · repeat (first
        | refine Go.go ?_
        | (refine W.mono (iha _ _ (by omega) (by assumption)) ?_; rintro _ _ ⟨v1, rfl, hv1, hd1⟩)
        | (refine Fin.data ?_ ?_; focus (simp [Ty.d]; done))
        | (refine fun r (hr : _ = r) => ?_; (try simp [Ty.d] at hr); subst hr; first | refine OQ.is ?_ | refine W.ret ?_ | skip)
        | refine Exists.intro _ (And.intro rfl ?_)
        | (refine And.intro (a := noPtr _ = true) ?_ ?_; focus (simp [Ty.d]; done))
        | (refine And.intro (a := D.isPtr _ = false) ?_ ?_; focus (simp [Ty.d]; done))
        | refine Exists.intro _ (And.intro (Or.inl rfl) ?_)
        | refine Exists.intro _ (And.intro (Or.inr rfl) ?_)
        | (refine And.intro (a := isLst _ _ = true) ?_ ?_; focus (simp [Ty.d]; done))
        | (refine And.intro (a := isDct _ _ = true) ?_ ?_; focus (simp [Ty.d]; done))
        | (refine And.intro (a := List.length _ ≤ 15) ?_ ?_; focus (first | exact Nat.le_of_ble_eq_true rfl | (simp [Ty.d]; done)))
        | (refine And.intro (a := List.length _ ≤ lim) ?_ ?_; focus (first | exact Nat.le_of_ble_eq_true rfl | (simp [Ty.d]; done)))
        | refine W.turn ?_
        | (refine IfB.i (fun _ => ?_) (fun (e : _ = false) => False.elim ?_); rotate_left; focus (simp [Ty.d] at e; done))
        | (refine IfB.i (fun (e : _ = true) => False.elim ?_) (fun _ => ?_); focus (simp [Ty.d] at e; done))
        | refine And.intro (fun _ => ?_) (fun (z : true = false) => nomatch z)
        | refine And.intro (fun (z : false = true) => nomatch z) (fun _ => ?_)
        )
      exact ⟨.list v1, rfl, .list hv1, hd0.take hd1⟩
/-! plain types -/
theorem run_plain : ∀ (n : Nat) (dp : Int) (k : Nat) (S : Store), dp = n + 1 → n + 1 < k → DW T S → W (callK prog k ix__law_plain [.ptr 0, .int dp] S) fun d S' => ∃ v : Ty, d = v.d ∧ v.plain = true ∧ v.dep ≤ n ∧ DW T S' := by
  intro n
  induction n with
  | zero =>
    intro dp k S hdp h hd0
    obtain ⟨k, rfl⟩ : ∃ j, k = j + 2 := ⟨k - 2, by omega⟩
    have e1 : ¬ (1 : Int) < dp := by omega
    refine call__law_plain ?_
    unfold b__law_plain
    repeat (first
      | refine Go.go ?_
      | refine draw_any rfl hd0 (by decide) (by decide) fun v S' h1 h2 hd => ?_
      | (refine Fin.data ?_ ?_; focus (simp [e1]; done))
      | (refine fun r (hr : _ = r) => ?_; (try simp [e1] at hr); subst hr; first | refine OQ.is ?_ | refine W.ret ?_ | skip)
      | refine Exists.intro _ (And.intro rfl ?_)
      | (refine And.intro (a := noPtr _ = true) ?_ ?_; focus (simp [e1]; done))
      | (refine And.intro (a := D.isPtr _ = false) ?_ ?_; focus (simp [e1]; done))
      | refine Exists.intro _ (And.intro (Or.inl rfl) ?_)
      | refine Exists.intro _ (And.intro (Or.inr rfl) ?_)
      | (refine And.intro (a := isLst _ _ = true) ?_ ?_; focus (simp [e1]; done))
      | (refine And.intro (a := isDct _ _ = true) ?_ ?_; focus (simp [e1]; done))
      | (refine And.intro (a := List.length _ ≤ 15) ?_ ?_; focus (first | exact Nat.le_of_ble_eq_true rfl | (simp [e1]; done)))
      | (refine And.intro (a := List.length _ ≤ lim) ?_ ?_; focus (first | exact Nat.le_of_ble_eq_true rfl | (simp [e1]; done)))
      | refine W.turn ?_
      | (refine IfB.i (fun _ => ?_) (fun (e : _ = false) => False.elim ?_); rotate_left; focus (simp [e1] at e; done))
      | (refine IfB.i (fun (e : _ = true) => False.elim ?_) (fun _ => ?_); focus (simp [e1] at e; done))
      | refine And.intro (fun _ => ?_) (fun (z : true = false) => nomatch z)
      | refine And.intro (fun (z : false = true) => nomatch z) (fun _ => ?_)
      )
    have hv : v = 0 ∨ v = 1 ∨ v = 2 := by omega
    rcases hv with rfl | rfl | rfl
    · repeat (first
        | refine Go.go ?_
        | (refine Fin.data ?_ ?_; focus (simp []; done))
        | (refine fun r (hr : _ = r) => ?_; (try simp [] at hr); subst hr; first | refine OQ.is ?_ | refine W.ret ?_ | skip)
        | refine Exists.intro _ (And.intro rfl ?_)
        | (refine And.intro (a := noPtr _ = true) ?_ ?_; focus (simp []; done))
        | (refine And.intro (a := D.isPtr _ = false) ?_ ?_; focus (simp []; done))
        | refine Exists.intro _ (And.intro (Or.inl rfl) ?_)
        | refine Exists.intro _ (And.intro (Or.inr rfl) ?_)
        | (refine And.intro (a := isLst _ _ = true) ?_ ?_; focus (simp []; done))
        | (refine And.intro (a := isDct _ _ = true) ?_ ?_; focus (simp []; done))
        | (refine And.intro (a := List.length _ ≤ 15) ?_ ?_; focus (first | exact Nat.le_of_ble_eq_true rfl | (simp []; done)))
        | (refine And.intro (a := List.length _ ≤ lim) ?_ ?_; focus (first | exact Nat.le_of_ble_eq_true rfl | (simp []; done)))
        | refine W.turn ?_
        | (refine IfB.i (fun _ => ?_) (fun (e : _ = false) => False.elim ?_); rotate_left; focus (simp [] at e; done))
        | (refine IfB.i (fun (e : _ = true) => False.elim ?_) (fun _ => ?_); focus (simp [] at e; done))
        | refine And.intro (fun _ => ?_) (fun (z : true = false) => nomatch z)
        | refine And.intro (fun (z : false = true) => nomatch z) (fun _ => ?_)
        )
      exact ⟨.int, rfl, rfl, Nat.le_refl _, hd0.take hd⟩
    · repeat (first
        | refine Go.go ?_
        | (refine Fin.data ?_ ?_; focus (simp []; done))
        | (refine fun r (hr : _ = r) => ?_; (try simp [] at hr); subst hr; first | refine OQ.is ?_ | refine W.ret ?_ | skip)
        | refine Exists.intro _ (And.intro rfl ?_)
        | (refine And.intro (a := noPtr _ = true) ?_ ?_; focus (simp []; done))
        | (refine And.intro (a := D.isPtr _ = false) ?_ ?_; focus (simp []; done))
        | refine Exists.intro _ (And.intro (Or.inl rfl) ?_)
        | refine Exists.intro _ (And.intro (Or.inr rfl) ?_)
        | (refine And.intro (a := isLst _ _ = true) ?_ ?_; focus (simp []; done))
        | (refine And.intro (a := isDct _ _ = true) ?_ ?_; focus (simp []; done))
        | (refine And.intro (a := List.length _ ≤ 15) ?_ ?_; focus (first | exact Nat.le_of_ble_eq_true rfl | (simp []; done)))
        | (refine And.intro (a := List.length _ ≤ lim) ?_ ?_; focus (first | exact Nat.le_of_ble_eq_true rfl | (simp []; done)))
        | refine W.turn ?_
        | (refine IfB.i (fun _ => ?_) (fun (e : _ = false) => False.elim ?_); rotate_left; focus (simp [] at e; done))
        | (refine IfB.i (fun (e : _ = true) => False.elim ?_) (fun _ => ?_); focus (simp [] at e; done))
        | refine And.intro (fun _ => ?_) (fun (z : true = false) => nomatch z)
        | refine And.intro (fun (z : false = true) => nomatch z) (fun _ => ?_)
        )
      exact ⟨.bool, rfl, rfl, Nat.le_refl _, hd0.take hd⟩
    · repeat (first
        | refine Go.go ?_
        | (refine Fin.data ?_ ?_; focus (simp []; done))
        | (refine fun r (hr : _ = r) => ?_; (try simp [] at hr); subst hr; first | refine OQ.is ?_ | refine W.ret ?_ | skip)
        | refine Exists.intro _ (And.intro rfl ?_)
        | (refine And.intro (a := noPtr _ = true) ?_ ?_; focus (simp []; done))
        | (refine And.intro (a := D.isPtr _ = false) ?_ ?_; focus (simp []; done))
        | refine Exists.intro _ (And.intro (Or.inl rfl) ?_)
        | refine Exists.intro _ (And.intro (Or.inr rfl) ?_)
        | (refine And.intro (a := isLst _ _ = true) ?_ ?_; focus (simp []; done))
        | (refine And.intro (a := isDct _ _ = true) ?_ ?_; focus (simp []; done))
        | (refine And.intro (a := List.length _ ≤ 15) ?_ ?_; focus (first | exact Nat.le_of_ble_eq_true rfl | (simp []; done)))
        | (refine And.intro (a := List.length _ ≤ lim) ?_ ?_; focus (first | exact Nat.le_of_ble_eq_true rfl | (simp []; done)))
        | refine W.turn ?_
        | (refine IfB.i (fun _ => ?_) (fun (e : _ = false) => False.elim ?_); rotate_left; focus (simp [] at e; done))
        | (refine IfB.i (fun (e : _ = true) => False.elim ?_) (fun _ => ?_); focus (simp [] at e; done))
        | refine And.intro (fun _ => ?_) (fun (z : true = false) => nomatch z)
        | refine And.intro (fun (z : false = true) => nomatch z) (fun _ => ?_)
        )
      exact ⟨.any, rfl, rfl, Nat.le_refl _, hd0.take hd⟩
  | succ n ih =>
    intro dp k S hdp h hd0
    obtain ⟨k, rfl⟩ : ∃ j, k = j + 2 := ⟨k - 2, by omega⟩
    have e1 : (1 : Int) < dp := by omega
    refine call__law_plain ?_
    unfold b__law_plain
    repeat (first
      | refine Go.go ?_
      | refine draw_any rfl hd0 (by decide) (by decide) fun v S' h1 h2 hd => ?_
      | (refine Fin.data ?_ ?_; focus (simp [e1]; done))
      | (refine fun r (hr : _ = r) => ?_; (try simp [e1] at hr); subst hr; first | refine OQ.is ?_ | refine W.ret ?_ | skip)
      | refine Exists.intro _ (And.intro rfl ?_)
      | (refine And.intro (a := noPtr _ = true) ?_ ?_; focus (simp [e1]; done))
      | (refine And.intro (a := D.isPtr _ = false) ?_ ?_; focus (simp [e1]; done))
      | refine Exists.intro _ (And.intro (Or.inl rfl) ?_)
      | refine Exists.intro _ (And.intro (Or.inr rfl) ?_)
      | (refine And.intro (a := isLst _ _ = true) ?_ ?_; focus (simp [e1]; done))
      | (refine And.intro (a := isDct _ _ = true) ?_ ?_; focus (simp [e1]; done))
      | (refine And.intro (a := List.length _ ≤ 15) ?_ ?_; focus (first | exact Nat.le_of_ble_eq_true rfl | (simp [e1]; done)))
      | (refine And.intro (a := List.length _ ≤ lim) ?_ ?_; focus (first | exact Nat.le_of_ble_eq_true rfl | (simp [e1]; done)))
      | refine W.turn ?_
      | (refine IfB.i (fun _ => ?_) (fun (e : _ = false) => False.elim ?_); rotate_left; focus (simp [e1] at e; done))
      | (refine IfB.i (fun (e : _ = true) => False.elim ?_) (fun _ => ?_); focus (simp [e1] at e; done))
      | refine And.intro (fun _ => ?_) (fun (z : true = false) => nomatch z)
      | refine And.intro (fun (z : false = true) => nomatch z) (fun _ => ?_)
      )
    have hv : v = 0 ∨ v = 1 ∨ v = 2 ∨ v = 3 ∨ 3 < v := by omega
    rcases hv with rfl | rfl | rfl | rfl | hv
    · repeat (first
        | refine Go.go ?_
        | (refine Fin.data ?_ ?_; focus (simp []; done))
        | (refine fun r (hr : _ = r) => ?_; (try simp [] at hr); subst hr; first | refine OQ.is ?_ | refine W.ret ?_ | skip)
        | refine Exists.intro _ (And.intro rfl ?_)
        | (refine And.intro (a := noPtr _ = true) ?_ ?_; focus (simp []; done))
        | (refine And.intro (a := D.isPtr _ = false) ?_ ?_; focus (simp []; done))
        | refine Exists.intro _ (And.intro (Or.inl rfl) ?_)
        | refine Exists.intro _ (And.intro (Or.inr rfl) ?_)
        | (refine And.intro (a := isLst _ _ = true) ?_ ?_; focus (simp []; done))
        | (refine And.intro (a := isDct _ _ = true) ?_ ?_; focus (simp []; done))
        | (refine And.intro (a := List.length _ ≤ 15) ?_ ?_; focus (first | exact Nat.le_of_ble_eq_true rfl | (simp []; done)))
        | (refine And.intro (a := List.length _ ≤ lim) ?_ ?_; focus (first | exact Nat.le_of_ble_eq_true rfl | (simp []; done)))
        | refine W.turn ?_
        | (refine IfB.i (fun _ => ?_) (fun (e : _ = false) => False.elim ?_); rotate_left; focus (simp [] at e; done))
        | (refine IfB.i (fun (e : _ = true) => False.elim ?_) (fun _ => ?_); focus (simp [] at e; done))
        | refine And.intro (fun _ => ?_) (fun (z : true = false) => nomatch z)
        | refine And.intro (fun (z : false = true) => nomatch z) (fun _ => ?_)
        )
      exact ⟨.int, rfl, rfl, Nat.zero_le _, hd0.take hd⟩
    · repeat (first
        | refine Go.go ?_
        | (refine Fin.data ?_ ?_; focus (simp []; done))
        | (refine fun r (hr : _ = r) => ?_; (try simp [] at hr); subst hr; first | refine OQ.is ?_ | refine W.ret ?_ | skip)
        | refine Exists.intro _ (And.intro rfl ?_)
        | (refine And.intro (a := noPtr _ = true) ?_ ?_; focus (simp []; done))
        | (refine And.intro (a := D.isPtr _ = false) ?_ ?_; focus (simp []; done))
        | refine Exists.intro _ (And.intro (Or.inl rfl) ?_)
        | refine Exists.intro _ (And.intro (Or.inr rfl) ?_)
        | (refine And.intro (a := isLst _ _ = true) ?_ ?_; focus (simp []; done))
        | (refine And.intro (a := isDct _ _ = true) ?_ ?_; focus (simp []; done))
        | (refine And.intro (a := List.length _ ≤ 15) ?_ ?_; focus (first | exact Nat.le_of_ble_eq_true rfl | (simp []; done)))
        | (refine And.intro (a := List.length _ ≤ lim) ?_ ?_; focus (first | exact Nat.le_of_ble_eq_true rfl | (simp []; done)))
        | refine W.turn ?_
        | (refine IfB.i (fun _ => ?_) (fun (e : _ = false) => False.elim ?_); rotate_left; focus (simp [] at e; done))
        | (refine IfB.i (fun (e : _ = true) => False.elim ?_) (fun _ => ?_); focus (simp [] at e; done))
        | refine And.intro (fun _ => ?_) (fun (z : true = false) => nomatch z)
        | refine And.intro (fun (z : false = true) => nomatch z) (fun _ => ?_)
        )
      exact ⟨.bool, rfl, rfl, Nat.zero_le _, hd0.take hd⟩
    · repeat (first
        | refine Go.go ?_
        | (refine Fin.data ?_ ?_; focus (simp []; done))
        | (refine fun r (hr : _ = r) => ?_; (try simp [] at hr); subst hr; first | refine OQ.is ?_ | refine W.ret ?_ | skip)
        | refine Exists.intro _ (And.intro rfl ?_)
        | (refine And.intro (a := noPtr _ = true) ?_ ?_; focus (simp []; done))
        | (refine And.intro (a := D.isPtr _ = false) ?_ ?_; focus (simp []; done))
        | refine Exists.intro _ (And.intro (Or.inl rfl) ?_)
        | refine Exists.intro _ (And.intro (Or.inr rfl) ?_)
        | (refine And.intro (a := isLst _ _ = true) ?_ ?_; focus (simp []; done))
        | (refine And.intro (a := isDct _ _ = true) ?_ ?_; focus (simp []; done))
        | (refine And.intro (a := List.length _ ≤ 15) ?_ ?_; focus (first | exact Nat.le_of_ble_eq_true rfl | (simp []; done)))
        | (refine And.intro (a := List.length _ ≤ lim) ?_ ?_; focus (first | exact Nat.le_of_ble_eq_true rfl | (simp []; done)))
        | refine W.turn ?_
        | (refine IfB.i (fun _ => ?_) (fun (e : _ = false) => False.elim ?_); rotate_left; focus (simp [] at e; done))
        | (refine IfB.i (fun (e : _ = true) => False.elim ?_) (fun _ => ?_); focus (simp [] at e; done))
        | refine And.intro (fun _ => ?_) (fun (z : true = false) => nomatch z)
        | refine And.intro (fun (z : false = true) => nomatch z) (fun _ => ?_)
        )
      exact ⟨.any, rfl, rfl, Nat.zero_le _, hd0.take hd⟩
    · repeat (first
        | refine Go.go ?_
        | (refine W.mono (ih _ _ _ (by omega) (by omega) (by assumption)) ?_; rintro _ _ ⟨v1, rfl, hp1, hv1, hd1⟩)
        | (refine Fin.data ?_ ?_; focus (simp []; done))
        | (refine fun r (hr : _ = r) => ?_; (try simp [] at hr); subst hr; first | refine OQ.is ?_ | refine W.ret ?_ | skip)
        | refine Exists.intro _ (And.intro rfl ?_)
        | (refine And.intro (a := noPtr _ = true) ?_ ?_; focus (simp []; done))
        | (refine And.intro (a := D.isPtr _ = false) ?_ ?_; focus (simp []; done))
        | refine Exists.intro _ (And.intro (Or.inl rfl) ?_)
        | refine Exists.intro _ (And.intro (Or.inr rfl) ?_)
        | (refine And.intro (a := isLst _ _ = true) ?_ ?_; focus (simp []; done))
        | (refine And.intro (a := isDct _ _ = true) ?_ ?_; focus (simp []; done))
        | (refine And.intro (a := List.length _ ≤ 15) ?_ ?_; focus (first | exact Nat.le_of_ble_eq_true rfl | (simp []; done)))
        | (refine And.intro (a := List.length _ ≤ lim) ?_ ?_; focus (first | exact Nat.le_of_ble_eq_true rfl | (simp []; done)))
        | refine W.turn ?_
        | (refine IfB.i (fun _ => ?_) (fun (e : _ = false) => False.elim ?_); rotate_left; focus (simp [] at e; done))
        | (refine IfB.i (fun (e : _ = true) => False.elim ?_) (fun _ => ?_); focus (simp [] at e; done))
        | refine And.intro (fun _ => ?_) (fun (z : true = false) => nomatch z)
        | refine And.intro (fun (z : false = true) => nomatch z) (fun _ => ?_)
        )
      exact ⟨.list v1, rfl, hp1, by simp only [Ty.dep]; omega, hd0.take hd1⟩
    · have e3 : ¬ v < 3 := by omega
      have e4 : ¬ v = 3 := by omega
      repeat (first
        | refine Go.go ?_
        | (refine W.mono (ih _ _ _ (by omega) (by omega) (by assumption)) ?_; rintro _ _ ⟨v1, rfl, hp1, hv1, hd1⟩)
        | (refine Fin.data ?_ ?_; focus (simp [e3, e4]; done))
        | (refine fun r (hr : _ = r) => ?_; (try simp [e3, e4] at hr); subst hr; first | refine OQ.is ?_ | refine W.ret ?_ | skip)
        | refine Exists.intro _ (And.intro rfl ?_)
        | (refine And.intro (a := noPtr _ = true) ?_ ?_; focus (simp [e3, e4]; done))
        | (refine And.intro (a := D.isPtr _ = false) ?_ ?_; focus (simp [e3, e4]; done))
        | refine Exists.intro _ (And.intro (Or.inl rfl) ?_)
        | refine Exists.intro _ (And.intro (Or.inr rfl) ?_)
        | (refine And.intro (a := isLst _ _ = true) ?_ ?_; focus (simp [e3, e4]; done))
        | (refine And.intro (a := isDct _ _ = true) ?_ ?_; focus (simp [e3, e4]; done))
        | (refine And.intro (a := List.length _ ≤ 15) ?_ ?_; focus (first | exact Nat.le_of_ble_eq_true rfl | (simp [e3, e4]; done)))
        | (refine And.intro (a := List.length _ ≤ lim) ?_ ?_; focus (first | exact Nat.le_of_ble_eq_true rfl | (simp [e3, e4]; done)))
        | refine W.turn ?_
        | (refine IfB.i (fun _ => ?_) (fun (e : _ = false) => False.elim ?_); rotate_left; focus (simp [e3, e4] at e; done))
        | (refine IfB.i (fun (e : _ = true) => False.elim ?_) (fun _ => ?_); focus (simp [e3, e4] at e; done))
        | refine And.intro (fun _ => ?_) (fun (z : true = false) => nomatch z)
        | refine And.intro (fun (z : false = true) => nomatch z) (fun _ => ?_)
        )
      exact ⟨.pair _ _, rfl, by simp only [Ty.plain, Bool.and_eq_true]; exact ⟨by assumption, by assumption⟩, by simp only [Ty.dep]; omega, hd0.take (by assumption)⟩
/-! values -/
inductive Vt where
  | int (i : Int) | bool (b : Bool) | pair (a b : Vt) | items (l : List Vt) | tag (g : Ty) (v : Vt)
mutual
def Vt.d : Vt → D
  | .int i => .tup [.str "int", .int i]
  | .bool b => .tup [.str "bool", .bl b]
  | .pair a b => .tup [.str "pair", a.d, b.d]
  | .items l => .tup [.str "items", .tup (Vt.ds l)]
  | .tag g v => .tup [.str "tag", g.d, v.d]
def Vt.ds : List Vt → List D
  | [] => []
  | v :: l => v.d :: Vt.ds l
end
mutual
def Vt.dep : Vt → Nat
  | .pair a b => max a.dep b.dep + 1
  | .items l => max (Vt.deps l) l.length + 1
  | .tag _ v => v.dep + 1
  | _ => 0
def Vt.deps : List Vt → Nat
  | [] => 0
  | v :: l => max v.dep (Vt.deps l)
end
@[simp] theorem Vt.d_np (t : Vt) : t.d.isPtr = false := by cases t <;> simp only [Vt.d] <;> rfl
@[simp] theorem Vt.d_deref (t : Vt) {S : Store} : deref S t.d = t.d := deref_data t.d_np
def Ty.vd : Ty → Nat
  | .any => 1
  | .fn a b => max a.vd b.vd + 1
  | .pair a b => max a.vd b.vd + 1
  | .list a => a.vd + 1
  | _ => 0
theorem Ty.vd_le (t : Ty) : t.vd ≤ t.dep + 1 := by
  induction t <;> simp only [Ty.vd, Ty.dep] <;> omega
mutual
def Vt.bare : Vt → Vt
  | .pair a b => .pair a.bare b.bare
  | .items l => .items (Vt.bares l)
  | .tag _ v => v.bare
  | v => v
def Vt.bares : List Vt → List Vt
  | [] => []
  | v :: l => v.bare :: Vt.bares l
end
theorem ds_map : ∀ l : List Vt, Vt.ds l = l.map Vt.d
  | [] => rfl
  | v :: l => by rw [Vt.ds, ds_map l]; rfl
theorem bares_map : ∀ l : List Vt, Vt.bares l = l.map Vt.bare
  | [] => rfl
  | v :: l => by rw [Vt.bares, bares_map l]; rfl
theorem deps_mem : ∀ {l : List Vt} {v : Vt}, v ∈ l → v.dep ≤ Vt.deps l
  | a :: l, v, h => by
    rw [Vt.deps]
    rcases List.mem_cons.mp h with e | h
    · rw [e]; omega
    · have := deps_mem h; omega
mutual
theorem bare_dep : ∀ v : Vt, v.bare.dep ≤ v.dep
  | .pair a b => by have := bare_dep a; have := bare_dep b; simp only [Vt.bare, Vt.dep]; omega
  | .items l => by have := bares_dep l; simp only [Vt.bare, Vt.dep, bares_map, List.length_map] at *; omega
  | .tag g v => by have := bare_dep v; simp only [Vt.bare, Vt.dep]; omega
  | .int _ => by simp [Vt.bare]
  | .bool _ => by simp [Vt.bare]
theorem bares_dep : ∀ l : List Vt, Vt.deps (Vt.bares l) ≤ Vt.deps l
  | [] => by simp [Vt.bares]
  | v :: l => by have := bare_dep v; have := bares_dep l; simp only [Vt.bares, Vt.deps]; omega
end
theorem run_bare : ∀ (k : Nat) (v : Vt) (S : Store), v.dep < k → v.dep ≤ 1000 → callK prog k ix__law_bare [v.d] S = some (v.bare.d, S) := by
  intro k
  induction k with
  | zero => intro v S h; omega
  | succ k ih =>
    intro v S h h2
    refine W.get (call__law_bare ?_)
    unfold b__law_bare
    cases v with
    | int i =>
      repeat (first
        | refine Go.go ?_
        | (refine Fin.data ?_ ?_; focus (simp [Vt.d]; done))
        | (refine fun r (hr : _ = r) => ?_; (try simp [Vt.d] at hr); subst hr; first | refine OQ.is ?_ | refine W.ret ?_ | skip)
        | refine Exists.intro _ (And.intro rfl ?_)
        | (refine And.intro (a := noPtr _ = true) ?_ ?_; focus (simp [Vt.d]; done))
        | (refine And.intro (a := D.isPtr _ = false) ?_ ?_; focus (simp [Vt.d]; done))
        | refine Exists.intro _ (And.intro (Or.inl rfl) ?_)
        | refine Exists.intro _ (And.intro (Or.inr rfl) ?_)
        | (refine And.intro (a := isLst _ _ = true) ?_ ?_; focus (simp [Vt.d]; done))
        | (refine And.intro (a := isDct _ _ = true) ?_ ?_; focus (simp [Vt.d]; done))
        | (refine And.intro (a := List.length _ ≤ 15) ?_ ?_; focus (first | exact Nat.le_of_ble_eq_true rfl | (simp [Vt.d]; done)))
        | (refine And.intro (a := List.length _ ≤ lim) ?_ ?_; focus (first | exact Nat.le_of_ble_eq_true rfl | (simp [Vt.d]; done)))
        | refine W.turn ?_
        | (refine IfB.i (fun _ => ?_) (fun (e : _ = false) => False.elim ?_); rotate_left; focus (simp [Vt.d] at e; done))
        | (refine IfB.i (fun (e : _ = true) => False.elim ?_) (fun _ => ?_); focus (simp [Vt.d] at e; done))
        | refine And.intro (fun _ => ?_) (fun (z : true = false) => nomatch z)
        | refine And.intro (fun (z : false = true) => nomatch z) (fun _ => ?_)
        )
      exact ⟨by simp [Vt.bare, Vt.d], by simp⟩
    | bool i =>
      repeat (first
        | refine Go.go ?_
        | (refine Fin.data ?_ ?_; focus (simp [Vt.d]; done))
        | (refine fun r (hr : _ = r) => ?_; (try simp [Vt.d] at hr); subst hr; first | refine OQ.is ?_ | refine W.ret ?_ | skip)
        | refine Exists.intro _ (And.intro rfl ?_)
        | (refine And.intro (a := noPtr _ = true) ?_ ?_; focus (simp [Vt.d]; done))
        | (refine And.intro (a := D.isPtr _ = false) ?_ ?_; focus (simp [Vt.d]; done))
        | refine Exists.intro _ (And.intro (Or.inl rfl) ?_)
        | refine Exists.intro _ (And.intro (Or.inr rfl) ?_)
        | (refine And.intro (a := isLst _ _ = true) ?_ ?_; focus (simp [Vt.d]; done))
        | (refine And.intro (a := isDct _ _ = true) ?_ ?_; focus (simp [Vt.d]; done))
        | (refine And.intro (a := List.length _ ≤ 15) ?_ ?_; focus (first | exact Nat.le_of_ble_eq_true rfl | (simp [Vt.d]; done)))
        | (refine And.intro (a := List.length _ ≤ lim) ?_ ?_; focus (first | exact Nat.le_of_ble_eq_true rfl | (simp [Vt.d]; done)))
        | refine W.turn ?_
        | (refine IfB.i (fun _ => ?_) (fun (e : _ = false) => False.elim ?_); rotate_left; focus (simp [Vt.d] at e; done))
        | (refine IfB.i (fun (e : _ = true) => False.elim ?_) (fun _ => ?_); focus (simp [Vt.d] at e; done))
        | refine And.intro (fun _ => ?_) (fun (z : true = false) => nomatch z)
        | refine And.intro (fun (z : false = true) => nomatch z) (fun _ => ?_)
        )
      exact ⟨by simp [Vt.bare, Vt.d], by simp⟩
    | tag g v =>
      simp only [Vt.dep] at h h2
      repeat (first
        | refine Go.go ?_
        | refine W.eq (ih v _ (by omega) (by omega)) ?_
        | (refine Fin.data ?_ ?_; focus (simp [Vt.d]; done))
        | (refine fun r (hr : _ = r) => ?_; (try simp [Vt.d] at hr); subst hr; first | refine OQ.is ?_ | refine W.ret ?_ | skip)
        | refine Exists.intro _ (And.intro rfl ?_)
        | (refine And.intro (a := noPtr _ = true) ?_ ?_; focus (simp [Vt.d]; done))
        | (refine And.intro (a := D.isPtr _ = false) ?_ ?_; focus (simp [Vt.d]; done))
        | refine Exists.intro _ (And.intro (Or.inl rfl) ?_)
        | refine Exists.intro _ (And.intro (Or.inr rfl) ?_)
        | (refine And.intro (a := isLst _ _ = true) ?_ ?_; focus (simp [Vt.d]; done))
        | (refine And.intro (a := isDct _ _ = true) ?_ ?_; focus (simp [Vt.d]; done))
        | (refine And.intro (a := List.length _ ≤ 15) ?_ ?_; focus (first | exact Nat.le_of_ble_eq_true rfl | (simp [Vt.d]; done)))
        | (refine And.intro (a := List.length _ ≤ lim) ?_ ?_; focus (first | exact Nat.le_of_ble_eq_true rfl | (simp [Vt.d]; done)))
        | refine W.turn ?_
        | (refine IfB.i (fun _ => ?_) (fun (e : _ = false) => False.elim ?_); rotate_left; focus (simp [Vt.d] at e; done))
        | (refine IfB.i (fun (e : _ = true) => False.elim ?_) (fun _ => ?_); focus (simp [Vt.d] at e; done))
        | refine And.intro (fun _ => ?_) (fun (z : true = false) => nomatch z)
        | refine And.intro (fun (z : false = true) => nomatch z) (fun _ => ?_)
        )
      exact ⟨by simp [Vt.bare], by simp⟩
    | pair a b =>
      simp only [Vt.dep] at h h2
      repeat (first
        | refine Go.go ?_
        | refine W.eq (ih a _ (by omega) (by omega)) ?_
        | refine W.eq (ih b _ (by omega) (by omega)) ?_
        | (refine Fin.data ?_ ?_; focus (simp [Vt.d]; done))
        | (refine fun r (hr : _ = r) => ?_; (try simp [Vt.d] at hr); subst hr; first | refine OQ.is ?_ | refine W.ret ?_ | skip)
        | refine Exists.intro _ (And.intro rfl ?_)
        | (refine And.intro (a := noPtr _ = true) ?_ ?_; focus (simp [Vt.d]; done))
        | (refine And.intro (a := D.isPtr _ = false) ?_ ?_; focus (simp [Vt.d]; done))
        | refine Exists.intro _ (And.intro (Or.inl rfl) ?_)
        | refine Exists.intro _ (And.intro (Or.inr rfl) ?_)
        | (refine And.intro (a := isLst _ _ = true) ?_ ?_; focus (simp [Vt.d]; done))
        | (refine And.intro (a := isDct _ _ = true) ?_ ?_; focus (simp [Vt.d]; done))
        | (refine And.intro (a := List.length _ ≤ 15) ?_ ?_; focus (first | exact Nat.le_of_ble_eq_true rfl | (simp [Vt.d]; done)))
        | (refine And.intro (a := List.length _ ≤ lim) ?_ ?_; focus (first | exact Nat.le_of_ble_eq_true rfl | (simp [Vt.d]; done)))
        | refine W.turn ?_
        | (refine IfB.i (fun _ => ?_) (fun (e : _ = false) => False.elim ?_); rotate_left; focus (simp [Vt.d] at e; done))
        | (refine IfB.i (fun (e : _ = true) => False.elim ?_) (fun _ => ?_); focus (simp [Vt.d] at e; done))
        | refine And.intro (fun _ => ?_) (fun (z : true = false) => nomatch z)
        | refine And.intro (fun (z : false = true) => nomatch z) (fun _ => ?_)
        )
      exact ⟨by simp [Vt.bare, Vt.d], by simp⟩
    | items l =>
      simp only [Vt.dep] at h h2
      repeat (first
        | refine Go.go ?_
        | refine W.lcMapG (f := fun v : Vt => v.bare.d) ?_ ?_
        | (refine Fin.data ?_ ?_; focus (simp [Vt.d, ds_map]; done))
        | (refine fun r (hr : _ = r) => ?_; (try simp [Vt.d, ds_map] at hr); subst hr; first | refine OQ.is ?_ | refine W.ret ?_ | skip)
        | refine Exists.intro _ (And.intro rfl ?_)
        | (refine And.intro (a := noPtr _ = true) ?_ ?_; focus (simp [Vt.d, ds_map]; done))
        | (refine And.intro (a := D.isPtr _ = false) ?_ ?_; focus (simp [Vt.d, ds_map]; done))
        | refine Exists.intro _ (And.intro (Or.inl rfl) ?_)
        | refine Exists.intro _ (And.intro (Or.inr rfl) ?_)
        | (refine And.intro (a := isLst _ _ = true) ?_ ?_; focus (simp [Vt.d, ds_map]; done))
        | (refine And.intro (a := isDct _ _ = true) ?_ ?_; focus (simp [Vt.d, ds_map]; done))
        | (refine And.intro (a := List.length _ ≤ 15) ?_ ?_; focus (first | exact Nat.le_of_ble_eq_true rfl | (simp [Vt.d, ds_map]; done)))
        | (refine And.intro (a := List.length _ ≤ lim) ?_ ?_; focus (first | exact Nat.le_of_ble_eq_true rfl | (simp [Vt.d, ds_map]; done)))
        | refine W.turn ?_
        | (refine IfB.i (fun _ => ?_) (fun (e : _ = false) => False.elim ?_); rotate_left; focus (simp [Vt.d, ds_map] at e; done))
        | (refine IfB.i (fun (e : _ = true) => False.elim ?_) (fun _ => ?_); focus (simp [Vt.d, ds_map] at e; done))
        | refine And.intro (fun _ => ?_) (fun (z : true = false) => nomatch z)
        | refine And.intro (fun (z : false = true) => nomatch z) (fun _ => ?_)
        )
      · intro x hx
        have := deps_mem hx
        repeat (first
          | refine Go.go ?_
          | refine W.eq (ih x _ (by omega) (by omega)) ?_
          | (refine Fin.data ?_ ?_; focus (simp []; done))
          | (refine fun r (hr : _ = r) => ?_; (try simp [] at hr); subst hr; first | refine OQ.is ?_ | refine W.ret ?_ | skip)
          | refine Exists.intro _ (And.intro rfl ?_)
          | (refine And.intro (a := noPtr _ = true) ?_ ?_; focus (simp []; done))
          | (refine And.intro (a := D.isPtr _ = false) ?_ ?_; focus (simp []; done))
          | refine Exists.intro _ (And.intro (Or.inl rfl) ?_)
          | refine Exists.intro _ (And.intro (Or.inr rfl) ?_)
          | (refine And.intro (a := isLst _ _ = true) ?_ ?_; focus (simp []; done))
          | (refine And.intro (a := isDct _ _ = true) ?_ ?_; focus (simp []; done))
          | (refine And.intro (a := List.length _ ≤ 15) ?_ ?_; focus (first | exact Nat.le_of_ble_eq_true rfl | (simp []; done)))
          | (refine And.intro (a := List.length _ ≤ lim) ?_ ?_; focus (first | exact Nat.le_of_ble_eq_true rfl | (simp []; done)))
          | refine W.turn ?_
          | (refine IfB.i (fun _ => ?_) (fun (e : _ = false) => False.elim ?_); rotate_left; focus (simp [] at e; done))
          | (refine IfB.i (fun (e : _ = true) => False.elim ?_) (fun _ => ?_); focus (simp [] at e; done))
          | refine And.intro (fun _ => ?_) (fun (z : true = false) => nomatch z)
          | refine And.intro (fun (z : false = true) => nomatch z) (fun _ => ?_)
          )
        exact ⟨rfl, rfl⟩
      · refine And.intro (by rw [List.length_map]; exact Nat.le_trans (show l.length ≤ 1000 by omega) (by decide)) ?_
        repeat (first
          | refine Go.go ?_
          | (refine Fin.data ?_ ?_; focus (simp []; done))
          | (refine fun r (hr : _ = r) => ?_; (try simp [] at hr); subst hr; first | refine OQ.is ?_ | refine W.ret ?_ | skip)
          | refine Exists.intro _ (And.intro rfl ?_)
          | (refine And.intro (a := noPtr _ = true) ?_ ?_; focus (simp []; done))
          | (refine And.intro (a := D.isPtr _ = false) ?_ ?_; focus (simp []; done))
          | refine Exists.intro _ (And.intro (Or.inl rfl) ?_)
          | refine Exists.intro _ (And.intro (Or.inr rfl) ?_)
          | (refine And.intro (a := isLst _ _ = true) ?_ ?_; focus (simp []; done))
          | (refine And.intro (a := isDct _ _ = true) ?_ ?_; focus (simp []; done))
          | (refine And.intro (a := List.length _ ≤ 15) ?_ ?_; focus (first | exact Nat.le_of_ble_eq_true rfl | (simp []; done)))
          | (refine And.intro (a := List.length _ ≤ lim) ?_ ?_; focus (first | exact Nat.le_of_ble_eq_true rfl | (simp []; done)))
          | refine W.turn ?_
          | (refine IfB.i (fun _ => ?_) (fun (e : _ = false) => False.elim ?_); rotate_left; focus (simp [] at e; done))
          | (refine IfB.i (fun (e : _ = true) => False.elim ?_) (fun _ => ?_); focus (simp [] at e; done))
          | refine And.intro (fun _ => ?_) (fun (z : true = false) => nomatch z)
          | refine And.intro (fun (z : false = true) => nomatch z) (fun _ => ?_)
          )
        exact ⟨by simp [Vt.bare, Vt.d, ds_map, bares_map], by simp⟩
mutual
def Vt.has : Vt → Ty → Bool
  | _, .any => true
  | .int _, .int => true
  | .bool _, .bool => true
  | .pair a b, .pair c d => a.has c && b.has d
  | .items l, .list c => Vt.hass l c
  | _, _ => false
def Vt.hass : List Vt → Ty → Bool
  | [], _ => true
  | v :: l, c => v.has c && Vt.hass l c
end
theorem Vt.has_any (v : Vt) : v.has .any = true := by cases v <;> simp [Vt.has]
theorem hass_all {c : Ty} : ∀ {l : List Vt}, Vt.hass l c = true ↔ ∀ v ∈ l, v.has c = true
  | [] => by simp [Vt.hass]
  | v :: l => by simp [Vt.hass, hass_all (l := l)]
theorem vals_of {k : Nat} {t : Ty} : ∀ {xs ys : List D}, All2 (fun _ y => ∃ v : Vt, y = v.d ∧ v.dep ≤ k ∧ v.bare.has t = true) xs ys → ys.length = xs.length ∧ ∃ l : List Vt, ys = Vt.ds l ∧ Vt.deps l ≤ k ∧ l.length = xs.length ∧ ∀ v ∈ l, v.bare.has t = true
  | _, _, .nil => ⟨rfl, [], rfl, by simp [Vt.deps], rfl, fun v z => nomatch z⟩
  | _, _, .cons ⟨v, e, h, hh⟩ t => by
    obtain ⟨h1, l, h2, h3, h4, h5⟩ := vals_of t
    exact ⟨by simp [h1], v :: l, by rw [Vt.ds, h2, e], by rw [Vt.deps]; omega, by simp [h4], fun w hw => by
      rcases List.mem_cons.mp hw with e | hw
      · rw [e]; exact hh
      · exact h5 w hw⟩
theorem run_value : ∀ (k : Nat) (t : Ty) (dp : Int) (S : Store), t.plain = true → t.vd + 2 * dp.toNat + 3 ≤ k → DW T S → W (callK prog k ix__law_value [.ptr 0, t.d, .int dp] S) fun d S' => ∃ v : Vt, d = v.d ∧ v.dep < k ∧ v.bare.has t = true ∧ DW T S' := by
  intro k
  induction k with
  | zero => intro t dp S hp h hd; omega
  | succ k ih =>
    intro t dp S hp h hd0
    obtain ⟨k, rfl⟩ : ∃ j, k = j + 1 := ⟨k - 1, by omega⟩
    refine call__law_value ?_
    unfold b__law_value
    cases t with
    | fn a b => cases hp
    | int =>
      repeat (first
        | refine Go.go ?_
        | refine draw_any rfl hd0 (by decide) (by decide) fun v S' h1 h2 hd => ?_
        | (refine Fin.data ?_ ?_; focus (simp [Ty.d]; done))
        | (refine fun r (hr : _ = r) => ?_; (try simp [Ty.d] at hr); subst hr; first | refine OQ.is ?_ | refine W.ret ?_ | skip)
        | refine Exists.intro _ (And.intro rfl ?_)
        | (refine And.intro (a := noPtr _ = true) ?_ ?_; focus (simp [Ty.d]; done))
        | (refine And.intro (a := D.isPtr _ = false) ?_ ?_; focus (simp [Ty.d]; done))
        | refine Exists.intro _ (And.intro (Or.inl rfl) ?_)
        | refine Exists.intro _ (And.intro (Or.inr rfl) ?_)
        | (refine And.intro (a := isLst _ _ = true) ?_ ?_; focus (simp [Ty.d]; done))
        | (refine And.intro (a := isDct _ _ = true) ?_ ?_; focus (simp [Ty.d]; done))
        | (refine And.intro (a := List.length _ ≤ 15) ?_ ?_; focus (first | exact Nat.le_of_ble_eq_true rfl | (simp [Ty.d]; done)))
        | (refine And.intro (a := List.length _ ≤ lim) ?_ ?_; focus (first | exact Nat.le_of_ble_eq_true rfl | (simp [Ty.d]; done)))
        | refine W.turn ?_
        | (refine IfB.i (fun _ => ?_) (fun (e : _ = false) => False.elim ?_); rotate_left; focus (simp [Ty.d] at e; done))
        | (refine IfB.i (fun (e : _ = true) => False.elim ?_) (fun _ => ?_); focus (simp [Ty.d] at e; done))
        | refine And.intro (fun _ => ?_) (fun (z : true = false) => nomatch z)
        | refine And.intro (fun (z : false = true) => nomatch z) (fun _ => ?_)
        )
      exact ⟨.int (v - 4), by simp [Vt.d], by simp [Vt.dep], by simp [Vt.bare, Vt.has], hd0.take hd⟩
    | bool =>
      repeat (first
        | refine Go.go ?_
        | refine draw_any rfl hd0 (by decide) (by decide) fun v S' h1 h2 hd => ?_
        | (refine Fin.data ?_ ?_; focus (simp [Ty.d]; done))
        | (refine fun r (hr : _ = r) => ?_; (try simp [Ty.d] at hr); subst hr; first | refine OQ.is ?_ | refine W.ret ?_ | skip)
        | refine Exists.intro _ (And.intro rfl ?_)
        | (refine And.intro (a := noPtr _ = true) ?_ ?_; focus (simp [Ty.d]; done))
        | (refine And.intro (a := D.isPtr _ = false) ?_ ?_; focus (simp [Ty.d]; done))
        | refine Exists.intro _ (And.intro (Or.inl rfl) ?_)
        | refine Exists.intro _ (And.intro (Or.inr rfl) ?_)
        | (refine And.intro (a := isLst _ _ = true) ?_ ?_; focus (simp [Ty.d]; done))
        | (refine And.intro (a := isDct _ _ = true) ?_ ?_; focus (simp [Ty.d]; done))
        | (refine And.intro (a := List.length _ ≤ 15) ?_ ?_; focus (first | exact Nat.le_of_ble_eq_true rfl | (simp [Ty.d]; done)))
        | (refine And.intro (a := List.length _ ≤ lim) ?_ ?_; focus (first | exact Nat.le_of_ble_eq_true rfl | (simp [Ty.d]; done)))
        | refine W.turn ?_
        | (refine IfB.i (fun _ => ?_) (fun (e : _ = false) => False.elim ?_); rotate_left; focus (simp [Ty.d] at e; done))
        | (refine IfB.i (fun (e : _ = true) => False.elim ?_) (fun _ => ?_); focus (simp [Ty.d] at e; done))
        | refine And.intro (fun _ => ?_) (fun (z : true = false) => nomatch z)
        | refine And.intro (fun (z : false = true) => nomatch z) (fun _ => ?_)
        )
      exact ⟨.bool (v == 0), by simp [Vt.d], by simp [Vt.dep], by simp [Vt.bare, Vt.has], hd0.take hd⟩
    | any =>
      simp only [Ty.vd] at h
      by_cases hdp : 0 < dp
      · repeat (first
          | refine Go.go ?_
          | refine draw_any rfl hd0 (by decide) (by decide) fun v S' h1 h2 hd => ?_
          | (refine Fin.data ?_ ?_; focus (simp [Ty.d, hdp]; done))
          | (refine fun r (hr : _ = r) => ?_; (try simp [Ty.d, hdp] at hr); subst hr; first | refine OQ.is ?_ | refine W.ret ?_ | skip)
          | refine Exists.intro _ (And.intro rfl ?_)
          | (refine And.intro (a := noPtr _ = true) ?_ ?_; focus (simp [Ty.d, hdp]; done))
          | (refine And.intro (a := D.isPtr _ = false) ?_ ?_; focus (simp [Ty.d, hdp]; done))
          | refine Exists.intro _ (And.intro (Or.inl rfl) ?_)
          | refine Exists.intro _ (And.intro (Or.inr rfl) ?_)
          | (refine And.intro (a := isLst _ _ = true) ?_ ?_; focus (simp [Ty.d, hdp]; done))
          | (refine And.intro (a := isDct _ _ = true) ?_ ?_; focus (simp [Ty.d, hdp]; done))
          | (refine And.intro (a := List.length _ ≤ 15) ?_ ?_; focus (first | exact Nat.le_of_ble_eq_true rfl | (simp [Ty.d, hdp]; done)))
          | (refine And.intro (a := List.length _ ≤ lim) ?_ ?_; focus (first | exact Nat.le_of_ble_eq_true rfl | (simp [Ty.d, hdp]; done)))
          | refine W.turn ?_
          | (refine IfB.i (fun _ => ?_) (fun (e : _ = false) => False.elim ?_); rotate_left; focus (simp [Ty.d, hdp] at e; done))
          | (refine IfB.i (fun (e : _ = true) => False.elim ?_) (fun _ => ?_); focus (simp [Ty.d, hdp] at e; done))
          | refine And.intro (fun _ => ?_) (fun (z : true = false) => nomatch z)
          | refine And.intro (fun (z : false = true) => nomatch z) (fun _ => ?_)
          )
        have hv : v = 0 ∨ v = 1 ∨ v = 2 ∨ v = 3 := by omega
        rcases hv with rfl | rfl | rfl | rfl
        · repeat (first
            | refine Go.go ?_
            | (refine W.mono (ih .int _ _ rfl (by simp only [Ty.vd]; omega) (by assumption)) ?_; rintro _ _ ⟨v1, rfl, hv1, hh1, hd1⟩)
            | (refine Fin.data ?_ ?_; focus (simp []; done))
            | (refine fun r (hr : _ = r) => ?_; (try simp [] at hr); subst hr; first | refine OQ.is ?_ | refine W.ret ?_ | skip)
            | refine Exists.intro _ (And.intro rfl ?_)
            | (refine And.intro (a := noPtr _ = true) ?_ ?_; focus (simp []; done))
            | (refine And.intro (a := D.isPtr _ = false) ?_ ?_; focus (simp []; done))
            | refine Exists.intro _ (And.intro (Or.inl rfl) ?_)
            | refine Exists.intro _ (And.intro (Or.inr rfl) ?_)
            | (refine And.intro (a := isLst _ _ = true) ?_ ?_; focus (simp []; done))
            | (refine And.intro (a := isDct _ _ = true) ?_ ?_; focus (simp []; done))
            | (refine And.intro (a := List.length _ ≤ 15) ?_ ?_; focus (first | exact Nat.le_of_ble_eq_true rfl | (simp []; done)))
            | (refine And.intro (a := List.length _ ≤ lim) ?_ ?_; focus (first | exact Nat.le_of_ble_eq_true rfl | (simp []; done)))
            | refine W.turn ?_
            | (refine IfB.i (fun _ => ?_) (fun (e : _ = false) => False.elim ?_); rotate_left; focus (simp [] at e; done))
            | (refine IfB.i (fun (e : _ = true) => False.elim ?_) (fun _ => ?_); focus (simp [] at e; done))
            | refine And.intro (fun _ => ?_) (fun (z : true = false) => nomatch z)
            | refine And.intro (fun (z : false = true) => nomatch z) (fun _ => ?_)
            )
          exact ⟨.tag .int v1, by simp [Vt.d, Ty.d], by simp only [Vt.dep]; omega, Vt.has_any _, hd0.take hd1⟩
        · repeat (first
            | refine Go.go ?_
            | (refine W.mono (ih .bool _ _ rfl (by simp only [Ty.vd]; omega) (by assumption)) ?_; rintro _ _ ⟨v1, rfl, hv1, hh1, hd1⟩)
            | (refine Fin.data ?_ ?_; focus (simp []; done))
            | (refine fun r (hr : _ = r) => ?_; (try simp [] at hr); subst hr; first | refine OQ.is ?_ | refine W.ret ?_ | skip)
            | refine Exists.intro _ (And.intro rfl ?_)
            | (refine And.intro (a := noPtr _ = true) ?_ ?_; focus (simp []; done))
            | (refine And.intro (a := D.isPtr _ = false) ?_ ?_; focus (simp []; done))
            | refine Exists.intro _ (And.intro (Or.inl rfl) ?_)
            | refine Exists.intro _ (And.intro (Or.inr rfl) ?_)
            | (refine And.intro (a := isLst _ _ = true) ?_ ?_; focus (simp []; done))
            | (refine And.intro (a := isDct _ _ = true) ?_ ?_; focus (simp []; done))
            | (refine And.intro (a := List.length _ ≤ 15) ?_ ?_; focus (first | exact Nat.le_of_ble_eq_true rfl | (simp []; done)))
            | (refine And.intro (a := List.length _ ≤ lim) ?_ ?_; focus (first | exact Nat.le_of_ble_eq_true rfl | (simp []; done)))
            | refine W.turn ?_
            | (refine IfB.i (fun _ => ?_) (fun (e : _ = false) => False.elim ?_); rotate_left; focus (simp [] at e; done))
            | (refine IfB.i (fun (e : _ = true) => False.elim ?_) (fun _ => ?_); focus (simp [] at e; done))
            | refine And.intro (fun _ => ?_) (fun (z : true = false) => nomatch z)
            | refine And.intro (fun (z : false = true) => nomatch z) (fun _ => ?_)
            )
          exact ⟨.tag .bool v1, by simp [Vt.d, Ty.d], by simp only [Vt.dep]; omega, Vt.has_any _, hd0.take hd1⟩
        · repeat (first
            | refine Go.go ?_
            | (refine W.mono (ih (.pair .any .any) _ _ rfl (by simp only [Ty.vd]; omega) (by assumption)) ?_; rintro _ _ ⟨v1, rfl, hv1, hh1, hd1⟩)
            | (refine Fin.data ?_ ?_; focus (simp []; done))
            | (refine fun r (hr : _ = r) => ?_; (try simp [] at hr); subst hr; first | refine OQ.is ?_ | refine W.ret ?_ | skip)
            | refine Exists.intro _ (And.intro rfl ?_)
            | (refine And.intro (a := noPtr _ = true) ?_ ?_; focus (simp []; done))
            | (refine And.intro (a := D.isPtr _ = false) ?_ ?_; focus (simp []; done))
            | refine Exists.intro _ (And.intro (Or.inl rfl) ?_)
            | refine Exists.intro _ (And.intro (Or.inr rfl) ?_)
            | (refine And.intro (a := isLst _ _ = true) ?_ ?_; focus (simp []; done))
            | (refine And.intro (a := isDct _ _ = true) ?_ ?_; focus (simp []; done))
            | (refine And.intro (a := List.length _ ≤ 15) ?_ ?_; focus (first | exact Nat.le_of_ble_eq_true rfl | (simp []; done)))
            | (refine And.intro (a := List.length _ ≤ lim) ?_ ?_; focus (first | exact Nat.le_of_ble_eq_true rfl | (simp []; done)))
            | refine W.turn ?_
            | (refine IfB.i (fun _ => ?_) (fun (e : _ = false) => False.elim ?_); rotate_left; focus (simp [] at e; done))
            | (refine IfB.i (fun (e : _ = true) => False.elim ?_) (fun _ => ?_); focus (simp [] at e; done))
            | refine And.intro (fun _ => ?_) (fun (z : true = false) => nomatch z)
            | refine And.intro (fun (z : false = true) => nomatch z) (fun _ => ?_)
            )
          exact ⟨.tag (.pair .any .any) v1, by simp [Vt.d, Ty.d], by simp only [Vt.dep]; omega, Vt.has_any _, hd0.take hd1⟩
        · repeat (first
            | refine Go.go ?_
            | (refine W.mono (ih (.list .any) _ _ rfl (by simp only [Ty.vd]; omega) (by assumption)) ?_; rintro _ _ ⟨v1, rfl, hv1, hh1, hd1⟩)
            | (refine Fin.data ?_ ?_; focus (simp []; done))
            | (refine fun r (hr : _ = r) => ?_; (try simp [] at hr); subst hr; first | refine OQ.is ?_ | refine W.ret ?_ | skip)
            | refine Exists.intro _ (And.intro rfl ?_)
            | (refine And.intro (a := noPtr _ = true) ?_ ?_; focus (simp []; done))
            | (refine And.intro (a := D.isPtr _ = false) ?_ ?_; focus (simp []; done))
            | refine Exists.intro _ (And.intro (Or.inl rfl) ?_)
            | refine Exists.intro _ (And.intro (Or.inr rfl) ?_)
            | (refine And.intro (a := isLst _ _ = true) ?_ ?_; focus (simp []; done))
            | (refine And.intro (a := isDct _ _ = true) ?_ ?_; focus (simp []; done))
            | (refine And.intro (a := List.length _ ≤ 15) ?_ ?_; focus (first | exact Nat.le_of_ble_eq_true rfl | (simp []; done)))
            | (refine And.intro (a := List.length _ ≤ lim) ?_ ?_; focus (first | exact Nat.le_of_ble_eq_true rfl | (simp []; done)))
            | refine W.turn ?_
            | (refine IfB.i (fun _ => ?_) (fun (e : _ = false) => False.elim ?_); rotate_left; focus (simp [] at e; done))
            | (refine IfB.i (fun (e : _ = true) => False.elim ?_) (fun _ => ?_); focus (simp [] at e; done))
            | refine And.intro (fun _ => ?_) (fun (z : true = false) => nomatch z)
            | refine And.intro (fun (z : false = true) => nomatch z) (fun _ => ?_)
            )
          exact ⟨.tag (.list .any) v1, by simp [Vt.d, Ty.d], by simp only [Vt.dep]; omega, Vt.has_any _, hd0.take hd1⟩
      · repeat (first
          | refine Go.go ?_
          | refine draw_any rfl hd0 (by decide) (by decide) fun v S' h1 h2 hd => ?_
          | (refine Fin.data ?_ ?_; focus (simp [Ty.d, hdp]; done))
          | (refine fun r (hr : _ = r) => ?_; (try simp [Ty.d, hdp] at hr); subst hr; first | refine OQ.is ?_ | refine W.ret ?_ | skip)
          | refine Exists.intro _ (And.intro rfl ?_)
          | (refine And.intro (a := noPtr _ = true) ?_ ?_; focus (simp [Ty.d, hdp]; done))
          | (refine And.intro (a := D.isPtr _ = false) ?_ ?_; focus (simp [Ty.d, hdp]; done))
          | refine Exists.intro _ (And.intro (Or.inl rfl) ?_)
          | refine Exists.intro _ (And.intro (Or.inr rfl) ?_)
          | (refine And.intro (a := isLst _ _ = true) ?_ ?_; focus (simp [Ty.d, hdp]; done))
          | (refine And.intro (a := isDct _ _ = true) ?_ ?_; focus (simp [Ty.d, hdp]; done))
          | (refine And.intro (a := List.length _ ≤ 15) ?_ ?_; focus (first | exact Nat.le_of_ble_eq_true rfl | (simp [Ty.d, hdp]; done)))
          | (refine And.intro (a := List.length _ ≤ lim) ?_ ?_; focus (first | exact Nat.le_of_ble_eq_true rfl | (simp [Ty.d, hdp]; done)))
          | refine W.turn ?_
          | (refine IfB.i (fun _ => ?_) (fun (e : _ = false) => False.elim ?_); rotate_left; focus (simp [Ty.d, hdp] at e; done))
          | (refine IfB.i (fun (e : _ = true) => False.elim ?_) (fun _ => ?_); focus (simp [Ty.d, hdp] at e; done))
          | refine And.intro (fun _ => ?_) (fun (z : true = false) => nomatch z)
          | refine And.intro (fun (z : false = true) => nomatch z) (fun _ => ?_)
          )
        have hv : v = 0 ∨ v = 1 := by omega
        rcases hv with rfl | rfl
        · repeat (first
            | refine Go.go ?_
            | (refine W.mono (ih .int _ _ rfl (by simp only [Ty.vd]; omega) (by assumption)) ?_; rintro _ _ ⟨v1, rfl, hv1, hh1, hd1⟩)
            | (refine Fin.data ?_ ?_; focus (simp []; done))
            | (refine fun r (hr : _ = r) => ?_; (try simp [] at hr); subst hr; first | refine OQ.is ?_ | refine W.ret ?_ | skip)
            | refine Exists.intro _ (And.intro rfl ?_)
            | (refine And.intro (a := noPtr _ = true) ?_ ?_; focus (simp []; done))
            | (refine And.intro (a := D.isPtr _ = false) ?_ ?_; focus (simp []; done))
            | refine Exists.intro _ (And.intro (Or.inl rfl) ?_)
            | refine Exists.intro _ (And.intro (Or.inr rfl) ?_)
            | (refine And.intro (a := isLst _ _ = true) ?_ ?_; focus (simp []; done))
            | (refine And.intro (a := isDct _ _ = true) ?_ ?_; focus (simp []; done))
            | (refine And.intro (a := List.length _ ≤ 15) ?_ ?_; focus (first | exact Nat.le_of_ble_eq_true rfl | (simp []; done)))
            | (refine And.intro (a := List.length _ ≤ lim) ?_ ?_; focus (first | exact Nat.le_of_ble_eq_true rfl | (simp []; done)))
            | refine W.turn ?_
            | (refine IfB.i (fun _ => ?_) (fun (e : _ = false) => False.elim ?_); rotate_left; focus (simp [] at e; done))
            | (refine IfB.i (fun (e : _ = true) => False.elim ?_) (fun _ => ?_); focus (simp [] at e; done))
            | refine And.intro (fun _ => ?_) (fun (z : true = false) => nomatch z)
            | refine And.intro (fun (z : false = true) => nomatch z) (fun _ => ?_)
            )
          exact ⟨.tag .int v1, by simp [Vt.d, Ty.d], by simp only [Vt.dep]; omega, Vt.has_any _, hd0.take hd1⟩
        · repeat (first
            | refine Go.go ?_
            | (refine W.mono (ih .bool _ _ rfl (by simp only [Ty.vd]; omega) (by assumption)) ?_; rintro _ _ ⟨v1, rfl, hv1, hh1, hd1⟩)
            | (refine Fin.data ?_ ?_; focus (simp []; done))
            | (refine fun r (hr : _ = r) => ?_; (try simp [] at hr); subst hr; first | refine OQ.is ?_ | refine W.ret ?_ | skip)
            | refine Exists.intro _ (And.intro rfl ?_)
            | (refine And.intro (a := noPtr _ = true) ?_ ?_; focus (simp []; done))
            | (refine And.intro (a := D.isPtr _ = false) ?_ ?_; focus (simp []; done))
            | refine Exists.intro _ (And.intro (Or.inl rfl) ?_)
            | refine Exists.intro _ (And.intro (Or.inr rfl) ?_)
            | (refine And.intro (a := isLst _ _ = true) ?_ ?_; focus (simp []; done))
            | (refine And.intro (a := isDct _ _ = true) ?_ ?_; focus (simp []; done))
            | (refine And.intro (a := List.length _ ≤ 15) ?_ ?_; focus (first | exact Nat.le_of_ble_eq_true rfl | (simp []; done)))
            | (refine And.intro (a := List.length _ ≤ lim) ?_ ?_; focus (first | exact Nat.le_of_ble_eq_true rfl | (simp []; done)))
            | refine W.turn ?_
            | (refine IfB.i (fun _ => ?_) (fun (e : _ = false) => False.elim ?_); rotate_left; focus (simp [] at e; done))
            | (refine IfB.i (fun (e : _ = true) => False.elim ?_) (fun _ => ?_); focus (simp [] at e; done))
            | refine And.intro (fun _ => ?_) (fun (z : true = false) => nomatch z)
            | refine And.intro (fun (z : false = true) => nomatch z) (fun _ => ?_)
            )
          exact ⟨.tag .bool v1, by simp [Vt.d, Ty.d], by simp only [Vt.dep]; omega, Vt.has_any _, hd0.take hd1⟩
    | pair a b =>
      simp only [Ty.vd] at h
      simp only [Ty.plain, Bool.and_eq_true] at hp
      repeat (first
        | refine Go.go ?_
        | (refine W.mono (ih a _ _ hp.1 (by omega) (by assumption)) ?_; rintro _ _ ⟨v1, rfl, hv1, hh1, hd1⟩)
        | (refine W.mono (ih b _ _ hp.2 (by omega) (by assumption)) ?_; rintro _ _ ⟨v2, rfl, hv2, hh2, hd2⟩)
        | (refine Fin.data ?_ ?_; focus (simp [Ty.d]; done))
        | (refine fun r (hr : _ = r) => ?_; (try simp [Ty.d] at hr); subst hr; first | refine OQ.is ?_ | refine W.ret ?_ | skip)
        | refine Exists.intro _ (And.intro rfl ?_)
        | (refine And.intro (a := noPtr _ = true) ?_ ?_; focus (simp [Ty.d]; done))
        | (refine And.intro (a := D.isPtr _ = false) ?_ ?_; focus (simp [Ty.d]; done))
        | refine Exists.intro _ (And.intro (Or.inl rfl) ?_)
        | refine Exists.intro _ (And.intro (Or.inr rfl) ?_)
        | (refine And.intro (a := isLst _ _ = true) ?_ ?_; focus (simp [Ty.d]; done))
        | (refine And.intro (a := isDct _ _ = true) ?_ ?_; focus (simp [Ty.d]; done))
        | (refine And.intro (a := List.length _ ≤ 15) ?_ ?_; focus (first | exact Nat.le_of_ble_eq_true rfl | (simp [Ty.d]; done)))
        | (refine And.intro (a := List.length _ ≤ lim) ?_ ?_; focus (first | exact Nat.le_of_ble_eq_true rfl | (simp [Ty.d]; done)))
        | refine W.turn ?_
        | (refine IfB.i (fun _ => ?_) (fun (e : _ = false) => False.elim ?_); rotate_left; focus (simp [Ty.d] at e; done))
        | (refine IfB.i (fun (e : _ = true) => False.elim ?_) (fun _ => ?_); focus (simp [Ty.d] at e; done))
        | refine And.intro (fun _ => ?_) (fun (z : true = false) => nomatch z)
        | refine And.intro (fun (z : false = true) => nomatch z) (fun _ => ?_)
        )
      exact ⟨.pair v1 v2, by simp [Vt.d], by simp only [Vt.dep]; omega, by simp [Vt.bare, Vt.has, hh1, hh2], hd0.take hd2⟩
    | list a =>
      simp only [Ty.vd] at h
      have hl : ∀ (v : Int), 0 ≤ v → v < 3 → rngD [.int v] = some ((List.range v.toNat).map fun i => .int (i : Nat)) := fun v h1 h2 => by
        simp only [rngD]; rw [if_pos (by omega)]
      repeat (first
        | refine Go.go ?_
        | refine draw_any rfl hd0 (by decide) (by decide) fun v S' h1 h2 hd => ?_
        | (refine W.lcInv (I := DW T) (R' := fun _ y => ∃ v : Vt, y = v.d ∧ v.dep ≤ k ∧ v.bare.has a = true) (by assumption) ?_ ?_)
        | (refine fun r (hr : rngD _ = r) => ?_; rw [hl _ (by assumption) (by assumption)] at hr; subst hr; refine OQ.is ?_)
        | (refine Fin.data ?_ ?_; focus (simp [Ty.d]; done))
        | (refine fun r (hr : _ = r) => ?_; (try simp [Ty.d] at hr); subst hr; first | refine OQ.is ?_ | refine W.ret ?_ | skip)
        | refine Exists.intro _ (And.intro rfl ?_)
        | (refine And.intro (a := noPtr _ = true) ?_ ?_; focus (simp [Ty.d]; done))
        | (refine And.intro (a := D.isPtr _ = false) ?_ ?_; focus (simp [Ty.d]; done))
        | refine Exists.intro _ (And.intro (Or.inl rfl) ?_)
        | refine Exists.intro _ (And.intro (Or.inr rfl) ?_)
        | (refine And.intro (a := isLst _ _ = true) ?_ ?_; focus (simp [Ty.d]; done))
        | (refine And.intro (a := isDct _ _ = true) ?_ ?_; focus (simp [Ty.d]; done))
        | (refine And.intro (a := List.length _ ≤ 15) ?_ ?_; focus (first | exact Nat.le_of_ble_eq_true rfl | (simp [Ty.d]; done)))
        | (refine And.intro (a := List.length _ ≤ lim) ?_ ?_; focus (first | exact Nat.le_of_ble_eq_true rfl | (simp [Ty.d]; done)))
        | refine W.turn ?_
        | (refine IfB.i (fun _ => ?_) (fun (e : _ = false) => False.elim ?_); rotate_left; focus (simp [Ty.d] at e; done))
        | (refine IfB.i (fun (e : _ = true) => False.elim ?_) (fun _ => ?_); focus (simp [Ty.d] at e; done))
        | refine And.intro (fun _ => ?_) (fun (z : true = false) => nomatch z)
        | refine And.intro (fun (z : false = true) => nomatch z) (fun _ => ?_)
        )
      · intro x _ S2 hd2
        repeat (first
          | refine Go.go ?_
          | (refine W.mono (ih a _ _ hp (by omega) (by assumption)) ?_; rintro _ _ ⟨v1, rfl, hv1, hh1, hd1⟩)
          | (refine Fin.data ?_ ?_; focus (simp [Ty.d]; done))
          | (refine fun r (hr : _ = r) => ?_; (try simp [Ty.d] at hr); subst hr; first | refine OQ.is ?_ | refine W.ret ?_ | skip)
          | refine Exists.intro _ (And.intro rfl ?_)
          | (refine And.intro (a := noPtr _ = true) ?_ ?_; focus (simp [Ty.d]; done))
          | (refine And.intro (a := D.isPtr _ = false) ?_ ?_; focus (simp [Ty.d]; done))
          | refine Exists.intro _ (And.intro (Or.inl rfl) ?_)
          | refine Exists.intro _ (And.intro (Or.inr rfl) ?_)
          | (refine And.intro (a := isLst _ _ = true) ?_ ?_; focus (simp [Ty.d]; done))
          | (refine And.intro (a := isDct _ _ = true) ?_ ?_; focus (simp [Ty.d]; done))
          | (refine And.intro (a := List.length _ ≤ 15) ?_ ?_; focus (first | exact Nat.le_of_ble_eq_true rfl | (simp [Ty.d]; done)))
          | (refine And.intro (a := List.length _ ≤ lim) ?_ ?_; focus (first | exact Nat.le_of_ble_eq_true rfl | (simp [Ty.d]; done)))
          | refine W.turn ?_
          | (refine IfB.i (fun _ => ?_) (fun (e : _ = false) => False.elim ?_); rotate_left; focus (simp [Ty.d] at e; done))
          | (refine IfB.i (fun (e : _ = true) => False.elim ?_) (fun _ => ?_); focus (simp [Ty.d] at e; done))
          | refine And.intro (fun _ => ?_) (fun (z : true = false) => nomatch z)
          | refine And.intro (fun (z : false = true) => nomatch z) (fun _ => ?_)
          )
        exact ⟨⟨v1, rfl, by omega, hh1⟩, hd1⟩
      · intro ys S2 hd2 h2
        obtain ⟨e1, l, rfl, e3, e4, e5⟩ := vals_of h2
        rw [List.length_map, List.length_range] at e4
        have hll : (Vt.ds l).length ≤ lim := by
          rw [e1, List.length_map, List.length_range]
          exact Nat.le_trans (show _ ≤ 3 by omega) (by decide)
        refine And.intro hll ?_
        repeat (first
          | refine Go.go ?_
          | (refine Fin.data ?_ ?_; focus (simp []; done))
          | (refine fun r (hr : _ = r) => ?_; (try simp [] at hr); subst hr; first | refine OQ.is ?_ | refine W.ret ?_ | skip)
          | refine Exists.intro _ (And.intro rfl ?_)
          | (refine And.intro (a := noPtr _ = true) ?_ ?_; focus (simp []; done))
          | (refine And.intro (a := D.isPtr _ = false) ?_ ?_; focus (simp []; done))
          | refine Exists.intro _ (And.intro (Or.inl rfl) ?_)
          | refine Exists.intro _ (And.intro (Or.inr rfl) ?_)
          | (refine And.intro (a := isLst _ _ = true) ?_ ?_; focus (simp []; done))
          | (refine And.intro (a := isDct _ _ = true) ?_ ?_; focus (simp []; done))
          | (refine And.intro (a := List.length _ ≤ 15) ?_ ?_; focus (first | exact Nat.le_of_ble_eq_true rfl | (simp []; done)))
          | (refine And.intro (a := List.length _ ≤ lim) ?_ ?_; focus (first | exact Nat.le_of_ble_eq_true rfl | (simp []; done)))
          | refine W.turn ?_
          | (refine IfB.i (fun _ => ?_) (fun (e : _ = false) => False.elim ?_); rotate_left; focus (simp [] at e; done))
          | (refine IfB.i (fun (e : _ = true) => False.elim ?_) (fun _ => ?_); focus (simp [] at e; done))
          | refine And.intro (fun _ => ?_) (fun (z : true = false) => nomatch z)
          | refine And.intro (fun (z : false = true) => nomatch z) (fun _ => ?_)
          )
        exact ⟨.items l, by simp [Vt.d], by simp only [Vt.dep]; omega, by simp only [Vt.bare, Vt.has, bares_map, hass_all]; exact fun w hw => by obtain ⟨u, hu, rfl⟩ := List.mem_map.mp hw; exact e5 u hu, hd0.take hd2⟩
end PC

set_option Elab.async false
set_option linter.all false
set_option maxRecDepth 100000
set_option maxHeartbeats 4000000
namespace PC
open PySem PyProof.Rows L2
variable {T : Store}
/-! types without any -/
theorem run_type : ∀ (n : Nat) (dp : Int) (k : Nat) (S : Store), dp = n + 1 → n + 1 < k → DW T S → W (callK prog k ix__law_type [.ptr 0, .int dp] S) fun d S' => ∃ v : Ty, d = v.d ∧ v.dep ≤ n ∧ DW T S' := by
  intro n
  induction n with
  | zero =>
    intro dp k S hdp h hd0
    obtain ⟨k, rfl⟩ : ∃ j, k = j + 2 := ⟨k - 2, by omega⟩
    have e1 : ¬ (1 : Int) < dp := by omega
    refine call__law_type ?_
    unfold b__law_type
    repeat (first
      | refine Go.go ?_
      | refine draw_any rfl hd0 (by decide) (by decide) fun v S' h1 h2 hd => ?_
      | (refine Fin.data ?_ ?_; focus (simp [e1]; done))
      | (refine fun r (hr : _ = r) => ?_; (try simp [e1] at hr); subst hr; first | refine OQ.is ?_ | refine W.ret ?_ | skip)
      | refine Exists.intro _ (And.intro rfl ?_)
      | (refine And.intro (a := noPtr _ = true) ?_ ?_; focus (simp [e1]; done))
      | (refine And.intro (a := D.isPtr _ = false) ?_ ?_; focus (simp [e1]; done))
      | refine Exists.intro _ (And.intro (Or.inl rfl) ?_)
      | refine Exists.intro _ (And.intro (Or.inr rfl) ?_)
      | (refine And.intro (a := isLst _ _ = true) ?_ ?_; focus (simp [e1]; done))
      | (refine And.intro (a := isDct _ _ = true) ?_ ?_; focus (simp [e1]; done))
      | (refine And.intro (a := List.length _ ≤ 15) ?_ ?_; focus (first | exact Nat.le_of_ble_eq_true rfl | (simp [e1]; done)))
      | (refine And.intro (a := List.length _ ≤ lim) ?_ ?_; focus (first | exact Nat.le_of_ble_eq_true rfl | (simp [e1]; done)))
      | refine W.turn ?_
      | (refine IfB.i (fun _ => ?_) (fun (e : _ = false) => False.elim ?_); rotate_left; focus (simp [e1] at e; done))
      | (refine IfB.i (fun (e : _ = true) => False.elim ?_) (fun _ => ?_); focus (simp [e1] at e; done))
      | refine And.intro (fun _ => ?_) (fun (z : true = false) => nomatch z)
      | refine And.intro (fun (z : false = true) => nomatch z) (fun _ => ?_)
      )
    have hv : v = 0 ∨ v = 1 := by omega
    rcases hv with rfl | rfl
    · repeat (first
        | refine Go.go ?_
        | (refine Fin.data ?_ ?_; focus (simp []; done))
        | (refine fun r (hr : _ = r) => ?_; (try simp [] at hr); subst hr; first | refine OQ.is ?_ | refine W.ret ?_ | skip)
        | refine Exists.intro _ (And.intro rfl ?_)
        | (refine And.intro (a := noPtr _ = true) ?_ ?_; focus (simp []; done))
        | (refine And.intro (a := D.isPtr _ = false) ?_ ?_; focus (simp []; done))
        | refine Exists.intro _ (And.intro (Or.inl rfl) ?_)
        | refine Exists.intro _ (And.intro (Or.inr rfl) ?_)
        | (refine And.intro (a := isLst _ _ = true) ?_ ?_; focus (simp []; done))
        | (refine And.intro (a := isDct _ _ = true) ?_ ?_; focus (simp []; done))
        | (refine And.intro (a := List.length _ ≤ 15) ?_ ?_; focus (first | exact Nat.le_of_ble_eq_true rfl | (simp []; done)))
        | (refine And.intro (a := List.length _ ≤ lim) ?_ ?_; focus (first | exact Nat.le_of_ble_eq_true rfl | (simp []; done)))
        | refine W.turn ?_
        | (refine IfB.i (fun _ => ?_) (fun (e : _ = false) => False.elim ?_); rotate_left; focus (simp [] at e; done))
        | (refine IfB.i (fun (e : _ = true) => False.elim ?_) (fun _ => ?_); focus (simp [] at e; done))
        | refine And.intro (fun _ => ?_) (fun (z : true = false) => nomatch z)
        | refine And.intro (fun (z : false = true) => nomatch z) (fun _ => ?_)
        )
      exact ⟨.int, rfl, Nat.le_refl _, hd0.take hd⟩
    · repeat (first
        | refine Go.go ?_
        | (refine Fin.data ?_ ?_; focus (simp []; done))
        | (refine fun r (hr : _ = r) => ?_; (try simp [] at hr); subst hr; first | refine OQ.is ?_ | refine W.ret ?_ | skip)
        | refine Exists.intro _ (And.intro rfl ?_)
        | (refine And.intro (a := noPtr _ = true) ?_ ?_; focus (simp []; done))
        | (refine And.intro (a := D.isPtr _ = false) ?_ ?_; focus (simp []; done))
        | refine Exists.intro _ (And.intro (Or.inl rfl) ?_)
        | refine Exists.intro _ (And.intro (Or.inr rfl) ?_)
        | (refine And.intro (a := isLst _ _ = true) ?_ ?_; focus (simp []; done))
        | (refine And.intro (a := isDct _ _ = true) ?_ ?_; focus (simp []; done))
        | (refine And.intro (a := List.length _ ≤ 15) ?_ ?_; focus (first | exact Nat.le_of_ble_eq_true rfl | (simp []; done)))
        | (refine And.intro (a := List.length _ ≤ lim) ?_ ?_; focus (first | exact Nat.le_of_ble_eq_true rfl | (simp []; done)))
        | refine W.turn ?_
        | (refine IfB.i (fun _ => ?_) (fun (e : _ = false) => False.elim ?_); rotate_left; focus (simp [] at e; done))
        | (refine IfB.i (fun (e : _ = true) => False.elim ?_) (fun _ => ?_); focus (simp [] at e; done))
        | refine And.intro (fun _ => ?_) (fun (z : true = false) => nomatch z)
        | refine And.intro (fun (z : false = true) => nomatch z) (fun _ => ?_)
        )
      exact ⟨.bool, rfl, Nat.le_refl _, hd0.take hd⟩
  | succ n ih =>
    intro dp k S hdp h hd0
    obtain ⟨k, rfl⟩ : ∃ j, k = j + 2 := ⟨k - 2, by omega⟩
    have e1 : (1 : Int) < dp := by omega
    refine call__law_type ?_
    unfold b__law_type
    repeat (first
      | refine Go.go ?_
      | refine draw_any rfl hd0 (by decide) (by decide) fun v S' h1 h2 hd => ?_
      | (refine Fin.data ?_ ?_; focus (simp [e1]; done))
      | (refine fun r (hr : _ = r) => ?_; (try simp [e1] at hr); subst hr; first | refine OQ.is ?_ | refine W.ret ?_ | skip)
      | refine Exists.intro _ (And.intro rfl ?_)
      | (refine And.intro (a := noPtr _ = true) ?_ ?_; focus (simp [e1]; done))
      | (refine And.intro (a := D.isPtr _ = false) ?_ ?_; focus (simp [e1]; done))
      | refine Exists.intro _ (And.intro (Or.inl rfl) ?_)
      | refine Exists.intro _ (And.intro (Or.inr rfl) ?_)
      | (refine And.intro (a := isLst _ _ = true) ?_ ?_; focus (simp [e1]; done))
      | (refine And.intro (a := isDct _ _ = true) ?_ ?_; focus (simp [e1]; done))
      | (refine And.intro (a := List.length _ ≤ 15) ?_ ?_; focus (first | exact Nat.le_of_ble_eq_true rfl | (simp [e1]; done)))
      | (refine And.intro (a := List.length _ ≤ lim) ?_ ?_; focus (first | exact Nat.le_of_ble_eq_true rfl | (simp [e1]; done)))
      | refine W.turn ?_
      | (refine IfB.i (fun _ => ?_) (fun (e : _ = false) => False.elim ?_); rotate_left; focus (simp [e1] at e; done))
      | (refine IfB.i (fun (e : _ = true) => False.elim ?_) (fun _ => ?_); focus (simp [e1] at e; done))
      | refine And.intro (fun _ => ?_) (fun (z : true = false) => nomatch z)
      | refine And.intro (fun (z : false = true) => nomatch z) (fun _ => ?_)
      )
    have hv : v = 0 ∨ v = 1 ∨ (1 < v ∧ v < 4) ∨ v = 4 ∨ 4 < v := by omega
    rcases hv with rfl | rfl | hv | rfl | hv
    · repeat (first
        | refine Go.go ?_
        | (refine Fin.data ?_ ?_; focus (simp []; done))
        | (refine fun r (hr : _ = r) => ?_; (try simp [] at hr); subst hr; first | refine OQ.is ?_ | refine W.ret ?_ | skip)
        | refine Exists.intro _ (And.intro rfl ?_)
        | (refine And.intro (a := noPtr _ = true) ?_ ?_; focus (simp []; done))
        | (refine And.intro (a := D.isPtr _ = false) ?_ ?_; focus (simp []; done))
        | refine Exists.intro _ (And.intro (Or.inl rfl) ?_)
        | refine Exists.intro _ (And.intro (Or.inr rfl) ?_)
        | (refine And.intro (a := isLst _ _ = true) ?_ ?_; focus (simp []; done))
        | (refine And.intro (a := isDct _ _ = true) ?_ ?_; focus (simp []; done))
        | (refine And.intro (a := List.length _ ≤ 15) ?_ ?_; focus (first | exact Nat.le_of_ble_eq_true rfl | (simp []; done)))
        | (refine And.intro (a := List.length _ ≤ lim) ?_ ?_; focus (first | exact Nat.le_of_ble_eq_true rfl | (simp []; done)))
        | refine W.turn ?_
        | (refine IfB.i (fun _ => ?_) (fun (e : _ = false) => False.elim ?_); rotate_left; focus (simp [] at e; done))
        | (refine IfB.i (fun (e : _ = true) => False.elim ?_) (fun _ => ?_); focus (simp [] at e; done))
        | refine And.intro (fun _ => ?_) (fun (z : true = false) => nomatch z)
        | refine And.intro (fun (z : false = true) => nomatch z) (fun _ => ?_)
        )
      exact ⟨.int, rfl, Nat.zero_le _, hd0.take hd⟩
    · repeat (first
        | refine Go.go ?_
        | (refine Fin.data ?_ ?_; focus (simp []; done))
        | (refine fun r (hr : _ = r) => ?_; (try simp [] at hr); subst hr; first | refine OQ.is ?_ | refine W.ret ?_ | skip)
        | refine Exists.intro _ (And.intro rfl ?_)
        | (refine And.intro (a := noPtr _ = true) ?_ ?_; focus (simp []; done))
        | (refine And.intro (a := D.isPtr _ = false) ?_ ?_; focus (simp []; done))
        | refine Exists.intro _ (And.intro (Or.inl rfl) ?_)
        | refine Exists.intro _ (And.intro (Or.inr rfl) ?_)
        | (refine And.intro (a := isLst _ _ = true) ?_ ?_; focus (simp []; done))
        | (refine And.intro (a := isDct _ _ = true) ?_ ?_; focus (simp []; done))
        | (refine And.intro (a := List.length _ ≤ 15) ?_ ?_; focus (first | exact Nat.le_of_ble_eq_true rfl | (simp []; done)))
        | (refine And.intro (a := List.length _ ≤ lim) ?_ ?_; focus (first | exact Nat.le_of_ble_eq_true rfl | (simp []; done)))
        | refine W.turn ?_
        | (refine IfB.i (fun _ => ?_) (fun (e : _ = false) => False.elim ?_); rotate_left; focus (simp [] at e; done))
        | (refine IfB.i (fun (e : _ = true) => False.elim ?_) (fun _ => ?_); focus (simp [] at e; done))
        | refine And.intro (fun _ => ?_) (fun (z : true = false) => nomatch z)
        | refine And.intro (fun (z : false = true) => nomatch z) (fun _ => ?_)
        )
      exact ⟨.bool, rfl, Nat.zero_le _, hd0.take hd⟩
    · have e2 : ¬ v < 2 := by omega
      repeat (first
        | refine Go.go ?_
        | (refine W.mono (ih _ _ _ (by omega) (by omega) (by assumption)) ?_; rintro _ _ ⟨v1, rfl, hv1, hd1⟩)
        | (refine Fin.data ?_ ?_; focus (simp [e2, hv.2]; done))
        | (refine fun r (hr : _ = r) => ?_; (try simp [e2, hv.2] at hr); subst hr; first | refine OQ.is ?_ | refine W.ret ?_ | skip)
        | refine Exists.intro _ (And.intro rfl ?_)
        | (refine And.intro (a := noPtr _ = true) ?_ ?_; focus (simp [e2, hv.2]; done))
        | (refine And.intro (a := D.isPtr _ = false) ?_ ?_; focus (simp [e2, hv.2]; done))
        | refine Exists.intro _ (And.intro (Or.inl rfl) ?_)
        | refine Exists.intro _ (And.intro (Or.inr rfl) ?_)
        | (refine And.intro (a := isLst _ _ = true) ?_ ?_; focus (simp [e2, hv.2]; done))
        | (refine And.intro (a := isDct _ _ = true) ?_ ?_; focus (simp [e2, hv.2]; done))
        | (refine And.intro (a := List.length _ ≤ 15) ?_ ?_; focus (first | exact Nat.le_of_ble_eq_true rfl | (simp [e2, hv.2]; done)))
        | (refine And.intro (a := List.length _ ≤ lim) ?_ ?_; focus (first | exact Nat.le_of_ble_eq_true rfl | (simp [e2, hv.2]; done)))
        | refine W.turn ?_
        | (refine IfB.i (fun _ => ?_) (fun (e : _ = false) => False.elim ?_); rotate_left; focus (simp [e2, hv.2] at e; done))
        | (refine IfB.i (fun (e : _ = true) => False.elim ?_) (fun _ => ?_); focus (simp [e2, hv.2] at e; done))
        | refine And.intro (fun _ => ?_) (fun (z : true = false) => nomatch z)
        | refine And.intro (fun (z : false = true) => nomatch z) (fun _ => ?_)
        )
      exact ⟨.fn _ _, rfl, by simp only [Ty.dep]; omega, hd0.take (by assumption)⟩
    · repeat (first
        | refine Go.go ?_
        | (refine W.mono (ih _ _ _ (by omega) (by omega) (by assumption)) ?_; rintro _ _ ⟨v1, rfl, hv1, hd1⟩)
        | (refine Fin.data ?_ ?_; focus (simp []; done))
        | (refine fun r (hr : _ = r) => ?_; (try simp [] at hr); subst hr; first | refine OQ.is ?_ | refine W.ret ?_ | skip)
        | refine Exists.intro _ (And.intro rfl ?_)
        | (refine And.intro (a := noPtr _ = true) ?_ ?_; focus (simp []; done))
        | (refine And.intro (a := D.isPtr _ = false) ?_ ?_; focus (simp []; done))
        | refine Exists.intro _ (And.intro (Or.inl rfl) ?_)
        | refine Exists.intro _ (And.intro (Or.inr rfl) ?_)
        | (refine And.intro (a := isLst _ _ = true) ?_ ?_; focus (simp []; done))
        | (refine And.intro (a := isDct _ _ = true) ?_ ?_; focus (simp []; done))
        | (refine And.intro (a := List.length _ ≤ 15) ?_ ?_; focus (first | exact Nat.le_of_ble_eq_true rfl | (simp []; done)))
        | (refine And.intro (a := List.length _ ≤ lim) ?_ ?_; focus (first | exact Nat.le_of_ble_eq_true rfl | (simp []; done)))
        | refine W.turn ?_
        | (refine IfB.i (fun _ => ?_) (fun (e : _ = false) => False.elim ?_); rotate_left; focus (simp [] at e; done))
        | (refine IfB.i (fun (e : _ = true) => False.elim ?_) (fun _ => ?_); focus (simp [] at e; done))
        | refine And.intro (fun _ => ?_) (fun (z : true = false) => nomatch z)
        | refine And.intro (fun (z : false = true) => nomatch z) (fun _ => ?_)
        )
      exact ⟨.pair _ _, rfl, by simp only [Ty.dep]; omega, hd0.take (by assumption)⟩
    · have e2 : ¬ v < 2 := by omega
      have e3 : ¬ v < 4 := by omega
      have e4 : ¬ v = 4 := by omega
      repeat (first
        | refine Go.go ?_
        | (refine W.mono (ih _ _ _ (by omega) (by omega) (by assumption)) ?_; rintro _ _ ⟨v1, rfl, hv1, hd1⟩)
        | (refine Fin.data ?_ ?_; focus (simp [e2, e3, e4]; done))
        | (refine fun r (hr : _ = r) => ?_; (try simp [e2, e3, e4] at hr); subst hr; first | refine OQ.is ?_ | refine W.ret ?_ | skip)
        | refine Exists.intro _ (And.intro rfl ?_)
        | (refine And.intro (a := noPtr _ = true) ?_ ?_; focus (simp [e2, e3, e4]; done))
        | (refine And.intro (a := D.isPtr _ = false) ?_ ?_; focus (simp [e2, e3, e4]; done))
        | refine Exists.intro _ (And.intro (Or.inl rfl) ?_)
        | refine Exists.intro _ (And.intro (Or.inr rfl) ?_)
        | (refine And.intro (a := isLst _ _ = true) ?_ ?_; focus (simp [e2, e3, e4]; done))
        | (refine And.intro (a := isDct _ _ = true) ?_ ?_; focus (simp [e2, e3, e4]; done))
        | (refine And.intro (a := List.length _ ≤ 15) ?_ ?_; focus (first | exact Nat.le_of_ble_eq_true rfl | (simp [e2, e3, e4]; done)))
        | (refine And.intro (a := List.length _ ≤ lim) ?_ ?_; focus (first | exact Nat.le_of_ble_eq_true rfl | (simp [e2, e3, e4]; done)))
        | refine W.turn ?_
        | (refine IfB.i (fun _ => ?_) (fun (e : _ = false) => False.elim ?_); rotate_left; focus (simp [e2, e3, e4] at e; done))
        | (refine IfB.i (fun (e : _ = true) => False.elim ?_) (fun _ => ?_); focus (simp [e2, e3, e4] at e; done))
        | refine And.intro (fun _ => ?_) (fun (z : true = false) => nomatch z)
        | refine And.intro (fun (z : false = true) => nomatch z) (fun _ => ?_)
        )
      exact ⟨.list _, rfl, by simp only [Ty.dep]; omega, hd0.take (by assumption)⟩
/-! alike -/
def Ty.al : Ty → Ty → Bool
  | .any, _ => true
  | _, .any => true
  | .int, .int => true
  | .bool, .bool => true
  | .fn a b, .fn c d => a.al c && b.al d
  | .pair a b, .pair c d => a.al c && b.al d
  | .list a, .list c => a.al c
  | _, _ => false
theorem run_alike : ∀ (k : Nat) (a b : Ty) (S : Store), a.dep < k → callK prog k ix__law_alike [a.d, b.d] S = some (.bl (a.al b), S) := by
  intro k
  induction k with
  | zero => intro a b S h; omega
  | succ k ih =>
    intro a b S h
    refine W.get (call__law_alike ?_)
    unfold b__law_alike
    cases a with
    | any =>
      repeat (first
        | refine Go.go ?_
        | (refine Fin.data ?_ ?_; focus (simp [Ty.d, inD]; done))
        | (refine fun r (hr : _ = r) => ?_; (try simp [Ty.d, inD] at hr); subst hr; first | refine OQ.is ?_ | refine W.ret ?_ | skip)
        | refine Exists.intro _ (And.intro rfl ?_)
        | (refine And.intro (a := noPtr _ = true) ?_ ?_; focus (simp [Ty.d, inD]; done))
        | (refine And.intro (a := D.isPtr _ = false) ?_ ?_; focus (simp [Ty.d, inD]; done))
        | refine Exists.intro _ (And.intro (Or.inl rfl) ?_)
        | refine Exists.intro _ (And.intro (Or.inr rfl) ?_)
        | (refine And.intro (a := isLst _ _ = true) ?_ ?_; focus (simp [Ty.d, inD]; done))
        | (refine And.intro (a := isDct _ _ = true) ?_ ?_; focus (simp [Ty.d, inD]; done))
        | (refine And.intro (a := List.length _ ≤ 15) ?_ ?_; focus (first | exact Nat.le_of_ble_eq_true rfl | (simp [Ty.d, inD]; done)))
        | (refine And.intro (a := List.length _ ≤ lim) ?_ ?_; focus (first | exact Nat.le_of_ble_eq_true rfl | (simp [Ty.d, inD]; done)))
        | refine W.turn ?_
        | (refine IfB.i (fun _ => ?_) (fun (e : _ = false) => False.elim ?_); rotate_left; focus (simp [Ty.d, inD] at e; done))
        | (refine IfB.i (fun (e : _ = true) => False.elim ?_) (fun _ => ?_); focus (simp [Ty.d, inD] at e; done))
        | refine And.intro (fun _ => ?_) (fun (z : true = false) => nomatch z)
        | refine And.intro (fun (z : false = true) => nomatch z) (fun _ => ?_)
        )
      exact ⟨by simp [Ty.al], by simp⟩
    | int =>
      cases b
      all_goals
        repeat (first
          | refine Go.go ?_
          | (refine Fin.data ?_ ?_; focus (simp [Ty.d, inD]; done))
          | (refine fun r (hr : _ = r) => ?_; (try simp [Ty.d, inD] at hr); subst hr; first | refine OQ.is ?_ | refine W.ret ?_ | skip)
          | refine Exists.intro _ (And.intro rfl ?_)
          | (refine And.intro (a := noPtr _ = true) ?_ ?_; focus (simp [Ty.d, inD]; done))
          | (refine And.intro (a := D.isPtr _ = false) ?_ ?_; focus (simp [Ty.d, inD]; done))
          | refine Exists.intro _ (And.intro (Or.inl rfl) ?_)
          | refine Exists.intro _ (And.intro (Or.inr rfl) ?_)
          | (refine And.intro (a := isLst _ _ = true) ?_ ?_; focus (simp [Ty.d, inD]; done))
          | (refine And.intro (a := isDct _ _ = true) ?_ ?_; focus (simp [Ty.d, inD]; done))
          | (refine And.intro (a := List.length _ ≤ 15) ?_ ?_; focus (first | exact Nat.le_of_ble_eq_true rfl | (simp [Ty.d, inD]; done)))
          | (refine And.intro (a := List.length _ ≤ lim) ?_ ?_; focus (first | exact Nat.le_of_ble_eq_true rfl | (simp [Ty.d, inD]; done)))
          | refine W.turn ?_
          | (refine IfB.i (fun _ => ?_) (fun (e : _ = false) => False.elim ?_); rotate_left; focus (simp [Ty.d, inD] at e; done))
          | (refine IfB.i (fun (e : _ = true) => False.elim ?_) (fun _ => ?_); focus (simp [Ty.d, inD] at e; done))
          | refine And.intro (fun _ => ?_) (fun (z : true = false) => nomatch z)
          | refine And.intro (fun (z : false = true) => nomatch z) (fun _ => ?_)
          )
        exact ⟨by simp [Ty.al], by simp⟩
    | bool =>
      cases b
      all_goals
        repeat (first
          | refine Go.go ?_
          | (refine Fin.data ?_ ?_; focus (simp [Ty.d, inD]; done))
          | (refine fun r (hr : _ = r) => ?_; (try simp [Ty.d, inD] at hr); subst hr; first | refine OQ.is ?_ | refine W.ret ?_ | skip)
          | refine Exists.intro _ (And.intro rfl ?_)
          | (refine And.intro (a := noPtr _ = true) ?_ ?_; focus (simp [Ty.d, inD]; done))
          | (refine And.intro (a := D.isPtr _ = false) ?_ ?_; focus (simp [Ty.d, inD]; done))
          | refine Exists.intro _ (And.intro (Or.inl rfl) ?_)
          | refine Exists.intro _ (And.intro (Or.inr rfl) ?_)
          | (refine And.intro (a := isLst _ _ = true) ?_ ?_; focus (simp [Ty.d, inD]; done))
          | (refine And.intro (a := isDct _ _ = true) ?_ ?_; focus (simp [Ty.d, inD]; done))
          | (refine And.intro (a := List.length _ ≤ 15) ?_ ?_; focus (first | exact Nat.le_of_ble_eq_true rfl | (simp [Ty.d, inD]; done)))
          | (refine And.intro (a := List.length _ ≤ lim) ?_ ?_; focus (first | exact Nat.le_of_ble_eq_true rfl | (simp [Ty.d, inD]; done)))
          | refine W.turn ?_
          | (refine IfB.i (fun _ => ?_) (fun (e : _ = false) => False.elim ?_); rotate_left; focus (simp [Ty.d, inD] at e; done))
          | (refine IfB.i (fun (e : _ = true) => False.elim ?_) (fun _ => ?_); focus (simp [Ty.d, inD] at e; done))
          | refine And.intro (fun _ => ?_) (fun (z : true = false) => nomatch z)
          | refine And.intro (fun (z : false = true) => nomatch z) (fun _ => ?_)
          )
        exact ⟨by simp [Ty.al], by simp⟩
    | fn a1 a2 =>
      simp only [Ty.dep] at h
      cases b with
      | fn b1 b2 =>
        have h1 := fun S => ih a1 b1 S (by omega)
        have h2 := fun S => ih a2 b2 S (by omega)
        cases e1 : a1.al b1 <;> cases e2 : a2.al b2
        all_goals
          rw [e1] at h1
          rw [e2] at h2
          repeat (first
            | refine Go.go ?_
            | refine W.eq (h1 _) ?_
            | refine W.eq (h2 _) ?_
            | (refine Fin.data ?_ ?_; focus (simp [Ty.d, inD]; done))
            | (refine fun r (hr : _ = r) => ?_; (try simp [Ty.d, inD] at hr); subst hr; first | refine OQ.is ?_ | refine W.ret ?_ | skip)
            | refine Exists.intro _ (And.intro rfl ?_)
            | (refine And.intro (a := noPtr _ = true) ?_ ?_; focus (simp [Ty.d, inD]; done))
            | (refine And.intro (a := D.isPtr _ = false) ?_ ?_; focus (simp [Ty.d, inD]; done))
            | refine Exists.intro _ (And.intro (Or.inl rfl) ?_)
            | refine Exists.intro _ (And.intro (Or.inr rfl) ?_)
            | (refine And.intro (a := isLst _ _ = true) ?_ ?_; focus (simp [Ty.d, inD]; done))
            | (refine And.intro (a := isDct _ _ = true) ?_ ?_; focus (simp [Ty.d, inD]; done))
            | (refine And.intro (a := List.length _ ≤ 15) ?_ ?_; focus (first | exact Nat.le_of_ble_eq_true rfl | (simp [Ty.d, inD]; done)))
            | (refine And.intro (a := List.length _ ≤ lim) ?_ ?_; focus (first | exact Nat.le_of_ble_eq_true rfl | (simp [Ty.d, inD]; done)))
            | refine W.turn ?_
            | (refine IfB.i (fun _ => ?_) (fun (e : _ = false) => False.elim ?_); rotate_left; focus (simp [Ty.d, inD] at e; done))
            | (refine IfB.i (fun (e : _ = true) => False.elim ?_) (fun _ => ?_); focus (simp [Ty.d, inD] at e; done))
            | refine And.intro (fun _ => ?_) (fun (z : true = false) => nomatch z)
            | refine And.intro (fun (z : false = true) => nomatch z) (fun _ => ?_)
            )
          exact ⟨by simp [Ty.al, e1, e2], by simp⟩
      | _ =>
        repeat (first
          | refine Go.go ?_
          | (refine Fin.data ?_ ?_; focus (simp [Ty.d, inD]; done))
          | (refine fun r (hr : _ = r) => ?_; (try simp [Ty.d, inD] at hr); subst hr; first | refine OQ.is ?_ | refine W.ret ?_ | skip)
          | refine Exists.intro _ (And.intro rfl ?_)
          | (refine And.intro (a := noPtr _ = true) ?_ ?_; focus (simp [Ty.d, inD]; done))
          | (refine And.intro (a := D.isPtr _ = false) ?_ ?_; focus (simp [Ty.d, inD]; done))
          | refine Exists.intro _ (And.intro (Or.inl rfl) ?_)
          | refine Exists.intro _ (And.intro (Or.inr rfl) ?_)
          | (refine And.intro (a := isLst _ _ = true) ?_ ?_; focus (simp [Ty.d, inD]; done))
          | (refine And.intro (a := isDct _ _ = true) ?_ ?_; focus (simp [Ty.d, inD]; done))
          | (refine And.intro (a := List.length _ ≤ 15) ?_ ?_; focus (first | exact Nat.le_of_ble_eq_true rfl | (simp [Ty.d, inD]; done)))
          | (refine And.intro (a := List.length _ ≤ lim) ?_ ?_; focus (first | exact Nat.le_of_ble_eq_true rfl | (simp [Ty.d, inD]; done)))
          | refine W.turn ?_
          | (refine IfB.i (fun _ => ?_) (fun (e : _ = false) => False.elim ?_); rotate_left; focus (simp [Ty.d, inD] at e; done))
          | (refine IfB.i (fun (e : _ = true) => False.elim ?_) (fun _ => ?_); focus (simp [Ty.d, inD] at e; done))
          | refine And.intro (fun _ => ?_) (fun (z : true = false) => nomatch z)
          | refine And.intro (fun (z : false = true) => nomatch z) (fun _ => ?_)
          )
        exact ⟨by simp [Ty.al], by simp⟩
    | pair a1 a2 =>
      simp only [Ty.dep] at h
      cases b with
      | pair b1 b2 =>
        have h1 := fun S => ih a1 b1 S (by omega)
        have h2 := fun S => ih a2 b2 S (by omega)
        cases e1 : a1.al b1 <;> cases e2 : a2.al b2
        all_goals
          rw [e1] at h1
          rw [e2] at h2
          repeat (first
            | refine Go.go ?_
            | refine W.eq (h1 _) ?_
            | refine W.eq (h2 _) ?_
            | (refine Fin.data ?_ ?_; focus (simp [Ty.d, inD]; done))
            | (refine fun r (hr : _ = r) => ?_; (try simp [Ty.d, inD] at hr); subst hr; first | refine OQ.is ?_ | refine W.ret ?_ | skip)
            | refine Exists.intro _ (And.intro rfl ?_)
            | (refine And.intro (a := noPtr _ = true) ?_ ?_; focus (simp [Ty.d, inD]; done))
            | (refine And.intro (a := D.isPtr _ = false) ?_ ?_; focus (simp [Ty.d, inD]; done))
            | refine Exists.intro _ (And.intro (Or.inl rfl) ?_)
            | refine Exists.intro _ (And.intro (Or.inr rfl) ?_)
            | (refine And.intro (a := isLst _ _ = true) ?_ ?_; focus (simp [Ty.d, inD]; done))
            | (refine And.intro (a := isDct _ _ = true) ?_ ?_; focus (simp [Ty.d, inD]; done))
            | (refine And.intro (a := List.length _ ≤ 15) ?_ ?_; focus (first | exact Nat.le_of_ble_eq_true rfl | (simp [Ty.d, inD]; done)))
            | (refine And.intro (a := List.length _ ≤ lim) ?_ ?_; focus (first | exact Nat.le_of_ble_eq_true rfl | (simp [Ty.d, inD]; done)))
            | refine W.turn ?_
            | (refine IfB.i (fun _ => ?_) (fun (e : _ = false) => False.elim ?_); rotate_left; focus (simp [Ty.d, inD] at e; done))
            | (refine IfB.i (fun (e : _ = true) => False.elim ?_) (fun _ => ?_); focus (simp [Ty.d, inD] at e; done))
            | refine And.intro (fun _ => ?_) (fun (z : true = false) => nomatch z)
            | refine And.intro (fun (z : false = true) => nomatch z) (fun _ => ?_)
            )
          exact ⟨by simp [Ty.al, e1, e2], by simp⟩
      | _ =>
        repeat (first
          | refine Go.go ?_
          | (refine Fin.data ?_ ?_; focus (simp [Ty.d, inD]; done))
          | (refine fun r (hr : _ = r) => ?_; (try simp [Ty.d, inD] at hr); subst hr; first | refine OQ.is ?_ | refine W.ret ?_ | skip)
          | refine Exists.intro _ (And.intro rfl ?_)
          | (refine And.intro (a := noPtr _ = true) ?_ ?_; focus (simp [Ty.d, inD]; done))
          | (refine And.intro (a := D.isPtr _ = false) ?_ ?_; focus (simp [Ty.d, inD]; done))
          | refine Exists.intro _ (And.intro (Or.inl rfl) ?_)
          | refine Exists.intro _ (And.intro (Or.inr rfl) ?_)
          | (refine And.intro (a := isLst _ _ = true) ?_ ?_; focus (simp [Ty.d, inD]; done))
          | (refine And.intro (a := isDct _ _ = true) ?_ ?_; focus (simp [Ty.d, inD]; done))
          | (refine And.intro (a := List.length _ ≤ 15) ?_ ?_; focus (first | exact Nat.le_of_ble_eq_true rfl | (simp [Ty.d, inD]; done)))
          | (refine And.intro (a := List.length _ ≤ lim) ?_ ?_; focus (first | exact Nat.le_of_ble_eq_true rfl | (simp [Ty.d, inD]; done)))
          | refine W.turn ?_
          | (refine IfB.i (fun _ => ?_) (fun (e : _ = false) => False.elim ?_); rotate_left; focus (simp [Ty.d, inD] at e; done))
          | (refine IfB.i (fun (e : _ = true) => False.elim ?_) (fun _ => ?_); focus (simp [Ty.d, inD] at e; done))
          | refine And.intro (fun _ => ?_) (fun (z : true = false) => nomatch z)
          | refine And.intro (fun (z : false = true) => nomatch z) (fun _ => ?_)
          )
        exact ⟨by simp [Ty.al], by simp⟩
    | list a1 =>
      simp only [Ty.dep] at h
      cases b with
      | list b1 =>
        have h1 := fun S => ih a1 b1 S (by omega)
        cases e1 : a1.al b1
        all_goals
          rw [e1] at h1
          repeat (first
            | refine Go.go ?_
            | refine W.eq (h1 _) ?_
            | (refine Fin.data ?_ ?_; focus (simp [Ty.d, inD]; done))
            | (refine fun r (hr : _ = r) => ?_; (try simp [Ty.d, inD] at hr); subst hr; first | refine OQ.is ?_ | refine W.ret ?_ | skip)
            | refine Exists.intro _ (And.intro rfl ?_)
            | (refine And.intro (a := noPtr _ = true) ?_ ?_; focus (simp [Ty.d, inD]; done))
            | (refine And.intro (a := D.isPtr _ = false) ?_ ?_; focus (simp [Ty.d, inD]; done))
            | refine Exists.intro _ (And.intro (Or.inl rfl) ?_)
            | refine Exists.intro _ (And.intro (Or.inr rfl) ?_)
            | (refine And.intro (a := isLst _ _ = true) ?_ ?_; focus (simp [Ty.d, inD]; done))
            | (refine And.intro (a := isDct _ _ = true) ?_ ?_; focus (simp [Ty.d, inD]; done))
            | (refine And.intro (a := List.length _ ≤ 15) ?_ ?_; focus (first | exact Nat.le_of_ble_eq_true rfl | (simp [Ty.d, inD]; done)))
            | (refine And.intro (a := List.length _ ≤ lim) ?_ ?_; focus (first | exact Nat.le_of_ble_eq_true rfl | (simp [Ty.d, inD]; done)))
            | refine W.turn ?_
            | (refine IfB.i (fun _ => ?_) (fun (e : _ = false) => False.elim ?_); rotate_left; focus (simp [Ty.d, inD] at e; done))
            | (refine IfB.i (fun (e : _ = true) => False.elim ?_) (fun _ => ?_); focus (simp [Ty.d, inD] at e; done))
            | refine And.intro (fun _ => ?_) (fun (z : true = false) => nomatch z)
            | refine And.intro (fun (z : false = true) => nomatch z) (fun _ => ?_)
            )
          exact ⟨by simp [Ty.al, e1], by simp⟩
      | _ =>
        repeat (first
          | refine Go.go ?_
          | (refine Fin.data ?_ ?_; focus (simp [Ty.d, inD]; done))
          | (refine fun r (hr : _ = r) => ?_; (try simp [Ty.d, inD] at hr); subst hr; first | refine OQ.is ?_ | refine W.ret ?_ | skip)
          | refine Exists.intro _ (And.intro rfl ?_)
          | (refine And.intro (a := noPtr _ = true) ?_ ?_; focus (simp [Ty.d, inD]; done))
          | (refine And.intro (a := D.isPtr _ = false) ?_ ?_; focus (simp [Ty.d, inD]; done))
          | refine Exists.intro _ (And.intro (Or.inl rfl) ?_)
          | refine Exists.intro _ (And.intro (Or.inr rfl) ?_)
          | (refine And.intro (a := isLst _ _ = true) ?_ ?_; focus (simp [Ty.d, inD]; done))
          | (refine And.intro (a := isDct _ _ = true) ?_ ?_; focus (simp [Ty.d, inD]; done))
          | (refine And.intro (a := List.length _ ≤ 15) ?_ ?_; focus (first | exact Nat.le_of_ble_eq_true rfl | (simp [Ty.d, inD]; done)))
          | (refine And.intro (a := List.length _ ≤ lim) ?_ ?_; focus (first | exact Nat.le_of_ble_eq_true rfl | (simp [Ty.d, inD]; done)))
          | refine W.turn ?_
          | (refine IfB.i (fun _ => ?_) (fun (e : _ = false) => False.elim ?_); rotate_left; focus (simp [Ty.d, inD] at e; done))
          | (refine IfB.i (fun (e : _ = true) => False.elim ?_) (fun _ => ?_); focus (simp [Ty.d, inD] at e; done))
          | refine And.intro (fun _ => ?_) (fun (z : true = false) => nomatch z)
          | refine And.intro (fun (z : false = true) => nomatch z) (fun _ => ?_)
          )
        exact ⟨by simp [Ty.al], by simp⟩
/-! the same -/
theorem run_same : ∀ (n k : Nat) (d : D) (S : Store), Gd n d → n < k → callK prog k ix__law_same [d, d] S = some (.bl true, S) := by
  intro n
  induction n with
  | zero =>
    intro k d S g h
    obtain ⟨k, rfl⟩ : ∃ j, k = j + 1 := ⟨k - 1, by omega⟩
    refine W.get (call__law_same ?_)
    unfold b__law_same
    cases g
    all_goals
      repeat (first
        | refine Go.go ?_
        | (refine Fin.data ?_ ?_; focus (simp [isD]; done))
        | (refine fun r (hr : _ = r) => ?_; (try simp [isD] at hr); subst hr; first | refine OQ.is ?_ | refine W.ret ?_ | skip)
        | refine Exists.intro _ (And.intro rfl ?_)
        | (refine And.intro (a := noPtr _ = true) ?_ ?_; focus (simp [isD]; done))
        | (refine And.intro (a := D.isPtr _ = false) ?_ ?_; focus (simp [isD]; done))
        | refine Exists.intro _ (And.intro (Or.inl rfl) ?_)
        | refine Exists.intro _ (And.intro (Or.inr rfl) ?_)
        | (refine And.intro (a := isLst _ _ = true) ?_ ?_; focus (simp [isD]; done))
        | (refine And.intro (a := isDct _ _ = true) ?_ ?_; focus (simp [isD]; done))
        | (refine And.intro (a := List.length _ ≤ 15) ?_ ?_; focus (first | exact Nat.le_of_ble_eq_true rfl | (simp [isD]; done)))
        | (refine And.intro (a := List.length _ ≤ lim) ?_ ?_; focus (first | exact Nat.le_of_ble_eq_true rfl | (simp [isD]; done)))
        | refine W.turn ?_
        | (refine IfB.i (fun _ => ?_) (fun (e : _ = false) => False.elim ?_); rotate_left; focus (simp [isD] at e; done))
        | (refine IfB.i (fun (e : _ = true) => False.elim ?_) (fun _ => ?_); focus (simp [isD] at e; done))
        | refine And.intro (fun _ => ?_) (fun (z : true = false) => nomatch z)
        | refine And.intro (fun (z : false = true) => nomatch z) (fun _ => ?_)
        )
      exact ⟨by simp, by simp⟩
  | succ n ih =>
    intro k d S g h
    obtain ⟨k, rfl⟩ : ∃ j, k = j + 1 := ⟨k - 1, by omega⟩
    refine W.get (call__law_same ?_)
    unfold b__law_same
    cases g with
    | tup hl hx =>
      rename_i xs
      have hrg : rngD [.int (xs.length : Int)] = some ((List.range xs.length).map fun i => .int (i : Nat)) := by
        simp only [rngD]; rw [if_pos (by omega), Int.toNat_natCast]
      repeat (first
        | refine Go.go ?_
        | refine W.lcNone ?_ ?_
        | (refine Fin.data ?_ ?_; focus (simp [isD, hrg]; done))
        | (refine fun r (hr : _ = r) => ?_; (try simp [isD, hrg] at hr); subst hr; first | refine OQ.is ?_ | refine W.ret ?_ | skip)
        | refine Exists.intro _ (And.intro rfl ?_)
        | (refine And.intro (a := noPtr _ = true) ?_ ?_; focus (simp [isD, hrg]; done))
        | (refine And.intro (a := D.isPtr _ = false) ?_ ?_; focus (simp [isD, hrg]; done))
        | refine Exists.intro _ (And.intro (Or.inl rfl) ?_)
        | refine Exists.intro _ (And.intro (Or.inr rfl) ?_)
        | (refine And.intro (a := isLst _ _ = true) ?_ ?_; focus (simp [isD, hrg]; done))
        | (refine And.intro (a := isDct _ _ = true) ?_ ?_; focus (simp [isD, hrg]; done))
        | (refine And.intro (a := List.length _ ≤ 15) ?_ ?_; focus (first | exact Nat.le_of_ble_eq_true rfl | (simp [isD, hrg]; done)))
        | (refine And.intro (a := List.length _ ≤ lim) ?_ ?_; focus (first | exact Nat.le_of_ble_eq_true rfl | (simp [isD, hrg]; done)))
        | refine W.turn ?_
        | (refine IfB.i (fun _ => ?_) (fun (e : _ = false) => False.elim ?_); rotate_left; focus (simp [isD, hrg] at e; done))
        | (refine IfB.i (fun (e : _ = true) => False.elim ?_) (fun _ => ?_); focus (simp [isD, hrg] at e; done))
        | refine And.intro (fun _ => ?_) (fun (z : true = false) => nomatch z)
        | refine And.intro (fun (z : false = true) => nomatch z) (fun _ => ?_)
        )
      · intro x hx2
        obtain ⟨i, hi, rfl⟩ := List.mem_map.mp hx2
        rw [List.mem_range] at hi
        have ea := atI_get hi
        have es := fun S => ih k xs[i] S (hx _ (List.getElem_mem hi)) (by omega)
        repeat (first
          | refine Go.go ?_
          | refine W.eq (es _) ?_
          | (refine Fin.data ?_ ?_; focus (simp [ea]; done))
          | (refine fun r (hr : _ = r) => ?_; (try simp [ea] at hr); subst hr; first | refine OQ.is ?_ | refine W.ret ?_ | skip)
          | refine Exists.intro _ (And.intro rfl ?_)
          | (refine And.intro (a := noPtr _ = true) ?_ ?_; focus (simp [ea]; done))
          | (refine And.intro (a := D.isPtr _ = false) ?_ ?_; focus (simp [ea]; done))
          | refine Exists.intro _ (And.intro (Or.inl rfl) ?_)
          | refine Exists.intro _ (And.intro (Or.inr rfl) ?_)
          | (refine And.intro (a := isLst _ _ = true) ?_ ?_; focus (simp [ea]; done))
          | (refine And.intro (a := isDct _ _ = true) ?_ ?_; focus (simp [ea]; done))
          | (refine And.intro (a := List.length _ ≤ 15) ?_ ?_; focus (first | exact Nat.le_of_ble_eq_true rfl | (simp [ea]; done)))
          | (refine And.intro (a := List.length _ ≤ lim) ?_ ?_; focus (first | exact Nat.le_of_ble_eq_true rfl | (simp [ea]; done)))
          | refine W.turn ?_
          | (refine IfB.i (fun _ => ?_) (fun (e : _ = false) => False.elim ?_); rotate_left; focus (simp [ea] at e; done))
          | (refine IfB.i (fun (e : _ = true) => False.elim ?_) (fun _ => ?_); focus (simp [ea] at e; done))
          | refine And.intro (fun _ => ?_) (fun (z : true = false) => nomatch z)
          | refine And.intro (fun (z : false = true) => nomatch z) (fun _ => ?_)
          )
        all_goals exact ⟨rfl, rfl⟩
      · repeat (first
          | refine Go.go ?_
          | (refine Fin.data ?_ ?_; focus (simp []; done))
          | (refine fun r (hr : _ = r) => ?_; (try simp [] at hr); subst hr; first | refine OQ.is ?_ | refine W.ret ?_ | skip)
          | refine Exists.intro _ (And.intro rfl ?_)
          | (refine And.intro (a := noPtr _ = true) ?_ ?_; focus (simp []; done))
          | (refine And.intro (a := D.isPtr _ = false) ?_ ?_; focus (simp []; done))
          | refine Exists.intro _ (And.intro (Or.inl rfl) ?_)
          | refine Exists.intro _ (And.intro (Or.inr rfl) ?_)
          | (refine And.intro (a := isLst _ _ = true) ?_ ?_; focus (simp []; done))
          | (refine And.intro (a := isDct _ _ = true) ?_ ?_; focus (simp []; done))
          | (refine And.intro (a := List.length _ ≤ 15) ?_ ?_; focus (first | exact Nat.le_of_ble_eq_true rfl | (simp []; done)))
          | (refine And.intro (a := List.length _ ≤ lim) ?_ ?_; focus (first | exact Nat.le_of_ble_eq_true rfl | (simp []; done)))
          | refine W.turn ?_
          | (refine IfB.i (fun _ => ?_) (fun (e : _ = false) => False.elim ?_); rotate_left; focus (simp [] at e; done))
          | (refine IfB.i (fun (e : _ = true) => False.elim ?_) (fun _ => ?_); focus (simp [] at e; done))
          | refine And.intro (fun _ => ?_) (fun (z : true = false) => nomatch z)
          | refine And.intro (fun (z : false = true) => nomatch z) (fun _ => ?_)
          )
        exact ⟨rfl, by simp⟩
    | _ =>
      repeat (first
        | refine Go.go ?_
        | (refine Fin.data ?_ ?_; focus (simp [isD]; done))
        | (refine fun r (hr : _ = r) => ?_; (try simp [isD] at hr); subst hr; first | refine OQ.is ?_ | refine W.ret ?_ | skip)
        | refine Exists.intro _ (And.intro rfl ?_)
        | (refine And.intro (a := noPtr _ = true) ?_ ?_; focus (simp [isD]; done))
        | (refine And.intro (a := D.isPtr _ = false) ?_ ?_; focus (simp [isD]; done))
        | refine Exists.intro _ (And.intro (Or.inl rfl) ?_)
        | refine Exists.intro _ (And.intro (Or.inr rfl) ?_)
        | (refine And.intro (a := isLst _ _ = true) ?_ ?_; focus (simp [isD]; done))
        | (refine And.intro (a := isDct _ _ = true) ?_ ?_; focus (simp [isD]; done))
        | (refine And.intro (a := List.length _ ≤ 15) ?_ ?_; focus (first | exact Nat.le_of_ble_eq_true rfl | (simp [isD]; done)))
        | (refine And.intro (a := List.length _ ≤ lim) ?_ ?_; focus (first | exact Nat.le_of_ble_eq_true rfl | (simp [isD]; done)))
        | refine W.turn ?_
        | (refine IfB.i (fun _ => ?_) (fun (e : _ = false) => False.elim ?_); rotate_left; focus (simp [isD] at e; done))
        | (refine IfB.i (fun (e : _ = true) => False.elim ?_) (fun _ => ?_); focus (simp [isD] at e; done))
        | refine And.intro (fun _ => ?_) (fun (z : true = false) => nomatch z)
        | refine And.intro (fun (z : false = true) => nomatch z) (fun _ => ?_)
        )
      exact ⟨by simp, by simp⟩
end PC

set_option Elab.async false
set_option linter.all false
set_option maxRecDepth 100000
set_option maxHeartbeats 4000000
namespace PC
open PySem PyProof.Rows L2
def Ty.isAny : Ty → Bool
  | .any => true
  | _ => false
theorem eq_any (t : Ty) : eqD t.d (.tup [.str "any"]) = some t.isAny := by
  rw [eqD_r t.d_np rfl (by simp)]
  cases t <;> simp [Ty.d, Ty.isAny]
theorem al_vag {a b c : Ty} (h : Vag b c) : a.al c = true → a.al b = true := by
  induction h generalizing a with
  | any t => intro _; cases a <;> simp [Ty.al]
  | int => exact id
  | bool => exact id
  | fn _ _ ih1 ih2 => cases a <;> simp [Ty.al]; exact fun h1 h2 => ⟨ih1 h1, ih2 h2⟩
  | pair _ _ ih1 ih2 => cases a <;> simp [Ty.al]; exact fun h1 h2 => ⟨ih1 h1, ih2 h2⟩
  | list _ ih1 => cases a <;> simp [Ty.al]; exact ih1
theorem al_any (a : Ty) : a.al .any = true := by cases a <;> simp [Ty.al]
/-- each alike to the next -/
def Lk (rows : List Ty) : Prop := (∀ t ∈ rows, t.plain = true ∧ t.dep ≤ 2) ∧ ∀ (i : Nat) (a b : Ty), rows[i]? = some a → rows[i + 1]? = some b → a.al b = true
theorem Lk.one {t : Ty} (h : t.plain = true) (h2 : t.dep ≤ 2) : Lk [t] := ⟨fun x hx => by rw [List.mem_singleton.mp hx]; exact ⟨h, h2⟩, fun i a b _ h => by simp at h⟩
theorem Lk.snoc {rows : List Ty} {y x : Ty} (h : Lk rows) (hy : rows[rows.length - 1]? = some y) (hp : x.plain = true) (hd : x.dep ≤ 2) (ha : y.al x = true) : Lk (rows ++ [x]) := by
  refine ⟨fun t ht => ?_, fun i a b h1 h2 => ?_⟩
  · rcases List.mem_append.mp ht with ht | ht
    · exact h.1 t ht
    · rw [List.mem_singleton.mp ht]; exact ⟨hp, hd⟩
  · by_cases hi : i + 1 < rows.length
    · rw [List.getElem?_append_left (by omega)] at h1
      rw [List.getElem?_append_left hi] at h2
      exact h.2 i a b h1 h2
    · by_cases hj : i + 1 = rows.length
      · rw [List.getElem?_append_left (by omega)] at h1
        rw [List.getElem?_append_right (by omega), hj, Nat.sub_self] at h2
        have e : i = rows.length - 1 := by omega
        rw [e, hy] at h1
        simp at h2
        cases h1
        rw [← h2]; exact ha
      · rw [List.getElem?_eq_none (by simp; omega)] at h2
        cases h2
theorem range_at {n x : Nat} {done rest : List Nat} (h : done ++ x :: rest = List.range n) : x = done.length := by
  have e : (done ++ x :: rest)[done.length]? = some x := by simp
  rw [h] at e
  obtain ⟨hl, e2⟩ := List.getElem?_eq_some_iff.mp e
  rw [List.getElem_range] at e2
  exact e2.symm
theorem run_chain {k : Nat} {S : Store} (hk : 10 ≤ k) (hd0 : DW [] S) : W (callK prog k ix__law_plain_chain [.ptr 0, .int 4] S) fun d S' => ∃ rows : List Ty, d = .lst (rows.map Ty.d) ∧ rows.length = 5 ∧ Lk rows ∧ DW [] S' := by
  obtain ⟨k, rfl⟩ : ∃ j, k = j + 2 := ⟨k - 2, by omega⟩
  obtain ⟨c0, i0, b0, s0, rfl, g1, g2, g3⟩ := hd0
  have hd0 : DW [] [drS c0 i0 b0 s0] := ⟨c0, i0, b0, s0, rfl, g1, g2, g3⟩
  refine call__law_plain_chain ?_
  unfold b__law_plain_chain
  repeat (first
    | refine Go.go ?_
    | (refine Fin.data ?_ ?_; focus (simp []; done))
    | (refine fun r (hr : _ = r) => ?_; (try simp [] at hr); subst hr; first | refine OQ.is ?_ | refine W.ret ?_ | skip)
    | refine Exists.intro _ (And.intro rfl ?_)
    | (refine And.intro (a := noPtr _ = true) ?_ ?_; focus (simp []; done))
    | (refine And.intro (a := D.isPtr _ = false) ?_ ?_; focus (simp []; done))
    | refine Exists.intro _ (And.intro (Or.inl rfl) ?_)
    | refine Exists.intro _ (And.intro (Or.inr rfl) ?_)
    | (refine And.intro (a := isLst _ _ = true) ?_ ?_; focus (simp []; done))
    | (refine And.intro (a := isDct _ _ = true) ?_ ?_; focus (simp []; done))
    | (refine And.intro (a := List.length _ ≤ 15) ?_ ?_; focus (first | exact Nat.le_of_ble_eq_true rfl | (simp []; done)))
    | (refine And.intro (a := List.length _ ≤ lim) ?_ ?_; focus (first | exact Nat.le_of_ble_eq_true rfl | (simp []; done)))
    | refine W.turn ?_
    | (refine IfB.i (fun _ => ?_) (fun (e : _ = false) => False.elim ?_); rotate_left; focus (simp [] at e; done))
    | (refine IfB.i (fun (e : _ = true) => False.elim ?_) (fun _ => ?_); focus (simp [] at e; done))
    | refine And.intro (fun _ => ?_) (fun (z : true = false) => nomatch z)
    | refine And.intro (fun (z : false = true) => nomatch z) (fun _ => ?_)
    )
  refine W.mono (run_plain 2 3 _ _ rfl (by omega) hd0) ?_
  rintro _ S1 ⟨base, rfl, hp, hb, hd1⟩
  repeat (first
    | refine Go.go ?_
    | (refine Fin.data ?_ ?_; focus (simp []; done))
    | (refine fun r (hr : _ = r) => ?_; (try simp [] at hr); subst hr; first | refine OQ.is ?_ | refine W.ret ?_ | skip)
    | refine Exists.intro _ (And.intro rfl ?_)
    | (refine And.intro (a := noPtr _ = true) ?_ ?_; focus (simp []; done))
    | (refine And.intro (a := D.isPtr _ = false) ?_ ?_; focus (simp []; done))
    | refine Exists.intro _ (And.intro (Or.inl rfl) ?_)
    | refine Exists.intro _ (And.intro (Or.inr rfl) ?_)
    | (refine And.intro (a := isLst _ _ = true) ?_ ?_; focus (simp []; done))
    | (refine And.intro (a := isDct _ _ = true) ?_ ?_; focus (simp []; done))
    | (refine And.intro (a := List.length _ ≤ 15) ?_ ?_; focus (first | exact Nat.le_of_ble_eq_true rfl | (simp []; done)))
    | (refine And.intro (a := List.length _ ≤ lim) ?_ ?_; focus (first | exact Nat.le_of_ble_eq_true rfl | (simp []; done)))
    | refine W.turn ?_
    | (refine IfB.i (fun _ => ?_) (fun (e : _ = false) => False.elim ?_); rotate_left; focus (simp [] at e; done))
    | (refine IfB.i (fun (e : _ = true) => False.elim ?_) (fun _ => ?_); focus (simp [] at e; done))
    | refine And.intro (fun _ => ?_) (fun (z : true = false) => nomatch z)
    | refine And.intro (fun (z : false = true) => nomatch z) (fun _ => ?_)
    )
  refine W.mono (run_vaguer base _ _ (by omega) hd1) ?_
  rintro _ S2 ⟨t0, rfl, h0, c1, i1, b1, s1, rfl, m1, m2, m3⟩
  repeat (first
    | refine Go.go ?_
    | (refine Fin.data ?_ ?_; focus (simp [rngD]; done))
    | (refine fun r (hr : _ = r) => ?_; (try simp [rngD] at hr); subst hr; first | refine OQ.is ?_ | refine W.ret ?_ | skip)
    | refine Exists.intro _ (And.intro rfl ?_)
    | (refine And.intro (a := noPtr _ = true) ?_ ?_; focus (simp [rngD]; done))
    | (refine And.intro (a := D.isPtr _ = false) ?_ ?_; focus (simp [rngD]; done))
    | refine Exists.intro _ (And.intro (Or.inl rfl) ?_)
    | refine Exists.intro _ (And.intro (Or.inr rfl) ?_)
    | (refine And.intro (a := isLst _ _ = true) ?_ ?_; focus (simp [rngD]; done))
    | (refine And.intro (a := isDct _ _ = true) ?_ ?_; focus (simp [rngD]; done))
    | (refine And.intro (a := List.length _ ≤ 15) ?_ ?_; focus (first | exact Nat.le_of_ble_eq_true rfl | (simp [rngD]; done)))
    | (refine And.intro (a := List.length _ ≤ lim) ?_ ?_; focus (first | exact Nat.le_of_ble_eq_true rfl | (simp [rngD]; done)))
    | refine W.turn ?_
    | (refine IfB.i (fun _ => ?_) (fun (e : _ = false) => False.elim ?_); rotate_left; focus (simp [rngD] at e; done))
    | (refine IfB.i (fun (e : _ = true) => False.elim ?_) (fun _ => ?_); focus (simp [rngD] at e; done))
    | refine And.intro (fun _ => ?_) (fun (z : true = false) => nomatch z)
    | refine And.intro (fun (z : false = true) => nomatch z) (fun _ => ?_)
    )
  refine W.mono (Q' := fun fl S' => ∃ x2 x4 rows, fl = .nx [some (.ptr 0), some (.int 4), x2, some (.ptr 1), x4] ∧ rows.length = 5 ∧ Lk rows ∧ DW [.lst (rows.map Ty.d)] S') ?_ ?_
  · refine W.forEx (done := []) (all := List.range 4) (I := fun done e S' => ∃ (bs : Ty) (x4 : Option D) (rows : List Ty), e = [some (.ptr 0), some (.int 4), some bs.d, some (.ptr 1), x4] ∧ bs.plain = true ∧ bs.dep ≤ 2 ∧ rows.length = done.length + 1 ∧ Lk rows ∧ DW [.lst (rows.map Ty.d)] S') rfl ?_ ?_ ?_
    · exact ⟨base, none, [t0], rfl, hp, hb, rfl, Lk.one (h0.plain hp) (by have := h0.dep; omega), c1, i1, b1, s1, rfl, m1, m2, m3⟩
    · rintro done x rest env S3 hall ⟨bs, x4, rows, rfl, hbp, hbd, hl, hlk, hd3⟩
      have hx := range_at hall
      subst hx
      have hlt : done.length < rows.length := by omega
      have hrow : rows[rows.length - 1]? = some rows[done.length] := by
        have e : rows.length - 1 = done.length := by omega
        rw [e]; simp [hlt]
      have hat : L2.atI (rows.map Ty.d) (done.length : Int) = some rows[done.length].d := by
        rw [atI_get (by rw [List.length_map]; exact hlt)]; simp
      obtain ⟨c3, i3, b3, s3, rfl, l1, l2, l3⟩ := hd3
      have hd3 : DW [.lst (rows.map Ty.d)] [drS c3 i3 b3 s3, .lst (rows.map Ty.d)] := ⟨c3, i3, b3, s3, rfl, l1, l2, l3⟩
      refine W.fturn ?_
      (refine fun r (hr : _ = r) => ?_; (try simp  at hr); subst hr; refine OQ.is ?_)
      refine W.scons (W.mono (Q' := fun fl S' => ∃ bs : Ty, fl = Fl.nx [some (.ptr 0), some (.int 4), some bs.d, some (.ptr 1), some (.int done.length)] ∧ bs.plain = true ∧ bs.dep ≤ 2 ∧ DW [.lst (rows.map Ty.d)] S') ?_ ?_)
      · repeat (first
          | refine Go.go ?_
          | (refine Fin.data ?_ ?_; focus (simp [deref, hat, eq_any]; done))
          | (refine fun r (hr : _ = r) => ?_; (try simp [deref, hat, eq_any] at hr); subst hr; first | refine OQ.is ?_ | refine W.ret ?_ | skip)
          | refine Exists.intro _ (And.intro rfl ?_)
          | (refine And.intro (a := noPtr _ = true) ?_ ?_; focus (simp [deref, hat, eq_any]; done))
          | (refine And.intro (a := D.isPtr _ = false) ?_ ?_; focus (simp [deref, hat, eq_any]; done))
          | refine Exists.intro _ (And.intro (Or.inl rfl) ?_)
          | refine Exists.intro _ (And.intro (Or.inr rfl) ?_)
          | (refine And.intro (a := isLst _ _ = true) ?_ ?_; focus (simp [deref, hat, eq_any]; done))
          | (refine And.intro (a := isDct _ _ = true) ?_ ?_; focus (simp [deref, hat, eq_any]; done))
          | (refine And.intro (a := List.length _ ≤ 15) ?_ ?_; focus (first | exact Nat.le_of_ble_eq_true rfl | (simp [deref, hat, eq_any]; done)))
          | (refine And.intro (a := List.length _ ≤ lim) ?_ ?_; focus (first | exact Nat.le_of_ble_eq_true rfl | (simp [deref, hat, eq_any]; done)))
          | refine W.turn ?_
          | (refine IfB.i (fun _ => ?_) (fun (e : _ = false) => False.elim ?_); rotate_left; focus (simp [deref, hat, eq_any] at e; done))
          | (refine IfB.i (fun (e : _ = true) => False.elim ?_) (fun _ => ?_); focus (simp [deref, hat, eq_any] at e; done))
          | refine And.intro (fun _ => ?_) (fun (z : true = false) => nomatch z)
          | refine And.intro (fun (z : false = true) => nomatch z) (fun _ => ?_)
          )
        refine IfB.i (fun e => ?_) (fun e => ?_)
        · repeat (first
            | refine Go.go ?_
            | (refine draw_any rfl hd3 (by decide) (by decide) fun v S' g1 g2 hd => ?_)
            | (refine Fin.data ?_ ?_; focus (simp []; done))
            | (refine fun r (hr : _ = r) => ?_; (try simp [] at hr); subst hr; first | refine OQ.is ?_ | refine W.ret ?_ | skip)
            | refine Exists.intro _ (And.intro rfl ?_)
            | (refine And.intro (a := noPtr _ = true) ?_ ?_; focus (simp []; done))
            | (refine And.intro (a := D.isPtr _ = false) ?_ ?_; focus (simp []; done))
            | refine Exists.intro _ (And.intro (Or.inl rfl) ?_)
            | refine Exists.intro _ (And.intro (Or.inr rfl) ?_)
            | (refine And.intro (a := isLst _ _ = true) ?_ ?_; focus (simp []; done))
            | (refine And.intro (a := isDct _ _ = true) ?_ ?_; focus (simp []; done))
            | (refine And.intro (a := List.length _ ≤ 15) ?_ ?_; focus (first | exact Nat.le_of_ble_eq_true rfl | (simp []; done)))
            | (refine And.intro (a := List.length _ ≤ lim) ?_ ?_; focus (first | exact Nat.le_of_ble_eq_true rfl | (simp []; done)))
            | refine W.turn ?_
            | (refine IfB.i (fun _ => ?_) (fun (e : _ = false) => False.elim ?_); rotate_left; focus (simp [] at e; done))
            | (refine IfB.i (fun (e : _ = true) => False.elim ?_) (fun _ => ?_); focus (simp [] at e; done))
            | refine And.intro (fun _ => ?_) (fun (z : true = false) => nomatch z)
            | refine And.intro (fun (z : false = true) => nomatch z) (fun _ => ?_)
            )
          refine IfB.i (fun e => ?_) (fun e => ?_)
          · repeat (first
              | refine Go.go ?_
              | (refine W.mono (run_plain 2 3 _ _ rfl (by omega) (by assumption)) ?_; rintro _ _ ⟨bs, rfl, hp, hb, hd1⟩)
              | (refine Fin.data ?_ ?_; focus (simp []; done))
              | (refine fun r (hr : _ = r) => ?_; (try simp [] at hr); subst hr; first | refine OQ.is ?_ | refine W.ret ?_ | skip)
              | refine Exists.intro _ (And.intro rfl ?_)
              | (refine And.intro (a := noPtr _ = true) ?_ ?_; focus (simp []; done))
              | (refine And.intro (a := D.isPtr _ = false) ?_ ?_; focus (simp []; done))
              | refine Exists.intro _ (And.intro (Or.inl rfl) ?_)
              | refine Exists.intro _ (And.intro (Or.inr rfl) ?_)
              | (refine And.intro (a := isLst _ _ = true) ?_ ?_; focus (simp []; done))
              | (refine And.intro (a := isDct _ _ = true) ?_ ?_; focus (simp []; done))
              | (refine And.intro (a := List.length _ ≤ 15) ?_ ?_; focus (first | exact Nat.le_of_ble_eq_true rfl | (simp []; done)))
              | (refine And.intro (a := List.length _ ≤ lim) ?_ ?_; focus (first | exact Nat.le_of_ble_eq_true rfl | (simp []; done)))
              | refine W.turn ?_
              | (refine IfB.i (fun _ => ?_) (fun (e : _ = false) => False.elim ?_); rotate_left; focus (simp [] at e; done))
              | (refine IfB.i (fun (e : _ = true) => False.elim ?_) (fun _ => ?_); focus (simp [] at e; done))
              | refine And.intro (fun _ => ?_) (fun (z : true = false) => nomatch z)
              | refine And.intro (fun (z : false = true) => nomatch z) (fun _ => ?_)
              )
            exact ⟨hp, hb, hd1⟩
          · repeat (first
              | refine Go.go ?_
              | (refine Fin.data ?_ ?_; focus (simp []; done))
              | (refine fun r (hr : _ = r) => ?_; (try simp [] at hr); subst hr; first | refine OQ.is ?_ | refine W.ret ?_ | skip)
              | refine Exists.intro _ (And.intro rfl ?_)
              | (refine And.intro (a := noPtr _ = true) ?_ ?_; focus (simp []; done))
              | (refine And.intro (a := D.isPtr _ = false) ?_ ?_; focus (simp []; done))
              | refine Exists.intro _ (And.intro (Or.inl rfl) ?_)
              | refine Exists.intro _ (And.intro (Or.inr rfl) ?_)
              | (refine And.intro (a := isLst _ _ = true) ?_ ?_; focus (simp []; done))
              | (refine And.intro (a := isDct _ _ = true) ?_ ?_; focus (simp []; done))
              | (refine And.intro (a := List.length _ ≤ 15) ?_ ?_; focus (first | exact Nat.le_of_ble_eq_true rfl | (simp []; done)))
              | (refine And.intro (a := List.length _ ≤ lim) ?_ ?_; focus (first | exact Nat.le_of_ble_eq_true rfl | (simp []; done)))
              | refine W.turn ?_
              | (refine IfB.i (fun _ => ?_) (fun (e : _ = false) => False.elim ?_); rotate_left; focus (simp [] at e; done))
              | (refine IfB.i (fun (e : _ = true) => False.elim ?_) (fun _ => ?_); focus (simp [] at e; done))
              | refine And.intro (fun _ => ?_) (fun (z : true = false) => nomatch z)
              | refine And.intro (fun (z : false = true) => nomatch z) (fun _ => ?_)
              )
            exact ⟨hbp, hbd, hd⟩
        · repeat (first
            | refine Go.go ?_
            | (refine Fin.data ?_ ?_; focus (simp []; done))
            | (refine fun r (hr : _ = r) => ?_; (try simp [] at hr); subst hr; first | refine OQ.is ?_ | refine W.ret ?_ | skip)
            | refine Exists.intro _ (And.intro rfl ?_)
            | (refine And.intro (a := noPtr _ = true) ?_ ?_; focus (simp []; done))
            | (refine And.intro (a := D.isPtr _ = false) ?_ ?_; focus (simp []; done))
            | refine Exists.intro _ (And.intro (Or.inl rfl) ?_)
            | refine Exists.intro _ (And.intro (Or.inr rfl) ?_)
            | (refine And.intro (a := isLst _ _ = true) ?_ ?_; focus (simp []; done))
            | (refine And.intro (a := isDct _ _ = true) ?_ ?_; focus (simp []; done))
            | (refine And.intro (a := List.length _ ≤ 15) ?_ ?_; focus (first | exact Nat.le_of_ble_eq_true rfl | (simp []; done)))
            | (refine And.intro (a := List.length _ ≤ lim) ?_ ?_; focus (first | exact Nat.le_of_ble_eq_true rfl | (simp []; done)))
            | refine W.turn ?_
            | (refine IfB.i (fun _ => ?_) (fun (e : _ = false) => False.elim ?_); rotate_left; focus (simp [] at e; done))
            | (refine IfB.i (fun (e : _ = true) => False.elim ?_) (fun _ => ?_); focus (simp [] at e; done))
            | refine And.intro (fun _ => ?_) (fun (z : true = false) => nomatch z)
            | refine And.intro (fun (z : false = true) => nomatch z) (fun _ => ?_)
            )
          exact ⟨hbp, hbd, hd3⟩
      · rintro _ S4 ⟨bs, rfl, hbp, hbd, c4, i4, b4, s4, rfl, n1, n2, n3⟩
        have hd4 : DW [.lst (rows.map Ty.d)] [drS c4 i4 b4 s4, .lst (rows.map Ty.d)] := ⟨c4, i4, b4, s4, rfl, n1, n2, n3⟩
        have hll : (rows.map Ty.d).length < lim := by
          have e := congrArg List.length hall
          rw [List.length_append, List.length_cons, List.length_range] at e
          rw [List.length_map, hl]
          exact Nat.lt_of_lt_of_le (show done.length + 1 < 10 by omega) (by decide)
        have hll' : rows.length < lim := by rw [← List.length_map (f := Ty.d)]; exact hll
        repeat (first
          | refine Go.go ?_
          | (refine Fin.data ?_ ?_; focus (simp [isLst, deref]; done))
          | (refine fun r (hr : _ = r) => ?_; (try simp [isLst, deref] at hr); subst hr; first | refine OQ.is ?_ | refine W.ret ?_ | skip)
          | refine Exists.intro _ (And.intro rfl ?_)
          | (refine And.intro (a := noPtr _ = true) ?_ ?_; focus (simp [isLst, deref]; done))
          | (refine And.intro (a := D.isPtr _ = false) ?_ ?_; focus (simp [isLst, deref]; done))
          | refine Exists.intro _ (And.intro (Or.inl rfl) ?_)
          | refine Exists.intro _ (And.intro (Or.inr rfl) ?_)
          | (refine And.intro (a := isLst _ _ = true) ?_ ?_; focus (simp [isLst, deref]; done))
          | (refine And.intro (a := isDct _ _ = true) ?_ ?_; focus (simp [isLst, deref]; done))
          | (refine And.intro (a := List.length _ ≤ 15) ?_ ?_; focus (first | exact Nat.le_of_ble_eq_true rfl | (simp [isLst, deref]; done)))
          | (refine And.intro (a := List.length _ ≤ lim) ?_ ?_; focus (first | exact Nat.le_of_ble_eq_true rfl | (simp [isLst, deref]; done)))
          | refine W.turn ?_
          | (refine IfB.i (fun _ => ?_) (fun (e : _ = false) => False.elim ?_); rotate_left; focus (simp [isLst, deref] at e; done))
          | (refine IfB.i (fun (e : _ = true) => False.elim ?_) (fun _ => ?_); focus (simp [isLst, deref] at e; done))
          | refine And.intro (fun _ => ?_) (fun (z : true = false) => nomatch z)
          | refine And.intro (fun (z : false = true) => nomatch z) (fun _ => ?_)
          )
        refine draw_any rfl hd4 (by decide) (by decide) fun v S' g1 g2 hd => ?_
        obtain ⟨c5, i5, b5, s5, rfl, q1, q2, q3⟩ := hd
        repeat (first
          | refine Go.go ?_
          | (refine Fin.data ?_ ?_; focus (simp []; done))
          | (refine fun r (hr : _ = r) => ?_; (try simp [] at hr); subst hr; first | refine OQ.is ?_ | refine W.ret ?_ | skip)
          | refine Exists.intro _ (And.intro rfl ?_)
          | (refine And.intro (a := noPtr _ = true) ?_ ?_; focus (simp []; done))
          | (refine And.intro (a := D.isPtr _ = false) ?_ ?_; focus (simp []; done))
          | refine Exists.intro _ (And.intro (Or.inl rfl) ?_)
          | refine Exists.intro _ (And.intro (Or.inr rfl) ?_)
          | (refine And.intro (a := isLst _ _ = true) ?_ ?_; focus (simp []; done))
          | (refine And.intro (a := isDct _ _ = true) ?_ ?_; focus (simp []; done))
          | (refine And.intro (a := List.length _ ≤ 15) ?_ ?_; focus (first | exact Nat.le_of_ble_eq_true rfl | (simp []; done)))
          | (refine And.intro (a := List.length _ ≤ lim) ?_ ?_; focus (first | exact Nat.le_of_ble_eq_true rfl | (simp []; done)))
          | refine W.turn ?_
          | (refine IfB.i (fun _ => ?_) (fun (e : _ = false) => False.elim ?_); rotate_left; focus (simp [] at e; done))
          | (refine IfB.i (fun (e : _ = true) => False.elim ?_) (fun _ => ?_); focus (simp [] at e; done))
          | refine And.intro (fun _ => ?_) (fun (z : true = false) => nomatch z)
          | refine And.intro (fun (z : false = true) => nomatch z) (fun _ => ?_)
          )
        refine IfB.i (fun e => ?_) (fun e => ?_)
        · repeat (first
            | refine Go.go ?_
            | (refine Fin.data ?_ ?_; focus (simp [mtD, appD, hll']; done))
            | (refine fun r (hr : _ = r) => ?_; (try simp [mtD, appD, hll'] at hr); subst hr; first | refine OQ.is ?_ | refine W.ret ?_ | skip)
            | refine Exists.intro _ (And.intro rfl ?_)
            | (refine And.intro (a := noPtr _ = true) ?_ ?_; focus (simp [mtD, appD, hll']; done))
            | (refine And.intro (a := D.isPtr _ = false) ?_ ?_; focus (simp [mtD, appD, hll']; done))
            | refine Exists.intro _ (And.intro (Or.inl rfl) ?_)
            | refine Exists.intro _ (And.intro (Or.inr rfl) ?_)
            | (refine And.intro (a := isLst _ _ = true) ?_ ?_; focus (simp [mtD, appD, hll']; done))
            | (refine And.intro (a := isDct _ _ = true) ?_ ?_; focus (simp [mtD, appD, hll']; done))
            | (refine And.intro (a := List.length _ ≤ 15) ?_ ?_; focus (first | exact Nat.le_of_ble_eq_true rfl | (simp [mtD, appD, hll']; done)))
            | (refine And.intro (a := List.length _ ≤ lim) ?_ ?_; focus (first | exact Nat.le_of_ble_eq_true rfl | (simp [mtD, appD, hll']; done)))
            | refine W.turn ?_
            | (refine IfB.i (fun _ => ?_) (fun (e : _ = false) => False.elim ?_); rotate_left; focus (simp [mtD, appD, hll'] at e; done))
            | (refine IfB.i (fun (e : _ = true) => False.elim ?_) (fun _ => ?_); focus (simp [mtD, appD, hll'] at e; done))
            | refine And.intro (fun _ => ?_) (fun (z : true = false) => nomatch z)
            | refine And.intro (fun (z : false = true) => nomatch z) (fun _ => ?_)
            )
          exact .inl ⟨_, rfl, bs, _, rows ++ [.any], rfl, hbp, hbd, by simp [hl], hlk.snoc hrow rfl (Nat.zero_le _) (al_any _), c5, i5, b5, s5, by simp [Ty.d], q1, q2, q3⟩
        · repeat (first
            | refine Go.go ?_
            | (refine Fin.data ?_ ?_; focus (simp [deref, hat]; done))
            | (refine fun r (hr : _ = r) => ?_; (try simp [deref, hat] at hr); subst hr; first | refine OQ.is ?_ | refine W.ret ?_ | skip)
            | refine Exists.intro _ (And.intro rfl ?_)
            | (refine And.intro (a := noPtr _ = true) ?_ ?_; focus (simp [deref, hat]; done))
            | (refine And.intro (a := D.isPtr _ = false) ?_ ?_; focus (simp [deref, hat]; done))
            | refine Exists.intro _ (And.intro (Or.inl rfl) ?_)
            | refine Exists.intro _ (And.intro (Or.inr rfl) ?_)
            | (refine And.intro (a := isLst _ _ = true) ?_ ?_; focus (simp [deref, hat]; done))
            | (refine And.intro (a := isDct _ _ = true) ?_ ?_; focus (simp [deref, hat]; done))
            | (refine And.intro (a := List.length _ ≤ 15) ?_ ?_; focus (first | exact Nat.le_of_ble_eq_true rfl | (simp [deref, hat]; done)))
            | (refine And.intro (a := List.length _ ≤ lim) ?_ ?_; focus (first | exact Nat.le_of_ble_eq_true rfl | (simp [deref, hat]; done)))
            | refine W.turn ?_
            | (refine IfB.i (fun _ => ?_) (fun (e : _ = false) => False.elim ?_); rotate_left; focus (simp [deref, hat] at e; done))
            | (refine IfB.i (fun (e : _ = true) => False.elim ?_) (fun _ => ?_); focus (simp [deref, hat] at e; done))
            | refine And.intro (fun _ => ?_) (fun (z : true = false) => nomatch z)
            | refine And.intro (fun (z : false = true) => nomatch z) (fun _ => ?_)
            )
          refine W.eq (run_alike _ _ _ _ (by have := (hlk.1 _ (List.getElem_mem hlt)).2; omega)) ?_
          cases ea : rows[done.length].al bs
          · repeat (first
              | refine Go.go ?_
              | (refine Fin.data ?_ ?_; focus (simp [mtD, appD, hll']; done))
              | (refine fun r (hr : _ = r) => ?_; (try simp [mtD, appD, hll'] at hr); subst hr; first | refine OQ.is ?_ | refine W.ret ?_ | skip)
              | refine Exists.intro _ (And.intro rfl ?_)
              | (refine And.intro (a := noPtr _ = true) ?_ ?_; focus (simp [mtD, appD, hll']; done))
              | (refine And.intro (a := D.isPtr _ = false) ?_ ?_; focus (simp [mtD, appD, hll']; done))
              | refine Exists.intro _ (And.intro (Or.inl rfl) ?_)
              | refine Exists.intro _ (And.intro (Or.inr rfl) ?_)
              | (refine And.intro (a := isLst _ _ = true) ?_ ?_; focus (simp [mtD, appD, hll']; done))
              | (refine And.intro (a := isDct _ _ = true) ?_ ?_; focus (simp [mtD, appD, hll']; done))
              | (refine And.intro (a := List.length _ ≤ 15) ?_ ?_; focus (first | exact Nat.le_of_ble_eq_true rfl | (simp [mtD, appD, hll']; done)))
              | (refine And.intro (a := List.length _ ≤ lim) ?_ ?_; focus (first | exact Nat.le_of_ble_eq_true rfl | (simp [mtD, appD, hll']; done)))
              | refine W.turn ?_
              | (refine IfB.i (fun _ => ?_) (fun (e : _ = false) => False.elim ?_); rotate_left; focus (simp [mtD, appD, hll'] at e; done))
              | (refine IfB.i (fun (e : _ = true) => False.elim ?_) (fun _ => ?_); focus (simp [mtD, appD, hll'] at e; done))
              | refine And.intro (fun _ => ?_) (fun (z : true = false) => nomatch z)
              | refine And.intro (fun (z : false = true) => nomatch z) (fun _ => ?_)
              )
            exact .inl ⟨_, rfl, bs, _, rows ++ [.any], rfl, hbp, hbd, by simp [hl], hlk.snoc hrow rfl (Nat.zero_le _) (al_any _), c5, i5, b5, s5, by simp [Ty.d], q1, q2, q3⟩
          · repeat (first
              | refine Go.go ?_
              | (refine Fin.data ?_ ?_; focus (simp [mtD, appD, hll']; done))
              | (refine fun r (hr : _ = r) => ?_; (try simp [mtD, appD, hll'] at hr); subst hr; first | refine OQ.is ?_ | refine W.ret ?_ | skip)
              | refine Exists.intro _ (And.intro rfl ?_)
              | (refine And.intro (a := noPtr _ = true) ?_ ?_; focus (simp [mtD, appD, hll']; done))
              | (refine And.intro (a := D.isPtr _ = false) ?_ ?_; focus (simp [mtD, appD, hll']; done))
              | refine Exists.intro _ (And.intro (Or.inl rfl) ?_)
              | refine Exists.intro _ (And.intro (Or.inr rfl) ?_)
              | (refine And.intro (a := isLst _ _ = true) ?_ ?_; focus (simp [mtD, appD, hll']; done))
              | (refine And.intro (a := isDct _ _ = true) ?_ ?_; focus (simp [mtD, appD, hll']; done))
              | (refine And.intro (a := List.length _ ≤ 15) ?_ ?_; focus (first | exact Nat.le_of_ble_eq_true rfl | (simp [mtD, appD, hll']; done)))
              | (refine And.intro (a := List.length _ ≤ lim) ?_ ?_; focus (first | exact Nat.le_of_ble_eq_true rfl | (simp [mtD, appD, hll']; done)))
              | refine W.turn ?_
              | (refine IfB.i (fun _ => ?_) (fun (e : _ = false) => False.elim ?_); rotate_left; focus (simp [mtD, appD, hll'] at e; done))
              | (refine IfB.i (fun (e : _ = true) => False.elim ?_) (fun _ => ?_); focus (simp [mtD, appD, hll'] at e; done))
              | refine And.intro (fun _ => ?_) (fun (z : true = false) => nomatch z)
              | refine And.intro (fun (z : false = true) => nomatch z) (fun _ => ?_)
              )
            refine W.mono (run_vaguer (T := [.lst (rows.map Ty.d)]) bs _ _ (by omega) ⟨c5, i5, b5, s5, rfl, q1, q2, q3⟩) ?_
            rintro _ _ ⟨x, rfl, hx, c6, i6, b6, s6, rfl, r1, r2, r3⟩
            repeat (first
              | refine Go.go ?_
              | (refine Fin.data ?_ ?_; focus (simp [mtD, appD, hll']; done))
              | (refine fun r (hr : _ = r) => ?_; (try simp [mtD, appD, hll'] at hr); subst hr; first | refine OQ.is ?_ | refine W.ret ?_ | skip)
              | refine Exists.intro _ (And.intro rfl ?_)
              | (refine And.intro (a := noPtr _ = true) ?_ ?_; focus (simp [mtD, appD, hll']; done))
              | (refine And.intro (a := D.isPtr _ = false) ?_ ?_; focus (simp [mtD, appD, hll']; done))
              | refine Exists.intro _ (And.intro (Or.inl rfl) ?_)
              | refine Exists.intro _ (And.intro (Or.inr rfl) ?_)
              | (refine And.intro (a := isLst _ _ = true) ?_ ?_; focus (simp [mtD, appD, hll']; done))
              | (refine And.intro (a := isDct _ _ = true) ?_ ?_; focus (simp [mtD, appD, hll']; done))
              | (refine And.intro (a := List.length _ ≤ 15) ?_ ?_; focus (first | exact Nat.le_of_ble_eq_true rfl | (simp [mtD, appD, hll']; done)))
              | (refine And.intro (a := List.length _ ≤ lim) ?_ ?_; focus (first | exact Nat.le_of_ble_eq_true rfl | (simp [mtD, appD, hll']; done)))
              | refine W.turn ?_
              | (refine IfB.i (fun _ => ?_) (fun (e : _ = false) => False.elim ?_); rotate_left; focus (simp [mtD, appD, hll'] at e; done))
              | (refine IfB.i (fun (e : _ = true) => False.elim ?_) (fun _ => ?_); focus (simp [mtD, appD, hll'] at e; done))
              | refine And.intro (fun _ => ?_) (fun (z : true = false) => nomatch z)
              | refine And.intro (fun (z : false = true) => nomatch z) (fun _ => ?_)
              )
            exact .inl ⟨_, rfl, bs, _, rows ++ [x], rfl, hbp, hbd, by simp [hl], hlk.snoc hrow (hx.plain hbp) (Nat.le_trans hx.dep hbd) (al_vag hx ea), c6, i6, b6, s6, by simp, r1, r2, r3⟩
    · rintro e S' ⟨bs, x4, rows, rfl, _, _, hl, hlk, hd⟩
      exact ⟨_, _, rows, rfl, hl, hlk, hd⟩
  · rintro _ S3 ⟨x2, x4, rows, rfl, hl, hlk, c3, i3, b3, s3, rfl, l1, l2, l3⟩
    repeat (first
      | refine Go.go ?_
      | (refine Fin.data ?_ ?_; focus (simp [frzD]; done))
      | (refine fun r (hr : _ = r) => ?_; (try simp [frzD] at hr); subst hr; first | refine OQ.is ?_ | refine W.ret ?_ | skip)
      | refine Exists.intro _ (And.intro rfl ?_)
      | (refine And.intro (a := noPtr _ = true) ?_ ?_; focus (simp [frzD]; done))
      | (refine And.intro (a := D.isPtr _ = false) ?_ ?_; focus (simp [frzD]; done))
      | refine Exists.intro _ (And.intro (Or.inl rfl) ?_)
      | refine Exists.intro _ (And.intro (Or.inr rfl) ?_)
      | (refine And.intro (a := isLst _ _ = true) ?_ ?_; focus (simp [frzD]; done))
      | (refine And.intro (a := isDct _ _ = true) ?_ ?_; focus (simp [frzD]; done))
      | (refine And.intro (a := List.length _ ≤ 15) ?_ ?_; focus (first | exact Nat.le_of_ble_eq_true rfl | (simp [frzD]; done)))
      | (refine And.intro (a := List.length _ ≤ lim) ?_ ?_; focus (first | exact Nat.le_of_ble_eq_true rfl | (simp [frzD]; done)))
      | refine W.turn ?_
      | (refine IfB.i (fun _ => ?_) (fun (e : _ = false) => False.elim ?_); rotate_left; focus (simp [frzD] at e; done))
      | (refine IfB.i (fun (e : _ = true) => False.elim ?_) (fun _ => ?_); focus (simp [frzD] at e; done))
      | refine And.intro (fun _ => ?_) (fun (z : true = false) => nomatch z)
      | refine And.intro (fun (z : false = true) => nomatch z) (fun _ => ?_)
      )
    exact ⟨hl, hlk, c3, i3, b3, s3, by simp, l1, l2, l3⟩
end PC

set_option Elab.async false
set_option linter.all false
set_option maxRecDepth 100000
set_option maxHeartbeats 4000000
namespace PC
open PySem PyProof.Rows L2
/-! middles -/
inductive My where
  | int | bool | any | never | fn (a b : My) | pair (a b : My) | list (a : My)
def My.d : My → D
  | .int => .tup [.str "int"]
  | .bool => .tup [.str "bool"]
  | .any => .tup [.str "any"]
  | .never => .tup [.str "never"]
  | .fn a b => .tup [.str "fn", a.d, b.d]
  | .pair a b => .tup [.str "pair", a.d, b.d]
  | .list a => .tup [.str "list", a.d]
def My.dep : My → Nat
  | .fn a b => max a.dep b.dep + 1
  | .pair a b => max a.dep b.dep + 1
  | .list a => a.dep + 1
  | _ => 0
@[simp] theorem My.d_np (t : My) : t.d.isPtr = false := by cases t <;> rfl
@[simp] theorem My.d_deref (t : My) {S : Store} : deref S t.d = t.d := deref_data t.d_np
def Ty.my : Ty → My
  | .int => .int
  | .bool => .bool
  | .any => .any
  | .fn a b => .fn a.my b.my
  | .pair a b => .pair a.my b.my
  | .list a => .list a.my
theorem Ty.my_d (t : Ty) : t.d = t.my.d := by
  induction t <;> simp_all [Ty.d, Ty.my, My.d]
theorem Ty.my_dep (t : Ty) : t.my.dep = t.dep := by
  induction t <;> simp_all [Ty.dep, Ty.my, My.dep]
def My.isN : My → Bool
  | .never => true
  | _ => false
def pr (a b : My) : My := if a.isN || b.isN then .never else .pair a b
def My.mm : My → My → My
  | .any, b => b
  | .int, .any => .int
  | .int, .int => .int
  | .bool, .any => .bool
  | .bool, .bool => .bool
  | .fn a b, .any => .fn a b
  | .fn a b, .fn c d => .fn (a.mm c) (b.mm d)
  | .pair a b, .any => .pair a b
  | .pair a b, .pair c d => pr (a.mm c) (b.mm d)
  | .list a, .any => .list a
  | .list a, .list c => .list (a.mm c)
  | _, _ => .never
theorem mm_any (a : My) : a.mm .any = a := by cases a <;> rfl
theorem never_mm (a : My) : My.never.mm a = .never := by cases a <;> rfl
theorem mm_never (a : My) : a.mm .never = .never := by cases a <;> rfl
theorem isN_eq {a : My} (h : a.isN = true) : a = .never := by cases a <;> simp_all [My.isN]
theorem d_isN (t : My) : eqD t.d (.tup [.str "never"]) = some t.isN := by
  rw [eqD_r t.d_np rfl (by simp)]
  cases t <;> simp [My.d, My.isN]
theorem eqv_isN (t : My) : t.d.eqv (.tup [.str "never"]) = t.isN := by cases t <;> simp [My.d, My.isN]
theorem run_mm : ∀ (k : Nat) (a b : My) (S : Store), a.dep < k → callK prog k ix_middle_meet [a.d, b.d] S = some ((a.mm b).d, S) := by
  intro k
  induction k with
  | zero => intro a b S h; omega
  | succ k ih =>
    intro a b S h
    refine W.get (call_middle_meet ?_)
    unfold b_middle_meet
    cases a with
    | any =>
      cases b
      all_goals
        repeat (first
          | refine Go.go ?_
          | (refine Fin.data ?_ ?_; focus (simp [My.d]; done))
          | (refine fun r (hr : _ = r) => ?_; (try simp [My.d] at hr); subst hr; first | refine OQ.is ?_ | refine W.ret ?_ | skip)
          | refine Exists.intro _ (And.intro rfl ?_)
          | (refine And.intro (a := noPtr _ = true) ?_ ?_; focus (simp [My.d]; done))
          | (refine And.intro (a := D.isPtr _ = false) ?_ ?_; focus (simp [My.d]; done))
          | refine Exists.intro _ (And.intro (Or.inl rfl) ?_)
          | refine Exists.intro _ (And.intro (Or.inr rfl) ?_)
          | (refine And.intro (a := isLst _ _ = true) ?_ ?_; focus (simp [My.d]; done))
          | (refine And.intro (a := isDct _ _ = true) ?_ ?_; focus (simp [My.d]; done))
          | (refine And.intro (a := List.length _ ≤ 15) ?_ ?_; focus (first | exact Nat.le_of_ble_eq_true rfl | (simp [My.d]; done)))
          | (refine And.intro (a := List.length _ ≤ lim) ?_ ?_; focus (first | exact Nat.le_of_ble_eq_true rfl | (simp [My.d]; done)))
          | refine W.turn ?_
          | (refine IfB.i (fun _ => ?_) (fun (e : _ = false) => False.elim ?_); rotate_left; focus (simp [My.d] at e; done))
          | (refine IfB.i (fun (e : _ = true) => False.elim ?_) (fun _ => ?_); focus (simp [My.d] at e; done))
          | refine And.intro (fun _ => ?_) (fun (z : true = false) => nomatch z)
          | refine And.intro (fun (z : false = true) => nomatch z) (fun _ => ?_)
          )
        exact ⟨rfl, by simp⟩
    | int =>
      cases b
      all_goals
        repeat (first
          | refine Go.go ?_
          | (refine Fin.data ?_ ?_; focus (simp [My.d, inD]; done))
          | (refine fun r (hr : _ = r) => ?_; (try simp [My.d, inD] at hr); subst hr; first | refine OQ.is ?_ | refine W.ret ?_ | skip)
          | refine Exists.intro _ (And.intro rfl ?_)
          | (refine And.intro (a := noPtr _ = true) ?_ ?_; focus (simp [My.d, inD]; done))
          | (refine And.intro (a := D.isPtr _ = false) ?_ ?_; focus (simp [My.d, inD]; done))
          | refine Exists.intro _ (And.intro (Or.inl rfl) ?_)
          | refine Exists.intro _ (And.intro (Or.inr rfl) ?_)
          | (refine And.intro (a := isLst _ _ = true) ?_ ?_; focus (simp [My.d, inD]; done))
          | (refine And.intro (a := isDct _ _ = true) ?_ ?_; focus (simp [My.d, inD]; done))
          | (refine And.intro (a := List.length _ ≤ 15) ?_ ?_; focus (first | exact Nat.le_of_ble_eq_true rfl | (simp [My.d, inD]; done)))
          | (refine And.intro (a := List.length _ ≤ lim) ?_ ?_; focus (first | exact Nat.le_of_ble_eq_true rfl | (simp [My.d, inD]; done)))
          | refine W.turn ?_
          | (refine IfB.i (fun _ => ?_) (fun (e : _ = false) => False.elim ?_); rotate_left; focus (simp [My.d, inD] at e; done))
          | (refine IfB.i (fun (e : _ = true) => False.elim ?_) (fun _ => ?_); focus (simp [My.d, inD] at e; done))
          | refine And.intro (fun _ => ?_) (fun (z : true = false) => nomatch z)
          | refine And.intro (fun (z : false = true) => nomatch z) (fun _ => ?_)
          )
        exact ⟨rfl, by simp⟩
    | bool =>
      cases b
      all_goals
        repeat (first
          | refine Go.go ?_
          | (refine Fin.data ?_ ?_; focus (simp [My.d, inD]; done))
          | (refine fun r (hr : _ = r) => ?_; (try simp [My.d, inD] at hr); subst hr; first | refine OQ.is ?_ | refine W.ret ?_ | skip)
          | refine Exists.intro _ (And.intro rfl ?_)
          | (refine And.intro (a := noPtr _ = true) ?_ ?_; focus (simp [My.d, inD]; done))
          | (refine And.intro (a := D.isPtr _ = false) ?_ ?_; focus (simp [My.d, inD]; done))
          | refine Exists.intro _ (And.intro (Or.inl rfl) ?_)
          | refine Exists.intro _ (And.intro (Or.inr rfl) ?_)
          | (refine And.intro (a := isLst _ _ = true) ?_ ?_; focus (simp [My.d, inD]; done))
          | (refine And.intro (a := isDct _ _ = true) ?_ ?_; focus (simp [My.d, inD]; done))
          | (refine And.intro (a := List.length _ ≤ 15) ?_ ?_; focus (first | exact Nat.le_of_ble_eq_true rfl | (simp [My.d, inD]; done)))
          | (refine And.intro (a := List.length _ ≤ lim) ?_ ?_; focus (first | exact Nat.le_of_ble_eq_true rfl | (simp [My.d, inD]; done)))
          | refine W.turn ?_
          | (refine IfB.i (fun _ => ?_) (fun (e : _ = false) => False.elim ?_); rotate_left; focus (simp [My.d, inD] at e; done))
          | (refine IfB.i (fun (e : _ = true) => False.elim ?_) (fun _ => ?_); focus (simp [My.d, inD] at e; done))
          | refine And.intro (fun _ => ?_) (fun (z : true = false) => nomatch z)
          | refine And.intro (fun (z : false = true) => nomatch z) (fun _ => ?_)
          )
        exact ⟨rfl, by simp⟩
    | never =>
      cases b
      all_goals
        repeat (first
          | refine Go.go ?_
          | (refine Fin.data ?_ ?_; focus (simp [My.d]; done))
          | (refine fun r (hr : _ = r) => ?_; (try simp [My.d] at hr); subst hr; first | refine OQ.is ?_ | refine W.ret ?_ | skip)
          | refine Exists.intro _ (And.intro rfl ?_)
          | (refine And.intro (a := noPtr _ = true) ?_ ?_; focus (simp [My.d]; done))
          | (refine And.intro (a := D.isPtr _ = false) ?_ ?_; focus (simp [My.d]; done))
          | refine Exists.intro _ (And.intro (Or.inl rfl) ?_)
          | refine Exists.intro _ (And.intro (Or.inr rfl) ?_)
          | (refine And.intro (a := isLst _ _ = true) ?_ ?_; focus (simp [My.d]; done))
          | (refine And.intro (a := isDct _ _ = true) ?_ ?_; focus (simp [My.d]; done))
          | (refine And.intro (a := List.length _ ≤ 15) ?_ ?_; focus (first | exact Nat.le_of_ble_eq_true rfl | (simp [My.d]; done)))
          | (refine And.intro (a := List.length _ ≤ lim) ?_ ?_; focus (first | exact Nat.le_of_ble_eq_true rfl | (simp [My.d]; done)))
          | refine W.turn ?_
          | (refine IfB.i (fun _ => ?_) (fun (e : _ = false) => False.elim ?_); rotate_left; focus (simp [My.d] at e; done))
          | (refine IfB.i (fun (e : _ = true) => False.elim ?_) (fun _ => ?_); focus (simp [My.d] at e; done))
          | refine And.intro (fun _ => ?_) (fun (z : true = false) => nomatch z)
          | refine And.intro (fun (z : false = true) => nomatch z) (fun _ => ?_)
          )
        exact ⟨rfl, by simp⟩
    | fn a1 a2 =>
      simp only [My.dep] at h
      cases b with
      | fn b1 b2 =>
        repeat (first
          | refine Go.go ?_
          | refine W.eq (ih a1 b1 _ (by omega)) ?_
          | refine W.eq (ih a2 b2 _ (by omega)) ?_
          | (refine Fin.data ?_ ?_; focus (simp [My.d]; done))
          | (refine fun r (hr : _ = r) => ?_; (try simp [My.d] at hr); subst hr; first | refine OQ.is ?_ | refine W.ret ?_ | skip)
          | refine Exists.intro _ (And.intro rfl ?_)
          | (refine And.intro (a := noPtr _ = true) ?_ ?_; focus (simp [My.d]; done))
          | (refine And.intro (a := D.isPtr _ = false) ?_ ?_; focus (simp [My.d]; done))
          | refine Exists.intro _ (And.intro (Or.inl rfl) ?_)
          | refine Exists.intro _ (And.intro (Or.inr rfl) ?_)
          | (refine And.intro (a := isLst _ _ = true) ?_ ?_; focus (simp [My.d]; done))
          | (refine And.intro (a := isDct _ _ = true) ?_ ?_; focus (simp [My.d]; done))
          | (refine And.intro (a := List.length _ ≤ 15) ?_ ?_; focus (first | exact Nat.le_of_ble_eq_true rfl | (simp [My.d]; done)))
          | (refine And.intro (a := List.length _ ≤ lim) ?_ ?_; focus (first | exact Nat.le_of_ble_eq_true rfl | (simp [My.d]; done)))
          | refine W.turn ?_
          | (refine IfB.i (fun _ => ?_) (fun (e : _ = false) => False.elim ?_); rotate_left; focus (simp [My.d] at e; done))
          | (refine IfB.i (fun (e : _ = true) => False.elim ?_) (fun _ => ?_); focus (simp [My.d] at e; done))
          | refine And.intro (fun _ => ?_) (fun (z : true = false) => nomatch z)
          | refine And.intro (fun (z : false = true) => nomatch z) (fun _ => ?_)
          )
        exact ⟨rfl, by simp⟩
      | _ =>
        repeat (first
          | refine Go.go ?_
          | (refine Fin.data ?_ ?_; focus (simp [My.d]; done))
          | (refine fun r (hr : _ = r) => ?_; (try simp [My.d] at hr); subst hr; first | refine OQ.is ?_ | refine W.ret ?_ | skip)
          | refine Exists.intro _ (And.intro rfl ?_)
          | (refine And.intro (a := noPtr _ = true) ?_ ?_; focus (simp [My.d]; done))
          | (refine And.intro (a := D.isPtr _ = false) ?_ ?_; focus (simp [My.d]; done))
          | refine Exists.intro _ (And.intro (Or.inl rfl) ?_)
          | refine Exists.intro _ (And.intro (Or.inr rfl) ?_)
          | (refine And.intro (a := isLst _ _ = true) ?_ ?_; focus (simp [My.d]; done))
          | (refine And.intro (a := isDct _ _ = true) ?_ ?_; focus (simp [My.d]; done))
          | (refine And.intro (a := List.length _ ≤ 15) ?_ ?_; focus (first | exact Nat.le_of_ble_eq_true rfl | (simp [My.d]; done)))
          | (refine And.intro (a := List.length _ ≤ lim) ?_ ?_; focus (first | exact Nat.le_of_ble_eq_true rfl | (simp [My.d]; done)))
          | refine W.turn ?_
          | (refine IfB.i (fun _ => ?_) (fun (e : _ = false) => False.elim ?_); rotate_left; focus (simp [My.d] at e; done))
          | (refine IfB.i (fun (e : _ = true) => False.elim ?_) (fun _ => ?_); focus (simp [My.d] at e; done))
          | refine And.intro (fun _ => ?_) (fun (z : true = false) => nomatch z)
          | refine And.intro (fun (z : false = true) => nomatch z) (fun _ => ?_)
          )
        exact ⟨rfl, by simp⟩
    | pair a1 a2 =>
      simp only [My.dep] at h
      cases b with
      | pair b1 b2 =>
        have hin : inD (.tup [.str "never"]) (.lst [(a1.mm b1).d, (a2.mm b2).d]) = some ((a1.mm b1).isN || (a2.mm b2).isN) := by
          simp [inD, eqv_isN]
        repeat (first
          | refine Go.go ?_
          | refine W.eq (ih a1 b1 _ (by omega)) ?_
          | refine W.eq (ih a2 b2 _ (by omega)) ?_
          | (refine fun r (hr : cmpD .in_ _ _ = r) => ?_; unfold cmpD cmpB at hr; simp only [deref_lst', optCons_some, hin, Option.map_some] at hr; subst hr; refine OQ.is ?_)
          | (refine Fin.data ?_ ?_; focus (simp [My.d]; done))
          | (refine fun r (hr : _ = r) => ?_; (try simp [My.d] at hr); subst hr; first | refine OQ.is ?_ | refine W.ret ?_ | skip)
          | refine Exists.intro _ (And.intro rfl ?_)
          | (refine And.intro (a := noPtr _ = true) ?_ ?_; focus (simp [My.d]; done))
          | (refine And.intro (a := D.isPtr _ = false) ?_ ?_; focus (simp [My.d]; done))
          | refine Exists.intro _ (And.intro (Or.inl rfl) ?_)
          | refine Exists.intro _ (And.intro (Or.inr rfl) ?_)
          | (refine And.intro (a := isLst _ _ = true) ?_ ?_; focus (simp [My.d]; done))
          | (refine And.intro (a := isDct _ _ = true) ?_ ?_; focus (simp [My.d]; done))
          | (refine And.intro (a := List.length _ ≤ 15) ?_ ?_; focus (first | exact Nat.le_of_ble_eq_true rfl | (simp [My.d]; done)))
          | (refine And.intro (a := List.length _ ≤ lim) ?_ ?_; focus (first | exact Nat.le_of_ble_eq_true rfl | (simp [My.d]; done)))
          | refine W.turn ?_
          | (refine IfB.i (fun _ => ?_) (fun (e : _ = false) => False.elim ?_); rotate_left; focus (simp [My.d] at e; done))
          | (refine IfB.i (fun (e : _ = true) => False.elim ?_) (fun _ => ?_); focus (simp [My.d] at e; done))
          | refine And.intro (fun _ => ?_) (fun (z : true = false) => nomatch z)
          | refine And.intro (fun (z : false = true) => nomatch z) (fun _ => ?_)
          )
        refine IfB.i (fun e => ?_) (fun e => ?_)
        · repeat (first
            | refine Go.go ?_
            | (refine Fin.data ?_ ?_; focus (simp []; done))
            | (refine fun r (hr : _ = r) => ?_; (try simp [] at hr); subst hr; first | refine OQ.is ?_ | refine W.ret ?_ | skip)
            | refine Exists.intro _ (And.intro rfl ?_)
            | (refine And.intro (a := noPtr _ = true) ?_ ?_; focus (simp []; done))
            | (refine And.intro (a := D.isPtr _ = false) ?_ ?_; focus (simp []; done))
            | refine Exists.intro _ (And.intro (Or.inl rfl) ?_)
            | refine Exists.intro _ (And.intro (Or.inr rfl) ?_)
            | (refine And.intro (a := isLst _ _ = true) ?_ ?_; focus (simp []; done))
            | (refine And.intro (a := isDct _ _ = true) ?_ ?_; focus (simp []; done))
            | (refine And.intro (a := List.length _ ≤ 15) ?_ ?_; focus (first | exact Nat.le_of_ble_eq_true rfl | (simp []; done)))
            | (refine And.intro (a := List.length _ ≤ lim) ?_ ?_; focus (first | exact Nat.le_of_ble_eq_true rfl | (simp []; done)))
            | refine W.turn ?_
            | (refine IfB.i (fun _ => ?_) (fun (e : _ = false) => False.elim ?_); rotate_left; focus (simp [] at e; done))
            | (refine IfB.i (fun (e : _ = true) => False.elim ?_) (fun _ => ?_); focus (simp [] at e; done))
            | refine And.intro (fun _ => ?_) (fun (z : true = false) => nomatch z)
            | refine And.intro (fun (z : false = true) => nomatch z) (fun _ => ?_)
            )
          exact ⟨by simp [My.mm, pr, e, My.d], by simp⟩
        · repeat (first
            | refine Go.go ?_
            | (refine Fin.data ?_ ?_; focus (simp []; done))
            | (refine fun r (hr : _ = r) => ?_; (try simp [] at hr); subst hr; first | refine OQ.is ?_ | refine W.ret ?_ | skip)
            | refine Exists.intro _ (And.intro rfl ?_)
            | (refine And.intro (a := noPtr _ = true) ?_ ?_; focus (simp []; done))
            | (refine And.intro (a := D.isPtr _ = false) ?_ ?_; focus (simp []; done))
            | refine Exists.intro _ (And.intro (Or.inl rfl) ?_)
            | refine Exists.intro _ (And.intro (Or.inr rfl) ?_)
            | (refine And.intro (a := isLst _ _ = true) ?_ ?_; focus (simp []; done))
            | (refine And.intro (a := isDct _ _ = true) ?_ ?_; focus (simp []; done))
            | (refine And.intro (a := List.length _ ≤ 15) ?_ ?_; focus (first | exact Nat.le_of_ble_eq_true rfl | (simp []; done)))
            | (refine And.intro (a := List.length _ ≤ lim) ?_ ?_; focus (first | exact Nat.le_of_ble_eq_true rfl | (simp []; done)))
            | refine W.turn ?_
            | (refine IfB.i (fun _ => ?_) (fun (e : _ = false) => False.elim ?_); rotate_left; focus (simp [] at e; done))
            | (refine IfB.i (fun (e : _ = true) => False.elim ?_) (fun _ => ?_); focus (simp [] at e; done))
            | refine And.intro (fun _ => ?_) (fun (z : true = false) => nomatch z)
            | refine And.intro (fun (z : false = true) => nomatch z) (fun _ => ?_)
            )
          exact ⟨by simp [My.mm, pr, e, My.d], by simp⟩
      | _ =>
        repeat (first
          | refine Go.go ?_
          | (refine Fin.data ?_ ?_; focus (simp [My.d]; done))
          | (refine fun r (hr : _ = r) => ?_; (try simp [My.d] at hr); subst hr; first | refine OQ.is ?_ | refine W.ret ?_ | skip)
          | refine Exists.intro _ (And.intro rfl ?_)
          | (refine And.intro (a := noPtr _ = true) ?_ ?_; focus (simp [My.d]; done))
          | (refine And.intro (a := D.isPtr _ = false) ?_ ?_; focus (simp [My.d]; done))
          | refine Exists.intro _ (And.intro (Or.inl rfl) ?_)
          | refine Exists.intro _ (And.intro (Or.inr rfl) ?_)
          | (refine And.intro (a := isLst _ _ = true) ?_ ?_; focus (simp [My.d]; done))
          | (refine And.intro (a := isDct _ _ = true) ?_ ?_; focus (simp [My.d]; done))
          | (refine And.intro (a := List.length _ ≤ 15) ?_ ?_; focus (first | exact Nat.le_of_ble_eq_true rfl | (simp [My.d]; done)))
          | (refine And.intro (a := List.length _ ≤ lim) ?_ ?_; focus (first | exact Nat.le_of_ble_eq_true rfl | (simp [My.d]; done)))
          | refine W.turn ?_
          | (refine IfB.i (fun _ => ?_) (fun (e : _ = false) => False.elim ?_); rotate_left; focus (simp [My.d] at e; done))
          | (refine IfB.i (fun (e : _ = true) => False.elim ?_) (fun _ => ?_); focus (simp [My.d] at e; done))
          | refine And.intro (fun _ => ?_) (fun (z : true = false) => nomatch z)
          | refine And.intro (fun (z : false = true) => nomatch z) (fun _ => ?_)
          )
        exact ⟨rfl, by simp⟩
    | list a1 =>
      simp only [My.dep] at h
      cases b with
      | list b1 =>
        repeat (first
          | refine Go.go ?_
          | refine W.eq (ih a1 b1 _ (by omega)) ?_
          | (refine Fin.data ?_ ?_; focus (simp [My.d]; done))
          | (refine fun r (hr : _ = r) => ?_; (try simp [My.d] at hr); subst hr; first | refine OQ.is ?_ | refine W.ret ?_ | skip)
          | refine Exists.intro _ (And.intro rfl ?_)
          | (refine And.intro (a := noPtr _ = true) ?_ ?_; focus (simp [My.d]; done))
          | (refine And.intro (a := D.isPtr _ = false) ?_ ?_; focus (simp [My.d]; done))
          | refine Exists.intro _ (And.intro (Or.inl rfl) ?_)
          | refine Exists.intro _ (And.intro (Or.inr rfl) ?_)
          | (refine And.intro (a := isLst _ _ = true) ?_ ?_; focus (simp [My.d]; done))
          | (refine And.intro (a := isDct _ _ = true) ?_ ?_; focus (simp [My.d]; done))
          | (refine And.intro (a := List.length _ ≤ 15) ?_ ?_; focus (first | exact Nat.le_of_ble_eq_true rfl | (simp [My.d]; done)))
          | (refine And.intro (a := List.length _ ≤ lim) ?_ ?_; focus (first | exact Nat.le_of_ble_eq_true rfl | (simp [My.d]; done)))
          | refine W.turn ?_
          | (refine IfB.i (fun _ => ?_) (fun (e : _ = false) => False.elim ?_); rotate_left; focus (simp [My.d] at e; done))
          | (refine IfB.i (fun (e : _ = true) => False.elim ?_) (fun _ => ?_); focus (simp [My.d] at e; done))
          | refine And.intro (fun _ => ?_) (fun (z : true = false) => nomatch z)
          | refine And.intro (fun (z : false = true) => nomatch z) (fun _ => ?_)
          )
        exact ⟨rfl, by simp⟩
      | _ =>
        repeat (first
          | refine Go.go ?_
          | (refine Fin.data ?_ ?_; focus (simp [My.d]; done))
          | (refine fun r (hr : _ = r) => ?_; (try simp [My.d] at hr); subst hr; first | refine OQ.is ?_ | refine W.ret ?_ | skip)
          | refine Exists.intro _ (And.intro rfl ?_)
          | (refine And.intro (a := noPtr _ = true) ?_ ?_; focus (simp [My.d]; done))
          | (refine And.intro (a := D.isPtr _ = false) ?_ ?_; focus (simp [My.d]; done))
          | refine Exists.intro _ (And.intro (Or.inl rfl) ?_)
          | refine Exists.intro _ (And.intro (Or.inr rfl) ?_)
          | (refine And.intro (a := isLst _ _ = true) ?_ ?_; focus (simp [My.d]; done))
          | (refine And.intro (a := isDct _ _ = true) ?_ ?_; focus (simp [My.d]; done))
          | (refine And.intro (a := List.length _ ≤ 15) ?_ ?_; focus (first | exact Nat.le_of_ble_eq_true rfl | (simp [My.d]; done)))
          | (refine And.intro (a := List.length _ ≤ lim) ?_ ?_; focus (first | exact Nat.le_of_ble_eq_true rfl | (simp [My.d]; done)))
          | refine W.turn ?_
          | (refine IfB.i (fun _ => ?_) (fun (e : _ = false) => False.elim ?_); rotate_left; focus (simp [My.d] at e; done))
          | (refine IfB.i (fun (e : _ = true) => False.elim ?_) (fun _ => ?_); focus (simp [My.d] at e; done))
          | refine And.intro (fun _ => ?_) (fun (z : true = false) => nomatch z)
          | refine And.intro (fun (z : false = true) => nomatch z) (fun _ => ?_)
          )
        exact ⟨rfl, by simp⟩
end PC

set_option Elab.async false
set_option linter.all false
set_option maxRecDepth 100000
set_option maxHeartbeats 4000000
namespace PC
open PySem PyProof.Rows L2
/-! meets of alike types -/
theorem al_isN : ∀ {a b : Ty}, a.al b = true → (a.my.mm b.my).isN = false := by
  intro a
  induction a with
  | any => intro b _; cases b <;> rfl
  | int => intro b h; cases b <;> simp_all [Ty.al, Ty.my, My.mm, My.isN]
  | bool => intro b h; cases b <;> simp_all [Ty.al, Ty.my, My.mm, My.isN]
  | fn x y ihx ihy => intro b h; cases b <;> simp_all [Ty.al, Ty.my, My.mm, My.isN]
  | pair x y ihx ihy => intro b h; cases b <;> simp_all [Ty.al, Ty.my, My.mm, My.isN, pr]
  | list x ihx => intro b h; cases b <;> simp_all [Ty.al, Ty.my, My.mm, My.isN]
@[simp] theorem My.d_non (t : My) : t.d.eqv .non = false := by cases t <;> simp [My.d]
theorem run_meet : ∀ (k : Nat) (a b : Ty) (S : Store), a.al b = true → a.dep < k → callK prog k ix_meet [a.d, b.d] S = some ((a.my.mm b.my).d, S) := by
  intro k
  induction k with
  | zero => intro a b S _ h; omega
  | succ k ih =>
    intro a b S ha h
    refine W.get (call_meet ?_)
    unfold b_meet
    cases a with
    | any =>
      cases b
      all_goals
        repeat (first
          | refine Go.go ?_
          | (refine Fin.data ?_ ?_; focus (simp [Ty.d]; done))
          | (refine fun r (hr : _ = r) => ?_; (try simp [Ty.d] at hr); subst hr; first | refine OQ.is ?_ | refine W.ret ?_ | skip)
          | refine Exists.intro _ (And.intro rfl ?_)
          | (refine And.intro (a := noPtr _ = true) ?_ ?_; focus (simp [Ty.d]; done))
          | (refine And.intro (a := D.isPtr _ = false) ?_ ?_; focus (simp [Ty.d]; done))
          | refine Exists.intro _ (And.intro (Or.inl rfl) ?_)
          | refine Exists.intro _ (And.intro (Or.inr rfl) ?_)
          | (refine And.intro (a := isLst _ _ = true) ?_ ?_; focus (simp [Ty.d]; done))
          | (refine And.intro (a := isDct _ _ = true) ?_ ?_; focus (simp [Ty.d]; done))
          | (refine And.intro (a := List.length _ ≤ 15) ?_ ?_; focus (first | exact Nat.le_of_ble_eq_true rfl | (simp [Ty.d]; done)))
          | (refine And.intro (a := List.length _ ≤ lim) ?_ ?_; focus (first | exact Nat.le_of_ble_eq_true rfl | (simp [Ty.d]; done)))
          | refine W.turn ?_
          | (refine IfB.i (fun _ => ?_) (fun (e : _ = false) => False.elim ?_); rotate_left; focus (simp [Ty.d] at e; done))
          | (refine IfB.i (fun (e : _ = true) => False.elim ?_) (fun _ => ?_); focus (simp [Ty.d] at e; done))
          | refine And.intro (fun _ => ?_) (fun (z : true = false) => nomatch z)
          | refine And.intro (fun (z : false = true) => nomatch z) (fun _ => ?_)
          )
        exact ⟨by simp [Ty.my, My.mm, My.d, Ty.my_d], by simp⟩
    | int =>
      cases b <;> simp only [Ty.al] at ha <;> try cases ha
      all_goals
        repeat (first
          | refine Go.go ?_
          | (refine Fin.data ?_ ?_; focus (simp [Ty.d, inD]; done))
          | (refine fun r (hr : _ = r) => ?_; (try simp [Ty.d, inD] at hr); subst hr; first | refine OQ.is ?_ | refine W.ret ?_ | skip)
          | refine Exists.intro _ (And.intro rfl ?_)
          | (refine And.intro (a := noPtr _ = true) ?_ ?_; focus (simp [Ty.d, inD]; done))
          | (refine And.intro (a := D.isPtr _ = false) ?_ ?_; focus (simp [Ty.d, inD]; done))
          | refine Exists.intro _ (And.intro (Or.inl rfl) ?_)
          | refine Exists.intro _ (And.intro (Or.inr rfl) ?_)
          | (refine And.intro (a := isLst _ _ = true) ?_ ?_; focus (simp [Ty.d, inD]; done))
          | (refine And.intro (a := isDct _ _ = true) ?_ ?_; focus (simp [Ty.d, inD]; done))
          | (refine And.intro (a := List.length _ ≤ 15) ?_ ?_; focus (first | exact Nat.le_of_ble_eq_true rfl | (simp [Ty.d, inD]; done)))
          | (refine And.intro (a := List.length _ ≤ lim) ?_ ?_; focus (first | exact Nat.le_of_ble_eq_true rfl | (simp [Ty.d, inD]; done)))
          | refine W.turn ?_
          | (refine IfB.i (fun _ => ?_) (fun (e : _ = false) => False.elim ?_); rotate_left; focus (simp [Ty.d, inD] at e; done))
          | (refine IfB.i (fun (e : _ = true) => False.elim ?_) (fun _ => ?_); focus (simp [Ty.d, inD] at e; done))
          | refine And.intro (fun _ => ?_) (fun (z : true = false) => nomatch z)
          | refine And.intro (fun (z : false = true) => nomatch z) (fun _ => ?_)
          )
        exact ⟨rfl, by simp⟩
    | bool =>
      cases b <;> simp only [Ty.al] at ha <;> try cases ha
      all_goals
        repeat (first
          | refine Go.go ?_
          | (refine Fin.data ?_ ?_; focus (simp [Ty.d, inD]; done))
          | (refine fun r (hr : _ = r) => ?_; (try simp [Ty.d, inD] at hr); subst hr; first | refine OQ.is ?_ | refine W.ret ?_ | skip)
          | refine Exists.intro _ (And.intro rfl ?_)
          | (refine And.intro (a := noPtr _ = true) ?_ ?_; focus (simp [Ty.d, inD]; done))
          | (refine And.intro (a := D.isPtr _ = false) ?_ ?_; focus (simp [Ty.d, inD]; done))
          | refine Exists.intro _ (And.intro (Or.inl rfl) ?_)
          | refine Exists.intro _ (And.intro (Or.inr rfl) ?_)
          | (refine And.intro (a := isLst _ _ = true) ?_ ?_; focus (simp [Ty.d, inD]; done))
          | (refine And.intro (a := isDct _ _ = true) ?_ ?_; focus (simp [Ty.d, inD]; done))
          | (refine And.intro (a := List.length _ ≤ 15) ?_ ?_; focus (first | exact Nat.le_of_ble_eq_true rfl | (simp [Ty.d, inD]; done)))
          | (refine And.intro (a := List.length _ ≤ lim) ?_ ?_; focus (first | exact Nat.le_of_ble_eq_true rfl | (simp [Ty.d, inD]; done)))
          | refine W.turn ?_
          | (refine IfB.i (fun _ => ?_) (fun (e : _ = false) => False.elim ?_); rotate_left; focus (simp [Ty.d, inD] at e; done))
          | (refine IfB.i (fun (e : _ = true) => False.elim ?_) (fun _ => ?_); focus (simp [Ty.d, inD] at e; done))
          | refine And.intro (fun _ => ?_) (fun (z : true = false) => nomatch z)
          | refine And.intro (fun (z : false = true) => nomatch z) (fun _ => ?_)
          )
        exact ⟨rfl, by simp⟩
    | fn a1 a2 =>
      simp only [Ty.dep] at h
      cases b with
      | fn b1 b2 =>
        simp only [Ty.al, Bool.and_eq_true] at ha
        repeat (first
          | refine Go.go ?_
          | refine W.eq (ih a1 b1 _ ha.1 (by omega)) ?_
          | refine W.eq (ih a2 b2 _ ha.2 (by omega)) ?_
          | (refine Fin.data ?_ ?_; focus (simp [Ty.d, inD]; done))
          | (refine fun r (hr : _ = r) => ?_; (try simp [Ty.d, inD] at hr); subst hr; first | refine OQ.is ?_ | refine W.ret ?_ | skip)
          | refine Exists.intro _ (And.intro rfl ?_)
          | (refine And.intro (a := noPtr _ = true) ?_ ?_; focus (simp [Ty.d, inD]; done))
          | (refine And.intro (a := D.isPtr _ = false) ?_ ?_; focus (simp [Ty.d, inD]; done))
          | refine Exists.intro _ (And.intro (Or.inl rfl) ?_)
          | refine Exists.intro _ (And.intro (Or.inr rfl) ?_)
          | (refine And.intro (a := isLst _ _ = true) ?_ ?_; focus (simp [Ty.d, inD]; done))
          | (refine And.intro (a := isDct _ _ = true) ?_ ?_; focus (simp [Ty.d, inD]; done))
          | (refine And.intro (a := List.length _ ≤ 15) ?_ ?_; focus (first | exact Nat.le_of_ble_eq_true rfl | (simp [Ty.d, inD]; done)))
          | (refine And.intro (a := List.length _ ≤ lim) ?_ ?_; focus (first | exact Nat.le_of_ble_eq_true rfl | (simp [Ty.d, inD]; done)))
          | refine W.turn ?_
          | (refine IfB.i (fun _ => ?_) (fun (e : _ = false) => False.elim ?_); rotate_left; focus (simp [Ty.d, inD] at e; done))
          | (refine IfB.i (fun (e : _ = true) => False.elim ?_) (fun _ => ?_); focus (simp [Ty.d, inD] at e; done))
          | refine And.intro (fun _ => ?_) (fun (z : true = false) => nomatch z)
          | refine And.intro (fun (z : false = true) => nomatch z) (fun _ => ?_)
          )
        exact ⟨rfl, by simp⟩
      | any =>
        repeat (first
          | refine Go.go ?_
          | (refine Fin.data ?_ ?_; focus (simp [Ty.d]; done))
          | (refine fun r (hr : _ = r) => ?_; (try simp [Ty.d] at hr); subst hr; first | refine OQ.is ?_ | refine W.ret ?_ | skip)
          | refine Exists.intro _ (And.intro rfl ?_)
          | (refine And.intro (a := noPtr _ = true) ?_ ?_; focus (simp [Ty.d]; done))
          | (refine And.intro (a := D.isPtr _ = false) ?_ ?_; focus (simp [Ty.d]; done))
          | refine Exists.intro _ (And.intro (Or.inl rfl) ?_)
          | refine Exists.intro _ (And.intro (Or.inr rfl) ?_)
          | (refine And.intro (a := isLst _ _ = true) ?_ ?_; focus (simp [Ty.d]; done))
          | (refine And.intro (a := isDct _ _ = true) ?_ ?_; focus (simp [Ty.d]; done))
          | (refine And.intro (a := List.length _ ≤ 15) ?_ ?_; focus (first | exact Nat.le_of_ble_eq_true rfl | (simp [Ty.d]; done)))
          | (refine And.intro (a := List.length _ ≤ lim) ?_ ?_; focus (first | exact Nat.le_of_ble_eq_true rfl | (simp [Ty.d]; done)))
          | refine W.turn ?_
          | (refine IfB.i (fun _ => ?_) (fun (e : _ = false) => False.elim ?_); rotate_left; focus (simp [Ty.d] at e; done))
          | (refine IfB.i (fun (e : _ = true) => False.elim ?_) (fun _ => ?_); focus (simp [Ty.d] at e; done))
          | refine And.intro (fun _ => ?_) (fun (z : true = false) => nomatch z)
          | refine And.intro (fun (z : false = true) => nomatch z) (fun _ => ?_)
          )
        exact ⟨by simp [Ty.my, My.mm, My.d, Ty.my_d], by simp⟩
      | _ => simp [Ty.al] at ha
    | pair a1 a2 =>
      simp only [Ty.dep] at h
      cases b with
      | pair b1 b2 =>
        simp only [Ty.al, Bool.and_eq_true] at ha
        repeat (first
          | refine Go.go ?_
          | refine W.eq (ih a1 b1 _ ha.1 (by omega)) ?_
          | refine W.eq (ih a2 b2 _ ha.2 (by omega)) ?_
          | (refine Fin.data ?_ ?_; focus (simp [Ty.d, inD]; done))
          | (refine fun r (hr : _ = r) => ?_; (try simp [Ty.d, inD] at hr); subst hr; first | refine OQ.is ?_ | refine W.ret ?_ | skip)
          | refine Exists.intro _ (And.intro rfl ?_)
          | (refine And.intro (a := noPtr _ = true) ?_ ?_; focus (simp [Ty.d, inD]; done))
          | (refine And.intro (a := D.isPtr _ = false) ?_ ?_; focus (simp [Ty.d, inD]; done))
          | refine Exists.intro _ (And.intro (Or.inl rfl) ?_)
          | refine Exists.intro _ (And.intro (Or.inr rfl) ?_)
          | (refine And.intro (a := isLst _ _ = true) ?_ ?_; focus (simp [Ty.d, inD]; done))
          | (refine And.intro (a := isDct _ _ = true) ?_ ?_; focus (simp [Ty.d, inD]; done))
          | (refine And.intro (a := List.length _ ≤ 15) ?_ ?_; focus (first | exact Nat.le_of_ble_eq_true rfl | (simp [Ty.d, inD]; done)))
          | (refine And.intro (a := List.length _ ≤ lim) ?_ ?_; focus (first | exact Nat.le_of_ble_eq_true rfl | (simp [Ty.d, inD]; done)))
          | refine W.turn ?_
          | (refine IfB.i (fun _ => ?_) (fun (e : _ = false) => False.elim ?_); rotate_left; focus (simp [Ty.d, inD] at e; done))
          | (refine IfB.i (fun (e : _ = true) => False.elim ?_) (fun _ => ?_); focus (simp [Ty.d, inD] at e; done))
          | refine And.intro (fun _ => ?_) (fun (z : true = false) => nomatch z)
          | refine And.intro (fun (z : false = true) => nomatch z) (fun _ => ?_)
          )
        exact ⟨by simp [Ty.my, My.mm, pr, al_isN ha.1, al_isN ha.2, My.d], by simp⟩
      | any =>
        repeat (first
          | refine Go.go ?_
          | (refine Fin.data ?_ ?_; focus (simp [Ty.d]; done))
          | (refine fun r (hr : _ = r) => ?_; (try simp [Ty.d] at hr); subst hr; first | refine OQ.is ?_ | refine W.ret ?_ | skip)
          | refine Exists.intro _ (And.intro rfl ?_)
          | (refine And.intro (a := noPtr _ = true) ?_ ?_; focus (simp [Ty.d]; done))
          | (refine And.intro (a := D.isPtr _ = false) ?_ ?_; focus (simp [Ty.d]; done))
          | refine Exists.intro _ (And.intro (Or.inl rfl) ?_)
          | refine Exists.intro _ (And.intro (Or.inr rfl) ?_)
          | (refine And.intro (a := isLst _ _ = true) ?_ ?_; focus (simp [Ty.d]; done))
          | (refine And.intro (a := isDct _ _ = true) ?_ ?_; focus (simp [Ty.d]; done))
          | (refine And.intro (a := List.length _ ≤ 15) ?_ ?_; focus (first | exact Nat.le_of_ble_eq_true rfl | (simp [Ty.d]; done)))
          | (refine And.intro (a := List.length _ ≤ lim) ?_ ?_; focus (first | exact Nat.le_of_ble_eq_true rfl | (simp [Ty.d]; done)))
          | refine W.turn ?_
          | (refine IfB.i (fun _ => ?_) (fun (e : _ = false) => False.elim ?_); rotate_left; focus (simp [Ty.d] at e; done))
          | (refine IfB.i (fun (e : _ = true) => False.elim ?_) (fun _ => ?_); focus (simp [Ty.d] at e; done))
          | refine And.intro (fun _ => ?_) (fun (z : true = false) => nomatch z)
          | refine And.intro (fun (z : false = true) => nomatch z) (fun _ => ?_)
          )
        exact ⟨by simp [Ty.my, My.mm, My.d, Ty.my_d], by simp⟩
      | _ => simp [Ty.al] at ha
    | list a1 =>
      simp only [Ty.dep] at h
      cases b with
      | list b1 =>
        simp only [Ty.al] at ha
        repeat (first
          | refine Go.go ?_
          | refine W.eq (ih a1 b1 _ ha (by omega)) ?_
          | (refine Fin.data ?_ ?_; focus (simp [Ty.d, inD]; done))
          | (refine fun r (hr : _ = r) => ?_; (try simp [Ty.d, inD] at hr); subst hr; first | refine OQ.is ?_ | refine W.ret ?_ | skip)
          | refine Exists.intro _ (And.intro rfl ?_)
          | (refine And.intro (a := noPtr _ = true) ?_ ?_; focus (simp [Ty.d, inD]; done))
          | (refine And.intro (a := D.isPtr _ = false) ?_ ?_; focus (simp [Ty.d, inD]; done))
          | refine Exists.intro _ (And.intro (Or.inl rfl) ?_)
          | refine Exists.intro _ (And.intro (Or.inr rfl) ?_)
          | (refine And.intro (a := isLst _ _ = true) ?_ ?_; focus (simp [Ty.d, inD]; done))
          | (refine And.intro (a := isDct _ _ = true) ?_ ?_; focus (simp [Ty.d, inD]; done))
          | (refine And.intro (a := List.length _ ≤ 15) ?_ ?_; focus (first | exact Nat.le_of_ble_eq_true rfl | (simp [Ty.d, inD]; done)))
          | (refine And.intro (a := List.length _ ≤ lim) ?_ ?_; focus (first | exact Nat.le_of_ble_eq_true rfl | (simp [Ty.d, inD]; done)))
          | refine W.turn ?_
          | (refine IfB.i (fun _ => ?_) (fun (e : _ = false) => False.elim ?_); rotate_left; focus (simp [Ty.d, inD] at e; done))
          | (refine IfB.i (fun (e : _ = true) => False.elim ?_) (fun _ => ?_); focus (simp [Ty.d, inD] at e; done))
          | refine And.intro (fun _ => ?_) (fun (z : true = false) => nomatch z)
          | refine And.intro (fun (z : false = true) => nomatch z) (fun _ => ?_)
          )
        exact ⟨rfl, by simp⟩
      | any =>
        repeat (first
          | refine Go.go ?_
          | (refine Fin.data ?_ ?_; focus (simp [Ty.d]; done))
          | (refine fun r (hr : _ = r) => ?_; (try simp [Ty.d] at hr); subst hr; first | refine OQ.is ?_ | refine W.ret ?_ | skip)
          | refine Exists.intro _ (And.intro rfl ?_)
          | (refine And.intro (a := noPtr _ = true) ?_ ?_; focus (simp [Ty.d]; done))
          | (refine And.intro (a := D.isPtr _ = false) ?_ ?_; focus (simp [Ty.d]; done))
          | refine Exists.intro _ (And.intro (Or.inl rfl) ?_)
          | refine Exists.intro _ (And.intro (Or.inr rfl) ?_)
          | (refine And.intro (a := isLst _ _ = true) ?_ ?_; focus (simp [Ty.d]; done))
          | (refine And.intro (a := isDct _ _ = true) ?_ ?_; focus (simp [Ty.d]; done))
          | (refine And.intro (a := List.length _ ≤ 15) ?_ ?_; focus (first | exact Nat.le_of_ble_eq_true rfl | (simp [Ty.d]; done)))
          | (refine And.intro (a := List.length _ ≤ lim) ?_ ?_; focus (first | exact Nat.le_of_ble_eq_true rfl | (simp [Ty.d]; done)))
          | refine W.turn ?_
          | (refine IfB.i (fun _ => ?_) (fun (e : _ = false) => False.elim ?_); rotate_left; focus (simp [Ty.d] at e; done))
          | (refine IfB.i (fun (e : _ = true) => False.elim ?_) (fun _ => ?_); focus (simp [Ty.d] at e; done))
          | refine And.intro (fun _ => ?_) (fun (z : true = false) => nomatch z)
          | refine And.intro (fun (z : false = true) => nomatch z) (fun _ => ?_)
          )
        exact ⟨by simp [Ty.my, My.mm, My.d, Ty.my_d], by simp⟩
      | _ => simp [Ty.al] at ha
/-! triples -/
abbrev tr (a b : Ty) : D := .tup [a.d, (a.my.mm b.my).d, b.d]
theorem run_triple {k : Nat} {a b : Ty} {S : Store} (ha : a.al b = true) (h : a.dep + 1 < k) : callK prog k ix_triple [a.d, b.d] S = some (tr a b, S) := by
  obtain ⟨k, rfl⟩ : ∃ j, k = j + 1 := ⟨k - 1, by omega⟩
  refine W.get (call_triple ?_)
  unfold b_triple
  repeat (first
    | refine Go.go ?_
    | refine W.eq (run_meet _ a b _ ha (by omega)) ?_
    | (refine Fin.data ?_ ?_; focus (simp []; done))
    | (refine fun r (hr : _ = r) => ?_; (try simp [] at hr); subst hr; first | refine OQ.is ?_ | refine W.ret ?_ | skip)
    | refine Exists.intro _ (And.intro rfl ?_)
    | (refine And.intro (a := noPtr _ = true) ?_ ?_; focus (simp []; done))
    | (refine And.intro (a := D.isPtr _ = false) ?_ ?_; focus (simp []; done))
    | refine Exists.intro _ (And.intro (Or.inl rfl) ?_)
    | refine Exists.intro _ (And.intro (Or.inr rfl) ?_)
    | (refine And.intro (a := isLst _ _ = true) ?_ ?_; focus (simp []; done))
    | (refine And.intro (a := isDct _ _ = true) ?_ ?_; focus (simp []; done))
    | (refine And.intro (a := List.length _ ≤ 15) ?_ ?_; focus (first | exact Nat.le_of_ble_eq_true rfl | (simp []; done)))
    | (refine And.intro (a := List.length _ ≤ lim) ?_ ?_; focus (first | exact Nat.le_of_ble_eq_true rfl | (simp []; done)))
    | refine W.turn ?_
    | (refine IfB.i (fun _ => ?_) (fun (e : _ = false) => False.elim ?_); rotate_left; focus (simp [] at e; done))
    | (refine IfB.i (fun (e : _ = true) => False.elim ?_) (fun _ => ?_); focus (simp [] at e; done))
    | refine And.intro (fun _ => ?_) (fun (z : true = false) => nomatch z)
    | refine And.intro (fun (z : false = true) => nomatch z) (fun _ => ?_)
    )
  exact ⟨rfl, by simp⟩
theorem run_joined {k : Nat} {a b c e : Ty} {m n : My} {S : Store} (h : m.dep + 1 < k) : callK prog k ix_joined [.tup [a.d, m.d, b.d], .tup [c.d, n.d, e.d]] S = some (.tup [a.d, (m.mm n).d, e.d], S) := by
  obtain ⟨k, rfl⟩ : ∃ j, k = j + 1 := ⟨k - 1, by omega⟩
  refine W.get (call_joined ?_)
  unfold b_joined
  repeat (first
    | refine Go.go ?_
    | refine W.eq (run_mm _ m n _ (by omega)) ?_
    | (refine Fin.data ?_ ?_; focus (simp []; done))
    | (refine fun r (hr : _ = r) => ?_; (try simp [] at hr); subst hr; first | refine OQ.is ?_ | refine W.ret ?_ | skip)
    | refine Exists.intro _ (And.intro rfl ?_)
    | (refine And.intro (a := noPtr _ = true) ?_ ?_; focus (simp []; done))
    | (refine And.intro (a := D.isPtr _ = false) ?_ ?_; focus (simp []; done))
    | refine Exists.intro _ (And.intro (Or.inl rfl) ?_)
    | refine Exists.intro _ (And.intro (Or.inr rfl) ?_)
    | (refine And.intro (a := isLst _ _ = true) ?_ ?_; focus (simp []; done))
    | (refine And.intro (a := isDct _ _ = true) ?_ ?_; focus (simp []; done))
    | (refine And.intro (a := List.length _ ≤ 15) ?_ ?_; focus (first | exact Nat.le_of_ble_eq_true rfl | (simp []; done)))
    | (refine And.intro (a := List.length _ ≤ lim) ?_ ?_; focus (first | exact Nat.le_of_ble_eq_true rfl | (simp []; done)))
    | refine W.turn ?_
    | (refine IfB.i (fun _ => ?_) (fun (e : _ = false) => False.elim ?_); rotate_left; focus (simp [] at e; done))
    | (refine IfB.i (fun (e : _ = true) => False.elim ?_) (fun _ => ?_); focus (simp [] at e; done))
    | refine And.intro (fun _ => ?_) (fun (z : true = false) => nomatch z)
    | refine And.intro (fun (z : false = true) => nomatch z) (fun _ => ?_)
    )
  exact ⟨rfl, by simp⟩
/-! what a middle tells -/
def tl : My → My → Bool
  | .never, _ => true
  | _, .any => true
  | .int, .int => true
  | .bool, .bool => true
  | .fn a b, .fn c d => tl a c && tl b d
  | .pair a b, .pair c d => tl a c && tl b d
  | .list a, .list c => tl a c
  | _, _ => false
theorem run_tells : ∀ (k : Nat) (a : My) (b : Ty) (S : Store), a.dep < k → callK prog k ix_tells [a.d, b.d] S = some (.bl (tl a b.my), S) := by
  intro k
  induction k with
  | zero => intro a b S h; omega
  | succ k ih =>
    intro a b S h
    refine W.get (call_tells ?_)
    unfold b_tells
    cases a with
    | never =>
      cases b
      all_goals
        repeat (first
          | refine Go.go ?_
          | (refine Fin.data ?_ ?_; focus (simp [My.d, Ty.d]; done))
          | (refine fun r (hr : _ = r) => ?_; (try simp [My.d, Ty.d] at hr); subst hr; first | refine OQ.is ?_ | refine W.ret ?_ | skip)
          | refine Exists.intro _ (And.intro rfl ?_)
          | (refine And.intro (a := noPtr _ = true) ?_ ?_; focus (simp [My.d, Ty.d]; done))
          | (refine And.intro (a := D.isPtr _ = false) ?_ ?_; focus (simp [My.d, Ty.d]; done))
          | refine Exists.intro _ (And.intro (Or.inl rfl) ?_)
          | refine Exists.intro _ (And.intro (Or.inr rfl) ?_)
          | (refine And.intro (a := isLst _ _ = true) ?_ ?_; focus (simp [My.d, Ty.d]; done))
          | (refine And.intro (a := isDct _ _ = true) ?_ ?_; focus (simp [My.d, Ty.d]; done))
          | (refine And.intro (a := List.length _ ≤ 15) ?_ ?_; focus (first | exact Nat.le_of_ble_eq_true rfl | (simp [My.d, Ty.d]; done)))
          | (refine And.intro (a := List.length _ ≤ lim) ?_ ?_; focus (first | exact Nat.le_of_ble_eq_true rfl | (simp [My.d, Ty.d]; done)))
          | refine W.turn ?_
          | (refine IfB.i (fun _ => ?_) (fun (e : _ = false) => False.elim ?_); rotate_left; focus (simp [My.d, Ty.d] at e; done))
          | (refine IfB.i (fun (e : _ = true) => False.elim ?_) (fun _ => ?_); focus (simp [My.d, Ty.d] at e; done))
          | refine And.intro (fun _ => ?_) (fun (z : true = false) => nomatch z)
          | refine And.intro (fun (z : false = true) => nomatch z) (fun _ => ?_)
          )
        exact ⟨rfl, by simp⟩
    | any =>
      cases b
      all_goals
        repeat (first
          | refine Go.go ?_
          | (refine Fin.data ?_ ?_; focus (simp [My.d, Ty.d]; done))
          | (refine fun r (hr : _ = r) => ?_; (try simp [My.d, Ty.d] at hr); subst hr; first | refine OQ.is ?_ | refine W.ret ?_ | skip)
          | refine Exists.intro _ (And.intro rfl ?_)
          | (refine And.intro (a := noPtr _ = true) ?_ ?_; focus (simp [My.d, Ty.d]; done))
          | (refine And.intro (a := D.isPtr _ = false) ?_ ?_; focus (simp [My.d, Ty.d]; done))
          | refine Exists.intro _ (And.intro (Or.inl rfl) ?_)
          | refine Exists.intro _ (And.intro (Or.inr rfl) ?_)
          | (refine And.intro (a := isLst _ _ = true) ?_ ?_; focus (simp [My.d, Ty.d]; done))
          | (refine And.intro (a := isDct _ _ = true) ?_ ?_; focus (simp [My.d, Ty.d]; done))
          | (refine And.intro (a := List.length _ ≤ 15) ?_ ?_; focus (first | exact Nat.le_of_ble_eq_true rfl | (simp [My.d, Ty.d]; done)))
          | (refine And.intro (a := List.length _ ≤ lim) ?_ ?_; focus (first | exact Nat.le_of_ble_eq_true rfl | (simp [My.d, Ty.d]; done)))
          | refine W.turn ?_
          | (refine IfB.i (fun _ => ?_) (fun (e : _ = false) => False.elim ?_); rotate_left; focus (simp [My.d, Ty.d] at e; done))
          | (refine IfB.i (fun (e : _ = true) => False.elim ?_) (fun _ => ?_); focus (simp [My.d, Ty.d] at e; done))
          | refine And.intro (fun _ => ?_) (fun (z : true = false) => nomatch z)
          | refine And.intro (fun (z : false = true) => nomatch z) (fun _ => ?_)
          )
        exact ⟨rfl, by simp⟩
    | int =>
      cases b
      all_goals
        repeat (first
          | refine Go.go ?_
          | (refine Fin.data ?_ ?_; focus (simp [My.d, Ty.d]; done))
          | (refine fun r (hr : _ = r) => ?_; (try simp [My.d, Ty.d] at hr); subst hr; first | refine OQ.is ?_ | refine W.ret ?_ | skip)
          | refine Exists.intro _ (And.intro rfl ?_)
          | (refine And.intro (a := noPtr _ = true) ?_ ?_; focus (simp [My.d, Ty.d]; done))
          | (refine And.intro (a := D.isPtr _ = false) ?_ ?_; focus (simp [My.d, Ty.d]; done))
          | refine Exists.intro _ (And.intro (Or.inl rfl) ?_)
          | refine Exists.intro _ (And.intro (Or.inr rfl) ?_)
          | (refine And.intro (a := isLst _ _ = true) ?_ ?_; focus (simp [My.d, Ty.d]; done))
          | (refine And.intro (a := isDct _ _ = true) ?_ ?_; focus (simp [My.d, Ty.d]; done))
          | (refine And.intro (a := List.length _ ≤ 15) ?_ ?_; focus (first | exact Nat.le_of_ble_eq_true rfl | (simp [My.d, Ty.d]; done)))
          | (refine And.intro (a := List.length _ ≤ lim) ?_ ?_; focus (first | exact Nat.le_of_ble_eq_true rfl | (simp [My.d, Ty.d]; done)))
          | refine W.turn ?_
          | (refine IfB.i (fun _ => ?_) (fun (e : _ = false) => False.elim ?_); rotate_left; focus (simp [My.d, Ty.d] at e; done))
          | (refine IfB.i (fun (e : _ = true) => False.elim ?_) (fun _ => ?_); focus (simp [My.d, Ty.d] at e; done))
          | refine And.intro (fun _ => ?_) (fun (z : true = false) => nomatch z)
          | refine And.intro (fun (z : false = true) => nomatch z) (fun _ => ?_)
          )
        exact ⟨rfl, by simp⟩
    | bool =>
      cases b
      all_goals
        repeat (first
          | refine Go.go ?_
          | (refine Fin.data ?_ ?_; focus (simp [My.d, Ty.d]; done))
          | (refine fun r (hr : _ = r) => ?_; (try simp [My.d, Ty.d] at hr); subst hr; first | refine OQ.is ?_ | refine W.ret ?_ | skip)
          | refine Exists.intro _ (And.intro rfl ?_)
          | (refine And.intro (a := noPtr _ = true) ?_ ?_; focus (simp [My.d, Ty.d]; done))
          | (refine And.intro (a := D.isPtr _ = false) ?_ ?_; focus (simp [My.d, Ty.d]; done))
          | refine Exists.intro _ (And.intro (Or.inl rfl) ?_)
          | refine Exists.intro _ (And.intro (Or.inr rfl) ?_)
          | (refine And.intro (a := isLst _ _ = true) ?_ ?_; focus (simp [My.d, Ty.d]; done))
          | (refine And.intro (a := isDct _ _ = true) ?_ ?_; focus (simp [My.d, Ty.d]; done))
          | (refine And.intro (a := List.length _ ≤ 15) ?_ ?_; focus (first | exact Nat.le_of_ble_eq_true rfl | (simp [My.d, Ty.d]; done)))
          | (refine And.intro (a := List.length _ ≤ lim) ?_ ?_; focus (first | exact Nat.le_of_ble_eq_true rfl | (simp [My.d, Ty.d]; done)))
          | refine W.turn ?_
          | (refine IfB.i (fun _ => ?_) (fun (e : _ = false) => False.elim ?_); rotate_left; focus (simp [My.d, Ty.d] at e; done))
          | (refine IfB.i (fun (e : _ = true) => False.elim ?_) (fun _ => ?_); focus (simp [My.d, Ty.d] at e; done))
          | refine And.intro (fun _ => ?_) (fun (z : true = false) => nomatch z)
          | refine And.intro (fun (z : false = true) => nomatch z) (fun _ => ?_)
          )
        exact ⟨rfl, by simp⟩
    | fn a1 a2 =>
      simp only [My.dep] at h
      cases b with
      | fn b1 b2 =>
        repeat (first
          | refine Go.go ?_
          | refine W.eq (ih a1 b1 _ (by omega)) ?_
          | refine W.eq (ih a2 b2 _ (by omega)) ?_
          | (refine Fin.data ?_ ?_; focus (simp [My.d, Ty.d]; done))
          | (refine fun r (hr : _ = r) => ?_; (try simp [My.d, Ty.d] at hr); subst hr; first | refine OQ.is ?_ | refine W.ret ?_ | skip)
          | refine Exists.intro _ (And.intro rfl ?_)
          | (refine And.intro (a := noPtr _ = true) ?_ ?_; focus (simp [My.d, Ty.d]; done))
          | (refine And.intro (a := D.isPtr _ = false) ?_ ?_; focus (simp [My.d, Ty.d]; done))
          | refine Exists.intro _ (And.intro (Or.inl rfl) ?_)
          | refine Exists.intro _ (And.intro (Or.inr rfl) ?_)
          | (refine And.intro (a := isLst _ _ = true) ?_ ?_; focus (simp [My.d, Ty.d]; done))
          | (refine And.intro (a := isDct _ _ = true) ?_ ?_; focus (simp [My.d, Ty.d]; done))
          | (refine And.intro (a := List.length _ ≤ 15) ?_ ?_; focus (first | exact Nat.le_of_ble_eq_true rfl | (simp [My.d, Ty.d]; done)))
          | (refine And.intro (a := List.length _ ≤ lim) ?_ ?_; focus (first | exact Nat.le_of_ble_eq_true rfl | (simp [My.d, Ty.d]; done)))
          | refine W.turn ?_
          | (refine IfB.i (fun _ => ?_) (fun (e : _ = false) => False.elim ?_); rotate_left; focus (simp [My.d, Ty.d] at e; done))
          | (refine IfB.i (fun (e : _ = true) => False.elim ?_) (fun _ => ?_); focus (simp [My.d, Ty.d] at e; done))
          | refine And.intro (fun _ => ?_) (fun (z : true = false) => nomatch z)
          | refine And.intro (fun (z : false = true) => nomatch z) (fun _ => ?_)
          )
        exact ⟨by simp [Ty.my, tl], by simp⟩
      | _ =>
        repeat (first
          | refine Go.go ?_
          | (refine Fin.data ?_ ?_; focus (simp [My.d, Ty.d]; done))
          | (refine fun r (hr : _ = r) => ?_; (try simp [My.d, Ty.d] at hr); subst hr; first | refine OQ.is ?_ | refine W.ret ?_ | skip)
          | refine Exists.intro _ (And.intro rfl ?_)
          | (refine And.intro (a := noPtr _ = true) ?_ ?_; focus (simp [My.d, Ty.d]; done))
          | (refine And.intro (a := D.isPtr _ = false) ?_ ?_; focus (simp [My.d, Ty.d]; done))
          | refine Exists.intro _ (And.intro (Or.inl rfl) ?_)
          | refine Exists.intro _ (And.intro (Or.inr rfl) ?_)
          | (refine And.intro (a := isLst _ _ = true) ?_ ?_; focus (simp [My.d, Ty.d]; done))
          | (refine And.intro (a := isDct _ _ = true) ?_ ?_; focus (simp [My.d, Ty.d]; done))
          | (refine And.intro (a := List.length _ ≤ 15) ?_ ?_; focus (first | exact Nat.le_of_ble_eq_true rfl | (simp [My.d, Ty.d]; done)))
          | (refine And.intro (a := List.length _ ≤ lim) ?_ ?_; focus (first | exact Nat.le_of_ble_eq_true rfl | (simp [My.d, Ty.d]; done)))
          | refine W.turn ?_
          | (refine IfB.i (fun _ => ?_) (fun (e : _ = false) => False.elim ?_); rotate_left; focus (simp [My.d, Ty.d] at e; done))
          | (refine IfB.i (fun (e : _ = true) => False.elim ?_) (fun _ => ?_); focus (simp [My.d, Ty.d] at e; done))
          | refine And.intro (fun _ => ?_) (fun (z : true = false) => nomatch z)
          | refine And.intro (fun (z : false = true) => nomatch z) (fun _ => ?_)
          )
        exact ⟨rfl, by simp⟩
    | pair a1 a2 =>
      simp only [My.dep] at h
      cases b with
      | pair b1 b2 =>
        repeat (first
          | refine Go.go ?_
          | refine W.eq (ih a1 b1 _ (by omega)) ?_
          | refine W.eq (ih a2 b2 _ (by omega)) ?_
          | (refine Fin.data ?_ ?_; focus (simp [My.d, Ty.d]; done))
          | (refine fun r (hr : _ = r) => ?_; (try simp [My.d, Ty.d] at hr); subst hr; first | refine OQ.is ?_ | refine W.ret ?_ | skip)
          | refine Exists.intro _ (And.intro rfl ?_)
          | (refine And.intro (a := noPtr _ = true) ?_ ?_; focus (simp [My.d, Ty.d]; done))
          | (refine And.intro (a := D.isPtr _ = false) ?_ ?_; focus (simp [My.d, Ty.d]; done))
          | refine Exists.intro _ (And.intro (Or.inl rfl) ?_)
          | refine Exists.intro _ (And.intro (Or.inr rfl) ?_)
          | (refine And.intro (a := isLst _ _ = true) ?_ ?_; focus (simp [My.d, Ty.d]; done))
          | (refine And.intro (a := isDct _ _ = true) ?_ ?_; focus (simp [My.d, Ty.d]; done))
          | (refine And.intro (a := List.length _ ≤ 15) ?_ ?_; focus (first | exact Nat.le_of_ble_eq_true rfl | (simp [My.d, Ty.d]; done)))
          | (refine And.intro (a := List.length _ ≤ lim) ?_ ?_; focus (first | exact Nat.le_of_ble_eq_true rfl | (simp [My.d, Ty.d]; done)))
          | refine W.turn ?_
          | (refine IfB.i (fun _ => ?_) (fun (e : _ = false) => False.elim ?_); rotate_left; focus (simp [My.d, Ty.d] at e; done))
          | (refine IfB.i (fun (e : _ = true) => False.elim ?_) (fun _ => ?_); focus (simp [My.d, Ty.d] at e; done))
          | refine And.intro (fun _ => ?_) (fun (z : true = false) => nomatch z)
          | refine And.intro (fun (z : false = true) => nomatch z) (fun _ => ?_)
          )
        exact ⟨by simp [Ty.my, tl], by simp⟩
      | _ =>
        repeat (first
          | refine Go.go ?_
          | (refine Fin.data ?_ ?_; focus (simp [My.d, Ty.d]; done))
          | (refine fun r (hr : _ = r) => ?_; (try simp [My.d, Ty.d] at hr); subst hr; first | refine OQ.is ?_ | refine W.ret ?_ | skip)
          | refine Exists.intro _ (And.intro rfl ?_)
          | (refine And.intro (a := noPtr _ = true) ?_ ?_; focus (simp [My.d, Ty.d]; done))
          | (refine And.intro (a := D.isPtr _ = false) ?_ ?_; focus (simp [My.d, Ty.d]; done))
          | refine Exists.intro _ (And.intro (Or.inl rfl) ?_)
          | refine Exists.intro _ (And.intro (Or.inr rfl) ?_)
          | (refine And.intro (a := isLst _ _ = true) ?_ ?_; focus (simp [My.d, Ty.d]; done))
          | (refine And.intro (a := isDct _ _ = true) ?_ ?_; focus (simp [My.d, Ty.d]; done))
          | (refine And.intro (a := List.length _ ≤ 15) ?_ ?_; focus (first | exact Nat.le_of_ble_eq_true rfl | (simp [My.d, Ty.d]; done)))
          | (refine And.intro (a := List.length _ ≤ lim) ?_ ?_; focus (first | exact Nat.le_of_ble_eq_true rfl | (simp [My.d, Ty.d]; done)))
          | refine W.turn ?_
          | (refine IfB.i (fun _ => ?_) (fun (e : _ = false) => False.elim ?_); rotate_left; focus (simp [My.d, Ty.d] at e; done))
          | (refine IfB.i (fun (e : _ = true) => False.elim ?_) (fun _ => ?_); focus (simp [My.d, Ty.d] at e; done))
          | refine And.intro (fun _ => ?_) (fun (z : true = false) => nomatch z)
          | refine And.intro (fun (z : false = true) => nomatch z) (fun _ => ?_)
          )
        exact ⟨rfl, by simp⟩
    | list a1 =>
      simp only [My.dep] at h
      cases b with
      | list b1 =>
        repeat (first
          | refine Go.go ?_
          | refine W.eq (ih a1 b1 _ (by omega)) ?_
          | (refine Fin.data ?_ ?_; focus (simp [My.d, Ty.d]; done))
          | (refine fun r (hr : _ = r) => ?_; (try simp [My.d, Ty.d] at hr); subst hr; first | refine OQ.is ?_ | refine W.ret ?_ | skip)
          | refine Exists.intro _ (And.intro rfl ?_)
          | (refine And.intro (a := noPtr _ = true) ?_ ?_; focus (simp [My.d, Ty.d]; done))
          | (refine And.intro (a := D.isPtr _ = false) ?_ ?_; focus (simp [My.d, Ty.d]; done))
          | refine Exists.intro _ (And.intro (Or.inl rfl) ?_)
          | refine Exists.intro _ (And.intro (Or.inr rfl) ?_)
          | (refine And.intro (a := isLst _ _ = true) ?_ ?_; focus (simp [My.d, Ty.d]; done))
          | (refine And.intro (a := isDct _ _ = true) ?_ ?_; focus (simp [My.d, Ty.d]; done))
          | (refine And.intro (a := List.length _ ≤ 15) ?_ ?_; focus (first | exact Nat.le_of_ble_eq_true rfl | (simp [My.d, Ty.d]; done)))
          | (refine And.intro (a := List.length _ ≤ lim) ?_ ?_; focus (first | exact Nat.le_of_ble_eq_true rfl | (simp [My.d, Ty.d]; done)))
          | refine W.turn ?_
          | (refine IfB.i (fun _ => ?_) (fun (e : _ = false) => False.elim ?_); rotate_left; focus (simp [My.d, Ty.d] at e; done))
          | (refine IfB.i (fun (e : _ = true) => False.elim ?_) (fun _ => ?_); focus (simp [My.d, Ty.d] at e; done))
          | refine And.intro (fun _ => ?_) (fun (z : true = false) => nomatch z)
          | refine And.intro (fun (z : false = true) => nomatch z) (fun _ => ?_)
          )
        exact ⟨by simp [Ty.my, tl], by simp⟩
      | _ =>
        repeat (first
          | refine Go.go ?_
          | (refine Fin.data ?_ ?_; focus (simp [My.d, Ty.d]; done))
          | (refine fun r (hr : _ = r) => ?_; (try simp [My.d, Ty.d] at hr); subst hr; first | refine OQ.is ?_ | refine W.ret ?_ | skip)
          | refine Exists.intro _ (And.intro rfl ?_)
          | (refine And.intro (a := noPtr _ = true) ?_ ?_; focus (simp [My.d, Ty.d]; done))
          | (refine And.intro (a := D.isPtr _ = false) ?_ ?_; focus (simp [My.d, Ty.d]; done))
          | refine Exists.intro _ (And.intro (Or.inl rfl) ?_)
          | refine Exists.intro _ (And.intro (Or.inr rfl) ?_)
          | (refine And.intro (a := isLst _ _ = true) ?_ ?_; focus (simp [My.d, Ty.d]; done))
          | (refine And.intro (a := isDct _ _ = true) ?_ ?_; focus (simp [My.d, Ty.d]; done))
          | (refine And.intro (a := List.length _ ≤ 15) ?_ ?_; focus (first | exact Nat.le_of_ble_eq_true rfl | (simp [My.d, Ty.d]; done)))
          | (refine And.intro (a := List.length _ ≤ lim) ?_ ?_; focus (first | exact Nat.le_of_ble_eq_true rfl | (simp [My.d, Ty.d]; done)))
          | refine W.turn ?_
          | (refine IfB.i (fun _ => ?_) (fun (e : _ = false) => False.elim ?_); rotate_left; focus (simp [My.d, Ty.d] at e; done))
          | (refine IfB.i (fun (e : _ = true) => False.elim ?_) (fun _ => ?_); focus (simp [My.d, Ty.d] at e; done))
          | refine And.intro (fun _ => ?_) (fun (z : true = false) => nomatch z)
          | refine And.intro (fun (z : false = true) => nomatch z) (fun _ => ?_)
          )
        exact ⟨rfl, by simp⟩
/-! what goes through -/
mutual
def gv : Vt → My → Bool
  | _, .any => true
  | .int _, .int => true
  | .bool _, .bool => true
  | .pair a b, .pair c d => gv a c && gv b d
  | .items l, .list c => gvs l c
  | _, _ => false
def gvs : List Vt → My → Bool
  | [], _ => true
  | v :: l, c => gv v c && gvs l c
end
theorem gvs_all {c : My} : ∀ {l : List Vt}, gvs l c = true ↔ ∀ v ∈ l, gv v c = true
  | [] => by simp [gvs]
  | v :: l => by simp [gvs, gvs_all (l := l)]
theorem gvs_eq {c : My} : ∀ {l : List Vt}, gvs l c = (l.map fun v => gv v c).all id
  | [] => rfl
  | v :: l => by simp [gvs, gvs_eq (l := l)]
theorem allB_map' {α : Type} {f : α → Bool} : ∀ {l : List α}, allB (l.map fun v => .bl (f v)) = some (l.map f)
  | [] => rfl
  | v :: l => by simp only [List.map_cons, allB_cons, allB_map' (l := l), Option.map_some]
theorem run_goes : ∀ (k : Nat) (v : Vt) (m : My) (S : Store), m.dep < k → v.dep ≤ 1000 → callK prog k ix_goes [v.d, m.d] S = some (.bl (gv v m), S) := by
  intro k
  induction k with
  | zero => intro v m S h; omega
  | succ k ih =>
    intro v m S h h2
    refine W.get (call_goes ?_)
    unfold b_goes
    cases m with
    | any =>
      repeat (first
        | refine Go.go ?_
        | (refine Fin.data ?_ ?_; focus (simp [My.d]; done))
        | (refine fun r (hr : _ = r) => ?_; (try simp [My.d] at hr); subst hr; first | refine OQ.is ?_ | refine W.ret ?_ | skip)
        | refine Exists.intro _ (And.intro rfl ?_)
        | (refine And.intro (a := noPtr _ = true) ?_ ?_; focus (simp [My.d]; done))
        | (refine And.intro (a := D.isPtr _ = false) ?_ ?_; focus (simp [My.d]; done))
        | refine Exists.intro _ (And.intro (Or.inl rfl) ?_)
        | refine Exists.intro _ (And.intro (Or.inr rfl) ?_)
        | (refine And.intro (a := isLst _ _ = true) ?_ ?_; focus (simp [My.d]; done))
        | (refine And.intro (a := isDct _ _ = true) ?_ ?_; focus (simp [My.d]; done))
        | (refine And.intro (a := List.length _ ≤ 15) ?_ ?_; focus (first | exact Nat.le_of_ble_eq_true rfl | (simp [My.d]; done)))
        | (refine And.intro (a := List.length _ ≤ lim) ?_ ?_; focus (first | exact Nat.le_of_ble_eq_true rfl | (simp [My.d]; done)))
        | refine W.turn ?_
        | (refine IfB.i (fun _ => ?_) (fun (e : _ = false) => False.elim ?_); rotate_left; focus (simp [My.d] at e; done))
        | (refine IfB.i (fun (e : _ = true) => False.elim ?_) (fun _ => ?_); focus (simp [My.d] at e; done))
        | refine And.intro (fun _ => ?_) (fun (z : true = false) => nomatch z)
        | refine And.intro (fun (z : false = true) => nomatch z) (fun _ => ?_)
        )
      exact ⟨by cases v <;> simp [gv], by simp⟩
    | list c =>
      simp only [My.dep] at h
      cases v with
      | items l =>
        simp only [Vt.dep] at h2
        repeat (first
          | refine Go.go ?_
          | refine W.lcMapG (f := fun v : Vt => .bl (gv v c)) ?_ ?_
          | (refine Fin.data ?_ ?_; focus (simp [My.d, Vt.d, ds_map, pairK, keyD, isDct, getD2, mergeKD, putKD, getKD, allB_map', gvs_eq]; done))
          | (refine fun r (hr : _ = r) => ?_; (try simp [My.d, Vt.d, ds_map, pairK, keyD, isDct, getD2, mergeKD, putKD, getKD, allB_map', gvs_eq] at hr); subst hr; first | refine OQ.is ?_ | refine W.ret ?_ | skip)
          | refine Exists.intro _ (And.intro rfl ?_)
          | (refine And.intro (a := noPtr _ = true) ?_ ?_; focus (simp [My.d, Vt.d, ds_map, pairK, keyD, isDct, getD2, mergeKD, putKD, getKD, allB_map', gvs_eq]; done))
          | (refine And.intro (a := D.isPtr _ = false) ?_ ?_; focus (simp [My.d, Vt.d, ds_map, pairK, keyD, isDct, getD2, mergeKD, putKD, getKD, allB_map', gvs_eq]; done))
          | refine Exists.intro _ (And.intro (Or.inl rfl) ?_)
          | refine Exists.intro _ (And.intro (Or.inr rfl) ?_)
          | (refine And.intro (a := isLst _ _ = true) ?_ ?_; focus (simp [My.d, Vt.d, ds_map, pairK, keyD, isDct, getD2, mergeKD, putKD, getKD, allB_map', gvs_eq]; done))
          | (refine And.intro (a := isDct _ _ = true) ?_ ?_; focus (simp [My.d, Vt.d, ds_map, pairK, keyD, isDct, getD2, mergeKD, putKD, getKD, allB_map', gvs_eq]; done))
          | (refine And.intro (a := List.length _ ≤ 15) ?_ ?_; focus (first | exact Nat.le_of_ble_eq_true rfl | (simp [My.d, Vt.d, ds_map, pairK, keyD, isDct, getD2, mergeKD, putKD, getKD, allB_map', gvs_eq]; done)))
          | (refine And.intro (a := List.length _ ≤ lim) ?_ ?_; focus (first | exact Nat.le_of_ble_eq_true rfl | (simp [My.d, Vt.d, ds_map, pairK, keyD, isDct, getD2, mergeKD, putKD, getKD, allB_map', gvs_eq]; done)))
          | refine W.turn ?_
          | (refine IfB.i (fun _ => ?_) (fun (e : _ = false) => False.elim ?_); rotate_left; focus (simp [My.d, Vt.d, ds_map, pairK, keyD, isDct, getD2, mergeKD, putKD, getKD, allB_map', gvs_eq] at e; done))
          | (refine IfB.i (fun (e : _ = true) => False.elim ?_) (fun _ => ?_); focus (simp [My.d, Vt.d, ds_map, pairK, keyD, isDct, getD2, mergeKD, putKD, getKD, allB_map', gvs_eq] at e; done))
          | refine And.intro (fun _ => ?_) (fun (z : true = false) => nomatch z)
          | refine And.intro (fun (z : false = true) => nomatch z) (fun _ => ?_)
          )
        · intro x hx
          have := deps_mem hx
          repeat (first
            | refine Go.go ?_
            | refine W.eq (ih x c _ (by omega) (by omega)) ?_
            | (refine Fin.data ?_ ?_; focus (simp []; done))
            | (refine fun r (hr : _ = r) => ?_; (try simp [] at hr); subst hr; first | refine OQ.is ?_ | refine W.ret ?_ | skip)
            | refine Exists.intro _ (And.intro rfl ?_)
            | (refine And.intro (a := noPtr _ = true) ?_ ?_; focus (simp []; done))
            | (refine And.intro (a := D.isPtr _ = false) ?_ ?_; focus (simp []; done))
            | refine Exists.intro _ (And.intro (Or.inl rfl) ?_)
            | refine Exists.intro _ (And.intro (Or.inr rfl) ?_)
            | (refine And.intro (a := isLst _ _ = true) ?_ ?_; focus (simp []; done))
            | (refine And.intro (a := isDct _ _ = true) ?_ ?_; focus (simp []; done))
            | (refine And.intro (a := List.length _ ≤ 15) ?_ ?_; focus (first | exact Nat.le_of_ble_eq_true rfl | (simp []; done)))
            | (refine And.intro (a := List.length _ ≤ lim) ?_ ?_; focus (first | exact Nat.le_of_ble_eq_true rfl | (simp []; done)))
            | refine W.turn ?_
            | (refine IfB.i (fun _ => ?_) (fun (e : _ = false) => False.elim ?_); rotate_left; focus (simp [] at e; done))
            | (refine IfB.i (fun (e : _ = true) => False.elim ?_) (fun _ => ?_); focus (simp [] at e; done))
            | refine And.intro (fun _ => ?_) (fun (z : true = false) => nomatch z)
            | refine And.intro (fun (z : false = true) => nomatch z) (fun _ => ?_)
            )
          all_goals exact ⟨rfl, rfl⟩
        · refine And.intro (by rw [List.length_map]; exact Nat.le_trans (show l.length ≤ 1000 by omega) (by decide)) ?_
          repeat (first
            | refine Go.go ?_
            | (refine Fin.data ?_ ?_; focus (simp [allB_map']; done))
            | (refine fun r (hr : _ = r) => ?_; (try simp [allB_map'] at hr); subst hr; first | refine OQ.is ?_ | refine W.ret ?_ | skip)
            | refine Exists.intro _ (And.intro rfl ?_)
            | (refine And.intro (a := noPtr _ = true) ?_ ?_; focus (simp [allB_map']; done))
            | (refine And.intro (a := D.isPtr _ = false) ?_ ?_; focus (simp [allB_map']; done))
            | refine Exists.intro _ (And.intro (Or.inl rfl) ?_)
            | refine Exists.intro _ (And.intro (Or.inr rfl) ?_)
            | (refine And.intro (a := isLst _ _ = true) ?_ ?_; focus (simp [allB_map']; done))
            | (refine And.intro (a := isDct _ _ = true) ?_ ?_; focus (simp [allB_map']; done))
            | (refine And.intro (a := List.length _ ≤ 15) ?_ ?_; focus (first | exact Nat.le_of_ble_eq_true rfl | (simp [allB_map']; done)))
            | (refine And.intro (a := List.length _ ≤ lim) ?_ ?_; focus (first | exact Nat.le_of_ble_eq_true rfl | (simp [allB_map']; done)))
            | refine W.turn ?_
            | (refine IfB.i (fun _ => ?_) (fun (e : _ = false) => False.elim ?_); rotate_left; focus (simp [allB_map'] at e; done))
            | (refine IfB.i (fun (e : _ = true) => False.elim ?_) (fun _ => ?_); focus (simp [allB_map'] at e; done))
            | refine And.intro (fun _ => ?_) (fun (z : true = false) => nomatch z)
            | refine And.intro (fun (z : false = true) => nomatch z) (fun _ => ?_)
            )
          exact ⟨by simp [gv, gvs_eq], by simp⟩
      | _ =>
        repeat (first
          | refine Go.go ?_
          | (refine Fin.data ?_ ?_; focus (simp [My.d, Vt.d, pairK, keyD, isDct, getD2, mergeKD, putKD, getKD]; done))
          | (refine fun r (hr : _ = r) => ?_; (try simp [My.d, Vt.d, pairK, keyD, isDct, getD2, mergeKD, putKD, getKD] at hr); subst hr; first | refine OQ.is ?_ | refine W.ret ?_ | skip)
          | refine Exists.intro _ (And.intro rfl ?_)
          | (refine And.intro (a := noPtr _ = true) ?_ ?_; focus (simp [My.d, Vt.d, pairK, keyD, isDct, getD2, mergeKD, putKD, getKD]; done))
          | (refine And.intro (a := D.isPtr _ = false) ?_ ?_; focus (simp [My.d, Vt.d, pairK, keyD, isDct, getD2, mergeKD, putKD, getKD]; done))
          | refine Exists.intro _ (And.intro (Or.inl rfl) ?_)
          | refine Exists.intro _ (And.intro (Or.inr rfl) ?_)
          | (refine And.intro (a := isLst _ _ = true) ?_ ?_; focus (simp [My.d, Vt.d, pairK, keyD, isDct, getD2, mergeKD, putKD, getKD]; done))
          | (refine And.intro (a := isDct _ _ = true) ?_ ?_; focus (simp [My.d, Vt.d, pairK, keyD, isDct, getD2, mergeKD, putKD, getKD]; done))
          | (refine And.intro (a := List.length _ ≤ 15) ?_ ?_; focus (first | exact Nat.le_of_ble_eq_true rfl | (simp [My.d, Vt.d, pairK, keyD, isDct, getD2, mergeKD, putKD, getKD]; done)))
          | (refine And.intro (a := List.length _ ≤ lim) ?_ ?_; focus (first | exact Nat.le_of_ble_eq_true rfl | (simp [My.d, Vt.d, pairK, keyD, isDct, getD2, mergeKD, putKD, getKD]; done)))
          | refine W.turn ?_
          | (refine IfB.i (fun _ => ?_) (fun (e : _ = false) => False.elim ?_); rotate_left; focus (simp [My.d, Vt.d, pairK, keyD, isDct, getD2, mergeKD, putKD, getKD] at e; done))
          | (refine IfB.i (fun (e : _ = true) => False.elim ?_) (fun _ => ?_); focus (simp [My.d, Vt.d, pairK, keyD, isDct, getD2, mergeKD, putKD, getKD] at e; done))
          | refine And.intro (fun _ => ?_) (fun (z : true = false) => nomatch z)
          | refine And.intro (fun (z : false = true) => nomatch z) (fun _ => ?_)
          )
        exact ⟨by simp [gv], by simp⟩
    | pair c1 c2 =>
      simp only [My.dep] at h
      cases v with
      | pair a b =>
        simp only [Vt.dep] at h2
        cases e1 : gv a c1
        · repeat (first
            | refine Go.go ?_
            | refine W.eq (ih a c1 _ (by omega) (by omega)) ?_
            | refine W.eq (ih b c2 _ (by omega) (by omega)) ?_
            | (refine Fin.data ?_ ?_; focus (simp [My.d, Vt.d, pairK, keyD, isDct, getD2, mergeKD, putKD, getKD, e1]; done))
            | (refine fun r (hr : _ = r) => ?_; (try simp [My.d, Vt.d, pairK, keyD, isDct, getD2, mergeKD, putKD, getKD, e1] at hr); subst hr; first | refine OQ.is ?_ | refine W.ret ?_ | skip)
            | refine Exists.intro _ (And.intro rfl ?_)
            | (refine And.intro (a := noPtr _ = true) ?_ ?_; focus (simp [My.d, Vt.d, pairK, keyD, isDct, getD2, mergeKD, putKD, getKD, e1]; done))
            | (refine And.intro (a := D.isPtr _ = false) ?_ ?_; focus (simp [My.d, Vt.d, pairK, keyD, isDct, getD2, mergeKD, putKD, getKD, e1]; done))
            | refine Exists.intro _ (And.intro (Or.inl rfl) ?_)
            | refine Exists.intro _ (And.intro (Or.inr rfl) ?_)
            | (refine And.intro (a := isLst _ _ = true) ?_ ?_; focus (simp [My.d, Vt.d, pairK, keyD, isDct, getD2, mergeKD, putKD, getKD, e1]; done))
            | (refine And.intro (a := isDct _ _ = true) ?_ ?_; focus (simp [My.d, Vt.d, pairK, keyD, isDct, getD2, mergeKD, putKD, getKD, e1]; done))
            | (refine And.intro (a := List.length _ ≤ 15) ?_ ?_; focus (first | exact Nat.le_of_ble_eq_true rfl | (simp [My.d, Vt.d, pairK, keyD, isDct, getD2, mergeKD, putKD, getKD, e1]; done)))
            | (refine And.intro (a := List.length _ ≤ lim) ?_ ?_; focus (first | exact Nat.le_of_ble_eq_true rfl | (simp [My.d, Vt.d, pairK, keyD, isDct, getD2, mergeKD, putKD, getKD, e1]; done)))
            | refine W.turn ?_
            | (refine IfB.i (fun _ => ?_) (fun (e : _ = false) => False.elim ?_); rotate_left; focus (simp [My.d, Vt.d, pairK, keyD, isDct, getD2, mergeKD, putKD, getKD, e1] at e; done))
            | (refine IfB.i (fun (e : _ = true) => False.elim ?_) (fun _ => ?_); focus (simp [My.d, Vt.d, pairK, keyD, isDct, getD2, mergeKD, putKD, getKD, e1] at e; done))
            | refine And.intro (fun _ => ?_) (fun (z : true = false) => nomatch z)
            | refine And.intro (fun (z : false = true) => nomatch z) (fun _ => ?_)
            )
          exact ⟨by simp [gv, e1], by simp⟩
        · repeat (first
            | refine Go.go ?_
            | refine W.eq (ih a c1 _ (by omega) (by omega)) ?_
            | refine W.eq (ih b c2 _ (by omega) (by omega)) ?_
            | (refine Fin.data ?_ ?_; focus (simp [My.d, Vt.d, pairK, keyD, isDct, getD2, mergeKD, putKD, getKD, e1]; done))
            | (refine fun r (hr : _ = r) => ?_; (try simp [My.d, Vt.d, pairK, keyD, isDct, getD2, mergeKD, putKD, getKD, e1] at hr); subst hr; first | refine OQ.is ?_ | refine W.ret ?_ | skip)
            | refine Exists.intro _ (And.intro rfl ?_)
            | (refine And.intro (a := noPtr _ = true) ?_ ?_; focus (simp [My.d, Vt.d, pairK, keyD, isDct, getD2, mergeKD, putKD, getKD, e1]; done))
            | (refine And.intro (a := D.isPtr _ = false) ?_ ?_; focus (simp [My.d, Vt.d, pairK, keyD, isDct, getD2, mergeKD, putKD, getKD, e1]; done))
            | refine Exists.intro _ (And.intro (Or.inl rfl) ?_)
            | refine Exists.intro _ (And.intro (Or.inr rfl) ?_)
            | (refine And.intro (a := isLst _ _ = true) ?_ ?_; focus (simp [My.d, Vt.d, pairK, keyD, isDct, getD2, mergeKD, putKD, getKD, e1]; done))
            | (refine And.intro (a := isDct _ _ = true) ?_ ?_; focus (simp [My.d, Vt.d, pairK, keyD, isDct, getD2, mergeKD, putKD, getKD, e1]; done))
            | (refine And.intro (a := List.length _ ≤ 15) ?_ ?_; focus (first | exact Nat.le_of_ble_eq_true rfl | (simp [My.d, Vt.d, pairK, keyD, isDct, getD2, mergeKD, putKD, getKD, e1]; done)))
            | (refine And.intro (a := List.length _ ≤ lim) ?_ ?_; focus (first | exact Nat.le_of_ble_eq_true rfl | (simp [My.d, Vt.d, pairK, keyD, isDct, getD2, mergeKD, putKD, getKD, e1]; done)))
            | refine W.turn ?_
            | (refine IfB.i (fun _ => ?_) (fun (e : _ = false) => False.elim ?_); rotate_left; focus (simp [My.d, Vt.d, pairK, keyD, isDct, getD2, mergeKD, putKD, getKD, e1] at e; done))
            | (refine IfB.i (fun (e : _ = true) => False.elim ?_) (fun _ => ?_); focus (simp [My.d, Vt.d, pairK, keyD, isDct, getD2, mergeKD, putKD, getKD, e1] at e; done))
            | refine And.intro (fun _ => ?_) (fun (z : true = false) => nomatch z)
            | refine And.intro (fun (z : false = true) => nomatch z) (fun _ => ?_)
            )
          exact ⟨by simp [gv, e1], by simp⟩
      | _ =>
        repeat (first
          | refine Go.go ?_
          | (refine Fin.data ?_ ?_; focus (simp [My.d, Vt.d, pairK, keyD, isDct, getD2, mergeKD, putKD, getKD]; done))
          | (refine fun r (hr : _ = r) => ?_; (try simp [My.d, Vt.d, pairK, keyD, isDct, getD2, mergeKD, putKD, getKD] at hr); subst hr; first | refine OQ.is ?_ | refine W.ret ?_ | skip)
          | refine Exists.intro _ (And.intro rfl ?_)
          | (refine And.intro (a := noPtr _ = true) ?_ ?_; focus (simp [My.d, Vt.d, pairK, keyD, isDct, getD2, mergeKD, putKD, getKD]; done))
          | (refine And.intro (a := D.isPtr _ = false) ?_ ?_; focus (simp [My.d, Vt.d, pairK, keyD, isDct, getD2, mergeKD, putKD, getKD]; done))
          | refine Exists.intro _ (And.intro (Or.inl rfl) ?_)
          | refine Exists.intro _ (And.intro (Or.inr rfl) ?_)
          | (refine And.intro (a := isLst _ _ = true) ?_ ?_; focus (simp [My.d, Vt.d, pairK, keyD, isDct, getD2, mergeKD, putKD, getKD]; done))
          | (refine And.intro (a := isDct _ _ = true) ?_ ?_; focus (simp [My.d, Vt.d, pairK, keyD, isDct, getD2, mergeKD, putKD, getKD]; done))
          | (refine And.intro (a := List.length _ ≤ 15) ?_ ?_; focus (first | exact Nat.le_of_ble_eq_true rfl | (simp [My.d, Vt.d, pairK, keyD, isDct, getD2, mergeKD, putKD, getKD]; done)))
          | (refine And.intro (a := List.length _ ≤ lim) ?_ ?_; focus (first | exact Nat.le_of_ble_eq_true rfl | (simp [My.d, Vt.d, pairK, keyD, isDct, getD2, mergeKD, putKD, getKD]; done)))
          | refine W.turn ?_
          | (refine IfB.i (fun _ => ?_) (fun (e : _ = false) => False.elim ?_); rotate_left; focus (simp [My.d, Vt.d, pairK, keyD, isDct, getD2, mergeKD, putKD, getKD] at e; done))
          | (refine IfB.i (fun (e : _ = true) => False.elim ?_) (fun _ => ?_); focus (simp [My.d, Vt.d, pairK, keyD, isDct, getD2, mergeKD, putKD, getKD] at e; done))
          | refine And.intro (fun _ => ?_) (fun (z : true = false) => nomatch z)
          | refine And.intro (fun (z : false = true) => nomatch z) (fun _ => ?_)
          )
        exact ⟨by simp [gv], by simp⟩
    | _ =>
      cases v
      all_goals
        repeat (first
          | refine Go.go ?_
          | (refine Fin.data ?_ ?_; focus (simp [My.d, Vt.d, pairK, keyD, isDct, getD2, mergeKD, putKD, getKD]; done))
          | (refine fun r (hr : _ = r) => ?_; (try simp [My.d, Vt.d, pairK, keyD, isDct, getD2, mergeKD, putKD, getKD] at hr); subst hr; first | refine OQ.is ?_ | refine W.ret ?_ | skip)
          | refine Exists.intro _ (And.intro rfl ?_)
          | (refine And.intro (a := noPtr _ = true) ?_ ?_; focus (simp [My.d, Vt.d, pairK, keyD, isDct, getD2, mergeKD, putKD, getKD]; done))
          | (refine And.intro (a := D.isPtr _ = false) ?_ ?_; focus (simp [My.d, Vt.d, pairK, keyD, isDct, getD2, mergeKD, putKD, getKD]; done))
          | refine Exists.intro _ (And.intro (Or.inl rfl) ?_)
          | refine Exists.intro _ (And.intro (Or.inr rfl) ?_)
          | (refine And.intro (a := isLst _ _ = true) ?_ ?_; focus (simp [My.d, Vt.d, pairK, keyD, isDct, getD2, mergeKD, putKD, getKD]; done))
          | (refine And.intro (a := isDct _ _ = true) ?_ ?_; focus (simp [My.d, Vt.d, pairK, keyD, isDct, getD2, mergeKD, putKD, getKD]; done))
          | (refine And.intro (a := List.length _ ≤ 15) ?_ ?_; focus (first | exact Nat.le_of_ble_eq_true rfl | (simp [My.d, Vt.d, pairK, keyD, isDct, getD2, mergeKD, putKD, getKD]; done)))
          | (refine And.intro (a := List.length _ ≤ lim) ?_ ?_; focus (first | exact Nat.le_of_ble_eq_true rfl | (simp [My.d, Vt.d, pairK, keyD, isDct, getD2, mergeKD, putKD, getKD]; done)))
          | refine W.turn ?_
          | (refine IfB.i (fun _ => ?_) (fun (e : _ = false) => False.elim ?_); rotate_left; focus (simp [My.d, Vt.d, pairK, keyD, isDct, getD2, mergeKD, putKD, getKD] at e; done))
          | (refine IfB.i (fun (e : _ = true) => False.elim ?_) (fun _ => ?_); focus (simp [My.d, Vt.d, pairK, keyD, isDct, getD2, mergeKD, putKD, getKD] at e; done))
          | refine And.intro (fun _ => ?_) (fun (z : true = false) => nomatch z)
          | refine And.intro (fun (z : false = true) => nomatch z) (fun _ => ?_)
          )
        exact ⟨by simp [gv], by simp⟩
end PC

set_option Elab.async false
set_option linter.all false
set_option maxRecDepth 100000
set_option maxHeartbeats 4000000
namespace PC
open PySem PyProof.Rows L2
/-! the plain law -/
theorem pr_comm' (a b c d : My) (h1 : a = c) (h2 : b = d) : pr a b = pr c d := by rw [h1, h2]
theorem mm_comm : ∀ a b : My, a.mm b = b.mm a := by
  intro a
  induction a with
  | any => intro b; rw [mm_any]; cases b <;> rfl
  | never => intro b; rw [mm_never, never_mm]
  | int => intro b; cases b <;> rfl
  | bool => intro b; cases b <;> rfl
  | fn x y ihx ihy => intro b; cases b <;> simp [My.mm]; exact ⟨ihx _, ihy _⟩
  | pair x y ihx ihy => intro b; cases b <;> simp [My.mm]; rw [ihx, ihy]
  | list x ihx => intro b; cases b <;> simp [My.mm]; exact ihx _
theorem pr_mm (x y e f : My) : (pr x y).mm (.pair e f) = pr (x.mm e) (y.mm f) := by
  unfold pr
  cases h1 : x.isN
  · cases h2 : y.isN
    · simp [My.mm, pr]
    · have := isN_eq h2; subst this
      simp [My.mm, never_mm, My.isN]
  · have := isN_eq h1; subst this
    simp [My.mm, never_mm, My.isN]
theorem mm_pr (x y e f : My) : (My.pair e f).mm (pr x y) = pr (e.mm x) (f.mm y) := by
  rw [mm_comm, pr_mm, mm_comm x e, mm_comm y f]
theorem pr_any (x y : My) : (pr x y).mm .any = pr x y := mm_any _
theorem pr_cases (x y : My) : pr x y = .never ∨ pr x y = .pair x y := by
  unfold pr
  cases x.isN || y.isN
  · exact .inr rfl
  · exact .inl rfl
theorem mm_assoc : ∀ a b c : My, (a.mm b).mm c = a.mm (b.mm c) := by
  intro a
  induction a with
  | any => intro b c; rfl
  | never => intro b c; rw [never_mm, never_mm, never_mm]
  | int => intro b c; cases b <;> cases c <;> simp [My.mm] <;> (rename_i a b c d; rcases pr_cases (a.mm c) (b.mm d) with e | e <;> rw [e] <;> rfl)
  | bool => intro b c; cases b <;> cases c <;> simp [My.mm] <;> (rename_i a b c d; rcases pr_cases (a.mm c) (b.mm d) with e | e <;> rw [e] <;> rfl)
  | fn x y ihx ihy => intro b c; cases b <;> cases c <;> simp [My.mm, ihx, ihy] <;> (rename_i a b c d; rcases pr_cases (a.mm c) (b.mm d) with e | e <;> rw [e] <;> rfl)
  | list x ihx => intro b c; cases b <;> cases c <;> simp [My.mm, ihx] <;> (rename_i a b c d; rcases pr_cases (a.mm c) (b.mm d) with e | e <;> rw [e] <;> rfl)
  | pair x y ihx ihy =>
    intro b c
    cases b with
    | pair p q =>
      cases c with
      | pair e f =>
        show (pr (x.mm p) (y.mm q)).mm (.pair e f) = (My.pair x y).mm (pr (p.mm e) (q.mm f))
        rw [pr_mm, mm_pr, ihx, ihy]
      | any => rw [mm_any, mm_any]
      | _ => simp only [My.mm]; rcases pr_cases (x.mm p) (y.mm q) with e | e <;> rw [e] <;> rfl
    | any => rw [mm_any]; rfl
    | _ => cases c <;> simp [My.mm] <;> (rename_i a b c d; rcases pr_cases (a.mm c) (b.mm d) with e | e <;> rw [e] <;> rfl)
theorem my_isN (t : Ty) : t.my.isN = false := by cases t <;> rfl
theorem mm_self (t : Ty) : t.my.mm t.my = t.my := by
  induction t <;> simp_all [Ty.my, My.mm, pr, my_isN]
theorem mm_dep : ∀ a b : My, (a.mm b).dep ≤ max a.dep b.dep := by
  intro a
  induction a with
  | any => intro b; simp only [My.mm]; omega
  | never => intro b; rw [never_mm]; simp [My.dep]
  | int => intro b; cases b <;> simp [My.mm, My.dep]
  | bool => intro b; cases b <;> simp [My.mm, My.dep]
  | fn x y ihx ihy =>
    intro b
    cases b <;> simp only [My.mm, My.dep] <;> try omega
    rename_i c d; have := ihx c; have := ihy d; omega
  | pair x y ihx ihy =>
    intro b
    cases b <;> simp only [My.mm, My.dep] <;> try omega
    rename_i c d; have := ihx c; have := ihy d
    rcases pr_cases (x.mm c) (y.mm d) with e | e <;> rw [e] <;> simp only [My.dep] <;> omega
  | list x ihx =>
    intro b
    cases b <;> simp only [My.mm, My.dep] <;> try omega
    rename_i c; have := ihx c; omega
theorem tl_self : ∀ a : My, tl a a = true := by
  intro a
  induction a <;> simp_all [tl]
theorem tl_mm : ∀ (a : Ty) (b : My), tl (a.my.mm b) a.my = true := by
  intro a
  induction a with
  | any => intro b; cases b <;> rfl
  | int => intro b; cases b <;> rfl
  | bool => intro b; cases b <;> rfl
  | fn x y ihx ihy => intro b; cases b <;> simp [Ty.my, My.mm, tl, tl_self, ihx, ihy]
  | list x ihx => intro b; cases b <;> simp [Ty.my, My.mm, tl, tl_self, ihx]
  | pair x y ihx ihy =>
    intro b
    cases b <;> simp [Ty.my, My.mm, tl, tl_self]
    rename_i c d
    rcases pr_cases (x.my.mm c) (y.my.mm d) with e | e <;> rw [e] <;> simp [tl, ihx, ihy]
theorem gv_mm : ∀ (a b : My) (v : Vt), gv v (a.mm b) = true → gv v a = true := by
  intro a
  induction a with
  | any => intro b v _; simp [gv]
  | never => intro b v h; rw [never_mm] at h; exact h
  | int => intro b v h; cases b <;> simp_all [My.mm, gv]
  | bool => intro b v h; cases b <;> simp_all [My.mm, gv]
  | fn x y _ _ => intro b v h; cases b <;> simp_all [My.mm, gv]
  | list x ihx =>
    intro b v h
    cases b <;> simp_all [My.mm, gv]
    rename_i c
    cases v <;> simp_all [gv, gvs_all]
    exact fun w hw => ihx c w (h w hw)
  | pair x y ihx ihy =>
    intro b v h
    cases b <;> simp_all [My.mm, gv]
    rename_i c d
    rcases pr_cases (x.mm c) (y.mm d) with e | e
    · rw [e] at h; simp [gv] at h
    · rw [e] at h
      cases v <;> simp_all [gv]
      exact ⟨ihx c _ h.1, ihy d _ h.2⟩
theorem has_gv : ∀ (t : Ty) (v : Vt), v.has t = true → gv v t.my = true := by
  intro t
  induction t with
  | any => intro v _; simp [Ty.my, gv]
  | int => intro v h; cases v <;> simp_all [Vt.has, Ty.my, gv]
  | bool => intro v h; cases v <;> simp_all [Vt.has, Ty.my, gv]
  | fn _ _ _ _ => intro v h; cases v <;> simp_all [Vt.has]
  | pair x y ihx ihy =>
    intro v h
    cases v <;> simp_all [Vt.has, Ty.my, gv]
  | list x ihx =>
    intro v h
    cases v <;> simp_all [Vt.has, Ty.my, gv, gvs_all, hass_all]
theorem my_gd : ∀ (m : My) (n : Nat), m.dep + 1 ≤ n → Gd n m.d := by
  intro m
  induction m with
  | fn a b iha ihb =>
    intro n h
    simp only [My.dep] at h
    obtain ⟨n, rfl⟩ : ∃ j, n = j + 1 := ⟨n - 1, by omega⟩
    refine .tup (by simp) fun x hx => ?_
    simp only [List.mem_cons, List.not_mem_nil, or_false] at hx
    rcases hx with rfl | rfl | rfl
    · exact .str
    · exact iha n (by omega)
    · exact ihb n (by omega)
  | pair a b iha ihb =>
    intro n h
    simp only [My.dep] at h
    obtain ⟨n, rfl⟩ : ∃ j, n = j + 1 := ⟨n - 1, by omega⟩
    refine .tup (by simp) fun x hx => ?_
    simp only [List.mem_cons, List.not_mem_nil, or_false] at hx
    rcases hx with rfl | rfl | rfl
    · exact .str
    · exact iha n (by omega)
    · exact ihb n (by omega)
  | list a iha =>
    intro n h
    simp only [My.dep] at h
    obtain ⟨n, rfl⟩ : ∃ j, n = j + 1 := ⟨n - 1, by omega⟩
    refine .tup (by simp) fun x hx => ?_
    simp only [List.mem_cons, List.not_mem_nil, or_false] at hx
    rcases hx with rfl | rfl
    · exact .str
    · exact iha n (by omega)
  | _ =>
    intro n h
    obtain ⟨n, rfl⟩ : ∃ j, n = j + 1 := ⟨n - 1, by omega⟩
    refine .tup (by simp) fun x hx => ?_
    rw [List.mem_singleton.mp hx]
    exact .str
theorem tri_gd {a b c : My} {n : Nat} (ha : a.dep + 1 ≤ n) (hb : b.dep + 1 ≤ n) (hc : c.dep + 1 ≤ n) : Gd (n + 1) (.tup [a.d, b.d, c.d]) := by
  refine .tup (by simp) fun x hx => ?_
  simp only [List.mem_cons, List.not_mem_nil, or_false] at hx
  rcases hx with rfl | rfl | rfl
  · exact my_gd a n ha
  · exact my_gd b n hb
  · exact my_gd c n hc
theorem run_draws {k : Nat} {ns : List Int} : callK prog (k + 1) ix__law_draws [.lst (ns.map D.int)] [] = some (.ptr 0, [drS ns 0 0 1]) := by
  refine W.get (call__law_draws ?_)
  unfold b__law_draws
  repeat (first
    | refine Go.go ?_
    | (refine Fin.data ?_ ?_; focus (simp [fin]; done))
    | (refine fun r (hr : _ = r) => ?_; (try simp [fin] at hr); subst hr; first | refine OQ.is ?_ | refine W.ret ?_ | skip)
    | refine Exists.intro _ (And.intro rfl ?_)
    | (refine And.intro (a := noPtr _ = true) ?_ ?_; focus (simp [fin]; done))
    | (refine And.intro (a := D.isPtr _ = false) ?_ ?_; focus (simp [fin]; done))
    | refine Exists.intro _ (And.intro (Or.inl rfl) ?_)
    | refine Exists.intro _ (And.intro (Or.inr rfl) ?_)
    | (refine And.intro (a := isLst _ _ = true) ?_ ?_; focus (simp [fin]; done))
    | (refine And.intro (a := isDct _ _ = true) ?_ ?_; focus (simp [fin]; done))
    | (refine And.intro (a := List.length _ ≤ 15) ?_ ?_; focus (first | exact Nat.le_of_ble_eq_true rfl | (simp [fin]; done)))
    | (refine And.intro (a := List.length _ ≤ lim) ?_ ?_; focus (first | exact Nat.le_of_ble_eq_true rfl | (simp [fin]; done)))
    | refine W.turn ?_
    | (refine IfB.i (fun _ => ?_) (fun (e : _ = false) => False.elim ?_); rotate_left; focus (simp [fin] at e; done))
    | (refine IfB.i (fun (e : _ = true) => False.elim ?_) (fun _ => ?_); focus (simp [fin] at e; done))
    | refine And.intro (fun _ => ?_) (fun (z : true = false) => nomatch z)
    | refine And.intro (fun (z : false = true) => nomatch z) (fun _ => ?_)
    )
  exact ⟨rfl, rfl⟩
end PC

set_option Elab.async false
set_option linter.all false
set_option maxRecDepth 100000
set_option maxHeartbeats 40000000
namespace PC
open PySem PyProof.Rows L2
theorem al_self (t : Ty) : t.al t = true := by
  induction t <;> simp_all [Ty.al]
theorem mm_left (t : Ty) (x : My) : t.my.mm (t.my.mm x) = t.my.mm x := by rw [← mm_assoc, mm_self]
theorem same_my {m n : My} {k : Nat} {S : Store} (h : m = n) (hd : m.dep ≤ 10) (hk : 12 ≤ k) : callK prog k ix__law_same [m.d, n.d] S = some (.bl true, S) := by
  subst h; exact run_same 11 k _ S (my_gd m 11 (by omega)) (by omega)
theorem same_tr {a b : Ty} {m n : My} {k : Nat} {S : Store} (h : m = n) (ha : a.dep ≤ 10) (hb : b.dep ≤ 10) (hd : m.dep ≤ 10) (hk : 13 ≤ k) : callK prog k ix__law_same [.tup [a.d, m.d, b.d], .tup [a.d, n.d, b.d]] S = some (.bl true, S) := by
  subst h
  have h1 := a.my_dep
  have h2 := b.my_dep
  rw [a.my_d, b.my_d]
  exact run_same 12 k _ S (tri_gd (n := 11) (by omega) (by omega) (by omega)) (by omega)
theorem mm_tt {a b : Ty} {k : Nat} {S : Store} (h : a.dep < k) : callK prog k ix_middle_meet [a.d, b.d] S = some ((a.my.mm b.my).d, S) := by
  rw [a.my_d, b.my_d]; exact run_mm k _ _ S (by rw [a.my_dep]; exact h)
theorem mm_mt {a : My} {b : Ty} {k : Nat} {S : Store} (h : a.dep < k) : callK prog k ix_middle_meet [a.d, b.d] S = some ((a.mm b.my).d, S) := by
  rw [b.my_d]; exact run_mm k _ _ S h
theorem mm_tm {a : Ty} {b : My} {k : Nat} {S : Store} (h : a.dep < k) : callK prog k ix_middle_meet [a.d, b.d] S = some ((a.my.mm b).d, S) := by
  rw [a.my_d]; exact run_mm k _ _ S (by rw [a.my_dep]; exact h)
theorem mm_ma {a : My} {k : Nat} {S : Store} (h : a.dep < k) : callK prog k ix_middle_meet [a.d, .tup [.str "any"]] S = some (a.d, S) := by
  have e := run_mm k a .any S h
  rw [mm_any] at e; exact e
theorem mm_mn {a : My} {k : Nat} {S : Store} (h : a.dep < k) : callK prog k ix_middle_meet [a.d, .tup [.str "never"]] S = some (.tup [.str "never"], S) := by
  have e := run_mm k a .never S h
  rw [mm_never] at e; exact e
@[simp] theorem rng_4 : rngD [.int 4] = some [.int 0, .int 1, .int 2, .int 3] := rfl
@[simp] theorem atI_4 {α : Type} {x y z w u : α} {xs : List α} : L2.atI (x :: y :: z :: w :: u :: xs) 4 = some u := by
  simp [L2.atI, L2.ixN]
  rw [if_pos (by omega)]; rfl
@[simp] theorem cut_a {a b c d e : D} : cutD [a, b, c, d, e] none (some 3) = [a, b, c] := rfl
@[simp] theorem cut_b {a b c d e : D} : cutD [a, b, c, d, e] none (some 1) = [a] := rfl
@[simp] theorem cut_c {a b c d : D} : cutD [a, b, c, d] none (some 3) = [a, b, c] := rfl
section
variable {r0 r1 r2 r3 r4 : Ty} {k : Nat} {S : Store}
theorem mdep {a b : Ty} (ha : a.dep ≤ 2) (hb : b.dep ≤ 2) : (a.my.mm b.my).dep ≤ 2 := by
  have := mm_dep a.my b.my; rw [a.my_dep, b.my_dep] at this; omega
theorem mdep' {a b : My} (ha : a.dep ≤ 2) (hb : b.dep ≤ 2) : (a.mm b).dep ≤ 2 := by
  have := mm_dep a b; omega
theorem all1 (hk : 10 ≤ k) (d0 : r0.dep ≤ 2) : callK prog k ix_joined_all [.lst [r0.d]] S = some (.tup [r0.d, r0.d, r0.d], S) := by
  obtain ⟨k, rfl⟩ : ∃ j, k = j + 1 := ⟨k - 1, by omega⟩
  have h0 := al_self r0
  refine W.get (call_joined_all ?_)
  unfold b_joined_all
  repeat (first
    | refine Go.go ?_
    | refine W.eq (run_triple (by assumption) (by omega)) ?_
    | (refine Fin.data ?_ ?_; focus (simp []; done))
    | (refine fun r (hr : _ = r) => ?_; (try simp [] at hr); subst hr; first | refine OQ.is ?_ | refine W.ret ?_ | skip)
    | refine Exists.intro _ (And.intro rfl ?_)
    | (refine And.intro (a := noPtr _ = true) ?_ ?_; focus (simp []; done))
    | (refine And.intro (a := D.isPtr _ = false) ?_ ?_; focus (simp []; done))
    | refine Exists.intro _ (And.intro (Or.inl rfl) ?_)
    | refine Exists.intro _ (And.intro (Or.inr rfl) ?_)
    | (refine And.intro (a := isLst _ _ = true) ?_ ?_; focus (simp []; done))
    | (refine And.intro (a := isDct _ _ = true) ?_ ?_; focus (simp []; done))
    | (refine And.intro (a := List.length _ ≤ 15) ?_ ?_; focus (first | exact Nat.le_of_ble_eq_true rfl | (simp []; done)))
    | (refine And.intro (a := List.length _ ≤ lim) ?_ ?_; focus (first | exact Nat.le_of_ble_eq_true rfl | (simp []; done)))
    | refine W.turn ?_
    | (refine IfB.i (fun _ => ?_) (fun (e : _ = false) => False.elim ?_); rotate_left; focus (simp [] at e; done))
    | (refine IfB.i (fun (e : _ = true) => False.elim ?_) (fun _ => ?_); focus (simp [] at e; done))
    | refine And.intro (fun _ => ?_) (fun (z : true = false) => nomatch z)
    | refine And.intro (fun (z : false = true) => nomatch z) (fun _ => ?_)
    )
  exact ⟨by simp [mm_self, Ty.my_d], by simp⟩
theorem all3 (hk : 10 ≤ k) (d0 : r0.dep ≤ 2) (d1 : r1.dep ≤ 2) (d2 : r2.dep ≤ 2) (h01 : r0.al r1 = true) (h12 : r1.al r2 = true) :
    callK prog k ix_joined_all [.lst [r0.d, r1.d, r2.d]] S = some (.tup [r0.d, (r0.my.mm (r1.my.mm r2.my)).d, r2.d], S) := by
  obtain ⟨k, rfl⟩ : ∃ j, k = j + 1 := ⟨k - 1, by omega⟩
  have h0 := al_self r0
  have e1 := mdep d0 d0
  have e2 := mdep' e1 (mdep d0 d1)
  refine W.get (call_joined_all ?_)
  unfold b_joined_all
  repeat (first
    | refine Go.go ?_
    | refine W.for1 ?_
    | refine W.eq (run_triple (by assumption) (by omega)) ?_
    | refine W.eq (run_joined (by omega)) ?_
    | (refine Fin.data ?_ ?_; focus (simp []; done))
    | (refine fun r (hr : _ = r) => ?_; (try simp [] at hr); subst hr; first | refine OQ.is ?_ | refine W.ret ?_ | skip)
    | refine Exists.intro _ (And.intro rfl ?_)
    | (refine And.intro (a := noPtr _ = true) ?_ ?_; focus (simp []; done))
    | (refine And.intro (a := D.isPtr _ = false) ?_ ?_; focus (simp []; done))
    | refine Exists.intro _ (And.intro (Or.inl rfl) ?_)
    | refine Exists.intro _ (And.intro (Or.inr rfl) ?_)
    | (refine And.intro (a := isLst _ _ = true) ?_ ?_; focus (simp []; done))
    | (refine And.intro (a := isDct _ _ = true) ?_ ?_; focus (simp []; done))
    | (refine And.intro (a := List.length _ ≤ 15) ?_ ?_; focus (first | exact Nat.le_of_ble_eq_true rfl | (simp []; done)))
    | (refine And.intro (a := List.length _ ≤ lim) ?_ ?_; focus (first | exact Nat.le_of_ble_eq_true rfl | (simp []; done)))
    | refine W.turn ?_
    | (refine IfB.i (fun _ => ?_) (fun (e : _ = false) => False.elim ?_); rotate_left; focus (simp [] at e; done))
    | (refine IfB.i (fun (e : _ = true) => False.elim ?_) (fun _ => ?_); focus (simp [] at e; done))
    | refine And.intro (fun _ => ?_) (fun (z : true = false) => nomatch z)
    | refine And.intro (fun (z : false = true) => nomatch z) (fun _ => ?_)
    )
  exact ⟨by simp only [mm_assoc, mm_left, mm_self], by simp⟩
theorem all5 (hk : 10 ≤ k) (d0 : r0.dep ≤ 2) (d1 : r1.dep ≤ 2) (d2 : r2.dep ≤ 2) (d3 : r3.dep ≤ 2) (h01 : r0.al r1 = true) (h12 : r1.al r2 = true) (h23 : r2.al r3 = true) (h34 : r3.al r4 = true) :
    callK prog k ix_joined_all [.lst [r0.d, r1.d, r2.d, r3.d, r4.d]] S = some (.tup [r0.d, (r0.my.mm (r1.my.mm (r2.my.mm (r3.my.mm r4.my)))).d, r4.d], S) := by
  obtain ⟨k, rfl⟩ : ∃ j, k = j + 1 := ⟨k - 1, by omega⟩
  have h0 := al_self r0
  have e1 := mdep d0 d0
  have e2 := mdep' e1 (mdep d0 d1)
  have e3 := mdep' e2 (mdep d1 d2)
  have e4 := mdep' e3 (mdep d2 d3)
  refine W.get (call_joined_all ?_)
  unfold b_joined_all
  repeat (first
    | refine Go.go ?_
    | refine W.for1 ?_
    | refine W.eq (run_triple (by assumption) (by omega)) ?_
    | refine W.eq (run_joined (by omega)) ?_
    | (refine Fin.data ?_ ?_; focus (simp []; done))
    | (refine fun r (hr : _ = r) => ?_; (try simp [] at hr); subst hr; first | refine OQ.is ?_ | refine W.ret ?_ | skip)
    | refine Exists.intro _ (And.intro rfl ?_)
    | (refine And.intro (a := noPtr _ = true) ?_ ?_; focus (simp []; done))
    | (refine And.intro (a := D.isPtr _ = false) ?_ ?_; focus (simp []; done))
    | refine Exists.intro _ (And.intro (Or.inl rfl) ?_)
    | refine Exists.intro _ (And.intro (Or.inr rfl) ?_)
    | (refine And.intro (a := isLst _ _ = true) ?_ ?_; focus (simp []; done))
    | (refine And.intro (a := isDct _ _ = true) ?_ ?_; focus (simp []; done))
    | (refine And.intro (a := List.length _ ≤ 15) ?_ ?_; focus (first | exact Nat.le_of_ble_eq_true rfl | (simp []; done)))
    | (refine And.intro (a := List.length _ ≤ lim) ?_ ?_; focus (first | exact Nat.le_of_ble_eq_true rfl | (simp []; done)))
    | refine W.turn ?_
    | (refine IfB.i (fun _ => ?_) (fun (e : _ = false) => False.elim ?_); rotate_left; focus (simp [] at e; done))
    | (refine IfB.i (fun (e : _ = true) => False.elim ?_) (fun _ => ?_); focus (simp [] at e; done))
    | refine And.intro (fun _ => ?_) (fun (z : true = false) => nomatch z)
    | refine And.intro (fun (z : false = true) => nomatch z) (fun _ => ?_)
    )
  exact ⟨by simp only [mm_assoc, mm_left, mm_self], by simp⟩
end
theorem goes_mono {r0 r1 r2 r3 r4 : Ty} {v : Vt} (h : gv v (r0.my.mm (r1.my.mm (r2.my.mm (r3.my.mm r4.my)))) = true) : gv v (r0.my.mm (r1.my.mm r2.my)) = true := by
  refine gv_mm _ (r3.my.mm r4.my) v ?_
  rw [mm_assoc, mm_assoc]; exact h
end PC

set_option Elab.async false
set_option linter.all false
set_option maxRecDepth 1000000
set_option maxHeartbeats 40000000
namespace PC
open PySem PyProof.Rows L2
theorem goes_ty {v : Vt} {t : Ty} {k : Nat} {S : Store} (h : t.dep < k) (hv : v.dep ≤ 1000) : callK prog k ix_goes [v.d, t.d] S = some (.bl (gv v t.my), S) := by
  rw [t.my_d]; exact run_goes k v _ S (by rw [t.my_dep]; exact h) hv
def restL : CSs := match b_law with
  | .cons _ (.cons (.for_ _ _ (.cons _ (.cons _ r))) _) => r
  | _ => .nil
def OutL (ns : List Int) (fl : Fl) (S' : Store) : Prop := ∃ e, fl = .nx e ∧ (∃ x2 x3 x4 x5 x6 x7 x8 x9 x10 x11 x12 x13 x14 x15 x16 x17, e = [some (.lst (ns.map D.int)), some (.ptr 0), x2, x3, x4, x5, x6, x7, x8, x9, x10, x11, x12, x13, x14, x15, x16, x17]) ∧ DW [] S'
theorem rest_ok {ns : List Int} {one two three : Ty} {S : Store} {x2 x3 x4 x5 x6 x7 x8 x9 x10 x11 x15 x16 x17 : Option D} {k : Nat} (hk : 60 ≤ k) (hk2 : k ≤ 500) (d1 : one.dep ≤ 2) (d2 : two.dep ≤ 2) (d3 : three.dep ≤ 2) (hd : DW [] S) :
    W (evSs prog (callK prog k) restL [some (.lst (ns.map D.int)), some (.ptr 0), x2, x3, x4, x5, x6, x7, x8, x9, x10, x11, some one.d, some two.d, some three.d, x15, x16, x17] S) (OutL ns) := by
  have eb := mdep d1 d2
  have eb2 := mdep d2 d1
  have ebb := mdep' eb eb
  have m3 : three.my.dep ≤ 2 := by rw [three.my_dep]; exact d3
  have m1 : one.my.dep ≤ 2 := by rw [one.my_dep]; exact d1
  have e3 := mdep' eb m3
  have e23 := mdep d2 d3
  have q1 : two.my.mm one.my = one.my.mm two.my := mm_comm _ _
  have q2 : (one.my.mm two.my).mm (one.my.mm two.my) = one.my.mm two.my := by
    rw [mm_assoc, ← mm_assoc two.my, mm_comm two.my one.my, mm_assoc one.my two.my two.my, mm_self, mm_left]
  have q3 : one.my.mm two.my = one.my.mm two.my := rfl
  have q4 : (one.my.mm two.my).mm three.my = one.my.mm (two.my.mm three.my) := mm_assoc _ _ _
  have t1 : tl (one.my.mm two.my) one.my = true := tl_mm _ _
  have t2 : tl (one.my.mm two.my) two.my = true := by rw [← q1]; exact tl_mm _ _
  unfold restL
  dsimp only [b_law]
  repeat (first
    | refine W.skip (s := .if_ _ (.cons (.ret (.con (.bl false))) .nil) .nil) ?_ ?_
    | refine Go.go ?_
    | refine W.eq (mm_tt (by omega)) ?_
    | refine W.eq (mm_mt (by omega)) ?_
    | refine W.eq (run_mm _ _ _ _ (by omega)) ?_
    | refine W.eq (mm_ma (by omega)) ?_
    | refine W.eq (same_my (by assumption) (by omega) (by omega)) ?_
    | (refine Fin.data ?_ ?_; focus (simp []; done))
    | (refine fun r (hr : _ = r) => ?_; (try simp [] at hr); subst hr; first | refine OQ.is ?_ | refine W.ret ?_ | skip)
    | refine Exists.intro _ (And.intro rfl ?_)
    | (refine And.intro (a := noPtr _ = true) ?_ ?_; focus (simp []; done))
    | (refine And.intro (a := D.isPtr _ = false) ?_ ?_; focus (simp []; done))
    | refine Exists.intro _ (And.intro (Or.inl rfl) ?_)
    | refine Exists.intro _ (And.intro (Or.inr rfl) ?_)
    | (refine And.intro (a := isLst _ _ = true) ?_ ?_; focus (simp []; done))
    | (refine And.intro (a := isDct _ _ = true) ?_ ?_; focus (simp []; done))
    | (refine And.intro (a := List.length _ ≤ 15) ?_ ?_; focus (first | exact Nat.le_of_ble_eq_true rfl | (simp []; done)))
    | (refine And.intro (a := List.length _ ≤ lim) ?_ ?_; focus (first | exact Nat.le_of_ble_eq_true rfl | (simp []; done)))
    | refine W.turn ?_
    | (refine IfB.i (fun _ => ?_) (fun (e : _ = false) => False.elim ?_); rotate_left; focus (simp [] at e; done))
    | (refine IfB.i (fun (e : _ = true) => False.elim ?_) (fun _ => ?_); focus (simp [] at e; done))
    | refine And.intro (fun _ => ?_) (fun (z : true = false) => nomatch z)
    | refine And.intro (fun (z : false = true) => nomatch z) (fun _ => ?_)
    )
  · exact ⟨rfl, rfl⟩
  repeat (first
    | refine W.skip (s := .if_ _ (.cons (.ret (.con (.bl false))) .nil) .nil) ?_ ?_
    | refine Go.go ?_
    | refine W.eq (mm_tt (by omega)) ?_
    | refine W.eq (mm_mt (by omega)) ?_
    | refine W.eq (mm_tm (by omega)) ?_
    | refine W.eq (mm_mn (by omega)) ?_
    | refine W.eq (same_my (by assumption) (by omega) (by omega)) ?_
    | (refine Fin.data ?_ ?_; focus (simp []; done))
    | (refine fun r (hr : _ = r) => ?_; (try simp [] at hr); subst hr; first | refine OQ.is ?_ | refine W.ret ?_ | skip)
    | refine Exists.intro _ (And.intro rfl ?_)
    | (refine And.intro (a := noPtr _ = true) ?_ ?_; focus (simp []; done))
    | (refine And.intro (a := D.isPtr _ = false) ?_ ?_; focus (simp []; done))
    | refine Exists.intro _ (And.intro (Or.inl rfl) ?_)
    | refine Exists.intro _ (And.intro (Or.inr rfl) ?_)
    | (refine And.intro (a := isLst _ _ = true) ?_ ?_; focus (simp []; done))
    | (refine And.intro (a := isDct _ _ = true) ?_ ?_; focus (simp []; done))
    | (refine And.intro (a := List.length _ ≤ 15) ?_ ?_; focus (first | exact Nat.le_of_ble_eq_true rfl | (simp []; done)))
    | (refine And.intro (a := List.length _ ≤ lim) ?_ ?_; focus (first | exact Nat.le_of_ble_eq_true rfl | (simp []; done)))
    | refine W.turn ?_
    | (refine IfB.i (fun _ => ?_) (fun (e : _ = false) => False.elim ?_); rotate_left; focus (simp [] at e; done))
    | (refine IfB.i (fun (e : _ = true) => False.elim ?_) (fun _ => ?_); focus (simp [] at e; done))
    | refine And.intro (fun _ => ?_) (fun (z : true = false) => nomatch z)
    | refine And.intro (fun (z : false = true) => nomatch z) (fun _ => ?_)
    )
  · exact ⟨rfl, rfl⟩
  repeat (first
    | refine W.skip (s := .if_ _ (.cons (.ret (.con (.bl false))) .nil) .nil) ?_ ?_
    | refine Go.go ?_
    | refine W.eq (run_tells _ _ _ _ (by omega)) ?_
    | (refine Fin.data ?_ ?_; focus (simp [t1, t2]; done))
    | (refine fun r (hr : _ = r) => ?_; (try simp [t1, t2] at hr); subst hr; first | refine OQ.is ?_ | refine W.ret ?_ | skip)
    | refine Exists.intro _ (And.intro rfl ?_)
    | (refine And.intro (a := noPtr _ = true) ?_ ?_; focus (simp [t1, t2]; done))
    | (refine And.intro (a := D.isPtr _ = false) ?_ ?_; focus (simp [t1, t2]; done))
    | refine Exists.intro _ (And.intro (Or.inl rfl) ?_)
    | refine Exists.intro _ (And.intro (Or.inr rfl) ?_)
    | (refine And.intro (a := isLst _ _ = true) ?_ ?_; focus (simp [t1, t2]; done))
    | (refine And.intro (a := isDct _ _ = true) ?_ ?_; focus (simp [t1, t2]; done))
    | (refine And.intro (a := List.length _ ≤ 15) ?_ ?_; focus (first | exact Nat.le_of_ble_eq_true rfl | (simp [t1, t2]; done)))
    | (refine And.intro (a := List.length _ ≤ lim) ?_ ?_; focus (first | exact Nat.le_of_ble_eq_true rfl | (simp [t1, t2]; done)))
    | refine W.turn ?_
    | (refine IfB.i (fun _ => ?_) (fun (e : _ = false) => False.elim ?_); rotate_left; focus (simp [t1, t2] at e; done))
    | (refine IfB.i (fun (e : _ = true) => False.elim ?_) (fun _ => ?_); focus (simp [t1, t2] at e; done))
    | refine And.intro (fun _ => ?_) (fun (z : true = false) => nomatch z)
    | refine And.intro (fun (z : false = true) => nomatch z) (fun _ => ?_)
    )
  · exact ⟨rfl, rfl⟩
  repeat (first
    | refine Go.go ?_
    | (refine Fin.data ?_ ?_; focus (simp []; done))
    | (refine fun r (hr : _ = r) => ?_; (try simp [] at hr); subst hr; first | refine OQ.is ?_ | refine W.ret ?_ | skip)
    | refine Exists.intro _ (And.intro rfl ?_)
    | (refine And.intro (a := noPtr _ = true) ?_ ?_; focus (simp []; done))
    | (refine And.intro (a := D.isPtr _ = false) ?_ ?_; focus (simp []; done))
    | refine Exists.intro _ (And.intro (Or.inl rfl) ?_)
    | refine Exists.intro _ (And.intro (Or.inr rfl) ?_)
    | (refine And.intro (a := isLst _ _ = true) ?_ ?_; focus (simp []; done))
    | (refine And.intro (a := isDct _ _ = true) ?_ ?_; focus (simp []; done))
    | (refine And.intro (a := List.length _ ≤ 15) ?_ ?_; focus (first | exact Nat.le_of_ble_eq_true rfl | (simp []; done)))
    | (refine And.intro (a := List.length _ ≤ lim) ?_ ?_; focus (first | exact Nat.le_of_ble_eq_true rfl | (simp []; done)))
    | refine W.turn ?_
    | (refine IfB.i (fun _ => ?_) (fun (e : _ = false) => False.elim ?_); rotate_left; focus (simp [] at e; done))
    | (refine IfB.i (fun (e : _ = true) => False.elim ?_) (fun _ => ?_); focus (simp [] at e; done))
    | refine And.intro (fun _ => ?_) (fun (z : true = false) => nomatch z)
    | refine And.intro (fun (z : false = true) => nomatch z) (fun _ => ?_)
    )
  refine W.mono (run_chain (by omega) hd) ?_
  rintro _ S1 ⟨rows, rfl, hl, hlk, hd1⟩
  obtain ⟨r0, r1, r2, r3, r4, rfl⟩ : ∃ r0 r1 r2 r3 r4, rows = [r0, r1, r2, r3, r4] := by
    match rows, hl with
    | [a, b, c, d, e], _ => exact ⟨a, b, c, d, e, rfl⟩
  have p0 := hlk.1 r0 (by simp)
  have p1 := hlk.1 r1 (by simp)
  have p2 := hlk.1 r2 (by simp)
  have p3 := hlk.1 r3 (by simp)
  have p4 := hlk.1 r4 (by simp)
  have a01 := hlk.2 0 r0 r1 rfl rfl
  have a12 := hlk.2 1 r1 r2 rfl rfl
  have a23 := hlk.2 2 r2 r3 rfl rfl
  have a34 := hlk.2 3 r3 r4 rfl rfl
  have a00 := al_self r0
  have w0 := p0.2
  have w1 := p1.2
  have w2 := p2.2
  have w3 := p3.2
  have w4 := p4.2
  have f01 := mdep w0 w1
  have f12 := mdep w1 w2
  have f23 := mdep w2 w3
  have f34 := mdep w3 w4
  have f00 := mdep w0 w0
  have g1 := mdep' f01 f12
  have g2 := mdep' g1 f23
  have g3 := mdep' g2 f34
  have g4 := mdep' f00 g3
  have h1 := mdep' f23 f34
  have h2 := mdep' f12 h1
  have h3 := mdep' f01 h2
  have z1 : (((r0.my.mm r1.my).mm (r1.my.mm r2.my)).mm (r2.my.mm r3.my)).mm (r3.my.mm r4.my) = r0.my.mm (r1.my.mm (r2.my.mm (r3.my.mm r4.my))) := by simp only [mm_assoc, mm_left, mm_self]
  have z2 : (r0.my.mm r1.my).mm ((r1.my.mm r2.my).mm ((r2.my.mm r3.my).mm (r3.my.mm r4.my))) = r0.my.mm (r1.my.mm (r2.my.mm (r3.my.mm r4.my))) := by simp only [mm_assoc, mm_left, mm_self]
  have z3 : (r0.my.mm r0.my).mm ((((r0.my.mm r1.my).mm (r1.my.mm r2.my)).mm (r2.my.mm r3.my)).mm (r3.my.mm r4.my)) = (((r0.my.mm r1.my).mm (r1.my.mm r2.my)).mm (r2.my.mm r3.my)).mm (r3.my.mm r4.my) := by simp only [mm_assoc, mm_left, mm_self]
  simp only [List.map_cons, List.map_nil]
  repeat (first
    | refine Go.go ?_
    | refine W.eq (all5 (by omega) w0 w1 w2 w3 a01 a12 a23 a34) ?_
    | refine W.eq (run_triple (by assumption) (by omega)) ?_
    | (refine Fin.data ?_ ?_; focus (simp []; done))
    | (refine fun r (hr : _ = r) => ?_; (try simp [] at hr); subst hr; first | refine OQ.is ?_ | refine W.ret ?_ | skip)
    | refine Exists.intro _ (And.intro rfl ?_)
    | (refine And.intro (a := noPtr _ = true) ?_ ?_; focus (simp []; done))
    | (refine And.intro (a := D.isPtr _ = false) ?_ ?_; focus (simp []; done))
    | refine Exists.intro _ (And.intro (Or.inl rfl) ?_)
    | refine Exists.intro _ (And.intro (Or.inr rfl) ?_)
    | (refine And.intro (a := isLst _ _ = true) ?_ ?_; focus (simp []; done))
    | (refine And.intro (a := isDct _ _ = true) ?_ ?_; focus (simp []; done))
    | (refine And.intro (a := List.length _ ≤ 15) ?_ ?_; focus (first | exact Nat.le_of_ble_eq_true rfl | (simp []; done)))
    | (refine And.intro (a := List.length _ ≤ lim) ?_ ?_; focus (first | exact Nat.le_of_ble_eq_true rfl | (simp []; done)))
    | refine W.turn ?_
    | (refine IfB.i (fun _ => ?_) (fun (e : _ = false) => False.elim ?_); rotate_left; focus (simp [] at e; done))
    | (refine IfB.i (fun (e : _ = true) => False.elim ?_) (fun _ => ?_); focus (simp [] at e; done))
    | refine And.intro (fun _ => ?_) (fun (z : true = false) => nomatch z)
    | refine And.intro (fun (z : false = true) => nomatch z) (fun _ => ?_)
    )
  refine W.for1 ?_
  repeat (first
    | refine Go.go ?_
    | refine W.eq (run_joined (by omega)) ?_
    | (refine Fin.data ?_ ?_; focus (simp []; done))
    | (refine fun r (hr : _ = r) => ?_; (try simp [] at hr); subst hr; first | refine OQ.is ?_ | refine W.ret ?_ | skip)
    | refine Exists.intro _ (And.intro rfl ?_)
    | (refine And.intro (a := noPtr _ = true) ?_ ?_; focus (simp []; done))
    | (refine And.intro (a := D.isPtr _ = false) ?_ ?_; focus (simp []; done))
    | refine Exists.intro _ (And.intro (Or.inl rfl) ?_)
    | refine Exists.intro _ (And.intro (Or.inr rfl) ?_)
    | (refine And.intro (a := isLst _ _ = true) ?_ ?_; focus (simp []; done))
    | (refine And.intro (a := isDct _ _ = true) ?_ ?_; focus (simp []; done))
    | (refine And.intro (a := List.length _ ≤ 15) ?_ ?_; focus (first | exact Nat.le_of_ble_eq_true rfl | (simp []; done)))
    | (refine And.intro (a := List.length _ ≤ lim) ?_ ?_; focus (first | exact Nat.le_of_ble_eq_true rfl | (simp []; done)))
    | refine W.turn ?_
    | (refine IfB.i (fun _ => ?_) (fun (e : _ = false) => False.elim ?_); rotate_left; focus (simp [] at e; done))
    | (refine IfB.i (fun (e : _ = true) => False.elim ?_) (fun _ => ?_); focus (simp [] at e; done))
    | refine And.intro (fun _ => ?_) (fun (z : true = false) => nomatch z)
    | refine And.intro (fun (z : false = true) => nomatch z) (fun _ => ?_)
    )
  refine W.for1 ?_
  repeat (first
    | refine Go.go ?_
    | refine W.eq (run_joined (by omega)) ?_
    | (refine Fin.data ?_ ?_; focus (simp []; done))
    | (refine fun r (hr : _ = r) => ?_; (try simp [] at hr); subst hr; first | refine OQ.is ?_ | refine W.ret ?_ | skip)
    | refine Exists.intro _ (And.intro rfl ?_)
    | (refine And.intro (a := noPtr _ = true) ?_ ?_; focus (simp []; done))
    | (refine And.intro (a := D.isPtr _ = false) ?_ ?_; focus (simp []; done))
    | refine Exists.intro _ (And.intro (Or.inl rfl) ?_)
    | refine Exists.intro _ (And.intro (Or.inr rfl) ?_)
    | (refine And.intro (a := isLst _ _ = true) ?_ ?_; focus (simp []; done))
    | (refine And.intro (a := isDct _ _ = true) ?_ ?_; focus (simp []; done))
    | (refine And.intro (a := List.length _ ≤ 15) ?_ ?_; focus (first | exact Nat.le_of_ble_eq_true rfl | (simp []; done)))
    | (refine And.intro (a := List.length _ ≤ lim) ?_ ?_; focus (first | exact Nat.le_of_ble_eq_true rfl | (simp []; done)))
    | refine W.turn ?_
    | (refine IfB.i (fun _ => ?_) (fun (e : _ = false) => False.elim ?_); rotate_left; focus (simp [] at e; done))
    | (refine IfB.i (fun (e : _ = true) => False.elim ?_) (fun _ => ?_); focus (simp [] at e; done))
    | refine And.intro (fun _ => ?_) (fun (z : true = false) => nomatch z)
    | refine And.intro (fun (z : false = true) => nomatch z) (fun _ => ?_)
    )
  refine W.for1 ?_
  repeat (first
    | refine Go.go ?_
    | refine W.eq (run_joined (by omega)) ?_
    | (refine Fin.data ?_ ?_; focus (simp []; done))
    | (refine fun r (hr : _ = r) => ?_; (try simp [] at hr); subst hr; first | refine OQ.is ?_ | refine W.ret ?_ | skip)
    | refine Exists.intro _ (And.intro rfl ?_)
    | (refine And.intro (a := noPtr _ = true) ?_ ?_; focus (simp []; done))
    | (refine And.intro (a := D.isPtr _ = false) ?_ ?_; focus (simp []; done))
    | refine Exists.intro _ (And.intro (Or.inl rfl) ?_)
    | refine Exists.intro _ (And.intro (Or.inr rfl) ?_)
    | (refine And.intro (a := isLst _ _ = true) ?_ ?_; focus (simp []; done))
    | (refine And.intro (a := isDct _ _ = true) ?_ ?_; focus (simp []; done))
    | (refine And.intro (a := List.length _ ≤ 15) ?_ ?_; focus (first | exact Nat.le_of_ble_eq_true rfl | (simp []; done)))
    | (refine And.intro (a := List.length _ ≤ lim) ?_ ?_; focus (first | exact Nat.le_of_ble_eq_true rfl | (simp []; done)))
    | refine W.turn ?_
    | (refine IfB.i (fun _ => ?_) (fun (e : _ = false) => False.elim ?_); rotate_left; focus (simp [] at e; done))
    | (refine IfB.i (fun (e : _ = true) => False.elim ?_) (fun _ => ?_); focus (simp [] at e; done))
    | refine And.intro (fun _ => ?_) (fun (z : true = false) => nomatch z)
    | refine And.intro (fun (z : false = true) => nomatch z) (fun _ => ?_)
    )
  refine W.for1 ?_
  repeat (first
    | refine Go.go ?_
    | refine W.eq (run_joined (by omega)) ?_
    | (refine Fin.data ?_ ?_; focus (simp []; done))
    | (refine fun r (hr : _ = r) => ?_; (try simp [] at hr); subst hr; first | refine OQ.is ?_ | refine W.ret ?_ | skip)
    | refine Exists.intro _ (And.intro rfl ?_)
    | (refine And.intro (a := noPtr _ = true) ?_ ?_; focus (simp []; done))
    | (refine And.intro (a := D.isPtr _ = false) ?_ ?_; focus (simp []; done))
    | refine Exists.intro _ (And.intro (Or.inl rfl) ?_)
    | refine Exists.intro _ (And.intro (Or.inr rfl) ?_)
    | (refine And.intro (a := isLst _ _ = true) ?_ ?_; focus (simp []; done))
    | (refine And.intro (a := isDct _ _ = true) ?_ ?_; focus (simp []; done))
    | (refine And.intro (a := List.length _ ≤ 15) ?_ ?_; focus (first | exact Nat.le_of_ble_eq_true rfl | (simp []; done)))
    | (refine And.intro (a := List.length _ ≤ lim) ?_ ?_; focus (first | exact Nat.le_of_ble_eq_true rfl | (simp []; done)))
    | refine W.turn ?_
    | (refine IfB.i (fun _ => ?_) (fun (e : _ = false) => False.elim ?_); rotate_left; focus (simp [] at e; done))
    | (refine IfB.i (fun (e : _ = true) => False.elim ?_) (fun _ => ?_); focus (simp [] at e; done))
    | refine And.intro (fun _ => ?_) (fun (z : true = false) => nomatch z)
    | refine And.intro (fun (z : false = true) => nomatch z) (fun _ => ?_)
    )
  refine W.for1 ?_
  repeat (first
    | refine Go.go ?_
    | refine W.eq (run_joined (by omega)) ?_
    | (refine Fin.data ?_ ?_; focus (simp []; done))
    | (refine fun r (hr : _ = r) => ?_; (try simp [] at hr); subst hr; first | refine OQ.is ?_ | refine W.ret ?_ | skip)
    | refine Exists.intro _ (And.intro rfl ?_)
    | (refine And.intro (a := noPtr _ = true) ?_ ?_; focus (simp []; done))
    | (refine And.intro (a := D.isPtr _ = false) ?_ ?_; focus (simp []; done))
    | refine Exists.intro _ (And.intro (Or.inl rfl) ?_)
    | refine Exists.intro _ (And.intro (Or.inr rfl) ?_)
    | (refine And.intro (a := isLst _ _ = true) ?_ ?_; focus (simp []; done))
    | (refine And.intro (a := isDct _ _ = true) ?_ ?_; focus (simp []; done))
    | (refine And.intro (a := List.length _ ≤ 15) ?_ ?_; focus (first | exact Nat.le_of_ble_eq_true rfl | (simp []; done)))
    | (refine And.intro (a := List.length _ ≤ lim) ?_ ?_; focus (first | exact Nat.le_of_ble_eq_true rfl | (simp []; done)))
    | refine W.turn ?_
    | (refine IfB.i (fun _ => ?_) (fun (e : _ = false) => False.elim ?_); rotate_left; focus (simp [] at e; done))
    | (refine IfB.i (fun (e : _ = true) => False.elim ?_) (fun _ => ?_); focus (simp [] at e; done))
    | refine And.intro (fun _ => ?_) (fun (z : true = false) => nomatch z)
    | refine And.intro (fun (z : false = true) => nomatch z) (fun _ => ?_)
    )
  refine W.for1 ?_
  repeat (first
    | refine W.skip (s := .if_ _ (.cons (.ret (.con (.bl false))) .nil) .nil) ?_ ?_
    | refine Go.go ?_
    | refine W.eq (run_joined (by omega)) ?_
    | (refine Fin.data ?_ ?_; focus (simp []; done))
    | (refine fun r (hr : _ = r) => ?_; (try simp [] at hr); subst hr; first | refine OQ.is ?_ | refine W.ret ?_ | skip)
    | refine Exists.intro _ (And.intro rfl ?_)
    | (refine And.intro (a := noPtr _ = true) ?_ ?_; focus (simp []; done))
    | (refine And.intro (a := D.isPtr _ = false) ?_ ?_; focus (simp []; done))
    | refine Exists.intro _ (And.intro (Or.inl rfl) ?_)
    | refine Exists.intro _ (And.intro (Or.inr rfl) ?_)
    | (refine And.intro (a := isLst _ _ = true) ?_ ?_; focus (simp []; done))
    | (refine And.intro (a := isDct _ _ = true) ?_ ?_; focus (simp []; done))
    | (refine And.intro (a := List.length _ ≤ 15) ?_ ?_; focus (first | exact Nat.le_of_ble_eq_true rfl | (simp []; done)))
    | (refine And.intro (a := List.length _ ≤ lim) ?_ ?_; focus (first | exact Nat.le_of_ble_eq_true rfl | (simp []; done)))
    | refine W.turn ?_
    | (refine IfB.i (fun _ => ?_) (fun (e : _ = false) => False.elim ?_); rotate_left; focus (simp [] at e; done))
    | (refine IfB.i (fun (e : _ = true) => False.elim ?_) (fun _ => ?_); focus (simp [] at e; done))
    | refine And.intro (fun _ => ?_) (fun (z : true = false) => nomatch z)
    | refine And.intro (fun (z : false = true) => nomatch z) (fun _ => ?_)
    )
  · refine W.eq (same_tr z1 (by omega) (by omega) (by omega) (by omega)) ?_
    repeat (first
      | refine Go.go ?_
      | (refine Fin.data ?_ ?_; focus (simp []; done))
      | (refine fun r (hr : _ = r) => ?_; (try simp [] at hr); subst hr; first | refine OQ.is ?_ | refine W.ret ?_ | skip)
      | refine Exists.intro _ (And.intro rfl ?_)
      | (refine And.intro (a := noPtr _ = true) ?_ ?_; focus (simp []; done))
      | (refine And.intro (a := D.isPtr _ = false) ?_ ?_; focus (simp []; done))
      | refine Exists.intro _ (And.intro (Or.inl rfl) ?_)
      | refine Exists.intro _ (And.intro (Or.inr rfl) ?_)
      | (refine And.intro (a := isLst _ _ = true) ?_ ?_; focus (simp []; done))
      | (refine And.intro (a := isDct _ _ = true) ?_ ?_; focus (simp []; done))
      | (refine And.intro (a := List.length _ ≤ 15) ?_ ?_; focus (first | exact Nat.le_of_ble_eq_true rfl | (simp []; done)))
      | (refine And.intro (a := List.length _ ≤ lim) ?_ ?_; focus (first | exact Nat.le_of_ble_eq_true rfl | (simp []; done)))
      | refine W.turn ?_
      | (refine IfB.i (fun _ => ?_) (fun (e : _ = false) => False.elim ?_); rotate_left; focus (simp [] at e; done))
      | (refine IfB.i (fun (e : _ = true) => False.elim ?_) (fun _ => ?_); focus (simp [] at e; done))
      | refine And.intro (fun _ => ?_) (fun (z : true = false) => nomatch z)
      | refine And.intro (fun (z : false = true) => nomatch z) (fun _ => ?_)
      )
    refine W.eq (same_tr z2 (by omega) (by omega) (by omega) (by omega)) ?_
    repeat (first
      | refine Go.go ?_
      | refine W.eq (run_triple (by assumption) (by omega)) ?_
      | (refine Fin.data ?_ ?_; focus (simp []; done))
      | (refine fun r (hr : _ = r) => ?_; (try simp [] at hr); subst hr; first | refine OQ.is ?_ | refine W.ret ?_ | skip)
      | refine Exists.intro _ (And.intro rfl ?_)
      | (refine And.intro (a := noPtr _ = true) ?_ ?_; focus (simp []; done))
      | (refine And.intro (a := D.isPtr _ = false) ?_ ?_; focus (simp []; done))
      | refine Exists.intro _ (And.intro (Or.inl rfl) ?_)
      | refine Exists.intro _ (And.intro (Or.inr rfl) ?_)
      | (refine And.intro (a := isLst _ _ = true) ?_ ?_; focus (simp []; done))
      | (refine And.intro (a := isDct _ _ = true) ?_ ?_; focus (simp []; done))
      | (refine And.intro (a := List.length _ ≤ 15) ?_ ?_; focus (first | exact Nat.le_of_ble_eq_true rfl | (simp []; done)))
      | (refine And.intro (a := List.length _ ≤ lim) ?_ ?_; focus (first | exact Nat.le_of_ble_eq_true rfl | (simp []; done)))
      | refine W.turn ?_
      | (refine IfB.i (fun _ => ?_) (fun (e : _ = false) => False.elim ?_); rotate_left; focus (simp [] at e; done))
      | (refine IfB.i (fun (e : _ = true) => False.elim ?_) (fun _ => ?_); focus (simp [] at e; done))
      | refine And.intro (fun _ => ?_) (fun (z : true = false) => nomatch z)
      | refine And.intro (fun (z : false = true) => nomatch z) (fun _ => ?_)
      )
    refine W.eq (run_joined (by omega)) ?_
    repeat (first
      | refine Go.go ?_
      | (refine Fin.data ?_ ?_; focus (simp []; done))
      | (refine fun r (hr : _ = r) => ?_; (try simp [] at hr); subst hr; first | refine OQ.is ?_ | refine W.ret ?_ | skip)
      | refine Exists.intro _ (And.intro rfl ?_)
      | (refine And.intro (a := noPtr _ = true) ?_ ?_; focus (simp []; done))
      | (refine And.intro (a := D.isPtr _ = false) ?_ ?_; focus (simp []; done))
      | refine Exists.intro _ (And.intro (Or.inl rfl) ?_)
      | refine Exists.intro _ (And.intro (Or.inr rfl) ?_)
      | (refine And.intro (a := isLst _ _ = true) ?_ ?_; focus (simp []; done))
      | (refine And.intro (a := isDct _ _ = true) ?_ ?_; focus (simp []; done))
      | (refine And.intro (a := List.length _ ≤ 15) ?_ ?_; focus (first | exact Nat.le_of_ble_eq_true rfl | (simp []; done)))
      | (refine And.intro (a := List.length _ ≤ lim) ?_ ?_; focus (first | exact Nat.le_of_ble_eq_true rfl | (simp []; done)))
      | refine W.turn ?_
      | (refine IfB.i (fun _ => ?_) (fun (e : _ = false) => False.elim ?_); rotate_left; focus (simp [] at e; done))
      | (refine IfB.i (fun (e : _ = true) => False.elim ?_) (fun _ => ?_); focus (simp [] at e; done))
      | refine And.intro (fun _ => ?_) (fun (z : true = false) => nomatch z)
      | refine And.intro (fun (z : false = true) => nomatch z) (fun _ => ?_)
      )
    refine W.eq (same_tr z3 (by omega) (by omega) (by omega) (by omega)) ?_
    repeat (first
      | refine Go.go ?_
      | (refine Fin.data ?_ ?_; focus (simp []; done))
      | (refine fun r (hr : _ = r) => ?_; (try simp [] at hr); subst hr; first | refine OQ.is ?_ | refine W.ret ?_ | skip)
      | refine Exists.intro _ (And.intro rfl ?_)
      | (refine And.intro (a := noPtr _ = true) ?_ ?_; focus (simp []; done))
      | (refine And.intro (a := D.isPtr _ = false) ?_ ?_; focus (simp []; done))
      | refine Exists.intro _ (And.intro (Or.inl rfl) ?_)
      | refine Exists.intro _ (And.intro (Or.inr rfl) ?_)
      | (refine And.intro (a := isLst _ _ = true) ?_ ?_; focus (simp []; done))
      | (refine And.intro (a := isDct _ _ = true) ?_ ?_; focus (simp []; done))
      | (refine And.intro (a := List.length _ ≤ 15) ?_ ?_; focus (first | exact Nat.le_of_ble_eq_true rfl | (simp []; done)))
      | (refine And.intro (a := List.length _ ≤ lim) ?_ ?_; focus (first | exact Nat.le_of_ble_eq_true rfl | (simp []; done)))
      | refine W.turn ?_
      | (refine IfB.i (fun _ => ?_) (fun (e : _ = false) => False.elim ?_); rotate_left; focus (simp [] at e; done))
      | (refine IfB.i (fun (e : _ = true) => False.elim ?_) (fun _ => ?_); focus (simp [] at e; done))
      | refine And.intro (fun _ => ?_) (fun (z : true = false) => nomatch z)
      | refine And.intro (fun (z : false = true) => nomatch z) (fun _ => ?_)
      )
    exact ⟨rfl, rfl⟩
  have hvd := r0.vd_le
  repeat (first
    | refine Go.go ?_
    | (refine Fin.data ?_ ?_; focus (simp []; done))
    | (refine fun r (hr : _ = r) => ?_; (try simp [] at hr); subst hr; first | refine OQ.is ?_ | refine W.ret ?_ | skip)
    | refine Exists.intro _ (And.intro rfl ?_)
    | (refine And.intro (a := noPtr _ = true) ?_ ?_; focus (simp []; done))
    | (refine And.intro (a := D.isPtr _ = false) ?_ ?_; focus (simp []; done))
    | refine Exists.intro _ (And.intro (Or.inl rfl) ?_)
    | refine Exists.intro _ (And.intro (Or.inr rfl) ?_)
    | (refine And.intro (a := isLst _ _ = true) ?_ ?_; focus (simp []; done))
    | (refine And.intro (a := isDct _ _ = true) ?_ ?_; focus (simp []; done))
    | (refine And.intro (a := List.length _ ≤ 15) ?_ ?_; focus (first | exact Nat.le_of_ble_eq_true rfl | (simp []; done)))
    | (refine And.intro (a := List.length _ ≤ lim) ?_ ?_; focus (first | exact Nat.le_of_ble_eq_true rfl | (simp []; done)))
    | refine W.turn ?_
    | (refine IfB.i (fun _ => ?_) (fun (e : _ = false) => False.elim ?_); rotate_left; focus (simp [] at e; done))
    | (refine IfB.i (fun (e : _ = true) => False.elim ?_) (fun _ => ?_); focus (simp [] at e; done))
    | refine And.intro (fun _ => ?_) (fun (z : true = false) => nomatch z)
    | refine And.intro (fun (z : false = true) => nomatch z) (fun _ => ?_)
    )
  refine W.mono (run_value (T := []) k r0 3 _ p0.1 (by simp; omega) hd1) ?_
  rintro _ S2 ⟨v, rfl, hv, hh, hd2⟩
  have hbv := bare_dep v
  have hgv := has_gv _ _ hh
  have hm := goes_mono (r0 := r0) (r1 := r1) (r2 := r2) (r3 := r3) (r4 := r4) (v := v.bare)
  have j1 := mdep' (a := r3.my) (b := r4.my) (by rw [r3.my_dep]; exact w3) (by rw [r4.my_dep]; exact w4)
  have j2 := mdep' (a := r2.my) (by rw [r2.my_dep]; exact w2) j1
  have j3 := mdep' (a := r1.my) (by rw [r1.my_dep]; exact w1) j2
  have j4 := mdep' (a := r0.my) (by rw [r0.my_dep]; exact w0) j3
  have l3 := mdep' (a := r0.my) (by rw [r0.my_dep]; exact w0) f12
  repeat (first
    | refine W.skip (s := .if_ _ (.cons (.ret (.con (.bl false))) .nil) .nil) ?_ ?_
    | refine Go.go ?_
    | refine W.eq (run_bare _ _ _ (by omega) (by omega)) ?_
    | refine W.eq (all3 (by omega) w0 w1 w2 a01 a12) ?_
    | (refine Fin.data ?_ ?_; focus (simp []; done))
    | (refine fun r (hr : _ = r) => ?_; (try simp [] at hr); subst hr; first | refine OQ.is ?_ | refine W.ret ?_ | skip)
    | refine Exists.intro _ (And.intro rfl ?_)
    | (refine And.intro (a := noPtr _ = true) ?_ ?_; focus (simp []; done))
    | (refine And.intro (a := D.isPtr _ = false) ?_ ?_; focus (simp []; done))
    | refine Exists.intro _ (And.intro (Or.inl rfl) ?_)
    | refine Exists.intro _ (And.intro (Or.inr rfl) ?_)
    | (refine And.intro (a := isLst _ _ = true) ?_ ?_; focus (simp []; done))
    | (refine And.intro (a := isDct _ _ = true) ?_ ?_; focus (simp []; done))
    | (refine And.intro (a := List.length _ ≤ 15) ?_ ?_; focus (first | exact Nat.le_of_ble_eq_true rfl | (simp []; done)))
    | (refine And.intro (a := List.length _ ≤ lim) ?_ ?_; focus (first | exact Nat.le_of_ble_eq_true rfl | (simp []; done)))
    | refine W.turn ?_
    | (refine IfB.i (fun _ => ?_) (fun (e : _ = false) => False.elim ?_); rotate_left; focus (simp [] at e; done))
    | (refine IfB.i (fun (e : _ = true) => False.elim ?_) (fun _ => ?_); focus (simp [] at e; done))
    | refine And.intro (fun _ => ?_) (fun (z : true = false) => nomatch z)
    | refine And.intro (fun (z : false = true) => nomatch z) (fun _ => ?_)
    )
  · cases ew : gv v.bare (r0.my.mm (r1.my.mm (r2.my.mm (r3.my.mm r4.my))))
    · repeat (first
        | refine Go.go ?_
        | refine W.eq (run_goes _ _ _ _ (by omega) (by omega)) ?_
        | (refine Fin.data ?_ ?_; focus (simp [ew]; done))
        | (refine fun r (hr : _ = r) => ?_; (try simp [ew] at hr); subst hr; first | refine OQ.is ?_ | refine W.ret ?_ | skip)
        | refine Exists.intro _ (And.intro rfl ?_)
        | (refine And.intro (a := noPtr _ = true) ?_ ?_; focus (simp [ew]; done))
        | (refine And.intro (a := D.isPtr _ = false) ?_ ?_; focus (simp [ew]; done))
        | refine Exists.intro _ (And.intro (Or.inl rfl) ?_)
        | refine Exists.intro _ (And.intro (Or.inr rfl) ?_)
        | (refine And.intro (a := isLst _ _ = true) ?_ ?_; focus (simp [ew]; done))
        | (refine And.intro (a := isDct _ _ = true) ?_ ?_; focus (simp [ew]; done))
        | (refine And.intro (a := List.length _ ≤ 15) ?_ ?_; focus (first | exact Nat.le_of_ble_eq_true rfl | (simp [ew]; done)))
        | (refine And.intro (a := List.length _ ≤ lim) ?_ ?_; focus (first | exact Nat.le_of_ble_eq_true rfl | (simp [ew]; done)))
        | refine W.turn ?_
        | (refine IfB.i (fun _ => ?_) (fun (e : _ = false) => False.elim ?_); rotate_left; focus (simp [ew] at e; done))
        | (refine IfB.i (fun (e : _ = true) => False.elim ?_) (fun _ => ?_); focus (simp [ew] at e; done))
        | refine And.intro (fun _ => ?_) (fun (z : true = false) => nomatch z)
        | refine And.intro (fun (z : false = true) => nomatch z) (fun _ => ?_)
        )
      repeat (first
        | refine Go.go ?_
        | refine W.eq (all1 (by omega) w0) ?_
        | refine W.eq (goes_ty (by omega) (by omega)) ?_
        | (refine Fin.data ?_ ?_; focus (simp [ew, hgv]; done))
        | (refine fun r (hr : _ = r) => ?_; (try simp [ew, hgv] at hr); subst hr; first | refine OQ.is ?_ | refine W.ret ?_ | skip)
        | refine Exists.intro _ (And.intro rfl ?_)
        | (refine And.intro (a := noPtr _ = true) ?_ ?_; focus (simp [ew, hgv]; done))
        | (refine And.intro (a := D.isPtr _ = false) ?_ ?_; focus (simp [ew, hgv]; done))
        | refine Exists.intro _ (And.intro (Or.inl rfl) ?_)
        | refine Exists.intro _ (And.intro (Or.inr rfl) ?_)
        | (refine And.intro (a := isLst _ _ = true) ?_ ?_; focus (simp [ew, hgv]; done))
        | (refine And.intro (a := isDct _ _ = true) ?_ ?_; focus (simp [ew, hgv]; done))
        | (refine And.intro (a := List.length _ ≤ 15) ?_ ?_; focus (first | exact Nat.le_of_ble_eq_true rfl | (simp [ew, hgv]; done)))
        | (refine And.intro (a := List.length _ ≤ lim) ?_ ?_; focus (first | exact Nat.le_of_ble_eq_true rfl | (simp [ew, hgv]; done)))
        | refine W.turn ?_
        | (refine IfB.i (fun _ => ?_) (fun (e : _ = false) => False.elim ?_); rotate_left; focus (simp [ew, hgv] at e; done))
        | (refine IfB.i (fun (e : _ = true) => False.elim ?_) (fun _ => ?_); focus (simp [ew, hgv] at e; done))
        | refine And.intro (fun _ => ?_) (fun (z : true = false) => nomatch z)
        | refine And.intro (fun (z : false = true) => nomatch z) (fun _ => ?_)
        )
      exact ⟨rfl, rfl⟩
    · have ew2 := hm ew
      repeat (first
        | refine Go.go ?_
        | refine W.eq (run_goes _ _ _ _ (by omega) (by omega)) ?_
        | (refine Fin.data ?_ ?_; focus (simp [ew, ew2]; done))
        | (refine fun r (hr : _ = r) => ?_; (try simp [ew, ew2] at hr); subst hr; first | refine OQ.is ?_ | refine W.ret ?_ | skip)
        | refine Exists.intro _ (And.intro rfl ?_)
        | (refine And.intro (a := noPtr _ = true) ?_ ?_; focus (simp [ew, ew2]; done))
        | (refine And.intro (a := D.isPtr _ = false) ?_ ?_; focus (simp [ew, ew2]; done))
        | refine Exists.intro _ (And.intro (Or.inl rfl) ?_)
        | refine Exists.intro _ (And.intro (Or.inr rfl) ?_)
        | (refine And.intro (a := isLst _ _ = true) ?_ ?_; focus (simp [ew, ew2]; done))
        | (refine And.intro (a := isDct _ _ = true) ?_ ?_; focus (simp [ew, ew2]; done))
        | (refine And.intro (a := List.length _ ≤ 15) ?_ ?_; focus (first | exact Nat.le_of_ble_eq_true rfl | (simp [ew, ew2]; done)))
        | (refine And.intro (a := List.length _ ≤ lim) ?_ ?_; focus (first | exact Nat.le_of_ble_eq_true rfl | (simp [ew, ew2]; done)))
        | refine W.turn ?_
        | (refine IfB.i (fun _ => ?_) (fun (e : _ = false) => False.elim ?_); rotate_left; focus (simp [ew, ew2] at e; done))
        | (refine IfB.i (fun (e : _ = true) => False.elim ?_) (fun _ => ?_); focus (simp [ew, ew2] at e; done))
        | refine And.intro (fun _ => ?_) (fun (z : true = false) => nomatch z)
        | refine And.intro (fun (z : false = true) => nomatch z) (fun _ => ?_)
        )
      repeat (first
        | refine Go.go ?_
        | refine W.eq (all1 (by omega) w0) ?_
        | refine W.eq (goes_ty (by omega) (by omega)) ?_
        | (refine Fin.data ?_ ?_; focus (simp [ew, ew2, hgv]; done))
        | (refine fun r (hr : _ = r) => ?_; (try simp [ew, ew2, hgv] at hr); subst hr; first | refine OQ.is ?_ | refine W.ret ?_ | skip)
        | refine Exists.intro _ (And.intro rfl ?_)
        | (refine And.intro (a := noPtr _ = true) ?_ ?_; focus (simp [ew, ew2, hgv]; done))
        | (refine And.intro (a := D.isPtr _ = false) ?_ ?_; focus (simp [ew, ew2, hgv]; done))
        | refine Exists.intro _ (And.intro (Or.inl rfl) ?_)
        | refine Exists.intro _ (And.intro (Or.inr rfl) ?_)
        | (refine And.intro (a := isLst _ _ = true) ?_ ?_; focus (simp [ew, ew2, hgv]; done))
        | (refine And.intro (a := isDct _ _ = true) ?_ ?_; focus (simp [ew, ew2, hgv]; done))
        | (refine And.intro (a := List.length _ ≤ 15) ?_ ?_; focus (first | exact Nat.le_of_ble_eq_true rfl | (simp [ew, ew2, hgv]; done)))
        | (refine And.intro (a := List.length _ ≤ lim) ?_ ?_; focus (first | exact Nat.le_of_ble_eq_true rfl | (simp [ew, ew2, hgv]; done)))
        | refine W.turn ?_
        | (refine IfB.i (fun _ => ?_) (fun (e : _ = false) => False.elim ?_); rotate_left; focus (simp [ew, ew2, hgv] at e; done))
        | (refine IfB.i (fun (e : _ = true) => False.elim ?_) (fun _ => ?_); focus (simp [ew, ew2, hgv] at e; done))
        | refine And.intro (fun _ => ?_) (fun (z : true = false) => nomatch z)
        | refine And.intro (fun (z : false = true) => nomatch z) (fun _ => ?_)
        )
      exact ⟨rfl, rfl⟩
  repeat (first
    | refine Go.go ?_
    | (refine Fin.data ?_ ?_; focus (simp []; done))
    | (refine fun r (hr : _ = r) => ?_; (try simp [] at hr); subst hr; first | refine OQ.is ?_ | refine W.ret ?_ | skip)
    | refine Exists.intro _ (And.intro rfl ?_)
    | (refine And.intro (a := noPtr _ = true) ?_ ?_; focus (simp []; done))
    | (refine And.intro (a := D.isPtr _ = false) ?_ ?_; focus (simp []; done))
    | refine Exists.intro _ (And.intro (Or.inl rfl) ?_)
    | refine Exists.intro _ (And.intro (Or.inr rfl) ?_)
    | (refine And.intro (a := isLst _ _ = true) ?_ ?_; focus (simp []; done))
    | (refine And.intro (a := isDct _ _ = true) ?_ ?_; focus (simp []; done))
    | (refine And.intro (a := List.length _ ≤ 15) ?_ ?_; focus (first | exact Nat.le_of_ble_eq_true rfl | (simp []; done)))
    | (refine And.intro (a := List.length _ ≤ lim) ?_ ?_; focus (first | exact Nat.le_of_ble_eq_true rfl | (simp []; done)))
    | refine W.turn ?_
    | (refine IfB.i (fun _ => ?_) (fun (e : _ = false) => False.elim ?_); rotate_left; focus (simp [] at e; done))
    | (refine IfB.i (fun (e : _ = true) => False.elim ?_) (fun _ => ?_); focus (simp [] at e; done))
    | refine And.intro (fun _ => ?_) (fun (z : true = false) => nomatch z)
    | refine And.intro (fun (z : false = true) => nomatch z) (fun _ => ?_)
    )
  exact ⟨⟨_, _, _, _, _, _, _, _, _, _, _, _, _, _, _, _, rfl⟩, hd2⟩
theorem law_true : ∀ ns : List Int, ns.length ≤ 63 → callK look.P 100 18 [.lst (ns.map D.int)] [] = some (.bl true, []) := by
  intro ns hns
  refine W.get (call_law ?_)
  generalize hk : (99 : Nat) = k
  unfold b_law
  obtain ⟨k', rfl⟩ : ∃ j, k = j + 1 := ⟨k - 1, by omega⟩
  repeat (first
    | refine Go.go ?_
    | refine W.eq run_draws ?_
    | (refine Fin.data ?_ ?_; focus (simp []; done))
    | (refine fun r (hr : _ = r) => ?_; (try simp [] at hr); subst hr; first | refine OQ.is ?_ | refine W.ret ?_ | skip)
    | refine Exists.intro _ (And.intro rfl ?_)
    | (refine And.intro (a := noPtr _ = true) ?_ ?_; focus (simp []; done))
    | (refine And.intro (a := D.isPtr _ = false) ?_ ?_; focus (simp []; done))
    | refine Exists.intro _ (And.intro (Or.inl rfl) ?_)
    | refine Exists.intro _ (And.intro (Or.inr rfl) ?_)
    | (refine And.intro (a := isLst _ _ = true) ?_ ?_; focus (simp []; done))
    | (refine And.intro (a := isDct _ _ = true) ?_ ?_; focus (simp []; done))
    | (refine And.intro (a := List.length _ ≤ 15) ?_ ?_; focus (first | exact Nat.le_of_ble_eq_true rfl | (simp []; done)))
    | (refine And.intro (a := List.length _ ≤ lim) ?_ ?_; focus (first | exact Nat.le_of_ble_eq_true rfl | (simp []; done)))
    | refine W.turn ?_
    | (refine IfB.i (fun _ => ?_) (fun (e : _ = false) => False.elim ?_); rotate_left; focus (simp [] at e; done))
    | (refine IfB.i (fun (e : _ = true) => False.elim ?_) (fun _ => ?_); focus (simp [] at e; done))
    | refine And.intro (fun _ => ?_) (fun (z : true = false) => nomatch z)
    | refine And.intro (fun (z : false = true) => nomatch z) (fun _ => ?_)
    )
  refine W.mono (Q' := fun fl S' => (∃ env, fl = .nx env) ∧ DW [] S') ?_ ?_
  · repeat (first
      | refine Go.go ?_
      | (refine W.forInv (I := fun e S' => (∃ x2 x3 x4 x5 x6 x7 x8 x9 x10 x11 x12 x13 x14 x15 x16 x17, e = [some (.lst (ns.map D.int)), some (.ptr 0), x2, x3, x4, x5, x6, x7, x8, x9, x10, x11, x12, x13, x14, x15, x16, x17]) ∧ DW [] S') ?_ ?_ ?_)
      | (refine Fin.data ?_ ?_; focus (simp [rngD]; done))
      | (refine fun r (hr : _ = r) => ?_; (try simp [rngD] at hr); subst hr; first | refine OQ.is ?_ | refine W.ret ?_ | skip)
      | refine Exists.intro _ (And.intro rfl ?_)
      | (refine And.intro (a := noPtr _ = true) ?_ ?_; focus (simp [rngD]; done))
      | (refine And.intro (a := D.isPtr _ = false) ?_ ?_; focus (simp [rngD]; done))
      | refine Exists.intro _ (And.intro (Or.inl rfl) ?_)
      | refine Exists.intro _ (And.intro (Or.inr rfl) ?_)
      | (refine And.intro (a := isLst _ _ = true) ?_ ?_; focus (simp [rngD]; done))
      | (refine And.intro (a := isDct _ _ = true) ?_ ?_; focus (simp [rngD]; done))
      | (refine And.intro (a := List.length _ ≤ 15) ?_ ?_; focus (first | exact Nat.le_of_ble_eq_true rfl | (simp [rngD]; done)))
      | (refine And.intro (a := List.length _ ≤ lim) ?_ ?_; focus (first | exact Nat.le_of_ble_eq_true rfl | (simp [rngD]; done)))
      | refine W.turn ?_
      | (refine IfB.i (fun _ => ?_) (fun (e : _ = false) => False.elim ?_); rotate_left; focus (simp [rngD] at e; done))
      | (refine IfB.i (fun (e : _ = true) => False.elim ?_) (fun _ => ?_); focus (simp [rngD] at e; done))
      | refine And.intro (fun _ => ?_) (fun (z : true = false) => nomatch z)
      | refine And.intro (fun (z : false = true) => nomatch z) (fun _ => ?_)
      )
    · exact ⟨⟨_, _, _, _, _, _, _, _, _, _, _, _, _, _, _, _, rfl⟩, ns, 0, 0, 1, rfl, by decide, by decide, by decide⟩
    · rintro turn _ env S ⟨⟨x2, x3, x4, x5, x6, x7, x8, x9, x10, x11, x12, x13, x14, x15, x16, x17, rfl⟩, hd⟩
      refine W.fturn ?_
      repeat (first
        | refine Go.go ?_
        | (refine Fin.data ?_ ?_; focus (simp []; done))
        | (refine fun r (hr : _ = r) => ?_; (try simp [] at hr); subst hr; first | refine OQ.is ?_ | refine W.ret ?_ | skip)
        | refine Exists.intro _ (And.intro rfl ?_)
        | (refine And.intro (a := noPtr _ = true) ?_ ?_; focus (simp []; done))
        | (refine And.intro (a := D.isPtr _ = false) ?_ ?_; focus (simp []; done))
        | refine Exists.intro _ (And.intro (Or.inl rfl) ?_)
        | refine Exists.intro _ (And.intro (Or.inr rfl) ?_)
        | (refine And.intro (a := isLst _ _ = true) ?_ ?_; focus (simp []; done))
        | (refine And.intro (a := isDct _ _ = true) ?_ ?_; focus (simp []; done))
        | (refine And.intro (a := List.length _ ≤ 15) ?_ ?_; focus (first | exact Nat.le_of_ble_eq_true rfl | (simp []; done)))
        | (refine And.intro (a := List.length _ ≤ lim) ?_ ?_; focus (first | exact Nat.le_of_ble_eq_true rfl | (simp []; done)))
        | refine W.turn ?_
        | (refine IfB.i (fun _ => ?_) (fun (e : _ = false) => False.elim ?_); rotate_left; focus (simp [] at e; done))
        | (refine IfB.i (fun (e : _ = true) => False.elim ?_) (fun _ => ?_); focus (simp [] at e; done))
        | refine And.intro (fun _ => ?_) (fun (z : true = false) => nomatch z)
        | refine And.intro (fun (z : false = true) => nomatch z) (fun _ => ?_)
        )
      refine W.mono (run_type 2 3 _ _ rfl (by omega) hd) ?_
      rintro _ S1 ⟨base, rfl, hb, hd1⟩
      repeat (first
        | refine Go.go ?_
        | (refine Fin.data ?_ ?_; focus (simp []; done))
        | (refine fun r (hr : _ = r) => ?_; (try simp [] at hr); subst hr; first | refine OQ.is ?_ | refine W.ret ?_ | skip)
        | refine Exists.intro _ (And.intro rfl ?_)
        | (refine And.intro (a := noPtr _ = true) ?_ ?_; focus (simp []; done))
        | (refine And.intro (a := D.isPtr _ = false) ?_ ?_; focus (simp []; done))
        | refine Exists.intro _ (And.intro (Or.inl rfl) ?_)
        | refine Exists.intro _ (And.intro (Or.inr rfl) ?_)
        | (refine And.intro (a := isLst _ _ = true) ?_ ?_; focus (simp []; done))
        | (refine And.intro (a := isDct _ _ = true) ?_ ?_; focus (simp []; done))
        | (refine And.intro (a := List.length _ ≤ 15) ?_ ?_; focus (first | exact Nat.le_of_ble_eq_true rfl | (simp []; done)))
        | (refine And.intro (a := List.length _ ≤ lim) ?_ ?_; focus (first | exact Nat.le_of_ble_eq_true rfl | (simp []; done)))
        | refine W.turn ?_
        | (refine IfB.i (fun _ => ?_) (fun (e : _ = false) => False.elim ?_); rotate_left; focus (simp [] at e; done))
        | (refine IfB.i (fun (e : _ = true) => False.elim ?_) (fun _ => ?_); focus (simp [] at e; done))
        | refine And.intro (fun _ => ?_) (fun (z : true = false) => nomatch z)
        | refine And.intro (fun (z : false = true) => nomatch z) (fun _ => ?_)
        )
      refine W.mono (run_type 2 3 _ _ rfl (by omega) hd1) ?_
      rintro _ S2 ⟨far, rfl, hf, hd2⟩
      repeat (first
        | refine Go.go ?_
        | (refine Fin.data ?_ ?_; focus (simp []; done))
        | (refine fun r (hr : _ = r) => ?_; (try simp [] at hr); subst hr; first | refine OQ.is ?_ | refine W.ret ?_ | skip)
        | refine Exists.intro _ (And.intro rfl ?_)
        | (refine And.intro (a := noPtr _ = true) ?_ ?_; focus (simp []; done))
        | (refine And.intro (a := D.isPtr _ = false) ?_ ?_; focus (simp []; done))
        | refine Exists.intro _ (And.intro (Or.inl rfl) ?_)
        | refine Exists.intro _ (And.intro (Or.inr rfl) ?_)
        | (refine And.intro (a := isLst _ _ = true) ?_ ?_; focus (simp []; done))
        | (refine And.intro (a := isDct _ _ = true) ?_ ?_; focus (simp []; done))
        | (refine And.intro (a := List.length _ ≤ 15) ?_ ?_; focus (first | exact Nat.le_of_ble_eq_true rfl | (simp []; done)))
        | (refine And.intro (a := List.length _ ≤ lim) ?_ ?_; focus (first | exact Nat.le_of_ble_eq_true rfl | (simp []; done)))
        | refine W.turn ?_
        | (refine IfB.i (fun _ => ?_) (fun (e : _ = false) => False.elim ?_); rotate_left; focus (simp [] at e; done))
        | (refine IfB.i (fun (e : _ = true) => False.elim ?_) (fun _ => ?_); focus (simp [] at e; done))
        | refine And.intro (fun _ => ?_) (fun (z : true = false) => nomatch z)
        | refine And.intro (fun (z : false = true) => nomatch z) (fun _ => ?_)
        )
      refine W.mono (run_vaguer base _ _ (by omega) hd2) ?_
      rintro _ S3 ⟨one, rfl, h1, hd3⟩
      repeat (first
        | refine Go.go ?_
        | (refine Fin.data ?_ ?_; focus (simp []; done))
        | (refine fun r (hr : _ = r) => ?_; (try simp [] at hr); subst hr; first | refine OQ.is ?_ | refine W.ret ?_ | skip)
        | refine Exists.intro _ (And.intro rfl ?_)
        | (refine And.intro (a := noPtr _ = true) ?_ ?_; focus (simp []; done))
        | (refine And.intro (a := D.isPtr _ = false) ?_ ?_; focus (simp []; done))
        | refine Exists.intro _ (And.intro (Or.inl rfl) ?_)
        | refine Exists.intro _ (And.intro (Or.inr rfl) ?_)
        | (refine And.intro (a := isLst _ _ = true) ?_ ?_; focus (simp []; done))
        | (refine And.intro (a := isDct _ _ = true) ?_ ?_; focus (simp []; done))
        | (refine And.intro (a := List.length _ ≤ 15) ?_ ?_; focus (first | exact Nat.le_of_ble_eq_true rfl | (simp []; done)))
        | (refine And.intro (a := List.length _ ≤ lim) ?_ ?_; focus (first | exact Nat.le_of_ble_eq_true rfl | (simp []; done)))
        | refine W.turn ?_
        | (refine IfB.i (fun _ => ?_) (fun (e : _ = false) => False.elim ?_); rotate_left; focus (simp [] at e; done))
        | (refine IfB.i (fun (e : _ = true) => False.elim ?_) (fun _ => ?_); focus (simp [] at e; done))
        | refine And.intro (fun _ => ?_) (fun (z : true = false) => nomatch z)
        | refine And.intro (fun (z : false = true) => nomatch z) (fun _ => ?_)
        )
      refine W.mono (run_vaguer far _ _ (by omega) hd3) ?_
      rintro _ S4 ⟨two, rfl, h2, hd4⟩
      have b1 := h1.dep
      have b2 := h2.dep
      have go := fun (three : Ty) (S5 : Store) (h3 : three.dep ≤ 2) (hd5 : DW [] S5) => rest_ok (ns := ns) (one := one) (two := two) (x2 := some turn) (x3 := x3) (x4 := x4) (x5 := x5) (x6 := x6) (x7 := x7) (x8 := x8) (x9 := x9) (x10 := some base.d) (x11 := some far.d) (x15 := x15) (x16 := x16) (x17 := x17) (k := k' + 1) (by omega) (by omega) (by omega) (by omega) h3 hd5
      unfold restL at go
      dsimp only [b_law] at go
      repeat (first
        | refine Go.go ?_
        | (refine draw_any rfl hd4 (by decide) (by decide) fun v S' g1 g2 hd => ?_)
        | (refine Fin.data ?_ ?_; focus (simp []; done))
        | (refine fun r (hr : _ = r) => ?_; (try simp [] at hr); subst hr; first | refine OQ.is ?_ | refine W.ret ?_ | skip)
        | refine Exists.intro _ (And.intro rfl ?_)
        | (refine And.intro (a := noPtr _ = true) ?_ ?_; focus (simp []; done))
        | (refine And.intro (a := D.isPtr _ = false) ?_ ?_; focus (simp []; done))
        | refine Exists.intro _ (And.intro (Or.inl rfl) ?_)
        | refine Exists.intro _ (And.intro (Or.inr rfl) ?_)
        | (refine And.intro (a := isLst _ _ = true) ?_ ?_; focus (simp []; done))
        | (refine And.intro (a := isDct _ _ = true) ?_ ?_; focus (simp []; done))
        | (refine And.intro (a := List.length _ ≤ 15) ?_ ?_; focus (first | exact Nat.le_of_ble_eq_true rfl | (simp []; done)))
        | (refine And.intro (a := List.length _ ≤ lim) ?_ ?_; focus (first | exact Nat.le_of_ble_eq_true rfl | (simp []; done)))
        | refine W.turn ?_
        | (refine IfB.i (fun _ => ?_) (fun (e : _ = false) => False.elim ?_); rotate_left; focus (simp [] at e; done))
        | (refine IfB.i (fun (e : _ = true) => False.elim ?_) (fun _ => ?_); focus (simp [] at e; done))
        | refine And.intro (fun _ => ?_) (fun (z : true = false) => nomatch z)
        | refine And.intro (fun (z : false = true) => nomatch z) (fun _ => ?_)
        )
      refine IfB.i (fun e => ?_) (fun e => ?_)
      · repeat (first
          | refine Go.go ?_
          | (refine Fin.data ?_ ?_; focus (simp []; done))
          | (refine fun r (hr : _ = r) => ?_; (try simp [] at hr); subst hr; first | refine OQ.is ?_ | refine W.ret ?_ | skip)
          | refine Exists.intro _ (And.intro rfl ?_)
          | (refine And.intro (a := noPtr _ = true) ?_ ?_; focus (simp []; done))
          | (refine And.intro (a := D.isPtr _ = false) ?_ ?_; focus (simp []; done))
          | refine Exists.intro _ (And.intro (Or.inl rfl) ?_)
          | refine Exists.intro _ (And.intro (Or.inr rfl) ?_)
          | (refine And.intro (a := isLst _ _ = true) ?_ ?_; focus (simp []; done))
          | (refine And.intro (a := isDct _ _ = true) ?_ ?_; focus (simp []; done))
          | (refine And.intro (a := List.length _ ≤ 15) ?_ ?_; focus (first | exact Nat.le_of_ble_eq_true rfl | (simp []; done)))
          | (refine And.intro (a := List.length _ ≤ lim) ?_ ?_; focus (first | exact Nat.le_of_ble_eq_true rfl | (simp []; done)))
          | refine W.turn ?_
          | (refine IfB.i (fun _ => ?_) (fun (e : _ = false) => False.elim ?_); rotate_left; focus (simp [] at e; done))
          | (refine IfB.i (fun (e : _ = true) => False.elim ?_) (fun _ => ?_); focus (simp [] at e; done))
          | refine And.intro (fun _ => ?_) (fun (z : true = false) => nomatch z)
          | refine And.intro (fun (z : false = true) => nomatch z) (fun _ => ?_)
          )
        refine W.mono (run_vaguer base _ _ (by omega) hd) ?_
        rintro _ S5 ⟨three, rfl, h3, hd5⟩
        have b3 := h3.dep
        repeat (first
          | exact go three S5 (by omega) hd5
          | refine Go.go ?_
          | (refine Fin.data ?_ ?_; focus (simp []; done))
          | (refine fun r (hr : _ = r) => ?_; (try simp [] at hr); subst hr; first | refine OQ.is ?_ | refine W.ret ?_ | skip)
          | refine Exists.intro _ (And.intro rfl ?_)
          | (refine And.intro (a := noPtr _ = true) ?_ ?_; focus (simp []; done))
          | (refine And.intro (a := D.isPtr _ = false) ?_ ?_; focus (simp []; done))
          | refine Exists.intro _ (And.intro (Or.inl rfl) ?_)
          | refine Exists.intro _ (And.intro (Or.inr rfl) ?_)
          | (refine And.intro (a := isLst _ _ = true) ?_ ?_; focus (simp []; done))
          | (refine And.intro (a := isDct _ _ = true) ?_ ?_; focus (simp []; done))
          | (refine And.intro (a := List.length _ ≤ 15) ?_ ?_; focus (first | exact Nat.le_of_ble_eq_true rfl | (simp []; done)))
          | (refine And.intro (a := List.length _ ≤ lim) ?_ ?_; focus (first | exact Nat.le_of_ble_eq_true rfl | (simp []; done)))
          | refine W.turn ?_
          | (refine IfB.i (fun _ => ?_) (fun (e : _ = false) => False.elim ?_); rotate_left; focus (simp [] at e; done))
          | (refine IfB.i (fun (e : _ = true) => False.elim ?_) (fun _ => ?_); focus (simp [] at e; done))
          | refine And.intro (fun _ => ?_) (fun (z : true = false) => nomatch z)
          | refine And.intro (fun (z : false = true) => nomatch z) (fun _ => ?_)
          )
      · repeat (first
          | refine Go.go ?_
          | (refine Fin.data ?_ ?_; focus (simp []; done))
          | (refine fun r (hr : _ = r) => ?_; (try simp [] at hr); subst hr; first | refine OQ.is ?_ | refine W.ret ?_ | skip)
          | refine Exists.intro _ (And.intro rfl ?_)
          | (refine And.intro (a := noPtr _ = true) ?_ ?_; focus (simp []; done))
          | (refine And.intro (a := D.isPtr _ = false) ?_ ?_; focus (simp []; done))
          | refine Exists.intro _ (And.intro (Or.inl rfl) ?_)
          | refine Exists.intro _ (And.intro (Or.inr rfl) ?_)
          | (refine And.intro (a := isLst _ _ = true) ?_ ?_; focus (simp []; done))
          | (refine And.intro (a := isDct _ _ = true) ?_ ?_; focus (simp []; done))
          | (refine And.intro (a := List.length _ ≤ 15) ?_ ?_; focus (first | exact Nat.le_of_ble_eq_true rfl | (simp []; done)))
          | (refine And.intro (a := List.length _ ≤ lim) ?_ ?_; focus (first | exact Nat.le_of_ble_eq_true rfl | (simp []; done)))
          | refine W.turn ?_
          | (refine IfB.i (fun _ => ?_) (fun (e : _ = false) => False.elim ?_); rotate_left; focus (simp [] at e; done))
          | (refine IfB.i (fun (e : _ = true) => False.elim ?_) (fun _ => ?_); focus (simp [] at e; done))
          | refine And.intro (fun _ => ?_) (fun (z : true = false) => nomatch z)
          | refine And.intro (fun (z : false = true) => nomatch z) (fun _ => ?_)
          )
        refine W.mono (run_vaguer far _ _ (by omega) hd) ?_
        rintro _ S5 ⟨three, rfl, h3, hd5⟩
        have b3 := h3.dep
        repeat (first
          | exact go three S5 (by omega) hd5
          | refine Go.go ?_
          | (refine Fin.data ?_ ?_; focus (simp []; done))
          | (refine fun r (hr : _ = r) => ?_; (try simp [] at hr); subst hr; first | refine OQ.is ?_ | refine W.ret ?_ | skip)
          | refine Exists.intro _ (And.intro rfl ?_)
          | (refine And.intro (a := noPtr _ = true) ?_ ?_; focus (simp []; done))
          | (refine And.intro (a := D.isPtr _ = false) ?_ ?_; focus (simp []; done))
          | refine Exists.intro _ (And.intro (Or.inl rfl) ?_)
          | refine Exists.intro _ (And.intro (Or.inr rfl) ?_)
          | (refine And.intro (a := isLst _ _ = true) ?_ ?_; focus (simp []; done))
          | (refine And.intro (a := isDct _ _ = true) ?_ ?_; focus (simp []; done))
          | (refine And.intro (a := List.length _ ≤ 15) ?_ ?_; focus (first | exact Nat.le_of_ble_eq_true rfl | (simp []; done)))
          | (refine And.intro (a := List.length _ ≤ lim) ?_ ?_; focus (first | exact Nat.le_of_ble_eq_true rfl | (simp []; done)))
          | refine W.turn ?_
          | (refine IfB.i (fun _ => ?_) (fun (e : _ = false) => False.elim ?_); rotate_left; focus (simp [] at e; done))
          | (refine IfB.i (fun (e : _ = true) => False.elim ?_) (fun _ => ?_); focus (simp [] at e; done))
          | refine And.intro (fun _ => ?_) (fun (z : true = false) => nomatch z)
          | refine And.intro (fun (z : false = true) => nomatch z) (fun _ => ?_)
          )
    · rintro e S' ⟨⟨x2, x3, x4, x5, x6, x7, x8, x9, x10, x11, x12, x13, x14, x15, x16, x17, rfl⟩, hd⟩
      exact ⟨⟨_, rfl⟩, hd⟩
  · rintro _ S' ⟨⟨env, rfl⟩, hd⟩
    repeat (first
      | refine Go.go ?_
      | (refine Fin.data ?_ ?_; focus (simp []; done))
      | (refine fun r (hr : _ = r) => ?_; (try simp [] at hr); subst hr; first | refine OQ.is ?_ | refine W.ret ?_ | skip)
      | refine Exists.intro _ (And.intro rfl ?_)
      | (refine And.intro (a := noPtr _ = true) ?_ ?_; focus (simp []; done))
      | (refine And.intro (a := D.isPtr _ = false) ?_ ?_; focus (simp []; done))
      | refine Exists.intro _ (And.intro (Or.inl rfl) ?_)
      | refine Exists.intro _ (And.intro (Or.inr rfl) ?_)
      | (refine And.intro (a := isLst _ _ = true) ?_ ?_; focus (simp []; done))
      | (refine And.intro (a := isDct _ _ = true) ?_ ?_; focus (simp []; done))
      | (refine And.intro (a := List.length _ ≤ 15) ?_ ?_; focus (first | exact Nat.le_of_ble_eq_true rfl | (simp []; done)))
      | (refine And.intro (a := List.length _ ≤ lim) ?_ ?_; focus (first | exact Nat.le_of_ble_eq_true rfl | (simp []; done)))
      | refine W.turn ?_
      | (refine IfB.i (fun _ => ?_) (fun (e : _ = false) => False.elim ?_); rotate_left; focus (simp [] at e; done))
      | (refine IfB.i (fun (e : _ = true) => False.elim ?_) (fun _ => ?_); focus (simp [] at e; done))
      | refine And.intro (fun _ => ?_) (fun (z : true = false) => nomatch z)
      | refine And.intro (fun (z : false = true) => nomatch z) (fun _ => ?_)
      )
    exact ⟨rfl, by simp⟩
end PC

set_option Elab.async false
set_option linter.all false
set_option maxRecDepth 1000000
set_option maxHeartbeats 0
namespace PC
open PySem PySem.Spec PyProof.Rows L2
/-! the head, printed by tail.py -/
abbrev Rw : PySem.W.OpenRow := PySem.W.OpenLaw.row PySem.Challenge.rw_blamekeep_k40_whole_triples_in_any_order
abbrev hk : PySem.W.Hook := look.hook 32
def ob (s : PySem.W.SharedT) : He.AlT := look.obsG 32 (HandSHeadRun.getT s)
theorem ob_eq (s : PySem.W.SharedT) : ob s = hk.obs s.abs := Look.obsG_eq (HandSHeadRun.getT_eq s)
def loose0 : List PySem.Str := ["ANY", "__name__", "meet", "NEVER", "middle_meet", "triple", "joined", "joined_all", "tells", "goes", "_law_draws", "_law_draw", "_law_same", "_law_type", "_law_vaguer", "_law_alike", "_law_finer", "_law_value", "_law_plain", "_law_plain_chain", "_law_bare"]
def loose : List PySem.Str := loose0
theorem runF (w : World) : HandSHeadRun.RunEq Rw (PySem.W.view Rw.prog [23]) hk ob 4000 loose (w.withFollow "special-get-raises" false) := by
  intro os
  kernel_rfl
theorem runT (w : World) : HandSHeadRun.RunEq Rw (PySem.W.view Rw.prog [23]) hk ob 4000 loose (w.withFollow "special-get-raises" true) := by
  intro os
  kernel_rfl
theorem run (w : World) : HandSHeadRun.RunEq Rw (PySem.W.view Rw.prog [23]) hk ob 4000 loose w := PySem.W.byRow2 "special-get-raises" (P := fun w => HandSHeadRun.RunEq Rw (PySem.W.view Rw.prog [23]) hk ob 4000 loose w) runF runT w
end PC
open PySem PySem.W PySem.Calls PyProof.Rows
theorem PySem.Challenge.cw_blamekeep_k40_whole_triples_in_any_order_holds : PySem.Challenge.rw_blamekeep_k40_whole_triples_in_any_order.Holds := by
  w_on; o_law
  refine HandSHeadRun.head_any (r := OpenLaw.row PySem.Challenge.rw_blamekeep_k40_whole_triples_in_any_order) (q := view (OpenLaw.row PySem.Challenge.rw_blamekeep_k40_whole_triples_in_any_order).prog [23]) (H := PC.hk) (ob := PC.ob) (M := 4000) (loose := PC.loose) (d := HandSHeadRun.topDef (OpenLaw.row PySem.Challenge.rw_blamekeep_k40_whole_triples_in_any_order).prog 23) (kwd := []) PC.ob_eq
    (by kernel_rfl) (fun s => by kernel_rfl) PC.run (by kernel_rfl) (by kernel_rfl) (by kernel_rfl) (by rfl) (by first | assumption | decide +kernel) (by decide +kernel) ⟨rfl, rfl, rfl, rfl, rfl, by decide +kernel⟩ ?hw ?hc
  case hw => w_witness2
  case hc =>
    exact PC.law_end (l := PySem.Challenge.rw_blamekeep_k40_whole_triples_in_any_order) (L := PC.look) (k := 100) (f := 18) (x := "script") (di := PC.d_law) PC.look_ok rfl (by kernel_rfl) ⟨by decide, by decide, by decide⟩ rfl rfl (by kernel_rfl) PC.law_true

