import PyProof.Rows.All
import Wide.All
import OpenK.AllK
import Wide.FinOn
import HandS.ForMost
import HandS.ForExc
import HandS.Wide
import HandS.TupAny
import HandS.TupMul
import HandS.Style
import KE.DataEq
import HandS.Ends
import PySem.Challenge.RW_leastahead_k50_words_of_blocks
set_option Elab.async false
set_option linter.all false
set_option maxRecDepth 100000
set_option maxHeartbeats 4000000
section
namespace DL
open PySem PySem.Spec L2

abbrev D := PyData
abbrev KF := PySem.W.Frag

/-! ### data at values -/
def keyOf : D → Option Key
  | .int i => some (Sum.inl i)
  | .str x => some (Sum.inr x)
  | _ => Option.none

mutual
def At (K : KF) (G : Hp) : V → D → Prop
  | v, .none => v = .non
  | v, .bool b => v = .bl b
  | v, .int i => v = .int i
  | v, .str x => v = .str x
  | v, .list ds => ∃ a vs, v = .ref a ∧ G a = some (.lst vs) ∧ AtL K G vs ds
  | v, .tuple ds => ∃ a vs, v = .ref a ∧ SqT K G a vs ∧ AtL K G vs ds
  | v, .dict kvs => ∃ a kv, v = .ref a ∧ G a = some (.dK kv) ∧ AtK K G kv kvs
def AtL (K : KF) (G : Hp) : List V → List D → Prop
  | vs, [] => vs = []
  | vs, d :: ds => ∃ v r, vs = v :: r ∧ At K G v d ∧ AtL K G r ds
def AtK (K : KF) (G : Hp) : List (Key × V) → List (D × D) → Prop
  | kv, [] => kv = []
  | kv, (k, d) :: ds => ∃ q v r, kv = (q, v) :: r ∧ keyOf k = some q ∧ At K G v d ∧ AtK K G r ds
end

theorem SqT.grow {K : KF} {G G' : Hp} {a : Addr} {xs : List V} (s : Same G G') (h : SqT K G a xs) : SqT K G' a xs := by
  rcases h with (h | ⟨o, h⟩) | h
  · exact .inl (.inl (s _ _ h))
  · exact .inl (.inr ⟨o, s _ _ h⟩)
  · exact .inr h

mutual
theorem At.mono {K : KF} {G G' : Hp} (s : Same G G') : ∀ (d : D) (v : V), At K G v d → At K G' v d
  | .none, _, h => h
  | .bool _, _, h => h
  | .int _, _, h => h
  | .str _, _, h => h
  | .list ds, _, ⟨a, vs, e, q, l⟩ => ⟨a, vs, e, s _ _ q, AtL.mono s ds vs l⟩
  | .tuple ds, _, ⟨a, vs, e, q, l⟩ => ⟨a, vs, e, SqT.grow s q, AtL.mono s ds vs l⟩
  | .dict kvs, _, ⟨a, kv, e, q, l⟩ => ⟨a, kv, e, s _ _ q, AtK.mono s kvs kv l⟩
theorem AtL.mono {K : KF} {G G' : Hp} (s : Same G G') : ∀ (ds : List D) (vs : List V), AtL K G vs ds → AtL K G' vs ds
  | [], _, h => h
  | d :: ds, _, ⟨v, r, e, h1, h2⟩ => ⟨v, r, e, At.mono s d v h1, AtL.mono s ds r h2⟩
theorem AtK.mono {K : KF} {G G' : Hp} (s : Same G G') : ∀ (ds : List (D × D)) (kv : List (Key × V)), AtK K G kv ds → AtK K G' kv ds
  | [], _, h => h
  | (k, d) :: ds, _, ⟨q, v, r, e, h0, h1, h2⟩ => ⟨q, v, r, e, h0, At.mono s d v h1, AtK.mono s ds r h2⟩
end

theorem AtL.length {K : KF} {G : Hp} : ∀ {ds : List D} {vs : List V}, AtL K G vs ds → vs.length = ds.length
  | [], _, h => by rw [show _ = _ from h]; rfl
  | d :: ds, _, ⟨v, r, e, _, h2⟩ => by subst e; simp [AtL.length h2]
theorem AtL.get {K : KF} {G : Hp} : ∀ {ds : List D} {vs : List V} {i : Nat} {d : D}, AtL K G vs ds → ds[i]? = some d → ∃ v, vs[i]? = some v ∧ At K G v d
  | [], _, _, _, _, e => by simp at e
  | d :: ds, _, 0, x, ⟨v, r, e, h1, _⟩, q => by subst e; simp at q; subst q; exact ⟨v, rfl, h1⟩
  | d :: ds, _, i + 1, x, ⟨v, r, e, _, h2⟩, q => by
    subst e
    obtain ⟨u, a, b⟩ := AtL.get (i := i) (d := x) h2 (by simpa using q)
    exact ⟨u, by simpa using a, b⟩
theorem AtL.app {K : KF} {G : Hp} : ∀ {ds es : List D} {vs us : List V}, AtL K G vs ds → AtL K G us es → AtL K G (vs ++ us) (ds ++ es)
  | [], _, _, _, h, k => by rw [show _ = _ from h]; exact k
  | d :: ds, _, _, _, ⟨v, r, e, h1, h2⟩, k => by subst e; exact ⟨v, r ++ _, rfl, h1, AtL.app h2 k⟩
theorem AtL.nil {K : KF} {G : Hp} : AtL K G [] [] := rfl
theorem AtL.one {K : KF} {G : Hp} {v : V} {d : D} (h : At K G v d) : AtL K G [v] [d] := ⟨v, [], rfl, h, rfl⟩
theorem AtL.set {K : KF} {G : Hp} : ∀ {ds : List D} {vs : List V} {i : Nat} {v : V} {d : D}, AtL K G vs ds → At K G v d → AtL K G (vs.set i v) (ds.set i d)
  | [], _, _, _, _, h, _ => by rw [show _ = _ from h]; rfl
  | d :: ds, _, 0, _, _, ⟨v, r, e, _, h2⟩, k => by subst e; exact ⟨_, _, rfl, k, h2⟩
  | d :: ds, _, i + 1, _, _, ⟨v, r, e, h1, h2⟩, k => by subst e; exact ⟨_, _, rfl, h1, AtL.set h2 k⟩
theorem AtL.take {K : KF} {G : Hp} : ∀ (n : Nat) {ds : List D} {vs : List V}, AtL K G vs ds → AtL K G (vs.take n) (ds.take n)
  | 0, _, _, _ => rfl
  | n + 1, [], _, h => by rw [show _ = _ from h]; rfl
  | n + 1, d :: ds, _, ⟨v, r, e, h1, h2⟩ => by subst e; exact ⟨_, _, rfl, h1, AtL.take n h2⟩
theorem AtL.drop {K : KF} {G : Hp} : ∀ (n : Nat) {ds : List D} {vs : List V}, AtL K G vs ds → AtL K G (vs.drop n) (ds.drop n)
  | 0, _, _, h => h
  | n + 1, [], _, h => by rw [show _ = _ from h]; rfl
  | n + 1, d :: ds, _, ⟨v, r, e, h1, h2⟩ => by subst e; exact AtL.drop n h2
theorem AtL.rev {K : KF} {G : Hp} : ∀ {ds : List D} {vs : List V}, AtL K G vs ds → AtL K G vs.reverse ds.reverse
  | [], _, h => by rw [show _ = _ from h]; rfl
  | d :: ds, _, ⟨v, r, e, h1, h2⟩ => by
    subst e; rw [List.reverse_cons, List.reverse_cons]; exact AtL.app (AtL.rev h2) (AtL.one h1)

/-! ### exceptions as data -/
structure XD where
  cls : Addr
  fs : List (Str × D)
def AtF (K : KF) (G : Hp) : List (Str × V) → List (Str × D) → Prop
  | [], [] => True
  | (n, v) :: r, (m, d) :: s => n = m ∧ At K G v d ∧ AtF K G r s
  | _, _ => False
theorem AtF.mono {K : KF} {G G' : Hp} (s : Same G G') : ∀ {vs : List (Str × V)} {ds : List (Str × D)}, AtF K G vs ds → AtF K G' vs ds
  | [], [], h => h
  | (n, v) :: r, (m, d) :: q, ⟨a, b, c⟩ => ⟨a, At.mono s _ _ b, AtF.mono s c⟩
/-- an exception that stays: its class, its own dict -/
def exO (a C : Addr) (d : Option Addr) : HO := .ext fun h => ∃ (oe : Obj) (vs : Array Value), h.get? a = some oe ∧ Zc (.ref C) d oe ∧ oe.data = .fields vs
def AtX (K : KF) (G : Hp) (v : V) (x : XD) : Prop := ∃ a d, v = .ref a ∧ G a = some (exO a x.cls d) ∧ ((x.fs = [] ∧ d = none) ∨ ∃ dd vfs, d = some dd ∧ G dd = some (.xd vfs) ∧ AtF K G vfs x.fs)
theorem AtX.mono {K : KF} {G G' : Hp} {v : V} {x : XD} (s : Same G G') (h : AtX K G v x) : AtX K G' v x := by
  obtain ⟨a, d, e, h1, h2⟩ := h
  refine ⟨a, d, e, s _ _ h1, ?_⟩
  rcases h2 with h2 | ⟨dd, vfs, e1, e2, e3⟩
  · exact .inl h2
  · exact .inr ⟨dd, vfs, e1, s _ _ e2, e3.mono s⟩
/-! ### the abstract state -/
/-- what a mutable thing holds -/
inductive C where
  | lst (xs : List D)
  | dct (kvs : List (D × D))
/-- what a slot or a temporary holds: a datum (never changed again), a bare value, a container that nothing else points to, a cell of the memory, a slot's container, the script -/
inductive T where
  | d (x : D)
  | v (x : V)
  | con (c : C)
  | ref (n : Nat)
  | bor (i : Nat)
  | scr (ns : List Int)
  | exn (x : XD)
  | st (φ : KF → Hp → V → Prop)
abbrev Env := List (Option T)
abbrev Mem := List C
def T.isBor : T → Bool
  | .bor _ => true
  | _ => false
inductive Who where
  | slot (k i : Nat)
  | tmp (k i : Nat)
  | cell (n : Nat)
structure Fram where
  σ : St
  δ : Env
  τ : List (V × T)

def RC (K : KF) (H G : Hp) (a : Addr) : C → Prop
  | .lst ds => ∃ vs, H a = some (.lst vs) ∧ AtL K G vs ds
  | .dct kvs => ∃ kv, H a = some (.dK kv) ∧ AtK K G kv kvs
def RT (K : KF) (H G : Hp) (ow : Addr → Option Who) (ι : List Addr) (σ : St) (w : Who) (v : V) : T → Prop
  | .d x => At K G v x
  | .v x => v = x
  | .con c => ∃ a, v = .ref a ∧ ow a = some w ∧ RC K H G a c
  | .ref n => ∃ a, v = .ref a ∧ ι[n]? = some a
  | .bor i => σ[i]? = some (some v)
  | .scr ns => ∃ a, v = .ref a ∧ SqL K G a (ns.map V.int)
  | .exn x => AtX K G v x
  | .st φ => ∀ G', Same G G' → φ K G' v
def RTs (K : KF) (H G : Hp) (ow : Addr → Option Who) (ι : List Addr) (σ : St) (k : Nat) : List (V × T) → Prop
  | [] => True
  | p :: τ => RT K H G ow ι σ (.tmp k τ.length) p.1 p.2 ∧ RTs K H G ow ι σ k τ
structure RF (K : KF) (H G : Hp) (ow : Addr → Option Who) (ι : List Addr) (k : Nat) (f : Fram) : Prop where
  len : f.σ.length = f.δ.length
  slots : ∀ (i : Nat) (t : T), f.δ[i]? = some (some t) → t.isBor = false ∧ ∃ v, f.σ[i]? = some (some v) ∧ RT K H G ow ι f.σ (.slot k i) v t
  tmps : RTs K H G ow ι f.σ k f.τ
def RFs (K : KF) (H G : Hp) (ow : Addr → Option Who) (ι : List Addr) : List Fram → Prop
  | [] => True
  | f :: fs => RF K H G ow ι fs.length f ∧ RFs K H G ow ι fs
structure RepG (K : KF) (H G : Hp) (ow : Addr → Option Who) (ι : List Addr) (fs : List Fram) (M : Mem) : Prop where
  sub : Same G H
  own : ∀ a w, ow a = some w → G a = none ∧ ∃ o, H a = some o
  lenM : ι.length = M.length
  cells : ∀ (n : Nat) (c : C), M[n]? = some c → ∃ a, ι[n]? = some a ∧ ow a = some (.cell n) ∧ RC K H G a c
  frs : RFs K H G ow ι fs
def Rep (K : KF) (H : Hp) (fs : List Fram) (M : Mem) : Prop := ∃ G ow ι, RepG K H G ow ι fs M

theorem RC.keep {K : KF} {H H' G G' : Hp} {a : Addr} {c : C} (s : Same G G') (e : H' a = H a) (h : RC K H G a c) : RC K H' G' a c := by
  cases c with
  | lst ds => obtain ⟨vs, q, l⟩ := h; exact ⟨vs, e.trans q, AtL.mono s _ _ l⟩
  | dct kvs => obtain ⟨vs, q, l⟩ := h; exact ⟨vs, e.trans q, AtK.mono s _ _ l⟩
section
variable {K : KF} {H H' G G' : Hp} {ow ow' : Addr → Option Who} {ι ι' : List Addr} {σ σ' : St} {w w' : Who} {v : V} {t : T}
/-- a root is kept: G grows, what it owns stays and is still its own (at a place that may have moved) -/
theorem RT.keep (s : Same G G') (hw : ∀ a, ow a = some w → ow' a = some w' ∧ H' a = H a) (hι : ∀ (n : Nat) (a : Addr), ι[n]? = some a → ι'[n]? = some a) (hσ : ∀ (i : Nat), t = .bor i → σ[i]? = some (some v) → σ'[i]? = some (some v))
    (h : RT K H G ow ι σ w v t) : RT K H' G' ow' ι' σ' w' v t := by
  cases t with
  | d x => exact At.mono s _ _ h
  | v x => exact h
  | con c => obtain ⟨a, e, o, r⟩ := h; obtain ⟨o', e'⟩ := hw a o; exact ⟨a, e, o', r.keep s e'⟩
  | ref n => obtain ⟨a, e, q⟩ := h; exact ⟨a, e, hι _ _ q⟩
  | bor i => exact hσ i rfl h
  | scr ns => obtain ⟨a, e, q⟩ := h; exact ⟨a, e, s.seq q⟩
  | exn x => exact AtX.mono s h
  | st φ => exact fun G' s' => h G' (s.trans s')
theorem RTs.keep {k : Nat} : ∀ {τ : List (V × T)}, Same G G' → (∀ j, j < τ.length → ∀ a, ow a = some (.tmp k j) → ow' a = some (.tmp k j) ∧ H' a = H a) → (∀ (n : Nat) (a : Addr), ι[n]? = some a → ι'[n]? = some a) → (∀ p ∈ τ, ∀ (i : Nat), p.2 = .bor i → σ[i]? = some (some p.1) → σ'[i]? = some (some p.1)) →
    RTs K H G ow ι σ k τ → RTs K H' G' ow' ι' σ' k τ
  | [], _, _, _, _, _ => trivial
  | p :: τ, s, hw, hι, hσ, ⟨h1, h2⟩ => ⟨h1.keep s (hw _ (by simp)) hι (hσ p (by simp)), RTs.keep s (fun j hj => hw j (by simp; omega)) hι (fun q hq => hσ q (by simp [hq])) h2⟩
theorem RF.keep {k : Nat} {f : Fram} (s : Same G G') (hw : ∀ i a, i < f.δ.length → ow a = some (.slot k i) → ow' a = some (.slot k i) ∧ H' a = H a) (hw2 : ∀ j, j < f.τ.length → ∀ a, ow a = some (.tmp k j) → ow' a = some (.tmp k j) ∧ H' a = H a) (hι : ∀ (n : Nat) (a : Addr), ι[n]? = some a → ι'[n]? = some a)
    (h : RF K H G ow ι k f) : RF K H' G' ow' ι' k f := by
  refine ⟨h.len, fun i t e => ?_, RTs.keep s hw2 hι (fun _ _ _ _ q => q) h.tmps⟩
  obtain ⟨nb, v, q, r⟩ := h.slots i t e
  exact ⟨nb, v, q, r.keep s (fun a => hw i a (by exact (List.getElem?_eq_some_iff.mp e).1)) hι fun _ _ q => q⟩
/-- the place w belongs to the frames below depth n -/
def Who.Low (n : Nat) : Who → Prop
  | .slot k _ => k < n
  | .tmp k _ => k < n
  | .cell _ => False
theorem RFs.keep : ∀ {fs : List Fram}, Same G G' → (∀ w : Who, w.Low fs.length → ∀ a, ow a = some w → ow' a = some w ∧ H' a = H a) → (∀ (n : Nat) (a : Addr), ι[n]? = some a → ι'[n]? = some a) → RFs K H G ow ι fs → RFs K H' G' ow' ι' fs
  | [], _, _, _, _ => trivial
  | f :: fs, s, hw, hι, ⟨h1, h2⟩ =>
    ⟨h1.keep s (fun i a _ => hw (.slot fs.length i) (Nat.lt_succ_self _) a) (fun j _ => hw (.tmp fs.length j) (Nat.lt_succ_self _)) hι,
     RFs.keep s (fun w hl => hw w (by cases w <;> first | exact Nat.lt_succ_of_lt hl | exact hl)) hι h2⟩
end
end DL

end
section
namespace DL
open PySem PySem.Spec L2
variable {K : KF} {H H' G G' : Hp} {ow ow' : Addr → Option Who} {ι ι' : List Addr} {σ : St} {δ : Env} {τ : List (V × T)} {fs : List Fram} {M : Mem} {v : V} {t : T} {p : Addr} {o : HO}

/-- the general change: what is owned at places that are not «bad» stays -/
theorem RepG.chg (h : RepG K H G ow ι (⟨σ, δ, τ⟩ :: fs) M) (bad : Who → Prop) (hb : ∀ w, bad w → (∃ n, w = .tmp fs.length n ∧ τ.length ≤ n))
    (hw : ∀ a w, ow a = some w → ¬ bad w → ow' a = some w ∧ H' a = H a) (s : Same G G') (su : Same G' H') (ho : ∀ a w, ow' a = some w → G' a = none ∧ ∃ o, H' a = some o) : RepG K H' G' ow' ι (⟨σ, δ, τ⟩ :: fs) M := by
  refine ⟨su, ho, h.lenM, fun n c e => ?_, ?_, ?_⟩
  · obtain ⟨a, i, q, r⟩ := h.cells n c e
    obtain ⟨q', e'⟩ := hw a _ q (fun z => by obtain ⟨m, z, _⟩ := hb _ z; cases z)
    exact ⟨a, i, q', r.keep s e'⟩
  · exact h.frs.1.keep s (fun i a _ q => hw a _ q (fun z => by obtain ⟨m, z, _⟩ := hb _ z; cases z)) (fun j hj a q => hw a _ q (fun z => by obtain ⟨m, z, l⟩ := hb _ z; cases z; exact absurd (show j < τ.length from hj) (by omega))) (fun _ _ q => q)
  · exact h.frs.2.keep s (fun w hl a q => hw a _ q (fun z => by obtain ⟨m, z, l⟩ := hb _ z; subst z; exact absurd (show fs.length < fs.length from hl) (by omega))) (fun _ _ q => q)
theorem RepG.push (h : RepG K H G ow ι (⟨σ, δ, τ⟩ :: fs) M) (r : RT K H G ow ι σ (.tmp fs.length τ.length) v t) : RepG K H G ow ι (⟨σ, δ, (v, t) :: τ⟩ :: fs) M :=
  ⟨h.sub, h.own, h.lenM, h.cells, ⟨h.frs.1.len, h.frs.1.slots, r, h.frs.1.tmps⟩, h.frs.2⟩
theorem RepG.pop {p : V × T} (h : RepG K H G ow ι (⟨σ, δ, p :: τ⟩ :: fs) M) : RepG K H G ow ι (⟨σ, δ, τ⟩ :: fs) M :=
  ⟨h.sub, h.own, h.lenM, h.cells, ⟨h.frs.1.len, h.frs.1.slots, h.frs.1.tmps.2⟩, h.frs.2⟩
theorem RepG.top {p : V × T} (h : RepG K H G ow ι (⟨σ, δ, p :: τ⟩ :: fs) M) : RT K H G ow ι σ (.tmp fs.length τ.length) p.1 p.2 := h.frs.1.tmps.1
theorem Rep.pop {p : V × T} (h : Rep K H (⟨σ, δ, p :: τ⟩ :: fs) M) : Rep K H (⟨σ, δ, τ⟩ :: fs) M := let ⟨_, _, _, x⟩ := h; ⟨_, _, _, x.pop⟩
theorem RepG.apart (h : RepG K H G ow ι fs M) (hp : H p = none) : ∀ {a w}, ow a = some w → a ≠ p := fun {a w} e z => by
  obtain ⟨_, o, q⟩ := h.own a w e; rw [z, hp] at q; cases q
theorem RepG.gfree (h : RepG K H G ow ι fs M) (hp : H p = none) : G p = none := h.sub.free hp
theorem same_upd {H : Hp} (hp : H p = none) : Same H (upd H p o) := fun b u e => by rw [upd_ne (ne_of_none e hp)]; exact e
/-- a new object that is never changed -/
theorem RepG.newG (h : RepG K H G ow ι (⟨σ, δ, τ⟩ :: fs) M) (hp : H p = none) : RepG K (upd H p o) (upd G p o) ow ι (⟨σ, δ, τ⟩ :: fs) M := by
  refine h.chg (fun _ => False) (fun _ z => z.elim) (fun a w e _ => ⟨e, upd_ne (h.apart hp e)⟩) (same_upd (h.gfree hp)) (fun b u e => ?_) (fun a w e => ?_)
  · by_cases hb : b = p
    · subst hb; rw [upd_same] at e ⊢; exact e
    · rw [upd_ne hb] at e ⊢; exact h.sub _ _ e
  · have ne := h.apart hp e
    rw [upd_ne ne, upd_ne ne]; exact h.own a w e
def ownW (ow : Addr → Option Who) (p : Addr) (w : Who) : Addr → Option Who := fun a => if a = p then some w else ow a
theorem ownW_same {ow : Addr → Option Who} {p : Addr} {w : Who} : ownW ow p w p = some w := by unfold ownW; rw [if_pos rfl]
theorem ownW_ne {ow : Addr → Option Who} {p a : Addr} {w : Who} (h : a ≠ p) : ownW ow p w a = ow a := by unfold ownW; rw [if_neg h]
/-- a new object that is owned -/
theorem RepG.newO (h : RepG K H G ow ι (⟨σ, δ, τ⟩ :: fs) M) (hp : H p = none) (w : Who) : RepG K (upd H p o) G (ownW ow p w) ι (⟨σ, δ, τ⟩ :: fs) M := by
  refine h.chg (fun _ => False) (fun _ z => z.elim) (fun a w e _ => ⟨by rw [ownW_ne (h.apart hp e)]; exact e, upd_ne (h.apart hp e)⟩) (Same.refl _) (h.sub.trans (same_upd hp)) (fun a w' e => ?_)
  by_cases ha : a = p
  · subst ha; exact ⟨h.gfree hp, _, upd_same⟩
  · rw [ownW_ne ha] at e; rw [upd_ne ha]; exact h.own a w' e
def C.toD : C → D
  | .lst xs => .list xs
  | .dct kvs => .dict kvs
theorem RC.at {c : C} (r : RC K H G p c) (s : Same G G') (e : ∀ o, H p = some o → G' p = some o) : At K G' (.ref p) c.toD := by
  cases c with
  | lst xs => obtain ⟨vs, q, l⟩ := r; exact ⟨p, vs, rfl, e _ q, AtL.mono s _ _ l⟩
  | dct kvs => obtain ⟨kv, q, l⟩ := r; exact ⟨p, kv, rfl, e _ q, AtK.mono s _ _ l⟩
theorem RC.there {c : C} (r : RC K H G p c) : ∃ o, H p = some o := by
  cases c with
  | lst xs => obtain ⟨vs, q, l⟩ := r; exact ⟨_, q⟩
  | dct kvs => obtain ⟨kv, q, l⟩ := r; exact ⟨_, q⟩
/-- the container on top is never changed from now on -/
theorem Rep.freeze {c : C} (h : Rep K H (⟨σ, δ, (v, .con c) :: τ⟩ :: fs) M) : Rep K H (⟨σ, δ, (v, .d c.toD) :: τ⟩ :: fs) M := by
  obtain ⟨G, ow, ι, x⟩ := h
  obtain ⟨a, rfl, oa, r⟩ := x.top
  obtain ⟨o, ha⟩ := r.there
  have ga : G a = none := (x.own a _ oa).1
  have hG : ∀ b u, (upd G a o) b = some u → H b = some u := fun b u e => by
    by_cases hb : b = a
    · subst hb; rw [upd_same] at e; rw [ha]; exact e
    · rw [upd_ne hb] at e; exact x.sub _ _ e
  refine ⟨upd G a o, fun b => if b = a then none else ow b, ι, RepG.push (x.pop.chg (fun w => w = .tmp fs.length τ.length) (fun w e => ⟨_, e, Nat.le_refl _⟩) (fun b w e nb => ?_) (same_upd ga) hG (fun b w e => ?_)) ?_⟩
  · have : b ≠ a := fun z => by subst z; rw [oa] at e; cases e; exact nb rfl
    exact ⟨by rw [if_neg this]; exact e, rfl⟩
  · by_cases hb : b = a
    · rw [if_pos hb] at e; cases e
    · rw [if_neg hb] at e; rw [upd_ne hb]; exact x.own b w e
  · exact r.at (same_upd ga) fun u e => by rw [ha] at e; cases e; exact upd_same

/-! ### moves -/
def relab (ow : Addr → Option Who) (a0 : Addr) (w' : Who) : Addr → Option Who := fun a => if a = a0 then (ow a).map fun _ => w' else ow a
theorem relab_same {ow : Addr → Option Who} {a : Addr} {w w' : Who} (e : ow a = some w) : relab ow a w' a = some w' := by unfold relab; rw [if_pos rfl, e]; rfl
theorem relab_ne {ow : Addr → Option Who} {a b : Addr} {w' : Who} (h : b ≠ a) : relab ow a w' b = ow b := by unfold relab; rw [if_neg h]
theorem relab_own (x : ∀ a w, ow a = some w → G a = none ∧ ∃ o, H a = some o) (a0 : Addr) (w' : Who) : ∀ a w, relab ow a0 w' a = some w → G a = none ∧ ∃ o, H a = some o := fun a w e => by
  unfold relab at e
  by_cases ha : a = a0
  · rw [if_pos ha] at e
    cases q : ow a with
    | none => rw [q] at e; cases e
    | some w1 => exact x a w1 q
  · rw [if_neg ha] at e; exact x a w e
/-- the root (v, t) at the place w of a state is moved to the place w': the label of its address is changed (where it owns one) -/
theorem RT.move {w : Who} (x : RT K H G ow ι σ w v t) (w' : Who) : ∃ ow', RT K H G ow' ι σ w' v t ∧ (∀ b u, ow b = some u → u ≠ w → ow' b = some u) ∧
    ((∀ a w, ow a = some w → G a = none ∧ ∃ o, H a = some o) → ∀ a w, ow' a = some w → G a = none ∧ ∃ o, H a = some o) := by
  cases t with
  | d y => exact ⟨ow, x, fun _ _ e _ => e, fun z => z⟩
  | v y => exact ⟨ow, x, fun _ _ e _ => e, fun z => z⟩
  | con c =>
    obtain ⟨a, e, q, r⟩ := x
    refine ⟨relab ow a w', ⟨a, e, relab_same q, r⟩, fun b u eb nu => ?_, fun z => relab_own z a w'⟩
    rw [relab_ne]
    · exact eb
    · intro z; subst z; rw [q] at eb; cases eb; exact nu rfl
  | ref n => exact ⟨ow, x, fun _ _ e _ => e, fun z => z⟩
  | bor i => exact ⟨ow, x, fun _ _ e _ => e, fun z => z⟩
  | scr ns => exact ⟨ow, x, fun _ _ e _ => e, fun z => z⟩
  | exn y => exact ⟨ow, x, fun _ _ e _ => e, fun z => z⟩
  | st φ => exact ⟨ow, x, fun _ _ e _ => e, fun z => z⟩
theorem RT.env {σ' : St} {w : Who} (x : RT K H G ow ι σ w v t) (hb : ∀ i, t = .bor i → σ'[i]? = some (some v)) : RT K H G ow ι σ' w v t := by
  cases t with
  | bor i => exact hb i rfl
  | _ => exact x

/-- no temporary points to a slot -/
def NB (τ : List (V × T)) : Prop := ∀ p ∈ τ, p.2.isBor = false
theorem NB.nil : NB [] := fun _ h => nomatch h
theorem NB.cons {p : V × T} (h : p.2.isBor = false) (k : NB τ) : NB (p :: τ) := fun q hq => by
  rcases List.mem_cons.mp hq with rfl | hq
  · exact h
  · exact k q hq

theorem RepG.slots_of (h : RepG K H G ow ι (⟨σ, δ, τ⟩ :: fs) M) {i : Nat} {t : T} (e : δ[i]? = some (some t)) : t.isBor = false ∧ ∃ v, σ[i]? = some (some v) ∧ RT K H G ow ι σ (.slot fs.length i) v t := h.frs.1.slots i t e

/-- slot i's content becomes the top temporary -/
theorem Rep.take {i : Nat} (h : Rep K H (⟨σ, δ, τ⟩ :: fs) M) (e : δ[i]? = some (some t)) : ∃ v, σ[i]? = some (some v) ∧ Rep K H (⟨σ, δ.set i none, (v, t) :: τ⟩ :: fs) M := by
  obtain ⟨G, ow, ι, x⟩ := h
  obtain ⟨hn, v, es, r⟩ := x.slots_of e
  obtain ⟨ow', r', kp, hown⟩ := r.move (.tmp fs.length τ.length)
  refine ⟨v, es, G, ow', ι, ⟨x.sub, hown x.own, x.lenM, fun n c ec => ?_, ⟨by simpa using x.frs.1.len, fun j u ej => ?_, r', ?_⟩, ?_⟩⟩
  · obtain ⟨a, q1, q2, q3⟩ := x.cells n c ec
    exact ⟨a, q1, kp _ _ q2 (fun z => nomatch z), q3⟩
  · have hj : j ≠ i := fun z => by
      subst z
      have hl := (List.getElem?_eq_some_iff.mp e).1
      have ej' : (δ.set j none)[j]? = some (some u) := ej
      rw [List.getElem?_set_self hl] at ej'; cases ej'
    have ej' : (δ.set i none)[j]? = some (some u) := ej
    rw [List.getElem?_set_ne (Ne.symm hj)] at ej'
    obtain ⟨nb, v', e', r2⟩ := x.slots_of ej'
    exact ⟨nb, v', e', r2.keep (Same.refl _) (fun a q => ⟨kp _ _ q (fun z => by cases z; exact hj rfl), rfl⟩) (fun _ _ q => q) (fun _ _ q => q)⟩
  · exact x.frs.1.tmps.keep (Same.refl _) (fun j _ a q => ⟨kp _ _ q (fun z => nomatch z), rfl⟩) (fun _ _ q => q) (fun _ _ _ _ q => q)
  · exact x.frs.2.keep (Same.refl _) (fun w hl a q => ⟨kp _ _ q (fun z => by subst z; exact absurd (show fs.length < fs.length from hl) (by omega)), rfl⟩) (fun _ _ q => q)
/-- the top temporary is stored in slot i; the names' values may have changed there -/
theorem Rep.put' {σ' : St} {i : Nat} (h : Rep K H (⟨σ, δ, (v, t) :: τ⟩ :: fs) M) (hn : t.isBor = false) (hi : i < σ.length) (hl : σ'.length = σ.length) (hv : σ'[i]? = some (some v)) (ho : ∀ j, j ≠ i → σ'[j]? = σ[j]?)
    (hτ : NB τ ∨ σ' = σ) : Rep K H (⟨σ', δ.set i (some t), τ⟩ :: fs) M := by
  obtain ⟨G, ow, ι, x⟩ := h
  obtain ⟨ow', r', kp, hown⟩ := x.top.move (.slot fs.length i)
  have hlen : σ.length = δ.length := x.frs.1.len
  refine ⟨G, ow', ι, ⟨x.sub, hown x.own, x.lenM, fun n c ec => ?_, ⟨by simpa [hl] using hlen, fun j u ej => ?_, ?_⟩, ?_⟩⟩
  · obtain ⟨a, q1, q2, q3⟩ := x.cells n c ec
    exact ⟨a, q1, kp _ _ q2 (fun z => nomatch z), q3⟩
  · have ej' : (δ.set i (some t))[j]? = some (some u) := ej
    by_cases hj : j = i
    · subst hj
      rw [List.getElem?_set_self (by omega)] at ej'
      cases ej'
      refine ⟨hn, v, hv, r'.env fun k hk => ?_⟩
      have hk' : t = .bor k := hk
      rw [hk'] at hn; cases hn
    · rw [List.getElem?_set_ne (Ne.symm hj)] at ej'
      obtain ⟨nb, v', e', r2⟩ := x.pop.slots_of ej'
      refine ⟨nb, v', (ho j hj).trans e', r2.keep (Same.refl _) (fun a q => ⟨kp _ _ q (fun z => nomatch z), rfl⟩) (fun _ _ q => q) (fun k hk q => ?_)⟩
      rw [hk] at nb; cases nb
  · refine x.pop.frs.1.tmps.keep (Same.refl _) (fun j hj a q => ⟨kp _ _ q (fun z => by cases z; exact absurd hj (by show ¬ τ.length < τ.length; omega)), rfl⟩) (fun _ _ q => q) (fun p hp k hk q => ?_)
    rcases hτ with hτ | hτ
    · have := hτ p hp
      rw [hk] at this; cases this
    · show σ'[k]? = _
      rw [hτ]; exact q
  · exact x.frs.2.keep (Same.refl _) (fun w hl a q => ⟨kp _ _ q (fun z => by subst z; exact absurd (show fs.length < fs.length from hl) (by omega)), rfl⟩) (fun _ _ q => q)
theorem Rep.put {i : Nat} (h : Rep K H (⟨σ, δ, (v, t) :: τ⟩ :: fs) M) (hn : t.isBor = false) (hτ : NB τ) (hi : i < σ.length) : Rep K H (⟨σ.set i (some v), δ.set i (some t), τ⟩ :: fs) M :=
  h.put' hn hi (by simp) (List.getElem?_set_self hi) (fun j hj => List.getElem?_set_ne (Ne.symm hj)) (.inl hτ)
theorem Rep.back {i : Nat} (h : Rep K H (⟨σ, δ, (v, t) :: τ⟩ :: fs) M) (hn : t.isBor = false) (hv : σ[i]? = some (some v)) : Rep K H (⟨σ, δ.set i (some t), τ⟩ :: fs) M :=
  h.put' hn (List.getElem?_eq_some_iff.mp hv).1 rfl hv (fun _ _ => rfl) (.inr rfl)
theorem Rep.len (h : Rep K H (⟨σ, δ, τ⟩ :: fs) M) : σ.length = δ.length := let ⟨_, _, _, x⟩ := h; x.frs.1.len
/-- the second temporary is forgotten -/
theorem Rep.nip {q : V × T} (h : Rep K H (⟨σ, δ, (v, t) :: q :: τ⟩ :: fs) M) : Rep K H (⟨σ, δ, (v, t) :: τ⟩ :: fs) M := by
  obtain ⟨G, ow, ι, x⟩ := h
  obtain ⟨ow', r', kp, hown⟩ := x.top.move (.tmp fs.length τ.length)
  have y := x.pop.pop
  refine ⟨G, ow', ι, ⟨x.sub, hown x.own, x.lenM, fun n c ec => ?_, ⟨y.frs.1.len, fun j u ej => ?_, r', ?_⟩, ?_⟩⟩
  · obtain ⟨a, q1, q2, q3⟩ := x.cells n c ec
    exact ⟨a, q1, kp _ _ q2 (fun z => nomatch z), q3⟩
  · obtain ⟨nb, v', e', r2⟩ := y.slots_of ej
    exact ⟨nb, v', e', r2.keep (Same.refl _) (fun a q => ⟨kp _ _ q (fun z => nomatch z), rfl⟩) (fun _ _ q => q) (fun _ _ q => q)⟩
  · exact y.frs.1.tmps.keep (Same.refl _) (fun j hj a q => ⟨kp _ _ q (fun z => by cases z; exact absurd hj (by show ¬ τ.length + 1 < τ.length; omega)), rfl⟩) (fun _ _ q => q) (fun _ _ _ _ q => q)
  · exact y.frs.2.keep (Same.refl _) (fun w hl a q => ⟨kp _ _ q (fun z => by subst z; exact absurd (show fs.length < fs.length from hl) (by omega)), rfl⟩) (fun _ _ q => q)
/-- the frame ends, its top temporary is handed back -/
theorem Rep.finish (h : Rep K H (⟨σ, δ, (v, t) :: τ⟩ :: fs) M) (hn : t.isBor = false) : Rep K H (⟨[], [], [(v, t)]⟩ :: fs) M := by
  obtain ⟨G, ow, ι, x⟩ := h
  obtain ⟨ow', r', kp, hown⟩ := x.top.move (.tmp fs.length 0)
  refine ⟨G, ow', ι, ⟨x.sub, hown x.own, x.lenM, fun n c ec => ?_, ⟨rfl, fun j u ej => (by cases ej), r'.env (fun k hk => ?_), trivial⟩, ?_⟩⟩
  · obtain ⟨a, q1, q2, q3⟩ := x.cells n c ec
    exact ⟨a, q1, kp _ _ q2 (fun z => nomatch z), q3⟩
  · have hk' : t = .bor k := hk
    rw [hk'] at hn; cases hn
  · exact x.frs.2.keep (Same.refl _) (fun w hl a q => ⟨kp _ _ q (fun z => by subst z; exact absurd (show fs.length < fs.length from hl) (by omega)), rfl⟩) (fun _ _ q => q)
/-- .. and taken by the caller -/
theorem Rep.leave (h : Rep K H (⟨[], [], [(v, t)]⟩ :: ⟨σ, δ, τ⟩ :: fs) M) (hn : t.isBor = false) : Rep K H (⟨σ, δ, (v, t) :: τ⟩ :: fs) M := by
  obtain ⟨G, ow, ι, x⟩ := h
  obtain ⟨ow', r', kp, hown⟩ := x.top.move (.tmp fs.length τ.length)
  have hk : ∀ (w : Who), w.Low (fs.length + 1) → w ≠ Who.tmp (⟨σ, δ, τ⟩ :: fs).length ([] : List (V × T)).length := fun w hl z => by
    subst z
    exact absurd (show fs.length + 1 < fs.length + 1 from hl) (by omega)
  have F := RFs.keep (fs := ⟨σ, δ, τ⟩ :: fs) (ow' := ow') (H' := H) (Same.refl _) (fun w hl a q => ⟨kp _ _ q (hk w hl), rfl⟩) (fun _ _ q => q) x.frs.2
  refine ⟨G, ow', ι, ⟨x.sub, hown x.own, x.lenM, fun n c ec => ?_, ⟨F.1.len, F.1.slots, r'.env (fun k hk => ?_), F.1.tmps⟩, F.2⟩⟩
  · obtain ⟨a, q1, q2, q3⟩ := x.cells n c ec
    exact ⟨a, q1, kp _ _ q2 (fun z => nomatch z), q3⟩
  · have hk' : t = .bor k := hk
    rw [hk'] at hn; cases hn
/-- arguments on top of the temporaries, the first one deepest -/
def rz : List V → List T → List (V × T) → List (V × T)
  | v :: vs, t :: ts, τ => rz vs ts ((v, t) :: τ)
  | _, _, τ => τ
theorem rts_rz {k : Nat} : ∀ {vs : List V} {ts : List T} {τ : List (V × T)}, vs.length = ts.length → RTs K H G ow ι σ k (rz vs ts τ) →
    RTs K H G ow ι σ k τ ∧ ∀ (j : Nat) (t : T), ts[j]? = some t → ∃ v, vs[j]? = some v ∧ RT K H G ow ι σ (.tmp k (τ.length + j)) v t
  | [], [], τ, _, h => ⟨h, fun j t e => by simp at e⟩
  | [], _ :: _, τ, hl, _ => by simp at hl
  | _ :: _, [], τ, hl, _ => by simp at hl
  | v :: vs, t :: ts, τ, hl, h => by
    obtain ⟨⟨h1, h2⟩, h3⟩ := rts_rz (vs := vs) (ts := ts) (τ := (v, t) :: τ) (by simpa using hl) h
    refine ⟨h2, fun j u e => ?_⟩
    cases j with
    | zero => simp at e; subst e; exact ⟨v, rfl, h1⟩
    | succ j =>
      obtain ⟨w, e1, e2⟩ := h3 j u (by simpa using e)
      refine ⟨w, by simpa using e1, ?_⟩
      have : ((v, t) :: τ).length + j = τ.length + (j + 1) := by simp; omega
      rw [this] at e2; exact e2
def reArg (n m : Nat) : Who → Who
  | .tmp k j => if k = n ∧ m ≤ j then .slot (n + 1) (j - m) else .tmp k j
  | w => w
/-- a call: the arguments become a frame of their own -/
theorem Rep.enter {vs : List V} {ts : List T} (h : Rep K H (⟨σ, δ, rz vs ts τ⟩ :: fs) M) (hl : vs.length = ts.length) (hn : ∀ t ∈ ts, t.isBor = false) : Rep K H (⟨vs.map some, ts.map some, []⟩ :: ⟨σ, δ, τ⟩ :: fs) M := by
  obtain ⟨G, ow, ι, x⟩ := h
  obtain ⟨hτ, ha⟩ := rts_rz hl x.frs.1.tmps
  refine ⟨G, fun a => (ow a).map (reArg fs.length τ.length), ι, ⟨x.sub, fun a w e => ?_, x.lenM, fun n c ec => ?_, ⟨by simp [hl], fun j u ej => ?_, trivial⟩, ⟨x.frs.1.len, fun j u ej => ?_, ?_⟩, ?_⟩⟩
  · cases q : ow a with
    | none => rw [q] at e; cases e
    | some w1 => exact x.own a w1 q
  · obtain ⟨a, q1, q2, q3⟩ := x.cells n c ec
    exact ⟨a, q1, by rw [q2]; rfl, q3⟩
  · have ej' : (ts.map some)[j]? = some (some u) := ej
    rw [List.getElem?_map] at ej'
    cases e : ts[j]? with
    | none => rw [e] at ej'; cases ej'
    | some u' =>
      rw [e] at ej'
      cases ej'
      obtain ⟨v, e1, r⟩ := ha j u e
      have nb := hn u (List.mem_of_getElem? e)
      refine ⟨nb, v, by show (vs.map some)[j]? = _; rw [List.getElem?_map, e1]; rfl, r.keep (Same.refl _) (fun a q => ⟨?_, rfl⟩) (fun _ _ q => q) (fun k hk _ => ?_)⟩
      · rw [q]
        refine congrArg some ((if_pos ⟨rfl, Nat.le_add_right _ _⟩ : reArg fs.length τ.length (.tmp fs.length (τ.length + j)) = _).trans ?_)
        rw [Nat.add_sub_cancel_left]; rfl
      · rw [hk] at nb; cases nb
  · obtain ⟨nb, v', e', r2⟩ := x.frs.1.slots j u ej
    exact ⟨nb, v', e', r2.keep (Same.refl _) (fun a q => ⟨by rw [q]; rfl, rfl⟩) (fun _ _ q => q) (fun _ _ q => q)⟩
  · refine hτ.keep (Same.refl _) (fun j hj a q => ⟨?_, rfl⟩) (fun _ _ q => q) (fun _ _ _ _ q => q)
    rw [q]
    exact congrArg some (if_neg (fun z => absurd (show j < τ.length from hj) (by omega)) : reArg fs.length τ.length (.tmp fs.length j) = _)
  · refine x.frs.2.keep (Same.refl _) (fun w hl a q => ⟨?_, rfl⟩) (fun _ _ q => q)
    rw [q]
    cases w with
    | slot k j => rfl
    | tmp k j =>
      exact congrArg some (if_neg (fun z => absurd (show k < fs.length from hl) (by omega)) : reArg fs.length τ.length (.tmp k j) = _)
    | cell n => rfl
/-- slots without a value behind the frame's -/
theorem Rep.wide (n : Nat) (h : Rep K H (⟨σ, δ, τ⟩ :: fs) M) (hτ : NB τ) : Rep K H (⟨σ ++ List.replicate n none, δ ++ List.replicate n none, τ⟩ :: fs) M := by
  obtain ⟨G, ow, ι, x⟩ := h
  refine ⟨G, ow, ι, ⟨x.sub, x.own, x.lenM, x.cells, ⟨by have := x.frs.1.len; simp at this ⊢; exact this, fun j u ej => ?_, ?_⟩, x.frs.2⟩⟩
  · have ej' : (δ ++ List.replicate n none)[j]? = some (some u) := ej
    by_cases hj : j < δ.length
    · rw [List.getElem?_append_left hj] at ej'
      obtain ⟨nb, v, e, r⟩ := x.slots_of ej'
      refine ⟨nb, v, ?_, r.keep (Same.refl _) (fun _ q => ⟨q, rfl⟩) (fun _ _ q => q) (fun k hk => by rw [hk] at nb; cases nb)⟩
      show (σ ++ _)[j]? = _
      rw [List.getElem?_append_left (List.getElem?_eq_some_iff.mp e).1]; exact e
    · rw [List.getElem?_append_right (by omega), List.getElem?_replicate] at ej'
      split at ej' <;> cases ej'
  · exact x.frs.1.tmps.keep (Same.refl _) (fun _ _ _ q => ⟨q, rfl⟩) (fun _ _ q => q) (fun p hp k hk => by have := hτ p hp; rw [hk] at this; cases this)
/-! ### cells -/
/-- the container on top becomes a cell -/
theorem Rep.cell {c : C} (h : Rep K H (⟨σ, δ, (v, .con c) :: τ⟩ :: fs) M) : Rep K H (⟨σ, δ, (v, .ref M.length) :: τ⟩ :: fs) (M ++ [c]) := by
  obtain ⟨G, ow, ι, x⟩ := h
  obtain ⟨a, rfl, q, r⟩ := x.top
  have y := x.pop
  have ne : ∀ b u, ow b = some u → u ≠ .tmp fs.length τ.length → relab ow a (.cell M.length) b = some u := fun b u eb nu => by
    rw [relab_ne]
    · exact eb
    · intro z; subst z; rw [q] at eb; cases eb; exact nu rfl
  have up : ∀ (n : Nat) (b : Addr), ι[n]? = some b → (ι ++ [a])[n]? = some b := fun n b e => by
    rw [List.getElem?_append_left (List.getElem?_eq_some_iff.mp e).1]; exact e
  refine ⟨G, relab ow a (.cell M.length), ι ++ [a], ⟨x.sub, relab_own x.own a _, by simp [x.lenM], fun n c' ec => ?_, ⟨y.frs.1.len, fun j u ej => ?_, ⟨a, rfl, ?_⟩, ?_⟩, ?_⟩⟩
  · by_cases hn : n < M.length
    · rw [List.getElem?_append_left hn] at ec
      obtain ⟨b, q1, q2, q3⟩ := x.cells n c' ec
      exact ⟨b, up _ _ q1, ne _ _ q2 (fun z => nomatch z), q3⟩
    · have hl := (List.getElem?_eq_some_iff.mp ec).1
      have e : n = M.length := by simp at hl; omega
      subst e
      simp at ec
      subst ec
      exact ⟨a, by rw [← x.lenM]; simp, relab_same q, r⟩
  · obtain ⟨nb, v', e', r2⟩ := y.slots_of ej
    exact ⟨nb, v', e', r2.keep (Same.refl _) (fun b qb => ⟨ne _ _ qb (fun z => nomatch z), rfl⟩) up (fun _ _ q => q)⟩
  · rw [← x.lenM]; simp
  · exact y.frs.1.tmps.keep (Same.refl _) (fun j hj b qb => ⟨ne _ _ qb (fun z => by cases z; exact absurd hj (by show ¬ τ.length < τ.length; omega)), rfl⟩) up (fun _ _ _ _ q => q)
  · exact y.frs.2.keep (Same.refl _) (fun w hl b qb => ⟨ne _ _ qb (fun z => by subst z; exact absurd (show fs.length < fs.length from hl) (by omega)), rfl⟩) up
/-- every reference of these frames is below m -/
def RefsT (m : Nat) : T → Prop
  | .ref n => n < m
  | _ => True
def RefsF (m : Nat) (f : Fram) : Prop := (∀ (i : Nat) (t : T), f.δ[i]? = some (some t) → RefsT m t) ∧ ∀ p ∈ f.τ, RefsT m p.2
def Refs (m : Nat) (fs : List Fram) : Prop := ∀ f ∈ fs, RefsF m f
theorem RT.refs {w : Who} (x : RT K H G ow ι σ w v t) : RefsT ι.length t := by
  cases t with
  | ref n => obtain ⟨a, _, e⟩ := x; exact (List.getElem?_eq_some_iff.mp e).1
  | _ => trivial
theorem RTs.refs {k : Nat} : ∀ {τ : List (V × T)}, RTs K H G ow ι σ k τ → ∀ p ∈ τ, RefsT ι.length p.2
  | [], _, _, h => nomatch h
  | q :: τ, ⟨h1, h2⟩, p, hp => by
    rcases List.mem_cons.mp hp with rfl | hp
    · exact h1.refs
    · exact RTs.refs h2 p hp
theorem RFs.refs : ∀ {fs : List Fram}, RFs K H G ow ι fs → Refs ι.length fs
  | [], _, _, h => nomatch h
  | f :: fs, ⟨h1, h2⟩, g, hg => by
    rcases List.mem_cons.mp hg with rfl | hg
    · refine ⟨fun i t e => ?_, h1.tmps.refs⟩
      obtain ⟨_, v, _, r⟩ := h1.slots i t e
      exact r.refs
    · exact RFs.refs h2 g hg
theorem Rep.refs (h : Rep K H fs M) : Refs M.length fs := let ⟨_, _, _, x⟩ := h; x.lenM ▸ x.frs.refs
section
variable {ι' : List Addr} {m : Nat}
theorem RT.trunc {w : Who} (x : RT K H G ow ι σ w v t) (r : RefsT m t) : RT K H G ow (ι.take m) σ w v t := by
  cases t with
  | ref n =>
    obtain ⟨a, e, q⟩ := x
    exact ⟨a, e, by rw [List.getElem?_take_of_lt (show n < m from r)]; exact q⟩
  | _ => exact x
theorem RTs.trunc {k : Nat} : ∀ {τ : List (V × T)}, RTs K H G ow ι σ k τ → (∀ p ∈ τ, RefsT m p.2) → RTs K H G ow (ι.take m) σ k τ
  | [], _, _ => trivial
  | q :: τ, ⟨h1, h2⟩, r => ⟨h1.trunc (r q (by simp)), RTs.trunc h2 fun p hp => r p (by simp [hp])⟩
theorem RFs.trunc : ∀ {fs : List Fram}, RFs K H G ow ι fs → Refs m fs → RFs K H G ow (ι.take m) fs
  | [], _, _ => trivial
  | f :: fs, ⟨h1, h2⟩, r => by
    obtain ⟨r1, r2⟩ := r f (by simp)
    refine ⟨⟨h1.len, fun i t e => ?_, h1.tmps.trunc r2⟩, RFs.trunc h2 fun g hg => r g (by simp [hg])⟩
    obtain ⟨nb, v, e', q⟩ := h1.slots i t e
    exact ⟨nb, v, e', q.trunc (r1 i t e)⟩
end
/-- the last cells are forgotten -/
theorem Rep.trunc {M' gb : Mem} (h : Rep K H fs (M' ++ gb)) (r : Refs M'.length fs) : Rep K H fs M' := by
  obtain ⟨G, ow, ι, x⟩ := h
  refine ⟨G, ow, ι.take M'.length, ⟨x.sub, x.own, by have := x.lenM; simp at this ⊢; omega, fun n c ec => ?_, x.frs.trunc r⟩⟩
  have hn := (List.getElem?_eq_some_iff.mp ec).1
  obtain ⟨a, q1, q2, q3⟩ := x.cells n c (by rw [List.getElem?_append_left hn]; exact ec)
  exact ⟨a, by rw [List.getElem?_take_of_lt hn]; exact q1, q2, q3⟩
/-- a cell that is forgotten is handed back as a container of its own -/
theorem Rep.uncell {M' gb : Mem} {n : Nat} {c : C} (h : Rep K H (⟨σ, δ, (v, .ref n) :: τ⟩ :: fs) (M' ++ gb)) (hn : M'.length ≤ n) (hc : (M' ++ gb)[n]? = some c) (r : Refs M'.length (⟨σ, δ, τ⟩ :: fs)) : Rep K H (⟨σ, δ, (v, .con c) :: τ⟩ :: fs) M' := by
  obtain ⟨G, ow, ι, x⟩ := h
  obtain ⟨a, ev, ea⟩ := x.top
  obtain ⟨a', q1, q2, q3⟩ := x.cells n c hc
  have ev' : v = .ref a := ev
  have ea' : ι[n]? = some a := ea
  rw [ea'] at q1; cases q1
  have y := x.pop
  have ne : ∀ b u, ow b = some u → u ≠ .cell n → relab ow a (.tmp fs.length τ.length) b = some u := fun b u eb nu => by
    rw [relab_ne]
    · exact eb
    · intro z; subst z; rw [q2] at eb; cases eb; exact nu rfl
  have z : RFs K H G (relab ow a (.tmp fs.length τ.length)) ι (⟨σ, δ, τ⟩ :: fs) :=
    y.frs.keep (Same.refl _) (fun w hl b qb => ⟨ne _ _ qb (fun z => by subst z; exact hl), rfl⟩) (fun _ _ q => q)
  have z2 := z.trunc r
  refine ⟨G, relab ow a (.tmp fs.length τ.length), ι.take M'.length, ⟨x.sub, relab_own x.own a _, by have := x.lenM; simp at this ⊢; omega, fun k c' ec => ?_, ⟨z2.1.len, z2.1.slots, ⟨a, ev', relab_same q2, q3⟩, z2.1.tmps⟩, z2.2⟩⟩
  have hk := (List.getElem?_eq_some_iff.mp ec).1
  obtain ⟨b, p1, p2, p3⟩ := x.cells k c' (by rw [List.getElem?_append_left hk]; exact ec)
  exact ⟨b, by rw [List.getElem?_take_of_lt hk]; exact p1, ne _ _ p2 (fun z => by cases z; exact absurd hk (by omega)), p3⟩
end DL

end
section
namespace DL
open PySem PySem.Spec L2

/-! ### meanings -/
inductive Res (α : Type) where
  | ok (a : α) (δ : Env) (M : Mem)
  | ex (x : XD) (δ : Env) (M : Mem)
  | bad
abbrev Sm (α : Type) := Env → Mem → Res α
def Res.post {α : Type} (r : Res α) (k : α → Env → Mem → Prop) (x : XD → Env → Mem → Prop) : Prop :=
  match r with
  | .ok a δ M => k a δ M
  | .ex e δ M => x e δ M
  | .bad => False
def ret {α : Type} (a : α) : Sm α := fun δ M => .ok a δ M
def bnd {α β : Type} (f : Sm α) (g : α → Sm β) : Sm β := fun δ M =>
  match f δ M with
  | .ok a δ' M' => g a δ' M'
  | .ex x δ' M' => .ex x δ' M'
  | .bad => .bad
def fail {α : Type} : Sm α := fun _ _ => .bad
def opt {α : Type} (o : Option α) : Sm α := fun δ M =>
  match o with
  | some a => .ok a δ M
  | Option.none => .bad
section
variable {α β : Type} {k k' : α → Env → Mem → Prop} {x x' : XD → Env → Mem → Prop} {r : Res α}
theorem Res.post_mono (h : r.post k x) (hk : ∀ a δ M, k a δ M → k' a δ M) (hx : ∀ e δ M, x e δ M → x' e δ M) : r.post k' x' := by
  cases r with
  | ok a δ M => exact hk _ _ _ h
  | ex e δ M => exact hx _ _ _ h
  | bad => exact h
theorem bnd_post {f : Sm α} {g : α → Sm β} {δ : Env} {M : Mem} {k : β → Env → Mem → Prop} (h : (bnd f g δ M).post k x) : (f δ M).post (fun a δ' M' => (g a δ' M').post k x) x := by
  unfold bnd at h
  cases e : f δ M with
  | ok a δ' M' => rw [e] at h; exact h
  | ex e' δ' M' => rw [e] at h; exact h
  | bad => rw [e] at h; exact h
theorem opt_post {o : Option α} {δ : Env} {M : Mem} (h : (opt o δ M).post k x) : ∃ a, o = some a ∧ k a δ M := by
  cases o with
  | none => exact h.elim
  | some a => exact ⟨a, rfl, h⟩
end
/-! ### exceptions at the heap -/
def XAt (K : KF) (H : Hp) (x : XD) (d : Option Addr) (fs : List Fram) (M : Mem) : Prop :=
  ∃ G ow ι, RepG K H G ow ι fs M ∧ ((x.fs = [] ∧ d = none) ∨ ∃ dd vfs, d = some dd ∧ H dd = some (.xd vfs) ∧ AtF K G vfs x.fs ∧ ow dd = none)
theorem XAt.pop {K : KF} {H : Hp} {x : XD} {d : Option Addr} {σ : St} {δ : Env} {p : V × T} {τ : List (V × T)} {fs : List Fram} {M : Mem} (h : XAt K H x d (⟨σ, δ, p :: τ⟩ :: fs) M) : XAt K H x d (⟨σ, δ, τ⟩ :: fs) M :=
  let ⟨G, ow, ι, a, b⟩ := h; ⟨G, ow, ι, a.pop, b⟩
theorem XAt.rep {K : KF} {H : Hp} {x : XD} {d : Option Addr} {fs : List Fram} {M : Mem} (h : XAt K H x d fs M) : Rep K H fs M := let ⟨G, ow, ι, a, _⟩ := h; ⟨G, ow, ι, a⟩

/-! ### readings -/
inductive Fl where
  | nx
  | rt (t : T)
  | bk
  | ct
section
variable (K : KF) (W : WX)
def wX (σ : St) (τ : List (V × T)) (fs : List Fram) : XD → Env → Mem → Prop := fun x δ' M' => ∀ d H', XAt K H' x d (⟨σ, δ', τ⟩ :: fs) M' → W (.ref x.cls) d σ H'
def tE (f : Sm T) : TE := fun σ H Q => ∃ δ τ fs M, Rep K H (⟨σ, δ, τ⟩ :: fs) M ∧ (f δ M).post (fun r δ' M' => ∀ v H', Rep K H' (⟨σ, δ', (v, r) :: τ⟩ :: fs) M' → Q v H') (wX K W σ τ fs)
def tT (f : Sm Bool) : TT := fun σ H Q => ∃ δ τ fs M, Rep K H (⟨σ, δ, τ⟩ :: fs) M ∧ (f δ M).post (fun b δ' M' => ∀ H', Rep K H' (⟨σ, δ', τ⟩ :: fs) M' → Q b H') (wX K W σ τ fs)
def tA (f : Sm (List T)) : TA := fun σ H Q => ∃ δ τ fs M, Rep K H (⟨σ, δ, τ⟩ :: fs) M ∧ (f δ M).post (fun ts δ' M' => ∀ vs H', vs.length = ts.length → Rep K H' (⟨σ, δ', rz vs ts τ⟩ :: fs) M' → Q vs H') (wX K W σ τ fs)
def kS (τ : List (V × T)) (fs : List Fram) (D : Ends) : Fl → Env → Mem → Prop := fun fl δ' M' =>
  match fl with
  | .nx => ∀ σ' H', Rep K H' (⟨σ', δ', τ⟩ :: fs) M' → D.nx σ' H'
  | .bk => ∀ σ' H', Rep K H' (⟨σ', δ', τ⟩ :: fs) M' → D.bk σ' H'
  | .ct => ∀ σ' H', Rep K H' (⟨σ', δ', τ⟩ :: fs) M' → D.ct σ' H'
  | .rt r => r.isBor = false ∧ ∀ v σ' H', Rep K H' (⟨σ', δ', (v, r) :: τ⟩ :: fs) M' → D.rt v H'
def xS (τ : List (V × T)) (fs : List Fram) : XD → Env → Mem → Prop := fun x δ' M' => ∀ d σ' H', XAt K H' x d (⟨σ', δ', τ⟩ :: fs) M' → W (.ref x.cls) d σ' H'
def tS (f : Sm Fl) : TS := fun D σ H => ∃ δ τ fs M, NB τ ∧ Rep K H (⟨σ, δ, τ⟩ :: fs) M ∧ (f δ M).post (kS K τ fs D) (xS K W τ fs)
/-- a target: what comes is the top temporary -/
def tGt (f : T → Sm Unit) : TG := fun v σ H Q => ∃ t δ τ fs M, t.isBor = false ∧ NB τ ∧ Rep K H (⟨σ, δ, (v, t) :: τ⟩ :: fs) M ∧ (f t δ M).post (fun _ δ' M' => ∀ σ' H', Rep K H' (⟨σ', δ', τ⟩ :: fs) M' → Q σ' H') fun _ _ _ => False
end
section
variable {X : Cx} {W : WX} {e : Expr} {st : Stmt} {sts : List Stmt}
theorem _root_.L2.PE.imp {t t' : TE} (h : PE X e t) (i : ∀ σ H Q, t' σ H Q → t σ H Q) : PE X e t' := ⟨fun pins s σ H Q I q => h.run pins s σ H Q I (i _ _ _ q)⟩
theorem _root_.L2.PT.imp {t t' : TT} (h : PT X e t) (i : ∀ σ H Q, t' σ H Q → t σ H Q) : PT X e t' := ⟨fun pins s σ H Q I q => h.run pins s σ H Q I (i _ _ _ q)⟩
theorem _root_.L2.PA.imp {es : List Expr} {t t' : TA} (h : PA X es t) (i : ∀ σ H Q, t' σ H Q → t σ H Q) : PA X es t' := ⟨fun pos pins s σ H Q I q => h.run pos pins s σ H Q I (i _ _ _ q)⟩
theorem _root_.L2.PS.imp {t t' : TS} (h : PS X st t) (i : ∀ D σ H, t' D σ H → t D σ H) : PS X st t' := ⟨fun pins s σ H D I q => h.run pins s σ H D I (i _ _ _ q)⟩
theorem _root_.L2.PSs.imp {t t' : TS} (h : PSs X sts t) (i : ∀ D σ H, t' D σ H → t D σ H) : PSs X sts t' := ⟨fun pins s σ H D I q => h.run pins s σ H D I (i _ _ _ q)⟩
abbrev QE (X : Cx) (W : WX) (e : Expr) (f : Sm T) : Prop := PE X e (tE X.K W f)
abbrev QT (X : Cx) (W : WX) (e : Expr) (f : Sm Bool) : Prop := PT X e (tT X.K W f)
abbrev QA (X : Cx) (W : WX) (es : List Expr) (f : Sm (List T)) : Prop := PA X es (tA X.K W f)
abbrev QS (X : Cx) (W : WX) (st : Stmt) (f : Sm Fl) : Prop := PS X st (tS X.K W f)
abbrev QSs (X : Cx) (W : WX) (sts : List Stmt) (f : Sm Fl) : Prop := PSs X sts (tS X.K W f)
abbrev QG (X : Cx) (tg : Expr) (f : T → Sm Unit) : Prop := PG X tg (tGt X.K f)

variable {K : KF} {H : Hp} {σ : St} {δ : Env} {τ : List (V × T)} {fs : List Fram} {M : Mem} {v u : V} {t : T}
theorem Rep.pushD {x : D} (h : Rep K H (⟨σ, δ, τ⟩ :: fs) M) (a : ∀ G, Same G H → At K G v x) : Rep K H (⟨σ, δ, (v, .d x) :: τ⟩ :: fs) M :=
  let ⟨G, ow, ι, r⟩ := h; ⟨G, ow, ι, r.push (show At K G v x from a G r.sub)⟩
theorem Rep.pushB {i : Nat} (h : Rep K H (⟨σ, δ, τ⟩ :: fs) M) (a : σ[i]? = some (some v)) : Rep K H (⟨σ, δ, (v, .bor i) :: τ⟩ :: fs) M :=
  let ⟨G, ow, ι, r⟩ := h; ⟨G, ow, ι, r.push (show σ[i]? = some (some v) from a)⟩

/-! ### names and constants -/
def mName (i : Nat) : Sm T := fun δ M =>
  match δ[i]? with
  | some (some (.d x)) => .ok (.d x) δ M
  | some (some (.v x)) => .ok (.v x) δ M
  | some (some (.ref n)) => .ok (.ref n) δ M
  | some (some (.scr ns)) => .ok (.scr ns) δ M
  | some (some (.exn x)) => .ok (.exn x) δ M
  | some (some (.con _)) => .ok (.bor i) δ M
  | _ => .bad
theorem Rep.name {i : Nat} (h : Rep K H (⟨σ, δ, τ⟩ :: fs) M) {Q : VK} {x : XD → Env → Mem → Prop} (q : (mName i δ M).post (fun r δ' M' => ∀ v H', Rep K H' (⟨σ, δ', (v, r) :: τ⟩ :: fs) M' → Q v H') x) (hx : ∀ e δ M, x e δ M → False) :
    ∃ v, σ[i]? = some (some v) ∧ Q v H := by
  obtain ⟨G, ow, ι, r⟩ := h
  unfold mName at q
  cases e : δ[i]? with
  | none => rw [e] at q; exact q.elim
  | some o =>
    cases o with
    | none => rw [e] at q; exact q.elim
    | some t =>
      obtain ⟨nb, v, es, rt⟩ := r.slots_of e
      refine ⟨v, es, ?_⟩
      rw [e] at q
      cases t with
      | d x => exact q v H ⟨G, ow, ι, r.push rt⟩
      | v x => exact q v H ⟨G, ow, ι, r.push rt⟩
      | ref n => exact q v H ⟨G, ow, ι, r.push rt⟩
      | scr ns => exact q v H ⟨G, ow, ι, r.push rt⟩
      | exn x => exact q v H ⟨G, ow, ι, r.push rt⟩
      | st φ => exact q.elim
      | con c => exact q v H ⟨G, ow, ι, r.push (show RT K H G ow ι σ _ v (.bor i) from es)⟩
      | bor j => exact q.elim
theorem mName_noex {i : Nat} {δ : Env} {M : Mem} : ∀ {e : XD} {δ' : Env} {M' : Mem}, mName i δ M ≠ .ex e δ' M' := by
  intro e δ' M' h
  unfold mName at h
  split at h <;> cases h
theorem Res.noex {α : Type} {r : Res α} {k : α → Env → Mem → Prop} {x x' : XD → Env → Mem → Prop} (h : r.post k x) (n : ∀ e δ M, r ≠ .ex e δ M) : r.post k x' := by
  cases r with
  | ok a δ M => exact h
  | ex e δ M => exact (n e δ M rfl).elim
  | bad => exact h
theorem qe_name (i : Nat) {x : Str} {pos : Pos} (h : PE X (.Name x pos) (tVar i)) : QE X W (.Name x pos) (mName i) := by
  refine h.imp fun σ H Q ⟨δ, τ, fs, M, r, q⟩ => ?_
  exact r.name (x := fun _ _ _ => False) (Res.noex q fun _ _ _ => mName_noex) fun _ _ _ z => z
def mD (x : D) : Sm T := ret (.d x)
theorem qe_int {i : Int} {j : Nat} {pos : Pos} : QE X W (.Constant (.int i) j pos) (mD (.int i)) :=
  pe_int.imp fun σ H Q ⟨δ, τ, fs, M, r, q⟩ => q _ H (r.pushD fun _ _ => rfl)
theorem qe_bool {i : Bool} {j : Nat} {pos : Pos} : QE X W (.Constant (.bool i) j pos) (mD (.bool i)) :=
  pe_bl.imp fun σ H Q ⟨δ, τ, fs, M, r, q⟩ => q _ H (r.pushD fun _ _ => rfl)
theorem qe_none {j : Nat} {pos : Pos} : QE X W (.Constant .none j pos) (mD .none) :=
  pe_non.imp fun σ H Q ⟨δ, τ, fs, M, r, q⟩ => q _ H (r.pushD fun _ _ => rfl)
theorem qe_str {i : Str} {j : Nat} {pos : Pos} : QE X W (.Constant (.str i) j pos) (mD (.str i)) :=
  pe_str.imp fun σ H Q ⟨δ, τ, fs, M, r, q⟩ => q _ H (r.pushD fun _ _ => rfl)
/-- a global that holds an int -/
theorem qe_glob {x : Str} {u : V} {g : D} {pos : Pos} (h : PE X (.Name x pos) (tC u)) (hu : ∀ G, At X.K G u g) : QE X W (.Name x pos) (mD g) :=
  h.imp fun σ H Q ⟨δ, τ, fs, M, r, q⟩ => q _ H (r.pushD fun _ _ => hu _)
/-- a built-in class or a def as a value -/
theorem qe_val {x : Str} {u : V} {pos : Pos} (h : PE X (.Name x pos) (tC u)) : QE X W (.Name x pos) (ret (.v u)) :=
  h.imp fun σ H Q ⟨δ, τ, fs, M, r, q⟩ => q _ H (let ⟨G, ow, ι, z⟩ := r; ⟨G, ow, ι, z.push (t := .v u) rfl⟩)

/-! ### freezing -/
def mFrz (t : T) : Sm T := fun δ M =>
  match t with
  | .d x => .ok (.d x) δ M
  | .v x => .ok (.v x) δ M
  | .con c => .ok (.d c.toD) δ M
  | .ref n => .ok (.ref n) δ M
  | .scr ns => .ok (.scr ns) δ M
  | .exn x => .ok (.exn x) δ M
  | .st φ => .ok (.st φ) δ M
  | .bor i => match δ[i]? with
    | some (some (.con c)) => .ok (.d c.toD) (δ.set i (some (.d c.toD))) M
    | some (some (.d x)) => .ok (.d x) δ M
    | _ => .bad
theorem Rep.frz (h : Rep K H (⟨σ, δ, (v, t) :: τ⟩ :: fs) M) {r : T} {δ' : Env} {M' : Mem} (e : mFrz t δ M = .ok r δ' M') : Rep K H (⟨σ, δ', (v, r) :: τ⟩ :: fs) M' := by
  cases t with
  | d x => cases e; exact h
  | v x => cases e; exact h
  | ref n => cases e; exact h
  | scr ns => cases e; exact h
  | exn x => cases e; exact h
  | st φ => cases e; exact h
  | con c => cases e; exact h.freeze
  | bor i =>
    have hv : σ[i]? = some (some v) := let ⟨_, _, _, x⟩ := h; x.top
    unfold mFrz at e
    simp only at e
    split at e
    · rename_i c q
      cases e
      obtain ⟨v', e1, r⟩ := h.pop.take q
      rw [hv] at e1; cases e1
      have r2 := r.freeze
      have back : Rep K H (⟨σ, (δ.set i none).set i (some (.d c.toD)), τ⟩ :: fs) M := r2.back rfl hv
      rw [List.set_set] at back
      obtain ⟨G, ow, ι, y⟩ := r2

      refine ⟨G, ow, ι, ?_⟩
      have z := y
      refine ⟨z.sub, z.own, z.lenM, z.cells, ⟨by simpa using z.frs.1.len, fun j u ej => ?_, z.frs.1.tmps⟩, z.frs.2⟩
      have ej' : (δ.set i (some (.d c.toD)))[j]? = some (some u) := ej
      by_cases hj : j = i
      · subst hj
        rw [List.getElem?_set_self (List.getElem?_eq_some_iff.mp q).1] at ej'
        cases ej'
        exact ⟨rfl, v, hv, y.top⟩
      · rw [List.getElem?_set_ne (Ne.symm hj)] at ej'
        refine z.frs.1.slots j u ?_
        show (δ.set i none)[j]? = _
        rw [List.getElem?_set_ne (Ne.symm hj)]; exact ej'
    · rename_i x q
      cases e
      obtain ⟨G, ow, ι, y⟩ := h
      obtain ⟨nb, v', e1, r⟩ := y.pop.slots_of q
      rw [hv] at e1; cases e1
      exact ⟨G, ow, ι, y.pop.push r⟩
    · cases e
theorem mFrz_noex {δ : Env} {M : Mem} {e : XD} {δ' : Env} {M' : Mem} : mFrz t δ M ≠ .ex e δ' M' := by
  intro h
  unfold mFrz at h
  split at h
  all_goals first | cases h | (split at h <;> cases h)
/-- what is to be kept in data -/
theorem qe_frz {f : Sm T} (h : QE X W e f) : QE X W e (bnd f mFrz) := by
  refine h.imp fun σ H Q ⟨δ, τ, fs, M, r, q⟩ => ⟨δ, τ, fs, M, r, Res.post_mono (bnd_post q) (fun a δ' M' q2 v H' r2 => ?_) fun _ _ _ z => z⟩
  cases e2 : mFrz a δ' M' with
  | ok b δ2 M2 => rw [e2] at q2; exact q2 v H' (r2.frz e2)
  | ex x δ2 M2 => exact (mFrz_noex e2).elim
  | bad => rw [e2] at q2; exact q2.elim

/-! ### argument lists, displays -/
def mNil : Sm (List T) := ret []
def mCons (f : Sm T) (g : Sm (List T)) : Sm (List T) := bnd f fun t => bnd g fun ts => ret (t :: ts)
theorem xpop {σ : St} {p : V × T} : ∀ e δ M, wX K W σ (p :: τ) fs e δ M ↔ wX K W σ (p :: τ) fs e δ M := fun _ _ _ => Iff.rfl
theorem wX.push {σ : St} {p : V × T} {e : XD} {δ : Env} {M : Mem} (h : wX K W σ τ fs e δ M) : wX K W σ (p :: τ) fs e δ M := fun d H' r => h d H' r.pop
theorem qa_nil : QA X W [] mNil := pa_nil.imp fun σ H Q ⟨δ, τ, fs, M, r, q⟩ => q [] H rfl r
theorem qa_cons {es : List Expr} {f : Sm T} {g : Sm (List T)} (h : QE X W e f) (hs : QA X W es g) (hst : starEach (e :: es) X.env = (false, eval e X.env) :: starEach es X.env := by rfl) : QA X W (e :: es) (mCons f g) := by
  refine (pa_cons h hs hst).imp fun σ H Q ⟨δ, τ, fs, M, r, q⟩ => ⟨δ, τ, fs, M, r, Res.post_mono (bnd_post q) (fun a δ1 M1 q1 v H1 r1 => ?_) fun _ _ _ z => z⟩
  refine ⟨δ1, (v, a) :: τ, fs, M1, r1, Res.post_mono (bnd_post q1) (fun ts δ2 M2 q2 vs H2 hl r2 => ?_) fun _ _ _ z => z.push⟩
  exact q2 (v :: vs) H2 (by simp [hl]) r2
def allD : List T → Option (List D)
  | [] => some []
  | .d x :: r => (allD r).map (x :: ·)
  | _ :: _ => Option.none
/-- a list of data on top -/
theorem Rep.pops {vs : List V} {ts : List T} {ds : List D} (h : Rep K H (⟨σ, δ, rz vs ts τ⟩ :: fs) M) (hl : vs.length = ts.length) (hd : allD ts = some ds) : ∃ G ow ι, RepG K H G ow ι (⟨σ, δ, τ⟩ :: fs) M ∧ AtL K G vs ds := by
  obtain ⟨G, ow, ι, x⟩ := h
  obtain ⟨h1, h2⟩ := rts_rz hl x.frs.1.tmps
  refine ⟨G, ow, ι, ⟨x.sub, x.own, x.lenM, x.cells, ⟨x.frs.1.len, x.frs.1.slots, h1⟩, x.frs.2⟩, ?_⟩
  clear h1 x
  have h3 : ∀ (j : Nat) (t : T), ts[j]? = some t → ∃ v, vs[j]? = some v ∧ ∃ k, RT K H G ow ι σ k v t := fun j t e => by
    obtain ⟨v, a, b⟩ := h2 j t e
    exact ⟨v, a, _, b⟩
  clear h2
  induction vs generalizing ts ds with
  | nil =>
    cases ts with
    | nil => cases hd; exact rfl
    | cons _ _ => simp at hl
  | cons v vs ih =>
    cases ts with
    | nil => simp at hl
    | cons t ts =>
      obtain ⟨v', e', k, r⟩ := h3 0 t rfl
      simp at e'
      subst e'
      cases t with
      | d x =>
        cases hq : allD ts with
        | none => simp [allD, hq] at hd
        | some ds' =>
          simp [allD, hq] at hd
          subst hd
          exact ⟨v, vs, rfl, r, ih (by simpa using hl) hq fun j t e => h3 (j + 1) t (by simpa using e)⟩
      | v x => simp [allD] at hd
      | con c => simp [allD] at hd
      | ref n => simp [allD] at hd
      | bor i => simp [allD] at hd
      | scr ns => simp [allD] at hd
      | exn x => simp [allD] at hd
      | st φ => simp [allD] at hd
def mTup (f : Sm (List T)) : Sm T := bnd f fun ts => opt ((allD ts).bind fun ds => if ds.length ≤ 1000 then some (.d (.tuple ds)) else Option.none)
def mLst (f : Sm (List T)) : Sm T := bnd f fun ts => opt ((allD ts).bind fun ds => if ds.length ≤ 1000 then some (.con (.lst ds)) else Option.none)
theorem Rep.newTup {vs : List V} {ds : List D} (h : ∃ G ow ι, RepG K H G ow ι (⟨σ, δ, τ⟩ :: fs) M ∧ AtL K G vs ds) {p : Addr} (hp : H p = none) : Rep K (upd H p (.tup vs)) (⟨σ, δ, (.ref p, .d (.tuple ds)) :: τ⟩ :: fs) M := by
  obtain ⟨G, ow, ι, x, a⟩ := h
  refine ⟨_, ow, ι, (x.newG (o := .tup vs) hp).push ?_⟩
  exact ⟨p, vs, rfl, .inl (.inl upd_same), AtL.mono (same_upd (x.gfree hp)) _ _ a⟩
theorem Rep.newLst {vs : List V} {ds : List D} (h : ∃ G ow ι, RepG K H G ow ι (⟨σ, δ, τ⟩ :: fs) M ∧ AtL K G vs ds) {p : Addr} (hp : H p = none) : Rep K (upd H p (.lst vs)) (⟨σ, δ, (.ref p, .con (.lst ds)) :: τ⟩ :: fs) M := by
  obtain ⟨G, ow, ι, x, a⟩ := h
  refine ⟨_, _, ι, (x.newO (o := .lst vs) hp (.tmp fs.length τ.length)).push ?_⟩
  exact ⟨p, rfl, ownW_same, vs, upd_same, a⟩
theorem k1000 {n : Nat} (h : n ≤ 1000) : n ≤ sizeLine := Nat.le_trans h (by decide)
theorem qe_tup {es : List Expr} {x1 : Nat} {pos : Pos} {f : Sm (List T)} (h : QA X W es f) : QE X W (.Tuple es x1 pos) (mTup f) := by
  refine (pe_tup h).imp fun σ H Q ⟨δ, τ, fs, M, r, q⟩ => ⟨δ, τ, fs, M, r, Res.post_mono (bnd_post q) (fun ts δ1 M1 q1 vs H1 hl r1 => ?_) fun _ _ _ z => z⟩
  obtain ⟨t, e, q2⟩ := opt_post q1
  cases hd : allD ts with
  | none => rw [hd] at e; cases e
  | some ds =>
    rw [hd] at e
    simp only [Option.bind_some] at e
    split at e
    · rename_i hz
      cases e
      have z := r1.pops hl hd
      have len : vs.length ≤ 1000 := by obtain ⟨_, _, _, _, a⟩ := z; rw [a.length]; exact hz
      exact ⟨k1000 len, fun p hp => q2 _ _ (Rep.newTup z hp)⟩
    · cases e
theorem qe_lst {es : List Expr} {pos : Pos} {f : Sm (List T)} (h : QA X W es f) : QE X W (.List es pos) (mLst f) := by
  refine (pe_lst h).imp fun σ H Q ⟨δ, τ, fs, M, r, q⟩ => ⟨δ, τ, fs, M, r, Res.post_mono (bnd_post q) (fun ts δ1 M1 q1 vs H1 hl r1 => ?_) fun _ _ _ z => z⟩
  obtain ⟨t, e, q2⟩ := opt_post q1
  cases hd : allD ts with
  | none => rw [hd] at e; cases e
  | some ds =>
    rw [hd] at e
    simp only [Option.bind_some] at e
    split at e
    · rename_i hz
      cases e
      have z := r1.pops hl hd
      have len : vs.length ≤ 1000 := by obtain ⟨_, _, _, _, a⟩ := z; rw [a.length]; exact hz
      exact ⟨k1000 len, fun p hp => q2 _ _ (Rep.newLst z hp)⟩
    · cases e
end
end DL

end
section
namespace DL
open PySem PySem.Spec L2
variable {X : Cx} {W : WX} {K : KF} {H G : Hp} {ow : Addr → Option Who} {ι : List Addr} {σ : St} {δ : Env} {τ : List (V × T)} {fs : List Fram} {M : Mem} {v u : V} {t : T} {e e' : Expr} {pos : Pos}

/-! ### looking at what a temporary is -/
def vw (t : T) (δ : Env) (M : Mem) : Option D :=
  match t with
  | .d x => some x
  | .con c => some c.toD
  | .ref n => (M[n]?).map C.toD
  | .bor i => match δ[i]? with
    | some (some (.con c)) => some c.toD
    | some (some (.d x)) => some x
    | _ => Option.none
  | .v _ => Option.none
  | .scr _ => Option.none
  | .exn _ => Option.none
  | .st _ => Option.none
/-- a datum whose own container may be changed later, its items never -/
def AtV (K : KF) (H G : Hp) (v : V) : D → Prop
  | .list ds => ∃ a vs, v = .ref a ∧ H a = some (.lst vs) ∧ AtL K G vs ds
  | .dict kvs => ∃ a kv, v = .ref a ∧ H a = some (.dK kv) ∧ AtK K G kv kvs
  | x => At K G v x
theorem At.toV (s : Same G H) {x : D} (h : At K G v x) : AtV K H G v x := by
  cases x with
  | list ds => obtain ⟨a, vs, e, q, l⟩ := h; exact ⟨a, vs, e, s _ _ q, l⟩
  | dict kvs => obtain ⟨a, kv, e, q, l⟩ := h; exact ⟨a, kv, e, s _ _ q, l⟩
  | _ => exact h
theorem AtV.at (s : Same G H) {x : D} (h : AtV K H G v x) : At K H v x := by
  cases x with
  | list ds => obtain ⟨a, vs, e, q, l⟩ := h; exact ⟨a, vs, e, q, AtL.mono s _ _ l⟩
  | dict kvs => obtain ⟨a, kv, e, q, l⟩ := h; exact ⟨a, kv, e, q, AtK.mono s _ _ l⟩
  | none => exact At.mono s _ _ h
  | bool b => exact At.mono s _ _ h
  | int i => exact At.mono s _ _ h
  | str y => exact At.mono s _ _ h
  | tuple ds => exact At.mono s (.tuple ds) _ h
theorem RC.atV {a : Addr} {c : C} (r : RC K H G a c) : AtV K H G (.ref a) c.toD := by
  cases c with
  | lst xs => obtain ⟨vs, q, l⟩ := r; exact ⟨a, vs, rfl, q, l⟩
  | dct kvs => obtain ⟨kv, q, l⟩ := r; exact ⟨a, kv, rfl, q, l⟩
theorem RepG.vw {w : Who} {x : D} (h : RepG K H G ow ι (⟨σ, δ, τ⟩ :: fs) M) (r : RT K H G ow ι σ w v t) (q : vw t δ M = some x) : AtV K H G v x := by
  cases t with
  | d y => cases q; exact At.toV h.sub r
  | v y => cases q
  | scr ns => cases q
  | exn x => cases q
  | st φ => cases q
  | con c => cases q; obtain ⟨a, e, _, rc⟩ := r; subst e; exact rc.atV
  | ref n =>
    obtain ⟨a, e, ea⟩ := r
    subst e
    cases hm : M[n]? with
    | none => simp [DL.vw, hm] at q
    | some c =>
      simp [DL.vw, hm] at q
      subst q
      obtain ⟨b, e1, _, rc⟩ := h.cells n c hm
      rw [ea] at e1; cases e1
      exact rc.atV
  | bor i =>
    have hv : σ[i]? = some (some v) := r
    unfold DL.vw at q
    simp only at q
    split at q
    · rename_i c qe
      cases q
      obtain ⟨_, v', e1, rt⟩ := h.slots_of qe
      rw [hv] at e1; cases e1
      obtain ⟨a, e, _, rc⟩ := rt
      subst e
      exact rc.atV
    · rename_i y qe
      cases q
      obtain ⟨_, v', e1, rt⟩ := h.slots_of qe
      rw [hv] at e1; cases e1
      exact At.toV h.sub rt
    · cases q
/-- plain: no object of its own -/
def plain : D → Bool
  | .none => true
  | .bool _ => true
  | .int _ => true
  | .str _ => true
  | _ => false
theorem plain_at {K' : KF} {G' : Hp} {x : D} (p : plain x = true) (h : At K G v x) : At K' G' v x := by
  cases x <;> first | exact h | cases p

/-! ### two operands: the answer a plain datum -/
def mOp2 (F : D → D → Option D) (f g : Sm T) : Sm T := bnd f fun x => bnd g fun y => fun δ M =>
  opt (((vw x δ M).bind fun a => (vw y δ M).bind fun b => F a b).bind fun z => if plain z = true then some (T.d z) else Option.none) δ M
/-- the rule of an operator by what it says of data -/
def OpD (X : Cx) (r : R2) (F : D → D → Option D) : Prop := ∀ (v u : V) (H : Hp) (Q : VK) (a b z : D), At X.K H v a → At X.K H u b → F a b = some z → (∀ w, (∀ G, At X.K G w z) → Q w H) → r v u H Q
def valOf : D → V
  | .bool b => .bl b
  | .int i => .int i
  | .str x => .str x
  | _ => .non
theorem valOf_at {z : D} (p : plain z = true) : At K G (valOf z) z := by
  cases z <;> first | rfl | cases p
theorem two_ops {Q : VK} {f g : Sm T} {F : D → D → Option D} {r : R2} (hF : OpD X r F)
    (h : tE X.K W (mOp2 F f g) σ H Q) : tE X.K W f σ H fun x H1 => tE X.K W g σ H1 fun y H2 => r x y H2 Q := by
  obtain ⟨δ, τ, fs, M, rp, q⟩ := h
  refine ⟨δ, τ, fs, M, rp, Res.post_mono (bnd_post q) (fun a δ1 M1 q1 v H1 r1 => ?_) fun _ _ _ z => z⟩
  refine ⟨δ1, (v, a) :: τ, fs, M1, r1, Res.post_mono (bnd_post q1) (fun b δ2 M2 q2 u H2 r2 => ?_) fun _ _ _ z => z.push⟩
  obtain ⟨z, ez, q3⟩ := opt_post q2
  obtain ⟨G, ow, ι, x⟩ := r2
  cases ea : vw a δ2 M2 with
  | none => rw [ea] at ez; cases ez
  | some da =>
    cases eb : vw b δ2 M2 with
    | none => rw [ea, eb] at ez; cases ez
    | some db =>
      rw [ea, eb] at ez
      simp only [Option.bind_some] at ez
      cases ef : F da db with
      | none => rw [ef] at ez; cases ez
      | some dz =>
        rw [ef] at ez
        simp only [Option.bind_some] at ez
        split at ez
        · rename_i hp
          cases ez
          exact hF v u H2 Q da db dz ((x.vw x.pop.top ea).at x.sub) ((x.vw x.top eb).at x.sub) ef fun w hw => q3 w H2 ⟨G, ow, ι, x.pop.pop.push (hw G)⟩
        · cases ez
theorem qe_op2 {op : Operator} {r : R2} {F : D → D → Option D} {f g : Sm T} (ho : OpR X (binaryOp op) r) (hF : OpD X r F) (h : QE X W e f) (h' : QE X W e' g) : QE X W (.BinOp e op e' pos) (mOp2 F f g) :=
  (pe_op ho h h').imp fun _ _ _ q => two_ops hF q
theorem qe_cmp2 {op : CmpOp} {r : R2} {F : D → D → Option D} {f g : Sm T} (ho : OpR X (compareOp op) r) (hF : OpD X r F) (h : QE X W e f) (h' : QE X W e' g) (hm : behindInMarks op e' = false) : QE X W (.Compare e [op] [e'] pos) (mOp2 F f g) :=
  (pe_cmpR ho h h' hm).imp fun _ _ _ q => two_ops hF q

def iiF (C : Int → Int → Bool) (g : Int → Int → D) : D → D → Option D
  | .int i, .int j => if C i j = true then some (g i j) else Option.none
  | _, _ => Option.none
theorem opd_ii {P : Int → Int → Prop} {C : Int → Int → Bool} {g : Int → Int → D} {gv : Int → Int → V} (hc : ∀ i j, C i j = true → P i j) (hg : ∀ i j G, At X.K G (gv i j) (g i j)) : OpD X (rI P gv) (iiF C g) := by
  intro v u H Q a b z ha hb ef k
  cases a with
  | int i =>
    cases b with
    | int j =>
      unfold iiF at ef
      simp only at ef
      split at ef
      · rename_i hC
        cases ef
        exact ⟨i, j, ha, hb, hc i j hC, k _ fun G => hg i j G⟩
      · cases ef
    | _ => cases ef
  | _ => cases ef
theorem opd_ii0 {g : Int → Int → D} {gv : Int → Int → V} (hg : ∀ i j G, At X.K G (gv i j) (g i j)) : OpD X (rI0 gv) (iiF (fun _ _ => true) g) := by
  intro v u H Q a b z ha hb ef k
  obtain ⟨i, j, h1, h2, _, q⟩ := opd_ii (X := X) (P := fun _ _ => True) (fun _ _ _ => trivial) hg v u H Q a b z ha hb ef k
  exact ⟨i, j, h1, h2, q⟩
def mulOk (i j : Int) : Bool := decide (i.natAbs < 2 ^ 64) || decide (j.natAbs < 2 ^ 64) || decide (i.natAbs.log2 + j.natAbs.log2 < 1000000)
def divOk (_ j : Int) : Bool := decide (0 < j) && decide (j.natAbs.log2 < 9000)
def powOk (i j : Int) : Bool := decide (0 ≤ j) && decide ((Builtin.Int.intBits i : Int) * j ≤ 2 ^ 27)
theorem op_powW : OpR X (binaryOp .Pow) (rI (fun i j => 0 ≤ j ∧ (Builtin.Int.intBits i : Int) * j ≤ 2 ^ 27) fun i j => .int (i ^ j.toNat)) := opI fun _ _ _ _ _ _ _ hc q => PyProof.Rows.pow_int hc.1 hc.2 q
theorem opd_mul : OpD X (fun x y H Q => rI CMul (fun i j => .int (i * j)) x y H Q ∨ rI CMulW (fun i j => .int (i * j)) x y H Q) (iiF mulOk fun i j => .int (i * j)) := by
  intro v u H Q a b z ha hb ef k
  obtain ⟨i, j, h1, h2, hc, q⟩ := opd_ii (X := X) (P := fun i j => mulOk i j = true) (C := mulOk) (g := fun i j => .int (i * j)) (gv := fun i j => .int (i * j)) (fun _ _ h => h) (fun _ _ _ => rfl) v u H Q a b z ha hb ef k
  unfold mulOk at hc
  simp only [Bool.or_eq_true, decide_eq_true_eq] at hc
  rcases hc with (hc | hc) | hc
  · exact .inl ⟨i, j, h1, h2, .inl (by omega), q⟩
  · exact .inl ⟨i, j, h1, h2, .inr (by omega), q⟩
  · exact .inr ⟨i, j, h1, h2, hc, q⟩
section
variable {f g : Sm T}
def fSub := iiF (fun _ _ => true) fun i j => .int (i - j)
def fMod := iiF (fun _ j => decide (0 < j)) fun i j => .int (i % j)
def fDiv := iiF divOk fun i j => .int (i / j)
def fPow := iiF powOk fun i j => .int (i ^ j.toNat)
def fLt := iiF (fun _ _ => true) fun i j => .bool (decide (i < j))
def fLe := iiF (fun _ _ => true) fun i j => .bool (decide (i ≤ j))
def fGt := iiF (fun _ _ => true) fun i j => .bool (decide (j < i))
def fGe := iiF (fun _ _ => true) fun i j => .bool (decide (j ≤ i))
theorem qe_mul (h : QE X W e f) (h' : QE X W e' g) : QE X W (.BinOp e .Mult e' pos) (mOp2 (iiF mulOk fun i j => .int (i * j)) f g) := qe_op2 (op_mul.or op_mulW) opd_mul h h'
theorem qe_sub (h : QE X W e f) (h' : QE X W e' g) : QE X W (.BinOp e .Sub e' pos) (mOp2 fSub f g) := qe_op2 op_sub (opd_ii0 fun _ _ _ => rfl) h h'
theorem qe_mod (h : QE X W e f) (h' : QE X W e' g) : QE X W (.BinOp e .Mod e' pos) (mOp2 fMod f g) := qe_op2 op_mod (opd_ii (fun _ _ h => of_decide_eq_true h) fun _ _ _ => rfl) h h'
theorem qe_div (h : QE X W e f) (h' : QE X W e' g) : QE X W (.BinOp e .FloorDiv e' pos) (mOp2 fDiv f g) :=
  qe_op2 op_fdivW (opd_ii (fun i j h => by simpa [divOk, CDivW] using h) fun _ _ _ => rfl) h h'
theorem qe_pow (h : QE X W e f) (h' : QE X W e' g) : QE X W (.BinOp e .Pow e' pos) (mOp2 fPow f g) :=
  qe_op2 op_powW (opd_ii (fun i j h => by simpa [powOk] using h) fun _ _ _ => rfl) h h'
theorem qe_lt (h : QE X W e f) (h' : QE X W e' g) : QE X W (.Compare e [.Lt] [e'] pos) (mOp2 fLt f g) := qe_cmp2 op_lt (opd_ii0 fun _ _ _ => rfl) h h' (nomark _)
theorem qe_le (h : QE X W e f) (h' : QE X W e' g) : QE X W (.Compare e [.LtE] [e'] pos) (mOp2 fLe f g) := qe_cmp2 op_le (opd_ii0 fun _ _ _ => rfl) h h' (nomark _)
theorem qe_gt (h : QE X W e f) (h' : QE X W e' g) : QE X W (.Compare e [.Gt] [e'] pos) (mOp2 fGt f g) := qe_cmp2 op_gt (opd_ii0 fun _ _ _ => rfl) h h' (nomark _)
theorem qe_ge (h : QE X W e f) (h' : QE X W e' g) : QE X W (.Compare e [.GtE] [e'] pos) (mOp2 fGe f g) := qe_cmp2 op_ge (opd_ii0 fun _ _ _ => rfl) h h' (nomark _)
end

/-! ### == and != -/
mutual
theorem At.dp : ∀ (d : D) (v : V), At K H v d → d.plain = true → Dp K H v d
  | .none, _, h, _ => by cases h; exact .non
  | .bool b, _, h, _ => by cases h; exact .bl b
  | .int i, _, h, _ => by cases h; exact .int i
  | .str x, _, h, _ => by cases h; exact .str x
  | .list ds, _, ⟨a, vs, e, q, l⟩, c => by subst e; exact .lst (SqL.of q) (AtL.dp ds vs l (by simpa [PyData.plain] using c))
  | .tuple ds, _, ⟨a, vs, e, q, l⟩, c => by subst e; exact .tup q (AtL.dp ds vs l (by simpa [PyData.plain] using c))
  | .dict _, _, _, c => by simp [PyData.plain] at c
theorem AtL.dp : ∀ (ds : List D) (vs : List V), AtL K H vs ds → PyData.plainAll ds = true → DpAll K H vs ds
  | [], _, h, _ => by rw [show _ = _ from h]; exact .nil
  | d :: ds, _, ⟨v, r, e, h1, h2⟩, c => by
    subst e
    have c' : d.plain = true ∧ PyData.plainAll ds = true := by simpa [PyData.plainAll] using c
    exact .cons (At.dp d v h1 c'.1) (AtL.dp ds r h2 c'.2)
end
def eqOk (a b : D) : Bool := a.plain && b.plain && decide (min a.depth b.depth ≤ 64)
def fEq : D → D → Option D := fun a b => if eqOk a b = true then some (.bool (PyData.eqv a b)) else Option.none
def fNe : D → D → Option D := fun a b => if eqOk a b = true then some (.bool (!PyData.eqv a b)) else Option.none
def rEqP (K : KF) : R2 := fun x y H Q => ∃ d e, Dp K H x d ∧ Dp K H y e ∧ eqOk d e = true ∧ Q (.bl (PyData.eqv d e)) H
def rNeP (K : KF) : R2 := fun x y H Q => ∃ d e, Dp K H x d ∧ Dp K H y e ∧ eqOk d e = true ∧ Q (.bl (!PyData.eqv d e)) H
theorem op_eqP (hu : X.A.units + 64 < cLine) : OpR X (compareOp .Eq) (rEqP X.K) := by
  intro pins s σ H x y v u Q I rx ry h
  obtain ⟨d, e, hd, he, sd, q⟩ := h
  unfold eqOk at sd
  simp only [Bool.and_eq_true, decide_eq_true_eq] at sd
  obtain ⟨as, r1⟩ := Dp.reads I d x v hd rx
  obtain ⟨bs, r2⟩ := Dp.reads I e y u he ry
  exact SeqAt.eq_plain r1 r2 sd.1.1 sd.1.2 (by omega) ⟨.bl _, H, I, rfl, q⟩
theorem op_neP (hu : X.A.units + 64 < cLine) : OpR X (compareOp .NotEq) (rNeP X.K) := by
  intro pins s σ H x y v u Q I rx ry h
  obtain ⟨d, e, hd, he, sd, q⟩ := h
  unfold eqOk at sd
  simp only [Bool.and_eq_true, decide_eq_true_eq] at sd
  obtain ⟨as, r1⟩ := Dp.reads I d x v hd rx
  obtain ⟨bs, r2⟩ := Dp.reads I e y u he ry
  exact SeqAt.ne_plain r1 r2 sd.1.1 sd.1.2 (by omega) ⟨.bl _, H, I, rfl, q⟩
theorem eqOk_p {a b : D} (h : eqOk a b = true) : a.plain = true ∧ b.plain = true := by
  unfold eqOk at h
  simp only [Bool.and_eq_true] at h
  exact h.1
theorem opd_eq : OpD X (rEqP X.K) fEq := by
  intro v u H Q a b z ha hb ef k
  unfold fEq at ef
  split at ef
  · rename_i hs
    cases ef
    exact ⟨a, b, At.dp a v ha (eqOk_p hs).1, At.dp b u hb (eqOk_p hs).2, hs, k _ fun _ => rfl⟩
  · cases ef
theorem opd_ne : OpD X (rNeP X.K) fNe := by
  intro v u H Q a b z ha hb ef k
  unfold fNe at ef
  split at ef
  · rename_i hs
    cases ef
    exact ⟨a, b, At.dp a v ha (eqOk_p hs).1, At.dp b u hb (eqOk_p hs).2, hs, k _ fun _ => rfl⟩
  · cases ef
section
variable {f g : Sm T} {k : Nat}
theorem qe_eq (hr : Room k X.A) (h : QE X W e f) (h' : QE X W e' g) : QE X W (.Compare e [.Eq] [e'] pos) (mOp2 fEq f g) := qe_cmp2 (op_eqP hr.units) opd_eq h h' (nomark _)
theorem qe_ne (hr : Room k X.A) (h : QE X W e f) (h' : QE X W e' g) : QE X W (.Compare e [.NotEq] [e'] pos) (mOp2 fNe f g) := qe_cmp2 (op_neP hr.units) opd_ne h h' (nomark _)
/-- is None, is not None -/
def fIsN : D → D → Option D
  | .none, .none => some (.bool true)
  | _, .none => some (.bool false)
  | _, _ => Option.none
def fNotN : D → D → Option D
  | .none, .none => some (.bool false)
  | _, .none => some (.bool true)
  | _, _ => Option.none
theorem at_non {x : D} (h : At K H v x) : decide (v = V.non) = (match x with | .none => true | _ => false) := by
  cases x with
  | none => cases h; rfl
  | bool b => cases h; rfl
  | int b => cases h; rfl
  | str b => cases h; rfl
  | list ds => obtain ⟨a, _, e, _⟩ := h; subst e; rfl
  | tuple ds => obtain ⟨a, _, e, _⟩ := h; subst e; rfl
  | dict ds => obtain ⟨a, _, e, _⟩ := h; subst e; rfl
theorem qe_isN (h : QE X W e f) (h' : QE X W e' g) : QE X W (.Compare e [.Is] [e'] pos) (mOp2 fIsN f g) := by
  refine qe_cmp2 op_isN (fun v u H Q a b z ha hb ef k => ?_) h h' (nomark _)
  cases b with
  | none => refine ⟨hb, k _ fun G => ?_⟩; rw [at_non ha]; cases a <;> (cases ef; rfl)
  | _ => cases a <;> cases ef
theorem qe_notN (h : QE X W e f) (h' : QE X W e' g) : QE X W (.Compare e [.IsNot] [e'] pos) (mOp2 fNotN f g) := by
  refine qe_cmp2 op_notN (fun v u H Q a b z ha hb ef k => ?_) h h' (nomark _)
  cases b with
  | none => refine ⟨hb, k _ fun G => ?_⟩; rw [at_non ha]; cases a <;> (cases ef; rfl)
  | _ => cases a <;> cases ef
end
end DL

end
section
namespace DL
open PySem PySem.Spec L2
variable {X : Cx} {W : WX} {K : KF} {H G : Hp} {ow : Addr → Option Who} {ι : List Addr} {σ : St} {δ : Env} {τ : List (V × T)} {fs : List Fram} {M : Mem} {v u : V} {t : T} {e e' : Expr} {pos : Pos}

/-! ### tests -/
def mTest (f : Sm T) : Sm Bool := bnd f fun t => fun δ M =>
  match vw t δ M with
  | some (.bool b) => .ok b δ M
  | _ => .bad
theorem test_of {f : Sm T} {Q : Bool → Hp → Prop} (h : tT X.K W (mTest f) σ H Q) : tE X.K W f σ H fun x H' => ∃ k, x = .bl k ∧ Q k H' := by
  obtain ⟨δ, τ, fs, M, r, q⟩ := h
  refine ⟨δ, τ, fs, M, r, Res.post_mono (bnd_post q) (fun a δ1 M1 q1 v H1 r1 => ?_) fun _ _ _ z => z⟩
  obtain ⟨G, ow, ι, x⟩ := r1
  cases ea : vw a δ1 M1 with
  | none => rw [ea] at q1; exact q1.elim
  | some d =>
    rw [ea] at q1
    cases d with
    | bool b => exact ⟨b, x.vw x.top ea, q1 H1 ⟨G, ow, ι, x.pop⟩⟩
    | _ => exact q1.elim
theorem qt_val {f : Sm T} (h : QE X W e f) (he : ∀ whole, isTrue e X.env whole = (do let v ← whole; standAt e.pos; holding [v] (truthy v)) := by intro _; rfl) : QT X W e (mTest f) :=
  (pt_val h he).imp fun _ _ _ q => test_of q
/-- a comparison by what it says of data -/
def CD (X : Cx) (op : CmpOp) (F : D → D → Option D) : Prop := ∃ r, OpR X (compareOp op) r ∧ OpD X r F
section
variable {op : CmpOp} {F : D → D → Option D} {f g : Sm T} {k : Nat}
theorem qe_c (c : CD X op F) (h : QE X W e f) (h' : QE X W e' g) (hm : behindInMarks op e' = false) : QE X W (.Compare e [op] [e'] pos) (mOp2 F f g) := let ⟨_, a, b⟩ := c; qe_cmp2 a b h h' hm
theorem qt_c (c : CD X op F) (h : QE X W e f) (h' : QE X W e' g) (hm : behindInMarks op e' = false) : QT X W (.Compare e [op] [e'] pos) (mTest (mOp2 F f g)) := by
  obtain ⟨r, a, b⟩ := c
  exact (pt_cmpR a h h' hm).imp fun _ _ _ q => two_ops b (test_of q)
theorem cd_lt : CD X .Lt fLt := ⟨_, op_lt, opd_ii0 fun _ _ _ => rfl⟩
theorem cd_le : CD X .LtE fLe := ⟨_, op_le, opd_ii0 fun _ _ _ => rfl⟩
theorem cd_gt : CD X .Gt fGt := ⟨_, op_gt, opd_ii0 fun _ _ _ => rfl⟩
theorem cd_ge : CD X .GtE fGe := ⟨_, op_ge, opd_ii0 fun _ _ _ => rfl⟩
theorem cd_eq (hr : Room k X.A) : CD X .Eq fEq := ⟨_, op_eqP hr.units, opd_eq⟩
theorem cd_ne (hr : Room k X.A) : CD X .NotEq fNe := ⟨_, op_neP hr.units, opd_ne⟩
theorem cd_isN : CD X .Is fIsN := ⟨_, op_isN, fun v u H Q a b z ha hb ef k => by
  cases b with
  | none => refine ⟨hb, k _ fun G => ?_⟩; rw [at_non ha]; cases a <;> (cases ef; rfl)
  | _ => cases a <;> cases ef⟩
theorem cd_notN : CD X .IsNot fNotN := ⟨_, op_notN, fun v u H Q a b z ha hb ef k => by
  cases b with
  | none => refine ⟨hb, k _ fun G => ?_⟩; rw [at_non ha]; cases a <;> (cases ef; rfl)
  | _ => cases a <;> cases ef⟩
/-- a op b op' c -/
def mChain (F F' : D → D → Option D) (f g h : Sm T) : Sm T := bnd f fun x => bnd g fun y => fun δ M =>
  match (vw x δ M).bind fun a => (vw y δ M).bind fun b => F a b with
  | some (.bool true) => (bnd h fun z => fun δ' M' => opt (((vw y δ' M').bind fun b => (vw z δ' M').bind fun c => F' b c).bind fun w => if plain w = true then some (T.d w) else Option.none) δ' M') δ M
  | some (.bool false) => .ok (.d (.bool false)) δ M
  | _ => .bad
theorem chain_of {r r' : R2} {F F' : D → D → Option D} {f g h : Sm T} {Q : VK} (hF : OpD X r F) (hF' : OpD X r' F') (q : tE X.K W (mChain F F' f g h) σ H Q) : tChain r r' (tE X.K W f) (tE X.K W g) (tE X.K W h) σ H Q := by
  obtain ⟨δ, τ, fs, M, rp, q⟩ := q
  refine ⟨δ, τ, fs, M, rp, Res.post_mono (bnd_post q) (fun a δ1 M1 q1 v H1 r1 => ?_) fun _ _ _ z => z⟩
  refine ⟨δ1, (v, a) :: τ, fs, M1, r1, Res.post_mono (bnd_post q1) (fun b δ2 M2 q2 u H2 r2 => ?_) fun _ _ _ z => z.push⟩
  obtain ⟨G, ow, ι, x⟩ := id r2
  cases ea : vw a δ2 M2 with
  | none => rw [ea] at q2; exact q2.elim
  | some da =>
    cases eb : vw b δ2 M2 with
    | none => rw [ea, eb] at q2; exact q2.elim
    | some db =>
      rw [ea, eb] at q2
      simp only [Option.bind_some] at q2
      cases ef : F da db with
      | none => rw [ef] at q2; exact q2.elim
      | some dz =>
        rw [ef] at q2
        refine hF v u H2 _ da db dz ((x.vw x.pop.top ea).at x.sub) ((x.vw x.top eb).at x.sub) ef fun w hw => ?_
        cases dz with
        | bool bb =>
          refine ⟨bb, hw G, ?_⟩
          cases bb with
          | false => exact q2 _ H2 (Rep.pushD (x := .bool false) (v := .bl false) ⟨G, ow, ι, x.pop.pop⟩ fun _ _ => rfl)
          | true =>
            refine ⟨δ2, (u, b) :: (v, a) :: τ, fs, M2, r2, Res.post_mono (bnd_post q2) (fun c δ3 M3 q3 y H3 r3 => ?_) fun _ _ _ z => z.push.push⟩
            obtain ⟨z, ez, q4⟩ := opt_post q3
            obtain ⟨G3, ow3, ι3, x3⟩ := r3
            cases eb3 : vw b δ3 M3 with
            | none => rw [eb3] at ez; cases ez
            | some db3 =>
              cases ec : vw c δ3 M3 with
              | none => rw [eb3, ec] at ez; cases ez
              | some dc =>
                rw [eb3, ec] at ez
                simp only [Option.bind_some] at ez
                cases ef' : F' db3 dc with
                | none => rw [ef'] at ez; cases ez
                | some dw =>
                  rw [ef'] at ez
                  simp only [Option.bind_some] at ez
                  split at ez
                  · cases ez
                    exact hF' u y H3 Q db3 dc dw ((x3.vw x3.pop.top eb3).at x3.sub) ((x3.vw x3.top ec).at x3.sub) ef' fun w' hw' => q4 w' H3 ⟨G3, ow3, ι3, x3.pop.pop.pop.push (hw' G3)⟩
                  · cases ez
        | _ => exact q2.elim
end
def mNotT (f : Sm Bool) : Sm Bool := bnd f fun b => ret (!b)
theorem qt_not {f : Sm Bool} (h : QT X W e f) : QT X W (.UnaryOp .Not e pos) (mNotT f) :=
  (pt_not h).imp fun σ H Q ⟨δ, τ, fs, M, r, q⟩ => ⟨δ, τ, fs, M, r, Res.post_mono (bnd_post q) (fun _ _ _ q1 => q1) fun _ _ _ z => z⟩
abbrev QW (X : Cx) (W : WX) (e : Expr) (f : Sm Bool) : Prop := PW X e (tT X.K W f)
theorem _root_.L2.PW.imp {t t' : TT} (h : PW X e t) (i : ∀ σ H Q, t' σ H Q → t σ H Q) : PW X e t' := ⟨fun wh pins s σ H Q I q => h.run wh pins s σ H Q I (i _ _ _ q)⟩
def mAndT (f g : Sm Bool) : Sm Bool := bnd f fun b => if b = true then g else ret false
def mOrT (f g : Sm Bool) : Sm Bool := bnd f fun b => if b = true then ret true else g
section
variable {f g : Sm Bool} {b : Expr} {rest : List Expr}
theorem qw_and1 (h : QT X W e f) : QW X W (.BoolOp .And [e] pos) f := pw_and1 h
theorem qw_or1 (h : QT X W e f) : QW X W (.BoolOp .Or [e] pos) f := pw_or1 h
theorem qw_and (h : QT X W e f) (h' : QW X W (.BoolOp .And (b :: rest) pos) g) : QW X W (.BoolOp .And (e :: b :: rest) pos) (mAndT f g) := by
  refine (pw_and h h').imp fun σ H Q ⟨δ, τ, fs, M, r, q⟩ => ⟨δ, τ, fs, M, r, Res.post_mono (bnd_post q) (fun b δ1 M1 q1 H1 r1 => ?_) fun _ _ _ z => z⟩
  cases b with
  | true => exact ⟨δ1, τ, fs, M1, r1, q1⟩
  | false => exact q1 H1 r1
theorem qw_or (h : QT X W e f) (h' : QW X W (.BoolOp .Or (b :: rest) pos) g) : QW X W (.BoolOp .Or (e :: b :: rest) pos) (mOrT f g) := by
  refine (pw_or h h').imp fun σ H Q ⟨δ, τ, fs, M, r, q⟩ => ⟨δ, τ, fs, M, r, Res.post_mono (bnd_post q) (fun b δ1 M1 q1 H1 r1 => ?_) fun _ _ _ z => z⟩
  cases b with
  | true => exact q1 H1 r1
  | false => exact ⟨δ1, τ, fs, M1, r1, q1⟩
theorem qt_w (h : QW X W e f) : QT X W e f := h.pt
end
/-- and, or, not as values: bools -/
def mAndV (f g : Sm T) : Sm T := bnd f fun t => match t with
  | .d (.bool b) => if b = true then g else ret (.d (.bool false))
  | _ => fail
def mOrV (f g : Sm T) : Sm T := bnd f fun t => match t with
  | .d (.bool b) => if b = true then ret (.d (.bool true)) else g
  | _ => fail
def mNotV (f : Sm T) : Sm T := bnd f fun t => match t with
  | .d (.bool b) => ret (.d (.bool !b))
  | _ => fail
theorem Rep.topD {x : D} (h : Rep K H (⟨σ, δ, (v, .d x) :: τ⟩ :: fs) M) : At K H v x := let ⟨_, _, _, y⟩ := h; At.mono y.sub _ _ y.top
section
variable {f g : Sm T} {b : Expr} {rest : List Expr} {op : BoolOpKind}
theorem qe_and (h : QE X W e f) (h' : QE X W (.BoolOp .And (b :: rest) pos) g) : QE X W (.BoolOp .And (e :: b :: rest) pos) (mAndV f g) := by
  refine (pe_and h h').imp fun σ H Q ⟨δ, τ, fs, M, r, q⟩ => ⟨δ, τ, fs, M, r, Res.post_mono (bnd_post q) (fun t δ1 M1 q1 v H1 r1 => ?_) fun _ _ _ z => z⟩
  cases t with
  | d x =>
    cases x with
    | bool c =>
      refine ⟨c, r1.topD, ?_⟩
      cases c with
      | true => exact ⟨δ1, τ, fs, M1, r1.pop, q1⟩
      | false => exact q1 _ H1 (r1.pop.pushD fun _ _ => rfl)
    | _ => exact q1.elim
  | _ => exact q1.elim
theorem qe_or (h : QE X W e f) (h' : QE X W (.BoolOp .Or (b :: rest) pos) g) : QE X W (.BoolOp .Or (e :: b :: rest) pos) (mOrV f g) := by
  refine (pe_or h h').imp fun σ H Q ⟨δ, τ, fs, M, r, q⟩ => ⟨δ, τ, fs, M, r, Res.post_mono (bnd_post q) (fun t δ1 M1 q1 v H1 r1 => ?_) fun _ _ _ z => z⟩
  cases t with
  | d x =>
    cases x with
    | bool c =>
      refine ⟨c, r1.topD, ?_⟩
      cases c with
      | true => exact q1 _ H1 (r1.pop.pushD fun _ _ => rfl)
      | false => exact ⟨δ1, τ, fs, M1, r1.pop, q1⟩
    | _ => exact q1.elim
  | _ => exact q1.elim
theorem qe_not (h : QE X W e f) : QE X W (.UnaryOp .Not e pos) (mNotV f) := by
  refine (pe_not h).imp fun σ H Q ⟨δ, τ, fs, M, r, q⟩ => ⟨δ, τ, fs, M, r, Res.post_mono (bnd_post q) (fun t δ1 M1 q1 v H1 r1 => ?_) fun _ _ _ z => z⟩
  cases t with
  | d x =>
    cases x with
    | bool c => exact ⟨c, r1.topD, q1 _ H1 (r1.pop.pushD fun _ _ => rfl)⟩
    | _ => exact q1.elim
  | _ => exact q1.elim
def mIf {α : Type} (c : Sm Bool) (f g : Sm α) : Sm α := bnd c fun b => if b = true then f else g
theorem qe_if {c : Expr} {cf : Sm Bool} (hc : QT X W c cf) (h : QE X W e f) (h' : QE X W e' g) : QE X W (.IfExp c e e' pos) (mIf cf f g) := by
  refine (pe_ifExp hc h h').imp fun σ H Q ⟨δ, τ, fs, M, r, q⟩ => ⟨δ, τ, fs, M, r, Res.post_mono (bnd_post q) (fun b δ1 M1 q1 H1 r1 => ?_) fun _ _ _ z => z⟩
  cases b with
  | true => exact ⟨δ1, τ, fs, M1, r1, q1⟩
  | false => exact ⟨δ1, τ, fs, M1, r1, q1⟩
/-- -e -/
def mNeg (f : Sm T) : Sm T := bnd f fun t => match t with
  | .d (.int i) => ret (.d (.int (-i)))
  | _ => fail
theorem qe_neg (h : QE X W e f) : QE X W (.UnaryOp .USub e pos) (mNeg f) := by
  refine (pe_un un_neg h).imp fun σ H Q ⟨δ, τ, fs, M, r, q⟩ => ⟨δ, τ, fs, M, r, Res.post_mono (bnd_post q) (fun t δ1 M1 q1 v H1 r1 => ?_) fun _ _ _ z => z⟩
  cases t with
  | d x =>
    cases x with
    | int c => exact ⟨c, r1.topD, q1 _ H1 (r1.pop.pushD fun _ _ => rfl)⟩
    | _ => exact q1.elim
  | _ => exact q1.elim
end

/-! ### what a name may hold -/
def mOwn (t : T) : Sm T := fun δ M =>
  match t with
  | .bor i => match δ[i]? with
    | some (some (.con c)) => .ok (.con c) (δ.set i none) M
    | some (some (.d x)) => .ok (.d x) δ M
    | _ => .bad
  | t => .ok t δ M
theorem Rep.own (h : Rep K H (⟨σ, δ, (v, t) :: τ⟩ :: fs) M) {r : T} {δ' : Env} {M' : Mem} (e : mOwn t δ M = .ok r δ' M') : Rep K H (⟨σ, δ', (v, r) :: τ⟩ :: fs) M' ∧ r.isBor = false := by
  cases t with
  | d x => cases e; exact ⟨h, rfl⟩
  | v x => cases e; exact ⟨h, rfl⟩
  | ref n => cases e; exact ⟨h, rfl⟩
  | scr ns => cases e; exact ⟨h, rfl⟩
  | exn x => cases e; exact ⟨h, rfl⟩
  | st φ => cases e; exact ⟨h, rfl⟩
  | con c => cases e; exact ⟨h, rfl⟩
  | bor i =>
    have hv : σ[i]? = some (some v) := let ⟨_, _, _, x⟩ := h; x.top
    unfold mOwn at e
    simp only at e
    split at e
    · rename_i c q
      cases e
      obtain ⟨v', e1, r⟩ := h.take q
      rw [hv] at e1; cases e1
      exact ⟨r.nip, rfl⟩
    · rename_i x q
      cases e
      obtain ⟨G, ow, ι, y⟩ := h
      obtain ⟨nb, v', e1, r⟩ := y.pop.slots_of q
      rw [hv] at e1; cases e1
      exact ⟨⟨G, ow, ι, y.pop.push r⟩, rfl⟩
    · cases e
theorem mOwn_noex {e : XD} {δ' : Env} {M' : Mem} : mOwn t δ M ≠ .ex e δ' M' := by
  intro h
  unfold mOwn at h
  split at h
  · split at h <;> cases h
  · cases h
theorem mOwn_post {k : T → Env → Mem → Prop} {x : XD → Env → Mem → Prop} (h : (mOwn t δ M).post k x) : ∃ r δ' M', mOwn t δ M = .ok r δ' M' ∧ k r δ' M' := by
  cases e : mOwn t δ M with
  | ok r δ' M' => rw [e] at h; exact ⟨r, δ', M', rfl, h⟩
  | ex a b c => exact (mOwn_noex e).elim
  | bad => rw [e] at h; exact h.elim

/-! ### statements -/
section
variable {f g : Sm T} {st : Stmt} {sts a b : List Stmt} {i : Nat}
theorem xw {e : XD} (h : xS K W τ fs e δ M) : wX K W σ τ fs e δ M := fun d H' r => h d σ H' r
def mExpr (f : Sm T) : Sm Fl := bnd f fun _ => ret .nx
theorem qs_expr (h : QE X W e f) (hs : swapsWith e none pos.line X.env = pure false := by rfl) : QS X W (.Expr e pos) (mExpr f) :=
  (ps_expr h hs).imp fun D σ H ⟨δ, τ, fs, M, nb, r, q⟩ => ⟨δ, τ, fs, M, r, Res.post_mono (bnd_post q) (fun t δ1 M1 q1 v H1 r1 => q1 σ H1 r1.pop) fun _ _ _ z => xw z⟩
def mRet (f : Sm T) : Sm Fl := bnd f fun t => bnd (mOwn t) fun r => ret (.rt r)
theorem qs_ret (h : QE X W e f) : QS X W (.Return (some e) pos) (mRet f) := by
  refine (ps_ret h).imp fun D σ H ⟨δ, τ, fs, M, nb, r, q⟩ => ⟨δ, τ, fs, M, r, Res.post_mono (bnd_post q) (fun t δ1 M1 q1 v H1 r1 => ?_) fun _ _ _ z => xw z⟩
  obtain ⟨r', δ2, M2, e2, q2⟩ := mOwn_post (bnd_post q1)
  exact q2.2 v σ H1 (r1.own e2).1
def mSet (i : Nat) (f : Sm T) : Sm Fl := bnd f fun t => bnd (mOwn t) fun r => fun δ M => if i < δ.length then .ok .nx (δ.set i (some r)) M else .bad
theorem qs_set {x : Str} {pos' : Pos} (hN : X.N.Nodup) (hi : X.N[i]? = some x) (hx : Loc X.env.scope x) (h : QE X W e f) (hs : swapsWith e (some (.Name x pos')) pos.line X.env = pure false := by rfl)
    (hf : X.fn x = true ∨ X.env.scope.names.lookup x = some .local := by first | exact .inl rfl | exact .inr rfl | assumption) : QS X W (.Assign [.Name x pos'] e pos) (mSet i f) := by
  refine (ps_set hN hi hx h hs hf).imp fun D σ H ⟨δ, τ, fs, M, nb, r, q⟩ => ⟨δ, τ, fs, M, r, Res.post_mono (bnd_post q) (fun t δ1 M1 q1 v H1 r1 => ?_) fun _ _ _ z => xw z⟩
  obtain ⟨r', δ2, M2, e2, q2⟩ := mOwn_post (bnd_post q1)
  obtain ⟨r2, nb2⟩ := r1.own e2
  split at q2
  · rename_i hl
    exact q2 _ H1 (r2.put nb2 nb (by rw [r2.len]; exact hl))
  · exact q2.elim
/-- .. as a cell: what others may change -/
def mSetC (i : Nat) (f : Sm T) : Sm Fl := bnd f fun t => fun δ M => match t with
  | .con c => if i < δ.length then .ok .nx (δ.set i (some (.ref M.length))) (M ++ [c]) else .bad
  | _ => .bad
theorem qs_setC {x : Str} {pos' : Pos} (hN : X.N.Nodup) (hi : X.N[i]? = some x) (hx : Loc X.env.scope x) (h : QE X W e f) (hs : swapsWith e (some (.Name x pos')) pos.line X.env = pure false := by rfl)
    (hf : X.fn x = true ∨ X.env.scope.names.lookup x = some .local := by first | exact .inl rfl | exact .inr rfl | assumption) : QS X W (.Assign [.Name x pos'] e pos) (mSetC i f) := by
  refine (ps_set hN hi hx h hs hf).imp fun D σ H ⟨δ, τ, fs, M, nb, r, q⟩ => ⟨δ, τ, fs, M, r, Res.post_mono (bnd_post q) (fun t δ1 M1 q1 v H1 r1 => ?_) fun _ _ _ z => xw z⟩
  cases t with
  | con c =>
    simp only at q1
    split at q1
    · rename_i hl
      exact q1 _ H1 (r1.cell.put rfl nb (by rw [r1.len]; exact hl))
    · exact q1.elim
  | _ => exact q1.elim
/-- an argument that is made a cell -/
def mCell (f : Sm T) : Sm T := bnd f fun t => fun δ M => match t with
  | .con c => .ok (.ref M.length) δ (M ++ [c])
  | _ => .bad
theorem qe_cell (h : QE X W e f) : QE X W e (mCell f) := by
  refine h.imp fun σ H Q ⟨δ, τ, fs, M, r, q⟩ => ⟨δ, τ, fs, M, r, Res.post_mono (bnd_post q) (fun t δ1 M1 q1 v H1 r1 => ?_) fun _ _ _ z => z⟩
  cases t with
  | con c => exact q1 v H1 r1.cell
  | _ => exact q1.elim
def mSeq (f g : Sm Fl) : Sm Fl := bnd f fun fl => match fl with
  | .nx => g
  | fl => ret fl
theorem qss_nil : QSs X W [] (ret .nx) := pss_nil.imp fun D σ H ⟨δ, τ, fs, M, nb, r, q⟩ => q σ H r
theorem kS_nx {f : Sm Fl} {D : Ends} {g : Sm Fl} {δ : Env} {M : Mem} (nb : NB τ) (h : (mSeq f g δ M).post (kS K τ fs D) (xS K W τ fs)) : (f δ M).post (kS K τ fs { D with nx := tS K W g D }) (xS K W τ fs) := by
  refine Res.post_mono (bnd_post h) (fun fl δ1 M1 q1 => ?_) fun _ _ _ z => z
  cases fl with
  | nx => exact fun σ' H' r => ⟨δ1, τ, fs, M1, nb, r, q1⟩
  | rt r => exact q1
  | bk => exact q1
  | ct => exact q1
theorem qss_cons {f g : Sm Fl} (h1 : QS X W st f) (h2 : QSs X W sts g) : QSs X W (st :: sts) (mSeq f g) :=
  (pss_cons h1 h2).imp fun D σ H ⟨δ, τ, fs, M, nb, r, q⟩ => ⟨δ, τ, fs, M, nb, r, kS_nx nb q⟩
theorem qss_one {f : Sm Fl} (h1 : QS X W st f) : QSs X W [st] f := pss_one h1
theorem qs_if {c : Expr} {cf : Sm Bool} {f g : Sm Fl} (hc : QT X W c cf) (h : QSs X W a f) (h' : QSs X W b g) : QS X W (.If c a b pos) (mIf cf f g) := by
  refine (ps_if hc h h').imp fun D σ H ⟨δ, τ, fs, M, nb, r, q⟩ => ⟨δ, τ, fs, M, r, Res.post_mono (bnd_post q) (fun b δ1 M1 q1 H1 r1 => ?_) fun _ _ _ z => xw z⟩
  cases b with
  | true => exact ⟨δ1, τ, fs, M1, nb, r1, q1⟩
  | false => exact ⟨δ1, τ, fs, M1, nb, r1, q1⟩
theorem qs_pass : QS X W (.Pass pos) (ret .nx) := ps_pass.imp fun D σ H ⟨δ, τ, fs, M, nb, r, q⟩ => q σ H r
theorem qs_break : QS X W (.Break pos) (ret .bk) := ps_break.imp fun D σ H ⟨δ, τ, fs, M, nb, r, q⟩ => q σ H r
theorem qs_continue : QS X W (.Continue pos) (ret .ct) := ps_continue.imp fun D σ H ⟨δ, τ, fs, M, nb, r, q⟩ => q σ H r

/-! ### targets -/
theorem qg_name {x : Str} (hN : X.N.Nodup) (hi : X.N[i]? = some x) (hx : Loc X.env.scope x) (hf : X.fn x = true ∨ X.env.scope.names.lookup x = some .local := by first | exact .inl rfl | exact .inr rfl | assumption) :
    QG X (.Name x pos) (fun t δ M => if i < δ.length then .ok () (δ.set i (some t)) M else .bad) := by
  refine ⟨fun pins s σ H v u Q I r h => (pg_name hN hi hx hf).run pins s σ H v u Q I r ?_⟩
  obtain ⟨t, δ, τ, fs, M, nt, nb, rp, q⟩ := h
  simp only at q
  split at q
  · rename_i hl
    exact q _ H (rp.put nt nb (by rw [rp.len]; exact hl))
  · exact q.elim
/-- several targets at the items of a tuple -/
def stack (vs : List V) (ds : List D) (τ : List (V × T)) : List (V × T) := (vs.zip (ds.map T.d)) ++ τ
def tGs (K : KF) (f : List D → Sm Unit) : TGs := fun vs σ H Q => ∃ ds δ τ fs M, vs.length = ds.length ∧ NB τ ∧ Rep K H (⟨σ, δ, stack vs ds τ⟩ :: fs) M ∧ (f ds δ M).post (fun _ δ' M' => ∀ σ' H', Rep K H' (⟨σ', δ', τ⟩ :: fs) M' → Q σ' H') fun _ _ _ => False
abbrev QGs (X : Cx) (ts : List Expr) (f : List D → Sm Unit) : Prop := PGs X ts (tGs X.K f)
theorem NB.stack : ∀ {vs : List V} {ds : List D}, NB τ → NB (stack vs ds τ)
  | [], _, h => h
  | _ :: _, [], h => h
  | v :: vs, d :: ds, h => NB.cons rfl (NB.stack (vs := vs) (ds := ds) h)
theorem qgs_nil : QGs X [] (fun ds => if ds.isEmpty = true then ret () else fail) := by
  refine ⟨fun pins s σ H vs us Q I r h => pgs_nil.run pins s σ H vs us Q I r ?_⟩
  obtain ⟨ds, δ, τ, fs, M, hl, nb, rp, q⟩ := h
  cases ds with
  | nil =>
    cases vs with
    | nil => exact ⟨rfl, q σ H rp⟩
    | cons _ _ => simp at hl
  | cons _ _ => exact q.elim
theorem qgs_cons {e : Expr} {es : List Expr} {f : T → Sm Unit} {g : List D → Sm Unit} (h1 : QG X e f) (h2 : QGs X es g) (hs : (assignEach (e :: es) X.env).map (·.2) = assign e X.env :: (assignEach es X.env).map (·.2) := by rfl) :
    QGs X (e :: es) (fun ds => match ds with | [] => fail | d :: r => bnd (f (.d d)) fun _ => g r) := by
  refine ⟨fun pins s σ H vs us Q I r h => (pgs_cons h1 h2 hs).run pins s σ H vs us Q I r ?_⟩
  obtain ⟨ds, δ, τ, fs, M, hl, nb, rp, q⟩ := h
  cases ds with
  | nil => exact q.elim
  | cons d ds =>
    cases vs with
    | nil => simp at hl
    | cons v vs =>
      refine ⟨v, vs, rfl, .d d, δ, stack vs ds τ, fs, M, rfl, nb.stack, rp, ?_⟩
      refine Res.post_mono (bnd_post q) (fun _ δ1 M1 q1 σ1 H1 r1 => ?_) fun _ _ _ z => z
      exact ⟨ds, δ1, τ, fs, M1, by simpa using hl, nb, r1, q1⟩
theorem RepG.pushAll : ∀ {vs : List V} {ds : List D}, RepG K H G ow ι (⟨σ, δ, τ⟩ :: fs) M → AtL K G vs ds → RepG K H G ow ι (⟨σ, δ, stack vs ds τ⟩ :: fs) M
  | vs, [], h, a => by rw [show vs = [] from a]; exact h
  | _, d :: ds, h, ⟨v, r, e, a1, a2⟩ => by
    subst e
    exact (RepG.pushAll h a2).push (t := .d d) a1
theorem qg_tup {es : List Expr} {k n : Nat} {g : List D → Sm Unit} (hc : X.calm = true) (h : QGs X es g) (hn : (assignEach es X.env).length = n := by rfl) (hst : (assignEach es X.env).findIdx? (·.1) = none := by rfl) :
    QG X (.Tuple es k pos) (fun t => match t with | .d (.tuple ds) => if ds.length = n then g ds else fail | _ => fail) := by
  refine ⟨fun pins s σ H v u Q I r h' => (pg_tup hc h hn hst).run pins s σ H v u Q I r ?_⟩
  obtain ⟨t, δ, τ, fs, M, nt, nb, rp, q⟩ := h'
  cases t with
  | d x =>
    cases x with
    | tuple ds =>
      simp only at q
      split at q
      · rename_i hl
        obtain ⟨G, ow, ι, y⟩ := rp
        obtain ⟨a, vs, e, sq, al⟩ := y.top
        have hlen := al.length
        exact ⟨a, vs, e, SqT.grow y.sub sq, by omega, ds, δ, τ, fs, M, hlen, nb, ⟨G, ow, ι, y.pop.pushAll al⟩, q⟩
      · exact q.elim
    | _ => exact q.elim
  | _ => exact q.elim
def mDo (g : Sm Unit) : Sm Fl := fun δ M =>
  match g δ M with
  | .ok _ δ' M' => .ok .nx δ' M'
  | _ => .bad
theorem mDo_post {g : Sm Unit} {k : Fl → Env → Mem → Prop} {x y : XD → Env → Mem → Prop} (h : (mDo g δ M).post k x) : (g δ M).post (fun _ δ' M' => k .nx δ' M') y := by
  unfold mDo at h
  cases e : g δ M with
  | ok a δ' M' => rw [e] at h; exact h
  | ex a b c => rw [e] at h; exact h.elim
  | bad => rw [e] at h; exact h.elim
def mAsg (f : Sm T) (g : T → Sm Unit) : Sm Fl := bnd f fun t => bnd (mOwn t) fun r => mDo (g r)
theorem qs_asg {tg : Expr} {g : T → Sm Unit} (h : QE X W e f) (hg : QG X tg g) (hs : swapsWithSole [tg] e pos.line X.env = pure false := by rfl) (hw : swappedStores [tg] e X.env = pure none := by rfl)
    (h1 : (assignEach [tg] X.env).map (·.2) = [assign tg X.env] := by rfl) : QS X W (.Assign [tg] e pos) (mAsg f g) := by
  refine (ps_asg h hg hs hw h1).imp fun D σ H ⟨δ, τ, fs, M, nb, r, q⟩ => ⟨δ, τ, fs, M, r, Res.post_mono (bnd_post q) (fun t δ1 M1 q1 v H1 r1 => ?_) fun _ _ _ z => xw z⟩
  obtain ⟨r', δ2, M2, e2, q2⟩ := mOwn_post (bnd_post q1)
  obtain ⟨r2, nb2⟩ := r1.own e2
  exact ⟨r', δ2, τ, fs, M2, nb2, nb, r2, mDo_post q2⟩
end
end DL

end
section
namespace DL
open PySem PySem.Spec L2
variable {X : Cx} {W : WX} {K : KF} {H G : Hp} {ow : Addr → Option Who} {ι : List Addr} {σ : St} {δ : Env} {τ : List (V × T)} {fs : List Fram} {M : Mem} {v u : V} {t : T} {e e' : Expr} {pos : Pos}

/-! ### what is walked -/
structure IterOk (K : KF) (J : It) (tm : V × T) (ds : List D) : Prop where
  nb : tm.2.isBor = false
  turn : ∀ i H σ δ τ fs M, Rep K H (⟨σ, δ, tm :: τ⟩ :: fs) M → (ds.length ≤ i → J.stop i H) ∧ ∀ d, ds[i]? = some d → J.go i H ∧ ∀ x H', J.yld i H x H' → Rep K H' (⟨σ, δ, (x, .d d) :: tm :: τ⟩ :: fs) M
def tI (K : KF) (W : WX) (g : Sm (List D)) : TI := fun σ H R => ∃ δ τ fs M, Rep K H (⟨σ, δ, τ⟩ :: fs) M ∧ (g δ M).post (fun ds δ' M' => ∀ J H' tm, IterOk K J tm ds → Rep K H' (⟨σ, δ', tm :: τ⟩ :: fs) M' → R J H') (wX K W σ τ fs)
theorem _root_.L2.PI.imp {tg : Expr} {t t' : TI} (h : PI X tg e t) (i : ∀ σ H R, t' σ H R → t σ H R) : PI X tg e t' := ⟨fun pins s σ H R I q => h.run pins s σ H R I (i _ _ _ q)⟩
abbrev QI (X : Cx) (W : WX) (tg e : Expr) (g : Sm (List D)) : Prop := PI X tg e (tI X.K W g)

def mTgt (g : Sm Unit) (h : Sm Fl) : Sm Fl := fun δ M =>
  match g δ M with
  | .ok _ δ' M' => h δ' M'
  | _ => .bad
theorem mTgt_post {g : Sm Unit} {h : Sm Fl} {k : Fl → Env → Mem → Prop} {x y : XD → Env → Mem → Prop} (q : (mTgt g h δ M).post k x) : (g δ M).post (fun _ δ' M' => (h δ' M').post k x) y := by
  unfold mTgt at q
  cases e : g δ M with
  | ok a δ' M' => rw [e] at q; exact q
  | ex a b c => rw [e] at q; exact q.elim
  | bad => rw [e] at q; exact q.elim
def forF (tg : T → Sm Unit) (b : Sm Fl) : List D → Sm Fl
  | [] => ret .nx
  | d :: ds => mTgt (tg (.d d)) (bnd b fun fl => match fl with
    | .nx => forF tg b ds
    | .ct => forF tg b ds
    | .bk => ret .nx
    | .rt r => ret (.rt r))
def mFor (g : Sm (List D)) (tg : T → Sm Unit) (b : Sm Fl) : Sm Fl := bnd g (forF tg b)
theorem xS.push {p : V × T} {x : XD} (h : xS K W τ fs x δ M) : xS K W (p :: τ) fs x δ M := fun d σ' H' r => h d σ' H' r.pop
theorem drop_cons' {α : Type} {l : List α} {i : Nat} {d : α} (h : l[i]? = some d) : l.drop i = d :: l.drop (i + 1) := by
  obtain ⟨hi, e⟩ := List.getElem?_eq_some_iff.mp h
  rw [List.drop_eq_getElem_cons hi, e]
theorem qs_for {iter tgt : Expr} {body : List Stmt} {g : Sm (List D)} {tg : T → Sm Unit} {b : Sm Fl} (hp : PassesOwn (model X.prog X.w) X.A X.env X.xe) (hc : X.calm = true) (hi : QI X W tgt iter g) (hg : QG X tgt tg) (hb : QSs X W body b)
    (hs : ∀ x, foldedSetIterable iter X.env x = pure x := by intro _; rfl) : QS X W (.For tgt iter body [] pos) (mFor g tg b) := by
  refine (ps_for hp hc hi hg hb hs).imp fun D σ H ⟨δ, τ, fs, M, nb, r, q⟩ => ⟨δ, τ, fs, M, r, Res.post_mono (bnd_post q) (fun ds δ1 M1 q1 J H1 tm ok r1 => ?_) fun _ _ _ z => xw z⟩
  refine ⟨fun i m σ H => m = ds.length - i ∧ i ≤ ds.length ∧ ∃ δ M, Rep X.K H (⟨σ, δ, tm :: τ⟩ :: fs) M ∧ (forF tg b (ds.drop i) δ M).post (kS X.K τ fs D) (xS X.K W τ fs), ⟨_, rfl, Nat.zero_le _, δ1, M1, r1, q1⟩, ?_⟩
  rintro i m σ2 H2 ⟨rfl, hi, δ2, M2, r2, q2⟩
  obtain ⟨stop, step⟩ := ok.turn i H2 σ2 δ2 τ fs M2 r2
  by_cases hlt : i < ds.length
  · have ed : ds[i]? = some ds[i] := List.getElem?_eq_getElem hlt
    obtain ⟨go, yld⟩ := step _ ed
    rw [drop_cons' ed] at q2
    refine .inr ⟨go, fun σ' H' => i + 1 ≤ ds.length ∧ ∃ δ M, Rep X.K H' (⟨σ', δ, tm :: τ⟩ :: fs) M ∧ (forF tg b (ds.drop (i + 1)) δ M).post (kS X.K τ fs D) (xS X.K W τ fs), fun σ' H' n => ⟨ds.length - (i + 1), by omega, rfl, n.1, n.2⟩, fun x H' y => ?_⟩
    refine ⟨.d ds[i], δ2, tm :: τ, fs, M2, rfl, nb.cons ok.nb, yld x H' y, Res.post_mono (mTgt_post q2) (fun _ δ3 M3 q3 σ3 H3 r3 => ?_) fun _ _ _ z => z⟩
    refine ⟨δ3, tm :: τ, fs, M3, nb.cons ok.nb, r3, Res.post_mono (bnd_post q3) (fun fl δ4 M4 q4 => ?_) fun _ _ _ z => z.push⟩
    cases fl with
    | nx => exact fun σ' H' r => ⟨hlt, δ4, M4, r, q4⟩
    | ct => exact fun σ' H' r => ⟨hlt, δ4, M4, r, q4⟩
    | bk => exact fun σ' H' r => q4 σ' H' r.pop
    | rt t => exact ⟨q4.1, fun v σ' H' r => q4.2 v σ' H' r.nip⟩
  · refine .inl ⟨stop (by omega), ?_⟩
    rw [List.drop_eq_nil_of_le (by omega)] at q2
    exact q2 σ2 H2 r2.pop

/-! ### while -/
def whileF (c : Sm Bool) (b : Sm Fl) : Nat → Sm Fl
  | 0 => fail
  | n + 1 => bnd c fun t => if t = true then bnd b (fun fl => match fl with
    | .nx => whileF c b n
    | .ct => whileF c b n
    | .bk => ret .nx
    | .rt r => ret (.rt r)) else ret .nx
def mWhile (n : Nat) (c : Sm Bool) (b : Sm Fl) : Sm Fl := whileF c b n
theorem qs_while (n : Nat) {c : Expr} {body : List Stmt} {cf : Sm Bool} {b : Sm Fl} (hp : PassesOwn (model X.prog X.w) X.A X.env X.xe) (hc : QT X W c cf) (hb : QSs X W body b) : QS X W (.While c body [] pos) (mWhile n cf b) := by
  refine (ps_while hp hc hb).imp fun D σ H ⟨δ, τ, fs, M, nb, r, q⟩ => ?_
  refine ⟨fun m σ H => ∃ δ M, Rep X.K H (⟨σ, δ, τ⟩ :: fs) M ∧ (whileF cf b m δ M).post (kS X.K τ fs D) (xS X.K W τ fs), ⟨n, δ, M, r, q⟩, ?_⟩
  rintro m σ2 H2 ⟨δ2, M2, r2, q2⟩
  cases m with
  | zero => exact q2.elim
  | succ m =>
    refine ⟨δ2, τ, fs, M2, r2, Res.post_mono (bnd_post q2) (fun t δ3 M3 q3 H3 r3 => ?_) fun _ _ _ z => xw z⟩
    cases t with
    | false => exact q3 σ2 H3 r3
    | true =>
      refine ⟨fun σ' H' => ∃ δ M, Rep X.K H' (⟨σ', δ, τ⟩ :: fs) M ∧ (whileF cf b m δ M).post (kS X.K τ fs D) (xS X.K W τ fs), fun σ' H' n => ⟨m, Nat.lt_succ_self _, n⟩, ?_⟩
      refine ⟨δ3, τ, fs, M3, nb, r3, Res.post_mono (bnd_post q3) (fun fl δ4 M4 q4 => ?_) fun _ _ _ z => z⟩
      cases fl with
      | nx => exact fun σ' H' r => ⟨δ4, M4, r, q4⟩
      | ct => exact fun σ' H' r => ⟨δ4, M4, r, q4⟩
      | bk => exact q4
      | rt t => exact q4

/-! ### walks of lists, tuples, ranges -/
theorem iter_list {a : Addr} {ds : List D} (h : v = .ref a) : IterOk K (Itl K a) (v, .d (.list ds)) ds := by
  refine ⟨rfl, fun i H σ δ τ fs M ⟨G, ow, ι, x⟩ => ?_⟩
  obtain ⟨b, vs, e, q, al⟩ := x.top
  have e' : a = b := by
    have z : v = .ref b := e
    rw [h] at z; cases z; rfl
  subst e'
  have hl := al.length
  have hq : SqL K H a vs := SqL.of (x.sub _ _ q)
  have same : ∀ ys, SqL K H a ys → H a = some (.lst vs) := fun _ _ => x.sub _ _ q
  refine ⟨fun hi => ⟨vs, hq, by omega⟩, fun d ed => ?_⟩
  obtain ⟨y, ey, ay⟩ := al.get ed
  refine ⟨⟨vs, y, hq, ey⟩, fun z H' yl => ?_⟩
  obtain ⟨eH, yy⟩ := yl
  subst eH
  have := yy vs hq
  rw [ey] at this; cases this
  exact ⟨G, ow, ι, x.push (t := .d d) ay⟩
theorem iter_tup {a : Addr} {ds : List D} (h : v = .ref a) : IterOk K (Itt K a) (v, .d (.tuple ds)) ds := by
  refine ⟨rfl, fun i H σ δ τ fs M ⟨G, ow, ι, x⟩ => ?_⟩
  obtain ⟨b, vs, e, q, al⟩ := x.top
  have e' : a = b := by
    have z : v = .ref b := e
    rw [h] at z; cases z; rfl
  subst e'
  have hl := al.length
  have hq : SqT K H a vs := SqT.grow x.sub q
  refine ⟨fun hi => ⟨vs, hq, by omega⟩, fun d ed => ?_⟩
  obtain ⟨y, ey, ay⟩ := al.get ed
  refine ⟨⟨vs, y, hq, ey⟩, fun z H' yl => ?_⟩
  obtain ⟨eH, yy⟩ := yl
  subst eH
  have := yy vs hq
  rw [ey] at this; cases this
  exact ⟨G, ow, ι, x.push (t := .d d) ay⟩
theorem iter_range {lo : Int} {n : Nat} : IterOk K (Itr lo n) (.non, .d .none) ((List.range n).map fun k => .int (lo + (k : Nat))) := by
  refine ⟨rfl, fun i H σ δ τ fs M ⟨G, ow, ι, x⟩ => ?_⟩
  refine ⟨fun hi => (by simpa using hi : n ≤ i), fun d ed => ?_⟩
  have hi : i < n := by
    have := (List.getElem?_eq_some_iff.mp ed).1
    simpa using this
  rw [List.getElem?_map, List.getElem?_range hi] at ed
  simp at ed
  subst ed
  refine ⟨hi, fun z H' ⟨eH, ez⟩ => ?_⟩
  subst eH
  exact ⟨G, ow, ι, x.push (t := .d (.int (lo + i))) ez⟩
/-- a list or a tuple, by what comes -/
def iSeq (K : KF) (te : TE) : TI := fun σ H R => te σ H fun x H1 => (∃ a, x = .ref a ∧ (∃ xs, SqL K H1 a xs) ∧ R (Itl K a) H1) ∨ ∃ a, x = .ref a ∧ (∃ xs, SqT K H1 a xs) ∧ R (Itt K a) H1
theorem pi_seq {tg : Expr} {te : TE} (he : PE X e te) : PI X tg e (iSeq X.K te) := by
  refine ⟨fun pins s σ H R I h => thn (he.run pins s σ H _ I h) fun v s1 z => ?_⟩
  obtain ⟨x, H1, J, rx, q⟩ := z
  have fresh : ∀ b ∈ [s1.heap.objs.size], FpOk X pins H1 b := fun b hb => by
    obtain rfl := List.mem_singleton.mp hb
    exact J.fpOk (Nat.le_refl _) (J.hok.fresh (Nat.le_refl _))
  rcases q with ⟨a, ea, ⟨xs, hq⟩, q⟩ | ⟨a, ea, ⟨xs, hq⟩, q⟩
  · subst ea
    obtain rfl : v = Value.ref a := rx
    obtain ⟨its, rv, p, _⟩ := J.list hq
    exact wpAny_pyIter_list p.isList ⟨_, [_], _, Itl X.K a, H1, rfl, J.kept (t' := s1.toks) (fun _ _ => Heap.get?_push_of_some _), turn_list a _, ⟨_, Heap.get?_push_size _ rfl, rfl, rfl⟩, fresh, q⟩
  · subst ea
    obtain rfl : v = Value.ref a := rx
    obtain ⟨its, rv, p, _⟩ := J.tuple hq
    exact wpAny_pyIter_tuple (show s1.heap.IsTuple a its.toArray from p) ⟨_, [_], _, Itt X.K a, H1, rfl, J.kept (t' := s1.toks) (fun _ _ => Heap.get?_push_of_some _), turn_tuple a _, ⟨_, Heap.get?_push_size _ rfl, rfl, rfl⟩, fresh, q⟩
def mSeqIt (f : Sm T) : Sm (List D) := bnd (bnd f mFrz) fun t => match t with
  | .d (.list ds) => ret ds
  | .d (.tuple ds) => ret ds
  | _ => fail
theorem qi_seq {tg : Expr} {f : Sm T} (h : QE X W e f) : QI X W tg e (mSeqIt f) := by
  refine (pi_seq (qe_frz h)).imp fun σ H R ⟨δ, τ, fs, M, r, q⟩ => ⟨δ, τ, fs, M, r, Res.post_mono (bnd_post q) (fun t δ1 M1 q1 v H1 r1 => ?_) fun _ _ _ z => z⟩
  cases t with
  | d x =>
    cases x with
    | list ds =>
      obtain ⟨G, ow, ι, y⟩ := id r1
      obtain ⟨a, vs, e, sq, al⟩ := y.top
      exact .inl ⟨a, e, ⟨vs, SqL.of (y.sub _ _ sq)⟩, q1 _ H1 _ (iter_list e) r1⟩
    | tuple ds =>
      obtain ⟨G, ow, ι, y⟩ := id r1
      obtain ⟨a, vs, e, sq, al⟩ := y.top
      exact .inr ⟨a, e, ⟨vs, SqT.grow y.sub sq⟩, q1 _ H1 _ (iter_tup e) r1⟩
    | _ => exact q1.elim
  | _ => exact q1.elim
def small62 (j : Int) : Bool := decide (-(2 ^ 62) ≤ j) && decide (j < 2 ^ 62)
def mRange1 (f : Sm (List T)) : Sm (List D) := bnd f fun ts => match ts with
  | [.d (.int j)] => if small62 j = true then ret ((List.range j.toNat).map fun k => .int (0 + (k : Nat))) else fail
  | _ => fail
def mRange2 (f : Sm (List T)) : Sm (List D) := bnd f fun ts => match ts with
  | [.d (.int i), .d (.int j)] => if small62 i = true ∧ small62 j = true then ret ((List.range (j - i).toNat).map fun k => .int (i + (k : Nat))) else fail
  | _ => fail
theorem small62_iff {j : Int} : small62 j = true ↔ (-(2 ^ 62) ≤ j ∧ j < 2 ^ 62) := by simp [small62]
theorem Rep.dummy (h : Rep K H (⟨σ, δ, τ⟩ :: fs) M) : Rep K H (⟨σ, δ, (.non, .d .none) :: τ⟩ :: fs) M := h.pushD fun _ _ => rfl
theorem qi_range1 {tg a : Expr} {f : Sm (List T)} {p : Pos} (hg : Gl X "range") (hm : X.mg "range" = none) (h : QA X W [a] f) (hs : starEach [a] X.env = [(false, eval a X.env)] := by rfl) : QI X W tg (.Call (.Name "range" p) [a] [] pos) (mRange1 f) := by
  refine (pi_range1 hg hm h hs).imp fun σ H R ⟨δ, τ, fs, M, r, q⟩ => ⟨δ, τ, fs, M, r, Res.post_mono (bnd_post q) (fun ts δ1 M1 q1 vs H1 hl r1 => ?_) fun _ _ _ z => z⟩
  split at q1
  · rename_i j
    split at q1
    · rename_i hj
      match vs, hl, r1 with
      | [w], _, r1 =>
        have ew : w = .int j := r1.topD
        obtain ⟨b1, b2⟩ := small62_iff.mp hj
        exact ⟨j, by rw [ew], b1, b2, q1 _ H1 _ iter_range (Rep.dummy (Rep.pop r1))⟩
    · exact q1.elim
  · exact q1.elim
theorem qi_range2 {tg a b : Expr} {f : Sm (List T)} {p : Pos} (hg : Gl X "range") (hm : X.mg "range" = none) (h : QA X W [a, b] f) (hs : starEach [a, b] X.env = [(false, eval a X.env), (false, eval b X.env)] := by rfl) (hs2 : starEach [b] X.env = [(false, eval b X.env)] := by rfl) :
    QI X W tg (.Call (.Name "range" p) [a, b] [] pos) (mRange2 f) := by
  refine (pi_range2 hg hm h hs hs2).imp fun σ H R ⟨δ, τ, fs, M, r, q⟩ => ⟨δ, τ, fs, M, r, Res.post_mono (bnd_post q) (fun ts δ1 M1 q1 vs H1 hl r1 => ?_) fun _ _ _ z => z⟩
  split at q1
  · rename_i i j
    split at q1
    · rename_i hj
      match vs, hl, r1 with
      | [w1, w2], _, r1 =>
        have e2 : w2 = .int j := r1.topD
        have e1 : w1 = .int i := (Rep.pop r1).topD
        obtain ⟨a1, a2⟩ := small62_iff.mp hj.1
        obtain ⟨b1, b2⟩ := small62_iff.mp hj.2
        exact ⟨i, j, by rw [e1, e2], ⟨a1, a2, b1, b2⟩, q1 _ H1 _ iter_range (Rep.dummy (Rep.pop (Rep.pop r1)))⟩
    · exact q1.elim
  · exact q1.elim
end DL

end
section
namespace DL
open PySem PySem.Spec L2
open PyProof.Rows (envOfC)

/-! ### defs: as the layer's, with nothing shown meanwhile (guards) -/
structure FnG (P : Program) (w : World) (K : KF) (mg : Str → Option Value) (base : Heap) (k : Nat) (f : Addr) (fd : FuncData) (ps : List Str) (sp : Sp) : Prop where
  len : ∀ vs H Q E, sp vs H Q E → vs.length = ps.length
  run : ∀ {A : Around} {outer : List PySem.Env} {s : Shared} {H : Hp} {args : Args} {us : List Value} {vs : List V} {Q : VK} {E : XK}, Room k A → A.guards = some [] →
    Env0 P w K mg base A outer s H → BindsTo s fd args (ps.zip us) → Vals vs us → sp vs H Q E → codeAny (model P w) A (.call (.ref f) args) (CR (L2.CX P w) outer P w H s Q E) s

/-- what a def means: of its arguments and the memory -/
abbrev Fm := List T → Mem → Res T
def kR (K : KF) (fs : List Fram) (Q : VK) : T → DL.Env → Mem → Prop := fun r _ M' => r.isBor = false ∧ ∀ v H', Rep K H' (⟨[], [], [(v, r)]⟩ :: fs) M' → Q v H'
def xR (K : KF) (fs : List Fram) (E : XK) : XD → DL.Env → Mem → Prop := fun e _ M' => ∀ d H', XAt K H' e d (⟨[], [], []⟩ :: fs) M' → E (.ref e.cls) d H'
def spG (K : KF) (n : Nat) (g : Fm) : Sp := fun vs H Q E => ∃ ts fs M, vs.length = n ∧ ts.length = n ∧ Rep K H (⟨vs.map some, ts.map some, []⟩ :: fs) M ∧ (g ts M).post (kR K fs Q) (xR K fs E)
def mBody (n : Nat) (f : Sm Fl) : Fm := fun ts M =>
  match f (ts.map some ++ List.replicate n none) M with
  | .ok .nx _ M' => .ok (.d .none) [] M'
  | .ok (.rt r) _ M' => .ok r [] M'
  | .ok _ _ _ => .bad
  | .ex e _ M' => .ex e [] M'
  | .bad => .bad
section
variable {P : Program} {w : World} {K : KF} {mg : Str → Option Value} {base : Heap} {k n : Nat} {f : Addr} {fd : FuncData} {ps N : List Str} {sp sp' : Sp} {g g' : Fm}
theorem FnG.mono {j : Nat} (F : FnG P w K mg base j f fd ps sp) (h : j ≤ k) : FnG P w K mg base k f fd ps sp := ⟨F.len, fun hr => F.run (hr.mono h)⟩
theorem FnG.imp (F : FnG P w K mg base k f fd ps sp) (h : ∀ vs H Q E, sp' vs H Q E → sp vs H Q E) : FnG P w K mg base k f fd ps sp' :=
  ⟨fun vs H Q E q => F.len vs H Q E (h _ _ _ _ q), fun hr hg e0 hb hv q => F.run hr hg e0 hb hv (h _ _ _ _ q)⟩
theorem XAt.drop {H : Hp} {x : XD} {d : Option Addr} {σ : St} {δ : DL.Env} {τ : List (V × T)} {fs : List Fram} {M : Mem} (h : XAt K H x d (⟨σ, δ, τ⟩ :: fs) M) : XAt K H x d (⟨[], [], []⟩ :: fs) M := by
  obtain ⟨G, ow, ι, r, q⟩ := h
  exact ⟨G, ow, ι, ⟨r.sub, r.own, r.lenM, r.cells, ⟨rfl, fun i t e => (by cases e), trivial⟩, r.frs.2⟩, q⟩
/-- THE RULE of a def by its body's meaning -/
theorem fnG {x qual : Str} {st : Stmt} {m : Sm Fl} (F : Fun K x qual st f fd) (S : FnScope N ps (defScope st))
    (hbody : ∀ (cdv : Value) (A : Around) (outer : List PySem.Env) (s : Shared) (H : Hp) (E : XK), Room k (A.deeper (envOfC qual (defScope st) s.heap.objs.size f cdv)) → A.guards = some [] →
      QSs (cxOf (L2.CX P w) P w K mg base N qual (defScope st) f cdv A outer s H E) (fun c d _ H' => E c d H') (defBody st) m) : FnG P w K mg base (k + 1) f fd ps (spG K ps.length (mBody (N.length - ps.length) m)) := by
  obtain ⟨oc, od, kV, doc, pm, an, cdv, ct, osl, rfl, lk, hcd⟩ := F.ex
  refine ⟨fun vs H Q E h => (let ⟨_, _, _, a, _⟩ := h; a), fun {A outer s H args us vs Q E} hr hg e0 hb rv hsp => ?_⟩
  obtain ⟨ts, fs, M, hl, hl2, rp, q⟩ := hsp
  have KX : K.In s.heap := e0.mod.kin.keeps fun b o e => (e0.bs b o e).1
  have noLim : s.heap.NoLimit := e0.mod.nolimit.keeps fun b o e => (e0.bs b o e).1
  have kinds : ∀ y ∈ ps.zip us, (defScope st).names.lookup y.1 = some .local ∨ ((defScope st).names.lookup y.1 = some .cell ∧ ((cellsFrom (s.heap.objs.size + 1) (defScope st).names []).lookup y.1).isSome = true) := fun y hy => by
    rcases S.par y.1 (List.of_mem_zip (a := y.1) (b := y.2) hy).1 with z | z
    · exact .inl z
    · exact .inr ⟨z, PySem.W.cellsFrom_some _ _ _ (.inl z)⟩
  refine codeAny_call_function hr.depth (KX _ _ lk) rfl S.co S.gen rfl (PySem.W.codeRec_of KX hcd) (hb _ _ _ _ (wpAny_newFunctionEnv_cells S.kind kinds fun env he s1 x => ?_))
  subst he
  refine ⟨noLim.keeps x.toInCall.keep, codeAny_func ?_⟩
  have hB := hbody cdv A outer s H E (hr.deeper _) hg
  have I := inv_start (CX := L2.CX P w) (mg := mg) (base := base) (E := E) S hr.hd e0 hl rv x
  have rw : Rep K H (⟨L2.start N vs, ts.map some ++ List.replicate (N.length - ps.length) none, []⟩ :: fs) M := by
    have := rp.wide (N.length - ps.length) NB.nil
    unfold L2.start
    rw [hl]; exact this
  refine wpAny_mono (hB.run [] s1 (L2.start N vs) H { nx := fun _ H' => Q .non H', rt := Q } I ⟨_, [], fs, M, NB.nil, rw, ?_⟩) (fun fl s' hs => ?_) fun e s' hs => hs
  · unfold mBody at q
    cases em : m (ts.map some ++ List.replicate (N.length - ps.length) none) M with
    | ok fl δ' M' =>
      rw [em] at q
      cases fl with
      | nx => exact fun σ' H' r => q.2 _ H' (Rep.finish (r.pushD (x := .none) (v := .non) fun _ _ => rfl) rfl)
      | rt t => exact ⟨q.1, fun v σ' H' r => q.2 v H' (r.finish q.1)⟩
      | bk => exact q.elim
      | ct => exact q.elim
    | ex e δ' M' => rw [em] at q; exact fun d σ' H' r => q d H' r.drop
    | bad => rw [em] at q; exact q.elim
  · have fin : ∀ {σ' : St} {H' : Hp} {v : V} {u : Value}, Inv (cxOf (L2.CX P w) P w K mg base N qual (defScope st) f cdv A outer s H E) [] σ' H' s' → RelV v u → Q v H' → CE outer P w H s Q u s' :=
      fun J r q => ⟨_, _, J.os, J.bare, J.base, J.hok, r, q⟩
    cases fl with
    | ret u => obtain ⟨v, σ', H', J, r, z⟩ := hs; exact fin J r z
    | next => obtain ⟨σ', H', J, z⟩ := hs; exact fin (v := V.non) (u := Value.none) J rfl z
    | brk => obtain ⟨_, _, _, z⟩ := hs; exact z.elim
    | cont => obtain ⟨_, _, _, z⟩ := hs; exact z.elim

/-- a meaning said otherwise: cells made meanwhile forgotten -/
def Conv (M' gb : Mem) (a b : T) : Prop := RefsT M'.length b ∧ b.isBor = false ∧ (a = b ∨ (∃ n c, a = .ref n ∧ M'.length ≤ n ∧ (M' ++ gb)[n]? = some c ∧ b = .con c) ∨ ∃ c, a = .con c ∧ b = .d c.toD)
def Ref (M : Mem) (r r' : Res T) : Prop :=
  match r' with
  | .bad => True
  | .ok b _ M' => M.length ≤ M'.length ∧ ∃ a δ gb, r = .ok a δ (M' ++ gb) ∧ Conv M' gb a b
  | .ex e _ M' => M.length ≤ M'.length ∧ ∃ δ gb, r = .ex e δ (M' ++ gb)
theorem refsF_nil {m : Nat} : RefsF m ⟨[], [], []⟩ := ⟨fun i t e => (by cases e), fun p hp => nomatch hp⟩
theorem refsF_one {m : Nat} {v : V} {t : T} (h : RefsT m t) : RefsF m ⟨[], [], [(v, t)]⟩ := ⟨fun i t e => (by cases e), fun p hp => by
    have hp' : p ∈ [(v, t)] := hp
    rw [List.mem_singleton] at hp'
    rw [hp']; exact h⟩
theorem Refs.cons {m : Nat} {f : Fram} {fs : List Fram} (h : RefsF m f) (h' : Refs m fs) : Refs m (f :: fs) := fun x hx => by
  rcases List.mem_cons.mp hx with e | hx
  · rw [e]; exact h
  · exact h' x hx
theorem Refs.mono {a b : Nat} {fs : List Fram} (h : Refs a fs) (l : a ≤ b) : Refs b fs := fun f hf => by
  obtain ⟨h1, h2⟩ := h f hf
  have z : ∀ t, RefsT a t → RefsT b t := fun t ht => by
    cases t with
    | ref n => exact Nat.lt_of_lt_of_le ht l
    | _ => trivial
  exact ⟨fun i t e => z t (h1 i t e), fun p hp => z _ (h2 p hp)⟩
theorem FnG.ref (F : FnG P w K mg base k f fd ps (spG K n g)) (h : ∀ ts M, Ref M (g ts M) (g' ts M)) : FnG P w K mg base k f fd ps (spG K n g') := by
  refine F.imp fun vs H Q E ⟨ts, fs, M, h1, h2, rp, q⟩ => ⟨ts, fs, M, h1, h2, rp, ?_⟩
  have z := h ts M
  have rf : Refs M.length fs := fun x hx => rp.refs x (List.mem_cons_of_mem _ hx)
  cases e : g' ts M with
  | bad => rw [e] at q; exact q.elim
  | ok b δ' M' =>
    rw [e] at q z
    obtain ⟨hM, a, δ, gb, ea, rb, nb, cv⟩ := z
    rw [ea]
    rcases cv with cv | ⟨m, c, e1, e2, e3, e4⟩ | ⟨c, e1, e2⟩
    · subst cv
      refine ⟨nb, fun v H' r => q.2 v H' (r.trunc (Refs.cons (refsF_one rb) (rf.mono hM)))⟩
    · subst e1 e4
      refine ⟨rfl, fun v H' r => q.2 v H' (r.uncell e2 e3 (Refs.cons refsF_nil (rf.mono hM)))⟩
    · subst e1 e2
      refine ⟨rfl, fun v H' r => q.2 v H' (Rep.trunc r.freeze (Refs.cons (refsF_one trivial) (rf.mono hM)))⟩
  | ex x δ' M' =>
    rw [e] at q z
    obtain ⟨hM, δ, gb, ea⟩ := z
    rw [ea]
    refine fun d H' r => q d H' ?_
    obtain ⟨G, ow, ι, y, c⟩ := r
    have rr : Refs M'.length (⟨[], [], []⟩ :: fs) := Refs.cons refsF_nil (rf.mono hM)
    exact ⟨G, ow, ι.take M'.length, ⟨y.sub, y.own, by have := y.lenM; simp at this ⊢; omega, fun n c ec => by
      have hn := (List.getElem?_eq_some_iff.mp ec).1
      obtain ⟨a, q1, q2, q3⟩ := y.cells n c (by rw [List.getElem?_append_left hn]; exact ec)
      exact ⟨a, by rw [List.getElem?_take_of_lt hn]; exact q1, q2, q3⟩, y.frs.trunc rr⟩, c⟩
end

/-! ### calls -/
section
variable {X : Cx} {W : WX} {k : Nat} {f : Addr} {fd : FuncData} {ps : List Str} {sp : Sp} {x : Str} {p pos : Pos} {e : Expr} {es : List Expr} {g : Fm} {n : Nat}
theorem run_G {pins : List (Addr × Obj)} {σ : St} {H : Hp} {s : Shared} {Q : VK} {us : List Value} {ks : List (Str × Value)} {args : List Value} {vs : List V} (F : FnG X.prog X.w X.K X.mg X.base k f fd ps sp) (hr : Room k X.A) (hg : X.A.guards = some []) (tk : Takes X W)
    (I : Inv X pins σ H s) (hb : BindsTo s fd ⟨args, ks⟩ (ps.zip us)) (r : Vals vs us) (h : sp vs H Q fun c d H' => W c d σ H') : wpAny (model X.prog X.w) X.A (call (.ref f) args ks) (EP X pins σ Q) X.xe s := by
  refine wpAny_call (codeAny_mono (F.run hr hg I.env0 hb r h) fun r s' z => ?_)
  cases r with
  | error e => exact tk e s' (XE.of_call I (fun _ _ _ h => h) z)
  | ok fl =>
    cases fl with
    | ret u => exact I.after z
    | next => exact z.elim
    | brk => exact z.elim
    | cont => exact z.elim
def mCall (g : Fm) (fa : Sm (List T)) : Sm T := bnd fa fun ts => fun δ M =>
  if ts.all (fun t => !t.isBor) = true then
    match g ts M with
    | .ok r _ M' => if r.isBor = true then .bad else .ok r δ M'
    | .ex e _ M' => .ex e δ M'
    | .bad => .bad
  else .bad
theorem call_sp {K : KF} {σ : St} {H : Hp} {δ : DL.Env} {τ : List (V × T)} {fs : List Fram} {M : Mem} {vs : List V} {ts : List T} {Q : VK} (hl : vs.length = ts.length) (hn : ts.length = n) (r : Rep K H (⟨σ, δ, rz vs ts τ⟩ :: fs) M)
    (q : (if ts.all (fun t => !t.isBor) = true then (match g ts M with
      | .ok r _ M' => if r.isBor = true then Res.bad else Res.ok r δ M'
      | .ex e _ M' => .ex e δ M'
      | .bad => .bad) else .bad).post (fun r δ' M' => ∀ v H', Rep K H' (⟨σ, δ', (v, r) :: τ⟩ :: fs) M' → Q v H') (wX K W σ τ fs)) : spG K n g vs H Q fun c d H' => W c d σ H' := by
  split at q
  · rename_i hb
    have nb : ∀ t ∈ ts, t.isBor = false := fun t ht => by simpa using List.all_eq_true.mp hb t ht
    refine ⟨ts, ⟨σ, δ, τ⟩ :: fs, M, hl.trans hn, hn, r.enter hl nb, ?_⟩
    cases e : g ts M with
    | ok r' δ' M' =>
      rw [e] at q
      simp only at q
      split at q
      · exact q.elim
      · rename_i nr
        have nr' : r'.isBor = false := by simpa using nr
        exact ⟨nr', fun v H' z => q v H' (z.leave nr')⟩
    | ex x δ' M' =>
      rw [e] at q
      exact fun d H' z => q d H' (let ⟨G, ow, ι, y, c⟩ := z; ⟨G, ow, ι, ⟨y.sub, y.own, y.lenM, y.cells, y.frs.2⟩, c⟩)
    | bad => rw [e] at q; exact q.elim
  · exact q.elim
end
end DL

end
section
namespace DL
open PySem PySem.Spec L2
section
variable {X : Cx} {W : WX} {k n : Nat} {f : Addr} {fd : FuncData} {ps ks : List Str} {sp : Sp} {x : Str} {p pos : Pos} {e : Expr} {es : List Expr} {kws : List Keyword} {g : Fm} {σ : St} {H : Hp} {Q : VK} {fa : Sm (List T)}
/-- what a caller knows of a def -/
structure Cal (P : Program) (w : World) (K : KF) (mg : Str → Option Value) (base : Heap) (k : Nat) (x : Str) (n : Nat) (g : Fm) : Prop where
  ex : ∃ (f : Addr) (fd : FuncData) (ps : List Str), ps.length = n ∧ FnG P w K mg base k f fd ps (spG K n g) ∧ mg x = some (.ref f) ∧ PySem.W.keepIn K (.ref f) = true ∧ Binds K fd ps []
theorem Cal.mono {P : Program} {w : World} {K : KF} {mg : Str → Option Value} {base : Heap} {j k : Nat} {x : Str} {n : Nat} {g : Fm} (c : Cal P w K mg base j x n g) (h : j ≤ k) : Cal P w K mg base k x n g :=
  let ⟨f, fd, ps, a, F, b⟩ := c.ex; ⟨f, fd, ps, a, F.mono h, b⟩
theorem call_rd (h : tE X.K W (mCall g fa) σ H Q) : tA X.K W fa σ H fun vs H1 => spG X.K n g vs H1 Q (fun c d H' => W c d σ H') ∨ vs.length ≠ n := by
  obtain ⟨δ, τ, fs, M, r, q⟩ := h
  refine ⟨δ, τ, fs, M, r, Res.post_mono (bnd_post q) (fun ts δ1 M1 q1 vs H1 hl r1 => ?_) fun _ _ _ z => z⟩
  by_cases hn : ts.length = n
  · exact .inl (call_sp hl hn r1 q1)
  · exact .inr (fun z => hn (hl ▸ z))
theorem len_args {es : List Expr} {pos : Pos} {pins : List (Addr × Obj)} {σ : St} {s' : Shared} {R : List V → Hp → Prop} {us : List Value} (h : AP X pins σ R us s') : ∃ vs H', Vals vs us ∧ R vs H' := let ⟨vs, H', _, r, q⟩ := h; ⟨vs, H', r, q⟩
/-- f(e, ..): m of arguments as many as parameters -/
theorem qe_call (c : Cal X.prog X.w X.K X.mg X.base k x n g) (hr : Room k X.A) (hgd : X.A.guards = some []) (tk : Takes X W) (hg : Gl X x) (ha : QA X W (e :: es) fa) (hlen : ∀ δ M ts δ' M', fa δ M = .ok ts δ' M' → ts.length = n)
    (hdb : (x == ("__debug__" : Str)) = false := by decide) (he : starEach (e :: es) X.env = (false, eval e X.env) :: starEach es X.env := by rfl) (hpl : (backTo pos (starEach es X.env)).any (·.1) = false := by rfl) :
    QE X W (.Call (.Name x p) (e :: es) [] pos) (mCall g fa) := by
  obtain ⟨f, fd, ps, hp, F, hm, hk, hb⟩ := c.ex
  refine ⟨fun pins s σ H Q I h => wpAny_Call_Name_kw (ld_glob I hg hm ?_ hdb)⟩
  have h2 : tA X.K W fa σ H fun vs H1 => spG X.K n g vs H1 Q fun c d H' => W c d σ H' := by
    obtain ⟨δ, τ, fs, M, r, q⟩ := h
    have q' := bnd_post q
    refine ⟨δ, τ, fs, M, r, ?_⟩
    cases ef : fa δ M with
    | ok ts δ1 M1 =>
      rw [ef] at q'
      exact fun vs H1 hl r1 => call_sp hl (hlen _ _ _ _ _ ef) r1 q'
    | ex a b c => rw [ef] at q'; exact q'
    | bad => rw [ef] at q'; exact q'
  refine PySem.W.callWith_K (h₀ := X.base) I.ok.mod.kin hk (thn (ha.run pos pins s σ H _ I h2) fun us s1 ⟨vs, H1, J, r, q⟩ => ⟨J.kIn, ?_⟩) he hpl
  have hl : (us ++ []).length = ps.length := by rw [List.append_nil, ← r.length]; exact F.len _ _ _ _ q
  have b := hb s1 us J.kIn hl
  rw [List.append_nil] at b
  exact run_G F hr hgd tk J b r q
theorem qe_call0 (c : Cal X.prog X.w X.K X.mg X.base k x 0 g) (hr : Room k X.A) (hgd : X.A.guards = some []) (tk : Takes X W) (hg : Gl X x) (hdb : (x == ("__debug__" : Str)) = false := by decide) : QE X W (.Call (.Name x p) [] [] pos) (mCall g mNil) := by
  obtain ⟨f, fd, ps, hp, F, hm, hk, hb⟩ := c.ex
  refine ⟨fun pins s σ H Q I h => wpAny_Call_Name_kw (ld_glob I hg hm ?_ hdb)⟩
  obtain ⟨δ, τ, fs, M, r, q⟩ := h
  have h2 : spG X.K 0 g [] H Q fun c d H' => W c d σ H' := call_sp (vs := []) (ts := []) rfl rfl r (bnd_post q)
  have b := hb s [] I.kIn (by rw [List.append_nil]; exact hp.symm)
  exact PySem.W.callWith_K0 I.kIn hk (run_G F hr hgd tk I (us := []) (vs := []) b .nil h2)
/-- f(k = e, ..): all by name -/
def perm {α : Type} (π : List Nat) (l : List α) : List α := π.filterMap fun i => l[i]?
theorem vals_perm {vs : List V} {us : List Value} (h : Vals vs us) : ∀ π : List Nat, Vals (perm π vs) (perm π us)
  | [] => .nil
  | i :: π => by
    unfold perm
    cases e : vs[i]? with
    | none => simp only [List.filterMap_cons, e, h.none_of e]; exact vals_perm h π
    | some v =>
      obtain ⟨u, eu, r⟩ := h.get e
      simp only [List.filterMap_cons, e, eu]
      exact .cons r (vals_perm h π)
def mCallK (π : List Nat) (g : Fm) (fa : Sm (List T)) : Sm T := bnd fa fun ts => fun δ M =>
  if ts.all (fun t => match t with | .d _ => true | _ => false) = true then
    match g (perm π ts) M with
    | .ok r _ M' => if r.isBor = true then .bad else .ok r δ M'
    | .ex e _ M' => .ex e δ M'
    | .bad => .bad
  else .bad
abbrev QK (X : Cx) (W : WX) (kws : List Keyword) (f : Sm (List T)) : Prop := PK X kws (tA X.K W f)
theorem _root_.L2.PK.imp {t t' : TA} (h : PK X kws t) (i : ∀ σ H Q, t' σ H Q → t σ H Q) : PK X kws t' := ⟨fun pos pins s σ H Q I q => h.run pos pins s σ H Q I (i _ _ _ q)⟩
theorem qk_nil : QK X W [] mNil := pk_nil.imp fun σ H Q ⟨δ, τ, fs, M, r, q⟩ => q [] H rfl r
theorem qk_cons {nm : Option Str} {kpos : Pos} {f : Sm T} {g : Sm (List T)} (h : QE X W e f) (hs : QK X W kws g) : QK X W (⟨nm, e, kpos⟩ :: kws) (mCons f g) := by
  refine (pk_cons h hs).imp fun σ H Q ⟨δ, τ, fs, M, r, q⟩ => ⟨δ, τ, fs, M, r, Res.post_mono (bnd_post q) (fun a δ1 M1 q1 v H1 r1 => ?_) fun _ _ _ z => z⟩
  refine ⟨δ1, (v, a) :: τ, fs, M1, r1, Res.post_mono (bnd_post q1) (fun ts δ2 M2 q2 vs H2 hl r2 => ?_) fun _ _ _ z => z.push⟩
  exact q2 (v :: vs) H2 (by simp [hl]) r2
end
section
variable {K : KF} {H G : Hp} {ow : Addr → Option Who} {ι : List Addr} {σ : St} {δ : DL.Env} {τ : List (V × T)} {fs : List Fram} {M : Mem}
theorem atL_nth {vs : List V} {ds : List D} (a : AtL K G vs ds) : ∀ π : List Nat, AtL K G (perm π vs) (perm π ds)
  | [] => rfl
  | i :: π => by
    unfold perm
    cases e : ds[i]? with
    | none =>
      have : vs[i]? = none := List.getElem?_eq_none (by rw [a.length]; exact List.getElem?_eq_none_iff.mp e)
      simp only [List.filterMap_cons, e, this]
      exact atL_nth a π
    | some d =>
      obtain ⟨v, ev, r⟩ := a.get e
      simp only [List.filterMap_cons, e, ev]
      exact ⟨v, _, rfl, r, atL_nth a π⟩
theorem rz_stack : ∀ {vs : List V} {ds : List D}, RepG K H G ow ι (⟨σ, δ, τ⟩ :: fs) M → AtL K G vs ds → RepG K H G ow ι (⟨σ, δ, rz vs (ds.map T.d) τ⟩ :: fs) M := by
  intro vs ds
  induction ds generalizing vs τ with
  | nil => intro h a; rw [show vs = [] from a]; exact h
  | cons d ds ih =>
    rintro h ⟨v, r, e, a1, a2⟩
    subst e
    exact ih (h.push (t := .d d) a1) a2
theorem allD_of : ∀ {ts : List T}, ts.all (fun t => match t with | .d _ => true | _ => false) = true → ∃ ds, allD ts = some ds ∧ ts = ds.map T.d
  | [], _ => ⟨[], rfl, rfl⟩
  | t :: ts, h => by
    rw [List.all_cons, Bool.and_eq_true] at h
    obtain ⟨ds, e1, e2⟩ := allD_of h.2
    cases t with
    | d x => exact ⟨x :: ds, by simp [allD, e1], by rw [e2]; rfl⟩
    | _ => cases h.1
theorem perm_map {α β : Type} (f : α → β) (l : List α) : ∀ π : List Nat, perm π (l.map f) = (perm π l).map f
  | [] => rfl
  | i :: π => by
    unfold perm
    have := perm_map f l π
    unfold perm at this
    simp only [List.getElem?_map] at this
    cases e : l[i]? <;> simp [List.filterMap_cons, e, this]
end
section
variable {X : Cx} {W : WX} {k n : Nat} {f : Addr} {fd : FuncData} {ps ks : List Str} {sp : Sp} {x : Str} {p pos : Pos} {e : Expr} {es : List Expr} {kws : List Keyword} {g : Fm} {σ : St} {H : Hp} {Q : VK} {fa : Sm (List T)}
structure CalK (P : Program) (w : World) (K : KF) (mg : Str → Option Value) (base : Heap) (k : Nat) (x : Str) (n : Nat) (ks : List Str) (π : List Nat) (g : Fm) : Prop where
  ex : ∃ (f : Addr) (fd : FuncData) (ps : List Str), ps.length = n ∧ FnG P w K mg base k f fd ps (spG K n g) ∧ mg x = some (.ref f) ∧ PySem.W.keepIn K (.ref f) = true ∧
    ∀ (s : Shared) (ws : List Value), ws.length = n → BindsTo s fd ⟨[], ks.zip ws⟩ (ps.zip (perm π ws))
theorem CalK.mono {P : Program} {w : World} {K : KF} {mg : Str → Option Value} {base : Heap} {j k : Nat} {x : Str} {n : Nat} {ks : List Str} {π : List Nat} {g : Fm} (c : CalK P w K mg base j x n ks π g) (h : j ≤ k) : CalK P w K mg base k x n ks π g :=
  let ⟨f, fd, ps, a, F, b⟩ := c.ex; ⟨f, fd, ps, a, F.mono h, b⟩
theorem qe_callK {π : List Nat} (c : CalK X.prog X.w X.K X.mg X.base k x n ks π g) (hr : Room k X.A) (hgd : X.A.guards = some []) (tk : Takes X W) (hg : Gl X x) (ha : QK X W kws fa) (hlen : ∀ δ M ts δ' M', fa δ M = .ok ts δ' M' → ts.length = n) (hπ : ∀ l : List T, l.length = n → (perm π l).length = n)
    (hall : (backToKw pos (keywordEach kws X.env)).all (·.1.isSome) = true := by rfl) (hks : (backToKw pos (keywordEach kws X.env)).filterMap (·.1) = ks := by rfl)
    (hdb : (x == ("__debug__" : Str)) = false := by decide) (hpl : ((backTo pos (starEach [] X.env)).any (·.1) || (backToKw pos (keywordEach kws X.env)).any (·.1.isNone)) = false := by rfl) :
    QE X W (.Call (.Name x p) [] kws pos) (mCallK π g fa) := by
  obtain ⟨f, fd, ps, hp, F, hm, hk, hb⟩ := c.ex
  refine ⟨fun pins s σ H Q I h => wpAny_Call_Name_kw (ld_glob I hg hm ?_ hdb)⟩
  have h2 : tA X.K W fa σ H fun vs H1 => vs.length = n ∧ spG X.K n g (perm π vs) H1 Q fun c d H' => W c d σ H' := by
    obtain ⟨δ, τ, fs, M, r, q⟩ := h
    have q' := bnd_post q
    refine ⟨δ, τ, fs, M, r, ?_⟩
    cases ef : fa δ M with
    | ok ts δ1 M1 =>
      rw [ef] at q'
      have hn := hlen _ _ _ _ _ ef
      refine fun vs H1 hl r1 => ⟨hl.trans hn, ?_⟩
      have q2 : (if ts.all (fun t => match t with | .d _ => true | _ => false) = true then (match g (perm π ts) M1 with
          | .ok r _ M' => if r.isBor = true then Res.bad else .ok r δ1 M'
          | .ex e _ M' => .ex e δ1 M'
          | .bad => .bad) else Res.bad).post (fun r δ' M' => ∀ v H', Rep X.K H' (⟨σ, δ', (v, r) :: τ⟩ :: fs) M' → Q v H') (wX X.K W σ τ fs) := q'
      split at q2
      · rename_i hd
        obtain ⟨ds, e1, e2⟩ := allD_of hd
        obtain ⟨G, ow, ι, y, al⟩ := r1.pops hl e1
        have r2 : Rep X.K H1 (⟨σ, δ1, rz (perm π vs) (perm π ts) τ⟩ :: fs) M1 := by
          refine ⟨G, ow, ι, ?_⟩
          rw [e2, perm_map]
          exact rz_stack y (atL_nth al π)
        have hl2 : (perm π vs).length = (perm π ts).length := by
          have a := (atL_nth al π).length
          rw [e2, perm_map, List.length_map]; exact a
        refine call_sp hl2 (hπ _ hn) r2 ?_
        rw [if_pos]
        · exact q2
        · rw [e2, perm_map]; simp [T.isBor]
      · exact q2.elim
    | ex a b c => rw [ef] at q'; exact q'
    | bad => rw [ef] at q'; exact q'
  refine PySem.W.callWith_KW0 (h₀ := X.base) I.ok.mod.kin hk hall (thn (ha.run pos pins s σ H _ I h2) fun ws s1 ⟨zs, H1, J, r, hz, q⟩ => ⟨J.kIn, ?_⟩) hpl
  rw [hks]
  have hw : ws.length = n := r.length.symm.trans hz
  exact run_G F hr hgd tk J (hb s1 ws hw) (vals_perm r π) q
end
end DL

end
section
namespace DL
open PySem PySem.Spec L2
open PyProof.Rows (envOfC)
/-! ### a comprehension's block as a frame of its own -/
def wipeE (δ : DL.Env) : List Nat → DL.Env
  | [] => δ
  | v :: vs => (wipeE δ vs).set v none
def mergeE (δ δ' : DL.Env) : List Nat → DL.Env
  | [] => δ'
  | v :: vs => (mergeE δ δ' vs).set v ((δ[v]?).getD none)
theorem wipeE_length (δ : DL.Env) : ∀ vs, (wipeE δ vs).length = δ.length
  | [] => rfl
  | v :: vs => by unfold wipeE; rw [List.length_set, wipeE_length δ vs]
theorem mergeE_length (δ δ' : DL.Env) : ∀ vs, (mergeE δ δ' vs).length = δ'.length
  | [] => rfl
  | v :: vs => by unfold mergeE; rw [List.length_set, mergeE_length δ δ' vs]
theorem wipe_at {σ : St} {i : Nat} : ∀ {vs : List Nat}, (wipe σ vs)[i]? = if i ∈ vs then (σ[i]?).map (fun _ => none) else σ[i]?
  | [] => by simp [wipe]
  | v :: vs => by
    unfold wipe
    by_cases h : v = i
    · subst h
      rw [List.getElem?_set_self']
      simp [wipe_at (vs := vs)]
      split <;> cases σ[v]? <;> rfl
    · rw [List.getElem?_set_ne h, wipe_at (vs := vs)]
      by_cases h2 : i ∈ vs
      · simp [h2]
      · simp [h2, show ¬ i = v from fun e => h e.symm]
theorem wipeE_at {δ : DL.Env} {i : Nat} : ∀ {vs : List Nat}, (wipeE δ vs)[i]? = if i ∈ vs then (δ[i]?).map (fun _ => none) else δ[i]?
  | [] => by simp [wipeE]
  | v :: vs => by
    unfold wipeE
    by_cases h : v = i
    · subst h
      rw [List.getElem?_set_self']
      simp [wipeE_at (vs := vs)]
      split <;> cases δ[v]? <;> rfl
    · rw [List.getElem?_set_ne h, wipeE_at (vs := vs)]
      by_cases h2 : i ∈ vs
      · simp [h2]
      · simp [h2, show ¬ i = v from fun e => h e.symm]
theorem mergeE_at {δ δ' : DL.Env} (hl : δ.length = δ'.length) {i : Nat} : ∀ {vs : List Nat}, (mergeE δ δ' vs)[i]? = if i ∈ vs then δ[i]? else δ'[i]?
  | [] => by simp [mergeE]
  | v :: vs => by
    unfold mergeE
    by_cases h : v = i
    · subst h
      rw [List.getElem?_set_self']
      have e : (mergeE δ δ' vs).length = δ.length := by rw [mergeE_length, hl]
      by_cases hv : v < δ.length
      · have e2 : (mergeE δ δ' vs)[v]? = some ((mergeE δ δ' vs)[v]'(by omega)) := List.getElem?_eq_getElem (by omega)
        have e3 : δ[v]? = some δ[v] := List.getElem?_eq_getElem hv
        rw [e2, e3]; simp
      · have e2 : (mergeE δ δ' vs)[v]? = none := List.getElem?_eq_none (by omega)
        have e3 : δ[v]? = none := List.getElem?_eq_none (by omega)
        rw [e2, e3]; simp
    · rw [List.getElem?_set_ne h, mergeE_at hl (vs := vs)]
      by_cases h2 : i ∈ vs
      · simp [h2]
      · simp [h2, show ¬ i = v from fun e => h e.symm]
def onlyE (δ : DL.Env) (vs : List Nat) : DL.Env := (List.range δ.length).map fun i => if i ∈ vs then (δ[i]?).getD none else none
theorem onlyE_at {δ : DL.Env} {vs : List Nat} {i : Nat} {t : T} (h : (onlyE δ vs)[i]? = some (some t)) : i ∈ vs ∧ δ[i]? = some (some t) := by
  unfold onlyE at h
  rw [List.getElem?_map] at h
  by_cases hi : i < δ.length
  · rw [List.getElem?_range hi] at h
    simp only [Option.map_some, Option.some.injEq] at h
    split at h
    · rename_i hm
      refine ⟨hm, ?_⟩
      rw [List.getElem?_eq_getElem hi] at h ⊢
      simp at h
      rw [h]
    · cases h
  · rw [List.getElem?_eq_none (by simpa using hi)] at h; cases h
theorem onlyE_of {δ : DL.Env} {vs : List Nat} {i : Nat} {t : T} (hm : i ∈ vs) (h : δ[i]? = some (some t)) : (onlyE δ vs)[i]? = some (some t) := by
  unfold onlyE
  have hi := (List.getElem?_eq_some_iff.mp h).1
  rw [List.getElem?_map, List.getElem?_range hi]
  simp [hm, h]
variable {K : KF} {H G : Hp} {ow : Addr → Option Who} {ι : List Addr} {σ : St} {δ : DL.Env} {τ τ1 : List (V × T)} {fs : List Fram} {M : Mem} {v u : V} {t : T}
def reIn (n m : Nat) (vs : List Nat) : Who → Who
  | .tmp k j => if k = n ∧ m ≤ j then .tmp (n + 1) (j - m) else .tmp k j
  | .slot k i => if k = n ∧ i ∉ vs then .slot (n + 1) i else .slot k i
  | w => w
theorem low_reIn {n m : Nat} {vs : List Nat} {w : Who} (h : w.Low n) : reIn n m vs w = w := by
  cases w with
  | slot k i => exact if_neg (fun z => absurd (show k < n from h) (by omega))
  | tmp k j => exact if_neg (fun z => absurd (show k < n from h) (by omega))
  | cell c => rfl
theorem RTs.split {k k' m : Nat} {ow' : Addr → Option Who} {σ' : St} (hn : ∀ j a, ow a = some (.tmp k (m + j)) → ow' a = some (.tmp k' j)) : ∀ {τ1 : List (V × T)}, τ.length = m → NB τ1 → RTs K H G ow ι σ k (τ1 ++ τ) → RTs K H G ow' ι σ' k' τ1
  | [], _, _, _ => trivial
  | q :: τ1, hm, nb, ⟨h1, h2⟩ => by
    refine ⟨h1.keep (Same.refl _) (fun a qa => ⟨?_, rfl⟩) (fun _ _ q => q) (fun i hi _ => ?_), RTs.split hn hm (fun p hp => nb p (by simp [hp])) h2⟩
    · refine hn _ a ?_
      rw [qa]
      have : (τ1.append τ).length = m + τ1.length := by
        show (τ1 ++ τ).length = _
        simp [hm]; omega
      rw [this]
    · have := nb q (by simp)
      rw [hi] at this; cases this
theorem RTs.low {k : Nat} : ∀ {τ1 : List (V × T)}, RTs K H G ow ι σ k (τ1 ++ τ) → RTs K H G ow ι σ k τ
  | [], h => h
  | _ :: _, ⟨_, h⟩ => RTs.low h
theorem Rep.blockIn (vs : List Nat) (h : Rep K H (⟨σ, δ, τ1 ++ τ⟩ :: fs) M) (nb : NB τ1) : Rep K H (⟨wipe σ vs, wipeE δ vs, τ1⟩ :: ⟨σ, onlyE δ vs, τ⟩ :: fs) M := by
  obtain ⟨G, ow, ι, x⟩ := h
  have len : σ.length = δ.length := x.frs.1.len
  refine ⟨G, fun a => (ow a).map (reIn fs.length τ.length vs), ι, ⟨x.sub, fun a w e => ?_, x.lenM, fun n c ec => ?_, ⟨by rw [wipe_length, wipeE_length]; exact len, fun j u ej => ?_, ?_⟩, ⟨by show σ.length = (onlyE δ vs).length; unfold onlyE; simp [len], fun j u ej => ?_, ?_⟩, ?_⟩⟩
  · cases q : ow a with
    | none => rw [q] at e; cases e
    | some w1 => exact x.own a w1 q
  · obtain ⟨a, q1, q2, q3⟩ := x.cells n c ec
    exact ⟨a, q1, by rw [q2]; rfl, q3⟩
  · have ej' : (wipeE δ vs)[j]? = some (some u) := ej
    rw [wipeE_at] at ej'
    split at ej'
    · cases e : δ[j]? <;> (rw [e] at ej'; cases ej')
    · rename_i hj
      obtain ⟨nu, v, e, r⟩ := x.slots_of ej'
      refine ⟨nu, v, by show (wipe σ vs)[j]? = _; rw [wipe_at, if_neg hj]; exact e, r.keep (Same.refl _) (fun a q => ⟨?_, rfl⟩) (fun _ _ q => q) (fun k hk _ => ?_)⟩
      · rw [q]; exact congrArg some (if_pos ⟨rfl, hj⟩ : reIn fs.length τ.length vs (.slot fs.length j) = _)
      · rw [hk] at nu; cases nu
  · refine RTs.split (m := τ.length) (fun j a q => ?_) rfl nb x.frs.1.tmps
    rw [q]
    refine congrArg some ((if_pos ⟨rfl, Nat.le_add_right _ _⟩ : reIn fs.length τ.length vs (.tmp fs.length (τ.length + j)) = _).trans ?_)
    rw [Nat.add_sub_cancel_left]; rfl
  · obtain ⟨hj, ed⟩ := onlyE_at ej
    obtain ⟨nu, v, e, r⟩ := x.slots_of ed
    refine ⟨nu, v, e, r.keep (Same.refl _) (fun a q => ⟨?_, rfl⟩) (fun _ _ q => q) (fun _ _ q => q)⟩
    rw [q]; exact congrArg some (if_neg (fun z => z.2 hj) : reIn fs.length τ.length vs (.slot fs.length j) = _)
  · refine x.frs.1.tmps.low.keep (Same.refl _) (fun j hj a q => ⟨?_, rfl⟩) (fun _ _ q => q) (fun _ _ _ _ q => q)
    rw [q]; exact congrArg some (if_neg (fun z => absurd (show j < τ.length from hj) (by omega)) : reIn fs.length τ.length vs (.tmp fs.length j) = _)
  · refine x.frs.2.keep (Same.refl _) (fun w hl a q => ⟨?_, rfl⟩) (fun _ _ q => q)
    rw [q]; exact congrArg some (low_reIn hl)
def reOut (n m : Nat) (vs : List Nat) : Who → Who
  | .tmp k j => if k = n + 1 ∧ j = 0 then .tmp n m else .tmp k j
  | .slot k i => if k = n + 1 ∧ i ∉ vs then .slot n i else .slot k i
  | w => w
theorem Rep.blockOut {vs : List Nat} {σ1 : St} {δ1 : DL.Env} (h : Rep K H (⟨σ1, δ1, [(v, t)]⟩ :: ⟨σ, onlyE δ vs, τ⟩ :: fs) M) (nt : t.isBor = false) (hσ : ∀ i, i ∉ vs → σ1[i]? = σ[i]?) (hl : δ.length = δ1.length) (hl2 : σ.length = δ.length) : Rep K H (⟨σ, mergeE δ δ1 vs, (v, t) :: τ⟩ :: fs) M := by
  obtain ⟨G, ow, ι, x⟩ := h
  refine ⟨G, fun a => (ow a).map (reOut fs.length τ.length vs), ι, ⟨x.sub, fun a w e => ?_, x.lenM, fun n c ec => ?_, ⟨by rw [mergeE_length]; exact hl2.trans hl, fun j u ej => ?_, ?_, ?_⟩, ?_⟩⟩
  · cases q : ow a with
    | none => rw [q] at e; cases e
    | some w1 => exact x.own a w1 q
  · obtain ⟨a, q1, q2, q3⟩ := x.cells n c ec
    exact ⟨a, q1, by rw [q2]; rfl, q3⟩
  · have ej' : (mergeE δ δ1 vs)[j]? = some (some u) := ej
    rw [mergeE_at hl] at ej'
    split at ej'
    · rename_i hj
      obtain ⟨nu, v, e, r⟩ := x.frs.2.1.slots j u (onlyE_of hj ej')
      refine ⟨nu, v, e, r.keep (Same.refl _) (fun a q => ⟨?_, rfl⟩) (fun _ _ q => q) (fun _ _ q => q)⟩
      rw [q]; exact congrArg some (if_neg (fun z => by omega) : reOut fs.length τ.length vs (.slot fs.length j) = _)
    · rename_i hj
      obtain ⟨nu, v, e, r⟩ := x.frs.1.slots j u ej'
      refine ⟨nu, v, (hσ j hj).symm.trans e, r.keep (Same.refl _) (fun a q => ⟨?_, rfl⟩) (fun _ _ q => q) (fun k hk _ => ?_)⟩
      · rw [q]; exact congrArg some (if_pos ⟨rfl, hj⟩ : reOut fs.length τ.length vs (.slot (fs.length + 1) j) = _)
      · rw [hk] at nu; cases nu
  · refine RT.keep (Same.refl _) (fun a q => ⟨?_, rfl⟩) (fun _ _ q => q) (fun i hi _ => ?_) x.top
    · rw [q]; exact congrArg some (if_pos ⟨rfl, rfl⟩ : reOut fs.length τ.length vs (.tmp (fs.length + 1) 0) = _)
    · have hi' : t = .bor i := hi
      rw [hi'] at nt; cases nt
  · refine x.frs.2.1.tmps.keep (Same.refl _) (fun j hj a q => ⟨?_, rfl⟩) (fun _ _ q => q) (fun _ _ _ _ q => q)
    rw [q]; exact congrArg some (if_neg (fun z => by omega) : reOut fs.length τ.length vs (.tmp fs.length j) = _)
  · refine x.frs.2.2.keep (Same.refl _) (fun w hl a q => ⟨?_, rfl⟩) (fun _ _ q => q)
    rw [q]
    cases w with
    | slot k i => exact congrArg some (if_neg (fun z => absurd (show k < fs.length from hl) (by omega)) : reOut fs.length τ.length vs (.slot k i) = _)
    | tmp k j => exact congrArg some (if_neg (fun z => absurd (show k < fs.length from hl) (by omega)) : reOut fs.length τ.length vs (.tmp k j) = _)
    | cell c => rfl
/-- the slots at vs forgotten -/
theorem Rep.scrub {vs : List Nat} (h : Rep K H (⟨σ, δ, τ⟩ :: fs) M) (nb : NB τ) : Rep K H (⟨wipe σ vs, wipeE δ vs, τ⟩ :: fs) M := by
  obtain ⟨G, ow, ι, x⟩ := h
  refine ⟨G, ow, ι, ⟨x.sub, x.own, x.lenM, x.cells, ⟨by rw [wipe_length, wipeE_length]; exact x.frs.1.len, fun j u ej => ?_, ?_⟩, x.frs.2⟩⟩
  · have ej' : (wipeE δ vs)[j]? = some (some u) := ej
    rw [wipeE_at] at ej'
    split at ej'
    · cases e : δ[j]? <;> (rw [e] at ej'; cases ej')
    · rename_i hj
      obtain ⟨nu, v, e, r⟩ := x.slots_of ej'
      refine ⟨nu, v, by show (wipe σ vs)[j]? = _; rw [wipe_at, if_neg hj]; exact e, r.env fun k hk => ?_⟩
      rw [hk] at nu; cases nu
  · refine x.frs.1.tmps.keep (Same.refl _) (fun _ _ _ q => ⟨q, rfl⟩) (fun _ _ q => q) (fun p hp k hk => ?_)
    have := nb p hp
    rw [hk] at this; cases this
/-- two temporaries exchanged -/
def reSwap (n m : Nat) : Who → Who
  | .tmp k j => if k = n ∧ j = m then .tmp n (m + 1) else if k = n ∧ j = m + 1 then .tmp n m else .tmp k j
  | w => w
theorem Rep.swap {p q : V × T} (h : Rep K H (⟨σ, δ, p :: q :: τ⟩ :: fs) M) : Rep K H (⟨σ, δ, q :: p :: τ⟩ :: fs) M := by
  obtain ⟨G, ow, ι, x⟩ := h
  have y := x.pop.pop
  refine ⟨G, fun a => (ow a).map (reSwap fs.length τ.length), ι, ⟨x.sub, fun a w e => ?_, x.lenM, fun n c ec => ?_, ⟨x.frs.1.len, fun j u ej => ?_, ?_, ?_, ?_⟩, ?_⟩⟩
  · cases z : ow a with
    | none => rw [z] at e; cases e
    | some w1 => exact x.own a w1 z
  · obtain ⟨a, q1, q2, q3⟩ := x.cells n c ec
    exact ⟨a, q1, by rw [q2]; rfl, q3⟩
  · obtain ⟨nu, v, e, r⟩ := y.slots_of ej
    exact ⟨nu, v, e, r.keep (Same.refl _) (fun a z => ⟨by rw [z]; rfl, rfl⟩) (fun _ _ q => q) (fun _ _ q => q)⟩
  · refine x.pop.top.keep (Same.refl _) (fun a z => ⟨?_, rfl⟩) (fun _ _ q => q) (fun _ _ q => q)
    rw [z]; exact congrArg some (if_pos ⟨rfl, rfl⟩ : reSwap fs.length τ.length (.tmp fs.length τ.length) = _)
  · refine x.top.keep (Same.refl _) (fun a z => ⟨?_, rfl⟩) (fun _ _ q => q) (fun _ _ q => q)
    rw [z]; exact congrArg some ((if_neg (fun z => by have := z.2; simp at this) : reSwap fs.length τ.length (.tmp fs.length (τ.length + 1)) = _).trans (if_pos ⟨rfl, rfl⟩))
  · refine y.frs.1.tmps.keep (Same.refl _) (fun j hj a z => ⟨?_, rfl⟩) (fun _ _ q => q) (fun _ _ _ _ q => q)
    have hj' : j < τ.length := hj
    rw [z]; exact congrArg some ((if_neg (fun z => by omega) : reSwap fs.length τ.length (.tmp fs.length j) = _).trans (if_neg (fun z => by omega)))
  · refine y.frs.2.keep (Same.refl _) (fun w hl a z => ⟨?_, rfl⟩) (fun _ _ q => q)
    rw [z]
    cases w with
    | slot k i => rfl
    | tmp k j =>
      have hk : k < fs.length := hl
      exact congrArg some ((if_neg (fun z => by omega) : reSwap fs.length τ.length (.tmp k j) = _).trans (if_neg (fun z => by omega)))
    | cell c => rfl
/-- the list on top grows by the datum above it -/
theorem Rep.snoc {a : Addr} {acc : List D} {y : D} {w : V} {vs : List V} (h : Rep K H (⟨σ, δ, (w, .d y) :: (.ref a, .con (.lst acc)) :: τ⟩ :: fs) M) (ha : H a = some (.lst vs)) : Rep K (upd H a (.lst (vs ++ [w]))) (⟨σ, δ, (.ref a, .con (.lst (acc ++ [y]))) :: τ⟩ :: fs) M := by
  obtain ⟨G, ow, ι, x⟩ := h
  have aw : At K G w y := x.top
  obtain ⟨b, eb, ob, vs', hb, al⟩ := x.pop.top
  cases eb
  rw [ha] at hb; cases hb
  have gb := (x.own a _ ob).1
  refine ⟨G, ow, ι, RepG.push (x.pop.pop.chg (fun w => w = .tmp fs.length τ.length) (fun w e => ⟨_, e, Nat.le_refl _⟩) (fun b w e nb => ⟨e, upd_ne ?_⟩) (Same.refl _) (fun b u e => ?_) (fun b w e => ?_)) ?_⟩
  · intro z; subst z; rw [ob] at e; cases e; exact nb rfl
  · by_cases hba : b = a
    · subst hba; rw [gb] at e; cases e
    · rw [upd_ne hba]; exact x.sub _ _ e
  · refine ⟨(x.own b w e).1, ?_⟩
    by_cases hba : b = a
    · subst hba; exact ⟨_, upd_same⟩
    · rw [upd_ne hba]; exact (x.own b w e).2
  · exact ⟨a, rfl, ob, vs ++ [w], upd_same, al.app (AtL.one aw)⟩
end DL

end
section
namespace DL
open PySem PySem.Spec L2
variable {X : Cx} {W : WX} {K : KF} {H G : Hp} {σ : St} {δ : DL.Env} {τ : List (V × T)} {fs : List Fram} {M : Mem} {v u : V} {t : T} {e : Expr} {pos : Pos}
/-- no exception -/
abbrev WF : WX := fun _ _ _ _ => False
/-- a comprehension's target: what the other names hold stays -/
def tGw (K : KF) (vs : List Nat) (f : T → Sm Unit) : TG := fun v σ H Q => ∃ t δ τ fs M, t.isBor = false ∧ NB τ ∧ Rep K H (⟨σ, δ, (v, t) :: τ⟩ :: fs) M ∧ (f t δ M).post (fun _ δ' M' => ∀ σ' H', wipe σ' vs = wipe σ vs → Rep K H' (⟨σ', δ', τ⟩ :: fs) M' → Q σ' H') fun _ _ _ => False
abbrev QGw (X : Cx) (vs : List Nat) (tg : Expr) (f : T → Sm Unit) : Prop := PG X tg (tGw X.K vs f)
theorem wipe_set {σ : St} {i : Nat} {o : Option V} : ∀ {vs : List Nat}, i ∈ vs → wipe (σ.set i o) vs = wipe σ vs := by
  intro vs hi
  apply List.ext_getElem?
  intro j
  rw [wipe_at, wipe_at]
  by_cases hj : j ∈ vs
  · rw [if_pos hj, if_pos hj]
    by_cases h : i = j
    · subst h
      rw [List.getElem?_set_self']
      cases σ[i]? <;> rfl
    · rw [List.getElem?_set_ne h]
  · rw [if_neg hj, if_neg hj, List.getElem?_set_ne (fun e => hj (by rw [← e]; exact hi))]
def mNm (i : Nat) : T → Sm Unit := fun t δ M => if i < δ.length then .ok () (δ.set i (some t)) M else .bad
theorem qgw_name {i : Nat} {x : Str} {vs : List Nat} (hN : X.N.Nodup) (hi : X.N[i]? = some x) (hv : i ∈ vs) (hx : Loc X.env.scope x) (hf : X.fn x = true ∨ X.env.scope.names.lookup x = some .local) : QGw X vs (.Name x pos) (mNm i) := by
  refine ⟨fun pins s σ H v u Q I r h => (pg_name hN hi hx hf).run pins s σ H v u Q I r ?_⟩
  obtain ⟨t, δ, τ, fs, M, nt, nb, rp, q⟩ := h
  unfold mNm at q
  split at q
  · rename_i hl
    exact q _ H (wipe_set hv) (rp.put nt nb (by rw [rp.len]; exact hl))
  · exact q.elim
def tGws (K : KF) (vs : List Nat) (f : List D → Sm Unit) : TGs := fun us σ H Q => ∃ ds δ τ fs M, us.length = ds.length ∧ NB τ ∧ Rep K H (⟨σ, δ, stack us ds τ⟩ :: fs) M ∧ (f ds δ M).post (fun _ δ' M' => ∀ σ' H', wipe σ' vs = wipe σ vs → Rep K H' (⟨σ', δ', τ⟩ :: fs) M' → Q σ' H') fun _ _ _ => False
abbrev QGws (X : Cx) (vs : List Nat) (ts : List Expr) (f : List D → Sm Unit) : Prop := PGs X ts (tGws X.K vs f)
def mGn : List D → Sm Unit := fun ds => if ds.isEmpty = true then ret () else fail
def mGc (f : T → Sm Unit) (g : List D → Sm Unit) : List D → Sm Unit := fun ds => match ds with
  | [] => fail
  | d :: r => bnd (f (.d d)) fun _ => g r
def mGt (n : Nat) (g : List D → Sm Unit) : T → Sm Unit := fun t => match t with
  | .d (.tuple ds) => if ds.length = n then g ds else fail
  | _ => fail
theorem qgws_nil {vs : List Nat} : QGws X vs [] mGn := by
  refine ⟨fun pins s σ H us uu Q I r h => pgs_nil.run pins s σ H us uu Q I r ?_⟩
  obtain ⟨ds, δ, τ, fs, M, hl, nb, rp, q⟩ := h
  cases ds with
  | nil =>
    cases us with
    | nil => exact ⟨rfl, q σ H rfl rp⟩
    | cons _ _ => simp at hl
  | cons _ _ => exact q.elim
theorem qgws_cons {vs : List Nat} {es : List Expr} {f : T → Sm Unit} {g : List D → Sm Unit} (h1 : QGw X vs e f) (h2 : QGws X vs es g) (hs : (assignEach (e :: es) X.env).map (·.2) = assign e X.env :: (assignEach es X.env).map (·.2)) : QGws X vs (e :: es) (mGc f g) := by
  refine ⟨fun pins s σ H us uu Q I r h => (pgs_cons h1 h2 hs).run pins s σ H us uu Q I r ?_⟩
  obtain ⟨ds, δ, τ, fs, M, hl, nb, rp, q⟩ := h
  cases ds with
  | nil => exact q.elim
  | cons d ds =>
    cases us with
    | nil => simp at hl
    | cons v us =>
      refine ⟨v, us, rfl, .d d, δ, stack us ds τ, fs, M, rfl, nb.stack, rp, ?_⟩
      refine Res.post_mono (bnd_post q) (fun _ δ1 M1 q1 σ1 H1 ew r1 => ?_) fun _ _ _ z => z
      exact ⟨ds, δ1, τ, fs, M1, by simpa using hl, nb, r1, Res.post_mono q1 (fun _ δ2 M2 q2 σ2 H2 ew2 r2 => q2 σ2 H2 (ew2.trans ew) r2) fun _ _ _ z => z⟩
theorem qgw_tup {vs : List Nat} {es : List Expr} {k n : Nat} {g : List D → Sm Unit} (hc : X.calm = true) (h : QGws X vs es g) (hn : (assignEach es X.env).length = n) (hst : (assignEach es X.env).findIdx? (·.1) = none) : QGw X vs (.Tuple es k pos) (mGt n g) := by
  refine ⟨fun pins s σ H v u Q I r h' => (pg_tup hc h hn hst).run pins s σ H v u Q I r ?_⟩
  obtain ⟨t, δ, τ, fs, M, nt, nb, rp, q⟩ := h'
  cases t with
  | d x =>
    cases x with
    | tuple ds =>
      unfold mGt at q
      simp only at q
      split at q
      · rename_i hl
        obtain ⟨G, ow, ι, y⟩ := rp
        obtain ⟨a, us, e, sq, al⟩ := y.top
        have hlen := al.length
        exact ⟨a, us, e, SqT.grow y.sub sq, by omega, ds, δ, τ, fs, M, hlen, nb, ⟨G, ow, ι, y.pop.pushAll al⟩, q⟩
      · exact q.elim
    | _ => exact q.elim
  | _ => exact q.elim

/-! ### [elt for tg in .. if ..] -/
def lcF (vs : List Nat) (tg : T → Sm Unit) (tt : Sm Bool) (te : Sm T) : List D → List D → Sm (List D)
  | [], acc => ret acc
  | d :: ds, acc => fun δ M =>
    match tg (.d d) δ M with
    | .ok _ δ1 M1 => (bnd tt fun b => if b = true then bnd (bnd te mFrz) fun t => (match t with
        | .d y => fun δ2 M2 => lcF vs tg tt te ds (acc ++ [y]) (wipeE δ2 vs) M2
        | _ => fail) else fun δ2 M2 => lcF vs tg tt te ds acc (wipeE δ2 vs) M2) δ1 M1
    | _ => .bad
def lcEnd (δ : DL.Env) (vs : List Nat) (r : Res (List D)) : Res T :=
  match r with
  | .ok acc δ' M' => if δ'.length = δ.length then .ok (.con (.lst acc)) (mergeE δ δ' vs) M' else .bad
  | _ => .bad
def mLc (vs : List Nat) (g : Sm (List D)) (tg : T → Sm Unit) (tt : Sm Bool) (te : Sm T) : Sm T := bnd g fun ds => fun δ M =>
  if ds.length ≤ 16000000 then
    lcEnd δ vs (lcF vs tg tt te ds [] (wipeE δ vs) M)
  else .bad
theorem lcEnd_post {δ : DL.Env} {vs : List Nat} {r : Res (List D)} {k2 : T → DL.Env → Mem → Prop} {x : XD → DL.Env → Mem → Prop} (q : (lcEnd δ vs r).post k2 x) : r.post (fun acc δ' M' => δ'.length = δ.length ∧ k2 (.con (.lst acc)) (mergeE δ δ' vs) M') fun _ _ _ => False := by
  cases r with
  | ok a δ' M => 
    unfold lcEnd at q
    simp only at q
    split at q
    · rename_i h; exact ⟨h, q⟩
    · exact q.elim
  | ex a b c => exact q
  | bad => exact q
/-- the list below the walked thing grows by the datum on top -/
theorem Rep.snoc2 {a : Addr} {acc : List D} {y : D} {w : V} {vs : List V} {tm : V × T} (h : Rep K H (⟨σ, δ, (w, .d y) :: tm :: (.ref a, .con (.lst acc)) :: τ⟩ :: fs) M) (ha : H a = some (.lst vs)) : Rep K (upd H a (.lst (vs ++ [w]))) (⟨σ, δ, tm :: (.ref a, .con (.lst (acc ++ [y]))) :: τ⟩ :: fs) M := by
  obtain ⟨G, ow, ι, x⟩ := h
  have aw : At K G w y := x.top
  obtain ⟨b, eb, ob, vs', hb, al⟩ := x.pop.pop.top
  cases eb
  rw [ha] at hb; cases hb
  have gb := (x.own a _ ob).1
  have rt := x.pop.top
  refine ⟨G, ow, ι, RepG.push (RepG.push (x.pop.pop.pop.chg (fun w => w = .tmp fs.length τ.length) (fun w e => ⟨_, e, Nat.le_refl _⟩) (fun b w e nb => ⟨e, upd_ne ?_⟩) (Same.refl _) (fun b u e => ?_) (fun b w e => ?_)) ?_) ?_⟩
  · intro z; subst z; rw [ob] at e; cases e; exact nb rfl
  · by_cases hba : b = a
    · subst hba; rw [gb] at e; cases e
    · rw [upd_ne hba]; exact x.sub _ _ e
  · refine ⟨(x.own b w e).1, ?_⟩
    by_cases hba : b = a
    · subst hba; exact ⟨_, upd_same⟩
    · rw [upd_ne hba]; exact (x.own b w e).2
  · exact ⟨a, rfl, ob, vs ++ [w], upd_same, al.app (AtL.one aw)⟩
  · refine rt.keep (Same.refl _) (fun b q => ⟨q, upd_ne ?_⟩) (fun _ _ q => q) (fun _ _ q => q)
    intro z; subst z
    rw [ob] at q
    have := Option.some.inj q
    injection this with _ e2
    simp at e2
theorem line16 {n : Nat} (h : n < 16000001) : n < sizeLine := Nat.lt_of_lt_of_le h (by decide)
theorem lc_rd {vs : List Nat} {g : Sm (List D)} {tg : T → Sm Unit} {tt : Sm Bool} {te : Sm T} {Q : VK} (q : tE K W (mLc vs g tg tt te) σ H Q) : tLc (tI K W g) (tGw K vs tg) (tT K WF tt) (tE K WF te) vs σ H Q := by
  obtain ⟨δ, τ, fs, M, r, q⟩ := q
  refine ⟨δ, τ, fs, M, r, Res.post_mono (bnd_post q) (fun ds δ1 M1 q1 J H1 tm ok r1 D hD => ?_) fun _ _ _ z => z⟩
  split at q1
  · rename_i hz
    -- the new list, then the block's frame
    have r2 : Rep K (upd H1 D (.lst [])) (⟨σ, δ1, (.ref D, .con (.lst [])) :: tm :: τ⟩ :: fs) M1 := Rep.newLst (let ⟨G, ow, ι, y⟩ := r1; ⟨G, ow, ι, y, AtL.nil⟩) hD
    have nb0 : NB [tm, (V.ref D, T.con (.lst []))] := NB.cons ok.nb (NB.cons rfl NB.nil)
    have r3 : Rep K (upd H1 D (.lst [])) (⟨wipe σ vs, wipeE δ1 vs, [tm, (.ref D, .con (.lst []))]⟩ :: ⟨σ, onlyE δ1 vs, τ⟩ :: fs) M1 := Rep.blockIn (τ1 := [tm, (.ref D, .con (.lst []))]) vs r2.swap nb0
    have hlen : σ.length = δ1.length := r1.len
    have q2 := lcEnd_post q1
    refine ⟨fun i m H => m = ds.length - i ∧ i ≤ ds.length ∧ ∃ acc δ' M', acc.length ≤ i ∧ Rep K H (⟨wipe σ vs, δ', [tm, (.ref D, .con (.lst acc))]⟩ :: ⟨σ, onlyE δ1 vs, τ⟩ :: fs) M' ∧
      (lcF vs tg tt te (ds.drop i) acc δ' M').post (fun acc δ' M' => δ'.length = δ1.length ∧ ∀ v H', Rep K H' (⟨σ, mergeE δ1 δ' vs, (v, .con (.lst acc)) :: τ⟩ :: fs) M' → Q v H') fun _ _ _ => False,
      ⟨_, rfl, Nat.zero_le _, [], _, _, Nat.le_refl _, r3, q2⟩, ?_⟩
    rintro i m H2 ⟨rfl, hi, acc, δ2, M2, hacc, r4, q4⟩
    obtain ⟨stop, step⟩ := ok.turn i H2 _ δ2 _ _ M2 r4
    by_cases hlt : i < ds.length
    · have ed : ds[i]? = some ds[i] := List.getElem?_eq_getElem hlt
      obtain ⟨go, yld⟩ := step _ ed
      rw [drop_cons' ed] at q4
      refine .inr ⟨go, fun H' => i + 1 ≤ ds.length ∧ ∃ acc δ' M', acc.length ≤ i + 1 ∧ Rep K H' (⟨wipe σ vs, δ', [tm, (.ref D, .con (.lst acc))]⟩ :: ⟨σ, onlyE δ1 vs, τ⟩ :: fs) M' ∧
        (lcF vs tg tt te (ds.drop (i + 1)) acc δ' M').post (fun acc δ' M' => δ'.length = δ1.length ∧ ∀ v H', Rep K H' (⟨σ, mergeE δ1 δ' vs, (v, .con (.lst acc)) :: τ⟩ :: fs) M' → Q v H') fun _ _ _ => False,
        fun H' n => ⟨ds.length - (i + 1), by omega, rfl, n.1, n.2⟩, fun x H' y => ?_⟩
      have r5 := yld x H' y
      have nb : NB [tm, (V.ref D, T.con (.lst acc))] := NB.cons ok.nb (NB.cons rfl NB.nil)
      unfold lcF at q4
      refine ⟨.d ds[i], δ2, [tm, (.ref D, .con (.lst acc))], _, M2, rfl, nb, r5, ?_⟩
      cases et : tg (.d ds[i]) δ2 M2 with
      | ex a b c => simp only [et] at q4; exact q4.elim
      | bad => simp only [et] at q4; exact q4.elim
      | ok _ δ3 M3 =>
        simp only [et] at q4
        refine fun σ3 H3 ew r6 => ⟨?_, δ3, [tm, (.ref D, .con (.lst acc))], _, M3, r6, Res.post_mono (bnd_post q4) (fun b δ4 M4 q5 H4 r7 => ?_) fun _ _ _ z => z.elim⟩
        · rw [ew]
          apply List.ext_getElem?
          intro j
          simp only [wipe_at]
          split
          · cases σ[j]? <;> rfl
          · rfl
        have ew2 : wipe σ3 vs = wipe σ vs := by
          rw [ew]
          apply List.ext_getElem?
          intro j
          simp only [wipe_at]
          split
          · cases σ[j]? <;> rfl
          · rfl
        cases b with
        | false =>
          have r8 := r7.scrub (vs := vs) nb
          rw [ew2] at r8
          exact ⟨hlt, acc, _, M4, by omega, r8, q5⟩
        | true =>
          simp only [if_true] at q5 ⊢
          have q6 := bnd_post (bnd_post q5)
          refine ⟨δ4, [tm, (.ref D, .con (.lst acc))], _, M4, r7, Res.post_mono (bnd_post (bnd_post q5)) (fun tv δ5 M5 q7 w H5 r8 => ?_) fun _ _ _ z => z.elim⟩
          cases ef : mFrz tv δ5 M5 with
          | ex a b c => rw [ef] at q7; exact q7.elim
          | bad => rw [ef] at q7; exact q7.elim
          | ok t2 δ6 M6 =>
            rw [ef] at q7
            have r9 := r8.frz ef
            cases t2 with
            | d y =>
              have hDl : ∃ us, H5 D = some (.lst us) ∧ us.length = acc.length := by
                obtain ⟨G, ow, ι, z⟩ := r9
                obtain ⟨b, eb, _, us, hb, al⟩ := z.pop.pop.top
                cases eb
                exact ⟨us, hb, al.length⟩
              obtain ⟨us, hus, hul⟩ := hDl
              refine ⟨us, hus, line16 (by omega), hlt, acc ++ [y], _, M6, by simp; omega, ?_, q7⟩
              have r10 := (r9.snoc2 hus).scrub (vs := vs) (NB.cons ok.nb (NB.cons rfl NB.nil))
              rw [ew2] at r10
              exact r10
            | _ => exact q7.elim
    · refine .inl ⟨stop (by omega), ?_⟩
      rw [List.drop_eq_nil_of_le (by omega)] at q4
      unfold lcF at q4
      exact q4.2 _ H2 (Rep.blockOut (σ1 := wipe σ vs) (Rep.swap r4).nip rfl (fun j hj => by rw [wipe_at, if_neg hj]) q4.1.symm hlen)
  · exact q1.elim
end DL

end
section
namespace DL
open PySem PySem.Spec L2
variable {X : Cx} {W : WX} {K : KF} {H G : Hp} {σ : St} {δ : DL.Env} {τ : List (V × T)} {fs : List Fram} {M : Mem} {v u : V} {t : T} {e : Expr} {pos : Pos}
theorem _root_.L2.PTs.imp {ifs : List Expr} {t t' : TT} (h : PTs X ifs t) (i : ∀ σ H Q, t' σ H Q → t σ H Q) : PTs X ifs t' := ⟨fun pins s σ H Q I q => h.run pins s σ H Q I (i _ _ _ q)⟩
abbrev QTs (X : Cx) (ifs : List Expr) (f : Sm Bool) : Prop := PTs X ifs (tT X.K WF f)
theorem qts_nil : QTs X [] (ret true) := pts_nil.imp fun σ H Q ⟨δ, τ, fs, M, r, q⟩ => q H r
theorem qts_one {c : Expr} {f : Sm Bool} (h : QT X WF c f) : QTs X [c] f := pts_one h
theorem qe_lc {elt tg iter : Expr} {ifs : List Expr} {scope : Scope} {own : List (Str × Nat)} {g : Sm (List D)} {f : T → Sm Unit} {tt : Sm Bool} {te : Sm T} (hc : X.calm = true) (hN : X.N.Nodup) (hi : QI X W tg iter g) (ok : BlkOk X.N X.env.scope scope own)
    (hg : ∀ (s : Shared) (H : Hp) (C : Addr) (cl : List (Str × Addr)) (fp : List Addr), QGw (X.blk s H scope (compEnvC scope cl C X.env) fp) (own.map (·.2)) tg f)
    (ht : ∀ (s : Shared) (H : Hp) (C : Addr) (cl : List (Str × Addr)) (fp : List Addr), QTs (X.blk s H scope (compEnvC scope cl C X.env) fp) ifs tt)
    (he : ∀ (s : Shared) (H : Hp) (C : Addr) (cl : List (Str × Addr)) (fp : List Addr), QE (X.blk s H scope (compEnvC scope cl C X.env) fp) WF elt te) (hs : ∀ x, foldedSetIterable iter X.env x = pure x := by intro _; rfl) :
    QE X W (.ListComp elt [⟨tg, iter, ifs, 0⟩] scope pos) (mLc (own.map (·.2)) g f tt te) :=
  (pe_lc hc hN hi ok hg ht he hs).imp fun _ _ _ q => lc_rd q
/-- name = [..] on one line -/
theorem qs_setLc {i : Nat} {y : Str} {py : Pos} {elt tg iter : Expr} {ifs : List Expr} {scope : Scope} {own : List (Str × Nat)} {spos : Pos} {g : Sm (List D)} {f : T → Sm Unit} {tt : Sm Bool} {te : Sm T} (hc : X.calm = true) (hN : X.N.Nodup) (hy : X.N[i]? = some y) (hyl : X.env.scope.names.lookup y = some .local)
    (hsw : swapsWith (.ListComp elt [⟨tg, iter, ifs, 0⟩] scope pos) (some (.Name y py)) spos.line X.env = pure true) (hi : QI X W tg iter g) (ok : BlkOk X.N X.env.scope scope own)
    (hg : ∀ (s : Shared) (H : Hp) (C : Addr) (cl : List (Str × Addr)) (fp : List Addr), QGw (X.blk s H scope (compEnvC scope cl C X.env) fp) (own.map (·.2)) tg f)
    (ht : ∀ (s : Shared) (H : Hp) (C : Addr) (cl : List (Str × Addr)) (fp : List Addr), QTs (X.blk s H scope (compEnvC scope cl C X.env) fp) ifs tt)
    (he : ∀ (s : Shared) (H : Hp) (C : Addr) (cl : List (Str × Addr)) (fp : List Addr), QE (X.blk s H scope (compEnvC scope cl C X.env) fp) WF elt te) (hs : ∀ x, foldedSetIterable iter X.env x = pure x := by intro _; rfl) :
    QS X W (.Assign [.Name y py] (.ListComp elt [⟨tg, iter, ifs, 0⟩] scope pos) spos) (mSet i (mLc (own.map (·.2)) g f tt te)) := by
  refine (ps_setLc (g := tGw X.K (own.map (·.2)) f) (tt := tT X.K WF tt) (te := tE X.K WF te) hc hN hy hyl hsw hi ok hg ht he hs).imp fun D σ H ⟨δ, τ, fs, M, nb, r, q⟩ => ?_
  refine lc_rd (W := W) ⟨δ, τ, fs, M, r, Res.post_mono (bnd_post q) (fun t δ1 M1 q1 v H1 r1 => ?_) fun _ _ _ z => xw z⟩
  obtain ⟨r', δ2, M2, e2, q2⟩ := mOwn_post (bnd_post q1)
  obtain ⟨r2, nb2⟩ := r1.own e2
  split at q2
  · rename_i hl
    exact q2 _ H1 (r2.put nb2 nb (by rw [r2.len]; exact hl))
  · exact q2.elim

/-! ### built-in functions -/
def mBlt (F : List T → Sm T) (fa : Sm (List T)) : Sm T := bnd fa F
/-- a built-in by what it says of the temporaries -/
def BltD (X : Cx) (W : WX) (r : List V → Hp → VK → Prop) (F : List T → Sm T) : Prop := ∀ (σ : St) (δ : DL.Env) (τ : List (V × T)) (fs : List Fram) (M : Mem) (H : Hp) (Q : VK) (vs : List V) (ts : List T), vs.length = ts.length → Rep X.K H (⟨σ, δ, rz vs ts τ⟩ :: fs) M →
  (F ts δ M).post (fun r δ' M' => ∀ v H', Rep X.K H' (⟨σ, δ', (v, r) :: τ⟩ :: fs) M' → Q v H') (fun _ _ _ => False) → r vs H Q
theorem blt_rd {r : List V → Hp → VK → Prop} {F : List T → Sm T} {fa : Sm (List T)} {Q : VK} (hF : BltD X W r F) (nx : ∀ ts δ M e δ' M', F ts δ M ≠ .ex e δ' M') (q : tE X.K W (mBlt F fa) σ H Q) : tCB r (tA X.K W fa) σ H Q := by
  obtain ⟨δ, τ, fs, M, rp, q⟩ := q
  exact ⟨δ, τ, fs, M, rp, Res.post_mono (bnd_post q) (fun ts δ1 M1 q1 vs H1 hl r1 => hF σ δ1 τ fs M1 H1 Q vs ts hl r1 (Res.noex q1 (nx ts δ1 M1))) fun _ _ _ z => z⟩
section
variable {x : Str} {p : Pos} {es : List Expr} {id T' : String} {r : List V → Hp → VK → Prop} {F : List T → Sm T} {fa : Sm (List T)}
theorem qe_blt (hc : CallR X (.builtin id) r) (hF : BltD X W r F) (nx : ∀ ts δ M e δ' M', F ts δ M ≠ .ex e δ' M') (hg : Gl X x) (hm : X.mg x = none) (hv : bootBuiltins x = some (.builtin id)) (ha : QA X W (e :: es) fa) (hn : x ≠ "__name__" := by decide) (hdb : (x == ("__debug__" : Str)) = false := by decide)
    (he : starEach (e :: es) X.env = (false, eval e X.env) :: starEach es X.env := by rfl) (hpl : (backTo pos (starEach es X.env)).any (·.1) = false := by rfl) : QE X W (.Call (.Name x p) (e :: es) [] pos) (mBlt F fa) :=
  (pe_callB hc hg hm hv ha hn hdb he hpl).imp fun _ _ _ q => blt_rd hF nx q
theorem qe_ty (hc : CallR X (.type T') r) (hF : BltD X W r F) (nx : ∀ ts δ M e δ' M', F ts δ M ≠ .ex e δ' M') (hg : Gl X x) (hm : X.mg x = none) (hv : bootBuiltins x = some (.type T')) (ha : QA X W (e :: es) fa) (hn : x ≠ "__name__" := by decide) (hdb : (x == ("__debug__" : Str)) = false := by decide)
    (he : starEach (e :: es) X.env = (false, eval e X.env) :: starEach es X.env := by rfl) (hpl : (backTo pos (starEach es X.env)).any (·.1) = false := by rfl) : QE X W (.Call (.Name x p) (e :: es) [] pos) (mBlt F fa) :=
  (pe_callTy hc hg hm hv ha hn hdb he hpl).imp fun _ _ _ q => blt_rd hF nx q
end
theorem opt_noex {α : Type} {o : Option α} {δ : DL.Env} {M : Mem} {e : XD} {δ' : DL.Env} {M' : Mem} : opt o δ M ≠ .ex e δ' M' := by
  intro h; unfold opt at h; split at h <;> cases h
/-- the answer a plain datum, of the arguments' data -/
def vws : List T → DL.Env → Mem → Option (List D)
  | [], _, _ => some []
  | t :: ts, δ, M => (vw t δ M).bind fun d => (vws ts δ M).map (d :: ·)
def mPl (F : List D → Option D) : List T → Sm T := fun ts δ M => opt (((vws ts δ M).bind F).bind fun z => if plain z = true then some (T.d z) else Option.none) δ M
theorem mPl_noex {F : List D → Option D} : ∀ ts δ M e δ' M', mPl F ts δ M ≠ .ex e δ' M' := fun _ _ _ _ _ _ => opt_noex
theorem rz_vw : ∀ {vs : List V} {ts : List T} {ds : List D}, vs.length = ts.length → Rep K H (⟨σ, δ, rz vs ts τ⟩ :: fs) M → vws ts δ M = some ds → ∃ G ow ι, RepG K H G ow ι (⟨σ, δ, τ⟩ :: fs) M ∧ vs.length = ds.length ∧ ∀ (i : Nat) (d : D), ds[i]? = some d → ∃ v, vs[i]? = some v ∧ AtV K H G v d := by
  intro vs ts ds hl h hd
  obtain ⟨G, ow, ι, x⟩ := h
  obtain ⟨h1, h2⟩ := rts_rz hl x.frs.1.tmps
  have y : RepG K H G ow ι (⟨σ, δ, τ⟩ :: fs) M := ⟨x.sub, x.own, x.lenM, x.cells, ⟨x.frs.1.len, x.frs.1.slots, h1⟩, x.frs.2⟩
  refine ⟨G, ow, ι, y, ?_⟩
  have h3 : ∀ (j : Nat) (t : T), ts[j]? = some t → ∃ v, vs[j]? = some v ∧ ∃ w, RT K H G ow ι σ w v t := fun j t e => by
    obtain ⟨v, a, b⟩ := h2 j t e
    exact ⟨v, a, _, b⟩
  clear h1 h2 x
  induction ts generalizing vs ds with
  | nil =>
    cases hd
    exact ⟨hl, fun i d e => by simp at e⟩
  | cons t ts ih =>
    cases vs with
    | nil => simp at hl
    | cons v vs =>
      unfold vws at hd
      cases ev : vw t δ M with
      | none => rw [ev] at hd; cases hd
      | some d0 =>
        cases es : vws ts δ M with
        | none => rw [ev, es] at hd; cases hd
        | some ds' =>
          rw [ev, es] at hd
          cases hd
          obtain ⟨a, b⟩ := ih (vs := vs) (by simpa using hl) es fun j t e => h3 (j + 1) t (by simpa using e)
          refine ⟨by simp [a], fun i d e => ?_⟩
          cases i with
          | zero =>
            simp at e
            subst e
            obtain ⟨v', e1, w, r⟩ := h3 0 t rfl
            simp at e1
            subst e1
            exact ⟨v, rfl, y.vw r ev⟩
          | succ i =>
            obtain ⟨v', e1, r⟩ := b i d (by simpa using e)
            exact ⟨v', by simpa using e1, r⟩
theorem pl_bltD {r : List V → Hp → VK → Prop} {F : List D → Option D} (h : ∀ (H : Hp) (Q : VK) (vs : List V) (ds : List D) (z : D), vs.length = ds.length → (∀ (i : Nat) (d : D), ds[i]? = some d → ∃ v, vs[i]? = some v ∧ At X.K H v d) → F ds = some z → (∀ w, (∀ G, At X.K G w z) → Q w H) → r vs H Q) : BltD X W r (mPl F) := by
  intro σ δ τ fs M H Q vs ts hl rp q
  obtain ⟨t, et, q⟩ := opt_post q
  cases ed : vws ts δ M with
  | none => rw [ed] at et; cases et
  | some ds =>
    rw [ed] at et
    simp only [Option.bind_some] at et
    cases ef : F ds with
    | none => rw [ef] at et; cases et
    | some z =>
      rw [ef] at et
      simp only [Option.bind_some] at et
      split at et
      · cases et
        obtain ⟨G, ow, ι, y, hl2, hv⟩ := rz_vw hl rp ed
        refine h H Q vs ds z hl2 (fun i d e => ?_) ef fun w hw => q w H ⟨G, ow, ι, y.push (hw G)⟩
        obtain ⟨v, e1, a⟩ := hv i d e
        exact ⟨v, e1, a.at y.sub⟩
      · cases et
theorem one_arg {vs : List V} {d : D} (hl : vs.length = [d].length) (h : ∀ (i : Nat) (d' : D), [d][i]? = some d' → ∃ v, vs[i]? = some v ∧ At K H v d') : ∃ v, vs = [v] ∧ At K H v d := by
  match vs, hl with
  | [v], _ =>
    obtain ⟨v', e, a⟩ := h 0 d rfl
    simp at e
    subst e
    exact ⟨v, rfl, a⟩
theorem two_arg {vs : List V} {d d2 : D} (hl : vs.length = [d, d2].length) (h : ∀ (i : Nat) (d' : D), [d, d2][i]? = some d' → ∃ v, vs[i]? = some v ∧ At K H v d') : ∃ v u, vs = [v, u] ∧ At K H v d ∧ At K H u d2 := by
  match vs, hl with
  | [v, u], _ =>
    obtain ⟨v', e, a⟩ := h 0 d rfl
    obtain ⟨u', e2, a2⟩ := h 1 d2 rfl
    simp at e e2
    subst e e2
    exact ⟨v, u, rfl, a, a2⟩
/-- len -/
def fLen : List D → Option D
  | [.list ds] => some (.int ds.length)
  | [.tuple ds] => some (.int ds.length)
  | [.str x] => if x.length ≤ sizeLine then some (.int x.length) else Option.none
  | _ => Option.none
theorem b_len : BltD X W (fun xs H Q => ∃ x n, xs = [x] ∧ LenV X.K x H n ∧ Q (.int n) H) (mPl fLen) := by
  refine pl_bltD fun H Q vs ds z hl hv ef k => ?_
  match ds, ef with
  | [.list ds], ef =>
    cases ef
    obtain ⟨v, rfl, a, us, e, q, al⟩ := one_arg hl hv
    refine ⟨v, us.length, rfl, ?_, k _ fun G => by show V.int _ = V.int _; rw [al.length]⟩
    subst e
    exact .inl ⟨us, SqL.of q, rfl⟩
  | [.tuple ds], ef =>
    cases ef
    obtain ⟨v, rfl, a, us, e, q, al⟩ := one_arg hl hv
    refine ⟨v, us.length, rfl, ?_, k _ fun G => by show V.int _ = V.int _; rw [al.length]⟩
    subst e
    exact .inr ⟨us, q, rfl⟩
  | [.str x], ef =>
    unfold fLen at ef
    simp only at ef
    split at ef
    · rename_i hz
      cases ef
      obtain ⟨v, rfl, a⟩ := one_arg hl hv
      have a' : v = .str x := a
      subst a'
      exact ⟨_, x.length, rfl, ⟨hz, rfl⟩, k _ fun G => rfl⟩
    · cases ef
/-- abs, max, min of two, int -/
def fAbs : List D → Option D
  | [.int i] => some (.int (if i < 0 then -i else i))
  | _ => Option.none
theorem b_abs : BltD X W (fun xs H Q => ∃ i, xs = [.int i] ∧ Q (.int (if i < 0 then -i else i)) H) (mPl fAbs) := by
  refine pl_bltD fun H Q vs ds z hl hv ef k => ?_
  match ds, ef with
  | [.int i], ef =>
    cases ef
    obtain ⟨v, rfl, a⟩ := one_arg hl hv
    exact ⟨i, by rw [show v = .int i from a], k _ fun G => rfl⟩
def fMax : List D → Option D
  | [.int i, .int j] => some (.int (if j > i then j else i))
  | _ => Option.none
def fMin : List D → Option D
  | [.int i, .int j] => some (.int (if j < i then j else i))
  | _ => Option.none
theorem b_max : BltD X W (fun xs H Q => ∃ i j, xs = [.int i, .int j] ∧ Q (.int (if j > i then j else i)) H) (mPl fMax) := by
  refine pl_bltD fun H Q vs ds z hl hv ef k => ?_
  match ds, ef with
  | [.int i, .int j], ef =>
    cases ef
    obtain ⟨v, u, rfl, a, b⟩ := two_arg hl hv
    exact ⟨i, j, by rw [show v = .int i from a, show u = .int j from b], k _ fun G => rfl⟩
theorem b_min : BltD X W (fun xs H Q => ∃ i j, xs = [.int i, .int j] ∧ Q (.int (if j < i then j else i)) H) (mPl fMin) := by
  refine pl_bltD fun H Q vs ds z hl hv ef k => ?_
  match ds, ef with
  | [.int i, .int j], ef =>
    cases ef
    obtain ⟨v, u, rfl, a, b⟩ := two_arg hl hv
    exact ⟨i, j, by rw [show v = .int i from a, show u = .int j from b], k _ fun G => rfl⟩
def fInt : List D → Option D
  | [.int i] => some (.int i)
  | [.bool b] => some (.int (if b then 1 else 0))
  | [.str x] => if x.length ≤ 640 then (PySem.intText? x).map PyData.int else Option.none
  | _ => Option.none
theorem b_int : BltD X W (fun xs H Q => ((∃ i, xs = [.int i] ∧ Q (.int i) H) ∨ ∃ k, xs = [.bl k] ∧ Q (.int (if k then 1 else 0)) H) ∨ ∃ a n, xs = [.str a] ∧ PySem.intText? a = some n ∧ a.length ≤ 640 ∧ Q (.int n) H) (mPl fInt) := by
  refine pl_bltD fun H Q vs ds z hl hv ef k => ?_
  match ds, ef with
  | [.int i], ef =>
    cases ef
    obtain ⟨v, rfl, a⟩ := one_arg hl hv
    exact .inl (.inl ⟨i, by rw [show v = .int i from a], k _ fun G => rfl⟩)
  | [.bool i], ef =>
    cases ef
    obtain ⟨v, rfl, a⟩ := one_arg hl hv
    exact .inl (.inr ⟨i, by rw [show v = .bl i from a], k _ fun G => rfl⟩)
  | [.str x], ef =>
    unfold fInt at ef
    simp only at ef
    split at ef
    · rename_i hz
      cases en : PySem.intText? x with
      | none => rw [en] at ef; cases ef
      | some n =>
        rw [en] at ef
        cases ef
        obtain ⟨v, rfl, a⟩ := one_arg hl hv
        exact .inr ⟨x, n, by rw [show v = .str x from a], en, hz, k _ fun G => rfl⟩
    · cases ef
/-- all, any of truth values -/
def bools : List D → Option (List Bool)
  | [] => some []
  | .bool b :: r => (bools r).map (b :: ·)
  | _ => Option.none
theorem bools_at : ∀ {ds : List D} {bs : List Bool} {vs : List V}, bools ds = some bs → AtL K H vs ds → vs = bs.map V.bl
  | [], bs, vs, e, a => by cases e; exact a
  | .bool b :: r, bs, vs, e, ⟨v, r', ev, a1, a2⟩ => by
    unfold bools at e
    cases er : bools r with
    | none => rw [er] at e; cases e
    | some bs' =>
      rw [er] at e
      cases e
      subst ev
      rw [bools_at er a2, show v = .bl b from a1]; rfl
  | .none :: _, _, _, e, _ => by cases e
  | .int _ :: _, _, _, e, _ => by cases e
  | .str _ :: _, _, _, e, _ => by cases e
  | .list _ :: _, _, _, e, _ => by cases e
  | .tuple _ :: _, _, _, e, _ => by cases e
  | .dict _ :: _, _, _, e, _ => by cases e
def fAll : List D → Option D
  | [.list ds] => (bools ds).map fun bs => .bool (bs.all id)
  | _ => Option.none
def fAny : List D → Option D
  | [.list ds] => (bools ds).map fun bs => .bool (bs.any id)
  | _ => Option.none
theorem b_all : BltD X W (rAll X.K) (mPl fAll) := by
  refine pl_bltD fun H Q vs ds z hl hv ef k => ?_
  match ds, ef with
  | [.list ds], ef =>
    have ef : (bools ds).map (fun bs => PyData.bool (bs.all id)) = some z := ef
    cases eb : bools ds with
    | none => rw [eb] at ef; cases ef
    | some bs =>
      rw [eb] at ef
      cases ef
      obtain ⟨v, rfl, a, us, e, q, al⟩ := one_arg hl hv
      have := bools_at eb al
      subst this e
      exact ⟨a, bs, rfl, SqL.of q, k _ fun G => rfl⟩
theorem b_any : BltD X W (rAny X.K) (mPl fAny) := by
  refine pl_bltD fun H Q vs ds z hl hv ef k => ?_
  match ds, ef with
  | [.list ds], ef =>
    have ef : (bools ds).map (fun bs => PyData.bool (bs.any id)) = some z := ef
    cases eb : bools ds with
    | none => rw [eb] at ef; cases ef
    | some bs =>
      rw [eb] at ef
      cases ef
      obtain ⟨v, rfl, a, us, e, q, al⟩ := one_arg hl hv
      have := bools_at eb al
      subst this e
      exact ⟨a, bs, rfl, SqL.of q, k _ fun G => rfl⟩
end DL

end
section
namespace DL
open PySem PySem.Spec L2
variable {X : Cx} {W : WX} {K : KF} {H G : Hp} {ow : Addr → Option Who} {ι : List Addr} {σ : St} {δ : DL.Env} {τ : List (V × T)} {fs : List Fram} {M : Mem} {v u : V} {t : T} {e e' : Expr} {pos : Pos}

/-! ### two operands, any answer -/
/-- the answer of an operator by the data of its operands -/
def mOpT (F : D → D → Option T) (f g : Sm T) : Sm T := bnd f fun x => bnd g fun y => fun δ M =>
  opt ((vw x δ M).bind fun a => (vw y δ M).bind fun b => F a b) δ M
def OpT (X : Cx) (r : R2) (F : D → D → Option T) : Prop := ∀ (σ : St) (δ : DL.Env) (τ : List (V × T)) (fs : List Fram) (M : Mem) (v u : V) (H G : Hp) (ow : Addr → Option Who) (ι : List Addr) (Q : VK) (a b : D) (z : T), RepG X.K H G ow ι (⟨σ, δ, τ⟩ :: fs) M → AtV X.K H G v a → AtV X.K H G u b → F a b = some z →
  (∀ w H', Rep X.K H' (⟨σ, δ, (w, z) :: τ⟩ :: fs) M → Q w H') → r v u H Q
theorem two_opsT {Q : VK} {f g : Sm T} {F : D → D → Option T} {r : R2} (hF : OpT X r F) (h : tE X.K W (mOpT F f g) σ H Q) : tE X.K W f σ H fun x H1 => tE X.K W g σ H1 fun y H2 => r x y H2 Q := by
  obtain ⟨δ, τ, fs, M, rp, q⟩ := h
  refine ⟨δ, τ, fs, M, rp, Res.post_mono (bnd_post q) (fun a δ1 M1 q1 v H1 r1 => ?_) fun _ _ _ z => z⟩
  refine ⟨δ1, (v, a) :: τ, fs, M1, r1, Res.post_mono (bnd_post q1) (fun b δ2 M2 q2 u H2 r2 => ?_) fun _ _ _ z => z.push⟩
  obtain ⟨z, ez, q3⟩ := opt_post q2
  obtain ⟨G, ow, ι, x⟩ := r2
  cases ea : vw a δ2 M2 with
  | none => rw [ea] at ez; cases ez
  | some da =>
    cases eb : vw b δ2 M2 with
    | none => rw [ea, eb] at ez; cases ez
    | some db =>
      rw [ea, eb] at ez
      exact hF σ δ2 τ fs M2 v u H2 G ow ι Q da db z x.pop.pop (x.vw x.pop.top ea) (x.vw x.top eb) ez q3
theorem OpT.or {r r' : R2} {F : D → D → Option T} (h : ∀ a b, (∀ z, F a b = some z → True) → True) : True := trivial
theorem qe_opT {op : Operator} {r : R2} {F : D → D → Option T} {f g : Sm T} (ho : OpR X (binaryOp op) r) (hF : OpT X r F) (h : QE X W e f) (h' : QE X W e' g) : QE X W (.BinOp e op e' pos) (mOpT F f g) :=
  (pe_op ho h h').imp fun _ _ _ q => two_opsT hF q
theorem RepG.tup (x : RepG K H G ow ι (⟨σ, δ, τ⟩ :: fs) M) {vs : List V} {ds : List D} (a : AtL K G vs ds) {p : Addr} (hp : H p = none) : Rep K (upd H p (.tup vs)) (⟨σ, δ, (.ref p, .d (.tuple ds)) :: τ⟩ :: fs) M := Rep.newTup ⟨G, ow, ι, x, a⟩ hp
theorem RepG.lst (x : RepG K H G ow ι (⟨σ, δ, τ⟩ :: fs) M) {vs : List V} {ds : List D} (a : AtL K G vs ds) {p : Addr} (hp : H p = none) : Rep K (upd H p (.lst vs)) (⟨σ, δ, (.ref p, .con (.lst ds)) :: τ⟩ :: fs) M := Rep.newLst ⟨G, ow, ι, x, a⟩ hp
theorem k1m {n : Nat} (h : n ≤ 1000000) : n ≤ sizeLine := Nat.le_trans h (by decide)
/-- + -/
def fAdd : D → D → Option T
  | .int i, .int j => some (.d (.int (i + j)))
  | .str a, .str b => if a.length + b.length ≤ 1000000 then some (.d (.str (a ++ b))) else Option.none
  | .list a, .list b => if a.length + b.length ≤ 1000000 then some (.con (.lst (a ++ b))) else Option.none
  | .tuple a, .tuple b => if a.length + b.length ≤ 1000000 then some (.d (.tuple (a ++ b))) else Option.none
  | _, _ => Option.none
theorem nil_iff {vs : List V} {ds : List D} (a : AtL K G vs ds) : vs = [] ↔ ds = [] := by
  have := a.length
  constructor
  · intro h; rw [h] at this; exact List.eq_nil_of_length_eq_zero this.symm
  · intro h; rw [h] at this; exact List.eq_nil_of_length_eq_zero this
theorem opt_add : OpT X (fun x y H Q => (((rI0 fun i j => .int (i + j)) x y H Q ∨ ∃ i j, x = .str i ∧ y = .str j ∧ i.length + j.length ≤ sizeLine ∧ Q (.str (i ++ j)) H) ∨ rCat x y H Q) ∨ rCatA X.K x y H Q) fAdd := by
  intro σ δ τ fs M v u H G ow ι Q a b z x ha hb ef q
  match a, b, ef with
  | .int i, .int j, ef =>
    cases ef
    exact .inl (.inl (.inl ⟨i, j, ha, hb, q _ H ⟨G, ow, ι, x.push (t := .d (.int (i + j))) rfl⟩⟩))
  | .str i, .str j, ef =>
    unfold fAdd at ef
    simp only at ef
    split at ef
    · rename_i hz
      cases ef
      exact .inl (.inl (.inr ⟨i, j, ha, hb, k1m hz, q _ H ⟨G, ow, ι, x.push (t := .d (.str (i ++ j))) rfl⟩⟩))
    · cases ef
  | .list i, .list j, ef =>
    unfold fAdd at ef
    simp only at ef
    split at ef
    · rename_i hz
      cases ef
      obtain ⟨p, vs, e1, h1, a1⟩ := ha
      obtain ⟨p2, us, e2, h2, a2⟩ := hb
      exact .inl (.inr ⟨p, p2, vs, us, e1, e2, h1, h2, by rw [a1.length, a2.length]; exact k1m hz, fun w hw => q _ _ (x.lst (a1.app a2) hw)⟩)
    · cases ef
  | .tuple i, .tuple j, ef =>
    unfold fAdd at ef
    simp only at ef
    split at ef
    · rename_i hz
      cases ef
      obtain ⟨p, vs, e1, h1, a1⟩ := ha
      obtain ⟨p2, us, e2, h2, a2⟩ := hb
      refine .inr ⟨p, p2, vs, us, e1, e2, SqT.grow x.sub h1, SqT.grow x.sub h2, by rw [a1.length, a2.length]; exact k1m hz, fun hn => ?_, fun _ hn => ?_, fun _ _ w hw => q _ _ (x.tup (a1.app a2) hw)⟩
      · have : i = [] := (nil_iff a1).mp hn
        subst this
        exact q _ H ⟨G, ow, ι, x.push (t := .d (.tuple j)) ⟨p2, us, rfl, h2, a2⟩⟩
      · have : j = [] := (nil_iff a2).mp hn
        subst this
        rw [List.append_nil] at q
        exact q _ H ⟨G, ow, ι, x.push (t := .d (.tuple i)) ⟨p, vs, rfl, h1, a1⟩⟩
    · cases ef
theorem qe_add {f g : Sm T} (h : QE X W e f) (h' : QE X W e' g) : QE X W (.BinOp e .Add e' pos) (mOpT fAdd f g) := qe_opT (((op_add.or op_add_str).or op_cat).or op_catA) opt_add h h'

/-! ### * -/
theorem op_mulS : OpR X (binaryOp .Mult) (fun x y H Q => ∃ z n, x = .str z ∧ y = .int n ∧ MulOk z n ∧ Q (.str (Txt.mul z n)) H) := by
  intro pins s σ H x y v u Q I rx ry h
  obtain ⟨z, n, rfl, rfl, hm, q⟩ := h
  obtain ⟨t, rfl⟩ := rx
  obtain ⟨t', rfl⟩ := ry
  exact SB.mul hm fun t2 k => ⟨.str _, H, I.tok _, ⟨_, rfl⟩, q⟩
theorem tuple_mul0 (l : Addr) (items : Array Value) (n : Nat) (dd : Option Addr) (sl : Array (Option Value)) (x : Int) (u : Tok) (c0 : (decide (x < -(2 ^ 63)) || decide (x ≥ 2 ^ 63)) = false) (c1 : (items.isEmpty || x == 1) = false) (c2 : (decide (x ≤ 0) || items.isEmpty) = true) :
    Meets (Builtin.«tuple.__mul__» ⟨[.ref l, .int x u], []⟩) (fun _ R s => s.heap.get? l = some { cls := .type "tuple", dict := dd, data := .seq items n, slots := sl } ∧
      R (.ok (.ret (Value.ref s.heap.objs.size))) { s with heap := s.heap.push { cls := Value.type "tuple", data := Data.seq #[] }, toks := s.toks }) :=
  .of_wp fun prog w A R s h => by
    obtain ⟨hp, g, d, tk, os⟩ := s
    obtain ⟨hl, h⟩ := h
    have f1 := AutoSeq1.idx_int
    wp_walk using wpAny_loadPart' hl
    repeat (first
      | (refine wpAny_ite_false (decide_eq_false (by rw [c0]; exact Bool.false_ne_true)) ?_; wp_walk using wpAny_loadPart' hl)
      | (refine wpAny_ite_false (decide_eq_false (by rw [c1]; exact Bool.false_ne_true)) ?_; wp_walk using wpAny_loadPart' hl)
      | (refine wpAny_ite_true (decide_eq_true c2) ?_; wp_walk using wpAny_loadPart' hl))
    exact ⟨_, rfl, h⟩
theorem tuple_mul1 (l : Addr) (items : Array Value) (n : Nat) (dd : Option Addr) (sl : Array (Option Value)) (x : Int) (u : Tok) (c0 : (decide (x < -(2 ^ 63)) || decide (x ≥ 2 ^ 63)) = false) (c1 : (items.isEmpty || x == 1) = true) :
    Meets (Builtin.«tuple.__mul__» ⟨[.ref l, .int x u], []⟩) (fun _ R s => s.heap.get? l = some { cls := .type "tuple", dict := dd, data := .seq items n, slots := sl } ∧ R (.ok (.ret (Value.ref l))) s) :=
  .of_wp fun prog w A R s h => by
    obtain ⟨hp, g, d, tk, os⟩ := s
    obtain ⟨hl, h⟩ := h
    have f1 := AutoSeq1.idx_int
    wp_walk using wpAny_loadPart' hl
    repeat (first
      | (refine wpAny_ite_false (decide_eq_false (by rw [c0]; exact Bool.false_ne_true)) ?_; wp_walk using wpAny_loadPart' hl)
      | (refine wpAny_ite_true (decide_eq_true c1) ?_; wp_walk using wpAny_loadPart' hl))
    exact ⟨_, rfl, h⟩
def rRepA (K : KF) : R2 := fun x y H Q => ∃ l k xs, x = .ref l ∧ y = .int k ∧ SqT K H l xs ∧ -1000 ≤ k ∧ k ≤ 1000 ∧ xs.length ≤ 1000 ∧ (xs = [] ∨ k = 1 → Q (.ref l) H) ∧
  (xs ≠ [] → k ≠ 1 → ∀ p, H p = none → Q (.ref p) (upd H p (.tup (List.replicate k.toNat xs).flatten)))
theorem op_repA : OpR X (binaryOp .Mult) (rRepA X.K) := by
  intro pins s σ H x y v u Q I rx ry h
  obtain ⟨l, k, xs, rfl, rfl, hT, k1, k2, hz, q1, q2⟩ := h
  have c0 : (decide (k < -(2 ^ 63)) || decide (k ≥ 2 ^ 63)) = false := by
    rw [decide_eq_false (by omega), decide_eq_false (by omega)] <;> rfl
  by_cases h1 : xs = [] ∨ k = 1
  · obtain rfl : v = Value.ref l := rx
    obtain ⟨t, rfl⟩ := ry
    obtain ⟨its, r, ⟨⟨cls, dd, data, sl⟩, ho, hc, n, hd⟩, hs⟩ := I.tuple hT
    simp only at hc hd
    subst hc hd
    have c1 : (its.toArray.isEmpty || k == 1) = true := by
      rcases h1 with h1 | h1
      · subst h1; cases r; rfl
      · subst h1; simp
    exact wpAny_binaryOp_repeat_ref (T := "tuple") (U := "int") (by decide) ⟨_, ho, rfl⟩ (fun s' => typeIs_int s' k t) noFill_tuple_mul PySem.F.fills_int_mul PySem.F.slot_int_rmul repeat_tuple PySem.F.slot_int_index.lookup
      (call_meets PySem.F.slot_int_rmul (typeIs_int s k t) PySem.F.entry_int_rmul (PySem.F.args_int_rmul_2 _ _) (int_rmul_tuple k t l its.toArray n dd sl)
        ⟨ho, rfl, ⟨_, ho, rfl⟩, call_meets PySem.F.slot_tuple_mul ⟨_, ho, rfl⟩ PySem.F.entry_tuple_mul (PySem.F.args_tuple_mul_2 _ _) (tuple_mul1 l its.toArray n dd sl k t c0 c1) ⟨ho, ⟨.ref l, H, I, rfl, q1 h1⟩⟩⟩)
  · have hne : xs ≠ [] := fun z => h1 (.inl z)
    have hk1 : k ≠ 1 := fun z => h1 (.inr z)
    by_cases h2 : 2 ≤ k
    · exact op_repT pins s σ H _ _ v u Q I rx ry ⟨l, k, xs, rfl, rfl, hT, hne, h2, k2, hz, q2 hne hk1⟩
    · obtain rfl : v = Value.ref l := rx
      obtain ⟨t, rfl⟩ := ry
      obtain ⟨its, r, ⟨⟨cls, dd, data, sl⟩, ho, hc, n, hd⟩, hs⟩ := I.tuple hT
      simp only at hc hd
      subst hc hd
      have hi : its.toArray.isEmpty = false := by
        cases r with
        | nil => exact absurd rfl hne
        | cons _ _ => rfl
      have c1 : (its.toArray.isEmpty || k == 1) = false := by
        rw [hi, Bool.false_or]; exact beq_eq_false_iff_ne.mpr hk1
      have c2 : (decide (k ≤ 0) || its.toArray.isEmpty) = true := by
        rw [decide_eq_true (by omega)]; rfl
      have e0 : (List.replicate k.toNat xs).flatten = [] := by
        rw [show k.toNat = 0 by omega]; rfl
      have q3 := q2 hne hk1
      rw [e0] at q3
      refine wpAny_binaryOp_repeat_ref (T := "tuple") (U := "int") (by decide) ⟨_, ho, rfl⟩ (fun s' => typeIs_int s' k t) noFill_tuple_mul PySem.F.fills_int_mul PySem.F.slot_int_rmul repeat_tuple PySem.F.slot_int_index.lookup
        (call_meets PySem.F.slot_int_rmul (typeIs_int s k t) PySem.F.entry_int_rmul (PySem.F.args_int_rmul_2 _ _) (int_rmul_tuple k t l its.toArray n dd sl)
          ⟨ho, rfl, ⟨_, ho, rfl⟩, call_meets PySem.F.slot_tuple_mul ⟨_, ho, rfl⟩ PySem.F.entry_tuple_mul (PySem.F.args_tuple_mul_2 _ _) (tuple_mul0 l its.toArray n dd sl k t c0 c1 c2) ⟨ho, ?_⟩⟩)
      refine ⟨.ref s.heap.objs.size, _, I.laid (t' := s.toks) (o := .tup []) (fun b ob z => Heap.get?_push_of_some _ z) (Nat.le_refl _) ?_, rfl, q3 _ (I.hok.fresh (Nat.le_refl _))⟩
      exact ⟨Nat.zero_le _, [], .nil, PyProof.Rows.IsTup.new _ _⟩
theorem AtL.rep {vs : List V} {ds : List D} (a : AtL K G vs ds) : ∀ n : Nat, AtL K G (List.replicate n vs).flatten (List.replicate n ds).flatten
  | 0 => rfl
  | n + 1 => by
    rw [List.replicate_succ, List.replicate_succ, List.flatten_cons, List.flatten_cons]
    exact a.app (AtL.rep a n)
def mulOkS (x : Str) (n : Int) : Bool := decide (0 ≤ n) && decide (n ≤ 1000) && decide (x.length ≤ 1000)
theorem mulOkS_ok {x : Str} {n : Int} (h : mulOkS x n = true) : MulOk x n := by
  unfold mulOkS at h
  simp only [Bool.and_eq_true, decide_eq_true_eq] at h
  obtain ⟨⟨h0, h1⟩, h2⟩ := h
  refine ⟨by rw [decide_eq_false (by omega), decide_eq_false (by omega)] <;> rfl, fun hn _ => ?_, fun _ _ => ?_⟩
  · have hp : 0 < n := by omega
    have : (1000 : Int) ≤ (2 ^ 63 - 1) / n := by
      rw [Int.le_ediv_iff_mul_le hp]; omega
    omega
  · unfold Builtin.Str.tooLong
    have a1 : x.length * n.toNat ≤ 1000 * 1000 := Nat.mul_le_mul h2 (by omega)
    rw [decide_eq_false]
    exact Nat.not_lt.mpr (Nat.le_trans a1 (by decide))
def fMul : D → D → Option T
  | .int i, .int j => if mulOk i j = true then some (.d (.int (i * j))) else Option.none
  | .str a, .int j => if mulOkS a j = true then some (.d (.str (Txt.mul a j))) else Option.none
  | .list a, .int j => if -1000 ≤ j ∧ j ≤ 1000 ∧ a.length ≤ 1000 then some (.con (.lst (List.replicate j.toNat a).flatten)) else Option.none
  | .tuple a, .int j => if -1000 ≤ j ∧ j ≤ 1000 ∧ a.length ≤ 1000 then some (.d (.tuple (List.replicate j.toNat a).flatten)) else Option.none
  | _, _ => Option.none
theorem opt_mul : OpT X (fun x y H Q => ((((rI CMul fun i j => .int (i * j)) x y H Q ∨ (rI CMulW fun i j => .int (i * j)) x y H Q) ∨ ∃ z n, x = .str z ∧ y = .int n ∧ MulOk z n ∧ Q (.str (Txt.mul z n)) H) ∨ rRep x y H Q) ∨ rRepA X.K x y H Q) fMul := by
  intro σ δ τ fs M v u H G ow ι Q a b z x ha hb ef q
  match a, b, ef with
  | .int i, .int j, ef =>
    unfold fMul at ef
    simp only at ef
    split at ef
    · rename_i hm
      cases ef
      unfold mulOk at hm
      simp only [Bool.or_eq_true, decide_eq_true_eq] at hm
      have qq := q (.int (i * j)) H ⟨G, ow, ι, x.push (t := .d (.int (i * j))) rfl⟩
      rcases hm with (hm | hm) | hm
      · exact .inl (.inl (.inl (.inl ⟨i, j, ha, hb, .inl (by omega), qq⟩)))
      · exact .inl (.inl (.inl (.inl ⟨i, j, ha, hb, .inr (by omega), qq⟩)))
      · exact .inl (.inl (.inl (.inr ⟨i, j, ha, hb, hm, qq⟩)))
    · cases ef
  | .str i, .int j, ef =>
    unfold fMul at ef
    simp only at ef
    split at ef
    · rename_i hm
      cases ef
      exact .inl (.inl (.inr ⟨i, j, ha, hb, mulOkS_ok hm, q _ H ⟨G, ow, ι, x.push (t := .d (.str (Txt.mul i j))) rfl⟩⟩))
    · cases ef
  | .list i, .int j, ef =>
    unfold fMul at ef
    simp only at ef
    split at ef
    · rename_i hz
      cases ef
      obtain ⟨p, vs, e1, h1, a1⟩ := ha
      refine .inl (.inr ⟨p, j, vs, e1, hb, h1, by omega, by omega, ?_, fun w hw => q _ _ (x.lst (a1.rep _) hw)⟩)
      rw [a1.length]
      have : i.length * j.toNat ≤ 1000 * 1000 := Nat.mul_le_mul hz.2.2 (by omega)
      exact k1m this
    · cases ef
  | .tuple i, .int j, ef =>
    unfold fMul at ef
    simp only at ef
    split at ef
    · rename_i hz
      cases ef
      obtain ⟨p, vs, e1, h1, a1⟩ := ha
      refine .inr ⟨p, j, vs, e1, hb, SqT.grow x.sub h1, hz.1, hz.2.1, by rw [a1.length]; exact hz.2.2, fun hn => ?_, fun _ _ w hw => q _ _ (x.tup (a1.rep _) hw)⟩
      have e0 : (List.replicate j.toNat i).flatten = i := by
        rcases hn with hn | hn
        · rw [(nil_iff a1).mp hn]; simp
        · rw [hn]; simp
      rw [e0] at q
      exact q _ H ⟨G, ow, ι, x.push (t := .d (.tuple i)) ⟨p, vs, rfl, h1, a1⟩⟩
    · cases ef
theorem qe_mult {f g : Sm T} (h : QE X W e f) (h' : QE X W e' g) : QE X W (.BinOp e .Mult e' pos) (mOpT fMul f g) := qe_opT ((((op_mul.or op_mulW).or op_mulS).or op_rep).or op_repA) opt_mul h h'

/-! ### subscripts -/
def atD (ds : List D) (i : Int) : Option D := atI ds i
def fIx : D → D → Option T
  | .list ds, .int i => (atI ds i).map T.d
  | .tuple ds, .int i => (atI ds i).map T.d
  | .str z, .int i => if z.length ≤ sizeLine then (atI z.cps.toList i).map fun c => T.d (.str ⟨#[c]⟩) else Option.none
  | _, _ => Option.none
theorem atI_at {vs : List V} {ds : List D} {i : Int} {d : D} (a : AtL K G vs ds) (h : atI ds i = some d) : ∃ v, atI vs i = some v ∧ At K G v d := by
  unfold atI at h ⊢
  rw [a.length]
  cases e : ixN ds.length i with
  | none => rw [e] at h; cases h
  | some j =>
    rw [e] at h
    obtain ⟨v, e1, e2⟩ := a.get (i := j) h
    exact ⟨v, e1, e2⟩
theorem opt_ix : OpT X (rIx X.K) fIx := by
  intro σ δ τ fs M v u H G ow ι Q a b z x ha hb ef q
  match a, b, ef with
  | .list ds, .int i, ef =>
    have ef : (atI ds i).map T.d = some z := ef
    cases e : atI ds i with
    | none => rw [e] at ef; cases ef
    | some d =>
      rw [e] at ef
      cases ef
      obtain ⟨p, vs, e1, h1, a1⟩ := ha
      obtain ⟨w, ew, aw⟩ := atI_at a1 e
      exact .inl ⟨p, vs, i, w, e1, hb, SqL.of h1, ew, q w H ⟨G, ow, ι, x.push (t := .d d) aw⟩⟩
  | .tuple ds, .int i, ef =>
    have ef : (atI ds i).map T.d = some z := ef
    cases e : atI ds i with
    | none => rw [e] at ef; cases ef
    | some d =>
      rw [e] at ef
      cases ef
      obtain ⟨p, vs, e1, h1, a1⟩ := ha
      obtain ⟨w, ew, aw⟩ := atI_at a1 e
      exact .inr (.inl ⟨p, vs, i, w, e1, hb, SqT.grow x.sub h1, ew, q w H ⟨G, ow, ι, x.push (t := .d d) aw⟩⟩)
  | .str y, .int i, ef =>
    unfold fIx at ef
    simp only at ef
    split at ef
    · rename_i hz
      cases e : atI y.cps.toList i with
      | none => rw [e] at ef; cases ef
      | some c =>
        rw [e] at ef
        cases ef
        exact .inr (.inr ⟨y, i, c, ha, hb, hz, e, q _ H ⟨G, ow, ι, x.push (t := .d (.str ⟨#[c]⟩)) rfl⟩⟩)
    · cases ef
theorem qe_ix {f g : Sm T} (h : QE X W e f) (h' : QE X W e' g) (hs : PlainIx e' := by exact fun _ _ => rfl) : QE X W (.Subscript e e' pos) (mOpT fIx f g) := (pe_ix ix_seq h h' hs).imp fun _ _ _ q => two_opsT opt_ix q
/-- the script's item -/
def mScrIx (f g : Sm T) : Sm T := bnd f fun x => bnd g fun y => opt (match x, y with
  | .scr ns, .d (.int i) => (atI ns i).map fun n => T.d (.int n)
  | _, _ => Option.none)
theorem atI_map {α β : Type} (F : α → β) (l : List α) (i : Int) : atI (l.map F) i = (atI l i).map F := by
  unfold atI
  rw [List.length_map]
  cases ixN l.length i with
  | none => rfl
  | some j => simp
theorem qe_scrIx {f g : Sm T} (h : QE X W e f) (h' : QE X W e' g) (hs : PlainIx e' := by exact fun _ _ => rfl) : QE X W (.Subscript e e' pos) (mScrIx f g) := by
  refine (pe_ix ix_list h h' hs).imp fun σ H Q ⟨δ, τ, fs, M, rp, q⟩ => ?_
  refine ⟨δ, τ, fs, M, rp, Res.post_mono (bnd_post q) (fun a δ1 M1 q1 v H1 r1 => ?_) fun _ _ _ z => z⟩
  refine ⟨δ1, (v, a) :: τ, fs, M1, r1, Res.post_mono (bnd_post q1) (fun b δ2 M2 q2 u H2 r2 => ?_) fun _ _ _ z => z.push⟩
  obtain ⟨z, ez, q3⟩ := opt_post q2
  match a, b, ez with
  | .scr ns, .d (.int i), ez =>
    obtain ⟨G, ow, ι, x⟩ := r2
    cases e : atI ns i with
    | none => simp [e] at ez
    | some n =>
      simp [e] at ez
      subst ez
      obtain ⟨p, e1, sq⟩ := x.pop.top
      have e2 : u = .int i := x.top
      exact ⟨p, ns.map V.int, i, .int n, e1, e2, x.sub.seq sq, by rw [atI_map, e]; rfl, q3 _ H2 ⟨G, ow, ι, x.pop.pop.push (t := .d (.int n)) rfl⟩⟩
def mScrLen : List T → Sm T := fun ts => opt (match ts with
  | [.scr ns] => some (.d (.int ns.length))
  | _ => Option.none)
theorem b_scrLen : BltD X W (fun xs H Q => ∃ x n, xs = [x] ∧ LenV X.K x H n ∧ Q (.int n) H) mScrLen := by
  intro σ δ τ fs M H Q vs ts hl rp q
  obtain ⟨t, et, q⟩ := opt_post q
  match ts, et, vs, hl, rp with
  | [.scr ns], et, [v], _, rp =>
    cases et
    obtain ⟨G, ow, ι, x⟩ := rp
    obtain ⟨p, e1, sq⟩ := x.top
    have e1' : v = .ref p := e1
    refine ⟨v, ns.length, rfl, ?_, q _ H ⟨G, ow, ι, x.pop.push (t := .d (.int ns.length)) rfl⟩⟩
    subst e1'
    exact .inl ⟨ns.map V.int, x.sub.seq sq, by simp⟩
end DL

end
section
namespace DL
open PySem PySem.Spec L2
variable {X : Cx} {W : WX} {K : KF} {H G : Hp} {ow : Addr → Option Who} {ι : List Addr} {σ : St} {δ : DL.Env} {τ : List (V × T)} {fs : List Fram} {M : Mem} {v u : V} {t : T} {e e' : Expr} {pos : Pos}
/-! ### list(..), tuple(..) -/
def mBT (F : D → Option T) : List T → Sm T := fun ts δ M => opt (match ts with
  | [t] => (vw t δ M).bind F
  | _ => Option.none) δ M
theorem mBT_noex {F : D → Option T} : ∀ ts δ M e δ' M', mBT F ts δ M ≠ .ex e δ' M' := fun _ _ _ _ _ _ => opt_noex
theorem mScrLen_noex : ∀ ts δ M e δ' M', mScrLen ts δ M ≠ .ex e δ' M' := fun _ _ _ _ _ _ => opt_noex
def fTuple : D → Option T
  | .list ds => some (.d (.tuple ds))
  | .tuple ds => some (.d (.tuple ds))
  | _ => Option.none
def fList : D → Option T
  | .list ds => some (.con (.lst ds))
  | .tuple ds => some (.con (.lst ds))
  | _ => Option.none
theorem mBT_post {F : D → Option T} {ts : List T} {vs : List V} {k : T → DL.Env → Mem → Prop} {x : XD → DL.Env → Mem → Prop} (hl : vs.length = ts.length) (rp : Rep K H (⟨σ, δ, rz vs ts τ⟩ :: fs) M) (q : (mBT F ts δ M).post k x) :
    ∃ v d z G ow ι, vs = [v] ∧ RepG K H G ow ι (⟨σ, δ, τ⟩ :: fs) M ∧ AtV K H G v d ∧ F d = some z ∧ k z δ M := by
  obtain ⟨z, ez, q2⟩ := opt_post q
  clear q
  match ts, vs, hl, rp, ez with
  | [t], [v], _, rp, ez =>
    obtain ⟨G, ow, ι, x⟩ := rp
    have ez : (vw t δ M).bind F = some z := ez
    cases ev : vw t δ M with
    | none => rw [ev] at ez; cases ez
    | some d =>
      rw [ev] at ez
      exact ⟨v, d, z, G, ow, ι, rfl, x.pop, x.vw x.top ev, ez, q2⟩
theorem b_tuple : BltD X W (fun xs H Q => ∃ p ys, xs = [.ref p] ∧ ((SqL X.K H p ys ∧ ∀ l, H l = none → Q (.ref l) (upd H l (.tup ys))) ∨ (SqT X.K H p ys ∧ Q (.ref p) H))) (mBT fTuple) := by
  intro σ δ τ fs M H Q vs ts hl rp q
  obtain ⟨v, d, z, G, ow, ι, rfl, x, av, ef, q⟩ := mBT_post hl rp q
  match d, ef with
  | .list ds, ef =>
    cases ef
    obtain ⟨a, us, e, h, al⟩ := av
    exact ⟨a, us, by rw [e], .inl ⟨SqL.of h, fun w hw => q _ _ (x.tup al hw)⟩⟩
  | .tuple ds, ef =>
    cases ef
    obtain ⟨a, us, e, h, al⟩ := av
    exact ⟨a, us, by rw [e], .inr ⟨SqT.grow x.sub h, q _ H ⟨G, ow, ι, x.push (t := .d (.tuple ds)) ⟨a, us, rfl, h, al⟩⟩⟩⟩
theorem b_list : BltD X W (fun xs H Q => ∃ p ys, xs = [.ref p] ∧ (SqL X.K H p ys ∨ SqT X.K H p ys) ∧ ∀ l, H l = none → Q (.ref l) (upd H l (.lst ys))) (mBT fList) := by
  intro σ δ τ fs M H Q vs ts hl rp q
  obtain ⟨v, d, z, G, ow, ι, rfl, x, av, ef, q⟩ := mBT_post hl rp q
  match d, ef with
  | .list ds, ef =>
    cases ef
    obtain ⟨a, us, e, h, al⟩ := av
    exact ⟨a, us, by rw [e], .inl (SqL.of h), fun w hw => q _ _ (x.lst al hw)⟩
  | .tuple ds, ef =>
    cases ef
    obtain ⟨a, us, e, h, al⟩ := av
    exact ⟨a, us, by rw [e], .inr (SqT.grow x.sub h), fun w hw => q _ _ (x.lst al hw)⟩

/-! ### repr -/
mutual
theorem plain_noDict : ∀ d : D, d.plain = true → d.hasDict = false
  | .none, _ => rfl
  | .bool _, _ => rfl
  | .int _, _ => rfl
  | .str _, _ => rfl
  | .list xs, h => by simp only [PyData.hasDict]; exact plain_noDictAll xs (by simpa [PyData.plain] using h)
  | .tuple xs, h => by simp only [PyData.hasDict]; exact plain_noDictAll xs (by simpa [PyData.plain] using h)
  | .dict _, h => by simp [PyData.plain] at h
theorem plain_noDictAll : ∀ xs : List D, PyData.plainAll xs = true → PyData.hasDictAll xs = false
  | [], _ => rfl
  | x :: xs, h => by
    have h' : x.plain = true ∧ PyData.plainAll xs = true := by simpa [PyData.plainAll] using h
    simp only [PyData.hasDictAll, plain_noDict x h'.1, plain_noDictAll xs h'.2, Bool.or_self]
end
def showOk (d : D) : Bool := d.plain && d.showable && decide (d.depth ≤ 64) && decide (d.shown.length ≤ sizeLine)
def rRepr (K : KF) : List V → Hp → VK → Prop := fun xs H Q => ∃ v d, xs = [v] ∧ At K H v d ∧ showOk d = true ∧ Q (.str d.shown) H
theorem call_repr {k : Nat} (hr : Room k X.A) (hg : X.A.guards = some []) : CallR X (.builtin "repr") (rRepr X.K) := by
  intro pins s σ H xs us Q I rs h
  obtain ⟨v, d, rfl, av, ok, q⟩ := h
  obtain ⟨u, rfl, r⟩ := vals1 rs
  unfold showOk at ok
  simp only [Bool.and_eq_true, decide_eq_true_eq] at ok
  obtain ⟨⟨⟨c1, c2⟩, c3⟩, c4⟩ := ok
  obtain ⟨as, rd⟩ := Dp.reads I d v u (At.dp d v av c1) r
  have hu := hr.un
  match d, av, rd, c2, c4, q with
  | .none, av, rd, c2, c4, q => cases rd; exact PySem.P.repr_of_none ⟨.str _, H, I.tok _, ⟨_, rfl⟩, by simpa [PyData.shown] using q⟩
  | .bool b, av, rd, c2, c4, q => cases rd; exact PySem.P.repr_of_bool ⟨.str _, H, I.tok _, ⟨_, rfl⟩, by simpa [PyData.shown] using q⟩
  | .int i, av, rd, c2, c4, q => cases rd; exact PySem.P.repr_of_int (by simpa [PyData.showable] using c2) ⟨.str _, H, I.tok _, ⟨_, rfl⟩, by simpa [PyData.shown] using q⟩
  | .str z, av, rd, c2, c4, q => cases rd; exact PySem.P.repr_of_str ⟨.str _, H, I.tok _, ⟨_, rfl⟩, by simpa [PyData.shown] using q⟩ (by simpa [PyData.shown] using c4)
  | .list ds, ⟨a, _, e, _, _⟩, rd, c2, c4, q =>
    subst e
    obtain rfl : u = Value.ref a := r
    exact repr_of_reads' rd c2 (PyData.noDict_hsm (plain_noDict _ c1)) hg (by omega) (fun _ _ e => e) (fun h' u tk hk => ⟨.str _, H, I.kept (t' := tk) hk, ⟨_, rfl⟩, q⟩) c4
  | .tuple ds, ⟨a, _, e, _, _⟩, rd, c2, c4, q =>
    subst e
    obtain rfl : u = Value.ref a := r
    exact repr_of_reads' rd c2 (PyData.noDict_hsm (plain_noDict _ c1)) hg (by omega) (fun _ _ e => e) (fun h' u tk hk => ⟨.str _, H, I.kept (t' := tk) hk, ⟨_, rfl⟩, q⟩) c4
  | .dict kvs, av, rd, c2, c4, q => simp [PyData.plain] at c1
def fRepr : List D → Option D
  | [d] => if showOk d = true then some (.str d.shown) else Option.none
  | _ => Option.none
theorem b_repr : BltD X W (rRepr X.K) (mPl fRepr) := by
  refine pl_bltD fun H Q vs ds z hl hv ef k => ?_
  match ds, ef with
  | [d], ef =>
    have ef : (if showOk d = true then some (PyData.str d.shown) else Option.none) = some z := ef
    split at ef
    · rename_i ok
      cases ef
      obtain ⟨v, rfl, a⟩ := one_arg hl hv
      exact ⟨v, d, rfl, a, ok, k _ fun G => rfl⟩
    · cases ef

/-! ### a container that is changed -/
def conOf (o : T) (δ : DL.Env) (M : Mem) : Option C :=
  match o with
  | .bor i => match δ[i]? with
    | some (some (.con c)) => some c
    | _ => Option.none
  | .ref n => M[n]?
  | _ => Option.none
def putE (o : T) (c : C) (δ : DL.Env) : DL.Env :=
  match o with
  | .bor i => δ.set i (some (.con c))
  | _ => δ
def putM (o : T) (c : C) (M : Mem) : Mem :=
  match o with
  | .ref n => M.set n c
  | _ => M
theorem RepG.mod {o : T} {c : C} {w : Who} (x : RepG K H G ow ι (⟨σ, δ, τ⟩ :: fs) M) (r : RT K H G ow ι σ w v o) (hc : conOf o δ M = some c) : ∃ a, v = .ref a ∧ RC K H G a c ∧
    ∀ c' ho, RC K (upd H a ho) G a c' → RepG K (upd H a ho) G ow ι (⟨σ, putE o c' δ, τ⟩ :: fs) (putM o c' M) := by
  -- whoever owns a is the one changed; all others stay
  have go : ∀ (a : Addr) (w0 : Who), ow a = some w0 → ∀ ho, Same G (upd H a ho) ∧ (∀ b u, ow b = some u → G b = none ∧ ∃ o, upd H a ho b = some o) ∧ ∀ b u, ow b = some u → u ≠ w0 → upd H a ho b = H b := fun a w0 ha ho => by
    refine ⟨fun b u e => ?_, fun b u e => ⟨(x.own b u e).1, ?_⟩, fun b u e nu => upd_ne fun z => ?_⟩
    · have : b ≠ a := fun z => by rw [z, (x.own a w0 ha).1] at e; cases e
      rw [upd_ne this]; exact x.sub _ _ e
    · by_cases hb : b = a
      · rw [hb]; exact ⟨_, upd_same⟩
      · rw [upd_ne hb]; exact (x.own b u e).2
    · rw [z, ha] at e; cases e; exact nu rfl
  cases o with
  | bor i =>
    have hv : σ[i]? = some (some v) := r
    unfold conOf at hc
    simp only at hc
    split at hc
    · rename_i c0 qe
      cases hc
      obtain ⟨_, v', e1, rt⟩ := x.slots_of qe
      rw [hv] at e1; cases e1
      obtain ⟨a, ev, oa, rc⟩ := rt
      refine ⟨a, ev, rc, fun c' ho rc' => ?_⟩
      obtain ⟨s1, s2, s3⟩ := go a _ oa ho
      refine ⟨s1, s2, x.lenM, fun n c2 ec => ?_, ⟨by show σ.length = _; simp [putE]; exact x.frs.1.len, fun j u ej => ?_, ?_⟩, ?_⟩
      · obtain ⟨b, q1, q2, q3⟩ := x.cells n c2 ec
        exact ⟨b, q1, q2, q3.keep (Same.refl _) (s3 b _ q2 (fun z => nomatch z))⟩
      · have ej' : (δ.set i (some (.con c')))[j]? = some (some u) := ej
        by_cases hj : j = i
        · subst hj
          rw [List.getElem?_set_self (List.getElem?_eq_some_iff.mp qe).1] at ej'
          cases ej'
          exact ⟨rfl, v, hv, a, ev, oa, rc'⟩
        · rw [List.getElem?_set_ne (Ne.symm hj)] at ej'
          obtain ⟨nu, v2, e2, r2⟩ := x.slots_of ej'
          exact ⟨nu, v2, e2, r2.keep (Same.refl _) (fun b q => ⟨q, s3 b _ q (fun z => by cases z; exact hj rfl)⟩) (fun _ _ q => q) (fun _ _ q => q)⟩
      · exact x.frs.1.tmps.keep (Same.refl _) (fun j _ b q => ⟨q, s3 b _ q (fun z => nomatch z)⟩) (fun _ _ q => q) (fun _ _ _ _ q => q)
      · exact x.frs.2.keep (Same.refl _) (fun w hl b q => ⟨q, s3 b _ q (fun z => by subst z; exact absurd (show fs.length < fs.length from hl) (by omega))⟩) (fun _ _ q => q)
    · cases hc
  | ref n =>
    obtain ⟨a, ev, ea⟩ := r
    have hm : M[n]? = some c := hc
    obtain ⟨b, q1, oa, rc⟩ := x.cells n c hm
    rw [ea] at q1; cases q1
    refine ⟨a, ev, rc, fun c' ho rc' => ?_⟩
    obtain ⟨s1, s2, s3⟩ := go a _ oa ho
    refine ⟨s1, s2, by show _ = (M.set n c').length; simp [x.lenM], fun k c2 ec => ?_, ⟨x.frs.1.len, fun j u ej => ?_, ?_⟩, ?_⟩
    · have ec' : (M.set n c')[k]? = some c2 := ec
      by_cases hk : k = n
      · subst hk
        rw [List.getElem?_set_self (List.getElem?_eq_some_iff.mp hm).1] at ec'
        cases ec'
        exact ⟨a, ea, oa, rc'⟩
      · rw [List.getElem?_set_ne (Ne.symm hk)] at ec'
        obtain ⟨b, p1, p2, p3⟩ := x.cells k c2 ec'
        exact ⟨b, p1, p2, p3.keep (Same.refl _) (s3 b _ p2 (fun z => by cases z; exact hk rfl))⟩
    · obtain ⟨nu, v2, e2, r2⟩ := x.slots_of ej
      exact ⟨nu, v2, e2, r2.keep (Same.refl _) (fun b q => ⟨q, s3 b _ q (fun z => nomatch z)⟩) (fun _ _ q => q) (fun _ _ q => q)⟩
    · exact x.frs.1.tmps.keep (Same.refl _) (fun j _ b q => ⟨q, s3 b _ q (fun z => nomatch z)⟩) (fun _ _ q => q) (fun _ _ _ _ q => q)
    · exact x.frs.2.keep (Same.refl _) (fun w hl b q => ⟨q, s3 b _ q (fun z => by subst z; exact hl)⟩) (fun _ _ q => q)
  | d x => cases hc
  | v x => cases hc
  | con c => cases hc
  | scr ns => cases hc
  | exn x => cases hc
  | st φ => cases hc

/-! ### o[i] = e -/
def mStore (fo fi : Sm T) : T → Sm Unit := fun t => bnd (mFrz t) fun y => bnd fo fun o => bnd fi fun i => fun δ M =>
  match y, conOf o δ M, i with
  | .d y, some (.lst xs), .d (.int i) => (match ixN xs.length i with
    | some j => .ok () (putE o (.lst (xs.set j y)) δ) (putM o (.lst (xs.set j y)) M)
    | Option.none => .bad)
  | _, _, _ => .bad
theorem qg_store {o i : Expr} {fo fi : Sm T} (ho : QE X WF o fo) (hi : QE X WF i fi)
    (ha : ∀ v, assign (.Subscript o i pos) X.env v = (do
      let ov ← holding [v] (eval o X.env)
      let iv ← holding [v, ov] (eval i X.env)
      standAt pos
      holding [v, ov, iv] (setItem ov iv v)
      release [v, ov, iv] []) := by intro _; rfl) : QG X (.Subscript o i pos) (mStore fo fi) := by
  refine ⟨fun pins s σ H v u Q I r h => (pg_sub ho hi set_list ha).run pins s σ H v u Q I r ?_⟩
  obtain ⟨t, δ, τ, fs, M, nt, nb, rp, q⟩ := h
  have q := bnd_post q
  cases ef : mFrz t δ M with
  | ex a b c => rw [ef] at q; exact q.elim
  | bad => rw [ef] at q; exact q.elim
  | ok y δ1 M1 =>
    rw [ef] at q
    have r1 := rp.frz ef
    refine ⟨δ1, (v, y) :: τ, fs, M1, r1, Res.post_mono (bnd_post q) (fun ot δ2 M2 q2 ov H2 r2 => ?_) fun _ _ _ z => z.elim⟩
    refine ⟨δ2, (ov, ot) :: (v, y) :: τ, fs, M2, r2, Res.post_mono (bnd_post q2) (fun it δ3 M3 q3 iv H3 r3 => ?_) fun _ _ _ z => z.elim⟩
    split at q3
    · rename_i y' xs k e1
      obtain ⟨G, ow, ι, x⟩ := r3
      obtain ⟨a, ea, ⟨us, ha2, al⟩, go⟩ := x.mod x.pop.top e1
      have ek : iv = .int k := x.top
      have ay : At X.K G v y' := x.pop.pop.top
      cases ej : ixN xs.length k with
      | none => rw [ej] at q3; exact q3.elim
      | some j =>
        rw [ej] at q3
        refine ⟨a, us, k, j, ea, ek, ha2, by rw [al.length]; exact ej, q3 σ _ ?_⟩
        exact ⟨G, ow, ι, (go (.lst (xs.set j y')) (.lst (us.set j v)) ⟨us.set j v, upd_same, al.set ay⟩).pop.pop.pop⟩
    · exact q3.elim

/-! ### methods that change a list -/
/-- o.m(e, ..): o a list's name -/
def isLst (o : T) (δ : DL.Env) (M : Mem) : Bool :=
  match conOf o δ M with
  | some (.lst _) => true
  | _ => false
def mMeth (fo : Sm T) (fa : Sm (List T)) (F : List D → List D → Option (List D × D)) : Sm T := bnd fo fun o => fun δ M =>
  if isLst o δ M = true then (bnd fa fun ts => fun δ M =>
    match conOf o δ M with
    | some (.lst xs) => (match (allD ts).bind fun ds => F xs ds with
      | some (xs', z) => .ok (.d z) (putE o (.lst xs') δ) (putM o (.lst xs') M)
      | Option.none => .bad)
    | _ => .bad) δ M else .bad
def MethD (K : KF) (r : V → List V → Hp → VK → Prop) (F : List D → List D → Option (List D × D)) : Prop := ∀ (H G : Hp) (a : Addr) (us vs : List V) (xs ds xs' : List D) (z : D) (Q : VK), Same G H → H a = some (.lst us) → AtL K G us xs → AtL K G vs ds → F xs ds = some (xs', z) →
  (∀ us' w, AtL K G us' xs' → At K G w z → Q w (upd H a (.lst us'))) → r (.ref a) vs H Q
theorem pops_mem {p : V × T} : ∀ {vs : List V} {ts : List T} {τ : List (V × T)}, RepG K H G ow ι (⟨σ, δ, rz vs ts τ⟩ :: fs) M → vs.length = ts.length → RepG K H G ow ι (⟨σ, δ, τ⟩ :: fs) M := by
  intro vs ts τ x hl
  obtain ⟨h1, h2⟩ := rts_rz hl x.frs.1.tmps
  exact ⟨x.sub, x.own, x.lenM, x.cells, ⟨x.frs.1.len, x.frs.1.slots, h1⟩, x.frs.2⟩
theorem meth_end {r : V → List V → Hp → VK → Prop} {F : List D → List D → Option (List D × D)} {Q : VK} {ov : V} {o : T} {vs : List V} {ts : List T} {x' : XD → DL.Env → Mem → Prop} (hF : MethD K r F) (hl : vs.length = ts.length) (rp : Rep K H (⟨σ, δ, rz vs ts ((ov, o) :: τ)⟩ :: fs) M)
    (q : (match conOf o δ M with
    | some (.lst xs) => (match (allD ts).bind fun ds => F xs ds with
      | some (xs', z) => Res.ok (T.d z) (putE o (.lst xs') δ) (putM o (.lst xs') M)
      | Option.none => .bad)
    | _ => .bad).post (fun r δ' M' => ∀ v H', Rep K H' (⟨σ, δ', (v, r) :: τ⟩ :: fs) M' → Q v H') x') : r ov vs H Q := by
  cases ec : conOf o δ M with
  | none => rw [ec] at q; exact q.elim
  | some c =>
    rw [ec] at q
    cases c with
    | dct _ => exact q.elim
    | lst xs =>
      simp only at q
      cases ed : allD ts with
      | none => rw [ed] at q; exact q.elim
      | some ds =>
        rw [ed] at q
        simp only [Option.bind_some] at q
        cases ef : F xs ds with
        | none => rw [ef] at q; exact q.elim
        | some p =>
          obtain ⟨xs', z⟩ := p
          rw [ef] at q
          obtain ⟨G, ow, ι, x, al⟩ := rp.pops hl ed
          obtain ⟨a, ea, ⟨us, ha, au⟩, go⟩ := x.mod x.top ec
          have ea' : ov = .ref a := ea
          subst ea'
          refine hF H G a us vs xs ds xs' z Q x.sub ha au al ef fun us' w a1 a2 => q w _ ?_
          exact ⟨G, ow, ι, (go (.lst xs') (.lst us') ⟨us', upd_same, a1⟩).pop.push (t := .d z) a2⟩
theorem lst_ty {o : T} {ov : V} (rp : Rep K H (⟨σ, δ, (ov, o) :: τ⟩ :: fs) M) (h : isLst o δ M = true) : tyV K "list" ov H := by
  unfold isLst at h
  split at h
  · rename_i xs e
    obtain ⟨G, ow, ι, x⟩ := rp
    obtain ⟨a, ea, ⟨us, ha, _⟩, _⟩ := x.mod x.top e
    have ea' : ov = .ref a := ea
    subst ea'
    exact .inl ⟨rfl, us, SqL.of ha⟩
  · cases h
section
variable {name : Str} {id : String} {r : V → List V → Hp → VK → Prop} {F : List D → List D → Option (List D × D)} {o : Expr} {es : List Expr} {apos cpos : Pos} {fo : Sm T} {fa : Sm (List T)}
theorem qe_meth (slot : Slot "list" name id) (hty : typeOf (.builtin id) = pure (.type "method_descriptor")) (hm : MtR X id r) (hF : MethD X.K r F) (ho : QE X W o fo) (ha : QA X W (e :: es) fa)
    (hbase : attributeBase o name X.env (eval o X.env) = eval o X.env := by rfl)
    (hfew : ((backTo cpos (starEach (e :: es) X.env)).all (fun x => !x.1) && (backToKw cpos (keywordEach [] X.env)).all (fun x => x.1.isSome)
      && decide ((e :: es).length + ([] : List Keyword).length + (if ([] : List Keyword).isEmpty then 0 else 1) < 30)) = true := by rfl)
    (hline : (apos.endLine == cpos.line) = true := by rfl) (hs : starEach (e :: es) X.env = (false, eval e X.env) :: starEach es X.env := by rfl) (hplain : (backTo cpos (starEach es X.env)).any (·.1) = false := by rfl) :
    QE X W (.Call (.Attribute o name apos) (e :: es) [] cpos) (mMeth fo fa F) := by
  refine (pe_bm PySem.F.plainAttrs_list slot hty hm ho ha hbase hfew hline hs hplain).imp fun σ H Q ⟨δ, τ, fs, M, rp, q⟩ => ⟨δ, τ, fs, M, rp, Res.post_mono (bnd_post q) (fun ot δ1 M1 q1 ov H1 r1 => ?_) fun _ _ _ z => z⟩
  split at q1
  · rename_i hl
    exact ⟨lst_ty r1 hl, δ1, (ov, ot) :: τ, fs, M1, r1, Res.post_mono (bnd_post q1) (fun ts δ2 M2 q2 vs H2 hl2 r2 => meth_end hF hl2 r2 q2) fun _ _ _ z => z.push⟩
  · exact q1.elim
theorem qe_meth0 (slot : Slot "list" name id) (hty : typeOf (.builtin id) = pure (.type "method_descriptor")) (hm : MtR X id r) (hF : MethD X.K r F) (ho : QE X W o fo)
    (hbase : attributeBase o name X.env (eval o X.env) = eval o X.env := by rfl) (hline : (apos.endLine == cpos.line) = true := by rfl) : QE X W (.Call (.Attribute o name apos) [] [] cpos) (mMeth fo mNil F) := by
  refine (pe_bm0 PySem.F.plainAttrs_list slot hty hm ho hbase hline).imp fun σ H Q ⟨δ, τ, fs, M, rp, q⟩ => ⟨δ, τ, fs, M, rp, Res.post_mono (bnd_post q) (fun ot δ1 M1 q1 ov H1 r1 => ?_) fun _ _ _ z => z⟩
  split at q1
  · rename_i hl
    exact ⟨lst_ty r1 hl, meth_end (vs := []) (ts := []) hF rfl r1 q1⟩
  · exact q1.elim
end
def fAppend (xs : List D) : List D → Option (List D × D)
  | [y] => if xs.length < 16000000 then some (xs ++ [y], .none) else Option.none
  | _ => Option.none
def fExtend (xs : List D) : List D → Option (List D × D)
  | [.list ys] => if xs.length + ys.length ≤ 16000000 then some (xs ++ ys, .none) else Option.none
  | _ => Option.none
def fPop (xs : List D) : List D → Option (List D × D)
  | [] => (xs[xs.length - 1]?).map fun y => (xs.dropLast, y)
  | _ => Option.none
def fPopAt (xs : List D) : List D → Option (List D × D)
  | [.int i] => if small62 i = true then (seqIndex? i xs.length).bind fun k => (xs[k]?).map fun y => (xs.eraseIdx k, y) else Option.none
  | _ => Option.none
theorem line16' {n : Nat} (h : n ≤ 16000000) : n ≤ sizeLine := Nat.le_trans h (by decide)
theorem m_append : MethD K rAppend fAppend := by
  intro H G a us vs xs ds xs' z Q s ha au av ef q
  match ds, ef with
  | [y], ef =>
    unfold fAppend at ef
    simp only at ef
    split at ef
    · rename_i hz
      cases ef
      obtain ⟨w, r, e, aw, ar⟩ := av
      cases ar
      subst e
      exact ⟨a, us, w, rfl, rfl, ha, line16 (by rw [au.length]; omega), q _ _ (au.app (AtL.one aw)) rfl⟩
    · cases ef
theorem m_extend : MethD K rExtend fExtend := by
  intro H G a us vs xs ds xs' z Q s ha au av ef q
  match ds, ef with
  | [.list ys], ef =>
    unfold fExtend at ef
    simp only at ef
    split at ef
    · rename_i hz
      cases ef
      obtain ⟨w, r, e, aw, ar⟩ := av
      cases ar
      subst e
      obtain ⟨b, ws, e2, hb, ab⟩ := aw
      subst e2
      exact ⟨a, b, us, ws, rfl, rfl, ha, s _ _ hb, line16' (by rw [au.length, ab.length]; omega), q _ _ (au.app ab) rfl⟩
    · cases ef
theorem AtL.dropLast {vs : List V} {ds : List D} (a : AtL K G vs ds) : AtL K G vs.dropLast ds.dropLast := by
  rw [List.dropLast_eq_take, List.dropLast_eq_take, a.length]
  exact AtL.take _ a
theorem m_pop : MethD K rPop fPop := by
  intro H G a us vs xs ds xs' z Q s ha au av ef q
  match ds, ef with
  | [], ef =>
    cases av
    have ef : ((xs[xs.length - 1]?).map fun y => (xs.dropLast, y)) = some (xs', z) := ef
    cases e : xs[xs.length - 1]? with
    | none => rw [e] at ef; cases ef
    | some y =>
      rw [e] at ef
      cases ef
      obtain ⟨w, ew, aw⟩ := au.get e
      exact ⟨a, us, w, rfl, rfl, ha, by rw [au.length]; exact ew, q _ _ au.dropLast aw⟩
theorem AtL.eraseIdx {vs : List V} {ds : List D} (a : AtL K G vs ds) (k : Nat) : AtL K G (vs.eraseIdx k) (ds.eraseIdx k) := by
  rw [List.eraseIdx_eq_take_drop_succ, List.eraseIdx_eq_take_drop_succ]
  exact (AtL.take _ a).app (AtL.drop _ a)
theorem m_popAt : MethD K rPopAt fPopAt := by
  intro H G a us vs xs ds xs' z Q s ha au av ef q
  match ds, ef with
  | [.int i], ef =>
    unfold fPopAt at ef
    simp only at ef
    split at ef
    · rename_i hz
      obtain ⟨b1, b2⟩ := small62_iff.mp hz
      obtain ⟨w, r, e, aw, ar⟩ := av
      cases ar
      subst e
      have aw : w = .int i := aw
      subst aw
      cases ek : seqIndex? i xs.length with
      | none => rw [ek] at ef; cases ef
      | some k =>
        rw [ek] at ef
        simp only [Option.bind_some] at ef
        cases ey : xs[k]? with
        | none => rw [ey] at ef; cases ef
        | some y =>
          rw [ey] at ef
          cases ef
          obtain ⟨w2, ew, aw2⟩ := au.get ey
          exact ⟨a, us, i, k, w2, rfl, rfl, ha, by omega, by omega, by rw [au.length]; exact ek, ew, q _ _ (au.eraseIdx k) aw2⟩
    · cases ef
end DL

end
section
namespace DL
open PySem PySem.Spec L2 PyProof.Rows
/-- a law's run: from the def's promise at the heap behind the top -/
theorem law_run {P : Program} {w : World} {K : KF} {mg mb : PySem.Str → Option Value} {k : Nat} {fa a : Addr} {fd : FuncData} {x : PySem.Str} {g : Fm} {s₁ : Shared} {vs : List Value} {ns : List Int}
    (KX : K.In s₁.heap) (hns : s₁.heap.Ns mainGlobals mg) (hb : s₁.heap.Ns builtinsNs mb) (hbb : ∀ x : PySem.Str, x ≠ "__name__" → mb x = bootBuiltins x) (lim : s₁.heap.NoLimit) (gens : s₁.gens = #[])
    (ha : s₁.heap.get? a = some { cls := .type "list", data := .seq vs.toArray }) (hi : IntsAre vs ns) (hl : ns.length ≤ sizeLine) (room : Room k callerA)
    (F : ∀ base : Heap, K.In base → base.Ns mainGlobals mg → FnG P w K mg base k fa fd [x] (spG K 1 g)) (bind : ∀ (s : Shared) (u : Value), BindsTo s fd ⟨[u], []⟩ [(x, u)])
    (hg : ∃ δ M, g [.scr ns] [] = .ok (.d (.bool true)) δ M) :
    codeAny (model P w) callerA (.call (.ref fa) ⟨[.ref a], []⟩) (fun r s' => r = .ok (.ret (.bool true)) ∧ OldK s₁.heap s'.heap ∧ s'.os = s₁.os ∧ AllBare s'.gens) s₁ := by
  have rv := vals_ints hi
  have core : ∀ H : Hp, Only H → SqL K H a (ns.map V.int) → HOk P w H s₁.heap → (∀ b, H b ≠ none → b = a ∧ K.lookup a = none) →
      codeAny (model P w) callerA (.call (.ref fa) ⟨[.ref a], []⟩) (fun r s' => r = .ok (.ret (.bool true)) ∧ OldK s₁.heap s'.heap ∧ s'.os = s₁.os ∧ AllBare s'.gens) s₁ := by
    intro H hO hS hok hA
    have un : ∀ {b : Addr} {o : Obj}, s₁.heap.get? b = some o → (∀ es ep, o.data ≠ .dict es ep → False) → H b = none := fun {b o} e hd => by
      cases z : H b with
      | none => rfl
      | some u =>
        obtain ⟨eb, _⟩ := hA b (by rw [z]; exact nofun)
        rw [eb, ha] at e
        cases e
        exact (hd #[] 0 (by intro zz; cases zz)).elim
    have ns_of : ∀ {b : Addr} {m : PySem.Str → Option Value}, s₁.heap.Ns b m → (hidT s₁.heap H).Ns b m := fun {b m} ⟨o, es, ep, e, d, r⟩ => by
      refine ⟨o, es, ep, hidT_get e ?_, d, r⟩
      cases z : H b with
      | none => rfl
      | some u =>
        obtain ⟨eb, _⟩ := hA b (by rw [z]; exact nofun)
        rw [eb, ha] at e
        cases e
        cases d
    have kin : K.In (hidT s₁.heap H) := fun b o e => hidT_get (KX b o e) (by
      cases z : H b with
      | none => rfl
      | some u =>
        obtain ⟨eb, hk⟩ := hA b (by rw [z]; exact nofun)
        rw [eb, hk] at e; cases e)
    have mod : Mod K mg (hidT s₁.heap H) := ⟨kin, ns_of hns, ⟨mb, ns_of hb, hbb⟩, (let ⟨mc, h1, h2⟩ := lim; ⟨mc, ns_of h1, h2⟩)⟩
    have e0 : Env0 P w K mg (hidT s₁.heap H) callerA [] s₁ H := ⟨rfl, mod, fun b o e => of_hidT e, Nat.le_of_eq (hidT_size _ _), trivial, fun b hb => (nomatch hb), hok, AllBare.of_eq gens⟩
    have rep : Rep K H [⟨[some (.ref a)], [some (.scr ns)], []⟩] [] := by
      refine ⟨H, fun _ => none, [], ⟨Same.refl _, fun _ _ e => (nomatch e), rfl, fun n c e => (by simp at e), ⟨rfl, fun i t e => ?_, trivial⟩, trivial⟩⟩
      cases i with
      | zero =>
        simp at e
        subst e
        exact ⟨rfl, _, rfl, a, rfl, hS⟩
      | succ i => simp at e
    have sp : spG K 1 g [.ref a] H (fun v _ => v = .bl true) (fun _ _ _ => False) := by
      obtain ⟨δ, M, eg⟩ := hg
      refine ⟨[.scr ns], [], [], rfl, rfl, rep, ?_⟩
      rw [eg]
      exact ⟨rfl, fun v H' r => r.topD⟩
    refine codeAny_mono ((F _ kin (ns_of hns)).run (us := [.ref a]) (vs := [.ref a]) room rfl e0 (bind s₁ (.ref a)) (.cons rfl .nil) sp) fun r s' h => ?_
    cases r with
    | error e => exact absurd h (fun z => by obtain ⟨_, _, _, _, _, _, _, _, _, _, _, _, z⟩ := z; exact z)
    | ok fl =>
      cases fl with
      | next => exact h.elim
      | brk => exact h.elim
      | cont => exact h.elim
      | ret u =>
        obtain ⟨v, H', os, bare, keep, hok', r', q⟩ := h
        have q' : v = .bl true := q
        subst q'
        obtain rfl : u = Value.bool true := r'
        refine ⟨rfl, OldK.of_keep fun b o e => ?_, os, bare⟩
        cases z : H b with
        | none => exact keep.keep b o e z (fun z => nomatch z) (fun z => nomatch z)
        | some u =>
          rcases hO b with z2 | ⟨ob, xs, z2⟩
          · rw [z] at z2; cases z2
          · obtain ⟨e1, _⟩ := hok b _ z2
            obtain ⟨e2, _⟩ := hok' b _ (keep.frzs b ob _ z2)
            rw [e] at e1; cases e1
            exact e2
  have lenV := hi.length
  cases hk : K.lookup a with
  | some o =>
    have e := KX a o hk
    rw [ha] at e
    cases e
    exact core (fun _ => none) (fun _ => .inl rfl) (.inr ⟨_, vs.toArray, _, hk, rfl, rfl, rfl, by rw [List.size_toArray, lenV]; exact hl, by simpa using rv⟩) (fun b u z => nomatch z) fun b z => absurd rfl z
  | none =>
    have at_a : ∀ {b : Addr} {u : HO}, (if b = a then some (HO.frz { cls := .type "list", data := .seq vs.toArray } (.lst (ns.map V.int))) else none) = some u → b = a ∧ u = HO.frz { cls := .type "list", data := .seq vs.toArray } (.lst (ns.map V.int)) := fun {b u} z => by
      by_cases hb : b = a
      · rw [if_pos hb] at z; exact ⟨hb, (Option.some.inj z).symm⟩
      · rw [if_neg hb] at z; cases z
    refine core (fun b => if b = a then some (.frz { cls := .type "list", data := .seq vs.toArray } (.lst (ns.map V.int))) else none) (fun b => ?_) (.inl (.inr ⟨_, if_pos rfl⟩)) (fun b u z => ?_) fun b z => ⟨?_, hk⟩
    · by_cases hb : b = a
      · exact .inr ⟨_, _, if_pos hb⟩
      · exact .inl (if_neg hb)
    · obtain ⟨eb, eu⟩ := at_a z
      subst eb eu
      exact ⟨ha, by rw [List.length_map]; exact hl, vs, _, rv, ha⟩
    · by_cases hb : b = a
      · exact hb
      · exact absurd (if_neg hb) z
/-- the goal that the head leaves -/
theorem law_walk {l : PySem.W.OpenLaw} {k : Nat} {q : Program} {loose : List PySem.Str} {XP : (PySem.Str → Option Value) → Heap → Prop} {YP : World → Heap → Prop} {d : DefRec} {K : Params → KF} {x : PySem.Str} {g : World → Fm}
    (hn : l.most = some 63) (hdf : d.params.defaults = []) (hr : Room k callerA) (hY : ∀ (w : World) (h : Heap), YP w h → (K w.params).In h)
    (F : ∀ (w : World) (mg : PySem.Str → Option Value) (fa : Addr) (h : Heap), (K w.params).In h → h.Ns mainGlobals mg → mg d.name = some (.ref fa) →
      ∃ fd : FuncData, (∀ (s : Shared) (u : Value), BindsTo s fd ⟨[u], []⟩ [(x, u)]) ∧ ∀ base : Heap, (K w.params).In base → base.Ns mainGlobals mg → FnG l.prog w (K w.params) mg base k fa fd [x] (spG (K w.params) 1 (g w)))
    (hg : ∀ (w : World) (ns : List Int), ns.length ≤ 63 → ∃ δ M, g w [.scr ns] [] = .ok (.d (.bool true)) δ M) :
    PySem.W.WalkO q loose XP YP l.row.toRowW d [] (fun f vs => PySem.call f vs) := by
  refine Att.attach_call hn hdf fun w s₀ s₁ mg mb fa o pm cd doc a vs ns G Y ho hd hcd hmg hobj hints hlen hgen => ?_
  obtain ⟨fd, hb, hF⟩ := F w mg fa _ (hY w _ Y) G.T.g hmg
  exact law_run (hY w _ Y) G.T.g G.T.b G.T.builtins G.T.nolimit hgen hobj hints (Nat.le_trans hlen (by decide)) hr hF hb (hg w ns hlen)
end DL

end
section
namespace DL
open PySem PySem.Spec L2
variable {X : Cx} {W : WX} {K : KF} {H G : Hp} {ow : Addr → Option Who} {ι : List Addr} {σ : St} {δ : DL.Env} {τ : List (V × T)} {fs : List Fram} {M : Mem} {v u : V} {t : T} {e e' e'' : Expr} {pos : Pos}

/-! ### lengths of argument lists -/
def LenA (fa : Sm (List T)) (n : Nat) : Prop := ∀ δ M ts δ' M', fa δ M = .ok ts δ' M' → ts.length = n
theorem len_nil : ∀ δ M ts δ' M', mNil δ M = .ok ts δ' M' → ts.length = 0 := by
  intro δ M ts δ' M' h; cases h; rfl
theorem len_cons {f : Sm T} {fa : Sm (List T)} {n : Nat} (h : ∀ δ M ts δ' M', fa δ M = .ok ts δ' M' → ts.length = n) : ∀ δ M ts δ' M', mCons f fa δ M = .ok ts δ' M' → ts.length = n + 1 := by
  intro δ M ts δ' M' e
  unfold mCons bnd at e
  cases e1 : f δ M with
  | ok a δ1 M1 =>
    simp only [e1] at e
    cases e2 : fa δ1 M1 with
    | ok b δ2 M2 =>
      simp only [e2] at e
      cases e
      simp [h _ _ _ _ _ e2]
    | ex a b c => simp only [e2] at e; cases e
    | bad => simp only [e2] at e; cases e
  | ex a b c => simp only [e1] at e; cases e
  | bad => simp only [e1] at e; cases e

/-! ### the built-in names -/
theorem boot_fn_len : bootBuiltins "len" = some (.builtin "len") := by decide +kernel
theorem boot_fn_abs : bootBuiltins "abs" = some (.builtin "abs") := by decide +kernel
theorem boot_fn_all : bootBuiltins "all" = some (.builtin "all") := by decide +kernel
theorem boot_fn_any : bootBuiltins "any" = some (.builtin "any") := by decide +kernel
theorem boot_fn_repr : bootBuiltins "repr" = some (.builtin "repr") := by decide +kernel
theorem boot_fn_max : bootBuiltins "max" = some (.builtin "max") := by decide +kernel
theorem boot_fn_min : bootBuiltins "min" = some (.builtin "min") := by decide +kernel
theorem boot_ty_int : bootBuiltins "int" = some (.type "int") := by decide +kernel
theorem boot_ty_tuple : bootBuiltins "tuple" = some (.type "tuple") := by decide +kernel
theorem boot_ty_list : bootBuiltins "list" = some (.type "list") := by decide +kernel

/-! ### chains -/
section
variable {op op' : CmpOp} {F F' : D → D → Option D} {f g h : Sm T}
theorem qe_chain (c : CD X op F) (c' : CD X op' F') (h1 : QE X W e f) (h2 : QE X W e' g) (h3 : QE X W e'' h) (hm : lastMarks [op, op'] [e', e''] = false := by with_unfolding_all rfl) : QE X W (.Compare e [op, op'] [e', e''] pos) (mChain F F' f g h) := by
  obtain ⟨r, a, b⟩ := c
  obtain ⟨r', a', b'⟩ := c'
  exact (pe_chain a a' h1 h2 h3 hm).imp fun _ _ _ q => chain_of b b' q
theorem qt_chain (c : CD X op F) (c' : CD X op' F') (h1 : QE X W e f) (h2 : QE X W e' g) (h3 : QE X W e'' h) (hm : lastMarks [op, op'] [e', e''] = false := by with_unfolding_all rfl) : QT X W (.Compare e [op, op'] [e', e''] pos) (mTest (mChain F F' f g h)) := by
  obtain ⟨r, a, b⟩ := c
  obtain ⟨r', a', b'⟩ := c'
  exact (pt_chain a a' h1 h2 h3 hm).imp fun _ _ _ q => chain_of b b' (test_of q)
end
theorem qs_retN : QS X W (.Return none pos) (mRet (mD .none)) := by
  refine ps_retN.imp fun D σ H ⟨δ, τ, fs, M, nb, r, q⟩ => ?_
  exact q.2 _ σ H (r.pushD (x := .none) (v := .non) fun _ _ => rfl)

/-! ### evaluating -/
section
variable {α β : Type}
@[simp] theorem e_ret {a : α} : ret a δ M = .ok a δ M := rfl
@[simp] theorem e_fail : (fail : Sm α) δ M = .bad := rfl
@[simp] theorem e_bnd {f : Sm α} {g : α → Sm β} : bnd f g δ M = (match f δ M with
    | .ok a δ' M' => g a δ' M'
    | .ex x δ' M' => .ex x δ' M'
    | .bad => .bad) := rfl
@[simp] theorem e_seq {f g : Sm Fl} : mSeq f g δ M = (match f δ M with
    | .ok .nx δ' M' => g δ' M'
    | .ok fl δ' M' => .ok fl δ' M'
    | .ex x δ' M' => .ex x δ' M'
    | .bad => .bad) := by
  unfold mSeq bnd
  cases f δ M with
  | ok a δ' M' => cases a <;> rfl
  | ex => rfl
  | bad => rfl
@[simp] theorem e_if {c : Sm Bool} {f g : Sm α} : mIf c f g δ M = (match c δ M with
    | .ok b δ' M' => if b = true then f δ' M' else g δ' M'
    | .ex x δ' M' => .ex x δ' M'
    | .bad => .bad) := by
  unfold mIf bnd
  cases c δ M with
  | ok a δ' M' => cases a <;> rfl
  | ex => rfl
  | bad => rfl
@[simp] theorem e_test {f : Sm T} : mTest f δ M = bnd f (fun t => fun δ M => match vw t δ M with
  | some (.bool b) => .ok b δ M
  | _ => .bad) δ M := rfl
@[simp] theorem e_notT {f : Sm Bool} : mNotT f δ M = bnd f (fun b => ret (!b)) δ M := rfl
@[simp] theorem e_andT {f g : Sm Bool} : mAndT f g δ M = (match f δ M with
    | .ok b δ' M' => if b = true then g δ' M' else .ok false δ' M'
    | .ex x δ' M' => .ex x δ' M'
    | .bad => .bad) := by
  unfold mAndT bnd
  cases f δ M with
  | ok a δ' M' => cases a <;> rfl
  | ex => rfl
  | bad => rfl
@[simp] theorem e_orT {f g : Sm Bool} : mOrT f g δ M = (match f δ M with
    | .ok b δ' M' => if b = true then .ok true δ' M' else g δ' M'
    | .ex x δ' M' => .ex x δ' M'
    | .bad => .bad) := by
  unfold mOrT bnd
  cases f δ M with
  | ok a δ' M' => cases a <;> rfl
  | ex => rfl
  | bad => rfl
@[simp] theorem e_op2 {F : D → D → Option D} {f g : Sm T} : mOp2 F f g δ M = bnd f (fun x => bnd g fun y => fun δ M => opt (((vw x δ M).bind fun a => (vw y δ M).bind fun b => F a b).bind fun z => if plain z = true then some (T.d z) else Option.none) δ M) δ M := rfl
@[simp] theorem e_opT {F : D → D → Option T} {f g : Sm T} : mOpT F f g δ M = bnd f (fun x => bnd g fun y => fun δ M => opt ((vw x δ M).bind fun a => (vw y δ M).bind fun b => F a b) δ M) δ M := rfl
@[simp] theorem e_name {i : Nat} : mName i δ M = (match δ[i]? with
  | some (some (.d x)) => .ok (.d x) δ M
  | some (some (.v x)) => .ok (.v x) δ M
  | some (some (.ref n)) => .ok (.ref n) δ M
  | some (some (.scr ns)) => .ok (.scr ns) δ M
  | some (some (.exn x)) => .ok (.exn x) δ M
  | some (some (.con _)) => .ok (.bor i) δ M
  | _ => .bad) := rfl
@[simp] theorem e_set {i : Nat} {f : Sm T} : mSet i f δ M = bnd f (fun t => bnd (mOwn t) fun r => fun δ M => if i < δ.length then .ok .nx (δ.set i (some r)) M else .bad) δ M := rfl
@[simp] theorem e_setC {i : Nat} {f : Sm T} : mSetC i f δ M = bnd f (fun t => fun δ M => match t with
  | .con c => if i < δ.length then .ok .nx (δ.set i (some (.ref M.length))) (M ++ [c]) else .bad
  | _ => .bad) δ M := rfl
@[simp] theorem e_cell {f : Sm T} : mCell f δ M = bnd f (fun t => fun δ M => match t with
  | .con c => .ok (.ref M.length) δ (M ++ [c])
  | _ => .bad) δ M := rfl
@[simp] theorem e_retS {f : Sm T} : mRet f δ M = bnd f (fun t => bnd (mOwn t) fun r => ret (.rt r)) δ M := rfl
@[simp] theorem e_expr {f : Sm T} : mExpr f δ M = bnd f (fun _ => ret .nx) δ M := rfl
@[simp] theorem e_do {g : Sm Unit} : mDo g δ M = (match g δ M with
  | .ok _ δ' M' => .ok .nx δ' M'
  | _ => .bad) := rfl
@[simp] theorem e_tgt {g : Sm Unit} {h : Sm Fl} : mTgt g h δ M = (match g δ M with
  | .ok _ δ' M' => h δ' M'
  | _ => .bad) := rfl
@[simp] theorem e_asg {f : Sm T} {g : T → Sm Unit} : mAsg f g δ M = bnd f (fun t => bnd (mOwn t) fun r => mDo (g r)) δ M := rfl
@[simp] theorem e_nm {i : Nat} {t : T} : mNm i t δ M = if i < δ.length then .ok () (δ.set i (some t)) M else .bad := rfl
@[simp] theorem e_gn : mGn [] δ M = .ok () δ M := rfl
@[simp] theorem e_gc {f : T → Sm Unit} {g : List D → Sm Unit} {d : D} {r : List D} : mGc f g (d :: r) δ M = bnd (f (.d d)) (fun _ => g r) δ M := rfl
@[simp] theorem e_gt' {n : Nat} {g : List D → Sm Unit} {ds : List D} : mGt n g (.d (.tuple ds)) δ M = if ds.length = n then g ds δ M else .bad := by
  unfold mGt; simp only; split <;> rfl
@[simp] theorem e_store {fo fi : Sm T} {t : T} : mStore fo fi t δ M = bnd (mFrz t) (fun y => bnd fo fun o => bnd fi fun i => fun δ M =>
  match y, conOf o δ M, i with
  | .d y, some (.lst xs), .d (.int i) => (match ixN xs.length i with
    | some j => .ok () (putE o (.lst (xs.set j y)) δ) (putM o (.lst (xs.set j y)) M)
    | Option.none => .bad)
  | _, _, _ => .bad) δ M := rfl
@[simp] theorem e_cons {f : Sm T} {g : Sm (List T)} : mCons f g δ M = bnd f (fun t => bnd g fun ts => ret (t :: ts)) δ M := rfl
@[simp] theorem e_tup {f : Sm (List T)} : mTup f δ M = bnd f (fun ts => opt ((allD ts).bind fun ds => if ds.length ≤ 1000 then some (.d (.tuple ds)) else Option.none)) δ M := rfl
@[simp] theorem e_lst {f : Sm (List T)} : mLst f δ M = bnd f (fun ts => opt ((allD ts).bind fun ds => if ds.length ≤ 1000 then some (.con (.lst ds)) else Option.none)) δ M := rfl
@[simp] theorem e_allN : allD [] = some [] := rfl
@[simp] theorem e_allC {x : D} {r : List T} : allD (.d x :: r) = (allD r).map (x :: ·) := rfl
@[simp] theorem e_vwsN : vws [] δ M = some [] := rfl
@[simp] theorem e_vwsC {t : T} {ts : List T} : vws (t :: ts) δ M = (vw t δ M).bind fun d => (vws ts δ M).map (d :: ·) := rfl
@[simp] theorem e_blt {F : List T → Sm T} {fa : Sm (List T)} : mBlt F fa δ M = bnd fa F δ M := rfl
@[simp] theorem e_pl {F : List D → Option D} {ts : List T} : mPl F ts δ M = opt (((vws ts δ M).bind F).bind fun z => if plain z = true then some (T.d z) else Option.none) δ M := rfl
@[simp] theorem e_bt {F : D → Option T} {t : T} : mBT F [t] δ M = opt ((vw t δ M).bind F) δ M := rfl
@[simp] theorem e_scrLen {ns : List Int} : mScrLen [.scr ns] δ M = .ok (.d (.int ns.length)) δ M := rfl
@[simp] theorem e_scrIx {f g : Sm T} : mScrIx f g δ M = bnd f (fun x => bnd g fun y => opt (match x, y with
  | .scr ns, .d (.int i) => (atI ns i).map fun n => T.d (.int n)
  | _, _ => Option.none)) δ M := rfl
@[simp] theorem e_call {g : Fm} {fa : Sm (List T)} : mCall g fa δ M = bnd fa (fun ts => fun δ M =>
  if ts.all (fun t => !t.isBor) = true then
    match g ts M with
    | .ok r _ M' => if r.isBor = true then .bad else .ok r δ M'
    | .ex e _ M' => .ex e δ M'
    | .bad => .bad
  else .bad) δ M := rfl
@[simp] theorem e_callK {π : List Nat} {g : Fm} {fa : Sm (List T)} : mCallK π g fa δ M = bnd fa (fun ts => fun δ M =>
  if ts.all (fun t => match t with | .d _ => true | _ => false) = true then
    match g (perm π ts) M with
    | .ok r _ M' => if r.isBor = true then .bad else .ok r δ M'
    | .ex e _ M' => .ex e δ M'
    | .bad => .bad
  else .bad) δ M := rfl
@[simp] theorem e_perm {α : Type} {i : Nat} {π : List Nat} {l : List α} : perm (i :: π) l = (match l[i]? with | some x => x :: perm π l | Option.none => perm π l) := by
  unfold perm
  rw [List.filterMap_cons]
  cases l[i]? <;> rfl
@[simp] theorem e_perm0 {α : Type} {l : List α} : perm [] l = [] := rfl
@[simp] theorem e_for {g : Sm (List D)} {tg : T → Sm Unit} {b : Sm Fl} : mFor g tg b δ M = bnd g (forF tg b) δ M := rfl
@[simp] theorem e_seqIt {f : Sm T} : mSeqIt f δ M = bnd (bnd f mFrz) (fun t => match t with
  | .d (.list ds) => ret ds
  | .d (.tuple ds) => ret ds
  | _ => fail) δ M := rfl
@[simp] theorem e_range1 {f : Sm (List T)} : mRange1 f δ M = bnd f (fun ts => match ts with
  | [.d (.int j)] => if small62 j = true then ret ((List.range j.toNat).map fun k => .int (0 + (k : Nat))) else fail
  | _ => fail) δ M := rfl
@[simp] theorem e_range2 {f : Sm (List T)} : mRange2 f δ M = bnd f (fun ts => match ts with
  | [.d (.int i), .d (.int j)] => if small62 i = true ∧ small62 j = true then ret ((List.range (j - i).toNat).map fun k => .int (i + (k : Nat))) else fail
  | _ => fail) δ M := rfl
@[simp] theorem e_while {n : Nat} {c : Sm Bool} {b : Sm Fl} : mWhile n c b = whileF c b n := rfl
@[simp] theorem e_tupF {ds : List D} : fTuple (.list ds) = some (.d (.tuple ds)) := rfl
@[simp] theorem e_tupF2 {ds : List D} : fTuple (.tuple ds) = some (.d (.tuple ds)) := rfl
@[simp] theorem e_lstF {ds : List D} : fList (.list ds) = some (.con (.lst ds)) := rfl
@[simp] theorem e_lstF2 {ds : List D} : fList (.tuple ds) = some (.con (.lst ds)) := rfl
@[simp] theorem e_lenL {ds : List D} : fLen [.list ds] = some (.int ds.length) := rfl
@[simp] theorem e_lenT {ds : List D} : fLen [.tuple ds] = some (.int ds.length) := rfl
theorem e_max {i j : Int} : fMax [.int i, .int j] = some (.int (if j > i then j else i)) := rfl
theorem e_min {i j : Int} : fMin [.int i, .int j] = some (.int (if j < i then j else i)) := rfl
theorem e_abs {i : Int} : fAbs [.int i] = some (.int (if i < 0 then -i else i)) := rfl
@[simp] theorem e_intI {i : Int} : fInt [.int i] = some (.int i) := rfl
@[simp] theorem e_intB {i : Bool} : fInt [.bool i] = some (.int (if i then 1 else 0)) := rfl
theorem e_addT {a b : List D} (h : a.length + b.length ≤ 1000000) : fAdd (.tuple a) (.tuple b) = some (.d (.tuple (a ++ b))) := by unfold fAdd; simp [h]
theorem e_addL {a b : List D} (h : a.length + b.length ≤ 1000000) : fAdd (.list a) (.list b) = some (.con (.lst (a ++ b))) := by unfold fAdd; simp [h]
theorem e_mulT {a : List D} {j : Int} (h0 : -1000 ≤ j) (h1 : j ≤ 1000) (h : a.length ≤ 1000) : fMul (.tuple a) (.int j) = some (.d (.tuple (List.replicate j.toNat a).flatten)) := by unfold fMul; simp [h, h0, h1]
theorem e_mulL {a : List D} {j : Int} (h0 : -1000 ≤ j) (h1 : j ≤ 1000) (h : a.length ≤ 1000) : fMul (.list a) (.int j) = some (.con (.lst (List.replicate j.toNat a).flatten)) := by unfold fMul; simp [h, h0, h1]
@[simp] theorem e_body {n : Nat} {f : Sm Fl} {ts : List T} : mBody n f ts M = (match f (ts.map some ++ List.replicate n Option.none) M with
  | .ok .nx _ M' => .ok (.d .none) [] M'
  | .ok (.rt r) _ M' => .ok r [] M'
  | .ok _ _ _ => .bad
  | .ex e _ M' => .ex e [] M'
  | .bad => .bad) := rfl
@[simp] theorem e_opt {a : α} : opt (some a) δ M = .ok a δ M := rfl
@[simp] theorem e_mD {x : D} : mD x δ M = .ok (.d x) δ M := rfl
@[simp] theorem e_mNil : mNil δ M = .ok [] δ M := rfl
@[simp] theorem e_frz {x : D} : mFrz (.d x) δ M = .ok (.d x) δ M := rfl
@[simp] theorem e_frzR {n : Nat} : mFrz (.ref n) δ M = .ok (.ref n) δ M := rfl
@[simp] theorem e_frzS {n : List Int} : mFrz (.scr n) δ M = .ok (.scr n) δ M := rfl
@[simp] theorem e_frzX {x : XD} : mFrz (.exn x) δ M = .ok (.exn x) δ M := rfl
@[simp] theorem e_ownX {x : XD} : mOwn (.exn x) δ M = .ok (.exn x) δ M := rfl
@[simp] theorem e_borX {x : XD} : (T.exn x).isBor = false := rfl
@[simp] theorem e_ownS {n : List Int} : mOwn (.scr n) δ M = .ok (.scr n) δ M := rfl
@[simp] theorem e_frzC {c : C} : mFrz (.con c) δ M = .ok (.d c.toD) δ M := rfl
@[simp] theorem e_vwD {x : D} : vw (.d x) δ M = some x := rfl
@[simp] theorem e_vwC {c : C} : vw (.con c) δ M = some c.toD := rfl
@[simp] theorem e_vwR {n : Nat} : vw (.ref n) δ M = (M[n]?).map C.toD := rfl
@[simp] theorem e_ownD {x : D} : mOwn (.d x) δ M = .ok (.d x) δ M := rfl
@[simp] theorem e_ownR {n : Nat} : mOwn (.ref n) δ M = .ok (.ref n) δ M := rfl
@[simp] theorem e_ownC {c : C} : mOwn (.con c) δ M = .ok (.con c) δ M := rfl
@[simp] theorem e_borD {x : D} : (T.d x).isBor = false := rfl
@[simp] theorem e_borR {n : Nat} : (T.ref n).isBor = false := rfl
@[simp] theorem e_borC {c : C} : (T.con c).isBor = false := rfl
@[simp] theorem e_borS {n : List Int} : (T.scr n).isBor = false := rfl
@[simp] theorem e_toL {xs : List D} : (C.lst xs).toD = .list xs := rfl
@[simp] theorem e_plI {i : Int} : plain (.int i) = true := rfl
@[simp] theorem e_plB {i : Bool} : plain (.bool i) = true := rfl
@[simp] theorem e_plS {i : Str} : plain (.str i) = true := rfl
@[simp] theorem e_plN : plain .none = true := rfl
@[simp] theorem e_conR {n : Nat} : conOf (.ref n) δ M = M[n]? := rfl
@[simp] theorem e_putER {n : Nat} {c : C} : putE (.ref n) c δ = δ := rfl
@[simp] theorem e_putMR {n : Nat} {c : C} : putM (.ref n) c M = M.set n c := rfl
@[simp] theorem e_sub {i j : Int} : fSub (.int i) (.int j) = some (.int (i - j)) := rfl
@[simp] theorem e_lt {i j : Int} : fLt (.int i) (.int j) = some (.bool (decide (i < j))) := rfl
@[simp] theorem e_le {i j : Int} : fLe (.int i) (.int j) = some (.bool (decide (i ≤ j))) := rfl
@[simp] theorem e_gt {i j : Int} : fGt (.int i) (.int j) = some (.bool (decide (j < i))) := rfl
@[simp] theorem e_ge {i j : Int} : fGe (.int i) (.int j) = some (.bool (decide (j ≤ i))) := rfl
@[simp] theorem e_add {i j : Int} : fAdd (.int i) (.int j) = some (.d (.int (i + j))) := rfl
@[simp] theorem e_ixL {ds : List D} {i : Int} : fIx (.list ds) (.int i) = (atI ds i).map T.d := rfl
@[simp] theorem e_ixT {ds : List D} {i : Int} : fIx (.tuple ds) (.int i) = (atI ds i).map T.d := rfl
@[simp] theorem e_atI0 {α : Type} {x : α} {l : List α} : atI (x :: l) 0 = some x := by simp [atI, ixN]
@[simp] theorem e_atI1 {α : Type} {x y : α} {l : List α} : atI (x :: y :: l) 1 = some y := by
  have h : (1 : Int) < (l.length : Int) + 1 + 1 := by omega
  simp [atI, ixN, h]
@[simp] theorem e_atI2 {α : Type} {x y z : α} {l : List α} : atI (x :: y :: z :: l) 2 = some z := by
  have h : (2 : Int) < (l.length : Int) + 1 + 1 + 1 := by omega
  simp [atI, ixN, h]
theorem e_mod {i j : Int} (h : 0 < j) : fMod (.int i) (.int j) = some (.int (i % j)) := by simp [fMod, iiF, h]
theorem log_lt {j : Int} (h : 0 < j) (h2 : j < 2 ^ 1000) : j.natAbs.log2 < 9000 := by
  have : j.natAbs < 2 ^ 1000 := by omega
  exact Nat.lt_trans ((Nat.log2_lt (by omega)).mpr this) (by decide)
theorem e_div {i j : Int} (h : 0 < j) (h2 : j < 2 ^ 128) : fDiv (.int i) (.int j) = some (.int (i / j)) := by simp [fDiv, iiF, divOk, h, log_lt h (Int.lt_trans h2 (by decide))]
theorem e_mul {i j : Int} (h : i.natAbs < 2 ^ 64 ∨ j.natAbs < 2 ^ 64) : fMul (.int i) (.int j) = some (.d (.int (i * j))) := by
  unfold fMul
  simp only
  rw [if_pos]
  unfold mulOk
  simp only [Bool.or_eq_true, decide_eq_true_eq]
  exact .inl h
theorem e_pow {i j : Int} (h : 0 ≤ j) (h2 : j ≤ 64) (h3 : i.natAbs < 2 ^ 1000) : fPow (.int i) (.int j) = some (.int (i ^ j.toNat)) := by
  unfold fPow iiF
  simp only
  rw [if_pos]
  unfold powOk
  simp only [Bool.and_eq_true, decide_eq_true_eq]
  refine ⟨h, ?_⟩
  have hb : Builtin.Int.intBits i ≤ 1000 := by
    unfold Builtin.Int.intBits
    split
    · omega
    · rename_i hi
      have : i.natAbs ≠ 0 := fun z => hi (by have : i = 0 := by omega
                                             rw [this]; rfl)
      exact (Nat.log2_lt this).mpr h3
  have h4 : (Builtin.Int.intBits i : Int) * j ≤ 1000 * 64 := Int.mul_le_mul (by omega) h2 h (by omega)
  exact Int.le_trans h4 (by decide)
end
end DL

end
section
namespace DL
open PySem PySem.Spec L2
variable {δ : DL.Env} {M : Mem}

/-! ### small data: what repr and == take -/
structure Small (k w : Nat) (d : D) : Prop where
  lay : d.canLay0 = true
  sh : d.showable = true
  short : d.intsShort 13 = true
  depth : d.depth ≤ k
  weight : d.weight ≤ w
theorem Small.mono {k w k' w' : Nat} {d : D} (h : Small k w d) (hk : k ≤ k') (hw : w ≤ w') : Small k' w' d := ⟨h.lay, h.sh, h.short, Nat.le_trans h.depth hk, Nat.le_trans h.weight hw⟩
theorem Small.int {i : Int} (h : i.natAbs < 10 ^ 12) : Small 0 40 (.int i) := by
  have hl : i.natAbs.log2 < 40 ∨ i = 0 := by
    by_cases h0 : i = 0
    · exact .inr h0
    · exact .inl ((Nat.log2_lt (by omega)).mpr (Nat.lt_trans h (by decide)))
  have hl2 : i.natAbs.log2 < 40 := by
    rcases hl with hl | hl
    · exact hl
    · subst hl; decide
  refine ⟨rfl, by simp [PyData.showable]; omega, ?_, Nat.le_refl _, ?_⟩
  · have := PyData.intsShortAll_ints [i] (fun n hn => by simp at hn; subst hn; exact h)
    simpa [PyData.intsShortAll] using this
  · simp only [PyData.weight]
    split <;> omega
theorem Small.bool {b : Bool} : Small 0 0 (.bool b) := ⟨rfl, by simp [PyData.showable], by simp [PyData.intsShort], by simp [PyData.depth], by simp [PyData.weight]⟩
theorem Small.none : Small 0 0 .none := ⟨rfl, by simp [PyData.showable], by simp [PyData.intsShort], by simp [PyData.depth], by simp [PyData.weight]⟩
theorem Small.str {s : Str} {n : Nat} (h : PyData.strOk s = true) (hn : s.length ≤ n) : Small 0 n (.str s) := ⟨by simpa [PyData.canLay0] using h, by simp [PyData.showable], by simp [PyData.intsShort], by simp [PyData.depth], by simp only [PyData.weight]; exact hn⟩
theorem small_all {k w : Nat} : ∀ {xs : List D}, (∀ x ∈ xs, Small k w x) → PyData.canLayAll0 xs = true ∧ PyData.showableAll xs = true ∧ PyData.intsShortAll 13 xs = true ∧ PyData.depthAll xs ≤ k ∧ PyData.weightAll xs ≤ xs.length * (w + 1)
  | [], _ => ⟨rfl, rfl, rfl, Nat.zero_le _, Nat.zero_le _⟩
  | x :: xs, h => by
    obtain ⟨a, b, c, e, f⟩ := small_all (xs := xs) fun y hy => h y (List.mem_cons_of_mem _ hy)
    obtain ⟨a', b', c', e', f'⟩ := h x List.mem_cons_self
    refine ⟨by simp [PyData.canLayAll0, a, a'], by simp [PyData.showableAll, b, b'], by simp [PyData.intsShortAll, c, c'], by simp only [PyData.depthAll]; omega, ?_⟩
    simp only [PyData.weightAll, List.length_cons]
    rw [Nat.add_mul]
    omega
theorem Small.tup {k w n : Nat} {xs : List D} (h : ∀ x ∈ xs, Small k w x) (hn : xs.length ≤ n) : Small (k + 1) (n * (w + 1)) (.tuple xs) := by
  obtain ⟨a, b, c, e, f⟩ := small_all h
  exact ⟨by simpa [PyData.canLay0] using a, by simpa [PyData.showable] using b, by simpa [PyData.intsShort] using c, by simp only [PyData.depth]; omega, by simp only [PyData.weight]; exact Nat.le_trans f (Nat.mul_le_mul_right _ hn)⟩
theorem Small.lst {k w n : Nat} {xs : List D} (h : ∀ x ∈ xs, Small k w x) (hn : xs.length ≤ n) : Small (k + 1) (n * (w + 1)) (.list xs) := by
  obtain ⟨a, b, c, e, f⟩ := small_all h
  exact ⟨by simpa [PyData.canLay0] using a, by simpa [PyData.showable] using b, by simpa [PyData.intsShort] using c, by simp only [PyData.depth]; omega, by simp only [PyData.weight]; exact Nat.le_trans f (Nat.mul_le_mul_right _ hn)⟩
theorem Small.ok {k w : Nat} {d : D} (h : Small k w d) (hk : k ≤ 64) (hw : w ≤ 2 ^ 20) : showOk d = true := by
  have h1 : PyData.layable0 d = true := by
    show (PyData.canLay0 d && decide (PyData.depth d ≤ 64) && decide (PyData.weight d ≤ 2 ^ 20)) = true
    rw [h.lay, decide_eq_true (Nat.le_trans h.depth hk), decide_eq_true (Nat.le_trans h.weight hw)]; rfl
  unfold showOk
  rw [PyData.plain_of_canLay0 _ h.lay, h.sh, decide_eq_true (Nat.le_trans h.depth hk), decide_eq_true (PyData.shown_fits_of_layable0 (B := 13) (by decide) (by decide) h1 h.short)]; rfl
theorem Small.eq {k w k' w' : Nat} {d e : D} (h : Small k w d) (h' : Small k' w' e) (hk : min k k' ≤ 64) : eqOk d e = true := by
  unfold eqOk
  have : min d.depth e.depth ≤ 64 := by
    have := h.depth
    have := h'.depth
    omega
  rw [PyData.plain_of_canLay0 _ h.lay, PyData.plain_of_canLay0 _ h'.lay, decide_eq_true this]; rfl
@[simp] theorem e_eqS {x y : Str} : fEq (.str x) (.str y) = some (.bool (x == y)) := by simp [fEq, eqOk, PyData.plain, PyData.depth, PyData.eqv]
@[simp] theorem e_neS {x y : Str} : fNe (.str x) (.str y) = some (.bool (!(x == y))) := by simp [fNe, eqOk, PyData.plain, PyData.depth, PyData.eqv]
@[simp] theorem e_eqI {x y : Int} : fEq (.int x) (.int y) = some (.bool (x == y)) := by simp [fEq, eqOk, PyData.plain, PyData.depth, PyData.eqv]
@[simp] theorem e_neI {x y : Int} : fNe (.int x) (.int y) = some (.bool (!(x == y))) := by simp [fNe, eqOk, PyData.plain, PyData.depth, PyData.eqv]
@[simp] theorem e_eqB {x y : Bool} : fEq (.bool x) (.bool y) = some (.bool (x == y)) := by simp [fEq, eqOk, PyData.plain, PyData.depth, PyData.eqv]
@[simp] theorem e_neB {x y : Bool} : fNe (.bool x) (.bool y) = some (.bool (!(x == y))) := by simp [fNe, eqOk, PyData.plain, PyData.depth, PyData.eqv]
theorem e_repr {d : D} (h : showOk d = true) : fRepr [d] = some (.str d.shown) := by unfold fRepr; simp [h]

/-! ### loops -/
/-- a comprehension: a fact of each item, a state's relation -/
theorem lcF_spec {vs : List Nat} {tg : T → Sm Unit} {te : Sm T} {P : D → Prop} {I : List D → Mem → Prop} {δ0 : DL.Env}
    (step : ∀ d ds M, I (d :: ds) M → ∃ δ1 M1 y δ2 M2, tg (.d d) δ0 M = .ok () δ1 M1 ∧ (bnd te mFrz) δ1 M1 = .ok (.d y) δ2 M2 ∧ P y ∧ I ds M2 ∧ wipeE δ2 vs = δ0) :
    ∀ (ds acc : List D) (M : Mem), I ds M → ∃ ys M', lcF vs tg (ret true) te ds acc δ0 M = .ok (acc ++ ys) δ0 M' ∧ ys.length = ds.length ∧ (∀ y ∈ ys, P y) ∧ I [] M'
  | [], acc, M, h => ⟨[], M, by simp [lcF], rfl, fun _ hy => (nomatch hy), h⟩
  | d :: ds, acc, M, h => by
    obtain ⟨δ1, M1, y, δ2, M2, e1, e2, py, i2, ew⟩ := step d ds M h
    obtain ⟨ys, M', e3, hl, hp, hi⟩ := lcF_spec step ds (acc ++ [y]) M2 i2
    refine ⟨y :: ys, M', ?_, by simp [hl], fun z hz => ?_, hi⟩
    · unfold lcF
      simp only [e1]
      unfold bnd at e2
      cases ete : te δ1 M1 with
      | ok a δ3 M3 =>
        simp only [ete] at e2
        simp only [bnd, ret, if_pos, ete, e2, ew, e3, List.append_assoc, List.singleton_append]
      | ex a b c => simp only [ete] at e2; cases e2
      | bad => simp only [ete] at e2; cases e2
    · rcases List.mem_cons.mp hz with e | hz
      · rw [e]; exact py
      · exact hp z hz
theorem mLc_spec {vs : List Nat} {g : Sm (List D)} {tg : T → Sm Unit} {te : Sm T} {P : D → Prop} {I : List D → Mem → Prop} {δ1 : DL.Env} {M1 : Mem} {ds : List D} (hg : g δ M = .ok ds δ1 M1) (hl : ds.length ≤ 16000000) (hi : I ds M1)
    (step : ∀ d ds M, I (d :: ds) M → ∃ δ2 M2 y δ3 M3, tg (.d d) (wipeE δ1 vs) M = .ok () δ2 M2 ∧ (bnd te mFrz) δ2 M2 = .ok (.d y) δ3 M3 ∧ P y ∧ I ds M3 ∧ wipeE δ3 vs = wipeE δ1 vs) :
    ∃ ys M', mLc vs g tg (ret true) te δ M = .ok (.con (.lst ys)) (mergeE δ1 (wipeE δ1 vs) vs) M' ∧ ys.length = ds.length ∧ (∀ y ∈ ys, P y) ∧ I [] M' := by
  obtain ⟨ys, M', e, h1, h2, h3⟩ := lcF_spec step ds [] M1 hi
  refine ⟨ys, M', ?_, h1, h2, h3⟩
  unfold mLc bnd
  simp only [hg, if_pos hl, e, lcEnd, wipeE_length, if_pos, List.nil_append]
/-- for: what holds before each turn -/
theorem forF_spec {tg : T → Sm Unit} {b : Sm Fl} {I : List D → DL.Env → Mem → Prop}
    (step : ∀ d ds δ M, I (d :: ds) δ M → ∃ δ1 M1, mTgt (tg (.d d)) b δ M = .ok .nx δ1 M1 ∧ I ds δ1 M1) :
    ∀ (ds : List D) (δ : DL.Env) (M : Mem), I ds δ M → ∃ δ' M', forF tg b ds δ M = .ok .nx δ' M' ∧ I [] δ' M'
  | [], δ, M, h => ⟨δ, M, rfl, h⟩
  | d :: ds, δ, M, h => by
    obtain ⟨δ1, M1, e, i1⟩ := step d ds δ M h
    obtain ⟨δ', M', e2, i2⟩ := forF_spec step ds δ1 M1 i1
    refine ⟨δ', M', ?_, i2⟩
    unfold forF
    unfold mTgt at e ⊢
    cases et : tg (.d d) δ M with
    | ok a δ2 M2 =>
      simp only [et] at e ⊢
      unfold bnd
      simp only [e]
      exact e2
    | ex a b c => simp only [et] at e; cases e
    | bad => simp only [et] at e; cases e
/-- while: a measure, what holds before each turn, what holds behind -/
theorem whileF_spec {c : Sm Bool} {b : Sm Fl} {I : Nat → DL.Env → Mem → Prop} {F : DL.Env → Mem → Prop}
    (step : ∀ k δ M, I k δ M → (∃ δ1 M1, c δ M = .ok false δ1 M1 ∧ F δ1 M1) ∨ ∃ j δ1 M1 δ2 M2, j < k ∧ c δ M = .ok true δ1 M1 ∧ b δ1 M1 = .ok .nx δ2 M2 ∧ I j δ2 M2) :
    ∀ (n k : Nat) (δ : DL.Env) (M : Mem), I k δ M → k < n → ∃ δ' M', whileF c b n δ M = .ok .nx δ' M' ∧ F δ' M'
  | 0, k, _, _, _, h => absurd h (Nat.not_lt_zero _)
  | n + 1, k, δ, M, h, hn => by
    rcases step k δ M h with ⟨δ1, M1, e, f⟩ | ⟨j, δ1, M1, δ2, M2, hj, e, e2, i2⟩
    · exact ⟨δ1, M1, by unfold whileF bnd; simp only [e]; rfl, f⟩
    · obtain ⟨δ', M', e3, f⟩ := whileF_spec step n j δ2 M2 i2 (by omega)
      refine ⟨δ', M', ?_, f⟩
      unfold whileF bnd
      simp only [e, if_pos, bnd, e2, e3]
end DL

end
section
namespace DL
open PySem PySem.Spec L2

/-! _law_take (818b3e): slots 0 _law_pot_here, 1 _law_many, 2 _law_digit, 3 _law_turn, 4 _law_prime, 5 _law_mixed -/
def m__law_take : Sm Fl := (mSeq (mIf (mTest (mOp2 fGt (mOpT fIx (mName 0) (mD (.int 0))) (mD (.int 0)))) (mSeq (mSet 2 (mOp2 fMod (mOpT fIx (mName 0) (mD (.int 0))) (mName 1))) (mSeq (mAsg (mOp2 fDiv (mOpT fIx (mName 0) (mD (.int 0))) (mName 1)) (mStore (mName 0) (mD (.int 0)))) (mRet (mName 2)))) (ret .nx)) (mSeq (mAsg (mOpT fAdd (mOpT fIx (mName 0) (mD (.int 2))) (mD (.int 1))) (mStore (mName 0) (mD (.int 2)))) (mSeq (mSet 3 (mOpT fIx (mName 0) (mD (.int 2)))) (mSeq (mSet 4 (mOpT fIx (mLst (mCons (mD (.int 2147483647)) (mCons (mD (.int 2147483629)) (mCons (mD (.int 2147483587)) (mCons (mD (.int 2147483579)) (mCons (mD (.int 2147483563)) (mCons (mD (.int 2147483549)) mNil))))))) (mOp2 fMod (mName 3) (mD (.int 6))))) (mSeq (mSet 5 (mOp2 fMod (mOp2 fPow (mOpT fAdd (mOpT fAdd (mOpT fIx (mName 0) (mD (.int 1))) (mOpT fMul (mOpT fMul (mD (.int 65537)) (mName 3)) (mName 3))) (mOpT fMul (mD (.int 31)) (mName 3))) (mD (.int 3))) (mName 4))) (mRet (mOp2 fMod (mOp2 fDiv (mOp2 fMod (mOpT fMul (mName 5) (mOpT fAdd (mOp2 fMod (mName 5) (mD (.int 10007))) (mOpT fMul (mD (.int 13)) (mName 3)))) (mD (.int 2305843009213693907))) (mD (.int 97))) (mName 1))))))))
def g__law_take : Fm := mBody 4 m__law_take
/-! block_word (fca6ba): slots 0 block, 1 least, 2 first, 3 again, 4 last, 5 missing -/
def m_block_word : Sm Fl := (mSeq (mAsg (mName 0) (mGt 3 (mGc (mNm 2) (mGc (mNm 3) (mGc (mNm 4) mGn))))) (mSeq (mSet 5 (mBlt (mPl fMax) (mCons (mD (.int 0)) (mCons (mOp2 fSub (mOp2 fSub (mName 1) (mBlt (mPl fLen) (mCons (mName 2) mNil))) (mBlt (mPl fLen) (mCons (mName 4) mNil))) mNil)))) (mRet (mOpT fAdd (mOpT fAdd (mName 2) (mOpT fMul (mName 3) (mOp2 fDiv (mOp2 fSub (mOpT fAdd (mName 5) (mBlt (mPl fLen) (mCons (mName 3) mNil))) (mD (.int 1))) (mBlt (mPl fLen) (mCons (mName 3) mNil))))) (mName 4)))))
def g_block_word : Fm := mBody 4 m_block_word
/-! _law_word (3cf9b3): slots 0 _law_pot_here, 1 _law_low, 2 _law_most, 3 _law_turn -/
def e__law_word_1 : Sm T := (mCall g__law_take (mCons (bnd (mName 0) mFrz) (mCons (mD (.int 4)) mNil)))
def i__law_word_1 : Sm (List D) := (mRange1 (mCons (mOpT fAdd (mName 1) (mCall g__law_take (mCons (bnd (mName 0) mFrz) (mCons (bnd (mName 2) mFrz) mNil)))) mNil))
def m__law_word : Sm Fl := (mRet (mBlt (mBT fTuple) (mCons (mLc [3] i__law_word_1 (mNm 3) (ret true) e__law_word_1) mNil)))
def g__law_word : Fm := mBody 1 m__law_word
/-! _law_right (8dba5a): slots 0 _law_pot_here, 1 _law_piece, 2 _law_size, 3 _law_due, 4 _law_copies -/
def l__law_right_1 : Sm Fl := (mSeq (mSet 4 (mOpT fAdd (mName 4) (mD (.int 1)))) (mSet 3 (mOpT fAdd (mOpT fAdd (mOpT fIx (mName 1) (mD (.int 0))) (mOpT fMul (mOpT fIx (mName 1) (mD (.int 1))) (mName 4))) (mOpT fIx (mName 1) (mD (.int 2))))))
def c__law_right_1 : Sm Bool := (mTest (mOp2 fLt (mBlt (mPl fLen) (mCons (mName 3) mNil)) (mName 2)))
def l__law_right_2 : Sm Fl := (mSeq (mSet 3 (mOpT fAdd (mOpT fIx (mName 1) (mD (.int 0))) (mOpT fIx (mName 1) (mD (.int 2))))) (mSeq (mSet 4 (mD (.int 0))) (mSeq (mWhile 1000000 c__law_right_1 l__law_right_1) (mIf (mTest (mOp2 fNe (mBlt (mPl fRepr) (mCons (mLst (mCons (bnd (mCall g_block_word (mCons (bnd (mName 1) mFrz) (mCons (bnd (mName 2) mFrz) mNil))) mFrz) (mCons (bnd (mCallK [1, 0] g_block_word (mCons (bnd (mName 2) mFrz) (mCons (bnd (mName 1) mFrz) mNil))) mFrz) mNil))) mNil)) (mBlt (mPl fRepr) (mCons (mLst (mCons (bnd (mName 3) mFrz) (mCons (bnd (mName 3) mFrz) mNil))) mNil)))) (mRet (mD (.bool false))) (ret .nx)))))
def m__law_right : Sm Fl := (mSeq (mSet 1 (mTup (mCons (bnd (mCall g__law_word (mCons (bnd (mName 0) mFrz) (mCons (mD (.int 0)) (mCons (mD (.int 13)) mNil)))) mFrz) (mCons (bnd (mCall g__law_word (mCons (bnd (mName 0) mFrz) (mCons (mD (.int 1)) (mCons (mD (.int 12)) mNil)))) mFrz) (mCons (bnd (mCall g__law_word (mCons (bnd (mName 0) mFrz) (mCons (mD (.int 0)) (mCons (mD (.int 13)) mNil)))) mFrz) mNil))))) (mSeq (mFor (mSeqIt (mTup (mCons (mD (.int 0)) (mCons (mD (.int 1)) (mCons (bnd (mOpT fAdd (mBlt (mPl fLen) (mCons (mOpT fIx (mName 1) (mD (.int 0))) mNil)) (mBlt (mPl fLen) (mCons (mOpT fIx (mName 1) (mD (.int 2))) mNil))) mFrz) (mCons (bnd (mCall g__law_take (mCons (bnd (mName 0) mFrz) (mCons (mD (.int 60)) mNil))) mFrz) (mCons (bnd (mCall g__law_take (mCons (bnd (mName 0) mFrz) (mCons (mD (.int 401)) mNil))) mFrz) (mCons (mD (.int 400)) mNil)))))))) (mNm 2) l__law_right_2) (mRet (mD (.bool true)))))
def g__law_right : Fm := mBody 4 m__law_right
/-! _law_pot (9ed787): slots 0 _law_script, 1 _law_k, 2 _law_cell, 3 _law_own -/
def m__law_pot : Sm Fl := (mSeq (mSet 2 (mIf (mTest (mOp2 fLt (mName 1) (mBlt mScrLen (mCons (mName 0) mNil)))) (mScrIx (mName 0) (mName 1)) (mOpT fAdd (mOpT fMul (mD (.int 5)) (mName 1)) (mD (.int 2))))) (mSeq (mSet 3 (mOpT fMul (mOp2 fMod (mBlt (mPl fAbs) (mCons (mName 2) mNil)) (mBlt (mPl fInt) (mCons (mOpT fAdd (mD (.str "1")) (mOpT fMul (mD (.str "0")) (mD (.int 300)))) mNil))) (mBlt (mPl fInt) (mCons (mOp2 fGe (mBlt (mPl fAbs) (mCons (mName 2) mNil)) (mOp2 fPow (mD (.int 10)) (mD (.int 18)))) mNil)))) (mRet (mLst (mCons (bnd (mName 3) mFrz) (mCons (bnd (mOp2 fMod (mOpT fMul (mOpT fAdd (mOpT fAdd (mOp2 fMod (mName 2) (mD (.int 2305843009213693951))) (mOpT fMul (mOpT fMul (mD (.int 7919)) (mName 1)) (mName 1))) (mD (.int 17))) (mD (.int 48271))) (mD (.int 2305843009213693951))) mFrz) (mCons (mD (.int 0)) mNil)))))))
def g__law_pot : Fm := mBody 2 m__law_pot
/-! law (1314c1): slots 0 _law_script, 1 _law_k, 2 _law_pot_here, 3 _law_turn -/
def e_law_1 : Sm T := (mCall g__law_right (mCons (bnd (mName 2) mFrz) mNil))
def i_law_1 : Sm (List D) := (mRange1 (mCons (mD (.int 40)) mNil))
def l_law_1 : Sm Fl := (mSeq (mSetC 2 (mCall g__law_pot (mCons (bnd (mName 0) mFrz) (mCons (bnd (mName 1) mFrz) mNil)))) (mIf (mNotT (mTest (mBlt (mPl fAll) (mCons (mLc [3] i_law_1 (mNm 3) (ret true) e_law_1) mNil)))) (mRet (mD (.bool false))) (ret .nx)))
def m_law : Sm Fl := (mSeq (mFor (mRange1 (mCons (mBlt (mPl fMax) (mCons (mD (.int 1)) (mCons (mBlt (mPl fMin) (mCons (mD (.int 3)) (mCons (mBlt mScrLen (mCons (mName 0) mNil)) mNil))) mNil))) mNil)) (mNm 1) l_law_1) (mRet (mD (.bool true))))
def g_law : Fm := mBody 3 m_law
end DL

end
section
namespace DL
open PySem PySem.Spec L2
variable {δ : DL.Env} {M : Mem}
/-- the pot at cell n: at most B turns taken -/
def Pot (B : Int) (n : Nat) (M : Mem) : Prop := ∃ own mixed turn : Int, M[n]? = some (.lst [.int own, .int mixed, .int turn]) ∧ 0 ≤ own ∧ 0 ≤ mixed ∧ mixed < 2 ^ 61 ∧ 0 ≤ turn ∧ turn ≤ B
-- @[simp] theorem atI0 {α : Type} {x : α} {l : List α} : atI (x :: l) 0 = some x := by simp [atI, ixN]
theorem take_spec {B m : Int} {n : Nat} (hp : Pot B n M) (hB : B < 2 ^ 59) (hm : 0 < m) (hm2 : m < 2 ^ 62) : ∃ v M', g__law_take [.ref n, .d (.int m)] M = .ok (.d (.int v)) [] M' ∧ 0 ≤ v ∧ v < m ∧ Pot (B + 1) n M' ∧ M'.length = M.length := by
  obtain ⟨own, mixed, turn, hM, h0, h1, h2, h3, h4⟩ := hp
  have hn : n < M.length := (List.getElem?_eq_some_iff.mp hM).1
  by_cases ho : 0 < own
  · refine ⟨own % m, M.set n (.lst [.int (own / m), .int mixed, .int turn]), ?_, Int.emod_nonneg _ (by omega), Int.emod_lt_of_pos _ hm, ⟨own / m, mixed, turn, ?_, Int.ediv_nonneg h0 (by omega), h1, h2, h3, by omega⟩, by simp⟩
    · simp [g__law_take, m__law_take, hM, ho, ixN, e_mod hm, e_div hm (Int.lt_trans hm2 (by decide))]
    · simp [hn]
  · have ho' : own = 0 := by omega
    subst ho'
    generalize ht : turn + 1 = t
    have ht0 : 0 < t := by omega
    have ht1 : t < 2 ^ 60 := by omega
    have htt : t * t ≤ 2 ^ 60 * 2 ^ 60 := Int.mul_le_mul (by omega) (by omega) (by omega) (by omega)
    have htt0 : 0 ≤ t * t := Int.mul_nonneg (by omega) (by omega)
    obtain ⟨p, hp, p0, p1⟩ : ∃ p : Int, atI [PyData.int 2147483647, .int 2147483629, .int 2147483587, .int 2147483579, .int 2147483563, .int 2147483549] (t % 6) = some (.int p) ∧ 0 < p ∧ p < 2 ^ 31 := by
      have h1 := Int.emod_nonneg t (show (6 : Int) ≠ 0 by decide)
      have h2 := Int.emod_lt_of_pos t (show (0 : Int) < 6 by decide)
      generalize t % 6 = q at h1 h2
      rcases (show q = 0 ∨ q = 1 ∨ q = 2 ∨ q = 3 ∨ q = 4 ∨ q = 5 by omega) with e | e | e | e | e | e <;> subst e
      · exact ⟨_, rfl, by decide, by decide⟩
      · exact ⟨_, rfl, by decide, by decide⟩
      · exact ⟨_, rfl, by decide, by decide⟩
      · exact ⟨_, rfl, by decide, by decide⟩
      · exact ⟨_, rfl, by decide, by decide⟩
      · exact ⟨_, rfl, by decide, by decide⟩
    have e1 : fMul (.int 65537) (.int t) = some (.d (.int (65537 * t))) := e_mul (.inl (by decide))
    have e2 : fMul (.int (65537 * t)) (.int t) = some (.d (.int (65537 * t * t))) := e_mul (.inr (by omega))
    have e3 : fMul (.int 31) (.int t) = some (.d (.int (31 * t))) := e_mul (.inl (by decide))
    have hass : 65537 * t * t = 65537 * (t * t) := Int.mul_assoc _ _ _
    have e4 : fPow (.int (mixed + 65537 * t * t + 31 * t)) (.int 3) = some (.int ((mixed + 65537 * t * t + 31 * t) ^ 3)) := e_pow (by decide) (by decide) (Nat.lt_of_lt_of_le (show _ < 2 ^ 140 by omega) (Nat.pow_le_pow_right (by decide) (by decide)))
    generalize hx : (mixed + 65537 * t * t + 31 * t) ^ 3 % p = x at *
    have x0 : 0 ≤ x := by rw [← hx]; exact Int.emod_nonneg _ (by omega)
    have x1 : x < p := by rw [← hx]; exact Int.emod_lt_of_pos _ p0
    have e5 : fMul (.int 13) (.int t) = some (.d (.int (13 * t))) := e_mul (.inl (by decide))
    have e6 : fMul (.int x) (.int (x % 10007 + 13 * t)) = some (.d (.int (x * (x % 10007 + 13 * t)))) := e_mul (.inl (by omega))
    refine ⟨x * (x % 10007 + 13 * t) % 2305843009213693907 / 97 % m, M.set n (.lst [.int 0, .int mixed, .int t]), ?_, Int.emod_nonneg _ (by omega), Int.emod_lt_of_pos _ hm, ⟨0, mixed, t, ?_, by decide, h1, h2, by omega, by omega⟩, by simp⟩
    · simp [g__law_take, m__law_take, hM, List.getElem?_set_self hn, ixN, e_mod, e_div, hm, ht, e1, e2, e3, e4, e5, e6, hp, p0, hx]
      done
    · simp [hn]

theorem Pot.mono {B B' : Int} {n : Nat} (h : Pot B n M) (hb : B ≤ B') : Pot B' n M := let ⟨a, b, c, e, h0, h1, h2, h3, h4⟩ := h; ⟨a, b, c, e, h0, h1, h2, h3, by omega⟩
@[simp] theorem e_small {j : Int} (h : -(2 ^ 62) ≤ j) (h' : j < 2 ^ 62) : small62 j = true := small62_iff.mpr ⟨h, h'⟩
/-- a word's letters -/
def Letter (d : D) : Prop := ∃ i : Int, d = .int i ∧ 0 ≤ i ∧ i < 4
theorem word_spec {B low most : Int} {n : Nat} (hp : Pot B n M) (hB : B < 2 ^ 58) (hl : 0 ≤ low) (hl2 : low ≤ 10) (hm : 0 < most) (hm2 : most ≤ 100) : ∃ ys M', g__law_word [.ref n, .d (.int low), .d (.int most)] M = .ok (.d (.tuple ys)) [] M' ∧ (∀ y ∈ ys, Letter y) ∧ low ≤ ys.length ∧ (ys.length : Int) < low + most ∧ Pot (B + 120) n M' ∧ M'.length = M.length := by
  obtain ⟨v, M1, e1, v0, v1, p1, l1⟩ := take_spec hp (by omega) hm (by omega)
  have hg : i__law_word_1 [some (.ref n), some (.d (.int low)), some (.d (.int most)), none] M = .ok ((List.range (low + v).toNat).map fun k => .int (0 + (k : Nat))) [some (.ref n), some (.d (.int low)), some (.d (.int most)), none] M1 := by
    have hs : small62 (low + v) = true := small62_iff.mpr ⟨by omega, by omega⟩
    simp [i__law_word_1, e1, hs]
  have hlen : ((List.range (low + v).toNat).map fun k => PyData.int (0 + (k : Nat))).length = (low + v).toNat := by simp
  obtain ⟨ys, M2, e2, h1, h2, h3⟩ := mLc_spec (vs := [3]) (tg := mNm 3) (te := e__law_word_1) (P := Letter) (I := fun ds M => Pot (B + 120 - ds.length) n M ∧ M.length = M1.length) hg (by rw [hlen]; omega) ⟨p1.mono (by rw [hlen]; omega), rfl⟩ (by
    rintro d ds M2 ⟨q, ql⟩
    obtain ⟨v, M3, e3, a0, a1, a2, a3⟩ := take_spec (m := 4) q (by omega) (by decide) (by decide)
    refine ⟨[some (.ref n), some (.d (.int low)), some (.d (.int most)), some (.d d)], M2, .int v, [some (.ref n), some (.d (.int low)), some (.d (.int most)), some (.d d)], M3, rfl, ?_, ⟨v, rfl, a0, a1⟩, ⟨a2.mono (by simp only [List.length_cons]; omega), a3.trans ql⟩, ?_⟩
    · simp [e__law_word_1, e3]
    · rfl)
  rw [hlen] at h1
  refine ⟨ys, M2, ?_, h2, by omega, by omega, h3.1.mono (by simp), by rw [h3.2, l1]⟩
  simp [g__law_word, m__law_word, e2]

def reps (a b c : List D) (s : Int) : Nat := (((if s - a.length - c.length > 0 then s - a.length - c.length else 0) + b.length - 1) / b.length).toNat
theorem block_eq {a b c : List D} {s : Int} (ha : a.length ≤ 12) (hb : 0 < b.length) (hb2 : b.length ≤ 12) (hc : c.length ≤ 12) (h0 : 0 ≤ s) (h1 : s ≤ 400) :
    g_block_word [.d (.tuple [.tuple a, .tuple b, .tuple c]), .d (.int s)] M = .ok (.d (.tuple (a ++ (List.replicate (reps a b c s) b).flatten ++ c))) [] M := by
  generalize hm : (if s - a.length - c.length > 0 then s - a.length - c.length else 0) = miss
  have hm0 : 0 ≤ miss ∧ miss ≤ 400 := by
    subst hm; split <;> omega
  generalize hk : (miss + b.length - 1) / (b.length : Int) = k
  have hk0 : 0 ≤ k := by rw [← hk]; exact Int.ediv_nonneg (by omega) (by omega)
  have hk1 : k ≤ 500 := by
    rw [← hk]
    exact Int.le_trans (Int.ediv_le_self _ (by omega)) (by omega)
  have hr : reps a b c s = k.toNat := by unfold reps; rw [hm, hk]
  have e1 : fMul (.tuple b) (.int k) = some (.d (.tuple (List.replicate k.toNat b).flatten)) := e_mulT (by omega) (by omega) (by omega)
  have hlen : (List.replicate k.toNat b).flatten.length = k.toNat * b.length := by simp
  have hlen2 : k.toNat * b.length ≤ 500 * 12 := Nat.mul_le_mul (by omega) hb2
  have e2 : fAdd (.tuple a) (.tuple (List.replicate k.toNat b).flatten) = some (.d (.tuple (a ++ (List.replicate k.toNat b).flatten))) := e_addT (by omega)
  have e3 : fAdd (.tuple (a ++ (List.replicate k.toNat b).flatten)) (.tuple c) = some (.d (.tuple (a ++ (List.replicate k.toNat b).flatten ++ c))) := e_addT (by rw [List.length_append]; omega)
  have e4 : fDiv (.int (miss + b.length - 1)) (.int (b.length : Int)) = some (.int k) := by rw [e_div (by omega) (by omega), hk]
  have e5 : fMax [.int 0, .int (s - a.length - c.length)] = some (.int miss) := by rw [e_max, hm]
  rw [hr]
  simp [g_block_word, m_block_word, e1, e2, e3, e4, e5]

theorem reps_lt {a b c : List D} {s : Int} (hb : 0 < b.length) (h0 : 0 ≤ s) (j : Nat) : ((a.length + j * b.length + c.length : Nat) : Int) < s ↔ j < reps a b c s := by
  unfold reps
  generalize hm : (if s - a.length - c.length > 0 then s - a.length - c.length else 0) = miss
  have hm0 : 0 ≤ miss ∧ (s - a.length - c.length ≤ miss) ∧ (miss = 0 ∨ miss = s - a.length - c.length) := by
    subst hm; split <;> omega
  have hq : (j : Int) < (miss + b.length - 1) / (b.length : Int) ↔ (j : Int) * b.length < miss := by
    rw [show ((j : Int) < (miss + b.length - 1) / (b.length : Int)) ↔ ((j : Int) + 1 ≤ (miss + b.length - 1) / (b.length : Int)) from Iff.rfl, Int.le_ediv_iff_mul_le (by omega), Int.add_mul]
    omega
  have hz : 0 ≤ (j : Int) * b.length := Int.mul_nonneg (by omega) (by omega)
  have hj : j < ((miss + b.length - 1) / (b.length : Int)).toNat ↔ (j : Int) < (miss + b.length - 1) / (b.length : Int) := by omega
  rw [hj, hq]
  push_cast
  omega
theorem Letter.small {d : D} (h : Letter d) : Small 0 40 d := by
  obtain ⟨i, rfl, h0, h1⟩ := h
  exact Small.int (by omega)
section
variable {a b c : List D} {s : Int} {n : Nat} {o3 o4 : Option T}
theorem right_turn (ha : a.length ≤ 12) (hb : 0 < b.length) (hb2 : b.length ≤ 12) (hc : c.length ≤ 12) (la : ∀ y ∈ a, Letter y) (lb : ∀ y ∈ b, Letter y) (lc : ∀ y ∈ c, Letter y) (h0 : 0 ≤ s) (h1 : s ≤ 400) :
    ∃ o3' o4', l__law_right_2 [some (.ref n), some (.d (.tuple [.tuple a, .tuple b, .tuple c])), some (.d (.int s)), o3, o4] M = .ok .nx [some (.ref n), some (.d (.tuple [.tuple a, .tuple b, .tuple c])), some (.d (.int s)), o3', o4'] M := by
  generalize hK : reps a b c s = K
  have lt : ∀ j : Nat, ((a.length + j * b.length + c.length : Nat) : Int) < s ↔ j < K := fun j => hK ▸ reps_lt hb h0 j
  have K1 : K ≤ 400 := by
    rcases Nat.eq_zero_or_pos K with z | z
    · omega
    · have := (lt (K - 1)).mpr (by omega)
      have h2 : K - 1 ≤ (K - 1) * b.length := Nat.le_mul_of_pos_right _ hb
      omega
  have dueL : ∀ j : Nat, (a ++ ((List.replicate j b).flatten ++ c)).length = a.length + j * b.length + c.length := fun j => by simp [Nat.add_assoc]
  have e0 : fAdd (.tuple a) (.tuple c) = some (.d (.tuple (a ++ c))) := e_addT (by omega)
  obtain ⟨δ', M', ew, hw⟩ := whileF_spec (c := c__law_right_1) (b := l__law_right_1)
    (I := fun k δ M2 => ∃ j : Nat, j + k = K ∧ M2 = M ∧ δ = [some (.ref n), some (.d (.tuple [.tuple a, .tuple b, .tuple c])), some (.d (.int s)), some (.d (.tuple (a ++ ((List.replicate j b).flatten ++ c)))), some (.d (.int j))])
    (F := fun δ M2 => M2 = M ∧ δ = [some (.ref n), some (.d (.tuple [.tuple a, .tuple b, .tuple c])), some (.d (.int s)), some (.d (.tuple (a ++ ((List.replicate K b).flatten ++ c)))), some (.d (.int K))])
    (by
      rintro k δ M2 ⟨j, hj, rfl, rfl⟩
      by_cases hk : j < K
      · refine .inr ⟨k - 1, [some (.ref n), some (.d (.tuple [.tuple a, .tuple b, .tuple c])), some (.d (.int s)), some (.d (.tuple (a ++ ((List.replicate j b).flatten ++ c)))), some (.d (.int j))], M2, _, M2, by omega, ?_, ?_, j + 1, by omega, rfl, rfl⟩
        · have hl := (lt j).mpr hk
          rw [← dueL] at hl
          simp [c__law_right_1, e_lenT, -List.length_append]
          exact hl
        · have e1 : fMul (.tuple b) (.int ((j : Int) + 1)) = some (.d (.tuple (List.replicate (j + 1) b).flatten)) := by
            rw [e_mulT (by omega) (by omega) (by omega)]; rfl
          have hm : (j + 1) * b.length ≤ 500 * 12 := Nat.mul_le_mul (by omega) hb2
          have hfl : (List.replicate (j + 1) b).flatten.length = (j + 1) * b.length := by simp
          have e2 : fAdd (.tuple a) (.tuple (List.replicate (j + 1) b).flatten) = some (.d (.tuple (a ++ (List.replicate (j + 1) b).flatten))) := e_addT (by rw [hfl]; omega)
          have e3 : fAdd (.tuple (a ++ (List.replicate (j + 1) b).flatten)) (.tuple c) = some (.d (.tuple (a ++ (List.replicate (j + 1) b).flatten ++ c))) := e_addT (by rw [List.length_append, hfl]; omega)
          simp [l__law_right_1, e1, e2, e3]
      · have ejk : j = K := by omega
        subst ejk
        refine .inl ⟨_, M2, ?_, rfl, rfl⟩
        have hl : ¬ _ := fun z => hk ((lt j).mp z)
        rw [← dueL] at hl
        simp [c__law_right_1, e_lenT, -List.length_append]
        omega) 1000000 K [some (.ref n), some (.d (.tuple [.tuple a, .tuple b, .tuple c])), some (.d (.int s)), some (.d (.tuple (a ++ c))), some (.d (.int 0))] M ⟨0, by omega, rfl, by simp⟩ (by omega)
  obtain ⟨rfl, rfl⟩ := hw
  have be : g_block_word [.d (.tuple [.tuple a, .tuple b, .tuple c]), .d (.int s)] M' = .ok (.d (.tuple (a ++ ((List.replicate K b).flatten ++ c)))) [] M' := by rw [block_eq ha hb hb2 hc h0 h1, hK, List.append_assoc]
  generalize hdue : a ++ ((List.replicate K b).flatten ++ c) = due at *
  have dl : ∀ y ∈ due, Small 0 40 y := fun y hy => by
    rw [← hdue] at hy
    rcases List.mem_append.mp hy with h | h
    · exact (la y h).small
    · rcases List.mem_append.mp h with h | h
      · obtain ⟨l, hl, hy⟩ := List.mem_flatten.mp h
        rw [(List.mem_replicate.mp hl).2] at hy
        exact (lb y hy).small
      · exact (lc y h).small
  have dn : due.length ≤ 6000 := by
    rw [← hdue, dueL]
    have hm : K * b.length ≤ 400 * 12 := Nat.mul_le_mul (by omega) hb2
    omega
  have sm : Small 2 (2 * (6000 * 41 + 1)) (.list [.tuple due, .tuple due]) := Small.lst (k := 1) (w := 6000 * 41) (n := 2) (fun x hx => by
    have : x = .tuple due := by simpa using hx
    rw [this]; exact Small.tup dl dn) (by simp)
  have er : fRepr [.list [.tuple due, .tuple due]] = some (.str (PyData.list [.tuple due, .tuple due]).shown) := e_repr (sm.ok (by decide) (by decide))
  exact ⟨some (.d (.tuple due)), some (.d (.int K)), by simp [l__law_right_2, e0, ew, be, er]⟩
end

theorem right_spec {B : Int} {n : Nat} (hp : Pot B n M) (hB : B < 2 ^ 57) : ∃ M', g__law_right [.ref n] M = .ok (.d (.bool true)) [] M' ∧ Pot (B + 400) n M' ∧ M'.length = M.length := by
  obtain ⟨a, M1, e1, la, a0, a1, p1, l1⟩ := word_spec (low := 0) (most := 13) hp (by omega) (by decide) (by decide) (by decide) (by decide)
  obtain ⟨b, M2, e2, lb, b0, b1, p2, l2⟩ := word_spec (low := 1) (most := 12) p1 (by omega) (by decide) (by decide) (by decide) (by decide)
  obtain ⟨c, M3, e3, lc, c0, c1, p3, l3⟩ := word_spec (low := 0) (most := 13) p2 (by omega) (by decide) (by decide) (by decide) (by decide)
  obtain ⟨v, M4, e4, v0, v1, p4, l4⟩ := take_spec (m := 60) p3 (by omega) (by decide) (by decide)
  obtain ⟨u, M5, e5, u0, u1, p5, l5⟩ := take_spec (m := 401) p4 (by omega) (by decide) (by decide)
  obtain ⟨δ', M', e6, -, o2, o3, o4, rfl, rfl⟩ := forF_spec (tg := mNm 2) (b := l__law_right_2)
    (I := fun ds δ M => ds ⊆ [PyData.int 0, .int 1, .int (a.length + c.length), .int v, .int u, .int 400] ∧ ∃ o2 o3 o4, δ = [some (.ref n), some (.d (.tuple [.tuple a, .tuple b, .tuple c])), o2, o3, o4] ∧ M = M5)
    (by
      rintro d ds δ M ⟨hd, o2, o3, o4, rfl, rfl⟩
      obtain ⟨s, rfl, s0, s1⟩ : ∃ s : Int, d = .int s ∧ 0 ≤ s ∧ s ≤ 400 := by
        have := hd List.mem_cons_self
        simp only [List.mem_cons, List.not_mem_nil, or_false] at this
        rcases this with h | h | h | h | h | h
        · exact ⟨_, h, by omega, by omega⟩
        · exact ⟨_, h, by omega, by omega⟩
        · exact ⟨_, h, by omega, by omega⟩
        · exact ⟨_, h, by omega, by omega⟩
        · exact ⟨_, h, by omega, by omega⟩
        · exact ⟨_, h, by omega, by omega⟩
      obtain ⟨o3', o4', e⟩ := right_turn (M := M) (a := a) (b := b) (c := c) (s := s) (n := n) (o3 := o3) (o4 := o4) (by omega) (by omega) (by omega) (by omega) la lb lc s0 s1
      exact ⟨_, _, by simp [e], fun x hx => hd (List.mem_cons_of_mem _ hx), some (.d (.int s)), o3', o4', rfl, rfl⟩)
    [PyData.int 0, .int 1, .int (a.length + c.length), .int v, .int u, .int 400] [some (.ref n), some (.d (.tuple [.tuple a, .tuple b, .tuple c])), none, none, none] M5 ⟨fun _ h => h, none, none, none, rfl, rfl⟩
  refine ⟨M', ?_, p5.mono (by omega), by omega⟩
  simp [g__law_right, m__law_right, e1, e2, e3, e4, e5, e6]

theorem big_text : fInt [.str ("1" ++ Txt.mul "0" 300)] = some (.int (10 ^ 300)) := by
  have h : PySem.intText? (("1" : Str) ++ Txt.mul "0" 300) = some (10 ^ 300) := by decide +kernel
  have h2 : (("1" : Str) ++ Txt.mul "0" 300).length ≤ 640 := by decide +kernel
  unfold fInt
  simp only
  rw [if_pos h2, h]; rfl
theorem pot_spec {ns : List Int} {k : Int} (h0 : 0 ≤ k) (h1 : k ≤ 100) : ∃ own mixed : Int, g__law_pot [.scr ns, .d (.int k)] M = .ok (.con (.lst [.int own, .int mixed, .int 0])) [] M ∧ 0 ≤ own ∧ 0 ≤ mixed ∧ mixed < 2 ^ 61 := by
  obtain ⟨cell, hc⟩ : ∃ cell : Int, (mIf (mTest (mOp2 fLt (mName 1) (mBlt mScrLen (mCons (mName 0) mNil)))) (mScrIx (mName 0) (mName 1)) (mOpT fAdd (mOpT fMul (mD (.int 5)) (mName 1)) (mD (.int 2)))) [some (.scr ns), some (.d (.int k)), none, none] M = .ok (.d (.int cell)) [some (.scr ns), some (.d (.int k)), none, none] M := by
    by_cases hk : k < ns.length
    · refine ⟨ns[k.toNat]'(by omega), ?_⟩
      have e : atI ns k = some (ns[k.toNat]'(by omega)) := by
        simp [atI, ixN, h0, hk]
      simp [hk, e]
    · refine ⟨5 * k + 2, ?_⟩
      have e : fMul (.int 5) (.int k) = some (.d (.int (5 * k))) := e_mul (.inl (by decide))
      simp [hk, e]
  generalize hab : (if cell < 0 then -cell else cell) = ab
  have a0 : 0 ≤ ab := by subst hab; split <;> omega
  have ea : fAbs [.int cell] = some (.int ab) := by rw [e_abs, hab]
  have ez : fMul (.str "0") (.int 300) = some (.d (.str (Txt.mul "0" 300))) := by
    unfold fMul
    simp only
    rw [if_pos (by decide)]
  have es : fAdd (.str "1") (.str (Txt.mul "0" 300)) = some (.d (.str ("1" ++ Txt.mul "0" 300))) := by
    unfold fAdd
    simp only
    rw [if_pos (by decide +kernel)]
  have em : fMod (.int ab) (.int (10 ^ 300)) = some (.int (ab % 10 ^ 300)) := e_mod (by decide +kernel)
  have ep : fPow (.int 10) (.int 18) = some (.int 1000000000000000000) := by
    rw [e_pow (by decide) (by decide) (Nat.lt_of_lt_of_le (show _ < 2 ^ 4 by decide) (Nat.pow_le_pow_right (by decide) (by decide)))]; rfl
  generalize hb : (if decide (1000000000000000000 ≤ ab) = true then (1 : Int) else 0) = bit
  have b0 : 0 ≤ bit ∧ bit ≤ 1 := by subst hb; split <;> omega
  have eb : fInt [.bool (decide (1000000000000000000 ≤ ab))] = some (.int bit) := by rw [e_intB, hb]
  have eo : fMul (.int (ab % 10 ^ 300)) (.int bit) = some (.d (.int (ab % 10 ^ 300 * bit))) := e_mul (.inr (by omega))
  have e7 : fMul (.int 7919) (.int k) = some (.d (.int (7919 * k))) := e_mul (.inl (by decide))
  have e8 : fMul (.int (7919 * k)) (.int k) = some (.d (.int (7919 * k * k))) := e_mul (.inr (by omega))
  have e9 : fMul (.int (cell % 2305843009213693951 + 7919 * k * k + 17)) (.int 48271) = some (.d (.int ((cell % 2305843009213693951 + 7919 * k * k + 17) * 48271))) := e_mul (.inr (by decide))
  refine ⟨ab % 10 ^ 300 * bit, (cell % 2305843009213693951 + 7919 * k * k + 17) * 48271 % 2305843009213693951, ?_, Int.mul_nonneg (Int.emod_nonneg _ (by decide +kernel)) b0.1, Int.emod_nonneg _ (by decide), ?_⟩
  · unfold g__law_pot m__law_pot
    rw [e_body, e_seq, e_set, e_bnd]
    simp only [List.map_cons, List.map_nil, List.replicate, List.cons_append, List.nil_append, hc]
    simp [ea, ez, es, big_text, em, ep, eb, eo, e7, e8, e9, e_mod, -e_intB]
  · exact Int.lt_of_lt_of_le (Int.emod_lt_of_pos _ (by decide)) (by decide)

theorem bools_true : ∀ {ys : List D}, (∀ y ∈ ys, y = .bool true) → fAll [.list ys] = some (.bool true) := by
  intro ys h
  have : bools ys = some (ys.map fun _ => true) := by
    induction ys with
    | nil => rfl
    | cons y ys ih =>
      rw [h y List.mem_cons_self]
      unfold bools
      rw [ih fun z hz => h z (List.mem_cons_of_mem _ hz)]; rfl
  unfold fAll
  simp [this]
theorem law_turn {ns : List Int} {k : Int} {o2 o3 : Option T} (h0 : 0 ≤ k) (h1 : k ≤ 100) : ∃ M' o2' o3', l_law_1 [some (.scr ns), some (.d (.int k)), o2, o3] M = .ok .nx [some (.scr ns), some (.d (.int k)), o2', o3'] M' := by
  obtain ⟨own, mixed, e1, a0, a1, a2⟩ := pot_spec (M := M) (ns := ns) h0 h1
  have hg : i_law_1 [some (.scr ns), some (.d (.int k)), some (.ref M.length), o3] (M ++ [.lst [.int own, .int mixed, .int 0]]) = .ok ((List.range 40).map fun k => .int (0 + (k : Nat))) [some (.scr ns), some (.d (.int k)), some (.ref M.length), o3] (M ++ [.lst [.int own, .int mixed, .int 0]]) := by
    have : small62 40 = true := rfl
    simp [i_law_1, this]
  obtain ⟨ys, M2, e2, h2, h3, h4⟩ := mLc_spec (vs := [3]) (tg := mNm 3) (te := e_law_1) (P := fun y => y = .bool true) (I := fun ds M2 => Pot (100000 - 400 * ds.length) M.length M2) hg (by simp) (⟨own, mixed, 0, by simp, a0, a1, a2, by decide, by simp⟩) (by
    rintro d ds M2 q
    obtain ⟨M3, e3, q3, _⟩ := right_spec q (by omega)
    refine ⟨[some (.scr ns), some (.d (.int k)), some (.ref M.length), some (.d d)], M2, .bool true, [some (.scr ns), some (.d (.int k)), some (.ref M.length), some (.d d)], M3, rfl, ?_, rfl, q3.mono (by simp only [List.length_cons]; omega), rfl⟩
    simp [e_law_1, e3])
  refine ⟨M2, some (.ref M.length), o3, ?_⟩
  simp [l_law_1, e1, e2, bools_true h3, mergeE, wipeE]
theorem law_true (ns : List Int) (h : ns.length ≤ 63) : ∃ δ M, g_law [.scr ns] [] = .ok (.d (.bool true)) δ M := by
  generalize hm : (if (if (ns.length : Int) < 3 then (ns.length : Int) else 3) > 1 then (if (ns.length : Int) < 3 then (ns.length : Int) else 3) else 1) = m
  have m1 : 0 ≤ m ∧ m ≤ 3 := by subst hm; split <;> split <;> omega
  have em : fMin [.int 3, .int ns.length] = some (.int (if (ns.length : Int) < 3 then (ns.length : Int) else 3)) := e_min
  have ex : fMax [.int 1, .int (if (ns.length : Int) < 3 then (ns.length : Int) else 3)] = some (.int m) := by rw [e_max, hm]
  have es : small62 m = true := small62_iff.mpr ⟨by omega, by omega⟩
  obtain ⟨δ', M', e6, -, -, o1, o2, o3, rfl⟩ := forF_spec (tg := mNm 1) (b := l_law_1)
    (I := fun ds δ M => (∀ d ∈ ds, ∃ k : Int, d = .int k ∧ 0 ≤ k ∧ k ≤ 100) ∧ True ∧ ∃ o1 o2 o3, δ = [some (.scr ns), o1, o2, o3])
    (by
      rintro d ds δ M ⟨hd, -, o1, o2, o3, rfl⟩
      obtain ⟨k, rfl, k0, k1⟩ := hd d List.mem_cons_self
      obtain ⟨M2, o2', o3', e⟩ := law_turn (M := M) (ns := ns) (o2 := o2) (o3 := o3) k0 k1
      exact ⟨[some (.scr ns), some (.d (.int k)), o2', o3'], M2, by simp [e], fun x hx => hd x (List.mem_cons_of_mem _ hx), trivial, _, _, _, rfl⟩)
    ((List.range m.toNat).map fun k => .int (0 + (k : Nat))) [some (.scr ns), none, none, none] [] ⟨fun d hd => by
      obtain ⟨k, hk, rfl⟩ := List.mem_map.mp hd
      have := List.mem_range.mp hk
      exact ⟨_, rfl, by omega, by omega⟩, trivial, none, none, none, rfl⟩
  refine ⟨[], M', ?_⟩
  simp only [Int.zero_add] at e6
  simp [g_law, m_law, em, ex, es, e6]
end DL

end
section
namespace DL
open PySem PySem.Spec L2
/-! ### the text -/
def top (i : Nat) : Stmt := PySem.Challenge.pw_leastahead_k50_words_of_blocks.main.body.getD i (.Pass ⟨0, 0, 0, 0⟩)
structure Fx (mg : Str → Option Value) : Prop where
  n_abs : mg "abs" = none
  n_all : mg "all" = none
  n_int : mg "int" = none
  n_len : mg "len" = none
  n_max : mg "max" = none
  n_min : mg "min" = none
  n_range : mg "range" = none
  n_repr : mg "repr" = none
  n_tuple : mg "tuple" = none
variable {P : Program} {w : World} {K : KF} {mg : Str → Option Value} {base : Heap} {f : Addr} {fd : FuncData}
abbrev s__law_take : Stmt := top 4
theorem sc__law_take : FnScope ["_law_pot_here", "_law_many", "_law_digit", "_law_turn", "_law_prime", "_law_mixed"] ["_law_pot_here", "_law_many"] (defScope s__law_take) := ⟨rfl, rfl, rfl, by decide +kernel, rfl, by decide +kernel, by decide +kernel⟩
theorem ok__law_take (F : Fun K "_law_take" "_law_take" s__law_take f fd) (T : Fx mg) : FnG P w K mg base 1 f fd ["_law_pot_here", "_law_many"] (spG K 2 (mBody 4 m__law_take)) :=
  fnG (k := 0) F sc__law_take fun cdv A outer s H E hr hg => (qss_cons (qs_if (qt_c cd_gt (qe_ix (qe_name 0 (pv 0)) qe_int) qe_int (nomark _)) (qss_cons (qs_set (i := 2) sc__law_take.nd rfl (Or.inl rfl) (qe_mod (qe_ix (qe_name 0 (pv 0)) qe_int) (qe_name 1 (pv 1)))) (qss_cons (qs_asg (qe_div (qe_ix (qe_name 0 (pv 0)) qe_int) (qe_name 1 (pv 1))) (qg_store (qe_name 0 (pv 0)) qe_int)) (qss_one (qs_ret (qe_name 2 (pv 2)))))) qss_nil) (qss_cons (qs_asg (qe_add (qe_ix (qe_name 0 (pv 0)) qe_int) qe_int) (qg_store (qe_name 0 (pv 0)) qe_int)) (qss_cons (qs_set (i := 3) sc__law_take.nd rfl (Or.inl rfl) (qe_ix (qe_name 0 (pv 0)) qe_int)) (qss_cons (qs_set (i := 4) sc__law_take.nd rfl (Or.inl rfl) (qe_ix (qe_lst (qa_cons qe_int (qa_cons qe_int (qa_cons qe_int (qa_cons qe_int (qa_cons qe_int (qa_cons qe_int qa_nil))))))) (qe_mod (qe_name 3 (pv 3)) qe_int))) (qss_cons (qs_set (i := 5) sc__law_take.nd rfl (Or.inl rfl) (qe_mod (qe_pow (qe_add (qe_add (qe_ix (qe_name 0 (pv 0)) qe_int) (qe_mult (qe_mult qe_int (qe_name 3 (pv 3))) (qe_name 3 (pv 3)))) (qe_mult qe_int (qe_name 3 (pv 3)))) qe_int) (qe_name 4 (pv 4)))) (qss_one (qs_ret (qe_mod (qe_div (qe_mod (qe_mult (qe_name 5 (pv 5)) (qe_add (qe_mod (qe_name 5 (pv 5)) qe_int) (qe_mult qe_int (qe_name 3 (pv 3))))) qe_int) qe_int) (qe_name 1 (pv 1))))))))))
abbrev s_block_word : Stmt := top 1
theorem sc_block_word : FnScope ["block", "least", "first", "again", "last", "missing"] ["block", "least"] (defScope s_block_word) := ⟨rfl, rfl, rfl, by decide +kernel, rfl, by decide +kernel, by decide +kernel⟩
theorem ok_block_word (F : Fun K "block_word" "block_word" s_block_word f fd) (T : Fx mg) : FnG P w K mg base 1 f fd ["block", "least"] (spG K 2 (mBody 4 m_block_word)) :=
  fnG (k := 0) F sc_block_word fun cdv A outer s H E hr hg => (qss_cons (qs_asg (qe_name 0 (pv 0)) (qg_tup rfl (qgs_cons (qg_name (i := 2) sc_block_word.nd rfl (Or.inl rfl)) (qgs_cons (qg_name (i := 3) sc_block_word.nd rfl (Or.inl rfl)) (qgs_cons (qg_name (i := 4) sc_block_word.nd rfl (Or.inl rfl)) qgs_nil))))) (qss_cons (qs_set (i := 5) sc_block_word.nd rfl (Or.inl rfl) (qe_blt (call_max2 rfl) b_max mPl_noex rfl T.n_max boot_fn_max (qa_cons qe_int (qa_cons (qe_sub (qe_sub (qe_name 1 (pv 1)) (qe_blt call_len b_len mPl_noex rfl T.n_len boot_fn_len (qa_cons (qe_name 2 (pv 2)) qa_nil))) (qe_blt call_len b_len mPl_noex rfl T.n_len boot_fn_len (qa_cons (qe_name 4 (pv 4)) qa_nil))) qa_nil)))) (qss_one (qs_ret (qe_add (qe_add (qe_name 2 (pv 2)) (qe_mult (qe_name 3 (pv 3)) (qe_div (qe_sub (qe_add (qe_name 5 (pv 5)) (qe_blt call_len b_len mPl_noex rfl T.n_len boot_fn_len (qa_cons (qe_name 3 (pv 3)) qa_nil))) qe_int) (qe_blt call_len b_len mPl_noex rfl T.n_len boot_fn_len (qa_cons (qe_name 3 (pv 3)) qa_nil))))) (qe_name 4 (pv 4)))))))
abbrev s__law_word : Stmt := top 5
theorem sc__law_word : FnScope ["_law_pot_here", "_law_low", "_law_most", "_law_turn"] ["_law_pot_here", "_law_low", "_law_most"] (defScope s__law_word) := ⟨rfl, rfl, rfl, by decide +kernel, rfl, by decide +kernel, by decide +kernel⟩
theorem ok__law_word (F : Fun K "_law_word" "_law_word" s__law_word f fd) (T : Fx mg) (c__law_take : Cal P w K mg base 1 "_law_take" 2 g__law_take) : FnG P w K mg base 2 f fd ["_law_pot_here", "_law_low", "_law_most"] (spG K 3 (mBody 1 m__law_word)) :=
  fnG (k := 1) F sc__law_word fun cdv A outer s H E hr hg => (qss_one (qs_ret (qe_ty call_tuple_of b_tuple mBT_noex rfl T.n_tuple boot_ty_tuple (qa_cons (qe_lc (own := [("_law_turn", 3)]) rfl sc__law_word.nd (qi_range1 rfl T.n_range (qa_cons (qe_add (qe_name 1 (pv 1)) (qe_call (c__law_take.mono (by decide)) hr hg (takes_of rfl rfl rfl rfl) rfl (qa_cons (qe_frz (qe_name 0 (pv 0))) (qa_cons (qe_frz (qe_name 2 (pv 2))) qa_nil)) (len_cons (len_cons len_nil)))) qa_nil)) (blkOk_by (N := ["_law_pot_here", "_law_low", "_law_most", "_law_turn"]) (sc := defScope s__law_word) (by decide +kernel)) (fun _ _ _ _ _ => (qgw_name sc__law_word.nd rfl (by decide) (by first | exact Or.inl rfl | exact Or.inr rfl) (by first | exact Or.inr rfl | exact Or.inl rfl))) (fun _ _ _ _ _ => qts_nil) (fun _ _ _ _ _ => (qe_call (c__law_take.mono (by decide)) hr hg takes0 rfl (qa_cons (qe_frz (qe_name 0 (pv 0))) (qa_cons qe_int qa_nil)) (len_cons (len_cons len_nil))))) qa_nil))))
abbrev s__law_right : Stmt := top 6
theorem sc__law_right : FnScope ["_law_pot_here", "_law_piece", "_law_size", "_law_due", "_law_copies"] ["_law_pot_here"] (defScope s__law_right) := ⟨rfl, rfl, rfl, by decide +kernel, rfl, by decide +kernel, by decide +kernel⟩
theorem ok__law_right (F : Fun K "_law_right" "_law_right" s__law_right f fd) (T : Fx mg) (c__law_take : Cal P w K mg base 1 "_law_take" 2 g__law_take) (c_block_word : Cal P w K mg base 1 "block_word" 2 g_block_word) (c__law_word : Cal P w K mg base 2 "_law_word" 3 g__law_word) (k_block_word_1_0 : CalK P w K mg base 1 "block_word" 2 ["least", "block"] [1, 0] g_block_word) : FnG P w K mg base 3 f fd ["_law_pot_here"] (spG K 1 (mBody 4 m__law_right)) :=
  fnG (k := 2) F sc__law_right fun cdv A outer s H E hr hg => (qss_cons (qs_set (i := 1) sc__law_right.nd rfl (Or.inl rfl) (qe_tup (qa_cons (qe_frz (qe_call (c__law_word.mono (by decide)) hr hg (takes_of rfl rfl rfl rfl) rfl (qa_cons (qe_frz (qe_name 0 (pv 0))) (qa_cons qe_int (qa_cons qe_int qa_nil))) (len_cons (len_cons (len_cons len_nil))))) (qa_cons (qe_frz (qe_call (c__law_word.mono (by decide)) hr hg (takes_of rfl rfl rfl rfl) rfl (qa_cons (qe_frz (qe_name 0 (pv 0))) (qa_cons qe_int (qa_cons qe_int qa_nil))) (len_cons (len_cons (len_cons len_nil))))) (qa_cons (qe_frz (qe_call (c__law_word.mono (by decide)) hr hg (takes_of rfl rfl rfl rfl) rfl (qa_cons (qe_frz (qe_name 0 (pv 0))) (qa_cons qe_int (qa_cons qe_int qa_nil))) (len_cons (len_cons (len_cons len_nil))))) qa_nil))))) (qss_cons (qs_for (passes_of rfl) rfl (qi_seq (qe_tup (qa_cons qe_int (qa_cons qe_int (qa_cons (qe_frz (qe_add (qe_blt call_len b_len mPl_noex rfl T.n_len boot_fn_len (qa_cons (qe_ix (qe_name 1 (pv 1)) qe_int) qa_nil)) (qe_blt call_len b_len mPl_noex rfl T.n_len boot_fn_len (qa_cons (qe_ix (qe_name 1 (pv 1)) qe_int) qa_nil)))) (qa_cons (qe_frz (qe_call (c__law_take.mono (by decide)) hr hg (takes_of rfl rfl rfl rfl) rfl (qa_cons (qe_frz (qe_name 0 (pv 0))) (qa_cons qe_int qa_nil)) (len_cons (len_cons len_nil)))) (qa_cons (qe_frz (qe_call (c__law_take.mono (by decide)) hr hg (takes_of rfl rfl rfl rfl) rfl (qa_cons (qe_frz (qe_name 0 (pv 0))) (qa_cons qe_int qa_nil)) (len_cons (len_cons len_nil)))) (qa_cons qe_int qa_nil)))))))) (qg_name (i := 2) sc__law_right.nd rfl (Or.inl rfl)) (qss_cons (qs_set (i := 3) sc__law_right.nd rfl (Or.inl rfl) (qe_add (qe_ix (qe_name 1 (pv 1)) qe_int) (qe_ix (qe_name 1 (pv 1)) qe_int))) (qss_cons (qs_set (i := 4) sc__law_right.nd rfl (Or.inl rfl) qe_int) (qss_cons (qs_while 1000000 (passes_of rfl) (qt_c cd_lt (qe_blt call_len b_len mPl_noex rfl T.n_len boot_fn_len (qa_cons (qe_name 3 (pv 3)) qa_nil)) (qe_name 2 (pv 2)) (nomark _)) (qss_cons (qs_set (i := 4) sc__law_right.nd rfl (Or.inl rfl) (qe_add (qe_name 4 (pv 4)) qe_int)) (qss_one (qs_set (i := 3) sc__law_right.nd rfl (Or.inl rfl) (qe_add (qe_add (qe_ix (qe_name 1 (pv 1)) qe_int) (qe_mult (qe_ix (qe_name 1 (pv 1)) qe_int) (qe_name 4 (pv 4)))) (qe_ix (qe_name 1 (pv 1)) qe_int)))))) (qss_one (qs_if (qt_c (cd_ne hr) (qe_blt (call_repr hr hg) b_repr mPl_noex rfl T.n_repr boot_fn_repr (qa_cons (qe_lst (qa_cons (qe_frz (qe_call (c_block_word.mono (by decide)) hr hg (takes_of rfl rfl rfl rfl) rfl (qa_cons (qe_frz (qe_name 1 (pv 1))) (qa_cons (qe_frz (qe_name 2 (pv 2))) qa_nil)) (len_cons (len_cons len_nil)))) (qa_cons (qe_frz (qe_callK (k_block_word_1_0.mono (by decide)) hr hg (takes_of rfl rfl rfl rfl) rfl (qk_cons (qe_frz (qe_name 2 (pv 2))) (qk_cons (qe_frz (qe_name 1 (pv 1))) qk_nil)) (len_cons (len_cons len_nil)) (fun l hl => match l, hl with | [_, _], _ => rfl))) qa_nil))) qa_nil)) (qe_blt (call_repr hr hg) b_repr mPl_noex rfl T.n_repr boot_fn_repr (qa_cons (qe_lst (qa_cons (qe_frz (qe_name 3 (pv 3))) (qa_cons (qe_frz (qe_name 3 (pv 3))) qa_nil))) qa_nil)) (nomark _)) (qss_one (qs_ret qe_bool)) qss_nil)))))) (qss_one (qs_ret qe_bool))))
abbrev s__law_pot : Stmt := top 3
theorem sc__law_pot : FnScope ["_law_script", "_law_k", "_law_cell", "_law_own"] ["_law_script", "_law_k"] (defScope s__law_pot) := ⟨rfl, rfl, rfl, by decide +kernel, rfl, by decide +kernel, by decide +kernel⟩
theorem ok__law_pot (F : Fun K "_law_pot" "_law_pot" s__law_pot f fd) (T : Fx mg) : FnG P w K mg base 1 f fd ["_law_script", "_law_k"] (spG K 2 (mBody 2 m__law_pot)) :=
  fnG (k := 0) F sc__law_pot fun cdv A outer s H E hr hg => (qss_cons (qs_set (i := 2) sc__law_pot.nd rfl (Or.inl rfl) (qe_if (qt_c cd_lt (qe_name 1 (pv 1)) (qe_blt call_len b_scrLen mScrLen_noex rfl T.n_len boot_fn_len (qa_cons (qe_name 0 (pv 0)) qa_nil)) (nomark _)) (qe_scrIx (qe_name 0 (pv 0)) (qe_name 1 (pv 1))) (qe_add (qe_mult qe_int (qe_name 1 (pv 1))) qe_int))) (qss_cons (qs_set (i := 3) sc__law_pot.nd rfl (Or.inl rfl) (qe_mult (qe_mod (qe_blt call_abs b_abs mPl_noex rfl T.n_abs boot_fn_abs (qa_cons (qe_name 2 (pv 2)) qa_nil)) (qe_ty (call_int1.or call_int_str) b_int mPl_noex rfl T.n_int boot_ty_int (qa_cons (qe_add qe_str (qe_mult qe_str qe_int)) qa_nil))) (qe_ty (call_int1.or call_int_str) b_int mPl_noex rfl T.n_int boot_ty_int (qa_cons (qe_c cd_ge (qe_blt call_abs b_abs mPl_noex rfl T.n_abs boot_fn_abs (qa_cons (qe_name 2 (pv 2)) qa_nil)) (qe_pow qe_int qe_int) (nomark _)) qa_nil)))) (qss_one (qs_ret (qe_lst (qa_cons (qe_frz (qe_name 3 (pv 3))) (qa_cons (qe_frz (qe_mod (qe_mult (qe_add (qe_add (qe_mod (qe_name 2 (pv 2)) qe_int) (qe_mult (qe_mult qe_int (qe_name 1 (pv 1))) (qe_name 1 (pv 1)))) qe_int) qe_int) qe_int)) (qa_cons qe_int qa_nil))))))))
abbrev s_law : Stmt := top 7
theorem sc_law : FnScope ["_law_script", "_law_k", "_law_pot_here", "_law_turn"] ["_law_script"] (defScope s_law) := ⟨rfl, rfl, rfl, by decide +kernel, rfl, by decide +kernel, by decide +kernel⟩
theorem ok_law (F : Fun K "law" "law" s_law f fd) (T : Fx mg) (c__law_right : Cal P w K mg base 3 "_law_right" 1 g__law_right) (c__law_pot : Cal P w K mg base 1 "_law_pot" 2 g__law_pot) : FnG P w K mg base 4 f fd ["_law_script"] (spG K 1 (mBody 3 m_law)) :=
  fnG (k := 3) F sc_law fun cdv A outer s H E hr hg => (qss_cons (qs_for (passes_of rfl) rfl (qi_range1 rfl T.n_range (qa_cons (qe_blt (call_max2 rfl) b_max mPl_noex rfl T.n_max boot_fn_max (qa_cons qe_int (qa_cons (qe_blt (call_min2 rfl) b_min mPl_noex rfl T.n_min boot_fn_min (qa_cons qe_int (qa_cons (qe_blt call_len b_scrLen mScrLen_noex rfl T.n_len boot_fn_len (qa_cons (qe_name 0 (pv 0)) qa_nil)) qa_nil))) qa_nil))) qa_nil)) (qg_name (i := 1) sc_law.nd rfl (Or.inl rfl)) (qss_cons (qs_setC (i := 2) sc_law.nd rfl (Or.inr rfl) (qe_call (c__law_pot.mono (by decide)) hr hg (takes_of rfl rfl rfl rfl) rfl (qa_cons (qe_frz (qe_name 0 (pv 0))) (qa_cons (qe_frz (qe_name 1 (pv 1))) qa_nil)) (len_cons (len_cons len_nil)))) (qss_one (qs_if (qt_not (qt_val (qe_blt (cr_all rfl) b_all mPl_noex rfl T.n_all boot_fn_all (qa_cons (qe_lc (own := [("_law_turn", 3)]) rfl sc_law.nd (qi_range1 rfl T.n_range (qa_cons qe_int qa_nil)) (blkOk_by (N := ["_law_script", "_law_k", "_law_pot_here", "_law_turn"]) (sc := defScope s_law) (by decide +kernel)) (fun _ _ _ _ _ => (qgw_name sc_law.nd rfl (by decide) (by first | exact Or.inl rfl | exact Or.inr rfl) (by first | exact Or.inr rfl | exact Or.inl rfl))) (fun _ _ _ _ _ => qts_nil) (fun _ _ _ _ _ => (qe_call (c__law_right.mono (by decide)) hr hg takes0 rfl (qa_cons (qe_frz (qe_name 2 (pv 2))) qa_nil) (len_cons len_nil)))) qa_nil)))) (qss_one (qs_ret qe_bool)) qss_nil)))) (qss_one (qs_ret qe_bool)))
/-! ### the end -/
structure Std (K : KF) (mg : Str → Option Value) (x : Str) (st : Stmt) : Prop where
  ex : ∃ (f : Addr) (fd : FuncData), Fun K x x st f fd ∧ mg x = some (.ref f)
structure All (K : KF) (mg : Str → Option Value) : Prop where
  T : Fx mg
  d__law_take : Std K mg "_law_take" s__law_take
  d_block_word : Std K mg "block_word" s_block_word
  d__law_word : Std K mg "_law_word" s__law_word
  d__law_right : Std K mg "_law_right" s__law_right
  d__law_pot : Std K mg "_law_pot" s__law_pot
  d_law : Std K mg "law" s_law
theorem cal__law_take (D : All K mg) : Cal P w K mg base 1 "_law_take" 2 g__law_take := by
  obtain ⟨f, fd, F, hm⟩ := D.d__law_take.ex
  exact ⟨f, fd, ["_law_pot_here", "_law_many"], rfl, ok__law_take F D.T, hm, F.kp, F.binds fun _ _ _ _ _ _ us hl => match us, hl with | [_, _], _ => rfl⟩
theorem cal_block_word (D : All K mg) : Cal P w K mg base 1 "block_word" 2 g_block_word := by
  obtain ⟨f, fd, F, hm⟩ := D.d_block_word.ex
  exact ⟨f, fd, ["block", "least"], rfl, ok_block_word F D.T, hm, F.kp, F.binds fun _ _ _ _ _ _ us hl => match us, hl with | [_, _], _ => rfl⟩
theorem calk_block_word_1_0 (D : All K mg) : CalK P w K mg base 1 "block_word" 2 ["least", "block"] [1, 0] g_block_word := by
  obtain ⟨f, fd, F, hm⟩ := D.d_block_word.ex
  refine ⟨f, fd, ["block", "least"], rfl, ok_block_word F D.T, hm, F.kp, fun s ws hl => ?_⟩
  obtain ⟨oc, od, kV, doc, pm, an, cdv, ct, osl, rfl, lk, hcd⟩ := F.ex
  match ws, hl with
  | [w0, w1], _ => exact .of_eq (by first | rfl | with_unfolding_all rfl)
theorem cal__law_word (D : All K mg) : Cal P w K mg base 2 "_law_word" 3 g__law_word := by
  obtain ⟨f, fd, F, hm⟩ := D.d__law_word.ex
  exact ⟨f, fd, ["_law_pot_here", "_law_low", "_law_most"], rfl, ok__law_word F D.T (cal__law_take D), hm, F.kp, F.binds fun _ _ _ _ _ _ us hl => match us, hl with | [_, _, _], _ => rfl⟩
theorem cal__law_right (D : All K mg) : Cal P w K mg base 3 "_law_right" 1 g__law_right := by
  obtain ⟨f, fd, F, hm⟩ := D.d__law_right.ex
  exact ⟨f, fd, ["_law_pot_here"], rfl, ok__law_right F D.T (cal__law_take D) (cal_block_word D) (cal__law_word D) (calk_block_word_1_0 D), hm, F.kp, F.binds fun _ _ _ _ _ _ us hl => match us, hl with | [_], _ => rfl⟩
theorem cal__law_pot (D : All K mg) : Cal P w K mg base 1 "_law_pot" 2 g__law_pot := by
  obtain ⟨f, fd, F, hm⟩ := D.d__law_pot.ex
  exact ⟨f, fd, ["_law_script", "_law_k"], rfl, ok__law_pot F D.T, hm, F.kp, F.binds fun _ _ _ _ _ _ us hl => match us, hl with | [_, _], _ => rfl⟩
theorem law_fn (D : All K mg) {fa : Addr} (hfa : mg "law" = some (.ref fa)) : ∃ fd : FuncData, (∀ (s : Shared) (u : Value), BindsTo s fd ⟨[u], []⟩ [("_law_script", u)]) ∧ ∀ base : Heap, FnG P w K mg base 4 fa fd ["_law_script"] (spG K 1 g_law) := by
  obtain ⟨f, fd, F, hm⟩ := D.d_law.ex
  obtain rfl : f = fa := by
    rw [hm] at hfa; cases hfa; rfl
  refine ⟨fd, ?_, fun base => ok_law F D.T (cal__law_right D) (cal__law_pot D)⟩
  obtain ⟨oc, od, kV, doc, pm, an, cdv, ct, osl, rfl, lk, hcd⟩ := F.ex
  exact fun s u => .of_eq (by first | rfl | with_unfolding_all rfl)
theorem all_mk {K : KF} {h : Heap} {mg : Str → Option Value} (X : K.In h) (G : h.Ns mainGlobals mg)
    {f0 : Addr} {od0 an0 : Option Addr} {sl0 : Array (Option Value)} {oc0 kV0 dc0 pm0 cd0 ct0 : Value}
    (a0 : PySem.W.nsIn K mainGlobals "_law_take" = some (some (.ref f0))) (l0 : K.lookup f0 = some ⟨oc0, od0, .func (PySem.W.fnOf "_law_take" "_law_take" (defArgs s__law_take) (defBody s__law_take) (defScope s__law_take) .none kV0 dc0 pm0 an0 cd0 ct0), sl0⟩) (c0 : PySem.W.codeIn K cd0 "_law_take" = true) (k0 : PySem.W.keepIn K (.ref f0) = true)
    {f1 : Addr} {od1 an1 : Option Addr} {sl1 : Array (Option Value)} {oc1 kV1 dc1 pm1 cd1 ct1 : Value}
    (a1 : PySem.W.nsIn K mainGlobals "block_word" = some (some (.ref f1))) (l1 : K.lookup f1 = some ⟨oc1, od1, .func (PySem.W.fnOf "block_word" "block_word" (defArgs s_block_word) (defBody s_block_word) (defScope s_block_word) .none kV1 dc1 pm1 an1 cd1 ct1), sl1⟩) (c1 : PySem.W.codeIn K cd1 "block_word" = true) (k1 : PySem.W.keepIn K (.ref f1) = true)
    {f2 : Addr} {od2 an2 : Option Addr} {sl2 : Array (Option Value)} {oc2 kV2 dc2 pm2 cd2 ct2 : Value}
    (a2 : PySem.W.nsIn K mainGlobals "_law_word" = some (some (.ref f2))) (l2 : K.lookup f2 = some ⟨oc2, od2, .func (PySem.W.fnOf "_law_word" "_law_word" (defArgs s__law_word) (defBody s__law_word) (defScope s__law_word) .none kV2 dc2 pm2 an2 cd2 ct2), sl2⟩) (c2 : PySem.W.codeIn K cd2 "_law_word" = true) (k2 : PySem.W.keepIn K (.ref f2) = true)
    {f3 : Addr} {od3 an3 : Option Addr} {sl3 : Array (Option Value)} {oc3 kV3 dc3 pm3 cd3 ct3 : Value}
    (a3 : PySem.W.nsIn K mainGlobals "_law_right" = some (some (.ref f3))) (l3 : K.lookup f3 = some ⟨oc3, od3, .func (PySem.W.fnOf "_law_right" "_law_right" (defArgs s__law_right) (defBody s__law_right) (defScope s__law_right) .none kV3 dc3 pm3 an3 cd3 ct3), sl3⟩) (c3 : PySem.W.codeIn K cd3 "_law_right" = true) (k3 : PySem.W.keepIn K (.ref f3) = true)
    {f4 : Addr} {od4 an4 : Option Addr} {sl4 : Array (Option Value)} {oc4 kV4 dc4 pm4 cd4 ct4 : Value}
    (a4 : PySem.W.nsIn K mainGlobals "_law_pot" = some (some (.ref f4))) (l4 : K.lookup f4 = some ⟨oc4, od4, .func (PySem.W.fnOf "_law_pot" "_law_pot" (defArgs s__law_pot) (defBody s__law_pot) (defScope s__law_pot) .none kV4 dc4 pm4 an4 cd4 ct4), sl4⟩) (c4 : PySem.W.codeIn K cd4 "_law_pot" = true) (k4 : PySem.W.keepIn K (.ref f4) = true)
    {f5 : Addr} {od5 an5 : Option Addr} {sl5 : Array (Option Value)} {oc5 kV5 dc5 pm5 cd5 ct5 : Value}
    (a5 : PySem.W.nsIn K mainGlobals "law" = some (some (.ref f5))) (l5 : K.lookup f5 = some ⟨oc5, od5, .func (PySem.W.fnOf "law" "law" (defArgs s_law) (defBody s_law) (defScope s_law) .none kV5 dc5 pm5 an5 cd5 ct5), sl5⟩) (c5 : PySem.W.codeIn K cd5 "law" = true) (k5 : PySem.W.keepIn K (.ref f5) = true)
    (z_abs : PySem.W.nsIn K mainGlobals "abs" = some none)
    (z_all : PySem.W.nsIn K mainGlobals "all" = some none)
    (z_int : PySem.W.nsIn K mainGlobals "int" = some none)
    (z_len : PySem.W.nsIn K mainGlobals "len" = some none)
    (z_max : PySem.W.nsIn K mainGlobals "max" = some none)
    (z_min : PySem.W.nsIn K mainGlobals "min" = some none)
    (z_range : PySem.W.nsIn K mainGlobals "range" = some none)
    (z_repr : PySem.W.nsIn K mainGlobals "repr" = some none)
    (z_tuple : PySem.W.nsIn K mainGlobals "tuple" = some none)
    : All K mg :=
  ⟨⟨PySem.W.mg_none_of X G z_abs, PySem.W.mg_none_of X G z_all, PySem.W.mg_none_of X G z_int, PySem.W.mg_none_of X G z_len, PySem.W.mg_none_of X G z_max, PySem.W.mg_none_of X G z_min, PySem.W.mg_none_of X G z_range, PySem.W.mg_none_of X G z_repr, PySem.W.mg_none_of X G z_tuple⟩, ⟨f0, _, fun_mk (st := s__law_take) l0 c0 k0, PySem.W.mg_of X G a0⟩, ⟨f1, _, fun_mk (st := s_block_word) l1 c1 k1, PySem.W.mg_of X G a1⟩, ⟨f2, _, fun_mk (st := s__law_word) l2 c2 k2, PySem.W.mg_of X G a2⟩, ⟨f3, _, fun_mk (st := s__law_right) l3 c3 k3, PySem.W.mg_of X G a3⟩, ⟨f4, _, fun_mk (st := s__law_pot) l4 c4 k4, PySem.W.mg_of X G a4⟩, ⟨f5, _, fun_mk (st := s_law) l5 c5 k5, PySem.W.mg_of X G a5⟩⟩
end DL
open PySem PySem.W PyProof.Rows in
set_option maxRecDepth 100000 in
set_option maxHeartbeats 0 in
theorem PySem.Challenge.cw_leastahead_k50_words_of_blocks_holds : PySem.Challenge.rw_leastahead_k50_words_of_blocks.Holds := by
  w_on; o_law; k_head; (case hw => w_witness2)
  k_fill
  refine DL.law_walk (l := PySem.Challenge.rw_leastahead_k50_words_of_blocks) (k := 4) (x := "_law_script") (g := fun _ => DL.g_law) rfl rfl ⟨rfl, by decide, by decide⟩ (fun w h Y => PySem.W.kIn_of Y) ?F fun w ns hn => DL.law_true ns hn
  case F =>
    intro w mg fa h KX G hmg
    suffices D : DL.All _ mg by
      obtain ⟨fd, hb, hF⟩ := DL.law_fn (P := PySem.Challenge.rw_leastahead_k50_words_of_blocks.prog) (w := w) D hmg
      exact ⟨fd, hb, fun base _ _ => hF base⟩
    refine' DL.all_mk KX G ?a0 ?l0 ?c0 ?k0 ?a1 ?l1 ?c1 ?k1 ?a2 ?l2 ?c2 ?k2 ?a3 ?l3 ?c3 ?k3 ?a4 ?l4 ?c4 ?k4 ?a5 ?l5 ?c5 ?k5 ?z_abs ?z_all ?z_int ?z_len ?z_max ?z_min ?z_range ?z_repr ?z_tuple
    (case a0 => k_is)
    (case l0 => k_is)
    (case c0 => k_is)
    (case k0 => k_is)
    (case a1 => k_is)
    (case l1 => k_is)
    (case c1 => k_is)
    (case k1 => k_is)
    (case a2 => k_is)
    (case l2 => k_is)
    (case c2 => k_is)
    (case k2 => k_is)
    (case a3 => k_is)
    (case l3 => k_is)
    (case c3 => k_is)
    (case k3 => k_is)
    (case a4 => k_is)
    (case l4 => k_is)
    (case c4 => k_is)
    (case k4 => k_is)
    (case a5 => k_is)
    (case l5 => k_is)
    (case c5 => k_is)
    (case k5 => k_is)
    (case z_abs => k_is)
    (case z_all => k_is)
    (case z_int => k_is)
    (case z_len => k_is)
    (case z_max => k_is)
    (case z_min => k_is)
    (case z_range => k_is)
    (case z_repr => k_is)
    (case z_tuple => k_is)
#print axioms PySem.Challenge.cw_leastahead_k50_words_of_blocks_holds

end
