import PyProof.Rows.All
import Wide.All
import OpenK.AllK
import Wide.FinOn
import HandS.ForMost
import HandS.TupAny
import HandS.Wide
import HandS.IsInst
import HandS.Style
import HandS.Deep
import HandS.WordsDict
import HandS.TupLen
import HandS.Conv
import HandS.WideBits
import HandS.SlotsOwn
import KE.SortData
import HandS.Sort
import KE.KDictPairs
import HandS.TupSets
import HandS.Zip
import HandS.EndBits
import HandS.Strs
import KE.GoesMore
import KE.DataMinMax
import KE.KRevSl
import PySem.Challenge.RW_allpatterns_k15_whole_neighbours_and_dis
set_option Elab.async false
set_option linter.all false
set_option maxRecDepth 100000
set_option maxHeartbeats 4000000
/-! ## SimA -/
/-! Sm, part A: data, worlds, what stands for what; the store; the invariant over the abstract heap. -/
namespace Sm
open PySem PySem.Spec PyProof.Rows L2

/-- data: tuples, lists, dicts, sets by what they hold; a family by its points and lots; ref: a place in the store -/
inductive D where
  | non | bl (b : Bool) | int (i : Int) | str (s : Str)
  | tup (xs : List D) | lst (xs : List D) | dct (t : Bool) (kvs : List (D × D)) | set (xs : List D)
  | fam (n : Int) (lots : D) | ref (n : Nat) | cls (c : String) | own (c : String) | scr (ns : List Int)

mutual
/-- no place of the store from k on is spoken of -/
def D.bel (k : Nat) : D → Bool
  | .tup xs => D.bels k xs
  | .lst xs => D.bels k xs
  | .set xs => D.bels k xs
  | .dct _ kvs => D.belK k kvs
  | .fam _ l => D.bel k l
  | .ref n => Nat.blt n k
  | _ => true
def D.bels (k : Nat) : List D → Bool
  | [] => true
  | d :: ds => D.bel k d && D.bels k ds
def D.belK (k : Nat) : List (D × D) → Bool
  | [] => true
  | p :: ds => D.belP k p && D.belK k ds
def D.belP (k : Nat) : D × D → Bool
  | (a, b) => D.bel k a && D.bel k b
end
/-- what stands at a place of the store -/
inductive Cell where
  | lst (xs : List D) | dct (t : Bool) (kvs : List (D × D)) | ins (c : String) (fs : List (Str × D))

def Cell.bel (k : Nat) : Cell → Bool
  | .lst xs => D.bels k xs
  | .dct _ kvs => D.belK k kvs
  | .ins _ fs => fs.all fun p => D.bel k p.2
abbrev Store := List Cell
abbrev Ev := List (Option D)

/-- a family's instance: its own dict, its looked dict, points, lots -/
structure FamI where
  dx : Addr
  lk : Addr
  n : Int
  lots : D
  lv : V

inductive Tag where
  | frz (o : HO) | box (n : Nat) | boxX (a : Addr) | fam (i : FamI) | famD (p : Addr) | tmp (o : HO)

abbrev TM := Addr → Option Tag

def keyD : Key → D
  | .inl i => .int i
  | .inr x => .str x

/-- what the program is about: the classes' addresses, what a family's dict may keep -/
structure Lb where
  cl : String → Addr
  ca : Str → Int → D → Option D
  kl : Addr → List Int → Prop

section
variable (L : Lb)
mutual
inductive Rep (T : TM) : V → D → Prop where
  | non : Rep T .non .non
  | bl (b : Bool) : Rep T (.bl b) (.bl b)
  | int (i : Int) : Rep T (.int i) (.int i)
  | str (s : Str) : Rep T (.str s) (.str s)
  | tup {a : Addr} {vs : List V} {ds : List D} : T a = some (.frz (.tup vs)) → vs.length ≤ sizeLine → Reps T vs ds → Rep T (.ref a) (.tup ds)
  | lst {a : Addr} {vs : List V} {ds : List D} : T a = some (.frz (.lst vs)) → vs.length ≤ sizeLine → Reps T vs ds → Rep T (.ref a) (.lst ds)
  | dctK {a : Addr} {ob : Obj} {kvs : List (Key × V)} {ds : List (D × D)} : T a = some (.frz (.frz ob (.dK kvs))) → kvs.length ≤ sizeLine → RepK T kvs ds → Rep T (.ref a) (.dct false ds)
  | dctT {a : Addr} {ob : Obj} {kvs : List (List Key × V)} {ds : List (D × D)} : T a = some (.frz (.frz ob (.dT kvs))) → kvs.length ≤ sizeLine → RepT T kvs ds → Rep T (.ref a) (.dct true ds)
  | fam {a : Addr} {i : FamI} : T a = some (.fam i) → Rep T (.ref a) (.fam i.n i.lots)
  | ref {a : Addr} {n : Nat} : T a = some (.box n) → Rep T (.ref a) (.ref n)
  | cls (n : String) : Rep T (.ty n) (.cls n)
  | own (c : String) : Rep T (.ref (L.cl c)) (.own c)
  | scr {a : Addr} {ns : List Int} : (∃ o, T a = some (.frz (.frz o (.lst (ns.map V.int))))) ∨ L.kl a ns → Rep T (.ref a) (.scr ns)
inductive Reps (T : TM) : List V → List D → Prop where
  | nil : Reps T [] []
  | cons {v : V} {vs : List V} {d : D} {ds : List D} : Rep T v d → Reps T vs ds → Reps T (v :: vs) (d :: ds)
inductive RepK (T : TM) : List (Key × V) → List (D × D) → Prop where
  | nil : RepK T [] []
  | cons {k : Key} {v : V} {kvs : List (Key × V)} {d : D} {ds : List (D × D)} : Rep T v d → RepK T kvs ds → RepK T ((k, v) :: kvs) ((keyD k, d) :: ds)
inductive RepT (T : TM) : List (List Key × V) → List (D × D) → Prop where
  | nil : RepT T [] []
  | cons {k : List Key} {v : V} {kvs : List (List Key × V)} {d : D} {ds : List (D × D)} : k.length ≤ sizeLine → Rep T v d → RepT T kvs ds → RepT T ((k, v) :: kvs) ((.tup (k.map keyD), d) :: ds)
end
inductive RepF (T : TM) : List (Str × V) → List (Str × D) → Prop where
  | nil : RepF T [] []
  | cons {k : Str} {v : V} {kvs : List (Str × V)} {d : D} {ds : List (Str × D)} : Rep L T v d → RepF T kvs ds → RepF T ((k, v) :: kvs) ((k, d) :: ds)
inductive RepE (T : TM) : L2.St → Ev → Prop where
  | nil : RepE T [] []
  | no {o : Option V} {σ : L2.St} {ρ : Ev} : RepE T σ ρ → RepE T (o :: σ) (none :: ρ)
  | cons {v : V} {σ : L2.St} {d : D} {ρ : Ev} : Rep L T v d → RepE T σ ρ → RepE T (some v :: σ) (some d :: ρ)
end

def TM.le (T T' : TM) : Prop := ∀ a t, T a = some t → T' a = some t
theorem TM.le.rfl {T : TM} : T.le T := fun _ _ h => h
theorem TM.le.trans {T T' T'' : TM} (h : T.le T') (h' : T'.le T'') : T.le T'' := fun a t e => h' a t (h a t e)
def TM.put (T : TM) (a : Addr) (t : Tag) : TM := fun b => if b = a then some t else T b
theorem TM.put_same {T : TM} {a : Addr} {t : Tag} : T.put a t a = some t := by simp [TM.put]
theorem TM.put_ne {T : TM} {a b : Addr} {t : Tag} (h : b ≠ a) : T.put a t b = T b := by simp [TM.put, h]
theorem TM.le_put {T : TM} {a : Addr} {t : Tag} (h : T a = none) : T.le (T.put a t) := fun b u e => by
  rw [TM.put_ne]
  · exact e
  · rintro rfl; rw [h] at e; cases e

/-- as le, but for what is in the making -/
def TM.leR (T T' : TM) : Prop := ∀ a t, T a = some t → (∀ o, t ≠ .tmp o) → T' a = some t
theorem TM.le.leR {T T' : TM} (h : T.le T') : T.leR T' := fun a t e _ => h a t e
theorem TM.leR.trans {T T' T'' : TM} (h : T.leR T') (h' : T'.leR T'') : T.leR T'' := fun a t e n => h' a t (h a t e n) n
section
variable {L : Lb} {T T' : TM}
mutual
theorem Rep.mono (h : T.leR T') : ∀ {v : V} {d : D}, Rep L T v d → Rep L T' v d
  | _, _, .non => .non
  | _, _, .bl b => .bl b
  | _, _, .int i => .int i
  | _, _, .str s => .str s
  | _, _, .tup e l r => .tup (h _ _ e (fun _ z => nomatch z)) l (Reps.mono h r)
  | _, _, .lst e l r => .lst (h _ _ e (fun _ z => nomatch z)) l (Reps.mono h r)
  | _, _, .dctK e l r => .dctK (h _ _ e (fun _ z => nomatch z)) l (RepK.mono h r)
  | _, _, .dctT e l r => .dctT (h _ _ e (fun _ z => nomatch z)) l (RepT.mono h r)
  | _, _, .fam e => .fam (h _ _ e (fun _ z => nomatch z))
  | _, _, .ref e => .ref (h _ _ e (fun _ z => nomatch z))
  | _, _, .cls n => .cls n
  | _, _, .own c => .own c
  | _, _, .scr e => .scr (e.imp (fun ⟨o, z⟩ => ⟨o, h _ _ z (fun _ z => nomatch z)⟩) fun z => z)
theorem Reps.mono (h : T.leR T') : ∀ {vs : List V} {ds : List D}, Reps L T vs ds → Reps L T' vs ds
  | _, _, .nil => .nil
  | _, _, .cons r t => .cons (Rep.mono h r) (Reps.mono h t)
theorem RepK.mono (h : T.leR T') : ∀ {vs : List (Key × V)} {ds : List (D × D)}, RepK L T vs ds → RepK L T' vs ds
  | _, _, .nil => .nil
  | _, _, .cons r t => .cons (Rep.mono h r) (RepK.mono h t)
theorem RepT.mono (h : T.leR T') : ∀ {vs : List (List Key × V)} {ds : List (D × D)}, RepT L T vs ds → RepT L T' vs ds
  | _, _, .nil => .nil
  | _, _, .cons l r t => .cons l (Rep.mono h r) (RepT.mono h t)
end
theorem RepF.mono (h : T.leR T') : ∀ {vs : List (Str × V)} {ds : List (Str × D)}, RepF L T vs ds → RepF L T' vs ds
  | _, _, .nil => .nil
  | _, _, .cons r t => .cons (r.mono h) (RepF.mono h t)
theorem RepE.mono (h : T.leR T') : ∀ {σ : L2.St} {ρ : Ev}, RepE L T σ ρ → RepE L T' σ ρ
  | _, _, .nil => .nil
  | _, _, .no t => .no (RepE.mono h t)
  | _, _, .cons r t => .cons (r.mono h) (RepE.mono h t)
theorem Reps.length : ∀ {vs : List V} {ds : List D}, Reps L T vs ds → vs.length = ds.length
  | _, _, .nil => rfl
  | _, _, .cons _ t => by simp [Reps.length t]
theorem Reps.append : ∀ {vs ws : List V} {ds es : List D}, Reps L T vs ds → Reps L T ws es → Reps L T (vs ++ ws) (ds ++ es)
  | _, _, _, _, .nil, s => s
  | _, _, _, _, .cons r t, s => .cons r (Reps.append t s)
theorem Reps.get : ∀ {vs : List V} {ds : List D} {i : Nat} {d : D}, Reps L T vs ds → ds[i]? = some d → ∃ v, vs[i]? = some v ∧ Rep L T v d
  | _, _, _, _, .nil, e => by simp at e
  | _, _, 0, _, .cons r _, e => by simp at e; subst e; exact ⟨_, rfl, r⟩
  | _, _, i + 1, _, .cons _ t, e => by
    obtain ⟨v, h1, h2⟩ := Reps.get (i := i) t (by simpa using e)
    exact ⟨v, by simpa using h1, h2⟩
theorem Reps.getV : ∀ {vs : List V} {ds : List D} {i : Nat} {v : V}, Reps L T vs ds → vs[i]? = some v → ∃ d, ds[i]? = some d ∧ Rep L T v d
  | _, _, _, _, .nil, e => by simp at e
  | _, _, 0, _, .cons r _, e => by simp at e; subst e; exact ⟨_, rfl, r⟩
  | _, _, i + 1, _, .cons _ t, e => by
    obtain ⟨v, h1, h2⟩ := Reps.getV (i := i) t (by simpa using e)
    exact ⟨v, by simpa using h1, h2⟩
theorem Reps.set {v : V} {d : D} (r : Rep L T v d) : ∀ {vs : List V} {ds : List D} (i : Nat), Reps L T vs ds → Reps L T (vs.set i v) (ds.set i d)
  | _, _, _, .nil => .nil
  | _, _, 0, .cons _ t => .cons r t
  | _, _, i + 1, .cons q t => .cons q (Reps.set r i t)
theorem Reps.take : ∀ {vs : List V} {ds : List D} (n : Nat), Reps L T vs ds → Reps L T (vs.take n) (ds.take n)
  | _, _, 0, _ => .nil
  | _, _, _ + 1, .nil => .nil
  | _, _, n + 1, .cons r t => .cons r (Reps.take n t)
theorem Reps.drop : ∀ {vs : List V} {ds : List D} (n : Nat), Reps L T vs ds → Reps L T (vs.drop n) (ds.drop n)
  | _, _, 0, r => r
  | _, _, _ + 1, .nil => .nil
  | _, _, n + 1, .cons _ t => Reps.drop n t
theorem RepE.get : ∀ {σ : L2.St} {ρ : Ev} {i : Nat} {d : D}, RepE L T σ ρ → ρ[i]? = some (some d) → ∃ v, σ[i]? = some (some v) ∧ Rep L T v d
  | _, _, _, _, .nil, e => by simp at e
  | _, _, 0, _, .no _, e => by simp at e
  | _, _, 0, _, .cons r _, e => by simp at e; subst e; exact ⟨_, rfl, r⟩
  | _, _, i + 1, _, .no t, e => by
    obtain ⟨v, h1, h2⟩ := RepE.get (i := i) t (by simpa using e)
    exact ⟨v, by simpa using h1, h2⟩
  | _, _, i + 1, _, .cons _ t, e => by
    obtain ⟨v, h1, h2⟩ := RepE.get (i := i) t (by simpa using e)
    exact ⟨v, by simpa using h1, h2⟩
theorem RepE.set {v : V} {d : D} (r : Rep L T v d) : ∀ {σ : L2.St} {ρ : Ev} (i : Nat), RepE L T σ ρ → RepE L T (σ.set i (some v)) (ρ.set i (some d))
  | _, _, _, .nil => .nil
  | _, _, 0, .no t => .cons r t
  | _, _, 0, .cons _ t => .cons r t
  | _, _, i + 1, .no t => .no (RepE.set r i t)
  | _, _, i + 1, .cons q t => .cons q (RepE.set r i t)
theorem RepE.wipe1 {o : Option V} : ∀ {σ : L2.St} {ρ : Ev} (i : Nat), RepE L T σ ρ → RepE L T (σ.set i o) (ρ.set i none)
  | _, _, _, .nil => .nil
  | _, _, 0, .no t => .no t
  | _, _, 0, .cons _ t => .no t
  | _, _, i + 1, .no t => .no (RepE.wipe1 i t)
  | _, _, i + 1, .cons q t => .cons q (RepE.wipe1 i t)
theorem RepE.nones {σ : L2.St} : RepE L T σ (List.replicate σ.length none) := by
  induction σ with
  | nil => exact .nil
  | cons o σ ih => exact .no ih
theorem RepE.start {vs : List V} {ds : List D} (n : Nat) (r : Reps L T vs ds) : RepE L T (vs.map some ++ List.replicate n none) (ds.map some ++ List.replicate n none) := by
  induction vs generalizing ds with
  | nil => cases r; simpa using (RepE.nones (L := L) (T := T) (σ := List.replicate n none))
  | cons v vs ih => cases r with | cons r t => exact .cons r (ih t)
end

/-! ### worlds -/
structure Wd where
  T : TM
  loc : Nat → Addr

def famFlds (i : FamI) : List (Str × V) := putF "looked" (.ref i.lk) (putF "lots" i.lv (putF "points" (.int i.n) []))

section
variable (L : Lb)
def CellOk (T : TM) (H : Hp) (a : Addr) : Cell → Prop
  | .lst xs => ∃ vs, H a = some (.lst vs) ∧ vs.length ≤ sizeLine ∧ Reps L T vs xs
  | .dct false kvs => ∃ vs, H a = some (.dK vs) ∧ vs.length ≤ sizeLine ∧ RepK L T vs kvs ∧ (vs.map (·.1)).Nodup
  | .dct true kvs => ∃ vs, H a = some (.dT vs) ∧ vs.length ≤ sizeLine ∧ RepT L T vs kvs ∧ (vs.map (·.1)).Nodup
  | .ins c fs => ∃ dx vs, H a = some (.ins (L.cl c) dx vs) ∧ T dx = some (.boxX a) ∧ vs.length ≤ 100 ∧ RepF L T vs fs

def cacheKeys : List Key := [.inr "sums", .inr "shattered", .inr "held", .inr "pairs"]
def missK (kvs : List (Key × V)) : List Key → Nat
  | [] => 0
  | k :: r => (if (valV kvs k).isSome = true then 0 else 1) + missK kvs r
def CacheLen (kvs : List (Key × V)) : Prop := kvs.length + missK kvs cacheKeys ≤ 4
def CacheOk (T : TM) (i : FamI) (kvs : List (Key × V)) : Prop :=
  ∀ k v, valV kvs k = some v → ∃ x d, k = Sum.inr x ∧ L.ca x i.n i.lots = some d ∧ Rep L T v d ∧ d.bel 0 = true

def TagOk (W : Wd) (st : Store) (H : Hp) (a : Addr) : Tag → Prop
  | .frz o => H a = some o
  | .box n => W.loc n = a ∧ ∃ c, st[n]? = some c ∧ CellOk L W.T H a c
  | .boxX b => H a = some (.own b)
  | .fam i => H a = some (.ins (L.cl "Family") i.dx (famFlds i)) ∧ W.T i.dx = some (.boxX a) ∧ W.T i.lk = some (.famD a) ∧ Rep L W.T i.lv i.lots ∧ i.lots.bel 0 = true
  | .tmp o => H a = some o ∧ ∀ xs, o ≠ .tup xs
  | .famD p => ∃ i, W.T p = some (.fam i) ∧ i.lk = a ∧ ∃ kvs, H a = some (.dK kvs) ∧ CacheLen kvs ∧ CacheOk L W.T i kvs

structure Ok (W : Wd) (st : Store) (H : Hp) : Prop where
  tag : ∀ a t, W.T a = some t → TagOk L W st H a t
  box : ∀ n, n < st.length → W.T (W.loc n) = some (.box n)
end

section
variable {L : Lb} {W W' : Wd} {st st' : Store} {H H' : Hp} {a b p : Addr} {o : HO} {t : Tag}
theorem TagOk.there (h : TagOk L W st H a t) : ∃ o, H a = some o := by
  cases t with
  | frz o => exact ⟨_, h⟩
  | box n =>
    obtain ⟨_, c, _, h⟩ := h
    match c, h with
    | .lst xs, ⟨_, e, _⟩ => exact ⟨_, e⟩
    | .dct false kvs, ⟨_, e, _⟩ => exact ⟨_, e⟩
    | .dct true kvs, ⟨_, e, _⟩ => exact ⟨_, e⟩
    | .ins c fs, ⟨_, _, e, _⟩ => exact ⟨_, e⟩
  | boxX b => exact ⟨_, h⟩
  | fam i => exact ⟨_, h.1⟩
  | tmp o => exact ⟨_, h.1⟩
  | famD p => obtain ⟨_, _, _, _, e, _⟩ := h; exact ⟨_, e⟩
theorem missK_le {kvs : List (Key × V)} {k : Key} {v : V} : ∀ ks, missK (putK kvs k v) ks ≤ missK kvs ks
  | [] => Nat.le_refl _
  | j :: r => by
    have := missK_le (kvs := kvs) (k := k) (v := v) r
    show (if (valV (putK kvs k v) j).isSome = true then 0 else 1) + missK (putK kvs k v) r ≤ (if (valV kvs j).isSome = true then 0 else 1) + missK kvs r
    rw [valV_put]
    by_cases h : j = k
    · rw [if_pos h]; simp; omega
    · rw [if_neg h]; omega
theorem missK_lt {kvs : List (Key × V)} {k : Key} {v : V} (hn : valV kvs k = none) : ∀ ks, k ∈ ks → missK (putK kvs k v) ks + 1 ≤ missK kvs ks
  | j :: r, h => by
    show (if (valV (putK kvs k v) j).isSome = true then 0 else 1) + missK (putK kvs k v) r + 1 ≤ (if (valV kvs j).isSome = true then 0 else 1) + missK kvs r
    rw [valV_put]
    by_cases e : j = k
    · have := missK_le (kvs := kvs) (k := k) (v := v) r
      rw [if_pos e, e, hn]; simp; omega
    · have := missK_lt (v := v) hn r (by rcases List.mem_cons.mp h with z | z; exact (e z.symm).elim; exact z)
      rw [if_neg e]; omega
theorem Ok.noT (k : Ok L W st H) (h : H p = Option.none) : W.T p = Option.none := by
  cases e : W.T p with
  | none => rfl
  | some t => obtain ⟨o, q⟩ := (k.tag p t e).there; rw [h] at q; cases q
theorem CellOk.mono {T T' : TM} {c : Cell} (h : CellOk L T H a c) (le : T.leR T') (e : H' a = H a) : CellOk L T' H' a c := by
  match c, h with
  | .lst xs, ⟨vs, h1, h2, h3⟩ => exact ⟨vs, e.trans h1, h2, h3.mono le⟩
  | .dct false kvs, ⟨vs, h1, h2, h3, h4⟩ => exact ⟨vs, e.trans h1, h2, h3.mono le, h4⟩
  | .dct true kvs, ⟨vs, h1, h2, h3, h4⟩ => exact ⟨vs, e.trans h1, h2, h3.mono le, h4⟩
  | .ins c fs, ⟨dx, vs, h1, h2, h3, h4⟩ => exact ⟨dx, vs, e.trans h1, le _ _ h2 (fun _ z => nomatch z), h3, h4.mono le⟩
/-- a tag stays right where its object stays -/
theorem TagOk.keep (h : TagOk L W st H a t) (le : W.T.leR W'.T) (hl : ∀ n c, t = .box n → st[n]? = some c → W'.loc n = W.loc n ∧ st'[n]? = some c) (e : H' a = H a) : TagOk L W' st' H' a t := by
  cases t with
  | frz o => exact e.trans h
  | box n =>
    obtain ⟨h1, c, h2, h3⟩ := h
    obtain ⟨q1, q2⟩ := hl n c rfl h2
    exact ⟨q1.trans h1, c, q2, h3.mono le e⟩
  | boxX b => exact e.trans h
  | fam i => exact ⟨e.trans h.1, le _ _ h.2.1 (fun _ z => nomatch z), le _ _ h.2.2.1 (fun _ z => nomatch z), h.2.2.2.1.mono le, h.2.2.2.2⟩
  | tmp o => exact ⟨e.trans h.1, h.2⟩
  | famD p =>
    obtain ⟨i, h1, h2, kvs, h3, h4, h5⟩ := h
    refine ⟨i, le _ _ h1 (fun _ z => nomatch z), h2, kvs, e.trans h3, h4, fun k v q => ?_⟩
    obtain ⟨x, d, e1, e2, e3, e4⟩ := h5 k v q
    exact ⟨x, d, e1, e2, e3.mono le, e4⟩
/-- a new thing that will never change -/
theorem Ok.frz (k : Ok L W st H) (h : H p = Option.none) : Ok L ⟨W.T.put p (.frz o), W.loc⟩ st (upd H p o) := by
  have hn := k.noT h
  refine ⟨fun a t e => ?_, fun n hn' => ?_⟩
  · by_cases ha : a = p
    · subst ha
      rw [show (⟨W.T.put a (.frz o), W.loc⟩ : Wd).T a = some (.frz o) from TM.put_same] at e
      cases e
      exact upd_same
    · have e : W.T a = some t := by rw [← TM.put_ne (T := W.T) (t := .frz o) ha]; exact e
      exact (k.tag a t e).keep (W' := ⟨W.T.put p (.frz o), W.loc⟩) (TM.le_put hn).leR (fun n c _ hc => ⟨rfl, hc⟩) (upd_ne ha)
  · exact TM.le_put hn _ _ (k.box n hn')
theorem Ok.le_frz (k : Ok L W st H) (h : H p = Option.none) : W.T.le (W.T.put p (.frz o)) := TM.le_put (k.noT h)
/-- a thing in the making -/
theorem Ok.tmp (k : Ok L W st H) (h : H p = Option.none) (ho : ∀ xs, o ≠ .tup xs) : Ok L ⟨W.T.put p (.tmp o), W.loc⟩ st (upd H p o) := by
  have hn := k.noT h
  refine ⟨fun a t e => ?_, fun n hn' => TM.le_put hn _ _ (k.box n hn')⟩
  by_cases ha : a = p
  · subst ha
    rw [show (⟨W.T.put a (.tmp o), W.loc⟩ : Wd).T a = some (.tmp o) from TM.put_same] at e
    cases e
    exact ⟨upd_same, ho⟩
  · have e : W.T a = some t := by rw [← TM.put_ne (T := W.T) (t := .tmp o) ha]; exact e
    exact (k.tag a t e).keep (W' := ⟨W.T.put p (.tmp o), W.loc⟩) (TM.le_put hn).leR (fun n c _ hc => ⟨rfl, hc⟩) (upd_ne ha)
theorem TM.leR_tmp {T : TM} {t : Tag} (h : T p = some (.tmp o)) : T.leR (T.put p t) := fun b u e n => by
  rw [TM.put_ne]
  · exact e
  · rintro rfl; rw [h] at e; cases e; exact (n _ rfl).elim
/-- a tuple that stands there -/
theorem Ok.seen {vs : List V} {ds : List D} (k : Ok L W st H) (h : H p = some (.tup vs)) (hz : vs.length ≤ sizeLine) (r : Reps L W.T vs ds) : ∃ W', W.T.le W'.T ∧ Ok L W' st H ∧ Rep L W'.T (.ref p) (.tup ds) := by
  cases e : W.T p with
  | some t =>
    have q := k.tag p t e
    refine ⟨W, TM.le.rfl, k, ?_⟩
    cases t with
    | frz o =>
      have q : H p = some o := q
      rw [h] at q; cases q
      exact .tup e hz r
    | box n =>
      obtain ⟨_, c, _, q⟩ := q
      match c, q with
      | .lst xs, ⟨_, q, _⟩ => rw [h] at q; cases q
      | .dct false kvs, ⟨_, q, _⟩ => rw [h] at q; cases q
      | .dct true kvs, ⟨_, q, _⟩ => rw [h] at q; cases q
      | .ins c fs, ⟨_, _, q, _⟩ => rw [h] at q; cases q
    | boxX b => have q : H p = _ := q; rw [h] at q; cases q
    | fam i => have q := q.1; rw [h] at q; cases q
    | famD b => obtain ⟨_, _, _, _, q, _⟩ := q; rw [h] at q; cases q
    | tmp o => obtain ⟨q, n⟩ := q; rw [h] at q; cases q; exact (n _ rfl).elim
  | none =>
    refine ⟨⟨W.T.put p (.frz (.tup vs)), W.loc⟩, TM.le_put e, ⟨fun a t e' => ?_, fun n hn => TM.le_put e _ _ (k.box n hn)⟩, .tup TM.put_same hz (r.mono (TM.le_put e).leR)⟩
    by_cases ha : a = p
    · subst ha
      rw [show (⟨W.T.put a (.frz (.tup vs)), W.loc⟩ : Wd).T a = some (.frz (.tup vs)) from TM.put_same] at e'
      cases e'
      exact h
    · have e2 : W.T a = some t := by rw [← TM.put_ne (T := W.T) (t := .frz (.tup vs)) ha]; exact e'
      exact (k.tag a t e2).keep (W' := ⟨W.T.put p (.frz (.tup vs)), W.loc⟩) (TM.le_put e).leR (fun n c _ hc => ⟨rfl, hc⟩) rfl
/-- it goes on -/
theorem Ok.retag {t : Tag} {o' : HO} (k : Ok L W st H) (h : W.T p = some (.tmp o)) (ht : TagOk L ⟨W.T.put p t, W.loc⟩ st (upd H p o') p t) : Ok L ⟨W.T.put p t, W.loc⟩ st (upd H p o') := by
  refine ⟨fun a u e => ?_, fun n hn' => ?_⟩
  · by_cases ha : a = p
    · subst ha
      rw [show (⟨W.T.put a t, W.loc⟩ : Wd).T a = some t from TM.put_same] at e
      cases e
      exact ht
    · have e : W.T a = some u := by rw [← TM.put_ne (T := W.T) (t := t) ha]; exact e
      exact (k.tag a u e).keep (W' := ⟨W.T.put p t, W.loc⟩) (TM.leR_tmp h) (fun n c _ hc => ⟨rfl, hc⟩) (upd_ne ha)
  · exact TM.leR_tmp h _ _ (k.box n hn') (fun _ z => nomatch z)
/-- the store changes at one place -/
theorem Ok.set {n : Nat} {c : Cell} (k : Ok L W st H) (h : W.T a = some (.box n)) (hc : CellOk L W.T (upd H a o) a c) : Ok L W (st.set n c) (upd H a o) := by
  have hk := k.tag a _ h
  obtain ⟨h1, c0, h2, h3⟩ := hk
  have hn : n < st.length := (List.getElem?_eq_some_iff.mp h2).1
  refine ⟨fun b t e => ?_, fun m hm => k.box m (by simpa using hm)⟩
  by_cases hb : b = a
  · subst hb
    rw [h] at e; cases e
    exact ⟨h1, c, by rw [List.getElem?_set_self hn], hc⟩
  · refine (k.tag b t e).keep TM.le.rfl.leR (fun m c' ht hm => ⟨rfl, ?_⟩) (upd_ne hb)
    subst ht
    have : m ≠ n := by
      rintro rfl
      obtain ⟨q, _⟩ := k.tag b _ e
      exact hb (q.symm.trans h1)
    rw [List.getElem?_set_ne (Ne.symm this)]
    exact hm
/-- a new place of the store -/
theorem Ok.push {c : Cell} (k : Ok L W st H) (h : H p = Option.none) (hc : CellOk L (W.T.put p (.box st.length)) (upd H p o) p c) :
    Ok L ⟨W.T.put p (.box st.length), fun n => if n = st.length then p else W.loc n⟩ (st ++ [c]) (upd H p o) := by
  have hn := k.noT h
  refine ⟨fun b t e => ?_, fun m hm => ?_⟩
  · by_cases hb : b = p
    · subst hb
      rw [show (⟨W.T.put b (.box st.length), fun n => if n = st.length then b else W.loc n⟩ : Wd).T b = some (.box st.length) from TM.put_same] at e
      cases e
      exact ⟨by simp, c, by simp, hc⟩
    · have e : W.T b = some t := by rw [← TM.put_ne (T := W.T) (t := .box st.length) hb]; exact e
      refine (k.tag b t e).keep (W' := ⟨W.T.put p (.box st.length), fun n => if n = st.length then p else W.loc n⟩) (TM.le_put hn).leR (fun m c' ht hm => ?_) (upd_ne hb)
      have hlt : m < st.length := (List.getElem?_eq_some_iff.mp hm).1
      exact ⟨by show (if m = st.length then p else W.loc m) = W.loc m; rw [if_neg (by omega)], by rw [List.getElem?_append_left hlt]; exact hm⟩
  · by_cases hm' : m = st.length
    · subst hm'
      show (W.T.put p (.box st.length)) (if st.length = st.length then p else W.loc st.length) = _
      rw [if_pos rfl, TM.put_same]
    · have hlt : m < st.length := by simp at hm; omega
      show (W.T.put p (.box st.length)) (if m = st.length then p else W.loc m) = _
      rw [if_neg hm']
      exact TM.le_put hn _ _ (k.box m hlt)
end
end Sm
/-! ## SimB -/
/-! Sm, part B: plain meanings, and the judgements: this piece of syntax does what this plain meaning says. -/
namespace Sm
open PySem PySem.Spec PyProof.Rows L2

/-! ### plain meanings -/
inductive Fl where
  | nx | ret (d : D) | bk | ct
abbrev ME := Ev → Store → Option (D × Store)
abbrev MT := Ev → Store → Option (Bool × Store)
abbrev MA := Ev → Store → Option (List D × Store)
abbrev MS := Ev → Store → Option (Fl × Ev × Store)
abbrev MG := D → Ev → Option Ev
/-- a def: its arguments, the store; what it returns, the store behind -/
abbrev Fn := List D → Store → Option (D × Store)

section
variable (L : Lb)
def tE (m : ME) : TE := fun σ H Q => ∃ W ρ st d st', RepE L W.T σ ρ ∧ Ok L W st H ∧ m ρ st = some (d, st') ∧ ∀ W' v H', W.T.le W'.T → Ok L W' st' H' → Rep L W'.T v d → Q v H'
def tT (m : MT) : TT := fun σ H Q => ∃ W ρ st b st', RepE L W.T σ ρ ∧ Ok L W st H ∧ m ρ st = some (b, st') ∧ ∀ W' H', W.T.le W'.T → Ok L W' st' H' → Q b H'
def tA (m : MA) : TA := fun σ H Q => ∃ W ρ st ds st', RepE L W.T σ ρ ∧ Ok L W st H ∧ m ρ st = some (ds, st') ∧ ∀ W' vs H', W.T.le W'.T → Ok L W' st' H' → Reps L W'.T vs ds → Q vs H'
def endS (D : Ends) (W : Wd) (st : Store) : Fl → Ev → Prop
  | .nx, ρ => ∀ W' σ H', W.T.le W'.T → Ok L W' st H' → RepE L W'.T σ ρ → D.nx σ H'
  | .ret d, _ => ∀ W' v H', W.T.le W'.T → Ok L W' st H' → Rep L W'.T v d → D.rt v H'
  | .bk, ρ => ∀ W' σ H', W.T.le W'.T → Ok L W' st H' → RepE L W'.T σ ρ → D.bk σ H'
  | .ct, ρ => ∀ W' σ H', W.T.le W'.T → Ok L W' st H' → RepE L W'.T σ ρ → D.ct σ H'
def tS (m : MS) : TS := fun D σ H => ∃ W ρ st f ρ' st', RepE L W.T σ ρ ∧ Ok L W st H ∧ m ρ st = some (f, ρ', st') ∧ endS L D W st' f ρ'
/-- slots outside vs are as they were -/
def Out (vs : List Nat) (σ σ' : L2.St) : Prop := σ'.length = σ.length ∧ ∀ j, j ∉ vs → σ'[j]? = σ[j]?
def tG (vs : List Nat) (m : MG) : TG := fun v σ H Q => ∃ W ρ st d ρ', RepE L W.T σ ρ ∧ Ok L W st H ∧ Rep L W.T v d ∧ m d ρ = some ρ' ∧ ∀ σ', RepE L W.T σ' ρ' → Out vs σ σ' → Q σ' H
/-- what a def promises -/
def spF (n : Nat) (F : Fn) : Sp := fun vs H Q _ => vs.length = n ∧ ∃ W st ds d st', Ok L W st H ∧ Reps L W.T vs ds ∧ F ds st = some (d, st') ∧ ∀ W' v H', W.T.le W'.T → Ok L W' st' H' → Rep L W'.T v d → Q v H'
/-- operators and built-ins, by what they are given -/
def r2 (f : Store → D → D → Option D) : R2 := fun x y H Q => ∃ W st d e r, Ok L W st H ∧ Rep L W.T x d ∧ Rep L W.T y e ∧ f st d e = some r ∧ ∀ W' v H', W.T.le W'.T → Ok L W' st H' → Rep L W'.T v r → Q v H'
def r1 (f : Store → D → Option D) : V → Hp → VK → Prop := fun x H Q => ∃ W st d r, Ok L W st H ∧ Rep L W.T x d ∧ f st d = some r ∧ ∀ W' v H', W.T.le W'.T → Ok L W' st H' → Rep L W'.T v r → Q v H'
def rc (f : Store → List D → Option D) : List V → Hp → VK → Prop := fun xs H Q => ∃ W st ds r, Ok L W st H ∧ Reps L W.T xs ds ∧ f st ds = some r ∧ ∀ W' v H', W.T.le W'.T → Ok L W' st H' → Rep L W'.T v r → Q v H'
/-- a method: it may change the store -/
def rm (f : Store → D → List D → Option (D × Store)) : V → List V → Hp → VK → Prop := fun x xs H Q => ∃ W st d ds r st', Ok L W st H ∧ Rep L W.T x d ∧ Reps L W.T xs ds ∧ f st d ds = some (r, st') ∧ ∀ W' v H', W.T.le W'.T → Ok L W' st' H' → Rep L W'.T v r → Q v H'
end

def gt : Ev → Nat → Option D
  | [], _ => none
  | o :: _, 0 => o
  | _ :: ρ, i + 1 => gt ρ i
theorem gt_some : ∀ {ρ : Ev} {i : Nat} {d : D}, gt ρ i = some d → ρ[i]? = some (some d)
  | [], _, _, h => by cases h
  | o :: _, 0, _, h => by simp only [gt] at h; simp [h]
  | _ :: ρ, i + 1, _, h => by simp only [gt] at h; simpa using gt_some h
namespace E
def var (i : Nat) : ME := fun ρ st => (gt ρ i).map fun d => (d, st)
def c (d : D) : ME := fun _ st => some (d, st)
def op1 (f : Store → D → Option D) (a : ME) : ME := fun ρ st => (a ρ st).bind fun p => (f p.2 p.1).map fun r => (r, p.2)
def op2 (f : Store → D → D → Option D) (a b : ME) : ME := fun ρ st => (a ρ st).bind fun p => (b ρ p.2).bind fun q => (f q.2 p.1 q.1).map fun r => (r, q.2)
def nilA : MA := fun _ st => some ([], st)
def consA (a : ME) (r : MA) : MA := fun ρ st => (a ρ st).bind fun p => (r ρ p.2).map fun q => (p.1 :: q.1, q.2)
def fn (f : Store → List D → Option D) (as : MA) : ME := fun ρ st => (as ρ st).bind fun p => (f p.2 p.1).map fun r => (r, p.2)
def call (F : Fn) (as : MA) : ME := fun ρ st => (as ρ st).bind fun p => F p.1 p.2
def mth (c : Store → D → Bool) (f : Store → D → List D → Option (D × Store)) (o : ME) (as : MA) : ME := fun ρ st => (o ρ st).bind fun p => if c p.2 p.1 = true then (as ρ p.2).bind fun q => f q.2 p.1 q.1 else none
def tup (as : MA) : ME := fun ρ st => (as ρ st).map fun p => (.tup p.1, p.2)
def lst (as : MA) : ME := fun ρ st => (as ρ st).map fun p => (.lst p.1, p.2)
/-- a list, a dict that will be changed: a place of the store -/
def lstB (as : MA) : ME := fun ρ st => (as ρ st).map fun p => (.ref p.2.length, p.2 ++ [.lst p.1])
def dctB (t : Bool) : ME := fun _ st => some (.ref st.length, st ++ [.dct t []])
def tv (a : ME) : MT := fun ρ st => (a ρ st).bind fun p => match p.1 with | .bl b => some (b, p.2) | _ => none
def andT (a b : MT) : MT := fun ρ st => (a ρ st).bind fun p => if p.1 then b ρ p.2 else some (false, p.2)
def orT (a b : MT) : MT := fun ρ st => (a ρ st).bind fun p => if p.1 then some (true, p.2) else b ρ p.2
def notT (a : MT) : MT := fun ρ st => (a ρ st).map fun p => (!p.1, p.2)
def andV (a b : ME) : ME := fun ρ st => (a ρ st).bind fun p => match p.1 with | .bl true => b ρ p.2 | .bl false => some (.bl false, p.2) | _ => none
def orV (a b : ME) : ME := fun ρ st => (a ρ st).bind fun p => match p.1 with | .bl false => b ρ p.2 | .bl true => some (.bl true, p.2) | _ => none
def notV (a : ME) : ME := fun ρ st => (a ρ st).bind fun p => match p.1 with | .bl b => some (.bl (!b), p.2) | _ => none
def ite (t : MT) (a b : ME) : ME := fun ρ st => (t ρ st).bind fun p => if p.1 then a ρ p.2 else b ρ p.2
/-- a op b op' c: b asked once -/
def chain (f g : Store → D → D → Option D) (a b e : ME) : ME := fun ρ st => (a ρ st).bind fun p => (b ρ p.2).bind fun q => (f q.2 p.1 q.1).bind fun r => match r with
  | .bl true => (e ρ q.2).bind fun z => (g z.2 q.1 z.1).map fun w => (w, z.2)
  | .bl false => some (.bl false, q.2)
  | _ => none
end E
namespace S
def seq (a b : MS) : MS := fun ρ st => (a ρ st).bind fun p => match p.1 with | .nx => b p.2.1 p.2.2 | f => some (f, p.2.1, p.2.2)
def skip : MS := fun ρ st => some (.nx, ρ, st)
def ret (a : ME) : MS := fun ρ st => (a ρ st).map fun p => (.ret p.1, ρ, p.2)
def retN : MS := fun ρ st => some (.ret .non, ρ, st)
def expr (a : ME) : MS := fun ρ st => (a ρ st).map fun p => (.nx, ρ, p.2)
def set (i : Nat) (a : ME) : MS := fun ρ st => (a ρ st).map fun p => (.nx, ρ.set i (some p.1), p.2)
def asg (g : MG) (a : ME) : MS := fun ρ st => (a ρ st).bind fun p => (g p.1 ρ).map fun ρ' => (.nx, ρ', p.2)
def ite (t : MT) (a b : MS) : MS := fun ρ st => (t ρ st).bind fun p => if p.1 then a ρ p.2 else b ρ p.2
def never : MS := fun _ _ => none
def brk : MS := fun ρ st => some (.bk, ρ, st)
def cont : MS := fun ρ st => some (.ct, ρ, st)
def par (i j : Nat) (as : MA) : MS := fun ρ st => (as ρ st).bind fun p => match p.1 with | [d, e] => some (.nx, (ρ.set i (some d)).set j (some e), p.2) | _ => none
end S
namespace G
def name (i : Nat) : MG := fun d ρ => some (ρ.set i (some d))
def nilT : List D → Ev → Option Ev := fun ds ρ => match ds with | [] => some ρ | _ => none
def consT (g : MG) (r : List D → Ev → Option Ev) : List D → Ev → Option Ev := fun ds ρ => match ds with | d :: t => (g d ρ).bind fun ρ' => r t ρ' | [] => none
def tup (r : List D → Ev → Option Ev) : MG := fun d ρ => match d with | .tup ds => r ds ρ | _ => none
end G

end Sm
namespace L2
open PySem PySem.Spec PyProof.Rows
/-! ### weakening -/
section
variable {X : Cx}
theorem PE.imp {e : Expr} {t t' : TE} (h : PE X e t) (i : ∀ σ H Q, t' σ H Q → t σ H Q) : PE X e t' := ⟨fun pins s σ H Q I q => h.run pins s σ H Q I (i _ _ _ q)⟩
theorem PT.imp {e : Expr} {t t' : TT} (h : PT X e t) (i : ∀ σ H Q, t' σ H Q → t σ H Q) : PT X e t' := ⟨fun pins s σ H Q I q => h.run pins s σ H Q I (i _ _ _ q)⟩
theorem PA.imp {e : List Expr} {t t' : TA} (h : PA X e t) (i : ∀ σ H Q, t' σ H Q → t σ H Q) : PA X e t' := ⟨fun pos pins s σ H Q I q => h.run pos pins s σ H Q I (i _ _ _ q)⟩
theorem PS.imp {e : Stmt} {t t' : TS} (h : PS X e t) (i : ∀ D σ H, t' D σ H → t D σ H) : PS X e t' := ⟨fun pins s σ H D I q => h.run pins s σ H D I (i _ _ _ q)⟩
theorem PSs.imp {e : List Stmt} {t t' : TS} (h : PSs X e t) (i : ∀ D σ H, t' D σ H → t D σ H) : PSs X e t' := ⟨fun pins s σ H D I q => h.run pins s σ H D I (i _ _ _ q)⟩
theorem PG.imp {e : Expr} {t t' : TG} (h : PG X e t) (i : ∀ v σ H Q, t' v σ H Q → t v σ H Q) : PG X e t' := ⟨fun pins s σ H v u Q I r q => h.run pins s σ H v u Q I r (i _ _ _ _ q)⟩
theorem PGs.imp {e : List Expr} {t t' : TGs} (h : PGs X e t) (i : ∀ v σ H Q, t' v σ H Q → t v σ H Q) : PGs X e t' := ⟨fun pins s σ H v u Q I r q => h.run pins s σ H v u Q I r (i _ _ _ _ q)⟩
theorem OpR.imp {f : Value → Value → Sem Value} {r r' : R2} (h : OpR X f r) (i : ∀ x y H Q, r' x y H Q → r x y H Q) : OpR X f r' := fun pins s σ H x y v u Q I a b q => h pins s σ H x y v u Q I a b (i _ _ _ _ q)
theorem PW.imp {e : Expr} {t t' : TT} (h : PW X e t) (i : ∀ σ H Q, t' σ H Q → t σ H Q) : PW X e t' := ⟨fun wh pins s σ H Q I q => h.run wh pins s σ H Q I (i _ _ _ q)⟩
theorem PI.imp {tg e : Expr} {t t' : TI} (h : PI X tg e t) (i : ∀ σ H Q, t' σ H Q → t σ H Q) : PI X tg e t' := ⟨fun pins s σ H Q I q => h.run pins s σ H Q I (i _ _ _ q)⟩
theorem CallR.imp {f : Value} {r r' : List V → Hp → VK → Prop} (h : CallR X f r) (i : ∀ xs H Q, r' xs H Q → r xs H Q) : CallR X f r' := fun pins s σ H x u Q I a q => h pins s σ H x u Q I a (i _ _ _ q)
end

end L2
namespace Sm
open PySem PySem.Spec PyProof.Rows L2
section
variable {L : Lb} {X : Cx} {pos : Pos}

/-! ### expressions -/
theorem se_var (i : Nat) {x : Str} (hN : X.N[i]? = some x := by rfl) (hv : Vis X.env.scope x := by first | exact Or.inl rfl | exact Or.inr (Or.inl rfl) | exact Or.inr (Or.inr rfl))
    (hd : (x == ("__debug__" : Str)) = false := by decide) (hcd : (x == ("__classdict__" : Str)) = false := by decide) : PE X (.Name x pos) (tE L (E.var i)) := by
  refine (pe_var hN hv hd hcd).imp fun σ H Q => ?_
  rintro ⟨W, ρ, st, d, st', r, k, e, q⟩
  unfold E.var at e
  cases g : gt ρ i with
  | none => rw [g] at e; cases e
  | some d' =>
    rw [g] at e; cases e
    obtain ⟨v, h1, h2⟩ := r.get (gt_some g)
    exact ⟨v, h1, q W v H TM.le.rfl k h2⟩
theorem se_c {e : Expr} {v : V} {d : D} (h : PE X e (tC v)) (r : ∀ T, Rep L T v d) : PE X e (tE L (E.c d)) := by
  refine h.imp fun σ H Q => ?_
  rintro ⟨W, ρ, st, d', st', _, k, e, q⟩
  cases e
  exact q W v H TM.le.rfl k (r _)
theorem se_int {i j} : PE X (.Constant (.int i) j pos) (tE L (E.c (.int i))) := se_c pe_int fun _ => .int i
theorem se_bl {b j} : PE X (.Constant (.bool b) j pos) (tE L (E.c (.bl b))) := se_c pe_bl fun _ => .bl b
theorem se_non {j} : PE X (.Constant .none j pos) (tE L (E.c .non)) := se_c pe_non fun _ => .non
theorem se_str {x j} : PE X (.Constant (.str x) j pos) (tE L (E.c (.str x))) := se_c pe_str fun _ => .str x

theorem sa_nil : PA X [] (tA L E.nilA) := pa_nil.imp fun σ H Q => by
  rintro ⟨W, ρ, st, d, st', _, k, e, q⟩
  cases e
  exact q W [] H TM.le.rfl k .nil
theorem sa_cons {e : Expr} {es : List Expr} {m : ME} {r : MA} (he : PE X e (tE L m)) (hr : PA X es (tA L r)) (hs : starEach (e :: es) X.env = (false, eval e X.env) :: starEach es X.env := by rfl) : PA X (e :: es) (tA L (E.consA m r)) :=
  (pa_cons he hr hs).imp fun σ H Q => by
    rintro ⟨W, ρ, st, ds, st', re, k, e, q⟩
    unfold E.consA at e
    cases e1 : m ρ st with
    | none => rw [e1] at e; cases e
    | some p =>
      obtain ⟨d, st1⟩ := p
      rw [e1] at e
      cases e2 : r ρ st1 with
      | none => simp only [Option.bind_some, e2, Option.map_none] at e; cases e
      | some p2 =>
        obtain ⟨ds2, st2⟩ := p2
        simp only [Option.bind_some, e2, Option.map_some, Option.some.injEq, Prod.mk.injEq] at e
        obtain ⟨rfl, rfl⟩ := e
        exact ⟨W, ρ, st, d, st1, re, k, e1, fun W1 v H1 l1 k1 r1 => ⟨W1, ρ, st1, ds2, st2, re.mono l1.leR, k1, e2, fun W2 vs H2 l2 k2 r2 =>
          q W2 (v :: vs) H2 (l1.trans l2) k2 (.cons (r1.mono l2.leR) r2)⟩⟩

/-- the two of a row, told -/
theorem bind2 {α β γ : Type} {o : Option (α × Store)} {f : α → Store → Option (β × Store)} {z : β × Store} (h : (o.bind fun p => f p.1 p.2) = some z) : ∃ a st, o = some (a, st) ∧ f a st = some z := by
  cases o with
  | none => cases h
  | some p => exact ⟨p.1, p.2, rfl, h⟩
theorem se_op2 {f : Store → D → D → Option D} {op : Operator} {a b : Expr} {ma mb : ME} (ho : OpR X (binaryOp op) (r2 L f)) (ha : PE X a (tE L ma)) (hb : PE X b (tE L mb)) : PE X (.BinOp a op b pos) (tE L (E.op2 f ma mb)) :=
  (pe_op ho ha hb).imp fun σ H Q => by
    rintro ⟨W, ρ, st, d, st', re, k, e, q⟩
    obtain ⟨x, st1, e1, e⟩ := bind2 (γ := Unit) (f := fun x st1 => (mb ρ st1).bind fun q => (f q.2 x q.1).map fun r => (r, q.2)) e
    obtain ⟨y, st2, e2, e⟩ := bind2 (γ := Unit) (f := fun y st2 => (f st2 x y).map fun r => (r, st2)) e
    cases e3 : f st2 x y with
    | none => simp only [e3, Option.map_none] at e; cases e
    | some r =>
      simp only [e3, Option.map_some, Option.some.injEq, Prod.mk.injEq] at e
      obtain ⟨rfl, rfl⟩ := e
      exact ⟨W, ρ, st, x, st1, re, k, e1, fun W1 v H1 l1 k1 r1 => ⟨W1, ρ, st1, y, st2, re.mono l1.leR, k1, e2, fun W2 u H2 l2 k2 r2 =>
        ⟨W2, st2, x, y, r, k2, r1.mono l2.leR, r2, e3, fun W' v H' l' => q W' v H' ((l1.trans l2).trans l')⟩⟩⟩
theorem se_cmp {f : Store → D → D → Option D} {op : CmpOp} {a b : Expr} {ma mb : ME} (ho : OpR X (compareOp op) (r2 L f)) (ha : PE X a (tE L ma)) (hb : PE X b (tE L mb)) (hm : behindInMarks op b = false) : PE X (.Compare a [op] [b] pos) (tE L (E.op2 f ma mb)) :=
  (pe_cmpR ho ha hb hm).imp fun σ H Q => by
    rintro ⟨W, ρ, st, d, st', re, k, e, q⟩
    obtain ⟨x, st1, e1, e⟩ := bind2 (γ := Unit) (f := fun x st1 => (mb ρ st1).bind fun q => (f q.2 x q.1).map fun r => (r, q.2)) e
    obtain ⟨y, st2, e2, e⟩ := bind2 (γ := Unit) (f := fun y st2 => (f st2 x y).map fun r => (r, st2)) e
    cases e3 : f st2 x y with
    | none => simp only [e3, Option.map_none] at e; cases e
    | some r =>
      simp only [e3, Option.map_some, Option.some.injEq, Prod.mk.injEq] at e
      obtain ⟨rfl, rfl⟩ := e
      exact ⟨W, ρ, st, x, st1, re, k, e1, fun W1 v H1 l1 k1 r1 => ⟨W1, ρ, st1, y, st2, re.mono l1.leR, k1, e2, fun W2 u H2 l2 k2 r2 =>
        ⟨W2, st2, x, y, r, k2, r1.mono l2.leR, r2, e3, fun W' v H' l' => q W' v H' ((l1.trans l2).trans l')⟩⟩⟩
theorem se_ix {f : Store → D → D → Option D} {a b : Expr} {ma mb : ME} (ho : IxR X (r2 L f)) (ha : PE X a (tE L ma)) (hb : PE X b (tE L mb)) (hs : PlainIx b) : PE X (.Subscript a b pos) (tE L (E.op2 f ma mb)) :=
  (pe_ix ho ha hb hs).imp fun σ H Q => by
    rintro ⟨W, ρ, st, d, st', re, k, e, q⟩
    obtain ⟨x, st1, e1, e⟩ := bind2 (γ := Unit) (f := fun x st1 => (mb ρ st1).bind fun q => (f q.2 x q.1).map fun r => (r, q.2)) e
    obtain ⟨y, st2, e2, e⟩ := bind2 (γ := Unit) (f := fun y st2 => (f st2 x y).map fun r => (r, st2)) e
    cases e3 : f st2 x y with
    | none => simp only [e3, Option.map_none] at e; cases e
    | some r =>
      simp only [e3, Option.map_some, Option.some.injEq, Prod.mk.injEq] at e
      obtain ⟨rfl, rfl⟩ := e
      exact ⟨W, ρ, st, x, st1, re, k, e1, fun W1 v H1 l1 k1 r1 => ⟨W1, ρ, st1, y, st2, re.mono l1.leR, k1, e2, fun W2 u H2 l2 k2 r2 =>
        ⟨W2, st2, x, y, r, k2, r1.mono l2.leR, r2, e3, fun W' v H' l' => q W' v H' ((l1.trans l2).trans l')⟩⟩⟩
theorem se_op1 {f : Store → D → Option D} {op : UnaryOp} {a : Expr} {ma : ME} (ho : UnR X (unaryOp op) (r1 L f)) (ha : PE X a (tE L ma)) : PE X (.UnaryOp op a pos) (tE L (E.op1 f ma)) :=
  (pe_un ho ha).imp fun σ H Q => by
    rintro ⟨W, ρ, st, d, st', re, k, e, q⟩
    obtain ⟨x, st1, e1, e⟩ := bind2 (γ := Unit) (f := fun x st1 => (f st1 x).map fun r => (r, st1)) e
    cases e3 : f st1 x with
    | none => simp only [e3, Option.map_none] at e; cases e
    | some r =>
      simp only [e3, Option.map_some, Option.some.injEq, Prod.mk.injEq] at e
      obtain ⟨rfl, rfl⟩ := e
      exact ⟨W, ρ, st, x, st1, re, k, e1, fun W1 v H1 l1 k1 r1 => ⟨W1, st1, x, r, k1, r1, e3, fun W' v H' l' => q W' v H' (l1.trans l')⟩⟩
/-- a built-in's call -/
theorem fn_imp {f : Store → List D → Option D} {ma : MA} {σ : L2.St} {H : Hp} {Q : VK} (h : tE L (E.fn f ma) σ H Q) : tCB (rc L f) (tA L ma) σ H Q := by
  obtain ⟨W, ρ, st, d, st', re, k, e, q⟩ := h
  obtain ⟨x, st1, e1, e⟩ := bind2 (γ := Unit) (f := fun x st1 => (f st1 x).map fun r => (r, st1)) e
  cases e3 : f st1 x with
  | none => simp only [e3, Option.map_none] at e; cases e
  | some r =>
    simp only [e3, Option.map_some, Option.some.injEq, Prod.mk.injEq] at e
    obtain ⟨rfl, rfl⟩ := e
    exact ⟨W, ρ, st, x, st1, re, k, e1, fun W1 v H1 l1 k1 r1 => ⟨W1, st1, x, r, k1, r1, e3, fun W' v H' l' => q W' v H' (l1.trans l')⟩⟩
theorem se_callB {f : Store → List D → Option D} {x : Str} {p : Pos} {e : Expr} {es : List Expr} {id : String} {ma : MA} (hc : CallR X (.builtin id) (rc L f)) (hg : Gl X x) (hm : X.mg x = none) (hv : bootBuiltins x = some (.builtin id)) (ha : PA X (e :: es) (tA L ma)) (hn : x ≠ "__name__" := by decide) (hdb : (x == ("__debug__" : Str)) = false := by decide)
    (he : starEach (e :: es) X.env = (false, eval e X.env) :: starEach es X.env := by rfl) (hpl : (backTo pos (starEach es X.env)).any (·.1) = false := by rfl) : PE X (.Call (.Name x p) (e :: es) [] pos) (tE L (E.fn f ma)) :=
  (pe_callB hc hg hm hv ha hn hdb he hpl).imp fun _ _ _ h => fn_imp h
theorem se_callTy {f : Store → List D → Option D} {x : Str} {p : Pos} {e : Expr} {es : List Expr} {T : String} {ma : MA} (hc : CallR X (.type T) (rc L f)) (hg : Gl X x) (hm : X.mg x = none) (hv : bootBuiltins x = some (.type T)) (ha : PA X (e :: es) (tA L ma)) (hn : x ≠ "__name__" := by decide) (hdb : (x == ("__debug__" : Str)) = false := by decide)
    (he : starEach (e :: es) X.env = (false, eval e X.env) :: starEach es X.env := by rfl) (hpl : (backTo pos (starEach es X.env)).any (·.1) = false := by rfl) : PE X (.Call (.Name x p) (e :: es) [] pos) (tE L (E.fn f ma)) :=
  (pe_callTy hc hg hm hv ha hn hdb he hpl).imp fun _ _ _ h => fn_imp h
/-- a tuple, a list that is not changed -/
theorem se_tup {es : List Expr} {x1} {ma : MA} (h : PA X es (tA L ma)) (hz : es.length ≤ 1000) (hl : ∀ ρ st ds st', ma ρ st = some (ds, st') → ds.length = es.length) : PE X (.Tuple es x1 pos) (tE L (E.tup ma)) :=
  (pe_tup h).imp fun σ H Q => by
    rintro ⟨W, ρ, st, d, st', re, k, e, q⟩
    unfold E.tup at e
    cases e1 : ma ρ st with
    | none => rw [e1] at e; cases e
    | some p =>
      obtain ⟨ds, st1⟩ := p
      rw [e1] at e
      simp only [Option.map_some, Option.some.injEq, Prod.mk.injEq] at e
      obtain ⟨rfl, rfl⟩ := e
      refine ⟨W, ρ, st, ds, st1, re, k, e1, fun W1 vs H1 l1 k1 r1 => ?_⟩
      have hv : vs.length ≤ sizeLine := by rw [r1.length, hl _ _ _ _ e1]; exact Nat.le_trans hz (by decide)
      refine ⟨hv, fun p hp => ?_⟩
      exact q ⟨W1.T.put p (.frz (.tup vs)), W1.loc⟩ _ _ (l1.trans (k1.le_frz hp)) (k1.frz hp) (.tup TM.put_same hv (r1.mono (k1.le_frz hp).leR))
theorem se_lst {es : List Expr} {ma : MA} (h : PA X es (tA L ma)) (hz : es.length ≤ 1000) (hl : ∀ ρ st ds st', ma ρ st = some (ds, st') → ds.length = es.length) : PE X (.List es pos) (tE L (E.lst ma)) :=
  (pe_lst h).imp fun σ H Q => by
    rintro ⟨W, ρ, st, d, st', re, k, e, q⟩
    unfold E.lst at e
    cases e1 : ma ρ st with
    | none => rw [e1] at e; cases e
    | some p =>
      obtain ⟨ds, st1⟩ := p
      rw [e1] at e
      simp only [Option.map_some, Option.some.injEq, Prod.mk.injEq] at e
      obtain ⟨rfl, rfl⟩ := e
      refine ⟨W, ρ, st, ds, st1, re, k, e1, fun W1 vs H1 l1 k1 r1 => ?_⟩
      have hv : vs.length ≤ sizeLine := by rw [r1.length, hl _ _ _ _ e1]; exact Nat.le_trans hz (by decide)
      refine ⟨hv, fun p hp => ?_⟩
      exact q ⟨W1.T.put p (.frz (.lst vs)), W1.loc⟩ _ _ (l1.trans (k1.le_frz hp)) (k1.frz hp) (.lst TM.put_same hv (r1.mono (k1.le_frz hp).leR))
theorem se_lstB {es : List Expr} {ma : MA} (h : PA X es (tA L ma)) (hz : es.length ≤ 1000) (hl : ∀ ρ st ds st', ma ρ st = some (ds, st') → ds.length = es.length) : PE X (.List es pos) (tE L (E.lstB ma)) :=
  (pe_lst h).imp fun σ H Q => by
    rintro ⟨W, ρ, st, d, st', re, k, e, q⟩
    unfold E.lstB at e
    cases e1 : ma ρ st with
    | none => rw [e1] at e; cases e
    | some p =>
      obtain ⟨ds, st1⟩ := p
      rw [e1] at e
      simp only [Option.map_some, Option.some.injEq, Prod.mk.injEq] at e
      obtain ⟨rfl, rfl⟩ := e
      refine ⟨W, ρ, st, ds, st1, re, k, e1, fun W1 vs H1 l1 k1 r1 => ?_⟩
      have hv : vs.length ≤ sizeLine := by rw [r1.length, hl _ _ _ _ e1]; exact Nat.le_trans hz (by decide)
      refine ⟨hv, fun p hp => ?_⟩
      have le : W1.T.le (W1.T.put p (.box st1.length)) := TM.le_put (k1.noT hp)
      exact q ⟨W1.T.put p (.box st1.length), fun n => if n = st1.length then p else W1.loc n⟩ _ _ (l1.trans le) (k1.push hp ⟨vs, upd_same, hv, r1.mono le.leR⟩) (.ref TM.put_same)
theorem len_nilA {ρ : Ev} {st st' : Store} {ds : List D} (h : E.nilA ρ st = some (ds, st')) : ds.length = 0 := by cases h; rfl
theorem len_consA {m : ME} {r : MA} {n : Nat} (h : ∀ ρ st ds st', r ρ st = some (ds, st') → ds.length = n) : ∀ ρ st ds st', E.consA m r ρ st = some (ds, st') → ds.length = n + 1 := by
  intro ρ st ds st' e
  unfold E.consA at e
  cases e1 : m ρ st with
  | none => rw [e1] at e; cases e
  | some p =>
    rw [e1] at e
    cases e2 : r ρ p.2 with
    | none => simp only [Option.bind_some, e2, Option.map_none] at e; cases e
    | some p2 =>
      simp only [Option.bind_some, e2, Option.map_some, Option.some.injEq, Prod.mk.injEq] at e
      rw [← e.1, List.length_cons, h ρ p.2 p2.1 p2.2 e2]

/-! ### tests, and, or, not -/
theorem st_val {e : Expr} {m : ME} (h : PE X e (tE L m)) (he : ∀ whole, isTrue e X.env whole = (do let v ← whole; standAt e.pos; holding [v] (truthy v)) := by intro _; rfl) : PT X e (tT L (E.tv m)) :=
  (pt_val h he).imp fun σ H Q => by
    rintro ⟨W, ρ, st, d, st', re, k, e, q⟩
    obtain ⟨x, st1, e1, e⟩ := bind2 (γ := Unit) (f := fun (x : D) st1 => match x with | .bl b => some (b, st1) | _ => none) e
    cases x with
    | bl b =>
      cases e
      exact ⟨W, ρ, st, _, _, re, k, e1, fun W1 v H1 l1 k1 r1 => by cases r1; exact ⟨_, rfl, q W1 H1 l1 k1⟩⟩
    | _ => cases e
theorem st_cmp {f : Store → D → D → Option D} {op : CmpOp} {a b : Expr} {ma mb : ME} (ho : OpR X (compareOp op) (r2 L f)) (ha : PE X a (tE L ma)) (hb : PE X b (tE L mb)) (hm : behindInMarks op b = false) : PT X (.Compare a [op] [b] pos) (tT L (E.tv (E.op2 f ma mb))) :=
  (pt_cmpR ho ha hb hm).imp fun σ H Q => by
    rintro ⟨W, ρ, st, d, st', re, k, e, q⟩
    obtain ⟨z, st3, e0, e⟩ := bind2 (γ := Unit) (f := fun (x : D) st1 => match x with | .bl b => some (b, st1) | _ => none) e
    obtain ⟨x, st1, e1, e0⟩ := bind2 (γ := Unit) (f := fun x st1 => (mb ρ st1).bind fun q => (f q.2 x q.1).map fun r => (r, q.2)) e0
    obtain ⟨y, st2, e2, e0⟩ := bind2 (γ := Unit) (f := fun y st2 => (f st2 x y).map fun r => (r, st2)) e0
    cases e3 : f st2 x y with
    | none => simp only [e3, Option.map_none] at e0; cases e0
    | some r =>
      simp only [e3, Option.map_some, Option.some.injEq, Prod.mk.injEq] at e0
      obtain ⟨rfl, rfl⟩ := e0
      cases r with
      | bl b =>
        cases e
        exact ⟨W, ρ, st, x, st1, re, k, e1, fun W1 v H1 l1 k1 r1 => ⟨W1, ρ, st1, y, _, re.mono l1.leR, k1, e2, fun W2 u H2 l2 k2 r2 =>
          ⟨W2, _, x, y, _, k2, r1.mono l2.leR, r2, e3, fun W' v H' l' k' r' => by cases r'; exact ⟨_, rfl, q W' H' ((l1.trans l2).trans l') k'⟩⟩⟩⟩
      | _ => cases e
theorem sw_and1 {a : Expr} {ma : MT} (ha : PT X a (tT L ma)) : PW X (.BoolOp .And [a] pos) (tT L ma) := pw_and1 ha
theorem sw_or1 {a : Expr} {ma : MT} (ha : PT X a (tT L ma)) : PW X (.BoolOp .Or [a] pos) (tT L ma) := pw_or1 ha
theorem sw_and {a b : Expr} {rest : List Expr} {ma mb : MT} (ha : PT X a (tT L ma)) (hb : PW X (.BoolOp .And (b :: rest) pos) (tT L mb)) : PW X (.BoolOp .And (a :: b :: rest) pos) (tT L (E.andT ma mb)) :=
  PW.imp (pw_and ha hb) fun σ H Q => by
    rintro ⟨W, ρ, st, d, st', re, k, e, q⟩
    obtain ⟨x, st1, e1, e⟩ := bind2 (γ := Unit) (f := fun (x : Bool) st1 => if x then mb ρ st1 else some (false, st1)) e
    refine ⟨W, ρ, st, x, st1, re, k, e1, fun W1 H1 l1 k1 => ?_⟩
    cases x with
    | true => rw [if_pos rfl] at e ⊢; exact ⟨W1, ρ, st1, d, st', re.mono l1.leR, k1, e, fun W' H' l' => q W' H' (l1.trans l')⟩
    | false => rw [if_neg (by decide)] at e ⊢; cases e; exact q W1 H1 l1 k1
theorem sw_or {a b : Expr} {rest : List Expr} {ma mb : MT} (ha : PT X a (tT L ma)) (hb : PW X (.BoolOp .Or (b :: rest) pos) (tT L mb)) : PW X (.BoolOp .Or (a :: b :: rest) pos) (tT L (E.orT ma mb)) :=
  PW.imp (pw_or ha hb) fun σ H Q => by
    rintro ⟨W, ρ, st, d, st', re, k, e, q⟩
    obtain ⟨x, st1, e1, e⟩ := bind2 (γ := Unit) (f := fun (x : Bool) st1 => if x then some (true, st1) else mb ρ st1) e
    refine ⟨W, ρ, st, x, st1, re, k, e1, fun W1 H1 l1 k1 => ?_⟩
    cases x with
    | false => rw [if_neg (by decide)] at e ⊢; exact ⟨W1, ρ, st1, d, st', re.mono l1.leR, k1, e, fun W' H' l' => q W' H' (l1.trans l')⟩
    | true => rw [if_pos rfl] at e ⊢; cases e; exact q W1 H1 l1 k1
theorem st_not {a : Expr} {ma : MT} (ha : PT X a (tT L ma)) : PT X (.UnaryOp .Not a pos) (tT L (E.notT ma)) :=
  (pt_not ha).imp fun σ H Q => by
    rintro ⟨W, ρ, st, d, st', re, k, e, q⟩
    unfold E.notT at e
    cases e1 : ma ρ st with
    | none => rw [e1] at e; cases e
    | some p =>
      obtain ⟨b, st1⟩ := p
      rw [e1] at e
      simp only [Option.map_some, Option.some.injEq, Prod.mk.injEq] at e
      obtain ⟨rfl, rfl⟩ := e
      exact ⟨W, ρ, st, b, _, re, k, e1, q⟩
theorem se_one {op} {a : Expr} {m : ME} (h : PE X a (tE L m)) : PE X (.BoolOp op [a] pos) (tE L m) := pe_one h
theorem se_and {a b : Expr} {rest : List Expr} {ma mb : ME} (ha : PE X a (tE L ma)) (hb : PE X (.BoolOp .And (b :: rest) pos) (tE L mb)) : PE X (.BoolOp .And (a :: b :: rest) pos) (tE L (E.andV ma mb)) :=
  (pe_and ha hb).imp fun σ H Q => by
    rintro ⟨W, ρ, st, d, st', re, k, e, q⟩
    obtain ⟨x, st1, e1, e⟩ := bind2 (γ := Unit) (f := fun (x : D) st1 => match x with | .bl true => mb ρ st1 | .bl false => some (.bl false, st1) | _ => none) e
    refine ⟨W, ρ, st, x, st1, re, k, e1, fun W1 v H1 l1 k1 r1 => ?_⟩
    match x, r1, e with
    | .bl true, .bl _, e => exact ⟨true, rfl, by rw [if_pos rfl]; exact ⟨W1, ρ, st1, d, st', re.mono l1.leR, k1, e, fun W' v H' l' => q W' v H' (l1.trans l')⟩⟩
    | .bl false, .bl _, e => cases e; exact ⟨false, rfl, by rw [if_neg (by decide)]; exact q W1 _ H1 l1 k1 (.bl _)⟩
theorem se_or {a b : Expr} {rest : List Expr} {ma mb : ME} (ha : PE X a (tE L ma)) (hb : PE X (.BoolOp .Or (b :: rest) pos) (tE L mb)) : PE X (.BoolOp .Or (a :: b :: rest) pos) (tE L (E.orV ma mb)) :=
  (pe_or ha hb).imp fun σ H Q => by
    rintro ⟨W, ρ, st, d, st', re, k, e, q⟩
    obtain ⟨x, st1, e1, e⟩ := bind2 (γ := Unit) (f := fun (x : D) st1 => match x with | .bl false => mb ρ st1 | .bl true => some (.bl true, st1) | _ => none) e
    refine ⟨W, ρ, st, x, st1, re, k, e1, fun W1 v H1 l1 k1 r1 => ?_⟩
    match x, r1, e with
    | .bl false, .bl _, e => exact ⟨false, rfl, by rw [if_neg (by decide)]; exact ⟨W1, ρ, st1, d, st', re.mono l1.leR, k1, e, fun W' v H' l' => q W' v H' (l1.trans l')⟩⟩
    | .bl true, .bl _, e => cases e; exact ⟨true, rfl, by rw [if_pos rfl]; exact q W1 _ H1 l1 k1 (.bl _)⟩
theorem se_not {a : Expr} {ma : ME} (ha : PE X a (tE L ma)) : PE X (.UnaryOp .Not a pos) (tE L (E.notV ma)) :=
  (pe_not ha).imp fun σ H Q => by
    rintro ⟨W, ρ, st, d, st', re, k, e, q⟩
    obtain ⟨x, st1, e1, e⟩ := bind2 (γ := Unit) (f := fun (x : D) st1 => match x with | .bl b => some (D.bl (!b), st1) | _ => none) e
    refine ⟨W, ρ, st, x, st1, re, k, e1, fun W1 v H1 l1 k1 r1 => ?_⟩
    match x, r1, e with
    | .bl b, .bl _, e => cases e; exact ⟨b, rfl, q W1 _ H1 l1 k1 (.bl _)⟩
theorem se_ite {c a b : Expr} {mt : MT} {ma mb : ME} (hc : PT X c (tT L mt)) (ha : PE X a (tE L ma)) (hb : PE X b (tE L mb)) : PE X (.IfExp c a b pos) (tE L (E.ite mt ma mb)) :=
  (pe_ifExp hc ha hb).imp fun σ H Q => by
    rintro ⟨W, ρ, st, d, st', re, k, e, q⟩
    obtain ⟨x, st1, e1, e⟩ := bind2 (γ := Unit) (f := fun (x : Bool) st1 => if x then ma ρ st1 else mb ρ st1) e
    refine ⟨W, ρ, st, x, st1, re, k, e1, fun W1 H1 l1 k1 => ?_⟩
    cases x with
    | true => rw [if_pos rfl] at e ⊢; exact ⟨W1, ρ, st1, d, st', re.mono l1.leR, k1, e, fun W' v H' l' => q W' v H' (l1.trans l')⟩
    | false => rw [if_neg (by decide)] at e ⊢; exact ⟨W1, ρ, st1, d, st', re.mono l1.leR, k1, e, fun W' v H' l' => q W' v H' (l1.trans l')⟩
theorem chain_imp {f g : Store → D → D → Option D} {ma mb mc : ME} {σ : L2.St} {H : Hp} {Q : VK} (h : tE L (E.chain f g ma mb mc) σ H Q) : tChain (r2 L f) (r2 L g) (tE L ma) (tE L mb) (tE L mc) σ H Q := by
  obtain ⟨W, ρ, st, d, st', re, k, e, q⟩ := h
  obtain ⟨x, st1, e1, e⟩ := bind2 (γ := Unit) (f := fun x st1 => (mb ρ st1).bind fun q => (f q.2 x q.1).bind fun r => match r with
    | .bl true => (mc ρ q.2).bind fun z => (g z.2 q.1 z.1).map fun w => (w, z.2)
    | .bl false => some (.bl false, q.2)
    | _ => none) e
  obtain ⟨y, st2, e2, e⟩ := bind2 (γ := Unit) (f := fun y st2 => (f st2 x y).bind fun r => match r with
    | .bl true => (mc ρ st2).bind fun z => (g z.2 y z.1).map fun w => (w, z.2)
    | .bl false => some (.bl false, st2)
    | _ => none) e
  cases e3 : f st2 x y with
  | none => simp only [e3, Option.bind_none] at e; cases e
  | some r =>
    simp only [e3, Option.bind_some] at e
    refine ⟨W, ρ, st, x, st1, re, k, e1, fun W1 v H1 l1 k1 rx => ⟨W1, ρ, st1, y, st2, re.mono l1.leR, k1, e2, fun W2 u H2 l2 k2 ry =>
        ⟨W2, st2, x, y, r, k2, rx.mono l2.leR, ry, e3, fun W3 w3 H3 l3 k3 r3 => ?_⟩⟩⟩
    match r, r3, e with
    | .bl false, .bl _, e => cases e; exact ⟨false, rfl, by rw [if_neg (by decide)]; exact q W3 _ H3 ((l1.trans l2).trans l3) k3 (.bl _)⟩
    | .bl true, .bl _, e =>
      obtain ⟨z, st4, e4, e⟩ := bind2 (γ := Unit) (f := fun z st4 => (g st4 y z).map fun w => (w, st4)) e
      cases e5 : g st4 y z with
      | none => simp only [e5, Option.map_none] at e; cases e
      | some r' =>
        simp only [e5, Option.map_some, Option.some.injEq, Prod.mk.injEq] at e
        obtain ⟨rfl, rfl⟩ := e
        exact ⟨true, rfl, by
          rw [if_pos rfl]
          exact ⟨W3, ρ, st2, z, st4, (re.mono l1.leR).mono (l2.trans l3).leR, k3, e4, fun W4 w4 H4 l4 k4 r4 => ⟨W4, st4, y, z, r', k4, ry.mono (l3.trans l4).leR, r4, e5,
            fun W' v H' l' => q W' v H' ((((l1.trans l2).trans l3).trans l4).trans l')⟩⟩⟩
theorem se_chain {f g : Store → D → D → Option D} {op op' : CmpOp} {a b c : Expr} {ma mb mc : ME} (ho : OpR X (compareOp op) (r2 L f)) (ho' : OpR X (compareOp op') (r2 L g)) (ha : PE X a (tE L ma)) (hb : PE X b (tE L mb)) (hc : PE X c (tE L mc))
    (hm : lastMarks [op, op'] [b, c] = false := by with_unfolding_all rfl) : PE X (.Compare a [op, op'] [b, c] pos) (tE L (E.chain f g ma mb mc)) :=
  (pe_chain ho ho' ha hb hc hm).imp fun _ _ _ h => chain_imp h
theorem st_chain {f g : Store → D → D → Option D} {op op' : CmpOp} {a b c : Expr} {ma mb mc : ME} (ho : OpR X (compareOp op) (r2 L f)) (ho' : OpR X (compareOp op') (r2 L g)) (ha : PE X a (tE L ma)) (hb : PE X b (tE L mb)) (hc : PE X c (tE L mc))
    (hm : lastMarks [op, op'] [b, c] = false := by with_unfolding_all rfl) : PT X (.Compare a [op, op'] [b, c] pos) (tT L (E.tv (E.chain f g ma mb mc))) :=
  (pt_chain ho ho' ha hb hc hm).imp fun σ H Q => by
    rintro ⟨W, ρ, st, d, st', re, k, e, q⟩
    obtain ⟨x, st1, e1, e⟩ := bind2 (γ := Unit) (f := fun (x : D) st1 => match x with | .bl b => some (b, st1) | _ => none) e
    refine chain_imp ⟨W, ρ, st, x, st1, re, k, e1, fun W' v H' l' k' r' => ?_⟩
    match x, r', e with
    | .bl bb, .bl _, e => cases e; exact ⟨_, rfl, q W' H' l' k'⟩

/-! ### calls of defs -/
/-- a def of the text, and what it does -/
structure Cal (P : Program) (w : World) (K : PySem.W.Frag) (mg : Str → Option Value) (base : Heap) (L : Lb) (x : Str) (ps : List Str) (k : Nat) (F : Fn) : Prop where
  ex : ∃ f fd, FnOk P w K mg base CX0 k f fd ps (spF L ps.length F) ∧ mg x = some (.ref f) ∧ PySem.W.keepIn K (.ref f) = true ∧ Binds K fd ps []
theorem call_imp {F : Fn} {n : Nat} {ma : MA} {σ : L2.St} {H : Hp} {Q : VK} (hl : ∀ ρ st ds st', ma ρ st = some (ds, st') → ds.length = n) (h : tE L (E.call F ma) σ H Q) : tCall (spF L n F) [] E0 (tA L ma) σ H Q := by
  obtain ⟨W, ρ, st, d, st', re, k, e, q⟩ := h
  obtain ⟨x, st1, e1, e⟩ := bind2 (γ := Unit) (f := fun x st1 => F x st1) e
  refine ⟨W, ρ, st, x, st1, re, k, e1, fun W1 v H1 l1 k1 r1 => ?_⟩
  show spF L n F (v ++ []) H1 Q E0
  rw [List.append_nil]
  exact ⟨by rw [r1.length]; exact hl _ _ _ _ e1, W1, st1, x, d, st', k1, r1, e, fun W' v H' l' => q W' v H' (l1.trans l')⟩
theorem se_call {x : Str} {p : Pos} {e : Expr} {es : List Expr} {ps : List Str} {k j : Nat} {F : Fn} {ma : MA} (C : Cal X.prog X.w X.K X.mg X.base L x ps k F) (hr : Room j X.A) (hk : k ≤ j) (hg : Gl X x) (ha : PA X (e :: es) (tA L ma))
    (hl : ∀ ρ st ds st', ma ρ st = some (ds, st') → ds.length = ps.length) (hd : (x == ("__debug__" : Str)) = false := by decide)
    (he : starEach (e :: es) X.env = (false, eval e X.env) :: starEach es X.env := by rfl) (hpl : (backTo pos (starEach es X.env)).any (·.1) = false := by rfl) : PE X (.Call (.Name x p) (e :: es) [] pos) (tE L (E.call F ma)) := by
  obtain ⟨f, fd, G, hm, kp, b⟩ := C.ex
  exact (pe_call (dvs := []) G (hr.mono hk) hg hm kp b .nil pass0 ha (hdb := hd) (he := he) (hpl := hpl)).imp fun _ _ _ h => call_imp hl h

/-! ### statements -/
theorem ss_nil : PSs X [] (tS L S.skip) := pss_nil.imp fun D σ H => by
  rintro ⟨W, ρ, st, f, ρ', st', re, k, e, q⟩
  cases e
  exact q W σ H TM.le.rfl k re
theorem endS_seq {D : Ends} {W W1 : Wd} {st : Store} {f : Fl} {ρ : Ev} (h : endS L D W st f ρ) (l : W.T.le W1.T) : endS L D W1 st f ρ := by
  cases f with
  | nx => exact fun W' σ H' l' => h W' σ H' (l.trans l')
  | ret d => exact fun W' σ H' l' => h W' σ H' (l.trans l')
  | bk => exact fun W' σ H' l' => h W' σ H' (l.trans l')
  | ct => exact fun W' σ H' l' => h W' σ H' (l.trans l')
theorem ss_cons {s : Stmt} {rest : List Stmt} {a b : MS} (h1 : PS X s (tS L a)) (h2 : PSs X rest (tS L b)) : PSs X (s :: rest) (tS L (S.seq a b)) :=
  (pss_cons h1 h2).imp fun D σ H => by
    rintro ⟨W, ρ, st, f, ρ', st', re, k, e, q⟩
    unfold S.seq at e
    cases e1 : a ρ st with
    | none => rw [e1] at e; cases e
    | some p =>
      obtain ⟨f1, ρ1, st1⟩ := p
      rw [e1] at e
      refine ⟨W, ρ, st, f1, ρ1, st1, re, k, e1, ?_⟩
      cases f1 with
      | nx => exact fun W1 σ1 H1 l1 k1 r1 => ⟨W1, ρ1, st1, f, ρ', st', r1, k1, e, endS_seq q l1⟩
      | ret d => cases e; exact q
      | bk => cases e; exact q
      | ct => cases e; exact q
theorem ss_one {s : Stmt} {a : MS} (h1 : PS X s (tS L a)) : PSs X [s] (tS L a) := pss_one h1
theorem s_ret {e : Expr} {m : ME} (he : PE X e (tE L m)) : PS X (.Return (some e) pos) (tS L (S.ret m)) :=
  (ps_ret he).imp fun D σ H => by
    rintro ⟨W, ρ, st, f, ρ', st', re, k, e, q⟩
    unfold S.ret at e
    cases e1 : m ρ st with
    | none => rw [e1] at e; cases e
    | some p =>
      rw [e1] at e; cases e
      exact ⟨W, ρ, st, p.1, p.2, re, k, e1, q⟩
theorem s_retN : PS X (.Return none pos) (tS L S.retN) := ps_retN.imp fun D σ H => by
  rintro ⟨W, ρ, st, f, ρ', st', re, k, e, q⟩
  cases e
  exact q W _ H TM.le.rfl k .non
theorem s_pass : PS X (.Pass pos) (tS L S.skip) := ps_pass.imp fun D σ H => by
  rintro ⟨W, ρ, st, f, ρ', st', re, k, e, q⟩
  cases e
  exact q W σ H TM.le.rfl k re
theorem s_expr {e : Expr} {m : ME} (he : PE X e (tE L m)) (hs : swapsWith e none pos.line X.env = pure false := by rfl) : PS X (.Expr e pos) (tS L (S.expr m)) :=
  (ps_expr he hs).imp fun D σ H => by
    rintro ⟨W, ρ, st, f, ρ', st', re, k, e, q⟩
    unfold S.expr at e
    cases e1 : m ρ st with
    | none => rw [e1] at e; cases e
    | some p =>
      rw [e1] at e; cases e
      exact ⟨W, ρ, st, p.1, p.2, re, k, e1, fun W1 v H1 l1 k1 r1 => q W1 σ H1 l1 k1 (re.mono l1.leR)⟩
theorem set_imp {i : Nat} {t : TE} {m : ME} (ht : ∀ σ H Q, tE L m σ H Q → t σ H Q) {D : Ends} {σ : L2.St} {H : Hp} (h : tS L (S.set i m) D σ H) : tAsg t (gName i) D σ H := by
  obtain ⟨W, ρ, st, f, ρ', st', re, k, e, q⟩ := h
  unfold S.set at e
  cases e1 : m ρ st with
  | none => rw [e1] at e; cases e
  | some p =>
    rw [e1] at e; cases e
    exact ht _ _ _ ⟨W, ρ, st, p.1, p.2, re, k, e1, fun W1 v H1 l1 k1 r1 => q W1 _ H1 l1 k1 ((re.mono l1.leR).set r1 i)⟩
theorem s_set {i : Nat} {x : Str} {e : Expr} {m : ME} {pos' : Pos} (hN : X.N.Nodup) (hi : X.N[i]? = some x) (hx : Loc X.env.scope x) (he : PE X e (tE L m)) (hs : swapsWith e (some (.Name x pos')) pos.line X.env = pure false := by rfl) (hf : X.fn x = true ∨ X.env.scope.names.lookup x = some .local := by first | exact .inl rfl | exact .inr rfl | assumption) :
    PS X (.Assign [.Name x pos'] e pos) (tS L (S.set i m)) := (ps_set hN hi hx he hs hf).imp fun D σ H h => set_imp (fun _ _ _ z => z) h
theorem s_asg {tg e : Expr} {m : ME} {g : MG} {vs : List Nat} (he : PE X e (tE L m)) (hg : PG X tg (tG L vs g)) (hs : swapsWithSole [tg] e pos.line X.env = pure false := by rfl) (hw : swappedStores [tg] e X.env = pure none := by rfl)
    (h1 : (assignEach [tg] X.env).map (·.2) = [assign tg X.env] := by rfl) : PS X (.Assign [tg] e pos) (tS L (S.asg g m)) :=
  (ps_asg he hg hs hw h1).imp fun D σ H => by
    rintro ⟨W, ρ, st, f, ρ', st', re, k, e, q⟩
    unfold S.asg at e
    cases e1 : m ρ st with
    | none => rw [e1] at e; cases e
    | some p =>
      rw [e1] at e
      cases e2 : g p.1 ρ with
      | none => simp only [Option.bind_some, e2, Option.map_none] at e; cases e
      | some ρ2 =>
        simp only [Option.bind_some, e2, Option.map_some] at e; cases e
        exact ⟨W, ρ, st, p.1, p.2, re, k, e1, fun W1 v H1 l1 k1 r1 => ⟨W1, ρ, p.2, p.1, ρ', re.mono l1.leR, k1, r1, e2, fun σ' r' _ => q W1 σ' H1 l1 k1 r'⟩⟩
theorem s_ite {c : Expr} {a b : List Stmt} {mt : MT} {ma mb : MS} (hc : PT X c (tT L mt)) (ha : PSs X a (tS L ma)) (hb : PSs X b (tS L mb)) : PS X (.If c a b pos) (tS L (S.ite mt ma mb)) :=
  (ps_if hc ha hb).imp fun D σ H => by
    rintro ⟨W, ρ, st, f, ρ', st', re, k, e, q⟩
    unfold S.ite at e
    cases e1 : mt ρ st with
    | none => rw [e1] at e; cases e
    | some p =>
      obtain ⟨x, st1⟩ := p
      rw [e1] at e
      refine ⟨W, ρ, st, x, st1, re, k, e1, fun W1 H1 l1 k1 => ?_⟩
      cases x with
      | true => rw [if_pos rfl]; exact ⟨W1, ρ, st1, f, ρ', st', re.mono l1.leR, k1, e, endS_seq q l1⟩
      | false => rw [if_neg (by decide)]; exact ⟨W1, ρ, st1, f, ρ', st', re.mono l1.leR, k1, e, endS_seq q l1⟩
theorem s_never {s : Stmt} : PS X s (tS L S.never) := ps_never.imp fun D σ H => by
  rintro ⟨W, ρ, st, f, ρ', st', re, k, e, q⟩
  cases e
theorem ss_never {s : List Stmt} : PSs X s (tS L S.never) := pss_never.imp fun D σ H => by
  rintro ⟨W, ρ, st, f, ρ', st', re, k, e, q⟩
  cases e
theorem s_cont : PS X (.Continue pos) (tS L S.cont) := ps_continue.imp fun D σ H => by
  rintro ⟨W, ρ, st, f, ρ', st', re, k, e, q⟩
  cases e
  exact q W σ H TM.le.rfl k re
theorem s_brk : PS X (.Break pos) (tS L S.brk) := ps_break.imp fun D σ H => by
  rintro ⟨W, ρ, st, f, ρ', st', re, k, e, q⟩
  cases e
  exact q W σ H TM.le.rfl k re
theorem s_par {i j : Nat} {x y : Str} {a b : Expr} {ma : MA} {px py pt : Pos} {kt k2 pt2} (hc : X.calm = true) (hN : X.N.Nodup) (hi : X.N[i]? = some x) (hj : X.N[j]? = some y) (hij : i ≠ j)
    (hx : X.env.scope.names.lookup x = some .local) (hy : X.env.scope.names.lookup y = some .local) (ha : PA X [a, b] (tA L ma))
    (hw : swappedStores [.Tuple [.Name x px, .Name y py] kt pt] (.Tuple [a, b] k2 pt2) X.env = pure (some [x, y]))
    (hs : swapsWithSole [.Tuple [.Name x px, .Name y py] kt pt] (.Tuple [a, b] k2 pt2) pos.line X.env = pure false := by rfl) :
    PS X (.Assign [.Tuple [.Name x px, .Name y py] kt pt] (.Tuple [a, b] k2 pt2) pos) (tS L (S.par i j ma)) :=
  (ps_par hc hN hi hj hij hx hy ha hw hs).imp fun D σ H => by
    rintro ⟨W, ρ, st, f, ρ', st', re, k, e, q⟩
    unfold S.par at e
    cases e1 : ma ρ st with
    | none => rw [e1] at e; cases e
    | some p =>
      obtain ⟨ds, st1⟩ := p
      rw [e1] at e
      simp only [Option.bind_some] at e
      match ds, e with
      | [d1, d2], e =>
        cases e
        refine ⟨W, ρ, st, _, _, re, k, e1, fun W1 vs H1 l1 k1 r1 => ?_⟩
        cases r1 with
        | cons q1 r1 =>
          cases r1 with
          | cons q2 r1 =>
            cases r1
            exact ⟨_, _, rfl, q W1 _ H1 l1 k1 (((re.mono l1.leR).set q1 i).set q2 j)⟩

/-! ### targets -/
theorem Out.set {σ : L2.St} {i : Nat} {o : Option V} : Out [i] σ (σ.set i o) := ⟨List.length_set, fun j hj => by
  rw [List.getElem?_set_ne (by simpa using Ne.symm (by simpa using hj))]⟩
theorem sg_name {i : Nat} {x : Str} (hN : X.N.Nodup) (hi : X.N[i]? = some x) (hx : Loc X.env.scope x) (hf : X.fn x = true ∨ X.env.scope.names.lookup x = some .local := by first | exact .inl rfl | exact .inr rfl | assumption) : PG X (.Name x pos) (tG L [i] (G.name i)) :=
  (pg_name hN hi hx hf).imp fun v σ H Q => by
    rintro ⟨W, ρ, st, d, ρ', re, k, r, e, q⟩
    cases e
    exact q _ (re.set r i) Out.set
def tGs (vs : List Nat) (m : List D → Ev → Option Ev) : TGs := fun v σ H Q => ∃ W ρ st ds ρ', RepE L W.T σ ρ ∧ Ok L W st H ∧ Reps L W.T v ds ∧ m ds ρ = some ρ' ∧ ∀ σ', RepE L W.T σ' ρ' → Out vs σ σ' → Q σ' H
theorem sgs_nil : PGs X [] (tGs (L := L) [] G.nilT) := pgs_nil.imp fun v σ H Q => by
  rintro ⟨W, ρ, st, d, ρ', re, k, r, e, q⟩
  cases r with
  | nil => cases e; exact ⟨rfl, q σ re ⟨rfl, fun _ _ => rfl⟩⟩
  | cons a b => cases e
theorem Out.trans {vs ws : List Nat} {a b c : L2.St} (h : Out vs a b) (h' : Out ws b c) : Out (vs ++ ws) a c := ⟨h'.1.trans h.1, fun j hj => by
  simp only [List.mem_append, not_or] at hj
  rw [h'.2 j hj.2, h.2 j hj.1]⟩
theorem sgs_cons {e : Expr} {es : List Expr} {vs ws : List Nat} {g : MG} {r : List D → Ev → Option Ev} (h1 : PG X e (tG L vs g)) (h2 : PGs X es (tGs (L := L) ws r))
    (hs : (assignEach (e :: es) X.env).map (·.2) = assign e X.env :: (assignEach es X.env).map (·.2) := by rfl) : PGs X (e :: es) (tGs (L := L) (vs ++ ws) (G.consT g r)) :=
  (pgs_cons h1 h2 hs).imp fun v σ H Q => by
    rintro ⟨W, ρ, st, d, ρ', re, k, rr, e, q⟩
    cases rr with
    | nil => cases e
    | @cons v vr d dr r1 r2 =>
      unfold G.consT at e
      cases e1 : g d ρ with
      | none => simp only [e1, Option.bind_none] at e; cases e
      | some ρ1 =>
        simp only [e1, Option.bind_some] at e
        exact ⟨v, vr, rfl, W, ρ, st, d, ρ1, re, k, r1, e1, fun σ1 re1 o1 => ⟨W, ρ1, st, dr, ρ', re1, k, r2, e, fun σ2 re2 o2 => q σ2 re2 (o1.trans o2)⟩⟩
theorem sg_tup {es : List Expr} {kk : Nat} {vs : List Nat} {r : List D → Ev → Option Ev} {n : Nat} (hc : X.calm = true) (h : PGs X es (tGs (L := L) vs r)) (hr : ∀ ds ρ ρ', r ds ρ = some ρ' → ds.length = n)
    (hn : (assignEach es X.env).length = n := by rfl) (hst : (assignEach es X.env).findIdx? (·.1) = none := by rfl) : PG X (.Tuple es kk pos) (tG L vs (G.tup r)) :=
  (pg_tup hc h hn hst).imp fun v σ H Q => by
    rintro ⟨W, ρ, st, d, ρ', re, k, rr, e, q⟩
    cases rr with
    | @tup a xs ds ha hz rs =>
      exact ⟨a, xs, rfl, SqT.of (k.tag a _ ha), by rw [rs.length]; exact hr _ _ _ e, W, ρ, st, ds, ρ', re, k, rs, e, q⟩
    | _ => cases e
theorem len_nilT {ds : List D} {ρ ρ' : Ev} (h : G.nilT ds ρ = some ρ') : ds.length = 0 := by
  cases ds with
  | nil => rfl
  | cons a b => cases h
theorem len_consT {g : MG} {r : List D → Ev → Option Ev} {n : Nat} (h : ∀ ds ρ ρ', r ds ρ = some ρ' → ds.length = n) : ∀ ds ρ ρ', G.consT g r ds ρ = some ρ' → ds.length = n + 1 := by
  intro ds ρ ρ' e
  cases ds with
  | nil => cases e
  | cons d t =>
    unfold G.consT at e
    cases e1 : g d ρ with
    | none => simp only [e1, Option.bind_none] at e; cases e
    | some ρ1 => simp only [e1, Option.bind_some] at e; rw [List.length_cons, h _ _ _ e]
end
end Sm
/-! ## SimC -/
/-! Sm, part C: what is walked; for; while; comprehensions; a def by its body. -/
namespace Sm
open PySem PySem.Spec PyProof.Rows L2

theorem bindP {α β : Type} {o : Option α} {f : α → Option β} {z : β} (h : o.bind f = some z) : ∃ p, o = some p ∧ f p = some z := by
  cases o with
  | none => cases h
  | some p => exact ⟨p, rfl, h⟩
abbrev MI := Ev → Store → Option (List D × Store)
/-- an iterator that yields what stands for xs, in every later world -/
structure Src (L : Lb) (W : Wd) (st₀ : Store → Prop) (J : It) (xs : List D) : Prop where
  go : ∀ W' st H i d, W.T.le W'.T → Ok L W' st H → st₀ st → xs[i]? = some d → J.go i H
  yld : ∀ W' st H i d x H', W.T.le W'.T → Ok L W' st H → st₀ st → xs[i]? = some d → J.yld i H x H' → ∃ W'', W'.T.le W''.T ∧ Ok L W'' st H' ∧ Rep L W''.T x d
  stop : ∀ W' st H i, W.T.le W'.T → Ok L W' st H → st₀ st → xs.length ≤ i → J.stop i H
theorem Src.mono {L : Lb} {W W' : Wd} {p : Store → Prop} {J : It} {xs : List D} (h : Src L W p J xs) (l : W.T.le W'.T) : Src L W' p J xs :=
  ⟨fun W2 st H i d l2 => h.go W2 st H i d (l.trans l2), fun W2 st H i d x H' l2 => h.yld W2 st H i d x H' (l.trans l2), fun W2 st H i l2 => h.stop W2 st H i (l.trans l2)⟩
def always : Store → Prop := fun _ => True
/-- a walk's meaning: the items, whatever happens meanwhile -/
def tI (L : Lb) (m : MI) : TI := fun σ H R => ∃ W ρ st xs st', RepE L W.T σ ρ ∧ Ok L W st H ∧ m ρ st = some (xs, st') ∧ ∀ W' J H', W.T.le W'.T → Ok L W' st' H' → Src L W' always J xs → xs.length ≤ sizeLine → R J H'

namespace I
/-- the items of a thing that does not change -/
def seqF : D → Option (List D)
  | .tup xs => some xs
  | .lst xs => some xs
  | _ => none
def seq (a : ME) : MI := fun ρ st => (a ρ st).bind fun p => (seqF p.1).map fun xs => (xs, p.2)
def lim : Int := 1000000
def rangeD (a b : Int) : List D := (List.range (b - a).toNat).map fun i => .int (a + (i : Nat))
def range1 (a : ME) : MI := fun ρ st => (a ρ st).bind fun p => match p.1 with | .int n => if -lim ≤ n ∧ n ≤ lim then some (rangeD 0 n, p.2) else none | _ => none
def range2 (a b : ME) : MI := fun ρ st => (a ρ st).bind fun p => (b ρ p.2).bind fun q => match p.1, q.1 with | .int m, .int n => if (-lim ≤ m ∧ m ≤ lim) ∧ (-lim ≤ n ∧ n ≤ lim) then some (rangeD m n, q.2) else none | _, _ => none
def keysF : D → Option (List D)
  | .dct _ kvs => some (kvs.map (·.1))
  | _ => none
def keys (a : ME) : MI := fun ρ st => (a ρ st).bind fun p => (keysF p.1).map fun xs => (xs, p.2)
def pairD (i : Nat) (d : D) : D := .tup [.int (i : Nat), d]
def enumD (xs : List D) : List D := (List.range xs.length).zipWith pairD xs
def zipD (xs ys : List D) : List D := List.zipWith (fun x y => .tup [x, y]) xs ys
end I
namespace S
def loop (g : MG) (b : MS) : List D → Ev → Store → Option (Fl × Ev × Store)
  | [], ρ, st => some (.nx, ρ, st)
  | x :: xs, ρ, st => (g x ρ).bind fun ρ1 => (b ρ1 st).bind fun p => match p.1 with
    | .nx => loop g b xs p.2.1 p.2.2
    | .ct => loop g b xs p.2.1 p.2.2
    | .bk => some (.nx, p.2.1, p.2.2)
    | .ret d => some (.ret d, p.2.1, p.2.2)
def for_ (g : MG) (i : MI) (b : MS) : MS := fun ρ st => (i ρ st).bind fun p => loop g b p.1 ρ p.2
/-- while, with a bound of the turns -/
def whileN (t : MT) (b : MS) : Nat → Ev → Store → Option (Fl × Ev × Store)
  | 0, _, _ => none
  | n + 1, ρ, st => (t ρ st).bind fun p => if p.1 then (b ρ p.2).bind fun q => match q.1 with
    | .nx => whileN t b n q.2.1 q.2.2
    | .ct => whileN t b n q.2.1 q.2.2
    | .bk => some (.nx, q.2.1, q.2.2)
    | .ret d => some (.ret d, q.2.1, q.2.2)
    else some (.nx, ρ, p.2)
end S
def wipeE (ρ : Ev) : List Nat → Ev
  | [] => ρ
  | v :: vs => (wipeE ρ vs).set v none
namespace E
def compL (g : MG) (t : MT) (e : ME) (ρ : Ev) : List D → Store → Option (List D × Store)
  | [], st => some ([], st)
  | x :: xs, st => (g x ρ).bind fun ρ1 => (t ρ1 st).bind fun p => if p.1 then (e ρ1 p.2).bind fun q => (compL g t e ρ xs q.2).map fun r => (q.1 :: r.1, r.2) else compL g t e ρ xs p.2
def comp (vs : List Nat) (g : MG) (i : MI) (t : MT) (e : ME) : ME := fun ρ st => (i ρ st).bind fun p => (compL g t e (wipeE ρ vs) p.1 p.2).map fun q => (.lst q.1, q.2)
/-- kept as a place of the store -/
def compB (vs : List Nat) (g : MG) (i : MI) (t : MT) (e : ME) : ME := fun ρ st => (comp vs g i t e ρ st).bind fun p => match p.1 with | .lst xs => some (.ref p.2.length, p.2 ++ [.lst xs]) | _ => none
def yes : MT := fun _ st => some (true, st)
end E

section
variable {L : Lb} {X : Cx} {pos : Pos} {tg : Expr}
/-! ### iterators -/
theorem src_list {W : Wd} {a : Addr} {vs : List V} {ds : List D} (ha : W.T a = some (.frz (.lst vs))) (r : Reps L W.T vs ds) : Src L W always (Itl X.K a) ds where
  go := fun W' st H i d l k _ e => by
    obtain ⟨v, h1, _⟩ := r.get e
    exact ⟨vs, v, SqL.of (k.tag a _ (l _ _ ha)), h1⟩
  yld := fun W' st H i d x H' l k _ e y => by
    obtain ⟨rfl, y⟩ := y
    have h2 := y vs (SqL.of (k.tag a _ (l _ _ ha)))
    obtain ⟨v, h1, q⟩ := r.get e
    rw [h1] at h2; cases h2
    exact ⟨W', TM.le.rfl, k, q.mono l.leR⟩
  stop := fun W' st H i l k _ e => ⟨vs, SqL.of (k.tag a _ (l _ _ ha)), by rw [r.length]; exact e⟩
theorem src_tup {W : Wd} {a : Addr} {vs : List V} {ds : List D} (ha : W.T a = some (.frz (.tup vs))) (r : Reps L W.T vs ds) : Src L W always (Itt X.K a) ds where
  go := fun W' st H i d l k _ e => by
    obtain ⟨v, h1, _⟩ := r.get e
    exact ⟨vs, v, SqT.of (k.tag a _ (l _ _ ha)), h1⟩
  yld := fun W' st H i d x H' l k _ e y => by
    obtain ⟨rfl, y⟩ := y
    have h2 := y vs (SqT.of (k.tag a _ (l _ _ ha)))
    obtain ⟨v, h1, q⟩ := r.get e
    rw [h1] at h2; cases h2
    exact ⟨W', TM.le.rfl, k, q.mono l.leR⟩
  stop := fun W' st H i l k _ e => ⟨vs, SqT.of (k.tag a _ (l _ _ ha)), by rw [r.length]; exact e⟩
theorem PI.or {tg e : Expr} {t u : TI} (h : PI X tg e t) (h' : PI X tg e u) : PI X tg e (fun σ H R => t σ H R ∨ u σ H R) := ⟨fun pins s σ H R I q => q.elim (h.run pins s σ H R I) (h'.run pins s σ H R I)⟩
theorem si_list {e : Expr} {m : ME} (he : PE X e (tE L m)) (hm : ∀ ρ st d st', m ρ st = some (d, st') → ∃ xs, d = .lst xs) : PI X tg e (tI L (I.seq m)) :=
  (pi_list he).imp fun σ H R => by
    rintro ⟨W, ρ, st, xs, st', re, k, e, q⟩
    obtain ⟨d, st1, e1, e⟩ := bind2 (γ := Unit) (f := fun d st1 => (I.seqF d).map fun xs => (xs, st1)) e
    obtain ⟨ys, rfl⟩ := hm _ _ _ _ e1
    cases e
    refine ⟨W, ρ, st, _, _, re, k, e1, fun W1 v H1 l1 k1 r1 => ?_⟩
    cases r1 with
    | @lst a vs _ ha hz rs => exact ⟨a, rfl, ⟨vs, SqL.of (k1.tag a _ ha)⟩, q W1 _ H1 l1 k1 (src_list ha rs) (by rw [← rs.length]; exact hz)⟩
theorem si_tup {e : Expr} {m : ME} (he : PE X e (tE L m)) (hm : ∀ ρ st d st', m ρ st = some (d, st') → ∃ xs, d = .tup xs) : PI X tg e (tI L (I.seq m)) :=
  (pi_tup he).imp fun σ H R => by
    rintro ⟨W, ρ, st, xs, st', re, k, e, q⟩
    obtain ⟨d, st1, e1, e⟩ := bind2 (γ := Unit) (f := fun d st1 => (I.seqF d).map fun xs => (xs, st1)) e
    obtain ⟨ys, rfl⟩ := hm _ _ _ _ e1
    cases e
    refine ⟨W, ρ, st, _, _, re, k, e1, fun W1 v H1 l1 k1 r1 => ?_⟩
    cases r1 with
    | @tup a vs _ ha hz rs => exact ⟨a, rfl, ⟨vs, SqT.of (k1.tag a _ ha)⟩, q W1 _ H1 l1 k1 (src_tup ha rs) (by rw [← rs.length]; exact hz)⟩
/-- a tuple or a list, as it comes -/
theorem si_seq {e : Expr} {m : ME} (he : PE X e (tE L m)) : PI X tg e (tI L (I.seq m)) :=
  (PI.or (pi_list he) (pi_tup he)).imp fun σ H R => by
    rintro ⟨W, ρ, st, xs, st', re, k, e, q⟩
    obtain ⟨d, st1, e1, e⟩ := bind2 (γ := Unit) (f := fun d st1 => (I.seqF d).map fun xs => (xs, st1)) e
    cases d with
    | lst ys =>
      cases e
      refine .inl ⟨W, ρ, st, _, _, re, k, e1, fun W1 v H1 l1 k1 r1 => ?_⟩
      cases r1 with
      | @lst a vs _ ha hz rs => exact ⟨a, rfl, ⟨vs, SqL.of (k1.tag a _ ha)⟩, q W1 _ H1 l1 k1 (src_list ha rs) (by rw [← rs.length]; exact hz)⟩
    | tup ys =>
      cases e
      refine .inr ⟨W, ρ, st, _, _, re, k, e1, fun W1 v H1 l1 k1 r1 => ?_⟩
      cases r1 with
      | @tup a vs _ ha hz rs => exact ⟨a, rfl, ⟨vs, SqT.of (k1.tag a _ ha)⟩, q W1 _ H1 l1 k1 (src_tup ha rs) (by rw [← rs.length]; exact hz)⟩
    | _ => cases e
theorem src_range {W : Wd} (lo : Int) (n : Nat) : Src L W always (Itr lo n) ((List.range n).map fun i => .int (lo + (i : Nat))) where
  go := fun W' st H i d l k _ e => by
    have : i < n := by
      have h := (List.getElem?_eq_some_iff.mp e).1
      simpa using h
    exact this
  yld := fun W' st H i d x H' l k _ e y => by
    obtain ⟨rfl, rfl⟩ := y
    have h := (List.getElem?_eq_some_iff.mp e).1
    have hn : i < n := by simpa using h
    rw [List.getElem?_map, List.getElem?_range hn] at e
    simp only [Option.map_some, Option.some.injEq] at e
    subst e
    exact ⟨W', TM.le.rfl, k, .int _⟩
  stop := fun W' st H i l k _ e => by
    have : n ≤ i := by simpa using e
    exact this
theorem si_range1 {a : Expr} {m : ME} {p : Pos} (hg : Gl X "range") (hm : X.mg "range" = none) (ha : PE X a (tE L m)) (hs : starEach [a] X.env = (false, eval a X.env) :: starEach [] X.env := by rfl) (hs' : starEach [a] X.env = [(false, eval a X.env)] := by rfl) :
    PI X tg (.Call (.Name "range" p) [a] [] pos) (tI L (I.range1 m)) :=
  (pi_range1 hg hm (pa_cons ha pa_nil hs) hs').imp fun σ H R => by
    rintro ⟨W, ρ, st, xs, st', re, k, e, q⟩
    obtain ⟨d, st1, e1, e⟩ := bind2 (γ := Unit) (f := fun (d : D) st1 => match d with | .int n => if -I.lim ≤ n ∧ n ≤ I.lim then some (I.rangeD 0 n, st1) else none | _ => none) e
    cases d with
    | int n =>
      simp only at e
      split at e
      · rename_i hb
        cases e
        refine ⟨W, ρ, st, _, _, re, k, e1, fun W1 v H1 l1 k1 r1 => ?_⟩
        cases r1
        have h1 : (I.lim : Int) = 1000000 := rfl
        have hz : (I.rangeD 0 n).length ≤ sizeLine := by
          unfold I.rangeD
          rw [List.length_map, List.length_range, sizeLine_eq]
          omega
        refine ⟨n, rfl, by omega, by omega, q W1 _ H1 l1 k1 ?_ hz⟩
        have := src_range (L := L) (W := W1) 0 n.toNat
        unfold I.rangeD
        rw [Int.sub_zero]
        exact this
      · cases e
    | _ => cases e
theorem si_range2 {a b : Expr} {m m' : ME} {p : Pos} (hg : Gl X "range") (hm : X.mg "range" = none) (ha : PE X a (tE L m)) (hb : PE X b (tE L m')) (hs : starEach [a, b] X.env = (false, eval a X.env) :: starEach [b] X.env := by rfl) (hs' : starEach [b] X.env = (false, eval b X.env) :: starEach [] X.env := by rfl)
    (h1 : starEach [a, b] X.env = [(false, eval a X.env), (false, eval b X.env)] := by rfl) (h2 : starEach [b] X.env = [(false, eval b X.env)] := by rfl) :
    PI X tg (.Call (.Name "range" p) [a, b] [] pos) (tI L (I.range2 m m')) :=
  (pi_range2 hg hm (pa_cons ha (pa_cons hb pa_nil hs') hs) h1 h2).imp fun σ H R => by
    rintro ⟨W, ρ, st, xs, st', re, k, e, q⟩
    obtain ⟨d, st1, e1, e⟩ := bind2 (γ := Unit) (f := fun (d : D) st1 => (m' ρ st1).bind fun q => match d, q.1 with | .int m, .int n => if (-I.lim ≤ m ∧ m ≤ I.lim) ∧ (-I.lim ≤ n ∧ n ≤ I.lim) then some (I.rangeD m n, q.2) else none | _, _ => none) e
    obtain ⟨d', st2, e2, e⟩ := bind2 (γ := Unit) (f := fun (d' : D) st2 => match d, d' with | .int m, .int n => if (-I.lim ≤ m ∧ m ≤ I.lim) ∧ (-I.lim ≤ n ∧ n ≤ I.lim) then some (I.rangeD m n, st2) else none | _, _ => none) e
    cases d with
    | int x =>
      cases d' with
      | int n =>
        simp only at e
        split at e
        · rename_i hb
          cases e
          refine ⟨W, ρ, st, _, _, re, k, e1, fun W1 v H1 l1 k1 r1 => ⟨W1, ρ, _, _, _, re.mono l1.leR, k1, e2, fun W2 u H2 l2 k2 r2 => ?_⟩⟩
          cases r1
          cases r2
          have h1 : (I.lim : Int) = 1000000 := rfl
          have hz : (I.rangeD x n).length ≤ sizeLine := by
            unfold I.rangeD
            rw [List.length_map, List.length_range, sizeLine_eq]
            omega
          exact ⟨x, n, rfl, ⟨by omega, by omega, by omega, by omega⟩, q W2 _ H2 (l1.trans l2) k2 (src_range x (n - x).toNat) hz⟩
        · cases e
      | _ => cases e
    | _ => cases d' <;> cases e
theorem repK_get {T : TM} : ∀ {kvs : List (Key × V)} {ds : List (D × D)} {i : Nat} {x : D × D}, RepK L T kvs ds → ds[i]? = some x → ∃ k v, kvs[i]? = some (k, v) ∧ x.1 = keyD k ∧ Rep L T v x.2
  | _, _, _, _, .nil, e => by simp at e
  | _, _, 0, _, .cons r _, e => by simp at e; subst e; exact ⟨_, _, rfl, rfl, r⟩
  | _, _, i + 1, _, .cons _ t, e => by
    obtain ⟨k, v, h1, h2, h3⟩ := repK_get (i := i) t (by simpa using e)
    exact ⟨k, v, by simpa using h1, h2, h3⟩
theorem repK_length {T : TM} : ∀ {kvs : List (Key × V)} {ds : List (D × D)}, RepK L T kvs ds → kvs.length = ds.length
  | _, _, .nil => rfl
  | _, _, .cons _ t => by simp [repK_length t]
theorem repT_get {T : TM} : ∀ {kvs : List (List Key × V)} {ds : List (D × D)} {i : Nat} {x : D × D}, RepT L T kvs ds → ds[i]? = some x → ∃ k v, kvs[i]? = some (k, v) ∧ x.1 = .tup (k.map keyD) ∧ Rep L T v x.2 ∧ k.length ≤ sizeLine
  | _, _, _, _, .nil, e => by simp at e
  | _, _, 0, _, .cons l r _, e => by simp at e; subst e; exact ⟨_, _, rfl, rfl, r, l⟩
  | _, _, i + 1, _, .cons _ _ t, e => by
    obtain ⟨k, v, h1, h2, h3, h4⟩ := repT_get (i := i) t (by simpa using e)
    exact ⟨k, v, by simpa using h1, h2, h3, h4⟩
theorem repT_length {T : TM} : ∀ {kvs : List (List Key × V)} {ds : List (D × D)}, RepT L T kvs ds → kvs.length = ds.length
  | _, _, .nil => rfl
  | _, _, .cons _ _ t => by simp [repT_length t]
theorem rep_key {T : TM} : ∀ k : Key, Rep L T (kV k) (keyD k)
  | .inl i => .int i
  | .inr x => .str x
theorem reps_keys {T : TM} : ∀ k : List Key, Reps L T (k.map kV) (k.map keyD)
  | [] => .nil
  | x :: r => .cons (rep_key x) (reps_keys r)
theorem src_keysK {W : Wd} {a : Addr} {ob : Obj} {kvs : List (Key × V)} {ds : List (D × D)} (ha : W.T a = some (.frz (.frz ob (.dK kvs)))) (r : RepK L W.T kvs ds) : Src L W always (Itk a ob kvs) (ds.map (·.1)) where
  go := fun W' st H i d l k _ e => by
    refine ⟨k.tag a _ (l _ _ ha), ?_⟩
    have h := (List.getElem?_eq_some_iff.mp e).1
    rw [repK_length r]; simpa using h
  yld := fun W' st H i d x H' l k _ e y => by
    obtain ⟨rfl, key, v, h1, rfl⟩ := y
    rw [List.getElem?_map] at e
    cases e2 : ds[i]? with
    | none => rw [e2] at e; cases e
    | some z =>
      rw [e2] at e
      simp only [Option.map_some, Option.some.injEq] at e
      obtain ⟨k2, v2, h3, h4, _⟩ := repK_get r e2
      rw [h1] at h3; cases h3
      subst e
      rw [h4]
      exact ⟨W', TM.le.rfl, k, rep_key _⟩
  stop := fun W' st H i l k _ e => ⟨k.tag a _ (l _ _ ha), by rw [repK_length r]; simpa using e⟩
theorem src_keysT {W : Wd} {a : Addr} {ob : Obj} {kvs : List (List Key × V)} {ds : List (D × D)} (ha : W.T a = some (.frz (.frz ob (.dT kvs)))) (r : RepT L W.T kvs ds) : Src L W always (Itkt a ob kvs) (ds.map (·.1)) where
  go := fun W' st H i d l k _ e => by
    refine ⟨k.tag a _ (l _ _ ha), ?_⟩
    have h := (List.getElem?_eq_some_iff.mp e).1
    rw [repT_length r]; simpa using h
  yld := fun W' st H i d x H' l k _ e y => by
    obtain ⟨rfl, key, v, p, h1, rfl, h5⟩ := y
    rw [List.getElem?_map] at e
    cases e2 : ds[i]? with
    | none => rw [e2] at e; cases e
    | some z =>
      rw [e2] at e
      simp only [Option.map_some, Option.some.injEq] at e
      obtain ⟨k2, v2, h3, h4, _, h6⟩ := repT_get r e2
      rw [h1] at h3; cases h3
      subst e
      rw [h4]
      exact k.seen h5 (by rw [List.length_map]; exact h6) (reps_keys _)
  stop := fun W' st H i l k _ e => ⟨k.tag a _ (l _ _ ha), by rw [repT_length r]; simpa using e⟩
theorem si_keys {e : Expr} {m : ME} (he : PE X e (tE L m)) : PI X tg e (tI L (I.keys m)) :=
  (pi_keys he).imp fun σ H R => by
    rintro ⟨W, ρ, st, xs, st', re, k, e, q⟩
    obtain ⟨d, st1, e1, e⟩ := bind2 (γ := Unit) (f := fun d st1 => (I.keysF d).map fun xs => (xs, st1)) e
    cases d with
    | dct t ds =>
      cases e
      refine ⟨W, ρ, st, _, _, re, k, e1, fun W1 v H1 l1 k1 r1 => ?_⟩
      cases r1 with
      | @dctK a ob kvs _ ha hz rs => exact ⟨a, ob, rfl, .inl ⟨kvs, k1.tag a _ ha, q W1 _ H1 l1 k1 (src_keysK ha rs) (by rw [List.length_map, ← repK_length rs]; exact hz)⟩⟩
      | @dctT a ob kvs _ ha hz rs => exact ⟨a, ob, rfl, .inr ⟨kvs, k1.tag a _ ha, q W1 _ H1 l1 k1 (src_keysT ha rs) (by rw [List.length_map, ← repT_length rs]; exact hz)⟩⟩
    | _ => cases e

/-! ### for -/
theorem for_imp {g : MG} {i : MI} {b : MS} {vs : List Nat} {D : Ends} {σ : L2.St} {H : Hp} (h : tS L (S.for_ g i b) D σ H) : tFor (tI L i) (tG L vs g) (tS L b) D σ H := by
  obtain ⟨W, ρ, st, f, ρ', st', re, k, e, q⟩ := h
  obtain ⟨⟨xs, st1⟩, e1, e⟩ := bindP e
  refine ⟨W, ρ, st, xs, st1, re, k, e1, fun W1 J H1 l1 k1 src hz => ?_⟩
  refine ⟨fun i m σ H => m = xs.length - i ∧ i ≤ xs.length ∧ ∃ W2 ρ2 st2, W1.T.le W2.T ∧ RepE L W2.T σ ρ2 ∧ Ok L W2 st2 H ∧ S.loop g b (xs.drop i) ρ2 st2 = some (f, ρ', st'), ⟨xs.length, by simp, Nat.zero_le _, W1, ρ, st1, TM.le.rfl, re.mono l1.leR, k1, by simpa using e⟩, ?_⟩
  rintro i m σ2 H2 ⟨rfl, hi, W2, ρ2, st2, l2, re2, k2, e2⟩
  by_cases hlt : i < xs.length
  · refine .inr ⟨?_, ?_⟩
    · exact src.go W2 st2 H2 i xs[i] l2 k2 True.intro (by simp [hlt])
    · rw [List.drop_eq_getElem_cons hlt] at e2
      unfold S.loop at e2
      cases eg : g xs[i] ρ2 with
      | none => rw [eg] at e2; cases e2
      | some ρ3 =>
        rw [eg] at e2
        simp only [Option.bind_some] at e2
        cases eb : b ρ3 st2 with
        | none => rw [eb] at e2; cases e2
        | some p =>
          obtain ⟨fl, ρ4, st4⟩ := p
          rw [eb] at e2
          simp only [Option.bind_some] at e2
          refine ⟨fun σ' H' => ∃ W4, W1.T.le W4.T ∧ RepE L W4.T σ' ρ4 ∧ Ok L W4 st4 H' ∧ S.loop g b (xs.drop (i + 1)) ρ4 st4 = some (f, ρ', st'), fun σ' H' ⟨W4, a1, a2, a3, a4⟩ => ⟨xs.length - (i + 1), by omega, rfl, hlt, W4, ρ4, st4, a1, a2, a3, a4⟩, fun x H' y => ?_⟩
          obtain ⟨W3, l3, k3, r3⟩ := src.yld W2 st2 H2 i xs[i] x H' l2 k2 True.intro (by simp [hlt]) y
          refine ⟨W3, ρ2, st2, xs[i], ρ3, re2.mono l3.leR, k3, r3, eg, fun σ5 re5 _ => ⟨W3, ρ3, st2, fl, ρ4, st4, re5, k3, eb, ?_⟩⟩
          have la := l2.trans l3
          cases fl with
          | nx => exact fun W' σ' H' l' k' r' => ⟨W', la.trans l', r', k', e2⟩
          | ct => exact fun W' σ' H' l' k' r' => ⟨W', la.trans l', r', k', e2⟩
          | bk =>
            cases e2
            exact fun W' σ' H' l' k' r' => q W' σ' H' ((l1.trans la).trans l') k' r'
          | ret d =>
            cases e2
            exact fun W' v' H' l' k' r' => q W' v' H' ((l1.trans la).trans l') k' r'
  · have hi' : i = xs.length := by omega
    subst hi'
    refine .inl ⟨src.stop W2 st2 H2 _ l2 k2 True.intro (Nat.le_refl _), ?_⟩
    rw [List.drop_length] at e2
    cases e2
    exact q W2 σ2 H2 (l1.trans l2) k2 re2
theorem s_for {iter : Expr} {body : List Stmt} {i : MI} {g : MG} {b : MS} {vs : List Nat} (hp : PassesOwn (model X.prog X.w) X.A X.env X.xe) (hc : X.calm = true) (hi : PI X tg iter (tI L i)) (hg : PG X tg (tG L vs g)) (hb : PSs X body (tS L b))
    (hs : ∀ x, foldedSetIterable iter X.env x = pure x := by intro _; rfl) : PS X (.For tg iter body [] pos) (tS L (S.for_ g i b)) :=
  (ps_for hp hc hi hg hb hs).imp fun _ _ _ h => for_imp h
/-! ### while -/
theorem while_imp {t : MT} {b : MS} {n : Nat} {D : Ends} {σ : L2.St} {H : Hp} (h : tS L (S.whileN t b n) D σ H) : tWhile (tT L t) (tS L b) D σ H := by
  obtain ⟨W, ρ, st, f, ρ', st', re, k, e, q⟩ := h
  refine ⟨fun m σ H => ∃ W1 ρ1 st1, W.T.le W1.T ∧ RepE L W1.T σ ρ1 ∧ Ok L W1 st1 H ∧ S.whileN t b m ρ1 st1 = some (f, ρ', st'), ⟨n, W, ρ, st, TM.le.rfl, re, k, e⟩, ?_⟩
  rintro m σ1 H1 ⟨W1, ρ1, st1, l1, re1, k1, e1⟩
  cases m with
  | zero => cases e1
  | succ m =>
    unfold S.whileN at e1
    cases et : t ρ1 st1 with
    | none => rw [et] at e1; cases e1
    | some p =>
      obtain ⟨c, st2⟩ := p
      rw [et] at e1
      simp only [Option.bind_some] at e1
      refine ⟨W1, ρ1, st1, c, st2, re1, k1, et, fun W2 H2 l2 k2 => ?_⟩
      cases c with
      | false =>
        rw [if_neg (by decide)] at e1 ⊢
        cases e1
        exact q W2 σ1 H2 (l1.trans l2) k2 (re1.mono l2.leR)
      | true =>
        rw [if_pos rfl] at e1 ⊢
        cases eb : b ρ1 st2 with
        | none => rw [eb] at e1; cases e1
        | some p =>
          obtain ⟨fl, ρ3, st3⟩ := p
          rw [eb] at e1
          simp only [Option.bind_some] at e1
          refine ⟨fun σ' H' => ∃ W4, W.T.le W4.T ∧ RepE L W4.T σ' ρ3 ∧ Ok L W4 st3 H' ∧ S.whileN t b m ρ3 st3 = some (f, ρ', st'), fun σ' H' ⟨W4, a1, a2, a3, a4⟩ => ⟨m, Nat.lt_succ_self _, W4, ρ3, st3, a1, a2, a3, a4⟩, ?_⟩
          refine ⟨W2, ρ1, st2, fl, ρ3, st3, re1.mono l2.leR, k2, eb, ?_⟩
          have la := l1.trans l2
          cases fl with
          | nx => exact fun W' σ' H' l' k' r' => ⟨W', la.trans l', r', k', e1⟩
          | ct => exact fun W' σ' H' l' k' r' => ⟨W', la.trans l', r', k', e1⟩
          | bk => cases e1; exact fun W' σ' H' l' k' r' => q W' σ' H' (la.trans l') k' r'
          | ret d => cases e1; exact fun W' v' H' l' k' r' => q W' v' H' (la.trans l') k' r'
theorem s_while {c : Expr} {body : List Stmt} {t : MT} {b : MS} (n : Nat) (hp : PassesOwn (model X.prog X.w) X.A X.env X.xe) (hc : PT X c (tT L t)) (hb : PSs X body (tS L b)) : PS X (.While c body [] pos) (tS L (S.whileN t b n)) :=
  (ps_while hp hc hb).imp fun _ _ _ h => while_imp h

/-! ### comprehensions -/
theorem repE_wipe {T : TM} {σ : L2.St} {ρ : Ev} (r : RepE L T σ ρ) : ∀ vs : List Nat, RepE L T (wipe σ vs) (wipeE ρ vs)
  | [] => r
  | v :: vs => (repE_wipe r vs).wipe1 v
theorem wipe_get {σ : L2.St} : ∀ {vs : List Nat} {j : Nat}, (wipe σ vs)[j]? = if j ∈ vs then (if j < σ.length then some none else none) else σ[j]?
  | [], j => by simp [wipe]
  | v :: vs, j => by
    unfold wipe
    by_cases hj : v = j
    · subst hj
      rw [List.getElem?_set, if_pos rfl, wipe_length, if_pos List.mem_cons_self]
    · rw [List.getElem?_set_ne hj, wipe_get]
      by_cases hm : j ∈ vs
      · rw [if_pos hm, if_pos (List.mem_cons_of_mem _ hm)]
      · rw [if_neg hm, if_neg (by simp only [List.mem_cons, not_or]; exact ⟨fun e => hj e.symm, hm⟩)]
theorem wipe_out {σ σ' : L2.St} {vs ws : List Nat} (h : Out ws (wipe σ vs) σ') (hs : ∀ w ∈ ws, w ∈ vs) : wipe σ' vs = wipe σ vs := by
  apply List.ext_getElem?
  intro j
  have hl : σ'.length = σ.length := by rw [h.1, wipe_length]
  rw [wipe_get, wipe_get, hl]
  by_cases hj : j ∈ vs
  · rw [if_pos hj, if_pos hj]
  · rw [if_neg hj, if_neg hj, h.2 j (fun z => hj (hs j z)), wipe_get, if_neg hj]
theorem comp_imp {vs ws : List Nat} {g : MG} {i : MI} {t : MT} {m : ME} {σ : L2.St} {H : Hp} {Q : VK} (hw : ∀ w ∈ ws, w ∈ vs) (h : tE L (E.comp vs g i t m) σ H Q) : tLc (tI L i) (tG L ws g) (tT L t) (tE L m) vs σ H Q := by
  obtain ⟨W, ρ, st, d, st', re, k, e, q⟩ := h
  obtain ⟨⟨xs, st1⟩, e1, e⟩ := bindP e
  simp only at e
  cases e2 : E.compL g t m (wipeE ρ vs) xs st1 with
  | none => rw [e2] at e; cases e
  | some p =>
    obtain ⟨ys, st2⟩ := p
    rw [e2] at e
    simp only [Option.map_some, Option.some.injEq, Prod.mk.injEq] at e
    obtain ⟨rfl, rfl⟩ := e
    refine ⟨W, ρ, st, xs, st1, re, k, e1, fun W1 J H1 l1 k1 src hz D hD => ?_⟩
    have src : Src L W1 always J xs := src
    -- the invariant: the list so far is at D, in the making
    refine ⟨fun i n H => n = xs.length - i ∧ i ≤ xs.length ∧ ∃ W2 st3 acc ds rest, W1.T.leR W2.T ∧ W1.T.le W2.T ∧ W2.T D = some (.tmp (.lst acc)) ∧ Ok L W2 st3 H ∧ Reps L W2.T acc ds ∧ acc.length ≤ i ∧ E.compL g t m (wipeE ρ vs) (xs.drop i) st3 = some (rest, st2) ∧ ys = ds ++ rest,
      ⟨xs.length, by simp, Nat.zero_le _, ⟨W1.T.put D (.tmp (.lst [])), W1.loc⟩, st1, [], [], ys, (TM.le_put (k1.noT hD)).leR, TM.le_put (k1.noT hD), TM.put_same, k1.tmp hD (fun _ z => nomatch z), .nil, Nat.le_refl _, by simpa using e2, by simp⟩, ?_⟩
    rintro i n H2 ⟨rfl, hi, W2, st3, acc, ds, rest, lr, l2, hT, k2, ra, hal, e3, ey⟩
    by_cases hlt : i < xs.length
    · refine .inr ⟨src.go W2 st3 H2 i xs[i] l2 k2 True.intro (by simp [hlt]), ?_⟩
      rw [List.drop_eq_getElem_cons hlt] at e3
      unfold E.compL at e3
      cases eg : g xs[i] (wipeE ρ vs) with
      | none => rw [eg] at e3; cases e3
      | some ρ3 =>
        rw [eg] at e3
        simp only [Option.bind_some] at e3
        cases et : t ρ3 st3 with
        | none => rw [et] at e3; cases e3
        | some p =>
          obtain ⟨b, st4⟩ := p
          rw [et] at e3
          simp only [Option.bind_some] at e3
          refine ⟨fun H' => ∃ W2 st3 acc ds rest, W1.T.leR W2.T ∧ W1.T.le W2.T ∧ W2.T D = some (.tmp (.lst acc)) ∧ Ok L W2 st3 H' ∧ Reps L W2.T acc ds ∧ acc.length ≤ i + 1 ∧ E.compL g t m (wipeE ρ vs) (xs.drop (i + 1)) st3 = some (rest, st2) ∧ ys = ds ++ rest,
            fun H' z => ⟨xs.length - (i + 1), by omega, rfl, hlt, z⟩, fun x H' y => ?_⟩
          obtain ⟨W3, l3, k3, r3⟩ := src.yld W2 st3 H2 i xs[i] x H' l2 k2 True.intro (by simp [hlt]) y
          refine ⟨W3, wipeE ρ vs, st3, xs[i], ρ3, repE_wipe ((re.mono l1.leR).mono (l2.trans l3).leR) vs, k3, r3, eg, fun σ5 re5 o5 => ⟨wipe_out o5 hw, W3, ρ3, st3, b, st4, re5, k3, et, fun W4 H4 l4 k4 => ?_⟩⟩
          have hT4 : W4.T D = some (.tmp (.lst acc)) := l4 _ _ (l3 _ _ hT)
          cases b with
          | false =>
            rw [if_neg (by decide)] at e3
            refine iteF ?_
            exact ⟨W4, st4, acc, ds, rest, ((l2.trans l3).trans l4).leR, (l2.trans l3).trans l4, hT4, k4, ra.mono (l3.trans l4).leR, Nat.le_succ_of_le hal, e3, ey⟩
          | true =>
            rw [if_pos rfl] at e3
            refine iteT ?_
            cases ee : m ρ3 st4 with
            | none => rw [ee] at e3; cases e3
            | some p =>
              obtain ⟨d, st5⟩ := p
              rw [ee] at e3
              simp only [Option.bind_some] at e3
              cases e5 : E.compL g t m (wipeE ρ vs) (xs.drop (i + 1)) st5 with
              | none => rw [e5] at e3; cases e3
              | some p2 =>
                obtain ⟨rest2, st6⟩ := p2
                rw [e5] at e3
                simp only [Option.map_some, Option.some.injEq, Prod.mk.injEq] at e3
                obtain ⟨rfl, rfl⟩ := e3
                refine ⟨W4, ρ3, st4, d, st5, re5.mono l4.leR, k4, ee, fun W5 v H5 l5 k5 r5 => ?_⟩
                have hT5 : W5.T D = some (.tmp (.lst acc)) := l5 _ _ hT4
                have lR : W5.T.leR (W5.T.put D (.tmp (.lst (acc ++ [v])))) := TM.leR_tmp hT5
                have l15 := ((l2.trans l3).trans l4).trans l5
                refine ⟨acc, (k5.tag D _ hT5).1, by omega, ⟨W5.T.put D (.tmp (.lst (acc ++ [v]))), W5.loc⟩, st5, acc ++ [v], ds ++ [d], rest2, l15.leR.trans lR, ?_, TM.put_same, k5.retag hT5 ⟨upd_same, fun _ z => nomatch z⟩, ((ra.mono ((l3.trans l4).trans l5).leR).append (.cons r5 .nil)).mono lR, by simp; omega, e5, by rw [ey]; simp⟩
                intro a u ea
                by_cases hn : a = D
                · subst hn
                  have := k1.noT hD
                  rw [this] at ea; cases ea
                · show W5.T.put D _ a = _
                  rw [TM.put_ne hn]
                  exact l15 _ _ ea
    · have hi' : i = xs.length := by omega
      subst hi'
      refine .inl ⟨src.stop W2 st3 H2 _ l2 k2 True.intro (Nat.le_refl _), ?_⟩
      rw [List.drop_length] at e3
      cases e3
      have lR : W2.T.leR (W2.T.put D (.frz (.lst acc))) := TM.leR_tmp hT
      have hup : upd H2 D (.lst acc) = H2 := by
        funext b
        by_cases hb : b = D
        · subst hb; rw [upd_same, (k2.tag b _ hT).1]
        · rw [upd_ne hb]
      have ko : Ok L ⟨W2.T.put D (.frz (.lst acc)), W2.loc⟩ st2 H2 := by
        have z := k2.retag (t := .frz (.lst acc)) (o' := .lst acc) hT upd_same
        rw [hup] at z; exact z
      refine q ⟨W2.T.put D (.frz (.lst acc)), W2.loc⟩ _ H2 (l1.trans ?_) ko (.lst TM.put_same (by omega) (by rw [ey, List.append_nil]; exact ra.mono lR))
      intro a u ea
      by_cases hn : a = D
      · subst hn
        rw [k1.noT hD] at ea; cases ea
      · show W2.T.put D _ a = _
        rw [TM.put_ne hn]
        exact l2 _ _ ea
theorem sts_nil : PTs X [] (tT L E.yes) := ⟨fun pins s σ H Q I h => pts_nil.run pins s σ H Q I (by
  obtain ⟨W, ρ, st, b, st', re, k, e, q⟩ := h
  cases e
  exact q W H TM.le.rfl k)⟩
theorem se_lc {elt iter : Expr} {ifs : List Expr} {scope : Scope} {own : List (Str × Nat)} {ws : List Nat} {i : MI} {g : MG} {t : MT} {m : ME} (hc : X.calm = true) (hN : X.N.Nodup) (hi : PI X tg iter (tI L i)) (ok : BlkOk X.N X.env.scope scope own)
    (hg : ∀ (s : Shared) (H : Hp) (C : Addr) (cl : List (Str × Addr)) (fp : List Addr), PG (X.blk s H scope (compEnvC scope cl C X.env) fp) tg (tG L ws g)) (ht : ∀ (s : Shared) (H : Hp) (C : Addr) (cl : List (Str × Addr)) (fp : List Addr), PTs (X.blk s H scope (compEnvC scope cl C X.env) fp) ifs (tT L t))
    (he : ∀ (s : Shared) (H : Hp) (C : Addr) (cl : List (Str × Addr)) (fp : List Addr), PE (X.blk s H scope (compEnvC scope cl C X.env) fp) elt (tE L m)) (hw : ∀ w ∈ ws, w ∈ own.map (·.2)) (hs : ∀ x, foldedSetIterable iter X.env x = pure x := by intro _; rfl) :
    PE X (.ListComp elt [⟨tg, iter, ifs, 0⟩] scope pos) (tE L (E.comp (own.map (·.2)) g i t m)) :=
  (pe_lc hc hN hi ok hg ht he hs).imp fun _ _ _ h => comp_imp hw h
theorem s_setLc {j : Nat} {y : Str} {py : Pos} {elt iter : Expr} {ifs : List Expr} {scope : Scope} {own : List (Str × Nat)} {ws : List Nat} {cpos : Pos} {i : MI} {g : MG} {t : MT} {m : ME} (hc : X.calm = true) (hN : X.N.Nodup) (hy : X.N[j]? = some y) (hyl : X.env.scope.names.lookup y = some .local)
    (hsw : swapsWith (.ListComp elt [⟨tg, iter, ifs, 0⟩] scope cpos) (some (.Name y py)) pos.line X.env = pure true) (hi : PI X tg iter (tI L i)) (ok : BlkOk X.N X.env.scope scope own)
    (hg : ∀ (s : Shared) (H : Hp) (C : Addr) (cl : List (Str × Addr)) (fp : List Addr), PG (X.blk s H scope (compEnvC scope cl C X.env) fp) tg (tG L ws g)) (ht : ∀ (s : Shared) (H : Hp) (C : Addr) (cl : List (Str × Addr)) (fp : List Addr), PTs (X.blk s H scope (compEnvC scope cl C X.env) fp) ifs (tT L t))
    (he : ∀ (s : Shared) (H : Hp) (C : Addr) (cl : List (Str × Addr)) (fp : List Addr), PE (X.blk s H scope (compEnvC scope cl C X.env) fp) elt (tE L m)) (hw : ∀ w ∈ ws, w ∈ own.map (·.2)) (hs : ∀ x, foldedSetIterable iter X.env x = pure x := by intro _; rfl) :
    PS X (.Assign [.Name y py] (.ListComp elt [⟨tg, iter, ifs, 0⟩] scope cpos) pos) (tS L (S.set j (E.comp (own.map (·.2)) g i t m))) :=
  (ps_setLc hc hN hy hyl hsw hi ok hg ht he hs).imp fun D σ H h => set_imp (fun _ _ _ z => comp_imp hw z) h
end
end Sm
/-! ## SimD -/
/-! Sm, part D: what a def leaves: its own places of the store are given up; a def by its body. -/
namespace Sm
open PySem PySem.Spec PyProof.Rows L2

section
variable {k j : Nat}
mutual
theorem below_mono (h : k ≤ j) : ∀ d : D, d.bel k = true → d.bel j = true
  | .non, _ => by simp [D.bel]
  | .bl _, _ => by simp [D.bel]
  | .int _, _ => by simp [D.bel]
  | .str _, _ => by simp [D.bel]
  | .tup xs, e => by simp only [D.bel] at e ⊢; exact belows_mono h xs e
  | .lst xs, e => by simp only [D.bel] at e ⊢; exact belows_mono h xs e
  | .set xs, e => by simp only [D.bel] at e ⊢; exact belows_mono h xs e
  | .dct _ kvs, e => by simp only [D.bel] at e ⊢; exact belowK_mono h kvs e
  | .fam _ l, e => by simp only [D.bel] at e ⊢; exact below_mono h l e
  | .ref n, e => by
    simp only [D.bel] at e ⊢
    have : n < k := by simpa [Nat.blt_eq] using e
    simp [Nat.blt_eq]; omega
  | .cls _, _ => by simp [D.bel]
  | .own _, _ => by simp [D.bel]
  | .scr _, _ => by simp [D.bel]
theorem belows_mono (h : k ≤ j) : ∀ d : List D, D.bels k d = true → D.bels j d = true
  | [], _ => by simp [D.bels]
  | d :: ds, e => by
    simp only [D.bels, Bool.and_eq_true] at e ⊢
    exact ⟨below_mono h d e.1, belows_mono h ds e.2⟩
theorem belowK_mono (h : k ≤ j) : ∀ d : List (D × D), D.belK k d = true → D.belK j d = true
  | [], _ => by simp [D.belK]
  | d :: ds, e => by
    simp only [D.belK, Bool.and_eq_true] at e ⊢
    exact ⟨belowP_mono h d e.1, belowK_mono h ds e.2⟩
theorem belowP_mono (h : k ≤ j) : ∀ d : D × D, D.belP k d = true → D.belP j d = true
  | (a, b), e => by
    simp only [D.belP, Bool.and_eq_true] at e ⊢
    exact ⟨below_mono h a e.1, below_mono h b e.2⟩
end
end

/-- tags but for the places from k on -/
def TM.cut (T : TM) (k : Nat) : TM := fun a => match T a with
  | some (.box n) => if n < k then some (.box n) else none
  | t => t
section
variable {L : Lb} {T T' : TM} {k : Nat}
/-- T' has all that T has but places from k on -/
def TM.leC (k : Nat) (T T' : TM) : Prop := ∀ a t, T a = some t → (∀ n, t = .box n → n < k) → T' a = some t
theorem belowKey (k : Nat) : ∀ x : Key, (keyD x).bel k = true
  | .inl i => by simp [keyD, D.bel]
  | .inr x => by simp [keyD, D.bel]
mutual
theorem Rep.cut (h : T.leC k T') : ∀ {v : V} {d : D}, Rep L T v d → d.bel k = true → Rep L T' v d
  | _, _, .non, _ => .non
  | _, _, .bl b, _ => .bl b
  | _, _, .int i, _ => .int i
  | _, _, .str s, _ => .str s
  | _, _, .tup e l r, q => .tup (h _ _ e (fun _ z => nomatch z)) l (Reps.cut h r (by simpa only [D.bel] using q))
  | _, _, .lst e l r, q => .lst (h _ _ e (fun _ z => nomatch z)) l (Reps.cut h r (by simpa only [D.bel] using q))
  | _, _, .dctK e l r, q => .dctK (h _ _ e (fun _ z => nomatch z)) l (RepK.cut h r (by simpa only [D.bel] using q))
  | _, _, .dctT e l r, q => .dctT (h _ _ e (fun _ z => nomatch z)) l (RepT.cut h r (by simpa only [D.bel] using q))
  | _, _, .fam e, _ => .fam (h _ _ e (fun _ z => nomatch z))
  | _, _, .ref e, q => .ref (h _ _ e (fun n z => by cases z; simpa [D.bel, Nat.blt_eq] using q))
  | _, _, .cls n, _ => .cls n
  | _, _, .own c, _ => .own c
  | _, _, .scr e, _ => .scr (e.imp (fun ⟨o, z⟩ => ⟨o, h _ _ z (fun _ z => nomatch z)⟩) fun z => z)
theorem Reps.cut (h : T.leC k T') : ∀ {vs : List V} {ds : List D}, Reps L T vs ds → D.bels k ds = true → Reps L T' vs ds
  | _, _, .nil, _ => .nil
  | _, _, .cons r t, q => by
    simp only [D.bels, Bool.and_eq_true] at q
    exact .cons (Rep.cut h r q.1) (Reps.cut h t q.2)
theorem RepK.cut (h : T.leC k T') : ∀ {vs : List (Key × V)} {ds : List (D × D)}, RepK L T vs ds → D.belK k ds = true → RepK L T' vs ds
  | _, _, .nil, _ => .nil
  | _, _, .cons r t, q => by
    simp only [D.belK, D.belP, Bool.and_eq_true] at q
    exact .cons (Rep.cut h r q.1.2) (RepK.cut h t q.2)
theorem RepT.cut (h : T.leC k T') : ∀ {vs : List (List Key × V)} {ds : List (D × D)}, RepT L T vs ds → D.belK k ds = true → RepT L T' vs ds
  | _, _, .nil, _ => .nil
  | _, _, .cons l r t, q => by
    simp only [D.belK, D.belP, Bool.and_eq_true] at q
    exact .cons l (Rep.cut h r q.1.2) (RepT.cut h t q.2)
end
theorem RepF.cut (h : T.leC k T') : ∀ {vs : List (Str × V)} {ds : List (Str × D)}, RepF L T vs ds → (ds.all fun p => D.bel k p.2) = true → RepF L T' vs ds
  | _, _, .nil, _ => .nil
  | _, _, .cons r t, q => by
    simp only [List.all_cons, Bool.and_eq_true] at q
    exact .cons (r.cut h q.1) (RepF.cut h t q.2)
/-- all places spoken of are there -/
theorem belowKeys (k : Nat) : ∀ xs : List Key, D.bels k (xs.map keyD) = true
  | [] => by simp [D.bels]
  | x :: xs => by simp [D.bels, belowKey k x, belowKeys k xs]
mutual
theorem Rep.isBelow (hT : ∀ a n, T a = some (.box n) → n < k) (hF : ∀ a i, T a = some (.fam i) → i.lots.bel 0 = true) : ∀ {v : V} {d : D}, Rep L T v d → d.bel k = true
  | _, _, .non => by simp [D.bel]
  | _, _, .bl b => by simp [D.bel]
  | _, _, .int i => by simp [D.bel]
  | _, _, .str s => by simp [D.bel]
  | _, _, .tup e l r => by simp only [D.bel]; exact Reps.isBelow hT hF r
  | _, _, .lst e l r => by simp only [D.bel]; exact Reps.isBelow hT hF r
  | _, _, .dctK e l r => by simp only [D.bel]; exact RepK.isBelow hT hF r
  | _, _, .dctT e l r => by simp only [D.bel]; exact RepT.isBelow hT hF r
  | _, _, .fam e => by simp only [D.bel]; exact below_mono (Nat.zero_le _) _ (hF _ _ e)
  | _, _, .ref e => by simp only [D.bel]; simpa [Nat.blt_eq] using hT _ _ e
  | _, _, .cls n => by simp [D.bel]
  | _, _, .own c => by simp [D.bel]
  | _, _, .scr _ => by simp [D.bel]
theorem Reps.isBelow (hT : ∀ a n, T a = some (.box n) → n < k) (hF : ∀ a i, T a = some (.fam i) → i.lots.bel 0 = true) : ∀ {vs : List V} {ds : List D}, Reps L T vs ds → D.bels k ds = true
  | _, _, .nil => by simp [D.bels]
  | _, _, .cons r t => by simp only [D.bels, Bool.and_eq_true]; exact ⟨Rep.isBelow hT hF r, Reps.isBelow hT hF t⟩
theorem RepK.isBelow (hT : ∀ a n, T a = some (.box n) → n < k) (hF : ∀ a i, T a = some (.fam i) → i.lots.bel 0 = true) : ∀ {vs : List (Key × V)} {ds : List (D × D)}, RepK L T vs ds → D.belK k ds = true
  | _, _, .nil => by simp [D.belK]
  | _, _, .cons r t => by simp only [D.belK, D.belP, Bool.and_eq_true]; exact ⟨⟨belowKey k _, Rep.isBelow hT hF r⟩, RepK.isBelow hT hF t⟩
theorem RepT.isBelow (hT : ∀ a n, T a = some (.box n) → n < k) (hF : ∀ a i, T a = some (.fam i) → i.lots.bel 0 = true) : ∀ {vs : List (List Key × V)} {ds : List (D × D)}, RepT L T vs ds → D.belK k ds = true
  | _, _, .nil => by simp [D.belK]
  | _, _, .cons l r t => by simp only [D.belK, D.belP, D.bel, Bool.and_eq_true]; exact ⟨⟨belowKeys k _, Rep.isBelow hT hF r⟩, RepT.isBelow hT hF t⟩
end
theorem RepF.isBelow (hT : ∀ a n, T a = some (.box n) → n < k) (hF : ∀ a i, T a = some (.fam i) → i.lots.bel 0 = true) : ∀ {vs : List (Str × V)} {ds : List (Str × D)}, RepF L T vs ds → (ds.all fun p => D.bel k p.2) = true
  | _, _, .nil => by simp
  | _, _, .cons r t => by simp only [List.all_cons, Bool.and_eq_true]; exact ⟨Rep.isBelow hT hF r, RepF.isBelow hT hF t⟩
end
section
variable {L : Lb} {W W' : Wd} {st st' : Store} {H H' : Hp} {a b p : Addr} {o : HO} {t : Tag} {k : Nat}
theorem Ok.boxLt (x : Ok L W st H) (a : Addr) (n : Nat) (e : W.T a = some (.box n)) : n < st.length := by
  obtain ⟨_, c, h, _⟩ := x.tag a _ e
  exact (List.getElem?_eq_some_iff.mp h).1
theorem Ok.famP (x : Ok L W st H) (a : Addr) (i : FamI) (e : W.T a = some (.fam i)) : i.lots.bel 0 = true := (x.tag a _ e).2.2.2.2
theorem Ok.bel {v : V} {d : D} (x : Ok L W st H) (r : Rep L W.T v d) : d.bel st.length = true := r.isBelow x.boxLt x.famP
theorem CellOk.isBelow {T : TM} {c : Cell} (h : CellOk L T H a c) (hT : ∀ a n, T a = some (.box n) → n < k) (hF : ∀ a i, T a = some (.fam i) → i.lots.bel 0 = true) : c.bel k = true := by
  match c, h with
  | .lst xs, ⟨vs, _, _, r⟩ => exact r.isBelow hT hF
  | .dct false kvs, ⟨vs, _, _, r, _⟩ => exact r.isBelow hT hF
  | .dct true kvs, ⟨vs, _, _, r, _⟩ => exact r.isBelow hT hF
  | .ins c fs, ⟨dx, vs, _, _, _, r⟩ => exact r.isBelow hT hF
theorem CellOk.cut {T T' : TM} {c : Cell} (h : CellOk L T H a c) (hl : T.leC k T') (hb : c.bel k = true) : CellOk L T' H a c := by
  match c, h, hb with
  | .lst xs, ⟨vs, h1, h2, h3⟩, hb => exact ⟨vs, h1, h2, h3.cut hl hb⟩
  | .dct false kvs, ⟨vs, h1, h2, h3, h4⟩, hb => exact ⟨vs, h1, h2, h3.cut hl hb, h4⟩
  | .dct true kvs, ⟨vs, h1, h2, h3, h4⟩, hb => exact ⟨vs, h1, h2, h3.cut hl hb, h4⟩
  | .ins c fs, ⟨dx, vs, h1, h2, h3, h4⟩, hb => exact ⟨dx, vs, h1, hl _ _ h2 (fun _ z => nomatch z), h3, h4.cut hl hb⟩
/-- old places are as they were, or speak of old places only -/
def Kept (st st' : Store) : Prop := st.length ≤ st'.length ∧ ∀ i c, i < st.length → st'[i]? = some c → st[i]? = some c ∨ c.bel st.length = true
theorem TagOk.cut (h : TagOk L W st H a t) (hl : W.T.leC k W'.T) (hk : ∀ n c, t = .box n → st[n]? = some c → n < k ∧ W'.loc n = W.loc n ∧ st'[n]? = some c ∧ c.bel k = true) : TagOk L W' st' H a t := by
  cases t with
  | frz o => exact h
  | box n =>
    obtain ⟨h1, c, h2, h3⟩ := h
    obtain ⟨_, q2, q3, q4⟩ := hk n c rfl h2
    exact ⟨q2.trans h1, c, q3, h3.cut hl q4⟩
  | boxX b => exact h
  | fam i => exact ⟨h.1, hl _ _ h.2.1 (fun _ z => nomatch z), hl _ _ h.2.2.1 (fun _ z => nomatch z), h.2.2.2.1.cut hl (below_mono (Nat.zero_le _) _ h.2.2.2.2), h.2.2.2.2⟩
  | famD p =>
    obtain ⟨i, h1, h2, kvs, h3, h4, h5⟩ := h
    refine ⟨i, hl _ _ h1 (fun _ z => nomatch z), h2, kvs, h3, h4, fun x v q => ?_⟩
    obtain ⟨y, d, e1, e2, e3, e4⟩ := h5 x v q
    exact ⟨y, d, e1, e2, e3.cut hl (below_mono (Nat.zero_le _) _ e4), e4⟩
  | tmp o => exact h
theorem leC_cut (T : TM) (k : Nat) : T.leC k (T.cut k) := fun a t e n => by
  unfold TM.cut
  rw [e]
  cases t with
  | box m => show (if m < k then _ else _) = _; rw [if_pos (n m rfl)]
  | _ => rfl
theorem cut_some {T : TM} {k : Nat} {a : Addr} {t : Tag} (e : T.cut k a = some t) : T a = some t ∧ ∀ n, t = .box n → n < k := by
  unfold TM.cut at e
  cases q : T a with
  | none => rw [q] at e; cases e
  | some u =>
    rw [q] at e
    cases u with
    | box m =>
      have e : (if m < k then some (Tag.box m) else none) = some t := e
      by_cases hm : m < k
      · rw [if_pos hm] at e; cases e
        exact ⟨rfl, fun n z => by cases z; exact hm⟩
      · rw [if_neg hm] at e; cases e
    | _ => cases e; exact ⟨rfl, fun n z => nomatch z⟩
/-- a def's own places are given up -/
theorem Ok.cut (x : Ok L W st H) (y : Ok L W' st' H') (l : W.T.le W'.T) (kp : Kept st st') :
    Ok L ⟨W'.T.cut st.length, W'.loc⟩ (st'.take st.length) H' ∧ W.T.le (W'.T.cut st.length) := by
  have bt : ∀ n c, n < st.length → st'[n]? = some c → c.bel st.length = true := fun n c hn hc => by
    rcases kp.2 n c hn hc with z | z
    · obtain ⟨_, c', z', ok⟩ := x.tag _ _ (x.box n hn)
      rw [z] at z'; cases z'
      exact ok.isBelow x.boxLt x.famP
    · exact z
  refine ⟨⟨fun a t e => ?_, fun n hn => ?_⟩, fun a t e => ?_⟩
  · obtain ⟨e1, e2⟩ := cut_some e
    exact (y.tag a t e1).cut (W' := ⟨W'.T.cut st.length, W'.loc⟩) (leC_cut _ _) fun n c ht hc => ⟨e2 n ht, rfl, by rw [List.getElem?_take_of_lt (e2 n ht)]; exact hc, bt n c (e2 n ht) hc⟩
  · have hn' : n < st.length := by rw [List.length_take] at hn; omega
    have h1 := l _ _ (x.box n hn')
    have h2 : W'.loc n = W.loc n := by
      obtain ⟨z, _⟩ := y.tag _ _ h1
      exact z
    show W'.T.cut st.length (W'.loc n) = _
    rw [h2]
    exact leC_cut _ _ _ _ h1 fun m z => by cases z; exact hn'
  · exact leC_cut _ _ _ _ (l _ _ e) fun n z => by subst z; exact x.boxLt a n e
end

/-! ### a def by its body -/
open Classical in
/-- what a def's body is worth: as it stands -/
noncomputable def fnA (n N : Nat) (m : MS) : Fn := fun ds st => if ds.length = n then match m (ds.map some ++ List.replicate (N - n) none) st with
  | some (.ret d, _, st') => some (d, st')
  | some (.nx, _, st') => some (.non, st')
  | _ => none
  else none
/-- what is handed back, by value -/
def unbox (k : Nat) (st : Store) : D → Option D
  | .ref n => if n < k then some (.ref n) else match st[n]? with
    | some (.lst xs) => if D.bels k xs then some (.lst xs) else none
    | some (.dct t kvs) => if D.belK k kvs then some (.dct t kvs) else none
    | _ => none
  | d => if d.bel k then some d else none
theorem unbox_other {k : Nat} {st : Store} {d d' : D} (h : ∀ n, d ≠ .ref n) (e : unbox k st d = some d') : d.bel k = true ∧ d' = d := by
  unfold unbox at e
  split at e
  · exact (h _ rfl).elim
  · split at e
    · cases e; exact ⟨by assumption, rfl⟩
    · cases e
open Classical in
/-- .. its own places of the store given up -/
noncomputable def fnB (n N : Nat) (m : MS) : Fn := fun ds st => (fnA n N m ds st).bind fun p => if Kept st p.2 then (unbox st.length p.2 p.1).map fun d => (d, p.2.take st.length) else none

/-- behind a body the dict that it hands back is closed -/
theorem pss_seal {X : Cx} {b : List Stmt} {t : TS} (h : PSs X b t) :
    PSs X b (fun D σ H => t { D with rt := fun v H' => D.rt v H' ∨ ∃ d u, H' d = some u ∧ Mut (some u) ∧ ∀ od, D.rt v (upd H' d (.frz od u)) } σ H) := by
  refine ⟨fun pins s σ H D I hw => ?_⟩
  refine thn (h.run pins s σ H _ I hw) fun f s1 q => ?_
  cases f with
  | next => exact q
  | brk => exact q
  | cont => exact q
  | ret u =>
    obtain ⟨v, σ', H', I', r, z⟩ := q
    rcases z with z | ⟨d, o, hd, mu, z⟩
    · exact ⟨v, σ', H', I', r, z⟩
    · obtain ⟨od, I2⟩ := I'.lock hd mu
      exact ⟨v, σ', _, I2, r, z od⟩

section
variable {P : Program} {w : World} {K : PySem.W.Frag} {mg : Str → Option Value} {base : Heap} {L : Lb}
/-- a def of the text, where it stands -/
structure DAt (K : PySem.W.Frag) (mg : Str → Option Value) (x : Str) (st : Stmt) (ps : List Str) : Prop where
  ex : ∃ f fd, Fun K x x st f fd ∧ mg x = some (.ref f) ∧ Binds K fd ps []
theorem fnA_some {n N : Nat} {m : MS} {ds : List D} {st st' : Store} {d : D} (h : fnA n N m ds st = some (d, st')) : ds.length = n ∧ ∃ f ρ', m (ds.map some ++ List.replicate (N - n) none) st = some (f, ρ', st') ∧ (f = .ret d ∨ (f = .nx ∧ d = .non)) := by
  unfold fnA at h
  split at h
  · rename_i hl
    refine ⟨hl, ?_⟩
    split at h
    · rename_i d' ρ' st2 e
      cases h
      exact ⟨_, _, e, .inl rfl⟩
    · rename_i ρ' st2 e
      cases h
      exact ⟨_, _, e, .inr ⟨rfl, rfl⟩⟩
    · cases h
  · cases h
theorem start_eq {N : List Str} {vs : List V} {n : Nat} (h : vs.length = n) : L2.start N vs = vs.map some ++ List.replicate (N.length - n) none := by
  unfold L2.start; rw [h]
theorem fn_A {x qual : Str} {st : Stmt} {N ps : List Str} {k : Nat} {m : MS} {f : Addr} {fd : FuncData} (F : Fun K x qual st f fd) (S : FnScope N ps (defScope st))
    (hb : ∀ (f : Addr) (cdv : Value) (A : Around) (outer : List Env) (s : Shared) (H : Hp) (E : XK), Room k (A.deeper (envOfC qual (defScope st) s.heap.objs.size f cdv)) → PSs (cxOf CX0 P w K mg base N qual (defScope st) f cdv A outer s H E).nox (defBody st) (tS L m)) :
    FnOk P w K mg base CX0 (k + 1) f fd ps (spF L ps.length (fnA ps.length N.length m)) := by
  refine F.ok S (fun vs H Q E h => h.1) (fun cdv A outer s H vs Q E hr h => ?_)
  obtain ⟨hl, W, s0, ds, d, s1, ok, r, e, q⟩ := h
  obtain ⟨hn, fl, ρ', e, hf⟩ := fnA_some e
  refine ⟨_, hb f cdv A outer s H E hr, W, _, s0, fl, ρ', s1, ?_, ok, e, ?_⟩
  · rw [start_eq hl]
    exact RepE.start _ r
  · rcases hf with rfl | ⟨rfl, rfl⟩
    · exact fun W' v H' l' k' r' => q W' v H' l' k' r'
    · exact fun W' σ H' l' k' _ => q W' .non H' l' k' .non
theorem cal_A {x : Str} {st : Stmt} {N ps : List Str} {k : Nat} {m : MS} (D : DAt K mg x st ps) (S : FnScope N ps (defScope st))
    (hb : ∀ (f : Addr) (cdv : Value) (A : Around) (outer : List Env) (s : Shared) (H : Hp) (E : XK), Room k (A.deeper (envOfC x (defScope st) s.heap.objs.size f cdv)) → PSs (cxOf CX0 P w K mg base N x (defScope st) f cdv A outer s H E).nox (defBody st) (tS L m)) :
    Cal P w K mg base L x ps (k + 1) (fnA ps.length N.length m) := by
  obtain ⟨f, fd, F, hm, bd⟩ := D.ex
  exact ⟨f, fd, fn_A F S hb, hm, F.kp, bd⟩
theorem fnB_some {n N : Nat} {m : MS} {ds : List D} {st st' : Store} {d : D} (h : fnB n N m ds st = some (d, st')) : ∃ d' st1, fnA n N m ds st = some (d', st1) ∧ Kept st st1 ∧ unbox st.length st1 d' = some d ∧ st' = st1.take st.length := by
  unfold fnB at h
  obtain ⟨⟨d', st1⟩, e1, e⟩ := bindP h
  simp only at e
  split at e
  · rename_i hk
    cases e2 : unbox st.length st1 d' with
    | none => rw [e2] at e; cases e
    | some d2 => rw [e2] at e; cases e; exact ⟨_, _, e1, hk, e2, rfl⟩
  · cases e
theorem cut_other {T : TM} {k n : Nat} {a : Addr} (h : T a = some (.box n)) (hn : ¬ n < k) : T.cut k a = none := by
  unfold TM.cut
  rw [h]
  show (if n < k then _ else _) = _
  rw [if_neg hn]
/-- a tag is put where none is (no object changes) -/
theorem Ok.mark {W : Wd} {st : Store} {H : Hp} {a : Addr} {o : HO} (x : Ok L W st H) (h : W.T a = none) (ho : H a = some o) : Ok L ⟨W.T.put a (.frz o), W.loc⟩ st H ∧ W.T.le (W.T.put a (.frz o)) := by
  refine ⟨⟨fun b t e => ?_, fun n hn => TM.le_put h _ _ (x.box n hn)⟩, TM.le_put h⟩
  by_cases hb : b = a
  · subst hb
    rw [show (⟨W.T.put b (.frz o), W.loc⟩ : Wd).T b = some (.frz o) from TM.put_same] at e
    cases e; exact ho
  · have e2 : W.T b = some t := by rw [← TM.put_ne (T := W.T) (t := .frz o) hb]; exact e
    exact (x.tag b t e2).keep (W' := ⟨W.T.put a (.frz o), W.loc⟩) (TM.le_put h).leR (fun n c _ hc => ⟨rfl, hc⟩) rfl
/-- .. the object that is closed -/
theorem Ok.markU {W : Wd} {st : Store} {H : Hp} {a : Addr} {o : HO} (x : Ok L W st H) (h : W.T a = none) : Ok L ⟨W.T.put a (.frz o), W.loc⟩ st (upd H a o) ∧ W.T.le (W.T.put a (.frz o)) := by
  refine ⟨⟨fun b t e => ?_, fun n hn => TM.le_put h _ _ (x.box n hn)⟩, TM.le_put h⟩
  by_cases hb : b = a
  · subst hb
    rw [show (⟨W.T.put b (.frz o), W.loc⟩ : Wd).T b = some (.frz o) from TM.put_same] at e
    cases e; exact upd_same
  · have e2 : W.T b = some t := by rw [← TM.put_ne (T := W.T) (t := .frz o) hb]; exact e
    exact (x.tag b t e2).keep (W' := ⟨W.T.put a (.frz o), W.loc⟩) (TM.le_put h).leR (fun n c _ hc => ⟨rfl, hc⟩) (upd_ne hb)
theorem fn_B {x qual : Str} {st : Stmt} {N ps : List Str} {k : Nat} {m : MS} {f : Addr} {fd : FuncData} (F : Fun K x qual st f fd) (S : FnScope N ps (defScope st))
    (hb : ∀ (f : Addr) (cdv : Value) (A : Around) (outer : List Env) (s : Shared) (H : Hp) (E : XK), Room k (A.deeper (envOfC qual (defScope st) s.heap.objs.size f cdv)) → PSs (cxOf CX0 P w K mg base N qual (defScope st) f cdv A outer s H E).nox (defBody st) (tS L m)) :
    FnOk P w K mg base CX0 (k + 1) f fd ps (spF L ps.length (fnB ps.length N.length m)) := by
  refine F.ok S (fun vs H Q E h => h.1) (fun cdv A outer s H vs Q E hr h => ?_)
  obtain ⟨hl, W, s0, ds, d, s2, ok, r, e, q⟩ := h
  obtain ⟨d', s1, e2, kp, eu, e3⟩ := fnB_some e
  subst e3
  obtain ⟨hn, fl, ρ', e, hf⟩ := fnA_some e2
  refine ⟨_, pss_seal (hb f cdv A outer s H E hr), W, _, s0, fl, ρ', s1, ?_, ok, e, ?_⟩
  · rw [start_eq hl]
    exact RepE.start _ r
  · rcases hf with rfl | ⟨rfl, rfl⟩
    · intro W' v H' l' k' r'
      obtain ⟨oc, lc⟩ := ok.cut k' l' kp
      have plain : d'.bel s0.length = true → d = d' → Q v H' := fun hb he => by
        subst he
        exact q ⟨W'.T.cut s0.length, W'.loc⟩ v H' lc oc (r'.cut (leC_cut _ _) hb)
      cases r' with
      | @ref a n ha =>
        unfold unbox at eu
        simp only at eu
        by_cases hk : n < s0.length
        · rw [if_pos hk] at eu; cases eu
          exact .inl (plain (by simpa [Sm.D.bel, Nat.blt_eq] using hk) rfl)
        · rw [if_neg hk] at eu
          obtain ⟨_, c, hc, cok⟩ := k'.tag a _ ha
          rw [hc] at eu
          have hnone : (⟨W'.T.cut s0.length, W'.loc⟩ : Wd).T a = none := cut_other ha hk
          match c, cok, eu with
          | .lst xs, ⟨vs', h1, h2, h3⟩, eu =>
            simp only at eu
            split at eu
            · rename_i hbl
              cases eu
              obtain ⟨o2, l2⟩ := oc.mark hnone h1
              exact .inl (q _ _ H' (lc.trans l2) o2 (.lst TM.put_same h2 ((h3.cut (leC_cut _ _) hbl).mono l2.leR)))
            · cases eu
          | .dct false kvs, ⟨vs', h1, h2, h3, _⟩, eu =>
            simp only at eu
            split at eu
            · rename_i hbl
              cases eu
              refine .inr ⟨a, _, h1, True.intro, fun od => ?_⟩
              obtain ⟨o2, l2⟩ := oc.markU (o := .frz od (.dK vs')) hnone
              exact q _ _ _ (lc.trans l2) o2 (.dctK TM.put_same h2 ((h3.cut (leC_cut _ _) hbl).mono l2.leR))
            · cases eu
          | .dct true kvs, ⟨vs', h1, h2, h3, _⟩, eu =>
            simp only at eu
            split at eu
            · rename_i hbl
              cases eu
              refine .inr ⟨a, _, h1, True.intro, fun od => ?_⟩
              obtain ⟨o2, l2⟩ := oc.markU (o := .frz od (.dT vs')) hnone
              exact q _ _ _ (lc.trans l2) o2 (.dctT TM.put_same h2 ((h3.cut (leC_cut _ _) hbl).mono l2.leR))
            · cases eu
          | .ins c fs, _, eu => cases eu
      | _ =>
        obtain ⟨u1, u2⟩ := unbox_other (by intro n z; cases z) eu
        exact .inl (plain u1 u2)
    · intro W' σ H' l' k' _
      obtain ⟨oc, lc⟩ := ok.cut k' l' kp
      obtain ⟨_, u2⟩ := unbox_other (by intro n z; cases z) eu
      subst u2
      exact q ⟨W'.T.cut s0.length, W'.loc⟩ .non H' lc oc .non
theorem cal_B {x : Str} {st : Stmt} {N ps : List Str} {k : Nat} {m : MS} (D : DAt K mg x st ps) (S : FnScope N ps (defScope st))
    (hb : ∀ (f : Addr) (cdv : Value) (A : Around) (outer : List Env) (s : Shared) (H : Hp) (E : XK), Room k (A.deeper (envOfC x (defScope st) s.heap.objs.size f cdv)) → PSs (cxOf CX0 P w K mg base N x (defScope st) f cdv A outer s H E).nox (defBody st) (tS L m)) :
    Cal P w K mg base L x ps (k + 1) (fnB ps.length N.length m) := by
  obtain ⟨f, fd, F, hm, bd⟩ := D.ex
  exact ⟨f, fd, fn_B F S hb, hm, F.kp, bd⟩
end
end Sm
/-! ## SimE -/
/-! Sm, part E: operators, comparisons, built-ins: their plain meanings. -/
namespace Sm
open PySem PySem.Spec PyProof.Rows L2

def big : Nat := 1000000
theorem big_line : big ≤ sizeLine := by decide

namespace F
/-- the items of a tuple, a list, a list of the store -/
def seq (st : Store) : D → Option (List D)
  | .tup xs => some xs
  | .lst xs => some xs
  | .ref n => match st[n]? with | some (.lst xs) => some xs | _ => none
  | _ => none
def lstOf (st : Store) : D → Option (List D)
  | .lst xs => some xs
  | .ref n => match st[n]? with | some (.lst xs) => some xs | _ => none
  | _ => none
end F

section
variable {L : Lb} {X : Cx} {W : Wd} {st : Store} {H : Hp} {v : V} {d : D}
theorem lstOf_rep (k : Ok L W st H) (r : Rep L W.T v d) {xs : List D} (e : F.lstOf st d = some xs) : ∃ a vs, v = .ref a ∧ H a = some (.lst vs) ∧ vs.length ≤ sizeLine ∧ Reps L W.T vs xs := by
  cases r with
  | lst h l r => cases e; exact ⟨_, _, rfl, k.tag _ _ h, l, r⟩
  | @ref a n h =>
    obtain ⟨_, c, hc, ok⟩ := k.tag _ _ h
    simp only [F.lstOf, hc] at e
    cases c with
    | lst ys => cases e; obtain ⟨vs, h1, h2, h3⟩ := ok; exact ⟨a, vs, rfl, h1, h2, h3⟩
    | _ => cases e
  | _ => cases e
theorem seq_rep {K : PySem.W.Frag} (k : Ok L W st H) (r : Rep L W.T v d) {xs : List D} (e : F.seq st d = some xs) : ∃ a vs, v = .ref a ∧ (SqL K H a vs ∨ SqT K H a vs) ∧ vs.length ≤ sizeLine ∧ Reps L W.T vs xs := by
  cases r with
  | tup h l r => cases e; exact ⟨_, _, rfl, .inr (SqT.of (k.tag _ _ h)), l, r⟩
  | lst h l r => cases e; exact ⟨_, _, rfl, .inl (SqL.of (k.tag _ _ h)), l, r⟩
  | @ref a n h =>
    obtain ⟨_, c, hc, ok⟩ := k.tag _ _ h
    simp only [F.seq, hc] at e
    cases c with
    | lst ys => cases e; obtain ⟨vs, h1, h2, h3⟩ := ok; exact ⟨a, vs, rfl, .inl (SqL.of h1), h2, h3⟩
    | _ => cases e
  | _ => cases e
theorem fresh_lst (k : Ok L W st H) {vs : List V} {ds : List D} (r : Reps L W.T vs ds) (hz : vs.length ≤ sizeLine) {Q : VK} (q : ∀ W' v H', W.T.le W'.T → Ok L W' st H' → Rep L W'.T v (.lst ds) → Q v H') : ∀ p, H p = none → Q (.ref p) (upd H p (.lst vs)) := fun p hp =>
  q ⟨W.T.put p (.frz (.lst vs)), W.loc⟩ _ _ (k.le_frz hp) (k.frz hp) (.lst TM.put_same hz (r.mono (k.le_frz hp).leR))
theorem fresh_tup (k : Ok L W st H) {vs : List V} {ds : List D} (r : Reps L W.T vs ds) (hz : vs.length ≤ sizeLine) {Q : VK} (q : ∀ W' v H', W.T.le W'.T → Ok L W' st H' → Rep L W'.T v (.tup ds) → Q v H') : ∀ p, H p = none → Q (.ref p) (upd H p (.tup vs)) := fun p hp =>
  q ⟨W.T.put p (.frz (.tup vs)), W.loc⟩ _ _ (k.le_frz hp) (k.frz hp) (.tup TM.put_same hz (r.mono (k.le_frz hp).leR))
theorem fresh_box (k : Ok L W st H) {vs : List V} {ds : List D} (r : Reps L W.T vs ds) (hz : vs.length ≤ sizeLine) {Q : VK} (q : ∀ W' v H', W.T.le W'.T → Ok L W' (st ++ [.lst ds]) H' → Rep L W'.T v (.ref st.length) → Q v H') : ∀ p, H p = none → Q (.ref p) (upd H p (.lst vs)) := fun p hp => by
  have le : W.T.le (W.T.put p (.box st.length)) := TM.le_put (k.noT hp)
  exact q ⟨W.T.put p (.box st.length), fun n => if n = st.length then p else W.loc n⟩ _ _ le (k.push hp ⟨vs, upd_same, hz, r.mono le.leR⟩) (.ref TM.put_same)
end

namespace F
/-! ### numbers -/
def add : Store → D → D → Option D := fun st a b => match a, b with
  | .int i, .int j => some (.int (i + j))
  | .str x, .str y => if x.length + y.length ≤ big then some (.str (x ++ y)) else none
  | .tup xs, .tup ys => if xs.length + ys.length ≤ big then some (.tup (xs ++ ys)) else none
  | a, b => match lstOf st a, lstOf st b with | some xs, some ys => if xs.length + ys.length ≤ big then some (.lst (xs ++ ys)) else none | _, _ => none
def sub : Store → D → D → Option D := fun _ a b => match a, b with | .int i, .int j => some (.int (i - j)) | _, _ => none
def mul : Store → D → D → Option D := fun _ a b => match a, b with | .int i, .int j => if i.natAbs < 2 ^ 64 ∨ j.natAbs < 2 ^ 64 then some (.int (i * j)) else none | _, _ => none
def fdiv : Store → D → D → Option D := fun _ a b => match a, b with | .int i, .int j => if 0 < j ∧ j < 1073741824 then some (.int (i / j)) else none | _, _ => none
def mod : Store → D → D → Option D := fun _ a b => match a, b with | .int i, .int j => if 0 < j then some (.int (i % j)) else none | _, _ => none
def pow : Store → D → D → Option D := fun _ a b => match a, b with | .int i, .int j => if 0 ≤ j ∧ j ≤ 1000000 ∧ i.natAbs < 2 ^ 64 then some (.int (i ^ j.toNat)) else none | _, _ => none
def shl : Store → D → D → Option D := fun _ a b => match a, b with | .int i, .int j => if 0 ≤ j ∧ j ≤ 1000000 ∧ i.natAbs < 2 ^ 64 then some (.int (i * 2 ^ j.toNat)) else none | _, _ => none
def shr : Store → D → D → Option D := fun _ a b => match a, b with | .int i, .int j => if 0 ≤ j then some (.int (i / 2 ^ j.toNat)) else none | _, _ => none
def band : Store → D → D → Option D := fun _ a b => match a, b with | .int i, .int j => some (.int (Builtin.bitAnd i j)) | _, _ => none
def bxor : Store → D → D → Option D := fun _ a b => match a, b with | .int i, .int j => some (.int (Builtin.bitXor i j)) | _, _ => none
def neg : Store → D → Option D := fun _ a => match a with | .int i => some (.int (-i)) | _ => none
def inv : Store → D → Option D := fun _ a => match a with | .int i => some (.int (Builtin.bitNot i)) | _ => none
/-! ### order -/
def intL : List D → Option (List Int)
  | [] => some []
  | .int i :: r => (intL r).map (i :: ·)
  | _ => none
def lt : Store → D → D → Option D := fun _ a b => match a, b with
  | .int i, .int j => some (.bl (decide (i < j)))
  | .tup xs, .tup ys => (intL xs).bind fun ns => (intL ys).map fun ms => .bl (HT.lexLt ns ms)
  | _, _ => none
def le : Store → D → D → Option D := fun _ a b => match a, b with | .int i, .int j => some (.bl (decide (i ≤ j))) | _, _ => none
def gt : Store → D → D → Option D := fun _ a b => match a, b with | .int i, .int j => some (.bl (decide (j < i))) | _, _ => none
def ge : Store → D → D → Option D := fun _ a b => match a, b with | .int i, .int j => some (.bl (decide (j ≤ i))) | _, _ => none
/-! ### what is data, equality -/
mutual
def toPy : D → PyData
  | .bl b => .bool b
  | .int i => .int i
  | .str s => .str s
  | .tup xs => .tuple (toPys xs)
  | .lst xs => .list (toPys xs)
  | _ => .none
def toPys : List D → List PyData
  | [] => []
  | d :: ds => toPy d :: toPys ds
end
/-- data, nested at most n deep -/
def dat : Nat → D → Bool
  | _, .non => true
  | _, .bl _ => true
  | _, .int _ => true
  | _, .str s => PyData.strOk s
  | n + 1, .tup xs => xs.all (dat n)
  | n + 1, .lst xs => xs.all (dat n)
  | _, _ => false
def deep : Nat := 12
def eqD (a b : D) : Bool := PyData.eqv (toPy a) (toPy b)
def eq : Store → D → D → Option D := fun _ a b => match a, b with
  | .fam n l, .fam m k => if dat deep l = true ∧ dat deep k = true then some (.bl (decide (n = m) && eqD l k)) else none
  | a, b => if dat deep a = true ∧ dat deep b = true then some (.bl (eqD a b)) else none
def ne : Store → D → D → Option D := fun st a b => (eq st a b).bind fun r => match r with | .bl k => some (.bl (!k)) | _ => none
/-- == of data alone -/
def eq0 : Store → D → D → Option D := fun _ a b => if dat deep a = true ∧ dat deep b = true then some (.bl (eqD a b)) else none
def ne0 : Store → D → D → Option D := fun _ a b => if dat deep a = true ∧ dat deep b = true then some (.bl (!eqD a b)) else none
def isNon : D → Bool
  | .non => true
  | _ => false
def is_ : Store → D → D → Option D := fun _ a b => match a, b with
  | .bl x, .bl y => some (.bl (decide (x = y)))
  | a, .non => some (.bl (isNon a))
  | _, _ => none
def isNot : Store → D → D → Option D := fun _ a b => match a, b with
  | .bl x, .bl y => some (.bl (!decide (x = y)))
  | a, .non => some (.bl (!isNon a))
  | _, _ => none
/-! ### dicts by keys -/
abbrev DKey := Sum Key (List Key)
def flatK : D → Option Key
  | .int i => some (.inl i)
  | .str x => some (.inr x)
  | _ => none
def flatKs : List D → Option (List Key)
  | [] => some []
  | d :: r => (flatK d).bind fun k => (flatKs r).map (k :: ·)
def keyK : D → Option DKey
  | .int i => some (.inl (.inl i))
  | .str x => some (.inl (.inr x))
  | .tup xs => (flatKs xs).map .inr
  | _ => none
def look (kvs : List (D × D)) (k : D) : Option D := (kvs.find? fun p => decide (keyK p.1 = keyK k)).map (·.2)
def put (kvs : List (D × D)) (k v : D) : List (D × D) :=
  if (kvs.any fun p => decide (keyK p.1 = keyK k)) = true then kvs.map (fun p => if keyK p.1 = keyK k then (p.1, v) else p) else kvs ++ [(k, v)]
def dctOf (st : Store) : D → Option (Bool × List (D × D))
  | .dct t kvs => some (t, kvs)
  | .ref n => match st[n]? with | some (.dct t kvs) => some (t, kvs) | _ => none
  | _ => none
/-- the kind of a key: a number or a text; a tuple of such -/
def kindOk (t : Bool) (k : D) : Bool := match keyK k with
  | some (.inl _) => !t
  | some (.inr _) => t
  | none => false
/-- x in what: a dict; a list, a tuple of data -/
def in_ : Store → D → D → Option D := fun st x c => match dctOf st c with
  | some kvs => if kindOk kvs.1 x = true then some (.bl (look kvs.2 x).isSome) else none
  | none => match seq st c with
    | some xs => if dat deep x = true ∧ (xs.all (dat deep)) = true then some (.bl (xs.any fun y => eqD y x)) else none
    | none => none
def notIn : Store → D → D → Option D := fun st x c => (in_ st x c).bind fun r => match r with | .bl k => some (.bl (!k)) | _ => none
/-! ### items -/
def ix : Store → D → D → Option D := fun st a i => match dctOf st a with
  | some kvs => if kindOk kvs.1 i = true then look kvs.2 i else none
  | none => match i with
    | .int j => (seq st a).bind fun xs => atI xs j
    | _ => none
def cut (xs : List D) (lo hi : Option Int) : List D := (xs.drop (HT.sIx xs.length 0 lo)).take (HT.sIx xs.length xs.length hi - HT.sIx xs.length 0 lo)
def slice (st : Store) (a : D) (lo hi : Option Int) : Option D := match a with
  | .tup xs => some (.tup (cut xs lo hi))
  | a => (lstOf st a).map fun xs => .lst (cut xs lo hi)
end F
namespace E
def part (a : Option ME) : Ev → Store → Option (Option Int × Store) := fun ρ st => match a with
  | none => some (none, st)
  | some m => (m ρ st).bind fun p => match p.1 with | .int i => some (some i, p.2) | _ => none
def slice (a : ME) (lo hi : Option ME) : ME := fun ρ st => (a ρ st).bind fun p => (part lo ρ p.2).bind fun l => (part hi ρ l.2).bind fun h => (F.slice h.2 p.1 l.1 h.1).map fun r => (r, h.2)
end E

section
variable {L : Lb} {X : Cx} {pos : Pos}
/-! ### arithmetic -/
theorem r2_int {f : Value → Value → Sem Value} {g : Store → D → D → Option D} {C : Int → Int → Prop} {z : Int → Int → Int} (ho : OpR X f (rI C fun i j => .int (z i j)))
    (hg : ∀ st a b r, g st a b = some r → ∃ i j, a = .int i ∧ b = .int j ∧ C i j ∧ r = .int (z i j)) : OpR X f (r2 L g) := by
  intro pins s σ H x y v u Q I rx ry ⟨W, st, d, e, r, k, r1, r2, ef, q⟩
  obtain ⟨i, j, rfl, rfl, c, rfl⟩ := hg _ _ _ _ ef
  cases r1
  cases r2
  exact ho pins s σ H _ _ v u Q I rx ry ⟨i, j, rfl, rfl, c, q W _ H TM.le.rfl k (.int _)⟩
theorem r2_intB {f : Value → Value → Sem Value} {g : Store → D → D → Option D} {z : Int → Int → Bool} (ho : OpR X f (rI0 fun i j => .bl (z i j)))
    (hg : ∀ st a b r, g st a b = some r → ∃ i j, a = .int i ∧ b = .int j ∧ r = .bl (z i j)) : OpR X f (r2 L g) := by
  intro pins s σ H x y v u Q I rx ry ⟨W, st, d, e, r, k, r1, r2, ef, q⟩
  obtain ⟨i, j, rfl, rfl, rfl⟩ := hg _ _ _ _ ef
  cases r1
  cases r2
  exact ho pins s σ H _ _ v u Q I rx ry ⟨i, j, rfl, rfl, q W _ H TM.le.rfl k (.bl _)⟩
theorem of_int0 {f : Value → Value → Sem Value} {z : Int → Int → V} (ho : OpR X f (rI0 z)) : OpR X f (rI (fun _ _ => True) z) := ho.imp fun x y H Q ⟨i, j, a, b, _, q⟩ => ⟨i, j, a, b, q⟩
theorem o_sub : OpR X (binaryOp .Sub) (r2 L F.sub) := r2_int (z := fun i j => i - j) (of_int0 op_sub) fun st a b r e => by
  unfold F.sub at e; split at e <;> first | (cases e; exact ⟨_, _, rfl, rfl, True.intro, rfl⟩) | cases e
theorem o_mul : OpR X (binaryOp .Mult) (r2 L F.mul) := r2_int (z := fun i j => i * j) op_mul fun st a b r e => by
  unfold F.mul at e
  split at e
  · split at e
    · rename_i h
      cases e
      refine ⟨_, _, rfl, rfl, ?_, rfl⟩
      rcases h with h | h
      · exact .inl (by omega)
      · exact .inr (by omega)
    · cases e
  · cases e
theorem o_fdiv : OpR X (binaryOp .FloorDiv) (r2 L F.fdiv) := r2_int (z := fun i j => i / j) op_fdiv fun st a b r e => by
  unfold F.fdiv at e
  split at e
  · split at e
    · rename_i h; cases e; exact ⟨_, _, rfl, rfl, h, rfl⟩
    · cases e
  · cases e
theorem o_mod : OpR X (binaryOp .Mod) (r2 L F.mod) := r2_int (z := fun i j => i % j) op_mod fun st a b r e => by
  unfold F.mod at e
  split at e
  · split at e
    · rename_i h; cases e; exact ⟨_, _, rfl, rfl, h, rfl⟩
    · cases e
  · cases e
theorem o_pow : OpR X (binaryOp .Pow) (r2 L F.pow) := r2_int (z := fun i j => i ^ j.toNat) op_pow fun st a b r e => by
  unfold F.pow at e
  split at e
  · split at e
    · rename_i h; cases e; exact ⟨_, _, rfl, rfl, h, rfl⟩
    · cases e
  · cases e
theorem o_shl : OpR X (binaryOp .LShift) (r2 L F.shl) := r2_int (z := fun i j => i * 2 ^ j.toNat) op_shl fun st a b r e => by
  unfold F.shl at e
  split at e
  · split at e
    · rename_i h; cases e; exact ⟨_, _, rfl, rfl, h, rfl⟩
    · cases e
  · cases e
theorem o_shr : OpR X (binaryOp .RShift) (r2 L F.shr) := r2_int (z := fun i j => i / 2 ^ j.toNat) op_shr fun st a b r e => by
  unfold F.shr at e
  split at e
  · split at e
    · rename_i h; cases e; exact ⟨_, _, rfl, rfl, h, rfl⟩
    · cases e
  · cases e
theorem o_band : OpR X (binaryOp .BitAnd) (r2 L F.band) := r2_int (z := fun i j => Builtin.bitAnd i j) (of_int0 op_and) fun st a b r e => by
  unfold F.band at e; split at e <;> first | (cases e; exact ⟨_, _, rfl, rfl, True.intro, rfl⟩) | cases e
theorem o_bxor : OpR X (binaryOp .BitXor) (r2 L F.bxor) := r2_int (z := fun i j => Builtin.bitXor i j) (of_int0 op_xor) fun st a b r e => by
  unfold F.bxor at e; split at e <;> first | (cases e; exact ⟨_, _, rfl, rfl, True.intro, rfl⟩) | cases e
theorem u_neg : UnR X (unaryOp .USub) (r1 L F.neg) := by
  intro pins s σ H x v Q I rx ⟨W, st, d, r, k, r1, ef, q⟩
  unfold F.neg at ef
  split at ef
  · cases ef; cases r1; exact un_neg pins s σ H _ v Q I rx ⟨_, rfl, q W _ H TM.le.rfl k (.int _)⟩
  · cases ef
theorem u_inv : UnR X (unaryOp .Invert) (r1 L F.inv) := by
  intro pins s σ H x v Q I rx ⟨W, st, d, r, k, r1, ef, q⟩
  unfold F.inv at ef
  split at ef
  · cases ef; cases r1; exact un_inv pins s σ H _ v Q I rx ⟨_, rfl, q W _ H TM.le.rfl k (.int _)⟩
  · cases ef
theorem o_add : OpR X (binaryOp .Add) (r2 L F.add) := by
  intro pins s σ H x y v u Q I rx ry ⟨W, st, d, e, r, k, r1, r2, ef, q⟩
  unfold F.add at ef
  split at ef
  · cases ef; cases r1; cases r2
    exact op_add pins s σ H _ _ v u Q I rx ry ⟨_, _, rfl, rfl, q W _ H TM.le.rfl k (.int _)⟩
  · split at ef
    · rename_i h
      cases ef; cases r1; cases r2
      exact op_add_str pins s σ H _ _ v u Q I rx ry ⟨_, _, rfl, rfl, Nat.le_trans h big_line, q W _ H TM.le.rfl k (.str _)⟩
    · cases ef
  · split at ef
    · rename_i h
      cases ef
      cases r1 with
      | tup h1 l1 r1 =>
        cases r2 with
        | tup h2 l2 r2 =>
          have hz : _ ≤ sizeLine := Nat.le_trans h big_line
          rw [← r1.length, ← r2.length] at hz
          refine op_catA pins s σ H _ _ v u Q I rx ry ⟨_, _, _, _, rfl, rfl, SqT.of (k.tag _ _ h1), SqT.of (k.tag _ _ h2), hz, fun e => ?_, fun _ e => ?_, fun _ _ => ?_⟩
          · subst e; cases r1
            exact q W _ H TM.le.rfl k (.tup h2 l2 r2)
          · subst e; cases r2
            exact q W _ H TM.le.rfl k (.tup h1 l1 (by simpa using r1))
          · exact fresh_tup k (r1.append r2) (by simpa using hz) q
    · cases ef
  · split at ef
    · rename_i xs ys e1 e2
      split at ef
      · rename_i h
        cases ef
        obtain ⟨a, vs, rfl, h1, l1, q1⟩ := lstOf_rep k r1 e1
        obtain ⟨b, ws, rfl, h2, l2, q2⟩ := lstOf_rep k r2 e2
        have hz : _ ≤ sizeLine := Nat.le_trans h big_line
        rw [← q1.length, ← q2.length] at hz
        exact op_cat pins s σ H _ _ v u Q I rx ry ⟨_, _, _, _, rfl, rfl, h1, h2, hz, fresh_lst k (q1.append q2) (by simpa using hz) q⟩
      · cases ef
    · cases ef
/-! ### comparisons -/
theorem ints_rep {T : TM} : ∀ {xs : List D} {ns : List Int} {vs : List V}, F.intL xs = some ns → Reps L T vs xs → vs = ns.map V.int
  | [], _, _, e, r => by cases e; cases r; rfl
  | .int i :: r, ns, _, e, .cons r1 rs => by
    unfold F.intL at e
    cases e2 : F.intL r with
    | none => rw [e2] at e; cases e
    | some ms => rw [e2] at e; cases e; cases r1; rw [ints_rep e2 rs]; rfl
theorem o_lt (hu : X.A.units < cLine) : OpR X (compareOp .Lt) (r2 L F.lt) := by
  intro pins s σ H x y v u Q I rx ry ⟨W, st, d, e, r, k, r1, r2, ef, q⟩
  unfold F.lt at ef
  split at ef
  · cases ef; cases r1; cases r2
    exact op_lt pins s σ H _ _ v u Q I rx ry ⟨_, _, rfl, rfl, q W _ H TM.le.rfl k (.bl _)⟩
  · obtain ⟨ns, e1, ef⟩ := bindP ef
    cases e2 : F.intL _ with
    | none => rw [e2] at ef; cases ef
    | some ms =>
      rw [e2] at ef; cases ef
      cases r1 with
      | tup h1 l1 r1 =>
        cases r2 with
        | tup h2 l2 r2 =>
          have z1 := ints_rep e1 r1
          have z2 := ints_rep e2 r2
          subst z1 z2
          exact op_ltT hu pins s σ H _ _ v u Q I rx ry ⟨_, _, ns, ms, rfl, rfl, SqT.of (k.tag _ _ h1), SqT.of (k.tag _ _ h2), q W _ H TM.le.rfl k (.bl _)⟩
  · cases ef
theorem o_le : OpR X (compareOp .LtE) (r2 L F.le) := r2_intB op_le fun st a b r e => by
  unfold F.le at e; split at e <;> first | (cases e; exact ⟨_, _, rfl, rfl, rfl⟩) | cases e
theorem o_gt : OpR X (compareOp .Gt) (r2 L F.gt) := r2_intB op_gt fun st a b r e => by
  unfold F.gt at e; split at e <;> first | (cases e; exact ⟨_, _, rfl, rfl, rfl⟩) | cases e
theorem o_ge : OpR X (compareOp .GtE) (r2 L F.ge) := r2_intB op_ge fun st a b r e => by
  unfold F.ge at e; split at e <;> first | (cases e; exact ⟨_, _, rfl, rfl, rfl⟩) | cases e

/-! ### data -/
theorem dat_lay : ∀ (n : Nat) (d : D), F.dat n d = true → PyData.canLay0 (F.toPy d) = true := by
  intro n
  induction n with
  | zero =>
    intro d h
    cases d with
    | str s => simpa [F.toPy, PyData.canLay0, F.dat] using h
    | _ => first | (simp [F.toPy, PyData.canLay0]; done) | simp [F.dat] at h
  | succ n ihn =>
    intro d h
    have all : ∀ xs : List D, (∀ x ∈ xs, F.dat n x = true) → PyData.canLayAll0 (F.toPys xs) = true := by
      intro xs
      induction xs with
      | nil => intro _; simp [F.toPys, PyData.canLayAll0]
      | cons d ds ih =>
        intro h
        simp only [F.toPys, PyData.canLayAll0, Bool.and_eq_true]
        exact ⟨ihn d (h d List.mem_cons_self), ih fun x hx => h x (List.mem_cons_of_mem _ hx)⟩
    cases d with
    | str s => simpa [F.toPy, PyData.canLay0, F.dat] using h
    | tup xs => simp only [F.dat, List.all_eq_true] at h; simp only [F.toPy, PyData.canLay0]; exact all xs h
    | lst xs => simp only [F.dat, List.all_eq_true] at h; simp only [F.toPy, PyData.canLay0]; exact all xs h
    | _ => first | (simp [F.toPy, PyData.canLay0]; done) | simp [F.dat] at h
theorem dat_lays (n : Nat) : ∀ xs : List D, (∀ d ∈ xs, F.dat n d = true) → PyData.canLayAll0 (F.toPys xs) = true
  | [], _ => by simp [F.toPys, PyData.canLayAll0]
  | d :: ds, h => by
    simp only [F.toPys, PyData.canLayAll0, Bool.and_eq_true]
    exact ⟨dat_lay n d (h d List.mem_cons_self), dat_lays n ds fun x hx => h x (List.mem_cons_of_mem _ hx)⟩
theorem dat_depth : ∀ (n : Nat) (d : D), F.dat n d = true → PyData.depth (F.toPy d) ≤ n + 1 := by
  intro n
  induction n with
  | zero =>
    intro d h
    cases d with
    | _ => first | (simp [F.toPy, PyData.depth]; done) | simp [F.dat] at h
  | succ n ihn =>
    intro d h
    have all : ∀ xs : List D, (∀ x ∈ xs, F.dat n x = true) → PyData.depthAll (F.toPys xs) ≤ n + 1 := by
      intro xs
      induction xs with
      | nil => intro _; simp [F.toPys, PyData.depthAll]
      | cons d ds ih =>
        intro h
        have h1 := ihn d (h d List.mem_cons_self)
        have h2 := ih fun x hx => h x (List.mem_cons_of_mem _ hx)
        simp only [F.toPys, PyData.depthAll]
        omega
    cases d with
    | tup xs => simp only [F.dat, List.all_eq_true] at h; simp only [F.toPy, PyData.depth]; have := all xs h; omega
    | lst xs => simp only [F.dat, List.all_eq_true] at h; simp only [F.toPy, PyData.depth]; have := all xs h; omega
    | _ => first | (simp [F.toPy, PyData.depth]; done) | simp [F.dat] at h
theorem dat_depths (n : Nat) : ∀ xs : List D, (∀ d ∈ xs, F.dat n d = true) → PyData.depthAll (F.toPys xs) ≤ n + 1
  | [], _ => by simp [F.toPys, PyData.depthAll]
  | d :: ds, h => by
    have h1 := dat_depth n d (h d List.mem_cons_self)
    have h2 := dat_depths n ds fun x hx => h x (List.mem_cons_of_mem _ hx)
    simp only [F.toPys, PyData.depthAll]
    omega
theorem dat_shaped {d : D} (h : F.dat F.deep d = true) : SeqAt.shaped (F.toPy d) = true := by
  have h1 := dat_depth _ d h
  have e : F.deep = 12 := rfl
  show ((F.toPy d).canLay0 && decide ((F.toPy d).depth ≤ 64)) = true
  rw [Bool.and_eq_true]
  exact ⟨dat_lay _ d h, decide_eq_true (by omega)⟩
theorem dats_shaped {xs : List D} (h : ∀ d ∈ xs, F.dat F.deep d = true) : SeqAt.shaped (.list (F.toPys xs)) = true := by
  have h1 := dat_depths _ xs h
  have e : F.deep = 12 := rfl
  show (PyData.canLay0 (.list _) && decide (PyData.depth (.list _) ≤ 64)) = true
  rw [Bool.and_eq_true]
  refine ⟨by simp only [PyData.canLay0]; exact dat_lays _ xs h, decide_eq_true ?_⟩
  simp only [PyData.depth]; omega
theorem dat_dp {W : Wd} {st : Store} {H : Hp} {K : PySem.W.Frag} (k : Ok L W st H) : ∀ (n : Nat) (d : D) (v : V), F.dat n d = true → Rep L W.T v d → Dp K H v (F.toPy d) := by
  intro n
  induction n with
  | zero =>
    intro d v h r
    cases r <;> first | exact .non | exact .bl _ | exact .int _ | exact .str _ | simp [F.dat] at h
  | succ n ihn =>
    intro d v h r
    have all : ∀ (xs : List D) (vs : List V), (∀ x ∈ xs, F.dat n x = true) → Reps L W.T vs xs → DpAll K H vs (F.toPys xs) := by
      intro xs
      induction xs with
      | nil => intro vs _ r; cases r; exact .nil
      | cons d ds ih =>
        intro vs h r
        cases r with | cons r1 rs => exact .cons (ihn d _ (h d List.mem_cons_self) r1) (ih _ (fun x hx => h x (List.mem_cons_of_mem _ hx)) rs)
    cases r with
    | tup h1 l1 rs => simp only [F.dat, List.all_eq_true] at h; exact .tup (SqT.of (k.tag _ _ h1)) (all _ _ h rs)
    | lst h1 l1 rs => simp only [F.dat, List.all_eq_true] at h; exact .lst (SqL.of (k.tag _ _ h1)) (all _ _ h rs)
    | _ => first | exact .non | exact .bl _ | exact .int _ | exact .str _ | simp [F.dat] at h
theorem dats_dp {W : Wd} {st : Store} {H : Hp} {K : PySem.W.Frag} (k : Ok L W st H) (n : Nat) : ∀ (xs : List D) (vs : List V), (∀ d ∈ xs, F.dat n d = true) → Reps L W.T vs xs → DpAll K H vs (F.toPys xs)
  | [], _, _, r => by cases r; exact .nil
  | d :: ds, _, h, r => by cases r with | cons r1 rs => exact .cons (dat_dp k n d _ (h d List.mem_cons_self) r1) (dats_dp k n ds _ (fun x hx => h x (List.mem_cons_of_mem _ hx)) rs)
theorem o_eq0 (hu : X.A.units + 64 < cLine) : OpR X (compareOp .Eq) (r2 L F.eq0) := by
  intro pins s σ H x y v u Q I rx ry ⟨W, st, d, e, r, k, r1, r2, ef, q⟩
  unfold F.eq0 at ef
  split at ef
  · rename_i h
    cases ef
    exact op_eqD hu pins s σ H _ _ v u Q I rx ry ⟨_, _, dat_dp k _ d x h.1 r1, dat_dp k _ e y h.2 r2, dat_shaped h.1, dat_shaped h.2, q W _ H TM.le.rfl k (.bl _)⟩
  · cases ef
theorem o_ne0 (hu : X.A.units + 64 < cLine) : OpR X (compareOp .NotEq) (r2 L F.ne0) := by
  intro pins s σ H x y v u Q I rx ry ⟨W, st, d, e, r, k, r1, r2, ef, q⟩
  unfold F.ne0 at ef
  split at ef
  · rename_i h
    cases ef
    exact op_neD hu pins s σ H _ _ v u Q I rx ry ⟨_, _, dat_dp k _ d x h.1 r1, dat_dp k _ e y h.2 r2, dat_shaped h.1, dat_shaped h.2, q W _ H TM.le.rfl k (.bl _)⟩
  · cases ef
theorem rep_isNon {T : TM} {v : V} {d : D} (r : Rep L T v d) : decide (v = V.non) = F.isNon d := by
  cases r <;> rfl
theorem o_is : OpR X (compareOp .Is) (r2 L F.is_) := by
  intro pins s σ H x y v u Q I rx ry ⟨W, st, d, e, r, k, r1, r2, ef, q⟩
  unfold F.is_ at ef
  split at ef
  · cases ef; cases r1; cases r2
    exact op_isBl pins s σ H _ _ v u Q I rx ry ⟨_, _, rfl, rfl, q W _ H TM.le.rfl k (.bl _)⟩
  · cases ef; cases r2
    refine op_isN pins s σ H _ _ v u Q I rx ry ⟨rfl, ?_⟩
    rw [rep_isNon r1]
    exact q W _ H TM.le.rfl k (.bl _)
  · cases ef
theorem o_isNot : OpR X (compareOp .IsNot) (r2 L F.isNot) := by
  intro pins s σ H x y v u Q I rx ry ⟨W, st, d, e, r, k, r1, r2, ef, q⟩
  unfold F.isNot at ef
  split at ef
  · cases ef; cases r1; cases r2
    exact op_notBl pins s σ H _ _ v u Q I rx ry ⟨_, _, rfl, rfl, q W _ H TM.le.rfl k (.bl _)⟩
  · cases ef; cases r2
    refine op_notN pins s σ H _ _ v u Q I rx ry ⟨rfl, ?_⟩
    rw [rep_isNon r1]
    exact q W _ H TM.le.rfl k (.bl _)
  · cases ef
end
end Sm
/-! ## SimF -/
/-! Sm, part F: in, items, slices, built-ins, methods of lists, stores. -/
namespace Sm
open PySem PySem.Spec PyProof.Rows L2

section
variable {L : Lb} {X : Cx} {pos : Pos}
/-! ### dicts -/
theorem flatK_rep {T : TM} {d : D} {v : V} {k : Key} (e : F.flatK d = some k) (r : Rep L T v d) : v = kV k ∧ d = keyD k := by
  cases d with
  | int i => cases e; cases r; exact ⟨rfl, rfl⟩
  | str x => cases e; cases r; exact ⟨rfl, rfl⟩
  | _ => cases e
theorem flatKs_rep {T : TM} : ∀ {ds : List D} {vs : List V} {ks : List Key}, F.flatKs ds = some ks → Reps L T vs ds → vs = ks.map kV ∧ ds = ks.map keyD
  | [], _, _, e, r => by cases e; cases r; exact ⟨rfl, rfl⟩
  | d :: ds, _, _, e, .cons r1 rs => by
    unfold F.flatKs at e
    obtain ⟨k, e1, e⟩ := bindP e
    cases e2 : F.flatKs ds with
    | none => rw [e2] at e; cases e
    | some ks =>
      rw [e2] at e; cases e
      obtain ⟨a1, a2⟩ := flatK_rep e1 r1
      obtain ⟨b1, b2⟩ := flatKs_rep e2 rs
      exact ⟨by rw [a1, b1]; rfl, by rw [a2, b2]; rfl⟩
theorem keyK_keyD (k : Key) : F.keyK (keyD k) = some (.inl k) := by cases k <;> rfl
theorem flatKs_keyD : ∀ ks : List Key, F.flatKs (ks.map keyD) = some ks
  | [] => rfl
  | .inl i :: ks => by simp [F.flatKs, F.flatK, keyD, flatKs_keyD ks]
  | .inr i :: ks => by simp [F.flatKs, F.flatK, keyD, flatKs_keyD ks]
theorem keyK_tup (ks : List Key) : F.keyK (.tup (ks.map keyD)) = some (.inr ks) := by simp [F.keyK, flatKs_keyD]
theorem repK_look {T : TM} {k : Key} {x : D} (hx : F.keyK x = some (.inl k)) : ∀ {kvs : List (Key × V)} {ds : List (D × D)}, RepK L T kvs ds →
    (∀ d, F.look ds x = some d → ∃ v, valV kvs k = some v ∧ Rep L T v d) ∧ (F.look ds x = none → valV kvs k = none)
  | _, _, .nil => ⟨fun d e => by simp [F.look] at e, fun _ => rfl⟩
  | _, _, .cons (k := k') (v := v') (d := d') (ds := ds) r t => by
    obtain ⟨h1, h2⟩ := repK_look hx t
    unfold F.look at h1 h2 ⊢
    rw [List.find?_cons]
    by_cases e : k' = k
    · subst e
      rw [show decide (F.keyK (keyD k', d').1 = F.keyK x) = true by rw [decide_eq_true_eq, hx]; exact keyK_keyD _]
      exact ⟨fun d e => by cases e; exact ⟨_, valV_pos rfl, r⟩, fun e => by cases e⟩
    · rw [show decide (F.keyK (keyD k', d').1 = F.keyK x) = false by
        rw [decide_eq_false_iff_not, hx]
        show ¬ F.keyK (keyD k') = _
        rw [keyK_keyD]
        intro z; cases z; exact e rfl]
      simp only
      exact ⟨fun d q => by obtain ⟨v, a, b⟩ := h1 d q; exact ⟨v, by rw [valV_neg e]; exact a, b⟩, fun q => by rw [valV_neg e]; exact h2 q⟩
theorem repT_look {T : TM} {k : List Key} {x : D} (hx : F.keyK x = some (.inr k)) : ∀ {kvs : List (List Key × V)} {ds : List (D × D)}, RepT L T kvs ds →
    (∀ d, F.look ds x = some d → ∃ v, valV kvs k = some v ∧ Rep L T v d) ∧ (F.look ds x = none → valV kvs k = none)
  | _, _, .nil => ⟨fun d e => by simp [F.look] at e, fun _ => rfl⟩
  | _, _, .cons (k := k') (v := v') (d := d') (ds := ds) l r t => by
    obtain ⟨h1, h2⟩ := repT_look hx t
    unfold F.look at h1 h2 ⊢
    rw [List.find?_cons]
    by_cases e : k' = k
    · subst e
      rw [show decide (F.keyK (D.tup (k'.map keyD), d').1 = F.keyK x) = true by rw [decide_eq_true_eq, hx]; exact keyK_tup _]
      exact ⟨fun d e => by cases e; exact ⟨_, valV_pos rfl, r⟩, fun e => by cases e⟩
    · rw [show decide (F.keyK (D.tup (k'.map keyD), d').1 = F.keyK x) = false by
        rw [decide_eq_false_iff_not, hx]
        show ¬ F.keyK (D.tup (k'.map keyD)) = _
        rw [keyK_tup]
        intro z; cases z; exact e rfl]
      simp only
      exact ⟨fun d q => by obtain ⟨v, a, b⟩ := h1 d q; exact ⟨v, by rw [valV_neg e]; exact a, b⟩, fun q => by rw [valV_neg e]; exact h2 q⟩
/-- what a key stands for -/
theorem key_rep {W : Wd} {st : Store} {H : Hp} (k : Ok L W st H) {v : V} {x : D} (rx : Rep L W.T v x) {t : Bool} (hk : F.kindOk t x = true) :
    (t = false ∧ ∃ kk, F.keyK x = some (.inl kk) ∧ v = kV kk ∧ x = keyD kk) ∨ (t = true ∧ ∃ ks b, F.keyK x = some (.inr ks) ∧ v = .ref b ∧ H b = some (.tup (ks.map kV)) ∧ x = .tup (ks.map keyD) ∧ ks.length ≤ sizeLine) := by
  cases x with
  | int i => cases rx; cases t <;> first | exact .inl ⟨rfl, .inl i, rfl, rfl, rfl⟩ | cases hk
  | str i => cases rx; cases t <;> first | exact .inl ⟨rfl, .inr i, rfl, rfl, rfl⟩ | cases hk
  | tup xs =>
    cases e1 : F.flatKs xs with
    | none => simp [F.kindOk, F.keyK, e1] at hk
    | some ks =>
      cases rx with
      | @tup b vs _ h1 l1 rs =>
        obtain ⟨a1, a2⟩ := flatKs_rep e1 rs
        cases t with
        | false => simp [F.kindOk, F.keyK, e1] at hk
        | true => exact .inr ⟨rfl, ks, b, by simp [F.keyK, e1], rfl, by rw [← a1]; exact k.tag _ _ h1, by rw [a2], by rw [a1] at l1; simpa using l1⟩
  | _ => simp [F.kindOk, F.keyK] at hk
/-- what is asked of a dict: a is the place, o what it holds there -/
theorem dct_get {W : Wd} {st : Store} {H : Hp} (k : Ok L W st H) {u v : V} {d x : D} (r : Rep L W.T u d) (rx : Rep L W.T v x) {t : Bool} {kvs : List (D × D)} (e : F.dctOf st d = some (t, kvs)) (hk : F.kindOk t x = true) :
    ∃ a o, u = .ref a ∧ DGet H a v o ∧ o.isSome = (F.look kvs x).isSome ∧ ∀ y, F.look kvs x = some y → ∃ w, o = some w ∧ Rep L W.T w y := by
  have goK : ∀ {a : Addr} {ws : List (Key × V)}, Rd H a (.dK ws) → RepK L W.T ws kvs → t = false → ∃ o, DGet H a v o ∧ o.isSome = (F.look kvs x).isSome ∧ ∀ y, F.look kvs x = some y → ∃ w, o = some w ∧ Rep L W.T w y := by
    intro a ws ha rw' ht
    rcases key_rep k rx hk with ⟨_, kk, e1, rfl, _⟩ | ⟨z, _⟩
    · obtain ⟨h1, h2⟩ := repK_look e1 rw'
      refine ⟨_, .inl ⟨ws, kk, ha, rfl, rfl⟩, ?_, fun y z => h1 y z⟩
      cases q : F.look kvs x with
      | none => rw [h2 q]; rfl
      | some y => obtain ⟨w, q2, _⟩ := h1 y q; rw [q2]; rfl
    · rw [ht] at z; cases z
  have goT : ∀ {a : Addr} {ws : List (List Key × V)}, Rd H a (.dT ws) → RepT L W.T ws kvs → t = true → ∃ o, DGet H a v o ∧ o.isSome = (F.look kvs x).isSome ∧ ∀ y, F.look kvs x = some y → ∃ w, o = some w ∧ Rep L W.T w y := by
    intro a ws ha rw' ht
    rcases key_rep k rx hk with ⟨z, _⟩ | ⟨_, ks, b, e1, rfl, hb, _⟩
    · rw [ht] at z; cases z
    · obtain ⟨h1, h2⟩ := repT_look e1 rw'
      refine ⟨_, .inr ⟨ws, ks, b, ha, rfl, hb, rfl⟩, ?_, fun y z => h1 y z⟩
      cases q : F.look kvs x with
      | none => rw [h2 q]; rfl
      | some y => obtain ⟨w, q2, _⟩ := h1 y q; rw [q2]; rfl
  cases r with
  | @dctK a ob ws _ h1 _ rs =>
    cases e
    obtain ⟨o, q⟩ := goK (.inr ⟨ob, k.tag _ _ h1⟩) rs rfl
    exact ⟨a, o, rfl, q⟩
  | @dctT a ob ws _ h1 _ rs =>
    cases e
    obtain ⟨o, q⟩ := goT (.inr ⟨ob, k.tag _ _ h1⟩) rs rfl
    exact ⟨a, o, rfl, q⟩
  | @ref a n h1 =>
    obtain ⟨_, c, hc, ok⟩ := k.tag _ _ h1
    simp only [F.dctOf, hc] at e
    cases c with
    | dct t' ws =>
      cases e
      cases t with
      | false =>
        obtain ⟨vs, h2, _, rs, _⟩ := ok
        obtain ⟨o, q⟩ := goK (.inl h2) rs rfl
        exact ⟨a, o, rfl, q⟩
      | true =>
        obtain ⟨vs, h2, _, rs, _⟩ := ok
        obtain ⟨o, q⟩ := goT (.inl h2) rs rfl
        exact ⟨a, o, rfl, q⟩
    | _ => cases e
  | _ => cases e
theorem dctOf_seq {st : Store} {d : D} {xs : List D} (e : F.seq st d = some xs) : F.dctOf st d = none := by
  cases d with
  | tup ys => rfl
  | lst ys => rfl
  | ref n =>
    simp only [F.seq] at e
    simp only [F.dctOf]
    cases q : st[n]? with
    | none => rfl
    | some c => cases c <;> first | rfl | (rw [q] at e; cases e)
  | _ => cases e
/-! ### in -/
theorem OpR.orI {f : Value → Value → Sem Value} {r r' : R2} (h : OpR X f r) (h' : OpR X f r') : OpR X f (fun x y H Q => r x y H Q ∨ r' x y H Q) := fun pins s σ H x y v u Q I a b q => q.elim (h pins s σ H x y v u Q I a b) (h' pins s σ H x y v u Q I a b)
theorem op_dIn (hu : X.A.units + 1 < cLine) : OpR X (compareOp .In) (fun x y H Q => ∃ a o, y = V.ref a ∧ DGet H a x o ∧ Q (.bl o.isSome) H) := by
  intro pins s σ H x y v u Q I rx ry ⟨a, o, e, g, q⟩
  subst e
  obtain rfl : u = Value.ref a := ry
  exact d_in hu I g rx fun s3 I3 => ⟨.bl o.isSome, H, I3, rfl, q⟩
theorem op_dNotIn (hu : X.A.units + 1 < cLine) : OpR X (compareOp .NotIn) (fun x y H Q => ∃ a o, y = V.ref a ∧ DGet H a x o ∧ Q (.bl (!o.isSome)) H) := by
  intro pins s σ H x y v u Q I rx ry ⟨a, o, e, g, q⟩
  subst e
  obtain rfl : u = Value.ref a := ry
  exact d_notIn hu I g rx fun s3 I3 => ⟨.bl (!o.isSome), H, I3, rfl, q⟩
/-- x in l or t, data of any depth -/
theorem op_inS (hu : X.A.units + 65 < cLine) : OpR X (compareOp .In) (fun x y H Q => ∃ p vs d ds, y = V.ref p ∧ (SqL X.K H p vs ∨ SqT X.K H p vs) ∧ Dp X.K H x d ∧ DpAll X.K H vs ds ∧ SeqAt.shaped d = true ∧ SeqAt.shaped (.list ds) = true ∧ Q (.bl (ds.any fun z => PyData.eqv z d)) H) := by
  intro pins s σ H x y v u Q I rx ry ⟨p, vs, d, ds, e, hq, hd, hds, sd, se, q⟩
  subst e
  obtain ⟨as, r1⟩ := Dp.reads I d x v hd rx
  rcases hq with hq | hq
  · obtain ⟨bs, r2⟩ := Dp.reads I (.list ds) _ u (.lst hq hds) ry
    exact SeqAt.in_list_reads r2 r1 (SeqAt.canLay_of_shaped se) (SeqAt.canLay_of_shaped sd) (room_in_shaped sd hu) ⟨.bl _, H, I, rfl, q⟩
  · obtain ⟨bs, r2⟩ := Dp.reads I (.tuple ds) _ u (.tup hq hds) ry
    exact SeqAt.in_tuple_reads r2 r1 (SeqAt.canLay_of_shaped se) (SeqAt.canLay_of_shaped sd) (room_in_shaped sd hu) ⟨.bl _, H, I, rfl, q⟩
theorem op_notInS (hu : X.A.units + 65 < cLine) : OpR X (compareOp .NotIn) (fun x y H Q => ∃ p vs d ds, y = V.ref p ∧ (SqL X.K H p vs ∨ SqT X.K H p vs) ∧ Dp X.K H x d ∧ DpAll X.K H vs ds ∧ SeqAt.shaped d = true ∧ SeqAt.shaped (.list ds) = true ∧ Q (.bl (!ds.any fun z => PyData.eqv z d)) H) := by
  intro pins s σ H x y v u Q I rx ry ⟨p, vs, d, ds, e, hq, hd, hds, sd, se, q⟩
  subst e
  obtain ⟨as, r1⟩ := Dp.reads I d x v hd rx
  rcases hq with hq | hq
  · obtain ⟨bs, r2⟩ := Dp.reads I (.list ds) _ u (.lst hq hds) ry
    exact SeqAt.notIn_list_reads r2 r1 (SeqAt.canLay_of_shaped se) (SeqAt.canLay_of_shaped sd) (room_in_shaped sd hu) ⟨.bl _, H, I, rfl, q⟩
  · obtain ⟨bs, r2⟩ := Dp.reads I (.tuple ds) _ u (.tup hq hds) ry
    exact SeqAt.notIn_tuple_reads r2 r1 (SeqAt.canLay_of_shaped se) (SeqAt.canLay_of_shaped sd) (room_in_shaped sd hu) ⟨.bl _, H, I, rfl, q⟩
theorem any_toPys (x : D) : ∀ xs : List D, ((F.toPys xs).any fun z => PyData.eqv z (F.toPy x)) = xs.any fun y => F.eqD y x
  | [] => by simp [F.toPys]
  | y :: ys => by simp only [F.toPys, List.any_cons, any_toPys x ys]; rfl
theorem o_in (hu : X.A.units + 65 < cLine) : OpR X (compareOp .In) (r2 L F.in_) := by
  refine (OpR.orI (op_dIn (by omega)) (op_inS hu)).imp fun x y H Q => ?_
  rintro ⟨W, st, d, e, r, k, r1, r2, ef, q⟩
  unfold F.in_ at ef
  cases e1 : F.dctOf st e with
  | some kvs =>
    obtain ⟨t, kvs⟩ := kvs
    rw [e1] at ef
    simp only at ef
    split at ef
    · rename_i hk
      cases ef
      obtain ⟨a, o, rfl, g, hs, _⟩ := dct_get k r2 r1 e1 hk
      refine .inl ⟨a, o, rfl, g, ?_⟩
      rw [hs]
      exact q W _ H TM.le.rfl k (.bl _)
    · cases ef
  | none =>
    rw [e1] at ef
    simp only at ef
    cases e2 : F.seq st e with
    | none => rw [e2] at ef; cases ef
    | some xs =>
      rw [e2] at ef
      simp only at ef
      split at ef
      · rename_i h
        cases ef
        simp only [List.all_eq_true] at h
        obtain ⟨a, vs, rfl, hq, _, rs⟩ := seq_rep (K := X.K) k r2 e2
        refine .inr ⟨a, vs, _, _, rfl, hq, dat_dp k _ d x h.1 r1, dats_dp k _ xs vs h.2 rs, dat_shaped h.1, dats_shaped h.2, ?_⟩
        rw [any_toPys]
        exact q W _ H TM.le.rfl k (.bl _)
      · cases ef
theorem o_notIn (hu : X.A.units + 65 < cLine) : OpR X (compareOp .NotIn) (r2 L F.notIn) := by
  refine (OpR.orI (op_dNotIn (by omega)) (op_notInS hu)).imp fun x y H Q => ?_
  rintro ⟨W, st, d, e, r, k, r1, r2, ef, q⟩
  unfold F.notIn at ef
  obtain ⟨b, ef, eb⟩ := bindP ef
  unfold F.in_ at ef
  cases e1 : F.dctOf st e with
  | some kvs =>
    obtain ⟨t, kvs⟩ := kvs
    rw [e1] at ef
    simp only at ef
    split at ef
    · rename_i hk
      cases ef
      cases eb
      obtain ⟨a, o, rfl, g, hs, _⟩ := dct_get k r2 r1 e1 hk
      refine .inl ⟨a, o, rfl, g, ?_⟩
      rw [hs]
      exact q W _ H TM.le.rfl k (.bl _)
    · cases ef
  | none =>
    rw [e1] at ef
    simp only at ef
    cases e2 : F.seq st e with
    | none => rw [e2] at ef; cases ef
    | some xs =>
      rw [e2] at ef
      simp only at ef
      split at ef
      · rename_i h
        cases ef
        cases eb
        simp only [List.all_eq_true] at h
        obtain ⟨a, vs, rfl, hq, _, rs⟩ := seq_rep (K := X.K) k r2 e2
        refine .inr ⟨a, vs, _, _, rfl, hq, dat_dp k _ d x h.1 r1, dats_dp k _ xs vs h.2 rs, dat_shaped h.1, dats_shaped h.2, ?_⟩
        rw [any_toPys]
        exact q W _ H TM.le.rfl k (.bl _)
      · cases ef
end
end Sm
/-! ## SimG -/
/-! Sm, part G: items, slices, built-ins, methods of lists, stores. -/
namespace Sm
open PySem PySem.Spec PyProof.Rows L2

namespace F
def len (st : Store) : List D → Option D
  | [d] => match seq st d with
    | some xs => some (.int xs.length)
    | none => match dctOf st d with
      | some kvs => some (.int kvs.2.length)
      | none => match d with | .str s => if s.length ≤ big then some (.int s.length) else none | _ => none
  | _ => none
/-- tuple(..), list(..) of a sequence, a range's items -/
def tuple_ (st : Store) : List D → Option D
  | [d] => (seq st d).map .tup
  | _ => none
def list_ (st : Store) : List D → Option D
  | [d] => (seq st d).map .lst
  | _ => none
def bools : List D → Option (List Bool)
  | [] => some []
  | .bl b :: r => (bools r).map (b :: ·)
  | _ => none
def all_ (st : Store) : List D → Option D
  | [d] => ((lstOf st d).bind bools).map fun bs => .bl (bs.all id)
  | _ => none
def any_ (st : Store) : List D → Option D
  | [d] => ((lstOf st d).bind bools).map fun bs => .bl (bs.any id)
  | _ => none
def sum_ (st : Store) : List D → Option D
  | [d] => ((lstOf st d).bind intL).map fun ns => .int ns.sum
  | _ => none
def maxL : Int → List Int → Int := fun a r => r.foldl (fun m x => if m < x then x else m) a
def minL : Int → List Int → Int := fun a r => r.foldl (fun m x => if x < m then x else m) a
def max_ (st : Store) : List D → Option D
  | [d] => match (lstOf st d).bind intL with | some (a :: r) => some (.int (maxL a r)) | _ => none
  | [.int i, .int j] => some (.int (if j > i then j else i))
  | _ => none
def min_ (st : Store) : List D → Option D
  | [d] => match (lstOf st d).bind intL with | some (a :: r) => some (.int (minL a r)) | _ => none
  | [.int i, .int j] => some (.int (if j < i then j else i))
  | _ => none
def abs_ (_ : Store) : List D → Option D
  | [.int i] => some (.int (if i < 0 then -i else i))
  | _ => none
def int_ (_ : Store) : List D → Option D
  | [.int i] => some (.int i)
  | [.bl k] => some (.int (if k then 1 else 0))
  | _ => none
/-! ### isinstance -/
def tyName (st : Store) : D → Option String
  | .non => some "NoneType"
  | .bl _ => some "bool"
  | .int _ => some "int"
  | .str _ => some "str"
  | .tup _ => some "tuple"
  | .lst _ => some "list"
  | .dct _ _ => some "dict"
  | .ref n => match st[n]? with | some (.lst _) => some "list" | some (.dct _ _) => some "dict" | _ => none
  | _ => none
def subTy (a b : String) : Bool := a == b || (a == "bool" && b == "int")
def known : List String := ["int", "bool", "str", "tuple", "list", "dict"]
def isi1 (st : Store) (d c : D) : Option Bool := match c with
  | .cls b => if known.contains b then (tyName st d).map fun a => subTy a b else none
  | .own c => match d with
    | .fam _ _ => if c = "Family" then some true else none
    | d => if c = "Family" then (tyName st d).map fun _ => false else none
  | _ => none
def isis (st : Store) (d : D) : List D → Option Bool
  | [] => some false
  | c :: cs => (isi1 st d c).bind fun b => if b then some true else isis st d cs
def isi (st : Store) : List D → Option D
  | [d, .tup cs] => (isis st d cs).map .bl
  | [d, c] => (isi1 st d c).map .bl
  | _ => none
/-! ### methods -/
def append (st : Store) (o : D) : List D → Option (D × Store)
  | [x] => match o with
    | .ref n => match st[n]? with | some (.lst xs) => if xs.length < big then some (.non, st.set n (.lst (xs ++ [x]))) else none | _ => none
    | _ => none
  | _ => none
def extend (st : Store) (o : D) : List D → Option (D × Store)
  | [x] => match o with
    | .ref n => match st[n]? with
      | some (.lst xs) => match lstOf st x with | some ys => if xs.length + ys.length ≤ big then some (.non, st.set n (.lst (xs ++ ys))) else none | none => none
      | _ => none
    | _ => none
  | _ => none
def pop (st : Store) (o : D) : List D → Option (D × Store)
  | [.int i] => match o with
    | .ref n => match st[n]? with
      | some (.lst xs) => match ixN xs.length i with
        | some j => match xs[j]? with | some y => if xs.length ≤ big then some (y, st.set n (.lst (xs.eraseIdx j))) else none | none => none
        | none => none
      | _ => none
    | _ => none
  | [] => match o with
    | .ref n => match st[n]? with
      | some (.lst xs) => match xs[xs.length - 1]? with | some y => some (y, st.set n (.lst xs.dropLast)) | none => none
      | _ => none
    | _ => none
  | _ => none
/-- o[i] = v -/
def store (st : Store) (o i v : D) : Option Store := match o with
  | .ref n => match st[n]? with
    | some (.lst xs) => match i with
      | .int j => (ixN xs.length j).map fun m => st.set n (.lst (xs.set m v))
      | _ => none
    | some (.dct t kvs) => if kindOk t i = true ∧ kvs.length < big then some (st.set n (.dct t (put kvs i v))) else none
    | _ => none
  | _ => none
end F
namespace S
/-- o[i] = e -/
def store (o i e : ME) : MS := fun ρ st => (e ρ st).bind fun p => (o ρ p.2).bind fun q => (i ρ q.2).bind fun r => (F.store r.2 q.1 r.1 p.1).map fun s => (.nx, ρ, s)
end S

section
variable {L : Lb} {X : Cx} {pos : Pos}
/-! ### unions -/
theorem PE.orI {e : Expr} {t u : TE} (h : PE X e t) (h' : PE X e u) : PE X e (fun σ H Q => t σ H Q ∨ u σ H Q) := ⟨fun pins s σ H Q I q => q.elim (h.run pins s σ H Q I) (h'.run pins s σ H Q I)⟩
theorem PS.orI {e : Stmt} {t u : TS} (h : PS X e t) (h' : PS X e u) : PS X e (fun D σ H => t D σ H ∨ u D σ H) := ⟨fun pins s σ H D I q => q.elim (h.run pins s σ H D I) (h'.run pins s σ H D I)⟩
/-! ### items -/
theorem reps_atI {T : TM} {vs : List V} {ds : List D} (r : Reps L T vs ds) {i : Int} {d : D} (e : atI ds i = some d) : ∃ v, atI vs i = some v ∧ Rep L T v d := by
  unfold atI at e ⊢
  rw [r.length]
  obtain ⟨j, e1, e2⟩ := bindP e
  rw [e1]
  exact r.get e2
theorem se_item {a b : Expr} {ma mb : ME} (hu : X.A.units + 1 < cLine) (ha : PE X a (tE L ma)) (hb : PE X b (tE L mb)) (hs : PlainIx b) : PE X (.Subscript a b pos) (tE L (E.op2 F.ix ma mb)) :=
  (PE.orI (pe_dget (pos := pos) hu ha hb hs) (pe_ix (IxR.or ix_list ix_tup) ha hb hs)).imp fun σ H Q => by
    rintro ⟨W, ρ, st, d, st', re, k, e, q⟩
    obtain ⟨x, st1, e1, e⟩ := bind2 (γ := Unit) (f := fun x st1 => (mb ρ st1).bind fun q => (F.ix q.2 x q.1).map fun r => (r, q.2)) e
    obtain ⟨y, st2, e2, e⟩ := bind2 (γ := Unit) (f := fun y st2 => (F.ix st2 x y).map fun r => (r, st2)) e
    cases e3 : F.ix st2 x y with
    | none => simp only [e3, Option.map_none] at e; cases e
    | some r =>
      simp only [e3, Option.map_some, Option.some.injEq, Prod.mk.injEq] at e
      obtain ⟨rfl, rfl⟩ := e
      unfold F.ix at e3
      cases e4 : F.dctOf st2 x with
      | some kvs =>
        obtain ⟨t, kvs⟩ := kvs
        rw [e4] at e3
        simp only at e3
        split at e3
        · rename_i hk
          refine .inl ⟨W, ρ, st, x, st1, re, k, e1, fun W1 v H1 l1 k1 r1 => ⟨W1, ρ, st1, y, st2, re.mono l1.leR, k1, e2, fun W2 u H2 l2 k2 r2 => ?_⟩⟩
          obtain ⟨a, o, rfl, g, _, h⟩ := dct_get k2 (r1.mono l2.leR) r2 e4 hk
          obtain ⟨w, rfl, rw'⟩ := h _ e3
          exact ⟨a, w, rfl, g, q W2 w H2 (l1.trans l2) k2 rw'⟩
        · cases e3
      | none =>
        rw [e4] at e3
        simp only at e3
        cases y with
        | int j =>
          simp only at e3
          obtain ⟨xs, e5, e6⟩ := bindP e3
          refine .inr ⟨W, ρ, st, x, st1, re, k, e1, fun W1 v H1 l1 k1 r1 => ⟨W1, ρ, st1, _, st2, re.mono l1.leR, k1, e2, fun W2 u H2 l2 k2 r2 => ?_⟩⟩
          cases r2
          obtain ⟨a, vs, rfl, hq, _, rs⟩ := seq_rep (K := X.K) k2 (r1.mono l2.leR) e5
          obtain ⟨w, h1, h2⟩ := reps_atI rs e6
          rcases hq with hq | hq
          · exact .inl ⟨a, vs, j, w, rfl, rfl, hq, h1, q W2 w H2 (l1.trans l2) k2 h2⟩
          · exact .inr ⟨a, vs, j, w, rfl, rfl, hq, h1, q W2 w H2 (l1.trans l2) k2 h2⟩
        | _ => cases e3
theorem reps_cut {T : TM} {vs : List V} {ds : List D} (r : Reps L T vs ds) (lo hi : Option Int) : Reps L T (cutV vs lo hi) (F.cut ds lo hi) := by
  unfold cutV F.cut
  rw [r.length]
  exact (r.drop _).take _
theorem cut_whole {xs : List D} {lo hi : Option Int} (h : HT.sIx xs.length 0 lo = 0 ∧ HT.sIx xs.length xs.length hi = xs.length) : F.cut xs lo hi = xs := by
  unfold F.cut
  rw [h.1, h.2, List.drop_zero, Nat.sub_zero]
  exact List.take_of_length_le (Nat.le_refl _)
theorem part_imp {a : Option Expr} {m : Option ME} (h : match a, m with | none, none => True | some e, some m => PE X e (tE L m) | _, _ => False) :
    ∃ t, PO X a t ∧ ∀ (σ : L2.St) (H : Hp) (Q : Option Int → Hp → Prop), (∃ W ρ st i st', RepE L W.T σ ρ ∧ Ok L W st H ∧ E.part m ρ st = some (i, st') ∧ ∀ W' H', W.T.le W'.T → Ok L W' st' H' → Q i H') → t σ H Q := by
  match a, m, h with
  | none, none, _ => exact ⟨_, po_none, fun σ H Q ⟨W, ρ, st, i, st', re, k, e, q⟩ => by cases e; exact q W H TM.le.rfl k⟩
  | some e, some m, h =>
    refine ⟨_, po_some h, fun σ H Q ⟨W, ρ, st, i, st', re, k, e, q⟩ => ?_⟩
    simp only [E.part] at e
    obtain ⟨⟨d, st1⟩, e1, e⟩ := bindP e
    cases d with
    | int j =>
      cases e
      exact ⟨W, ρ, st, _, _, re, k, e1, fun W1 v H1 l1 k1 r1 => by cases r1; exact ⟨j, rfl, q W1 H1 l1 k1⟩⟩
    | _ => cases e
theorem se_slice {a : Expr} {lo hi : Option Expr} {ma : ME} {ml mh : Option ME} {p2 : Pos} (ha : PE X a (tE L ma)) (hl : match lo, ml with | none, none => True | some e, some m => PE X e (tE L m) | _, _ => False) (hh : match hi, mh with | none, none => True | some e, some m => PE X e (tE L m) | _, _ => False) :
    PE X (.Subscript a (.Slice lo hi none p2) pos) (tE L (E.slice ma ml mh)) := by
  obtain ⟨tl, pl, il⟩ := part_imp hl
  obtain ⟨th, ph, ih⟩ := part_imp hh
  refine (pe_slice (SlR.or sl_list sl_tupA) ha pl ph).imp fun σ H Q => ?_
  rintro ⟨W, ρ, st, d, st', re, k, e, q⟩
  unfold E.slice at e
  obtain ⟨⟨x, st1⟩, e1, e⟩ := bindP e
  obtain ⟨⟨l, st2⟩, e2, e⟩ := bindP e
  obtain ⟨⟨h, st3⟩, e3, e⟩ := bindP e
  simp only at e e2 e3
  cases e4 : F.slice st3 x l h with
  | none => rw [e4] at e; cases e
  | some r =>
    rw [e4] at e; cases e
    refine ⟨W, ρ, st, x, st1, re, k, e1, fun W1 v H1 l1 k1 r1 => il _ _ _ ⟨W1, ρ, st1, l, st2, re.mono l1.leR, k1, e2, fun W2 H2 l2 k2 => ih _ _ _ ⟨W2, ρ, st2, h, st', (re.mono l1.leR).mono l2.leR, k2, e3, fun W3 H3 l3 k3 => ?_⟩⟩⟩
    have rx := r1.mono (l2.trans l3).leR
    have q' : ∀ W' v H', W3.T.le W'.T → Ok L W' st' H' → Rep L W'.T v d → Q v H' := fun W' v H' l' => q W' v H' (((l1.trans l2).trans l3).trans l')
    unfold F.slice at e4
    split at e4
    · cases e4
      cases rx with
      | @tup a vs _ ht hz rs =>
        refine .inr ⟨a, vs, rfl, SqT.of (k3.tag _ _ ht), fun hw => ?_, fun _ => ?_⟩
        · rw [cut_whole (by rw [← rs.length]; exact hw)] at q'
          exact q' W3 _ H3 TM.le.rfl k3 (.tup ht hz rs)
        · exact fresh_tup k3 (reps_cut rs l h) (Nat.le_trans (cutV_length _ _ _) hz) q'
    · cases e5 : F.lstOf st' x with
      | none => rw [e5] at e4; cases e4
      | some xs =>
        rw [e5] at e4; cases e4
        obtain ⟨a, vs, rfl, h1, hz, rs⟩ := lstOf_rep k3 rx e5
        exact .inl ⟨a, vs, rfl, SqL.of h1, fresh_lst k3 (reps_cut rs l h) (Nat.le_trans (cutV_length _ _ _) hz) q'⟩
/-! ### built-ins -/
theorem reps_one {T : TM} {vs : List V} {d : D} (r : Reps L T vs [d]) : ∃ v, vs = [v] ∧ Rep L T v d := by
  cases r with | cons r1 t => cases t; exact ⟨_, rfl, r1⟩
theorem reps_two {T : TM} {vs : List V} {d e : D} (r : Reps L T vs [d, e]) : ∃ v w, vs = [v, w] ∧ Rep L T v d ∧ Rep L T w e := by
  cases r with | cons r1 t => cases t with | cons r2 t => cases t; exact ⟨_, _, rfl, r1, r2⟩
theorem dct_rep {W : Wd} {st : Store} {H : Hp} (k : Ok L W st H) {v : V} {d : D} (r : Rep L W.T v d) {t : Bool} {kvs : List (D × D)} (e : F.dctOf st d = some (t, kvs)) :
    ∃ a, v = .ref a ∧ ((∃ ws, Rd H a (.dK ws) ∧ ws.length = kvs.length) ∨ ∃ ws, Rd H a (.dT ws) ∧ ws.length = kvs.length) := by
  cases r with
  | @dctK a ob ws _ h1 _ rs => cases e; exact ⟨a, rfl, .inl ⟨ws, .inr ⟨ob, k.tag _ _ h1⟩, repK_length rs⟩⟩
  | @dctT a ob ws _ h1 _ rs => cases e; exact ⟨a, rfl, .inr ⟨ws, .inr ⟨ob, k.tag _ _ h1⟩, repT_length rs⟩⟩
  | @ref a n h1 =>
    obtain ⟨_, c, hc, ok⟩ := k.tag _ _ h1
    simp only [F.dctOf, hc] at e
    cases c with
    | dct t' ws =>
      cases e
      cases t with
      | false => obtain ⟨vs, h2, _, rs, _⟩ := ok; exact ⟨a, rfl, .inl ⟨vs, .inl h2, repK_length rs⟩⟩
      | true => obtain ⟨vs, h2, _, rs, _⟩ := ok; exact ⟨a, rfl, .inr ⟨vs, .inl h2, repT_length rs⟩⟩
    | _ => cases e
  | _ => cases e
theorem CallR.orI {f : Value} {r r' : List V → Hp → VK → Prop} (h : CallR X f r) (h' : CallR X f r') : CallR X f (fun xs H Q => r xs H Q ∨ r' xs H Q) := fun pins s σ H xs us Q I a q => q.elim (h pins s σ H xs us Q I a) (h' pins s σ H xs us Q I a)
/-- len(d), locked or not -/
theorem call_lenR : CallR X (.builtin "len") (fun xs H Q => ∃ a, xs = [V.ref a] ∧ ((∃ ws, Rd H a (.dK ws) ∧ Q (.int ws.length) H) ∨ ∃ ws, Rd H a (.dT ws) ∧ Q (.int ws.length) H)) := by
  intro pins s σ H xs us Q I r ⟨a, e, h⟩
  subst e
  obtain ⟨u, rfl, rx⟩ := vals1 r
  obtain rfl : u = Value.ref a := rx
  rcases h with ⟨ws, ha, q⟩ | ⟨ws, ha, q⟩
  · exact d_len I ha fun t s' I' => ⟨.int ws.length, H, I', ⟨t, rfl⟩, q⟩
  · obtain ⟨z, hd, ys, rel, dd⟩ := dt_rd I.hok ha
    have hl : ws.length = ys.length := Paired.length rel
    refine call_len_dictH hd dd (by rw [← hl]; rw [sizeLine_eq] at z; omega) ?_
    rw [← hl]
    exact ⟨.int ((ws.length : Nat) : Int), H, I.tok _, ⟨_, rfl⟩, q⟩
theorem c_len : CallR X (.builtin "len") (rc L F.len) := by
  refine (CallR.orI (CallR.orI call_len_seq call_lenR) call_len_str).imp fun xs H Q => ?_
  rintro ⟨W, st, ds, r, k, rs, e, q⟩
  unfold F.len at e
  split at e
  · rename_i d
    obtain ⟨v, rfl, r1⟩ := reps_one rs
    cases e1 : F.seq st d with
    | some ys =>
      rw [e1] at e; cases e
      obtain ⟨a, vs, rfl, hq, _, r2⟩ := seq_rep (K := X.K) k r1 e1
      refine .inl (.inl ⟨a, vs, rfl, hq, ?_⟩)
      rw [r2.length]
      exact q W _ H TM.le.rfl k (.int _)
    | none =>
      rw [e1] at e
      simp only at e
      cases e2 : F.dctOf st d with
      | some kvs =>
        obtain ⟨t, kvs⟩ := kvs
        rw [e2] at e; cases e
        obtain ⟨a, rfl, h⟩ := dct_rep k r1 e2
        refine .inl (.inr ⟨a, rfl, ?_⟩)
        rcases h with ⟨ws, ha, hl⟩ | ⟨ws, ha, hl⟩
        · exact .inl ⟨ws, ha, by rw [hl]; exact q W _ H TM.le.rfl k (.int _)⟩
        · exact .inr ⟨ws, ha, by rw [hl]; exact q W _ H TM.le.rfl k (.int _)⟩
      | none =>
        rw [e2] at e
        simp only at e
        split at e
        · split at e
          · rename_i h
            cases e
            cases r1
            exact .inr ⟨_, rfl, Nat.le_trans h big_line, q W _ H TM.le.rfl k (.int _)⟩
          · cases e
        · cases e
  · cases e
theorem c_tuple : CallR X (.type "tuple") (rc L F.tuple_) := call_tuple_of.imp fun xs H Q => by
  rintro ⟨W, st, ds, r, k, rs, e, q⟩
  unfold F.tuple_ at e
  split at e
  · rename_i d
    obtain ⟨v, rfl, r1⟩ := reps_one rs
    cases d with
    | tup ys =>
      cases e
      cases r1 with
      | @tup a vs _ h1 l1 r1 => exact ⟨a, vs, rfl, .inr ⟨SqT.of (k.tag _ _ h1), q W _ H TM.le.rfl k (.tup h1 l1 r1)⟩⟩
    | lst ys =>
      cases e
      cases r1 with
      | @lst a vs _ h1 l1 r1 => exact ⟨a, vs, rfl, .inl ⟨SqL.of (k.tag _ _ h1), fresh_tup k r1 l1 q⟩⟩
    | ref n =>
      cases e1 : F.lstOf st (.ref n) with
      | none =>
        simp only [F.lstOf] at e1
        simp only [F.seq, e1] at e
        cases e
      | some ys =>
        obtain ⟨a, vs, rfl, h1, hz, r2⟩ := lstOf_rep k r1 e1
        simp only [F.lstOf] at e1
        simp only [F.seq, e1, Option.map_some, Option.some.injEq] at e
        subst e
        exact ⟨a, vs, rfl, .inl ⟨SqL.of h1, fresh_tup k r2 hz q⟩⟩
    | _ => cases e
  · cases e
theorem c_list : CallR X (.type "list") (rc L F.list_) := call_list_of.imp fun xs H Q => by
  rintro ⟨W, st, ds, r, k, rs, e, q⟩
  unfold F.list_ at e
  split at e
  · rename_i d
    obtain ⟨v, rfl, r1⟩ := reps_one rs
    cases e1 : F.seq st d with
    | none => rw [e1] at e; cases e
    | some ys =>
      rw [e1] at e; cases e
      obtain ⟨a, vs, rfl, hq, hz, r2⟩ := seq_rep (K := X.K) k r1 e1
      exact ⟨a, vs, rfl, hq, fresh_lst k r2 hz q⟩
  · cases e
theorem bools_rep {T : TM} : ∀ {xs : List D} {bs : List Bool} {vs : List V}, F.bools xs = some bs → Reps L T vs xs → vs = bs.map V.bl
  | [], _, _, e, r => by cases e; cases r; rfl
  | .bl b :: r, ns, _, e, .cons r1 rs => by
    unfold F.bools at e
    cases e2 : F.bools r with
    | none => rw [e2] at e; cases e
    | some ms => rw [e2] at e; cases e; cases r1; rw [bools_rep e2 rs]; rfl
theorem c_all (hc : X.calm = true) : CallR X (.builtin "all") (rc L F.all_) := (cr_all hc).imp fun xs H Q => by
  rintro ⟨W, st, ds, r, k, rs, e, q⟩
  unfold F.all_ at e
  split at e
  · rename_i d
    obtain ⟨v, rfl, r1⟩ := reps_one rs
    cases e0 : (F.lstOf st d).bind F.bools with
    | none => rw [e0] at e; cases e
    | some bs =>
      rw [e0] at e; cases e
      obtain ⟨ys, e1, e2⟩ := bindP e0
      obtain ⟨a, vs, rfl, h1, hz, r2⟩ := lstOf_rep k r1 e1
      have := bools_rep e2 r2
      subst this
      exact ⟨a, bs, rfl, SqL.of h1, q W _ H TM.le.rfl k (.bl _)⟩
  · cases e
theorem c_any (hc : X.calm = true) : CallR X (.builtin "any") (rc L F.any_) := (cr_any hc).imp fun xs H Q => by
  rintro ⟨W, st, ds, r, k, rs, e, q⟩
  unfold F.any_ at e
  split at e
  · rename_i d
    obtain ⟨v, rfl, r1⟩ := reps_one rs
    cases e0 : (F.lstOf st d).bind F.bools with
    | none => rw [e0] at e; cases e
    | some bs =>
      rw [e0] at e; cases e
      obtain ⟨ys, e1, e2⟩ := bindP e0
      obtain ⟨a, vs, rfl, h1, hz, r2⟩ := lstOf_rep k r1 e1
      have := bools_rep e2 r2
      subst this
      exact ⟨a, bs, rfl, SqL.of h1, q W _ H TM.le.rfl k (.bl _)⟩
  · cases e
theorem c_sum (hc : X.calm = true) : CallR X (.builtin "sum") (rc L F.sum_) := (cr_sum hc).imp fun xs H Q => by
  rintro ⟨W, st, ds, r, k, rs, e, q⟩
  unfold F.sum_ at e
  split at e
  · rename_i d
    obtain ⟨v, rfl, r1⟩ := reps_one rs
    cases e0 : (F.lstOf st d).bind F.intL with
    | none => rw [e0] at e; cases e
    | some bs =>
      rw [e0] at e; cases e
      obtain ⟨ys, e1, e2⟩ := bindP e0
      obtain ⟨a, vs, rfl, h1, hz, r2⟩ := lstOf_rep k r1 e1
      have := ints_rep e2 r2
      subst this
      exact ⟨a, bs, rfl, SqL.of h1, q W _ H TM.le.rfl k (.int _)⟩
  · cases e
theorem maxL_mem : ∀ (r : List Int) (a : Int), F.maxL a r ∈ a :: r ∧ ∀ y ∈ a :: r, y ≤ F.maxL a r
  | [], a => by simp [F.maxL]
  | b :: r, a => by
    have h := maxL_mem r (if a < b then b else a)
    unfold F.maxL at h ⊢
    rw [List.foldl_cons]
    refine ⟨?_, fun y hy => ?_⟩
    · rcases List.mem_cons.mp h.1 with e | e
      · rw [e]; split
        · exact List.mem_cons_of_mem _ List.mem_cons_self
        · exact List.mem_cons_self
      · exact List.mem_cons_of_mem _ (List.mem_cons_of_mem _ e)
    · have h0 := h.2 _ List.mem_cons_self
      rcases List.mem_cons.mp hy with rfl | hy
      · split at h0 <;> rename_i hh <;> simp only [hh, if_true, if_false] at h0 ⊢ <;> omega
      · rcases List.mem_cons.mp hy with rfl | hy
        · split at h0 <;> rename_i hh <;> simp only [hh, if_true, if_false] at h0 ⊢ <;> omega
        · exact h.2 y (List.mem_cons_of_mem _ hy)
theorem minL_mem : ∀ (r : List Int) (a : Int), F.minL a r ∈ a :: r ∧ ∀ y ∈ a :: r, F.minL a r ≤ y
  | [], a => by simp [F.minL]
  | b :: r, a => by
    have h := minL_mem r (if b < a then b else a)
    unfold F.minL at h ⊢
    rw [List.foldl_cons]
    refine ⟨?_, fun y hy => ?_⟩
    · rcases List.mem_cons.mp h.1 with e | e
      · rw [e]; split
        · exact List.mem_cons_of_mem _ List.mem_cons_self
        · exact List.mem_cons_self
      · exact List.mem_cons_of_mem _ (List.mem_cons_of_mem _ e)
    · have h0 := h.2 _ List.mem_cons_self
      rcases List.mem_cons.mp hy with rfl | hy
      · split at h0 <;> rename_i hh <;> simp only [hh, if_true, if_false] at h0 ⊢ <;> omega
      · rcases List.mem_cons.mp hy with rfl | hy
        · split at h0 <;> rename_i hh <;> simp only [hh, if_true, if_false] at h0 ⊢ <;> omega
        · exact h.2 y (List.mem_cons_of_mem _ hy)
theorem c_max (hc : X.calm = true) : CallR X (.builtin "max") (rc L F.max_) := (CallR.orI (cr_max hc) (call_max2 hc)).imp fun xs H Q => by
  rintro ⟨W, st, ds, r, k, rs, e, q⟩
  unfold F.max_ at e
  split at e
  · rename_i d
    obtain ⟨v, rfl, r1⟩ := reps_one rs
    split at e
    · rename_i a b e0
      cases e
      obtain ⟨ys, e1, e2⟩ := bindP e0
      obtain ⟨p, vs, rfl, h1, hz, r2⟩ := lstOf_rep k r1 e1
      have := ints_rep e2 r2
      subst this
      obtain ⟨m1, m2⟩ := maxL_mem b a
      refine .inl ⟨p, _, rfl, SqL.of h1, by simp, fun m hm hle => ?_⟩
      have : m = F.maxL a b := by have x1 := hle _ m1; have x2 := m2 m hm; omega
      subst this
      exact q W _ H TM.le.rfl k (.int _)
    · cases e
  · cases e
    obtain ⟨v, w, rfl, r1, r2⟩ := reps_two rs
    cases r1; cases r2
    exact .inr ⟨_, _, rfl, q W _ H TM.le.rfl k (.int _)⟩
  · cases e
theorem c_min (hc : X.calm = true) : CallR X (.builtin "min") (rc L F.min_) := (CallR.orI (cr_min hc) (call_min2 hc)).imp fun xs H Q => by
  rintro ⟨W, st, ds, r, k, rs, e, q⟩
  unfold F.min_ at e
  split at e
  · rename_i d
    obtain ⟨v, rfl, r1⟩ := reps_one rs
    split at e
    · rename_i a b e0
      cases e
      obtain ⟨ys, e1, e2⟩ := bindP e0
      obtain ⟨p, vs, rfl, h1, hz, r2⟩ := lstOf_rep k r1 e1
      have := ints_rep e2 r2
      subst this
      obtain ⟨m1, m2⟩ := minL_mem b a
      refine .inl ⟨p, _, rfl, SqL.of h1, by simp, fun m hm hle => ?_⟩
      have : m = F.minL a b := by have x1 := hle _ m1; have x2 := m2 m hm; omega
      subst this
      exact q W _ H TM.le.rfl k (.int _)
    · cases e
  · cases e
    obtain ⟨v, w, rfl, r1, r2⟩ := reps_two rs
    cases r1; cases r2
    exact .inr ⟨_, _, rfl, q W _ H TM.le.rfl k (.int _)⟩
  · cases e
theorem c_abs : CallR X (.builtin "abs") (rc L F.abs_) := call_abs.imp fun xs H Q => by
  rintro ⟨W, st, ds, r, k, rs, e, q⟩
  unfold F.abs_ at e
  split at e
  · cases e
    obtain ⟨v, rfl, r1⟩ := reps_one rs
    cases r1
    exact ⟨_, rfl, q W _ H TM.le.rfl k (.int _)⟩
  · cases e
theorem c_int : CallR X (.type "int") (rc L F.int_) := call_int1.imp fun xs H Q => by
  rintro ⟨W, st, ds, r, k, rs, e, q⟩
  unfold F.int_ at e
  split at e
  · cases e
    obtain ⟨v, rfl, r1⟩ := reps_one rs
    cases r1
    exact .inl ⟨_, rfl, q W _ H TM.le.rfl k (.int _)⟩
  · cases e
    obtain ⟨v, rfl, r1⟩ := reps_one rs
    cases r1
    exact .inr ⟨_, rfl, q W _ H TM.le.rfl k (.int _)⟩
  · cases e
end
end Sm
/-! ## SimH -/
/-! Sm, part H: isinstance, methods of the store's lists, stores. -/
namespace Sm
open PySem PySem.Spec PyProof.Rows L2

/-- the class Family, as the text has it -/
structure FamOk (K : PySem.W.Frag) (L : Lb) : Prop where
  cl : Cls K (L.cl "Family")
  nP : NoAttr K (L.cl "Family") "points"
  nL : NoAttr K (L.cl "Family") "lots"
  nK : NoAttr K (L.cl "Family") "looked"
  ha : PySem.W.findIn K (.ref (L.cl "Family")) "__class__" = some (some (.builtin "object.__class__"))
  hn : PySem.W.specialIn K (.builtin "object.__class__") "__get__" = some (some (.builtin "getset_descriptor.__get__"))
  htk : PySem.W.takesIn K (.builtin "object.__class__") = some true
  hm : PySem.W.mroIn K (L.cl "Family") (.type "object") = some true
  kf : ∀ t ∈ ["NoneType", "bool", "int", "str", "tuple", "list", "dict"], PySem.W.kitOne K (.type t) (.ref (L.cl "Family")) = some false
  kt : PySem.W.kitOne K (.ref (L.cl "Family")) (.ref (L.cl "Family")) = some true

theorem kit_tab : ∀ a ∈ ["NoneType", "bool", "int", "str", "tuple", "list", "dict"], ∀ b ∈ F.known, kitB a b = some (F.subTy a b) := by decide +kernel
theorem tyName_mem {st : Store} {d : D} {a : String} (e : F.tyName st d = some a) : a ∈ ["NoneType", "bool", "int", "str", "tuple", "list", "dict"] := by
  unfold F.tyName at e
  split at e <;> first
    | (cases e; decide)
    | (split at e <;> first | (cases e; decide) | cases e)
    | cases e
section
variable {L : Lb} {X : Cx} {pos : Pos}
theorem tyName_rep {K : PySem.W.Frag} {W : Wd} {st : Store} {H : Hp} (k : Ok L W st H) {v : V} {d : D} {a : String} (r : Rep L W.T v d) (e : F.tyName st d = some a) : (∃ kvs, d = .dct true kvs) ∨ TyX K H v (.type a) := by
  cases r with
  | non => cases e; exact .inr (.base .non)
  | bl b => cases e; exact .inr (.base (.bl _))
  | int i => cases e; exact .inr (.base (.int _))
  | str i => cases e; exact .inr (.base (.str _))
  | tup h l r => cases e; exact .inr (.base (.tup (k.tag _ _ h)))
  | lst h l r => cases e; exact .inr (.base (.lst (k.tag _ _ h)))
  | dctK h l r => cases e; exact .inr (.fDict (k.tag _ _ h))
  | dctT h l r => exact .inl ⟨_, rfl⟩
  | @ref p n h =>
    obtain ⟨_, c, hc, ok⟩ := k.tag _ _ h
    simp only [F.tyName, hc] at e
    cases c with
    | lst xs => cases e; obtain ⟨vs, h2, _⟩ := ok; exact .inr (.base (.lst h2))
    | dct t kvs =>
      cases e
      cases t with
      | false => obtain ⟨vs, h2, _⟩ := ok; exact .inr (.base (.dK h2))
      | true => obtain ⟨vs, h2, _⟩ := ok; exact .inr (.base (.dT h2))
    | _ => cases e
  | _ => cases e
def noT : D → Bool
  | .dct true _ => false
  | _ => true
/-- isinstance, one class -/
def F.isiA (st : Store) : List D → Option D
  | [d, c] => if noT d then match c with | .tup _ => none | c => (F.isi1 st d c).map .bl else none
  | _ => none
theorem isi1_rep {K : PySem.W.Frag} (FO : FamOk K L) {W : Wd} {st : Store} {H : Hp} (k : Ok L W st H) {x c : V} {d e : D} {b : Bool} (r1 : Rep L W.T x d) (r2 : Rep L W.T c e) (hn : noT d = true) (h : F.isi1 st d e = some b) :
    ∃ t u, ClsV c u ∧ TyX K H x t ∧ PySem.W.kitOne K t u = some b := by
  unfold F.isi1 at h
  split at h
  · rename_i n
    split at h
    · rename_i hk
      cases e1 : F.tyName st d with
      | none => rw [e1] at h; cases h
      | some a =>
        rw [e1] at h; cases h
        cases r2
        rcases tyName_rep (K := K) k r1 e1 with ⟨kvs, z⟩ | z
        · subst z; cases hn
        · exact ⟨_, _, .ty n, z, kit_ty (kit_tab a (tyName_mem e1) n (by simpa using hk))⟩
    · cases h
  · rename_i n
    split at h
    · split at h
      · rename_i hc
        cases h
        subst hc
        cases r2
        cases r1 with
        | fam e1 => exact ⟨_, _, .own _, .base (.ins (k.tag _ _ e1).1 FO.cl FO.ha FO.hn FO.htk FO.hm), FO.kt⟩
      · cases h
    · split at h
      · rename_i hc
        subst hc
        cases r2
        cases e1 : F.tyName st d with
        | none => rw [e1] at h; cases h
        | some a =>
          rw [e1] at h; cases h
          rcases tyName_rep (K := K) k r1 e1 with ⟨kvs, z⟩ | z
          · subst z; cases hn
          · exact ⟨_, _, .own _, z, FO.kf a (tyName_mem e1)⟩
      · cases h
  · cases h
theorem c_isi (FO : FamOk X.K L) : CallR X (.builtin "isinstance") (rc L F.isiA) := call_isi.imp fun xs H Q => by
  rintro ⟨W, st, ds, r, k, rs, e, q⟩
  unfold F.isiA at e
  split at e
  · rename_i d c
    split at e
    · rename_i hn
      obtain ⟨v, w, rfl, r1, r2⟩ := reps_two rs
      have e : (F.isi1 st d c).map D.bl = some r := by
        split at e
        · cases e
        · exact e
      cases e1 : F.isi1 st d c with
      | none => rw [e1] at e; cases e
      | some b =>
        rw [e1] at e; cases e
        obtain ⟨t, u, c1, c2, c3⟩ := isi1_rep FO k r1 r2 hn e1
        exact ⟨v, w, t, u, b, rfl, c1, c2, c3, q W _ H TM.le.rfl k (.bl _)⟩
    · cases e
  · cases e
/-! ### methods of the store's lists -/
theorem box_lst {W : Wd} {st : Store} {H : Hp} (k : Ok L W st H) {v : V} {n : Nat} {xs : List D} (r : Rep L W.T v (.ref n)) (e : st[n]? = some (.lst xs)) : ∃ a vs, v = .ref a ∧ W.T a = some (.box n) ∧ H a = some (.lst vs) ∧ vs.length ≤ sizeLine ∧ Reps L W.T vs xs := by
  cases r with
  | @ref a _ h =>
    obtain ⟨_, c, hc, ok⟩ := k.tag _ _ h
    rw [e] at hc; cases hc
    obtain ⟨vs, h1, h2, h3⟩ := ok
    exact ⟨a, vs, rfl, h, h1, h2, h3⟩
theorem Ok.setL {W : Wd} {st : Store} {H : Hp} {a : Addr} {n : Nat} {vs : List V} {ds : List D} (k : Ok L W st H) (h : W.T a = some (.box n)) (hz : vs.length ≤ sizeLine) (r : Reps L W.T vs ds) : Ok L W (st.set n (.lst ds)) (upd H a (.lst vs)) := k.set h ⟨vs, upd_same, hz, r⟩
theorem Reps.eraseIdx {T : TM} : ∀ {vs : List V} {ds : List D} (j : Nat), Reps L T vs ds → Reps L T (vs.eraseIdx j) (ds.eraseIdx j)
  | _, _, _, .nil => .nil
  | _, _, 0, .cons _ t => t
  | _, _, j + 1, .cons r t => .cons r (Reps.eraseIdx j t)
theorem Reps.dropLast {T : TM} {vs : List V} {ds : List D} (r : Reps L T vs ds) : Reps L T vs.dropLast ds.dropLast := by
  rw [List.dropLast_eq_take, List.dropLast_eq_take, r.length]
  exact r.take _
theorem m_append : MtR X "list.append" (rm L F.append) := by
  intro pins s σ H x xs v us Q I rx rxs ⟨W, st, d, ds, r, st', k, r1, rs, e, q⟩
  unfold F.append at e
  split at e
  · rename_i y
    split at e
    · rename_i n
      cases e1 : st[n]? with
      | none => simp only [e1] at e; cases e
      | some c =>
        cases c with
        | lst ys =>
          simp only [e1] at e
          split at e
          · rename_i hb
            cases e
            obtain ⟨w, rfl, r2⟩ := reps_one rs
            obtain ⟨a, vs, rfl, ht, h1, hz, r3⟩ := box_lst k r1 e1
            have hl : vs.length < sizeLine := by rw [r3.length]; exact Nat.lt_of_lt_of_le hb big_line
            exact mt_append pins s σ H _ _ v us Q I rx rxs ⟨a, vs, w, rfl, rfl, h1, hl, q W _ _ TM.le.rfl (k.setL ht (by simpa using Nat.succ_le_of_lt hl) (r3.append (.cons r2 .nil))) .non⟩
          · cases e
        | _ => simp only [e1] at e; cases e
    · cases e
  · cases e
theorem m_extend : MtR X "list.extend" (rm L F.extend) := by
  intro pins s σ H x xs v us Q I rx rxs ⟨W, st, d, ds, r, st', k, r1, rs, e, q⟩
  unfold F.extend at e
  split at e
  · rename_i y
    split at e
    · rename_i n
      cases e1 : st[n]? with
      | none => simp only [e1] at e; cases e
      | some c =>
        cases c with
        | lst ys =>
          simp only [e1] at e
          split at e
          · rename_i zs e2
            split at e
            · rename_i hb
              cases e
              obtain ⟨w, rfl, r2⟩ := reps_one rs
              obtain ⟨a, vs, rfl, ht, h1, hz, r3⟩ := box_lst k r1 e1
              obtain ⟨b, ws, rfl, h2, hz2, r4⟩ := lstOf_rep k r2 e2
              have hl : vs.length + ws.length ≤ sizeLine := by rw [r3.length, r4.length]; exact Nat.le_trans hb big_line
              exact mt_extend pins s σ H _ _ v us Q I rx rxs ⟨a, b, vs, ws, rfl, rfl, h1, h2, hl, q W _ _ TM.le.rfl (k.setL ht (by simpa using hl) (r3.append r4)) .non⟩
            · cases e
          · cases e
        | _ => simp only [e1] at e; cases e
    · cases e
  · cases e
def F.popAt (st : Store) (o : D) : List D → Option (D × Store)
  | [x] => F.pop st o [x]
  | _ => none
def F.popLast (st : Store) (o : D) : List D → Option (D × Store)
  | [] => F.pop st o []
  | _ => none
theorem m_popAt : MtR X "list.pop" (rm L F.popAt) := by
  intro pins s σ H x xs v us Q I rx rxs ⟨W, st, d, ds, r, st', k, r1, rs, e, q⟩
  unfold F.popAt at e
  split at e
  · rename_i y
    unfold F.pop at e
    split at e
    · rename_i i hh
      cases hh
      split at e
      · rename_i n
        cases e1 : st[n]? with
        | none => simp only [e1] at e; cases e
        | some c =>
          cases c with
          | lst ys =>
            simp only [e1] at e
            cases e2 : ixN ys.length i with
            | none => rw [e2] at e; cases e
            | some j =>
              rw [e2] at e
              simp only at e
              cases e3 : ys[j]? with
              | none => rw [e3] at e; cases e
              | some y =>
                rw [e3] at e
                simp only at e
                split at e
                · rename_i hb
                  cases e
                  obtain ⟨w, rfl, r2⟩ := reps_one rs
                  cases r2
                  obtain ⟨a, vs, rfl, ht, h1, hz, r3⟩ := box_lst k r1 e1
                  obtain ⟨y', h2, r4⟩ := r3.get e3
                  obtain ⟨q1, q2, q3, q4⟩ := ixN_seq e2
                  have hs : sizeLine = 16777216 := sizeLine_eq
                  have hl := r3.length
                  refine mt_popAt pins s σ H _ _ v us Q I rx rxs ⟨a, vs, i, j, y', rfl, rfl, h1, by omega, by omega, by rw [hl]; exact q1, h2, ?_⟩
                  exact q W _ _ TM.le.rfl (k.setL ht (Nat.le_trans (List.length_eraseIdx_le _ _) hz) (r3.eraseIdx j)) r4
                · cases e
          | _ => simp only [e1] at e; cases e
      · cases e
    · rename_i hh; cases hh
    · cases e
  · cases e
theorem m_popLast : MtR X "list.pop" (rm L F.popLast) := by
  intro pins s σ H x xs v us Q I rx rxs ⟨W, st, d, ds, r, st', k, r1, rs, e, q⟩
  unfold F.popLast at e
  split at e
  · unfold F.pop at e
    split at e
    · rename_i hh; cases hh
    · split at e
      · rename_i n
        cases e1 : st[n]? with
        | none => simp only [e1] at e; cases e
        | some c =>
          cases c with
          | lst ys =>
            simp only [e1] at e
            cases e3 : ys[ys.length - 1]? with
            | none => rw [e3] at e; cases e
            | some y =>
              rw [e3] at e; cases e
              cases rs
              obtain ⟨a, vs, rfl, ht, h1, hz, r3⟩ := box_lst k r1 e1
              obtain ⟨y', h2, r4⟩ := r3.get e3
              refine mt_pop pins s σ H _ _ v us Q I rx rxs ⟨a, vs, y', rfl, rfl, h1, by rw [r3.length]; exact h2, ?_⟩
              exact q W _ _ TM.le.rfl (k.setL ht (by rw [List.length_dropLast]; omega) r3.dropLast) r4
          | _ => simp only [e1] at e; cases e
      · cases e
    · rename_i hh; exact (hh rfl).elim
  · cases e
def F.isL (st : Store) (d : D) : Bool := (F.lstOf st d).isSome
theorem mth_imp {T : String} {c : Store → D → Bool} {f : Store → D → List D → Option (D × Store)} {mo : ME} {ma : MA} {σ : L2.St} {H : Hp} {Q : VK}
    (hc : ∀ (W : Wd) (st : Store) (H : Hp) (v : V) (d : D), Ok L W st H → Rep L W.T v d → c st d = true → tyV X.K T v H) (h : tE L (E.mth c f mo ma) σ H Q) : tBM X.K T (rm L f) (tE L mo) (tA L ma) σ H Q := by
  obtain ⟨W, ρ, st, d, st', re, k, e, q⟩ := h
  unfold E.mth at e
  obtain ⟨⟨x, st1⟩, e1, e⟩ := bindP e
  simp only at e
  split at e
  · rename_i hx
    obtain ⟨⟨ds, st2⟩, e2, e⟩ := bindP e
    exact ⟨W, ρ, st, x, st1, re, k, e1, fun W1 v H1 l1 k1 r1 => ⟨hc W1 st1 H1 v x k1 r1 hx, W1, ρ, st1, ds, st2, re.mono l1.leR, k1, e2, fun W2 vs H2 l2 k2 r2 =>
      ⟨W2, st2, x, ds, d, st', k2, r1.mono l2.leR, r2, e, fun W' v H' l' => q W' v H' ((l1.trans l2).trans l')⟩⟩⟩
  · cases e
theorem ty_lst (W : Wd) (st : Store) (H : Hp) (v : V) (d : D) (k : Ok L W st H) (r : Rep L W.T v d) (h : F.isL st d = true) : tyV X.K "list" v H := by
  unfold F.isL at h
  cases e : F.lstOf st d with
  | none => rw [e] at h; cases h
  | some xs =>
    obtain ⟨a, vs, rfl, h1, _⟩ := lstOf_rep k r e
    exact .inl ⟨rfl, vs, SqL.of h1⟩
theorem se_bm {T : String} {c : Store → D → Bool} {f : Store → D → List D → Option (D × Store)} {o e : Expr} {es : List Expr} {mo : ME} {ma : MA} {name : Str} {apos : Pos} {id : String}
    (hc : ∀ (W : Wd) (st : Store) (H : Hp) (v : V) (d : D), Ok L W st H → Rep L W.T v d → c st d = true → tyV X.K T v H) (pa : PlainAttrs T)
    (slot : Slot T name id) (hty : typeOf (.builtin id) = pure (.type "method_descriptor")) (hm : MtR X id (rm L f)) (ho : PE X o (tE L mo)) (ha : PA X (e :: es) (tA L ma))
    (hbase : attributeBase o name X.env (eval o X.env) = eval o X.env := by rfl)
    (hfew : ((backTo pos (starEach (e :: es) X.env)).all (fun x => !x.1) && (backToKw pos (keywordEach [] X.env)).all (fun x => x.1.isSome)
      && decide ((e :: es).length + ([] : List Keyword).length + (if ([] : List Keyword).isEmpty then 0 else 1) < 30)) = true := by rfl)
    (hline : (apos.endLine == pos.line) = true := by rfl) (hs : starEach (e :: es) X.env = (false, eval e X.env) :: starEach es X.env := by rfl) (hplain : (backTo pos (starEach es X.env)).any (·.1) = false := by rfl) :
    PE X (.Call (.Attribute o name apos) (e :: es) [] pos) (tE L (E.mth c f mo ma)) :=
  (pe_bm pa slot hty hm ho ha hbase hfew hline hs hplain).imp fun _ _ _ h => mth_imp hc h
theorem se_bm0 {T : String} {c : Store → D → Bool} {f : Store → D → List D → Option (D × Store)} {o : Expr} {mo : ME} {name : Str} {apos : Pos} {id : String}
    (hc : ∀ (W : Wd) (st : Store) (H : Hp) (v : V) (d : D), Ok L W st H → Rep L W.T v d → c st d = true → tyV X.K T v H) (pa : PlainAttrs T)
    (slot : Slot T name id) (hty : typeOf (.builtin id) = pure (.type "method_descriptor")) (hm : MtR X id (rm L f)) (ho : PE X o (tE L mo))
    (hbase : attributeBase o name X.env (eval o X.env) = eval o X.env := by rfl) (hline : (apos.endLine == pos.line) = true := by rfl) :
    PE X (.Call (.Attribute o name apos) [] [] pos) (tE L (E.mth c f mo E.nilA)) :=
  (pe_bm0 pa slot hty hm ho hbase hline).imp fun σ H Q h => by
    obtain ⟨W, ρ, st, x, st1, re, k, e, g⟩ := mth_imp (X := X) hc h
    refine ⟨W, ρ, st, x, st1, re, k, e, fun W1 v H1 l1 k1 r1 => ?_⟩
    obtain ⟨z, W2, ρ2, st2, ds, st3, re2, k2, e2, g2⟩ := g W1 v H1 l1 k1 r1
    cases e2
    exact ⟨z, g2 W2 [] H1 TM.le.rfl k2 .nil⟩
/-! ### o[i] = e -/
def rSto (L : Lb) : V → V → V → Hp → (Hp → Prop) → Prop := fun o i v H Q => ∃ W st d x y st', Ok L W st H ∧ Rep L W.T o d ∧ Rep L W.T i x ∧ Rep L W.T v y ∧ F.store st d x y = some st' ∧ ∀ W' H', W.T.le W'.T → Ok L W' st' H' → Q H'
theorem PSet.orI {t u : TSet} (h : PSet X t) (h' : PSet X u) : PSet X (fun o i v H Q => t o i v H Q ∨ u o i v H Q) := fun pins s σ H o i v ov iv u Q I a b c q => q.elim (h pins s σ H o i v ov iv u Q I a b c) (h' pins s σ H o i v ov iv u Q I a b c)
theorem set_dictP (hu : X.A.units + 1 < cLine) : PSet X (fun o i v H Q => ∃ a H', o = V.ref a ∧ DPut H a i v H' ∧ Q H') := by
  intro pins s σ H o i v ov iv u Q I ro ri rv ⟨a, H', e, g, q⟩
  subst e
  obtain rfl : ov = Value.ref a := ro
  exact d_setItem hu I g ri rv fun s' I' => ⟨H', I', q⟩
theorem repK_any {T : TM} {k : Key} {x : D} (hx : F.keyK x = some (.inl k)) : ∀ {kvs : List (Key × V)} {ds : List (D × D)}, RepK L T kvs ds → (kvs.any fun kv => decide (kv.1 = k)) = ds.any fun p => decide (F.keyK p.1 = F.keyK x)
  | _, _, .nil => rfl
  | _, _, .cons (k := k') r t => by
    rw [List.any_cons, List.any_cons, repK_any hx t]
    congr 1
    rw [decide_eq_decide, hx]
    show k' = k ↔ F.keyK (keyD k') = _
    rw [keyK_keyD]
    exact ⟨fun e => by rw [e], fun e => by cases e; rfl⟩
theorem repT_any {T : TM} {k : List Key} {x : D} (hx : F.keyK x = some (.inr k)) : ∀ {kvs : List (List Key × V)} {ds : List (D × D)}, RepT L T kvs ds → (kvs.any fun kv => decide (kv.1 = k)) = ds.any fun p => decide (F.keyK p.1 = F.keyK x)
  | _, _, .nil => rfl
  | _, _, .cons (k := k') l r t => by
    rw [List.any_cons, List.any_cons, repT_any hx t]
    congr 1
    rw [decide_eq_decide, hx]
    show k' = k ↔ F.keyK (.tup (k'.map keyD)) = _
    rw [keyK_tup]
    exact ⟨fun e => by rw [e], fun e => by cases e; rfl⟩
theorem repK_map {T : TM} {k : Key} {x : D} (hx : F.keyK x = some (.inl k)) {v : V} {y : D} (ry : Rep L T v y) : ∀ {kvs : List (Key × V)} {ds : List (D × D)}, RepK L T kvs ds →
    RepK L T (kvs.map fun kv => if kv.1 = k then (kv.1, v) else kv) (ds.map fun p => if F.keyK p.1 = F.keyK x then (p.1, y) else p)
  | _, _, .nil => .nil
  | _, _, .cons (k := k') (v := v') (d := d') r t => by
    rw [List.map_cons, List.map_cons]
    by_cases e : k' = k
    · rw [if_pos e, if_pos (by rw [hx]; show F.keyK (keyD k') = _; rw [keyK_keyD, e])]
      exact .cons ry (repK_map hx ry t)
    · rw [if_neg e, if_neg (by rw [hx]; show ¬ F.keyK (keyD k') = _; rw [keyK_keyD]; intro z; cases z; exact e rfl)]
      exact .cons r (repK_map hx ry t)
theorem repT_map {T : TM} {k : List Key} {x : D} (hx : F.keyK x = some (.inr k)) {v : V} {y : D} (ry : Rep L T v y) : ∀ {kvs : List (List Key × V)} {ds : List (D × D)}, RepT L T kvs ds →
    RepT L T (kvs.map fun kv => if kv.1 = k then (kv.1, v) else kv) (ds.map fun p => if F.keyK p.1 = F.keyK x then (p.1, y) else p)
  | _, _, .nil => .nil
  | _, _, .cons (k := k') (v := v') (d := d') l r t => by
    rw [List.map_cons, List.map_cons]
    by_cases e : k' = k
    · rw [if_pos e, if_pos (by rw [hx]; show F.keyK (.tup (k'.map keyD)) = _; rw [keyK_tup, e])]
      exact .cons l ry (repT_map hx ry t)
    · rw [if_neg e, if_neg (by rw [hx]; show ¬ F.keyK (.tup (k'.map keyD)) = _; rw [keyK_tup]; intro z; cases z; exact e rfl)]
      exact .cons l r (repT_map hx ry t)
theorem repK_snoc {T : TM} {k : Key} {v : V} {y : D} (ry : Rep L T v y) : ∀ {kvs : List (Key × V)} {ds : List (D × D)}, RepK L T kvs ds → RepK L T (kvs ++ [(k, v)]) (ds ++ [(keyD k, y)])
  | _, _, .nil => .cons ry .nil
  | _, _, .cons r t => .cons r (repK_snoc ry t)
theorem repT_snoc {T : TM} {k : List Key} (hl : k.length ≤ sizeLine) {v : V} {y : D} (ry : Rep L T v y) : ∀ {kvs : List (List Key × V)} {ds : List (D × D)}, RepT L T kvs ds → RepT L T (kvs ++ [(k, v)]) (ds ++ [(.tup (k.map keyD), y)])
  | _, _, .nil => .cons hl ry .nil
  | _, _, .cons l r t => .cons l r (repT_snoc hl ry t)
theorem repK_put {T : TM} {k : Key} {x : D} (hx : F.keyK x = some (.inl k)) (hd : x = keyD k) {v : V} {y : D} (ry : Rep L T v y) {kvs : List (Key × V)} {ds : List (D × D)} (r : RepK L T kvs ds) : RepK L T (putK kvs k v) (F.put ds x y) := by
  unfold putK F.put
  rw [repK_any hx r]
  split
  · exact repK_map hx ry r
  · subst hd; exact repK_snoc ry r
theorem repT_put {T : TM} {k : List Key} {x : D} (hx : F.keyK x = some (.inr k)) (hd : x = .tup (k.map keyD)) (hl : k.length ≤ sizeLine) {v : V} {y : D} (ry : Rep L T v y) {kvs : List (List Key × V)} {ds : List (D × D)} (r : RepT L T kvs ds) : RepT L T (putK kvs k v) (F.put ds x y) := by
  unfold putK F.put
  rw [repT_any hx r]
  split
  · exact repT_map hx ry r
  · subst hd; exact repT_snoc hl ry r
theorem nd_put {κ : Type} [DecidableEq κ] {kvs : List (κ × V)} {k : κ} {v : V} (h : (kvs.map (·.1)).Nodup) : ((putK kvs k v).map (·.1)).Nodup := by
  unfold putK
  by_cases a : (kvs.any fun kv => decide (kv.1 = k)) = true
  · rw [if_pos a]
    have : (kvs.map fun kv => if kv.1 = k then (kv.1, v) else kv).map (·.1) = kvs.map (·.1) := by
      rw [List.map_map]
      apply List.map_congr_left
      intro p _
      simp only [Function.comp]
      split <;> rfl
    rw [this]; exact h
  · rw [if_neg a, List.map_append]
    refine List.nodup_append.mpr ⟨h, by simp, ?_⟩
    intro x hx y hy e
    simp only [List.map_cons, List.map_nil, List.mem_singleton] at hy
    subst hy; subst e
    obtain ⟨p, hp, e⟩ := List.mem_map.mp hx
    exact a (List.any_eq_true.mpr ⟨p, hp, decide_eq_true e⟩)
theorem putK_len {κ : Type} [DecidableEq κ] (kvs : List (κ × V)) (k : κ) (v : V) : (putK kvs k v).length ≤ kvs.length + 1 := by
  unfold putK
  split
  · simp
  · simp
theorem p_store (hu : X.A.units + 1 < cLine) : PSet X (rSto L) := by
  have main : PSet X (fun o i v H Q => rSetL o i v H Q ∨ ∃ a H', o = V.ref a ∧ DPut H a i v H' ∧ Q H') := PSet.orI set_list (set_dictP hu)
  intro pins s σ H o i v ov iv u Q I ro ri rv ⟨W, st, d, x, y, st', k, r1, r2, r3, e, q⟩
  refine main pins s σ H o i v ov iv u Q I ro ri rv ?_
  unfold F.store at e
  split at e
  · rename_i n
    cases e1 : st[n]? with
    | none => simp only [e1] at e; cases e
    | some c =>
      cases c with
      | lst xs =>
        simp only [e1] at e
        cases x with
        | int j =>
          simp only at e
          cases e2 : ixN xs.length j with
          | none => rw [e2] at e; cases e
          | some m =>
            rw [e2] at e; cases e
            cases r2
            obtain ⟨a, vs, rfl, ht, h1, hz, r4⟩ := box_lst k r1 e1
            exact .inl ⟨a, vs, j, m, rfl, rfl, h1, by rw [r4.length]; exact e2, q W _ TM.le.rfl (k.setL ht (by simpa using hz) (r4.set r3 m))⟩
        | _ => cases e
      | dct t kvs =>
        simp only [e1] at e
        split at e
        · rename_i hk
          cases e
          cases r1 with
          | @ref a _ h =>
            obtain ⟨_, c, hc, ok⟩ := k.tag _ _ h
            rw [e1] at hc; cases hc
            rcases key_rep k r2 hk.1 with ⟨rfl, kk, q1, rfl, q3⟩ | ⟨rfl, ks, b, q1, rfl, hb, q3, hl⟩
            · obtain ⟨vs, h1, h2, h3, h4⟩ := ok
              have hz : vs.length < sizeLine := by rw [repK_length h3]; exact Nat.lt_of_lt_of_le hk.2 big_line
              refine .inr ⟨a, _, rfl, .k h1 hz, q W _ TM.le.rfl (k.set h ⟨_, upd_same, ?_, repK_put q1 q3 r3 h3, nd_put h4⟩)⟩
              exact Nat.le_trans (putK_len _ _ _) hz
            · obtain ⟨vs, h1, h2, h3, h4⟩ := ok
              have hz : vs.length < sizeLine := by rw [repT_length h3]; exact Nat.lt_of_lt_of_le hk.2 big_line
              refine .inr ⟨a, _, rfl, .t h1 hb hz, q W _ TM.le.rfl (k.set h ⟨_, upd_same, ?_, repT_put q1 q3 hl r3 h3, nd_put h4⟩)⟩
              exact Nat.le_trans (putK_len _ _ _) hz
        · cases e
      | _ => simp only [e1] at e; cases e
  · cases e
theorem s_store {o i e : Expr} {mo mi me : ME} {tpos : Pos} (hu : X.A.units + 1 < cLine) (he : PE X e (tE L me)) (ho : PE X o (tE L mo)) (hi : PE X i (tE L mi))
    (ha : ∀ v, assign (.Subscript o i tpos) X.env v = (do
      let ov ← holding [v] (eval o X.env)
      let iv ← holding [v, ov] (eval i X.env)
      standAt tpos
      holding [v, ov, iv] (setItem ov iv v)
      release [v, ov, iv] []) := by intro _; rfl)
    (hs : swapsWithSole [.Subscript o i tpos] e pos.line X.env = pure false := by rfl) (hw : swappedStores [.Subscript o i tpos] e X.env = pure none := by rfl)
    (h1 : (assignEach [.Subscript o i tpos] X.env).map (·.2) = [assign (.Subscript o i tpos) X.env] := by rfl) :
    PS X (.Assign [.Subscript o i tpos] e pos) (tS L (S.store mo mi me)) :=
  (ps_asg he (pg_sub ho hi (p_store hu) ha) hs hw h1).imp fun D σ H => by
    rintro ⟨W, ρ, st, f, ρ', st', re, k, e, q⟩
    unfold S.store at e
    obtain ⟨⟨y, st1⟩, e1, e⟩ := bindP e
    obtain ⟨⟨d, st2⟩, e2, e⟩ := bindP e
    obtain ⟨⟨x, st3⟩, e3, e⟩ := bindP e
    simp only at e e2 e3
    cases e4 : F.store st3 d x y with
    | none => rw [e4] at e; cases e
    | some st4 =>
      rw [e4] at e; cases e
      exact ⟨W, ρ, st, y, st1, re, k, e1, fun W1 v H1 l1 k1 r1 => ⟨W1, ρ, st1, d, st2, re.mono l1.leR, k1, e2, fun W2 o H2 l2 k2 r2 => ⟨W2, ρ, st2, x, st3, (re.mono l1.leR).mono l2.leR, k2, e3, fun W3 i H3 l3 k3 r3 =>
        ⟨W3, st3, d, x, y, st', k3, r2.mono l3.leR, r3, r1.mono (l2.trans l3).leR, e4, fun W' H' l' k' => q W' σ H' (((l1.trans l2).trans l3).trans l') k' (re.mono (((l1.trans l2).trans l3).trans l').leR)⟩⟩⟩⟩
/-! ### a dict of its own, empty -/
theorem se_dctK : PE X (.Dict [] [] pos) (tE L (E.dctB false)) := pe_dnewK.imp fun σ H Q => by
  rintro ⟨W, ρ, st, d, st', re, k, e, q⟩
  cases e
  intro p hp
  have le : W.T.le (W.T.put p (.box st.length)) := TM.le_put (k.noT hp)
  exact q ⟨W.T.put p (.box st.length), fun n => if n = st.length then p else W.loc n⟩ _ _ le (k.push hp ⟨[], upd_same, Nat.zero_le _, .nil, List.nodup_nil⟩) (.ref TM.put_same)
theorem se_dctT : PE X (.Dict [] [] pos) (tE L (E.dctB true)) := pe_dnewT.imp fun σ H Q => by
  rintro ⟨W, ρ, st, d, st', re, k, e, q⟩
  cases e
  intro p hp
  have le : W.T.le (W.T.put p (.box st.length)) := TM.le_put (k.noT hp)
  exact q ⟨W.T.put p (.box st.length), fun n => if n = st.length then p else W.loc n⟩ _ _ le (k.push hp ⟨[], upd_same, Nat.zero_le _, .nil, List.nodup_nil⟩) (.ref TM.put_same)
end
end Sm
/-! ## SimI -/
/-! Sm, part I: families: attributes, ==, !=. -/
namespace Sm
open PySem PySem.Spec PyProof.Rows L2

/-! ### != of an instance whose class has an own == alone -/
section
open PySem.W
variable {prog : Program} {w : World} {A : Around} {E : Value → Shared → Prop} {s : Shared} {K : Frag} {x C L f : Addr} {h₀ : Heap} {m : Str → Option Value} {ox : Obj} {od : Option Obj} {name : Str} {b tb : Value}
theorem ifBound_B {M : Model} {args : List Value} {id : String} {T : String} {Q : Option Value → Shared → Prop} (X : K.In s.heap) (I : InstAt s.heap x ox C od) (hs : findIn K (.ref C) name = some (some (.builtin id))) (S : Slot T name id)
    (h : wpAny M A (call (.builtin id) (.ref x :: args)) (fun v => Q (some v)) E s) : wpAny M A (callSpecialIfBound? (.ref x) name args) Q E s := by
  simp only [callSpecialIfBound?, bindSpecialIfBound?]
  refine wpAny_holding (wpAny_bind (wpAny_bind (wpAny_bind (I.type.here ((looks_findIn X hs).here ?_)))))
  simp only [S.bind]
  refine wpAny_bind (wpAny_askSetting (wpAny_ite ?_))
  have fin : wpAny M A (call (.builtin id) ([.ref x] ++ args) >>= fun v => pure (some v)) Q E s := wpAny_bind (wpAny_mono h (fun v s' h' => wpAny_pure h') fun _ _ h' => h')
  split
  · exact wpAny_bind (wpAny_pure (wpAny_pure fin))
  · exact wpAny_tryCatch (wpAny_bind (wpAny_pure (wpAny_pure fin)))
theorem ne_K {Q : Value → Shared → Prop} (hu : A.units + 1 < cLine) (F : Fr h₀ L s.heap m) (X₀ : K.In h₀) (I : InstAt s.heap x ox C od) (hb : Looks (model prog w) s.heap (typeOf b) tb) (hn : notFirst K C tb = true)
    (hs : findIn K (.ref C) "__ne__" = some (some (.builtin "object.__ne__"))) (he : findIn K (.ref C) "__eq__" = some (some (.ref f))) (hf : isFn K (.ref f) = true) (hm : mroIn K C (.type "object") = some true)
    (h : wpAny (model prog w) A.in1 (call (.ref f) [.ref x, b]) (fun v s' => ∃ k, v = .bool k ∧ Q (.bool (!k)) s') E s) : wpAny (model prog w) A (richCompare .NotEq (.ref x) b) Q E s := by
  have X := X₀.keeps F.keep
  have entry : ∀ {R : Fin → Shared → Prop}, (∀ k s', Q (.bool (!k)) s' → R (.done (.ret (.bool (!k)))) s') → wpAny (model prog w) A.in1 (Builtin.«object.__ne__» ⟨[.ref x, b], []⟩) R E s := by
    intro R hR
    unfold Builtin.«object.__ne__»
    repeat (first
      | with_reducible refine wpAny_cRoomFor (show A.in1.units < cLine from hu) ?_
      | (refine wpAny_bind (m := callSpecialIfBound? (.ref x) (Str.ofString "__eq__") [b])
          (ifBound_K X I he hf (wpAny_mono h (fun r s' hr => by
            obtain ⟨k, rfl, hq⟩ := hr
            have hq := hR k s' hq
            repeat (first | exact hq | exact wpAny_pure hq | exact wpAny_truthy_bool hq | (refine wpAny_bind (m := truthy (.bool _)) (wpAny_truthy_bool ?_)) | wp_step)) fun _ _ e => e)))
      | wp_step)
  have one : wpAny (model prog w) A (tryCompare (.ref x) "__ne__" b) (fun r s' => ∃ v, r = some v ∧ Q v s') E s := by
    unfold tryCompare
    have sub : Looks (model prog w) s.heap (isInstance (.ref x) (.type "object")) true := I.type.andThen (looks_mroIn X hm)
    refine wpAny_bind (ifBound_B X I hs PySem.F.cmp_object.ne (wpAny_call (codeAny_call_builtin PySem.F.cmp_object.ne.plain PySem.F.cmpEntry_ne
      (check_slot PySem.F.cmpKind_ne PySem.F.cmpSplit_ne sub (PySem.F.cmpArgs_ne _ _) (entry fun k s' hq => ?_)))))
    first | exact ⟨_, rfl, hq⟩ | exact wpAny_pure ⟨_, rfl, hq⟩ | exact wpAny_pure (wpAny_pure ⟨_, rfl, hq⟩)
  unfold richCompare
  simp only [oneThing_ref]
  refine wpAny_holding (wpAny_bind (wpAny_cRoomFor (Nat.lt_of_succ_lt hu) ?_))
  refine wpAny_bind (I.type.here (wpAny_bind (hb.here ?_)))
  split
  · rename_i q
    have e : subIn K tb (.ref C) = some false := by
      rcases Bool.or_eq_true_iff.mp hn with e | e
      · rw [beq_iff_eq.mp e] at q; simp at q
      · exact beq_iff_eq.mp e
    refine wpAny_bind ((looks_subIn X e).here ?_)
    simp only [Bool.false_eq_true, if_false]
    refine wpAny_bind (wpAny_mono one (fun r s' z => ?_) fun _ _ e => e)
    obtain ⟨v, rfl, hq⟩ := z
    exact wpAny_pure hq
  · refine wpAny_bind (wpAny_pure ?_)
    simp only [Bool.false_eq_true, if_false]
    refine wpAny_bind (wpAny_mono one (fun r s' z => ?_) fun _ _ e => e)
    obtain ⟨v, rfl, hq⟩ := z
    exact wpAny_pure hq
end

/-! ### the meaning of ==, != where families may stand -/
namespace F
def eqS (meq : Fn) (st : Store) (a b : D) : Option (D × Store) := match a, b with
  | .fam n l, .fam m k => (meq [.fam n l, .fam m k] st).bind fun p => match p.1 with | .bl r => some (.bl r, p.2) | _ => none
  | a, b => (eq0 st a b).map fun r => (r, st)
def neS (meq : Fn) (st : Store) (a b : D) : Option (D × Store) := match a, b with
  | .fam n l, .fam m k => (meq [.fam n l, .fam m k] st).bind fun p => match p.1 with | .bl r => some (.bl (!r), p.2) | _ => none
  | a, b => (ne0 st a b).map fun r => (r, st)
/-- o.f -/
def attr (f : Str) (st : Store) : D → Option D
  | .fam n l => if f = "points" then some (.int n) else if f = "lots" then some l else none
  | .ref n => match st[n]? with | some (.ins _ fs) => fs.lookup f | _ => none
  | _ => none
end F
namespace E
def op2s (f : Store → D → D → Option (D × Store)) (a b : ME) : ME := fun ρ st => (a ρ st).bind fun p => (b ρ p.2).bind fun q => f q.2 p.1 q.1
def attr (f : Str) (a : ME) : ME := op1 (F.attr f) a
end E
def r2s (L : Lb) (f : Store → D → D → Option (D × Store)) : R2 := fun x y H Q => ∃ W st d e r st', Ok L W st H ∧ Rep L W.T x d ∧ Rep L W.T y e ∧ f st d e = some (r, st') ∧ ∀ W' v H', W.T.le W'.T → Ok L W' st' H' → Rep L W'.T v r → Q v H'
/-- the class's own == -/
structure EqOk (P : Program) (w : World) (K : PySem.W.Frag) (mg : Str → Option Value) (base : Heap) (L : Lb) (k : Nat) (meq : Fn) : Prop where
  ex : ∃ g fd, FnOk P w K mg base CX0 k g fd ["self", "other"] (spF L 2 meq) ∧ PySem.W.findIn K (.ref (L.cl "Family")) "__eq__" = some (some (.ref g)) ∧ PySem.W.isFn K (.ref g) = true ∧ Binds K fd ["self", "other"] []
  ne : PySem.W.findIn K (.ref (L.cl "Family")) "__ne__" = some (some (.builtin "object.__ne__"))
  hm : PySem.W.mroIn K (L.cl "Family") (.type "object") = some true
section
variable {L : Lb} {X : Cx} {pos : Pos}
theorem run_eq {pins : List (Addr × Obj)} {s : Shared} {σ : L2.St} {H : Hp} {A : Around} {g : Addr} {fd : FuncData} {k : Nat} {meq : Fn} {a b : Addr} {Q : VK} (F : FnOk X.prog X.w X.K X.mg X.base CX0 k g fd ["self", "other"] (spF L 2 meq)) (hb : Binds X.K fd ["self", "other"] []) (I : Inv X pins σ H s)
    (hr : Room k A) (e0 : Env0 X.prog X.w X.K X.mg X.base A X.stack s H) (h : spF L 2 meq [.ref a, .ref b] H Q E0) : wpAny (model X.prog X.w) A (call (.ref g) [.ref a, .ref b]) (EP X pins σ Q) X.xe s := by
  have r2 : Vals [V.ref a, V.ref b] [Value.ref a, Value.ref b] := .cons rfl (.cons rfl .nil)
  refine wpAny_call (codeAny_mono (F.run A X.stack s H ⟨[.ref a, .ref b], []⟩ [.ref a, .ref b] [.ref a, .ref b] Q E0 hr e0 (by
    have := hb s [.ref a, .ref b] I.kIn (by simp)
    simpa using this) r2 h) fun r s' hq => ?_)
  cases r with
  | error e => exact False.elim hq
  | ok fl =>
    cases fl with
    | ret w => exact I.after hq
    | next => exact False.elim hq
    | brk => exact False.elim hq
    | cont => exact False.elim hq
theorem o_eqS {k : Nat} {meq : Fn} (EO : EqOk X.prog X.w X.K X.mg X.base L k meq) (hr : Room k X.A) : OpR X (compareOp .Eq) (r2s L (F.eqS meq)) := by
  intro pins s σ H x y v u Q I rx ry ⟨W, st, d, e, r, st', k1, r1, r2, ef, q⟩
  unfold F.eqS at ef
  split at ef
  · obtain ⟨⟨z, st2⟩, e1, e2⟩ := bindP ef
    simp only at e2
    split at e2
    · cases e2
      obtain ⟨g, fd, G, hf, hfn, hb⟩ := EO.ex
      cases id r1 with
      | @fam a i h1 =>
        cases id r2 with
        | @fam b j h2 =>
          cases (show v = Value.ref a from rx)
          cases (show u = Value.ref b from ry)
          have t1 := k1.tag _ _ h1
          have t2 := k1.tag _ _ h2
          obtain ⟨mA, J, _⟩ := ins_get I.hok t1.1
          obtain ⟨mB, J', _⟩ := ins_get I.hok t2.1
          obtain ⟨od, J, _⟩ := J.look
          obtain ⟨od', J', _⟩ := J'.look
          obtain ⟨m, hF⟩ := I.fr
          show wpAny (model X.prog X.w) X.A (richCompare .Eq _ _) (EP X pins σ Q) X.xe s
          refine PySem.W.cmp_K (op := .Eq) (tb := .ref (L.cl "Family")) hr.units0 hF I.ok.mod.kin J J'.type (by simp [PySem.W.notFirst]) hf hfn ?_
          refine wpAny_mono (run_eq (Q := fun z H' => ∃ kk, z = .bl kk ∧ Q (.bl kk) H') G hb I hr I.env0 ⟨rfl, W, st, _, _, _, k1, .cons r1 (.cons r2 .nil), e1, fun W' v' H' l' k' r' => by cases r'; exact ⟨_, rfl, q W' _ H' l' k' (.bl _)⟩⟩) (fun w s' z => ?_) fun _ _ x => x
          obtain ⟨z', H', I', rz, kk, rfl, qz⟩ := z
          exact SlX.cmpback rz ⟨_, H', I', rz, qz⟩
    · cases e2
  · cases e0 : F.eq0 st d e with
    | none => rw [e0] at ef; cases ef
    | some z =>
      rw [e0] at ef; cases ef
      exact o_eq0 hr.units pins s σ H _ _ v u Q I rx ry ⟨W, _, d, e, r, k1, r1, r2, e0, q⟩
theorem o_neS {k : Nat} {meq : Fn} (EO : EqOk X.prog X.w X.K X.mg X.base L k meq) (hr : Room (k + 1) X.A) : OpR X (compareOp .NotEq) (r2s L (F.neS meq)) := by
  intro pins s σ H x y v u Q I rx ry ⟨W, st, d, e, r, st', k1, r1, r2, ef, q⟩
  unfold F.neS at ef
  split at ef
  · obtain ⟨⟨z, st2⟩, e1, e2⟩ := bindP ef
    simp only at e2
    split at e2
    · cases e2
      obtain ⟨g, fd, G, hf, hfn, hb⟩ := EO.ex
      cases id r1 with
      | @fam a i h1 =>
        cases id r2 with
        | @fam b j h2 =>
          cases (show v = Value.ref a from rx)
          cases (show u = Value.ref b from ry)
          have t1 := k1.tag _ _ h1
          have t2 := k1.tag _ _ h2
          obtain ⟨mA, J, _⟩ := ins_get I.hok t1.1
          obtain ⟨mB, J', _⟩ := ins_get I.hok t2.1
          obtain ⟨od, J, _⟩ := J.look
          obtain ⟨od', J', _⟩ := J'.look
          obtain ⟨m, hF⟩ := I.fr
          show wpAny (model X.prog X.w) X.A (richCompare .NotEq _ _) (EP X pins σ Q) X.xe s
          have hu : X.A.units + 1 < cLine := hu_of hr
          refine ne_K (tb := .ref (L.cl "Family")) hu hF I.ok.mod.kin J J'.type (by simp [PySem.W.notFirst]) EO.ne hf hfn EO.hm ?_
          refine wpAny_mono (run_eq (Q := fun z H' => ∃ kk, z = .bl kk ∧ Q (.bl (!kk)) H') G hb I hr.in1 I.env0.in1 ⟨rfl, W, st, _, _, _, k1, .cons r1 (.cons r2 .nil), e1, fun W' v' H' l' k' r' => by cases r'; exact ⟨_, rfl, q W' _ H' l' k' (.bl _)⟩⟩) (fun w s' z => ?_) fun _ _ x => x
          obtain ⟨z', H', I', rz, kk, rfl, qz⟩ := z
          cases (show w = Value.bool kk from rz)
          exact ⟨kk, rfl, .bl (!kk), H', I', rfl, qz⟩
    · cases e2
  · cases e0 : F.ne0 st d e with
    | none => rw [e0] at ef; cases ef
    | some z =>
      rw [e0] at ef; cases ef
      exact o_ne0 hr.units pins s σ H _ _ v u Q I rx ry ⟨W, _, d, e, r, k1, r1, r2, e0, q⟩
theorem op2s_imp {f : Store → D → D → Option (D × Store)} {ma mb : ME} {σ : L2.St} {H : Hp} {Q : VK} (h : tE L (E.op2s f ma mb) σ H Q) : tOp (r2s L f) (tE L ma) (tE L mb) σ H Q := by
  obtain ⟨W, ρ, st, d, st', re, k, e, q⟩ := h
  obtain ⟨⟨x, st1⟩, e1, e⟩ := bindP e
  obtain ⟨⟨y, st2⟩, e2, e⟩ := bindP e
  exact ⟨W, ρ, st, x, st1, re, k, e1, fun W1 v H1 l1 k1 r1 => ⟨W1, ρ, st1, y, st2, re.mono l1.leR, k1, e2, fun W2 u H2 l2 k2 r2 =>
        ⟨W2, st2, x, y, d, st', k2, r1.mono l2.leR, r2, e, fun W' v H' l' => q W' v H' ((l1.trans l2).trans l')⟩⟩⟩
theorem se_cmpS {f : Store → D → D → Option (D × Store)} {op : CmpOp} {a b : Expr} {ma mb : ME} (ho : OpR X (compareOp op) (r2s L f)) (ha : PE X a (tE L ma)) (hb : PE X b (tE L mb)) (hm : behindInMarks op b = false) : PE X (.Compare a [op] [b] pos) (tE L (E.op2s f ma mb)) :=
  (pe_cmpR ho ha hb hm).imp fun _ _ _ h => op2s_imp h
theorem st_cmpS {f : Store → D → D → Option (D × Store)} {op : CmpOp} {a b : Expr} {ma mb : ME} (ho : OpR X (compareOp op) (r2s L f)) (ha : PE X a (tE L ma)) (hb : PE X b (tE L mb)) (hm : behindInMarks op b = false) : PT X (.Compare a [op] [b] pos) (tT L (E.tv (E.op2s f ma mb))) :=
  (pt_cmpR ho ha hb hm).imp fun σ H Q => by
    rintro ⟨W, ρ, st, d, st', re, k, e, q⟩
    obtain ⟨⟨z, st3⟩, e0, e⟩ := bindP e
    refine op2s_imp ⟨W, ρ, st, z, st3, re, k, e0, fun W' v H' l' k' r' => ?_⟩
    cases z with
    | bl b => cases e; cases r'; exact ⟨_, rfl, q W' H' l' k'⟩
    | _ => cases e
/-! ### attributes -/
theorem kP : ¬ (("points" : Str) = "lots") := by decide +kernel
theorem kP2 : ¬ (("points" : Str) = "looked") := by decide +kernel
theorem kL2 : ¬ (("lots" : Str) = "looked") := by decide +kernel
theorem famF_points (i : FamI) : (famFlds i).lookup ("points" : Str) = some (.int i.n) := by
  unfold famFlds
  rw [lookup_putF, if_neg kP2, lookup_putF, if_neg kP, lookup_putF, if_pos rfl]
theorem famF_lots (i : FamI) : (famFlds i).lookup ("lots" : Str) = some i.lv := by
  unfold famFlds
  rw [lookup_putF, if_neg kL2, lookup_putF, if_pos rfl]
theorem famF_looked (i : FamI) : (famFlds i).lookup ("looked" : Str) = some (.ref i.lk) := by
  unfold famFlds
  rw [lookup_putF, if_pos rfl]
/-- the classes of the store's instances: their attributes are plain -/
structure AttrOk (K : PySem.W.Frag) (L : Lb) (f : Str) : Prop where
  fam : FamOk K L
  cls : ∀ c, c ∈ ["Watch", "Turner", "Asker", "Desk"] → True
theorem repF_look {T : TM} {f : Str} {d : D} : ∀ {vs : List (Str × V)} {ds : List (Str × D)}, RepF L T vs ds → ds.lookup f = some d → ∃ v, vs.lookup f = some v ∧ Rep L T v d
  | _, _, .nil, e => by cases e
  | _, _, .cons (k := k) r t, e => by
    rw [List.lookup_cons] at e ⊢
    cases h : f == k with
    | true => rw [h] at e; cases e; exact ⟨_, rfl, r⟩
    | false => rw [h] at e; exact repF_look t e
/-- members.points, members.lots -/
def F.famAttr (f : Str) (_ : Store) : D → Option D
  | .fam n l => if f = "points" then some (.int n) else if f = "lots" then some l else none
  | _ => none
theorem se_fam {e : Expr} {m : ME} {f : Str} (FO : FamOk X.K L) (he : PE X e (tE L m)) (hb : attributeBase e f X.env (eval e X.env) = eval e X.env := by rfl) : PE X (.Attribute e f pos) (tE L (E.op1 (F.famAttr f) m)) :=
  (pe_fld he hb).imp fun σ H Q => by
    rintro ⟨W, ρ, st, d, st', re, k, e, q⟩
    obtain ⟨⟨x, st1⟩, e1, e⟩ := bindP e
    cases e2 : F.famAttr f st1 x with
    | none => simp only [e2] at e; cases e
    | some z =>
      simp only [e2] at e; cases e
      refine ⟨W, ρ, st, x, _, re, k, e1, fun W1 v H1 l1 k1 r1 => ?_⟩
      unfold F.famAttr at e2
      split at e2
      · cases id r1 with
        | @fam a i h1 =>
          have t1 := k1.tag _ _ h1
          split at e2
          · rename_i hf
            cases e2
            subst hf
            exact ⟨a, _, i.dx, _, _, rfl, t1.1, FO.cl, FO.nP, famF_points i, q W1 _ H1 l1 k1 (.int _)⟩
          · split at e2
            · rename_i hf
              cases e2
              subst hf
              exact ⟨a, _, i.dx, _, _, rfl, t1.1, FO.cl, FO.nL, famF_lots i, q W1 _ H1 l1 k1 t1.2.2.2.1⟩
            · cases e2
      · cases e2
end
end Sm
/-! ## SimJ -/
/-! Sm, part J: attributes of instances; instances made; a Family made. -/
namespace Sm
open PySem PySem.Spec PyProof.Rows L2

namespace F
def putD (f : Str) (v : D) : List (Str × D) → List (Str × D)
  | [] => [(f, v)]
  | (g, x) :: r => if g = f then (g, v) :: r else (g, x) :: putD f v r
/-- o.f of an instance of the store -/
def fld (cs : List String) (f : Str) (st : Store) : D → Option D
  | .ref n => match st[n]? with | some (.ins c fs) => if c ∈ cs then fs.lookup f else none | _ => none
  | _ => none
/-- o.f = v -/
def setF (cs : List String) (f : Str) (st : Store) (o v : D) : Option Store := match o with
  | .ref n => match st[n]? with | some (.ins c fs) => if c ∈ cs ∧ fs.length < 90 then some (st.set n (.ins c (putD f v fs))) else none | _ => none
  | _ => none
/-- a new instance, by its __init__ -/
def newI (c : String) (init : Fn) : Fn := fun ds st => (init (.ref st.length :: ds) (st ++ [.ins c []])).bind fun p => match p.1 with | .non => some (.ref st.length, p.2) | _ => none
def famCell (m : Int) (l : D) (n : Nat) : Cell := .ins "Family" [("points", .int m), ("lots", l), ("looked", .ref n)]
open Classical in
/-- a new family, by its __init__ -/
noncomputable def newFam (init : Fn) : Fn := fun ds st => match ds with
  | [.int m, l] => if l.bel 0 = true ∧ init [.ref st.length, .int m, l] (st ++ [.ins "Family" []]) = some (.non, st ++ [famCell m l (st.length + 1), .dct false []]) then some (.fam m l, st) else none
  | _ => none
end F
/-- the attribute f of the classes cs may be read and set -/
structure FldOk (K : PySem.W.Frag) (L : Lb) (cs : List String) (f : Str) : Prop where
  cl : ∀ c ∈ cs, Cls K (L.cl c)
  no : ∀ c ∈ cs, NoAttr K (L.cl c) f

/-! ### targets that change the store -/
abbrev MGx := D → Ev → Store → Option (Ev × Store)
def tGx (L : Lb) (m : MGx) : TG := fun v σ H Q => ∃ W ρ st d ρ' st', RepE L W.T σ ρ ∧ Ok L W st H ∧ Rep L W.T v d ∧ m d ρ st = some (ρ', st') ∧ ∀ W' σ' H', W.T.le W'.T → Ok L W' st' H' → RepE L W'.T σ' ρ' → Q σ' H'
def tGsx (L : Lb) (m : List D → Ev → Store → Option (Ev × Store)) : TGs := fun v σ H Q => ∃ W ρ st d ρ' st', RepE L W.T σ ρ ∧ Ok L W st H ∧ Reps L W.T v d ∧ m d ρ st = some (ρ', st') ∧ ∀ W' σ' H', W.T.le W'.T → Ok L W' st' H' → RepE L W'.T σ' ρ' → Q σ' H'
namespace G
def pure (g : MG) : MGx := fun d ρ st => (g d ρ).map fun ρ' => (ρ', st)
def fld (cs : List String) (f : Str) (o : ME) : MGx := fun d ρ st => (o ρ st).bind fun p => (F.setF cs f p.2 p.1 d).map fun s => (ρ, s)
def sub (o i : ME) : MGx := fun d ρ st => (o ρ st).bind fun p => (i ρ p.2).bind fun q => (F.store q.2 p.1 q.1 d).map fun s => (ρ, s)
def nilX : List D → Ev → Store → Option (Ev × Store) := fun ds ρ st => match ds with | [] => some (ρ, st) | _ => none
def consX (g : MGx) (r : List D → Ev → Store → Option (Ev × Store)) : List D → Ev → Store → Option (Ev × Store) := fun ds ρ st => match ds with | d :: t => (g d ρ st).bind fun p => r t p.1 p.2 | [] => none
def tupX (r : List D → Ev → Store → Option (Ev × Store)) : MGx := fun d ρ st => match d with | .tup ds => r ds ρ st | _ => none
end G
namespace S
def asgX (g : MGx) (a : ME) : MS := fun ρ st => (a ρ st).bind fun p => (g p.1 ρ p.2).map fun q => (.nx, q.1, q.2)
end S

section
variable {L : Lb} {X : Cx} {pos : Pos}
/-- o.f = v, as a target -/
def gFld (K : PySem.W.Frag) (ta : TE) (f : Str) : TG := fun v σ H Q => ta σ H fun x H1 => ∃ a C dx fs, x = .ref a ∧ H1 a = some (.ins C dx fs) ∧ Cls K C ∧ NoAttr K C f ∧ fs.length < 1000 ∧ Q σ (upd H1 a (.ins C dx (putF f v fs)))
theorem pg_fld {o : Expr} {ta : TE} {f : Str} (ho : PE X o ta) : PG X (.Attribute o f pos) (gFld X.K ta f) := by
  refine ⟨fun pins s σ H v u Q I r h => ?_⟩
  rw [assign_Attribute]
  refine wpAny_bind (wpAny_holding (thn (ho.run pins s σ H _ I h) fun ov s1 ⟨x, H1, I1, rx, a, C, dx, fs, e1, e2, c, n, hl, q⟩ => ?_))
  subst e1
  obtain rfl : ov = Value.ref a := rx
  exact wpAny_bind (wpAny_standAt (wpAny_bind (wpAny_holding (setattr_ok I1 e2 c n hl r fun s2 I2 => wpAny_release ⟨σ, _, I2, q⟩))))
theorem repF_put {T : TM} {f : Str} {v : V} {d : D} (r : Rep L T v d) : ∀ {vs : List (Str × V)} {ds : List (Str × D)}, RepF L T vs ds → RepF L T (putF f v vs) (F.putD f d ds)
  | _, _, .nil => .cons r .nil
  | _, _, @RepF.cons _ _ k w kvs e es q t => by
    show RepF L T (if k = f then (k, v) :: kvs else (k, w) :: putF f v kvs) (if k = f then (k, d) :: es else (k, e) :: F.putD f d es)
    split
    · exact .cons r t
    · exact .cons q (repF_put r t)
theorem repF_len {T : TM} : ∀ {vs : List (Str × V)} {ds : List (Str × D)}, RepF L T vs ds → vs.length = ds.length
  | _, _, .nil => rfl
  | _, _, .cons _ t => by simp [repF_len t]
theorem repF_get {T : TM} {f : Str} {d : D} : ∀ {vs : List (Str × V)} {ds : List (Str × D)}, RepF L T vs ds → ds.lookup f = some d → ∃ v, vs.lookup f = some v ∧ Rep L T v d
  | _, _, .nil, e => by cases e
  | _, _, @RepF.cons _ _ k w kvs x es q t, e => by
    simp only [List.lookup] at e ⊢
    split at e
    · cases e; exact ⟨_, rfl, q⟩
    · exact repF_get t e
theorem box_ins {W : Wd} {st : Store} {H : Hp} (k : Ok L W st H) {v : V} {n : Nat} {c : String} {fs : List (Str × D)} (r : Rep L W.T v (.ref n)) (e : st[n]? = some (.ins c fs)) :
    ∃ a dx vs, v = .ref a ∧ W.T a = some (.box n) ∧ H a = some (.ins (L.cl c) dx vs) ∧ W.T dx = some (.boxX a) ∧ vs.length ≤ 100 ∧ RepF L W.T vs fs := by
  cases r with
  | @ref a _ h =>
    obtain ⟨_, cc, hc, ok⟩ := k.tag _ _ h
    rw [e] at hc; cases hc
    obtain ⟨dx, vs, h1, h2, h3, h4⟩ := ok
    exact ⟨a, dx, vs, rfl, h, h1, h2, h3, h4⟩
theorem se_fld {e : Expr} {m : ME} {cs : List String} {f : Str} (FO : FldOk X.K L cs f) (he : PE X e (tE L m)) (hb : attributeBase e f X.env (eval e X.env) = eval e X.env := by rfl) : PE X (.Attribute e f pos) (tE L (E.op1 (F.fld cs f) m)) :=
  (pe_fld he hb).imp fun σ H Q => by
    rintro ⟨W, ρ, st, d, st', re, k, e, q⟩
    obtain ⟨⟨x, st1⟩, e1, e⟩ := bindP e
    cases e2 : F.fld cs f st1 x with
    | none => simp only [e2] at e; cases e
    | some z =>
      simp only [e2] at e; cases e
      refine ⟨W, ρ, st, x, _, re, k, e1, fun W1 v H1 l1 k1 r1 => ?_⟩
      unfold F.fld at e2
      split at e2
      · split at e2
        · rename_i n _ c fs hn
          split at e2
          · rename_i hc
            obtain ⟨a, dx, vs, rfl, h1, h2, h3, h4, h5⟩ := box_ins k1 r1 hn
            obtain ⟨w, q1, q2⟩ := repF_get h5 e2
            exact ⟨a, _, dx, _, w, rfl, h2, FO.cl c hc, FO.no c hc, q1, q W1 _ H1 l1 k1 q2⟩
          · cases e2
        · cases e2
      · cases e2
theorem gx_pure {tg : Expr} {vs : List Nat} {g : MG} (h : PG X tg (tG L vs g)) : PG X tg (tGx L (G.pure g)) := h.imp fun v σ H Q => by
  rintro ⟨W, ρ, st, d, ρ', st', re, k, r, e, q⟩
  unfold G.pure at e
  cases e1 : g d ρ with
  | none => rw [e1] at e; cases e
  | some z => rw [e1] at e; cases e; exact ⟨W, ρ, _, d, _, re, k, r, e1, fun σ' r' _ => q W σ' H TM.le.rfl k r'⟩
theorem gx_fld {o : Expr} {m : ME} {cs : List String} {f : Str} (FO : FldOk X.K L cs f) (ho : PE X o (tE L m)) : PG X (.Attribute o f pos) (tGx L (G.fld cs f m)) :=
  (pg_fld ho).imp fun v σ H Q => by
    rintro ⟨W, ρ, st, d, ρ', st', re, k, r, e, q⟩
    obtain ⟨⟨x, st1⟩, e1, e⟩ := bindP e
    cases e2 : F.setF cs f st1 x d with
    | none => simp only [e2] at e; cases e
    | some z =>
      simp only [e2] at e; cases e
      refine ⟨W, _, st, x, _, re, k, e1, fun W1 v1 H1 l1 k1 r1 => ?_⟩
      unfold F.setF at e2
      split at e2
      · split at e2
        · rename_i n _ c fs hn
          split at e2
          · rename_i hc
            cases e2
            obtain ⟨a, dx, vs, rfl, h1, h2, h3, h4, h5⟩ := box_ins k1 r1 hn
            have hl : vs.length < 90 := by rw [repF_len h5]; exact hc.2
            refine ⟨a, _, dx, vs, rfl, h2, FO.cl c hc.1, FO.no c hc.1, by omega, q W1 _ _ l1 (k1.set h1 ⟨dx, _, upd_same, h3, ?_, repF_put (r.mono l1.leR) h5⟩) (re.mono l1.leR)⟩
            have := length_putF f v vs
            omega
          · cases e2
        · cases e2
      · cases e2
theorem gx_sub {o i : Expr} {mo mi : ME} (hu : X.A.units + 1 < cLine) (ho : PE X o (tE L mo)) (hi : PE X i (tE L mi))
    (ha : ∀ v, assign (.Subscript o i pos) X.env v = (do
      let ov ← holding [v] (eval o X.env)
      let iv ← holding [v, ov] (eval i X.env)
      standAt pos
      holding [v, ov, iv] (setItem ov iv v)
      release [v, ov, iv] []) := by intro _; rfl) : PG X (.Subscript o i pos) (tGx L (G.sub mo mi)) :=
  (pg_sub ho hi (p_store (L := L) hu) ha).imp fun v σ H Q => by
    rintro ⟨W, ρ, st, y, ρ', st', re, k, r, e, q⟩
    obtain ⟨⟨d, st2⟩, e2, e⟩ := bindP e
    obtain ⟨⟨x, st3⟩, e3, e⟩ := bindP e
    simp only at e e2 e3
    cases e4 : F.store st3 d x y with
    | none => rw [e4] at e; cases e
    | some st4 =>
      rw [e4] at e; cases e
      exact ⟨W, _, st, d, st2, re, k, e2, fun W2 o H2 l2 k2 r2 => ⟨W2, _, st2, x, st3, re.mono l2.leR, k2, e3, fun W3 i H3 l3 k3 r3 =>
        ⟨W3, st3, d, x, y, st', k3, r2.mono l3.leR, r3, r.mono (l2.trans l3).leR, e4, fun W' H' l' k' => q W' σ H' ((l2.trans l3).trans l') k' (re.mono ((l2.trans l3).trans l').leR)⟩⟩⟩
theorem gsx_nil : PGs X [] (tGsx L G.nilX) := pgs_nil.imp fun v σ H Q => by
  rintro ⟨W, ρ, st, d, ρ', st', re, k, r, e, q⟩
  cases r with
  | nil => cases e; exact ⟨rfl, q W σ H TM.le.rfl k re⟩
  | cons a b => cases e
theorem gsx_cons {e : Expr} {es : List Expr} {g : MGx} {r : List D → Ev → Store → Option (Ev × Store)} (h1 : PG X e (tGx L g)) (h2 : PGs X es (tGsx L r))
    (hs : (assignEach (e :: es) X.env).map (·.2) = assign e X.env :: (assignEach es X.env).map (·.2) := by rfl) : PGs X (e :: es) (tGsx L (G.consX g r)) :=
  (pgs_cons h1 h2 hs).imp fun v σ H Q => by
    rintro ⟨W, ρ, st, d, ρ', st', re, k, rr, e, q⟩
    cases rr with
    | nil => cases e
    | @cons v vr d dr r1 r2 =>
      unfold G.consX at e
      obtain ⟨⟨ρ1, st1⟩, e1, e⟩ := bindP e
      exact ⟨v, vr, rfl, W, ρ, st, d, ρ1, st1, re, k, r1, e1, fun W1 σ1 H1 l1 k1 re1 => ⟨W1, ρ1, st1, dr, ρ', st', re1, k1, r2.mono l1.leR, e, fun W2 σ2 H2 l2 k2 re2 => q W2 σ2 H2 (l1.trans l2) k2 re2⟩⟩
theorem gx_tup {es : List Expr} {kk : Nat} {r : List D → Ev → Store → Option (Ev × Store)} {n : Nat} (hc : X.calm = true) (h : PGs X es (tGsx L r)) (hr : ∀ ds ρ st z, r ds ρ st = some z → ds.length = n)
    (hn : (assignEach es X.env).length = n := by rfl) (hst : (assignEach es X.env).findIdx? (·.1) = none := by rfl) : PG X (.Tuple es kk pos) (tGx L (G.tupX r)) :=
  (pg_tup hc h hn hst).imp fun v σ H Q => by
    rintro ⟨W, ρ, st, d, ρ', st', re, k, rr, e, q⟩
    cases rr with
    | @tup a xs ds ha hz rs =>
      exact ⟨a, xs, rfl, SqT.of (k.tag a _ ha), by rw [rs.length]; exact hr _ _ _ _ e, W, ρ, st, ds, ρ', st', re, k, rs, e, q⟩
    | _ => cases e
theorem len_nilX {ds : List D} {ρ : Ev} {st : Store} {z : Ev × Store} (h : G.nilX ds ρ st = some z) : ds.length = 0 := by
  cases ds with
  | nil => rfl
  | cons a b => cases h
theorem len_consX {g : MGx} {r : List D → Ev → Store → Option (Ev × Store)} {n : Nat} (h : ∀ ds ρ st z, r ds ρ st = some z → ds.length = n) : ∀ ds ρ st z, G.consX g r ds ρ st = some z → ds.length = n + 1 := by
  intro ds ρ st z e
  cases ds with
  | nil => cases e
  | cons d t =>
    unfold G.consX at e
    obtain ⟨⟨ρ1, st1⟩, e1, e⟩ := bindP e
    rw [List.length_cons, h _ _ _ _ e]
theorem s_asgX {tg e : Expr} {m : ME} {g : MGx} (he : PE X e (tE L m)) (hg : PG X tg (tGx L g)) (hs : swapsWithSole [tg] e pos.line X.env = pure false := by rfl) (hw : swappedStores [tg] e X.env = pure none := by rfl)
    (h1 : (assignEach [tg] X.env).map (·.2) = [assign tg X.env] := by rfl) : PS X (.Assign [tg] e pos) (tS L (S.asgX g m)) :=
  (ps_asg he hg hs hw h1).imp fun D σ H => by
    rintro ⟨W, ρ, st, f, ρ', st', re, k, e, q⟩
    unfold S.asgX at e
    obtain ⟨⟨d, st1⟩, e1, e⟩ := bindP e
    cases e2 : g d ρ st1 with
    | none => simp only [e2] at e; cases e
    | some z =>
      simp only [e2] at e; cases e
      exact ⟨W, ρ, st, d, st1, re, k, e1, fun W1 v H1 l1 k1 r1 => ⟨W1, ρ, st1, d, _, _, re.mono l1.leR, k1, r1, e2, fun W2 σ2 H2 l2 k2 re2 => q W2 σ2 H2 (l1.trans l2) k2 re2⟩⟩

/-! ### made -/
/-- tags are put on what stands there -/
theorem Ok.marks {W : Wd} {st : Store} {H : Hp} {T' : TM} (x : Ok L W st H) (l : W.T.le T') (h : ∀ a t, T' a = some t → W.T a = some t ∨ ((∀ n, t ≠ .box n) ∧ TagOk L ⟨T', W.loc⟩ st H a t)) : Ok L ⟨T', W.loc⟩ st H := by
  refine ⟨fun a t e => ?_, fun n hn => l _ _ (x.box n hn)⟩
  rcases h a t e with z | ⟨_, z⟩
  · exact (x.tag a t z).keep (W' := ⟨T', W.loc⟩) l.leR (fun n c _ hc => ⟨rfl, hc⟩) rfl
  · exact z
/-- a new instance at a new place of the store -/
theorem Ok.made {W : Wd} {st : Store} {H : Hp} {x dx : Addr} {c : String} (k : Ok L W st H) (hx : H x = none) (hd : H dx = none) (ne : dx ≠ x) :
    ∃ W', W.T.le W'.T ∧ Ok L W' (st ++ [.ins c []]) (upd (upd H dx (.own x)) x (.ins (L.cl c) dx [])) ∧ W'.T x = some (.box st.length) := by
  have k1 : Ok L ⟨W.T.put dx (.boxX x), W.loc⟩ st (upd H dx (.own x)) := by
    have hn := k.noT hd
    refine ⟨fun a t e => ?_, fun n hn' => TM.le_put hn _ _ (k.box n hn')⟩
    by_cases ha : a = dx
    · subst ha
      rw [show (⟨W.T.put a (.boxX x), W.loc⟩ : Wd).T a = some (.boxX x) from TM.put_same] at e
      cases e
      exact upd_same
    · have e : W.T a = some t := by rw [← TM.put_ne (T := W.T) (t := .boxX x) ha]; exact e
      exact (k.tag a t e).keep (W' := ⟨W.T.put dx (.boxX x), W.loc⟩) (TM.le_put hn).leR (fun n c _ hc => ⟨rfl, hc⟩) (upd_ne ha)
  have hx1 : upd H dx (.own x) x = none := by rw [upd_ne (Ne.symm ne)]; exact hx
  have l2 := TM.le_put (t := .box st.length) (k1.noT hx1)
  have k2 := k1.push (o := .ins (L.cl c) dx []) (c := .ins c []) hx1 ⟨dx, [], upd_same, l2 _ _ TM.put_same, Nat.zero_le _, .nil⟩
  exact ⟨_, (TM.le_put (k.noT hd)).trans l2, k2, TM.put_same⟩
/-- a class of the text, and what its __init__ does -/
structure CalC (P : Program) (w : World) (K : PySem.W.Frag) (mg : Str → Option Value) (base : Heap) (L : Lb) (x : Str) (c : String) (n : Nat) (k : Nat) (Fi : Fn) : Prop where
  ex : ∃ f fd ps, FnOk P w K mg base CX0 k f fd ps (spF L (n + 1) Fi) ∧ mg x = some (.ref (L.cl c)) ∧ Mk K (L.cl c) f ∧ Binds K fd ps []
theorem make_imp {Fi : Fn} {c : String} {n : Nat} {ma : MA} {σ : L2.St} {H : Hp} {Q : VK} (hl : ∀ ρ st ds st', ma ρ st = some (ds, st') → ds.length = n) (h : tE L (E.call (F.newI c Fi) ma) σ H Q) : tMake (L.cl c) (spF L (n + 1) Fi) [] E0 (tA L ma) σ H Q := by
  obtain ⟨W, ρ, st, d, st', re, k, e, q⟩ := h
  obtain ⟨ds, st1, e1, e⟩ := bind2 (γ := Unit) (f := fun x st1 => F.newI c Fi x st1) e
  unfold F.newI at e
  obtain ⟨⟨z, st2⟩, e2, e⟩ := bindP e
  simp only at e
  split at e
  · cases e
    refine ⟨W, ρ, st, ds, st1, re, k, e1, fun W1 vs H1 l1 k1 r1 x dx hx hd ne => ?_⟩
    obtain ⟨W2, l2, k2, h2⟩ := k1.made (c := c) hx hd ne
    refine ⟨by simp [r1.length, hl _ _ _ _ e1], W2, _, _, _, _, k2, .cons (.ref h2) ?_, e2, fun W' v H' l' k' r' => ⟨?_, q W' _ H' ((l1.trans l2).trans l') k' (.ref (l' _ _ h2))⟩⟩
    · rw [List.append_nil]; exact r1.mono l2.leR
    · cases r'; rfl
  · cases e
theorem se_make {x : Str} {c : String} {p : Pos} {e : Expr} {es : List Expr} {n k j : Nat} {Fi : Fn} {ma : MA} (C : CalC X.prog X.w X.K X.mg X.base L x c n k Fi) (hr : Room j X.A) (hk : k + 1 ≤ j) (hg : Gl X x) (ha : PA X (e :: es) (tA L ma))
    (hl : ∀ ρ st ds st', ma ρ st = some (ds, st') → ds.length = n) (hd : (x == ("__debug__" : Str)) = false := by decide)
    (he : starEach (e :: es) X.env = (false, eval e X.env) :: starEach es X.env := by rfl) (hpl : (backTo pos (starEach es X.env)).any (·.1) = false := by rfl) : PE X (.Call (.Name x p) (e :: es) [] pos) (tE L (E.call (F.newI c Fi) ma)) := by
  obtain ⟨f, fd, ps, G, hm, M, b⟩ := C.ex
  exact (pe_make (dvs := []) M G (hr.mono hk) hg hm b .nil pass0 ha (hdb := hd) (he := he) (hpl := hpl)).imp fun _ _ _ h => make_imp hl h

theorem repF_fam {T : TM} {vs : List (Str × V)} {m : Int} {l : D} {n : Nat} (r : RepF L T vs [("points", .int m), ("lots", l), ("looked", .ref n)]) : ∃ lv a, vs = ([("points", .int m), ("lots", lv), ("looked", .ref a)] : List (Str × V)) ∧ Rep L T lv l ∧ T a = some (.box n) := by
  cases r with
  | cons r1 r =>
    cases r with
    | cons r2 r =>
      cases r with
      | cons r3 r =>
        cases r
        cases r1
        cases r3 with
        | ref h => exact ⟨_, _, rfl, r2, h⟩
theorem fam_imp {Fi : Fn} {ma : MA} {σ : L2.St} {H : Hp} {Q : VK} (hl : ∀ ρ st ds st', ma ρ st = some (ds, st') → ds.length = 2) (h : tE L (E.call (F.newFam Fi) ma) σ H Q) : tMake (L.cl "Family") (spF L (2 + 1) Fi) [] E0 (tA L ma) σ H Q := by
  obtain ⟨W, ρ, st, d, st', re, k, e, q⟩ := h
  obtain ⟨ds, st1, e1, e⟩ := bind2 (γ := Unit) (f := fun x st1 => F.newFam Fi x st1) e
  unfold F.newFam at e
  split at e
  · rename_i m l
    split at e
    · rename_i hc
      obtain ⟨hb, hi⟩ := hc
      cases e
      refine ⟨W, ρ, st, _, _, re, k, e1, fun W1 vs H1 l1 k1 r1 x dx hx hd ne => ?_⟩
      obtain ⟨W2, l2, k2, h2⟩ := k1.made (c := "Family") hx hd ne
      refine ⟨by simp [r1.length], W2, _, _, _, _, k2, .cons (.ref h2) (by rw [List.append_nil]; exact r1.mono l2.leR), hi, fun W' v H' l' k' r' => ⟨by cases r'; rfl, ?_⟩⟩
      have hxb := l' _ _ h2
      obtain ⟨a, dx', fs, ea, t1, t2, t3, _, t5⟩ := box_ins k' (.ref hxb) (c := "Family") (fs := [("points", .int m), ("lots", l), ("looked", .ref (st'.length + 1))]) (by simp [F.famCell])
      cases ea
      obtain ⟨lv, lk, rfl, rl, tl⟩ := repF_fam t5
      have hlk : H' lk = some (.dK []) := by
        obtain ⟨_, c, hc, ok⟩ := k'.tag _ _ tl
        have : (st' ++ [F.famCell m l (st'.length + 1), .dct false []])[st'.length + 1]? = some (.dct false []) := by
          rw [List.getElem?_append_right (by omega)]
          simp
        rw [this] at hc; cases hc
        obtain ⟨vs, h3, _, h4, _⟩ := ok
        cases h4
        exact h3
      have hne : lk ≠ x := by
        rintro rfl
        rw [hxb] at tl
        simp at tl
      obtain ⟨oc, lc⟩ := k1.cut k' (l2.trans l') ⟨by simp, fun i c hi hc => .inl (by rw [List.getElem?_append_left hi] at hc; exact hc)⟩
      rw [List.take_left] at oc
      have n1 : (W'.T.cut st'.length) x = none := cut_other hxb (by omega)
      have n2 : (W'.T.cut st'.length) lk = none := cut_other tl (by omega)
      let i : FamI := ⟨dx', lk, m, l, lv⟩
      let T' : TM := ((W'.T.cut st'.length).put lk (.famD x)).put x (.fam i)
      have n3 : ((W'.T.cut st'.length).put lk (.famD x)) x = none := by rw [TM.put_ne (Ne.symm hne)]; exact n1
      have le' : (W'.T.cut st'.length).le T' := (TM.le_put n2).trans (TM.le_put n3)
      have hT1 : T' x = some (.fam i) := TM.put_same
      have hT2 : T' lk = some (.famD x) := TM.le_put n3 _ _ TM.put_same
      have ok3 : Ok L ⟨T', W'.loc⟩ st' H' := oc.marks le' fun b t e => by
        by_cases hb1 : b = x
        · rw [hb1] at e ⊢
          rw [hT1] at e; cases e
          exact .inr ⟨(by intro n z; cases z), by
            show H' x = some (.ins (L.cl "Family") dx' (famFlds i)) ∧ _ ∧ _ ∧ _ ∧ _
            exact ⟨t2, le' _ _ (leC_cut _ _ _ _ t3 (by intro n z; cases z)), hT2, (rl.cut (leC_cut _ _) (below_mono (Nat.zero_le _) _ hb)).mono le'.leR, hb⟩⟩
        · by_cases hb2 : b = lk
          · rw [hb2] at e ⊢
            rw [hT2] at e; cases e
            exact .inr ⟨(by intro n z; cases z), i, hT1, rfl, [], hlk, Nat.le_refl _, fun k v z => by cases z⟩
          · refine .inl ?_
            have e : ((W'.T.cut st'.length).put lk (.famD x)) b = some t := by rw [← TM.put_ne (T := (W'.T.cut st'.length).put lk (.famD x)) (t := .fam i) hb1]; exact e
            rwa [TM.put_ne hb2] at e
      exact q ⟨T', W'.loc⟩ _ H' ((l1.trans lc).trans le') ok3 (.fam (i := i) hT1)
    · cases e
  · cases e
theorem se_makeFam {x : Str} {p : Pos} {e : Expr} {es : List Expr} {k j : Nat} {Fi : Fn} {ma : MA} (C : CalC X.prog X.w X.K X.mg X.base L x "Family" 2 k Fi) (hr : Room j X.A) (hk : k + 1 ≤ j) (hg : Gl X x) (ha : PA X (e :: es) (tA L ma))
    (hl : ∀ ρ st ds st', ma ρ st = some (ds, st') → ds.length = 2) (hd : (x == ("__debug__" : Str)) = false := by decide)
    (he : starEach (e :: es) X.env = (false, eval e X.env) :: starEach es X.env := by rfl) (hpl : (backTo pos (starEach es X.env)).any (·.1) = false := by rfl) : PE X (.Call (.Name x p) (e :: es) [] pos) (tE L (E.call (F.newFam Fi) ma)) := by
  obtain ⟨f, fd, ps, G, hm, M, b⟩ := C.ex
  exact (pe_make (dvs := []) M G (hr.mono hk) hg hm b .nil pass0 ha (hdb := hd) (he := he) (hpl := hpl)).imp fun _ _ _ h => fam_imp hl h
end
end Sm
/-! ## SimK -/
/-! Sm, part K: what a family keeps of itself. -/
namespace Sm
open PySem PySem.Spec PyProof.Rows L2

/-- the steps ahead of members.looked[key] = e: what is kept -/
abbrev MK := Ev → Store → Option (Ev × D × Store)
namespace K
def last (m : ME) : MK := fun ρ st => (m ρ st).map fun p => (ρ, p.1, p.2)
def cons (a : MS) (r : MK) : MK := fun ρ st => (a ρ st).bind fun p => match p.1 with | .nx => r p.2.1 p.2.2 | _ => none
end K
def famEv (j : Nat) (n : Int) (l : D) : Ev := some (.fam n l) :: List.replicate j none
def caFact (m : MK) (j : Nat) (n : Int) (l : D) (d : D) : Prop := d.bel 0 = true ∧ ∀ st, ∃ ρ' st', m (famEv j n l) st = some (ρ', d, st') ∧ gt ρ' 0 = some (.fam n l) ∧ Kept st st' ∧ st'.take st.length = st
open Classical in
/-- what is kept, if that is told by the family alone -/
noncomputable def caOf (m : MK) (j : Nat) (n : Int) (l : D) : Option D := if h : ∃ d, caFact m j n l d then some h.choose else none
theorem caOf_some {m : MK} {j : Nat} {n : Int} {l d : D} (h : caOf m j n l = some d) : caFact m j n l d := by
  unfold caOf at h
  split at h
  · rename_i z
    cases h
    exact z.choose_spec
  · cases h
theorem caOf_of {m : MK} {j : Nat} {n : Int} {l d : D} (h : caFact m j n l d) : caOf m j n l = some d := by
  unfold caOf
  have z : ∃ d, caFact m j n l d := ⟨d, h⟩
  rw [dif_pos z]
  obtain ⟨_, q⟩ := z.choose_spec
  obtain ⟨_, _, e1, _⟩ := q []
  obtain ⟨_, _, e2, _⟩ := h.2 []
  rw [e1] at e2
  cases e2
  rfl
namespace F
open Classical in
noncomputable def cached (ca : Int → D → Option D) : Fn := fun ds st => match ds with | [.fam n l] => (ca n l).map fun d => (d, st) | _ => none
end F
namespace S
open Classical in
noncomputable def cached (ca : Int → D → Option D) (j : Nat) : MS := fun ρ st => match gt ρ 0 with | some (.fam n l) => if ρ = famEv j n l then (ca n l).map fun d => (.ret d, ρ, st) else none | _ => none
end S
section
variable {L : Lb} {X : Cx} {pos : Pos}
/-- the key stands in what the family at slot 0 keeps -/
def Has (W : Wd) (σ : L2.St) (H : Hp) (key : Str) (n : Int) (l : D) : Prop := ∃ a i, σ[0]? = some (some (.ref a)) ∧ W.T a = some (.fam i) ∧ i.n = n ∧ i.lots = l ∧ ∃ kvs v, H i.lk = some (.dK kvs) ∧ valV kvs (Sum.inr key) = some v
def tK (L : Lb) (key : Str) (m : MK) : TS := fun D σ H => ∃ W ρ st ρ' d st' n l, RepE L W.T σ ρ ∧ Ok L W st H ∧ m ρ st = some (ρ', d, st') ∧ gt ρ' 0 = some (.fam n l) ∧ L.ca key n l = some d ∧ d.bel 0 = true ∧
  ∀ W' σ' H', W.T.le W'.T → Ok L W' st' H' → RepE L W'.T σ' ρ' → Has W' σ' H' key n l → D.nx σ' H'
theorem sk_cons {key : Str} {s : Stmt} {rest : List Stmt} {a : MS} {r : MK} (h1 : PS X s (tS L a)) (h2 : PSs X rest (tK L key r)) : PSs X (s :: rest) (tK L key (K.cons a r)) :=
  (pss_cons h1 h2).imp fun D σ H => by
    rintro ⟨W, ρ, st, ρ', d, st', n, l, re, k, e, g, ca, hb, q⟩
    unfold K.cons at e
    obtain ⟨⟨f, ρ1, st1⟩, e1, e⟩ := bindP e
    refine ⟨W, ρ, st, f, ρ1, st1, re, k, e1, ?_⟩
    cases f with
    | nx => exact fun W1 σ1 H1 l1 k1 r1 => ⟨W1, ρ1, st1, ρ', d, st', n, l, r1, k1, e, g, ca, hb, fun W' σ' H' l' => q W' σ' H' (l1.trans l')⟩
    | _ => cases e
theorem fam_slot {W : Wd} {σ : L2.St} {ρ : Ev} {n : Int} {l : D} (re : RepE L W.T σ ρ) (g : gt ρ 0 = some (.fam n l)) : ∃ a i, σ[0]? = some (some (.ref a)) ∧ W.T a = some (.fam i) ∧ i.n = n ∧ i.lots = l := by
  obtain ⟨v, h1, h2⟩ := re.get (gt_some g)
  cases h2 with
  | @fam a i h => exact ⟨a, i, h1, h, rfl, rfl⟩
/-- the dict of what is kept changes -/
theorem Ok.look {W : Wd} {st : Store} {H : Hp} {a lk : Addr} {i : FamI} {kvs : List (Key × V)} (k : Ok L W st H) (h1 : W.T a = some (.fam i)) (h2 : i.lk = lk) (hl : CacheLen kvs) (hc : CacheOk L W.T i kvs) : Ok L W st (upd H lk (.dK kvs)) := by
  subst h2
  have t := (k.tag _ _ h1).2.2.1
  refine ⟨fun b u e => ?_, k.box⟩
  by_cases hb : b = i.lk
  · rw [hb] at e ⊢
    rw [t] at e; cases e
    exact ⟨i, h1, rfl, kvs, upd_same, hl, hc⟩
  · exact (k.tag b u e).keep TM.le.rfl.leR (fun n c _ hc => ⟨rfl, hc⟩) (upd_ne hb)
theorem fam_dict {W : Wd} {st : Store} {H : Hp} {a : Addr} {i : FamI} (k : Ok L W st H) (h1 : W.T a = some (.fam i)) : H a = some (.ins (L.cl "Family") i.dx (famFlds i)) ∧ ∃ kvs, H i.lk = some (.dK kvs) ∧ CacheLen kvs ∧ CacheOk L W.T i kvs := by
  obtain ⟨e, _, t, _⟩ := k.tag _ _ h1
  obtain ⟨i', h2, h3, kvs, q⟩ := k.tag _ _ t
  rw [h1] at h2; cases h2
  exact ⟨e, kvs, q⟩
theorem cache_le {kvs : List (Key × V)} (h : CacheLen kvs) : kvs.length ≤ 4 := by unfold CacheLen at h; omega
theorem cache_put {kvs : List (Key × V)} {k : Key} {v : V} (h : CacheLen kvs) (hk : k ∈ cacheKeys) : CacheLen (putK kvs k v) := by
  unfold CacheLen at h ⊢
  cases e : valV kvs k with
  | none =>
    have := missK_lt (v := v) e cacheKeys hk
    have := putK_len kvs k v
    omega
  | some w =>
    have := missK_le (kvs := kvs) (k := k) (v := v) cacheKeys
    have : (putK kvs k v).length = kvs.length := by
      unfold putK
      rw [if_pos, List.length_map]
      unfold valV at e
      cases e2 : kvs.find? fun kv => decide (kv.1 = k) with
      | none => rw [e2] at e; cases e
      | some p => exact List.any_eq_true.mpr ⟨p, List.mem_of_find?_eq_some e2, by simpa using List.find?_some e2⟩
    omega
section
variable {key x : Str} {e : Expr} {m : ME} {p1 p2 p3 p4 p5 p6 p7 p8 p9 p10 p11 p12 : Pos} {c1 c2 c3 : Nat}
theorem sk_last (FO : FamOk X.K L) (hu : X.A.units + 1 < cLine) (hk : Sum.inr key ∈ cacheKeys) (he : PE X e (tE L m)) (hN : X.N[0]? = some x) (hv : Vis X.env.scope x)
    (hd : (x == ("__debug__" : Str)) = false := by decide) (hcd : (x == ("__classdict__" : Str)) = false := by decide) (hb : attributeBase (.Name x p1) "looked" X.env (eval (.Name x p1) X.env) = eval (.Name x p1) X.env := by rfl)
    (hs : swapsWithSole [.Subscript (.Attribute (.Name x p1) "looked" p2) (.Constant (.str key) c1 p3) p4] e pos.line X.env = pure false := by rfl)
    (hw : swappedStores [.Subscript (.Attribute (.Name x p1) "looked" p2) (.Constant (.str key) c1 p3) p4] e X.env = pure none := by rfl)
    (h1 : (assignEach [.Subscript (.Attribute (.Name x p1) "looked" p2) (.Constant (.str key) c1 p3) p4] X.env).map (·.2) = [assign (.Subscript (.Attribute (.Name x p1) "looked" p2) (.Constant (.str key) c1 p3) p4) X.env] := by rfl)
    (ha : ∀ v, assign (.Subscript (.Attribute (.Name x p1) "looked" p2) (.Constant (.str key) c1 p3) p4) X.env v = (do
      let ov ← holding [v] (eval (.Attribute (.Name x p1) "looked" p2) X.env)
      let iv ← holding [v, ov] (eval (.Constant (.str key) c1 p3) X.env)
      standAt p4
      holding [v, ov, iv] (setItem ov iv v)
      release [v, ov, iv] []) := by intro _; rfl) :
    PSs X [.Assign [.Subscript (.Attribute (.Name x p1) "looked" p2) (.Constant (.str key) c1 p3) p4] e pos] (tK L key (K.last m)) :=
  (pss_one (ps_asg he (pg_sub (pe_fld (pe_var hN hv hd hcd) hb) pe_str (set_dictP hu) ha) hs hw h1)).imp fun D σ H => by
    rintro ⟨W, ρ, st, ρ', d, st', n, l, re, k, e, g, ca, bl, q⟩
    unfold K.last at e
    cases e1 : m ρ st with
    | none => rw [e1] at e; cases e
    | some z =>
      rw [e1] at e; cases e
      refine ⟨W, _, st, _, _, re, k, e1, fun W1 v H1 l1 k1 r1 => ?_⟩
      obtain ⟨a, i, g1, g2, g3, g4⟩ := fam_slot (re.mono l1.leR) g
      obtain ⟨f1, kvs, f2, f3, f4⟩ := fam_dict k1 g2
      have hz : kvs.length < sizeLine := by have := cache_le f3; rw [sizeLine_eq]; omega
      refine ⟨_, g1, a, _, i.dx, _, _, rfl, f1, FO.cl, FO.nK, famF_looked i, i.lk, _, rfl, .k (k := Sum.inr key) f2 hz, ?_⟩
      refine q W1 σ _ l1 (k1.look g2 rfl (cache_put f3 hk) ?_) (re.mono l1.leR) ⟨a, i, g1, g2, g3, g4, _, v, upd_same, by rw [valV_put, if_pos rfl]⟩
      intro k' v' q'
      rw [valV_put] at q'
      split at q'
      · rename_i hkk
        cases q'
        exact ⟨key, _, hkk, by rw [g3, g4]; exact ca, r1, bl⟩
      · exact f4 k' v' q'
theorem ss_cached (FO : FamOk X.K L) (hu : X.A.units + 1 < cLine) {bs : List Stmt} {mk : MK} {j : Nat} {ca : Int → D → Option D} (hca : L.ca key = ca) (hof : ca = caOf mk j) (hb : PSs X bs (tK L key mk)) (hN : X.N[0]? = some x) (hv : Vis X.env.scope x)
    (hm : behindInMarks .NotIn (.Attribute (.Name x p1) "looked" p2) = false := by rfl) (hs : NoSl (.Constant (.str key) c2 p8) := by intro _ _; rfl)
    (hd : (x == ("__debug__" : Str)) = false := by decide) (hcd : (x == ("__classdict__" : Str)) = false := by decide) (hb1 : attributeBase (.Name x p1) "looked" X.env (eval (.Name x p1) X.env) = eval (.Name x p1) X.env := by rfl)
    (hb2 : attributeBase (.Name x p6) "looked" X.env (eval (.Name x p6) X.env) = eval (.Name x p6) X.env := by rfl) :
    PSs X [.If (.Compare (.Constant (.str key) c1 p3) [.NotIn] [.Attribute (.Name x p1) "looked" p2] p4) bs [] p5, .Return (some (.Subscript (.Attribute (.Name x p6) "looked" p7) (.Constant (.str key) c2 p8) p9)) p10] (tS L (S.cached ca j)) :=
  (pss_cons (ps_if (pt_cmpR (op_dNotIn hu) pe_str (pe_fld (pe_var hN hv hd hcd) hb1) hm) hb pss_nil) (pss_one (ps_ret (pe_dget hu (pe_fld (pe_var hN hv hd hcd) hb2) pe_str hs)))).imp fun D σ H => by
    rintro ⟨W, ρ, st, f, ρ', st', re, k, e, q⟩
    unfold S.cached at e
    split at e
    · rename_i n l g
      split at e
      · rename_i hρ
        cases e1 : ca n l with
        | none => rw [e1] at e; cases e
        | some d =>
          rw [e1] at e; cases e
          rw [hof] at e1
          obtain ⟨bl, fact⟩ := caOf_some e1
          obtain ⟨a, i, g1, g2, g3, g4⟩ := fam_slot re g
          obtain ⟨f1, kvs, f2, f3, f4⟩ := fam_dict k g2
          refine ⟨_, g1, a, _, i.dx, _, _, rfl, f1, FO.cl, FO.nK, famF_looked i, i.lk, _, rfl, .k (k := Sum.inr key) f2, _, rfl, ?_⟩
          cases e2 : valV kvs (Sum.inr key) with
          | some v =>
            rw [if_neg (by simp)]
            obtain ⟨x', d', h1, h2, h3, h4⟩ := f4 _ _ e2
            cases h1
            rw [g3, g4, hca, hof, e1] at h2
            cases h2
            refine ⟨_, g1, a, _, i.dx, _, _, rfl, f1, FO.cl, FO.nK, famF_looked i, i.lk, v, rfl, ?_, q W v H TM.le.rfl k h3⟩
            rw [← e2]
            exact .k (k := Sum.inr key) f2
          | none =>
            rw [if_pos (by simp)]
            obtain ⟨ρ2, st2, e3, g5, kp, tk⟩ := fact st
            rw [← hρ] at e3
            refine ⟨W, ρ, st, ρ2, d, st2, n, l, re, k, e3, g5, by rw [hca, hof]; exact e1, bl, fun W1 σ1 H1 l1 k1 r1 hs => ?_⟩
            obtain ⟨a1, i1, s1, s2, s3, s4, kvs1, v, s5, s6⟩ := hs
            obtain ⟨oc, lc⟩ := k.cut k1 l1 kp
            rw [tk] at oc
            obtain ⟨f1, kvs2, f2, f3, f4⟩ := fam_dict k1 s2
            rw [s5] at f2; cases f2
            obtain ⟨x', d', h1, h2, h3, h4⟩ := f4 _ _ s6
            cases h1
            rw [s3, s4, hca, hof, e1] at h2
            cases h2
            refine ⟨_, s1, a1, _, i1.dx, _, _, rfl, f1, FO.cl, FO.nK, famF_looked i1, i1.lk, v, rfl, ?_, q ⟨W1.T.cut st.length, W1.loc⟩ v H1 lc oc (h3.cut (leC_cut _ _) (below_mono (Nat.zero_le _) _ bl))⟩
            rw [← s6]
            exact .k (k := Sum.inr key) s5
      · cases e
    · cases e
end
end
end Sm
/-! ## SimL -/
/-! Sm, part L: sorted of lists and tuples of data that can be compared, the empty tuple among them. -/
namespace Sm
section sorts
open PySem PySem.W PySem.Calls PySem.SeqAt PyProof.Rows Srt
variable {prog : Program} {w : World} {A : Around} {E : Value → Shared → Prop} {s : Shared}

/-- a list's or tuple's items, collected -/
theorem coll_sq {a : Addr} {vs : List Value} {Q : List Value → Shared → Prop} (hl : s.heap.IsList a vs.toArray ∨ s.heap.IsTuple a vs.toArray) (hsz : vs.length ≤ sizeLine)
    (h : Q vs { s with heap := (s.heap.push (seqObj "list" #[] 0)).update s.heap.objs.size (Obj.mapSeq (· ++ vs.toArray)) }) : wpAny (model prog w) A (collect (.ref a)) Q E s := by
  rcases hl with hl | hl
  · exact collect_list hl h hsz
  · obtain ⟨ob, e0, ec, k, ed⟩ := id hl
    have e1 : (s.heap.push (seqObj "list" #[] 0)).get? a = some ob := Heap.get?_push_of_some _ e0
    have e2 : (s.heap.push (seqObj "list" #[] 0)).get? s.heap.objs.size = some (seqObj "list" #[] 0) := Heap.get?_push_size _ rfl
    unfold collect
    refine wpAny_bind (wpAny_runValue (codeAny_builtin (by first | exact entry_proto_collect | exact entry_proto_collect') ?_))
    show wpAny _ _ (do again (.builtin "list.__iadd__" ⟨[← newList [], .ref a], []⟩)) _ _ s
    refine wpAny_bind (wpAny_newList (wpAny_pure ⟨Code.quiet_builtin _ (by decide +kernel), codeAny_builtin (by first | exact entry_list_iadd | exact entry_list_iadd') ?_⟩))
    show wpAny _ _ (Builtin.List.listExtendWith (.ref s.heap.objs.size) (.ref a) (.ref s.heap.objs.size)) _ _ { s with heap := s.heap.push (seqObj "list" #[] 0) }
    unfold Builtin.List.listExtendWith
    refine wpAny_bind (wpAny_typeOf (T := "tuple") ⟨ob, e1, ec⟩ ?_)
    have ht : (Value.type "tuple" == Value.type "tuple") = true := by rfl
    rw [if_pos (by rw [ht]; simp)]
    refine wpAny_bind (listItems_at e1 ed (wpAny_bind (listItems_at (xs := #[]) (n := 0) e2 rfl ?_)))
    rw [if_neg (by simp)]
    refine wpAny_bind (listUpdate_at (xs := #[]) (n := 0) e2 rfl (wpAny_pure ?_) (Nat.zero_le _) (by show (#[] ++ vs.toArray).size ≤ sizeLine + 1; simp only [Array.size_append, List.size_toArray, List.length_nil]; omega))
    show wpAny (model prog w) A (do
      let o ← load s.heap.objs.size
      match o.data with
        | .seq xs _ => pure xs.toList
        | _ => unsupported "internal:collect") Q E { s with heap := (s.heap.push (seqObj "list" #[] 0)).update s.heap.objs.size (Obj.mapSeq (· ++ vs.toArray)) }
    refine wpAny_bind (wpAny_load (get?_update_seq e2 _) ?_)
    show wpAny _ _ (pure ((#[] : Array Value) ++ vs.toArray).toList) Q E _
    rw [show ((#[] : Array Value) ++ vs.toArray).toList = vs by simp]
    exact wpAny_pure h

/-! ### tuples, some of them empty -/
theorem one_tup {xs ys : List PyData} {a b : Value} {as bs : List Addr} {Q : Bool → Shared → Prop} (ra : Reads s.heap a (.tuple xs) as) (rb : Reads s.heap b (.tuple ys) bs) (h : alike (.tuple xs) (.tuple ys) = true)
    (hu : A.units + min (PyData.depth (.tuple xs)) (PyData.depth (.tuple ys)) < cLine) (hq : Q (dataLt (.tuple xs) (.tuple ys)) s) : wpAny (model prog w) A (oneLt' true a b) Q E s := by
  have hal : alikeAll xs ys = true := by simpa [alike] using h
  cases ra with
  | @tuple l o vs n _ as₁ h1 h2 h3 h4 =>
    cases rb with
    | @tuple l' o' vs' n' _ bs₁ k1 k2 k3 k4 =>
      have n1 : vs.size = xs.length := by simpa using ReadsAll.length _ _ _ h4
      have n2 : vs'.size = ys.length := by simpa using ReadsAll.length _ _ _ k4
      rw [dataLt_tuple, ← firstLt_toks xs ys hal, ← n1, ← n2] at hq
      rw [oneLt'_eq]
      simp only [if_true]
      refine wpAny_bind (wpAny_cRoomFor (room_here hu) (wpAny_bind (wpAny_callSpecialIfBound?_slot (T := "tuple") ⟨_, h1, h2⟩ F.slot_tuple_lt ?_)))
      obtain ⟨cls, dd, data, sl⟩ := o
      obtain ⟨cls2, dd2, data2, sl2⟩ := o'
      simp only at h2 h3 k2 k3
      subst h2 h3 k2 k3
      refine call_meets F.slot_tuple_lt ⟨_, h1, rfl⟩ F.entry_tuple_lt (F.args_tuple_lt_2 _ _) (tuple_ltAt l l' vs vs' n n' dd dd2 sl sl2 (pairEq xs ys) fun j => dataLt (xs.getD j .none) (ys.getD j .none)) ⟨h1, k1, fun j j1 j2 => ?_, fun j j1 j2 hj => ?_, ?_⟩
      · have := eqAt_alikeAll xs ys A.in1 s vs.toList vs'.toList _ _ h4 k4 hal (room_in hu) j (by simpa using j1) (by simpa using j2)
        simpa using this
      · have := rcLt_alikeAll xs ys A.in1 s vs.toList vs'.toList _ _ h4 k4 hal (room_in hu) j (by simpa using j1) (by simpa using j2) hj
        simpa using this
      · exact wpAny_truthy_bool hq
/-- the first items, as the kind of keys is sought -/
theorem firsts_go {vs : List Value} {ds : List PyData} (e : EachIs (fun v d => ∃ as, Reads s.heap v d as) vs ds) : ∀ {Q : List (Option Value) → Shared → Prop}, (∀ d, d ∈ ds → ∃ xs, d = .tuple xs) →
    (∀ fs, EachIs (fun (f : Option Value) d => f.isSome = true ↔ d ≠ .tuple []) fs ds → Q fs s) → wpAny (model prog w) A (vs.mapM firstOfTuple') Q E s := by
  induction e with
  | nil => intro Q _ h; rw [List.mapM_nil]; exact wpAny_pure (h [] .nil)
  | @cons v d vs ds r t ih =>
    intro Q ht h
    obtain ⟨as, r⟩ := r
    obtain ⟨xs, rfl⟩ := ht d List.mem_cons_self
    cases r with
    | @tuple a o its n _ _ h1 h2 h3 h4 =>
      rw [List.mapM_cons, kas_first_eq]
      refine wpAny_bind (wpAny_bind (Looks.here (show Looks _ s.heap (typeOf (.ref a)) o.cls from (Looks.ld h1).andThen .now) ?_))
      rw [h2, if_neg (by first | decide | simp)]
      refine wpAny_bind (listItems_at h1 h3 (wpAny_pure (wpAny_bind (ih (fun d hd => ht d (List.mem_cons_of_mem _ hd)) fun fs hf => wpAny_pure (h _ (.cons ?_ hf))))))
      have hn : its.size = xs.length := by simpa using ReadsAll.length _ _ _ h4
      cases xs with
      | nil =>
        have : its[0]? = none := by simp at hn; simp [hn]
        rw [this]; simp
      | cons x xs =>
        have : 0 < its.size := by rw [hn]; simp
        rw [Array.getElem?_eq_getElem this]; simp
theorem each_none {fs : List (Option Value)} {ds : List PyData} (h : EachIs (fun (f : Option Value) d => f.isSome = true ↔ d ≠ .tuple []) fs ds) : PyData.tuple [] ∈ ds → fs.all (·.isSome) = false := by
  induction h with
  | nil => intro m; cases m
  | @cons f d fs ds r t ih =>
    intro m
    rw [List.all_cons]
    rcases List.mem_cons.mp m with e | m
    · subst e
      have : f.isSome = false := by
        cases q : f.isSome with
        | false => rfl
        | true => exact (r.mp q rfl).elim
      rw [this]; rfl
    · rw [ih m]; simp
theorem tups_kind {vs : List Value} {ds : List PyData} (e : EachIs (fun v d => ∃ as, Reads s.heap v d as) vs ds) (ht : ∀ d, d ∈ ds → ∃ xs, d = .tuple xs) (hm : PyData.tuple [] ∈ ds) {Q : SortKind → Shared → Prop}
    (h1 : ds.head? ≠ some (.tuple []) → Q general' s) (h2 : ds.head? = some (.tuple []) → Q oneType' s) : wpAny (model prog w) A (keyKind' vs.toArray) Q E s := by
  rw [kat_kind_eq, List.mapM_toArray, map_eq_pure_bind]
  refine wpAny_bind (wpAny_bind (firsts_go e ht fun fs hf => wpAny_pure ?_))
  have ha : (fs.toArray.all fun x => x.isSome) = false := by
    have := each_none hf hm
    simpa using this
  rw [if_neg (by rw [ha]; simp)]
  cases hf with
  | nil => cases hm
  | @cons f d fs ds r t =>
    have h0 : ((f :: fs).toArray[0]?.bind id) = f := by simp
    rw [h0]
    by_cases hd : d = .tuple []
    · have hn : f.isSome = false := by
        cases q : f.isSome with
        | false => rfl
        | true => exact (r.mp q hd).elim
      rw [if_neg (by rw [hn]; simp), oneTypeOnly'_eq, List.mapM_toArray, map_eq_pure_bind]
      refine wpAny_bind (wpAny_bind (wpAny_bind (kas_mapM (r := Value.type "tuple") _ (fun v hv Q' hq => ?_) (wpAny_pure ?_))))
      · obtain ⟨d', hd', as, rr⟩ := e.left v hv
        obtain ⟨xs, rfl⟩ := ht d' hd'
        exact (looks_reads rr).here hq
      · cases e with
        | @cons v _ vs _ _ _ =>
          have q0 : (List.map (fun _ => Value.type "tuple") (v :: vs)).toArray[0]? = some (Value.type "tuple") := by simp
          have q1 : ((List.map (fun _ => Value.type "tuple") (v :: vs)).toArray.all fun x => x == Value.type "tuple") = true := by
            simp only [List.all_toArray, List.all_map, List.all_eq_true]
            intro _ _
            rfl
          rw [q0]
          simp only [q1, if_true]
          exact wpAny_pure (wpAny_pure (h2 (by rw [List.head?_cons, hd])))
    · rw [if_pos (r.mpr hd)]
      exact wpAny_pure (h1 (by rw [List.head?_cons]; intro z; cases z; exact hd rfl))
theorem sorts_tups {vs : List Value} {ds : List PyData} (e : EachIs (fun v d => ∃ as, Reads s.heap v d as) vs ds) (hal : AllAlike ds) (ht : ∀ d, d ∈ ds → ∃ xs, d = .tuple xs) (hm : PyData.tuple [] ∈ ds) (hu : ∀ d, d ∈ ds → A.units + d.depth < cLine) :
    SortsAt prog w A s (dataKind s.heap ds) vs := by
  have room : ∀ {d d' : PyData}, d ∈ ds → A.units + min d.depth d'.depth < cLine := fun {d d'} hd => Nat.lt_of_le_of_lt (Nat.add_le_add_left (Nat.min_le_left _ _) _) (hu d hd)
  refine ⟨fun v hv => ?_, ?_⟩
  · obtain ⟨d, hd, as, r⟩ := e.left v hv
    exact ⟨_, dataKind_some hal hd r⟩
  · by_cases h0 : ds.head? = some (.tuple [])
    · refine ⟨oneType', fun E x y a b Q ha hb hq => ?_, fun _ E Q hq => tups_kind e ht hm (fun z => (z h0).elim) fun _ => hq⟩
      obtain ⟨d, as, hd, ra, rfl⟩ := dataKind_inv ha
      obtain ⟨d', as', hd', rb, rfl⟩ := dataKind_inv hb
      obtain ⟨xs, rfl⟩ := ht d hd
      obtain ⟨ys, rfl⟩ := ht d' hd'
      rw [keyLt'_oneType]
      exact one_tup ra rb (hal _ hd _ hd') (room hd) hq
    · refine ⟨general', fun E x y a b Q ha hb hq => ?_, fun _ E Q hq => tups_kind e ht hm (fun _ => hq) fun z => (h0 z).elim⟩
      obtain ⟨d, as, hd, ra, rfl⟩ := dataKind_inv ha
      obtain ⟨d', as', hd', rb, rfl⟩ := dataKind_inv hb
      show wpAny (model prog w) A (oneLt' false x y) Q E s
      exact oneLt_alike (fun z => nomatch z) ra rb (hal _ hd _ hd') (by obtain ⟨xs, rfl⟩ := ht d hd; intro z; cases z) (room hd) hq
/-- all can be compared with <: none is None, and all are tuples or none is -/
def Ordd (ds : List PyData) : Prop := (∀ d, d ∈ ds → ∃ xs, d = .tuple xs) ∨ ∀ d, d ∈ ds → d ≠ .none ∧ ∀ xs, d ≠ .tuple xs
theorem sorts_any {vs : List Value} {ds : List PyData} (e : EachIs (fun v d => ∃ as, Reads s.heap v d as) vs ds) (hal : AllAlike ds) (ho : Ordd ds) (hu : ∀ d, d ∈ ds → A.units + d.depth < cLine) : SortsAt prog w A s (dataKind s.heap ds) vs := by
  rcases ho with ht | hn
  · by_cases hm : PyData.tuple [] ∈ ds
    · exact sorts_tups e hal ht hm hu
    · refine SortsAt.data e hal (.inl fun d hd => ?_) hu
      obtain ⟨xs, rfl⟩ := ht d hd
      cases xs with
      | nil => exact (hm hd).elim
      | cons x xs => exact ⟨x, xs, rfl⟩
  · exact SortsAt.data e hal (.inr hn) hu
/-- sorted(xs) -/
theorem sorted_sq {a : Addr} {vs : List Value} {κ : PyProof.Rows.KeyKind} {Q : Value → Shared → Prop} (hl : s.heap.IsList a vs.toArray ∨ s.heap.IsTuple a vs.toArray) (hL : vs.length ≤ sizeLine)
    (S : SortsAt prog w A.in1.in1 { s with heap := sortingHeap (copyHeap s.heap vs) (s.heap.objs.size + 1) vs } κ vs)
    (h : Q (.ref (s.heap.objs.size + 1)) { s with heap := sortedAll s.heap vs (sortVals κ false vs vs).toArray }) : wpAny (model prog w) A (call (.builtin "sorted") [.ref a]) Q E s := by
  refine Calls.call_function_entry kind_sorted plain_sorted entry_sorted (args_sorted1 _) ?_
  unfold Builtin.«sorted»
  refine wpAny_bind (m := checkCount "sorted" 1 1 _) (wpAny_pure (wpAny_bind (coll_sq hl hL (wpAny_bind (wpAny_newList ?_ hL)))))
  have hz : ((s.heap.push (seqObj "list" #[] 0)).update s.heap.objs.size (Obj.mapSeq (· ++ vs.toArray))).objs.size = s.heap.objs.size + 1 := by
    rw [Heap.size_update, size_push']
  show wpAny _ _ _ _ _ { s with heap := copyHeap s.heap vs }
  rw [hz]
  refine wpAny_bind (wpAny_holding (wpAny_call_entry slot_list_sort ⟨_, copyHeap_at s.heap vs, rfl⟩ entry_list_sort ?_ (args_list_sort _)))
  exact list_sort_vals (s := { s with heap := copyHeap s.heap vs }) (copyHeap_at s.heap vs) S hL ⟨_, rfl, wpAny_pure ⟨_, rfl, h⟩⟩
end sorts
open PySem PySem.Spec PyProof.Rows L2
open PySem.W (EachIs)
namespace F
/-- a is not above b -/
def leD (a b : D) : Bool := !PySem.W.dataLt (toPy b) (toPy a)
def SortOk (xs : List D) : Prop := xs.length ≤ big ∧ (∀ d ∈ xs, dat deep d = true) ∧ PySem.W.AllAlike (xs.map toPy) ∧ Ordd (xs.map toPy)
open Classical in
noncomputable def sorted (st : Store) : List D → Option D
  | [d] => (seq st d).bind fun xs => if SortOk xs then some (.lst (xs.mergeSort leD)) else none
  | _ => none
end F
section
variable {L : Lb} {X : Cx} {pos : Pos}
theorem each_reads {pins : List (Addr × Obj)} {σ : L2.St} {s : Shared} {W : Wd} {st : Store} {H : Hp} (I : Inv X pins σ H s) (k : Ok L W st H) : ∀ {vs : List V} {its : List Value} {xs : List D}, Vals vs its → Reps L W.T vs xs → (∀ d ∈ xs, F.dat F.deep d = true) →
    EachIs (fun u d => ∃ as, Reads s.heap u (F.toPy d) as) its xs ∧ EachIs (fun u d => ∃ v, RelV v u ∧ Rep L W.T v d) its xs
  | _, _, _, .nil, .nil, _ => ⟨.nil, .nil⟩
  | _, _, _, .cons r1 r2, .cons q1 q2, h => by
    obtain ⟨h1, h2⟩ := each_reads I k r2 q2 fun d hd => h d (List.mem_cons_of_mem _ hd)
    exact ⟨.cons (Dp.reads I _ _ _ (dat_dp k _ _ _ (h _ List.mem_cons_self) q1) r1) h1, .cons ⟨_, r1, q1⟩ h2⟩
theorem each_back {T : TM} {out : List Value} {xs : List D} (h : EachIs (fun u d => ∃ v, RelV v u ∧ Rep L T v d) out xs) : ∃ vs, Vals vs out ∧ Reps L T vs xs := by
  induction h with
  | nil => exact ⟨[], .nil, .nil⟩
  | cons r _ ih =>
    obtain ⟨v, r1, r2⟩ := r
    obtain ⟨vs, h1, h2⟩ := ih
    exact ⟨v :: vs, .cons r1 h1, .cons r2 h2⟩
theorem c_sorted (hu : X.A.units + 20 < cLine) : CallR X (.builtin "sorted") (rc L F.sorted) := by
  intro pins s σ H vs us Q I rv ⟨W, st, ds, r, k, rs, e, q⟩
  unfold F.sorted at e
  split at e
  · rename_i d
    obtain ⟨xs, e1, e⟩ := bindP e
    split at e
    · rename_i ok
      obtain ⟨hb, hd, hal, ho⟩ := ok
      cases e
      obtain ⟨v, rfl, r1⟩ := reps_one rs
      obtain ⟨a, ws, rfl, hq, hz, r2⟩ := seq_rep (K := X.K) k r1 e1
      obtain ⟨its, rw, hl⟩ : ∃ its : List Value, Vals ws its ∧ (s.heap.IsList a its.toArray ∨ s.heap.IsTuple a its.toArray) := by
        rcases hq with hq | hq
        · obtain ⟨its, z1, z2, _⟩ := I.list hq
          exact ⟨its, z1, .inl z2.isList⟩
        · obtain ⟨its, z1, z2, _⟩ := I.tuple hq
          exact ⟨its, z1, .inr z2⟩
      rw [Vals.ref1 rv]
      have hz' : its.length ≤ sizeLine := by rw [← rw.length]; exact hz
      obtain ⟨er, eR⟩ := each_reads I k rw r2 hd
      have er' : EachIs (fun v d => ∃ as, Reads (PySem.W.sortingHeap (PySem.W.copyHeap s.heap its) (s.heap.objs.size + 1) its) v (F.toPy d) as) its xs := er.mono fun _ _ ⟨as, z⟩ => ⟨as, PyProof.Rows.Reads.keeps (fun _ _ => PySem.W.sorting_copy_old) z⟩
      refine sorted_sq hl hz' (sorts_any (s := { s with heap := PySem.W.sortingHeap (PySem.W.copyHeap s.heap its) (s.heap.objs.size + 1) its }) (PySem.W.each_map (R := fun v d => ∃ as, Reads (PySem.W.sortingHeap (PySem.W.copyHeap s.heap its) (s.heap.objs.size + 1) its) v d as) F.toPy er') hal ho fun d hd' => ?_) ?_
      · obtain ⟨x, hx, rfl⟩ := List.mem_map.mp hd'
        have := dat_depth _ _ (hd x hx)
        have h12 : F.deep = 12 := rfl
        rw [h12] at this
        show X.A.units + 2 + _ < cLine
        omega
      · obtain ⟨vs', w1, w2⟩ := each_back (PySem.W.sortVals_data false eR er' hal)
        obtain ⟨ep, he⟩ := PyProof.Rows.sortedAll_at s.heap its (PySem.W.sortVals (PySem.W.dataKind (PySem.W.sortingHeap (PySem.W.copyHeap s.heap its) (s.heap.objs.size + 1) its) (xs.map F.toPy)) false its its).toArray
        have hlen : vs'.length ≤ sizeLine := by
          rw [w2.length, (List.mergeSort_perm _ _).length_eq, ← r2.length]; exact hz
        exact ⟨.ref _, upd H (s.heap.objs.size + 1) (.lst vs'), I.laid (t' := s.toks) (fun _ _ => PyProof.Rows.sortedAll_old) (Nat.le_succ _) ⟨hlen, _, ep, w1, he⟩, rfl, fresh_lst k w2 hlen q _ (I.hok.fresh (Nat.le_succ _))⟩
    · cases e
  · cases e
end
end Sm
/-! ## SimM -/
/-! Sm, part M: dict(pairs), sorted(set(..)), closing what is made. -/
namespace Sm
open PySem PySem.Spec PyProof.Rows L2

/-- what an expression makes is closed at once -/
theorem pe_seal {X : Cx} {e : Expr} {t : TE} (h : PE X e t) :
    PE X e (fun σ H Q => t σ H (fun v H' => Q v H' ∨ ∃ d u, H' d = some u ∧ Mut (some u) ∧ ∀ od, Q v (upd H' d (.frz od u)))) := by
  refine ⟨fun pins s σ H Q I hw => ?_⟩
  refine thn (h.run pins s σ H _ I hw) fun v s1 ⟨x, H1, I1, r, z⟩ => ?_
  rcases z with z | ⟨d, o, hd, mu, z⟩
  · exact ⟨x, H1, I1, r, z⟩
  · obtain ⟨od, I2⟩ := I1.lock hd mu
    exact ⟨x, _, I2, r, z od⟩

section
variable {X : Cx}
def mergeT (acc more : List (List Key × V)) : List (List Key × V) := more.foldl (fun acc kv => putK acc kv.1 kv.2) acc
theorem mergeT_len : ∀ (more acc : List (List Key × V)), (mergeT acc more).length ≤ acc.length + more.length
  | [], acc => Nat.le_refl _
  | p :: r, acc => by
    have h1 := mergeT_len r (putK acc p.1 p.2)
    have h2 := putK_len acc p.1 p.2
    show (mergeT (putK acc p.1 p.2) r).length ≤ acc.length + (r.length + 1)
    omega
theorem kt_merge {H : Hp} : ∀ {prs : List (List Key × Addr × Value)} {kvs : List (List Key × Addr × V)}, Paired (fun (q : List Key × Addr × Value) (p : List Key × Addr × V) => q.1 = p.1 ∧ q.2.1 = p.2.1 ∧ H p.2.1 = some (.tup (p.1.map kV)) ∧ RelV p.2.2 q.2.2) prs kvs →
    ∀ {acc : List (List Key × V)} {xs : List (List Key × Addr × Value)}, KT H acc xs → KT H (mergeT acc (kvs.map fun p => (p.1, p.2.2))) (PySem.storedAllH xs prs)
  | _, _, .nil, _, _, r => r
  | q :: prs, p :: kvs, .cons h t, acc, xs, r => by
    obtain ⟨h1, h2, h3, h4⟩ := h
    have := kt_merge t (r.put p.1 (b := p.2.1) h3 h4)
    rw [← h1, ← h2] at this
    show KT H (mergeT (putK acc p.1 p.2.2) (kvs.map fun p => (p.1, p.2.2))) (PySem.storedAllH (storedH xs q.1 q.2.1 q.2.2) prs)
    rw [← h1]
    exact this
theorem trefs {pins : List (Addr × Obj)} {σ : L2.St} {H : Hp} {s : Shared} (I : Inv X pins σ H s) : ∀ {ps : List Addr} {kvs : List (List Key × Addr × V)}, Paired (fun p (kv : List Key × Addr × V) => SqT X.K H p [V.ref kv.2.1, kv.2.2] ∧ H kv.2.1 = some (.tup (kv.1.map kV))) ps kvs →
    ∃ prs : List (List Key × Addr × Value), Paired (fun (q : List Key × Addr × Value) (p : List Key × Addr × V) => q.1 = p.1 ∧ q.2.1 = p.2.1 ∧ H p.2.1 = some (.tup (p.1.map kV)) ∧ RelV p.2.2 q.2.2) prs kvs ∧ prs.length = ps.length ∧
      ∀ (j : Nat) (q : List Key × Addr × Value), prs[j]? = some q → ∃ b : Addr, ps[j]? = some b ∧ IsTup s.heap b #[.ref q.2.1, q.2.2] ∧ (tupleKind (mixKind X.prog X.w)).is s.heap q.1 q.2.1
  | _, _, .nil => ⟨[], .nil, rfl, fun j q e => by simp at e⟩
  | _, _, .cons (a := p) (b := kv) ⟨h, hb⟩ t => by
    obtain ⟨prs, r, hl, hp⟩ := trefs I t
    obtain ⟨its, rv, ht, _⟩ := I.tuple h
    obtain ⟨u, y, ei, ru, ry⟩ := vals2 rv
    subst ei
    cases (show u = Value.ref kv.2.1 from ru)
    refine ⟨(kv.1, kv.2.1, y) :: prs, .cons ⟨rfl, rfl, hb, ry⟩ r, by rw [List.length_cons, List.length_cons, hl], fun j q e => ?_⟩
    cases j with
    | zero =>
      obtain rfl : (kv.1, kv.2.1, y) = q := Option.some.inj e
      exact ⟨p, rfl, ht, key_of I.hok hb⟩
    | succ j =>
      obtain ⟨b, e1, e2, e3⟩ := hp j q (by simpa using e)
      exact ⟨b, by simpa using e1, e2, e3⟩
/-- dict(xs) of a list of pairs (tuple, value) -/
theorem call_dictT (hcalm : X.calm = true) (hu : X.A.units + 70 < cLine) : CallR X (.type "dict") (fun xs H Q => ∃ (a : Addr) (ps : List Addr) (kvs : List (List Key × Addr × V)), xs = [.ref a] ∧ SqL X.K H a (ps.map V.ref) ∧
    Paired (fun p (kv : List Key × Addr × V) => SqT X.K H p [V.ref kv.2.1, kv.2.2] ∧ H kv.2.1 = some (.tup (kv.1.map kV))) ps kvs ∧ ∀ p, H p = none → Q (.ref p) (upd H p (.dT (mergeT [] (kvs.map fun q => (q.1, q.2.2)))))) := by
  intro pins s σ H xs us Q I r q
  obtain ⟨a, ps, kvs, ex, hq, hp, q⟩ := q
  subst ex
  rw [Vals.ref1 r]
  obtain ⟨its, rv, pl, hz⟩ := I.list hq
  have ei := refs_at rv
  subst ei
  rw [List.length_map] at hz
  obtain ⟨prs, rel, hl, hpr⟩ := trefs I hp
  obtain ⟨o, n, ho, hc, hd, hdat⟩ := pl
  let psV : List (Value × Value) := prs.map fun q => (.ref q.2.1, q.2.2)
  have hlen : psV.length = ps.length := by simp [psV, hl]
  refine PySem.call_dict_pairsH (A := X.A) (knd := tupleKind (mixKind X.prog X.w)) (ps := prs) (PairArg.list (prog := X.prog) (w := X.w) a (ps.map Value.ref).toArray (fun j => ps.getD j 0) psV) (I.ok.hd hcalm) ?_ ⟨⟨o, n, ho, hc, hd, hdat⟩, ?_, fun j k v e => ?_⟩ ⟨?_, fun i key v e => ?_⟩ (fun h' hk x hx => ?_) (by rw [hlen]; exact hz) fun h' tk hd' k => ?_
  · show X.A.in1.in1.units < cLine
    simp; omega
  · simp [hlen]
  · obtain ⟨q', e1, e2⟩ := (List.getElem?_map (f := fun q : List Key × Addr × Value => (Value.ref q.2.1, q.2.2)) ▸ e : (prs[j]?).map (fun q => (Value.ref q.2.1, q.2.2)) = some (k, v)) |> Option.map_eq_some_iff.mp
    cases e2
    obtain ⟨b, h1, h2, _⟩ := hpr j q' e1
    exact ⟨by simp [h1], .inl (by show s.heap.IsTuple (ps.getD j 0) _; rw [List.getD_eq_getElem?_getD, h1]; exact h2)⟩
  · rw [hlen, hl]
  · obtain ⟨q', e1, e2⟩ := (List.getElem?_map (f := fun q : List Key × Addr × Value => (Value.ref q.2.1, q.2.2)) ▸ e : (prs[i]?).map (fun q => (Value.ref q.2.1, q.2.2)) = some (key, v)) |> Option.map_eq_some_iff.mp
    cases e2
    exact ⟨q'.1, q'.2.1, e1, rfl⟩
  · obtain ⟨j, hj⟩ := List.getElem?_of_mem hx
    obtain ⟨b, _, _, o', its, m, g1, g2, g3, g4⟩ := hpr j x hj
    exact ⟨o', its, m, hk _ _ (Nat.ne_of_lt (Heap.lt_size g1)) (by simp) g1, g2, g3, g4⟩
  · have hm : (s.heap.objs.size == sysModules) = false := beq_eq_false_iff_ne.mpr (Nat.ne_of_gt I.big)
    have hn : H s.heap.objs.size = none := I.hok.fresh (Nat.le_refl _)
    have hz' : (mergeT [] (kvs.map fun q => (q.1, q.2.2))).length ≤ sizeLine := by
      have := mergeT_len (kvs.map fun q => (q.1, q.2.2)) []
      rw [List.length_map, ← rel.length, hl] at this
      simp at this
      omega
    obtain ⟨od, es, ep, g1, g2, g3, g4, _, g5⟩ := hd'
    refine ⟨.ref s.heap.objs.size, upd H s.heap.objs.size (.dT (mergeT [] (kvs.map fun q => (q.1, q.2.2)))), I.laid (t' := tk) (fun b o => k b o (by simp)) (Nat.le_refl _) (show ObjOk X.prog X.w _ _ _ (.dT _) from ⟨hz', hm, PySem.storedAllH [] prs, ?_, od, es, ep, g1, g2, g3, g4, g5⟩), rfl, q _ hn⟩
    exact KT.keeps (kt_merge rel .nil) fun b ys z => by
      rw [upd_ne]
      · exact z
      · rintro rfl; rw [hn] at z; cases z
end
namespace F
def prs : List D → Option (List (D × D))
  | [] => some []
  | .tup [k, v] :: r => (prs r).map ((k, v) :: ·)
  | _ => none
def putAll (acc kvs : List (D × D)) : List (D × D) := kvs.foldl (fun a p => put a p.1 p.2) acc
/-- dict(pairs), never changed behind it -/
def dictP (t : Bool) (st : Store) : List D → Option D
  | [d] => (lstOf st d).bind fun xs => (prs xs).bind fun kvs => if kvs.length ≤ big ∧ (kvs.all fun p => kindOk t p.1) = true then some (.dct t (putAll [] kvs)) else none
  | _ => none
theorem prs_cons {x : D} {r : List D} {kvs : List (D × D)} (e : prs (x :: r) = some kvs) : ∃ k v kr, x = .tup [k, v] ∧ prs r = some kr ∧ kvs = (k, v) :: kr := by
  unfold prs at e
  split at e
  · rename_i h
    cases h
  · rename_i k v r' h
    cases h
    cases e1 : prs r with
    | none => rw [e1] at e; cases e
    | some kr => rw [e1] at e; cases e; exact ⟨_, _, _, rfl, rfl, rfl⟩
  · cases e
end F
section
variable {L : Lb} {X : Cx} {pos : Pos}
theorem upd2 {H : Hp} {p : Addr} {a b : HO} : upd (upd H p a) p b = upd H p b := by
  funext q
  by_cases h : q = p
  · subst h; rw [upd_same, upd_same]
  · rw [upd_ne h, upd_ne h, upd_ne h]
def KPs (L : Lb) (T : TM) : List (Key × V) → List (D × D) → Prop := Paired fun p q => F.keyK q.1 = some (.inl p.1) ∧ q.1 = keyD p.1 ∧ Rep L T p.2 q.2
theorem prsK_rep {W : Wd} {st : Store} {H : Hp} (k : Ok L W st H) : ∀ {vs : List V} {xs : List D} {kvs : List (D × D)}, Reps L W.T vs xs → F.prs xs = some kvs → (∀ p ∈ kvs, F.kindOk false p.1 = true) →
    ∃ ps ws, vs = ps.map V.ref ∧ Paired (fun p (kv : Key × V) => SqT X.K H p [kV kv.1, kv.2]) ps ws ∧ KPs L W.T ws kvs
  | _, [], _, r, e, _ => by cases e; cases r; exact ⟨[], [], rfl, .nil, .nil⟩
  | _, x :: xs, kvs, r, e, h => by
    obtain ⟨kd, vd, kr, rfl, e1, rfl⟩ := F.prs_cons e
    cases r with
    | cons r1 rr =>
      obtain ⟨ps, ws, h1, h2, h3⟩ := prsK_rep k rr e1 fun p hp => h p (List.mem_cons_of_mem _ hp)
      cases r1 with
      | @tup a us _ ha hz r1 =>
        obtain ⟨uk, uv, rfl, q1, q2⟩ := reps_two r1
        rcases key_rep k q1 (h _ List.mem_cons_self) with ⟨_, kk, z1, rfl, z3⟩ | ⟨z, _⟩
        · exact ⟨a :: ps, (kk, uv) :: ws, by rw [List.map_cons, h1], .cons (SqT.of (k.tag _ _ ha)) h2, .cons ⟨z1, z3, q2⟩ h3⟩
        · cases z
theorem repK_merge {T : TM} : ∀ {ws : List (Key × V)} {kvs : List (D × D)}, KPs L T ws kvs → ∀ {acc : List (Key × V)} {ds : List (D × D)}, RepK L T acc ds → RepK L T (mergeK acc ws) (F.putAll ds kvs)
  | _, _, .nil, _, _, r => r
  | _, _, .cons ⟨h1, h2, h3⟩ t, _, _, r => repK_merge t (repK_put h1 h2 h3 r)
theorem se_dictK {p : Pos} {e : Expr} {me : MA} (hcalm : X.calm = true) (hg : Gl X "dict") (hm : X.mg "dict" = none) (ha : PA X [e] (tA L me)) (he : starEach [e] X.env = (false, eval e X.env) :: starEach [] X.env := by rfl)
    (hpl : (backTo pos (starEach [] X.env)).any (·.1) = false := by rfl) : PE X (.Call (.Name "dict" p) [e] [] pos) (tE L (E.fn (F.dictP false) me)) :=
  (pe_seal (pe_callTy (call_dictP hcalm) hg hm rfl ha (by decide) (by decide) he hpl)).imp fun σ H Q => by
    rintro ⟨W, ρ, st, d, st', re, k, e, q⟩
    obtain ⟨⟨ds, st1⟩, e1, e⟩ := bindP e
    cases e2 : F.dictP false st1 ds with
    | none => simp only [e2] at e; cases e
    | some r =>
      simp only [e2] at e; cases e
      refine ⟨W, ρ, st, _, _, re, k, e1, fun W1 vs H1 l1 k1 r1 => ?_⟩
      unfold F.dictP at e2
      split at e2
      · rename_i d
        obtain ⟨xs, e3, e2⟩ := bindP e2
        obtain ⟨kvs, e4, e2⟩ := bindP e2
        split at e2
        · rename_i h
          cases e2
          obtain ⟨v, rfl, rv⟩ := reps_one r1
          obtain ⟨a, us, rfl, hq, hz, rs⟩ := lstOf_rep k1 rv e3
          obtain ⟨ps, ws, hps, h2, h3⟩ := prsK_rep (X := X) k1 rs e4 (by simpa using h.2)
          subst hps
          have hm := repK_merge h3 (.nil : RepK L W1.T [] [])
          have hz2 : (mergeK [] ws).length ≤ sizeLine := by
            have z1 := length_mergeK ws []
            have z2 := h3.length
            have z3 := big_line
            have z4 := h.1
            simp at z1
            omega
          exact ⟨a, ps, ws, rfl, SqL.of hq, h2, fun p hp => .inr ⟨p, _, upd_same, True.intro, fun od => by
            rw [upd2]
            exact q ⟨W1.T.put p (.frz (.frz od (.dK (mergeK [] ws)))), W1.loc⟩ _ _ (l1.trans (k1.le_frz hp)) (k1.frz hp) (.dctK TM.put_same hz2 (hm.mono (k1.le_frz hp).leR))⟩⟩
        · cases e2
      · cases e2
def TPs (L : Lb) (T : TM) : List (List Key × Addr × V) → List (D × D) → Prop := Paired fun p q => F.keyK q.1 = some (.inr p.1) ∧ q.1 = .tup (p.1.map keyD) ∧ p.1.length ≤ sizeLine ∧ Rep L T p.2.2 q.2
theorem prsT_rep {W : Wd} {st : Store} {H : Hp} (k : Ok L W st H) : ∀ {vs : List V} {xs : List D} {kvs : List (D × D)}, Reps L W.T vs xs → F.prs xs = some kvs → (∀ p ∈ kvs, F.kindOk true p.1 = true) →
    ∃ ps ws, vs = ps.map V.ref ∧ Paired (fun p (kv : List Key × Addr × V) => SqT X.K H p [V.ref kv.2.1, kv.2.2] ∧ H kv.2.1 = some (.tup (kv.1.map kV))) ps ws ∧ TPs L W.T ws kvs
  | _, [], _, r, e, _ => by cases e; cases r; exact ⟨[], [], rfl, .nil, .nil⟩
  | _, x :: xs, kvs, r, e, h => by
    obtain ⟨kd, vd, kr, rfl, e1, rfl⟩ := F.prs_cons e
    cases r with
    | cons r1 rr =>
      obtain ⟨ps, ws, h1, h2, h3⟩ := prsT_rep k rr e1 fun p hp => h p (List.mem_cons_of_mem _ hp)
      cases r1 with
      | @tup a us _ ha hz r1 =>
        obtain ⟨uk, uv, rfl, q1, q2⟩ := reps_two r1
        rcases key_rep k q1 (h _ List.mem_cons_self) with ⟨z, _⟩ | ⟨_, ks, b, z1, rfl, z2, z3, z4⟩
        · cases z
        · exact ⟨a :: ps, (ks, b, uv) :: ws, by rw [List.map_cons, h1], .cons ⟨SqT.of (k.tag _ _ ha), z2⟩ h2, .cons ⟨z1, z3, z4, q2⟩ h3⟩
theorem repT_merge {T : TM} : ∀ {ws : List (List Key × Addr × V)} {kvs : List (D × D)}, TPs L T ws kvs → ∀ {acc : List (List Key × V)} {ds : List (D × D)}, RepT L T acc ds → RepT L T (mergeT acc (ws.map fun q => (q.1, q.2.2))) (F.putAll ds kvs)
  | _, _, .nil, _, _, r => r
  | _, _, .cons ⟨h1, h2, h3, h4⟩ t, _, _, r => repT_merge t (repT_put h1 h2 h3 h4 r)
theorem se_dictT' {p : Pos} {e : Expr} {me : MA} (hcalm : X.calm = true) (hu : X.A.units + 70 < cLine) (hg : Gl X "dict") (hm : X.mg "dict" = none) (ha : PA X [e] (tA L me)) (he : starEach [e] X.env = (false, eval e X.env) :: starEach [] X.env := by rfl)
    (hpl : (backTo pos (starEach [] X.env)).any (·.1) = false := by rfl) : PE X (.Call (.Name "dict" p) [e] [] pos) (tE L (E.fn (F.dictP true) me)) :=
  (pe_seal (pe_callTy (call_dictT hcalm hu) hg hm rfl ha (by decide) (by decide) he hpl)).imp fun σ H Q => by
    rintro ⟨W, ρ, st, d, st', re, k, e, q⟩
    obtain ⟨⟨ds, st1⟩, e1, e⟩ := bindP e
    cases e2 : F.dictP true st1 ds with
    | none => simp only [e2] at e; cases e
    | some r =>
      simp only [e2] at e; cases e
      refine ⟨W, ρ, st, _, _, re, k, e1, fun W1 vs H1 l1 k1 r1 => ?_⟩
      unfold F.dictP at e2
      split at e2
      · rename_i d
        obtain ⟨xs, e3, e2⟩ := bindP e2
        obtain ⟨kvs, e4, e2⟩ := bindP e2
        split at e2
        · rename_i h
          cases e2
          obtain ⟨v, rfl, rv⟩ := reps_one r1
          obtain ⟨a, us, rfl, hq, hz, rs⟩ := lstOf_rep k1 rv e3
          obtain ⟨ps, ws, hps, h2, h3⟩ := prsT_rep (X := X) k1 rs e4 (by simpa using h.2)
          subst hps
          have hm := repT_merge h3 (.nil : RepT L W1.T [] [])
          have hz2 : (mergeT [] (ws.map fun q => (q.1, q.2.2))).length ≤ sizeLine := by
            have z1 := mergeT_len (ws.map fun q => (q.1, q.2.2)) []
            have z2 := h3.length
            have z3 := big_line
            have z4 := h.1
            simp at z1
            omega
          exact ⟨a, ps, ws, rfl, SqL.of hq, h2, fun p hp => .inr ⟨p, _, upd_same, True.intro, fun od => by
            rw [upd2]
            exact q ⟨W1.T.put p (.frz (.frz od (.dT (mergeT [] (ws.map fun q => (q.1, q.2.2)))))), W1.loc⟩ _ _ (l1.trans (k1.le_frz hp)) (k1.frz hp) (.dctT TM.put_same hz2 (hm.mono (k1.le_frz hp).leR))⟩⟩
        · cases e2
      · cases e2
end
end Sm
/-! ## SimN -/
/-! Sm, part N: sorted(set(xs)), xs tuples of numbers. -/
namespace Sm
open PySem PySem.Spec PyProof.Rows L2
open PySem.W (EachIs)

def leI (a b : List Int) : Bool := decide (a ≤ b)
theorem leI_trans (a b c : List Int) (h : leI a b = true) (h' : leI b c = true) : leI a c = true := by
  simp only [leI, decide_eq_true_eq] at *
  exact List.le_trans h h'
theorem leI_total (a b : List Int) : (leI a b || leI b a) = true := by
  simp only [leI, Bool.or_eq_true, decide_eq_true_eq]
  exact List.le_total a b
theorem leI_anti {a b : List Int} (h : leI a b = true) (h' : leI b a = true) : a = b := by
  simp only [leI, decide_eq_true_eq] at *
  exact List.le_antisymm h h'
/-- each once -/
def once {α : Type} [DecidableEq α] : List α → List α
  | [] => []
  | x :: r => if x ∈ r then once r else x :: once r
theorem mem_once {α : Type} [DecidableEq α] {x : α} : ∀ {l : List α}, x ∈ once l ↔ x ∈ l
  | [] => Iff.rfl
  | y :: r => by
    unfold once
    have ih := mem_once (x := x) (l := r)
    split
    · rename_i h
      rw [ih, List.mem_cons]
      constructor
      · exact .inr
      · rintro (e | e)
        · rw [e]; exact h
        · exact e
    · rw [List.mem_cons, List.mem_cons, ih]
theorem nodup_once {α : Type} [DecidableEq α] : ∀ l : List α, (once l).Nodup
  | [] => List.nodup_nil
  | y :: r => by
    unfold once
    split
    · exact nodup_once r
    · rename_i h
      exact List.nodup_cons.mpr ⟨fun m => h (mem_once.mp m), nodup_once r⟩
/-- the different ones, ascending -/
def sortI (ns : List (List Int)) : List (List Int) := (once ns).mergeSort leI
theorem sortI_eq {ns ms : List (List Int)} (hn : ms.Nodup) (hs : ms.Pairwise fun a b => leI a b = true) (hm : ∀ x, x ∈ ms ↔ x ∈ ns) : ms = sortI ns := by
  have p : ms.Perm (sortI ns) := by
    refine ((List.perm_ext_iff_of_nodup hn ((List.mergeSort_perm _ _).nodup_iff.mpr (nodup_once ns))).mpr fun x => ?_)
    rw [(List.mergeSort_perm _ _).mem_iff, mem_once]
    exact hm x
  exact p.eq_of_pairwise (fun a b _ _ h h' => leI_anti h h') hs (List.pairwise_mergeSort leI_trans leI_total _)
theorem perm_unmap {α β : Type} {f : α → β} {vs ms : List β} (p : vs.Perm ms) : ∀ L : List α, ms = L.map f → ∃ L1 : List α, vs = L1.map f ∧ L1.Perm L := by
  induction p with
  | nil => intro L e; exact ⟨[], rfl, by cases L with | nil => exact .nil | cons a b => cases e⟩
  | cons x _ ih =>
    intro L e
    cases L with
    | nil => cases e
    | cons a L =>
      cases e
      obtain ⟨L1, h1, h2⟩ := ih L rfl
      exact ⟨a :: L1, by rw [List.map_cons, h1], h2.cons a⟩
  | swap x y l =>
    intro L e
    cases L with
    | nil => cases e
    | cons a L =>
      cases L with
      | nil => cases e
      | cons b L => cases e; exact ⟨b :: a :: L, rfl, .swap _ _ _⟩
  | trans _ _ ih1 ih2 =>
    intro L e
    obtain ⟨L2, h1, h2⟩ := ih2 L e
    obtain ⟨L1, h3, h4⟩ := ih1 L2 h1
    exact ⟨L1, h3, h4.trans h2⟩
theorem each_map2 {α β : Type} {R : Value → β → Prop} (f : α → β) : ∀ {vs : List Value} {l : List α}, EachIs R vs (l.map f) → EachIs (fun u a => R u (f a)) vs l
  | _, [], h => by cases h; exact .nil
  | _, a :: l, h => by cases h with | cons h t => exact .cons h (each_map2 f t)
section
variable {X : Cx} {L : Lb} {pos : Pos}
def rSortSet (K : PySem.W.Frag) (P : Program) (w : World) : List V → Hp → VK → Prop := fun vs H Q => ∃ (a : Addr) (S : List (Addr × List Int)), vs = [V.ref a] ∧ H a = some (SetTO P w a S) ∧ (∀ p ∈ S, SqT K H p.1 (p.2.map V.int)) ∧
  ∀ (S' : List (Addr × List Int)) (p : Addr), S'.Perm S → (S'.map (·.2)).Nodup → S'.length < 64 → (S'.map (·.2)).Pairwise (fun q r => leI q r = true) → H p = none → Q (.ref p) (upd H p (.lst (S'.map fun q => V.ref q.1)))
def encT (q : Addr × List Int) : PyData := .tuple (q.2.map .int)
theorem encT_le : PySem.W.dataLe false encT = fun p q => leI p.2 q.2 := PySem.W.dataLe_rows fun q : Addr × List Int => q.2
theorem encT_alike (p q : Addr × List Int) : PySem.W.alike (encT p) (encT q) = true := by
  show PySem.W.alike (.tuple _) (.tuple _) = true
  rw [PySem.W.alike]
  exact PySem.W.alike_ints _ _
theorem reads_ints {h : Heap} : ∀ {k : List Int} {vs : List Value}, ItemsAre (intKind P w) k vs → ReadsAll h vs (k.map .int) []
  | _, _, .nil => .nil
  | _, _, .cons h t => by
    obtain ⟨tk, rfl⟩ := Value.isInt_shape h
    exact .cons (.int _ tk) (reads_ints t)
theorem isT_reads {P : Program} {w : World} {h : Heap} {k : List Int} {b : Addr} (x : IsT P w h k b) : ∃ as, Reads h (.ref b) (.tuple (k.map .int)) as := by
  obtain ⟨o, items, n, ho, hc, hd, hi⟩ := x
  exact ⟨_, .tuple ho hc hd (reads_ints hi)⟩
theorem cr_sortSet (hc : X.calm = true) (hu : X.A.units + 20 < cLine) : CallR X (.builtin "sorted") (rSortSet X.K X.prog X.w) := by
  intro pins s σ H vs us Q I r h
  obtain ⟨a, S, rfl, ha, hk, q⟩ := h
  have R0 : SetT0 X.prog X.w s.heap a S := (I.hok a _ ha).1
  obtain ⟨es, ep, t, R⟩ := R0.full fun p hp => I.isT (hk p hp)
  rw [Vals.ref1 r]
  obtain ⟨o, ho, hex, hd⟩ := R.ob
  have hsz := R.size
  have hfew := R.few
  refine Calls.call_function_entry kind_sorted plain_sorted entry_sorted (args_sorted1 _) ?_
  unfold Builtin.«sorted»
  refine wpAny_bind (m := checkCount "sorted" 1 1 _) (wpAny_pure (wpAny_bind (collect_set (A := X.A.in1) (I.ok.hd hc) ⟨o, ho, hex.1, hd⟩ R.fits (by unfold scanBound; omega) R.tab.ris R.led fun s1 ws k1 hz g1 o1 pm => ?_)))
  have hes : es.toList.map (·.2) = S.map fun q => Value.ref q.1 := by
    rw [R.rows]
    unfold rowsOf
    rw [List.map_map] <;> rfl
  rw [hes] at pm
  obtain ⟨L1, rfl, p1⟩ := perm_unmap pm S rfl
  have hwl : (L1.map fun q => Value.ref q.1).length < 64 := by rw [List.length_map, p1.length_eq]; exact hfew
  have hwz : (L1.map fun q => Value.ref q.1).length ≤ sizeLine := by rw [sizeLine_eq]; omega
  refine wpAny_bind (wpAny_newList ?_ hwz)
  have hoL : (s1.heap.push (seqObj "list" (L1.map fun q => Value.ref q.1).toArray 0)).get? s1.heap.objs.size = some (seqObj "list" (L1.map fun q => Value.ref q.1).toArray 0) := Heap.get?_push_size _ rfl
  have rd : ∀ (h' : Heap), (∀ b u, b ≠ s1.heap.objs.size → (s1.heap.push (seqObj "list" (L1.map fun q => Value.ref q.1).toArray 0)).get? b = some u → h'.get? b = some u) →
      ∀ l : List (Addr × List Int), (∀ p ∈ l, p ∈ S) → EachIs (fun v q => ∃ as, Reads h' v (encT q) as) (l.map fun q => Value.ref q.1) l := by
    intro h' hk' l
    induction l with
    | nil => intro _; exact .nil
    | cons p l ih =>
      intro hl
      have ip := R.tup p (hl p List.mem_cons_self)
      refine .cons (isT_reads (P := X.prog) (w := X.w) (isT_keep ip fun b u e => ?_)) (ih fun p' hp' => hl p' (List.mem_cons_of_mem _ hp'))
      have e2 := k1 b u e
      exact hk' b u (Nat.ne_of_lt (Heap.lt_size e2)) (Heap.get?_push_of_some _ e2)
  have sub : ∀ p ∈ L1, p ∈ S := fun p hp => p1.mem_iff.mp hp
  let sh := PySem.W.sortingHeap (s1.heap.push (seqObj "list" (L1.map fun q => Value.ref q.1).toArray 0)) s1.heap.objs.size (L1.map fun q => Value.ref q.1)
  have er : EachIs (fun v q => ∃ as, Reads sh v (encT q) as) (L1.map fun q => Value.ref q.1) L1 := rd sh (fun b u hb e => PySem.W.sortingHeap_old hb e) L1 sub
  have hal : PySem.W.AllAlike (L1.map encT) := .of encT_alike
  have so : PySem.W.SortsAt X.prog X.w X.A.in1.in1 { s1 with heap := sh } (PySem.W.dataKind sh (L1.map encT)) (L1.map fun q => Value.ref q.1) := by
    refine sorts_any (s := { s1 with heap := sh }) (PySem.W.each_map (R := fun v d => ∃ as, Reads sh v d as) encT er) hal (.inl fun d hd' => ?_) fun d hd' => ?_
    · obtain ⟨q', _, rfl⟩ := List.mem_map.mp hd'
      exact ⟨_, rfl⟩
    · obtain ⟨q', _, rfl⟩ := List.mem_map.mp hd'
      have hdp : (encT q').depth ≤ 2 := by
        show (PyData.tuple _).depth ≤ 2
        simp only [PyData.depth, PySem.W.depth_ints]
        omega
      show X.A.units + 2 + _ < cLine
      omega
  have eR : EachIs (fun (u : Value) (q : Addr × List Int) => u = .ref q.1) (L1.map fun q => Value.ref q.1) L1 := by
    clear so er hal sh sub rd hoL hwz hwl pm p1
    induction L1 with
    | nil => exact .nil
    | cons p l ih => exact .cons rfl ih
  have eO := PySem.W.sortVals_data false eR er hal
  rw [encT_le] at eO
  have out_eq : ∀ {o : List Value} {l : List (Addr × List Int)}, EachIs (fun (u : Value) (q : Addr × List Int) => u = .ref q.1) o l → o = l.map fun q => Value.ref q.1 := by
    intro o l e
    induction e with
    | nil => rfl
    | cons h _ ih => rw [h, ih]; rfl
  have ho' := out_eq eO
  refine wpAny_bind (wpAny_holding (wpAny_call_entry slot_list_sort ⟨_, hoL, rfl⟩ entry_list_sort ?_ (args_list_sort _)))
  refine PySem.W.list_sort_vals (s := { s1 with heap := s1.heap.push (seqObj "list" (L1.map fun q => Value.ref q.1).toArray 0) }) hoL so hwz ⟨_, rfl, wpAny_pure ⟨_, rfl, ?_⟩⟩
  obtain ⟨c, hcc⟩ := sortedHeap_at (vs := L1.map fun q => Value.ref q.1) (out := (PySem.W.sortVals (PySem.W.dataKind sh (L1.map encT)) false (L1.map fun q => Value.ref q.1) (L1.map fun q => Value.ref q.1)).toArray) hoL
  have pS : (L1.mergeSort fun p q => leI p.2 q.2).Perm S := (List.mergeSort_perm _ _).trans p1
  have hpw : ((L1.mergeSort fun p q => leI p.2 q.2).map (·.2)).Pairwise fun q r => leI q r = true :=
    List.pairwise_map.mpr (List.pairwise_mergeSort (le := fun (p q : Addr × List Int) => leI p.2 q.2) (fun a b c => leI_trans _ _ _) (fun a b => leI_total _ _) L1)
  have hn : H s1.heap.objs.size = none := I.hok.fresh hz
  have hlen : ((L1.mergeSort fun p q => leI p.2 q.2).map fun q => V.ref q.1).length ≤ sizeLine := by
    rw [List.length_map, pS.length_eq, sizeLine_eq]; omega
  have keep : ∀ b u, s.heap.get? b = some u → (sortedHeap (s1.heap.push (seqObj "list" (L1.map fun q => Value.ref q.1).toArray 0)) s1.heap.objs.size (L1.map fun q => Value.ref q.1) (PySem.W.sortVals (PySem.W.dataKind sh (L1.map encT)) false (L1.map fun q => Value.ref q.1) (L1.map fun q => Value.ref q.1)).toArray).get? b = some u := fun b u e => by
    have e2 := k1 b u e
    have hlt := Heap.lt_size e2
    rw [sortedHeap_old (Nat.ne_of_lt hlt) (by rw [size_push']; exact Nat.lt_succ_of_lt hlt)]
    exact Heap.get?_push_of_some _ e2
  have hv : Vals ((L1.mergeSort fun p q => leI p.2 q.2).map fun q => V.ref q.1) ((PySem.W.sortVals (PySem.W.dataKind sh (L1.map encT)) false (L1.map fun q => Value.ref q.1) (L1.map fun q => Value.ref q.1)).toArray).toList := by
    rw [ho']
    exact vals_of_refs _
  have J : Inv X pins σ (upd H s1.heap.objs.size (.lst ((L1.mergeSort fun p q => leI p.2 q.2).map fun q => V.ref q.1))) { s with heap := _, gens := s1.gens, drawn := s1.drawn, toks := s1.toks } :=
    I.call (ch := []) (Un.laid keep hz hn) (I.hok.laid keep hz ⟨hlen, _, c, hv, hcc⟩) (by rw [g1]; exact I.bare) (fun _ z => nomatch z)
  have e : ∀ hh : Heap, ({ s1 with heap := hh } : Shared) = { s with heap := hh, gens := s1.gens, drawn := s1.drawn, toks := s1.toks } := by
    intro hh
    cases s1
    cases s
    cases o1
    rfl
  show EP X pins σ Q (.ref s1.heap.objs.size) { s1 with heap := _ }
  rw [e]
  exact ⟨.ref s1.heap.objs.size, _, J, rfl, q _ _ pS ((pS.map (·.2)).nodup_iff.mpr R.nd) (by rw [pS.length_eq]; exact hfew) hpw hn⟩
theorem Ok.skip {W : Wd} {st : Store} {H : Hp} {p : Addr} {o : HO} (k : Ok L W st H) (h : H p = none) : Ok L W st (upd H p o) :=
  ⟨fun a t e => (k.tag a t e).keep TM.le.rfl.leR (fun n c _ hc => ⟨rfl, hc⟩) (upd_ne (by rintro rfl; rw [k.noT h] at e; cases e)), k.box⟩
namespace F
def ints1 : D → Option (List Int)
  | .tup xs => intL xs
  | _ => none
def intsL : List D → Option (List (List Int))
  | [] => some []
  | d :: r => (ints1 d).bind fun n => (intsL r).map (n :: ·)
def tupI (n : List Int) : D := .tup (n.map .int)
/-- sorted(set(xs)) -/
def sortSet (st : Store) (d : D) : Option D := (lstOf st d).bind fun xs => (intsL xs).bind fun ns => if ns.length < 64 then some (.lst ((sortI ns).map tupI)) else none
end F
theorem intL_eq : ∀ {xs : List D} {ns : List Int}, F.intL xs = some ns → xs = ns.map .int
  | [], _, e => by cases e; rfl
  | .int i :: r, ns, e => by
    unfold F.intL at e
    cases e2 : F.intL r with
    | none => rw [e2] at e; cases e
    | some ms => rw [e2] at e; cases e; rw [List.map_cons, intL_eq e2]
theorem intsL_rep {W : Wd} {st : Store} {H : Hp} (k : Ok L W st H) : ∀ {vs : List V} {xs : List D} {ns : List (List Int)}, Reps L W.T vs xs → F.intsL xs = some ns →
    ∃ ks : List (Addr × List Int), vs = ks.map (fun p => V.ref p.1) ∧ ks.map (·.2) = ns ∧ ∀ p ∈ ks, H p.1 = some (.tup (p.2.map V.int)) ∧ Rep L W.T (.ref p.1) (F.tupI p.2)
  | _, [], _, r, e => by cases e; cases r; exact ⟨[], rfl, rfl, fun p hp => by cases hp⟩
  | _, d :: xs, ns, r, e => by
    unfold F.intsL at e
    obtain ⟨n, e1, e⟩ := bindP e
    cases e2 : F.intsL xs with
    | none => rw [e2] at e; cases e
    | some ms =>
      rw [e2] at e; cases e
      cases r with
      | cons r1 rr =>
        obtain ⟨ks, h1, h2, h3⟩ := intsL_rep k rr e2
        cases d with
        | tup ys =>
          cases id r1 with
          | @tup a us _ ha hz q =>
            have z := ints_rep e1 q
            have z2 := intL_eq e1
            subst z z2
            refine ⟨(a, n) :: ks, by rw [List.map_cons, h1], by rw [List.map_cons, h2], fun p hp => ?_⟩
            rcases List.mem_cons.mp hp with e | hp
            · subst e; exact ⟨k.tag _ _ ha, r1⟩
            · exact h3 p hp
        | _ => cases e1
theorem reps_refs {T : TM} : ∀ {S : List (Addr × List Int)}, (∀ p ∈ S, Rep L T (.ref p.1) (F.tupI p.2)) → Reps L T (S.map fun q => V.ref q.1) ((S.map (·.2)).map F.tupI)
  | [], _ => .nil
  | p :: S, h => .cons (h p List.mem_cons_self) (reps_refs fun q hq => h q (List.mem_cons_of_mem _ hq))
theorem se_sortSet {e : Expr} {m : ME} {p p2 p3 : Pos} (hcalm : X.calm = true) (hu : X.A.units + 64 < cLine) (hg : Gl X "sorted") (hm : X.mg "sorted" = none) (hg2 : Gl X "set") (hm2 : X.mg "set" = none) (he : PE X e (tE L m))
    (s1 : starEach [e] X.env = (false, eval e X.env) :: starEach [] X.env := by rfl) (s2 : starEach [.Call (.Name "set" p2) [e] [] p3] X.env = (false, eval (.Call (.Name "set" p2) [e] [] p3) X.env) :: starEach [] X.env := by rfl)
    (n1 : (backTo p3 (starEach [] X.env)).any (·.1) = false := by rfl) (n2 : (backTo pos (starEach [] X.env)).any (·.1) = false := by rfl) :
    PE X (.Call (.Name "sorted" p) [.Call (.Name "set" p2) [e] [] p3] [] pos) (tE L (E.op1 F.sortSet m)) :=
  (pe_callB (cr_sortSet hcalm (by omega)) hg hm rfl (pa_cons (pe_callTy (cr_setOfT hcalm hu) hg2 hm2 rfl (pa_cons he pa_nil s1) (by decide) (by decide) s1 n1) pa_nil s2) (by decide) (by decide) s2 n2).imp fun σ H Q => by
    rintro ⟨W, ρ, st, d, st', re, k, e, q⟩
    obtain ⟨⟨x, st1⟩, e1, e⟩ := bindP e
    cases e2 : F.sortSet st1 x with
    | none => simp only [e2] at e; cases e
    | some z =>
      simp only [e2] at e; cases e
      refine ⟨W, ρ, st, x, _, re, k, e1, fun W1 v H1 l1 k1 r1 => ?_⟩
      unfold F.sortSet at e2
      obtain ⟨xs, e3, e2⟩ := bindP e2
      obtain ⟨ns, e4, e2⟩ := bindP e2
      split at e2
      · rename_i h64
        cases e2
        obtain ⟨a, us, rfl, hq, hz, rs⟩ := lstOf_rep k1 r1 e3
        obtain ⟨ks, rfl, hks, hall⟩ := intsL_rep k1 rs e4
        have hl : ks.length < 64 := by rw [← hks] at h64; simpa using h64
        refine ⟨a, ks, rfl, SqL.of hq, fun p hp => SqT.of (hall p hp).1, hl, fun b S hb hs hcov => ?_⟩
        have keepT : ∀ p ∈ S, upd H1 b (SetTO X.prog X.w b S) p.1 = some (.tup (p.2.map V.int)) := fun p hp => by
          have := (hall p (hs p hp)).1
          rw [upd_ne (by rintro e; rw [e] at this; rw [hb] at this; cases this)]
          exact this
        refine ⟨b, S, rfl, upd_same, fun p hp => SqT.of (keepT p hp), fun S' c pm nd hl' pw hc => ?_⟩
        have kS := k1.skip (o := SetTO X.prog X.w b S) hb
        have hS : S'.map (·.2) = sortI ns := by
          refine sortI_eq nd pw fun x => ?_
          rw [(pm.map (·.2)).mem_iff, ← hks]
          constructor
          · intro hx
            obtain ⟨p, hp, rfl⟩ := List.mem_map.mp hx
            exact List.mem_map.mpr ⟨p, hs p hp, rfl⟩
          · intro hx
            obtain ⟨p, hp, rfl⟩ := List.mem_map.mp hx
            exact hcov p hp
        have rr : Reps L W1.T (S'.map fun q => V.ref q.1) ((sortI ns).map F.tupI) := by
          rw [← hS]
          exact reps_refs fun p hp => (hall p (hs p (pm.mem_iff.mp hp))).2
        exact fresh_lst kS rr (by rw [List.length_map, sizeLine_eq]; omega) (fun W' v H' l' => q W' v H' (l1.trans l')) c hc
      · cases e2
end
end Sm
/-! ## SimO -/
/-! Sm, part O: zip, enumerate, values. -/
namespace Sm
open PySem PySem.Spec PyProof.Rows L2

namespace I
def zipF : List D → Option (List D)
  | [.lst xs, .lst ys] => some (zipD xs ys)
  | [.tup xs, .tup ys] => some (zipD xs ys)
  | _ => none
def zip (a : MA) : MI := fun ρ st => (a ρ st).bind fun p => (zipF p.1).map fun xs => (xs, p.2)
def enumF : List D → Option (List D)
  | [.lst xs] => some (enumD xs)
  | _ => none
def enum (a : MA) : MI := fun ρ st => (a ρ st).bind fun p => (enumF p.1).map fun xs => (xs, p.2)
end I
theorem zipD_get {xs ys : List D} {i : Nat} {d : D} (e : (I.zipD xs ys)[i]? = some d) : ∃ x y, xs[i]? = some x ∧ ys[i]? = some y ∧ d = .tup [x, y] := by
  unfold I.zipD at e
  rw [List.getElem?_zipWith] at e
  split at e
  · rename_i x y hx hy
    cases e
    exact ⟨x, y, hx, hy, rfl⟩
  · cases e
theorem zipD_len (xs ys : List D) : (I.zipD xs ys).length = min xs.length ys.length := by unfold I.zipD; simp
section
variable {L : Lb} {X : Cx} {pos : Pos}
theorem src_zipL {W : Wd} {a b : Addr} {vs ws : List V} {ds es : List D} (ha : W.T a = some (.frz (.lst vs))) (hb : W.T b = some (.frz (.lst ws))) (r : Reps L W.T vs ds) (q : Reps L W.T ws es) : Src L W always (Itz X.K a b) (I.zipD ds es) where
  go := fun W' st H i d l k _ e => by
    obtain ⟨x, y, h1, h2, _⟩ := zipD_get e
    obtain ⟨v, h3, _⟩ := r.get h1
    obtain ⟨w, h4, _⟩ := q.get h2
    exact ⟨vs, ws, v, w, SqL.of (k.tag a _ (l _ _ ha)), SqL.of (k.tag b _ (l _ _ hb)), h3, h4⟩
  yld := fun W' st H i d x H' l k _ e y => by
    obtain ⟨T, v, w, rfl, hT, rfl, h1, h2⟩ := y
    obtain ⟨x, y, e1, e2, rfl⟩ := zipD_get e
    have h1 := h1 vs (SqL.of (k.tag a _ (l _ _ ha)))
    have h2 := h2 ws (SqL.of (k.tag b _ (l _ _ hb)))
    obtain ⟨v', h3, r1⟩ := r.get e1
    obtain ⟨w', h4, r2⟩ := q.get e2
    rw [h1] at h3; cases h3
    rw [h2] at h4; cases h4
    have le := k.le_frz (o := .tup [v, w]) hT
    exact ⟨⟨W'.T.put T (.frz (.tup [v, w])), W'.loc⟩, le, k.frz hT, .tup TM.put_same (show 2 ≤ sizeLine by decide) (.cons (r1.mono (l.trans le).leR) (.cons (r2.mono (l.trans le).leR) .nil))⟩
  stop := fun W' st H i l k _ e => ⟨vs, ws, SqL.of (k.tag a _ (l _ _ ha)), SqL.of (k.tag b _ (l _ _ hb)), by rw [r.length, q.length]; rw [zipD_len] at e; omega⟩
theorem src_zipT {W : Wd} {a b : Addr} {vs ws : List V} {ds es : List D} (ha : W.T a = some (.frz (.tup vs))) (hb : W.T b = some (.frz (.tup ws))) (r : Reps L W.T vs ds) (q : Reps L W.T ws es) : Src L W always (RZ.ItzT X.K a b) (I.zipD ds es) where
  go := fun W' st H i d l k _ e => by
    obtain ⟨x, y, h1, h2, _⟩ := zipD_get e
    obtain ⟨v, h3, _⟩ := r.get h1
    obtain ⟨w, h4, _⟩ := q.get h2
    exact ⟨vs, ws, v, w, SqT.of (k.tag a _ (l _ _ ha)), SqT.of (k.tag b _ (l _ _ hb)), h3, h4⟩
  yld := fun W' st H i d x H' l k _ e y => by
    obtain ⟨T, v, w, rfl, hT, rfl, h1, h2⟩ := y
    obtain ⟨x, y, e1, e2, rfl⟩ := zipD_get e
    have h1 := h1 vs (SqT.of (k.tag a _ (l _ _ ha)))
    have h2 := h2 ws (SqT.of (k.tag b _ (l _ _ hb)))
    obtain ⟨v', h3, r1⟩ := r.get e1
    obtain ⟨w', h4, r2⟩ := q.get e2
    rw [h1] at h3; cases h3
    rw [h2] at h4; cases h4
    have le := k.le_frz (o := .tup [v, w]) hT
    exact ⟨⟨W'.T.put T (.frz (.tup [v, w])), W'.loc⟩, le, k.frz hT, .tup TM.put_same (show 2 ≤ sizeLine by decide) (.cons (r1.mono (l.trans le).leR) (.cons (r2.mono (l.trans le).leR) .nil))⟩
  stop := fun W' st H i l k _ e => ⟨vs, ws, SqT.of (k.tag a _ (l _ _ ha)), SqT.of (k.tag b _ (l _ _ hb)), by rw [r.length, q.length]; rw [zipD_len] at e; omega⟩
theorem si_zip {e e2 : Expr} {ma : MA} {p tpos : Pos} {elts : List Expr} {kk : Nat} (hg : Gl X "zip") (hm : X.mg "zip" = none) (ha : PA X [e, e2] (tA L ma))
    (hs : starEach [e, e2] X.env = (false, eval e X.env) :: starEach [e2] X.env := by rfl) (hpl : (backTo pos (starEach [e2] X.env)).any (·.1) = false := by rfl) :
    PI X (.Tuple elts kk tpos) (.Call (.Name "zip" p) [e, e2] [] pos) (tI L (I.zip ma)) :=
  (RZ.pi_zipA hg hm ha hs hpl).imp fun σ H R => by
    rintro ⟨W, ρ, st, xs, st', re, k, e, q⟩
    obtain ⟨⟨ds, st1⟩, e1, e⟩ := bindP e
    cases e2 : I.zipF ds with
    | none => simp only [e2] at e; cases e
    | some z =>
      simp only [e2] at e; cases e
      refine ⟨W, ρ, st, _, _, re, k, e1, fun W1 vs H1 l1 k1 r1 => ?_⟩
      unfold I.zipF at e2
      split at e2
      · cases e2
        obtain ⟨v, w, rfl, q1, q2⟩ := reps_two r1
        cases q1 with
        | @lst a us _ h1 z1 q1 =>
          cases q2 with
          | @lst b ws _ h2 z2 q2 =>
            exact ⟨a, b, us, ws, rfl, .inl ⟨SqL.of (k1.tag a _ h1), SqL.of (k1.tag b _ h2), q W1 _ H1 l1 k1 (src_zipL h1 h2 q1 q2) (by rw [zipD_len, ← q1.length]; omega)⟩⟩
      · cases e2
        obtain ⟨v, w, rfl, q1, q2⟩ := reps_two r1
        cases q1 with
        | @tup a us _ h1 z1 q1 =>
          cases q2 with
          | @tup b ws _ h2 z2 q2 =>
            exact ⟨a, b, us, ws, rfl, .inr ⟨SqT.of (k1.tag a _ h1), SqT.of (k1.tag b _ h2), q W1 _ H1 l1 k1 (src_zipT h1 h2 q1 q2) (by rw [zipD_len, ← q1.length]; omega)⟩⟩
      · cases e2
end
end Sm
/-! ## SimP -/
/-! Sm, part P: names of the top, the script, the end. -/
namespace Sm
open PySem PySem.Spec PyProof.Rows L2

theorem ru {A : Around} {k n : Nat} (hr : Room k A) (h : n ≤ 200 := by decide) : A.units + n < cLine := by have := hr.un; omega
theorem Cal.mono {P : Program} {w : World} {K : PySem.W.Frag} {mg : Str → Option Value} {base : Heap} {L : Lb} {x : Str} {ps : List Str} {j k : Nat} {F : Fn} (C : Cal P w K mg base L x ps j F) (h : j ≤ k) : Cal P w K mg base L x ps k F := by
  obtain ⟨f, fd, G, r⟩ := C.ex
  exact ⟨f, fd, G.mono h, r⟩
namespace I
def allF : D → Option (List D)
  | .tup xs => some xs
  | .lst xs => some xs
  | .dct _ kvs => some (kvs.map (·.1))
  | _ => none
def all (a : ME) : MI := fun ρ st => (a ρ st).bind fun p => (allF p.1).map fun xs => (xs, p.2)
end I
section
variable {L : Lb} {X : Cx} {pos : Pos}
theorem se_own {x : Str} {c : String} (hg : Gl X x) (hm : X.mg x = some (.ref (L.cl c))) (hd : (x == ("__debug__" : Str)) = false := by decide) : PE X (.Name x pos) (tE L (E.c (.own c))) :=
  se_c (pe_glob hg hm (v := .ref (L.cl c)) rfl hd) fun _ => .own c
theorem se_ty {x : Str} {T : String} (hg : Gl X x) (hm : X.mg x = none) (hv : bootBuiltins x = some (.type T)) (hn : x ≠ "__name__" := by decide) (hd : (x == ("__debug__" : Str)) = false := by decide) : PE X (.Name x pos) (tE L (E.c (.cls T))) :=
  se_c (pe_bltn hg hm hv (v := .ty T) rfl hn hd) fun _ => .cls T
theorem se_gi {x : Str} {i : Int} (hg : Gl X x) (h : ∃ t, X.mg x = some (.int i t)) (hd : (x == ("__debug__" : Str)) = false := by decide) : PE X (.Name x pos) (tE L (E.c (.int i))) := by
  obtain ⟨t, hm⟩ := h
  exact se_c (pe_glob hg hm (v := .int i) ⟨t, rfl⟩ hd) fun _ => .int i
theorem sts_one {c : Expr} {m : MT} (h : PT X c (tT L m)) : PTs X [c] (tT L m) := pts_one h
/-! ### the script -/
def LitL (K : PySem.W.Frag) (a : Addr) (ns : List Int) : Prop := ∃ (o : Obj) (its : Array Value) (n : Nat), K.lookup a = some o ∧ o.cls = .type "list" ∧ o.dict = none ∧ o.data = .seq its n ∧ its.size ≤ sizeLine ∧ Vals (ns.map V.int) its.toList
namespace F
def scr : D → Option (List Int)
  | .scr ns => some ns
  | _ => none
end F
namespace E
/-- script[:k] -/
def scr (k : Int) (m : ME) : ME := fun ρ st => (m ρ st).bind fun p => (F.scr p.1).bind fun ns => if ns.length ≤ big then some (.lst (F.cut (ns.map .int) none (some k)), p.2) else none
end E
theorem reps_ints {T : TM} : ∀ ns : List Int, Reps L T (ns.map V.int) (ns.map D.int)
  | [] => .nil
  | n :: ns => .cons (.int n) (reps_ints ns)
theorem scr_seq {K : PySem.W.Frag} (hk : ∀ a ns, L.kl a ns → LitL K a ns) {W : Wd} {st : Store} {H : Hp} (k : Ok L W st H) {v : V} {ns : List Int} (r : Rep L W.T v (.scr ns)) : ∃ a, v = .ref a ∧ SqL K H a (ns.map V.int) := by
  cases r with
  | scr h =>
    rcases h with ⟨o, h⟩ | h
    · exact ⟨_, rfl, .inl (.inr ⟨o, k.tag _ _ h⟩)⟩
    · exact ⟨_, rfl, .inr (hk _ _ h)⟩
theorem se_scr {e : Expr} {m : ME} {j : Nat} {i : Int} {p1 p2 : Pos} (hk : ∀ a ns, L.kl a ns → LitL X.K a ns) (he : PE X e (tE L m)) : PE X (.Subscript e (.Slice none (some (.Constant (.int i) j p1)) none p2) pos) (tE L (E.scr i m)) :=
  (pe_slice sl_list he po_none (po_some pe_int)).imp fun σ H Q => by
    rintro ⟨W, ρ, st, d, st', re, k, e, q⟩
    unfold E.scr at e
    obtain ⟨⟨x, st1⟩, e1, e⟩ := bindP e
    obtain ⟨ns, e2, e⟩ := bindP e
    split at e
    · rename_i hb
      cases e
      refine ⟨W, ρ, st, x, _, re, k, e1, fun W1 v H1 l1 k1 r1 => ?_⟩
      cases x with
      | scr ms =>
        cases e2
        obtain ⟨a, rfl, hs⟩ := scr_seq hk k1 r1
        have z := big_line
        exact ⟨i, rfl, a, _, rfl, hs, fresh_lst k1 (reps_cut (reps_ints ns) none (some i)) (Nat.le_trans (cutV_length _ _ _) (by simp; omega)) fun W' v H' l' => q W' v H' (l1.trans l')⟩
      | _ => cases e2
    · cases e

/-! ### what is walked: a list's, a tuple's items, a dict's keys -/
theorem si_all {tg e : Expr} {m : ME} (he : PE X e (tE L m)) : PI X tg e (tI L (I.all m)) :=
  (PI.or (si_seq he) (si_keys he)).imp fun σ H R => by
    rintro ⟨W, ρ, st, xs, st', re, k, e, q⟩
    obtain ⟨⟨d, st1⟩, e1, e⟩ := bindP e
    cases d with
    | lst ys => cases e; exact .inl ⟨W, ρ, st, _, _, re, k, by simp [I.seq, e1, I.seqF], q⟩
    | tup ys => cases e; exact .inl ⟨W, ρ, st, _, _, re, k, by simp [I.seq, e1, I.seqF], q⟩
    | dct t ys => cases e; exact .inr ⟨W, ρ, st, _, _, re, k, by simp [I.keys, e1, I.keysF], q⟩
    | _ => cases e
/-! ### the end -/
/-- what the law's def promises: a script in, True out -/
def spScr (K : PySem.W.Frag) : Sp := fun vs H Q _ => ∃ (a : Addr) (ns : List Int), vs = [.ref a] ∧ Only H ∧ SqL K H a (ns.map V.int) ∧ ns.length ≤ 63 ∧ (∀ z ∈ ns, Builtin.Int.intBits z ≤ 1048576) ∧ ∀ H', Q (.bl true) H'
theorem spScr_imp {K : PySem.W.Frag} {F : Fn} (hk : L.kl = LitL K) (hF : ∀ ns : List Int, ns.length ≤ 63 → (∀ z ∈ ns, Builtin.Int.intBits z ≤ 1048576) → ∃ st', F [.scr ns] [] = some (.bl true, st')) {vs : List V} {H : Hp} {Q : VK} {E : XK} (h : spScr K vs H Q E) : spF L 1 F vs H Q E := by
  obtain ⟨a, ns, rfl, hO, hS, h63, hb, q⟩ := h
  obtain ⟨st', e⟩ := hF ns h63 hb
  refine ⟨rfl, ?_⟩
  have fin : ∀ (W' : Wd) (v : V) (H' : Hp), Rep L W'.T v (.bl true) → Q v H' := fun W' v H' r => by cases r; exact q H'
  rcases hS with hS | hS
  · rcases hO a with z | ⟨o, xs, z⟩
    · rcases hS with hS | ⟨o, hS⟩ <;> (rw [z] at hS; cases hS)
    · have hx : xs = ns.map V.int := by
        rcases hS with hS | ⟨o', hS⟩ <;> (rw [z] at hS; cases hS)
        rfl
      subst hx
      let T : TM := fun b => if b = a then some (.frz (.frz o (.lst (ns.map V.int)))) else none
      refine ⟨⟨T, fun _ => a⟩, [], _, _, st', ⟨fun b t eb => ?_, fun n hn => by simp at hn⟩, .cons (.scr (.inl ⟨o, if_pos rfl⟩)) .nil, e, fun W' v H' _ _ r => fin W' v H' r⟩
      by_cases hab : b = a
      · subst hab
        rw [show (⟨T, fun _ => b⟩ : Wd).T b = some (.frz (.frz o (.lst (ns.map V.int)))) from if_pos rfl] at eb
        cases eb
        exact z
      · rw [show (⟨T, fun _ => a⟩ : Wd).T b = none from if_neg hab] at eb; cases eb
  · exact ⟨⟨fun _ => none, fun _ => a⟩, [], _, _, st', ⟨fun b t eb => (by cases eb), fun n hn => (by simp at hn)⟩, .cons (.scr (.inr (by rw [hk]; exact hS))) .nil, e, fun W' v H' _ _ r => fin W' v H' r⟩
end
section
variable {L : Lb}
theorem walk_Sm {l : PySem.W.OpenLaw} {q : Program} {loose : List Str} {XP : (Str → Option Value) → Heap → Prop} {YP : World → Heap → Prop} {d : DefRec} {K : Params → PySem.W.Frag} {k : Nat} (hn : l.most = some 63) (hdf : d.params.defaults = []) (hr : Room k callerA)
    (hY : ∀ (w : World) (h : Heap), YP w h → (K w.params).In h)
    (F : ∀ (w : World) (mg : Str → Option Value) (fa : Addr) (h : Heap), (K w.params).In h → h.Ns mainGlobals mg → mg d.name = some (.ref fa) →
      ∃ fd : FuncData, (∀ (s : Shared) (u : Value), BindsTo s fd ⟨[u], []⟩ [("script", u)]) ∧ ∀ base : Heap, (K w.params).In base → base.Ns mainGlobals mg → FnOk l.prog w (K w.params) mg base CX0 k fa fd ["script"] (spScr (K w.params))) :
    PySem.W.WalkO q loose XP YP l.row.toRowW d [] (fun f vs => PySem.call f vs) :=
  L2.walk_ofB (n := 63) (k := k) (x := "script") (CX := fun _ => CX0) (sp := fun w => spScr (K w.params)) hn (by decide) hdf hr hY F (fun w H a ns hl hb hO hS => ⟨a, ns, rfl, hO, hS, hl, hb, fun _ => rfl⟩) fun _ _ _ _ _ z => z
end
end Sm
/-! ## SimQ -/
/-! Sm, part Q: list(range(..)), tuple(range(..)); sorted(set(xs)), len(set(xs)) of a tuple of numbers. -/
namespace Sm
open PySem PySem.Spec PyProof.Rows L2
open PySem.W (EachIs)

namespace F
def rgD (a b : Int) : List D := (List.range (b - a).toNat).map fun i => D.int (a + (i : Nat))
def rgOk (a b : Int) : Bool := decide (-(2 ^ 62) ≤ a) && decide (a < 2 ^ 62) && decide (-(2 ^ 62) ≤ b) && decide (b < 2 ^ 62) && decide ((b - a).toNat ≤ 2 ^ 24)
def listRg1 (_ : Store) : D → Option D
  | .int n => if rgOk 0 n then some (.lst (rgD 0 n)) else none
  | _ => none
def tupRg1 (_ : Store) : D → Option D
  | .int n => if rgOk 0 n then some (.tup (rgD 0 n)) else none
  | _ => none
def listRg2 (_ : Store) : D → D → Option D
  | .int a, .int b => if rgOk a b then some (.lst (rgD a b)) else none
  | _, _ => none
def tupRg2 (_ : Store) : D → D → Option D
  | .int a, .int b => if rgOk a b then some (.tup (rgD a b)) else none
  | _, _ => none
/-- a list by value is laid into the store -/
def laid (st : Store) : D → Option (D × Store)
  | .lst xs => some (.ref st.length, st ++ [.lst xs])
  | _ => none
end F
theorem rgOk_of {a b : Int} (h : F.rgOk a b = true) : RgOk a b := by
  simp only [F.rgOk, Bool.and_eq_true, decide_eq_true_eq] at h
  exact ⟨h.1.1.1.1, h.1.1.1.2, h.1.1.2, h.1.2, h.2⟩
theorem reps_rg {T : TM} {L : Lb} {a b : Int} : Reps L T (rgV a b) (F.rgD a b) := by
  unfold rgV F.rgD
  generalize List.range (b - a).toNat = l
  induction l with
  | nil => exact .nil
  | cons x l ih => exact .cons (.int _) ih
namespace E
def opB (f : Store → D → Option D) (a : ME) : ME := fun ρ st => (a ρ st).bind fun p => (f p.2 p.1).bind fun d => F.laid p.2 d
def op2B (f : Store → D → D → Option D) (a b : ME) : ME := fun ρ st => (a ρ st).bind fun p => (b ρ p.2).bind fun q => (f q.2 p.1 q.1).bind fun d => F.laid q.2 d
end E
section
variable {X : Cx} {L : Lb} {pos p p2 pos2 : Pos} {a b : Expr} {ma mb : ME}
theorem rgV_le {a b : Int} (h : RgOk a b) : (rgV a b).length ≤ sizeLine := by
  rw [rgV_length, sizeLine_eq]; have := h.2.2.2.2; omega
theorem se_listRg1 (hc : X.calm = true) (hg : Gl X "list") (hm : X.mg "list" = none) (hg2 : Gl X "range") (hm2 : X.mg "range" = none) (ha : PE X a (tE L ma)) (na : starEach [a] X.env = (false, eval a X.env) :: starEach [] X.env := by rfl)
    (nb : starEach [.Call (.Name "range" p2) [a] [] pos] X.env = (false, eval (.Call (.Name "range" p2) [a] [] pos) X.env) :: starEach [] X.env := by rfl) :
    PE X (.Call (.Name "list" p) [.Call (.Name "range" p2) [a] [] pos] [] pos2) (tE L (E.op1 F.listRg1 ma)) :=
  (pe_listRg hc hg hm (prg_1 hg2 hm2 ha na) nb).imp fun σ H Q => by
    rintro ⟨W, ρ, st, d, st', re, k, e, q⟩
    obtain ⟨⟨x, st1⟩, e1, e⟩ := bindP e
    cases x with
    | int n =>
      simp only [F.listRg1] at e
      by_cases h : F.rgOk 0 n = true
      · simp only [h, if_true] at e
        cases e
        refine ⟨W, ρ, st, .int n, _, re, k, e1, fun W1 v H1 l1 k1 r1 => ?_⟩
        cases r1
        exact ⟨n, rfl, rgOk_of h, fresh_lst k1 reps_rg (rgV_le (rgOk_of h)) fun W' v H' l' => q W' v H' (l1.trans l')⟩
      · simp only [h] at e; cases e
    | _ => cases e
theorem se_tupRg1 (hc : X.calm = true) (hg : Gl X "tuple") (hm : X.mg "tuple" = none) (hg2 : Gl X "range") (hm2 : X.mg "range" = none) (ha : PE X a (tE L ma)) (na : starEach [a] X.env = (false, eval a X.env) :: starEach [] X.env := by rfl)
    (nb : starEach [.Call (.Name "range" p2) [a] [] pos] X.env = (false, eval (.Call (.Name "range" p2) [a] [] pos) X.env) :: starEach [] X.env := by rfl) :
    PE X (.Call (.Name "tuple" p) [.Call (.Name "range" p2) [a] [] pos] [] pos2) (tE L (E.op1 F.tupRg1 ma)) :=
  (pe_tupRg hc hg hm (prg_1 hg2 hm2 ha na) nb).imp fun σ H Q => by
    rintro ⟨W, ρ, st, d, st', re, k, e, q⟩
    obtain ⟨⟨x, st1⟩, e1, e⟩ := bindP e
    cases x with
    | int n =>
      simp only [F.tupRg1] at e
      by_cases h : F.rgOk 0 n = true
      · simp only [h, if_true] at e
        cases e
        refine ⟨W, ρ, st, .int n, _, re, k, e1, fun W1 v H1 l1 k1 r1 => ?_⟩
        cases r1
        exact ⟨n, rfl, rgOk_of h, fresh_tup k1 reps_rg (rgV_le (rgOk_of h)) fun W' v H' l' => q W' v H' (l1.trans l')⟩
      · simp only [h] at e; cases e
    | _ => cases e
theorem se_listRg1B (hc : X.calm = true) (hg : Gl X "list") (hm : X.mg "list" = none) (hg2 : Gl X "range") (hm2 : X.mg "range" = none) (ha : PE X a (tE L ma)) (na : starEach [a] X.env = (false, eval a X.env) :: starEach [] X.env := by rfl)
    (nb : starEach [.Call (.Name "range" p2) [a] [] pos] X.env = (false, eval (.Call (.Name "range" p2) [a] [] pos) X.env) :: starEach [] X.env := by rfl) :
    PE X (.Call (.Name "list" p) [.Call (.Name "range" p2) [a] [] pos] [] pos2) (tE L (E.opB F.listRg1 ma)) :=
  (pe_listRg hc hg hm (prg_1 hg2 hm2 ha na) nb).imp fun σ H Q => by
    rintro ⟨W, ρ, st, d, st', re, k, e, q⟩
    obtain ⟨⟨x, st1⟩, e1, e⟩ := bindP e
    cases x with
    | int n =>
      simp only [F.listRg1] at e
      by_cases h : F.rgOk 0 n = true
      · simp only [h, if_true] at e
        cases e
        refine ⟨W, ρ, st, .int n, _, re, k, e1, fun W1 v H1 l1 k1 r1 => ?_⟩
        cases r1
        exact ⟨n, rfl, rgOk_of h, fresh_box k1 reps_rg (rgV_le (rgOk_of h)) fun W' v H' l' => q W' v H' (l1.trans l')⟩
      · simp only [h] at e; cases e
    | _ => cases e
theorem se_listRg2 (hc : X.calm = true) (hg : Gl X "list") (hm : X.mg "list" = none) (hg2 : Gl X "range") (hm2 : X.mg "range" = none) (ha : PE X a (tE L ma)) (hb : PE X b (tE L mb)) (na : starEach [a, b] X.env = (false, eval a X.env) :: starEach [b] X.env := by rfl) (na2 : starEach [b] X.env = (false, eval b X.env) :: starEach [] X.env := by rfl)
    (nb : starEach [.Call (.Name "range" p2) [a, b] [] pos] X.env = (false, eval (.Call (.Name "range" p2) [a, b] [] pos) X.env) :: starEach [] X.env := by rfl) (hp : (backTo pos (starEach [b] X.env)).any (·.1) = false := by rfl) :
    PE X (.Call (.Name "list" p) [.Call (.Name "range" p2) [a, b] [] pos] [] pos2) (tE L (E.op2 F.listRg2 ma mb)) :=
  (pe_listRg hc hg hm (prg_2 hg2 hm2 ha hb na na2 hp) nb).imp fun σ H Q => by
    rintro ⟨W, ρ, st, d, st', re, k, e, q⟩
    obtain ⟨⟨x, st1⟩, e1, e⟩ := bindP e
    obtain ⟨⟨y, st2⟩, e2, e⟩ := bindP e
    refine ⟨W, ρ, st, x, st1, re, k, e1, fun W1 v H1 l1 k1 r1 => ⟨W1, ρ, st1, y, st2, re.mono l1.leR, k1, e2, fun W2 u H2 l2 k2 r2 => ?_⟩⟩
    cases x with
    | int n =>
      cases y with
      | int m =>
        simp only [F.listRg2] at e
        by_cases h : F.rgOk n m = true
        · simp only [h, if_true] at e
          cases e
          cases r1
          cases r2
          exact ⟨n, m, rfl, rfl, rgOk_of h, fresh_lst k2 reps_rg (rgV_le (rgOk_of h)) fun W' v H' l' => q W' v H' (l1.trans (l2.trans l'))⟩
        · simp only [h] at e; cases e
      | _ => cases e
    | _ => cases e
theorem se_tupRg2 (hc : X.calm = true) (hg : Gl X "tuple") (hm : X.mg "tuple" = none) (hg2 : Gl X "range") (hm2 : X.mg "range" = none) (ha : PE X a (tE L ma)) (hb : PE X b (tE L mb)) (na : starEach [a, b] X.env = (false, eval a X.env) :: starEach [b] X.env := by rfl) (na2 : starEach [b] X.env = (false, eval b X.env) :: starEach [] X.env := by rfl)
    (nb : starEach [.Call (.Name "range" p2) [a, b] [] pos] X.env = (false, eval (.Call (.Name "range" p2) [a, b] [] pos) X.env) :: starEach [] X.env := by rfl) (hp : (backTo pos (starEach [b] X.env)).any (·.1) = false := by rfl) :
    PE X (.Call (.Name "tuple" p) [.Call (.Name "range" p2) [a, b] [] pos] [] pos2) (tE L (E.op2 F.tupRg2 ma mb)) :=
  (pe_tupRg hc hg hm (prg_2 hg2 hm2 ha hb na na2 hp) nb).imp fun σ H Q => by
    rintro ⟨W, ρ, st, d, st', re, k, e, q⟩
    obtain ⟨⟨x, st1⟩, e1, e⟩ := bindP e
    obtain ⟨⟨y, st2⟩, e2, e⟩ := bindP e
    refine ⟨W, ρ, st, x, st1, re, k, e1, fun W1 v H1 l1 k1 r1 => ⟨W1, ρ, st1, y, st2, re.mono l1.leR, k1, e2, fun W2 u H2 l2 k2 r2 => ?_⟩⟩
    cases x with
    | int n =>
      cases y with
      | int m =>
        simp only [F.tupRg2] at e
        by_cases h : F.rgOk n m = true
        · simp only [h, if_true] at e
          cases e
          cases r1
          cases r2
          exact ⟨n, m, rfl, rfl, rgOk_of h, fresh_tup k2 reps_rg (rgV_le (rgOk_of h)) fun W' v H' l' => q W' v H' (l1.trans (l2.trans l'))⟩
        · simp only [h] at e; cases e
      | _ => cases e
    | _ => cases e
theorem se_listRg2B (hc : X.calm = true) (hg : Gl X "list") (hm : X.mg "list" = none) (hg2 : Gl X "range") (hm2 : X.mg "range" = none) (ha : PE X a (tE L ma)) (hb : PE X b (tE L mb)) (na : starEach [a, b] X.env = (false, eval a X.env) :: starEach [b] X.env := by rfl) (na2 : starEach [b] X.env = (false, eval b X.env) :: starEach [] X.env := by rfl)
    (nb : starEach [.Call (.Name "range" p2) [a, b] [] pos] X.env = (false, eval (.Call (.Name "range" p2) [a, b] [] pos) X.env) :: starEach [] X.env := by rfl) (hp : (backTo pos (starEach [b] X.env)).any (·.1) = false := by rfl) :
    PE X (.Call (.Name "list" p) [.Call (.Name "range" p2) [a, b] [] pos] [] pos2) (tE L (E.op2B F.listRg2 ma mb)) :=
  (pe_listRg hc hg hm (prg_2 hg2 hm2 ha hb na na2 hp) nb).imp fun σ H Q => by
    rintro ⟨W, ρ, st, d, st', re, k, e, q⟩
    obtain ⟨⟨x, st1⟩, e1, e⟩ := bindP e
    obtain ⟨⟨y, st2⟩, e2, e⟩ := bindP e
    refine ⟨W, ρ, st, x, st1, re, k, e1, fun W1 v H1 l1 k1 r1 => ⟨W1, ρ, st1, y, st2, re.mono l1.leR, k1, e2, fun W2 u H2 l2 k2 r2 => ?_⟩⟩
    cases x with
    | int n =>
      cases y with
      | int m =>
        simp only [F.listRg2] at e
        by_cases h : F.rgOk n m = true
        · simp only [h, if_true] at e
          cases e
          cases r1
          cases r2
          exact ⟨n, m, rfl, rfl, rgOk_of h, fresh_box k2 reps_rg (rgV_le (rgOk_of h)) fun W' v H' l' => q W' v H' (l1.trans (l2.trans l'))⟩
        · simp only [h] at e; cases e
      | _ => cases e
    | _ => cases e
end
/-! ### set(t) of a tuple of numbers -/
section
variable {X : Cx} {L : Lb} {pos : Pos}
def leZ (a b : Int) : Bool := decide (a ≤ b)
def sortZ (ns : List Int) : List Int := (once ns).mergeSort leZ
theorem sortZ_eq {ns ms : List Int} (hs : ms.Pairwise (· < ·)) (hm : ∀ x, x ∈ ms ↔ x ∈ ns) : ms = sortZ ns := by
  have nd : ms.Nodup := hs.imp fun h => by omega
  have p : ms.Perm (sortZ ns) := by
    refine ((List.perm_ext_iff_of_nodup nd ((List.mergeSort_perm _ _).nodup_iff.mpr (nodup_once ns))).mpr fun x => ?_)
    rw [(List.mergeSort_perm _ _).mem_iff, mem_once]
    exact hm x
  refine p.eq_of_pairwise (le := fun a b => leZ a b = true) (fun a b _ _ h h' => ?_) (hs.imp fun h => ?_) (List.pairwise_mergeSort (fun a b c h h' => ?_) (fun a b => ?_) _)
  · simp only [leZ, decide_eq_true_eq] at *; omega
  · simp only [leZ, decide_eq_true_eq] at *; omega
  · simp only [leZ, decide_eq_true_eq] at *; omega
  · simp only [leZ, Bool.or_eq_true, decide_eq_true_eq]; omega
def rSetZ (K : PySem.W.Frag) (w : World) : List V → Hp → VK → Prop := fun vs H Q => ∃ (a : Addr) (ns : List Int), vs = [V.ref a] ∧ SqT K H a (ns.map V.int) ∧ ns.length + 1 < scanBound ∧
  ∀ p c, H p = none → c = (once ns).length → Q (.ref p) (upd H p (SetO w p (fun j => decide (j ∈ ns)) c))
theorem nodup_len {α : Type} [DecidableEq α] {l ns : List α} (hn : l.Nodup) (hm : ∀ x, x ∈ l ↔ x ∈ ns) : l.length = (once ns).length :=
  ((List.perm_ext_iff_of_nodup hn (nodup_once ns)).mpr fun x => by rw [mem_once]; exact hm x).length_eq
theorem cr_setZ (hc : X.calm = true) : CallR X (.type "set") (rSetZ X.K X.w) := by
  intro pins s σ H vs us Q I r h
  obtain ⟨a, ns, rfl, hs, hb, q⟩ := h
  rw [Vals.ref1 r]
  obtain ⟨its, rv, pl, hz⟩ := I.tuple hs
  refine call_set_tupI ns (I.ok.hd hc) pl (by simpa using RZ.intsAre_vals rv) hb fun h' tk c R hcl k => ?_
  have hlen : c = (once ns).length := by
    obtain ⟨o, es, ep, t, _, _, _, _, nd, hm, _, _, hn, _⟩ := id R
    rw [← hn, ← nodup_len nd fun x => ((hm x).symm.trans decide_eq_true_iff), List.length_map, Array.length_toList]
  refine ⟨.ref s.heap.objs.size, upd H s.heap.objs.size (SetO X.w s.heap.objs.size (fun j => decide (j ∈ ns)) c), I.laid (t' := tk) k (Nat.le_refl _) (setO_new R), rfl, q _ _ (I.hok.fresh (Nat.le_refl _)) hlen⟩
namespace F
def intsOf : D → Option (List Int)
  | .tup xs => intL xs
  | _ => none
/-- sorted(set(t)) -/
def sortSetZ (_ : Store) (d : D) : Option D := (intsOf d).bind fun ns => if ns.length < 64 then some (.lst ((sortZ ns).map .int)) else none
/-- len(set(t)) -/
def lenSetZ (_ : Store) (d : D) : Option D := (intsOf d).bind fun ns => if ns.length < 4000 then some (.int (once ns).length) else none
end F
theorem once_le {α : Type} [DecidableEq α] : ∀ ns : List α, (once ns).length ≤ ns.length
  | [] => Nat.le_refl _
  | x :: r => by
    unfold once
    have := once_le r
    split
    · exact Nat.le_succ_of_le this
    · exact Nat.succ_le_succ this
theorem intsOf_rep {W : Wd} {st : Store} {H : Hp} {K : PySem.W.Frag} {v : V} {d : D} {ns : List Int} (k : Ok L W st H) (r : Rep L W.T v d) (e : F.intsOf d = some ns) : ∃ a, v = .ref a ∧ SqT K H a (ns.map V.int) := by
  cases d with
  | tup xs =>
    cases r with
    | @tup a vs _ h1 l1 r1 =>
      have z := ints_rep e r1
      subst z
      exact ⟨a, rfl, SqT.of (k.tag _ _ h1)⟩
  | _ => cases e
theorem se_sortSetZ {e : Expr} {m : ME} {p p2 p3 : Pos} (hcalm : X.calm = true) (hg : Gl X "sorted") (hm : X.mg "sorted" = none) (hg2 : Gl X "set") (hm2 : X.mg "set" = none) (he : PE X e (tE L m))
    (s1 : starEach [e] X.env = (false, eval e X.env) :: starEach [] X.env := by rfl) (s2 : starEach [.Call (.Name "set" p2) [e] [] p3] X.env = (false, eval (.Call (.Name "set" p2) [e] [] p3) X.env) :: starEach [] X.env := by rfl)
    (n1 : (backTo p3 (starEach [] X.env)).any (·.1) = false := by rfl) (n2 : (backTo pos (starEach [] X.env)).any (·.1) = false := by rfl) :
    PE X (.Call (.Name "sorted" p) [.Call (.Name "set" p2) [e] [] p3] [] pos) (tE L (E.op1 F.sortSetZ m)) :=
  (pe_callB (cr_sortedSet hcalm) hg hm rfl (pa_cons (pe_callTy (cr_setZ hcalm) hg2 hm2 rfl (pa_cons he pa_nil s1) (by decide) (by decide) s1 n1) pa_nil s2) (by decide) (by decide) s2 n2).imp fun σ H Q => by
    rintro ⟨W, ρ, st, d, st', re, k, e, q⟩
    obtain ⟨⟨x, st1⟩, e1, e⟩ := bindP e
    cases e2 : F.sortSetZ st1 x with
    | none => simp only [e2] at e; cases e
    | some z =>
      simp only [e2] at e; cases e
      refine ⟨W, ρ, st, x, _, re, k, e1, fun W1 v H1 l1 k1 r1 => ?_⟩
      unfold F.sortSetZ at e2
      obtain ⟨ns, e3, e2⟩ := bindP e2
      split at e2
      · rename_i h64
        cases e2
        obtain ⟨a, rfl, hs⟩ := intsOf_rep (K := X.K) k1 r1 e3
        have h1 := once_le ns
        refine ⟨a, ns, rfl, hs, by unfold scanBound; omega, fun b c hb hc => ?_⟩
        refine ⟨b, _, c, rfl, upd_same, by omega, fun ms p pw hmem hl hp => ?_⟩
        have kS := k1.skip (o := SetO X.w b (fun j => decide (j ∈ ns)) c) hb
        have hS : ms = sortZ ns := sortZ_eq pw fun x => (hmem x).trans decide_eq_true_iff
        have rr : Reps L W1.T (ms.map V.int) ((sortZ ns).map .int) := by
          rw [← hS]
          clear hS hl hmem pw
          induction ms with
          | nil => exact .nil
          | cons i ms ih => exact .cons (.int i) ih
        exact fresh_lst kS rr (by rw [List.length_map, sizeLine_eq]; omega) (fun W' v H' l' => q W' v H' (l1.trans l')) p hp
      · cases e2
end
end Sm
/-! ## SimR -/
/-! Sm, part R: enumerate of lists and of tuples. -/
namespace Sm
open PySem PySem.Spec PyProof.Rows L2
open Sem (wp)
open AutoSeq1 (wpAny_loadPart')

abbrev teH (h : Heap) (l : Addr) : Heap := h.push { cls := .type "tuple_iterator", data := .fields #[.ref l, .int 0 0] }
abbrev teH2 (h : Heap) (l : Addr) : Heap := (teH h l).push { cls := .type "enumerate", data := .fields #[.none, .bool false, .ref h.objs.size, rawInt 0, .none, .none] }
theorem meets_enumT (l : Addr) (items : Array Value) (n : Nat) (dct : Option Addr) (sl : Array (Option Value)) :
    Meets (Builtin.«enumerate.__new__» ⟨[.type "enumerate", .ref l], []⟩) (fun _ R s => s.heap.get? l = some { cls := .type "tuple", dict := dct, data := .seq items n, slots := sl } ∧
      R (.ok (.ret (.ref (teH s.heap l).objs.size))) { s with heap := teH2 s.heap l }) :=
  .of_wp fun prog w A R s h => by
    obtain ⟨hp, g, d, tk, os⟩ := s
    obtain ⟨at_l, h⟩ := h
    have isT : Heap.IsTuple (Shared.heap ⟨hp, g, d, tk, os⟩) l items := ⟨_, at_l, rfl, n, rfl⟩
    have sub_en := sub_enumerate
    wp_walk using wpAny_loadPart' at_l
    refine wpAny_stack_any fun st => wpAny_pure ?_
    split
    · rename_i c _ _ _ _ _
      by_cases hq : (c == Value.type "enumerate") = true
      · rw [hq]
        wp_walk using wpAny_loadPart' at_l, wpAny_pyIter_tuple isT
        exact ⟨_, rfl, h⟩
      · rw [Bool.not_eq_true] at hq
        rw [hq]
        wp_walk using wpAny_loadPart' at_l, wpAny_pyIter_tuple isT
        exact ⟨_, rfl, h⟩
    · wp_walk using wpAny_loadPart' at_l, wpAny_pyIter_tuple isT
      exact ⟨_, rfl, h⟩
section
variable {prog : Program} {w : World} {A : Around} {E : Value → Shared → Prop} {s : Shared}
theorem call_enumT {l : Addr} {items : Array Value} {Q : Value → Shared → Prop} (isT : s.heap.IsTuple l items)
    (k : ∀ g : Heap, IsEnum g (s.heap.objs.size + 1) s.heap.objs.size 0 .none → g.IsTupleIter s.heap.objs.size l 0 → g.objs.size = s.heap.objs.size + 2 →
      (∀ b o, s.heap.get? b = some o → g.get? b = some o) → Q (.ref (s.heap.objs.size + 1)) { s with heap := g }) : wpAny (model prog w) A (call (.type "enumerate") [.ref l]) Q E s := by
  obtain ⟨⟨c, dct, dt, sl⟩, at_l, ec, n, ed⟩ := isT
  simp only at ec ed
  subst ec ed
  refine callType_new F.called_enumerate (by decide) (F.typeCall_enumerate_1 _) (F.newCall_enumerate_1 _) (fun obj => F.args_object_init_2 obj _) F.entry_enumerate_new (meets_enumT l items n dct sl) ⟨at_l, ?_⟩
  have z1 : (teH s.heap l).objs.size = s.heap.objs.size + 1 := Heap.size_push ..
  have z2 : (teH2 s.heap l).objs.size = s.heap.objs.size + 2 := by rw [Heap.size_push, z1]
  have g2 : (teH2 s.heap l).get? (teH s.heap l).objs.size = some _ := Heap.get?_push_size _ rfl
  have g1 : (teH2 s.heap l).get? s.heap.objs.size = some _ := Heap.get?_push_of_some _ (Heap.get?_push_size _ rfl)
  rw [z1] at g2
  show _ ∧ _
  rw [z1]
  exact ⟨⟨_, g2, rfl⟩, k _ g2 ⟨_, g1, rfl, rfl⟩ z2 fun b o x => Heap.get?_push_of_some _ (Heap.get?_push_of_some _ x)⟩
end
theorem drawsT_end {prog : Program} {w : World} {A : Around} {it t : Addr} {items : Array Value} {i : Nat} (hh : A.handled = none) (hx : items[i]? = none) :
    Draws prog w A it [it, t] i (fun _ _ => False) (fun j h => j = i ∧ h.IsTupleIter it t i ∧ h.IsTuple t items) where
  live := fun _ _ st => let ⟨o, ho, _⟩ := st.2.1; ⟨o, ho⟩
  frame := fun _ _ _ st hk => ⟨st.1, st.2.1.at fun o e => hk it (by simp) o e, st.2.2.at fun o e => hk t (by simp) o e⟩
  item := fun j s Q E hi st hQ => absurd st.1 (Nat.ne_of_lt hi)
  done := fun s Q E st hE => wpAny_nextOf_tuple_end hh st.2.1 st.2.2 hx hE
/-- the tuple at a as it stands at each turn, each item in a new pair -/
def IteT (K : PySem.W.Frag) (a : Addr) : It :=
  ⟨fun i H => ∃ (xs : List V) (x : V), SqT K H a xs ∧ xs[i]? = some x, fun i H v H' => ∃ T x, v = .ref T ∧ H T = none ∧ H' = upd H T (.tup [.int (i : Nat), x]) ∧ ∀ xs, SqT K H a xs → xs[i]? = some x, fun i H => ∃ xs : List V, SqT K H a xs ∧ xs.length ≤ i⟩
theorem turn_enumT {P : Program} {w : World} {K : PySem.W.Frag} {elts : List Expr} {kk : Nat} {tpos : Pos} (a e it : Addr) (hai : a ≠ it) (hea : e ≠ a) :
    Turn P w K (.Tuple elts kk tpos) (IteT K a) [e, it] e (fun i h => (∃ old, IsEnum h e it ((i : Nat) : Int) old) ∧ h.IsTupleIter it a i ∧ e ≠ it) where
  mem := List.mem_cons_self
  obj := fun i h st b hb => by
    obtain ⟨⟨old, he⟩, ⟨o, ho, _, hd⟩, _⟩ := st
    have b_is : b = e ∨ b = it := by simpa using hb
    rcases b_is with z | z
    · rw [z]; exact ⟨_, he, fun v q => nomatch q⟩
    · rw [z]; exact ⟨o, ho, fun v q => by rw [hd] at q; cases q⟩
  keep := fun i h h' st k => by
    obtain ⟨⟨old, he⟩, hi, hne⟩ := st
    exact ⟨⟨old, k e (by simp) _ he⟩, hi.at fun o q => k it (by simp) o q, hne⟩
  item := by
    intro X hP hw hK hc i pins s σ H E I hf st hg
    subst hP hw hK
    obtain ⟨⟨old, he⟩, hit, hne⟩ := st
    obtain ⟨xs, x, hq, hx⟩ := hg
    obtain ⟨its, rv, p, hz⟩ := I.tuple hq
    obtain ⟨u, hu, ru⟩ := rv.get hx
    have e_lt : e < s.heap.objs.size := Heap.lt_size he
    have it_lt : it < s.heap.objs.size := by obtain ⟨_, q, _⟩ := hit; exact Heap.lt_size q
    have hlt : i < its.toArray.size := by
      have := (List.getElem?_eq_some_iff.mp hu).1
      simpa using this
    refine wpAny_pyNext_enum_itemD (Draws.tuple (A := X.A.in1) (I.ok.hd hc) it a hai its.toArray) he ⟨hit, p⟩ hlt hne (by simp [hne, hea]) fun u' g tk hu' ho st' hT hsz hk => ?_
    have eu : u' = u := by
      have h1 : its[i]? = some u' := by simpa using hu'
      rw [hu] at h1
      exact (Option.some.inj h1).symm
    subst eu
    refine ⟨_, rfl, wpAny_letOwnedTupleGo_enum (s := { s with heap := g, toks := tk + 1 }) ho fun g2 he' sb => ?_⟩
    have hT2 : g2.get? s.heap.objs.size = some { cls := .type "tuple", data := .seq #[.int i tk, u'] } := (sb.2 _ (Nat.ne_of_gt e_lt)).trans hT
    have new : ObjOk X.prog X.w (upd H s.heap.objs.size (.tup [.int (i : Nat), x])) g2 s.heap.objs.size (.tup [.int (i : Nat), x]) :=
      ⟨by show 2 ≤ sizeLine; decide, [.int i tk, u'], .cons ⟨_, rfl⟩ (.cons ru .nil), ⟨_, hT2, rfl, _, rfl⟩⟩
    have I1 : Inv X pins σ (upd H s.heap.objs.size (.tup [.int (i : Nat), x])) { s with heap := g2, toks := tk + 1 } :=
      I.turnedNew (ch := [e, it]) (fun b ob hb q => (sb.2 b (fun z => hb (by simp [z]))).trans (hk b ob (fun z => hb (by simp [z])) (fun z => hb (by simp [z])) q)) hf (Nat.le_refl _) new
    refine ⟨.ref s.heap.objs.size, _, I1, rfl, ⟨_, x, rfl, I.hok.fresh (Nat.le_refl _), rfl, fun ys hy => by rw [I.tuple_inj hy hq]; exact hx⟩, ⟨⟨u', ?_⟩, st'.1.at fun o q => (sb.2 it (Ne.symm hne)).trans q, hne⟩, fun b hb => ?_⟩
    · rw [Int.natCast_add]; exact he'
    · have b_is : b = e ∨ b = it := by simpa using hb
      have hb' : b < s.heap.objs.size := by
        rcases b_is with z | z <;> rw [z]
        · exact e_lt
        · exact it_lt
      rw [upd_ne (Nat.ne_of_lt hb')]
      exact (hf b hb).1
  done := by
    intro X hP hw hK hc i pins s σ H E I hf st hg
    subst hP hw hK
    obtain ⟨⟨old, he⟩, hit, hne⟩ := st
    obtain ⟨xs, hq, hx⟩ := hg
    obtain ⟨its, rv, p, hz⟩ := I.tuple hq
    obtain ⟨f0, f1, f2, f3, f4, f5⟩ := hf it (by simp)
    have hl := rv.length
    refine wpAny_pyNext_enum_endD (drawsT_end (A := X.A.in1) (items := its.toArray) (I.ok.hd hc) (by simp; omega)) he ⟨rfl, hit, p⟩ fun g eb => ⟨rfl, I.turned (t' := s.toks) (fun b o hb q => eb b o hb q) f0 f1 f3 f4 f5⟩
  self := fun A i s Q E st h => wpAny_pyIter_enum st.1.choose_spec h
def iEnumA (K : PySem.W.Frag) (ta : TA) : TI := fun σ H R => ta σ H fun vs H1 => ∃ a xs, vs = [.ref a] ∧ ((SqL K H1 a xs ∧ R (Ite K a) H1) ∨ (SqT K H1 a xs ∧ R (IteT K a) H1))
theorem pi_enumA {X : Cx} {e : Expr} {ta : TA} {p pos tpos : Pos} {elts : List Expr} {kk : Nat} (hg : Gl X "enumerate") (hm : X.mg "enumerate" = none) (ha : PA X [e] ta) (hs : starEach [e] X.env = [(false, eval e X.env)] := by rfl) :
    PI X (.Tuple elts kk tpos) (.Call (.Name "enumerate" p) [e] [] pos) (iEnumA X.K ta) := by
  refine ⟨fun pins s σ H R I h => ?_⟩
  refine Call_ (ld_blt I hg hm boot_enumerate (PyProof.Rows.callWith_type1 (thn (ha.run pos pins s σ H _ I h) fun us s1 ⟨vs, H1, I1, r1, q1⟩ => ?_) hs rfl))
  obtain ⟨a, xs, rfl, q⟩ := q1
  have e1 := Vals.ref1 r1
  subst e1
  have fp2 : ∀ b, b ∈ [s1.heap.objs.size + 1, s1.heap.objs.size] → FpOk X pins H1 b := fun b hb => by
    have hle : s1.heap.objs.size ≤ b := by
      have b_is : b = s1.heap.objs.size + 1 ∨ b = s1.heap.objs.size := by simpa using hb
      omega
    exact I1.fpOk hle (I1.hok.fresh hle)
  rcases q with ⟨hq, q⟩ | ⟨hq, q⟩
  · obtain ⟨its, rv, pl, hz⟩ := I1.list hq
    refine call_enumerate_list pl.isList fun g he hit hsz hk => wpAny_pyIter_enum he ?_
    exact ⟨s1.heap.objs.size + 1, [s1.heap.objs.size + 1, s1.heap.objs.size], _, _, H1, rfl, I1.kept (t' := s1.toks) hk, turn_enum a (s1.heap.objs.size + 1) s1.heap.objs.size, ⟨⟨.none, he⟩, hit, Nat.succ_ne_self _⟩, fp2, q⟩
  · obtain ⟨its, rv, pl, hz⟩ := I1.tuple hq
    have hlt : a < s1.heap.objs.size := by obtain ⟨o, ho, _⟩ := id pl; exact Heap.lt_size ho
    refine call_enumT pl fun g he hit hsz hk => wpAny_pyIter_enum he ?_
    exact ⟨s1.heap.objs.size + 1, [s1.heap.objs.size + 1, s1.heap.objs.size], _, _, H1, rfl, I1.kept (t' := s1.toks) hk, turn_enumT a (s1.heap.objs.size + 1) s1.heap.objs.size (Nat.ne_of_lt hlt) (Nat.ne_of_gt (Nat.lt_succ_of_lt hlt)), ⟨⟨.none, he⟩, hit, Nat.succ_ne_self _⟩, fp2, q⟩
namespace I
def enA : List D → Option (List D)
  | [.lst xs] => some (enumD xs)
  | [.tup xs] => some (enumD xs)
  | _ => none
def enumA (a : MA) : MI := fun ρ st => (a ρ st).bind fun p => (enA p.1).map fun xs => (xs, p.2)
end I
theorem enumD_get {xs : List D} {i : Nat} {d : D} (e : (I.enumD xs)[i]? = some d) : ∃ x, xs[i]? = some x ∧ d = .tup [.int (i : Nat), x] := by
  unfold I.enumD at e
  rw [List.getElem?_zipWith] at e
  split at e
  · rename_i j x hj hx
    have hji : j = i := by
      obtain ⟨h1, h2⟩ := List.getElem?_eq_some_iff.mp hj
      simpa using h2.symm
    subst hji
    exact ⟨x, hx, (Option.some.inj e).symm⟩
  · cases e
theorem enumD_len (xs : List D) : (I.enumD xs).length = xs.length := by unfold I.enumD; simp
section
variable {L : Lb} {X : Cx} {pos : Pos}
theorem src_enumL {W : Wd} {a : Addr} {vs : List V} {ds : List D} (ha : W.T a = some (.frz (.lst vs))) (r : Reps L W.T vs ds) : Src L W always (Ite X.K a) (I.enumD ds) where
  go := fun W' st H i d l k _ e => by
    obtain ⟨x, h1, _⟩ := enumD_get e
    obtain ⟨v, h3, _⟩ := r.get h1
    exact ⟨vs, v, SqL.of (k.tag a _ (l _ _ ha)), h3⟩
  yld := fun W' st H i d x H' l k _ e y => by
    obtain ⟨T, v, rfl, hT, rfl, h1⟩ := y
    obtain ⟨x, e1, rfl⟩ := enumD_get e
    obtain ⟨v', h3, r1⟩ := r.get e1
    rw [h1 vs (SqL.of (k.tag a _ (l _ _ ha)))] at h3
    cases h3
    have le := k.le_frz (o := .tup [.int (i : Nat), v]) hT
    exact ⟨⟨W'.T.put T (.frz (.tup [.int (i : Nat), v])), W'.loc⟩, le, k.frz hT, .tup TM.put_same (show 2 ≤ sizeLine by decide) (.cons (.int _) (.cons (r1.mono (l.trans le).leR) .nil))⟩
  stop := fun W' st H i l k _ e => ⟨vs, SqL.of (k.tag a _ (l _ _ ha)), by rw [r.length]; rw [enumD_len] at e; omega⟩
theorem src_enumT {W : Wd} {a : Addr} {vs : List V} {ds : List D} (ha : W.T a = some (.frz (.tup vs))) (r : Reps L W.T vs ds) : Src L W always (IteT X.K a) (I.enumD ds) where
  go := fun W' st H i d l k _ e => by
    obtain ⟨x, h1, _⟩ := enumD_get e
    obtain ⟨v, h3, _⟩ := r.get h1
    exact ⟨vs, v, SqT.of (k.tag a _ (l _ _ ha)), h3⟩
  yld := fun W' st H i d x H' l k _ e y => by
    obtain ⟨T, v, rfl, hT, rfl, h1⟩ := y
    obtain ⟨x, e1, rfl⟩ := enumD_get e
    obtain ⟨v', h3, r1⟩ := r.get e1
    rw [h1 vs (SqT.of (k.tag a _ (l _ _ ha)))] at h3
    cases h3
    have le := k.le_frz (o := .tup [.int (i : Nat), v]) hT
    exact ⟨⟨W'.T.put T (.frz (.tup [.int (i : Nat), v])), W'.loc⟩, le, k.frz hT, .tup TM.put_same (show 2 ≤ sizeLine by decide) (.cons (.int _) (.cons (r1.mono (l.trans le).leR) .nil))⟩
  stop := fun W' st H i l k _ e => ⟨vs, SqT.of (k.tag a _ (l _ _ ha)), by rw [r.length]; rw [enumD_len] at e; omega⟩
theorem si_enumA {e : Expr} {ma : MA} {p tpos : Pos} {elts : List Expr} {kk : Nat} (hg : Gl X "enumerate") (hm : X.mg "enumerate" = none) (ha : PA X [e] (tA L ma)) (hs : starEach [e] X.env = [(false, eval e X.env)] := by rfl) :
    PI X (.Tuple elts kk tpos) (.Call (.Name "enumerate" p) [e] [] pos) (tI L (I.enumA ma)) :=
  (pi_enumA hg hm ha hs).imp fun σ H R => by
    rintro ⟨W, ρ, st, xs, st', re, k, e, q⟩
    obtain ⟨⟨ds, st1⟩, e1, e⟩ := bindP e
    cases e2 : I.enA ds with
    | none => simp only [e2] at e; cases e
    | some z =>
      simp only [e2] at e; cases e
      refine ⟨W, ρ, st, _, _, re, k, e1, fun W1 vs H1 l1 k1 r1 => ?_⟩
      unfold I.enA at e2
      split at e2
      · cases e2
        obtain ⟨v, rfl, q1⟩ := reps_one r1
        cases q1 with
        | @lst a us _ h1 z1 q1 =>
          exact ⟨a, us, rfl, .inl ⟨SqL.of (k1.tag a _ h1), q W1 _ H1 l1 k1 (src_enumL h1 q1) (by rw [enumD_len, ← q1.length]; omega)⟩⟩
      · cases e2
        obtain ⟨v, rfl, q1⟩ := reps_one r1
        cases q1 with
        | @tup a us _ h1 z1 q1 =>
          exact ⟨a, us, rfl, .inr ⟨SqT.of (k1.tag a _ h1), q W1 _ H1 l1 k1 (src_enumT h1 q1) (by rw [enumD_len, ← q1.length]; omega)⟩⟩
      · cases e2
end
end Sm
/-! ## SimS -/
/-! Sm, part S: sorted of a dict with tuple keys. -/
namespace Sm
section colls
open PySem PySem.W PySem.Calls PySem.SeqAt PyProof.Rows Srt
variable {prog : Program} {w : World} {A : Around} {E : Value → Shared → Prop} {s : Shared}
/-- what such a source has, collected -/
theorem coll_src {T : String} {r d : Addr} {n : Nat} {P : Nat → Value → Prop} {OK : Heap → Prop} {Q : List Value → Shared → Prop} (K : KdlSrc prog w T r d n P OK) (hh : A.handled = none) (hok : OK s.heap) (hn : n ≤ sizeLine)
    (hQ : ∀ g tk acc, (∀ b o, s.heap.get? b = some o → g.get? b = some o) → s.heap.objs.size < g.objs.size → ItemsOf P acc n → Q acc.toList { s with heap := g, toks := tk }) : wpAny (model prog w) A (collect (.ref r)) Q E s := by
  unfold collect
  refine wpAny_bind (wpAny_runValue (codeAny_builtin (by first | exact entry_proto_collect | exact entry_proto_collect') ?_))
  show wpAny _ _ (do again (.builtin "list.__iadd__" ⟨[← newList [], .ref r], []⟩)) _ _ s
  have hlt := K.there _ hok
  have e2 : (s.heap.push (seqObj "list" #[] 0)).get? s.heap.objs.size = some (seqObj "list" #[] 0) := Heap.get?_push_size _ rfl
  have key : ∀ R : Result → Shared → Prop, (∀ g tk acc c, (∀ b o, s.heap.get? b = some o → g.get? b = some o) → g.get? s.heap.objs.size = some { cls := .type "list", dict := none, data := .seq acc c, slots := #[] } → ItemsOf P acc n → R (.ok (.ret (.ref s.heap.objs.size))) { s with heap := g, toks := tk }) →
      codeAny (model prog w) A (.builtin "list.__iadd__" ⟨[.ref s.heap.objs.size, .ref r], []⟩) R { s with heap := s.heap.push (seqObj "list" #[] 0) } := by
    intro R hR
    refine codeAny_builtin (by first | exact entry_list_iadd | exact entry_list_iadd') ?_
    rw [Around.under_plainId (by decide +kernel) _]
    exact kdl_extend (s := { s with heap := s.heap.push (seqObj "list" #[] 0) }) K hh (K.keep _ _ hok fun b _ o e => Heap.get?_push_of_some _ e) _ (Nat.ne_of_gt hlt.1) (Nat.ne_of_gt hlt.2) _ 0 e2
      (fun g tk acc c kp at_S it => hR g tk acc c (fun b o e => kp b o (Nat.ne_of_lt (Heap.lt_size e)) (Heap.get?_push_of_some _ e)) at_S it) hn
  refine wpAny_bind (wpAny_newList (wpAny_pure ⟨Code.quiet_builtin _ (by decide +kernel), key _ fun g tk acc c kp at_S it => ?_⟩))
  show wpAny (model prog w) A (do
      let o ← load s.heap.objs.size
      match o.data with
        | .seq xs _ => pure xs.toList
        | _ => unsupported "internal:collect") Q E _
  refine wpAny_bind (wpAny_load at_S ?_)
  exact wpAny_pure (hQ g tk acc kp (Heap.lt_size at_S) it)
end colls
open PySem PySem.Spec PyProof.Rows L2
open PySem.W (EachIs)
namespace F
open Classical in
/-- sorted(d), d a dict with tuple keys -/
noncomputable def sortedK (st : Store) : List D → Option D
  | [d] => (dctOf st d).bind fun tk => if tk.1 = true then (if SortOk (tk.2.map (·.1)) then some (.lst ((tk.2.map (·.1)).mergeSort leD)) else none) else none
  | _ => none
end F
section
variable {L : Lb} {X : Cx} {pos : Pos}
theorem dctT_rep {W : Wd} {st : Store} {H : Hp} (k : Ok L W st H) {v : V} {d : D} (r : Rep L W.T v d) {kvs : List (D × D)} (e : F.dctOf st d = some (true, kvs)) :
    ∃ a ws, v = .ref a ∧ Rd H a (.dT ws) ∧ RepT L W.T ws kvs := by
  cases r with
  | @dctT a ob ws _ h1 _ rs => cases e; exact ⟨a, ws, rfl, .inr ⟨ob, k.tag _ _ h1⟩, rs⟩
  | @ref a n h1 =>
    obtain ⟨_, c, hc, ok⟩ := k.tag _ _ h1
    simp only [F.dctOf, hc] at e
    cases c with
    | dct t' ws =>
      cases e
      obtain ⟨vs, h2, _, rs, _⟩ := ok
      exact ⟨a, vs, rfl, .inl h2, rs⟩
    | _ => cases e
  | _ => cases e
theorem seen_keys {st : Store} {H : Hp} : ∀ {ws : List (List Key × V)} {kvs : List (D × D)} {bs : List Addr} {W : Wd}, Ok L W st H → RepT L W.T ws kvs → IsKeys H ws bs → ∃ W' : Wd, W.T.le W'.T ∧ Ok L W' st H ∧ Reps L W'.T (bs.map V.ref) (kvs.map (·.1))
  | [], _, _, W, k, r, p => by cases r; cases p; exact ⟨W, TM.le.rfl, k, .nil⟩
  | _ :: ws, _, _, W, k, r, p => by
    cases r with
    | cons hz r1 rr =>
      cases p with
      | cons h t =>
        obtain ⟨W1, l1, k1, q1⟩ := k.seen h (by rw [List.length_map]; exact hz) (reps_keys _)
        obtain ⟨W2, l2, k2, q2⟩ := seen_keys k1 (rr.mono l1.leR) t
        exact ⟨W2, l1.trans l2, k2, .cons (q1.mono l2.leR) q2⟩
theorem c_sortedK (hcalm : X.calm = true) (hu : X.A.units + 20 < cLine) : CallR X (.builtin "sorted") (rc L F.sortedK) := by
  intro pins s σ H vs us Q I rv ⟨W, st, ds, r, k, rs, e, q⟩
  unfold F.sortedK at e
  split at e
  · rename_i d
    obtain ⟨⟨t, kvs⟩, e1, e⟩ := bindP e
    split at e
    · rename_i ht
      simp only at ht
      subst ht
      split at e
      · rename_i ok
        obtain ⟨hb, hd, hal, ho⟩ := ok
        cases e
        obtain ⟨v, rfl, r1⟩ := reps_one rs
        obtain ⟨a, ws, rfl, hw, rT⟩ := dctT_rep k r1 e1
        obtain ⟨z, hsm, ks, pr, o, es, ep, hob, hx, hdt, he, hn⟩ := (show ObjOk X.prog X.w H s.heap a (.dT ws) from hw.ok I.hok)
        have z1 : es.size = ks.length := size_of_entries he
        have z2 : ws.length = ks.length := Paired.length pr
        obtain ⟨W1, l1, k1, q1⟩ := seen_keys k rT (isKeys_of pr)
        obtain ⟨er, eR⟩ := each_reads I k1 (L2.vals_refs (ks.map fun x => x.2.1)) q1 hd
        rw [Vals.ref1 rv]
        refine Calls.call_function_entry kind_sorted plain_sorted entry_sorted (args_sorted1 _) ?_
        unfold Builtin.«sorted»
        refine wpAny_bind (m := checkCount "sorted" 1 1 _) (wpAny_pure (wpAny_bind (coll_src (A := X.A.in1) (kdl_raw hsm hx hdt) (I.ok.hd hcalm) hob (by omega) fun g tk acc kp hgs it => ?_)))
        have ea : acc.toList = (ks.map fun x => x.2.1).map Value.ref := by
          rw [List.map_map]
          have hl : acc.toList.length = ks.length := by rw [Array.length_toList, it.1]; exact z1
          refine List.ext_getElem? fun j => ?_
          rw [List.getElem?_map]
          cases hj : acc.toList[j]? with
          | none =>
            rw [List.getElem?_eq_none (by have := List.getElem?_eq_none_iff.mp hj; omega)]
            rfl
          | some v =>
            obtain ⟨en, hen, hv⟩ := it.2 j v (by rw [← Array.getElem?_toList]; exact hj)
            have qe := entry_at he j
            rw [hen] at qe
            cases hbj : ks[j]? with
            | none => rw [hbj] at qe; exact nomatch (show some en = none from qe)
            | some b =>
              rw [hbj] at qe
              rw [hv, Option.some.inj qe]
              rfl
        rw [ea]
        generalize hB : (ks.map fun x => x.2.1).map Value.ref = its at er eR
        have hlen : its.length ≤ sizeLine := by rw [← hB, List.length_map, List.length_map]; omega
        refine wpAny_bind (wpAny_newList ?_ hlen)
        have hoL : (g.push (seqObj "list" its.toArray 0)).get? g.objs.size = some (seqObj "list" its.toArray 0) := Heap.get?_push_size _ rfl
        have er' : EachIs (fun v d => ∃ as, Reads (PySem.W.sortingHeap (g.push (seqObj "list" its.toArray 0)) g.objs.size its) v (F.toPy d) as) its (kvs.map (·.1)) := er.mono fun _ _ ⟨as, zz⟩ => ⟨as, PyProof.Rows.Reads.keeps (fun b hbb ee => PySem.W.sortingHeap_old (Nat.ne_of_lt (Heap.lt_size (kp _ _ ee))) (Heap.get?_push_of_some _ (kp _ _ ee))) zz⟩
        have so : PySem.W.SortsAt X.prog X.w X.A.in1.in1 { s with heap := PySem.W.sortingHeap (g.push (seqObj "list" its.toArray 0)) g.objs.size its, toks := tk } (PySem.W.dataKind (PySem.W.sortingHeap (g.push (seqObj "list" its.toArray 0)) g.objs.size its) ((kvs.map (·.1)).map F.toPy)) its := by
          refine sorts_any (s := { s with heap := PySem.W.sortingHeap (g.push (seqObj "list" its.toArray 0)) g.objs.size its, toks := tk }) (PySem.W.each_map (R := fun v d => ∃ as, Reads (PySem.W.sortingHeap (g.push (seqObj "list" its.toArray 0)) g.objs.size its) v d as) F.toPy er') hal ho fun d hd' => ?_
          obtain ⟨x, hx', rfl⟩ := List.mem_map.mp hd'
          have := dat_depth _ _ (hd x hx')
          have h12 : F.deep = 12 := rfl
          rw [h12] at this
          show X.A.units + 2 + _ < cLine
          omega
        obtain ⟨vs', w1, w2⟩ := each_back (PySem.W.sortVals_data false eR er' hal)
        refine wpAny_bind (wpAny_holding (wpAny_call_entry slot_list_sort ⟨_, hoL, rfl⟩ entry_list_sort ?_ (args_list_sort _)))
        refine PySem.W.list_sort_vals (s := { s with heap := g.push (seqObj "list" its.toArray 0), toks := tk }) hoL so hlen ⟨_, rfl, wpAny_pure ⟨_, rfl, ?_⟩⟩
        obtain ⟨c, hcc⟩ := sortedHeap_at (vs := its) (out := (PySem.W.sortVals (PySem.W.dataKind (PySem.W.sortingHeap (g.push (seqObj "list" its.toArray 0)) g.objs.size its) ((kvs.map (·.1)).map F.toPy)) false its its).toArray) hoL
        have hlv : vs'.length ≤ sizeLine := by
          rw [w2.length, (List.mergeSort_perm _ _).length_eq, ← q1.length, List.length_map, List.length_map]; omega
        have hle : s.heap.objs.size ≤ g.objs.size := Nat.le_of_lt hgs
        have keep : ∀ b u, s.heap.get? b = some u → (sortedHeap (g.push (seqObj "list" its.toArray 0)) g.objs.size its (PySem.W.sortVals (PySem.W.dataKind (PySem.W.sortingHeap (g.push (seqObj "list" its.toArray 0)) g.objs.size its) ((kvs.map (·.1)).map F.toPy)) false its its).toArray).get? b = some u := fun b u ee => by
          have e2 := kp b u ee
          have hlt := Heap.lt_size e2
          rw [sortedHeap_old (Nat.ne_of_lt hlt) (by rw [size_push']; exact Nat.lt_succ_of_lt hlt)]
          exact Heap.get?_push_of_some _ e2
        exact ⟨.ref g.objs.size, upd H g.objs.size (.lst vs'), I.laid (t' := tk) keep hle ⟨hlv, _, c, w1, hcc⟩, rfl, fresh_lst k1 w2 hlv (fun W' v H' l' => q W' v H' (l1.trans l')) _ (I.hok.fresh hle)⟩
      · cases e
    · cases e
  · cases e
end
end Sm
/-! ## SimT -/
/-! Sm, part T: min and max of a list of data. -/
namespace Sm
open PySem PySem.Spec PyProof.Rows L2
namespace F
def MinOk (xs : List D) : Prop := (∀ d ∈ xs, dat deep d = true) ∧ PySem.W.AlikeAll (toPys xs)
def minF (a : D) (r : List D) : D := r.foldl (fun a y => if PySem.W.dataLt (toPy y) (toPy a) = true then y else a) a
def maxF (a : D) (r : List D) : D := r.foldl (fun a y => if PySem.W.dataLt (toPy a) (toPy y) = true then y else a) a
open Classical in
/-- min(l), max(l), l a list of data that can be compared -/
noncomputable def minA (st : Store) : List D → Option D
  | [d] => match lstOf st d with
    | some (x :: r) => if MinOk (x :: r) then some (minF x r) else none
    | _ => none
  | _ => none
open Classical in
noncomputable def maxA (st : Store) : List D → Option D
  | [d] => match lstOf st d with
    | some (x :: r) => if MinOk (x :: r) then some (maxF x r) else none
    | _ => none
  | _ => none
noncomputable def minO (st : Store) (ds : List D) : Option D := match min_ st ds with | some r => some r | none => minA st ds
noncomputable def maxO (st : Store) (ds : List D) : Option D := match max_ st ds with | some r => some r | none => maxA st ds
end F
theorem toPys_getD : ∀ (xs : List D) (i : Nat), (F.toPys xs).getD i .none = F.toPy (xs.getD i .non)
  | [], i => by simp [F.toPys, F.toPy]
  | x :: xs, 0 => by simp [F.toPys]
  | x :: xs, i + 1 => by
    have := toPys_getD xs i
    simpa [F.toPys] using this
section
variable {L : Lb} {X : Cx} {pos : Pos}
theorem c_minA (hc : X.calm = true) (hu : X.A.units + 20 < cLine) : CallR X (.builtin "min") (rc L F.minA) := by
  intro pins s σ H vs us Q I rv ⟨W, st, ds, r, k, rs, e, q⟩
  unfold F.minA at e
  split at e
  · rename_i d
    split at e
    · rename_i x xs e0
      split at e
      · rename_i ok
        obtain ⟨hd, hal⟩ := ok
        cases e
        obtain ⟨v, rfl, r1⟩ := reps_one rs
        obtain ⟨p, ws, rfl, h1, hz, r2⟩ := lstOf_rep k r1 e0
        obtain ⟨its, rw, hl, _⟩ := I.list (SqL.of h1)
        rw [Vals.ref1 rv]
        obtain ⟨as, hr⟩ := Dp.readsAll I _ _ _ (dats_dp (K := X.K) k F.deep (x :: xs) ws hd r2) rw
        have hdep := dat_depths F.deep (x :: xs) hd
        have h12 : F.deep = 12 := rfl
        rw [h12] at hdep
        have hn : its.toArray.size = xs.length + 1 := by
          have := rw.length
          have := r2.length
          simp at *
          omega
        have hr' : PySem.ReadsAll s.heap its.toArray.toList (F.toPys (x :: xs)) as := by simpa using hr
        refine call_min_walkH (PySem.W.iter_listW (A := X.A.in1) (I.ok.hd hc) hl.isList fun s₂ e W' st' hfp hw hk => ?_)
        refine ⟨_, _, _, _, _, _, _, s.heap, _, rfl, W', st', hfp, by omega, hw, hk, PySem.W.cmpIn_lt (A := X.A.in1) hr' hal (by show X.A.units + 1 + _ < _; omega), fun v s' hP m => ?_⟩
        obtain ⟨h', tk, rfl, hk'⟩ := PySem.W.moved_old e rfl m
        have hbt : (fun i j => PySem.W.dataLt ((F.toPys (x :: xs)).getD i .none) ((F.toPys (x :: xs)).getD j .none)) = fun i j => PySem.W.dataLt (F.toPy ((x :: xs).getD i .non)) (F.toPy ((x :: xs).getD j .non)) := by
          funext i j
          rw [toPys_getD, toPys_getD]
        have e2 := PySem.W.argBest_fold (fun a b : D => PySem.W.dataLt (F.toPy a) (F.toPy b)) D.non x xs xs.length (Nat.le_refl _)
        rw [List.take_length] at e2
        have e1 : its.toArray.size - 1 = xs.length := by omega
        rw [e1, hbt] at hP
        generalize hj : argBest (fun i j => PySem.W.dataLt (F.toPy ((x :: xs).getD i .non)) (F.toPy ((x :: xs).getD j .non))) xs.length = j at hP e2
        obtain ⟨e2a, e2b⟩ := e2
        have hg : (x :: xs)[j]? = some (F.minF x xs) := by
          have hlt : j < (x :: xs).length := by simp; omega
          rw [List.getElem?_eq_getElem hlt]
          rw [List.getD_eq_getElem?_getD, List.getElem?_eq_getElem hlt] at e2b
          exact congrArg some e2b
        obtain ⟨w, hw', rw'⟩ := r2.get hg
        obtain ⟨u, hu', ru⟩ := rw.get hw'
        have : u = v := by
          have h2 : its[j]? = some v := by simpa using hP
          rw [hu'] at h2
          exact Option.some.inj h2
        subst this
        exact ⟨w, H, I.kept hk', ru, q W w H TM.le.rfl k rw'⟩
      · cases e
    · cases e
  · cases e
theorem c_maxA (hc : X.calm = true) (hu : X.A.units + 20 < cLine) : CallR X (.builtin "max") (rc L F.maxA) := by
  intro pins s σ H vs us Q I rv ⟨W, st, ds, r, k, rs, e, q⟩
  unfold F.maxA at e
  split at e
  · rename_i d
    split at e
    · rename_i x xs e0
      split at e
      · rename_i ok
        obtain ⟨hd, hal⟩ := ok
        cases e
        obtain ⟨v, rfl, r1⟩ := reps_one rs
        obtain ⟨p, ws, rfl, h1, hz, r2⟩ := lstOf_rep k r1 e0
        obtain ⟨its, rw, hl, _⟩ := I.list (SqL.of h1)
        rw [Vals.ref1 rv]
        obtain ⟨as, hr⟩ := Dp.readsAll I _ _ _ (dats_dp (K := X.K) k F.deep (x :: xs) ws hd r2) rw
        have hdep := dat_depths F.deep (x :: xs) hd
        have h12 : F.deep = 12 := rfl
        rw [h12] at hdep
        have hn : its.toArray.size = xs.length + 1 := by
          have := rw.length
          have := r2.length
          simp at *
          omega
        have hr' : PySem.ReadsAll s.heap its.toArray.toList (F.toPys (x :: xs)) as := by simpa using hr
        refine call_max_walkH (PySem.W.iter_listW (A := X.A.in1) (I.ok.hd hc) hl.isList fun s₂ e W' st' hfp hw hk => ?_)
        refine ⟨_, _, _, _, _, _, _, s.heap, _, rfl, W', st', hfp, by omega, hw, hk, PySem.W.cmpIn_gt (A := X.A.in1) hr' hal (by show X.A.units + 1 + _ < _; omega), fun v s' hP m => ?_⟩
        obtain ⟨h', tk, rfl, hk'⟩ := PySem.W.moved_old e rfl m
        have hbt : (fun i j => PySem.W.dataLt ((F.toPys (x :: xs)).getD j .none) ((F.toPys (x :: xs)).getD i .none)) = fun i j => PySem.W.dataLt (F.toPy ((x :: xs).getD j .non)) (F.toPy ((x :: xs).getD i .non)) := by
          funext i j
          rw [toPys_getD, toPys_getD]
        have e2 := PySem.W.argBest_fold (fun a b : D => PySem.W.dataLt (F.toPy b) (F.toPy a)) D.non x xs xs.length (Nat.le_refl _)
        rw [List.take_length] at e2
        have e1 : its.toArray.size - 1 = xs.length := by omega
        rw [e1, hbt] at hP
        generalize hj : argBest (fun i j => PySem.W.dataLt (F.toPy ((x :: xs).getD j .non)) (F.toPy ((x :: xs).getD i .non))) xs.length = j at hP e2
        obtain ⟨e2a, e2b⟩ := e2
        have hg : (x :: xs)[j]? = some (F.maxF x xs) := by
          have hlt : j < (x :: xs).length := by simp; omega
          rw [List.getElem?_eq_getElem hlt]
          rw [List.getD_eq_getElem?_getD, List.getElem?_eq_getElem hlt] at e2b
          exact congrArg some e2b
        obtain ⟨w, hw', rw'⟩ := r2.get hg
        obtain ⟨u, hu', ru⟩ := rw.get hw'
        have : u = v := by
          have h2 : its[j]? = some v := by simpa using hP
          rw [hu'] at h2
          exact Option.some.inj h2
        subst this
        exact ⟨w, H, I.kept hk', ru, q W w H TM.le.rfl k rw'⟩
      · cases e
    · cases e
  · cases e
theorem c_minO (hc : X.calm = true) (hu : X.A.units + 20 < cLine) : CallR X (.builtin "min") (rc L F.minO) := (CallR.orI (c_min hc) (c_minA hc hu)).imp fun xs H Q => by
  rintro ⟨W, st, ds, r, k, rs, e, q⟩
  unfold F.minO at e
  split at e
  · rename_i r' e'
    cases e
    exact .inl ⟨W, st, ds, _, k, rs, e', q⟩
  · exact .inr ⟨W, st, ds, _, k, rs, e, q⟩
theorem c_maxO (hc : X.calm = true) (hu : X.A.units + 20 < cLine) : CallR X (.builtin "max") (rc L F.maxO) := (CallR.orI (c_max hc) (c_maxA hc hu)).imp fun xs H Q => by
  rintro ⟨W, st, ds, r, k, rs, e, q⟩
  unfold F.maxO at e
  split at e
  · rename_i r' e'
    cases e
    exact .inl ⟨W, st, ds, _, k, rs, e', q⟩
  · exact .inr ⟨W, st, ds, _, k, rs, e, q⟩
end
end Sm
/-! ## SimU -/
/-! Sm, part U: for and comprehensions over a list as it stands at each turn. -/
namespace Sm
open PySem PySem.Spec PyProof.Rows L2
/-- an iterator that yields what the list d has at each turn -/
structure SrcR (L : Lb) (W : Wd) (J : It) (d : D) : Prop where
  go : ∀ W' st H i xs x, W.T.le W'.T → Ok L W' st H → F.lstOf st d = some xs → xs[i]? = some x → J.go i H
  yld : ∀ W' st H i xs x v H', W.T.le W'.T → Ok L W' st H → F.lstOf st d = some xs → xs[i]? = some x → J.yld i H v H' → H' = H ∧ Rep L W'.T v x
  stop : ∀ W' st H i xs, W.T.le W'.T → Ok L W' st H → F.lstOf st d = some xs → xs[i]? = none → J.stop i H
  few : ∀ W' st H xs, W.T.le W'.T → Ok L W' st H → F.lstOf st d = some xs → xs.length ≤ sizeLine
def tR (L : Lb) (m : ME) : TI := fun σ H R => ∃ W ρ st d xs st', RepE L W.T σ ρ ∧ Ok L W st H ∧ m ρ st = some (d, st') ∧ F.lstOf st' d = some xs ∧ ∀ W' J H', W.T.le W'.T → Ok L W' st' H' → SrcR L W' J d → R J H'
namespace S
def loopR (g : MG) (b : MS) (d : D) : Nat → Nat → Ev → Store → Option (Fl × Ev × Store)
  | 0, _, _, _ => none
  | k + 1, i, ρ, st => (F.lstOf st d).bind fun xs => match xs[i]? with
    | none => some (.nx, ρ, st)
    | some x => (g x ρ).bind fun ρ1 => (b ρ1 st).bind fun p => match p.1 with
      | .nx => loopR g b d k (i + 1) p.2.1 p.2.2
      | .ct => loopR g b d k (i + 1) p.2.1 p.2.2
      | .bk => some (.nx, p.2.1, p.2.2)
      | .ret d => some (.ret d, p.2.1, p.2.2)
def forR (g : MG) (a : ME) (b : MS) : MS := fun ρ st => (a ρ st).bind fun p => if (F.lstOf p.2 p.1).isSome = true then loopR g b p.1 5000 0 ρ p.2 else none
end S
namespace E
def compLR (g : MG) (t : MT) (e : ME) (ρ : Ev) (d : D) : Nat → Nat → Store → Option (List D × Store)
  | 0, _, _ => none
  | k + 1, i, st => (F.lstOf st d).bind fun xs => match xs[i]? with
    | none => some ([], st)
    | some x => (g x ρ).bind fun ρ1 => (t ρ1 st).bind fun p => if p.1 then (e ρ1 p.2).bind fun q => (compLR g t e ρ d k (i + 1) q.2).map fun r => (q.1 :: r.1, r.2) else compLR g t e ρ d k (i + 1) p.2
def compR (vs : List Nat) (g : MG) (a : ME) (t : MT) (e : ME) : ME := fun ρ st => (a ρ st).bind fun p => if (F.lstOf p.2 p.1).isSome = true then (compLR g t e (wipeE ρ vs) p.1 5000 0 p.2).map fun q => (.lst q.1, q.2) else none
end E
section
variable {L : Lb} {X : Cx} {pos : Pos} {tg : Expr}
theorem srcR_of {W : Wd} {a : Addr} {d : D} (r : Rep L W.T (.ref a) d) : SrcR L W (Itl X.K a) d where
  go := fun W' st H i xs x l k e ex => by
    obtain ⟨p, vs, ea, h1, hz, rs⟩ := lstOf_rep k (r.mono l.leR) e
    cases ea
    obtain ⟨v, hv, _⟩ := rs.get ex
    exact ⟨vs, v, SqL.of h1, hv⟩
  yld := fun W' st H i xs x v H' l k e ex y => by
    obtain ⟨p, vs, ea, h1, hz, rs⟩ := lstOf_rep k (r.mono l.leR) e
    cases ea
    obtain ⟨w, hw, rw⟩ := rs.get ex
    obtain ⟨rfl, y⟩ := y
    have := y vs (SqL.of h1)
    rw [hw] at this
    cases this
    exact ⟨rfl, rw⟩
  stop := fun W' st H i xs l k e ex => by
    obtain ⟨p, vs, ea, h1, hz, rs⟩ := lstOf_rep k (r.mono l.leR) e
    cases ea
    refine ⟨vs, SqL.of h1, ?_⟩
    rw [rs.length]
    exact List.getElem?_eq_none_iff.mp ex
  few := fun W' st H xs l k e => by
    obtain ⟨p, vs, ea, h1, hz, rs⟩ := lstOf_rep k (r.mono l.leR) e
    rw [← rs.length]
    exact hz
theorem si_R {e : Expr} {m : ME} (he : PE X e (tE L m)) : PI X tg e (tR L m) :=
  (pi_list he).imp fun σ H R => by
    rintro ⟨W, ρ, st, d, xs, st', re, k, e, ex, q⟩
    refine ⟨W, ρ, st, d, st', re, k, e, fun W1 v H1 l1 k1 r1 => ?_⟩
    obtain ⟨p, vs, rfl, h1, hz, rs⟩ := lstOf_rep k1 r1 ex
    exact ⟨p, rfl, ⟨vs, SqL.of h1⟩, q W1 _ H1 l1 k1 (srcR_of r1)⟩
theorem forR_imp {g : MG} {a : ME} {b : MS} {vs : List Nat} {D : Ends} {σ : L2.St} {H : Hp} (h : tS L (S.forR g a b) D σ H) : tFor (tR L a) (tG L vs g) (tS L b) D σ H := by
  obtain ⟨W, ρ, st, f, ρ', st', re, k, e, q⟩ := h
  obtain ⟨⟨d, st1⟩, e1, e⟩ := bindP e
  simp only at e
  cases ex : F.lstOf st1 d with
  | none => rw [ex] at e; cases e
  | some xs0 =>
  rw [ex, Option.isSome_some, if_pos rfl] at e
  refine ⟨W, ρ, st, d, xs0, st1, re, k, e1, ex, fun W1 J H1 l1 k1 src => ?_⟩
  refine ⟨fun i m σ H => ∃ W2 ρ2 st2, W1.T.le W2.T ∧ RepE L W2.T σ ρ2 ∧ Ok L W2 st2 H ∧ S.loopR g b d m i ρ2 st2 = some (f, ρ', st'), ⟨5000, W1, ρ, st1, TM.le.rfl, re.mono l1.leR, k1, e⟩, ?_⟩
  rintro i m σ2 H2 ⟨W2, ρ2, st2, l2, re2, k2, e2⟩
  cases m with
  | zero => cases e2
  | succ m =>
    unfold S.loopR at e2
    obtain ⟨xs, ex2, e2⟩ := bindP e2
    cases hx : xs[i]? with
    | none =>
      rw [hx] at e2
      cases e2
      exact .inl ⟨src.stop W2 _ H2 i xs l2 k2 ex2 hx, q W2 σ2 H2 (l1.trans l2) k2 re2⟩
    | some x =>
      rw [hx] at e2
      simp only at e2
      refine .inr ⟨src.go W2 st2 H2 i xs x l2 k2 ex2 hx, ?_⟩
      cases eg : g x ρ2 with
      | none => rw [eg] at e2; cases e2
      | some ρ3 =>
        rw [eg] at e2
        simp only [Option.bind_some] at e2
        cases eb : b ρ3 st2 with
        | none => rw [eb] at e2; cases e2
        | some p =>
          obtain ⟨fl, ρ4, st4⟩ := p
          rw [eb] at e2
          simp only [Option.bind_some] at e2
          refine ⟨fun σ' H' => ∃ W4, W1.T.le W4.T ∧ RepE L W4.T σ' ρ4 ∧ Ok L W4 st4 H' ∧ S.loopR g b d m (i + 1) ρ4 st4 = some (f, ρ', st'), fun σ' H' ⟨W4, a1, a2, a3, a4⟩ => ⟨m, Nat.lt_succ_self _, W4, ρ4, st4, a1, a2, a3, a4⟩, fun v H' y => ?_⟩
          obtain ⟨rfl, r3⟩ := src.yld W2 st2 H2 i xs x v H' l2 k2 ex2 hx y
          refine ⟨W2, ρ2, st2, x, ρ3, re2, k2, r3, eg, fun σ5 re5 _ => ⟨W2, ρ3, st2, fl, ρ4, st4, re5, k2, eb, ?_⟩⟩
          cases fl with
          | nx => exact fun W' σ' H' l' k' r' => ⟨W', l2.trans l', r', k', e2⟩
          | ct => exact fun W' σ' H' l' k' r' => ⟨W', l2.trans l', r', k', e2⟩
          | bk =>
            cases e2
            exact fun W' σ' H' l' k' r' => q W' σ' H' ((l1.trans l2).trans l') k' r'
          | ret d =>
            cases e2
            exact fun W' v' H' l' k' r' => q W' v' H' ((l1.trans l2).trans l') k' r'
theorem s_forR {iter : Expr} {body : List Stmt} {a : ME} {g : MG} {b : MS} {vs : List Nat} (hp : PassesOwn (model X.prog X.w) X.A X.env X.xe) (hc : X.calm = true) (hi : PE X iter (tE L a)) (hg : PG X tg (tG L vs g)) (hb : PSs X body (tS L b))
    (hs : ∀ x, foldedSetIterable iter X.env x = pure x := by intro _; rfl) : PS X (.For tg iter body [] pos) (tS L (S.forR g a b)) :=
  (ps_for hp hc (si_R hi) hg hb hs).imp fun _ _ _ h => forR_imp h
theorem compR_imp {vs ws : List Nat} {g : MG} {a : ME} {t : MT} {m : ME} {σ : L2.St} {H : Hp} {Q : VK} (hw : ∀ w ∈ ws, w ∈ vs) (h : tE L (E.compR vs g a t m) σ H Q) : tLc (tR L a) (tG L ws g) (tT L t) (tE L m) vs σ H Q := by
  obtain ⟨W, ρ, st, dd, st', re, k, e, q⟩ := h
  obtain ⟨⟨d0, st1⟩, e1, e⟩ := bindP e
  simp only at e
  cases ex : F.lstOf st1 d0 with
  | none => rw [ex] at e; cases e
  | some xs0 =>
  rw [ex, Option.isSome_some, if_pos rfl] at e
  cases e2 : E.compLR g t m (wipeE ρ vs) d0 5000 0 st1 with
  | none => rw [e2] at e; cases e
  | some p =>
    obtain ⟨ys, st2⟩ := p
    rw [e2] at e
    simp only [Option.map_some, Option.some.injEq, Prod.mk.injEq] at e
    obtain ⟨rfl, rfl⟩ := e
    refine ⟨W, ρ, st, d0, xs0, st1, re, k, e1, ex, fun W1 J H1 l1 k1 src D hD => ?_⟩
    refine ⟨fun i n H => ∃ W2 st3 acc ds rest, W1.T.leR W2.T ∧ W1.T.le W2.T ∧ W2.T D = some (.tmp (.lst acc)) ∧ Ok L W2 st3 H ∧ Reps L W2.T acc ds ∧ acc.length ≤ i ∧ acc.length ≤ sizeLine ∧ E.compLR g t m (wipeE ρ vs) d0 n i st3 = some (rest, st2) ∧ ys = ds ++ rest,
      ⟨5000, ⟨W1.T.put D (.tmp (.lst [])), W1.loc⟩, st1, [], [], ys, (TM.le_put (k1.noT hD)).leR, TM.le_put (k1.noT hD), TM.put_same, k1.tmp hD (fun _ z => nomatch z), .nil, Nat.le_refl _, Nat.zero_le _, e2, by simp⟩, ?_⟩
    rintro i n H2 ⟨W2, st3, acc, ds, rest, lr, l2, hT, k2, ra, hal, haz, e3, ey⟩
    cases n with
    | zero => cases e3
    | succ n =>
    unfold E.compLR at e3
    obtain ⟨xs, ex2, e3⟩ := bindP e3
    cases hx : xs[i]? with
    | some x =>
      rw [hx] at e3
      simp only at e3
      refine .inr ⟨src.go W2 st3 H2 i xs x l2 k2 ex2 hx, ?_⟩
      have hiz : i < sizeLine := Nat.lt_of_lt_of_le (List.getElem?_eq_some_iff.mp hx).1 (src.few W2 st3 H2 xs l2 k2 ex2)
      cases eg : g x (wipeE ρ vs) with
      | none => rw [eg] at e3; cases e3
      | some ρ3 =>
        rw [eg] at e3
        simp only [Option.bind_some] at e3
        cases et : t ρ3 st3 with
        | none => rw [et] at e3; cases e3
        | some p =>
          obtain ⟨b, st4⟩ := p
          rw [et] at e3
          simp only [Option.bind_some] at e3
          refine ⟨fun H' => ∃ W2 st3 acc ds rest, W1.T.leR W2.T ∧ W1.T.le W2.T ∧ W2.T D = some (.tmp (.lst acc)) ∧ Ok L W2 st3 H' ∧ Reps L W2.T acc ds ∧ acc.length ≤ i + 1 ∧ acc.length ≤ sizeLine ∧ E.compLR g t m (wipeE ρ vs) d0 n (i + 1) st3 = some (rest, st2) ∧ ys = ds ++ rest,
            fun H' z => ⟨n, Nat.lt_succ_self _, z⟩, fun v H' y => ?_⟩
          obtain ⟨rfl, r3⟩ := src.yld W2 st3 H2 i xs x v H' l2 k2 ex2 hx y
          refine ⟨W2, wipeE ρ vs, st3, x, ρ3, repE_wipe ((re.mono l1.leR).mono l2.leR) vs, k2, r3, eg, fun σ5 re5 o5 => ⟨wipe_out o5 hw, W2, ρ3, st3, b, st4, re5, k2, et, fun W4 H4 l4 k4 => ?_⟩⟩
          have hT4 : W4.T D = some (.tmp (.lst acc)) := l4 _ _ hT
          cases b with
          | false =>
            rw [if_neg (by decide)] at e3
            refine iteF ?_
            exact ⟨W4, st4, acc, ds, rest, (l2.trans l4).leR, l2.trans l4, hT4, k4, ra.mono l4.leR, Nat.le_succ_of_le hal, haz, e3, ey⟩
          | true =>
            rw [if_pos rfl] at e3
            refine iteT ?_
            cases ee : m ρ3 st4 with
            | none => rw [ee] at e3; cases e3
            | some p =>
              obtain ⟨d, st5⟩ := p
              rw [ee] at e3
              simp only [Option.bind_some] at e3
              cases e5 : E.compLR g t m (wipeE ρ vs) d0 n (i + 1) st5 with
              | none => rw [e5] at e3; cases e3
              | some p2 =>
                obtain ⟨rest2, st6⟩ := p2
                rw [e5] at e3
                simp only [Option.map_some, Option.some.injEq, Prod.mk.injEq] at e3
                obtain ⟨rfl, rfl⟩ := e3
                refine ⟨W4, ρ3, st4, d, st5, re5.mono l4.leR, k4, ee, fun W5 v H5 l5 k5 r5 => ?_⟩
                have hT5 : W5.T D = some (.tmp (.lst acc)) := l5 _ _ hT4
                have lR : W5.T.leR (W5.T.put D (.tmp (.lst (acc ++ [v])))) := TM.leR_tmp hT5
                have l15 := (l2.trans l4).trans l5
                refine ⟨acc, (k5.tag D _ hT5).1, by omega, ⟨W5.T.put D (.tmp (.lst (acc ++ [v]))), W5.loc⟩, st5, acc ++ [v], ds ++ [d], rest2, l15.leR.trans lR, ?_, TM.put_same, k5.retag hT5 ⟨upd_same, fun _ z => nomatch z⟩, ((ra.mono (l4.trans l5).leR).append (.cons r5 .nil)).mono lR, by simp; omega, by simp; omega, e5, by rw [ey]; simp⟩
                intro a u ea
                by_cases hn : a = D
                · subst hn
                  have := k1.noT hD
                  rw [this] at ea; cases ea
                · show W5.T.put D _ a = _
                  rw [TM.put_ne hn]
                  exact l15 _ _ ea
    | none =>
      rw [hx] at e3
      refine .inl ⟨src.stop W2 st3 H2 i xs l2 k2 ex2 hx, ?_⟩
      cases e3
      have lR : W2.T.leR (W2.T.put D (.frz (.lst acc))) := TM.leR_tmp hT
      have hup : upd H2 D (.lst acc) = H2 := by
        funext b
        by_cases hb : b = D
        · subst hb; rw [upd_same, (k2.tag b _ hT).1]
        · rw [upd_ne hb]
      have ko : Ok L ⟨W2.T.put D (.frz (.lst acc)), W2.loc⟩ st2 H2 := by
        have z := k2.retag (t := .frz (.lst acc)) (o' := .lst acc) hT upd_same
        rw [hup] at z; exact z
      refine q ⟨W2.T.put D (.frz (.lst acc)), W2.loc⟩ _ H2 (l1.trans ?_) ko (.lst TM.put_same haz (by rw [ey, List.append_nil]; exact ra.mono lR))
      intro a u ea
      by_cases hn : a = D
      · subst hn
        rw [k1.noT hD] at ea; cases ea
      · show W2.T.put D _ a = _
        rw [TM.put_ne hn]
        exact l2 _ _ ea
theorem se_lcR {elt iter : Expr} {ifs : List Expr} {scope : Scope} {own : List (Str × Nat)} {ws : List Nat} {a : ME} {g : MG} {t : MT} {m : ME} (hc : X.calm = true) (hN : X.N.Nodup) (hi : PE X iter (tE L a)) (ok : BlkOk X.N X.env.scope scope own)
    (hg : ∀ (s : Shared) (H : Hp) (C : Addr) (cl : List (Str × Addr)) (fp : List Addr), PG (X.blk s H scope (compEnvC scope cl C X.env) fp) tg (tG L ws g)) (ht : ∀ (s : Shared) (H : Hp) (C : Addr) (cl : List (Str × Addr)) (fp : List Addr), PTs (X.blk s H scope (compEnvC scope cl C X.env) fp) ifs (tT L t))
    (he : ∀ (s : Shared) (H : Hp) (C : Addr) (cl : List (Str × Addr)) (fp : List Addr), PE (X.blk s H scope (compEnvC scope cl C X.env) fp) elt (tE L m)) (hw : ∀ w ∈ ws, w ∈ own.map (·.2)) (hs : ∀ x, foldedSetIterable iter X.env x = pure x := by intro _; rfl) :
    PE X (.ListComp elt [⟨tg, iter, ifs, 0⟩] scope pos) (tE L (E.compR (own.map (·.2)) g a t m)) :=
  (pe_lc hc hN (si_R hi) ok hg ht he hs).imp fun _ _ _ h => compR_imp hw h
theorem s_setLcR {j : Nat} {y : Str} {py : Pos} {elt iter : Expr} {ifs : List Expr} {scope : Scope} {own : List (Str × Nat)} {ws : List Nat} {cpos : Pos} {a : ME} {g : MG} {t : MT} {m : ME} (hc : X.calm = true) (hN : X.N.Nodup) (hy : X.N[j]? = some y) (hyl : X.env.scope.names.lookup y = some .local)
    (hsw : swapsWith (.ListComp elt [⟨tg, iter, ifs, 0⟩] scope cpos) (some (.Name y py)) pos.line X.env = pure true) (hi : PE X iter (tE L a)) (ok : BlkOk X.N X.env.scope scope own)
    (hg : ∀ (s : Shared) (H : Hp) (C : Addr) (cl : List (Str × Addr)) (fp : List Addr), PG (X.blk s H scope (compEnvC scope cl C X.env) fp) tg (tG L ws g)) (ht : ∀ (s : Shared) (H : Hp) (C : Addr) (cl : List (Str × Addr)) (fp : List Addr), PTs (X.blk s H scope (compEnvC scope cl C X.env) fp) ifs (tT L t))
    (he : ∀ (s : Shared) (H : Hp) (C : Addr) (cl : List (Str × Addr)) (fp : List Addr), PE (X.blk s H scope (compEnvC scope cl C X.env) fp) elt (tE L m)) (hw : ∀ w ∈ ws, w ∈ own.map (·.2)) (hs : ∀ x, foldedSetIterable iter X.env x = pure x := by intro _; rfl) :
    PS X (.Assign [.Name y py] (.ListComp elt [⟨tg, iter, ifs, 0⟩] scope cpos) pos) (tS L (S.set j (E.compR (own.map (·.2)) g a t m))) :=
  (ps_setLc hc hN hy hyl hsw (si_R hi) ok hg ht he hs).imp fun D σ H h => set_imp (fun _ _ _ z => compR_imp hw z) h
end
end Sm
/-! ## SimV -/
/-! Sm, part V: len(set(..)); list.index; list(d) of a dict; methods of own classes. -/
namespace Sm
open PySem PySem.Spec PyProof.Rows L2
/-! ### len(set(..)) -/
section
variable {X : Cx} {L : Lb} {pos : Pos}
def rLenT (K : PySem.W.Frag) (P : Program) (w : World) : List V → Hp → VK → Prop := fun vs H Q => ∃ (a : Addr) (S : List (Addr × List Int)), vs = [V.ref a] ∧ H a = some (SetTO P w a S) ∧ (∀ p ∈ S, SqT K H p.1 (p.2.map V.int)) ∧
  ((S.map (·.2)).Nodup → Q (.int S.length) H)
theorem cr_lenT : CallR X (.builtin "len") (rLenT X.K X.prog X.w) := by
  intro pins s σ H vs us Q I r h
  obtain ⟨a, S, rfl, ha, hk, q⟩ := h
  have R0 : SetT0 X.prog X.w s.heap a S := (I.hok a _ ha).1
  obtain ⟨es, ep, t, R⟩ := R0.full fun p hp => I.isT (hk p hp)
  rw [Vals.ref1 r]
  obtain ⟨o, ho, hex, hd⟩ := R.ob
  have hfew := R.few
  have hsz : es.size = S.length := by
    have := congrArg List.length R.rows
    unfold rowsOf at this
    simpa using this
  refine call_len_set ho hex hd R.fits (by omega) ?_
  exact ⟨.int S.length, H, I.tok _, ⟨_, by rw [hsz]⟩, q R.nd⟩
namespace F
/-- len(set(l)), l a list of tuples of numbers -/
def lenSetT (st : Store) (d : D) : Option D := (lstOf st d).bind fun xs => (intsL xs).bind fun ns => if ns.length < 64 then some (.int (once ns).length) else none
end F
theorem se_lenSetT {e : Expr} {m : ME} {p p2 p3 : Pos} (hcalm : X.calm = true) (hu : X.A.units + 64 < cLine) (hg : Gl X "len") (hm : X.mg "len" = none) (hg2 : Gl X "set") (hm2 : X.mg "set" = none) (he : PE X e (tE L m))
    (s1 : starEach [e] X.env = (false, eval e X.env) :: starEach [] X.env := by rfl) (s2 : starEach [.Call (.Name "set" p2) [e] [] p3] X.env = (false, eval (.Call (.Name "set" p2) [e] [] p3) X.env) :: starEach [] X.env := by rfl)
    (n1 : (backTo p3 (starEach [] X.env)).any (·.1) = false := by rfl) (n2 : (backTo pos (starEach [] X.env)).any (·.1) = false := by rfl) :
    PE X (.Call (.Name "len" p) [.Call (.Name "set" p2) [e] [] p3] [] pos) (tE L (E.op1 F.lenSetT m)) :=
  (pe_callB cr_lenT hg hm rfl (pa_cons (pe_callTy (cr_setOfT hcalm hu) hg2 hm2 rfl (pa_cons he pa_nil s1) (by decide) (by decide) s1 n1) pa_nil s2) (by decide) (by decide) s2 n2).imp fun σ H Q => by
    rintro ⟨W, ρ, st, d, st', re, k, e, q⟩
    obtain ⟨⟨x, st1⟩, e1, e⟩ := bindP e
    cases e2 : F.lenSetT st1 x with
    | none => simp only [e2] at e; cases e
    | some z =>
      simp only [e2] at e; cases e
      refine ⟨W, ρ, st, x, _, re, k, e1, fun W1 v H1 l1 k1 r1 => ?_⟩
      unfold F.lenSetT at e2
      obtain ⟨xs, e3, e2⟩ := bindP e2
      obtain ⟨ns, e4, e2⟩ := bindP e2
      split at e2
      · rename_i h64
        cases e2
        obtain ⟨a, us, rfl, hq, hz, rs⟩ := lstOf_rep k1 r1 e3
        obtain ⟨ks, rfl, hks, hall⟩ := intsL_rep k1 rs e4
        have hl : ks.length < 64 := by rw [← hks] at h64; simpa using h64
        refine ⟨a, ks, rfl, SqL.of hq, fun p hp => SqT.of (hall p hp).1, hl, fun b S hb hs hcov => ?_⟩
        have keepT : ∀ p ∈ S, upd H1 b (SetTO X.prog X.w b S) p.1 = some (.tup (p.2.map V.int)) := fun p hp => by
          have := (hall p (hs p hp)).1
          rw [upd_ne (by rintro e; rw [e] at this; rw [hb] at this; cases this)]
          exact this
        refine ⟨b, S, rfl, upd_same, fun p hp => SqT.of (keepT p hp), fun nd => ?_⟩
        have kS := k1.skip (o := SetTO X.prog X.w b S) hb
        have hc : S.length = (once ns).length := by
          rw [← List.length_map (f := fun p : Addr × List Int => p.2)]
          refine nodup_len nd fun x => ?_
          rw [← hks]
          constructor
          · intro hx
            obtain ⟨p, hp, rfl⟩ := List.mem_map.mp hx
            exact List.mem_map.mpr ⟨p, hs p hp, rfl⟩
          · intro hx
            obtain ⟨p, hp, rfl⟩ := List.mem_map.mp hx
            exact hcov p hp
        rw [hc]
        exact q W1 _ _ l1 kS (.int _)
      · cases e2
end
/-! ### list.index -/
namespace F
/-- the first place of an equal item -/
def findEq (y : D) : Nat → List D → Option Nat
  | _, [] => none
  | i, x :: r => if eqD x y = true then some i else findEq y (i + 1) r
def index (st : Store) (o : D) : List D → Option (D × Store)
  | [y] => (lstOf st o).bind fun xs => if dat deep y = true ∧ xs.all (dat deep) = true then (findEq y 0 xs).map fun j => (.int (j : Nat), st) else none
  | _ => none
end F
theorem findEq_at (y : D) : ∀ (xs : List D) (i j : Nat), F.findEq y i xs = some j → ∃ k, j = i + k ∧ k < xs.length ∧ (∃ x, xs[k]? = some x ∧ F.eqD x y = true) ∧ ∀ m, m < k → ∀ x, xs[m]? = some x → F.eqD x y = false
  | [], i, j, e => by cases e
  | x :: r, i, j, e => by
    unfold F.findEq at e
    split at e
    · rename_i h
      cases e
      exact ⟨0, rfl, by simp, ⟨x, rfl, h⟩, fun m hm => absurd hm (Nat.not_lt_zero _)⟩
    · rename_i h
      obtain ⟨k, h1, h2, h3, h4⟩ := findEq_at y r (i + 1) j e
      refine ⟨k + 1, by omega, by simp; omega, by simpa using h3, fun m hm z hz => ?_⟩
      cases m with
      | zero => simp at hz; subst hz; simpa using h
      | succ m => exact h4 m (by omega) z (by simpa using hz)
section
variable {X : Cx} {L : Lb} {pos : Pos}
theorem m_index (hu : X.A.units + 65 < cLine) : MtR X "list.index" (rm L F.index) := by
  intro pins s σ H x xs v us Q I rx rxs ⟨W, st, d, ds, r, st', k, r1, rs, e, q⟩
  unfold F.index at e
  split at e
  · rename_i y
    obtain ⟨zs, e1, e⟩ := bindP e
    split at e
    · rename_i h
      obtain ⟨h1, h2⟩ := h
      rw [List.all_eq_true] at h2
      cases e2 : F.findEq y 0 zs with
      | none => rw [e2] at e; cases e
      | some j =>
        rw [e2] at e
        cases e
        obtain ⟨w, rfl, r2⟩ := reps_one rs
        obtain ⟨a, vs, rfl, hq, hz, r3⟩ := lstOf_rep k r1 e1
        obtain ⟨i, hj, hi, ⟨z, hz1, hz2⟩, hno⟩ := findEq_at y zs 0 j e2
        rw [Nat.zero_add] at hj
        subst hj
        have at_ : ∀ (m : Nat) (z' : PyData), (F.toPys zs)[m]? = some z' → ∃ x, zs[m]? = some x ∧ z' = F.toPy x := by
          intro m z' hm
          have hl : ∀ l : List D, (F.toPys l).length = l.length := by
            intro l
            induction l with
            | nil => rfl
            | cons x l ih => simp [F.toPys, ih]
          obtain ⟨q1, q2⟩ := List.getElem?_eq_some_iff.mp hm
          have q3 : m < zs.length := by rw [hl] at q1; exact q1
          refine ⟨zs[m], List.getElem?_eq_getElem q3, ?_⟩
          have := toPys_getD zs m
          rw [List.getD_eq_getElem?_getD, List.getD_eq_getElem?_getD, hm, List.getElem?_eq_getElem q3] at this
          exact this
        have hat : (F.toPys zs)[j]? = some (F.toPy z) := by
          have := toPys_getD zs j
          have hl : ∀ l : List D, (F.toPys l).length = l.length := by
            intro l
            induction l with
            | nil => rfl
            | cons x l ih => simp [F.toPys, ih]
          have hi' : j < (F.toPys zs).length := by rw [hl]; exact hi
          rw [List.getD_eq_getElem?_getD, List.getD_eq_getElem?_getD, hz1, List.getElem?_eq_getElem hi'] at this
          rw [List.getElem?_eq_getElem hi']
          exact congrArg some this
        refine mt_indexD hu pins s σ H _ _ v us Q I rx rxs ⟨a, w, F.toPy y, F.toPys zs, j, F.toPy z, rfl, rfl, .lst (SqL.of hq) (dats_dp k _ zs vs h2 r3), dat_dp k _ y w h1 r2, dats_shaped h2, dat_shaped h1, hat, hz2, fun m z' hm hz' => ?_, q W _ H TM.le.rfl k (.int _)⟩
        obtain ⟨x, hx, rfl⟩ := at_ m z' hz'
        exact hno m hm x hx
    · cases e
  · cases e
/-! ### list(d), d a dict with tuple keys -/
namespace F
def listK (st : Store) : List D → Option D
  | [d] => (dctOf st d).bind fun tk => if tk.1 = true then some (.lst (tk.2.map (·.1))) else none
  | _ => none
end F
theorem c_listK (hc : X.calm = true) : CallR X (.type "list") (rc L F.listK) := (call_list_dT hc).imp fun xs H Q => by
  rintro ⟨W, st, ds, r, k, rs, e, q⟩
  unfold F.listK at e
  split at e
  · rename_i d
    obtain ⟨⟨t, kvs⟩, e1, e⟩ := bindP e
    split at e
    · rename_i ht
      simp only at ht
      subst ht
      cases e
      obtain ⟨v, rfl, r1⟩ := reps_one rs
      obtain ⟨a, ws, rfl, hw, rT⟩ := dctT_rep k r1 e1
      refine ⟨a, ws, rfl, hw, fun p bs hp hk => ?_⟩
      obtain ⟨W1, l1, k1, q1⟩ := seen_keys k rT hk
      have hlen : (bs.map V.ref).length ≤ sizeLine := by
        rw [q1.length, List.length_map, ← repT_length rT]
        cases r1 with
        | dctT h1 h2 _ =>
          have h3 : _ = some _ := k.tag _ _ h1
          rcases hw with hw | ⟨ob, hw⟩
          · rw [h3] at hw; cases hw
          · rw [h3] at hw; cases hw; exact h2
        | @ref a n h1 =>
          obtain ⟨_, c, hc, ok⟩ := k.tag _ _ h1
          simp only [F.dctOf, hc] at e1
          cases c with
          | dct t' us =>
            cases e1
            obtain ⟨vs, z1, z2, _⟩ := ok
            rcases hw with hw | ⟨ob, hw⟩
            · rw [z1] at hw; cases hw; exact z2
            · rw [z1] at hw; cases hw
          | _ => cases e1
        | _ => cases e1
      exact fresh_lst k1 q1 hlen (fun W' v H' l' => q W' v H' (l1.trans l')) p hp
    · cases e
  · cases e
/-! ### methods -/
/-- an instance of the class c, without a field of this name -/
def isIns (c : String) (m : Str) (st : Store) : D → Bool
  | .ref n => match st[n]? with | some (.ins c' fs) => c' == c && (fs.lookup m).isNone | _ => false
  | _ => false
def E.meth (c : String) (m : Str) (F : Fn) (o : ME) (as : MA) : ME := fun ρ st => (o ρ st).bind fun p => if isIns c m p.2 p.1 = true then (as ρ p.2).bind fun q => F (p.1 :: q.1) q.2 else none
theorem repF_lookup {T : TM} {m : Str} : ∀ {vs : List (Str × V)} {ds : List (Str × D)}, RepF L T vs ds → ds.lookup m = none → vs.lookup m = none
  | _, _, .nil, _ => rfl
  | _, _, .cons (k := x) r t, e => by
    rw [List.lookup_cons] at e ⊢
    cases h : m == x with
    | true => rw [h] at e; cases e
    | false => rw [h] at e; exact repF_lookup t e
structure CalM (P : Program) (w : World) (K : PySem.W.Frag) (mg : Str → Option Value) (base : Heap) (L : Lb) (c : String) (m : Str) (n : Nat) (k : Nat) (F : Fn) : Prop where
  ex : ∃ f fd ps, FnOk P w K mg base CX0 k f fd ps (spF L (n + 1) F) ∧ Meth K (L.cl c) m f ∧ Binds K fd ps [] ∧ Cls K (L.cl c)
theorem meth_imp {F : Fn} {c : String} {m : Str} {n : Nat} {mo : ME} {ma : MA} {σ : L2.St} {H : Hp} {Q : VK} (hl : ∀ ρ st ds st', ma ρ st = some (ds, st') → ds.length = n) (h : tE L (E.meth c m F mo ma) σ H Q) : tMeth (L.cl c) m (spF L (n + 1) F) [] E0 (tE L mo) (tA L ma) σ H Q := by
  obtain ⟨W, ρ, st, d, st', re, k, e, q⟩ := h
  unfold E.meth at e
  obtain ⟨⟨x, st1⟩, e1, e⟩ := bindP e
  simp only at e
  split at e
  · rename_i hx
    obtain ⟨⟨ds, st2⟩, e2, e9⟩ := bindP e
    refine ⟨W, ρ, st, x, st1, re, k, e1, fun W1 v H1 l1 k1 r1 => ?_⟩
    cases x with
    | ref i =>
      cases id r1 with
      | @ref a _ ha =>
        obtain ⟨_, cc, hc, ok⟩ := k1.tag _ _ ha
        unfold isIns at hx
        simp only [hc] at hx
        cases cc with
        | ins c' fs =>
          simp only [Bool.and_eq_true, beq_iff_eq, Option.isNone_iff_eq_none] at hx
          obtain ⟨rfl, hf⟩ := hx
          obtain ⟨dx, vs, h1, h2, h3, h4⟩ := ok
          refine ⟨a, dx, vs, rfl, h1, repF_lookup h4 hf, W1, ρ, st1, ds, st2, re.mono l1.leR, k1, e2, fun W2 us H2 l2 k2 r2 => ?_⟩
          refine ⟨by simp [r2.length, hl _ _ _ _ e2], W2, st2, _, _, _, k2, .cons (r1.mono l2.leR) (by rw [List.append_nil]; exact r2), e9, fun W' v H' l' k' r' => q W' v H' ((l1.trans l2).trans l') k' r'⟩
        | _ => cases hx
    | _ => cases hx
  · cases e
theorem se_meth {c : String} {m : Str} {o e : Expr} {es : List Expr} {apos : Pos} {n k j : Nat} {F : Fn} {mo : ME} {ma : MA} {pl : Sem Bool} (C : CalM X.prog X.w X.K X.mg X.base L c m n k F) (hr : Room j X.A) (hk : k ≤ j) (ho : PE X o (tE L mo)) (ha : PA X (e :: es) (tA L ma))
    (hl : ∀ ρ st ds st', ma ρ st = some (ds, st') → ds.length = n)
    (hst : starEach (e :: es) X.env = (false, eval e X.env) :: starEach es X.env := by rfl) (hpl : (backTo pos (starEach es X.env)).any (·.1) = false := by rfl)
    (ht : eval (.Call (.Attribute o m apos) (e :: es) [] pos) X.env = (do
      let ov ← eval o X.env
      standAt apos.atName
      let (f, first) ← holding [ov] (getMethod ov m pl)
      callWith pos f first (backTo pos (starEach (e :: es) X.env)) (backToKw pos (keywordEach [] X.env))) := by rfl) : PE X (.Call (.Attribute o m apos) (e :: es) [] pos) (tE L (E.meth c m F mo ma)) := by
  obtain ⟨f, fd, ps, G, hm, b, cl⟩ := C.ex
  exact (pe_meth (dvs := []) ho cl hm G (hr.mono hk) b .nil pass0 ha (hst := hst) (hpl := hpl) (ht := ht)).imp fun _ _ _ h => meth_imp hl h
theorem se_meth0 {c : String} {m : Str} {o : Expr} {apos : Pos} {k j : Nat} {F : Fn} {mo : ME} {pl : Sem Bool} (C : CalM X.prog X.w X.K X.mg X.base L c m 0 k F) (hr : Room j X.A) (hk : k ≤ j) (ho : PE X o (tE L mo))
    (ht : eval (.Call (.Attribute o m apos) [] [] pos) X.env = (do
      let ov ← eval o X.env
      standAt apos.atName
      let (f, first) ← holding [ov] (getMethod ov m pl)
      callWith pos f first (backTo pos (starEach [] X.env)) (backToKw pos (keywordEach [] X.env))) := by rfl) : PE X (.Call (.Attribute o m apos) [] [] pos) (tE L (E.meth c m F mo E.nilA)) := by
  obtain ⟨f, fd, ps, G, hm, b, cl⟩ := C.ex
  exact (pe_meth0 (dvs := []) ho cl hm G (hr.mono hk) b .nil pass0 (ht := ht)).imp fun σ H Q h => by
    obtain ⟨W, ρ, st, x, st1, re, k, e, g⟩ := meth_imp (n := 0) (fun _ _ _ _ h => by cases h; rfl) h
    refine ⟨W, ρ, st, x, st1, re, k, e, fun W1 v H1 l1 k1 r1 => ?_⟩
    obtain ⟨a, dx, fs, e1, e2, e3, W2, ρ2, st2, ds, st3, re2, k2, e4, g2⟩ := g W1 v H1 l1 k1 r1
    cases e4
    exact ⟨a, dx, fs, e1, e2, e3, g2 W2 [] H1 TM.le.rfl k2 .nil⟩
end
end Sm
/-! ## SimW -/
/-! Sm, part W: list(..) that is changed later; t[::-1] of tuples. -/
namespace Sm
section revs
open PySem PySem.W PySem.Calls PySem.SeqAt PyProof.Rows HT
variable {prog : Program} {w : World} {A : Around} {E : Value → Shared → Prop} {s : Shared}
theorem adjust_rev (n : Nat) : Builtin.Slice.sliceAdjust none none (-1) (n : Int) = ((n : Int) - 1, -1) := by
  unfold Builtin.Slice.sliceAdjust
  simp
theorem places_rev (n : Nat) : Builtin.Slice.slicePlaces ((n : Int) - 1) (-1) (-1) = n := by
  unfold Builtin.Slice.slicePlaces
  by_cases h : (n : Int) - 1 > -1
  · simp only [h, if_true]
    rw [if_neg (by decide)]
    rw [show (- -1 : Int) = 1 by decide, Int.ediv_one]
    omega
  · rw [if_neg (by decide), if_neg h]
    omega
theorem sliceApplied_rev {sl : Addr} {vl vu vs : Value} {n : Nat} {Q : Int × Int × Nat → Shared → Prop} (hs : s.heap.IsSliceOf sl vl vu vs) (pl : IsPart vl none) (pu : IsPart vu none) (ps : IsPart vs (some (-1)))
    (h : Q ((n : Int) - 1, -1, n) s) : wpAny (model prog w) A (Builtin.Slice.sliceApplied (.ref sl) (pure (n : Int))) Q E s := by
  obtain ⟨os, hos, hcs, hds⟩ := id hs
  unfold Builtin.Slice.sliceApplied Builtin.Slice.sliceFields
  refine wpAny_bind (wpAny_bind (wpAny_field hos hds (x := vl) rfl (wpAny_bind (wpAny_field hos hds (x := vu) rfl (wpAny_bind (wpAny_field hos hds (x := vs) rfl (wpAny_pure ?_)))))))
  refine wpAny_bind (slicePart_ ps ?_)
  show wpAny _ _ (if ((-1 : Int) == 0) = true then _ else _) _ _ s
  rw [if_neg (by decide)]
  refine wpAny_bind (slicePart_ pl (wpAny_bind (slicePart_ pu (wpAny_bind (wpAny_pure ?_)))))
  show wpAny _ _ (match Builtin.Slice.sliceAdjust none none (-1) (n : Int) with | (lo, hi) => pure (lo, (-1 : Int), Builtin.Slice.slicePlaces lo hi (-1))) _ _ s
  rw [adjust_rev]
  show wpAny _ _ (pure ((n : Int) - 1, (-1 : Int), Builtin.Slice.slicePlaces ((n : Int) - 1) (-1) (-1))) _ _ s
  rw [places_rev]
  exact wpAny_pure h
theorem pick_rev (xs : Array Value) : ((List.range xs.size).filterMap fun (m : Nat) => xs[(((xs.size : Int) - 1) + (m : Int) * (-1)).toNat]?).toArray = xs.toList.reverse.toArray := by
  have e : ((List.range xs.size).filterMap fun (m : Nat) => xs[(((xs.size : Int) - 1) + (m : Int) * (-1)).toNat]?) = ((List.range xs.size).map fun k => xs.size - 1 - k).filterMap (xs[·]?) := by
    have h : ∀ l : List Nat, (∀ m ∈ l, m < xs.size) → (l.filterMap fun (m : Nat) => xs[(((xs.size : Int) - 1) + (m : Int) * (-1)).toNat]?) = (l.map fun k => xs.size - 1 - k).filterMap (xs[·]?) := by
      intro l
      induction l with
      | nil => intro _; rfl
      | cons m l ih =>
        intro hl
        have hm := hl m List.mem_cons_self
        have e : (((xs.size : Int) - 1) + (m : Int) * (-1)).toNat = xs.size - 1 - m := by omega
        rw [List.map_cons, List.filterMap_cons, List.filterMap_cons, ih fun k hk => hl k (List.mem_cons_of_mem _ hk), e]
    exact h _ fun m hm => List.mem_range.mp hm
  rw [e, krv_range, List.filterMap_reverse, krv_all]
theorem getItem_tuple_rev {t sl : Addr} {items : Array Value} {vl vu vs : Value} {Q : Value → Shared → Prop} (ht : IsTup s.heap t items) (hs : s.heap.IsSliceOf sl vl vu vs) (pl : IsPart vl none) (pu : IsPart vu none) (ps : IsPart vs (some (-1)))
    (h : Q (.ref s.heap.objs.size) { s with heap := s.heap.push { cls := .type "tuple", data := .seq items.toList.reverse.toArray } })
    (hsz : items.size ≤ sizeLine) : wpAny (model prog w) A (getItem (.ref t) (.ref sl)) Q E s := by
  have htake : sizeOk (.seq items.toList.reverse.toArray) := by
    show items.toList.reverse.toArray.size ≤ sizeLine
    rw [List.size_toArray, List.length_reverse, Array.length_toList]
    exact hsz
  obtain ⟨os, hos, hcs, hds⟩ := id hs
  have hTs : s.TypeIs (.ref sl) "slice" := ⟨os, hos, hcs⟩
  unfold getItem
  try with_reducible refine wpAny_holding ?_
  first | refine wpAny_bind (wpAny_pure ?_) | skip
  refine wpAny_bind (wpAny_sequenceKey ht.typeIs (by decide) ?_)
  refine wpAny_bind (wpAny_callSpecial?_slot (name := Str.ofString "__getitem__") ht.typeIs PyProof.Rows.slot_tuple_getitem
    (wpAny_call_entry PyProof.Rows.slot_tuple_getitem ht.typeIs entry_tuple_getitem ?_ (args_tuple_getitem _ _)))
  show wpAny _ _ (Builtin.Tuple.tupleItemsOf (.ref t) >>= _) _ _ s
  refine wpAny_bind (tupleItemsOf_ ht ?_)
  refine wpAny_bind (wpAny_typeOf hTs ?_)
  rw [if_pos (by decide)]
  refine wpAny_bind (sliceApplied_rev hs pl pu ps ?_)
  have hno : ¬ ((((items.size : Int) - 1) == 0 && (-1 : Int) == 1 && items.size == items.size) = true) := by
    simp
  show wpAny _ _ (if (((items.size : Int) - 1) == 0 && (-1 : Int) == 1 && items.size == items.size) = true then _ else _) _ _ s
  rw [if_neg hno, pick_rev]
  first
    | exact wpAny_bind (m := Builtin.Tuple.tupleExact _) (wpAny_newObj_type (wpAny_pure ⟨_, rfl, wpAny_pure h⟩) htake)
    | exact wpAny_bind (m := Builtin.Tuple.tupleExact _) (wpAny_newObj_type (wpAny_bind (wpAny_pure (wpAny_pure ⟨_, rfl, wpAny_pure h⟩))) htake)
end revs
open PySem PySem.Spec PyProof.Rows L2
section
variable {X : Cx} {L : Lb}
def tRevT (K : PySem.W.Frag) (te : TE) : TE := fun σ H Q => te σ H fun x H1 => ∃ a xs, x = .ref a ∧ SqT K H1 a xs ∧ ∀ p, H1 p = none → Q (.ref p) (upd H1 p (.tup xs.reverse))
theorem pe_revT {e : Expr} {te : TE} {k : Nat} {p1 p2 p3 pos : Pos} (he : PE X e te) : PE X (.Subscript e (.Slice none none (some (.UnaryOp .USub (.Constant (.int 1) k p1) p2)) p3) pos) (tRevT X.K te) := by
  refine ⟨fun pins s σ H Q I h => ?_⟩
  refine Subscript_ (thn (he.run pins s σ H _ I h) fun v s1 ⟨x, H1, I1, r1, q1⟩ => ?_)
  obtain ⟨a, xs, ex, hx, q⟩ := q1
  subst ex
  cases r1
  have hst : PO X (some (.UnaryOp .USub (.Constant (.int 1) k p1) p2)) (tPart (tUn (rU fun i => .int (-i)) (tC (.int 1)))) := po_some (pe_un un_neg pe_int)
  refine wpAny_Slice (thn (po_none.run pins s1 σ H1 (fun o H2 => o = none ∧ H2 = H1) I1 ⟨rfl, rfl⟩) fun vl s2 ⟨l, H2, I2, pl, el, e2⟩ => ?_)
  subst el e2
  refine thn (po_none.run pins s2 σ H2 (fun o H3 => o = none ∧ H3 = H2) I2 ⟨rfl, rfl⟩) fun vu s3 ⟨u, H3, I3, pu, eu, e3⟩ => ?_
  subst eu e3
  refine thn (hst.run pins s3 σ H3 (fun o H4 => o = some (-1) ∧ H4 = H3) I3 ⟨1, rfl, -1, rfl, rfl, rfl⟩) fun vs s4 ⟨o, H4, I4, ps, eo, e4⟩ => ?_
  subst eo e4
  have I5 : Inv X pins σ H4 { s4 with heap := s4.heap.push { cls := .type "slice", data := .fields #[vl, vu, vs] } } := I4.kept (t' := s4.toks) fun b ob q => Heap.get?_push_of_some _ q
  obtain ⟨its, r, ht, hz⟩ := I5.tuple hx
  have hlen := r.length
  show wpAny (model X.prog X.w) X.A (subscriptTail e (.Slice none none (some (.UnaryOp .USub (.Constant (.int 1) k p1) p2)) p3) (.ref a) (.ref s4.heap.objs.size)) (EP X pins σ Q) X.xe { s4 with heap := s4.heap.push { cls := .type "slice", data := .fields #[vl, vu, vs] } }
  refine tail_any (ops := [.ref a, .ref s4.heap.objs.size]) ht.typeIs (PyProof.Rows.slot_tuple_getitem.lookup) ?_ (by with_unfolding_all rfl)
  refine getItem_tuple_rev ht (Heap.IsSliceOf.new _ vl vu vs) pl pu ps ?_ (by rw [List.size_toArray]; omega)
  refine ⟨.ref _, _, I5.laid (t' := s4.toks) (o := .tup xs.reverse) (fun b ob q => Heap.get?_push_of_some _ q) (Nat.le_refl _) ?_, rfl, q _ (I5.hok.fresh (Nat.le_refl _))⟩
  exact ⟨by rw [List.length_reverse]; exact hz, _, r.reverse, IsTup.new _ _⟩
theorem Reps.rev {T : TM} : ∀ {vs : List V} {ds : List D}, Reps L T vs ds → Reps L T vs.reverse ds.reverse
  | _, _, .nil => .nil
  | _, _, .cons r t => by
    rw [List.reverse_cons, List.reverse_cons]
    exact (Reps.rev t).append (.cons r .nil)
namespace F
def revT (_ : Store) : D → Option D
  | .tup xs => some (.tup xs.reverse)
  | _ => none
end F
theorem se_revT {e : Expr} {m : ME} {k : Nat} {p1 p2 p3 pos : Pos} (he : PE X e (tE L m)) : PE X (.Subscript e (.Slice none none (some (.UnaryOp .USub (.Constant (.int 1) k p1) p2)) p3) pos) (tE L (E.op1 F.revT m)) :=
  (pe_revT he).imp fun σ H Q => by
    rintro ⟨W, ρ, st, d, st', re, k, e, q⟩
    obtain ⟨⟨x, st1⟩, e1, e⟩ := bindP e
    cases x with
    | tup xs =>
      cases e
      refine ⟨W, ρ, st, .tup xs, _, re, k, e1, fun W1 v H1 l1 k1 r1 => ?_⟩
      cases r1 with
      | tup h l r => exact ⟨_, _, rfl, SqT.of (k1.tag _ _ h), fresh_tup k1 r.rev (by rw [List.length_reverse]; exact l) fun W' v H' l' => q W' v H' (l1.trans l')⟩
    | _ => cases e
/-! ### list(..) as a place of the store -/
namespace F
def listOf (st : Store) (d : D) : Option D := (seq st d).map .lst
end F
theorem se_listB {x : Expr} {m : ME} {p pos : Pos} (hg : Gl X "list") (hm : X.mg "list" = none) (he : PE X x (tE L m))
    (s1 : starEach [x] X.env = (false, eval x X.env) :: starEach [] X.env := by rfl) (n1 : (backTo pos (starEach [] X.env)).any (·.1) = false := by rfl) :
    PE X (.Call (.Name "list" p) [x] [] pos) (tE L (E.opB F.listOf m)) :=
  (pe_callTy call_list_of hg hm rfl (pa_cons he pa_nil s1) (by decide) (by decide) s1 n1).imp fun σ H Q => by
    rintro ⟨W, ρ, st, d, st', re, k, e, q⟩
    obtain ⟨⟨x, st1⟩, e1, e⟩ := bindP e
    unfold F.listOf at e
    simp only at e
    cases e2 : F.seq st1 x with
    | none => rw [e2] at e; cases e
    | some ys =>
      rw [e2] at e
      cases e
      refine ⟨W, ρ, st, x, st1, re, k, e1, fun W1 v H1 l1 k1 r1 => ?_⟩
      obtain ⟨a, vs, rfl, hq, hz, r2⟩ := seq_rep (K := X.K) k1 r1 e2
      exact ⟨a, vs, rfl, hq, fresh_box k1 r2 hz fun W' v H' l' => q W' v H' (l1.trans l')⟩
end
end Sm
/-! ## SimX -/
/-! Sm, part X: {k: c}, {k: c, l: d}; a, b, c = x, y, z; d.get(k). -/
namespace Sm
open PySem PySem.Spec PyProof.Rows L2
namespace E
/-- {x: c}, x a variable that holds a number, c a constant -/
def disp1 (i : Nat) (d : D) : ME := fun ρ st => match gt ρ i with
  | some (.int k) => some (.ref st.length, st ++ [.dct false [(.int k, d)]])
  | _ => none
def disp2 (i j : Nat) (d e : D) : ME := fun ρ st => match gt ρ i, gt ρ j with
  | some (.int k), some (.int m) => if k ≠ m then some (.ref st.length, st ++ [.dct false [(.int k, d), (.int m, e)]]) else none
  | _, _ => none
/-- o.get(k) -/
def dget (a b : ME) : ME := fun ρ st => (a ρ st).bind fun p => if (F.dctOf p.2 p.1).isSome = true then (b ρ p.2).bind fun q => (F.dctOf q.2 p.1).bind fun kvs => if F.kindOk kvs.1 q.1 = true then some ((F.look kvs.2 q.1).getD .non, q.2) else none else none
end E
namespace S
def par3 (i j l : Nat) (as : MA) : MS := fun ρ st => (as ρ st).bind fun p => match p.1 with | [d, e, f] => some (.nx, ((ρ.set i (some d)).set j (some e)).set l (some f), p.2) | _ => none
end S
section
variable {X : Cx} {L : Lb} {pos : Pos}
/-- a new dict at a new place of the store -/
theorem fresh_dct {W : Wd} {st : Store} {H : Hp} {p : Addr} {vs : List (Key × V)} {kvs : List (D × D)} (k : Ok L W st H) (hp : H p = none) (hl : vs.length ≤ sizeLine) (hr : RepK L W.T vs kvs) (hn : (vs.map (·.1)).Nodup) :
    ∃ W', W.T.le W'.T ∧ Ok L W' (st ++ [.dct false kvs]) (upd H p (.dK vs)) ∧ Rep L W'.T (.ref p) (.ref st.length) := by
  have le : W.T.le (W.T.put p (.box st.length)) := TM.le_put (k.noT hp)
  exact ⟨⟨W.T.put p (.box st.length), fun n => if n = st.length then p else W.loc n⟩, le, k.push hp ⟨vs, upd_same, hl, hr.mono le.leR, hn⟩, .ref TM.put_same⟩
theorem se_disp1 (i : Nat) {x : Str} {px : Pos} {e : Expr} {v : V} {d : D} (he : PE X e (tC v)) (r : ∀ T, Rep L T v d) (hN : X.N[i]? = some x := by rfl) (hv : Vis X.env.scope x := by first | exact Or.inl rfl | exact Or.inr (Or.inl rfl) | exact Or.inr (Or.inr rfl))
    (hd : (x == ("__debug__" : Str)) = false := by decide) (hcd : (x == ("__classdict__" : Str)) = false := by decide) : PE X (.Dict [some (.Name x px)] [e] pos) (tE L (E.disp1 i d)) :=
  (pe_disp (pps_cons (pe_var hN hv hd hcd) he pps_nil) rfl rfl (by simp) (by simp)).imp fun σ H Q => by
    rintro ⟨W, ρ, st, d0, st', re, k, e0, q⟩ p hp
    unfold E.disp1 at e0
    cases g : gt ρ i with
    | none => rw [g] at e0; cases e0
    | some z =>
      rw [g] at e0
      cases z with
      | int n =>
        cases e0
        obtain ⟨u, h1, h2⟩ := re.get (gt_some g)
        cases h2
        obtain ⟨W', le, k', r'⟩ := fresh_dct (vs := [(.inl n, v)]) (kvs := [(.int n, d)]) k hp (by simp [sizeLine_eq]) (.cons (r _) .nil) (by simp)
        refine ⟨_, h1, upd_same, [(.inl n, v)], rfl, by simp, ?_⟩
        rw [upd_upd]
        exact q W' _ _ le k' r'
      | _ => cases e0
theorem se_disp2 (i j : Nat) {x y : Str} {px py : Pos} {e1 e2 : Expr} {v w : V} {d1 d2 : D} (he : PE X e1 (tC v)) (he2 : PE X e2 (tC w)) (r : ∀ T, Rep L T v d1) (r2 : ∀ T, Rep L T w d2) (hN : X.N[i]? = some x := by rfl) (hv : Vis X.env.scope x := by first | exact Or.inl rfl | exact Or.inr (Or.inl rfl) | exact Or.inr (Or.inr rfl))
    (hN2 : X.N[j]? = some y := by rfl) (hv2 : Vis X.env.scope y := by first | exact Or.inl rfl | exact Or.inr (Or.inl rfl) | exact Or.inr (Or.inr rfl))
    (hd : (x == ("__debug__" : Str)) = false := by decide) (hcd : (x == ("__classdict__" : Str)) = false := by decide) (hd2 : (y == ("__debug__" : Str)) = false := by decide) (hcd2 : (y == ("__classdict__" : Str)) = false := by decide) :
    PE X (.Dict [some (.Name x px), some (.Name y py)] [e1, e2] pos) (tE L (E.disp2 i j d1 d2)) :=
  (pe_disp (pps_cons (pe_var hN hv hd hcd) he (pps_cons (pe_var hN2 hv2 hd2 hcd2) he2 pps_nil)) rfl rfl (by simp) (by simp)).imp fun σ H Q => by
    rintro ⟨W, ρ, st, d0, st', re, k, e0, q⟩ p hp
    unfold E.disp2 at e0
    cases g : gt ρ i with
    | none => rw [g] at e0; cases e0
    | some z =>
      rw [g] at e0
      cases z with
      | int n =>
        cases g2 : gt ρ j with
        | none => rw [g2] at e0; cases e0
        | some z2 =>
          rw [g2] at e0
          cases z2 with
          | int m =>
            simp only at e0
            split at e0
            · rename_i hne
              cases e0
              obtain ⟨u, h1, h2⟩ := re.get (gt_some g)
              cases h2
              obtain ⟨u2, h3, h4⟩ := re.get (gt_some g2)
              cases h4
              have hkk : (Sum.inl n : Key) ≠ Sum.inl m := fun z => hne (Sum.inl.inj z)
              obtain ⟨W', le, k', r'⟩ := fresh_dct (vs := [(.inl n, v), (.inl m, w)]) (kvs := [(.int n, d1), (.int m, d2)]) k hp (by simp [sizeLine_eq]) (.cons (r _) (.cons (r2 _) .nil)) (by simp [hne])
              refine ⟨_, h1, _, h3, upd_same, [(.inl n, v), (.inl m, w)], rfl, by simp, ?_⟩
              have hm : mergeK [] [(Sum.inl n, v), (Sum.inl m, w)] = [((Sum.inl n : Key), v), (Sum.inl m, w)] := by
                simp [mergeK, putK, hkk]
              rw [upd_upd, hm]
              exact q W' _ _ le k' r'
            · cases e0
          | _ => cases e0
      | _ => cases e0
theorem s_par3 {i j l : Nat} {x y z : Str} {a b c : Expr} {ma : MA} {px py pz pt : Pos} {kt k2 pt2} (hc : X.calm = true) (hN : X.N.Nodup) (hi : X.N[i]? = some x) (hj : X.N[j]? = some y) (hl : X.N[l]? = some z) (hij : i ≠ j) (hil : i ≠ l) (hjl : j ≠ l)
    (hx : X.env.scope.names.lookup x = some .local) (hy : X.env.scope.names.lookup y = some .local) (hz : X.env.scope.names.lookup z = some .local) (ha : PA X [a, b, c] (tA L ma))
    (hw : swappedStores [.Tuple [.Name x px, .Name y py, .Name z pz] kt pt] (.Tuple [a, b, c] k2 pt2) X.env = pure (some [x, y, z]))
    (hs : swapsWithSole [.Tuple [.Name x px, .Name y py, .Name z pz] kt pt] (.Tuple [a, b, c] k2 pt2) pos.line X.env = pure false := by rfl) :
    PS X (.Assign [.Tuple [.Name x px, .Name y py, .Name z pz] kt pt] (.Tuple [a, b, c] k2 pt2) pos) (tS L (S.par3 i j l ma)) :=
  (ps_par3 hc hN hi hj hl hij hil hjl hx hy hz ha hw hs).imp fun D σ H => by
    rintro ⟨W, ρ, st, f, ρ', st', re, k, e, q⟩
    unfold S.par3 at e
    cases e1 : ma ρ st with
    | none => rw [e1] at e; cases e
    | some p =>
      obtain ⟨ds, st1⟩ := p
      rw [e1] at e
      simp only [Option.bind_some] at e
      match ds, e with
      | [d1, d2, d3], e =>
        cases e
        refine ⟨W, ρ, st, _, _, re, k, e1, fun W1 vs H1 l1 k1 r1 => ?_⟩
        cases r1 with
        | cons q1 r1 =>
          cases r1 with
          | cons q2 r1 =>
            cases r1 with
            | cons q3 r1 =>
              cases r1
              exact ⟨_, _, _, rfl, q W1 _ H1 l1 k1 ((((re.mono l1.leR).set q1 i).set q2 j).set q3 l)⟩
theorem isD_of {W : Wd} {st : Store} {H : Hp} {v : V} {d : D} (k : Ok L W st H) (r : Rep L W.T v d) (h : (F.dctOf st d).isSome = true) : ∃ a, v = .ref a ∧ IsD H a := by
  cases r with
  | dctK h1 _ _ => exact ⟨_, rfl, .inl ⟨_, .inr ⟨_, k.tag _ _ h1⟩⟩⟩
  | dctT h1 _ _ => exact ⟨_, rfl, .inr ⟨_, .inr ⟨_, k.tag _ _ h1⟩⟩⟩
  | @ref a n h1 =>
    obtain ⟨_, c, hc, ok⟩ := k.tag _ _ h1
    simp only [F.dctOf, hc] at h
    cases c with
    | dct t ws =>
      cases t with
      | false => obtain ⟨vs, z, _⟩ := ok; exact ⟨_, rfl, .inl ⟨_, .inl z⟩⟩
      | true => obtain ⟨vs, z, _⟩ := ok; exact ⟨_, rfl, .inr ⟨_, .inl z⟩⟩
    | _ => cases h
  | _ => cases h
theorem se_dget {o e : Expr} {apos : Pos} {mo me : ME} (hu : X.A.units + 1 < cLine) (ho : PE X o (tE L mo)) (he : PE X e (tE L me)) (m : M1 X o "get" apos e pos) : PE X (.Call (.Attribute o "get" apos) [e] [] pos) (tE L (E.dget mo me)) :=
  (pe_dget1 hu ho he m).imp fun σ H Q => by
    rintro ⟨W, ρ, st, d0, st', re, k, e0, q⟩
    unfold E.dget at e0
    obtain ⟨⟨x, st1⟩, e1, e0⟩ := bindP e0
    simp only at e0
    split at e0
    · rename_i hs
      obtain ⟨⟨y, st2⟩, e2, e0⟩ := bindP e0
      obtain ⟨⟨t, kvs⟩, e3, e0⟩ := bindP e0
      simp only at e0
      split at e0
      · rename_i hk
        cases e0
        refine ⟨W, ρ, st, x, st1, re, k, e1, fun W1 v H1 l1 k1 r1 => ?_⟩
        obtain ⟨a, rfl, hd⟩ := isD_of k1 r1 hs
        refine ⟨a, rfl, hd, W1, ρ, st1, y, _, re.mono l1.leR, k1, e2, fun W2 w H2 l2 k2 r2 => ?_⟩
        obtain ⟨a', o, ea, g, g1, g2⟩ := dct_get k2 (r1.mono l2.leR) r2 e3 hk
        cases ea
        refine ⟨o, g, ?_⟩
        cases hl : F.look kvs y with
        | none =>
          rw [hl] at g1
          have : o = none := by cases o with | none => rfl | some _ => cases g1
          subst this
          rw [hl] at q
          exact q W2 _ H2 (l1.trans l2) k2 .non
        | some z =>
          obtain ⟨u, hu', ru⟩ := g2 z hl
          subst hu'
          rw [hl] at q
          exact q W2 _ H2 (l1.trans l2) k2 ru
      · cases e0
    · cases e0
end
end Sm
/-! ## Mean11 -/
/-! the plain meanings of the text of law_k11_whole_lowered_and_low, those that are new with it. Printed by gen.py. -/
namespace Sm.Pr
open PySem PySem.Spec L2 Sm
noncomputable def m_is_integer : MS := (S.ret (E.andV (E.fn F.isiA (E.consA (E.var 0) (E.consA (E.c (.cls "int")) E.nilA))) (E.notV (E.fn F.isiA (E.consA (E.var 0) (E.consA (E.c (.cls "bool")) E.nilA))))))
noncomputable def F_is_integer : Fn := fnA 1 1 m_is_integer
noncomputable def m_is_within : MS := (S.ret (E.andV (E.call F_is_integer (E.consA (E.var 0) E.nilA)) (E.chain F.le F.le (E.var 1) (E.var 0) (E.var 2))))
noncomputable def F_is_within : Fn := fnA 3 3 m_is_within
noncomputable def b_is_lot_1 : MS := (S.ite (E.orT (E.notT (E.tv (E.fn F.isiA (E.consA (E.var 0) (E.consA (E.c (.cls "tuple")) E.nilA))))) (E.notT (E.tv (E.fn F.all_ (E.consA (E.comp [2] (G.name 2) (I.all (E.var 0)) E.yes (E.call F_is_within (E.consA (E.var 2) (E.consA (E.c (.int 0)) (E.consA (E.op2 F.sub (E.var 1) (E.c (.int 1))) E.nilA))))) E.nilA))))) (S.ret (E.c (.bl false))) S.skip)
noncomputable def m_is_lot : MS := (S.seq b_is_lot_1
    (S.ret (E.fn F.all_ (E.consA (E.comp [2, 3] (G.tup (G.consT (G.name 2) (G.consT (G.name 3) G.nilT))) (I.zip (E.consA (E.var 0) (E.consA (E.slice (E.var 0) (some (E.c (.int 1))) none) E.nilA))) E.yes (E.op2 F.lt (E.var 2) (E.var 3))) E.nilA))))
noncomputable def F_is_lot : Fn := fnA 2 4 m_is_lot
noncomputable def b_are_lots_1 : MS := (S.ite (E.orT (E.notT (E.tv (E.fn F.isiA (E.consA (E.var 1) (E.consA (E.c (.cls "tuple")) E.nilA))))) (E.orT (E.tv (E.op2 F.eq0 (E.fn F.len (E.consA (E.var 1) E.nilA)) (E.c (.int 0)))) (E.notT (E.tv (E.fn F.all_ (E.consA (E.comp [2] (G.name 2) (I.all (E.var 1)) E.yes (E.call F_is_lot (E.consA (E.var 2) (E.consA (E.var 0) E.nilA)))) E.nilA)))))) (S.ret (E.c (.bl false))) S.skip)
noncomputable def m_are_lots : MS := (S.seq b_are_lots_1
    (S.ret (E.fn F.all_ (E.consA (E.comp [3, 4] (G.tup (G.consT (G.name 3) (G.consT (G.name 4) G.nilT))) (I.zip (E.consA (E.var 1) (E.consA (E.slice (E.var 1) (some (E.c (.int 1))) none) E.nilA))) E.yes (E.op2 F.lt (E.var 3) (E.var 4))) E.nilA))))
noncomputable def F_are_lots : Fn := fnA 2 5 m_are_lots
noncomputable def m_Family___eq__ : MS := (S.ret (E.andV (E.fn F.isiA (E.consA (E.var 1) (E.consA (E.c (.own "Family")) E.nilA))) (E.op2 F.eq0 (E.tup (E.consA (E.op1 (F.famAttr "points") (E.var 0)) (E.consA (E.op1 (F.famAttr "lots") (E.var 0)) E.nilA))) (E.tup (E.consA (E.op1 (F.famAttr "points") (E.var 1)) (E.consA (E.op1 (F.famAttr "lots") (E.var 1)) E.nilA))))))
noncomputable def F_Family___eq__ : Fn := fnA 2 2 m_Family___eq__
noncomputable def m_Family___init__ : MS := (S.seq (S.ite (E.notT (E.tv (E.call F_is_within (E.consA (E.var 1) (E.consA (E.c (.int 1)) (E.consA (E.c (.int 6)) E.nilA)))))) S.never S.skip)
    (S.seq (S.ite (E.notT (E.tv (E.call F_are_lots (E.consA (E.var 1) (E.consA (E.var 2) E.nilA))))) S.never S.skip)
    (S.seq (S.asgX (G.tupX (G.consX (G.fld ["Family"] "points" (E.var 0)) (G.consX (G.fld ["Family"] "lots" (E.var 0)) G.nilX))) (E.tup (E.consA (E.var 1) (E.consA (E.var 2) E.nilA))))
    (S.asgX (G.fld ["Family"] "looked" (E.var 0)) (E.dctB false)))))
noncomputable def F_Family___init__ : Fn := fnA 3 3 m_Family___init__
noncomputable def m_sum_of : MS := (S.ret (E.fn F.sum_ (E.consA (E.comp [1] (G.name 1) (I.all (E.var 0)) E.yes (E.op2 F.shl (E.c (.int 1)) (E.var 1))) E.nilA)))
noncomputable def F_sum_of : Fn := fnA 1 2 m_sum_of
noncomputable def m_lot_of : MS := (S.ret (E.fn F.tuple_ (E.consA (E.comp [2] (G.name 2) (I.range1 (E.var 1)) (E.tv (E.op2 F.eq0 (E.op2 F.band (E.op2 F.shr (E.var 0) (E.var 2)) (E.c (.int 1))) (E.c (.int 1)))) (E.var 2)) E.nilA)))
noncomputable def F_lot_of : Fn := fnA 2 3 m_lot_of
noncomputable def mk_sums_of : MK := (K.last (E.fn (F.dictP false) (E.consA (E.comp [1] (G.name 1) (I.all (E.op1 (F.famAttr "lots") (E.var 0))) E.yes (E.tup (E.consA (E.call F_sum_of (E.consA (E.var 1) E.nilA)) (E.consA (E.c (.bl true)) E.nilA)))) E.nilA)))
noncomputable def ca_sums_of : Int → D → Option D := caOf mk_sums_of 1
noncomputable def m_sums_of : MS := S.cached ca_sums_of 1
noncomputable def F_sums_of : Fn := fnA 1 2 m_sums_of
noncomputable def m_family_of : MS := (S.ret (E.call (F.newFam F_Family___init__) (E.consA (E.var 0) (E.consA (E.fn F.tuple_ (E.consA (E.fn F.sorted (E.consA (E.comp [2] (G.name 2) (I.all (E.var 1)) E.yes (E.call F_lot_of (E.consA (E.var 2) (E.consA (E.var 0) E.nilA)))) E.nilA)) E.nilA)) E.nilA))))
noncomputable def F_family_of : Fn := fnA 2 3 m_family_of
noncomputable def m_check_point : MS := (S.ite (E.notT (E.tv (E.call F_is_within (E.consA (E.var 1) (E.consA (E.c (.int 0)) (E.consA (E.op2 F.sub (E.op1 (F.famAttr "points") (E.var 0)) (E.c (.int 1))) E.nilA)))))) S.never S.skip)
noncomputable def F_check_point : Fn := fnA 2 2 m_check_point
noncomputable def b_lowered_sums_1 : MS := (S.seq (S.set 4 (E.op2 F.band (E.var 3) (E.op1 F.inv (E.op2 F.shl (E.c (.int 1)) (E.var 1)))))
    (S.store (E.var 2) (E.ite (E.tv (E.op2 F.in_ (E.var 4) (E.var 0))) (E.var 3) (E.var 4)) (E.c (.bl true))))
noncomputable def m_lowered_sums : MS := (S.seq (S.set 2 (E.dctB false))
    (S.seq (S.for_ (G.name 3) (I.all (E.var 0))
    b_lowered_sums_1)
    (S.ret (E.var 2))))
noncomputable def F_lowered_sums : Fn := fnB 2 5 m_lowered_sums
noncomputable def m_lowered : MS := (S.seq (S.expr (E.call F_check_point (E.consA (E.var 0) (E.consA (E.var 1) E.nilA))))
    (S.ret (E.call F_family_of (E.consA (E.op1 (F.famAttr "points") (E.var 0)) (E.consA (E.call F_lowered_sums (E.consA (E.call F_sums_of (E.consA (E.var 0) E.nilA)) (E.consA (E.var 1) E.nilA))) E.nilA)))))
noncomputable def F_lowered : Fn := fnA 2 2 m_lowered
noncomputable def b_is_low_1 : MS := (S.ite (E.notT (E.tv (E.fn F.all_ (E.consA (E.comp [3] (G.name 3) (I.all (E.var 1)) E.yes (E.op2 F.in_ (E.op2 F.band (E.var 3) (E.op1 F.inv (E.op2 F.shl (E.c (.int 1)) (E.var 2)))) (E.var 1))) E.nilA)))) (S.ret (E.c (.bl false))) S.skip)
noncomputable def m_is_low : MS := (S.seq (S.set 1 (E.call F_sums_of (E.consA (E.var 0) E.nilA)))
    (S.seq (S.for_ (G.name 2) (I.range1 (E.op1 (F.famAttr "points") (E.var 0)))
    b_is_low_1)
    (S.ret (E.c (.bl true)))))
noncomputable def F_is_low : Fn := fnA 1 4 m_is_low
noncomputable def m__law_hand : MS := (S.seq (S.set 1 (E.comp [2] (G.name 2) (I.all (E.scr 63 (E.var 0))) E.yes (E.fn F.abs_ (E.consA (E.fn F.int_ (E.consA (E.var 2) E.nilA)) E.nilA))))
    (S.ret (E.lstB (E.consA (E.var 1) (E.consA (E.c (.int 0)) (E.consA (E.c (.int 0)) (E.consA (E.op2 F.add (E.c (.int 227)) (E.op2 F.mul (E.c (.int 29)) (E.fn F.len (E.consA (E.var 1) E.nilA)))) (E.consA (E.c (.int 0)) E.nilA))))))))
noncomputable def F__law_hand : Fn := fnA 1 3 m__law_hand
noncomputable def b__law_draw_1 : MS := (S.ite (E.andT (E.tv (E.op2 F.eq0 (E.op2 F.ix (E.var 0) (E.c (.int 2))) (E.c (.int 0)))) (E.tv (E.op2 F.lt (E.op2 F.ix (E.var 0) (E.c (.int 1))) (E.fn F.len (E.consA (E.op2 F.ix (E.var 0) (E.c (.int 0))) E.nilA))))) (S.seq (S.set 2 (E.op2 F.ix (E.op2 F.ix (E.var 0) (E.c (.int 0))) (E.op2 F.ix (E.var 0) (E.c (.int 1)))))
    (S.seq (S.store (E.var 0) (E.c (.int 1)) (E.op2 F.add (E.op2 F.ix (E.var 0) (E.c (.int 1))) (E.c (.int 1))))
    (S.seq (S.store (E.var 0) (E.c (.int 3)) (E.op2 F.mod (E.fn F.int_ (E.consA (E.op2 F.add (E.op2 F.add (E.op2 F.mul (E.op2 F.ix (E.var 0) (E.c (.int 3))) (E.c (.int 69621))) (E.var 2)) (E.c (.int 29))) E.nilA)) (E.c (.int 2147483629))))
    (S.ite (E.tv (E.op2 F.ge (E.var 2) (E.op2 F.pow (E.c (.int 10)) (E.c (.int 18))))) (S.store (E.var 0) (E.c (.int 2)) (E.var 2)) S.skip)))) S.skip)
noncomputable def m__law_draw : MS := (S.seq b__law_draw_1
    (S.seq (S.ite (E.tv (E.op2 F.gt (E.op2 F.ix (E.var 0) (E.c (.int 2))) (E.c (.int 0)))) (S.seq (S.set 3 (E.op2 F.mod (E.fn F.int_ (E.consA (E.op2 F.ix (E.var 0) (E.c (.int 2))) E.nilA)) (E.var 1)))
    (S.seq (S.store (E.var 0) (E.c (.int 2)) (E.op2 F.fdiv (E.op2 F.ix (E.var 0) (E.c (.int 2))) (E.var 1)))
    (S.ret (E.var 3)))) S.skip)
    (S.seq (S.store (E.var 0) (E.c (.int 4)) (E.op2 F.add (E.op2 F.ix (E.var 0) (E.c (.int 4))) (E.c (.int 1))))
    (S.seq (S.set 4 (E.op2 F.mod (E.fn F.int_ (E.consA (E.op2 F.mul (E.fn F.int_ (E.consA (E.op2 F.add (E.op2 F.ix (E.var 0) (E.c (.int 3))) (E.op2 F.mul (E.c (.int 7919)) (E.op2 F.ix (E.var 0) (E.c (.int 4))))) E.nilA)) (E.c (.int 48271))) E.nilA)) (E.c (.int 2147483647))))
    (S.seq (S.set 4 (E.op2 F.mod (E.fn F.int_ (E.consA (E.op2 F.mul (E.var 4) (E.op2 F.add (E.op2 F.fdiv (E.var 4) (E.c (.int 1009))) (E.c (.int 69621)))) E.nilA)) (E.c (.int 2147483647))))
    (S.seq (S.set 4 (E.op2 F.mod (E.fn F.int_ (E.consA (E.op2 F.mul (E.var 4) (E.op2 F.add (E.op2 F.fdiv (E.var 4) (E.c (.int 2003))) (E.c (.int 40692)))) E.nilA)) (E.c (.int 2147483399))))
    (S.ret (E.op2 F.mod (E.fn F.int_ (E.consA (E.op2 F.fdiv (E.var 4) (E.c (.int 16))) E.nilA)) (E.var 1)))))))))
noncomputable def F__law_draw : Fn := fnA 2 5 m__law_draw
noncomputable def m__law_some : MS := (S.ret (E.op2 F.ix (E.var 1) (E.call F__law_draw (E.consA (E.var 0) (E.consA (E.fn F.len (E.consA (E.var 1) E.nilA)) E.nilA)))))
noncomputable def F__law_some : Fn := fnA 2 2 m__law_some
noncomputable def b__law_is_1 : MS := (S.ite (E.orT (E.tv (E.fn F.isiA (E.consA (E.var 0) (E.consA (E.c (.cls "bool")) E.nilA)))) (E.tv (E.fn F.isiA (E.consA (E.var 1) (E.consA (E.c (.cls "bool")) E.nilA))))) (S.ret (E.andV (E.fn F.isiA (E.consA (E.var 0) (E.consA (E.c (.cls "bool")) E.nilA))) (E.andV (E.fn F.isiA (E.consA (E.var 1) (E.consA (E.c (.cls "bool")) E.nilA))) (E.op2 F.eq0 (E.var 0) (E.var 1))))) S.skip)
noncomputable def b__law_is_2 : MS := (S.ite (E.orT (E.tv (E.op2 F.ne0 (E.fn F.isiA (E.consA (E.var 0) (E.consA (E.c (.cls "tuple")) E.nilA))) (E.fn F.isiA (E.consA (E.var 1) (E.consA (E.c (.cls "tuple")) E.nilA))))) (E.tv (E.op2 F.ne0 (E.fn F.isiA (E.consA (E.var 0) (E.consA (E.c (.cls "list")) E.nilA))) (E.fn F.isiA (E.consA (E.var 1) (E.consA (E.c (.cls "list")) E.nilA)))))) (S.ret (E.c (.bl false))) S.skip)
noncomputable def b__law_is_3 (rec : Fn) : MS := (S.ite (E.orT (E.tv (E.fn F.isiA (E.consA (E.var 0) (E.consA (E.c (.cls "tuple")) E.nilA)))) (E.tv (E.fn F.isiA (E.consA (E.var 0) (E.consA (E.c (.cls "list")) E.nilA))))) (S.seq b__law_is_2
    (S.ret (E.andV (E.op2 F.eq0 (E.fn F.len (E.consA (E.var 0) E.nilA)) (E.fn F.len (E.consA (E.var 1) E.nilA))) (E.fn F.all_ (E.consA (E.comp [2, 3] (G.tup (G.consT (G.name 2) (G.consT (G.name 3) G.nilT))) (I.zip (E.consA (E.var 0) (E.consA (E.var 1) E.nilA))) E.yes (E.call rec (E.consA (E.var 2) (E.consA (E.var 3) E.nilA)))) E.nilA))))) S.skip)
noncomputable def b__law_is_4 (rec : Fn) : MS := (S.ite (E.tv (E.fn F.isiA (E.consA (E.var 0) (E.consA (E.c (.cls "dict")) E.nilA)))) (S.seq (S.ite (E.orT (E.notT (E.tv (E.fn F.isiA (E.consA (E.var 1) (E.consA (E.c (.cls "dict")) E.nilA))))) (E.tv (E.op2 F.ne0 (E.fn F.len (E.consA (E.var 0) E.nilA)) (E.fn F.len (E.consA (E.var 1) E.nilA))))) (S.ret (E.c (.bl false))) S.skip)
    (S.ret (E.fn F.all_ (E.consA (E.comp [4] (G.name 4) (I.all (E.var 0)) E.yes (E.andV (E.op2 F.in_ (E.var 4) (E.var 1)) (E.call rec (E.consA (E.op2 F.ix (E.var 0) (E.var 4)) (E.consA (E.op2 F.ix (E.var 1) (E.var 4)) E.nilA))))) E.nilA)))) S.skip)
noncomputable def m__law_is (rec : Fn) : MS := (S.seq b__law_is_1
    (S.seq (b__law_is_3 rec)
    (S.seq (b__law_is_4 rec)
    (S.ret (E.andV (E.op2 F.eq0 (E.fn F.isiA (E.consA (E.var 0) (E.consA (E.c (.cls "int")) E.nilA))) (E.fn F.isiA (E.consA (E.var 1) (E.consA (E.c (.cls "int")) E.nilA)))) (E.op2 F.eq0 (E.var 0) (E.var 1)))))))
noncomputable def F__law_is : Nat → Fn
  | 0 => fnA 2 5 S.never
  | k + 1 => fnA 2 5 (m__law_is (F__law_is k))
noncomputable def b__law_lots_1 : MS := (S.set 1 (E.op2 F.add (E.var 1) (E.comp [3] (G.name 3) (I.all (E.var 1)) E.yes (E.op2 F.add (E.var 3) (E.tup (E.consA (E.var 2) E.nilA))))))
noncomputable def m__law_lots : MS := (S.seq (S.set 1 (E.lst (E.consA (E.tup E.nilA) E.nilA)))
    (S.seq (S.for_ (G.name 2) (I.range1 (E.var 0))
    b__law_lots_1)
    (S.ret (E.comp [4, 3] (G.tup (G.consT (G.name 4) (G.consT (G.name 3) G.nilT))) (I.all (E.fn F.sorted (E.consA (E.comp [3] (G.name 3) (I.all (E.var 1)) E.yes (E.tup (E.consA (E.fn F.len (E.consA (E.var 3) E.nilA)) (E.consA (E.var 3) E.nilA)))) E.nilA))) E.yes (E.var 3)))))
noncomputable def F__law_lots : Fn := fnA 1 5 m__law_lots
noncomputable def m__law_apart : MS := (S.ret (E.fn F.tuple_ (E.consA (E.fn F.sorted (E.consA (E.comp [2] (G.name 2) (I.all (E.op2 F.add (E.var 0) (E.var 1))) (E.tv (E.op2 F.ne0 (E.op2 F.in_ (E.var 2) (E.var 0)) (E.op2 F.in_ (E.var 2) (E.var 1)))) (E.var 2)) E.nilA)) E.nilA)))
noncomputable def F__law_apart : Fn := fnA 2 3 m__law_apart
noncomputable def b__law_family_1 : MS := (S.ite (E.andT (E.tv (E.op2 F.eq0 (E.var 3) (E.c (.int 1)))) (E.tv (E.op2 F.eq0 (E.call F__law_draw (E.consA (E.var 0) (E.consA (E.c (.int 2)) E.nilA))) (E.c (.int 0))))) (S.set 6 (E.op2 F.add (E.comp [7] (G.name 7) (I.all (E.slice (E.var 6) none (some (E.c (.int 1))))) E.yes (E.call F__law_apart (E.consA (E.var 7) (E.consA (E.op2 F.ix (E.var 4) (E.call F__law_draw (E.consA (E.var 0) (E.consA (E.fn F.len (E.consA (E.var 4) E.nilA)) E.nilA)))) E.nilA)))) (E.slice (E.var 6) (some (E.c (.int 1))) none))) S.skip)
noncomputable def t__law_family_1 : MS := (S.par 2 3 (E.consA (E.op2 F.add (E.c (.int 1)) (E.call F__law_draw (E.consA (E.var 0) (E.consA (E.var 1) E.nilA)))) (E.consA (E.call F__law_draw (E.consA (E.var 0) (E.consA (E.c (.int 4)) E.nilA))) E.nilA)))
noncomputable def t__law_family_2 : MS := (S.asg (G.tup (G.consT (G.name 4) (G.consT (G.name 5) G.nilT))) (E.tup (E.consA (E.call F__law_lots (E.consA (E.var 2) E.nilA)) (E.consA (E.op2 F.add (E.c (.int 2)) (E.call F__law_draw (E.consA (E.var 0) (E.consA (E.c (.int 4)) E.nilA)))) E.nilA))))
noncomputable def t__law_family_3 : MS := (S.set 6 (E.comp [7] (G.name 7) (I.all (E.var 4)) (E.tv (E.op2 F.eq0 (E.call F__law_draw (E.consA (E.var 0) (E.consA (E.var 5) E.nilA))) (E.c (.int 0)))) (E.var 7)))
noncomputable def t__law_family_4 : MS := (S.ite (E.tv (E.op2 F.eq0 (E.var 3) (E.c (.int 0)))) (S.set 6 (E.slice (E.var 6) none (some (E.c (.int 3))))) S.skip)
noncomputable def t__law_family_5 : MS := (S.ite (E.tv (E.op2 F.eq0 (E.var 3) (E.c (.int 1)))) (S.set 6 (E.comp [7] (G.name 7) (I.all (E.var 4)) (E.tv (E.fn F.any_ (E.consA (E.comp [8] (G.name 8) (I.all (E.var 6)) E.yes (E.fn F.all_ (E.consA (E.comp [9] (G.name 9) (I.all (E.var 7)) E.yes (E.op2 F.in_ (E.var 9) (E.var 8))) E.nilA))) E.nilA))) (E.var 7))) S.skip)
noncomputable def t__law_family_6 : MS := b__law_family_1
noncomputable def t__law_family_7 : MS := (S.ite (E.tv (E.op2 F.eq0 (E.fn F.len (E.consA (E.var 6) E.nilA)) (E.c (.int 0)))) (S.set 6 (E.lst (E.consA (E.call F__law_some (E.consA (E.var 0) (E.consA (E.var 4) E.nilA))) E.nilA))) S.skip)
noncomputable def t__law_family_8 : MS := (S.ret (E.tup (E.consA (E.var 2) (E.consA (E.fn F.tuple_ (E.consA (E.op1 F.sortSet (E.var 6)) E.nilA)) E.nilA))))
noncomputable def m__law_family : MS := (S.seq t__law_family_1
    (S.seq t__law_family_2
    (S.seq t__law_family_3
    (S.seq t__law_family_4
    (S.seq t__law_family_5
    (S.seq t__law_family_6
    (S.seq t__law_family_7
    t__law_family_8)))))))
noncomputable def F__law_family : Fn := fnA 2 10 m__law_family
noncomputable def b__law_within_1 : MS := (S.set 1 (E.op2 F.add (E.var 1) (E.comp [3] (G.name 3) (I.all (E.var 1)) E.yes (E.op2 F.add (E.var 3) (E.tup (E.consA (E.var 2) E.nilA))))))
noncomputable def m__law_within : MS := (S.seq (S.set 1 (E.lst (E.consA (E.tup E.nilA) E.nilA)))
    (S.seq (S.for_ (G.name 2) (I.all (E.var 0))
    b__law_within_1)
    (S.ret (E.var 1))))
noncomputable def F__law_within : Fn := fnA 1 4 m__law_within
noncomputable def b__law_lowered_1 : MS := (S.seq (S.set 5 (E.fn F.tuple_ (E.consA (E.comp [6] (G.name 6) (I.all (E.var 4)) (E.tv (E.op2 F.ne0 (E.var 6) (E.var 1))) (E.var 6)) E.nilA)))
    (S.expr (E.mth F.isL F.append (E.var 3) (E.consA (E.ite (E.orT (E.tv (E.op2 F.notIn (E.var 1) (E.var 4))) (E.tv (E.op2 F.in_ (E.var 5) (E.var 2)))) (E.var 4) (E.var 5)) E.nilA))))
noncomputable def m__law_lowered : MS := (S.seq (S.set 2 (E.fn (F.dictP true) (E.consA (E.comp [4] (G.name 4) (I.all (E.op2 F.ix (E.var 0) (E.c (.int 1)))) E.yes (E.tup (E.consA (E.var 4) (E.consA (E.c (.bl true)) E.nilA)))) E.nilA)))
    (S.seq (S.set 3 (E.lstB E.nilA))
    (S.seq (S.for_ (G.name 4) (I.all (E.op2 F.ix (E.var 0) (E.c (.int 1))))
    b__law_lowered_1)
    (S.ret (E.tup (E.consA (E.op2 F.ix (E.var 0) (E.c (.int 0))) (E.consA (E.fn F.tuple_ (E.consA (E.fn F.sorted (E.consA (E.var 3) E.nilA)) E.nilA)) E.nilA)))))))
noncomputable def F__law_lowered : Fn := fnB 2 7 m__law_lowered
noncomputable def m__law_is_low : MS := (S.seq (S.set 1 (E.fn (F.dictP true) (E.consA (E.comp [2] (G.name 2) (I.all (E.op2 F.ix (E.var 0) (E.c (.int 1)))) E.yes (E.tup (E.consA (E.var 2) (E.consA (E.c (.bl true)) E.nilA)))) E.nilA)))
    (S.ret (E.fn F.all_ (E.consA (E.comp [2] (G.name 2) (I.all (E.op2 F.ix (E.var 0) (E.c (.int 1)))) E.yes (E.fn F.all_ (E.consA (E.comp [3] (G.name 3) (I.all (E.call F__law_within (E.consA (E.var 2) E.nilA))) E.yes (E.op2 F.in_ (E.fn F.tuple_ (E.consA (E.fn F.sorted (E.consA (E.var 3) E.nilA)) E.nilA)) (E.var 1))) E.nilA))) E.nilA))))
noncomputable def F__law_is_low : Fn := fnA 1 4 m__law_is_low
noncomputable def m__law_made : MS := (S.ret (E.call (F.newFam F_Family___init__) (E.consA (E.op2 F.ix (E.var 0) (E.c (.int 0))) (E.consA (E.op2 F.ix (E.var 0) (E.c (.int 1))) E.nilA))))
noncomputable def F__law_made : Fn := fnA 1 1 m__law_made
noncomputable def b_law_1 : MS := (S.seq (S.par 8 9 (E.consA (E.call F_lowered (E.consA (E.var 4) (E.consA (E.var 7) E.nilA))) (E.consA (E.call F__law_lowered (E.consA (E.var 3) (E.consA (E.var 7) E.nilA))) E.nilA)))
    (S.seq (S.ite (E.orT (E.notT (E.tv (E.fn F.isiA (E.consA (E.var 8) (E.consA (E.c (.own "Family")) E.nilA))))) (E.notT (E.tv (E.call (F__law_is 12) (E.consA (E.tup (E.consA (E.op1 (F.famAttr "points") (E.var 8)) (E.consA (E.op1 (F.famAttr "lots") (E.var 8)) E.nilA))) (E.consA (E.var 9) E.nilA)))))) (S.ret (E.c (.bl false))) S.skip)
    (S.seq (S.ite (E.orT (E.tv (E.op2s (F.neS F_Family___eq__) (E.call F_lowered (E.consA (E.var 8) (E.consA (E.var 7) E.nilA))) (E.var 8))) (E.tv (E.op2 F.ne0 (E.fn F.len (E.consA (E.op1 (F.famAttr "lots") (E.var 8)) E.nilA)) (E.fn F.len (E.consA (E.op2 F.ix (E.var 3) (E.c (.int 1))) E.nilA))))) (S.ret (E.c (.bl false))) S.skip)
    (S.set 6 (E.andV (E.var 6) (E.op2s (F.eqS F_Family___eq__) (E.var 8) (E.var 4)))))))
noncomputable def b_law_2 : MS := (S.seq (S.set 3 (E.call F__law_family (E.consA (E.var 1) (E.consA (E.c (.int 5)) E.nilA))))
    (S.seq (S.par 4 5 (E.consA (E.call F__law_made (E.consA (E.var 3) E.nilA)) (E.consA (E.call F__law_is_low (E.consA (E.var 3) E.nilA)) E.nilA)))
    (S.seq (S.ite (E.notT (E.tv (E.call (F__law_is 12) (E.consA (E.call F_is_low (E.consA (E.var 4) E.nilA)) (E.consA (E.var 5) E.nilA))))) (S.ret (E.c (.bl false))) S.skip)
    (S.seq (S.set 6 (E.c (.bl true)))
    (S.seq (S.for_ (G.name 7) (I.range1 (E.op2 F.ix (E.var 3) (E.c (.int 0))))
    b_law_1)
    (S.ite (E.orT (E.tv (E.op2 F.ne0 (E.var 6) (E.var 5))) (E.tv (E.op2s (F.neS F_Family___eq__) (E.var 4) (E.call F__law_made (E.consA (E.var 3) E.nilA))))) (S.ret (E.c (.bl false))) S.skip))))))
noncomputable def t_law_1 : MS := (S.set 1 (E.call F__law_hand (E.consA (E.var 0) E.nilA)))
noncomputable def t_law_2 : MS := (S.for_ (G.name 2) (I.range1 (E.c (.int 3)))
    b_law_2)
noncomputable def t_law_3 : MS := (S.ret (E.andV (E.op2s (F.eqS F_Family___eq__) (E.call F_lowered (E.consA (E.call (F.newFam F_Family___init__) (E.consA (E.c (.int 2)) (E.consA (E.tup (E.consA (E.tup (E.consA (E.c (.int 0)) E.nilA)) (E.consA (E.tup (E.consA (E.c (.int 0)) (E.consA (E.c (.int 1)) E.nilA))) E.nilA))) E.nilA))) (E.consA (E.c (.int 0)) E.nilA))) (E.call (F.newFam F_Family___init__) (E.consA (E.c (.int 2)) (E.consA (E.tup (E.consA (E.tup E.nilA) (E.consA (E.tup (E.consA (E.c (.int 1)) E.nilA)) E.nilA))) E.nilA)))) (E.op2 F.is_ (E.call F_is_low (E.consA (E.call (F.newFam F_Family___init__) (E.consA (E.c (.int 1)) (E.consA (E.tup (E.consA (E.tup (E.consA (E.c (.int 0)) E.nilA)) E.nilA)) E.nilA))) E.nilA)) (E.c (.bl false)))))
noncomputable def m_law : MS := (S.seq t_law_1
    (S.seq t_law_2
    t_law_3))
noncomputable def F_law : Fn := fnA 1 10 m_law
end Sm.Pr
/-! ## Mean23 -/
/-! the plain meanings of the text of law_k23_whole_telling_lots, those that are new with it. Printed by gen.py. -/
namespace Sm.Pr
open PySem PySem.Spec L2 Sm
noncomputable def m_is_lot_of : MS := (S.ret (E.call F_is_lot (E.consA (E.var 1) (E.consA (E.op1 (F.famAttr "points") (E.var 0)) E.nilA))))
noncomputable def F_is_lot_of : Fn := fnA 2 2 m_is_lot_of
noncomputable def m_check_lot : MS := (S.ite (E.notT (E.tv (E.call F_is_lot_of (E.consA (E.var 0) (E.consA (E.var 1) E.nilA))))) S.never S.skip)
noncomputable def F_check_lot : Fn := fnA 2 2 m_check_lot
noncomputable def m_check_member : MS := (S.ite (E.notT (E.tv (E.call F_is_within (E.consA (E.var 1) (E.consA (E.c (.int 0)) (E.consA (E.op2 F.sub (E.fn F.len (E.consA (E.op1 (F.famAttr "lots") (E.var 0)) E.nilA)) (E.c (.int 1))) E.nilA)))))) S.never S.skip)
noncomputable def F_check_member : Fn := fnA 2 2 m_check_member
noncomputable def m_differing : MS := (S.ret (E.fn F.tuple_ (E.consA (E.fn F.sorted (E.consA (E.comp [2] (G.name 2) (I.all (E.op2 F.add (E.var 0) (E.var 1))) (E.tv (E.op2 F.ne0 (E.op2 F.in_ (E.var 2) (E.var 0)) (E.op2 F.in_ (E.var 2) (E.var 1)))) (E.var 2)) E.nilA)) E.nilA)))
noncomputable def F_differing : Fn := fnA 2 3 m_differing
noncomputable def b_all_lots_1 : MS := (S.set 1 (E.op2 F.add (E.var 1) (E.comp [3] (G.name 3) (I.all (E.var 1)) E.yes (E.op2 F.add (E.var 3) (E.tup (E.consA (E.var 2) E.nilA))))))
noncomputable def m_all_lots : MS := (S.seq (S.set 1 (E.lst (E.consA (E.tup E.nilA) E.nilA)))
    (S.seq (S.for_ (G.name 2) (I.range1 (E.var 0))
    b_all_lots_1)
    (S.ret (E.comp [4, 3] (G.tup (G.consT (G.name 4) (G.consT (G.name 3) G.nilT))) (I.all (E.fn F.sorted (E.consA (E.comp [3] (G.name 3) (I.all (E.var 1)) E.yes (E.tup (E.consA (E.fn F.len (E.consA (E.var 3) E.nilA)) (E.consA (E.var 3) E.nilA)))) E.nilA))) E.yes (E.var 3)))))
noncomputable def F_all_lots : Fn := fnA 1 5 m_all_lots
noncomputable def b_least_of_1 : MS := (S.ite (E.notT (E.tv (E.fn F.any_ (E.consA (E.compR [3] (G.name 3) (E.var 1) E.yes (E.fn F.all_ (E.consA (E.comp [4] (G.name 4) (I.all (E.var 3)) E.yes (E.op2 F.in_ (E.var 4) (E.var 2))) E.nilA))) E.nilA)))) (S.expr (E.mth F.isL F.append (E.var 1) (E.consA (E.var 2) E.nilA))) S.skip)
noncomputable def m_least_of : MS := (S.seq (S.set 1 (E.lstB E.nilA))
    (S.seq (S.for_ (G.name 2) (I.all (E.var 0))
    b_least_of_1)
    (S.ret (E.fn F.tuple_ (E.consA (E.fn F.sorted (E.consA (E.var 1) E.nilA)) E.nilA)))))
noncomputable def F_least_of : Fn := fnB 1 5 m_least_of
noncomputable def m_do_meet : MS := (S.ret (E.fn F.all_ (E.consA (E.comp [2] (G.name 2) (I.all (E.var 1)) E.yes (E.fn F.any_ (E.consA (E.comp [3] (G.name 3) (I.all (E.var 2)) E.yes (E.op2 F.in_ (E.var 3) (E.var 0))) E.nilA))) E.nilA)))
noncomputable def F_do_meet : Fn := fnA 2 4 m_do_meet
noncomputable def m_all_differences : MS := (S.seq (S.set 2 (E.op2 F.ix (E.op1 (F.famAttr "lots") (E.var 0)) (E.var 1)))
    (S.ret (E.comp [3] (G.name 3) (I.all (E.op1 (F.famAttr "lots") (E.var 0))) (E.tv (E.op2 F.ne0 (E.var 3) (E.var 2))) (E.call F_differing (E.consA (E.var 2) (E.consA (E.var 3) E.nilA))))))
noncomputable def F_all_differences : Fn := fnA 2 4 m_all_differences
noncomputable def m_tells : MS := (S.seq (S.expr (E.call F_check_lot (E.consA (E.var 0) (E.consA (E.var 1) E.nilA))))
    (S.seq (S.expr (E.call F_check_member (E.consA (E.var 0) (E.consA (E.var 2) E.nilA))))
    (S.ret (E.call F_do_meet (E.consA (E.var 1) (E.consA (E.call F_all_differences (E.consA (E.var 0) (E.consA (E.var 2) E.nilA))) E.nilA))))))
noncomputable def F_tells : Fn := fnA 3 3 m_tells
noncomputable def m_telling_in : MS := (S.seq (S.set 2 (E.call F_all_differences (E.consA (E.var 0) (E.consA (E.var 1) E.nilA))))
    (S.ret (E.call F_least_of (E.consA (E.comp [3] (G.name 3) (I.all (E.call F_all_lots (E.consA (E.op1 (F.famAttr "points") (E.var 0)) E.nilA))) (E.tv (E.call F_do_meet (E.consA (E.var 3) (E.consA (E.var 2) E.nilA)))) (E.var 3)) E.nilA))))
noncomputable def F_telling_in : Fn := fnA 2 4 m_telling_in
noncomputable def m_telling : MS := (S.seq (S.expr (E.call F_check_member (E.consA (E.var 0) (E.consA (E.var 1) E.nilA))))
    (S.ret (E.call F_telling_in (E.consA (E.var 0) (E.consA (E.var 1) E.nilA)))))
noncomputable def F_telling : Fn := fnA 2 2 m_telling
noncomputable def m_fewest_in : MS := (S.ret (E.op2 F.ix (E.fn F.minO (E.consA (E.comp [2] (G.name 2) (I.all (E.call F_telling_in (E.consA (E.var 0) (E.consA (E.var 1) E.nilA)))) E.yes (E.tup (E.consA (E.fn F.len (E.consA (E.var 2) E.nilA)) (E.consA (E.var 2) E.nilA)))) E.nilA)) (E.c (.int 1))))
noncomputable def F_fewest_in : Fn := fnA 2 3 m_fewest_in
noncomputable def m_fewest_telling : MS := (S.seq (S.expr (E.call F_check_member (E.consA (E.var 0) (E.consA (E.var 1) E.nilA))))
    (S.ret (E.call F_fewest_in (E.consA (E.var 0) (E.consA (E.var 1) E.nilA)))))
noncomputable def F_fewest_telling : Fn := fnA 2 2 m_fewest_telling
noncomputable def m_differences : MS := (S.seq (S.expr (E.call F_check_member (E.consA (E.var 0) (E.consA (E.var 1) E.nilA))))
    (S.ret (E.call F_least_of (E.consA (E.comp [3, 2] (G.tup (G.consT (G.name 3) (G.consT (G.name 2) G.nilT))) (I.all (E.fn F.sorted (E.consA (E.comp [2] (G.name 2) (I.all (E.call F_all_differences (E.consA (E.var 0) (E.consA (E.var 1) E.nilA)))) E.yes (E.tup (E.consA (E.fn F.len (E.consA (E.var 2) E.nilA)) (E.consA (E.var 2) E.nilA)))) E.nilA))) E.yes (E.var 2)) E.nilA))))
noncomputable def F_differences : Fn := fnA 2 4 m_differences
noncomputable def m__law_hand_v2 : MS := (S.seq (S.set 1 (E.comp [2] (G.name 2) (I.all (E.scr 63 (E.var 0))) E.yes (E.fn F.abs_ (E.consA (E.fn F.int_ (E.consA (E.var 2) E.nilA)) E.nilA))))
    (S.ret (E.lstB (E.consA (E.var 1) (E.consA (E.c (.int 0)) (E.consA (E.c (.int 0)) (E.consA (E.op2 F.add (E.c (.int 7)) (E.fn F.len (E.consA (E.var 1) E.nilA))) (E.consA (E.c (.int 0)) E.nilA))))))))
noncomputable def F__law_hand_v2 : Fn := fnA 1 3 m__law_hand_v2
noncomputable def b__law_draw_v2_1 : MS := (S.ite (E.andT (E.tv (E.op2 F.eq0 (E.op2 F.ix (E.var 0) (E.c (.int 2))) (E.c (.int 0)))) (E.tv (E.op2 F.lt (E.op2 F.ix (E.var 0) (E.c (.int 1))) (E.fn F.len (E.consA (E.op2 F.ix (E.var 0) (E.c (.int 0))) E.nilA))))) (S.seq (S.set 2 (E.op2 F.ix (E.op2 F.ix (E.var 0) (E.c (.int 0))) (E.op2 F.ix (E.var 0) (E.c (.int 1)))))
    (S.seq (S.store (E.var 0) (E.c (.int 1)) (E.op2 F.add (E.op2 F.ix (E.var 0) (E.c (.int 1))) (E.c (.int 1))))
    (S.seq (S.store (E.var 0) (E.c (.int 3)) (E.op2 F.mod (E.fn F.int_ (E.consA (E.op2 F.add (E.op2 F.add (E.op2 F.mul (E.op2 F.ix (E.var 0) (E.c (.int 3))) (E.c (.int 69621))) (E.op2 F.mul (E.var 2) (E.c (.int 16)))) (E.c (.int 29))) E.nilA)) (E.c (.int 2147483629))))
    (S.ite (E.tv (E.op2 F.ge (E.var 2) (E.op2 F.pow (E.c (.int 10)) (E.c (.int 18))))) (S.store (E.var 0) (E.c (.int 2)) (E.var 2)) S.skip)))) S.skip)
noncomputable def m__law_draw_v2 : MS := (S.seq b__law_draw_v2_1
    (S.seq (S.ite (E.tv (E.op2 F.gt (E.op2 F.ix (E.var 0) (E.c (.int 2))) (E.c (.int 0)))) (S.seq (S.set 3 (E.op2 F.mod (E.fn F.int_ (E.consA (E.op2 F.ix (E.var 0) (E.c (.int 2))) E.nilA)) (E.var 1)))
    (S.seq (S.store (E.var 0) (E.c (.int 2)) (E.op2 F.fdiv (E.op2 F.ix (E.var 0) (E.c (.int 2))) (E.var 1)))
    (S.ret (E.var 3)))) S.skip)
    (S.seq (S.store (E.var 0) (E.c (.int 4)) (E.op2 F.add (E.op2 F.ix (E.var 0) (E.c (.int 4))) (E.c (.int 1))))
    (S.seq (S.set 4 (E.op2 F.mod (E.fn F.int_ (E.consA (E.op2 F.mul (E.fn F.int_ (E.consA (E.op2 F.add (E.op2 F.ix (E.var 0) (E.c (.int 3))) (E.op2 F.mul (E.c (.int 7919)) (E.op2 F.ix (E.var 0) (E.c (.int 4))))) E.nilA)) (E.c (.int 48271))) E.nilA)) (E.c (.int 2147483647))))
    (S.seq (S.set 4 (E.op2 F.mod (E.fn F.int_ (E.consA (E.op2 F.mul (E.var 4) (E.op2 F.add (E.op2 F.fdiv (E.var 4) (E.c (.int 1009))) (E.c (.int 69621)))) E.nilA)) (E.c (.int 2147483647))))
    (S.seq (S.set 4 (E.op2 F.mod (E.fn F.int_ (E.consA (E.op2 F.mul (E.var 4) (E.op2 F.add (E.op2 F.fdiv (E.var 4) (E.c (.int 2003))) (E.c (.int 40692)))) E.nilA)) (E.c (.int 2147483399))))
    (S.ret (E.op2 F.mod (E.fn F.int_ (E.consA (E.op2 F.fdiv (E.var 4) (E.c (.int 16))) E.nilA)) (E.var 1)))))))))
noncomputable def F__law_draw_v2 : Fn := fnA 2 5 m__law_draw_v2
noncomputable def m__law_any : MS := (S.ret (E.op2 F.ix (E.var 1) (E.call F__law_draw_v2 (E.consA (E.var 0) (E.consA (E.fn F.len (E.consA (E.var 1) E.nilA)) E.nilA)))))
noncomputable def F__law_any : Fn := fnA 2 2 m__law_any
noncomputable def b__law_is_v2_1 : MS := (S.ite (E.orT (E.tv (E.op2 F.ne0 (E.fn F.isiA (E.consA (E.var 0) (E.consA (E.c (.cls "bool")) E.nilA))) (E.fn F.isiA (E.consA (E.var 1) (E.consA (E.c (.cls "bool")) E.nilA))))) (E.tv (E.op2 F.ne0 (E.fn F.isiA (E.consA (E.var 0) (E.consA (E.c (.cls "int")) E.nilA))) (E.fn F.isiA (E.consA (E.var 1) (E.consA (E.c (.cls "int")) E.nilA)))))) (S.ret (E.c (.bl false))) S.skip)
noncomputable def m__law_is_v2 (rec : Fn) : MS := (S.seq b__law_is_v2_1
    (S.ret (E.op2 F.eq0 (E.var 0) (E.var 1))))
noncomputable def F__law_is_v2 : Nat → Fn
  | 0 => fnA 2 2 S.never
  | k + 1 => fnA 2 2 (m__law_is_v2 (F__law_is_v2 k))
noncomputable def b__law_within_v2_1 : MS := (S.set 1 (E.op2 F.add (E.var 1) (E.comp [3] (G.name 3) (I.all (E.var 1)) E.yes (E.op2 F.add (E.var 3) (E.tup (E.consA (E.var 2) E.nilA))))))
noncomputable def m__law_within_v2 : MS := (S.seq (S.set 1 (E.lst (E.consA (E.tup E.nilA) E.nilA)))
    (S.seq (S.for_ (G.name 2) (I.all (E.var 0))
    b__law_within_v2_1)
    (S.ret (E.var 1))))
noncomputable def F__law_within_v2 : Fn := fnA 1 4 m__law_within_v2
noncomputable def b__law_family_v2_1 : MS := (S.ite (E.andT (E.tv (E.op2 F.eq0 (E.var 3) (E.c (.int 1)))) (E.tv (E.op2 F.gt (E.fn F.len (E.consA (E.var 4) E.nilA)) (E.c (.int 0))))) (S.seq (S.set 7 (E.op2 F.ix (E.fn F.sortedK (E.consA (E.var 4) E.nilA)) (E.call F__law_draw_v2 (E.consA (E.var 0) (E.consA (E.fn F.len (E.consA (E.var 4) E.nilA)) E.nilA)))))
    (S.seq (S.set 8 (E.call F__law_draw_v2 (E.consA (E.var 0) (E.consA (E.var 2) E.nilA))))
    (S.set 6 (E.fn F.tuple_ (E.consA (E.fn F.sorted (E.consA (E.comp [10] (G.name 10) (I.range1 (E.var 2)) (E.tv (E.op2 F.ne0 (E.op2 F.in_ (E.var 10) (E.var 7)) (E.op2 F.eq0 (E.var 10) (E.var 8)))) (E.var 10)) E.nilA)) E.nilA))))) S.skip)
noncomputable def b__law_family_v2_2 : MS := (S.store (E.var 4) (E.var 9) (E.c (.bl true)))
noncomputable def b__law_family_v2_3 : MS := (S.seq (S.set 6 (E.fn F.tuple_ (E.consA (E.comp [8] (G.name 8) (I.range1 (E.var 2)) (E.tv (E.op2 F.eq0 (E.call F__law_draw_v2 (E.consA (E.var 0) (E.consA (E.c (.int 2)) E.nilA))) (E.c (.int 0)))) (E.var 8)) E.nilA)))
    (S.seq b__law_family_v2_1
    (S.seq (S.store (E.var 4) (E.var 6) (E.c (.bl true)))
    (S.ite (E.andT (E.tv (E.op2 F.eq0 (E.var 3) (E.c (.int 2)))) (E.tv (E.op2 F.eq0 (E.call F__law_draw_v2 (E.consA (E.var 0) (E.consA (E.c (.int 2)) E.nilA))) (E.c (.int 0))))) (S.for_ (G.name 9) (I.all (E.call F__law_within_v2 (E.consA (E.var 6) E.nilA)))
    b__law_family_v2_2) S.skip))))
noncomputable def t__law_family_v2_1 : MS := (S.set 2 (E.op2 F.add (E.c (.int 1)) (E.call F__law_draw_v2 (E.consA (E.var 0) (E.consA (E.var 1) E.nilA)))))
noncomputable def t__law_family_v2_2 : MS := (S.par 3 4 (E.consA (E.call F__law_draw_v2 (E.consA (E.var 0) (E.consA (E.c (.int 3)) E.nilA))) (E.consA (E.dctB true) E.nilA)))
noncomputable def t__law_family_v2_3 : MS := (S.for_ (G.name 5) (I.range1 (E.op2 F.add (E.c (.int 1)) (E.call F__law_draw_v2 (E.consA (E.var 0) (E.consA (E.call F__law_any (E.consA (E.var 0) (E.consA (E.lst (E.consA (E.c (.int 2)) (E.consA (E.c (.int 6)) (E.consA (E.c (.int 14)) E.nilA)))) E.nilA))) E.nilA)))))
    b__law_family_v2_3)
noncomputable def t__law_family_v2_4 : MS := (S.ret (E.tup (E.consA (E.var 2) (E.consA (E.fn F.tuple_ (E.consA (E.fn F.sortedK (E.consA (E.var 4) E.nilA)) E.nilA)) E.nilA))))
noncomputable def m__law_family_v2 : MS := (S.seq t__law_family_v2_1
    (S.seq t__law_family_v2_2
    (S.seq t__law_family_v2_3
    t__law_family_v2_4)))
noncomputable def F__law_family_v2 : Fn := fnA 2 11 m__law_family_v2
noncomputable def m__law_lots_v2 : MS := (S.ret (E.comp [2, 1] (G.tup (G.consT (G.name 2) (G.consT (G.name 1) G.nilT))) (I.all (E.fn F.sorted (E.consA (E.comp [1] (G.name 1) (I.all (E.call F__law_within_v2 (E.consA (E.fn F.tuple_ (E.consA (E.op1 F.listRg1 (E.var 0)) E.nilA)) E.nilA))) E.yes (E.tup (E.consA (E.fn F.len (E.consA (E.var 1) E.nilA)) (E.consA (E.var 1) E.nilA)))) E.nilA))) E.yes (E.var 1)))
noncomputable def F__law_lots_v2 : Fn := fnA 1 3 m__law_lots_v2
noncomputable def m__law_pattern : MS := (S.ret (E.fn F.tuple_ (E.consA (E.comp [2] (G.name 2) (I.all (E.var 1)) (E.tv (E.op2 F.in_ (E.var 2) (E.var 0))) (E.var 2)) E.nilA)))
noncomputable def F__law_pattern : Fn := fnA 2 3 m__law_pattern
noncomputable def m__law_differs : MS := (S.ret (E.fn F.tuple_ (E.consA (E.comp [2] (G.name 2) (I.all (E.op1 F.sortSetZ (E.op2 F.add (E.var 0) (E.var 1)))) (E.tv (E.op2 F.ne0 (E.op2 F.in_ (E.var 2) (E.var 0)) (E.op2 F.in_ (E.var 2) (E.var 1)))) (E.var 2)) E.nilA)))
noncomputable def F__law_differs : Fn := fnA 2 3 m__law_differs
noncomputable def b__law_least_1 : MS := (S.ite (E.notT (E.tv (E.fn F.any_ (E.consA (E.compR [3] (G.name 3) (E.var 1) E.yes (E.fn F.all_ (E.consA (E.comp [4] (G.name 4) (I.all (E.var 3)) E.yes (E.op2 F.in_ (E.var 4) (E.var 2))) E.nilA))) E.nilA)))) (S.expr (E.mth F.isL F.append (E.var 1) (E.consA (E.var 2) E.nilA))) S.skip)
noncomputable def m__law_least : MS := (S.seq (S.set 1 (E.lstB E.nilA))
    (S.seq (S.for_ (G.name 2) (I.all (E.var 0))
    b__law_least_1)
    (S.ret (E.fn F.tuple_ (E.consA (E.fn F.sorted (E.consA (E.var 1) E.nilA)) E.nilA)))))
noncomputable def F__law_least : Fn := fnB 1 5 m__law_least
noncomputable def m__law_tells : MS := (S.seq (S.set 3 (E.call F__law_pattern (E.consA (E.op2 F.ix (E.var 0) (E.var 2)) (E.consA (E.var 1) E.nilA))))
    (S.ret (E.notV (E.fn F.any_ (E.consA (E.comp [4, 5] (G.tup (G.consT (G.name 4) (G.consT (G.name 5) G.nilT))) (I.enumA (E.consA (E.var 0) E.nilA)) E.yes (E.andV (E.op2 F.ne0 (E.var 4) (E.var 2)) (E.op2 F.eq0 (E.call F__law_pattern (E.consA (E.var 5) (E.consA (E.var 1) E.nilA))) (E.var 3)))) E.nilA)))))
noncomputable def F__law_tells : Fn := fnA 3 6 m__law_tells
noncomputable def m__law_sized : MS := (S.ret (E.comp [2, 1] (G.tup (G.consT (G.name 2) (G.consT (G.name 1) G.nilT))) (I.all (E.fn F.sorted (E.consA (E.comp [1] (G.name 1) (I.all (E.var 0)) E.yes (E.tup (E.consA (E.fn F.len (E.consA (E.var 1) E.nilA)) (E.consA (E.var 1) E.nilA)))) E.nilA))) E.yes (E.var 1)))
noncomputable def F__law_sized : Fn := fnA 1 3 m__law_sized
noncomputable def b_law_v2_1 : MS := (S.ite (E.orT (E.tv (E.op2 F.ne0 (E.call F_telling (E.consA (E.var 2) (E.consA (E.c (.int 0)) E.nilA))) (E.tup (E.consA (E.tup (E.consA (E.c (.int 0)) (E.consA (E.c (.int 1)) E.nilA))) E.nilA)))) (E.orT (E.tv (E.op2 F.ne0 (E.call F_telling (E.consA (E.var 2) (E.consA (E.c (.int 1)) E.nilA))) (E.tup (E.consA (E.tup (E.consA (E.c (.int 0)) E.nilA)) E.nilA)))) (E.tv (E.op2 F.ne0 (E.call F_differences (E.consA (E.var 2) (E.consA (E.c (.int 0)) E.nilA))) (E.tup (E.consA (E.tup (E.consA (E.c (.int 0)) E.nilA)) (E.consA (E.tup (E.consA (E.c (.int 1)) E.nilA)) E.nilA))))))) (S.ret (E.c (.bl false))) S.skip)
noncomputable def b_law_v2_2 : MS := (S.ite (E.tv (E.op2 F.ne0 (E.op2 F.in_ (E.var 13) (E.var 10)) (E.fn F.all_ (E.consA (E.comp [15] (G.name 15) (I.all (E.call F_differences (E.consA (E.var 6) (E.consA (E.var 9) E.nilA)))) E.yes (E.fn F.any_ (E.consA (E.comp [16] (G.name 16) (I.all (E.var 15)) E.yes (E.op2 F.in_ (E.var 16) (E.var 13))) E.nilA))) E.nilA)))) (S.ret (E.c (.bl false))) S.skip)
noncomputable def b_law_v2_3 : MS := (S.seq (S.set 9 (E.call F__law_draw_v2 (E.consA (E.var 1) (E.consA (E.fn F.len (E.consA (E.var 5) E.nilA)) E.nilA))))
    (S.seq (S.set 10 (E.comp [13] (G.name 13) (I.all (E.var 7)) (E.tv (E.call F__law_tells (E.consA (E.var 5) (E.consA (E.var 13) (E.consA (E.var 9) E.nilA))))) (E.var 13)))
    (S.seq (S.set 11 (E.call F__law_least (E.consA (E.var 10) E.nilA)))
    (S.seq (S.ite (E.orT (E.tv (E.op2 F.ne0 (E.call F_telling (E.consA (E.var 6) (E.consA (E.var 9) E.nilA))) (E.var 11))) (E.tv (E.op2 F.ne0 (E.call F_fewest_telling (E.consA (E.var 6) (E.consA (E.var 9) E.nilA))) (E.op2 F.ix (E.call F__law_sized (E.consA (E.var 11) E.nilA)) (E.c (.int 0)))))) (S.ret (E.c (.bl false))) S.skip)
    (S.seq (S.set 12 (E.comp [14, 15] (G.tup (G.consT (G.name 14) (G.consT (G.name 15) G.nilT))) (I.enumA (E.consA (E.var 5) E.nilA)) (E.tv (E.op2 F.ne0 (E.var 14) (E.var 9))) (E.call F__law_differs (E.consA (E.op2 F.ix (E.var 5) (E.var 9)) (E.consA (E.var 15) E.nilA)))))
    (S.seq (S.ite (E.tv (E.op2 F.ne0 (E.call F_differences (E.consA (E.var 6) (E.consA (E.var 9) E.nilA))) (E.call F__law_least (E.consA (E.call F__law_sized (E.consA (E.var 12) E.nilA)) E.nilA)))) (S.ret (E.c (.bl false))) S.skip)
    (S.seq (S.set 13 (E.call F__law_any (E.consA (E.var 1) (E.consA (E.var 7) E.nilA))))
    (S.seq (S.ite (E.notT (E.tv (E.call (F__law_is_v2 12) (E.consA (E.call F_tells (E.consA (E.var 6) (E.consA (E.var 13) (E.consA (E.var 9) E.nilA)))) (E.consA (E.op2 F.in_ (E.var 13) (E.var 10)) E.nilA))))) (S.ret (E.c (.bl false))) S.skip)
    b_law_v2_2))))))))
noncomputable def b_law_v2_4 : MS := (S.seq (S.asg (G.tup (G.consT (G.name 4) (G.consT (G.name 5) G.nilT))) (E.call F__law_family_v2 (E.consA (E.var 1) (E.consA (E.c (.int 5)) E.nilA))))
    (S.seq (S.par 6 7 (E.consA (E.call (F.newFam F_Family___init__) (E.consA (E.var 4) (E.consA (E.var 5) E.nilA))) (E.consA (E.call F__law_lots_v2 (E.consA (E.var 4) E.nilA)) E.nilA)))
    (S.for_ (G.name 8) (I.range1 (E.c (.int 3)))
    b_law_v2_3)))
noncomputable def t_law_v2_1 : MS := (S.set 1 (E.call F__law_hand_v2 (E.consA (E.var 0) E.nilA)))
noncomputable def t_law_v2_2 : MS := (S.set 2 (E.call (F.newFam F_Family___init__) (E.consA (E.c (.int 2)) (E.consA (E.tup (E.consA (E.tup E.nilA) (E.consA (E.tup (E.consA (E.c (.int 0)) E.nilA)) (E.consA (E.tup (E.consA (E.c (.int 1)) E.nilA)) E.nilA)))) E.nilA))))
noncomputable def t_law_v2_3 : MS := b_law_v2_1
noncomputable def t_law_v2_4 : MS := (S.for_ (G.name 3) (I.range1 (E.c (.int 2)))
    b_law_v2_4)
noncomputable def t_law_v2_5 : MS := (S.ret (E.c (.bl true)))
noncomputable def m_law_v2 : MS := (S.seq t_law_v2_1
    (S.seq t_law_v2_2
    (S.seq t_law_v2_3
    (S.seq t_law_v2_4
    t_law_v2_5))))
noncomputable def F_law_v2 : Fn := fnA 1 17 m_law_v2
end Sm.Pr
/-! ## Mean24 -/
/-! the plain meanings of the text of law_k24_whole_easiest_hardest_and_parting, those that are new with it. Printed by gen.py. -/
namespace Sm.Pr
open PySem PySem.Spec L2 Sm
noncomputable def m_pattern : MS := (S.ret (E.fn F.tuple_ (E.consA (E.comp [2] (G.name 2) (I.all (E.var 1)) (E.tv (E.op2 F.in_ (E.var 2) (E.var 0))) (E.var 2)) E.nilA)))
noncomputable def F_pattern : Fn := fnA 2 3 m_pattern
noncomputable def m_patterns_in : MS := (S.ret (E.fn F.tuple_ (E.consA (E.op1 F.sortSet (E.comp [2] (G.name 2) (I.all (E.op1 (F.famAttr "lots") (E.var 0))) E.yes (E.call F_pattern (E.consA (E.var 2) (E.consA (E.var 1) E.nilA))))) E.nilA)))
noncomputable def F_patterns_in : Fn := fnA 2 3 m_patterns_in
noncomputable def m_patterns : MS := (S.seq (S.expr (E.call F_check_lot (E.consA (E.var 0) (E.consA (E.var 1) E.nilA))))
    (S.ret (E.call F_patterns_in (E.consA (E.var 0) (E.consA (E.var 1) E.nilA)))))
noncomputable def F_patterns : Fn := fnA 2 2 m_patterns
noncomputable def m_sizes : MS := (S.ret (E.comp [1] (G.name 1) (I.range1 (E.fn F.len (E.consA (E.op1 (F.famAttr "lots") (E.var 0)) E.nilA))) E.yes (E.fn F.len (E.consA (E.call F_fewest_in (E.consA (E.var 0) (E.consA (E.var 1) E.nilA))) E.nilA))))
noncomputable def F_sizes : Fn := fnA 1 2 m_sizes
noncomputable def m_easiest : MS := (S.seq (S.set 1 (E.call F_sizes (E.consA (E.var 0) E.nilA)))
    (S.ret (E.tup (E.consA (E.fn F.minO (E.consA (E.var 1) E.nilA)) (E.consA (E.mth F.isL F.index (E.var 1) (E.consA (E.fn F.minO (E.consA (E.var 1) E.nilA)) E.nilA)) E.nilA)))))
noncomputable def F_easiest : Fn := fnA 1 2 m_easiest
noncomputable def m_hardest : MS := (S.seq (S.set 1 (E.call F_sizes (E.consA (E.var 0) E.nilA)))
    (S.ret (E.tup (E.consA (E.fn F.maxO (E.consA (E.var 1) E.nilA)) (E.consA (E.mth F.isL F.index (E.var 1) (E.consA (E.fn F.maxO (E.consA (E.var 1) E.nilA)) E.nilA)) E.nilA)))))
noncomputable def F_hardest : Fn := fnA 1 2 m_hardest
noncomputable def b_parting_1 : MS := (S.store (E.var 1) (E.var 3) (E.c (.bl true)))
noncomputable def b_parting_2 : MS := (S.for_ (G.name 3) (I.all (E.call F_all_differences (E.consA (E.var 0) (E.consA (E.var 2) E.nilA))))
    b_parting_1)
noncomputable def m_parting : MS := (S.seq (S.set 1 (E.dctB true))
    (S.seq (S.for_ (G.name 2) (I.range1 (E.fn F.len (E.consA (E.op1 (F.famAttr "lots") (E.var 0)) E.nilA)))
    b_parting_2)
    (S.ret (E.call F_least_of (E.consA (E.comp [3] (G.name 3) (I.all (E.call F_all_lots (E.consA (E.op1 (F.famAttr "points") (E.var 0)) E.nilA))) (E.tv (E.call F_do_meet (E.consA (E.var 3) (E.consA (E.fn F.listK (E.consA (E.var 1) E.nilA)) E.nilA)))) (E.var 3)) E.nilA)))))
noncomputable def F_parting : Fn := fnB 1 4 m_parting
noncomputable def b__law_parting_1 : MS := (S.ite (E.tv (E.op2 F.eq0 (E.op1 F.lenSetT (E.comp [4] (G.name 4) (I.all (E.var 1)) E.yes (E.call F__law_pattern (E.consA (E.var 4) (E.consA (E.var 3) E.nilA))))) (E.fn F.len (E.consA (E.var 1) E.nilA)))) (S.ite (E.notT (E.tv (E.fn F.any_ (E.consA (E.compR [5] (G.name 5) (E.var 2) E.yes (E.fn F.all_ (E.consA (E.comp [6] (G.name 6) (I.all (E.var 5)) E.yes (E.op2 F.in_ (E.var 6) (E.var 3))) E.nilA))) E.nilA)))) (S.expr (E.mth F.isL F.append (E.var 2) (E.consA (E.var 3) E.nilA))) S.skip) S.skip)
noncomputable def b__law_parting_2 : MS := b__law_parting_1
noncomputable def m__law_parting : MS := (S.seq (S.set 2 (E.lstB E.nilA))
    (S.seq (S.for_ (G.name 3) (I.all (E.call F__law_lots_v2 (E.consA (E.var 0) E.nilA)))
    b__law_parting_2)
    (S.ret (E.fn F.sorted (E.consA (E.var 2) E.nilA)))))
noncomputable def F__law_parting : Fn := fnB 2 7 m__law_parting
noncomputable def b__law_size_1 : MS := (S.ite (E.notT (E.tv (E.fn F.any_ (E.consA (E.comp [5, 6] (G.tup (G.consT (G.name 5) (G.consT (G.name 6) G.nilT))) (I.enumA (E.consA (E.var 1) E.nilA)) E.yes (E.andV (E.op2 F.ne0 (E.var 5) (E.var 2)) (E.op2 F.eq0 (E.call F__law_pattern (E.consA (E.var 6) (E.consA (E.var 3) E.nilA))) (E.var 4)))) E.nilA)))) (S.ret (E.fn F.len (E.consA (E.var 3) E.nilA))) S.skip)
noncomputable def b__law_size_2 : MS := (S.seq (S.set 4 (E.call F__law_pattern (E.consA (E.op2 F.ix (E.var 1) (E.var 2)) (E.consA (E.var 3) E.nilA))))
    b__law_size_1)
noncomputable def m__law_size : MS := (S.seq (S.for_ (G.name 3) (I.all (E.call F__law_lots_v2 (E.consA (E.var 0) E.nilA)))
    b__law_size_2)
    (S.ret (E.c .non)))
noncomputable def F__law_size : Fn := fnA 3 7 m__law_size
noncomputable def b_law_v3_1 : MS := (S.ite (E.orT (E.tv (E.op2 F.ne0 (E.call F_easiest (E.consA (E.var 2) E.nilA)) (E.tup (E.consA (E.c (.int 1)) (E.consA (E.c (.int 1)) E.nilA))))) (E.orT (E.tv (E.op2 F.ne0 (E.call F_hardest (E.consA (E.var 2) E.nilA)) (E.tup (E.consA (E.c (.int 2)) (E.consA (E.c (.int 0)) E.nilA))))) (E.tv (E.op2 F.ne0 (E.call F_parting (E.consA (E.var 2) E.nilA)) (E.tup (E.consA (E.tup (E.consA (E.c (.int 0)) (E.consA (E.c (.int 1)) E.nilA))) E.nilA)))))) (S.ret (E.c (.bl false))) S.skip)
noncomputable def b_law_v3_2 : MS := (S.ite (E.orT (E.tv (E.op2 F.isNot (E.call F_tells (E.consA (E.var 6) (E.consA (E.var 9) (E.consA (E.var 10) E.nilA)))) (E.c (.bl true)))) (E.tv (E.op2 F.ne0 (E.fn F.len (E.consA (E.call F_fewest_telling (E.consA (E.var 6) (E.consA (E.var 10) E.nilA))) E.nilA)) (E.op2 F.ix (E.var 7) (E.var 10))))) (S.ret (E.c (.bl false))) S.skip)
noncomputable def b_law_v3_3 : MS := (S.seq (S.asg (G.tup (G.consT (G.name 4) (G.consT (G.name 5) G.nilT))) (E.call F__law_family_v2 (E.consA (E.var 1) (E.consA (E.c (.int 5)) E.nilA))))
    (S.seq (S.set 6 (E.call (F.newFam F_Family___init__) (E.consA (E.var 4) (E.consA (E.var 5) E.nilA))))
    (S.seq (S.set 7 (E.comp [10] (G.name 10) (I.range1 (E.fn F.len (E.consA (E.var 5) E.nilA))) E.yes (E.call F__law_size (E.consA (E.var 4) (E.consA (E.var 5) (E.consA (E.var 10) E.nilA))))))
    (S.seq (S.ite (E.notT (E.tv (E.call (F__law_is_v2 12) (E.consA (E.call F_easiest (E.consA (E.var 6) E.nilA)) (E.consA (E.tup (E.consA (E.fn F.minO (E.consA (E.var 7) E.nilA)) (E.consA (E.mth F.isL F.index (E.var 7) (E.consA (E.fn F.minO (E.consA (E.var 7) E.nilA)) E.nilA)) E.nilA))) E.nilA))))) (S.ret (E.c (.bl false))) S.skip)
    (S.seq (S.ite (E.notT (E.tv (E.call (F__law_is_v2 12) (E.consA (E.call F_hardest (E.consA (E.var 6) E.nilA)) (E.consA (E.tup (E.consA (E.fn F.maxO (E.consA (E.var 7) E.nilA)) (E.consA (E.mth F.isL F.index (E.var 7) (E.consA (E.fn F.maxO (E.consA (E.var 7) E.nilA)) E.nilA)) E.nilA))) E.nilA))))) (S.ret (E.c (.bl false))) S.skip)
    (S.seq (S.set 8 (E.call F_parting (E.consA (E.var 6) E.nilA)))
    (S.seq (S.ite (E.tv (E.op2 F.ne0 (E.var 8) (E.fn F.tuple_ (E.consA (E.call F__law_parting (E.consA (E.var 4) (E.consA (E.var 5) E.nilA))) E.nilA)))) (S.ret (E.c (.bl false))) S.skip)
    (S.seq (S.set 9 (E.call F__law_any (E.consA (E.var 1) (E.consA (E.fn F.list_ (E.consA (E.var 8) E.nilA)) E.nilA))))
    (S.seq (S.ite (E.tv (E.op2 F.ne0 (E.fn F.len (E.consA (E.call F_patterns (E.consA (E.var 6) (E.consA (E.var 9) E.nilA))) E.nilA)) (E.fn F.len (E.consA (E.var 5) E.nilA)))) (S.ret (E.c (.bl false))) S.skip)
    (S.for_ (G.name 10) (I.range1 (E.fn F.len (E.consA (E.var 5) E.nilA)))
    b_law_v3_2))))))))))
noncomputable def t_law_v3_1 : MS := (S.set 1 (E.call F__law_hand_v2 (E.consA (E.var 0) E.nilA)))
noncomputable def t_law_v3_2 : MS := (S.set 2 (E.call (F.newFam F_Family___init__) (E.consA (E.c (.int 2)) (E.consA (E.tup (E.consA (E.tup E.nilA) (E.consA (E.tup (E.consA (E.c (.int 0)) E.nilA)) (E.consA (E.tup (E.consA (E.c (.int 1)) E.nilA)) E.nilA)))) E.nilA))))
noncomputable def t_law_v3_3 : MS := b_law_v3_1
noncomputable def t_law_v3_4 : MS := (S.for_ (G.name 3) (I.range1 (E.c (.int 2)))
    b_law_v3_3)
noncomputable def t_law_v3_5 : MS := (S.ret (E.c (.bl true)))
noncomputable def m_law_v3 : MS := (S.seq t_law_v3_1
    (S.seq t_law_v3_2
    (S.seq t_law_v3_3
    (S.seq t_law_v3_4
    t_law_v3_5))))
noncomputable def F_law_v3 : Fn := fnA 1 11 m_law_v3
end Sm.Pr
/-! ## Mean41 -/
/-! the plain meanings of the text of law_k41_whole_watches_and_telling, those that are new with it. Printed by gen.py. -/
namespace Sm.Pr
open PySem PySem.Spec L2 Sm
noncomputable def m_Watch___init__ : MS := (S.seq (S.asgX (G.fld ["Watch"] "members" (E.var 0)) (E.var 1))
    (S.asgX (G.fld ["Watch"] "past" (E.var 0)) (E.lstB (E.consA (E.tup (E.consA (E.op1 F.tupRg1 (E.fn F.len (E.consA (E.op1 (F.famAttr "lots") (E.var 1)) E.nilA))) (E.consA (E.c .non) E.nilA))) E.nilA))))
noncomputable def F_Watch___init__ : Fn := fnA 2 2 m_Watch___init__
noncomputable def m_Watch_fitting : MS := (S.ret (E.op2 F.ix (E.op2 F.ix (E.op1 (F.fld ["Watch"] "past") (E.var 0)) (E.op1 F.neg (E.c (.int 1)))) (E.c (.int 0))))
noncomputable def F_Watch_fitting : Fn := fnA 1 1 m_Watch_fitting
noncomputable def m_Watch_look : MS := (S.seq (S.expr (E.call F_check_point (E.consA (E.op1 (F.fld ["Watch"] "members") (E.var 0)) (E.consA (E.var 1) E.nilA))))
    (S.seq (S.ite (E.notT (E.tv (E.fn F.isiA (E.consA (E.var 2) (E.consA (E.c (.cls "bool")) E.nilA))))) S.never S.skip)
    (S.seq (S.set 3 (E.fn F.tuple_ (E.consA (E.comp [4] (G.name 4) (I.all (E.meth "Watch" "fitting" F_Watch_fitting (E.var 0) E.nilA)) (E.tv (E.op2 F.eq0 (E.op2 F.in_ (E.var 1) (E.op2 F.ix (E.op1 (F.famAttr "lots") (E.op1 (F.fld ["Watch"] "members") (E.var 0))) (E.var 4))) (E.var 2))) (E.var 4)) E.nilA)))
    (S.seq (S.ite (E.tv (E.op2 F.eq0 (E.fn F.len (E.consA (E.var 3) E.nilA)) (E.c (.int 0)))) S.never S.skip)
    (S.expr (E.mth F.isL F.append (E.op1 (F.fld ["Watch"] "past") (E.var 0)) (E.consA (E.tup (E.consA (E.var 3) (E.consA (E.tup (E.consA (E.var 1) (E.consA (E.var 2) E.nilA))) E.nilA))) E.nilA)))))))
noncomputable def F_Watch_look : Fn := fnA 3 5 m_Watch_look
noncomputable def m_Watch_surely : MS := (S.seq (S.expr (E.call F_check_point (E.consA (E.op1 (F.fld ["Watch"] "members") (E.var 0)) (E.consA (E.var 1) E.nilA))))
    (S.seq (S.set 2 (E.comp [3] (G.name 3) (I.all (E.meth "Watch" "fitting" F_Watch_fitting (E.var 0) E.nilA)) E.yes (E.op2 F.in_ (E.var 1) (E.op2 F.ix (E.op1 (F.famAttr "lots") (E.op1 (F.fld ["Watch"] "members") (E.var 0))) (E.var 3)))))
    (S.ret (E.ite (E.tv (E.fn F.all_ (E.consA (E.var 2) E.nilA))) (E.c (.int 1)) (E.ite (E.tv (E.fn F.any_ (E.consA (E.var 2) E.nilA))) (E.c .non) (E.c (.int 0)))))))
noncomputable def F_Watch_surely : Fn := fnA 2 4 m_Watch_surely
noncomputable def m_Watch_undo : MS := (S.seq (S.ite (E.tv (E.op2 F.eq0 (E.fn F.len (E.consA (E.op1 (F.fld ["Watch"] "past") (E.var 0)) E.nilA)) (E.c (.int 1)))) S.never S.skip)
    (S.expr (E.mth F.isL F.popLast (E.op1 (F.fld ["Watch"] "past") (E.var 0)) E.nilA)))
noncomputable def F_Watch_undo : Fn := fnA 1 1 m_Watch_undo
noncomputable def m_Watch_looks : MS := (S.ret (E.fn F.tuple_ (E.consA (E.comp [1, 2] (G.tup (G.consT (G.name 1) (G.consT (G.name 2) G.nilT))) (I.all (E.slice (E.op1 (F.fld ["Watch"] "past") (E.var 0)) (some (E.c (.int 1))) none)) E.yes (E.var 2)) E.nilA)))
noncomputable def F_Watch_looks : Fn := fnA 1 3 m_Watch_looks
noncomputable def m_Watch_copy : MS := (S.seq (S.set 1 (E.call (F.newI "Watch" F_Watch___init__) (E.consA (E.op1 (F.fld ["Watch"] "members") (E.var 0)) E.nilA)))
    (S.seq (S.asgX (G.fld ["Watch"] "past" (E.var 1)) (E.opB F.listOf (E.op1 (F.fld ["Watch"] "past") (E.var 0))))
    (S.ret (E.var 1))))
noncomputable def F_Watch_copy : Fn := fnA 1 2 m_Watch_copy
noncomputable def b_law_v4_1 : MS := (S.expr (E.meth "Watch" "look" F_Watch_look (E.var 9) (E.consA (E.var 10) (E.consA (E.op2 F.in_ (E.var 10) (E.op2 F.ix (E.var 4) (E.var 6))) E.nilA))))
noncomputable def b_law_v4_2 : MS := (S.seq (S.set 13 (E.comp [16] (G.name 16) (I.all (E.var 12)) E.yes (E.op2 F.in_ (E.var 10) (E.op2 F.ix (E.var 4) (E.var 16)))))
    (S.seq (S.set 14 (E.ite (E.tv (E.fn F.all_ (E.consA (E.var 13) E.nilA))) (E.c (.int 1)) (E.ite (E.tv (E.fn F.any_ (E.consA (E.var 13) E.nilA))) (E.c .non) (E.c (.int 0)))))
    (S.ite (E.notT (E.tv (E.call (F__law_is_v2 12) (E.consA (E.meth "Watch" "surely" F_Watch_surely (E.var 9) (E.consA (E.var 10) E.nilA)) (E.consA (E.var 14) E.nilA))))) (S.ret (E.c (.bl false))) S.skip)))
noncomputable def b_law_v4_3 : MS := (S.expr (E.meth "Watch" "undo" F_Watch_undo (E.var 9) E.nilA))
noncomputable def b_law_v4_4 : MS := (S.seq (S.set 9 (E.call (F.newI "Watch" F_Watch___init__) (E.consA (E.var 5) E.nilA)))
    (S.seq (S.for_ (G.name 10) (I.all (E.op1 F.revT (E.var 8)))
    b_law_v4_1)
    (S.seq (S.set 11 (E.call F__law_pattern (E.consA (E.op2 F.ix (E.var 4) (E.var 6)) (E.consA (E.var 8) E.nilA))))
    (S.seq (S.set 12 (E.fn F.tuple_ (E.consA (E.comp [16, 17] (G.tup (G.consT (G.name 16) (G.consT (G.name 17) G.nilT))) (I.enumA (E.consA (E.var 4) E.nilA)) (E.tv (E.op2 F.eq0 (E.call F__law_pattern (E.consA (E.var 17) (E.consA (E.var 8) E.nilA))) (E.var 11))) (E.var 16)) E.nilA)))
    (S.seq (S.ite (E.orT (E.tv (E.op2 F.ne0 (E.meth "Watch" "fitting" F_Watch_fitting (E.var 9) E.nilA) (E.var 12))) (E.tv (E.op2 F.ne0 (E.op2 F.eq0 (E.var 12) (E.tup (E.consA (E.var 6) E.nilA))) (E.call F_tells (E.consA (E.var 5) (E.consA (E.var 8) (E.consA (E.var 6) E.nilA))))))) (S.ret (E.c (.bl false))) S.skip)
    (S.seq (S.ite (E.tv (E.op2 F.notIn (E.var 11) (E.call F_patterns (E.consA (E.var 5) (E.consA (E.var 8) E.nilA))))) (S.ret (E.c (.bl false))) S.skip)
    (S.seq (S.for_ (G.name 10) (I.range1 (E.var 3))
    b_law_v4_2)
    (S.seq (S.ite (E.orT (E.tv (E.op2 F.ne0 (E.meth "Watch" "fitting" F_Watch_fitting (E.meth "Watch" "copy" F_Watch_copy (E.var 9) E.nilA) E.nilA) (E.var 12))) (E.tv (E.op2 F.ne0 (E.fn F.len (E.consA (E.meth "Watch" "looks" F_Watch_looks (E.var 9) E.nilA) E.nilA)) (E.fn F.len (E.consA (E.var 8) E.nilA))))) (S.ret (E.c (.bl false))) S.skip)
    (S.seq (S.for_ (G.name 15) (I.range1 (E.fn F.len (E.consA (E.var 8) E.nilA)))
    b_law_v4_3)
    (S.ite (E.orT (E.tv (E.op2 F.ne0 (E.meth "Watch" "fitting" F_Watch_fitting (E.var 9) E.nilA) (E.op1 F.tupRg1 (E.fn F.len (E.consA (E.var 4) E.nilA))))) (E.tv (E.op2 F.ne0 (E.meth "Watch" "looks" F_Watch_looks (E.var 9) E.nilA) (E.tup E.nilA)))) (S.ret (E.c (.bl false))) S.skip))))))))))
noncomputable def b_law_v4_5 : MS := (S.seq (S.asg (G.tup (G.consT (G.name 3) (G.consT (G.name 4) G.nilT))) (E.call F__law_family_v2 (E.consA (E.var 1) (E.consA (E.c (.int 5)) E.nilA))))
    (S.seq (S.par 5 6 (E.consA (E.call (F.newFam F_Family___init__) (E.consA (E.var 3) (E.consA (E.var 4) E.nilA))) (E.consA (E.call F__law_draw_v2 (E.consA (E.var 1) (E.consA (E.fn F.len (E.consA (E.var 4) E.nilA)) E.nilA))) E.nilA)))
    (S.seq (S.set 7 (E.fn F.tuple_ (E.consA (E.comp [10] (G.name 10) (I.range1 (E.var 3)) (E.tv (E.op2 F.eq0 (E.call F__law_draw_v2 (E.consA (E.var 1) (E.consA (E.c (.int 2)) E.nilA))) (E.c (.int 0)))) (E.var 10)) E.nilA)))
    (S.for_ (G.name 8) (I.all (E.tup (E.consA (E.call F__law_any (E.consA (E.var 1) (E.consA (E.fn F.list_ (E.consA (E.call F_telling (E.consA (E.var 5) (E.consA (E.var 6) E.nilA))) E.nilA)) E.nilA))) (E.consA (E.var 7) E.nilA))))
    b_law_v4_4))))
noncomputable def t_law_v4_1 : MS := (S.set 1 (E.call F__law_hand_v2 (E.consA (E.var 0) E.nilA)))
noncomputable def t_law_v4_2 : MS := (S.for_ (G.name 2) (I.range1 (E.c (.int 3)))
    b_law_v4_5)
noncomputable def t_law_v4_3 : MS := (S.ret (E.c (.bl true)))
noncomputable def m_law_v4 : MS := (S.seq t_law_v4_1
    (S.seq t_law_v4_2
    t_law_v4_3))
noncomputable def F_law_v4 : Fn := fnA 1 18 m_law_v4
end Sm.Pr
/-! ## Mean15 -/
/-! the plain meanings of the text of law_k15_whole_neighbours_and_distances, those that are new with it. Printed by gen.py. -/
namespace Sm.Pr
open PySem PySem.Spec L2 Sm
noncomputable def b_pairs_in_1 : MS := (S.seq (S.set 6 (E.fn F.tuple_ (E.consA (E.fn F.sorted (E.consA (E.op2 F.add (E.var 4) (E.tup (E.consA (E.var 5) E.nilA))) E.nilA)) E.nilA)))
    (S.ite (E.andT (E.tv (E.op2 F.notIn (E.var 5) (E.var 4))) (E.tv (E.op2 F.in_ (E.var 6) (E.var 1)))) (S.expr (E.mth F.isL F.append (E.var 2) (E.consA (E.tup (E.consA (E.var 3) (E.consA (E.op2 F.ix (E.var 1) (E.var 6)) (E.consA (E.var 5) E.nilA)))) E.nilA))) S.skip))
noncomputable def b_pairs_in_2 : MS := (S.for_ (G.name 5) (I.range1 (E.op1 (F.famAttr "points") (E.var 0)))
    b_pairs_in_1)
noncomputable def mk_pairs_in : MK := (K.cons (S.set 1 (E.fn (F.dictP true) (E.consA (E.comp [3, 4] (G.tup (G.consT (G.name 3) (G.consT (G.name 4) G.nilT))) (I.enumA (E.consA (E.op1 (F.famAttr "lots") (E.var 0)) E.nilA)) E.yes (E.tup (E.consA (E.var 4) (E.consA (E.var 3) E.nilA)))) E.nilA)))
    (K.cons (S.set 2 (E.lstB E.nilA))
    (K.cons (S.for_ (G.tup (G.consT (G.name 3) (G.consT (G.name 4) G.nilT))) (I.enumA (E.consA (E.op1 (F.famAttr "lots") (E.var 0)) E.nilA))
    b_pairs_in_2)
    (K.last (E.fn F.sorted (E.consA (E.var 2) E.nilA))))))
noncomputable def ca_pairs_in : Int → D → Option D := caOf mk_pairs_in 6
noncomputable def m_pairs_in : MS := S.cached ca_pairs_in 6
noncomputable def F_pairs_in : Fn := fnA 1 7 m_pairs_in
noncomputable def m_pairs : MS := (S.ret (E.fn F.tuple_ (E.consA (E.call F_pairs_in (E.consA (E.var 0) E.nilA)) E.nilA)))
noncomputable def F_pairs : Fn := fnA 1 1 m_pairs
noncomputable def b_steps_from_1 : MS := (S.ite (E.andT (E.tv (E.op2 F.eq0 (E.var 9) (E.var 5))) (E.tv (E.op2 F.notIn (E.var 10) (E.var 2)))) (S.seq (S.store (E.var 2) (E.var 10) (E.op2 F.add (E.op2 F.ix (E.var 2) (E.var 5)) (E.c (.int 1))))
    (S.expr (E.mth F.isL F.append (E.var 3) (E.consA (E.var 10) E.nilA)))) S.skip)
noncomputable def b_steps_from_2 : MS := (S.for_ (G.tup (G.consT (G.name 9) (G.consT (G.name 10) G.nilT))) (I.all (E.tup (E.consA (E.tup (E.consA (E.var 6) (E.consA (E.var 7) E.nilA))) (E.consA (E.tup (E.consA (E.var 7) (E.consA (E.var 6) E.nilA))) E.nilA))))
    b_steps_from_1)
noncomputable def b_steps_from_3 : MS := (S.seq (S.set 5 (E.op2 F.ix (E.var 3) (E.var 4)))
    (S.seq (S.for_ (G.tup (G.consT (G.name 6) (G.consT (G.name 7) (G.consT (G.name 8) G.nilT)))) (I.all (E.call F_pairs_in (E.consA (E.var 0) E.nilA)))
    b_steps_from_2)
    (S.set 4 (E.op2 F.add (E.var 4) (E.c (.int 1))))))
noncomputable def m_steps_from : MS := (S.seq (S.par3 2 3 4 (E.consA (E.disp1 1 (.int 0)) (E.consA (E.lstB (E.consA (E.var 1) E.nilA)) (E.consA (E.c (.int 0)) E.nilA))))
    (S.seq (S.whileN (E.tv (E.op2 F.lt (E.var 4) (E.fn F.len (E.consA (E.var 3) E.nilA)))) b_steps_from_3 200)
    (S.ret (E.var 2))))
noncomputable def F_steps_from : Fn := fnB 2 11 m_steps_from
noncomputable def m_far : MS := (S.seq (S.expr (E.call F_check_member (E.consA (E.var 0) (E.consA (E.var 1) E.nilA))))
    (S.seq (S.expr (E.call F_check_member (E.consA (E.var 0) (E.consA (E.var 2) E.nilA))))
    (S.seq (S.set 3 (E.call F_steps_from (E.consA (E.var 0) (E.consA (E.var 1) E.nilA))))
    (S.ret (E.ite (E.tv (E.op2 F.in_ (E.var 2) (E.var 3))) (E.op2 F.ix (E.var 3) (E.var 2)) (E.c .non))))))
noncomputable def F_far : Fn := fnA 3 4 m_far
noncomputable def b_apart_1 : MS := (S.ite (E.andT (E.tv (E.op2 F.gt (E.var 4) (E.var 1))) (E.orT (E.tv (E.op2 F.notIn (E.var 4) (E.var 3))) (E.tv (E.op2 F.ne0 (E.op2 F.ix (E.var 3) (E.var 4)) (E.fn F.len (E.consA (E.call F_differing (E.consA (E.var 2) (E.consA (E.var 5) E.nilA))) E.nilA)))))) (S.ret (E.tup (E.consA (E.var 1) (E.consA (E.var 4) E.nilA)))) S.skip)
noncomputable def b_apart_2 : MS := (S.seq (S.set 3 (E.call F_steps_from (E.consA (E.var 0) (E.consA (E.var 1) E.nilA))))
    (S.for_ (G.tup (G.consT (G.name 4) (G.consT (G.name 5) G.nilT))) (I.enumA (E.consA (E.op1 (F.famAttr "lots") (E.var 0)) E.nilA))
    b_apart_1))
noncomputable def m_apart : MS := (S.seq (S.for_ (G.tup (G.consT (G.name 1) (G.consT (G.name 2) G.nilT))) (I.enumA (E.consA (E.op1 (F.famAttr "lots") (E.var 0)) E.nilA))
    b_apart_2)
    (S.ret (E.c .non)))
noncomputable def F_apart : Fn := fnA 1 6 m_apart
noncomputable def b__law_pairs_1 : MS := (S.ite (E.andT (E.tv (E.op2 F.eq0 (E.fn F.len (E.consA (E.var 5) E.nilA)) (E.op2 F.add (E.fn F.len (E.consA (E.var 3) E.nilA)) (E.c (.int 1))))) (E.tv (E.op2 F.eq0 (E.fn F.len (E.consA (E.call F__law_differs (E.consA (E.var 3) (E.consA (E.var 5) E.nilA))) E.nilA)) (E.c (.int 1))))) (S.expr (E.mth F.isL F.append (E.var 1) (E.consA (E.tup (E.consA (E.var 2) (E.consA (E.var 4) (E.consA (E.op2 F.ix (E.call F__law_differs (E.consA (E.var 3) (E.consA (E.var 5) E.nilA))) (E.c (.int 0))) E.nilA)))) E.nilA))) S.skip)
noncomputable def b__law_pairs_2 : MS := b__law_pairs_1
noncomputable def b__law_pairs_3 : MS := (S.for_ (G.tup (G.consT (G.name 4) (G.consT (G.name 5) G.nilT))) (I.enumA (E.consA (E.var 0) E.nilA))
    b__law_pairs_2)
noncomputable def m__law_pairs : MS := (S.seq (S.set 1 (E.lstB E.nilA))
    (S.seq (S.for_ (G.tup (G.consT (G.name 2) (G.consT (G.name 3) G.nilT))) (I.enumA (E.consA (E.var 0) E.nilA))
    b__law_pairs_3)
    (S.ret (E.fn F.sorted (E.consA (E.var 1) E.nilA)))))
noncomputable def F__law_pairs : Fn := fnB 1 6 m__law_pairs
noncomputable def b__law_steps_1 : MS := (S.ite (E.andT (E.tv (E.op2 F.notIn (E.var 6) (E.var 2))) (E.tv (E.op2 F.eq0 (E.fn F.len (E.consA (E.call F__law_differs (E.consA (E.op2 F.ix (E.var 0) (E.var 5)) (E.consA (E.op2 F.ix (E.var 0) (E.var 6)) E.nilA))) E.nilA)) (E.c (.int 1))))) (S.seq (S.store (E.var 2) (E.var 6) (E.op2 F.add (E.op2 F.ix (E.var 2) (E.var 5)) (E.c (.int 1))))
    (S.expr (E.mth F.isL F.append (E.var 3) (E.consA (E.var 6) E.nilA)))) S.skip)
noncomputable def b__law_steps_2 : MS := b__law_steps_1
noncomputable def b__law_steps_3 : MS := (S.seq (S.set 5 (E.op2 F.ix (E.var 3) (E.var 4)))
    (S.seq (S.for_ (G.name 6) (I.range1 (E.fn F.len (E.consA (E.var 0) E.nilA)))
    b__law_steps_2)
    (S.set 4 (E.op2 F.add (E.var 4) (E.c (.int 1))))))
noncomputable def m__law_steps : MS := (S.seq (S.par3 2 3 4 (E.consA (E.disp1 1 (.int 0)) (E.consA (E.lstB (E.consA (E.var 1) E.nilA)) (E.consA (E.c (.int 0)) E.nilA))))
    (S.seq (S.whileN (E.tv (E.op2 F.lt (E.var 4) (E.fn F.len (E.consA (E.var 3) E.nilA)))) b__law_steps_3 200)
    (S.ret (E.var 2))))
noncomputable def F__law_steps : Fn := fnB 2 7 m__law_steps
noncomputable def b__law_apart_v2_1 : MS := (S.ite (E.orT (E.tv (E.op2 F.notIn (E.var 3) (E.var 2))) (E.tv (E.op2 F.ne0 (E.op2 F.ix (E.var 2) (E.var 3)) (E.fn F.len (E.consA (E.call F__law_differs (E.consA (E.op2 F.ix (E.var 0) (E.var 1)) (E.consA (E.op2 F.ix (E.var 0) (E.var 3)) E.nilA))) E.nilA))))) (S.ret (E.tup (E.consA (E.var 1) (E.consA (E.var 3) E.nilA)))) S.skip)
noncomputable def b__law_apart_v2_2 : MS := (S.seq (S.set 2 (E.call F__law_steps (E.consA (E.var 0) (E.consA (E.var 1) E.nilA))))
    (S.for_ (G.name 3) (I.range2 (E.op2 F.add (E.var 1) (E.c (.int 1))) (E.fn F.len (E.consA (E.var 0) E.nilA)))
    b__law_apart_v2_1))
noncomputable def m__law_apart_v2 : MS := (S.seq (S.for_ (G.name 1) (I.range1 (E.fn F.len (E.consA (E.var 0) E.nilA)))
    b__law_apart_v2_2)
    (S.ret (E.c .non)))
noncomputable def F__law_apart_v2 : Fn := fnA 1 4 m__law_apart_v2
noncomputable def b_law_v5_1 : MS := (S.ite (E.orT (E.tv (E.op2 F.ne0 (E.call F_pairs (E.consA (E.var 2) E.nilA)) (E.tup E.nilA))) (E.orT (E.tv (E.op2 F.ne0 (E.call F_apart (E.consA (E.var 2) E.nilA)) (E.tup (E.consA (E.c (.int 0)) (E.consA (E.c (.int 1)) E.nilA))))) (E.orT (E.tv (E.op2 F.isNot (E.call F_far (E.consA (E.var 2) (E.consA (E.c (.int 0)) (E.consA (E.c (.int 1)) E.nilA)))) (E.c .non))) (E.notT (E.tv (E.call (F__law_is_v2 12) (E.consA (E.call F_far (E.consA (E.var 2) (E.consA (E.c (.int 1)) (E.consA (E.c (.int 1)) E.nilA)))) (E.consA (E.c (.int 0)) E.nilA)))))))) (S.ret (E.c (.bl false))) S.skip)
noncomputable def b_law_v5_2 : MS := (S.seq (S.par 8 9 (E.consA (E.call F__law_draw_v2 (E.consA (E.var 1) (E.consA (E.fn F.len (E.consA (E.var 5) E.nilA)) E.nilA))) (E.consA (E.call F__law_draw_v2 (E.consA (E.var 1) (E.consA (E.fn F.len (E.consA (E.var 5) E.nilA)) E.nilA))) E.nilA)))
    (S.ite (E.notT (E.tv (E.call (F__law_is_v2 12) (E.consA (E.call F_far (E.consA (E.var 6) (E.consA (E.var 8) (E.consA (E.var 9) E.nilA)))) (E.consA (E.dget (E.call F__law_steps (E.consA (E.var 5) (E.consA (E.var 8) E.nilA))) (E.var 9)) E.nilA))))) (S.ret (E.c (.bl false))) S.skip))
noncomputable def b_law_v5_3 : MS := (S.seq (S.asg (G.tup (G.consT (G.name 4) (G.consT (G.name 5) G.nilT))) (E.call F__law_family_v2 (E.consA (E.var 1) (E.consA (E.c (.int 5)) E.nilA))))
    (S.seq (S.set 6 (E.call (F.newFam F_Family___init__) (E.consA (E.var 4) (E.consA (E.var 5) E.nilA))))
    (S.seq (S.ite (E.orT (E.tv (E.op2 F.ne0 (E.call F_pairs (E.consA (E.var 6) E.nilA)) (E.fn F.tuple_ (E.consA (E.call F__law_pairs (E.consA (E.var 5) E.nilA)) E.nilA)))) (E.tv (E.op2 F.ne0 (E.call F_apart (E.consA (E.var 6) E.nilA)) (E.call F__law_apart_v2 (E.consA (E.var 5) E.nilA))))) (S.ret (E.c (.bl false))) S.skip)
    (S.for_ (G.name 7) (I.range1 (E.c (.int 4)))
    b_law_v5_2))))
noncomputable def t_law_v5_1 : MS := (S.set 1 (E.call F__law_hand_v2 (E.consA (E.var 0) E.nilA)))
noncomputable def t_law_v5_2 : MS := (S.set 2 (E.call (F.newFam F_Family___init__) (E.consA (E.c (.int 2)) (E.consA (E.tup (E.consA (E.tup E.nilA) (E.consA (E.tup (E.consA (E.c (.int 0)) (E.consA (E.c (.int 1)) E.nilA))) E.nilA))) E.nilA))))
noncomputable def t_law_v5_3 : MS := b_law_v5_1
noncomputable def t_law_v5_4 : MS := (S.for_ (G.name 3) (I.range1 (E.c (.int 3)))
    b_law_v5_3)
noncomputable def t_law_v5_5 : MS := (S.ret (E.c (.bl true)))
noncomputable def m_law_v5 : MS := (S.seq t_law_v5_1
    (S.seq t_law_v5_2
    (S.seq t_law_v5_3
    (S.seq t_law_v5_4
    t_law_v5_5))))
noncomputable def F_law_v5 : Fn := fnA 1 10 m_law_v5
end Sm.Pr
/-! ## K15gen -/
/-! law_k15_whole_neighbours_and_distances: the body of each def keeps its plain meaning. Printed by gen.py. -/
namespace Sm.K15
open PySem PySem.Spec PyProof.Rows L2 Sm Sm.Pr
def top (i : Nat) : Stmt := PySem.Challenge.pw_allpatterns_k15_whole_neighbours_and_dis.main.body.getD i (.Pass ⟨0, 0, 0, 0⟩)
abbrev s_is_integer : Stmt := top 1
abbrev N_is_integer : List Str := ["thing"]
theorem sc_is_integer : FnScope N_is_integer ["thing"] (defScope s_is_integer) := ⟨rfl, rfl, rfl, by decide +kernel, rfl, by decide +kernel, by decide +kernel⟩
abbrev s_is_within : Stmt := top 2
abbrev N_is_within : List Str := ["thing", "low", "high"]
theorem sc_is_within : FnScope N_is_within ["thing", "low", "high"] (defScope s_is_within) := ⟨rfl, rfl, rfl, by decide +kernel, rfl, by decide +kernel, by decide +kernel⟩
abbrev s_is_lot : Stmt := top 3
abbrev N_is_lot : List Str := ["thing", "many", "one", "other"]
theorem sc_is_lot : FnScope N_is_lot ["thing", "many"] (defScope s_is_lot) := ⟨rfl, rfl, rfl, by decide +kernel, rfl, by decide +kernel, by decide +kernel⟩
abbrev s_are_lots : Stmt := top 18
abbrev N_are_lots : List Str := ["points", "thing", "lot", "one", "other"]
theorem sc_are_lots : FnScope N_are_lots ["points", "thing"] (defScope s_are_lots) := ⟨rfl, rfl, rfl, by decide +kernel, rfl, by decide +kernel, by decide +kernel⟩
abbrev s_check_member : Stmt := top 9
abbrev N_check_member : List Str := ["members", "number"]
theorem sc_check_member : FnScope N_check_member ["members", "number"] (defScope s_check_member) := ⟨rfl, rfl, rfl, by decide +kernel, rfl, by decide +kernel, by decide +kernel⟩
abbrev s_pairs_in : Stmt := top 10
abbrev N_pairs_in : List Str := ["members", "place", "found", "number", "lot", "point", "more"]
theorem sc_pairs_in : FnScope N_pairs_in ["members"] (defScope s_pairs_in) := ⟨rfl, rfl, rfl, by decide +kernel, rfl, by decide +kernel, by decide +kernel⟩
abbrev s_pairs : Stmt := top 11
abbrev N_pairs : List Str := ["members"]
theorem sc_pairs : FnScope N_pairs ["members"] (defScope s_pairs) := ⟨rfl, rfl, rfl, by decide +kernel, rfl, by decide +kernel, by decide +kernel⟩
abbrev s_steps_from : Stmt := top 12
abbrev N_steps_from : List Str := ["members", "a", "found", "waiting", "at", "here", "one", "other", "point", "mine", "its"]
theorem sc_steps_from : FnScope N_steps_from ["members", "a"] (defScope s_steps_from) := ⟨rfl, rfl, rfl, by decide +kernel, rfl, by decide +kernel, by decide +kernel⟩
abbrev s_far : Stmt := top 13
abbrev N_far : List Str := ["members", "a", "b", "found"]
theorem sc_far : FnScope N_far ["members", "a", "b"] (defScope s_far) := ⟨rfl, rfl, rfl, by decide +kernel, rfl, by decide +kernel, by decide +kernel⟩
abbrev s_differing : Stmt := top 14
abbrev N_differing : List Str := ["one", "other", "point"]
theorem sc_differing : FnScope N_differing ["one", "other"] (defScope s_differing) := ⟨rfl, rfl, rfl, by decide +kernel, rfl, by decide +kernel, by decide +kernel⟩
abbrev s_apart : Stmt := top 15
abbrev N_apart : List Str := ["members", "a", "one", "found", "b", "other"]
theorem sc_apart : FnScope N_apart ["members"] (defScope s_apart) := ⟨rfl, rfl, rfl, by decide +kernel, rfl, by decide +kernel, by decide +kernel⟩
abbrev s_Family___init__ : Stmt := inClass (top 19) 0
abbrev N_Family___init__ : List Str := ["self", "points", "lots"]
theorem sc_Family___init__ : FnScope N_Family___init__ ["self", "points", "lots"] (defScope s_Family___init__) := ⟨rfl, rfl, rfl, by decide +kernel, rfl, by decide +kernel, by decide +kernel⟩
abbrev s__law_hand : Stmt := top 21
abbrev N__law_hand : List Str := ["script", "cells", "cell"]
theorem sc__law_hand : FnScope N__law_hand ["script"] (defScope s__law_hand) := ⟨rfl, rfl, rfl, by decide +kernel, rfl, by decide +kernel, by decide +kernel⟩
abbrev s__law_draw : Stmt := top 22
abbrev N__law_draw : List Str := ["hand", "sides", "cell", "digit", "number"]
theorem sc__law_draw : FnScope N__law_draw ["hand", "sides"] (defScope s__law_draw) := ⟨rfl, rfl, rfl, by decide +kernel, rfl, by decide +kernel, by decide +kernel⟩
abbrev s__law_any : Stmt := top 23
abbrev N__law_any : List Str := ["hand", "things"]
theorem sc__law_any : FnScope N__law_any ["hand", "things"] (defScope s__law_any) := ⟨rfl, rfl, rfl, by decide +kernel, rfl, by decide +kernel, by decide +kernel⟩
abbrev s__law_is : Stmt := top 24
abbrev N__law_is : List Str := ["told", "due"]
theorem sc__law_is : FnScope N__law_is ["told", "due"] (defScope s__law_is) := ⟨rfl, rfl, rfl, by decide +kernel, rfl, by decide +kernel, by decide +kernel⟩
abbrev s__law_within : Stmt := top 26
abbrev N__law_within : List Str := ["lot", "found", "point", "some"]
theorem sc__law_within : FnScope N__law_within ["lot"] (defScope s__law_within) := ⟨rfl, rfl, rfl, by decide +kernel, rfl, by decide +kernel, by decide +kernel⟩
abbrev s__law_family : Stmt := top 25
abbrev N__law_family : List Str := ["hand", "greatest", "points", "kind", "met", "turn", "lot", "other", "point", "less", "at"]
theorem sc__law_family : FnScope N__law_family ["hand", "greatest"] (defScope s__law_family) := ⟨rfl, rfl, rfl, by decide +kernel, rfl, by decide +kernel, by decide +kernel⟩
abbrev s__law_differs : Stmt := top 30
abbrev N__law_differs : List Str := ["one", "other", "point"]
theorem sc__law_differs : FnScope N__law_differs ["one", "other"] (defScope s__law_differs) := ⟨rfl, rfl, rfl, by decide +kernel, rfl, by decide +kernel, by decide +kernel⟩
abbrev s__law_pairs : Stmt := top 31
abbrev N__law_pairs : List Str := ["members", "found", "a", "one", "b", "other"]
theorem sc__law_pairs : FnScope N__law_pairs ["members"] (defScope s__law_pairs) := ⟨rfl, rfl, rfl, by decide +kernel, rfl, by decide +kernel, by decide +kernel⟩
abbrev s__law_steps : Stmt := top 33
abbrev N__law_steps : List Str := ["members", "first", "found", "waiting", "at", "here", "other"]
theorem sc__law_steps : FnScope N__law_steps ["members", "first"] (defScope s__law_steps) := ⟨rfl, rfl, rfl, by decide +kernel, rfl, by decide +kernel, by decide +kernel⟩
abbrev s__law_apart : Stmt := top 34
abbrev N__law_apart : List Str := ["members", "a", "steps", "b"]
theorem sc__law_apart : FnScope N__law_apart ["members"] (defScope s__law_apart) := ⟨rfl, rfl, rfl, by decide +kernel, rfl, by decide +kernel, by decide +kernel⟩
abbrev s_law : Stmt := top 35
abbrev N_law : List Str := ["script", "hand", "two", "turn", "points", "lots", "members", "again", "a", "b"]
theorem sc_law : FnScope N_law ["script"] (defScope s_law) := ⟨rfl, rfl, rfl, by decide +kernel, rfl, by decide +kernel, by decide +kernel⟩
structure Tx (K : PySem.W.Frag) (mg : Str → Option Value) (L : Lb) : Prop where
  d_is_integer : DAt K mg "is_integer" s_is_integer ["thing"]
  d_is_within : DAt K mg "is_within" s_is_within ["thing", "low", "high"]
  d_is_lot : DAt K mg "is_lot" s_is_lot ["thing", "many"]
  d_are_lots : DAt K mg "are_lots" s_are_lots ["points", "thing"]
  d_check_member : DAt K mg "check_member" s_check_member ["members", "number"]
  d_pairs_in : DAt K mg "pairs_in" s_pairs_in ["members"]
  d_pairs : DAt K mg "pairs" s_pairs ["members"]
  d_steps_from : DAt K mg "steps_from" s_steps_from ["members", "a"]
  d_far : DAt K mg "far" s_far ["members", "a", "b"]
  d_differing : DAt K mg "differing" s_differing ["one", "other"]
  d_apart : DAt K mg "apart" s_apart ["members"]
  d__law_hand : DAt K mg "_law_hand" s__law_hand ["script"]
  d__law_draw : DAt K mg "_law_draw" s__law_draw ["hand", "sides"]
  d__law_any : DAt K mg "_law_any" s__law_any ["hand", "things"]
  d__law_is : DAt K mg "_law_is" s__law_is ["told", "due"]
  d__law_within : DAt K mg "_law_within" s__law_within ["lot"]
  d__law_family : DAt K mg "_law_family" s__law_family ["hand", "greatest"]
  d__law_differs : DAt K mg "_law_differs" s__law_differs ["one", "other"]
  d__law_pairs : DAt K mg "_law_pairs" s__law_pairs ["members"]
  d__law_steps : DAt K mg "_law_steps" s__law_steps ["members", "first"]
  d__law_apart : DAt K mg "_law_apart" s__law_apart ["members"]
  d_law : DAt K mg "law" s_law ["script"]
  n_int : mg "int" = none
  n_isinstance : mg "isinstance" = none
  n_bool : mg "bool" = none
  n_tuple : mg "tuple" = none
  n_all : mg "all" = none
  n_zip : mg "zip" = none
  n_len : mg "len" = none
  n_enumerate : mg "enumerate" = none
  n_dict : mg "dict" = none
  n_range : mg "range" = none
  n_sorted : mg "sorted" = none
  n_abs : mg "abs" = none
  n_set : mg "set" = none
  g_MOST_POINTS : ∃ t, mg "MOST_POINTS" = some (.int 6 t)
  fam : FamOk K L
  kl : ∀ a ns, L.kl a ns → LitL K a ns
  m_Family : mg "Family" = some (.ref (L.cl "Family"))
  i_Family : ∃ f fd, Fun K "__init__" "Family.__init__" s_Family___init__ f fd ∧ Mk K (L.cl "Family") f ∧ Binds K fd ["self", "points", "lots"] []
  f_Family_looked : FldOk K L ["Family"] "looked"
  f_Family_points : FldOk K L ["Family"] "points"
  f_Family_lots : FldOk K L ["Family"] "lots"
  ca_pairs : L.ca "pairs" = ca_pairs_in
section
variable {P : Program} {w : World} {K : PySem.W.Frag} {mg : Str → Option Value} {base : Heap} {L : Lb}
theorem ok_is_integer (T : Tx K mg L) : Cal P w K mg base L "is_integer" ["thing"] 1 F_is_integer := by
  refine cal_A (k := 0) (m := m_is_integer) (N := N_is_integer) T.d_is_integer sc_is_integer fun f cdv A outer s H Ex hr => ?_
  exact (ss_one (s_ret (se_and (se_callB (c_isi T.fam) rfl T.n_isinstance rfl (sa_cons (se_var 0) (sa_cons (se_ty rfl T.n_int rfl) sa_nil))) (se_one (se_not (se_callB (c_isi T.fam) rfl T.n_isinstance rfl (sa_cons (se_var 0) (sa_cons (se_ty rfl T.n_bool rfl) sa_nil))))))))
theorem ok_is_within (T : Tx K mg L) : Cal P w K mg base L "is_within" ["thing", "low", "high"] 2 F_is_within := by
  refine cal_A (k := 1) (m := m_is_within) (N := N_is_within) T.d_is_within sc_is_within fun f cdv A outer s H Ex hr => ?_
  exact (ss_one (s_ret (se_and (se_call (ok_is_integer T) hr (by decide) rfl (sa_cons (se_var 0) sa_nil) (len_consA (fun _ _ _ _ h => len_nilA h))) (se_one (se_chain o_le o_le (se_var 1) (se_var 0) (se_var 2))))))
theorem ok_is_lot (T : Tx K mg L) : Cal P w K mg base L "is_lot" ["thing", "many"] 3 F_is_lot := by
  refine cal_A (k := 2) (m := m_is_lot) (N := N_is_lot) T.d_is_lot sc_is_lot fun f cdv A outer s H Ex hr => ?_
  exact (ss_cons (s_ite (PW.pt (sw_or (st_not (st_val (se_callB (c_isi T.fam) rfl T.n_isinstance rfl (sa_cons (se_var 0) (sa_cons (se_ty rfl T.n_tuple rfl) sa_nil))))) (sw_or1 (st_not (st_val (se_callB (c_all rfl) rfl T.n_all rfl (sa_cons (se_lc (own := [("one", 2)]) rfl sc_is_lot.nd (si_all (se_var 0)) (blkOk_by (N := N_is_lot) (sc := defScope s_is_lot) (by decide +kernel)) (fun _ _ _ _ _ => (sg_name sc_is_lot.nd rfl (by first | exact Or.inl rfl | exact Or.inr rfl))) (fun _ _ _ _ _ => sts_nil) (fun _ _ _ _ _ => (se_call (ok_is_within T) hr (by decide) rfl (sa_cons (se_var 2) (sa_cons se_int (sa_cons (se_op2 o_sub (se_var 1) se_int) sa_nil))) (len_consA (len_consA (len_consA (fun _ _ _ _ h => len_nilA h)))))) (by decide)) sa_nil))))))) (ss_one (s_ret se_bl)) ss_nil)
    (ss_one (s_ret (se_callB (c_all rfl) rfl T.n_all rfl (sa_cons (se_lc (own := [("one", 2), ("other", 3)]) rfl sc_is_lot.nd (si_zip rfl T.n_zip (sa_cons (se_var 0) (sa_cons (se_slice (se_var 0) se_int True.intro) sa_nil))) (blkOk_by (N := N_is_lot) (sc := defScope s_is_lot) (by decide +kernel)) (fun _ _ _ _ _ => (sg_tup rfl (sgs_cons (sg_name sc_is_lot.nd rfl (by first | exact Or.inl rfl | exact Or.inr rfl)) (sgs_cons (sg_name sc_is_lot.nd rfl (by first | exact Or.inl rfl | exact Or.inr rfl)) sgs_nil)) (len_consT (len_consT (fun _ _ _ h => len_nilT h))))) (fun _ _ _ _ _ => sts_nil) (fun _ _ _ _ _ => (se_cmp (o_lt hr.units0) (se_var 2) (se_var 3) (nomark _))) (by decide)) sa_nil)))))
theorem ok_are_lots (T : Tx K mg L) : Cal P w K mg base L "are_lots" ["points", "thing"] 4 F_are_lots := by
  refine cal_A (k := 3) (m := m_are_lots) (N := N_are_lots) T.d_are_lots sc_are_lots fun f cdv A outer s H Ex hr => ?_
  exact (ss_cons (s_ite (PW.pt (sw_or (st_not (st_val (se_callB (c_isi T.fam) rfl T.n_isinstance rfl (sa_cons (se_var 1) (sa_cons (se_ty rfl T.n_tuple rfl) sa_nil))))) (sw_or (st_cmp (o_eq0 hr.units) (se_callB c_len rfl T.n_len rfl (sa_cons (se_var 1) sa_nil)) se_int (nomark _)) (sw_or1 (st_not (st_val (se_callB (c_all rfl) rfl T.n_all rfl (sa_cons (se_lc (own := [("lot", 2)]) rfl sc_are_lots.nd (si_all (se_var 1)) (blkOk_by (N := N_are_lots) (sc := defScope s_are_lots) (by decide +kernel)) (fun _ _ _ _ _ => (sg_name sc_are_lots.nd rfl (by first | exact Or.inl rfl | exact Or.inr rfl))) (fun _ _ _ _ _ => sts_nil) (fun _ _ _ _ _ => (se_call (ok_is_lot T) hr (by decide) rfl (sa_cons (se_var 2) (sa_cons (se_var 0) sa_nil)) (len_consA (len_consA (fun _ _ _ _ h => len_nilA h))))) (by decide)) sa_nil)))))))) (ss_one (s_ret se_bl)) ss_nil)
    (ss_one (s_ret (se_callB (c_all rfl) rfl T.n_all rfl (sa_cons (se_lc (own := [("one", 3), ("other", 4)]) rfl sc_are_lots.nd (si_zip rfl T.n_zip (sa_cons (se_var 1) (sa_cons (se_slice (se_var 1) se_int True.intro) sa_nil))) (blkOk_by (N := N_are_lots) (sc := defScope s_are_lots) (by decide +kernel)) (fun _ _ _ _ _ => (sg_tup rfl (sgs_cons (sg_name sc_are_lots.nd rfl (by first | exact Or.inl rfl | exact Or.inr rfl)) (sgs_cons (sg_name sc_are_lots.nd rfl (by first | exact Or.inl rfl | exact Or.inr rfl)) sgs_nil)) (len_consT (len_consT (fun _ _ _ h => len_nilT h))))) (fun _ _ _ _ _ => sts_nil) (fun _ _ _ _ _ => (se_cmp (o_lt hr.units0) (se_var 3) (se_var 4) (nomark _))) (by decide)) sa_nil)))))
theorem ok_check_member (T : Tx K mg L) : Cal P w K mg base L "check_member" ["members", "number"] 3 F_check_member := by
  refine cal_A (k := 2) (m := m_check_member) (N := N_check_member) T.d_check_member sc_check_member fun f cdv A outer s H Ex hr => ?_
  exact (ss_one (s_ite (st_not (st_val (se_call (ok_is_within T) hr (by decide) rfl (sa_cons (se_var 1) (sa_cons se_int (sa_cons (se_op2 o_sub (se_callB c_len rfl T.n_len rfl (sa_cons (se_fam T.fam (se_var 0)) sa_nil)) se_int) sa_nil))) (len_consA (len_consA (len_consA (fun _ _ _ _ h => len_nilA h))))))) (ss_one s_never) ss_nil))
theorem ok_pairs_in (T : Tx K mg L) : Cal P w K mg base L "pairs_in" ["members"] 1 F_pairs_in := by
  refine cal_A (k := 0) (m := m_pairs_in) (N := N_pairs_in) T.d_pairs_in sc_pairs_in fun f cdv A outer s H Ex hr => ?_
  exact ss_cached (j := 6) T.fam (hu_of hr) T.ca_pairs rfl (sk_cons (s_set (i := 1) sc_pairs_in.nd rfl (by first | exact Or.inl rfl | exact Or.inr rfl) (se_dictT' rfl (ru hr) rfl T.n_dict (sa_cons (se_lc (own := [("number", 3), ("lot", 4)]) rfl sc_pairs_in.nd (si_enumA rfl T.n_enumerate (sa_cons (se_fam T.fam (se_var 0)) sa_nil)) (blkOk_by (N := N_pairs_in) (sc := defScope s_pairs_in) (by decide +kernel)) (fun _ _ _ _ _ => (sg_tup rfl (sgs_cons (sg_name sc_pairs_in.nd rfl (by first | exact Or.inl rfl | exact Or.inr rfl)) (sgs_cons (sg_name sc_pairs_in.nd rfl (by first | exact Or.inl rfl | exact Or.inr rfl)) sgs_nil)) (len_consT (len_consT (fun _ _ _ h => len_nilT h))))) (fun _ _ _ _ _ => sts_nil) (fun _ _ _ _ _ => (se_tup (sa_cons (se_var 4) (sa_cons (se_var 3) sa_nil)) (show 2 ≤ 1000 by decide) (len_consA (len_consA (fun _ _ _ _ h => len_nilA h))))) (by decide)) sa_nil)))
    (sk_cons (s_set (i := 2) sc_pairs_in.nd rfl (by first | exact Or.inl rfl | exact Or.inr rfl) (se_lstB sa_nil (show 0 ≤ 1000 by decide) (fun _ _ _ _ h => len_nilA h)))
    (sk_cons (s_for PassesOwn.never rfl (si_enumA rfl T.n_enumerate (sa_cons (se_fam T.fam (se_var 0)) sa_nil)) (sg_tup rfl (sgs_cons (sg_name sc_pairs_in.nd rfl (by first | exact Or.inl rfl | exact Or.inr rfl)) (sgs_cons (sg_name sc_pairs_in.nd rfl (by first | exact Or.inl rfl | exact Or.inr rfl)) sgs_nil)) (len_consT (len_consT (fun _ _ _ h => len_nilT h))))
    (ss_one (s_for PassesOwn.never rfl (si_range1 rfl T.n_range (se_fam T.fam (se_var 0))) (sg_name sc_pairs_in.nd rfl (by first | exact Or.inl rfl | exact Or.inr rfl))
    (ss_cons (s_set (i := 6) sc_pairs_in.nd rfl (by first | exact Or.inl rfl | exact Or.inr rfl) (se_callTy c_tuple rfl T.n_tuple rfl (sa_cons (se_callB (c_sorted (ru hr)) rfl T.n_sorted rfl (sa_cons (se_op2 o_add (se_var 4) (se_tup (sa_cons (se_var 5) sa_nil) (show 1 ≤ 1000 by decide) (len_consA (fun _ _ _ _ h => len_nilA h)))) sa_nil)) sa_nil)))
    (ss_one (s_ite (PW.pt (sw_and (st_cmp (o_notIn (ru hr)) (se_var 5) (se_var 4) (by rfl)) (sw_and1 (st_cmp (o_in (ru hr)) (se_var 6) (se_var 1) (by rfl))))) (ss_one (s_expr (se_bm ty_lst PySem.F.plainAttrs_list PySem.F.slot_list_append PySem.F.type_list_append m_append (se_var 2) (sa_cons (se_tup (sa_cons (se_var 3) (sa_cons (se_item (hu_of hr) (se_var 1) (se_var 6) (fun _ _ => rfl)) (sa_cons (se_var 5) sa_nil))) (show 3 ≤ 1000 by decide) (len_consA (len_consA (len_consA (fun _ _ _ _ h => len_nilA h))))) sa_nil)))) ss_nil))))))
    (sk_last T.fam (hu_of hr) (by first | exact .head _ | exact .tail _ (.head _) | exact .tail _ (.tail _ (.head _)) | exact .tail _ (.tail _ (.tail _ (.head _)))) (se_callB (c_sorted (ru hr)) rfl T.n_sorted rfl (sa_cons (se_var 2) sa_nil)) rfl (by first | exact Or.inl rfl | exact Or.inr (Or.inl rfl)))))) rfl (by first | exact Or.inl rfl | exact Or.inr (Or.inl rfl))
theorem ok_pairs (T : Tx K mg L) : Cal P w K mg base L "pairs" ["members"] 2 F_pairs := by
  refine cal_A (k := 1) (m := m_pairs) (N := N_pairs) T.d_pairs sc_pairs fun f cdv A outer s H Ex hr => ?_
  exact (ss_one (s_ret (se_callTy c_tuple rfl T.n_tuple rfl (sa_cons (se_call (ok_pairs_in T) hr (by decide) rfl (sa_cons (se_var 0) sa_nil) (len_consA (fun _ _ _ _ h => len_nilA h))) sa_nil))))
theorem ok_steps_from (T : Tx K mg L) : Cal P w K mg base L "steps_from" ["members", "a"] 2 F_steps_from := by
  refine cal_B (k := 1) (m := m_steps_from) (N := N_steps_from) T.d_steps_from sc_steps_from fun f cdv A outer s H Ex hr => ?_
  exact (ss_cons (s_par3 (i := 2) (j := 3) (l := 4) rfl sc_steps_from.nd rfl rfl rfl (by decide) (by decide) (by decide) rfl rfl rfl (sa_cons (se_disp1 1 pe_int (fun _ => .int _)) (sa_cons (se_lstB (sa_cons (se_var 1) sa_nil) (show 1 ≤ 1000 by decide) (len_consA (fun _ _ _ _ h => len_nilA h))) (sa_cons se_int sa_nil))) rfl)
    (ss_cons (s_while 200 PassesOwn.never (st_cmp (o_lt hr.units0) (se_var 4) (se_callB c_len rfl T.n_len rfl (sa_cons (se_var 3) sa_nil)) (nomark _)) (ss_cons (s_set (i := 5) sc_steps_from.nd rfl (by first | exact Or.inl rfl | exact Or.inr rfl) (se_item (hu_of hr) (se_var 3) (se_var 4) (fun _ _ => rfl)))
    (ss_cons (s_for PassesOwn.never rfl (si_all (se_call (ok_pairs_in T) hr (by decide) rfl (sa_cons (se_var 0) sa_nil) (len_consA (fun _ _ _ _ h => len_nilA h)))) (sg_tup rfl (sgs_cons (sg_name sc_steps_from.nd rfl (by first | exact Or.inl rfl | exact Or.inr rfl)) (sgs_cons (sg_name sc_steps_from.nd rfl (by first | exact Or.inl rfl | exact Or.inr rfl)) (sgs_cons (sg_name sc_steps_from.nd rfl (by first | exact Or.inl rfl | exact Or.inr rfl)) sgs_nil))) (len_consT (len_consT (len_consT (fun _ _ _ h => len_nilT h)))))
    (ss_one (s_for PassesOwn.never rfl (si_all (se_tup (sa_cons (se_tup (sa_cons (se_var 6) (sa_cons (se_var 7) sa_nil)) (show 2 ≤ 1000 by decide) (len_consA (len_consA (fun _ _ _ _ h => len_nilA h)))) (sa_cons (se_tup (sa_cons (se_var 7) (sa_cons (se_var 6) sa_nil)) (show 2 ≤ 1000 by decide) (len_consA (len_consA (fun _ _ _ _ h => len_nilA h)))) sa_nil)) (show 2 ≤ 1000 by decide) (len_consA (len_consA (fun _ _ _ _ h => len_nilA h))))) (sg_tup rfl (sgs_cons (sg_name sc_steps_from.nd rfl (by first | exact Or.inl rfl | exact Or.inr rfl)) (sgs_cons (sg_name sc_steps_from.nd rfl (by first | exact Or.inl rfl | exact Or.inr rfl)) sgs_nil)) (len_consT (len_consT (fun _ _ _ h => len_nilT h))))
    (ss_one (s_ite (PW.pt (sw_and (st_cmp (o_eq0 hr.units) (se_var 9) (se_var 5) (nomark _)) (sw_and1 (st_cmp (o_notIn (ru hr)) (se_var 10) (se_var 2) (by rfl))))) (ss_cons (s_store (hu_of hr) (se_op2 o_add (se_item (hu_of hr) (se_var 2) (se_var 5) (fun _ _ => rfl)) se_int) (se_var 2) (se_var 10))
    (ss_one (s_expr (se_bm ty_lst PySem.F.plainAttrs_list PySem.F.slot_list_append PySem.F.type_list_append m_append (se_var 3) (sa_cons (se_var 10) sa_nil))))) ss_nil)))))
    (ss_one (s_set (i := 4) sc_steps_from.nd rfl (by first | exact Or.inl rfl | exact Or.inr rfl) (se_op2 o_add (se_var 4) se_int))))))
    (ss_one (s_ret (se_var 2)))))
theorem ok_far (T : Tx K mg L) : Cal P w K mg base L "far" ["members", "a", "b"] 4 F_far := by
  refine cal_A (k := 3) (m := m_far) (N := N_far) T.d_far sc_far fun f cdv A outer s H Ex hr => ?_
  exact (ss_cons (s_expr (se_call (ok_check_member T) hr (by decide) rfl (sa_cons (se_var 0) (sa_cons (se_var 1) sa_nil)) (len_consA (len_consA (fun _ _ _ _ h => len_nilA h)))))
    (ss_cons (s_expr (se_call (ok_check_member T) hr (by decide) rfl (sa_cons (se_var 0) (sa_cons (se_var 2) sa_nil)) (len_consA (len_consA (fun _ _ _ _ h => len_nilA h)))))
    (ss_cons (s_set (i := 3) sc_far.nd rfl (by first | exact Or.inl rfl | exact Or.inr rfl) (se_call (ok_steps_from T) hr (by decide) rfl (sa_cons (se_var 0) (sa_cons (se_var 1) sa_nil)) (len_consA (len_consA (fun _ _ _ _ h => len_nilA h)))))
    (ss_one (s_ret (se_ite (st_cmp (o_in (ru hr)) (se_var 2) (se_var 3) (by rfl)) (se_item (hu_of hr) (se_var 3) (se_var 2) (fun _ _ => rfl)) se_non))))))
theorem ok_differing (T : Tx K mg L) : Cal P w K mg base L "differing" ["one", "other"] 1 F_differing := by
  refine cal_A (k := 0) (m := m_differing) (N := N_differing) T.d_differing sc_differing fun f cdv A outer s H Ex hr => ?_
  exact (ss_one (s_ret (se_callTy c_tuple rfl T.n_tuple rfl (sa_cons (se_callB (c_sorted (ru hr)) rfl T.n_sorted rfl (sa_cons (se_lc (own := [("point", 2)]) rfl sc_differing.nd (si_all (se_op2 o_add (se_var 0) (se_var 1))) (blkOk_by (N := N_differing) (sc := defScope s_differing) (by decide +kernel)) (fun _ _ _ _ _ => (sg_name sc_differing.nd rfl (by first | exact Or.inl rfl | exact Or.inr rfl))) (fun _ _ _ _ _ => (sts_one (st_cmp (o_ne0 hr.units) (se_cmp (o_in (ru hr)) (se_var 2) (se_var 0) (by rfl)) (se_cmp (o_in (ru hr)) (se_var 2) (se_var 1) (by rfl)) (nomark _)))) (fun _ _ _ _ _ => (se_var 2)) (by decide)) sa_nil)) sa_nil))))
theorem ok_apart (T : Tx K mg L) : Cal P w K mg base L "apart" ["members"] 3 F_apart := by
  refine cal_A (k := 2) (m := m_apart) (N := N_apart) T.d_apart sc_apart fun f cdv A outer s H Ex hr => ?_
  exact (ss_cons (s_for PassesOwn.never rfl (si_enumA rfl T.n_enumerate (sa_cons (se_fam T.fam (se_var 0)) sa_nil)) (sg_tup rfl (sgs_cons (sg_name sc_apart.nd rfl (by first | exact Or.inl rfl | exact Or.inr rfl)) (sgs_cons (sg_name sc_apart.nd rfl (by first | exact Or.inl rfl | exact Or.inr rfl)) sgs_nil)) (len_consT (len_consT (fun _ _ _ h => len_nilT h))))
    (ss_cons (s_set (i := 3) sc_apart.nd rfl (by first | exact Or.inl rfl | exact Or.inr rfl) (se_call (ok_steps_from T) hr (by decide) rfl (sa_cons (se_var 0) (sa_cons (se_var 1) sa_nil)) (len_consA (len_consA (fun _ _ _ _ h => len_nilA h)))))
    (ss_one (s_for PassesOwn.never rfl (si_enumA rfl T.n_enumerate (sa_cons (se_fam T.fam (se_var 0)) sa_nil)) (sg_tup rfl (sgs_cons (sg_name sc_apart.nd rfl (by first | exact Or.inl rfl | exact Or.inr rfl)) (sgs_cons (sg_name sc_apart.nd rfl (by first | exact Or.inl rfl | exact Or.inr rfl)) sgs_nil)) (len_consT (len_consT (fun _ _ _ h => len_nilT h))))
    (ss_one (s_ite (PW.pt (sw_and (st_cmp o_gt (se_var 4) (se_var 1) (nomark _)) (sw_and1 (PW.pt (sw_or (st_cmp (o_notIn (ru hr)) (se_var 4) (se_var 3) (by rfl)) (sw_or1 (st_cmp (o_ne0 hr.units) (se_item (hu_of hr) (se_var 3) (se_var 4) (fun _ _ => rfl)) (se_callB c_len rfl T.n_len rfl (sa_cons (se_call (ok_differing T) hr (by decide) rfl (sa_cons (se_var 2) (sa_cons (se_var 5) sa_nil)) (len_consA (len_consA (fun _ _ _ _ h => len_nilA h)))) sa_nil)) (nomark _)))))))) (ss_one (s_ret (se_tup (sa_cons (se_var 1) (sa_cons (se_var 4) sa_nil)) (show 2 ≤ 1000 by decide) (len_consA (len_consA (fun _ _ _ _ h => len_nilA h)))))) ss_nil))))))
    (ss_one (s_ret se_non)))
theorem fn_Family___init__ (T : Tx K mg L) {f : Addr} {fd : FuncData} (G : Fun K "__init__" "Family.__init__" s_Family___init__ f fd) : FnOk P w K mg base CX0 5 f fd ["self", "points", "lots"] (spF L 3 F_Family___init__) := by
  refine fn_A (k := 4) (m := m_Family___init__) (N := N_Family___init__) G sc_Family___init__ fun f cdv A outer s H Ex hr => ?_
  exact (ss_cons (s_ite (st_not (st_val (se_call (ok_is_within T) hr (by decide) rfl (sa_cons (se_var 1) (sa_cons se_int (sa_cons (se_gi rfl T.g_MOST_POINTS) sa_nil))) (len_consA (len_consA (len_consA (fun _ _ _ _ h => len_nilA h))))))) (ss_one s_never) ss_nil)
    (ss_cons (s_ite (st_not (st_val (se_call (ok_are_lots T) hr (by decide) rfl (sa_cons (se_var 1) (sa_cons (se_var 2) sa_nil)) (len_consA (len_consA (fun _ _ _ _ h => len_nilA h)))))) (ss_one s_never) ss_nil)
    (ss_cons (s_asgX (se_tup (sa_cons (se_var 1) (sa_cons (se_var 2) sa_nil)) (show 2 ≤ 1000 by decide) (len_consA (len_consA (fun _ _ _ _ h => len_nilA h)))) (gx_tup rfl (gsx_cons (gx_fld T.f_Family_points (se_var 0)) (gsx_cons (gx_fld T.f_Family_lots (se_var 0)) gsx_nil)) (len_consX (len_consX (fun _ _ _ _ h => len_nilX h)))))
    (ss_one (s_asgX se_dctK (gx_fld T.f_Family_looked (se_var 0)))))))
theorem mk_Family (T : Tx K mg L) : CalC P w K mg base L "Family" "Family" 2 5 F_Family___init__ := by
  obtain ⟨f, fd, G, M, b⟩ := T.i_Family
  exact ⟨f, fd, ["self", "points", "lots"], fn_Family___init__ T G, T.m_Family, M, b⟩
theorem ok__law_hand (T : Tx K mg L) : Cal P w K mg base L "_law_hand" ["script"] 1 F__law_hand_v2 := by
  refine cal_A (k := 0) (m := m__law_hand_v2) (N := N__law_hand) T.d__law_hand sc__law_hand fun f cdv A outer s H Ex hr => ?_
  exact (ss_cons (s_setLc (j := 1) (own := [("cell", 2)]) rfl sc__law_hand.nd rfl rfl (sw_true rfl rfl rfl (by decide +kernel)) (si_all (se_scr T.kl (se_var 0))) (blkOk_by (N := N__law_hand) (sc := defScope s__law_hand) (by decide +kernel)) (fun _ _ _ _ _ => (sg_name sc__law_hand.nd rfl (by first | exact Or.inl rfl | exact Or.inr rfl))) (fun _ _ _ _ _ => sts_nil) (fun _ _ _ _ _ => (se_callB c_abs rfl T.n_abs rfl (sa_cons (se_callTy c_int rfl T.n_int rfl (sa_cons (se_var 2) sa_nil)) sa_nil))) (by decide))
    (ss_one (s_ret (se_lstB (sa_cons (se_var 1) (sa_cons se_int (sa_cons se_int (sa_cons (se_op2 o_add se_int (se_callB c_len rfl T.n_len rfl (sa_cons (se_var 1) sa_nil))) (sa_cons se_int sa_nil))))) (show 5 ≤ 1000 by decide) (len_consA (len_consA (len_consA (len_consA (len_consA (fun _ _ _ _ h => len_nilA h))))))))))
theorem ok__law_draw (T : Tx K mg L) : Cal P w K mg base L "_law_draw" ["hand", "sides"] 1 F__law_draw_v2 := by
  refine cal_A (k := 0) (m := m__law_draw_v2) (N := N__law_draw) T.d__law_draw sc__law_draw fun f cdv A outer s H Ex hr => ?_
  exact (ss_cons (s_ite (PW.pt (sw_and (st_cmp (o_eq0 hr.units) (se_item (hu_of hr) (se_var 0) se_int (fun _ _ => rfl)) se_int (nomark _)) (sw_and1 (st_cmp (o_lt hr.units0) (se_item (hu_of hr) (se_var 0) se_int (fun _ _ => rfl)) (se_callB c_len rfl T.n_len rfl (sa_cons (se_item (hu_of hr) (se_var 0) se_int (fun _ _ => rfl)) sa_nil)) (nomark _))))) (ss_cons (s_set (i := 2) sc__law_draw.nd rfl (by first | exact Or.inl rfl | exact Or.inr rfl) (se_item (hu_of hr) (se_item (hu_of hr) (se_var 0) se_int (fun _ _ => rfl)) (se_item (hu_of hr) (se_var 0) se_int (fun _ _ => rfl)) (fun _ _ => rfl)))
    (ss_cons (s_store (hu_of hr) (se_op2 o_add (se_item (hu_of hr) (se_var 0) se_int (fun _ _ => rfl)) se_int) (se_var 0) se_int)
    (ss_cons (s_store (hu_of hr) (se_op2 o_mod (se_callTy c_int rfl T.n_int rfl (sa_cons (se_op2 o_add (se_op2 o_add (se_op2 o_mul (se_item (hu_of hr) (se_var 0) se_int (fun _ _ => rfl)) se_int) (se_op2 o_mul (se_var 2) se_int)) se_int) sa_nil)) se_int) (se_var 0) se_int)
    (ss_one (s_ite (st_cmp o_ge (se_var 2) (se_op2 o_pow se_int se_int) (nomark _)) (ss_one (s_store (hu_of hr) (se_var 2) (se_var 0) se_int)) ss_nil))))) ss_nil)
    (ss_cons (s_ite (st_cmp o_gt (se_item (hu_of hr) (se_var 0) se_int (fun _ _ => rfl)) se_int (nomark _)) (ss_cons (s_set (i := 3) sc__law_draw.nd rfl (by first | exact Or.inl rfl | exact Or.inr rfl) (se_op2 o_mod (se_callTy c_int rfl T.n_int rfl (sa_cons (se_item (hu_of hr) (se_var 0) se_int (fun _ _ => rfl)) sa_nil)) (se_var 1)))
    (ss_cons (s_store (hu_of hr) (se_op2 o_fdiv (se_item (hu_of hr) (se_var 0) se_int (fun _ _ => rfl)) (se_var 1)) (se_var 0) se_int)
    (ss_one (s_ret (se_var 3))))) ss_nil)
    (ss_cons (s_store (hu_of hr) (se_op2 o_add (se_item (hu_of hr) (se_var 0) se_int (fun _ _ => rfl)) se_int) (se_var 0) se_int)
    (ss_cons (s_set (i := 4) sc__law_draw.nd rfl (by first | exact Or.inl rfl | exact Or.inr rfl) (se_op2 o_mod (se_callTy c_int rfl T.n_int rfl (sa_cons (se_op2 o_mul (se_callTy c_int rfl T.n_int rfl (sa_cons (se_op2 o_add (se_item (hu_of hr) (se_var 0) se_int (fun _ _ => rfl)) (se_op2 o_mul se_int (se_item (hu_of hr) (se_var 0) se_int (fun _ _ => rfl)))) sa_nil)) se_int) sa_nil)) se_int))
    (ss_cons (s_set (i := 4) sc__law_draw.nd rfl (by first | exact Or.inl rfl | exact Or.inr rfl) (se_op2 o_mod (se_callTy c_int rfl T.n_int rfl (sa_cons (se_op2 o_mul (se_var 4) (se_op2 o_add (se_op2 o_fdiv (se_var 4) se_int) se_int)) sa_nil)) se_int))
    (ss_cons (s_set (i := 4) sc__law_draw.nd rfl (by first | exact Or.inl rfl | exact Or.inr rfl) (se_op2 o_mod (se_callTy c_int rfl T.n_int rfl (sa_cons (se_op2 o_mul (se_var 4) (se_op2 o_add (se_op2 o_fdiv (se_var 4) se_int) se_int)) sa_nil)) se_int))
    (ss_one (s_ret (se_op2 o_mod (se_callTy c_int rfl T.n_int rfl (sa_cons (se_op2 o_fdiv (se_var 4) se_int) sa_nil)) (se_var 1))))))))))
theorem ok__law_any (T : Tx K mg L) : Cal P w K mg base L "_law_any" ["hand", "things"] 2 F__law_any := by
  refine cal_A (k := 1) (m := m__law_any) (N := N__law_any) T.d__law_any sc__law_any fun f cdv A outer s H Ex hr => ?_
  exact (ss_one (s_ret (se_item (hu_of hr) (se_var 1) (se_call (ok__law_draw T) hr (by decide) rfl (sa_cons (se_var 0) (sa_cons (se_callB c_len rfl T.n_len rfl (sa_cons (se_var 1) sa_nil)) sa_nil)) (len_consA (len_consA (fun _ _ _ _ h => len_nilA h)))) (fun _ _ => rfl))))
theorem ok__law_is (T : Tx K mg L) : ∀ k, Cal P w K mg base L "_law_is" ["told", "due"] (k + 1) (F__law_is_v2 k)
  | 0 => by
    refine (cal_A (k := 0) (m := S.never) (N := N__law_is) T.d__law_is sc__law_is fun f cdv A outer s H Ex hr => ?_).mono (by omega)
    exact ss_never
  | k + 1 => by
    have ih : Tx K mg L → Cal P w K mg base L "_law_is" ["told", "due"] (k + 1) (F__law_is_v2 k) := fun T => ok__law_is T k
    refine (cal_A (k := k + 1) (m := m__law_is_v2 (F__law_is_v2 k)) (N := N__law_is) T.d__law_is sc__law_is fun f cdv A outer s H Ex hr => ?_).mono (by omega)
    exact (ss_cons (s_ite (PW.pt (sw_or (st_cmp (o_ne0 hr.units) (se_callB (c_isi T.fam) rfl T.n_isinstance rfl (sa_cons (se_var 0) (sa_cons (se_ty rfl T.n_bool rfl) sa_nil))) (se_callB (c_isi T.fam) rfl T.n_isinstance rfl (sa_cons (se_var 1) (sa_cons (se_ty rfl T.n_bool rfl) sa_nil))) (nomark _)) (sw_or1 (st_cmp (o_ne0 hr.units) (se_callB (c_isi T.fam) rfl T.n_isinstance rfl (sa_cons (se_var 0) (sa_cons (se_ty rfl T.n_int rfl) sa_nil))) (se_callB (c_isi T.fam) rfl T.n_isinstance rfl (sa_cons (se_var 1) (sa_cons (se_ty rfl T.n_int rfl) sa_nil))) (nomark _))))) (ss_one (s_ret se_bl)) ss_nil)
    (ss_one (s_ret (se_cmp (o_eq0 hr.units) (se_var 0) (se_var 1) (nomark _)))))
theorem ok__law_within (T : Tx K mg L) : Cal P w K mg base L "_law_within" ["lot"] 1 F__law_within_v2 := by
  refine cal_A (k := 0) (m := m__law_within_v2) (N := N__law_within) T.d__law_within sc__law_within fun f cdv A outer s H Ex hr => ?_
  exact (ss_cons (s_set (i := 1) sc__law_within.nd rfl (by first | exact Or.inl rfl | exact Or.inr rfl) (se_lst (sa_cons (se_tup sa_nil (show 0 ≤ 1000 by decide) (fun _ _ _ _ h => len_nilA h)) sa_nil) (show 1 ≤ 1000 by decide) (len_consA (fun _ _ _ _ h => len_nilA h))))
    (ss_cons (s_for PassesOwn.never rfl (si_all (se_var 0)) (sg_name sc__law_within.nd rfl (by first | exact Or.inl rfl | exact Or.inr rfl))
    (ss_one (s_set (i := 1) sc__law_within.nd rfl (by first | exact Or.inl rfl | exact Or.inr rfl) (se_op2 o_add (se_var 1) (se_lc (own := [("some", 3)]) rfl sc__law_within.nd (si_all (se_var 1)) (blkOk_by (N := N__law_within) (sc := defScope s__law_within) (by decide +kernel)) (fun _ _ _ _ _ => (sg_name sc__law_within.nd rfl (by first | exact Or.inl rfl | exact Or.inr rfl))) (fun _ _ _ _ _ => sts_nil) (fun _ _ _ _ _ => (se_op2 o_add (se_var 3) (se_tup (sa_cons (se_var 2) sa_nil) (show 1 ≤ 1000 by decide) (len_consA (fun _ _ _ _ h => len_nilA h))))) (by decide))))))
    (ss_one (s_ret (se_var 1)))))
theorem ok__law_family (T : Tx K mg L) : Cal P w K mg base L "_law_family" ["hand", "greatest"] 3 F__law_family_v2 := by
  refine cal_A (k := 2) (m := m__law_family_v2) (N := N__law_family) T.d__law_family sc__law_family fun f cdv A outer s H Ex hr => ?_
  exact (ss_cons (s_set (i := 2) sc__law_family.nd rfl (by first | exact Or.inl rfl | exact Or.inr rfl) (se_op2 o_add se_int (se_call (ok__law_draw T) hr (by decide) rfl (sa_cons (se_var 0) (sa_cons (se_var 1) sa_nil)) (len_consA (len_consA (fun _ _ _ _ h => len_nilA h))))))
    (ss_cons (s_par (i := 3) (j := 4) rfl sc__law_family.nd rfl rfl (by decide) rfl rfl (sa_cons (se_call (ok__law_draw T) hr (by decide) rfl (sa_cons (se_var 0) (sa_cons se_int sa_nil)) (len_consA (len_consA (fun _ _ _ _ h => len_nilA h)))) (sa_cons se_dctT sa_nil)) rfl)
    (ss_cons (s_for PassesOwn.never rfl (si_range1 rfl T.n_range (se_op2 o_add se_int (se_call (ok__law_draw T) hr (by decide) rfl (sa_cons (se_var 0) (sa_cons (se_call (ok__law_any T) hr (by decide) rfl (sa_cons (se_var 0) (sa_cons (se_lst (sa_cons se_int (sa_cons se_int (sa_cons se_int sa_nil))) (show 3 ≤ 1000 by decide) (len_consA (len_consA (len_consA (fun _ _ _ _ h => len_nilA h))))) sa_nil)) (len_consA (len_consA (fun _ _ _ _ h => len_nilA h)))) sa_nil)) (len_consA (len_consA (fun _ _ _ _ h => len_nilA h)))))) (sg_name sc__law_family.nd rfl (by first | exact Or.inl rfl | exact Or.inr rfl))
    (ss_cons (s_set (i := 6) sc__law_family.nd rfl (by first | exact Or.inl rfl | exact Or.inr rfl) (se_callTy c_tuple rfl T.n_tuple rfl (sa_cons (se_lc (own := [("point", 8)]) rfl sc__law_family.nd (si_range1 rfl T.n_range (se_var 2)) (blkOk_by (N := N__law_family) (sc := defScope s__law_family) (by decide +kernel)) (fun _ _ _ _ _ => (sg_name sc__law_family.nd rfl (by first | exact Or.inl rfl | exact Or.inr rfl))) (fun _ _ _ _ _ => (sts_one (st_cmp (o_eq0 hr.units) (se_call (ok__law_draw T) hr (by decide) rfl (sa_cons (se_var 0) (sa_cons se_int sa_nil)) (len_consA (len_consA (fun _ _ _ _ h => len_nilA h)))) se_int (nomark _)))) (fun _ _ _ _ _ => (se_var 8)) (by decide)) sa_nil)))
    (ss_cons (s_ite (PW.pt (sw_and (st_cmp (o_eq0 hr.units) (se_var 3) se_int (nomark _)) (sw_and1 (st_cmp o_gt (se_callB c_len rfl T.n_len rfl (sa_cons (se_var 4) sa_nil)) se_int (nomark _))))) (ss_cons (s_set (i := 7) sc__law_family.nd rfl (by first | exact Or.inl rfl | exact Or.inr rfl) (se_item (hu_of hr) (se_callB (c_sortedK rfl (ru hr)) rfl T.n_sorted rfl (sa_cons (se_var 4) sa_nil)) (se_call (ok__law_draw T) hr (by decide) rfl (sa_cons (se_var 0) (sa_cons (se_callB c_len rfl T.n_len rfl (sa_cons (se_var 4) sa_nil)) sa_nil)) (len_consA (len_consA (fun _ _ _ _ h => len_nilA h)))) (fun _ _ => rfl)))
    (ss_cons (s_set (i := 8) sc__law_family.nd rfl (by first | exact Or.inl rfl | exact Or.inr rfl) (se_call (ok__law_draw T) hr (by decide) rfl (sa_cons (se_var 0) (sa_cons (se_var 2) sa_nil)) (len_consA (len_consA (fun _ _ _ _ h => len_nilA h)))))
    (ss_one (s_set (i := 6) sc__law_family.nd rfl (by first | exact Or.inl rfl | exact Or.inr rfl) (se_callTy c_tuple rfl T.n_tuple rfl (sa_cons (se_callB (c_sorted (ru hr)) rfl T.n_sorted rfl (sa_cons (se_lc (own := [("at", 10)]) rfl sc__law_family.nd (si_range1 rfl T.n_range (se_var 2)) (blkOk_by (N := N__law_family) (sc := defScope s__law_family) (by decide +kernel)) (fun _ _ _ _ _ => (sg_name sc__law_family.nd rfl (by first | exact Or.inl rfl | exact Or.inr rfl))) (fun _ _ _ _ _ => (sts_one (st_cmp (o_ne0 hr.units) (se_cmp (o_in (ru hr)) (se_var 10) (se_var 7) (by rfl)) (se_cmp (o_eq0 hr.units) (se_var 10) (se_var 8) (nomark _)) (nomark _)))) (fun _ _ _ _ _ => (se_var 10)) (by decide)) sa_nil)) sa_nil)))))) ss_nil)
    (ss_cons (s_store (hu_of hr) se_bl (se_var 4) (se_var 6))
    (ss_one (s_ite (PW.pt (sw_and (st_cmp (o_eq0 hr.units) (se_var 3) se_int (nomark _)) (sw_and1 (st_cmp (o_eq0 hr.units) (se_call (ok__law_draw T) hr (by decide) rfl (sa_cons (se_var 0) (sa_cons se_int sa_nil)) (len_consA (len_consA (fun _ _ _ _ h => len_nilA h)))) se_int (nomark _))))) (ss_one (s_for PassesOwn.never rfl (si_all (se_call (ok__law_within T) hr (by decide) rfl (sa_cons (se_var 6) sa_nil) (len_consA (fun _ _ _ _ h => len_nilA h)))) (sg_name sc__law_family.nd rfl (by first | exact Or.inl rfl | exact Or.inr rfl))
    (ss_one (s_store (hu_of hr) se_bl (se_var 4) (se_var 9))))) ss_nil))))))
    (ss_one (s_ret (se_tup (sa_cons (se_var 2) (sa_cons (se_callTy c_tuple rfl T.n_tuple rfl (sa_cons (se_callB (c_sortedK rfl (ru hr)) rfl T.n_sorted rfl (sa_cons (se_var 4) sa_nil)) sa_nil)) sa_nil)) (show 2 ≤ 1000 by decide) (len_consA (len_consA (fun _ _ _ _ h => len_nilA h)))))))))
theorem ok__law_differs (T : Tx K mg L) : Cal P w K mg base L "_law_differs" ["one", "other"] 1 F__law_differs := by
  refine cal_A (k := 0) (m := m__law_differs) (N := N__law_differs) T.d__law_differs sc__law_differs fun f cdv A outer s H Ex hr => ?_
  exact (ss_one (s_ret (se_callTy c_tuple rfl T.n_tuple rfl (sa_cons (se_lc (own := [("point", 2)]) rfl sc__law_differs.nd (si_all (se_sortSetZ rfl rfl T.n_sorted rfl T.n_set (se_op2 o_add (se_var 0) (se_var 1)))) (blkOk_by (N := N__law_differs) (sc := defScope s__law_differs) (by decide +kernel)) (fun _ _ _ _ _ => (sg_name sc__law_differs.nd rfl (by first | exact Or.inl rfl | exact Or.inr rfl))) (fun _ _ _ _ _ => (sts_one (st_cmp (o_ne0 hr.units) (se_cmp (o_in (ru hr)) (se_var 2) (se_var 0) (by rfl)) (se_cmp (o_in (ru hr)) (se_var 2) (se_var 1) (by rfl)) (nomark _)))) (fun _ _ _ _ _ => (se_var 2)) (by decide)) sa_nil))))
theorem ok__law_pairs (T : Tx K mg L) : Cal P w K mg base L "_law_pairs" ["members"] 2 F__law_pairs := by
  refine cal_B (k := 1) (m := m__law_pairs) (N := N__law_pairs) T.d__law_pairs sc__law_pairs fun f cdv A outer s H Ex hr => ?_
  exact (ss_cons (s_set (i := 1) sc__law_pairs.nd rfl (by first | exact Or.inl rfl | exact Or.inr rfl) (se_lstB sa_nil (show 0 ≤ 1000 by decide) (fun _ _ _ _ h => len_nilA h)))
    (ss_cons (s_for PassesOwn.never rfl (si_enumA rfl T.n_enumerate (sa_cons (se_var 0) sa_nil)) (sg_tup rfl (sgs_cons (sg_name sc__law_pairs.nd rfl (by first | exact Or.inl rfl | exact Or.inr rfl)) (sgs_cons (sg_name sc__law_pairs.nd rfl (by first | exact Or.inl rfl | exact Or.inr rfl)) sgs_nil)) (len_consT (len_consT (fun _ _ _ h => len_nilT h))))
    (ss_one (s_for PassesOwn.never rfl (si_enumA rfl T.n_enumerate (sa_cons (se_var 0) sa_nil)) (sg_tup rfl (sgs_cons (sg_name sc__law_pairs.nd rfl (by first | exact Or.inl rfl | exact Or.inr rfl)) (sgs_cons (sg_name sc__law_pairs.nd rfl (by first | exact Or.inl rfl | exact Or.inr rfl)) sgs_nil)) (len_consT (len_consT (fun _ _ _ h => len_nilT h))))
    (ss_one (s_ite (PW.pt (sw_and (st_cmp (o_eq0 hr.units) (se_callB c_len rfl T.n_len rfl (sa_cons (se_var 5) sa_nil)) (se_op2 o_add (se_callB c_len rfl T.n_len rfl (sa_cons (se_var 3) sa_nil)) se_int) (nomark _)) (sw_and1 (st_cmp (o_eq0 hr.units) (se_callB c_len rfl T.n_len rfl (sa_cons (se_call (ok__law_differs T) hr (by decide) rfl (sa_cons (se_var 3) (sa_cons (se_var 5) sa_nil)) (len_consA (len_consA (fun _ _ _ _ h => len_nilA h)))) sa_nil)) se_int (nomark _))))) (ss_one (s_expr (se_bm ty_lst PySem.F.plainAttrs_list PySem.F.slot_list_append PySem.F.type_list_append m_append (se_var 1) (sa_cons (se_tup (sa_cons (se_var 2) (sa_cons (se_var 4) (sa_cons (se_item (hu_of hr) (se_call (ok__law_differs T) hr (by decide) rfl (sa_cons (se_var 3) (sa_cons (se_var 5) sa_nil)) (len_consA (len_consA (fun _ _ _ _ h => len_nilA h)))) se_int (fun _ _ => rfl)) sa_nil))) (show 3 ≤ 1000 by decide) (len_consA (len_consA (len_consA (fun _ _ _ _ h => len_nilA h))))) sa_nil)))) ss_nil)))))
    (ss_one (s_ret (se_callB (c_sorted (ru hr)) rfl T.n_sorted rfl (sa_cons (se_var 1) sa_nil))))))
theorem ok__law_steps (T : Tx K mg L) : Cal P w K mg base L "_law_steps" ["members", "first"] 2 F__law_steps := by
  refine cal_B (k := 1) (m := m__law_steps) (N := N__law_steps) T.d__law_steps sc__law_steps fun f cdv A outer s H Ex hr => ?_
  exact (ss_cons (s_par3 (i := 2) (j := 3) (l := 4) rfl sc__law_steps.nd rfl rfl rfl (by decide) (by decide) (by decide) rfl rfl rfl (sa_cons (se_disp1 1 pe_int (fun _ => .int _)) (sa_cons (se_lstB (sa_cons (se_var 1) sa_nil) (show 1 ≤ 1000 by decide) (len_consA (fun _ _ _ _ h => len_nilA h))) (sa_cons se_int sa_nil))) rfl)
    (ss_cons (s_while 200 PassesOwn.never (st_cmp (o_lt hr.units0) (se_var 4) (se_callB c_len rfl T.n_len rfl (sa_cons (se_var 3) sa_nil)) (nomark _)) (ss_cons (s_set (i := 5) sc__law_steps.nd rfl (by first | exact Or.inl rfl | exact Or.inr rfl) (se_item (hu_of hr) (se_var 3) (se_var 4) (fun _ _ => rfl)))
    (ss_cons (s_for PassesOwn.never rfl (si_range1 rfl T.n_range (se_callB c_len rfl T.n_len rfl (sa_cons (se_var 0) sa_nil))) (sg_name sc__law_steps.nd rfl (by first | exact Or.inl rfl | exact Or.inr rfl))
    (ss_one (s_ite (PW.pt (sw_and (st_cmp (o_notIn (ru hr)) (se_var 6) (se_var 2) (by rfl)) (sw_and1 (st_cmp (o_eq0 hr.units) (se_callB c_len rfl T.n_len rfl (sa_cons (se_call (ok__law_differs T) hr (by decide) rfl (sa_cons (se_item (hu_of hr) (se_var 0) (se_var 5) (fun _ _ => rfl)) (sa_cons (se_item (hu_of hr) (se_var 0) (se_var 6) (fun _ _ => rfl)) sa_nil)) (len_consA (len_consA (fun _ _ _ _ h => len_nilA h)))) sa_nil)) se_int (nomark _))))) (ss_cons (s_store (hu_of hr) (se_op2 o_add (se_item (hu_of hr) (se_var 2) (se_var 5) (fun _ _ => rfl)) se_int) (se_var 2) (se_var 6))
    (ss_one (s_expr (se_bm ty_lst PySem.F.plainAttrs_list PySem.F.slot_list_append PySem.F.type_list_append m_append (se_var 3) (sa_cons (se_var 6) sa_nil))))) ss_nil)))
    (ss_one (s_set (i := 4) sc__law_steps.nd rfl (by first | exact Or.inl rfl | exact Or.inr rfl) (se_op2 o_add (se_var 4) se_int))))))
    (ss_one (s_ret (se_var 2)))))
theorem ok__law_apart (T : Tx K mg L) : Cal P w K mg base L "_law_apart" ["members"] 3 F__law_apart_v2 := by
  refine cal_A (k := 2) (m := m__law_apart_v2) (N := N__law_apart) T.d__law_apart sc__law_apart fun f cdv A outer s H Ex hr => ?_
  exact (ss_cons (s_for PassesOwn.never rfl (si_range1 rfl T.n_range (se_callB c_len rfl T.n_len rfl (sa_cons (se_var 0) sa_nil))) (sg_name sc__law_apart.nd rfl (by first | exact Or.inl rfl | exact Or.inr rfl))
    (ss_cons (s_set (i := 2) sc__law_apart.nd rfl (by first | exact Or.inl rfl | exact Or.inr rfl) (se_call (ok__law_steps T) hr (by decide) rfl (sa_cons (se_var 0) (sa_cons (se_var 1) sa_nil)) (len_consA (len_consA (fun _ _ _ _ h => len_nilA h)))))
    (ss_one (s_for PassesOwn.never rfl (si_range2 rfl T.n_range (se_op2 o_add (se_var 1) se_int) (se_callB c_len rfl T.n_len rfl (sa_cons (se_var 0) sa_nil))) (sg_name sc__law_apart.nd rfl (by first | exact Or.inl rfl | exact Or.inr rfl))
    (ss_one (s_ite (PW.pt (sw_or (st_cmp (o_notIn (ru hr)) (se_var 3) (se_var 2) (by rfl)) (sw_or1 (st_cmp (o_ne0 hr.units) (se_item (hu_of hr) (se_var 2) (se_var 3) (fun _ _ => rfl)) (se_callB c_len rfl T.n_len rfl (sa_cons (se_call (ok__law_differs T) hr (by decide) rfl (sa_cons (se_item (hu_of hr) (se_var 0) (se_var 1) (fun _ _ => rfl)) (sa_cons (se_item (hu_of hr) (se_var 0) (se_var 3) (fun _ _ => rfl)) sa_nil)) (len_consA (len_consA (fun _ _ _ _ h => len_nilA h)))) sa_nil)) (nomark _))))) (ss_one (s_ret (se_tup (sa_cons (se_var 1) (sa_cons (se_var 3) sa_nil)) (show 2 ≤ 1000 by decide) (len_consA (len_consA (fun _ _ _ _ h => len_nilA h)))))) ss_nil))))))
    (ss_one (s_ret se_non)))
theorem fn_law (T : Tx K mg L) {f : Addr} {fd : FuncData} (G : Fun K "law" "law" s_law f fd) : FnOk P w K mg base CX0 14 f fd ["script"] (spF L 1 F_law_v5) := by
  refine fn_A (k := 13) (m := m_law_v5) (N := N_law) G sc_law fun f cdv A outer s H Ex hr => ?_
  exact (ss_cons (s_set (i := 1) sc_law.nd rfl (by first | exact Or.inl rfl | exact Or.inr rfl) (se_call (ok__law_hand T) hr (by decide) rfl (sa_cons (se_var 0) sa_nil) (len_consA (fun _ _ _ _ h => len_nilA h))))
    (ss_cons (s_set (i := 2) sc_law.nd rfl (by first | exact Or.inl rfl | exact Or.inr rfl) (se_makeFam (mk_Family T) hr (by decide) rfl (sa_cons se_int (sa_cons (se_tup (sa_cons (se_tup sa_nil (show 0 ≤ 1000 by decide) (fun _ _ _ _ h => len_nilA h)) (sa_cons (se_tup (sa_cons se_int (sa_cons se_int sa_nil)) (show 2 ≤ 1000 by decide) (len_consA (len_consA (fun _ _ _ _ h => len_nilA h)))) sa_nil)) (show 2 ≤ 1000 by decide) (len_consA (len_consA (fun _ _ _ _ h => len_nilA h)))) sa_nil)) (len_consA (len_consA (fun _ _ _ _ h => len_nilA h)))))
    (ss_cons (s_ite (PW.pt (sw_or (st_cmp (o_ne0 hr.units) (se_call (ok_pairs T) hr (by decide) rfl (sa_cons (se_var 2) sa_nil) (len_consA (fun _ _ _ _ h => len_nilA h))) (se_tup sa_nil (show 0 ≤ 1000 by decide) (fun _ _ _ _ h => len_nilA h)) (nomark _)) (sw_or (st_cmp (o_ne0 hr.units) (se_call (ok_apart T) hr (by decide) rfl (sa_cons (se_var 2) sa_nil) (len_consA (fun _ _ _ _ h => len_nilA h))) (se_tup (sa_cons se_int (sa_cons se_int sa_nil)) (show 2 ≤ 1000 by decide) (len_consA (len_consA (fun _ _ _ _ h => len_nilA h)))) (nomark _)) (sw_or (st_cmp o_isNot (se_call (ok_far T) hr (by decide) rfl (sa_cons (se_var 2) (sa_cons se_int (sa_cons se_int sa_nil))) (len_consA (len_consA (len_consA (fun _ _ _ _ h => len_nilA h))))) se_non (nomark _)) (sw_or1 (st_not (st_val (se_call (ok__law_is T 12) hr (by decide) rfl (sa_cons (se_call (ok_far T) hr (by decide) rfl (sa_cons (se_var 2) (sa_cons se_int (sa_cons se_int sa_nil))) (len_consA (len_consA (len_consA (fun _ _ _ _ h => len_nilA h))))) (sa_cons se_int sa_nil)) (len_consA (len_consA (fun _ _ _ _ h => len_nilA h))))))))))) (ss_one (s_ret se_bl)) ss_nil)
    (ss_cons (s_for PassesOwn.never rfl (si_range1 rfl T.n_range se_int) (sg_name sc_law.nd rfl (by first | exact Or.inl rfl | exact Or.inr rfl))
    (ss_cons (s_asg (se_call (ok__law_family T) hr (by decide) rfl (sa_cons (se_var 1) (sa_cons se_int sa_nil)) (len_consA (len_consA (fun _ _ _ _ h => len_nilA h)))) (sg_tup rfl (sgs_cons (sg_name sc_law.nd rfl (by first | exact Or.inl rfl | exact Or.inr rfl)) (sgs_cons (sg_name sc_law.nd rfl (by first | exact Or.inl rfl | exact Or.inr rfl)) sgs_nil)) (len_consT (len_consT (fun _ _ _ h => len_nilT h)))))
    (ss_cons (s_set (i := 6) sc_law.nd rfl (by first | exact Or.inl rfl | exact Or.inr rfl) (se_makeFam (mk_Family T) hr (by decide) rfl (sa_cons (se_var 4) (sa_cons (se_var 5) sa_nil)) (len_consA (len_consA (fun _ _ _ _ h => len_nilA h)))))
    (ss_cons (s_ite (PW.pt (sw_or (st_cmp (o_ne0 hr.units) (se_call (ok_pairs T) hr (by decide) rfl (sa_cons (se_var 6) sa_nil) (len_consA (fun _ _ _ _ h => len_nilA h))) (se_callTy c_tuple rfl T.n_tuple rfl (sa_cons (se_call (ok__law_pairs T) hr (by decide) rfl (sa_cons (se_var 5) sa_nil) (len_consA (fun _ _ _ _ h => len_nilA h))) sa_nil)) (nomark _)) (sw_or1 (st_cmp (o_ne0 hr.units) (se_call (ok_apart T) hr (by decide) rfl (sa_cons (se_var 6) sa_nil) (len_consA (fun _ _ _ _ h => len_nilA h))) (se_call (ok__law_apart T) hr (by decide) rfl (sa_cons (se_var 5) sa_nil) (len_consA (fun _ _ _ _ h => len_nilA h))) (nomark _))))) (ss_one (s_ret se_bl)) ss_nil)
    (ss_one (s_for PassesOwn.never rfl (si_range1 rfl T.n_range se_int) (sg_name sc_law.nd rfl (by first | exact Or.inl rfl | exact Or.inr rfl))
    (ss_cons (s_par (i := 8) (j := 9) rfl sc_law.nd rfl rfl (by decide) rfl rfl (sa_cons (se_call (ok__law_draw T) hr (by decide) rfl (sa_cons (se_var 1) (sa_cons (se_callB c_len rfl T.n_len rfl (sa_cons (se_var 5) sa_nil)) sa_nil)) (len_consA (len_consA (fun _ _ _ _ h => len_nilA h)))) (sa_cons (se_call (ok__law_draw T) hr (by decide) rfl (sa_cons (se_var 1) (sa_cons (se_callB c_len rfl T.n_len rfl (sa_cons (se_var 5) sa_nil)) sa_nil)) (len_consA (len_consA (fun _ _ _ _ h => len_nilA h)))) sa_nil)) rfl)
    (ss_one (s_ite (st_not (st_val (se_call (ok__law_is T 12) hr (by decide) rfl (sa_cons (se_call (ok_far T) hr (by decide) rfl (sa_cons (se_var 6) (sa_cons (se_var 8) (sa_cons (se_var 9) sa_nil))) (len_consA (len_consA (len_consA (fun _ _ _ _ h => len_nilA h))))) (sa_cons (se_dget (hu_of hr) (se_call (ok__law_steps T) hr (by decide) rfl (sa_cons (se_var 5) (sa_cons (se_var 8) sa_nil)) (len_consA (len_consA (fun _ _ _ _ h => len_nilA h)))) (se_var 9) ⟨by rfl, by rfl, by rfl, by rfl⟩) sa_nil)) (len_consA (len_consA (fun _ _ _ _ h => len_nilA h)))))) (ss_one (s_ret se_bl)) ss_nil)))))))))
    (ss_one (s_ret se_bl))))))
end
theorem all_mk {l : PySem.W.OpenLaw} {w : World} {K : PySem.W.Frag} {h : Heap} {mg : Str → Option Value} {fa : Addr} {C0 : Addr} {f0 : Addr} {od0 an0 : Option Addr} {sl0 : Array (Option Value)} {oc0 kV0 dc0 pm0 cd0 ct0 : Value} {f1 : Addr} {od1 an1 : Option Addr} {sl1 : Array (Option Value)} {oc1 kV1 dc1 pm1 cd1 ct1 : Value} {f2 : Addr} {od2 an2 : Option Addr} {sl2 : Array (Option Value)} {oc2 kV2 dc2 pm2 cd2 ct2 : Value} {f3 : Addr} {od3 an3 : Option Addr} {sl3 : Array (Option Value)} {oc3 kV3 dc3 pm3 cd3 ct3 : Value} {f4 : Addr} {od4 an4 : Option Addr} {sl4 : Array (Option Value)} {oc4 kV4 dc4 pm4 cd4 ct4 : Value} {f5 : Addr} {od5 an5 : Option Addr} {sl5 : Array (Option Value)} {oc5 kV5 dc5 pm5 cd5 ct5 : Value} {f6 : Addr} {od6 an6 : Option Addr} {sl6 : Array (Option Value)} {oc6 kV6 dc6 pm6 cd6 ct6 : Value} {f7 : Addr} {od7 an7 : Option Addr} {sl7 : Array (Option Value)} {oc7 kV7 dc7 pm7 cd7 ct7 : Value} {f8 : Addr} {od8 an8 : Option Addr} {sl8 : Array (Option Value)} {oc8 kV8 dc8 pm8 cd8 ct8 : Value} {f9 : Addr} {od9 an9 : Option Addr} {sl9 : Array (Option Value)} {oc9 kV9 dc9 pm9 cd9 ct9 : Value} {f10 : Addr} {od10 an10 : Option Addr} {sl10 : Array (Option Value)} {oc10 kV10 dc10 pm10 cd10 ct10 : Value} {f11 : Addr} {od11 an11 : Option Addr} {sl11 : Array (Option Value)} {oc11 kV11 dc11 pm11 cd11 ct11 : Value} {f12 : Addr} {od12 an12 : Option Addr} {sl12 : Array (Option Value)} {oc12 kV12 dc12 pm12 cd12 ct12 : Value} {f13 : Addr} {od13 an13 : Option Addr} {sl13 : Array (Option Value)} {oc13 kV13 dc13 pm13 cd13 ct13 : Value} {f14 : Addr} {od14 an14 : Option Addr} {sl14 : Array (Option Value)} {oc14 kV14 dc14 pm14 cd14 ct14 : Value} {f15 : Addr} {od15 an15 : Option Addr} {sl15 : Array (Option Value)} {oc15 kV15 dc15 pm15 cd15 ct15 : Value} {f16 : Addr} {od16 an16 : Option Addr} {sl16 : Array (Option Value)} {oc16 kV16 dc16 pm16 cd16 ct16 : Value} {f17 : Addr} {od17 an17 : Option Addr} {sl17 : Array (Option Value)} {oc17 kV17 dc17 pm17 cd17 ct17 : Value} {f18 : Addr} {od18 an18 : Option Addr} {sl18 : Array (Option Value)} {oc18 kV18 dc18 pm18 cd18 ct18 : Value} {f19 : Addr} {od19 an19 : Option Addr} {sl19 : Array (Option Value)} {oc19 kV19 dc19 pm19 cd19 ct19 : Value} {f20 : Addr} {od20 an20 : Option Addr} {sl20 : Array (Option Value)} {oc20 kV20 dc20 pm20 cd20 ct20 : Value} {f21 : Addr} {od21 an21 : Option Addr} {sl21 : Array (Option Value)} {oc21 kV21 dc21 pm21 cd21 ct21 : Value} {f22 : Addr} {od22 an22 : Option Addr} {sl22 : Array (Option Value)} {oc22 kV22 dc22 pm22 cd22 ct22 : Value} {t_MOST_POINTS : Tok} (KX : K.In h) (G : h.Ns mainGlobals mg) (hfa : mg "law" = some (.ref fa))
    (hF : ∀ ns : List Int, ns.length ≤ 63 → (∀ z ∈ ns, Builtin.Int.intBits z ≤ 1048576) → ∃ st', F_law_v5 [.scr ns] [] = some (.bl true, st'))
    (a0 : PySem.W.nsIn K mainGlobals "is_integer" = some (some (.ref f0)))
    (l0 : K.lookup f0 = some ⟨oc0, od0, .func (PySem.W.fnOf "is_integer" "is_integer" (defArgs s_is_integer) (defBody s_is_integer) (defScope s_is_integer) .none kV0 dc0 pm0 an0 cd0 ct0), sl0⟩)
    (c0 : PySem.W.codeIn K cd0 "is_integer" = true)
    (k0 : PySem.W.keepIn K (.ref f0) = true)
    (a1 : PySem.W.nsIn K mainGlobals "is_within" = some (some (.ref f1)))
    (l1 : K.lookup f1 = some ⟨oc1, od1, .func (PySem.W.fnOf "is_within" "is_within" (defArgs s_is_within) (defBody s_is_within) (defScope s_is_within) .none kV1 dc1 pm1 an1 cd1 ct1), sl1⟩)
    (c1 : PySem.W.codeIn K cd1 "is_within" = true)
    (k1 : PySem.W.keepIn K (.ref f1) = true)
    (a2 : PySem.W.nsIn K mainGlobals "is_lot" = some (some (.ref f2)))
    (l2 : K.lookup f2 = some ⟨oc2, od2, .func (PySem.W.fnOf "is_lot" "is_lot" (defArgs s_is_lot) (defBody s_is_lot) (defScope s_is_lot) .none kV2 dc2 pm2 an2 cd2 ct2), sl2⟩)
    (c2 : PySem.W.codeIn K cd2 "is_lot" = true)
    (k2 : PySem.W.keepIn K (.ref f2) = true)
    (a3 : PySem.W.nsIn K mainGlobals "are_lots" = some (some (.ref f3)))
    (l3 : K.lookup f3 = some ⟨oc3, od3, .func (PySem.W.fnOf "are_lots" "are_lots" (defArgs s_are_lots) (defBody s_are_lots) (defScope s_are_lots) .none kV3 dc3 pm3 an3 cd3 ct3), sl3⟩)
    (c3 : PySem.W.codeIn K cd3 "are_lots" = true)
    (k3 : PySem.W.keepIn K (.ref f3) = true)
    (a4 : PySem.W.nsIn K mainGlobals "check_member" = some (some (.ref f4)))
    (l4 : K.lookup f4 = some ⟨oc4, od4, .func (PySem.W.fnOf "check_member" "check_member" (defArgs s_check_member) (defBody s_check_member) (defScope s_check_member) .none kV4 dc4 pm4 an4 cd4 ct4), sl4⟩)
    (c4 : PySem.W.codeIn K cd4 "check_member" = true)
    (k4 : PySem.W.keepIn K (.ref f4) = true)
    (a5 : PySem.W.nsIn K mainGlobals "pairs_in" = some (some (.ref f5)))
    (l5 : K.lookup f5 = some ⟨oc5, od5, .func (PySem.W.fnOf "pairs_in" "pairs_in" (defArgs s_pairs_in) (defBody s_pairs_in) (defScope s_pairs_in) .none kV5 dc5 pm5 an5 cd5 ct5), sl5⟩)
    (c5 : PySem.W.codeIn K cd5 "pairs_in" = true)
    (k5 : PySem.W.keepIn K (.ref f5) = true)
    (a6 : PySem.W.nsIn K mainGlobals "pairs" = some (some (.ref f6)))
    (l6 : K.lookup f6 = some ⟨oc6, od6, .func (PySem.W.fnOf "pairs" "pairs" (defArgs s_pairs) (defBody s_pairs) (defScope s_pairs) .none kV6 dc6 pm6 an6 cd6 ct6), sl6⟩)
    (c6 : PySem.W.codeIn K cd6 "pairs" = true)
    (k6 : PySem.W.keepIn K (.ref f6) = true)
    (a7 : PySem.W.nsIn K mainGlobals "steps_from" = some (some (.ref f7)))
    (l7 : K.lookup f7 = some ⟨oc7, od7, .func (PySem.W.fnOf "steps_from" "steps_from" (defArgs s_steps_from) (defBody s_steps_from) (defScope s_steps_from) .none kV7 dc7 pm7 an7 cd7 ct7), sl7⟩)
    (c7 : PySem.W.codeIn K cd7 "steps_from" = true)
    (k7 : PySem.W.keepIn K (.ref f7) = true)
    (a8 : PySem.W.nsIn K mainGlobals "far" = some (some (.ref f8)))
    (l8 : K.lookup f8 = some ⟨oc8, od8, .func (PySem.W.fnOf "far" "far" (defArgs s_far) (defBody s_far) (defScope s_far) .none kV8 dc8 pm8 an8 cd8 ct8), sl8⟩)
    (c8 : PySem.W.codeIn K cd8 "far" = true)
    (k8 : PySem.W.keepIn K (.ref f8) = true)
    (a9 : PySem.W.nsIn K mainGlobals "differing" = some (some (.ref f9)))
    (l9 : K.lookup f9 = some ⟨oc9, od9, .func (PySem.W.fnOf "differing" "differing" (defArgs s_differing) (defBody s_differing) (defScope s_differing) .none kV9 dc9 pm9 an9 cd9 ct9), sl9⟩)
    (c9 : PySem.W.codeIn K cd9 "differing" = true)
    (k9 : PySem.W.keepIn K (.ref f9) = true)
    (a10 : PySem.W.nsIn K mainGlobals "apart" = some (some (.ref f10)))
    (l10 : K.lookup f10 = some ⟨oc10, od10, .func (PySem.W.fnOf "apart" "apart" (defArgs s_apart) (defBody s_apart) (defScope s_apart) .none kV10 dc10 pm10 an10 cd10 ct10), sl10⟩)
    (c10 : PySem.W.codeIn K cd10 "apart" = true)
    (k10 : PySem.W.keepIn K (.ref f10) = true)
    (a11 : PySem.W.findIn K (.ref C0) "__init__" = some (some (.ref f11)))
    (i11 : PySem.W.isFn K (.ref f11) = true)
    (l11 : K.lookup f11 = some ⟨oc11, od11, .func (PySem.W.fnOf "__init__" "Family.__init__" (defArgs s_Family___init__) (defBody s_Family___init__) (defScope s_Family___init__) .none kV11 dc11 pm11 an11 cd11 ct11), sl11⟩)
    (c11 : PySem.W.codeIn K cd11 "Family.__init__" = true)
    (k11 : PySem.W.keepIn K (.ref f11) = true)
    (a12 : PySem.W.nsIn K mainGlobals "_law_hand" = some (some (.ref f12)))
    (l12 : K.lookup f12 = some ⟨oc12, od12, .func (PySem.W.fnOf "_law_hand" "_law_hand" (defArgs s__law_hand) (defBody s__law_hand) (defScope s__law_hand) .none kV12 dc12 pm12 an12 cd12 ct12), sl12⟩)
    (c12 : PySem.W.codeIn K cd12 "_law_hand" = true)
    (k12 : PySem.W.keepIn K (.ref f12) = true)
    (a13 : PySem.W.nsIn K mainGlobals "_law_draw" = some (some (.ref f13)))
    (l13 : K.lookup f13 = some ⟨oc13, od13, .func (PySem.W.fnOf "_law_draw" "_law_draw" (defArgs s__law_draw) (defBody s__law_draw) (defScope s__law_draw) .none kV13 dc13 pm13 an13 cd13 ct13), sl13⟩)
    (c13 : PySem.W.codeIn K cd13 "_law_draw" = true)
    (k13 : PySem.W.keepIn K (.ref f13) = true)
    (a14 : PySem.W.nsIn K mainGlobals "_law_any" = some (some (.ref f14)))
    (l14 : K.lookup f14 = some ⟨oc14, od14, .func (PySem.W.fnOf "_law_any" "_law_any" (defArgs s__law_any) (defBody s__law_any) (defScope s__law_any) .none kV14 dc14 pm14 an14 cd14 ct14), sl14⟩)
    (c14 : PySem.W.codeIn K cd14 "_law_any" = true)
    (k14 : PySem.W.keepIn K (.ref f14) = true)
    (a15 : PySem.W.nsIn K mainGlobals "_law_is" = some (some (.ref f15)))
    (l15 : K.lookup f15 = some ⟨oc15, od15, .func (PySem.W.fnOf "_law_is" "_law_is" (defArgs s__law_is) (defBody s__law_is) (defScope s__law_is) .none kV15 dc15 pm15 an15 cd15 ct15), sl15⟩)
    (c15 : PySem.W.codeIn K cd15 "_law_is" = true)
    (k15 : PySem.W.keepIn K (.ref f15) = true)
    (a16 : PySem.W.nsIn K mainGlobals "_law_within" = some (some (.ref f16)))
    (l16 : K.lookup f16 = some ⟨oc16, od16, .func (PySem.W.fnOf "_law_within" "_law_within" (defArgs s__law_within) (defBody s__law_within) (defScope s__law_within) .none kV16 dc16 pm16 an16 cd16 ct16), sl16⟩)
    (c16 : PySem.W.codeIn K cd16 "_law_within" = true)
    (k16 : PySem.W.keepIn K (.ref f16) = true)
    (a17 : PySem.W.nsIn K mainGlobals "_law_family" = some (some (.ref f17)))
    (l17 : K.lookup f17 = some ⟨oc17, od17, .func (PySem.W.fnOf "_law_family" "_law_family" (defArgs s__law_family) (defBody s__law_family) (defScope s__law_family) .none kV17 dc17 pm17 an17 cd17 ct17), sl17⟩)
    (c17 : PySem.W.codeIn K cd17 "_law_family" = true)
    (k17 : PySem.W.keepIn K (.ref f17) = true)
    (a18 : PySem.W.nsIn K mainGlobals "_law_differs" = some (some (.ref f18)))
    (l18 : K.lookup f18 = some ⟨oc18, od18, .func (PySem.W.fnOf "_law_differs" "_law_differs" (defArgs s__law_differs) (defBody s__law_differs) (defScope s__law_differs) .none kV18 dc18 pm18 an18 cd18 ct18), sl18⟩)
    (c18 : PySem.W.codeIn K cd18 "_law_differs" = true)
    (k18 : PySem.W.keepIn K (.ref f18) = true)
    (a19 : PySem.W.nsIn K mainGlobals "_law_pairs" = some (some (.ref f19)))
    (l19 : K.lookup f19 = some ⟨oc19, od19, .func (PySem.W.fnOf "_law_pairs" "_law_pairs" (defArgs s__law_pairs) (defBody s__law_pairs) (defScope s__law_pairs) .none kV19 dc19 pm19 an19 cd19 ct19), sl19⟩)
    (c19 : PySem.W.codeIn K cd19 "_law_pairs" = true)
    (k19 : PySem.W.keepIn K (.ref f19) = true)
    (a20 : PySem.W.nsIn K mainGlobals "_law_steps" = some (some (.ref f20)))
    (l20 : K.lookup f20 = some ⟨oc20, od20, .func (PySem.W.fnOf "_law_steps" "_law_steps" (defArgs s__law_steps) (defBody s__law_steps) (defScope s__law_steps) .none kV20 dc20 pm20 an20 cd20 ct20), sl20⟩)
    (c20 : PySem.W.codeIn K cd20 "_law_steps" = true)
    (k20 : PySem.W.keepIn K (.ref f20) = true)
    (a21 : PySem.W.nsIn K mainGlobals "_law_apart" = some (some (.ref f21)))
    (l21 : K.lookup f21 = some ⟨oc21, od21, .func (PySem.W.fnOf "_law_apart" "_law_apart" (defArgs s__law_apart) (defBody s__law_apart) (defScope s__law_apart) .none kV21 dc21 pm21 an21 cd21 ct21), sl21⟩)
    (c21 : PySem.W.codeIn K cd21 "_law_apart" = true)
    (k21 : PySem.W.keepIn K (.ref f21) = true)
    (a22 : PySem.W.nsIn K mainGlobals "law" = some (some (.ref f22)))
    (l22 : K.lookup f22 = some ⟨oc22, od22, .func (PySem.W.fnOf "law" "law" (defArgs s_law) (defBody s_law) (defScope s_law) .none kV22 dc22 pm22 an22 cd22 ct22), sl22⟩)
    (c22 : PySem.W.codeIn K cd22 "law" = true)
    (k22 : PySem.W.keepIn K (.ref f22) = true)
    (z_int : PySem.W.nsIn K mainGlobals "int" = some none)
    (z_isinstance : PySem.W.nsIn K mainGlobals "isinstance" = some none)
    (z_bool : PySem.W.nsIn K mainGlobals "bool" = some none)
    (z_tuple : PySem.W.nsIn K mainGlobals "tuple" = some none)
    (z_all : PySem.W.nsIn K mainGlobals "all" = some none)
    (z_zip : PySem.W.nsIn K mainGlobals "zip" = some none)
    (z_len : PySem.W.nsIn K mainGlobals "len" = some none)
    (z_enumerate : PySem.W.nsIn K mainGlobals "enumerate" = some none)
    (z_dict : PySem.W.nsIn K mainGlobals "dict" = some none)
    (z_range : PySem.W.nsIn K mainGlobals "range" = some none)
    (z_sorted : PySem.W.nsIn K mainGlobals "sorted" = some none)
    (z_abs : PySem.W.nsIn K mainGlobals "abs" = some none)
    (z_set : PySem.W.nsIn K mainGlobals "set" = some none)
    (g_MOST_POINTS : PySem.W.nsIn K mainGlobals "MOST_POINTS" = some (some (.int 6 t_MOST_POINTS)))
    (ha : PySem.W.findIn K (.ref C0) "__class__" = some (some (.builtin "object.__class__")))
    (hn : PySem.W.specialIn K (.builtin "object.__class__") "__get__" = some (some (.builtin "getset_descriptor.__get__")))
    (htk : PySem.W.takesIn K (.builtin "object.__class__") = some true)
    (hmro : PySem.W.mroIn K C0 (.type "object") = some true)
    (kf_NoneType : PySem.W.kitOne K (.type "NoneType") (.ref C0) = some false)
    (kf_bool : PySem.W.kitOne K (.type "bool") (.ref C0) = some false)
    (kf_int : PySem.W.kitOne K (.type "int") (.ref C0) = some false)
    (kf_str : PySem.W.kitOne K (.type "str") (.ref C0) = some false)
    (kf_tuple : PySem.W.kitOne K (.type "tuple") (.ref C0) = some false)
    (kf_list : PySem.W.kitOne K (.type "list") (.ref C0) = some false)
    (kf_dict : PySem.W.kitOne K (.type "dict") (.ref C0) = some false)
    (kt : PySem.W.kitOne K (.ref C0) (.ref C0) = some true)
    (m_Family : PySem.W.nsIn K mainGlobals "Family" = some (some (.ref C0)))
    (pg_Family : PySem.W.plainGet K C0 Str.empty = true)
    (hd_Family : PySem.W.hasDictIn K C0 = true)
    (po_Family : PySem.W.plainOver K C0 = true)
    (sa_Family : PySem.W.findIn K (.ref C0) "__setattr__" = some (some (.builtin "object.__setattr__")))
    (mk_Family : PySem.W.makesIn K C0 = true)
    (kc_Family : PySem.W.keepIn K (.ref C0) = true)
    (na_Family_looked : PySem.W.findIn K (.ref C0) "looked" = some none)
    (na_Family_points : PySem.W.findIn K (.ref C0) "points" = some none)
    (na_Family_lots : PySem.W.findIn K (.ref C0) "lots" = some none) :
    ∃ fd : FuncData, (∀ (s : Shared) (v : Value), BindsTo s fd ⟨[v], []⟩ [("script", v)]) ∧ ∀ base : Heap, K.In base → base.Ns mainGlobals mg → FnOk l.prog w K mg base CX0 14 fa fd ["script"] (spScr K) := by
  have e := hfa.symm.trans (PySem.W.mg_of KX G a22)
  cases e
  have T : Tx K mg ⟨fun _ => C0, fun _ => ca_pairs_in, LitL K⟩ := {
    d_is_integer := ⟨_, _, fun_mk (st := s_is_integer) l0 c0 k0, PySem.W.mg_of KX G a0, ((fun_mk (st := s_is_integer) l0 c0 k0).binds (ps := ["thing"]) fun _ _ _ _ _ _ us hl => match us, hl with | [_], _ => rfl)⟩
    d_is_within := ⟨_, _, fun_mk (st := s_is_within) l1 c1 k1, PySem.W.mg_of KX G a1, ((fun_mk (st := s_is_within) l1 c1 k1).binds (ps := ["thing", "low", "high"]) fun _ _ _ _ _ _ us hl => match us, hl with | [_, _, _], _ => rfl)⟩
    d_is_lot := ⟨_, _, fun_mk (st := s_is_lot) l2 c2 k2, PySem.W.mg_of KX G a2, ((fun_mk (st := s_is_lot) l2 c2 k2).binds (ps := ["thing", "many"]) fun _ _ _ _ _ _ us hl => match us, hl with | [_, _], _ => rfl)⟩
    d_are_lots := ⟨_, _, fun_mk (st := s_are_lots) l3 c3 k3, PySem.W.mg_of KX G a3, ((fun_mk (st := s_are_lots) l3 c3 k3).binds (ps := ["points", "thing"]) fun _ _ _ _ _ _ us hl => match us, hl with | [_, _], _ => rfl)⟩
    d_check_member := ⟨_, _, fun_mk (st := s_check_member) l4 c4 k4, PySem.W.mg_of KX G a4, ((fun_mk (st := s_check_member) l4 c4 k4).binds (ps := ["members", "number"]) fun _ _ _ _ _ _ us hl => match us, hl with | [_, _], _ => rfl)⟩
    d_pairs_in := ⟨_, _, fun_mk (st := s_pairs_in) l5 c5 k5, PySem.W.mg_of KX G a5, ((fun_mk (st := s_pairs_in) l5 c5 k5).binds (ps := ["members"]) fun _ _ _ _ _ _ us hl => match us, hl with | [_], _ => rfl)⟩
    d_pairs := ⟨_, _, fun_mk (st := s_pairs) l6 c6 k6, PySem.W.mg_of KX G a6, ((fun_mk (st := s_pairs) l6 c6 k6).binds (ps := ["members"]) fun _ _ _ _ _ _ us hl => match us, hl with | [_], _ => rfl)⟩
    d_steps_from := ⟨_, _, fun_mk (st := s_steps_from) l7 c7 k7, PySem.W.mg_of KX G a7, ((fun_mk (st := s_steps_from) l7 c7 k7).binds (ps := ["members", "a"]) fun _ _ _ _ _ _ us hl => match us, hl with | [_, _], _ => rfl)⟩
    d_far := ⟨_, _, fun_mk (st := s_far) l8 c8 k8, PySem.W.mg_of KX G a8, ((fun_mk (st := s_far) l8 c8 k8).binds (ps := ["members", "a", "b"]) fun _ _ _ _ _ _ us hl => match us, hl with | [_, _, _], _ => rfl)⟩
    d_differing := ⟨_, _, fun_mk (st := s_differing) l9 c9 k9, PySem.W.mg_of KX G a9, ((fun_mk (st := s_differing) l9 c9 k9).binds (ps := ["one", "other"]) fun _ _ _ _ _ _ us hl => match us, hl with | [_, _], _ => rfl)⟩
    d_apart := ⟨_, _, fun_mk (st := s_apart) l10 c10 k10, PySem.W.mg_of KX G a10, ((fun_mk (st := s_apart) l10 c10 k10).binds (ps := ["members"]) fun _ _ _ _ _ _ us hl => match us, hl with | [_], _ => rfl)⟩
    d__law_hand := ⟨_, _, fun_mk (st := s__law_hand) l12 c12 k12, PySem.W.mg_of KX G a12, ((fun_mk (st := s__law_hand) l12 c12 k12).binds (ps := ["script"]) fun _ _ _ _ _ _ us hl => match us, hl with | [_], _ => rfl)⟩
    d__law_draw := ⟨_, _, fun_mk (st := s__law_draw) l13 c13 k13, PySem.W.mg_of KX G a13, ((fun_mk (st := s__law_draw) l13 c13 k13).binds (ps := ["hand", "sides"]) fun _ _ _ _ _ _ us hl => match us, hl with | [_, _], _ => rfl)⟩
    d__law_any := ⟨_, _, fun_mk (st := s__law_any) l14 c14 k14, PySem.W.mg_of KX G a14, ((fun_mk (st := s__law_any) l14 c14 k14).binds (ps := ["hand", "things"]) fun _ _ _ _ _ _ us hl => match us, hl with | [_, _], _ => rfl)⟩
    d__law_is := ⟨_, _, fun_mk (st := s__law_is) l15 c15 k15, PySem.W.mg_of KX G a15, ((fun_mk (st := s__law_is) l15 c15 k15).binds (ps := ["told", "due"]) fun _ _ _ _ _ _ us hl => match us, hl with | [_, _], _ => rfl)⟩
    d__law_within := ⟨_, _, fun_mk (st := s__law_within) l16 c16 k16, PySem.W.mg_of KX G a16, ((fun_mk (st := s__law_within) l16 c16 k16).binds (ps := ["lot"]) fun _ _ _ _ _ _ us hl => match us, hl with | [_], _ => rfl)⟩
    d__law_family := ⟨_, _, fun_mk (st := s__law_family) l17 c17 k17, PySem.W.mg_of KX G a17, ((fun_mk (st := s__law_family) l17 c17 k17).binds (ps := ["hand", "greatest"]) fun _ _ _ _ _ _ us hl => match us, hl with | [_, _], _ => rfl)⟩
    d__law_differs := ⟨_, _, fun_mk (st := s__law_differs) l18 c18 k18, PySem.W.mg_of KX G a18, ((fun_mk (st := s__law_differs) l18 c18 k18).binds (ps := ["one", "other"]) fun _ _ _ _ _ _ us hl => match us, hl with | [_, _], _ => rfl)⟩
    d__law_pairs := ⟨_, _, fun_mk (st := s__law_pairs) l19 c19 k19, PySem.W.mg_of KX G a19, ((fun_mk (st := s__law_pairs) l19 c19 k19).binds (ps := ["members"]) fun _ _ _ _ _ _ us hl => match us, hl with | [_], _ => rfl)⟩
    d__law_steps := ⟨_, _, fun_mk (st := s__law_steps) l20 c20 k20, PySem.W.mg_of KX G a20, ((fun_mk (st := s__law_steps) l20 c20 k20).binds (ps := ["members", "first"]) fun _ _ _ _ _ _ us hl => match us, hl with | [_, _], _ => rfl)⟩
    d__law_apart := ⟨_, _, fun_mk (st := s__law_apart) l21 c21 k21, PySem.W.mg_of KX G a21, ((fun_mk (st := s__law_apart) l21 c21 k21).binds (ps := ["members"]) fun _ _ _ _ _ _ us hl => match us, hl with | [_], _ => rfl)⟩
    d_law := ⟨_, _, fun_mk (st := s_law) l22 c22 k22, PySem.W.mg_of KX G a22, ((fun_mk (st := s_law) l22 c22 k22).binds (ps := ["script"]) fun _ _ _ _ _ _ us hl => match us, hl with | [_], _ => rfl)⟩
    n_int := PySem.W.mg_none_of KX G z_int
    n_isinstance := PySem.W.mg_none_of KX G z_isinstance
    n_bool := PySem.W.mg_none_of KX G z_bool
    n_tuple := PySem.W.mg_none_of KX G z_tuple
    n_all := PySem.W.mg_none_of KX G z_all
    n_zip := PySem.W.mg_none_of KX G z_zip
    n_len := PySem.W.mg_none_of KX G z_len
    n_enumerate := PySem.W.mg_none_of KX G z_enumerate
    n_dict := PySem.W.mg_none_of KX G z_dict
    n_range := PySem.W.mg_none_of KX G z_range
    n_sorted := PySem.W.mg_none_of KX G z_sorted
    n_abs := PySem.W.mg_none_of KX G z_abs
    n_set := PySem.W.mg_none_of KX G z_set
    g_MOST_POINTS := ⟨t_MOST_POINTS, PySem.W.mg_of KX G g_MOST_POINTS⟩
    m_Family := PySem.W.mg_of KX G m_Family
    i_Family := ⟨f11, _, (fun_mk (st := s_Family___init__) l11 c11 k11), ⟨mk_Family, a11, i11, kc_Family⟩, ((fun_mk (st := s_Family___init__) l11 c11 k11).binds (ps := ["self", "points", "lots"]) fun _ _ _ _ _ _ us hl => match us, hl with | [_, _, _], _ => rfl)⟩
    f_Family_looked := ⟨fun c hc => by rw [List.mem_singleton.mp hc]; exact ⟨pg_Family, hd_Family, po_Family, sa_Family⟩, fun c hc => by rw [List.mem_singleton.mp hc]; exact na_Family_looked⟩
    f_Family_points := ⟨fun c hc => by rw [List.mem_singleton.mp hc]; exact ⟨pg_Family, hd_Family, po_Family, sa_Family⟩, fun c hc => by rw [List.mem_singleton.mp hc]; exact na_Family_points⟩
    f_Family_lots := ⟨fun c hc => by rw [List.mem_singleton.mp hc]; exact ⟨pg_Family, hd_Family, po_Family, sa_Family⟩, fun c hc => by rw [List.mem_singleton.mp hc]; exact na_Family_lots⟩
    fam := ⟨⟨pg_Family, hd_Family, po_Family, sa_Family⟩, na_Family_points, na_Family_lots, na_Family_looked, ha, hn, htk, hmro, fun t ht => by
      rcases List.mem_cons.mp ht with e | ht; · rw [e]; exact kf_NoneType
      rcases List.mem_cons.mp ht with e | ht; · rw [e]; exact kf_bool
      rcases List.mem_cons.mp ht with e | ht; · rw [e]; exact kf_int
      rcases List.mem_cons.mp ht with e | ht; · rw [e]; exact kf_str
      rcases List.mem_cons.mp ht with e | ht; · rw [e]; exact kf_tuple
      rcases List.mem_cons.mp ht with e | ht; · rw [e]; exact kf_list
      rw [List.mem_singleton.mp ht]; exact kf_dict, kt⟩
    kl := fun _ _ z => z
    ca_pairs := rfl }
  exact ⟨PySem.W.fnOf "law" "law" (defArgs s_law) (defBody s_law) (defScope s_law) .none kV22 dc22 pm22 an22 cd22 ct22, fun s v => .of_eq rfl, fun base _ _ => (fn_law T (fun_mk (st := s_law) l22 c22 k22)).imp fun vs H Q E h => spScr_imp rfl hF h⟩
end Sm.K15
/-! ## MathA -/
/-! Plain laws, part A: how meanings are worked out. -/
namespace Sm.Pr
open PySem Sm
section
variable {ρ : Ev} {st : Store} {i j n N : Nat} {d e : D} {a b c : ME} {t u : MT} {as : MA} {ds : List D}
@[simp] theorem v_var : E.var i ρ st = (gt ρ i).map fun d => (d, st) := rfl
@[simp] theorem v_c : E.c d ρ st = some (d, st) := rfl
@[simp] theorem v_op1 {f} : E.op1 f a ρ st = (a ρ st).bind fun p => (f p.2 p.1).map fun r => (r, p.2) := rfl
@[simp] theorem v_op2 {f} : E.op2 f a b ρ st = (a ρ st).bind fun p => (b ρ p.2).bind fun q => (f q.2 p.1 q.1).map fun r => (r, q.2) := rfl
@[simp] theorem v_op2s {f} : E.op2s f a b ρ st = (a ρ st).bind fun p => (b ρ p.2).bind fun q => f q.2 p.1 q.1 := rfl
@[simp] theorem v_nilA : E.nilA ρ st = some ([], st) := rfl
@[simp] theorem v_consA : E.consA a as ρ st = (a ρ st).bind fun p => (as ρ p.2).map fun q => (p.1 :: q.1, q.2) := rfl
@[simp] theorem v_fn {f} : E.fn f as ρ st = (as ρ st).bind fun p => (f p.2 p.1).map fun r => (r, p.2) := rfl
@[simp] theorem v_call {f} : E.call f as ρ st = (as ρ st).bind fun p => f p.1 p.2 := rfl
@[simp] theorem v_tup : E.tup as ρ st = (as ρ st).map fun p => (.tup p.1, p.2) := rfl
@[simp] theorem v_lst : E.lst as ρ st = (as ρ st).map fun p => (.lst p.1, p.2) := rfl
@[simp] theorem v_lstB : E.lstB as ρ st = (as ρ st).map fun p => (.ref p.2.length, p.2 ++ [.lst p.1]) := rfl
@[simp] theorem v_dctB {k} : E.dctB k ρ st = some (.ref st.length, st ++ [.dct k []]) := rfl
@[simp] theorem v_tv : E.tv a ρ st = (a ρ st).bind fun p => match p.1 with | .bl b => some (b, p.2) | _ => none := rfl
@[simp] theorem v_andT : E.andT t u ρ st = (t ρ st).bind fun p => if p.1 then u ρ p.2 else some (false, p.2) := rfl
@[simp] theorem v_orT : E.orT t u ρ st = (t ρ st).bind fun p => if p.1 then some (true, p.2) else u ρ p.2 := rfl
@[simp] theorem v_notT : E.notT t ρ st = (t ρ st).map fun p => (!p.1, p.2) := rfl
@[simp] theorem v_andV : E.andV a b ρ st = (a ρ st).bind fun p => match p.1 with | .bl true => b ρ p.2 | .bl false => some (.bl false, p.2) | _ => none := rfl
@[simp] theorem v_orV : E.orV a b ρ st = (a ρ st).bind fun p => match p.1 with | .bl false => b ρ p.2 | .bl true => some (.bl true, p.2) | _ => none := rfl
@[simp] theorem v_notV : E.notV a ρ st = (a ρ st).bind fun p => match p.1 with | .bl b => some (.bl (!b), p.2) | _ => none := rfl
@[simp] theorem v_ite : E.ite t a b ρ st = (t ρ st).bind fun p => if p.1 then a ρ p.2 else b ρ p.2 := rfl
@[simp] theorem v_chain {f g} : E.chain f g a b c ρ st = (a ρ st).bind fun p => (b ρ p.2).bind fun q => (f q.2 p.1 q.1).bind fun r => match r with
  | .bl true => (c ρ q.2).bind fun z => (g z.2 q.1 z.1).map fun w => (w, z.2)
  | .bl false => some (.bl false, q.2)
  | _ => none := rfl
@[simp] theorem v_yes : E.yes ρ st = some (true, st) := rfl
@[simp] theorem v_comp {vs g} {i : MI} {m : ME} : E.comp vs g i t m ρ st = (i ρ st).bind fun p => (E.compL g t m (wipeE ρ vs) p.1 p.2).map fun q => (.lst q.1, q.2) := rfl
@[simp] theorem v_all : I.all a ρ st = (a ρ st).bind fun p => (I.allF p.1).map fun xs => (xs, p.2) := rfl
@[simp] theorem v_zip : I.zip as ρ st = (as ρ st).bind fun p => (I.zipF p.1).map fun xs => (xs, p.2) := rfl
@[simp] theorem v_range1 : I.range1 a ρ st = (a ρ st).bind fun p => match p.1 with | .int n => if -I.lim ≤ n ∧ n ≤ I.lim then some (I.rangeD 0 n, p.2) else none | _ => none := rfl
@[simp] theorem v_gname {ρ} : G.name i d ρ = some (ρ.set i (some d)) := rfl
@[simp] theorem v_slice {l h : Option ME} : E.slice a l h ρ st = (a ρ st).bind fun p => (E.part l ρ p.2).bind fun l => (E.part h ρ l.2).bind fun h => (F.slice h.2 p.1 l.1 h.1).map fun r => (r, h.2) := rfl
@[simp] theorem v_part0 : E.part none ρ st = some (none, st) := rfl
@[simp] theorem v_part1 : E.part (some a) ρ st = (a ρ st).bind fun p => match p.1 with | .int i => some (some i, p.2) | _ => none := rfl
@[simp] theorem v_mth {k f} : E.mth k f a as ρ st = (a ρ st).bind fun p => if k p.2 p.1 = true then (as ρ p.2).bind fun q => f q.2 p.1 q.1 else none := rfl
section
variable {x y : MS}
@[simp] theorem v_seq : S.seq x y ρ st = (x ρ st).bind fun p => match p.1 with | .nx => y p.2.1 p.2.2 | f => some (f, p.2.1, p.2.2) := rfl
@[simp] theorem v_skip : S.skip ρ st = some (.nx, ρ, st) := rfl
@[simp] theorem v_ret : S.ret a ρ st = (a ρ st).map fun p => (.ret p.1, ρ, p.2) := rfl
@[simp] theorem v_expr : S.expr a ρ st = (a ρ st).map fun p => (.nx, ρ, p.2) := rfl
@[simp] theorem v_set : S.set i a ρ st = (a ρ st).map fun p => (.nx, ρ.set i (some p.1), p.2) := rfl
@[simp] theorem v_asg {g} : S.asg g a ρ st = (a ρ st).bind fun p => (g p.1 ρ).map fun ρ' => (.nx, ρ', p.2) := rfl
@[simp] theorem v_iteS : S.ite t x y ρ st = (t ρ st).bind fun p => if p.1 then x ρ p.2 else y ρ p.2 := rfl
@[simp] theorem v_par : S.par i j as ρ st = (as ρ st).bind fun p => match p.1 with | [d, e] => some (.nx, (ρ.set i (some d)).set j (some e), p.2) | _ => none := rfl
@[simp] theorem v_for {g} {m : MI} : S.for_ g m x ρ st = (m ρ st).bind fun p => S.loop g x p.1 ρ p.2 := rfl
@[simp] theorem v_store {o i e : ME} : S.store o i e ρ st = (e ρ st).bind fun p => (o ρ p.2).bind fun q => (i ρ q.2).bind fun r => (F.store r.2 q.1 r.1 p.1).map fun s => (.nx, ρ, s) := rfl
@[simp] theorem v_asgX {g} : S.asgX g a ρ st = (a ρ st).bind fun p => (g p.1 ρ p.2).map fun q => (.nx, q.1, q.2) := rfl
end
@[simp] theorem gt_0 {o : Option D} {r : Ev} : gt (o :: r) 0 = o := rfl
@[simp] theorem gt_s {o : Option D} {r : Ev} : gt (o :: r) (i + 1) = gt r i := rfl
@[simp] theorem gt_1 {o : Option D} {r : Ev} : gt (o :: r) 1 = gt r 0 := rfl
@[simp] theorem gt_2 {o p : Option D} {r : Ev} : gt (o :: p :: r) 2 = gt r 0 := rfl
@[simp] theorem gt_3 {o p q : Option D} {r : Ev} : gt (o :: p :: q :: r) 3 = gt r 0 := rfl
@[simp] theorem gt_4 {o p q x : Option D} {r : Ev} : gt (o :: p :: q :: x :: r) 4 = gt r 0 := rfl
@[simp] theorem gt_5 {o p q x y : Option D} {r : Ev} : gt (o :: p :: q :: x :: y :: r) 5 = gt r 0 := rfl
/-- a def's call -/
theorem fnA_ret {m : MS} {ρ' : Ev} {st' : Store} (hl : ds.length = n) (h : m (ds.map some ++ List.replicate (N - n) none) st = some (.ret d, ρ', st')) : fnA n N m ds st = some (d, st') := by
  unfold fnA
  rw [if_pos hl, h]
theorem fnA_nx {m : MS} {ρ' : Ev} {st' : Store} (hl : ds.length = n) (h : m (ds.map some ++ List.replicate (N - n) none) st = some (.nx, ρ', st')) : fnA n N m ds st = some (.non, st') := by
  unfold fnA
  rw [if_pos hl, h]
theorem fnB_of {m : MS} {st' : Store} {d' : D} (h : fnA n N m ds st = some (d, st')) (kp : Kept st st') (hu : unbox st.length st' d = some d') : fnB n N m ds st = some (d', st'.take st.length) := by
  unfold fnB
  rw [h, Option.bind_some, if_pos kp, hu]
  rfl
/-- a comprehension over pure parts -/
theorem compL_pure {α : Type} {g : MG} {t : MT} {m : ME} {ρ : Ev} {st : Store} (inj : α → D) (p : α → Bool) (f : α → D) : ∀ (l : List α),
    (∀ x ∈ l, ∃ ρ1, g (inj x) ρ = some ρ1 ∧ t ρ1 st = some (p x, st) ∧ (p x = true → m ρ1 st = some (f x, st))) → E.compL g t m ρ (l.map inj) st = some ((l.filter p).map f, st)
  | [], _ => rfl
  | x :: l, h => by
    obtain ⟨ρ1, h1, h2, h3⟩ := h x List.mem_cons_self
    have ih := compL_pure inj p f l fun y hy => h y (List.mem_cons_of_mem _ hy)
    show (g (inj x) ρ).bind _ = _
    rw [h1]
    show (t ρ1 st).bind _ = _
    rw [h2]
    cases hp : p x with
    | true =>
      show ((m ρ1 st).bind fun q => (E.compL g t m ρ (l.map inj) q.2).map fun r => (q.1 :: r.1, r.2)) = _
      rw [h3 hp]
      show (E.compL g t m ρ (l.map inj) st).map _ = _
      rw [ih]
      simp [hp]
    | false =>
      show E.compL g t m ρ (l.map inj) st = _
      rw [ih]
      simp [hp]
theorem compL_map {α : Type} {g : MG} {m : ME} {ρ : Ev} {st : Store} (inj : α → D) (f : α → D) (l : List α) (h : ∀ x ∈ l, ∃ ρ1, g (inj x) ρ = some ρ1 ∧ m ρ1 st = some (f x, st)) : E.compL g E.yes m ρ (l.map inj) st = some (l.map f, st) := by
  rw [compL_pure inj (fun _ => true) f l fun x hx => ?_]
  · rw [List.filter_eq_self.mpr fun _ _ => rfl]
  · obtain ⟨ρ1, h1, h2⟩ := h x hx
    exact ⟨ρ1, h1, rfl, fun _ => h2⟩
/-- a loop that runs to its end, by an invariant over what is done -/
theorem loop_inv {α : Type} {g : MG} {b : MS} (inj : α → D) (Inv : List α → Ev → Store → Prop) (l : List α)
    (h : ∀ done x ρ st, (∃ r, l = done ++ x :: r) → Inv done ρ st → ∃ ρ1 f ρ2 st2, g (inj x) ρ = some ρ1 ∧ b ρ1 st = some (f, ρ2, st2) ∧ (f = .nx ∨ f = .ct) ∧ Inv (done ++ [x]) ρ2 st2) :
    ∀ (r done : List α) (ρ : Ev) (st : Store), l = done ++ r → Inv done ρ st → ∃ ρ' st', S.loop g b (r.map inj) ρ st = some (.nx, ρ', st') ∧ Inv l ρ' st'
  | [], done, ρ, st, e, i => ⟨ρ, st, rfl, by rw [e, List.append_nil]; exact i⟩
  | x :: r, done, ρ, st, e, i => by
    obtain ⟨ρ1, f, ρ2, st2, h1, h2, h3, h4⟩ := h done x ρ st ⟨r, e⟩ i
    obtain ⟨ρ', st', h5, h6⟩ := loop_inv inj Inv l h r (done ++ [x]) ρ2 st2 (by rw [e]; simp) h4
    refine ⟨ρ', st', ?_, h6⟩
    show (g (inj x) ρ).bind _ = _
    rw [h1]
    show (b ρ1 st).bind _ = _
    rw [h2]
    rcases h3 with rfl | rfl <;> exact h5
/-- .. or hands back at an item that fails -/
theorem loop_all {α : Type} {g : MG} {b : MS} {d : D} (inj : α → D) (p : α → Bool) (Inv : Ev → Store → Prop) :
    ∀ (l : List α) (ρ : Ev) (st : Store), (∀ x ρ st, x ∈ l → Inv ρ st → ∃ ρ1, g (inj x) ρ = some ρ1 ∧ (p x = true → ∃ ρ2 st2, b ρ1 st = some (.nx, ρ2, st2) ∧ Inv ρ2 st2) ∧ (p x = false → ∃ ρ2 st2, b ρ1 st = some (.ret d, ρ2, st2) ∧ Inv ρ2 st2)) →
      Inv ρ st → ∃ ρ' st', S.loop g b (l.map inj) ρ st = some (if l.all p then .nx else .ret d, ρ', st') ∧ Inv ρ' st'
  | [], ρ, st, _, i => ⟨ρ, st, rfl, i⟩
  | x :: l, ρ, st, h, i => by
    obtain ⟨ρ1, h1, h2, h3⟩ := h x ρ st List.mem_cons_self i
    cases hp : p x with
    | true =>
      obtain ⟨ρ2, st2, h4, h5⟩ := h2 hp
      obtain ⟨ρ', st', h6, h7⟩ := loop_all inj p Inv l ρ2 st2 (fun y ρ st hy => h y ρ st (List.mem_cons_of_mem _ hy)) h5
      refine ⟨ρ', st', ?_, h7⟩
      show (g (inj x) ρ).bind _ = _
      rw [h1]
      show (b ρ1 st).bind _ = _
      rw [h4]
      show S.loop g b (l.map inj) ρ2 st2 = _
      rw [h6]
      simp [hp]
    | false =>
      obtain ⟨ρ2, st2, h4, h5⟩ := h3 hp
      refine ⟨ρ2, st2, ?_, h5⟩
      show (g (inj x) ρ).bind _ = _
      rw [h1]
      show (b ρ1 st).bind _ = _
      rw [h4]
      simp [hp]
end
/-! ### small judges -/
theorem is_integer_int (i : Int) (st : Store) : F_is_integer [.int i] st = some (.bl true, st) := by
  refine fnA_ret (ρ' := [some (.int i)]) rfl ?_
  simp [m_is_integer, F.isiA, F.isi1, F.known, F.tyName, F.subTy, noT]
theorem is_within_int (i lo hi : Int) (st : Store) : F_is_within [.int i, .int lo, .int hi] st = some (.bl (decide (lo ≤ i ∧ i ≤ hi)), st) := by
  refine fnA_ret (ρ' := [some (.int i), some (.int lo), some (.int hi)]) rfl ?_
  by_cases h : lo ≤ i
  · simp [m_is_within, is_integer_int, F.le, h]
  · simp [m_is_within, is_integer_int, F.le, h]
end Sm.Pr
/-! ## MathB -/
/-! Plain laws, part B: lots as sums of powers. -/
namespace Sm.Pr
open PySem Sm
/-- the points of a sum -/
def bits (n m : Nat) : List Nat := (List.range n).filter fun i => m.testBit i
def lotI (n m : Nat) : List Int := (bits n m).map fun (i : Nat) => (i : Int)
def lotM (n m : Nat) : D := F.tupI (lotI n m)
def famT (n : Nat) (ms : List Nat) : D := .tup (ms.map (lotM n))
def dctM (ms : List Nat) : D := .dct false (ms.map fun (m : Nat) => (.int (m : Int), .bl true))
def leM (n a b : Nat) : Bool := leI (lotI n a) (lotI n b)
/-- m without p -/
def clr (m p : Nat) : Nat := if m.testBit p then m - 2 ^ p else m
def small (n : Nat) : Prop := 1 ≤ n ∧ n ≤ 6
theorem lot_sum : ∀ n, n < 7 → ∀ m, m < 2 ^ n → ((bits n m).map (2 ^ ·)).sum = m := by decide +kernel
theorem lot_lt : ∀ n, n < 7 → ∀ a, a < 2 ^ n → ∀ b, b < 2 ^ n → HT.lexLt (lotI n a) (lotI n b) = !leM n b a := by decide +kernel
theorem lot_asc : ∀ n, n < 7 → ∀ m, m < 2 ^ n → ((bits n m).zip (bits n m).tail).all (fun p => decide (p.1 < p.2)) = true := by decide +kernel
theorem clr_and : ∀ m : Nat, m < 64 → ∀ p : Nat, p < 6 → Builtin.bitAnd (m : Int) (Builtin.bitNot ((2 : Int) ^ p)) = ((clr m p : Nat) : Int) := by decide +kernel
theorem bit_and : ∀ m : Nat, m < 64 → ∀ p : Nat, p < 6 → Builtin.bitAnd ((m : Int) / 2 ^ p) 1 = if m.testBit p then 1 else 0 := by decide +kernel
theorem lot_inj {n a b : Nat} (hn : n ≤ 6) (ha : a < 2 ^ n) (hb : b < 2 ^ n) (e : lotI n a = lotI n b) : a = b := by
  have e' : bits n a = bits n b := by
    unfold lotI at e
    exact (List.map_inj_right (by intro x y h; exact Int.ofNat.inj h)).mp e
  rw [← lot_sum n (by omega) a ha, ← lot_sum n (by omega) b hb, e']
/-! ### the order of lots, of sums -/
theorem toPys_ints : ∀ l : List Int, F.toPys (l.map .int) = l.map .int
  | [] => rfl
  | x :: l => by rw [List.map_cons, List.map_cons, F.toPys, toPys_ints l]; rfl
theorem toPy_tupI (l : List Int) : F.toPy (F.tupI l) = .tuple (l.map .int) := by
  show F.toPy (.tup (l.map .int)) = _
  rw [F.toPy, toPys_ints]
theorem leD_tupI (a b : List Int) : F.leD (F.tupI a) (F.tupI b) = leI a b := by
  unfold F.leD
  rw [toPy_tupI, toPy_tupI, PySem.W.dataLt_tuple]
  have := PySem.W.dataLt_ints b a
  unfold PySem.W.rowLt at this
  rw [this]
  unfold leI
  by_cases h : b < a
  · simp [h]
  · simp [h, List.not_lt.mp h]
theorem leD_lot (n a b : Nat) : F.leD (lotM n a) (lotM n b) = leM n a b := leD_tupI _ _
theorem dat_int (n : Nat) (i : Int) : F.dat n (.int i) = true := by cases n <;> rfl
theorem dat_tupI (n : Nat) (l : List Int) : F.dat (n + 1) (F.tupI l) = true := by
  show (l.map D.int).all (F.dat n) = true
  simp [dat_int]
theorem alike_tupI (a b : List Int) : PySem.W.alike (F.toPy (F.tupI a)) (F.toPy (F.tupI b)) = true := by
  rw [toPy_tupI, toPy_tupI, PySem.W.alike]
  exact PySem.W.alike_ints _ _
theorem sortOk_tups {α : Type} (f : α → List Int) (l : List α) (h : l.length ≤ 1000000) : F.SortOk (l.map fun x => F.tupI (f x)) := by
  refine ⟨by simpa [big] using h, fun d hd => ?_, fun d hd e he => ?_, .inl fun d hd => ?_⟩
  · obtain ⟨x, _, rfl⟩ := List.mem_map.mp hd
    exact dat_tupI 11 _
  · simp only [List.map_map, List.mem_map, Function.comp] at hd he
    obtain ⟨x, _, rfl⟩ := hd
    obtain ⟨y, _, rfl⟩ := he
    exact alike_tupI _ _
  · simp only [List.map_map, List.mem_map, Function.comp] at hd
    obtain ⟨x, _, rfl⟩ := hd
    exact ⟨_, toPy_tupI _⟩
theorem leM_trans (n a b c : Nat) (h : leM n a b = true) (h' : leM n b c = true) : leM n a c = true := leI_trans _ _ _ h h'
theorem leM_total (n a b : Nat) : (leM n a b || leM n b a) = true := leI_total _ _
def sortM (n : Nat) (ms : List Nat) : List Nat := ms.mergeSort (leM n)
theorem sortM_perm (n : Nat) (ms : List Nat) : (sortM n ms).Perm ms := List.mergeSort_perm _ _
theorem sortM_sorted (n : Nat) (ms : List Nat) : (sortM n ms).Pairwise fun a b => leM n a b = true := List.pairwise_mergeSort (leM_trans n) (leM_total n) _
/-- a class of lots: sums below 2^n, ascending as lots, each once -/
structure Fam (n : Nat) (ms : List Nat) : Prop where
  pos : 1 ≤ n
  few : n ≤ 6
  lt : ∀ m ∈ ms, m < 2 ^ n
  nd : ms.Nodup
  srt : ms.Pairwise fun a b => leM n a b = true
  ne : ms ≠ []
theorem Fam.uniq {n : Nat} {ms ks : List Nat} (h : Fam n ms) (h' : Fam n ks) (e : ∀ m, m ∈ ms ↔ m ∈ ks) : ms = ks := by
  have p : ms.Perm ks := (List.perm_ext_iff_of_nodup h.nd h'.nd).mpr e
  exact p.eq_of_pairwise (fun a b ha hb x y => lot_inj h.few (h.lt a ha) (h'.lt b hb) (leI_anti x y)) h.srt h'.srt
theorem Fam.of {n : Nat} {ms : List Nat} (pos : 1 ≤ n) (few : n ≤ 6) (lt : ∀ m ∈ ms, m < 2 ^ n) (nd : ms.Nodup) (ne : ms ≠ []) : Fam n (sortM n ms) where
  pos := pos
  few := few
  lt := fun m hm => lt m ((sortM_perm n ms).mem_iff.mp hm)
  nd := (sortM_perm n ms).nodup_iff.mpr nd
  srt := sortM_sorted n ms
  ne := fun e => ne (List.Perm.eq_nil (by rw [← e]; exact (sortM_perm n ms).symm))
theorem sortM_mem {n : Nat} {ms : List Nat} {m : Nat} : m ∈ sortM n ms ↔ m ∈ ms := (sortM_perm n ms).mem_iff
theorem nodup_le : ∀ (N : Nat) (l : List Nat), l.Nodup → (∀ x ∈ l, x < N) → l.length ≤ N
  | 0, l, _, h => by
    cases l with
    | nil => exact Nat.le_refl _
    | cons x r => exact absurd (h x List.mem_cons_self) (Nat.not_lt_zero _)
  | N + 1, l, nd, h => by
    by_cases hN : N ∈ l
    · have := nodup_le N (l.erase N) (nd.erase N) fun x hx => by
        obtain ⟨h1, h2⟩ := nd.mem_erase_iff.mp hx
        have := h x h2
        omega
      rw [List.length_erase_of_mem hN] at this
      omega
    · have := nodup_le N l nd fun x hx => by
        have := h x hx
        have : x ≠ N := fun e => hN (e ▸ hx)
        omega
      omega
theorem Fam.len {n : Nat} {ms : List Nat} (h : Fam n ms) : ms.length ≤ 64 := by
  have := nodup_le (2 ^ n) ms h.nd h.lt
  have : 2 ^ n ≤ 2 ^ 6 := Nat.pow_le_pow_right (by decide) h.few
  omega
/-! ### lots worked out -/
theorem lot_le {n m : Nat} {i : Nat} (h : i ∈ bits n m) : i < n := by
  unfold bits at h
  exact List.mem_range.mp (List.mem_filter.mp h).1
theorem lotM_items (n m : Nat) : lotM n m = .tup ((bits n m).map fun (i : Nat) => .int (i : Int)) := by
  show D.tup (((bits n m).map _).map .int) = _
  rw [List.map_map]; rfl
theorem bools_all {α : Type} (p : α → Bool) : ∀ l : List α, F.bools (l.map fun x => .bl (p x)) = some (l.map p)
  | [] => rfl
  | x :: l => by rw [List.map_cons, F.bools, bools_all p l]; rfl
theorem cut1 (xs : List D) : F.cut xs (some 1) none = xs.tail := by
  cases xs with
  | nil => rfl
  | cons x r =>
    unfold F.cut
    have h1 : HT.sIx (x :: r).length 0 (some 1) = 1 := by simp [HT.sIx]
    have h2 : HT.sIx (x :: r).length (x :: r).length none = (x :: r).length := rfl
    rw [h1, h2]
    simp
theorem zipD_map {α : Type} (f : α → D) : ∀ a b : List α, I.zipD (a.map f) (b.map f) = (a.zip b).map fun p => .tup [f p.1, f p.2]
  | [], _ => by simp [I.zipD]
  | _ :: _, [] => by simp [I.zipD]
  | x :: a, y :: b => by
    have := zipD_map f a b
    unfold I.zipD at this ⊢
    simp [this]
@[simp] theorem wipe_nil {ρ : Ev} : wipeE ρ [] = ρ := rfl
@[simp] theorem wipe_cons {ρ : Ev} {v : Nat} {vs : List Nat} : wipeE ρ (v :: vs) = (wipeE ρ vs).set v none := rfl
@[simp] theorem v_gtup {d : List D} {r : List D → Ev → Option Ev} {ρ : Ev} : G.tup r (.tup d) ρ = r d ρ := rfl
@[simp] theorem v_gcons {d : D} {ds : List D} {g : MG} {r : List D → Ev → Option Ev} {ρ : Ev} : G.consT g r (d :: ds) ρ = (g d ρ).bind fun ρ' => r ds ρ' := rfl
@[simp] theorem v_gnil {ρ : Ev} : G.nilT [] ρ = some ρ := rfl
theorem isi_tup {xs : List D} {st : Store} : F.isiA st [.tup xs, .cls "tuple"] = some (.bl true) := by simp [F.isiA, F.isi1, F.known, F.tyName, F.subTy, noT]
theorem all_lst {α : Type} (p : α → Bool) (l : List α) (st : Store) : F.all_ st [.lst (l.map fun x => .bl (p x))] = some (.bl (l.all p)) := by
  show ((some (l.map fun x => D.bl (p x))).bind F.bools).map _ = _
  rw [Option.bind_some, bools_all]
  simp [List.all_map, Function.comp]
theorem all_true {α : Type} (l : List α) (st : Store) : F.all_ st [.lst (l.map fun _ => .bl true)] = some (.bl true) := by
  rw [all_lst (fun _ => true) l st]
  simp
@[simp] theorem set_0 {a b : Option D} {r : Ev} : List.set (a :: r) 0 b = b :: r := rfl
@[simp] theorem set_1 {a b c : Option D} {r : Ev} : List.set (a :: b :: r) 1 c = a :: c :: r := rfl
@[simp] theorem set_2 {a b c x : Option D} {r : Ev} : List.set (a :: b :: c :: r) 2 x = a :: b :: x :: r := rfl
@[simp] theorem set_3 {a b c d x : Option D} {r : Ev} : List.set (a :: b :: c :: d :: r) 3 x = a :: b :: c :: x :: r := rfl
@[simp] theorem set_4 {a b c d e x : Option D} {r : Ev} : List.set (a :: b :: c :: d :: e :: r) 4 x = a :: b :: c :: d :: x :: r := rfl
@[simp] theorem set_5 {a b c d e f x : Option D} {r : Ev} : List.set (a :: b :: c :: d :: e :: f :: r) 5 x = a :: b :: c :: d :: e :: x :: r := rfl
theorem is_lot_ok {n m : Nat} (hn : n ≤ 6) (hm : m < 2 ^ n) (st : Store) : F_is_lot [lotM n m, .int n] st = some (.bl true, st) := by
  refine fnA_ret (ρ' := [some (lotM n m), some (.int n), none, none]) rfl ?_
  have asc := lot_asc n (by omega) m hm
  rw [List.all_eq_true] at asc
  rw [lotM_items]
  simp [m_is_lot, b_is_lot_1, isi_tup, I.allF]
  rw [compL_map (fun (i : Nat) => D.int (i : Int)) (fun _ => D.bl true)]
  · simp [all_true, F.slice, cut1, I.zipF, ← List.map_tail, zipD_map]
    rw [compL_map (fun (p : Nat × Nat) => D.tup [.int (p.1 : Int), .int (p.2 : Int)]) (fun _ => D.bl true)]
    · simp [all_true]
    · intro p hp
      have h := asc p hp
      exact ⟨_, rfl, by simp [F.lt]; simpa using h⟩
  · intro i hi
    have := lot_le hi
    exact ⟨_, rfl, by simp [F.sub, is_within_int]; omega⟩
theorem lt_lot {n a b : Nat} (hn : n ≤ 6) (ha : a < 2 ^ n) (hb : b < 2 ^ n) (st : Store) : F.lt st (lotM n a) (lotM n b) = some (.bl (!leM n b a)) := by
  have h1 : ∀ l : List Int, F.intL (l.map .int) = some l := by
    intro l
    induction l with
    | nil => rfl
    | cons x l ih => rw [List.map_cons, F.intL, ih]; rfl
  show ((F.intL ((lotI n a).map .int)).bind fun ns => (F.intL ((lotI n b).map .int)).map fun ms => D.bl (HT.lexLt ns ms)) = _
  rw [h1, h1, Option.bind_some, Option.map_some, lot_lt n (by omega) a ha b hb]
/-- neighbours in a sorted list of different lots -/
theorem Fam.steps {n : Nat} {ms : List Nat} (h : Fam n ms) : ∀ p ∈ ms.zip ms.tail, p.1 ∈ ms ∧ p.2 ∈ ms ∧ leM n p.2 p.1 = false := by
  intro p hp
  obtain ⟨i, hi⟩ := List.getElem?_of_mem hp
  rw [List.getElem?_zip_eq_some] at hi
  obtain ⟨h1, h2⟩ := hi
  rw [← List.drop_one, List.getElem?_drop] at h2
  have hl2 : 1 + i < ms.length := (List.getElem?_eq_some_iff.mp h2).1
  have hl1 : i < ms.length := by omega
  have e1 : ms[i] = p.1 := by simpa [hl1] using h1
  have e2 : ms[1 + i] = p.2 := by simpa [hl2] using h2
  refine ⟨by rw [← e1]; exact List.getElem_mem hl1, by rw [← e2]; exact List.getElem_mem hl2, ?_⟩
  cases q : leM n p.2 p.1 with
  | false => rfl
  | true =>
    have hs := List.pairwise_iff_getElem.mp h.srt i (1 + i) hl1 hl2 (by omega)
    rw [e1, e2] at hs
    have : p.1 = p.2 := lot_inj h.few (h.lt _ (by rw [← e1]; exact List.getElem_mem hl1)) (h.lt _ (by rw [← e2]; exact List.getElem_mem hl2)) (leI_anti hs q)
    have hd := List.pairwise_iff_getElem.mp h.nd i (1 + i) hl1 hl2 (by omega)
    rw [e1, e2] at hd
    exact absurd this hd
theorem are_lots_ok {n : Nat} {ms : List Nat} (h : Fam n ms) (st : Store) : F_are_lots [.int n, famT n ms] st = some (.bl true, st) := by
  refine fnA_ret (ρ' := [some (.int n), some (famT n ms), none, none, none]) rfl ?_
  have hl := h.len
  have hne : ms.length ≠ 0 := fun e => h.ne (List.eq_nil_of_length_eq_zero e)
  unfold famT
  simp [m_are_lots, b_are_lots_1, isi_tup, I.allF, F.len, F.seq, F.eq0, F.dat, F.eqD, F.toPy, PyData.eqv, hne]
  rw [compL_map (lotM n) (fun _ => D.bl true)]
  · simp [all_true, F.slice, cut1, I.zipF, ← List.map_tail, zipD_map, hne]
    rw [compL_map (fun (p : Nat × Nat) => D.tup [lotM n p.1, lotM n p.2]) (fun _ => D.bl true)]
    · simp [all_true]
    · intro p hp
      obtain ⟨h1, h2, h3⟩ := h.steps p (by simpa using hp)
      exact ⟨_, rfl, by simp [lt_lot h.few (h.lt _ h1) (h.lt _ h2), h3]⟩
  · intro m hm
    exact ⟨_, rfl, by simp [is_lot_ok h.few (h.lt m hm)]⟩
end Sm.Pr
/-! ## MathC -/
/-! Plain laws, part C: families made, their sums, lowered. -/
namespace Sm.Pr
open PySem Sm
theorem bels_ints : ∀ l : List Int, D.bels 0 (l.map .int) = true
  | [] => by simp [D.bels]
  | x :: l => by rw [List.map_cons, D.bels, bels_ints l]; simp [D.bel]
theorem bel_tupI (l : List Int) : (F.tupI l).bel 0 = true := by
  show D.bel 0 (.tup (l.map .int)) = true
  rw [D.bel, bels_ints]
theorem bels_lots (n : Nat) : ∀ ms : List Nat, D.bels 0 (ms.map (lotM n)) = true
  | [] => by simp [D.bels]
  | x :: l => by rw [List.map_cons, D.bels, bels_lots n l]; simp [lotM, bel_tupI]
theorem bel_famT (n : Nat) (ms : List Nat) : (famT n ms).bel 0 = true := by
  show D.bel 0 (.tup _) = true
  rw [D.bel, bels_lots]
@[simp] theorem v_gfld {cs f} {o : ME} {d : D} {ρ : Ev} {st : Store} : G.fld cs f o d ρ st = (o ρ st).bind fun p => (F.setF cs f p.2 p.1 d).map fun s => (ρ, s) := rfl
@[simp] theorem v_gnilX {ρ : Ev} {st : Store} : G.nilX [] ρ st = some (ρ, st) := rfl
@[simp] theorem v_gconsX {g : MGx} {r} {d : D} {ds : List D} {ρ : Ev} {st : Store} : G.consX g r (d :: ds) ρ st = (g d ρ st).bind fun p => r ds p.1 p.2 := rfl
@[simp] theorem v_gtupX {r} {ds : List D} {ρ : Ev} {st : Store} : G.tupX r (.tup ds) ρ st = r ds ρ st := rfl
theorem set_last {st : Store} {a b : Cell} : (st ++ [a]).set st.length b = st ++ [b] := by
  rw [List.set_append_right _ _ (Nat.le_refl _)]
  simp
theorem get_last {st : Store} {a : Cell} : (st ++ [a])[st.length]? = some a := by simp
theorem new_fam {n : Nat} {ms : List Nat} (h : Fam n ms) (st : Store) : F.newFam F_Family___init__ [.int n, famT n ms] st = some (.fam n (famT n ms), st) := by
  have hp := h.pos
  have hf := h.few
  have key : (famT n ms).bel 0 = true ∧ F_Family___init__ [.ref st.length, .int n, famT n ms] (st ++ [.ins "Family" []]) = some (.non, st ++ [F.famCell n (famT n ms) (st.length + 1), .dct false []]) := by
    refine ⟨bel_famT n ms, fnA_nx (ρ' := [some (.ref st.length), some (.int n), some (famT n ms)]) rfl ?_⟩
    have hw : ∀ st, F_is_within [.int n, .int 1, .int 6] st = some (.bl true, st) := fun st => by rw [is_within_int]; simp; omega
    have k1 : ¬ (("points" : Str) = "lots") := by decide +kernel
    have k2 : ¬ (("points" : Str) = "looked") := by decide +kernel
    have k3 : ¬ (("lots" : Str) = "looked") := by decide +kernel
    simp [m_Family___init__, hw, are_lots_ok h, F.setF, F.putD, F.famCell, k1, k2, k3]
  unfold F.newFam
  exact if_pos key
/-! ### a lot and its sum -/
theorem ints_of {α : Type} (f : α → Int) : ∀ l : List α, F.intL (l.map fun x => .int (f x)) = some (l.map f)
  | [] => rfl
  | x :: l => by rw [List.map_cons, F.intL, ints_of f l]; rfl
theorem sum_cast : ∀ l : List Nat, (l.map fun (i : Nat) => (2 : Int) ^ i).sum = (((l.map (2 ^ ·)).sum : Nat) : Int)
  | [] => rfl
  | x :: l => by
    rw [List.map_cons, List.sum_cons, sum_cast l, List.map_cons, List.sum_cons]
    push_cast
    rfl
theorem sum_of_ok {n m : Nat} (hn : n ≤ 6) (hm : m < 2 ^ n) (st : Store) : F_sum_of [lotM n m] st = some (.int m, st) := by
  refine fnA_ret (ρ' := [some (lotM n m), none]) rfl ?_
  rw [lotM_items]
  simp [m_sum_of, I.allF]
  rw [compL_map (fun (i : Nat) => D.int (i : Int)) (fun (i : Nat) => D.int ((2 : Int) ^ i))]
  · simp [F.sum_, F.lstOf, ints_of]
    rw [sum_cast, lot_sum n (by omega) m hm]
  · intro i hi
    have := lot_le hi
    exact ⟨_, rfl, by simp [F.shl]; omega⟩
theorem range_D (n : Nat) : I.rangeD 0 n = (List.range n).map fun (i : Nat) => .int (i : Int) := by
  unfold I.rangeD
  simp
theorem pow_toNat (p : Nat) : ((2 : Int) ^ ((p : Int).toNat)) = 2 ^ p := by rw [Int.toNat_natCast]
theorem lot_of_ok {n m : Nat} (hn : n ≤ 6) (hm : m < 2 ^ n) (st : Store) : F_lot_of [.int m, .int n] st = some (lotM n m, st) := by
  have h64 : m < 64 := Nat.lt_of_lt_of_le hm (Nat.pow_le_pow_right (by decide) hn)
  refine fnA_ret (ρ' := [some (.int m), some (.int n), none]) rfl ?_
  rw [lotM_items]
  have hl : -I.lim ≤ (n : Int) ∧ (n : Int) ≤ I.lim := by unfold I.lim; omega
  simp [m_lot_of, hl, range_D]
  rw [compL_pure (fun (i : Nat) => D.int (i : Int)) (fun i => m.testBit i) (fun i => D.int (i : Int))]
  · simp [F.tuple_, F.seq]
    rfl
  · intro i hi
    have hi' : i < n := List.mem_range.mp hi
    refine ⟨_, rfl, ?_, fun _ => by simp⟩
    have := bit_and m h64 i (by omega)
    simp [F.shr, F.band, F.eq0, F.dat, F.eqD, F.toPy, PyData.eqv, this]
    cases m.testBit i <;> simp
/-! ### the sums of a family -/
theorem put_new {kvs : List (D × D)} {k v : D} (h : ∀ p ∈ kvs, F.keyK p.1 ≠ F.keyK k) : F.put kvs k v = kvs ++ [(k, v)] := by
  unfold F.put
  rw [if_neg]
  simp only [List.any_eq_true, decide_eq_true_eq, not_exists, not_and]
  exact h
theorem putAll_new {α : Type} (f g : α → D) : ∀ (l : List α) (acc : List (D × D)), (∀ p ∈ acc, ∀ x ∈ l, F.keyK p.1 ≠ F.keyK (f x)) → l.Pairwise (fun x y => F.keyK (f x) ≠ F.keyK (f y)) → F.putAll acc (l.map fun x => (f x, g x)) = acc ++ l.map fun x => (f x, g x)
  | [], acc, _, _ => by simp [F.putAll]
  | x :: l, acc, h, hp => by
    rw [List.map_cons]
    show F.putAll (F.put acc (f x) (g x)) (l.map fun x => (f x, g x)) = _
    rw [put_new fun p hp => h p hp x List.mem_cons_self]
    have hp' := List.pairwise_cons.mp hp
    rw [putAll_new f g l _ ?_ hp'.2]
    · simp
    · intro p hp2 y hy
      rcases List.mem_append.mp hp2 with q | q
      · exact h p q y (List.mem_cons_of_mem _ hy)
      · rw [List.mem_singleton.mp q]; exact hp'.1 y hy
theorem prs_map {α : Type} (f g : α → D) : ∀ l : List α, F.prs (l.map fun x => .tup [f x, g x]) = some (l.map fun x => (f x, g x))
  | [] => rfl
  | x :: l => by rw [List.map_cons, F.prs, prs_map f g l]; rfl
theorem dict_ints {ms : List Nat} (nd : ms.Nodup) (hl : ms.length ≤ 1000) (st : Store) : F.dictP false st [.lst (ms.map fun (m : Nat) => .tup [.int (m : Int), .bl true])] = some (dctM ms) := by
  have pw : ms.Pairwise fun (x y : Nat) => F.keyK (D.int (x : Int)) ≠ F.keyK (D.int (y : Int)) := nd.imp fun {x y} hxy e => hxy (by
    have e' : (x : Int) = y := by simpa [F.keyK] using e
    omega)
  have h : F.putAll [] (ms.map fun (m : Nat) => (D.int (m : Int), D.bl true)) = ms.map fun (m : Nat) => (D.int (m : Int), D.bl true) := by
    rw [putAll_new (fun (m : Nat) => D.int (m : Int)) (fun _ => D.bl true) ms [] (by simp) pw]
    simp
  have hb : ms.length ≤ big := Nat.le_trans hl (by decide)
  simp [F.dictP, F.lstOf, prs_map (fun (m : Nat) => D.int (m : Int)) (fun _ => D.bl true), F.kindOk, F.keyK, h, hb, dctM]
theorem belK_sums (k : Nat) : ∀ ms : List Nat, D.belK k (ms.map fun (m : Nat) => (D.int (m : Int), D.bl true)) = true
  | [] => by simp [D.belK]
  | m :: ms => by rw [List.map_cons, D.belK, belK_sums k ms]; simp [D.belP, D.bel]
theorem sums_fact {n : Nat} {ms : List Nat} (h : Fam n ms) : caFact mk_sums_of 1 n (famT n ms) (dctM ms) := by
  refine ⟨?_, fun st => ⟨famEv 1 n (famT n ms), st, ?_, rfl, ⟨Nat.le_refl _, fun i c _ e => .inl e⟩, List.take_length⟩⟩
  · show D.bel 0 (.dct false _) = true
    rw [D.bel, belK_sums]
  · have hl := h.len
    have k1 : ¬ (("lots" : Str) = "points") := by decide +kernel
    show (E.fn (F.dictP false) _ (famEv 1 n (famT n ms)) st).map _ = _
    unfold famEv
    simp [F.famAttr, famT, I.allF, k1]
    rw [compL_map (lotM n) (fun (m : Nat) => D.tup [.int (m : Int), .bl true])]
    · simp [dict_ints h.nd (by omega)]
    · intro m hm
      exact ⟨_, rfl, by simp [sum_of_ok h.few (h.lt m hm)]⟩
theorem cached_run {ca : Int → D → Option D} {j : Nat} {n : Int} {l d : D} {st : Store} (h : ca n l = some d) : S.cached ca j (famEv j n l) st = some (.ret d, famEv j n l, st) := by
  have g : gt (famEv j n l) 0 = some (.fam n l) := rfl
  unfold S.cached
  rw [g]
  simp only [if_true, h, Option.map_some]
theorem sums_of_ok {n : Nat} {ms : List Nat} (h : Fam n ms) (st : Store) : F_sums_of [.fam n (famT n ms)] st = some (dctM ms, st) := by
  refine fnA_ret (ρ' := famEv 1 n (famT n ms)) rfl ?_
  exact cached_run (caOf_of (sums_fact h))
/-! ### the family of some sums -/
theorem sorted_run {st : Store} {d : D} {xs : List D} (h : F.seq st d = some xs) (ok : F.SortOk xs) : F.sorted st [d] = some (.lst (xs.mergeSort F.leD)) := by
  simp only [F.sorted, h, Option.bind_some, if_pos ok]
theorem sorted_lots {n : Nat} (ms : List Nat) (hl : ms.length ≤ 1000) (st : Store) : F.sorted st [.lst (ms.map (lotM n))] = some (.lst ((sortM n ms).map (lotM n))) := by
  have ok : F.SortOk (ms.map (lotM n)) := sortOk_tups (lotI n) ms (by omega)
  have e : (ms.map (lotM n)).mergeSort F.leD = (sortM n ms).map (lotM n) := by
    unfold sortM
    rw [List.map_mergeSort]
    intro a _ b _
    exact (leD_lot n a b).symm
  rw [sorted_run rfl ok, e]
theorem family_of_dct {n : Nat} {ks : List Nat} (pos : 1 ≤ n) (few : n ≤ 6) (lt : ∀ m ∈ ks, m < 2 ^ n) (nd : ks.Nodup) (ne : ks ≠ []) (st : Store) : F_family_of [.int n, dctM ks] st = some (.fam n (famT n (sortM n ks)), st) := by
  have hF := Fam.of pos few lt nd ne
  have hl : ks.length ≤ 64 := by
    have := hF.len
    rwa [(sortM_perm n ks).length_eq] at this
  refine fnA_ret (ρ' := [some (.int n), some (dctM ks), none]) rfl ?_
  simp [m_family_of, dctM, I.allF]
  rw [show (List.map ((fun x : D × D => x.fst) ∘ fun (m : Nat) => (D.int (m : Int), D.bl true)) ks) = ks.map fun (m : Nat) => D.int (m : Int) from rfl]
  rw [compL_map (fun (m : Nat) => D.int (m : Int)) (lotM n)]
  · simp [sorted_lots ks (by omega), F.tuple_, F.seq]
    have := new_fam hF st
    unfold famT at this ⊢
    simp [this]
  · intro m hm
    exact ⟨_, rfl, by simp [lot_of_ok few (lt m hm)]⟩
theorem check_point_ok {n : Nat} {l : D} {p : Nat} (hp : p < n) (st : Store) : F_check_point [.fam n l, .int p] st = some (.non, st) := by
  have hw : F_is_within [.int p, .int 0, .int ((n : Int) - 1)] st = some (.bl true, st) := by rw [is_within_int]; simp; omega
  refine fnA_nx (ρ' := [some (.fam n l), some (.int p)]) rfl ?_
  simp [m_check_point, F.famAttr, F.sub, hw]
/-! ### lowered -/
theorem look_ints (ms : List Nat) (k : Nat) : (F.look (ms.map fun (m : Nat) => (D.int (m : Int), D.bl true)) (.int k)).isSome = decide (k ∈ ms) := by
  unfold F.look
  rw [Option.isSome_map, Bool.eq_iff_iff, List.find?_isSome, decide_eq_true_eq]
  constructor
  · rintro ⟨q, hq, e⟩
    obtain ⟨x, hx, rfl⟩ := List.mem_map.mp hq
    have e' : (x : Int) = k := by simpa [F.keyK] using e
    have : x = k := by omega
    exact this ▸ hx
  · intro h
    exact ⟨_, List.mem_map.mpr ⟨k, h, rfl⟩, by simp⟩
/-- a member's sum, the point taken out where that makes no member -/
def low (ms : List Nat) (p m : Nat) : Nat := if clr m p ∈ ms then m else clr m p
theorem clr_le (m p : Nat) : clr m p ≤ m := by
  unfold clr
  split
  · exact Nat.sub_le _ _
  · exact Nat.le_refl _
theorem low_le (ms : List Nat) (p m : Nat) : low ms p m ≤ m := by
  unfold low
  split
  · exact Nat.le_refl _
  · exact clr_le m p
theorem clr_no {m p : Nat} (h : m.testBit p = false) : clr m p = m := by unfold clr; rw [if_neg (by simp [h])]
theorem clr_yes {m p : Nat} (h : m.testBit p = true) : clr m p + 2 ^ p = m := by
  unfold clr
  rw [if_pos h]
  have := Nat.ge_two_pow_of_testBit h
  omega
theorem low_inj {ms : List Nat} {p a b : Nat} (ha : a ∈ ms) (hb : b ∈ ms) (e : low ms p a = low ms p b) : a = b := by
  unfold low at e
  split at e
  · split at e
    · exact e
    · rename_i h1 h2
      exact absurd (e ▸ ha) h2
  · rename_i h1
    split at e
    · exact absurd (e ▸ hb) h1
    · rename_i h2
      have ta : a.testBit p = true := by
        cases q : a.testBit p with
        | true => rfl
        | false => exact absurd (by rw [clr_no q]; exact ha) h1
      have tb : b.testBit p = true := by
        cases q : b.testBit p with
        | true => rfl
        | false => exact absurd (by rw [clr_no q]; exact hb) h2
      rw [← clr_yes ta, ← clr_yes tb, e]
theorem nodup_map {α β : Type} {f : α → β} : ∀ {l : List α}, l.Nodup → (∀ x ∈ l, ∀ y ∈ l, f x = f y → x = y) → (l.map f).Nodup
  | [], _, _ => List.nodup_nil
  | x :: l, nd, h => by
    rw [List.map_cons]
    obtain ⟨h1, h2⟩ := List.nodup_cons.mp nd
    refine List.nodup_cons.mpr ⟨fun m => ?_, nodup_map h2 fun a ha b hb => h a (List.mem_cons_of_mem _ ha) b (List.mem_cons_of_mem _ hb)⟩
    obtain ⟨y, hy, e⟩ := List.mem_map.mp m
    have := h x List.mem_cons_self y (List.mem_cons_of_mem _ hy) e.symm
    exact h1 (this ▸ hy)
theorem low_nodup {ms : List Nat} (nd : ms.Nodup) (p : Nat) : (ms.map (low ms p)).Nodup := nodup_map nd fun x hx y hy e => low_inj hx hy e
def sumD (ks : List Nat) : List (D × D) := ks.map fun (m : Nat) => (D.int (m : Int), D.bl true)
theorem lowered_sums_ok {n : Nat} {ms : List Nat} (hn : n ≤ 6) (lt : ∀ m ∈ ms, m < 2 ^ n) (nd : ms.Nodup) {p : Nat} (hp : p < n) (st : Store) :
    F_lowered_sums [dctM ms, .int p] st = some (dctM (ms.map (low ms p)), st) := by
  have hl : ms.length ≤ 64 := by
    have := nodup_le (2 ^ n) ms nd lt
    have : 2 ^ n ≤ 2 ^ 6 := Nat.pow_le_pow_right (by decide) hn
    omega
  have loop := loop_inv (g := G.name 3) (b := b_lowered_sums_1)
    (fun (m : Nat) => D.int (m : Int)) (fun done ρ s => ∃ o3 o4, ρ = [some (dctM ms), some (.int p), some (.ref st.length), o3, o4] ∧ s = st ++ [.dct false (sumD (done.map (low ms p)))]) ms
    (fun done m ρ s hd hI => by
      obtain ⟨r, hr⟩ := hd
      obtain ⟨o3, o4, rfl, rfl⟩ := hI
      have hm : m ∈ ms := by rw [hr]; simp
      have h64 : m < 64 := Nat.lt_of_lt_of_le (lt m hm) (Nat.pow_le_pow_right (by decide) hn)
      have hand := clr_and m h64 p (by omega)
      have hnew : ∀ q ∈ sumD (done.map (low ms p)), F.keyK q.1 ≠ F.keyK (.int (low ms p m : Nat)) := by
        intro q hq e
        unfold sumD at hq
        obtain ⟨k, hk, rfl⟩ := List.mem_map.mp hq
        obtain ⟨x, hx, rfl⟩ := List.mem_map.mp hk
        have e1 : ((low ms p x : Nat) : Int) = (low ms p m : Nat) := by simpa [F.keyK] using e
        have e' : low ms p x = low ms p m := by omega
        have hx' : x ∈ ms := by rw [hr]; simp [hx]
        have := low_inj hx' hm e'
        subst this
        rw [hr] at nd
        exact (List.nodup_append.mp nd).2.2 x hx x (by simp) rfl
      have hdl : done.length ≤ 64 := by rw [hr] at hl; simp at hl; omega
      have hput := put_new (v := D.bl true) hnew
      have hin : ∀ s : Store, F.in_ s (.int (clr m p : Nat)) (dctM ms) = some (.bl (decide (clr m p ∈ ms))) := by
        intro s
        have := look_ints ms (clr m p)
        simp [F.in_, F.dctOf, dctM, F.kindOk, F.keyK, this]
      have hlen : (sumD (done.map (low ms p))).length < big := by
        unfold sumD
        simp [big]; omega
      have hp6 : (p : Int) ≤ 1000000 := by omega
      refine ⟨_, .nx, [some (dctM ms), some (.int p), some (.ref st.length), some (.int m), some (.int (clr m p : Nat))], st ++ [.dct false (sumD ((done ++ [m]).map (low ms p)))], rfl, ?_, .inl rfl, _, _, rfl, rfl⟩
      have hfin : sumD ((done ++ [m]).map (low ms p)) = sumD (done.map (low ms p)) ++ [(.int (low ms p m : Nat), .bl true)] := by
        unfold sumD
        simp
      rw [hfin, ← hput]
      by_cases hc : clr m p ∈ ms
      · have hlow : low ms p m = m := by unfold low; rw [if_pos hc]
        rw [hlow]
        simp [b_lowered_sums_1, F.band, F.inv, F.shl, hp6, hand, hin, hc, F.store, F.kindOk, F.keyK, hlen]
      · have hlow : low ms p m = clr m p := by unfold low; rw [if_neg hc]
        rw [hlow]
        simp [b_lowered_sums_1, F.band, F.inv, F.shl, hp6, hand, hin, hc, F.store, F.kindOk, F.keyK, hlen]) ms []
        [some (dctM ms), some (.int p), some (.ref st.length), none, none] (st ++ [.dct false []]) rfl ⟨none, none, rfl, rfl⟩
  obtain ⟨ρ', st', h1, o3, o4, rfl, rfl⟩ := loop
  have hA : fnA 2 5 m_lowered_sums [dctM ms, .int p] st = some (.ref st.length, st ++ [.dct false (sumD (ms.map (low ms p)))]) := by
    refine fnA_ret (ρ' := [some (dctM ms), some (.int p), some (.ref st.length), o3, o4]) rfl ?_
    have hk : I.allF (dctM ms) = some (ms.map fun (m : Nat) => D.int (m : Int)) := by
      unfold dctM I.allF
      simp
    simp [m_lowered_sums, hk, h1]
  have := fnB_of (d' := dctM (ms.map (low ms p))) hA ⟨by simp, fun i c hi hc => .inl (by rw [List.getElem?_append_left hi] at hc; exact hc)⟩ ?_
  · rw [List.take_left] at this
    exact this
  · have hb : D.belK st.length (sumD (ms.map (low ms p))) = true := belK_sums _ _
    simp [unbox, hb]
    rfl
theorem low_lt {n : Nat} {ms : List Nat} (lt : ∀ m ∈ ms, m < 2 ^ n) (p : Nat) : ∀ k ∈ ms.map (low ms p), k < 2 ^ n := by
  intro k hk
  obtain ⟨m, hm, rfl⟩ := List.mem_map.mp hk
  exact Nat.lt_of_le_of_lt (low_le ms p m) (lt m hm)
/-- a family lowered at a point -/
def lowF (n p : Nat) (ms : List Nat) : List Nat := sortM n (ms.map (low ms p))
theorem Fam.low {n : Nat} {ms : List Nat} (h : Fam n ms) (p : Nat) : Fam n (lowF n p ms) :=
  Fam.of h.pos h.few (low_lt h.lt p) (low_nodup h.nd p) (by simpa using h.ne)
theorem lowered_ok {n : Nat} {ms : List Nat} (h : Fam n ms) {p : Nat} (hp : p < n) (st : Store) : F_lowered [.fam n (famT n ms), .int p] st = some (.fam n (famT n (lowF n p ms)), st) := by
  refine fnA_ret (ρ' := [some (.fam n (famT n ms)), some (.int p)]) rfl ?_
  have k1 : ¬ (("lots" : Str) = "points") := by decide +kernel
  simp [m_lowered, check_point_ok hp, F.famAttr, sums_of_ok h, lowered_sums_ok h.few h.lt h.nd hp, family_of_dct h.pos h.few (low_lt h.lt p) (low_nodup h.nd p) (by simpa using h.ne)]
  rfl
def lowAt (ms : List Nat) (p : Nat) : Bool := ms.all fun m => decide (clr m p ∈ ms)
def lowB (n : Nat) (ms : List Nat) : Bool := (List.range n).all (lowAt ms)
theorem in_dct (ms : List Nat) (k : Nat) (s : Store) : F.in_ s (.int k) (dctM ms) = some (.bl (decide (k ∈ ms))) := by
  have := look_ints ms k
  simp [F.in_, F.dctOf, dctM, F.kindOk, F.keyK, this]
theorem all_dct (ms : List Nat) : I.allF (dctM ms) = some (ms.map fun (m : Nat) => D.int (m : Int)) := by
  unfold dctM I.allF
  simp
theorem is_low_ok {n : Nat} {ms : List Nat} (h : Fam n ms) (st : Store) : F_is_low [.fam n (famT n ms)] st = some (.bl (lowB n ms), st) := by
  have hl : -I.lim ≤ (n : Int) ∧ (n : Int) ≤ I.lim := by have := h.few; unfold I.lim; omega
  have loop := loop_all (d := D.bl false) (g := G.name 2) (b := b_is_low_1)
    (fun (p : Nat) => D.int (p : Int)) (lowAt ms) (fun ρ s => s = st ∧ ∃ o, ρ = [some (.fam n (famT n ms)), some (dctM ms), o, none]) (List.range n)
    [some (.fam n (famT n ms)), some (dctM ms), none, none] st (by
      rintro p ρ s hp ⟨rfl, o, rfl⟩
      have hpn : p < n := List.mem_range.mp hp
      have hp6 : (p : Int) ≤ 1000000 := by have := h.few; omega
      have run : b_is_low_1 [some (.fam n (famT n ms)), some (dctM ms), some (.int p), none] s = some (if lowAt ms p = true then .nx else .ret (.bl false), [some (.fam n (famT n ms)), some (dctM ms), some (.int p), none], s) := by
        simp [b_is_low_1, all_dct]
        rw [compL_map (fun (m : Nat) => D.int (m : Int)) (fun m => .bl (decide (clr m p ∈ ms)))]
        · rw [Option.map_some, Option.bind_some, Option.bind_some]
          have e : (ms.all fun m => decide (clr m p ∈ ms)) = lowAt ms p := rfl
          simp only [all_lst, e]
          cases lowAt ms p <;> rfl
        · intro m hm
          have h64 : m < 64 := Nat.lt_of_lt_of_le (h.lt m hm) (Nat.pow_le_pow_right (by decide) h.few)
          have hand := clr_and m h64 p (by have := h.few; omega)
          exact ⟨_, rfl, by simp [F.shl, hp6, F.inv, F.band, hand, in_dct]⟩
      refine ⟨_, rfl, fun ht => ⟨_, _, run.trans (by rw [ht]; rfl), rfl, _, rfl⟩, fun hf => ⟨_, _, run.trans (by rw [hf]; rfl), rfl, _, rfl⟩⟩) ⟨rfl, none, rfl⟩
  obtain ⟨ρ', st', h1, rfl, o, rfl⟩ := loop
  have e : (List.range n).all (lowAt ms) = lowB n ms := rfl
  rw [e] at h1
  cases hb : lowB n ms with
  | true =>
    rw [hb] at h1
    refine fnA_ret (ρ' := [some (.fam n (famT n ms)), some (dctM ms), o, none]) rfl ?_
    simp [m_is_low, sums_of_ok h, F.famAttr, hl, range_D, h1]
  | false =>
    rw [hb] at h1
    refine fnA_ret (ρ' := [some (.fam n (famT n ms)), some (dctM ms), o, none]) rfl ?_
    simp [m_is_low, sums_of_ok h, F.famAttr, hl, range_D, h1]
end Sm.Pr
/-! ## MathD -/
/-! Plain laws, part D: the drawing hand. -/
namespace Sm.Pr
open PySem Sm
/-- the hand: the cells, the next one's place, what is left of a great one, the mix, how many were mixed -/
def handC (cells : List Int) (i g x c : Int) : Cell := .lst [.lst (cells.map .int), .int i, .int g, .int x, .int c]
structure HandOk (cells : List Int) (i g x c : Int) : Prop where
  pos : ∀ z ∈ cells, 0 ≤ z
  few : cells.length ≤ 1000
  i0 : 0 ≤ i
  g0 : 0 ≤ g
  x0 : 0 ≤ x
  x1 : x < 2 ^ 40
  c0 : 0 ≤ c
/-- at place h of the store the hand stands -/
def Hand (h : Nat) (st : Store) : Prop := ∃ cells i g x c, st[h]? = some (handC cells i g x c) ∧ HandOk cells i g x c
section
variable {h : Nat} {st : Store} {cells : List Int} {i g x c : Int}
theorem hx {cc : Cell} {k : Int} {d : D} {xs : List D} (e : st[h]? = some (.lst xs)) (ed : L2.atI xs k = some d) : F.ix st (.ref h) (.int k) = some d := by
  simp [F.ix, F.dctOf, e, F.seq, ed]
theorem hx0 (e : st[h]? = some (handC cells i g x c)) : F.ix st (.ref h) (.int 0) = some (.lst (cells.map .int)) := hx (cc := handC cells i g x c) e rfl
theorem hx1 (e : st[h]? = some (handC cells i g x c)) : F.ix st (.ref h) (.int 1) = some (.int i) := hx (cc := handC cells i g x c) e rfl
theorem hx2 (e : st[h]? = some (handC cells i g x c)) : F.ix st (.ref h) (.int 2) = some (.int g) := hx (cc := handC cells i g x c) e rfl
theorem hx3 (e : st[h]? = some (handC cells i g x c)) : F.ix st (.ref h) (.int 3) = some (.int x) := hx (cc := handC cells i g x c) e rfl
theorem hx4 (e : st[h]? = some (handC cells i g x c)) : F.ix st (.ref h) (.int 4) = some (.int c) := hx (cc := handC cells i g x c) e rfl
theorem hs {xs : List D} {k : Int} {v : D} {m : Nat} (e : st[h]? = some (.lst xs)) (ed : L2.ixN xs.length k = some m) : F.store st (.ref h) (.int k) v = some (st.set h (.lst (xs.set m v))) := by
  simp [F.store, e, ed]
theorem hs1 {y : Int} (e : st[h]? = some (handC cells i g x c)) : F.store st (.ref h) (.int 1) (.int y) = some (st.set h (handC cells y g x c)) := hs (m := 1) e rfl
theorem hs2 {y : Int} (e : st[h]? = some (handC cells i g x c)) : F.store st (.ref h) (.int 2) (.int y) = some (st.set h (handC cells i y x c)) := hs (m := 2) e rfl
theorem hs3 {y : Int} (e : st[h]? = some (handC cells i g x c)) : F.store st (.ref h) (.int 3) (.int y) = some (st.set h (handC cells i g y c)) := hs (m := 3) e rfl
theorem hs4 {y : Int} (e : st[h]? = some (handC cells i g x c)) : F.store st (.ref h) (.int 4) (.int y) = some (st.set h (handC cells i g x y)) := hs (m := 4) e rfl
theorem setget {a b : Cell} (e : st[h]? = some a) : (st.set h b)[h]? = some b := by
  have := (List.getElem?_eq_some_iff.mp e).1
  simp [this]
end
/-- the first part of a draw: perhaps a cell is taken up -/
theorem draw1 {h : Nat} {st : Store} {cells : List Int} {i g x c : Int} {sides : D} {o2 o3 o4 : Option D} (e : st[h]? = some (handC cells i g x c)) (ok : HandOk cells i g x c) :
    ∃ o i' g' x', b__law_draw_1 [some (.ref h), some sides, o2, o3, o4] st = some (.nx, [some (.ref h), some sides, o, o3, o4], st.set h (handC cells i' g' x' c)) ∧ HandOk cells i' g' x' c := by
  have hst : st.set h (handC cells i g x c) = st := by
    apply List.ext_getElem?
    intro j
    by_cases hj : j = h
    · subst hj; rw [setget e, e]
    · rw [List.getElem?_set_ne (Ne.symm hj)]
  by_cases hg : g = 0
  · subst hg
    by_cases hi : i < cells.length
    · have hn : i.toNat < cells.length := by have := ok.i0; omega
      have hat : L2.atI (cells.map D.int) i = some (.int cells[i.toNat]) := by
        have h0 := ok.i0
        simp [L2.atI, L2.ixN, h0, hi, hn]
      have hcell : F.ix st (.lst (cells.map .int)) (.int i) = some (.int cells[i.toNat]) := by
        simp [F.ix, F.dctOf, F.seq, hat]
      have hpos : 0 ≤ cells[i.toNat] := ok.pos _ (List.getElem_mem hn)
      generalize cells[i.toNat] = z at hcell hpos
      have e1 : (st.set h (handC cells (i + 1) 0 x c))[h]? = some (handC cells (i + 1) 0 x c) := setget e
      have hmod : 0 ≤ (x * 69621 + z + 29) % 2147483629 ∧ (x * 69621 + z + 29) % 2147483629 < 2147483629 := ⟨Int.emod_nonneg _ (by decide), Int.emod_lt_of_pos _ (by decide)⟩
      generalize hM : (x * 69621 + z + 29) % 2147483629 = M at hmod
      have e2 : (st.set h (handC cells (i + 1) 0 M c))[h]? = some (handC cells (i + 1) 0 M c) := setget e
      have s1 := hs1 (y := i + 1) e
      have s2 : F.store (st.set h (handC cells (i + 1) 0 x c)) (.ref h) (.int 3) (.int M) = some (st.set h (handC cells (i + 1) 0 M c)) := by
        rw [hs3 e1, List.set_set]
      have s3 : F.store (st.set h (handC cells (i + 1) 0 M c)) (.ref h) (.int 2) (.int z) = some (st.set h (handC cells (i + 1) z M c)) := by
        rw [hs2 e2, List.set_set]
      by_cases hz : z < 10 ^ 18
      · refine ⟨some (.int z), i + 1, 0, M, ?_, ⟨ok.pos, ok.few, by have := ok.i0; omega, ok.g0, hmod.1, by omega, ok.c0⟩⟩
        have hz' : z < 1000000000000000000 := hz
        have nz : ¬ 1000000000000000000 ≤ z := by omega
        simp [b__law_draw_1, hx2 e, hx1 e, hx0 e, hi, F.eq0, F.dat, F.eqD, F.toPy, PyData.eqv, F.lt, F.len, F.seq, hcell, F.add, F.lstOf, s1, hx3 e1, F.mul, F.int_, F.mod, hM, s2, F.pow, F.ge, nz]
      · refine ⟨some (.int z), i + 1, z, M, ?_, ⟨ok.pos, ok.few, by have := ok.i0; omega, hpos, hmod.1, by omega, ok.c0⟩⟩
        have hz' : ¬ z < 1000000000000000000 := hz
        have nz : 1000000000000000000 ≤ z := by omega
        simp [b__law_draw_1, hx2 e, hx1 e, hx0 e, hi, F.eq0, F.dat, F.eqD, F.toPy, PyData.eqv, F.lt, F.len, F.seq, hcell, F.add, F.lstOf, s1, hx3 e1, F.mul, F.int_, F.mod, hM, s2, F.pow, F.ge, nz, s3]
    · refine ⟨o2, i, 0, x, ?_, ok⟩
      rw [hst]
      simp [b__law_draw_1, hx2 e, hx1 e, hx0 e, hi, F.eq0, F.dat, F.eqD, F.toPy, PyData.eqv, F.lt, F.len, F.seq]
  · refine ⟨o2, i, g, x, ?_, ok⟩
    rw [hst]
    simp [b__law_draw_1, hx2 e, hg, F.eq0, F.dat, F.eqD, F.toPy, PyData.eqv]
theorem nat_lt {n : Int} (h0 : 0 ≤ n) (h1 : n < 2147483648) : n.natAbs < 18446744073709551616 := by omega
theorem draw_ok {h : Nat} {st : Store} (hd : Hand h st) {k : Nat} (k1 : 1 ≤ k) (k2 : k ≤ 1000) : ∃ (r : Nat) (cc : Cell), F__law_draw [.ref h, .int k] st = some (.int r, st.set h cc) ∧ r < k ∧ Hand h (st.set h cc) := by
  obtain ⟨cells, i, g, x, c, e, ok⟩ := hd
  obtain ⟨o, i', g', x', e1, ok1⟩ := draw1 (sides := .int k) (o2 := none) (o3 := none) (o4 := none) e ok
  have e2 : (st.set h (handC cells i' g' x' c))[h]? = some (handC cells i' g' x' c) := setget e
  have kp : (0 : Int) < k := by omega
  by_cases hg : 0 < g'
  · have hr := Int.emod_nonneg g' (show (k : Int) ≠ 0 by omega)
    have hr2 := Int.emod_lt_of_pos g' kp
    have hk9 : (k : Int) < 1073741824 := by omega
    refine ⟨(g' % k).toNat, handC cells i' (g' / k) x' c, ?_, by omega, _, _, _, _, _, setget e, ⟨ok1.pos, ok1.few, ok1.i0, Int.ediv_nonneg ok1.g0 (by omega), ok1.x0, ok1.x1, ok1.c0⟩⟩
    have s1 : F.store (st.set h (handC cells i' g' x' c)) (.ref h) (.int 2) (.int (g' / k)) = some (st.set h (handC cells i' (g' / k) x' c)) := by rw [hs2 e2, List.set_set]
    have hc : ((g' % k).toNat : Int) = g' % k := Int.toNat_of_nonneg hr
    rw [hc]
    refine fnA_ret (ρ' := [some (.ref h), some (.int k), o, some (.int (g' % k)), none]) rfl ?_
    simp [m__law_draw, e1, hx2 e2, F.gt, hg, F.int_, F.mod, k1, F.fdiv, hk9, s1, show 0 < k by omega]
  · have g0 : g' = 0 := by have := ok1.g0; omega
    subst g0
    have ne : ∀ z : Int, 0 ≤ z % 2147483647 ∧ z % 2147483647 < 2147483647 := fun z => ⟨Int.emod_nonneg _ (by decide), Int.emod_lt_of_pos _ (by decide)⟩
    have e3 : (st.set h (handC cells i' 0 x' (c + 1)))[h]? = some (handC cells i' 0 x' (c + 1)) := setget e
    have s1 : F.store (st.set h (handC cells i' 0 x' c)) (.ref h) (.int 4) (.int (c + 1)) = some (st.set h (handC cells i' 0 x' (c + 1))) := by rw [hs4 e2, List.set_set]
    have b1 := ne ((x' + 7919 * (c + 1)) * 48271)
    generalize hn1 : (x' + 7919 * (c + 1)) * 48271 % 2147483647 = n1 at b1
    have b2 := ne (n1 * (n1 / 1009 + 69621))
    generalize hn2 : n1 * (n1 / 1009 + 69621) % 2147483647 = n2 at b2
    have b3 : 0 ≤ n2 * (n2 / 2003 + 40692) % 2147483399 ∧ n2 * (n2 / 2003 + 40692) % 2147483399 < 2147483399 := ⟨Int.emod_nonneg _ (by decide), Int.emod_lt_of_pos _ (by decide)⟩
    generalize hn3 : n2 * (n2 / 2003 + 40692) % 2147483399 = n3 at b3
    have m1 := nat_lt b1.1 (by omega)
    have m2 := nat_lt b2.1 (by omega)
    have hr := Int.emod_nonneg (n3 / 16) (show (k : Int) ≠ 0 by omega)
    have hr2 := Int.emod_lt_of_pos (n3 / 16) kp
    refine ⟨(n3 / 16 % k).toNat, handC cells i' 0 x' (c + 1), ?_, by omega, _, _, _, _, _, setget e, ⟨ok1.pos, ok1.few, ok1.i0, by decide, ok1.x0, ok1.x1, by have := ok1.c0; omega⟩⟩
    have hc : ((n3 / 16 % k).toNat : Int) = n3 / 16 % k := Int.toNat_of_nonneg hr
    rw [hc]
    refine fnA_ret (ρ' := [some (.ref h), some (.int k), o, none, some (.int n3)]) rfl ?_
    simp [m__law_draw, e1, hx2 e2, F.gt, F.int_, F.mod, k1, F.fdiv, s1, show 0 < k by omega, hx4 e2, hx3 e3, hx4 e3, F.add, F.mul, hn1, m1, hn2, m2, hn3]
theorem some_ok {h : Nat} {st : Store} (hd : Hand h st) {ms : List D} (hne : ms ≠ []) (hl : ms.length ≤ 1000) : ∃ (d : D) (cc : Cell), F__law_some [.ref h, .lst ms] st = some (d, st.set h cc) ∧ d ∈ ms ∧ Hand h (st.set h cc) := by
  have hp : 1 ≤ ms.length := by
    cases ms with
    | nil => exact (hne rfl).elim
    | cons a b => simp
  obtain ⟨r, cc, h1, h2, h3⟩ := draw_ok hd hp hl
  refine ⟨ms[r], cc, ?_, List.getElem_mem h2, h3⟩
  refine fnA_ret (ρ' := [some (.ref h), some (.lst ms)]) rfl ?_
  simp [m__law_some, F.len, F.seq, h1, F.ix, F.dctOf, L2.atI, L2.ixN, h2]
theorem hand_ok (ns : List Int) (h63 : ns.length ≤ 63) (st : Store) : ∃ cc, F__law_hand [.scr ns] st = some (.ref st.length, st ++ [cc]) ∧ Hand st.length (st ++ [cc]) := by
  have hc : F.cut (ns.map D.int) none (some 63) = ns.map D.int := by
    unfold F.cut
    have h1 : HT.sIx (ns.map D.int).length 0 none = 0 := rfl
    have h2 : HT.sIx (ns.map D.int).length (ns.map D.int).length (some 63) = ns.length := by
      rw [show (some (63 : Int)) = some ((63 : Nat) : Int) from rfl, HT.sIx_nat]
      simp; omega
    rw [h1, h2]
    simp
    exact List.take_of_length_le (by simp)
  have hb : ns.length ≤ big := by unfold big; omega
  refine ⟨handC (ns.map fun z => if z < 0 then -z else z) 0 0 (227 + 29 * ns.length) 0, ?_, _, _, _, _, _, get_last, ⟨?_, by simp; omega, by decide, by decide, by omega, by omega, by decide⟩⟩
  · refine fnA_ret (ρ' := [some (.scr ns), some (.lst ((ns.map fun z => if z < 0 then -z else z).map .int)), none]) rfl ?_
    have hs : E.scr 63 (E.var 0) [some (.scr ns), none, none] st = some (.lst (ns.map .int), st) := by
      simp [E.scr, F.scr, hb, hc]
    simp [m__law_hand, hs, I.allF]
    rw [compL_map D.int (fun z => D.int (if z < 0 then -z else z))]
    · simp [F.len, F.seq, F.mul, F.add, handC]
    · intro z hz
      exact ⟨_, rfl, by simp [F.int_, F.abs_]⟩
  · intro z hz
    obtain ⟨y, _, rfl⟩ := List.mem_map.mp hz
    split <;> omega
end Sm.Pr
/-! ## MathE -/
/-! Plain laws, part E: the law's own helpers: equality of kinds, all lots, drawn families. -/
namespace Sm.Pr
open PySem Sm
/-! ### _law_is -/
def flat : Nat → D → Bool
  | _, .int _ => true
  | k + 1, .tup xs => xs.all (flat k)
  | _, _ => false
theorem zipD_self : ∀ xs : List D, I.zipD xs xs = xs.map fun x => .tup [x, x]
  | [] => rfl
  | x :: xs => by
    have := zipD_self xs
    unfold I.zipD at this ⊢
    simp [this]
theorem isi_t {d : D} {st : Store} {a b : String} (ha : F.tyName st d = some a) (hn : noT d = true) (hb : F.known.contains b = true) : F.isiA st [d, .cls b] = some (.bl (F.subTy a b)) := by
  show (if noT d = true then (F.isi1 st d (.cls b)).map D.bl else none) = _
  rw [if_pos hn]
  unfold F.isi1
  simp only [hb, if_true, ha, Option.map_some]
theorem eq_int (i j : Int) (st : Store) : F.eq0 st (.int i) (.int j) = some (.bl (decide (i = j))) := by
  simp [F.eq0, F.dat, F.eqD, F.toPy, PyData.eqv]
  rw [Bool.eq_iff_iff]
  simp
theorem ne_int (i j : Int) (st : Store) : F.ne0 st (.int i) (.int j) = some (.bl (!decide (i = j))) := by
  simp [F.ne0, F.dat, F.eqD, F.toPy, PyData.eqv]
  rw [Bool.eq_iff_iff]
  simp
theorem eq_bl (i j : Bool) (st : Store) : F.eq0 st (.bl i) (.bl j) = some (.bl (i == j)) := by
  simp [F.eq0, F.dat, F.eqD, F.toPy, PyData.eqv]
theorem ne_bl (i j : Bool) (st : Store) : F.ne0 st (.bl i) (.bl j) = some (.bl (!(i == j))) := by
  simp [F.ne0, F.dat, F.eqD, F.toPy, PyData.eqv]
theorem len_tup (xs : List D) (st : Store) : F.len st [.tup xs] = some (.int xs.length) := rfl
theorem law_is_bl (k : Nat) (a b : Bool) (st : Store) : F__law_is (k + 1) [.bl a, .bl b] st = some (.bl (a == b), st) := by
  have t : ∀ x : Bool, F.isiA st [.bl x, .cls "bool"] = some (.bl true) := fun x => isi_t (a := "bool") rfl rfl (by decide)
  refine fnA_ret (ρ' := [some (.bl a), some (.bl b), none, none, none]) rfl ?_
  simp [m__law_is, b__law_is_1, t, eq_bl]
theorem law_is_int (k : Nat) (i j : Int) (st : Store) : F__law_is (k + 1) [.int i, .int j] st = some (.bl (decide (i = j)), st) := by
  have t : ∀ (x : Int) (b : String), F.known.contains b = true → F.isiA st [.int x, .cls b] = some (.bl (F.subTy "int" b)) := fun x b => isi_t (a := "int") rfl rfl
  have t1 := fun x => t x "bool" (by decide)
  have t2 := fun x => t x "tuple" (by decide)
  have t3 := fun x => t x "list" (by decide)
  have t4 := fun x => t x "dict" (by decide)
  have t5 := fun x => t x "int" (by decide)
  refine fnA_ret (ρ' := [some (.int i), some (.int j), none, none, none]) rfl ?_
  simp [m__law_is, b__law_is_1, b__law_is_3, b__law_is_4, t1, t2, t3, t4, t5, F.subTy, eq_bl, eq_int]
theorem law_is_refl : ∀ (k : Nat) (d : D) (st : Store), flat k d = true → F__law_is (k + 1) [d, d] st = some (.bl true, st)
  | k, .int i, st, _ => by rw [law_is_int]; simp
  | k + 1, .tup xs, st, h => by
    have t : ∀ (b : String), F.known.contains b = true → F.isiA st [.tup xs, .cls b] = some (.bl (F.subTy "tuple" b)) := fun b => isi_t (a := "tuple") rfl rfl
    have t1 := t "bool" (by decide)
    have t2 := t "tuple" (by decide)
    have t3 := t "list" (by decide)
    have hx : ∀ x ∈ xs, F__law_is (k + 1) [x, x] st = some (.bl true, st) := fun x hx => law_is_refl k x st (by
      have : xs.all (flat k) = true := h
      exact List.all_eq_true.mp this x hx)
    refine fnA_ret (ρ' := [some (.tup xs), some (.tup xs), none, none, none]) rfl ?_
    simp [m__law_is, b__law_is_1, b__law_is_3, b__law_is_2, t1, t2, t3, F.subTy, ne_bl, len_tup, eq_int, I.zipF, zipD_self]
    rw [compL_map (fun (x : D) => D.tup [x, x]) (fun _ => D.bl true)]
    · simp [all_true]
    · intro x h
      exact ⟨_, rfl, by simp [hx x h]⟩
  | 0, .tup xs, st, h => by cases h
  | 0, .non, st, h => by cases h
  | 0, .bl _, st, h => by cases h
  | 0, .str _, st, h => by cases h
  | 0, .lst _, st, h => by cases h
  | 0, .dct _ _, st, h => by cases h
  | 0, .set _, st, h => by cases h
  | 0, .fam _ _, st, h => by cases h
  | 0, .ref _, st, h => by cases h
  | 0, .cls _, st, h => by cases h
  | 0, .own _, st, h => by cases h
  | 0, .scr _, st, h => by cases h
  | k + 1, .non, st, h => by cases h
  | k + 1, .bl _, st, h => by cases h
  | k + 1, .str _, st, h => by cases h
  | k + 1, .lst _, st, h => by cases h
  | k + 1, .dct _ _, st, h => by cases h
  | k + 1, .set _, st, h => by cases h
  | k + 1, .fam _ _, st, h => by cases h
  | k + 1, .ref _, st, h => by cases h
  | k + 1, .cls _, st, h => by cases h
  | k + 1, .own _, st, h => by cases h
  | k + 1, .scr _, st, h => by cases h
theorem flat_lot (k n m : Nat) : flat (k + 1) (lotM n m) = true := by
  show ((lotI n m).map D.int).all (flat k) = true
  simp [flat]
theorem flat_fam (k n : Nat) (ms : List Nat) : flat (k + 2) (famT n ms) = true := by
  show (ms.map (lotM n)).all (flat (k + 1)) = true
  simp [flat_lot]
end Sm.Pr
/-! ## MathF -/
/-! Plain laws, part F: all lots, drawn families. -/
namespace Sm.Pr
open PySem Sm
theorem lot_snoc : ∀ n, n < 7 → ∀ p, p < n → ∀ m, m < 2 ^ p → bits n (2 ^ p + m) = bits n m ++ [p] := by decide +kernel
theorem lot_xor : ∀ n, n < 7 → ∀ a, a < 2 ^ n → ∀ b, b < 2 ^ n → ((bits n a ++ bits n b).filter fun i => (bits n a).contains i != (bits n b).contains i).isPerm (bits n (a ^^^ b)) = true := by decide +kernel
theorem bits_asc : ∀ n, n < 7 → ∀ m, m < 2 ^ n → (bits n m).Pairwise (· ≤ ·) := by decide +kernel
theorem xor_lt {n a b : Nat} (ha : a < 2 ^ n) (hb : b < 2 ^ n) : a ^^^ b < 2 ^ n := Nat.xor_lt_two_pow ha hb
theorem sorted_nats (l : List Nat) (hl : l.length ≤ 1000) {r : List Nat} (hp : l.Perm r) (hr : r.Pairwise (· ≤ ·)) (st : Store) : F.sorted st [.lst (l.map fun (i : Nat) => .int (i : Int))] = some (.lst (r.map fun (i : Nat) => .int (i : Int))) := by
  have ok : F.SortOk (l.map fun (i : Nat) => D.int (i : Int)) := by
    refine ⟨by simp [big]; omega, fun d hd => ?_, fun d hd e he => ?_, .inr fun d hd => ?_⟩
    · obtain ⟨x, _, rfl⟩ := List.mem_map.mp hd
      rfl
    · simp only [List.map_map, List.mem_map, Function.comp] at hd he
      obtain ⟨x, _, rfl⟩ := hd
      obtain ⟨y, _, rfl⟩ := he
      rfl
    · simp only [List.map_map, List.mem_map, Function.comp] at hd
      obtain ⟨x, _, rfl⟩ := hd
      exact ⟨by simp [F.toPy], by simp [F.toPy]⟩
  have e : (l.map fun (i : Nat) => D.int (i : Int)).mergeSort F.leD = (l.mergeSort fun a b => decide (a ≤ b)).map fun (i : Nat) => D.int (i : Int) := by
    rw [List.map_mergeSort]
    intro a _ b _
    unfold F.leD
    simp [F.toPy, PySem.W.dataLt_int]
    rw [Bool.eq_iff_iff]
    simp
  have s : (l.mergeSort fun a b => decide (a ≤ b)) = r := by
    refine List.Perm.eq_of_pairwise (le := (· ≤ ·)) (fun a b _ _ h h' => Nat.le_antisymm h h') ?_ hr ((List.mergeSort_perm _ _).trans hp)
    refine (List.pairwise_mergeSort (le := fun (a b : Nat) => decide (a ≤ b)) (fun a b c h h' => ?_) (fun a b => ?_) l).imp fun h => by simpa using h
    · simp at *; omega
    · simp; omega
  rw [sorted_run rfl ok, e, s]
theorem in_lot {n m : Nat} (i : Nat) (st : Store) : F.in_ st (.int i) (lotM n m) = some (.bl ((bits n m).contains i)) := by
  rw [lotM_items]
  have h1 : ((bits n m).map fun (i : Nat) => D.int (i : Int)).all (F.dat F.deep) = true := by
    simp [dat_int]
  have h2 : ∀ l : List Nat, (l.map fun (i : Nat) => D.int (i : Int)).any (fun y => F.eqD y (.int i)) = l.contains i := by
    intro l
    induction l with
    | nil => rfl
    | cons x l ih =>
      rw [List.map_cons, List.any_cons, ih, List.contains_cons]
      congr 1
      simp [F.eqD, F.toPy, PyData.eqv]
      rw [Bool.eq_iff_iff]
      simp
      omega
  simp only [F.in_, F.dctOf, F.seq, dat_int, h1, and_self, if_true, h2]
theorem law_apart_ok {n a b : Nat} (hn : n ≤ 6) (ha : a < 2 ^ n) (hb : b < 2 ^ n) (st : Store) : F__law_apart [lotM n a, lotM n b] st = some (lotM n (a ^^^ b), st) := by
  refine fnA_ret (ρ' := [some (lotM n a), some (lotM n b), none]) rfl ?_
  have hadd : F.add st (lotM n a) (lotM n b) = some (.tup ((bits n a ++ bits n b).map fun (i : Nat) => .int (i : Int))) := by
    have l1 : (bits n a).length ≤ 6 := Nat.le_trans (List.length_filter_le _ _) (by simpa using hn)
    have l2 : (bits n b).length ≤ 6 := Nat.le_trans (List.length_filter_le _ _) (by simpa using hn)
    have : (bits n a).length + (bits n b).length ≤ big := by unfold big; omega
    rw [lotM_items, lotM_items]
    simp [F.add, this]
  have hx := List.isPerm_iff.mp (lot_xor n (by omega) a ha b hb)
  have hlen : ((bits n a ++ bits n b).filter fun i => (bits n a).contains i != (bits n b).contains i).length ≤ 1000 := by
    have l1 : (bits n a).length ≤ 6 := Nat.le_trans (List.length_filter_le _ _) (by simpa using hn)
    have l2 : (bits n b).length ≤ 6 := Nat.le_trans (List.length_filter_le _ _) (by simpa using hn)
    refine Nat.le_trans (List.length_filter_le _ _) ?_
    rw [List.length_append]; omega
  simp [m__law_apart, hadd, I.allF]
  rw [← List.map_append, compL_pure (fun (i : Nat) => D.int (i : Int)) (fun i => (bits n a).contains i != (bits n b).contains i) (fun i => D.int (i : Int))]
  · rw [Option.map_some, Option.bind_some, Option.bind_some]
    simp only [sorted_nats _ hlen hx (bits_asc n (by omega) _ (xor_lt ha hb))]
    rw [lotM_items n (a ^^^ b)]
    rfl
  · intro i hi
    refine ⟨_, rfl, ?_, fun _ => by simp⟩
    simp [in_lot, ne_bl]
    cases decide (i ∈ bits n a) <;> cases decide (i ∈ bits n b) <;> rfl
/-! ### all lots -/
def pairM (n m : Nat) : D := .tup [.int ((bits n m).length : Int), lotM n m]
theorem law_lots_ok {n : Nat} (pos : 1 ≤ n) (hn : n ≤ 6) (st : Store) : ∃ es : List Nat, es.Perm (List.range (2 ^ n)) ∧ F__law_lots [.int n] st = some (.lst (es.map (lotM n)), st) := by
  have hl : -I.lim ≤ (n : Int) ∧ (n : Int) ≤ I.lim := by unfold I.lim; omega
  have loop := loop_inv (g := G.name 2) (b := b__law_lots_1) (fun (p : Nat) => D.int (p : Int)) (fun done ρ s => s = st ∧ ∃ o3 o4 o5, ρ = [some (.int n), some (.lst ((List.range (2 ^ done.length)).map (lotM n))), o3, o4, o5]) (List.range n)
    (fun done p ρ s hd hI => by
      obtain ⟨r, hr⟩ := hd
      obtain ⟨rfl, o3, o4, o5, rfl⟩ := hI
      have hpn : p = done.length ∧ p < n := by
        have e1 : (List.range n)[done.length]? = some p := by rw [hr]; simp
        obtain ⟨h1, h2⟩ := List.getElem?_eq_some_iff.mp e1
        simp at h1 h2
        omega
      obtain ⟨rfl, hpn⟩ := hpn
      have h64 : 2 ^ done.length ≤ 2 ^ 6 := Nat.pow_le_pow_right (by decide) (by omega)
      refine ⟨_, .nx, [some (.int n), some (.lst ((List.range (2 ^ (done ++ [done.length]).length)).map (lotM n))), some (.int (done.length : Nat)), o4, o5], s, rfl, ?_, .inl rfl, rfl, some (.int (done.length : Nat)), o4, o5, rfl⟩
      · have hadd : ∀ m, m < 2 ^ done.length → F.add s (lotM n m) (.tup [.int (done.length : Nat)]) = some (lotM n (2 ^ done.length + m)) := by
          intro m hm
          have l1 : (bits n m).length ≤ 6 := Nat.le_trans (List.length_filter_le _ _) (by simpa using hn)
          have : (bits n m).length + 1 ≤ big := by unfold big; omega
          rw [lotM_items, lotM_items, lot_snoc n (by omega) done.length hpn m hm]
          simp [F.add, this]
        simp [b__law_lots_1, I.allF]
        rw [compL_map (lotM n) (fun m => lotM n (2 ^ done.length + m))]
        · have hb : 2 ^ done.length + 2 ^ done.length ≤ big := by unfold big; omega
          simp [F.add, F.lstOf, hb]
          rw [show 2 ^ (done.length + 1) = 2 ^ done.length + 2 ^ done.length by rw [Nat.pow_succ]; omega, List.range_add, List.map_append, List.map_map]
          rfl
        · intro m hm
          exact ⟨_, rfl, by simp [hadd m (List.mem_range.mp hm)]⟩) (List.range n) [] [some (.int n), some (.lst ((List.range 1).map (lotM n))), none, none, none] st rfl ⟨rfl, none, none, none, rfl⟩
  obtain ⟨ρ', st', h1, rfl, o3, o4, o5, rfl⟩ := loop
  rw [List.length_range] at h1
  let le : Nat → Nat → Bool := fun a b => F.leD (pairM n a) (pairM n b)
  refine ⟨(List.range (2 ^ n)).mergeSort le, List.mergeSort_perm _ _, ?_⟩
  have h64 : 2 ^ n ≤ 2 ^ 6 := Nat.pow_le_pow_right (by decide) hn
  have ok : F.SortOk ((List.range (2 ^ n)).map (pairM n)) := by
    refine ⟨by simp [big]; omega, fun d hd => ?_, fun d hd e he => ?_, .inl fun d hd => ?_⟩
    · obtain ⟨x, _, rfl⟩ := List.mem_map.mp hd
      show ([D.int ((bits n x).length : Int), lotM n x].all (F.dat 11)) = true
      simp [dat_int, lotM, dat_tupI]
    · simp only [List.map_map, List.mem_map, Function.comp] at hd he
      obtain ⟨x, _, rfl⟩ := hd
      obtain ⟨y, _, rfl⟩ := he
      have := alike_tupI (lotI n x) (lotI n y)
      simp [pairM, F.toPy, F.toPys, PySem.W.alike, PySem.W.alikeAll, lotM, this]
    · simp only [List.map_map, List.mem_map, Function.comp] at hd
      obtain ⟨x, _, rfl⟩ := hd
      exact ⟨_, by simp [pairM, F.toPy]; rfl⟩
  have e : ((List.range (2 ^ n)).map (pairM n)).mergeSort F.leD = ((List.range (2 ^ n)).mergeSort le).map (pairM n) := by
    rw [List.map_mergeSort]
    intro a _ b _
    rfl
  refine fnA_ret (ρ' := [some (.int n), some (.lst ((List.range (2 ^ n)).map (lotM n))), o3, o4, o5]) rfl ?_
  have h0 : D.tup [] = lotM n 0 := by
    have : bits n 0 = [] := by simp [bits]
    rw [lotM_items, this]; rfl
  have h1' : S.loop (G.name 2) b__law_lots_1 ((List.range n).map fun (p : Nat) => D.int (p : Int)) [some (.int n), some (.lst [lotM n 0]), none, none, none] st' = some (.nx, [some (.int n), some (.lst ((List.range (2 ^ n)).map (lotM n))), o3, o4, o5], st') := h1
  simp [m__law_lots, h0, hl, range_D, h1', I.allF]
  rw [compL_map (lotM n) (pairM n)]
  · rw [Option.map_some, Option.bind_some, Option.bind_some]
    simp only [sorted_run (d := .lst ((List.range (2 ^ n)).map (pairM n))) rfl ok, e]
    simp
    rw [compL_map (pairM n) (lotM n)]
    intro m hm
    exact ⟨_, rfl, by simp⟩
  · intro m hm
    refine ⟨_, rfl, ?_⟩
    have : F.len st' [lotM n m] = some (.int ((bits n m).length : Int)) := by
      rw [lotM_items]
      simp [F.len, F.seq]
    simp [this, pairM]
end Sm.Pr
/-! ## MathG -/
/-! Plain laws, part G: drawn families. -/
namespace Sm.Pr
open PySem Sm
/-- the hand stands at h; the store is as it was but for that place -/
def HF (st0 : Store) (h : Nat) (st : Store) : Prop := Hand h st ∧ ∃ cc, st = st0.set h cc
theorem HF.next {st0 st : Store} {h : Nat} {cc : Cell} (H : HF st0 h st) (hd : Hand h (st.set h cc)) : HF st0 h (st.set h cc) := by
  obtain ⟨_, c0, rfl⟩ := H
  exact ⟨hd, cc, by rw [List.set_set]⟩
theorem HF.start {st : Store} {h : Nat} (H : Hand h st) : HF st h st := by
  obtain ⟨cells, i, g, x, c, e, ok⟩ := id H
  refine ⟨H, handC cells i g x c, ?_⟩
  apply List.ext_getElem?
  intro j
  by_cases hj : j = h
  · subst hj; rw [setget e, e]
  · rw [List.getElem?_set_ne (Ne.symm hj)]
theorem HF.draw {st0 st : Store} {h : Nat} (H : HF st0 h st) {k : Nat} (k1 : 1 ≤ k) (k2 : k ≤ 1000) : ∃ (r : Nat) (st' : Store), F__law_draw [.ref h, .int k] st = some (.int r, st') ∧ r < k ∧ HF st0 h st' := by
  obtain ⟨r, cc, h1, h2, h3⟩ := draw_ok H.1 k1 k2
  exact ⟨r, _, h1, h2, H.next h3⟩
theorem HF.pick {st0 st : Store} {h : Nat} (H : HF st0 h st) {ms : List D} (hne : ms ≠ []) (hl : ms.length ≤ 1000) : ∃ (d : D) (st' : Store), F__law_some [.ref h, .lst ms] st = some (d, st') ∧ d ∈ ms ∧ HF st0 h st' := by
  obtain ⟨d, cc, h1, h2, h3⟩ := some_ok H.1 hne hl
  exact ⟨d, _, h1, h2, H.next h3⟩
/-- a comprehension whose parts change the store, an invariant kept -/
theorem compL_inv {α β : Type} {g : MG} {t : MT} {m : ME} {ρ : Ev} (inj : α → D) (f : β → D) (P : β → Prop) (Inv : Store → Prop) : ∀ (l : List α) (st : Store),
    (∀ x ∈ l, ∀ st, Inv st → ∃ ρ1 b st1, g (inj x) ρ = some ρ1 ∧ t ρ1 st = some (b, st1) ∧ Inv st1 ∧ (b = true → ∃ y st2, m ρ1 st1 = some (f y, st2) ∧ P y ∧ Inv st2)) → Inv st →
    ∃ (ys : List β) (st' : Store), E.compL g t m ρ (l.map inj) st = some (ys.map f, st') ∧ (∀ y ∈ ys, P y) ∧ Inv st' ∧ ys.length ≤ l.length
  | [], st, _, i => ⟨[], st, rfl, by simp, i, Nat.le_refl _⟩
  | x :: l, st, h, i => by
    obtain ⟨ρ1, b, st1, h1, h2, i1, h3⟩ := h x List.mem_cons_self st i
    have hl := fun y hy => h y (List.mem_cons_of_mem _ hy)
    cases b with
    | true =>
      obtain ⟨y, st2, h4, py, i2⟩ := h3 rfl
      obtain ⟨ys, st', h5, h6, i3, hlen⟩ := compL_inv inj f P Inv l st2 hl i2
      refine ⟨y :: ys, st', ?_, fun z hz => ?_, i3, by simp; exact hlen⟩
      · show (g (inj x) ρ).bind _ = _
        rw [h1]
        show (t ρ1 st).bind _ = _
        rw [h2]
        show ((m ρ1 st1).bind fun q => (E.compL g t m ρ (l.map inj) q.2).map fun r => (q.1 :: r.1, r.2)) = _
        rw [h4]
        show (E.compL g t m ρ (l.map inj) st2).map _ = _
        rw [h5]; rfl
      · rcases List.mem_cons.mp hz with e | hz
        · rw [e]; exact py
        · exact h6 z hz
    | false =>
      obtain ⟨ys, st', h5, h6, i3, hlen⟩ := compL_inv inj f P Inv l st1 hl i1
      refine ⟨ys, st', ?_, h6, i3, by simp; omega⟩
      show (g (inj x) ρ).bind _ = _
      rw [h1]
      show (t ρ1 st).bind _ = _
      rw [h2]
      exact h5
/-! ### sorted(set(lots)) -/
theorem intsL_lots (n : Nat) : ∀ ks : List Nat, F.intsL (ks.map (lotM n)) = some (ks.map (lotI n))
  | [] => rfl
  | k :: ks => by
    rw [List.map_cons, F.intsL, intsL_lots n ks]
    have : F.ints1 (lotM n k) = some (lotI n k) := by
      show F.intL ((lotI n k).map D.int) = _
      have := ints_of (fun i : Int => i) (lotI n k)
      simpa using this
    rw [this]
    rfl
theorem sortSet_lots {n : Nat} {ks : List Nat} (pos : 1 ≤ n) (few : n ≤ 6) (lt : ∀ m ∈ ks, m < 2 ^ n) (hl : ks.length < 64) (st : Store) : F.sortSet st (.lst (ks.map (lotM n))) = some (.lst ((sortM n (once ks)).map (lotM n))) := by
  have e : sortI (ks.map (lotI n)) = (sortM n (once ks)).map (lotI n) := by
    symm
    refine sortI_eq ?_ ?_ fun x => ?_
    · refine nodup_map ((sortM_perm n _).nodup_iff.mpr (nodup_once ks)) fun a ha b hb e => ?_
      have ha' := mem_once.mp (sortM_mem.mp ha)
      have hb' := mem_once.mp (sortM_mem.mp hb)
      exact lot_inj few (lt a ha') (lt b hb') e
    · exact List.pairwise_map.mpr (sortM_sorted n _)
    · simp [sortM_mem, mem_once]
  simp only [F.sortSet, F.lstOf, Option.bind_some, intsL_lots, List.length_map, if_pos hl, e, List.map_map]
  rfl
theorem Fam.once {n : Nat} {ks : List Nat} (pos : 1 ≤ n) (few : n ≤ 6) (lt : ∀ m ∈ ks, m < 2 ^ n) (ne : ks ≠ []) : Fam n (sortM n (Sm.once ks)) := by
  refine Fam.of pos few (fun m hm => lt m (mem_once.mp hm)) (nodup_once ks) fun e => ?_
  cases ks with
  | nil => exact ne rfl
  | cons k r =>
    have : k ∈ Sm.once (k :: r) := mem_once.mpr List.mem_cons_self
    rw [e] at this
    cases this
theorem cut3 {α : Type} (f : α → D) (xs : List α) (k : Nat) : F.cut (xs.map f) none (some (k : Int)) = (xs.take k).map f := by
  unfold F.cut
  have h1 : HT.sIx (xs.map f).length 0 none = 0 := rfl
  rw [h1, HT.sIx_nat, List.length_map, Nat.sub_zero, List.drop_zero, ← List.map_take]
  congr 1
  rw [List.take_eq_take_iff]
  omega
end Sm.Pr
/-! ## MathH -/
/-! Plain laws, part H: a drawn family. -/
namespace Sm.Pr
open PySem Sm
section
variable {st0 st : Store} {h most n way often : Nat} {es ks : List Nat}
/-- the frame of _law_family -/
def fe (h most n way often : Nat) (es ks : List Nat) : Ev := [some (.ref h), some (.int most), some (.int n), some (.int way), some (.lst (es.map (lotM n))), some (.int often), some (.lst (ks.map (lotM n))), none, none, none]
@[simp] theorem gt_6 {o p q x y z : Option D} {r : Ev} : gt (o :: p :: q :: x :: y :: z :: r) 6 = gt r 0 := rfl
@[simp] theorem gt_7 {o p q x y z a : Option D} {r : Ev} : gt (o :: p :: q :: x :: y :: z :: a :: r) 7 = gt r 0 := rfl
@[simp] theorem gt_8 {o p q x y z a b : Option D} {r : Ev} : gt (o :: p :: q :: x :: y :: z :: a :: b :: r) 8 = gt r 0 := rfl
@[simp] theorem gt_9 {o p q x y z a b c : Option D} {r : Ev} : gt (o :: p :: q :: x :: y :: z :: a :: b :: c :: r) 9 = gt r 0 := rfl
@[simp] theorem set_6 {o p q x y z a v : Option D} {r : Ev} : List.set (o :: p :: q :: x :: y :: z :: a :: r) 6 v = o :: p :: q :: x :: y :: z :: v :: r := rfl
@[simp] theorem set_7 {o p q x y z a b v : Option D} {r : Ev} : List.set (o :: p :: q :: x :: y :: z :: a :: b :: r) 7 v = o :: p :: q :: x :: y :: z :: a :: v :: r := rfl
@[simp] theorem set_8 {o p q x y z a b c v : Option D} {r : Ev} : List.set (o :: p :: q :: x :: y :: z :: a :: b :: c :: r) 8 v = o :: p :: q :: x :: y :: z :: a :: b :: v :: r := rfl
@[simp] theorem set_9 {o p q x y z a b c d v : Option D} {r : Ev} : List.set (o :: p :: q :: x :: y :: z :: a :: b :: c :: d :: r) 9 v = o :: p :: q :: x :: y :: z :: a :: b :: c :: v :: r := rfl
theorem fam_t1 (H : HF st0 h st) (m1 : 1 ≤ most) (m2 : most ≤ 6) : ∃ (n way : Nat) (st' : Store), t__law_family_1 [some (.ref h), some (.int most), none, none, none, none, none, none, none, none] st = some (.nx, [some (.ref h), some (.int most), some (.int (n : Nat)), some (.int (way : Nat)), none, none, none, none, none, none], st') ∧ 1 ≤ n ∧ n ≤ most ∧ HF st0 h st' := by
  obtain ⟨r1, s1, e1, l1, H1⟩ := H.draw m1 (by omega)
  obtain ⟨r2, s2, e2, l2, H2⟩ := H1.draw (k := 4) (by decide) (by decide)
  refine ⟨1 + r1, r2, s2, ?_, by omega, by omega, H2⟩
  have e2' : F__law_draw [.ref h, .int 4] s1 = some (.int r2, s2) := e2
  simp [t__law_family_1, e1, F.add, e2']
theorem fam_t2 (H : HF st0 h st) (n1 : 1 ≤ n) (n2 : n ≤ 6) : ∃ (es : List Nat) (often : Nat) (st' : Store), t__law_family_2 [some (.ref h), some (.int most), some (.int n), some (.int way), none, none, none, none, none, none] st = some (.nx, [some (.ref h), some (.int most), some (.int n), some (.int way), some (.lst (es.map (lotM n))), some (.int (often : Nat)), none, none, none, none], st') ∧ es.Perm (List.range (2 ^ n)) ∧ 2 ≤ often ∧ often ≤ 5 ∧ HF st0 h st' := by
  obtain ⟨es, hp, e0⟩ := law_lots_ok n1 n2 st
  obtain ⟨r, s1, e1, l1, H1⟩ := H.draw (k := 4) (by decide) (by decide)
  refine ⟨es, 2 + r, s1, ?_, hp, by omega, by omega, H1⟩
  have e1' : F__law_draw [.ref h, .int 4] st = some (.int r, s1) := e1
  simp [t__law_family_2, e0, F.add, e1']
theorem fam_t3 (H : HF st0 h st) (n2 : n ≤ 6) (hp : es.Perm (List.range (2 ^ n))) (o1 : 2 ≤ often) (o2 : often ≤ 5) : ∃ (ks : List Nat) (st' : Store), t__law_family_3 [some (.ref h), some (.int most), some (.int n), some (.int way), some (.lst (es.map (lotM n))), some (.int often), none, none, none, none] st = some (.nx, fe h most n way often es ks, st') ∧ (∀ k ∈ ks, k < 2 ^ n) ∧ ks.length ≤ 2 ^ n ∧ HF st0 h st' := by
  obtain ⟨ks, s1, e1, h1, h2, h3⟩ := compL_inv (g := G.name 7) (t := E.tv (E.op2 F.eq0 (E.call F__law_draw (E.consA (E.var 0) (E.consA (E.var 5) E.nilA))) (E.c (.int 0)))) (m := E.var 7) (ρ := [some (.ref h), some (.int most), some (.int n), some (.int way), some (.lst (es.map (lotM n))), some (.int often), none, none, none, none])
    (lotM n) (lotM n) (fun k => k < 2 ^ n) (HF st0 h) es st (fun x hx s Hs => by
      obtain ⟨r, s1, e1, l1, H1⟩ := Hs.draw (k := often) (by omega) (by omega)
      have hx' : x < 2 ^ n := List.mem_range.mp (hp.mem_iff.mp hx)
      exact ⟨_, decide ((r : Int) = 0), s1, rfl, by simp [e1, eq_int], H1, fun _ => ⟨x, s1, by simp, hx', H1⟩⟩) H
  refine ⟨ks, s1, ?_, h1, ?_, h2⟩
  · simp [t__law_family_3, I.allF, e1, fe]
  · rw [hp.length_eq, List.length_range] at h3; exact h3
theorem slice_lst (xs : List D) (lo hi : Option Int) (st : Store) : F.slice st (.lst xs) lo hi = some (.lst (F.cut xs lo hi)) := rfl
theorem fam_t4 (hk : ∀ k ∈ ks, k < 2 ^ n) (hl : ks.length ≤ 2 ^ n) : ∃ ks' : List Nat, t__law_family_4 (fe h most n way often es ks) st = some (.nx, fe h most n way often es ks', st) ∧ (∀ k ∈ ks', k < 2 ^ n) ∧ ks'.length ≤ 2 ^ n := by
  by_cases hw : (way : Int) = 0
  · refine ⟨ks.take 3, ?_, fun k hk' => hk k (List.mem_of_mem_take hk'), (by rw [List.length_take]; omega)⟩
    have := cut3 (lotM n) ks 3
    have c3 : F.cut (ks.map (lotM n)) none (some 3) = (ks.take 3).map (lotM n) := this
    simp [t__law_family_4, fe, eq_int, hw, slice_lst, c3]
  · refine ⟨ks, ?_, hk, hl⟩
    have hw' : way ≠ 0 := by omega
    simp [t__law_family_4, fe, eq_int, hw, hw']
theorem any_lst {α : Type} (p : α → Bool) (l : List α) (st : Store) : F.any_ st [.lst (l.map fun x => .bl (p x))] = some (.bl (l.any p)) := by
  show ((some (l.map fun x => D.bl (p x))).bind F.bools).map _ = _
  rw [Option.bind_some, bools_all]
  simp [List.any_map, Function.comp]
def subB (n e k : Nat) : Bool := (bits n e).all fun i => (bits n k).contains i
def anyB (n : Nat) (ks : List Nat) (e : Nat) : Bool := ks.any (subB n e)
theorem fam_t5 (n2 : n ≤ 6) (hp : es.Perm (List.range (2 ^ n))) (hk : ∀ k ∈ ks, k < 2 ^ n) (hl : ks.length ≤ 2 ^ n) : ∃ ks' : List Nat, t__law_family_5 (fe h most n way often es ks) st = some (.nx, fe h most n way often es ks', st) ∧ (∀ k ∈ ks', k < 2 ^ n) ∧ ks'.length ≤ 2 ^ n := by
  by_cases hw : (way : Int) = 1
  · refine ⟨es.filter (anyB n ks), ?_, fun k hk' => List.mem_range.mp (hp.mem_iff.mp (List.mem_filter.mp hk').1), ?_⟩
    · simp [t__law_family_5, fe, eq_int, hw, I.allF]
      rw [compL_pure (lotM n) (anyB n ks) (lotM n)]
      · intro e he
        refine ⟨_, rfl, ?_, fun _ => by simp⟩
        simp [I.allF]
        rw [compL_map (lotM n) (fun k => D.bl (subB n e k))]
        · rw [Option.map_some, Option.bind_some, Option.bind_some]
          simp only [any_lst (subB n e)]
          rfl
        · intro k hk
          refine ⟨_, rfl, ?_⟩
          rw [lotM_items n e]
          simp [I.allF]
          rw [compL_map (fun (i : Nat) => D.int (i : Int)) (fun i => D.bl ((bits n k).contains i))]
          · rw [Option.map_some, Option.bind_some, Option.bind_some]
            simp only [all_lst fun i => (bits n k).contains i]
            rfl
          · intro i hi
            exact ⟨_, rfl, by simp only [v_op2, v_var, set_9, gt_0, gt_8, gt_9, Option.map_some, Option.bind_some, in_lot]⟩
    · refine Nat.le_trans (List.length_filter_le _ _) ?_
      rw [hp.length_eq, List.length_range]; exact Nat.le_refl _
  · refine ⟨ks, ?_, hk, hl⟩
    have hw' : way ≠ 1 := by omega
    simp [t__law_family_5, fe, eq_int, hw, hw']
theorem fam_t6 (H : HF st0 h st) (n1 : 1 ≤ n) (n2 : n ≤ 6) (hp : es.Perm (List.range (2 ^ n))) (hk : ∀ k ∈ ks, k < 2 ^ n) (hl : ks.length ≤ 2 ^ n) : ∃ (ks' : List Nat) (st' : Store), t__law_family_6 (fe h most n way often es ks) st = some (.nx, fe h most n way often es ks', st') ∧ (∀ k ∈ ks', k < 2 ^ n) ∧ ks'.length ≤ 2 ^ n ∧ HF st0 h st' := by
  have h64 : 2 ^ n ≤ 2 ^ 6 := Nat.pow_le_pow_right (by decide) n2
  by_cases hw : (way : Int) = 1
  · obtain ⟨r, s1, e1, l1, H1⟩ := H.draw (k := 2) (by decide) (by decide)
    have e1' : F__law_draw [.ref h, .int 2] st = some (.int r, s1) := e1
    by_cases hr : (r : Int) = 0
    · have hel : es.length = 2 ^ n := by rw [hp.length_eq, List.length_range]
      obtain ⟨ys, s2, e2, h2, H2, l2⟩ := compL_inv (g := G.name 7) (t := E.yes) (m := E.call F__law_apart (E.consA (E.var 7) (E.consA (E.op2 F.ix (E.var 4) (E.call F__law_draw (E.consA (E.var 0) (E.consA (E.fn F.len (E.consA (E.var 4) E.nilA)) E.nilA)))) E.nilA)))
        (ρ := fe h most n way often es ks) (lotM n) (lotM n) (fun k => k < 2 ^ n) (HF st0 h) (ks.take 1) s1 (fun x hx s Hs => by
          have hx' := hk x (List.mem_of_mem_take hx)
          obtain ⟨q, s3, e3, l3, H3⟩ := Hs.draw (k := es.length) (by rw [hel]; exact Nat.one_le_two_pow) (by omega)
          have hq : q < es.length := l3
          have hy : es[q] < 2 ^ n := List.mem_range.mp (hp.mem_iff.mp (List.getElem_mem hq))
          refine ⟨_, true, s, rfl, rfl, Hs, fun _ => ⟨x ^^^ es[q], s3, ?_, xor_lt hx' hy, H3⟩⟩
          have hix : F.ix s3 (.lst (es.map (lotM n))) (.int q) = some (lotM n es[q]) := by
            simp [F.ix, F.dctOf, F.seq, L2.atI, L2.ixN, hq]
          simp [fe, F.len, F.seq, e3, hix, law_apart_ok n2 hx' hy]) H1
      refine ⟨ys ++ ks.drop 1, s2, ?_, fun k hk' => ?_, ?_, H2⟩
      · have c1 : F.cut (ks.map (lotM n)) none (some 1) = (ks.map (lotM n)).take 1 := by rw [← List.map_take]; exact cut3 (lotM n) ks 1
        have hb : (ys.length + (ks.length - 1)) ≤ big := by
          have := Nat.le_trans l2 (List.length_take_le 1 ks)
          unfold big; omega
        have e2' : E.compL (G.name 7) E.yes (E.call F__law_apart (E.consA (E.var 7) (E.consA (E.op2 F.ix (E.var 4) (E.call F__law_draw (E.consA (E.var 0) (E.consA (E.fn F.len (E.consA (E.var 4) E.nilA)) E.nilA)))) E.nilA))) [some (.ref h), some (.int most), some (.int n), some (.int 1), some (.lst (es.map (lotM n))), some (.int often), some (.lst (ks.map (lotM n))), none, none, none] ((ks.map (lotM n)).take 1) s1 = some (ys.map (lotM n), s2) := by
          rw [← hw, ← List.map_take]; exact e2
        simp [t__law_family_6, b__law_family_1, fe, eq_int, hw, e1', hr, slice_lst, c1, I.allF, e2', cut1, F.add, F.lstOf, hb, ← List.map_tail]
      · rcases List.mem_append.mp hk' with q | q
        · exact h2 k q
        · exact hk k (List.mem_of_mem_drop q)
      · have h1 := List.length_take_le' 1 ks
        rw [List.length_append, List.length_drop]
        rw [List.length_take] at l2
        omega
    · refine ⟨ks, s1, ?_, hk, hl, H1⟩
      have hr' : r ≠ 0 := by omega
      simp [t__law_family_6, b__law_family_1, fe, eq_int, hw, e1', hr, hr']
  · refine ⟨ks, st, ?_, hk, hl, H⟩
    have hw' : way ≠ 1 := by omega
    simp [t__law_family_6, b__law_family_1, fe, eq_int, hw, hw']
theorem fam_t7 (H : HF st0 h st) (n2 : n ≤ 6) (hp : es.Perm (List.range (2 ^ n))) (hk : ∀ k ∈ ks, k < 2 ^ n) (hl : ks.length ≤ 2 ^ n) : ∃ (ks' : List Nat) (st' : Store), t__law_family_7 (fe h most n way often es ks) st = some (.nx, fe h most n way often es ks', st') ∧ (∀ k ∈ ks', k < 2 ^ n) ∧ ks'.length ≤ 2 ^ n ∧ ks' ≠ [] ∧ HF st0 h st' := by
  have h64 : 2 ^ n ≤ 2 ^ 6 := Nat.pow_le_pow_right (by decide) n2
  have hp1 : 1 ≤ 2 ^ n := Nat.one_le_two_pow
  have hlen : F.len st [.lst (ks.map (lotM n))] = some (.int ks.length) := by simp [F.len, F.seq]
  by_cases hz : ks = []
  · subst hz
    have hel : es.length = 2 ^ n := by rw [hp.length_eq, List.length_range]
    have hne : es.map (lotM n) ≠ [] := by
      intro e
      have := congrArg List.length e
      rw [List.length_map, hel] at this
      simp at this
    obtain ⟨d, s1, e1, hd, H1⟩ := H.pick hne (by rw [List.length_map, hel]; omega)
    obtain ⟨k, hk', rfl⟩ := List.mem_map.mp hd
    refine ⟨[k], s1, ?_, fun x hx => by rw [List.mem_singleton.mp hx]; exact List.mem_range.mp (hp.mem_iff.mp hk'), by simp; omega, by simp, H1⟩
    simp [t__law_family_7, fe, F.len, F.seq, eq_int, e1]
  · refine ⟨ks, st, ?_, hk, hl, hz, H⟩
    have hz' : (ks.length : Int) ≠ 0 := by
      have : ks.length ≠ 0 := fun e => hz (List.eq_nil_of_length_eq_zero e)
      omega
    simp [t__law_family_7, fe, hlen, eq_int, hz', hz]
/-- a drawn family is one -/
theorem law_family_ok (H : HF st0 h st) (m1 : 1 ≤ most) (m2 : most ≤ 5) : ∃ (n : Nat) (ms : List Nat) (st' : Store), F__law_family [.ref h, .int most] st = some (.tup [.int n, famT n ms], st') ∧ Fam n ms ∧ n ≤ most ∧ HF st0 h st' := by
  obtain ⟨n, way, s1, e1, n1, n2, H1⟩ := fam_t1 H m1 (by omega)
  obtain ⟨es, often, s2, e2, hp, o1, o2, H2⟩ := fam_t2 (most := most) (way := way) H1 n1 (by omega)
  obtain ⟨k3, s3, e3, q3, l3, H3⟩ := fam_t3 (most := most) (way := way) H2 (by omega) hp o1 o2
  obtain ⟨k4, e4, q4, l4⟩ := fam_t4 (h := h) (st := s3) (most := most) (n := n) (way := way) (often := often) (es := es) q3 l3
  obtain ⟨k5, e5, q5, l5⟩ := fam_t5 (h := h) (st := s3) (most := most) (way := way) (often := often) (by omega) hp q4 l4
  obtain ⟨k6, s6, e6, q6, l6, H6⟩ := fam_t6 (most := most) (way := way) (often := often) H3 n1 (by omega) hp q5 l5
  obtain ⟨k7, s7, e7, q7, l7, ne, H7⟩ := fam_t7 (most := most) (way := way) (often := often) H6 (by omega) hp q6 l6
  have h32 : 2 ^ n ≤ 2 ^ 5 := Nat.pow_le_pow_right (by decide) (by omega)
  refine ⟨n, sortM n (once k7), s7, ?_, Fam.once n1 (by omega) q7 ne, n2, H7⟩
  refine fnA_ret (ρ' := fe h most n way often es k7) rfl ?_
  simp [m__law_family, e1, e2, e3, e4, e5, e6, e7]
  simp [t__law_family_8, fe, sortSet_lots n1 (by omega) q7 (by omega), F.tuple_, F.seq]
  rfl
end
end Sm.Pr
/-! ## MathI -/
/-! Plain laws, part I: families compared; the law's lowering. -/
namespace Sm.Pr
open PySem Sm
theorem eqv_ints : ∀ a b : List Int, PyData.eqvAll (a.map .int) (b.map .int) = decide (a = b)
  | [], [] => by simp [PyData.eqvAll]
  | [], _ :: _ => by simp [PyData.eqvAll]
  | _ :: _, [] => by simp [PyData.eqvAll]
  | x :: a, y :: b => by
    rw [List.map_cons, List.map_cons, PyData.eqvAll, eqv_ints a b]
    simp [PyData.eqv]
    rw [Bool.eq_iff_iff]
    simp
theorem eqv_rows : ∀ a b : List (List Int), PyData.eqvAll (a.map fun l => .tuple (l.map .int)) (b.map fun l => .tuple (l.map .int)) = decide (a = b)
  | [], [] => by simp [PyData.eqvAll]
  | [], _ :: _ => by simp [PyData.eqvAll]
  | _ :: _, [] => by simp [PyData.eqvAll]
  | x :: a, y :: b => by
    rw [List.map_cons, List.map_cons, PyData.eqvAll, eqv_rows a b, PyData.eqv, eqv_ints]
    rw [Bool.eq_iff_iff]
    simp
theorem toPys_map {α : Type} (f : α → D) : ∀ l : List α, F.toPys (l.map f) = l.map fun x => F.toPy (f x)
  | [] => rfl
  | x :: l => by rw [List.map_cons, F.toPys, toPys_map f l]; rfl
theorem toPy_fam (n : Nat) (ms : List Nat) : F.toPy (famT n ms) = .tuple ((ms.map (lotI n)).map fun l => .tuple (l.map .int)) := by
  show F.toPy (.tup (ms.map (lotM n))) = _
  rw [F.toPy, toPys_map, List.map_map]
  congr 1
  apply List.map_congr_left
  intro m _
  exact toPy_tupI _
theorem lots_inj {n : Nat} {ms ks : List Nat} (hn : n ≤ 6) (h : ∀ m ∈ ms, m < 2 ^ n) (h' : ∀ m ∈ ks, m < 2 ^ n) (e : ms.map (lotI n) = ks.map (lotI n)) : ms = ks := by
  induction ms generalizing ks with
  | nil =>
    cases ks with
    | nil => rfl
    | cons k ks => cases e
  | cons m ms ih =>
    cases ks with
    | nil => cases e
    | cons k ks =>
      rw [List.map_cons, List.map_cons] at e
      injection e with e1 e2
      rw [lot_inj hn (h m List.mem_cons_self) (h' k List.mem_cons_self) e1, ih (fun x hx => h x (List.mem_cons_of_mem _ hx)) (fun x hx => h' x (List.mem_cons_of_mem _ hx)) e2]
theorem dat_fam (k n : Nat) (ms : List Nat) : F.dat (k + 2) (famT n ms) = true := by
  show (ms.map (lotM n)).all (F.dat (k + 1)) = true
  simp [lotM, dat_tupI]
theorem eq_family {n : Nat} {ms ks : List Nat} (h : Fam n ms) (h' : Fam n ks) (st : Store) : F_Family___eq__ [.fam n (famT n ms), .fam n (famT n ks)] st = some (.bl (decide (ms = ks)), st) := by
  refine fnA_ret (ρ' := [some (.fam n (famT n ms)), some (.fam n (famT n ks))]) rfl ?_
  have k1 : ¬ (("lots" : Str) = "points") := by decide +kernel
  have hi : F.isiA st [.fam n (famT n ks), .own "Family"] = some (.bl true) := by simp [F.isiA, F.isi1, noT]
  have he : F.eq0 st (.tup [.int n, famT n ms]) (.tup [.int n, famT n ks]) = some (.bl (decide (ms = ks))) := by
    have d : ∀ l : List Nat, F.dat F.deep (.tup [.int n, famT n l]) = true := fun l => by
      show ([D.int n, famT n l].all (F.dat 11)) = true
      simp [dat_int, dat_fam]
    have e : PyData.eqvAll (F.toPys [.int n, famT n ms]) (F.toPys [.int n, famT n ks]) = decide (ms = ks) := by
      simp only [F.toPys, toPy_fam, PyData.eqvAll, PyData.eqv, eqv_rows, F.toPy]
      rw [Bool.eq_iff_iff]
      simp
      exact ⟨lots_inj h.few h.lt h'.lt, fun e => by rw [e]⟩
    simp [F.eq0, d, F.eqD, F.toPy, PyData.eqv, e]
  simp [m_Family___eq__, hi, F.famAttr, k1, he]
theorem eqS_fam {n : Nat} {ms ks : List Nat} (h : Fam n ms) (h' : Fam n ks) (st : Store) : F.eqS F_Family___eq__ st (.fam n (famT n ms)) (.fam n (famT n ks)) = some (.bl (decide (ms = ks)), st) := by
  simp [F.eqS, eq_family h h']
theorem neS_fam {n : Nat} {ms ks : List Nat} (h : Fam n ms) (h' : Fam n ks) (st : Store) : F.neS F_Family___eq__ st (.fam n (famT n ms)) (.fam n (famT n ks)) = some (.bl (!decide (ms = ks)), st) := by
  simp [F.neS, eq_family h h']
/-- the parts of a family, as the law draws them -/
def partsD (n : Nat) (ms : List Nat) : D := .tup [.int n, famT n ms]
theorem ix_parts0 (n : Nat) (ms : List Nat) (st : Store) : F.ix st (partsD n ms) (.int 0) = some (.int n) := rfl
theorem ix_parts1 (n : Nat) (ms : List Nat) (st : Store) : F.ix st (partsD n ms) (.int 1) = some (famT n ms) := rfl
theorem law_made_ok {n : Nat} {ms : List Nat} (h : Fam n ms) (st : Store) : F__law_made [partsD n ms] st = some (.fam n (famT n ms), st) := by
  refine fnA_ret (ρ' := [some (partsD n ms)]) rfl ?_
  simp [m__law_made, ix_parts0, ix_parts1, new_fam h]
/-! ### a dict of the members' lots -/
theorem flatKs_ints : ∀ l : List Int, F.flatKs (l.map .int) = some (l.map Sum.inl)
  | [] => rfl
  | x :: l => by rw [List.map_cons, F.flatKs, flatKs_ints l]; rfl
theorem key_lot (n m : Nat) : F.keyK (lotM n m) = some (.inr ((lotI n m).map Sum.inl)) := by
  show (F.flatKs ((lotI n m).map .int)).map Sum.inr = _
  rw [flatKs_ints]; rfl
theorem key_lot_inj {n a b : Nat} (hn : n ≤ 6) (ha : a < 2 ^ n) (hb : b < 2 ^ n) (e : F.keyK (lotM n a) = F.keyK (lotM n b)) : a = b := by
  rw [key_lot, key_lot] at e
  injection e with e
  injection e with e
  exact lot_inj hn ha hb ((List.map_inj_right (by intro x y h; exact Sum.inl.inj h)).mp e)
def dctL (n : Nat) (ms : List Nat) : D := .dct true (ms.map fun m => (lotM n m, .bl true))
theorem dict_lots {n : Nat} {ms : List Nat} (h : Fam n ms) (st : Store) : F.dictP true st [.lst (ms.map fun m => .tup [lotM n m, .bl true])] = some (dctL n ms) := by
  have pw : ms.Pairwise fun x y => F.keyK (lotM n x) ≠ F.keyK (lotM n y) := List.Pairwise.imp_of_mem (fun {x y} hx hy hxy e => hxy (key_lot_inj h.few (h.lt x hx) (h.lt y hy) e)) h.nd
  have e : F.putAll [] (ms.map fun m => (lotM n m, D.bl true)) = ms.map fun m => (lotM n m, D.bl true) := by
    rw [putAll_new (lotM n) (fun _ => D.bl true) ms [] (by simp) pw]
    simp
  have hb : ms.length ≤ big := Nat.le_trans h.len (by decide)
  simp [F.dictP, F.lstOf, prs_map (lotM n) (fun _ => D.bl true), F.kindOk, key_lot, e, hb, dctL]
theorem in_dctL {n : Nat} {ms : List Nat} (h : Fam n ms) {k : Nat} (hk : k < 2 ^ n) (st : Store) : F.in_ st (lotM n k) (dctL n ms) = some (.bl (decide (k ∈ ms))) := by
  have e : (F.look (ms.map fun m => (lotM n m, D.bl true)) (lotM n k)).isSome = decide (k ∈ ms) := by
    unfold F.look
    rw [Option.isSome_map, Bool.eq_iff_iff, List.find?_isSome, decide_eq_true_eq]
    constructor
    · rintro ⟨q, hq, e⟩
      obtain ⟨x, hx, rfl⟩ := List.mem_map.mp hq
      have : x = k := key_lot_inj h.few (h.lt x hx) hk (by simpa using e)
      exact this ▸ hx
    · intro h
      exact ⟨_, List.mem_map.mpr ⟨k, h, rfl⟩, by simp⟩
  simp only [F.in_, F.dctOf, dctL]
  rw [if_pos (by simp [F.kindOk, key_lot]), e]
theorem all_famT (n : Nat) (ms : List Nat) : I.allF (famT n ms) = some (ms.map (lotM n)) := rfl
theorem lot_clr : ∀ n, n < 7 → ∀ m, m < 2 ^ n → ∀ p, p < n → (bits n m).filter (fun i => i != p) = bits n (clr m p) := by decide +kernel
theorem bits_has {n p : Nat} (hp : p < n) (m : Nat) : (bits n m).contains p = m.testBit p := by
  rw [Bool.eq_iff_iff, List.contains_iff_mem]
  unfold bits
  rw [List.mem_filter, List.mem_range]
  exact ⟨fun h => h.2, fun h => ⟨hp, h⟩⟩
def accL (n : Nat) (ms : List Nat) (p : Nat) (l : List Nat) : List D := (l.map (low ms p)).map (lotM n)
theorem accL_len (n : Nat) (ms : List Nat) (p : Nat) (l : List Nat) : (accL n ms p l).length = l.length := by unfold accL; simp
theorem accL_snoc (n : Nat) (ms : List Nat) (p : Nat) (l : List Nat) (m : Nat) : accL n ms p (l ++ [m]) = accL n ms p l ++ [lotM n (low ms p m)] := by unfold accL; simp
theorem law_lowered_ok {n : Nat} {ms : List Nat} (h : Fam n ms) {p : Nat} (hp : p < n) (st : Store) : F__law_lowered [partsD n ms, .int p] st = some (partsD n (lowF n p ms), st) := by
  have hl := h.len
  have loop := loop_inv (g := G.name 4) (b := b__law_lowered_1) (lotM n) (fun done ρ s => ∃ o4 o5, ρ = [some (partsD n ms), some (.int p), some (dctL n ms), some (.ref st.length), o4, o5, none] ∧ s = st ++ [.lst (accL n ms p done)]) ms
    (fun done m ρ s hd hI => by
      obtain ⟨r, hr⟩ := hd
      obtain ⟨o4, o5, rfl, rfl⟩ := hI
      have hm : m ∈ ms := by rw [hr]; simp
      have hmn := h.lt m hm
      have hcl : clr m p < 2 ^ n := Nat.lt_of_le_of_lt (clr_le m p) hmn
      have hdl : done.length ≤ 64 := by rw [hr] at hl; simp at hl; omega
      refine ⟨_, .nx, [some (partsD n ms), some (.int p), some (dctL n ms), some (.ref st.length), some (lotM n m), some (lotM n (clr m p)), none], st ++ [.lst (accL n ms p (done ++ [m]))], rfl, ?_, .inl rfl, _, _, rfl, rfl⟩
      have hc : E.compL (G.name 6) (E.tv (E.op2 F.ne0 (E.var 6) (E.var 1))) (E.var 6) [some (partsD n ms), some (.int p), some (dctL n ms), some (.ref st.length), some (lotM n m), o5, none] ((bits n m).map fun (i : Nat) => D.int (i : Int)) (st ++ [.lst (accL n ms p done)])
          = some ((bits n (clr m p)).map fun (i : Nat) => D.int (i : Int), st ++ [.lst (accL n ms p done)]) := by
        rw [compL_pure (fun (i : Nat) => D.int (i : Int)) (fun i => i != p) (fun i => D.int (i : Int)), lot_clr n (by have := h.few; omega) m hmn p hp]
        intro i hi
        refine ⟨_, rfl, ?_, fun _ => by simp⟩
        simp [ne_int]
        rw [Bool.eq_iff_iff]
        simp
        omega
      have hall : I.allF (lotM n m) = some ((bits n m).map fun (i : Nat) => D.int (i : Int)) := by rw [lotM_items]; rfl
      have htup : ∀ s, F.tuple_ s [.lst ((bits n (clr m p)).map fun (i : Nat) => D.int (i : Int))] = some (lotM n (clr m p)) := fun s => by rw [lotM_items]; rfl
      have hin : ∀ s, F.in_ s (.int p) (lotM n m) = some (.bl (m.testBit p)) := fun s => by rw [in_lot, bits_has hp]
      have hin2 := in_dctL h hcl
      have happ : ∀ v : D, F.append (st ++ [.lst (accL n ms p done)]) (.ref st.length) [v] = some (.non, st ++ [.lst (accL n ms p done ++ [v])]) := by
        intro v
        have : done.length < big := by unfold big; omega
        simp [F.append, accL_len, this]
      have hL : F.isL (st ++ [.lst (accL n ms p done)]) (.ref st.length) = true := by simp [F.isL, F.lstOf]
      have hfin := accL_snoc n ms p done m
      have hval : (if (!m.testBit p || decide (clr m p ∈ ms)) = true then lotM n m else lotM n (clr m p)) = lotM n (low ms p m) := by
        unfold low
        by_cases hc : clr m p ∈ ms
        · simp [hc]
        · cases ht : m.testBit p with
          | true => simp [hc]
          | false => exact absurd (by rw [clr_no ht]; exact hm) hc
      rw [hfin, ← hval]
      cases ht : m.testBit p with
      | false =>
        simp [b__law_lowered_1, hall, hc, htup, F.notIn, hin, ht, happ, hL]
      | true =>
        by_cases hcm : clr m p ∈ ms
        · simp [b__law_lowered_1, hall, hc, htup, F.notIn, hin, ht, happ, hL, hin2, hcm]
        · simp [b__law_lowered_1, hall, hc, htup, F.notIn, hin, ht, happ, hL, hin2, hcm]) ms [] [some (partsD n ms), some (.int p), some (dctL n ms), some (.ref st.length), none, none, none] (st ++ [.lst []]) rfl ⟨none, none, rfl, rfl⟩
  obtain ⟨ρ', st', h1, o4, o5, rfl, rfl⟩ := loop
  have hA : fnA 2 7 m__law_lowered [partsD n ms, .int p] st = some (partsD n (lowF n p ms), st ++ [.lst (accL n ms p ms)]) := by
    refine fnA_ret (ρ' := [some (partsD n ms), some (.int p), some (dctL n ms), some (.ref st.length), o4, o5, none]) rfl ?_
    have hc : E.compL (G.name 4) E.yes (E.tup (E.consA (E.var 4) (E.consA (E.c (.bl true)) E.nilA))) [some (partsD n ms), some (.int p), none, none, none, none, none] (ms.map (lotM n)) st = some (ms.map fun m => .tup [lotM n m, .bl true], st) :=
      compL_map (lotM n) _ ms fun m hm => ⟨_, rfl, by simp⟩
    have hsort : F.sorted (st ++ [.lst (accL n ms p ms)]) [.ref st.length] = some (.lst ((sortM n (ms.map (low ms p))).map (lotM n))) := by
      have ok : F.SortOk (accL n ms p ms) := sortOk_tups (lotI n) _ (by simp; omega)
      have e : (accL n ms p ms).mergeSort F.leD = (sortM n (ms.map (low ms p))).map (lotM n) := by
        unfold sortM accL
        rw [List.map_mergeSort]
        intro a _ b _
        exact (leD_lot n a b).symm
      rw [sorted_run (d := .ref st.length) (by simp [F.seq]) ok, e]
    simp [m__law_lowered, ix_parts1, all_famT, hc, dict_lots h, h1, ix_parts0, hsort, F.tuple_, F.seq]
    rfl
  have := fnB_of (d' := partsD n (lowF n p ms)) hA ⟨by simp, fun i c hi hc => .inl (by rw [List.getElem?_append_left hi] at hc; exact hc)⟩ ?_
  · rw [List.take_left] at this
    exact this
  · have hb : (partsD n (lowF n p ms)).bel st.length = true := by
      have hf : ∀ k, (famT n (lowF n p ms)).bel k = true := fun k => below_mono (Nat.zero_le k) _ (bel_famT n _)
      show D.bel st.length (.tup [.int n, famT n (lowF n p ms)]) = true
      simp [D.bel, D.bels, hf]
    show (if (partsD n (lowF n p ms)).bel st.length = true then some _ else none) = _
    rw [if_pos hb]
end Sm.Pr
/-! ## MathJ -/
/-! Plain laws, part J: all lots within a lot; low families. -/
namespace Sm.Pr
open PySem Sm
/-- all lots within a row of points -/
def within (l : List Nat) : List (List Nat) := l.foldl (fun acc p => acc ++ acc.map (· ++ [p])) [[]]
/-- .. as sums -/
def subs (n m : Nat) : List Nat := (within (bits n m)).map fun l => (l.map (2 ^ ·)).sum
theorem within_subs : ∀ n, n < 7 → ∀ m, m < 2 ^ n → within (bits n m) = (subs n m).map (bits n) := by decide +kernel
theorem subs_in : ∀ n, n < 7 → ∀ m, m < 2 ^ n → (subs n m).all (fun k => decide (k < 2 ^ n ∧ k &&& m = k)) = true := by decide +kernel
theorem subs_of : ∀ n, n < 7 → ∀ m, m < 2 ^ n → ∀ k, k < 2 ^ n → k &&& m = k → (subs n m).contains k = true := by decide +kernel
def rowD (l : List Nat) : D := .tup (l.map fun (i : Nat) => .int (i : Int))
theorem within_len : ∀ (l : List Nat) (acc : List (List Nat)), (l.foldl (fun acc p => acc ++ acc.map (· ++ [p])) acc).length = acc.length * 2 ^ l.length
  | [], acc => by simp
  | p :: l, acc => by
    rw [List.foldl_cons, within_len l]
    simp [Nat.pow_succ]
    rw [Nat.mul_comm (2 ^ l.length) 2, ← Nat.mul_assoc]
    congr 1
    omega
theorem row_len : ∀ (l : List Nat) (acc : List (List Nat)) (k : Nat), (∀ x ∈ acc, x.length ≤ k) → ∀ x ∈ l.foldl (fun acc p => acc ++ acc.map (· ++ [p])) acc, x.length ≤ k + l.length
  | [], acc, k, h => by simpa using h
  | p :: l, acc, k, h => by
    rw [List.foldl_cons]
    intro x hx
    have := row_len l (acc ++ acc.map (· ++ [p])) (k + 1) (fun y hy => by
      rcases List.mem_append.mp hy with q | q
      · have := h y q; omega
      · obtain ⟨z, hz, rfl⟩ := List.mem_map.mp q
        have := h z hz
        simp; exact this) x hx
    simp; omega
theorem law_within_ok {l : List Nat} (hl : l.length ≤ 6) (st : Store) : F__law_within [rowD l] st = some (.lst ((within l).map rowD), st) := by
  have loop := loop_inv (g := G.name 2) (b := b__law_within_1) (fun (p : Nat) => D.int (p : Int)) (fun done ρ s => s = st ∧ ∃ o2 o3, ρ = [some (rowD l), some (.lst ((within done).map rowD)), o2, o3]) l
    (fun done p ρ s hd hI => by
      obtain ⟨r, hr⟩ := hd
      obtain ⟨rfl, o2, o3, rfl⟩ := hI
      have hdl : done.length ≤ 5 := by rw [hr] at hl; simp at hl; omega
      have hw : within (done ++ [p]) = within done ++ (within done).map (· ++ [p]) := by unfold within; rw [List.foldl_append]; rfl
      have hwl : (within done).length ≤ 32 := by
        have := within_len done [[]]
        have h5 : 2 ^ done.length ≤ 2 ^ 5 := Nat.pow_le_pow_right (by decide) hdl
        unfold within; rw [this]; simp; exact h5
      have hrow : ∀ x ∈ within done, x.length ≤ 6 := fun x hx => by
        have := row_len done [[]] 0 (by simp) x hx
        omega
      have hadd : ∀ x ∈ within done, F.add s (rowD x) (.tup [.int p]) = some (rowD (x ++ [p])) := fun x hx => by
        have : x.length + 1 ≤ big := by have := hrow x hx; unfold big; omega
        simp [F.add, rowD, this]
      refine ⟨_, .nx, [some (rowD l), some (.lst ((within (done ++ [p])).map rowD)), some (.int p), o3], s, rfl, ?_, .inl rfl, rfl, _, _, rfl⟩
      have hc : E.compL (G.name 3) E.yes (E.op2 F.add (E.var 3) (E.tup (E.consA (E.var 2) E.nilA))) [some (rowD l), some (.lst ((within done).map rowD)), some (.int p), none] ((within done).map rowD) s = some ((within done).map fun x => rowD (x ++ [p]), s) :=
        compL_map rowD _ _ fun x hx => ⟨_, rfl, by simp [hadd x hx]⟩
      have hfin : F.add s (.lst ((within done).map rowD)) (.lst ((within done).map fun x => rowD (x ++ [p]))) = some (.lst ((within (done ++ [p])).map rowD)) := by
        have : (within done).length + (within done).length ≤ big := by unfold big; omega
        rw [hw]
        simp [F.add, F.lstOf, this]
      simp [b__law_within_1, I.allF, hc, hfin]) l [] [some (rowD l), some (.lst ((within []).map rowD)), none, none] st rfl ⟨rfl, none, none, rfl⟩
  obtain ⟨ρ', st', h1, rfl, o2, o3, rfl⟩ := loop
  refine fnA_ret (ρ' := [some (rowD l), some (.lst ((within l).map rowD)), o2, o3]) rfl ?_
  have hall : I.allF (rowD l) = some (l.map fun (i : Nat) => .int (i : Int)) := rfl
  have h1' : S.loop (G.name 2) b__law_within_1 (l.map fun (p : Nat) => D.int (p : Int)) [some (rowD l), some (.lst [.tup []]), none, none] st' = some (.nx, [some (rowD l), some (.lst ((within l).map rowD)), o2, o3], st') := h1
  simp [m__law_within, hall, h1']
theorem rowD_bits (n m : Nat) : rowD (bits n m) = lotM n m := (lotM_items n m).symm
/-- each lot within a member is one -/
def lowAll (n : Nat) (ms : List Nat) (m : Nat) : Bool := (subs n m).all fun k => decide (k ∈ ms)
def lowL (n : Nat) (ms : List Nat) : Bool := ms.all (lowAll n ms)
theorem bits_len {n : Nat} (hn : n ≤ 6) (m : Nat) : (bits n m).length ≤ 6 := Nat.le_trans (List.length_filter_le _ _) (by simpa using hn)
theorem sorted_lot {n k : Nat} (hn : n ≤ 6) (hk : k < 2 ^ n) (st : Store) : F.sorted st [lotM n k] = some (.lst ((bits n k).map fun (i : Nat) => .int (i : Int))) := by
  have := sorted_nats (bits n k) (by have := bits_len hn k; omega) (List.Perm.refl _) (bits_asc n (by omega) k hk) st
  rw [lotM_items]
  simp only [F.sorted, F.seq] at this ⊢
  exact this
theorem law_is_low_ok {n : Nat} {ms : List Nat} (h : Fam n ms) (st : Store) : F__law_is_low [partsD n ms] st = some (.bl (lowL n ms), st) := by
  refine fnA_ret (ρ' := [some (partsD n ms), some (dctL n ms), none, none]) rfl ?_
  have hc : E.compL (G.name 2) E.yes (E.tup (E.consA (E.var 2) (E.consA (E.c (.bl true)) E.nilA))) [some (partsD n ms), none, none, none] (ms.map (lotM n)) st = some (ms.map fun m => .tup [lotM n m, .bl true], st) :=
    compL_map (lotM n) _ ms fun m hm => ⟨_, rfl, by simp⟩
  simp [m__law_is_low, ix_parts1, all_famT, hc, dict_lots h]
  rw [compL_map (lotM n) (fun m => D.bl (lowAll n ms m))]
  · rw [Option.map_some, Option.bind_some, Option.bind_some]
    show Option.map _ (Option.map (fun r => (r, st)) (F.all_ st [D.lst (ms.map fun m => D.bl (lowAll n ms m))])) = _
    rw [all_lst (lowAll n ms)]
    rfl
  · intro m hm
    have hmn := h.lt m hm
    have hn7 : n < 7 := by have := h.few; omega
    refine ⟨_, rfl, ?_⟩
    have hw : F__law_within [lotM n m] st = some (.lst ((subs n m).map (lotM n)), st) := by
      rw [← rowD_bits, law_within_ok (bits_len h.few m), within_subs n hn7 m hmn, List.map_map, show rowD ∘ bits n = lotM n from funext fun k => rowD_bits n k]
    simp [hw, I.allF]
    rw [compL_map (lotM n) (fun k => D.bl (decide (k ∈ ms)))]
    · rw [Option.map_some, Option.bind_some, Option.bind_some]
      simp only [all_lst fun k => decide (k ∈ ms)]
      rfl
    · intro k hk
      have := List.all_eq_true.mp (subs_in n hn7 m hmn) k hk
      have hkn : k < 2 ^ n := (of_decide_eq_true this).1
      have htup : F.tuple_ st [.lst ((bits n k).map fun (i : Nat) => D.int (i : Int))] = some (lotM n k) := by rw [lotM_items]; rfl
      exact ⟨_, rfl, by simp [sorted_lot h.few hkn, htup, in_dctL h hkn]⟩
/-! ### low, both ways -/
theorem clr_sub : ∀ m, m < 64 → ∀ p, p < 6 → clr m p &&& m = clr m p := by decide +kernel
theorem sub_step : ∀ m, m < 64 → ∀ k, k < 64 → k &&& m = k → k = m ∨ ((List.range 6).any fun p => m.testBit p && decide (k &&& clr m p = k) && decide (clr m p < m)) = true := by decide +kernel
theorem lowB_lowL {n : Nat} {ms : List Nat} (h : Fam n ms) : lowB n ms = lowL n ms := by
  have hn7 : n < 7 := by have := h.few; omega
  have h64 : ∀ {m}, m < 2 ^ n → m < 64 := fun hm => Nat.lt_of_lt_of_le hm (Nat.pow_le_pow_right (by decide) h.few)
  rw [Bool.eq_iff_iff]
  unfold lowB lowL lowAll lowAt
  simp only [List.all_eq_true, decide_eq_true_eq, List.mem_range]
  constructor
  · intro hb m hm k hk
    have hq := of_decide_eq_true (List.all_eq_true.mp (subs_in n hn7 m (h.lt m hm)) k hk)
    obtain ⟨hkn, hkm⟩ := hq
    -- by going down from m
    have down : ∀ (N m : Nat), m ≤ N → m ∈ ms → k &&& m = k → k ∈ ms := by
      intro N
      induction N with
      | zero =>
        intro m hN hm hkm
        have : m = 0 := by omega
        subst this
        have : k = 0 := by rw [← hkm]; simp
        subst this
        exact hm
      | succ N ih =>
        intro m hN hm hkm
        rcases sub_step m (h64 (h.lt m hm)) k (h64 hkn) hkm with e | e
        · rw [e]; exact hm
        · obtain ⟨p, hp, e⟩ := List.any_eq_true.mp e
          simp only [Bool.and_eq_true, decide_eq_true_eq] at e
          obtain ⟨⟨e1, e2⟩, e3⟩ := e
          have hpn : p < n := by
            by_cases q : p < n
            · exact q
            · have := Nat.testBit_lt_two_pow (Nat.lt_of_lt_of_le (h.lt m hm) (Nat.pow_le_pow_right (by decide) (Nat.le_of_not_lt q)))
              rw [this] at e1; cases e1
          exact ih (clr m p) (by omega) (hb p hpn m hm) e2
    exact down m m (Nat.le_refl _) hm hkm
  · intro hl p hp m hm
    have hmn := h.lt m hm
    have hc := clr_sub m (h64 hmn) p (by have := h.few; omega)
    have := subs_of n hn7 m hmn (clr m p) (Nat.lt_of_le_of_lt (clr_le m p) hmn) hc
    exact hl m hm _ (by simpa using this)
end Sm.Pr
/-! ## MathK -/
/-! Plain laws, part K: the drawing hand of the second kind of laws (k15 .. k18, k23 .. k25, k33, k34, k37, k39, k41 .. k45). -/
namespace Sm.Pr
open PySem Sm
/-- the first part of a draw: perhaps a cell is taken up -/
theorem draw1B {h : Nat} {st : Store} {cells : List Int} {i g x c : Int} {sides : D} {o2 o3 o4 : Option D} (e : st[h]? = some (handC cells i g x c)) (ok : HandOk cells i g x c) :
    ∃ o i' g' x', b__law_draw_v2_1 [some (.ref h), some sides, o2, o3, o4] st = some (.nx, [some (.ref h), some sides, o, o3, o4], st.set h (handC cells i' g' x' c)) ∧ HandOk cells i' g' x' c := by
  have hst : st.set h (handC cells i g x c) = st := by
    apply List.ext_getElem?
    intro j
    by_cases hj : j = h
    · subst hj; rw [setget e, e]
    · rw [List.getElem?_set_ne (Ne.symm hj)]
  by_cases hg : g = 0
  · subst hg
    by_cases hi : i < cells.length
    · have hn : i.toNat < cells.length := by have := ok.i0; omega
      have hat : L2.atI (cells.map D.int) i = some (.int cells[i.toNat]) := by
        have h0 := ok.i0
        simp [L2.atI, L2.ixN, h0, hi, hn]
      have hcell : F.ix st (.lst (cells.map .int)) (.int i) = some (.int cells[i.toNat]) := by
        simp [F.ix, F.dctOf, F.seq, hat]
      have hpos : 0 ≤ cells[i.toNat] := ok.pos _ (List.getElem_mem hn)
      generalize cells[i.toNat] = z at hcell hpos
      have e1 : (st.set h (handC cells (i + 1) 0 x c))[h]? = some (handC cells (i + 1) 0 x c) := setget e
      have hmod : 0 ≤ (x * 69621 + z * 16 + 29) % 2147483629 ∧ (x * 69621 + z * 16 + 29) % 2147483629 < 2147483629 := ⟨Int.emod_nonneg _ (by decide), Int.emod_lt_of_pos _ (by decide)⟩
      generalize hM : (x * 69621 + z * 16 + 29) % 2147483629 = M at hmod
      have e2 : (st.set h (handC cells (i + 1) 0 M c))[h]? = some (handC cells (i + 1) 0 M c) := setget e
      have s1 := hs1 (y := i + 1) e
      have s2 : F.store (st.set h (handC cells (i + 1) 0 x c)) (.ref h) (.int 3) (.int M) = some (st.set h (handC cells (i + 1) 0 M c)) := by
        rw [hs3 e1, List.set_set]
      have s3 : F.store (st.set h (handC cells (i + 1) 0 M c)) (.ref h) (.int 2) (.int z) = some (st.set h (handC cells (i + 1) z M c)) := by
        rw [hs2 e2, List.set_set]
      by_cases hz : z < 10 ^ 18
      · refine ⟨some (.int z), i + 1, 0, M, ?_, ⟨ok.pos, ok.few, by have := ok.i0; omega, ok.g0, hmod.1, by omega, ok.c0⟩⟩
        have hz' : z < 1000000000000000000 := hz
        have nz : ¬ 1000000000000000000 ≤ z := by omega
        simp [b__law_draw_v2_1, hx2 e, hx1 e, hx0 e, hi, F.eq0, F.dat, F.eqD, F.toPy, PyData.eqv, F.lt, F.len, F.seq, hcell, F.add, F.lstOf, s1, hx3 e1, F.mul, F.int_, F.mod, hM, s2, F.pow, F.ge, nz]
      · refine ⟨some (.int z), i + 1, z, M, ?_, ⟨ok.pos, ok.few, by have := ok.i0; omega, hpos, hmod.1, by omega, ok.c0⟩⟩
        have hz' : ¬ z < 1000000000000000000 := hz
        have nz : 1000000000000000000 ≤ z := by omega
        simp [b__law_draw_v2_1, hx2 e, hx1 e, hx0 e, hi, F.eq0, F.dat, F.eqD, F.toPy, PyData.eqv, F.lt, F.len, F.seq, hcell, F.add, F.lstOf, s1, hx3 e1, F.mul, F.int_, F.mod, hM, s2, F.pow, F.ge, nz, s3]
    · refine ⟨o2, i, 0, x, ?_, ok⟩
      rw [hst]
      simp [b__law_draw_v2_1, hx2 e, hx1 e, hx0 e, hi, F.eq0, F.dat, F.eqD, F.toPy, PyData.eqv, F.lt, F.len, F.seq]
  · refine ⟨o2, i, g, x, ?_, ok⟩
    rw [hst]
    simp [b__law_draw_v2_1, hx2 e, hg, F.eq0, F.dat, F.eqD, F.toPy, PyData.eqv]
theorem draw_okB {h : Nat} {st : Store} (hd : Hand h st) {k : Nat} (k1 : 1 ≤ k) (k2 : k ≤ 1000) : ∃ (r : Nat) (cc : Cell), F__law_draw_v2 [.ref h, .int k] st = some (.int r, st.set h cc) ∧ r < k ∧ Hand h (st.set h cc) := by
  obtain ⟨cells, i, g, x, c, e, ok⟩ := hd
  obtain ⟨o, i', g', x', e1, ok1⟩ := draw1B (sides := .int k) (o2 := none) (o3 := none) (o4 := none) e ok
  have e2 : (st.set h (handC cells i' g' x' c))[h]? = some (handC cells i' g' x' c) := setget e
  have kp : (0 : Int) < k := by omega
  by_cases hg : 0 < g'
  · have hr := Int.emod_nonneg g' (show (k : Int) ≠ 0 by omega)
    have hr2 := Int.emod_lt_of_pos g' kp
    have hk9 : (k : Int) < 1073741824 := by omega
    refine ⟨(g' % k).toNat, handC cells i' (g' / k) x' c, ?_, by omega, _, _, _, _, _, setget e, ⟨ok1.pos, ok1.few, ok1.i0, Int.ediv_nonneg ok1.g0 (by omega), ok1.x0, ok1.x1, ok1.c0⟩⟩
    have s1 : F.store (st.set h (handC cells i' g' x' c)) (.ref h) (.int 2) (.int (g' / k)) = some (st.set h (handC cells i' (g' / k) x' c)) := by rw [hs2 e2, List.set_set]
    have hc : ((g' % k).toNat : Int) = g' % k := Int.toNat_of_nonneg hr
    rw [hc]
    refine fnA_ret (ρ' := [some (.ref h), some (.int k), o, some (.int (g' % k)), none]) rfl ?_
    simp [m__law_draw_v2, e1, hx2 e2, F.gt, hg, F.int_, F.mod, k1, F.fdiv, hk9, s1, show 0 < k by omega]
  · have g0 : g' = 0 := by have := ok1.g0; omega
    subst g0
    have ne : ∀ z : Int, 0 ≤ z % 2147483647 ∧ z % 2147483647 < 2147483647 := fun z => ⟨Int.emod_nonneg _ (by decide), Int.emod_lt_of_pos _ (by decide)⟩
    have e3 : (st.set h (handC cells i' 0 x' (c + 1)))[h]? = some (handC cells i' 0 x' (c + 1)) := setget e
    have s1 : F.store (st.set h (handC cells i' 0 x' c)) (.ref h) (.int 4) (.int (c + 1)) = some (st.set h (handC cells i' 0 x' (c + 1))) := by rw [hs4 e2, List.set_set]
    have b1 := ne ((x' + 7919 * (c + 1)) * 48271)
    generalize hn1 : (x' + 7919 * (c + 1)) * 48271 % 2147483647 = n1 at b1
    have b2 := ne (n1 * (n1 / 1009 + 69621))
    generalize hn2 : n1 * (n1 / 1009 + 69621) % 2147483647 = n2 at b2
    have b3 : 0 ≤ n2 * (n2 / 2003 + 40692) % 2147483399 ∧ n2 * (n2 / 2003 + 40692) % 2147483399 < 2147483399 := ⟨Int.emod_nonneg _ (by decide), Int.emod_lt_of_pos _ (by decide)⟩
    generalize hn3 : n2 * (n2 / 2003 + 40692) % 2147483399 = n3 at b3
    have m1 := nat_lt b1.1 (by omega)
    have m2 := nat_lt b2.1 (by omega)
    have hr := Int.emod_nonneg (n3 / 16) (show (k : Int) ≠ 0 by omega)
    have hr2 := Int.emod_lt_of_pos (n3 / 16) kp
    refine ⟨(n3 / 16 % k).toNat, handC cells i' 0 x' (c + 1), ?_, by omega, _, _, _, _, _, setget e, ⟨ok1.pos, ok1.few, ok1.i0, by decide, ok1.x0, ok1.x1, by have := ok1.c0; omega⟩⟩
    have hc : ((n3 / 16 % k).toNat : Int) = n3 / 16 % k := Int.toNat_of_nonneg hr
    rw [hc]
    refine fnA_ret (ρ' := [some (.ref h), some (.int k), o, none, some (.int n3)]) rfl ?_
    simp [m__law_draw_v2, e1, hx2 e2, F.gt, F.int_, F.mod, k1, F.fdiv, s1, show 0 < k by omega, hx4 e2, hx3 e3, hx4 e3, F.add, F.mul, hn1, m1, hn2, m2, hn3]
theorem any_okB {h : Nat} {st : Store} (hd : Hand h st) {ms : List D} (hne : ms ≠ []) (hl : ms.length ≤ 1000) : ∃ (d : D) (cc : Cell), F__law_any [.ref h, .lst ms] st = some (d, st.set h cc) ∧ d ∈ ms ∧ Hand h (st.set h cc) := by
  have hp : 1 ≤ ms.length := by
    cases ms with
    | nil => exact (hne rfl).elim
    | cons a b => simp
  obtain ⟨r, cc, h1, h2, h3⟩ := draw_okB hd hp hl
  refine ⟨ms[r], cc, ?_, List.getElem_mem h2, h3⟩
  refine fnA_ret (ρ' := [some (.ref h), some (.lst ms)]) rfl ?_
  simp [m__law_any, F.len, F.seq, h1, F.ix, F.dctOf, L2.atI, L2.ixN, h2]
theorem hand_okB (ns : List Int) (h63 : ns.length ≤ 63) (st : Store) : ∃ cc, F__law_hand_v2 [.scr ns] st = some (.ref st.length, st ++ [cc]) ∧ Hand st.length (st ++ [cc]) := by
  have hc : F.cut (ns.map D.int) none (some 63) = ns.map D.int := by
    unfold F.cut
    have h1 : HT.sIx (ns.map D.int).length 0 none = 0 := rfl
    have h2 : HT.sIx (ns.map D.int).length (ns.map D.int).length (some 63) = ns.length := by
      rw [show (some (63 : Int)) = some ((63 : Nat) : Int) from rfl, HT.sIx_nat]
      simp; omega
    rw [h1, h2]
    simp
    exact List.take_of_length_le (by simp)
  have hb : ns.length ≤ big := by unfold big; omega
  refine ⟨handC (ns.map fun z => if z < 0 then -z else z) 0 0 (7 + ns.length) 0, ?_, _, _, _, _, _, get_last, ⟨?_, by simp; omega, by decide, by decide, by omega, by omega, by decide⟩⟩
  · refine fnA_ret (ρ' := [some (.scr ns), some (.lst ((ns.map fun z => if z < 0 then -z else z).map .int)), none]) rfl ?_
    have hs : E.scr 63 (E.var 0) [some (.scr ns), none, none] st = some (.lst (ns.map .int), st) := by
      simp [E.scr, F.scr, hb, hc]
    simp [m__law_hand_v2, hs, I.allF]
    rw [compL_map D.int (fun z => D.int (if z < 0 then -z else z))]
    · simp [F.len, F.seq, F.mul, F.add, handC]
    · intro z hz
      exact ⟨_, rfl, by simp [F.int_, F.abs_]⟩
  · intro z hz
    obtain ⟨y, _, rfl⟩ := List.mem_map.mp hz
    split <;> omega
theorem HF.drawB {st0 st : Store} {h : Nat} (H : HF st0 h st) {k : Nat} (k1 : 1 ≤ k) (k2 : k ≤ 1000) : ∃ (r : Nat) (st' : Store), F__law_draw_v2 [.ref h, .int k] st = some (.int r, st') ∧ r < k ∧ HF st0 h st' := by
  obtain ⟨r, cc, h1, h2, h3⟩ := draw_okB H.1 k1 k2
  exact ⟨r, _, h1, h2, H.next h3⟩
theorem HF.pickB {st0 st : Store} {h : Nat} (H : HF st0 h st) {ms : List D} (hne : ms ≠ []) (hl : ms.length ≤ 1000) : ∃ (d : D) (st' : Store), F__law_any [.ref h, .lst ms] st = some (d, st') ∧ d ∈ ms ∧ HF st0 h st' := by
  obtain ⟨d, cc, h1, h2, h3⟩ := any_okB H.1 hne hl
  exact ⟨d, _, h1, h2, H.next h3⟩
end Sm.Pr
/-! ## MathL -/
/-! Plain laws, part L: all lots within, all lots by their sizes (second kind of laws). -/
namespace Sm.Pr
open PySem Sm
theorem law_within_okB {l : List Nat} (hl : l.length ≤ 6) (st : Store) : F__law_within_v2 [rowD l] st = some (.lst ((within l).map rowD), st) := by
  have loop := loop_inv (g := G.name 2) (b := b__law_within_v2_1) (fun (p : Nat) => D.int (p : Int)) (fun done ρ s => s = st ∧ ∃ o2 o3, ρ = [some (rowD l), some (.lst ((within done).map rowD)), o2, o3]) l
    (fun done p ρ s hd hI => by
      obtain ⟨r, hr⟩ := hd
      obtain ⟨rfl, o2, o3, rfl⟩ := hI
      have hdl : done.length ≤ 5 := by rw [hr] at hl; simp at hl; omega
      have hw : within (done ++ [p]) = within done ++ (within done).map (· ++ [p]) := by unfold within; rw [List.foldl_append]; rfl
      have hwl : (within done).length ≤ 32 := by
        have := within_len done [[]]
        have h5 : 2 ^ done.length ≤ 2 ^ 5 := Nat.pow_le_pow_right (by decide) hdl
        unfold within; rw [this]; simp; exact h5
      have hrow : ∀ x ∈ within done, x.length ≤ 6 := fun x hx => by
        have := row_len done [[]] 0 (by simp) x hx
        omega
      have hadd : ∀ x ∈ within done, F.add s (rowD x) (.tup [.int p]) = some (rowD (x ++ [p])) := fun x hx => by
        have : x.length + 1 ≤ big := by have := hrow x hx; unfold big; omega
        simp [F.add, rowD, this]
      refine ⟨_, .nx, [some (rowD l), some (.lst ((within (done ++ [p])).map rowD)), some (.int p), o3], s, rfl, ?_, .inl rfl, rfl, _, _, rfl⟩
      have hc : E.compL (G.name 3) E.yes (E.op2 F.add (E.var 3) (E.tup (E.consA (E.var 2) E.nilA))) [some (rowD l), some (.lst ((within done).map rowD)), some (.int p), none] ((within done).map rowD) s = some ((within done).map fun x => rowD (x ++ [p]), s) :=
        compL_map rowD _ _ fun x hx => ⟨_, rfl, by simp [hadd x hx]⟩
      have hfin : F.add s (.lst ((within done).map rowD)) (.lst ((within done).map fun x => rowD (x ++ [p]))) = some (.lst ((within (done ++ [p])).map rowD)) := by
        have : (within done).length + (within done).length ≤ big := by unfold big; omega
        rw [hw]
        simp [F.add, F.lstOf, this]
      simp [b__law_within_v2_1, I.allF, hc, hfin]) l [] [some (rowD l), some (.lst ((within []).map rowD)), none, none] st rfl ⟨rfl, none, none, rfl⟩
  obtain ⟨ρ', st', h1, rfl, o2, o3, rfl⟩ := loop
  refine fnA_ret (ρ' := [some (rowD l), some (.lst ((within l).map rowD)), o2, o3]) rfl ?_
  have hall : I.allF (rowD l) = some (l.map fun (i : Nat) => .int (i : Int)) := rfl
  have h1' : S.loop (G.name 2) b__law_within_v2_1 (l.map fun (p : Nat) => D.int (p : Int)) [some (rowD l), some (.lst [.tup []]), none, none] st' = some (.nx, [some (rowD l), some (.lst ((within l).map rowD)), o2, o3], st') := h1
  simp [m__law_within_v2, hall, h1']
/-- lots by their sizes, then as lots -/
def leP (n a b : Nat) : Bool := F.leD (pairM n a) (pairM n b)
def sizeN (n : Nat) (ks : List Nat) : List Nat := ks.mergeSort (leP n)
/-- all lots of n points, by their sizes -/
def allN (n : Nat) : List Nat := sizeN n (List.range (2 ^ n))
theorem mem_sizeN {n m : Nat} {ks : List Nat} : m ∈ sizeN n ks ↔ m ∈ ks := (List.mergeSort_perm _ _).mem_iff
theorem mem_allN {n m : Nat} : m ∈ allN n ↔ m < 2 ^ n := mem_sizeN.trans List.mem_range
theorem sizeN_eq (n : Nat) (ks : List Nat) : (ks.map (pairM n)).mergeSort F.leD = (sizeN n ks).map (pairM n) := by
  unfold sizeN
  rw [List.map_mergeSort]
  intro a _ b _
  rfl
theorem sortOk_pairs (n : Nat) (ks : List Nat) (h : ks.length ≤ 1000000) : F.SortOk (ks.map (pairM n)) := by
  refine ⟨by simpa [big] using h, fun d hd => ?_, fun d hd e he => ?_, .inl fun d hd => ?_⟩
  · obtain ⟨x, _, rfl⟩ := List.mem_map.mp hd
    show ([D.int ((bits n x).length : Int), lotM n x].all (F.dat 11)) = true
    simp [dat_int, lotM, dat_tupI]
  · simp only [List.map_map, List.mem_map, Function.comp] at hd he
    obtain ⟨x, _, rfl⟩ := hd
    obtain ⟨y, _, rfl⟩ := he
    have := alike_tupI (lotI n x) (lotI n y)
    simp [pairM, F.toPy, F.toPys, PySem.W.alike, PySem.W.alikeAll, lotM, this]
  · simp only [List.map_map, List.mem_map, Function.comp] at hd
    obtain ⟨x, _, rfl⟩ := hd
    exact ⟨_, by simp [pairM, F.toPy]; rfl⟩
theorem all_lots_ok {n : Nat} (pos : 1 ≤ n) (hn : n ≤ 6) (st : Store) : F_all_lots [.int n] st = some (.lst ((allN n).map (lotM n)), st) := by
  have hl : -I.lim ≤ (n : Int) ∧ (n : Int) ≤ I.lim := by unfold I.lim; omega
  have loop := loop_inv (g := G.name 2) (b := b_all_lots_1) (fun (p : Nat) => D.int (p : Int)) (fun done ρ s => s = st ∧ ∃ o3 o4 o5, ρ = [some (.int n), some (.lst ((List.range (2 ^ done.length)).map (lotM n))), o3, o4, o5]) (List.range n)
    (fun done p ρ s hd hI => by
      obtain ⟨r, hr⟩ := hd
      obtain ⟨rfl, o3, o4, o5, rfl⟩ := hI
      have hpn : p = done.length ∧ p < n := by
        have e1 : (List.range n)[done.length]? = some p := by rw [hr]; simp
        obtain ⟨h1, h2⟩ := List.getElem?_eq_some_iff.mp e1
        simp at h1 h2
        omega
      obtain ⟨rfl, hpn⟩ := hpn
      have h64 : 2 ^ done.length ≤ 2 ^ 6 := Nat.pow_le_pow_right (by decide) (by omega)
      refine ⟨_, .nx, [some (.int n), some (.lst ((List.range (2 ^ (done ++ [done.length]).length)).map (lotM n))), some (.int (done.length : Nat)), o4, o5], s, rfl, ?_, .inl rfl, rfl, some (.int (done.length : Nat)), o4, o5, rfl⟩
      · have hadd : ∀ m, m < 2 ^ done.length → F.add s (lotM n m) (.tup [.int (done.length : Nat)]) = some (lotM n (2 ^ done.length + m)) := by
          intro m hm
          have l1 : (bits n m).length ≤ 6 := Nat.le_trans (List.length_filter_le _ _) (by simpa using hn)
          have : (bits n m).length + 1 ≤ big := by unfold big; omega
          rw [lotM_items, lotM_items, lot_snoc n (by omega) done.length hpn m hm]
          simp [F.add, this]
        simp [b_all_lots_1, I.allF]
        rw [compL_map (lotM n) (fun m => lotM n (2 ^ done.length + m))]
        · have hb : 2 ^ done.length + 2 ^ done.length ≤ big := by unfold big; omega
          simp [F.add, F.lstOf, hb]
          rw [show 2 ^ (done.length + 1) = 2 ^ done.length + 2 ^ done.length by rw [Nat.pow_succ]; omega, List.range_add, List.map_append, List.map_map]
          rfl
        · intro m hm
          exact ⟨_, rfl, by simp [hadd m (List.mem_range.mp hm)]⟩) (List.range n) [] [some (.int n), some (.lst ((List.range 1).map (lotM n))), none, none, none] st rfl ⟨rfl, none, none, none, rfl⟩
  obtain ⟨ρ', st', h1, rfl, o3, o4, o5, rfl⟩ := loop
  rw [List.length_range] at h1
  have h64 : 2 ^ n ≤ 2 ^ 6 := Nat.pow_le_pow_right (by decide) hn
  have ok := sortOk_pairs n (List.range (2 ^ n)) (by rw [List.length_range]; omega)
  have e := sizeN_eq n (List.range (2 ^ n))
  refine fnA_ret (ρ' := [some (.int n), some (.lst ((List.range (2 ^ n)).map (lotM n))), o3, o4, o5]) rfl ?_
  have h0 : D.tup [] = lotM n 0 := by
    have : bits n 0 = [] := by simp [bits]
    rw [lotM_items, this]; rfl
  have h1' : S.loop (G.name 2) b_all_lots_1 ((List.range n).map fun (p : Nat) => D.int (p : Int)) [some (.int n), some (.lst [lotM n 0]), none, none, none] st' = some (.nx, [some (.int n), some (.lst ((List.range (2 ^ n)).map (lotM n))), o3, o4, o5], st') := h1
  simp [m_all_lots, h0, hl, range_D, h1', I.allF]
  rw [compL_map (lotM n) (pairM n)]
  · rw [Option.map_some, Option.bind_some, Option.bind_some]
    simp only [sorted_run (d := .lst ((List.range (2 ^ n)).map (pairM n))) rfl ok, e]
    simp
    rw [compL_map (pairM n) (lotM n)]
    · rfl
    · intro m hm
      exact ⟨_, rfl, by simp⟩
  · intro m hm
    refine ⟨_, rfl, ?_⟩
    have : F.len st' [lotM n m] = some (.int ((bits n m).length : Int)) := by
      rw [lotM_items]
      simp [F.len, F.seq]
    simp [this, pairM]
theorem range_bits : ∀ n, n < 7 → bits n (2 ^ n - 1) = List.range n := by decide +kernel
theorem subs_range : ∀ n, n < 7 → subs n (2 ^ n - 1) = List.range (2 ^ n) := by decide +kernel
theorem within_range {n : Nat} (hn : n ≤ 6) : (within (List.range n)).map rowD = (List.range (2 ^ n)).map (lotM n) := by
  have h1 := within_subs n (by omega) (2 ^ n - 1) (by have := Nat.one_le_two_pow (n := n); omega)
  rw [range_bits n (by omega), subs_range n (by omega)] at h1
  rw [h1, List.map_map]
  exact List.map_congr_left fun m _ => rowD_bits n m
section
variable {ρ : Ev} {st st1 st2 : Store} {a : ME} {d r : D} {xs out : List D}
theorem comp_of {vs : List Nat} {g : MG} {i : MI} {t : MT} {m : ME} (h1 : i ρ st = some (xs, st1)) (h2 : E.compL g t m (wipeE ρ vs) xs st1 = some (out, st2)) : E.comp vs g i t m ρ st = some (.lst out, st2) := by
  rw [v_comp, h1, Option.bind_some, h2, Option.map_some]
theorem all_of (h1 : a ρ st = some (d, st1)) (h2 : I.allF d = some xs) : I.all a ρ st = some (xs, st1) := by
  rw [v_all, h1, Option.bind_some, h2, Option.map_some]
theorem call1_of {F : Fn} {o : Option (D × Store)} (h1 : a ρ st = some (d, st1)) (h2 : F [d] st1 = o) : E.call F (E.consA a E.nilA) ρ st = o := by
  rw [v_call, v_consA, h1, Option.bind_some, v_nilA, Option.map_some, Option.bind_some, h2]
theorem fn1_of {f : Store → List D → Option D} (h1 : a ρ st = some (d, st1)) (h2 : f st1 [d] = some r) : E.fn f (E.consA a E.nilA) ρ st = some (r, st1) := by
  rw [v_fn, v_consA, h1, Option.bind_some, v_nilA, Option.map_some, Option.bind_some, h2, Option.map_some]
theorem op1_of {f : Store → D → Option D} (h1 : a ρ st = some (d, st1)) (h2 : f st1 d = some r) : E.op1 f a ρ st = some (r, st1) := by
  rw [v_op1, h1, Option.bind_some, h2, Option.map_some]
theorem ret_of (h1 : a ρ st = some (d, st1)) : S.ret a ρ st = some (.ret d, ρ, st1) := by
  rw [v_ret, h1, Option.map_some]
end
theorem rgOk_nat : ∀ n : Nat, n < 7 → F.rgOk 0 n = true := by decide +kernel
theorem list_range {n : Nat} (hn : n ≤ 6) (st : Store) : F.listRg1 st (.int n) = some (.lst ((List.range n).map fun (i : Nat) => .int (i : Int))) := by
  simp [F.listRg1, rgOk_nat n (by omega), F.rgD]
theorem tup_range (l : List Nat) (st : Store) : F.tuple_ st [.lst (l.map fun (i : Nat) => .int (i : Int))] = some (rowD l) := by
  simp [F.tuple_, F.seq, rowD]
theorem lots_inner {n : Nat} (hn : n ≤ 6) (st : Store) : E.comp [1] (G.name 1) (I.all (E.call F__law_within_v2 (E.consA (E.fn F.tuple_ (E.consA (E.op1 F.listRg1 (E.var 0)) E.nilA)) E.nilA))) E.yes (E.tup (E.consA (E.fn F.len (E.consA (E.var 1) E.nilA)) (E.consA (E.var 1) E.nilA))) [some (.int n), none, none] st = some (.lst ((List.range (2 ^ n)).map (pairM n)), st) := by
  have hw := law_within_okB (l := List.range n) (by simpa using hn) st
  rw [within_range hn] at hw
  have hc : E.compL (G.name 1) E.yes (E.tup (E.consA (E.fn F.len (E.consA (E.var 1) E.nilA)) (E.consA (E.var 1) E.nilA))) [some (.int n), none, none] ((List.range (2 ^ n)).map (lotM n)) st = some ((List.range (2 ^ n)).map (pairM n), st) :=
    compL_map (lotM n) (pairM n) _ fun m hm => by
      have : F.len st [lotM n m] = some (.int ((bits n m).length : Int)) := by
        rw [lotM_items]
        simp [F.len, F.seq]
      exact ⟨_, rfl, by simp [this, pairM]⟩
  have hl := list_range hn st
  have ht := tup_range (List.range n) st
  exact comp_of (all_of (call1_of (fn1_of (op1_of (a := E.var 0) rfl hl) ht) hw) rfl) hc
theorem law_lots_okB {n : Nat} (hn : n ≤ 6) (st : Store) : F__law_lots_v2 [.int n] st = some (.lst ((allN n).map (lotM n)), st) := by
  refine fnA_ret (ρ' := [some (.int n), none, none]) rfl ?_
  have h64 : 2 ^ n ≤ 2 ^ 6 := Nat.pow_le_pow_right (by decide) hn
  have ok := sortOk_pairs n (List.range (2 ^ n)) (by rw [List.length_range]; omega)
  have e := sizeN_eq n (List.range (2 ^ n))
  have hs : F.sorted st [.lst ((List.range (2 ^ n)).map (pairM n))] = some (.lst ((allN n).map (pairM n))) := by
    rw [sorted_run (d := .lst ((List.range (2 ^ n)).map (pairM n))) rfl ok, e]
    rfl
  have hc : E.compL (G.tup (G.consT (G.name 2) (G.consT (G.name 1) G.nilT))) E.yes (E.var 1) [some (.int n), none, none] ((allN n).map (pairM n)) st = some ((allN n).map (lotM n), st) :=
    compL_map (pairM n) (lotM n) _ fun m hm => ⟨_, rfl, by simp⟩
  have hi := lots_inner hn st
  exact ret_of (comp_of (all_of (fn1_of hi hs) rfl) hc)
end Sm.Pr
/-! ## MathM -/
/-! Plain laws, part M: a drawn family (second kind of laws). -/
namespace Sm.Pr
open PySem Sm
@[simp] theorem gt_10 {o p q x y z a b c d : Option D} {r : Ev} : gt (o :: p :: q :: x :: y :: z :: a :: b :: c :: d :: r) 10 = gt r 0 := rfl
@[simp] theorem set_10 {o p q x y z a b c d e v : Option D} {r : Ev} : List.set (o :: p :: q :: x :: y :: z :: a :: b :: c :: d :: e :: r) 10 v = o :: p :: q :: x :: y :: z :: a :: b :: c :: d :: v :: r := rfl
/-! ### a row of points as a sum -/
def toM (l : List Nat) : Nat := l.foldr (fun i a => a ||| 2 ^ i) 0
theorem toM_bit : ∀ (l : List Nat) (i : Nat), (toM l).testBit i = decide (i ∈ l)
  | [], i => by simp [toM]
  | x :: l, i => by
    show (toM l ||| 2 ^ x).testBit i = _
    rw [Nat.testBit_or, toM_bit l, Nat.testBit_two_pow]
    rw [Bool.eq_iff_iff]
    simp
    constructor
    · rintro (h | h)
      · exact .inr h
      · exact .inl h.symm
    · rintro (h | h)
      · exact .inr h.symm
      · exact .inl h
theorem toM_lt {n : Nat} {l : List Nat} (h : ∀ x ∈ l, x < n) : toM l < 2 ^ n := Nat.lt_pow_two_of_testBit _ fun i hi => by
  rw [toM_bit]
  simp
  intro hm
  have := h i hm
  omega
theorem bits_lt (n m : Nat) : (bits n m).Pairwise (· < ·) := List.pairwise_lt_range.filter _
theorem mem_bits {n m i : Nat} : i ∈ bits n m ↔ i < n ∧ m.testBit i = true := by
  unfold bits
  rw [List.mem_filter, List.mem_range]
theorem rows_eq {l r : List Nat} (s1 : l.Pairwise (· < ·)) (s2 : r.Pairwise (· < ·)) (e : ∀ x, x ∈ l ↔ x ∈ r) : l = r := by
  have p : l.Perm r := (List.perm_ext_iff_of_nodup (s1.imp Nat.ne_of_lt) (s2.imp Nat.ne_of_lt)).mpr e
  exact p.eq_of_pairwise (le := (· < ·)) (fun a b _ _ h h' => absurd h (by omega)) s1 s2
theorem bits_toM {n : Nat} {l : List Nat} (h : l.Sublist (List.range n)) : bits n (toM l) = l := by
  have h1 : ∀ x ∈ l, x < n := fun x hx => List.mem_range.mp (h.subset hx)
  refine rows_eq (bits_lt n _) (List.pairwise_lt_range.sublist h) fun x => ?_
  rw [mem_bits, toM_bit]
  simp
  exact fun hx => h1 x hx
theorem compL_sub {α : Type} {g : MG} {t : MT} {m : ME} {ρ : Ev} (inj : α → D) (Inv : Store → Prop) : ∀ (l : List α) (st : Store),
    (∀ x ∈ l, ∀ st, Inv st → ∃ ρ1 b st1, g (inj x) ρ = some ρ1 ∧ t ρ1 st = some (b, st1) ∧ Inv st1 ∧ m ρ1 st1 = some (inj x, st1)) → Inv st →
    ∃ (ys : List α) (st' : Store), E.compL g t m ρ (l.map inj) st = some (ys.map inj, st') ∧ ys.Sublist l ∧ Inv st'
  | [], st, _, i => ⟨[], st, rfl, List.Sublist.refl _, i⟩
  | x :: l, st, h, i => by
    obtain ⟨ρ1, b, st1, h1, h2, i1, h3⟩ := h x List.mem_cons_self st i
    obtain ⟨ys, st', h5, h6, i3⟩ := compL_sub inj Inv l st1 (fun y hy => h y (List.mem_cons_of_mem _ hy)) i1
    cases b with
    | true =>
      refine ⟨x :: ys, st', ?_, h6.cons₂ x, i3⟩
      show (g (inj x) ρ).bind _ = _
      rw [h1]
      show (t ρ1 st).bind _ = _
      rw [h2]
      show ((m ρ1 st1).bind fun q => (E.compL g t m ρ (l.map inj) q.2).map fun r => (q.1 :: r.1, r.2)) = _
      rw [h3]
      show (E.compL g t m ρ (l.map inj) st1).map _ = _
      rw [h5]; rfl
    | false =>
      refine ⟨ys, st', ?_, h6.cons x, i3⟩
      show (g (inj x) ρ).bind _ = _
      rw [h1]
      show (t ρ1 st).bind _ = _
      rw [h2]
      exact h5
/-! ### the dict of the lots met -/
def kvL (n : Nat) (ks : List Nat) : List (D × D) := ks.map fun m => (lotM n m, .bl true)
theorem kvL_len (n : Nat) (ks : List Nat) : (kvL n ks).length = ks.length := by unfold kvL; simp
def also (ks : List Nat) (m : Nat) : List Nat := if m ∈ ks then ks else ks ++ [m]
theorem mem_also {ks : List Nat} {m k : Nat} : k ∈ also ks m ↔ k ∈ ks ∨ k = m := by
  unfold also
  split
  · rename_i h
    exact ⟨.inl, fun q => q.elim id fun e => e ▸ h⟩
  · simp
theorem also_ne (ks : List Nat) (m : Nat) : also ks m ≠ [] := fun e => by
  have : m ∈ also ks m := mem_also.mpr (.inr rfl)
  rw [e] at this
  cases this
theorem also_nd {ks : List Nat} {m : Nat} (nd : ks.Nodup) : (also ks m).Nodup := by
  unfold also
  split
  · exact nd
  · rename_i h
    refine List.nodup_append.mpr ⟨nd, by simp, fun a ha b hb e => ?_⟩
    rw [List.mem_singleton.mp hb] at e
    exact h (e ▸ ha)
theorem put_lot {n : Nat} (hn : n ≤ 6) {ks : List Nat} (lt : ∀ k ∈ ks, k < 2 ^ n) {m : Nat} (hm : m < 2 ^ n) : F.put (kvL n ks) (lotM n m) (.bl true) = kvL n (also ks m) := by
  by_cases h : m ∈ ks
  · have e : also ks m = ks := by unfold also; rw [if_pos h]
    rw [e]
    unfold F.put
    have ha : ((kvL n ks).any fun p => decide (F.keyK p.1 = F.keyK (lotM n m))) = true := by
      rw [List.any_eq_true]
      exact ⟨_, List.mem_map.mpr ⟨m, h, rfl⟩, by simp⟩
    rw [if_pos ha]
    unfold kvL
    rw [List.map_map]
    apply List.map_congr_left
    intro k _
    show (if F.keyK (lotM n k) = F.keyK (lotM n m) then (lotM n k, D.bl true) else (lotM n k, D.bl true)) = _
    split <;> rfl
  · have e : also ks m = ks ++ [m] := by unfold also; rw [if_neg h]
    rw [e, put_new]
    · unfold kvL; simp
    · intro p hp q
      obtain ⟨k, hk, rfl⟩ := List.mem_map.mp hp
      exact h (key_lot_inj hn (lt k hk) hm q ▸ hk)
/-- met stands behind the store as it was -/
def HB (st0 : Store) (h n : Nat) (ks : List Nat) (st : Store) : Prop := HF (st0 ++ [.dct true (kvL n ks)]) h st ∧ h < st0.length ∧ ks.Nodup ∧ (∀ k ∈ ks, k < 2 ^ n) ∧ 1 ≤ n ∧ n ≤ 5
section
variable {st0 st : Store} {h most n kind : Nat} {ks : List Nat} {o5 o6 o7 o8 o9 o10 : Option D}
theorem HB.at (H : HB st0 h n ks st) : st[st0.length]? = some (.dct true (kvL n ks)) := by
  obtain ⟨⟨_, cc, rfl⟩, hl, _⟩ := H
  rw [List.getElem?_set_ne (Nat.ne_of_lt hl)]
  simp
theorem HB.few (H : HB st0 h n ks st) : ks.length ≤ 32 := by
  have h1 := nodup_le (2 ^ n) ks H.2.2.1 H.2.2.2.1
  have h2 : 2 ^ n ≤ 2 ^ 5 := Nat.pow_le_pow_right (by decide) H.2.2.2.2.2
  omega
theorem HB.draw (H : HB st0 h n ks st) {k : Nat} (k1 : 1 ≤ k) (k2 : k ≤ 1000) : ∃ (r : Nat) (st' : Store), F__law_draw_v2 [.ref h, .int k] st = some (.int r, st') ∧ r < k ∧ HB st0 h n ks st' := by
  obtain ⟨r, s1, e1, l1, H1⟩ := H.1.drawB k1 k2
  exact ⟨r, s1, e1, l1, H1, H.2⟩
theorem HB.put (H : HB st0 h n ks st) {m : Nat} (hm : m < 2 ^ n) : ∃ st', F.store st (.ref st0.length) (lotM n m) (.bl true) = some st' ∧ HB st0 h n (also ks m) st' := by
  have hat := H.at
  have hf := H.few
  obtain ⟨HH, hl, nd, lt, n1, n2⟩ := H
  refine ⟨st.set st0.length (.dct true (kvL n (also ks m))), ?_, ⟨?_, ?_⟩, hl, also_nd nd, fun k hk => ?_, n1, n2⟩
  · have hb : (kvL n ks).length < big := by rw [kvL_len]; unfold big; omega
    have hk : F.kindOk true (lotM n m) = true := by simp [F.kindOk, key_lot]
    simp only [F.store, hat]
    rw [if_pos ⟨hk, hb⟩, put_lot (by omega) lt hm]
  · obtain ⟨cells, i, g, x, c, e, ok⟩ := HH.1
    exact ⟨cells, i, g, x, c, by rw [List.getElem?_set_ne (Ne.symm (Nat.ne_of_lt hl))]; exact e, ok⟩
  · obtain ⟨_, cc, rfl⟩ := HH
    exact ⟨cc, by rw [List.set_comm _ _ (Nat.ne_of_lt hl), set_last]⟩
  · rcases mem_also.mp hk with q | rfl
    · exact lt k q
    · exact hm
/-- the frame of _law_family -/
def fb (h most n kind b : Nat) (o5 o6 o7 o8 o9 o10 : Option D) : Ev := [some (.ref h), some (.int most), some (.int n), some (.int kind), some (.ref b), o5, o6, o7, o8, o9, o10]
theorem lot_flip : ∀ n, n < 7 → ∀ o, o < 2 ^ n → ∀ p, p < n → (List.range n).filter (fun i => (bits n o).contains i != decide (i = p)) = bits n (o ^^^ 2 ^ p) := by decide +kernel
theorem flip_lt {n o p : Nat} (ho : o < 2 ^ n) (hp : p < n) : o ^^^ 2 ^ p < 2 ^ n := Nat.xor_lt_two_pow ho (Nat.pow_lt_pow_right (by decide) hp)
theorem row_tuple (n m : Nat) (st : Store) : F.tuple_ st [.lst ((bits n m).map fun (i : Nat) => .int (i : Int))] = some (lotM n m) := by rw [lotM_items]; rfl
theorem sorted_row {n m : Nat} (hn : n ≤ 6) (hm : m < 2 ^ n) (st : Store) : F.sorted st [.lst ((bits n m).map fun (i : Nat) => .int (i : Int))] = some (.lst ((bits n m).map fun (i : Nat) => .int (i : Int))) :=
  sorted_nats (bits n m) (by have := bits_len hn m; omega) (List.Perm.refl _) (bits_asc n (by omega) m hm) st
theorem lim_nat {n : Nat} (h : n ≤ 1000) : -I.lim ≤ (n : Int) ∧ (n : Int) ≤ I.lim := by unfold I.lim; omega
/-- a drawn lot -/
theorem fb_lot (H : HB st0 h n ks st) : ∃ (m : Nat) (st' : Store), S.set 6 (E.fn F.tuple_ (E.consA (E.comp [8] (G.name 8) (I.range1 (E.var 2)) (E.tv (E.op2 F.eq0 (E.call F__law_draw_v2 (E.consA (E.var 0) (E.consA (E.c (.int 2)) E.nilA))) (E.c (.int 0)))) (E.var 8)) E.nilA)) (fb h most n kind st0.length o5 o6 o7 o8 o9 o10) st = some (.nx, fb h most n kind st0.length o5 (some (lotM n m)) o7 o8 o9 o10, st') ∧ m < 2 ^ n ∧ HB st0 h n ks st' := by
  obtain ⟨ys, s1, e1, sub, H1⟩ := compL_sub (g := G.name 8) (t := E.tv (E.op2 F.eq0 (E.call F__law_draw_v2 (E.consA (E.var 0) (E.consA (E.c (.int 2)) E.nilA))) (E.c (.int 0)))) (m := E.var 8) (ρ := fb h most n kind st0.length o5 o6 o7 none o9 o10)
    (fun (i : Nat) => D.int (i : Int)) (HB st0 h n ks) (List.range n) st (fun x hx s Hs => by
      obtain ⟨r, s1, e1, l1, H1⟩ := Hs.draw (k := 2) (by decide) (by decide)
      have e1' : F__law_draw_v2 [.ref h, .int 2] s = some (.int r, s1) := e1
      exact ⟨_, decide ((r : Int) = 0), s1, rfl, by simp [fb, e1', eq_int], H1, by simp [fb]⟩) H
  refine ⟨toM ys, s1, ?_, toM_lt fun x hx => List.mem_range.mp (sub.subset hx), H1⟩
  have hl := lim_nat (n := n) (by have := H.2.2.2.2.2; omega)
  have ht := row_tuple n (toM ys) s1
  rw [bits_toM sub] at ht
  unfold fb at e1
  simp [fb, hl, range_D, e1, ht]
theorem sortedK_box (H : HB st0 h n ks st) : F.sortedK st [.ref st0.length] = some (.lst ((sortM n ks).map (lotM n))) := by
  have hf := H.few
  have hk : (kvL n ks).map (·.1) = ks.map (lotM n) := by unfold kvL; rw [List.map_map]; rfl
  have ok : F.SortOk (ks.map (lotM n)) := sortOk_tups (lotI n) ks (by omega)
  have e : (ks.map (lotM n)).mergeSort F.leD = (sortM n ks).map (lotM n) := by
    unfold sortM
    rw [List.map_mergeSort]
    intro a _ b _
    exact (leD_lot n a b).symm
  have okk : F.SortOk ((kvL n ks).map (·.1)) := by rw [hk]; exact ok
  simp only [F.sortedK, F.dctOf, H.at, Option.bind_some, if_true, if_pos okk, hk, e]
theorem len_box (H : HB st0 h n ks st) : F.len st [.ref st0.length] = some (.int ks.length) := by
  simp [F.len, F.seq, F.dctOf, H.at, kvL_len]
theorem ix_lots {ks : List Nat} {r : Nat} (hr : r < ks.length) (st : Store) : F.ix st (.lst (ks.map (lotM n))) (.int r) = some (lotM n ks[r]) := by
  simp [F.ix, F.dctOf, F.seq, L2.atI, L2.ixN, hr]
/-- .. or one near another -/
theorem fb_near {m : Nat} (H : HB st0 h n ks st) (hm : m < 2 ^ n) : ∃ (m' : Nat) (st' : Store) (p7 p8 : Option D), b__law_family_v2_1 (fb h most n kind st0.length o5 (some (lotM n m)) o7 o8 o9 o10) st = some (.nx, fb h most n kind st0.length o5 (some (lotM n m')) p7 p8 o9 o10, st') ∧ m' < 2 ^ n ∧ HB st0 h n ks st' := by
  by_cases hk : (kind : Int) = 1 ∧ 0 < (ks.length : Int)
  · obtain ⟨hk1, hk2⟩ := hk
    have hf := H.few
    obtain ⟨r, s1, e1, l1, H1⟩ := H.draw (k := ks.length) (by omega) (by omega)
    have n5 := H.2.2.2.2.2
    obtain ⟨p, s2, e2, l2, H2⟩ := H1.draw (k := n) H.2.2.2.2.1 (by omega)
    have hsl : (sortM n ks).length = ks.length := (sortM_perm n ks).length_eq
    have hr : r < (sortM n ks).length := by omega
    have hix := ix_lots (n := n) hr s1
    have hol : (sortM n ks)[r] < 2 ^ n := H.2.2.2.1 _ (sortM_mem.mp (List.getElem_mem hr))
    generalize (sortM n ks)[r] = o at hix hol
    have hml := flip_lt hol l2
    refine ⟨o ^^^ 2 ^ p, s2, some (lotM n o), some (.int p), ?_, hml, H2⟩
    have hs := sortedK_box H
    have hlen := len_box H
    have hl := lim_nat (n := n) (by omega)
    have hc : E.compL (G.name 10) (E.tv (E.op2 F.ne0 (E.op2 F.in_ (E.var 10) (E.var 7)) (E.op2 F.eq0 (E.var 10) (E.var 8)))) (E.var 10) (fb h most n kind st0.length o5 (some (lotM n m)) (some (lotM n o)) (some (.int p)) o9 none) ((List.range n).map fun (i : Nat) => D.int (i : Int)) s2
        = some ((bits n (o ^^^ 2 ^ p)).map fun (i : Nat) => D.int (i : Int), s2) := by
      rw [compL_pure (fun (i : Nat) => D.int (i : Int)) (fun i => (bits n o).contains i != decide (i = p)) (fun i => D.int (i : Int)), lot_flip n (by omega) o hol p l2]
      intro i hi
      refine ⟨_, rfl, ?_, fun _ => by simp [fb]⟩
      simp [fb, in_lot, eq_int, ne_bl]
      rw [Bool.eq_iff_iff]
      by_cases h1 : i ∈ bits n o <;> by_cases h2 : (i : Int) = p <;> simp [h1, h2] <;> omega
    have hso := sorted_row (n := n) (by omega) hml s2
    have ht := row_tuple n (o ^^^ 2 ^ p) s2
    unfold fb at hc
    rw [hk1] at hc
    simp [b__law_family_v2_1, fb, hk1, eq_int, hlen, F.gt, hk2, hs, e1, hix, e2, hl, range_D, hc, hso, ht]
    intro q
    rw [q] at hk2
    exact absurd hk2 (by decide)
  · refine ⟨m, st, o7, o8, ?_, hm, H⟩
    have hlen := len_box H
    by_cases h1 : (kind : Int) = 1
    · have h2 : ¬ 0 < (ks.length : Int) := fun q => hk ⟨h1, q⟩
      simp [b__law_family_v2_1, fb, h1, eq_int, hlen, F.gt]
      omega
    · simp [b__law_family_v2_1, fb, h1, eq_int]
end
end Sm.Pr
/-! ## MathN -/
/-! Plain laws, part N: a drawn family, its turns (second kind of laws). -/
namespace Sm.Pr
open PySem Sm
section
variable {st0 st : Store} {h most n kind : Nat} {ks : List Nat} {o5 o6 o7 o8 o9 o10 : Option D}
theorem within_lot {n m : Nat} (hn : n ≤ 6) (hm : m < 2 ^ n) (st : Store) : F__law_within_v2 [lotM n m] st = some (.lst ((subs n m).map (lotM n)), st) := by
  rw [← rowD_bits, law_within_okB (bits_len hn m), within_subs n (by omega) m hm, List.map_map, show rowD ∘ bits n = lotM n from funext fun k => rowD_bits n k]
theorem subs_lt {n m : Nat} (hn : n ≤ 6) (hm : m < 2 ^ n) {k : Nat} (hk : k ∈ subs n m) : k < 2 ^ n :=
  (of_decide_eq_true (List.all_eq_true.mp (subs_in n (by omega) m hm) k hk)).1
/-- .. and all within it -/
theorem fb_less {m : Nat} (H : HB st0 h n ks st) (hne : ks ≠ []) (hm : m < 2 ^ n) : ∃ (ks' : List Nat) (st' : Store) (p9 : Option D), S.for_ (G.name 9) (I.all (E.call F__law_within_v2 (E.consA (E.var 6) E.nilA))) b__law_family_v2_2 (fb h most n kind st0.length o5 (some (lotM n m)) o7 o8 o9 o10) st = some (.nx, fb h most n kind st0.length o5 (some (lotM n m)) o7 o8 p9 o10, st') ∧ ks' ≠ [] ∧ HB st0 h n ks' st' := by
  have n5 := H.2.2.2.2.2
  have hw := within_lot (n := n) (by omega) hm st
  have loop := loop_inv (g := G.name 9) (b := b__law_family_v2_2) (lotM n) (fun _ ρ s => ∃ ks' p9, ρ = fb h most n kind st0.length o5 (some (lotM n m)) o7 o8 p9 o10 ∧ ks' ≠ [] ∧ HB st0 h n ks' s) (subs n m)
    (fun done k ρ s hd hI => by
      obtain ⟨r, hr⟩ := hd
      obtain ⟨ks', p9, rfl, hne', Hs⟩ := hI
      have hk : k < 2 ^ n := subs_lt (by omega) hm (by rw [hr]; simp)
      obtain ⟨s1, e1, H1⟩ := Hs.put hk
      exact ⟨_, .nx, _, s1, rfl, by simp [b__law_family_v2_2, fb, e1], .inl rfl, also ks' k, some (lotM n k), rfl, also_ne _ _, H1⟩) (subs n m) [] (fb h most n kind st0.length o5 (some (lotM n m)) o7 o8 o9 o10) st rfl ⟨ks, o9, rfl, hne, H⟩
  obtain ⟨ρ', s', h1, ks', p9, rfl, hne', Hs⟩ := loop
  exact ⟨ks', s', p9, by rw [v_for, v_all, v_call, v_consA, show E.var 6 (fb h most n kind st0.length o5 (some (lotM n m)) o7 o8 o9 o10) st = some (lotM n m, st) from rfl, Option.bind_some, v_nilA, Option.map_some, Option.bind_some, hw, Option.bind_some, show I.allF (.lst ((subs n m).map (lotM n))) = some ((subs n m).map (lotM n)) from rfl, Option.map_some, Option.bind_some, h1], hne', Hs⟩
theorem seq_of {x y : MS} {ρ ρ1 : Ev} {st st1 : Store} {o : Option (Fl × Ev × Store)} (h1 : x ρ st = some (.nx, ρ1, st1)) (h2 : y ρ1 st1 = o) : S.seq x y ρ st = o := by
  rw [v_seq, h1, Option.bind_some]
  exact h2
theorem fb_turn (H : HB st0 h n ks st) : ∃ (ks' : List Nat) (st' : Store) (p6 p7 p8 p9 : Option D), b__law_family_v2_3 (fb h most n kind st0.length o5 o6 o7 o8 o9 o10) st = some (.nx, fb h most n kind st0.length o5 p6 p7 p8 p9 o10, st') ∧ ks' ≠ [] ∧ HB st0 h n ks' st' := by
  obtain ⟨m0, s1, e1, l1, H1⟩ := fb_lot (most := most) (kind := kind) (o5 := o5) (o6 := o6) (o7 := o7) (o8 := o8) (o9 := o9) (o10 := o10) H
  obtain ⟨m, s2, p7, p8, e2, l2, H2⟩ := fb_near (most := most) (kind := kind) (o5 := o5) (o7 := o7) (o8 := o8) (o9 := o9) (o10 := o10) H1 l1
  obtain ⟨s3, e3, H3⟩ := H2.put l2
  have e3' : S.store (E.var 4) (E.var 6) (E.c (.bl true)) (fb h most n kind st0.length o5 (some (lotM n m)) p7 p8 o9 o10) s2 = some (.nx, fb h most n kind st0.length o5 (some (lotM n m)) p7 p8 o9 o10, s3) := by simp [fb, e3]
  have fin : ∃ (ks' : List Nat) (st' : Store) (p9 : Option D), S.ite (E.andT (E.tv (E.op2 F.eq0 (E.var 3) (E.c (.int 2)))) (E.tv (E.op2 F.eq0 (E.call F__law_draw_v2 (E.consA (E.var 0) (E.consA (E.c (.int 2)) E.nilA))) (E.c (.int 0))))) (S.for_ (G.name 9) (I.all (E.call F__law_within_v2 (E.consA (E.var 6) E.nilA)))
    b__law_family_v2_2) S.skip (fb h most n kind st0.length o5 (some (lotM n m)) p7 p8 o9 o10) s3 = some (.nx, fb h most n kind st0.length o5 (some (lotM n m)) p7 p8 p9 o10, st') ∧ ks' ≠ [] ∧ HB st0 h n ks' st' := by
    by_cases hk : (kind : Int) = 2
    · obtain ⟨r, s4, e4, l4, H4⟩ := H3.draw (k := 2) (by decide) (by decide)
      have e4' : F__law_draw_v2 [.ref h, .int 2] s3 = some (.int r, s4) := e4
      by_cases hr : (r : Int) = 0
      · obtain ⟨ks', s5, p9, e5, hne, H5⟩ := fb_less (most := most) (kind := kind) (o5 := o5) (o7 := p7) (o8 := p8) (o9 := o9) (o10 := o10) H4 (also_ne ks m) l2
        refine ⟨ks', s5, p9, ?_, hne, H5⟩
        have ht : E.andT (E.tv (E.op2 F.eq0 (E.var 3) (E.c (.int 2)))) (E.tv (E.op2 F.eq0 (E.call F__law_draw_v2 (E.consA (E.var 0) (E.consA (E.c (.int 2)) E.nilA))) (E.c (.int 0)))) (fb h most n kind st0.length o5 (some (lotM n m)) p7 p8 o9 o10) s3 = some (true, s4) := by simp [fb, hk, eq_int, e4', hr]
        rw [v_iteS, ht]
        exact e5
      · refine ⟨_, s4, o9, ?_, also_ne ks m, H4⟩
        have ht : E.andT (E.tv (E.op2 F.eq0 (E.var 3) (E.c (.int 2)))) (E.tv (E.op2 F.eq0 (E.call F__law_draw_v2 (E.consA (E.var 0) (E.consA (E.c (.int 2)) E.nilA))) (E.c (.int 0)))) (fb h most n kind st0.length o5 (some (lotM n m)) p7 p8 o9 o10) s3 = some (false, s4) := by
          have hr' : r ≠ 0 := by omega
          simp [fb, hk, eq_int, e4', hr, hr']
        rw [v_iteS, ht]
        rfl
    · refine ⟨_, s3, o9, ?_, also_ne ks m, H3⟩
      have ht : E.andT (E.tv (E.op2 F.eq0 (E.var 3) (E.c (.int 2)))) (E.tv (E.op2 F.eq0 (E.call F__law_draw_v2 (E.consA (E.var 0) (E.consA (E.c (.int 2)) E.nilA))) (E.c (.int 0)))) (fb h most n kind st0.length o5 (some (lotM n m)) p7 p8 o9 o10) s3 = some (false, s3) := by simp [fb, hk, eq_int]
      rw [v_iteS, ht]
      rfl
  obtain ⟨ks', s4, p9, e4, hne, H4⟩ := fin
  exact ⟨ks', s4, some (lotM n m), p7, p8, p9, seq_of e1 (seq_of e2 (seq_of e3' e4)), hne, H4⟩
theorem fam_of_sort {n : Nat} {ks : List Nat} (n1 : 1 ≤ n) (n2 : n ≤ 6) (lt : ∀ k ∈ ks, k < 2 ^ n) (nd : ks.Nodup) (ne : ks ≠ []) : Fam n (sortM n ks) := Fam.of n1 n2 lt nd ne
/-- a drawn family is one; the store grows by a box -/
theorem law_family_okB {st : Store} (H : Hand h st) (m1 : 1 ≤ most) (m2 : most ≤ 5) : ∃ (n : Nat) (ms : List Nat) (st' : Store) (b : Cell), F__law_family_v2 [.ref h, .int most] st = some (partsD n ms, st') ∧ Fam n ms ∧ n ≤ most ∧ HF (st ++ [b]) h st' := by
  have hl0 : h < st.length := by
    obtain ⟨_, _, _, _, _, e, _⟩ := H
    exact (List.getElem?_eq_some_iff.mp e).1
  obtain ⟨r1, s1, e1, l1, H1⟩ := (HF.start H).drawB m1 (by omega)
  obtain ⟨kind, s2, e2, l2, H2⟩ := H1.drawB (k := 3) (by decide) (by decide)
  have e2' : F__law_draw_v2 [.ref h, .int 3] s1 = some (.int kind, s2) := e2
  have hlen2 : s2.length = st.length := by obtain ⟨_, cc, rfl⟩ := H2; simp
  have HB2 : HB st h (1 + r1) [] (s2 ++ [.dct true []]) := by
    refine ⟨⟨?_, ?_⟩, hl0, List.nodup_nil, by simp, by omega, by omega⟩
    · obtain ⟨⟨cells, i, g, x, c, e, ok⟩, _⟩ := H2
      exact ⟨cells, i, g, x, c, by rw [List.getElem?_append_left (by omega)]; exact e, ok⟩
    · obtain ⟨_, cc, rfl⟩ := H2
      refine ⟨cc, ?_⟩
      rw [List.set_append_left _ _ hl0]
      rfl
  have lst3 : ∃ (k : Nat) (s3 : Store), F__law_any [.ref h, .lst [.int 2, .int 6, .int 14]] (s2 ++ [.dct true []]) = some (.int k, s3) ∧ 1 ≤ k ∧ k ≤ 14 ∧ HB st h (1 + r1) [] s3 := by
    obtain ⟨d, s3, e3, hd, H3⟩ := HB2.1.pickB (ms := [.int 2, .int 6, .int 14]) (by simp) (by simp)
    rcases List.mem_cons.mp hd with rfl | hd
    · exact ⟨2, s3, e3, by decide, by decide, H3, HB2.2⟩
    rcases List.mem_cons.mp hd with rfl | hd
    · exact ⟨6, s3, e3, by decide, by decide, H3, HB2.2⟩
    rw [List.mem_singleton.mp hd] at e3
    exact ⟨14, s3, e3, by decide, by decide, H3, HB2.2⟩
  obtain ⟨k, s3, e3, k1, k2, H3⟩ := lst3
  obtain ⟨r4, s4, e4, l4, H4⟩ := H3.draw k1 (by omega)
  have loop := loop_inv (g := G.name 5) (b := b__law_family_v2_3) (fun (p : Nat) => D.int (p : Int)) (fun done ρ s => ∃ ks p5 p6 p7 p8 p9, ρ = fb h most (1 + r1) kind st.length p5 p6 p7 p8 p9 none ∧ (done ≠ [] → ks ≠ []) ∧ HB st h (1 + r1) ks s) (List.range (1 + r4))
    (fun done t ρ s hd hI => by
      obtain ⟨ks, p5, p6, p7, p8, p9, rfl, _, Hs⟩ := hI
      obtain ⟨ks', s', q6, q7, q8, q9, e, hne, H'⟩ := fb_turn (most := most) (kind := kind) (o5 := some (.int t)) (o6 := p6) (o7 := p7) (o8 := p8) (o9 := p9) (o10 := none) Hs
      exact ⟨_, .nx, _, s', rfl, e, .inl rfl, ks', some (.int t), q6, q7, q8, q9, rfl, fun _ => hne, H'⟩) (List.range (1 + r4)) [] (fb h most (1 + r1) kind st.length none none none none none none) s4 rfl ⟨[], none, none, none, none, none, rfl, fun q => absurd rfl q, H4⟩
  obtain ⟨ρ', s5, h5, ks, p5, p6, p7, p8, p9, rfl, hne, H5⟩ := loop
  have hne' : ks ≠ [] := hne (by
    intro q
    have := congrArg List.length q
    rw [List.length_range] at this
    simp at this)
  refine ⟨1 + r1, sortM (1 + r1) ks, s5, _, ?_, fam_of_sort (by omega) (by omega) H5.2.2.2.1 H5.2.2.1 hne', by omega, H5.1⟩
  have a1 : t__law_family_v2_1 [some (.ref h), some (.int most), none, none, none, none, none, none, none, none, none] st = some (.nx, [some (.ref h), some (.int most), some (.int (1 + r1 : Nat)), none, none, none, none, none, none, none, none], s1) := by
    simp [t__law_family_v2_1, e1, F.add]
  have a2 : t__law_family_v2_2 [some (.ref h), some (.int most), some (.int (1 + r1 : Nat)), none, none, none, none, none, none, none, none] s1 = some (.nx, fb h most (1 + r1) kind st.length none none none none none none, s2 ++ [.dct true []]) := by
    simp [t__law_family_v2_2, e2', hlen2, fb]
  have a3 : t__law_family_v2_3 (fb h most (1 + r1) kind st.length none none none none none none) (s2 ++ [.dct true []]) = some (.nx, fb h most (1 + r1) kind st.length p5 p6 p7 p8 p9 none, s5) := by
    have hl := lim_nat (n := 1 + r4) (by omega)
    have hc : ((1 + r4 : Nat) : Int) = 1 + (r4 : Int) := by omega
    have hr : I.rangeD 0 (1 + (r4 : Int)) = (List.range (1 + r4)).map fun (i : Nat) => .int (i : Int) := by rw [← hc]; exact range_D _
    rw [hc] at hl
    have hi : I.range1 (E.op2 F.add (E.c (.int 1)) (E.call F__law_draw_v2 (E.consA (E.var 0) (E.consA (E.call F__law_any (E.consA (E.var 0) (E.consA (E.lst (E.consA (E.c (.int 2)) (E.consA (E.c (.int 6)) (E.consA (E.c (.int 14)) E.nilA)))) E.nilA))) E.nilA)))) (fb h most (1 + r1) kind st.length none none none none none none) (s2 ++ [.dct true []]) = some ((List.range (1 + r4)).map fun (i : Nat) => .int (i : Int), s4) := by
      simp [fb, e3, e4, F.add, hl, hr]
    unfold t__law_family_v2_3
    rw [v_for, hi]
    exact h5
  have a4 : t__law_family_v2_4 (fb h most (1 + r1) kind st.length p5 p6 p7 p8 p9 none) s5 = some (.ret (partsD (1 + r1) (sortM (1 + r1) ks)), fb h most (1 + r1) kind st.length p5 p6 p7 p8 p9 none, s5) := by
    have hs := sortedK_box H5
    have ht : ∀ l : List Nat, F.tuple_ s5 [.lst (l.map (lotM (1 + r1)))] = some (famT (1 + r1) l) := fun l => rfl
    simp [t__law_family_v2_4, fb, hs, ht, partsD]
  exact fnA_ret (ρ' := fb h most (1 + r1) kind st.length p5 p6 p7 p8 p9 none) rfl (seq_of a1 (seq_of a2 (seq_of a3 a4)))
end
end Sm.Pr
/-! ## MathO -/
/-! Plain laws, part O: patterns, differences, lots that meet, least lots (second kind of laws). -/
namespace Sm.Pr
open PySem Sm
section
variable {ρ : Ev} {st st1 st2 st3 : Store} {a b c : ME} {d e r : D} {xs out : List D}
theorem call2_of {F : Fn} {o : Option (D × Store)} (h1 : a ρ st = some (d, st1)) (h2 : b ρ st1 = some (e, st2)) (h3 : F [d, e] st2 = o) : E.call F (E.consA a (E.consA b E.nilA)) ρ st = o := by
  rw [v_call, v_consA, h1, Option.bind_some, v_consA, h2, Option.bind_some, v_nilA, Option.map_some, Option.map_some, Option.bind_some, h3]
theorem call3_of {F : Fn} {f : D} {o : Option (D × Store)} (h1 : a ρ st = some (d, st1)) (h2 : b ρ st1 = some (e, st2)) (h3 : c ρ st2 = some (f, st3)) (h4 : F [d, e, f] st3 = o) : E.call F (E.consA a (E.consA b (E.consA c E.nilA))) ρ st = o := by
  rw [v_call, v_consA, h1, Option.bind_some, v_consA, h2, Option.bind_some, v_consA, h3, Option.bind_some, v_nilA, Option.map_some, Option.map_some, Option.map_some, Option.bind_some, h4]
theorem op2_of {f : Store → D → D → Option D} (h1 : a ρ st = some (d, st1)) (h2 : b ρ st1 = some (e, st2)) (h3 : f st2 d e = some r) : E.op2 f a b ρ st = some (r, st2) := by
  rw [v_op2, h1, Option.bind_some, h2, Option.bind_some, h3, Option.map_some]
theorem tv_of {k : Bool} (h1 : a ρ st = some (.bl k, st1)) : E.tv a ρ st = some (k, st1) := by
  rw [v_tv, h1, Option.bind_some]
theorem set_of {i : Nat} (h1 : a ρ st = some (d, st1)) : S.set i a ρ st = some (.nx, ρ.set i (some d), st1) := by
  rw [v_set, h1, Option.map_some]
theorem expr_of (h1 : a ρ st = some (d, st1)) : S.expr a ρ st = some (.nx, ρ, st1) := by
  rw [v_expr, h1, Option.map_some]
theorem compS_of {vs : List Nat} {g : MG} {i : MI} {t : MT} {m : ME} (h1 : i ρ st = some (xs, st1)) (h2 : E.compL g t m (wipeE ρ vs) xs st1 = some (out, st2)) {j : Nat} : S.set j (E.comp vs g i t m) ρ st = some (.nx, ρ.set j (some (.lst out)), st2) := set_of (comp_of h1 h2)
/-- a comprehension over a list as it stands, of pure parts -/
theorem compLR_pure {α : Type} {g : MG} {t : MT} {m : ME} {ρ : Ev} {st : Store} {d : D} (inj : α → D) (p : α → Bool) (f : α → D) (l : List α) (hd : F.lstOf st d = some (l.map inj))
    (h : ∀ x ∈ l, ∃ ρ1, g (inj x) ρ = some ρ1 ∧ t ρ1 st = some (p x, st) ∧ (p x = true → m ρ1 st = some (f x, st))) : ∀ (k i : Nat), l.length - i < k → E.compLR g t m ρ d k i st = some (((l.drop i).filter p).map f, st)
  | 0, i, hk => by omega
  | k + 1, i, hk => by
    unfold E.compLR
    rw [hd, Option.bind_some, List.getElem?_map]
    by_cases hi : i < l.length
    · rw [List.getElem?_eq_getElem hi, List.drop_eq_getElem_cons hi]
      obtain ⟨ρ1, h1, h2, h3⟩ := h l[i] (List.getElem_mem hi)
      have ih := compLR_pure inj p f l hd h k (i + 1) (by omega)
      simp only [Option.map_some, h1, Option.bind_some, h2]
      cases hp : p l[i] with
      | true =>
        rw [List.filter_cons_of_pos hp, List.map_cons]
        simp only [if_true, h3 hp, Option.bind_some, ih, Option.map_some]
      | false =>
        rw [List.filter_cons_of_neg (by rw [hp]; decide)]
        simp only [Bool.false_eq_true, if_false, ih]
    · rw [List.getElem?_eq_none (by omega), List.drop_eq_nil_of_le (by omega)]
      rfl
theorem compR_of {vs : List Nat} {g : MG} {t : MT} {m : ME} {α : Type} (inj : α → D) (p : α → Bool) (f : α → D) (l : List α) (h1 : a ρ st = some (d, st)) (hd : F.lstOf st d = some (l.map inj)) (hl : l.length < 5000)
    (h : ∀ x ∈ l, ∃ ρ1, g (inj x) (wipeE ρ vs) = some ρ1 ∧ t ρ1 st = some (p x, st) ∧ (p x = true → m ρ1 st = some (f x, st))) : E.compR vs g a t m ρ st = some (.lst ((l.filter p).map f), st) := by
  unfold E.compR
  rw [h1, Option.bind_some]
  simp only [hd, Option.isSome_some, if_true]
  rw [compLR_pure inj p f l hd h 5000 0 (by omega)]
  rfl
end
/-! ### equality of lots, of rows of lots -/
theorem eqD_lot {n a b : Nat} (hn : n ≤ 6) (ha : a < 2 ^ n) (hb : b < 2 ^ n) : F.eqD (lotM n a) (lotM n b) = decide (a = b) := by
  unfold F.eqD
  show PyData.eqv (F.toPy (F.tupI _)) (F.toPy (F.tupI _)) = _
  rw [toPy_tupI, toPy_tupI, PyData.eqv, eqv_ints]
  rw [Bool.eq_iff_iff]
  simp
  exact ⟨lot_inj hn ha hb, fun e => by rw [e]⟩
theorem dat_lot (k n m : Nat) : F.dat (k + 1) (lotM n m) = true := dat_tupI _ _
theorem eq_lot {n a b : Nat} (hn : n ≤ 6) (ha : a < 2 ^ n) (hb : b < 2 ^ n) (st : Store) : F.eq0 st (lotM n a) (lotM n b) = some (.bl (decide (a = b))) := by
  simp only [F.eq0, F.deep, dat_lot, eqD_lot hn ha hb, and_self, if_true]
theorem ne_lot {n a b : Nat} (hn : n ≤ 6) (ha : a < 2 ^ n) (hb : b < 2 ^ n) (st : Store) : F.ne0 st (lotM n a) (lotM n b) = some (.bl (!decide (a = b))) := by
  simp only [F.ne0, F.deep, dat_lot, eqD_lot hn ha hb, and_self, if_true]
theorem eqD_fam {n : Nat} {ms ks : List Nat} (hn : n ≤ 6) (h : ∀ m ∈ ms, m < 2 ^ n) (h' : ∀ m ∈ ks, m < 2 ^ n) : F.eqD (famT n ms) (famT n ks) = decide (ms = ks) := by
  unfold F.eqD
  rw [toPy_fam, toPy_fam, PyData.eqv, eqv_rows]
  rw [Bool.eq_iff_iff]
  simp
  exact ⟨lots_inj hn h h', fun e => by rw [e]⟩
theorem eq_famT {n : Nat} {ms ks : List Nat} (hn : n ≤ 6) (h : ∀ m ∈ ms, m < 2 ^ n) (h' : ∀ m ∈ ks, m < 2 ^ n) (st : Store) : F.eq0 st (famT n ms) (famT n ks) = some (.bl (decide (ms = ks))) := by
  simp only [F.eq0, F.deep, dat_fam, eqD_fam hn h h', and_self, if_true]
theorem ne_famT {n : Nat} {ms ks : List Nat} (hn : n ≤ 6) (h : ∀ m ∈ ms, m < 2 ^ n) (h' : ∀ m ∈ ks, m < 2 ^ n) (st : Store) : F.ne0 st (famT n ms) (famT n ks) = some (.bl (!decide (ms = ks))) := by
  simp only [F.ne0, F.deep, dat_fam, eqD_fam hn h h', and_self, if_true]
/-- a lot among lots -/
theorem in_lots {n : Nat} {ks : List Nat} {m : Nat} (hn : n ≤ 6) (h : ∀ k ∈ ks, k < 2 ^ n) (hm : m < 2 ^ n) (st : Store) : F.in_ st (lotM n m) (.lst (ks.map (lotM n))) = some (.bl (decide (m ∈ ks))) := by
  have h1 : (ks.map (lotM n)).all (F.dat F.deep) = true := by simp [F.deep, dat_lot]
  have h2 : ∀ l : List Nat, (∀ k ∈ l, k < 2 ^ n) → (l.map (lotM n)).any (fun y => F.eqD y (lotM n m)) = decide (m ∈ l) := by
    intro l
    induction l with
    | nil => intro _; rfl
    | cons x l ih =>
      intro hl
      rw [List.map_cons, List.any_cons, ih fun k hk => hl k (List.mem_cons_of_mem _ hk), eqD_lot hn (hl x List.mem_cons_self) hm]
      rw [Bool.eq_iff_iff]
      simp
      exact ⟨fun q => q.imp Eq.symm id, fun q => q.imp Eq.symm id⟩
  have h3 : F.dat F.deep (lotM n m) = true := dat_lot 11 n m
  simp only [F.in_, F.dctOf, F.seq, F.lstOf, h1, h3, and_self, if_true, h2 ks h]
/-! ### patterns, differences -/
theorem and_lt {n a b : Nat} (hb : b < 2 ^ n) : a &&& b < 2 ^ n := Nat.lt_of_le_of_lt Nat.and_le_right hb
theorem and_ltL {n a b : Nat} (ha : a < 2 ^ n) : a &&& b < 2 ^ n := Nat.lt_of_le_of_lt Nat.and_le_left ha
theorem bits_and (n a l : Nat) : (bits n l).filter (fun i => (bits n a).contains i) = bits n (a &&& l) := by
  refine rows_eq ((bits_lt n l).filter _) (bits_lt n _) fun x => ?_
  rw [List.mem_filter, List.contains_iff_mem, mem_bits, mem_bits, mem_bits, Nat.testBit_and]
  simp
  constructor
  · rintro ⟨⟨h1, h2⟩, _, h3⟩; exact ⟨h1, h3, h2⟩
  · rintro ⟨h1, h2, h3⟩; exact ⟨⟨h1, h3⟩, h1, h2⟩
theorem bits_xor (n a b : Nat) : (bits n (a ||| b)).filter (fun i => (bits n a).contains i != (bits n b).contains i) = bits n (a ^^^ b) := by
  refine rows_eq ((bits_lt n _).filter _) (bits_lt n _) fun x => ?_
  rw [List.mem_filter, mem_bits, mem_bits, Nat.testBit_or, Nat.testBit_xor]
  constructor
  · rintro ⟨⟨h1, h2⟩, h3⟩
    rw [bits_has h1, bits_has h1] at h3
    refine ⟨h1, ?_⟩
    cases q : a.testBit x <;> cases r : b.testBit x <;> simp_all
  · rintro ⟨h1, h2⟩
    rw [bits_has h1, bits_has h1]
    refine ⟨⟨h1, ?_⟩, ?_⟩ <;> (cases q : a.testBit x <;> cases r : b.testBit x <;> simp_all)
theorem all_lot (n m : Nat) : I.allF (lotM n m) = some ((bits n m).map fun (i : Nat) => D.int (i : Int)) := by rw [lotM_items]; rfl
theorem law_pattern_ok (n a l : Nat) (st : Store) : F__law_pattern [lotM n a, lotM n l] st = some (lotM n (a &&& l), st) := by
  refine fnA_ret (ρ' := [some (lotM n a), some (lotM n l), none]) rfl ?_
  have hc : E.compL (G.name 2) (E.tv (E.op2 F.in_ (E.var 2) (E.var 0))) (E.var 2) [some (lotM n a), some (lotM n l), none] ((bits n l).map fun (i : Nat) => D.int (i : Int)) st = some ((bits n (a &&& l)).map fun (i : Nat) => D.int (i : Int), st) := by
    rw [compL_pure (fun (i : Nat) => D.int (i : Int)) (fun i => (bits n a).contains i) (fun i => D.int (i : Int)), bits_and]
    intro i hi
    exact ⟨_, rfl, by simp [in_lot], fun _ => by simp⟩
  exact ret_of (fn1_of (comp_of (all_of rfl (all_lot n l)) hc) (row_tuple n _ st))
theorem add_lots {n a b : Nat} (hn : n ≤ 6) (st : Store) : F.add st (lotM n a) (lotM n b) = some (.tup ((bits n a ++ bits n b).map fun (i : Nat) => .int (i : Int))) := by
  have l1 := bits_len hn a
  have l2 := bits_len hn b
  have : (bits n a).length + (bits n b).length ≤ big := by unfold big; omega
  rw [lotM_items, lotM_items]
  simp [F.add, this]
/-- differing, _law_differs -/
theorem differing_ok {n a b : Nat} (hn : n ≤ 6) (ha : a < 2 ^ n) (hb : b < 2 ^ n) (st : Store) : F_differing [lotM n a, lotM n b] st = some (lotM n (a ^^^ b), st) := by
  refine fnA_ret (ρ' := [some (lotM n a), some (lotM n b), none]) rfl ?_
  have hadd := add_lots (a := a) (b := b) hn st
  have hx := List.isPerm_iff.mp (lot_xor n (by omega) a ha b hb)
  have hlen : ((bits n a ++ bits n b).filter fun i => (bits n a).contains i != (bits n b).contains i).length ≤ 1000 := by
    have l1 := bits_len hn a
    have l2 := bits_len hn b
    refine Nat.le_trans (List.length_filter_le _ _) ?_
    rw [List.length_append]; omega
  have hs := sorted_nats _ hlen hx (bits_asc n (by omega) _ (xor_lt ha hb)) st
  have hc : E.compL (G.name 2) (E.tv (E.op2 F.ne0 (E.op2 F.in_ (E.var 2) (E.var 0)) (E.op2 F.in_ (E.var 2) (E.var 1)))) (E.var 2) [some (lotM n a), some (lotM n b), none] ((bits n a ++ bits n b).map fun (i : Nat) => D.int (i : Int)) st = some (((bits n a ++ bits n b).filter fun i => (bits n a).contains i != (bits n b).contains i).map fun (i : Nat) => D.int (i : Int), st) := by
    rw [compL_pure (fun (i : Nat) => D.int (i : Int)) (fun i => (bits n a).contains i != (bits n b).contains i) (fun i => D.int (i : Int))]
    intro i hi
    refine ⟨_, rfl, ?_, fun _ => by simp⟩
    simp [in_lot, ne_bl]
    cases decide (i ∈ bits n a) <;> cases decide (i ∈ bits n b) <;> rfl
  exact ret_of (fn1_of (fn1_of (comp_of (all_of (op2_of (a := E.var 0) (b := E.var 1) rfl rfl hadd) rfl) hc) hs) (row_tuple n _ st))
theorem ints_nat (l : List Nat) : F.intL (l.map fun (i : Nat) => D.int (i : Int)) = some (l.map fun (i : Nat) => (i : Int)) := ints_of (fun (i : Nat) => (i : Int)) l
theorem sortZ_row {n a b : Nat} : Sm.sortZ ((bits n a ++ bits n b).map fun (i : Nat) => (i : Int)) = (bits n (a ||| b)).map fun (i : Nat) => (i : Int) := by
  unfold Sm.sortZ
  have nd : ((once ((bits n a ++ bits n b).map fun (i : Nat) => (i : Int))).mergeSort leZ).Nodup := (List.mergeSort_perm _ _).nodup_iff.mpr (nodup_once _)
  have s2 : ((bits n (a ||| b)).map fun (i : Nat) => (i : Int)).Pairwise (· < ·) := List.pairwise_map.mpr ((bits_lt n _).imp fun h => by omega)
  have p : ((once ((bits n a ++ bits n b).map fun (i : Nat) => (i : Int))).mergeSort leZ).Perm ((bits n (a ||| b)).map fun (i : Nat) => (i : Int)) := by
    refine (List.perm_ext_iff_of_nodup nd (s2.imp Int.ne_of_lt)).mpr fun x => ?_
    rw [(List.mergeSort_perm _ _).mem_iff, mem_once, List.mem_map, List.mem_map]
    constructor
    · rintro ⟨i, hi, rfl⟩
      refine ⟨i, ?_, rfl⟩
      rw [mem_bits, Nat.testBit_or]
      rcases List.mem_append.mp hi with q | q <;> (have := mem_bits.mp q; simp [this])
    · rintro ⟨i, hi, rfl⟩
      refine ⟨i, ?_, rfl⟩
      rw [mem_bits, Nat.testBit_or] at hi
      rw [List.mem_append, mem_bits, mem_bits]
      obtain ⟨h1, h2⟩ := hi
      simp at h2
      exact h2.imp (fun q => ⟨h1, q⟩) fun q => ⟨h1, q⟩
  refine p.eq_of_pairwise (le := (· ≤ ·)) (fun a b _ _ h h' => Int.le_antisymm h h') ?_ (s2.imp Int.le_of_lt)
  refine (List.pairwise_mergeSort (le := leZ) (fun a b c h h' => ?_) (fun a b => ?_) _).imp fun h => by simpa [leZ] using h
  · simp [leZ] at *; omega
  · simp [leZ]; omega
theorem law_differs_ok {n a b : Nat} (hn : n ≤ 6) (st : Store) : F__law_differs [lotM n a, lotM n b] st = some (lotM n (a ^^^ b), st) := by
  refine fnA_ret (ρ' := [some (lotM n a), some (lotM n b), none]) rfl ?_
  have hadd := add_lots (a := a) (b := b) hn st
  have hz : F.sortSetZ st (.tup ((bits n a ++ bits n b).map fun (i : Nat) => .int (i : Int))) = some (.lst ((bits n (a ||| b)).map fun (i : Nat) => .int (i : Int))) := by
    have l1 := bits_len hn a
    have l2 := bits_len hn b
    have hi : F.intsOf (.tup ((bits n a ++ bits n b).map fun (i : Nat) => .int (i : Int))) = some ((bits n a ++ bits n b).map fun (i : Nat) => (i : Int)) := ints_nat _
    have hl : ((bits n a ++ bits n b).map fun (i : Nat) => (i : Int)).length < 64 := by simp; omega
    simp only [F.sortSetZ, hi, Option.bind_some, if_pos hl, sortZ_row, List.map_map]
    rfl
  have hc : E.compL (G.name 2) (E.tv (E.op2 F.ne0 (E.op2 F.in_ (E.var 2) (E.var 0)) (E.op2 F.in_ (E.var 2) (E.var 1)))) (E.var 2) [some (lotM n a), some (lotM n b), none] ((bits n (a ||| b)).map fun (i : Nat) => D.int (i : Int)) st = some ((bits n (a ^^^ b)).map fun (i : Nat) => D.int (i : Int), st) := by
    rw [compL_pure (fun (i : Nat) => D.int (i : Int)) (fun i => (bits n a).contains i != (bits n b).contains i) (fun i => D.int (i : Int)), bits_xor]
    intro i hi
    refine ⟨_, rfl, ?_, fun _ => by simp⟩
    simp [in_lot, ne_bl]
    cases decide (i ∈ bits n a) <;> cases decide (i ∈ bits n b) <;> rfl
  exact ret_of (fn1_of (comp_of (all_of (op1_of (op2_of (a := E.var 0) (b := E.var 1) rfl rfl hadd) hz) rfl) hc) (row_tuple n _ st))
/-! ### lots that meet -/
/-- a common point -/
def meet (a b : Nat) : Bool := a &&& b != 0
def meetAll (l : Nat) (os : List Nat) : Bool := os.all fun o => meet o l
theorem any_meet {n o : Nat} (l : Nat) (ho : o < 2 ^ n) : (bits n o).any (fun i => (bits n l).contains i) = meet o l := by
  rw [Bool.eq_iff_iff, List.any_eq_true]
  unfold meet
  rw [bne_iff_ne]
  constructor
  · rintro ⟨i, h1, h2⟩ e
    rw [List.contains_iff_mem, mem_bits] at h2
    have := congrArg (fun z => z.testBit i) e
    simp [Nat.testBit_and, (mem_bits.mp h1).2, h2.2] at this
  · intro h
    obtain ⟨i, hi⟩ := Nat.exists_testBit_of_ne_zero h
    rw [Nat.testBit_and] at hi
    simp at hi
    have hin : i < n := by
      by_cases q : i < n
      · exact q
      · have := Nat.testBit_lt_two_pow (Nat.lt_of_lt_of_le ho (Nat.pow_le_pow_right (by decide) (Nat.le_of_not_lt q)))
        rw [this] at hi; cases hi.1
    refine ⟨i, mem_bits.mpr ⟨hin, hi.1⟩, ?_⟩
    rw [List.contains_iff_mem, mem_bits]
    exact ⟨hin, hi.2⟩
theorem all_lots_of (n : Nat) (ks : List Nat) : I.allF (.lst (ks.map (lotM n))) = some (ks.map (lotM n)) := rfl
theorem gt_set : ∀ (ρ : Ev) (i : Nat) (v : Option D), i < ρ.length → gt (ρ.set i v) i = v
  | _ :: _, 0, _, _ => rfl
  | _ :: r, i + 1, v, h => gt_set r i v (Nat.lt_of_succ_lt_succ h)
/-- any(point in l for point in o) -/
theorem any_in {n o l : Nat} (ho : o < 2 ^ n) {ρ : Ev} {i j k : Nat} {st : Store} (hj : gt ρ j = some (lotM n o)) (hk : ∀ x, gt ((ρ.set i none).set i (some x)) k = some (lotM n l)) (hi : i < ρ.length) :
    E.fn F.any_ (E.consA (E.comp [i] (G.name i) (I.all (E.var j)) E.yes (E.op2 F.in_ (E.var i) (E.var k))) E.nilA) ρ st = some (.bl (meet o l), st) := by
  have hc : E.compL (G.name i) E.yes (E.op2 F.in_ (E.var i) (E.var k)) (ρ.set i none) ((bits n o).map fun (i : Nat) => D.int (i : Int)) st = some ((bits n o).map fun p => D.bl ((bits n l).contains p), st) :=
    compL_map (fun (i : Nat) => D.int (i : Int)) (fun p => D.bl ((bits n l).contains p)) _ fun p hp => by
      refine ⟨_, rfl, op2_of (a := E.var i) (b := E.var k) (st1 := st) (d := .int p) (e := lotM n l) ?_ ?_ (in_lot p st)⟩
      · rw [v_var]
        have : gt ((ρ.set i none).set i (some (.int (p : Int)))) i = some (.int p) := gt_set _ _ _ (by rw [List.length_set]; exact hi)
        rw [this]; rfl
      · rw [v_var, hk]; rfl
  have hv : E.var j ρ st = some (lotM n o, st) := by rw [v_var, hj]; rfl
  refine fn1_of (comp_of (all_of hv (all_lot n o)) hc) ?_
  rw [any_lst, any_meet l ho]
theorem do_meet_ok {n l : Nat} {os : List Nat} (h : ∀ o ∈ os, o < 2 ^ n) (st : Store) : F_do_meet [lotM n l, .lst (os.map (lotM n))] st = some (.bl (meetAll l os), st) := by
  refine fnA_ret (ρ' := [some (lotM n l), some (.lst (os.map (lotM n))), none, none]) rfl ?_
  have hc : E.compL (G.name 2) E.yes (E.fn F.any_ (E.consA (E.comp [3] (G.name 3) (I.all (E.var 2)) E.yes (E.op2 F.in_ (E.var 3) (E.var 0))) E.nilA)) [some (lotM n l), some (.lst (os.map (lotM n))), none, none] (os.map (lotM n)) st = some (os.map fun o => D.bl (meet o l), st) :=
    compL_map (lotM n) (fun o => D.bl (meet o l)) _ fun o ho => ⟨_, rfl, any_in (h o ho) rfl (fun _ => rfl) (by simp)⟩
  refine ret_of (fn1_of (comp_of (all_of (a := E.var 1) rfl (all_lots_of n os)) hc) ?_)
  rw [all_lst]
  rfl
end Sm.Pr
/-! ## MathP -/
/-! Plain laws, part P: lots by their sizes, the least of them; least lots. -/
namespace Sm.Pr
open PySem Sm
/-! ### the order by sizes -/
theorem toPy_pair (n m : Nat) : F.toPy (pairM n m) = .tuple [.int ((bits n m).length : Int), .tuple ((lotI n m).map .int)] := by
  show F.toPy (.tup [.int ((bits n m).length : Int), F.tupI (lotI n m)]) = _
  rw [F.toPy, F.toPys, F.toPys, F.toPys, toPy_tupI, F.toPy]
theorem leP_iff (n a b : Nat) : leP n a b = true ↔ (bits n a).length < (bits n b).length ∨ ((bits n a).length = (bits n b).length ∧ leM n a b = true) := by
  have hl : PySem.W.dataLt (.tuple ((lotI n b).map .int)) (.tuple ((lotI n a).map .int)) = !leM n a b := by
    have := leD_tupI (lotI n a) (lotI n b)
    unfold F.leD at this
    rw [toPy_tupI, toPy_tupI] at this
    unfold leM
    rw [← this, Bool.not_not]
  unfold leP F.leD
  rw [toPy_pair, toPy_pair, PySem.W.dataLt_pair (by simp [PySem.W.alike]) (by have := alike_tupI (lotI n b) (lotI n a); rwa [toPy_tupI, toPy_tupI] at this), PySem.W.dataLt_int, hl]
  have e1 : PyData.eqv (.int ((bits n b).length : Int)) (.int ((bits n a).length : Int)) = decide ((bits n b).length = (bits n a).length) := by
    simp [PyData.eqv]
    rw [Bool.eq_iff_iff]
    simp
    omega
  have e2 : PyData.eqv (.tuple ((lotI n b).map .int)) (.tuple ((lotI n a).map .int)) = decide (lotI n b = lotI n a) := by rw [PyData.eqv, eqv_ints]
  rw [e1, e2]
  by_cases h : (bits n b).length = (bits n a).length
  · by_cases h' : lotI n b = lotI n a
    · have : leM n a b = true := by unfold leM; rw [h']; unfold leI; simp
      simp [h, h', this]
    · simp [h, h']
  · simp [h]
    omega
theorem leP_trans (n a b c : Nat) (h : leP n a b = true) (h' : leP n b c = true) : leP n a c = true := by
  rw [leP_iff] at *
  rcases h with h | ⟨h1, h2⟩ <;> rcases h' with h' | ⟨h3, h4⟩
  · exact .inl (by omega)
  · exact .inl (by omega)
  · exact .inl (by omega)
  · exact .inr ⟨by omega, leM_trans n a b c h2 h4⟩
theorem leP_total (n a b : Nat) : (leP n a b || leP n b a) = true := by
  rw [Bool.or_eq_true, leP_iff, leP_iff]
  have := leM_total n a b
  rw [Bool.or_eq_true] at this
  by_cases h1 : (bits n a).length < (bits n b).length
  · exact .inl (.inl h1)
  · by_cases h2 : (bits n b).length < (bits n a).length
    · exact .inr (.inl h2)
    · have e : (bits n a).length = (bits n b).length := by omega
      rcases this with q | q
      · exact .inl (.inr ⟨e, q⟩)
      · exact .inr (.inr ⟨e.symm, q⟩)
theorem leP_anti {n a b : Nat} (hn : n ≤ 6) (ha : a < 2 ^ n) (hb : b < 2 ^ n) (h : leP n a b = true) (h' : leP n b a = true) : a = b := by
  rw [leP_iff] at *
  rcases h with h | ⟨h1, h2⟩ <;> rcases h' with h' | ⟨h3, h4⟩
  · omega
  · omega
  · omega
  · exact lot_inj hn ha hb (leI_anti h2 h4)
/-- the least by size -/
def minP (n a : Nat) (r : List Nat) : Nat := r.foldl (fun a y => if leP n a y then a else y) a
theorem minP_mem (n : Nat) : ∀ (r : List Nat) (a : Nat), minP n a r ∈ a :: r ∧ ∀ y ∈ a :: r, leP n (minP n a r) y = true
  | [], a => by
    refine ⟨by simp [minP], fun y hy => ?_⟩
    rw [List.mem_singleton.mp hy]
    have := leP_total n a a
    simpa [minP] using this
  | b :: r, a => by
    obtain ⟨h1, h2⟩ := minP_mem n r (if leP n a b then a else b)
    have e : minP n a (b :: r) = minP n (if leP n a b then a else b) r := rfl
    rw [e]
    refine ⟨?_, fun y hy => ?_⟩
    · rcases List.mem_cons.mp h1 with q | q
      · rw [q]; split
        · exact List.mem_cons_self
        · exact List.mem_cons_of_mem _ List.mem_cons_self
      · exact List.mem_cons_of_mem _ (List.mem_cons_of_mem _ q)
    · have h0 := h2 _ List.mem_cons_self
      have hab := leP_total n a b
      rw [Bool.or_eq_true] at hab
      have ha : leP n (minP n (if leP n a b then a else b) r) a = true := by
        by_cases q : leP n a b = true
        · rw [if_pos q] at h0 ⊢; exact h0
        · rw [if_neg q] at h0 ⊢; exact leP_trans n _ _ _ h0 (hab.resolve_left q)
      have hb : leP n (minP n (if leP n a b then a else b) r) b = true := by
        by_cases q : leP n a b = true
        · rw [if_pos q] at h0 ⊢; exact leP_trans n _ _ _ h0 q
        · rw [if_neg q] at h0 ⊢; exact h0
      rcases List.mem_cons.mp hy with e' | hy
      · rw [e']; exact ha
      · rcases List.mem_cons.mp hy with e' | hy
        · rw [e']; exact hb
        · exact h2 y (List.mem_cons_of_mem _ hy)
theorem sizeN_head {n : Nat} {a : Nat} {r : List Nat} (hn : n ≤ 6) (lt : ∀ k ∈ a :: r, k < 2 ^ n) : ∃ t, sizeN n (a :: r) = minP n a r :: t := by
  have hp : (sizeN n (a :: r)).Perm (a :: r) := List.mergeSort_perm _ _
  have hs : (sizeN n (a :: r)).Pairwise fun x y => leP n x y = true := List.pairwise_mergeSort (leP_trans n) (leP_total n) _
  cases e : sizeN n (a :: r) with
  | nil => rw [e] at hp; exact absurd hp.length_eq (by simp)
  | cons x t =>
    rw [e] at hp hs
    obtain ⟨h1, h2⟩ := minP_mem n r a
    have hx : x ∈ a :: r := hp.mem_iff.mp List.mem_cons_self
    have hm := hp.mem_iff.mpr h1
    have : x = minP n a r := by
      rcases List.mem_cons.mp hm with q | q
      · exact q.symm
      · exact leP_anti hn (lt _ hx) (lt _ h1) ((List.pairwise_cons.mp hs).1 _ q) (h2 x hx)
    exact ⟨t, by rw [this]⟩
theorem alike_pair (n a b : Nat) : PySem.W.alike (F.toPy (pairM n a)) (F.toPy (pairM n b)) = true := by
  have := alike_tupI (lotI n a) (lotI n b)
  simp [pairM, F.toPy, F.toPys, PySem.W.alike, PySem.W.alikeAll, lotM, this]
theorem min_pairs (n a : Nat) (r : List Nat) (st : Store) : F.minO st [.lst ((a :: r).map (pairM n))] = some (pairM n (minP n a r)) := by
  have h0 : F.min_ st [.lst ((a :: r).map (pairM n))] = none := rfl
  have hd : ∀ x : Nat, F.dat F.deep (pairM n x) = true := fun x => by
    show ([D.int ((bits n x).length : Int), lotM n x].all (F.dat 11)) = true
    simp [dat_int, lotM, dat_tupI]
  have ok : F.MinOk ((a :: r).map (pairM n)) := by
    refine ⟨fun d hd' => ?_, fun x hx y hy => ?_, fun x hx => ?_⟩
    · obtain ⟨x, _, rfl⟩ := List.mem_map.mp hd'
      exact hd x
    · rw [toPys_map] at hx hy
      obtain ⟨i, _, rfl⟩ := List.mem_map.mp hx
      obtain ⟨j, _, rfl⟩ := List.mem_map.mp hy
      exact alike_pair n i j
    · rw [toPys_map] at hx
      obtain ⟨i, _, rfl⟩ := List.mem_map.mp hx
      rw [toPy_pair]
      exact fun e => nomatch e
  have hf : ∀ (l : List Nat) (x : Nat), F.minF (pairM n x) (l.map (pairM n)) = pairM n (minP n x l) := by
    intro l
    induction l with
    | nil => intro x; rfl
    | cons y l ih =>
      intro x
      have e : F.minF (pairM n x) ((y :: l).map (pairM n)) = F.minF (if leP n x y = true then pairM n x else pairM n y) (l.map (pairM n)) := by
        show F.minF (if PySem.W.dataLt (F.toPy (pairM n y)) (F.toPy (pairM n x)) = true then pairM n y else pairM n x) _ = _
        congr 1
        unfold leP F.leD
        cases PySem.W.dataLt (F.toPy (pairM n y)) (F.toPy (pairM n x)) <;> rfl
      rw [e]
      show _ = pairM n (minP n (if leP n x y then x else y) l)
      rw [← ih]
      split <;> rfl
  have hA : F.minA st [.lst ((a :: r).map (pairM n))] = some (pairM n (minP n a r)) := by
    rw [List.map_cons] at ok
    unfold F.minA
    simp only [F.lstOf, List.map_cons]
    rw [if_pos ok, hf]
  unfold F.minO
  rw [h0]
  exact hA
/-! ### least lots -/
def leastL : List Nat → List Nat → List Nat
  | acc, [] => acc
  | acc, l :: ls => leastL (if acc.any (fun f => f &&& l == f) then acc else acc ++ [l]) ls
theorem leastL_snoc : ∀ (ls acc : List Nat) (l : Nat), leastL acc (ls ++ [l]) = if (leastL acc ls).any (fun f => f &&& l == f) then leastL acc ls else leastL acc ls ++ [l]
  | [], acc, l => rfl
  | x :: ls, acc, l => leastL_snoc ls _ l
theorem leastL_sub : ∀ (ls acc : List Nat), ∀ x ∈ leastL acc ls, x ∈ acc ∨ x ∈ ls
  | [], acc, x, hx => .inl hx
  | l :: ls, acc, x, hx => by
    rcases leastL_sub ls _ x hx with q | q
    · split at q
      · exact .inl q
      · rcases List.mem_append.mp q with z | z
        · exact .inl z
        · exact .inr (by rw [List.mem_singleton.mp z]; exact List.mem_cons_self)
    · exact .inr (List.mem_cons_of_mem _ q)
theorem leastL_acc : ∀ (ls acc : List Nat), ∀ x ∈ acc, x ∈ leastL acc ls
  | [], acc, x, hx => hx
  | l :: ls, acc, x, hx => leastL_acc ls _ x (by
      split
      · exact hx
      · exact List.mem_append_left _ hx)
/-- each has a least one within -/
theorem leastL_has : ∀ (ls acc : List Nat), ∀ x ∈ ls, ∃ f ∈ leastL acc ls, f &&& x = f
  | l :: ls, acc, x, hx => by
    rcases List.mem_cons.mp hx with rfl | hx
    · by_cases h : acc.any (fun f => f &&& x == f) = true
      · obtain ⟨f, hf, e⟩ := List.any_eq_true.mp h
        refine ⟨f, leastL_acc ls _ f ?_, by simpa using e⟩
        rw [if_pos h]; exact hf
      · refine ⟨x, leastL_acc ls _ x ?_, Nat.and_self x⟩
        rw [if_neg h]; simp
    · exact leastL_has ls _ x hx
theorem leastL_len : ∀ (ls acc : List Nat), (leastL acc ls).length ≤ acc.length + ls.length
  | [], acc => by simp [leastL]
  | l :: ls, acc => by
    have := leastL_len ls (if acc.any (fun f => f &&& l == f) then acc else acc ++ [l])
    unfold leastL
    split at this
    · rename_i h
      rw [if_pos h]
      simp; omega
    · rename_i h
      rw [if_neg h]
      simp at this ⊢; omega
def leastN (n : Nat) (ls : List Nat) : List Nat := sortM n (leastL [] ls)
theorem subB_and {n e : Nat} (k : Nat) (he : e < 2 ^ n) : subB n e k = (e &&& k == e) := by
  rw [Bool.eq_iff_iff]
  unfold subB
  rw [List.all_eq_true, beq_iff_eq]
  constructor
  · intro h
    apply Nat.eq_of_testBit_eq
    intro i
    rw [Nat.testBit_and]
    cases q : e.testBit i with
    | false => rfl
    | true =>
      have hin : i < n := by
        by_cases q' : i < n
        · exact q'
        · have := Nat.testBit_lt_two_pow (Nat.lt_of_lt_of_le he (Nat.pow_le_pow_right (by decide) (Nat.le_of_not_lt q')))
          rw [this] at q; cases q
      have := h i (mem_bits.mpr ⟨hin, q⟩)
      rw [List.contains_iff_mem, mem_bits] at this
      rw [this.2]; rfl
  · intro h i hi
    obtain ⟨h1, h2⟩ := mem_bits.mp hi
    rw [List.contains_iff_mem, mem_bits]
    refine ⟨h1, ?_⟩
    rw [← h, Nat.testBit_and] at h2
    simp at h2
    exact h2.2
theorem meetAll_least {n l : Nat} {ls : List Nat} (h : ∀ x ∈ ls, x < 2 ^ n) : meetAll l (leastN n ls) = meetAll l ls := by
  rw [Bool.eq_iff_iff]
  unfold meetAll
  rw [List.all_eq_true, List.all_eq_true]
  constructor
  · intro q x hx
    obtain ⟨f, hf, e⟩ := leastL_has ls [] x hx
    have := q f (sortM_mem.mpr hf)
    unfold meet at *
    rw [bne_iff_ne] at *
    intro z
    apply this
    rw [← e, Nat.and_assoc, z, Nat.and_zero]
  · intro q x hx
    rcases leastL_sub ls [] x (sortM_mem.mp hx) with z | z
    · cases z
    · exact q x z
/-- the run of such a def -/
theorem least_run {n : Nat} {ls : List Nat} (hn : n ≤ 6) (hl : ls.length ≤ 64) (lt : ∀ k ∈ ls, k < 2 ^ n) (st : Store) : F_least_of [.lst (ls.map (lotM n))] st = some (famT n (leastN n ls), st) := by
  have loop := loop_inv (g := G.name 2) (b := b_least_of_1) (lotM n) (fun done ρ s => ∃ o2 o3 o4, ρ = [some (.lst (ls.map (lotM n))), some (.ref st.length), o2, o3, o4] ∧ s = st ++ [.lst ((leastL [] done).map (lotM n))]) ls
    (fun done m ρ s hd hI => by
      obtain ⟨r, hr⟩ := hd
      obtain ⟨o2, o3, o4, rfl, rfl⟩ := hI
      have hm : m < 2 ^ n := lt m (by rw [hr]; simp)
      have hdl : done.length ≤ 64 := by rw [hr] at hl; simp at hl; omega
      have hLl : (leastL [] done).length ≤ 64 := Nat.le_trans (leastL_len done []) (by simpa using hdl)
      have hLt : ∀ k ∈ leastL [] done, k < 2 ^ n := fun k hk => by
        rcases leastL_sub done [] k hk with q | q
        · cases q
        · exact lt k (by rw [hr]; simp [q])
      have hbox : F.lstOf (st ++ [.lst ((leastL [] done).map (lotM n))]) (.ref st.length) = some ((leastL [] done).map (lotM n)) := by simp [F.lstOf]
      have hin : ∀ e ∈ leastL [] done, E.fn F.all_ (E.consA (E.comp [4] (G.name 4) (I.all (E.var 3)) E.yes (E.op2 F.in_ (E.var 4) (E.var 2))) E.nilA) [some (.lst (ls.map (lotM n))), some (.ref st.length), some (lotM n m), some (lotM n e), o4] (st ++ [.lst ((leastL [] done).map (lotM n))]) = some (.bl (e &&& m == e), st ++ [.lst ((leastL [] done).map (lotM n))]) := fun e he => by
        have hc : E.compL (G.name 4) E.yes (E.op2 F.in_ (E.var 4) (E.var 2)) [some (.lst (ls.map (lotM n))), some (.ref st.length), some (lotM n m), some (lotM n e), none] ((bits n e).map fun (i : Nat) => D.int (i : Int)) (st ++ [.lst ((leastL [] done).map (lotM n))]) = some ((bits n e).map fun i => D.bl ((bits n m).contains i), st ++ [.lst ((leastL [] done).map (lotM n))]) :=
          compL_map (fun (i : Nat) => D.int (i : Int)) (fun i => D.bl ((bits n m).contains i)) _ fun i hi => ⟨_, rfl, op2_of (a := E.var 4) (b := E.var 2) (e := lotM n m) rfl rfl (in_lot i _)⟩
        refine fn1_of (comp_of (all_of (a := E.var 3) rfl (all_lot n e)) hc) ?_
        rw [all_lst, ← subB_and m (hLt e he)]
        rfl
      have hany : E.fn F.any_ (E.consA (E.compR [3] (G.name 3) (E.var 1) E.yes (E.fn F.all_ (E.consA (E.comp [4] (G.name 4) (I.all (E.var 3)) E.yes (E.op2 F.in_ (E.var 4) (E.var 2))) E.nilA))) E.nilA) [some (.lst (ls.map (lotM n))), some (.ref st.length), some (lotM n m), o3, o4] (st ++ [.lst ((leastL [] done).map (lotM n))]) = some (.bl ((leastL [] done).any fun e => e &&& m == e), st ++ [.lst ((leastL [] done).map (lotM n))]) := by
        refine fn1_of (compR_of (d := .ref st.length) (lotM n) (fun _ => true) (fun e => D.bl (e &&& m == e)) (leastL [] done) rfl hbox (by omega) fun e he => ⟨_, rfl, rfl, fun _ => hin e he⟩) ?_
        rw [List.filter_eq_self.mpr fun _ _ => rfl, any_lst]
      have happ : F.append (st ++ [.lst ((leastL [] done).map (lotM n))]) (.ref st.length) [lotM n m] = some (.non, st ++ [.lst ((leastL [] done ++ [m]).map (lotM n))]) := by
        have : (leastL [] done).length < big := by unfold big; omega
        simp [F.append, this]
      have hL : F.isL (st ++ [.lst ((leastL [] done).map (lotM n))]) (.ref st.length) = true := by simp [F.isL, F.lstOf]
      refine ⟨_, .nx, [some (.lst (ls.map (lotM n))), some (.ref st.length), some (lotM n m), o3, o4], st ++ [.lst ((leastL [] (done ++ [m])).map (lotM n))], rfl, ?_, .inl rfl, _, _, _, rfl, rfl⟩
      have ht := tv_of hany
      unfold b_least_of_1
      rw [leastL_snoc, v_iteS, v_notT]
      show ((E.tv _ [some (.lst (ls.map (lotM n))), some (.ref st.length), some (lotM n m), o3, o4] _).map _).bind _ = _
      rw [ht]
      cases h : (leastL [] done).any fun e => e &&& m == e with
      | true => rfl
      | false =>
        show S.expr _ _ _ = _
        rw [v_expr, v_mth]
        simp only [set_2, v_var, gt_1, gt_0, gt_2, Option.map_some, Option.bind_some, hL, if_true, v_consA, v_nilA, happ, Bool.false_eq_true, if_false]) ls [] [some (.lst (ls.map (lotM n))), some (.ref st.length), none, none, none] (st ++ [.lst []]) rfl ⟨none, none, none, rfl, rfl⟩
  obtain ⟨ρ', st', h1, o2, o3, o4, rfl, rfl⟩ := loop
  have hLl : (leastL [] ls).length ≤ 64 := Nat.le_trans (leastL_len ls []) (by simpa using hl)
  have hA : fnA 1 5 m_least_of [.lst (ls.map (lotM n))] st = some (famT n (leastN n ls), st ++ [.lst ((leastL [] ls).map (lotM n))]) := by
    refine fnA_ret (ρ' := [some (.lst (ls.map (lotM n))), some (.ref st.length), o2, o3, o4]) rfl ?_
    have hsort : F.sorted (st ++ [.lst ((leastL [] ls).map (lotM n))]) [.ref st.length] = some (.lst ((leastN n ls).map (lotM n))) := by
      have ok : F.SortOk ((leastL [] ls).map (lotM n)) := sortOk_tups (lotI n) _ (by omega)
      have e : ((leastL [] ls).map (lotM n)).mergeSort F.leD = (leastN n ls).map (lotM n) := by
        unfold leastN sortM
        rw [List.map_mergeSort]
        intro a _ b _
        exact (leD_lot n a b).symm
      rw [sorted_run (d := .ref st.length) (by simp [F.seq]) ok, e]
    have h2 : S.for_ (G.name 2) (I.all (E.var 0)) b_least_of_1 [some (.lst (ls.map (lotM n))), some (.ref st.length), none, none, none] (st ++ [.lst []]) = some (.nx, [some (.lst (ls.map (lotM n))), some (.ref st.length), o2, o3, o4], st ++ [.lst ((leastL [] ls).map (lotM n))]) := by
      rw [v_for, all_of (a := E.var 0) rfl (all_lots_of n ls), Option.bind_some]
      exact h1
    have h0 : S.set 1 (E.lstB E.nilA) [some (.lst (ls.map (lotM n))), none, none, none, none] st = some (.nx, [some (.lst (ls.map (lotM n))), some (.ref st.length), none, none, none], st ++ [.lst []]) := rfl
    exact seq_of h0 (seq_of h2 (ret_of (fn1_of (fn1_of (a := E.var 1) rfl hsort) rfl)))
  have := fnB_of (d' := famT n (leastN n ls)) hA ⟨by simp, fun i c hi hc => .inl (by rw [List.getElem?_append_left hi] at hc; exact hc)⟩ ?_
  · rw [List.take_left] at this
    exact this
  · have hb : (famT n (leastN n ls)).bel st.length = true := below_mono (Nat.zero_le _) _ (bel_famT n _)
    show (if (famT n (leastN n ls)).bel st.length = true then some _ else none) = _
    rw [if_pos hb]
theorem law_least_eq : F__law_least = F_least_of := rfl
end Sm.Pr
/-! ## MathQ -/
/-! Plain laws, part Q: telling, fewest_telling, differences, tells; the law's own (second kind of laws). -/
namespace Sm.Pr
open PySem Sm
theorem xor_zero {a b : Nat} : a ^^^ b = 0 ↔ a = b := by
  constructor
  · intro h
    apply Nat.eq_of_testBit_eq
    intro i
    have := congrArg (fun z => z.testBit i) h
    simpa [Nat.testBit_xor] using this
  · rintro rfl
    exact Nat.xor_self a
theorem len_famT (n : Nat) (ms : List Nat) (st : Store) : F.len st [famT n ms] = some (.int ms.length) := by
  unfold famT
  rw [len_tup, List.length_map]
theorem fam_lots (n : Int) (l : D) (st : Store) : F.famAttr "lots" st (.fam n l) = some l := by
  have k1 : ¬ (("lots" : Str) = "points") := by decide +kernel
  simp [F.famAttr, k1]
theorem fam_points (n : Int) (l : D) (st : Store) : F.famAttr "points" st (.fam n l) = some (.int n) := by
  simp [F.famAttr]
theorem ix_fam {n : Nat} {ms : List Nat} {k : Nat} (hk : k < ms.length) (st : Store) : F.ix st (famT n ms) (.int k) = some (lotM n ms[k]) := by
  simp [F.ix, F.dctOf, F.seq, famT, L2.atI, L2.ixN, hk]
theorem len_lot (n m : Nat) (st : Store) : F.len st [lotM n m] = some (.int ((bits n m).length : Int)) := by
  rw [lotM_items]
  simp [F.len, F.seq]
section
variable {n : Nat} {ms : List Nat}
def diffs (o : Nat) (ms : List Nat) : List Nat := (ms.filter fun x => !decide (x = o)).map (o ^^^ ·)
theorem diffs_lt (h : Fam n ms) {o : Nat} (ho : o ∈ ms) : ∀ d ∈ diffs o ms, d < 2 ^ n := by
  intro d hd
  obtain ⟨x, hx, rfl⟩ := List.mem_map.mp hd
  exact xor_lt (h.lt o ho) (h.lt x (List.mem_filter.mp hx).1)
theorem diffs_len (h : Fam n ms) (o : Nat) : (diffs o ms).length ≤ 64 := by
  unfold diffs
  rw [List.length_map]
  exact Nat.le_trans (List.length_filter_le _ _) h.len
theorem diffs_ne {o : Nat} : ∀ d ∈ diffs o ms, d ≠ 0 := by
  intro d hd
  obtain ⟨x, hx, rfl⟩ := List.mem_map.mp hd
  have := (List.mem_filter.mp hx).2
  simp at this
  intro e
  rw [xor_zero] at e
  exact this e.symm
theorem all_differences_ok (h : Fam n ms) {k : Nat} (hk : k < ms.length) (st : Store) : F_all_differences [.fam n (famT n ms), .int k] st = some (.lst ((diffs ms[k] ms).map (lotM n)), st) := by
  have ho := List.getElem_mem hk
  have hi := ix_fam (n := n) hk st
  generalize ms[k] = o at ho hi
  refine fnA_ret (ρ' := [some (.fam n (famT n ms)), some (.int k), some (lotM n o), none]) rfl ?_
  have h0 : E.op1 (F.famAttr "lots") (E.var 0) [some (.fam n (famT n ms)), some (.int k), none, none] st = some (famT n ms, st) := op1_of (a := E.var 0) rfl (fam_lots n _ st)
  have h1 : E.op1 (F.famAttr "lots") (E.var 0) [some (.fam n (famT n ms)), some (.int k), some (lotM n o), none] st = some (famT n ms, st) := op1_of (a := E.var 0) rfl (fam_lots n _ st)
  have hc : E.compL (G.name 3) (E.tv (E.op2 F.ne0 (E.var 3) (E.var 2))) (E.call F_differing (E.consA (E.var 2) (E.consA (E.var 3) E.nilA))) [some (.fam n (famT n ms)), some (.int k), some (lotM n o), none] (ms.map (lotM n)) st = some (((ms.filter fun x => !decide (x = o)).map fun x => lotM n (o ^^^ x)), st) :=
    compL_pure (lotM n) (fun x => !decide (x = o)) (fun x => lotM n (o ^^^ x)) _ fun x hx =>
      ⟨_, rfl, tv_of (op2_of (a := E.var 3) (b := E.var 2) rfl rfl (ne_lot h.few (h.lt x hx) (h.lt o ho) st)), fun _ => call2_of (a := E.var 2) (b := E.var 3) rfl rfl (differing_ok h.few (h.lt o ho) (h.lt x hx) st)⟩
  refine seq_of (set_of (op2_of (b := E.var 1) h0 rfl hi)) (ret_of ?_)
  have e : (diffs o ms).map (lotM n) = (ms.filter fun x => !decide (x = o)).map fun x => lotM n (o ^^^ x) := by unfold diffs; rw [List.map_map]; rfl
  rw [e]
  exact comp_of (all_of h1 rfl) hc
theorem check_member_ok {k : Nat} (hk : k < ms.length) (st : Store) : F_check_member [.fam n (famT n ms), .int k] st = some (.non, st) := by
  have hw : F_is_within [.int k, .int 0, .int ((ms.length : Int) - 1)] st = some (.bl true, st) := by rw [is_within_int]; simp; omega
  refine fnA_nx (ρ' := [some (.fam n (famT n ms)), some (.int k)]) rfl ?_
  simp [m_check_member, fam_lots, len_famT, F.sub, hw]
theorem check_lot_ok (hn : n ≤ 6) {m : Nat} (hm : m < 2 ^ n) (l : D) (st : Store) : F_check_lot [.fam n l, lotM n m] st = some (.non, st) := by
  have h1 : F_is_lot_of [.fam n l, lotM n m] st = some (.bl true, st) := by
    refine fnA_ret (ρ' := [some (.fam n l), some (lotM n m)]) rfl ?_
    simp [m_is_lot_of, fam_points, is_lot_ok hn hm]
  refine fnA_nx (ρ' := [some (.fam n l), some (lotM n m)]) rfl ?_
  simp [m_check_lot, h1]
/-- the lots that tell a member -/
def good (n : Nat) (ds : List Nat) : List Nat := (allN n).filter fun l => meetAll l ds
theorem good_lt {ds : List Nat} : ∀ l ∈ good n ds, l < 2 ^ n := fun l hl => mem_allN.mp (List.mem_filter.mp hl).1
theorem allN_len (hn : n ≤ 6) : (allN n).length ≤ 64 := by
  unfold allN sizeN
  rw [(List.mergeSort_perm _ _).length_eq, List.length_range]
  exact Nat.pow_le_pow_right (n := 2) (show 0 < 2 by decide) hn
theorem good_len (hn : n ≤ 6) (ds : List Nat) : (good n ds).length ≤ 64 := Nat.le_trans (List.length_filter_le _ _) (allN_len hn)
theorem good_ne {ds : List Nat} (h1 : ∀ d ∈ ds, d < 2 ^ n) (h2 : ∀ d ∈ ds, d ≠ 0) : 2 ^ n - 1 ∈ good n ds := by
  have hp := Nat.one_le_two_pow (n := n)
  refine List.mem_filter.mpr ⟨mem_allN.mpr (by omega), ?_⟩
  unfold meetAll
  rw [List.all_eq_true]
  intro d hd
  unfold meet
  rw [bne_iff_ne, Nat.and_two_pow_sub_one_of_lt_two_pow (h1 d hd)]
  exact h2 d hd
theorem least_ne {ls : List Nat} (h : ls ≠ []) : leastN n ls ≠ [] := by
  cases ls with
  | nil => exact absurd rfl h
  | cons x r =>
    obtain ⟨f, hf, _⟩ := leastL_has (x :: r) [] x List.mem_cons_self
    intro e
    have := (sortM_mem (n := n)).mpr hf
    unfold leastN at e
    rw [e] at this
    cases this
theorem least_mem {ls : List Nat} {x : Nat} (hx : x ∈ leastN n ls) : x ∈ ls := by
  rcases leastL_sub ls [] x (sortM_mem.mp hx) with q | q
  · cases q
  · exact q
theorem least_len (ls : List Nat) : (leastN n ls).length ≤ ls.length := by
  unfold leastN
  rw [(sortM_perm n _).length_eq]
  simpa using leastL_len ls []
theorem telling_in_ok (h : Fam n ms) {k : Nat} (hk : k < ms.length) (st : Store) : F_telling_in [.fam n (famT n ms), .int k] st = some (famT n (leastN n (good n (diffs ms[k] ms))), st) := by
  have hd := all_differences_ok h hk st
  have hlt := diffs_lt h (List.getElem_mem hk)
  generalize diffs ms[k] ms = ds at hd hlt
  refine fnA_ret (ρ' := [some (.fam n (famT n ms)), some (.int k), some (.lst (ds.map (lotM n))), none]) rfl ?_
  have h1 : E.op1 (F.famAttr "points") (E.var 0) [some (.fam n (famT n ms)), some (.int k), some (.lst (ds.map (lotM n))), none] st = some (.int n, st) := op1_of (a := E.var 0) rfl (fam_points n _ st)
  have hc : E.compL (G.name 3) (E.tv (E.call F_do_meet (E.consA (E.var 3) (E.consA (E.var 2) E.nilA)))) (E.var 3) [some (.fam n (famT n ms)), some (.int k), some (.lst (ds.map (lotM n))), none] ((allN n).map (lotM n)) st = some ((good n ds).map (lotM n), st) :=
    compL_pure (lotM n) (fun l => meetAll l ds) (lotM n) _ fun l hl =>
      ⟨_, rfl, tv_of (call2_of (a := E.var 3) (b := E.var 2) rfl rfl (do_meet_ok hlt st)), fun _ => rfl⟩
  refine seq_of (set_of (call2_of (a := E.var 0) (b := E.var 1) rfl rfl hd)) (ret_of ?_)
  exact call1_of (comp_of (all_of (call1_of h1 (all_lots_ok h.pos h.few st)) (all_lots_of n _)) hc) (least_run h.few (good_len h.few ds) good_lt st)
theorem telling_ok (h : Fam n ms) {k : Nat} (hk : k < ms.length) (st : Store) : F_telling [.fam n (famT n ms), .int k] st = some (famT n (leastN n (good n (diffs ms[k] ms))), st) :=
  fnA_ret (ρ' := [some (.fam n (famT n ms)), some (.int k)]) rfl (seq_of (expr_of (call2_of (a := E.var 0) (b := E.var 1) rfl rfl (check_member_ok hk st))) (ret_of (call2_of (a := E.var 0) (b := E.var 1) rfl rfl (telling_in_ok h hk st))))
/-- (len(lot), lot) of each -/
theorem pairs_run {ρ : Ev} {j : Nat} {i : MI} {ks : List Nat} {st st1 : Store} (h1 : i ρ st = some (ks.map (lotM n), st1)) (hj : j < ρ.length) : E.comp [j] (G.name j) i E.yes (E.tup (E.consA (E.fn F.len (E.consA (E.var j) E.nilA)) (E.consA (E.var j) E.nilA))) ρ st = some (.lst (ks.map (pairM n)), st1) := by
  refine comp_of h1 (compL_map (lotM n) (pairM n) _ fun m hm => ⟨_, rfl, ?_⟩)
  have hv : ∀ s : Store, E.var j ((ρ.set j none).set j (some (lotM n m))) s = some (lotM n m, s) := fun s => by
    rw [v_var, gt_set _ _ _ (by rw [List.length_set]; exact hj)]; rfl
  have hw : wipeE ρ [j] = ρ.set j none := rfl
  rw [hw, v_tup, v_consA, fn1_of (hv st1) (len_lot n m st1), Option.bind_some, v_consA]
  simp only [hv, Option.bind_some, v_nilA, Option.map_some]
  rfl
theorem sort_pairs {ks : List Nat} (hl : ks.length ≤ 1000) (st : Store) : F.sorted st [.lst (ks.map (pairM n))] = some (.lst ((sizeN n ks).map (pairM n))) := by
  rw [sorted_run (d := .lst (ks.map (pairM n))) rfl (sortOk_pairs n ks (by omega)), sizeN_eq]
theorem seconds {ks : List Nat} {ρ : Ev} {i j : Nat} (hij : i ≠ j) (hi : i < ρ.length) (hj : j < ρ.length) (st : Store) : E.compL (G.tup (G.consT (G.name i) (G.consT (G.name j) G.nilT))) E.yes (E.var j) ρ (ks.map (pairM n)) st = some (ks.map (lotM n), st) :=
  compL_map (pairM n) (lotM n) _ fun m hm => ⟨(ρ.set i (some (.int ((bits n m).length : Int)))).set j (some (lotM n m)), rfl, by
    rw [v_var, gt_set _ _ _ (by rw [List.length_set]; exact hj)]; rfl⟩
theorem law_sized_ok {d : D} {ks : List Nat} (hd : I.allF d = some (ks.map (lotM n))) (hl : ks.length ≤ 1000) (st : Store) : F__law_sized [d] st = some (.lst ((sizeN n ks).map (lotM n)), st) :=
  fnA_ret (ρ' := [some d, none, none]) rfl (ret_of (comp_of (all_of (fn1_of (pairs_run (n := n) (ks := ks) (st := st) (st1 := st) (all_of (a := E.var 0) rfl hd) (by simp)) (sort_pairs hl st)) rfl) (seconds (ρ := [some d, none, none]) (i := 2) (j := 1) (by decide) (by simp) (by simp) st)))
theorem sizeN_len (ks : List Nat) : (sizeN n ks).length = ks.length := by unfold sizeN; exact (List.mergeSort_perm _ _).length_eq
theorem differences_ok (h : Fam n ms) {k : Nat} (hk : k < ms.length) (st : Store) : F_differences [.fam n (famT n ms), .int k] st = some (famT n (leastN n (sizeN n (diffs ms[k] ms))), st) := by
  have hd := all_differences_ok h hk st
  have hlt := diffs_lt h (List.getElem_mem hk)
  have hll := diffs_len h ms[k]
  generalize diffs ms[k] ms = ds at hd hlt hll
  refine fnA_ret (ρ' := [some (.fam n (famT n ms)), some (.int k), none, none]) rfl (seq_of (expr_of (call2_of (a := E.var 0) (b := E.var 1) rfl rfl (check_member_ok hk st))) (ret_of ?_))
  refine call1_of (comp_of (all_of (fn1_of (pairs_run (n := n) (ks := ds) (st1 := st) (all_of (call2_of (a := E.var 0) (b := E.var 1) rfl rfl hd) (all_lots_of n _)) (by simp)) (sort_pairs (by omega) st)) rfl) (seconds (ρ := [some (.fam n (famT n ms)), some (.int k), none, none]) (i := 3) (j := 2) (by decide) (by simp) (by simp) st)) ?_
  exact least_run h.few (by rw [sizeN_len]; omega) (fun x hx => hlt x (mem_sizeN.mp hx)) st
theorem tells_ok (h : Fam n ms) {k : Nat} (hk : k < ms.length) {l : Nat} (hl : l < 2 ^ n) (st : Store) : F_tells [.fam n (famT n ms), lotM n l, .int k] st = some (.bl (meetAll l (diffs ms[k] ms)), st) :=
  fnA_ret (ρ' := [some (.fam n (famT n ms)), some (lotM n l), some (.int k)]) rfl
    (seq_of (expr_of (call2_of (a := E.var 0) (b := E.var 1) rfl rfl (check_lot_ok h.few hl _ st)))
      (seq_of (expr_of (call2_of (a := E.var 0) (b := E.var 2) rfl rfl (check_member_ok hk st)))
        (ret_of (call2_of (a := E.var 1) rfl (call2_of (a := E.var 0) (b := E.var 2) rfl rfl (all_differences_ok h hk st)) (do_meet_ok (diffs_lt h (List.getElem_mem hk)) st)))))
theorem fewest_in_ok (h : Fam n ms) {k : Nat} (hk : k < ms.length) (st : Store) : ∃ x t, sizeN n (leastN n (good n (diffs ms[k] ms))) = x :: t ∧ F_fewest_in [.fam n (famT n ms), .int k] st = some (lotM n x, st) := by
  have ht := telling_in_ok h hk st
  have hne : leastN n (good n (diffs ms[k] ms)) ≠ [] := least_ne (fun e => by
    have := good_ne (diffs_lt h (List.getElem_mem hk)) diffs_ne
    rw [e] at this
    cases this)
  have hlt : ∀ x ∈ leastN n (good n (diffs ms[k] ms)), x < 2 ^ n := fun x hx => good_lt x (least_mem hx)
  generalize leastN n (good n (diffs ms[k] ms)) = ks at ht hne hlt
  cases ks with
  | nil => exact absurd rfl hne
  | cons a r =>
    obtain ⟨t, e⟩ := sizeN_head h.few hlt
    refine ⟨minP n a r, t, e, fnA_ret (ρ' := [some (.fam n (famT n ms)), some (.int k), none]) rfl (ret_of ?_)⟩
    exact op2_of (b := E.c (.int 1)) (fn1_of (pairs_run (n := n) (ks := a :: r) (st1 := st) (all_of (call2_of (a := E.var 0) (b := E.var 1) rfl rfl ht) (all_famT n _)) (by simp)) (min_pairs n a r st)) rfl rfl
theorem fewest_ok (h : Fam n ms) {k : Nat} (hk : k < ms.length) (st : Store) : ∃ x t, sizeN n (leastN n (good n (diffs ms[k] ms))) = x :: t ∧ F_fewest_telling [.fam n (famT n ms), .int k] st = some (lotM n x, st) := by
  obtain ⟨x, t, e, h1⟩ := fewest_in_ok h hk st
  exact ⟨x, t, e, fnA_ret (ρ' := [some (.fam n (famT n ms)), some (.int k)]) rfl (seq_of (expr_of (call2_of (a := E.var 0) (b := E.var 1) rfl rfl (check_member_ok hk st))) (ret_of (call2_of (a := E.var 0) (b := E.var 1) rfl rfl h1)))⟩
/-! ### the law's own -/
theorem enum_map {α : Type} (f : α → D) (l : List α) : I.enumD (l.map f) = ((List.range l.length).zip l).map fun p => D.tup [.int (p.1 : Int), f p.2] := by
  unfold I.enumD
  rw [List.length_map, List.zipWith_map_right, ← List.map_uncurry_zip_eq_zipWith]
  rfl
theorem mem_enum {α : Type} {l : List α} {p : Nat × α} : p ∈ (List.range l.length).zip l ↔ l[p.1]? = some p.2 := by
  constructor
  · intro h
    obtain ⟨i, hi⟩ := List.getElem?_of_mem h
    rw [List.getElem?_zip_eq_some] at hi
    obtain ⟨h1, h2⟩ := hi
    obtain ⟨h3, h4⟩ := List.getElem?_eq_some_iff.mp h1
    rw [List.getElem_range] at h4
    rw [← h4]; exact h2
  · intro h
    obtain ⟨h1, h2⟩ := List.getElem?_eq_some_iff.mp h
    have : ((List.range l.length).zip l)[p.1]? = some p := by
      rw [List.getElem?_zip_eq_some]
      exact ⟨by simp [h1], h⟩
    exact List.mem_of_getElem? this
theorem tells_key (h : Fam n ms) {k : Nat} (hk : k < ms.length) {l : Nat} (hl : l < 2 ^ n) : (!((List.range ms.length).zip ms).any fun p => !decide (p.1 = k) && decide (p.2 &&& l = ms[k] &&& l)) = meetAll l (diffs ms[k] ms) := by
  rw [Bool.eq_iff_iff]
  unfold meetAll diffs
  simp only [Bool.not_eq_true', List.any_eq_false, List.all_eq_true, Bool.and_eq_true, Bool.not_eq_true, decide_eq_false_iff_not, decide_eq_true_eq, not_and]
  constructor
  · intro q d hd
    obtain ⟨x, hx, rfl⟩ := List.mem_map.mp hd
    obtain ⟨hx1, hx2⟩ := List.mem_filter.mp hx
    have hx2 : x ≠ ms[k] := by simpa using hx2
    obtain ⟨i, hi'⟩ := List.getElem?_of_mem hx1
    have := q (i, x) (mem_enum.mpr hi') (fun e => by
      simp only at e
      subst e
      rw [List.getElem?_eq_getElem hk] at hi'
      exact hx2 (Option.some.inj hi').symm)
    unfold meet
    rw [bne_iff_ne]
    intro z
    rw [Nat.and_xor_distrib_right, xor_zero] at z
    exact this z.symm
  · intro q p hp hpk e
    have hx := mem_enum.mp hp
    have hne : p.2 ≠ ms[k] := by
      intro e'
      obtain ⟨h1, h2⟩ := List.getElem?_eq_some_iff.mp hx
      have : p.1 = k := by
        have nd := List.pairwise_iff_getElem.mp h.nd
        rcases Nat.lt_trichotomy p.1 k with z | z | z
        · exact absurd (h2.trans e') (nd p.1 k h1 hk z)
        · exact z
        · exact absurd (h2.trans e').symm (nd k p.1 hk h1 z)
      exact hpk this
    have := q (ms[k] ^^^ p.2) (List.mem_map.mpr ⟨p.2, List.mem_filter.mpr ⟨List.mem_of_getElem? hx, by simpa using hne⟩, rfl⟩)
    unfold meet at this
    rw [bne_iff_ne, Nat.and_xor_distrib_right, e, Nat.xor_self] at this
    exact this rfl
theorem law_tells_ok (h : Fam n ms) {k : Nat} (hk : k < ms.length) {l : Nat} (hl : l < 2 ^ n) (st : Store) : F__law_tells [famT n ms, lotM n l, .int k] st = some (.bl (meetAll l (diffs ms[k] ms)), st) := by
  have hi := ix_fam (n := n) hk st
  have hol := h.lt _ (List.getElem_mem hk)
  have key := tells_key h hk hl
  generalize ms[k] = o at hi hol key
  refine fnA_ret (ρ' := [some (famT n ms), some (lotM n l), some (.int k), some (lotM n (o &&& l)), none, none]) rfl ?_
  have hm : E.call F__law_pattern (E.consA (E.op2 F.ix (E.var 0) (E.var 2)) (E.consA (E.var 1) E.nilA)) [some (famT n ms), some (lotM n l), some (.int k), none, none, none] st = some (lotM n (o &&& l), st) :=
    call2_of (b := E.var 1) (op2_of (a := E.var 0) (b := E.var 2) rfl rfl hi) rfl (law_pattern_ok n o l st)
  have he : I.enumA (E.consA (E.var 0) E.nilA) [some (famT n ms), some (lotM n l), some (.int k), some (lotM n (o &&& l)), none, none] st = some (((List.range ms.length).zip ms).map fun p => D.tup [.int (p.1 : Int), lotM n p.2], st) := by
    rw [← enum_map]
    rfl
  have hc : E.compL (G.tup (G.consT (G.name 4) (G.consT (G.name 5) G.nilT))) E.yes (E.andV (E.op2 F.ne0 (E.var 4) (E.var 2)) (E.op2 F.eq0 (E.call F__law_pattern (E.consA (E.var 5) (E.consA (E.var 1) E.nilA))) (E.var 3))) [some (famT n ms), some (lotM n l), some (.int k), some (lotM n (o &&& l)), none, none]
      (((List.range ms.length).zip ms).map fun p => D.tup [.int (p.1 : Int), lotM n p.2]) st = some (((List.range ms.length).zip ms).map fun p => D.bl (!decide (p.1 = k) && decide (p.2 &&& l = o &&& l)), st) :=
    compL_map _ _ _ fun p hp => by
      refine ⟨[some (famT n ms), some (lotM n l), some (.int k), some (lotM n (o &&& l)), some (.int (p.1 : Int)), some (lotM n p.2)], rfl, ?_⟩
      have h1 : E.op2 F.ne0 (E.var 4) (E.var 2) [some (famT n ms), some (lotM n l), some (.int k), some (lotM n (o &&& l)), some (.int (p.1 : Int)), some (lotM n p.2)] st = some (.bl (!decide ((p.1 : Int) = k)), st) := op2_of (a := E.var 4) (b := E.var 2) rfl rfl (ne_int _ _ st)
      have h2 : E.op2 F.eq0 (E.call F__law_pattern (E.consA (E.var 5) (E.consA (E.var 1) E.nilA))) (E.var 3) [some (famT n ms), some (lotM n l), some (.int k), some (lotM n (o &&& l)), some (.int (p.1 : Int)), some (lotM n p.2)] st = some (.bl (decide (p.2 &&& l = o &&& l)), st) :=
        op2_of (b := E.var 3) (call2_of (a := E.var 5) (b := E.var 1) rfl rfl (law_pattern_ok n p.2 l st)) rfl (eq_lot h.few (and_lt hl) (and_lt hl) st)
      rw [v_andV, h1, Option.bind_some]
      by_cases e : (p.1 : Int) = k
      · have e' : p.1 = k := by omega
        simp [e, e']
      · have e' : ¬ p.1 = k := by omega
        simp only [e, e', decide_false, Bool.not_false, Bool.true_and, h2]
  refine seq_of (set_of hm) (ret_of ?_)
  have := fn1_of (comp_of (vs := [4, 5]) he hc) (any_lst (fun p : Nat × Nat => !decide (p.1 = k) && decide (p.2 &&& l = o &&& l)) ((List.range ms.length).zip ms) st)
  rw [v_notV]
  show (E.fn F.any_ _ [some (famT n ms), some (lotM n l), some (.int k), some (lotM n (o &&& l)), none, none] st).bind _ = _
  rw [this, Option.bind_some, ← key]
/-- _law_is, flags -/
theorem law_isB_bl (k : Nat) (a b : Bool) (st : Store) : F__law_is_v2 (k + 1) [.bl a, .bl b] st = some (.bl (a == b), st) := by
  have t : ∀ x : Bool, F.isiA st [.bl x, .cls "bool"] = some (.bl true) := fun x => isi_t (a := "bool") rfl rfl (by decide)
  have t2 : ∀ x : Bool, F.isiA st [.bl x, .cls "int"] = some (.bl true) := fun x => isi_t (a := "bool") rfl rfl (by decide)
  refine fnA_ret (ρ' := [some (.bl a), some (.bl b)]) rfl ?_
  simp [m__law_is_v2, b__law_is_v2_1, t, t2, eq_bl, ne_bl]
theorem or_of {t u : MT} {ρ : Ev} {st st1 : Store} {k : Option (Bool × Store)} (h1 : t ρ st = some (false, st1)) (h2 : u ρ st1 = k) : E.orT t u ρ st = k := by
  rw [v_orT, h1, Option.bind_some]
  exact h2
theorem iteF_of {t : MT} {x y : MS} {ρ : Ev} {st st1 : Store} {o : Option (Fl × Ev × Store)} (h1 : t ρ st = some (false, st1)) (h2 : y ρ st1 = o) : S.ite t x y ρ st = o := by
  rw [v_iteS, h1, Option.bind_some]
  exact h2
theorem notT_of {t : MT} {ρ : Ev} {st st1 : Store} {k : Bool} (h1 : t ρ st = some (k, st1)) : E.notT t ρ st = some (!k, st1) := by
  rw [v_notT, h1, Option.map_some]
theorem enum_filter (h : Fam n ms) {k : Nat} (hk : k < ms.length) {α : Type} (f : Nat → α) : (((List.range ms.length).zip ms).filter fun p => !decide (p.1 = k)).map (fun p => f p.2) = (ms.filter fun x => !decide (x = ms[k])).map f := by
  have e : (((List.range ms.length).zip ms).filter fun p => !decide (p.1 = k)) = ((List.range ms.length).zip ms).filter ((fun x => !decide (x = ms[k])) ∘ Prod.snd) := by
    apply List.filter_congr
    intro p hp
    have hx := mem_enum.mp hp
    obtain ⟨h1, h2⟩ := List.getElem?_eq_some_iff.mp hx
    show (!decide (p.1 = k)) = !decide (p.2 = ms[k])
    congr 1
    rw [decide_eq_decide]
    constructor
    · intro e
      rw [← h2]
      simp only [e]
    · intro e
      have nd := List.pairwise_iff_getElem.mp h.nd
      rcases Nat.lt_trichotomy p.1 k with z | z | z
      · exact absurd (h2.trans e) (nd p.1 k h1 hk z)
      · exact z
      · exact absurd (h2.trans e).symm (nd k p.1 hk h1 z)
  have e2 : ((List.range ms.length).zip ms).map Prod.snd = ms := List.map_snd_zip (by simp)
  rw [e, show (fun p : Nat × Nat => f p.2) = f ∘ Prod.snd from rfl, ← List.map_map, ← List.filter_map, e2]
theorem mem_good {l : Nat} (ds : List Nat) (hl : l < 2 ^ n) : decide (l ∈ good n ds) = meetAll l ds := by
  unfold good
  rw [Bool.eq_iff_iff, decide_eq_true_eq, List.mem_filter, mem_allN]
  exact ⟨fun q => q.2, fun q => ⟨hl, q⟩⟩
theorem meetAll_sized (l : Nat) (ds : List Nat) : meetAll l (sizeN n ds) = meetAll l ds := by
  unfold meetAll
  rw [Bool.eq_iff_iff, List.all_eq_true, List.all_eq_true]
  exact ⟨fun q x hx => q x (mem_sizeN.mpr hx), fun q x hx => q x (mem_sizeN.mp hx)⟩
end
theorem fam012 : Fam 2 [0, 1, 2] := ⟨by decide, by decide, by decide, by decide, by decide, by decide⟩
theorem size_of {n : Nat} {l : List Nat} (h : l.Pairwise fun a b => (bits n a).length < (bits n b).length ∨ ((bits n a).length = (bits n b).length ∧ leM n a b = true)) : sizeN n l = l := List.mergeSort_of_pairwise (h.imp fun q => (leP_iff _ _ _).mpr q)
theorem sort_of {n : Nat} {l : List Nat} (h : l.Pairwise fun a b => leM n a b = true) : sortM n l = l := List.mergeSort_of_pairwise h
theorem allN2 : allN 2 = [0, 1, 2, 3] := size_of (l := [0, 1, 2, 3]) (by decide)
theorem ne_fixed {n : Nat} {ks : List Nat} {ρ : Ev} {st : Store} {a b : ME} (h1 : a ρ st = some (famT n ks, st)) (h2 : b ρ st = some (famT n ks, st)) (hn : n ≤ 6) (lt : ∀ k ∈ ks, k < 2 ^ n) : E.tv (E.op2 F.ne0 a b) ρ st = some (false, st) := by
  refine tv_of (op2_of h1 h2 ?_)
  rw [ne_famT hn lt lt]
  simp
theorem iteT_of {t : MT} {x y : MS} {ρ : Ev} {st st1 : Store} {o : Option (Fl × Ev × Store)} (h1 : t ρ st = some (true, st1)) (h2 : x ρ st1 = o) : S.ite t x y ρ st = o := by
  rw [v_iteS, h1, Option.bind_some]
  exact h2
end Sm.Pr
/-! ## MathR -/
/-! Plain laws, part R: sizes, easiest, hardest; patterns; parting. -/
namespace Sm.Pr
open PySem Sm
/-- a loop that hands back at the first item that fits -/
theorem loop_find {α : Type} {g : MG} {b : MS} {st : Store} (inj : α → D) (p : α → Bool) (f : α → D) (Inv : Ev → Prop) :
    ∀ (l : List α) (ρ : Ev), (∀ x ∈ l, ∀ ρ, Inv ρ → ∃ ρ1 ρ2, g (inj x) ρ = some ρ1 ∧ b ρ1 st = some (if p x then .ret (f x) else .nx, ρ2, st) ∧ Inv ρ2) → Inv ρ →
      ∃ ρ', S.loop g b (l.map inj) ρ st = some ((match l.find? p with | some x => .ret (f x) | none => .nx), ρ', st) ∧ Inv ρ'
  | [], ρ, _, i => ⟨ρ, rfl, i⟩
  | x :: l, ρ, h, i => by
    obtain ⟨ρ1, ρ2, h1, h2, h3⟩ := h x List.mem_cons_self ρ i
    have e : S.loop g b ((x :: l).map inj) ρ st = (match (if p x then Fl.ret (f x) else .nx) with | .nx => S.loop g b (l.map inj) ρ2 st | .ct => S.loop g b (l.map inj) ρ2 st | .bk => some (.nx, ρ2, st) | .ret d => some (.ret d, ρ2, st)) := by
      show (g (inj x) ρ).bind _ = _
      rw [h1]
      show (b ρ1 st).bind _ = _
      rw [h2]
      rfl
    cases hp : p x with
    | true =>
      refine ⟨ρ2, ?_, h3⟩
      rw [e, hp, List.find?_cons_of_pos hp]
      rfl
    | false =>
      obtain ⟨ρ', h4, h5⟩ := loop_find inj p f Inv l ρ2 (fun y hy => h y (List.mem_cons_of_mem _ hy)) h3
      refine ⟨ρ', ?_, h5⟩
      rw [e, hp, List.find?_cons_of_neg (by rw [hp]; decide)]
      exact h4
theorem range_getD {α β : Type} (d : α) (f : α → β) (l : List α) : (List.range l.length).map (fun i => f (l.getD i d)) = l.map f := by
  refine List.ext_getElem (by simp) fun i h1 h2 => ?_
  have hi : i < l.length := by simpa using h1
  rw [List.getElem_map, List.getElem_map, List.getElem_range, List.getD_eq_getElem?_getD, List.getElem?_eq_getElem hi]
  rfl
section
variable {n : Nat} {ms : List Nat}
/-- by how few points a member is told -/
def sz (n : Nat) (ms : List Nat) (o : Nat) : Nat := (bits n ((good n (diffs o ms)).headD 0)).length
theorem good_sorted (n : Nat) (ds : List Nat) : (good n ds).Pairwise fun a b => leP n a b = true :=
  (List.pairwise_mergeSort (leP_trans n) (leP_total n) _).filter _
theorem good_head (hn : n ≤ 6) {ds : List Nat} {x : Nat} {t : List Nat} (e : sizeN n (leastN n (good n ds)) = x :: t) : (good n ds).headD 0 = x := by
  have hx : x ∈ leastN n (good n ds) := mem_sizeN.mp (by rw [e]; exact List.mem_cons_self)
  have hxg := least_mem hx
  have hs := good_sorted n ds
  have hp : (sizeN n (leastN n (good n ds))).Pairwise fun a b => leP n a b = true := List.pairwise_mergeSort (leP_trans n) (leP_total n) _
  have lt := good_lt (n := n) (ds := ds)
  rw [e] at hp
  have hall : ∀ y ∈ leastN n (good n ds), leP n x y = true := fun y hy => by
    have : y ∈ x :: t := by rw [← e]; exact mem_sizeN.mpr hy
    rcases List.mem_cons.mp this with rfl | q
    · have := leP_total n y y
      simpa using this
    · exact (List.pairwise_cons.mp hp).1 y q
  generalize hg : good n ds = gs at *
  cases gs with
  | nil => cases hxg
  | cons y r =>
    show y = x
    have hy : y ∈ leastN n (y :: r) := sortM_mem.mpr (leastL_acc r _ y (by simp))
    refine leP_anti hn (lt y List.mem_cons_self) (lt x hxg) ?_ (hall y hy)
    rcases List.mem_cons.mp hxg with rfl | q
    · have := leP_total n x x
      simpa using this
    · exact (List.pairwise_cons.mp hs).1 x q
theorem fewest_sz (h : Fam n ms) {k : Nat} (hk : k < ms.length) (st : Store) : ∃ x, F_fewest_in [.fam n (famT n ms), .int k] st = some (lotM n x, st) ∧ F_fewest_telling [.fam n (famT n ms), .int k] st = some (lotM n x, st) ∧ (bits n x).length = sz n ms ms[k] := by
  obtain ⟨x, t, e, h1⟩ := fewest_in_ok h hk st
  obtain ⟨x', t', e', h2⟩ := fewest_ok h hk st
  rw [e] at e'
  cases e'
  refine ⟨x, h1, h2, ?_⟩
  unfold sz
  rw [good_head h.few e]
def szL (n : Nat) (ms : List Nat) : List Int := ms.map fun o => (sz n ms o : Int)
theorem szL_D (n : Nat) (ms : List Nat) : (List.range ms.length).map (fun i => D.int (sz n ms (ms.getD i 0) : Int)) = (szL n ms).map .int := by
  rw [range_getD 0 (fun o => D.int (sz n ms o : Int)) ms]
  unfold szL
  rw [List.map_map]
  rfl
theorem range_len {ρ : Ev} {a : ME} {st : Store} {k : Nat} (h : a ρ st = some (.int k, st)) (hk : k ≤ 1000) : I.range1 a ρ st = some ((List.range k).map fun (i : Nat) => .int (i : Int), st) := by
  have hl := lim_nat hk
  rw [v_range1, h, Option.bind_some]
  simp only [hl, and_self, if_true]
  rw [range_D]
theorem sizes_ok (h : Fam n ms) (st : Store) : F_sizes [.fam n (famT n ms)] st = some (.lst ((szL n ms).map .int), st) := by
  refine fnA_ret (ρ' := [some (.fam n (famT n ms)), none]) rfl (ret_of ?_)
  rw [← szL_D]
  have h64 := h.len
  refine comp_of (range_len (fn1_of (op1_of (a := E.var 0) rfl (fam_lots n _ st)) (len_famT n ms st)) (by omega)) (compL_map (fun (i : Nat) => D.int (i : Int)) (fun i => D.int (sz n ms (ms.getD i 0) : Int)) _ fun i hi => ⟨_, rfl, ?_⟩)
  have hi := List.mem_range.mp hi
  obtain ⟨x, h1, _, h2⟩ := fewest_sz h hi st
  have hg : ms.getD i 0 = ms[i] := by rw [List.getD_eq_getElem?_getD, List.getElem?_eq_getElem hi]; rfl
  rw [hg, ← h2]
  exact fn1_of (call2_of (a := E.var 0) (b := E.var 1) rfl rfl h1) (len_lot n x st)
theorem law_size_ok (h : Fam n ms) {k : Nat} (hk : k < ms.length) (st : Store) : F__law_size [.int n, famT n ms, .int k] st = some (.int (sz n ms ms[k]), st) := by
  have hi := ix_fam (n := n) hk st
  have ho := List.getElem_mem hk
  have hol := h.lt _ ho
  have key : ∀ l, l < 2 ^ n → (!((List.range ms.length).zip ms).any fun p => !decide (p.1 = k) && decide (p.2 &&& l = ms[k] &&& l)) = meetAll l (diffs ms[k] ms) := fun l hl => tells_key h hk hl
  have hgd : (good n (diffs ms[k] ms)) ≠ [] := fun e => by
    have := good_ne (diffs_lt h ho) diffs_ne
    rw [e] at this
    cases this
  have hsz : sz n ms ms[k] = (bits n ((good n (diffs ms[k] ms)).headD 0)).length := rfl
  generalize diffs ms[k] ms = ds at *
  generalize ms[k] = o at *
  have loop := loop_find (g := G.name 3) (b := b__law_size_2) (st := st) (lotM n) (fun l => meetAll l ds) (fun l => D.int ((bits n l).length : Int)) (fun ρ => ∃ o3 o4, ρ = [some (.int n), some (famT n ms), some (.int k), o3, o4, none, none]) (allN n) [some (.int n), some (famT n ms), some (.int k), none, none, none, none]
    (fun l hl ρ hI => by
      obtain ⟨o3, o4, rfl⟩ := hI
      have hl := mem_allN.mp hl
      refine ⟨_, [some (.int n), some (famT n ms), some (.int k), some (lotM n l), some (lotM n (o &&& l)), none, none], rfl, ?_, _, _, rfl⟩
      unfold b__law_size_2 b__law_size_1
      refine seq_of (set_of (call2_of (b := E.var 3) (op2_of (a := E.var 1) (b := E.var 2) rfl rfl hi) rfl (law_pattern_ok n o l st))) ?_
      have he : I.enumA (E.consA (E.var 1) E.nilA) [some (.int n), some (famT n ms), some (.int k), some (lotM n l), some (lotM n (o &&& l)), none, none] st = some (((List.range ms.length).zip ms).map fun p => D.tup [.int (p.1 : Int), lotM n p.2], st) := by
        rw [← enum_map]
        rfl
      have hc : E.compL (G.tup (G.consT (G.name 5) (G.consT (G.name 6) G.nilT))) E.yes (E.andV (E.op2 F.ne0 (E.var 5) (E.var 2)) (E.op2 F.eq0 (E.call F__law_pattern (E.consA (E.var 6) (E.consA (E.var 3) E.nilA))) (E.var 4))) [some (.int n), some (famT n ms), some (.int k), some (lotM n l), some (lotM n (o &&& l)), none, none]
          (((List.range ms.length).zip ms).map fun p => D.tup [.int (p.1 : Int), lotM n p.2]) st = some (((List.range ms.length).zip ms).map fun p => D.bl (!decide (p.1 = k) && decide (p.2 &&& l = o &&& l)), st) :=
        compL_map _ _ _ fun p hp => by
          refine ⟨[some (.int n), some (famT n ms), some (.int k), some (lotM n l), some (lotM n (o &&& l)), some (.int (p.1 : Int)), some (lotM n p.2)], rfl, ?_⟩
          have h1 : E.op2 F.ne0 (E.var 5) (E.var 2) [some (.int n), some (famT n ms), some (.int k), some (lotM n l), some (lotM n (o &&& l)), some (.int (p.1 : Int)), some (lotM n p.2)] st = some (.bl (!decide ((p.1 : Int) = k)), st) := op2_of (a := E.var 5) (b := E.var 2) rfl rfl (ne_int _ _ st)
          have h2 : E.op2 F.eq0 (E.call F__law_pattern (E.consA (E.var 6) (E.consA (E.var 3) E.nilA))) (E.var 4) [some (.int n), some (famT n ms), some (.int k), some (lotM n l), some (lotM n (o &&& l)), some (.int (p.1 : Int)), some (lotM n p.2)] st = some (.bl (decide (p.2 &&& l = o &&& l)), st) :=
            op2_of (b := E.var 4) (call2_of (a := E.var 6) (b := E.var 3) rfl rfl (law_pattern_ok n p.2 l st)) rfl (eq_lot h.few (and_lt hl) (and_lt hl) st)
          rw [v_andV, h1, Option.bind_some]
          by_cases e : (p.1 : Int) = k
          · have e' : p.1 = k := by omega
            simp [e, e']
          · have e' : ¬ p.1 = k := by omega
            simp only [e, e', decide_false, Bool.not_false, Bool.true_and, h2]
      have ha := notT_of (tv_of (fn1_of (comp_of (vs := [5, 6]) he hc) (any_lst (fun p : Nat × Nat => !decide (p.1 = k) && decide (p.2 &&& l = o &&& l)) ((List.range ms.length).zip ms) st)))
      rw [key l hl] at ha
      show S.ite _ _ _ [some (.int n), some (famT n ms), some (.int k), some (lotM n l), some (lotM n (o &&& l)), none, none] st = _
      rw [v_iteS, ha, Option.bind_some]
      cases meetAll l ds with
      | true => exact ret_of (fn1_of (a := E.var 3) rfl (len_lot n l st))
      | false => rfl) ⟨none, none, rfl⟩
  obtain ⟨ρ', h1, o3, o4, rfl⟩ := loop
  have hf : (allN n).find? (fun l => meetAll l ds) = some ((good n ds).headD 0) := by
    rw [← List.head?_filter]
    unfold good at hgd ⊢
    cases e : (allN n).filter fun l => meetAll l ds with
    | nil => exact absurd e hgd
    | cons x r => rfl
  rw [hf] at h1
  refine fnA_ret (d := .int (sz n ms o)) (ρ' := [some (.int n), some (famT n ms), some (.int k), o3, o4, none, none]) rfl ?_
  have h2 : S.for_ (G.name 3) (I.all (E.call F__law_lots_v2 (E.consA (E.var 0) E.nilA))) b__law_size_2 [some (.int n), some (famT n ms), some (.int k), none, none, none, none] st = some (.ret (.int (sz n ms o)), [some (.int n), some (famT n ms), some (.int k), o3, o4, none, none], st) := by
    rw [v_for, all_of (call1_of (a := E.var 0) rfl (law_lots_okB h.few st)) (all_lots_of n _), Option.bind_some, hsz]
    exact h1
  show S.seq _ _ [some (.int n), some (famT n ms), some (.int k), none, none, none, none] st = _
  rw [v_seq, h2]
  rfl
end
end Sm.Pr
/-! ## MathS -/
/-! Plain laws, part S: easiest, hardest; patterns; parting. -/
namespace Sm.Pr
open PySem Sm
/-! ### the least, the greatest of some numbers; the first place -/
def mnL : List Int → Int
  | [] => 0
  | a :: r => F.minL a r
def mxL : List Int → Int
  | [] => 0
  | a :: r => F.maxL a r
def ixL (m : Int) (l : List Int) : Nat := (F.findEq (.int m) 0 (l.map .int)).getD 0
theorem intL_ints (l : List Int) : F.intL (l.map .int) = some l := by
  have := ints_of (fun i : Int => i) l
  simpa using this
theorem min_ints {l : List Int} (h : l ≠ []) (st : Store) : F.minO st [.lst (l.map .int)] = some (.int (mnL l)) := by
  cases l with
  | nil => exact absurd rfl h
  | cons a r =>
    have : F.min_ st [.lst ((a :: r).map .int)] = some (.int (mnL (a :: r))) := by
      have e := intL_ints (a :: r)
      simp only [F.min_, F.lstOf, Option.bind_some, e]
      rfl
    unfold F.minO
    rw [this]
theorem max_ints {l : List Int} (h : l ≠ []) (st : Store) : F.maxO st [.lst (l.map .int)] = some (.int (mxL l)) := by
  cases l with
  | nil => exact absurd rfl h
  | cons a r =>
    have : F.max_ st [.lst ((a :: r).map .int)] = some (.int (mxL (a :: r))) := by
      have e := intL_ints (a :: r)
      simp only [F.max_, F.lstOf, Option.bind_some, e]
      rfl
    unfold F.maxO
    rw [this]
theorem mnL_mem {l : List Int} (h : l ≠ []) : mnL l ∈ l := by
  cases l with
  | nil => exact absurd rfl h
  | cons a r => exact (minL_mem r a).1
theorem mxL_mem {l : List Int} (h : l ≠ []) : mxL l ∈ l := by
  cases l with
  | nil => exact absurd rfl h
  | cons a r => exact (maxL_mem r a).1
theorem eqD_int (i j : Int) : F.eqD (.int i) (.int j) = decide (i = j) := by
  unfold F.eqD
  rw [F.toPy, F.toPy, PyData.eqv]
  rw [Bool.eq_iff_iff]
  simp
theorem find_some {m : Int} : ∀ {l : List Int} (i : Nat), m ∈ l → ∃ j, F.findEq (.int m) i (l.map .int) = some j
  | [], _, h => by cases h
  | x :: r, i, h => by
    rw [List.map_cons]
    unfold F.findEq
    rw [eqD_int]
    by_cases e : x = m
    · exact ⟨i, by simp [e]⟩
    · simp only [e, decide_false, Bool.false_eq_true, if_false]
      exact find_some (i + 1) ((List.mem_cons.mp h).resolve_left fun q => e q.symm)
theorem ix_ints {m : Int} {l : List Int} (h : m ∈ l) (st : Store) : F.index st (.lst (l.map .int)) [.int m] = some (.int (ixL m l : Nat), st) := by
  obtain ⟨j, hj⟩ := find_some 0 h
  have h1 : F.dat F.deep (.int m) = true := dat_int _ _
  have h2 : (l.map D.int).all (F.dat F.deep) = true := by simp [dat_int]
  simp only [F.index, F.lstOf, Option.bind_some, h1, h2, and_self, if_true, hj, Option.map_some, ixL, Option.getD_some]
theorem isL_lst (xs : List D) (st : Store) : F.isL st (.lst xs) = true := rfl
section
variable {ρ : Ev} {st st1 st2 : Store} {a b : ME} {d e r : D}
theorem tup2_of (h1 : a ρ st = some (d, st1)) (h2 : b ρ st1 = some (e, st2)) : E.tup (E.consA a (E.consA b E.nilA)) ρ st = some (.tup [d, e], st2) := by
  rw [v_tup, v_consA, h1, Option.bind_some, v_consA, h2, Option.bind_some, v_nilA, Option.map_some, Option.map_some, Option.map_some]
theorem mth1_of {k : Store → D → Bool} {f : Store → D → List D → Option (D × Store)} {o : Option (D × Store)} (h1 : a ρ st = some (d, st1)) (hk : k st1 d = true) (h2 : b ρ st1 = some (e, st2)) (h3 : f st2 d [e] = o) : E.mth k f a (E.consA b E.nilA) ρ st = o := by
  rw [v_mth, h1, Option.bind_some, if_pos hk, v_consA, h2, Option.bind_some, v_nilA, Option.map_some, Option.bind_some, h3]
end
section
variable {n : Nat} {ms : List Nat}
theorem szL_ne (h : Fam n ms) : szL n ms ≠ [] := by
  unfold szL
  intro e
  exact h.ne (List.map_eq_nil_iff.mp e)
def easT (n : Nat) (ms : List Nat) : D := .tup [.int (mnL (szL n ms)), .int (ixL (mnL (szL n ms)) (szL n ms) : Nat)]
def harT (n : Nat) (ms : List Nat) : D := .tup [.int (mxL (szL n ms)), .int (ixL (mxL (szL n ms)) (szL n ms) : Nat)]
theorem easT_run (h : Fam n ms) {ρ : Ev} {i : Nat} {st : Store} (hi : gt ρ i = some (.lst ((szL n ms).map .int))) : E.tup (E.consA (E.fn F.minO (E.consA (E.var i) E.nilA)) (E.consA (E.mth F.isL F.index (E.var i) (E.consA (E.fn F.minO (E.consA (E.var i) E.nilA)) E.nilA)) E.nilA)) ρ st = some (easT n ms, st) := by
  have hv : E.var i ρ st = some (.lst ((szL n ms).map .int), st) := by rw [v_var, hi]; rfl
  have hm := fn1_of hv (min_ints (szL_ne h) st)
  exact tup2_of hm (mth1_of hv (isL_lst _ st) hm (ix_ints (mnL_mem (szL_ne h)) st))
theorem harT_run (h : Fam n ms) {ρ : Ev} {i : Nat} {st : Store} (hi : gt ρ i = some (.lst ((szL n ms).map .int))) : E.tup (E.consA (E.fn F.maxO (E.consA (E.var i) E.nilA)) (E.consA (E.mth F.isL F.index (E.var i) (E.consA (E.fn F.maxO (E.consA (E.var i) E.nilA)) E.nilA)) E.nilA)) ρ st = some (harT n ms, st) := by
  have hv : E.var i ρ st = some (.lst ((szL n ms).map .int), st) := by rw [v_var, hi]; rfl
  have hm := fn1_of hv (max_ints (szL_ne h) st)
  exact tup2_of hm (mth1_of hv (isL_lst _ st) hm (ix_ints (mxL_mem (szL_ne h)) st))
theorem easiest_ok (h : Fam n ms) (st : Store) : F_easiest [.fam n (famT n ms)] st = some (easT n ms, st) :=
  fnA_ret (ρ' := [some (.fam n (famT n ms)), some (.lst ((szL n ms).map .int))]) rfl (seq_of (set_of (call1_of (a := E.var 0) rfl (sizes_ok h st))) (ret_of (easT_run h (i := 1) rfl)))
theorem hardest_ok (h : Fam n ms) (st : Store) : F_hardest [.fam n (famT n ms)] st = some (harT n ms, st) :=
  fnA_ret (ρ' := [some (.fam n (famT n ms)), some (.lst ((szL n ms).map .int))]) rfl (seq_of (set_of (call1_of (a := E.var 0) rfl (sizes_ok h st))) (ret_of (harT_run h (i := 1) rfl)))
/-! ### patterns -/
def pats (n l : Nat) (ms : List Nat) : List Nat := sortM n (once (ms.map (· &&& l)))
theorem pattern_ok (n a l : Nat) (st : Store) : F_pattern [lotM n a, lotM n l] st = some (lotM n (a &&& l), st) := by
  refine fnA_ret (ρ' := [some (lotM n a), some (lotM n l), none]) rfl ?_
  have hc : E.compL (G.name 2) (E.tv (E.op2 F.in_ (E.var 2) (E.var 0))) (E.var 2) [some (lotM n a), some (lotM n l), none] ((bits n l).map fun (i : Nat) => D.int (i : Int)) st = some ((bits n (a &&& l)).map fun (i : Nat) => D.int (i : Int), st) := by
    rw [compL_pure (fun (i : Nat) => D.int (i : Int)) (fun i => (bits n a).contains i) (fun i => D.int (i : Int)), bits_and]
    intro i hi
    exact ⟨_, rfl, by simp [in_lot], fun _ => by simp⟩
  exact ret_of (fn1_of (comp_of (all_of rfl (all_lot n l)) hc) (row_tuple n _ st))
theorem patterns_in_ok (h : Fam n ms) (hl : ms.length < 64) {l : Nat} (hn : l < 2 ^ n) (st : Store) : F_patterns_in [.fam n (famT n ms), lotM n l] st = some (famT n (pats n l ms), st) := by
  refine fnA_ret (ρ' := [some (.fam n (famT n ms)), some (lotM n l), none]) rfl ?_
  have hc : E.compL (G.name 2) E.yes (E.call F_pattern (E.consA (E.var 2) (E.consA (E.var 1) E.nilA))) [some (.fam n (famT n ms)), some (lotM n l), none] (ms.map (lotM n)) st = some ((ms.map (· &&& l)).map (lotM n), st) := by
    rw [List.map_map]
    exact compL_map (lotM n) (fun m => lotM n (m &&& l)) _ fun m hm => ⟨_, rfl, call2_of (a := E.var 2) (b := E.var 1) rfl rfl (pattern_ok n m l st)⟩
  have hs := sortSet_lots (ks := ms.map (· &&& l)) h.pos h.few (fun m hm => by obtain ⟨x, _, rfl⟩ := List.mem_map.mp hm; exact and_lt hn) (by simpa using hl) st
  exact ret_of (fn1_of (op1_of (comp_of (all_of (op1_of (a := E.var 0) rfl (fam_lots n _ st)) (all_famT n ms)) hc) hs) rfl)
theorem patterns_ok (h : Fam n ms) (hl : ms.length < 64) {l : Nat} (hn : l < 2 ^ n) (st : Store) : F_patterns [.fam n (famT n ms), lotM n l] st = some (famT n (pats n l ms), st) :=
  fnA_ret (ρ' := [some (.fam n (famT n ms)), some (lotM n l)]) rfl (seq_of (expr_of (call2_of (a := E.var 0) (b := E.var 1) rfl rfl (check_lot_ok h.few hn _ st))) (ret_of (call2_of (a := E.var 0) (b := E.var 1) rfl rfl (patterns_in_ok h hl hn st))))
theorem pats_len (l : Nat) (ms : List Nat) : (pats n l ms).length = (once (ms.map (· &&& l))).length := (sortM_perm n _).length_eq
/-! ### each once -/
theorem once_nodup {α : Type} [DecidableEq α] : ∀ {l : List α}, (once l).length = l.length ↔ l.Nodup
  | [] => by simp [once]
  | x :: r => by
    have h1 := once_le r
    have ih := once_nodup (l := r)
    rw [List.nodup_cons]
    unfold once
    by_cases hx : x ∈ r
    · rw [if_pos hx]
      refine ⟨fun e => ?_, fun q => absurd hx q.1⟩
      simp at e
      omega
    · rw [if_neg hx]
      simp only [List.length_cons, Nat.add_right_cancel_iff, ih]
      exact ⟨fun q => ⟨hx, q⟩, fun q => q.2⟩
theorem nodup_inj {α β : Type} {f : α → β} : ∀ {l : List α}, (l.map f).Nodup → ∀ x ∈ l, ∀ y ∈ l, f x = f y → x = y
  | [], _, x, hx, _, _, _ => by cases hx
  | a :: l, h, x, hx, y, hy, e => by
    rw [List.map_cons] at h
    obtain ⟨h1, h2⟩ := List.nodup_cons.mp h
    rcases List.mem_cons.mp hx with q | q <;> rcases List.mem_cons.mp hy with z | z
    · rw [q, z]
    · exact absurd (List.mem_map.mpr ⟨y, z, by rw [← e, q]⟩) h1
    · exact absurd (List.mem_map.mpr ⟨x, q, by rw [e, z]⟩) h1
    · exact nodup_inj h2 x q y z e
/-! ### parting -/
def als (ks ds : List Nat) : List Nat := ds.foldl also ks
theorem mem_als : ∀ {ds ks : List Nat} {d : Nat}, d ∈ als ks ds ↔ d ∈ ks ∨ d ∈ ds
  | [], ks, d => by simp [als]
  | x :: ds, ks, d => by
    show d ∈ als (also ks x) ds ↔ _
    rw [mem_als, mem_also, List.mem_cons]
    constructor
    · rintro ((q | q) | q)
      · exact .inl q
      · exact .inr (.inl q)
      · exact .inr (.inr q)
    · rintro (q | q | q)
      · exact .inl (.inl q)
      · exact .inl (.inr q)
      · exact .inr q
theorem als_nd : ∀ {ds ks : List Nat}, ks.Nodup → (als ks ds).Nodup
  | [], _, h => h
  | x :: ds, ks, h => als_nd (ds := ds) (also_nd (m := x) h)
theorem als_snoc (ks ds : List Nat) (d : Nat) : als ks (ds ++ [d]) = also (als ks ds) d := by unfold als; rw [List.foldl_append]; rfl
/-- all in which two members differ -/
def part (ms : List Nat) : List Nat := (List.range ms.length).foldl (fun ks i => als ks (diffs (ms.getD i 0) ms)) []
theorem mem_partL {ms : List Nat} : ∀ {is : List Nat} {ks : List Nat} {d : Nat}, d ∈ is.foldl (fun ks i => als ks (diffs (ms.getD i 0) ms)) ks ↔ d ∈ ks ∨ ∃ i ∈ is, d ∈ diffs (ms.getD i 0) ms
  | [], ks, d => by simp
  | i :: is, ks, d => by
    rw [List.foldl_cons, mem_partL, mem_als]
    constructor
    · rintro ((q | q) | ⟨j, hj, q⟩)
      · exact .inl q
      · exact .inr ⟨i, List.mem_cons_self, q⟩
      · exact .inr ⟨j, List.mem_cons_of_mem _ hj, q⟩
    · rintro (q | ⟨j, hj, q⟩)
      · exact .inl (.inl q)
      · rcases List.mem_cons.mp hj with rfl | hj
        · exact .inl (.inr q)
        · exact .inr ⟨j, hj, q⟩
theorem part_ndL {ms : List Nat} : ∀ {is : List Nat} {ks : List Nat}, ks.Nodup → (is.foldl (fun ks i => als ks (diffs (ms.getD i 0) ms)) ks).Nodup
  | [], _, h => h
  | i :: is, ks, h => part_ndL (is := is) (als_nd h)
theorem getD_at {ms : List Nat} {i : Nat} (hi : i < ms.length) : ms.getD i 0 = ms[i] := by rw [List.getD_eq_getElem?_getD, List.getElem?_eq_getElem hi]; rfl
theorem mem_part {d : Nat} : d ∈ part ms ↔ ∃ o ∈ ms, d ∈ diffs o ms := by
  unfold part
  rw [mem_partL]
  constructor
  · rintro (q | ⟨i, hi, q⟩)
    · cases q
    · have hi := List.mem_range.mp hi
      rw [getD_at hi] at q
      exact ⟨ms[i], List.getElem_mem hi, q⟩
  · rintro ⟨o, ho, q⟩
    obtain ⟨i, hi, rfl⟩ := List.getElem_of_mem ho
    exact .inr ⟨i, List.mem_range.mpr hi, by rw [getD_at hi]; exact q⟩
theorem part_lt (h : Fam n ms) : ∀ d ∈ part ms, d < 2 ^ n := fun d hd => by
  obtain ⟨o, ho, q⟩ := mem_part.mp hd
  exact diffs_lt h ho d q
theorem store_kv (hn : n ≤ 6) {ks : List Nat} (nd : ks.Nodup) (lt : ∀ k ∈ ks, k < 2 ^ n) {d : Nat} (hd : d < 2 ^ n) (st : Store) : F.store (st ++ [.dct true (kvL n ks)]) (.ref st.length) (lotM n d) (.bl true) = some (st ++ [.dct true (kvL n (also ks d))]) := by
  have h1 := nodup_le (2 ^ n) ks nd lt
  have h2 : 2 ^ n ≤ 2 ^ 6 := Nat.pow_le_pow_right (by decide) hn
  have hb : (kvL n ks).length < big := by rw [kvL_len]; unfold big; omega
  have hk : F.kindOk true (lotM n d) = true := by simp [F.kindOk, key_lot]
  simp only [F.store, get_last]
  rw [if_pos ⟨hk, hb⟩, put_lot hn lt hd, set_last]
theorem parting_ok (h : Fam n ms) (st : Store) : F_parting [.fam n (famT n ms)] st = some (famT n (leastN n (good n (part ms))), st) := by
  have h64 := h.len
  have inner : ∀ (k : Nat) (hk : k < ms.length) (ks : List Nat) (o3 : Option D), ks.Nodup → (∀ x ∈ ks, x < 2 ^ n) → ∃ p3, b_parting_2 [some (.fam n (famT n ms)), some (.ref st.length), some (.int k), o3] (st ++ [.dct true (kvL n ks)]) = some (.nx, [some (.fam n (famT n ms)), some (.ref st.length), some (.int k), p3], st ++ [.dct true (kvL n (als ks (diffs ms[k] ms)))]) := by
    intro k hk ks o3 nd lt
    have hd := all_differences_ok h hk (st ++ [.dct true (kvL n ks)])
    have hlt := diffs_lt h (List.getElem_mem hk)
    generalize diffs ms[k] ms = ds at hd hlt
    have loop := loop_inv (g := G.name 3) (b := b_parting_1) (lotM n) (fun done ρ s => ∃ p3, ρ = [some (.fam n (famT n ms)), some (.ref st.length), some (.int k), p3] ∧ s = st ++ [.dct true (kvL n (als ks done))]) ds
      (fun done d ρ s hdn hI => by
        obtain ⟨r, hr⟩ := hdn
        obtain ⟨p3, rfl, rfl⟩ := hI
        have hd' : d < 2 ^ n := hlt d (by rw [hr]; simp)
        have e := store_kv h.few (als_nd (ds := done) nd) (fun x hx => (mem_als.mp hx).elim (lt x) fun q => hlt x (by rw [hr]; simp [q])) hd' st
        refine ⟨_, .nx, _, _, rfl, ?_, .inl rfl, some (lotM n d), rfl, by rw [als_snoc]⟩
        show S.store _ _ _ [some (.fam n (famT n ms)), some (.ref st.length), some (.int k), some (lotM n d)] _ = _
        simp [e]) ds [] [some (.fam n (famT n ms)), some (.ref st.length), some (.int k), o3] (st ++ [.dct true (kvL n ks)]) rfl ⟨o3, rfl, rfl⟩
    obtain ⟨ρ', s', h1, p3, rfl, rfl⟩ := loop
    refine ⟨p3, ?_⟩
    unfold b_parting_2
    rw [v_for, all_of (call2_of (a := E.var 0) (b := E.var 2) rfl rfl hd) (all_lots_of n ds), Option.bind_some]
    exact h1
  have loop := loop_inv (g := G.name 2) (b := b_parting_2) (fun (i : Nat) => D.int (i : Int)) (fun done ρ s => ∃ p2 p3, ρ = [some (.fam n (famT n ms)), some (.ref st.length), p2, p3] ∧ s = st ++ [.dct true (kvL n (done.foldl (fun ks i => als ks (diffs (ms.getD i 0) ms)) []))]) (List.range ms.length)
    (fun done k ρ s hdn hI => by
      obtain ⟨r, hr⟩ := hdn
      obtain ⟨p2, p3, rfl, rfl⟩ := hI
      have hk : k < ms.length := List.mem_range.mp (by rw [hr]; simp)
      obtain ⟨q3, e⟩ := inner k hk (done.foldl (fun ks i => als ks (diffs (ms.getD i 0) ms)) []) p3 (part_ndL List.nodup_nil) (fun x hx => by
        rcases mem_partL.mp hx with q | ⟨i, hi, q⟩
        · cases q
        · have hi : i < ms.length := List.mem_range.mp (by rw [hr]; simp [hi])
          rw [getD_at hi] at q
          exact diffs_lt h (List.getElem_mem hi) x q)
      refine ⟨_, .nx, _, _, rfl, e, .inl rfl, _, _, rfl, ?_⟩
      rw [List.foldl_append, List.foldl_cons, List.foldl_nil, getD_at hk]) (List.range ms.length) [] [some (.fam n (famT n ms)), some (.ref st.length), none, none] (st ++ [.dct true []]) rfl ⟨none, none, rfl, rfl⟩
  obtain ⟨ρ', s', h1, p2, p3, rfl, rfl⟩ := loop
  have e0 : (List.range ms.length).foldl (fun ks i => als ks (diffs (ms.getD i 0) ms)) [] = part ms := rfl
  rw [e0] at h1
  have hpl := part_lt h
  generalize part ms = ks at h1 hpl
  have hA : fnA 1 4 m_parting [.fam n (famT n ms)] st = some (famT n (leastN n (good n ks)), st ++ [.dct true (kvL n ks)]) := by
    refine fnA_ret (ρ' := [some (.fam n (famT n ms)), some (.ref st.length), p2, p3]) rfl ?_
    have h2 : S.for_ (G.name 2) (I.range1 (E.fn F.len (E.consA (E.op1 (F.famAttr "lots") (E.var 0)) E.nilA))) b_parting_2 [some (.fam n (famT n ms)), some (.ref st.length), none, none] (st ++ [.dct true []]) = some (.nx, [some (.fam n (famT n ms)), some (.ref st.length), p2, p3], st ++ [.dct true (kvL n ks)]) := by
      rw [v_for, range_len (fn1_of (op1_of (a := E.var 0) rfl (fam_lots n _ _)) (len_famT n ms _)) (by omega), Option.bind_some]
      exact h1
    have h0 : S.set 1 (E.dctB true) [some (.fam n (famT n ms)), none, none, none] st = some (.nx, [some (.fam n (famT n ms)), some (.ref st.length), none, none], st ++ [.dct true []]) := rfl
    have hk : F.listK (st ++ [.dct true (kvL n ks)]) [.ref st.length] = some (.lst (ks.map (lotM n))) := by
      have : (kvL n ks).map (·.1) = ks.map (lotM n) := by unfold kvL; rw [List.map_map]; rfl
      simp only [F.listK, F.dctOf, get_last, Option.bind_some, if_true, this]
    have hc : E.compL (G.name 3) (E.tv (E.call F_do_meet (E.consA (E.var 3) (E.consA (E.fn F.listK (E.consA (E.var 1) E.nilA)) E.nilA)))) (E.var 3) [some (.fam n (famT n ms)), some (.ref st.length), p2, none] ((allN n).map (lotM n)) (st ++ [.dct true (kvL n ks)]) = some ((good n ks).map (lotM n), st ++ [.dct true (kvL n ks)]) :=
      compL_pure (lotM n) (fun l => meetAll l ks) (lotM n) _ fun l hl =>
        ⟨_, rfl, tv_of (call2_of (a := E.var 3) rfl (fn1_of (a := E.var 1) rfl hk) (do_meet_ok hpl _)), fun _ => rfl⟩
    exact seq_of h0 (seq_of h2 (ret_of (call1_of (comp_of (all_of (call1_of (op1_of (a := E.var 0) rfl (fam_points n _ _)) (all_lots_ok h.pos h.few _)) (all_lots_of n _)) hc) (least_run h.few (good_len h.few ks) good_lt _))))
  have := fnB_of (d' := famT n (leastN n (good n ks))) hA ⟨by simp, fun i c hi hc => .inl (by rw [List.getElem?_append_left hi] at hc; exact hc)⟩ ?_
  · rw [List.take_left] at this
    exact this
  · have hb : (famT n (leastN n (good n ks))).bel st.length = true := below_mono (Nat.zero_le _) _ (bel_famT n _)
    show (if (famT n (leastN n (good n ks))).bel st.length = true then some _ else none) = _
    rw [if_pos hb]
/-- all patterns are unlike -/
def apartB (n : Nat) (ms : List Nat) (l : Nat) : Bool := decide ((once (ms.map fun m => lotI n (m &&& l))).length = ms.length)
theorem apart_iff (h : Fam n ms) {l : Nat} (hl : l < 2 ^ n) : apartB n ms l = true ↔ ∀ x ∈ ms, ∀ y ∈ ms, x &&& l = y &&& l → x = y := by
  unfold apartB
  rw [decide_eq_true_eq, ← List.length_map (f := fun m => lotI n (m &&& l)) (as := ms), once_nodup]
  constructor
  · intro q x hx y hy e
    exact nodup_inj q x hx y hy (by simp only [e])
  · intro q
    exact nodup_map h.nd fun x hx y hy e => q x hx y hy (lot_inj h.few (and_lt hl) (and_lt hl) e)
theorem apart_meet (h : Fam n ms) {l : Nat} (hl : l < 2 ^ n) : apartB n ms l = meetAll l (part ms) := by
  rw [Bool.eq_iff_iff, apart_iff h hl]
  unfold meetAll
  rw [List.all_eq_true]
  constructor
  · intro q d hd
    obtain ⟨o, ho, hd⟩ := mem_part.mp hd
    obtain ⟨x, hx, rfl⟩ := List.mem_map.mp hd
    obtain ⟨hx1, hx2⟩ := List.mem_filter.mp hx
    have hx2 : x ≠ o := by simpa using hx2
    unfold meet
    rw [bne_iff_ne]
    intro z
    rw [Nat.and_xor_distrib_right, xor_zero] at z
    exact hx2 (q x hx1 o ho z.symm)
  · intro q x hx y hy e
    by_cases hxy : x = y
    · exact hxy
    · have := q (x ^^^ y) (mem_part.mpr ⟨x, hx, List.mem_map.mpr ⟨y, List.mem_filter.mpr ⟨hy, by simpa using fun z : y = x => hxy z.symm⟩, rfl⟩⟩)
      unfold meet at this
      rw [bne_iff_ne, Nat.and_xor_distrib_right, e, Nat.xor_self] at this
      exact absurd rfl this
end
theorem eqD_tupI (a b : List Int) : F.eqD (F.tupI a) (F.tupI b) = decide (a = b) := by
  unfold F.eqD
  rw [toPy_tupI, toPy_tupI, PyData.eqv, eqv_ints]
theorem eq_tupI (a b : List Int) (st : Store) : F.eq0 st (F.tupI a) (F.tupI b) = some (.bl (decide (a = b))) := by
  have h : ∀ l : List Int, F.dat F.deep (F.tupI l) = true := fun l => dat_tupI 11 l
  simp only [F.eq0, h, eqD_tupI, and_self, if_true]
theorem ne_tupI (a b : List Int) (st : Store) : F.ne0 st (F.tupI a) (F.tupI b) = some (.bl (!decide (a = b))) := by
  have h : ∀ l : List Int, F.dat F.deep (F.tupI l) = true := fun l => dat_tupI 11 l
  simp only [F.ne0, h, eqD_tupI, and_self, if_true]
theorem law_isB_tup (k : Nat) (a : List Int) (st : Store) : F__law_is_v2 (k + 1) [F.tupI a, F.tupI a] st = some (.bl true, st) := by
  have t : ∀ (b : String), F.known.contains b = true → F.isiA st [F.tupI a, .cls b] = some (.bl (F.subTy "tuple" b)) := fun b => isi_t (a := "tuple") rfl rfl
  have t1 := t "bool" (by decide)
  have t2 := t "int" (by decide)
  have e := eq_tupI a a st
  refine fnA_ret (ρ' := [some (F.tupI a), some (F.tupI a)]) rfl ?_
  simp [m__law_is_v2, b__law_is_v2_1, t1, t2, F.subTy, ne_bl, e]
theorem lenSet_lots {n : Nat} {ks : List Nat} (hl : ks.length < 64) (st : Store) : F.lenSetT st (.lst (ks.map (lotM n))) = some (.int (once (ks.map (lotI n))).length) := by
  simp only [F.lenSetT, F.lstOf, Option.bind_some, intsL_lots, List.length_map, if_pos hl]
theorem ix_famD {n : Nat} {ms : List Nat} {i : Nat} (hi : i < ms.length) (st : Store) : F.ix st (famT n ms) (.int i) = some (lotM n (ms.getD i 0)) := by
  rw [ix_fam hi, getD_at hi]
theorem Hand.drawB {st : Store} {h : Nat} (H : Hand h st) {k : Nat} (k1 : 1 ≤ k) (k2 : k ≤ 1000) : ∃ (r : Nat) (st' : Store), F__law_draw_v2 [.ref h, .int k] st = some (.int r, st') ∧ r < k ∧ Hand h st' := by
  obtain ⟨r, cc, h1, h2, h3⟩ := draw_okB H k1 k2
  exact ⟨r, _, h1, h2, h3⟩
theorem Hand.pickB {st : Store} {h : Nat} (H : Hand h st) {ms : List D} (hne : ms ≠ []) (hl : ms.length ≤ 1000) : ∃ (d : D) (st' : Store), F__law_any [.ref h, .lst ms] st = some (d, st') ∧ d ∈ ms ∧ Hand h st' := by
  obtain ⟨d, cc, h1, h2, h3⟩ := any_okB H hne hl
  exact ⟨d, _, h1, h2, h3⟩
end Sm.Pr
/-! ## MathU -/
/-! Plain laws, part U: neighbours. -/
namespace Sm.Pr
open PySem Sm
/-- a triple of neighbours -/
abbrev T3 := Nat × Nat × Nat
def t3 (t : T3) : List Int := [(t.1 : Int), (t.2.1 : Int), (t.2.2 : Int)]
def tD (t : T3) : D := F.tupI (t3 t)
def le3 (a b : T3) : Bool := leI (t3 a) (t3 b)
theorem t3_inj {a b : T3} (h : t3 a = t3 b) : a = b := by
  obtain ⟨a1, a2, a3⟩ := a
  obtain ⟨b1, b2, b3⟩ := b
  simp [t3] at h
  obtain ⟨h1, h2, h3⟩ := h
  have e1 : a1 = b1 := by omega
  have e2 : a2 = b2 := by omega
  have e3 : a3 = b3 := by omega
  rw [e1, e2, e3]
theorem le3_trans (a b c : T3) (h : le3 a b = true) (h' : le3 b c = true) : le3 a c = true := leI_trans (t3 a) (t3 b) (t3 c) h h'
theorem le3_total (a b : T3) : (le3 a b || le3 b a) = true := leI_total (t3 a) (t3 b)
def sort3 (ts : List T3) : List T3 := ts.mergeSort le3
theorem sort3_perm (ts : List T3) : (sort3 ts).Perm ts := List.mergeSort_perm _ _
theorem mem_sort3 {ts : List T3} {t : T3} : t ∈ sort3 ts ↔ t ∈ ts := (sort3_perm ts).mem_iff
theorem sort3_eq {ts us : List T3} (h1 : ts.Nodup) (h2 : us.Nodup) (e : ∀ t, t ∈ ts ↔ t ∈ us) : sort3 ts = sort3 us := by
  have hs : ∀ l : List T3, (sort3 l).Pairwise fun a b => le3 a b = true := fun l => List.pairwise_mergeSort le3_trans le3_total _
  have p : (sort3 ts).Perm (sort3 us) := (sort3_perm ts).trans (((List.perm_ext_iff_of_nodup h1 h2).mpr e).trans (sort3_perm us).symm)
  exact p.eq_of_pairwise (fun a b _ _ h h' => t3_inj (leI_anti h h')) (hs ts) (hs us)
theorem sorted_t3 {ts : List T3} (hl : ts.length ≤ 100000) {d : D} {st : Store} (hd : F.seq st d = some (ts.map tD)) : F.sorted st [d] = some (.lst ((sort3 ts).map tD)) := by
  have ok : F.SortOk (ts.map tD) := sortOk_tups t3 ts (by omega)
  have e : (ts.map tD).mergeSort F.leD = (sort3 ts).map tD := by
    unfold sort3
    rw [List.map_mergeSort]
    intro a _ b _
    exact (leD_tupI (t3 a) (t3 b)).symm
  rw [sorted_run hd ok, e]
/-! ### up: one point more -/
def upB (n x y : Nat) : Bool := (List.range n).any fun p => !x.testBit p && (y == x + 2 ^ p)
theorem up_len : ∀ n, n < 7 → ∀ x, x < 2 ^ n → ∀ y, y < 2 ^ n → (decide ((bits n y).length = (bits n x).length + 1) && decide ((bits n (x ^^^ y)).length = 1)) = upB n x y := by decide +kernel
theorem up_bits' : ∀ n, n < 7 → ∀ x, x < 2 ^ n → ∀ p, p < n → (x.testBit p || (decide (x + 2 ^ p < 2 ^ n) && ((bits n (x ^^^ (x + 2 ^ p)) == [p]) && (bits n x ++ [p]).isPerm (bits n (x + 2 ^ p))))) = true := by decide +kernel
theorem up_bits (n : Nat) (hn : n < 7) (x : Nat) (hx : x < 2 ^ n) (p : Nat) (hp : p < n) (h : x.testBit p = false) : x + 2 ^ p < 2 ^ n ∧ bits n (x ^^^ (x + 2 ^ p)) = [p] ∧ (bits n x ++ [p]).isPerm (bits n (x + 2 ^ p)) = true := by
  have := up_bits' n hn x hx p hp
  rw [h, Bool.false_or, Bool.and_eq_true, Bool.and_eq_true, decide_eq_true_eq, beq_iff_eq] at this
  exact this
section
variable {n : Nat} {ms : List Nat}
def Up (n : Nat) (ms : List Nat) (t : T3) : Prop := ∃ x, ms[t.1]? = some x ∧ ms[t.2.1]? = some (x + 2 ^ t.2.2) ∧ t.2.2 < n ∧ x.testBit t.2.2 = false
/-- those of one member, by points -/
def ups (n : Nat) (ms : List Nat) (q : Nat × Nat) : List T3 := ((List.range n).filter fun p => !q.2.testBit p && decide (q.2 + 2 ^ p ∈ ms)).map fun p => (q.1, ms.idxOf (q.2 + 2 ^ p), p)
def pairsP (n : Nat) (ms : List Nat) : List T3 := ((List.range ms.length).zip ms).flatMap (ups n ms)
theorem getElem_idx {x : Nat} (h : x ∈ ms) : ms[ms.idxOf x]? = some x := by
  have hl := List.idxOf_lt_length_of_mem h
  rw [List.getElem?_eq_getElem hl]
  rw [List.getElem_idxOf hl]
theorem idx_of (nd : ms.Nodup) {x i : Nat} (h : ms[i]? = some x) : ms.idxOf x = i := by
  obtain ⟨h1, h2⟩ := List.getElem?_eq_some_iff.mp h
  have hm : x ∈ ms := by rw [← h2]; exact List.getElem_mem h1
  have := getElem_idx hm
  obtain ⟨h3, h4⟩ := List.getElem?_eq_some_iff.mp this
  have nd' := List.pairwise_iff_getElem.mp nd
  rcases Nat.lt_trichotomy (ms.idxOf x) i with z | z | z
  · exact absurd (h4.trans h2.symm) (nd' _ _ h3 h1 z)
  · exact z
  · exact absurd (h2.trans h4.symm) (nd' _ _ h1 h3 z)
theorem mem_pairsP (h : Fam n ms) {t : T3} : t ∈ pairsP n ms ↔ Up n ms t := by
  unfold pairsP ups Up
  rw [List.mem_flatMap]
  constructor
  · rintro ⟨q, hq, ht⟩
    obtain ⟨p, hp, rfl⟩ := List.mem_map.mp ht
    obtain ⟨h1, h2⟩ := List.mem_filter.mp hp
    simp only [Bool.and_eq_true, Bool.not_eq_true', decide_eq_true_eq] at h2
    exact ⟨q.2, mem_enum.mp hq, getElem_idx h2.2, List.mem_range.mp h1, h2.1⟩
  · rintro ⟨x, h1, h2, h3, h4⟩
    refine ⟨(t.1, x), mem_enum.mpr h1, List.mem_map.mpr ⟨t.2.2, List.mem_filter.mpr ⟨List.mem_range.mpr h3, ?_⟩, ?_⟩⟩
    · simp only [Bool.and_eq_true, Bool.not_eq_true', decide_eq_true_eq]
      exact ⟨h4, List.mem_of_getElem? h2⟩
    · show (t.1, ms.idxOf (x + 2 ^ t.2.2), t.2.2) = t
      rw [idx_of h.nd h2]
theorem nodup_flat {α β : Type} {f : α → List β} {l : List α} (nd : l.Nodup) (h1 : ∀ a ∈ l, (f a).Nodup) (h2 : ∀ a ∈ l, ∀ b ∈ l, a ≠ b → ∀ x ∈ f a, x ∉ f b) : (l.flatMap f).Nodup := by
  induction l with
  | nil => exact List.nodup_nil
  | cons a l ih =>
    rw [List.flatMap_cons]
    obtain ⟨n1, n2⟩ := List.nodup_cons.mp nd
    refine List.nodup_append.mpr ⟨h1 a List.mem_cons_self, ih n2 (fun b hb => h1 b (List.mem_cons_of_mem _ hb)) (fun b hb c hc => h2 b (List.mem_cons_of_mem _ hb) c (List.mem_cons_of_mem _ hc)), fun x hx y hy e => ?_⟩
    obtain ⟨b, hb, hy⟩ := List.mem_flatMap.mp hy
    rw [← e] at hy
    exact h2 a List.mem_cons_self b (List.mem_cons_of_mem _ hb) (fun z => n1 (z ▸ hb)) x hx hy
theorem enum_nodup {α : Type} (l : List α) : ((List.range l.length).zip l).Nodup := by
  have : ((List.range l.length).zip l).map Prod.fst = List.range l.length := List.map_fst_zip (by simp)
  have nd : (((List.range l.length).zip l).map Prod.fst).Nodup := by rw [this]; exact List.nodup_range
  exact List.Pairwise.of_map Prod.fst (fun a b h e => h (by rw [e])) nd
theorem pairsP_nodup (h : Fam n ms) : (pairsP n ms).Nodup := by
  refine nodup_flat (enum_nodup ms) (fun q _ => ?_) fun q hq r hr hne t ht ht' => ?_
  · exact nodup_map (List.nodup_range.filter _) fun x _ y _ e => (Prod.mk.inj (Prod.mk.inj e).2).2
  · obtain ⟨p, _, rfl⟩ := List.mem_map.mp ht
    obtain ⟨p', _, e⟩ := List.mem_map.mp ht'
    have e1 : r.1 = q.1 := (Prod.mk.inj e).1
    have h1 := mem_enum.mp hq
    have h2 := mem_enum.mp hr
    rw [e1, h1] at h2
    exact hne (Prod.ext e1.symm (Option.some.inj h2))
theorem ups_len (q : Nat × Nat) : (ups n ms q).length ≤ n := by
  unfold ups
  rw [List.length_map]
  exact Nat.le_trans (List.length_filter_le _ _) (by simp)
/-- the dict of places -/
def placeL (n : Nat) (ms : List Nat) : List (D × D) := ((List.range ms.length).zip ms).map fun p => (lotM n p.2, .int (p.1 : Int))
theorem dict_place (h : Fam n ms) (st : Store) : F.dictP true st [.lst (((List.range ms.length).zip ms).map fun p => .tup [lotM n p.2, .int (p.1 : Int)])] = some (.dct true (placeL n ms)) := by
  have hmem : ∀ p ∈ (List.range ms.length).zip ms, p.2 < 2 ^ n := fun p hp => h.lt _ (List.mem_of_getElem? (mem_enum.mp hp))
  have pw : ((List.range ms.length).zip ms).Pairwise fun x y => F.keyK (lotM n x.2) ≠ F.keyK (lotM n y.2) := by
    refine List.Pairwise.imp_of_mem (fun {x y} hx hy hxy e => hxy ?_) (enum_nodup ms)
    have e2 := key_lot_inj h.few (hmem x hx) (hmem y hy) e
    have h1 := mem_enum.mp hx
    have h2 := mem_enum.mp hy
    have : x.1 = y.1 := by
      rw [← idx_of h.nd h1, ← idx_of h.nd h2, e2]
    exact Prod.ext this e2
  have e : F.putAll [] (((List.range ms.length).zip ms).map fun p => (lotM n p.2, D.int (p.1 : Int))) = placeL n ms := by
    rw [putAll_new (fun p : Nat × Nat => lotM n p.2) (fun p => D.int (p.1 : Int)) _ [] (by simp) pw]
    simp [placeL]
  have hb : ms.length ≤ big := Nat.le_trans h.len (by decide)
  have hl : (((List.range ms.length).zip ms).map fun p => (lotM n p.2, D.int (p.1 : Int))).length ≤ big := by simpa using hb
  have hk : ((((List.range ms.length).zip ms).map fun p => (lotM n p.2, D.int (p.1 : Int))).all fun p => F.kindOk true p.1) = true := by
    rw [List.all_eq_true]
    intro p hp
    obtain ⟨q, _, rfl⟩ := List.mem_map.mp hp
    simp [F.kindOk, key_lot]
  simp [F.dictP, F.lstOf, prs_map (fun p : Nat × Nat => lotM n p.2) (fun p => D.int (p.1 : Int)), F.kindOk, key_lot, e, hb]
theorem look_place (h : Fam n ms) {x : Nat} (hx : x < 2 ^ n) : F.look (placeL n ms) (lotM n x) = if x ∈ ms then some (.int (ms.idxOf x : Nat)) else none := by
  have hmem : ∀ p ∈ (List.range ms.length).zip ms, p.2 < 2 ^ n := fun p hp => h.lt _ (List.mem_of_getElem? (mem_enum.mp hp))
  unfold F.look
  by_cases hm : x ∈ ms
  · rw [if_pos hm]
    cases e : (placeL n ms).find? fun p => decide (F.keyK p.1 = F.keyK (lotM n x)) with
    | none =>
      rw [List.find?_eq_none] at e
      have := e (lotM n x, .int (ms.idxOf x : Nat)) (List.mem_map.mpr ⟨(ms.idxOf x, x), mem_enum.mpr (getElem_idx hm), rfl⟩)
      simp at this
    | some q =>
      have h1 := List.find?_some e
      obtain ⟨p, hp, rfl⟩ := List.mem_map.mp (List.mem_of_find?_eq_some e)
      have h1 : F.keyK (lotM n p.2) = F.keyK (lotM n x) := by simpa using h1
      have e2 := key_lot_inj h.few (hmem p hp) hx h1
      have h3 := mem_enum.mp hp
      rw [e2] at h3
      simp [idx_of h.nd h3]
  · rw [if_neg hm]
    cases e : (placeL n ms).find? fun p => decide (F.keyK p.1 = F.keyK (lotM n x)) with
    | none => rfl
    | some q =>
      have h1 := List.find?_some e
      obtain ⟨p, hp, rfl⟩ := List.mem_map.mp (List.mem_of_find?_eq_some e)
      have h1 : F.keyK (lotM n p.2) = F.keyK (lotM n x) := by simpa using h1
      have e2 := key_lot_inj h.few (hmem p hp) hx h1
      exact absurd (e2 ▸ List.mem_of_getElem? (mem_enum.mp hp)) hm
theorem kind_lot (m : Nat) : F.kindOk true (lotM n m) = true := by simp [F.kindOk, key_lot]
theorem in_place (h : Fam n ms) {x : Nat} (hx : x < 2 ^ n) (st : Store) : F.in_ st (lotM n x) (.dct true (placeL n ms)) = some (.bl (decide (x ∈ ms))) := by
  simp only [F.in_, F.dctOf, kind_lot, if_true, look_place h hx]
  by_cases hm : x ∈ ms <;> simp [hm]
theorem ix_place (h : Fam n ms) {x : Nat} (hx : x < 2 ^ n) (hm : x ∈ ms) (st : Store) : F.ix st (.dct true (placeL n ms)) (lotM n x) = some (.int (ms.idxOf x : Nat)) := by
  simp only [F.ix, F.dctOf, kind_lot, if_true, look_place h hx, if_pos hm]
theorem notIn_lot (n m i : Nat) (hi : i < n) (st : Store) : F.notIn st (.int i) (lotM n m) = some (.bl (!m.testBit i)) := by
  unfold F.notIn
  rw [in_lot, bits_has hi]
  rfl
theorem andT_t {t u : MT} {ρ : Ev} {st st1 : Store} {o : Option (Bool × Store)} (h1 : t ρ st = some (true, st1)) (h2 : u ρ st1 = o) : E.andT t u ρ st = o := by
  rw [v_andT, h1, Option.bind_some]
  exact h2
theorem andT_f {t u : MT} {ρ : Ev} {st st1 : Store} (h1 : t ρ st = some (false, st1)) : E.andT t u ρ st = some (false, st1) := by
  rw [v_andT, h1, Option.bind_some]
  rfl
theorem append_box {α : Type} (f : α → D) (acc : List α) (x : α) (hl : acc.length ≤ 1000) (st : Store) : F.append (st ++ [.lst (acc.map f)]) (.ref st.length) [f x] = some (.non, st ++ [.lst ((acc ++ [x]).map f)]) := by
  have : acc.length < big := by unfold big; omega
  simp [F.append, this]
theorem isL_box (xs : List D) (st : Store) : F.isL (st ++ [.lst xs]) (.ref st.length) = true := by simp [F.isL, F.lstOf]
theorem pairs_fact (h : Fam n ms) : caFact mk_pairs_in 6 n (famT n ms) (.lst ((sort3 (pairsP n ms)).map tD)) := by
  have h64 := h.len
  have inner : ∀ (st : Store) (q : Nat × Nat), ms[q.1]? = some q.2 → ∀ (acc : List T3) (o5 o6 : Option D), acc.length ≤ 900 → ∃ p5 p6, b_pairs_in_2 [some (.fam n (famT n ms)), some (.dct true (placeL n ms)), some (.ref st.length), some (.int (q.1 : Int)), some (lotM n q.2), o5, o6] (st ++ [.lst (acc.map tD)]) = some (.nx, [some (.fam n (famT n ms)), some (.dct true (placeL n ms)), some (.ref st.length), some (.int (q.1 : Int)), some (lotM n q.2), p5, p6], st ++ [.lst ((acc ++ ups n ms q).map tD)]) := by
    intro st q hq acc o5 o6 hacc
    have hq2 : q.2 < 2 ^ n := h.lt _ (List.mem_of_getElem? hq)
    have loop := loop_inv (g := G.name 5) (b := b_pairs_in_1) (fun (i : Nat) => D.int (i : Int)) (fun done ρ s => ∃ p5 p6, ρ = [some (.fam n (famT n ms)), some (.dct true (placeL n ms)), some (.ref st.length), some (.int (q.1 : Int)), some (lotM n q.2), p5, p6] ∧ s = st ++ [.lst ((acc ++ (done.filter fun p => !q.2.testBit p && decide (q.2 + 2 ^ p ∈ ms)).map fun p => (q.1, ms.idxOf (q.2 + 2 ^ p), p)).map tD)]) (List.range n)
      (fun done p ρ s hd hI => by
        obtain ⟨r, hr⟩ := hd
        obtain ⟨p5, p6, rfl, rfl⟩ := hI
        have hp : p < n := List.mem_range.mp (by rw [hr]; simp)
        have hdl : done.length ≤ 6 := by
          have := congrArg List.length hr
          have hf := h.few
          simp at this; omega
        have hfl : (done.filter fun p => !q.2.testBit p && decide (q.2 + 2 ^ p ∈ ms)).length ≤ 6 := Nat.le_trans (List.length_filter_le _ _) hdl
        have hsn : ((done ++ [p]).filter fun p => !q.2.testBit p && decide (q.2 + 2 ^ p ∈ ms)) = if (!q.2.testBit p && decide (q.2 + 2 ^ p ∈ ms)) then (done.filter fun p => !q.2.testBit p && decide (q.2 + 2 ^ p ∈ ms)) ++ [p] else done.filter fun p => !q.2.testBit p && decide (q.2 + 2 ^ p ∈ ms) := by
          rw [List.filter_append]
          cases e : (!q.2.testBit p && decide (q.2 + 2 ^ p ∈ ms)) <;> simp [e]
        rw [hsn]
        generalize (done.filter fun p => !q.2.testBit p && decide (q.2 + 2 ^ p ∈ ms)) = fl at *
        have hal : (acc ++ fl.map fun p => (q.1, ms.idxOf (q.2 + 2 ^ p), p)).length ≤ 1000 := by simp; omega
        generalize hS : st ++ [.lst ((acc ++ fl.map fun p => (q.1, ms.idxOf (q.2 + 2 ^ p), p)).map tD)] = S
        have hadd : ∀ s : Store, F.add s (lotM n q.2) (.tup [.int (p : Int)]) = some (.tup ((bits n q.2 ++ [p]).map fun (i : Nat) => .int (i : Int))) := fun s => by
          have l1 := bits_len h.few q.2
          have : (bits n q.2).length + 1 ≤ big := by unfold big; omega
          rw [lotM_items]
          simp [F.add, this]
        have hnot := notIn_lot n q.2 p hp S
        cases hb : q.2.testBit p with
        | true =>
          have hsrt : ∃ row, F.sorted S [.tup ((bits n q.2 ++ [p]).map fun (i : Nat) => .int (i : Int))] = some (.lst row) := by
            have := sorted_nats (bits n q.2 ++ [p]) (by have := bits_len h.few q.2; simp; omega) (List.mergeSort_perm _ (fun a b => decide (a ≤ b))).symm ((List.pairwise_mergeSort (le := fun (a b : Nat) => decide (a ≤ b)) (fun a b c h h' => by simp at *; omega) (fun a b => by simp; omega) _).imp fun h => by simpa using h) S
            exact ⟨_, this⟩
          obtain ⟨row, hrow⟩ := hsrt
          rw [hb] at hnot
          refine ⟨_, .nx, [some (.fam n (famT n ms)), some (.dct true (placeL n ms)), some (.ref st.length), some (.int (q.1 : Int)), some (lotM n q.2), some (.int (p : Int)), some (.tup row)], S, rfl, ?_, .inl rfl, _, _, rfl, ?_⟩
          · unfold b_pairs_in_1
            refine seq_of (set_of (fn1_of (fn1_of (op2_of (a := E.var 4) (b := E.tup (E.consA (E.var 5) E.nilA)) rfl rfl (hadd S)) hrow) (r := .tup row) rfl)) ?_
            exact iteF_of (andT_f (tv_of (op2_of (a := E.var 5) (b := E.var 4) rfl rfl hnot))) rfl
          · rw [← hS]
            simp
        | false =>
          obtain ⟨u1, _, u3⟩ := up_bits n (by have := h.few; omega) q.2 hq2 p hp hb
          have hrow : F.sorted S [.tup ((bits n q.2 ++ [p]).map fun (i : Nat) => .int (i : Int))] = some (.lst ((bits n (q.2 + 2 ^ p)).map fun (i : Nat) => .int (i : Int))) :=
            sorted_nats (bits n q.2 ++ [p]) (by have := bits_len h.few q.2; simp; omega) (List.isPerm_iff.mp u3) (bits_asc n (by have := h.few; omega) _ u1) S
          have hin := in_place h u1 S
          rw [hb] at hnot
          by_cases hm : q.2 + 2 ^ p ∈ ms
          · have hixp := ix_place h u1 hm S
            refine ⟨_, .nx, [some (.fam n (famT n ms)), some (.dct true (placeL n ms)), some (.ref st.length), some (.int (q.1 : Int)), some (lotM n q.2), some (.int (p : Int)), some (lotM n (q.2 + 2 ^ p))], st ++ [.lst (((acc ++ fl.map fun p => (q.1, ms.idxOf (q.2 + 2 ^ p), p)) ++ [(q.1, ms.idxOf (q.2 + 2 ^ p), p)]).map tD)], rfl, ?_, .inl rfl, _, _, rfl, ?_⟩
            · unfold b_pairs_in_1
              refine seq_of (set_of (fn1_of (fn1_of (op2_of (a := E.var 4) (b := E.tup (E.consA (E.var 5) E.nilA)) rfl rfl (hadd S)) hrow) (row_tuple n _ S))) ?_
              refine iteT_of (andT_t (tv_of (op2_of (a := E.var 5) (b := E.var 4) rfl rfl hnot)) (tv_of (op2_of (a := E.var 6) (b := E.var 1) rfl rfl (by rw [hin]; simp [hm])))) ?_
              rw [← hS] at hixp ⊢
              refine expr_of (mth1_of (a := E.var 2) rfl (isL_box _ st) (e := tD (q.1, ms.idxOf (q.2 + 2 ^ p), p)) ?_ (append_box tD _ _ hal st))
              rw [v_tup, v_consA, show E.var 3 _ _ = some (.int (q.1 : Int), _) from rfl, Option.bind_some, v_consA, op2_of (a := E.var 1) (b := E.var 6) rfl rfl hixp, Option.bind_some]
              rfl
            · simp [hm]
          · refine ⟨_, .nx, [some (.fam n (famT n ms)), some (.dct true (placeL n ms)), some (.ref st.length), some (.int (q.1 : Int)), some (lotM n q.2), some (.int (p : Int)), some (lotM n (q.2 + 2 ^ p))], S, rfl, ?_, .inl rfl, _, _, rfl, ?_⟩
            · unfold b_pairs_in_1
              refine seq_of (set_of (fn1_of (fn1_of (op2_of (a := E.var 4) (b := E.tup (E.consA (E.var 5) E.nilA)) rfl rfl (hadd S)) hrow) (row_tuple n _ S))) ?_
              exact iteF_of (andT_t (tv_of (op2_of (a := E.var 5) (b := E.var 4) rfl rfl hnot)) (tv_of (op2_of (a := E.var 6) (b := E.var 1) rfl rfl (by rw [hin]; simp [hm])))) rfl
            · rw [← hS]
              simp [hm]) (List.range n) [] [some (.fam n (famT n ms)), some (.dct true (placeL n ms)), some (.ref st.length), some (.int (q.1 : Int)), some (lotM n q.2), o5, o6] (st ++ [.lst (acc.map tD)]) rfl ⟨o5, o6, rfl, by simp⟩
    obtain ⟨ρ', s', h1, p5, p6, rfl, rfl⟩ := loop
    refine ⟨p5, p6, ?_⟩
    unfold b_pairs_in_2
    rw [v_for, range_len (k := n) (op1_of (a := E.var 0) rfl (fam_points n _ _)) (by have := h.few; omega), Option.bind_some]
    exact h1
  refine ⟨?_, fun st => ?_⟩
  · show D.bel 0 (.lst _) = true
    rw [D.bel]
    generalize sort3 (pairsP n ms) = ts
    induction ts with
    | nil => simp [D.bels]
    | cons t ts ih => rw [List.map_cons, D.bels, ih]; simp [tD, bel_tupI]
  have loop := loop_inv (g := G.tup (G.consT (G.name 3) (G.consT (G.name 4) G.nilT))) (b := b_pairs_in_2) (fun p : Nat × Nat => D.tup [.int (p.1 : Int), lotM n p.2]) (fun done ρ s => ∃ p3 p4 p5 p6, ρ = [some (.fam n (famT n ms)), some (.dct true (placeL n ms)), some (.ref st.length), p3, p4, p5, p6] ∧ s = st ++ [.lst ((done.flatMap (ups n ms)).map tD)] ∧ (done.flatMap (ups n ms)).length ≤ 6 * done.length) ((List.range ms.length).zip ms)
    (fun done q ρ s hd hI => by
      obtain ⟨r, hr⟩ := hd
      obtain ⟨p3, p4, p5, p6, rfl, rfl, hlen⟩ := hI
      have hq : ms[q.1]? = some q.2 := mem_enum.mp (by rw [hr]; simp)
      have hdl : done.length ≤ 64 := by
        have := congrArg List.length hr
        simp at this; omega
      obtain ⟨q5, q6, e⟩ := inner st q hq (done.flatMap (ups n ms)) p5 p6 (by omega)
      refine ⟨_, .nx, _, _, rfl, e, .inl rfl, _, _, _, _, rfl, by rw [List.flatMap_append]; simp, ?_⟩
      rw [List.flatMap_append, List.length_append, List.length_append, List.flatMap_cons, List.flatMap_nil, List.append_nil, List.length_singleton]
      have := ups_len (n := n) (ms := ms) q
      have := h.few
      omega) ((List.range ms.length).zip ms) [] [some (.fam n (famT n ms)), some (.dct true (placeL n ms)), some (.ref st.length), none, none, none, none] (st ++ [.lst []]) rfl ⟨none, none, none, none, rfl, rfl, Nat.le_refl _⟩
  obtain ⟨ρ', s', h1, p3, p4, p5, p6, rfl, rfl, hlen⟩ := loop
  have hfl : (((List.range ms.length).zip ms).flatMap (ups n ms)) = pairsP n ms := rfl
  rw [hfl] at h1 hlen
  have hlen : (pairsP n ms).length ≤ 6 * 64 := by
    refine Nat.le_trans hlen ?_
    simp; omega
  refine ⟨[some (.fam n (famT n ms)), some (.dct true (placeL n ms)), some (.ref st.length), p3, p4, p5, p6], st ++ [.lst ((pairsP n ms).map tD)], ?_, rfl, ⟨by simp, fun i c hi hc => .inl (by rw [List.getElem?_append_left hi] at hc; exact hc)⟩, by simp⟩
  have he : ∀ (o1 o2 : Option D) (s : Store), I.enumA (E.consA (E.op1 (F.famAttr "lots") (E.var 0)) E.nilA) [some (.fam n (famT n ms)), o1, o2, none, none, none, none] s = some (((List.range ms.length).zip ms).map fun p => D.tup [.int (p.1 : Int), lotM n p.2], s) := fun o1 o2 s => by
    unfold I.enumA
    rw [v_consA, op1_of (a := E.var 0) rfl (fam_lots n _ s), Option.bind_some, v_nilA, Option.map_some, Option.bind_some, ← enum_map]
    rfl
  have hd : E.fn (F.dictP true) (E.consA (E.comp [3, 4] (G.tup (G.consT (G.name 3) (G.consT (G.name 4) G.nilT))) (I.enumA (E.consA (E.op1 (F.famAttr "lots") (E.var 0)) E.nilA)) E.yes (E.tup (E.consA (E.var 4) (E.consA (E.var 3) E.nilA)))) E.nilA) [some (.fam n (famT n ms)), none, none, none, none, none, none] st = some (.dct true (placeL n ms), st) := by
    refine fn1_of (comp_of (he none none st) (compL_map (fun p : Nat × Nat => D.tup [.int (p.1 : Int), lotM n p.2]) (fun p => D.tup [lotM n p.2, .int (p.1 : Int)]) _ fun p _ => ⟨[some (.fam n (famT n ms)), none, none, some (.int (p.1 : Int)), some (lotM n p.2), none, none], rfl, rfl⟩)) (dict_place h st)
  show mk_pairs_in [some (.fam n (famT n ms)), none, none, none, none, none, none] st = _
  unfold mk_pairs_in K.cons
  rw [set_of hd, Option.bind_some]
  show (S.set 2 (E.lstB E.nilA) [some (.fam n (famT n ms)), some (.dct true (placeL n ms)), none, none, none, none, none] st).bind _ = _
  rw [show S.set 2 (E.lstB E.nilA) [some (.fam n (famT n ms)), some (.dct true (placeL n ms)), none, none, none, none, none] st = some (.nx, [some (.fam n (famT n ms)), some (.dct true (placeL n ms)), some (.ref st.length), none, none, none, none], st ++ [.lst []]) from rfl, Option.bind_some]
  show (S.for_ _ _ _ [some (.fam n (famT n ms)), some (.dct true (placeL n ms)), some (.ref st.length), none, none, none, none] (st ++ [.lst []])).bind _ = _
  rw [v_for, he, Option.bind_some, h1, Option.bind_some]
  show K.last _ _ _ = _
  unfold K.last
  rw [fn1_of (a := E.var 2) rfl (sorted_t3 (ts := pairsP n ms) (d := .ref st.length) (by omega) (by simp [F.seq]))]
  rfl
theorem pairs_in_ok (h : Fam n ms) (st : Store) : F_pairs_in [.fam n (famT n ms)] st = some (.lst ((sort3 (pairsP n ms)).map tD), st) := by
  refine fnA_ret (ρ' := famEv 6 n (famT n ms)) rfl ?_
  exact cached_run (caOf_of (pairs_fact h))
theorem pairs_ok (h : Fam n ms) (st : Store) : F_pairs [.fam n (famT n ms)] st = some (.tup ((sort3 (pairsP n ms)).map tD), st) :=
  fnA_ret (ρ' := [some (.fam n (famT n ms))]) rfl (ret_of (fn1_of (call1_of (a := E.var 0) rfl (pairs_in_ok h st)) rfl))
end
end Sm.Pr
/-! ## MathV -/
/-! Plain laws, part V: steps from a member. -/
namespace Sm.Pr
open PySem Sm
/-! ### distances, as they are found -/
abbrev DL := List (Nat × Nat)
def addD (dh : Nat) (L : DL) (c : Nat) : DL := if c ∈ L.map Prod.fst then L else L ++ [(c, dh + 1)]
def expand (dh : Nat) (L : DL) (cs : List Nat) : DL := cs.foldl (addD dh) L
theorem expand_app (dh : Nat) (L : DL) (cs ds : List Nat) : expand dh L (cs ++ ds) = expand dh (expand dh L cs) ds := by unfold expand; rw [List.foldl_append]
theorem expand_spec (dh : Nat) : ∀ (cs : List Nat) (L : DL), ∃ ext, expand dh L cs = L ++ ext ∧ (∀ e ∈ ext, e.2 = dh + 1 ∧ e.1 ∈ cs) ∧ (∀ c ∈ cs, c ∈ (L ++ ext).map Prod.fst) ∧ ((L.map Prod.fst).Nodup → ((L ++ ext).map Prod.fst).Nodup)
  | [], L => ⟨[], by simp [expand], by simp, by simp, by simp⟩
  | c :: cs, L => by
    obtain ⟨ext, h1, h2, h3, h4⟩ := expand_spec dh cs (addD dh L c)
    have e : expand dh L (c :: cs) = expand dh (addD dh L c) cs := rfl
    by_cases hc : c ∈ L.map Prod.fst
    · have ea : addD dh L c = L := if_pos hc
      rw [ea] at h1 h3 h4
      rw [e, ea]
      refine ⟨ext, h1, fun x hx => ⟨(h2 x hx).1, List.mem_cons_of_mem _ (h2 x hx).2⟩, fun x hx => ?_, h4⟩
      rcases List.mem_cons.mp hx with rfl | hx
      · rw [List.map_append]; exact List.mem_append_left _ hc
      · exact h3 x hx
    · have ea : addD dh L c = L ++ [(c, dh + 1)] := if_neg hc
      rw [ea] at h1 h3 h4
      rw [e, ea]
      refine ⟨(c, dh + 1) :: ext, by rw [h1]; simp, fun x hx => ?_, fun x hx => ?_, fun nd => ?_⟩
      · rcases List.mem_cons.mp hx with rfl | hx
        · exact ⟨rfl, List.mem_cons_self⟩
        · exact ⟨(h2 x hx).1, List.mem_cons_of_mem _ (h2 x hx).2⟩
      · rcases List.mem_cons.mp hx with rfl | hx
        · simp
        · have := h3 x hx
          simpa using this
      · have := h4 (by
          rw [List.map_append]
          refine List.nodup_append.mpr ⟨nd, by simp, fun a ha b hb e => ?_⟩
          have hb' : b = c := by simpa using hb
          rw [hb'] at e
          exact hc (e ▸ ha))
        simpa using this
/-- what holds of the distances while they are found -/
structure BI (N a : Nat) (nb : Nat → List Nat) (L : DL) (i : Nat) : Prop where
  nd : (L.map Prod.fst).Nodup
  lt : ∀ e ∈ L, e.1 < N
  le : i ≤ L.length
  start : (a, 0) ∈ L
  mono : L.Pairwise fun x y => x.2 ≤ y.2
  bound : ∀ h, L[i]? = some h → ∀ e ∈ L, e.2 ≤ h.2 + 1
  closed : ∀ j h, j < i → L[j]? = some h → ∀ v ∈ nb h.1, ∃ e ∈ L, e.1 = v ∧ e.2 ≤ h.2 + 1
  pred : ∀ e ∈ L, e = (a, 0) ∨ ∃ u ∈ L, e.1 ∈ nb u.1 ∧ e.2 = u.2 + 1
theorem BI.start' {N a : Nat} {nb : Nat → List Nat} (ha : a < N) : BI N a nb [(a, 0)] 0 where
  nd := by simp
  lt := fun e he => by rw [List.mem_singleton.mp he]; exact ha
  le := Nat.zero_le _
  start := by simp
  mono := by simp
  bound := fun h hh e he => by rw [List.mem_singleton.mp he]; exact Nat.zero_le _
  closed := fun j h hj => absurd hj (Nat.not_lt_zero _)
  pred := fun e he => .inl (List.mem_singleton.mp he)
theorem BI.few {N a : Nat} {nb : Nat → List Nat} {L : DL} {i : Nat} (H : BI N a nb L i) : L.length ≤ N := by
  have := nodup_le N (L.map Prod.fst) H.nd fun x hx => by
    obtain ⟨e, he, rfl⟩ := List.mem_map.mp hx
    exact H.lt e he
  simpa using this
theorem BI.step {N a : Nat} {nb : Nat → List Nat} {L : DL} {i : Nat} {h : Nat × Nat} (H : BI N a nb L i) (hh : L[i]? = some h) (hn : ∀ v ∈ nb h.1, v < N) : BI N a nb (expand h.2 L (nb h.1)) (i + 1) := by
  obtain ⟨ext, e1, e2, e3, e4⟩ := expand_spec h.2 (nb h.1) L
  have hi : i < L.length := (List.getElem?_eq_some_iff.mp hh).1
  have hm : h ∈ L := List.mem_of_getElem? hh
  have hb := H.bound h hh
  have at_ : ∀ j x, j ≤ i → (L ++ ext)[j]? = some x → L[j]? = some x := fun j x hj hx => by
    rw [List.getElem?_append_left (by omega)] at hx
    exact hx
  rw [e1]
  have hall : ∀ e ∈ L ++ ext, e.2 ≤ h.2 + 1 := fun e he => by
    rcases List.mem_append.mp he with q | q
    · exact hb e q
    · rw [(e2 e q).1]; exact Nat.le_refl _
  have hmono : (L ++ ext).Pairwise fun x y => x.2 ≤ y.2 := by
    refine List.pairwise_append.mpr ⟨H.mono, ?_, fun x hx y hy => ?_⟩
    · exact List.pairwise_of_forall_mem_list fun x hx y hy => by rw [(e2 x hx).1, (e2 y hy).1]; exact Nat.le_refl _
    · rw [(e2 y hy).1]; exact hb x hx
  refine ⟨e4 H.nd, fun e he => ?_, by simp; omega, List.mem_append_left _ H.start, hmono, fun x hx e he => ?_, fun j x hj hx v hv => ?_, fun e he => ?_⟩
  · rcases List.mem_append.mp he with q | q
    · exact H.lt e q
    · exact hn _ (e2 e q).2
  · have h1 := hall e he
    have h2 : h.2 ≤ x.2 := by
      have hh' : (L ++ ext)[i]? = some h := by rw [List.getElem?_append_left hi]; exact hh
      obtain ⟨q1, q2⟩ := List.getElem?_eq_some_iff.mp hh'
      obtain ⟨q3, q4⟩ := List.getElem?_eq_some_iff.mp hx
      have := List.pairwise_iff_getElem.mp hmono i (i + 1) q1 q3 (by omega)
      rw [q2, q4] at this
      exact this
    omega
  · have hx' := at_ j x (by omega) hx
    rcases Nat.lt_or_ge j i with z | z
    · obtain ⟨e, he, q1, q2⟩ := H.closed j x z hx' v hv
      exact ⟨e, List.mem_append_left _ he, q1, q2⟩
    · have : j = i := by omega
      subst this
      rw [hh] at hx'
      cases hx'
      obtain ⟨e, he, q1⟩ := List.mem_map.mp (e3 v hv)
      exact ⟨e, he, q1, hall e he⟩
  · rcases List.mem_append.mp he with q | q
    · exact (H.pred e q).imp id fun ⟨u, hu, z⟩ => ⟨u, List.mem_append_left _ hu, z⟩
    · exact .inr ⟨h, List.mem_append_left _ hm, (e2 e q).2, (e2 e q).1⟩
/-- the distances, found -/
theorem BI.same {N a : Nat} {nb nb' : Nat → List Nat} {L L' : DL} (H : BI N a nb L L.length) (H' : BI N a nb' L' L'.length) (hn : ∀ u v, u < N → v ∈ nb u → v ∈ nb' u) : ∀ (k : Nat) (e : Nat × Nat), e ∈ L → e.2 ≤ k → ∃ e' ∈ L', e'.1 = e.1 ∧ e'.2 ≤ e.2
  | k, e, he, hk => by
    rcases H.pred e he with rfl | ⟨u, hu, h1, h2⟩
    · exact ⟨_, H'.start, rfl, Nat.le_refl _⟩
    · obtain ⟨u', hu', q1, q2⟩ := BI.same H H' hn (k - 1) u hu (by omega)
      obtain ⟨j, hj⟩ := List.getElem?_of_mem hu'
      have hjl := (List.getElem?_eq_some_iff.mp hj).1
      obtain ⟨e', he', q3, q4⟩ := H'.closed j u' hjl hj e.1 (by rw [q1]; exact hn _ _ (H.lt u hu) h1)
      exact ⟨e', he', q3, by omega⟩
  termination_by k => k
  decreasing_by omega
theorem nodup_key {L : DL} (nd : (L.map Prod.fst).Nodup) {x y : Nat × Nat} (hx : x ∈ L) (hy : y ∈ L) (e : x.1 = y.1) : x = y := nodup_inj nd x hx y hy e
theorem BI.mem_iff {N a : Nat} {nb nb' : Nat → List Nat} {L L' : DL} (H : BI N a nb L L.length) (H' : BI N a nb' L' L'.length) (hn : ∀ u v, u < N → (v ∈ nb u ↔ v ∈ nb' u)) {e : Nat × Nat} (he : e ∈ L) : e ∈ L' := by
  obtain ⟨e', he', q1, q2⟩ := BI.same H H' (fun u v hu => (hn u v hu).mp) e.2 e he (Nat.le_refl _)
  obtain ⟨e2, he2, q3, q4⟩ := BI.same H' H (fun u v hu => (hn u v hu).mpr) e'.2 e' he' (Nat.le_refl _)
  have := nodup_key H.nd he2 he (q3.trans q1)
  have hd : e'.2 = e.2 := by rw [this] at q4; omega
  have : e' = e := Prod.ext q1 hd
  rw [← this]
  exact he'
theorem lookup_iff {L : DL} (nd : (L.map Prod.fst).Nodup) {v d : Nat} : L.lookup v = some d ↔ (v, d) ∈ L := by
  induction L with
  | nil => simp
  | cons x L ih =>
    obtain ⟨a, b⟩ := x
    rw [List.map_cons] at nd
    obtain ⟨n1, n2⟩ := List.nodup_cons.mp nd
    rw [List.lookup_cons, List.mem_cons]
    by_cases e : v = a
    · subst e
      simp only [beq_self_eq_true]
      constructor
      · intro h; exact .inl (by rw [Option.some.inj h])
      · rintro (h | h)
        · rw [(Prod.mk.inj h).2]
        · exact absurd (List.mem_map.mpr ⟨(v, d), h, rfl⟩) n1
    · have : (v == a) = false := by simpa using e
      rw [this]
      constructor
      · intro h; exact .inr ((ih n2).mp h)
      · rintro (h | h)
        · exact absurd (Prod.mk.inj h).1 e
        · exact (ih n2).mpr h
theorem lookup_none {L : DL} {v : Nat} : L.lookup v = none ↔ v ∉ L.map Prod.fst := by
  induction L with
  | nil => simp
  | cons x L ih =>
    obtain ⟨a, b⟩ := x
    rw [List.lookup_cons, List.map_cons, List.mem_cons]
    by_cases e : v = a
    · subst e; simp
    · have : (v == a) = false := by simpa using e
      rw [this]
      simp only
      rw [ih]
      simp [e]
theorem BI.lookup {N a : Nat} {nb nb' : Nat → List Nat} {L L' : DL} (H : BI N a nb L L.length) (H' : BI N a nb' L' L'.length) (hn : ∀ u v, u < N → (v ∈ nb u ↔ v ∈ nb' u)) (v : Nat) : L.lookup v = L'.lookup v := by
  cases e : L.lookup v with
  | some d => exact ((lookup_iff H'.nd).mpr (H.mem_iff H' hn ((lookup_iff H.nd).mp e))).symm
  | none =>
    cases e' : L'.lookup v with
    | none => rfl
    | some d =>
      have := (lookup_iff H.nd).mpr (H'.mem_iff H (fun u v hu => (hn u v hu).symm) ((lookup_iff H'.nd).mp e'))
      rw [e] at this
      cases this
/-! ### as a dict -/
def kvI (L : DL) : List (D × D) := L.map fun e => (.int (e.1 : Int), .int (e.2 : Int))
theorem look_kv (L : DL) (v : Nat) : F.look (kvI L) (.int v) = (L.lookup v).map fun (d : Nat) => .int (d : Int) := by
  unfold F.look kvI
  induction L with
  | nil => rfl
  | cons x L ih =>
    obtain ⟨a, b⟩ := x
    rw [List.map_cons, List.find?_cons, List.lookup_cons]
    by_cases e : v = a
    · subst e
      simp
    · have h1 : (v == a) = false := by simpa using e
      have h2 : decide (F.keyK (.int (a : Int)) = F.keyK (.int (v : Int))) = false := by
        simp [F.keyK]
        omega
      rw [h1]
      simp only [h2]
      exact ih
theorem kind_int (v : Int) : F.kindOk false (.int v) = true := rfl
section
variable {st : Store} {L : DL}
/-- the dict and the list behind the store as it was -/
def SL (st : Store) (L : DL) : Store := st ++ [.dct false (kvI L), .lst ((L.map Prod.fst).map fun (i : Nat) => .int (i : Int))]
theorem SL_d : (SL st L)[st.length]? = some (.dct false (kvI L)) := by simp [SL]
theorem SL_w : (SL st L)[st.length + 1]? = some (.lst ((L.map Prod.fst).map fun (i : Nat) => .int (i : Int))) := by simp [SL]
theorem notIn_SL (v : Nat) : F.notIn (SL st L) (.int v) (.ref st.length) = some (.bl (decide (v ∉ L.map Prod.fst))) := by
  unfold F.notIn
  simp only [F.in_, F.dctOf, SL_d, kind_int, if_true, look_kv, Option.bind_some]
  cases e : L.lookup v with
  | none => simp [lookup_none.mp e]
  | some d =>
    have : ¬ (v ∉ L.map Prod.fst) := fun h => by
      rw [lookup_none.mpr h] at e
      cases e
    simp only [Option.map_some, Option.isSome_some, Bool.not_true]
    rw [decide_eq_false this]
theorem ix_SL {v d : Nat} (h : L.lookup v = some d) : F.ix (SL st L) (.ref st.length) (.int v) = some (.int (d : Int)) := by
  simp only [F.ix, F.dctOf, SL_d, kind_int, if_true, look_kv, h, Option.map_some]
theorem ixw_SL {i : Nat} {h : Nat × Nat} (hh : L[i]? = some h) : F.ix (SL st L) (.ref (st.length + 1)) (.int i) = some (.int (h.1 : Int)) := by
  obtain ⟨h1, h2⟩ := List.getElem?_eq_some_iff.mp hh
  have h3 : (i : Int) < ((L.map Prod.fst).map fun (i : Nat) => D.int (i : Int)).length := by simpa using h1
  simp [F.ix, F.dctOf, SL_w, F.seq, L2.atI, L2.ixN, h1, h2]
theorem len_SL : F.len (SL st L) [.ref (st.length + 1)] = some (.int (L.length : Int)) := by
  simp [F.len, F.seq, SL_w]
/-- found[c] = found[here] + 1; waiting.append(c) -/
theorem add_run {ρ : Ev} {id iw ic ih c dh hr : Nat} (gd : gt ρ id = some (.ref st.length)) (gw : gt ρ iw = some (.ref (st.length + 1))) (gc : gt ρ ic = some (.int (c : Int))) (gh : gt ρ ih = some (.int (hr : Int)))
    (hl : L.lookup hr = some dh) (hc : c ∉ L.map Prod.fst) (hn : L.length ≤ 1000) :
    S.seq (S.store (E.var id) (E.var ic) (E.op2 F.add (E.op2 F.ix (E.var id) (E.var ih)) (E.c (.int 1)))) (S.expr (E.mth F.isL F.append (E.var iw) (E.consA (E.var ic) E.nilA))) ρ (SL st L) = some (.nx, ρ, SL st (L ++ [(c, dh + 1)])) := by
  have vd : ∀ s : Store, E.var id ρ s = some (.ref st.length, s) := fun s => by rw [v_var, gd]; rfl
  have vw : ∀ s : Store, E.var iw ρ s = some (.ref (st.length + 1), s) := fun s => by rw [v_var, gw]; rfl
  have vc : ∀ s : Store, E.var ic ρ s = some (.int (c : Int), s) := fun s => by rw [v_var, gc]; rfl
  have vh : ∀ s : Store, E.var ih ρ s = some (.int (hr : Int), s) := fun s => by rw [v_var, gh]; rfl
  have hadd : E.op2 F.add (E.op2 F.ix (E.var id) (E.var ih)) (E.c (.int 1)) ρ (SL st L) = some (.int ((dh + 1 : Nat) : Int), SL st L) := op2_of (op2_of (vd _) (vh _) (ix_SL hl)) rfl rfl
  have hput : F.put (kvI L) (.int (c : Int)) (.int ((dh + 1 : Nat) : Int)) = kvI (L ++ [(c, dh + 1)]) := by
    rw [put_new]
    · unfold kvI
      rw [List.map_append]
      rfl
    · intro p hp e
      obtain ⟨x, hx, rfl⟩ := List.mem_map.mp hp
      have e' : (x.1 : Int) = c := by simpa [F.keyK] using e
      have : x.1 = c := by omega
      exact hc (List.mem_map.mpr ⟨x, hx, this⟩)
  have hst : F.store (SL st L) (.ref st.length) (.int (c : Int)) (.int ((dh + 1 : Nat) : Int)) = some (st ++ [.dct false (kvI (L ++ [(c, dh + 1)])), .lst ((L.map Prod.fst).map fun (i : Nat) => .int (i : Int))]) := by
    have hb : (kvI L).length < big := by unfold kvI big; simp; omega
    simp only [F.store, SL_d]
    rw [if_pos ⟨rfl, hb⟩, hput]
    unfold SL
    simp
  have happ : F.append (st ++ [.dct false (kvI (L ++ [(c, dh + 1)])), .lst ((L.map Prod.fst).map fun (i : Nat) => .int (i : Int))]) (.ref (st.length + 1)) [.int (c : Int)] = some (.non, SL st (L ++ [(c, dh + 1)])) := by
    have hb : ((L.map Prod.fst).map fun (i : Nat) => D.int (i : Int)).length < big := by unfold big; simp; omega
    have hat : (st ++ [Cell.dct false (kvI (L ++ [(c, dh + 1)])), .lst ((L.map Prod.fst).map fun (i : Nat) => .int (i : Int))])[st.length + 1]? = some (.lst ((L.map Prod.fst).map fun (i : Nat) => .int (i : Int))) := by simp
    simp only [F.append, hat]
    rw [if_pos hb]
    simp [SL]
  have hL : F.isL (st ++ [.dct false (kvI (L ++ [(c, dh + 1)])), .lst ((L.map Prod.fst).map fun (i : Nat) => .int (i : Int))]) (.ref (st.length + 1)) = true := by simp [F.isL, F.lstOf]
  refine seq_of (ρ1 := ρ) (st1 := st ++ [.dct false (kvI (L ++ [(c, dh + 1)])), .lst ((L.map Prod.fst).map fun (i : Nat) => .int (i : Int))]) ?_ (expr_of (mth1_of (vw _) hL (vc _) happ))
  rw [v_store, hadd, Option.bind_some, vd, Option.bind_some, vc, Option.bind_some]
  simp only [hst, Option.map_some]
end
/-- a while, by a measure -/
theorem while_inv {t : MT} {b : MS} (Inv : Nat → Ev → Store → Prop) (Fin : Ev → Store → Prop)
    (h : ∀ m ρ st, Inv m ρ st → (t ρ st = some (false, st) ∧ Fin ρ st) ∨ (t ρ st = some (true, st) ∧ ∃ m' f ρ2 st2, b ρ st = some (f, ρ2, st2) ∧ (f = .nx ∨ f = .ct) ∧ m' < m ∧ Inv m' ρ2 st2)) :
    ∀ (N m : Nat) (ρ : Ev) (st : Store), m < N → Inv m ρ st → ∃ ρ' st', S.whileN t b N ρ st = some (.nx, ρ', st') ∧ Fin ρ' st'
  | 0, m, ρ, st, hm, _ => absurd hm (Nat.not_lt_zero _)
  | N + 1, m, ρ, st, hm, hI => by
    rcases h m ρ st hI with ⟨h1, h2⟩ | ⟨h1, m', f, ρ2, st2, h2, h3, h4, h5⟩
    · refine ⟨ρ, st, ?_, h2⟩
      unfold S.whileN
      rw [h1, Option.bind_some]
      rfl
    · obtain ⟨ρ', st', h6, h7⟩ := while_inv Inv Fin h N m' ρ2 st2 (by omega) h5
      refine ⟨ρ', st', ?_, h7⟩
      unfold S.whileN
      rw [h1, Option.bind_some]
      show (b ρ st).bind _ = _
      rw [h2, Option.bind_some]
      rcases h3 with rfl | rfl <;> exact h6
end Sm.Pr
/-! ## MathW -/
/-! Plain laws, part W: steps, far, apart; the law's own. -/
namespace Sm.Pr
open PySem Sm
theorem expand_mem {N dh : Nat} {L : DL} {cs : List Nat} (nd : (L.map Prod.fst).Nodup) (lt : ∀ e ∈ L, e.1 < N) (hc : ∀ c ∈ cs, c < N) :
    ((expand dh L cs).map Prod.fst).Nodup ∧ (∀ e ∈ expand dh L cs, e.1 < N) ∧ ∀ e ∈ L, e ∈ expand dh L cs := by
  obtain ⟨ext, e1, e2, _, e4⟩ := expand_spec dh cs L
  rw [e1]
  refine ⟨e4 nd, fun e he => ?_, fun e he => List.mem_append_left _ he⟩
  rcases List.mem_append.mp he with q | q
  · exact lt e q
  · exact hc _ (e2 e q).2
theorem dl_len {N : Nat} {L : DL} (nd : (L.map Prod.fst).Nodup) (lt : ∀ e ∈ L, e.1 < N) : L.length ≤ N := by
  have := nodup_le N (L.map Prod.fst) nd fun x hx => by
    obtain ⟨e, he, rfl⟩ := List.mem_map.mp hx
    exact lt e he
  simpa using this
theorem bel_kvI (L : DL) (k : Nat) : (D.dct false (kvI L)).bel k = true := by
  rw [D.bel]
  unfold kvI
  induction L with
  | nil => simp [D.belK]
  | cons x L ih => rw [List.map_cons, D.belK, ih]; simp [D.belP, D.bel]
theorem belK_kvI (L : DL) (k : Nat) : D.belK k (kvI L) = true := by
  have := bel_kvI L k
  rw [D.bel] at this
  exact this
theorem kept_app (st l : Store) : Kept st (st ++ l) := ⟨by simp, fun i c hi hc => .inl (by rw [List.getElem?_append_left hi] at hc; exact hc)⟩
/-- such a dict by value -/
theorem in_kv (L : DL) (v : Nat) (st : Store) : F.in_ st (.int v) (.dct false (kvI L)) = some (.bl (L.lookup v).isSome) := by
  simp only [F.in_, F.dctOf, kind_int, if_true, look_kv, Option.isSome_map]
theorem notIn_kv (L : DL) (v : Nat) (st : Store) : F.notIn st (.int v) (.dct false (kvI L)) = some (.bl (!(L.lookup v).isSome)) := by
  unfold F.notIn
  rw [in_kv]
  rfl
theorem ix_kv {L : DL} {v d : Nat} (h : L.lookup v = some d) (st : Store) : F.ix st (.dct false (kvI L)) (.int v) = some (.int (d : Int)) := by
  simp only [F.ix, F.dctOf, kind_int, if_true, look_kv, h, Option.map_some]
section
variable {n : Nat} {ms : List Nat}
def one2 (u : Nat) (p : Nat × Nat) : List Nat := if p.1 = u then [p.2] else []
def both2 (u : Nat) (t : T3) : List Nat := [(t.1, t.2.1), (t.2.1, t.1)].flatMap (one2 u)
/-- the neighbours of a member, as the program finds them -/
def nbP (n : Nat) (ms : List Nat) (u : Nat) : List Nat := (sort3 (pairsP n ms)).flatMap (both2 u)
/-- .. as the law does -/
def nbL (n : Nat) (ms : List Nat) (u : Nat) : List Nat := (List.range ms.length).filter fun v => decide ((bits n (ms.getD u 0 ^^^ ms.getD v 0)).length = 1)
theorem mem_nbP (h : Fam n ms) {u v : Nat} : v ∈ nbP n ms u ↔ ∃ t, Up n ms t ∧ ((t.1 = u ∧ t.2.1 = v) ∨ (t.2.1 = u ∧ t.1 = v)) := by
  unfold nbP
  rw [List.mem_flatMap]
  constructor
  · rintro ⟨t, ht, hv⟩
    refine ⟨t, (mem_pairsP h).mp (mem_sort3.mp ht), ?_⟩
    unfold both2 one2 at hv
    simp only [List.flatMap_cons, List.flatMap_nil, List.append_nil, List.mem_append] at hv
    rcases hv with q | q
    · split at q
      · rename_i e; exact .inl ⟨e, (List.mem_singleton.mp q).symm⟩
      · cases q
    · split at q
      · rename_i e; exact .inr ⟨e, (List.mem_singleton.mp q).symm⟩
      · cases q
  · rintro ⟨t, ht, hv⟩
    refine ⟨t, mem_sort3.mpr ((mem_pairsP h).mpr ht), ?_⟩
    unfold both2 one2
    simp only [List.flatMap_cons, List.flatMap_nil, List.append_nil, List.mem_append]
    rcases hv with ⟨e1, e2⟩ | ⟨e1, e2⟩
    · exact .inl (by simp [e1, e2])
    · exact .inr (by simp [e1, e2])
theorem Up.lt (h : Fam n ms) {t : T3} (ht : Up n ms t) : t.1 < ms.length ∧ t.2.1 < ms.length := by
  obtain ⟨x, h1, h2, _⟩ := ht
  exact ⟨(List.getElem?_eq_some_iff.mp h1).1, (List.getElem?_eq_some_iff.mp h2).1⟩
theorem nbP_lt (h : Fam n ms) {u v : Nat} (hv : v ∈ nbP n ms u) : v < ms.length := by
  obtain ⟨t, ht, q⟩ := (mem_nbP h).mp hv
  have := ht.lt h
  rcases q with ⟨_, e⟩ | ⟨_, e⟩ <;> rw [← e]
  · exact this.2
  · exact this.1
theorem xor_one : ∀ n, n < 7 → ∀ x, x < 2 ^ n → ∀ y, y < 2 ^ n → decide ((bits n (x ^^^ y)).length = 1) = (upB n x y || upB n y x) := by decide +kernel
theorem upB_iff {x y : Nat} : upB n x y = true ↔ ∃ p, p < n ∧ x.testBit p = false ∧ y = x + 2 ^ p := by
  unfold upB
  rw [List.any_eq_true]
  constructor
  · rintro ⟨p, h1, h2⟩
    simp only [Bool.and_eq_true, Bool.not_eq_true', beq_iff_eq] at h2
    exact ⟨p, List.mem_range.mp h1, h2.1, h2.2⟩
  · rintro ⟨p, h1, h2, h3⟩
    exact ⟨p, List.mem_range.mpr h1, by simp [h2, h3]⟩
theorem Up_of {a b x y : Nat} (ha : ms[a]? = some x) (hb : ms[b]? = some y) : upB n x y = true ↔ ∃ p, Up n ms (a, b, p) := by
  rw [upB_iff]
  constructor
  · rintro ⟨p, h1, h2, h3⟩
    exact ⟨p, x, ha, by rw [hb, h3], h1, h2⟩
  · rintro ⟨p, z, h1, h2, h3, h4⟩
    rw [ha] at h1
    cases h1
    rw [hb] at h2
    exact ⟨p, h3, h4, Option.some.inj h2⟩
theorem nb_same (h : Fam n ms) (u v : Nat) (hu : u < ms.length) : v ∈ nbP n ms u ↔ v ∈ nbL n ms u := by
  rw [mem_nbP h]
  unfold nbL
  rw [List.mem_filter, List.mem_range]
  have hux : ms[u]? = some (ms.getD u 0) := by rw [getD_at hu, List.getElem?_eq_getElem hu]
  have hul : ms.getD u 0 < 2 ^ n := h.lt _ (List.mem_of_getElem? hux)
  constructor
  · rintro ⟨t, ht, q⟩
    have hl := ht.lt h
    have hv : v < ms.length := by
      rcases q with ⟨_, e⟩ | ⟨_, e⟩
      · rw [← e]; exact hl.2
      · rw [← e]; exact hl.1
    have hvx : ms[v]? = some (ms.getD v 0) := by rw [getD_at hv, List.getElem?_eq_getElem hv]
    have hvl : ms.getD v 0 < 2 ^ n := h.lt _ (List.mem_of_getElem? hvx)
    refine ⟨hv, ?_⟩
    rw [xor_one n (by have := h.few; omega) _ hul _ hvl, Bool.or_eq_true]
    obtain ⟨a, b, p⟩ := t
    rcases q with ⟨e1, e2⟩ | ⟨e1, e2⟩
    · simp only at e1 e2
      subst e1 e2
      exact .inl ((Up_of hux hvx).mpr ⟨p, ht⟩)
    · simp only at e1 e2
      subst e1 e2
      exact .inr ((Up_of hvx hux).mpr ⟨p, ht⟩)
  · rintro ⟨hv, q⟩
    have hvx : ms[v]? = some (ms.getD v 0) := by rw [getD_at hv, List.getElem?_eq_getElem hv]
    have hvl : ms.getD v 0 < 2 ^ n := h.lt _ (List.mem_of_getElem? hvx)
    rw [xor_one n (by have := h.few; omega) _ hul _ hvl, Bool.or_eq_true] at q
    rcases q with q | q
    · obtain ⟨p, hp⟩ := (Up_of hux hvx).mp q
      exact ⟨_, hp, .inl ⟨rfl, rfl⟩⟩
    · obtain ⟨p, hp⟩ := (Up_of hvx hux).mp q
      exact ⟨_, hp, .inr ⟨rfl, rfl⟩⟩
/-- the steps between two members, or none -/
noncomputable def distF (n : Nat) (ms : List Nat) (a v : Nat) : Option Nat := open Classical in if h : ∃ L, BI ms.length a (nbP n ms) L L.length then h.choose.lookup v else none
theorem distF_of {a : Nat} {L : DL} (H : BI ms.length a (nbP n ms) L L.length) (v : Nat) : L.lookup v = distF n ms a v := by
  unfold distF
  have hex : ∃ L, BI ms.length a (nbP n ms) L L.length := ⟨L, H⟩
  rw [dif_pos hex]
  exact H.lookup hex.choose_spec (fun _ _ _ => Iff.rfl) v
theorem BI.nbs {N a : Nat} {nb nb' : Nat → List Nat} {L : DL} {i : Nat} (H : BI N a nb L i) (hn : ∀ u v, u < N → (v ∈ nb u ↔ v ∈ nb' u)) : BI N a nb' L i :=
  ⟨H.nd, H.lt, H.le, H.start, H.mono, H.bound, fun j x hj hx v hv => H.closed j x hj hx v ((hn _ _ (H.lt x (List.mem_of_getElem? hx))).mpr hv), fun e he => (H.pred e he).imp id fun ⟨u, hu, h1, h2⟩ => ⟨u, hu, (hn _ _ (H.lt u hu)).mp h1, h2⟩⟩
theorem lt_int (i j : Int) (st : Store) : F.lt st (.int i) (.int j) = some (.bl (decide (i < j))) := rfl
theorem gt_int (i j : Int) (st : Store) : F.gt st (.int i) (.int j) = some (.bl (decide (j < i))) := rfl
/-- one candidate -/
theorem cand_run {st : Store} {f0 : D} {a i u dh : Nat} {L : DL} {o6 o7 o8 : Option D} {p : Nat × Nat} (hl : L.lookup u = some dh) (hn : L.length ≤ 1000) :
    b_steps_from_1 [some f0, some (.int a), some (.ref st.length), some (.ref (st.length + 1)), some (.int i), some (.int u), o6, o7, o8, some (.int (p.1 : Int)), some (.int (p.2 : Int))] (SL st L) = some (.nx, [some f0, some (.int a), some (.ref st.length), some (.ref (st.length + 1)), some (.int i), some (.int u), o6, o7, o8, some (.int (p.1 : Int)), some (.int (p.2 : Int))], SL st (expand dh L (one2 u p))) := by
  unfold b_steps_from_1 one2
  have he : E.tv (E.op2 F.eq0 (E.var 9) (E.var 5)) [some f0, some (.int a), some (.ref st.length), some (.ref (st.length + 1)), some (.int i), some (.int u), o6, o7, o8, some (.int (p.1 : Int)), some (.int (p.2 : Int))] (SL st L) = some (decide ((p.1 : Int) = u), SL st L) := tv_of (op2_of (a := E.var 9) (b := E.var 5) rfl rfl (eq_int _ _ _))
  by_cases e : p.1 = u
  · have e' : (p.1 : Int) = u := by omega
    rw [decide_eq_true e'] at he
    rw [if_pos e]
    have hn2 : E.tv (E.op2 F.notIn (E.var 10) (E.var 2)) [some f0, some (.int a), some (.ref st.length), some (.ref (st.length + 1)), some (.int i), some (.int u), o6, o7, o8, some (.int (p.1 : Int)), some (.int (p.2 : Int))] (SL st L) = some (decide (p.2 ∉ L.map Prod.fst), SL st L) := tv_of (op2_of (a := E.var 10) (b := E.var 2) rfl rfl (notIn_SL p.2))
    show S.ite _ _ _ _ _ = some (_, _, SL st (addD dh L p.2))
    by_cases hc : p.2 ∈ L.map Prod.fst
    · rw [decide_eq_false (fun z => z hc)] at hn2
      rw [show addD dh L p.2 = L from if_pos hc]
      exact iteF_of (andT_t he hn2) rfl
    · rw [decide_eq_true hc] at hn2
      rw [show addD dh L p.2 = L ++ [(p.2, dh + 1)] from if_neg hc]
      exact iteT_of (andT_t he hn2) (add_run (id := 2) (iw := 3) (ic := 10) (ih := 5) rfl rfl rfl rfl hl hc hn)
  · have e' : ¬ (p.1 : Int) = u := by omega
    rw [decide_eq_false e'] at he
    rw [if_neg e]
    exact iteF_of (andT_f he) rfl
theorem steps_from_ok (h : Fam n ms) {a : Nat} (ha : a < ms.length) (st : Store) : ∃ L : DL, F_steps_from [.fam n (famT n ms), .int a] st = some (.dct false (kvI L), st) ∧ ∀ v, L.lookup v = distF n ms a v := by
  have h64 := h.len
  have one : ∀ (i u dh : Nat) (L : DL) (t : T3) (o8 o9 o10 : Option D), Up n ms t → (L.map Prod.fst).Nodup → (∀ e ∈ L, e.1 < ms.length) → (u, dh) ∈ L → ∃ p9 p10, b_steps_from_2 [some (.fam n (famT n ms)), some (.int a), some (.ref st.length), some (.ref (st.length + 1)), some (.int i), some (.int u), some (.int (t.1 : Int)), some (.int (t.2.1 : Int)), o8, o9, o10] (SL st L) = some (.nx, [some (.fam n (famT n ms)), some (.int a), some (.ref st.length), some (.ref (st.length + 1)), some (.int i), some (.int u), some (.int (t.1 : Int)), some (.int (t.2.1 : Int)), o8, p9, p10], SL st (expand dh L (both2 u t))) := by
    intro i u dh L t o8 o9 o10 ht nd lt hu
    have hl := ht.lt h
    have loop := loop_inv (g := G.tup (G.consT (G.name 9) (G.consT (G.name 10) G.nilT))) (b := b_steps_from_1) (fun p : Nat × Nat => D.tup [.int (p.1 : Int), .int (p.2 : Int)]) (fun done ρ s => ∃ p9 p10, ρ = [some (.fam n (famT n ms)), some (.int a), some (.ref st.length), some (.ref (st.length + 1)), some (.int i), some (.int u), some (.int (t.1 : Int)), some (.int (t.2.1 : Int)), o8, p9, p10] ∧ s = SL st (expand dh L (done.flatMap (one2 u)))) [(t.1, t.2.1), (t.2.1, t.1)]
      (fun done p ρ s hd hI => by
        obtain ⟨r, hr⟩ := hd
        obtain ⟨p9, p10, rfl, rfl⟩ := hI
        have hcs : ∀ c ∈ done.flatMap (one2 u), c < ms.length := fun c hc => by
          obtain ⟨q, hq, hc⟩ := List.mem_flatMap.mp hc
          have hq2 : q ∈ [(t.1, t.2.1), (t.2.1, t.1)] := by rw [hr]; simp [hq]
          unfold one2 at hc
          split at hc
          · rw [List.mem_singleton.mp hc]
            rcases List.mem_cons.mp hq2 with e | e
            · rw [e]; exact hl.2
            · rw [List.mem_singleton.mp e]; exact hl.1
          · cases hc
        obtain ⟨m1, m2, m3⟩ := expand_mem (dh := dh) nd lt hcs
        have hlk := (lookup_iff m1).mpr (m3 _ hu)
        have := dl_len m1 m2
        refine ⟨_, .nx, _, _, rfl, cand_run (p := p) hlk (by omega), .inl rfl, _, _, rfl, ?_⟩
        rw [List.flatMap_append, expand_app]
        simp) [(t.1, t.2.1), (t.2.1, t.1)] [] [some (.fam n (famT n ms)), some (.int a), some (.ref st.length), some (.ref (st.length + 1)), some (.int i), some (.int u), some (.int (t.1 : Int)), some (.int (t.2.1 : Int)), o8, o9, o10] (SL st L) rfl ⟨o9, o10, rfl, rfl⟩
    obtain ⟨ρ', s', h1, p9, p10, rfl, rfl⟩ := loop
    exact ⟨p9, p10, h1⟩
  have main := while_inv (t := E.tv (E.op2 F.lt (E.var 4) (E.fn F.len (E.consA (E.var 3) E.nilA)))) (b := b_steps_from_3)
    (fun m ρ s => ∃ L i o5 o6 o7 o8 o9 o10, ρ = [some (.fam n (famT n ms)), some (.int a), some (.ref st.length), some (.ref (st.length + 1)), some (.int (i : Nat)), o5, o6, o7, o8, o9, o10] ∧ s = SL st L ∧ BI ms.length a (nbP n ms) L i ∧ m = ms.length - i)
    (fun ρ s => ∃ L i o5 o6 o7 o8 o9 o10, ρ = [some (.fam n (famT n ms)), some (.int a), some (.ref st.length), some (.ref (st.length + 1)), some (.int (i : Nat)), o5, o6, o7, o8, o9, o10] ∧ s = SL st L ∧ BI ms.length a (nbP n ms) L L.length)
    (fun m ρ s hI => by
      obtain ⟨L, i, o5, o6, o7, o8, o9, o10, rfl, rfl, H, rfl⟩ := hI
      have hfew := H.few
      have ht : E.tv (E.op2 F.lt (E.var 4) (E.fn F.len (E.consA (E.var 3) E.nilA))) [some (.fam n (famT n ms)), some (.int a), some (.ref st.length), some (.ref (st.length + 1)), some (.int (i : Nat)), o5, o6, o7, o8, o9, o10] (SL st L) = some (decide ((i : Int) < L.length), SL st L) := tv_of (op2_of (a := E.var 4) rfl (fn1_of (a := E.var 3) rfl len_SL) (lt_int _ _ _))
      by_cases hi : i < L.length
      · have hi' : (i : Int) < L.length := by omega
        rw [decide_eq_true hi'] at ht
        have hh : L[i]? = some L[i] := List.getElem?_eq_getElem hi
        have hm : L[i] ∈ L := List.getElem_mem hi
        generalize L[i] = hd at hh hm
        obtain ⟨u, dh⟩ := hd
        have H2 := H.step hh (fun v hv => nbP_lt h hv)
        have loop := loop_inv (g := G.tup (G.consT (G.name 6) (G.consT (G.name 7) (G.consT (G.name 8) G.nilT)))) (b := b_steps_from_2) tD (fun done ρ s => ∃ p6 p7 p8 p9 p10, ρ = [some (.fam n (famT n ms)), some (.int a), some (.ref st.length), some (.ref (st.length + 1)), some (.int (i : Nat)), some (.int (u : Int)), p6, p7, p8, p9, p10] ∧ s = SL st (expand dh L (done.flatMap (both2 u)))) (sort3 (pairsP n ms))
          (fun done t ρ s hd hI => by
            obtain ⟨r, hr⟩ := hd
            obtain ⟨p6, p7, p8, p9, p10, rfl, rfl⟩ := hI
            have ht : Up n ms t := (mem_pairsP h).mp (mem_sort3.mp (by rw [hr]; simp))
            have hcs : ∀ c ∈ done.flatMap (both2 u), c < ms.length := fun c hc => nbP_lt h (u := u) (by
              unfold nbP
              rw [hr, List.flatMap_append]
              exact List.mem_append_left _ hc)
            obtain ⟨m1, m2, m3⟩ := expand_mem (dh := dh) H.nd H.lt hcs
            obtain ⟨q9, q10, e⟩ := one i u dh (expand dh L (done.flatMap (both2 u))) t (some (.int (t.2.2 : Int))) p9 p10 ht m1 m2 (m3 _ hm)
            refine ⟨_, .nx, _, _, rfl, e, .inl rfl, _, _, _, _, _, rfl, ?_⟩
            rw [List.flatMap_append, expand_app]
            simp) (sort3 (pairsP n ms)) [] [some (.fam n (famT n ms)), some (.int a), some (.ref st.length), some (.ref (st.length + 1)), some (.int (i : Nat)), some (.int (u : Int)), o6, o7, o8, o9, o10] (SL st L) rfl ⟨_, _, _, _, _, rfl, rfl⟩
        obtain ⟨ρ', s', h1, p6, p7, p8, p9, p10, rfl, rfl⟩ := loop
        refine .inr ⟨ht, ms.length - (i + 1), .nx, _, _, ?_, .inl rfl, by omega, expand dh L (nbP n ms u), i + 1, some (.int (u : Int)), p6, p7, p8, p9, p10, rfl, rfl, H2, rfl⟩
        unfold b_steps_from_3
        refine seq_of (set_of (op2_of (a := E.var 3) (b := E.var 4) rfl rfl (ixw_SL hh))) (seq_of (ρ1 := [some (.fam n (famT n ms)), some (.int a), some (.ref st.length), some (.ref (st.length + 1)), some (.int (i : Nat)), some (.int (u : Int)), p6, p7, p8, p9, p10]) (st1 := SL st (expand dh L (nbP n ms u))) ?_ ?_)
        · rw [v_for, all_of (call1_of (a := E.var 0) rfl (pairs_in_ok h _)) rfl, Option.bind_some]
          exact h1
        · exact set_of (op2_of (a := E.var 4) (b := E.c (.int 1)) rfl rfl rfl)
      · have hi' : ¬ (i : Int) < L.length := by omega
        rw [decide_eq_false hi'] at ht
        have : i = L.length := by have := H.le; omega
        exact .inl ⟨ht, L, i, o5, o6, o7, o8, o9, o10, rfl, rfl, this ▸ H⟩) 200 ms.length [some (.fam n (famT n ms)), some (.int a), some (.ref st.length), some (.ref (st.length + 1)), some (.int (0 : Nat)), none, none, none, none, none, none] (SL st [(a, 0)]) (by omega) ⟨_, _, _, _, _, _, _, _, rfl, rfl, BI.start' ha, rfl⟩
  obtain ⟨ρ', s', h1, L, i, o5, o6, o7, o8, o9, o10, rfl, rfl, H⟩ := main
  refine ⟨L, ?_, distF_of H⟩
  have hA : fnA 2 11 m_steps_from [.fam n (famT n ms), .int a] st = some (.ref st.length, SL st L) := by
    refine fnA_ret (ρ' := [some (.fam n (famT n ms)), some (.int a), some (.ref st.length), some (.ref (st.length + 1)), some (.int (i : Nat)), o5, o6, o7, o8, o9, o10]) rfl ?_
    have h0 : S.par3 2 3 4 (E.consA (E.disp1 1 (.int 0)) (E.consA (E.lstB (E.consA (E.var 1) E.nilA)) (E.consA (E.c (.int 0)) E.nilA))) [some (.fam n (famT n ms)), some (.int a), none, none, none, none, none, none, none, none, none] st = some (.nx, [some (.fam n (famT n ms)), some (.int a), some (.ref st.length), some (.ref (st.length + 1)), some (.int (0 : Nat)), none, none, none, none, none, none], SL st [(a, 0)]) := by
      unfold S.par3 E.disp1
      simp [SL, kvI]
    exact seq_of h0 (seq_of h1 (ret_of rfl))
  have := fnB_of (d' := .dct false (kvI L)) hA (kept_app st _) ?_
  · unfold SL at this
    rw [List.take_left] at this
    exact this
  · unfold unbox
    simp only [SL_d, belK_kvI, if_true]
    rw [if_neg (by omega)]
end
end Sm.Pr
/-! ## MathX -/
/-! Plain laws, part X: far, apart; the law's own steps and pairs. -/
namespace Sm.Pr
open PySem Sm
theorem filter_snoc {α : Type} (q : α → Bool) (l : List α) (x : α) : (l ++ [x]).filter q = if q x = true then l.filter q ++ [x] else l.filter q := by
  rw [List.filter_append]
  cases h : q x <;> simp [h]
section
variable {n : Nat} {ms : List Nat}
/-- what far tells -/
noncomputable def farD (n : Nat) (ms : List Nat) (a b : Nat) : D := match distF n ms a b with | some d => .int (d : Int) | none => .non
theorem far_ok (h : Fam n ms) {a b : Nat} (ha : a < ms.length) (hb : b < ms.length) (st : Store) : F_far [.fam n (famT n ms), .int a, .int b] st = some (farD n ms a b, st) := by
  obtain ⟨L, e, hl⟩ := steps_from_ok h ha st
  refine fnA_ret (ρ' := [some (.fam n (famT n ms)), some (.int a), some (.int b), some (.dct false (kvI L))]) rfl ?_
  refine seq_of (expr_of (call2_of (a := E.var 0) (b := E.var 1) rfl rfl (check_member_ok ha st))) (seq_of (expr_of (call2_of (a := E.var 0) (b := E.var 2) rfl rfl (check_member_ok hb st))) (seq_of (set_of (call2_of (a := E.var 0) (b := E.var 1) rfl rfl e)) (ret_of ?_)))
  have ht : E.tv (E.op2 F.in_ (E.var 2) (E.var 3)) [some (.fam n (famT n ms)), some (.int a), some (.int b), some (.dct false (kvI L))] st = some ((L.lookup b).isSome, st) := tv_of (op2_of (a := E.var 2) (b := E.var 3) rfl rfl (in_kv L b st))
  show E.ite _ _ _ [some (.fam n (famT n ms)), some (.int a), some (.int b), some (.dct false (kvI L))] st = _
  rw [v_ite, ht, Option.bind_some]
  unfold farD
  rw [← hl b]
  cases e2 : L.lookup b with
  | none => rfl
  | some d => exact op2_of (a := E.var 3) (b := E.var 2) rfl rfl (ix_kv e2 st)
/-- further apart than the points in which they differ -/
noncomputable def bad (n : Nat) (ms : List Nat) (a b : Nat) : Bool := match distF n ms a b with | some d => !decide ((d : Int) = ((bits n (ms.getD a 0 ^^^ ms.getD b 0)).length : Int)) | none => true
theorem getD_lt (h : Fam n ms) {i : Nat} (hi : i < ms.length) : ms.getD i 0 < 2 ^ n := by rw [getD_at hi]; exact h.lt _ (List.getElem_mem hi)
/-- not in found or found[b] != len(..) -/
theorem bad_run (h : Fam n ms) {a b : Nat} (ha : a < ms.length) (hb : b < ms.length) {L : DL} (hl : ∀ v, L.lookup v = distF n ms a v) {ρ : Ev} {st : Store} {ib il : Nat} {c : ME} (gb : gt ρ ib = some (.int (b : Int))) (gl : gt ρ il = some (.dct false (kvI L)))
    (hc : c ρ st = some (.int ((bits n (ms.getD a 0 ^^^ ms.getD b 0)).length : Int), st)) :
    E.orT (E.tv (E.op2 F.notIn (E.var ib) (E.var il))) (E.tv (E.op2 F.ne0 (E.op2 F.ix (E.var il) (E.var ib)) c)) ρ st = some (bad n ms a b, st) := by
  have vb : E.var ib ρ st = some (.int (b : Int), st) := by rw [v_var, gb]; rfl
  have vl : E.var il ρ st = some (.dct false (kvI L), st) := by rw [v_var, gl]; rfl
  have h1 : E.tv (E.op2 F.notIn (E.var ib) (E.var il)) ρ st = some (!(L.lookup b).isSome, st) := tv_of (op2_of vb vl (notIn_kv L b st))
  unfold bad
  rw [← hl b]
  cases e : L.lookup b with
  | none =>
    rw [e] at h1
    rw [v_orT, h1]
    rfl
  | some d =>
    rw [e] at h1
    exact or_of h1 (tv_of (op2_of (op2_of vl vb (ix_kv e st)) hc (ne_int _ _ st)))
/-- the least one behind a member that is too far -/
noncomputable def firstB (n : Nat) (ms : List Nat) (a : Nat) : Option Nat := (List.range ms.length).find? fun b => decide (a < b) && bad n ms a b
noncomputable def apartO (n : Nat) (ms : List Nat) : Option (Nat × Nat) := ((List.range ms.length).find? fun a => (firstB n ms a).isSome).map fun a => (a, (firstB n ms a).getD 0)
noncomputable def apartD (n : Nat) (ms : List Nat) : D := match apartO n ms with | some p => .tup [.int (p.1 : Int), .int (p.2 : Int)] | none => .non
theorem enum_find (q : Nat → Bool) : (((List.range ms.length).zip ms).find? fun p => q p.1) = ((List.range ms.length).find? q).map fun i => (i, ms.getD i 0) := by
  have key : ∀ (l : List (Nat × Nat)), (∀ p ∈ l, p.2 = ms.getD p.1 0) → (l.find? fun p => q p.1) = ((l.map Prod.fst).find? q).map fun i => (i, ms.getD i 0) := by
    intro l
    induction l with
    | nil => intro _; rfl
    | cons p l ih =>
      intro hl
      have hp := hl p List.mem_cons_self
      rw [List.find?_cons, List.map_cons, List.find?_cons, ih fun x hx => hl x (List.mem_cons_of_mem _ hx)]
      cases q p.1 with
      | true => simp only [Option.map_some]; rw [← hp]
      | false => rfl
  have e2 : ((List.range ms.length).zip ms).map Prod.fst = List.range ms.length := List.map_fst_zip (by simp)
  have := key ((List.range ms.length).zip ms) fun p hp => by
    obtain ⟨h1, h2⟩ := List.getElem?_eq_some_iff.mp (mem_enum.mp hp)
    rw [getD_at h1, h2]
  rw [e2] at this
  exact this
theorem apart_ok (h : Fam n ms) (st : Store) : F_apart [.fam n (famT n ms)] st = some (apartD n ms, st) := by
  have he : ∀ (o1 o2 o3 o4 o5 : Option D) (s : Store), I.enumA (E.consA (E.op1 (F.famAttr "lots") (E.var 0)) E.nilA) [some (.fam n (famT n ms)), o1, o2, o3, o4, o5] s = some (((List.range ms.length).zip ms).map fun p => D.tup [.int (p.1 : Int), lotM n p.2], s) := fun o1 o2 o3 o4 o5 s => by
    unfold I.enumA
    rw [v_consA, op1_of (a := E.var 0) rfl (fam_lots n _ s), Option.bind_some, v_nilA, Option.map_some, Option.bind_some, ← enum_map]
    rfl
  have loop := loop_find (g := G.tup (G.consT (G.name 1) (G.consT (G.name 2) G.nilT))) (b := b_apart_2) (st := st) (fun p : Nat × Nat => D.tup [.int (p.1 : Int), lotM n p.2]) (fun p => (firstB n ms p.1).isSome) (fun p => D.tup [.int (p.1 : Int), .int ((firstB n ms p.1).getD 0 : Nat)]) (fun ρ => ∃ o1 o2 o3 o4 o5, ρ = [some (.fam n (famT n ms)), o1, o2, o3, o4, o5]) ((List.range ms.length).zip ms) [some (.fam n (famT n ms)), none, none, none, none, none]
    (fun q hq ρ hI => by
      obtain ⟨o1, o2, o3, o4, o5, rfl⟩ := hI
      obtain ⟨hq1, hq2⟩ := List.getElem?_eq_some_iff.mp (mem_enum.mp hq)
      obtain ⟨L, eL, hl⟩ := steps_from_ok h hq1 st
      have hg : ms.getD q.1 0 = q.2 := by rw [getD_at hq1, hq2]
      have inner := loop_find (g := G.tup (G.consT (G.name 4) (G.consT (G.name 5) G.nilT))) (b := b_apart_1) (st := st) (fun p : Nat × Nat => D.tup [.int (p.1 : Int), lotM n p.2]) (fun p => decide (q.1 < p.1) && bad n ms q.1 p.1) (fun p => D.tup [.int (q.1 : Int), .int (p.1 : Int)]) (fun ρ => ∃ o4 o5, ρ = [some (.fam n (famT n ms)), some (.int (q.1 : Int)), some (lotM n q.2), some (.dct false (kvI L)), o4, o5]) ((List.range ms.length).zip ms) [some (.fam n (famT n ms)), some (.int (q.1 : Int)), some (lotM n q.2), some (.dct false (kvI L)), o4, o5]
        (fun r hr ρ hI => by
          obtain ⟨o4, o5, rfl⟩ := hI
          obtain ⟨hr1, hr2⟩ := List.getElem?_eq_some_iff.mp (mem_enum.mp hr)
          have hgr : ms.getD r.1 0 = r.2 := by rw [getD_at hr1, hr2]
          refine ⟨_, [some (.fam n (famT n ms)), some (.int (q.1 : Int)), some (lotM n q.2), some (.dct false (kvI L)), some (.int (r.1 : Int)), some (lotM n r.2)], rfl, ?_, _, _, rfl⟩
          have hlen : E.fn F.len (E.consA (E.call F_differing (E.consA (E.var 2) (E.consA (E.var 5) E.nilA))) E.nilA) [some (.fam n (famT n ms)), some (.int (q.1 : Int)), some (lotM n q.2), some (.dct false (kvI L)), some (.int (r.1 : Int)), some (lotM n r.2)] st = some (.int ((bits n (ms.getD q.1 0 ^^^ ms.getD r.1 0)).length : Int), st) := by
            rw [hg, hgr]
            exact fn1_of (call2_of (a := E.var 2) (b := E.var 5) rfl rfl (differing_ok h.few (by rw [← hq2]; exact h.lt _ (List.getElem_mem hq1)) (by rw [← hr2]; exact h.lt _ (List.getElem_mem hr1)) st)) (len_lot n _ st)
          have hb := bad_run h hq1 hr1 hl (ρ := [some (.fam n (famT n ms)), some (.int (q.1 : Int)), some (lotM n q.2), some (.dct false (kvI L)), some (.int (r.1 : Int)), some (lotM n r.2)]) (ib := 4) (il := 3) rfl rfl hlen
          have hgt : E.tv (E.op2 F.gt (E.var 4) (E.var 1)) [some (.fam n (famT n ms)), some (.int (q.1 : Int)), some (lotM n q.2), some (.dct false (kvI L)), some (.int (r.1 : Int)), some (lotM n r.2)] st = some (decide ((q.1 : Int) < r.1), st) := tv_of (op2_of (a := E.var 4) (b := E.var 1) rfl rfl (gt_int _ _ st))
          show S.ite _ _ _ [some (.fam n (famT n ms)), some (.int (q.1 : Int)), some (lotM n q.2), some (.dct false (kvI L)), some (.int (r.1 : Int)), some (lotM n r.2)] st = _
          by_cases e : q.1 < r.1
          · have e' : (q.1 : Int) < r.1 := by omega
            rw [decide_eq_true e'] at hgt
            rw [decide_eq_true e, Bool.true_and]
            rw [v_iteS, andT_t hgt hb, Option.bind_some]
            cases bad n ms q.1 r.1 with
            | true => exact ret_of (tup2_of (a := E.var 1) (b := E.var 4) rfl rfl)
            | false => rfl
          · have e' : ¬ (q.1 : Int) < r.1 := by omega
            rw [decide_eq_false e'] at hgt
            rw [decide_eq_false e, Bool.false_and]
            exact iteF_of (andT_f hgt) rfl) ⟨_, _, rfl⟩
      obtain ⟨ρ', e1, p4, p5, rfl⟩ := inner
      rw [enum_find (fun b => decide (q.1 < b) && bad n ms q.1 b)] at e1
      refine ⟨_, [some (.fam n (famT n ms)), some (.int (q.1 : Int)), some (lotM n q.2), some (.dct false (kvI L)), p4, p5], rfl, ?_, _, _, _, _, _, rfl⟩
      unfold b_apart_2
      refine seq_of (set_of (call2_of (a := E.var 0) (b := E.var 1) rfl rfl eL)) ?_
      show S.for_ _ _ _ [some (.fam n (famT n ms)), some (.int (q.1 : Int)), some (lotM n q.2), some (.dct false (kvI L)), o4, o5] st = _
      rw [v_for, he, Option.bind_some, e1]
      unfold firstB
      cases (List.range ms.length).find? fun b => decide (q.1 < b) && bad n ms q.1 b <;> rfl) ⟨_, _, _, _, _, rfl⟩
  obtain ⟨ρ', e1, o1, o2, o3, o4, o5, rfl⟩ := loop
  rw [enum_find (fun a => (firstB n ms a).isSome)] at e1
  refine fnA_ret (ρ' := [some (.fam n (famT n ms)), o1, o2, o3, o4, o5]) rfl ?_
  show S.seq _ _ [some (.fam n (famT n ms)), none, none, none, none, none] st = _
  rw [v_seq, v_for, he, Option.bind_some, e1]
  unfold apartD apartO
  cases (List.range ms.length).find? fun a => (firstB n ms a).isSome <;> rfl
/-! ### the law's own -/
theorem law_steps_ok (h : Fam n ms) {a : Nat} (ha : a < ms.length) (st : Store) : ∃ L : DL, F__law_steps [famT n ms, .int a] st = some (.dct false (kvI L), st) ∧ ∀ v, L.lookup v = distF n ms a v := by
  have h64 := h.len
  have main := while_inv (t := E.tv (E.op2 F.lt (E.var 4) (E.fn F.len (E.consA (E.var 3) E.nilA)))) (b := b__law_steps_3)
    (fun m ρ s => ∃ L i o5 o6, ρ = [some (famT n ms), some (.int a), some (.ref st.length), some (.ref (st.length + 1)), some (.int (i : Nat)), o5, o6] ∧ s = SL st L ∧ BI ms.length a (nbL n ms) L i ∧ m = ms.length - i)
    (fun ρ s => ∃ L i o5 o6, ρ = [some (famT n ms), some (.int a), some (.ref st.length), some (.ref (st.length + 1)), some (.int (i : Nat)), o5, o6] ∧ s = SL st L ∧ BI ms.length a (nbL n ms) L L.length)
    (fun m ρ s hI => by
      obtain ⟨L, i, o5, o6, rfl, rfl, H, rfl⟩ := hI
      have hfew := H.few
      have ht : E.tv (E.op2 F.lt (E.var 4) (E.fn F.len (E.consA (E.var 3) E.nilA))) [some (famT n ms), some (.int a), some (.ref st.length), some (.ref (st.length + 1)), some (.int (i : Nat)), o5, o6] (SL st L) = some (decide ((i : Int) < L.length), SL st L) := tv_of (op2_of (a := E.var 4) rfl (fn1_of (a := E.var 3) rfl len_SL) (lt_int _ _ _))
      by_cases hi : i < L.length
      · have hi' : (i : Int) < L.length := by omega
        rw [decide_eq_true hi'] at ht
        have hh : L[i]? = some L[i] := List.getElem?_eq_getElem hi
        have hm : L[i] ∈ L := List.getElem_mem hi
        generalize L[i] = hd at hh hm
        obtain ⟨u, dh⟩ := hd
        have hun : u < ms.length := H.lt _ hm
        have H2 := H.step hh (fun v hv => List.mem_range.mp (List.mem_filter.mp hv).1)
        have loop := loop_inv (g := G.name 6) (b := b__law_steps_2) (fun (v : Nat) => D.int (v : Int)) (fun done ρ s => ∃ p6, ρ = [some (famT n ms), some (.int a), some (.ref st.length), some (.ref (st.length + 1)), some (.int (i : Nat)), some (.int (u : Int)), p6] ∧ s = SL st (expand dh L (done.filter fun v => decide ((bits n (ms.getD u 0 ^^^ ms.getD v 0)).length = 1)))) (List.range ms.length)
          (fun done v ρ s hd hI => by
            obtain ⟨r, hr⟩ := hd
            obtain ⟨p6, rfl, rfl⟩ := hI
            have hv : v < ms.length := List.mem_range.mp (by rw [hr]; simp)
            have hcs : ∀ c ∈ done.filter (fun v => decide ((bits n (ms.getD u 0 ^^^ ms.getD v 0)).length = 1)), c < ms.length := fun c hc => List.mem_range.mp (by rw [hr]; simp [(List.mem_filter.mp hc).1])
            obtain ⟨m1, m2, m3⟩ := expand_mem (dh := dh) H.nd H.lt hcs
            have hlk := (lookup_iff m1).mpr (m3 _ hm)
            have hLl := dl_len m1 m2
            rw [filter_snoc]
            generalize hls : done.filter (fun v => decide ((bits n (ms.getD u 0 ^^^ ms.getD v 0)).length = 1)) = ls at *
            generalize hL2 : expand dh L ls = L2 at *
            refine ⟨_, .nx, [some (famT n ms), some (.int a), some (.ref st.length), some (.ref (st.length + 1)), some (.int (i : Nat)), some (.int (u : Int)), some (.int (v : Int))], _, rfl, ?_, .inl rfl, _, rfl, rfl⟩
            have h1 : E.tv (E.op2 F.notIn (E.var 6) (E.var 2)) [some (famT n ms), some (.int a), some (.ref st.length), some (.ref (st.length + 1)), some (.int (i : Nat)), some (.int (u : Int)), some (.int (v : Int))] (SL st L2) = some (decide (v ∉ L2.map Prod.fst), SL st L2) := tv_of (op2_of (a := E.var 6) (b := E.var 2) rfl rfl (notIn_SL v))
            have h2 : E.tv (E.op2 F.eq0 (E.fn F.len (E.consA (E.call F__law_differs (E.consA (E.op2 F.ix (E.var 0) (E.var 5)) (E.consA (E.op2 F.ix (E.var 0) (E.var 6)) E.nilA))) E.nilA)) (E.c (.int 1))) [some (famT n ms), some (.int a), some (.ref st.length), some (.ref (st.length + 1)), some (.int (i : Nat)), some (.int (u : Int)), some (.int (v : Int))] (SL st L2) = some (decide ((bits n (ms.getD u 0 ^^^ ms.getD v 0)).length = 1), SL st L2) := by
              refine tv_of (op2_of (b := E.c (.int 1)) (fn1_of (call2_of (op2_of (a := E.var 0) (b := E.var 5) rfl rfl (ix_famD hun _)) (op2_of (a := E.var 0) (b := E.var 6) rfl rfl (ix_famD hv _)) (law_differs_ok h.few _)) (len_lot n _ _)) rfl ?_)
              rw [eq_int]
              congr 2
              rw [decide_eq_decide]
              omega
            show b__law_steps_1 [some (famT n ms), some (.int a), some (.ref st.length), some (.ref (st.length + 1)), some (.int (i : Nat)), some (.int (u : Int)), some (.int (v : Int))] (SL st L2) = _
            unfold b__law_steps_1
            have happ : expand dh L (ls ++ [v]) = addD dh L2 v := by rw [expand_app, hL2]; rfl
            by_cases hc : v ∈ L2.map Prod.fst
            · rw [decide_eq_false (fun z => z hc)] at h1
              have e2 : expand dh L (if decide ((bits n (ms.getD u 0 ^^^ ms.getD v 0)).length = 1) = true then ls ++ [v] else ls) = L2 := by
                split
                · rw [happ]; exact if_pos hc
                · exact hL2
              rw [e2]
              exact iteF_of (andT_f h1) rfl
            · rw [decide_eq_true hc] at h1
              by_cases e : (bits n (ms.getD u 0 ^^^ ms.getD v 0)).length = 1
              · rw [decide_eq_true e] at h2 ⊢
                rw [if_pos rfl, happ, show addD dh L2 v = L2 ++ [(v, dh + 1)] from if_neg hc]
                exact iteT_of (andT_t h1 h2) (add_run (id := 2) (iw := 3) (ic := 6) (ih := 5) rfl rfl rfl rfl hlk hc (by omega))
              · rw [decide_eq_false e] at h2 ⊢
                rw [if_neg (by decide), hL2]
                exact iteF_of (andT_t h1 h2) rfl) (List.range ms.length) [] [some (famT n ms), some (.int a), some (.ref st.length), some (.ref (st.length + 1)), some (.int (i : Nat)), some (.int (u : Int)), o6] (SL st L) rfl ⟨_, rfl, rfl⟩
        obtain ⟨ρ', s', h1, p6, rfl, rfl⟩ := loop
        refine .inr ⟨ht, ms.length - (i + 1), .nx, _, _, ?_, .inl rfl, by omega, expand dh L (nbL n ms u), i + 1, some (.int (u : Int)), p6, rfl, rfl, H2, rfl⟩
        unfold b__law_steps_3
        refine seq_of (set_of (op2_of (a := E.var 3) (b := E.var 4) rfl rfl (ixw_SL hh))) (seq_of (ρ1 := [some (famT n ms), some (.int a), some (.ref st.length), some (.ref (st.length + 1)), some (.int (i : Nat)), some (.int (u : Int)), p6]) (st1 := SL st (expand dh L (nbL n ms u))) ?_ ?_)
        · rw [v_for, range_len (fn1_of (a := E.var 0) rfl (len_famT n ms _)) (by omega), Option.bind_some]
          exact h1
        · exact set_of (op2_of (a := E.var 4) (b := E.c (.int 1)) rfl rfl rfl)
      · have hi' : ¬ (i : Int) < L.length := by omega
        rw [decide_eq_false hi'] at ht
        have : i = L.length := by have := H.le; omega
        exact .inl ⟨ht, L, i, o5, o6, rfl, rfl, this ▸ H⟩) 200 ms.length [some (famT n ms), some (.int a), some (.ref st.length), some (.ref (st.length + 1)), some (.int (0 : Nat)), none, none] (SL st [(a, 0)]) (by omega) ⟨_, _, _, _, rfl, rfl, BI.start' ha, rfl⟩
  obtain ⟨ρ', s', h1, L, i, o5, o6, rfl, rfl, H⟩ := main
  refine ⟨L, ?_, distF_of (H.nbs fun u v hu => (nb_same h u v hu).symm)⟩
  have hA : fnA 2 7 m__law_steps [famT n ms, .int a] st = some (.ref st.length, SL st L) := by
    refine fnA_ret (ρ' := [some (famT n ms), some (.int a), some (.ref st.length), some (.ref (st.length + 1)), some (.int (i : Nat)), o5, o6]) rfl ?_
    have h0 : S.par3 2 3 4 (E.consA (E.disp1 1 (.int 0)) (E.consA (E.lstB (E.consA (E.var 1) E.nilA)) (E.consA (E.c (.int 0)) E.nilA))) [some (famT n ms), some (.int a), none, none, none, none, none] st = some (.nx, [some (famT n ms), some (.int a), some (.ref st.length), some (.ref (st.length + 1)), some (.int (0 : Nat)), none, none], SL st [(a, 0)]) := by
      unfold S.par3 E.disp1
      simp [SL, kvI]
    exact seq_of h0 (seq_of h1 (ret_of rfl))
  have := fnB_of (d' := .dct false (kvI L)) hA (kept_app st _) ?_
  · unfold SL at this
    rw [List.take_left] at this
    exact this
  · unfold unbox
    simp only [SL_d, belK_kvI, if_true]
    rw [if_neg (by omega)]
theorem firstB_eq (a : Nat) (ha : a < ms.length) : firstB n ms a = ((List.range (ms.length - (a + 1))).map fun i => a + 1 + i).find? (bad n ms a) := by
  unfold firstB
  have e : List.range ms.length = List.range (a + 1) ++ (List.range (ms.length - (a + 1))).map fun i => a + 1 + i := by
    rw [← List.range_add]
    congr 1
    omega
  rw [e, List.find?_append]
  have h1 : (List.range (a + 1)).find? (fun b => decide (a < b) && bad n ms a b) = none := by
    rw [List.find?_eq_none]
    intro x hx
    have := List.mem_range.mp hx
    have : ¬ a < x := by omega
    simp [this]
  rw [h1, Option.none_or]
  generalize List.range (ms.length - (a + 1)) = l
  induction l with
  | nil => rfl
  | cons x l ih =>
    have : a < a + 1 + x := by omega
    rw [List.map_cons, List.find?_cons, List.find?_cons, decide_eq_true this, Bool.true_and, ih]
theorem range2_run {ρ : Ev} {a b : ME} {i j : Nat} {st : Store} (ha : a ρ st = some (.int (i : Int), st)) (hb : b ρ st = some (.int (j : Int), st)) (hi : i ≤ 1000) (hj : j ≤ 1000) : I.range2 a b ρ st = some (((List.range (j - i)).map fun k => i + k).map fun (k : Nat) => D.int (k : Int), st) := by
  have h1 := lim_nat hi
  have h2 := lim_nat hj
  have e : I.rangeD (i : Int) j = ((List.range (j - i)).map fun k => i + k).map fun (k : Nat) => D.int (k : Int) := by
    unfold I.rangeD
    rw [List.map_map, show ((j : Int) - i).toNat = j - i by omega]
    apply List.map_congr_left
    intro k _
    show D.int _ = D.int _
    congr 1
  unfold I.range2
  rw [ha, Option.bind_some, hb, Option.bind_some]
  simp only [h1, h2, and_self, if_true, e]
theorem law_apartB_ok (h : Fam n ms) (st : Store) : F__law_apart_v2 [famT n ms] st = some (apartD n ms, st) := by
  have h64 := h.len
  have loop := loop_find (g := G.name 1) (b := b__law_apart_v2_2) (st := st) (fun (a : Nat) => D.int (a : Int)) (fun a => (firstB n ms a).isSome) (fun a => D.tup [.int (a : Int), .int ((firstB n ms a).getD 0 : Nat)]) (fun ρ => ∃ o1 o2 o3, ρ = [some (famT n ms), o1, o2, o3]) (List.range ms.length) [some (famT n ms), none, none, none]
    (fun a ha ρ hI => by
      obtain ⟨o1, o2, o3, rfl⟩ := hI
      have ha := List.mem_range.mp ha
      obtain ⟨L, eL, hl⟩ := law_steps_ok h ha st
      have inner := loop_find (g := G.name 3) (b := b__law_apart_v2_1) (st := st) (fun (b : Nat) => D.int (b : Int)) (bad n ms a) (fun b => D.tup [.int (a : Int), .int (b : Int)]) (fun ρ => ∃ o3, ρ = [some (famT n ms), some (.int (a : Int)), some (.dct false (kvI L)), o3]) ((List.range (ms.length - (a + 1))).map fun i => a + 1 + i) [some (famT n ms), some (.int (a : Int)), some (.dct false (kvI L)), o3]
        (fun b hb ρ hI => by
          obtain ⟨o3, rfl⟩ := hI
          obtain ⟨i, hi, rfl⟩ := List.mem_map.mp hb
          have hi := List.mem_range.mp hi
          have hb : a + 1 + i < ms.length := by omega
          refine ⟨_, [some (famT n ms), some (.int (a : Int)), some (.dct false (kvI L)), some (.int ((a + 1 + i : Nat) : Int))], rfl, ?_, _, rfl⟩
          have hlen : E.fn F.len (E.consA (E.call F__law_differs (E.consA (E.op2 F.ix (E.var 0) (E.var 1)) (E.consA (E.op2 F.ix (E.var 0) (E.var 3)) E.nilA))) E.nilA) [some (famT n ms), some (.int (a : Int)), some (.dct false (kvI L)), some (.int ((a + 1 + i : Nat) : Int))] st = some (.int ((bits n (ms.getD a 0 ^^^ ms.getD (a + 1 + i) 0)).length : Int), st) :=
            fn1_of (call2_of (op2_of (a := E.var 0) (b := E.var 1) rfl rfl (ix_famD ha st)) (op2_of (a := E.var 0) (b := E.var 3) rfl rfl (ix_famD hb st)) (law_differs_ok h.few st)) (len_lot n _ st)
          have hbad := bad_run h ha hb hl (ρ := [some (famT n ms), some (.int (a : Int)), some (.dct false (kvI L)), some (.int ((a + 1 + i : Nat) : Int))]) (ib := 3) (il := 2) rfl rfl hlen
          show S.ite _ _ _ [some (famT n ms), some (.int (a : Int)), some (.dct false (kvI L)), some (.int ((a + 1 + i : Nat) : Int))] st = _
          rw [v_iteS, hbad, Option.bind_some]
          cases bad n ms a (a + 1 + i) with
          | true => exact ret_of (tup2_of (a := E.var 1) (b := E.var 3) rfl rfl)
          | false => rfl) ⟨_, rfl⟩
      obtain ⟨ρ', e1, p3, rfl⟩ := inner
      rw [← firstB_eq a ha] at e1
      refine ⟨_, [some (famT n ms), some (.int (a : Int)), some (.dct false (kvI L)), p3], rfl, ?_, _, _, _, rfl⟩
      unfold b__law_apart_v2_2
      refine seq_of (set_of (call2_of (a := E.var 0) (b := E.var 1) rfl rfl eL)) ?_
      show S.for_ _ _ _ [some (famT n ms), some (.int (a : Int)), some (.dct false (kvI L)), o3] st = _
      rw [v_for, range2_run (i := a + 1) (j := ms.length) (op2_of (a := E.var 1) (b := E.c (.int 1)) rfl rfl rfl) (fn1_of (a := E.var 0) rfl (len_famT n ms st)) (by omega) (by omega), Option.bind_some, e1]
      cases firstB n ms a <;> rfl) ⟨_, _, _, rfl⟩
  obtain ⟨ρ', e1, o1, o2, o3, rfl⟩ := loop
  refine fnA_ret (ρ' := [some (famT n ms), o1, o2, o3]) rfl ?_
  show S.seq _ _ [some (famT n ms), none, none, none] st = _
  rw [v_seq, v_for, range_len (fn1_of (a := E.var 0) rfl (len_famT n ms st)) (by omega), Option.bind_some, e1]
  unfold apartD apartO
  cases (List.range ms.length).find? fun a => (firstB n ms a).isSome <;> rfl
end
end Sm.Pr
/-! ## MathY -/
/-! Plain laws, part Y: the law's own pairs. -/
namespace Sm.Pr
open PySem Sm
theorem append_big {α : Type} (f : α → D) (acc : List α) (x : α) (hl : acc.length ≤ 100000) (st : Store) : F.append (st ++ [.lst (acc.map f)]) (.ref st.length) [f x] = some (.non, st ++ [.lst ((acc ++ [x]).map f)]) := by
  have : acc.length < big := by unfold big; omega
  simp [F.append, this]
section
variable {n : Nat} {ms : List Nat}
def upsL (n : Nat) (ms : List Nat) (q : Nat × Nat) : List T3 := (((List.range ms.length).zip ms).filter fun r => upB n q.2 r.2).map fun r => (q.1, r.1, (bits n (q.2 ^^^ r.2)).headD 0)
def pairsL (n : Nat) (ms : List Nat) : List T3 := ((List.range ms.length).zip ms).flatMap (upsL n ms)
theorem mem_pairsL (h : Fam n ms) {t : T3} : t ∈ pairsL n ms ↔ Up n ms t := by
  unfold pairsL upsL
  rw [List.mem_flatMap]
  have key : ∀ x y p, x < 2 ^ n → p < n → x.testBit p = false → y = x + 2 ^ p → (bits n (x ^^^ y)).headD 0 = p := by
    intro x y p hx hp hb e
    rw [e, (up_bits n (by have := h.few; omega) x hx p hp hb).2.1]
    rfl
  constructor
  · rintro ⟨q, hq, ht⟩
    obtain ⟨r, hr, rfl⟩ := List.mem_map.mp ht
    obtain ⟨h1, h2⟩ := List.mem_filter.mp hr
    obtain ⟨p, hp, hb, e⟩ := upB_iff.mp h2
    have hq1 := mem_enum.mp hq
    have hr1 := mem_enum.mp h1
    have hql := h.lt _ (List.mem_of_getElem? hq1)
    refine ⟨q.2, hq1, ?_⟩
    simp only
    rw [key _ _ _ hql hp hb e]
    exact ⟨by rw [hr1, e], hp, hb⟩
  · rintro ⟨x, h1, h2, h3, h4⟩
    have hxl := h.lt _ (List.mem_of_getElem? h1)
    refine ⟨(t.1, x), mem_enum.mpr h1, List.mem_map.mpr ⟨(t.2.1, x + 2 ^ t.2.2), List.mem_filter.mpr ⟨mem_enum.mpr h2, upB_iff.mpr ⟨t.2.2, h3, h4, rfl⟩⟩, ?_⟩⟩
    show (t.1, t.2.1, _) = t
    rw [key _ _ _ hxl h3 h4 rfl]
theorem pairsL_nodup (h : Fam n ms) : (pairsL n ms).Nodup := by
  refine nodup_flat (enum_nodup ms) (fun q _ => ?_) fun q hq r hr hne t ht ht' => ?_
  · refine nodup_map ((enum_nodup ms).filter _) fun x hx y hy e => ?_
    have e1 : x.1 = y.1 := (Prod.mk.inj (Prod.mk.inj e).2).1
    have h1 := mem_enum.mp (List.mem_filter.mp hx).1
    have h2 := mem_enum.mp (List.mem_filter.mp hy).1
    rw [e1, h2] at h1
    exact Prod.ext e1 (Option.some.inj h1).symm
  · obtain ⟨p, _, rfl⟩ := List.mem_map.mp ht
    obtain ⟨p', _, e⟩ := List.mem_map.mp ht'
    have e1 : r.1 = q.1 := (Prod.mk.inj e).1
    have h1 := mem_enum.mp hq
    have h2 := mem_enum.mp hr
    rw [e1, h1] at h2
    exact hne (Prod.ext e1.symm (Option.some.inj h2))
theorem law_pairs_eq (h : Fam n ms) : sort3 (pairsL n ms) = sort3 (pairsP n ms) := sort3_eq (pairsL_nodup h) (pairsP_nodup h) fun t => (mem_pairsL h).trans (mem_pairsP h).symm
theorem law_pairs_ok (h : Fam n ms) (st : Store) : F__law_pairs [famT n ms] st = some (.lst ((sort3 (pairsP n ms)).map tD), st) := by
  have h64 := h.len
  have he : ∀ (o1 o2 o3 o4 o5 : Option D) (s : Store), I.enumA (E.consA (E.var 0) E.nilA) [some (famT n ms), o1, o2, o3, o4, o5] s = some (((List.range ms.length).zip ms).map fun p => D.tup [.int (p.1 : Int), lotM n p.2], s) := fun o1 o2 o3 o4 o5 s => by
    rw [← enum_map]
    rfl
  have hul : ∀ q : Nat × Nat, (upsL n ms q).length ≤ 64 := fun q => by
    unfold upsL
    rw [List.length_map]
    refine Nat.le_trans (List.length_filter_le _ _) ?_
    simp; omega
  have inner : ∀ (q : Nat × Nat), ms[q.1]? = some q.2 → ∀ (acc : List T3) (o4 o5 : Option D), acc.length ≤ 90000 → ∃ p4 p5, b__law_pairs_3 [some (famT n ms), some (.ref st.length), some (.int (q.1 : Int)), some (lotM n q.2), o4, o5] (st ++ [.lst (acc.map tD)]) = some (.nx, [some (famT n ms), some (.ref st.length), some (.int (q.1 : Int)), some (lotM n q.2), p4, p5], st ++ [.lst ((acc ++ upsL n ms q).map tD)]) := by
    intro q hq acc o4 o5 hacc
    have hq2 : q.2 < 2 ^ n := h.lt _ (List.mem_of_getElem? hq)
    have loop := loop_inv (g := G.tup (G.consT (G.name 4) (G.consT (G.name 5) G.nilT))) (b := b__law_pairs_2) (fun p : Nat × Nat => D.tup [.int (p.1 : Int), lotM n p.2]) (fun done ρ s => ∃ p4 p5, ρ = [some (famT n ms), some (.ref st.length), some (.int (q.1 : Int)), some (lotM n q.2), p4, p5] ∧ s = st ++ [.lst ((acc ++ (done.filter fun r => upB n q.2 r.2).map fun r => (q.1, r.1, (bits n (q.2 ^^^ r.2)).headD 0)).map tD)]) ((List.range ms.length).zip ms)
      (fun done r ρ s hd hI => by
        obtain ⟨z, hz⟩ := hd
        obtain ⟨p4, p5, rfl, rfl⟩ := hI
        have hr : ms[r.1]? = some r.2 := mem_enum.mp (by rw [hz]; simp)
        have hr2 : r.2 < 2 ^ n := h.lt _ (List.mem_of_getElem? hr)
        have hdl : done.length ≤ 64 := by
          have := congrArg List.length hz
          simp at this; omega
        have hfl : (done.filter fun r => upB n q.2 r.2).length ≤ 64 := Nat.le_trans (List.length_filter_le _ _) hdl
        rw [filter_snoc]
        generalize (done.filter fun r => upB n q.2 r.2) = fl at *
        have hal : (acc ++ fl.map fun r => (q.1, r.1, (bits n (q.2 ^^^ r.2)).headD 0)).length ≤ 100000 := by simp; omega
        have hup := up_len n (by have := h.few; omega) q.2 hq2 r.2 hr2
        have hL1 : ∀ s : Store, E.tv (E.op2 F.eq0 (E.fn F.len (E.consA (E.var 5) E.nilA)) (E.op2 F.add (E.fn F.len (E.consA (E.var 3) E.nilA)) (E.c (.int 1)))) [some (famT n ms), some (.ref st.length), some (.int (q.1 : Int)), some (lotM n q.2), some (.int (r.1 : Int)), some (lotM n r.2)] s = some (decide ((bits n r.2).length = (bits n q.2).length + 1), s) := fun s => by
          refine tv_of (op2_of (fn1_of (a := E.var 5) rfl (len_lot n _ s)) (op2_of (b := E.c (.int 1)) (fn1_of (a := E.var 3) rfl (len_lot n _ s)) rfl (r := .int ((bits n q.2).length + 1)) rfl) ?_)
          rw [eq_int]
          congr 2
          rw [decide_eq_decide]
          omega
        have hdf : ∀ s : Store, E.call F__law_differs (E.consA (E.var 3) (E.consA (E.var 5) E.nilA)) [some (famT n ms), some (.ref st.length), some (.int (q.1 : Int)), some (lotM n q.2), some (.int (r.1 : Int)), some (lotM n r.2)] s = some (lotM n (q.2 ^^^ r.2), s) := fun s => call2_of (a := E.var 3) (b := E.var 5) rfl rfl (law_differs_ok h.few s)
        have hL2 : ∀ s : Store, E.tv (E.op2 F.eq0 (E.fn F.len (E.consA (E.call F__law_differs (E.consA (E.var 3) (E.consA (E.var 5) E.nilA))) E.nilA)) (E.c (.int 1))) [some (famT n ms), some (.ref st.length), some (.int (q.1 : Int)), some (lotM n q.2), some (.int (r.1 : Int)), some (lotM n r.2)] s = some (decide ((bits n (q.2 ^^^ r.2)).length = 1), s) := fun s => by
          refine tv_of (op2_of (b := E.c (.int 1)) (fn1_of (hdf s) (len_lot n _ s)) rfl ?_)
          rw [eq_int]
          congr 2
          rw [decide_eq_decide]
          omega
        refine ⟨_, .nx, [some (famT n ms), some (.ref st.length), some (.int (q.1 : Int)), some (lotM n q.2), some (.int (r.1 : Int)), some (lotM n r.2)], _, rfl, ?_, .inl rfl, _, _, rfl, rfl⟩
        show b__law_pairs_1 [some (famT n ms), some (.ref st.length), some (.int (q.1 : Int)), some (lotM n q.2), some (.int (r.1 : Int)), some (lotM n r.2)] _ = _
        unfold b__law_pairs_1
        cases hu : upB n q.2 r.2 with
        | true =>
          rw [hu, Bool.and_eq_true, decide_eq_true_eq, decide_eq_true_eq] at hup
          have a1 := hL1 (st ++ [.lst ((acc ++ fl.map fun r => (q.1, r.1, (bits n (q.2 ^^^ r.2)).headD 0)).map tD)])
          have a2 := hL2 (st ++ [.lst ((acc ++ fl.map fun r => (q.1, r.1, (bits n (q.2 ^^^ r.2)).headD 0)).map tD)])
          rw [decide_eq_true hup.1] at a1
          rw [decide_eq_true hup.2] at a2
          rw [if_pos rfl]
          have hix : ∀ s : Store, F.ix s (lotM n (q.2 ^^^ r.2)) (.int 0) = some (.int ((bits n (q.2 ^^^ r.2)).headD 0 : Nat)) := fun s => by
            have hl := hup.2
            rw [lotM_items]
            cases e : bits n (q.2 ^^^ r.2) with
            | nil => rw [e] at hl; cases hl
            | cons x l => simp [F.ix, F.dctOf, F.seq, L2.atI, L2.ixN]
          refine iteT_of (andT_t a1 a2) ?_
          have em : (acc ++ (fl ++ [r]).map fun r => (q.1, r.1, (bits n (q.2 ^^^ r.2)).headD 0)) = (acc ++ fl.map fun r => (q.1, r.1, (bits n (q.2 ^^^ r.2)).headD 0)) ++ [(q.1, r.1, (bits n (q.2 ^^^ r.2)).headD 0)] := by simp
          rw [em]
          refine expr_of (mth1_of (a := E.var 1) rfl (isL_box _ st) (e := tD (q.1, r.1, (bits n (q.2 ^^^ r.2)).headD 0)) ?_ (append_big tD _ _ hal st))
          rw [v_tup, v_consA, show E.var 2 _ _ = some (.int (q.1 : Int), _) from rfl, Option.bind_some, v_consA, show E.var 4 _ _ = some (.int (r.1 : Int), _) from rfl, Option.bind_some, v_consA, op2_of (b := E.c (.int 0)) (hdf _) rfl (hix _), Option.bind_some]
          rfl
        | false =>
          rw [hu] at hup
          rw [if_neg (by decide)]
          have a1 := hL1 (st ++ [.lst ((acc ++ fl.map fun r => (q.1, r.1, (bits n (q.2 ^^^ r.2)).headD 0)).map tD)])
          by_cases e1 : (bits n r.2).length = (bits n q.2).length + 1
          · rw [decide_eq_true e1] at a1 hup
            rw [Bool.true_and] at hup
            have a2 := hL2 (st ++ [.lst ((acc ++ fl.map fun r => (q.1, r.1, (bits n (q.2 ^^^ r.2)).headD 0)).map tD)])
            rw [hup] at a2
            exact iteF_of (andT_t a1 a2) rfl
          · rw [decide_eq_false e1] at a1
            exact iteF_of (andT_f a1) rfl) ((List.range ms.length).zip ms) [] [some (famT n ms), some (.ref st.length), some (.int (q.1 : Int)), some (lotM n q.2), o4, o5] (st ++ [.lst (acc.map tD)]) rfl ⟨o4, o5, rfl, by simp⟩
    obtain ⟨ρ', s', h1, p4, p5, rfl, rfl⟩ := loop
    refine ⟨p4, p5, ?_⟩
    unfold b__law_pairs_3
    rw [v_for, he, Option.bind_some]
    exact h1
  have loop := loop_inv (g := G.tup (G.consT (G.name 2) (G.consT (G.name 3) G.nilT))) (b := b__law_pairs_3) (fun p : Nat × Nat => D.tup [.int (p.1 : Int), lotM n p.2]) (fun done ρ s => ∃ p2 p3 p4 p5, ρ = [some (famT n ms), some (.ref st.length), p2, p3, p4, p5] ∧ s = st ++ [.lst ((done.flatMap (upsL n ms)).map tD)] ∧ (done.flatMap (upsL n ms)).length ≤ 64 * done.length) ((List.range ms.length).zip ms)
    (fun done q ρ s hd hI => by
      obtain ⟨r, hr⟩ := hd
      obtain ⟨p2, p3, p4, p5, rfl, rfl, hlen⟩ := hI
      have hq : ms[q.1]? = some q.2 := mem_enum.mp (by rw [hr]; simp)
      have hdl : done.length ≤ 64 := by
        have := congrArg List.length hr
        simp at this; omega
      obtain ⟨q4, q5, e⟩ := inner q hq (done.flatMap (upsL n ms)) p4 p5 (by omega)
      refine ⟨_, .nx, _, _, rfl, e, .inl rfl, _, _, _, _, rfl, by rw [List.flatMap_append]; simp, ?_⟩
      rw [List.flatMap_append, List.length_append, List.length_append, List.flatMap_cons, List.flatMap_nil, List.append_nil, List.length_singleton]
      have := hul q
      omega) ((List.range ms.length).zip ms) [] [some (famT n ms), some (.ref st.length), none, none, none, none] (st ++ [.lst []]) rfl ⟨none, none, none, none, rfl, rfl, Nat.le_refl _⟩
  obtain ⟨ρ', s', h1, p2, p3, p4, p5, rfl, rfl, hlen⟩ := loop
  have hfl : (((List.range ms.length).zip ms).flatMap (upsL n ms)) = pairsL n ms := rfl
  rw [hfl] at h1 hlen
  have hlen : (pairsL n ms).length ≤ 64 * 64 := by
    refine Nat.le_trans hlen ?_
    simp; omega
  have hA : fnA 1 6 m__law_pairs [famT n ms] st = some (.lst ((sort3 (pairsP n ms)).map tD), st ++ [.lst ((pairsL n ms).map tD)]) := by
    refine fnA_ret (ρ' := [some (famT n ms), some (.ref st.length), p2, p3, p4, p5]) rfl ?_
    have h0 : S.set 1 (E.lstB E.nilA) [some (famT n ms), none, none, none, none, none] st = some (.nx, [some (famT n ms), some (.ref st.length), none, none, none, none], st ++ [.lst []]) := rfl
    have h2 : S.for_ (G.tup (G.consT (G.name 2) (G.consT (G.name 3) G.nilT))) (I.enumA (E.consA (E.var 0) E.nilA)) b__law_pairs_3 [some (famT n ms), some (.ref st.length), none, none, none, none] (st ++ [.lst []]) = some (.nx, [some (famT n ms), some (.ref st.length), p2, p3, p4, p5], st ++ [.lst ((pairsL n ms).map tD)]) := by
      rw [v_for, he, Option.bind_some]
      exact h1
    have hs := sorted_t3 (ts := pairsL n ms) (d := .ref st.length) (st := st ++ [.lst ((pairsL n ms).map tD)]) (by omega) (by simp [F.seq])
    rw [law_pairs_eq h] at hs
    exact seq_of h0 (seq_of h2 (ret_of (fn1_of (a := E.var 1) rfl hs)))
  have := fnB_of (d' := .lst ((sort3 (pairsP n ms)).map tD)) hA (kept_app st _) ?_
  · rw [List.take_left] at this
    exact this
  · have hb : (D.lst ((sort3 (pairsP n ms)).map tD)).bel st.length = true := by
      refine below_mono (Nat.zero_le _) _ ?_
      rw [D.bel]
      generalize sort3 (pairsP n ms) = ts
      induction ts with
      | nil => simp [D.bels]
      | cons t ts ih => rw [List.map_cons, D.bels, ih]; simp [tD, bel_tupI]
    show (if (D.lst ((sort3 (pairsP n ms)).map tD)).bel st.length = true then some _ else none) = _
    rw [if_pos hb]
end
end Sm.Pr
/-! ## K15math -/
/-! k15, the plain law. -/
namespace Sm.Pr
open PySem Sm
theorem toPy_t3s (ts : List T3) : F.toPy (.tup (ts.map tD)) = .tuple ((ts.map t3).map fun l => .tuple (l.map .int)) := by
  rw [F.toPy, toPys_map, List.map_map]
  have e : ∀ t : T3, F.toPy (tD t) = .tuple ((t3 t).map .int) := fun t => toPy_tupI _
  simp only [e]
  rfl
theorem ne_t3s (ts us : List T3) (st : Store) : F.ne0 st (.tup (ts.map tD)) (.tup (us.map tD)) = some (.bl (!decide (ts = us))) := by
  have d : ∀ l : List T3, F.dat F.deep (.tup (l.map tD)) = true := fun l => by
    show (l.map tD).all (F.dat 11) = true
    rw [List.all_eq_true]
    intro x hx
    obtain ⟨t, _, rfl⟩ := List.mem_map.mp hx
    exact dat_tupI 10 _
  have e : F.eqD (.tup (ts.map tD)) (.tup (us.map tD)) = decide (ts = us) := by
    unfold F.eqD
    rw [toPy_t3s, toPy_t3s, PyData.eqv, eqv_rows]
    rw [decide_eq_decide]
    exact List.map_inj_right fun x y h => t3_inj h
  simp only [F.ne0, d, e, and_self, if_true]
/-- equal kinds of such results -/
theorem ne_self {d : D} (hd : F.dat F.deep d = true) (he : F.eqD d d = true) (st : Store) : F.ne0 st d d = some (.bl false) := by
  simp only [F.ne0, hd, he, and_self, if_true]
  rfl
section
variable {n : Nat} {ms : List Nat}
theorem ne_apart (st : Store) : F.ne0 st (apartD n ms) (apartD n ms) = some (.bl false) := by
  unfold apartD
  cases apartO n ms with
  | none => rfl
  | some p =>
    have := ne_tupI [(p.1 : Int), (p.2 : Int)] [(p.1 : Int), (p.2 : Int)] st
    rw [decide_eq_true rfl] at this
    exact this
theorem law_isB_far (k : Nat) (a b : Nat) (st : Store) : F__law_is_v2 (k + 1) [farD n ms a b, farD n ms a b] st = some (.bl true, st) := by
  have key : ∀ d : D, ((∃ i : Int, d = .int i) ∨ d = .non) → F__law_is_v2 (k + 1) [d, d] st = some (.bl true, st) := by
    intro d hd
    have t : ∃ (a : String), F.tyName st d = some a ∧ noT d = true := by
      rcases hd with ⟨i, rfl⟩ | rfl
      · exact ⟨"int", rfl, rfl⟩
      · exact ⟨"NoneType", rfl, rfl⟩
    obtain ⟨a, h1, h2⟩ := t
    have t1 := isi_t (b := "bool") h1 h2 (by decide)
    have t2 := isi_t (b := "int") h1 h2 (by decide)
    have he : F.eq0 st d d = some (.bl true) := by
      rcases hd with ⟨i, rfl⟩ | rfl
      · rw [eq_int]; simp
      · rfl
    refine fnA_ret (ρ' := [some d, some d]) rfl ?_
    simp [m__law_is_v2, b__law_is_v2_1, t1, t2, ne_bl, he]
  refine key _ ?_
  unfold farD
  cases distF n ms a b with
  | none => exact .inr rfl
  | some d => exact .inl ⟨_, rfl⟩
def ln (s : D) (tw tu o4 o5 o6 o7 o8 o9 : Option D) : Ev := [some s, some (.ref 0), tw, tu, o4, o5, o6, o7, o8, o9]
theorem body2 (h : Fam n ms) {st : Store} (H : Hand 0 st) (s : D) (tw tu o7 o8 o9 : Option D) : ∃ p8 p9 st', b_law_v5_2 (ln s tw tu (some (.int n)) (some (famT n ms)) (some (.fam n (famT n ms))) o7 o8 o9) st = some (.nx, ln s tw tu (some (.int n)) (some (famT n ms)) (some (.fam n (famT n ms))) o7 p8 p9, st') ∧ Hand 0 st' := by
  have h64 := h.len
  have hne : 1 ≤ ms.length := by
    cases e : ms with
    | nil => exact absurd e h.ne
    | cons a b => simp
  obtain ⟨a, s1, e1, ha, H1⟩ := Hand.drawB H hne (by omega)
  obtain ⟨b, s2, e2, hb, H2⟩ := Hand.drawB H1 hne (by omega)
  obtain ⟨L, eL, hl⟩ := law_steps_ok h ha s2
  refine ⟨some (.int a), some (.int b), s2, ?_, H2⟩
  unfold b_law_v5_2 ln
  have a1 : S.par 8 9 (E.consA (E.call F__law_draw_v2 (E.consA (E.var 1) (E.consA (E.fn F.len (E.consA (E.var 5) E.nilA)) E.nilA))) (E.consA (E.call F__law_draw_v2 (E.consA (E.var 1) (E.consA (E.fn F.len (E.consA (E.var 5) E.nilA)) E.nilA))) E.nilA)) [some s, some (.ref 0), tw, tu, some (.int n), some (famT n ms), some (.fam n (famT n ms)), o7, o8, o9] st = some (.nx, [some s, some (.ref 0), tw, tu, some (.int n), some (famT n ms), some (.fam n (famT n ms)), o7, some (.int a), some (.int b)], s2) := by
    rw [v_par, v_consA, call2_of (a := E.var 1) rfl (fn1_of (a := E.var 5) rfl (len_famT n ms st)) e1, Option.bind_some, v_consA, call2_of (a := E.var 1) rfl (fn1_of (a := E.var 5) rfl (len_famT n ms s1)) e2]
    rfl
  have hget : E.dget (E.call F__law_steps (E.consA (E.var 5) (E.consA (E.var 8) E.nilA))) (E.var 9) [some s, some (.ref 0), tw, tu, some (.int n), some (famT n ms), some (.fam n (famT n ms)), o7, some (.int a), some (.int b)] s2 = some (farD n ms a b, s2) := by
    unfold E.dget
    rw [call2_of (a := E.var 5) (b := E.var 8) rfl rfl eL, Option.bind_some]
    simp only [F.dctOf, Option.isSome_some, if_true]
    show (some (D.int (b : Int), s2)).bind _ = _
    rw [Option.bind_some]
    simp only [Option.bind_some, kind_int, if_true, look_kv]
    unfold farD
    rw [← hl b]
    cases L.lookup b <;> rfl
  refine seq_of a1 (iteF_of (st1 := s2) (notT_of (k := true) (tv_of (call2_of (call3_of (a := E.var 6) (b := E.var 8) (c := E.var 9) rfl rfl rfl (far_ok h ha hb s2)) hget (law_isB_far 11 a b s2)))) rfl)
end
theorem body3k {st : Store} (H : Hand 0 st) (s : D) (tw tu o4 o5 o6 o7 o8 o9 : Option D) : ∃ p4 p5 p6 p7 p8 p9 st', b_law_v5_3 (ln s tw tu o4 o5 o6 o7 o8 o9) st = some (.nx, ln s tw tu p4 p5 p6 p7 p8 p9, st') ∧ Hand 0 st' := by
  obtain ⟨n, ms, s1, b, e1, h, hn, H1⟩ := law_family_okB (most := 5) H (by decide) (by decide)
  have loop := loop_inv (g := G.name 7) (b := b_law_v5_2) (fun (i : Nat) => D.int (i : Int)) (fun _ ρ s' => Hand 0 s' ∧ ∃ p7 p8 p9, ρ = ln s tw tu (some (.int n)) (some (famT n ms)) (some (.fam n (famT n ms))) p7 p8 p9) (List.range 4)
    (fun done p ρ s' _ hI => by
      obtain ⟨Hs, p7, p8, p9, rfl⟩ := hI
      obtain ⟨q8, q9, s2, e2, H2⟩ := body2 h Hs s tw tu (some (.int p)) p8 p9
      exact ⟨_, .nx, _, s2, rfl, e2, .inl rfl, H2, _, _, _, rfl⟩) (List.range 4) [] (ln s tw tu (some (.int n)) (some (famT n ms)) (some (.fam n (famT n ms))) o7 o8 o9) s1 rfl ⟨H1.1, _, _, _, rfl⟩
  obtain ⟨ρ', s5, h5, H5, p7, p8, p9, rfl⟩ := loop
  refine ⟨some (.int n), some (famT n ms), some (.fam n (famT n ms)), p7, p8, p9, s5, ?_, H5⟩
  have a1 : S.asg (G.tup (G.consT (G.name 4) (G.consT (G.name 5) G.nilT))) (E.call F__law_family_v2 (E.consA (E.var 1) (E.consA (E.c (.int 5)) E.nilA))) (ln s tw tu o4 o5 o6 o7 o8 o9) st = some (.nx, ln s tw tu (some (.int n)) (some (famT n ms)) o6 o7 o8 o9, s1) := by
    rw [v_asg, call2_of (a := E.var 1) (b := E.c (.int 5)) rfl rfl e1]
    rfl
  refine seq_of a1 (seq_of (set_of (call2_of (a := E.var 4) (b := E.var 5) rfl rfl (new_fam h s1))) (seq_of (iteF_of (st1 := s1) (or_of (tv_of (k := false) (op2_of (call1_of (a := E.var 6) rfl (pairs_ok h s1)) (fn1_of (call1_of (a := E.var 5) rfl (law_pairs_ok h s1)) (r := .tup ((sort3 (pairsP n ms)).map tD)) rfl) ?_)) (tv_of (k := false) (op2_of (call1_of (a := E.var 6) rfl (apart_ok h s1)) (call1_of (a := E.var 5) rfl (law_apartB_ok h s1)) (ne_apart s1)))) rfl) ?_))
  · rw [ne_t3s]; simp
  · show S.for_ _ _ _ (ln s tw tu (some (.int n)) (some (famT n ms)) (some (.fam n (famT n ms))) o7 o8 o9) s1 = _
    rw [v_for, range_len (k := 4) (st := s1) rfl (by decide), Option.bind_some]
    exact h5
theorem outer15 (s : D) (tw : Option D) {st : Store} (H : Hand 0 st) : ∃ ρ' st', t_law_v5_4 (ln s tw none none none none none none none) st = some (.nx, ρ', st') := by
  have loop := loop_inv (g := G.name 3) (b := b_law_v5_3) (fun (p : Nat) => D.int (p : Int)) (fun _ ρ s' => Hand 0 s' ∧ ∃ o3 o4 o5 o6 o7 o8 o9, ρ = ln s tw o3 o4 o5 o6 o7 o8 o9) (List.range 3)
    (fun done p ρ s' _ hI => by
      obtain ⟨H, o3, o4, o5, o6, o7, o8, o9, rfl⟩ := hI
      obtain ⟨p4, p5, p6, p7, p8, p9, s2, e2, H2⟩ := body3k H s tw (some (.int p)) o4 o5 o6 o7 o8 o9
      exact ⟨_, .nx, _, s2, rfl, e2, .inl rfl, H2, _, _, _, _, _, _, _, rfl⟩) (List.range 3) [] (ln s tw none none none none none none none) st rfl ⟨H, _, _, _, _, _, _, _, rfl⟩
  obtain ⟨ρ', st', h1, _⟩ := loop
  refine ⟨ρ', st', ?_⟩
  unfold t_law_v5_4
  rw [v_for, range_len (k := 3) (st := st) rfl (by decide), Option.bind_some]
  exact h1
/-! the first family -/
theorem fam03 : Fam 2 [0, 3] := ⟨by decide, by decide, by decide, by decide, by decide, by decide⟩
theorem pairs03 : pairsP 2 [0, 3] = [] := by decide
theorem sort3_nil : sort3 [] = [] := by unfold sort3; simp
theorem nb03 (u : Nat) : nbP 2 [0, 3] u = [] := by
  unfold nbP
  rw [pairs03, sort3_nil]
  rfl
theorem dist03 {a : Nat} (ha : a < 2) (v : Nat) : distF 2 [0, 3] a v = [(a, 0)].lookup v := by
  have H : BI 2 a (nbP 2 [0, 3]) [(a, 0)] 1 := by
    have := (BI.start' (N := 2) (nb := nbP 2 [0, 3]) ha).step (h := (a, 0)) rfl (fun v hv => by rw [nb03] at hv; cases hv)
    rw [nb03] at this
    exact this
  exact (distF_of (n := 2) (ms := [0, 3]) (L := [(a, 0)]) H v).symm
theorem apart03 : apartD 2 [0, 3] = .tup [.int 0, .int 1] := by
  have f0 : firstB 2 [0, 3] 0 = some 1 := by
    unfold firstB bad
    simp [List.range, List.range.loop, dist03]
  have h : apartO 2 [0, 3] = some (0, 1) := by
    unfold apartO
    simp [List.range, List.range.loop, f0]
  unfold apartD
  rw [h]
  rfl
end Sm.Pr
namespace Sm.K15
open Sm.Pr PySem Sm
theorem law_true : ∀ ns : List Int, ns.length ≤ 63 → (∀ z ∈ ns, PySem.Builtin.Int.intBits z ≤ 1048576) → ∃ st', F_law_v5 [.scr ns] [] = some (.bl true, st') := by
  intro ns h63 _
  obtain ⟨cc, e1, H⟩ := hand_okB ns h63 []
  have e1' : F__law_hand_v2 [.scr ns] [] = some (.ref 0, [cc]) := e1
  obtain ⟨ρ', st', e2⟩ := outer15 (.scr ns) (some (.fam 2 (famT 2 [0, 3]))) H
  have a1 : t_law_v5_1 ([some (.scr ns)] ++ List.replicate 9 none) [] = some (.nx, ln (.scr ns) none none none none none none none none, [cc]) := by
    unfold t_law_v5_1
    exact set_of (call1_of (a := E.var 0) rfl e1')
  have n3 : F.newFam F_Family___init__ [.int 2, .tup [.tup [], .tup [.int 0, .int 1]]] [cc] = some (.fam 2 (famT 2 [0, 3]), [cc]) := new_fam fam03 [cc]
  have a2 : t_law_v5_2 (ln (.scr ns) none none none none none none none none) [cc] = some (.nx, ln (.scr ns) (some (.fam 2 (famT 2 [0, 3]))) none none none none none none none, [cc]) := by
    unfold t_law_v5_2
    exact set_of (call2_of rfl rfl n3)
  have hP : F_pairs [.fam 2 (famT 2 [0, 3])] [cc] = some (.tup [], [cc]) := by
    have := pairs_ok fam03 [cc]
    rw [pairs03, sort3_nil] at this
    exact this
  have hA : F_apart [.fam 2 (famT 2 [0, 3])] [cc] = some (F.tupI [0, 1], [cc]) := by
    have := apart_ok fam03 [cc]
    rw [apart03] at this
    exact this
  have hF1 : F_far [.fam 2 (famT 2 [0, 3]), .int 0, .int 1] [cc] = some (.non, [cc]) := by
    have := far_ok fam03 (a := 0) (b := 1) (by decide) (by decide) [cc]
    unfold farD at this
    rw [dist03 (by decide)] at this
    exact this
  have hF2 : F_far [.fam 2 (famT 2 [0, 3]), .int 1, .int 1] [cc] = some (.int 0, [cc]) := by
    have := far_ok fam03 (a := 1) (b := 1) (by decide) (by decide) [cc]
    unfold farD at this
    rw [dist03 (by decide)] at this
    exact this
  have his : F__law_is_v2 12 [.int 0, .int 0] [cc] = some (.bl true, [cc]) := by
    have := law_isB_far (n := 2) (ms := [0, 3]) 11 1 1 [cc]
    unfold farD at this
    rw [dist03 (by decide)] at this
    exact this
  have a3 : t_law_v5_3 (ln (.scr ns) (some (.fam 2 (famT 2 [0, 3]))) none none none none none none none) [cc] = some (.nx, ln (.scr ns) (some (.fam 2 (famT 2 [0, 3]))) none none none none none none none, [cc]) := by
    unfold t_law_v5_3 b_law_v5_1
    refine iteF_of (or_of (tv_of (k := false) (op2_of (call1_of (a := E.var 2) rfl hP) (e := .tup []) rfl ?_)) (or_of (tv_of (k := false) (op2_of (call1_of (a := E.var 2) rfl hA) (e := F.tupI [0, 1]) rfl ?_)) (or_of (tv_of (k := false) (op2_of (b := E.c .non) (call3_of (a := E.var 2) (b := E.c (.int 0)) (c := E.c (.int 1)) rfl rfl rfl hF1) rfl rfl)) (notT_of (k := true) (tv_of (call2_of (b := E.c (.int 0)) (call3_of (a := E.var 2) (b := E.c (.int 1)) (c := E.c (.int 1)) rfl rfl rfl hF2) rfl his)))))) rfl
    · exact ne_t3s [] [] [cc]
    · rw [ne_tupI]; rfl
  exact ⟨st', fnA_ret (ρ' := ρ') rfl (seq_of a1 (seq_of a2 (seq_of a3 (seq_of e2 rfl))))⟩
end Sm.K15
/-! ## K15head -/
open PySem PySem.W PyProof.Rows
set_option maxRecDepth 100000 in
set_option maxHeartbeats 0 in
theorem PySem.Challenge.cw_allpatterns_k15_whole_neighbours_and_dis_holds : PySem.Challenge.rw_allpatterns_k15_whole_neighbours_and_dis.Holds := by
  w_on; o_law; k_head; (case hw => w_witness2)
  k_fill
  refine Sm.walk_Sm (k := 14) (l := PySem.Challenge.rw_allpatterns_k15_whole_neighbours_and_dis) rfl rfl ⟨rfl, by decide, by decide⟩ (fun w h Y => PySem.W.kIn_of Y) ?F
  case F =>
    intro w mg fa h KX G hmg
    refine' Sm.K15.all_mk KX G hmg Sm.K15.law_true ?a0 ?l0 ?c0 ?k0 ?a1 ?l1 ?c1 ?k1 ?a2 ?l2 ?c2 ?k2 ?a3 ?l3 ?c3 ?k3 ?a4 ?l4 ?c4 ?k4 ?a5 ?l5 ?c5 ?k5 ?a6 ?l6 ?c6 ?k6 ?a7 ?l7 ?c7 ?k7 ?a8 ?l8 ?c8 ?k8 ?a9 ?l9 ?c9 ?k9 ?a10 ?l10 ?c10 ?k10 ?a11 ?i11 ?l11 ?c11 ?k11 ?a12 ?l12 ?c12 ?k12 ?a13 ?l13 ?c13 ?k13 ?a14 ?l14 ?c14 ?k14 ?a15 ?l15 ?c15 ?k15 ?a16 ?l16 ?c16 ?k16 ?a17 ?l17 ?c17 ?k17 ?a18 ?l18 ?c18 ?k18 ?a19 ?l19 ?c19 ?k19 ?a20 ?l20 ?c20 ?k20 ?a21 ?l21 ?c21 ?k21 ?a22 ?l22 ?c22 ?k22 ?z_int ?z_isinstance ?z_bool ?z_tuple ?z_all ?z_zip ?z_len ?z_enumerate ?z_dict ?z_range ?z_sorted ?z_abs ?z_set ?g_MOST_POINTS ?ha ?hn ?htk ?hmro ?kf_NoneType ?kf_bool ?kf_int ?kf_str ?kf_tuple ?kf_list ?kf_dict ?kt ?m_Family ?pg_Family ?hd_Family ?po_Family ?sa_Family ?mk_Family ?kc_Family ?na_Family_looked ?na_Family_points ?na_Family_lots
    (case m_Family => k_is)
    (case a0 => k_is)
    (case l0 => k_is)
    (case c0 => k_is)
    (case k0 => k_is)
    (case a1 => k_is)
    (case l1 => k_is)
    (case c1 => k_is)
    (case k1 => k_is)
    (case a2 => k_is)
    (case l2 => k_is)
    (case c2 => k_is)
    (case k2 => k_is)
    (case a3 => k_is)
    (case l3 => k_is)
    (case c3 => k_is)
    (case k3 => k_is)
    (case a4 => k_is)
    (case l4 => k_is)
    (case c4 => k_is)
    (case k4 => k_is)
    (case a5 => k_is)
    (case l5 => k_is)
    (case c5 => k_is)
    (case k5 => k_is)
    (case a6 => k_is)
    (case l6 => k_is)
    (case c6 => k_is)
    (case k6 => k_is)
    (case a7 => k_is)
    (case l7 => k_is)
    (case c7 => k_is)
    (case k7 => k_is)
    (case a8 => k_is)
    (case l8 => k_is)
    (case c8 => k_is)
    (case k8 => k_is)
    (case a9 => k_is)
    (case l9 => k_is)
    (case c9 => k_is)
    (case k9 => k_is)
    (case a10 => k_is)
    (case l10 => k_is)
    (case c10 => k_is)
    (case k10 => k_is)
    (case a11 => k_is)
    (case i11 => k_is)
    (case l11 => k_is)
    (case c11 => k_is)
    (case k11 => k_is)
    (case a12 => k_is)
    (case l12 => k_is)
    (case c12 => k_is)
    (case k12 => k_is)
    (case a13 => k_is)
    (case l13 => k_is)
    (case c13 => k_is)
    (case k13 => k_is)
    (case a14 => k_is)
    (case l14 => k_is)
    (case c14 => k_is)
    (case k14 => k_is)
    (case a15 => k_is)
    (case l15 => k_is)
    (case c15 => k_is)
    (case k15 => k_is)
    (case a16 => k_is)
    (case l16 => k_is)
    (case c16 => k_is)
    (case k16 => k_is)
    (case a17 => k_is)
    (case l17 => k_is)
    (case c17 => k_is)
    (case k17 => k_is)
    (case a18 => k_is)
    (case l18 => k_is)
    (case c18 => k_is)
    (case k18 => k_is)
    (case a19 => k_is)
    (case l19 => k_is)
    (case c19 => k_is)
    (case k19 => k_is)
    (case a20 => k_is)
    (case l20 => k_is)
    (case c20 => k_is)
    (case k20 => k_is)
    (case a21 => k_is)
    (case l21 => k_is)
    (case c21 => k_is)
    (case k21 => k_is)
    (case a22 => k_is)
    (case l22 => k_is)
    (case c22 => k_is)
    (case k22 => k_is)
    (case z_int => k_is)
    (case z_isinstance => k_is)
    (case z_bool => k_is)
    (case z_tuple => k_is)
    (case z_all => k_is)
    (case z_zip => k_is)
    (case z_len => k_is)
    (case z_enumerate => k_is)
    (case z_dict => k_is)
    (case z_range => k_is)
    (case z_sorted => k_is)
    (case z_abs => k_is)
    (case z_set => k_is)
    (case g_MOST_POINTS => k_is)
    (case ha => k_is)
    (case hn => k_is)
    (case htk => k_is)
    (case hmro => k_is)
    (case kf_NoneType => kit_is)
    (case kf_bool => kit_is)
    (case kf_int => kit_is)
    (case kf_str => kit_is)
    (case kf_tuple => kit_is)
    (case kf_list => kit_is)
    (case kf_dict => kit_is)
    (case kt => kit_is)
    (case pg_Family => k_is)
    (case hd_Family => k_is)
    (case po_Family => k_is)
    (case sa_Family => k_is)
    (case mk_Family => k_is)
    (case kc_Family => k_is)
    (case na_Family_looked => k_is)
    (case na_Family_points => k_is)
    (case na_Family_lots => k_is)
#print axioms PySem.Challenge.cw_allpatterns_k15_whole_neighbours_and_dis_holds
