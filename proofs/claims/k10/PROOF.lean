import PyProof.Rows.All
import Wide.All
import OpenK.AllK
import Wide.FinOn
import HandS.ForMost
import HandS.ForExc
import HandS.IsInst
import HandS.Flow
import HandS.TupAny
import HandS.Dict
import HandS.Iter
import PyProof.StrOps2
import PyProof.MaxThree
import PyProof.SeqI3
import HandS.Call
import HandS.RevTup
import HandS.Codes
import HandS.Sort
import HandS.SortOrd
import HandS.SortRule
import HandS.SortInts
import HandS.Conv
import KE.KDictList
import PyProof.Rows.SortKeyStr
import PyProof.Rows.SortStr
import PyProof.ListRange
import PyProof.StrLawsIn
import PyProof.CollectIter
import PyProof.WalksMore
import HandS.ExcValue
import PyProof.Rows.StrRev
import HandS.Style
import KE.KEqNest
import KE.GoesMore
import HandS.ExcInit
import HandS.ClsMeth
import HandS.ExcField
import HandS.Zip
import HandS.OwnEq
import HandS.CallRecv
import PyProof.StrLawsRepr
import HandS.FStrTup
import PyProof.Rows.StrDigits
import PyProof.Rows.StrIntSpec
import PyProof.P3Eq
import PySem.Challenge.RW_penhelper_k10_how_far_words_are
set_option Elab.async false
set_option linter.all false
set_option maxRecDepth 100000
/-! P3A: data as trees, cells that change, and how they lie in the heap. -/
namespace P3
open PySem PySem.Spec PyProof.Rows L2

/-- a Python value as a tree; cell i: the i-th thing that may change -/
inductive D where
  | non | bl (b : Bool) | int (i : Int) | str (s : Str)
  | lst (xs : List D) | tup (xs : List D) | dic (kvs : List (Key × D)) | cell (i : Nat)
  /-- a list of ints that is read alone (the script) -/
  | scr (ns : List Int)
  /-- a built-in class; a def or a class of the module -/
  | ty (n : String) | code (x : Str)
  /-- an instance of the class c that changes no more: its fields' names, what they hold -/
  | ob (c : Str) (ks : List Str) (ds : List D)
/-- what a cell holds -/
inductive Cl where
  | lst (xs : List D) | dic (kvs : List (Key × D)) | gone | lck (kvs : List (Key × D)) | obj (c : Str) (ks : List Str) (ds : List D)
mutual
/-- the cells in it are all elder than the n-th -/
def D.blw (n : Nat) : D → Bool
  | .lst xs => blwL n xs
  | .tup xs => blwL n xs
  | .dic kvs => blwK n kvs
  | .cell i => decide (i < n)
  | .non => true
  | .bl _ => true
  | .int _ => true
  | .str _ => true
  | .scr _ => true
  | .ty _ => true
  | .code _ => true
  | .ob _ _ ds => blwL n ds
def blwL (n : Nat) : List D → Bool
  | [] => true
  | d :: ds => d.blw n && blwL n ds
def blwK (n : Nat) : List (Key × D) → Bool
  | [] => true
  | (_, d) :: ds => d.blw n && blwK n ds
end
theorem blwK_map (n : Nat) : ∀ l : List (Key × D), blwK n l = blwL n (l.map (·.2))
  | [] => rfl
  | (k, d) :: l => by
    show (d.blw n && blwK n l) = (d.blw n && blwL n (l.map (·.2)))
    rw [blwK_map n l]
theorem blwL_append (n : Nat) : ∀ l m : List D, blwL n (l ++ m) = (blwL n l && blwL n m)
  | [], m => by simp [blwL]
  | d :: l, m => by
    show (d.blw n && blwL n (l ++ m)) = ((d.blw n && blwL n l) && blwL n m)
    rw [blwL_append n l m, Bool.and_assoc]
theorem blwL_iff (n : Nat) : ∀ l : List D, blwL n l = true ↔ ∀ d ∈ l, d.blw n = true
  | [] => by simp [blwL]
  | d :: l => by
    show (d.blw n && blwL n l) = true ↔ _
    rw [Bool.and_eq_true, blwL_iff n l]
    simp
def Cl.blw (n : Nat) : Cl → Bool
  | .lst xs => blwL n xs
  | .dic kvs => blwK n kvs
  | .lck kvs => blwK n kvs
  | .gone => true
  | .obj _ _ ds => blwL n ds
abbrev Ro := List (Option D)
abbrev Sto := List Cl
/-- an answer -/
inductive Res (α : Type) where
  | ok (a : α) (st : Sto) | exc (c : Str) (f : Str) (d : D) (st : Sto) | stuck
def Res.bind {α β : Type} (r : Res α) (f : α → Sto → Res β) : Res β := match r with
  | .ok a st => f a st
  | .exc c n d st => .exc c n d st
  | .stuck => .stuck
@[simp] theorem Res.bind_ok {α β : Type} {a : α} {st : Sto} {f : α → Sto → Res β} : (Res.ok a st).bind f = f a st := rfl
@[simp] theorem Res.bind_exc {α β : Type} {c n : Str} {d : D} {st : Sto} {f : α → Sto → Res β} : (Res.exc c n d st : Res α).bind f = .exc c n d st := rfl
@[simp] theorem Res.bind_stuck {α β : Type} {f : α → Sto → Res β} : (Res.stuck : Res α).bind f = .stuck := rfl
abbrev ME := Ro → Sto → Res D
abbrev MEs := Ro → Sto → Res (List D)
abbrev MT := Ro → Sto → Res Bool

/-- a tuple that is read: tracked, or an object of the module -/
def STu (K : PySem.W.Frag) (H : Hp) (a : Addr) (xs : List V) : Prop :=
  H a = some (.tup xs) ∨ ∃ (o : Obj) (its : Array Value) (n : Nat), K.lookup a = some o ∧ o.cls = .type "tuple" ∧ o.data = .seq its n ∧ its.size ≤ sizeLine ∧ Vals xs its.toList
theorem stu_im {K : PySem.W.Frag} {H H' : Hp} {a : Addr} {xs : List V} (e : ∀ a o, H a = some o → H' a = some o) (h : STu K H a xs) : STu K H' a xs := h.imp (e _ _) fun q => q
theorem stu_sq {K : PySem.W.Frag} {H H' : Hp} {a : Addr} {xs : List V} (e : ∀ a o, H a = some o → H' a = some o) (h : STu K H a xs) : SqT K H' a xs := h.imp (fun q => .inl (e _ _ q)) fun q => q
/-- the heap's part that stands still, the cells' places -/
structure G where
  im : Hp
  ph : List Addr
  /-- what is locked -/
  lo : Hp
theorem rdIm {H H' : Hp} {a : Addr} {u : HO} (e : ∀ a o, H a = some o → H' a = some o) (h : L2.Rd H a u) : L2.Rd H' a u := h.imp (e _ _) fun ⟨o, q⟩ => ⟨o, e _ _ q⟩
mutual
inductive Rd (K : PySem.W.Frag) (g : G) : D → V → Prop
  | non : Rd K g .non .non
  | bl (b : Bool) : Rd K g (.bl b) (.bl b)
  | int (i : Int) : Rd K g (.int i) (.int i)
  | str (s : Str) : Rd K g (.str s) (.str s)
  | lst {a : Addr} {xs : List V} {ds : List D} : g.im a = some (.lst xs) → RdL K g ds xs → Rd K g (.lst ds) (.ref a)
  | scr {a : Addr} {ns : List Int} : SqL K g.im a (ns.map V.int) → Rd K g (.scr ns) (.ref a)
  | tup {a : Addr} {xs : List V} {ds : List D} : STu K g.im a xs → RdL K g ds xs → Rd K g (.tup ds) (.ref a)
  | dic {a : Addr} {kvs : List (Key × D)} {kx : List (Key × V)} {ds : List D} {xs : List V} : L2.Rd g.im a (.dK kx) → kvs.map (·.1) = kx.map (·.1) → kvs.map (·.2) = ds → kx.map (·.2) = xs → RdL K g ds xs → Rd K g (.dic kvs) (.ref a)
  | cell {i : Nat} {a : Addr} : g.ph[i]? = some a → Rd K g (.cell i) (.ref a)
  | ty (n : String) : Rd K g (.ty n) (.ty n)
  | code {x : Str} {a : Addr} : PySem.W.nsIn K mainGlobals x = some (some (.ref a)) → Rd K g (.code x) (.ref a)
  | ob {c : Str} {C a dx : Addr} {fv : List (Str × V)} {ks : List Str} {ds : List D} {xs : List V} : PySem.W.nsIn K mainGlobals c = some (some (.ref C)) → g.im a = some (.ins C dx fv) → fv.map (·.1) = ks → fv.map (·.2) = xs → RdL K g ds xs → Rd K g (.ob c ks ds) (.ref a)
inductive RdL (K : PySem.W.Frag) (g : G) : List D → List V → Prop
  | nil : RdL K g [] []
  | cons {d : D} {ds : List D} {v : V} {vs : List V} : Rd K g d v → RdL K g ds vs → RdL K g (d :: ds) (v :: vs)
end
def Ext (g g' : G) : Prop := (∀ a o, g.im a = some o → g'.im a = some o) ∧ ∃ t, g'.ph = g.ph ++ t ∧ g'.lo = g.lo
theorem Ext.refl (g : G) : Ext g g := ⟨fun _ _ h => h, [], by simp, rfl⟩
theorem Ext.trans {a b c : G} (h : Ext a b) (k : Ext b c) : Ext a c := by
  obtain ⟨h1, t, h2, h3⟩ := h
  obtain ⟨k1, u, k2, k3⟩ := k
  exact ⟨fun x o q => k1 x o (h1 x o q), t ++ u, by rw [k2, h2, List.append_assoc], k3.trans h3⟩
theorem Ext.ph {g g' : G} (h : Ext g g') {i : Nat} {a : Addr} (e : g.ph[i]? = some a) : g'.ph[i]? = some a := by
  obtain ⟨_, t, q, _⟩ := h
  rw [q]
  have hi : i < g.ph.length := (List.getElem?_eq_some_iff.mp e).1
  rw [List.getElem?_append_left hi, e]
theorem seqL_im {K : PySem.W.Frag} {H H' : Hp} {a : Addr} {xs : List V} (e : ∀ a o, H a = some o → H' a = some o) (h : SqL K H a xs) : SqL K H' a xs := by
  rcases h with (h | ⟨o, h⟩) | h
  · exact .inl (.inl (e _ _ h))
  · exact .inl (.inr ⟨o, e _ _ h⟩)
  · exact .inr h
theorem seqT_im {K : PySem.W.Frag} {H H' : Hp} {a : Addr} {xs : List V} (e : ∀ a o, H a = some o → H' a = some o) (h : SqT K H a xs) : SqT K H' a xs := by
  rcases h with (h | ⟨o, h⟩) | h
  · exact .inl (.inl (e _ _ h))
  · exact .inl (.inr ⟨o, e _ _ h⟩)
  · exact .inr h
mutual
theorem Rd.mono {K : PySem.W.Frag} {g g' : G} (e : Ext g g') : ∀ {d : D} {v : V}, Rd K g d v → Rd K g' d v
  | _, _, .non => .non
  | _, _, .bl b => .bl b
  | _, _, .int i => .int i
  | _, _, .str s => .str s
  | _, _, .lst h r => .lst (e.1 _ _ h) (RdL.mono e r)
  | _, _, .scr h => .scr (seqL_im e.1 h)
  | _, _, .tup h r => .tup (stu_im e.1 h) (RdL.mono e r)
  | _, _, .dic h k p q r => .dic (rdIm e.1 h) k p q (RdL.mono e r)
  | _, _, .cell h => .cell (e.ph h)
  | _, _, .ty n => .ty n
  | _, _, .code h => .code h
  | _, _, .ob hc h k p r => .ob hc (e.1 _ _ h) k p (RdL.mono e r)
theorem RdL.mono {K : PySem.W.Frag} {g g' : G} (e : Ext g g') : ∀ {d : List D} {v : List V}, RdL K g d v → RdL K g' d v
  | _, _, .nil => .nil
  | _, _, .cons h r => .cons (Rd.mono e h) (RdL.mono e r)
end
mutual
/-- what has elder cells alone is read alike where these stand alike -/
theorem Rd.cut {K : PySem.W.Frag} {g g' : G} {n : Nat} (him : ∀ a o, g.im a = some o → g'.im a = some o) (hph : ∀ i a, i < n → g.ph[i]? = some a → g'.ph[i]? = some a) : ∀ {d : D} {v : V}, d.blw n = true → Rd K g d v → Rd K g' d v
  | _, _, _, .non => .non
  | _, _, _, .bl b => .bl b
  | _, _, _, .int i => .int i
  | _, _, _, .str s => .str s
  | .lst ds, _, hb, .lst h r => .lst (him _ _ h) (RdL.cut him hph (by simpa [D.blw] using hb) r)
  | _, _, _, .scr h => .scr (seqL_im him h)
  | .tup ds, _, hb, .tup h r => .tup (stu_im him h) (RdL.cut him hph (by simpa [D.blw] using hb) r)
  | .dic kvs, _, hb, .dic h k p q r => .dic (rdIm him h) k p q (RdL.cut him hph (by rw [← p, ← blwK_map]; simpa [D.blw] using hb) r)
  | .cell i, _, hb, .cell h => .cell (hph _ _ (by simpa [D.blw] using hb) h)
  | _, _, _, .ty n => .ty n
  | _, _, _, .code h => .code h
  | .ob _ _ ds, _, hb, .ob hc h k p r => .ob hc (him _ _ h) k p (RdL.cut him hph (by simpa [D.blw] using hb) r)
theorem RdL.cut {K : PySem.W.Frag} {g g' : G} {n : Nat} (him : ∀ a o, g.im a = some o → g'.im a = some o) (hph : ∀ i a, i < n → g.ph[i]? = some a → g'.ph[i]? = some a) : ∀ {d : List D} {v : List V}, blwL n d = true → RdL K g d v → RdL K g' d v
  | _, _, _, .nil => .nil
  | d :: ds, _, hb, .cons h r => by
    have hb' : (d.blw n && blwL n ds) = true := hb
    rw [Bool.and_eq_true] at hb'
    exact .cons (Rd.cut him hph hb'.1 h) (RdL.cut him hph hb'.2 r)
end
theorem RdL.length {K : PySem.W.Frag} {g : G} : ∀ {d : List D} {v : List V}, RdL K g d v → d.length = v.length
  | _, _, .nil => rfl
  | _, _, .cons _ r => by rw [List.length_cons, List.length_cons, RdL.length r]
theorem RdL.get {K : PySem.W.Frag} {g : G} : ∀ {ds : List D} {vs : List V} {i : Nat} {d : D}, RdL K g ds vs → ds[i]? = some d → ∃ v, vs[i]? = some v ∧ Rd K g d v
  | _, _, _, _, .nil, e => by simp at e
  | _, _, 0, _, .cons r _, e => by simp at e; subst e; exact ⟨_, rfl, r⟩
  | _, _, i + 1, _, .cons _ t, e => by
    obtain ⟨v, h1, h2⟩ := RdL.get (i := i) t (by simpa using e)
    exact ⟨v, by simpa using h1, h2⟩
theorem RdL.getV {K : PySem.W.Frag} {g : G} : ∀ {ds : List D} {vs : List V} {i : Nat} {v : V}, RdL K g ds vs → vs[i]? = some v → ∃ d, ds[i]? = some d ∧ Rd K g d v
  | _, _, _, _, .nil, e => by simp at e
  | _, _, 0, _, .cons r _, e => by simp at e; subst e; exact ⟨_, rfl, r⟩
  | _, _, i + 1, _, .cons _ t, e => by
    obtain ⟨v, h1, h2⟩ := RdL.getV (i := i) t (by simpa using e)
    exact ⟨v, by simpa using h1, h2⟩
theorem RdL.append {K : PySem.W.Frag} {g : G} : ∀ {ds es : List D} {vs us : List V}, RdL K g ds vs → RdL K g es us → RdL K g (ds ++ es) (vs ++ us)
  | _, _, _, _, .nil, s => s
  | _, _, _, _, .cons r t, s => .cons r (RdL.append t s)
theorem RdL.take {K : PySem.W.Frag} {g : G} : ∀ {ds : List D} {vs : List V} (n : Nat), RdL K g ds vs → RdL K g (ds.take n) (vs.take n)
  | _, _, 0, _ => .nil
  | _, _, _ + 1, .nil => .nil
  | _, _, n + 1, .cons r t => .cons r (RdL.take n t)
theorem RdL.drop {K : PySem.W.Frag} {g : G} : ∀ {ds : List D} {vs : List V} (n : Nat), RdL K g ds vs → RdL K g (ds.drop n) (vs.drop n)
  | _, _, 0, r => r
  | _, _, _ + 1, .nil => .nil
  | _, _, n + 1, .cons _ t => RdL.drop n t
theorem RdL.set {K : PySem.W.Frag} {g : G} {d : D} {v : V} (r : Rd K g d v) : ∀ {ds : List D} {vs : List V} (i : Nat), RdL K g ds vs → RdL K g (ds.set i d) (vs.set i v)
  | _, _, _, .nil => .nil
  | _, _, 0, .cons _ t => .cons r t
  | _, _, i + 1, .cons q t => .cons q (RdL.set r i t)
theorem RdL.reverse {K : PySem.W.Frag} {g : G} : ∀ {ds : List D} {vs : List V}, RdL K g ds vs → RdL K g ds.reverse vs.reverse
  | _, _, .nil => .nil
  | _, _, .cons r t => by
    rw [List.reverse_cons, List.reverse_cons]
    exact (RdL.reverse t).append (.cons r .nil)

/-- a cell stands at a -/
def ClAt (K : PySem.W.Frag) (g : G) (H : Hp) (a : Addr) : Cl → Prop
  | .lst ds => g.im a = none ∧ ∃ xs, H a = some (.lst xs) ∧ RdL K g ds xs
  | .dic kvs => g.im a = none ∧ ∃ kx, H a = some (.dK kx) ∧ kvs.map (·.1) = kx.map (·.1) ∧ RdL K g (kvs.map (·.2)) (kx.map (·.2))
  | .lck kvs => g.im a = none ∧ ∃ o kx, g.lo a = some (.frz o (.dK kx)) ∧ H a = some (.frz o (.dK kx)) ∧ kvs.map (·.1) = kx.map (·.1) ∧ RdL K g (kvs.map (·.2)) (kx.map (·.2))
  | .gone => ∃ o, H a = some o
  | .obj c ks ds => g.im a = none ∧ ∃ C dx fv, PySem.W.nsIn K mainGlobals c = some (some (.ref C)) ∧ H a = some (.ins C dx fv) ∧ fv.map (·.1) = ks ∧ RdL K g ds (fv.map (·.2))
theorem ClAt.some {K : PySem.W.Frag} {g : G} {H : Hp} {a : Addr} {c : Cl} (h : ClAt K g H a c) : ∃ o, H a = some o := by
  cases c with
  | lst ds => obtain ⟨_, xs, e, _⟩ := h; exact ⟨_, e⟩
  | dic kvs => obtain ⟨_, xs, e, _⟩ := h; exact ⟨_, e⟩
  | lck kvs => obtain ⟨_, o, xs, _, e, _⟩ := h; exact ⟨_, e⟩
  | gone => exact h
  | obj c ks ds => obtain ⟨_, C, dx, fv, _, e, _⟩ := h; exact ⟨_, e⟩
structure Rl (K : PySem.W.Frag) (g : G) (σ : L2.St) (H : Hp) (ρ : Ro) (st : Sto) : Prop where
  im : ∀ a o, g.im a = some o → H a = some o
  nd : g.ph.Nodup
  len : g.ph.length = st.length
  cell : ∀ (i : Nat) (a : Addr) (c : Cl), g.ph[i]? = some a → st[i]? = some c → ClAt K g H a c
  sl : ∀ (i : Nat) (d : D), ρ[i]? = some (some d) → ∃ v, σ[i]? = some (some v) ∧ Rd K g d v
  le : ρ.length ≤ σ.length
theorem Rl.there {K : PySem.W.Frag} {g : G} {σ : L2.St} {H : Hp} {ρ : Ro} {st : Sto} (R : Rl K g σ H ρ st) {a : Addr} (h : a ∈ g.ph) : ∃ o, H a = some o := by
  obtain ⟨i, hi⟩ := List.getElem?_of_mem h
  have hl : i < st.length := by
    rw [← R.len]
    exact (List.getElem?_eq_some_iff.mp hi).1
  exact (R.cell i a _ hi (List.getElem?_eq_getElem hl)).some
/-- the state as it is, with more slots told -/
theorem Rl.slots {K : PySem.W.Frag} {g : G} {σ σ' : L2.St} {H : Hp} {ρ ρ' : Ro} {st : Sto} (R : Rl K g σ H ρ st) (h : ∀ (i : Nat) (d : D), ρ'[i]? = some (some d) → ∃ v, σ'[i]? = some (some v) ∧ Rd K g d v) (hl : ρ'.length ≤ σ'.length) : Rl K g σ' H ρ' st := ⟨R.im, R.nd, R.len, R.cell, h, hl⟩
theorem Rl.set {K : PySem.W.Frag} {g : G} {σ : L2.St} {H : Hp} {ρ : Ro} {st : Sto} {i : Nat} {d : D} {v : V} (R : Rl K g σ H ρ st) (r : Rd K g d v) : Rl K g (σ.set i (some v)) H (ρ.set i (some d)) st :=
  R.slots (fun j e hj => by
    by_cases hij : i = j
    · subst hij
      have hl : i < ρ.length := by
        have := (List.getElem?_eq_some_iff.mp hj).1
        simpa using this
      rw [List.getElem?_set_self hl] at hj
      cases hj
      exact ⟨v, by rw [List.getElem?_set_self (Nat.lt_of_lt_of_le hl R.le)], r⟩
    · rw [List.getElem?_set_ne hij] at hj
      obtain ⟨u, h1, h2⟩ := R.sl j e hj
      exact ⟨u, by rw [List.getElem?_set_ne hij]; exact h1, h2⟩) (by rw [List.length_set, List.length_set]; exact R.le)
/-- behind what another frame did: its slots' things stand -/
theorem Rl.back {K : PySem.W.Frag} {g g' : G} {σ : L2.St} {H H' : Hp} {ρ : Ro} {st st' : Sto} (R : Rl K g σ H ρ st) (e : Ext g g') (R' : Rl K g' [] H' [] st') : Rl K g' σ H' ρ st' :=
  R'.slots (fun i d h => let ⟨v, h1, h2⟩ := R.sl i d h; ⟨v, h1, h2.mono e⟩) R.le
theorem Rl.bare {K : PySem.W.Frag} {g : G} {σ : L2.St} {H : Hp} {ρ : Ro} {st : Sto} (R : Rl K g σ H ρ st) : Rl K g [] H [] st := R.slots (fun i d h => by simp at h) (Nat.le_refl _)
/-- a new object that stands still -/
def G.put (g : G) (p : Addr) (o : HO) : G := ⟨upd g.im p o, g.ph, g.lo⟩
theorem Rl.fresh {K : PySem.W.Frag} {g : G} {σ : L2.St} {H : Hp} {ρ : Ro} {st : Sto} (R : Rl K g σ H ρ st) {p : Addr} (hp : H p = none) : g.im p = none := by
  cases e : g.im p with
  | none => rfl
  | some o => rw [R.im p o e] at hp; cases hp
theorem Rl.put_ext {K : PySem.W.Frag} {g : G} {σ : L2.St} {H : Hp} {ρ : Ro} {st : Sto} (R : Rl K g σ H ρ st) {p : Addr} {o : HO} (hp : H p = none) : Ext g (g.put p o) :=
  ⟨fun a u e => by
    show upd g.im p o a = some u
    rw [upd_ne (ne_of_none e (R.fresh hp))]
    exact e, [], by simp [G.put], rfl⟩
theorem Rl.put {K : PySem.W.Frag} {g : G} {σ : L2.St} {H : Hp} {ρ : Ro} {st : Sto} (R : Rl K g σ H ρ st) {p : Addr} {o : HO} (hp : H p = none) : Rl K (g.put p o) σ (upd H p o) ρ st := by
  have E := R.put_ext (o := o) hp
  refine ⟨fun a u e => ?_, R.nd, R.len, fun i a c h1 h2 => ?_, fun i d h => ?_, R.le⟩
  · by_cases ha : a = p
    · subst ha
      have e' : upd g.im a o a = some u := e
      rw [upd_same] at e' ⊢
      exact e'
    · have e' : upd g.im p o a = some u := e
      rw [upd_ne ha] at e' ⊢
      exact R.im a u e'
  · have q := R.cell i a c h1 h2
    obtain ⟨u, hu⟩ := q.some
    have na : a ≠ p := ne_of_none hu hp
    cases c with
    | lst ds =>
      obtain ⟨n, xs, e, r⟩ := q
      exact ⟨by show upd g.im p o a = none; rw [upd_ne na]; exact n, xs, by rw [upd_ne na]; exact e, r.mono E⟩
    | dic kvs =>
      obtain ⟨n, xs, e, k, r⟩ := q
      exact ⟨by show upd g.im p o a = none; rw [upd_ne na]; exact n, xs, by rw [upd_ne na]; exact e, k, r.mono E⟩
    | lck kvs =>
      obtain ⟨n, od, xs, l, e, k, r⟩ := q
      exact ⟨by show upd g.im p o a = none; rw [upd_ne na]; exact n, od, xs, l, by rw [upd_ne na]; exact e, k, r.mono E⟩
    | obj c ks ds =>
      obtain ⟨n, C, dx, fv, hc, e, k, r⟩ := q
      exact ⟨by show upd g.im p o a = none; rw [upd_ne na]; exact n, C, dx, fv, hc, by rw [upd_ne na]; exact e, k, r.mono E⟩
    | gone => exact ⟨u, by rw [upd_ne na]; exact hu⟩
  · obtain ⟨v, h1, h2⟩ := R.sl i d h
    exact ⟨v, h1, h2.mono E⟩
theorem G.put_at {g : G} {p : Addr} {o : HO} : (g.put p o).im p = some o := upd_same
/-- a new cell -/
def G.more (g : G) (p : Addr) : G := ⟨g.im, g.ph ++ [p], g.lo⟩
theorem G.more_ext (g : G) (p : Addr) : Ext g (g.more p) := ⟨fun _ _ h => h, [p], rfl, rfl⟩
theorem Rl.more {K : PySem.W.Frag} {g : G} {σ : L2.St} {H : Hp} {ρ : Ro} {st : Sto} (R : Rl K g σ H ρ st) {p : Addr} {o : HO} {c : Cl} (hp : H p = none) (hc : ClAt K g (upd H p o) p c) : Rl K (g.more p) σ (upd H p o) ρ (st ++ [c]) := by
  have E := g.more_ext p
  have keep : ∀ a c', ClAt K g H a c' → ClAt K (g.more p) (upd H p o) a c' := fun a c' q => by
    obtain ⟨u, hu⟩ := q.some
    have na : a ≠ p := ne_of_none hu hp
    cases c' with
    | lst ds =>
      obtain ⟨n, xs, e, r⟩ := q
      exact ⟨n, xs, by rw [upd_ne na]; exact e, r.mono E⟩
    | dic kvs =>
      obtain ⟨n, xs, e, k, r⟩ := q
      exact ⟨n, xs, by rw [upd_ne na]; exact e, k, r.mono E⟩
    | lck kvs =>
      obtain ⟨n, od, xs, l, e, k, r⟩ := q
      exact ⟨n, od, xs, l, by rw [upd_ne na]; exact e, k, r.mono E⟩
    | obj c ks ds =>
      obtain ⟨n, C, dx, fv, hc, e, k, r⟩ := q
      exact ⟨n, C, dx, fv, hc, by rw [upd_ne na]; exact e, k, r.mono E⟩
    | gone => exact ⟨u, by rw [upd_ne na]; exact hu⟩
  refine ⟨fun a u e => ?_, ?_, ?_, fun i a c' h1 h2 => ?_, fun i d h => ?_, R.le⟩
  · rw [upd_ne (ne_of_none (R.im a u e) hp)]
    exact R.im a u e
  · show (g.ph ++ [p]).Nodup
    rw [List.nodup_append]
    refine ⟨R.nd, by simp, fun a ha b hb => ?_⟩
    have hb' : b = p := by simpa using hb
    obtain ⟨u, hu⟩ := R.there ha
    rw [hb']
    exact ne_of_none hu hp
  · show (g.ph ++ [p]).length = (st ++ [c]).length
    rw [List.length_append, List.length_append, R.len]
    rfl
  · have h1' : (g.ph ++ [p])[i]? = some a := h1
    by_cases hi : i < g.ph.length
    · rw [List.getElem?_append_left hi] at h1'
      rw [List.getElem?_append_left (by rw [← R.len]; exact hi)] at h2
      exact keep a c' (R.cell i a c' h1' h2)
    · rw [List.getElem?_append_right (by omega : g.ph.length ≤ i)] at h1'
      rw [List.getElem?_append_right (by rw [← R.len]; omega)] at h2
      rw [R.len] at h1'
      cases hk : i - st.length with
      | zero =>
        rw [hk] at h1' h2
        simp at h1' h2
        subst h1' h2
        cases c with
        | lst ds =>
          obtain ⟨n, xs, e, r⟩ := hc
          exact ⟨n, xs, e, r.mono E⟩
        | dic kvs =>
          obtain ⟨n, xs, e, k, r⟩ := hc
          exact ⟨n, xs, e, k, r.mono E⟩
        | lck kvs =>
          obtain ⟨n, od, xs, l, e, k, r⟩ := hc
          exact ⟨n, od, xs, l, e, k, r.mono E⟩
        | gone => exact hc
        | obj c ks ds =>
          obtain ⟨n, C, dx, fv, hk', e, k, r⟩ := hc
          exact ⟨n, C, dx, fv, hk', e, k, r.mono E⟩
      | succ n =>
        rw [hk] at h1'
        simp at h1'
  · obtain ⟨v, h1, h2⟩ := R.sl i d h
    exact ⟨v, h1, h2.mono E⟩
theorem nodup_at {α : Type} : ∀ {l : List α} {i j : Nat} {a : α}, l.Nodup → l[i]? = some a → l[j]? = some a → i = j
  | [], _, _, _, _, h, _ => by simp at h
  | x :: l, 0, 0, _, _, _, _ => rfl
  | x :: l, 0, j + 1, a, nd, h, k => by
    have h' : x = a := by simpa using h
    have k' : l[j]? = some a := by simpa using k
    exact absurd (List.mem_of_getElem? k') (h' ▸ (List.nodup_cons.mp nd).1)
  | x :: l, i + 1, 0, a, nd, h, k => by
    have k' : x = a := by simpa using k
    have h' : l[i]? = some a := by simpa using h
    exact absurd (List.mem_of_getElem? h') (k' ▸ (List.nodup_cons.mp nd).1)
  | x :: l, i + 1, j + 1, a, nd, h, k => by
    have h' : l[i]? = some a := by simpa using h
    have k' : l[j]? = some a := by simpa using k
    rw [nodup_at (List.nodup_cons.mp nd).2 h' k']
/-- a cell's thing is another one -/
theorem Rl.write {K : PySem.W.Frag} {g : G} {σ : L2.St} {H : Hp} {ρ : Ro} {st : Sto} (R : Rl K g σ H ρ st) {i : Nat} {a : Addr} {o : HO} {c c' : Cl} (h1 : g.ph[i]? = some a) (h2 : st[i]? = some c) (hn : g.im a = none) (hc : ClAt K g (upd H a o) a c') : Rl K g σ (upd H a o) ρ (st.set i c') := by
  refine ⟨fun b u e => ?_, R.nd, by rw [List.length_set]; exact R.len, fun j b d k1 k2 => ?_, R.sl, R.le⟩
  · have nb : b ≠ a := fun z => by
      rw [z, hn] at e
      cases e
    rw [upd_ne nb]
    exact R.im b u e
  · by_cases hij : i = j
    · subst hij
      rw [h1] at k1
      cases k1
      have hl : i < st.length := (List.getElem?_eq_some_iff.mp h2).1
      rw [List.getElem?_set_self hl] at k2
      cases k2
      exact hc
    · rw [List.getElem?_set_ne hij] at k2
      have nb : b ≠ a := fun z => by
        subst z
        exact hij (nodup_at R.nd h1 k1)
      have q := R.cell j b d k1 k2
      cases d with
      | lst ds =>
        obtain ⟨n, xs, e, r⟩ := q
        exact ⟨n, xs, by rw [upd_ne nb]; exact e, r⟩
      | dic kvs =>
        obtain ⟨n, xs, e, k, r⟩ := q
        exact ⟨n, xs, by rw [upd_ne nb]; exact e, k, r⟩
      | lck kvs =>
        obtain ⟨n, od, xs, l, e, k, r⟩ := q
        exact ⟨n, od, xs, l, by rw [upd_ne nb]; exact e, k, r⟩
      | gone =>
        obtain ⟨u, hu⟩ := q
        exact ⟨u, by rw [upd_ne nb]; exact hu⟩
      | obj c2 ks ds =>
        obtain ⟨n, C, dx, fv, hk', e, k, r⟩ := q
        exact ⟨n, C, dx, fv, hk', by rw [upd_ne nb]; exact e, k, r⟩
/-! ### what is read has cells that are there -/
mutual
theorem Rd.blw {K : PySem.W.Frag} {g : G} : ∀ {d : D} {v : V}, Rd K g d v → d.blw g.ph.length = true
  | _, _, .non => rfl
  | _, _, .bl _ => rfl
  | _, _, .int _ => rfl
  | _, _, .str _ => rfl
  | _, _, .lst _ r => by simpa [D.blw] using RdL.blw r
  | _, _, .scr _ => rfl
  | _, _, .tup _ r => by simpa [D.blw] using RdL.blw r
  | .dic kvs, _, .dic _ _ p _ r => by
    have h := RdL.blw r
    rw [← p, ← blwK_map] at h
    simpa [D.blw] using h
  | .cell i, _, .cell h => by
    have := (List.getElem?_eq_some_iff.mp h).1
    simpa [D.blw] using this
  | _, _, .ty _ => rfl
  | _, _, .code _ => rfl
  | .ob _ _ ds, _, .ob _ _ _ _ r => by simpa [D.blw] using RdL.blw r
theorem RdL.blw {K : PySem.W.Frag} {g : G} : ∀ {d : List D} {v : List V}, RdL K g d v → blwL g.ph.length d = true
  | _, _, .nil => rfl
  | d :: ds, _, .cons h r => by
    show (d.blw g.ph.length && blwL g.ph.length ds) = true
    rw [Rd.blw h, RdL.blw r]
    rfl
end
theorem ClAt.blw {K : PySem.W.Frag} {g : G} {H : Hp} {a : Addr} {c : Cl} (h : ClAt K g H a c) : c.blw g.ph.length = true := by
  cases c with
  | lst ds =>
    obtain ⟨_, xs, _, r⟩ := h
    exact r.blw
  | dic kvs =>
    obtain ⟨_, kx, _, _, r⟩ := h
    show blwK g.ph.length kvs = true
    rw [blwK_map]
    exact r.blw
  | lck kvs =>
    obtain ⟨_, od, kx, _, _, _, r⟩ := h
    show blwK g.ph.length kvs = true
    rw [blwK_map]
    exact r.blw
  | gone => rfl
  | obj c ks ds =>
    obtain ⟨_, C, dx, fv, _, _, _, r⟩ := h
    exact r.blw
theorem Rl.wf {K : PySem.W.Frag} {g : G} {σ : L2.St} {H : Hp} {ρ : Ro} {st : Sto} (R : Rl K g σ H ρ st) (i : Nat) (c : Cl) (h : st[i]? = some c) : c.blw st.length = true := by
  have hi : i < g.ph.length := by
    rw [R.len]
    exact (List.getElem?_eq_some_iff.mp h).1
  rw [← R.len]
  exact (R.cell i _ c (List.getElem?_eq_getElem hi) h).blw
/-- the elder cells hold elder cells alone, or what they held -/
def OldB (st0 st : Sto) : Prop := st0.length ≤ st.length ∧ ∀ i, i < st0.length → st[i]? = st0[i]? ∨ ∃ c, st[i]? = some c ∧ c.blw st0.length = true
theorem OldB.refl (st : Sto) : OldB st st := ⟨Nat.le_refl _, fun _ _ => .inl rfl⟩
theorem OldB.of {st0 st : Sto} (hl : st0.length ≤ st.length) (h : ∀ i, i < st0.length → st[i]? = st0[i]?) : OldB st0 st := ⟨hl, fun i hi => .inl (h i hi)⟩
theorem OldB.app (st t : Sto) : OldB st (st ++ t) := .of (by simp) fun i hi => List.getElem?_append_left hi
theorem OldB.at {st0 st : Sto} (i : Nat) (c : Cl) (hl : st0.length ≤ st.length) (h : ∀ j, j < st0.length → j ≠ i → st[j]? = st0[j]?) (hc : st[i]? = some c) (hb : c.blw st0.length = true) : OldB st0 st :=
  ⟨hl, fun j hj => by
    by_cases e : j = i
    · exact .inr ⟨c, by rw [e]; exact hc, hb⟩
    · exact .inl (h j hj e)⟩
theorem OldB.wf {K : PySem.W.Frag} {g : G} {σ : L2.St} {H : Hp} {ρ : Ro} {st0 st : Sto} (h : OldB st0 st) (R : Rl K g σ H ρ st0) (i : Nat) (c : Cl) (hi : i < st0.length) (hc : st[i]? = some c) : c.blw st0.length = true := by
  rcases h.2 i hi with e | ⟨c', e, hb⟩
  · rw [e] at hc
    exact R.wf i c hc
  · rw [e] at hc
    cases hc
    exact hb
end P3

/-! P3B: readings that follow a function of trees; names, constants, operators, lists of arguments, tests. -/
namespace P3
open PySem PySem.Spec PyProof.Rows L2
abbrev MG := Str → Option Value

/-- from where g tells: an answer r, and what is wanted of values and heaps -/
def FinG {α β : Type} (K : PySem.W.Frag) (mg : MG) (W : WX) (P : G → α → β → Prop) (g : G) (σ : L2.St) (ρ : Ro) (r : Res α) (Q : β → Hp → Prop) : Prop :=
  match r with
  | .ok a st => ∀ g' H' b, Ext g g' → Rl K g' σ H' ρ st → P g' a b → Q b H'
  | .exc c n d st => ∀ g' H' cls dx v, Ext g g' → Rl K g' σ H' ρ st → mg c = some cls → g'.im dx = some (.xd [(n, v)]) → Rd K g' d v → W cls (some dx) σ H'
  | .stuck => False
def tX {α β : Type} (K : PySem.W.Frag) (mg : MG) (W : WX) (P : G → α → β → Prop) (m : Ro → Sto → Res α) : L2.St → Hp → (β → Hp → Prop) → Prop :=
  fun σ H Q => ∃ g ρ st, Rl K g σ H ρ st ∧ FinG K mg W P g σ ρ (m ρ st) Q
section
variable {α β γ δ : Type} {K : PySem.W.Frag} {mg : MG} {W : WX} {P : G → α → β → Prop} {P2 : G → γ → δ → Prop} {g g1 : G} {σ : L2.St} {ρ : Ro} {r : Res α} {Q Q' : β → Hp → Prop} {H : Hp} {st : Sto}
theorem FinG.imp (h : FinG K mg W P g σ ρ r Q) (k : ∀ b H, Q b H → Q' b H) : FinG K mg W P g σ ρ r Q' := by
  cases r with
  | ok a st => exact fun g' H' b e R p => k _ _ (h g' H' b e R p)
  | exc c n d st => exact h
  | stuck => exact h
theorem FinG.ext (h : FinG K mg W P g σ ρ r Q) (e : Ext g g1) : FinG K mg W P g1 σ ρ r Q := by
  cases r with
  | ok a st => exact fun g' H' b e' R p => h g' H' b (e.trans e') R p
  | exc c n d st => exact fun g' H' cls dx v e' R => h g' H' cls dx v (e.trans e') R
  | stuck => exact h
theorem FinG.bind {f : α → Sto → Res γ} {Q : δ → Hp → Prop} (h : FinG K mg W P2 g σ ρ (r.bind f) Q) :
    FinG K mg W P g σ ρ r (fun b H1 => ∃ g1 st1 a, Ext g g1 ∧ Rl K g1 σ H1 ρ st1 ∧ P g1 a b ∧ FinG K mg W P2 g1 σ ρ (f a st1) Q) := by
  cases r with
  | ok a st => exact fun g' H' b e R p => ⟨g', st, a, e, R, p, FinG.ext h e⟩
  | exc c n d st => exact h
  | stuck => exact h
theorem FinG.bindK {f : α → Sto → Res γ} {Q : δ → Hp → Prop} (h : FinG K mg W P2 g σ ρ (r.bind f) Q) :
    FinG K mg W P g σ ρ r (fun b H1 => ∃ g1 st1 a, Ext g g1 ∧ Rl K g1 σ H1 ρ st1 ∧ P g1 a b ∧ FinG K mg W P2 g σ ρ (f a st1) Q) := by
  cases r with
  | ok a st => exact fun g' H' b e R p => ⟨g', st, a, e, R, p, h⟩
  | exc c n d st => exact h
  | stuck => exact h
theorem FinG.now {a : α} {b : β} (h : FinG K mg W P g σ ρ (.ok a st) Q) (R : Rl K g σ H ρ st) (p : P g a b) : Q b H := h g H b (Ext.refl g) R p
end
abbrev pD (K : PySem.W.Frag) : G → D → V → Prop := fun g d v => Rd K g d v
abbrev pL (K : PySem.W.Frag) : G → List D → List V → Prop := fun g d v => RdL K g d v
abbrev pB : G → Bool → Bool → Prop := fun _ a b => b = a
abbrev tM (K : PySem.W.Frag) (mg : MG) (W : WX) (m : ME) : TE := tX K mg W (pD K) m
abbrev tMs (K : PySem.W.Frag) (mg : MG) (W : WX) (m : MEs) : TA := tX K mg W (pL K) m
abbrev tMT (K : PySem.W.Frag) (mg : MG) (W : WX) (m : MT) : TT := tX K mg W pB m
/-- an expression does m; a list of arguments; a test -/
abbrev DE (X : Cx) (W : WX) (e : Expr) (m : ME) : Prop := PE X e (tM X.K X.mg W m)
abbrev DA (X : Cx) (W : WX) (e : List Expr) (m : MEs) : Prop := PA X e (tMs X.K X.mg W m)
abbrev DT (X : Cx) (W : WX) (e : Expr) (m : MT) : Prop := PT X e (tMT X.K X.mg W m)

theorem pe_weak {X : Cx} {e : Expr} {t t' : TE} (h : PE X e t) (k : ∀ σ H Q, t' σ H Q → t σ H Q) : PE X e t' := ⟨fun pins s σ H Q I q => h.run pins s σ H Q I (k σ H Q q)⟩
theorem pt_weak {X : Cx} {e : Expr} {t t' : TT} (h : PT X e t) (k : ∀ σ H Q, t' σ H Q → t σ H Q) : PT X e t' := ⟨fun pins s σ H Q I q => h.run pins s σ H Q I (k σ H Q q)⟩
theorem pa_weak {X : Cx} {e : List Expr} {t t' : TA} (h : PA X e t) (k : ∀ σ H Q, t' σ H Q → t σ H Q) : PA X e t' := ⟨fun pos pins s σ H Q I q => h.run pos pins s σ H Q I (k σ H Q q)⟩

/-! ### what things do -/
def mC (d : D) : ME := fun _ st => .ok d st
def mVar (i : Nat) : ME := fun ρ st => match ρ[i]? with
  | some (some d) => .ok d st
  | _ => .stuck
def mBin (f : D → D → Sto → Res D) (a b : ME) : ME := fun ρ st => (a ρ st).bind fun x st => (b ρ st).bind fun y st => f x y st
def mUn (f : D → Sto → Res D) (a : ME) : ME := fun ρ st => (a ρ st).bind fun x st => f x st
def mNil : MEs := fun _ st => .ok [] st
def mCons (a : ME) (as : MEs) : MEs := fun ρ st => (a ρ st).bind fun x st => (as ρ st).bind fun xs st => .ok (x :: xs) st
def mOn (f : List D → Sto → Res D) (as : MEs) : ME := fun ρ st => (as ρ st).bind f
section
variable {X : Cx} {W : WX} {a b c e : Expr} {es : List Expr} {ma mb mc m : ME} {ms : MEs} {pos : Pos}
theorem de_const {d : D} {v : V} {e : Expr} (h : PE X e (tC v)) (r : ∀ g, Rd X.K g d v) : DE X W e (mC d) := pe_weak h fun σ H Q ⟨g, ρ, st, R, k⟩ => FinG.now k R (r g)
theorem de_int {i j} : DE X W (.Constant (.int i) j pos) (mC (.int i)) := de_const pe_int fun _ => .int _
theorem de_bl {i j} : DE X W (.Constant (.bool i) j pos) (mC (.bl i)) := de_const pe_bl fun _ => .bl _
theorem de_non {j} : DE X W (.Constant .none j pos) (mC .non) := de_const pe_non fun _ => .non
theorem de_str {i j} : DE X W (.Constant (.str i) j pos) (mC (.str i)) := de_const pe_str fun _ => .str _
theorem de_var {i : Nat} {x : Str} (hN : X.N[i]? = some x) (hv : Vis X.env.scope x) (hd : (x == ("__debug__" : Str)) = false) (hcd : (x == ("__classdict__" : Str)) = false) : DE X W (.Name x pos) (mVar i) :=
  pe_weak (pe_var hN hv hd hcd) fun σ H Q ⟨g, ρ, st, R, k⟩ => by
    unfold mVar at k
    cases h : ρ[i]? with
    | none => rw [h] at k; exact k.elim
    | some o =>
      cases o with
      | none => rw [h] at k; exact k.elim
      | some d =>
        rw [h] at k
        obtain ⟨v, h1, h2⟩ := R.sl i d h
        exact ⟨v, h1, FinG.now k R h2⟩
theorem de_glob {d : D} {x : Str} (hg : Gl X x) (h : ∃ u v, X.mg x = some u ∧ RelV v u ∧ ∀ g, Rd X.K g d v) (hd : (x == ("__debug__" : Str)) = false) : DE X W (.Name x pos) (mC d) := by
  obtain ⟨u, v, h1, h2, h3⟩ := h
  exact de_const (pe_glob hg h1 h2 hd) h3

/-- two operands, then -/
theorem bin_run (ha : DE X W a ma) (hb : DE X W b mb) {f : D → D → Sto → Res D} {σ : L2.St} {H : Hp} {Q : VK} (h : tM X.K X.mg W (mBin f ma mb) σ H Q) :
    tM X.K X.mg W ma σ H fun x H1 => tM X.K X.mg W mb σ H1 fun y H2 => ∃ g ρ st dx dy, Rl X.K g σ H2 ρ st ∧ Rd X.K g dx x ∧ Rd X.K g dy y ∧ FinG X.K X.mg W (pD X.K) g σ ρ (f dx dy st) Q := by
  obtain ⟨g, ρ, st, R, k⟩ := h
  exact ⟨g, ρ, st, R, (FinG.bind k).imp fun x H1 ⟨g1, st1, d1, e1, R1, r1, k1⟩ => ⟨g1, ρ, st1, R1, (FinG.bind k1).imp fun y H2 ⟨g2, st2, d2, e2, R2, r2, k2⟩ => ⟨g2, ρ, st2, d1, d2, R2, r1.mono e2, r2, k2⟩⟩⟩
/-- an operation on values, by trees -/
def OpD (X : Cx) (W : WX) (F : Value → Value → Sem Value) (f : D → D → Sto → Res D) : Prop :=
  ∀ (pins : List (Addr × Obj)) (s : Shared) (σ : L2.St) (H : Hp) (g : G) (ρ : Ro) (st : Sto) (x y : V) (v u : Value) (dx dy : D) (Q : VK), Inv X pins σ H s → Rl X.K g σ H ρ st → RelV x v → RelV y u → Rd X.K g dx x → Rd X.K g dy y →
    FinG X.K X.mg W (pD X.K) g σ ρ (f dx dy st) Q → wpAny (model X.prog X.w) X.A (F v u) (EP X pins σ Q) X.xe s
theorem de_bin {op : Operator} {f : D → D → Sto → Res D} (ho : OpD X W (binaryOp op) f) (ha : DE X W a ma) (hb : DE X W b mb) : DE X W (.BinOp a op b pos) (mBin f ma mb) :=
  ⟨fun pins s σ H Q I h => wpAny_BinOp (binT ha hb I (bin_run ha hb h) fun v u s2 x y H2 I2 rx ry ⟨g, ρ, st, dx, dy, R, r1, r2, k⟩ => ho pins s2 σ H2 g ρ st x y v u dx dy Q I2 R rx ry r1 r2 k)⟩
theorem de_cmp {op : CmpOp} {f : D → D → Sto → Res D} (ho : OpD X W (compareOp op) f) (ha : DE X W a ma) (hb : DE X W b mb) (hm : behindInMarks op b = false) : DE X W (.Compare a [op] [b] pos) (mBin f ma mb) :=
  ⟨fun pins s σ H Q I h => wpAny_Compare1 (binT ha hb I (bin_run ha hb h) fun v u s2 x y H2 I2 rx ry ⟨g, ρ, st, dx, dy, R, r1, r2, k⟩ => ho pins s2 σ H2 g ρ st x y v u dx dy Q I2 R rx ry r1 r2 k) hm⟩

/-! ### arguments -/
theorem da_nil : DA X W [] mNil := pa_weak pa_nil fun σ H Q ⟨g, ρ, st, R, k⟩ => FinG.now k R .nil
theorem da_cons (ha : DE X W e ma) (hr : DA X W es ms) (hs : starEach (e :: es) X.env = (false, eval e X.env) :: starEach es X.env) : DA X W (e :: es) (mCons ma ms) :=
  pa_weak (pa_cons ha hr hs) fun σ H Q ⟨g, ρ, st, R, k⟩ =>
    ⟨g, ρ, st, R, (FinG.bind k).imp fun x H1 ⟨g1, st1, d1, e1, R1, r1, k1⟩ => ⟨g1, ρ, st1, R1, (FinG.bind k1).imp fun y H2 ⟨g2, st2, d2, e2, R2, r2, k2⟩ => FinG.now k2 R2 (.cons (r1.mono e2) r2)⟩⟩
/-- what is made of arguments, by values -/
theorem on_run {f : List D → Sto → Res D} {σ : L2.St} {H : Hp} {Q : VK} (h : tM X.K X.mg W (mOn f ms) σ H Q) :
    tMs X.K X.mg W ms σ H fun xs H1 => ∃ g ρ st ds, Rl X.K g σ H1 ρ st ∧ RdL X.K g ds xs ∧ FinG X.K X.mg W (pD X.K) g σ ρ (f ds st) Q := by
  obtain ⟨g, ρ, st, R, k⟩ := h
  exact ⟨g, ρ, st, R, (FinG.bind k).imp fun x H1 ⟨g1, st1, d1, e1, R1, r1, k1⟩ => ⟨g1, ρ, st1, d1, R1, r1, k1⟩⟩
/-- a display: as a tree, as a cell -/
def fTup (ds : List D) (st : Sto) : Res D := if ds.length ≤ 100000 then .ok (.tup ds) st else .stuck
/-- a new list: a tree, or (c) a cell -/
def mk (c : Bool) (ds : List D) (st : Sto) : Res D := if ds.length ≤ 100000 then (if c then .ok (.cell st.length) (st ++ [.lst ds]) else .ok (.lst ds) st) else .stuck
theorem sz {n : Nat} (h : n ≤ 100000) : n ≤ sizeLine := Nat.le_trans h (by decide)
theorem szl {n : Nat} (h : n ≤ 100000) : n < sizeLine := Nat.lt_of_le_of_lt h (by decide)
section
variable {g : G} {σ : L2.St} {H : Hp} {ρ : Ro} {st : Sto} {Q : VK} {xs : List V} {ds : List D} {p : Addr}
theorem new_lst (R : Rl X.K g σ H ρ st) (r : RdL X.K g ds xs) (k : FinG X.K X.mg W (pD X.K) g σ ρ (.ok (.lst ds) st) Q) (hp : H p = none) : Q (.ref p) (upd H p (.lst xs)) :=
  k (g.put p (.lst xs)) _ _ (R.put_ext hp) (R.put hp) (.lst G.put_at (r.mono (R.put_ext hp)))
theorem new_tup (R : Rl X.K g σ H ρ st) (r : RdL X.K g ds xs) (k : FinG X.K X.mg W (pD X.K) g σ ρ (.ok (.tup ds) st) Q) (hp : H p = none) : Q (.ref p) (upd H p (.tup xs)) :=
  k (g.put p (.tup xs)) _ _ (R.put_ext hp) (R.put hp) (.tup (.inl G.put_at) (r.mono (R.put_ext hp)))
theorem more_at (R : Rl X.K g σ H ρ st) (p : Addr) : (g.more p).ph[st.length]? = some p := by
  show (g.ph ++ [p])[st.length]? = some p
  rw [← R.len]
  simp
theorem new_lstC (R : Rl X.K g σ H ρ st) (r : RdL X.K g ds xs) (k : FinG X.K X.mg W (pD X.K) g σ ρ (.ok (.cell st.length) (st ++ [.lst ds])) Q) (hp : H p = none) : Q (.ref p) (upd H p (.lst xs)) :=
  k (g.more p) _ _ (g.more_ext p) (R.more hp ⟨R.fresh hp, xs, upd_same, r⟩) (.cell (more_at R p))
theorem new_mk {c : Bool} (R : Rl X.K g σ H ρ st) (r : RdL X.K g ds xs) (k : FinG X.K X.mg W (pD X.K) g σ ρ (mk c ds st) Q) : xs.length ≤ sizeLine ∧ ∀ p, H p = none → Q (.ref p) (upd H p (.lst xs)) := by
  unfold mk at k
  by_cases hl : ds.length ≤ 100000
  · rw [if_pos hl] at k
    refine ⟨by rw [← r.length]; exact sz hl, fun p hp => ?_⟩
    cases c with
    | true =>
      exact new_lstC R r k hp
    | false => exact new_lst R r k hp
  · rw [if_neg hl] at k
    exact k.elim
end
theorem de_tup {k : Nat} (h : DA X W es ms) : DE X W (.Tuple es k pos) (mOn fTup ms) := pe_weak (pe_tup h) fun σ H Q q => by
  obtain ⟨g, ρ, st, R, k⟩ := on_run q
  refine ⟨g, ρ, st, R, k.imp fun xs H1 ⟨g1, ρ1, st1, ds, R1, r1, k1⟩ => ?_⟩
  unfold fTup at k1
  by_cases hl : ds.length ≤ 100000
  · rw [if_pos hl] at k1
    exact ⟨by rw [← r1.length]; exact sz hl, fun p hp => new_tup R1 r1 k1 hp⟩
  · rw [if_neg hl] at k1
    exact k1.elim
theorem de_lst (c : Bool) (h : DA X W es ms) : DE X W (.List es pos) (mOn (mk c) ms) := pe_weak (pe_lst h) fun σ H Q q => by
  obtain ⟨g, ρ, st, R, k⟩ := on_run q
  exact ⟨g, ρ, st, R, k.imp fun xs H1 ⟨g1, ρ1, st1, ds, R1, r1, k1⟩ => new_mk R1 r1 k1⟩

/-! ### truth -/
def truD : D → Option Bool
  | .non => some false
  | .bl b => some b
  | .int i => some (i != 0)
  | .str y => if y.length ≤ 100000 then some (y.length != 0) else none
  | .lst xs => some (!xs.isEmpty)
  | .tup xs => some (!xs.isEmpty)
  | .dic _ => none
  | .cell _ => none
  | .scr ns => some (!ns.isEmpty)
  | .ty _ => none
  | .code _ => none
  | .ob .. => none
def truth (d : D) (st : Sto) : Option Bool := match d with
  | .cell i => match st[i]? with
    | some (.lst ds) => some (!ds.isEmpty)
    | some (.dic kvs) => some (!kvs.isEmpty)
    | _ => none
  | d => truD d
theorem empty_of {K : PySem.W.Frag} {g : G} {ds : List D} {xs : List V} (r : RdL K g ds xs) : ds.isEmpty = xs.isEmpty := by
  cases r <;> rfl
theorem empty_len {α β : Type} {l : List α} {k : List β} (h : l.length = k.length) : l.isEmpty = k.isEmpty := by
  cases l <;> cases k <;> simp_all
theorem nat_ne0 (n : Nat) : (n != 0) = ((n : Int) != 0) := by
  cases n with
  | zero => rfl
  | succ n => simp [bne, BEq.beq]; omega
theorem tru_of {K : PySem.W.Frag} {g : G} {σ : L2.St} {H : Hp} {ρ : Ro} {st : Sto} {d : D} {x : V} {k : Bool} (R : Rl K g σ H ρ st) (r : Rd K g d x) (h : truth d st = some k) : TruV K x H k := by
  cases r with
  | non => exact (Option.some.inj h).symm
  | bl b => exact (Option.some.inj h).symm
  | int i => exact (Option.some.inj h).symm
  | ty n => cases h
  | code h1 => cases h
  | ob h1 h2 h3 h4 h5 => cases h
  | str s =>
    have h' : (if s.length ≤ 100000 then some (s.length != 0) else none) = some k := h
    by_cases hl : s.length ≤ 100000
    · rw [if_pos hl] at h'
      exact ⟨sz hl, by rw [← Option.some.inj h', nat_ne0]⟩
    · rw [if_neg hl] at h'
      cases h'
  | @scr a ns h1 =>
    refine .inl ⟨_, seqL_im R.im h1, ?_⟩
    rw [← Option.some.inj h, empty_len (l := ns) (k := ns.map V.int) (by simp)]
  | lst h1 h2 => exact .inl ⟨_, .inl (.inl (R.im _ _ h1)), by rw [← empty_of h2]; exact (Option.some.inj h).symm⟩
  | tup h1 h2 => exact .inr (.inl ⟨_, stu_sq R.im h1, by rw [← empty_of h2]; exact (Option.some.inj h).symm⟩)
  | dic => cases h
  | @cell i a h1 =>
    have h' : (match st[i]? with
      | some (.lst ds) => some (!ds.isEmpty)
      | some (.dic kvs) => some (!kvs.isEmpty)
      | _ => none) = some k := h
    cases e : st[i]? with
    | none => rw [e] at h'; cases h'
    | some cl =>
      have q := R.cell i _ cl h1 e
      rw [e] at h'
      cases cl with
      | lst ds =>
        obtain ⟨_, xs, e1, r1⟩ := q
        exact .inl ⟨xs, .inl (.inl e1), by rw [← Option.some.inj h', empty_of r1]⟩
      | dic kvs =>
        obtain ⟨_, kx, e1, e2, r1⟩ := q
        refine .inr (.inr ⟨kx, e1, ?_⟩)
        rw [← Option.some.inj h']
        have e : kvs.length = kx.length := by simpa using congrArg List.length e2
        rw [empty_len e]
      | gone => cases h'
      | lck => cases h'
      | obj => cases h'
def mTru (m : ME) : MT := fun ρ st => (m ρ st).bind fun d st => match truth d st with
  | some k => .ok k st
  | none => .stuck
theorem dt_truth (ha : DE X W a m) (he : ∀ whole, isTrue a X.env whole = (do let v ← whole; standAt a.pos; holding [v] (truthy v))) : DT X W a (mTru m) :=
  pt_weak (pt_truth ha he) fun σ H Q ⟨g, ρ, st, R, k⟩ => ⟨g, ρ, st, R, (FinG.bind k).imp fun x H1 ⟨g1, st1, d, e1, R1, r1, k1⟩ => by
    cases h : truth d st1 with
    | none => rw [h] at k1; exact k1.elim
    | some b =>
      rw [h] at k1
      exact ⟨b, tru_of R1 r1 h, FinG.now k1 R1 rfl⟩⟩
/-- a comparison as a test -/
theorem dt_cmp {op : CmpOp} {f : D → D → Sto → Res D} (ho : OpD X W (compareOp op) f) (ha : DE X W a ma) (hb : DE X W b mb) (hm : behindInMarks op b = false) : DT X W (.Compare a [op] [b] pos) (mTru (mBin f ma mb)) := by
  refine ⟨fun pins s σ H Q I h => ?_⟩
  obtain ⟨g, ρ, st, R, k⟩ := h
  have k' : tM X.K X.mg W (mBin f ma mb) σ H fun x H' => ∃ b, TruV X.K x H' b ∧ Q b H' := ⟨g, ρ, st, R, (FinG.bind k).imp fun x H1 ⟨g1, st1, d, e1, R1, r1, k1⟩ => by
    cases h : truth d st1 with
    | none => rw [h] at k1; exact k1.elim
    | some b =>
      rw [h] at k1
      exact ⟨b, tru_of R1 r1 h, FinG.now k1 R1 rfl⟩⟩
  obtain ⟨g, ρ, st, R, k'⟩ := bin_run ha hb k'
  refine wpAny_isTrue_Compare1 (thn (ha.run pins s σ H _ I ⟨g, ρ, st, R, k'⟩) fun v s1 ⟨x, H1, I1, r1, q1⟩ => thn (hb.run pins s1 σ H1 _ I1 q1) fun u s2 ⟨y, H2, I2, r2, q2⟩ => ?_) hm
  obtain ⟨g2, ρ2, st2, dx, dy, R2, rx, ry, k2⟩ := q2
  exact thn (ho pins s2 σ H2 g2 ρ2 st2 x y v u dx dy _ I2 R2 r1 r2 rx ry k2) fun c s3 ⟨z, H3, I3, r3, b, t3, q3⟩ => tru_ok pins s3 σ H3 z c Q I3 r3 ⟨b, t3, q3⟩
/-! ### and, or, not -/
def tAndM (a b : MT) : MT := fun ρ st => (a ρ st).bind fun x st => if x then b ρ st else .ok false st
def tOrM (a b : MT) : MT := fun ρ st => (a ρ st).bind fun x st => if x then .ok true st else b ρ st
def tNotM (a : MT) : MT := fun ρ st => (a ρ st).bind fun x st => .ok (!x) st
def mNotM (a : ME) : ME := fun ρ st => (a ρ st).bind fun x st => match truth x st with
  | some k => .ok (.bl (!k)) st
  | none => .stuck
def mAndM (a : ME) (b : ME) : ME := fun ρ st => (a ρ st).bind fun x st => match truth x st with
  | some true => b ρ st
  | some false => .ok x st
  | none => .stuck
def mOrM (a : ME) (b : ME) : ME := fun ρ st => (a ρ st).bind fun x st => match truth x st with
  | some true => .ok x st
  | some false => b ρ st
  | none => .stuck
def mIfM (t : MT) (a b : ME) : ME := fun ρ st => (t ρ st).bind fun x st => if x then a ρ st else b ρ st
abbrev DW (X : Cx) (W : WX) (e : Expr) (m : MT) : Prop := PW X e (tMT X.K X.mg W m)
theorem pw_weak {X : Cx} {e : Expr} {t t' : TT} (h : PW X e t) (k : ∀ σ H Q, t' σ H Q → t σ H Q) : PW X e t' := ⟨fun wh pins s σ H Q I q => h.run wh pins s σ H Q I (k σ H Q q)⟩
variable {ta tb : MT} {rest : List Expr}
theorem dw_and1 (h : DT X W a ta) : DW X W (.BoolOp .And [a] pos) ta := pw_and1 h
theorem dw_or1 (h : DT X W a ta) : DW X W (.BoolOp .Or [a] pos) ta := pw_or1 h
theorem dw_and (h : DT X W a ta) (k : DW X W (.BoolOp .And (b :: rest) pos) tb) : DW X W (.BoolOp .And (a :: b :: rest) pos) (tAndM ta tb) :=
  pw_weak (pw_and h k) fun σ H Q ⟨g, ρ, st, R, k⟩ => ⟨g, ρ, st, R, (FinG.bind k).imp fun x H1 ⟨g1, st1, d, e1, R1, r1, k1⟩ => by
    obtain rfl : x = d := r1
    cases x with
    | true => exact iteT ⟨g1, ρ, st1, R1, k1⟩
    | false => exact iteF (FinG.now k1 R1 rfl)⟩
theorem dw_or (h : DT X W a ta) (k : DW X W (.BoolOp .Or (b :: rest) pos) tb) : DW X W (.BoolOp .Or (a :: b :: rest) pos) (tOrM ta tb) :=
  pw_weak (pw_or h k) fun σ H Q ⟨g, ρ, st, R, k⟩ => ⟨g, ρ, st, R, (FinG.bind k).imp fun x H1 ⟨g1, st1, d, e1, R1, r1, k1⟩ => by
    obtain rfl : x = d := r1
    cases x with
    | true => exact iteT (FinG.now k1 R1 rfl)
    | false => exact iteF ⟨g1, ρ, st1, R1, k1⟩⟩
theorem dt_not (h : DT X W a ta) : DT X W (.UnaryOp .Not a pos) (tNotM ta) :=
  pt_weak (pt_not h) fun σ H Q ⟨g, ρ, st, R, k⟩ => ⟨g, ρ, st, R, (FinG.bind k).imp fun x H1 ⟨g1, st1, d, e1, R1, r1, k1⟩ => by
    cases r1
    exact FinG.now k1 R1 rfl⟩
theorem de_if (h : DT X W c ta) (ha : DE X W a ma) (hb : DE X W b mb) : DE X W (.IfExp c a b pos) (mIfM ta ma mb) :=
  pe_weak (pe_ifExp h ha hb) fun σ H Q ⟨g, ρ, st, R, k⟩ => ⟨g, ρ, st, R, (FinG.bind k).imp fun x H1 ⟨g1, st1, d, e1, R1, r1, k1⟩ => by
    obtain rfl : x = d := r1
    cases x with
    | true => exact iteT ⟨g1, ρ, st1, R1, k1⟩
    | false => exact iteF ⟨g1, ρ, st1, R1, k1⟩⟩
theorem de_not (ha : DE X W a ma) : DE X W (.UnaryOp .Not a pos) (mNotM ma) :=
  pe_weak (pe_notT ha) fun σ H Q ⟨g, ρ, st, R, k⟩ => ⟨g, ρ, st, R, (FinG.bind k).imp fun x H1 ⟨g1, st1, d, e1, R1, r1, k1⟩ => by
    cases h : truth d st1 with
    | none => rw [h] at k1; exact k1.elim
    | some b =>
      rw [h] at k1
      exact ⟨b, tru_of R1 r1 h, FinG.now k1 R1 (.bl _)⟩⟩
theorem de_one {op} (h : DE X W a ma) : DE X W (.BoolOp op [a] pos) ma := pe_one h
theorem de_and (ha : DE X W a ma) (hb : DE X W (.BoolOp .And (b :: rest) pos) mb) : DE X W (.BoolOp .And (a :: b :: rest) pos) (mAndM ma mb) :=
  pe_weak (pe_andT ha hb) fun σ H Q ⟨g, ρ, st, R, k⟩ => ⟨g, ρ, st, R, (FinG.bind k).imp fun x H1 ⟨g1, st1, d, e1, R1, r1, k1⟩ => by
    cases h : truth d st1 with
    | none => rw [h] at k1; exact k1.elim
    | some b =>
      rw [h] at k1
      refine ⟨b, tru_of R1 r1 h, ?_⟩
      cases b with
      | true => exact iteT ⟨g1, ρ, st1, R1, k1⟩
      | false => exact iteF (FinG.now k1 R1 r1)⟩
theorem de_or (ha : DE X W a ma) (hb : DE X W (.BoolOp .Or (b :: rest) pos) mb) : DE X W (.BoolOp .Or (a :: b :: rest) pos) (mOrM ma mb) :=
  pe_weak (pe_orT ha hb) fun σ H Q ⟨g, ρ, st, R, k⟩ => ⟨g, ρ, st, R, (FinG.bind k).imp fun x H1 ⟨g1, st1, d, e1, R1, r1, k1⟩ => by
    cases h : truth d st1 with
    | none => rw [h] at k1; exact k1.elim
    | some b =>
      rw [h] at k1
      refine ⟨b, tru_of R1 r1 h, ?_⟩
      cases b with
      | true => exact iteT (FinG.now k1 R1 r1)
      | false => exact iteF ⟨g1, ρ, st1, R1, k1⟩⟩
end
end P3

/-! P3C: operators, comparisons, subscripts, slices, by trees. -/
namespace P3
open PySem PySem.Spec PyProof.Rows L2

/-- what stands at the top of a thing -/
def view (d : D) (st : Sto) : D := match d with
  | .cell i => match st[i]? with
    | some (.lst ds) => .lst ds
    | some (.dic kvs) => .dic kvs
    | _ => .cell i
  | d => d
@[simp] theorem view_non {st : Sto} : view .non st = .non := rfl
@[simp] theorem view_bl {st : Sto} {b : Bool} : view (.bl b) st = .bl b := rfl
@[simp] theorem view_int {st : Sto} {b : Int} : view (.int b) st = .int b := rfl
@[simp] theorem view_str {st : Sto} {b : Str} : view (.str b) st = .str b := rfl
@[simp] theorem view_lst {st : Sto} {b : List D} : view (.lst b) st = .lst b := rfl
@[simp] theorem view_tup {st : Sto} {b : List D} : view (.tup b) st = .tup b := rfl
@[simp] theorem view_dic {st : Sto} {b : List (Key × D)} : view (.dic b) st = .dic b := rfl
@[simp] theorem view_ty {st : Sto} {b : String} : view (.ty b) st = .ty b := rfl
@[simp] theorem view_scr {st : Sto} {b : List Int} : view (.scr b) st = .scr b := rfl
section
variable {K : PySem.W.Frag} {g : G} {σ : L2.St} {H : Hp} {ρ : Ro} {st : Sto} {d : D} {v : V}
theorem cell_of {i : Nat} {e : D} (h : view (.cell i) st = e) : (∃ ds, st[i]? = some (.lst ds) ∧ e = .lst ds) ∨ (∃ kvs, st[i]? = some (.dic kvs) ∧ e = .dic kvs) ∨ e = .cell i := by
  have h : (match st[i]? with
    | some (.lst ds) => D.lst ds
    | some (.dic kvs) => D.dic kvs
    | _ => .cell i) = e := h
  cases q : st[i]? with
  | none => rw [q] at h; exact .inr (.inr h.symm)
  | some c =>
    rw [q] at h
    cases c with
    | lst ds => exact .inl ⟨ds, rfl, h.symm⟩
    | dic kvs => exact .inr (.inl ⟨kvs, rfl, h.symm⟩)
    | gone => exact .inr (.inr h.symm)
    | lck => exact .inr (.inr h.symm)
    | obj => exact .inr (.inr h.symm)
theorem at_lst {ds : List D} (R : Rl K g σ H ρ st) (r : Rd K g d v) (h : view d st = .lst ds) : ∃ a xs, v = .ref a ∧ H a = some (.lst xs) ∧ RdL K g ds xs := by
  cases r with
  | lst h1 h2 =>
    obtain rfl := D.lst.inj h
    exact ⟨_, _, rfl, R.im _ _ h1, h2⟩
  | @cell i a h1 =>
    rcases cell_of h with ⟨ds', e, q⟩ | ⟨_, _, q⟩ | q
    · obtain rfl := D.lst.inj q
      obtain ⟨_, xs, e1, r1⟩ := R.cell i a _ h1 e
      exact ⟨a, xs, rfl, e1, r1⟩
    · cases q
    · cases q
  | _ => cases h
theorem at_dic {kvs : List (Key × D)} (R : Rl K g σ H ρ st) (r : Rd K g d v) (h : view d st = .dic kvs) : ∃ a kx, v = .ref a ∧ L2.Rd H a (.dK kx) ∧ kvs.map (·.1) = kx.map (·.1) ∧ RdL K g (kvs.map (·.2)) (kx.map (·.2)) := by
  cases r with
  | dic h1 h2 h3 h4 h5 =>
    obtain rfl := D.dic.inj h
    subst h3 h4
    exact ⟨_, _, rfl, rdIm R.im h1, h2, h5⟩
  | @cell i a h1 =>
    rcases cell_of h with ⟨_, _, q⟩ | ⟨ds', e, q⟩ | q
    · cases q
    · obtain rfl := D.dic.inj q
      obtain ⟨_, xs, e1, e2, r1⟩ := R.cell i a _ h1 e
      exact ⟨a, xs, rfl, .inl e1, e2, r1⟩
    · cases q
  | _ => cases h
theorem is_tup {ds : List D} (h : view d st = .tup ds) : d = .tup ds := by
  cases d with
  | cell i => rcases cell_of h with ⟨_, _, q⟩ | ⟨_, _, q⟩ | q <;> cases q
  | _ => exact h
theorem at_tup {ds : List D} (r : Rd K g d v) (h : view d st = .tup ds) : ∃ a xs, v = .ref a ∧ STu K g.im a xs ∧ RdL K g ds xs := by
  obtain rfl := is_tup h
  cases r with
  | tup h1 h2 => exact ⟨_, _, rfl, h1, h2⟩
theorem is_int {i : Int} (h : view d st = .int i) : d = .int i := by
  cases d with
  | cell i => rcases cell_of h with ⟨_, _, q⟩ | ⟨_, _, q⟩ | q <;> cases q
  | _ => exact h
theorem at_int {i : Int} (r : Rd K g d v) (h : view d st = .int i) : v = .int i := by
  obtain rfl := is_int h
  cases r
  rfl
theorem is_str {i : Str} (h : view d st = .str i) : d = .str i := by
  cases d with
  | cell i => rcases cell_of h with ⟨_, _, q⟩ | ⟨_, _, q⟩ | q <;> cases q
  | _ => exact h
theorem at_str {i : Str} (r : Rd K g d v) (h : view d st = .str i) : v = .str i := by
  obtain rfl := is_str h
  cases r
  rfl
theorem at_scr {ns : List Int} (r : Rd K g d v) (h : view d st = .scr ns) : ∃ a, v = .ref a ∧ SqL K g.im a (ns.map V.int) := by
  have e : d = .scr ns := by
    cases d with
    | cell i => rcases cell_of h with ⟨_, _, q⟩ | ⟨_, _, q⟩ | q <;> cases q
    | _ => exact h
  subst e
  cases r with
  | scr h1 => exact ⟨_, rfl, h1⟩
end

/-! ### operators -/
def fAdd (c : Bool) (x y : D) (st : Sto) : Res D := match view x st, view y st with
  | .int a, .int b => .ok (.int (a + b)) st
  | .str a, .str b => if a.length + b.length ≤ 100000 then .ok (.str (a ++ b)) st else .stuck
  | .lst a, .lst b => mk c (a ++ b) st
  | .tup a, .tup b => if a.length + b.length ≤ 100000 then .ok (.tup (a ++ b)) st else .stuck
  | _, _ => .stuck
def fSub (x y : D) (st : Sto) : Res D := match x, y with
  | .int a, .int b => .ok (.int (a - b)) st
  | _, _ => .stuck
def repS (z : Str) (n : Nat) : Str := ⟨(List.replicate n z.cps.toList).flatten.toArray⟩
theorem fold_app (a : Array Nat) : ∀ (l : List (Array Nat)) (acc : Array Nat), (l.foldl (· ++ ·) acc).toList = acc.toList ++ (l.map Array.toList).flatten
  | [], acc => by simp
  | x :: l, acc => by
    rw [List.foldl_cons, fold_app a l, Array.toList_append, List.map_cons, List.flatten_cons, List.append_assoc]
theorem rep_fold (z : Str) (n : Nat) : (⟨(List.replicate n z.cps).foldl (· ++ ·) #[]⟩ : Str) = repS z n := by
  unfold repS
  congr 1
  apply Array.toList_inj.mp
  rw [fold_app #[], List.map_replicate]
  simp
theorem rep_one (z : Str) : repS z 1 = z := by
  unfold repS
  simp
theorem rep_nil {z : Str} (h : z.length = 0) (n : Nat) : repS z n = z := by
  obtain ⟨c⟩ := z
  have h : c.size = 0 := h
  have e : c = #[] := Array.eq_empty_of_size_eq_zero h
  subst e
  unfold repS
  simp
def fMul (c : Bool) (x y : D) (st : Sto) : Res D := match view x st, y with
  | .int a, .int b => if (-(2 ^ 64) < a ∧ a < 2 ^ 64) ∨ (-(2 ^ 64) < b ∧ b < 2 ^ 64) then .ok (.int (a * b)) st else .stuck
  | .lst a, .int k => if -(2 ^ 63) ≤ k ∧ k < 2 ^ 63 ∧ a.length * k.toNat ≤ 100000 then mk c (List.replicate k.toNat a).flatten st else .stuck
  | .str a, .int k => if 0 ≤ k ∧ k ≤ 100000 ∧ a.length * k.toNat ≤ 100000 then .ok (.str (repS a k.toNat)) st else .stuck
  | _, _ => .stuck
def fFdiv (x y : D) (st : Sto) : Res D := match x, y with
  | .int a, .int b => if 0 < b ∧ b < 1073741824 then .ok (.int (a / b)) st else .stuck
  | _, _ => .stuck
def fMod (x y : D) (st : Sto) : Res D := match x, y with
  | .int a, .int b => if 0 < b then .ok (.int (a % b)) st else .stuck
  | _, _ => .stuck
def fPow (x y : D) (st : Sto) : Res D := match x, y with
  | .int a, .int b => if 0 ≤ b ∧ b ≤ 1000000 ∧ a.natAbs < 2 ^ 64 then .ok (.int (a ^ b.toNat)) st else .stuck
  | _, _ => .stuck
def fNeg (x : D) (st : Sto) : Res D := match x with
  | .int a => .ok (.int (-a)) st
  | _ => .stuck
section
variable {X : Cx} {W : WX}
theorem od_add (c : Bool) : OpD X W (binaryOp .Add) (fAdd c) := by
  intro pins s σ H g ρ st x y v u dx dy Q I R rx ry r1 r2 k
  unfold fAdd at k
  split at k
  · rename_i a b h1 h2
    obtain rfl := at_int r1 h1
    obtain rfl := at_int r2 h2
    exact op_add pins s σ H _ _ v u Q I rx ry ⟨a, b, rfl, rfl, FinG.now k R (.int _)⟩
  · rename_i a b h1 h2
    obtain rfl := at_str r1 h1
    obtain rfl := at_str r2 h2
    by_cases hl : a.length + b.length ≤ 100000
    · rw [if_pos hl] at k
      exact op_add_str pins s σ H _ _ v u Q I rx ry ⟨a, b, rfl, rfl, sz hl, FinG.now k R (.str _)⟩
    · rw [if_neg hl] at k
      exact k.elim
  · rename_i a b h1 h2
    obtain ⟨p, xs, rfl, e1, q1⟩ := at_lst R r1 h1
    obtain ⟨q, ys, rfl, e2, q2⟩ := at_lst R r2 h2
    obtain ⟨k1, k2⟩ := new_mk R (q1.append q2) k
    exact op_cat pins s σ H _ _ v u Q I rx ry ⟨p, q, xs, ys, rfl, rfl, e1, e2, by rw [← List.length_append]; exact k1, k2⟩
  · rename_i a b h1 h2
    obtain ⟨p, xs, rfl, e1, q1⟩ := at_tup r1 h1
    obtain ⟨q, ys, rfl, e2, q2⟩ := at_tup r2 h2
    have p1 := r1
    have p2 := r2
    rw [is_tup h1] at p1
    rw [is_tup h2] at p2
    by_cases hl : a.length + b.length ≤ 100000
    · rw [if_pos hl] at k
      refine op_catA pins s σ H _ _ v u Q I rx ry ⟨p, q, xs, ys, rfl, rfl, stu_sq R.im e1, stu_sq R.im e2, by rw [← q1.length, ← q2.length]; exact sz hl, fun z => ?_, fun _ z => ?_, fun _ _ l hp => new_tup R (q1.append q2) k hp⟩
      · subst z
        cases q1
        exact FinG.now k R p2
      · subst z
        cases q2
        exact FinG.now k R (by rw [List.append_nil]; exact p1)
    · rw [if_neg hl] at k
      exact k.elim
  · exact k.elim
theorem od_sub : OpD X W (binaryOp .Sub) fSub := by
  intro pins s σ H g ρ st x y v u dx dy Q I R rx ry r1 r2 k
  unfold fSub at k
  split at k
  · rename_i a b
    cases r1
    cases r2
    exact op_sub pins s σ H _ _ v u Q I rx ry ⟨_, _, rfl, rfl, FinG.now k R (.int _)⟩
  · exact k.elim
theorem od_mul (c : Bool) : OpD X W (binaryOp .Mult) (fMul c) := by
  intro pins s σ H g ρ st x y v u dx dy Q I R rx ry r1 r2 k
  unfold fMul at k
  split at k
  · rename_i a b h1
    obtain rfl := at_int r1 h1
    cases r2
    by_cases hl : (-(2 ^ 64) < a ∧ a < 2 ^ 64) ∨ (-(2 ^ 64) < b ∧ b < 2 ^ 64)
    · rw [if_pos hl] at k
      exact op_mul pins s σ H _ _ v u Q I rx ry ⟨_, _, rfl, rfl, hl, FinG.now k R (.int _)⟩
    · rw [if_neg hl] at k
      exact k.elim
  · rename_i a b h1
    obtain ⟨p, xs, rfl, e1, q1⟩ := at_lst R r1 h1
    cases r2
    by_cases hl : -(2 ^ 63) ≤ b ∧ b < 2 ^ 63 ∧ a.length * b.toNat ≤ 100000
    · rw [if_pos hl] at k
      have fl : ∀ n, RdL X.K g (List.replicate n a).flatten (List.replicate n xs).flatten := fun n => by
        induction n with
        | zero => exact .nil
        | succ n ih =>
          rw [List.replicate_succ, List.replicate_succ, List.flatten_cons, List.flatten_cons]
          exact q1.append ih
      exact op_rep pins s σ H _ _ v u Q I rx ry ⟨p, b, xs, rfl, rfl, e1, hl.1, hl.2.1, by rw [← q1.length]; exact sz hl.2.2, (new_mk R (fl _) k).2⟩
    · rw [if_neg hl] at k
      exact k.elim
  · rename_i a b h1
    obtain rfl := at_str r1 h1
    cases r2
    by_cases hl : 0 ≤ b ∧ b ≤ 100000 ∧ a.length * b.toNat ≤ 100000
    · rw [if_pos hl] at k
      obtain ⟨l0, l1, l2⟩ := hl
      obtain ⟨t, rfl⟩ : ∃ t, v = Value.str a t := rx
      obtain ⟨t2, rfl⟩ : ∃ t, u = Value.int b t := ry
      have hnl : a.length * b.toNat ≤ sizeLine := sz l2
      refine PySem.P.mul_str ?_ (fun h1 h2 => ?_) (fun h1 h2 => ?_) ?_
      · rw [decide_eq_false (by omega), decide_eq_false (by omega)]; rfl
      · have hp : 0 < a.length := by
          rcases Nat.eq_zero_or_pos a.length with z | z
          · rw [z] at h2; simp at h2
          · exact z
        have hz : a.length ≤ 100000 := Nat.le_trans (Nat.le_mul_of_pos_right _ (by omega)) l2
        have hd : (100000 : Int) ≤ (2 ^ 63 - 1) / b := by
          rw [Int.le_ediv_iff_mul_le (by omega)]
          omega
        omega
      · show decide _ = false
        rw [decide_eq_false]
        omega
      · have fin : Q (.str (repS a b.toNat)) H := FinG.now k R (.str _)
        by_cases hb : b < 1
        · rw [if_pos hb]
          have e0 : b.toNat = 0 := by omega
          rw [e0] at fin
          have e1 : repS a 0 = Str.empty := by unfold repS; rfl
          rw [e1] at fin
          exact ⟨by decide, .str Str.empty, H, I.tok _, ⟨_, rfl⟩, fin⟩
        · rw [if_neg hb]
          by_cases h2 : (b == 1 || a.length == 0) = true
          · rw [if_pos h2]
            have e1 : repS a b.toNat = a := by
              rw [Bool.or_eq_true] at h2
              rcases h2 with h2 | h2
              · have : b = 1 := by simpa using h2
                rw [this]
                exact rep_one a
              · exact rep_nil (by simpa using h2) _
            rw [e1] at fin
            exact ⟨.str a, H, I, ⟨_, rfl⟩, fin⟩
          · rw [if_neg h2, rep_fold]
            refine ⟨?_, .str (repS a b.toNat), H, I.tok _, ⟨_, rfl⟩, fin⟩
            have e2 : (repS a b.toNat).length = b.toNat * a.length := by
              show (repS a b.toNat).cps.size = _
              unfold repS
              simp [Str.length]
            first
              | (rw [e2, Nat.mul_comm]; show decide _ = false; rw [decide_eq_false]; omega)
              | (rw [e2, Nat.mul_comm]; omega)
    · rw [if_neg hl] at k
      exact k.elim
  · exact k.elim
theorem od_fdiv : OpD X W (binaryOp .FloorDiv) fFdiv := by
  intro pins s σ H g ρ st x y v u dx dy Q I R rx ry r1 r2 k
  unfold fFdiv at k
  split at k
  · rename_i a b
    cases r1
    cases r2
    by_cases hl : 0 < b ∧ b < 1073741824
    · rw [if_pos hl] at k
      exact op_fdiv pins s σ H _ _ v u Q I rx ry ⟨_, _, rfl, rfl, hl, FinG.now k R (.int _)⟩
    · rw [if_neg hl] at k
      exact k.elim
  · exact k.elim
theorem od_mod : OpD X W (binaryOp .Mod) fMod := by
  intro pins s σ H g ρ st x y v u dx dy Q I R rx ry r1 r2 k
  unfold fMod at k
  split at k
  · rename_i a b
    cases r1
    cases r2
    by_cases hl : 0 < b
    · rw [if_pos hl] at k
      exact op_mod pins s σ H _ _ v u Q I rx ry ⟨_, _, rfl, rfl, hl, FinG.now k R (.int _)⟩
    · rw [if_neg hl] at k
      exact k.elim
  · exact k.elim
theorem od_pow : OpD X W (binaryOp .Pow) fPow := by
  intro pins s σ H g ρ st x y v u dx dy Q I R rx ry r1 r2 k
  unfold fPow at k
  split at k
  · rename_i a b
    cases r1
    cases r2
    by_cases hl : 0 ≤ b ∧ b ≤ 1000000 ∧ a.natAbs < 2 ^ 64
    · rw [if_pos hl] at k
      exact op_pow pins s σ H _ _ v u Q I rx ry ⟨_, _, rfl, rfl, hl, FinG.now k R (.int _)⟩
    · rw [if_neg hl] at k
      exact k.elim
  · exact k.elim
theorem de_neg {a : Expr} {ma : ME} {pos : Pos} (ha : DE X W a ma) : DE X W (.UnaryOp .USub a pos) (mUn fNeg ma) :=
  pe_weak (pe_un un_neg ha) fun σ H Q ⟨g, ρ, st, R, k⟩ => ⟨g, ρ, st, R, (FinG.bind k).imp fun x H1 ⟨g1, st1, d, e1, R1, r1, k1⟩ => by
    unfold fNeg at k1
    split at k1
    · cases r1
      exact ⟨_, rfl, FinG.now k1 R1 (.int _)⟩
    · exact k1.elim⟩
end

/-! ### comparisons -/
mutual
def pyD : D → Option PyData
  | .non => some .none
  | .bl b => some (.bool b)
  | .int i => some (.int i)
  | .str s => some (.str s)
  | .lst ds => match pyL ds with
    | some xs => some (.list xs)
    | none => none
  | .tup ds => match pyL ds with
    | some xs => some (.tuple xs)
    | none => none
  | .dic _ => none
  | .cell _ => none
  | .scr ns => some (.list (ns.map PyData.int))
  | .ty _ => none
  | .code _ => none
  | .ob .. => none
def pyL : List D → Option (List PyData)
  | [] => some []
  | d :: ds => match pyD d, pyL ds with
    | some x, some xs => some (x :: xs)
    | _, _ => none
end
mutual
theorem dp_of {K : PySem.W.Frag} {g : G} {H : Hp} (him : ∀ a o, g.im a = some o → H a = some o) : ∀ {d : D} {v : V} {p : PyData}, Rd K g d v → pyD d = some p → Dp K H v p
  | _, _, _, .non, h => by cases h; exact .non
  | _, _, _, .bl b, h => by cases h; exact .bl b
  | _, _, _, .int b, h => by cases h; exact .int b
  | _, _, _, .str b, h => by cases h; exact .str b
  | .lst ds, _, _, .lst h1 h2, h => by
    unfold pyD at h
    cases q : pyL ds with
    | none => rw [q] at h; cases h
    | some xs =>
      rw [q] at h
      cases h
      exact .lst (.inl (.inl (him _ _ h1))) (dp_all him h2 q)
  | .tup ds, _, _, .tup h1 h2, h => by
    unfold pyD at h
    cases q : pyL ds with
    | none => rw [q] at h; cases h
    | some xs =>
      rw [q] at h
      cases h
      exact .tup (stu_sq him h1) (dp_all him h2 q)
  | .dic _, _, _, .dic _ _ _ _ _, h => by simp [pyD] at h
  | .cell _, _, _, .cell _, h => by simp [pyD] at h
  | .ty _, _, _, .ty _, h => by simp [pyD] at h
  | .code _, _, _, .code _, h => by simp [pyD] at h
  | .ob .., _, _, .ob _ _ _ _ _, h => by simp [pyD] at h
  | .scr ns, _, _, .scr h1, h => by
    simp only [pyD, Option.some.injEq] at h
    subst h
    refine .lst (seqL_im him h1) ?_
    have all : ∀ l : List Int, DpAll K H (l.map V.int) (l.map PyData.int) := fun l => by
      induction l with
      | nil => exact .nil
      | cons a l ih => exact .cons (.int a) ih
    exact all ns
theorem dp_all {K : PySem.W.Frag} {g : G} {H : Hp} (him : ∀ a o, g.im a = some o → H a = some o) : ∀ {d : List D} {v : List V} {p : List PyData}, RdL K g d v → pyL d = some p → DpAll K H v p
  | _, _, _, .nil, h => by simp only [pyL, Option.some.injEq] at h; subst h; exact .nil
  | d :: ds, _, _, .cons h1 h2, h => by
    unfold pyL at h
    cases q1 : pyD d with
    | none => rw [q1] at h; cases h
    | some x =>
      cases q2 : pyL ds with
      | none => rw [q1, q2] at h; cases h
      | some xs =>
        rw [q1, q2] at h
        cases h
        exact .cons (dp_of him h1 q1) (dp_all him h2 q2)
end
theorem dp_view {K : PySem.W.Frag} {g : G} {σ : L2.St} {H : Hp} {ρ : Ro} {st : Sto} {d : D} {v : V} {p : PyData} (R : Rl K g σ H ρ st) (r : Rd K g d v) (h : pyD (view d st) = some p) : Dp K H v p := by
  cases d with
  | cell i =>
    rcases cell_of (e := view (.cell i) st) rfl with ⟨ds, e, q⟩ | ⟨kvs, e, q⟩ | q
    · obtain ⟨a, xs, rfl, e1, r1⟩ := at_lst R r q
      rw [q] at h
      unfold pyD at h
      cases q2 : pyL ds with
      | none => rw [q2] at h; cases h
      | some xs =>
        rw [q2] at h
        cases h
        exact .lst (.inl (.inl e1)) (dp_all R.im r1 q2)
    · rw [q] at h
      simp [pyD] at h
    · rw [q] at h
      simp [pyD] at h
  | _ => exact dp_of R.im r h
def fEq (x y : D) (st : Sto) : Res D := match pyD (view x st), pyD (view y st) with
  | some d, some e => if SeqAt.shaped d = true ∧ SeqAt.shaped e = true then .ok (.bl (PyData.eqv d e)) st else .stuck
  | _, _ => .stuck
def fNe0 (x y : D) (st : Sto) : Res D := match pyD (view x st), pyD (view y st) with
  | some d, some e => if SeqAt.shaped d = true ∧ SeqAt.shaped e = true then .ok (.bl (!PyData.eqv d e)) st else .stuck
  | _, _ => .stuck
def fLt (x y : D) (st : Sto) : Res D := match x, y with
  | .int a, .int b => .ok (.bl (decide (a < b))) st
  | .str a, .str b => .ok (.bl (decide (a.cps.toList < b.cps.toList))) st
  | _, _ => .stuck
def fLe (x y : D) (st : Sto) : Res D := match x, y with
  | .int a, .int b => .ok (.bl (decide (a ≤ b))) st
  | .str a, .str b => .ok (.bl (!decide (b.cps.toList < a.cps.toList))) st
  | _, _ => .stuck
def fGt (x y : D) (st : Sto) : Res D := match x, y with
  | .int a, .int b => .ok (.bl (decide (b < a))) st
  | .str a, .str b => .ok (.bl (decide (b.cps.toList < a.cps.toList))) st
  | _, _ => .stuck
def fGe (x y : D) (st : Sto) : Res D := match x, y with
  | .int a, .int b => .ok (.bl (decide (b ≤ a))) st
  | .str a, .str b => .ok (.bl (!decide (a.cps.toList < b.cps.toList))) st
  | _, _ => .stuck
def inStr (i j : Str) : Bool := !(Builtin.Str.occurrences j i 0 j.length 1).isEmpty
def flatOf : D → Option V
  | .non => some .non
  | .bl b => some (.bl b)
  | .int b => some (.int b)
  | .str b => some (.str b)
  | _ => none
def flatsOf : List D → Option (List V)
  | [] => some []
  | d :: ds => match flatOf d, flatsOf ds with
    | some x, some xs => some (x :: xs)
    | _, _ => none
theorem flat_of {K : PySem.W.Frag} {g : G} {d : D} {v x : V} (r : Rd K g d v) (h : flatOf d = some x) : v = x ∧ flatV x = true := by
  cases r <;> simp only [flatOf, Option.some.injEq, reduceCtorEq] at h <;> subst h <;> exact ⟨rfl, rfl⟩
theorem flats_of {K : PySem.W.Frag} {g : G} : ∀ {d : List D} {v x : List V}, RdL K g d v → flatsOf d = some x → v = x ∧ x.all flatV = true
  | _, _, _, .nil, h => by simp only [flatsOf, Option.some.injEq] at h; subst h; exact ⟨rfl, rfl⟩
  | d :: ds, _, _, .cons r t, h => by
    unfold flatsOf at h
    cases q1 : flatOf d with
    | none => rw [q1] at h; cases h
    | some x =>
      cases q2 : flatsOf ds with
      | none => rw [q1, q2] at h; cases h
      | some xs =>
        rw [q1, q2] at h
        cases h
        obtain ⟨rfl, e1⟩ := flat_of r q1
        obtain ⟨rfl, e2⟩ := flats_of t q2
        exact ⟨rfl, by rw [List.all_cons, e1, e2]; rfl⟩
/-! ### dicts by keys -/
def keyD : D → Option Key
  | .int i => some (.inl i)
  | .str z => some (.inr z)
  | _ => none
def valD (kvs : List (Key × D)) (k : Key) : Option D := (kvs.find? fun kv => decide (kv.1 = k)).map (·.2)
def putK2 (kvs : List (Key × D)) (k : Key) (d : D) : List (Key × D) :=
  if (kvs.any fun kv => decide (kv.1 = k)) = true then kvs.map (fun kv => if kv.1 = k then (kv.1, d) else kv) else kvs ++ [(k, d)]
def dropD (kvs : List (Key × D)) (k : Key) : List (Key × D) := kvs.filter fun kv => decide (kv.1 ≠ k)
theorem key_rd {K : PySem.W.Frag} {g : G} {d : D} {v : V} {k : Key} (r : Rd K g d v) (h : keyD d = some k) : v = kV k := by
  cases r <;> simp only [keyD, Option.some.injEq, reduceCtorEq] at h <;> subst h <;> rfl
/-- both sides of a dict -/
def RdK (K : PySem.W.Frag) (g : G) (kvs : List (Key × D)) (kx : List (Key × V)) : Prop := kvs.map (·.1) = kx.map (·.1) ∧ RdL K g (kvs.map (·.2)) (kx.map (·.2))
theorem RdK.nil {K : PySem.W.Frag} {g : G} : RdK K g [] [] := ⟨rfl, .nil⟩
theorem RdK.cons {K : PySem.W.Frag} {g : G} {k : Key} {d : D} {v : V} {kvs : List (Key × D)} {kx : List (Key × V)} (r : Rd K g d v) (h : RdK K g kvs kx) : RdK K g ((k, d) :: kvs) ((k, v) :: kx) := ⟨by simp [h.1], .cons r h.2⟩
theorem RdK.elim {K : PySem.W.Frag} {g : G} {P : List (Key × D) → List (Key × V) → Prop} (h0 : P [] []) (h1 : ∀ k d v kvs kx, Rd K g d v → RdK K g kvs kx → P kvs kx → P ((k, d) :: kvs) ((k, v) :: kx)) : ∀ {kvs kx}, RdK K g kvs kx → P kvs kx
  | [], [], _ => h0
  | [], _ :: _, h => by have := h.1; simp at this
  | _ :: _, [], h => by have := h.1; simp at this
  | (k, d) :: kvs, (k', v) :: kx, h => by
    obtain ⟨e, r⟩ := h
    simp only [List.map_cons, List.cons.injEq] at e
    obtain ⟨rfl, e⟩ := e
    cases r with
    | cons r1 r2 => exact h1 k d v kvs kx r1 ⟨e, r2⟩ (RdK.elim h0 h1 ⟨e, r2⟩)
theorem RdK.val {K : PySem.W.Frag} {g : G} (k : Key) {kvs : List (Key × D)} {kx : List (Key × V)} (h : RdK K g kvs kx) : (valD kvs k = none ∧ valV kx k = none) ∨ ∃ d v, valD kvs k = some d ∧ valV kx k = some v ∧ Rd K g d v := by
  refine RdK.elim (P := fun kvs kx => (valD kvs k = none ∧ valV kx k = none) ∨ ∃ d v, valD kvs k = some d ∧ valV kx k = some v ∧ Rd K g d v) (.inl ⟨rfl, rfl⟩) (fun k' d v kvs kx r _ ih => ?_) h
  by_cases hk : k' = k
  · right
    exact ⟨d, v, by simp [valD, List.find?_cons, hk], by simp [valV, List.find?_cons, hk], r⟩
  · have e1 : valD ((k', d) :: kvs) k = valD kvs k := by simp [valD, List.find?_cons, hk]
    have e2 : valV ((k', v) :: kx) k = valV kx k := by simp [valV, List.find?_cons, hk]
    rw [e1, e2]
    exact ih
theorem RdK.any {K : PySem.W.Frag} {g : G} (k : Key) {kvs : List (Key × D)} {kx : List (Key × V)} (h : RdK K g kvs kx) : (kvs.any fun kv => decide (kv.1 = k)) = (kx.any fun kv => decide (kv.1 = k)) := by
  refine RdK.elim (P := fun kvs kx => (kvs.any fun kv => decide (kv.1 = k)) = (kx.any fun kv => decide (kv.1 = k))) rfl (fun k' d v kvs kx r _ ih => ?_) h
  simp only [List.any_cons, ih]
theorem RdK.set {K : PySem.W.Frag} {g : G} (k : Key) {d : D} {v : V} (r : Rd K g d v) {kvs : List (Key × D)} {kx : List (Key × V)} (h : RdK K g kvs kx) : RdK K g (kvs.map (fun kv => if kv.1 = k then (kv.1, d) else kv)) (kx.map (fun kv => if kv.1 = k then (kv.1, v) else kv)) := by
  refine RdK.elim (P := fun kvs kx => RdK K g (kvs.map (fun kv => if kv.1 = k then (kv.1, d) else kv)) (kx.map (fun kv => if kv.1 = k then (kv.1, v) else kv))) .nil (fun k' d' v' kvs kx r' _ ih => ?_) h
  by_cases hk : k' = k
  · simp only [List.map_cons, hk, if_true]
    exact .cons r ih
  · simp only [List.map_cons, hk, if_false]
    exact .cons r' ih
theorem RdK.snoc {K : PySem.W.Frag} {g : G} {k : Key} {d : D} {v : V} (r : Rd K g d v) {kvs : List (Key × D)} {kx : List (Key × V)} (h : RdK K g kvs kx) : RdK K g (kvs ++ [(k, d)]) (kx ++ [(k, v)]) := by
  refine RdK.elim (P := fun kvs kx => RdK K g (kvs ++ [(k, d)]) (kx ++ [(k, v)])) (.cons r .nil) (fun k' d' v' kvs kx r' _ ih => ?_) h
  exact .cons r' ih
theorem RdK.put {K : PySem.W.Frag} {g : G} {k : Key} {d : D} {v : V} (r : Rd K g d v) {kvs : List (Key × D)} {kx : List (Key × V)} (h : RdK K g kvs kx) : RdK K g (putK2 kvs k d) (putK kx k v) := by
  unfold putK2 putK
  rw [h.any k]
  split
  · exact h.set k r
  · exact h.snoc r
theorem RdK.drop {K : PySem.W.Frag} {g : G} (k : Key) {kvs : List (Key × D)} {kx : List (Key × V)} (h : RdK K g kvs kx) : RdK K g (dropD kvs k) (dropK kx k) := by
  refine RdK.elim (P := fun kvs kx => RdK K g (dropD kvs k) (dropK kx k)) .nil (fun k' d' v' kvs kx r' _ ih => ?_) h
  unfold dropD dropK at ih ⊢
  by_cases hk : k' = k
  · simp only [List.filter_cons, hk, ne_eq, not_true, decide_false, Bool.false_eq_true, if_false]
    exact ih
  · simp only [List.filter_cons, hk, ne_eq, not_false_iff, decide_true, if_true]
    exact .cons r' ih
theorem RdK.length {K : PySem.W.Frag} {g : G} {kvs : List (Key × D)} {kx : List (Key × V)} (h : RdK K g kvs kx) : kvs.length = kx.length := by simpa using congrArg List.length h.1
theorem dget_of {K : PySem.W.Frag} {g : G} {H : Hp} {a : Addr} {kvs : List (Key × D)} {kx : List (Key × V)} {y : V} {dy : D} {k : Key} (e : L2.Rd H a (.dK kx)) (r : Rd K g dy y) (hk : keyD dy = some k) : DGet H a y (valV kx k) := .inl ⟨kx, k, e, key_rd r hk, rfl⟩
def isIn (x y : D) (st : Sto) : Option Bool := match view y st with
  | .str j => match x with
    | .str i => some (inStr i j)
    | _ => none
  | .lst ds => match flatOf x, flatsOf ds with
    | some a, some l => some (inV a l)
    | _, _ => none
  | .tup ds => match flatOf x, flatsOf ds with
    | some a, some l => some (inV a l)
    | _, _ => none
  | .dic kvs => (keyD x).map fun k => (valD kvs k).isSome
  | _ => none
def fIn (x y : D) (st : Sto) : Res D := match isIn x y st with
  | some b => .ok (.bl b) st
  | none => .stuck
def fNotIn (x y : D) (st : Sto) : Res D := match isIn x y st with
  | some b => .ok (.bl (!b)) st
  | none => .stuck
def fIs (x y : D) (st : Sto) : Res D := match x, y with
  | .bl a, .bl b => .ok (.bl (a == b)) st
  | x, .non => .ok (.bl (match x with | .non => true | _ => false)) st
  | _, _ => .stuck
def fIsNot (x y : D) (st : Sto) : Res D := match x, y with
  | .bl a, .bl b => .ok (.bl (!(a == b))) st
  | x, .non => .ok (.bl (match x with | .non => false | _ => true)) st
  | _, _ => .stuck
theorem non_of {K : PySem.W.Frag} {g : G} {d : D} {v : V} (r : Rd K g d v) : decide (v = .non) = (match d with | .non => true | _ => false) := by
  cases r <;> simp
section
variable {X : Cx} {W : WX}
theorem od_eq (hu : X.A.units + 64 < cLine) : OpD X W (compareOp .Eq) fEq := by
  intro pins s σ H g ρ st x y v u dx dy Q I R rx ry r1 r2 k
  unfold fEq at k
  split at k
  · rename_i d e h1 h2
    by_cases hl : SeqAt.shaped d = true ∧ SeqAt.shaped e = true
    · rw [if_pos hl] at k
      exact op_eqD hu pins s σ H _ _ v u Q I rx ry ⟨d, e, dp_view R r1 h1, dp_view R r2 h2, hl.1, hl.2, FinG.now k R (.bl _)⟩
    · rw [if_neg hl] at k
      exact k.elim
  · exact k.elim
theorem od_ne0 (hu : X.A.units + 64 < cLine) : OpD X W (compareOp .NotEq) fNe0 := by
  intro pins s σ H g ρ st x y v u dx dy Q I R rx ry r1 r2 k
  unfold fNe0 at k
  split at k
  · rename_i d e h1 h2
    by_cases hl : SeqAt.shaped d = true ∧ SeqAt.shaped e = true
    · rw [if_pos hl] at k
      exact op_neD hu pins s σ H _ _ v u Q I rx ry ⟨d, e, dp_view R r1 h1, dp_view R r2 h2, hl.1, hl.2, FinG.now k R (.bl _)⟩
    · rw [if_neg hl] at k
      exact k.elim
  · exact k.elim
theorem od_lt : OpD X W (compareOp .Lt) fLt := by
  intro pins s σ H g ρ st x y v u dx dy Q I R rx ry r1 r2 k
  unfold fLt at k
  split at k
  · cases r1
    cases r2
    exact op_lt pins s σ H _ _ v u Q I rx ry ⟨_, _, rfl, rfl, FinG.now k R (.bl _)⟩
  · cases r1
    cases r2
    exact op_lt_str pins s σ H _ _ v u Q I rx ry ⟨_, _, rfl, rfl, FinG.now k R (.bl _)⟩
  · exact k.elim
theorem od_le : OpD X W (compareOp .LtE) fLe := by
  intro pins s σ H g ρ st x y v u dx dy Q I R rx ry r1 r2 k
  unfold fLe at k
  split at k
  · cases r1
    cases r2
    exact op_le pins s σ H _ _ v u Q I rx ry ⟨_, _, rfl, rfl, FinG.now k R (.bl _)⟩
  · cases r1
    cases r2
    exact op_le_str pins s σ H _ _ v u Q I rx ry ⟨_, _, rfl, rfl, FinG.now k R (.bl _)⟩
  · exact k.elim
theorem od_gt : OpD X W (compareOp .Gt) fGt := by
  intro pins s σ H g ρ st x y v u dx dy Q I R rx ry r1 r2 k
  unfold fGt at k
  split at k
  · cases r1
    cases r2
    exact op_gt pins s σ H _ _ v u Q I rx ry ⟨_, _, rfl, rfl, FinG.now k R (.bl _)⟩
  · cases r1
    cases r2
    exact op_gt_str pins s σ H _ _ v u Q I rx ry ⟨_, _, rfl, rfl, FinG.now k R (.bl _)⟩
  · exact k.elim
theorem od_ge : OpD X W (compareOp .GtE) fGe := by
  intro pins s σ H g ρ st x y v u dx dy Q I R rx ry r1 r2 k
  unfold fGe at k
  split at k
  · cases r1
    cases r2
    exact op_ge pins s σ H _ _ v u Q I rx ry ⟨_, _, rfl, rfl, FinG.now k R (.bl _)⟩
  · cases r1
    cases r2
    exact op_ge_str pins s σ H _ _ v u Q I rx ry ⟨_, _, rfl, rfl, FinG.now k R (.bl _)⟩
  · exact k.elim
theorem od_in (hu : X.A.units + 1 < cLine) : OpD X W (compareOp .In) fIn := by
  intro pins s σ H g ρ st x y v u dx dy Q I R rx ry r1 r2 k
  unfold fIn at k
  cases h : isIn dx dy st with
  | none => rw [h] at k; exact k.elim
  | some b =>
    rw [h] at k
    unfold isIn at h
    split at h
    · rename_i j h2
      obtain rfl := at_str r2 h2
      split at h
      · rename_i i
        cases r1
        cases h
        exact op_in_str pins s σ H _ _ v u Q I rx ry ⟨_, _, rfl, rfl, FinG.now k R (.bl _)⟩
      · cases h
    · rename_i ds h2
      obtain ⟨p, xs, rfl, e1, q1⟩ := at_lst R r2 h2
      split at h
      · rename_i a l h3 h4
        obtain ⟨rfl, f1⟩ := flat_of r1 h3
        obtain ⟨rfl, f2⟩ := flats_of q1 h4
        cases h
        exact op_in_seq pins s σ H _ _ v u Q I rx ry ⟨p, _, rfl, .inl (.inl (.inl e1)), f1, f2, FinG.now k R (.bl _)⟩
      · cases h
    · rename_i ds h2
      obtain ⟨p, xs, rfl, e1, q1⟩ := at_tup r2 h2
      split at h
      · rename_i a l h3 h4
        obtain ⟨rfl, f1⟩ := flat_of r1 h3
        obtain ⟨rfl, f2⟩ := flats_of q1 h4
        cases h
        exact op_in_seq pins s σ H _ _ v u Q I rx ry ⟨p, _, rfl, .inr (stu_sq R.im e1), f1, f2, FinG.now k R (.bl _)⟩
      · cases h
    · rename_i kvs h2
      obtain ⟨p, kx, rfl, e1, q1, q2⟩ := at_dic R r2 h2
      rw [Option.map_eq_some_iff] at h
      obtain ⟨kk, hk, rfl⟩ := h
      obtain rfl : u = Value.ref p := ry
      have hv : (valD kvs kk).isSome = (valV kx kk).isSome := by
        rcases RdK.val kk (⟨q1, q2⟩ : RdK X.K g kvs kx) with ⟨a, b⟩ | ⟨_, _, a, b, _⟩ <;> simp [a, b]
      rw [hv] at k
      exact d_in hu I (dget_of (kvs := kvs) e1 r1 hk) rx fun s' I' => ⟨.bl _, H, I', rfl, FinG.now k R (.bl _)⟩
    · cases h
theorem od_notIn (hu : X.A.units + 1 < cLine) : OpD X W (compareOp .NotIn) fNotIn := by
  intro pins s σ H g ρ st x y v u dx dy Q I R rx ry r1 r2 k
  unfold fNotIn at k
  cases h : isIn dx dy st with
  | none => rw [h] at k; exact k.elim
  | some b =>
    rw [h] at k
    unfold isIn at h
    split at h
    · rename_i j h2
      obtain rfl := at_str r2 h2
      split at h
      · rename_i i
        cases r1
        cases h
        exact op_notIn_str pins s σ H _ _ v u Q I rx ry ⟨_, _, rfl, rfl, FinG.now k R (.bl _)⟩
      · cases h
    · rename_i ds h2
      obtain ⟨p, xs, rfl, e1, q1⟩ := at_lst R r2 h2
      split at h
      · rename_i a l h3 h4
        obtain ⟨rfl, f1⟩ := flat_of r1 h3
        obtain ⟨rfl, f2⟩ := flats_of q1 h4
        cases h
        exact op_notIn_seq pins s σ H _ _ v u Q I rx ry ⟨p, _, rfl, .inl (.inl (.inl e1)), f1, f2, FinG.now k R (.bl _)⟩
      · cases h
    · rename_i ds h2
      obtain ⟨p, xs, rfl, e1, q1⟩ := at_tup r2 h2
      split at h
      · rename_i a l h3 h4
        obtain ⟨rfl, f1⟩ := flat_of r1 h3
        obtain ⟨rfl, f2⟩ := flats_of q1 h4
        cases h
        exact op_notIn_seq pins s σ H _ _ v u Q I rx ry ⟨p, _, rfl, .inr (stu_sq R.im e1), f1, f2, FinG.now k R (.bl _)⟩
      · cases h
    · rename_i kvs h2
      obtain ⟨p, kx, rfl, e1, q1, q2⟩ := at_dic R r2 h2
      rw [Option.map_eq_some_iff] at h
      obtain ⟨kk, hk, rfl⟩ := h
      obtain rfl : u = Value.ref p := ry
      have hv : (valD kvs kk).isSome = (valV kx kk).isSome := by
        rcases RdK.val kk (⟨q1, q2⟩ : RdK X.K g kvs kx) with ⟨a, b⟩ | ⟨_, _, a, b, _⟩ <;> simp [a, b]
      rw [hv] at k
      exact d_notIn hu I (dget_of (kvs := kvs) e1 r1 hk) rx fun s' I' => ⟨.bl _, H, I', rfl, FinG.now k R (.bl _)⟩
    · cases h
end
end P3

/-! P5M: min of four ints. -/
namespace P3
open PySem PySem.Spec PyProof.Rows L2
open Sem (wp)
section
variable {prog : Program} {w : World} {A : Around} {E : Value → Shared → Prop} {s : Shared}
theorem args_min4 (a b c d : Value) : argsOk "min" ⟨[a, b, c, d], []⟩ := by unfold argsOk; kernel_rfl
theorem call_min_four {a b c d : Value} {Q : Value → Shared → Prop}
    (h : wpAny (model prog w) A.in1 (pyIter (.ref s.heap.objs.size)) (fun it s₂ => ∃ I fp wr n P St bt, it = .ref I ∧ Walks prog w A.in1 I fp wr n P St ∧ St 0 s₂.heap ∧ (∀ b ∈ fp, b < s₂.heap.objs.size) ∧ 0 < n ∧ CmpOf prog w A.in1 .Lt P bt ∧
      ∀ v h' tk, P (argBest bt (n - 1)) v → (∀ b o, b ∉ wr → s₂.heap.get? b = some o → h'.get? b = some o) → Q v { s₂ with heap := h', toks := tk }) E
      { s with heap := s.heap.push { cls := .type "tuple", data := .seq #[a, b, c, d] } }) :
    wpAny (model prog w) A (call (.builtin "min") [a, b, c, d]) Q E s := by
  have hname : (toString "min" ++ toString ".loop" : String) = "min.loop" := by decide
  refine call_function_tree PySem.F.kind_min PySem.F.plain_min PySem.F.entry_min (args_min4 _ _ _ _) ?_
  show wpAny _ A.in1 (Builtin.Builtins.bindParams "min" ["key", "default"] 0 ⟨[], []⟩ >>= _) _ _ s
  refine wpAny_bind (wpAny_of_eq (show Builtin.Builtins.bindParams "min" ["key", "default"] 0 ⟨[], []⟩ = pure [none, none] from rfl) ?_)
  show wpAny _ A.in1 (newTuple [a, b, c, d] >>= _) _ _ s
  refine wpAny_bind (wpAny_newObj_type ?_)
  refine wpAny_bind (wpAny_mono h (fun it s₂ h₂ => ?_) fun _ _ e => e)
  obtain ⟨I, fp, wr, n, P, St, bt, rfl, W, hst, hfp, hn, hcmp, hQ⟩ := h₂
  refine wpAny_bind (wpAny_newObj_type ?_)
  have hSf : s₂.heap.objs.size ∉ fp := fun hm => Nat.lt_irrefl _ (hfp _ hm)
  rw [hname]
  refine wpAny_pure ⟨plainId_quiet PySem.F.plain_min_loop _, codeAny_min_loop_first W bt hcmp s₂.heap.objs.size hSf hn (W.frame _ _ _ hst fun b _ o e => Heap.get?_push_of_some _ e) (Heap.get?_push_size _ rfl) fun v h' tk hP hk => ?_⟩
  exact hQ v h' tk hP fun b o hbw e => hk b o hbw (Nat.ne_of_lt (Heap.lt_size e)) (Heap.get?_push_of_some _ e)
theorem min_four_ints {a b c d : Int} {t u x y : Tok} {Q : Value → Shared → Prop} (hh : A.handled = none)
    (h : ∀ h' tk z, (∀ d o, s.heap.get? d = some o → h'.get? d = some o) → Q (.int (min (min a b) (min c d)) z) { s with heap := h', toks := tk }) :
    wpAny (model prog w) A (call (.builtin "min") [.int a t, .int b u, .int c x, .int d y]) Q E s := by
  have hT : (s.heap.push { cls := .type "tuple", data := .seq #[.int a t, .int b u, .int c x, .int d y] }).IsTuple s.heap.objs.size (intItems #[(a, t), (b, u), (c, x), (d, y)]) := ⟨_, Heap.get?_push_size _ rfl, rfl, 0, by simp [intItems]⟩
  refine call_min_four (wpAny_pyIter_tuple hT ?_)
  have hsz : (s.heap.push { cls := .type "tuple", data := .seq #[.int a t, .int b u, .int c x, .int d y] }).objs.size = s.heap.objs.size + 1 := Heap.size_push ..
  refine ⟨_, [_, s.heap.objs.size], [_], _, _, _, _, rfl, Walks.tuple (A := A.in1) hh _ s.heap.objs.size (by rw [hsz]; exact Nat.ne_of_lt (Nat.lt_succ_self _)) (intItems #[(a, t), (b, u), (c, x), (d, y)]),
    ⟨⟨_, Heap.get?_push_size _ rfl, rfl, rfl⟩, hT.push _⟩, fun d hd => ?_, by simp [intItems], CmpOf.ints_lt (numAt #[(a, t), (b, u), (c, x), (d, y)]) (fun _ _ => intItems_at), fun v h' tk hP hk => ?_⟩
  · show d < ((s.heap.push _).push _).objs.size
    rw [Heap.size_push, hsz]
    rcases List.mem_cons.mp hd with rfl | hd
    · rw [hsz]; exact Nat.lt_succ_self _
    · rcases List.mem_cons.mp hd with rfl | hd
      · exact Nat.lt_succ_of_lt (Nat.lt_succ_self _)
      · cases hd
  · have hold : ∀ d o, s.heap.get? d = some o → h'.get? d = some o := fun d o e => by
      refine hk d o (fun hm => ?_) (Heap.get?_push_of_some _ (Heap.get?_push_of_some _ e))
      rcases List.mem_cons.mp hm with e1 | hm
      · have := Heap.lt_size e; rw [e1, hsz] at this; exact Nat.lt_irrefl _ (Nat.lt_of_succ_lt this)
      · cases hm
    obtain ⟨z, rfl⟩ := intItems_at hP
    have hs4 : (intItems #[(a, t), (b, u), (c, x), (d, y)]).size - 1 = 3 := by simp [intItems]
    rw [hs4] at hP ⊢
    obtain ⟨b1, b2⟩ := argBest_lt (numAt #[(a, t), (b, u), (c, x), (d, y)]) 3
    generalize argBest (fun i j => decide (numAt #[(a, t), (b, u), (c, x), (d, y)] i < numAt #[(a, t), (b, u), (c, x), (d, y)] j)) 3 = k at b1 b2 ⊢
    have n0 : numAt #[(a, t), (b, u), (c, x), (d, y)] 0 = a := rfl
    have n1 : numAt #[(a, t), (b, u), (c, x), (d, y)] 1 = b := rfl
    have n2 : numAt #[(a, t), (b, u), (c, x), (d, y)] 2 = c := rfl
    have n3 : numAt #[(a, t), (b, u), (c, x), (d, y)] 3 = d := rfl
    have m0 := b2 0 (by omega)
    have m1 := b2 1 (by omega)
    have m2 := b2 2 (by omega)
    have m3 := b2 3 (by omega)
    rw [n0] at m0; rw [n1] at m1; rw [n2] at m2; rw [n3] at m3
    have hv : numAt #[(a, t), (b, u), (c, x), (d, y)] k = min (min a b) (min c d) := by
      have hk4 : k = 0 ∨ k = 1 ∨ k = 2 ∨ k = 3 := by omega
      have : numAt #[(a, t), (b, u), (c, x), (d, y)] k = a ∨ numAt #[(a, t), (b, u), (c, x), (d, y)] k = b ∨ numAt #[(a, t), (b, u), (c, x), (d, y)] k = c ∨ numAt #[(a, t), (b, u), (c, x), (d, y)] k = d := by
        rcases hk4 with rfl | rfl | rfl | rfl
        · exact .inl n0
        · exact .inr (.inl n1)
        · exact .inr (.inr (.inl n2))
        · exact .inr (.inr (.inr n3))
      omega
    rw [hv]
    exact h h' tk z hold
end
theorem call_min4 {X : Cx} (hc : X.calm = true) : CallR X (.builtin "min") (fun xs H Q => ∃ i j k l, xs = [.int i, .int j, .int k, .int l] ∧ Q (.int (min (min i j) (min k l))) H) := by
  intro pins s σ H xs us Q I r h
  obtain ⟨i, j, k, l, rfl, q⟩ := h
  cases r with
  | cons r1 r =>
    cases r with
    | cons r2 r =>
      cases r with
      | cons r3 r =>
        cases r with
        | cons r4 r =>
          cases r
          obtain ⟨t1, rfl⟩ := r1
          obtain ⟨t2, rfl⟩ := r2
          obtain ⟨t3, rfl⟩ := r3
          obtain ⟨t4, rfl⟩ := r4
          exact min_four_ints (I.ok.hd hc) fun h' tk z k => ⟨.int _, H, I.kept k, ⟨z, rfl⟩, q⟩
end P3

/-! P3D: subscripts, slices, calls of built-ins, methods of texts and lists. -/
namespace P3
open PySem PySem.Spec PyProof.Rows L2

/-! ### subscripts -/
theorem RdL.atI {K : PySem.W.Frag} {g : G} {ds : List D} {xs : List V} {i : Int} {d : D} (r : RdL K g ds xs) (h : L2.atI ds i = some d) : ∃ v, L2.atI xs i = some v ∧ Rd K g d v := by
  unfold L2.atI at h ⊢
  rw [← r.length]
  cases q : ixN ds.length i with
  | none => rw [q] at h; cases h
  | some j =>
    rw [q] at h
    exact r.get h
theorem atI_map {α β : Type} (f : α → β) {l : List α} {i : Int} {a : α} (h : L2.atI l i = some a) : L2.atI (l.map f) i = some (f a) := by
  unfold L2.atI at h ⊢
  rw [List.length_map]
  cases q : ixN l.length i with
  | none => rw [q] at h; cases h
  | some j =>
    rw [q] at h
    show (l.map f)[j]? = _
    have h' : l[j]? = some a := h
    rw [List.getElem?_map, h']
    rfl
def optR {α : Type} (o : Option α) (st : Sto) : Res α := match o with
  | some a => .ok a st
  | none => .stuck
def fIx (x y : D) (st : Sto) : Res D := match view x st, y with
  | .lst ds, .int i => optR (L2.atI ds i) st
  | .tup ds, .int i => optR (L2.atI ds i) st
  | .scr ns, .int i => optR ((L2.atI ns i).map D.int) st
  | .str z, .int i => if z.length ≤ 100000 then optR ((L2.atI z.cps.toList i).map fun c => D.str ⟨#[c]⟩) st else .stuck
  | .dic kvs, y => optR ((keyD y).bind fun k => valD kvs k) st
  | _, _ => .stuck
section
variable {X : Cx} {W : WX} {a b e : Expr} {ma mb me : ME} {pos : Pos}
theorem ix_dict (value slice : Expr) (pins : List (Addr × Obj)) (s : Shared) (σ : L2.St) (H : Hp) (a : Addr) (y z : V) (u : Value) (Q : VK) (hu : X.A.units + 1 < cLine) (I : Inv X pins σ H s) (ry : RelV y u) (g : DGet H a y (some z)) (q : Q z H)
    (hs : subscripted slice false (.ref a) u = operate [.ref a, u] (getItem (.ref a) u)) : wpAny (model X.prog X.w) X.A (subscriptTail value slice (.ref a) u) (EP X pins σ Q) X.xe s := by
  have hT := dict_typeIs I g
  unfold subscriptTail
  refine wpAny_bind ?_
  rw [getitemInPython_of_ne hT.not_modules]
  refine wpAny_bind (wpAny_specialOf hT PySem.F.slot_dict_getitem.lookup ?_)
  have fin : wpAny (model X.prog X.w) X.A (subscripted slice false (.ref a) u) (fun r s₃ => wpAny (model X.prog X.w) X.A (letTemporaryGo value (.ref a) r >>= fun _ => pure r) (EP X pins σ Q) X.xe s₃) X.xe s := by
    rw [hs]
    exact wpAny_operating (wpAny_mono (d_getItem (Q := EP X pins σ Q) hu I g ry fun w' s3 I3 rw' => ⟨z, H, I3, rw', q⟩) (fun r s₃ h₃ => wpAny_bind (wpAny_letTemporaryGo (wpAny_pure h₃))) fun _ _ x => x)
  first
    | exact wpAny_pure (wpAny_bind fin)
    | exact wpAny_bind (wpAny_pure (wpAny_bind fin))
    | exact wpAny_bind fin
theorem ix_d (hu : X.A.units + 1 < cLine) (value slice : Expr) (pins : List (Addr × Obj)) (s : Shared) (σ : L2.St) (H : Hp) (g : G) (ρ : Ro) (st : Sto) (x y : V) (v u : Value) (dx dy : D) (Q : VK) (I : Inv X pins σ H s) (R : Rl X.K g σ H ρ st) (rx : RelV x v) (ry : RelV y u)
    (r1 : Rd X.K g dx x) (r2 : Rd X.K g dy y) (k : FinG X.K X.mg W (pD X.K) g σ ρ (fIx dx dy st) Q) (hs : subscripted slice false v u = operate [v, u] (getItem v u)) : wpAny (model X.prog X.w) X.A (subscriptTail value slice v u) (EP X pins σ Q) X.xe s := by
  unfold fIx at k
  split at k
  · rename_i ds i h1
    obtain ⟨p, xs, rfl, e1, q1⟩ := at_lst R r1 h1
    cases r2
    cases h : L2.atI ds i with
    | none => rw [h] at k; exact k.elim
    | some d =>
      rw [h] at k
      obtain ⟨w, h2, r⟩ := q1.atI h
      exact ix_list value slice pins s σ H _ _ v u Q I rx ry ⟨p, xs, i, w, rfl, rfl, .inl (.inl e1), h2, FinG.now k R r⟩ hs
  · rename_i ds i h1
    obtain ⟨p, xs, rfl, e1, q1⟩ := at_tup r1 h1
    cases r2
    cases h : L2.atI ds i with
    | none => rw [h] at k; exact k.elim
    | some d =>
      rw [h] at k
      obtain ⟨w, h2, r⟩ := q1.atI h
      exact ix_tup value slice pins s σ H _ _ v u Q I rx ry ⟨p, xs, i, w, rfl, rfl, stu_sq R.im e1, h2, FinG.now k R r⟩ hs
  · rename_i ns i h1
    obtain ⟨p, rfl, e1⟩ := at_scr r1 h1
    cases r2
    cases h : L2.atI ns i with
    | none => rw [h] at k; exact k.elim
    | some d =>
      rw [h] at k
      exact ix_list value slice pins s σ H _ _ v u Q I rx ry ⟨p, _, i, _, rfl, rfl, seqL_im R.im e1, atI_map V.int h, FinG.now k R (.int d)⟩ hs
  · rename_i z i h1
    obtain rfl := at_str r1 h1
    cases r2
    by_cases hl : z.length ≤ 100000
    · rw [if_pos hl] at k
      cases h : L2.atI z.cps.toList i with
      | none => rw [h] at k; exact k.elim
      | some c =>
        rw [h] at k
        exact ix_str value slice pins s σ H _ _ v u Q I rx ry ⟨z, i, c, rfl, rfl, sz hl, h, FinG.now k R (.str _)⟩ hs
    · rw [if_neg hl] at k
      exact k.elim
  · rename_i dy _ _ kvs h1
    obtain ⟨p, kx, rfl, e1, q1, q2⟩ := at_dic R r1 h1
    obtain rfl : v = Value.ref p := rx
    cases hk : keyD dy with
    | none => rw [hk] at k; exact k.elim
    | some kk =>
      rw [hk] at k
      rcases RdK.val kk (⟨q1, q2⟩ : RdK X.K g kvs kx) with ⟨a, b⟩ | ⟨d, w, a, b, r⟩
      · have k' : FinG X.K X.mg W (pD X.K) g σ ρ (optR (valD kvs kk) st) Q := k
        rw [a] at k'
        exact k'.elim
      · have k' : FinG X.K X.mg W (pD X.K) g σ ρ (optR (valD kvs kk) st) Q := k
        rw [a] at k'
        have g0 := dget_of (kvs := kvs) e1 r2 hk
        rw [b] at g0
        exact ix_dict value slice pins s σ H p y w u Q hu I ry g0 (FinG.now k' R r) hs
  · exact k.elim
theorem de_ix (hu : X.A.units + 1 < cLine) (ha : DE X W a ma) (hb : DE X W b mb) (hs : PlainIx b) : DE X W (.Subscript a b pos) (mBin fIx ma mb) :=
  ⟨fun pins s σ H Q I h => Subscript_ (binT ha hb I (bin_run ha hb h) fun v u s2 x y H2 I2 rx ry ⟨g, ρ, st, dx, dy, R, r1, r2, k⟩ => ix_d hu a b pins s2 σ H2 g ρ st x y v u dx dy Q I2 R rx ry r1 r2 k (hs _ _))⟩

/-! ### slices -/
abbrev MO := Ro → Sto → Res (Option Int)
abbrev pO : G → Option Int → Option Int → Prop := fun _ a b => b = a
abbrev DO (X : Cx) (W : WX) (e : Option Expr) (m : MO) : Prop := PO X e (tX X.K X.mg W pO m)
theorem po_weak {X : Cx} {e : Option Expr} {t t' : TO} (h : PO X e t) (k : ∀ σ H Q, t' σ H Q → t σ H Q) : PO X e t' := ⟨fun pins s σ H Q I q => h.run pins s σ H Q I (k σ H Q q)⟩
def oNone : MO := fun _ st => .ok none st
def oSome (m : ME) : MO := fun ρ st => (m ρ st).bind fun d st => match d with
  | .int i => .ok (some i) st
  | _ => .stuck
theorem do_none : DO X W none oNone := po_weak po_none fun σ H Q ⟨g, ρ, st, R, k⟩ => FinG.now k R rfl
theorem do_some (h : DE X W e me) : DO X W (some e) (oSome me) := po_weak (po_some h) fun σ H Q ⟨g, ρ, st, R, k⟩ => ⟨g, ρ, st, R, (FinG.bind k).imp fun x H1 ⟨g1, st1, d, e1, R1, r1, k1⟩ => by
  split at k1
  · cases r1
    exact ⟨_, rfl, FinG.now k1 R1 rfl⟩
  · exact k1.elim⟩
def cutD (xs : List D) (lo hi : Option Int) : List D := (xs.drop (HT.sIx xs.length 0 lo)).take (HT.sIx xs.length xs.length hi - HT.sIx xs.length 0 lo)
theorem cut_rd {K : PySem.W.Frag} {g : G} {ds : List D} {xs : List V} (r : RdL K g ds xs) (lo hi : Option Int) : RdL K g (cutD ds lo hi) (cutV xs lo hi) := by
  unfold cutD cutV
  rw [← r.length]
  exact (r.drop _).take _
def fSl (c : Bool) (x : D) (lo hi : Option Int) (st : Sto) : Res D := match view x st with
  | .lst ds => mk c (cutD ds lo hi) st
  | .tup ds => .ok (.tup (cutD ds lo hi)) st
  | .str z => if z.length ≤ 100000 then .ok (.str (Txt.slice z lo hi)) st else .stuck
  | _ => .stuck
def mSl (c : Bool) (a : ME) (lo hi : MO) : ME := fun ρ st => (a ρ st).bind fun x st => (lo ρ st).bind fun l st => (hi ρ st).bind fun h st => fSl c x l h st
theorem cutD_all {ds : List D} {lo hi : Option Int} (h : HT.sIx ds.length 0 lo = 0 ∧ HT.sIx ds.length ds.length hi = ds.length) : cutD ds lo hi = ds := by
  unfold cutD
  rw [h.1, h.2, List.drop_zero, Nat.sub_zero, List.take_length]
/-- a slice, by trees -/
def rSlD (X : Cx) (W : WX) (c : Bool) : V → Option Int → Option Int → Hp → VK → Prop := fun x lo hi H Q => ∃ g σ ρ st d, Rl X.K g σ H ρ st ∧ Rd X.K g d x ∧ FinG X.K X.mg W (pD X.K) g σ ρ (fSl c d lo hi st) Q
theorem sl_d (c : Bool) : SlR X (rSlD X W c) := by
  intro pins s σ' H x v vl vu lo hi sl Q I rx hs pl pu h
  obtain ⟨g, σ, ρ, st, d, R, r, k⟩ := h
  unfold fSl at k
  split at k
  · rename_i ds h1
    obtain ⟨p, xs, rfl, e1, q1⟩ := at_lst R r h1
    exact sl_list pins s σ' H _ v vl vu lo hi sl Q I rx hs pl pu ⟨p, xs, rfl, .inl (.inl e1), (new_mk R (cut_rd q1 lo hi) k).2⟩
  · rename_i ds h1
    obtain ⟨p, xs, rfl, e1, q1⟩ := at_tup r h1
    have r' := r
    rw [is_tup h1] at r'
    refine sl_tupA pins s σ' H _ v vl vu lo hi sl Q I rx hs pl pu ⟨p, xs, rfl, stu_sq R.im e1, fun z => ?_, fun z l hp => new_tup R (cut_rd q1 lo hi) k hp⟩
    rw [← q1.length] at z
    exact FinG.now k R (by rw [cutD_all z]; exact r')
  · rename_i z h1
    obtain rfl := at_str r h1
    by_cases hl : z.length ≤ 100000
    · rw [if_pos hl] at k
      exact C8.sl_txt pins s σ' H _ v vl vu lo hi sl Q I rx hs pl pu ⟨z, rfl, sz hl, FinG.now k R (.str _)⟩
    · rw [if_neg hl] at k
      exact k.elim
  · exact k.elim
theorem de_slice (c : Bool) {lo hi : Option Expr} {ml mh : MO} {p2 : Pos} (he : DE X W e me) (hl : DO X W lo ml) (hh : DO X W hi mh) : DE X W (.Subscript e (.Slice lo hi none p2) pos) (mSl c me ml mh) :=
  pe_weak (pe_slice (sl_d (W := W) c) he hl hh) fun σ H Q ⟨g, ρ, st, R, k⟩ => ⟨g, ρ, st, R, (FinG.bind k).imp fun x H1 ⟨g1, st1, d, e1, R1, r1, k1⟩ => ⟨g1, ρ, st1, R1, (FinG.bind k1).imp fun l H2 ⟨g2, st2, l2, e2, R2, r2, k2⟩ =>
    ⟨g2, ρ, st2, R2, (FinG.bind k2).imp fun h H3 ⟨g3, st3, l3, e3, R3, r3, k3⟩ => by
      obtain rfl : l = l2 := r2
      obtain rfl : h = l3 := r3
      exact ⟨g3, σ, ρ, st3, d, R3, (r1.mono e2).mono e3, k3⟩⟩⟩⟩

/-! ### calls of values that are known -/
def rD (X : Cx) (W : WX) (f : List D → Sto → Res D) : List V → Hp → VK → Prop := fun xs H Q => ∃ g σ ρ st ds, Rl X.K g σ H ρ st ∧ RdL X.K g ds xs ∧ FinG X.K X.mg W (pD X.K) g σ ρ (f ds st) Q
abbrev CalD (X : Cx) (W : WX) (F : Value) (f : List D → Sto → Res D) : Prop := CallR X F (rD X W f)
variable {es : List Expr} {ms : MEs} {x : Str} {p : Pos} {idn T : String} {f : List D → Sto → Res D}
theorem de_callB (hc : CalD X W (.builtin idn) f) (hg : Gl X x) (hm : X.mg x = none) (hv : bootBuiltins x = some (.builtin idn)) (ha : DA X W (e :: es) ms) (hn : x ≠ "__name__") (hdb : (x == ("__debug__" : Str)) = false)
    (he : starEach (e :: es) X.env = (false, eval e X.env) :: starEach es X.env) (hpl : (backTo pos (starEach es X.env)).any (·.1) = false) : DE X W (.Call (.Name x p) (e :: es) [] pos) (mOn f ms) :=
  pe_weak (pe_callB hc hg hm hv ha hn hdb he hpl) fun σ H Q q => by
    obtain ⟨g, ρ, st, R, k⟩ := on_run q
    exact ⟨g, ρ, st, R, k.imp fun xs H1 ⟨g1, ρ1, st1, ds, R1, r1, k1⟩ => ⟨g1, σ, ρ1, st1, ds, R1, r1, k1⟩⟩
theorem de_callTy (hc : CalD X W (.type T) f) (hg : Gl X x) (hm : X.mg x = none) (hv : bootBuiltins x = some (.type T)) (ha : DA X W (e :: es) ms) (hn : x ≠ "__name__") (hdb : (x == ("__debug__" : Str)) = false)
    (he : starEach (e :: es) X.env = (false, eval e X.env) :: starEach es X.env) (hpl : (backTo pos (starEach es X.env)).any (·.1) = false) : DE X W (.Call (.Name x p) (e :: es) [] pos) (mOn f ms) :=
  pe_weak (pe_callTy hc hg hm hv ha hn hdb he hpl) fun σ H Q q => by
    obtain ⟨g, ρ, st, R, k⟩ := on_run q
    exact ⟨g, ρ, st, R, k.imp fun xs H1 ⟨g1, ρ1, st1, ds, R1, r1, k1⟩ => ⟨g1, σ, ρ1, st1, ds, R1, r1, k1⟩⟩
theorem cr_weak {F : Value} {r r' : List V → Hp → VK → Prop} (h : CallR X F r) (k : ∀ xs H Q, r' xs H Q → r xs H Q) : CallR X F r' := fun pins s σ H xs us Q I rs q => h pins s σ H xs us Q I rs (k xs H Q q)
theorem RdL.one {K : PySem.W.Frag} {g : G} {d : D} {xs : List V} (r : RdL K g [d] xs) : ∃ x, xs = [x] ∧ Rd K g d x := by
  cases r with
  | cons a b => cases b; exact ⟨_, rfl, a⟩
theorem RdL.two {K : PySem.W.Frag} {g : G} {d e : D} {xs : List V} (r : RdL K g [d, e] xs) : ∃ x y, xs = [x, y] ∧ Rd K g d x ∧ Rd K g e y := by
  cases r with
  | cons a b => cases b with
    | cons b c => cases c; exact ⟨_, _, rfl, a, b⟩
def fLen (ds : List D) (st : Sto) : Res D := match ds with
  | [d] => match view d st with
    | .str z => if z.length ≤ 100000 then .ok (.int z.length) st else .stuck
    | .lst l => .ok (.int l.length) st
    | .tup l => .ok (.int l.length) st
    | .scr l => .ok (.int l.length) st
    | _ => .stuck
  | _ => .stuck
theorem cd_len : CalD X W (.builtin "len") fLen := by
  intro pins s σ' H xs us Q I rs h
  obtain ⟨g, σ, ρ, st, ds, R, r, k⟩ := h
  unfold fLen at k
  split at k
  · obtain ⟨x, rfl, r1⟩ := r.one
    split at k
    · rename_i z h1
      obtain rfl := at_str r1 h1
      by_cases hl : z.length ≤ 100000
      · rw [if_pos hl] at k
        exact call_len_str pins s σ' H _ us Q I rs ⟨z, rfl, sz hl, FinG.now k R (.int _)⟩
      · rw [if_neg hl] at k
        exact k.elim
    · rename_i l h1
      obtain ⟨p, xs, rfl, e1, q1⟩ := at_lst R r1 h1
      exact call_len_seq pins s σ' H _ us Q I rs ⟨p, xs, rfl, .inl (.inl (.inl e1)), by rw [← q1.length]; exact FinG.now k R (.int _)⟩
    · rename_i l h1
      obtain ⟨p, xs, rfl, e1, q1⟩ := at_tup r1 h1
      exact call_len_seq pins s σ' H _ us Q I rs ⟨p, xs, rfl, .inr (stu_sq R.im e1), by rw [← q1.length]; exact FinG.now k R (.int _)⟩
    · rename_i l h1
      obtain ⟨p, rfl, e1⟩ := at_scr r1 h1
      exact call_len_seq pins s σ' H _ us Q I rs ⟨p, _, rfl, .inl (seqL_im R.im e1), by rw [List.length_map]; exact FinG.now k R (.int _)⟩
    · exact k.elim
  · exact k.elim
def fMax (ds : List D) (st : Sto) : Res D := match ds with
  | [.int i, .int j] => .ok (.int (if j > i then j else i)) st
  | _ => .stuck
def fMin (ds : List D) (st : Sto) : Res D := match ds with
  | [.int i, .int j] => .ok (.int (if j < i then j else i)) st
  | [.int i, .int j, .int k, .int l] => .ok (.int (min (min i j) (min k l))) st
  | _ => .stuck
theorem cd_max (hc : X.calm = true) : CalD X W (.builtin "max") fMax := cr_weak (call_max2 hc) fun xs H Q ⟨g, σ, ρ, st, ds, R, r, k⟩ => by
  unfold fMax at k
  split at k
  · obtain ⟨x, y, rfl, r1, r2⟩ := r.two
    cases r1
    cases r2
    exact ⟨_, _, rfl, FinG.now k R (.int _)⟩
  · exact k.elim
theorem cd_min (hc : X.calm = true) : CalD X W (.builtin "min") fMin := fun pins s σ' H xs us Q I rs ⟨g, σ, ρ, st, ds, R, r, k⟩ => by
  unfold fMin at k
  split at k
  · obtain ⟨x, y, rfl, r1, r2⟩ := r.two
    cases r1
    cases r2
    exact call_min2 hc pins s σ' H _ us Q I rs ⟨_, _, rfl, FinG.now k R (.int _)⟩
  · cases r with
    | cons r1 r =>
      cases r with
      | cons r2 r =>
        cases r with
        | cons r3 r =>
          cases r with
          | cons r4 r =>
            cases r
            cases r1
            cases r2
            cases r3
            cases r4
            exact call_min4 hc pins s σ' H _ us Q I rs ⟨_, _, _, _, rfl, FinG.now k R (.int _)⟩
  · exact k.elim
def boolsOf : List D → Option (List Bool)
  | [] => some []
  | .bl b :: ds => (boolsOf ds).map (b :: ·)
  | _ :: _ => none
theorem bools_of {K : PySem.W.Frag} {g : G} : ∀ {ds : List D} {xs : List V} {bs : List Bool}, RdL K g ds xs → boolsOf ds = some bs → xs = bs.map V.bl
  | _, _, _, .nil, h => by simp only [boolsOf, Option.some.injEq] at h; subst h; rfl
  | .bl b :: ds, _, bs, .cons r t, h => by
    have h' : (boolsOf ds).map (b :: ·) = some bs := h
    cases q : boolsOf ds with
    | none => rw [q] at h'; cases h'
    | some l =>
      rw [q] at h'
      cases h'
      cases r
      rw [bools_of t q]
      rfl
  | .non :: _, _, _, .cons _ _, h => by simp [boolsOf] at h
  | .int _ :: _, _, _, .cons _ _, h => by simp [boolsOf] at h
  | .str _ :: _, _, _, .cons _ _, h => by simp [boolsOf] at h
  | .lst _ :: _, _, _, .cons _ _, h => by simp [boolsOf] at h
  | .tup _ :: _, _, _, .cons _ _, h => by simp [boolsOf] at h
  | .dic _ :: _, _, _, .cons _ _, h => by simp [boolsOf] at h
  | .cell _ :: _, _, _, .cons _ _, h => by simp [boolsOf] at h
  | .scr _ :: _, _, _, .cons _ _, h => by simp [boolsOf] at h
  | .ty _ :: _, _, _, .cons _ _, h => by simp [boolsOf] at h
  | .code _ :: _, _, _, .cons _ _, h => by simp [boolsOf] at h
  | .ob .. :: _, _, _, .cons _ _, h => by simp [boolsOf] at h
def fAll (ds : List D) (st : Sto) : Res D := match ds with
  | [d] => match view d st with
    | .lst l => optR ((boolsOf l).map fun bs => D.bl (bs.all id)) st
    | _ => .stuck
  | _ => .stuck
def fAny (ds : List D) (st : Sto) : Res D := match ds with
  | [d] => match view d st with
    | .lst l => optR ((boolsOf l).map fun bs => D.bl (bs.any id)) st
    | _ => .stuck
  | _ => .stuck
theorem cd_all (hc : X.calm = true) : CalD X W (.builtin "all") fAll := cr_weak (cr_all hc) fun xs H Q ⟨g, σ, ρ, st, ds, R, r, k⟩ => by
  unfold fAll at k
  split at k
  · obtain ⟨x, rfl, r1⟩ := r.one
    split at k
    · rename_i l h1
      obtain ⟨p, xs, rfl, e1, q1⟩ := at_lst R r1 h1
      cases h : boolsOf l with
      | none => rw [h] at k; exact k.elim
      | some bs =>
        rw [h] at k
        obtain rfl := bools_of q1 h
        exact ⟨p, bs, rfl, .inl (.inl e1), FinG.now k R (.bl _)⟩
    · exact k.elim
  · exact k.elim
theorem cd_any (hc : X.calm = true) : CalD X W (.builtin "any") fAny := cr_weak (cr_any hc) fun xs H Q ⟨g, σ, ρ, st, ds, R, r, k⟩ => by
  unfold fAny at k
  split at k
  · obtain ⟨x, rfl, r1⟩ := r.one
    split at k
    · rename_i l h1
      obtain ⟨p, xs, rfl, e1, q1⟩ := at_lst R r1 h1
      cases h : boolsOf l with
      | none => rw [h] at k; exact k.elim
      | some bs =>
        rw [h] at k
        obtain rfl := bools_of q1 h
        exact ⟨p, bs, rfl, .inl (.inl e1), FinG.now k R (.bl _)⟩
    · exact k.elim
  · exact k.elim
/-! ### isinstance -/
def tyS : D → Option String
  | .non => some "NoneType"
  | .bl _ => some "bool"
  | .int _ => some "int"
  | .str _ => some "str"
  | .lst _ => some "list"
  | .tup _ => some "tuple"
  | .dic _ => some "dict"
  | _ => none
def isiTab : List ((String × String) × Bool) :=
  (["NoneType", "bool", "int", "str", "list", "tuple", "dict"].map fun t => ["bool", "int", "str", "list", "tuple", "dict"].map fun n => ((t, n), decide (t = n) || (decide (t = "bool") && decide (n = "int")))).flatten
def isiB (t n : String) : Option Bool := isiTab.lookup (t, n)
theorem isi_all : ∀ e ∈ isiTab, kitB e.1.1 e.1.2 = some e.2 := by decide +kernel
theorem lookup_mem {α β : Type} [BEq α] [LawfulBEq α] : ∀ {l : List (α × β)} {a : α} {b : β}, l.lookup a = some b → (a, b) ∈ l
  | [], _, _, h => by cases h
  | (x, y) :: l, a, b, h => by
    rw [List.lookup_cons] at h
    cases e : a == x with
    | true =>
      rw [e] at h
      have h' : y = b := Option.some.inj h
      rw [eq_of_beq e, h']
      exact List.mem_cons_self
    | false =>
      rw [e] at h
      exact List.mem_cons_of_mem _ (lookup_mem h)
theorem isi_kit {K : PySem.W.Frag} {t n : String} {b : Bool} (h : isiB t n = some b) : PySem.W.kitOne K (.type t) (.type n) = some b := kit_ty (isi_all _ (lookup_mem h))
theorem ty_of {K : PySem.W.Frag} {g : G} {σ : L2.St} {H : Hp} {ρ : Ro} {st : Sto} {d : D} {v : V} {t : String} (R : Rl K g σ H ρ st) (r : Rd K g d v) (h : tyS (view d st) = some t) : TyX K H v (.type t) := by
  have seqt : ∀ {a : Addr} {xs : List V}, STu K g.im a xs → TyX K H (.ref a) (.type "tuple") := fun {a xs} q => by
    rcases q with q | ⟨o, its, n, hk, hc, _⟩
    · exact .base (.tup (R.im _ _ q))
    · exact .kTuple hk hc
  cases e : view d st with
  | non =>
    rw [e] at h; cases h
    have : d = .non := by
      cases d with
      | cell i => rcases cell_of e with ⟨_, _, q⟩ | ⟨_, _, q⟩ | q <;> cases q
      | _ => exact e
    subst this
    cases r
    exact .base .non
  | bl b =>
    rw [e] at h; cases h
    have : d = .bl b := by
      cases d with
      | cell i => rcases cell_of e with ⟨_, _, q⟩ | ⟨_, _, q⟩ | q <;> cases q
      | _ => exact e
    subst this
    cases r
    exact .base (.bl _)
  | int i => rw [e] at h; cases h; rw [at_int r e]; exact .base (.int _)
  | str i => rw [e] at h; cases h; rw [at_str r e]; exact .base (.str _)
  | lst l =>
    rw [e] at h; cases h
    obtain ⟨p, xs, rfl, e1, q1⟩ := at_lst R r e
    exact .base (.lst e1)
  | tup l =>
    rw [e] at h; cases h
    obtain ⟨p, xs, rfl, e1, q1⟩ := at_tup r e
    exact seqt e1
  | dic l =>
    rw [e] at h; cases h
    obtain ⟨p, xs, rfl, e1, q1⟩ := at_dic R r e
    rcases e1 with e1 | ⟨_, e1⟩
    · exact .base (.dK e1)
    · exact .fDict e1
  | cell i => rw [e] at h; cases h
  | scr i => rw [e] at h; cases h
  | ty i => rw [e] at h; cases h
  | code i => rw [e] at h; cases h
  | ob => rw [e] at h; cases h
def isiAny (t : String) : List D → Option Bool
  | [] => some false
  | .ty n :: r => match isiB t n, isiAny t r with
    | some a, some b => some (a || b)
    | _, _ => none
  | _ :: _ => none
def isiC (t : String) : D → Option Bool
  | .ty n => isiB t n
  | .tup cs => isiAny t cs
  | _ => none
def fIsi (ds : List D) (st : Sto) : Res D := match ds with
  | [d, c] => optR (((tyS (view d st)).bind fun t => isiC t c).map D.bl) st
  | _ => .stuck
theorem isiAny_kit {K : PySem.W.Frag} {g : G} {t : String} : ∀ {cs : List D} {xs : List V} {b : Bool}, RdL K g cs xs → isiAny t cs = some b → ∃ us, Paired ClsV xs us ∧ PySem.W.kitAny K (.type t) us = some b
  | [], _, _, .nil, h => by
    have h' : some false = some _ := h
    cases h'
    exact ⟨[], .nil, kitAny_nil⟩
  | .ty n :: r, _, b, .cons r1 r2, h => by
    cases r1
    unfold isiAny at h
    cases q : isiB t n with
    | none => rw [q] at h; cases h
    | some c =>
      cases q2 : isiAny t r with
      | none => rw [q, q2] at h; cases h
      | some c2 =>
        rw [q, q2] at h
        cases h
        obtain ⟨us, p, e⟩ := isiAny_kit r2 q2
        refine ⟨.type n :: us, .cons (.ty n) p, kitAny_cons (isi_kit q) (fun z => ?_) (fun z => ?_)⟩
        · subst z
          exact e
        · subst z
          rfl
  | .non :: _, _, _, .cons _ _, h => by simp [isiAny] at h
  | .bl _ :: _, _, _, .cons _ _, h => by simp [isiAny] at h
  | .int _ :: _, _, _, .cons _ _, h => by simp [isiAny] at h
  | .str _ :: _, _, _, .cons _ _, h => by simp [isiAny] at h
  | .lst _ :: _, _, _, .cons _ _, h => by simp [isiAny] at h
  | .tup _ :: _, _, _, .cons _ _, h => by simp [isiAny] at h
  | .dic _ :: _, _, _, .cons _ _, h => by simp [isiAny] at h
  | .cell _ :: _, _, _, .cons _ _, h => by simp [isiAny] at h
  | .scr _ :: _, _, _, .cons _ _, h => by simp [isiAny] at h
  | .code _ :: _, _, _, .cons _ _, h => by simp [isiAny] at h
  | .ob .. :: _, _, _, .cons _ _, h => by simp [isiAny] at h
theorem cls_vals : ∀ {xs : List V} {us ws : List Value}, Paired ClsV xs us → Vals xs ws → ws = us := fun k r => ClsV.all k r
theorem cd_isi : CalD X W (.builtin "isinstance") fIsi := by
  intro pins s σ' H xs us Q I rs h
  obtain ⟨g, σ, ρ, st, ds, R, r, k⟩ := h
  unfold fIsi at k
  split at k
  · rename_i d c
    obtain ⟨x, y, rfl, r1, r2⟩ := r.two
    cases h : tyS (view d st) with
    | none => rw [h] at k; exact k.elim
    | some t =>
      rw [h] at k
      have ty := ty_of R r1 h
      have k2 : FinG X.K X.mg W (pD X.K) g σ ρ (optR ((isiC t c).map D.bl) st) Q := k
      cases q : isiC t c with
      | none => rw [q] at k2; exact k2.elim
      | some b =>
        rw [q] at k2
        unfold isiC at q
        split at q
        · rename_i n
          cases r2
          exact call_isi pins s σ' H _ us Q I rs ⟨x, .ty n, .type t, .type n, b, rfl, .ty n, ty, isi_kit q, FinG.now k2 R (.bl _)⟩
        · rename_i cs
          cases r2 with
          | @tup a zs _ h1 h2 =>
            obtain ⟨ws, pw, ek⟩ := isiAny_kit (K := X.K) h2 q
            rcases h1 with h1 | ⟨o, its, n, hk, hc, hd, hz, hv⟩
            · exact call_isiT pins s σ' H _ us Q I rs ⟨x, a, zs, .type t, ws, b, rfl, R.im _ _ h1, pw, ty, ek, FinG.now k2 R (.bl _)⟩
            · obtain ⟨oc, od, dt, sl⟩ := o
              simp only at hc hd
              subst hc hd
              have e := ClsV.all pw hv
              refine call_isiK pins s σ' H _ us Q I rs ⟨x, a, od, ws, n, sl, .type t, b, rfl, ?_, ty, ek, FinG.now k2 R (.bl _)⟩
              rw [hk, ← e]
        · cases q
  · exact k.elim
/-! ### tuple(..), list(..), int(..) -/
def fTupleOf (ds : List D) (st : Sto) : Res D := match ds with
  | [d] => match view d st with
    | .lst l => .ok (.tup l) st
    | .tup l => .ok (.tup l) st
    | _ => .stuck
  | _ => .stuck
theorem cd_tuple : CalD X W (.type "tuple") fTupleOf := cr_weak call_tuple_of fun xs H Q ⟨g, σ, ρ, st, ds, R, r, k⟩ => by
  unfold fTupleOf at k
  split at k
  · obtain ⟨x, rfl, r1⟩ := r.one
    split at k
    · rename_i l h1
      obtain ⟨p, xs, rfl, e1, q1⟩ := at_lst R r1 h1
      exact ⟨p, xs, rfl, .inl ⟨.inl (.inl e1), fun l hl => new_tup R q1 k hl⟩⟩
    · rename_i l h1
      obtain ⟨p, xs, rfl, e1, q1⟩ := at_tup r1 h1
      rw [is_tup h1] at r1
      exact ⟨p, xs, rfl, .inr ⟨stu_sq R.im e1, FinG.now k R r1⟩⟩
    · exact k.elim
  · exact k.elim
def fListOf (c : Bool) (ds : List D) (st : Sto) : Res D := match ds with
  | [d] => match view d st with
    | .lst l => mk c l st
    | .tup l => mk c l st
    | _ => .stuck
  | _ => .stuck
theorem cd_list (c : Bool) : CalD X W (.type "list") (fListOf c) := cr_weak call_list_of fun xs H Q ⟨g, σ, ρ, st, ds, R, r, k⟩ => by
  unfold fListOf at k
  split at k
  · obtain ⟨x, rfl, r1⟩ := r.one
    split at k
    · rename_i l h1
      obtain ⟨p, xs, rfl, e1, q1⟩ := at_lst R r1 h1
      exact ⟨p, xs, rfl, .inl (.inl (.inl e1)), (new_mk R q1 k).2⟩
    · rename_i l h1
      obtain ⟨p, xs, rfl, e1, q1⟩ := at_tup r1 h1
      exact ⟨p, xs, rfl, .inr (stu_sq R.im e1), (new_mk R q1 k).2⟩
    · exact k.elim
  · exact k.elim
def fIntOf (ds : List D) (st : Sto) : Res D := match ds with
  | [.int i] => .ok (.int i) st
  | [.bl b] => .ok (.int (if b then 1 else 0)) st
  | _ => .stuck
theorem cd_int : CalD X W (.type "int") fIntOf := cr_weak call_int1 fun xs H Q ⟨g, σ, ρ, st, ds, R, r, k⟩ => by
  unfold fIntOf at k
  split at k
  · obtain ⟨x, rfl, r1⟩ := r.one
    cases r1
    exact .inl ⟨_, rfl, FinG.now k R (.int _)⟩
  · obtain ⟨x, rfl, r1⟩ := r.one
    cases r1
    exact .inr ⟨_, rfl, FinG.now k R (.int _)⟩
  · exact k.elim

/-! ### methods -/
def rMD (X : Cx) (W : WX) (f : D → List D → Sto → Res D) : V → List V → Hp → VK → Prop := fun x xs H Q => ∃ g σ ρ st d ds, Rl X.K g σ H ρ st ∧ Rd X.K g d x ∧ RdL X.K g ds xs ∧ FinG X.K X.mg W (pD X.K) g σ ρ (f d ds st) Q
abbrev MtD (X : Cx) (W : WX) (idn : String) (f : D → List D → Sto → Res D) : Prop := MtR X idn (rMD X W f)
theorem mt_weak {r r' : V → List V → Hp → VK → Prop} (h : MtR X idn r) (k : ∀ x xs H Q, r' x xs H Q → r x xs H Q) : MtR X idn r' := fun pins s σ H x xs v us Q I r1 rs q => h pins s σ H x xs v us Q I r1 rs (k x xs H Q q)
def tcD (T : String) (d : D) (st : Sto) : Bool := match view d st with
  | .str _ => T == "str"
  | .lst _ => T == "list"
  | _ => false
theorem tc_ty {K : PySem.W.Frag} {g : G} {σ : L2.St} {H : Hp} {ρ : Ro} {st : Sto} {d : D} {v : V} {T : String} (R : Rl K g σ H ρ st) (r : Rd K g d v) (h : tcD T d st = true) : tyV K T v H := by
  unfold tcD at h
  split at h
  · rename_i z e
    rw [at_str r e]
    exact eq_of_beq h
  · rename_i l e
    obtain ⟨p, xs, rfl, e1, q1⟩ := at_lst R r e
    exact .inl ⟨eq_of_beq h, xs, .inl (.inl e1)⟩
  · cases h
/-- o.m(..), m a method of the built-in type T -/
def mMeth (T : String) (f : D → List D → Sto → Res D) (o : ME) (as : MEs) : ME := fun ρ st => (o ρ st).bind fun d st => if tcD T d st then (as ρ st).bind fun ds st => f d ds st else .stuck
section
variable {o : Expr} {mo : ME} {name : Str} {apos : Pos} {f : D → List D → Sto → Res D}
theorem de_meth (pa : PlainAttrs T) (slot : Slot T name idn) (hty : typeOf (.builtin idn) = pure (.type "method_descriptor")) (hm : MtD X W idn f) (ho : DE X W o mo) (ha : DA X W (e :: es) ms)
    (hbase : attributeBase o name X.env (eval o X.env) = eval o X.env)
    (hfew : ((backTo pos (starEach (e :: es) X.env)).all (fun x => !x.1) && (backToKw pos (keywordEach [] X.env)).all (fun x => x.1.isSome)
      && decide ((e :: es).length + ([] : List Keyword).length + (if ([] : List Keyword).isEmpty then 0 else 1) < 30)) = true)
    (hline : (apos.endLine == pos.line) = true) (hst : starEach (e :: es) X.env = (false, eval e X.env) :: starEach es X.env) (hplain : (backTo pos (starEach es X.env)).any (·.1) = false) :
    DE X W (.Call (.Attribute o name apos) (e :: es) [] pos) (mMeth T f mo ms) := by
  refine pe_weak (pe_bm pa slot hty hm ho ha hbase hfew hline hst hplain) fun σ H Q ⟨g, ρ, st, R, k⟩ => ⟨g, ρ, st, R, (FinG.bind k).imp fun x H1 ⟨g1, st1, d, e1, R1, r1, k1⟩ => ?_⟩
  by_cases ht : tcD T d st1 = true
  · rw [if_pos ht] at k1
    exact ⟨tc_ty R1 r1 ht, g1, ρ, st1, R1, (FinG.bind k1).imp fun xs H2 ⟨g2, st2, ds, e2, R2, r2, k2⟩ => ⟨g2, σ, ρ, st2, d, ds, R2, r1.mono e2, r2, k2⟩⟩
  · rw [if_neg ht] at k1
    exact k1.elim
theorem de_meth0 (pa : PlainAttrs T) (slot : Slot T name idn) (hty : typeOf (.builtin idn) = pure (.type "method_descriptor")) (hm : MtD X W idn f) (ho : DE X W o mo)
    (hbase : attributeBase o name X.env (eval o X.env) = eval o X.env) (hline : (apos.endLine == pos.line) = true) : DE X W (.Call (.Attribute o name apos) [] [] pos) (mMeth T f mo mNil) := by
  refine pe_weak (pe_bm0 pa slot hty hm ho hbase hline) fun σ H Q ⟨g, ρ, st, R, k⟩ => ⟨g, ρ, st, R, (FinG.bind k).imp fun x H1 ⟨g1, st1, d, e1, R1, r1, k1⟩ => ?_⟩
  by_cases ht : tcD T d st1 = true
  · rw [if_pos ht] at k1
    exact ⟨tc_ty R1 r1 ht, g1, σ, ρ, st1, d, [], R1, r1, .nil, k1⟩
  · rw [if_neg ht] at k1
    exact k1.elim
end
/-! ### of texts -/
def strsOf : List D → Option (List Str)
  | [] => some []
  | .str b :: ds => (strsOf ds).map (b :: ·)
  | _ :: _ => none
theorem strs_of {K : PySem.W.Frag} {g : G} : ∀ {ds : List D} {xs : List V} {bs : List Str}, RdL K g ds xs → strsOf ds = some bs → xs = bs.map V.str
  | _, _, _, .nil, h => by simp only [strsOf, Option.some.injEq] at h; subst h; rfl
  | .str b :: ds, _, bs, .cons r t, h => by
    have h' : (strsOf ds).map (b :: ·) = some bs := h
    cases q : strsOf ds with
    | none => rw [q] at h'; cases h'
    | some l =>
      rw [q] at h'
      cases h'
      cases r
      rw [strs_of t q]
      rfl
  | .non :: _, _, _, .cons _ _, h => by simp [strsOf] at h
  | .int _ :: _, _, _, .cons _ _, h => by simp [strsOf] at h
  | .bl _ :: _, _, _, .cons _ _, h => by simp [strsOf] at h
  | .lst _ :: _, _, _, .cons _ _, h => by simp [strsOf] at h
  | .tup _ :: _, _, _, .cons _ _, h => by simp [strsOf] at h
  | .dic _ :: _, _, _, .cons _ _, h => by simp [strsOf] at h
  | .cell _ :: _, _, _, .cons _ _, h => by simp [strsOf] at h
  | .scr _ :: _, _, _, .cons _ _, h => by simp [strsOf] at h
  | .ty _ :: _, _, _, .cons _ _, h => by simp [strsOf] at h
  | .code _ :: _, _, _, .cons _ _, h => by simp [strsOf] at h
  | .ob .. :: _, _, _, .cons _ _, h => by simp [strsOf] at h
def fJoin (x : D) (ds : List D) (st : Sto) : Res D := match x, ds with
  | .str a, [d] => match view d st with
    | .lst l => optR ((strsOf l).bind fun ys => if (ys.map (·.length)).sum + ys.length * a.length ≤ 100000 then some (D.str (Txt.join a ys)) else none) st
    | .tup l => optR ((strsOf l).bind fun ys => if (ys.map (·.length)).sum + ys.length * a.length ≤ 100000 then some (D.str (Txt.join a ys)) else none) st
    | _ => .stuck
  | _, _ => .stuck
theorem md_join : MtD X W "str.join" fJoin := mt_weak mt_join fun x xs H Q ⟨g, σ, ρ, st, d, ds, R, r0, r, k⟩ => by
  have big : ∀ {n : Nat}, n ≤ 100000 → n ≤ 16777216 := fun h => Nat.le_trans h (by decide)
  unfold fJoin at k
  split at k
  · rename_i a d2
    cases r0
    obtain ⟨y, rfl, r1⟩ := r.one
    split at k
    · rename_i l e
      obtain ⟨p, xs, rfl, e1, q1⟩ := at_lst R r1 e
      cases h : strsOf l with
      | none => rw [h] at k; exact k.elim
      | some ys =>
        rw [h] at k
        have k : FinG X.K X.mg W (pD X.K) g σ ρ (optR (if (ys.map (·.length)).sum + ys.length * a.length ≤ 100000 then some (D.str (Txt.join a ys)) else none) st) Q := k
        by_cases hl : (ys.map (·.length)).sum + ys.length * a.length ≤ 100000
        · rw [if_pos hl] at k
          exact ⟨a, p, ys, rfl, rfl, .inl (.inl (.inl (by rw [← strs_of q1 h]; exact e1))), big hl, FinG.now k R (.str _)⟩
        · rw [if_neg hl] at k
          exact k.elim
    · rename_i l e
      obtain ⟨p, xs, rfl, e1, q1⟩ := at_tup r1 e
      cases h : strsOf l with
      | none => rw [h] at k; exact k.elim
      | some ys =>
        rw [h] at k
        have k : FinG X.K X.mg W (pD X.K) g σ ρ (optR (if (ys.map (·.length)).sum + ys.length * a.length ≤ 100000 then some (D.str (Txt.join a ys)) else none) st) Q := k
        by_cases hl : (ys.map (·.length)).sum + ys.length * a.length ≤ 100000
        · rw [if_pos hl] at k
          exact ⟨a, p, ys, rfl, rfl, .inr (by rw [← strs_of q1 h]; exact stu_sq R.im e1), big hl, FinG.now k R (.str _)⟩
        · rw [if_neg hl] at k
          exact k.elim
    · exact k.elim
  · exact k.elim
def fStr0 (f : Str → Str) (x : D) (ds : List D) (st : Sto) : Res D := match x, ds with
  | .str a, [] => if a.length ≤ 100000 then .ok (.str (f a)) st else .stuck
  | _, _ => .stuck
theorem md_lower : MtD X W "str.lower" (fStr0 Txt.lower) := mt_weak mt_lower fun x xs H Q ⟨g, σ, ρ, st, d, ds, R, r0, r, k⟩ => by
  unfold fStr0 at k
  split at k
  · rename_i a
    cases r0
    cases r
    by_cases hl : a.length ≤ 100000
    · rw [if_pos hl] at k
      exact ⟨a, rfl, rfl, Nat.le_trans hl (by decide), FinG.now k R (.str _)⟩
    · rw [if_neg hl] at k
      exact k.elim
  · exact k.elim
theorem md_upper : MtD X W "str.upper" (fStr0 Txt.upper) := mt_weak mt_upper fun x xs H Q ⟨g, σ, ρ, st, d, ds, R, r0, r, k⟩ => by
  unfold fStr0 at k
  split at k
  · rename_i a
    cases r0
    cases r
    by_cases hl : a.length ≤ 100000
    · rw [if_pos hl] at k
      exact ⟨a, rfl, rfl, Nat.le_trans hl (by decide), FinG.now k R (.str _)⟩
    · rw [if_neg hl] at k
      exact k.elim
  · exact k.elim
def fFind (x : D) (ds : List D) (st : Sto) : Res D := match x, ds with
  | .str a, [.str b] => .ok (.int (Txt.find a b)) st
  | _, _ => .stuck
theorem md_find : MtD X W "str.find" fFind := mt_weak mt_find fun x xs H Q ⟨g, σ, ρ, st, d, ds, R, r0, r, k⟩ => by
  unfold fFind at k
  split at k
  · cases r0
    obtain ⟨y, rfl, r1⟩ := r.one
    cases r1
    exact ⟨_, _, rfl, rfl, FinG.now k R (.int _)⟩
  · exact k.elim
def fEnds (x : D) (ds : List D) (st : Sto) : Res D := match x, ds with
  | .str a, [.str b] => .ok (.bl (Txt.endswith a b)) st
  | _, _ => .stuck
theorem md_ends : MtD X W "str.endswith" fEnds := mt_weak mt_endswith fun x xs H Q ⟨g, σ, ρ, st, d, ds, R, r0, r, k⟩ => by
  unfold fEnds at k
  split at k
  · cases r0
    obtain ⟨y, rfl, r1⟩ := r.one
    cases r1
    exact ⟨_, _, rfl, rfl, FinG.now k R (.bl _)⟩
  · exact k.elim
/-! ### of lists that are cells -/
def setL (i : Nat) (ds : List D) (st : Sto) : Sto := st.set i (.lst ds)
def fAppend (x : D) (ds : List D) (st : Sto) : Res D := match x, ds with
  | .cell i, [d] => match st[i]? with
    | some (.lst l) => if l.length < 100000 then .ok .non (st.set i (.lst (l ++ [d]))) else .stuck
    | _ => .stuck
  | _, _ => .stuck
theorem md_append : MtD X W "list.append" fAppend := mt_weak mt_append fun x xs H Q ⟨g, σ, ρ, st, d, ds, R, r0, r, k⟩ => by
  unfold fAppend at k
  split at k
  · rename_i i d2
    obtain ⟨y, rfl, r1⟩ := r.one
    cases r0 with
    | @cell _ a h1 =>
      split at k
      · rename_i l e
        obtain ⟨n, xs, e1, q1⟩ := R.cell i a _ h1 e
        by_cases hl : l.length < 100000
        · rw [if_pos hl] at k
          refine ⟨a, xs, y, rfl, rfl, e1, by rw [← q1.length]; exact szl (Nat.le_of_lt hl), ?_⟩
          exact k g _ _ (Ext.refl g) (R.write h1 e n ⟨n, _, upd_same, q1.append (.cons r1 .nil)⟩) .non
        · rw [if_neg hl] at k
          exact k.elim
      · exact k.elim
  · exact k.elim
end
end P3

/-! P3E: statements, targets, what is walked, loops, comprehensions. -/
namespace P3
open PySem PySem.Spec PyProof.Rows L2

/-- how a statement ends -/
inductive RS where
  | nx (ρ : Ro) (st : Sto) | rt (d : D) (st : Sto) | bk (ρ : Ro) (st : Sto) | ct (ρ : Ro) (st : Sto) | exc (c n : Str) (d : D) (ρ : Ro) (st : Sto) | stuck
abbrev MS := Ro → Sto → RS
def Res.toS {α : Type} (r : Res α) (ρ : Ro) (f : α → Sto → RS) : RS := match r with
  | .ok a st => f a st
  | .exc c n d st => .exc c n d ρ st
  | .stuck => .stuck
@[simp] theorem toS_ok {α : Type} {a : α} {st : Sto} {ρ : Ro} {f : α → Sto → RS} : (Res.ok a st).toS ρ f = f a st := rfl
@[simp] theorem toS_exc {α : Type} {c n : Str} {d : D} {st : Sto} {ρ : Ro} {f : α → Sto → RS} : (Res.exc c n d st : Res α).toS ρ f = .exc c n d ρ st := rfl
@[simp] theorem toS_stuck {α : Type} {ρ : Ro} {f : α → Sto → RS} : (Res.stuck : Res α).toS ρ f = .stuck := rfl
def FinS (K : PySem.W.Frag) (mg : MG) (W : WX) (g : G) (r : RS) (D : Ends) : Prop := match r with
  | .nx ρ st => ∀ g' H' σ', Ext g g' → Rl K g' σ' H' ρ st → D.nx σ' H'
  | .rt d st => ∀ g' H' v, Ext g g' → Rl K g' [] H' [] st → Rd K g' d v → D.rt v H'
  | .bk ρ st => ∀ g' H' σ', Ext g g' → Rl K g' σ' H' ρ st → D.bk σ' H'
  | .ct ρ st => ∀ g' H' σ', Ext g g' → Rl K g' σ' H' ρ st → D.ct σ' H'
  | .exc c n d ρ st => ∀ g' H' σ' cls dx v, Ext g g' → Rl K g' σ' H' ρ st → mg c = some cls → g'.im dx = some (.xd [(n, v)]) → Rd K g' d v → W cls (some dx) σ' H'
  | .stuck => False
def sRun (K : PySem.W.Frag) (mg : MG) (W : WX) (m : MS) : TS := fun D σ H => ∃ g ρ st, Rl K g σ H ρ st ∧ FinS K mg W g (m ρ st) D
section
variable {α β : Type} {K : PySem.W.Frag} {mg : MG} {W : WX} {P : G → α → β → Prop} {g g1 : G} {σ : L2.St} {H : Hp} {ρ : Ro} {st : Sto} {r : RS} {E : Ends}
theorem FinS.ext (h : FinS K mg W g r E) (e : Ext g g1) : FinS K mg W g1 r E := by
  cases r with
  | nx ρ st => exact fun g' H' σ' e' => h g' H' σ' (e.trans e')
  | rt d st => exact fun g' H' v e' => h g' H' v (e.trans e')
  | bk ρ st => exact fun g' H' σ' e' => h g' H' σ' (e.trans e')
  | ct ρ st => exact fun g' H' σ' e' => h g' H' σ' (e.trans e')
  | exc c n d ρ st => exact fun g' H' σ' cls dx v e' => h g' H' σ' cls dx v (e.trans e')
  | stuck => exact h
theorem FinS.toS {r : Res α} {f : α → Sto → RS} (h : FinS K mg W g (r.toS ρ f) E) :
    FinG K mg W P g σ ρ r (fun b H1 => ∃ g1 st1 a, Ext g g1 ∧ Rl K g1 σ H1 ρ st1 ∧ P g1 a b ∧ FinS K mg W g1 (f a st1) E) := by
  cases r with
  | ok a st => exact fun g' H' b e R p => ⟨g', st, a, e, R, p, FinS.ext h e⟩
  | exc c n d st => exact fun g' H' cls dx v e R => h g' H' σ cls dx v e R
  | stuck => exact h
theorem FinS.nxt {ρ' : Ro} {σ' : L2.St} (h : FinS K mg W g (.nx ρ' st) E) (R : Rl K g σ' H ρ' st) : E.nx σ' H := h g H σ' (Ext.refl g) R
end
abbrev DS (X : Cx) (W : WX) (s : Stmt) (m : MS) : Prop := PS X s (sRun X.K X.mg W m)
abbrev DSs (X : Cx) (W : WX) (s : List Stmt) (m : MS) : Prop := PSs X s (sRun X.K X.mg W m)
theorem ps_weak {X : Cx} {e : Stmt} {t t' : TS} (h : PS X e t) (k : ∀ D σ H, t' D σ H → t D σ H) : PS X e t' := ⟨fun pins s σ H D I q => h.run pins s σ H D I (k D σ H q)⟩
theorem pss_weak {X : Cx} {e : List Stmt} {t t' : TS} (h : PSs X e t) (k : ∀ D σ H, t' D σ H → t D σ H) : PSs X e t' := ⟨fun pins s σ H D I q => h.run pins s σ H D I (k D σ H q)⟩

def sNil : MS := fun ρ st => .nx ρ st
def sSeq (a b : MS) : MS := fun ρ st => match a ρ st with
  | .nx ρ st => b ρ st
  | r => r
def sSet (i : Nat) (m : ME) : MS := fun ρ st => (m ρ st).toS ρ fun d st => .nx (ρ.set i (some d)) st
def sIf (t : MT) (a b : MS) : MS := fun ρ st => (t ρ st).toS ρ fun c st => if c then a ρ st else b ρ st
def sRet (m : ME) : MS := fun ρ st => (m ρ st).toS ρ fun d st => .rt d st
def sRetN : MS := fun _ st => .rt .non st
def sExpr (m : ME) : MS := fun ρ st => (m ρ st).toS ρ fun _ st => .nx ρ st
def sBk : MS := fun ρ st => .bk ρ st
def sCt : MS := fun ρ st => .ct ρ st
def sStuck : MS := fun _ _ => .stuck
section
variable {X : Cx} {W : WX} {s : Stmt} {ss p q : List Stmt} {a b : MS} {e c : Expr} {m : ME} {t : MT} {pos : Pos}
theorem dss_nil : DSs X W [] sNil := pss_weak pss_nil fun D σ H ⟨g, ρ, st, R, k⟩ => FinS.nxt k R
theorem dss_cons (h : DS X W s a) (k : DSs X W ss b) : DSs X W (s :: ss) (sSeq a b) := pss_weak (pss_cons h k) fun D σ H ⟨g, ρ, st, R, q⟩ => ⟨g, ρ, st, R, by
  unfold sSeq at q
  cases hr : a ρ st with
  | nx ρ' st' =>
    rw [hr] at q
    exact fun g' H' σ' e R' => ⟨g', ρ', st', R', FinS.ext q e⟩
  | rt d st' => rw [hr] at q; exact q
  | bk ρ' st' => rw [hr] at q; exact q
  | ct ρ' st' => rw [hr] at q; exact q
  | exc c n d ρ' st' => rw [hr] at q; exact q
  | stuck => rw [hr] at q; exact q⟩
theorem ds_set {i : Nat} {x : Str} {pos' : Pos} (hN : X.N.Nodup) (hi : X.N[i]? = some x) (hx : Loc X.env.scope x) (he : DE X W e m) (hs : swapsWith e (some (.Name x pos')) pos.line X.env = pure false) (hf : X.fn x = true ∨ X.env.scope.names.lookup x = some .local) :
    DS X W (.Assign [.Name x pos'] e pos) (sSet i m) := ps_weak (ps_set hN hi hx he hs hf) fun D σ H ⟨g, ρ, st, R, k⟩ => ⟨g, ρ, st, R, (FinS.toS k).imp fun x H1 ⟨g1, st1, d, e1, R1, r1, k1⟩ => FinS.nxt k1 (R1.set r1)⟩
theorem ds_if (ht : DT X W c t) (ha : DSs X W p a) (hb : DSs X W q b) : DS X W (.If c p q pos) (sIf t a b) := ps_weak (ps_if ht ha hb) fun D σ H ⟨g, ρ, st, R, k⟩ => ⟨g, ρ, st, R, (FinS.toS k).imp fun x H1 ⟨g1, st1, d, e1, R1, r1, k1⟩ => by
  obtain rfl : x = d := r1
  cases x with
  | true => exact iteT ⟨g1, ρ, st1, R1, k1⟩
  | false => exact iteF ⟨g1, ρ, st1, R1, k1⟩⟩
theorem ds_ret (he : DE X W e m) : DS X W (.Return (some e) pos) (sRet m) := ps_weak (ps_ret he) fun D σ H ⟨g, ρ, st, R, k⟩ => ⟨g, ρ, st, R, (FinS.toS k).imp fun x H1 ⟨g1, st1, d, e1, R1, r1, k1⟩ => k1 g1 _ _ (Ext.refl g1) R1.bare r1⟩
theorem ds_retN : DS X W (.Return none pos) sRetN := ps_weak ps_retN fun D σ H ⟨g, ρ, st, R, k⟩ => k g _ _ (Ext.refl g) R.bare .non
theorem ds_expr (he : DE X W e m) (hs : swapsWith e none pos.line X.env = pure false) : DS X W (.Expr e pos) (sExpr m) := ps_weak (ps_expr he hs) fun D σ H ⟨g, ρ, st, R, k⟩ => ⟨g, ρ, st, R, (FinS.toS k).imp fun x H1 ⟨g1, st1, d, e1, R1, r1, k1⟩ => FinS.nxt k1 R1⟩
theorem ds_pass : DS X W (.Pass pos) sNil := ps_weak ps_pass fun D σ H ⟨g, ρ, st, R, k⟩ => FinS.nxt k R
theorem ds_bk : DS X W (.Break pos) sBk := ps_weak ps_break fun D σ H ⟨g, ρ, st, R, k⟩ => k g H σ (Ext.refl g) R
theorem ds_ct : DS X W (.Continue pos) sCt := ps_weak ps_continue fun D σ H ⟨g, ρ, st, R, k⟩ => k g H σ (Ext.refl g) R
theorem ds_stuck : DS X W s sStuck := ps_weak ps_never fun D σ H ⟨g, ρ, st, R, k⟩ => k
theorem ds_doc {x : Str} {j : Nat} {p2 : Pos} : DS X W (.Expr (.Constant (.str x) j p2) pos) sNil := ps_weak ps_doc fun D σ H ⟨g, ρ, st, R, k⟩ => FinS.nxt k R
end

/-! ### targets: a name, a tuple of names -/
inductive Tg where
  | name (i : Nat) | tup (is : List Nat)
def Tg.slots : Tg → List Nat
  | .name i => [i]
  | .tup is => is
def setAll {α : Type} : List (Option α) → List Nat → List α → List (Option α)
  | l, i :: is, d :: ds => setAll (l.set i (some d)) is ds
  | l, _, _ => l
def gtD (t : Tg) (d : D) (ρ : Ro) : Option Ro := match t with
  | .name i => some (ρ.set i (some d))
  | .tup is => match d with
    | .tup ds => if ds.length = is.length then some (setAll ρ is ds) else none
    | _ => none
def gNs : List Nat → TGs
  | [] => gNil
  | i :: is => gCons (gName i) (gNs is)
def gT (K : PySem.W.Frag) : Tg → TG
  | .name i => gName i
  | .tup is => gTup K is.length (gNs is)
theorem rl_setAll {K : PySem.W.Frag} {g : G} {H : Hp} {st : Sto} : ∀ {is : List Nat} {ds : List D} {vs : List V} {σ : L2.St} {ρ : Ro}, Rl K g σ H ρ st → RdL K g ds vs → Rl K g (setAll σ is vs) H (setAll ρ is ds) st
  | [], _, _, _, _, R, _ => by cases ‹RdL K g _ _› <;> exact R
  | _ :: _, [], _, _, _, R, .nil => R
  | i :: is, d :: ds, v :: vs, σ, ρ, R, .cons h t => by
    show Rl K g (setAll (σ.set i (some v)) is vs) H (setAll (ρ.set i (some d)) is ds) st
    exact rl_setAll (R.set h) t
theorem gns_run : ∀ {is : List Nat} {vs : List V} {σ : L2.St} {H : Hp} {Q : L2.St → Hp → Prop}, vs.length = is.length → Q (setAll σ is vs) H → gNs is vs σ H Q
  | [], [], _, _, _, _, h => ⟨rfl, h⟩
  | i :: is, v :: vs, σ, H, Q, hl, h => ⟨v, vs, rfl, gns_run (by simpa using hl) h⟩
theorem gt_run {K : PySem.W.Frag} {g : G} {σ : L2.St} {H : Hp} {ρ ρ' : Ro} {st : Sto} {t : Tg} {d : D} {v : V} {Q : L2.St → Hp → Prop} (R : Rl K g σ H ρ st) (r : Rd K g d v) (h : gtD t d ρ = some ρ')
    (k : ∀ σ' ws, σ' = setAll σ t.slots ws → Rl K g σ' H ρ' st → Q σ' H) : gT K t v σ H Q := by
  cases t with
  | name i =>
    cases h
    exact k _ [v] rfl (R.set r)
  | tup is =>
    unfold gtD at h
    cases d with
    | tup ds =>
      have h' : (if ds.length = is.length then some (setAll ρ is ds) else none) = some ρ' := h
      by_cases hl : ds.length = is.length
      · rw [if_pos hl] at h'
        cases h'
        cases r with
        | tup h1 h2 =>
          refine ⟨_, _, rfl, stu_sq R.im h1, by rw [← h2.length]; exact hl, gns_run (by rw [← h2.length]; exact hl) (k _ _ rfl (rl_setAll R h2))⟩
      · rw [if_neg hl] at h'
        cases h'
    | _ => cases h
theorem pg_names {X : Cx} (hN : X.N.Nodup) : ∀ {es : List Expr} {is : List Nat}, PGs X es (gNs is) → PGs X es (gNs is) := fun h => h
/-- target = value -/
def sAsg (t : Tg) (m : ME) : MS := fun ρ st => (m ρ st).toS ρ fun d st => match gtD t d ρ with
  | some ρ' => .nx ρ' st
  | none => .stuck
section
variable {X : Cx} {W : WX} {e tg : Expr} {m : ME} {pos : Pos} {t : Tg}
theorem ds_asg (he : DE X W e m) (hg : PG X tg (gT X.K t)) (hs : swapsWithSole [tg] e pos.line X.env = pure false) (hw : swappedStores [tg] e X.env = pure none) (h1 : (assignEach [tg] X.env).map (·.2) = [assign tg X.env]) :
    DS X W (.Assign [tg] e pos) (sAsg t m) := ps_weak (ps_asg he hg hs hw h1) fun D σ H ⟨g, ρ, st, R, k⟩ => ⟨g, ρ, st, R, (FinS.toS k).imp fun x H1 ⟨g1, st1, d, e1, R1, r1, k1⟩ => by
  cases h : gtD t d ρ with
  | none => rw [h] at k1; exact k1.elim
  | some ρ' =>
    rw [h] at k1
    exact gt_run R1 r1 h fun σ' _ _ R' => FinS.nxt k1 R'⟩
/-- xs[i] = e, xs a cell -/
def sSetIx (mo mi me : ME) : MS := fun ρ st => (me ρ st).toS ρ fun d st => (mo ρ st).toS ρ fun o st => (mi ρ st).toS ρ fun i st => match o, i with
  | .cell c, .int k => match st[c]? with
    | some (.lst l) => match ixN l.length k with
      | some j => .nx ρ (st.set c (.lst (l.set j d)))
      | none => .stuck
    | some (.dic kvs) => if kvs.length ≤ 100000 then .nx ρ (st.set c (.dic (putK2 kvs (.inl k) d))) else .stuck
    | _ => .stuck
  | .cell c, .str z => match st[c]? with
    | some (.dic kvs) => if kvs.length ≤ 100000 then .nx ρ (st.set c (.dic (putK2 kvs (.inr z) d))) else .stuck
    | _ => .stuck
  | _, _ => .stuck
def rSetLD (o i v : V) (H : Hp) (Q : Hp → Prop) : Prop := rSetL o i v H Q ∨ ∃ a H', o = .ref a ∧ DPut H a i v H' ∧ Q H'
theorem set_LD {X : Cx} (hu : X.A.units + 1 < cLine) : PSet X rSetLD := fun pins s σ H o i v ov iv u Q I ro ri rv h => by
  rcases h with h | ⟨a, H', rfl, h, q⟩
  · exact set_list pins s σ H o i v ov iv u Q I ro ri rv h
  · obtain rfl : ov = Value.ref a := ro
    exact d_setItem hu I h ri rv fun s' I' => ⟨H', I', q⟩
theorem blwL_set {n : Nat} {d : D} (hd : d.blw n = true) : ∀ {l : List D} (j : Nat), blwL n l = true → blwL n (l.set j d) = true
  | [], _, h => h
  | x :: l, 0, h => by
    have h' : (x.blw n && blwL n l) = true := h
    rw [Bool.and_eq_true] at h'
    show (d.blw n && blwL n l) = true
    rw [hd, h'.2]
    rfl
  | x :: l, j + 1, h => by
    have h' : (x.blw n && blwL n l) = true := h
    rw [Bool.and_eq_true] at h'
    show (x.blw n && blwL n (l.set j d)) = true
    rw [h'.1, blwL_set hd j h'.2]
    rfl
theorem ds_setIx {o i : Expr} {mo mi : ME} {tpos : Pos} (hu : X.A.units + 1 < cLine) (ho : DE X W o mo) (hi : DE X W i mi) (he : DE X W e m)
    (ha : ∀ v, assign (.Subscript o i tpos) X.env v = (do
      let ov ← holding [v] (eval o X.env)
      let iv ← holding [v, ov] (eval i X.env)
      standAt tpos
      holding [v, ov, iv] (setItem ov iv v)
      release [v, ov, iv] []))
    (hs : swapsWithSole [.Subscript o i tpos] e pos.line X.env = pure false) (hw : swappedStores [.Subscript o i tpos] e X.env = pure none) (h1 : (assignEach [.Subscript o i tpos] X.env).map (·.2) = [assign (.Subscript o i tpos) X.env]) :
    DS X W (.Assign [.Subscript o i tpos] e pos) (sSetIx mo mi m) := ps_weak (ps_asg he (pg_sub ho hi (set_LD hu) ha) hs hw h1) fun D σ H ⟨g, ρ, st, R, k⟩ =>
  ⟨g, ρ, st, R, (FinS.toS k).imp fun x H1 ⟨g1, st1, d, e1, R1, r1, k1⟩ => ⟨g1, ρ, st1, R1, (FinS.toS k1).imp fun y H2 ⟨g2, st2, d2, e2, R2, r2, k2⟩ => ⟨g2, ρ, st2, R2, (FinS.toS k2).imp fun z H3 ⟨g3, st3, d3, e3, R3, r3, k3⟩ => by
    have r1 := (r1.mono e2).mono e3
    have r2 := r2.mono e3
    cases d2 with
    | cell c =>
      cases r2 with
      | @cell _ ad h1 =>
        cases el : st3[c]? with
        | none => cases d3 <;> simp only [el] at k3 <;> exact k3.elim
        | some cl =>
          cases cl with
          | lst l =>
            cases d3 with
            | int kk =>
              dsimp only at k3
              rw [el] at k3
              dsimp only at k3
              cases r3
              obtain ⟨n, xs, ex, q1⟩ := R3.cell c ad _ h1 el
              cases hj : ixN l.length kk with
              | none => rw [hj] at k3; exact k3.elim
              | some j =>
                rw [hj] at k3
                dsimp only at k3
                refine .inl ⟨ad, xs, kk, j, rfl, rfl, ex, by rw [← q1.length]; exact hj, ?_⟩
                exact FinS.nxt k3 (R3.write h1 el n ⟨n, _, upd_same, q1.set r1 j⟩)
            | str z => dsimp only at k3; rw [el] at k3; exact k3.elim
            | _ => exact k3.elim
          | dic kvs =>
            have fin : ∀ kk : Key, z = kV kk → FinS X.K X.mg W g3 (if kvs.length ≤ 100000 then .nx ρ (st3.set c (.dic (putK2 kvs kk d))) else .stuck) D → rSetLD (.ref ad) z x H3 (fun H' => D.nx σ H') := by
              intro kk ez k4
              obtain ⟨n, kx, ex, q1, q2⟩ := R3.cell c ad _ h1 el
              have rk : RdK X.K g3 kvs kx := ⟨q1, q2⟩
              by_cases hl : kvs.length ≤ 100000
              · rw [if_pos hl] at k4
                have rp := rk.put (k := kk) r1
                refine .inr ⟨ad, _, rfl, .inl ⟨kx, kk, ex, ez, by rw [← rk.length, sizeLine_eq]; omega, rfl⟩, ?_⟩
                exact FinS.nxt k4 (R3.write h1 el n ⟨n, _, upd_same, rp.1, rp.2⟩)
              · rw [if_neg hl] at k4
                exact k4.elim
            cases d3 with
            | int kk =>
              dsimp only at k3
              rw [el] at k3
              cases r3
              exact fin (.inl kk) rfl k3
            | str zz =>
              dsimp only at k3
              rw [el] at k3
              cases r3
              exact fin (.inr zz) rfl k3
            | _ => exact k3.elim
          | _ => cases d3 <;> simp only [el] at k3 <;> exact k3.elim
    | _ => cases d3 <;> exact k3.elim⟩⟩⟩
end

/-! ### what is walked -/
structure Src where
  nxt : Nat → Sto → Option (Option D)
  fuel : Nat
def SrcOk (K : PySem.W.Frag) (g0 : G) (S : Src) (J : It) : Prop := ∀ (g : G) (σ : L2.St) (H : Hp) (ρ : Ro) (st : Sto) (i : Nat), Ext g0 g → Rl K g σ H ρ st →
  (S.nxt i st = some none → J.stop i H) ∧ ∀ x, S.nxt i st = some (some x) → J.go i H ∧ ∀ v H', J.yld i H v H' → ∃ g', Ext g g' ∧ Rl K g' σ H' ρ st ∧ Rd K g' x v
abbrev MI := Ro → Sto → Res Src
def iRun (K : PySem.W.Frag) (mg : MG) (W : WX) (m : MI) : TI := fun σ H R => ∃ g ρ st, Rl K g σ H ρ st ∧ FinG K mg W (fun g S J => SrcOk K g S J) g σ ρ (m ρ st) R
abbrev DI (X : Cx) (W : WX) (tg e : Expr) (m : MI) : Prop := PI X tg e (iRun X.K X.mg W m)
theorem pi_weak {X : Cx} {tg e : Expr} {t t' : TI} (h : PI X tg e t) (k : ∀ σ H R, t' σ H R → t σ H R) : PI X tg e t' := ⟨fun pins s σ H R I q => h.run pins s σ H R I (k σ H R q)⟩
def srcL (d : D) (n : Nat) : Src := ⟨fun i st => match view d st with
  | .lst l => some l[i]?
  | _ => none, n⟩
def srcT (l : List D) : Src := ⟨fun i _ => some l[i]?, l.length + 1⟩
def srcZ (z : Str) : Src := ⟨fun i _ => some ((z.cps[i]?).map fun c => D.str ⟨#[c]⟩), z.cps.size + 1⟩
def srcR (lo : Int) (n : Nat) : Src := ⟨fun i _ => if i < n then some (some (.int (lo + i))) else some none, n + 1⟩
def srcOf (d : D) (st : Sto) : Res Src := match view d st with
  | .lst l => .ok (srcL d (l.length + 1)) st
  | .tup l => .ok (srcT l) st
  | .str z => .ok (srcZ z) st
  | _ => .stuck
def iSeq (m : ME) : MI := fun ρ st => (m ρ st).bind fun d st => srcOf d st
theorem ok_srcL {K : PySem.W.Frag} {g0 : G} {d : D} {a : Addr} {n : Nat} (r : Rd K g0 d (.ref a)) : SrcOk K g0 (srcL d n) (Itl K a) := by
  intro g σ H ρ st i e R
  have r' := r.mono e
  constructor
  · intro h
    have h' : (match view d st with
      | .lst l => some l[i]?
      | _ => none) = some none := h
    split at h'
    · rename_i l hl
      obtain ⟨p, xs, ep, e1, q1⟩ := at_lst R r' hl
      cases ep
      refine ⟨xs, .inl (.inl e1), ?_⟩
      rw [← q1.length]
      exact List.getElem?_eq_none_iff.mp (Option.some.inj h')
    · cases h'
  · intro x h
    have h' : (match view d st with
      | .lst l => some l[i]?
      | _ => none) = some (some x) := h
    split at h'
    · rename_i l hl
      obtain ⟨p, xs, ep, e1, q1⟩ := at_lst R r' hl
      cases ep
      obtain ⟨v, hv, rv⟩ := q1.get (Option.some.inj h')
      refine ⟨⟨xs, v, .inl (.inl e1), hv⟩, fun w H' y => ?_⟩
      obtain ⟨e2, y⟩ := y
      subst e2
      have e3 := y xs (.inl (.inl e1))
      rw [hv] at e3
      cases e3
      exact ⟨g, Ext.refl g, R, rv⟩
    · cases h'
theorem ok_srcT {K : PySem.W.Frag} {g0 : G} {l : List D} {a : Addr} {xs : List V} (h1 : STu K g0.im a xs) (h2 : RdL K g0 l xs) : SrcOk K g0 (srcT l) (Itt K a) := by
  intro g σ H ρ st i e R
  have hq : SqT K H a xs := stu_sq R.im (stu_im e.1 h1)
  constructor
  · intro h
    refine ⟨xs, hq, ?_⟩
    rw [← h2.length]
    exact List.getElem?_eq_none_iff.mp (Option.some.inj h)
  · intro x h
    obtain ⟨v, hv, rv⟩ := h2.get (Option.some.inj h)
    refine ⟨⟨xs, v, hq, hv⟩, fun w H' y => ?_⟩
    obtain ⟨e2, y⟩ := y
    subst e2
    have e3 := y xs hq
    rw [hv] at e3
    cases e3
    exact ⟨g, Ext.refl g, R, rv.mono e⟩
theorem ok_srcZ {K : PySem.W.Frag} {g0 : G} {z : Str} : SrcOk K g0 (srcZ z) (Its z) := by
  intro g σ H ρ st i e R
  constructor
  · intro h
    have h' : (z.cps[i]?).map (fun c => D.str ⟨#[c]⟩) = none := Option.some.inj h
    have h2 : z.cps[i]? = none := by
      cases q : z.cps[i]? with
      | none => rfl
      | some c => rw [q] at h'; cases h'
    exact Array.getElem?_eq_none_iff.mp h2
  · intro x h
    have h' : (z.cps[i]?).map (fun c => D.str ⟨#[c]⟩) = some x := Option.some.inj h
    cases q : z.cps[i]? with
    | none => rw [q] at h'; cases h'
    | some c =>
      rw [q] at h'
      cases h'
      have hi : i < z.cps.size := by
        have := Array.getElem?_eq_some_iff.mp q
        exact this.1
      refine ⟨hi, fun w H' y => ?_⟩
      obtain ⟨e2, c', ec, rfl⟩ := y
      subst e2
      rw [q] at ec
      cases ec
      exact ⟨g, Ext.refl g, R, .str _⟩
theorem ok_srcR {K : PySem.W.Frag} {g0 : G} {lo : Int} {n : Nat} : SrcOk K g0 (srcR lo n) (Itr lo n) := by
  intro g σ H ρ st i e R
  constructor
  · intro h
    have h' : (if i < n then some (some (D.int (lo + i))) else some none) = some none := h
    by_cases hi : i < n
    · rw [if_pos hi] at h'
      cases h'
    · exact Nat.le_of_not_lt hi
  · intro x h
    have h' : (if i < n then some (some (D.int (lo + i))) else some none) = some (some x) := h
    by_cases hi : i < n
    · rw [if_pos hi] at h'
      cases h'
      refine ⟨hi, fun w H' y => ?_⟩
      obtain ⟨e2, rfl⟩ := y
      subst e2
      exact ⟨g, Ext.refl g, R, .int _⟩
    · rw [if_neg hi] at h'
      cases h'
section
variable {X : Cx} {W : WX} {tg e : Expr} {m : ME} {pos : Pos}
theorem di_seq (he : DE X W e m) : DI X W tg e (iSeq m) := by
  refine ⟨fun pins s σ H R0 I h => ?_⟩
  obtain ⟨g, ρ, st, R, k⟩ := h
  unfold iSeq at k
  cases hm : m ρ st with
  | stuck => rw [hm] at k; exact k.elim
  | exc c n d st' =>
    rw [hm] at k
    exact (pi_list he).run pins s σ H R0 I ⟨g, ρ, st, R, by rw [hm]; exact k⟩
  | ok d st' =>
    rw [hm] at k
    have k : FinG X.K X.mg W (fun g S J => SrcOk X.K g S J) g σ ρ (srcOf d st') R0 := k
    unfold srcOf at k
    split at k
    · rename_i l hl
      refine (pi_list he).run pins s σ H R0 I ⟨g, ρ, st, R, by
        rw [hm]
        intro g' H' b e' R' r
        obtain ⟨a, xs, eb, e1, q1⟩ := at_lst R' r hl
        have eb' : b = .ref a := eb
        subst eb'
        exact ⟨a, rfl, ⟨xs, .inl (.inl e1)⟩, k g' H' (Itl X.K a) e' R' (ok_srcL r)⟩⟩
    · rename_i l hl
      refine (pi_tup he).run pins s σ H R0 I ⟨g, ρ, st, R, by
        rw [hm]
        intro g' H' b e' R' r
        obtain ⟨a, xs, eb, e1, q1⟩ := at_tup r hl
        have eb' : b = .ref a := eb
        subst eb'
        exact ⟨a, rfl, ⟨xs, stu_sq R'.im e1⟩, k g' H' (Itt X.K a) e' R' (ok_srcT e1 q1)⟩⟩
    · rename_i z hz
      refine (pi_str he).run pins s σ H R0 I ⟨g, ρ, st, R, by
        rw [hm]
        intro g' H' b e' R' r
        obtain rfl := at_str r hz
        exact ⟨z, rfl, k g' H' (Its z) e' R' ok_srcZ⟩⟩
    · exact k.elim
end
end P3

/-! P3F: ranges, loops, comprehensions. -/
namespace P3
open PySem PySem.Spec PyProof.Rows L2
section
variable {X : Cx} {W : WX} {tg e : Expr} {es : List Expr} {m : ME} {ms : MEs} {pos p : Pos}
def iOn (f : List D → Sto → Res Src) (ms : MEs) : MI := fun ρ st => (ms ρ st).bind f
def srcRange (ds : List D) (st : Sto) : Res Src := match ds with
  | [.int j] => if -(2 ^ 62) ≤ j ∧ j < 2 ^ 62 then .ok (srcR 0 j.toNat) st else .stuck
  | [.int i, .int j] => if -(2 ^ 62) ≤ i ∧ i < 2 ^ 62 ∧ -(2 ^ 62) ≤ j ∧ j < 2 ^ 62 then .ok (srcR i (j - i).toNat) st else .stuck
  | _ => .stuck
theorem di_range1 (hg : Gl X "range") (hm : X.mg "range" = none) (ha : DA X W [e] ms) (hs : starEach [e] X.env = [(false, eval e X.env)]) (hl : ∀ ρ st ds st', ms ρ st = .ok ds st' → ds.length = 1) :
    DI X W tg (.Call (.Name "range" p) [e] [] pos) (iOn srcRange ms) :=
  pi_weak (pi_range1 hg hm ha hs) fun σ H R0 ⟨g, ρ, st, R, k⟩ => ⟨g, ρ, st, R, by
    unfold iOn at k
    cases hms : ms ρ st with
    | stuck => rw [hms] at k; exact k.elim
    | exc c n d st' => rw [hms] at k; exact k
    | ok ds st' =>
      rw [hms] at k
      have hlen := hl ρ st ds st' hms
      intro g' H' b e' R' r
      have k : FinG X.K X.mg W (fun g S J => SrcOk X.K g S J) g σ ρ (srcRange ds st') R0 := k
      match ds, hlen, r, k with
      | [d], _, r, k =>
        obtain ⟨x, rfl, r1⟩ := r.one
        cases d with
        | int j =>
          cases r1
          have k : FinG X.K X.mg W (fun g S J => SrcOk X.K g S J) g σ ρ (if -(2 ^ 62) ≤ j ∧ j < 2 ^ 62 then .ok (srcR 0 j.toNat) st' else .stuck) R0 := k
          by_cases hj : -(2 ^ 62) ≤ j ∧ j < 2 ^ 62
          · rw [if_pos hj] at k
            exact ⟨j, rfl, hj.1, hj.2, k g' H' _ e' R' ok_srcR⟩
          · rw [if_neg hj] at k
            exact k.elim
        | _ => exact k.elim⟩
theorem di_range2 {a b : Expr} (hg : Gl X "range") (hm : X.mg "range" = none) (ha : DA X W [a, b] ms) (hs : starEach [a, b] X.env = [(false, eval a X.env), (false, eval b X.env)]) (hs2 : starEach [b] X.env = [(false, eval b X.env)])
    (hl : ∀ ρ st ds st', ms ρ st = .ok ds st' → ds.length = 2) :
    DI X W tg (.Call (.Name "range" p) [a, b] [] pos) (iOn srcRange ms) :=
  pi_weak (pi_range2 hg hm ha hs hs2) fun σ H R0 ⟨g, ρ, st, R, k⟩ => ⟨g, ρ, st, R, by
    unfold iOn at k
    cases hms : ms ρ st with
    | stuck => rw [hms] at k; exact k.elim
    | exc c n d st' => rw [hms] at k; exact k
    | ok ds st' =>
      rw [hms] at k
      have hlen := hl ρ st ds st' hms
      intro g' H' b e' R' r
      have k : FinG X.K X.mg W (fun g S J => SrcOk X.K g S J) g σ ρ (srcRange ds st') R0 := k
      match ds, hlen, r, k with
      | [d, d2], _, r, k =>
        obtain ⟨x, y, rfl, r1, r2⟩ := r.two
        cases d with
        | int i =>
          cases d2 with
          | int j =>
            cases r1
            cases r2
            have k : FinG X.K X.mg W (fun g S J => SrcOk X.K g S J) g σ ρ (if -(2 ^ 62) ≤ i ∧ i < 2 ^ 62 ∧ -(2 ^ 62) ≤ j ∧ j < 2 ^ 62 then .ok (srcR i (j - i).toNat) st' else .stuck) R0 := k
            by_cases hj : -(2 ^ 62) ≤ i ∧ i < 2 ^ 62 ∧ -(2 ^ 62) ≤ j ∧ j < 2 ^ 62
            · rw [if_pos hj] at k
              exact ⟨i, j, rfl, hj, k g' H' _ e' R' ok_srcR⟩
            · rw [if_neg hj] at k
              exact k.elim
          | _ => exact k.elim
        | _ => exact k.elim⟩
theorem len_nil : ∀ {ρ : Ro} {st : Sto} {ds : List D} {st' : Sto}, mNil ρ st = .ok ds st' → ds.length = 0 := fun h => by cases h; rfl
theorem len_cons {n : Nat} {m : ME} {ms : MEs} (h : ∀ ρ st ds st', ms ρ st = .ok ds st' → ds.length = n) : ∀ ρ st ds st', mCons m ms ρ st = .ok ds st' → ds.length = n + 1 := fun ρ st ds st' e => by
  unfold mCons at e
  cases h1 : m ρ st with
  | ok a st1 =>
    rw [h1] at e
    have e : ((ms ρ st1).bind fun xs st => .ok (a :: xs) st) = Res.ok ds st' := e
    cases h2 : ms ρ st1 with
    | ok xs st2 =>
      rw [h2] at e
      cases e
      rw [List.length_cons, h ρ st1 xs _ h2]
    | exc c n d st2 => rw [h2] at e; cases e
    | stuck => rw [h2] at e; cases e
  | exc c n d st1 => rw [h1] at e; cases e
  | stuck => rw [h1] at e; cases e

/-! ### loops -/
def sLoop (S : Src) (t : Tg) (b : MS) : Nat → Nat → Ro → Sto → RS
  | 0, _, _, _ => .stuck
  | f + 1, i, ρ, st => match S.nxt i st with
    | none => .stuck
    | some none => .nx ρ st
    | some (some x) => match gtD t x ρ with
      | none => .stuck
      | some ρ1 => match b ρ1 st with
        | .nx ρ' st' => sLoop S t b f (i + 1) ρ' st'
        | .ct ρ' st' => sLoop S t b f (i + 1) ρ' st'
        | .bk ρ' st' => .nx ρ' st'
        | r => r
def sFor (m : MI) (t : Tg) (b : MS) : MS := fun ρ st => (m ρ st).toS ρ fun S st => sLoop S t b S.fuel 0 ρ st
theorem ds_for {body : List Stmt} {mi : MI} {t : Tg} {b : MS} (hp : PassesOwn (model X.prog X.w) X.A X.env X.xe) (hc : X.calm = true) (hi : DI X W tg e mi) (hg : PG X tg (gT X.K t)) (hb : DSs X W body b)
    (hs : ∀ x, foldedSetIterable e X.env x = pure x) : DS X W (.For tg e body [] pos) (sFor mi t b) := ps_weak (ps_for hp hc hi hg hb hs) fun E σ H ⟨g, ρ, st, R, k⟩ =>
  ⟨g, ρ, st, R, (FinS.toS (P := fun g S J => SrcOk X.K g S J) k).imp fun J H1 ⟨g1, st1, S, e1, R1, ok, k1⟩ => by
    refine ⟨fun i f σ' H' => ∃ g' ρ' st', Ext g1 g' ∧ Rl X.K g' σ' H' ρ' st' ∧ FinS X.K X.mg W g' (sLoop S t b f i ρ' st') E, ⟨S.fuel, g1, ρ, st1, Ext.refl g1, R1, k1⟩, ?_⟩
    rintro i f σ2 H2 ⟨g2, ρ2, st2, e2, R2, k2⟩
    cases f with
    | zero => exact k2.elim
    | succ f =>
      obtain ⟨hstop, hgo⟩ := ok g2 σ2 H2 ρ2 st2 i e2 R2
      unfold sLoop at k2
      cases hn : S.nxt i st2 with
      | none => rw [hn] at k2; exact k2.elim
      | some o =>
        rw [hn] at k2
        cases o with
        | none => exact .inl ⟨hstop hn, FinS.nxt k2 R2⟩
        | some x =>
          obtain ⟨go, hy⟩ := hgo x hn
          refine .inr ⟨go, fun σ' H' => ∃ g' ρ' st', Ext g1 g' ∧ Rl X.K g' σ' H' ρ' st' ∧ FinS X.K X.mg W g' (sLoop S t b f (i + 1) ρ' st') E, fun σ' H' h => ⟨f, Nat.lt_succ_self f, h⟩, fun v H' y => ?_⟩
          obtain ⟨g3, e3, R3, r3⟩ := hy v H' y
          dsimp only at k2
          cases hgt : gtD t x ρ2 with
          | none => rw [hgt] at k2; exact k2.elim
          | some ρ1 =>
            rw [hgt] at k2
            dsimp only at k2
            refine gt_run R3 r3 hgt fun σ' _ _ R' => ⟨g3, ρ1, st2, R', ?_⟩
            cases hbd : b ρ1 st2 with
            | nx ρ' st' =>
              rw [hbd] at k2
              exact fun g' H'' σ'' e' R'' => ⟨g', ρ', st', (e2.trans e3).trans e', R'', FinS.ext (FinS.ext k2 e3) e'⟩
            | ct ρ' st' =>
              rw [hbd] at k2
              exact fun g' H'' σ'' e' R'' => ⟨g', ρ', st', (e2.trans e3).trans e', R'', FinS.ext (FinS.ext k2 e3) e'⟩
            | bk ρ' st' =>
              rw [hbd] at k2
              exact fun g' H'' σ'' e' R'' => k2 g' H'' σ'' (e3.trans e') R''
            | rt d st' =>
              rw [hbd] at k2
              exact fun g' H'' v e' => k2 g' H'' v (e3.trans e')
            | exc c n d ρ' st' =>
              rw [hbd] at k2
              exact fun g' H'' σ' cls dx v e' => k2 g' H'' σ' cls dx v (e3.trans e')
            | stuck => rw [hbd] at k2; exact k2.elim⟩

/-! ### comprehensions -/
def wipeR : Ro → List Nat → Ro
  | ρ, [] => ρ
  | ρ, v :: vs => (wipeR ρ vs).set v none
theorem wipeR_length (ρ : Ro) : ∀ vs : List Nat, (wipeR ρ vs).length = ρ.length
  | [] => rfl
  | v :: vs => by unfold wipeR; rw [List.length_set, wipeR_length ρ vs]
theorem wipeR_some {ρ : Ro} {i : Nat} {x : D} : ∀ {vs : List Nat}, (wipeR ρ vs)[i]? = some (some x) → ρ[i]? = some (some x) ∧ i ∉ vs
  | [], h => ⟨h, by simp⟩
  | v :: vs, h => by
    unfold wipeR at h
    by_cases hi : v = i
    · subst hi
      by_cases hv : v < (wipeR ρ vs).length
      · rw [List.getElem?_set_self hv] at h; cases h
      · rw [List.getElem?_eq_none (by simpa using hv)] at h; cases h
    · rw [List.getElem?_set_ne hi] at h
      obtain ⟨h1, h2⟩ := wipeR_some h
      exact ⟨h1, by simp only [List.mem_cons, not_or]; exact ⟨fun e => hi e.symm, h2⟩⟩
theorem wipe_get {σ : L2.St} {i : Nat} : ∀ {vs : List Nat}, i ∉ vs → (wipe σ vs)[i]? = σ[i]?
  | [], _ => rfl
  | v :: vs, h => by
    unfold wipe
    rw [List.getElem?_set_ne (fun e => h (by simp [e])), wipe_get fun q => h (List.mem_cons_of_mem _ q)]
theorem Rl.wipe {K : PySem.W.Frag} {g : G} {σ : L2.St} {H : Hp} {ρ : Ro} {st : Sto} (R : Rl K g σ H ρ st) (vs : List Nat) : Rl K g (L2.wipe σ vs) H (wipeR ρ vs) st :=
  R.slots (fun i d h => by
    obtain ⟨h1, h2⟩ := wipeR_some h
    obtain ⟨v, h3, r⟩ := R.sl i d h1
    exact ⟨v, by rw [wipe_get h2]; exact h3, r⟩) (by rw [wipeR_length, wipe_length]; exact R.le)
theorem wipe_set {σ : L2.St} {i : Nat} {x : Option V} : ∀ {vs : List Nat}, i ∈ vs → L2.wipe (σ.set i x) vs = L2.wipe σ vs
  | [], h => by simp at h
  | v :: vs, h => by
    show (L2.wipe (σ.set i x) vs).set v none = (L2.wipe σ vs).set v none
    by_cases hi : i ∈ vs
    · rw [wipe_set hi]
    · have hv : i = v := by
        rcases List.mem_cons.mp h with q | q
        · exact q
        · exact absurd q hi
      subst hv
      have comm : ∀ {ws : List Nat} {τ : L2.St}, i ∉ ws → L2.wipe (τ.set i x) ws = (L2.wipe τ ws).set i x := by
        intro ws
        induction ws with
        | nil => intro τ _; rfl
        | cons w ws ih =>
          intro τ hw
          show (L2.wipe (τ.set i x) ws).set w none = ((L2.wipe τ ws).set w none).set i x
          rw [ih fun q => hw (List.mem_cons_of_mem _ q), List.set_comm _ _ (fun e => hw (by simp [e]))]
      rw [comm hi, List.set_set]
theorem wipe_setAll {vs : List Nat} : ∀ {is : List Nat} {ws : List V} {σ : L2.St}, (∀ i ∈ is, i ∈ vs) → L2.wipe (setAll σ is ws) vs = L2.wipe σ vs
  | [], _, _, _ => by
    rename_i ws σ _
    cases ws <;> rfl
  | _ :: _, [], _, _ => rfl
  | i :: is, w :: ws, σ, h => by
    show L2.wipe (setAll (σ.set i (some w)) is ws) vs = L2.wipe σ vs
    rw [wipe_setAll fun j hj => h j (List.mem_cons_of_mem _ hj), wipe_set (h i List.mem_cons_self)]
theorem wipe_wipe {σ : L2.St} {vs : List Nat} : L2.wipe (L2.wipe σ vs) vs = L2.wipe σ vs := by
  have gen : ∀ (us : List Nat) (τ : L2.St), (∀ i ∈ us, i ∈ vs) → L2.wipe (L2.wipe τ us) vs = L2.wipe τ vs := by
    intro us
    induction us with
    | nil => intro τ _; rfl
    | cons u us ih =>
      intro τ h
      show L2.wipe ((L2.wipe τ us).set u none) vs = L2.wipe τ vs
      rw [wipe_set (h u List.mem_cons_self), ih τ fun j hj => h j (List.mem_cons_of_mem _ hj)]
  exact gen vs σ fun _ h => h
/-- no exception leaves it -/
def Res.calm {α : Type} (r : Res α) : Res α := match r with
  | .ok a st => .ok a st
  | _ => .stuck
@[simp] theorem calm_ok {α : Type} {a : α} {st : Sto} : (Res.ok a st).calm = .ok a st := rfl
def cLoop (S : Src) (t : Tg) (tt : MT) (me : ME) (n : Nat) : Nat → Nat → Ro → Sto → Res Unit
  | 0, _, _, _ => .stuck
  | f + 1, i, ρ, st => match S.nxt i st with
    | none => .stuck
    | some none => .ok () st
    | some (some x) => match gtD t x ρ with
      | none => .stuck
      | some ρ1 => (tt ρ1 st).calm.bind fun b st1 => if b then (me ρ1 st1).calm.bind fun d st2 => match st2[n]? with
          | some (.lst acc) => if acc.length < 100000 then cLoop S t tt me n f (i + 1) ρ (st2.set n (.lst (acc ++ [d]))) else .stuck
          | _ => .stuck
        else cLoop S t tt me n f (i + 1) ρ st1
def W0 : WX := fun _ _ _ _ => False
def mYes : MT := fun _ st => .ok true st
abbrev DTs (X : Cx) (W : WX) (l : List Expr) (m : MT) : Prop := PTs X l (tMT X.K X.mg W m)
theorem pts_weak {X : Cx} {e : List Expr} {t t' : TT} (h : PTs X e t) (k : ∀ σ H Q, t' σ H Q → t σ H Q) : PTs X e t' := ⟨fun pins s σ H Q I q => h.run pins s σ H Q I (k σ H Q q)⟩
theorem dts_nil : DTs X W [] mYes := pts_weak pts_nil fun σ H Q ⟨g, ρ, st, R, k⟩ => FinG.now k R rfl
theorem dts_one {c : Expr} {t : MT} (h : DT X W c t) : DTs X W [c] t := pts_one h
/-- the last cell is let go, or becomes a tree -/
theorem Rl.drop {K : PySem.W.Frag} {g : G} {H : Hp} {st : Sto} (R : Rl K g [] H [] st) {n : Nat} (hn : n ≤ st.length) (hw : ∀ i c, i < n → st[i]? = some c → c.blw n = true) : Rl K ⟨g.im, g.ph.take n, g.lo⟩ [] H [] (st.take n) := by
  have hph : ∀ i a, i < n → g.ph[i]? = some a → (g.ph.take n)[i]? = some a := fun i a hi e => by rw [List.getElem?_take_of_lt hi]; exact e
  refine ⟨R.im, R.nd.sublist (List.take_sublist _ _), ?_, fun i a c h1 h2 => ?_, fun i d h => by simp at h, Nat.le_refl _⟩
  · show (g.ph.take n).length = (st.take n).length
    rw [List.length_take, List.length_take, R.len]
  · have hi : i < n := by
      have := (List.getElem?_eq_some_iff.mp h2).1
      rw [List.length_take] at this
      omega
    have h1' : (g.ph.take n)[i]? = some a := h1
    rw [List.getElem?_take_of_lt hi] at h1' h2
    have q := R.cell i a c h1' h2
    have w := hw i c hi h2
    cases c with
    | lst ds =>
      obtain ⟨z, xs, e, r⟩ := q
      exact ⟨z, xs, e, RdL.cut (g := g) (g' := ⟨g.im, g.ph.take n, g.lo⟩) (n := n) (fun _ _ h => h) (fun j b hj => hph j b hj) w r⟩
    | dic kvs =>
      obtain ⟨z, xs, e, k, r⟩ := q
      have w' : blwL n (kvs.map (·.2)) = true := by rw [← blwK_map]; exact w
      exact ⟨z, xs, e, k, RdL.cut (g := g) (g' := ⟨g.im, g.ph.take n, g.lo⟩) (n := n) (fun _ _ h => h) (fun j b hj => hph j b hj) w' r⟩
    | lck kvs =>
      obtain ⟨z, od, xs, l, e, k, r⟩ := q
      have w' : blwL n (kvs.map (·.2)) = true := by rw [← blwK_map]; exact w
      exact ⟨z, od, xs, l, e, k, RdL.cut (g := g) (g' := ⟨g.im, g.ph.take n, g.lo⟩) (n := n) (fun _ _ h => h) (fun j b hj => hph j b hj) w' r⟩
    | obj c ks ds =>
      obtain ⟨z, C, dx, fv, hc, e, k, r⟩ := q
      exact ⟨z, C, dx, fv, hc, e, k, RdL.cut (g := g) (g' := ⟨g.im, g.ph.take n, g.lo⟩) (n := n) (fun _ _ h => h) (fun j b hj => hph j b hj) w r⟩
    | gone => exact q
/-! ### what was made is frozen: young cells become trees -/
mutual
def D.sub (n : Nat) (f : Nat → Option D) : D → Option D
  | .lst xs => (subL n f xs).map .lst
  | .tup xs => (subL n f xs).map .tup
  | .dic kvs => (subK n f kvs).map .dic
  | .cell i => if i < n then some (.cell i) else f i
  | .non => some .non
  | .bl b => some (.bl b)
  | .int i => some (.int i)
  | .str s => some (.str s)
  | .scr ns => some (.scr ns)
  | .ty n => some (.ty n)
  | .code x => some (.code x)
  | .ob c ks ds => (subL n f ds).map (.ob c ks)
def subL (n : Nat) (f : Nat → Option D) : List D → Option (List D)
  | [] => some []
  | d :: ds => match d.sub n f, subL n f ds with
    | some d', some ds' => some (d' :: ds')
    | _, _ => none
def subK (n : Nat) (f : Nat → Option D) : List (Key × D) → Option (List (Key × D))
  | [] => some []
  | (k, d) :: ds => match d.sub n f, subK n f ds with
    | some d', some ds' => some ((k, d') :: ds')
    | _, _ => none
end
def frzF (st : Sto) (n : Nat) : Nat → Nat → Option D
  | 0, _ => none
  | k + 1, i => match st[i]? with
    | some (.lst l) => (subL n (frzF st n k) l).map .lst
    | some (.dic kvs) => (subK n (frzF st n k) kvs).map .dic
    | some (.obj c ks ds) => (subL n (frzF st n k) ds).map (.ob c ks)
    | _ => none
mutual
theorem sub_blw {n : Nat} {f : Nat → Option D} : ∀ {d : D}, d.blw n = true → d.sub n f = some d
  | .lst xs, h => by
    show (subL n f xs).map D.lst = _
    rw [subL_blw (ds := xs) h]; rfl
  | .tup xs, h => by
    show (subL n f xs).map D.tup = _
    rw [subL_blw (ds := xs) h]; rfl
  | .dic kvs, h => by
    show (subK n f kvs).map D.dic = _
    rw [subK_blw (ds := kvs) h]; rfl
  | .cell i, h => by
    show (if i < n then some (D.cell i) else f i) = _
    rw [if_pos (by simpa [D.blw] using h)]
  | .non, _ => rfl
  | .bl _, _ => rfl
  | .int _, _ => rfl
  | .str _, _ => rfl
  | .scr _, _ => rfl
  | .ty _, _ => rfl
  | .code _, _ => rfl
  | .ob c ks ds, h => by
    show (subL n f ds).map (D.ob c ks) = _
    rw [subL_blw (ds := ds) h]; rfl
theorem subL_blw {n : Nat} {f : Nat → Option D} : ∀ {ds : List D}, blwL n ds = true → subL n f ds = some ds
  | [], _ => rfl
  | d :: ds, h => by
    have h' : (d.blw n && blwL n ds) = true := h
    rw [Bool.and_eq_true] at h'
    show (match d.sub n f, subL n f ds with
      | some d', some ds' => some (d' :: ds')
      | _, _ => none) = _
    rw [sub_blw (d := d) h'.1, subL_blw (ds := ds) h'.2]
theorem subK_blw {n : Nat} {f : Nat → Option D} : ∀ {ds : List (Key × D)}, blwK n ds = true → subK n f ds = some ds
  | [], _ => rfl
  | (k, d) :: ds, h => by
    have h' : (d.blw n && blwK n ds) = true := h
    rw [Bool.and_eq_true] at h'
    show (match d.sub n f, subK n f ds with
      | some d', some ds' => some ((k, d') :: ds')
      | _, _ => none) = _
    rw [sub_blw (d := d) h'.1, subK_blw (ds := ds) h'.2]
end
theorem subK_keys {n : Nat} {f : Nat → Option D} : ∀ {ds ds' : List (Key × D)}, subK n f ds = some ds' → ds'.map (·.1) = ds.map (·.1) ∧ subL n f (ds.map (·.2)) = some (ds'.map (·.2))
  | [], ds', h => by cases h; exact ⟨rfl, rfl⟩
  | (k, d) :: ds, ds', h => by
    unfold subK at h
    split at h
    · rename_i d1 ds1 h1 h2
      cases h
      obtain ⟨i1, i2⟩ := subK_keys h2
      refine ⟨by rw [List.map_cons, List.map_cons, i1], ?_⟩
      show (match d.sub n f, subL n f (ds.map (·.2)) with
        | some d', some ds' => some (d' :: ds')
        | _, _ => none) = _
      rw [h1, i2]
      rfl
    · cases h
section
variable {K : PySem.W.Frag} {g g' : G} {n : Nat} {f : Nat → Option D}
mutual
theorem sub_rd (him : ∀ a o, g.im a = some o → g'.im a = some o) (hph : ∀ i a, i < n → g.ph[i]? = some a → g'.ph[i]? = some a) (hf : ∀ i a d, n ≤ i → g.ph[i]? = some a → f i = some d → Rd K g' d (.ref a)) : ∀ {d d' : D} {v : V}, d.sub n f = some d' → Rd K g d v → Rd K g' d' v
  | .non, _, _, h, .non => by cases h; exact .non
  | .bl b, _, _, h, .bl _ => by cases h; exact .bl b
  | .int i, _, _, h, .int _ => by cases h; exact .int i
  | .str s, _, _, h, .str _ => by cases h; exact .str s
  | .ty s, _, _, h, .ty _ => by cases h; exact .ty s
  | .code _, _, _, h, .code r => by cases h; exact .code r
  | .ob c ks ds, d', _, h, .ob hc h1 k p r => by
    have h : (subL n f ds).map (D.ob c ks) = some d' := h
    rw [Option.map_eq_some_iff] at h
    obtain ⟨ds', h2, rfl⟩ := h
    exact .ob hc (him _ _ h1) k p (subL_rd him hph hf h2 r)
  | .scr _, _, _, h, .scr r => by cases h; exact .scr (seqL_im him r)
  | .lst ds, d', _, h, .lst h1 r => by
    have h : (subL n f ds).map D.lst = some d' := h
    rw [Option.map_eq_some_iff] at h
    obtain ⟨ds', h2, rfl⟩ := h
    exact .lst (him _ _ h1) (subL_rd him hph hf h2 r)
  | .tup ds, d', _, h, .tup h1 r => by
    have h : (subL n f ds).map D.tup = some d' := h
    rw [Option.map_eq_some_iff] at h
    obtain ⟨ds', h2, rfl⟩ := h
    exact .tup (stu_im him h1) (subL_rd him hph hf h2 r)
  | .dic kvs, d', _, h, .dic h1 k p q r => by
    have h : (subK n f kvs).map D.dic = some d' := h
    rw [Option.map_eq_some_iff] at h
    obtain ⟨ds', h2, rfl⟩ := h
    obtain ⟨e1, e2⟩ := subK_keys h2
    exact .dic (rdIm him h1) (e1.trans k) rfl q (subL_rd him hph hf (p ▸ e2) r)
  | .cell i, d', _, h, .cell h1 => by
    have h : (if i < n then some (D.cell i) else f i) = some d' := h
    by_cases hi : i < n
    · rw [if_pos hi] at h
      cases h
      exact .cell (hph _ _ hi h1)
    · rw [if_neg hi] at h
      exact hf _ _ _ (Nat.le_of_not_lt hi) h1 h
theorem subL_rd (him : ∀ a o, g.im a = some o → g'.im a = some o) (hph : ∀ i a, i < n → g.ph[i]? = some a → g'.ph[i]? = some a) (hf : ∀ i a d, n ≤ i → g.ph[i]? = some a → f i = some d → Rd K g' d (.ref a)) : ∀ {d d' : List D} {v : List V}, subL n f d = some d' → RdL K g d v → RdL K g' d' v
  | _, _, _, h, .nil => by cases h; exact .nil
  | d :: ds, _, _, h, .cons r1 r2 => by
    unfold subL at h
    split at h
    · rename_i d1 ds1 h1 h2
      cases h
      exact .cons (sub_rd him hph hf h1 r1) (subL_rd him hph hf h2 r2)
    · cases h
end
end
def youngAt (g : G) (st : Sto) (n : Nat) (a : Addr) : Prop := ∃ i, n ≤ i ∧ g.ph[i]? = some a ∧ ((∃ l, st[i]? = some (.lst l)) ∨ (∃ l, st[i]? = some (.dic l)) ∨ ∃ c ks ds, st[i]? = some (.obj c ks ds))
open Classical in
noncomputable def frzG (g : G) (H : Hp) (st : Sto) (n : Nat) : G := ⟨fun a => if youngAt g st n a then H a else g.im a, g.ph.take n, g.lo⟩
open Classical in
theorem Rl.freeze {K : PySem.W.Frag} {g : G} {H : Hp} {st : Sto} (R : Rl K g [] H [] st) {n : Nat} (hn : n ≤ st.length) (hw : ∀ i c, i < n → st[i]? = some c → c.blw n = true) :
    Rl K (frzG g H st n) [] H [] (st.take n) ∧ (∀ b o, g.im b = some o → (frzG g H st n).im b = some o) ∧ (∀ i a, i < n → g.ph[i]? = some a → (frzG g H st n).ph[i]? = some a) ∧
      ∀ k i a d, n ≤ i → g.ph[i]? = some a → frzF st n k i = some d → Rd K (frzG g H st n) d (.ref a) := by
  have yno : ∀ {a : Addr}, youngAt g st n a → g.im a = none := fun {a} ⟨i, hi, h1, h2⟩ => by
    rcases h2 with ⟨l, h2⟩ | ⟨l, h2⟩ | ⟨c, ks, ds, h2⟩
    · exact (R.cell i a _ h1 h2).1
    · exact (R.cell i a _ h1 h2).1
    · exact (R.cell i a _ h1 h2).1
  have him : ∀ b o, g.im b = some o → (frzG g H st n).im b = some o := fun b o q => by
    have ny : ¬ youngAt g st n b := fun y => by rw [yno y] at q; cases q
    show (if youngAt g st n b then H b else g.im b) = some o
    rw [if_neg ny]
    exact q
  have hph : ∀ i a, i < n → g.ph[i]? = some a → (frzG g H st n).ph[i]? = some a := fun i a hi e => by
    show (g.ph.take n)[i]? = some a
    rw [List.getElem?_take_of_lt hi]
    exact e
  have R' := R.drop hn hw
  have ex : Ext ⟨g.im, g.ph.take n, g.lo⟩ (frzG g H st n) := ⟨him, [], by simp [frzG], rfl⟩
  refine ⟨⟨fun b o q => ?_, R'.nd, R'.len, fun i b c k1 k2 => ?_, fun i d h => by simp at h, Nat.le_refl _⟩, him, hph, ?_⟩
  · have q : (if youngAt g st n b then H b else g.im b) = some o := q
    by_cases y : youngAt g st n b
    · rw [if_pos y] at q; exact q
    · rw [if_neg y] at q; exact R.im b o q
  · have q := R'.cell i b c k1 k2
    have k1' : (g.ph.take n)[i]? = some b := k1
    have hi : i < n := by
      have := (List.getElem?_eq_some_iff.mp k1').1
      rw [List.length_take] at this
      omega
    rw [List.getElem?_take_of_lt hi] at k1'
    have ny : ¬ youngAt g st n b := fun ⟨j, hj, h1, _⟩ => by
      have := nodup_at R.nd k1' h1
      omega
    have e0 : (frzG g H st n).im b = g.im b := by
      show (if youngAt g st n b then H b else g.im b) = g.im b
      rw [if_neg ny]
    cases c with
    | lst es =>
      obtain ⟨z', ys, e', r'⟩ := q
      exact ⟨e0.trans z', ys, e', r'.mono ex⟩
    | dic kvs =>
      obtain ⟨z', ys, e', k', r'⟩ := q
      exact ⟨e0.trans z', ys, e', k', r'.mono ex⟩
    | lck kvs =>
      obtain ⟨z', od, ys, l', e', k', r'⟩ := q
      exact ⟨e0.trans z', od, ys, l', e', k', r'.mono ex⟩
    | obj c ks ds =>
      obtain ⟨z', C, dx, fv, hc, e', k', r'⟩ := q
      exact ⟨e0.trans z', C, dx, fv, hc, e', k', r'.mono ex⟩
    | gone => exact q
  · intro k
    induction k with
    | zero => intro i a d _ _ h; cases h
    | succ k ih =>
      intro i a d hi h1 h
      unfold frzF at h
      split at h
      · rename_i l hl
        rw [Option.map_eq_some_iff] at h
        obtain ⟨l', h2, rfl⟩ := h
        obtain ⟨z, xs, e, r⟩ := R.cell i a _ h1 hl
        refine .lst (xs := xs) ?_ (subL_rd him hph ih h2 r)
        show (if youngAt g st n a then H a else g.im a) = _
        rw [if_pos ⟨i, hi, h1, .inl ⟨l, hl⟩⟩]
        exact e
      · rename_i l hl
        rw [Option.map_eq_some_iff] at h
        obtain ⟨l', h2, rfl⟩ := h
        obtain ⟨z, kx, e, ek, r⟩ := R.cell i a _ h1 hl
        obtain ⟨e1, e2⟩ := subK_keys h2
        refine .dic (kx := kx) (.inl ?_) (e1.trans ek) rfl rfl (subL_rd him hph ih e2 r)
        show (if youngAt g st n a then H a else g.im a) = _
        rw [if_pos ⟨i, hi, h1, .inr (.inl ⟨l, hl⟩)⟩]
        exact e
      · rename_i c ks ds hl
        rw [Option.map_eq_some_iff] at h
        obtain ⟨ds', h2, rfl⟩ := h
        obtain ⟨z, C, dx, fv, hc, e, ek, r⟩ := R.cell i a _ h1 hl
        refine .ob hc (dx := dx) (fv := fv) ?_ ek rfl (subL_rd him hph ih h2 r)
        show (if youngAt g st n a then H a else g.im a) = _
        rw [if_pos ⟨i, hi, h1, .inr (.inr ⟨c, ks, ds, hl⟩)⟩]
        exact e
      · cases h
/-! ### the end of what made cells -/
open Classical in
/-- what it made is let go but for what it hands back (fz: that becomes a tree); all is kept where elder cells hold younger ones -/
noncomputable def fin (fz : Bool) (st0 : Sto) (d : D) (st : Sto) : Res D :=
  if OldB st0 st then
    if d.blw st0.length = true then .ok d (st.take st0.length) else if fz then (match d.sub st0.length (frzF st st0.length 8) with
      | some d' => .ok d' (st.take st0.length)
      | none => .ok d st) else match d with
      | .cell j => match st[j]? with
        | some (.lst l) => if st0.length ≤ j ∧ blwL st0.length l = true then .ok (.cell st0.length) (st.take st0.length ++ [.lst l]) else .ok d st
        | _ => .ok d st
      | d => .ok d st
  else .ok d st
theorem Rl.moved {K : PySem.W.Frag} {g : G} {H : Hp} {st : Sto} (R : Rl K g [] H [] st) {n j : Nat} {b : Addr} {ds : List D} (hn : n ≤ j) (h1 : g.ph[j]? = some b) (h2 : st[j]? = some (.lst ds)) (hb : blwL n ds = true) (hw : ∀ i c, i < n → st[i]? = some c → c.blw n = true) :
    Rl K ⟨g.im, g.ph.take n ++ [b], g.lo⟩ [] H [] (st.take n ++ [.lst ds]) := by
  obtain ⟨z, xs, e, r⟩ := R.cell j b _ h1 h2
  have hj : j < st.length := (List.getElem?_eq_some_iff.mp h2).1
  have R' := R.drop (n := n) (by omega) hw
  have hl : (g.ph.take n).length = n := by
    rw [List.length_take, R.len]
    omega
  have hl2 : (st.take n).length = n := by
    rw [List.length_take]
    omega
  have ex : Ext ⟨g.im, g.ph.take n, g.lo⟩ ⟨g.im, g.ph.take n ++ [b], g.lo⟩ := ⟨fun _ _ q => q, [b], rfl, rfl⟩
  refine ⟨R.im, ?_, ?_, fun i c cl k1 k2 => ?_, fun i d q => by simp at q, Nat.le_refl _⟩
  · show (g.ph.take n ++ [b]).Nodup
    rw [List.nodup_append]
    refine ⟨R'.nd, by simp, fun c hc d hd => ?_⟩
    have hd' : d = b := by simpa using hd
    rw [hd']
    intro q
    subst q
    obtain ⟨i, hi⟩ := List.getElem?_of_mem hc
    have hlt : i < n := by
      have := (List.getElem?_eq_some_iff.mp hi).1
      omega
    rw [List.getElem?_take_of_lt hlt] at hi
    have := nodup_at R.nd hi h1
    omega
  · show (g.ph.take n ++ [b]).length = (st.take n ++ [Cl.lst ds]).length
    rw [List.length_append, List.length_append, hl, hl2]
    rfl
  · have k1' : (g.ph.take n ++ [b])[i]? = some c := k1
    by_cases hi : i < n
    · rw [List.getElem?_append_left (by omega)] at k1' k2
      have q := R'.cell i c cl k1' k2
      cases cl with
      | lst es =>
        obtain ⟨z', ys, e', r'⟩ := q
        exact ⟨z', ys, e', r'.mono ex⟩
      | dic kvs =>
        obtain ⟨z', ys, e', q', r'⟩ := q
        exact ⟨z', ys, e', q', r'.mono ex⟩
      | lck kvs =>
        obtain ⟨z', od, ys, l', e', q', r'⟩ := q
        exact ⟨z', od, ys, l', e', q', r'.mono ex⟩
      | obj c2 ks ds2 =>
        obtain ⟨z', C, dx, fv, hc, e', k', r'⟩ := q
        exact ⟨z', C, dx, fv, hc, e', k', r'.mono ex⟩
      | gone => exact q
    · rw [List.getElem?_append_right (by omega), hl] at k1'
      rw [List.getElem?_append_right (by omega), hl2] at k2
      cases hk : i - n with
      | zero =>
        rw [hk] at k1' k2
        simp at k1' k2
        subst k1' k2
        refine ⟨z, xs, e, RdL.cut (g := g) (g' := ⟨g.im, g.ph.take n ++ [b], g.lo⟩) (n := n) (fun _ _ q => q) (fun i c hi q => ?_) hb r⟩
        show (g.ph.take n ++ [b])[i]? = some c
        rw [List.getElem?_append_left (by omega), List.getElem?_take_of_lt hi]
        exact q
      | succ m =>
        rw [hk] at k1'
        simp at k1'
theorem fin_run {K : PySem.W.Frag} {mg : MG} {W : WX} {fz : Bool} {g0 g : G} {H0 H : Hp} {σ σ1 : L2.St} {ρ ρ1 : Ro} {st0 st : Sto} {d : D} {v : V} {Q : VK} (R0 : Rl K g0 σ H0 ρ st0) (e : Ext g0 g) (R : Rl K g σ1 H ρ1 st) (r : Rd K g d v) (k : FinG K mg W (pD K) g0 σ ρ (fin fz st0 d st) Q) : Q v H := by
  have keep : FinG K mg W (pD K) g0 σ ρ (.ok d st) Q → Q v H := fun k => k g H v e (R0.back e R.bare) r
  unfold fin at k
  by_cases ho : OldB st0 st
  · rw [if_pos ho] at k
    have hn := ho.1
    have hw := ho.wf R0
    have R := R.bare
    obtain ⟨e1, t, e2, elo⟩ := e
    have hph0 : g.ph.take st0.length = g0.ph := by
      rw [e2, ← R0.len]
      simp
    have keepph : ∀ i b, i < st0.length → g.ph[i]? = some b → (g.ph.take st0.length)[i]? = some b := fun i b hi q => by
      rw [List.getElem?_take_of_lt hi]
      exact q
    by_cases hb : d.blw st0.length = true
    · rw [if_pos hb] at k
      have ee : Ext g0 ⟨g.im, g.ph.take st0.length, g.lo⟩ := ⟨e1, [], by show g.ph.take st0.length = g0.ph ++ []; rw [hph0, List.append_nil], elo⟩
      exact k ⟨g.im, g.ph.take st0.length, g.lo⟩ H v ee (R0.back ee (R.drop hn hw)) (Rd.cut (g := g) (g' := ⟨g.im, g.ph.take st0.length, g.lo⟩) (n := st0.length) (fun _ _ q => q) keepph hb r)
    · rw [if_neg hb] at k
      cases fz with
      | true =>
        rw [if_pos rfl] at k
        obtain ⟨RT, him, hph, hfr⟩ := R.freeze hn hw
        split at k
        · rename_i d' hd
          have ee : Ext g0 (frzG g H st st0.length) := ⟨fun c o q => him c o (e1 c o q), [], by
            show g.ph.take st0.length = g0.ph ++ []
            rw [hph0, List.append_nil], elo⟩
          exact k (frzG g H st st0.length) H v ee (R0.back ee RT) (sub_rd him hph (fun i a d hi ha hf => hfr 8 i a d hi ha hf) hd r)
        · exact keep k
      | false =>
        rw [if_neg Bool.false_ne_true] at k
        split at k
        · rename_i j
          split at k
          · rename_i l hs
            by_cases hc : st0.length ≤ j ∧ blwL st0.length l = true
            · rw [if_pos hc] at k
              cases r with
              | @cell _ b hj =>
                have ee : Ext g0 ⟨g.im, g.ph.take st0.length ++ [b], g.lo⟩ := ⟨e1, [b], by show g.ph.take st0.length ++ [b] = g0.ph ++ [b]; rw [hph0], elo⟩
                refine k ⟨g.im, g.ph.take st0.length ++ [b], g.lo⟩ H _ ee (R0.back ee (R.moved hc.1 hj hs hc.2 hw)) (.cell ?_)
                show (g.ph.take st0.length ++ [b])[st0.length]? = some b
                rw [hph0, ← R0.len]
                simp
            · rw [if_neg hc] at k
              exact keep k
          · exact keep k
        · exact keep k
  · rw [if_neg ho] at k
    exact keep k
noncomputable def mComp (c : Bool) (mi : MI) (t : Tg) (tt : MT) (me : ME) (vs : List Nat) : ME := fun ρ st => (mi ρ st).bind fun S st1 =>
  (cLoop S t tt me st1.length S.fuel 0 (wipeR ρ vs) (st1 ++ [.lst []])).bind fun _ st2 => fin (!c) st (.cell st1.length) st2
theorem FinG.calm {α β : Type} {K : PySem.W.Frag} {mg : MG} {W : WX} {P : G → α → β → Prop} {g : G} {σ : L2.St} {ρ : Ro} {r : Res α} {Q : β → Hp → Prop} (h : FinG K mg W P g σ ρ r.calm Q) : FinG K mg W0 P g σ ρ r Q := by
  cases r with
  | ok a st => exact h
  | exc c n d st => exact h.elim
  | stuck => exact h
/-- [elt for target in iter if ..] -/
theorem lc_run {K : PySem.W.Frag} {mg : MG} {σ : L2.St} {H : Hp} {Q : VK} {c : Bool} {mi : MI} {t : Tg} {tt : MT} {me : ME} {vs : List Nat} (hsub : ∀ i ∈ t.slots, i ∈ vs) (h : tM K mg W (mComp c mi t tt me vs) σ H Q) :
    tLc (iRun K mg W mi) (gT K t) (tMT K mg W0 tt) (tM K mg W0 me) vs σ H Q := by
  obtain ⟨g, ρ, st, R, k⟩ := h
  refine ⟨g, ρ, st, R, (FinG.bindK k).imp fun J H1 ⟨g1, st1, S, e1, R1, ok, k1⟩ L hL => ?_⟩
  have Rn : Rl K (g1.more L) (L2.wipe σ vs) (upd H1 L (.lst [])) (wipeR ρ vs) (st1 ++ [.lst []]) := (R1.more (c := .lst []) hL ⟨R1.fresh hL, [], upd_same, .nil⟩).wipe vs
  have hLn : (g1.more L).ph[st1.length]? = some L := by
    show (g1.ph ++ [L])[st1.length]? = some L
    rw [← R1.len]
    simp
  generalize hF : (fun (_ : Unit) (st2 : Sto) => fin (!c) st (.cell st1.length) st2) = F at k1
  refine ⟨fun i f H' => ∃ g' st', Ext (g1.more L) g' ∧ Rl K g' (L2.wipe σ vs) H' (wipeR ρ vs) st' ∧ FinG K mg W (pD K) g σ ρ ((cLoop S t tt me st1.length f i (wipeR ρ vs) st').bind F) Q, ⟨S.fuel, g1.more L, st1 ++ [.lst []], Ext.refl _, Rn, k1⟩, ?_⟩
  rintro i f H2 ⟨g2, st2, e2, R2, k2⟩
  cases f with
  | zero => exact k2.elim
  | succ f =>
    obtain ⟨hstop, hgo⟩ := ok g2 _ H2 _ st2 i ((g1.more_ext L).trans e2) R2
    unfold cLoop at k2
    cases hn : S.nxt i st2 with
    | none => rw [hn] at k2; exact k2.elim
    | some o =>
      rw [hn] at k2
      cases o with
      | none =>
        refine .inl ⟨hstop hn, ?_⟩
        have k2 : FinG K mg W (pD K) g σ ρ (F () st2) Q := k2
        rw [← hF] at k2
        dsimp only at k2
        exact fin_run R (e1.trans ((g1.more_ext L).trans e2)) R2 (.cell (e2.ph hLn)) k2
      | some x =>
        obtain ⟨go, hy⟩ := hgo x hn
        refine .inr ⟨go, fun H' => ∃ g' st', Ext (g1.more L) g' ∧ Rl K g' (L2.wipe σ vs) H' (wipeR ρ vs) st' ∧ FinG K mg W (pD K) g σ ρ ((cLoop S t tt me st1.length f (i + 1) (wipeR ρ vs) st').bind F) Q, fun H' h => ⟨f, Nat.lt_succ_self f, h⟩, fun v H' y => ?_⟩
        obtain ⟨g3, e3, R3, r3⟩ := hy v H' y
        dsimp only at k2
        cases hgt : gtD t x (wipeR ρ vs) with
        | none => rw [hgt] at k2; exact k2.elim
        | some ρ1 =>
          rw [hgt] at k2
          dsimp only at k2
          refine gt_run R3 r3 hgt fun σ' ws es R' => ⟨by rw [es, wipe_setAll hsub, wipe_wipe], g3, ρ1, st2, R', ?_⟩
          cases htt : tt ρ1 st2 with
          | stuck => rw [htt] at k2; exact k2.elim
          | exc cc n d st' => rw [htt] at k2; exact k2.elim
          | ok b st3 =>
            rw [htt] at k2
            intro g4 H4 b' e4 R4 eb
            obtain rfl : b' = b := eb
            cases b' with
            | false =>
              refine iteF ⟨g4, st3, (e2.trans e3).trans e4, Rn.back ((e2.trans e3).trans e4) R4.bare, k2⟩
            | true =>
              refine iteT ⟨g4, ρ1, st3, R4, ?_⟩
              cases hme : me ρ1 st3 with
              | stuck =>
                have k2 : FinG K mg W (pD K) g σ ρ ((((me ρ1 st3).calm.bind fun d st2 => match st2[st1.length]? with
                  | some (.lst acc) => if acc.length < 100000 then cLoop S t tt me st1.length f (i + 1) (wipeR ρ vs) (st2.set st1.length (.lst (acc ++ [d]))) else .stuck
                  | _ => .stuck) : Res Unit).bind F) Q := k2
                rw [hme] at k2
                exact k2.elim
              | exc cc n d st' =>
                have k2 : FinG K mg W (pD K) g σ ρ ((((me ρ1 st3).calm.bind fun d st2 => match st2[st1.length]? with
                  | some (.lst acc) => if acc.length < 100000 then cLoop S t tt me st1.length f (i + 1) (wipeR ρ vs) (st2.set st1.length (.lst (acc ++ [d]))) else .stuck
                  | _ => .stuck) : Res Unit).bind F) Q := k2
                rw [hme] at k2
                exact k2.elim
              | ok d st4 =>
                have k2 : FinG K mg W (pD K) g σ ρ ((((me ρ1 st3).calm.bind fun d st2 => match st2[st1.length]? with
                  | some (.lst acc) => if acc.length < 100000 then cLoop S t tt me st1.length f (i + 1) (wipeR ρ vs) (st2.set st1.length (.lst (acc ++ [d]))) else .stuck
                  | _ => .stuck) : Res Unit).bind F) Q := k2
                rw [hme] at k2
                intro g5 H5 z e5 R5 rz
                have eall : Ext (g1.more L) g5 := ((e2.trans e3).trans e4).trans e5
                have hph := eall.ph hLn
                cases hs : st4[st1.length]? with
                | none =>
                  have k2 : FinG K mg W (pD K) g σ ρ (((match st4[st1.length]? with
                    | some (.lst acc) => if acc.length < 100000 then cLoop S t tt me st1.length f (i + 1) (wipeR ρ vs) (st4.set st1.length (.lst (acc ++ [d]))) else .stuck
                    | _ => .stuck) : Res Unit).bind F) Q := k2
                  rw [hs] at k2
                  exact k2.elim
                | some cl =>
                  have k2 : FinG K mg W (pD K) g σ ρ (((match st4[st1.length]? with
                    | some (.lst acc) => if acc.length < 100000 then cLoop S t tt me st1.length f (i + 1) (wipeR ρ vs) (st4.set st1.length (.lst (acc ++ [d]))) else .stuck
                    | _ => .stuck) : Res Unit).bind F) Q := k2
                  rw [hs] at k2
                  cases cl with
                  | lst acc =>
                    dsimp only at k2
                    obtain ⟨nz, xs, ex, rx⟩ := R5.cell _ L _ hph hs
                    by_cases hb : acc.length < 100000
                    · rw [if_pos hb] at k2
                      refine ⟨xs, ex, by rw [← rx.length]; exact szl (Nat.le_of_lt hb), g5, _, eall, Rn.back eall (R5.write (c' := .lst (acc ++ [d])) hph hs nz ⟨nz, _, upd_same, rx.append (.cons rz .nil)⟩).bare, k2⟩
                    · rw [if_neg hb] at k2
                      exact k2.elim
                  | _ => exact k2.elim
theorem de_lc {elt iter : Expr} {ifs : List Expr} {scope : Scope} {own : List (Str × Nat)} {c : Bool} {mi : MI} {t : Tg} {tt : MT} {me : ME} (hc : X.calm = true) (hN : X.N.Nodup) (hsub : ∀ i ∈ t.slots, i ∈ own.map (·.2)) (hi : DI X W tg iter mi) (ok : BlkOk X.N X.env.scope scope own)
    (hg : ∀ (s : Shared) (H : Hp) (C : Addr) (cl : List (Str × Addr)) (fp : List Addr), PG (X.blk s H scope (compEnvC scope cl C X.env) fp) tg (gT X.K t)) (ht : ∀ (s : Shared) (H : Hp) (C : Addr) (cl : List (Str × Addr)) (fp : List Addr), DTs (X.blk s H scope (compEnvC scope cl C X.env) fp) W0 ifs tt)
    (he : ∀ (s : Shared) (H : Hp) (C : Addr) (cl : List (Str × Addr)) (fp : List Addr), DE (X.blk s H scope (compEnvC scope cl C X.env) fp) W0 elt me) (hs : ∀ x, foldedSetIterable iter X.env x = pure x) :
    DE X W (.ListComp elt [⟨tg, iter, ifs, 0⟩] scope pos) (mComp c mi t tt me (own.map (·.2))) := pe_weak (pe_lc hc hN hi ok hg ht he hs) fun σ H Q h => lc_run hsub h
/-- name = [..] -/
theorem ds_setLc {i : Nat} {y : Str} {py spos : Pos} {elt iter : Expr} {ifs : List Expr} {scope : Scope} {own : List (Str × Nat)} {c : Bool} {mi : MI} {t : Tg} {tt : MT} {me : ME} (hc : X.calm = true) (hN : X.N.Nodup) (hy : X.N[i]? = some y) (hyl : X.env.scope.names.lookup y = some .local)
    (hsw : swapsWith (.ListComp elt [⟨tg, iter, ifs, 0⟩] scope pos) (some (.Name y py)) spos.line X.env = pure true) (hsub : ∀ i ∈ t.slots, i ∈ own.map (·.2)) (hi : DI X W tg iter mi) (ok : BlkOk X.N X.env.scope scope own)
    (hg : ∀ (s : Shared) (H : Hp) (C : Addr) (cl : List (Str × Addr)) (fp : List Addr), PG (X.blk s H scope (compEnvC scope cl C X.env) fp) tg (gT X.K t)) (ht : ∀ (s : Shared) (H : Hp) (C : Addr) (cl : List (Str × Addr)) (fp : List Addr), DTs (X.blk s H scope (compEnvC scope cl C X.env) fp) W0 ifs tt)
    (he : ∀ (s : Shared) (H : Hp) (C : Addr) (cl : List (Str × Addr)) (fp : List Addr), DE (X.blk s H scope (compEnvC scope cl C X.env) fp) W0 elt me) (hs : ∀ x, foldedSetIterable iter X.env x = pure x) :
    DS X W (.Assign [.Name y py] (.ListComp elt [⟨tg, iter, ifs, 0⟩] scope pos) spos) (sSet i (mComp c mi t tt me (own.map (·.2)))) :=
  ps_weak (ps_setLc hc hN hy hyl hsw hi ok hg ht he hs) fun E σ H ⟨g, ρ, st, R, k⟩ => lc_run (mg := X.mg) (W := W) (c := c) hsub (show tM X.K X.mg W (mComp c mi t tt me (own.map (·.2))) σ H fun x H1 => gName i x σ H1 E.nx from ⟨g, ρ, st, R, (FinS.toS k).imp fun x H1 ⟨g1, st1, d, e1, R1, r1, k1⟩ => FinS.nxt k1 (R1.set r1)⟩)
end
end P3

/-! P5A: dicts that are walked: they are locked meanwhile. -/
namespace P3
open PySem PySem.Spec PyProof.Rows L2
/-- a dict, locked or not -/
def IsDk (o : HO) (kx : List (Key × V)) : Prop := o = .dK kx ∨ ∃ ob, o = .frz ob (.dK kx)
mutual
theorem Rd.mono2 {K : PySem.W.Frag} {g g' : G} (h : ∀ a o, g.im a = some o → g'.im a = some o ∨ ∃ kx o', IsDk o kx ∧ g'.im a = some o' ∧ IsDk o' kx) (hph : ∀ (i : Nat) (a : Addr), g.ph[i]? = some a → g'.ph[i]? = some a) : ∀ {d : D} {v : V}, Rd K g d v → Rd K g' d v
  | _, _, .non => .non
  | _, _, .bl b => .bl b
  | _, _, .int i => .int i
  | _, _, .str s => .str s
  | _, _, .lst (a := a) e r => .lst (by
      rcases h a _ e with q | ⟨kx, o', q, _⟩
      · exact q
      · rcases q with q | ⟨_, q⟩ <;> cases q) (RdL.mono2 h hph r)
  | _, _, .scr (a := a) e => .scr (by
      rcases e with (e | ⟨o, e⟩) | e
      · rcases h a _ e with q | ⟨kx, o', q, _⟩
        · exact .inl (.inl q)
        · rcases q with q | ⟨_, q⟩ <;> cases q
      · rcases h a _ e with q | ⟨kx, o', q, _⟩
        · exact .inl (.inr ⟨o, q⟩)
        · rcases q with q | ⟨_, q⟩ <;> cases q
      · exact .inr e)
  | _, _, .tup (a := a) e r => .tup (by
      rcases e with e | e
      · rcases h a _ e with q | ⟨kx, o', q, _⟩
        · exact .inl q
        · rcases q with q | ⟨_, q⟩ <;> cases q
      · exact .inr e) (RdL.mono2 h hph r)
  | _, _, .dic (a := a) (kx := kx) e k p q r => .dic (by
      rcases e with e | ⟨ob, e⟩
      · rcases h a _ e with q | ⟨kx', o', q, q1, q2⟩
        · exact .inl q
        · have : kx' = kx := by rcases q with q | ⟨_, q⟩ <;> cases q; rfl
          subst this
          rcases q2 with rfl | ⟨ob, rfl⟩
          · exact .inl q1
          · exact .inr ⟨ob, q1⟩
      · rcases h a _ e with q | ⟨kx', o', q, q1, q2⟩
        · exact .inr ⟨ob, q⟩
        · have : kx' = kx := by rcases q with q | ⟨_, q⟩ <;> cases q; rfl
          subst this
          rcases q2 with rfl | ⟨ob, rfl⟩
          · exact .inl q1
          · exact .inr ⟨ob, q1⟩) k p q (RdL.mono2 h hph r)
  | _, _, .cell e => .cell (hph _ _ e)
  | _, _, .ty n => .ty n
  | _, _, .code e => .code e
  | _, _, .ob (a := a) hc e k p r => .ob hc (by
      rcases h a _ e with q | ⟨kx, o', q, _⟩
      · exact q
      · rcases q with q | ⟨_, q⟩ <;> cases q) k p (RdL.mono2 h hph r)
theorem RdL.mono2 {K : PySem.W.Frag} {g g' : G} (h : ∀ a o, g.im a = some o → g'.im a = some o ∨ ∃ kx o', IsDk o kx ∧ g'.im a = some o' ∧ IsDk o' kx) (hph : ∀ (i : Nat) (a : Addr), g.ph[i]? = some a → g'.ph[i]? = some a) : ∀ {d : List D} {v : List V}, RdL K g d v → RdL K g' d v
  | _, _, .nil => .nil
  | _, _, .cons e r => .cons (Rd.mono2 h hph e) (RdL.mono2 h hph r)
end
theorem RdK.mono {K : PySem.W.Frag} {g g' : G} {kvs : List (Key × D)} {kx : List (Key × V)} (h : RdK K g kvs kx) (e : Ext g g') : RdK K g' kvs kx := ⟨h.1, h.2.mono e⟩
section
variable {K : PySem.W.Frag} {g : G} {σ : L2.St} {H : Hp} {ρ : Ro} {st : Sto}
/-- a cell's thing is another one, and what is locked at it -/
theorem Rl.relo (R : Rl K g σ H ρ st) {l : Hp} {i : Nat} {a : Addr} {o : HO} {c c' : Cl} (h1 : g.ph[i]? = some a) (h2 : st[i]? = some c) (hn : g.im a = none) (hl : ∀ b, b ≠ a → l b = g.lo b) (hc : ClAt K ⟨g.im, g.ph, l⟩ (upd H a o) a c') :
    Rl K ⟨g.im, g.ph, l⟩ σ (upd H a o) ρ (st.set i c') := by
  have tr : ∀ {d : D} {v : V}, Rd K g d v → Rd K ⟨g.im, g.ph, l⟩ d v := fun r => r.mono2 (g := g) (g' := ⟨g.im, g.ph, l⟩) (fun _ _ q => .inl q) fun _ _ q => q
  have trL : ∀ {d : List D} {v : List V}, RdL K g d v → RdL K ⟨g.im, g.ph, l⟩ d v := fun r => r.mono2 (g := g) (g' := ⟨g.im, g.ph, l⟩) (fun _ _ q => .inl q) fun _ _ q => q
  refine ⟨fun b u e => ?_, R.nd, by rw [List.length_set]; exact R.len, fun j b d k1 k2 => ?_, fun j d e => ?_, R.le⟩
  · have nb : b ≠ a := fun z => by
      have e : g.im b = some u := e
      rw [z, hn] at e
      cases e
    rw [upd_ne nb]
    exact R.im b u e
  · by_cases hij : i = j
    · subst hij
      have k1 : g.ph[i]? = some b := k1
      rw [h1] at k1
      cases k1
      have hl : i < st.length := (List.getElem?_eq_some_iff.mp h2).1
      rw [List.getElem?_set_self hl] at k2
      cases k2
      exact hc
    · rw [List.getElem?_set_ne hij] at k2
      have nb : b ≠ a := fun z => by
        subst z
        exact hij (nodup_at R.nd h1 k1)
      have q := R.cell j b d k1 k2
      cases d with
      | lst ds =>
        obtain ⟨n, xs, e, r⟩ := q
        exact ⟨n, xs, by rw [upd_ne nb]; exact e, trL r⟩
      | dic kvs =>
        obtain ⟨n, xs, e, k, r⟩ := q
        exact ⟨n, xs, by rw [upd_ne nb]; exact e, k, trL r⟩
      | lck kvs =>
        obtain ⟨n, od, xs, l', e, k, r⟩ := q
        exact ⟨n, od, xs, (hl b nb).trans l', by rw [upd_ne nb]; exact e, k, trL r⟩
      | gone =>
        obtain ⟨u, hu⟩ := q
        exact ⟨u, by rw [upd_ne nb]; exact hu⟩
      | obj c2 ks ds =>
        obtain ⟨n, C, dx, fv, hk', e, k, r⟩ := q
        exact ⟨n, C, dx, fv, hk', by rw [upd_ne nb]; exact e, k, trL r⟩
  · obtain ⟨v, e1, e2⟩ := R.sl j d e
    exact ⟨v, e1, tr e2⟩
/-- a tree's dict is locked, or is so no more -/
theorem Rl.reim (R : Rl K g σ H ρ st) {a : Addr} {u u' : HO} {kx : List (Key × V)} (h : g.im a = some u) (hu : IsDk u kx) (hu' : IsDk u' kx) : Rl K ⟨upd g.im a u', g.ph, g.lo⟩ σ (upd H a u') ρ st ∧ ∀ {d : D} {v : V}, Rd K g d v → Rd K ⟨upd g.im a u', g.ph, g.lo⟩ d v := by
  have hm : ∀ b o, g.im b = some o → (upd g.im a u') b = some o ∨ ∃ kx o', IsDk o kx ∧ (upd g.im a u') b = some o' ∧ IsDk o' kx := fun b o q => by
    by_cases hb : b = a
    · subst hb
      rw [h] at q
      cases q
      exact .inr ⟨kx, u', hu, upd_same, hu'⟩
    · exact .inl (by rw [upd_ne hb]; exact q)
  have tr : ∀ {d : D} {v : V}, Rd K g d v → Rd K ⟨upd g.im a u', g.ph, g.lo⟩ d v := fun r => r.mono2 (g := g) (g' := ⟨upd g.im a u', g.ph, g.lo⟩) hm fun _ _ q => q
  have trL : ∀ {d : List D} {v : List V}, RdL K g d v → RdL K ⟨upd g.im a u', g.ph, g.lo⟩ d v := fun r => r.mono2 (g := g) (g' := ⟨upd g.im a u', g.ph, g.lo⟩) hm fun _ _ q => q
  refine ⟨⟨fun b o e => ?_, R.nd, R.len, fun j b d k1 k2 => ?_, fun j d e => ?_, R.le⟩, tr⟩
  · have e : upd g.im a u' b = some o := e
    by_cases hb : b = a
    · subst hb
      rw [upd_same] at e ⊢
      exact e
    · rw [upd_ne hb] at e ⊢
      exact R.im b o e
  · have q := R.cell j b d k1 k2
    cases d with
    | lst ds =>
      obtain ⟨n, xs, e, r⟩ := q
      have nb : b ≠ a := fun z => by rw [z, h] at n; cases n
      exact ⟨by show upd g.im a u' b = none; rw [upd_ne nb]; exact n, xs, by rw [upd_ne nb]; exact e, trL r⟩
    | dic kvs =>
      obtain ⟨n, xs, e, k, r⟩ := q
      have nb : b ≠ a := fun z => by rw [z, h] at n; cases n
      exact ⟨by show upd g.im a u' b = none; rw [upd_ne nb]; exact n, xs, by rw [upd_ne nb]; exact e, k, trL r⟩
    | lck kvs =>
      obtain ⟨n, od, xs, l', e, k, r⟩ := q
      have nb : b ≠ a := fun z => by rw [z, h] at n; cases n
      exact ⟨by show upd g.im a u' b = none; rw [upd_ne nb]; exact n, od, xs, l', by rw [upd_ne nb]; exact e, k, trL r⟩
    | gone =>
      obtain ⟨u, hu⟩ := q
      by_cases nb : b = a
      · exact ⟨u', by rw [nb, upd_same]⟩
      · exact ⟨u, by rw [upd_ne nb]; exact hu⟩
    | obj c2 ks ds =>
      obtain ⟨n, C, dx, fv, hk', e, k, r⟩ := q
      have nb : b ≠ a := fun z => by rw [z, h] at n; cases n
      exact ⟨by show upd g.im a u' b = none; rw [upd_ne nb]; exact n, C, dx, fv, hk', by rw [upd_ne nb]; exact e, k, trL r⟩
  · obtain ⟨v, e1, e2⟩ := R.sl j d e
    exact ⟨v, e1, tr e2⟩
end
/-! ### the sources -/
def kD : Key → D
  | .inl i => .int i
  | .inr z => .str z
theorem kD_rd {K : PySem.W.Frag} {g : G} (k : Key) : Rd K g (kD k) (kV k) := by cases k <;> constructor
/-- what is walked of a dict: its keys, its values, its pairs -/
def turnD (kind : Nat) (kv : Key × D) : D := match kind with
  | 0 => kD kv.1
  | 1 => kv.2
  | _ => .tup [kD kv.1, kv.2]
def itOf (kind : Nat) (a : Addr) (o : Obj) (kx : List (Key × V)) : It := match kind with
  | 0 => Itk a o kx
  | 1 => Itd a o kx
  | _ => Iti a o kx
def srcI (kind : Nat) (kvs : List (Key × D)) : Src := ⟨fun i _ => some (kvs[i]?.map (turnD kind)), kvs.length + 1⟩
def srcC (kind : Nat) (j n : Nat) : Src := ⟨fun i st => match st[j]? with
  | some (.lck kvs) => some (kvs[i]?.map (turnD kind))
  | _ => none, n⟩
theorem RdK.at {K : PySem.W.Frag} {g : G} {kvs : List (Key × D)} {kx : List (Key × V)} (h : RdK K g kvs kx) {i : Nat} {kv : Key × D} (e : kvs[i]? = some kv) : ∃ v, kx[i]? = some (kv.1, v) ∧ Rd K g kv.2 v := by
  obtain ⟨e1, r⟩ := h
  have hi : i < kvs.length := (List.getElem?_eq_some_iff.mp e).1
  obtain ⟨v, hv, rv⟩ := r.get (i := i) (d := kv.2) (by rw [List.getElem?_map, e]; rfl)
  have e2 : (kx.map (·.1))[i]? = some kv.1 := by rw [← e1, List.getElem?_map, e]; rfl
  rw [List.getElem?_map, Option.map_eq_some_iff] at hv e2
  obtain ⟨p, hp, rfl⟩ := hv
  obtain ⟨q, hq, e3⟩ := e2
  rw [hp] at hq
  cases hq
  exact ⟨p.2, by rw [hp, ← e3], rv⟩
theorem turn_ok {K : PySem.W.Frag} {g : G} {σ : L2.St} {H : Hp} {ρ : Ro} {st : Sto} {kind : Nat} {a : Addr} {o : Obj} {kvs : List (Key × D)} {kx : List (Key × V)} {i : Nat} (R : Rl K g σ H ρ st) (ha : H a = some (.frz o (.dK kx))) (rk : RdK K g kvs kx) :
    (kvs[i]? = none → (itOf kind a o kx).stop i H) ∧ ∀ kv, kvs[i]? = some kv → (itOf kind a o kx).go i H ∧ ∀ v H', (itOf kind a o kx).yld i H v H' → ∃ g', Ext g g' ∧ Rl K g' σ H' ρ st ∧ Rd K g' (turnD kind kv) v := by
  have hl : kvs.length = kx.length := rk.length
  constructor
  · intro e
    have : kx.length ≤ i := by rw [← hl]; exact List.getElem?_eq_none_iff.mp e
    match kind with
    | 0 => exact ⟨ha, this⟩
    | 1 => exact ⟨ha, this⟩
    | _ + 2 => exact ⟨ha, this⟩
  · intro kv e
    have hi : i < kx.length := by rw [← hl]; exact (List.getElem?_eq_some_iff.mp e).1
    obtain ⟨x, hx, rx⟩ := rk.at e
    match kind with
    | 0 =>
      refine ⟨⟨ha, hi⟩, fun v H' y => ?_⟩
      obtain ⟨rfl, k, w, hk, rfl⟩ := y
      rw [hx] at hk
      cases hk
      exact ⟨g, Ext.refl g, R, kD_rd _⟩
    | 1 =>
      refine ⟨⟨ha, hi⟩, fun v H' y => ?_⟩
      obtain ⟨rfl, k, hk⟩ := y
      rw [hx] at hk
      cases hk
      exact ⟨g, Ext.refl g, R, rx⟩
    | _ + 2 =>
      refine ⟨⟨ha, hi⟩, fun v H' y => ?_⟩
      obtain ⟨T, k, w, hk, rfl, hT, rfl⟩ := y
      rw [hx] at hk
      cases hk
      have E := R.put_ext (o := .tup [kV kv.1, x]) hT
      exact ⟨_, E, R.put hT, .tup (.inl G.put_at) (.cons (kD_rd _) (.cons (rx.mono E) .nil))⟩
theorem ok_srcI {K : PySem.W.Frag} {g0 : G} {kind : Nat} {a : Addr} {o : Obj} {kvs : List (Key × D)} {kx : List (Key × V)} (ha : g0.im a = some (.frz o (.dK kx))) (rk : RdK K g0 kvs kx) : SrcOk K g0 (srcI kind kvs) (itOf kind a o kx) := by
  intro g σ H ρ st i e R
  obtain ⟨t1, t2⟩ := turn_ok (kind := kind) (i := i) R (R.im _ _ (e.1 _ _ ha)) (rk.mono e)
  constructor
  · intro h
    have h : some (kvs[i]?.map (turnD kind)) = some none := h
    refine t1 ?_
    cases q : kvs[i]? with
    | none => rfl
    | some kv => rw [q] at h; cases h
  · intro x h
    have h : some (kvs[i]?.map (turnD kind)) = some (some x) := h
    cases q : kvs[i]? with
    | none => rw [q] at h; cases h
    | some kv =>
      rw [q] at h
      cases h
      exact t2 kv q
theorem ok_srcC {K : PySem.W.Frag} {g0 : G} {kind j n : Nat} {a : Addr} {o : Obj} {kx : List (Key × V)} (hj : g0.ph[j]? = some a) (ha : g0.lo a = some (.frz o (.dK kx))) : SrcOk K g0 (srcC kind j n) (itOf kind a o kx) := by
  intro g σ H ρ st i e R
  have hlo : g.lo a = some (.frz o (.dK kx)) := by
    obtain ⟨_, _, _, el⟩ := e
    rw [el]
    exact ha
  have key : ∀ kvs, st[j]? = some (.lck kvs) → H a = some (.frz o (.dK kx)) ∧ RdK K g kvs kx := fun kvs hs => by
    obtain ⟨_, o', kx', l', e', k', r'⟩ := R.cell j a _ (e.ph hj) hs
    rw [hlo] at l'
    cases l'
    exact ⟨e', k', r'⟩
  constructor
  · intro h
    have h : (match st[j]? with
      | some (.lck kvs) => some (kvs[i]?.map (turnD kind))
      | _ => none) = some none := h
    split at h
    · rename_i kvs hs
      obtain ⟨k1, k2⟩ := key kvs hs
      refine (turn_ok (kind := kind) (i := i) R k1 k2).1 ?_
      cases q : kvs[i]? with
      | none => rfl
      | some kv => rw [q] at h; cases h
    · cases h
  · intro x h
    have h : (match st[j]? with
      | some (.lck kvs) => some (kvs[i]?.map (turnD kind))
      | _ => none) = some (some x) := h
    split at h
    · rename_i kvs hs
      obtain ⟨k1, k2⟩ := key kvs hs
      cases q : kvs[i]? with
      | none => rw [q] at h; cases h
      | some kv =>
        rw [q] at h
        cases h
        exact (turn_ok (kind := kind) (i := i) R k1 k2).2 kv q
    · cases h
end P3

/-! P3G: defs and their calls, by trees. -/
namespace P3
open PySem PySem.Spec PyProof.Rows L2

open Classical in
/-- .. by an exception -/
noncomputable def finX (c n : Str) (st0 : Sto) (d : D) (st : Sto) : Res D :=
  if OldB st0 st then (match d.sub st0.length (frzF st st0.length 8) with
    | some d' => .exc c n d' (st.take st0.length)
    | none => .exc c n d st) else .exc c n d st
theorem finX_run {K : PySem.W.Frag} {mg : MG} {W : WX} {c n : Str} {g0 g : G} {H0 H : Hp} {σ σ1 : L2.St} {ρ ρ1 : Ro} {st0 st : Sto} {d : D} {cls : Value} {dx : Addr} {x : V} {Q : VK} (R0 : Rl K g0 σ H0 ρ st0) (e : Ext g0 g) (R : Rl K g σ1 H ρ1 st) (hc : mg c = some cls) (hx : g.im dx = some (.xd [(n, x)])) (r : Rd K g d x)
    (k : FinG K mg W (pD K) g0 σ ρ (finX c n st0 d st) Q) : W cls (some dx) σ H := by
  have keep : FinG K mg W (pD K) g0 σ ρ (.exc c n d st) Q → W cls (some dx) σ H := fun k => k g H cls dx x e (R0.back e R.bare) hc hx r
  unfold finX at k
  by_cases ho : OldB st0 st
  · rw [if_pos ho] at k
    obtain ⟨RT, him, hph, hfr⟩ := R.bare.freeze ho.1 (ho.wf R0)
    split at k
    · rename_i d' hd
      obtain ⟨e1, t, e2, elo⟩ := e
      have ee : Ext g0 (frzG g H st st0.length) := ⟨fun c o q => him c o (e1 c o q), [], by
        show g.ph.take st0.length = g0.ph ++ []
        rw [e2, ← R0.len]
        simp, elo⟩
      exact k (frzG g H st st0.length) H cls dx x ee (R0.back ee RT) hc (him _ _ hx) (sub_rd him hph (fun i a d hi ha hf => hfr 8 i a d hi ha hf) hd r)
    · exact keep k
  · rw [if_neg ho] at k
    exact keep k
abbrev Fn := List D → Sto → Res D
open Classical in
noncomputable def callF (fz : Bool) (N : Nat) (m : MS) : Fn := fun ds st => match m (ds.map some ++ List.replicate (N - ds.length) none) st with
  | .rt d st' => fin fz st d st'
  | .nx _ st' => fin fz st .non st'
  | .exc c n d _ st' => finX c n st d st'
  | _ => .stuck
/-- the promise -/
def spOf (K : PySem.W.Frag) (mg : MG) (n : Nat) (f : Fn) : Sp := fun vs H Q E => vs.length = n ∧ ∃ g st ds, Rl K g [] H [] st ∧ RdL K g ds vs ∧ FinG K mg (fun c d _ H => E c d H) (pD K) g [] [] (f ds st) Q
/-- a def does f -/
structure Fk (P : Program) (w : World) (K : PySem.W.Frag) (mg : MG) (base : Heap) (k : Nat) (a : Addr) (fd : FuncData) (ps : List Str) (f : Fn) : Prop where
  run : ∀ (A : Around) (l : List Env) (s : Shared) (H : Hp) (args : Args) (us : List Value) (vs : List V) (Q : VK) (E : XK), Room k A → A.guards = some [] → Env0 P w K mg base A l s H →
    BindsTo s fd args (ps.zip us) → Vals vs us → spOf K mg ps.length f vs H Q E → codeAny (model P w) A (.call (.ref a) args) (CR (L2.CX P w) l P w H s Q E) s
section
variable {P : Program} {w : World} {K : PySem.W.Frag} {mg : MG} {base : Heap} {a : Addr} {fd : FuncData} {ps : List Str} {f : Fn} {k : Nat}
theorem Fk.mono {j : Nat} (F : Fk P w K mg base j a fd ps f) (h : j ≤ k) : Fk P w K mg base k a fd ps f := ⟨fun A l s H args us vs Q E r => F.run A l s H args us vs Q E (r.mono h)⟩
/-- where both tell something they tell the same -/
theorem Fk.imp {f' : Fn} (F : Fk P w K mg base k a fd ps f) (h : ∀ ds st, f' ds st ≠ .stuck → f ds st = f' ds st) : Fk P w K mg base k a fd ps f' :=
  ⟨fun A l s H args us vs Q E r gd e b v ⟨q1, g, st, ds, R, rd, q2⟩ => F.run A l s H args us vs Q E r gd e b v ⟨q1, g, st, ds, R, rd, by
    rw [h ds st (fun z => by rw [z] at q2; exact q2)]
    exact q2⟩⟩
theorem rl_start {g : G} {H : Hp} {st : Sto} {ds : List D} {vs : List V} (n : Nat) (R : Rl K g [] H [] st) (r : RdL K g ds vs) : Rl K g (vs.map some ++ List.replicate n none) H (ds.map some ++ List.replicate n none) st := by
  have hl := r.length
  refine R.slots (fun i d h => ?_) (by simp [hl])
  by_cases hi : i < ds.length
  · rw [List.getElem?_append_left (by simpa using hi), List.getElem?_map] at h
    cases q : ds[i]? with
    | none => rw [q] at h; cases h
    | some d' =>
      rw [q] at h
      have e : d' = d := by
        have h' : some (some d') = some (some d) := h
        cases h'
        rfl
      subst e
      obtain ⟨v, hv, rv⟩ := r.get q
      exact ⟨v, by rw [List.getElem?_append_left (by simp; omega), List.getElem?_map, hv]; rfl, rv⟩
  · rw [List.getElem?_append_right (by simpa using Nat.le_of_not_lt hi), List.getElem?_replicate] at h
    split at h <;> cases h
/-- THE RULE: a def of the text does what its body does -/
theorem Fk.mk' {x qual : Str} {sd : Stmt} {N : List Str} {m : MS} (fz : Bool) (F : Fun K x qual sd a fd) (S : FnScope N ps (defScope sd))
    (body : ∀ (cd : Value) (A : Around) (l : List Env) (s : Shared) (H : Hp) (E : XK), Room k (A.deeper (envOfC qual (defScope sd) s.heap.objs.size a cd)) → A.guards = some [] →
      DSs (cxOf (L2.CX P w) P w K mg base N qual (defScope sd) a cd A l s H E) (fun c d _ H => E c d H) (defBody sd) m) : Fk P w K mg base (k + 1) a fd ps (callF fz N.length m) := by
  obtain ⟨oc, od, kV, doc, pm, an, cd, ct, sl, rfl, lk, hcd⟩ := F.ex
  refine ⟨fun A l s H args us vs Q E hr gd e0 hb rv ⟨hl, g, st, ds, R, rd, q⟩ => ?_⟩
  have keepB : ∀ b o, base.get? b = some o → s.heap.get? b = some o := fun b o z => (e0.bs b o z).1
  have KX : K.In s.heap := PySem.W.Frag.In.keeps e0.mod.kin keepB
  have noL : s.heap.NoLimit := Heap.NoLimit.keeps e0.mod.nolimit keepB
  have kinds : ∀ y ∈ ps.zip us, (defScope sd).names.lookup y.1 = some .local ∨ ((defScope sd).names.lookup y.1 = some .cell ∧ ((cellsFrom (s.heap.objs.size + 1) (defScope sd).names []).lookup y.1).isSome = true) := by
    rintro ⟨n, v⟩ hy
    rcases S.par n (List.of_mem_zip hy).1 with z | z
    · exact .inl z
    · exact .inr ⟨z, PySem.W.cellsFrom_some _ _ _ (.inl z)⟩
  refine codeAny_call_function (Room.depth hr) (KX _ _ lk) rfl S.co S.gen rfl (PySem.W.codeRec_of KX hcd) (hb _ _ _ _ (wpAny_newFunctionEnv_cells S.kind kinds fun env he s1 x1 => ?_))
  subst he
  have I := inv_start (CX := L2.CX P w) (E := E) S hr.hd e0 hl rv x1
  refine ⟨noL.keeps x1.toInCall.keep, codeAny_func ?_⟩
  have hds : ds.length = ps.length := by rw [rd.length, hl]
  have R1 := rl_start (N.length - vs.length) R rd
  unfold callF at q
  have run := (body cd A l s H E (hr.deeper _) gd).run [] s1 (start N vs) H { nx := fun _ H' => Q .non H', rt := Q } I
  refine wpAny_mono (run ⟨g, ds.map some ++ List.replicate (N.length - ds.length) none, st, by rw [rd.length]; exact R1, ?_⟩) (fun fl s' hs => ?_) fun e s' hs => hs
  · revert q
    cases m (ds.map some ++ List.replicate (N.length - ds.length) none) st with
    | nx ρ' st' => exact fun q g' H' σ' e R' => fin_run R e R'.bare .non q
    | rt d st' => exact fun q g' H' v e R' r => fin_run R e R' r q
    | bk ρ' st' => exact fun q => q.elim
    | ct ρ' st' => exact fun q => q.elim
    | stuck => exact fun q => q.elim
    | exc c n d ρ' st' =>
      intro q g' H' σ' cls dx v e R' hc hx r
      exact finX_run (σ := []) (ρ := []) R e R' hc hx r q
  · have ends : ∀ {σ' : L2.St} {H' : Hp} {v : V} {u : Value}, Inv (cxOf (L2.CX P w) P w K mg base N qual (defScope sd) a cd A l s H E) [] σ' H' s' → RelV v u → Q v H' → CE l P w H s Q u s' :=
      fun {σ' H' v u} J rv' q' => ⟨v, H', J.os, J.bare, J.base, J.hok, rv', q'⟩
    cases fl with
    | ret u => exact let ⟨v, σ', H', J, rv', q'⟩ := hs; ends J rv' q'
    | next => exact let ⟨σ', H', J, q'⟩ := hs; ends (v := V.non) J rfl q'
    | brk => exact let ⟨_, _, _, z⟩ := hs; z.elim
    | cont => exact let ⟨_, _, _, z⟩ := hs; z.elim
end

/-! ### calls -/
section
variable {X : Cx} {W : WX} {k : Nat} {a : Addr} {fd : FuncData} {ps : List Str} {f : Fn} {x : Str} {p pos : Pos} {e : Expr} {es : List Expr} {ms : MEs} {ds0 : List D} {us0 : List Value}
/-- a callee runs: us the arguments as they are bound in the end -/
theorem fk_run {pins : List (Addr × Obj)} {σ : L2.St} {H : Hp} {s : Shared} {g : G} {ρ : Ro} {st : Sto} {Q : VK} {args : Args} {us : List Value} {vs : List V} {ds : List D} (F : Fk X.prog X.w X.K X.mg X.base k a fd ps f) (hr : Room k X.A) (gd : X.A.guards = some []) (tk : Takes X W)
    (I : Inv X pins σ H s) (R : Rl X.K g σ H ρ st) (hb : BindsTo s fd args (ps.zip us)) (rv : Vals vs us) (hl : vs.length = ps.length) (rd : RdL X.K g ds vs) (q : FinG X.K X.mg W (pD X.K) g σ ρ (f ds st) Q) :
    codeAny (model X.prog X.w) X.A (.call (.ref a) args) (fun r s' => match r with | .ok (.ret u) => EP X pins σ Q u s' | .ok _ => False | .error e => X.xe e s') s := by
  refine codeAny_mono (F.run X.A X.stack s H args us vs Q (fun c d H => W c d σ H) hr gd I.env0 hb rv ⟨hl, g, st, ds, R.bare, rd, ?_⟩) fun r s' hq => ?_
  · revert q
    cases f ds st with
    | ok d st' => exact fun q g' H' v e R' r => q g' H' v e (R.back e R') r
    | exc c n d st' => exact fun q g' H' cls dx v e R' => q g' H' cls dx v e (R.back e R')
    | stuck => exact fun q => q
  · cases r with
    | error e => exact tk e s' (XE.of_call I (fun _ _ _ h => h) hq)
    | ok fl =>
      cases fl with
      | ret u => exact I.after hq
      | next => exact False.elim hq
      | brk => exact False.elim hq
      | cont => exact False.elim hq
/-- f(e, ..): positional arguments; what lacks are the defaults ds0 -/
structure FBind (K : PySem.W.Frag) (fd : FuncData) (ps : List Str) (n : Nat) (ds0 : List D) (us0 : List Value) : Prop where
  bind : ∀ (s : Shared) (us : List Value), K.In s.heap → us.length = n → BindsTo s fd ⟨us, []⟩ (ps.zip (us ++ us0))
  len : n + us0.length = ps.length
  rel : ∃ vs0, Vals vs0 us0 ∧ ∀ g, RdL K g ds0 vs0
theorem de_call (F : Fk X.prog X.w X.K X.mg X.base k a fd ps f) (hr : Room k X.A) (gd : X.A.guards = some []) (tk : Takes X W) (hg : Gl X x) (hm : X.mg x = some (.ref a)) (hk : PySem.W.keepIn X.K (.ref a) = true) (B : FBind X.K fd ps (es.length + 1) ds0 us0)
    (ha : DA X W (e :: es) ms) (hlen : ∀ ρ st ds st', ms ρ st = .ok ds st' → ds.length = es.length + 1) (hdb : (x == ("__debug__" : Str)) = false) (he : starEach (e :: es) X.env = (false, eval e X.env) :: starEach es X.env) (hpl : (backTo pos (starEach es X.env)).any (·.1) = false) :
    DE X W (.Call (.Name x p) (e :: es) [] pos) (mOn (fun ds => f (ds ++ ds0)) ms) := by
  refine ⟨fun pins s σ H Q I h => ?_⟩
  obtain ⟨g, ρ, st, R, q⟩ := h
  have q' : FinG X.K X.mg W (pL X.K) g σ ρ (ms ρ st) (fun xs H1 => ∃ g1 st1 ds, Ext g g1 ∧ Rl X.K g1 σ H1 ρ st1 ∧ RdL X.K g1 ds xs ∧ ds.length = es.length + 1 ∧ FinG X.K X.mg W (pD X.K) g1 σ ρ (f (ds ++ ds0) st1) Q) := by
    unfold mOn at q
    cases hms : ms ρ st with
    | ok ds st1 =>
      rw [hms] at q
      exact fun g' H' b e' R' r => ⟨g', st1, ds, e', R', r, hlen ρ st ds st1 hms, FinG.ext q e'⟩
    | exc c n d st1 => rw [hms] at q; exact q
    | stuck => rw [hms] at q; exact q
  refine wpAny_Call_Name_kw (ld_glob I hg hm ?_ hdb)
  refine PySem.W.callWith_K (h₀ := X.base) I.ok.mod.kin hk (thn (ha.run pos pins s σ H _ I ⟨g, ρ, st, R, q'⟩) fun us s1 ⟨vs, H1, I1, rv, g1, st1, ds, e1, R1, rd, hl, q1⟩ => ⟨I1.kIn, ?_⟩) he hpl
  obtain ⟨vs0, r0, rd0⟩ := B.rel
  have lus : us.length = es.length + 1 := by rw [← rv.length, ← rd.length, hl]
  refine wpAny_call (codeAny_mono (fk_run (vs := vs ++ vs0) F hr gd tk I1 R1 (B.bind s1 us I1.kIn lus) (rv.append r0) ?_ (rd.append (rd0 g1)) q1) fun r s' hq => ?_)
  · rw [List.length_append, r0.length, ← B.len, rv.length, lus]
  · cases r with
    | error e => exact hq
    | ok fl =>
      cases fl with
      | ret u => exact hq
      | next => exact False.elim hq
      | brk => exact False.elim hq
      | cont => exact False.elim hq
end
end P3

/-! P5B: comprehensions over dicts. -/
namespace P3
open PySem PySem.Spec PyProof.Rows L2
/-- a comprehension's body, told of any end -/
theorem lc_body {K : PySem.W.Frag} {mg : MG} {W : WX} {σ : L2.St} {H1 : Hp} {g g1 : G} {ρ : Ro} {st1 : Sto} {S : Src} {J : It} {t : Tg} {tt : MT} {me : ME} {vs : List Nat} {Q : VK} {QF : VK} {F : Unit → Sto → Res D} (hsub : ∀ i ∈ t.slots, i ∈ vs)
    (R1 : Rl K g1 σ H1 ρ st1) (ok : SrcOk K g1 S J) (k1 : FinG K mg W (pD K) g σ ρ ((cLoop S t tt me st1.length S.fuel 0 (wipeR ρ vs) (st1 ++ [.lst []])).bind F) QF)
    (hF : ∀ (L : Addr) (g2 : G) (H2 : Hp) (st2 : Sto), H1 L = none → Ext (g1.more L) g2 → Rl K g2 (L2.wipe σ vs) H2 (wipeR ρ vs) st2 → FinG K mg W (pD K) g σ ρ (F () st2) QF → Q (.ref L) H2) :
    ∀ D, H1 D = none → ∃ Wf : Nat → Nat → Hp → Prop, (∃ m, Wf 0 m (upd H1 D (.lst []))) ∧ ∀ i m H, Wf i m H →
      (J.stop i H ∧ Q (.ref D) H) ∨ (J.go i H ∧ ∃ Nx : Hp → Prop, (∀ H', Nx H' → ∃ m', m' < m ∧ Wf (i + 1) m' H') ∧ ∀ x H', J.yld i H x H' → gT K t x (wipe σ vs) H' fun σ2 H2 => wipe σ2 vs = wipe σ vs ∧ tMT K mg W0 tt σ2 H2 fun b H3 =>
        if b = true then tM K mg W0 me σ2 H3 fun y H4 => ∃ acc, H4 D = some (.lst acc) ∧ acc.length < sizeLine ∧ Nx (upd H4 D (.lst (acc ++ [y]))) else Nx H3) := by
  intro L hL
  have Rn : Rl K (g1.more L) (L2.wipe σ vs) (upd H1 L (.lst [])) (wipeR ρ vs) (st1 ++ [.lst []]) := (R1.more (c := .lst []) hL ⟨R1.fresh hL, [], upd_same, .nil⟩).wipe vs
  have hLn : (g1.more L).ph[st1.length]? = some L := by
    show (g1.ph ++ [L])[st1.length]? = some L
    rw [← R1.len]
    simp
  refine ⟨fun i f H' => ∃ g' st', Ext (g1.more L) g' ∧ Rl K g' (L2.wipe σ vs) H' (wipeR ρ vs) st' ∧ FinG K mg W (pD K) g σ ρ ((cLoop S t tt me st1.length f i (wipeR ρ vs) st').bind F) QF, ⟨S.fuel, g1.more L, st1 ++ [.lst []], Ext.refl _, Rn, k1⟩, ?_⟩
  rintro i f H2 ⟨g2, st2, e2, R2, k2⟩
  cases f with
  | zero => exact k2.elim
  | succ f =>
    obtain ⟨hstop, hgo⟩ := ok g2 _ H2 _ st2 i ((g1.more_ext L).trans e2) R2
    unfold cLoop at k2
    cases hn : S.nxt i st2 with
    | none => rw [hn] at k2; exact k2.elim
    | some o =>
      rw [hn] at k2
      cases o with
      | none => exact .inl ⟨hstop hn, hF L g2 H2 st2 hL e2 R2 k2⟩
      | some x =>
        obtain ⟨go, hy⟩ := hgo x hn
        refine .inr ⟨go, fun H' => ∃ g' st', Ext (g1.more L) g' ∧ Rl K g' (L2.wipe σ vs) H' (wipeR ρ vs) st' ∧ FinG K mg W (pD K) g σ ρ ((cLoop S t tt me st1.length f (i + 1) (wipeR ρ vs) st').bind F) QF, fun H' h => ⟨f, Nat.lt_succ_self f, h⟩, fun v H' y => ?_⟩
        obtain ⟨g3, e3, R3, r3⟩ := hy v H' y
        dsimp only at k2
        cases hgt : gtD t x (wipeR ρ vs) with
        | none => rw [hgt] at k2; exact k2.elim
        | some ρ1 =>
          rw [hgt] at k2
          dsimp only at k2
          refine gt_run R3 r3 hgt fun σ' ws es R' => ⟨by rw [es, wipe_setAll hsub, wipe_wipe], g3, ρ1, st2, R', ?_⟩
          cases htt : tt ρ1 st2 with
          | stuck => rw [htt] at k2; exact k2.elim
          | exc cc n d st' => rw [htt] at k2; exact k2.elim
          | ok b st3 =>
            rw [htt] at k2
            intro g4 H4 b' e4 R4 eb
            obtain rfl : b' = b := eb
            cases b' with
            | false =>
              refine iteF ⟨g4, st3, (e2.trans e3).trans e4, Rn.back ((e2.trans e3).trans e4) R4.bare, k2⟩
            | true =>
              refine iteT ⟨g4, ρ1, st3, R4, ?_⟩
              cases hme : me ρ1 st3 with
              | stuck =>
                have k2 : FinG K mg W (pD K) g σ ρ ((((me ρ1 st3).calm.bind fun d st2 => match st2[st1.length]? with
                  | some (.lst acc) => if acc.length < 100000 then cLoop S t tt me st1.length f (i + 1) (wipeR ρ vs) (st2.set st1.length (.lst (acc ++ [d]))) else .stuck
                  | _ => .stuck) : Res Unit).bind F) QF := k2
                rw [hme] at k2
                exact k2.elim
              | exc cc n d st' =>
                have k2 : FinG K mg W (pD K) g σ ρ ((((me ρ1 st3).calm.bind fun d st2 => match st2[st1.length]? with
                  | some (.lst acc) => if acc.length < 100000 then cLoop S t tt me st1.length f (i + 1) (wipeR ρ vs) (st2.set st1.length (.lst (acc ++ [d]))) else .stuck
                  | _ => .stuck) : Res Unit).bind F) QF := k2
                rw [hme] at k2
                exact k2.elim
              | ok d st4 =>
                have k2 : FinG K mg W (pD K) g σ ρ ((((me ρ1 st3).calm.bind fun d st2 => match st2[st1.length]? with
                  | some (.lst acc) => if acc.length < 100000 then cLoop S t tt me st1.length f (i + 1) (wipeR ρ vs) (st2.set st1.length (.lst (acc ++ [d]))) else .stuck
                  | _ => .stuck) : Res Unit).bind F) QF := k2
                rw [hme] at k2
                intro g5 H5 z e5 R5 rz
                have eall : Ext (g1.more L) g5 := ((e2.trans e3).trans e4).trans e5
                have hph := eall.ph hLn
                cases hs : st4[st1.length]? with
                | none =>
                  have k2 : FinG K mg W (pD K) g σ ρ (((match st4[st1.length]? with
                    | some (.lst acc) => if acc.length < 100000 then cLoop S t tt me st1.length f (i + 1) (wipeR ρ vs) (st4.set st1.length (.lst (acc ++ [d]))) else .stuck
                    | _ => .stuck) : Res Unit).bind F) QF := k2
                  rw [hs] at k2
                  exact k2.elim
                | some cl =>
                  have k2 : FinG K mg W (pD K) g σ ρ (((match st4[st1.length]? with
                    | some (.lst acc) => if acc.length < 100000 then cLoop S t tt me st1.length f (i + 1) (wipeR ρ vs) (st4.set st1.length (.lst (acc ++ [d]))) else .stuck
                    | _ => .stuck) : Res Unit).bind F) QF := k2
                  rw [hs] at k2
                  cases cl with
                  | lst acc =>
                    dsimp only at k2
                    obtain ⟨nz, xs, ex, rx⟩ := R5.cell _ L _ hph hs
                    by_cases hb : acc.length < 100000
                    · rw [if_pos hb] at k2
                      refine ⟨xs, ex, by rw [← rx.length]; exact szl (Nat.le_of_lt hb), g5, _, eall, Rn.back eall (R5.write (c' := .lst (acc ++ [d])) hph hs nz ⟨nz, _, upd_same, rx.append (.cons rz .nil)⟩).bare, k2⟩
                    · rw [if_neg hb] at k2
                      exact k2.elim
                  | _ => exact k2.elim
/-- where a dict stands that is walked -/
abbrev LocM := Ro → Sto → Option D
structure LocD (X : Cx) (b : Expr) (loc : LocM) : Prop where
  ex : ∃ td : TE, PE X b td ∧ ∀ (g : G) (σ : L2.St) (H : Hp) (ρ : Ro) (st : Sto) (d : D), Rl X.K g σ H ρ st → loc ρ st = some d → ∃ v, Rd X.K g d v ∧ ∀ (H' : Hp) (Q : VK), (∀ p o, H p = some o → (∀ kx, ¬ IsDk o kx) → H' p = some o) → Q v H' → td σ H' Q
def locV (i : Nat) : LocM := fun ρ _ => match ρ[i]? with
  | some o => o
  | none => none
section
variable {X : Cx} {W : WX}
theorem locV_ok {i : Nat} {x : Str} {pos : Pos} (hN : X.N[i]? = some x) (hv : Vis X.env.scope x) (hd : (x == ("__debug__" : Str)) = false) (hcd : (x == ("__classdict__" : Str)) = false) : LocD X (.Name x pos) (locV i) :=
  ⟨⟨_, pe_var hN hv hd hcd, fun g σ H ρ st d R h => by
    unfold locV at h
    cases e : ρ[i]? with
    | none => rw [e] at h; cases h
    | some o =>
      rw [e] at h
      subst h
      obtain ⟨v, h1, h2⟩ := R.sl i d e
      exact ⟨v, h2, fun H' Q _ q => ⟨v, h1, q⟩⟩⟩⟩
/-- the expression that is walked -/
def kindE (kind : Nat) (b : Expr) (apos cpos : Pos) : Expr := match kind with
  | 0 => b
  | 1 => .Call (.Attribute b "values" apos) [] [] cpos
  | _ => .Call (.Attribute b "items" apos) [] [] cpos
/-- its walk -/
structure WalkD (X : Cx) (tg : Expr) (kind : Nat) (e : Expr) (loc : LocM) : Prop where
  ex : ∃ w : TI, PI X tg e w ∧ ∀ (g : G) (σ : L2.St) (H : Hp) (ρ : Ro) (st : Sto) (d : D), Rl X.K g σ H ρ st → loc ρ st = some d → ∃ v, Rd X.K g d v ∧ ∀ (H' : Hp) (R0 : It → Hp → Prop) (a : Addr) (o : Obj) (kx : List (Key × V)), v = .ref a →
    (∀ p o, H p = some o → (∀ kx, ¬ IsDk o kx) → H' p = some o) → H' a = some (.frz o (.dK kx)) → R0 (itOf kind a o kx) H' → w σ H' R0
theorem walk_keys {tg b : Expr} {loc : LocM} (L : LocD X b loc) : WalkD X tg 0 b loc := by
  obtain ⟨td, h1, h2⟩ := L.ex
  refine ⟨⟨_, pi_keys h1, fun g σ H ρ st d R hl => ?_⟩⟩
  obtain ⟨v, r, q⟩ := h2 g σ H ρ st d R hl
  exact ⟨v, r, fun H' R0 a o kx ev hH ha hR => q H' _ hH ⟨a, o, ev, .inl ⟨kx, ha, hR⟩⟩⟩
theorem walk_vals {tg b : Expr} {loc : LocM} {apos cpos : Pos} (L : LocD X b loc) (hbase : attributeBase b "values" X.env (eval b X.env) = eval b X.env) (hline : (apos.endLine == cpos.line) = true) : WalkD X tg 1 (.Call (.Attribute b "values" apos) [] [] cpos) loc := by
  obtain ⟨td, h1, h2⟩ := L.ex
  refine ⟨⟨_, pi_values h1 hbase hline, fun g σ H ρ st d R hl => ?_⟩⟩
  obtain ⟨v, r, q⟩ := h2 g σ H ρ st d R hl
  exact ⟨v, r, fun H' R0 a o kx ev hH ha hR => q H' _ hH ⟨a, o, kx, ev, ha, hR⟩⟩
theorem walk_items {elts : List Expr} {kk : Nat} {tpos : Pos} {b : Expr} {loc : LocM} {apos cpos : Pos} (L : LocD X b loc) (hbase : attributeBase b "items" X.env (eval b X.env) = eval b X.env) (hline : (apos.endLine == cpos.line) = true) :
    WalkD X (.Tuple elts kk tpos) 2 (.Call (.Attribute b "items" apos) [] [] cpos) loc := by
  obtain ⟨td, h1, h2⟩ := L.ex
  refine ⟨⟨_, pi_items h1 hbase hline, fun g σ H ρ st d R hl => ?_⟩⟩
  obtain ⟨v, r, q⟩ := h2 g σ H ρ st d R hl
  exact ⟨v, r, fun H' R0 a o kx ev hH ha hR => q H' _ hH ⟨a, o, kx, ev, ha, hR⟩⟩
end
/-- the cell is a dict again -/
def unlk {α : Type} (j : Nat) (d : α) (st : Sto) : Res α := match st[j]? with
  | some (.lck kvs) => .ok d (st.set j (.dic kvs))
  | _ => .stuck
/-- [elt for target in a dict if ..] -/
noncomputable def mCompD (kind : Nat) (loc : LocM) (c : Bool) (t : Tg) (tt : MT) (me : ME) (vs : List Nat) : ME := fun ρ st => match loc ρ st with
  | some (.dic kvs) => (cLoop (srcI kind kvs) t tt me st.length (srcI kind kvs).fuel 0 (wipeR ρ vs) (st ++ [.lst []])).bind fun _ st2 => fin (!c) st (.cell st.length) st2
  | some (.cell j) => match st[j]? with
    | some (.dic kvs) => (cLoop (srcC kind j (kvs.length + 1)) t tt me (st.set j (.lck kvs)).length (srcC kind j (kvs.length + 1)).fuel 0 (wipeR ρ vs) (st.set j (.lck kvs) ++ [.lst []])).bind fun _ st2 => (fin (!c) (st.set j (.lck kvs)) (.cell (st.set j (.lck kvs)).length) st2).bind fun d st3 => unlk j d st3
    | _ => .stuck
  | _ => .stuck
theorem fing_mono {α β : Type} {K : PySem.W.Frag} {mg : MG} {W : WX} {P : G → α → β → Prop} {g g' : G} {σ : L2.St} {ρ : Ro} {a : α} {st st' : Sto} {Q Q' : β → Hp → Prop} (h : FinG K mg W P g σ ρ (.ok a st) Q)
    (k : ∀ g1 H1 b, Ext g' g1 → Rl K g1 σ H1 ρ st' → P g1 a b → (∀ g2 H2, Ext g g2 → Rl K g2 σ H2 ρ st → P g2 a b → Q b H2) → Q' b H1) : FinG K mg W P g' σ ρ (.ok a st') Q' :=
  fun g1 H1 b e R p => k g1 H1 b e R p fun g2 H2 e2 R2 p2 => h g2 H2 b e2 R2 p2
section
variable {X : Cx} {W : WX}
/-- what is left when the lock on a cell goes -/
theorem unlk_run {K : PySem.W.Frag} {mg : MG} {g : G} {σ : L2.St} {ρ : Ro} {j : Nat} {a : Addr} {od : Obj} {kx : List (Key × V)} {r : Res D} {Q : VK} (hj : g.ph[j]? = some a) (k : FinG K mg W (pD K) g σ ρ (r.bind fun d st3 => unlk j d st3) Q) (hc : ∀ c n d st, r ≠ .exc c n d st) :
    FinG K mg W (pD K) ⟨g.im, g.ph, upd g.lo a (.frz od (.dK kx))⟩ σ ρ r (fun v H' => H' a = some (.frz od (.dK kx)) ∧ Q v (upd H' a (.dK kx))) := by
  cases r with
  | stuck => exact k.elim
  | exc c n d st => exact absurd rfl (hc c n d st)
  | ok d st3 =>
    have k : FinG K mg W (pD K) g σ ρ (unlk j d st3) Q := k
    intro g3 H3 v e R rd
    unfold unlk at k
    split at k
    · rename_i kvs hs
      have hp : g3.ph[j]? = some a := e.ph hj
      obtain ⟨z, o', kx', l', ha, hk, rk⟩ := R.cell j a _ hp hs
      obtain ⟨e1, t, e2, e3⟩ := e
      have hlo : g3.lo a = some (.frz od (.dK kx)) := by rw [e3]; exact upd_same
      rw [hlo] at l'
      cases l'
      have tr : ∀ {d : D} {v : V}, Rd K g3 d v → Rd K ⟨g3.im, g3.ph, g.lo⟩ d v := fun r => r.mono2 (g := g3) (g' := ⟨g3.im, g3.ph, g.lo⟩) (fun _ _ q => .inl q) fun _ _ q => q
      have trL : ∀ {d : List D} {v : List V}, RdL K g3 d v → RdL K ⟨g3.im, g3.ph, g.lo⟩ d v := fun r => r.mono2 (g := g3) (g' := ⟨g3.im, g3.ph, g.lo⟩) (fun _ _ q => .inl q) fun _ _ q => q
      refine ⟨ha, k ⟨g3.im, g3.ph, g.lo⟩ _ v ⟨e1, t, e2, rfl⟩ (R.relo (c' := .dic kvs) hp hs z (fun b nb => ?_) ⟨z, kx, upd_same, hk, trL rk⟩) (tr rd)⟩
      rw [e3]
      exact (upd_ne nb).symm
    · exact k.elim
theorem fin_ne {fz : Bool} {st0 st : Sto} {d : D} : ∀ c n d' st', fin fz st0 d st ≠ .exc c n d' st' := by
  intro c n d' st'
  unfold fin
  split
  · split
    · exact fun z => by cases z
    · split
      · split <;> exact fun z => by cases z
      · split
        · split
          · split <;> exact fun z => by cases z
          · exact fun z => by cases z
        · exact fun z => by cases z
  · exact fun z => by cases z
theorem de_lcD {kind : Nat} {loc : LocM} {tg elt iter : Expr} {ifs : List Expr} {scope : Scope} {own : List (Str × Nat)} {pos : Pos} {c : Bool} {t : Tg} {tt : MT} {me : ME} (hc : X.calm = true) (hN : X.N.Nodup) (hsub : ∀ i ∈ t.slots, i ∈ own.map (·.2)) (hi : WalkD X tg kind iter loc) (ok : BlkOk X.N X.env.scope scope own)
    (hg : ∀ (s : Shared) (H : Hp) (C : Addr) (cl : List (Str × Addr)) (fp : List Addr), PG (X.blk s H scope (compEnvC scope cl C X.env) fp) tg (gT X.K t)) (ht : ∀ (s : Shared) (H : Hp) (C : Addr) (cl : List (Str × Addr)) (fp : List Addr), DTs (X.blk s H scope (compEnvC scope cl C X.env) fp) W0 ifs tt)
    (he : ∀ (s : Shared) (H : Hp) (C : Addr) (cl : List (Str × Addr)) (fp : List Addr), DE (X.blk s H scope (compEnvC scope cl C X.env) fp) W0 elt me) (hs : ∀ x, foldedSetIterable iter X.env x = pure x) :
    DE X W (.ListComp elt [⟨tg, iter, ifs, 0⟩] scope pos) (mCompD kind loc c t tt me (own.map (·.2))) := by
  obtain ⟨w, hw, hrd⟩ := hi.ex
  have base : PE X (.ListComp elt [⟨tg, iter, ifs, 0⟩] scope pos) (tLc w (gT X.K t) (tMT X.K X.mg W0 tt) (tM X.K X.mg W0 me) (own.map (·.2))) := pe_lc hc hN hw ok hg ht he hs
  refine ⟨fun pins s σ H Q I ⟨g, ρ, st, R, k⟩ => ?_⟩
  unfold mCompD at k
  split at k
  · rename_i kvs hl
    obtain ⟨v, rv, hq⟩ := hrd g σ H ρ st _ R hl
    cases rv with
    | @dic a _ kx ds xs e1 e2 e3 e4 e5 =>
      subst e3 e4
      have rk : RdK X.K g kvs kx := ⟨e2, e5⟩
      rcases e1 with e1 | ⟨o, e1⟩
      · -- not locked as yet
        refine (pe_lock base).run pins s σ H Q I ⟨a, _, R.im _ _ e1, trivial, fun od => ?_⟩
        obtain ⟨R', tr⟩ := R.reim (u := .dK kx) (u' := .frz od (.dK kx)) (kx := kx) e1 (.inl rfl) (.inr ⟨od, rfl⟩)
        have eh : ∀ p o, H p = some o → (∀ kx, ¬ IsDk o kx) → upd H a (.frz od (.dK kx)) p = some o := fun p o e n => by
          have : p ≠ a := fun z => by rw [z, R.im _ _ e1] at e; cases e; exact n kx (.inl rfl)
          rw [upd_ne this]; exact e
        have rk' : RdK X.K ⟨upd g.im a (.frz od (.dK kx)), g.ph, g.lo⟩ kvs kx := by
          refine ⟨e2, e5.mono2 (g := g) (g' := ⟨upd g.im a (.frz od (.dK kx)), g.ph, g.lo⟩) (fun b o q => ?_) fun _ _ q => q⟩
          by_cases hb : b = a
          · subst hb; rw [e1] at q; cases q; exact .inr ⟨kx, _, .inl rfl, upd_same, .inr ⟨od, rfl⟩⟩
          · exact .inl (by show upd g.im a _ b = _; rw [upd_ne hb]; exact q)
        have hlk : (⟨upd g.im a (.frz od (.dK kx)), g.ph, g.lo⟩ : G).im a = some (.frz od (.dK kx)) := upd_same
        refine hq _ _ a od kx rfl eh upd_same ?_
        refine lc_body (F := fun _ st2 => fin (!c) st (.cell st.length) st2) (QF := Q) (Q := fun v H' => H' a = some (.frz od (.dK kx)) ∧ Q v (upd H' a (.dK kx))) (g := g) hsub R' (ok_srcI (kind := kind) hlk rk') k fun L g2 H2 st2 hL eL R2 k2 => ?_
        have hLn : (G.more ⟨upd g.im a (.frz od (.dK kx)), g.ph, g.lo⟩ L).ph[st.length]? = some L := by
          show (g.ph ++ [L])[st.length]? = some L
          rw [← R.len]; simp
        have eA := (G.more_ext _ L).trans eL
        refine fin_run (mg := X.mg) (W := W) (fz := !c) (Q := fun v H' => H' a = some (.frz od (.dK kx)) ∧ Q v (upd H' a (.dK kx))) R' eA R2 (.cell (eL.ph hLn)) ?_
        revert k2
        cases hf : fin (!c) st (.cell st.length) st2 with
        | stuck => exact fun k2 => k2.elim
        | exc cc n d st' => exact absurd hf (fin_ne _ _ _ _)
        | ok d st3 =>
          intro k2 g3 H3 v e3 R3 rd
          have h3 : g3.im a = some (.frz od (.dK kx)) := e3.1 _ _ hlk
          refine ⟨R3.im _ _ h3, ?_⟩
          obtain ⟨R4, tr4⟩ := R3.reim (u := .frz od (.dK kx)) (u' := .dK kx) (kx := kx) h3 (.inr ⟨od, rfl⟩) (.inl rfl)
          obtain ⟨x1, t, x2, x3⟩ := e3
          refine k2 ⟨upd g3.im a (.dK kx), g3.ph, g3.lo⟩ (upd H3 a (.dK kx)) v ⟨fun b o q => ?_, t, x2, x3⟩ R4 (tr4 rd)
          by_cases hb : b = a
          · subst hb
            rw [e1] at q
            cases q
            exact upd_same
          · show upd g3.im a (.dK kx) b = some o
            rw [upd_ne hb]
            refine x1 b o ?_
            show upd g.im a _ b = some o
            rw [upd_ne hb]
            exact q
      · -- locked already
        refine base.run pins s σ H Q I (hq H _ a o kx rfl (fun _ _ q _ => q) (R.im _ _ e1) ?_)
        refine lc_body (F := fun _ st2 => fin (!c) st (.cell st.length) st2) (QF := Q) (g := g) hsub R (ok_srcI (kind := kind) e1 rk) k fun L g2 H2 st2 hL eL R2 k2 => ?_
        have hLn : (g.more L).ph[st.length]? = some L := by
          show (g.ph ++ [L])[st.length]? = some L
          rw [← R.len]; simp
        exact fin_run R ((g.more_ext L).trans eL) R2 (.cell (eL.ph hLn)) k2
  · rename_i j hl
    obtain ⟨v, rv, hq⟩ := hrd g σ H ρ st _ R hl
    cases rv with
    | @cell _ a hj =>
      split at k
      · rename_i kvs hs
        obtain ⟨z, kx, ha, hk, rk⟩ := R.cell j a _ hj hs
        refine (pe_lock base).run pins s σ H Q I ⟨a, _, ha, trivial, fun od => ?_⟩
        have trL : ∀ {d : List D} {v : List V}, RdL X.K g d v → RdL X.K ⟨g.im, g.ph, upd g.lo a (.frz od (.dK kx))⟩ d v := fun r => r.mono2 (g := g) (g' := ⟨g.im, g.ph, upd g.lo a (.frz od (.dK kx))⟩) (fun _ _ q => .inl q) fun _ _ q => q
        have R' := R.relo (l := upd g.lo a (.frz od (.dK kx))) (o := .frz od (.dK kx)) (c' := .lck kvs) hj hs z (fun b nb => upd_ne nb) ⟨z, od, kx, upd_same, upd_same, hk, trL rk⟩
        have eh : ∀ p o, H p = some o → (∀ kx, ¬ IsDk o kx) → upd H a (.frz od (.dK kx)) p = some o := fun p o e n => by
          have : p ≠ a := fun z => by rw [z, ha] at e; cases e; exact n kx (.inl rfl)
          rw [upd_ne this]; exact e
        refine hq _ _ a od kx rfl eh upd_same ?_
        have hlj : (⟨g.im, g.ph, upd g.lo a (.frz od (.dK kx))⟩ : G).ph[j]? = some a := hj
        refine lc_body (F := fun _ st2 => (fin (!c) (st.set j (.lck kvs)) (.cell (st.set j (.lck kvs)).length) st2).bind fun d st3 => unlk j d st3) (QF := Q) (Q := fun v H' => H' a = some (.frz od (.dK kx)) ∧ Q v (upd H' a (.dK kx))) (g := g) hsub R' (ok_srcC (kind := kind) (n := kvs.length + 1) hlj upd_same) k fun L g2 H2 st2 hL eL R2 k2 => ?_
        have hLn : (G.more ⟨g.im, g.ph, upd g.lo a (.frz od (.dK kx))⟩ L).ph[(st.set j (.lck kvs)).length]? = some L := by
          show (g.ph ++ [L])[(st.set j (.lck kvs)).length]? = some L
          rw [List.length_set, ← R.len]; simp
        have eA := (G.more_ext _ L).trans eL
        exact fin_run (mg := X.mg) (W := W) (fz := !c) (Q := fun v H' => H' a = some (.frz od (.dK kx)) ∧ Q v (upd H' a (.dK kx))) R' eA R2 (.cell (eL.ph hLn)) (unlk_run hj k2 fin_ne)
      · exact k.elim
  · exact k.elim
end
end P3

/-! P5C: abs, list(range(..)), dict(pairs), sorted of texts, methods of dicts. -/
namespace P3
open PySem PySem.Spec PyProof.Rows L2
open Sem (wp)
theorem vals_pt : ∀ {xs : List V} {us : List Value}, xs.length = us.length → (∀ (j : Nat) (x : V) (u : Value), xs[j]? = some x → us[j]? = some u → RelV x u) → Vals xs us
  | [], [], _, _ => .nil
  | [], _ :: _, h, _ => by cases h
  | _ :: _, [], h, _ => by cases h
  | x :: xs, u :: us, h, k => .cons (k 0 x u rfl rfl) (vals_pt (by simpa using h) fun j y w a b => k (j + 1) y w (by simpa using a) (by simpa using b))
section
variable {X : Cx} {W : WX}
/-! ### abs -/
def fAbs (ds : List D) (st : Sto) : Res D := match ds with
  | [.int i] => .ok (.int (if i < 0 then -i else i)) st
  | _ => .stuck
theorem cd_abs : CalD X W (.builtin "abs") fAbs := cr_weak call_abs fun xs H Q ⟨g, σ, ρ, st, ds, R, r, k⟩ => by
  unfold fAbs at k
  split at k
  · obtain ⟨x, rfl, r1⟩ := r.one
    cases r1
    exact ⟨_, rfl, FinG.now k R (.int _)⟩
  · exact k.elim
/-! ### list(range(..)) -/
def intL (lo : Int) (n : Nat) : List D := (List.range n).map fun i : Nat => D.int (lo + i)
theorem cr_rangeD : CallR X (.type "range") (fun vs H Q => (∃ j, vs = [V.int j] ∧ ∀ p, H p = none → Q (.ref p) (upd H p (.rng 0 j))) ∨ ∃ i j, vs = [V.int i, V.int j] ∧ ∀ p, H p = none → Q (.ref p) (upd H p (.rng i j))) := by
  intro pins s σ H vs us Q I r h
  rcases h with ⟨j, rfl, q⟩ | h
  · obtain ⟨u1, rfl, rj⟩ := vals1 r
    obtain ⟨t, rfl⟩ := rj
    refine call_range_1 ⟨.ref s.heap.objs.size, upd H s.heap.objs.size (.rng 0 j), I.laid (t' := s.toks + 1 + 1) (fun b o e => Heap.get?_push_of_some _ e) (Nat.le_refl _) ?_, rfl, q _ (I.hok.fresh (Nat.le_refl _))⟩
    exact ⟨s.toks, t, s.toks + 1, Heap.get?_push_size _ rfl⟩
  · exact cr_range2 pins s σ H vs us Q I r h
theorem cr_listR (hc : X.calm = true) : CallR X (.type "list") (fun vs H Q => ∃ p lo hi, vs = [V.ref p] ∧ H p = some (.rng lo hi) ∧ -(2 ^ 30) ≤ lo ∧ lo ≤ 2 ^ 30 ∧ hi ≤ lo + 100000 ∧ -(2 ^ 30) ≤ hi ∧ ∀ l, H l = none → Q (.ref l) (upd H l (.lst ((List.range (hi - lo).toNat).map fun i : Nat => V.int (lo + i))))) := by
  intro pins s σ H vs us Q I r h
  obtain ⟨p, lo, hi, rfl, hp, h1, h2, h3, h4, q⟩ := h
  rw [Vals.ref1 r]
  obtain ⟨t, u, v, ho⟩ := I.hok p _ hp
  have hn : Builtin.Range.rangeSize lo hi 1 = ((hi - lo).toNat : Int) := by rw [rangeSize_one]; split <;> omega
  have hs : Builtin.Range.small lo hi 1 = true := by
    have f : ∀ z : Int, -(2 ^ 31) ≤ z → z ≤ 2 ^ 31 → Builtin.Range.rangeFitsLong z = true := fun z a b => by
      unfold Builtin.Range.rangeFitsLong
      simp only [Bool.and_eq_true, decide_eq_true_eq]
      omega
    have f1 := f lo (by omega) (by omega)
    have f2 := f hi (by omega) (by omega)
    have f3 := f 1 (by omega) (by omega)
    have f4 := f (Builtin.Range.rangeSize lo hi 1) (by rw [hn]; omega) (by rw [hn]; omega)
    unfold Builtin.Range.small
    simp only [f1, f2, f3, f4, Bool.and_self, Bool.true_and, Bool.and_true]
    rw [hn]
    by_cases z : ((hi - lo).toNat : Int) = 0
    · simp [z]
    · simp only [Bool.or_eq_true]
      right
      first
        | (simp only [Bool.and_eq_true, decide_eq_true_eq]; omega)
        | (unfold Builtin.Range.rangeFitsLong; simp only [Bool.and_eq_true, decide_eq_true_eq]; omega)
        | (split <;> simp <;> omega)
  refine call_list_range (I.ok.hd hc) ho hs hn (by omega) fun h' tk acc' c' k e hi' => ?_
  have hsz : acc'.size = (hi - lo).toNat := hi'.1
  have rv : ∀ (n : Nat) (l : List Value), l.length = n → (∀ (j : Nat) (v : Value), l[j]? = some v → ∃ t, v = .int (lo + j * 1) t) → Vals ((List.range n).map fun i : Nat => V.int (lo + i)) l := by
    intro n l hl hj
    refine vals_pt (by simp [hl]) fun j x y hx hy => ?_
    obtain ⟨t, rfl⟩ := hj j y hy
    rw [List.getElem?_map, Option.map_eq_some_iff] at hx
    obtain ⟨i, hi, rfl⟩ := hx
    have : i = j := by
      have := List.getElem?_eq_some_iff.mp hi
      obtain ⟨_, e⟩ := this
      rw [List.getElem_range] at e
      exact e.symm
    subst this
    exact ⟨t, by rw [Int.mul_one]⟩
  have hz : ((List.range (hi - lo).toNat).map fun i : Nat => V.int (lo + i)).length ≤ sizeLine := by
    rw [List.length_map, List.length_range, sizeLine_eq]
    omega
  exact ⟨.ref s.heap.objs.size, _, I.laid (t' := tk) k (Nat.le_refl _) (show ObjOk X.prog X.w _ h' _ (.lst ((List.range (hi - lo).toNat).map fun i : Nat => V.int (lo + i))) from ⟨hz, acc'.toList, c', rv (hi - lo).toNat acc'.toList (by simpa using hsz) fun j v hv => hi'.2 j v (by simpa using hv), by simpa using e⟩), rfl, q _ (I.hok.fresh (Nat.le_refl _))⟩
theorem intL_rd {K : PySem.W.Frag} {g : G} (lo : Int) (n : Nat) : RdL K g (intL lo n) ((List.range n).map fun i : Nat => V.int (lo + i)) := by
  unfold intL
  generalize List.range n = l
  induction l with
  | nil => exact .nil
  | cons a l ih => exact .cons (.int _) ih
/-- list(range(..)) -/
def fLR (c : Bool) (ds : List D) (st : Sto) : Res D := match ds with
  | [.int j] => if -(2 ^ 30) ≤ j ∧ j ≤ 100000 then mk c (intL 0 j.toNat) st else .stuck
  | [.int i, .int j] => if (-(2 ^ 30) ≤ i ∧ i ≤ 2 ^ 30) ∧ j ≤ i + 100000 ∧ -(2 ^ 30) ≤ j then mk c (intL i (j - i).toNat) st else .stuck
  | _ => .stuck
theorem de_LR {c : Bool} {es : List Expr} {e : Expr} {ms : MEs} {p p2 pos pos2 : Pos} (hc : X.calm = true) (hg : Gl X "list") (hm : X.mg "list" = none) (hg2 : Gl X "range") (hm2 : X.mg "range" = none) (ha : DA X W (e :: es) ms)
    (he : starEach (e :: es) X.env = (false, eval e X.env) :: starEach es X.env) (hpl : (backTo pos2 (starEach es X.env)).any (·.1) = false) :
    DE X W (.Call (.Name "list" p) [.Call (.Name "range" p2) (e :: es) [] pos2] [] pos) (mOn (fLR c) ms) :=
  pe_weak (pe_callTy (cr_listR hc) hg hm rfl (pa_cons (pe_callTy cr_rangeD hg2 hm2 rfl ha (by decide) (by decide +kernel) he hpl) pa_nil) (by decide) (by decide +kernel) rfl rfl) fun σ H Q q => by
    obtain ⟨g, ρ, st, R, k⟩ := on_run q
    refine ⟨g, ρ, st, R, k.imp fun xs H1 ⟨g1, ρ1, st1, ds, R1, r1, k1⟩ => ?_⟩
    have key : ∀ (i j : Int) (p : Addr), H1 p = none → -(2 ^ 30) ≤ i → i ≤ 2 ^ 30 → j ≤ i + 100000 → -(2 ^ 30) ≤ j → FinG X.K X.mg W (pD X.K) g1 σ ρ1 (mk c (intL i (j - i).toNat) st1) Q →
        ∃ p' lo hi, [V.ref p] = [V.ref p'] ∧ (upd H1 p (.rng i j)) p' = some (.rng lo hi) ∧ -(2 ^ 30) ≤ lo ∧ lo ≤ 2 ^ 30 ∧ hi ≤ lo + 100000 ∧ -(2 ^ 30) ≤ hi ∧ ∀ l, (upd H1 p (.rng i j)) l = none → Q (.ref l) (upd (upd H1 p (.rng i j)) l (.lst ((List.range (hi - lo).toNat).map fun i : Nat => V.int (lo + i)))) := fun i j p hp b1 b2 b3 b4 k2 => by
      have E := R1.put_ext (o := .rng i j) hp
      exact ⟨p, i, j, rfl, upd_same, b1, b2, b3, b4, (new_mk (R1.put (o := .rng i j) hp) (intL_rd i (j - i).toNat) (k2.ext E)).2⟩
    unfold fLR at k1
    split at k1
    · rename_i j
      obtain ⟨x, rfl, rx⟩ := r1.one
      cases rx
      by_cases hj : -(2 ^ 30) ≤ j ∧ j ≤ 100000
      · rw [if_pos hj] at k1
        refine .inl ⟨j, rfl, fun p hp => ?_⟩
        exact key 0 j p hp (by omega) (by omega) (by omega) hj.1 (by rw [Int.sub_zero]; exact k1)
      · rw [if_neg hj] at k1
        exact k1.elim
    · rename_i i j
      obtain ⟨x, y, rfl, rx, ry⟩ := r1.two
      cases rx
      cases ry
      by_cases hj : (-(2 ^ 30) ≤ i ∧ i ≤ 2 ^ 30) ∧ j ≤ i + 100000 ∧ -(2 ^ 30) ≤ j
      · rw [if_pos hj] at k1
        exact .inr ⟨i, j, rfl, fun p hp => key i j p hp hj.1.1 hj.1.2 hj.2.1 hj.2.2 k1⟩
      · rw [if_neg hj] at k1
        exact k1.elim
    · exact k1.elim
/-! ### dict(pairs) -/
def pairsD : List D → Option (List (Key × D))
  | [] => some []
  | .tup [k, d] :: l => match keyD k, pairsD l with
    | some kk, some r => some ((kk, d) :: r)
    | _, _ => none
  | _ :: _ => none
def mergeD (kvs more : List (Key × D)) : List (Key × D) := more.foldl (fun acc kv => putK2 acc kv.1 kv.2) kvs
theorem RdK.merge {K : PySem.W.Frag} {g : G} : ∀ {more : List (Key × D)} {mx : List (Key × V)} {kvs : List (Key × D)} {kx : List (Key × V)}, RdK K g more mx → RdK K g kvs kx → RdK K g (mergeD kvs more) (mergeK kx mx) := by
  intro more mx kvs kx h
  revert kvs kx
  refine RdK.elim (P := fun more mx => ∀ {kvs kx}, RdK K g kvs kx → RdK K g (mergeD kvs more) (mergeK kx mx)) (fun q => q) (fun k d v more mx r _ ih kvs kx q => ?_) h
  exact ih (q.put r)
theorem pairs_rd {K : PySem.W.Frag} {g : G} {H : Hp} (him : ∀ a o, g.im a = some o → H a = some o) : ∀ {ds : List D} {xs : List V} {kvs : List (Key × D)}, RdL K g ds xs → pairsD ds = some kvs → ∃ (ps : List Addr) (kx : List (Key × V)), xs = ps.map V.ref ∧ Paired (fun p kv => SqT K H p [kV kv.1, kv.2]) ps kx ∧ RdK K g kvs kx
  | [], _, kvs, .nil, h => by
    cases h
    exact ⟨[], [], rfl, .nil, .nil⟩
  | d :: ds, _, kvs, .cons r rs, h => by
    unfold pairsD at h
    split at h
    · rename_i e
      cases e
    · rename_i k d' l e
      cases e
      split at h
      · rename_i kk r' h1 h2
        cases h
        obtain ⟨ps, kx, rfl, hp, rk⟩ := pairs_rd him rs h2
        cases r with
        | @tup a xs _ e1 e2 =>
          obtain ⟨x, y, rfl, rx, ry⟩ := e2.two
          obtain rfl := key_rd rx h1
          exact ⟨a :: ps, (kk, y) :: kx, rfl, .cons (stu_sq him e1) hp, .cons ry rk⟩
      · cases h
    · cases h
def mkDk (c : Bool) (kvs : List (Key × D)) (st : Sto) : Res D := if c then .ok (.cell st.length) (st ++ [.dic kvs]) else .ok (.dic kvs) st
theorem new_dk {g : G} {σ : L2.St} {H : Hp} {ρ : Ro} {st : Sto} {c : Bool} {kvs : List (Key × D)} {kx : List (Key × V)} {Q : VK} (R : Rl X.K g σ H ρ st) (r : RdK X.K g kvs kx) (k : FinG X.K X.mg W (pD X.K) g σ ρ (mkDk c kvs st) Q) {p : Addr} (hp : H p = none) : Q (.ref p) (upd H p (.dK kx)) := by
  unfold mkDk at k
  cases c with
  | true =>
    have E := g.more_ext p
    refine k (g.more p) _ _ E (R.more (c := .dic kvs) hp ⟨R.fresh hp, kx, upd_same, r.1, r.2⟩) (.cell ?_)
    show (g.ph ++ [p])[st.length]? = some p
    rw [← R.len]
    simp
  | false =>
    have E := R.put_ext (o := .dK kx) hp
    exact k (g.put p (.dK kx)) _ _ E (R.put hp) (.dic (.inl G.put_at) r.1 rfl rfl (r.2.mono E))
def fDictOf (c : Bool) (ds : List D) (st : Sto) : Res D := match ds with
  | [d] => match view d st with
    | .lst l => match pairsD l with
      | some kvs => mkDk c (mergeD [] kvs) st
      | none => .stuck
    | _ => .stuck
  | _ => .stuck
theorem cd_dict (hc : X.calm = true) (c : Bool) : CalD X W (.type "dict") (fDictOf c) := cr_weak (call_dictP hc) fun xs H Q ⟨g, σ, ρ, st, ds, R, r, k⟩ => by
  unfold fDictOf at k
  split at k
  · obtain ⟨x, rfl, r1⟩ := r.one
    split at k
    · rename_i l h1
      split at k
      · rename_i kvs h2
        obtain ⟨p, xs, rfl, e1, q1⟩ := at_lst R r1 h1
        obtain ⟨ps, kx, rfl, hp, rk⟩ := pairs_rd R.im q1 h2
        exact ⟨p, ps, kx, rfl, .inl (.inl e1), hp, fun q hq => new_dk R (RdK.merge rk .nil) k hq⟩
      · exact k.elim
    · exact k.elim
  · exact k.elim
/-! ### methods of dicts -/
def isDi (d : D) (st : Sto) : Bool := match view d st with
  | .dic _ => true
  | _ => false
def mDMeth (f : D → List D → Sto → Res D) (o : ME) (as : MEs) : ME := fun ρ st => (o ρ st).bind fun d st => if isDi d st then (as ρ st).bind fun ds st => f d ds st else .stuck
theorem de_dmeth {o e : Expr} {es : List Expr} {mo : ME} {ms : MEs} {name : Str} {apos pos : Pos} {idn : String} {f : D → List D → Sto → Res D} (slot : Slot "dict" name idn) (hty : typeOf (.builtin idn) = pure (.type "method_descriptor")) (hm : MtD X W idn f) (ho : DE X W o mo) (ha : DA X W (e :: es) ms)
    (hbase : attributeBase o name X.env (eval o X.env) = eval o X.env)
    (hfew : ((backTo pos (starEach (e :: es) X.env)).all (fun x => !x.1) && (backToKw pos (keywordEach [] X.env)).all (fun x => x.1.isSome)
      && decide ((e :: es).length + ([] : List Keyword).length + (if ([] : List Keyword).isEmpty then 0 else 1) < 30)) = true)
    (hline : (apos.endLine == pos.line) = true) (hst : starEach (e :: es) X.env = (false, eval e X.env) :: starEach es X.env) (hplain : (backTo pos (starEach es X.env)).any (·.1) = false) :
    DE X W (.Call (.Attribute o name apos) (e :: es) [] pos) (mDMeth f mo ms) := by
  refine ⟨fun pins s σ H Q I ⟨g, ρ, st, R, k⟩ => ?_⟩
  refine wpAny_Call_method_late hbase hfew hline rfl (thn (ho.run pins s σ H _ I ⟨g, ρ, st, R, FinG.bind k⟩) fun v s1 ⟨x, H1, I1, rx, g1, st1, d, e1, R1, r1, k1⟩ => ?_)
  by_cases hd : isDi d st1 = true
  · rw [if_pos hd] at k1
    have hv : ∃ kvs, view d st1 = .dic kvs := by
      unfold isDi at hd
      split at hd
      · exact ⟨_, by assumption⟩
      · cases hd
    obtain ⟨kvs, hv⟩ := hv
    obtain ⟨a, kx, rfl, ha1, _⟩ := at_dic R1 r1 hv
    obtain rfl : v = Value.ref a := rx
    obtain ⟨t1, t2, _⟩ := isD_at I1 (.inl ⟨kx, ha1⟩)
    refine ⟨"dict", idn, PySem.F.plainAttrs_dict, slot, hty, t1, t2, ?_⟩
    have hA := ha.run pos pins s1 σ H1 _ I1 ⟨g1, ρ, st1, R1, FinG.bind k1⟩
    rw [hst] at hA ⊢
    refine Calls.callWith_builtin (by show (false || (backTo pos (starEach es X.env)).any (·.1)) = false; rw [hplain] <;> rfl) (Calls.evalArgs_plain ?_)
    exact thn hA fun us s2 ⟨vs, H2, I2, r2, g2, st2, ds, e2, R2, r3, k2⟩ => hm pins s2 σ H2 _ vs (Value.ref a) us Q I2 (show RelV (.ref a) (.ref a) from rfl) r2 ⟨g2, σ, ρ, st2, d, ds, R2, r1.mono e2, r3, k2⟩
  · rw [if_neg hd] at k1
    exact k1.elim
/-- d.get(k), d.get(k, x) -/
def fGet (x : D) (ds : List D) (st : Sto) : Res D := match view x st, ds with
  | .dic kvs, [k] => match keyD k with
    | some kk => .ok ((valD kvs kk).getD .non) st
    | none => .stuck
  | .dic kvs, [k, e] => match keyD k with
    | some kk => .ok ((valD kvs kk).getD e) st
    | none => .stuck
  | _, _ => .stuck
theorem md_get (hu : X.A.units + 1 < cLine) : MtD X W "dict.get" fGet := fun pins s σ' H x xs v us Q I rx rs ⟨g, σ, ρ, st, d, ds, R, r0, r, k⟩ => by
  unfold fGet at k
  split at k
  · rename_i kvs kd h1
    obtain ⟨a, kx, rfl, ha, q1, q2⟩ := at_dic R r0 h1
    obtain ⟨y, rfl, r1⟩ := r.one
    obtain rfl : v = Value.ref a := rx
    obtain ⟨u, rfl, ry⟩ := vals1 rs
    split at k
    · rename_i kk hk
      refine d_get1 hu I (dget_of (kvs := kvs) ha r1 hk) ry fun w' s' I' rw' => ?_
      rcases RdK.val kk (⟨q1, q2⟩ : RdK X.K g kvs kx) with ⟨a1, b1⟩ | ⟨d1, w1, a1, b1, r2⟩
      · rw [b1] at rw'
        rw [a1] at k
        exact ⟨_, H, I', rw', FinG.now k R .non⟩
      · rw [b1] at rw'
        rw [a1] at k
        exact ⟨_, H, I', rw', FinG.now k R r2⟩
    · exact k.elim
  · rename_i kvs kd ed h1
    obtain ⟨a, kx, rfl, ha, q1, q2⟩ := at_dic R r0 h1
    obtain ⟨y, z, rfl, r1, rz⟩ := r.two
    obtain rfl : v = Value.ref a := rx
    obtain ⟨u, u2, rfl, ry, ru⟩ := vals2 rs
    split at k
    · rename_i kk hk
      refine d_get2 hu I (dget_of (kvs := kvs) ha r1 hk) ry ru fun w' s' I' rw' => ?_
      rcases RdK.val kk (⟨q1, q2⟩ : RdK X.K g kvs kx) with ⟨a1, b1⟩ | ⟨d1, w1, a1, b1, r2⟩
      · rw [b1] at rw'
        rw [a1] at k
        exact ⟨_, H, I', rw', FinG.now k R rz⟩
      · rw [b1] at rw'
        rw [a1] at k
        exact ⟨_, H, I', rw', FinG.now k R r2⟩
    · exact k.elim
  · exact k.elim
end
end P3

set_option maxHeartbeats 4000000
/-! P5D: sorted of texts, of a dict of texts; any number of them. -/
namespace P3
open PySem PySem.Spec PyProof.Rows L2 Srt SrtO
open Sem (wp)
theorem sorted_uniq {α : Type} {r : α → α → Prop} (anti : ∀ a b, r a b → r b a → a = b) : ∀ {l m : List α}, l.Perm m → l.Pairwise r → m.Pairwise r → l = m
  | [], m, p, _, _ => (List.nil_perm.mp p).symm
  | a :: l, [], p, _, _ => absurd (List.perm_nil.mp p) (by simp)
  | a :: l, b :: m, p, h1, h2 => by
    rw [List.pairwise_cons] at h1 h2
    have e : a = b := by
      have ha : a ∈ b :: m := p.mem_iff.mp List.mem_cons_self
      have hb : b ∈ a :: l := p.mem_iff.mpr List.mem_cons_self
      rcases List.mem_cons.mp ha with e | ha
      · exact e
      · rcases List.mem_cons.mp hb with e | hb
        · exact e.symm
        · exact anti _ _ (h1.1 _ hb) (h2.1 _ ha)
    subst e
    rw [sorted_uniq anti ((List.perm_cons a).mp p) h1.2 h2.2]
/-! ### texts by their order -/
def leS (a b : Str) : Bool := !decide (b.cps.toList < a.cps.toList)
theorem leS_iff {a b : Str} : leS a b = true ↔ ¬ b.cps.toList < a.cps.toList := by simp [leS]
theorem str_ext {a b : Str} (h : a.cps.toList = b.cps.toList) : a = b := by
  cases a; cases b
  simp only [Array.toList_inj] at h
  rw [h]
theorem leS_anti {a b : Str} (h : leS a b = true) (k : leS b a = true) : a = b := by
  rw [leS_iff] at h k
  exact str_ext (List.le_antisymm (List.not_lt.mp h) (List.not_lt.mp k))
theorem leS_trans {a b c : Str} (h : leS a b = true) (k : leS b c = true) : leS a c = true := by
  rw [leS_iff] at h k ⊢
  exact List.not_lt.mpr (List.le_trans (List.not_lt.mp h) (List.not_lt.mp k))
theorem leS_total (a b : Str) : (leS a b || leS b a) = true := by
  rw [Bool.or_eq_true, leS_iff, leS_iff]
  rcases List.le_total b.cps.toList a.cps.toList with h | h
  · exact .inr (List.not_lt.mpr h)
  · exact .inl (List.not_lt.mpr h)
/-- texts in order -/
def sortS (l : List Str) : List Str := l.mergeSort leS
theorem sortS_perm (l : List Str) : (sortS l).Perm l := List.mergeSort_perm l leS
theorem sortS_sorted (l : List Str) : (sortS l).Pairwise fun a b => leS a b = true := List.pairwise_mergeSort (le := leS) (fun a b c h k => leS_trans h k) leS_total l
theorem sortS_uniq {l m : List Str} (p : m.Perm l) (h : m.Pairwise fun a b => leS a b = true) : m = sortS l :=
  sorted_uniq (fun a b => leS_anti) (p.trans (sortS_perm l).symm) h (sortS_sorted l)
/-! ### the machine's sort of texts -/
section
variable {prog : Program} {w : World} {A : Around} {E : Value → Shared → Prop} {s : Shared}
def sv : Value → Str
  | .str x _ => x
  | _ => Str.empty
def ltSv (v u : Value) : Bool := decide ((sv v).cps.toList < (sv u).cps.toList)
theorem swo_str : Swo ltSv := by
  refine ⟨fun x y h => ?_, fun x y z h1 h2 => ?_⟩
  · have a := of_decide_eq_true (p := (sv x).cps.toList < (sv y).cps.toList) h
    exact decide_eq_false (p := (sv y).cps.toList < (sv x).cps.toList) (List.lt_asymm a)
  · have a := of_decide_eq_false (p := (sv y).cps.toList < (sv x).cps.toList) h1
    have b := of_decide_eq_false (p := (sv z).cps.toList < (sv y).cps.toList) h2
    exact decide_eq_false (p := (sv z).cps.toList < (sv x).cps.toList) (List.not_lt.mpr (List.le_trans (List.not_lt.mp a) (List.not_lt.mp b)))
theorem strs_mem : ∀ {vs : List Value} {ns : List Str}, StrsAre vs ns → ∀ v ∈ vs, ∃ i t, v = Value.str i t
  | _, _, .nil, v, h => absurd h (by simp)
  | _, _, .cons n t r, v, h => by
    rcases List.mem_cons.mp h with e | h
    · exact ⟨n, t, e⟩
    · exact strs_mem r v h
theorem strs_sv : ∀ {vs : List Value}, (∀ v ∈ vs, ∃ i t, v = Value.str i t) → StrsAre vs (vs.map sv)
  | [], _ => .nil
  | v :: vs, h => by
    obtain ⟨i, t, e⟩ := h v List.mem_cons_self
    subst e
    exact .cons i t (strs_sv fun u hu => h u (List.mem_cons_of_mem _ hu))
theorem sv_strs : ∀ {vs : List Value} {ns : List Str}, StrsAre vs ns → vs.map sv = ns
  | _, _, .nil => rfl
  | _, _, .cons n t r => congrArg (n :: ·) (sv_strs r)
theorem str_cmp {vs : List Value} {ns : List Str} (hI : StrsAre vs ns) : SrtO.Cmp prog w A s oneType' (fun p => p.1 ∈ vs) (lt2 ltSv) := by
  intro p q hm hm'
  obtain ⟨a, t, e⟩ := strs_mem hI _ hm
  obtain ⟨b, u, e'⟩ := strs_mem hI _ hm'
  show wpAny (model prog w) A (keyLt' oneType' p.1 q.1) (fun r s' => s' = s ∧ r = ltSv p.1 q.1) (fun _ _ => False) s
  rw [e, e', keyLt'_oneType]
  exact oneLt_str ⟨rfl, rfl⟩
theorem strs_sortable {a : Addr} {vs : List Value} {ns : List Str} (hI : StrsAre vs ns) (h2 : 2 ≤ vs.length) : SortableO prog w A s a vs ltSv := by
  intro h' _
  refine ⟨oneType', fun Q E hq => ?_, str_cmp hI⟩
  match vs, hI, h2 with
  | v1 :: v2 :: rest, hI, _ =>
    rw [keyKind_strs hI]
    exact wpAny_pure hq
  | [], _, h => exact absurd h (by decide)
  | [v], _, h => exact absurd h (by simp)
theorem strs_out {vs out : List Value} {ns : List Str} (hI : StrsAre vs ns) (hs : Srtd ltSv out) (hb : Stb ltSv out vs) : StrsAre out (sortS ns) := by
  have h1 : StrsAre out (out.map sv) := strs_sv fun v hv => strs_mem hI v (hb.perm.mem_iff.mp hv)
  have h2 : (out.map sv).Perm ns := by
    have q := hb.perm.map sv
    rw [sv_strs hI] at q
    exact q
  have h3 : (out.map sv).Pairwise fun a b => leS a b = true := List.pairwise_map.mpr (hs.imp fun {x y} h => by
    rw [leS_iff]
    exact of_decide_eq_false (p := (sv y).cps.toList < (sv x).cps.toList) h)
  rw [← sortS_uniq h2 h3]
  exact h1
/-- sorted(x), x anything that is gone through -/
theorem sorted_coll {l : Value} {ltv : Value → Value → Bool} {Q : Value → Shared → Prop} (O : Swo ltv)
    (hc : wpAny (model prog w) A.in1 (collect l) (fun vs s1 => vs.length ≤ sizeLine ∧ (2 ≤ vs.length → ∀ (h₁ : Heap) (a : Addr), (∀ b o, s1.heap.get? b = some o → b ≠ a ∧ h₁.get? b = some o) → SortableO prog w A.in1.in1 { s1 with heap := h₁ } a vs ltv) ∧
      ∀ (out : List Value) (h' : Heap) (a : Addr) (ep : Nat), Srtd ltv out → Stb ltv out vs → (∀ b o, s1.heap.get? b = some o → h'.get? b = some o) → s1.heap.objs.size ≤ a → h'.get? a = some (seqObj "list" out.toArray ep) → Q (.ref a) { s1 with heap := h' }) E s) :
    wpAny (model prog w) A (call (.builtin "sorted") [l]) Q E s := by
  refine Calls.call_function_entry kind_sorted plain_sorted entry_sorted (args_sorted1 _) ?_
  unfold Builtin.«sorted»
  refine wpAny_bind (m := checkCount "sorted" 1 1 _) (wpAny_pure ?_)
  refine wpAny_bind (wpAny_mono hc (fun vs s1 h => ?_) fun _ _ e => e)
  obtain ⟨hz, hS, hQ⟩ := h
  refine wpAny_bind (wpAny_newList ?_ hz)
  have hoL : (s1.heap.push (seqObj "list" vs.toArray 0)).get? s1.heap.objs.size = some (seqObj "list" vs.toArray 0) := Heap.get?_push_size _ rfl
  have keep : ∀ b o, s1.heap.get? b = some o → b ≠ s1.heap.objs.size ∧ (s1.heap.push (seqObj "list" vs.toArray 0)).get? b = some o := fun b o q => ⟨Nat.ne_of_lt (Heap.lt_size q), Heap.get?_push_of_some _ q⟩
  show wpAny _ _ _ _ _ { s1 with heap := s1.heap.push (seqObj "list" vs.toArray 0) }
  refine wpAny_bind (wpAny_holding (wpAny_call_entry slot_list_sort ⟨_, hoL, rfl⟩ entry_list_sort (list_sort_ord O hoL hz (fun h2 => hS h2 _ _ keep) fun out hs hb => ⟨_, rfl, ?_⟩) (args_list_sort _)))
  obtain ⟨ep, he⟩ := sortedHeap_at (vs := vs) (out := out.toArray) hoL
  refine wpAny_pure ⟨_, rfl, hQ out _ _ ep hs hb (fun b o q => ?_) (Nat.le_refl _) he⟩
  rw [sortedHeap_old (keep b o q).1 (by rw [size_push']; exact Nat.lt_succ_of_lt (Heap.lt_size q))]
  exact (keep b o q).2
/-- what a dict gives when it is gone through -/
theorem collect_dict {κ : Type} [DecidableEq κ] {knd : KeyKind prog w κ} {d : Addr} {kvs : List (κ × Value)} {ep : Nat} {Q : List Value → Shared → Prop} (hh : A.handled = none) (lo : (d == sysModules) = false) (hm : s.heap.DictAt knd d kvs ep) (hn : kvs.length ≤ sizeLine)
    (hQ : ∀ (h' : Heap) (tk : Nat) (acc : Array Value), (∀ b o, s.heap.get? b = some o → h'.get? b = some o) → ItemsOf (fun i v => ∃ k x, kvs[i]? = some (k, x) ∧ knd.is k v = true) acc kvs.length → Q acc.toList { s with heap := h', toks := tk }) :
    wpAny (model prog w) A (collect (.ref d)) Q E s := by
  unfold collect
  refine wpAny_bind (wpAny_runValue (codeAny_builtin PySem.F.entry_proto_collect ?_))
  rw [Around.under_plainId PySem.F.plain_proto_collect _]
  show wpAny _ A.in1 (newList [] >>= fun l => again (.builtin "list.__iadd__" ⟨[l, .ref d], []⟩)) _ _ s
  refine wpAny_bind (wpAny_newObj_type ?_)
  refine wpAny_pure ⟨plainId_quiet PySem.F.plain_list_iadd _, codeAny_builtin PySem.F.entry_list_iadd ?_⟩
  rw [Around.under_plainId PySem.F.plain_list_iadd _]
  show wpAny _ A.in1 (Builtin.List.listExtendWith (.ref s.heap.objs.size) (.ref d) (.ref s.heap.objs.size)) _ _ _
  have hS : (s.heap.push { cls := .type "list", data := .seq ([] : List Value).toArray }).get? s.heap.objs.size = some { cls := .type "list", data := .seq #[] 0 } := Heap.get?_push_size _ rfl
  have hne : s.heap.objs.size ≠ d := Nat.ne_of_gt hm.lt_size
  refine wpAny_mono (PySem.W.kdl_extend (A := A) (K := PySem.W.kdl_dict (knd := knd) (kvs := kvs) (ep := ep) lo) (R := fun rr s' => rr = .ok (.ret (.ref s.heap.objs.size)) ∧ ∃ (h' : Heap) (tk : Nat) (acc : Array Value) (c' : Nat), s' = { s with heap := h', toks := tk } ∧
      (∀ b o, s.heap.get? b = some o → h'.get? b = some o) ∧ h'.get? s.heap.objs.size = some { cls := .type "list", dict := none, data := .seq acc c', slots := #[] } ∧ ItemsOf (fun i v => ∃ k x, kvs[i]? = some (k, x) ∧ knd.is k v = true) acc kvs.length)
    (s := { s with heap := s.heap.push { cls := .type "list", data := .seq ([] : List Value).toArray } }) hh (hm.push _) _ hne hne _ 0 hS
    (fun h' tk acc c' hk e hi => ⟨rfl, h', tk, acc, c', rfl, fun b o q => hk b o (Nat.ne_of_lt (Heap.lt_size q)) (Heap.get?_push_of_some _ q), e, hi⟩) hn) (fun fin s' h => ?_) (fun e s' h => ?_)
  · cases fin with
    | done f =>
      obtain ⟨e, h', tk, acc, c', rfl, hk, hS', hi⟩ := h
      cases e
      show wpAny _ A (load s.heap.objs.size >>= _) _ _ _
      exact wpAny_bind (wpAny_load hS' (wpAny_pure (hQ h' tk acc hk hi)))
    | again c' =>
      refine ⟨h.1, codeAny_mono h.2 fun rr s'' hr' => ?_⟩
      obtain ⟨rfl, h', tk, acc, c', rfl, hk, hS', hi⟩ := hr'
      show wpAny _ A (load s.heap.objs.size >>= _) _ _ _
      exact wpAny_bind (wpAny_load hS' (wpAny_pure (hQ h' tk acc hk hi)))
  · exact absurd h.1 (by simp)
end
/-! ### sorted -/
section
variable {X : Cx} {W : WX}
def txtsOf : List D → Option (List Str)
  | [] => some []
  | .str z :: l => (txtsOf l).map (z :: ·)
  | _ :: _ => none
theorem txts_rd {K : PySem.W.Frag} {g : G} : ∀ {ds : List D} {xs : List V} {ss : List Str}, RdL K g ds xs → txtsOf ds = some ss → xs = ss.map V.str
  | _, _, _, .nil, h => by cases h; rfl
  | .str z :: ds, _, ss, .cons r rs, h => by
    have h : (txtsOf ds).map (z :: ·) = some ss := h
    rw [Option.map_eq_some_iff] at h
    obtain ⟨l, h1, rfl⟩ := h
    rw [txts_rd rs h1]
    cases r
    rfl
  | .non :: _, _, _, .cons _ _, h => by cases h
  | .bl _ :: _, _, _, .cons _ _, h => by cases h
  | .int _ :: _, _, _, .cons _ _, h => by cases h
  | .lst _ :: _, _, _, .cons _ _, h => by cases h
  | .tup _ :: _, _, _, .cons _ _, h => by cases h
  | .dic _ :: _, _, _, .cons _ _, h => by cases h
  | .cell _ :: _, _, _, .cons _ _, h => by cases h
  | .scr _ :: _, _, _, .cons _ _, h => by cases h
  | .ty _ :: _, _, _, .cons _ _, h => by cases h
  | .code _ :: _, _, _, .cons _ _, h => by cases h
  | .ob _ _ _ :: _, _, _, .cons _ _, h => by cases h
def keyTxts : List (Key × D) → Option (List Str)
  | [] => some []
  | (.inr z, _) :: l => (keyTxts l).map (z :: ·)
  | _ :: _ => none
theorem keyTxts_at : ∀ {kvs : List (Key × D)} {ss : List Str}, keyTxts kvs = some ss → kvs.map (·.1) = ss.map Sum.inr
  | [], _, h => by cases h; rfl
  | (.inr z, d) :: l, ss, h => by
    have h : (keyTxts l).map (z :: ·) = some ss := h
    rw [Option.map_eq_some_iff] at h
    obtain ⟨m, h1, rfl⟩ := h
    show _ :: _ = _ :: _
    rw [keyTxts_at h1]
  | (.inl _, _) :: _, _, h => by cases h
theorem strs_rd {K : PySem.W.Frag} {g : G} : ∀ ss : List Str, RdL K g (ss.map D.str) (ss.map V.str)
  | [] => .nil
  | z :: l => .cons (.str z) (strs_rd l)
def fSorted (c : Bool) (ds : List D) (st : Sto) : Res D := match ds with
  | [d] => match view d st with
    | .lst l => match txtsOf l with
      | some ss => mk c ((sortS ss).map D.str) st
      | none => .stuck
    | .tup l => match txtsOf l with
      | some ss => mk c ((sortS ss).map D.str) st
      | none => .stuck
    | .dic kvs => match keyTxts kvs with
      | some ss => mk c ((sortS ss).map D.str) st
      | none => .stuck
    | _ => .stuck
  | _ => .stuck
theorem strsAre_of_keys : ∀ {vs : List (Key × Value)} {ss : List Str} {us : List Value} {P : Program} {w : World}, vs.map (·.1) = ss.map Sum.inr → us.length = vs.length → (∀ (j : Nat) (v : Value), us[j]? = some v → ∃ k x, vs[j]? = some (k, x) ∧ (mixKind P w).is k v = true) → StrsAre us ss
  | [], [], [], _, _, _, _, _ => .nil
  | [], _ :: _, _, _, _, h, _, _ => by simp at h
  | _ :: _, [], _, _, _, h, _, _ => by simp at h
  | [], [], _ :: _, _, _, _, h, _ => by simp at h
  | _ :: _, _ :: _, [], _, _, _, h, _ => by simp at h
  | (k, x) :: vs, z :: ss, u :: us, P, w, h, hl, hk => by
    simp only [List.map_cons, List.cons.injEq] at h
    obtain ⟨rfl, h⟩ := h
    obtain ⟨k', x', e, hu⟩ := hk 0 u rfl
    simp only [List.getElem?_cons_zero, Option.some.injEq, Prod.mk.injEq] at e
    obtain ⟨rfl, rfl⟩ := e
    obtain ⟨t, rfl⟩ := Value.isStrOf_shape (x := z) (v := u) hu
    exact .cons z t (strsAre_of_keys h (by simpa using hl) fun j v hv => by simpa using hk (j + 1) v (by simpa using hv))
theorem sort_end {pins : List (Addr × Obj)} {σ' : L2.St} {H : Hp} {s : Shared} {g : G} {σ : L2.St} {ρ : Ro} {st : Sto} {c : Bool} {ss : List Str} {Q : VK} {out : List Value} {h' : Heap} {a : Addr} {ep tk : Nat} (I : L2.Inv X pins σ' H s) (R : Rl X.K g σ H ρ st) (k : FinG X.K X.mg W (pD X.K) g σ ρ (mk c ((sortS ss).map D.str) st) Q)
    (ho : StrsAre out (sortS ss)) (keep : ∀ b o, s.heap.get? b = some o → h'.get? b = some o) (ha : s.heap.objs.size ≤ a) (he : h'.get? a = some (seqObj "list" out.toArray ep)) : EP X pins σ' Q (.ref a) { s with heap := h', toks := tk } := by
  obtain ⟨hz, q⟩ := new_mk (g := g) R (strs_rd (sortS ss)) k
  exact ⟨.ref a, upd H a (.lst ((sortS ss).map V.str)), I.laid (t' := tk) keep ha (show ObjOk X.prog X.w _ h' _ (.lst ((sortS ss).map V.str)) from ⟨hz, out, ep, vals_of_strs ho, he⟩), rfl, q a (I.hok.fresh ha)⟩
theorem cd_sorted (hc : X.calm = true) (c : Bool) : CalD X W (.builtin "sorted") (fSorted c) := by
  intro pins s σ' H xs us Q I rs ⟨g, σ, ρ, st, ds, R, r, k⟩
  have seq : ∀ (p : Addr) (its : List Value) (ss : List Str), Vals (ss.map V.str) its → (∃ T n, (T = "list" ∨ T = "tuple") ∧ ∃ o, s.heap.get? p = some o ∧ o.cls = .type T ∧ o.data = .seq its.toArray n) → its.length ≤ sizeLine → FinG X.K X.mg W (pD X.K) g σ ρ (mk c ((sortS ss).map D.str) st) Q → wpAny (model X.prog X.w) X.A (call (.builtin "sorted") [.ref p]) (EP X pins σ' Q) X.xe s := by
    intro p its ss rv ⟨T, n, hT, o, ho, hcl, hd⟩ hz k
    have hI := rv.strs
    refine sorted_coll swo_str (wpAny_collect_seq p hT ho hcl hd (fun h' kp => ?_) (by simpa using hz))
    refine ⟨by simpa using hz, fun h2 h₁ a _ => strs_sortable (by simpa using hI) h2, fun out h2 a ep hs hb keep ha he => ?_⟩
    exact sort_end (tk := s.toks) (I.kept (t' := s.toks) kp) R k (strs_out hI hs (by simpa using hb)) keep ha he
  unfold fSorted at k
  split at k
  · obtain ⟨x, rfl, r1⟩ := r.one
    obtain ⟨u, rfl, rx⟩ := vals1 rs
    split at k
    · rename_i l h1
      split at k
      · rename_i ss h2
        obtain ⟨p, xs, rfl, e1, q1⟩ := at_lst R r1 h1
        obtain rfl := txts_rd q1 h2
        obtain rfl : u = Value.ref p := rx
        obtain ⟨its, rv, pl, hz⟩ := I.list (.inl (.inl e1))
        obtain ⟨o, ho, hcl, n, hd⟩ := pl.isList
        exact seq p its ss rv ⟨"list", n, .inl rfl, o, ho, hcl, hd⟩ (by rw [← rv.length]; exact hz) k
      · exact k.elim
    · rename_i l h1
      split at k
      · rename_i ss h2
        obtain ⟨p, xs, rfl, e1, q1⟩ := at_tup r1 h1
        obtain rfl := txts_rd q1 h2
        obtain rfl : u = Value.ref p := rx
        obtain ⟨its, rv, pl, hz⟩ := I.tuple (stu_sq R.im e1)
        obtain ⟨o, ho, hcl, n, hd⟩ := pl
        exact seq p its ss rv ⟨"tuple", n, .inr rfl, o, ho, hcl, hd⟩ (by rw [← rv.length]; exact hz) k
      · exact k.elim
    · rename_i kvs h1
      split at k
      · rename_i ss h2
        obtain ⟨p, kx, rfl, e1, q1, q2⟩ := at_dic R r1 h1
        obtain rfl : u = Value.ref p := rx
        obtain ⟨hz, hsys, vs, rel, dof⟩ := dk_rd I.hok e1
        obtain ⟨ep, dat⟩ := dof.dictAt
        have hkeys : vs.map (·.1) = ss.map Sum.inr := (KV.keys rel).symm.trans (q1.symm.trans (keyTxts_at h2))
        have hlv : vs.length = kx.length := by simpa using congrArg List.length (KV.keys rel).symm
        refine sorted_coll swo_str (collect_dict (knd := mixKind X.prog X.w) (I.ok.hd hc) hsys dat (by rw [hlv]; exact hz) fun h' tk acc keep hi => ?_)
        have hI : StrsAre acc.toList ss := strsAre_of_keys hkeys (by simpa using hi.1) fun j v hv => hi.2 j v (by simpa using hv)
        refine ⟨by rw [Array.length_toList, hi.1, hlv]; exact hz, fun h2 h₁ a _ => strs_sortable hI h2, fun out h2 a ep hs hb keep2 ha he => ?_⟩
        exact sort_end (tk := tk) (I.kept (t' := tk) keep) R k (strs_out hI hs hb) keep2 ha he
      · exact k.elim
    · exact k.elim
  · exact k.elim
end
end P3

/-! P3H: the law is called: from a pure equation to the row. -/
namespace P3
open PySem PySem.Spec PyProof.Rows L2

/-- where the script lies -/
def scrH (a : Addr) (o : Obj) (ns : List Int) : Hp := fun b => if b = a then some (.frz o (.lst (ns.map V.int))) else none
theorem scrH_at {a : Addr} {o : Obj} {ns : List Int} : scrH a o ns a = some (.frz o (.lst (ns.map V.int))) := if_pos rfl
theorem scrH_ne {a b : Addr} {o : Obj} {ns : List Int} (h : b ≠ a) : scrH a o ns b = none := if_neg h
/-- the law's def is entered with an abstract heap that holds the script alone -/
theorem enter {P : Program} {w : World} {K : PySem.W.Frag} {mg mb : MG} {k : Nat} {fa a : Addr} {fd : FuncData} {x : Str} {f : Fn} {s₁ : Shared} {H : Hp} {ns : List Int} {o : Obj}
    (KX : K.In s₁.heap) (hns : s₁.heap.Ns mainGlobals mg) (hb : s₁.heap.Ns builtinsNs mb) (hbb : ∀ x : Str, x ≠ "__name__" → mb x = bootBuiltins x) (lim : s₁.heap.NoLimit) (gens : s₁.gens = #[])
    (hr : Room k callerA) (F : ∀ base : Heap, K.In base → base.Ns mainGlobals mg → Fk P w K mg base k fa fd [x] f) (bind : ∀ (s : Shared) (u : Value), BindsTo s fd ⟨[u], []⟩ [(x, u)])
    (hf : ∃ st, f [.scr ns] [] = .ok (.bl true) st)
    (ho : s₁.heap.get? a = some o) (seq : ∃ vs n, o.data = .seq vs n) (hS : SqL K H a (ns.map V.int)) (ok : HOk P w H s₁.heap) (alone : ∀ b u, H b = some u → b = a ∧ u = .frz o (.lst (ns.map V.int))) (hK : H a ≠ none → K.lookup a = none) :
    codeAny (model P w) callerA (.call (.ref fa) ⟨[.ref a], []⟩) (fun r s' => r = .ok (.ret (.bool true)) ∧ OldK s₁.heap s'.heap ∧ s'.os = s₁.os ∧ AllBare s'.gens) s₁ := by
  obtain ⟨sv, sn, sd⟩ := seq
  have free : ∀ {b : Addr} {ob : Obj} {es : Array DictEntry} {ep : Nat}, s₁.heap.get? b = some ob → ob.data = .dict es ep → H b = none := fun {b ob es ep} e d => by
    cases q : H b with
    | none => rfl
    | some u =>
      obtain ⟨rfl, _⟩ := alone b u q
      rw [ho] at e
      cases e
      rw [sd] at d
      cases d
  have ns' : ∀ {b : Addr} {m : MG}, s₁.heap.Ns b m → (hidT s₁.heap H).Ns b m := fun {b m} z => by
    obtain ⟨ob, es, ep, e, d, r⟩ := z
    exact ⟨ob, es, ep, hidT_get e (free e d), d, r⟩
  have KB : K.In (hidT s₁.heap H) := fun b ob e => hidT_get (KX b ob e) (by
    cases q : H b with
    | none => rfl
    | some u =>
      obtain ⟨rfl, _⟩ := alone b u q
      rw [hK (by rw [q]; exact fun z => by cases z)] at e
      cases e)
  obtain ⟨mc, l1, l2⟩ := lim
  have M : Mod K mg (hidT s₁.heap H) := { kin := KB, glob := ns' hns, blt := ⟨mb, ns' hb, hbb⟩, nolimit := ⟨mc, ns' l1, l2⟩ }
  have e0 : Env0 P w K mg (hidT s₁.heap H) callerA [] s₁ H := { frames := rfl, mod := M, bs := fun b ob e => of_hidT e, bsz := Nat.le_of_eq (hidT_size _ _), funs := trivial, frf := fun b z => absurd (show b ∈ ([] : List Addr) from z) (by simp), hok := ok, bare := .of_eq gens }
  obtain ⟨st, ef⟩ := hf
  have R : Rl K ⟨H, [], fun _ => none⟩ [] H [] [] := ⟨fun _ _ q => q, List.nodup_nil, rfl, fun i b c q => by simp at q, fun i d q => by simp at q, Nat.le_refl _⟩
  have sp : spOf K mg 1 f [.ref a] H (fun v _ => v = .bl true) (fun _ _ _ => False) := ⟨rfl, ⟨H, [], fun _ => none⟩, [], [.scr ns], R, .cons (.scr hS) .nil, by
    rw [ef]
    exact fun g' H' v _ _ r => by
      cases r
      rfl⟩
  refine codeAny_mono ((F _ KB (ns' hns)).run callerA [] s₁ H ⟨[.ref a], []⟩ [.ref a] [.ref a] _ _ hr rfl e0 (bind s₁ (.ref a)) (.cons rfl .nil) sp) fun r s' h => ?_
  cases r with
  | error e =>
    obtain ⟨_, _, _, _, _, _, _, _, _, _, _, _, z⟩ := (show L2.CX P w [] H s₁ (fun _ _ _ => False) e s' from h)
    exact z.elim
  | ok fl =>
    cases fl with
    | next => exact False.elim h
    | brk => exact False.elim h
    | cont => exact False.elim h
    | ret u =>
      obtain ⟨v, H', os, bare, un, ok', rv, ev⟩ := (show CE [] P w H s₁ (fun v _ => v = .bl true) u s' from h)
      subst ev
      have eu : u = Value.bool true := rv
      subst eu
      refine ⟨rfl, .of_keep fun b ob e => ?_, os, bare⟩
      cases q : H b with
      | none => exact un.keep b ob e q (fun z => absurd (show b ∈ ([] : List Addr) from z) (by simp)) (by simp)
      | some u =>
        obtain ⟨rfl, rfl⟩ := alone b u q
        obtain ⟨e2, _⟩ := ok' b _ (un.frzs b o _ q)
        rw [ho] at e
        cases e
        exact e2
/-- the row's goal, from the def's meaning -/
theorem walk3 {l : PySem.W.OpenLaw} {n k : Nat} {q : Program} {loose : List Str} {XP : MG → Heap → Prop} {YP : World → Heap → Prop} {d : DefRec} {K : Params → PySem.W.Frag} {x : Str}
    (hn : l.most = some n) (hn2 : n ≤ sizeLine) (hdf : d.params.defaults = []) (hr : Room k callerA) (hY : ∀ (w : World) (h : Heap), YP w h → (K w.params).In h)
    (F : ∀ (w : World) (mg : MG) (fa : Addr) (h : Heap), (K w.params).In h → h.Ns mainGlobals mg → mg d.name = some (.ref fa) →
      ∃ (fd : FuncData) (f : Fn), (∀ (s : Shared) (u : Value), BindsTo s fd ⟨[u], []⟩ [(x, u)]) ∧ (∀ ns : List Int, ns.length ≤ n → ∃ st, f [.scr ns] [] = .ok (.bl true) st) ∧
        ∀ base : Heap, (K w.params).In base → base.Ns mainGlobals mg → Fk l.prog w (K w.params) mg base k fa fd [x] f) :
    PySem.W.WalkO q loose XP YP l.row.toRowW d [] (fun f vs => PySem.call f vs) := by
  refine Att.attach_call hn hdf fun w s₀ s₁ mg mb fa o pm cd doc a vs ns Gd Y ho hd hcd hmg hobj hnt hlen gens => ?_
  have KX := hY w _ Y
  obtain ⟨fd, f, hb, hf, hF⟩ := F w mg fa _ KX Gd.T.g hmg
  have rv := vals_ints hnt
  have lv := hnt.length
  have hz : ns.length ≤ sizeLine := Nat.le_trans hlen hn2
  cases hk : (K w.params).lookup a with
  | some ob =>
    have e := KX a ob hk
    rw [hobj] at e
    cases e
    exact enter (H := fun _ => none) KX Gd.T.g Gd.T.b Gd.T.builtins Gd.T.nolimit gens hr hF hb (hf ns hlen) hobj ⟨_, _, rfl⟩
      (.inr ⟨_, vs.toArray, _, hk, rfl, rfl, rfl, by rw [List.size_toArray, lv]; exact hz, by simpa using rv⟩) (fun b u z => by cases z) (fun b u z => by cases z) fun z => absurd rfl z
  | none =>
    refine enter (H := scrH a { cls := .type "list", data := .seq vs.toArray } ns) KX Gd.T.g Gd.T.b Gd.T.builtins Gd.T.nolimit gens hr hF hb (hf ns hlen) hobj ⟨_, _, rfl⟩ (.inl (.inr ⟨_, scrH_at⟩)) (fun b u z => ?_) (fun b u z => ?_) fun _ => hk
    · by_cases hba : b = a
      · subst hba
        rw [scrH_at] at z
        cases z
        exact ⟨hobj, by rw [List.length_map]; exact hz, vs, _, rv, hobj⟩
      · rw [scrH_ne hba] at z
        cases z
    · by_cases hba : b = a
      · subst hba
        rw [scrH_at] at z
        cases z
        exact ⟨rfl, rfl⟩
      · rw [scrH_ne hba] at z
        cases z
end P3

/-! P3R: repr of data. -/
namespace P3
open PySem PySem.Spec PyProof.Rows L2

/-! ### what stands in a heap, shown -/
mutual
inductive Shw (h : Heap) : Value → Str → Nat → Prop
  | non : Shw h .none "None" 0
  | bl (b : Bool) : Shw h (.bool b) (if b then "True" else "False") 0
  | int {i : Int} (t : Tok) : i.natAbs.log2 < 1920 → Shw h (.int i t) (toString i) 0
  | str (x : Str) (t : Tok) : (reprText x).length ≤ sizeLine → Shw h (.str x t) (reprText x) 0
  | lst {a : Addr} {o : Obj} {its : List Value} {n m : Nat} {ts : List Str} : h.get? a = some o → o.cls = .type "list" → o.data = .seq its.toArray n → ShwL h its ts m → (listText ts).length ≤ sizeLine → Shw h (.ref a) (listText ts) (m + 1)
  | tup {a : Addr} {o : Obj} {its : List Value} {n m : Nat} {ts : List Str} : h.get? a = some o → o.cls = .type "tuple" → o.data = .seq its.toArray n → ShwL h its ts m → (tupleText ts).length ≤ sizeLine → Shw h (.ref a) (tupleText ts) (m + 1)
  | dic {a : Addr} {o : Obj} {es : Array DictEntry} {n m1 m2 : Nat} {k1 k2 : List Value} {ks vs : List Str} : h.get? a = some o → o.cls = .type "dict" → o.data = .dict es n → (a == sysModules) = false → k1 = es.toList.map (·.key) → k2 = es.toList.map (·.val) → ShwL h k1 ks m1 → ShwL h k2 vs m2 →
      (dictText (List.zipWith (fun k v : Str => k ++ ": " ++ v) ks vs)).length ≤ sizeLine → Shw h (.ref a) (dictText (List.zipWith (fun k v : Str => k ++ ": " ++ v) ks vs)) (max m1 m2 + 1)
inductive ShwL (h : Heap) : List Value → List Str → Nat → Prop
  | nil : ShwL h [] [] 0
  | cons {v : Value} {t : Str} {n m : Nat} {vs : List Value} {ts : List Str} : Shw h v t n → ShwL h vs ts m → ShwL h (v :: vs) (t :: ts) (max n m)
end
theorem Shw.inv_lst {h : Heap} {a : Addr} {o : Obj} {its : List Value} {n m : Nat} {t : Str} (h1 : h.get? a = some o) (h2 : o.cls = .type "list") (h3 : o.data = .seq its.toArray n) (s : Shw h (.ref a) t m) : ∃ ts k, ShwL h its ts k ∧ m = k + 1 := by
  cases s with
  | lst k1 k2 k3 k4 _ =>
    rw [h1] at k1
    cases k1
    rw [h3] at k3
    injection k3 with e _
    have e' := congrArg Array.toList e
    simp only at e'
    subst e'
    exact ⟨_, _, k4, rfl⟩
  | tup k1 k2 k3 k4 _ =>
    rw [h1] at k1
    cases k1
    rw [h2] at k2
    exact absurd k2 (by simp)
  | dic k1 k2 k3 =>
    rw [h1] at k1
    cases k1
    rw [h3] at k3
    cases k3
theorem Shw.inv_tup {h : Heap} {a : Addr} {o : Obj} {its : List Value} {n m : Nat} {t : Str} (h1 : h.get? a = some o) (h2 : o.cls = .type "tuple") (h3 : o.data = .seq its.toArray n) (s : Shw h (.ref a) t m) : ∃ ts k, ShwL h its ts k ∧ m = k + 1 := by
  cases s with
  | tup k1 k2 k3 k4 _ =>
    rw [h1] at k1
    cases k1
    rw [h3] at k3
    injection k3 with e _
    have e' := congrArg Array.toList e
    simp only at e'
    subst e'
    exact ⟨_, _, k4, rfl⟩
  | lst k1 k2 k3 k4 _ =>
    rw [h1] at k1
    cases k1
    rw [h2] at k2
    exact absurd k2 (by simp)
  | dic k1 k2 k3 =>
    rw [h1] at k1
    cases k1
    rw [h3] at k3
    cases k3
theorem Shw.inv_dic {h : Heap} {a : Addr} {o : Obj} {es : Array DictEntry} {n m : Nat} {t : Str} (h1 : h.get? a = some o) (h3 : o.data = .dict es n) (s : Shw h (.ref a) t m) :
    ∃ ks vs m1 m2, ShwL h (es.toList.map (·.key)) ks m1 ∧ ShwL h (es.toList.map (·.val)) vs m2 ∧ m = max m1 m2 + 1 := by
  cases s with
  | tup k1 k2 k3 k4 _ =>
    rw [h1] at k1
    cases k1
    rw [h3] at k3
    cases k3
  | lst k1 k2 k3 k4 _ =>
    rw [h1] at k1
    cases k1
    rw [h3] at k3
    cases k3
  | dic k1 k2 k3 k4 k5 k6 k7 k8 _ =>
    rw [h1] at k1
    cases k1
    rw [h3] at k3
    injection k3 with e _
    subst e
    subst k5 k6
    exact ⟨_, _, _, _, k7, k8, rfl⟩
mutual
theorem Shw.same {h : Heap} : ∀ {v : Value} {t : Str} {n : Nat}, Shw h v t n → ∀ {t' : Str} {n' : Nat}, Shw h v t' n' → n = n'
  | _, _, _, .non, _, _, s => by cases s; rfl
  | _, _, _, .bl _, _, _, s => by cases s; rfl
  | _, _, _, .int _ _, _, _, s => by cases s; rfl
  | _, _, _, .str _ _ _, _, _, s => by cases s; rfl
  | _, _, _, .lst h1 h2 h3 h4 _, _, _, s => by
    obtain ⟨_, _, q, rfl⟩ := s.inv_lst h1 h2 h3
    rw [ShwL.same h4 q]
  | _, _, _, .tup h1 h2 h3 h4 _, _, _, s => by
    obtain ⟨_, _, q, rfl⟩ := s.inv_tup h1 h2 h3
    rw [ShwL.same h4 q]
  | _, _, _, .dic h1 h2 h3 h4 h5 h6 h7 h8 _, _, _, s => by
    obtain ⟨_, _, _, _, q1, q2, rfl⟩ := s.inv_dic h1 h3
    rw [ShwL.same h7 (h5 ▸ q1), ShwL.same h8 (h6 ▸ q2)]
theorem ShwL.same {h : Heap} : ∀ {v : List Value} {t : List Str} {n : Nat}, ShwL h v t n → ∀ {t' : List Str} {n' : Nat}, ShwL h v t' n' → n = n'
  | _, _, _, .nil, _, _, s => by cases s; rfl
  | _, _, _, .cons h1 h2, _, _, s => by
    cases s with
    | cons k1 k2 => rw [Shw.same h1 k1, ShwL.same h2 k2]
end
def Less (h : Heap) (n : Nat) (bs : List Addr) : Prop := ∀ b ∈ bs, ∃ t m, m ≤ n ∧ Shw h (.ref b) t m
theorem Less.le {h : Heap} {n m : Nat} {bs : List Addr} (k : Less h n bs) (e : n ≤ m) : Less h m bs := fun b hb => let ⟨t, i, hi, s⟩ := k b hb; ⟨t, i, Nat.le_trans hi e, s⟩
theorem Less.append {h : Heap} {n : Nat} {bs cs : List Addr} (k : Less h n bs) (l : Less h n cs) : Less h n (bs ++ cs) := fun b hb => (List.mem_append.mp hb).elim (k b) (l b)
theorem Less.notIn {h : Heap} {n : Nat} {bs : List Addr} {a : Addr} {t : Str} (k : Less h n bs) (s : Shw h (.ref a) t (n + 1)) : a ∉ bs := fun hb => by
  obtain ⟨t', m, hm, s'⟩ := k a hb
  have := s.same s'
  omega
theorem Less.cons {h : Heap} {n : Nat} {bs : List Addr} {a : Addr} {t : Str} (k : Less h n bs) (s : Shw h (.ref a) t (n + 1)) : Less h (n + 1) (a :: bs) := fun b hb => by
  rcases List.mem_cons.mp hb with rfl | hb
  · exact ⟨t, n + 1, Nat.le_refl _, s⟩
  · exact k.le (Nat.le_succ n) b hb
section
variable {P : Program} {w : World} {h : Heap}
mutual
theorem Shw.reprK : ∀ {v : Value} {t : Str} {n : Nat}, Shw h v t n → ∃ bs, Less h n bs ∧ ReprK P w bs h n v t
  | _, _, _, .non => ⟨[], (fun _ h => nomatch h), .of_is ReprIs.none _ _ _⟩
  | _, _, _, .bl b => ⟨[], (fun _ h => nomatch h), .of_is (ReprIs.bool b) _ _ _⟩
  | _, _, _, .int t hi => ⟨[], (fun _ h => nomatch h), .of_is (ReprIs.int t hi) _ _ _⟩
  | _, _, _, .str x t hz => ⟨[], (fun _ h => nomatch h), .of_is (ReprIs.str x t hz) _ _ _⟩
  | _, _, _, .lst (a := a) (its := its) h1 h2 h3 h4 h5 => by
    obtain ⟨bs, hb, hk⟩ := ShwL.reprK h4
    have r := Shw.lst h1 h2 h3 h4 h5
    refine ⟨a :: bs, hb.cons r, ?_⟩
    cases its with
    | nil =>
      cases h4
      rw [listText_nil]
      exact ReprK.listEmpty h1 h2 h3
    | cons x l => exact ReprK.list h1 h2 h3 (hb.notIn r) (by simpa using hk.length_eq) fun i y e => hk.item i y (by simpa using e)
  | _, _, _, .tup (a := a) h1 h2 h3 h4 h5 => by
    obtain ⟨bs, hb, hk⟩ := ShwL.reprK h4
    have r := Shw.tup h1 h2 h3 h4 h5
    exact ⟨a :: bs, hb.cons r, ReprK.tuple h1 h2 h3 (hb.notIn r) (by simpa using hk)⟩
  | _, _, _, .dic (a := a) (es := es) (m1 := m1) (m2 := m2) h1 h2 h3 h4 h5 h6 h7 h8 h9 => by
    obtain ⟨b1, hb1, k1⟩ := ShwL.reprK h7
    obtain ⟨b2, hb2, k2⟩ := ShwL.reprK h8
    have r := Shw.dic h1 h2 h3 h4 h5 h6 h7 h8 h9
    have hb := (hb1.le (Nat.le_max_left m1 m2)).append (hb2.le (Nat.le_max_right m1 m2))
    subst h5 h6
    exact ⟨a :: (b1 ++ b2), hb.cons r, ReprK.dict h1 h2 h3 h4 (hb.notIn r) (ReprEntriesK.of_two es.toList _ _ (k1.more_le (fun b hb => List.mem_append_left _ hb) (Nat.le_max_left _ _)) (k2.more_le (fun b hb => List.mem_append_right _ hb) (Nat.le_max_right _ _)))⟩
theorem ShwL.reprK : ∀ {v : List Value} {t : List Str} {n : Nat}, ShwL h v t n → ∃ bs, Less h n bs ∧ ReprAllK P w bs h n v t
  | _, _, _, .nil => ⟨[], (fun _ h => nomatch h), .nil⟩
  | _, _, _, .cons (n := n) (m := m) h1 h2 => by
    obtain ⟨b1, hb1, k1⟩ := Shw.reprK h1
    obtain ⟨b2, hb2, k2⟩ := ShwL.reprK h2
    exact ⟨b1 ++ b2, (hb1.le (Nat.le_max_left n m)).append (hb2.le (Nat.le_max_right n m)), .cons ((k1.more fun b hb => List.mem_append_left _ hb).level_le (Nat.le_max_left _ _)) (k2.more_le (fun b hb => List.mem_append_right _ hb) (Nat.le_max_right _ _))⟩
end
/-- repr(v) -/
theorem Shw.call {A : Around} {v : Value} {t : Str} {n : Nat} {E : Value → Shared → Prop} {s : Shared} {Q : Value → Shared → Prop} (r : Shw s.heap v t n) (hg : A.guards = some []) (hu : A.units + (n + 1) < cLine)
    (hQ : ∀ h' u tk, (∀ b o, s.heap.get? b = some o → h'.get? b = some o) → Q (.str t u) { s with heap := h', toks := tk }) : wpAny (model P w) A (call (.builtin "repr") [v]) Q E s := by
  cases r with
  | non => exact PySem.P.repr_of_none (hQ s.heap _ _ fun _ _ e => e)
  | bl b => exact PySem.P.repr_of_bool (hQ s.heap _ _ fun _ _ e => e)
  | int tk hi => exact PySem.P.repr_of_int hi (hQ s.heap _ _ fun _ _ e => e)
  | str x tk hz => exact PySem.P.repr_of_str (hQ s.heap _ _ fun _ _ e => e) hz
  | @lst a o its nn m ts h1 h2 h3 h4 h5 =>
    obtain ⟨bs, hb, hk⟩ := ShwL.reprK (P := P) (w := w) h4
    have r := Shw.lst h1 h2 h3 h4 h5
    refine call_repr_slot (by omega) ⟨o, h1, h2⟩ F.slot_list_repr.toG ?_
    cases its with
    | nil =>
      cases h4
      rw [listText_nil] at hQ
      exact call_list_repr_empty ⟨o, h1, h2⟩ h1 h3 ⟨_, _, rfl, hQ s.heap _ _ fun _ _ e => e⟩
    | cons x l =>
      exact call_list_reprK h1 h2 h3 (hb.notIn r) (by simpa using hk.length_eq) (fun i y e => hk.item i y (by simpa using e)) (A := A.in1) hg (fun b _ => Clear.nil b) (by show A.units + 1 + (m + 1) < cLine; omega) (fun _ _ e => e) (fun h' u tk hk => ⟨_, _, rfl, hQ h' u tk hk⟩) h5
  | @tup a o its nn m ts h1 h2 h3 h4 h5 =>
    obtain ⟨bs, hb, hk⟩ := ShwL.reprK (P := P) (w := w) h4
    have r := Shw.tup h1 h2 h3 h4 h5
    exact call_repr_slot (by omega) ⟨o, h1, h2⟩ F.slot_tuple_repr (call_tuple_reprK h1 h2 h3 (hb.notIn r) (by simpa using hk) (A := A.in1) hg (fun b _ => Clear.nil b) (by show A.units + 1 + (m + 1) < cLine; omega) (fun _ _ e => e) (fun h' u tk hk => ⟨_, _, rfl, hQ h' u tk hk⟩) h5)
  | @dic a o es nn m1 m2 k1 k2 ks vs h1 h2 h3 h4 h5 h6 h7 h8 h9 =>
    obtain ⟨b1, hb1, k1⟩ := ShwL.reprK (P := P) (w := w) h7
    obtain ⟨b2, hb2, k2⟩ := ShwL.reprK (P := P) (w := w) h8
    have r := Shw.dic h1 h2 h3 h4 h5 h6 h7 h8 h9
    have hb := (hb1.le (Nat.le_max_left m1 m2)).append (hb2.le (Nat.le_max_right m1 m2))
    subst h5 h6
    exact call_repr_slot (by omega) ⟨o, h1, h2⟩ F.slot_dict_repr (call_dict_reprK h1 h2 h3 h4 (hb.notIn r) (ReprEntriesK.of_two es.toList _ _ (k1.more_le (fun b hb => List.mem_append_left _ hb) (Nat.le_max_left _ _)) (k2.more_le (fun b hb => List.mem_append_right _ hb) (Nat.le_max_right _ _)))
      (A := A.in1) hg (fun b _ => Clear.nil b) (by show A.units + 1 + (max m1 m2 + 1) < cLine; omega) (fun _ _ e => e) (fun h' u tk hk => ⟨_, _, rfl, hQ h' u tk hk⟩) h9)
end

/-! ### the same, of trees -/
abbrev Sh := Str × Nat
def keyT : Key → Option Str
  | .inl i => if i.natAbs.log2 < 1920 then some (toString i) else none
  | .inr x => if (reprText x).length ≤ sizeLine then some (reprText x) else none
def keysT : List (Key × D) → Option (List Str)
  | [] => some []
  | (k, _) :: l => match keyT k, keysT l with
    | some t, some ts => some (t :: ts)
    | _, _ => none
def lstT (p : List Str × Nat) : Option Sh := if (listText p.1).length ≤ sizeLine then some (listText p.1, p.2 + 1) else none
def tupT (p : List Str × Nat) : Option Sh := if (tupleText p.1).length ≤ sizeLine then some (tupleText p.1, p.2 + 1) else none
def dicT (ks : List Str) (p : List Str × Nat) : Option Sh :=
  if (dictText (List.zipWith (fun k v : Str => k ++ ": " ++ v) ks p.1)).length ≤ sizeLine then some (dictText (List.zipWith (fun k v : Str => k ++ ": " ++ v) ks p.1), p.2 + 1) else none
mutual
def shD (cf : Nat → Option Sh) : D → Option Sh
  | .non => some ("None", 0)
  | .bl b => some (if b then "True" else "False", 0)
  | .int i => if i.natAbs.log2 < 1920 then some (toString i, 0) else none
  | .str x => if (reprText x).length ≤ sizeLine then some (reprText x, 0) else none
  | .lst ds => (shL cf ds).bind lstT
  | .tup ds => (shL cf ds).bind tupT
  | .dic kvs => match keysT kvs, shK cf kvs with
    | some ks, some p => dicT ks p
    | _, _ => none
  | .cell i => cf i
  | .scr _ => none
  | .ty _ => none
  | .code _ => none
  | .ob .. => none
def shL (cf : Nat → Option Sh) : List D → Option (List Str × Nat)
  | [] => some ([], 0)
  | d :: ds => match shD cf d, shL cf ds with
    | some (t, n), some (ts, m) => some (t :: ts, max n m)
    | _, _ => none
def shK (cf : Nat → Option Sh) : List (Key × D) → Option (List Str × Nat)
  | [] => some ([], 0)
  | (_, d) :: ds => match shD cf d, shK cf ds with
    | some (t, n), some (ts, m) => some (t :: ts, max n m)
    | _, _ => none
end
theorem shK_eq (cf : Nat → Option Sh) : ∀ kvs : List (Key × D), shK cf kvs = shL cf (kvs.map (·.2))
  | [] => by simp [shK, shL]
  | (k, d) :: l => by
    show shK cf ((k, d) :: l) = shL cf (d :: l.map (·.2))
    unfold shK shL
    rw [shK_eq cf l]
def shCl (cf : Nat → Option Sh) : Cl → Option Sh
  | .lst ds => (shL cf ds).bind lstT
  | .dic kvs => match keysT kvs, shK cf kvs with
    | some ks, some p => dicT ks p
    | _, _ => none
  | .gone => none
  | .lck _ => none
  | .obj .. => none
def cfN (st : Sto) : Nat → Nat → Option Sh
  | 0, _ => none
  | n + 1, i => match st[i]? with
    | some c => shCl (cfN st n) c
    | none => none
def shown (d : D) (st : Sto) : Option Sh := shD (cfN st (st.length + 1)) d
def fRepr (ds : List D) (st : Sto) : Res D := match ds with
  | [d] => match shown d st with
    | some (t, n) => if n ≤ 150 then .ok (.str t) st else .stuck
    | none => .stuck
  | _ => .stuck
section
variable {X : Cx} {pins : List (Addr × Obj)} {σ σ' : L2.St} {H : Hp} {s : Shared} {g : G} {ρ : Ro} {st : Sto}
theorem keysT_shw {h : Heap} : ∀ {kvs : List (Key × D)} {kx : List (Key × V)} {vs : List (Key × Value)} {es : List DictEntry} {ts : List Str}, kvs.map (·.1) = kx.map (·.1) → KV kx vs → Pairs (mixKind X.prog X.w) es vs → keysT kvs = some ts → ShwL h (es.map (·.key)) ts 0
  | [], [], _, _, _, _, .nil, .nil, e => by simp [keysT] at e; subst e; exact .nil
  | (k, d) :: l, (k', x) :: kx, _ :: _, en :: es, ts, hk, .cons r1 r2, .cons p1 p2 p3, e => by
    have hk' : k = k' ∧ l.map (·.1) = kx.map (·.1) := by simpa using hk
    unfold keysT at e
    cases q1 : keyT k with
    | none => rw [q1] at e; cases e
    | some t =>
      cases q2 : keysT l with
      | none => rw [q1, q2] at e; cases e
      | some tl =>
        rw [q1, q2] at e
        cases e
        have sh : Shw h en.key t 0 := by
          have p1' : keyIs k en.key = true := by
            have e1 : k' = _ := r1.1
            rw [hk'.1, e1]
            exact p1
          rcases keyIs_shape p1' with ⟨i, tk, rfl, e2⟩ | ⟨x, tk, rfl, e2⟩
          · rw [e2]
            have q1 : (if i.natAbs.log2 < 1920 then some (Str.ofString (toString i)) else none) = some t := q1
            split at q1
            · cases q1
              exact .int tk (by assumption)
            · cases q1
          · rw [e2]
            have q1 : (if (reprText x).length ≤ sizeLine then some (reprText x) else none) = some t := q1
            split at q1
            · cases q1
              exact .str _ tk (by assumption)
            · cases q1
        have z := ShwL.cons sh (keysT_shw (h := h) hk'.2 r2 p3 q2)
        exact z
theorem pairs_vals {P : Program} {w : World} : ∀ {kx : List (Key × V)} {vs : List (Key × Value)} {es : List DictEntry}, KV kx vs → Pairs (mixKind P w) es vs → Vals (kx.map (·.2)) (es.map (·.val))
  | [], _, _, .nil, .nil => .nil
  | (k', x) :: kx, _ :: _, en :: es, .cons r1 r2, .cons p1 p2 p3 => .cons (by show RelV x en.val; rw [p2]; exact r1.2) (pairs_vals r2 p3)
/-- a dict that stands, shown -/
theorem dk_shw {a : Addr} {kvs : List (Key × D)} {kx : List (Key × V)} {ks : List Str} {p : List Str × Nat} {t : Sh} (I : Inv X pins σ' H s) (e : L2.Rd H a (.dK kx)) (hk : kvs.map (·.1) = kx.map (·.1)) (q1 : keysT kvs = some ks) (q3 : dicT ks p = some t)
    (hv : ∀ us, Vals (kx.map (·.2)) us → ShwL s.heap us p.1 p.2) : Shw s.heap (.ref a) t.1 t.2 := by
  obtain ⟨hz, hs, vs, kv, o, es, ep, ho, ex, hd, _, pr, _⟩ := dk_rd I.hok e
  unfold dicT at q3
  split at q3
  · cases q3
    have z := Shw.dic ho ex.1 hd hs rfl rfl (keysT_shw (h := s.heap) hk kv pr q1) (hv _ (pairs_vals kv pr)) (by assumption)
    rw [Nat.zero_max] at z
    exact z
  · cases q3
theorem ls_shw {a : Addr} {xs : List V} {p : List Str × Nat} {t : Sh} (I : Inv X pins σ' H s) (e : H a = some (.lst xs)) (q3 : lstT p = some t) (hv : ∀ us, Vals xs us → ShwL s.heap us p.1 p.2) : Shw s.heap (.ref a) t.1 t.2 := by
  obtain ⟨_, its, n, r, ho⟩ := I.hok _ _ e
  unfold lstT at q3
  split at q3
  · cases q3
    exact .lst ho rfl rfl (hv _ r) (by assumption)
  · cases q3
theorem tp_shw {a : Addr} {xs : List V} {p : List Str × Nat} {t : Sh} (I : Inv X pins σ' H s) (e : SqT X.K H a xs) (q3 : tupT p = some t) (hv : ∀ us, Vals xs us → ShwL s.heap us p.1 p.2) : Shw s.heap (.ref a) t.1 t.2 := by
  obtain ⟨its, r, ⟨o, ho, hc, n, hd⟩, _⟩ := I.tuple e
  unfold tupT at q3
  split at q3
  · cases q3
    exact .tup ho hc hd (hv _ r) (by assumption)
  · cases q3
def CfOk (g : G) (s : Shared) (cf : Nat → Option Sh) : Prop := ∀ i a t, cf i = some t → g.ph[i]? = some a → Shw s.heap (.ref a) t.1 t.2
mutual
theorem shD_shw {cf : Nat → Option Sh} (I : Inv X pins σ' H s) (him : ∀ a o, g.im a = some o → H a = some o) (hc : CfOk g s cf) : ∀ {d : D} {v : V} {u : Value} {t : Sh}, Rd X.K g d v → RelV v u → shD cf d = some t → Shw s.heap u t.1 t.2
  | _, _, _, _, .non, rv, e => by
    simp only [shD, Option.some.injEq] at e
    subst e
    obtain rfl := show _ = _ from rv
    exact .non
  | _, _, _, _, .bl b, rv, e => by
    simp only [shD, Option.some.injEq] at e
    subst e
    obtain rfl := show _ = _ from rv
    exact .bl b
  | _, _, _, _, .int i, rv, e => by
    obtain ⟨tk, rfl⟩ := show ∃ _, _ from rv
    unfold shD at e
    split at e
    · cases e
      exact .int tk (by assumption)
    · cases e
  | _, _, _, _, .str x, rv, e => by
    obtain ⟨tk, rfl⟩ := show ∃ _, _ from rv
    unfold shD at e
    split at e
    · cases e
      exact .str x tk (by assumption)
    · cases e
  | .lst ds, _, _, _, .lst h1 h2, rv, e => by
    obtain rfl := show _ = _ from rv
    unfold shD at e
    cases q : shL cf ds with
    | none => rw [q] at e; cases e
    | some p =>
      rw [q] at e
      exact ls_shw I (him _ _ h1) e fun us r => shL_shw I him hc h2 r q
  | .tup ds, _, _, _, .tup h1 h2, rv, e => by
    obtain rfl := show _ = _ from rv
    unfold shD at e
    cases q : shL cf ds with
    | none => rw [q] at e; cases e
    | some p =>
      rw [q] at e
      exact tp_shw I (stu_sq him h1) e fun us r => shL_shw I him hc h2 r q
  | .dic kvs, _, _, _, .dic h1 h2 h3 h4 h5, rv, e => by
    obtain rfl := show _ = _ from rv
    have e : (match keysT kvs, shK cf kvs with
      | some ks, some p => dicT ks p
      | _, _ => none) = some _ := e
    rw [shK_eq, h3] at e
    cases q1 : keysT kvs with
    | none => rw [q1] at e; cases e
    | some ks =>
      cases q2 : shL cf _ with
      | none => rw [q1, q2] at e; cases e
      | some p =>
        rw [q1, q2] at e
        exact dk_shw I (rdIm him h1) h2 q1 e fun us r => shL_shw I him hc h5 (by rw [← h4]; exact r) q2
  | .cell _, _, _, _, .cell h1, rv, e => by
    obtain rfl := show _ = _ from rv
    unfold shD at e
    exact hc _ _ _ e h1
  | .scr _, _, _, _, .scr _, rv, e => by simp [shD] at e
  | .ty _, _, _, _, .ty _, rv, e => by simp [shD] at e
  | .code _, _, _, _, .code _, rv, e => by simp [shD] at e
  | .ob .., _, _, _, .ob _ _ _ _ _, rv, e => by simp [shD] at e
theorem shL_shw {cf : Nat → Option Sh} (I : Inv X pins σ' H s) (him : ∀ a o, g.im a = some o → H a = some o) (hc : CfOk g s cf) : ∀ {d : List D} {v : List V} {u : List Value} {t : List Str × Nat}, RdL X.K g d v → Vals v u → shL cf d = some t → ShwL s.heap u t.1 t.2
  | _, _, _, _, .nil, .nil, e => by
    simp only [shL, Option.some.injEq] at e
    subst e
    exact .nil
  | d :: ds, _, _, _, .cons h1 h2, .cons r1 r2, e => by
    unfold shL at e
    cases q1 : shD cf d with
    | none => rw [q1] at e; cases e
    | some x =>
      cases q2 : shL cf ds with
      | none => rw [q1, q2] at e; cases e
      | some xs =>
        rw [q1, q2] at e
        cases e
        exact .cons (shD_shw I him hc h1 r1 q1) (shL_shw I him hc h2 r2 q2)
end
theorem cfN_ok (I : Inv X pins σ' H s) (R : Rl X.K g σ H ρ st) : ∀ n, CfOk g s (cfN st n)
  | 0 => fun i a t e => by cases e
  | n + 1 => fun i a t e h1 => by
    unfold cfN at e
    cases q : st[i]? with
    | none => rw [q] at e; cases e
    | some c =>
      rw [q] at e
      have cl := R.cell i a c h1 q
      cases c with
      | lst ds =>
        obtain ⟨_, xs, ex, r⟩ := cl
        have e : (shL (cfN st n) ds).bind lstT = some t := e
        cases q2 : shL (cfN st n) ds with
        | none => rw [q2] at e; cases e
        | some p =>
          rw [q2] at e
          exact ls_shw I ex e fun us rr => shL_shw I R.im (cfN_ok I R n) r rr q2
      | dic kvs =>
        obtain ⟨_, kx, ex, hk, r⟩ := cl
        have e : (match keysT kvs, shK (cfN st n) kvs with
          | some ks, some p => dicT ks p
          | _, _ => none) = some t := e
        rw [shK_eq] at e
        cases q1 : keysT kvs with
        | none => rw [q1] at e; cases e
        | some ks =>
          cases q2 : shL (cfN st n) (kvs.map (·.2)) with
          | none => rw [q1, q2] at e; cases e
          | some p =>
            rw [q1, q2] at e
            exact dk_shw I (.inl ex) hk q1 e fun us rr => shL_shw I R.im (cfN_ok I R n) r rr q2
      | gone => cases e
      | lck => exact absurd e (fun z => by cases z)
      | obj => cases e
theorem cd_repr {W : WX} (hg : X.A.guards = some []) (hu : X.A.units + 200 < cLine) : CalD X W (.builtin "repr") fRepr := by
  intro pins s σ' H xs us Q I rs h
  obtain ⟨g, σ, ρ, st, ds, R, r, k⟩ := h
  unfold fRepr at k
  split at k
  · rename_i d
    obtain ⟨x, rfl, r1⟩ := r.one
    cases rs with
    | cons rv rn =>
      cases rn
      cases q : shown d st with
      | none => rw [q] at k; exact k.elim
      | some t =>
        obtain ⟨t, n⟩ := t
        rw [q] at k
        have k : FinG X.K X.mg W (pD X.K) g σ ρ (if n ≤ 150 then .ok (.str t) st else .stuck) Q := k
        by_cases hn : n ≤ 150
        · rw [if_pos hn] at k
          have sh := shD_shw I R.im (cfN_ok I R _) r1 rv q
          refine sh.call hg (by show X.A.units + (n + 1) < cLine; omega) fun h' u tk hk => ⟨.str t, H, I.kept hk, ⟨u, rfl⟩, FinG.now k R (.str _)⟩
        · rw [if_neg hn] at k
          exact k.elim
  · exact k.elim
end
end P3

/-! P3S: a, b, *c = a tuple, a list, a text. -/
namespace P3
open PySem PySem.Spec PyProof.Rows L2
section
variable {prog : Program} {w : World} {A : Around} {E : Value → Shared → Prop} {I : Addr} {fp wr : List Addr} {n : Nat} {P : Nat → Value → Prop} {St : Nat → Heap → Prop}
theorem draw_walks (W : Walks prog w A I fp wr n P St) : ∀ (k i : Nat) (s : Shared) (Q : List Value → Shared → Prop), St i s.heap → i + k ≤ n →
    (∀ h' tk vs, St (i + k) h' → (∀ b o, b ∉ wr → s.heap.get? b = some o → h'.get? b = some o) → vs.length = k → (∀ j v, vs[j]? = some v → P (i + j) v) → Q vs { s with heap := h', toks := tk }) → wpAny (model prog w) A (draw (.ref I) k) Q E s
  | 0, i, s, Q, st, _, hQ => by
    show wpAny _ _ (pure []) Q E s
    exact wpAny_pure (hQ s.heap s.toks [] st (fun _ _ _ e => e) rfl fun j v h => by simp at h)
  | k + 1, i, s, Q, st, hle, hQ => by
    show wpAny _ _ (pyNext (.ref I) >>= _) Q E s
    refine wpAny_bind (W.item i s _ _ (by omega) st fun v h1 t1 hp st1 k1 => ?_)
    refine wpAny_bind (wpAny_holding (draw_walks W k (i + 1) _ _ st1 (by omega) fun h2 t2 vs st2 k2 hl hv => wpAny_pure ?_))
    refine hQ h2 t2 (v :: vs) (by rw [show i + (k + 1) = i + 1 + k by omega]; exact st2) (fun b o hb e => k2 b o hb (k1 b o hb e)) (by rw [List.length_cons, hl]) fun j u hj => ?_
    cases j with
    | zero =>
      have e : v = u := by simpa using hj
      rw [← e]
      exact hp
    | succ j =>
      have := hv j u (by simpa using hj)
      rw [show i + (j + 1) = i + 1 + j by omega]
      exact this
theorem shift (W : Walks prog w A I fp wr n P St) (i : Nat) (hi : i ≤ n) : Walks prog w A I fp wr (n - i) (fun j => P (i + j)) (fun j => St (i + j)) where
  sub := W.sub
  frame := fun j h h' st k => W.frame (i + j) h h' st k
  item := fun j s Q E hj st hQ => W.item (i + j) s Q E (by omega) st fun v h' tk hp st' k => hQ v h' tk hp (by rw [show i + (j + 1) = i + j + 1 by omega]; exact st') k
  done := fun s Q E st hQ => W.done s Q E (by rw [show i + (n - i) = n by omega] at st; exact st) hQ
  self := fun j s Q E st hQ => W.self (i + j) s Q E st hQ
theorem list_split {α : Type} {l l1 l2 : List α} {i : Nat} (h1 : l1.length = i) (h2 : l2.length = l.length - i) (hi : i ≤ l.length) (e1 : ∀ (j : Nat) (v : α), l1[j]? = some v → l[j]? = some v) (e2 : ∀ (j : Nat) (v : α), l2[j]? = some v → l[i + j]? = some v) : l1 = l.take i ∧ l2 = l.drop i := by
  constructor
  · apply List.ext_getElem?
    intro j
    by_cases hj : j < i
    · rw [List.getElem?_take_of_lt hj]
      have : j < l1.length := by omega
      rw [List.getElem?_eq_getElem this]
      exact (e1 j _ (List.getElem?_eq_getElem this)).symm
    · rw [List.getElem?_eq_none (by omega), List.getElem?_eq_none (by rw [List.length_take]; omega)]
  · apply List.ext_getElem?
    intro j
    rw [List.getElem?_drop]
    by_cases hj : j < l2.length
    · rw [List.getElem?_eq_getElem hj]
      exact (e2 j _ (List.getElem?_eq_getElem hj)).symm
    · rw [List.getElem?_eq_none (by omega), List.getElem?_eq_none (by omega)]
/-- what is unpacked with a star last: i items, a list of the others -/
theorem unpack_star {v : Value} {s : Shared} {i : Nat} {Q : List Value → Shared → Prop} {T : String} (hh : A.handled = none)
    (hTm : T = "str_ascii_iterator" ∨ T = "str_iterator" ∨ T = "list_iterator" ∨ T = "tuple_iterator")
    (hn0 : ∀ Q, Q false s → wpAny (model prog w) A (notIterableAtAll v) Q E s)
    (hit : ∀ Q, (∀ o St fp, (∀ A' : Around, A'.handled = none → Walks prog w A' s.heap.objs.size fp [s.heap.objs.size] n P St) → St 0 (s.heap.push o) → (∀ j h, St j h → ∃ o, h.get? s.heap.objs.size = some o ∧ o.cls = .type T) → (∀ b ∈ fp, b < (s.heap.push o).objs.size) → s.heap.objs.size ∈ fp →
      Q (.ref s.heap.objs.size) { s with heap := s.heap.push o }) → wpAny (model prog w) A (pyIter v) Q E s)
    (hi : i ≤ n) (hz : n ≤ sizeLine)
    (hQ : ∀ (h' : Heap) (tk : Nat) (vs us : List Value), (∀ b o, s.heap.get? b = some o → h'.get? b = some o) → vs.length = i → us.length = n - i → (∀ j v, vs[j]? = some v → P j v) → (∀ j v, us[j]? = some v → P (i + j) v) →
      Q (vs ++ [.ref h'.objs.size]) { s with heap := h'.push { cls := .type "list", data := .seq us.toArray }, toks := tk }) : wpAny (model prog w) A (unpackItems v (i + 1) (some i)) Q E s := by
  unfold unpackItems
  refine wpAny_bind (hn0 _ ?_)
  simp only [Bool.false_eq_true, if_false]
  refine wpAny_bind (wpAny_holding (hit _ fun o St fp W st hT hfp hI => ?_))
  refine wpAny_bind (wpAny_holding (draw_walks (W A hh) i 0 _ _ st (by omega) fun h1 t1 vs st1 k1 hl hv => ?_))
  rw [if_neg (by omega)]
  have keep1 : ∀ b o, s.heap.get? b = some o → h1.get? b = some o := fun b o' e => k1 b o' (by simp; exact Nat.ne_of_lt (Heap.lt_size e)) (Heap.get?_push_of_some _ e)
  have big : ∀ b ∈ fp, b < h1.objs.size := fun b hb => by
    obtain ⟨o1, e1, _⟩ := hT _ _ st1
    have hs := Heap.lt_size e1
    have hb' := hfp b hb
    rw [Heap.push] at hb'
    simp at hb'
    exact Nat.lt_of_lt_of_le hb' hs
  have st1' : St (i + 0) h1 := by rw [Nat.add_zero]; rw [Nat.zero_add] at st1; exact st1
  refine wpAny_bind (wpAny_holding (wpAny_collect_iter (T := T) hTm (shift (W A.in1 hh) i hi).toS (fun j s' st => hT _ _ st) (by exact st1') big hI (fun s' acc mv items => ?_) (by omega)))
  obtain ⟨ia, ib⟩ := items
  have hlen : acc.toList.length = n - i := by simpa using ia
  rw [if_neg (by rw [hlen]; omega)]
  refine wpAny_bind (wpAny_newList ?_ (by rw [List.length_take]; omega))
  obtain ⟨h2, g2, d2, t2, o2⟩ := s'
  obtain ⟨m1, m2, m3, m4, m5⟩ := mv
  simp only at m1 m2 m3 m4
  subst m2 m3 m4
  have e3 : i + 1 - 1 - i = 0 := by omega
  have z := hQ h2 t2 vs acc.toList (fun b o e => m1 b o (by simp; exact Nat.ne_of_lt (Heap.lt_size e)) (keep1 b o e)) hl hlen (fun j v h => by have := hv j v h; rwa [Nat.zero_add] at this) (fun j v h => ib j v (by simpa using h))
  refine wpAny_pure ?_
  simp only [e3, Nat.sub_zero, List.take_length, List.drop_length, List.append_nil]
  exact z
end

/-! ### the targets -/
def unstar : Expr → Expr
  | .Starred e _ => e
  | e => e
def isStar : Expr → Bool
  | .Starred .. => true
  | _ => false
theorem each_unstar {env : Env} : ∀ (es : List Expr), (∀ e ∈ es, isStar (unstar e) = false) → (assignEach es env).map (·.2) = (assignEach (es.map unstar) env).map (·.2)
  | [], _ => rfl
  | e :: es, h => by
    have ih := each_unstar (env := env) es fun e he => h e (List.mem_cons_of_mem _ he)
    have h0 := h e List.mem_cons_self
    cases e <;> try (show _ :: (assignEach es env).map (·.2) = _ :: (assignEach (es.map unstar) env).map (·.2); rw [ih]; rfl)
    rename_i t p
    have h0 : isStar t = false := h0
    show assign t env :: (assignEach es env).map (·.2) = (assignEach (t :: es.map unstar) env).map (·.2)
    rw [ih]
    cases t <;> first | rfl | cases h0
theorem each_len {env : Env} : ∀ (es : List Expr), (assignEach es env).length = es.length
  | [] => rfl
  | e :: es => by cases e <;> (show (assignEach es env).length + 1 = es.length + 1; rw [each_len es])
theorem each_star {env : Env} : ∀ (es : List Expr) (e : Expr), isStar e = true → (∀ x ∈ es, isStar x = false) → (assignEach (es ++ [e]) env).findIdx? (·.1) = some es.length
  | [], e, h, _ => by
    cases e with
    | Starred => rfl
    | _ => cases h
  | x :: es, e, h, k => by
    have ih := each_star (env := env) es e h fun y hy => k y (List.mem_cons_of_mem _ hy)
    have k0 := k x List.mem_cons_self
    cases x with
    | Starred => cases k0
    | _ =>
      show (((false, _) :: assignEach (es ++ [e]) env).findIdx? (·.1)) = some (es.length + 1)
      rw [List.findIdx?_cons, ih]
      rfl
def signs (z : Str) : List D := z.cps.toList.map fun c => D.str ⟨#[c]⟩
section
variable {X : Cx} {W : WX} {es : List Expr} {e v : Expr} {m : ME} {pos p1 : Pos} {k : Nat} {is : List Nat}
/-- the store of what was unpacked -/
theorem star_store {g : G} {σ : L2.St} {H : Hp} {ρ : Ro} {st : Sto} {s : Shared} {pins : List (Addr × Obj)} {D : Ends} {c : Bool} {l : List P3.D} {xs us : List Value} {ws : List V} {i : Nat}
    (hg : PGs X (es.map unstar ++ [unstar e]) (gNs is)) (hes : (assignEach (es ++ [e]) X.env).map (·.2) = (assignEach (es.map unstar ++ [unstar e]) X.env).map (·.2)) (his : is.length = i + 1)
    (R : Rl X.K g σ H ρ st) (hl : i ≤ l.length) (rd : RdL X.K g l ws) (rv : Vals (ws.take i) xs) (rv2 : Vals (ws.drop i) us)
    (kk : FinS X.K X.mg W g ((mk c (l.drop i) st).toS ρ fun o st => .nx (setAll ρ is (l.take i ++ [o])) st) D) {h' : Heap} {tk : Nat} (I : Inv X pins σ H s) (hk : ∀ b o, s.heap.get? b = some o → h'.get? b = some o) :
    wpAny (model X.prog X.w) X.A (assignInOrder ((assignEach (es ++ [e]) X.env).map (·.2)) (xs ++ [.ref h'.objs.size])) (fun _ s' => ∃ σ' H', Inv X pins σ' H' s' ∧ D.nx σ' H') X.xe { s with heap := h'.push { cls := .type "list", data := .seq us.toArray }, toks := tk } := by
  have hp : H h'.objs.size = none := (I.hok.kept hk).fresh (Nat.le_refl _)
  have rl : RdL X.K g (l.drop i) (ws.drop i) := rd.drop i
  have km : FinG X.K X.mg W (pD X.K) g σ ρ (mk c (l.drop i) st) (fun b H1 => ∃ g1 st1 o, Ext g g1 ∧ Rl X.K g1 σ H1 ρ st1 ∧ Rd X.K g1 o b ∧ FinS X.K X.mg W g1 (.nx (setAll ρ is (l.take i ++ [o])) st1) D) := FinS.toS kk
  obtain ⟨hz, hn⟩ := new_mk R rl km
  obtain ⟨g1, st1, o, e1, R1, r1, k1⟩ := hn h'.objs.size hp
  have I1 : Inv X pins σ (upd H h'.objs.size (.lst (ws.drop i))) { s with heap := h'.push { cls := .type "list", data := .seq us.toArray }, toks := tk } :=
    I.laidN (fun b u q => Heap.get?_push_of_some _ (hk b u q)) (by
      cases q : s.heap.get? h'.objs.size with
      | none => rfl
      | some u => exact absurd (Heap.lt_size (hk _ _ q)) (Nat.lt_irrefl _)) hp ⟨hz, us, 0, rv2, Heap.get?_push_size _ rfl⟩
  rw [hes]
  refine wpAny_mono (hg.run pins _ σ _ (ws.take i ++ [.ref h'.objs.size]) (xs ++ [.ref h'.objs.size]) (fun σ' H' => D.nx σ' H') I1 (rv.append (.cons (show RelV (.ref _) (.ref _) from rfl) .nil)) (gns_run ?_ ?_)) (fun _ s' q => q) fun _ _ q => q
  · rw [his, List.length_append, List.length_take, ← rd.length]
    show min i l.length + 1 = i + 1
    omega
  · exact k1 g1 _ _ (Ext.refl g1) (rl_setAll R1 ((rd.take i).mono e1 |>.append (.cons r1 .nil)))

def starL (d : P3.D) (st : Sto) : Option (List P3.D) := match view d st with
    | .tup l => some l
    | .lst l => some l
    | .str z => if z.length ≤ 100000 then some (signs z) else none
    | _ => none
def starS (c : Bool) (is : List Nat) (d : P3.D) (ρ : Ro) (st : Sto) : RS := match starL d st with
  | none => .stuck
  | some l => if is.length - 1 ≤ l.length then (mk c (l.drop (is.length - 1)) st).toS ρ fun o st => .nx (setAll ρ is (l.take (is.length - 1) ++ [o])) st else .stuck
def gStar (X : Cx) (W : WX) (c : Bool) (is : List Nat) : TG := fun v σ H Q => ∃ g ρ st d, ∃ D : Ends, Rl X.K g σ H ρ st ∧ Rd X.K g d v ∧ FinS X.K X.mg W g (starS c is d ρ st) D ∧ ∀ σ' H', D.nx σ' H' → Q σ' H'
theorem vals_str (z : Str) : ∀ us : List Value, us.length = z.cps.size → (∀ (j : Nat) (v : Value), us[j]? = some v → ∃ c t, z.cps[j]? = some c ∧ v = Value.str ⟨#[c]⟩ t) → Vals (z.cps.toList.map fun c => V.str ⟨#[c]⟩) us := fun us hl h => by
  have all : ∀ (l : List Nat) (us : List Value), us.length = l.length → (∀ (j : Nat) (v : Value), us[j]? = some v → ∃ c t, l[j]? = some c ∧ v = Value.str ⟨#[c]⟩ t) → Vals (l.map fun c => V.str ⟨#[c]⟩) us := by
    intro l
    induction l with
    | nil =>
      intro us hl h
      cases us with
      | nil => exact .nil
      | cons => cases hl
    | cons a l ih =>
      intro us hl h
      cases us with
      | nil => cases hl
      | cons u us =>
        obtain ⟨c, t, e1, e2⟩ := h 0 u rfl
        have e1' : a = c := by simpa using e1
        refine .cons ⟨t, by rw [e2, ← e1']⟩ (ih us (by simpa using hl) fun j v hj => ?_)
        obtain ⟨c, t, e1, e2⟩ := h (j + 1) v (by simpa using hj)
        exact ⟨c, t, by simpa using e1, e2⟩
  exact all _ us (by simpa using hl) fun j v hj => by
    obtain ⟨c, t, e1, e2⟩ := h j v hj
    exact ⟨c, t, by simpa using e1, e2⟩
theorem rd_signs {K : PySem.W.Frag} {g : G} (z : Str) : RdL K g (signs z) (z.cps.toList.map fun c => V.str ⟨#[c]⟩) := by
  unfold signs
  induction z.cps.toList with
  | nil => exact .nil
  | cons a l ih => exact .cons (.str _) ih
theorem pg_star {elts : List Expr} (c : Bool) (hc : X.calm = true) (hel : elts = es ++ [e]) (hst : isStar e = true) (hnst : ∀ x ∈ es, isStar x = false) (hun : isStar (unstar e) = false) (his : is.length = es.length + 1) (hg : PGs X (es ++ [unstar e]) (gNs is)) : PG X (.Tuple elts k p1) (gStar X W c is) := by
  subst hel
  refine ⟨fun pins s σ H x v Q I rv h => ?_⟩
  obtain ⟨g, ρ, st, d, D, R, rd, kk, hD⟩ := h
  have hid : es.map unstar = es := by
    have : ∀ l : List Expr, (∀ x ∈ l, isStar x = false) → l.map unstar = l := by
      intro l
      induction l with
      | nil => intro _; rfl
      | cons a l ih =>
        intro h
        have h0 := h a List.mem_cons_self
        have ea : unstar a = a := by cases a <;> first | rfl | cases h0
        rw [List.map_cons, ea, ih fun x hx => h x (List.mem_cons_of_mem _ hx)]
    exact this es hnst
  have hg' : PGs X (es.map unstar ++ [unstar e]) (gNs is) := by rw [hid]; exact hg
  have hes : (assignEach (es ++ [e]) X.env).map (·.2) = (assignEach (es.map unstar ++ [unstar e]) X.env).map (·.2) := by
    have z := each_unstar (env := X.env) (es ++ [e]) fun y hy => by
      rcases List.mem_append.mp hy with q | q
      · have h0 := hnst y q
        have ea : unstar y = y := by cases y <;> first | rfl | cases h0
        rw [ea]
        exact h0
      · rw [List.mem_singleton.mp q]
        exact hun
    rw [z, List.map_append]
    rfl
  have hst2 := each_star (env := X.env) es e hst hnst
  have hlen : (assignEach (es ++ [e]) X.env).length = es.length + 1 := by rw [each_len, List.length_append]; rfl
  have hh := I.ok.hd hc
  have go : ∀ {n : Nat} {P : Nat → Value → Prop} {T : String} {l : List P3.D} {ws : List V}, starL d st = some l → RdL X.K g l ws → n = l.length →
      (∀ us : List Value, us.length = n → (∀ j u, us[j]? = some u → P j u) → Vals ws us) → n ≤ sizeLine →
      (T = "str_ascii_iterator" ∨ T = "str_iterator" ∨ T = "list_iterator" ∨ T = "tuple_iterator") →
      (∀ Q, Q false s → wpAny (model X.prog X.w) X.A (notIterableAtAll v) Q X.xe s) →
      (∀ Q, (∀ o St fp, (∀ A' : Around, A'.handled = none → Walks X.prog X.w A' s.heap.objs.size fp [s.heap.objs.size] n P St) → St 0 (s.heap.push o) → (∀ j h, St j h → ∃ o, h.get? s.heap.objs.size = some o ∧ o.cls = .type T) → (∀ b ∈ fp, b < (s.heap.push o).objs.size) → s.heap.objs.size ∈ fp →
        Q (.ref s.heap.objs.size) { s with heap := s.heap.push o }) → wpAny (model X.prog X.w) X.A (pyIter v) Q X.xe s) →
      wpAny (model X.prog X.w) X.A (assign (.Tuple (es ++ [e]) k p1) X.env v) (fun _ s' => ∃ σ' H', Inv X pins σ' H' s' ∧ Q σ' H') X.xe s := by
    intro n P T l ws hl rl hn hv hz hT hni hit
    have kk : FinS X.K X.mg W g (match starL d st with
      | none => .stuck
      | some l => if is.length - 1 ≤ l.length then (mk c (l.drop (is.length - 1)) st).toS ρ fun o st => .nx (setAll ρ is (l.take (is.length - 1) ++ [o])) st else .stuck) D := kk
    rw [hl, his, Nat.add_sub_cancel] at kk
    have kk : FinS X.K X.mg W g (if es.length ≤ l.length then (mk c (l.drop es.length) st).toS ρ fun o st => .nx (setAll ρ is (l.take es.length ++ [o])) st else .stuck) D := kk
    by_cases hle : es.length ≤ l.length
    · rw [if_pos hle] at kk
      rw [assign_Tuple]
      refine wpAny_bind (wpAny_standAt ?_)
      unfold unpack
      rw [hlen, hst2]
      refine wpAny_bind (wpAny_holding (unpack_star (T := T) hh hT hni hit (by omega) hz fun h' tk vs us hk h1 h2 p1 p2 => ?_))
      have hall : Vals ws (vs ++ us) := hv _ (by rw [List.length_append]; omega) fun j u hj => by
        by_cases q : j < vs.length
        · rw [List.getElem?_append_left q] at hj
          exact p1 j u hj
        · rw [List.getElem?_append_right (by omega)] at hj
          have := p2 _ u hj
          rw [show es.length + (j - vs.length) = j by omega] at this
          exact this
      have v1 : Vals (ws.take es.length) vs := by
        have := hall.take es.length
        rw [show (vs ++ us).take es.length = vs by rw [← h1]; simp] at this
        exact this
      have v2 : Vals (ws.drop es.length) us := by
        have := hall.drop es.length
        rw [show (vs ++ us).drop es.length = us by rw [← h1]; simp] at this
        exact this
      exact wpAny_mono (star_store (D := D) hg' hes his R hle rl v1 v2 kk I hk) (fun _ s' ⟨σ', H', I', q⟩ => ⟨σ', H', I', hD _ _ q⟩) fun _ _ q => q
    · rw [if_neg hle] at kk
      exact kk.elim
  have kk0 := kk
  unfold starS starL at kk
  cases hv : view d st with
  | tup l =>
    obtain ⟨p, xs, rfl, e1, q1⟩ := at_tup rd hv
    obtain rfl : v = .ref p := rv
    obtain ⟨its, r, ht, hz⟩ := I.tuple (stu_sq R.im e1)
    have hp : p ≠ s.heap.objs.size := by obtain ⟨o, ho, _⟩ := ht; exact Nat.ne_of_lt (Heap.lt_size ho)
    have ht' : s.heap.IsTuple p its.toArray := ht
    refine go (n := its.length) (P := fun i v => its.toArray[i]? = some v) (T := "tuple_iterator") (by unfold starL; rw [hv]) q1 (by rw [q1.length, r.length]) (fun us hl h => ?_) (by rw [← r.length]; exact hz) (.inr (.inr (.inr rfl))) (fun Q q => ?_) (fun Q q => ?_)
    · have : us = its := by
        apply List.ext_getElem?
        intro j
        by_cases hj : j < us.length
        · have := h j _ (List.getElem?_eq_getElem hj)
          rw [List.getElem?_eq_getElem hj]
          simpa using this.symm
        · rw [List.getElem?_eq_none (by omega), List.getElem?_eq_none (by omega)]
      rw [this]
      exact r
    · unfold notIterableAtAll
      exact wpAny_bind (wpAny_specialOf ht'.typeIs F.slot_tuple_iter.lookup (wpAny_pure q))
    · refine wpAny_pyIter_tuple ht' (q _ (fun i h => h.IsTupleIter s.heap.objs.size p i ∧ h.IsTuple p its.toArray) [s.heap.objs.size, p] (fun A' hA => ?_) ⟨⟨_, Heap.get?_push_size _ rfl, rfl, rfl⟩, ht'.push _⟩ (fun j h z => let ⟨o, ho, hc, _⟩ := z.1; ⟨o, ho, hc⟩) (fun b hb => ?_) (by simp))
      · have := Walks.tuple (prog := X.prog) (w := X.w) hA s.heap.objs.size p hp its.toArray
        simpa using this
      · simp only [Heap.push, Array.size_push]
        rcases List.mem_cons.mp hb with rfl | hb
        · exact Nat.lt_succ_self _
        · rw [List.mem_singleton.mp hb]
          obtain ⟨o, ho, _⟩ := ht
          exact Nat.lt_succ_of_lt (Heap.lt_size ho)
  | lst l =>
    obtain ⟨p, xs, rfl, e1, q1⟩ := at_lst R rd hv
    obtain rfl : v = .ref p := rv
    obtain ⟨its, r, ht, hz⟩ := I.list (.inl (.inl e1))
    have ht' : s.heap.IsList p its.toArray := ht.isList
    have hp : p ≠ s.heap.objs.size := by obtain ⟨o, ho, _⟩ := ht'; exact Nat.ne_of_lt (Heap.lt_size ho)
    refine go (n := its.length) (P := fun i v => its.toArray[i]? = some v) (T := "list_iterator") (by unfold starL; rw [hv]) q1 (by rw [q1.length, r.length]) (fun us hl h => ?_) (by rw [← r.length]; exact hz) (.inr (.inr (.inl rfl))) (fun Q q => ?_) (fun Q q => ?_)
    · have : us = its := by
        apply List.ext_getElem?
        intro j
        by_cases hj : j < us.length
        · have := h j _ (List.getElem?_eq_getElem hj)
          rw [List.getElem?_eq_getElem hj]
          simpa using this.symm
        · rw [List.getElem?_eq_none (by omega), List.getElem?_eq_none (by omega)]
      rw [this]
      exact r
    · unfold notIterableAtAll
      exact wpAny_bind (wpAny_specialOf ht'.typeIs slot_list_iter.lookup (wpAny_pure q))
    · refine wpAny_pyIter_list ht' (q _ (fun i h => h.IsListIter s.heap.objs.size p i ∧ h.IsList p its.toArray) [s.heap.objs.size, p] (fun A' hA => ?_) ⟨⟨_, Heap.get?_push_size _ rfl, rfl, rfl⟩, ht'.push _⟩ (fun j h z => let ⟨o, ho, hc, _⟩ := z.1; ⟨o, ho, hc⟩) (fun b hb => ?_) (by simp))
      · have := Walks.list (prog := X.prog) (w := X.w) hA s.heap.objs.size p hp its.toArray
        simpa using this
      · simp only [Heap.push, Array.size_push]
        rcases List.mem_cons.mp hb with rfl | hb
        · exact Nat.lt_succ_self _
        · rw [List.mem_singleton.mp hb]
          obtain ⟨o, ho, _⟩ := ht'
          exact Nat.lt_succ_of_lt (Heap.lt_size ho)
  | str z =>
    obtain rfl := at_str rd hv
    obtain ⟨t, rfl⟩ := show ∃ t, v = .str z t from rv
    by_cases hl : z.length ≤ 100000
    · have hzs : z.cps.size ≤ 100000 := hl
      refine go (n := z.cps.size) (P := SignAt z) (T := strIterType z) (by unfold starL; rw [hv]; exact if_pos hl) (rd_signs z) (by simp [signs]) (fun us hl h => vals_str z us hl fun j v hj => ?_) (sz hzs) (by unfold strIterType; split; exact .inl rfl; exact .inr (.inl rfl)) (fun Q q => ?_) (fun Q q => ?_)
      · exact h j v hj
      · unfold notIterableAtAll
        exact wpAny_bind (wpAny_specialOf (typeIs_str s z t) F.slot_str_iter.lookup (wpAny_pure q))
      · have fin : ∀ (ty : String), strIterType z = ty → (∀ A' : Around, A'.handled = none → Walks X.prog X.w A' s.heap.objs.size [s.heap.objs.size] [s.heap.objs.size] z.cps.size (SignAt z) (fun i h => h.IsStrIter s.heap.objs.size ty z t i)) →
            Q (.ref s.heap.objs.size) { s with heap := s.heap.push { cls := .type (strIterType z), data := .fields #[.str z t, .int 0 0] } } := fun ty ety hw =>
          q _ _ _ hw ⟨_, Heap.get?_push_size _ rfl, by rw [ety], rfl⟩ (fun j h z => let ⟨o, ho, hc, _⟩ := z; ⟨o, ho, by rw [hc, ety]⟩) (fun b hb => by
            simp only [Heap.push, Array.size_push]
            rw [List.mem_singleton.mp hb]
            exact Nat.lt_succ_self _) (by simp)
        refine wpAny_pyIter_strU ?_
        by_cases ha : z.cps.all (· < 128) = true
        · exact fin "str_ascii_iterator" (by unfold strIterType; rw [if_pos ha]) fun A' hA => Walks.strAscii hA _ z t
        · exact fin "str_iterator" (by unfold strIterType; rw [if_neg ha]) fun A' hA => Walks.strWide hA _ z t
    · rw [hv] at kk
      have kk : FinS X.K X.mg W g (match (if z.length ≤ 100000 then some (signs z) else none) with
        | none => .stuck
        | some l => if is.length - 1 ≤ l.length then (mk c (l.drop (is.length - 1)) st).toS ρ fun o st => .nx (setAll ρ is (l.take (is.length - 1) ++ [o])) st else .stuck) D := kk
      rw [if_neg hl] at kk
      exact kk.elim
  | _ => rw [hv] at kk; exact kk.elim
end
end P3

/-! P3T: chains, is, keywords, stars, [::-1], equality of things that hold anything. -/
namespace P3
open PySem PySem.Spec PyProof.Rows L2
/-! ### a op b op' c -/
def mChain (f f' : D → D → Sto → Res D) (a b c : ME) : ME := fun ρ st => (a ρ st).bind fun x st => (b ρ st).bind fun y st => (f x y st).bind fun z st => match z with
  | .bl true => (c ρ st).bind fun w st => f' y w st
  | .bl false => .ok (.bl false) st
  | _ => .stuck
section
variable {X : Cx} {W : WX} {a b c e v : Expr} {es : List Expr} {ma mb mc m : ME} {ms : MEs} {pos : Pos} {op op' : CmpOp} {f f' : D → D → Sto → Res D}
theorem bl_of {K : PySem.W.Frag} {g : G} {k : Bool} {x : V} {u : Value} (r : Rd K g (.bl k) x) (rv : RelV x u) : u = Value.bool k := by
  cases r
  exact rv
theorem de_chain (ho : OpD X W (compareOp op) f) (ho' : OpD X W (compareOp op') f') (ha : DE X W a ma) (hb : DE X W b mb) (hc : DE X W c mc) (hm : lastMarks [op, op'] [b, c] = false) : DE X W (.Compare a [op, op'] [b, c] pos) (mChain f f' ma mb mc) := by
  refine ⟨fun pins s σ H Q I h => ?_⟩
  obtain ⟨g, ρ, st, R, k⟩ := h
  refine Compare_chain (thn (ha.run pins s σ H _ I ⟨g, ρ, st, R, FinG.bind k⟩) fun v s1 ⟨x, H1, I1, r1, g1, st1, d1, e1, R1, q1, k1⟩ => chain_link (thn (hb.run pins s1 σ H1 _ I1 ⟨g1, ρ, st1, R1, FinG.bind k1⟩) fun u s2 ⟨y, H2, I2, r2, g2, st2, d2, e2, R2, q2, k2⟩ =>
    thn (ho pins s2 σ H2 g2 ρ st2 x y v u d1 d2 _ I2 R2 r1 r2 (q1.mono e2) q2 (FinG.bind k2)) fun d s3 ⟨z, H3, I3, r3, g3, st3, d3, e3, R3, q3, k3⟩ => ?_)) hm
  split at k3
  · obtain rfl := bl_of q3 r3
    exact wpAny_truthy_bool (ite_tt (chain_last (thn (hc.run pins s3 σ H3 _ I3 ⟨g3, ρ, st3, R3, FinG.bind k3⟩) fun w' s4 ⟨z', H4, I4, r4, g4, st4, d4, e4, R4, q4, k4⟩ => ho' pins s4 σ H4 g4 ρ st4 y z' u w' d2 d4 Q I4 R4 r2 r4 ((q2.mono e3).mono e4) q4 k4)))
  · have ez := bl_of q3 r3
    subst ez
    exact wpAny_truthy_bool (ite_ff ⟨z, H3, I3, r3, FinG.now k3 R3 q3⟩)
  · exact k3.elim
theorem dt_chain (ho : OpD X W (compareOp op) f) (ho' : OpD X W (compareOp op') f') (ha : DE X W a ma) (hb : DE X W b mb) (hc : DE X W c mc) (hm : lastMarks [op, op'] [b, c] = false) : DT X W (.Compare a [op, op'] [b, c] pos) (mTru (mChain f f' ma mb mc)) := by
  refine ⟨fun pins s σ H Q I h => ?_⟩
  obtain ⟨g, ρ, st, R, k⟩ := h
  have k' : FinG X.K X.mg W (pD X.K) g σ ρ (mChain f f' ma mb mc ρ st) (fun x H' => ∃ b, TruV X.K x H' b ∧ Q b H') := (FinG.bind k).imp fun x H1 ⟨g1, st1, d, e1, R1, r1, k1⟩ => by
    cases h : truth d st1 with
    | none => rw [h] at k1; exact k1.elim
    | some b =>
      rw [h] at k1
      exact ⟨b, tru_of R1 r1 h, FinG.now k1 R1 rfl⟩
  refine isTrue_chain (thn (ha.run pins s σ H _ I ⟨g, ρ, st, R, FinG.bind k'⟩) fun v s1 ⟨x, H1, I1, r1, g1, st1, d1, e1, R1, q1, k1⟩ => test_link (thn (hb.run pins s1 σ H1 _ I1 ⟨g1, ρ, st1, R1, FinG.bind k1⟩) fun u s2 ⟨y, H2, I2, r2, g2, st2, d2, e2, R2, q2, k2⟩ =>
    thn (ho pins s2 σ H2 g2 ρ st2 x y v u d1 d2 _ I2 R2 r1 r2 (q1.mono e2) q2 (FinG.bind k2)) fun d s3 ⟨z, H3, I3, r3, g3, st3, d3, e3, R3, q3, k3⟩ => ?_)) hm
  split at k3
  · obtain rfl := bl_of q3 r3
    exact wpAny_truthy_bool (ite_tt (test_last (thn (hc.run pins s3 σ H3 _ I3 ⟨g3, ρ, st3, R3, FinG.bind k3⟩) fun w' s4 ⟨z', H4, I4, r4, g4, st4, d4, e4, R4, q4, k4⟩ => thn (ho' pins s4 σ H4 g4 ρ st4 y z' u w' d2 d4 _ I4 R4 r2 r4 ((q2.mono e3).mono e4) q4 k4) fun c5 s5 ⟨z5, H5, I5, r5, b5, t5, q5⟩ => tru_ok pins s5 σ H5 z5 c5 Q I5 r5 ⟨b5, t5, q5⟩)))
  · obtain rfl := bl_of q3 r3
    obtain ⟨b, tb, qb⟩ := FinG.now k3 R3 q3
    cases q3
    obtain rfl := show b = false from tb
    exact wpAny_truthy_bool (ite_ff ⟨H3, I3, qb⟩)
  · exact k3.elim
/-! ### is -/
theorem od_is : OpD X W (compareOp .Is) fIs := by
  intro pins s σ H g ρ st x y v u dx dy Q I R rx ry r1 r2 k
  unfold fIs at k
  split at k
  · rename_i p q
    cases r1
    cases r2
    exact op_isBl pins s σ H _ _ v u Q I rx ry ⟨p, q, rfl, rfl, by
      have z := FinG.now k R (.bl _)
      have e : (p == q) = decide (p = q) := by cases p <;> cases q <;> rfl
      rw [← e]
      exact z⟩
  · cases r2
    refine op_isN pins s σ H _ _ v u Q I rx ry ⟨rfl, ?_⟩
    rw [non_of r1]
    have z := FinG.now k R (.bl _)
    cases dx <;> exact z
  · exact k.elim
theorem od_isNot : OpD X W (compareOp .IsNot) fIsNot := by
  intro pins s σ H g ρ st x y v u dx dy Q I R rx ry r1 r2 k
  unfold fIsNot at k
  split at k
  · rename_i p q
    cases r1
    cases r2
    exact op_notBl pins s σ H _ _ v u Q I rx ry ⟨p, q, rfl, rfl, by
      have z := FinG.now k R (.bl _)
      have e : (p == q) = decide (p = q) := by cases p <;> cases q <;> rfl
      rw [← e]
      exact z⟩
  · cases r2
    refine op_notN pins s σ H _ _ v u Q I rx ry ⟨rfl, ?_⟩
    rw [non_of r1]
    have z := FinG.now k R (.bl _)
    cases dx <;> exact z
  · exact k.elim
/-! ### == of things that hold anything, where the lengths tell -/
def eqLen (x y : D) : Option Bool := match x, y with
  | .lst a, .lst b => if a.length = b.length then none else some false
  | .tup [], .tup (_ :: _) => some false
  | .tup (_ :: _), .tup [] => some false
  | _, _ => none
def fEqX0 (x y : D) (st : Sto) : Res D := match eqLen (view x st) (view y st) with
  | some b => .ok (.bl b) st
  | none => fEq x y st
theorem od_eqX0 (hu : X.A.units + 64 < cLine) : OpD X W (compareOp .Eq) fEqX0 := by
  intro pins s σ H g ρ st x y v u dx dy Q I R rx ry r1 r2 k
  unfold fEqX0 at k
  cases h : eqLen (view dx st) (view dy st) with
  | none =>
    rw [h] at k
    exact od_eq hu pins s σ H g ρ st x y v u dx dy Q I R rx ry r1 r2 k
  | some b =>
    rw [h] at k
    unfold eqLen at h
    split at h
    · rename_i l1 l2 h1 h2
      obtain ⟨p, xs, rfl, e1, q1⟩ := at_lst R r1 h1
      obtain ⟨q, ys, rfl, e2, q2⟩ := at_lst R r2 h2
      split at h
      · cases h
      · rename_i hl
        cases h
        obtain ⟨i1, w1, p1, _⟩ := I.list (.inl (.inl e1))
        obtain ⟨i2, w2, p2, _⟩ := I.list (.inl (.inl e2))
        obtain rfl : v = .ref p := rx
        obtain rfl : u = .ref q := ry
        refine SeqAt.eq_list_lengthsAt p1.isList p2.isList ?_ (by omega) ⟨.bl false, H, I, rfl, FinG.now k R (.bl _)⟩
        rw [List.size_toArray, List.size_toArray, ← w1.length, ← w2.length, ← q1.length, ← q2.length]
        simpa using hl
    · rename_i d2 l2 h1 h2
      cases h
      obtain ⟨p, xs, rfl, e1, q1⟩ := at_tup r1 h1
      obtain ⟨q, ys, rfl, e2, q2⟩ := at_tup r2 h2
      obtain ⟨i1, w1, p1, _⟩ := I.tuple (stu_sq R.im e1)
      obtain ⟨i2, w2, p2, _⟩ := I.tuple (stu_sq R.im e2)
      obtain rfl : v = .ref p := rx
      obtain rfl : u = .ref q := ry
      cases q1
      cases w1
      cases q2
      cases w2
      exact PySem.W.eq_tuplesT (n := 0) (e := fun _ => true) p1 p2 (fun j h1 _ => absurd h1 (Nat.not_lt_zero j)) (by omega) ⟨.bl false, H, I, rfl, FinG.now k R (.bl _)⟩
    · rename_i d2 l2 h1 h2
      cases h
      obtain ⟨p, xs, rfl, e1, q1⟩ := at_tup r1 h1
      obtain ⟨q, ys, rfl, e2, q2⟩ := at_tup r2 h2
      obtain ⟨i1, w1, p1, _⟩ := I.tuple (stu_sq R.im e1)
      obtain ⟨i2, w2, p2, _⟩ := I.tuple (stu_sq R.im e2)
      obtain rfl : v = .ref p := rx
      obtain rfl : u = .ref q := ry
      cases q1
      cases w1
      cases q2
      cases w2
      exact PySem.W.eq_tuplesT (n := 0) (e := fun _ => true) p1 p2 (fun j _ h2 => absurd h2 (Nat.not_lt_zero j)) (by omega) ⟨.bl false, H, I, rfl, FinG.now k R (.bl _)⟩
    · cases h
/-! ### a, b, *c = e -/
def sStar (c : Bool) (is : List Nat) (m : ME) : MS := fun ρ st => (m ρ st).toS ρ fun d st => starS c is d ρ st
theorem ds_star {elts : List Expr} {k : Nat} {p1 : Pos} {is : List Nat} (c : Bool) (hc : X.calm = true) (hel : elts = es ++ [e]) (hst : isStar e = true) (hnst : ∀ x ∈ es, isStar x = false) (hun : isStar (unstar e) = false) (his : is.length = es.length + 1) (hg : PGs X (es ++ [unstar e]) (gNs is))
    (he : DE X W v m) (hs : swapsWithSole [.Tuple elts k p1] v pos.line X.env = pure false) (hw : swappedStores [.Tuple elts k p1] v X.env = pure none) (h1 : (assignEach [.Tuple elts k p1] X.env).map (·.2) = [assign (.Tuple elts k p1) X.env]) :
    DS X W (.Assign [.Tuple elts k p1] v pos) (sStar c is m) := ps_weak (ps_asg he (pg_star (W := W) c hc hel hst hnst hun his hg) hs hw h1) fun D σ H ⟨g, ρ, st, R, k⟩ => ⟨g, ρ, st, R, (FinS.toS k).imp fun x H1 ⟨g1, st1, d, e1, R1, r1, k1⟩ => ⟨g1, ρ, st1, d, D, R1, r1, k1, fun _ _ q => q⟩⟩
/-! ### xs[::-1] -/
def fRev (c : Bool) (x : D) (st : Sto) : Res D := match view x st with
  | .lst l => mk c l.reverse st
  | .tup l => .ok (.tup l.reverse) st
  | .str z => if z.length ≤ 100000 then .ok (.str ⟨z.cps.toList.reverse.toArray⟩) st else .stuck
  | _ => .stuck
theorem str_rev (x : Str) : (⟨((Builtin.Str.strSliceIndices none none (-1) x.length).filterMap (x.cps[·]?)).toArray⟩ : Str) = ⟨x.cps.toList.reverse.toArray⟩ := by
  congr 2
  rw [PyProof.Rows.picked_rev, PyProof.Rows.filterMap_get, List.map_map]
  · apply List.ext_getElem?
    intro i
    rw [List.getElem?_map]
    by_cases hi : i < x.length
    · have hi' : i < x.cps.toList.length := by simpa [Str.length] using hi
      rw [List.getElem?_range hi, List.getElem?_reverse hi']
      have e : x.cps.toList.length = x.length := by simp [Str.length]
      have hj : x.length - 1 - i < x.cps.size := by
        show x.length - 1 - i < x.length
        omega
      rw [e, Array.getElem?_toList, Array.getElem?_eq_getElem hj]
      simp [Function.comp, Array.getD, hj]
    · rw [List.getElem?_eq_none (by simpa using hi), List.getElem?_eq_none (by simpa [Str.length] using hi)]
      rfl
  · intro i hi
    obtain ⟨k, hk, rfl⟩ := List.mem_map.mp hi
    have hk' : k < x.length := List.mem_range.mp hk
    show x.length - 1 - k < x.length
    omega
theorem rev_applied {prog : Program} {w : World} {A : Around} {E : Value → Shared → Prop} {s : Shared} {sl : Addr} {vl vu vs : Value} {n : Nat} {Q : Int × Int × Nat → Shared → Prop} (hs : s.heap.IsSliceOf sl vl vu vs) (pl : IsPart vl none) (pu : IsPart vu none) (ps : IsPart vs (some (-1)))
    (h : Q ((n : Int) - 1, -1, n) s) : wpAny (model prog w) A (Builtin.Slice.sliceApplied (.ref sl) (pure (n : Int))) Q E s := by
  obtain ⟨os, hos, hcs, hds⟩ := id hs
  unfold Builtin.Slice.sliceApplied Builtin.Slice.sliceFields
  refine wpAny_bind (wpAny_bind (wpAny_field hos hds (x := vl) rfl (wpAny_bind (wpAny_field hos hds (x := vu) rfl (wpAny_bind (wpAny_field hos hds (x := vs) rfl (wpAny_pure ?_)))))))
  refine wpAny_bind (HT.slicePart_ ps ?_)
  show wpAny _ _ (if ((-1 : Int) == 0) = true then _ else _) _ _ s
  rw [if_neg (by decide)]
  refine wpAny_bind (HT.slicePart_ pl (wpAny_bind (HT.slicePart_ pu (wpAny_bind (wpAny_pure ?_)))))
  show wpAny _ _ (pure ((n : Int) - 1, (-1 : Int), Builtin.Slice.slicePlaces ((n : Int) - 1) (-1) (-1))) _ _ s
  have e : Builtin.Slice.slicePlaces ((n : Int) - 1) (-1) (-1) = n := by
    unfold Builtin.Slice.slicePlaces
    rw [if_neg (by decide)]
    by_cases hn : n = 0
    · subst hn
      decide
    · rw [if_pos (by omega), show (- -1 : Int) = 1 by decide, Int.ediv_one]
      omega
  rw [e]
  exact wpAny_pure h
theorem rev_pick (xs : Array Value) : ((List.range xs.size).filterMap fun (m : Nat) => xs[((xs.size : Int) - 1 + (m : Int) * (-1)).toNat]?).toArray = xs.toList.reverse.toArray := by
  congr 1
  have e : ∀ m ∈ List.range xs.size, xs[((xs.size : Int) - 1 + (m : Int) * (-1)).toNat]? = xs.toList.reverse[m]? := fun m hm => by
    have hm' := List.mem_range.mp hm
    have : ((xs.size : Int) - 1 + (m : Int) * (-1)).toNat = xs.size - 1 - m := by omega
    rw [this, List.getElem?_reverse (by simpa using hm')]
    simp
  have hmap : (List.range xs.size).filterMap (fun (m : Nat) => xs[((xs.size : Int) - 1 + (m : Int) * (-1)).toNat]?) = (List.range xs.size).filterMap (fun m => xs.toList.reverse[m]?) := by
    generalize hl : List.range xs.size = l at e
    clear hl
    induction l with
    | nil => rfl
    | cons a l ih =>
      rw [List.filterMap_cons, List.filterMap_cons, e a List.mem_cons_self, ih fun m hm => e m (List.mem_cons_of_mem _ hm)]
  rw [hmap]
  have gen : ∀ (l : List Value), (List.range l.length).filterMap (fun m => l[m]?) = l := fun l => by
    have := PySem.W.krv_all l.toArray
    simpa using this
  have g2 := gen xs.toList.reverse
  rw [List.length_reverse] at g2
  simpa using g2
theorem getItem_tuple_rev {prog : Program} {w : World} {A : Around} {E : Value → Shared → Prop} {s : Shared} {t sl : Addr} {items : Array Value} {vl vu vs : Value} {Q : Value → Shared → Prop} (ht : IsTup s.heap t items) (hs : s.heap.IsSliceOf sl vl vu vs) (pl : IsPart vl none) (pu : IsPart vu none) (ps : IsPart vs (some (-1)))
    (h : Q (.ref s.heap.objs.size) { s with heap := s.heap.push { cls := .type "tuple", data := .seq items.toList.reverse.toArray } }) (hsz : items.size ≤ sizeLine) : wpAny (model prog w) A (getItem (.ref t) (.ref sl)) Q E s := by
  have htake : sizeOk (.seq items.toList.reverse.toArray) := by
    show items.toList.reverse.toArray.size ≤ sizeLine
    simpa using hsz
  obtain ⟨os, hos, hcs, hds⟩ := id hs
  have hTs : s.TypeIs (.ref sl) "slice" := ⟨os, hos, hcs⟩
  unfold getItem
  try with_reducible refine wpAny_holding ?_
  first | refine wpAny_bind (wpAny_pure ?_) | skip
  refine wpAny_bind (wpAny_sequenceKey ht.typeIs (by decide) ?_)
  refine wpAny_bind (wpAny_callSpecial?_slot (name := Str.ofString "__getitem__") ht.typeIs PyProof.Rows.slot_tuple_getitem
    (wpAny_call_entry PyProof.Rows.slot_tuple_getitem ht.typeIs entry_tuple_getitem ?_ (args_tuple_getitem _ _)))
  show wpAny _ _ (Builtin.Tuple.tupleItemsOf (.ref t) >>= _) _ _ s
  refine wpAny_bind (tupleItemsOf_ ht ?_)
  refine wpAny_bind (wpAny_typeOf hTs ?_)
  rw [if_pos (by decide)]
  refine wpAny_bind (rev_applied hs pl pu ps ?_)
  have hno : ¬ (((items.size : Int) - 1 == 0 && (-1 : Int) == 1 && items.size == items.size) = true) := by
    intro q
    rw [Bool.and_eq_true, Bool.and_eq_true] at q
    exact absurd q.1.2 (by decide)
  show wpAny _ _ (if ((items.size : Int) - 1 == 0 && (-1 : Int) == 1 && items.size == items.size) = true then _ else _) _ _ s
  rw [if_neg hno, rev_pick]
  first
    | exact wpAny_bind (m := Builtin.Tuple.tupleExact _) (wpAny_newObj_type (wpAny_pure ⟨_, rfl, wpAny_pure h⟩) htake)
    | exact wpAny_bind (m := Builtin.Tuple.tupleExact _) (wpAny_newObj_type (wpAny_bind (wpAny_pure (wpAny_pure ⟨_, rfl, wpAny_pure h⟩))) htake)
    | exact wpAny_bind (wpAny_bind (m := Builtin.Tuple.tupleExact _) (wpAny_newObj_type (wpAny_pure (wpAny_pure ⟨_, rfl, wpAny_pure h⟩)) htake))
    | exact wpAny_bind (wpAny_bind (m := Builtin.Tuple.tupleExact _) (wpAny_newObj_type (wpAny_pure ⟨_, rfl, wpAny_pure h⟩) htake))
theorem RdL_reverse {K : PySem.W.Frag} {g : G} {ds : List D} {xs : List V} (r : RdL K g ds xs) : RdL K g ds.reverse xs.reverse := r.reverse
theorem de_rev (c : Bool) {k : Nat} {p1 p2 p3 : Pos} (he : DE X W e m) : DE X W (.Subscript e (.Slice none none (some (.UnaryOp .USub (.Constant (.int 1) k p1) p2)) p3) pos) (mUn (fRev c) m) := by
  refine ⟨fun pins s σ H Q I h => ?_⟩
  obtain ⟨g, ρ, st, R, kk⟩ := h
  refine Subscript_ (thn (he.run pins s σ H _ I ⟨g, ρ, st, R, FinG.bind kk⟩) fun v s1 ⟨x, H1, I1, r1, g1, st1, d, e1, R1, q1, k1⟩ => ?_)
  have hst : PO X (some (.UnaryOp .USub (.Constant (.int 1) k p1) p2)) (tPart (tUn (rU fun i => .int (-i)) (tC (.int 1)))) := po_some (pe_un un_neg pe_int)
  refine wpAny_Slice (thn (po_none.run pins s1 σ H1 (fun o H2 => o = none ∧ H2 = H1) I1 ⟨rfl, rfl⟩) fun vl s2 ⟨l, H2, I2, pl, el, e2⟩ => ?_)
  subst el e2
  refine thn (po_none.run pins s2 σ H2 (fun o H3 => o = none ∧ H3 = H2) I2 ⟨rfl, rfl⟩) fun vu s3 ⟨u, H3, I3, pu, eu, e3⟩ => ?_
  subst eu e3
  refine thn (hst.run pins s3 σ H3 (fun o H4 => o = some (-1) ∧ H4 = H3) I3 ⟨1, rfl, -1, rfl, rfl, rfl⟩) fun vs s4 ⟨o, H4, I4, ps, eo, e4⟩ => ?_
  subst eo e4
  have I5 : Inv X pins σ H4 { s4 with heap := s4.heap.push { cls := .type "slice", data := .fields #[vl, vu, vs] } } := I4.kept (t' := s4.toks) fun b ob q => Heap.get?_push_of_some _ q
  unfold fRev at k1
  split at k1
  · rename_i l hv
    obtain ⟨p, xs, rfl, e5, q5⟩ := at_lst R1 q1 hv
    obtain rfl : v = .ref p := r1
    obtain ⟨its, r, ht, hz⟩ := I5.list (.inl (.inl e5))
    obtain ⟨k2, k3⟩ := new_mk R1 q5.reverse k1
    refine tail_any (ops := [.ref p, .ref s4.heap.objs.size]) ht.isList.typeIs (PySem.slot_list_getitem.lookup) ?_ (by with_unfolding_all rfl)
    refine wpAny_getItem_list_slice ht.isList (Heap.IsSliceOf.new _ vl vu vs) pl pu ps (by decide) ?_ (by rw [List.size_toArray, ← r.length]; exact hz)
    rw [PySem.W.krv_pick]
    refine ⟨.ref _, _, I5.laid (t' := s4.toks) (o := .lst xs.reverse) (fun b ob q => Heap.get?_push_of_some _ q) (Nat.le_refl _) ?_, rfl, k3 _ (I5.hok.fresh (Nat.le_refl _))⟩
    exact ⟨by rw [List.length_reverse]; exact hz, _, 0, r.reverse, Heap.get?_push_size _ rfl⟩
  · rename_i l hv
    obtain ⟨p, xs, rfl, e5, q5⟩ := at_tup q1 hv
    obtain rfl : v = .ref p := r1
    obtain ⟨its, r, ht, hz⟩ := I5.tuple (stu_sq R1.im e5)
    refine tail_any (ops := [.ref p, .ref s4.heap.objs.size]) ht.typeIs (PyProof.Rows.slot_tuple_getitem.lookup) ?_ (by with_unfolding_all rfl)
    refine getItem_tuple_rev ht (Heap.IsSliceOf.new _ vl vu vs) pl pu ps ?_ (by rw [List.size_toArray, ← r.length]; exact hz)
    refine ⟨.ref _, _, I5.laid (t' := s4.toks) (o := .tup xs.reverse) (fun b ob q => Heap.get?_push_of_some _ q) (Nat.le_refl _) ?_, rfl, new_tup R1 q5.reverse k1 (I5.hok.fresh (Nat.le_refl _))⟩
    exact ⟨by rw [List.length_reverse]; exact hz, _, r.reverse, IsTup.new _ _⟩
  · rename_i z hv
    obtain rfl := at_str q1 hv
    obtain ⟨tk, rfl⟩ := (show ∃ tk, v = Value.str z tk from r1)
    by_cases hl : z.length ≤ 100000
    · rw [if_pos hl] at k1
      cases pl
      cases pu
      cases ps with
      | int i t =>
      refine tail_any (T := "str") (ops := [.str z tk, .ref s4.heap.objs.size]) (typeIs_str _ z tk) PySem.F.slot_str_getitem.lookup ?_ (by with_unfolding_all rfl)
      refine wpAny_getItem_str_slice (l := none) (u := none) (st := some (-1, t)) ⟨_, Heap.get?_push_size _ rfl, rfl, rfl⟩ rfl ?_
      have hm : sliceMade z tk none none (some (-1, t)) = .str ⟨z.cps.toList.reverse.toArray⟩ := by
        unfold sliceMade
        rw [if_neg (by
          intro q
          rw [Bool.and_eq_true] at q
          exact absurd (show ((-1 : Int) == 1) = true from q.1) (by decide))]
        exact congrArg Made.str (str_rev z)
      rw [hm]
      have hz : (⟨z.cps.toList.reverse.toArray⟩ : Str).length ≤ sizeLine := by
        have : (⟨z.cps.toList.reverse.toArray⟩ : Str).length = z.length := by simp [Str.length]
        rw [this, sizeLine_eq]
        omega
      exact ⟨hz, ⟨.str _, H4, I5.tok _, ⟨_, rfl⟩, FinG.now k1 R1 (.str _)⟩⟩
    · rw [if_neg hl] at k1
      exact k1.elim
  · exact k1.elim
end
end P3

/-! P3K: calls with keywords, pairs stored at once. -/
namespace P3
open PySem PySem.Spec PyProof.Rows L2
/-- how a def may be called: so many by place, these by name, what lacks; the parameters in order, of all these -/
structure Sig where
  n : Nat
  ks : List Str
  ix : List Nat
  ds0 : List D
def pick {α : Type} (l : List α) : List Nat → List α
  | [] => []
  | i :: is => match l[i]? with
    | some a => a :: pick l is
    | none => pick l is
theorem pick_vals {l : List V} {us : List Value} (r : Vals l us) : ∀ is : List Nat, Vals (pick l is) (pick us is)
  | [] => .nil
  | i :: is => by
    unfold pick
    cases h : l[i]? with
    | none =>
      have : us[i]? = none := by rw [List.getElem?_eq_none_iff] at h ⊢; rw [← r.length]; exact h
      rw [this]
      exact pick_vals r is
    | some x =>
      obtain ⟨u, hu, ru⟩ := r.get h
      rw [hu]
      exact .cons ru (pick_vals r is)
theorem pick_rd {K : PySem.W.Frag} {g : G} {ds : List D} {xs : List V} (r : RdL K g ds xs) : ∀ is : List Nat, RdL K g (pick ds is) (pick xs is)
  | [] => .nil
  | i :: is => by
    unfold pick
    cases h : ds[i]? with
    | none =>
      have : xs[i]? = none := by rw [List.getElem?_eq_none_iff] at h ⊢; rw [← r.length]; exact h
      rw [this]
      exact pick_rd r is
    | some d =>
      obtain ⟨v, hv, rv⟩ := r.get h
      rw [hv]
      exact .cons rv (pick_rd r is)
theorem pick_len {α : Type} {l : List α} : ∀ {is : List Nat}, (∀ i ∈ is, i < l.length) → (pick l is).length = is.length
  | [], _ => rfl
  | i :: is, h => by
    have hi := h i List.mem_cons_self
    unfold pick
    rw [List.getElem?_eq_getElem hi]
    show (pick l is).length + 1 = is.length + 1
    rw [pick_len fun j hj => h j (List.mem_cons_of_mem _ hj)]
structure SigOk (K : PySem.W.Frag) (fd : FuncData) (ps : List Str) (S : Sig) : Prop where
  ex : ∃ us0 vs0, Vals vs0 us0 ∧ (∀ g, RdL K g S.ds0 vs0) ∧ ∀ (s : Shared) (us ws : List Value), K.In s.heap → us.length = S.n → ws.length = S.ks.length → BindsTo s fd ⟨us, S.ks.zip ws⟩ (ps.zip (pick (us ++ ws ++ us0) S.ix))
  len : S.ix.length = ps.length
  lt : ∀ i ∈ S.ix, i < S.n + S.ks.length + S.ds0.length
theorem sigs_nil {K : PySem.W.Frag} {fd : FuncData} {ps : List Str} : ∀ S ∈ ([] : List Sig), SigOk K fd ps S := fun S h => by cases h
theorem sigs_cons {K : PySem.W.Frag} {fd : FuncData} {ps : List Str} {S : Sig} {l : List Sig} (h : SigOk K fd ps S) (t : ∀ S ∈ l, SigOk K fd ps S) : ∀ T ∈ S :: l, SigOk K fd ps T := fun T hT => by
  rcases List.mem_cons.mp hT with rfl | hT
  · exact h
  · exact t T hT
abbrev DK (X : Cx) (W : WX) (ks : List Keyword) (m : MEs) : Prop := PK X ks (tMs X.K X.mg W m)
def mKw (ms mk : MEs) (f : Fn) (S : Sig) : ME := fun ρ st => (ms ρ st).bind fun ds st => (mk ρ st).bind fun es st => f (pick (ds ++ es ++ S.ds0) S.ix) st
/-- as mKw without keywords and defaults -/
def Len (n : Nat) (m : MEs) : Prop := ∀ ρ st ds st', m ρ st = .ok ds st' → ds.length = n
section
variable {X : Cx} {W : WX} {e : Expr} {es : List Expr} {ks : List Keyword} {nm : Option Str} {kpos pos p : Pos} {m : ME} {ms mk : MEs} {x : Str} {a : Addr} {fd : FuncData} {ps : List Str} {f : Fn} {k : Nat} {S : Sig}
theorem pk_weak {t t' : TA} (h : PK X ks t) (k : ∀ σ H Q, t' σ H Q → t σ H Q) : PK X ks t' := ⟨fun pos pins s σ H Q I q => h.run pos pins s σ H Q I (k σ H Q q)⟩
theorem dk_nil : DK X W [] mNil := pk_weak pk_nil fun σ H Q ⟨g, ρ, st, R, k⟩ => FinG.now k R .nil
theorem dk_cons (ha : DE X W e m) (hr : DK X W ks ms) : DK X W (⟨nm, e, kpos⟩ :: ks) (mCons m ms) :=
  pk_weak (pk_cons ha hr) fun σ H Q ⟨g, ρ, st, R, k⟩ =>
    ⟨g, ρ, st, R, (FinG.bind k).imp fun x H1 ⟨g1, st1, d1, e1, R1, r1, k1⟩ => ⟨g1, ρ, st1, R1, (FinG.bind k1).imp fun y H2 ⟨g2, st2, d2, e2, R2, r2, k2⟩ => FinG.now k2 R2 (.cons (r1.mono e2) r2)⟩⟩
theorem fin_len {n : Nat} {K : PySem.W.Frag} {mg : MG} {g : G} {σ : L2.St} {ρ : Ro} {st : Sto} {Q : List V → Hp → Prop} (hl : Len n ms) (q : FinG K mg W (pL K) g σ ρ (ms ρ st) Q) : FinG K mg W (fun g a b => RdL K g a b ∧ a.length = n) g σ ρ (ms ρ st) Q := by
  cases h : ms ρ st with
  | ok ds st' => rw [h] at q; exact fun g' H' b e R r => q g' H' b e R r.1
  | exc c n d st' => rw [h] at q; exact q
  | stuck => rw [h] at q; exact q
theorem len_bind {n : Nat} {K : PySem.W.Frag} {mg : MG} {g : G} {σ : L2.St} {ρ : Ro} {st : Sto} {γ δ : Type} {P2 : G → γ → δ → Prop} {Q : δ → Hp → Prop} {h : List D → Sto → Res γ} (hl : Len n ms) (q : FinG K mg W P2 g σ ρ ((ms ρ st).bind h) Q) :
    FinG K mg W (pL K) g σ ρ (ms ρ st) (fun xs H1 => ∃ g1 st1 ds, Ext g g1 ∧ Rl K g1 σ H1 ρ st1 ∧ RdL K g1 ds xs ∧ ds.length = n ∧ FinG K mg W P2 g1 σ ρ (h ds st1) Q) := by
  cases hms : ms ρ st with
  | ok ds st1 =>
    rw [hms] at q
    exact fun g' H' b e' R' r => ⟨g', st1, ds, e', R', r, hl ρ st ds st1 hms, FinG.ext q e'⟩
  | exc c n d st1 => rw [hms] at q; exact q
  | stuck => rw [hms] at q; exact q
/-- f(e, .., k = v, ..) -/
theorem de_callK (F : Fk X.prog X.w X.K X.mg X.base k a fd ps f) (hr : Room k X.A) (gd : X.A.guards = some []) (tk : Takes X W) (hg : Gl X x) (hm : X.mg x = some (.ref a)) (hk : PySem.W.keepIn X.K (.ref a) = true) (B : SigOk X.K fd ps S)
    (ha : DA X W (e :: es) ms) (hl : Len S.n ms) (hkw : DK X W ks mk) (hl2 : Len S.ks.length mk) (hall : (backToKw pos (keywordEach ks X.env)).all (·.1.isSome) = true) (hks : (backToKw pos (keywordEach ks X.env)).filterMap (·.1) = S.ks)
    (hdb : (x == ("__debug__" : Str)) = false) (he : starEach (e :: es) X.env = (false, eval e X.env) :: starEach es X.env)
    (hpl : ((backTo pos (starEach (e :: es) X.env)).any (·.1) || (backToKw pos (keywordEach ks X.env)).any (·.1.isNone)) = false) : DE X W (.Call (.Name x p) (e :: es) ks pos) (mKw ms mk f S) := by
  refine ⟨fun pins s σ H Q I h => ?_⟩
  obtain ⟨g, ρ, st, R, q⟩ := h
  obtain ⟨us0, vs0, r0, rd0, hb⟩ := B.ex
  refine wpAny_Call_Name_kw (ld_glob I hg hm ?_ hdb)
  refine PySem.W.callWith_KW (h₀ := X.base) I.ok.mod.kin hk hall (thn (ha.run pos pins s σ H _ I ⟨g, ρ, st, R, len_bind hl q⟩) fun us s1 ⟨vs, H1, I1, rv, g1, st1, ds, e1, R1, rd, hds, q1⟩ => ?_) hpl he
  refine thn (hkw.run pos pins s1 σ H1 _ I1 ⟨g1, ρ, st1, R1, len_bind hl2 q1⟩) fun ws s2 ⟨zs, H2, I2, rz, g2, st2, es2, e2, R2, rd2, hes, q2⟩ => ⟨I2.kIn, ?_⟩
  rw [hks]
  have hlu : us.length = S.n := by rw [← rv.length, ← rd.length, hds]
  have hlw : ws.length = S.ks.length := by rw [← rz.length, ← rd2.length, hes]
  have rdall := ((rd.mono e2).append rd2).append (rd0 g2)
  refine wpAny_call (codeAny_mono (fk_run (vs := pick (vs ++ zs ++ vs0) S.ix) F hr gd tk I2 R2 (hb s2 us ws I2.kIn hlu hlw) (pick_vals ((rv.append rz).append r0) _) ?_ (pick_rd rdall _) q2) fun r s' hq => ?_)
  · rw [pick_len fun i hi => ?_, B.len]
    have := B.lt i hi
    rw [← rdall.length, List.length_append, List.length_append, hds, hes]
    exact this
  · cases r with
    | error e => exact hq
    | ok fl =>
      cases fl with
      | ret u => exact hq
      | next => exact False.elim hq
      | brk => exact False.elim hq
      | cont => exact False.elim hq
/-- f(e, ..) of as many arguments as there are parameters -/
theorem de_callP (F : Fk X.prog X.w X.K X.mg X.base k a fd ps f) (hr : Room k X.A) (gd : X.A.guards = some []) (tk : Takes X W) (hg : Gl X x) (hm : X.mg x = some (.ref a)) (hk : PySem.W.keepIn X.K (.ref a) = true) (hb : ∀ (s : Shared) (us : List Value), X.K.In s.heap → us.length = ps.length → BindsTo s fd ⟨us, []⟩ (ps.zip us))
    (ha : DA X W (e :: es) ms) (hl : Len ps.length ms) (hdb : (x == ("__debug__" : Str)) = false) (he : starEach (e :: es) X.env = (false, eval e X.env) :: starEach es X.env) (hpl : (backTo pos (starEach es X.env)).any (·.1) = false) :
    DE X W (.Call (.Name x p) (e :: es) [] pos) (mOn f ms) := by
  refine ⟨fun pins s σ H Q I h => ?_⟩
  obtain ⟨g, ρ, st, R, q⟩ := h
  refine wpAny_Call_Name_kw (ld_glob I hg hm ?_ hdb)
  refine PySem.W.callWith_K (h₀ := X.base) I.ok.mod.kin hk (thn (ha.run pos pins s σ H _ I ⟨g, ρ, st, R, len_bind hl q⟩) fun us s1 ⟨vs, H1, I1, rv, g1, st1, ds, e1, R1, rd, hds, q1⟩ => ⟨I1.kIn, ?_⟩) he hpl
  have hlu : us.length = ps.length := by rw [← rv.length, ← rd.length, hds]
  refine wpAny_call (codeAny_mono (fk_run (vs := vs) F hr gd tk I1 R1 (hb s1 us I1.kIn hlu) rv (by rw [rv.length, hlu]) rd q1) fun r s' hq => ?_)
  cases r with
  | error e => exact hq
  | ok fl =>
    cases fl with
    | ret u => exact hq
    | next => exact False.elim hq
    | brk => exact False.elim hq
    | cont => exact False.elim hq
/-- f() -/
theorem de_call0 (F : Fk X.prog X.w X.K X.mg X.base k a fd [] f) (hr : Room k X.A) (gd : X.A.guards = some []) (tk : Takes X W) (hg : Gl X x) (hm : X.mg x = some (.ref a)) (hk : PySem.W.keepIn X.K (.ref a) = true) (hb : ∀ (s : Shared), X.K.In s.heap → BindsTo s fd ⟨[], []⟩ [])
    (hdb : (x == ("__debug__" : Str)) = false) : DE X W (.Call (.Name x p) [] [] pos) (fun _ st => f [] st) := by
  refine ⟨fun pins s σ H Q I h => ?_⟩
  obtain ⟨g, ρ, st, R, q⟩ := h
  refine wpAny_Call_Name_kw (ld_glob I hg hm ?_ hdb)
  refine PySem.W.callWith_K0 I.kIn hk ?_
  refine wpAny_call (codeAny_mono (fk_run (us := []) (vs := []) F hr gd tk I R (hb s I.kIn) .nil rfl .nil q) fun r s' hq => ?_)
  cases r with
  | error e => exact hq
  | ok fl =>
    cases fl with
    | ret u => exact hq
    | next => exact False.elim hq
    | brk => exact False.elim hq
    | cont => exact False.elim hq
/-! ### a, b = x, y with names of the frame alone -/
def sPar (i j : Nat) (ms : MEs) : MS := fun ρ st => (ms ρ st).toS ρ fun ds st => match ds with
  | [d, e] => .nx ((ρ.set i (some d)).set j (some e)) st
  | _ => .stuck
def sPar3 (i j l : Nat) (ms : MEs) : MS := fun ρ st => (ms ρ st).toS ρ fun ds st => match ds with
  | [d, e, f] => .nx (((ρ.set i (some d)).set j (some e)).set l (some f)) st
  | _ => .stuck
theorem RdL.three {K : PySem.W.Frag} {g : G} {d e f : D} {xs : List V} (r : RdL K g [d, e, f] xs) : ∃ x y z, xs = [x, y, z] ∧ Rd K g d x ∧ Rd K g e y ∧ Rd K g f z := by
  cases r with
  | cons a b => cases b with
    | cons b c => cases c with
      | cons c d => cases d; exact ⟨_, _, _, rfl, a, b, c⟩
theorem ds_par {i j : Nat} {x y : Str} {a b : Expr} {px py pt : Pos} {kt k2 pt2} (hc : X.calm = true) (hN : X.N.Nodup) (hi : X.N[i]? = some x) (hj : X.N[j]? = some y) (hij : i ≠ j)
    (hx : X.env.scope.names.lookup x = some .local) (hy : X.env.scope.names.lookup y = some .local) (ha : DA X W [a, b] ms)
    (hw : swappedStores [.Tuple [.Name x px, .Name y py] kt pt] (.Tuple [a, b] k2 pt2) X.env = pure (some [x, y]))
    (hs : swapsWithSole [.Tuple [.Name x px, .Name y py] kt pt] (.Tuple [a, b] k2 pt2) pos.line X.env = pure false) :
    DS X W (.Assign [.Tuple [.Name x px, .Name y py] kt pt] (.Tuple [a, b] k2 pt2) pos) (sPar i j ms) := ps_weak (ps_par hc hN hi hj hij hx hy ha hw hs) fun D σ H ⟨g, ρ, st, R, k⟩ => ⟨g, ρ, st, R, (FinS.toS k).imp fun xs H1 ⟨g1, st1, ds, e1, R1, r1, k1⟩ => by
  split at k1
  · obtain ⟨v, w, rfl, q1, q2⟩ := r1.two
    exact ⟨v, w, rfl, FinS.nxt k1 ((R1.set q1).set q2)⟩
  · exact k1.elim⟩
theorem ds_par3 {i j l : Nat} {x y z : Str} {a b c : Expr} {px py pz pt : Pos} {kt k2 pt2} (hc : X.calm = true) (hN : X.N.Nodup) (hi : X.N[i]? = some x) (hj : X.N[j]? = some y) (hl : X.N[l]? = some z) (hij : i ≠ j) (hil : i ≠ l) (hjl : j ≠ l)
    (hx : X.env.scope.names.lookup x = some .local) (hy : X.env.scope.names.lookup y = some .local) (hz : X.env.scope.names.lookup z = some .local) (ha : DA X W [a, b, c] ms)
    (hw : swappedStores [.Tuple [.Name x px, .Name y py, .Name z pz] kt pt] (.Tuple [a, b, c] k2 pt2) X.env = pure (some [x, y, z]))
    (hs : swapsWithSole [.Tuple [.Name x px, .Name y py, .Name z pz] kt pt] (.Tuple [a, b, c] k2 pt2) pos.line X.env = pure false) :
    DS X W (.Assign [.Tuple [.Name x px, .Name y py, .Name z pz] kt pt] (.Tuple [a, b, c] k2 pt2) pos) (sPar3 i j l ms) := ps_weak (ps_par3 hc hN hi hj hl hij hil hjl hx hy hz ha hw hs) fun D σ H ⟨g, ρ, st, R, k⟩ => ⟨g, ρ, st, R, (FinS.toS k).imp fun xs H1 ⟨g1, st1, ds, e1, R1, r1, k1⟩ => by
  split at k1
  · obtain ⟨u, v, w, rfl, q1, q2, q3⟩ := r1.three
    exact ⟨u, v, w, rfl, FinS.nxt k1 (((R1.set q1).set q2).set q3)⟩
  · exact k1.elim⟩
/-! ### {} -/
def mDic0 (c : Bool) : ME := fun _ st => if c then .ok (.cell st.length) (st ++ [.dic []]) else .ok (.dic []) st
theorem de_dic0 (c : Bool) : DE X W (.Dict [] [] pos) (mDic0 c) := pe_weak pe_dnewK fun σ H Q ⟨g, ρ, st, R, k⟩ p hp => by
  cases c with
  | true => exact k (g.more p) _ _ (g.more_ext p) (R.more hp ⟨R.fresh hp, [], upd_same, rfl, .nil⟩) (.cell (more_at R p))
  | false => exact k (g.put p (.dK [])) _ _ (R.put_ext hp) (R.put hp) (.dic (kx := []) (xs := []) (.inl G.put_at) rfl rfl rfl .nil)
end
end P3

/-! P3I: enumerate of lists, tuples, texts. -/
namespace P3
open PySem PySem.Spec PyProof.Rows L2
open Sem (wp)
theorem enum_newT (l : Addr) (items : Array Value) (n : Nat) (dct : Option Addr) (sl : Array (Option Value)) :
    Meets (Builtin.«enumerate.__new__» ⟨[.type "enumerate", .ref l], []⟩) (fun _ R s => s.heap.get? l = some { cls := .type "tuple", dict := dct, data := .seq items n, slots := sl } ∧
      R (.ok (.ret (.ref (s.heap.push { cls := .type "tuple_iterator", data := .fields #[.ref l, .int 0 0] }).objs.size)))
        { s with heap := (s.heap.push { cls := .type "tuple_iterator", data := .fields #[.ref l, .int 0 0] }).push { cls := .type "enumerate", data := .fields #[.none, .bool false, .ref s.heap.objs.size, rawInt 0, .none, .none] } }) :=
  .of_wp fun prog w A R s h => by
    obtain ⟨hp, g, d, tk, os⟩ := s; obtain ⟨hl, h⟩ := h
    have hsub := sub_enumerate
    have hL : Heap.IsTuple (Shared.heap ⟨hp, g, d, tk, os⟩) l items := ⟨_, hl, rfl, n, rfl⟩
    wp_walk using AutoSeq1.wpAny_loadPart' hl
    refine wpAny_stack_any fun st => wpAny_pure ?_
    split
    · rename_i c _ _ _ _ _
      cases (c == Value.type "enumerate")
      · wp_walk using AutoSeq1.wpAny_loadPart' hl, wpAny_pyIter_tuple hL
        exact ⟨_, rfl, h⟩
      · wp_walk using AutoSeq1.wpAny_loadPart' hl, wpAny_pyIter_tuple hL
        exact ⟨_, rfl, h⟩
    · wp_walk using AutoSeq1.wpAny_loadPart' hl, wpAny_pyIter_tuple hL
      exact ⟨_, rfl, h⟩
section
variable {prog : Program} {w : World} {A : Around} {E : Value → Shared → Prop} {s : Shared}
theorem call_enumT {l : Addr} {items : Array Value} {Q : Value → Shared → Prop} (hL : s.heap.IsTuple l items)
    (h : ∀ h', IsEnum h' (s.heap.objs.size + 1) s.heap.objs.size 0 .none → h'.IsTupleIter s.heap.objs.size l 0 → h'.objs.size = s.heap.objs.size + 2 →
      (∀ b o, s.heap.get? b = some o → h'.get? b = some o) → Q (.ref (s.heap.objs.size + 1)) { s with heap := h' }) :
    wpAny (model prog w) A (call (.type "enumerate") [.ref l]) Q E s := by
  obtain ⟨⟨c, dct, dt, sl⟩, hl, hc, n, hd⟩ := hL
  replace hc : c = .type "tuple" := hc
  replace hd : dt = .seq items n := hd
  subst hc hd
  refine callType_new F.called_enumerate (by decide) (F.typeCall_enumerate_1 _) (F.newCall_enumerate_1 _) (fun obj => F.args_object_init_2 obj _) F.entry_enumerate_new
    (enum_newT l items n dct sl) ⟨hl, ?_⟩
  have hz : (s.heap.push { cls := .type "tuple_iterator", data := .fields #[.ref l, .int 0 0] }).objs.size = s.heap.objs.size + 1 := Heap.size_push ..
  show _ ∧ _
  rw [hz]
  have he : IsEnum ((s.heap.push { cls := .type "tuple_iterator", data := .fields #[.ref l, .int 0 0] }).push
      { cls := .type "enumerate", data := .fields #[.none, .bool false, .ref s.heap.objs.size, rawInt 0, .none, .none] }) (s.heap.objs.size + 1) s.heap.objs.size 0 .none := by
    have := Heap.get?_push_size (s.heap.push { cls := .type "tuple_iterator", data := .fields #[.ref l, .int 0 0] })
      (o := { cls := .type "enumerate", data := .fields #[.none, .bool false, .ref s.heap.objs.size, rawInt 0, .none, .none] }) rfl
    rw [hz] at this; exact this
  refine ⟨⟨_, he, rfl⟩, h _ he ⟨_, Heap.get?_push_of_some _ (Heap.get?_push_size _ rfl), rfl, rfl⟩ (by rw [Heap.size_push, hz]) fun b o x => Heap.get?_push_of_some _ (Heap.get?_push_of_some _ x)⟩
theorem enum_end {e it : Addr} {i : Int} {old : Value} {Q : Option Value → Shared → Prop} (he : IsEnum s.heap e it i old)
    (hn : ∀ (E' : Value → Shared → Prop), (∀ h' x, Heap.ExtBut it s.heap h' → (∃ o, h'.get? x = some o ∧ o.cls = .type "StopIteration") → E' (.ref x) { s with heap := h' }) → wpAny (model prog w) A.in1 (Builtin.SmallTypes.nextOf (.ref it)) (fun _ _ => False) E' s)
    (hQ : ∀ h', Heap.ExtBut it s.heap h' → Q none { s with heap := h' }) : wpAny (model prog w) A (pyNext (.ref e)) Q E s := by
  have hT : s.TypeIs (.ref e) "enumerate" := ⟨_, he, rfl⟩
  unfold pyNext
  refine wpAny_bind (wpAny_attempt (wpAny_callSpecial?_slot (name := Str.ofString "__next__") hT F.slot_enumerate_next
    (wpAny_call_entry F.slot_enumerate_next hT F.entry_enumerate_next ?_ (F.args_enumerate_next_1 _))))
  show wpAny _ _ (field (.ref e) 2 >>= _) _ _ _
  refine wpAny_bind (wpAny_field he rfl (x := .ref it) rfl ?_)
  refine wpAny_bind (wpAny_mono (hn _ fun h' x he' hx' => ?_) (fun _ _ z => z.elim) fun _ _ z => z)
  obtain ⟨o, ho, hc⟩ := hx'
  refine wpAny_bind (wpAny_isInstance (T := "StopIteration") (b := true) ⟨o, ho, hc⟩ isSubtype_stop ?_)
  exact wpAny_pure (hQ _ he')
end
/-- pairs of a place and what a tuple has there -/
def IteT (K : PySem.W.Frag) (a : Addr) : It :=
  ⟨fun i H => ∃ (xs : List V) (x : V), SqT K H a xs ∧ xs[i]? = some x, fun i H v H' => ∃ T x, v = .ref T ∧ H T = none ∧ H' = upd H T (.tup [.int (i : Nat), x]) ∧ ∀ xs, SqT K H a xs → xs[i]? = some x, fun i H => ∃ xs : List V, SqT K H a xs ∧ xs.length ≤ i⟩
def IteS (z : Str) : It :=
  ⟨fun i H => i < z.cps.size, fun i H v H' => ∃ T c, v = .ref T ∧ H T = none ∧ H' = upd H T (.tup [.int (i : Nat), .str ⟨#[c]⟩]) ∧ z.cps[i]? = some c, fun i H => z.cps.size ≤ i⟩
theorem turn_enumT {P : Program} {w : World} {K : PySem.W.Frag} {elts : List Expr} {kk : Nat} {tpos : Pos} (a e it : Addr) :
    Turn P w K (.Tuple elts kk tpos) (IteT K a) [e, it] e (fun i h => (∃ old, IsEnum h e it ((i : Nat) : Int) old) ∧ h.IsTupleIter it a i ∧ e ≠ it ∧ a ≠ it ∧ a ≠ e) where
  mem := by simp
  obj := fun i h st b hb => by
    obtain ⟨⟨old, he⟩, ⟨o, ho, hc, hd⟩, _⟩ := st
    have e' : b = e ∨ b = it := by simpa using hb
    rcases e' with z | z
    · rw [z]; exact ⟨_, he, fun v q => nomatch q⟩
    · rw [z]; exact ⟨o, ho, fun v q => by rw [hd] at q; cases q⟩
  keep := fun i h h' st k => let ⟨⟨old, he⟩, hi, hne⟩ := st; ⟨⟨old, k e (by simp) _ he⟩, hi.at fun o q => k it (by simp) o q, hne⟩
  item := by
    intro X hP hw hK hc i pins s σ H E I hf st hg
    subst hP hw hK
    obtain ⟨⟨old, he⟩, hit, hne, hai, hae⟩ := st
    obtain ⟨xs, x, hq, hx⟩ := hg
    obtain ⟨its, rv, p, hz⟩ := I.tuple hq
    obtain ⟨u, hu, ru⟩ := rv.get hx
    have hel : e < s.heap.objs.size := Heap.lt_size he
    have hil : it < s.heap.objs.size := by obtain ⟨_, q, _⟩ := hit; exact Heap.lt_size q
    have hlt : i < its.toArray.size := by
      have := (List.getElem?_eq_some_iff.mp hu).1
      simpa using this
    have hT0 : s.heap.IsTuple a its.toArray := p
    refine wpAny_pyNext_enum_itemD (Draws.tuple (prog := X.prog) (w := X.w) (A := X.A.in1) (show X.A.in1.handled = none from I.ok.hd hc) it a hai its.toArray) he ⟨hit, hT0⟩ hlt hne (by simp; exact ⟨hne, fun q => hae q.symm⟩) fun y h' tk hy ho hst hT hsz hk => ?_
    obtain rfl : y = u := by
      have q : its.toArray[i]? = some y := hy
      rw [List.getElem?_toArray, hu] at q
      exact (Option.some.inj q).symm
    refine ⟨_, rfl, wpAny_letOwnedTupleGo_enum (s := { s with heap := h', toks := tk + 1 }) ho fun h'' he' sb => ?_⟩
    have hT2 : h''.get? s.heap.objs.size = some { cls := .type "tuple", data := .seq #[.int i tk, y] } := (sb.2 _ (Nat.ne_of_gt hel)).trans hT
    have new : ObjOk X.prog X.w (upd H s.heap.objs.size (.tup [.int (i : Nat), x])) h'' s.heap.objs.size (.tup [.int (i : Nat), x]) :=
      ⟨by show 2 ≤ sizeLine; decide, [.int i tk, y], .cons ⟨_, rfl⟩ (.cons ru .nil), ⟨_, hT2, rfl, _, rfl⟩⟩
    have I1 : Inv X pins σ (upd H s.heap.objs.size (.tup [.int (i : Nat), x])) { s with heap := h'', toks := tk + 1 } :=
      I.turnedNew (ch := [e, it]) (fun b ob hb q => (sb.2 b (fun z => hb (by simp [z]))).trans (hk b ob (fun z => hb (by simp [z])) (fun z => hb (by simp [z])) q)) hf (Nat.le_refl _) new
    refine ⟨.ref s.heap.objs.size, _, I1, rfl, ⟨_, x, rfl, I.hok.fresh (Nat.le_refl _), rfl, fun ys hy => by rw [I.tuple_inj hy hq]; exact hx⟩, ⟨⟨y, ?_⟩, hst.1.at fun o q => (sb.2 it (Ne.symm hne)).trans q, hne, hai, hae⟩, fun b hb => ?_⟩
    · have e1 : ((i + 1 : Nat) : Int) = (i : Int) + 1 := by omega
      rw [e1]; exact he'
    · have hb' : b < s.heap.objs.size := by
        have e' : b = e ∨ b = it := by simpa using hb
        rcases e' with z | z
        · rw [z]; exact hel
        · rw [z]; exact hil
      rw [upd_ne (Nat.ne_of_lt hb')]
      exact (hf b hb).1
  done := by
    intro X hP hw hK hc i pins s σ H E I hf st hg
    subst hP hw hK
    obtain ⟨⟨old, he⟩, hit, hne, hai, hae⟩ := st
    obtain ⟨xs, hq, hx⟩ := hg
    obtain ⟨its, rv, p, hz⟩ := I.tuple hq
    obtain ⟨f0, f1, f2, f3, f4, f5⟩ := hf it (by simp)
    have hl := rv.length
    have hT0 : s.heap.IsTuple a its.toArray := p
    exact enum_end he (fun E' q => wpAny_nextOf_tuple_end (A := X.A.in1) (show X.A.in1.handled = none from I.ok.hd hc) hit hT0 (by simp; omega) q) fun h' eb => ⟨rfl, I.turned (t' := s.toks) (fun b o hb q => eb b o hb q) f0 f1 f3 f4 f5⟩
  self := fun A i s Q E st h => let ⟨⟨_, he⟩, _⟩ := st; wpAny_pyIter_enum he h
theorem turn_enumS {P : Program} {w : World} {K : PySem.W.Frag} {elts : List Expr} {kk : Nat} {tpos : Pos} (z : Str) (t : Tok) (e it : Addr) :
    Turn P w K (.Tuple elts kk tpos) (IteS z) [e, it] e (fun i h => (∃ old, IsEnum h e it ((i : Nat) : Int) old) ∧ h.IsStrIter it (strIterType z) z t i ∧ e ≠ it) where
  mem := by simp
  obj := fun i h st b hb => by
    obtain ⟨⟨old, he⟩, ⟨o, ho, hc, hd⟩, _⟩ := st
    have e' : b = e ∨ b = it := by simpa using hb
    rcases e' with z | z
    · rw [z]; exact ⟨_, he, fun v q => nomatch q⟩
    · rw [z]; exact ⟨o, ho, fun v q => by rw [hd] at q; cases q⟩
  keep := fun i h h' st k => let ⟨⟨old, he⟩, ⟨o, ho, r⟩, hne⟩ := st; ⟨⟨old, k e (by simp) _ he⟩, ⟨o, k it (by simp) o ho, r⟩, hne⟩
  item := by
    intro X hP hw hK hc i pins s σ H E I hf st hg
    subst hP hw hK
    obtain ⟨⟨old, he⟩, hit, hne⟩ := st
    have hlt : i < z.cps.size := hg
    have hel : e < s.heap.objs.size := Heap.lt_size he
    have hil : it < s.heap.objs.size := by obtain ⟨_, q, _⟩ := hit; exact Heap.lt_size q
    refine wpAny_pyNext_enum_itemD (Draws.text (prog := X.prog) (w := X.w) (A := X.A.in1) (show X.A.in1.handled = none from I.ok.hd hc) it z t) he hit hlt hne (by simpa using hne) fun y h' tk hy ho hst hT hsz hk => ?_
    obtain ⟨c, u, hc2, rfl⟩ := hy
    refine ⟨_, rfl, wpAny_letOwnedTupleGo_enum (s := { s with heap := h', toks := tk + 1 }) ho fun h'' he' sb => ?_⟩
    have hT2 : h''.get? s.heap.objs.size = some { cls := .type "tuple", data := .seq #[.int i tk, .str ⟨#[c]⟩ u] } := (sb.2 _ (Nat.ne_of_gt hel)).trans hT
    have new : ObjOk X.prog X.w (upd H s.heap.objs.size (.tup [.int (i : Nat), .str ⟨#[c]⟩])) h'' s.heap.objs.size (.tup [.int (i : Nat), .str ⟨#[c]⟩]) :=
      ⟨by show 2 ≤ sizeLine; decide, [.int i tk, .str ⟨#[c]⟩ u], .cons ⟨_, rfl⟩ (.cons ⟨_, rfl⟩ .nil), ⟨_, hT2, rfl, _, rfl⟩⟩
    have I1 : Inv X pins σ (upd H s.heap.objs.size (.tup [.int (i : Nat), .str ⟨#[c]⟩])) { s with heap := h'', toks := tk + 1 } :=
      I.turnedNew (ch := [e, it]) (fun b ob hb q => (sb.2 b (fun z => hb (by simp [z]))).trans (hk b ob (fun z => hb (by simp [z])) (fun z => hb (by simp [z])) q)) hf (Nat.le_refl _) new
    refine ⟨.ref s.heap.objs.size, _, I1, rfl, ⟨_, c, rfl, I.hok.fresh (Nat.le_refl _), rfl, hc2⟩, ⟨⟨.str ⟨#[c]⟩ u, ?_⟩, ?_, hne⟩, fun b hb => ?_⟩
    · have e1 : ((i + 1 : Nat) : Int) = (i : Int) + 1 := by omega
      rw [e1]; exact he'
    · obtain ⟨o, ho2, r⟩ := hst
      exact ⟨o, (sb.2 it (Ne.symm hne)).trans ho2, r⟩
    · have hb' : b < s.heap.objs.size := by
        have e' : b = e ∨ b = it := by simpa using hb
        rcases e' with z | z
        · rw [z]; exact hel
        · rw [z]; exact hil
      rw [upd_ne (Nat.ne_of_lt hb')]
      exact (hf b hb).1
  done := by
    intro X hP hw hK hc i pins s σ H E I hf st hg
    subst hP hw hK
    obtain ⟨⟨old, he⟩, hit, hne⟩ := st
    have hx : z.cps.size ≤ i := hg
    obtain ⟨f0, f1, f2, f3, f4, f5⟩ := hf it (by simp)
    refine enum_end he (fun E' q => ?_) fun h' eb => ⟨rfl, I.turned (t' := s.toks) (fun b o hb q => eb b o hb q) f0 f1 f3 f4 f5⟩
    cases ha : z.cps.all (· < 128)
    · have hit' : s.heap.IsStrIter it "str_iterator" z t i := by simpa [strIterType, ha] using hit
      exact wpAny_nextOf_wide_end (A := X.A.in1) (show X.A.in1.handled = none from I.ok.hd hc) hit' (by simp; omega) q
    · have hit' : s.heap.IsStrIter it "str_ascii_iterator" z t i := by simpa [strIterType, ha] using hit
      exact wpAny_nextOf_ascii_end (A := X.A.in1) (show X.A.in1.handled = none from I.ok.hd hc) hit' (by simp; omega) q
  self := fun A i s Q E st h => let ⟨⟨_, he⟩, _⟩ := st; wpAny_pyIter_enum he h
/-! ### by trees -/
def srcEn (S : Src) : Src := ⟨fun i st => (S.nxt i st).map (·.map fun x => D.tup [.int i, x]), S.fuel⟩
def iEnumD (m : ME) : MI := fun ρ st => (m ρ st).bind fun d st => (srcOf d st).bind fun S st => .ok (srcEn S) st
theorem en_none {S : Src} {i : Nat} {st : Sto} (h : (srcEn S).nxt i st = some none) : S.nxt i st = some none := by
  have h : (S.nxt i st).map (·.map fun x => D.tup [.int i, x]) = some none := h
  cases q : S.nxt i st with
  | none => rw [q] at h; cases h
  | some o =>
    rw [q] at h
    cases o with
    | none => rfl
    | some x => cases h
theorem en_some {S : Src} {i : Nat} {st : Sto} {x : D} (h : (srcEn S).nxt i st = some (some x)) : ∃ y, S.nxt i st = some (some y) ∧ x = .tup [.int i, y] := by
  have h : (S.nxt i st).map (·.map fun x => D.tup [.int i, x]) = some (some x) := h
  cases q : S.nxt i st with
  | none => rw [q] at h; cases h
  | some o =>
    rw [q] at h
    cases o with
    | none => cases h
    | some y => cases h; exact ⟨y, rfl, rfl⟩
theorem ok_en {K : PySem.W.Frag} {g0 : G} {S : Src} {J J' : It} (ok : SrcOk K g0 S J) (hs : ∀ i H, J.stop i H → J'.stop i H) (hg : ∀ i H, J.go i H → J'.go i H)
    (hy : ∀ i H v H', J.go i H → J'.yld i H v H' → ∃ T x, v = .ref T ∧ H T = none ∧ H' = upd H T (.tup [.int (i : Nat), x]) ∧ J.yld i H x H) : SrcOk K g0 (srcEn S) J' := by
  intro g σ H ρ st i e R
  obtain ⟨o1, o2⟩ := ok g σ H ρ st i e R
  refine ⟨fun h => hs i H (o1 (en_none h)), fun x h => ?_⟩
  obtain ⟨y, h1, rfl⟩ := en_some h
  obtain ⟨q1, q2⟩ := o2 y h1
  refine ⟨hg i H q1, fun v H' z => ?_⟩
  obtain ⟨T, u, rfl, hT, rfl, hu⟩ := hy i H v H' q1 z
  obtain ⟨g1, e1, R1, r1⟩ := q2 u H hu
  refine ⟨g1.put T (.tup [.int (i : Nat), u]), e1.trans (R1.put_ext hT), R1.put hT, .tup (.inl G.put_at) (.cons (.int _) (.cons (r1.mono (R1.put_ext hT)) .nil))⟩
section
variable {X : Cx} {W : WX} {e : Expr} {elts : List Expr} {kk : Nat} {p pos tpos : Pos} {m : ME}
theorem di_enum (hg : Gl X "enumerate") (hm : X.mg "enumerate" = none) (he : DE X W e m) (hs : starEach [e] X.env = [(false, eval e X.env)]) : DI X W (.Tuple elts kk tpos) (.Call (.Name "enumerate" p) [e] [] pos) (iEnumD m) := by
  refine ⟨fun pins s σ H R0 I h => ?_⟩
  refine Call_ (ld_blt I hg hm boot_enumerate (PyProof.Rows.callWith_type1 (thn ((da_cons he da_nil hs).run pos pins s σ H (fun xs H1 => ∃ g ρ st d, Rl X.K g σ H1 ρ st ∧ RdL X.K g [d] xs ∧ FinG X.K X.mg W (fun g S J => SrcOk X.K g S J) g σ ρ ((srcOf d st).bind fun S st => .ok (srcEn S) st) R0) I ?_) fun us s1 ⟨vs, H1, I1, r1, g, ρ, st, d, R, rd, k⟩ => ?_) hs rfl))
  · obtain ⟨g, ρ, st, R, k⟩ := h
    refine ⟨g, ρ, st, R, ?_⟩
    unfold iEnumD at k
    unfold mCons mNil
    cases hmr : m ρ st with
    | ok d st1 =>
      rw [hmr] at k
      exact fun g' H' b e' R' r => ⟨g', ρ, st1, d, R', r, FinG.ext k e'⟩
    | exc c n d st1 => rw [hmr] at k; exact k
    | stuck => rw [hmr] at k; exact k
  · obtain ⟨x, rfl, r⟩ := rd.one
    unfold srcOf at k
    cases r1 with
    | @cons _ u _ _ rv rr =>
      cases rr
      have hle2 : ∀ {b : Addr}, b ∈ [s1.heap.objs.size + 1, s1.heap.objs.size] → s1.heap.objs.size ≤ b := fun {b} hb => by
        have e' : b = s1.heap.objs.size + 1 ∨ b = s1.heap.objs.size := by simpa using hb
        rcases e' with z | z
        · rw [z]; exact Nat.le_add_right _ _
        · rw [z]; exact Nat.le_refl _
      split at k
      · rename_i l hl
        obtain ⟨a, xs, ex, e1, q1⟩ := at_lst R r hl
        have ex' : x = .ref a := ex
        subst ex'
        obtain rfl : u = Value.ref a := rv
        have hq : SqL X.K H1 a xs := .inl (.inl e1)
        obtain ⟨its, rvs, p', hz⟩ := I1.list hq
        refine call_enumerate_list p'.isList fun h' he hit hsz hk => wpAny_pyIter_enum he ?_
        have I2 : Inv X pins σ H1 { s1 with heap := h' } := I1.kept (t' := s1.toks) hk
        refine ⟨s1.heap.objs.size + 1, [s1.heap.objs.size + 1, s1.heap.objs.size], _, _, H1, rfl, I2, turn_enum a (s1.heap.objs.size + 1) s1.heap.objs.size, ⟨⟨.none, he⟩, hit, Nat.succ_ne_self _⟩, fun b hb => I1.fpOk (hle2 hb) (I1.hok.fresh (hle2 hb)), ?_⟩
        exact k g H1 _ (Ext.refl g) R (ok_en (ok_srcL r) (fun i H q => q) (fun i H q => q) fun i H v H' _ z => by
          obtain ⟨T, y, rfl, hT, rfl, hy⟩ := z
          exact ⟨T, y, rfl, hT, rfl, rfl, hy⟩)
      · rename_i l hl
        obtain ⟨a, xs, ex, e1, q1⟩ := at_tup r hl
        have ex' : x = .ref a := ex
        subst ex'
        obtain rfl : u = Value.ref a := rv
        obtain ⟨its, rvs, p', hz⟩ := I1.tuple (stu_sq R.im e1)
        have p2 : s1.heap.IsTuple a its.toArray := p'
        have hal : a < s1.heap.objs.size := by obtain ⟨_, q, _⟩ := p2; exact Heap.lt_size q
        refine call_enumT p2 fun h' he hit hsz hk => wpAny_pyIter_enum he ?_
        have I2 : Inv X pins σ H1 { s1 with heap := h' } := I1.kept (t' := s1.toks) hk
        refine ⟨s1.heap.objs.size + 1, [s1.heap.objs.size + 1, s1.heap.objs.size], _, _, H1, rfl, I2, turn_enumT a (s1.heap.objs.size + 1) s1.heap.objs.size, ⟨⟨.none, he⟩, hit, Nat.succ_ne_self _, Nat.ne_of_lt hal, Nat.ne_of_lt (Nat.lt_succ_of_lt hal)⟩, fun b hb => I1.fpOk (hle2 hb) (I1.hok.fresh (hle2 hb)), ?_⟩
        exact k g H1 _ (Ext.refl g) R (ok_en (ok_srcT e1 q1) (fun i H q => q) (fun i H q => q) fun i H v H' _ z => by
          obtain ⟨T, y, rfl, hT, rfl, hy⟩ := z
          exact ⟨T, y, rfl, hT, rfl, rfl, hy⟩)
      · rename_i z hz
        obtain rfl := at_str r hz
        obtain ⟨t, rfl⟩ : ∃ t, u = Value.str z t := rv
        refine call_enumerate_str fun h' he hit hsz hk => wpAny_pyIter_enum he ?_
        have I2 : Inv X pins σ H1 { s1 with heap := h' } := I1.kept (t' := s1.toks) hk
        refine ⟨s1.heap.objs.size + 1, [s1.heap.objs.size + 1, s1.heap.objs.size], _, _, H1, rfl, I2, turn_enumS z t (s1.heap.objs.size + 1) s1.heap.objs.size, ⟨⟨.none, he⟩, hit, Nat.succ_ne_self _⟩, fun b hb => I1.fpOk (hle2 hb) (I1.hok.fresh (hle2 hb)), ?_⟩
        exact k g H1 _ (Ext.refl g) R (ok_en ok_srcZ (fun i H q => q) (fun i H q => q) fun i H v H' _ w => by
          obtain ⟨T, c, rfl, hT, rfl, hc⟩ := w
          exact ⟨T, _, rfl, hT, rfl, rfl, c, hc, rfl⟩)
      · exact k.elim
end
end P3

/-! P3J: more calls (by names alone, of a variable that holds a def), more methods of lists. -/
namespace P3
open PySem PySem.Spec PyProof.Rows L2
section
variable {X : Cx} {W : WX} {e : Expr} {es : List Expr} {ks : List Keyword} {nm : Option Str} {kpos pos p : Pos} {m : ME} {ms mk : MEs} {x : Str} {a : Addr} {fd : FuncData} {ps : List Str} {f : Fn} {k : Nat} {S : Sig}
/-- f(k = v, ..) -/
theorem de_callK0 (F : Fk X.prog X.w X.K X.mg X.base k a fd ps f) (hr : Room k X.A) (gd : X.A.guards = some []) (tk : Takes X W) (hg : Gl X x) (hm : X.mg x = some (.ref a)) (hk : PySem.W.keepIn X.K (.ref a) = true) (B : SigOk X.K fd ps S)
    (h0 : S.n = 0) (hkw : DK X W ks mk) (hl2 : Len S.ks.length mk) (hall : (backToKw pos (keywordEach ks X.env)).all (·.1.isSome) = true) (hks : (backToKw pos (keywordEach ks X.env)).filterMap (·.1) = S.ks)
    (hdb : (x == ("__debug__" : Str)) = false)
    (hpl : ((backTo pos (starEach [] X.env)).any (·.1) || (backToKw pos (keywordEach ks X.env)).any (·.1.isNone)) = false) : DE X W (.Call (.Name x p) [] ks pos) (mKw mNil mk f S) := by
  refine ⟨fun pins s σ H Q I h => ?_⟩
  obtain ⟨g, ρ, st, R, q⟩ := h
  have q : FinG X.K X.mg W (pD X.K) g σ ρ ((mk ρ st).bind fun es st => f (pick ([] ++ es ++ S.ds0) S.ix) st) Q := q
  obtain ⟨us0, vs0, r0, rd0, hb⟩ := B.ex
  refine wpAny_Call_Name_kw (ld_glob I hg hm ?_ hdb)
  refine PySem.W.callWith_KW0 (h₀ := X.base) I.ok.mod.kin hk hall ?_ hpl
  refine thn (hkw.run pos pins s σ H _ I ⟨g, ρ, st, R, len_bind hl2 q⟩) fun ws s2 ⟨zs, H2, I2, rz, g2, st2, es2, e2, R2, rd2, hes, q2⟩ => ⟨I2.kIn, ?_⟩
  rw [hks]
  have hlw : ws.length = S.ks.length := by rw [← rz.length, ← rd2.length, hes]
  have rdall := ((RdL.nil (K := X.K) (g := g2)).append rd2).append (rd0 g2)
  refine wpAny_call (codeAny_mono (fk_run (vs := pick ([] ++ zs ++ vs0) S.ix) F hr gd tk I2 R2 (hb s2 [] ws I2.kIn h0.symm hlw) (pick_vals (((show Vals [] [] from .nil).append rz).append r0) _) ?_ (pick_rd rdall _) q2) fun r s' hq => ?_)
  · rw [pick_len fun i hi => ?_, B.len]
    have := B.lt i hi
    rw [← rdall.length, List.length_append, List.length_append, hes]
    rw [h0] at this
    simpa using this
  · cases r with
    | error e => exact hq
    | ok fl =>
      cases fl with
      | ret u => exact hq
      | next => exact False.elim hq
      | brk => exact False.elim hq
      | cont => exact False.elim hq
/-- v(e, ..), v a variable that holds a def; tab: the defs, with how many parameters -/
def mCallV (tab : List (Str × Nat × Fn)) (i : Nat) (n : Nat) (ms : MEs) : ME := fun ρ st => match ρ[i]? with
  | some (some (.code x)) => match tab.lookup x with
    | some (np, f) => if np = n then (ms ρ st).bind f else .stuck
    | none => .stuck
  | _ => .stuck
/-- what is known of each def of the table -/
structure TabV (P : Program) (w : World) (K : PySem.W.Frag) (mg : MG) (base : Heap) (k : Nat) (tab : List (Str × Nat × Fn)) : Prop where
  ats : ∀ x np f, tab.lookup x = some (np, f) → ∀ a, PySem.W.nsIn K mainGlobals x = some (some (.ref a)) → ∃ fd ps, PySem.W.keepIn K (.ref a) = true ∧ Fk P w K mg base k a fd ps f ∧ ps.length = np ∧ ∀ (s : Shared) (us : List Value), K.In s.heap → us.length = ps.length → BindsTo s fd ⟨us, []⟩ (ps.zip us)
theorem de_callV {i : Nat} {tab : List (Str × Nat × Fn)} (T : TabV X.prog X.w X.K X.mg X.base k tab) (hr : Room k X.A) (gd : X.A.guards = some []) (tk : Takes X W) (hN : X.N[i]? = some x) (hv : Vis X.env.scope x) (ha : DA X W (e :: es) ms) (hl : Len (e :: es).length ms)
    (hd : (x == ("__debug__" : Str)) = false) (hcd : (x == ("__classdict__" : Str)) = false) (he : starEach (e :: es) X.env = (false, eval e X.env) :: starEach es X.env) (hpl : (backTo pos (starEach es X.env)).any (·.1) = false) :
    DE X W (.Call (.Name x p) (e :: es) [] pos) (mCallV tab i (e :: es).length ms) := by
  refine ⟨fun pins s σ H Q I h => ?_⟩
  obtain ⟨g, ρ, st, R, q⟩ := h
  unfold mCallV at q
  split at q
  · rename_i y hy
    split at q
    · rename_i np f hf
      by_cases hn : np = (e :: es).length
      · rw [if_pos hn] at q
        obtain ⟨v, hv1, rv⟩ := R.sl i _ hy
        cases rv with
        | @code _ a hns =>
          obtain ⟨fd, ps, kp, F, hlp, hb⟩ := T.ats _ _ _ hf a hns
          refine wpAny_Call_Name_kw (thn ((pe_var (pos := p) hN hv hd hcd).run pins s σ H (fun v H1 => v = .ref a ∧ H1 = H) I ⟨.ref a, hv1, rfl, rfl⟩) fun u s1 ⟨v, H1, I1, r1, q1⟩ => ?_)
          obtain ⟨rfl, rfl⟩ := q1
          obtain rfl : u = Value.ref a := r1
          rw [← hn, ← hlp] at hl
          refine PySem.W.callWith_K (h₀ := X.base) I.ok.mod.kin kp (thn (ha.run pos pins s1 σ _ _ I1 ⟨g, ρ, st, R, len_bind hl q⟩) fun us s2 ⟨vs, H2, I2, rv, g1, st1, ds, e1, R1, rd, hds, q1⟩ => ⟨I2.kIn, ?_⟩) he hpl
          have hlu : us.length = ps.length := by rw [← rv.length, ← rd.length, hds]
          refine wpAny_call (codeAny_mono (fk_run (vs := vs) F hr gd tk I2 R1 (hb s2 us I2.kIn hlu) rv (by rw [rv.length, hlu]) rd q1) fun r s' hq => ?_)
          cases r with
          | error e => exact hq
          | ok fl =>
            cases fl with
            | ret u => exact hq
            | next => exact False.elim hq
            | brk => exact False.elim hq
            | cont => exact False.elim hq
      · rw [if_neg hn] at q
        exact q.elim
    · exact q.elim
  · exact q.elim
/-! ### == and != of what holds cells -/
def pyR (x : D) (st : Sto) : Option PyData := (x.sub 0 (frzF st 0 8)).bind pyD
theorem dp_res {K : PySem.W.Frag} {g : G} {σ : L2.St} {H : Hp} {ρ : Ro} {st : Sto} {d : D} {v : V} {p : PyData} (R : Rl K g σ H ρ st) (r : Rd K g d v) (h : pyR d st = some p) : Dp K H v p := by
  unfold pyR at h
  rw [Option.bind_eq_some_iff] at h
  obtain ⟨d', h1, h2⟩ := h
  obtain ⟨RT, him, hph, hfr⟩ := R.bare.freeze (Nat.zero_le _) (fun i _ hi _ => absurd hi (Nat.not_lt_zero i))
  exact dp_of RT.im (sub_rd him hph (fun i a d hi ha hf => hfr 8 i a d hi ha hf) h1 r) h2
def fEqR (x y : D) (st : Sto) : Res D := match pyR x st, pyR y st with
  | some d, some e => if SeqAt.shaped d = true ∧ SeqAt.shaped e = true then .ok (.bl (PyData.eqv d e)) st else .stuck
  | _, _ => .stuck
def fNeR (x y : D) (st : Sto) : Res D := match pyR x st, pyR y st with
  | some d, some e => if SeqAt.shaped d = true ∧ SeqAt.shaped e = true then .ok (.bl (!PyData.eqv d e)) st else .stuck
  | _, _ => .stuck
def fEqX (x y : D) (st : Sto) : Res D := match eqLen (view x st) (view y st) with
  | some b => .ok (.bl b) st
  | none => match pyD (view x st), pyD (view y st) with
    | some d, some e => if SeqAt.shaped d = true ∧ SeqAt.shaped e = true then .ok (.bl (PyData.eqv d e)) st else .stuck
    | _, _ => fEqR x y st
def fNe (x y : D) (st : Sto) : Res D := match pyD (view x st), pyD (view y st) with
  | some d, some e => if SeqAt.shaped d = true ∧ SeqAt.shaped e = true then .ok (.bl (!PyData.eqv d e)) st else .stuck
  | _, _ => fNeR x y st
theorem od_eqR (hu : X.A.units + 64 < cLine) : OpD X W (compareOp .Eq) fEqR := by
  intro pins s σ H g ρ st x y v u dx dy Q I R rx ry r1 r2 k
  unfold fEqR at k
  split at k
  · rename_i d e h1 h2
    by_cases hl : SeqAt.shaped d = true ∧ SeqAt.shaped e = true
    · rw [if_pos hl] at k
      exact op_eqD hu pins s σ H _ _ v u Q I rx ry ⟨d, e, dp_res R r1 h1, dp_res R r2 h2, hl.1, hl.2, FinG.now k R (.bl _)⟩
    · rw [if_neg hl] at k
      exact k.elim
  · exact k.elim
theorem od_neR (hu : X.A.units + 64 < cLine) : OpD X W (compareOp .NotEq) fNeR := by
  intro pins s σ H g ρ st x y v u dx dy Q I R rx ry r1 r2 k
  unfold fNeR at k
  split at k
  · rename_i d e h1 h2
    by_cases hl : SeqAt.shaped d = true ∧ SeqAt.shaped e = true
    · rw [if_pos hl] at k
      exact op_neD hu pins s σ H _ _ v u Q I rx ry ⟨d, e, dp_res R r1 h1, dp_res R r2 h2, hl.1, hl.2, FinG.now k R (.bl _)⟩
    · rw [if_neg hl] at k
      exact k.elim
  · exact k.elim
theorem od_ne (hu : X.A.units + 64 < cLine) : OpD X W (compareOp .NotEq) fNe := by
  intro pins s σ H g ρ st x y v u dx dy Q I R rx ry r1 r2 k
  unfold fNe at k
  split at k
  · rename_i d e h1 h2
    refine od_ne0 (W := W) hu pins s σ H g ρ st x y v u dx dy Q I R rx ry r1 r2 ?_
    unfold fNe0
    rw [h1, h2]
    exact k
  · exact od_neR (W := W) hu pins s σ H g ρ st x y v u dx dy Q I R rx ry r1 r2 k
theorem od_eqX (hu : X.A.units + 64 < cLine) : OpD X W (compareOp .Eq) fEqX := by
  intro pins s σ H g ρ st x y v u dx dy Q I R rx ry r1 r2 k
  unfold fEqX at k
  split at k
  · rename_i b h
    refine od_eqX0 (W := W) hu pins s σ H g ρ st x y v u dx dy Q I R rx ry r1 r2 ?_
    unfold fEqX0
    rw [h]
    exact k
  · rename_i h
    split at k
    · rename_i d e h1 h2
      refine od_eqX0 (W := W) hu pins s σ H g ρ st x y v u dx dy Q I R rx ry r1 r2 ?_
      unfold fEqX0
      rw [h]
      show FinG _ _ _ _ _ _ _ (fEq dx dy st) _
      unfold fEq
      rw [h1, h2]
      exact k
    · exact od_eqR (W := W) hu pins s σ H g ρ st x y v u dx dy Q I R rx ry r1 r2 k
/-! ### methods of lists that are cells -/
def onCell (x : D) (st : Sto) (f : Nat → List D → Res D) : Res D := match x with
  | .cell i => match st[i]? with
    | some (.lst l) => f i l
    | _ => .stuck
  | _ => .stuck
theorem on_cell {K : PySem.W.Frag} {mg : MG} {W : WX} {g : G} {σ : L2.St} {H : Hp} {ρ : Ro} {st : Sto} {x : D} {v : V} {f : Nat → List D → Res D} {P : G → D → V → Prop} {Q : V → Hp → Prop} (R : Rl K g σ H ρ st) (r : Rd K g x v) (q : FinG K mg W P g σ ρ (onCell x st f) Q) :
    ∃ i a l xs, v = .ref a ∧ x = .cell i ∧ g.ph[i]? = some a ∧ st[i]? = some (.lst l) ∧ g.im a = none ∧ H a = some (.lst xs) ∧ RdL K g l xs ∧ FinG K mg W P g σ ρ (f i l) Q := by
  unfold onCell at q
  split at q
  · rename_i i
    split at q
    · rename_i l hl
      cases r with
      | @cell _ a h1 =>
        obtain ⟨n, xs, e1, q1⟩ := R.cell i a _ h1 hl
        exact ⟨i, a, l, xs, rfl, rfl, h1, hl, n, e1, q1, q⟩
    · exact q.elim
  · exact q.elim
def fReverse (x : D) (ds : List D) (st : Sto) : Res D := match ds with
  | [] => onCell x st fun i l => .ok .non (st.set i (.lst l.reverse))
  | _ => .stuck
theorem blwL_reverse (n : Nat) (l : List D) : blwL n l.reverse = blwL n l := by
  rw [Bool.eq_iff_iff, blwL_iff, blwL_iff]
  simp
theorem md_reverse : MtD X W "list.reverse" fReverse := mt_weak mt_reverse fun x xs H Q ⟨g, σ, ρ, st, d, ds, R, r0, r, k⟩ => by
  unfold fReverse at k
  split at k
  · cases r
    obtain ⟨i, a, l, ys, rfl, rfl, h1, h2, n, e1, q1, k⟩ := on_cell R r0 k
    refine ⟨a, ys, rfl, rfl, e1, ?_⟩
    exact k g _ _ (Ext.refl g) (R.write h1 h2 n ⟨n, _, upd_same, q1.reverse⟩) .non
  · exact k.elim
def fClear (x : D) (ds : List D) (st : Sto) : Res D := match ds with
  | [] => onCell x st fun i _ => .ok .non (st.set i (.lst []))
  | _ => .stuck
theorem md_clear : MtD X W "list.clear" fClear := mt_weak mt_clear fun x xs H Q ⟨g, σ, ρ, st, d, ds, R, r0, r, k⟩ => by
  unfold fClear at k
  split at k
  · cases r
    obtain ⟨i, a, l, ys, rfl, rfl, h1, h2, n, e1, q1, k⟩ := on_cell R r0 k
    refine ⟨a, ys, rfl, rfl, e1, ?_⟩
    exact k g _ _ (Ext.refl g) (R.write h1 h2 n ⟨n, _, upd_same, .nil⟩) .non
  · exact k.elim
def fPop (x : D) (ds : List D) (st : Sto) : Res D := match ds with
  | [] => onCell x st fun i l => match l[l.length - 1]? with
    | some d => .ok d (st.set i (.lst l.dropLast))
    | none => .stuck
  | _ => .stuck
theorem RdL.dropLast {K : PySem.W.Frag} {g : G} {ds : List D} {vs : List V} (r : RdL K g ds vs) : RdL K g ds.dropLast vs.dropLast := by
  rw [List.dropLast_eq_take, List.dropLast_eq_take, r.length]
  exact r.take _
theorem blwL_take {n : Nat} {l : List D} (k : Nat) (h : blwL n l = true) : blwL n (l.take k) = true := by
  rw [blwL_iff] at h ⊢
  exact fun d hd => h d (List.mem_of_mem_take hd)
theorem md_pop : MtD X W "list.pop" fPop := mt_weak mt_pop fun x xs H Q ⟨g, σ, ρ, st, d, ds, R, r0, r, k⟩ => by
  unfold fPop at k
  split at k
  · cases r
    obtain ⟨i, a, l, ys, rfl, rfl, h1, h2, n, e1, q1, k⟩ := on_cell R r0 k
    split at k
    · rename_i d hd
      rw [q1.length] at hd
      obtain ⟨y, hy, ry⟩ := q1.get hd
      refine ⟨a, ys, y, rfl, rfl, e1, hy, ?_⟩
      exact k g _ _ (Ext.refl g) (R.write h1 h2 n ⟨n, _, upd_same, q1.dropLast⟩) ry
    · exact k.elim
  · exact k.elim
end
end P3

/-! P3P: displays of dicts whose values are constants and variables. -/
namespace P3
open PySem PySem.Spec PyProof.Rows L2
inductive At where
  | c (k : Const) | v (i : Nat)
def constD : Const → Option D
  | .none => some .non
  | .bool b => some (.bl b)
  | .int i => some (.int i)
  | .str s => some (.str s)
  | _ => none
def At.get (ρ : Ro) : At → Option D
  | .c k => constD k
  | .v i => match ρ[i]? with
    | some (some d) => some d
    | _ => none
def getAts (ρ : Ro) : List (Key × At) → Option (List (Key × D))
  | [] => some []
  | (k, a) :: l => match a.get ρ, getAts ρ l with
    | some d, some ds => some ((k, d) :: ds)
    | _, _ => none
def mkD (cell : Bool) (kds : List (Key × D)) (st : Sto) : Res D := if cell then .ok (.cell st.length) (st ++ [.dic kds]) else .ok (.dic kds) st
def mDisp (cell : Bool) (l : List (Key × At)) : ME := fun ρ st => match getAts ρ l with
  | some kds => mkD cell kds st
  | none => .stuck
def constV : Const → V
  | .bool b => .bl b
  | .int i => .int i
  | .str s => .str s
  | _ => .non
def At.te : At → TE
  | .c k => tC (constV k)
  | .v i => tVar i
theorem merge_new : ∀ {more acc : List (Key × V)}, ((acc ++ more).map (·.1)).Nodup → mergeK acc more = acc ++ more
  | [], acc, _ => by rw [List.append_nil]; rfl
  | p :: r, acc, h => by
    have hp : putK acc p.1 p.2 = acc ++ [p] := by
      have hn : p.1 ∉ acc.map (·.1) := fun hm => by
        rw [List.map_append, List.map_cons] at h
        have := (List.nodup_append.mp h).2.2 _ hm p.1 List.mem_cons_self
        exact this rfl
      have ha : ¬ ((acc.any fun kv => decide (kv.1 = p.1)) = true) := fun hx => by
        rw [List.any_eq_true] at hx
        obtain ⟨q, hq, e⟩ := hx
        exact hn (List.mem_map.mpr ⟨q, hq, of_decide_eq_true e⟩)
      unfold putK
      rw [if_neg ha]
    show mergeK (putK acc p.1 p.2) r = acc ++ (p :: r)
    rw [hp, merge_new (by rw [List.append_assoc]; exact h), List.append_assoc]
    rfl
section
variable {X : Cx} {W : WX} {pos : Pos}
theorem pairs_run {K : PySem.W.Frag} {g : G} {σ : L2.St} {H : Hp} {ρ : Ro} {st : Sto} (R : Rl K g σ H ρ st) : ∀ {l : List (Key × At)} {kds : List (Key × D)}, getAts ρ l = some kds → ∃ kvs : List (Key × V), kvs.map (·.1) = kds.map (·.1) ∧ RdL K g (kds.map (·.2)) (kvs.map (·.2)) ∧
    ∀ (H' : Hp) (Q : List (V × V) → Hp → Prop), Q (kvs.map fun kv => (kV kv.1, kv.2)) H' → tPairs (l.map fun p => (tC (kV p.1), p.2.te)) σ H' Q
  | [], kds, h => by
    cases h
    exact ⟨[], rfl, .nil, fun H' Q q => q⟩
  | (k, a) :: l, kds, h => by
    unfold getAts at h
    split at h
    · rename_i d ds h1 h2
      obtain rfl := Option.some.inj h
      obtain ⟨kvs, e1, r1, t1⟩ := pairs_run R h2
      cases a with
      | c c =>
        have hd : Rd K g d (constV c) := by
          cases c <;> simp only [At.get, constD, Option.some.injEq, reduceCtorEq] at h1 <;> subst h1
          · exact .non
          · exact .bl _
          · exact .int _
          · exact .str _
        exact ⟨(k, constV c) :: kvs, by rw [List.map_cons, List.map_cons, e1], .cons hd r1, fun H' Q q => t1 H' _ q⟩
      | v i =>
        have h1 : (match ρ[i]? with
          | some (some d) => some d
          | _ => none) = some d := h1
        split at h1
        · rename_i d' hd
          obtain rfl := Option.some.inj h1
          obtain ⟨v, hv, rv⟩ := R.sl i _ hd
          exact ⟨(k, v) :: kvs, by rw [List.map_cons, List.map_cons, e1], .cons rv r1, fun H' Q q => ⟨v, hv, t1 H' _ q⟩⟩
        · cases h1
    · cases h
theorem getAts_keys {ρ : Ro} : ∀ {l : List (Key × At)} {kds : List (Key × D)}, getAts ρ l = some kds → (l.map (·.1)) = kds.map (·.1)
  | [], kds, h => by cases h; rfl
  | (k, a) :: l, kds, h => by
    unfold getAts at h
    split at h
    · rename_i d ds h1 h2
      obtain rfl := Option.some.inj h
      rw [List.map_cons, List.map_cons, getAts_keys h2]
    · cases h
theorem de_disp (cell : Bool) {keys : List (Option Expr)} {values : List Expr} {l : List (Key × At)} (h : PPs X pos keys values (l.map fun p => (tC (kV p.1), p.2.te))) (hall : keys.all (·.isSome) = true) (hl : keys.length = values.length) (h0 : keys ≠ [])
    (h15 : keys.length ≤ 15) (hk : l.length = keys.length) (nd : (l.map (·.1)).Nodup) : DE X W (.Dict keys values pos) (mDisp cell l) := pe_weak (pe_disp h hall hl h0 h15) fun σ H Q ⟨g, ρ, st, R, k⟩ p hp => by
  unfold mDisp at k
  split at k
  · rename_i kds hg
    obtain ⟨kvs, e1, r1, t1⟩ := pairs_run R hg
    have hn : (l.map (·.1)) = kds.map (·.1) := getAts_keys hg
    refine t1 _ _ ⟨upd_same, kvs, rfl, ?_, ?_⟩
    · have : kvs.length = l.length := by
        have := congrArg List.length (e1.trans hn.symm)
        simpa using this
      omega
    · have em : mergeK [] kvs = kvs := by
        have := merge_new (more := kvs) (acc := []) (by rw [List.nil_append, e1, ← hn]; exact nd)
        rwa [List.nil_append] at this
      rw [em, upd_upd]
      unfold mkD at k
      cases cell with
      | true =>
        exact k (g.more p) _ _ (g.more_ext p) (R.more hp ⟨R.fresh hp, kvs, upd_same, e1.symm, r1⟩) (.cell (more_at R p))
      | false =>
        exact k (g.put p (.dK kvs)) _ _ (R.put_ext hp) (R.put hp) (.dic (.inl G.put_at) e1.symm rfl rfl (r1.mono (R.put_ext hp)))
  · exact k.elim
end
end P3

/-! P3E1: Base.__init__(self, ..), Base an own exception class. -/
namespace P3
open PySem PySem.Spec PyProof.Rows L2
/-- Base.__init__(self, ..), Base a class of the module whose __init__ is ValueError's -/
theorem pe_pinit {X : Cx} {x : Str} {C0 : Addr} {mc : Value} {e : Expr} {es : List Expr} {ta : TA} {p1 p2 pos : Pos} {pl : Sem Bool} (hg : Gl X x) (hm : X.mg x = some (.ref C0)) (r : ClX.CRead X.K C0 mc)
    (vV : PySem.W.findCls X.K (.ref C0) mc "__init__" = some (.val (.builtin "ValueError.__init__"))) (ha : PA X (e :: es) ta) (hdb : (x == ("__debug__" : Str)) = false)
    (hc : eval (.Call (.Attribute (.Name x p1) "__init__" p2) (e :: es) [] pos) X.env = (do
      let ov ← eval (.Name x p1) X.env
      standAt p2.atName
      let (f, first) ← holding [ov] (getMethod ov "__init__" pl)
      callWith pos f first (backTo pos (starEach (e :: es) X.env)) (backToKw pos (keywordEach [] X.env))) := by rfl)
    (he : starEach (e :: es) X.env = (false, eval e X.env) :: starEach es X.env := by rfl) (hpl : (backTo pos (starEach es X.env)).any (·.1) = false := by rfl) :
    PE X (.Call (.Attribute (.Name x p1) "__init__" p2) (e :: es) [] pos) (tVeI X.K ta) := by
  refine ⟨fun pins s σ H Q I h => ?_⟩
  refine PySem.W.methodCall_KW (ld_glob I hg hm ?_ hdb) hc
  refine PySem.W.method_cls I.kIn r.ga (PySem.W.cls_value I.kIn r.rd vV (by decide +kernel) ?_)
  show wpAny _ _ (callWith pos (Value.builtin "ValueError.__init__") [] (backTo pos (starEach (e :: es) X.env)) []) _ _ _
  refine PyProof.Rows.callWith_method1 (thn (ha.run pos pins _ σ H _ (I.tok _) h) fun us s1 ⟨vs, H1, I1, r1, a, C, ws, ev, hl, T, ea, q⟩ => ?_) he hpl
  subst ev
  cases r1 with
  | @cons _ u0 _ ur ra rw' =>
    obtain rfl : u0 = Value.ref a := ra
    have hlen : ur.length ≤ sizeLine := by
      rw [← Paired.length rw', sizeLine_eq]
      omega
    exact oinit_ok T I1 ea hlen fun s' J => ⟨.non, H1, J, rfl, q⟩
end P3

/-! P3E2: an own exception that keeps one thing: its __init__, raise. -/
namespace P3
open PySem PySem.Spec PyProof.Rows L2
/-- what __init__ promises: a new dict with one field -/
def spI (C : Addr) (n : Str) : Sp := fun vs H Q _ => ∃ a v, vs = [.ref a, v] ∧ H a = some (exo a C none) ∧ ∀ dx, H dx = none → dx ≠ a → Q .non (upd (upd H dx (exd dx [(n, v)])) a (exo a C (some dx)))
section
variable {P : Program} {w : World} {K : PySem.W.Frag} {mg : Str → Option Value} {base : Heap}
theorem init_ok {st : Stmt} {qual b n f msg : Str} {fI C C0 : Addr} {fd : FuncData} {mc : Value} {j : Nat} {p1 p2 p3 p4 p5 p6 p7 p8 p9 p10 : Pos} (F : Fun K "__init__" qual st fI fd)
    (hs : defBody st = [.Expr (.Call (.Attribute (.Name b p1) "__init__" p2) [.Name "self" p3, .Constant (.str msg) j p4] [] p5) p6, .Assign [.Attribute (.Name "self" p7) n p8] (.Name f p9) p10])
    (S : FnScope ["self", f] ["self", f] (defScope st)) (vs1 : Vis (defScope st) "self") (vs2 : Vis (defScope st) f) (vb : (defScope st).names.lookup b = some .globalImplicit)
    (hb1 : (b == ("__debug__" : Str)) = false) (hf1 : (f == ("__debug__" : Str)) = false) (hf2 : (f == ("__classdict__" : Str)) = false)
    (gb : mg b = some (.ref C0)) (r : ClX.CRead K C0 mc) (vV : PySem.W.findCls K (.ref C0) mc "__init__" = some (.val (.builtin "ValueError.__init__"))) (T : OexC K C) (hno : PySem.W.findIn K (.ref C) n = some none)
    (hcE : ∀ env : Env, ∃ pl : Sem Bool, eval (.Call (.Attribute (.Name b p1) "__init__" p2) [.Name "self" p3, .Constant (.str msg) j p4] [] p5) env = (do
      let ov ← eval (.Name b p1) env
      standAt p2.atName
      let (f, first) ← holding [ov] (getMethod ov "__init__" pl)
      callWith p5 f first (backTo p5 (starEach [.Name "self" p3, .Constant (.str msg) j p4] env)) (backToKw p5 (keywordEach [] env)))) :
    FnOk P w K mg base (L2.CX P w) 1 fI fd ["self", f] (spI C n) := by
  refine Fun.okX F S (fun vs H Q E h => by obtain ⟨a, v, rfl, _⟩ := h; rfl) fun cdv A outer s H vs Q E hr h => ?_
  obtain ⟨a, v, rfl, ha, hq⟩ := h
  rw [hs]
  obtain ⟨pl, hc⟩ := hcE (cxOf (L2.CX P w) P w K mg base ["self", f] qual (defScope st) fI cdv A outer s H E).env
  refine ⟨_, pss_cons (ps_expr (pe_pinit (X := cxOf (L2.CX P w) P w K mg base ["self", f] qual (defScope st) fI cdv A outer s H E) (pl := pl) ?_ gb r vV (pa_cons (pe_var (i := 0) rfl vs1) (pa_cons pe_str pa_nil)) hb1 hc)) (pss_one (ps_ost (pe_var (i := 0) rfl vs1) (pe_var (i := 1) rfl vs2 hf1 hf2))), ?_⟩
  · show (defScope st).names.lookup b = some .globalImplicit
    exact vb
  · refine ⟨.ref a, rfl, a, C, [.str msg], rfl, (by simp), T, ha, ?_⟩
    refine ⟨_, rfl, _, rfl, a, C, rfl, T, hno, .inl ⟨ha, fun dx h1 h2 => ?_⟩⟩
    exact hq dx h1 h2
end
end P3

/-! P3E3: raise X(e). -/
namespace P3
open PySem PySem.Spec PyProof.Rows L2
/-- raise x(e): x an own exception that keeps e as n -/
def sRaise (x n : Str) (m : ME) : MS := fun ρ st => (m ρ st).toS ρ fun d st => .exc x n d ρ st
/-- the facts of such a class -/
structure ErrC (P : Program) (w : World) (K : PySem.W.Frag) (mg : MG) (base : Heap) (x n : Str) : Prop where
  ex : ∃ (C fI : Addr) (fd : FuncData) (f : Str), OexC K C ∧ mg x = some (.ref C) ∧ PySem.W.findIn K (.ref C) n = some none ∧ PySem.W.findIn K (.ref C) "__init__" = some (some (.ref fI)) ∧ PySem.W.typeIn K (.ref fI) = some (.type "function") ∧
    Binds K fd ["self", f] [] ∧ FnOk P w K mg base (L2.CX P w) 1 fI fd ["self", f] (spI C n)
theorem star_cons0 {env : Env} {e : Expr} {es : List Expr} (h : isStar e = false) : starEach (e :: es) env = (false, eval e env) :: starEach es env := by
  cases e <;> first | rfl | cases h
theorem upd3 {H : Hp} {a dx : Addr} {o o1 o2 o3 : HO} (ha : H a = none) (hd : dx ≠ a) : upd (del (upd (upd (upd H a o) dx o1) a o2) a) dx o3 = upd H dx o3 := by
  funext b
  by_cases h1 : b = dx
  · subst h1
    rw [upd_same, upd_same]
  · rw [upd_ne h1, upd_ne h1]
    by_cases h2 : b = a
    · subst h2
      rw [del_same, ha]
    · rw [del_ne h2, upd_ne h2, upd_ne h1, upd_ne h2]
theorem ds_raise {X : Cx} {W : WX} {x n : Str} {e : Expr} {m : ME} {p pos pos' : Pos} (hc : X.calm = true) (tk : Takes X W) (F : ErrC X.prog X.w X.K X.mg X.base x n) (hr : Room 2 X.A) (hg : Gl X x) (he : DE X W e m)
    (hdb : (x == ("__debug__" : Str)) = false) (hs : isStar e = false) : DS X W (.Raise (some (.Call (.Name x p) [e] [] pos)) none pos') (sRaise x n m) := by
  obtain ⟨C, fI, fd, f, T, gC, hno, iC, tI, hb, F1⟩ := F.ex
  refine ps_weak (ps_raise hc tk (pmk_oex T iC tI F1 hr hb .nil passL hg gC (pa_cons he pa_nil ?_) hdb ?_ ?_)) fun D σ H ⟨g, ρ, st, R, k⟩ => ?_
  · exact star_cons0 hs
  · exact star_cons0 hs
  · rfl
  · refine ⟨g, ρ, st, R, (FinS.toS k).imp fun v H1 ⟨g1, st1, d, e1, R1, r1, k1⟩ => ?_⟩
    refine ⟨by simp, fun a ha => ⟨a, v, rfl, upd_same, fun dx hdx hne => ⟨rfl, dx, [(n, v)], upd_same, by rw [upd_ne hne, upd_same], by rw [upd_ne hne] at hdx; exact hdx, ?_⟩⟩⟩
    rw [upd_ne hne] at hdx
    rw [upd3 ha hne]
    exact k1 (g1.put dx (.xd [(n, v)])) _ _ _ dx v (R1.put_ext hdx) (R1.put hdx) gC upd_same (r1.mono (R1.put_ext hdx))
end P3

/-! P3E4: try .. except X as n .., whatever clauses stand behind. -/
namespace P3
open PySem PySem.Spec PyProof.Rows L2
section
variable {X : Cx} {x n : Str} {c : Value} {i : Nat} {body su : List Stmt} {b0 : Stmt} {q1 q2 q3 : Pos} {rest : List ExceptHandler} {tb : WX → TS} {ts : Addr → Value → Option Addr → TS}
/-- the first clause takes all -/
def wFst (K : PySem.W.Frag) (c : Value) (i : Nat) (ts : Addr → Value → Option Addr → TS) (D : Ends) : WX := fun k d σ H =>
  PySem.W.exmOne K k c = some true ∧ ∀ a, H a = none → ts a k d ⟨fun σ1 H1 => D.nx (σ1.set i none) H1, D.rt, fun σ1 H1 => D.bk (σ1.set i none) H1, fun σ1 H1 => D.ct (σ1.set i none) H1⟩ (σ.set i (some (.ref a))) H
theorem ps_try_fst (hs : X.stack = X.env :: X.outer) (hf : X.env.frame = some X.env.locals) (nd : X.N.Nodup) (hi : X.N[i]? = some n) (hl : X.env.kindOf n = some .local) (hc : Names X x c)
    (hb : ∀ (W : WX) (pn : List (Addr × Obj)) (xe : Value → Shared → Prop), Takes (X.tr pn xe) W → PassesOwn (model X.prog X.w) X.A X.env xe → PSs (X.tr pn xe) body (tb W))
    (hu : ∀ (a : Addr) (oe : Obj) (k : Value) (d : Option Addr) (pn : List (Addr × Obj)), Zc k d oe → (∃ vs, oe.data = .fields vs) → PSs (X.suite a ((a, oe) :: pn)) (b0 :: su) (ts a k d)) :
    PS X (.Try body (.ExceptHandler (some (.Name x q1)) (some n) (b0 :: su) q2 :: rest) [] [] q3) (fun D σ H => tb (wFst X.K c i ts D) D σ H) := by
  refine ⟨fun pins s σ H D I h => ?_⟩
  have ok := I.ok
  have frs0 : X.A.frames = some (X.env :: X.outer) := by rw [ok.frames, hs]
  refine wpAny_Try_except (wpAny_mono ((hb (wFst X.K c i ts D) (X.pn ++ pins) (fun e sa => wpAny (model X.prog X.w) X.A (noteFrame e X.env) (fun _ sb => wpAny (model X.prog X.w) X.A (setFlight e none)
    (fun _ sc => wpAny (model X.prog X.w) X.A (handleBy e X.env (.ExceptHandler (some (.Name x q1)) (some n) (b0 :: su) q2 :: rest)) (SP X pins D) X.xe sc) X.xe sb) X.xe sa) (fun u sz xx => ?_) PassesOwn.looking).run [] s σ H D (I.toTry _) h) (fun f sq r => ?_) fun e sq r => r)
  · obtain ⟨a, B, sI, pz, σz, Hz, k, d, rfl, Jz, nb, up, sky, na, os, ag, hm, hy⟩ := xx
    have J : Inv X pins σz Hz sI := Jz.ofTry ok
    have sky2 : Sky B (X.env :: X.outer) a (Zc k d) X.env.locals sz.heap := by rw [← hs]; exact sky
    show wpAny (model X.prog X.w) X.A (noteFrame (.ref a) X.env) _ _ _
    refine Sky.land Zc.steady frs0 hf sky2 fun hA fA uA => ?_
    have JA : Inv X pins σz Hz { sz with heap := hA } := J.landed nb fA.1 (up.trans uA) os ag
    obtain ⟨oA, vA, eA, zA, dA⟩ := fA.there
    have out : a ∉ frs (X.env :: X.outer) := fun hmem => by
      obtain ⟨_, o2, e2, h2⟩ := fA.2.2.1.mem hmem
      rw [eA] at e2
      cases e2
      exact h2 _ dA
    have nL : a ≠ X.env.locals := fun z => out (List.mem_filterMap.mpr ⟨X.env, List.mem_cons_self, by rw [hf, z]⟩)
    have nF : a ∉ X.fs := fun hmem => by
      obtain ⟨e, he, q⟩ := List.mem_filterMap.mp hmem
      exact out (List.mem_filterMap.mpr ⟨e, List.mem_cons_of_mem _ he, q⟩)
    have SA := JA.suite eA dA na nL nF
    refine wpAny_handleBy_cons (codeAny_handlers_test ?_) (by intro q; cases q)
    have LT : PySem.W.Looks (model X.prog X.w) hA (typeOf (.ref a)) k := fun A' Q' E' s' kk q => wpAny_typeOf_ref (kk _ _ eA) (by rw [zA.1]; exact q)
    have LM := PySem.W.exm_one (M := model X.prog X.w) (JA.kIn) LT hm
    have look : ∀ {Q : Value → Shared → Prop} {E : Value → Shared → Prop}, Q c { sz with heap := hA } → wpAny (model X.prog X.w) (X.A.mark (some (.ref a))) (eval (.Name x q1) X.env) Q E { sz with heap := hA } := fun {Q E} q => by
      obtain ⟨hg, hdb, hm | ⟨hm, hv, hn⟩⟩ := hc
      · exact ld_glob (X := X.suite a ((a, oA) :: (X.pn ++ pins))) SA hg hm q hdb
      · exact ld_blt (X := X.suite a ((a, oA) :: (X.pn ++ pins))) SA hg hm hv q hn hdb
    refine look (LM.here (codeAny_handlers_suite_as ?_))
    refine HandSPX.lands_againZ fA fun hB fB uB => ?_
    have JB : Inv X pins σz Hz { sz with heap := hB } := J.landed nb fB.1 ((up.trans uA).trans uB) os ag
    obtain ⟨oB, vB, eB, zB, dB⟩ := fB.there
    have SB := JB.suite eB dB na nL nF
    refine store_ok (X := X.suite a ((a, oB) :: (X.pn ++ pins))) (v := .ref a) SB nd hi (.inl hl) rfl (fun sC SC => ?_) (.inr hl)
    refine wpAny_mono ((hu a oB k d (X.pn ++ pins) zB ⟨_, dB⟩).run [] sC _ Hz _ SC (hy a na)) (fun f sD r => ?_) (fun _ _ z => False.elim z)
    have over : ∀ {σ6 : L2.St} {H6 : Hp} {Q : Shared → Prop}, Inv (X.suite a ((a, oB) :: (X.pn ++ pins))) [] σ6 H6 sD → (∀ s7, Inv X pins (σ6.set i none) H6 s7 → Q s7) →
        wpAny (model X.prog X.w) X.A (do bindName X.env n .none; unbindBehindTheSuite X.env n q2) (fun _ s7 => Q s7) X.xe sD := fun {σ6 H6 Q} S6 hq => gone_ok (S6.unsuite ok) nd hi hl hq
    cases f with
    | next => obtain ⟨σ6, H6, S6, r6⟩ := r; exact over S6 fun s7 J7 => ⟨_, _, J7, r6⟩
    | brk => obtain ⟨σ6, H6, S6, r6⟩ := r; exact over S6 fun s7 J7 => ⟨_, _, J7, r6⟩
    | cont => obtain ⟨σ6, H6, S6, r6⟩ := r; exact over S6 fun s7 J7 => ⟨_, _, J7, r6⟩
    | ret u => obtain ⟨v6, σ6, H6, S6, rv, r6⟩ := r; exact over S6 fun s7 J7 => ⟨_, _, _, J7, rv, r6⟩
  · cases f with
    | next => obtain ⟨σ6, H6, J6, r6⟩ := r; exact wpAny_execs_nil ⟨σ6, H6, J6.ofTry ok, r6⟩
    | brk => obtain ⟨σ6, H6, J6, r6⟩ := r; exact ⟨σ6, H6, J6.ofTry ok, r6⟩
    | cont => obtain ⟨σ6, H6, J6, r6⟩ := r; exact ⟨σ6, H6, J6.ofTry ok, r6⟩
    | ret u => obtain ⟨v6, σ6, H6, J6, rv, r6⟩ := r; exact ⟨v6, σ6, H6, J6.ofTry ok, rv, r6⟩
end
end P3

/-! P3E5: try .. with clauses of single classes, some with a name; what stands behind them is never reached. -/
namespace P3
open PySem PySem.Spec PyProof.Rows L2
/-- a clause: its class, the slot of its name, its suite -/
structure Hd1 where
  c : Value
  oi : Option Nat
  ts : Addr → Value → Option Addr → TS
def wHds (K : PySem.W.Frag) (D : Ends) : List Hd1 → WX
  | [] => fun _ _ _ _ => False
  | h :: r => fun k d σ H => ∃ b, PySem.W.exmOne K k h.c = some b ∧ (b = true → ∀ a, H a = none → match h.oi with
      | none => h.ts a k d D σ H
      | some i => h.ts a k d ⟨fun σ1 H1 => D.nx (σ1.set i none) H1, D.rt, fun σ1 H1 => D.bk (σ1.set i none) H1, fun σ1 H1 => D.ct (σ1.set i none) H1⟩ (σ.set i (some (.ref a))) H) ∧ (b = false → wHds K D r k d σ H)
inductive HdsF (X : Cx) : List ExceptHandler → List Hd1 → Prop
  | done {rest : List ExceptHandler} : HdsF X rest []
  | as {x n : Str} {c : Value} {i : Nat} {ts : Addr → Value → Option Addr → TS} {b0 : Stmt} {su : List Stmt} {q1 q2 : Pos} {hds : List ExceptHandler} {l : List Hd1} (hi : X.N[i]? = some n) (hl : X.env.kindOf n = some .local) (hc : Names X x c)
      (hu : ∀ (a : Addr) (oe : Obj) (k : Value) (d : Option Addr) (pn : List (Addr × Obj)), Zc k d oe → (∃ vs, oe.data = .fields vs) → PSs (X.suite a ((a, oe) :: pn)) (b0 :: su) (ts a k d)) (r : HdsF X hds l) :
      HdsF X (.ExceptHandler (some (.Name x q1)) (some n) (b0 :: su) q2 :: hds) (⟨c, some i, ts⟩ :: l)
  | no {x : Str} {c : Value} {ts : Addr → Value → Option Addr → TS} {b0 : Stmt} {su : List Stmt} {q1 q2 : Pos} {hds : List ExceptHandler} {l : List Hd1} (hc : Names X x c)
      (hu : ∀ (a : Addr) (oe : Obj) (k : Value) (d : Option Addr) (pn : List (Addr × Obj)), Zc k d oe → (∃ vs, oe.data = .fields vs) → PSs (X.suite a ((a, oe) :: pn)) (b0 :: su) (ts a k d)) (r : HdsF X hds l) :
      HdsF X (.ExceptHandler (some (.Name x q1)) none (b0 :: su) q2 :: hds) (⟨c, none, ts⟩ :: l)
section
variable {X : Cx} {body : List Stmt} {h0 : ExceptHandler} {hds : List ExceptHandler} {l : List Hd1} {q3 : Pos} {tb : WX → TS}
theorem ps_try_list (hs : X.stack = X.env :: X.outer) (hf : X.env.frame = some X.env.locals) (nd : X.N.Nodup)
    (hb : ∀ (W : WX) (pn : List (Addr × Obj)) (xe : Value → Shared → Prop), Takes (X.tr pn xe) W → PassesOwn (model X.prog X.w) X.A X.env xe → PSs (X.tr pn xe) body (tb W))
    (hh : HdsF X (h0 :: hds) l) : PS X (.Try body (h0 :: hds) [] [] q3) (fun D σ H => tb (wHds X.K D l) D σ H) := by
  refine ⟨fun pins s σ H D I h => ?_⟩
  have ok := I.ok
  have frs0 : X.A.frames = some (X.env :: X.outer) := by rw [ok.frames, hs]
  refine wpAny_Try_except (wpAny_mono ((hb (wHds X.K D l) (X.pn ++ pins) (fun e sa => wpAny (model X.prog X.w) X.A (noteFrame e X.env) (fun _ sb => wpAny (model X.prog X.w) X.A (setFlight e none)
    (fun _ sc => wpAny (model X.prog X.w) X.A (handleBy e X.env (h0 :: hds)) (SP X pins D) X.xe sc) X.xe sb) X.xe sa) (fun u sz xx => ?_) PassesOwn.looking).run [] s σ H D (I.toTry _) h) (fun f sq r => ?_) fun e sq r => r)
  · obtain ⟨a, B, sI, pz, σz, Hz, k, d, rfl, Jz, nb, up, sky, na, os, ag, hm⟩ := xx
    have J : Inv X pins σz Hz sI := Jz.ofTry ok
    have sky2 : Sky B (X.env :: X.outer) a (Zc k d) X.env.locals sz.heap := by rw [← hs]; exact sky
    show wpAny (model X.prog X.w) X.A (noteFrame (.ref a) X.env) _ _ _
    refine Sky.land Zc.steady frs0 hf sky2 fun hA fA uA => ?_
    have JA : Inv X pins σz Hz { sz with heap := hA } := J.landed nb fA.1 (up.trans uA) os ag
    obtain ⟨oA, vA, eA, zA, dA⟩ := fA.there
    have out : a ∉ frs (X.env :: X.outer) := fun hmem => by
      obtain ⟨_, o2, e2, h2⟩ := fA.2.2.1.mem hmem
      rw [eA] at e2
      cases e2
      exact h2 _ dA
    have nL : a ≠ X.env.locals := fun z => out (List.mem_filterMap.mpr ⟨X.env, List.mem_cons_self, by rw [hf, z]⟩)
    have nF : a ∉ X.fs := fun hmem => by
      obtain ⟨e, he, q⟩ := List.mem_filterMap.mp hmem
      exact out (List.mem_filterMap.mpr ⟨e, List.mem_cons_of_mem _ he, q⟩)
    have SA := JA.suite eA dA na nL nF
    have LT : PySem.W.Looks (model X.prog X.w) hA (typeOf (.ref a)) k := fun A' Q' E' s' kk q => wpAny_typeOf_ref (kk _ _ eA) (by rw [zA.1]; exact q)
    have look : ∀ {x : Str} {c : Value} {q1 : Pos} {Q : Value → Shared → Prop} {E : Value → Shared → Prop}, Names X x c → Q c { sz with heap := hA } → wpAny (model X.prog X.w) (X.A.mark (some (.ref a))) (eval (.Name x q1) X.env) Q E { sz with heap := hA } := fun {x c q1 Q E} hc q => by
      obtain ⟨hg, hdb, hm | ⟨hm, hv, hn⟩⟩ := hc
      · exact ld_glob (X := X.suite a ((a, oA) :: (X.pn ++ pins))) SA hg hm q hdb
      · exact ld_blt (X := X.suite a ((a, oA) :: (X.pn ++ pins))) SA hg hm hv q hn hdb
    have go : ∀ {hds' : List ExceptHandler} {l' : List Hd1}, HdsF X hds' l' → wHds X.K D l' k d σz Hz → wpAny (model X.prog X.w) X.A (handleBy (.ref a) X.env hds') (SP X pins D) X.xe { sz with heap := hA } := by
      intro hds' l' hk
      induction hk with
      | done => exact fun w => w.elim
      | @as x n c i ts b0 su q1 q2 hds2 l2 hi hl hc hu r ih =>
        intro w
        obtain ⟨b, hb1, hyes, hno⟩ := w
        refine wpAny_handleBy_cons (codeAny_handlers_test ?_) (by intro q; cases q)
        have LM := PySem.W.exm_one (M := model X.prog X.w) (JA.kIn) LT hb1
        refine look hc (LM.here ?_)
        cases b with
        | true =>
          refine codeAny_handlers_suite_as ?_
          refine HandSPX.lands_againZ fA fun hB fB uB => ?_
          have JB : Inv X pins σz Hz { sz with heap := hB } := J.landed nb fB.1 ((up.trans uA).trans uB) os ag
          obtain ⟨oB, vB, eB, zB, dB⟩ := fB.there
          have SB := JB.suite eB dB na nL nF
          refine store_ok (X := X.suite a ((a, oB) :: (X.pn ++ pins))) (v := .ref a) SB nd hi (.inl hl) rfl (fun sC SC => ?_) (.inr hl)
          refine wpAny_mono ((hu a oB k d (X.pn ++ pins) zB ⟨_, dB⟩).run [] sC _ Hz _ SC (hyes rfl a na)) (fun f sD r => ?_) (fun _ _ z => False.elim z)
          have over : ∀ {σ6 : L2.St} {H6 : Hp} {Q : Shared → Prop}, Inv (X.suite a ((a, oB) :: (X.pn ++ pins))) [] σ6 H6 sD → (∀ s7, Inv X pins (σ6.set i none) H6 s7 → Q s7) →
              wpAny (model X.prog X.w) X.A (do bindName X.env n .none; unbindBehindTheSuite X.env n q2) (fun _ s7 => Q s7) X.xe sD := fun {σ6 H6 Q} S6 hq => gone_ok (S6.unsuite ok) nd hi hl hq
          cases f with
          | next => obtain ⟨σ6, H6, S6, r6⟩ := r; exact over S6 fun s7 J7 => ⟨_, _, J7, r6⟩
          | brk => obtain ⟨σ6, H6, S6, r6⟩ := r; exact over S6 fun s7 J7 => ⟨_, _, J7, r6⟩
          | cont => obtain ⟨σ6, H6, S6, r6⟩ := r; exact over S6 fun s7 J7 => ⟨_, _, J7, r6⟩
          | ret u => obtain ⟨v6, σ6, H6, S6, rv, r6⟩ := r; exact over S6 fun s7 J7 => ⟨_, _, _, J7, rv, r6⟩
        | false =>
          show wpAny _ X.A (handleBy (.ref a) X.env hds2) _ _ _
          exact ih (hno rfl)
      | @no x c ts b0 su q1 q2 hds2 l2 hc hu r ih =>
        intro w
        obtain ⟨b, hb1, hyes, hno⟩ := w
        refine wpAny_handleBy_cons (codeAny_handlers_test ?_) (by intro q; cases q)
        have LM := PySem.W.exm_one (M := model X.prog X.w) (JA.kIn) LT hb1
        refine look hc (LM.here ?_)
        cases b with
        | true =>
          refine codeAny_handlers_suite ?_
          refine HandSPX.lands_againZ fA fun hB fB uB => ?_
          have JB : Inv X pins σz Hz { sz with heap := hB } := J.landed nb fB.1 ((up.trans uA).trans uB) os ag
          obtain ⟨oB, vB, eB, zB, dB⟩ := fB.there
          have SB := JB.suite eB dB na nL nF
          refine wpAny_mono ((hu a oB k d (X.pn ++ pins) zB ⟨_, dB⟩).run [] _ _ Hz _ SB (hyes rfl a na)) (fun f s6 hsp => ?_) (fun _ _ z => False.elim z)
          cases f with
          | next =>
            obtain ⟨σ6, H6, S6, q6⟩ := hsp
            exact ⟨_, _, S6.unsuite ok, q6⟩
          | brk =>
            obtain ⟨σ6, H6, S6, q6⟩ := hsp
            exact ⟨_, _, S6.unsuite ok, q6⟩
          | cont =>
            obtain ⟨σ6, H6, S6, q6⟩ := hsp
            exact ⟨_, _, S6.unsuite ok, q6⟩
          | ret u =>
            obtain ⟨v6, σ6, H6, S6, r6, q6⟩ := hsp
            exact ⟨_, _, _, S6.unsuite ok, r6, q6⟩
        | false =>
          show wpAny _ X.A (handleBy (.ref a) X.env hds2) _ _ _
          exact ih (hno rfl)
    exact go hh hm
  · cases f with
    | next => obtain ⟨σ6, H6, J6, r6⟩ := r; exact wpAny_execs_nil ⟨σ6, H6, J6.ofTry ok, r6⟩
    | brk => obtain ⟨σ6, H6, J6, r6⟩ := r; exact ⟨σ6, H6, J6.ofTry ok, r6⟩
    | cont => obtain ⟨σ6, H6, J6, r6⟩ := r; exact ⟨σ6, H6, J6.ofTry ok, r6⟩
    | ret u => obtain ⟨v6, σ6, H6, J6, rv, r6⟩ := r; exact ⟨v6, σ6, H6, J6.ofTry ok, rv, r6⟩
end
end P3

/-! P3E6: try .. except, by trees. -/
namespace P3
open PySem PySem.Spec PyProof.Rows L2
/-- a clause: the class's name, its name's slot, the suite by the field's name and the thing -/
structure PHd where
  x : Str
  oi : Option Nat
  su : Str → D → MS
def unslot (oi : Option Nat) (r : RS) : RS := match oi with
  | none => match r with
    | .exc _ _ _ _ _ => .stuck
    | r => r
  | some i => match r with
    | .nx ρ st => .nx (ρ.set i none) st
    | .bk ρ st => .bk (ρ.set i none) st
    | .ct ρ st => .ct (ρ.set i none) st
    | .rt d st => .rt d st
    | _ => .stuck
/-- own exception classes: name, field, which clauses take it -/
abbrev ExT := List (Str × Str × List (Str × Bool))
def pickH (em : ExT) (c n : Str) (d : D) : List PHd → MS
  | [] => sStuck
  | h :: hs => fun ρ st => match em.lookup c with
    | some (n', ms) => if n' = n then (match ms.lookup h.x with
      | some true => (match h.oi with
        | none => unslot none (h.su n d ρ st)
        | some i => if i < ρ.length then unslot (some i) (h.su n d (ρ.set i none) st) else .stuck)
      | some false => pickH em c n d hs ρ st
      | none => .stuck) else .stuck
    | none => .stuck
def sTry (em : ExT) (body : MS) (hs : List PHd) : MS := fun ρ st => match body ρ st with
  | .exc c n d ρ' st' => pickH em c n d hs ρ' st'
  | r => r
abbrev W0x : WX := fun _ _ _ _ => False
/-- what is known in a suite -/
def SuC (K : PySem.W.Frag) (oi : Option Nat) (a dx : Addr) (n : Str) (v : V) (d : D) (g : G) (σ : L2.St) : Prop := g.im dx = some (.xd [(n, v)]) ∧ Rd K g d v ∧ ∀ i, oi = some i → σ[i]? = some (some (.ref a))
theorem SuC.mono {K : PySem.W.Frag} {oi : Option Nat} {a dx : Addr} {n : Str} {v : V} {d : D} {g g' : G} {σ : L2.St} (h : SuC K oi a dx n v d g σ) (e : Ext g g') : SuC K oi a dx n v d g' σ := ⟨e.1 _ _ h.1, h.2.1.mono e, h.2.2⟩
def tXX {α β : Type} (K : PySem.W.Frag) (mg : MG) (oi : Option Nat) (a dx : Addr) (n : Str) (v : V) (d : D) (P : G → α → β → Prop) (m : Ro → Sto → Res α) : L2.St → Hp → (β → Hp → Prop) → Prop :=
  fun σ H Q => ∃ g ρ st, Rl K g σ H ρ st ∧ SuC K oi a dx n v d g σ ∧ FinG K mg W0x P g σ ρ (m ρ st) Q
/-- the class, the slot, the addresses of a suite -/
structure SuX (X : Cx) (oi : Option Nat) (nm : Str) (a : Addr) (oe : Obj) (k : Value) (dd : Option Addr) (C dx : Addr) (n : Str) : Prop where
  ek : k = .ref C
  ed : dd = some dx
  z : Zc k dd oe
  fl : ∃ vs, oe.data = .fields vs
  xf : XfC X.K C
  no : PySem.W.findIn X.K (.ref C) n = some none
  sl : ∀ i, oi = some i → X.N[i]? = some nm ∧ Vis X.env.scope nm
section
variable {X : Cx} {oi : Option Nat} {nm : Str} {a : Addr} {oe : Obj} {k : Value} {dd : Option Addr} {C dx : Addr} {n : Str} {v : V} {d : D} {pn : List (Addr × Obj)}
abbrev DEX (X : Cx) (oi : Option Nat) (a : Addr) (oe : Obj) (pn : List (Addr × Obj)) (dx : Addr) (n : Str) (v : V) (d : D) (e : Expr) (m : ME) : Prop := PE (X.suite a ((a, oe) :: pn)) e (tXX X.K X.mg oi a dx n v d (pD X.K) m)
abbrev DAX (X : Cx) (oi : Option Nat) (a : Addr) (oe : Obj) (pn : List (Addr × Obj)) (dx : Addr) (n : Str) (v : V) (d : D) (e : List Expr) (m : MEs) : Prop := PA (X.suite a ((a, oe) :: pn)) e (tXX X.K X.mg oi a dx n v d (pL X.K) m)
theorem dex_const {e : Expr} {c : D} {u : V} (h : PE (X.suite a ((a, oe) :: pn)) e (tC u)) (r : ∀ g, Rd X.K g c u) : DEX X oi a oe pn dx n v d e (mC c) := pe_weak h fun σ H Q ⟨g, ρ, st, R, s, k⟩ => FinG.now k R (r g)
def mFld (f n : Str) (d : D) : ME := fun _ st => if f = n then .ok d st else .stuck
theorem dex_fld {f : Str} {p pos : Pos} {i : Nat} (S : SuX X (some i) nm a oe k dd C dx n) (h1 : (nm == ("__debug__" : Str)) = false) (h2 : (nm == ("__classdict__" : Str)) = false) : DEX X (some i) a oe pn dx n v d (.Attribute (.Name nm p) f pos) (mFld f n d) := by
  by_cases hf : f = n
  · subst hf
    refine pe_weak (pe_xf S.xf S.no S.z S.fl (pe_var (X := X.suite a ((a, oe) :: pn)) (i := i) (S.sl i rfl).1 (S.sl i rfl).2 h1 h2) rfl) fun σ H Q ⟨g, ρ, st, R, s, q⟩ => ?_
    refine ⟨_, s.2.2 i rfl, rfl, S.ek, dx, [(f, v)], v, S.ed, R.im _ _ s.1, ?_, ?_⟩
    · show List.lookup f [(f, v)] = some v
      simp [List.lookup]
    · unfold mFld at q
      rw [if_pos rfl] at q
      exact FinG.now q R s.2.1
  · refine ⟨fun pins s σ H Q I h => ?_⟩
    obtain ⟨g, ρ, st, R, z, q⟩ := h
    unfold mFld at q
    rw [if_neg hf] at q
    exact q.elim
theorem dax_nil : DAX X oi a oe pn dx n v d [] mNil := pa_weak pa_nil fun σ H Q ⟨g, ρ, st, R, s, k⟩ => FinG.now k R .nil
theorem dax_cons {e : Expr} {es : List Expr} {ma : ME} {ms : MEs} (ha : DEX X oi a oe pn dx n v d e ma) (hr : DAX X oi a oe pn dx n v d es ms) (hs : starEach (e :: es) X.env = (false, eval e X.env) :: starEach es X.env) : DAX X oi a oe pn dx n v d (e :: es) (mCons ma ms) :=
  pa_weak (pa_cons ha hr hs) fun σ H Q ⟨g, ρ, st, R, s, k⟩ =>
    ⟨g, ρ, st, R, s, (FinG.bind k).imp fun x H1 ⟨g1, st1, d1, e1, R1, r1, k1⟩ => ⟨g1, ρ, st1, R1, s.mono e1, (FinG.bind k1).imp fun y H2 ⟨g2, st2, d2, e2, R2, r2, k2⟩ => FinG.now k2 R2 (.cons (r1.mono e2) r2)⟩⟩
theorem onx_run {f : List D → Sto → Res D} {ms : MEs} {σ : L2.St} {H : Hp} {Q : VK} (h : tXX X.K X.mg oi a dx n v d (pD X.K) (mOn f ms) σ H Q) :
    tXX X.K X.mg oi a dx n v d (pL X.K) ms σ H fun xs H1 => ∃ g ρ st ds, Rl X.K g σ H1 ρ st ∧ RdL X.K g ds xs ∧ FinG X.K X.mg W0x (pD X.K) g σ ρ (f ds st) Q := by
  obtain ⟨g, ρ, st, R, s, k⟩ := h
  exact ⟨g, ρ, st, R, s, (FinG.bind k).imp fun x H1 ⟨g1, st1, d1, e1, R1, r1, k1⟩ => ⟨g1, ρ, st1, d1, R1, r1, k1⟩⟩
theorem dex_lst (c : Bool) {es : List Expr} {ms : MEs} {pos : Pos} (h : DAX X oi a oe pn dx n v d es ms) : DEX X oi a oe pn dx n v d (.List es pos) (mOn (mk c) ms) := pe_weak (pe_lst h) fun σ H Q q => by
  obtain ⟨g, ρ, st, R, s, k⟩ := onx_run q
  exact ⟨g, ρ, st, R, s, k.imp fun xs H1 ⟨g1, ρ1, st1, ds, R1, r1, k1⟩ => new_mk R1 r1 k1⟩
theorem dex_tup {es : List Expr} {ms : MEs} {j : Nat} {pos : Pos} (h : DAX X oi a oe pn dx n v d es ms) : DEX X oi a oe pn dx n v d (.Tuple es j pos) (mOn fTup ms) := pe_weak (pe_tup h) fun σ H Q q => by
  obtain ⟨g, ρ, st, R, s, k⟩ := onx_run q
  refine ⟨g, ρ, st, R, s, k.imp fun xs H1 ⟨g1, ρ1, st1, ds, R1, r1, k1⟩ => ?_⟩
  unfold fTup at k1
  by_cases hl : ds.length ≤ 100000
  · rw [if_pos hl] at k1
    exact ⟨by rw [← r1.length]; exact sz hl, fun p hp => new_tup R1 r1 k1 hp⟩
  · rw [if_neg hl] at k1
    exact k1.elim
/-- statements of a suite -/
def tXS (K : PySem.W.Frag) (mg : MG) (oi : Option Nat) (a dx : Addr) (n : Str) (v : V) (d : D) (m : MS) : TS := fun D σ H => ∃ g ρ st, Rl K g σ H ρ st ∧ SuC K oi a dx n v d g σ ∧ FinS K mg W0x g (m ρ st) D
abbrev DSX (X : Cx) (oi : Option Nat) (a : Addr) (oe : Obj) (pn : List (Addr × Obj)) (dx : Addr) (n : Str) (v : V) (d : D) (s : Stmt) (m : MS) : Prop := PS (X.suite a ((a, oe) :: pn)) s (tXS X.K X.mg oi a dx n v d m)
theorem dsx_set {i : Nat} {x : Str} {pos pos' : Pos} {e : Expr} {m : ME} (hN : X.N.Nodup) (hi : X.N[i]? = some x) (hx : Loc X.env.scope x) (he : DEX X oi a oe pn dx n v d e m) (hs : swapsWith e (some (.Name x pos')) pos.line X.env = pure false) (hf : X.fn x = true ∨ X.env.scope.names.lookup x = some .local) :
    DSX X oi a oe pn dx n v d (.Assign [.Name x pos'] e pos) (sSet i m) := ps_weak (ps_set (X := X.suite a ((a, oe) :: pn)) hN hi hx he hs hf) fun D σ H ⟨g, ρ, st, R, s, k⟩ => ⟨g, ρ, st, R, s, (FinS.toS k).imp fun x H1 ⟨g1, st1, d, e1, R1, r1, k1⟩ => FinS.nxt k1 (R1.set r1)⟩
theorem dsx_ret {e : Expr} {m : ME} {pos : Pos} (he : DEX X oi a oe pn dx n v d e m) : DSX X oi a oe pn dx n v d (.Return (some e) pos) (sRet m) := ps_weak (ps_ret he) fun D σ H ⟨g, ρ, st, R, s, k⟩ => ⟨g, ρ, st, R, s, (FinS.toS k).imp fun x H1 ⟨g1, st1, d, e1, R1, r1, k1⟩ => k1 g1 _ _ (Ext.refl g1) R1.bare r1⟩
theorem dsx_ct {pos : Pos} : DSX X oi a oe pn dx n v d (.Continue pos) sCt := ps_weak ps_continue fun D σ H ⟨g, ρ, st, R, s, k⟩ => k g H σ (Ext.refl g) R
theorem dsx_pass {pos : Pos} : DSX X oi a oe pn dx n v d (.Pass pos) sNil := ps_weak ps_pass fun D σ H ⟨g, ρ, st, R, s, k⟩ => FinS.nxt k R
/-- a suite's wish -/
def tSu (K : PySem.W.Frag) (mg : MG) (oi : Option Nat) (su : Str → D → MS) (a : Addr) (k : Value) (dd : Option Addr) : TS := fun D σ H =>
  ∃ C dx n v d, k = .ref C ∧ dd = some dx ∧ XfC K C ∧ PySem.W.findIn K (.ref C) n = some none ∧ tXS K mg oi a dx n v d (su n d) D σ H
theorem pss_su {b : Stmt} {su : Str → D → MS} (sl : ∀ i, oi = some i → X.N[i]? = some nm ∧ Vis X.env.scope nm) (z : Zc k dd oe) (fl : ∃ vs, oe.data = .fields vs)
    (h : ∀ C dx n v d, SuX X oi nm a oe k dd C dx n → DSX X oi a oe pn dx n v d b (su n d)) : PSs (X.suite a ((a, oe) :: pn)) [b] (tSu X.K X.mg oi su a k dd) := by
  refine ⟨fun pins s σ H D I q => ?_⟩
  obtain ⟨C, dx, n, v, d, e1, e2, xf, no, q⟩ := q
  exact (pss_one (h C dx n v d ⟨e1, e2, z, fl, xf, no, sl⟩)).run pins s σ H D I q
end
/-- what the table of classes means -/
structure ExOk (K : PySem.W.Frag) (mg : MG) (em : ExT) : Prop where
  cl : ∀ x n ms, em.lookup x = some (n, ms) → ∃ C, mg x = some (.ref C) ∧ XfC K C ∧ PySem.W.findIn K (.ref C) n = some none ∧ ∀ y b, ms.lookup y = some b → ∃ c, mg y = some c ∧ PySem.W.exmOne K (.ref C) c = some b
/-- the clauses as they are -/
inductive HsOk (X : Cx) : List ExceptHandler → List PHd → List Hd1 → Prop
  | done {rest : List ExceptHandler} : HsOk X rest [] []
  | cons {x nm : Str} {c : Value} {on : Option Str} {oi : Option Nat} {su : Str → D → MS} {b : Stmt} {q1 q2 : Pos} {hds : List ExceptHandler} {l : List PHd} {l1 : List Hd1} (hm : X.mg x = some c) (hc : Names X x c)
      (ho : (on = none ∧ oi = none) ∨ ∃ i, on = some nm ∧ oi = some i ∧ X.N[i]? = some nm ∧ X.env.kindOf nm = some .local)
      (hu : ∀ (a : Addr) (oe : Obj) (k : Value) (d : Option Addr) (pn : List (Addr × Obj)), Zc k d oe → (∃ vs, oe.data = .fields vs) → PSs (X.suite a ((a, oe) :: pn)) [b] (tSu X.K X.mg oi su a k d)) (r : HsOk X hds l l1) :
      HsOk X (.ExceptHandler (some (.Name x q1)) on [b] q2 :: hds) (⟨x, oi, su⟩ :: l) (⟨c, oi, tSu X.K X.mg oi su⟩ :: l1)
section
variable {X : Cx}
theorem HsOk.hds {hds : List ExceptHandler} {l : List PHd} {l1 : List Hd1} (h : HsOk X hds l l1) : HdsF X hds l1 := by
  induction h with
  | done => exact .done
  | cons hm hc ho hu r ih =>
    rcases ho with ⟨rfl, rfl⟩ | ⟨i, rfl, rfl, hi, hl⟩
    · exact .no hc hu ih
    · exact .as hi hl hc hu ih
def endsO (oi : Option Nat) (E : Ends) : Ends := match oi with
  | none => E
  | some i => ⟨fun σ1 H1 => E.nx (σ1.set i none) H1, E.rt, fun σ1 H1 => E.bk (σ1.set i none) H1, fun σ1 H1 => E.ct (σ1.set i none) H1⟩
theorem unslot_fin {mg : MG} {W : WX} {oi : Option Nat} {g : G} {r : RS} {E : Ends} (h : FinS X.K mg W g (unslot oi r) E) : FinS X.K mg W0x g r (endsO oi E) := by
  have go : ∀ {i : Nat} {g' : G} {σ' : L2.St} {H' : Hp} {ρ : Ro} {st : Sto}, Rl X.K g' σ' H' ρ st → Rl X.K g' (σ'.set i none) H' (ρ.set i none) st := fun {i g' σ' H' ρ st} R => R.slots (fun j d hj => by
    by_cases hij : i = j
    · subst hij
      have hl : i < ρ.length := by
        have := (List.getElem?_eq_some_iff.mp hj).1
        simpa using this
      rw [List.getElem?_set_self hl] at hj
      cases hj
    · rw [List.getElem?_set_ne hij] at hj
      obtain ⟨u, h1, h2⟩ := R.sl j d hj
      exact ⟨u, by rw [List.getElem?_set_ne hij]; exact h1, h2⟩) (by rw [List.length_set, List.length_set]; exact R.le)
  cases oi with
  | none => cases r <;> first | exact h | exact h.elim
  | some i =>
    cases r with
    | nx ρ st => exact fun g' H' σ' e R => h g' H' _ e (go R)
    | rt d st => exact h
    | bk ρ st => exact fun g' H' σ' e R => h g' H' _ e (go R)
    | ct ρ st => exact fun g' H' σ' e R => h g' H' _ e (go R)
    | exc c n d ρ st => exact h.elim
    | stuck => exact h
theorem pickH_ok {W : WX} {em : ExT} {hds : List ExceptHandler} {l : List PHd} {l1 : List Hd1} (ok : ExOk X.K X.mg em) (h : HsOk X hds l l1) {g g' : G} {σ' : L2.St} {H' : Hp} {ρ : Ro} {st : Sto} {c n : Str} {d : D} {v : V} {cls : Value} {dx : Addr} {E : Ends}
    (e : Ext g g') (R : Rl X.K g' σ' H' ρ st) (hc : X.mg c = some cls) (hx : g'.im dx = some (.xd [(n, v)])) (r : Rd X.K g' d v) (k : FinS X.K X.mg W g (pickH em c n d l ρ st) E) : wHds X.K E l1 cls (some dx) σ' H' := by
  induction h with
  | done => exact k.elim
  | @cons x nm c1 on oi su b q1 q2 hds l l1 hm hcn ho hu r' ih =>
    unfold pickH at k
    cases hl : em.lookup c with
    | none => rw [hl] at k; exact k.elim
    | some nms =>
      obtain ⟨n', ms⟩ := nms
      rw [hl] at k
      dsimp only at k
      by_cases hn : n' = n
      · subst hn
        rw [if_pos rfl] at k
        obtain ⟨C, m1, xf, no, hy⟩ := ok.cl _ _ _ hl
        rw [hc] at m1
        cases m1
        cases hb : ms.lookup x with
        | none => rw [hb] at k; exact k.elim
        | some b =>
          rw [hb] at k
          obtain ⟨c2, m2, ex⟩ := hy _ _ hb
          rw [hm] at m2
          cases m2
          refine ⟨b, ex, fun eb a ha => ?_, fun eb => ?_⟩
          · subst eb
            dsimp only at k
            rcases ho with ⟨rfl, rfl⟩ | ⟨i, rfl, rfl, hi, hli⟩
            · exact ⟨C, dx, n', v, d, rfl, rfl, xf, no, g', ρ, st, R, ⟨hx, r, fun i q => by cases q⟩, unslot_fin (FinS.ext k e)⟩
            · dsimp only at k
              by_cases hr : i < ρ.length
              · rw [if_pos hr] at k
                have hls : i < σ'.length := Nat.lt_of_lt_of_le hr R.le
                refine ⟨C, dx, n', v, d, rfl, rfl, xf, no, g', ρ.set i none, st, ?_, ⟨hx, r, fun j q => by cases q; rw [List.getElem?_set_self hls]⟩, unslot_fin (FinS.ext k e)⟩
                refine R.slots (fun j dj hj => ?_) (by rw [List.length_set, List.length_set]; exact R.le)
                by_cases hij : i = j
                · subst hij
                  rw [List.getElem?_set_self hr] at hj
                  cases hj
                · rw [List.getElem?_set_ne hij] at hj
                  obtain ⟨u, h1, h2⟩ := R.sl j dj hj
                  exact ⟨u, by rw [List.getElem?_set_ne hij]; exact h1, h2⟩
              · rw [if_neg hr] at k
                exact k.elim
          · subst eb
            exact ih k
      · rw [if_neg hn] at k
        exact k.elim
theorem ds_try {W : WX} {body : List Stmt} {h0 : ExceptHandler} {hds : List ExceptHandler} {l : List PHd} {l1 : List Hd1} {pos : Pos} {mb : MS} {em : ExT} (hs : X.stack = X.env :: X.outer) (hf : X.env.frame = some X.env.locals) (nd : X.N.Nodup) (ok : ExOk X.K X.mg em)
    (hb : ∀ (W : WX) (pn : List (Addr × Obj)) (xe : Value → Shared → Prop), Takes (X.tr pn xe) W → PassesOwn (model X.prog X.w) X.A X.env xe → DSs (X.tr pn xe) W body mb) (h : HsOk X (h0 :: hds) l l1) :
    DS X W (.Try body (h0 :: hds) [] [] pos) (sTry em mb l) := ps_weak (ps_try_list hs hf nd (tb := fun W => sRun X.K X.mg W mb) (fun W pn xe tk ps => hb W pn xe tk ps) h.hds) fun E σ H ⟨g, ρ, st, R, k⟩ => ⟨g, ρ, st, R, by
  unfold sTry at k
  cases hr : mb ρ st with
  | nx ρ' st' => rw [hr] at k; exact k
  | rt d st' => rw [hr] at k; exact k
  | bk ρ' st' => rw [hr] at k; exact k
  | ct ρ' st' => rw [hr] at k; exact k
  | stuck => rw [hr] at k; exact k
  | exc c n d ρ' st' =>
    rw [hr] at k
    intro g' H' σ' cls dx v e R' hc hx r
    exact pickH_ok (W := W) ok h e R' hc hx r k⟩
end
end P3

/-! P4A: objects: fields that are read and put, methods, making. -/
namespace P3
open PySem PySem.Spec PyProof.Rows L2
/-! ### fields -/
def lookF (f : Str) : List Str → List D → Option D
  | k :: ks, d :: ds => if k = f then some d else lookF f ks ds
  | _, _ => none
def putK (f : Str) : List Str → List Str
  | [] => [f]
  | k :: ks => if k = f then k :: ks else k :: putK f ks
def putD {α : Type} (f : Str) (x : α) : List Str → List α → List α
  | k :: ks, d :: ds => if k = f then x :: ds else d :: putD f x ks ds
  | _, _ => [x]
theorem putF_keys (f : Str) (v : V) : ∀ fv : List (Str × V), (putF f v fv).map (·.1) = putK f (fv.map (·.1))
  | [] => rfl
  | (g, x) :: r => by
    show (if g = f then (g, v) :: r else (g, x) :: putF f v r).map (·.1) = if g = f then g :: r.map (·.1) else g :: putK f (r.map (·.1))
    by_cases h : g = f
    · rw [if_pos h, if_pos h]; rfl
    · rw [if_neg h, if_neg h, List.map_cons, putF_keys f v r]
theorem putF_vals (f : Str) (v : V) : ∀ fv : List (Str × V), (putF f v fv).map (·.2) = putD f v (fv.map (·.1)) (fv.map (·.2))
  | [] => rfl
  | (g, x) :: r => by
    show (if g = f then (g, v) :: r else (g, x) :: putF f v r).map (·.2) = if g = f then v :: r.map (·.2) else x :: putD f v (r.map (·.1)) (r.map (·.2))
    by_cases h : g = f
    · rw [if_pos h, if_pos h]; rfl
    · rw [if_neg h, if_neg h, List.map_cons, putF_vals f v r]
theorem RdL.putD {K : PySem.W.Frag} {g : G} {f : Str} {d : D} {v : V} (r : Rd K g d v) : ∀ {ks : List Str} {ds : List D} {vs : List V}, RdL K g ds vs → RdL K g (P3.putD f d ks ds) (P3.putD f v ks vs)
  | [], _, _, _ => by
    unfold P3.putD
    exact .cons r .nil
  | _ :: _, _, _, .nil => by
    unfold P3.putD
    exact .cons r .nil
  | k :: ks, _, _, .cons h t => by
    unfold P3.putD
    by_cases e : k = f
    · rw [if_pos e, if_pos e]
      exact .cons r t
    · rw [if_neg e, if_neg e]
      exact .cons h (RdL.putD r t)
theorem look_at {K : PySem.W.Frag} {g : G} {f : Str} {d : D} : ∀ {fv : List (Str × V)} {ds : List D}, RdL K g ds (fv.map (·.2)) → lookF f (fv.map (·.1)) ds = some d → ∃ v, fv.lookup f = some v ∧ Rd K g d v
  | [], ds, _, h => by
    simp [lookF] at h
  | (k, x) :: fv, [], _, h => by
    simp [lookF] at h
  | (k, x) :: fv, e :: ds, r, h => by
    cases r with
    | cons r1 r2 =>
      have h : (if k = f then some e else lookF f (fv.map (·.1)) ds) = some d := h
      by_cases q : k = f
      · rw [if_pos q] at h
        cases h
        refine ⟨x, ?_, r1⟩
        have hb : (f == k) = true := beq_iff_eq.mpr q.symm
        simp only [List.lookup, hb]
      · rw [if_neg q] at h
        obtain ⟨v, h1, h2⟩ := look_at r2 h
        refine ⟨v, ?_, h2⟩
        have hb : (f == k) = false := beq_eq_false_iff_ne.mpr fun z => q z.symm
        simp only [List.lookup, hb]
        exact h1
theorem look_none {f : Str} : ∀ {fv : List (Str × V)}, f ∉ fv.map (·.1) → fv.lookup f = none
  | [], _ => rfl
  | (k, x) :: fv, h => by
    rw [List.map_cons, List.mem_cons, not_or] at h
    have hb : (f == k) = false := beq_eq_false_iff_ne.mpr h.1
    simp only [List.lookup, hb]
    exact look_none h.2
/-- an object: frozen, or a cell -/
def objOf (d : D) (st : Sto) : Option (Str × List Str × List D) := match d with
  | .ob c ks ds => some (c, ks, ds)
  | .cell i => match st[i]? with
    | some (.obj c ks ds) => some (c, ks, ds)
    | _ => none
  | _ => none
theorem obj_at {K : PySem.W.Frag} {g : G} {σ : L2.St} {H : Hp} {ρ : Ro} {st : Sto} {d : D} {v : V} {c : Str} {ks : List Str} {ds : List D} (R : Rl K g σ H ρ st) (r : Rd K g d v) (h : objOf d st = some (c, ks, ds)) :
    ∃ a C dx fv, v = .ref a ∧ PySem.W.nsIn K mainGlobals c = some (some (.ref C)) ∧ H a = some (.ins C dx fv) ∧ fv.map (·.1) = ks ∧ RdL K g ds (fv.map (·.2)) := by
  unfold objOf at h
  split at h
  · cases h
    cases r with
    | ob h1 h2 h3 h4 h5 => exact ⟨_, _, _, _, rfl, h1, R.im _ _ h2, h3, by rw [h4]; exact h5⟩
  · rename_i i
    split at h
    · rename_i c' ks' ds' hs
      cases h
      cases r with
      | @cell _ a h1 =>
        obtain ⟨_, C, dx, fv, hc, e, k, r⟩ := R.cell i a _ h1 hs
        exact ⟨a, C, dx, fv, rfl, hc, e, k, r⟩
    · cases h
  · cases h
section
variable {X : Cx} {W : WX} {e o value : Expr} {m mo me : ME} {f : Str} {pos pos' p apos : Pos} {cs : List Str}
def FldOk (K : PySem.W.Frag) (cs : List Str) (f : Str) : Prop := ∀ c ∈ cs, ∀ C, PySem.W.nsIn K mainGlobals c = some (some (.ref C)) → Cls K C ∧ NoAttr K C f
/-- e.f -/
def mFldO (cs : List Str) (f : Str) (m : ME) : ME := fun ρ st => (m ρ st).bind fun d st => match objOf d st with
  | some (c, ks, ds) => if c ∈ cs then optR (lookF f ks ds) st else .stuck
  | none => .stuck
theorem de_fldO (hc : FldOk X.K cs f) (he : DE X W e m) (hb : attributeBase e f X.env (eval e X.env) = eval e X.env) : DE X W (.Attribute e f pos) (mFldO cs f m) :=
  pe_weak (pe_fld he hb) fun σ H Q ⟨g, ρ, st, R, k⟩ => ⟨g, ρ, st, R, (FinG.bind k).imp fun x H1 ⟨g1, st1, d, e1, R1, r1, k1⟩ => by
    cases ho : objOf d st1 with
    | none => rw [ho] at k1; exact k1.elim
    | some t =>
      obtain ⟨c, ks, ds⟩ := t
      rw [ho] at k1
      dsimp only at k1
      by_cases hm : c ∈ cs
      · rw [if_pos hm] at k1
        obtain ⟨a, C, dx, fv, rfl, hns, ha, hk, r⟩ := obj_at R1 r1 ho
        cases hl : lookF f ks ds with
        | none => rw [hl] at k1; exact k1.elim
        | some d' =>
          rw [hl] at k1
          obtain ⟨v, h1, h2⟩ := look_at r (hk ▸ hl)
          obtain ⟨c1, c2⟩ := hc c hm C hns
          exact ⟨a, C, dx, fv, v, rfl, ha, c1, c2, h1, FinG.now k1 R1 h2⟩
      · rw [if_neg hm] at k1
        exact k1.elim⟩
/-- o.f = e -/
def sFldO (cs : List Str) (f : Str) (mo me : ME) : MS := fun ρ st => (me ρ st).toS ρ fun d st => (mo ρ st).toS ρ fun o st => match o with
  | .cell i => match st[i]? with
    | some (.obj c ks ds) => if c ∈ cs ∧ ks.length < 1000 then .nx ρ (st.set i (.obj c (putK f ks) (putD f d ks ds))) else .stuck
    | _ => .stuck
  | _ => .stuck
theorem ds_fldO (hc : FldOk X.K cs f) (ho : DE X W o mo) (hv : DE X W value me) (hs : swapsWith value (some (.Attribute o f pos')) pos.line X.env = pure false) :
    DS X W (.Assign [.Attribute o f pos'] value pos) (sFldO cs f mo me) := ps_weak (ps_fld ho hv hs) fun E σ H ⟨g, ρ, st, R, k⟩ =>
  ⟨g, ρ, st, R, (FinS.toS k).imp fun x H1 ⟨g1, st1, d, e1, R1, r1, k1⟩ => ⟨g1, ρ, st1, R1, (FinS.toS k1).imp fun y H2 ⟨g2, st2, d2, e2, R2, r2, k2⟩ => by
    have r1 := r1.mono e2
    split at k2
    · rename_i i
      split at k2
      · rename_i c ks ds hst
        by_cases hm : c ∈ cs ∧ ks.length < 1000
        · rw [if_pos hm] at k2
          cases r2 with
          | @cell _ a h1 =>
            obtain ⟨n, C, dx, fv, hns, ha, hk, r⟩ := R2.cell i a _ h1 hst
            obtain ⟨c1, c2⟩ := hc c hm.1 C hns
            refine ⟨a, C, dx, fv, rfl, ha, c1, c2, by rw [← List.length_map (f := (·.1)), hk]; exact hm.2, ?_⟩
            refine FinS.nxt k2 (R2.write h1 hst n ⟨n, C, dx, _, hns, upd_same, by rw [putF_keys, hk], ?_⟩)
            rw [putF_vals, hk]
            exact r.putD r1
        · rw [if_neg hm] at k2
          exact k2.elim
      · exact k2.elim
    · exact k2.elim⟩⟩
end
/-! ### methods -/
structure TabM (P : Program) (w : World) (K : PySem.W.Frag) (mg : MG) (base : Heap) (k : Nat) (mn : Str) (n : Nat) (tab : List (Str × Fn)) : Prop where
  ats : ∀ c f, tab.lookup c = some f → ∀ C, PySem.W.nsIn K mainGlobals c = some (some (.ref C)) → ∃ fa fd ps, Cls K C ∧ Meth K C mn fa ∧ Fk P w K mg base k fa fd ps f ∧ ps.length = n + 1 ∧ ∀ (s : Shared) (us : List Value), K.In s.heap → us.length = n + 1 → BindsTo s fd ⟨us, []⟩ (ps.zip us)
/-- o.mn(..) -/
def mMethO (tab : List (Str × Fn)) (mn : Str) (mo : ME) (ms : MEs) : ME := fun ρ st => (mo ρ st).bind fun o st => match objOf o st with
  | some (c, ks, _) => match tab.lookup c with
    | some f => if mn ∈ ks then .stuck else (ms ρ st).bind fun ds st => f (o :: ds) st
    | none => .stuck
  | none => .stuck
section
variable {X : Cx} {W : WX} {e o : Expr} {es : List Expr} {mo : ME} {ms : MEs} {mn : Str} {pos apos p : Pos} {k n : Nat} {tab : List (Str × Fn)}
theorem meth_fin {g : G} {σ : L2.St} {ρ : Ro} {r : Res D} {Q : V → Hp → Prop} (h : FinG X.K X.mg W (pD X.K) g σ ρ (r.bind fun o st => match objOf o st with
  | some (c, ks, _) => match tab.lookup c with
    | some f => if mn ∈ ks then .stuck else (ms ρ st).bind fun ds st => f (o :: ds) st
    | none => .stuck
  | none => .stuck) Q) (T : TabM X.prog X.w X.K X.mg X.base k mn n tab) : FinG X.K X.mg W (pD X.K) g σ ρ r (fun x H1 => ∃ g1 st1 d, Rl X.K g1 σ H1 ρ st1 ∧ Rd X.K g1 d x ∧ ∃ a C dx fv fa fd ps f, x = .ref a ∧ H1 a = some (.ins C dx fv) ∧ fv.lookup mn = none ∧ Cls X.K C ∧ Meth X.K C mn fa ∧
      Fk X.prog X.w X.K X.mg X.base k fa fd ps f ∧ ps.length = n + 1 ∧ (∀ (s : Shared) (us : List Value), X.K.In s.heap → us.length = n + 1 → BindsTo s fd ⟨us, []⟩ (ps.zip us)) ∧ FinG X.K X.mg W (pD X.K) g1 σ ρ ((ms ρ st1).bind fun ds st => f (d :: ds) st) Q) :=
  (FinG.bind h).imp fun x H1 ⟨g1, st1, d, e1, R1, r1, k1⟩ => by
    cases ho : objOf d st1 with
    | none => rw [ho] at k1; exact k1.elim
    | some t =>
      obtain ⟨c, ks, ds⟩ := t
      rw [ho] at k1
      dsimp only at k1
      cases hl : tab.lookup c with
      | none => rw [hl] at k1; exact k1.elim
      | some f =>
        rw [hl] at k1
        dsimp only at k1
        by_cases hm : mn ∈ ks
        · rw [if_pos hm] at k1
          exact k1.elim
        · rw [if_neg hm] at k1
          obtain ⟨a, C, dx, fv, rfl, hns, ha, hk, r⟩ := obj_at R1 r1 ho
          obtain ⟨fa, fd, ps, h1, h2, h3, h4, h5⟩ := T.ats c f hl C hns
          exact ⟨g1, st1, d, R1, r1, a, C, dx, fv, fa, fd, ps, f, rfl, ha, look_none (hk.symm ▸ hm), h1, h2, h3, h4, h5, k1⟩
theorem de_methO {pl : Sem Bool} (T : TabM X.prog X.w X.K X.mg X.base k mn (es.length + 1) tab) (hr : Room k X.A) (gd : X.A.guards = some []) (tk : Takes X W) (ho : DE X W o mo) (ha : DA X W (e :: es) ms) (hl : Len (e :: es).length ms)
    (hst : starEach (e :: es) X.env = (false, eval e X.env) :: starEach es X.env) (hpl : (backTo pos (starEach es X.env)).any (·.1) = false)
    (ht : eval (.Call (.Attribute o mn apos) (e :: es) [] pos) X.env = (do
      let ov ← eval o X.env
      standAt apos.atName
      let (f, first) ← holding [ov] (getMethod ov mn pl)
      callWith pos f first (backTo pos (starEach (e :: es) X.env)) (backToKw pos (keywordEach [] X.env)))) :
    DE X W (.Call (.Attribute o mn apos) (e :: es) [] pos) (mMethO tab mn mo ms) := by
  refine ⟨fun pins s σ H Q I h => ?_⟩
  obtain ⟨g, ρ, st, R, q⟩ := h
  refine PySem.W.methodCall_KW (pl := pl) (thn (ho.run pins s σ H _ I ⟨g, ρ, st, R, meth_fin q T⟩) fun u s1 ⟨x, H1, I1, rx, g1, st1, d, R1, rd, a, C, dx, fv, fa, fd, ps, f, ex, ea, l, c, hm, F, hps, hb, q1⟩ => ?_) ht
  subst ex
  obtain rfl : u = Value.ref a := rx
  refine getmeth_ok I1 ea c hm l ?_
  refine PySem.W.callWith_K (first := [.ref a]) (h₀ := X.base) I.ok.mod.kin hm.kp (thn (ha.run pos pins s1 σ H1 _ I1 ⟨g1, ρ, st1, R1, len_bind hl q1⟩) fun us s2 ⟨vs, H2, I2, r, g2, st2, ds, e2, R2, rds, hds, q2⟩ => ⟨I2.kIn, ?_⟩) hst hpl
  have hlu : us.length = es.length + 1 := by rw [← r.length, ← rds.length, hds]; rfl
  refine wpAny_call (codeAny_mono (fk_run (us := .ref a :: us) (vs := .ref a :: vs) F hr gd tk I2 R2 (hb s2 (.ref a :: us) I2.kIn (by rw [List.length_cons, hlu])) (.cons rfl r) (by rw [List.length_cons, r.length, hlu, hps]) (.cons (rd.mono e2) rds) q2) fun r s' hq => ?_)
  cases r with
  | error e => exact hq
  | ok fl =>
    cases fl with
    | ret u => exact hq
    | next => exact False.elim hq
    | brk => exact False.elim hq
    | cont => exact False.elim hq
theorem de_methO0 {pl : Sem Bool} (T : TabM X.prog X.w X.K X.mg X.base k mn 0 tab) (hr : Room k X.A) (gd : X.A.guards = some []) (tk : Takes X W) (ho : DE X W o mo)
    (ht : eval (.Call (.Attribute o mn apos) [] [] pos) X.env = (do
      let ov ← eval o X.env
      standAt apos.atName
      let (f, first) ← holding [ov] (getMethod ov mn pl)
      callWith pos f first (backTo pos (starEach [] X.env)) (backToKw pos (keywordEach [] X.env)))) :
    DE X W (.Call (.Attribute o mn apos) [] [] pos) (mMethO tab mn mo mNil) := by
  refine ⟨fun pins s σ H Q I h => ?_⟩
  obtain ⟨g, ρ, st, R, q⟩ := h
  refine PySem.W.methodCall_KW (pl := pl) (thn (ho.run pins s σ H _ I ⟨g, ρ, st, R, meth_fin q T⟩) fun u s1 ⟨x, H1, I1, rx, g1, st1, d, R1, rd, a, C, dx, fv, fa, fd, ps, f, ex, ea, l, c, hm, F, hps, hb, q1⟩ => ?_) ht
  subst ex
  obtain rfl : u = Value.ref a := rx
  refine getmeth_ok I1 ea c hm l ?_
  refine PySem.W.callWith_K0 (first := [.ref a]) I1.kIn hm.kp (wpAny_call (codeAny_mono (fk_run (us := [.ref a]) (vs := [.ref a]) F hr gd tk I1 R1 (hb s1 [.ref a] I1.kIn rfl) (.cons rfl .nil) (by rw [hps]; rfl) (.cons rd .nil) q1) fun r s' hq => ?_))
  cases r with
  | error e => exact hq
  | ok fl =>
    cases fl with
    | ret u => exact hq
    | next => exact False.elim hq
    | brk => exact False.elim hq
    | cont => exact False.elim hq
end
/-! ### making -/
theorem make_guards {A : Around} {C : Addr} {us : List Value} {kw : List (Str × Value)} (h : A.guards = some []) : (A.under (.builtin "type.__call__" ⟨.ref C :: us, kw⟩)).guards = some [] := by
  first
    | (simp [Around.under, Code.guards, Code.isGuard, guardIds, pushGuards, h]; done)
    | (unfold Around.under; rw [h]; rfl)
/-- what a class's __init__ made -/
noncomputable def made (fz : Bool) (st1 : Sto) (r : Res D) : Res D := match r with
  | .ok .non st2 => fin fz st1 (.cell st1.length) st2
  | .exc c n d st2 => finX c n st1 d st2
  | _ => .stuck
/-- C(..) -/
noncomputable def mMakeO (fz : Bool) (c : Str) (f : Fn) (ds0 : List D) (ms : MEs) : ME := fun ρ st => (ms ρ st).bind fun ds st1 => made fz st1 (f (.cell st1.length :: ds ++ ds0) (st1 ++ [.obj c [] []]))
section
variable {X : Cx} {W : WX} {e o : Expr} {es : List Expr} {mo : ME} {ms : MEs} {x c : Str} {pos p : Pos} {k n : Nat} {C fa : Addr} {fd : FuncData} {ps : List Str} {f : Fn} {ds0 : List D} {us0 : List Value} {fz : Bool}
theorem make_runO {pins : List (Addr × Obj)} {σ : L2.St} {H : Hp} {s : Shared} {g : G} {ρ : Ro} {st : Sto} {Q : VK} {us : List Value} {vs : List V} {ds : List D} (hns : PySem.W.nsIn X.K mainGlobals c = some (some (.ref C))) (M : Mk X.K C fa) (F : Fk X.prog X.w X.K X.mg X.base k fa fd ps f) (hr : Room (k + 1) X.A) (gd : X.A.guards = some []) (tk : Takes X W)
    (B : FBind X.K fd ps (n + 1) ds0 us0) (I : Inv X pins σ H s) (R : Rl X.K g σ H ρ st) (r : Vals vs us) (hl : us.length = n) (rd : RdL X.K g ds vs)
    (q : FinG X.K X.mg W (pD X.K) g σ ρ (made fz st (f (.cell st.length :: ds ++ ds0) (st ++ [.obj c [] []]))) Q) :
    wpAny (model X.prog X.w) X.A (call (.ref C) us) (EP X pins σ Q) X.xe s := by
  have hx : H (s.heap.objs.size + 1) = none := I.hok.fresh (Nat.le_succ _)
  have hdx : H s.heap.objs.size = none := I.hok.fresh (Nat.le_refl _)
  have hne : s.heap.objs.size + 1 ≠ s.heap.objs.size := Nat.ne_of_gt (Nat.lt_succ_self _)
  have I2 := Inv.made (C := C) I
  obtain ⟨vs0, r0, rd0⟩ := B.rel
  have R1 := R.put (o := .own (s.heap.objs.size + 1)) hdx
  have hx1 : (upd H s.heap.objs.size (.own (s.heap.objs.size + 1))) (s.heap.objs.size + 1) = none := by rw [upd_ne hne]; exact hx
  have R2 := R1.more (o := .ins C s.heap.objs.size []) (c := .obj c [] []) hx1 ⟨R1.fresh hx1, C, _, [], hns, upd_same, rfl, .nil⟩
  have E2 : Ext g ((g.put s.heap.objs.size (.own (s.heap.objs.size + 1))).more (s.heap.objs.size + 1)) := (R.put_ext hdx).trans (G.more_ext _ _)
  have rself : Rd X.K ((g.put s.heap.objs.size (.own (s.heap.objs.size + 1))).more (s.heap.objs.size + 1)) (.cell st.length) (.ref (s.heap.objs.size + 1)) := .cell (more_at R1 _)
  have r2 : Vals (V.ref (s.heap.objs.size + 1) :: vs ++ vs0) (Value.ref (s.heap.objs.size + 1) :: us ++ us0) := (show Vals (V.ref (s.heap.objs.size + 1) :: vs) (Value.ref (s.heap.objs.size + 1) :: us) from .cons rfl r).append r0
  have rd2 := (RdL.cons rself (RdL.mono E2 rd)).append (rd0 _)
  have hlen : (V.ref (s.heap.objs.size + 1) :: vs ++ vs0).length = ps.length := by
    rw [r2.length, ← B.len]
    simp [hl]
    omega
  have hq : spOf X.K X.mg ps.length f (V.ref (s.heap.objs.size + 1) :: vs ++ vs0) (upd (upd H s.heap.objs.size (.own (s.heap.objs.size + 1))) (s.heap.objs.size + 1) (.ins C s.heap.objs.size [])) (fun v H2 => v = .non ∧ Q (.ref (s.heap.objs.size + 1)) H2) (fun c d H => W c d σ H) := by
    refine ⟨hlen, _, _, _, R2.bare, rd2, ?_⟩
    revert q
    cases f (.cell st.length :: ds ++ ds0) (st ++ [.obj c [] []]) with
    | ok d st2 =>
      cases d with
      | non =>
        intro q g' H' b e' R' rb
        cases rb
        exact ⟨rfl, fin_run R (E2.trans e') R' (rself.mono e') q⟩
      | _ => exact fun q => q.elim
    | exc cc nn d st2 => exact fun q g' H' cls dx v e' R' hc hxd rv => finX_run R (E2.trans e') R' hc hxd rv q
    | stuck => exact fun q => q.elim
  refine wpAny_call (make_map (f := fa) I.kIn M.makes M.init (beq_iff_eq.mp M.fn) (codeAny_mono (F.run _ X.stack _ _ ⟨Value.ref (s.heap.objs.size + 1) :: us, []⟩ (Value.ref (s.heap.objs.size + 1) :: us ++ us0) _ _ (fun c d H => W c d σ H) (hr.make C us [])
    (make_guards gd) (I2.env0.make C us []) (B.bind _ (Value.ref (s.heap.objs.size + 1) :: us) I2.kIn (by rw [List.length_cons, hl])) r2 hq) fun r s' hq' => ?_))
  cases r with
  | error e => exact tk e s' (XE.of_call I2 (fun _ _ _ h => h) hq')
  | ok fl =>
    cases fl with
    | ret u =>
      obtain ⟨v, H', I3, rv, ev, q3⟩ := I2.after hq'
      subst ev
      exact ⟨rv, ⟨V.ref (s.heap.objs.size + 1), H', I3, rfl, q3⟩⟩
    | next => exact False.elim hq'
    | brk => exact False.elim hq'
    | cont => exact False.elim hq'
theorem de_makeO (hns : PySem.W.nsIn X.K mainGlobals c = some (some (.ref C))) (M : Mk X.K C fa) (F : Fk X.prog X.w X.K X.mg X.base k fa fd ps f) (hr : Room (k + 1) X.A) (gd : X.A.guards = some []) (tk : Takes X W) (hg : Gl X x) (hm : X.mg x = some (.ref C))
    (B : FBind X.K fd ps (es.length + 1 + 1) ds0 us0) (ha : DA X W (e :: es) ms) (hl : Len (e :: es).length ms) (hdb : (x == ("__debug__" : Str)) = false) (he : starEach (e :: es) X.env = (false, eval e X.env) :: starEach es X.env) (hpl : (backTo pos (starEach es X.env)).any (·.1) = false) :
    DE X W (.Call (.Name x p) (e :: es) [] pos) (mMakeO fz c f ds0 ms) := by
  refine ⟨fun pins s σ H Q I h => ?_⟩
  obtain ⟨g, ρ, st, R, q⟩ := h
  refine wpAny_Call_Name_kw (ld_glob I hg hm ?_ hdb)
  refine PySem.W.callWith_K (h₀ := X.base) I.ok.mod.kin M.kp (thn (ha.run pos pins s σ H _ I ⟨g, ρ, st, R, len_bind (h := fun ds st1 => made fz st1 (f (.cell st1.length :: ds ++ ds0) (st1 ++ [.obj c [] []]))) hl q⟩) fun us s1 ⟨vs, H1, I1, r, g1, st1, ds, e1, R1, rd, hds, q1⟩ => ⟨I1.kIn, ?_⟩) he hpl
  exact make_runO (n := es.length + 1) hns M F hr gd tk B I1 R1 r (by show us.length = _; rw [← r.length, ← rd.length, hds]; rfl) rd q1
theorem de_makeO0 (hns : PySem.W.nsIn X.K mainGlobals c = some (some (.ref C))) (M : Mk X.K C fa) (F : Fk X.prog X.w X.K X.mg X.base k fa fd ps f) (hr : Room (k + 1) X.A) (gd : X.A.guards = some []) (tk : Takes X W) (hg : Gl X x) (hm : X.mg x = some (.ref C))
    (B : FBind X.K fd ps 1 ds0 us0) (hdb : (x == ("__debug__" : Str)) = false) : DE X W (.Call (.Name x p) [] [] pos) (mMakeO fz c f ds0 mNil) := by
  refine ⟨fun pins s σ H Q I h => ?_⟩
  obtain ⟨g, ρ, st, R, q⟩ := h
  refine wpAny_Call_Name_kw (ld_glob I hg hm ?_ hdb)
  exact PySem.W.callWith_K0 I.kIn M.kp (make_runO (n := 0) (us := []) (ds := []) hns M F hr gd tk B I R .nil rfl .nil q)
end
end P3

/-! P4B: while, zip. -/
namespace P3
open PySem PySem.Spec PyProof.Rows L2
def wLoop (t : MT) (b : MS) : Nat → Ro → Sto → RS
  | 0, _, _ => .stuck
  | f + 1, ρ, st => (t ρ st).toS ρ fun k st => if k then (match b ρ st with
    | .nx ρ' st' => wLoop t b f ρ' st'
    | .ct ρ' st' => wLoop t b f ρ' st'
    | .bk ρ' st' => .nx ρ' st'
    | r => r) else .nx ρ st
def sWhile (t : MT) (b : MS) : MS := fun ρ st => wLoop t b 1000000 ρ st
section
variable {X : Cx} {W : WX} {c e e2 : Expr} {body : List Stmt} {tt : MT} {b : MS} {pos tpos p : Pos} {elts : List Expr} {kk : Nat} {ms : MEs}
theorem ds_while (hp : PassesOwn (model X.prog X.w) X.A X.env X.xe) (hc : DT X W c tt) (hb : DSs X W body b) : DS X W (.While c body [] pos) (sWhile tt b) := ps_weak (ps_while hp hc hb) fun E σ H ⟨g, ρ, st, R, k⟩ => by
  refine ⟨fun m σ' H' => ∃ g' ρ' st', Rl X.K g' σ' H' ρ' st' ∧ FinS X.K X.mg W g' (wLoop tt b m ρ' st') E, ⟨1000000, g, ρ, st, R, k⟩, ?_⟩
  rintro m σ2 H2 ⟨g2, ρ2, st2, R2, k2⟩
  cases m with
  | zero => exact k2.elim
  | succ f =>
    refine ⟨g2, ρ2, st2, R2, (FinS.toS (P := pB) k2).imp fun q H1 ⟨g1, st1, kb, e1, R1, eq, k1⟩ => ?_⟩
    obtain rfl : q = kb := eq
    cases q with
    | false => exact FinS.nxt k1 R1
    | true =>
      have k1 : FinS X.K X.mg W g1 (match b ρ2 st1 with
        | .nx ρ' st' => wLoop tt b f ρ' st'
        | .ct ρ' st' => wLoop tt b f ρ' st'
        | .bk ρ' st' => .nx ρ' st'
        | r => r) E := k1
      show ∃ N : L2.St → Hp → Prop, _ ∧ _
      refine ⟨fun σ' H' => ∃ g' ρ' st', Rl X.K g' σ' H' ρ' st' ∧ FinS X.K X.mg W g' (wLoop tt b f ρ' st') E, fun σ' H' h => ⟨f, Nat.lt_succ_self f, h⟩, g1, ρ2, st1, R1, ?_⟩
      cases hbd : b ρ2 st1 with
      | nx ρ' st' =>
        rw [hbd] at k1
        exact fun g' H'' σ'' e' R'' => ⟨g', ρ', st', R'', FinS.ext k1 e'⟩
      | ct ρ' st' =>
        rw [hbd] at k1
        exact fun g' H'' σ'' e' R'' => ⟨g', ρ', st', R'', FinS.ext k1 e'⟩
      | bk ρ' st' =>
        rw [hbd] at k1
        exact fun g' H'' σ'' e' R'' => k1 g' H'' σ'' e' R''
      | rt d st' =>
        rw [hbd] at k1
        exact k1
      | exc c n d ρ' st' =>
        rw [hbd] at k1
        exact k1
      | stuck => rw [hbd] at k1; exact k1.elim
/-! ### zip of two -/
def srcZp (S T : Src) : Src := ⟨fun i st => match S.nxt i st, T.nxt i st with
  | some (some x), some (some y) => some (some (.tup [x, y]))
  | some _, some _ => some none
  | _, _ => none, S.fuel⟩
def srcZip (ds : List D) (st : Sto) : Res Src := match ds with
  | [d, e] => match view d st, view e st with
    | .lst l, .lst _ => .ok (srcZp (srcL d (l.length + 1)) (srcL e 0)) st
    | .tup l, .tup m => .ok (srcZp (srcT l) (srcT m)) st
    | _, _ => .stuck
  | _ => .stuck
theorem zp_none {S T : Src} {i : Nat} {st : Sto} (h : (srcZp S T).nxt i st = some none) : ∃ x y, S.nxt i st = some x ∧ T.nxt i st = some y ∧ (x = none ∨ y = none) := by
  have h : (match S.nxt i st, T.nxt i st with
    | some (some x), some (some y) => some (some (D.tup [x, y]))
    | some _, some _ => some none
    | _, _ => none) = some none := h
  cases q : S.nxt i st with
  | none => rw [q] at h; cases h
  | some x =>
    cases q2 : T.nxt i st with
    | none => rw [q, q2] at h; cases x <;> cases h
    | some y =>
      refine ⟨x, y, rfl, rfl, ?_⟩
      cases x with
      | none => exact .inl rfl
      | some x =>
        cases y with
        | none => exact .inr rfl
        | some y => rw [q, q2] at h; cases h
theorem zp_some {S T : Src} {i : Nat} {st : Sto} {d : D} (h : (srcZp S T).nxt i st = some (some d)) : ∃ x y, S.nxt i st = some (some x) ∧ T.nxt i st = some (some y) ∧ d = .tup [x, y] := by
  have h : (match S.nxt i st, T.nxt i st with
    | some (some x), some (some y) => some (some (D.tup [x, y]))
    | some _, some _ => some none
    | _, _ => none) = some (some d) := h
  cases q : S.nxt i st with
  | none => rw [q] at h; cases h
  | some x =>
    cases q2 : T.nxt i st with
    | none => rw [q, q2] at h; cases x <;> cases h
    | some y =>
      cases x with
      | none => rw [q, q2] at h; cases h
      | some x =>
        cases y with
        | none => rw [q, q2] at h; cases h
        | some y => rw [q, q2] at h; cases h; exact ⟨x, y, rfl, rfl, rfl⟩
theorem srcL_at {d : D} {n i : Nat} {st : Sto} {o : Option D} (h : (srcL d n).nxt i st = some o) : ∃ l, view d st = .lst l ∧ l[i]? = o := by
  have h : (match view d st with
    | .lst l => some l[i]?
    | _ => none) = some o := h
  split at h
  · rename_i l hl
    exact ⟨l, hl, Option.some.inj h⟩
  · cases h
theorem none_at {K : PySem.W.Frag} {g : G} {ds : List D} {vs : List V} {i : Nat} (r : RdL K g ds vs) (h : ds[i]? = none) : vs.length ≤ i := by
  rw [← r.length]
  exact List.getElem?_eq_none_iff.mp h
theorem di_zip (hg : Gl X "zip") (hm : X.mg "zip" = none) (ha : DA X W [e, e2] ms) (hl : Len 2 ms) (hs : starEach [e, e2] X.env = (false, eval e X.env) :: starEach [e2] X.env) (hpl : (backTo pos (starEach [e2] X.env)).any (·.1) = false) :
    DI X W (.Tuple elts kk tpos) (.Call (.Name "zip" p) [e, e2] [] pos) (iOn srcZip ms) :=
  pi_weak (RZ.pi_zipA hg hm ha hs hpl) fun σ H R0 ⟨g, ρ, st, R, k⟩ => ⟨g, ρ, st, R, by
    refine (len_bind hl (show FinG X.K X.mg W (fun g S J => SrcOk X.K g S J) g σ ρ ((ms ρ st).bind srcZip) R0 from k)).imp fun vs H1 ⟨g1, st1, ds, e1, R1, rd, hds, k1⟩ => ?_
    match ds, hds, rd, k1 with
    | [d, d2], _, rd, k1 =>
      obtain ⟨x, y, rfl, r1, r2⟩ := rd.two
      have k1 : FinG X.K X.mg W (fun g S J => SrcOk X.K g S J) g1 σ ρ (match view d st1, view d2 st1 with
        | .lst l, .lst _ => .ok (srcZp (srcL d (l.length + 1)) (srcL d2 0)) st1
        | .tup l, .tup m => .ok (srcZp (srcT l) (srcT m)) st1
        | _, _ => .stuck) R0 := k1
      split at k1
      · rename_i l m h1 h2
        obtain ⟨a, xs, rfl, ha1, q1⟩ := at_lst R1 r1 h1
        obtain ⟨b, ys, rfl, hb1, q2⟩ := at_lst R1 r2 h2
        refine ⟨a, b, xs, ys, rfl, .inl ⟨.inl (.inl ha1), .inl (.inl hb1), FinG.now k1 R1 ?_⟩⟩
        intro g' σ' H' ρ' st' i e' R'
        refine ⟨fun h => ?_, fun z h => ?_⟩
        · obtain ⟨o1, o2, h3, h4, h5⟩ := zp_none h
          obtain ⟨l', v1, w1⟩ := srcL_at h3
          obtain ⟨m', v2, w2⟩ := srcL_at h4
          obtain ⟨a', xs', ea, ha', p1⟩ := at_lst R' (r1.mono e') v1
          obtain ⟨b', ys', eb, hb', p2⟩ := at_lst R' (r2.mono e') v2
          cases ea
          cases eb
          refine ⟨xs', ys', .inl (.inl ha'), .inl (.inl hb'), ?_⟩
          rcases h5 with rfl | rfl
          · exact .inl (none_at p1 w1)
          · exact .inr (none_at p2 w2)
        · obtain ⟨o1, o2, h3, h4, rfl⟩ := zp_some h
          obtain ⟨l', v1, w1⟩ := srcL_at h3
          obtain ⟨m', v2, w2⟩ := srcL_at h4
          obtain ⟨a', xs', ea, ha', p1⟩ := at_lst R' (r1.mono e') v1
          obtain ⟨b', ys', eb, hb', p2⟩ := at_lst R' (r2.mono e') v2
          cases ea
          cases eb
          obtain ⟨u1, hu1, ru1⟩ := p1.get w1
          obtain ⟨u2, hu2, ru2⟩ := p2.get w2
          refine ⟨⟨xs', ys', u1, u2, .inl (.inl ha'), .inl (.inl hb'), hu1, hu2⟩, fun v H'' yl => ?_⟩
          obtain ⟨T, x0, y0, rfl, hT, rfl, f1, f2⟩ := yl
          have f1 := f1 _ (.inl (.inl ha'))
          have f2 := f2 _ (.inl (.inl hb'))
          rw [hu1] at f1
          rw [hu2] at f2
          cases f1
          cases f2
          exact ⟨g'.put T (.tup [u1, u2]), R'.put_ext hT, R'.put hT, .tup (.inl G.put_at) (.cons (ru1.mono (R'.put_ext hT)) (.cons (ru2.mono (R'.put_ext hT)) .nil))⟩
      · rename_i l m h1 h2
        obtain ⟨a, xs, rfl, ha1, q1⟩ := at_tup r1 h1
        obtain ⟨b, ys, rfl, hb1, q2⟩ := at_tup r2 h2
        refine ⟨a, b, xs, ys, rfl, .inr ⟨stu_sq R1.im ha1, stu_sq R1.im hb1, FinG.now k1 R1 ?_⟩⟩
        intro g' σ' H' ρ' st' i e' R'
        have sa : SqT X.K H' a xs := stu_sq R'.im (stu_im e'.1 ha1)
        have sb : SqT X.K H' b ys := stu_sq R'.im (stu_im e'.1 hb1)
        refine ⟨fun h => ?_, fun z h => ?_⟩
        · obtain ⟨o1, o2, h3, h4, h5⟩ := zp_none h
          have h3 : l[i]? = o1 := Option.some.inj h3
          have h4 : m[i]? = o2 := Option.some.inj h4
          refine ⟨xs, ys, sa, sb, ?_⟩
          rcases h5 with rfl | rfl
          · exact .inl (none_at q1 h3)
          · exact .inr (none_at q2 h4)
        · obtain ⟨o1, o2, h3, h4, rfl⟩ := zp_some h
          have h3 : l[i]? = some o1 := Option.some.inj h3
          have h4 : m[i]? = some o2 := Option.some.inj h4
          obtain ⟨u1, hu1, ru1⟩ := q1.get h3
          obtain ⟨u2, hu2, ru2⟩ := q2.get h4
          refine ⟨⟨xs, ys, u1, u2, sa, sb, hu1, hu2⟩, fun v H'' yl => ?_⟩
          obtain ⟨T, x0, y0, rfl, hT, rfl, f1, f2⟩ := yl
          have f1 := f1 _ sa
          have f2 := f2 _ sb
          rw [hu1] at f1
          rw [hu2] at f2
          cases f1
          cases f2
          exact ⟨g'.put T (.tup [u1, u2]), R'.put_ext hT, R'.put hT, .tup (.inl G.put_at) (.cons ((ru1.mono e').mono (R'.put_ext hT)) (.cons ((ru2.mono e').mono (R'.put_ext hT)) .nil))⟩
      · exact k1.elim⟩
end
end P3

/-! P4C: isinstance of an own class. -/
namespace P3
open PySem PySem.Spec PyProof.Rows L2
def kinds : List String := ["NoneType", "bool", "int", "str", "list", "tuple", "dict"]
/-- what isinstance asks of a class -/
structure ClsIs (K : PySem.W.Frag) (C : Addr) : Prop where
  cl : Cls K C
  ha : PySem.W.findIn K (.ref C) "__class__" = some (some (.builtin "object.__class__"))
  hn : PySem.W.specialIn K (.builtin "object.__class__") "__get__" = some (some (.builtin "getset_descriptor.__get__"))
  tk : PySem.W.takesIn K (.builtin "object.__class__") = some true
  hm : PySem.W.mroIn K C (.type "object") = some true
  self : PySem.W.kitOne K (.ref C) (.ref C) = some true
  no : ∀ t ∈ kinds, PySem.W.kitOne K (.type t) (.ref C) = some false
theorem tyS_kinds {d : D} {t : String} (h : tyS d = some t) : t ∈ kinds := by
  cases d <;> simp only [tyS, Option.some.injEq, reduceCtorEq] at h <;> subst h <;> decide
def fIsiO (c : Str) (ds : List D) (st : Sto) : Res D := match ds with
  | [d, .code c'] => if c' = c then (match objOf d st with
      | some (c2, _, _) => if c2 = c then .ok (.bl true) st else .stuck
      | none => match tyS (view d st) with
        | some _ => .ok (.bl false) st
        | none => .stuck) else .stuck
  | _ => .stuck
theorem cd_isiO {X : Cx} {W : WX} {c : Str} (hc : ∀ C, PySem.W.nsIn X.K mainGlobals c = some (some (.ref C)) → ClsIs X.K C) : CalD X W (.builtin "isinstance") (fIsiO c) := by
  intro pins s σ' H xs us Q I rs h
  obtain ⟨g, σ, ρ, st, ds, R, r, k⟩ := h
  unfold fIsiO at k
  split at k
  · rename_i d c'
    obtain ⟨x, y, rfl, r1, r2⟩ := r.two
    by_cases hcc : c' = c
    · rw [if_pos hcc] at k
      subst hcc
      cases r2 with
      | @code _ C hns =>
        have hi := hc C hns
        cases ho : objOf d st with
        | some t =>
          obtain ⟨c2, ks, es⟩ := t
          rw [ho] at k
          dsimp only at k
          by_cases h2 : c2 = c'
          · rw [if_pos h2] at k
            subst h2
            obtain ⟨a, C2, dx, fv, rfl, hns2, ha, hk, rr⟩ := obj_at R r1 ho
            rw [hns] at hns2
            cases hns2
            exact call_isi pins s σ' H _ us Q I rs ⟨.ref a, .ref C, .ref C, .ref C, true, rfl, .own C, .base (.ins ha hi.cl hi.ha hi.hn hi.tk hi.hm), hi.self, FinG.now k R (.bl _)⟩
          · rw [if_neg h2] at k
            exact k.elim
        | none =>
          rw [ho] at k
          dsimp only at k
          cases ht : tyS (view d st) with
          | none => rw [ht] at k; exact k.elim
          | some t =>
            rw [ht] at k
            exact call_isi pins s σ' H _ us Q I rs ⟨x, .ref C, .type t, .ref C, false, rfl, .own C, ty_of R r1 ht, hi.no t (tyS_kinds ht), FinG.now k R (.bl _)⟩
    · rw [if_neg hcc] at k
      exact k.elim
  · exact k.elim
end P3

/-! P4D: == by an own __eq__. -/
namespace P3
open PySem PySem.Spec PyProof.Rows L2
theorem ty_looks {X : Cx} {M : Model} {pins : List (Addr × Obj)} {σ' : L2.St} {H : Hp} {s : Shared} {g : G} {σ : L2.St} {ρ : Ro} {st : Sto} {d : D} {v : V} {u : Value} {t : String} (I : L2.Inv X pins σ' H s) (R : Rl X.K g σ H ρ st) (r : Rd X.K g d v) (rv : RelV v u) (h : tyS (view d st) = some t) : PySem.W.Looks M s.heap (typeOf u) (.type t) := by
  cases e : view d st with
  | non =>
    rw [e] at h; cases h
    have : d = .non := by
      cases d with
      | cell i => rcases cell_of e with ⟨_, _, q⟩ | ⟨_, _, q⟩ | q <;> cases q
      | _ => exact e
    subst this
    cases r
    cases (show u = Value.none from rv)
    exact .of_pure rfl
  | bl b =>
    rw [e] at h; cases h
    have : d = .bl b := by
      cases d with
      | cell i => rcases cell_of e with ⟨_, _, q⟩ | ⟨_, _, q⟩ | q <;> cases q
      | _ => exact e
    subst this
    cases r
    cases (show u = Value.bool b from rv)
    exact .of_pure rfl
  | int i =>
    rw [e] at h; cases h
    rw [at_int r e] at rv
    obtain ⟨tk, rfl⟩ := (show ∃ tk, u = Value.int i tk from rv)
    exact .of_pure rfl
  | str i =>
    rw [e] at h; cases h
    rw [at_str r e] at rv
    obtain ⟨tk, rfl⟩ := (show ∃ tk, u = Value.str i tk from rv)
    exact .of_pure rfl
  | lst l =>
    rw [e] at h; cases h
    obtain ⟨p, xs, rfl, e1, q1⟩ := at_lst R r e
    cases (show u = Value.ref p from rv)
    obtain ⟨_, _, n, _, h1⟩ := (show ObjOk X.prog X.w H s.heap p (.lst xs) from I.hok p _ e1)
    exact (PySem.W.Looks.ld h1).andThen .now
  | tup l =>
    rw [e] at h; cases h
    obtain ⟨p, xs, rfl, e1, q1⟩ := at_tup r e
    cases (show u = Value.ref p from rv)
    obtain ⟨its, rvs, p', hz⟩ := I.tuple (stu_sq R.im e1)
    obtain ⟨o, h1, h2, _⟩ := p'
    exact h2 ▸ (PySem.W.Looks.ld h1).andThen .now
  | dic l =>
    rw [e] at h; cases h
    obtain ⟨p, xs, rfl, e1, q1⟩ := at_dic R r e
    cases (show u = Value.ref p from rv)
    obtain ⟨_, _, vs, _, o, es, ep, h1, h2, _⟩ := dk_rd I.hok e1
    exact h2.1 ▸ (PySem.W.Looks.ld h1).andThen .now
  | cell i => rw [e] at h; cases h
  | scr i => rw [e] at h; cases h
  | ty i => rw [e] at h; cases h
  | code i => rw [e] at h; cases h
  | ob => rw [e] at h; cases h
def fBool (ds : List D) (st : Sto) : Res D := match ds with
  | [.int i] => .ok (.bl (i != 0)) st
  | [.bl k] => .ok (.bl k) st
  | _ => .stuck
theorem cd_bool {X : Cx} {W : WX} : CalD X W (.type "bool") fBool := cr_weak call_bool1 fun xs H Q ⟨g, σ, ρ, st, ds, R, r, k⟩ => by
  unfold fBool at k
  split at k
  · obtain ⟨x, rfl, r1⟩ := r.one
    cases r1
    exact .inl ⟨_, rfl, FinG.now k R (.bl _)⟩
  · obtain ⟨x, rfl, r1⟩ := r.one
    cases r1
    exact .inr ⟨_, rfl, FinG.now k R (.bl _)⟩
  · exact k.elim
/-- what == asks of the right side's type -/
def EqSide (K : PySem.W.Frag) (C : Addr) : Prop := ∀ t ∈ kinds, PySem.W.notFirst K C (.type t) = true
def blR (r : Res D) : Res D := r.bind fun d st => match d with
  | .bl b => .ok (.bl b) st
  | _ => .stuck
def sideOk (c : Str) (y : D) (st : Sto) : Bool := match objOf y st with
  | some (c2, _, _) => decide (c2 = c)
  | none => (tyS (view y st)).isSome
def fEqO (tab : List (Str × Fn)) (x y : D) (st : Sto) : Res D := match objOf x st with
  | some (c, _, _) => match tab.lookup c with
    | some f => if sideOk c y st then blR (f [x, y] st) else .stuck
    | none => .stuck
  | none => fEqX x y st
theorem od_eqO {X : Cx} {W : WX} {k : Nat} {tab : List (Str × Fn)} (T : TabM X.prog X.w X.K X.mg X.base k "__eq__" 1 tab) (hs : ∀ c f, tab.lookup c = some f → ∀ C, PySem.W.nsIn X.K mainGlobals c = some (some (.ref C)) → EqSide X.K C) (hr : Room k X.A) (gd : X.A.guards = some []) (tk : Takes X W) : OpD X W (compareOp .Eq) (fEqO tab) := by
  intro pins s σ H g ρ st x y v u dx dy Q I R rx ry r1 r2 q
  unfold fEqO at q
  cases ho : objOf dx st with
  | none =>
    rw [ho] at q
    exact od_eqX (W := W) (by have := hr.un; omega) pins s σ H g ρ st x y v u dx dy Q I R rx ry r1 r2 q
  | some t =>
    obtain ⟨c, ks, ds⟩ := t
    rw [ho] at q
    dsimp only at q
    cases hl : tab.lookup c with
    | none => rw [hl] at q; exact q.elim
    | some f =>
      rw [hl] at q
      dsimp only at q
      by_cases hk : sideOk c dy st = true
      · rw [if_pos hk] at q
        obtain ⟨a, C, dxa, fv, rfl, hns, ha, hkk, rr⟩ := obj_at R r1 ho
        obtain ⟨fa, fd, ps, hcl, hm, F, hps, hb⟩ := T.ats c f hl C hns
        cases (show v = Value.ref a from rx)
        have hE := hs c f hl C hns
        obtain ⟨mA, J, _⟩ := ins_get I.hok ha
        obtain ⟨od, J, _⟩ := J.look
        obtain ⟨m, hF⟩ := I.fr
        have hside : ∃ tb, PySem.W.Looks (model X.prog X.w) s.heap (typeOf u) tb ∧ PySem.W.notFirst X.K C tb = true := by
          unfold sideOk at hk
          cases ho2 : objOf dy st with
          | some t2 =>
            obtain ⟨c2, ks2, ds2⟩ := t2
            rw [ho2] at hk
            have hc2 : c2 = c := by simpa using hk
            subst hc2
            obtain ⟨b, C2, dxb, fvb, rfl, hns2, hb2, _⟩ := obj_at R r2 ho2
            rw [hns] at hns2
            cases hns2
            cases (show u = Value.ref b from ry)
            obtain ⟨mB, J', _⟩ := ins_get I.hok hb2
            obtain ⟨od', J', _⟩ := J'.look
            exact ⟨.ref C, J'.type, by simp [PySem.W.notFirst]⟩
          | none =>
            rw [ho2] at hk
            cases ht : tyS (view dy st) with
            | none => rw [ht] at hk; cases hk
            | some t => exact ⟨.type t, ty_looks I R r2 ry ht, hE t (tyS_kinds ht)⟩
        obtain ⟨tb, hL, hN⟩ := hside
        show wpAny (model X.prog X.w) X.A (richCompare .Eq (.ref a) u) (EP X pins σ Q) X.xe s
        refine PySem.W.cmp_K (op := .Eq) (tb := tb) hr.units0 hF I.ok.mod.kin J hL hN hm.at_ hm.fn ?_
        have q' : FinG X.K X.mg W (pD X.K) g σ ρ (f [dx, dy] st) (fun z H' => ∃ b, z = .bl b ∧ Q (.bl b) H') := by
          revert q
          unfold blR
          cases f [dx, dy] st with
          | ok d st2 =>
            cases d with
            | bl b =>
              intro q g' H' z e' R' rz
              cases rz
              exact ⟨b, rfl, q g' H' (.bl b) e' R' (.bl b)⟩
            | _ => exact fun q => q.elim
          | exc cc n d st2 => exact fun q => q
          | stuck => exact fun q => q.elim
        refine wpAny_call (codeAny_mono (fk_run (us := [.ref a, u]) (vs := [.ref a, y]) F hr gd tk I R (hb s [.ref a, u] I.kIn rfl) (.cons rfl (.cons ry .nil)) (by rw [hps]; rfl) (.cons r1 (.cons r2 .nil)) q') fun r s' hq => ?_)
        cases r with
        | error e => exact hq
        | ok fl =>
          cases fl with
          | ret w =>
            obtain ⟨z, H', I', rz, b, rfl, q3⟩ := hq
            cases (show w = Value.bool b from rz)
            exact ⟨.bl b, H', I', rfl, q3⟩
          | next => exact False.elim hq
          | brk => exact False.elim hq
          | cont => exact False.elim hq
      · rw [if_neg hk] at q
        exact q.elim
end P3

/-! P3M: from the text to what it does. -/
noncomputable section
namespace P3
open PySem PySem.Spec PyProof.Rows L2

/-! ### what is known of a module's name -/
inductive GE where
  | val (d : D)
  | fn (f : Fn) (np : Option Nat) (sigs : List Sig)
  /-- an own exception with one field; which clauses take it -/
  | exc (n : Str) (ms : List (Str × Bool))
  /-- an own class: how it is made, its fields, its methods (with how many arguments) -/
  | cls (init : Option (Bool × Fn × List (Nat × List D))) (flds : List Str) (mths : List (Str × Nat × Fn))
structure CC where
  N : List Str
  sc : Scope
  fnc : Str → Bool
  gl : List (Str × GE)
  bl : List Str
  cl : List (Nat × Nat)
/-- what is known of a class -/
structure ClsAll (K : PySem.W.Frag) (mg : MG) (P : Program) (w : World) (base : Heap) (k : Nat) (x : Str) (flds : List Str) (mths : List (Str × Nat × Fn)) (C : Addr) : Prop where
  ns : PySem.W.nsIn K mainGlobals x = some (some (.ref C))
  at_ : mg x = some (.ref C)
  is : ClsIs K C
  sd : EqSide K C
  fl : ∀ f ∈ flds, NoAttr K C f
  ms : ∀ mn n f, (mn, n, f) ∈ mths → ∃ fa fd ps, Meth K C mn fa ∧ Fk P w K mg base k fa fd ps f ∧ ps.length = n + 1 ∧ ∀ (s : Shared) (us : List Value), K.In s.heap → us.length = n + 1 → BindsTo s fd ⟨us, []⟩ (ps.zip us)
theorem ClsAll.mono {K : PySem.W.Frag} {mg : MG} {P : Program} {w : World} {base : Heap} {j k : Nat} {x : Str} {flds : List Str} {mths : List (Str × Nat × Fn)} {C : Addr} (h : ClsAll K mg P w base j x flds mths C) (hk : j ≤ k) : ClsAll K mg P w base k x flds mths C :=
  ⟨h.ns, h.at_, h.is, h.sd, h.fl, fun mn n f hm => let ⟨fa, fd, ps, a, b, c, d⟩ := h.ms mn n f hm; ⟨fa, fd, ps, a, b.mono hk, c, d⟩⟩
/-- how a class is made -/
structure MakeOk (K : PySem.W.Frag) (mg : MG) (P : Program) (w : World) (base : Heap) (k : Nat) (x : Str) (C : Addr) (f : Fn) (nps : List (Nat × List D)) : Prop where
  ex : ∃ fa fd ps j, j + 1 ≤ k ∧ mg x = some (.ref C) ∧ Mk K C fa ∧ Fk P w K mg base j fa fd ps f ∧ ∀ n ds0, (n, ds0) ∈ nps → ∃ us0, FBind K fd ps (n + 1) ds0 us0
theorem MakeOk.mono {K : PySem.W.Frag} {mg : MG} {P : Program} {w : World} {base : Heap} {j k : Nat} {x : Str} {C : Addr} {f : Fn} {nps : List (Nat × List D)} (h : MakeOk K mg P w base j x C f nps) (hk : j ≤ k) : MakeOk K mg P w base k x C f nps :=
  let ⟨fa, fd, ps, i, a, b⟩ := h.ex; ⟨fa, fd, ps, i, Nat.le_trans a hk, b⟩
inductive GOk (K : PySem.W.Frag) (mg : MG) (P : Program) (w : World) (base : Heap) (k : Nat) (x : Str) : GE → Prop
  | val {d : D} {u : Value} {v : V} : mg x = some u → RelV v u → (∀ g, Rd K g d v) → GOk K mg P w base k x (.val d)
  | fn {f : Fn} {np : Option Nat} {sigs : List Sig} {a : Addr} {fd : FuncData} {ps : List Str} : PySem.W.nsIn K mainGlobals x = some (some (.ref a)) → mg x = some (.ref a) → PySem.W.keepIn K (.ref a) = true → Fk P w K mg base k a fd ps f →
      (∀ n, np = some n → ps.length = n ∧ ∀ (s : Shared) (us : List Value), K.In s.heap → us.length = ps.length → BindsTo s fd ⟨us, []⟩ (ps.zip us)) → (∀ S ∈ sigs, SigOk K fd ps S) → GOk K mg P w base k x (.fn f np sigs)
  | exc {n : Str} {ms : List (Str × Bool)} {C : Addr} : 2 ≤ k → ErrC P w K mg base x n → mg x = some (.ref C) → XfC K C → PySem.W.findIn K (.ref C) n = some none → (∀ y b, ms.lookup y = some b → ∃ c, mg y = some c ∧ PySem.W.exmOne K (.ref C) c = some b) → GOk K mg P w base k x (.exc n ms)
  | cls {init : Option (Bool × Fn × List (Nat × List D))} {flds : List Str} {mths : List (Str × Nat × Fn)} {C : Addr} : ClsAll K mg P w base k x flds mths C → (∀ fz f nps, init = some (fz, f, nps) → MakeOk K mg P w base k x C f nps) → GOk K mg P w base k x (.cls init flds mths)
structure Fits (c : CC) (X : Cx) (W : WX) : Prop where
  N : X.N = c.N
  nd : c.N.Nodup
  sc : X.env.scope = c.sc
  kind : c.sc.kind = .function
  calm : X.calm = true
  gl : ∃ k, Room k X.A ∧ ∀ p ∈ c.gl, GOk X.K X.mg X.prog X.w X.base k p.1 p.2
  gd : X.A.guards = some []
  tk : Takes X W
  bl : ∀ x ∈ c.bl, X.mg x = none
  fn : ∀ x, c.fnc x = true → X.fn x = true
section
variable {c : CC} {X : Cx} {W : WX}
theorem Fits.units (F : Fits c X W) : X.A.units + 200 < cLine := by
  obtain ⟨k, hr, _⟩ := F.gl
  have := hr.un
  omega
theorem Fits.kOf (F : Fits c X W) (x : Str) : X.env.kindOf x = c.sc.names.lookup x := by
  show X.env.scope.names.lookup x = _
  rw [F.sc]
end
/-! ### small checks -/
def chk (b : Bool) : Option Unit := if b then some () else none
theorem chk_some {b : Bool} {u : Unit} : chk b = some u ↔ b = true := by cases b <;> simp [chk]
def ixOf : List Str → Str → Option Nat
  | [], _ => none
  | y :: l, x => if y == x then some 0 else (ixOf l x).map (· + 1)
theorem ixOf_at : ∀ {l : List Str} {x : Str} {i : Nat}, ixOf l x = some i → l[i]? = some x
  | [], _, _, h => by cases h
  | y :: l, x, i, h => by
    unfold ixOf at h
    split at h
    · cases h
      rename_i e
      rw [eq_of_beq e]
      rfl
    · rw [Option.map_eq_some_iff] at h
      obtain ⟨j, h1, rfl⟩ := h
      show l[j]? = some x
      exact ixOf_at h1
def isK (o : Option NameKind) (k : NameKind) : Bool := match o, k with
  | some .local, .local => true
  | some .cell, .cell => true
  | some .free, .free => true
  | some .globalImplicit, .globalImplicit => true
  | _, _ => false
theorem isK_eq {o : Option NameKind} {k : NameKind} (h : isK o k = true) : o = some k := by
  unfold isK at h
  split at h <;> first | rfl | cases h
def visB (sc : Scope) (x : Str) : Bool := isK (sc.names.lookup x) .local || isK (sc.names.lookup x) .cell || isK (sc.names.lookup x) .free
theorem vis_of {sc : Scope} {x : Str} (h : visB sc x = true) : Vis sc x := by
  unfold visB at h
  rw [Bool.or_eq_true, Bool.or_eq_true] at h
  rcases h with (h | h) | h
  · exact .inl (isK_eq h)
  · exact .inr (.inl (isK_eq h))
  · exact .inr (.inr (isK_eq h))
def glbB (sc : Scope) (x : Str) : Bool := isK (sc.names.lookup x) .globalImplicit
def stoB (c : CC) (x : Str) : Bool := isK (c.sc.names.lookup x) .local || (isK (c.sc.names.lookup x) .cell && c.fnc x)
def okName (x : Str) : Bool := !(x == ("__debug__" : Str)) && !(x == ("__classdict__" : Str)) && !(x == ("__name__" : Str))
theorem okName_d {x : Str} (h : okName x = true) : (x == ("__debug__" : Str)) = false ∧ (x == ("__classdict__" : Str)) = false ∧ x ≠ "__name__" := by
  unfold okName at h
  simp only [Bool.and_eq_true, Bool.not_eq_true'] at h
  exact ⟨h.1.1, h.1.2, fun e => by rw [e] at h; exact absurd h.2 (by simp)⟩
def cellAt (c : CC) (p : Pos) : Bool := c.cl.any fun q => q.1 == p.line && q.2 == p.col
def noStars (es : List Expr) : Bool := es.all fun e => !isStar e
theorem star_cons {env : Env} {e : Expr} {es : List Expr} (h : isStar e = false) : starEach (e :: es) env = (false, eval e env) :: starEach es env := by
  cases e <;> first | rfl | cases h
theorem noStar_any {env : Env} {pos : Pos} : ∀ {es : List Expr}, noStars es = true → (backTo pos (starEach es env)).any (·.1) = false
  | [], _ => rfl
  | e :: es, h => by
    have h' : (!isStar e && noStars es) = true := h
    rw [Bool.and_eq_true, Bool.not_eq_true'] at h'
    rw [star_cons h'.1]
    show (false || (backTo pos (starEach es env)).any (·.1)) = false
    rw [noStar_any h'.2]
    rfl
theorem noStar_all {env : Env} {pos : Pos} : ∀ {es : List Expr}, noStars es = true → (backTo pos (starEach es env)).all (fun x => !x.1) = true
  | [], _ => rfl
  | e :: es, h => by
    have h' : (!isStar e && noStars es) = true := h
    rw [Bool.and_eq_true, Bool.not_eq_true'] at h'
    rw [star_cons h'.1]
    show (!false && (backTo pos (starEach es env)).all (fun x => !x.1)) = true
    rw [noStar_all h'.2]
    rfl
theorem noStar_len {env : Env} {pos : Pos} : ∀ {es : List Expr}, noStars es = true → (backTo pos (starEach es env)).length = es.length
  | [], _ => rfl
  | e :: es, h => by
    have h' : (!isStar e && noStars es) = true := h
    rw [Bool.and_eq_true, Bool.not_eq_true'] at h'
    rw [star_cons h'.1]
    show (backTo pos (starEach es env)).length + 1 = es.length + 1
    rw [noStar_len h'.2]
def plainT : Expr → Bool
  | .UnaryOp .Not _ _ => false
  | .BoolOp .. => false
  | .IfExp .. => false
  | .Compare .. => false
  | _ => true
theorem plainT_is {a : Expr} (h : plainT a = true) (env : Env) (whole : Sem Value) : isTrue a env whole = (do let v ← whole; standAt a.pos; holding [v] (truthy v)) := by
  cases a with
  | UnaryOp op x p => cases op <;> first | rfl | cases h
  | _ => first | rfl | cases h
def isSlice : Expr → Bool
  | .Slice .. => true
  | _ => false
theorem plainIx_of {b : Expr} (h : isSlice b = false) : PlainIx b := fun o i => by cases b <;> first | rfl | cases h
def isComp : Expr → Bool
  | .ListComp .. => true
  | .SetComp .. => true
  | .DictComp .. => true
  | _ => false
theorem swaps_no {e : Expr} (h : isComp e = false) (t : Option Expr) (n : Nat) (env : Env) : swapsWith e t n env = pure false := by cases e <;> first | rfl | cases h
def isTupE : Expr → Bool
  | .Tuple .. => true
  | _ => false
theorem swst_no {e tg : Expr} (h : isTupE e = false) (env : Env) : swappedStores [tg] e env = pure none := by
  cases e <;> first | cases h | skip
  all_goals (cases tg <;> rfl)
def isSetE : Expr → Bool
  | .Set .. => true
  | _ => false
theorem folded_no {e : Expr} (h : isSetE e = false) (env : Env) (x : Value) : foldedSetIterable e env x = pure x := by cases e <;> first | rfl | cases h
def isSuper : Expr → Bool
  | .Call (.Name ..) _ _ _ => true
  | _ => false
def kwNames : List Keyword → Option (List Str)
  | [] => some []
  | ⟨some n, _, _⟩ :: l => (kwNames l).map (n :: ·)
  | _ :: _ => none
theorem kw_all {env : Env} {pos : Pos} : ∀ {ks : List Keyword} {l : List Str}, kwNames ks = some l → (backToKw pos (keywordEach ks env)).all (·.1.isSome) = true ∧ (backToKw pos (keywordEach ks env)).filterMap (·.1) = l ∧ (backToKw pos (keywordEach ks env)).any (·.1.isNone) = false
  | [], l, h => by cases h; exact ⟨rfl, rfl, rfl⟩
  | ⟨some n, e, p⟩ :: ks, l, h => by
    have h' : (kwNames ks).map (n :: ·) = some l := h
    rw [Option.map_eq_some_iff] at h'
    obtain ⟨l', h1, rfl⟩ := h'
    obtain ⟨i1, i2, i3⟩ := kw_all (env := env) (pos := pos) h1
    refine ⟨?_, ?_, ?_⟩
    · show (true && (backToKw pos (keywordEach ks env)).all (·.1.isSome)) = true
      rw [i1]
      rfl
    · show n :: (backToKw pos (keywordEach ks env)).filterMap (·.1) = n :: l'
      rw [i2]
    · show (false || (backToKw pos (keywordEach ks env)).any (·.1.isNone)) = false
      rw [i3]
      rfl
  | ⟨none, _, _⟩ :: _, _, h => by cases h
def strEq (a b : List Str) : Bool := a == b
/-! ### the tables -/
def binF (b : Bool) : Operator → Option (D → D → Sto → Res D)
  | .Add => some (fAdd b)
  | .Sub => some fSub
  | .Mult => some (fMul b)
  | .FloorDiv => some fFdiv
  | .Mod => some fMod
  | .Pow => some fPow
  | _ => none
theorem binF_ok {X : Cx} {W : WX} {b : Bool} {op : Operator} {f : D → D → Sto → Res D} (h : binF b op = some f) : OpD X W (binaryOp op) f := by
  cases op <;> simp only [binF, Option.some.injEq, reduceCtorEq] at h <;> subst h
  · exact od_add b
  · exact od_sub
  · exact od_mul b
  · exact od_mod
  · exact od_pow
  · exact od_fdiv
def cmpF : CmpOp → Option (D → D → Sto → Res D)
  | .Eq => some fEqX
  | .NotEq => some fNe
  | .Lt => some fLt
  | .LtE => some fLe
  | .Gt => some fGt
  | .GtE => some fGe
  | .In => some fIn
  | .NotIn => some fNotIn
  | .Is => some fIs
  | .IsNot => some fIsNot
theorem cmpF_ok {X : Cx} {W : WX} {op : CmpOp} {f : D → D → Sto → Res D} (hu : X.A.units + 200 < cLine) (h : cmpF op = some f) : OpD X W (compareOp op) f := by
  have hu' : X.A.units + 64 < cLine := by omega
  cases op <;> simp only [cmpF, Option.some.injEq] at h <;> subst h
  · exact od_eqX hu'
  · exact od_ne hu'
  · exact od_lt
  · exact od_le
  · exact od_gt
  · exact od_ge
  · exact od_is
  · exact od_isNot
  · exact od_in (by omega)
  · exact od_notIn (by omega)
/-- built-in functions, built-in types that are called -/
def bltF (b : Bool) : List (Str × Value × (List D → Sto → Res D)) :=
  [("len", .builtin "len", fLen), ("isinstance", .builtin "isinstance", fIsi), ("repr", .builtin "repr", fRepr), ("max", .builtin "max", fMax), ("min", .builtin "min", fMin), ("all", .builtin "all", fAll), ("any", .builtin "any", fAny),
    ("tuple", .type "tuple", fTupleOf), ("list", .type "list", fListOf b), ("int", .type "int", fIntOf), ("bool", .type "bool", fBool), ("abs", .builtin "abs", fAbs), ("sorted", .builtin "sorted", fSorted b), ("dict", .type "dict", fDictOf b)]
theorem find_mem {α β : Type} [BEq α] [LawfulBEq α] {l : List (α × β)} {a : α} {b : β} (h : l.lookup a = some b) : (a, b) ∈ l := lookup_mem h
theorem bltF_ok {X : Cx} {W : WX} (hc : X.calm = true) (hu : X.A.units + 200 < cLine) (gd : X.A.guards = some []) {b : Bool} {x : Str} {v : Value} {f : List D → Sto → Res D} (h : (x, v, f) ∈ bltF b) : CalD X W v f ∧ bootBuiltins x = some v ∧ ((∃ i, v = .builtin i) ∨ ∃ T, v = .type T) := by
  simp only [bltF, List.mem_cons, Prod.mk.injEq, List.not_mem_nil, or_false] at h
  rcases h with ⟨rfl, rfl, rfl⟩ | ⟨rfl, rfl, rfl⟩ | ⟨rfl, rfl, rfl⟩ | ⟨rfl, rfl, rfl⟩ | ⟨rfl, rfl, rfl⟩ | ⟨rfl, rfl, rfl⟩ | ⟨rfl, rfl, rfl⟩ | ⟨rfl, rfl, rfl⟩ | ⟨rfl, rfl, rfl⟩ | ⟨rfl, rfl, rfl⟩ | ⟨rfl, rfl, rfl⟩ | ⟨rfl, rfl, rfl⟩ | ⟨rfl, rfl, rfl⟩ | ⟨rfl, rfl, rfl⟩
  · exact ⟨cd_len, by decide +kernel, .inl ⟨_, rfl⟩⟩
  · exact ⟨cd_isi, by decide +kernel, .inl ⟨_, rfl⟩⟩
  · exact ⟨cd_repr gd hu, by decide +kernel, .inl ⟨_, rfl⟩⟩
  · exact ⟨cd_max hc, by decide +kernel, .inl ⟨_, rfl⟩⟩
  · exact ⟨cd_min hc, by decide +kernel, .inl ⟨_, rfl⟩⟩
  · exact ⟨cd_all hc, by decide +kernel, .inl ⟨_, rfl⟩⟩
  · exact ⟨cd_any hc, by decide +kernel, .inl ⟨_, rfl⟩⟩
  · exact ⟨cd_tuple, by decide +kernel, .inr ⟨_, rfl⟩⟩
  · exact ⟨cd_list b, by decide +kernel, .inr ⟨_, rfl⟩⟩
  · exact ⟨cd_int, by decide +kernel, .inr ⟨_, rfl⟩⟩
  · exact ⟨cd_bool, by decide +kernel, .inr ⟨_, rfl⟩⟩
  · exact ⟨cd_abs, by decide +kernel, .inl ⟨_, rfl⟩⟩
  · exact ⟨cd_sorted hc b, by decide +kernel, .inl ⟨_, rfl⟩⟩
  · exact ⟨cd_dict hc b, by decide +kernel, .inr ⟨_, rfl⟩⟩
/-- built-in types as values -/
def tyF : List (Str × String) := [("int", "int"), ("str", "str"), ("bool", "bool"), ("list", "list"), ("tuple", "tuple"), ("dict", "dict")]
theorem tyF_ok {x : Str} {T : String} (h : (x, T) ∈ tyF) : bootBuiltins x = some (.type T) := by
  simp only [tyF, List.mem_cons, Prod.mk.injEq, List.not_mem_nil, or_false] at h
  rcases h with ⟨rfl, rfl⟩ | ⟨rfl, rfl⟩ | ⟨rfl, rfl⟩ | ⟨rfl, rfl⟩ | ⟨rfl, rfl⟩ | ⟨rfl, rfl⟩ <;> decide +kernel
/-- methods of built-in types -/
structure MethOk (X : Cx) (W : WX) (name : Str) (T : String) (f : D → List D → Sto → Res D) : Prop where
  ex : ∃ idn, PlainAttrs T ∧ Slot T name idn ∧ typeOf (.builtin idn) = pure (.type "method_descriptor") ∧ MtD X W idn f
def mthF : List (Str × String × (D → List D → Sto → Res D)) := [("join", "str", fJoin), ("lower", "str", fStr0 Txt.lower), ("upper", "str", fStr0 Txt.upper), ("find", "str", fFind), ("endswith", "str", fEnds), ("append", "list", fAppend), ("reverse", "list", fReverse), ("clear", "list", fClear), ("pop", "list", fPop)]
theorem mthF_ok {X : Cx} {W : WX} {name : Str} {T : String} {f : D → List D → Sto → Res D} (h : (name, T, f) ∈ mthF) : MethOk X W name T f := by
  simp only [mthF, List.mem_cons, Prod.mk.injEq, List.not_mem_nil, or_false] at h
  rcases h with ⟨rfl, rfl, rfl⟩ | ⟨rfl, rfl, rfl⟩ | ⟨rfl, rfl, rfl⟩ | ⟨rfl, rfl, rfl⟩ | ⟨rfl, rfl, rfl⟩ | ⟨rfl, rfl, rfl⟩ | ⟨rfl, rfl, rfl⟩ | ⟨rfl, rfl, rfl⟩ | ⟨rfl, rfl, rfl⟩
  · exact ⟨_, PySem.F.plainAttrs_str, PySem.F.slot_str_join, rfl, md_join⟩
  · exact ⟨_, PySem.F.plainAttrs_str, PySem.F.slot_str_lower, rfl, md_lower⟩
  · exact ⟨_, PySem.F.plainAttrs_str, PySem.F.slot_str_upper, rfl, md_upper⟩
  · exact ⟨_, PySem.F.plainAttrs_str, PySem.F.slot_str_find, rfl, md_find⟩
  · exact ⟨_, PySem.F.plainAttrs_str, PySem.F.slot_str_endswith, rfl, md_ends⟩
  · exact ⟨_, PySem.F.plainAttrs_list, PySem.F.slot_list_append, rfl, md_append⟩
  · exact ⟨_, PySem.F.plainAttrs_list, PySem.F.slot_list_reverse, rfl, md_reverse⟩
  · exact ⟨_, PySem.F.plainAttrs_list, PySem.F.slot_list_clear, rfl, md_clear⟩
  · exact ⟨_, PySem.F.plainAttrs_list, PySem.F.slot_list_pop, rfl, md_pop⟩
end P3

/-! P3N: the compiler of expressions, and that it is right. -/
noncomputable section
namespace P3
open PySem PySem.Spec PyProof.Rows L2
structure Recs where
  e : CC → Expr → Option ME
  t : CC → Expr → Option MT
  i : CC → Bool → Expr → Option MI
structure Sound (r : Recs) : Prop where
  e : ∀ {c X W e m}, Fits c X W → r.e c e = some m → DE X W e m
  t : ∀ {c X W e m}, Fits c X W → r.t c e = some m → DT X W e m
  i : ∀ {c X W b e m}, Fits c X W → r.i c b e = some m → ∀ tg, (b = true → isTupE tg = true) → DI X W tg e m
/-! ### lists -/
def cEs (f : Expr → Option ME) : List Expr → Option MEs
  | [] => some mNil
  | e :: es => (chk (!isStar e)).bind fun _ => (f e).bind fun m => (cEs f es).map fun ms => mCons m ms
def cKs (f : Expr → Option ME) : List Keyword → Option MEs
  | [] => some mNil
  | k :: ks => (f k.value).bind fun m => (cKs f ks).map fun ms => mCons m ms
theorem Len.cons {n : Nat} {m : ME} {ms : MEs} (h : Len n ms) : Len (n + 1) (mCons m ms) := len_cons h
theorem Len.nil : Len 0 mNil := fun _ _ _ _ => len_nil
section
variable {X : Cx} {W : WX} {f : Expr → Option ME}
theorem cEs_ok (hf : ∀ {e m}, f e = some m → DE X W e m) : ∀ {es : List Expr} {ms : MEs}, cEs f es = some ms → DA X W es ms ∧ Len es.length ms ∧ noStars es = true
  | [], ms, h => by
    cases h
    exact ⟨da_nil, .nil, rfl⟩
  | e :: es, ms, h => by
    unfold cEs at h
    simp only [Option.bind_eq_some_iff, Option.map_eq_some_iff] at h
    obtain ⟨u, h1, m, h2, ms', h3, rfl⟩ := h
    rw [chk_some, Bool.not_eq_true'] at h1
    obtain ⟨i1, i2, i3⟩ := cEs_ok hf h3
    refine ⟨da_cons (hf h2) i1 (star_cons h1), i2.cons, ?_⟩
    show (!isStar e && noStars es) = true
    rw [h1, i3]
    rfl
theorem cKs_ok (hf : ∀ {e m}, f e = some m → DE X W e m) : ∀ {ks : List Keyword} {ms : MEs}, cKs f ks = some ms → DK X W ks ms ∧ Len ks.length ms
  | [], ms, h => by
    cases h
    exact ⟨dk_nil, .nil⟩
  | ⟨n, e, p⟩ :: ks, ms, h => by
    unfold cKs at h
    simp only [Option.bind_eq_some_iff, Option.map_eq_some_iff] at h
    obtain ⟨m, h2, ms', h3, rfl⟩ := h
    obtain ⟨i1, i2⟩ := cKs_ok hf h3
    exact ⟨dk_cons (hf h2) i1, i2.cons⟩
end
/-! ### and, or -/
def opT (op : BoolOp) (m k : MT) : MT := match op with
  | .And => tAndM m k
  | .Or => tOrM m k
def opV (op : BoolOp) (m k : ME) : ME := match op with
  | .And => mAndM m k
  | .Or => mOrM m k
def cW (f : Expr → Option MT) (op : BoolOp) : List Expr → Option MT
  | [] => none
  | [a] => f a
  | a :: es => (f a).bind fun m => (cW f op es).map fun k => opT op m k
theorem cW_ok {X : Cx} {W : WX} {f : Expr → Option MT} (hf : ∀ {e m}, f e = some m → DT X W e m) {op : BoolOp} {pos : Pos} : ∀ {es : List Expr} {m : MT}, cW f op es = some m → DW X W (.BoolOp op es pos) m
  | [], _, h => by cases h
  | [a], m, h => by
    have h : f a = some m := h
    cases op
    · exact dw_and1 (hf h)
    · exact dw_or1 (hf h)
  | a :: b :: es, m, h => by
    have h : ((f a).bind fun m => (cW f op (b :: es)).map fun k => opT op m k) = some m := h
    simp only [Option.bind_eq_some_iff, Option.map_eq_some_iff] at h
    obtain ⟨m1, h1, m2, h2, rfl⟩ := h
    have ih := cW_ok hf (pos := pos) h2
    cases op
    · exact dw_and (hf h1) ih
    · exact dw_or (hf h1) ih
def cV (f : Expr → Option ME) (op : BoolOp) : List Expr → Option ME
  | [] => none
  | [a] => f a
  | a :: es => (f a).bind fun m => (cV f op es).map fun k => opV op m k
theorem cV_ok {X : Cx} {W : WX} {f : Expr → Option ME} (hf : ∀ {e m}, f e = some m → DE X W e m) {op : BoolOp} {pos : Pos} : ∀ {es : List Expr} {m : ME}, cV f op es = some m → DE X W (.BoolOp op es pos) m
  | [], _, h => by cases h
  | [a], m, h => by
    have h : f a = some m := h
    exact de_one (hf h)
  | a :: b :: es, m, h => by
    have h : ((f a).bind fun m => (cV f op (b :: es)).map fun k => opV op m k) = some m := h
    simp only [Option.bind_eq_some_iff, Option.map_eq_some_iff] at h
    obtain ⟨m1, h1, m2, h2, rfl⟩ := h
    have ih := cV_ok hf (pos := pos) h2
    cases op
    · exact de_and (hf h1) ih
    · exact de_or (hf h1) ih
/-! ### names, constants -/
def cConst : Const → Option ME
  | .none => some (mC .non)
  | .bool b => some (mC (.bl b))
  | .int i => some (mC (.int i))
  | .str s => some (mC (.str s))
  | _ => none
theorem cConst_ok {X : Cx} {W : WX} {k : Const} {j : Nat} {pos : Pos} {m : ME} (h : cConst k = some m) : DE X W (.Constant k j pos) m := by
  cases k <;> simp only [cConst, Option.some.injEq, reduceCtorEq] at h <;> subst h
  · exact de_non
  · exact de_bl
  · exact de_int
  · exact de_str
def cName (c : CC) (x : Str) : Option ME := (chk (okName x)).bind fun _ =>
  if visB c.sc x then (ixOf c.N x).map mVar else (chk (glbB c.sc x)).bind fun _ => match c.gl.lookup x with
    | some (.val d) => some (mC d)
    | some (.fn ..) => some (mC (.code x))
    | some (.exc ..) => none
    | some (.cls ..) => none
    | none => (chk (c.bl.contains x)).bind fun _ => (tyF.lookup x).map fun T => mC (.ty T)
section
variable {c : CC} {X : Cx} {W : WX}
theorem Fits.gl_of (F : Fits c X W) {x : Str} (h : glbB c.sc x = true) : Gl X x := by
  show X.env.kindOf x = _
  rw [F.kOf]
  exact isK_eq h
theorem Fits.none_of (F : Fits c X W) {x : Str} (h : c.bl.contains x = true) : X.mg x = none := F.bl x (by simpa using h)
theorem Fits.at (F : Fits c X W) {x : Str} {i : Nat} (h : ixOf c.N x = some i) : X.N[i]? = some x := by
  rw [F.N]
  exact ixOf_at h
theorem cName_ok (F : Fits c X W) {x : Str} {pos : Pos} {m : ME} (h : cName c x = some m) : DE X W (.Name x pos) m := by
  unfold cName at h
  simp only [Option.bind_eq_some_iff] at h
  obtain ⟨_, h1, h⟩ := h
  obtain ⟨hd, hcd, hn⟩ := okName_d (chk_some.mp h1)
  split at h
  · rename_i hv
    rw [Option.map_eq_some_iff] at h
    obtain ⟨i, hi, rfl⟩ := h
    exact de_var (F.at hi) (by rw [F.sc]; exact vis_of hv) hd hcd
  · simp only [Option.bind_eq_some_iff] at h
    obtain ⟨_, hg, h⟩ := h
    have hg := F.gl_of (chk_some.mp hg)
    split at h
    · rename_i d hl
      cases h
      obtain ⟨k, _, hk⟩ := F.gl
      have q := hk _ (find_mem hl)
      cases q with
      | val q1 q2 q3 => exact de_glob hg ⟨_, _, q1, q2, q3⟩ hd
    · rename_i f np sigs hl
      cases h
      obtain ⟨k, _, hk⟩ := F.gl
      have q := hk _ (find_mem hl)
      cases q with
      | fn q0 q1 q2 q3 q4 q5 => exact de_glob hg ⟨_, .ref _, q1, rfl, fun g => .code q0⟩ hd
    · cases h
    · cases h
    · simp only [Option.bind_eq_some_iff, Option.map_eq_some_iff] at h
      obtain ⟨_, hb, T, hT, rfl⟩ := h
      exact de_const (pe_bltn hg (F.none_of (chk_some.mp hb)) (tyF_ok (find_mem hT)) (v := .ty T) rfl hn hd) fun _ => .ty T
/-! ### calls -/
def tabOf : List (Str × GE) → List (Str × Nat × Fn)
  | [] => []
  | (x, .fn g (some n) _) :: l => (x, n, g) :: tabOf l
  | _ :: l => tabOf l
theorem tabOf_at : ∀ {l : List (Str × GE)} {x : Str} {np : Nat} {f : Fn}, (tabOf l).lookup x = some (np, f) → ∃ sigs, (x, GE.fn f (some np) sigs) ∈ l
  | [], x, np, f, h => by cases h
  | (y, .fn g (some n) sg) :: l, x, np, f, h => by
    have h : List.lookup x ((y, n, g) :: tabOf l) = some (np, f) := h
    rw [List.lookup_cons] at h
    cases hxy : x == y with
    | true =>
      rw [hxy] at h
      cases h
      rw [eq_of_beq hxy]
      exact ⟨sg, List.mem_cons_self⟩
    | false =>
      rw [hxy] at h
      obtain ⟨s, hs⟩ := tabOf_at (l := l) h
      exact ⟨s, List.mem_cons_of_mem _ hs⟩
  | (y, .fn g none sg) :: l, x, np, f, h => let ⟨s, hs⟩ := tabOf_at (l := l) h; ⟨s, List.mem_cons_of_mem _ hs⟩
  | (y, .val d) :: l, x, np, f, h => let ⟨s, hs⟩ := tabOf_at (l := l) h; ⟨s, List.mem_cons_of_mem _ hs⟩
  | (y, .exc n ms) :: l, x, np, f, h => let ⟨s, hs⟩ := tabOf_at (l := l) h; ⟨s, List.mem_cons_of_mem _ hs⟩
  | (y, .cls i fl ms) :: l, x, np, f, h => let ⟨s, hs⟩ := tabOf_at (l := l) h; ⟨s, List.mem_cons_of_mem _ hs⟩
def cCall (f : Expr → Option ME) (c : CC) (cell : Bool) (x : Str) (args : List Expr) (ks : List Keyword) : Option ME :=
  (chk (okName x)).bind fun _ => if visB c.sc x then (match args, ks with
    | e :: es, [] => (ixOf c.N x).bind fun i => (cEs f (e :: es)).map fun ms => mCallV (tabOf c.gl) i (e :: es).length ms
    | _, _ => none) else (chk (glbB c.sc x)).bind fun _ => match c.gl.lookup x with
    | some (.fn g np sigs) => match args, ks with
      | [], [] => (chk (np == some 0)).map fun _ => fun _ st => g [] st
      | [], k0 :: ks0 => (kwNames (k0 :: ks0)).bind fun nms => (cKs f (k0 :: ks0)).bind fun mk => (sigs.find? fun S => S.n == 0 && S.ks == nms).map fun S => mKw mNil mk g S
      | e :: es, [] => (cEs f (e :: es)).bind fun ms => if np == some (e :: es).length then some (mOn g ms) else
          (sigs.find? fun S => S.n == (e :: es).length && S.ks == []).map fun S => mKw ms mNil g S
      | e :: es, ks => (cEs f (e :: es)).bind fun ms => (kwNames ks).bind fun nms => (cKs f ks).bind fun mk => (sigs.find? fun S => S.n == (e :: es).length && S.ks == nms).map fun S => mKw ms mk g S
    | some (.val _) => none
    | some (.exc ..) => none
    | some (.cls (some (fz, g, nps)) _ _) => match args, ks with
      | [], [] => (nps.lookup 0).map fun ds0 => mMakeO fz x g ds0 mNil
      | e :: es, [] => (nps.lookup (es.length + 1)).bind fun ds0 => (cEs f (e :: es)).map fun ms => mMakeO fz x g ds0 ms
      | _, _ => none
    | some (.cls none _ _) => none
    | none => match args, ks with
      | e :: es, [] => (chk (c.bl.contains x)).bind fun _ => (cEs f (e :: es)).bind fun ms => ((bltF cell).lookup x).map fun q => mOn q.2 ms
      | _, _ => none
theorem star_two {e : Expr} {es : List Expr} (i3 : noStars (e :: es) = true) : isStar e = false ∧ noStars es = true := by
  have i3 : (!isStar e && noStars es) = true := i3
  rw [Bool.and_eq_true, Bool.not_eq_true'] at i3
  exact i3
theorem kw_len : ∀ (ks : List Keyword) (l : List Str), kwNames ks = some l → ks.length = l.length
  | [], l, h => by cases h; rfl
  | ⟨none, v, p⟩ :: ks, l, h => by cases h
  | ⟨some n, v, p⟩ :: ks, l, h => by
    have h' : (kwNames ks).map (n :: ·) = some l := h
    rw [Option.map_eq_some_iff] at h'
    obtain ⟨l', h1, rfl⟩ := h'
    rw [List.length_cons, List.length_cons, kw_len _ _ h1]
theorem cCall_ok (F : Fits c X W) {f : Expr → Option ME} (hf : ∀ {e m}, f e = some m → DE X W e m) {cell : Bool} {x : Str} {args : List Expr} {ks : List Keyword} {p pos : Pos} {m : ME} (h : cCall f c cell x args ks = some m) : DE X W (.Call (.Name x p) args ks pos) m := by
  unfold cCall at h
  simp only [Option.bind_eq_some_iff] at h
  obtain ⟨_, h1, h⟩ := h
  obtain ⟨hd, hcd, hn⟩ := okName_d (chk_some.mp h1)
  by_cases hvis : visB c.sc x = true
  · rw [if_pos hvis] at h
    match args, ks, h with
    | [], _, h => cases h
    | _ :: _, _ :: _, h => cases h
    | e :: es, [], h =>
      dsimp only at h
      simp only [Option.bind_eq_some_iff, Option.map_eq_some_iff] at h
      obtain ⟨i, hi, ms, h3, rfl⟩ := h
      obtain ⟨i1, i2, i3⟩ := cEs_ok hf h3
      have i4 := star_two i3
      obtain ⟨k, hr, hk⟩ := F.gl
      have T : TabV X.prog X.w X.K X.mg X.base k (tabOf c.gl) := ⟨fun y np g hy a ha => by
        obtain ⟨sg, hm⟩ := tabOf_at hy
        have q := hk _ hm
        cases q with
        | fn q0 q1 q2 q3 q4 q5 =>
          rw [ha] at q0
          cases q0
          obtain ⟨l1, l2⟩ := q4 _ rfl
          exact ⟨_, _, q2, q3, l1, l2⟩⟩
      exact de_callV T hr F.gd F.tk (F.at hi) (by rw [F.sc]; exact vis_of hvis) i1 i2 hd hcd (star_cons i4.1) (noStar_any i4.2)
  rw [if_neg hvis] at h
  simp only [Option.bind_eq_some_iff] at h
  obtain ⟨_, h2, h⟩ := h
  have hg := F.gl_of (chk_some.mp h2)
  split at h
  · rename_i g np sigs hl
    obtain ⟨k, hr, hk⟩ := F.gl
    have q := hk _ (find_mem hl)
    cases q with
    | @fn _ _ _ a fd ps q0 q1 q2 q3 q4 q5 =>
      match args, ks, h with
      | [], [], h =>
        dsimp only at h
        rw [Option.map_eq_some_iff] at h
        obtain ⟨_, h3, rfl⟩ := h
        have h3 := chk_some.mp h3
        obtain ⟨e1, e2⟩ := q4 0 (eq_of_beq h3)
        have ep : ps = [] := List.length_eq_zero_iff.mp e1
        subst ep
        exact de_call0 q3 hr F.gd F.tk hg q1 q2 (fun s hs => e2 s [] hs rfl) hd
      | [], k0 :: ks0, h =>
        dsimp only at h
        simp only [Option.bind_eq_some_iff] at h
        obtain ⟨nms, h5, mk, h6, h⟩ := h
        rw [Option.map_eq_some_iff] at h
        obtain ⟨S, h4, rfl⟩ := h
        have hS := List.mem_of_find?_eq_some h4
        have hS2 := List.find?_some h4
        simp only [Bool.and_eq_true, beq_iff_eq] at hS2
        have B := q5 S hS
        obtain ⟨j1, j2⟩ := cKs_ok hf h6
        obtain ⟨k1, k2, k3⟩ := kw_all (env := X.env) (pos := pos) h5
        have hlk : (k0 :: ks0).length = S.ks.length := by
          rw [hS2.2]
          exact kw_len _ _ h5
        rw [hlk] at j2
        exact de_callK0 q3 hr F.gd F.tk hg q1 q2 B hS2.1 j1 j2 k1 (by rw [k2, hS2.2]) hd (by rw [k3]; rfl)
      | e :: es, [], h =>
        dsimp only at h
        simp only [Option.bind_eq_some_iff] at h
        obtain ⟨ms, h3, h⟩ := h
        obtain ⟨i1, i2, i3⟩ := cEs_ok hf h3
        have i4 := star_two i3
        split at h
        · rename_i hnp
          cases h
          obtain ⟨e1, e2⟩ := q4 _ (eq_of_beq hnp)
          rw [← e1] at i2
          exact de_callP q3 hr F.gd F.tk hg q1 q2 e2 i1 i2 hd (star_cons i4.1) (noStar_any i4.2)
        · rw [Option.map_eq_some_iff] at h
          obtain ⟨S, h4, rfl⟩ := h
          have hS := List.mem_of_find?_eq_some h4
          have hS2 := List.find?_some h4
          simp only [Bool.and_eq_true, beq_iff_eq] at hS2
          have B := q5 S hS
          rw [← hS2.1] at i2
          exact de_callK q3 hr F.gd F.tk hg q1 q2 B i1 i2 dk_nil (by rw [hS2.2]; exact .nil) rfl (by rw [hS2.2]; rfl) hd (star_cons i4.1) (by
            rw [show (backTo pos (starEach (e :: es) X.env)).any (·.1) = false from noStar_any i3]
            rfl)
      | e :: es, k0 :: ks0, h =>
        dsimp only at h
        simp only [Option.bind_eq_some_iff] at h
        obtain ⟨ms, h3, nms, h5, mk, h6, h⟩ := h
        obtain ⟨i1, i2, i3⟩ := cEs_ok hf h3
        have i4 := star_two i3
        rw [Option.map_eq_some_iff] at h
        obtain ⟨S, h4, rfl⟩ := h
        have hS := List.mem_of_find?_eq_some h4
        have hS2 := List.find?_some h4
        simp only [Bool.and_eq_true, beq_iff_eq] at hS2
        have B := q5 S hS
        obtain ⟨j1, j2⟩ := cKs_ok hf h6
        obtain ⟨k1, k2, k3⟩ := kw_all (env := X.env) (pos := pos) h5
        have hlk : (k0 :: ks0).length = S.ks.length := by
          rw [hS2.2]
          exact kw_len _ _ h5
        rw [← hS2.1] at i2
        rw [hlk] at j2
        exact de_callK q3 hr F.gd F.tk hg q1 q2 B i1 i2 j1 j2 k1 (by rw [k2, hS2.2]) hd (star_cons i4.1) (by
          rw [show (backTo pos (starEach (e :: es) X.env)).any (·.1) = false from noStar_any i3, k3]
          rfl)
  · cases h
  · cases h
  · rename_i fz g nps q6 q7 hl
    obtain ⟨k, hr, hk⟩ := F.gl
    have q := hk _ (find_mem hl)
    cases q with
    | @cls _ _ _ C q0 q1 =>
      obtain ⟨fa, fd, ps, j, hj, hmg, M, Fi, hB⟩ := (q1 _ _ _ rfl).ex
      have hr' := hr.mono hj
      match args, ks, h with
      | [], [], h =>
        dsimp only at h
        rw [Option.map_eq_some_iff] at h
        obtain ⟨ds0, h3, rfl⟩ := h
        obtain ⟨us0, B⟩ := hB _ _ (find_mem h3)
        exact de_makeO0 q0.ns M Fi hr' F.gd F.tk hg hmg B hd
      | [], _ :: _, h => cases h
      | e :: es, [], h =>
        dsimp only at h
        simp only [Option.bind_eq_some_iff, Option.map_eq_some_iff] at h
        obtain ⟨ds0, h3, ms, h4, rfl⟩ := h
        obtain ⟨us0, B⟩ := hB _ _ (find_mem h3)
        obtain ⟨i1, i2, i3⟩ := cEs_ok hf h4
        have i4 := star_two i3
        exact de_makeO q0.ns M Fi hr' F.gd F.tk hg hmg B i1 i2 hd (star_cons i4.1) (noStar_any i4.2)
      | _ :: _, _ :: _, h => cases h
  · cases h
  · match args, ks, h with
    | [], _, h => cases h
    | _ :: _, _ :: _, h => cases h
    | e :: es, [], h =>
      dsimp only at h
      simp only [Option.bind_eq_some_iff, Option.map_eq_some_iff] at h
      obtain ⟨_, hb, ms, h3, ⟨v, g⟩, h4, rfl⟩ := h
      obtain ⟨i1, i2, i3⟩ := cEs_ok hf h3
      have i4 := star_two i3
      have hm := F.none_of (chk_some.mp hb)
      obtain ⟨b1, b2, b3⟩ := bltF_ok (W := W) F.calm F.units F.gd (find_mem h4)
      rcases b3 with ⟨i, rfl⟩ | ⟨T, rfl⟩
      · exact de_callB b1 hg hm b2 i1 hn hd (star_cons i4.1) (noStar_any i4.2)
      · exact de_callTy b1 hg hm b2 i1 hn hd (star_cons i4.1) (noStar_any i4.2)
/-! ### methods of built-in types -/
def cMeth (f : Expr → Option ME) (o : Expr) (name : Str) (args : List Expr) (al bl : Nat) : Option ME :=
  (chk (!isSuper o && al == bl && decide (args.length < 30))).bind fun _ => (f o).bind fun mo => (cEs f args).bind fun ms => (mthF.lookup name).map fun q => mMeth q.1 q.2 mo ms
theorem base_of {o : Expr} {name : Str} {env : Env} (h : isSuper o = false) : attributeBase o name env (eval o env) = eval o env := by
  cases o with
  | Call fn as ks p => cases fn <;> first | rfl | cases h
  | _ => first | rfl | cases h
theorem cMeth_ok {f : Expr → Option ME} (hf : ∀ {e m}, f e = some m → DE X W e m) {o : Expr} {name : Str} {args : List Expr} {ap pos : Pos} {m : ME} (h : cMeth f o name args ap.endLine pos.line = some m) : DE X W (.Call (.Attribute o name ap) args [] pos) m := by
  unfold cMeth at h
  simp only [Option.bind_eq_some_iff, Option.map_eq_some_iff] at h
  obtain ⟨_, h1, mo, h2, ms, h3, ⟨T, g⟩, h4, rfl⟩ := h
  have h1 := chk_some.mp h1
  rw [Bool.and_eq_true, Bool.and_eq_true, Bool.not_eq_true', decide_eq_true_eq] at h1
  obtain ⟨⟨hs, hl⟩, hz⟩ := h1
  obtain ⟨i1, i2, i3⟩ := cEs_ok hf h3
  obtain ⟨⟨idn, m1, m2, m3, m4⟩⟩ := mthF_ok (X := X) (W := W) (find_mem h4)
  cases args with
  | nil =>
    cases h3
    exact de_meth0 m1 m2 m3 m4 (hf h2) (base_of hs) hl
  | cons e es =>
    have i4 := star_two i3
    refine de_meth m1 m2 m3 m4 (hf h2) i1 (base_of hs) ?_ hl (star_cons i4.1) (noStar_any i4.2)
    rw [noStar_all i3]
    show (true && true && decide ((e :: es).length + 0 + 0 < 30)) = true
    rw [decide_eq_true (by simpa using hz)]
    rfl
/-! ### fields, methods of own classes -/
def fcls (f : Str) : List (Str × GE) → List Str
  | [] => []
  | (x, .cls _ fl _) :: l => if fl.contains f then x :: fcls f l else fcls f l
  | _ :: l => fcls f l
theorem fcls_at {f : Str} : ∀ {l : List (Str × GE)} {x : Str}, x ∈ fcls f l → ∃ i fl ms, (x, GE.cls i fl ms) ∈ l ∧ f ∈ fl
  | [], x, h => by cases h
  | (y, .cls i fl ms) :: l, x, h => by
    have h : x ∈ (if fl.contains f then y :: fcls f l else fcls f l) := h
    by_cases hc : fl.contains f = true
    · rw [if_pos hc] at h
      rcases List.mem_cons.mp h with rfl | h
      · exact ⟨i, fl, ms, List.mem_cons_self, by simpa using hc⟩
      · obtain ⟨a, b, c, d, e⟩ := fcls_at h
        exact ⟨a, b, c, List.mem_cons_of_mem _ d, e⟩
    · rw [if_neg hc] at h
      obtain ⟨a, b, c, d, e⟩ := fcls_at h
      exact ⟨a, b, c, List.mem_cons_of_mem _ d, e⟩
  | (y, .exc n ms) :: l, x, h => let ⟨a, b, c, d, e⟩ := fcls_at (l := l) h; ⟨a, b, c, List.mem_cons_of_mem _ d, e⟩
  | (y, .val v) :: l, x, h => let ⟨a, b, c, d, e⟩ := fcls_at (l := l) h; ⟨a, b, c, List.mem_cons_of_mem _ d, e⟩
  | (y, .fn g np sg) :: l, x, h => let ⟨a, b, c, d, e⟩ := fcls_at (l := l) h; ⟨a, b, c, List.mem_cons_of_mem _ d, e⟩
def mthOf (mn : Str) (n : Nat) : List (Str × Nat × Fn) → Option Fn
  | [] => none
  | (a, b, f) :: l => if a == mn && b == n then some f else mthOf mn n l
theorem mthOf_at {mn : Str} {n : Nat} : ∀ {l : List (Str × Nat × Fn)} {f : Fn}, mthOf mn n l = some f → (mn, n, f) ∈ l
  | [], f, h => by cases h
  | (a, b, g) :: l, f, h => by
    unfold mthOf at h
    split at h
    · rename_i hc
      cases h
      rw [Bool.and_eq_true] at hc
      rw [eq_of_beq hc.1, eq_of_beq hc.2]
      exact List.mem_cons_self
    · exact List.mem_cons_of_mem _ (mthOf_at h)
def mtab (mn : Str) (n : Nat) : List (Str × GE) → List (Str × Fn)
  | [] => []
  | (x, .cls _ _ ms) :: l => match mthOf mn n ms with
    | some f => (x, f) :: mtab mn n l
    | none => mtab mn n l
  | _ :: l => mtab mn n l
theorem mtab_at {mn : Str} {n : Nat} : ∀ {l : List (Str × GE)} {x : Str} {f : Fn}, (mtab mn n l).lookup x = some f → ∃ i fl ms, (x, GE.cls i fl ms) ∈ l ∧ (mn, n, f) ∈ ms
  | [], x, f, h => by cases h
  | (y, .cls i fl ms) :: l, x, f, h => by
    unfold mtab at h
    split at h
    · rename_i g hg
      rw [List.lookup_cons] at h
      cases hxy : x == y with
      | true =>
        rw [hxy] at h
        cases h
        rw [eq_of_beq hxy]
        exact ⟨i, fl, ms, List.mem_cons_self, mthOf_at hg⟩
      | false =>
        rw [hxy] at h
        obtain ⟨a, b, c, d, e⟩ := mtab_at h
        exact ⟨a, b, c, List.mem_cons_of_mem _ d, e⟩
    · obtain ⟨a, b, c, d, e⟩ := mtab_at h
      exact ⟨a, b, c, List.mem_cons_of_mem _ d, e⟩
  | (y, .exc n' ms) :: l, x, f, h => let ⟨a, b, c, d, e⟩ := mtab_at (l := l) h; ⟨a, b, c, List.mem_cons_of_mem _ d, e⟩
  | (y, .val v) :: l, x, f, h => let ⟨a, b, c, d, e⟩ := mtab_at (l := l) h; ⟨a, b, c, List.mem_cons_of_mem _ d, e⟩
  | (y, .fn g np sg) :: l, x, f, h => let ⟨a, b, c, d, e⟩ := mtab_at (l := l) h; ⟨a, b, c, List.mem_cons_of_mem _ d, e⟩
theorem Fits.fld (F : Fits c X W) (f : Str) : FldOk X.K (fcls f c.gl) f := fun x hx C hC => by
  obtain ⟨i, fl, ms, hm, hf⟩ := fcls_at hx
  obtain ⟨k, _, hk⟩ := F.gl
  have q := hk _ hm
  cases q with
  | cls q0 q1 =>
    have e := q0.ns
    rw [hC] at e
    cases e
    exact ⟨q0.is.cl, q0.fl f hf⟩
theorem Fits.mth (F : Fits c X W) (mn : Str) (n : Nat) : ∃ k, Room k X.A ∧ TabM X.prog X.w X.K X.mg X.base k mn n (mtab mn n c.gl) := by
  obtain ⟨k, hr, hk⟩ := F.gl
  refine ⟨k, hr, ⟨fun x f hx C hC => ?_⟩⟩
  obtain ⟨i, fl, ms, hm, hf⟩ := mtab_at hx
  have q := hk _ hm
  cases q with
  | cls q0 q1 =>
    have e := q0.ns
    rw [hC] at e
    cases e
    obtain ⟨fa, fd, ps, a, b, c', d⟩ := q0.ms _ _ _ hf
    exact ⟨fa, fd, ps, q0.is.cl, a, b, c', d⟩
theorem ht_of {o : Expr} {m : Str} {apos pos : Pos} {args : List Expr} {env : Env} (hb : attributeBase o m env (eval o env) = eval o env) (hf : methodCallForm (args.length + ([] : List Keyword).length) (backTo pos (starEach args env)) (backToKw pos (keywordEach [] env)) = true) (hl : (apos.endLine == pos.line) = true) :
    eval (.Call (.Attribute o m apos) args [] pos) env = (do
      let ov ← eval o env
      standAt apos.atName
      let (f, first) ← holding [ov] (getMethod ov m (do return (← importBound o env).getD true))
      callWith pos f first (backTo pos (starEach args env)) (backToKw pos (keywordEach [] env))) := mcall_of hb fun ov => by
  unfold methodCall calleeOf methodCallPos
  rw [hf]
  simp [hl]
def cMethO (f : Expr → Option ME) (tab : List (Str × Fn)) (o : Expr) (name : Str) (args : List Expr) (al bl : Nat) : Option ME :=
  (chk (!isSuper o && al == bl && decide (args.length < 30))).bind fun _ => (f o).bind fun mo => (cEs f args).map fun ms => mMethO tab name mo ms
theorem cMethO_ok (F : Fits c X W) {f : Expr → Option ME} (hf : ∀ {e m}, f e = some m → DE X W e m) {o : Expr} {name : Str} {args : List Expr} {ap pos : Pos} {m : ME} (h : cMethO f (mtab name args.length c.gl) o name args ap.endLine pos.line = some m) : DE X W (.Call (.Attribute o name ap) args [] pos) m := by
  unfold cMethO at h
  simp only [Option.bind_eq_some_iff, Option.map_eq_some_iff] at h
  obtain ⟨_, h1, mo, h2, ms, h3, rfl⟩ := h
  have h1 := chk_some.mp h1
  rw [Bool.and_eq_true, Bool.and_eq_true, Bool.not_eq_true', decide_eq_true_eq] at h1
  obtain ⟨⟨hs, hl⟩, hz⟩ := h1
  obtain ⟨i1, i2, i3⟩ := cEs_ok hf h3
  obtain ⟨k, hr, T⟩ := F.mth name args.length
  have hform : methodCallForm (args.length + ([] : List Keyword).length) (backTo pos (starEach args X.env)) (backToKw pos (keywordEach [] X.env)) = true := by
    show ((backTo pos (starEach args X.env)).all (fun x => !x.1) && true && decide (args.length + 0 + 0 < 30)) = true
    rw [noStar_all i3, decide_eq_true (by simpa using hz)]
    rfl
  cases args with
  | nil =>
    cases h3
    exact de_methO0 T hr F.gd F.tk (hf h2) (ht_of (base_of hs) hform hl)
  | cons e es =>
    have i4 := star_two i3
    exact de_methO T hr F.gd F.tk (hf h2) i1 i2 (star_cons i4.1) (noStar_any i4.2) (ht_of (base_of hs) hform hl)
def cFld (f : Expr → Option ME) (cs : List Str) (o : Expr) (name : Str) : Option ME := (chk (!isSuper o && !cs.isEmpty)).bind fun _ => (f o).map fun m => mFldO cs name m
theorem cFld_ok (F : Fits c X W) {f : Expr → Option ME} (hf : ∀ {e m}, f e = some m → DE X W e m) {o : Expr} {name : Str} {pos : Pos} {m : ME} (h : cFld f (fcls name c.gl) o name = some m) : DE X W (.Attribute o name pos) m := by
  unfold cFld at h
  simp only [Option.bind_eq_some_iff, Option.map_eq_some_iff] at h
  obtain ⟨_, h1, m', h2, rfl⟩ := h
  have h1 := chk_some.mp h1
  rw [Bool.and_eq_true, Bool.not_eq_true'] at h1
  exact de_fldO (F.fld name) (hf h2) (base_of h1.1)
def cAsgF (f : Expr → Option ME) (cs : List Str) (o : Expr) (name : Str) (e : Expr) : Option MS := (chk (!cs.isEmpty)).bind fun _ => (f o).bind fun mo => (f e).map fun me => sFldO cs name mo me
theorem swaps_attr {e o : Expr} {f : Str} {p : Pos} {n : Nat} {env : Env} : swapsWith e (some (.Attribute o f p)) n env = pure false := by
  cases e <;> rfl
theorem cAsgF_ok (F : Fits c X W) {f : Expr → Option ME} (hf : ∀ {e m}, f e = some m → DE X W e m) {o e : Expr} {name : Str} {p pos : Pos} {m : MS} (h : cAsgF f (fcls name c.gl) o name e = some m) : DS X W (.Assign [.Attribute o name p] e pos) m := by
  unfold cAsgF at h
  simp only [Option.bind_eq_some_iff, Option.map_eq_some_iff] at h
  obtain ⟨_, h1, mo, h2, me, h3, rfl⟩ := h
  exact ds_fldO (F.fld name) (hf h2) (hf h3) swaps_attr
def clsB (gl : List (Str × GE)) (cn : Str) : Bool := match gl.lookup cn with
  | some (.cls ..) => true
  | _ => false
/-- isinstance(e, C), C an own class -/
def isOwn (c : CC) (x : Str) (args : List Expr) (ks : List Keyword) : Option (Expr × Str) := match args, ks with
  | [a, .Name cn _], [] => if x == ("isinstance" : Str) && glbB c.sc x && c.bl.contains x && glbB c.sc cn && okName cn && !isStar a && clsB c.gl cn then some (a, cn) else none
  | _, _ => none
theorem isOwn_ok (F : Fits c X W) {f : Expr → Option ME} (hf : ∀ {e m}, f e = some m → DE X W e m) {x cn : Str} {a : Expr} {args : List Expr} {ks : List Keyword} {p pos : Pos} {m : ME} (h : isOwn c x args ks = some (a, cn)) (hm : f a = some m) : DE X W (.Call (.Name x p) args ks pos) (mOn (fIsiO cn) (mCons m (mCons (mC (.code cn)) mNil))) := by
  unfold isOwn at h
  split at h
  · rename_i a' cn' q
    split at h
    · rename_i hc
      cases h
      simp only [Bool.and_eq_true, Bool.not_eq_true'] at hc
      obtain ⟨⟨⟨⟨⟨⟨e1, e2⟩, e3⟩, e4⟩, e5⟩, e6⟩, e7⟩ := hc
      obtain rfl := eq_of_beq e1
      obtain ⟨d1, d2, d3⟩ := okName_d e5
      unfold clsB at e7
      split at e7
      · rename_i i fl ms hl
        obtain ⟨k, _, hk⟩ := F.gl
        have q := hk _ (find_mem hl)
        cases q with
        | @cls _ _ _ C q0 q1 =>
          have is : ∀ C', PySem.W.nsIn X.K mainGlobals cn = some (some (.ref C')) → ClsIs X.K C' := fun C' hC => by
            have e := q0.ns
            rw [hC] at e
            cases e
            exact q0.is
          exact de_callB (cd_isiO (W := W) is) (F.gl_of e2) (F.none_of e3) (by decide +kernel) (da_cons (hf hm) (da_cons (de_glob (F.gl_of e4) ⟨_, .ref _, q0.at_, rfl, fun g => .code q0.ns⟩ d1) da_nil rfl) (star_cons e6)) (by decide) (by decide) (star_cons e6) rfl
      · cases e7
    · cases h
  · cases h
/-! ### targets -/
def cSlots (c : CC) : List Expr → Option (List Nat)
  | [] => some []
  | .Name x _ :: es => (chk (stoB c x)).bind fun _ => (ixOf c.N x).bind fun i => (cSlots c es).map fun is => i :: is
  | _ :: _ => none
def cTg (c : CC) : Expr → Option Tg
  | .Name x _ => (chk (stoB c x)).bind fun _ => (ixOf c.N x).map .name
  | .Tuple es _ _ => (chk (noStars es)).bind fun _ => (cSlots c es).map .tup
  | _ => none
theorem sto_of (F : Fits c X W) {x : Str} (h : stoB c x = true) : Loc X.env.scope x ∧ (X.fn x = true ∨ X.env.scope.names.lookup x = some .local) := by
  unfold stoB at h
  rw [Bool.or_eq_true, Bool.and_eq_true] at h
  rw [F.sc]
  rcases h with h | ⟨h, h2⟩
  · exact ⟨.inl (isK_eq h), .inr (isK_eq h)⟩
  · exact ⟨.inr (isK_eq h), .inl (F.fn x h2)⟩
theorem pg_name_of (F : Fits c X W) {x : Str} {i : Nat} {pos : Pos} (h : stoB c x = true) (hi : ixOf c.N x = some i) : PG X (.Name x pos) (gName i) := by
  obtain ⟨h1, h2⟩ := sto_of F h
  exact pg_name (by rw [F.N]; exact F.nd) (F.at hi) h1 h2
theorem cSlots_ok (F : Fits c X W) : ∀ {es : List Expr} {is : List Nat}, cSlots c es = some is → PGs X es (gNs is) ∧ is.length = es.length
  | [], is, h => by cases h; exact ⟨pgs_nil, rfl⟩
  | e :: es, is, h => by
    cases e with
    | Name x p =>
      have h : ((chk (stoB c x)).bind fun _ => (ixOf c.N x).bind fun i => (cSlots c es).map fun is => i :: is) = some is := h
      simp only [Option.bind_eq_some_iff, Option.map_eq_some_iff] at h
      obtain ⟨_, h1, i, h2, is', h3, rfl⟩ := h
      obtain ⟨i1, i2⟩ := cSlots_ok F h3
      exact ⟨pgs_cons (pg_name_of F (chk_some.mp h1) h2) i1, by rw [List.length_cons, List.length_cons, i2]⟩
    | _ => cases h
theorem noStar_find {env : Env} : ∀ {es : List Expr}, noStars es = true → (assignEach es env).findIdx? (·.1) = none
  | [], _ => rfl
  | e :: es, h => by
    have h' : (!isStar e && noStars es) = true := h
    rw [Bool.and_eq_true, Bool.not_eq_true'] at h'
    have ih := noStar_find (env := env) h'.2
    cases e with
    | Starred => cases h'.1
    | _ =>
      show ((false, _) :: assignEach es env).findIdx? (·.1) = none
      rw [List.findIdx?_cons, ih]
      rfl
theorem cTg_ok (F : Fits c X W) {tg : Expr} {t : Tg} (h : cTg c tg = some t) : PG X tg (gT X.K t) := by
  cases tg with
  | Name x p =>
    have h : ((chk (stoB c x)).bind fun _ => (ixOf c.N x).map Tg.name) = some t := h
    simp only [Option.bind_eq_some_iff, Option.map_eq_some_iff] at h
    obtain ⟨_, h1, i, h2, rfl⟩ := h
    exact pg_name_of F (chk_some.mp h1) h2
  | Tuple es k p =>
    have h : ((chk (noStars es)).bind fun _ => (cSlots c es).map Tg.tup) = some t := h
    simp only [Option.bind_eq_some_iff, Option.map_eq_some_iff] at h
    obtain ⟨_, h1, is, h2, rfl⟩ := h
    obtain ⟨i1, i2⟩ := cSlots_ok F h2
    exact pg_tup F.calm i1 (by rw [each_len, i2]) (noStar_find (chk_some.mp h1))
  | _ => cases h
/-! ### comprehensions -/
def relabS (scope sc : Scope) : Scope := { scope with names := scope.names.map fun (n, k) => if (k == .free && sc.kind == .function && sc.names.lookup n == some .cell) then (n, .cell) else (n, k) }
def blkCC (c : CC) (scope : Scope) : CC := { c with sc := relabS scope c.sc, fnc := fun x => scope.names.lookup x == some .cell }
def ownOf (N : List Str) (scope : Scope) : List (Str × Nat) := scope.names.filterMap fun (y, k) => if (k == .local || k == .cell) then (ixOf N y).map (y, ·) else none
theorem W0_takes (s : Shared) (H : Hp) (scope : Scope) (e : Env) (fp : List Addr) : Takes (X.blk s H scope e fp) W0 := fun u s' ⟨_, _, _, _, _, _, _, _, _, _, _, _, _, _, _, _, w⟩ => w.elim
theorem Fits.blk (F : Fits c X W) {scope : Scope} {own : List (Str × Nat)} (ok : BlkOk X.N X.env.scope scope own) (s : Shared) (H : Hp) (C : Addr) (cl : List (Str × Addr)) (fp : List Addr) : Fits (blkCC c scope) (X.blk s H scope (compEnvC scope cl C X.env) fp) W0 where
  N := F.N
  nd := F.nd
  sc := by
    show relabel scope X.env = relabS scope c.sc
    rw [← F.sc]
    rfl
  kind := ok.kind
  calm := F.calm
  gl := F.gl
  gd := F.gd
  tk := W0_takes s H scope _ fp
  bl := F.bl
  fn := fun x h => h
def cIfs (f : Expr → Option MT) : List Expr → Option MT
  | [] => some mYes
  | [a] => f a
  | _ => none
theorem cIfs_ok {f : Expr → Option MT} (hf : ∀ {e m}, f e = some m → DT X W e m) {es : List Expr} {m : MT} (h : cIfs f es = some m) : DTs X W es m := by
  match es, h with
  | [], h => cases h; exact dts_nil
  | [a], h => exact dts_one (hf h)
def cLC (r : Recs) (c : CC) (cell : Bool) (elt : Expr) (gens : List Comprehension) (scope : Scope) : Option ME := match gens with
  | [⟨tg, iter, ifs, as⟩] => (chk (as == 0 && !isSetE iter && blkC c.N c.sc scope (ownOf c.N scope))).bind fun _ => (r.i c (isTupE tg) iter).bind fun mi => (cTg (blkCC c scope) tg).bind fun t => (chk (t.slots.all fun i => ((ownOf c.N scope).map (·.2)).contains i)).bind fun _ =>
      (cIfs (r.t (blkCC c scope)) ifs).bind fun tt => (r.e (blkCC c scope) elt).map fun me => mComp cell mi t tt me ((ownOf c.N scope).map (·.2))
  | _ => none
theorem cLC_ok {r : Recs} (S : Sound r) (F : Fits c X W) {cell : Bool} {elt : Expr} {gens : List Comprehension} {scope : Scope} {pos : Pos} {m : ME} (h : cLC r c cell elt gens scope = some m) : DE X W (.ListComp elt gens scope pos) m ∧
    ∀ {i : Nat} {y : Str} {py spos : Pos}, X.N[i]? = some y → X.env.scope.names.lookup y = some .local → swapsWith (.ListComp elt gens scope pos) (some (.Name y py)) spos.line X.env = pure true → DS X W (.Assign [.Name y py] (.ListComp elt gens scope pos) spos) (sSet i m) := by
  unfold cLC at h
  split at h
  · rename_i tg iter ifs as
    simp only [Option.bind_eq_some_iff, Option.map_eq_some_iff] at h
    obtain ⟨_, h1, mi, h2, t, h3, _, h4, tt, h5, me, h6, rfl⟩ := h
    have h1 := chk_some.mp h1
    rw [Bool.and_eq_true, Bool.and_eq_true, Bool.not_eq_true'] at h1
    obtain ⟨⟨e0, hset⟩, hb⟩ := h1
    obtain rfl := eq_of_beq e0
    have hb : BlkOk X.N X.env.scope scope (ownOf c.N scope) := by
      rw [F.N, F.sc]
      exact blkOk_by hb
    have hsub : ∀ i ∈ t.slots, i ∈ (ownOf c.N scope).map (·.2) := fun i hi => by
      have h4 := chk_some.mp h4
      rw [List.all_eq_true] at h4
      simpa using h4 i hi
    have nd : X.N.Nodup := by rw [F.N]; exact F.nd
    exact ⟨de_lc F.calm nd hsub (S.i F h2 tg id) hb (fun s H C cl fp => cTg_ok (F.blk hb s H C cl fp) h3) (fun s H C cl fp => cIfs_ok (fun h => S.t (F.blk hb s H C cl fp) h) h5) (fun s H C cl fp => S.e (F.blk hb s H C cl fp) h6) (folded_no hset X.env),
      fun hy hyl hsw => ds_setLc F.calm nd hy hyl hsw hsub (S.i F h2 tg id) hb (fun s H C cl fp => cTg_ok (F.blk hb s H C cl fp) h3) (fun s H C cl fp => cIfs_ok (fun h => S.t (F.blk hb s H C cl fp) h) h5) (fun s H C cl fp => S.e (F.blk hb s H C cl fp) h6) (folded_no hset X.env)⟩
  · cases h
/-! ### slices -/
def cPart (f : Expr → Option ME) : Option Expr → Option MO
  | none => some oNone
  | some e => (f e).map oSome
theorem cPart_ok {f : Expr → Option ME} (hf : ∀ {e m}, f e = some m → DE X W e m) {o : Option Expr} {m : MO} (h : cPart f o = some m) : DO X W o m := by
  cases o with
  | none => cases h; exact do_none
  | some e =>
    have h : (f e).map oSome = some m := h
    rw [Option.map_eq_some_iff] at h
    obtain ⟨m', h1, rfl⟩ := h
    exact do_some (hf h1)
def cSub (f : Expr → Option ME) (cell : Bool) (a : Expr) : Expr → Option ME
  | .Slice none none (some (.UnaryOp .USub (.Constant (.int 1) _ _) _)) _ => (f a).map fun m => mUn (fRev cell) m
  | .Slice lo hi none _ => (f a).bind fun m => (cPart f lo).bind fun ml => (cPart f hi).map fun mh => mSl cell m ml mh
  | .Slice .. => none
  | b => (f a).bind fun ma => (f b).map fun mb => mBin fIx ma mb
theorem cSub_ok {f : Expr → Option ME} (hu : X.A.units + 1 < cLine) (hf : ∀ {e m}, f e = some m → DE X W e m) {cell : Bool} {a b : Expr} {pos : Pos} {m : ME} (h : cSub f cell a b = some m) : DE X W (.Subscript a b pos) m := by
  unfold cSub at h
  split at h
  · rw [Option.map_eq_some_iff] at h
    obtain ⟨m', h1, rfl⟩ := h
    exact de_rev cell (hf h1)
  · simp only [Option.bind_eq_some_iff, Option.map_eq_some_iff] at h
    obtain ⟨m', h1, ml, h2, mh, h3, rfl⟩ := h
    exact de_slice cell (hf h1) (cPart_ok hf h2) (cPart_ok hf h3)
  · cases h
  · rename_i h0
    simp only [Option.bind_eq_some_iff, Option.map_eq_some_iff] at h
    obtain ⟨m', h1, mb, h2, rfl⟩ := h
    refine de_ix hu (hf h1) (hf h2) (plainIx_of ?_)
    cases b with
    | Slice lo hi st p => exact absurd rfl (h0 lo hi st p)
    | _ => rfl
end
end P3

/-! P5E: the compiler: dicts that are walked, their methods, list(range(..)). -/
noncomputable section
namespace P3
open PySem PySem.Spec PyProof.Rows L2
section
variable {c : CC} {X : Cx} {W : WX}
def dkAt (c : CC) (p : Pos) : Bool := c.cl.contains (p.line + 1000000, p.col)
/-- the dict that is walked: by keys, values, pairs -/
def cLoc (c : CC) : Expr → Option LocM
  | .Name x _ => (chk (okName x && visB c.sc x)).bind fun _ => (ixOf c.N x).map locV
  | _ => none
def cWalk (c : CC) (tg : Expr) : Expr → Option (Nat × LocM)
  | .Call (.Attribute b n ap) [] [] cp => if n == ("values" : Str) then (chk (ap.endLine == cp.line && !isSuper b)).bind fun _ => (cLoc c b).map fun l => (1, l)
    else if n == ("items" : Str) then (chk (ap.endLine == cp.line && !isSuper b && isTupE tg)).bind fun _ => (cLoc c b).map fun l => (2, l) else none
  | e => (cLoc c e).map fun l => (0, l)
theorem cLoc_ok (F : Fits c X W) {e : Expr} {l : LocM} (h : cLoc c e = some l) : LocD X e l := by
  cases e with
  | Name x p =>
    have h : ((chk (okName x && visB c.sc x)).bind fun _ => (ixOf c.N x).map locV) = some l := h
    simp only [Option.bind_eq_some_iff, Option.map_eq_some_iff] at h
    obtain ⟨_, h1, i, h2, rfl⟩ := h
    have h1 := chk_some.mp h1
    rw [Bool.and_eq_true] at h1
    obtain ⟨hd, hcd, _⟩ := okName_d h1.1
    exact locV_ok (F.at h2) (by rw [F.sc]; exact vis_of h1.2) hd hcd
  | _ => cases h
theorem cWalk_ok (F : Fits c X W) {tg e : Expr} {kind : Nat} {l : LocM} (h : cWalk c tg e = some (kind, l)) : WalkD X tg kind e l := by
  unfold cWalk at h
  split at h
  · rename_i b n ap cp
    split at h
    · rename_i hn
      obtain rfl := eq_of_beq hn
      simp only [Option.bind_eq_some_iff, Option.map_eq_some_iff] at h
      obtain ⟨_, h1, l', h2, h3⟩ := h
      cases h3
      have h1 := chk_some.mp h1
      rw [Bool.and_eq_true, Bool.not_eq_true'] at h1
      exact walk_vals (cLoc_ok F h2) (base_of h1.2) h1.1
    · split at h
      · rename_i hn
        obtain rfl := eq_of_beq hn
        simp only [Option.bind_eq_some_iff, Option.map_eq_some_iff] at h
        obtain ⟨_, h1, l', h2, h3⟩ := h
        cases h3
        have h1 := chk_some.mp h1
        rw [Bool.and_eq_true, Bool.and_eq_true, Bool.not_eq_true'] at h1
        obtain ⟨⟨q1, q2⟩, q3⟩ := h1
        cases tg with
        | Tuple elts kk tpos => exact walk_items (cLoc_ok F h2) (base_of q2) q1
        | _ => cases q3
      · cases h
  · rw [Option.map_eq_some_iff] at h
    obtain ⟨l', h2, h3⟩ := h
    cases h3
    exact walk_keys (cLoc_ok F h2)
def cLCD (r : Recs) (c : CC) (cell : Bool) (elt : Expr) (gens : List Comprehension) (scope : Scope) : Option ME := match gens with
  | [⟨tg, iter, ifs, as⟩] => (chk (as == 0 && !isSetE iter && blkC c.N c.sc scope (ownOf c.N scope))).bind fun _ => (cWalk c tg iter).bind fun w => (cTg (blkCC c scope) tg).bind fun t => (chk (t.slots.all fun i => ((ownOf c.N scope).map (·.2)).contains i)).bind fun _ =>
      (cIfs (r.t (blkCC c scope)) ifs).bind fun tt => (r.e (blkCC c scope) elt).map fun me => mCompD w.1 w.2 cell t tt me ((ownOf c.N scope).map (·.2))
  | _ => none
theorem cLCD_ok {r : Recs} (S : Sound r) (F : Fits c X W) {cell : Bool} {elt : Expr} {gens : List Comprehension} {scope : Scope} {pos : Pos} {m : ME} (h : cLCD r c cell elt gens scope = some m) : DE X W (.ListComp elt gens scope pos) m := by
  unfold cLCD at h
  split at h
  · rename_i tg iter ifs as
    simp only [Option.bind_eq_some_iff, Option.map_eq_some_iff] at h
    obtain ⟨_, h1, ⟨kind, loc⟩, h2, t, h3, _, h4, tt, h5, me, h6, rfl⟩ := h
    have h1 := chk_some.mp h1
    rw [Bool.and_eq_true, Bool.and_eq_true, Bool.not_eq_true'] at h1
    obtain ⟨⟨e0, hset⟩, hb⟩ := h1
    obtain rfl := eq_of_beq e0
    have hb : BlkOk X.N X.env.scope scope (ownOf c.N scope) := by
      rw [F.N, F.sc]
      exact blkOk_by hb
    have hsub : ∀ i ∈ t.slots, i ∈ (ownOf c.N scope).map (·.2) := fun i hi => by
      have h4 := chk_some.mp h4
      rw [List.all_eq_true] at h4
      simpa using h4 i hi
    have nd : X.N.Nodup := by rw [F.N]; exact F.nd
    exact de_lcD F.calm nd hsub (cWalk_ok F h2) hb (fun s H C cl fp => cTg_ok (F.blk hb s H C cl fp) h3) (fun s H C cl fp => cIfs_ok (fun h => S.t (F.blk hb s H C cl fp) h) h5) (fun s H C cl fp => S.e (F.blk hb s H C cl fp) h6) (folded_no hset X.env)
  · cases h
def isDkG (c : CC) : List Comprehension → Bool
  | [⟨_, iter, _, _⟩] => dkAt c iter.pos
  | _ => false
/-! ### methods of dicts -/
structure DMethOk (X : Cx) (W : WX) (name : Str) (f : D → List D → Sto → Res D) : Prop where
  ex : ∃ idn, Slot "dict" name idn ∧ typeOf (.builtin idn) = pure (.type "method_descriptor") ∧ MtD X W idn f
def dmF : List (Str × (D → List D → Sto → Res D)) := [("get", fGet)]
theorem dmF_ok {X : Cx} {W : WX} (hu : X.A.units + 200 < cLine) {name : Str} {f : D → List D → Sto → Res D} (h : (name, f) ∈ dmF) : DMethOk X W name f := by
  simp only [dmF, List.mem_cons, Prod.mk.injEq, List.not_mem_nil, or_false] at h
  obtain ⟨rfl, rfl⟩ := h
  exact ⟨_, PySem.F.slot_dict_get, rfl, md_get (by omega)⟩
def cDMeth (f : Expr → Option ME) (o : Expr) (name : Str) (args : List Expr) (al bl : Nat) : Option ME :=
  (chk (!isSuper o && al == bl && decide (args.length < 30) && !args.isEmpty)).bind fun _ => (f o).bind fun mo => (cEs f args).bind fun ms => (dmF.lookup name).map fun q => mDMeth q mo ms
theorem cDMeth_ok (hu : X.A.units + 200 < cLine) {f : Expr → Option ME} (hf : ∀ {e m}, f e = some m → DE X W e m) {o : Expr} {name : Str} {args : List Expr} {ap pos : Pos} {m : ME} (h : cDMeth f o name args ap.endLine pos.line = some m) : DE X W (.Call (.Attribute o name ap) args [] pos) m := by
  unfold cDMeth at h
  simp only [Option.bind_eq_some_iff, Option.map_eq_some_iff] at h
  obtain ⟨_, h1, mo, h2, ms, h3, g, h4, rfl⟩ := h
  have h1 := chk_some.mp h1
  rw [Bool.and_eq_true, Bool.and_eq_true, Bool.and_eq_true, Bool.not_eq_true', decide_eq_true_eq] at h1
  obtain ⟨⟨⟨hs, hl⟩, hz⟩, hne⟩ := h1
  obtain ⟨i1, i2, i3⟩ := cEs_ok hf h3
  obtain ⟨⟨idn, m2, m3, m4⟩⟩ := dmF_ok (X := X) (W := W) hu (find_mem h4)
  cases args with
  | nil => cases hne
  | cons e es =>
    have i4 := star_two i3
    refine de_dmeth m2 m3 m4 (hf h2) i1 (base_of hs) ?_ hl (star_cons i4.1) (noStar_any i4.2)
    rw [noStar_all i3]
    show (true && true && decide ((e :: es).length + 0 + 0 < 30)) = true
    rw [decide_eq_true (by simpa using hz)]
    rfl
/-! ### list(range(..)) -/
def isLR (c : CC) (x : Str) : List Expr → List Keyword → Option (List Expr)
  | [.Call (.Name y _) args [] _], [] => if x == ("list" : Str) && y == ("range" : Str) && glbB c.sc x && glbB c.sc y && c.bl.contains x && c.bl.contains y && !args.isEmpty then some args else none
  | _, _ => none
theorem isLR_ok (F : Fits c X W) {f : Expr → Option ME} (hf : ∀ {e m}, f e = some m → DE X W e m) {x : Str} {args : List Expr} {ks : List Keyword} {as : List Expr} {ms : MEs} {p pos : Pos} {cell : Bool} (h : isLR c x args ks = some as) (h2 : cEs f as = some ms) : DE X W (.Call (.Name x p) args ks pos) (mOn (fLR cell) ms) := by
  unfold isLR at h
  split at h
  · rename_i y p2 args' pos2
    split at h
    · rename_i hc
      cases h
      simp only [Bool.and_eq_true, Bool.not_eq_true'] at hc
      obtain ⟨⟨⟨⟨⟨⟨e1, e2⟩, g1⟩, g2⟩, b1⟩, b2⟩, hne⟩ := hc
      obtain rfl := eq_of_beq e1
      obtain rfl := eq_of_beq e2
      obtain ⟨i1, i2, i3⟩ := cEs_ok hf h2
      cases as with
      | nil => cases hne
      | cons e es =>
        have i4 := star_two i3
        exact de_LR F.calm (F.gl_of g1) (F.none_of b1) (F.gl_of g2) (F.none_of b2) i1 (star_cons i4.1) (noStar_any i4.2)
    · cases h
  · cases h
end
end P3

/-! P3O: the compiler of statements and defs. -/
noncomputable section
namespace P3
open PySem PySem.Spec PyProof.Rows L2
def cmpG (c : CC) (op : CmpOp) : Option (D → D → Sto → Res D) := match op with
  | .Eq => if (mtab "__eq__" 1 c.gl).isEmpty then cmpF .Eq else some (fEqO (mtab "__eq__" 1 c.gl))
  | op => cmpF op
def cCmp (c : CC) (f : Expr → Option ME) (a : Expr) : List CmpOp → List Expr → Option ME
  | [op], [b] => (chk (!behindInMarks op b)).bind fun _ => (cmpG c op).bind fun g => (f a).bind fun ma => (f b).map fun mb => mBin g ma mb
  | [op, op'], [b, d] => (chk (!lastMarks [op, op'] [b, d])).bind fun _ => (cmpG c op).bind fun g => (cmpG c op').bind fun g' => (f a).bind fun ma => (f b).bind fun mb => (f d).map fun md => mChain g g' ma mb md
  | _, _ => none
section
variable {c : CC} {X : Cx} {W : WX}
theorem cmpG_ok (F : Fits c X W) {op : CmpOp} {f : D → D → Sto → Res D} (h : cmpG c op = some f) : OpD X W (compareOp op) f := by
  unfold cmpG at h
  split at h
  · split at h
    · exact cmpF_ok F.units h
    · cases h
      obtain ⟨k, hr, T⟩ := F.mth "__eq__" 1
      refine od_eqO T (fun x f hx C hC => ?_) hr F.gd F.tk
      obtain ⟨i, fl, ms, hm, hf⟩ := mtab_at hx
      obtain ⟨k', _, hk⟩ := F.gl
      have q := hk _ hm
      cases q with
      | cls q0 q1 =>
        have e := q0.ns
        rw [hC] at e
        cases e
        exact q0.sd
  · exact cmpF_ok F.units h
theorem cCmp_ok (F : Fits c X W) {f : Expr → Option ME} (hf : ∀ {e m}, f e = some m → DE X W e m) {a : Expr} {ops : List CmpOp} {es : List Expr} {pos : Pos} {m : ME} (h : cCmp c f a ops es = some m) : DE X W (.Compare a ops es pos) m ∧ DT X W (.Compare a ops es pos) (mTru m) := by
  unfold cCmp at h
  split at h
  · simp only [Option.bind_eq_some_iff, Option.map_eq_some_iff] at h
    obtain ⟨_, h1, g, h2, ma, h3, mb, h4, rfl⟩ := h
    have h1 := chk_some.mp h1
    rw [Bool.not_eq_true'] at h1
    exact ⟨de_cmp (cmpG_ok F h2) (hf h3) (hf h4) h1, dt_cmp (cmpG_ok F h2) (hf h3) (hf h4) h1⟩
  · simp only [Option.bind_eq_some_iff, Option.map_eq_some_iff] at h
    obtain ⟨_, h1, g, h2, g', h5, ma, h3, mb, h4, md, h6, rfl⟩ := h
    have h1 := chk_some.mp h1
    rw [Bool.not_eq_true'] at h1
    exact ⟨de_chain (cmpG_ok F h2) (cmpG_ok F h5) (hf h3) (hf h4) (hf h6) h1, dt_chain (cmpG_ok F h2) (cmpG_ok F h5) (hf h3) (hf h4) (hf h6) h1⟩
  · cases h
/-! ### displays of dicts -/
def cAt (c : CC) : Expr → Option At
  | .Constant k _ _ => (chk (constD k).isSome).map fun _ => .c k
  | .Name x _ => (chk (okName x && visB c.sc x)).bind fun _ => (ixOf c.N x).map .v
  | _ => none
def cKey : Option Expr → Option Key
  | some (.Constant (.str s) _ _) => some (.inr s)
  | some (.Constant (.int i) _ _) => some (.inl i)
  | _ => none
def cPairs (c : CC) : List (Option Expr) → List Expr → Option (List (Key × At))
  | [], [] => some []
  | k :: ks, v :: vs => (cKey k).bind fun k => (cAt c v).bind fun a => (cPairs c ks vs).map fun l => (k, a) :: l
  | _, _ => none
def cDict (c : CC) (cell : Bool) (ks : List (Option Expr)) (vs : List Expr) : Option ME := (cPairs c ks vs).bind fun l => (chk (!ks.isEmpty && decide (ks.length ≤ 15) && decide ((l.map (·.1)).Nodup))).map fun _ => mDisp cell l
section
variable {c : CC} {X : Cx} {W : WX}
theorem cAt_ok (F : Fits c X W) {e : Expr} {a : At} (h : cAt c e = some a) : PE X e a.te := by
  unfold cAt at h
  split at h
  · rename_i k j p
    rw [Option.map_eq_some_iff] at h
    obtain ⟨_, h1, rfl⟩ := h
    have h1 := chk_some.mp h1
    cases k <;> first | exact pe_non | exact pe_bl | exact pe_int | exact pe_str | cases h1
  · simp only [Option.bind_eq_some_iff, Option.map_eq_some_iff] at h
    obtain ⟨_, h1, i, h2, rfl⟩ := h
    have h1 := chk_some.mp h1
    rw [Bool.and_eq_true] at h1
    obtain ⟨d1, d2, _⟩ := okName_d h1.1
    exact pe_var (F.at h2) (by rw [F.sc]; exact vis_of h1.2) d1 d2
  · cases h
theorem cKey_ok {e : Option Expr} {k : Key} (h : cKey e = some k) : ∃ e', e = some e' ∧ PE X e' (tC (kV k)) := by
  unfold cKey at h
  split at h
  · cases h; exact ⟨_, rfl, pe_str⟩
  · cases h; exact ⟨_, rfl, pe_int⟩
  · cases h
theorem cPairs_ok (F : Fits c X W) {pos : Pos} : ∀ {ks : List (Option Expr)} {vs : List Expr} {l : List (Key × At)}, cPairs c ks vs = some l → PPs X pos ks vs (l.map fun p => (tC (kV p.1), p.2.te)) ∧ ks.all (·.isSome) = true ∧ ks.length = vs.length ∧ l.length = ks.length
  | [], [], l, h => by cases h; exact ⟨pps_nil, rfl, rfl, rfl⟩
  | k :: ks, v :: vs, l, h => by
    have h : ((cKey k).bind fun k => (cAt c v).bind fun a => (cPairs c ks vs).map fun l => (k, a) :: l) = some l := h
    simp only [Option.bind_eq_some_iff, Option.map_eq_some_iff] at h
    obtain ⟨k', h1, a, h2, l', h3, rfl⟩ := h
    obtain ⟨e', rfl, p1⟩ := cKey_ok (X := X) h1
    obtain ⟨i1, i2, i3, i4⟩ := cPairs_ok F (pos := pos) h3
    refine ⟨pps_cons p1 (cAt_ok F h2) i1, ?_, by rw [List.length_cons, List.length_cons, i3], by rw [List.length_cons, List.length_cons, i4]⟩
    rw [List.all_cons, i2]
    rfl
  | [], _ :: _, l, h => by cases h
  | _ :: _, [], l, h => by cases h
theorem cDict_ok (F : Fits c X W) {cell : Bool} {ks : List (Option Expr)} {vs : List Expr} {pos : Pos} {m : ME} (h : cDict c cell ks vs = some m) : DE X W (.Dict ks vs pos) m := by
  unfold cDict at h
  simp only [Option.bind_eq_some_iff, Option.map_eq_some_iff] at h
  obtain ⟨l, h1, _, h2, rfl⟩ := h
  have h2 := chk_some.mp h2
  rw [Bool.and_eq_true, Bool.and_eq_true, Bool.not_eq_true', decide_eq_true_eq, decide_eq_true_eq] at h2
  obtain ⟨⟨e1, e2⟩, e3⟩ := h2
  obtain ⟨i1, i2, i3, i4⟩ := cPairs_ok F (pos := pos) h1
  exact de_disp cell i1 i2 i3 (by intro q; rw [q] at e1; cases e1) e2 i4 e3
end
def stepE (r : Recs) (c : CC) : Expr → Option ME
  | .Constant k _ _ => cConst k
  | .Name x _ => cName c x
  | .BinOp a op b pos => (r.e c a).bind fun ma => (r.e c b).bind fun mb => (binF (cellAt c pos) op).map fun f => mBin f ma mb
  | .UnaryOp .Not a _ => (r.e c a).map mNotM
  | .UnaryOp .USub a _ => (r.e c a).map (mUn fNeg)
  | .BoolOp op es _ => cV (r.e c) op es
  | .IfExp t a b _ => (r.t c t).bind fun mt => (r.e c a).bind fun ma => (r.e c b).map fun mb => mIfM mt ma mb
  | .Compare a ops es _ => cCmp c (r.e c) a ops es
  | .Call (.Name x _) args ks pos => match isOwn c x args ks with
    | some (a, cn) => (r.e c a).map fun m => mOn (fIsiO cn) (mCons m (mCons (mC (.code cn)) mNil))
    | none => match isLR c x args ks with
      | some as => (cEs (r.e c) as).map (mOn (fLR (cellAt c pos)))
      | none => cCall (r.e c) c (cellAt c pos) x args ks
  | .Call (.Attribute o n ap) args [] pos => if (mtab n args.length c.gl).isEmpty then (if (dmF.lookup n).isSome then cDMeth (r.e c) o n args ap.endLine pos.line else cMeth (r.e c) o n args ap.endLine pos.line) else cMethO (r.e c) (mtab n args.length c.gl) o n args ap.endLine pos.line
  | .Attribute o n _ => cFld (r.e c) (fcls n c.gl) o n
  | .Subscript a b pos => cSub (r.e c) (cellAt c pos) a b
  | .List es pos => (cEs (r.e c) es).map (mOn (mk (cellAt c pos)))
  | .Tuple es _ _ => (cEs (r.e c) es).map (mOn fTup)
  | .ListComp elt gens scope pos => if isDkG c gens then cLCD r c (cellAt c pos) elt gens scope else cLC r c (cellAt c pos) elt gens scope
  | .Dict [] [] pos => some (mDic0 (cellAt c pos))
  | .Dict ks vs pos => cDict c (cellAt c pos) ks vs
  | _ => none
def stepT (r : Recs) (c : CC) : Expr → Option MT
  | .BoolOp op es _ => cW (r.t c) op es
  | .UnaryOp .Not a _ => (r.t c a).map tNotM
  | .Compare a ops es _ => (cCmp c (r.e c) a ops es).map mTru
  | e => (chk (plainT e)).bind fun _ => (r.e c e).map mTru
def cRange (r : Recs) (c : CC) (x : Str) : List Expr → Option MI
  | [a] => (chk (x == ("range" : Str) && glbB c.sc x && c.bl.contains x && !isStar a)).bind fun _ => (r.e c a).map fun m => iOn srcRange (mCons m mNil)
  | [a, b] => (chk (x == ("range" : Str) && glbB c.sc x && c.bl.contains x && !isStar a && !isStar b)).bind fun _ => (r.e c a).bind fun m => (r.e c b).map fun m2 => iOn srcRange (mCons m (mCons m2 mNil))
  | _ => none
def cEnum (r : Recs) (c : CC) (x : Str) (b : Bool) : List Expr → Option MI
  | [a] => (chk (b && glbB c.sc x && c.bl.contains x && !isStar a)).bind fun _ => (r.e c a).map iEnumD
  | _ => none
def cZip (r : Recs) (c : CC) (x : Str) (b : Bool) : List Expr → Option MI
  | [a, d] => (chk (b && glbB c.sc x && c.bl.contains x && !isStar a && !isStar d)).bind fun _ => (r.e c a).bind fun m => (r.e c d).map fun m2 => iOn srcZip (mCons m (mCons m2 mNil))
  | _ => none
def stepI (r : Recs) (c : CC) (b : Bool) : Expr → Option MI
  | .Call (.Name x p) args [] pos => if x == ("range" : Str) then cRange r c x args else if x == ("enumerate" : Str) then cEnum r c x b args else if x == ("zip" : Str) then cZip r c x b args else (r.e c (.Call (.Name x p) args [] pos)).map iSeq
  | e => (r.e c e).map iSeq
theorem stepE_ok {r : Recs} (S : Sound r) (F : Fits c X W) {e : Expr} {m : ME} (h : stepE r c e = some m) : DE X W e m := by
  unfold stepE at h
  split at h
  · exact cConst_ok h
  · exact cName_ok F h
  · simp only [Option.bind_eq_some_iff, Option.map_eq_some_iff] at h
    obtain ⟨ma, h1, mb, h2, f, h3, rfl⟩ := h
    exact de_bin (binF_ok h3) (S.e F h1) (S.e F h2)
  · rw [Option.map_eq_some_iff] at h
    obtain ⟨m', h1, rfl⟩ := h
    exact de_not (S.e F h1)
  · rw [Option.map_eq_some_iff] at h
    obtain ⟨m', h1, rfl⟩ := h
    exact de_neg (S.e F h1)
  · exact cV_ok (fun h => S.e F h) h
  · simp only [Option.bind_eq_some_iff, Option.map_eq_some_iff] at h
    obtain ⟨mt, h1, ma, h2, mb, h3, rfl⟩ := h
    exact de_if (S.t F h1) (S.e F h2) (S.e F h3)
  · exact (cCmp_ok F (fun h => S.e F h) h).1
  · split at h
    · rename_i a cn ho
      rw [Option.map_eq_some_iff] at h
      obtain ⟨m', h1, rfl⟩ := h
      exact isOwn_ok F (fun h => S.e F h) ho h1
    · split at h
      · rename_i as ho
        rw [Option.map_eq_some_iff] at h
        obtain ⟨ms, h1, rfl⟩ := h
        exact isLR_ok F (fun h => S.e F h) ho h1
      · exact cCall_ok F (fun h => S.e F h) h
  · split at h
    · split at h
      · exact cDMeth_ok F.units (fun h => S.e F h) h
      · exact cMeth_ok (fun h => S.e F h) h
    · exact cMethO_ok F (fun h => S.e F h) h
  · exact cFld_ok F (fun h => S.e F h) h
  · exact cSub_ok (by have := F.units; omega) (fun h => S.e F h) h
  · rw [Option.map_eq_some_iff] at h
    obtain ⟨ms, h1, rfl⟩ := h
    exact de_lst _ (cEs_ok (fun h => S.e F h) h1).1
  · rw [Option.map_eq_some_iff] at h
    obtain ⟨ms, h1, rfl⟩ := h
    exact de_tup (cEs_ok (fun h => S.e F h) h1).1
  · split at h
    · exact cLCD_ok S F h
    · exact (cLC_ok S F h).1
  · cases h
    exact de_dic0 _
  · exact cDict_ok F h
  · cases h
theorem stepT_ok {r : Recs} (S : Sound r) (F : Fits c X W) {e : Expr} {m : MT} (h : stepT r c e = some m) : DT X W e m := by
  unfold stepT at h
  split at h
  · exact (cW_ok (fun h => S.t F h) h).pt
  · rw [Option.map_eq_some_iff] at h
    obtain ⟨m', h1, rfl⟩ := h
    exact dt_not (S.t F h1)
  · rw [Option.map_eq_some_iff] at h
    obtain ⟨m', h1, rfl⟩ := h
    exact (cCmp_ok F (fun h => S.e F h) h1).2
  · simp only [Option.bind_eq_some_iff, Option.map_eq_some_iff] at h
    obtain ⟨_, h1, m', h2, rfl⟩ := h
    exact dt_truth (S.e F h2) (plainT_is (chk_some.mp h1) X.env)
theorem cRange_ok {r : Recs} (S : Sound r) (F : Fits c X W) {x : Str} {args : List Expr} {p pos : Pos} {m : MI} (h : cRange r c x args = some m) (tg : Expr) : DI X W tg (.Call (.Name x p) args [] pos) m := by
  unfold cRange at h
  split at h
  · simp only [Option.bind_eq_some_iff, Option.map_eq_some_iff] at h
    obtain ⟨_, h1, m', h2, rfl⟩ := h
    have h1 := chk_some.mp h1
    rw [Bool.and_eq_true, Bool.and_eq_true, Bool.and_eq_true, Bool.not_eq_true'] at h1
    obtain ⟨⟨⟨e1, e2⟩, e3⟩, e4⟩ := h1
    obtain rfl := eq_of_beq e1
    exact di_range1 (F.gl_of e2) (F.none_of e3) (da_cons (S.e F h2) da_nil (star_cons e4)) (star_cons e4) Len.nil.cons
  · simp only [Option.bind_eq_some_iff, Option.map_eq_some_iff] at h
    obtain ⟨_, h1, m1, h2, m2, h3, rfl⟩ := h
    have h1 := chk_some.mp h1
    rw [Bool.and_eq_true, Bool.and_eq_true, Bool.and_eq_true, Bool.and_eq_true, Bool.not_eq_true', Bool.not_eq_true'] at h1
    obtain ⟨⟨⟨⟨e1, e2⟩, e3⟩, e4⟩, e5⟩ := h1
    obtain rfl := eq_of_beq e1
    exact di_range2 (F.gl_of e2) (F.none_of e3) (da_cons (S.e F h2) (da_cons (S.e F h3) da_nil (star_cons e5)) (star_cons e4)) ((star_cons e4).trans (by rw [star_cons e5]; rfl)) (star_cons e5) Len.nil.cons.cons
  · cases h
theorem cEnum_ok {r : Recs} (S : Sound r) (F : Fits c X W) {b : Bool} {args : List Expr} {p pos : Pos} {m : MI} (h : cEnum r c "enumerate" b args = some m) (tg : Expr) (hb : b = true → isTupE tg = true) : DI X W tg (.Call (.Name "enumerate" p) args [] pos) m := by
  unfold cEnum at h
  split at h
  · simp only [Option.bind_eq_some_iff, Option.map_eq_some_iff] at h
    obtain ⟨_, h1, m', h2, rfl⟩ := h
    have h1 := chk_some.mp h1
    rw [Bool.and_eq_true, Bool.and_eq_true, Bool.and_eq_true, Bool.not_eq_true'] at h1
    obtain ⟨⟨⟨e1, e2⟩, e3⟩, e4⟩ := h1
    have ht := hb e1
    cases tg with
    | Tuple elts kk tpos => exact di_enum (F.gl_of e2) (F.none_of e3) (S.e F h2) (star_cons e4)
    | _ => cases ht
  · cases h
theorem cZip_ok {r : Recs} (S : Sound r) (F : Fits c X W) {b : Bool} {args : List Expr} {p pos : Pos} {m : MI} (h : cZip r c "zip" b args = some m) (tg : Expr) (hb : b = true → isTupE tg = true) : DI X W tg (.Call (.Name "zip" p) args [] pos) m := by
  unfold cZip at h
  split at h
  · simp only [Option.bind_eq_some_iff, Option.map_eq_some_iff] at h
    obtain ⟨_, h1, m1, h2, m2, h3, rfl⟩ := h
    have h1 := chk_some.mp h1
    rw [Bool.and_eq_true, Bool.and_eq_true, Bool.and_eq_true, Bool.and_eq_true, Bool.not_eq_true', Bool.not_eq_true'] at h1
    obtain ⟨⟨⟨⟨e1, e2⟩, e3⟩, e4⟩, e5⟩ := h1
    have ht := hb e1
    cases tg with
    | Tuple elts kk tpos => exact di_zip (F.gl_of e2) (F.none_of e3) (da_cons (S.e F h2) (da_cons (S.e F h3) da_nil (star_cons e5)) (star_cons e4)) Len.nil.cons.cons (star_cons e4) (by rw [star_cons e5]; rfl)
    | _ => cases ht
  · cases h
theorem stepI_ok {r : Recs} (S : Sound r) (F : Fits c X W) {b : Bool} {e : Expr} {m : MI} (h : stepI r c b e = some m) (tg : Expr) (hb : b = true → isTupE tg = true) : DI X W tg e m := by
  unfold stepI at h
  split at h
  · split at h
    · exact cRange_ok S F h tg
    split at h
    · rename_i he
      obtain rfl := eq_of_beq he
      exact cEnum_ok S F h tg hb
    split at h
    · rename_i he
      obtain rfl := eq_of_beq he
      exact cZip_ok S F h tg hb
    · rw [Option.map_eq_some_iff] at h
      obtain ⟨m', h1, rfl⟩ := h
      exact di_seq (S.e F h1)
  · rw [Option.map_eq_some_iff] at h
    obtain ⟨m', h1, rfl⟩ := h
    exact di_seq (S.e F h1)
end
def recs : Nat → Recs
  | 0 => ⟨fun _ _ => none, fun _ _ => none, fun _ _ _ => none⟩
  | n + 1 => ⟨stepE (recs n), stepT (recs n), stepI (recs n)⟩
theorem recs_ok : ∀ n, Sound (recs n)
  | 0 => ⟨fun {_ _ _ _ m} _ h => (nomatch (show none = some m from h)), fun {_ _ _ _ m} _ h => (nomatch (show none = some m from h)), fun {_ _ _ _ _ m} _ h => (nomatch (show none = some m from h))⟩
  | n + 1 => ⟨fun F h => stepE_ok (recs_ok n) F h, fun F h => stepT_ok (recs_ok n) F h, fun F h tg hb => stepI_ok (recs_ok n) F h tg hb⟩
/-! ### suites of clauses -/
def cXs (f : Expr → Option (Str → D → ME)) : List Expr → Option (Str → D → MEs)
  | [] => some fun _ _ => mNil
  | e :: es => (chk (!isStar e)).bind fun _ => (f e).bind fun m => (cXs f es).map fun ms => fun n d => mCons (m n d) (ms n d)
/-- an expression of a suite; oi, nm: the exception's slot and name -/
def cX (c : CC) (oi : Option Nat) (nm : Str) : Nat → Expr → Option (Str → D → ME)
  | 0, _ => none
  | k + 1, e => match e with
    | .Constant .none _ _ => some fun _ _ => mC .non
    | .Constant (.bool b) _ _ => some fun _ _ => mC (.bl b)
    | .Constant (.int i) _ _ => some fun _ _ => mC (.int i)
    | .Constant (.str s) _ _ => some fun _ _ => mC (.str s)
    | .Attribute (.Name x _) f _ => (chk (x == nm && oi.isSome && okName nm)).map fun _ => fun n d => mFld f n d
    | .List es pos => (cXs (cX c oi nm k) es).map fun ms => fun n d => mOn (mk (cellAt c pos)) (ms n d)
    | .Tuple es _ _ => (cXs (cX c oi nm k) es).map fun ms => fun n d => mOn fTup (ms n d)
    | _ => none
def cSu (c : CC) (oi : Option Nat) (nm : Str) : Stmt → Option (Str → D → MS)
  | .Assign [.Name x _] e _ => (ixOf c.N x).bind fun i => (chk (stoB c x && !isComp e)).bind fun _ => (cX c oi nm 9 e).map fun m => fun n d => sSet i (m n d)
  | .Return (some e) _ => (cX c oi nm 9 e).map fun m => fun n d => sRet (m n d)
  | .Continue _ => some fun _ _ => sCt
  | .Pass _ => some fun _ _ => sNil
  | _ => none
def cSlot (c : CC) : Option Str → Option (Option Nat)
  | none => some none
  | some nm => (chk (isK (c.sc.names.lookup nm) .local)).bind fun _ => (ixOf c.N nm).map some
def excIn (c : CC) (x : Str) : Bool := okName x && glbB c.sc x && (match c.gl.lookup x with
  | some (.exc ..) => true
  | _ => false)
def cHs (c : CC) : List ExceptHandler → Option (List PHd)
  | .ExceptHandler (some (.Name x _)) on [b] _ :: rest => if excIn c x then (cSlot c on).bind fun oi => (cSu c oi (on.getD "") b).bind fun su => (cHs c rest).map fun l => ⟨x, oi, su⟩ :: l else some []
  | _ => some []
def emOf : List (Str × GE) → ExT
  | [] => []
  | (x, .exc n ms) :: l => (x, n, ms) :: emOf l
  | _ :: l => emOf l
theorem emOf_at : ∀ {l : List (Str × GE)} {x : Str} {n : Str} {ms : List (Str × Bool)}, (emOf l).lookup x = some (n, ms) → (x, GE.exc n ms) ∈ l
  | [], x, n, ms, h => by cases h
  | (y, .exc n' ms') :: l, x, n, ms, h => by
    have h : List.lookup x ((y, n', ms') :: emOf l) = some (n, ms) := h
    rw [List.lookup_cons] at h
    cases hxy : x == y with
    | true =>
      rw [hxy] at h
      cases h
      rw [eq_of_beq hxy]
      exact List.mem_cons_self
    | false =>
      rw [hxy] at h
      exact List.mem_cons_of_mem _ (emOf_at (l := l) h)
  | (y, .fn f np sg) :: l, x, n, ms, h => List.mem_cons_of_mem _ (emOf_at (l := l) h)
  | (y, .val d) :: l, x, n, ms, h => List.mem_cons_of_mem _ (emOf_at (l := l) h)
  | (y, .cls i fl mt) :: l, x, n, ms, h => List.mem_cons_of_mem _ (emOf_at (l := l) h)
section
variable {c : CC} {X : Cx} {W : WX}
theorem Fits.ex (F : Fits c X W) : ExOk X.K X.mg (emOf c.gl) := ⟨fun x n ms h => by
  obtain ⟨k, _, hk⟩ := F.gl
  have q := hk _ (emOf_at h)
  cases q with
  | exc q0 q1 q2 q3 q4 q5 => exact ⟨_, q2, q3, q4, q5⟩⟩
theorem Fits.tr (F : Fits c X W) {W' : WX} {pn : List (Addr × Obj)} {xe : Value → Shared → Prop} (tk : Takes (X.tr pn xe) W') : Fits c (X.tr pn xe) W' where
  N := F.N
  nd := F.nd
  sc := F.sc
  kind := F.kind
  calm := F.calm
  gl := F.gl
  gd := F.gd
  tk := tk
  bl := F.bl
  fn := F.fn
section
variable {oi : Option Nat} {nm : Str} {a : Addr} {oe : Obj} {k : Value} {dd : Option Addr} {C dx : Addr} {n : Str} {v : V} {d : D} {pn : List (Addr × Obj)}
theorem cXs_ok {f : Expr → Option (Str → D → ME)} (hf : ∀ {e m}, f e = some m → DEX X oi a oe pn dx n v d e (m n d)) : ∀ {es : List Expr} {ms : Str → D → MEs}, cXs f es = some ms → DAX X oi a oe pn dx n v d es (ms n d)
  | [], ms, h => by cases h; exact dax_nil
  | e :: es, ms, h => by
    unfold cXs at h
    simp only [Option.bind_eq_some_iff, Option.map_eq_some_iff] at h
    obtain ⟨_, h1, m, h2, ms', h3, rfl⟩ := h
    rw [chk_some, Bool.not_eq_true'] at h1
    exact dax_cons (hf h2) (cXs_ok hf h3) (star_cons h1)
theorem cX_ok (S : SuX X oi nm a oe k dd C dx n) : ∀ (j : Nat) {e : Expr} {m : Str → D → ME}, cX c oi nm j e = some m → DEX X oi a oe pn dx n v d e (m n d)
  | 0, e, m, h => by cases h
  | j + 1, e, m, h => by
    have ih : ∀ {e m}, cX c oi nm j e = some m → DEX X oi a oe pn dx n v d e (m n d) := fun h => cX_ok S j h
    unfold cX at h
    split at h
    · cases h; exact dex_const pe_non fun _ => .non
    · cases h; exact dex_const pe_bl fun _ => .bl _
    · cases h; exact dex_const pe_int fun _ => .int _
    · cases h; exact dex_const pe_str fun _ => .str _
    · rw [Option.map_eq_some_iff] at h
      obtain ⟨_, h1, rfl⟩ := h
      have h1 := chk_some.mp h1
      rw [Bool.and_eq_true, Bool.and_eq_true] at h1
      obtain ⟨⟨e1, e2⟩, e3⟩ := h1
      obtain rfl := eq_of_beq e1
      obtain ⟨d1, d2, _⟩ := okName_d e3
      cases oi with
      | none => cases e2
      | some i => exact dex_fld S d1 d2
    · rw [Option.map_eq_some_iff] at h
      obtain ⟨ms, h1, rfl⟩ := h
      exact dex_lst _ (cXs_ok ih h1)
    · rw [Option.map_eq_some_iff] at h
      obtain ⟨ms, h1, rfl⟩ := h
      exact dex_tup (cXs_ok ih h1)
    · cases h
theorem cSu_ok (F : Fits c X W) (S : SuX X oi nm a oe k dd C dx n) {s : Stmt} {su : Str → D → MS} (h : cSu c oi nm s = some su) : DSX X oi a oe pn dx n v d s (su n d) := by
  unfold cSu at h
  split at h
  · simp only [Option.bind_eq_some_iff, Option.map_eq_some_iff] at h
    obtain ⟨i, hi, _, h1, m', h2, rfl⟩ := h
    have h1 := chk_some.mp h1
    rw [Bool.and_eq_true, Bool.not_eq_true'] at h1
    obtain ⟨s1, s2⟩ := sto_of F h1.1
    exact dsx_set (by rw [F.N]; exact F.nd) (F.at hi) s1 (cX_ok S 9 h2) (swaps_no h1.2 _ _ _) s2
  · rw [Option.map_eq_some_iff] at h
    obtain ⟨m', h1, rfl⟩ := h
    exact dsx_ret (cX_ok S 9 h1)
  · cases h; exact dsx_ct
  · cases h; exact dsx_pass
  · cases h
end
theorem cHs_ok (F : Fits c X W) : ∀ {hds : List ExceptHandler} {l : List PHd}, cHs c hds = some l → ∃ l1, HsOk X hds l l1
  | [], l, h => by cases h; exact ⟨_, .done⟩
  | hd :: hds, l, h => by
    unfold cHs at h
    split at h
    · rename_i x q1 on b q2 rest he
      cases he
      split at h
      · rename_i hx
        unfold excIn at hx
        rw [Bool.and_eq_true, Bool.and_eq_true] at hx
        obtain ⟨⟨x1, x2⟩, x3⟩ := hx
        obtain ⟨d1, d2, d3⟩ := okName_d x1
        have hg := F.gl_of x2
        simp only [Option.bind_eq_some_iff, Option.map_eq_some_iff] at h
        obtain ⟨oi, h1, su, h2, l', h3, rfl⟩ := h
        obtain ⟨l1, ih⟩ := cHs_ok F h3
        have hm : ∃ C, X.mg x = some (.ref C) := by
          split at x3
          · rename_i n ms hl
            obtain ⟨k, _, hk⟩ := F.gl
            have q := hk _ (find_mem hl)
            cases q with
            | exc q0 q1 q2 q3 q4 q5 => exact ⟨_, q2⟩
          · cases x3
        obtain ⟨C, hm⟩ := hm
        have sl : (on = none ∧ oi = none) ∨ ∃ i, on = some (on.getD "") ∧ oi = some i ∧ X.N[i]? = some (on.getD "") ∧ X.env.kindOf (on.getD "") = some .local := by
          cases on with
          | none =>
            unfold cSlot at h1
            cases h1
            exact .inl ⟨rfl, rfl⟩
          | some nm =>
            unfold cSlot at h1
            simp only [Option.bind_eq_some_iff, Option.map_eq_some_iff] at h1
            obtain ⟨_, h4, i, h5, rfl⟩ := h1
            exact .inr ⟨i, rfl, rfl, F.at h5, by rw [F.kOf]; exact isK_eq (chk_some.mp h4)⟩
        refine ⟨_, .cons (nm := on.getD "") hm ⟨hg, d1, .inl hm⟩ sl (fun a oe k d pn hz hf => ?_) ih⟩
        refine pss_su (nm := on.getD "") (fun i hi => ?_) hz hf fun C dx n v d S => cSu_ok F S h2
        rcases sl with ⟨_, e2⟩ | ⟨j, _, e2, e3, e4⟩
        · rw [e2] at hi; cases hi
        · rw [e2] at hi
          cases hi
          refine ⟨e3, .inl ?_⟩
          rw [F.kOf] at e4
          rw [F.sc]
          exact e4
      · cases h
        exact ⟨_, .done⟩
    · cases h
      exact ⟨_, .done⟩
end
/-- where a statement stands -/
structure Lv (X : Cx) : Prop where
  hp : PassesOwn (model X.prog X.w) X.A X.env X.xe
  hs : X.stack = X.env :: X.outer
  hf : X.env.frame = some X.env.locals
/-! ### statements -/
def cRaise (r : Recs) (c : CC) (x : Str) (e : Expr) : Option MS := match c.gl.lookup x with
  | some (.exc n _) => (chk (okName x && glbB c.sc x && !isStar e)).bind fun _ => (r.e c e).map (sRaise x n)
  | _ => some sStuck
def cSs (f : Stmt → Option MS) : List Stmt → Option MS
  | [] => some sNil
  | s :: ss => (f s).bind fun a => (cSs f ss).map fun b => sSeq a b
theorem cSs_ok {X : Cx} {W : WX} {f : Stmt → Option MS} (hf : ∀ {s m}, f s = some m → DS X W s m) : ∀ {ss : List Stmt} {m : MS}, cSs f ss = some m → DSs X W ss m
  | [], m, h => by cases h; exact dss_nil
  | s :: ss, m, h => by
    unfold cSs at h
    simp only [Option.bind_eq_some_iff, Option.map_eq_some_iff] at h
    obtain ⟨a, h1, b, h2, rfl⟩ := h
    exact dss_cons (hf h1) (cSs_ok hf h2)
/-- a, b = .. that are stored at once -/
def parOk (vs : List Expr) : Bool := noStars vs && !(vs.all (foldedForSure 8)) && !(vs.all (constantsAlone 8))
def notComp (e : Expr) : Bool := !isComp e
def swB (c : CC) (t : Str) (pl vl : Nat) (scope : Scope) : Bool := c.sc.kind == .function && c.sc.names.lookup t == some .local && pl == vl && !(scope.names.any fun (n, k) => n == t && (k == .local || k == .cell))
def cAsgN (r : Recs) (c : CC) (x : Str) (px pos : Pos) : Expr → Option MS
  | .ListComp elt gens scope p => (ixOf c.N x).bind fun i => if isK (c.sc.names.lookup x) .cell && stoB c x then (cLC r c (cellAt c p) elt gens scope).map fun m => sSet i m else (chk (isK (c.sc.names.lookup x) .local && swB c x px.line p.line scope)).bind fun _ => (cLC r c (cellAt c p) elt gens scope).map fun m => sSet i m
  | e => (ixOf c.N x).bind fun i => (chk (stoB c x && !isComp e)).bind fun _ => (r.e c e).map fun m => sSet i m
def cAsgT (r : Recs) (c : CC) (elts : List Expr) (k : Nat) (p1 pos : Pos) (e : Expr) : Option MS := match elts, e with
  | [.Name x px, .Name y py], .Tuple [a, b] _ _ => if isK (c.sc.names.lookup x) .cell && isK (c.sc.names.lookup y) .cell then (cSlots c [.Name x px, .Name y py]).bind fun is => (cEs (r.e c) [a, b]).map fun ms => sAsg (.tup is) (mOn fTup ms) else (ixOf c.N x).bind fun i => (ixOf c.N y).bind fun j => (chk (isK (c.sc.names.lookup x) .local && isK (c.sc.names.lookup y) .local && px.line == py.line && !(x == y) && parOk [a, b])).bind fun _ => (cEs (r.e c) [a, b]).map fun ms => sPar i j ms
  | [.Name x px, .Name y py, .Name z pz], .Tuple [a, b, d] _ _ => (ixOf c.N x).bind fun i => (ixOf c.N y).bind fun j => (ixOf c.N z).bind fun l => (chk (isK (c.sc.names.lookup x) .local && isK (c.sc.names.lookup y) .local && isK (c.sc.names.lookup z) .local && px.line == py.line && px.line == pz.line && !(x == y) && !(x == z) && !(y == z) && parOk [a, b, d])).bind fun _ => (cEs (r.e c) [a, b, d]).map fun ms => sPar3 i j l ms
  | _, _ => (chk (!isTupE e && !isComp e)).bind fun _ => (r.e c e).bind fun m => if noStars elts then (cSlots c elts).map fun is => sAsg (.tup is) m else match elts.getLast? with
    | none => none
    | some l => (chk (isStar l && noStars elts.dropLast && !isStar (unstar l))).bind fun _ => (cSlots c (elts.dropLast ++ [unstar l])).map fun is => sStar (cellAt c p1) is m
def cAsgI (r : Recs) (c : CC) (o i e : Expr) : Option MS := (chk (!isTupE e && !isComp e && !isSlice i)).bind fun _ => (r.e c o).bind fun mo => (r.e c i).bind fun mi => (r.e c e).map fun me => sSetIx mo mi me
def cS (r : Recs) (c : CC) : Nat → Stmt → Option MS
  | 0, _ => none
  | n + 1, s => match s with
    | .Expr (.Constant (.str _) _ _) _ => some sNil
    | .Expr e _ => (chk (!isComp e)).bind fun _ => (r.e c e).map sExpr
    | .Return (some e) _ => (r.e c e).map sRet
    | .Return none _ => some sRetN
    | .Pass _ => some sNil
    | .Break _ => some sBk
    | .Continue _ => some sCt
    | .If t p q _ => (r.t c t).bind fun mt => (cSs (cS r c n) p).bind fun mp => (cSs (cS r c n) q).map fun mq => sIf mt mp mq
    | .For tg it body [] _ => (chk (!isSetE it)).bind fun _ => (r.i c (isTupE tg) it).bind fun mi => (cTg c tg).bind fun t => (cSs (cS r c n) body).map fun mb => sFor mi t mb
    | .Raise (some (.Call (.Name x _) [e] [] _)) none _ => cRaise r c x e
    | .Raise .. => some sStuck
    | .Try body (h0 :: hds) [] [] _ => (cSs (cS r c n) body).bind fun mb => (cHs c (h0 :: hds)).map fun l => sTry (emOf c.gl) mb l
    | .Assign [.Name x px] e pos => cAsgN r c x px pos e
    | .Assign [.Tuple elts k p1] e pos => cAsgT r c elts k p1 pos e
    | .Assign [.Subscript o i _] e _ => cAsgI r c o i e
    | .Assign [.Attribute o f _] e _ => cAsgF (r.e c) (fcls f c.gl) o f e
    | .While t p [] _ => (r.t c t).bind fun mt => (cSs (cS r c n) p).map fun mp => sWhile mt mp
    | _ => none
section
variable {c : CC} {X : Cx} {W : WX}
theorem blk_fn (F : Fits c X W) : X.env.blockKind = .function := by
  show (if X.env.scope.kind.isAnnotationScope then ScopeKind.function else X.env.scope.kind) = .function
  rw [F.sc, F.kind]
  rfl
theorem swB_ok (F : Fits c X W) {t : Str} {pt : Pos} {n : Nat} {elt : Expr} {gens : List Comprehension} {scope : Scope} {p : Pos} (h : swB c t pt.line p.line scope = true) : swapsWith (.ListComp elt gens scope p) (some (.Name t pt)) n X.env = pure true := by
  show (pure (X.env.blockKind == .function && X.env.kindOf t == some .local && pt.line == p.line && !(scope.names.any fun (n, k) => n == t && (k == .local || k == .cell))) : Sem Bool) = pure true
  rw [F.kOf, blk_fn F]
  unfold swB at h
  rw [F.kind] at h
  rw [h]
theorem swC {x : Str} {px p : Pos} {n : Nat} {elt : Expr} {gens : List Comprehension} {scope : Scope} (hx : X.env.kindOf x = some .cell) : swapsWith (.ListComp elt gens scope p) (some (.Name x px)) n X.env = pure false := by
  show (pure (X.env.blockKind == .function && X.env.kindOf x == some .local && px.line == p.line && !(scope.names.any fun (n, k) => n == x && (k == .local || k == .cell))) : Sem Bool) = pure false
  rw [hx, show (some NameKind.cell == some NameKind.local) = false from rfl, Bool.and_false, Bool.false_and, Bool.false_and]
theorem swp2c (F : Fits c X W) {x y : Str} {px py pt : Pos} {kt k2 : Nat} {pt2 : Pos} {a b : Expr} (hx : isK (c.sc.names.lookup x) .cell = true) (hy : isK (c.sc.names.lookup y) .cell = true) :
    swappedStores [.Tuple [.Name x px, .Name y py] kt pt] (.Tuple [a, b] k2 pt2) X.env = pure none := by
  have e1 : X.env.kindOf x = some .cell := by rw [F.kOf]; exact isK_eq hx
  have e2 : X.env.kindOf y = some .cell := by rw [F.kOf]; exact isK_eq hy
  have hb := blk_fn F
  have hk : (some NameKind.cell == some NameKind.local) = false := rfl
  unfold swappedStores
  simp [hb, e1, e2, hk]
theorem cAsgN_ok {r : Recs} (S : Sound r) (F : Fits c X W) {x : Str} {px pos : Pos} {e : Expr} {m : MS} (h : cAsgN r c x px pos e = some m) : DS X W (.Assign [.Name x px] e pos) m := by
  have nd : X.N.Nodup := by rw [F.N]; exact F.nd
  unfold cAsgN at h
  split at h
  · simp only [Option.bind_eq_some_iff] at h
    obtain ⟨i, hi, h⟩ := h
    split at h
    · rename_i hc
      rw [Option.map_eq_some_iff] at h
      obtain ⟨m', h2, rfl⟩ := h
      rw [Bool.and_eq_true] at hc
      obtain ⟨s1, s2⟩ := sto_of F hc.2
      exact ds_set nd (F.at hi) s1 (cLC_ok S F h2).1 (swC (by rw [F.kOf]; exact isK_eq hc.1)) s2
    · simp only [Option.bind_eq_some_iff, Option.map_eq_some_iff] at h
      obtain ⟨_, h1, m', h2, rfl⟩ := h
      have h1 := chk_some.mp h1
      rw [Bool.and_eq_true] at h1
      exact (cLC_ok S F h2).2 (F.at hi) (by rw [F.sc]; exact isK_eq h1.1) (swB_ok F h1.2)
  · simp only [Option.bind_eq_some_iff, Option.map_eq_some_iff] at h
    obtain ⟨i, hi, _, h1, m', h2, rfl⟩ := h
    have h1 := chk_some.mp h1
    rw [Bool.and_eq_true, Bool.not_eq_true'] at h1
    obtain ⟨s1, s2⟩ := sto_of F h1.1
    exact ds_set nd (F.at hi) s1 (S.e F h2) (swaps_no h1.2 _ _ _) s2
theorem two_stars {a b : Expr} (h : noStars [a, b] = true) : isStar a = false ∧ isStar b = false := by
  have h : (!isStar a && (!isStar b && true)) = true := h
  simpa using h
theorem three_stars {a b d : Expr} (h : noStars [a, b, d] = true) : isStar a = false ∧ isStar b = false ∧ isStar d = false := by
  have h : (!isStar a && (!isStar b && (!isStar d && true))) = true := h
  simpa using h
theorem any_star : ∀ {vs : List Expr}, noStars vs = true → (vs.any fun | .Starred .. => true | _ => false) = false
  | [], _ => rfl
  | e :: es, h => by
    obtain ⟨h1, h2⟩ := star_two h
    have ih := any_star h2
    rw [List.any_cons, ih]
    cases e <;> first | rfl | cases h1
theorem swp2 (F : Fits c X W) {x y : Str} {px py pt : Pos} {kt k2 : Nat} {pt2 : Pos} {a b : Expr} (hx : isK (c.sc.names.lookup x) .local = true) (hy : isK (c.sc.names.lookup y) .local = true) (hl : (px.line == py.line) = true) (hne : (x == y) = false) (hp : parOk [a, b] = true) :
    swappedStores [.Tuple [.Name x px, .Name y py] kt pt] (.Tuple [a, b] k2 pt2) X.env = pure (some [x, y]) := by
  unfold parOk at hp
  rw [Bool.and_eq_true, Bool.and_eq_true, Bool.not_eq_true', Bool.not_eq_true'] at hp
  obtain ⟨⟨p1, p2⟩, p3⟩ := hp
  have hs := any_star p1
  have e1 : X.env.kindOf x = some .local := by rw [F.kOf]; exact isK_eq hx
  have e2 : X.env.kindOf y = some .local := by rw [F.kOf]; exact isK_eq hy
  have hb := blk_fn F
  have hl' := (eq_of_beq hl).symm
  have hyx : (y == x) = false := by rw [beq_eq_false_iff_ne] at hne ⊢; exact fun z => hne z.symm
  unfold swappedStores
  simp only [hs, hb, p2, p3, List.head?_cons, Option.map_some, Option.getD_some, List.filterMap_cons, List.filterMap_nil, Expr.pos, e1, e2, hl', beq_self_eq_true, Bool.and_self, if_true, List.length_cons, List.length_nil]
  simp [List.eraseDups_cons, hyx, hne]
  have h1 := (two_stars p1).1
  have h2 := (two_stars p1).2
  rintro (h | h)
  · exfalso
    cases a <;> first | exact absurd (show (true : Bool) = false from h1) (fun z => nomatch z) | exact absurd (show (false : Bool) = true from h) (fun z => nomatch z)
  · exfalso
    cases b <;> first | exact absurd (show (true : Bool) = false from h2) (fun z => nomatch z) | exact absurd (show (false : Bool) = true from h) (fun z => nomatch z)
theorem swp3 (F : Fits c X W) {x y z : Str} {px py pz pt : Pos} {kt k2 : Nat} {pt2 : Pos} {a b d : Expr} (hx : isK (c.sc.names.lookup x) .local = true) (hy : isK (c.sc.names.lookup y) .local = true) (hz : isK (c.sc.names.lookup z) .local = true) (hl : (px.line == py.line) = true) (hl2 : (px.line == pz.line) = true)
    (hxy : (x == y) = false) (hxz : (x == z) = false) (hyz : (y == z) = false) (hp : parOk [a, b, d] = true) :
    swappedStores [.Tuple [.Name x px, .Name y py, .Name z pz] kt pt] (.Tuple [a, b, d] k2 pt2) X.env = pure (some [x, y, z]) := by
  unfold parOk at hp
  rw [Bool.and_eq_true, Bool.and_eq_true, Bool.not_eq_true', Bool.not_eq_true'] at hp
  obtain ⟨⟨p1, p2⟩, p3⟩ := hp
  have hs := any_star p1
  have e1 : X.env.kindOf x = some .local := by rw [F.kOf]; exact isK_eq hx
  have e2 : X.env.kindOf y = some .local := by rw [F.kOf]; exact isK_eq hy
  have e3 : X.env.kindOf z = some .local := by rw [F.kOf]; exact isK_eq hz
  have hb := blk_fn F
  have hl' := (eq_of_beq hl).symm
  have hl2' := (eq_of_beq hl2).symm
  have sym : ∀ {u v : Str}, (u == v) = false → (v == u) = false := fun {u v} h => by rw [beq_eq_false_iff_ne] at h ⊢; exact fun z => h z.symm
  unfold swappedStores
  simp only [hs, hb, p2, p3, List.head?_cons, Option.map_some, Option.getD_some, List.filterMap_cons, List.filterMap_nil, Expr.pos, e1, e2, e3, hl', hl2', beq_self_eq_true, Bool.and_self, if_true, List.length_cons, List.length_nil]
  simp [List.eraseDups_cons, hxy, hxz, hyz, sym hxy, sym hxz, sym hyz]
  obtain ⟨h1, h2, h3⟩ := three_stars p1
  rintro (h | h | h)
  · exfalso
    cases a <;> first | exact absurd (show (true : Bool) = false from h1) (fun z => nomatch z) | exact absurd (show (false : Bool) = true from h) (fun z => nomatch z)
  · exfalso
    cases b <;> first | exact absurd (show (true : Bool) = false from h2) (fun z => nomatch z) | exact absurd (show (false : Bool) = true from h) (fun z => nomatch z)
  · exfalso
    cases d <;> first | exact absurd (show (true : Bool) = false from h3) (fun z => nomatch z) | exact absurd (show (false : Bool) = true from h) (fun z => nomatch z)
theorem nd_of {l : List Str} {i j : Nat} {x y : Str} (hi : l[i]? = some x) (hj : l[j]? = some y) (h : (x == y) = false) : i ≠ j := fun e => by
  subst e
  rw [hi] at hj
  cases hj
  simp at h
theorem sole_no {e tg : Expr} (h : isComp e = false) (n : Nat) (env : Env) : swapsWithSole [tg] e n env = pure false := swaps_no h _ _ _
theorem dropLast_last {α : Type} {l : List α} {a : α} (h : l.getLast? = some a) : l = l.dropLast ++ [a] := by
  have hne : l ≠ [] := by rintro rfl; cases h
  rw [List.getLast?_eq_some_getLast hne] at h
  cases h
  exact (List.dropLast_concat_getLast hne).symm
theorem cAsgT_ok {r : Recs} (S : Sound r) (F : Fits c X W) {elts : List Expr} {k : Nat} {p1 pos : Pos} {e : Expr} {m : MS} (h : cAsgT r c elts k p1 pos e = some m) : DS X W (.Assign [.Tuple elts k p1] e pos) m := by
  have nd : X.N.Nodup := by rw [F.N]; exact F.nd
  unfold cAsgT at h
  split at h
  · rename_i x px y py a b k2 pt2
    split at h
    · rename_i hc
      rw [Bool.and_eq_true] at hc
      simp only [Option.bind_eq_some_iff, Option.map_eq_some_iff] at h
      obtain ⟨is, h3, ms, h2, rfl⟩ := h
      obtain ⟨i1, i2⟩ := cSlots_ok F h3
      exact ds_asg (de_tup (cEs_ok (fun h => S.e F h) h2).1) (pg_tup F.calm i1 (by rw [each_len, i2]) (noStar_find rfl)) (sole_no rfl _ _) (swp2c F hc.1 hc.2) rfl
    simp only [Option.bind_eq_some_iff, Option.map_eq_some_iff] at h
    obtain ⟨i, hi, j, hj, _, h1, ms, h2, rfl⟩ := h
    have h1 := chk_some.mp h1
    simp only [Bool.and_eq_true, Bool.not_eq_true'] at h1
    obtain ⟨⟨⟨⟨hx, hy⟩, hl⟩, hne⟩, hp⟩ := h1
    exact ds_par F.calm nd (F.at hi) (F.at hj) (nd_of (F.at hi) (F.at hj) hne) (by rw [F.sc]; exact isK_eq hx) (by rw [F.sc]; exact isK_eq hy) (cEs_ok (fun h => S.e F h) h2).1 (swp2 F hx hy hl hne hp) rfl
  · rename_i x px y py z pz a b d k2 pt2
    simp only [Option.bind_eq_some_iff, Option.map_eq_some_iff] at h
    obtain ⟨i, hi, j, hj, l, hl0, _, h1, ms, h2, rfl⟩ := h
    have h1 := chk_some.mp h1
    simp only [Bool.and_eq_true, Bool.not_eq_true'] at h1
    obtain ⟨⟨⟨⟨⟨⟨⟨⟨hx, hy⟩, hz⟩, hl⟩, hl2⟩, hxy⟩, hxz⟩, hyz⟩, hp⟩ := h1
    exact ds_par3 F.calm nd (F.at hi) (F.at hj) (F.at hl0) (nd_of (F.at hi) (F.at hj) hxy) (nd_of (F.at hi) (F.at hl0) hxz) (nd_of (F.at hj) (F.at hl0) hyz) (by rw [F.sc]; exact isK_eq hx) (by rw [F.sc]; exact isK_eq hy) (by rw [F.sc]; exact isK_eq hz) (cEs_ok (fun h => S.e F h) h2).1 (swp3 F hx hy hz hl hl2 hxy hxz hyz hp) rfl
  · simp only [Option.bind_eq_some_iff] at h
    obtain ⟨_, h1, m', h2, h⟩ := h
    have h1 := chk_some.mp h1
    rw [Bool.and_eq_true, Bool.not_eq_true', Bool.not_eq_true'] at h1
    split at h
    · rename_i hs
      rw [Option.map_eq_some_iff] at h
      obtain ⟨is, h3, rfl⟩ := h
      obtain ⟨i1, i2⟩ := cSlots_ok F h3
      exact ds_asg (S.e F h2) (pg_tup F.calm i1 (by rw [each_len, i2]) (noStar_find hs)) (sole_no h1.2 _ _) (swst_no h1.1 _) rfl
    · split at h
      · cases h
      · rename_i l hl
        simp only [Option.bind_eq_some_iff, Option.map_eq_some_iff] at h
        obtain ⟨_, h3, is, h4, rfl⟩ := h
        have h3 := chk_some.mp h3
        rw [Bool.and_eq_true, Bool.and_eq_true, Bool.not_eq_true'] at h3
        obtain ⟨⟨q1, q2⟩, q3⟩ := h3
        obtain ⟨i1, i2⟩ := cSlots_ok F h4
        exact ds_star _ F.calm (dropLast_last hl) q1 (fun x hx => by
          have q2 : (elts.dropLast.all fun e => !isStar e) = true := q2
          rw [List.all_eq_true] at q2
          simpa using q2 x hx) q3 (by rw [i2, List.length_append]; rfl) i1 (S.e F h2) (sole_no h1.2 _ _) (swst_no h1.1 _) rfl
theorem cAsgI_ok {r : Recs} (S : Sound r) (F : Fits c X W) {o i e : Expr} {tp pos : Pos} {m : MS} (h : cAsgI r c o i e = some m) : DS X W (.Assign [.Subscript o i tp] e pos) m := by
  unfold cAsgI at h
  simp only [Option.bind_eq_some_iff, Option.map_eq_some_iff] at h
  obtain ⟨_, h1, mo, h2, mi, h3, me, h4, rfl⟩ := h
  have h1 := chk_some.mp h1
  rw [Bool.and_eq_true, Bool.and_eq_true, Bool.not_eq_true', Bool.not_eq_true', Bool.not_eq_true'] at h1
  obtain ⟨⟨q1, q2⟩, q3⟩ := h1
  refine ds_setIx (by have := F.units; omega) (S.e F h2) (S.e F h3) (S.e F h4) (fun v => ?_) (sole_no q2 _ _) (swst_no q1 _) rfl
  cases i <;> first | exact absurd (show (true : Bool) = false from q3) (fun z => nomatch z) | rfl
theorem cRaise_ok {r : Recs} (S : Sound r) (F : Fits c X W) {x : Str} {e : Expr} {p pos pos' : Pos} {m : MS} (h : cRaise r c x e = some m) : DS X W (.Raise (some (.Call (.Name x p) [e] [] pos)) none pos') m := by
  unfold cRaise at h
  split at h
  · rename_i n ms hl
    simp only [Option.bind_eq_some_iff, Option.map_eq_some_iff] at h
    obtain ⟨_, h1, m', h2, rfl⟩ := h
    have h1 := chk_some.mp h1
    rw [Bool.and_eq_true, Bool.and_eq_true, Bool.not_eq_true'] at h1
    obtain ⟨⟨e1, e2⟩, e3⟩ := h1
    obtain ⟨k, hr, hk⟩ := F.gl
    have q := hk _ (find_mem hl)
    cases q with
    | exc q0 q1 q2 q3 q4 q5 => exact ds_raise F.calm F.tk q1 (hr.mono q0) (F.gl_of e2) (S.e F h2) (okName_d e1).1 e3
  · cases h
    exact ds_stuck
theorem cS_ok {r : Recs} (S : Sound r) : ∀ (n : Nat) {X : Cx} {W : WX} (F : Fits c X W) (L : Lv X) {s : Stmt} {m : MS}, cS r c n s = some m → DS X W s m
  | 0, X, W, F, L, s, m, h => by cases h
  | n + 1, X, W, F, L, s, m, h => by
    have hp := L.hp
    have ih : ∀ {s m}, cS r c n s = some m → DS X W s m := fun h => cS_ok S n F L h
    unfold cS at h
    split at h
    · cases h
      exact ds_doc
    · simp only [Option.bind_eq_some_iff, Option.map_eq_some_iff] at h
      obtain ⟨_, h1, m', h2, rfl⟩ := h
      have h1 := chk_some.mp h1
      rw [Bool.not_eq_true'] at h1
      exact ds_expr (S.e F h2) (swaps_no h1 _ _ _)
    · rw [Option.map_eq_some_iff] at h
      obtain ⟨m', h1, rfl⟩ := h
      exact ds_ret (S.e F h1)
    · cases h
      exact ds_retN
    · cases h
      exact ds_pass
    · cases h
      exact ds_bk
    · cases h
      exact ds_ct
    · simp only [Option.bind_eq_some_iff, Option.map_eq_some_iff] at h
      obtain ⟨mt, h1, mp, h2, mq, h3, rfl⟩ := h
      exact ds_if (S.t F h1) (cSs_ok ih h2) (cSs_ok ih h3)
    · simp only [Option.bind_eq_some_iff, Option.map_eq_some_iff] at h
      obtain ⟨_, h0, mi, h1, t, h2, mb, h3, rfl⟩ := h
      have h0 := chk_some.mp h0
      rw [Bool.not_eq_true'] at h0
      exact ds_for hp F.calm (S.i F h1 _ id) (cTg_ok F h2) (cSs_ok ih h3) (folded_no h0 _)
    · exact cRaise_ok S F h
    · cases h
      exact ds_stuck
    · simp only [Option.bind_eq_some_iff, Option.map_eq_some_iff] at h
      obtain ⟨mb, h1, l, h2, rfl⟩ := h
      obtain ⟨l1, hl⟩ := cHs_ok F h2
      exact ds_try L.hs L.hf (by rw [F.N]; exact F.nd) F.ex (fun W' pn xe tk ps => cSs_ok (fun h => cS_ok S n (F.tr tk) ⟨ps, L.hs, L.hf⟩ h) h1) hl
    · exact cAsgN_ok S F h
    · exact cAsgT_ok S F h
    · exact cAsgI_ok S F h
    · exact cAsgF_ok F (fun h => S.e F h) h
    · simp only [Option.bind_eq_some_iff, Option.map_eq_some_iff] at h
      obtain ⟨mt, h1, mp, h2, rfl⟩ := h
      exact ds_while hp (S.t F h1) (cSs_ok ih h2)
    · cases h
end
/-! ### defs -/
def ccOf (N : List Str) (sd : Stmt) (gl : List (Str × GE)) (bl : List Str) (cl : List (Nat × Nat)) : CC := ⟨N, defScope sd, fun _ => true, gl, bl, cl⟩
def cDef (N : List Str) (sd : Stmt) (gl : List (Str × GE)) (bl : List Str) (cl : List (Nat × Nat)) : Option MS := cSs (cS (recs 30) (ccOf N sd gl bl cl) 20) (defBody sd)
/-- what a scope has to be -/
def scopeB (N ps : List Str) (sc : Scope) : Bool := sc.kind == .function && !sc.isCoroutine && !sc.isGenerator && decide (N.Nodup) && (N.take ps.length == ps) && (ps.all fun x => isK (sc.names.lookup x) .local || isK (sc.names.lookup x) .cell) && (sc.names.all fun y => !(y.2 == .free))
theorem scopeB_ok {N ps : List Str} {sc : Scope} (h : scopeB N ps sc = true) : FnScope N ps sc := by
  unfold scopeB at h
  simp only [Bool.and_eq_true, Bool.not_eq_true', List.all_eq_true, decide_eq_true_eq, beq_iff_eq, Bool.or_eq_true] at h
  obtain ⟨⟨⟨⟨⟨⟨h1, h2⟩, h3⟩, h4⟩, h5⟩, h6⟩, h7⟩ := h
  exact ⟨h1, h2, h3, h4, h5, fun x hx => (h6 x hx).imp isK_eq isK_eq, fun y hy e => by
    have := h7 y hy
    rw [e] at this
    simp at this⟩
section
variable {P : Program} {w : World} {K : PySem.W.Frag} {mg : MG} {base : Heap} {a : Addr} {fd : FuncData} {ps : List Str} {k : Nat}
/-- THE RULE: a def does what the compiler says -/
theorem Fk.of {x qual : Str} {sd : Stmt} {N : List Str} {gl : List (Str × GE)} {bl : List Str} {cl : List (Nat × Nat)} {m : MS} (fz : Bool) (F : Fun K x qual sd a fd) (hs : scopeB N ps (defScope sd) = true) (hgl : ∀ p ∈ gl, GOk K mg P w base k p.1 p.2) (hbl : ∀ x ∈ bl, mg x = none)
    (h : cDef N sd gl bl cl = some m) : Fk P w K mg base (k + 1) a fd ps (callF fz N.length m) := by
  have S := scopeB_ok hs
  refine Fk.mk' fz F S fun cd A l s H E hr gd => ?_
  have Ft : Fits (ccOf N sd gl bl cl) (cxOf (L2.CX P w) P w K mg base N qual (defScope sd) a cd A l s H E) (fun c d _ H => E c d H) :=
    { N := rfl, nd := S.nd, sc := rfl, kind := S.kind, calm := rfl, gl := ⟨k, hr, hgl⟩, gd := gd, tk := takes_of rfl rfl rfl rfl, bl := hbl, fn := fun _ _ => rfl }
  exact cSs_ok (fun h => cS_ok (recs_ok 30) 20 Ft ⟨passes_of rfl, rfl, rfl⟩ h) h
/-- a def that is known by its name -/
structure DefIn (K : PySem.W.Frag) (mg : MG) (x : Str) (sd : Stmt) (a : Addr) (fd : FuncData) : Prop where
  fu : Fun K x x sd a fd
  ns : PySem.W.nsIn K mainGlobals x = some (some (.ref a))
  mg : mg x = some (.ref a)
theorem GOk.of {x : Str} {sd : Stmt} {f : Fn} {np : Option Nat} {sigs : List Sig} (D : DefIn K mg x sd a fd) (F : Fk P w K mg base k a fd ps f) (h1 : ∀ n, np = some n → ps.length = n ∧ ∀ us : List Value, us.length = ps.length → bindArgs fd ⟨us, []⟩ = pure (ps.zip us)) (h2 : ∀ S ∈ sigs, SigOk K fd ps S) :
    GOk K mg P w base k x (.fn f np sigs) := .fn D.ns D.mg D.fu.kp F (fun n hn => ⟨(h1 n hn).1, fun s us _ hl => .of_eq ((h1 n hn).2 us hl)⟩) h2
theorem GOk.mono {j : Nat} {x : Str} {e : GE} (G : GOk K mg P w base j x e) (h : j ≤ k) : GOk K mg P w base k x e := by
  cases G with
  | val h1 h2 h3 => exact .val h1 h2 h3
  | fn h0 h1 h2 h3 h4 h5 => exact .fn h0 h1 h2 (h3.mono h) h4 h5
  | exc h0 h1 h2 h3 h4 h5 => exact .exc (Nat.le_trans h0 h) h1 h2 h3 h4 h5
  | cls h0 h1 => exact .cls (h0.mono h) fun fz f nps e => (h1 fz f nps e).mono h
theorem tab_nil : ∀ p ∈ ([] : List (Str × GE)), GOk K mg P w base k p.1 p.2 := fun p h => by cases h
theorem tab_cons {x : Str} {e : GE} {l : List (Str × GE)} (h : GOk K mg P w base k x e) (t : ∀ p ∈ l, GOk K mg P w base k p.1 p.2) : ∀ p ∈ (x, e) :: l, GOk K mg P w base k p.1 p.2 := fun p hp => by
  rcases List.mem_cons.mp hp with rfl | hp
  · exact h
  · exact t p hp
theorem tab_mono {j : Nat} {l : List (Str × GE)} (h : j ≤ k) (t : ∀ p ∈ l, GOk K mg P w base j p.1 p.2) : ∀ p ∈ l, GOk K mg P w base k p.1 p.2 := fun p hp => (t p hp).mono h
end
/-- a def that stands in the module -/
structure Has (K : PySem.W.Frag) (mg : MG) (x : Str) (sd : Stmt) : Prop where
  ex : ∃ (a : Addr) (fd : FuncData), DefIn K mg x sd a fd ∧ ∃ (kV dc pm : Value) (an : Option Addr) (cd ct : Value), fd = PySem.W.fnOf x x (defArgs sd) (defBody sd) (defScope sd) .none kV dc pm an cd ct
theorem Has.of {K : PySem.W.Frag} {mg : MG} {h : Heap} {x : Str} {sd : Stmt} {f : Addr} {oc kV dc pm cd ct : Value} {od an : Option Addr} {sl : Array (Option Value)} (X : K.In h) (G : h.Ns mainGlobals mg) (a : PySem.W.nsIn K mainGlobals x = some (some (.ref f)))
    (l : K.lookup f = some ⟨oc, od, .func (PySem.W.fnOf x x (defArgs sd) (defBody sd) (defScope sd) .none kV dc pm an cd ct), sl⟩) (c : PySem.W.codeIn K cd x = true) (k : PySem.W.keepIn K (.ref f) = true) : Has K mg x sd :=
  ⟨f, _, ⟨fun_mk l c k, a, PySem.W.mg_of X G a⟩, kV, dc, pm, an, cd, ct, rfl⟩
end P3

/-! P3L: own exceptions from what the head tells. -/
namespace P3
open PySem PySem.Spec PyProof.Rows L2
/-- the j-th statement of a class -/
def clsStmt (s : Stmt) (j : Nat) : Stmt := match s with
  | .ClassDef _ _ _ b _ _ _ _ _ _ _ => b.getD j (.Pass ⟨0, 0, 0, 0⟩)
  | _ => .Pass ⟨0, 0, 0, 0⟩
section
variable {P : Program} {w : World} {K : PySem.W.Frag} {h : Heap} {mg : MG} {base : Heap}
theorem exm_is {C Y : Addr} {b : Bool} (h1 : PySem.W.subIn K (.ref Y) (.type "BaseException") = some true) (h2 : PySem.W.isClsIn K Y = true) (h3 : PySem.W.typeIn K (.ref Y) = some (.type "type")) (h4 : PySem.W.subIn K (.ref C) (.ref Y) = some b) :
    PySem.W.exmOne K (.ref C) (.ref Y) = some b := by
  have e1 : (PySem.W.subIn K (.ref Y) (.type "BaseException") == some true) = true := by rw [h1] <;> rfl
  have e2 : ((PySem.W.clsIn K Y).isSome && PySem.W.typeIn K (.ref Y) == some (.type "type")) = true := by
    have h2' : (PySem.W.clsIn K Y).isSome = true := h2
    rw [h2', h3] <;> rfl
  show (if (PySem.W.subIn K (.ref Y) (.type "BaseException") == some true) = true then (if ((PySem.W.clsIn K Y).isSome && PySem.W.typeIn K (.ref Y) == some (.type "type")) = true then PySem.W.subIn K (.ref C) (.ref Y) else none) else none) = some b
  rw [if_pos e1, if_pos e2]
  exact h4
/-- what the head tells of an own exception -/
structure ExcF (K : PySem.W.Frag) (mg : MG) (x n b : Str) (C C0 : Addr) : Prop where
  gC : mg x = some (.ref C)
  ox : OexC K C
  xf : XfC K C
  no : PySem.W.findIn K (.ref C) n = some none
  iC : PySem.W.isClsIn K C = true
theorem ExcF.mk' {x n b nm q : Str} {N : Addr} {bs : List Value} {sn : List Str} {sub : List Value} {ab : Bool} {col : Option Bool} {dd : Option Addr} {m0 m1 m2 m3 m5 : Option Value} {C C0 : Addr} (X : K.In h) (G : h.Ns mainGlobals mg)
    (aC : PySem.W.nsIn K mainGlobals x = some (some (.ref C)))
    (xL : K.lookup C = some (excClassObj nm q C N bs [.ref C0, .type "ValueError", .type "Exception", .type "BaseException", .type "object"] true sn sub ab col dd m0 m1 m2 m3 m5 "ValueError.__new__"))
    (sa : PySem.W.findIn K (.ref C) "__setattr__" = some (some (.builtin "object.__setattr__"))) (ga : PySem.W.findIn K (.ref C) "__getattribute__" = some (some (.builtin "BaseException.__getattribute__"))) (gg : PySem.W.findIn K (.ref C) "__getattr__" = some none) (no : PySem.W.findIn K (.ref C) n = some none)
    (kC : PySem.W.keepIn K (.ref C) = true) (eC : PySem.W.subIn K (.ref C) (.type "BaseException") = some true) (tC : PySem.W.typeIn K (.ref C) = some (.type "type")) (hC : PySem.W.hasDictIn K C = true) (iC : PySem.W.isClsIn K C = true) : ExcF K mg x n b C C0 :=
  ⟨PySem.W.mg_of X G aC, ⟨⟨nm, q, N, bs, _, sn, sub, ab, col, dd, m0, m1, m2, m3, m5, xL, by rfl⟩, sa, eC, tC, kC⟩, ⟨ga, gg, eC, hC⟩, no, iC⟩
/-- .. and of its __init__ -/
theorem ExcF.err {x n b f msg qual : Str} {st : Stmt} {C C0 fI : Addr} {mc : Value} {j : Nat} {p1 p2 p3 p4 p5 p6 p7 p8 p9 p10 : Pos} {oc kV dc pm cd ct : Value} {od an : Option Addr} {sl : Array (Option Value)} (F : ExcF K mg x n b C C0)
    (gB : mg b = some (.ref C0)) (rB : PySem.W.readsIn K C0 mc = true) (aB : PySem.W.specialIn K (.ref C0) "__getattribute__" = some (some (.builtin "type.__getattribute__"))) (vB : PySem.W.findCls K (.ref C0) mc "__init__" = some (.val (.builtin "ValueError.__init__")))
    (iI : PySem.W.findIn K (.ref C) "__init__" = some (some (.ref fI))) (tI : PySem.W.typeIn K (.ref fI) = some (.type "function"))
    (lI : K.lookup fI = some ⟨oc, od, .func (PySem.W.fnOf "__init__" qual (defArgs st) (defBody st) (defScope st) .none kV dc pm an cd ct), sl⟩) (cI : PySem.W.codeIn K cd qual = true) (kI : PySem.W.keepIn K (.ref fI) = true)
    (hs : defBody st = [.Expr (.Call (.Attribute (.Name b p1) "__init__" p2) [.Name "self" p3, .Constant (.str msg) j p4] [] p5) p6, .Assign [.Attribute (.Name "self" p7) n p8] (.Name f p9) p10])
    (hcE : ∀ env : Env, ∃ pl : Sem Bool, eval (.Call (.Attribute (.Name b p1) "__init__" p2) [.Name "self" p3, .Constant (.str msg) j p4] [] p5) env = (do
      let ov ← eval (.Name b p1) env
      standAt p2.atName
      let (f, first) ← holding [ov] (getMethod ov "__init__" pl)
      callWith p5 f first (backTo p5 (starEach [.Name "self" p3, .Constant (.str msg) j p4] env)) (backToKw p5 (keywordEach [] env))))
    (S : FnScope ["self", f] ["self", f] (defScope st)) (vs1 : Vis (defScope st) "self") (vs2 : Vis (defScope st) f) (vb : (defScope st).names.lookup b = some .globalImplicit)
    (hb1 : (b == ("__debug__" : Str)) = false) (hf1 : (f == ("__debug__" : Str)) = false) (hf2 : (f == ("__classdict__" : Str)) = false)
    (hbd : ∀ (kV doc pm : Value) (an : Option Addr) (cdv ct : Value) (us : List Value), us.length = (["self", f] : List Str).length → bindArgs (PySem.W.fnOf "__init__" qual (defArgs st) (defBody st) (defScope st) .none kV doc pm an cdv ct) ⟨us, []⟩ = pure ((["self", f] : List Str).zip us)) :
    ErrC P w K mg base x n := by
  have Fn := fun_mk (st := st) lI cI kI
  have B := Fn.binds hbd
  exact ⟨C, fI, _, _, F.ox, F.gC, F.no, iI, tI, B, init_ok Fn hs S vs1 vs2 vb hb1 hf1 hf2 gB ⟨rB, aB⟩ vB F.ox F.no hcE⟩
theorem ExcF.ok {x n b : Str} {C C0 : Addr} {ms : List (Str × Bool)} {k : Nat} (hk : 2 ≤ k) (F : ExcF K mg x n b C C0) (E : ErrC P w K mg base x n) (hm : ∀ y b, ms.lookup y = some b → ∃ c, mg y = some c ∧ PySem.W.exmOne K (.ref C) c = some b) : GOk K mg P w base k x (.exc n ms) := .exc hk E F.gC F.xf F.no hm
theorem ms_nil {C : Addr} : ∀ y b, ([] : List (Str × Bool)).lookup y = some b → ∃ c, mg y = some c ∧ PySem.W.exmOne K (.ref C) c = some b := fun y b h => by cases h
theorem ms_cons {C Y : Addr} {y n0 b0 : Str} {C1 : Addr} {b : Bool} {l : List (Str × Bool)} (F : ExcF K mg y n0 b0 Y C1) (s : PySem.W.subIn K (.ref C) (.ref Y) = some b) (t : ∀ y b, l.lookup y = some b → ∃ c, mg y = some c ∧ PySem.W.exmOne K (.ref C) c = some b) :
    ∀ z b', ((y, b) :: l).lookup z = some b' → ∃ c, mg z = some c ∧ PySem.W.exmOne K (.ref C) c = some b' := fun z b' h => by
  rw [List.lookup_cons] at h
  cases hz : z == y with
  | true =>
    rw [hz] at h
    cases h
    rw [eq_of_beq hz]
    exact ⟨_, F.gC, exm_is F.ox.exC F.iC F.ox.tyC s⟩
  | false =>
    rw [hz] at h
    exact t z b' h
end
end P3

/-! P4E: from what the head of the law's row tells of a class to its entry. -/
namespace P3
open PySem PySem.Spec PyProof.Rows L2
section
variable {P : Program} {w : World} {K : PySem.W.Frag} {mg : MG} {base : Heap} {k : Nat} {C : Addr}
theorem kit_self : PySem.W.kitOne K (.ref C) (.ref C) = some true := by
  unfold PySem.W.kitOne
  rw [if_pos (by simp)]
theorem kit_no {T : String} (i : PySem.W.isClsIn K C = true) (t : PySem.W.typeIn K (.ref C) = some (.type "type")) (h : PySem.W.subIn K (.type T) (.ref C) = some false) : PySem.W.kitOne K (.type T) (.ref C) = some false := by
  unfold PySem.W.kitOne
  rw [if_neg (by simp)]
  unfold PySem.W.kitCls
  have i : (PySem.W.clsIn K C).isSome = true := i
  simp [i, t, h]
/-- a method that stands in a class -/
structure HasM (K : PySem.W.Frag) (C : Addr) (mn qual : Str) (sd : Stmt) : Prop where
  ex : ∃ (a : Addr) (fd : FuncData), Fun K mn qual sd a fd ∧ Meth K C mn a ∧ ∃ (kV dc pm : Value) (an : Option Addr) (cd ct : Value), fd = PySem.W.fnOf mn qual (defArgs sd) (defBody sd) (defScope sd) .none kV dc pm an cd ct
theorem HasM.of {mn qual : Str} {sd : Stmt} {f : Addr} {oc kV dc pm cd ct : Value} {od an : Option Addr} {sl : Array (Option Value)} (a : PySem.W.findIn K (.ref C) mn = some (some (.ref f))) (i : PySem.W.isFn K (.ref f) = true)
    (l : K.lookup f = some ⟨oc, od, .func (PySem.W.fnOf mn qual (defArgs sd) (defBody sd) (defScope sd) .none kV dc pm an cd ct), sl⟩) (c : PySem.W.codeIn K cd qual = true) (k : PySem.W.keepIn K (.ref f) = true) : HasM K C mn qual sd :=
  ⟨f, _, fun_mk l c k, ⟨a, i, k⟩, kV, dc, pm, an, cd, ct, rfl⟩
/-- a method does f -/
def MthK (K : PySem.W.Frag) (mg : MG) (P : Program) (w : World) (base : Heap) (k : Nat) (C : Addr) (mn : Str) (n : Nat) (f : Fn) : Prop :=
  ∃ fa fd ps, Meth K C mn fa ∧ Fk P w K mg base k fa fd ps f ∧ ps.length = n + 1 ∧ ∀ (s : Shared) (us : List Value), K.In s.heap → us.length = n + 1 → BindsTo s fd ⟨us, []⟩ (ps.zip us)
theorem MthK.mono {j : Nat} {mn : Str} {n : Nat} {f : Fn} (h : MthK K mg P w base j C mn n f) (hk : j ≤ k) : MthK K mg P w base k C mn n f :=
  let ⟨fa, fd, ps, a, b, c⟩ := h; ⟨fa, fd, ps, a, b.mono hk, c⟩
theorem MthK.of {mn qual : Str} {sd : Stmt} {n : Nat} {ps N : List Str} {gl : List (Str × GE)} {bl : List Str} {cl : List (Nat × Nat)} {m : MS} (fz : Bool) (H : HasM K C mn qual sd) (hs : scopeB N ps (defScope sd) = true) (hgl : ∀ p ∈ gl, GOk K mg P w base k p.1 p.2) (hbl : ∀ x ∈ bl, mg x = none)
    (h : cDef N sd gl bl cl = some m) (len : ps.length = n + 1) (hb : ∀ (kV dc pm : Value) (an : Option Addr) (cd ct : Value) (us : List Value), us.length = ps.length → bindArgs (PySem.W.fnOf mn qual (defArgs sd) (defBody sd) (defScope sd) .none kV dc pm an cd ct) ⟨us, []⟩ = pure (ps.zip us)) :
    MthK K mg P w base (k + 1) C mn n (callF fz N.length m) := by
  obtain ⟨a, fd, fu, mt, kV, dc, pm, an, cd, ct, rfl⟩ := H.ex
  exact ⟨a, _, ps, mt, Fk.of fz fu hs hgl hbl h, len, fun s us _ hl => .of_eq (hb kV dc pm an cd ct us (by rw [len]; exact hl))⟩
theorem mths_nil : ∀ mn n f, (mn, n, f) ∈ ([] : List (Str × Nat × Fn)) → MthK K mg P w base k C mn n f := fun _ _ _ h => by cases h
theorem mths_cons {a : Str} {b : Nat} {g : Fn} {l : List (Str × Nat × Fn)} (h : MthK K mg P w base k C a b g) (t : ∀ mn n f, (mn, n, f) ∈ l → MthK K mg P w base k C mn n f) : ∀ mn n f, (mn, n, f) ∈ (a, b, g) :: l → MthK K mg P w base k C mn n f := fun mn n f hm => by
  rcases List.mem_cons.mp hm with e | hm
  · cases e; exact h
  · exact t mn n f hm
/-- all that is known of a class but for its methods -/
structure ClsF (K : PySem.W.Frag) (mg : MG) (x : Str) (C : Addr) (flds : List Str) : Prop where
  ns : PySem.W.nsIn K mainGlobals x = some (some (.ref C))
  at_ : mg x = some (.ref C)
  is : ClsIs K C
  sd : EqSide K C
  fl : ∀ f ∈ flds, NoAttr K C f
theorem ClsF.ent {x : Str} {flds : List Str} {init : Option (Bool × Fn × List (Nat × List D))} {mths : List (Str × Nat × Fn)} (c : ClsF K mg x C flds) (hi : ∀ fz f nps, init = some (fz, f, nps) → MakeOk K mg P w base k x C f nps) (hm : ∀ mn n f, (mn, n, f) ∈ mths → MthK K mg P w base k C mn n f) : GOk K mg P w base k x (.cls init flds mths) :=
  .cls ⟨c.ns, c.at_, c.is, c.sd, c.fl, hm⟩ hi
theorem init_none {x : Str} : ∀ fz f nps, (none : Option (Bool × Fn × List (Nat × List D))) = some (fz, f, nps) → MakeOk K mg P w base k x C f nps := fun _ _ _ h => by cases h
theorem init_some {x : Str} {fz : Bool} {f : Fn} {nps : List (Nat × List D)} (h : MakeOk K mg P w base k x C f nps) : ∀ fz' f' nps', some (fz, f, nps) = some (fz', f', nps') → MakeOk K mg P w base k x C f' nps' := fun _ _ _ e => by
  cases e
  exact h
/-- made by a __init__ that is given all -/
theorem MakeOk.full {x : Str} {f : Fn} {n : Nat} (c : ClsF K mg x C []) (mk : PySem.W.makesIn K C = true) (kp : PySem.W.keepIn K (.ref C) = true) (h : MthK K mg P w base k C "__init__" n f) : MakeOk K mg P w base (k + 1) x C f [(n, [])] := by
  obtain ⟨fa, fd, ps, mt, F, hl, hb⟩ := h
  refine ⟨fa, fd, ps, k, Nat.le_refl _, c.at_, ⟨mk, mt.at_, mt.fn, kp⟩, F, fun n' ds0 hm => ?_⟩
  have hm := List.mem_singleton.mp hm
  cases hm
  exact ⟨[], fun s us hK hu => by rw [List.append_nil]; exact hb s us hK hu, by rw [hl]; rfl, [], .nil, fun g => .nil⟩
theorem ClsF.less {x : Str} {flds : List Str} (c : ClsF K mg x C flds) : ClsF K mg x C [] := ⟨c.ns, c.at_, c.is, c.sd, fun f h => by cases h⟩
theorem MakeOk.up {j : Nat} {x : Str} {f : Fn} {nps : List (Nat × List D)} (h : MakeOk K mg P w base j x C f nps) (hk : j ≤ k) : MakeOk K mg P w base k x C f nps := h.mono hk
end
end P3

/-! P3W: what the combinators answer; wishes. -/
namespace P3
open PySem PySem.Spec PyProof.Rows L2
/-! ### wishes; the last argument only hides what is wanted from simp, till its turn comes -/
inductive Hide {β : Sort _} (Q : β) : Type where
  | u
def wp {α : Type} (r : Res α) (Q : α → Sto → Prop) (_ : Hide Q := .u) : Prop := match r with
  | .ok a st => Q a st
  | _ => False
structure Po where
  nx : Ro → Sto → Prop := fun _ _ => False
  rt : D → Sto → Prop := fun _ _ => False
  bk : Ro → Sto → Prop := fun _ _ => False
  ct : Ro → Sto → Prop := fun _ _ => False
def ws (r : RS) (Q : Po) (_ : Hide Q := .u) : Prop := match r with
  | .nx ρ st => Q.nx ρ st
  | .rt d st => Q.rt d st
  | .bk ρ st => Q.bk ρ st
  | .ct ρ st => Q.ct ρ st
  | _ => False
def opt {α : Type} (o : Option α) (Q : α → Prop) (_ : Hide Q := .u) : Prop := match o with
  | some a => Q a
  | none => False
def brk (k : Bool) (A B : Prop) (_ : Hide (A, B) := .u) : Prop := match k with
  | true => A
  | false => B
section
variable {α β : Type} {r : Res α} {Q Q' : α → Sto → Prop} {ρ : Ro} {st : Sto} {d : D}
theorem wp_imp (h : wp r Q) (k : ∀ a st, Q a st → Q' a st) : wp r Q' := by
  cases r with
  | ok a st => exact k a st h
  | exc => exact h.elim
  | stuck => exact h.elim
theorem wp_ok_of (h : wp r Q) : ∃ a st, r = .ok a st ∧ Q a st := by
  cases r with
  | ok a st => exact ⟨a, st, rfl, h⟩
  | exc => exact h.elim
  | stuck => exact h.elim
theorem ws_imp {s : RS} {Q Q' : Po} (h : ws s Q) (k1 : ∀ ρ st, Q.nx ρ st → Q'.nx ρ st) (k2 : ∀ d st, Q.rt d st → Q'.rt d st) (k3 : ∀ ρ st, Q.bk ρ st → Q'.bk ρ st) (k4 : ∀ ρ st, Q.ct ρ st → Q'.ct ρ st) : ws s Q' := by
  cases s with
  | nx ρ st => exact k1 _ _ h
  | rt d st => exact k2 _ _ h
  | bk ρ st => exact k3 _ _ h
  | ct ρ st => exact k4 _ _ h
  | exc => exact h.elim
  | stuck => exact h.elim
theorem opt_some {a : α} {P : α → Prop} : opt (some a) P = P a := rfl
theorem opt_none {P : α → Prop} : opt none P = False := rfl
theorem opt_of {o : Option α} {P : α → Prop} {a : α} (e : o = some a) (h : P a) : opt o P := by rw [e]; exact h
theorem brk_t {A B : Prop} : brk true A B = A := rfl
theorem brk_f {A B : Prop} : brk false A B = B := rfl
theorem brk_if {k : Bool} {A B : Prop} (h1 : k = true → A) (h2 : k = false → B) : brk k A B := by
  cases k with
  | true => exact h1 rfl
  | false => exact h2 rfl
theorem wp_ok {a : α} : wp (.ok a st) Q = Q a st := rfl
theorem wp_bind {f : α → Sto → Res β} {Q : β → Sto → Prop} : wp (r.bind f) Q = wp r (fun a st => wp (f a st) Q) := by cases r <;> rfl
theorem wp_ite {c : Bool} {a b : Res α} : wp (if c then a else b) Q = brk c (wp a Q) (wp b Q) := by cases c <;> rfl
theorem wp_optR {o : Option α} : wp (optR o st) Q = opt o (fun a => Q a st) := by cases o <;> rfl
theorem ws_nx {Q : Po} : ws (.nx ρ st) Q = Q.nx ρ st := rfl
theorem ws_rt {Q : Po} : ws (.rt d st) Q = Q.rt d st := rfl
theorem ws_bk {Q : Po} : ws (.bk ρ st) Q = Q.bk ρ st := rfl
theorem ws_ct {Q : Po} : ws (.ct ρ st) Q = Q.ct ρ st := rfl
theorem ws_ite {c : Bool} {a b : RS} {Q : Po} : ws (if c then a else b) Q = brk c (ws a Q) (ws b Q) := by cases c <;> rfl
theorem ws_toS {f : α → Sto → RS} {Q : Po} : ws (r.toS ρ f) Q = wp r (fun a st => ws (f a st) Q) := by cases r <;> rfl
end
/-! ### combinators -/
def asBl : D → Option Bool
  | .bl k => some k
  | _ => none
def asInt : D → Option Int
  | .int k => some k
  | _ => none
def asTwo : List D → Option (D × D)
  | [d, e] => some (d, e)
  | _ => none
def asThree : List D → Option (D × D × D)
  | [d, e, f] => some (d, e, f)
  | _ => none
def slot (ρ : Ro) (i : Nat) : Option D := match ρ[i]? with
  | some (some d) => some d
  | _ => none
section
variable {ρ : Ro} {st : Sto} {d : D} {a b c : ME} {ms : MEs} {t u : MT} {f g : D → D → Sto → Res D} {Q : D → Sto → Prop} {QB : Bool → Sto → Prop} {QL : List D → Sto → Prop} {S : Po}
theorem slot_0 {r : Ro} : slot (some d :: r) 0 = some d := rfl
theorem slot_s {o : Option D} {r : Ro} {i : Nat} : slot (o :: r) (i + 1) = slot r i := rfl
theorem ap_mC : mC d ρ st = .ok d st := rfl
theorem ap_mVar {i : Nat} : wp (mVar i ρ st) Q = opt (slot ρ i) (fun d => Q d st) := by
  unfold mVar slot
  cases h : ρ[i]? with
  | none => rfl
  | some o => cases o <;> rfl
theorem ap_mVar' {i : Nat} (h : ρ[i]? = some (some d)) : mVar i ρ st = .ok d st := by
  unfold mVar
  rw [h]
theorem ap_mBin : mBin f a b ρ st = (a ρ st).bind fun x st => (b ρ st).bind fun y st => f x y st := rfl
theorem ap_mUn {f : D → Sto → Res D} : mUn f a ρ st = (a ρ st).bind fun x st => f x st := rfl
theorem ap_mNil : mNil ρ st = .ok [] st := rfl
theorem ap_mCons : mCons a ms ρ st = (a ρ st).bind fun x st => (ms ρ st).bind fun xs st => .ok (x :: xs) st := rfl
theorem ap_mOn {f : List D → Sto → Res D} : mOn f ms ρ st = (ms ρ st).bind f := rfl
theorem ap_mKw {mk : MEs} {f : Fn} {S : Sig} : mKw ms mk f S ρ st = (ms ρ st).bind fun ds st => (mk ρ st).bind fun es st => f (pick (ds ++ es ++ S.ds0) S.ix) st := rfl
theorem ap_mMeth {T : String} {f : D → List D → Sto → Res D} : mMeth T f a ms ρ st = (a ρ st).bind fun d st => if tcD T d st then (ms ρ st).bind fun ds st => f d ds st else .stuck := rfl
theorem ap_mSl {k : Bool} {lo hi : MO} : mSl k a lo hi ρ st = (a ρ st).bind fun x st => (lo ρ st).bind fun l st => (hi ρ st).bind fun h st => fSl k x l h st := rfl
theorem ap_oNone : oNone ρ st = .ok none st := rfl
theorem ap_oSome {Q : Option Int → Sto → Prop} : wp (oSome a ρ st) Q = wp (a ρ st) (fun d st => opt (asInt d) fun i => Q (some i) st) := by
  unfold oSome
  rw [wp_bind]
  cases a ρ st with
  | ok d st => cases d <;> rfl
  | _ => rfl
theorem ap_tAnd : tAndM t u ρ st = (t ρ st).bind fun x st => if x then u ρ st else .ok false st := rfl
theorem ap_tOr : tOrM t u ρ st = (t ρ st).bind fun x st => if x then .ok true st else u ρ st := rfl
theorem ap_tNot : tNotM t ρ st = (t ρ st).bind fun x st => .ok (!x) st := rfl
theorem ap_mIf : mIfM t a b ρ st = (t ρ st).bind fun x st => if x then a ρ st else b ρ st := rfl
theorem ap_mYes : mYes ρ st = .ok true st := rfl
theorem wp_tru : wp (mTru a ρ st) QB = wp (a ρ st) (fun d st => opt (truth d st) fun k => QB k st) := by
  unfold mTru
  rw [wp_bind]
  cases a ρ st with
  | ok d st =>
    show wp (match truth d st with | some k => Res.ok k st | none => .stuck) QB = opt (truth d st) fun k => QB k st
    cases truth d st <;> rfl
  | _ => rfl
theorem wp_notM : wp (mNotM a ρ st) Q = wp (a ρ st) (fun d st => opt (truth d st) fun k => Q (.bl (!k)) st) := by
  unfold mNotM
  rw [wp_bind]
  cases a ρ st with
  | ok d st =>
    show wp (match truth d st with | some k => Res.ok (.bl (!k)) st | none => .stuck) Q = opt (truth d st) fun k => Q (.bl (!k)) st
    cases truth d st <;> rfl
  | _ => rfl
theorem wp_andM : wp (mAndM a b ρ st) Q = wp (a ρ st) (fun d st => opt (truth d st) fun k => brk k (wp (b ρ st) Q) (Q d st)) := by
  unfold mAndM
  rw [wp_bind]
  cases a ρ st with
  | ok d st =>
    show wp (match truth d st with | some true => b ρ st | some false => .ok d st | none => .stuck) Q = opt (truth d st) fun k => brk k (wp (b ρ st) Q) (Q d st)
    cases truth d st with
    | none => rfl
    | some k => cases k <;> rfl
  | _ => rfl
theorem wp_orM : wp (mOrM a b ρ st) Q = wp (a ρ st) (fun d st => opt (truth d st) fun k => brk k (Q d st) (wp (b ρ st) Q)) := by
  unfold mOrM
  rw [wp_bind]
  cases a ρ st with
  | ok d st =>
    show wp (match truth d st with | some true => .ok d st | some false => b ρ st | none => .stuck) Q = opt (truth d st) fun k => brk k (Q d st) (wp (b ρ st) Q)
    cases truth d st with
    | none => rfl
    | some k => cases k <;> rfl
  | _ => rfl
theorem wp_chain : wp (mChain f g a b c ρ st) Q = wp (a ρ st) (fun x st => wp (b ρ st) fun y st => wp (f x y st) fun z st => opt (asBl z) fun k => brk k (wp (c ρ st) fun w st => wp (g y w st) Q) (Q (.bl false) st)) := by
  unfold mChain
  rw [wp_bind]
  cases a ρ st with
  | ok x st =>
    simp only [wp_ok, wp_bind]
    cases b ρ st with
    | ok y st =>
      simp only [wp_ok]
      cases f x y st with
      | ok z st =>
        simp only [wp_ok]
        cases z with
        | bl k =>
          cases k with
          | true =>
            show wp ((c ρ st).bind fun w st => g y w st) Q = wp (c ρ st) fun w st => wp (g y w st) Q
            exact wp_bind
          | false => rfl
        | _ => rfl
      | _ => rfl
    | _ => rfl
  | _ => rfl
theorem tru_bl {k : Bool} : truth (.bl k) st = some k := rfl
theorem tru_int {i : Int} : truth (.int i) st = some (i != 0) := rfl
theorem tru_lst {l : List D} : truth (.lst l) st = some (!l.isEmpty) := rfl
theorem tru_tup {l : List D} : truth (.tup l) st = some (!l.isEmpty) := rfl
theorem tru_non : truth .non st = some false := rfl
theorem asBl_bl {k : Bool} : asBl (.bl k) = some k := rfl
theorem asInt_int {k : Int} : asInt (.int k) = some k := rfl
theorem asTwo_ap {x y : D} : asTwo [x, y] = some (x, y) := rfl
theorem asThree_ap {x y z : D} : asThree [x, y, z] = some (x, y, z) := rfl
/-! statements -/
theorem ap_sNil : sNil ρ st = .nx ρ st := rfl
theorem ws_seq {x y : MS} : ws (sSeq x y ρ st) S = ws (x ρ st) { S with nx := fun ρ st => ws (y ρ st) S } := by
  unfold sSeq
  cases x ρ st <;> rfl
theorem ap_sSet {i : Nat} : sSet i a ρ st = (a ρ st).toS ρ fun d st => .nx (ρ.set i (some d)) st := rfl
theorem ap_sIf {x y : MS} : sIf t x y ρ st = (t ρ st).toS ρ fun k st => if k then x ρ st else y ρ st := rfl
theorem ap_sRet : sRet a ρ st = (a ρ st).toS ρ fun d st => .rt d st := rfl
theorem ap_sRetN : sRetN ρ st = .rt .non st := rfl
theorem ap_sExpr : sExpr a ρ st = (a ρ st).toS ρ fun _ st => .nx ρ st := rfl
theorem ap_sBk : sBk ρ st = .bk ρ st := rfl
theorem ap_sCt : sCt ρ st = .ct ρ st := rfl
theorem ws_asg {x : Tg} : ws (sAsg x a ρ st) S = wp (a ρ st) (fun d st => opt (gtD x d ρ) fun ρ' => S.nx ρ' st) := by
  unfold sAsg
  rw [ws_toS]
  cases a ρ st with
  | ok d st =>
    show ws (match gtD x d ρ with | some ρ' => RS.nx ρ' st | none => .stuck) S = opt (gtD x d ρ) fun ρ' => S.nx ρ' st
    cases gtD x d ρ <;> rfl
  | _ => rfl
theorem ws_par {i j : Nat} : ws (sPar i j ms ρ st) S = wp (ms ρ st) (fun ds st => opt (asTwo ds) fun q => S.nx ((ρ.set i (some q.1)).set j (some q.2)) st) := by
  unfold sPar
  rw [ws_toS]
  cases ms ρ st with
  | ok ds st =>
    show ws (match ds with | [d, e] => RS.nx ((ρ.set i (some d)).set j (some e)) st | _ => .stuck) S = opt (asTwo ds) fun q => S.nx ((ρ.set i (some q.1)).set j (some q.2)) st
    match ds with
    | [] => rfl
    | [_] => rfl
    | [_, _] => rfl
    | _ :: _ :: _ :: _ => rfl
  | _ => rfl
theorem ws_par3 {i j l : Nat} : ws (sPar3 i j l ms ρ st) S = wp (ms ρ st) (fun ds st => opt (asThree ds) fun q => S.nx (((ρ.set i (some q.1)).set j (some q.2.1)).set l (some q.2.2)) st) := by
  unfold sPar3
  rw [ws_toS]
  cases ms ρ st with
  | ok ds st =>
    show ws (match ds with | [d, e, f] => RS.nx (((ρ.set i (some d)).set j (some e)).set l (some f)) st | _ => .stuck) S = opt (asThree ds) fun q => S.nx (((ρ.set i (some q.1)).set j (some q.2.1)).set l (some q.2.2)) st
    match ds with
    | [] => rfl
    | [_] => rfl
    | [_, _] => rfl
    | [_, _, _] => rfl
    | _ :: _ :: _ :: _ :: _ => rfl
  | _ => rfl
theorem ws_star {k : Bool} {is : List Nat} : ws (sStar k is a ρ st) S = wp (a ρ st) (fun d st => opt (starL d st) fun l => is.length - 1 ≤ l.length ∧ wp (mk k (l.drop (is.length - 1)) st) fun o st => S.nx (setAll ρ is (l.take (is.length - 1) ++ [o])) st) := by
  unfold sStar
  rw [ws_toS]
  cases a ρ st with
  | ok d st =>
    show ws (starS k is d ρ st) S = opt (starL d st) fun l => is.length - 1 ≤ l.length ∧ wp (mk k (l.drop (is.length - 1)) st) fun o st => S.nx (setAll ρ is (l.take (is.length - 1) ++ [o])) st
    unfold starS
    cases h : starL d st with
    | none => rfl
    | some l =>
      show ws (if is.length - 1 ≤ l.length then _ else _) S = (is.length - 1 ≤ l.length ∧ _)
      by_cases hl : is.length - 1 ≤ l.length
      · rw [if_pos hl, ws_toS]
        exact propext ⟨fun h => ⟨hl, h⟩, fun h => h.2⟩
      · rw [if_neg hl]
        exact propext ⟨fun h => h.elim, fun h => absurd h.1 hl⟩
  | _ => rfl
/-- xs[i] = e, xs a cell that is a list -/
theorem ws_setIx {o i e : ME} {k : Nat} {j : Int} {l : List D} {n : Nat} {st' st2 st3 : Sto} (he : e ρ st = .ok d st') (ho : o ρ st' = .ok (.cell k) st2) (hi : i ρ st2 = .ok (.int j) st3) (hk : st3[k]? = some (.lst l)) (hn : ixN l.length j = some n) :
    sSetIx o i e ρ st = .nx ρ (st3.set k (.lst (l.set n d))) := by
  unfold sSetIx
  rw [he]
  simp only [toS_ok]
  rw [ho]
  simp only [toS_ok]
  rw [hi]
  simp only [toS_ok]
  rw [hk]
  simp only
  rw [hn]
/-! defs -/
theorem finX_exc {c x : Str} {st0 st : Sto} : ∃ d' st', finX c x st0 d st = .exc c x d' st' := by
  unfold finX
  split
  · split
    · exact ⟨_, _, rfl⟩
    · exact ⟨_, _, rfl⟩
  · exact ⟨_, _, rfl⟩
theorem wp_call {fz : Bool} {n : Nat} {m : MS} {ds : List D} : wp (callF fz n m ds st) Q = ws (m (ds.map some ++ List.replicate (n - ds.length) none) st) { nx := fun _ st' => wp (fin fz st .non st') Q, rt := fun d st' => wp (fin fz st d st') Q } := by
  unfold callF
  cases m (ds.map some ++ List.replicate (n - ds.length) none) st with
  | exc c x d ρ st' =>
    show wp (finX c x st d st') Q = False
    obtain ⟨d', st2, e⟩ := finX_exc (c := c) (x := x) (d := d) (st0 := st) (st := st')
    rw [e]
    rfl
  | _ => rfl
theorem wp_fin {fz : Bool} {st' : Sto} (ho : OldB st st') (hd : d.blw st.length = true) : wp (fin fz st d st') Q = Q d (st'.take st.length) := by
  unfold fin
  rw [if_pos ho, if_pos hd]
  rfl
theorem wp_fin0 {fz : Bool} (hd : d.blw st.length = true) : wp (fin fz st d st) Q = Q d st := by
  rw [wp_fin (.refl st) hd, List.take_length]
theorem wp_finE {fz : Bool} {st' : Sto} (ho : OldB st st') (hl : st'.length = st.length) (hd : d.blw st.length = true) : wp (fin fz st d st') Q = Q d st' := by
  rw [wp_fin ho hd, ← hl, List.take_length]
theorem fin_bl {fz : Bool} {k : Bool} : wp (fin fz st (.bl k) st) Q = Q (.bl k) st := wp_fin0 rfl
theorem fin_int {fz : Bool} {k : Int} : wp (fin fz st (.int k) st) Q = Q (.int k) st := wp_fin0 rfl
theorem fin_str {fz : Bool} {k : Str} : wp (fin fz st (.str k) st) Q = Q (.str k) st := wp_fin0 rfl
theorem fin_non {fz : Bool} : wp (fin fz st .non st) Q = Q .non st := wp_fin0 rfl
@[simp] theorem blw_bl {n : Nat} {k : Bool} : D.blw n (.bl k) = true := rfl
@[simp] theorem blw_int {n : Nat} {k : Int} : D.blw n (.int k) = true := rfl
@[simp] theorem blw_str {n : Nat} {k : Str} : D.blw n (.str k) = true := rfl
@[simp] theorem blw_non {n : Nat} : D.blw n .non = true := rfl
@[simp] theorem blw_lst {n : Nat} {l : List D} : D.blw n (.lst l) = blwL n l := rfl
@[simp] theorem blw_tup {n : Nat} {l : List D} : D.blw n (.tup l) = blwL n l := rfl
@[simp] theorem blw_dic0 {n : Nat} : D.blw n (.dic []) = true := rfl
@[simp] theorem blwL_nil {n : Nat} : blwL n [] = true := rfl
@[simp] theorem blwL_cons {n : Nat} {d : D} {l : List D} : blwL n (d :: l) = (d.blw n && blwL n l) := rfl
/-! operations -/
theorem add_int {k : Bool} {x y : Int} : fAdd k (.int x) (.int y) st = .ok (.int (x + y)) st := rfl
theorem sub_int {x y : Int} : fSub (.int x) (.int y) st = .ok (.int (x - y)) st := rfl
theorem neg_int {x : Int} : fNeg (.int x) st = .ok (.int (-x)) st := rfl
theorem add_str {k : Bool} {x y : Str} (h : x.length + y.length ≤ 100000) : fAdd k (.str x) (.str y) st = .ok (.str (x ++ y)) st := if_pos h
theorem add_tup {k : Bool} {x y : List D} (h : x.length + y.length ≤ 100000) : fAdd k (.tup x) (.tup y) st = .ok (.tup (x ++ y)) st := if_pos h
theorem add_lst {x y : List D} (h : (x ++ y).length ≤ 100000) : fAdd false (.lst x) (.lst y) st = .ok (.lst (x ++ y)) st := by
  show mk false (x ++ y) st = _
  unfold mk
  rw [if_pos h]
  rfl
theorem mk_f {l : List D} (h : l.length ≤ 100000) : mk false l st = .ok (.lst l) st := by
  unfold mk
  rw [if_pos h]
  rfl
theorem mk_t {l : List D} (h : l.length ≤ 100000) : mk true l st = .ok (.cell st.length) (st ++ [.lst l]) := by
  unfold mk
  rw [if_pos h]
  rfl
theorem tup_f {l : List D} (h : l.length ≤ 100000) : fTup l st = .ok (.tup l) st := if_pos h
theorem mul_small {k : Bool} {x y : Int} (h : (-(2 ^ 64) < x ∧ x < 2 ^ 64) ∨ (-(2 ^ 64) < y ∧ y < 2 ^ 64)) : fMul k (.int x) (.int y) st = .ok (.int (x * y)) st := if_pos h
theorem fdiv_int {x y : Int} (h : 0 < y ∧ y < 1073741824) : fFdiv (.int x) (.int y) st = .ok (.int (x / y)) st := if_pos h
theorem mod_int {x y : Int} (h : 0 < y) : fMod (.int x) (.int y) st = .ok (.int (x % y)) st := if_pos h
theorem pow_int {x y : Int} (h : 0 ≤ y ∧ y ≤ 1000000 ∧ x.natAbs < 2 ^ 64) : fPow (.int x) (.int y) st = .ok (.int (x ^ y.toNat)) st := if_pos h
theorem lt_int {x y : Int} : fLt (.int x) (.int y) st = .ok (.bl (decide (x < y))) st := rfl
theorem le_int {x y : Int} : fLe (.int x) (.int y) st = .ok (.bl (decide (x ≤ y))) st := rfl
theorem gt_int {x y : Int} : fGt (.int x) (.int y) st = .ok (.bl (decide (y < x))) st := rfl
theorem ge_int {x y : Int} : fGe (.int x) (.int y) st = .ok (.bl (decide (y ≤ x))) st := rfl
theorem max_int {x y : Int} : fMax [.int x, .int y] st = .ok (.int (if y > x then y else x)) st := rfl
theorem min_int {x y : Int} : fMin [.int x, .int y] st = .ok (.int (if y < x then y else x)) st := rfl
theorem len_lst {l : List D} : fLen [.lst l] st = .ok (.int l.length) st := rfl
theorem len_tup {l : List D} : fLen [.tup l] st = .ok (.int l.length) st := rfl
theorem len_scr {l : List Int} : fLen [.scr l] st = .ok (.int l.length) st := rfl
theorem len_str {z : Str} (h : z.length ≤ 100000) : fLen [.str z] st = .ok (.int z.length) st := if_pos h
theorem ix_lst {l : List D} {i : Int} : fIx (.lst l) (.int i) st = optR (L2.atI l i) st := rfl
theorem ix_tupl {l : List D} {i : Int} : fIx (.tup l) (.int i) st = optR (L2.atI l i) st := rfl
theorem ix_scr {l : List Int} {i : Int} : fIx (.scr l) (.int i) st = optR ((L2.atI l i).map D.int) st := rfl
theorem ix_cell {k : Nat} {l : List D} {i : Int} (h : st[k]? = some (.lst l)) : fIx (.cell k) (.int i) st = optR (L2.atI l i) st := by
  have e : view (.cell k) st = .lst l := by
    show (match st[k]? with
      | some (.lst ds) => D.lst ds
      | some (.dic kvs) => D.dic kvs
      | _ => .cell k) = _
    rw [h]
  unfold fIx
  rw [e]
theorem ix_strz {z : Str} {i : Int} (h : z.length ≤ 100000) : fIx (.str z) (.int i) st = optR ((L2.atI z.cps.toList i).map fun c => D.str ⟨#[c]⟩) st := if_pos h
theorem atI_nat {α : Type} {l : List α} {n : Nat} (h : n < l.length) : L2.atI l (n : Int) = some l[n] := by
  unfold L2.atI L2.ixN
  rw [if_pos (by omega), if_pos (by omega), Int.toNat_natCast]
  exact List.getElem?_eq_getElem h
theorem atI_in {α : Type} {l : List α} {i : Int} (h0 : 0 ≤ i) (h : i < l.length) : ∃ a, L2.atI l i = some a ∧ a ∈ l ∧ l[i.toNat]? = some a := by
  obtain ⟨n, rfl⟩ := Int.eq_ofNat_of_zero_le h0
  have hn : n < l.length := by omega
  exact ⟨l[n], atI_nat hn, List.getElem_mem hn, by simp [hn]⟩
theorem isi_ap {d : D} {c : D} : fIsi [d, c] st = optR (((tyS (view d st)).bind fun t => isiC t c).map D.bl) st := rfl
theorem isiC_ty {t n : String} : isiC t (.ty n) = isiB t n := rfl
theorem in_str {x y : Str} : fIn (.str x) (.str y) st = .ok (.bl (inStr x y)) st := rfl
theorem notIn_str {x y : Str} : fNotIn (.str x) (.str y) st = .ok (.bl (!inStr x y)) st := rfl
theorem inStr_one {c : Nat} {z : Str} : inStr ⟨#[c]⟩ z = decide (c ∈ z.cps.toList) := StrLaws.found_one z c
theorem tupleOf_lst {l : List D} : fTupleOf [.lst l] st = .ok (.tup l) st := rfl
theorem tupleOf_tup {l : List D} : fTupleOf [.tup l] st = .ok (.tup l) st := rfl
theorem listOf_tup {l : List D} (h : l.length ≤ 100000) : fListOf false [.tup l] st = .ok (.lst l) st := mk_f h
theorem listOf_lst {l : List D} (h : l.length ≤ 100000) : fListOf false [.lst l] st = .ok (.lst l) st := mk_f h
theorem sl_tup {k : Bool} {l : List D} {lo hi : Option Int} : fSl k (.tup l) lo hi st = .ok (.tup (cutD l lo hi)) st := rfl
theorem sl_lst {l : List D} {lo hi : Option Int} (h : (cutD l lo hi).length ≤ 100000) : fSl false (.lst l) lo hi st = .ok (.lst (cutD l lo hi)) st := mk_f h
theorem sl_str {k : Bool} {z : Str} {lo hi : Option Int} (h : z.length ≤ 100000) : fSl k (.str z) lo hi st = .ok (.str (Txt.slice z lo hi)) st := if_pos h
theorem rev_tup {k : Bool} {l : List D} : fRev k (.tup l) st = .ok (.tup l.reverse) st := rfl
end
/-! ### what stands still while it is walked -/
def Static (S : Src) (xs : List D) : Prop := (∀ i st, S.nxt i st = some xs[i]?) ∧ xs.length < S.fuel
theorem static_T {l : List D} : Static (srcT l) l := ⟨fun _ _ => rfl, Nat.lt_succ_self _⟩
theorem static_Z {z : Str} : Static (srcZ z) (signs z) := ⟨fun i st => by
  show some ((z.cps[i]?).map fun c => D.str ⟨#[c]⟩) = some (signs z)[i]?
  unfold signs
  rw [List.getElem?_map, Array.getElem?_toList], by simp [srcZ, signs]⟩
theorem static_L {l : List D} {n : Nat} (h : l.length < n) : Static (srcL (.lst l) n) l := ⟨fun _ _ => rfl, h⟩
theorem static_R {lo : Int} {n : Nat} : Static (srcR lo n) (intL lo n) := ⟨fun i st => by
  show (if i < n then some (some (.int (lo + i))) else some none) = some (intL lo n)[i]?
  unfold intL
  by_cases h : i < n
  · rw [if_pos h, List.getElem?_map, List.getElem?_range h]
    rfl
  · rw [if_neg h, List.getElem?_eq_none (by simpa using h)], by simp [srcR, intL]⟩
theorem srcOf_lst {l : List D} {st : Sto} : srcOf (.lst l) st = .ok (srcL (.lst l) (l.length + 1)) st := rfl
theorem srcOf_tup {l : List D} {st : Sto} : srcOf (.tup l) st = .ok (srcT l) st := rfl
theorem srcOf_str {z : Str} {st : Sto} : srcOf (.str z) st = .ok (srcZ z) st := rfl
theorem ap_iSeq {m : ME} {ρ : Ro} {st : Sto} : iSeq m ρ st = (m ρ st).bind fun d st => srcOf d st := rfl
theorem ap_iOn {f : List D → Sto → Res Src} {ms : MEs} {ρ : Ro} {st : Sto} : iOn f ms ρ st = (ms ρ st).bind f := rfl
theorem range_ap {n : Int} {st : Sto} (h : -(2 ^ 62) ≤ n ∧ n < 2 ^ 62) : srcRange [.int n] st = .ok (srcR 0 n.toNat) st := if_pos h
theorem range2_ap {i j : Int} {st : Sto} (h : -(2 ^ 62) ≤ i ∧ i < 2 ^ 62 ∧ -(2 ^ 62) ≤ j ∧ j < 2 ^ 62) : srcRange [.int i, .int j] st = .ok (srcR i (j - i).toNat) st := if_pos h
/-- a loop keeps what it keeps -/
theorem loop_inv {S : Src} {xs : List D} {t : Tg} {b : MS} {P : Po} (hS : Static S xs) (Inv : Nat → Ro → Sto → Prop)
    (hb : ∀ i x ρ st, xs[i]? = some x → Inv i ρ st → ∃ ρ1, gtD t x ρ = some ρ1 ∧ ws (b ρ1 st) { nx := fun ρ st => Inv (i + 1) ρ st, ct := fun ρ st => Inv (i + 1) ρ st, bk := P.nx, rt := P.rt })
    (hend : ∀ ρ st, Inv xs.length ρ st → P.nx ρ st) : ∀ (f i : Nat) (ρ : Ro) (st : Sto), xs.length < i + f → i ≤ xs.length → Inv i ρ st → ws (sLoop S t b f i ρ st) P
  | 0, i, ρ, st, hf, hi, _ => by omega
  | f + 1, i, ρ, st, hf, hi, h => by
    unfold sLoop
    rw [hS.1]
    by_cases hlt : i < xs.length
    · have e : xs[i]? = some xs[i] := List.getElem?_eq_getElem hlt
      rw [e]
      obtain ⟨ρ1, h1, h2⟩ := hb i _ ρ st e h
      dsimp only
      rw [h1]
      dsimp only
      cases hr : b ρ1 st with
      | nx ρ' st' =>
        rw [hr] at h2
        exact loop_inv hS Inv hb hend f (i + 1) ρ' st' (by omega) hlt h2
      | ct ρ' st' =>
        rw [hr] at h2
        exact loop_inv hS Inv hb hend f (i + 1) ρ' st' (by omega) hlt h2
      | bk ρ' st' => rw [hr] at h2; exact h2
      | rt d st' => rw [hr] at h2; exact h2
      | exc => rw [hr] at h2; exact h2
      | stuck => rw [hr] at h2; exact h2
    · have e : xs[i]? = none := List.getElem?_eq_none (by omega)
      have ei : i = xs.length := by omega
      subst ei
      rw [e]
      exact hend ρ st h
theorem ws_for {mi : MI} {t : Tg} {b : MS} {ρ : Ro} {st : Sto} {P : Po} (xs : List D) (Inv : Nat → Ro → Sto → Prop) (hm : wp (mi ρ st) fun S st => Static S xs ∧ Inv 0 ρ st)
    (hb : ∀ i x ρ st, xs[i]? = some x → Inv i ρ st → ∃ ρ1, gtD t x ρ = some ρ1 ∧ ws (b ρ1 st) { nx := fun ρ st => Inv (i + 1) ρ st, ct := fun ρ st => Inv (i + 1) ρ st, bk := P.nx, rt := P.rt })
    (hend : ∀ ρ st, Inv xs.length ρ st → P.nx ρ st) : ws (sFor mi t b ρ st) P := by
  unfold sFor
  rw [ws_toS]
  exact wp_imp hm fun S st ⟨hS, h0⟩ => loop_inv hS Inv hb hend S.fuel 0 ρ st (by have := hS.2; omega) (Nat.zero_le _) h0
/-- a comprehension; what stands in the store before it may change as Inv says -/
theorem comp_loop {S : Src} {xs : List D} {t : Tg} {tt : MT} {me : ME} {n : Nat} {ρ : Ro} {Q : Sto → Prop} (hS : Static S xs) (Inv : Nat → List D → Sto → Prop)
    (hb : ∀ i x acc st, xs[i]? = some x → Inv i acc st → st[n]? = some (.lst acc) → ∃ ρ1, gtD t x ρ = some ρ1 ∧ wp (tt ρ1 st) fun k st => brk k (wp (me ρ1 st) (fun d st => st[n]? = some (.lst acc) ∧ acc.length < 100000 ∧ Inv (i + 1) (acc ++ [d]) (st.set n (.lst (acc ++ [d]))))) (st[n]? = some (.lst acc) ∧ Inv (i + 1) acc st))
    (hend : ∀ acc st, Inv xs.length acc st → st[n]? = some (.lst acc) → Q st) : ∀ (f i : Nat) (acc : List D) (st : Sto), xs.length < i + f → i ≤ xs.length → Inv i acc st → st[n]? = some (.lst acc) → wp (cLoop S t tt me n f i ρ st) fun _ st => Q st
  | 0, i, acc, st, hf, hi, _, _ => by omega
  | f + 1, i, acc, st, hf, hi, h, hn => by
    unfold cLoop
    rw [hS.1]
    by_cases hlt : i < xs.length
    · have e : xs[i]? = some xs[i] := List.getElem?_eq_getElem hlt
      rw [e]
      obtain ⟨ρ1, h1, h2⟩ := hb i _ acc st e h hn
      dsimp only
      rw [h1]
      dsimp only
      obtain ⟨k, st1, et, h3⟩ := wp_ok_of h2
      rw [et]
      simp only [calm_ok, Res.bind_ok]
      cases k with
      | true =>
        simp only [if_true] at ⊢
        rw [brk_t] at h3
        obtain ⟨d, st2, ee, h4, h5, h7⟩ := wp_ok_of h3
        rw [ee]
        simp only [calm_ok, Res.bind_ok]
        rw [h4]
        dsimp only
        rw [if_pos h5]
        refine comp_loop hS Inv hb hend f (i + 1) _ _ (by omega) hlt h7 ?_
        have hl : n < st2.length := (List.getElem?_eq_some_iff.mp h4).1
        rw [List.getElem?_set_self hl]
      | false =>
        simp only [Bool.false_eq_true, if_false] at ⊢
        rw [brk_f] at h3
        exact comp_loop hS Inv hb hend f (i + 1) _ _ (by omega) hlt h3.2 h3.1
    · have e : xs[i]? = none := List.getElem?_eq_none (by omega)
      have ei : i = xs.length := by omega
      subst ei
      rw [e]
      exact hend acc st h hn
theorem frz_lst {n k : Nat} {l : List D} {st : Sto} {f : Nat} (h : st[k]? = some (.lst l)) (hb : blwL n l = true) : frzF st n (f + 1) k = some (.lst l) := by
  unfold frzF
  rw [h]
  show (subL n (frzF st n f) l).map D.lst = _
  rw [subL_blw hb]
  rfl
theorem sub_cell {n k : Nat} {l : List D} {st : Sto} {f : Nat} (h : st[k]? = some (.lst l)) (hn : n ≤ k) (hb : blwL n l = true) : (D.cell k).sub n (frzF st n (f + 1)) = some (.lst l) := by
  show (if k < n then some (D.cell k) else frzF st n (f + 1) k) = _
  rw [if_neg (by omega), frz_lst h hb]
theorem nblw_cell {n k : Nat} (h : n ≤ k) : ¬ ((D.cell k).blw n = true) := by
  simp [D.blw]
  omega
theorem fin_frozK {k : Nat} {l : List D} {st st' : Sto} (ho : OldB st st') (h : st'[k]? = some (.lst l)) (hn : st.length ≤ k) (hb : blwL st.length l = true) : fin true st (.cell k) st' = .ok (.lst l) (st'.take st.length) := by
  unfold fin
  rw [if_pos ho, if_neg (nblw_cell hn), if_pos rfl, sub_cell h hn hb]
theorem fin_movK {k : Nat} {l : List D} {st st' : Sto} (ho : OldB st st') (h : st'[k]? = some (.lst l)) (hn : st.length ≤ k) (hb : blwL st.length l = true) : fin false st (.cell k) st' = .ok (.cell st.length) (st'.take st.length ++ [.lst l]) := by
  unfold fin
  rw [if_pos ho, if_neg (nblw_cell hn), if_neg Bool.false_ne_true]
  simp only [h]
  rw [if_pos ⟨hn, hb⟩]
/-- what a comprehension tells -/
def endC (c : Bool) (k : Nat) (acc : List D) (st : Sto) (Q : D → Sto → Prop) : Prop := match c with
  | true => Q (.cell k) (st ++ [.lst acc])
  | false => Q (.lst acc) st
theorem wp_endC {c : Bool} {k n : Nat} {acc : List D} {st st' : Sto} {Q : D → Sto → Prop} (ho : OldB st st') (h : st'[k]? = some (.lst acc)) (hn : st.length ≤ k) (hl : st.length = n) (hb : blwL n acc = true) (q : endC c n acc (st'.take n) Q) : wp (fin (!c) st (.cell k) st') Q := by
  subst hl
  cases c with
  | true =>
    show wp (fin false st (.cell k) st') Q
    rw [fin_movK ho h hn hb]
    exact q
  | false =>
    show wp (fin true st (.cell k) st') Q
    rw [fin_frozK ho h hn hb]
    exact q
theorem blwL_snoc {n : Nat} {l : List D} {d : D} (h : blwL n l = true) (hd : d.blw n = true) : blwL n (l ++ [d]) = true := by
  rw [blwL_append, h]
  simp [blwL, hd]
theorem wp_compB {c : Bool} {mi : MI} {t : Tg} {tt : MT} {me : ME} {vs : List Nat} {ρ : Ro} {st : Sto} {Q : D → Sto → Prop} {k : Nat} (hk : st.length = k)
    (hm : wp (mi ρ st) fun S st1 => ∃ (xs : List D) (I : Nat → List D → Sto → Prop), Static S xs ∧ st1.length = k ∧ I 0 [] (st1 ++ [.lst []]) ∧
      (∀ i x acc st, xs[i]? = some x → I i acc st → st[k]? = some (.lst acc) → ∃ ρ1, gtD t x (wipeR ρ vs) = some ρ1 ∧ wp (tt ρ1 st) fun b st => brk b (wp (me ρ1 st) (fun d st => st[k]? = some (.lst acc) ∧ acc.length < 100000 ∧ d.blw k = true ∧ I (i + 1) (acc ++ [d]) (st.set k (.lst (acc ++ [d]))))) (st[k]? = some (.lst acc) ∧ I (i + 1) acc st)) ∧
      (∀ acc st', I xs.length acc st' → st'[k]? = some (.lst acc) → OldB st st' ∧ endC c k acc (st'.take k) Q)) : wp (mComp c mi t tt me vs ρ st) Q := by
  unfold mComp
  rw [wp_bind]
  refine wp_imp hm fun S st1 ⟨xs, I, hS, hl, h0, hb, hend⟩ => ?_
  rw [wp_bind, hl]
  refine comp_loop (Q := fun st2 => wp _ Q) hS (fun i acc st => I i acc st ∧ blwL k acc = true) (fun i x acc st hx ⟨hI, ha⟩ hn => ?_) (fun acc st2 ⟨hi, ha⟩ hn => ?_) S.fuel 0 [] _ (by have := hS.2; omega) (Nat.zero_le _) ⟨h0, rfl⟩ (by rw [← hl]; simp)
  · obtain ⟨ρ1, e1, e2⟩ := hb i x acc st hx hI hn
    refine ⟨ρ1, e1, wp_imp e2 fun b st' h => ?_⟩
    cases b with
    | true => exact wp_imp h fun d st2 ⟨h1, h2, h3, h4⟩ => ⟨h1, h2, h4, blwL_snoc ha h3⟩
    | false => exact ⟨h.1, h.2, ha⟩
  · obtain ⟨e1, e2⟩ := hend acc st2 hi hn
    exact wp_endC e1 hn (by omega) hk ha e2
theorem wp_comp {mi : MI} {t : Tg} {tt : MT} {me : ME} {vs : List Nat} {ρ : Ro} {st : Sto} {Q : D → Sto → Prop} {k : Nat} (hk : st.length = k) (xs : List D) (Inv : Nat → List D → Sto → Prop) (hm : wp (mi ρ st) fun S st1 => Static S xs ∧ st1.length = k ∧ Inv 0 [] (st1 ++ [.lst []]))
    (hb : ∀ i x acc st, xs[i]? = some x → Inv i acc st → st[k]? = some (.lst acc) → ∃ ρ1, gtD t x (wipeR ρ vs) = some ρ1 ∧ wp (tt ρ1 st) fun b st => brk b (wp (me ρ1 st) (fun d st => st[k]? = some (.lst acc) ∧ acc.length < 100000 ∧ d.blw k = true ∧ Inv (i + 1) (acc ++ [d]) (st.set k (.lst (acc ++ [d]))))) (st[k]? = some (.lst acc) ∧ Inv (i + 1) acc st))
    (hend : ∀ acc st', Inv xs.length acc st' → st'[k]? = some (.lst acc) → OldB st st' ∧ Q (.lst acc) (st'.take k)) : wp (mComp false mi t tt me vs ρ st) Q :=
  wp_compB hk (wp_imp hm fun S st1 ⟨h1, h2, h3⟩ => ⟨xs, Inv, h1, h2, h3, hb, fun acc st' a b => hend acc st' a b⟩)
/-- .. that changes nothing -/
theorem comp_pureB {c : Bool} {mi : MI} {t : Tg} {tt : MT} {me : ME} {vs : List Nat} {ρ : Ro} {st : Sto} {Q : D → Sto → Prop} (xs : List D) (p : D → Bool) (g : D → D) (hm : wp (mi ρ st) fun S st1 => Static S xs ∧ st1 = st) (hl : xs.length ≤ 100000)
    (hb : ∀ x ∈ xs, ∃ ρ1, gtD t x (wipeR ρ vs) = some ρ1 ∧ ∀ st : Sto, tt ρ1 st = .ok (p x) st ∧ (p x = true → me ρ1 st = .ok (g x) st ∧ ∀ n, (g x).blw n = true)) (q : endC c st.length ((xs.filter p).map g) st Q) : wp (mComp c mi t tt me vs ρ st) Q := by
  refine wp_compB rfl (wp_imp hm fun S st1 ⟨h1, h2⟩ => ⟨xs, fun i acc st' => acc = ((xs.take i).filter p).map g ∧ st' = st ++ [.lst acc], h1, by rw [h2], ⟨by simp, by rw [h2]⟩, fun i x acc st' hx ⟨h1, h2⟩ _ => ?_, fun acc st' ⟨h1, h2⟩ _ => ?_⟩)
  · obtain ⟨ρ1, e1, e2⟩ := hb x (List.mem_of_getElem? hx)
    refine ⟨ρ1, e1, ?_⟩
    obtain ⟨e3, e4⟩ := e2 st'
    have hi : i < xs.length := (List.getElem?_eq_some_iff.mp hx).1
    have htake : xs.take (i + 1) = xs.take i ++ [x] := by rw [List.take_add_one, hx]; rfl
    rw [e3, wp_ok]
    cases hp : p x with
    | true =>
      obtain ⟨e5, e6⟩ := e4 hp
      rw [brk_t, e5, wp_ok]
      refine ⟨by rw [h2]; simp, ?_, e6 _, ?_, ?_⟩
      · rw [h1, List.length_map]
        have := List.length_filter_le p (xs.take i)
        rw [List.length_take] at this
        omega
      · rw [h1, htake, List.filter_append, List.map_append]
        simp [hp]
      · rw [h2]
        simp
    | false =>
      rw [brk_f]
      refine ⟨by rw [h2]; simp, ?_, h2⟩
      rw [h1, htake, List.filter_append, List.map_append]
      simp [hp]
  · rw [List.take_length] at h1
    subst h1
    rw [h2]
    refine ⟨.app _ _, ?_⟩
    rw [List.take_left]
    exact q
theorem comp_pure {mi : MI} {t : Tg} {tt : MT} {me : ME} {vs : List Nat} {ρ : Ro} {st : Sto} (xs : List D) (p : D → Bool) (g : D → D) (hm : wp (mi ρ st) fun S st1 => Static S xs ∧ st1 = st) (hl : xs.length ≤ 100000)
    (hb : ∀ x ∈ xs, ∃ ρ1, gtD t x (wipeR ρ vs) = some ρ1 ∧ ∀ st : Sto, tt ρ1 st = .ok (p x) st ∧ (p x = true → me ρ1 st = .ok (g x) st ∧ ∀ n, (g x).blw n = true)) : mComp false mi t tt me vs ρ st = .ok (.lst ((xs.filter p).map g)) st := by
  have : wp (mComp false mi t tt me vs ρ st) fun d st' => d = .lst ((xs.filter p).map g) ∧ st' = st := comp_pureB xs p g hm hl hb ⟨rfl, rfl⟩
  obtain ⟨d, st', e, e1, e2⟩ := wp_ok_of this
  rw [e, e1, e2]
/-- .. a cell -/
theorem comp_pureC {mi : MI} {t : Tg} {tt : MT} {me : ME} {vs : List Nat} {ρ : Ro} {st : Sto} (xs : List D) (p : D → Bool) (g : D → D) (hm : wp (mi ρ st) fun S st1 => Static S xs ∧ st1 = st) (hl : xs.length ≤ 100000)
    (hb : ∀ x ∈ xs, ∃ ρ1, gtD t x (wipeR ρ vs) = some ρ1 ∧ ∀ st : Sto, tt ρ1 st = .ok (p x) st ∧ (p x = true → me ρ1 st = .ok (g x) st ∧ ∀ n, (g x).blw n = true)) : mComp true mi t tt me vs ρ st = .ok (.cell st.length) (st ++ [.lst ((xs.filter p).map g)]) := by
  have : wp (mComp true mi t tt me vs ρ st) fun d st' => d = .cell st.length ∧ st' = st ++ [.lst ((xs.filter p).map g)] := comp_pureB xs p g hm hl hb ⟨rfl, rfl⟩
  obtain ⟨d, st', e, e1, e2⟩ := wp_ok_of this
  rw [e, e1, e2]
theorem isi_none {d : D} {st : Sto} (h : tyS (view d st) = none) : True := trivial
end P3

/-! P3Y: what every law draws with: cell, box, take. -/
namespace P3
open PySem PySem.Spec PyProof.Rows L2
def cellM (A c : Int) : MS :=
 (sSeq (sIf (mTru (mBin fLt (mVar 1) (mOn fLen (mCons (mVar 0) mNil))))
  (sSeq (sRet (mBin fIx (mVar 0) (mVar 1)))
  sNil)
  sNil)
 (sSeq (sRet (mBin (fAdd false) (mBin (fMul false) (mC (.int A)) (mVar 1)) (mC (.int c))))
 sNil))
def boxM : MS :=
 (sSeq (sRet (mOn (mk true) (mCons (mOn fMax (mCons (mC (.int 0)) (mCons (mBin fSub (mVar 0) (mBin fPow (mC (.int 10)) (mC (.int 18)))) mNil))) (mCons (mBin fMod (mVar 0) (mC (.int 2147483629))) (mCons (mC (.int 0)) mNil)))))
 sNil)
def takeM (A c1 c2 : Int) : MS :=
 (sSeq (sIf (mTru (mBin fGt (mBin fIx (mVar 0) (mC (.int 0))) (mC (.int 0))))
  (sSeq (sSet 2 (mBin fMod (mBin fIx (mVar 0) (mC (.int 0))) (mVar 1)))
  (sSeq (sSetIx (mVar 0) (mC (.int 0)) (mBin fFdiv (mBin fIx (mVar 0) (mC (.int 0))) (mVar 1)))
  (sSeq (sRet (mVar 2))
  sNil)))
  sNil)
 (sSeq (sSetIx (mVar 0) (mC (.int 2)) (mBin (fAdd false) (mBin fIx (mVar 0) (mC (.int 2))) (mC (.int 1))))
 (sSeq (sSet 3 (mBin fMod (mBin fPow (mBin (fAdd false) (mBin (fAdd false) (mBin fIx (mVar 0) (mC (.int 1))) (mBin (fMul false) (mC (.int A)) (mBin fIx (mVar 0) (mC (.int 2))))) (mC (.int c1))) (mC (.int 5))) (mC (.int 2147483647))))
 (sSeq (sSet 4 (mBin fMod (mBin fPow (mBin (fAdd false) (mBin (fAdd false) (mBin fFdiv (mVar 3) (mC (.int 8))) (mBin (fMul false) (mC (.int 104729)) (mBin fIx (mVar 0) (mC (.int 2))))) (mC (.int c2))) (mC (.int 3))) (mC (.int 2147483629))))
 (sSeq (sRet (mBin fMod (mBin (fAdd false) (mBin fFdiv (mVar 3) (mC (.int 4))) (mBin (fMul false) (mC (.int 536870909)) (mBin fFdiv (mVar 4) (mC (.int 4))))) (mVar 1)))
 sNil)))))
/-- the box that stands at i: b more draws may come -/
def Bx (st : Sto) (i b : Nat) : Prop := ∃ p s c : Int, st[i]? = some (.lst [.int p, .int s, .int c]) ∧ 0 ≤ s ∧ s < 2147483648 ∧ 0 ≤ c ∧ c + b ≤ 1000000000
/-- all but the i-th stands -/
structure Sm (i : Nat) (st st' : Sto) : Prop where
  len : st'.length = st.length
  at_ : ∀ j, j ≠ i → st'[j]? = st[j]?
theorem Sm.refl {i : Nat} {st : Sto} : Sm i st st := ⟨rfl, fun _ _ => rfl⟩
theorem Sm.trans {i : Nat} {a b c : Sto} (h : Sm i a b) (k : Sm i b c) : Sm i a c := ⟨k.len.trans h.len, fun j hj => (k.at_ j hj).trans (h.at_ j hj)⟩
theorem Sm.set {i : Nat} {st : Sto} {c : Cl} : Sm i st (st.set i c) := ⟨List.length_set, fun j hj => List.getElem?_set_ne (Ne.symm hj)⟩
theorem Bx.le {st : Sto} {i b b' : Nat} (h : Bx st i b) (k : b' ≤ b) : Bx st i b' := by
  obtain ⟨p, s, c, h1, h2, h3, h4, h5⟩ := h
  exact ⟨p, s, c, h1, h2, h3, h4, by omega⟩
theorem Bx.lt {st : Sto} {i b : Nat} (h : Bx st i b) : i < st.length := by
  obtain ⟨p, s, c, h1, _⟩ := h
  exact (List.getElem?_eq_some_iff.mp h1).1
theorem Bx.app {st : Sto} {i b : Nat} {l : Sto} (h : Bx st i b) : Bx (st ++ l) i b := by
  have hl := h.lt
  obtain ⟨p, s, c, h1, r⟩ := h
  exact ⟨p, s, c, by rw [List.getElem?_append_left hl]; exact h1, r⟩
theorem Bx.of {st st' : Sto} {i b : Nat} (h : Bx st i b) (e : st'[i]? = st[i]?) : Bx st' i b := by
  obtain ⟨p, s, c, h1, r⟩ := h
  exact ⟨p, s, c, by rw [e]; exact h1, r⟩
theorem Bx.old {st st' : Sto} {i b : Nat} (h : Bx st' i b) (hl : st.length ≤ st'.length) (e : ∀ j, j < st.length → j ≠ i → st'[j]? = st[j]?) : OldB st st' := by
  obtain ⟨p, s, c, h1, r⟩ := h
  exact .at i _ hl e h1 rfl
theorem Sm.old {st st' : Sto} {i b : Nat} (S : Sm i st st') (h : Bx st' i b) : OldB st st' := h.old (Nat.le_of_eq S.len.symm) fun j _ hj => S.at_ j hj
/-- what stands at i: three ints -/
theorem take_run {A c1 c2 : Int} (hA : 0 ≤ A ∧ A < 1073741824) (h1 : 0 ≤ c1 ∧ c1 < 1000000) (h2 : 0 ≤ c2 ∧ c2 < 1000000) {st : Sto} {i b : Nat} {n : Int} {Q : D → Sto → Prop} (hn : 0 < n ∧ n < 1073741824) (B : Bx st i (b + 1))
    (k : ∀ (r : Int) (st' : Sto), 0 ≤ r → r < n → Bx st' i b → Sm i st st' → Q (.int r) st') : wp (callF true 5 (takeM A c1 c2) [.cell i, .int n] st) Q := by
  have hi := B.lt
  obtain ⟨p, s, c, e, s0, s1, q0, q1⟩ := B
  rw [wp_call]
  have e1 : ∀ (l : List D) (st : Sto) (j : Int), st[i]? = some (.lst l) → fIx (.cell i) (.int j) st = optR (L2.atI l j) st := fun l st j h => ix_cell h
  have a0 : ∀ x y z : D, L2.atI [x, y, z] 0 = some x := fun _ _ _ => rfl
  have a1 : ∀ x y z : D, L2.atI [x, y, z] 1 = some y := fun _ _ _ => rfl
  have a2 : ∀ x y z : D, L2.atI [x, y, z] 2 = some z := fun _ _ _ => rfl
  show ws (takeM A c1 c2 [some (.cell i), some (.int n), none, none, none] st) _
  unfold takeM
  simp only [ws_seq, ws_ite, wp_ite, brk_t, brk_f, opt_some, ap_sIf, ap_sSet, ap_sRet, ap_sRetN, ap_sExpr, ap_sNil, ap_sBk, ap_sCt, ws_asg, ws_par, ws_par3, ws_toS, ws_nx, ws_rt, ws_bk, ws_ct, wp_tru, wp_notM, wp_andM, wp_orM, wp_chain, ap_mBin, ap_mUn, ap_mOn, ap_mCons, ap_mNil, ap_mKw, ap_mMeth, ap_mSl, ap_oNone, ap_oSome, ap_tAnd, ap_tOr, ap_tNot, ap_mIf, ap_mYes, wp_bind, ap_mVar, ap_mC, wp_ok, wp_optR, slot_0, slot_s, tru_bl, tru_int, tru_lst, tru_tup, tru_non, asBl_bl, asInt_int, asTwo_ap, asThree_ap, if_true, if_false, Bool.false_eq_true, Bool.not_true, Bool.not_false, fin_bl, fin_int, fin_str, fin_non, List.set_cons_succ, List.set_cons_zero, e1 _ st _ e, a0, a1, a2, gt_int]
  by_cases hp : 0 < p
  · rw [decide_eq_true hp]
    simp only [ws_seq, ws_ite, wp_ite, brk_t, brk_f, opt_some, ap_sIf, ap_sSet, ap_sRet, ap_sRetN, ap_sExpr, ap_sNil, ap_sBk, ap_sCt, ws_asg, ws_par, ws_par3, ws_toS, ws_nx, ws_rt, ws_bk, ws_ct, wp_tru, wp_notM, wp_andM, wp_orM, wp_chain, ap_mBin, ap_mUn, ap_mOn, ap_mCons, ap_mNil, ap_mKw, ap_mMeth, ap_mSl, ap_oNone, ap_oSome, ap_tAnd, ap_tOr, ap_tNot, ap_mIf, ap_mYes, wp_bind, ap_mVar, ap_mC, wp_ok, wp_optR, slot_0, slot_s, tru_bl, tru_int, tru_lst, tru_tup, tru_non, asBl_bl, asInt_int, asTwo_ap, asThree_ap, if_true, if_false, Bool.false_eq_true, Bool.not_true, Bool.not_false, fin_bl, fin_int, fin_str, fin_non, List.set_cons_succ, List.set_cons_zero, e1 _ st _ e, a0, mod_int hn.1]
    rw [ws_setIx (k := i) (j := 0) (n := 0) (l := [.int p, .int s, .int c]) (d := .int (p / n)) (st' := st) (st2 := st) (st3 := st) ?_ (ap_mVar' rfl) rfl e rfl]
    · simp only [ws_seq, ws_ite, wp_ite, brk_t, brk_f, opt_some, ap_sIf, ap_sSet, ap_sRet, ap_sRetN, ap_sExpr, ap_sNil, ap_sBk, ap_sCt, ws_asg, ws_par, ws_par3, ws_toS, ws_nx, ws_rt, ws_bk, ws_ct, wp_tru, wp_notM, wp_andM, wp_orM, wp_chain, ap_mBin, ap_mUn, ap_mOn, ap_mCons, ap_mNil, ap_mKw, ap_mMeth, ap_mSl, ap_oNone, ap_oSome, ap_tAnd, ap_tOr, ap_tNot, ap_mIf, ap_mYes, wp_bind, ap_mVar, ap_mC, wp_ok, wp_optR, slot_0, slot_s, tru_bl, tru_int, tru_lst, tru_tup, tru_non, asBl_bl, asInt_int, asTwo_ap, asThree_ap, if_true, if_false, Bool.false_eq_true, Bool.not_true, Bool.not_false, fin_bl, fin_int, fin_str, fin_non, List.set_cons_succ, List.set_cons_zero]
      rw [wp_finE (.at i _ (by simp) (fun j _ h2 => List.getElem?_set_ne (Ne.symm h2)) (List.getElem?_set_self hi) rfl) (by simp) rfl]
      exact k _ _ (Int.emod_nonneg _ (by omega)) (Int.emod_lt_of_pos _ hn.1) ⟨p / n, s, c, by rw [List.getElem?_set_self hi], s0, s1, q0, by omega⟩ Sm.set
    · simp only [ap_mBin, ap_mVar' (i := 0) (d := .cell i) (ρ := [some (.cell i), some (.int n), some (.int (p % n)), none, none]) rfl, ap_mVar' (i := 1) (d := .int n) (ρ := [some (.cell i), some (.int n), some (.int (p % n)), none, none]) rfl, Res.bind_ok, ap_mC, e1 _ st _ e, a0, optR, fdiv_int hn]
  · rw [decide_eq_false hp]
    simp only [ws_seq, ws_ite, wp_ite, brk_t, brk_f, opt_some, ap_sIf, ap_sSet, ap_sRet, ap_sRetN, ap_sExpr, ap_sNil, ap_sBk, ap_sCt, ws_asg, ws_par, ws_par3, ws_toS, ws_nx, ws_rt, ws_bk, ws_ct, wp_tru, wp_notM, wp_andM, wp_orM, wp_chain, ap_mBin, ap_mUn, ap_mOn, ap_mCons, ap_mNil, ap_mKw, ap_mMeth, ap_mSl, ap_oNone, ap_oSome, ap_tAnd, ap_tOr, ap_tNot, ap_mIf, ap_mYes, wp_bind, ap_mVar, ap_mC, wp_ok, wp_optR, slot_0, slot_s, tru_bl, tru_int, tru_lst, tru_tup, tru_non, asBl_bl, asInt_int, asTwo_ap, asThree_ap, if_true, if_false, Bool.false_eq_true, Bool.not_true, Bool.not_false, fin_bl, fin_int, fin_str, fin_non, List.set_cons_succ, List.set_cons_zero]
    rw [ws_setIx (k := i) (j := 2) (n := 2) (l := [.int p, .int s, .int c]) (d := .int (c + 1)) (st' := st) (st2 := st) (st3 := st) ?_ (ap_mVar' rfl) rfl e rfl]
    · have e' : (st.set i (.lst (([.int p, .int s, .int c] : List D).set 2 (.int (c + 1)))))[i]? = some (.lst [.int p, .int s, .int (c + 1)]) := by rw [List.getElem?_set_self hi]; rfl
      generalize hst : st.set i (.lst (([.int p, .int s, .int c] : List D).set 2 (.int (c + 1)))) = st1 at e' ⊢
      have m1 : 0 ≤ A * (c + 1) := Int.mul_nonneg hA.1 (by omega)
      have m2 : A * (c + 1) ≤ 1073741824 * 1000000000 := Int.mul_le_mul (by omega) (by omega) (by omega) (by omega)
      have f1 := fun x => mul_small (st := st1) (k := false) (x := A) (y := x) (.inl ⟨by omega, by omega⟩)
      have f2 := fun x => mul_small (st := st1) (k := false) (x := 104729) (y := x) (.inl ⟨by omega, by omega⟩)
      have f3 := fun x => mul_small (st := st1) (k := false) (x := 536870909) (y := x) (.inl ⟨by omega, by omega⟩)
      obtain ⟨x, p1⟩ : ∃ x, fPow (.int (s + A * (c + 1) + c1)) (.int 5) st1 = .ok (.int x) st1 := ⟨_, pow_int ⟨by omega, by omega, by omega⟩⟩
      simp only [ws_seq, ws_ite, wp_ite, brk_t, brk_f, opt_some, ap_sIf, ap_sSet, ap_sRet, ap_sRetN, ap_sExpr, ap_sNil, ap_sBk, ap_sCt, ws_asg, ws_par, ws_par3, ws_toS, ws_nx, ws_rt, ws_bk, ws_ct, wp_tru, wp_notM, wp_andM, wp_orM, wp_chain, ap_mBin, ap_mUn, ap_mOn, ap_mCons, ap_mNil, ap_mKw, ap_mMeth, ap_mSl, ap_oNone, ap_oSome, ap_tAnd, ap_tOr, ap_tNot, ap_mIf, ap_mYes, wp_bind, ap_mVar, ap_mC, wp_ok, wp_optR, slot_0, slot_s, tru_bl, tru_int, tru_lst, tru_tup, tru_non, asBl_bl, asInt_int, asTwo_ap, asThree_ap, if_true, if_false, Bool.false_eq_true, Bool.not_true, Bool.not_false, fin_bl, fin_int, fin_str, fin_non, List.set_cons_succ, List.set_cons_zero, e1 _ st1 _ e', a0, a1, a2, f1, f2, f3, add_int, p1]
      have x1 := Int.emod_nonneg x (show (2147483647 : Int) ≠ 0 by decide)
      have x2 := Int.emod_lt_of_pos x (show (0 : Int) < 2147483647 by decide)
      have g1 : fMod (.int x) (.int 2147483647) st1 = .ok (.int (x % 2147483647)) st1 := mod_int (by decide)
      generalize x % 2147483647 = y at x1 x2 g1
      have g2 : fFdiv (.int y) (.int 8) st1 = .ok (.int (y / 8)) st1 := fdiv_int ⟨by decide, by decide⟩
      have g3 : fFdiv (.int y) (.int 4) st1 = .ok (.int (y / 4)) st1 := fdiv_int ⟨by decide, by decide⟩
      obtain ⟨z, p2⟩ : ∃ z, fPow (.int (y / 8 + 104729 * (c + 1) + c2)) (.int 3) st1 = .ok (.int z) st1 := ⟨_, pow_int ⟨by omega, by omega, by omega⟩⟩
      simp only [ws_seq, ws_ite, wp_ite, brk_t, brk_f, opt_some, ap_sIf, ap_sSet, ap_sRet, ap_sRetN, ap_sExpr, ap_sNil, ap_sBk, ap_sCt, ws_asg, ws_par, ws_par3, ws_toS, ws_nx, ws_rt, ws_bk, ws_ct, wp_tru, wp_notM, wp_andM, wp_orM, wp_chain, ap_mBin, ap_mUn, ap_mOn, ap_mCons, ap_mNil, ap_mKw, ap_mMeth, ap_mSl, ap_oNone, ap_oSome, ap_tAnd, ap_tOr, ap_tNot, ap_mIf, ap_mYes, wp_bind, ap_mVar, ap_mC, wp_ok, wp_optR, slot_0, slot_s, tru_bl, tru_int, tru_lst, tru_tup, tru_non, asBl_bl, asInt_int, asTwo_ap, asThree_ap, if_true, if_false, Bool.false_eq_true, Bool.not_true, Bool.not_false, fin_bl, fin_int, fin_str, fin_non, List.set_cons_succ, List.set_cons_zero, g1, g2, p2, e1 _ st1 _ e', a2, f2, add_int]
      have g4 : fMod (.int z) (.int 2147483629) st1 = .ok (.int (z % 2147483629)) st1 := mod_int (by decide)
      have g5 : ∀ u, fFdiv (.int u) (.int 4) st1 = .ok (.int (u / 4)) st1 := fun u => fdiv_int ⟨by decide, by decide⟩
      have g6 : ∀ u, fMod (.int u) (.int n) st1 = .ok (.int (u % n)) st1 := fun u => mod_int hn.1
      simp only [ws_seq, ws_ite, wp_ite, brk_t, brk_f, opt_some, ap_sIf, ap_sSet, ap_sRet, ap_sRetN, ap_sExpr, ap_sNil, ap_sBk, ap_sCt, ws_asg, ws_par, ws_par3, ws_toS, ws_nx, ws_rt, ws_bk, ws_ct, wp_tru, wp_notM, wp_andM, wp_orM, wp_chain, ap_mBin, ap_mUn, ap_mOn, ap_mCons, ap_mNil, ap_mKw, ap_mMeth, ap_mSl, ap_oNone, ap_oSome, ap_tAnd, ap_tOr, ap_tNot, ap_mIf, ap_mYes, wp_bind, ap_mVar, ap_mC, wp_ok, wp_optR, slot_0, slot_s, tru_bl, tru_int, tru_lst, tru_tup, tru_non, asBl_bl, asInt_int, asTwo_ap, asThree_ap, if_true, if_false, Bool.false_eq_true, Bool.not_true, Bool.not_false, fin_bl, fin_int, fin_str, fin_non, List.set_cons_succ, List.set_cons_zero, g4, g5, g6, f3, add_int]
      rw [wp_finE (.at i _ (by rw [← hst]; simp) (fun j _ h2 => by rw [← hst, List.getElem?_set_ne (Ne.symm h2)]) e' rfl) (by rw [← hst]; simp) rfl]
      refine k _ _ (Int.emod_nonneg _ (by omega)) (Int.emod_lt_of_pos _ hn.1) ⟨p, s, c + 1, e', s0, s1, by omega, by omega⟩ ?_
      rw [← hst]
      exact Sm.set
    · simp only [ap_mBin, ap_mVar' (i := 0) (d := .cell i) (ρ := [some (.cell i), some (.int n), none, none, none]) rfl, Res.bind_ok, ap_mC, e1 _ st _ e, a2, optR, add_int]
theorem cell_run {A c : Int} (hA : 0 ≤ A ∧ A < 1073741824) {ns : List Int} {k : Nat} {st : Sto} : ∃ v, callF true 2 (cellM A c) [.scr ns, .int k] st = .ok (.int v) st := by
  have h : wp (callF true 2 (cellM A c) [.scr ns, .int k] st) fun d st' => ∃ v, d = .int v ∧ st' = st := by
    rw [wp_call]
    show ws (cellM A c [some (.scr ns), some (.int k)] st) _
    unfold cellM
    simp only [ws_seq, ws_ite, wp_ite, brk_t, brk_f, opt_some, ap_sIf, ap_sSet, ap_sRet, ap_sRetN, ap_sExpr, ap_sNil, ap_sBk, ap_sCt, ws_asg, ws_par, ws_par3, ws_toS, ws_nx, ws_rt, ws_bk, ws_ct, wp_tru, wp_notM, wp_andM, wp_orM, wp_chain, ap_mBin, ap_mUn, ap_mOn, ap_mCons, ap_mNil, ap_mKw, ap_mMeth, ap_mSl, ap_oNone, ap_oSome, ap_tAnd, ap_tOr, ap_tNot, ap_mIf, ap_mYes, wp_bind, ap_mVar, ap_mC, wp_ok, wp_optR, slot_0, slot_s, tru_bl, tru_int, tru_lst, tru_tup, tru_non, asBl_bl, asInt_int, asTwo_ap, asThree_ap, if_true, if_false, Bool.false_eq_true, Bool.not_true, Bool.not_false, fin_bl, fin_int, fin_str, fin_non, List.set_cons_succ, List.set_cons_zero, len_scr, lt_int]
    by_cases hk : (k : Int) < (ns.length : Int)
    · rw [decide_eq_true hk]
      simp only [ws_seq, ws_ite, wp_ite, brk_t, brk_f, opt_some, ap_sIf, ap_sSet, ap_sRet, ap_sRetN, ap_sExpr, ap_sNil, ap_sBk, ap_sCt, ws_asg, ws_par, ws_par3, ws_toS, ws_nx, ws_rt, ws_bk, ws_ct, wp_tru, wp_notM, wp_andM, wp_orM, wp_chain, ap_mBin, ap_mUn, ap_mOn, ap_mCons, ap_mNil, ap_mKw, ap_mMeth, ap_mSl, ap_oNone, ap_oSome, ap_tAnd, ap_tOr, ap_tNot, ap_mIf, ap_mYes, wp_bind, ap_mVar, ap_mC, wp_ok, wp_optR, slot_0, slot_s, tru_bl, tru_int, tru_lst, tru_tup, tru_non, asBl_bl, asInt_int, asTwo_ap, asThree_ap, if_true, if_false, Bool.false_eq_true, Bool.not_true, Bool.not_false, fin_bl, fin_int, fin_str, fin_non, List.set_cons_succ, List.set_cons_zero, ix_scr]
      have hk' : k < ns.length := by omega
      refine opt_of (a := .int ns[k]) (by rw [atI_nat hk']; rfl) ?_
      rw [wp_fin0 rfl]
      exact ⟨_, rfl, rfl⟩
    · rw [decide_eq_false hk]
      simp only [ws_seq, ws_ite, wp_ite, brk_t, brk_f, opt_some, ap_sIf, ap_sSet, ap_sRet, ap_sRetN, ap_sExpr, ap_sNil, ap_sBk, ap_sCt, ws_asg, ws_par, ws_par3, ws_toS, ws_nx, ws_rt, ws_bk, ws_ct, wp_tru, wp_notM, wp_andM, wp_orM, wp_chain, ap_mBin, ap_mUn, ap_mOn, ap_mCons, ap_mNil, ap_mKw, ap_mMeth, ap_mSl, ap_oNone, ap_oSome, ap_tAnd, ap_tOr, ap_tNot, ap_mIf, ap_mYes, wp_bind, ap_mVar, ap_mC, wp_ok, wp_optR, slot_0, slot_s, tru_bl, tru_int, tru_lst, tru_tup, tru_non, asBl_bl, asInt_int, asTwo_ap, asThree_ap, if_true, if_false, Bool.false_eq_true, Bool.not_true, Bool.not_false, fin_bl, fin_int, fin_str, fin_non, List.set_cons_succ, List.set_cons_zero, mul_small (k := false) (x := A) (y := (k : Int)) (st := st) (.inl ⟨by omega, by omega⟩), add_int]
      exact ⟨_, rfl, trivial⟩
  obtain ⟨d, st', e, v, rfl, rfl⟩ := wp_ok_of h
  exact ⟨v, e⟩
theorem box_run {v : Int} {st : Sto} {Q : D → Sto → Prop} (k : ∀ st', Bx st' st.length 999999999 → st'.length = st.length + 1 → (∀ j, j < st.length → st'[j]? = st[j]?) → Q (.cell st.length) st') : wp (callF false 1 boxM [.int v] st) Q := by
  rw [wp_call]
  show ws (boxM [some (.int v)] st) _
  unfold boxM
  have f1 : fPow (.int 10) (.int 18) st = .ok (.int (10 ^ (18 : Int).toNat)) st := pow_int ⟨by decide, by decide, by decide⟩
  have f2 : fMod (.int v) (.int 2147483629) st = .ok (.int (v % 2147483629)) st := mod_int (by decide)
  have h1 := Int.emod_nonneg v (show (2147483629 : Int) ≠ 0 by decide)
  have h2 := Int.emod_lt_of_pos v (show (0 : Int) < 2147483629 by decide)
  simp only [ws_seq, ws_ite, wp_ite, brk_t, brk_f, opt_some, ap_sIf, ap_sSet, ap_sRet, ap_sRetN, ap_sExpr, ap_sNil, ap_sBk, ap_sCt, ws_asg, ws_par, ws_par3, ws_toS, ws_nx, ws_rt, ws_bk, ws_ct, wp_tru, wp_notM, wp_andM, wp_orM, wp_chain, ap_mBin, ap_mUn, ap_mOn, ap_mCons, ap_mNil, ap_mKw, ap_mMeth, ap_mSl, ap_oNone, ap_oSome, ap_tAnd, ap_tOr, ap_tNot, ap_mIf, ap_mYes, wp_bind, ap_mVar, ap_mC, wp_ok, wp_optR, slot_0, slot_s, tru_bl, tru_int, tru_lst, tru_tup, tru_non, asBl_bl, asInt_int, asTwo_ap, asThree_ap, if_true, if_false, Bool.false_eq_true, Bool.not_true, Bool.not_false, fin_bl, fin_int, fin_str, fin_non, List.set_cons_succ, List.set_cons_zero, f1, f2, sub_int, max_int]
  rw [mk_t (by simp), wp_ok]
  change wp (fin false st (.cell st.length) _) Q
  rw [fin_movK (.app _ _) (by rw [List.getElem?_append_right (Nat.le_refl _), Nat.sub_self]; rfl) (Nat.le_refl _) rfl, List.take_left]
  exact k _ ⟨_, _, 0, by rw [List.getElem?_append_right (Nat.le_refl _), Nat.sub_self]; rfl, h1, by omega, by decide, by decide⟩ (by simp) fun j hj => List.getElem?_append_left hj
end P3

/-! P3Q: what repr writes is plain text. -/
namespace P3
open PySem PySem.Spec PyProof.Rows L2
def plainStr (x : Str) : Bool := PyData.strOk x
def okL (l : List Nat) : Bool := l.all fun c => decide (c < 0x110000)
theorem plain_okL {x : Str} : plainStr x = okL x.cps.toList := by
  show x.cps.all (fun c => decide (c < 0x110000)) = _
  rw [← Array.all_toList]
  rfl
theorem okL_app {a b : List Nat} : okL (a ++ b) = (okL a && okL b) := by simp [okL, List.all_append]
theorem ps_app {a b : Str} : plainStr (a ++ b) = (plainStr a && plainStr b) := by
  rw [plain_okL, plain_okL, plain_okL, ← okL_app]
  congr 1
  show (a.cps ++ b.cps).toList = _
  rw [Array.toList_append]
theorem char_lt (c : Char) : c.toNat < 0x110000 := by
  have := c.valid
  have e : c.toNat = c.val.toNat := rfl
  rcases this with h | ⟨_, h⟩
  · have : c.val.toNat < 0xd800 := h
    omega
  · exact h
theorem okL_chars {l : List Char} : okL (l.map Char.toNat) = true := by
  unfold okL
  rw [List.all_map, List.all_eq_true]
  exact fun c _ => decide_eq_true (char_lt c)
theorem ps_str (s : String) : plainStr (Str.ofString s) = true := by
  rw [plain_okL, Str.ofString_eq_toList]
  exact okL_chars
theorem ok_hex {q c : Nat} (hq : q < 0x110000) (hc : c < 0x110000) : okL (Builtin.Str.reprChar q c) = true := by
  have hx : ∀ w, okL (List.replicate (w - ((Nat.toDigits 16 c).map Char.toNat).length) 48 ++ (Nat.toDigits 16 c).map Char.toNat) = true := fun w => by
    rw [okL_app, okL_chars, Bool.and_true]
    simp [okL]
  have one : okL [92, c] = true := by simp [okL, hc]
  have one1 : okL [c] = true := by simp [okL, hc]
  unfold Builtin.Str.reprChar
  dsimp only
  repeat' split
  all_goals first | exact one | exact one1 | decide | (rw [okL_app, hx]; decide)
theorem ok_fold {q : Nat} (hq : q < 0x110000) : ∀ (l : List Nat) (acc : Array Nat), okL l = true → okL acc.toList = true → okL (l.foldl (fun out c => out ++ (Builtin.Str.reprChar q c).toArray) acc).toList = true
  | [], acc, _, h => h
  | c :: r, acc, hl, h => by
    have hl' : (decide (c < 0x110000) && okL r) = true := hl
    rw [Bool.and_eq_true, decide_eq_true_eq] at hl'
    refine ok_fold hq r _ hl'.2 ?_
    rw [Array.toList_append, okL_app, h, Bool.true_and]
    exact ok_hex hq hl'.1
theorem ps_repr {x : Str} (h : plainStr x = true) : plainStr (reprText x) = true := by
  have hq : reprQuote x < 0x110000 := by unfold reprQuote; split <;> decide
  rw [plain_okL] at h ⊢
  show okL ((x.cps.foldl (fun out c => out ++ (Builtin.Str.reprChar (reprQuote x) c).toArray) #[reprQuote x]).push (reprQuote x)).toList = true
  rw [Array.toList_push, okL_app, ← Array.foldl_toList]
  rw [ok_fold hq _ _ h (by simp [okL, hq])]
  simp [okL, hq]
theorem ps_from : ∀ (ts : List Str) (k : Nat) (acc : Str), plainStr acc = true → (∀ t ∈ ts, plainStr t = true) → plainStr (textFrom k acc ts) = true
  | [], k, acc, h, _ => h
  | t :: ts, k, acc, h, ht => by
    refine ps_from ts (k + 1) _ ?_ fun t h => ht t (by simp [h])
    rw [ps_app, ps_app, h, ht t (by simp), ps_str]
    rfl
theorem ps_list {ts : List Str} (h : ∀ t ∈ ts, plainStr t = true) : plainStr (listText ts) = true := by
  unfold listText
  rw [ps_app, ps_from _ _ _ (ps_str "[") h, ps_str]
  rfl
theorem ps_join : ∀ {ts : List Str}, (∀ t ∈ ts, plainStr t = true) → plainStr (Str.join ", " ts) = true
  | [], _ => by decide +kernel
  | [x], h => h x (by simp)
  | x :: y :: r, h => by
    show plainStr (x ++ ", " ++ Str.join ", " (y :: r)) = true
    rw [ps_app, ps_app, h x (by simp), ps_str, ps_join fun t ht => h t (by simp only [List.mem_cons] at ht ⊢; exact .inr ht)]
    rfl
theorem ps_tup {ts : List Str} (h : ∀ t ∈ ts, plainStr t = true) : plainStr (tupleText ts) = true := by
  unfold tupleText
  rw [ps_app, ps_app, ps_str, ps_join h, ps_str]
  rfl
end P3

/-! P3V: repr of plain trees has an answer. -/
namespace P3
open PySem PySem.Spec PyProof.Rows L2
theorem repr_log (n : Nat) : (Nat.repr n).length ≤ n.log2 + 1 := by
  have h1 : n < 10 ^ (n.log2 + 1) := Nat.lt_of_lt_of_le Nat.lt_log2_self (Nat.pow_le_pow_left (by decide) _)
  have h2 := digits10_le (k := n.log2 + 1) (n := n) (by omega) h1
  simpa [Nat.repr] using h2
theorem len_log (a : Int) : (Str.ofString (toString a)).length ≤ a.natAbs.log2 + 3 := by
  rw [ofString_len]
  cases a with
  | ofNat m =>
    have := repr_log m
    show (Nat.repr m).length ≤ m.log2 + 3
    omega
  | negSucc m =>
    have := repr_log (m + 1)
    show ("-" ++ Nat.repr (m + 1)).length ≤ (m + 1).log2 + 3
    have h1 : "-".length = 1 := by first | rfl | decide
    rw [String.length_append]
    omega
mutual
/-- what a tree's text may come to -/
def wt : D → Nat
  | .non => 4
  | .bl _ => 5
  | .int i => i.natAbs.log2 + 3
  | .str x => 10 * x.length + 2
  | .lst l => wtL l + 2
  | .tup l => wtL l + 2
  | .dic _ => 2
  | _ => 0
def wtL : List D → Nat
  | [] => 0
  | d :: l => wt d + 2 + wtL l
end
mutual
def dp : D → Nat
  | .lst l => dpL l + 1
  | .tup l => dpL l + 1
  | .dic _ => 1
  | _ => 0
def dpL : List D → Nat
  | [] => 0
  | d :: l => max (dp d) (dpL l)
end
mutual
/-- plain data: small ints, plain texts, lists, tuples, {} -/
def pl : D → Bool
  | .non => true
  | .bl _ => true
  | .int i => decide (i.natAbs.log2 < 1920)
  | .str x => plainStr x
  | .lst l => plL l
  | .tup l => plL l
  | .dic [] => true
  | _ => false
def plL : List D → Bool
  | [] => true
  | d :: l => pl d && plL l
end
theorem textFrom_le : ∀ (ts : List Str) (k : Nat) (acc : Str), (textFrom k acc ts).length ≤ acc.length + piled ts
  | [], k, acc => Nat.le_add_right _ _
  | t :: ts, k, acc => by
    have ih := textFrom_le ts (k + 1) (acc ++ (if k > 0 then ", " else "" : String) ++ t)
    have e : (Str.ofString (if k > 0 then ", " else "" : String)).length ≤ 2 := by split <;> decide +kernel
    rw [strLen_append, strLen_append] at ih
    rw [piled_cons]
    show (textFrom (k + 1) (acc ++ (if k > 0 then ", " else "" : String) ++ t) ts).length ≤ _
    omega
theorem listText_le (ts : List Str) : (listText ts).length ≤ piled ts + 2 := by
  have h := textFrom_le ts 0 "["
  have e1 : ((("[" : String) : Str)).length = 1 := rfl
  have e2 : ((("]" : String) : Str)).length = 1 := rfl
  unfold listText
  rw [strLen_append, e2]
  omega
mutual
theorem shD_ok (cf : Nat → Option Sh) : ∀ d : D, pl d = true → wt d ≤ sizeLine → ∃ t n, shD cf d = some (t, n) ∧ t.length ≤ wt d ∧ n ≤ dp d ∧ plainStr t = true
  | .non, _, _ => ⟨_, _, rfl, by decide, Nat.le_refl _, by decide +kernel⟩
  | .bl b, _, _ => ⟨_, _, rfl, by cases b <;> decide +kernel, Nat.le_refl _, by cases b <;> decide +kernel⟩
  | .int i, h, _ => by
    have h : i.natAbs.log2 < 1920 := by simpa [pl] using h
    have := len_log i
    exact ⟨toString i, 0, if_pos h, by unfold wt; omega, Nat.le_refl _, ps_str _⟩
  | .str x, h, hw => by
    have h0 : plainStr x = true := by simpa [pl] using h
    have h : ∀ c ∈ x.cps.toList, c < 16 ^ 8 := fun c hc => by
      have h : plainStr x = true := by simpa [pl] using h
      have h3 := Array.all_eq_true_iff_forall_mem.mp h c (Array.mem_toList_iff.mp hc)
      have h4 : c < 0x110000 := by simpa using h3
      have e : (16 : Nat) ^ 8 = 4294967296 := by decide
      omega
    have hl := StrLaws.reprText_len x h
    have hw : 10 * x.length + 2 ≤ sizeLine := by simpa [wt] using hw
    exact ⟨reprText x, 0, if_pos (by omega), by unfold wt; omega, Nat.le_refl _, ps_repr h0⟩
  | .lst l, h, hw => by
    have hw : wtL l + 2 ≤ sizeLine := by simpa [wt] using hw
    obtain ⟨ts, n, e, h1, h2, h9⟩ := shL_ok cf l (by simpa [pl] using h) (by omega)
    have h3 := listText_le ts
    refine ⟨listText ts, n + 1, ?_, by unfold wt; omega, by unfold dp; omega, ps_list h9⟩
    show (shL cf l).bind lstT = _
    rw [e]
    exact if_pos (show (listText ts).length ≤ sizeLine by omega)
  | .tup l, h, hw => by
    have hw : wtL l + 2 ≤ sizeLine := by simpa [wt] using hw
    obtain ⟨ts, n, e, h1, h2, h9⟩ := shL_ok cf l (by simpa [pl] using h) (by omega)
    have h3 := fmt_text ts
    refine ⟨tupleText ts, n + 1, ?_, by unfold wt; omega, by unfold dp; omega, ps_tup h9⟩
    show (shL cf l).bind tupT = _
    rw [e]
    exact if_pos (show (tupleText ts).length ≤ sizeLine by omega)
  | .dic [], _, _ => ⟨dictText [], 1, by
    show (match keysT [], shK cf [] with
      | some ks, some p => dicT ks p
      | _, _ => none) = _
    exact if_pos (by decide +kernel), by decide +kernel, Nat.le_refl _, by decide +kernel⟩
  | .dic (_ :: _), h, _ => by simp [pl] at h
  | .cell _, h, _ => by simp [pl] at h
  | .scr _, h, _ => by simp [pl] at h
  | .ty _, h, _ => by simp [pl] at h
  | .code _, h, _ => by simp [pl] at h
  | .ob .., h, _ => by simp [pl] at h
theorem shL_ok (cf : Nat → Option Sh) : ∀ l : List D, plL l = true → wtL l ≤ sizeLine → ∃ ts n, shL cf l = some (ts, n) ∧ piled ts ≤ wtL l ∧ n ≤ dpL l ∧ ∀ t ∈ ts, plainStr t = true
  | [], _, _ => ⟨[], 0, rfl, by decide, Nat.le_refl _, fun t h => by cases h⟩
  | d :: l, h, hw => by
    have h' : (pl d && plL l) = true := h
    rw [Bool.and_eq_true] at h'
    have hw' : wt d + 2 + wtL l ≤ sizeLine := hw
    obtain ⟨t, n, e1, h1, h2, h8⟩ := shD_ok cf d h'.1 (by omega)
    obtain ⟨ts, m, e2, h3, h4, h9⟩ := shL_ok cf l h'.2 (by omega)
    refine ⟨t :: ts, max n m, ?_, ?_, ?_, fun u hu => by 
      rcases List.mem_cons.mp hu with rfl | hu
      · exact h8
      · exact h9 u hu⟩
    · unfold shL
      rw [e1, e2]
    · rw [piled_cons]
      show _ ≤ wt d + 2 + wtL l
      omega
    · show _ ≤ max (dp d) (dpL l)
      omega
end
theorem shown_ok {d : D} {st : Sto} (h : pl d = true) (hw : wt d ≤ sizeLine) (hd : dp d ≤ 150) : ∃ t, fRepr [d] st = .ok (.str t) st ∧ plainStr t = true := by
  obtain ⟨t, n, e, h1, h2, h3⟩ := shD_ok (cfN st (st.length + 1)) d h hw
  refine ⟨t, ?_, h3⟩
  show (match shown d st with
    | some (t, n) => if n ≤ 150 then Res.ok (D.str t) st else .stuck
    | none => .stuck) = _
  rw [show shown d st = some (t, n) from e]
  exact if_pos (by omega)
/-! no cells in it -/
mutual
theorem pl_blw : ∀ (d : D) (n : Nat), pl d = true → d.blw n = true
  | .non, _, _ => rfl
  | .bl b, _, _ => rfl
  | .int i, _, _ => rfl
  | .str x, _, _ => rfl
  | .lst l, n, h => plL_blw l n (by simpa [pl] using h)
  | .tup l, n, h => plL_blw l n (by simpa [pl] using h)
  | .dic [], _, _ => rfl
  | .dic (_ :: _), _, h => by simp [pl] at h
  | .cell _, _, h => by simp [pl] at h
  | .scr _, _, h => by simp [pl] at h
  | .ty _, _, h => by simp [pl] at h
  | .code _, _, h => by simp [pl] at h
  | .ob .., _, h => by simp [pl] at h
theorem plL_blw : ∀ (l : List D) (n : Nat), plL l = true → blwL n l = true
  | [], _, _ => rfl
  | d :: l, n, h => by
    have h' : (pl d && plL l) = true := h
    rw [Bool.and_eq_true] at h'
    show (d.blw n && blwL n l) = true
    rw [pl_blw d n h'.1, plL_blw l n h'.2]
    rfl
end
theorem pl_view {d : D} {st : Sto} (h : pl d = true) : view d st = d := by
  cases d <;> first | rfl | (simp [pl] at h; done)
theorem plL_app : ∀ (l m : List D), plL (l ++ m) = (plL l && plL m)
  | [], m => by simp [plL]
  | d :: l, m => by
    show (pl d && plL (l ++ m)) = ((pl d && plL l) && plL m)
    rw [plL_app l m, Bool.and_assoc]
theorem wtL_app : ∀ (l m : List D), wtL (l ++ m) = wtL l + wtL m
  | [], m => by simp [wtL]
  | d :: l, m => by
    show wt d + 2 + wtL (l ++ m) = (wt d + 2 + wtL l) + wtL m
    rw [wtL_app l m]
    omega
theorem dpL_app : ∀ (l m : List D), dpL (l ++ m) = max (dpL l) (dpL m)
  | [], m => by simp [dpL]
  | d :: l, m => by
    show max (dp d) (dpL (l ++ m)) = max (max (dp d) (dpL l)) (dpL m)
    rw [dpL_app l m]
    omega
theorem plL_iff : ∀ l : List D, plL l = true ↔ ∀ d ∈ l, pl d = true
  | [] => by simp [plL]
  | d :: l => by
    show (pl d && plL l) = true ↔ _
    rw [Bool.and_eq_true, plL_iff l]
    simp
theorem wtL_sub {l m : List D} (h : List.Sublist l m) : wtL l ≤ wtL m := by
  induction h with
  | slnil => exact Nat.le_refl _
  | cons d _ ih => show _ ≤ wt d + 2 + wtL _; omega
  | cons_cons d _ ih => show wt d + 2 + wtL _ ≤ wt d + 2 + wtL _; omega
theorem dpL_sub {l m : List D} (h : List.Sublist l m) : dpL l ≤ dpL m := by
  induction h with
  | slnil => exact Nat.le_refl _
  | cons d _ ih => show _ ≤ max (dp d) (dpL _); omega
  | cons_cons d _ ih => show max (dp d) (dpL _) ≤ max (dp d) (dpL _); omega
theorem plL_sub {l m : List D} (h : List.Sublist l m) (k : plL m = true) : plL l = true := by
  rw [plL_iff] at k ⊢
  exact fun d hd => k d (h.subset hd)
theorem wtL_rev : ∀ l : List D, wtL l.reverse = wtL l
  | [] => rfl
  | d :: l => by
    rw [List.reverse_cons, wtL_app, wtL_rev l]
    show wtL l + (wt d + 2 + 0) = wt d + 2 + wtL l
    omega
theorem dpL_rev : ∀ l : List D, dpL l.reverse = dpL l
  | [] => rfl
  | d :: l => by
    rw [List.reverse_cons, dpL_app, dpL_rev l]
    show max (dpL l) (max (dp d) 0) = max (dp d) (dpL l)
    omega
theorem plL_rev {l : List D} (h : plL l = true) : plL l.reverse = true := by
  rw [plL_iff] at h ⊢
  exact fun d hd => h d (List.mem_reverse.mp hd)
theorem len_wt : ∀ l : List D, 2 * l.length ≤ wtL l
  | [] => Nat.le_refl _
  | d :: l => by
    have := len_wt l
    show 2 * (l.length + 1) ≤ wt d + 2 + wtL l
    omega
theorem mem_wt {d : D} : ∀ {l : List D}, d ∈ l → wt d ≤ wtL l
  | e :: l, h => by
    show _ ≤ wt e + 2 + wtL l
    rcases List.mem_cons.mp h with rfl | h
    · omega
    · have := mem_wt h
      omega
theorem mem_dp {d : D} : ∀ {l : List D}, d ∈ l → dp d ≤ dpL l
  | e :: l, h => by
    show _ ≤ max (dp e) (dpL l)
    rcases List.mem_cons.mp h with rfl | h
    · omega
    · have := mem_dp h
      omega
theorem cut_to {l : List D} {n : Nat} : cutD l none (some (n : Int)) = l.take n := by
  unfold cutD
  rw [HT.sIx_none, HT.sIx_nat, List.drop_zero, Nat.sub_zero]
  by_cases h : n ≤ l.length
  · rw [Nat.min_eq_left h]
  · rw [Nat.min_eq_right (by omega), List.take_length, List.take_of_length_le (by omega)]
theorem cut_from {l : List D} {n : Nat} : cutD l (some (n : Int)) none = l.drop n := by
  unfold cutD
  rw [HT.sIx_none, HT.sIx_nat]
  by_cases h : n ≤ l.length
  · rw [Nat.min_eq_left h, List.take_of_length_le (by simp)]
  · rw [Nat.min_eq_right (by omega), List.drop_length, List.drop_of_length_le (by omega)]
    simp
end P3
namespace P3
open PySem PySem.Spec PyProof.Rows L2
theorem res_eq {α : Type} {r : Res α} {v : α} {st : Sto} (h : wp r fun a st' => a = v ∧ st' = st) : r = .ok v st := by
  obtain ⟨a, st', e, rfl, rfl⟩ := wp_ok_of h
  exact e
theorem bools_map {l : List D} {h : D → Bool} : boolsOf (l.map fun x => D.bl (h x)) = some (l.map h) := by
  induction l with
  | nil => rfl
  | cons a l ih =>
    show (boolsOf (l.map fun x => D.bl (h x))).map (h a :: ·) = _
    rw [ih]
    rfl
theorem all_map {l : List D} {h : D → Bool} {st : Sto} : fAll [.lst (l.map fun x => D.bl (h x))] st = .ok (.bl (l.all h)) st := by
  show optR ((boolsOf (l.map fun x => D.bl (h x))).map fun bs => D.bl (bs.all id)) st = _
  rw [bools_map]
  show Res.ok (D.bl ((l.map h).all id)) st = _
  rw [List.all_map]
  rfl
theorem signs_all {z : Str} {h : D → Bool} : (signs z).all h = z.cps.toList.all fun c => h (.str ⟨#[c]⟩) := by
  unfold signs
  rw [List.all_map]
  rfl
theorem signs_len {z : Str} : (signs z).length = z.length := by simp [signs, Str.length]
theorem shaped_str {a : Str} (h : plainStr a = true) : SeqAt.shaped (.str a) = true := by
  have h : PyData.strOk a = true := h
  simp [SeqAt.shaped, PyData.canLay0, PyData.depth, h]
theorem shaped_int (a : Int) : SeqAt.shaped (.int a) = true := by simp [SeqAt.shaped, PyData.canLay0, PyData.depth]
def eqS (a b : Str) : Bool := PyData.eqv (.str a) (.str b)
theorem eq_str {a b : Str} {st : Sto} (ha : plainStr a = true) (hb : plainStr b = true) : fEqX (.str a) (.str b) st = .ok (.bl (eqS a b)) st := by
  show (if SeqAt.shaped (.str a) = true ∧ SeqAt.shaped (.str b) = true then Res.ok (D.bl (PyData.eqv (.str a) (.str b))) st else .stuck) = _
  exact if_pos ⟨shaped_str ha, shaped_str hb⟩
theorem eq_int {a b : Int} {st : Sto} : fEqX (.int a) (.int b) st = .ok (.bl (decide (a = b))) st := by
  show (if SeqAt.shaped (.int a) = true ∧ SeqAt.shaped (.int b) = true then Res.ok (D.bl (PyData.eqv (.int a) (.int b))) st else .stuck) = _
  rw [if_pos ⟨shaped_int a, shaped_int b⟩]
  simp only [PyData.eqv]
  rfl
theorem ne_int {a b : Int} {st : Sto} : fNe (.int a) (.int b) st = .ok (.bl (!decide (a = b))) st := by
  show (if SeqAt.shaped (.int a) = true ∧ SeqAt.shaped (.int b) = true then Res.ok (D.bl (!PyData.eqv (.int a) (.int b))) st else .stuck) = _
  rw [if_pos ⟨shaped_int a, shaped_int b⟩]
  simp only [PyData.eqv]
  rfl
theorem eq_lst0 {l : List D} {st : Sto} : fEqX (.lst l) (.lst []) st = .ok (.bl l.isEmpty) st := by
  cases l with
  | nil => rfl
  | cons a l => rfl
theorem eq_tup0 {l : List D} {st : Sto} : fEqX (.tup l) (.tup []) st = .ok (.bl l.isEmpty) st := by
  cases l with
  | nil => rfl
  | cons a l => rfl
/-- what isinstance says of plain data -/
def isiD (d : D) (n : String) : Bool := ((tyS d).bind fun t => isiB t n).getD false
theorem isi_tab : (["NoneType", "bool", "int", "str", "list", "tuple", "dict"].all fun t => ["bool", "int", "str", "list", "tuple", "dict"].all fun n => (isiB t n).isSome) = true := by decide +kernel
theorem isi_pl {d : D} {n : String} {st : Sto} (h : pl d = true) (hn : n ∈ ["bool", "int", "str", "list", "tuple", "dict"]) : fIsi [d, .ty n] st = .ok (.bl (isiD d n)) st := by
  have tab := isi_tab
  rw [List.all_eq_true] at tab
  have go : ∀ t, t ∈ ["NoneType", "bool", "int", "str", "list", "tuple", "dict"] → tyS d = some t → fIsi [d, .ty n] st = .ok (.bl (isiD d n)) st := fun t ht e => by
    have h2 := tab t ht
    rw [List.all_eq_true] at h2
    have h3 := h2 n hn
    obtain ⟨b, eb⟩ := Option.isSome_iff_exists.mp h3
    show optR (((tyS (view d st)).bind fun t => isiC t (.ty n)).map D.bl) st = _
    rw [pl_view h]
    unfold isiD
    rw [e]
    show optR ((isiB t n).map D.bl) st = Res.ok (D.bl ((isiB t n).getD false)) st
    rw [eb]
    rfl
  cases d with
  | non => exact go _ (by simp) rfl
  | bl => exact go _ (by simp) rfl
  | int => exact go _ (by simp) rfl
  | str => exact go _ (by simp) rfl
  | lst => exact go _ (by simp) rfl
  | tup => exact go _ (by simp) rfl
  | dic => exact go _ (by simp) rfl
  | _ => simp [pl] at h
def isStrD : D → Bool
  | .str _ => true
  | _ => false
def isTupD : D → Bool
  | .tup _ => true
  | _ => false
def isIntD : D → Bool
  | .int _ => true
  | .bl _ => true
  | _ => false
def isBlD : D → Bool
  | .bl _ => true
  | _ => false
theorem isi_str {d : D} (h : pl d = true) : isiD d "str" = isStrD d := by
  cases d with
  | non => exact (show (isiB "NoneType" "str").getD false = false by decide +kernel)
  | bl => exact (show (isiB "bool" "str").getD false = false by decide +kernel)
  | int => exact (show (isiB "int" "str").getD false = false by decide +kernel)
  | str => exact (show (isiB "str" "str").getD false = true by decide +kernel)
  | lst => exact (show (isiB "list" "str").getD false = false by decide +kernel)
  | tup => exact (show (isiB "tuple" "str").getD false = false by decide +kernel)
  | dic => exact (show (isiB "dict" "str").getD false = false by decide +kernel)
  | _ => simp [pl] at h
theorem isi_tuple {d : D} (h : pl d = true) : isiD d "tuple" = isTupD d := by
  cases d with
  | non => exact (show (isiB "NoneType" "tuple").getD false = false by decide +kernel)
  | bl => exact (show (isiB "bool" "tuple").getD false = false by decide +kernel)
  | int => exact (show (isiB "int" "tuple").getD false = false by decide +kernel)
  | str => exact (show (isiB "str" "tuple").getD false = false by decide +kernel)
  | lst => exact (show (isiB "list" "tuple").getD false = false by decide +kernel)
  | tup => exact (show (isiB "tuple" "tuple").getD false = true by decide +kernel)
  | dic => exact (show (isiB "dict" "tuple").getD false = false by decide +kernel)
  | _ => simp [pl] at h
theorem isi_int {d : D} (h : pl d = true) : isiD d "int" = isIntD d := by
  cases d with
  | non => exact (show (isiB "NoneType" "int").getD false = false by decide +kernel)
  | bl => exact (show (isiB "bool" "int").getD false = true by decide +kernel)
  | int => exact (show (isiB "int" "int").getD false = true by decide +kernel)
  | str => exact (show (isiB "str" "int").getD false = false by decide +kernel)
  | lst => exact (show (isiB "list" "int").getD false = false by decide +kernel)
  | tup => exact (show (isiB "tuple" "int").getD false = false by decide +kernel)
  | dic => exact (show (isiB "dict" "int").getD false = false by decide +kernel)
  | _ => simp [pl] at h
theorem isi_bool {d : D} (h : pl d = true) : isiD d "bool" = isBlD d := by
  cases d with
  | non => exact (show (isiB "NoneType" "bool").getD false = false by decide +kernel)
  | bl => exact (show (isiB "bool" "bool").getD false = true by decide +kernel)
  | int => exact (show (isiB "int" "bool").getD false = false by decide +kernel)
  | str => exact (show (isiB "str" "bool").getD false = false by decide +kernel)
  | lst => exact (show (isiB "list" "bool").getD false = false by decide +kernel)
  | tup => exact (show (isiB "tuple" "bool").getD false = false by decide +kernel)
  | dic => exact (show (isiB "dict" "bool").getD false = false by decide +kernel)
  | _ => simp [pl] at h
/-- small plain data -/
def Gd (d : D) : Prop := pl d = true ∧ wt d ≤ 200000
theorem Gd.str {z : Str} (h : Gd (.str z)) : z.length ≤ 100000 := by
  have : 10 * z.length + 2 ≤ 200000 := by simpa [wt] using h.2
  omega
theorem Gd.tup {l : List D} (h : Gd (.tup l)) : l.length ≤ 100000 ∧ ∀ d ∈ l, Gd d := by
  have hw : wtL l + 2 ≤ 200000 := by simpa [wt] using h.2
  have hl := len_wt l
  have hp : plL l = true := by simpa [pl] using h.1
  exact ⟨by omega, fun d hd => ⟨(plL_iff l).mp hp d hd, by have := mem_wt hd; omega⟩⟩
theorem Gd.lst {l : List D} (h : Gd (.lst l)) : l.length ≤ 100000 ∧ ∀ d ∈ l, Gd d := by
  have hw : wtL l + 2 ≤ 200000 := by simpa [wt] using h.2
  have hl := len_wt l
  have hp : plL l = true := by simpa [pl] using h.1
  exact ⟨by omega, fun d hd => ⟨(plL_iff l).mp hp d hd, by have := mem_wt hd; omega⟩⟩
/-- [me for t in .. if tt], where nothing changes -/
theorem comp_if {mi : MI} {t : Tg} {tt : MT} {me : ME} {vs : List Nat} {ρ : Ro} {st : Sto} {S : Src} {xs : List D} (p : D → Bool) (g : D → D) (hm : mi ρ st = .ok S st) (hS : Static S xs) (hl : xs.length ≤ 100000)
    (hb : ∀ x ∈ xs, ∃ ρ1, gtD t x (wipeR ρ vs) = some ρ1 ∧ ∀ st : Sto, tt ρ1 st = .ok (p x) st ∧ (p x = true → me ρ1 st = .ok (g x) st ∧ ∀ n, (g x).blw n = true)) : mComp false mi t tt me vs ρ st = .ok (.lst ((xs.filter p).map g)) st :=
  comp_pure xs p g (by rw [hm]; exact ⟨hS, rfl⟩) hl hb
theorem comp_all {mi : MI} {t : Tg} {me : ME} {vs : List Nat} {ρ : Ro} {st : Sto} {S : Src} {xs : List D} (g : D → D) (hm : mi ρ st = .ok S st) (hS : Static S xs) (hl : xs.length ≤ 100000)
    (hb : ∀ x ∈ xs, ∃ ρ1, gtD t x (wipeR ρ vs) = some ρ1 ∧ ∀ st : Sto, me ρ1 st = .ok (g x) st ∧ ∀ n, (g x).blw n = true) : mComp false mi t mYes me vs ρ st = .ok (.lst (xs.map g)) st := by
  have h := comp_if (tt := mYes) (fun _ => true) g hm hS hl fun x hx => by
    obtain ⟨ρ1, e1, e2⟩ := hb x hx
    exact ⟨ρ1, e1, fun st => ⟨rfl, fun _ => e2 st⟩⟩
  rw [h, List.filter_eq_self.mpr fun _ _ => rfl]
theorem ne_str {a b : Str} {st : Sto} (ha : plainStr a = true) (hb : plainStr b = true) : fNe (.str a) (.str b) st = .ok (.bl (!eqS a b)) st := by
  show (if SeqAt.shaped (.str a) = true ∧ SeqAt.shaped (.str b) = true then Res.ok (D.bl (!PyData.eqv (.str a) (.str b))) st else .stuck) = _
  exact if_pos ⟨shaped_str ha, shaped_str hb⟩
theorem eqS_beq (a b : Str) : eqS a b = (a == b) := by simp only [eqS, PyData.eqv]
theorem eqS_self (a : Str) : eqS a a = true := by rw [eqS_beq]; exact BEq.rfl
theorem eqS_eq {a b : Str} (h : eqS a b = true) : a = b := by rw [eqS_beq] at h; exact eq_of_beq h
/-- the text of plain data: one text, whatever the store -/
def tx (d : D) : Str := match shD (fun _ => none) d with
  | some (t, _) => t
  | none => ""
mutual
theorem shD_cf (c1 c2 : Nat → Option Sh) : ∀ d : D, pl d = true → shD c1 d = shD c2 d
  | .non, _ => rfl
  | .bl b, _ => rfl
  | .int i, _ => rfl
  | .str x, _ => rfl
  | .lst l, h => by
    show (shL c1 l).bind lstT = (shL c2 l).bind lstT
    rw [shL_cf c1 c2 l (by simpa [pl] using h)]
  | .tup l, h => by
    show (shL c1 l).bind tupT = (shL c2 l).bind tupT
    rw [shL_cf c1 c2 l (by simpa [pl] using h)]
  | .dic [], _ => rfl
  | .dic (_ :: _), h => by simp [pl] at h
  | .cell _, h => by simp [pl] at h
  | .scr _, h => by simp [pl] at h
  | .ty _, h => by simp [pl] at h
  | .code _, h => by simp [pl] at h
  | .ob .., h => by simp [pl] at h
theorem shL_cf (c1 c2 : Nat → Option Sh) : ∀ l : List D, plL l = true → shL c1 l = shL c2 l
  | [], _ => rfl
  | d :: l, h => by
    have h' : (pl d && plL l) = true := h
    rw [Bool.and_eq_true] at h'
    unfold shL
    rw [shD_cf c1 c2 d h'.1, shL_cf c1 c2 l h'.2]
end
theorem tx_ok {d : D} {st : Sto} (h : pl d = true) (hw : wt d ≤ sizeLine) (hd : dp d ≤ 150) : fRepr [d] st = .ok (.str (tx d)) st ∧ plainStr (tx d) = true := by
  obtain ⟨t, n, e, h1, h2, h3⟩ := shD_ok (fun _ => none) d h hw
  have et : tx d = t := by unfold tx; rw [e]
  rw [et]
  refine ⟨?_, h3⟩
  show (match shown d st with
    | some (t, n) => if n ≤ 150 then Res.ok (D.str t) st else .stuck
    | none => .stuck) = _
  rw [show shown d st = some (t, n) from (shD_cf _ _ d h).trans e]
  exact if_pos (by omega)
end P3

/-! P3U: simple data: no dict, short code points. -/
namespace P3
open PySem PySem.Spec PyProof.Rows L2
def ascS (x : Str) : Bool := x.cps.toList.all fun c => decide (c < 128)
mutual
/-- None, truths, numbers of some size, texts of ASCII, lists and tuples of these -/
def sm : D → Bool
  | .non => true
  | .bl _ => true
  | .int i => decide (i.natAbs.log2 < 1920)
  | .str x => ascS x
  | .lst l => smL l
  | .tup l => smL l
  | _ => false
def smL : List D → Bool
  | [] => true
  | d :: l => sm d && smL l
end
theorem asc_plain {x : Str} (h : ascS x = true) : plainStr x = true := by
  rw [plain_okL]
  unfold okL
  unfold ascS at h
  rw [List.all_eq_true] at h ⊢
  intro c hc
  have := h c hc
  rw [decide_eq_true_eq] at this ⊢
  omega
theorem smL_iff : ∀ l : List D, smL l = true ↔ ∀ d ∈ l, sm d = true
  | [] => by simp [smL]
  | d :: l => by
    show (sm d && smL l) = true ↔ _
    rw [Bool.and_eq_true, smL_iff l]
    simp
mutual
theorem sm_pl : ∀ d : D, sm d = true → pl d = true
  | .non, _ => rfl
  | .bl _, _ => rfl
  | .int i, h => by simpa [sm, pl] using h
  | .str x, h => by
    have : ascS x = true := by simpa [sm] using h
    simpa [pl] using asc_plain this
  | .lst l, h => by
    have := smL_pl l (by simpa [sm] using h)
    simpa [pl] using this
  | .tup l, h => by
    have := smL_pl l (by simpa [sm] using h)
    simpa [pl] using this
  | .dic _, h => by simp [sm] at h
  | .cell _, h => by simp [sm] at h
  | .scr _, h => by simp [sm] at h
  | .ty _, h => by simp [sm] at h
  | .code _, h => by simp [sm] at h
  | .ob .., h => by simp [sm] at h
theorem smL_pl : ∀ l : List D, smL l = true → plL l = true
  | [], _ => rfl
  | d :: l, h => by
    have h' : (sm d && smL l) = true := h
    rw [Bool.and_eq_true] at h'
    show (pl d && plL l) = true
    rw [sm_pl d h'.1, smL_pl l h'.2]
    rfl
end
mutual
theorem sm_py : ∀ d : D, sm d = true → ∃ p, pyD d = some p ∧ p.canLay0 = true ∧ p.depth ≤ dp d
  | .non, _ => ⟨_, rfl, by simp [PyData.canLay0], by simp [PyData.depth]⟩
  | .bl _, _ => ⟨_, rfl, by simp [PyData.canLay0], by simp [PyData.depth]⟩
  | .int i, h => ⟨_, rfl, by simp [PyData.canLay0], by simp [PyData.depth]⟩
  | .str x, h => by
    have h1 : ascS x = true := by simpa [sm] using h
    have h2 : PyData.strOk x = true := asc_plain h1
    exact ⟨_, rfl, by simp [PyData.canLay0, h2], by simp [PyData.depth]⟩
  | .lst l, h => by
    obtain ⟨ps, e, h1, h2⟩ := smL_py l (by simpa [sm] using h)
    refine ⟨.list ps, ?_, by simp [PyData.canLay0, h1], ?_⟩
    · unfold pyD
      rw [e]
    · simp only [PyData.depth]
      unfold dp
      omega
  | .tup l, h => by
    obtain ⟨ps, e, h1, h2⟩ := smL_py l (by simpa [sm] using h)
    refine ⟨.tuple ps, ?_, by simp [PyData.canLay0, h1], ?_⟩
    · unfold pyD
      rw [e]
    · simp only [PyData.depth]
      unfold dp
      omega
  | .dic _, h => by simp [sm] at h
  | .cell _, h => by simp [sm] at h
  | .scr _, h => by simp [sm] at h
  | .ty _, h => by simp [sm] at h
  | .code _, h => by simp [sm] at h
  | .ob .., h => by simp [sm] at h
theorem smL_py : ∀ l : List D, smL l = true → ∃ ps, pyL l = some ps ∧ PyData.canLayAll0 ps = true ∧ PyData.depthAll ps ≤ dpL l
  | [], _ => ⟨[], rfl, by simp [PyData.canLayAll0], by simp [PyData.depthAll]⟩
  | d :: l, h => by
    have h' : (sm d && smL l) = true := h
    rw [Bool.and_eq_true] at h'
    obtain ⟨p, e1, h1, h2⟩ := sm_py d h'.1
    obtain ⟨ps, e2, h3, h4⟩ := smL_py l h'.2
    refine ⟨p :: ps, ?_, by simp [PyData.canLayAll0, h1, h3], ?_⟩
    · unfold pyL
      rw [e1, e2]
    · simp only [PyData.depthAll]
      show _ ≤ max (dp d) (dpL l)
      omega
end
/-- == of simple data -/
def eqD (x y : D) : Bool := match pyD x, pyD y with
  | some a, some b => PyData.eqv a b
  | _, _ => false
theorem ne_sm {x y : D} {st : Sto} (hx : sm x = true) (hy : sm y = true) (dx : dp x ≤ 64) (dy : dp y ≤ 64) : fNe x y st = .ok (.bl (!eqD x y)) st := by
  obtain ⟨p, e1, h1, h2⟩ := sm_py x hx
  obtain ⟨q, e2, h3, h4⟩ := sm_py y hy
  unfold fNe eqD
  rw [pl_view (sm_pl x hx), pl_view (sm_pl y hy), e1, e2]
  have s1 : SeqAt.shaped p = true := by simp only [SeqAt.shaped, h1, Bool.true_and, decide_eq_true_eq]; omega
  have s2 : SeqAt.shaped q = true := by simp only [SeqAt.shaped, h3, Bool.true_and, decide_eq_true_eq]; omega
  exact if_pos ⟨s1, s2⟩
theorem ne_lst0 {l : List D} {st : Sto} (hl : smL l = true) (h : dpL l ≤ 60) : fNe (.lst l) (.lst []) st = .ok (.bl (!l.isEmpty)) st := by
  have hx : sm (.lst l) = true := by simpa [sm] using hl
  have h0 : sm (.lst []) = true := by simp [sm, smL]
  rw [ne_sm hx h0 (by unfold dp; omega) (by simp [dp, dpL])]
  congr 2
  cases l with
  | nil => rfl
  | cons a l =>
    show (!eqD (.lst (a :: l)) (.lst [])) = _
    obtain ⟨ps, e, _, _⟩ := smL_py (a :: l) hl
    have : ∃ p qs, ps = p :: qs := by
      unfold pyL at e
      split at e
      · simp only [Option.some.injEq] at e
        exact ⟨_, _, e.symm⟩
      · cases e
    obtain ⟨p, qs, rfl⟩ := this
    have e1 : pyD (.lst (a :: l)) = some (.list (p :: qs)) := by
      unfold pyD
      rw [e]
    unfold eqD
    rw [e1]
    show (!PyData.eqv (.list (p :: qs)) (.list [])) = _
    simp [PyData.eqv, PyData.eqvAll]
/-- simple, and no larger than told -/
def Si (W k : Nat) (d : D) : Prop := sm d = true ∧ wt d ≤ W ∧ dp d ≤ k
def SiL (W k : Nat) (l : List D) : Prop := smL l = true ∧ wtL l ≤ W ∧ dpL l ≤ k
theorem Si.le {W k W' k' : Nat} {d : D} (h : Si W k d) (h1 : W ≤ W') (h2 : k ≤ k') : Si W' k' d := ⟨h.1, Nat.le_trans h.2.1 h1, Nat.le_trans h.2.2 h2⟩
theorem SiL.le {W k W' k' : Nat} {d : List D} (h : SiL W k d) (h1 : W ≤ W') (h2 : k ≤ k') : SiL W' k' d := ⟨h.1, Nat.le_trans h.2.1 h1, Nat.le_trans h.2.2 h2⟩
theorem Si.tup {W k : Nat} {l : List D} (h : SiL W k l) : Si (W + 2) (k + 1) (.tup l) := ⟨by have := h.1; simpa [sm] using this, by have := h.2.1; unfold wt; omega, by have := h.2.2; unfold dp; omega⟩
theorem Si.lst {W k : Nat} {l : List D} (h : SiL W k l) : Si (W + 2) (k + 1) (.lst l) := ⟨by have := h.1; simpa [sm] using this, by have := h.2.1; unfold wt; omega, by have := h.2.2; unfold dp; omega⟩
theorem Si.of_tup {W k : Nat} {l : List D} (h : Si W k (.tup l)) : SiL W k l := ⟨by have := h.1; simpa [sm] using this, by have := h.2.1; unfold wt at this; omega, by have := h.2.2; unfold dp at this; omega⟩
theorem Si.of_lst {W k : Nat} {l : List D} (h : Si W k (.lst l)) : SiL W k l := ⟨by have := h.1; simpa [sm] using this, by have := h.2.1; unfold wt at this; omega, by have := h.2.2; unfold dp at this; omega⟩
theorem SiL.nil {W k : Nat} : SiL W k [] := ⟨rfl, Nat.zero_le _, Nat.zero_le _⟩
theorem SiL.cons {W V k : Nat} {d : D} {l : List D} (h : Si W k d) (h' : SiL V k l) : SiL (W + 2 + V) k (d :: l) := by
  refine ⟨?_, ?_, ?_⟩
  · show (sm d && smL l) = true
    rw [h.1, h'.1]
    rfl
  · show wt d + 2 + wtL l ≤ _
    have := h.2.1
    have := h'.2.1
    omega
  · show max (dp d) (dpL l) ≤ _
    have := h.2.2
    have := h'.2.2
    omega
theorem SiL.app {W V k : Nat} {l m : List D} (h : SiL W k l) (h' : SiL V k m) : SiL (W + V) k (l ++ m) := by
  refine ⟨?_, ?_, ?_⟩
  · rw [smL_iff]
    intro d hd
    rcases List.mem_append.mp hd with q | q
    · exact (smL_iff l).mp h.1 d q
    · exact (smL_iff m).mp h'.1 d q
  · rw [wtL_app]
    have := h.2.1
    have := h'.2.1
    omega
  · rw [dpL_app]
    have := h.2.2
    have := h'.2.2
    omega
theorem SiL.sub {W k : Nat} {l m : List D} (h : SiL W k m) (s : List.Sublist l m) : SiL W k l := ⟨(smL_iff l).mpr fun d hd => (smL_iff m).mp h.1 d (s.subset hd), Nat.le_trans (wtL_sub s) h.2.1, Nat.le_trans (dpL_sub s) h.2.2⟩
theorem SiL.take {W k n : Nat} {m : List D} (h : SiL W k m) : SiL W k (m.take n) := h.sub (List.take_sublist _ _)
theorem SiL.drop {W k n : Nat} {m : List D} (h : SiL W k m) : SiL W k (m.drop n) := h.sub (List.drop_sublist _ _)
theorem SiL.len {W k : Nat} {m : List D} (h : SiL W k m) : 2 * m.length ≤ W := Nat.le_trans (len_wt m) h.2.1
theorem Si.mem {W k : Nat} {m : List D} {d : D} (h : SiL W k m) (hd : d ∈ m) : Si W k d := ⟨(smL_iff m).mp h.1 d hd, Nat.le_trans (mem_wt hd) h.2.1, Nat.le_trans (mem_dp hd) h.2.2⟩
theorem SiL.of_all {W k : Nat} : ∀ {l : List D}, (∀ d ∈ l, Si W k d) → SiL (l.length * (W + 2)) k l
  | [], _ => SiL.nil
  | d :: l, h => by
    have h1 := SiL.cons (h d (by simp)) (SiL.of_all (l := l) fun e he => h e (by simp [he]))
    refine h1.le ?_ (Nat.le_refl _)
    rw [List.length_cons, Nat.add_mul, Nat.one_mul]
    omega
def siB (W k : Nat) (d : D) : Bool := sm d && decide (wt d ≤ W) && decide (dp d ≤ k)
theorem Si.of {W k : Nat} {d : D} (h : siB W k d = true) : Si W k d := by
  unfold siB at h
  rw [Bool.and_eq_true, Bool.and_eq_true, decide_eq_true_eq, decide_eq_true_eq] at h
  exact ⟨h.1.1, h.1.2, h.2⟩
theorem Si.gd {W k : Nat} {d : D} (h : Si W k d) (hW : W ≤ 200000) : Gd d := ⟨sm_pl _ h.1, Nat.le_trans h.2.1 hW⟩
theorem Si.blw {W k n : Nat} {d : D} (h : Si W k d) : d.blw n = true := pl_blw _ _ (sm_pl _ h.1)
end P3

/-! P3X: lists of what is drawn; bounds. -/
namespace P3
open PySem PySem.Spec PyProof.Rows L2
theorem strs_chars : ∀ l : List Nat, strsOf (l.map fun c => D.str ⟨#[c]⟩) = some (l.map fun c => (⟨#[c]⟩ : Str))
  | [] => rfl
  | c :: l => by
    show (strsOf (l.map fun c => D.str ⟨#[c]⟩)).map _ = _
    rw [strs_chars l]
    rfl
theorem sum_ones : ∀ l : List Nat, ((l.map fun c => (⟨#[c]⟩ : Str)).map (·.length)).sum = l.length
  | [] => rfl
  | c :: l => by
    rw [List.map_cons, List.map_cons, List.sum_cons, sum_ones l, List.length_cons]
    show 1 + l.length = _
    omega
theorem joinL_ones : ∀ l : List Nat, TL.joinL [] (l.map fun c => [c]) = l
  | [] => rfl
  | [c] => rfl
  | c :: d :: l => by
    have ih := joinL_ones (d :: l)
    show [c] ++ [] ++ TL.joinL [] ((d :: l).map fun c => [c]) = _
    rw [ih]
    rfl
theorem join_chars {l : List Nat} {st : Sto} (h : l.length ≤ 100000) : fJoin (.str "") [.lst (l.map fun c => .str ⟨#[c]⟩)] st = .ok (.str ⟨l.toArray⟩) st := by
  show optR ((strsOf (l.map fun c => D.str ⟨#[c]⟩)).bind fun ys => if (ys.map (·.length)).sum + ys.length * (Str.length "") ≤ 100000 then some (D.str (Txt.join "" ys)) else none) st = _
  rw [strs_chars]
  have e0 : Str.length "" = 0 := by decide +kernel
  have e1 : Txt.join "" (l.map fun c => (⟨#[c]⟩ : Str)) = ⟨l.toArray⟩ := by
    have h1 := SX.join_S [] (l.map fun c => [c])
    rw [joinL_ones, List.map_map] at h1
    have e2 : (SX.S [] : Str) = "" := by decide +kernel
    rw [e2] at h1
    exact h1
  show optR (if _ then _ else _) st = _
  rw [sum_ones, e0, Nat.mul_zero, Nat.add_zero, if_pos h, e1]
  rfl
theorem tc_str {z : Str} {st : Sto} : tcD "str" (.str z) st = true := rfl
end P3
namespace P3
open PySem PySem.Spec PyProof.Rows L2
/-- plain, and no larger than told -/
def Fi (W k : Nat) (d : D) : Prop := pl d = true ∧ wt d ≤ W ∧ dp d ≤ k
def FiL (W k : Nat) (l : List D) : Prop := plL l = true ∧ wtL l ≤ W ∧ dpL l ≤ k
theorem Fi.le {W k W' k' : Nat} {d : D} (h : Fi W k d) (h1 : W ≤ W') (h2 : k ≤ k') : Fi W' k' d := ⟨h.1, Nat.le_trans h.2.1 h1, Nat.le_trans h.2.2 h2⟩
theorem FiL.le {W k W' k' : Nat} {d : List D} (h : FiL W k d) (h1 : W ≤ W') (h2 : k ≤ k') : FiL W' k' d := ⟨h.1, Nat.le_trans h.2.1 h1, Nat.le_trans h.2.2 h2⟩
theorem Fi.tup {W k : Nat} {l : List D} (h : FiL W k l) : Fi (W + 2) (k + 1) (.tup l) := ⟨by have := h.1; simpa [pl] using this, by have := h.2.1; unfold wt; omega, by have := h.2.2; unfold dp; omega⟩
theorem Fi.lst {W k : Nat} {l : List D} (h : FiL W k l) : Fi (W + 2) (k + 1) (.lst l) := ⟨by have := h.1; simpa [pl] using this, by have := h.2.1; unfold wt; omega, by have := h.2.2; unfold dp; omega⟩
theorem Fi.of_tup {W k : Nat} {l : List D} (h : Fi (W + 2) (k + 1) (.tup l)) : FiL W k l := ⟨by have := h.1; simpa [pl] using this, by have := h.2.1; unfold wt at this; omega, by have := h.2.2; unfold dp at this; omega⟩
theorem Fi.of_tup' {W k : Nat} {l : List D} (h : Fi W k (.tup l)) : FiL (W - 2) (k - 1) l ∧ 2 ≤ W ∧ 1 ≤ k := by
  have h1 := h.2.1
  have h2 := h.2.2
  unfold wt at h1
  unfold dp at h2
  exact ⟨⟨by have := h.1; simpa [pl] using this, by omega, by omega⟩, by omega, by omega⟩
theorem FiL.nil {W k : Nat} : FiL W k [] := ⟨rfl, Nat.zero_le _, Nat.zero_le _⟩
theorem FiL.cons {W V k : Nat} {d : D} {l : List D} (h : Fi W k d) (h' : FiL V k l) : FiL (W + 2 + V) k (d :: l) := by
  refine ⟨?_, ?_, ?_⟩
  · show (pl d && plL l) = true
    rw [h.1, h'.1]
    rfl
  · show wt d + 2 + wtL l ≤ _
    have := h.2.1
    have := h'.2.1
    omega
  · show max (dp d) (dpL l) ≤ _
    have := h.2.2
    have := h'.2.2
    omega
theorem FiL.app {W V k : Nat} {l m : List D} (h : FiL W k l) (h' : FiL V k m) : FiL (W + V) k (l ++ m) := by
  refine ⟨by rw [plL_app, h.1, h'.1]; rfl, ?_, ?_⟩
  · rw [wtL_app]
    have := h.2.1
    have := h'.2.1
    omega
  · rw [dpL_app]
    have := h.2.2
    have := h'.2.2
    omega
theorem FiL.sub {W k : Nat} {l m : List D} (h : FiL W k m) (s : List.Sublist l m) : FiL W k l := ⟨plL_sub s h.1, Nat.le_trans (wtL_sub s) h.2.1, Nat.le_trans (dpL_sub s) h.2.2⟩
theorem FiL.take {W k n : Nat} {m : List D} (h : FiL W k m) : FiL W k (m.take n) := h.sub (List.take_sublist _ _)
theorem FiL.drop {W k n : Nat} {m : List D} (h : FiL W k m) : FiL W k (m.drop n) := h.sub (List.drop_sublist _ _)
theorem FiL.rev {W k : Nat} {m : List D} (h : FiL W k m) : FiL W k m.reverse := ⟨plL_rev h.1, by rw [wtL_rev]; exact h.2.1, by rw [dpL_rev]; exact h.2.2⟩
theorem FiL.len {W k : Nat} {m : List D} (h : FiL W k m) : 2 * m.length ≤ W := Nat.le_trans (len_wt m) h.2.1
theorem Fi.mem {W k : Nat} {m : List D} {d : D} (h : FiL W k m) (hd : d ∈ m) : Fi W k d := ⟨(plL_iff m).mp h.1 d hd, Nat.le_trans (mem_wt hd) h.2.1, Nat.le_trans (mem_dp hd) h.2.2⟩
theorem FiL.of_all {W k : Nat} : ∀ {l : List D}, (∀ d ∈ l, Fi W k d) → FiL (l.length * (W + 2)) k l
  | [], _ => FiL.nil
  | d :: l, h => by
    have h1 := FiL.cons (h d (by simp)) (FiL.of_all (l := l) fun e he => h e (by simp [he]))
    refine h1.le ?_ (Nat.le_refl _)
    rw [List.length_cons, Nat.add_mul, Nat.one_mul]
    omega
def fiB (W k : Nat) (d : D) : Bool := pl d && decide (wt d ≤ W) && decide (dp d ≤ k)
theorem Fi.of {W k : Nat} {d : D} (h : fiB W k d = true) : Fi W k d := by
  unfold fiB at h
  rw [Bool.and_eq_true, Bool.and_eq_true, decide_eq_true_eq, decide_eq_true_eq] at h
  exact ⟨h.1.1, h.1.2, h.2⟩
theorem Fi.gd {W k : Nat} {d : D} (h : Fi W k d) (hW : W ≤ 200000) : Gd d := ⟨h.1, Nat.le_trans h.2.1 hW⟩
theorem Fi.blw {W k n : Nat} {d : D} (h : Fi W k d) : d.blw n = true := pl_blw _ _ h.1
theorem wp_compX {mi : MI} {t : Tg} {tt : MT} {me : ME} {vs : List Nat} {ρ : Ro} {st : Sto} {Q : D → Sto → Prop} {k : Nat} (hk : st.length = k)
    (hm : wp (mi ρ st) fun S st1 => ∃ (xs : List D) (I : Nat → List D → Sto → Prop), Static S xs ∧ st1.length = k ∧ I 0 [] (st1 ++ [.lst []]) ∧
      (∀ i x acc st, xs[i]? = some x → I i acc st → st[k]? = some (.lst acc) → ∃ ρ1, gtD t x (wipeR ρ vs) = some ρ1 ∧ wp (tt ρ1 st) fun b st => brk b (wp (me ρ1 st) (fun d st => st[k]? = some (.lst acc) ∧ acc.length < 100000 ∧ d.blw k = true ∧ I (i + 1) (acc ++ [d]) (st.set k (.lst (acc ++ [d]))))) (st[k]? = some (.lst acc) ∧ I (i + 1) acc st)) ∧
      (∀ acc st', I xs.length acc st' → st'[k]? = some (.lst acc) → OldB st st' ∧ Q (.lst acc) (st'.take k))) : wp (mComp false mi t tt me vs ρ st) Q := wp_compB (c := false) hk hm
/-- a list of what is drawn, each of it costing c draws -/
theorem draw_comp {mi : MI} {t : Tg} {me : ME} {vs : List Nat} {ρ : Ro} {st : Sto} {Q : D → Sto → Prop} {i : Nat} {R : Nat → Prop} {P : D → Prop} (b c N : Nat) (hN : N ≤ 1000) (hi : i < st.length) (hP : ∀ d n, P d → d.blw n = true)
    (hm : wp (mi ρ st) fun S st1 => ∃ (lo : Int) (n : Nat), Static S (intL lo n) ∧ n ≤ N ∧ R n ∧ Bx st1 i (b + c * N) ∧ Sm i st st1)
    (hb : ∀ x b' st', Bx st' i (b' + c) → ∃ ρ1, gtD t x (wipeR ρ vs) = some ρ1 ∧ wp (me ρ1 st') fun d st2 => P d ∧ Bx st2 i b' ∧ Sm i st' st2)
    (k : ∀ l st', R l.length → l.length ≤ N → (∀ d ∈ l, P d) → Bx st' i b → Sm i st st' → Q (.lst l) st') : wp (mComp false mi t mYes me vs ρ st) Q := by
  refine wp_compX rfl (wp_imp hm fun S st1 ⟨lo, n, hS, hn, hR, B1, S1⟩ => ⟨intL lo n, fun j acc st' => acc.length = j ∧ (∀ d ∈ acc, P d) ∧ Bx st' i (b + c * (N - j)) ∧ st'.length = st.length + 1 ∧ ∀ q, q < st.length → q ≠ i → st'[q]? = st[q]?, hS, S1.len, ⟨rfl, fun d h => absurd h List.not_mem_nil, B1.app, by simp [S1.len], fun q h1 h2 => ?_⟩, ?_, ?_⟩)
  · rw [List.getElem?_append_left (by rw [S1.len]; exact h1), S1.at_ _ h2]
  · rintro j x acc st' hx ⟨hl, ha, Bj, hlen, hat⟩ hk
    have hj : j < n := by
      have := (List.getElem?_eq_some_iff.mp hx).1
      rwa [show (intL lo n).length = n by simp [intL]] at this
    have e : b + c * (N - j) = (b + c * (N - (j + 1))) + c := by
      have : N - j = (N - (j + 1)) + 1 := by omega
      rw [this, Nat.mul_add, Nat.mul_one]
      omega
    rw [e] at Bj
    obtain ⟨ρ1, e1, h1⟩ := hb x _ st' Bj
    refine ⟨ρ1, e1, ?_⟩
    show wp (me ρ1 st') _
    refine wp_imp h1 fun d st2 ⟨hd, B2, S2⟩ => ?_
    have hk2 : st2[st.length]? = some (.lst acc) := by rw [S2.at_ _ (by omega)]; exact hk
    refine ⟨hk2, by omega, hP d _ hd, by rw [List.length_append, hl]; rfl, fun d' hd' => ?_, B2.of (List.getElem?_set_ne (by omega)), by rw [List.length_set, S2.len, hlen], fun q h1 h2 => ?_⟩
    · rcases List.mem_append.mp hd' with h | h
      · exact ha _ h
      · rw [List.mem_singleton.mp h]; exact hd
    · rw [List.getElem?_set_ne (by omega), S2.at_ _ h2, hat q h1 h2]
  · rintro acc st' ⟨hl, ha, Bj, hlen, hat⟩ hk
    rw [show (intL lo n).length = n by simp [intL]] at hl
    refine ⟨Bj.old (by omega) hat, ?_⟩
    have ht : (st'.take st.length).length = st.length := by rw [List.length_take]; omega
    have hat' : ∀ q, q < st.length → (st'.take st.length)[q]? = st'[q]? := fun q h => List.getElem?_take_of_lt h
    refine k _ _ (by rw [hl]; exact hR) (by omega) ha ((Bj.le (Nat.le_add_right _ _)).of (hat' i hi)) ⟨ht, fun q hq => ?_⟩
    by_cases h : q < st.length
    · rw [hat' q h, hat q h hq]
    · rw [List.getElem?_eq_none (by omega), List.getElem?_eq_none (by omega)]
theorem dic0_ap {ρ : Ro} {st : Sto} : mDic0 false ρ st = .ok (.dic []) st := rfl
end P3
namespace P3
open PySem PySem.Spec PyProof.Rows L2
theorem intL_len {lo : Int} {n : Nat} : (intL lo n).length = n := by simp [intL]
theorem intL_at {n j : Nat} {x : D} (h : (intL 0 n)[j]? = some x) : x = .int (j : Int) ∧ j < n := by
  have hj : j < n := by
    have := (List.getElem?_eq_some_iff.mp h).1
    rwa [intL_len] at this
  refine ⟨?_, hj⟩
  unfold intL at h
  rw [List.getElem?_map, List.getElem?_range hj] at h
  simp only [Option.map_some, Option.some.injEq] at h
  rw [← h, Int.zero_add]
theorem cut2 {l : List D} : cutD l none (some 2) = l.take 2 := cut_to (n := 2)
theorem cut_from1 {l : List D} {n : Nat} : cutD l (some ((n : Int) + 1)) none = l.drop (n + 1) := by
  have := cut_from (l := l) (n := n + 1)
  rw [← this]
  congr 2
theorem bool_tx {k : Bool} {st : Sto} : fRepr [.bl k] st = .ok (.str (tx (.bl k))) st := (tx_ok (d := .bl k) rfl (show 5 ≤ sizeLine by decide) (show 0 ≤ 150 by decide)).1
theorem bool_ps {k : Bool} : plainStr (tx (.bl k)) = true := (tx_ok (d := .bl k) (st := []) rfl (show 5 ≤ sizeLine by decide) (show 0 ≤ 150 by decide)).2
theorem filt_empty {α : Type} {p : α → Bool} : ∀ {l : List α}, (l.filter p).isEmpty = l.all fun x => !p x
  | [] => rfl
  | a :: l => by
    rw [List.filter_cons, List.all_cons, ← filt_empty]
    cases p a <;> rfl
theorem str_in : "str" ∈ ["bool", "int", "str", "list", "tuple", "dict"] := by simp
theorem int_in : "int" ∈ ["bool", "int", "str", "list", "tuple", "dict"] := by simp
theorem bool_in : "bool" ∈ ["bool", "int", "str", "list", "tuple", "dict"] := by simp
theorem tuple_in : "tuple" ∈ ["bool", "int", "str", "list", "tuple", "dict"] := by simp
theorem list_in : "list" ∈ ["bool", "int", "str", "list", "tuple", "dict"] := by simp
theorem not_t {b : Bool} (h : (!b) = true) : b = false := by cases b <;> first | rfl | cases h
theorem not_f {b : Bool} (h : (!b) = false) : b = true := by cases b <;> first | rfl | cases h
theorem at0 {a : D} {l : List D} : L2.atI (a :: l) 0 = some a := by
  have := atI_nat (l := a :: l) (n := 0) (by simp)
  simpa using this
theorem at1 {a b : D} {l : List D} : L2.atI (a :: b :: l) 1 = some b := by
  have := atI_nat (l := a :: b :: l) (n := 1) (by simp)
  simpa using this
theorem at2 {a b c : D} {l : List D} : L2.atI (a :: b :: c :: l) 2 = some c := by
  have := atI_nat (l := a :: b :: c :: l) (n := 2) (by simp)
  simpa using this
theorem one_of3 {a b c : Int} {r : Int} (h0 : 0 ≤ r) (h1 : r < 3) : ∃ m, L2.atI [D.int a, .int b, .int c] r = some (.int m) ∧ (m = a ∨ m = b ∨ m = c) := by
  have : r = 0 ∨ r = 1 ∨ r = 2 := by omega
  rcases this with rfl | rfl | rfl
  · exact ⟨a, rfl, .inl rfl⟩
  · exact ⟨b, rfl, .inr (.inl rfl)⟩
  · exact ⟨c, rfl, .inr (.inr rfl)⟩
end P3

/-! P3Z: more general lemmas: cells, enumerate, try, repr and == of what holds cells. -/
namespace P3
open PySem PySem.Spec PyProof.Rows L2
theorem ws_forX {mi : MI} {t : Tg} {b : MS} {ρ : Ro} {st : Sto} {P : Po} (hm : wp (mi ρ st) fun S st1 => ∃ (xs : List D) (I : Nat → Ro → Sto → Prop), Static S xs ∧ I 0 ρ st1 ∧
      (∀ i x ρ st, xs[i]? = some x → I i ρ st → ∃ ρ1, gtD t x ρ = some ρ1 ∧ ws (b ρ1 st) { nx := fun ρ st => I (i + 1) ρ st, ct := fun ρ st => I (i + 1) ρ st, bk := P.nx, rt := P.rt }) ∧
      (∀ ρ st, I xs.length ρ st → P.nx ρ st)) : ws (sFor mi t b ρ st) P := by
  unfold sFor
  rw [ws_toS]
  exact wp_imp hm fun S st1 ⟨xs, I, hS, h0, hb, hend⟩ => loop_inv hS I hb hend S.fuel 0 ρ st1 (by have := hS.2; omega) (Nat.zero_le _) h0
theorem ws_setIxW {o i e : ME} {ρ : Ro} {st : Sto} {P : Po} (h : wp (e ρ st) fun d st' => wp (o ρ st') fun c st2 => ∃ k, c = .cell k ∧ wp (i ρ st2) fun jj st3 => ∃ j l n, jj = .int j ∧ st3[k]? = some (.lst l) ∧ ixN l.length j = some n ∧ P.nx ρ (st3.set k (.lst (l.set n d)))) : ws (sSetIx o i e ρ st) P := by
  obtain ⟨d, st', e1, h1⟩ := wp_ok_of h
  obtain ⟨c, st2, e2, k, rfl, h2⟩ := wp_ok_of h1
  obtain ⟨jj, st3, e3, j, l, n, rfl, h4, h5, h7⟩ := wp_ok_of h2
  rw [ws_setIx e1 e2 e3 h4 h5]
  exact h7
theorem ixN_in {n : Nat} {j : Int} (h0 : 0 ≤ j) (h1 : j < n) : ixN n j = some j.toNat := by
  unfold L2.ixN
  rw [if_pos (by omega), if_pos (by omega)]
theorem ixN_last {n : Nat} (h : 0 < n) : ixN n (-1) = some (n - 1) := by
  unfold L2.ixN
  rw [if_neg (by omega)]
  have e : (-1 : Int) + n = ((n - 1 : Nat) : Int) := by omega
  first
    | (rw [if_pos (by omega), e]; rfl)
    | (simp only [e]; simp; omega)
theorem atI_last {α : Type} {l : List α} (h : 0 < l.length) : L2.atI l (-1) = some (l[l.length - 1]'(by omega)) := by
  unfold L2.atI
  rw [ixN_last h]
  exact List.getElem?_eq_getElem (by omega)
theorem view_cell {k : Nat} {l : List D} {st : Sto} (h : st[k]? = some (.lst l)) : view (.cell k) st = .lst l := by
  show (match st[k]? with
    | some (.lst ds) => D.lst ds
    | some (.dic kvs) => D.dic kvs
    | _ => .cell k) = _
  rw [h]
theorem view_celld {k : Nat} {l : List (Key × D)} {st : Sto} (h : st[k]? = some (.dic l)) : view (.cell k) st = .dic l := by
  show (match st[k]? with
    | some (.lst ds) => D.lst ds
    | some (.dic kvs) => D.dic kvs
    | _ => .cell k) = _
  rw [h]
theorem sl_cell {k : Nat} {l : List D} {st : Sto} {lo hi : Option Int} (h : st[k]? = some (.lst l)) (hl : (cutD l lo hi).length ≤ 100000) : fSl false (.cell k) lo hi st = .ok (.lst (cutD l lo hi)) st := by
  unfold fSl
  rw [view_cell h]
  exact mk_f hl
theorem add_cell {k : Nat} {l m : List D} {st : Sto} (h : st[k]? = some (.lst l)) (hl : (l ++ m).length ≤ 100000) : fAdd false (.cell k) (.lst m) st = .ok (.lst (l ++ m)) st := by
  unfold fAdd
  rw [view_cell h]
  exact mk_f hl
theorem tupleOf_cell {k : Nat} {l : List D} {st : Sto} (h : st[k]? = some (.lst l)) : fTupleOf [.cell k] st = .ok (.tup l) st := by
  unfold fTupleOf
  simp only [view_cell h]
theorem listOf_t {l : List D} {st : Sto} (h : l.length ≤ 100000) : fListOf true [.lst l] st = .ok (.cell st.length) (st ++ [.lst l]) := mk_t h
theorem len_cell {k : Nat} {l : List D} {st : Sto} (h : st[k]? = some (.lst l)) : fLen [.cell k] st = .ok (.int l.length) st := by
  unfold fLen
  simp only [view_cell h]
theorem app_ok {k : Nat} {l : List D} {d : D} {st : Sto} (h : st[k]? = some (.lst l)) (hl : l.length < 100000) : fAppend (.cell k) [d] st = .ok .non (st.set k (.lst (l ++ [d]))) := by
  unfold fAppend
  simp only [h]
  rw [if_pos hl]
theorem reverse_ok {k : Nat} {l : List D} {st : Sto} (h : st[k]? = some (.lst l)) : fReverse (.cell k) [] st = .ok .non (st.set k (.lst l.reverse)) := by
  unfold fReverse onCell
  simp only [h]
theorem clear_ok {k : Nat} {l : List D} {st : Sto} (h : st[k]? = some (.lst l)) : fClear (.cell k) [] st = .ok .non (st.set k (.lst [])) := by
  unfold fClear onCell
  simp only [h]
theorem tc_cell {k : Nat} {l : List D} {st : Sto} (h : st[k]? = some (.lst l)) : tcD "list" (.cell k) st = true := by
  unfold tcD
  rw [view_cell h]
  rfl
theorem Sm.cutk {i n : Nat} {st st' : Sto} (hn : st.length = n) (hl : n ≤ st'.length) (h : ∀ j, j < n → j ≠ i → st'[j]? = st[j]?) : Sm i st (st'.take n) := by
  have ht : (st'.take n).length = n := by rw [List.length_take]; omega
  refine ⟨by omega, fun j hj => ?_⟩
  by_cases q : j < n
  · rw [List.getElem?_take_of_lt q, h j q hj]
  · rw [List.getElem?_eq_none (by omega), List.getElem?_eq_none (by omega)]
/-! ### a def's end -/
theorem fin_froz {d d' : D} {st0 st : Sto} (ho : OldB st0 st) (h : d.sub st0.length (frzF st st0.length 8) = some d') : fin true st0 d st = .ok d' (st.take st0.length) := by
  unfold fin
  rw [if_pos ho]
  by_cases hb : d.blw st0.length = true
  · rw [if_pos hb]
    rw [sub_blw hb] at h
    cases h
    rfl
  · rw [if_neg hb, if_pos rfl, h]
theorem fin_cell {k : Nat} {l : List D} {st0 st : Sto} {Q : D → Sto → Prop} (ho : OldB st0 st) (h : st[k]? = some (.lst l)) (hn : st0.length ≤ k) (hb : blwL st0.length l = true) : wp (fin true st0 (.cell k) st) Q = Q (.lst l) (st.take st0.length) := by
  rw [fin_frozK ho h hn hb]
  rfl
/-- a new list that is told -/
theorem fin_new {l : List D} {st : Sto} (hb : blwL st.length l = true) : fin false st (.cell st.length) (st ++ [.lst l]) = .ok (.cell st.length) (st ++ [.lst l]) := by
  rw [fin_movK (.app _ _) (by rw [List.getElem?_append_right (Nat.le_refl _), Nat.sub_self]; rfl) (Nat.le_refl _) hb, List.take_left]
theorem subL_nil {n : Nat} {f : Nat → Option D} : subL n f [] = some [] := rfl
theorem subL_cons {n : Nat} {f : Nat → Option D} {d d' : D} {l l' : List D} (h : d.sub n f = some d') (h' : subL n f l = some l') : subL n f (d :: l) = some (d' :: l') := by
  show (match d.sub n f, subL n f l with
    | some d', some ds' => some (d' :: ds')
    | _, _ => none) = _
  rw [h, h']
theorem sub_lst {n : Nat} {f : Nat → Option D} {l l' : List D} (h : subL n f l = some l') : (D.lst l).sub n f = some (.lst l') := by
  show (subL n f l).map D.lst = _
  rw [h]
  rfl
theorem sub_tup {n : Nat} {f : Nat → Option D} {l l' : List D} (h : subL n f l = some l') : (D.tup l).sub n f = some (.tup l') := by
  show (subL n f l).map D.tup = _
  rw [h]
  rfl
/-! ### exceptions -/
theorem finX_ok {c x : Str} {st0 st : Sto} {d d' : D} (ho : OldB st0 st) (h : d.sub st0.length (frzF st st0.length 8) = some d') : finX c x st0 d st = .exc c x d' (st.take st0.length) := by
  unfold finX
  rw [if_pos ho, h]
theorem finX_0 {c x : Str} {st : Sto} {d : D} (hb : d.blw st.length = true) : finX c x st d st = .exc c x d st := by
  rw [finX_ok (.refl st) (sub_blw hb), List.take_length]
theorem call_exc {fz : Bool} {n : Nat} {m : MS} {ds : List D} {st : Sto} {c x : Str} {d : D} {ρ : Ro} (h : m (ds.map some ++ List.replicate (n - ds.length) none) st = .exc c x d ρ st) (hb : d.blw st.length = true) : callF fz n m ds st = .exc c x d st := by
  unfold callF
  rw [h]
  exact finX_0 hb
theorem seq_exc {a b : MS} {ρ ρ' : Ro} {st st' : Sto} {c x : Str} {d : D} (h : a ρ st = .exc c x d ρ' st') : sSeq a b ρ st = .exc c x d ρ' st' := by
  unfold sSeq
  rw [h]
theorem seq_nx {a b : MS} {ρ ρ' : Ro} {st st' : Sto} (h : a ρ st = .nx ρ' st') : sSeq a b ρ st = b ρ' st' := by
  unfold sSeq
  rw [h]
theorem raise_ap {x n : Str} {m : ME} {ρ : Ro} {st st' : Sto} {d : D} (h : m ρ st = .ok d st') : sRaise x n m ρ st = .exc x n d ρ st' := by
  unfold sRaise
  rw [h]
  rfl
theorem ws_try {em : ExT} {b : MS} {hs : List PHd} {ρ : Ro} {st : Sto} {P : Po} (h : ws (b ρ st) P) : ws (sTry em b hs ρ st) P := by
  unfold sTry
  cases hr : b ρ st with
  | exc c n d ρ' st' => rw [hr] at h; exact h.elim
  | _ => rw [hr] at h; exact h
theorem ws_tryX {em : ExT} {b : MS} {hs : List PHd} {ρ ρ' : Ro} {st st' : Sto} {P : Po} {c n : Str} {d : D} (e : b ρ st = .exc c n d ρ' st') (h : ws (pickH em c n d hs ρ' st') P) : ws (sTry em b hs ρ st) P := by
  unfold sTry
  rw [e]
  exact h
/-! ### enumerate -/
def enD (xs : List D) : List D := xs.mapIdx fun i x => .tup [.int (i : Nat), x]
theorem enD_at {xs : List D} {i : Nat} {x : D} (h : (enD xs)[i]? = some x) : ∃ y, xs[i]? = some y ∧ x = .tup [.int (i : Nat), y] := by
  unfold enD at h
  rw [List.getElem?_mapIdx] at h
  cases e : xs[i]? with
  | none => rw [e] at h; cases h
  | some y => rw [e] at h; exact ⟨y, rfl, (Option.some.inj h).symm⟩
theorem enD_len {xs : List D} : (enD xs).length = xs.length := by simp [enD]
theorem static_En {S : Src} {xs : List D} (h : Static S xs) : Static (srcEn S) (enD xs) := ⟨fun i st => by
  show (S.nxt i st).map (·.map fun x => D.tup [.int (i : Nat), x]) = some (enD xs)[i]?
  rw [h.1]
  unfold enD
  rw [List.getElem?_mapIdx]
  rfl, by rw [enD_len]; exact h.2⟩
theorem ap_iEnum {m : ME} {ρ : Ro} {st : Sto} : iEnumD m ρ st = (m ρ st).bind fun d st => (srcOf d st).bind fun S st => .ok (srcEn S) st := rfl
/-! ### repr -/
/-- its text -/
def Rp (d : D) (st : Sto) : Prop := ∃ t, fRepr [d] st = .ok (.str t) st ∧ plainStr t = true
theorem Fi.rp {W k : Nat} {d : D} {st : Sto} (h : Fi W k d) (hW : W ≤ sizeLine) (hk : k ≤ 150) : Rp d st := ⟨tx d, (tx_ok h.1 (Nat.le_trans h.2.1 hW) (Nat.le_trans h.2.2 hk)).1, (tx_ok (st := st) h.1 (Nat.le_trans h.2.1 hW) (Nat.le_trans h.2.2 hk)).2⟩
/-- a cell's text is its thing's -/
theorem cf_cell {k : Nat} {l : List D} {st : Sto} {n : Nat} (h : st[k]? = some (.lst l)) (hp : plL l = true) : cfN st (n + 1) k = shD (fun _ => none) (.lst l) := by
  unfold cfN
  rw [h]
  show (shL (cfN st n) l).bind lstT = (shL (fun _ => none) l).bind lstT
  rw [shL_cf _ (fun _ => none) l hp]
theorem repr_cell {k : Nat} {l : List D} {st : Sto} (h : st[k]? = some (.lst l)) (hp : plL l = true) : fRepr [.cell k] st = fRepr [.lst l] st := by
  have e : shown (.cell k) st = shown (.lst l) st := by
    show cfN st (st.length + 1) k = shD (cfN st (st.length + 1)) (.lst l)
    rw [cf_cell h hp]
    exact shD_cf _ _ (.lst l) (by simpa [pl] using hp)
  unfold fRepr
  simp only [e]
theorem Rp.cell {k : Nat} {l : List D} {st : Sto} {W n : Nat} (h : st[k]? = some (.lst l)) (hf : FiL W n l) (hW : W + 2 ≤ sizeLine) (hk : n + 1 ≤ 150) : Rp (.cell k) st := by
  obtain ⟨t, e, p⟩ := (Fi.lst hf).rp (st := st) hW hk
  exact ⟨t, by rw [repr_cell h hf.1]; exact e, p⟩
theorem shL_two {c1 c2 : Nat → Option Sh} : ∀ {l m : List D}, l.length = m.length → (∀ (i : Nat) (d e : D), l[i]? = some d → m[i]? = some e → shD c1 d = shD c2 e) → shL c1 l = shL c2 m
  | [], [], _, _ => rfl
  | d :: l, e :: m, hl, h => by
    have h0 := h 0 d e rfl rfl
    have ht := shL_two (l := l) (m := m) (by simpa using hl) fun i a b h1 h2 => h (i + 1) a b (by simpa using h1) (by simpa using h2)
    unfold shL
    rw [h0, ht]
/-! ### == and != -/
theorem SiL.blw {W k n : Nat} {l : List D} (h : SiL W k l) : blwL n l = true := plL_blw l n (smL_pl l h.1)
theorem mk_f0 {st : Sto} : mk false [] st = .ok (.lst []) st := rfl
theorem tup_f0 {st : Sto} : fTup [] st = .ok (.tup []) st := rfl
theorem sm_nocell : ∀ d : D, sm d = true → d.blw 0 = true := fun d h => pl_blw d 0 (sm_pl d h)
theorem eqD_self {x : D} (h : sm x = true) : eqD x x = true := by
  obtain ⟨p, e, c, _⟩ := sm_py x h
  unfold eqD
  rw [e]
  exact SeqAt.eqv_refl p c
theorem pyR_of {x x' : D} {st : Sto} (h : x.sub 0 (frzF st 0 8) = some x') : pyR x st = pyD x' := by
  unfold pyR
  rw [h]
  rfl
theorem shaped_sm {x : D} (hx : sm x = true) (dx : dp x ≤ 64) : ∃ p, pyD x = some p ∧ SeqAt.shaped p = true := by
  obtain ⟨p, e1, h1, h2⟩ := sm_py x hx
  exact ⟨p, e1, by simp only [SeqAt.shaped, h1, Bool.true_and, decide_eq_true_eq]; omega⟩
/-- what holds cells is told to be unlike as what the cells hold -/
theorem neR_sm {x x' y y' : D} {st : Sto} (hx : x.sub 0 (frzF st 0 8) = some x') (hy : y.sub 0 (frzF st 0 8) = some y') (sx : sm x' = true) (sy : sm y' = true) (dx : dp x' ≤ 64) (dy : dp y' ≤ 64) : fNeR x y st = .ok (.bl (!eqD x' y')) st := by
  obtain ⟨p, e1, s1⟩ := shaped_sm sx dx
  obtain ⟨q, e2, s2⟩ := shaped_sm sy dy
  unfold fNeR eqD
  rw [pyR_of hx, pyR_of hy, e1, e2]
  exact if_pos ⟨s1, s2⟩
theorem ne_R {x y : D} {st : Sto} (h : pyD (view x st) = none) : fNe x y st = fNeR x y st := by
  unfold fNe
  rw [h]
theorem eq_sm {x y : D} {st : Sto} (hx : sm x = true) (hy : sm y = true) (dx : dp x ≤ 64) (dy : dp y ≤ 64) : fEqX x y st = .ok (.bl (eqD x y)) st := by
  obtain ⟨p, e1, s1⟩ := shaped_sm hx dx
  obtain ⟨q, e2, s2⟩ := shaped_sm hy dy
  have e0 : fEqX x y st = (match eqLen x y with
    | some b => .ok (.bl b) st
    | none => .ok (.bl (eqD x y)) st) := by
    unfold fEqX eqD
    rw [pl_view (sm_pl x hx), pl_view (sm_pl y hy), e1, e2]
    cases eqLen x y with
    | some b => rfl
    | none => exact if_pos ⟨s1, s2⟩
  rw [e0]
  cases hl : eqLen x y with
  | none => rfl
  | some b =>
    have : eqD x y = b := by
      have py : ∀ {l : List D} {ps : List PyData}, pyL l = some ps → ps.length = l.length := fun {l} => by
        induction l with
        | nil => intro ps h; cases h; rfl
        | cons d l ih =>
          intro ps h
          unfold pyL at h
          split at h
          · rename_i x xs h1 h2
            cases h
            rw [List.length_cons, List.length_cons, ih h2]
          · cases h
      have neq : ∀ {ps qs : List PyData}, ps.length ≠ qs.length → PyData.eqvAll ps qs = false := fun {ps} => by
        induction ps with
        | nil => intro qs h; cases qs with
          | nil => exact absurd rfl h
          | cons a q => simp [PyData.eqvAll]
        | cons a p ih => intro qs h; cases qs with
          | nil => simp [PyData.eqvAll]
          | cons b q => simp [PyData.eqvAll, ih (qs := q) (by simpa using h)]
      unfold eqLen at hl
      split at hl
      · rename_i a b'
        split at hl
        · cases hl
        · rename_i hne
          cases hl
          obtain ⟨ps, h1, _⟩ := smL_py a (by simpa [sm] using hx)
          obtain ⟨qs, h2, _⟩ := smL_py b' (by simpa [sm] using hy)
          have p1 : pyD (.lst a) = some (.list ps) := by unfold pyD; rw [h1]
          have p2 : pyD (.lst b') = some (.list qs) := by unfold pyD; rw [h2]
          unfold eqD
          rw [p1, p2]
          have := neq (ps := ps) (qs := qs) (by rw [py h1, py h2]; exact hne)
          simp only [PyData.eqv, this]
      · rename_i d2 l2
        cases hl
        obtain ⟨qs, h2, _⟩ := smL_py (d2 :: l2) (by simpa [sm] using hy)
        have p1 : pyD (.tup []) = some (.tuple []) := rfl
        have p2 : pyD (.tup (d2 :: l2)) = some (.tuple qs) := by unfold pyD; rw [h2]
        unfold eqD
        rw [p1, p2]
        have := neq (ps := []) (qs := qs) (by rw [py h2]; simp)
        simp only [PyData.eqv, this]
      · rename_i d2 l2
        cases hl
        obtain ⟨qs, h2, _⟩ := smL_py (d2 :: l2) (by simpa [sm] using hx)
        have p1 : pyD (.tup []) = some (.tuple []) := rfl
        have p2 : pyD (.tup (d2 :: l2)) = some (.tuple qs) := by unfold pyD; rw [h2]
        unfold eqD
        rw [p1, p2]
        have := neq (ps := qs) (qs := []) (by rw [py h2]; simp)
        simp only [PyData.eqv, this]
      · cases hl
    rw [this]
end P3

/-! P6A: texts as lists of code points; dicts by keys. -/
namespace P3
open PySem PySem.Spec PyProof.Rows L2
/-- a text of these code points -/
abbrev sD (l : List Nat) : D := .str ⟨l.toArray⟩
section
variable {st : Sto} {l m : List Nat} {ρ : Ro}
theorem len_sD (h : l.length ≤ 100000) : fLen [sD l] st = .ok (.int l.length) st := len_str (z := ⟨l.toArray⟩) h
theorem ix_sD {i : Nat} (h : l.length ≤ 100000) (hi : i < l.length) : fIx (sD l) (.int (i : Int)) st = .ok (sD [l[i]]) st := by
  rw [ix_strz (z := ⟨l.toArray⟩) h]
  show optR ((L2.atI l (i : Int)).map fun c => D.str ⟨#[c]⟩) st = _
  rw [atI_nat hi]
  rfl
theorem sl_to {k : Bool} {i : Nat} (h : l.length ≤ 100000) : fSl k (sD l) none (some (i : Int)) st = .ok (sD (l.take i)) st := by
  rw [sl_str (z := ⟨l.toArray⟩) h]
  have := SX.slice_to (a := l) (i := (i : Int)) (by omega)
  rw [Int.toNat_natCast] at this
  rw [this]
theorem sl_from {k : Bool} {i : Nat} (h : l.length ≤ 100000) : fSl k (sD l) (some (i : Int)) none st = .ok (sD (l.drop i)) st := by
  rw [sl_str (z := ⟨l.toArray⟩) h]
  have := SX.slice_from (a := l) (i := (i : Int)) (by omega)
  rw [Int.toNat_natCast] at this
  rw [this]
theorem add_sD {k : Bool} (h : l.length + m.length ≤ 100000) : fAdd k (sD l) (sD m) st = .ok (sD (l ++ m)) st := by
  rw [add_str (x := ⟨l.toArray⟩) (y := ⟨m.toArray⟩) h]
  congr 2
  show (⟨l.toArray ++ m.toArray⟩ : Str) = _
  simp
theorem sD_inj : sD l = sD m ↔ l = m := by
  constructor
  · intro h
    injection h with h
    injection h with h
    exact congrArg Array.toList h
  · intro h; rw [h]
theorem rev_sD {k : Bool} (h : l.length ≤ 100000) : fRev k (sD l) st = .ok (sD l.reverse) st := if_pos h
/-- letters alone -/
def asL (l : List Nat) : Prop := ∀ c ∈ l, c < 128
theorem sm_sD (h : asL l) : sm (sD l) = true := by
  show (l.toArray.toList.all fun c => decide (c < 128)) = true
  rw [List.all_eq_true]
  intro c hc
  exact decide_eq_true (h c (by simpa using hc))
theorem eqD_sD : eqD (sD l) (sD m) = decide (l = m) := by
  show PyData.eqv (.str ⟨l.toArray⟩) (.str ⟨m.toArray⟩) = _
  have := eqS_beq ⟨l.toArray⟩ ⟨m.toArray⟩
  unfold eqS at this
  rw [this]
  by_cases h : l = m
  · subst h
    rw [decide_eq_true rfl]
    exact BEq.rfl
  · rw [decide_eq_false h]
    cases q : ((⟨l.toArray⟩ : Str) == ⟨m.toArray⟩) with
    | false => rfl
    | true =>
      have := eq_of_beq q
      injection this with this
      exact absurd (congrArg Array.toList this) h
theorem eq_sD (hl : asL l) (hm : asL m) : fEqX (sD l) (sD m) st = .ok (.bl (decide (l = m))) st := by
  rw [eq_sm (sm_sD hl) (sm_sD hm) (by show (0 : Nat) ≤ 64; omega) (by show (0 : Nat) ≤ 64; omega), eqD_sD]
theorem ne_sD (hl : asL l) (hm : asL m) : fNe (sD l) (sD m) st = .ok (.bl (!decide (l = m))) st := by
  rw [ne_sm (sm_sD hl) (sm_sD hm) (by show (0 : Nat) ≤ 64; omega) (by show (0 : Nat) ≤ 64; omega), eqD_sD]
theorem asL.take {n : Nat} (h : asL l) : asL (l.take n) := fun c hc => h c (List.mem_of_mem_take hc)
theorem asL.drop {n : Nat} (h : asL l) : asL (l.drop n) := fun c hc => h c (List.mem_of_mem_drop hc)
theorem asL.app (h : asL l) (k : asL m) : asL (l ++ m) := fun c hc => by
  rcases List.mem_append.mp hc with hc | hc
  · exact h c hc
  · exact k c hc
end
/-! ### dicts by keys -/
abbrev kS (l : List Nat) : Key := .inr ⟨l.toArray⟩
theorem kS_inj {l m : List Nat} : kS l = kS m ↔ l = m := by
  constructor
  · intro h
    injection h with h
    injection h with h
    exact congrArg Array.toList h
  · intro h; rw [h]
theorem putK2_mem {kvs : List (Key × D)} {k x : Key} {d : D} : x ∈ (putK2 kvs k d).map (·.1) ↔ x = k ∨ x ∈ kvs.map (·.1) := by
  unfold putK2
  split
  · rename_i h
    have e : (kvs.map fun kv => if kv.1 = k then (kv.1, d) else kv).map (·.1) = kvs.map (·.1) := by
      rw [List.map_map]
      apply List.map_congr_left
      intro kv _
      show (if kv.1 = k then (kv.1, d) else kv).1 = kv.1
      split <;> rfl
    rw [e]
    rw [List.any_eq_true] at h
    obtain ⟨kv, h1, h2⟩ := h
    have hk := of_decide_eq_true h2
    constructor
    · exact .inr
    · rintro (rfl | h)
      · exact List.mem_map.mpr ⟨kv, h1, hk⟩
      · exact h
  · rw [List.map_append, List.mem_append]
    constructor
    · rintro (h | h)
      · exact .inr h
      · exact .inl (by simpa using h)
    · rintro (h | h)
      · exact .inr (by simp [h])
      · exact .inl h
theorem putK2_len {kvs : List (Key × D)} {k : Key} {d : D} : (putK2 kvs k d).length ≤ kvs.length + 1 := by
  unfold putK2
  split
  · simp
  · simp
theorem putK2_all {P : D → Prop} {kvs : List (Key × D)} {k : Key} {d : D} (hd : P d) (h : ∀ kv ∈ kvs, P kv.2) : ∀ kv ∈ putK2 kvs k d, P kv.2 := by
  unfold putK2
  split
  · intro kv hk
    obtain ⟨q, h1, rfl⟩ := List.mem_map.mp hk
    split
    · exact hd
    · exact h q h1
  · intro kv hk
    rcases List.mem_append.mp hk with hk | hk
    · exact h kv hk
    · have : kv = (k, d) := by simpa using hk
      rw [this]; exact hd
theorem valD_isSome {kvs : List (Key × D)} {k : Key} : (valD kvs k).isSome = true ↔ k ∈ kvs.map (·.1) := by
  unfold valD
  rw [Option.isSome_map, List.find?_isSome]
  constructor
  · rintro ⟨kv, h1, h2⟩
    exact List.mem_map.mpr ⟨kv, h1, of_decide_eq_true h2⟩
  · intro h
    obtain ⟨kv, h1, h2⟩ := List.mem_map.mp h
    exact ⟨kv, h1, decide_eq_true h2⟩
theorem valD_putK2 {kvs : List (Key × D)} {k x : Key} {d : D} : valD (putK2 kvs k d) x = if x = k then some d else valD kvs x := by
  unfold putK2
  split
  · rename_i h
    rw [List.any_eq_true] at h
    induction kvs with
    | nil => obtain ⟨kv, h1, _⟩ := h; cases h1
    | cons kv kvs ih =>
      rw [List.map_cons]
      by_cases hk : kv.1 = k
      · simp only [hk, if_true]
        by_cases hx : x = k
        · subst hx
          rw [if_pos rfl]
          simp [valD, List.find?_cons]
        · rw [if_neg hx]
          have h1 : valD ((k, d) :: kvs.map fun kv => if kv.1 = k then (kv.1, d) else kv) x = valD (kvs.map fun kv => if kv.1 = k then (kv.1, d) else kv) x := by
            simp [valD, List.find?_cons, Ne.symm hx]
          have h2 : valD (kv :: kvs) x = valD kvs x := by
            have : ¬ kv.1 = x := fun z => hx (z.symm.trans hk)
            simp [valD, List.find?_cons, this]
          rw [h1, h2]
          by_cases hany : ∃ y, y ∈ kvs ∧ decide (y.1 = k) = true
          · rw [ih hany, if_neg hx]
          · have e : (kvs.map fun kv => if kv.1 = k then (kv.1, d) else kv) = kvs := by
              conv => rhs; rw [← List.map_id kvs]
              apply List.map_congr_left
              intro y hy
              have : ¬ y.1 = k := fun z => hany ⟨y, hy, decide_eq_true z⟩
              show (if y.1 = k then _ else _) = _
              rw [if_neg this]; rfl
            rw [e]
      · simp only [hk, if_false]
        have hany : ∃ y, y ∈ kvs ∧ decide (y.1 = k) = true := by
          obtain ⟨y, h1, h2⟩ := h
          rcases List.mem_cons.mp h1 with rfl | h1
          · exact absurd (of_decide_eq_true h2) hk
          · exact ⟨y, h1, h2⟩
        by_cases hx : kv.1 = x
        · have : ¬ x = k := fun z => hk (hx.trans z)
          simp [valD, List.find?_cons, hx, this]
        · have h1 : valD (kv :: kvs.map fun kv => if kv.1 = k then (kv.1, d) else kv) x = valD (kvs.map fun kv => if kv.1 = k then (kv.1, d) else kv) x := by
            simp [valD, List.find?_cons, hx]
          have h2 : valD (kv :: kvs) x = valD kvs x := by simp [valD, List.find?_cons, hx]
          rw [h1, h2, ih hany]
  · rename_i h
    by_cases hx : x = k
    · subst hx
      rw [if_pos rfl]
      have : kvs.find? (fun kv => decide (kv.1 = x)) = none := by
        rw [List.find?_eq_none]
        intro y hy z
        exact h (List.any_eq_true.mpr ⟨y, hy, z⟩)
      simp [valD, List.find?_append, this]
    · rw [if_neg hx]
      simp [valD, List.find?_append, Ne.symm hx]
/-- d[k] = e, d a dict that may change -/
theorem ws_setDk {o i e : ME} {ρ : Ro} {st : Sto} {P : Po} (h : wp (e ρ st) fun d st' => wp (o ρ st') fun c st2 => ∃ j, c = .cell j ∧ wp (i ρ st2) fun ki st3 => ∃ kvs kk, keyD ki = some kk ∧ st3[j]? = some (.dic kvs) ∧ kvs.length ≤ 100000 ∧ P.nx ρ (st3.set j (.dic (putK2 kvs kk d)))) : ws (sSetIx o i e ρ st) P := by
  unfold sSetIx
  obtain ⟨d, st', e1, h⟩ := wp_ok_of h
  rw [e1]
  simp only [toS_ok]
  obtain ⟨c, st2, e2, j, rfl, h⟩ := wp_ok_of h
  rw [e2]
  simp only [toS_ok]
  obtain ⟨ki, st3, e3, kvs, kk, hk, hs, hl, h⟩ := wp_ok_of h
  rw [e3]
  simp only [toS_ok]
  cases ki with
  | int n =>
    cases hk
    simp only
    rw [hs]
    simp only
    rw [if_pos hl]
    exact h
  | str z =>
    cases hk
    simp only
    rw [hs]
    simp only
    rw [if_pos hl]
    exact h
  | _ => cases hk
theorem keyD_sD {l : List Nat} : keyD (sD l) = some (kS l) := rfl
theorem in_dic {x : D} {k : Key} {kvs : List (Key × D)} {st : Sto} (h : keyD x = some k) : fIn x (.dic kvs) st = .ok (.bl (valD kvs k).isSome) st := by
  have : isIn x (.dic kvs) st = some (valD kvs k).isSome := by
    show (keyD x).map (fun k => (valD kvs k).isSome) = _
    rw [h]; rfl
  unfold fIn
  rw [this]
theorem ap_mDMeth {f : D → List D → Sto → Res D} {o : ME} {as : MEs} {ρ : Ro} {st : Sto} : mDMeth f o as ρ st = (o ρ st).bind fun d st => if isDi d st then (as ρ st).bind fun ds st => f d ds st else .stuck := rfl
theorem isDi_cell {k : Nat} {kvs : List (Key × D)} {st : Sto} (h : st[k]? = some (.dic kvs)) : isDi (.cell k) st = true := by
  unfold isDi
  rw [view_celld h]
theorem get_cell {k : Nat} {kvs : List (Key × D)} {st : Sto} {x e : D} {kk : Key} (h : st[k]? = some (.dic kvs)) (hx : keyD x = some kk) : fGet (.cell k) [x, e] st = .ok ((valD kvs kk).getD e) st := by
  unfold fGet
  rw [view_celld h]
  simp only
  rw [hx]
/-! ### comprehensions over dicts -/
theorem static_I {kind : Nat} {kvs : List (Key × D)} : Static (srcI kind kvs) (kvs.map (turnD kind)) := ⟨fun i st => by
  show some (kvs[i]?.map (turnD kind)) = some (kvs.map (turnD kind))[i]?
  rw [List.getElem?_map], by rw [List.length_map]; exact Nat.lt_succ_self _⟩
theorem compI_pure {kind : Nat} {loc : LocM} {t : Tg} {tt : MT} {me : ME} {vs : List Nat} {ρ : Ro} {st : Sto} {kvs : List (Key × D)} (hloc : loc ρ st = some (.dic kvs)) (p : D → Bool) (g : D → D) (hl : kvs.length ≤ 100000)
    (hb : ∀ x ∈ kvs.map (turnD kind), ∃ ρ1, gtD t x (wipeR ρ vs) = some ρ1 ∧ ∀ st : Sto, tt ρ1 st = .ok (p x) st ∧ (p x = true → me ρ1 st = .ok (g x) st ∧ ∀ n, (g x).blw n = true)) : mCompD kind loc false t tt me vs ρ st = .ok (.lst (((kvs.map (turnD kind)).filter p).map g)) st := by
  have h := comp_pure (mi := fun _ st => .ok (srcI kind kvs) st) (st := st) (ρ := ρ) (kvs.map (turnD kind)) p g (show wp (Res.ok (srcI kind kvs) st) _ from ⟨static_I, rfl⟩) (by rw [List.length_map]; exact hl) hb
  unfold mCompD
  rw [hloc]
  exact h
theorem compC_pure {kind : Nat} {loc : LocM} {t : Tg} {tt : MT} {me : ME} {vs : List Nat} {ρ : Ro} {st : Sto} {kvs : List (Key × D)} {j : Nat} (hloc : loc ρ st = some (.cell j)) (hj : st[j]? = some (.dic kvs)) (p : D → Bool) (g : D → D) (hl : kvs.length ≤ 100000)
    (hb : ∀ x ∈ kvs.map (turnD kind), ∃ ρ1, gtD t x (wipeR ρ vs) = some ρ1 ∧ ∀ st : Sto, tt ρ1 st = .ok (p x) st ∧ (p x = true → me ρ1 st = .ok (g x) st ∧ ∀ n, (g x).blw n = true)) : mCompD kind loc false t tt me vs ρ st = .ok (.lst (((kvs.map (turnD kind)).filter p).map g)) st := by
  have hjl : j < st.length := (List.getElem?_eq_some_iff.mp hj).1
  unfold mCompD
  rw [hloc]
  simp only [hj]
  generalize hs1 : st.set j (.lck kvs) = st1
  have h1 : st1[j]? = some (.lck kvs) := by rw [← hs1, List.getElem?_set_self hjl]
  have hlen : st1.length = st.length := by rw [← hs1, List.length_set]
  -- the loop
  have loop : ∀ (f i : Nat), kvs.length < i + f → i ≤ kvs.length → cLoop (srcC kind j (kvs.length + 1)) t tt me st1.length f i (wipeR ρ vs) (st1 ++ [.lst ((((kvs.map (turnD kind)).take i).filter p).map g)]) = .ok () (st1 ++ [.lst (((kvs.map (turnD kind)).filter p).map g)]) := by
    intro f
    induction f with
    | zero => intro i h1 h2; omega
    | succ f ih =>
      intro i hf hi
      unfold cLoop
      have hj2 : (st1 ++ [Cl.lst ((((kvs.map (turnD kind)).take i).filter p).map g)])[j]? = some (.lck kvs) := by rw [List.getElem?_append_left (by omega)]; exact h1
      have hn : (srcC kind j (kvs.length + 1)).nxt i (st1 ++ [Cl.lst ((((kvs.map (turnD kind)).take i).filter p).map g)]) = some ((kvs.map (turnD kind))[i]?) := by
        show (match (st1 ++ [Cl.lst ((((kvs.map (turnD kind)).take i).filter p).map g)])[j]? with
          | some (.lck kvs) => some (kvs[i]?.map (turnD kind))
          | _ => none) = _
        rw [hj2]
        show some (kvs[i]?.map (turnD kind)) = _
        rw [List.getElem?_map]
      rw [hn]
      by_cases hlt : i < kvs.length
      · have hx : (kvs.map (turnD kind))[i]? = some (turnD kind kvs[i]) := by rw [List.getElem?_map, List.getElem?_eq_getElem hlt]; rfl
        rw [hx]
        obtain ⟨ρ1, e1, e2⟩ := hb (turnD kind kvs[i]) (List.mem_of_getElem? hx)
        obtain ⟨e3, e4⟩ := e2 (st1 ++ [Cl.lst ((((kvs.map (turnD kind)).take i).filter p).map g)])
        have htake : (kvs.map (turnD kind)).take (i + 1) = (kvs.map (turnD kind)).take i ++ [turnD kind kvs[i]] := by rw [List.take_add_one, hx]; rfl
        dsimp only
        rw [e1]
        dsimp only
        rw [e3]
        simp only [calm_ok, Res.bind_ok]
        cases hp : p (turnD kind kvs[i]) with
        | true =>
          obtain ⟨e5, _⟩ := e4 hp
          simp only [if_true]
          rw [e5]
          simp only [calm_ok, Res.bind_ok]
          have hk : (st1 ++ [Cl.lst ((((kvs.map (turnD kind)).take i).filter p).map g)])[st1.length]? = some (.lst ((((kvs.map (turnD kind)).take i).filter p).map g)) := by simp
          rw [hk]
          dsimp only
          rw [if_pos (by
            rw [List.length_map]
            have := List.length_filter_le p ((kvs.map (turnD kind)).take i)
            rw [List.length_take, List.length_map] at this
            omega)]
          have es : (st1 ++ [Cl.lst ((((kvs.map (turnD kind)).take i).filter p).map g)]).set st1.length (.lst ((((kvs.map (turnD kind)).take i).filter p).map g ++ [g (turnD kind kvs[i])])) = st1 ++ [Cl.lst ((((kvs.map (turnD kind)).take (i + 1)).filter p).map g)] := by
            rw [htake, List.filter_append, List.map_append]
            simp [hp]
          rw [es]
          exact ih (i + 1) (by omega) hlt
        | false =>
          simp only [Bool.false_eq_true, if_false]
          have es : (((kvs.map (turnD kind)).take i).filter p).map g = (((kvs.map (turnD kind)).take (i + 1)).filter p).map g := by
            rw [htake, List.filter_append, List.map_append]
            simp [hp]
          rw [es]
          exact ih (i + 1) (by omega) hlt
      · have hx : (kvs.map (turnD kind))[i]? = none := List.getElem?_eq_none (by rw [List.length_map]; omega)
        rw [hx]
        have : (kvs.map (turnD kind)).take i = kvs.map (turnD kind) := List.take_of_length_le (by rw [List.length_map]; omega)
        rw [this]
  have h0 := loop (srcC kind j (kvs.length + 1)).fuel 0 (by show kvs.length < 0 + (kvs.length + 1); omega) (Nat.zero_le _)
  rw [show (((kvs.map (turnD kind)).take 0).filter p).map g = [] from rfl] at h0
  rw [h0]
  simp only [Res.bind_ok, Bool.not_false]
  have hbl : blwL st1.length (((kvs.map (turnD kind)).filter p).map g) = true := by
    rw [blwL_iff]
    intro d hd
    obtain ⟨x, hx, rfl⟩ := List.mem_map.mp hd
    obtain ⟨hx1, hx2⟩ := List.mem_filter.mp hx
    obtain ⟨ρ1, _, e2⟩ := hb x hx1
    exact ((e2 []).2 hx2).2 _
  rw [fin_frozK (l := ((kvs.map (turnD kind)).filter p).map g) (.app _ _) (by simp) (Nat.le_refl _) hbl, List.take_left]
  simp only [Res.bind_ok]
  unfold unlk
  rw [h1]
  simp only
  congr 1
  rw [← hs1]
  apply List.ext_getElem?
  intro i
  by_cases hi : j = i
  · subst hi
    rw [List.getElem?_set_self (by rw [List.length_set]; exact hjl), hj]
  · rw [List.getElem?_set_ne hi, List.getElem?_set_ne hi]
end P3

/-! NM1: steps of single letters, and their fewest, by alignments (words turned round). -/
namespace P3.Near
/-- an alignment of n steps -/
inductive Al : Nat → List Nat → List Nat → Prop
  | nil : Al 0 [] []
  | keep {n : Nat} {p q : List Nat} (x : Nat) : Al n p q → Al n (x :: p) (x :: q)
  | sub {n : Nat} {p q : List Nat} (x y : Nat) : Al n p q → Al (n + 1) (x :: p) (y :: q)
  | ins {n : Nat} {p q : List Nat} (y : Nat) : Al n p q → Al (n + 1) p (y :: q)
  | del {n : Nat} {p q : List Nat} (x : Nat) : Al n p q → Al (n + 1) (x :: p) q
  | tr {n : Nat} {p q : List Nat} (x y : Nat) (u v : List Nat) : Al n p q → Al (n + u.length + 1 + v.length) (x :: (u ++ y :: p)) (y :: (v ++ x :: q))
theorem Al.refl : ∀ p : List Nat, Al 0 p p
  | [] => .nil
  | x :: p => .keep x (.refl p)
theorem Al.dels {n : Nat} {p q : List Nat} (h : Al n p q) : ∀ u : List Nat, Al (n + u.length) (u ++ p) q
  | [] => h
  | x :: u => (h.dels u).del x
theorem Al.inss {n : Nat} {p q : List Nat} (h : Al n p q) : ∀ u : List Nat, Al (n + u.length) p (u ++ q)
  | [] => h
  | x :: u => (h.inss u).ins x
theorem Al.all (p q : List Nat) : Al (p.length + q.length) p q := by
  have h1 := (Al.nil.dels p).inss q
  simpa using h1
theorem Al.left (q : List Nat) : Al q.length [] q := by
  have := Al.all [] q
  simpa using this
theorem Al.symm {n : Nat} {p q : List Nat} (h : Al n p q) : Al n q p := by
  induction h with
  | nil => exact .nil
  | keep x _ ih => exact .keep x ih
  | sub x y _ ih => exact .sub y x ih
  | ins y _ ih => exact .del y ih
  | del x _ ih => exact .ins x ih
  | @tr n p q x y u v _ ih =>
    have := Al.tr y x v u ih
    rwa [show n + v.length + 1 + u.length = n + u.length + 1 + v.length by omega] at this
theorem Al.len {n : Nat} {p q : List Nat} (h : Al n p q) : p.length ≤ q.length + n ∧ q.length ≤ p.length + n := by
  induction h with
  | nil => simp
  | keep x _ ih => simp; omega
  | sub x y _ ih => simp; omega
  | ins y _ ih => simp; omega
  | del x _ ih => simp; omega
  | tr x y u v _ ih => simp; omega
theorem Al.nilL {n : Nat} {q : List Nat} (h : Al n [] q) : q.length ≤ n := by
  have := h.len.2
  simpa using this
/-- the fewest -/
def Mn (n : Nat) (p q : List Nat) : Prop := Al n p q ∧ ∀ m, Al m p q → n ≤ m
theorem Mn.le {n : Nat} {p q : List Nat} (h : Mn n p q) : n ≤ p.length + q.length := h.2 _ (.all p q)
theorem Mn.nilL (q : List Nat) : Mn q.length [] q := ⟨.left q, fun m h => h.nilL⟩
theorem Mn.nilR (q : List Nat) : Mn q.length q [] := ⟨(Al.left q).symm, fun m h => h.symm.nilL⟩
/-- where a letter stands first, what is ahead of it, what is behind -/
def cutAt (y : Nat) : List Nat → Option (List Nat × List Nat)
  | [] => none
  | x :: p => if x = y then some ([], p) else (cutAt y p).map fun c => (x :: c.1, c.2)
theorem cutAt_some {y : Nat} : ∀ {p u r : List Nat}, cutAt y p = some (u, r) → p = u ++ y :: r
  | [], u, r, h => by simp [cutAt] at h
  | x :: p, u, r, h => by
    unfold cutAt at h
    by_cases hx : x = y
    · rw [if_pos hx] at h
      cases h
      rw [hx]; rfl
    · rw [if_neg hx] at h
      cases hc : cutAt y p with
      | none => rw [hc] at h; cases h
      | some c =>
        rw [hc] at h
        cases h
        rw [cutAt_some (show cutAt y p = some (c.1, c.2) from hc)]
        rfl
/-- any place of y is the first one, or behind it -/
theorem cutAt_of {y : Nat} : ∀ (u r : List Nat), ∃ u1 r1, cutAt y (u ++ y :: r) = some (u1, r1) ∧ ∃ w : List Nat, r1 = w ++ r ∧ u1.length + w.length = u.length
  | [], r => ⟨[], r, by simp [cutAt], [], rfl, rfl⟩
  | x :: u, r => by
    by_cases hx : x = y
    · refine ⟨[], u ++ y :: r, by simp [cutAt, hx], u ++ [y], by simp, by simp⟩
    · obtain ⟨u1, r1, h, w, e1, e2⟩ := cutAt_of (y := y) u r
      refine ⟨x :: u1, r1, ?_, w, e1, by simp; omega⟩
      show (if x = y then some ([], u ++ y :: r) else (cutAt y (u ++ y :: r)).map fun c => (x :: c.1, c.2)) = _
      rw [if_neg hx, h]
      rfl
/-- one more of the table -/
theorem Mn.step {x y : Nat} {p q : List Nat} {k i d t : Nat} (hk : Mn k p q) (hi : Mn i (x :: p) q) (hd : Mn d p (y :: q))
    (ht : match cutAt y p, cutAt x q with
      | some (u, r), some (v, s) => ∃ n, Mn n r s ∧ t = n + u.length + 1 + v.length
      | _, _ => p.length + q.length + 2 ≤ t) :
    Mn (min (min (k + if x = y then 0 else 1) (i + 1)) (min (d + 1) t)) (x :: p) (y :: q) := by
  have hs : Al (k + if x = y then 0 else 1) (x :: p) (y :: q) := by
    by_cases hx : x = y
    · rw [if_pos hx, hx]; exact .keep y hk.1
    · rw [if_neg hx]; exact .sub x y hk.1
  have hb : d + 1 ≤ p.length + q.length + 2 := by
    have := hd.le
    simp at this
    omega
  constructor
  · have e1 := hi.1.ins y
    have e2 := hd.1.del x
    have key : Al t (x :: p) (y :: q) ∨ d + 1 ≤ t := by
      revert ht
      cases h1 : cutAt y p with
      | none => intro ht; right; exact Nat.le_trans hb ht
      | some c =>
        cases h2 : cutAt x q with
        | none => intro ht; right; exact Nat.le_trans hb ht
        | some c' =>
          rintro ⟨n, hn, rfl⟩
          left
          have e3 := cutAt_some (show cutAt y p = some (c.1, c.2) from h1)
          have e4 := cutAt_some (show cutAt x q = some (c'.1, c'.2) from h2)
          rw [e3, e4]
          exact .tr x y c.1 c'.1 hn.1
    rcases key with key | key
    · have pick : ∀ a b : Nat, Al a (x :: p) (y :: q) → Al b (x :: p) (y :: q) → Al (min a b) (x :: p) (y :: q) := fun a b ha hb => by
        rcases Nat.le_total a b with z | z
        · rw [Nat.min_eq_left z]; exact ha
        · rw [Nat.min_eq_right z]; exact hb
      exact pick _ _ (pick _ _ hs e1) (pick _ _ e2 key)
    · have pick : ∀ a b : Nat, Al a (x :: p) (y :: q) → Al b (x :: p) (y :: q) → Al (min a b) (x :: p) (y :: q) := fun a b ha hb => by
        rcases Nat.le_total a b with z | z
        · rw [Nat.min_eq_left z]; exact ha
        · rw [Nat.min_eq_right z]; exact hb
      rw [Nat.min_eq_left key]
      exact pick _ _ (pick _ _ hs e1) e2
  · intro m h
    have goal : (k + if x = y then 0 else 1) ≤ m ∨ i + 1 ≤ m ∨ d + 1 ≤ m ∨ t ≤ m := by
      generalize hp : x :: p = p' at h
      generalize hq : y :: q = q' at h
      cases h with
      | nil => cases hp
      | keep z h =>
        injection hp with a b; injection hq with c e
        subst b; subst e
        left
        rw [if_pos (a.trans c.symm)]
        exact hk.2 _ h
      | sub z z' h =>
        injection hp with a b; injection hq with c e
        subst b; subst e
        left
        have := hk.2 _ h
        split <;> omega
      | ins z h =>
        injection hq with c e
        subst e; subst hp
        right; left
        have := hi.2 _ h
        omega
      | del z h =>
        injection hp with a b
        subst b; subst hq
        right; right; left
        have := hd.2 _ h
        omega
      | @tr n p0 q0 z z' u v h =>
        injection hp with a b; injection hq with c e
        subst a; subst c
        right; right; right
        obtain ⟨u1, r1, h1, w1, f1, f2⟩ := cutAt_of (y := y) u p0
        obtain ⟨v1, s1, h2, w2, f3, f4⟩ := cutAt_of (y := x) v q0
        rw [b, e, h1, h2] at ht
        obtain ⟨n', hn, rfl⟩ := ht
        have z := hn.2 _ (by rw [f1, f3]; exact (h.dels w1).inss w2)
        omega
    omega
end P3.Near

/-! NM2: one step, two steps. -/
namespace P3.Near
/-- a step of letters -/
inductive Step : List Nat → List Nat → Prop
  | ins (s t : List Nat) (c : Nat) : Step (s ++ t) (s ++ c :: t)
  | sub (s t : List Nat) (c d : Nat) : Step (s ++ c :: t) (s ++ d :: t)
  | del (s t : List Nat) (c : Nat) : Step (s ++ c :: t) (s ++ t)
  | tr (s t : List Nat) (c d : Nat) : Step (s ++ c :: d :: t) (s ++ d :: c :: t)
theorem Step.symm {a b : List Nat} (h : Step a b) : Step b a := by
  cases h with
  | ins s t c => exact .del s t c
  | sub s t c d => exact .sub s t d c
  | del s t c => exact .ins s t c
  | tr s t c d => exact .tr s t d c
theorem Step.cons {a b : List Nat} (x : Nat) (h : Step a b) : Step (x :: a) (x :: b) := by
  cases h with
  | ins s t c => exact .ins (x :: s) t c
  | sub s t c d => exact .sub (x :: s) t c d
  | del s t c => exact .del (x :: s) t c
  | tr s t c d => exact .tr (x :: s) t c d
theorem Step.rev {a b : List Nat} (h : Step a b) : Step a.reverse b.reverse := by
  cases h with
  | ins s t c => simpa using Step.ins t.reverse s.reverse c
  | sub s t c d => simpa using Step.sub t.reverse s.reverse c d
  | del s t c => simpa using Step.del t.reverse s.reverse c
  | tr s t c d => simpa using Step.tr t.reverse s.reverse d c
theorem Step.len {a b : List Nat} (h : Step a b) : a.length ≤ b.length + 1 ∧ b.length ≤ a.length + 1 := by
  cases h <;> simp <;> omega
theorem al0 {n : Nat} {p q : List Nat} (h : Al n p q) : n = 0 → p = q := by
  induction h with
  | nil => intro _; rfl
  | keep x _ ih => intro e; rw [ih e]
  | sub x y _ ih => intro e; omega
  | ins y _ ih => intro e; omega
  | del x _ ih => intro e; omega
  | tr x y u v _ ih => intro e; omega
theorem al1 {n : Nat} {p q : List Nat} (h : Al n p q) : n = 1 → Step p q := by
  induction h with
  | nil => intro e; cases e
  | keep x _ ih => intro e; exact (ih e).cons x
  | @sub n p q x y h ih =>
    intro e
    cases al0 h (by omega)
    exact .sub [] p x y
  | @ins n p q y h ih =>
    intro e
    cases al0 h (by omega)
    exact .ins [] p y
  | @del n p q x h ih =>
    intro e
    cases al0 h (by omega)
    exact .del [] _ x
  | @tr n p q x y u v h ih =>
    intro e
    cases al0 h (by omega)
    have hu : u = [] := List.eq_nil_of_length_eq_zero (by omega)
    have hv : v = [] := List.eq_nil_of_length_eq_zero (by omega)
    subst hu; subst hv
    exact .tr [] p x y
theorem al2 {n : Nat} {p q : List Nat} (h : Al n p q) : n = 2 → ∃ w, Step p w ∧ Step w q ∧ w.length ≤ max p.length q.length ∧ ∀ c ∈ w, c ∈ p ∨ c ∈ q := by
  induction h with
  | nil => intro e; cases e
  | keep x _ ih =>
    intro e
    obtain ⟨w, h1, h2, h3, h4⟩ := ih e
    refine ⟨x :: w, h1.cons x, h2.cons x, by simp; omega, fun c hc => ?_⟩
    rcases List.mem_cons.mp hc with rfl | hc
    · simp
    · rcases h4 c hc with h | h <;> simp [h]
  | @sub n p q x y h ih =>
    intro e
    refine ⟨x :: q, (al1 h (by omega)).cons x, .sub [] q x y, by simp; omega, fun c hc => ?_⟩
    rcases List.mem_cons.mp hc with rfl | hc <;> simp [*]
  | @ins n p q y h ih =>
    intro e
    exact ⟨q, al1 h (by omega), .ins [] q y, by simp; omega, fun c hc => by simp [hc]⟩
  | @del n p q x h ih =>
    intro e
    exact ⟨p, .del [] p x, al1 h (by omega), by simp; omega, fun c hc => by simp [hc]⟩
  | @tr n p q x y u v h ih =>
    intro e
    match u, v, e with
    | [], [], e =>
      have := al1 h (by simp at e; omega)
      exact ⟨x :: y :: q, (this.cons y).cons x, .tr [] q x y, by simp; omega, fun c hc => by simp at hc ⊢; rcases hc with h | h | h <;> simp [h]⟩
    | [c], [], e =>
      cases al0 h (by simp at e; omega)
      exact ⟨x :: y :: p, .del [x] (y :: p) c, .tr [] p x y, by simp, fun c hc => by simp at hc ⊢; rcases hc with h | h | h <;> simp [h]⟩
    | [], [c], e =>
      cases al0 h (by simp at e; omega)
      exact ⟨y :: x :: p, .tr [] p x y, .ins [y] (x :: p) c, by simp, fun c hc => by simp at hc ⊢; rcases hc with h | h | h <;> simp [h]⟩
    | _ :: _ :: _, _, e => simp at e; omega
    | _, _ :: _ :: _, e => simp at e; omega
    | [_], [_], e => simp at e
/-- at most k steps -/
def Le (k : Nat) (p q : List Nat) : Prop := ∃ m, m ≤ k ∧ Al m p q
theorem Le.refl (k : Nat) (p : List Nat) : Le k p p := ⟨0, Nat.zero_le _, .refl p⟩
theorem Le.keep {k : Nat} {p q : List Nat} (x : Nat) (h : Le k p q) : Le k (x :: p) (x :: q) := let ⟨m, h1, h2⟩ := h; ⟨m, h1, h2.keep x⟩
theorem Le.sub {k : Nat} {p q : List Nat} (x y : Nat) (h : Le k p q) : Le (k + 1) (x :: p) (y :: q) := let ⟨m, h1, h2⟩ := h; ⟨m + 1, by omega, h2.sub x y⟩
theorem Le.ins {k : Nat} {p q : List Nat} (y : Nat) (h : Le k p q) : Le (k + 1) p (y :: q) := let ⟨m, h1, h2⟩ := h; ⟨m + 1, by omega, h2.ins y⟩
theorem Le.del {k : Nat} {p q : List Nat} (x : Nat) (h : Le k p q) : Le (k + 1) (x :: p) q := let ⟨m, h1, h2⟩ := h; ⟨m + 1, by omega, h2.del x⟩
theorem Le.tr {k : Nat} {p q : List Nat} (x y : Nat) (h : Le k p q) : Le (k + 1) (x :: y :: p) (y :: x :: q) := let ⟨m, h1, h2⟩ := h; ⟨m + 1, by omega, h2.tr x y [] []⟩
theorem Le.trU {p : List Nat} (x y c : Nat) : Le 2 (x :: c :: y :: p) (y :: x :: p) := ⟨2, Nat.le_refl _, (Al.refl p).tr x y [c] []⟩
theorem Le.trV {p : List Nat} (x y c : Nat) : Le 2 (x :: y :: p) (y :: c :: x :: p) := ⟨2, Nat.le_refl _, (Al.refl p).tr x y [] [c]⟩
theorem Le.pre {k : Nat} {p q : List Nat} (h : Le k p q) : ∀ s : List Nat, Le k (s ++ p) (s ++ q)
  | [] => h
  | x :: s => (h.pre s).keep x
theorem Le.mono {k j : Nat} {p q : List Nat} (h : Le k p q) (hj : k ≤ j) : Le j p q := let ⟨m, h1, h2⟩ := h; ⟨m, by omega, h2⟩
theorem step1 {p q : List Nat} (h : Step p q) : Le 1 p q := by
  cases h with
  | ins s t c => exact ((Le.refl 0 t).ins c).pre s
  | sub s t c d => exact ((Le.refl 0 t).sub c d).pre s
  | del s t c => exact ((Le.refl 0 t).del c).pre s
  | tr s t c d => exact ((Le.refl 0 t).tr c d).pre s
/-- a step ahead, a step behind -/
theorem Le.app1 {k : Nat} {p q : List Nat} (h : Le 1 p q) : ∀ {u v : List Nat}, True → Le 1 u v → Le 2 (u ++ p) (v ++ q) := by
  obtain ⟨m, hm, h⟩ := h
  rintro u v - ⟨n, hn, g⟩
  have : ∀ {n : Nat} {u v : List Nat}, Al n u v → Al (n + m) (u ++ p) (v ++ q) := by
    intro n u v g
    induction g with
    | nil => simpa using h
    | keep x _ ih => exact ih.keep x
    | @sub n _ _ x y _ ih => have := ih.sub x y; rwa [show n + m + 1 = n + 1 + m by omega] at this
    | @ins n _ _ y _ ih => have := ih.ins y; rwa [show n + m + 1 = n + 1 + m by omega] at this
    | @del n _ _ y _ ih => have := ih.del y; rwa [show n + m + 1 = n + 1 + m by omega] at this
    | @tr n _ _ x y u v _ ih =>
      have := ih.tr x y u v
      rw [show n + m + u.length + 1 + v.length = n + u.length + 1 + v.length + m by omega] at this
      simpa using this
  exact ⟨n + m, by omega, this g⟩
theorem Le.symm {k : Nat} {p q : List Nat} (h : Le k p q) : Le k q p := let ⟨m, h1, h2⟩ := h; ⟨m, h1, h2.symm⟩
theorem two0 {p w q : List Nat} (t : List Nat) (h2 : Step w q) (k : (∃ c, p = c :: t ∧ w = t) ∨ (∃ c, p = t ∧ w = c :: t) ∨ (∃ c d, p = c :: t ∧ w = d :: t) ∨ ∃ c d, p = c :: d :: t ∧ w = d :: c :: t) : Le 2 p q := by
  rcases k with ⟨c, rfl, rfl⟩ | ⟨c, rfl, rfl⟩ | ⟨c, d, rfl, rfl⟩ | ⟨c, d, rfl, rfl⟩
  · exact (step1 h2).del c
  · generalize hw : c :: p = w at h2
    cases h2 with
    | ins s r e =>
      cases s with
      | nil => subst hw; exact ((Le.refl 0 p).ins c).ins e
      | cons b s => injection hw with h1 h2; subst h1; subst h2; exact (step1 (.ins s r e)).ins c
    | sub s r e f =>
      cases s with
      | nil => injection hw with h1 h2; subst h1; subst h2; exact (Le.refl 1 p).ins f
      | cons b s => injection hw with h1 h2; subst h1; subst h2; exact (step1 (.sub s r e f)).ins c
    | del s r e =>
      cases s with
      | nil => injection hw with h1 h2; subst h1; subst h2; exact Le.refl 2 p
      | cons b s => injection hw with h1 h2; subst h1; subst h2; exact (step1 (.del s r e)).ins c
    | tr s r e f =>
      cases s with
      | nil => injection hw with h1 h2; subst h1; subst h2; exact ((Le.refl 1 r).ins c).keep f
      | cons b s => injection hw with h1 h2; subst h1; subst h2; exact (step1 (.tr s r e f)).ins c
  · generalize hw : d :: t = w at h2
    cases h2 with
    | ins s r e =>
      cases s with
      | nil => subst hw; exact ((Le.refl 0 t).sub c d).ins e
      | cons b s => injection hw with h1 h2; subst h1; subst h2; exact (step1 (.ins s r e)).sub c d
    | sub s r e f =>
      cases s with
      | nil => injection hw with h1 h2; subst h1; subst h2; exact (Le.refl 1 t).sub c f
      | cons b s => injection hw with h1 h2; subst h1; subst h2; exact (step1 (.sub s r e f)).sub c d
    | del s r e =>
      cases s with
      | nil => injection hw with h1 h2; subst h1; subst h2; exact (Le.refl 1 t).del c
      | cons b s => injection hw with h1 h2; subst h1; subst h2; exact (step1 (.del s r e)).sub c d
    | tr s r e f =>
      cases s with
      | nil => injection hw with h1 h2; subst h1; subst h2; exact ((Le.refl 0 r).sub f d).sub c f
      | cons b s => injection hw with h1 h2; subst h1; subst h2; exact (step1 (.tr s r e f)).sub c d
  · generalize hw : d :: c :: t = w at h2
    cases h2 with
    | ins s r e =>
      match s with
      | [] => subst hw; exact ((Le.refl 0 t).tr c d).ins e
      | [b] => injection hw with h1 h2; subst h1; subst h2; exact Le.trV c d e
      | b :: b' :: s => injection hw with h1 h2; injection h2 with h2 h3; subst h1; subst h2; subst h3; exact (step1 (.ins s r e)).tr c d
    | sub s r e f =>
      match s with
      | [] => injection hw with h1 h2; subst h1; subst h2; exact ((Le.refl 0 t).sub d c).sub c f
      | [b] => injection hw with h1 h2; injection h2 with h2 h3; subst h1; subst h2; subst h3; exact ((Le.refl 0 t).sub d f).sub c d
      | b :: b' :: s => injection hw with h1 h2; injection h2 with h2 h3; subst h1; subst h2; subst h3; exact (step1 (.sub s r e f)).tr c d
    | del s r e =>
      match s with
      | [] => injection hw with h1 h2; subst h1; subst h2; exact ((Le.refl 1 t).del d).keep c
      | [b] => injection hw with h1 h2; injection h2 with h2 h3; subst h1; subst h2; subst h3; exact ((Le.refl 1 t).keep d).del c
      | b :: b' :: s => injection hw with h1 h2; injection h2 with h2 h3; subst h1; subst h2; subst h3; exact (step1 (.del s r e)).tr c d
    | tr s r e f =>
      match s with
      | [] => injection hw with h1 h2; injection h2 with h2 h3; subst h1; subst h2; subst h3; exact Le.refl 2 _
      | [b] => injection hw with h1 h2; injection h2 with h2 h3; subst h1; subst h2; subst h3; exact ((((Le.refl 0 r).ins c).keep f).keep d).del c
      | b :: b' :: s => injection hw with h1 h2; injection h2 with h2 h3; subst h1; subst h2; subst h3; exact (step1 (.tr s r e f)).tr c d
/-- two steps are at most two -/
theorem step2 : ∀ {p w q : List Nat}, Step p w → Step w q → Le 2 p q := by
  have main : ∀ (s : List Nat) {p w q : List Nat} (r : List Nat), Step w q →
      ((∃ c, p = s ++ c :: r ∧ w = s ++ r) ∨ (∃ c, p = s ++ r ∧ w = s ++ c :: r) ∨ (∃ c d, p = s ++ c :: r ∧ w = s ++ d :: r) ∨ ∃ c d, p = s ++ c :: d :: r ∧ w = s ++ d :: c :: r) → Le 2 p q := by
    intro s
    induction s with
    | nil => exact fun r h k => two0 r h k
    | cons a s ih =>
      intro p w q r h k
      -- the second step: at the begin, or behind the same letter
      have hw : ∃ w', w = a :: w' := by rcases k with ⟨c, _, e⟩ | ⟨c, _, e⟩ | ⟨c, d, _, e⟩ | ⟨c, d, _, e⟩ <;> exact ⟨_, e⟩
      obtain ⟨w', rfl⟩ := hw
      have hk : ∃ p', p = a :: p' ∧ Step w' p' ∧ ((∃ c, p' = s ++ c :: r ∧ w' = s ++ r) ∨ (∃ c, p' = s ++ r ∧ w' = s ++ c :: r) ∨ (∃ c d, p' = s ++ c :: r ∧ w' = s ++ d :: r) ∨ ∃ c d, p' = s ++ c :: d :: r ∧ w' = s ++ d :: c :: r) := by
        rcases k with ⟨c, rfl, e⟩ | ⟨c, rfl, e⟩ | ⟨c, d, rfl, e⟩ | ⟨c, d, rfl, e⟩ <;> (injection e with _ e; subst e)
        · exact ⟨_, rfl, .ins s r c, .inl ⟨c, rfl, rfl⟩⟩
        · exact ⟨_, rfl, .del s r c, .inr (.inl ⟨c, rfl, rfl⟩)⟩
        · exact ⟨_, rfl, .sub s r d c, .inr (.inr (.inl ⟨c, d, rfl, rfl⟩))⟩
        · exact ⟨_, rfl, .tr s r d c, .inr (.inr (.inr ⟨c, d, rfl, rfl⟩))⟩
      obtain ⟨p', rfl, hs, hk⟩ := hk
      have back : Step (a :: w') (a :: p') := hs.cons a
      generalize hw2 : a :: w' = w2 at h
      cases h with
      | ins s2 r2 e =>
        cases s2 with
        | nil => subst hw2; exact (two0 (a :: w') back (.inl ⟨e, rfl, rfl⟩)).symm
        | cons b s2 => injection hw2 with h1 h2; subst h1; subst h2; exact (ih r (.ins s2 r2 e) hk).keep a
      | sub s2 r2 e f =>
        cases s2 with
        | nil => injection hw2 with h1 h2; subst h1; subst h2; exact (two0 w' back (.inr (.inr (.inl ⟨f, a, rfl, rfl⟩)))).symm
        | cons b s2 => injection hw2 with h1 h2; subst h1; subst h2; exact (ih r (.sub s2 r2 e f) hk).keep a
      | del s2 r2 e =>
        cases s2 with
        | nil => injection hw2 with h1 h2; subst h1; subst h2; exact (two0 w' back (.inr (.inl ⟨a, rfl, rfl⟩))).symm
        | cons b s2 => injection hw2 with h1 h2; subst h1; subst h2; exact (ih r (.del s2 r2 e) hk).keep a
      | tr s2 r2 e f =>
        cases s2 with
        | nil => injection hw2 with h1 h2; subst h1; subst h2; exact (two0 r2 back (.inr (.inr (.inr ⟨f, a, rfl, rfl⟩)))).symm
        | cons b s2 => injection hw2 with h1 h2; subst h1; subst h2; exact (ih r (.tr s2 r2 e f) hk).keep a
  intro p w q h1 h2
  cases h1 with
  | ins s t c => exact main s t h2 (.inr (.inl ⟨c, rfl, rfl⟩))
  | sub s t c d => exact main s t h2 (.inr (.inr (.inl ⟨c, d, rfl, rfl⟩)))
  | del s t c => exact main s t h2 (.inl ⟨c, rfl, rfl⟩)
  | tr s t c d => exact main s t h2 (.inr (.inr (.inr ⟨c, d, rfl, rfl⟩)))
/-- what the fewest steps say -/
theorem mn_says {n : Nat} {a b : List Nat} (h : Mn n a.reverse b.reverse) :
    (n = 0 ↔ a = b) ∧ (n ≤ 1 ↔ a = b ∨ Step a b) ∧ (n ≤ 2 ↔ a = b ∨ Step a b ∨ ∃ w, Step a w ∧ Step w b) ∧
    (n = 2 → ∃ w, Step a w ∧ Step w b ∧ w.length ≤ max a.length b.length ∧ ∀ c ∈ w, c ∈ a ∨ c ∈ b) := by
  have e0 : n = 0 → a = b := fun e => List.reverse_inj.mp (al0 h.1 e)
  have e1 : n = 1 → Step a b := fun e => by have := (al1 h.1 e).rev; simpa using this
  have e2 : n = 2 → ∃ w, Step a w ∧ Step w b ∧ w.length ≤ max a.length b.length ∧ ∀ c ∈ w, c ∈ a ∨ c ∈ b := fun e => by
    obtain ⟨w, h1, h2, h3, h4⟩ := al2 h.1 e
    refine ⟨w.reverse, ?_, ?_, by simpa using h3, fun c hc => by simpa using h4 c (by simpa using hc)⟩
    · have := h1.rev; simpa using this
    · have := h2.rev; simpa using this
  have f0 : a = b → n = 0 := fun e => by subst e; exact Nat.le_zero.mp (h.2 0 (.refl _))
  have f1 : Step a b → n ≤ 1 := fun s => by obtain ⟨m, h1, h2⟩ := step1 s.rev; exact Nat.le_trans (h.2 m h2) h1
  have f2 : ∀ w, Step a w → Step w b → n ≤ 2 := fun w s1 s2 => by obtain ⟨m, h1, h2⟩ := step2 s1.rev s2.rev; exact Nat.le_trans (h.2 m h2) h1
  refine ⟨⟨e0, f0⟩, ⟨fun hn => ?_, fun q => ?_⟩, ⟨fun hn => ?_, fun q => ?_⟩, e2⟩
  · rcases Nat.le_one_iff_eq_zero_or_eq_one.mp hn with z | z
    · exact .inl (e0 z)
    · exact .inr (e1 z)
  · rcases q with q | q
    · rw [f0 q]; omega
    · exact f1 q
  · by_cases z0 : n = 0
    · exact .inl (e0 z0)
    · by_cases z1 : n = 1
      · exact .inr (.inl (e1 z1))
      · obtain ⟨w, h1, h2, _, _⟩ := e2 (by omega)
        exact .inr (.inr ⟨w, h1, h2⟩)
  · rcases q with q | q | ⟨w, q1, q2⟩
    · rw [f0 q]; omega
    · exact Nat.le_trans (f1 q) (by omega)
    · exact f2 w q1 q2
end P3.Near

/-! NM3: the table of fewest steps. -/
namespace P3.Near
theorem least {P : Nat → Prop} : ∀ n, P n → ∃ k, P k ∧ ∀ m, P m → k ≤ m := by
  intro n
  induction n using Nat.strongRecOn with
  | ind n ih =>
    intro h
    by_cases c : ∃ m, m < n ∧ P m
    · obtain ⟨m, hm, hp⟩ := c
      exact ih m hm hp
    · exact ⟨n, h, fun m hp => Nat.not_lt.mp fun hlt => c ⟨m, hlt, hp⟩⟩
theorem Mn.ex (p q : List Nat) : ∃ n, Mn n p q := least _ (.all p q)
theorem Mn.uniq {n m : Nat} {p q : List Nat} (h : Mn n p q) (k : Mn m p q) : n = m := Nat.le_antisymm (h.2 _ k.1) (k.2 _ h.1)
noncomputable def dl (p q : List Nat) : Nat := Classical.choose (Mn.ex p q)
theorem dl_mn (p q : List Nat) : Mn (dl p q) p q := Classical.choose_spec (Mn.ex p q)
theorem dl_is {n : Nat} {p q : List Nat} (h : Mn n p q) : dl p q = n := (dl_mn p q).uniq h
/-- the fewest steps between beginnings -/
noncomputable def T (a b : List Nat) (r c : Nat) : Nat := dl (a.take r).reverse (b.take c).reverse
theorem T_mn (a b : List Nat) (r c : Nat) : Mn (T a b r c) (a.take r).reverse (b.take c).reverse := dl_mn _ _
theorem T_0 {a b : List Nat} {c : Nat} (h : c ≤ b.length) : T a b 0 c = c := dl_is (by
  have := Mn.nilL (b.take c).reverse
  rw [List.length_reverse, List.length_take, Nat.min_eq_left h] at this
  exact this)
theorem T_c0 {a b : List Nat} {r : Nat} (h : r ≤ a.length) : T a b r 0 = r := dl_is (by
  have := Mn.nilR (a.take r).reverse
  rw [List.length_reverse, List.length_take, Nat.min_eq_left h] at this
  exact this)
theorem T_le {a b : List Nat} {r c : Nat} : T a b r c ≤ r + c := by
  have := (T_mn a b r c).le
  simp only [List.length_reverse, List.length_take] at this
  omega
/-- where a letter stood last, one more -/
def lix (y : Nat) (a : List Nat) (i : Nat) : Nat := match cutAt y (a.take i).reverse with
  | none => 0
  | some (_, r) => r.length + 1
theorem rev_succ {a : List Nat} {i : Nat} (h : i < a.length) : (a.take (i + 1)).reverse = a[i] :: (a.take i).reverse := by
  rw [List.take_add_one, List.getElem?_eq_getElem h]
  simp
theorem lix_0 {y : Nat} {a : List Nat} : lix y a 0 = 0 := by simp [lix, cutAt]
theorem lix_succ {y : Nat} {a : List Nat} {i : Nat} (h : i < a.length) : lix y a (i + 1) = if a[i] = y then i + 1 else lix y a i := by
  unfold lix
  rw [rev_succ h]
  show (match (if a[i] = y then some ([], (a.take i).reverse) else (cutAt y (a.take i).reverse).map fun c => (a[i] :: c.1, c.2)) with
    | none => 0
    | some (_, r) => r.length + 1) = _
  by_cases hx : a[i] = y
  · rw [if_pos hx, if_pos hx]
    show (a.take i).reverse.length + 1 = i + 1
    rw [List.length_reverse, List.length_take]
    omega
  · rw [if_neg hx, if_neg hx]
    cases cutAt y (a.take i).reverse with
    | none => rfl
    | some c => rfl
theorem cut_is {y : Nat} {a u r : List Nat} {i : Nat} (hi : i ≤ a.length) (h : cutAt y (a.take i).reverse = some (u, r)) : r = (a.take r.length).reverse ∧ u.length + r.length + 1 = i := by
  have e := cutAt_some h
  have hl : (a.take i).reverse.length = i := by rw [List.length_reverse, List.length_take]; omega
  have hl2 : (u ++ y :: r).length = u.length + r.length + 1 := by simp; omega
  have hlen : u.length + r.length + 1 = i := by rw [← hl2, ← e, hl]
  refine ⟨?_, hlen⟩
  have e2 : a.take i = r.reverse ++ (y :: u.reverse) := by
    have := congrArg List.reverse e
    rw [List.reverse_reverse] at this
    rw [this]; simp
  have e3 : a.take r.length = r.reverse := by
    have : (a.take i).take r.length = a.take r.length := by rw [List.take_take, Nat.min_eq_left (by omega)]
    rw [← this, e2, List.take_left' (by simp)]
  rw [e3, List.reverse_reverse]
theorem lix_le {y : Nat} {a : List Nat} {i : Nat} (hi : i ≤ a.length) : lix y a i ≤ i := by
  unfold lix
  split
  · omega
  · rename_i u r h
    have := (cut_is hi h).2
    omega
theorem T_step {a b : List Nat} {i j : Nat} (hi : i < a.length) (hj : j < b.length) (t : Nat) (ht : lix b[j] a i = 0 ∨ lix a[i] b j = 0 → i + j + 2 ≤ t)
    (ht' : ∀ p q, lix b[j] a i = p + 1 → lix a[i] b j = q + 1 → t = T a b p q + (i - (p + 1)) + 1 + (j - (q + 1))) :
    T a b (i + 1) (j + 1) = min (min (T a b i j + if a[i] = b[j] then 0 else 1) (T a b (i + 1) j + 1)) (min (T a b i (j + 1) + 1) t) := by
  have h1 := T_mn a b (i + 1) j
  have h2 := T_mn a b i (j + 1)
  have h3 := T_mn a b i j
  refine dl_is ?_
  rw [rev_succ hi, rev_succ hj]
  rw [rev_succ hi] at h1
  rw [rev_succ hj] at h2
  refine Mn.step h3 h1 h2 ?_
  have la : (a.take i).reverse.length = i := by rw [List.length_reverse, List.length_take]; omega
  have lb : (b.take j).reverse.length = j := by rw [List.length_reverse, List.length_take]; omega
  have k1 : lix b[j] a i = match cutAt b[j] (a.take i).reverse with | none => 0 | some (_, r) => r.length + 1 := rfl
  have k2 : lix a[i] b j = match cutAt a[i] (b.take j).reverse with | none => 0 | some (_, r) => r.length + 1 := rfl
  cases c1 : cutAt b[j] (a.take i).reverse with
  | none =>
    rw [c1] at k1
    show (a.take i).reverse.length + (b.take j).reverse.length + 2 ≤ t
    rw [la, lb]
    exact ht (.inl k1)
  | some p =>
    cases c2 : cutAt a[i] (b.take j).reverse with
    | none =>
      rw [c2] at k2
      show (a.take i).reverse.length + (b.take j).reverse.length + 2 ≤ t
      rw [la, lb]
      exact ht (.inr k2)
    | some q =>
      rw [c1] at k1
      rw [c2] at k2
      obtain ⟨u, r⟩ := p
      obtain ⟨v, s⟩ := q
      obtain ⟨e1, e2⟩ := cut_is (Nat.le_of_lt hi) c1
      obtain ⟨e3, e4⟩ := cut_is (Nat.le_of_lt hj) c2
      have := ht' r.length s.length k1 k2
      refine ⟨T a b r.length s.length, ?_, ?_⟩
      · have h := T_mn a b r.length s.length
        rw [← e1, ← e3] at h
        exact h
      · show t = T a b r.length s.length + u.length + 1 + v.length
        omega
/-- the fewest steps between two words -/
noncomputable def fw (a b : List Nat) : Nat := T a b a.length b.length
theorem fw_mn (a b : List Nat) : Mn (fw a b) a.reverse b.reverse := by
  have := T_mn a b a.length b.length
  rwa [List.take_length, List.take_length] at this
theorem fw_symm (a b : List Nat) : fw a b = fw b a := by
  refine (fw_mn a b).uniq ⟨(fw_mn b a).1.symm, fun m h => (fw_mn b a).2 m h.symm⟩
theorem fw_len (a b : List Nat) : a.length ≤ b.length + fw a b ∧ b.length ≤ a.length + fw a b := by
  have := (fw_mn a b).1.len
  simpa using this
end P3.Near

/-! NM4: the words that a step makes, place by place. -/
namespace P3.Near
/-- what a step makes at a place -/
def InAt (S : Nat → Prop) (w : List Nat) (p : Nat) (l : List Nat) : Prop :=
  (∃ c, S c ∧ (l = w.take p ++ c :: w.drop p ∨ (p < w.length ∧ l = w.take p ++ c :: w.drop (p + 1)))) ∨ (p < w.length ∧ l = w.take p ++ w.drop (p + 1)) ∨
    (∃ (h : p < w.length) (h0 : 0 < p), l = w.take (p - 1) ++ w[p] :: w[p - 1] :: w.drop (p + 1))
theorem take_at {w : List Nat} {p : Nat} (h : p < w.length) : w = w.take p ++ w[p] :: w.drop (p + 1) := by
  conv => lhs; rw [← List.take_append_drop p w, List.drop_eq_getElem_cons h]
theorem take_at2 {w : List Nat} {p : Nat} (h : p < w.length) (h0 : 0 < p) : w = w.take (p - 1) ++ w[p - 1] :: w[p] :: w.drop (p + 1) := by
  have h1 := take_at (w := w) (p := p - 1) (by omega)
  have h2 : w.drop (p - 1 + 1) = w[p] :: w.drop (p + 1) := by
    have := List.drop_eq_getElem_cons h
    rw [show p - 1 + 1 = p by omega, this]
  rw [h2] at h1
  exact h1
theorem in_step {S : Nat → Prop} {w l : List Nat} {p : Nat} (h : InAt S w p l) : Step w l := by
  rcases h with ⟨c, _, rfl | ⟨hp, rfl⟩⟩ | ⟨hp, rfl⟩ | ⟨hp, h0, rfl⟩
  · have := Step.ins (w.take p) (w.drop p) c
    rwa [List.take_append_drop] at this
  · have := Step.sub (w.take p) (w.drop (p + 1)) w[p] c
    rwa [← take_at hp] at this
  · have := Step.del (w.take p) (w.drop (p + 1)) w[p]
    rwa [← take_at hp] at this
  · have := Step.tr (w.take (p - 1)) (w.drop (p + 1)) w[p - 1] w[p]
    rwa [← take_at2 hp h0] at this
theorem step_in {S : Nat → Prop} {w l : List Nat} (h : Step w l) (hl : ∀ c ∈ l, S c) : ∃ p, p < w.length + 1 ∧ InAt S w p l := by
  cases h with
  | ins s t c => exact ⟨s.length, by simp; omega, .inl ⟨c, hl c (by simp), .inl (by simp)⟩⟩
  | sub s t c d => exact ⟨s.length, by simp; omega, .inl ⟨d, hl d (by simp), .inr ⟨by simp, by simp⟩⟩⟩
  | del s t c => exact ⟨s.length, by simp; omega, .inr (.inl ⟨by simp, by simp⟩)⟩
  | tr s t c d =>
    refine ⟨s.length + 1, by simp, .inr (.inr ⟨by simp, by omega, ?_⟩)⟩
    have e1 : (s ++ c :: d :: t).take (s.length + 1 - 1) = s := by simp
    have e2 : (s ++ c :: d :: t).drop (s.length + 1 + 1) = t := by
      have : s ++ c :: d :: t = (s ++ [c, d]) ++ t := by simp
      rw [this, List.drop_left' (by simp)]
    rw [e1, e2]
    simp
theorem in_small {S : Nat → Prop} {w l : List Nat} {p : Nat} (hw : ∀ c ∈ w, S c) (h : InAt S w p l) : ∀ c ∈ l, S c := by
  have ht : ∀ n, ∀ c ∈ w.take n, S c := fun n c hc => hw c (List.mem_of_mem_take hc)
  have hd : ∀ n, ∀ c ∈ w.drop n, S c := fun n c hc => hw c (List.mem_of_mem_drop hc)
  rcases h with ⟨c, hc, rfl | ⟨hp, rfl⟩⟩ | ⟨hp, rfl⟩ | ⟨hp, h0, rfl⟩
  · intro x hx
    rcases List.mem_append.mp hx with hx | hx
    · exact ht _ x hx
    · rcases List.mem_cons.mp hx with rfl | hx
      · exact hc
      · exact hd _ x hx
  · intro x hx
    rcases List.mem_append.mp hx with hx | hx
    · exact ht _ x hx
    · rcases List.mem_cons.mp hx with rfl | hx
      · exact hc
      · exact hd _ x hx
  · intro x hx
    rcases List.mem_append.mp hx with hx | hx
    · exact ht _ x hx
    · exact hd _ x hx
  · intro x hx
    rcases List.mem_append.mp hx with hx | hx
    · exact ht _ x hx
    · rcases List.mem_cons.mp hx with rfl | hx
      · exact hw _ (List.getElem_mem _)
      · rcases List.mem_cons.mp hx with rfl | hx
        · exact hw _ (List.getElem_mem _)
        · exact hd _ x hx
end P3.Near

noncomputable section
/-! What the defs do, printed by gen.py. -/
namespace P3.Law
open PySem PySem.Spec PyProof.Rows L2 P3
abbrev top (i : Nat) : Stmt := PySem.Challenge.pw_penhelper_k10_how_far_words_are.main.body.getD i (.Pass ⟨0, 0, 0, 0⟩)
def cls : List (Nat × Nat) := [(37, 12), (38, 11), (40, 14), (66, 11), (81, 17), (1000092, 50), (1000100, 44)]
/-! _law_box -/
def N__law_box : List Str := ["_law_cell_here"]
def m__law_box : MS :=
 (sSeq (sRet (mOn (mk true) (mCons (mOn fMax (mCons (mC (.int 0)) (mCons (mBin fSub (mVar 0) (mBin fPow (mC (.int 10)) (mC (.int 18)))) mNil))) (mCons (mBin fMod (mVar 0) (mC (.int 2147483629))) (mCons (mC (.int 0)) mNil)))))
 sNil)
def f__law_box : Fn := callF false N__law_box.length m__law_box
theorem c__law_box : cDef N__law_box (top 20) [] ["max"] cls = some m__law_box := by kernel_rfl
/-! _law_cell -/
def N__law_cell : List Str := ["_law_script", "_law_k"]
def m__law_cell : MS :=
 (sSeq (sIf (mTru (mBin fLt (mVar 1) (mOn fLen (mCons (mVar 0) mNil))))
  (sSeq (sRet (mBin fIx (mVar 0) (mVar 1)))
  sNil)
  sNil)
 (sSeq (sRet (mBin (fAdd false) (mBin (fMul false) (mC (.int 7919)) (mVar 1)) (mC (.int 71))))
 sNil))
def f__law_cell : Fn := callF true N__law_cell.length m__law_cell
theorem c__law_cell : cDef N__law_cell (top 19) [] ["len"] cls = some m__law_cell := by kernel_rfl
/-! _law_take -/
def N__law_take : List Str := ["_law_box_here", "_law_most", "_law_digit", "_law_one", "_law_two"]
def m__law_take : MS :=
 (sSeq (sIf (mTru (mBin fGt (mBin fIx (mVar 0) (mC (.int 0))) (mC (.int 0))))
  (sSeq (sSet 2 (mBin fMod (mBin fIx (mVar 0) (mC (.int 0))) (mVar 1)))
  (sSeq (sSetIx (mVar 0) (mC (.int 0)) (mBin fFdiv (mBin fIx (mVar 0) (mC (.int 0))) (mVar 1)))
  (sSeq (sRet (mVar 2))
  sNil)))
  sNil)
 (sSeq (sSetIx (mVar 0) (mC (.int 2)) (mBin (fAdd false) (mBin fIx (mVar 0) (mC (.int 2))) (mC (.int 1))))
 (sSeq (sSet 3 (mBin fMod (mBin fPow (mBin (fAdd false) (mBin (fAdd false) (mBin fIx (mVar 0) (mC (.int 1))) (mBin (fMul false) (mC (.int 7919)) (mBin fIx (mVar 0) (mC (.int 2))))) (mC (.int 33))) (mC (.int 5))) (mC (.int 2147483647))))
 (sSeq (sSet 4 (mBin fMod (mBin fPow (mBin (fAdd false) (mBin (fAdd false) (mBin fFdiv (mVar 3) (mC (.int 8))) (mBin (fMul false) (mC (.int 104729)) (mBin fIx (mVar 0) (mC (.int 2))))) (mC (.int 13))) (mC (.int 3))) (mC (.int 2147483629))))
 (sSeq (sRet (mBin fMod (mBin (fAdd false) (mBin fFdiv (mVar 3) (mC (.int 4))) (mBin (fMul false) (mC (.int 536870909)) (mBin fFdiv (mVar 4) (mC (.int 4))))) (mVar 1)))
 sNil)))))
def f__law_take : Fn := callF true N__law_take.length m__law_take
theorem c__law_take : cDef N__law_take (top 21) [] [] cls = some m__law_take := by kernel_rfl
/-! _law_drawn -/
def N__law_drawn : List Str := ["_law_box_here", "_law_letters", "_law_k"]
def m__law_drawn : MS :=
 (sSeq (sSet 1 (mBin fIx (mOn (mk false) (mCons (mC (.str "abcdefghijklmnopqrstuvwxyz")) (mCons (mC (.str "ab")) (mCons (mC (.str "za")) mNil)))) (mOn f__law_take (mCons (mVar 0) (mCons (mC (.int 3)) mNil)))))
 (sSeq (sRet (mMeth "str" fJoin (mC (.str "")) (mCons (mComp false (iOn srcRange (mCons (mBin (fAdd false) (mC (.int 1)) (mOn f__law_take (mCons (mVar 0) (mCons (mC (.int 12)) mNil)))) mNil)) (.name 2) mYes (mBin fIx (mVar 1) (mOn f__law_take (mCons (mVar 0) (mCons (mOn fLen (mCons (mVar 1) mNil)) mNil)))) [2]) mNil)))
 sNil))
def f__law_drawn : Fn := callF true N__law_drawn.length m__law_drawn
theorem c__law_drawn : cDef N__law_drawn (top 22) [("_law_take", .fn f__law_take (some 2) [])] ["len", "range"] cls = some m__law_drawn := by kernel_rfl
/-! _law_steps -/
def N__law_steps : List Str := ["_law_word", "_law_letters", "_law_found", "_law_at", "_law_letter", "_law_turned", "_law_one"]
def m__law_steps : MS :=
 (sSeq (sSet 1 (mC (.str "abcdefghijklmnopqrstuvwxyz")))
 (sSeq (sSet 2 (mDic0 true))
 (sSeq (sFor (iOn srcRange (mCons (mBin (fAdd false) (mOn fLen (mCons (mVar 0) mNil)) (mC (.int 1))) mNil)) (.name 3)
  (sSeq (sFor (iSeq (mVar 1)) (.name 4)
   (sSeq (sSetIx (mVar 2) (mBin (fAdd false) (mBin (fAdd false) (mSl false (mVar 0) oNone (oSome (mVar 3))) (mVar 4)) (mSl false (mVar 0) (oSome (mVar 3)) oNone)) (mC (.bl true)))
   (sSeq (sIf (mTru (mBin fLt (mVar 3) (mOn fLen (mCons (mVar 0) mNil))))
    (sSeq (sSetIx (mVar 2) (mBin (fAdd false) (mBin (fAdd false) (mSl false (mVar 0) oNone (oSome (mVar 3))) (mVar 4)) (mSl false (mVar 0) (oSome (mBin (fAdd false) (mVar 3) (mC (.int 1)))) oNone)) (mC (.bl true)))
    sNil)
    sNil)
   sNil)))
  (sSeq (sIf (mTru (mBin fLt (mVar 3) (mOn fLen (mCons (mVar 0) mNil))))
   (sSeq (sSetIx (mVar 2) (mBin (fAdd false) (mSl false (mVar 0) oNone (oSome (mVar 3))) (mSl false (mVar 0) (oSome (mBin (fAdd false) (mVar 3) (mC (.int 1)))) oNone)) (mC (.bl true)))
   sNil)
   sNil)
  (sSeq (sIf (mTru (mChain fLt fLt (mC (.int 0)) (mVar 3) (mOn fLen (mCons (mVar 0) mNil))))
   (sSeq (sSet 5 (mBin (fAdd false) (mBin fIx (mVar 0) (mVar 3)) (mBin fIx (mVar 0) (mBin fSub (mVar 3) (mC (.int 1))))))
   (sSeq (sSetIx (mVar 2) (mBin (fAdd false) (mBin (fAdd false) (mSl false (mVar 0) oNone (oSome (mBin fSub (mVar 3) (mC (.int 1))))) (mVar 5)) (mSl false (mVar 0) (oSome (mBin (fAdd false) (mVar 3) (mC (.int 1)))) oNone)) (mC (.bl true)))
   sNil))
   sNil)
  sNil))))
 (sSeq (sRet (mOn (fDictOf false) (mCons (mCompD 0 (locV 2) false (.name 6) (tAndM (mTru (mChain fLt fLt (mC (.int 0)) (mOn fLen (mCons (mVar 6) mNil)) (mC (.int 13)))) (mTru (mBin fNe (mVar 6) (mVar 0)))) (mOn fTup (mCons (mVar 6) (mCons (mC (.bl true)) mNil))) [6]) mNil)))
 sNil))))
def f__law_steps : Fn := callF true N__law_steps.length m__law_steps
theorem c__law_steps : cDef N__law_steps (top 23) [] ["dict", "len", "range"] cls = some m__law_steps := by kernel_rfl
/-! _law_far -/
def N__law_far : List Str := ["_law_one", "_law_other", "_law_first", "_law_second", "_law_word"]
def m__law_far : MS :=
 (sSeq (sIf (mTru (mBin fEqX (mVar 0) (mVar 1)))
  (sSeq (sRet (mC (.int 0)))
  sNil)
  sNil)
 (sSeq (sSet 2 (mOn f__law_steps (mCons (mVar 0) mNil)))
 (sSeq (sIf (mTru (mBin fIn (mVar 1) (mVar 2)))
  (sSeq (sRet (mC (.int 1)))
  sNil)
  sNil)
 (sSeq (sSet 3 (mOn f__law_steps (mCons (mVar 1) mNil)))
 (sSeq (sRet (mIfM (mTru (mBin fNe (mCompD 0 (locV 2) false (.name 4) (mTru (mBin fIn (mVar 4) (mVar 3))) (mVar 4) [4]) (mOn (mk false) mNil))) (mC (.int 2)) (mC .non)))
 sNil)))))
def f__law_far : Fn := callF true N__law_far.length m__law_far
theorem c__law_far : cDef N__law_far (top 24) [("_law_steps", .fn f__law_steps (some 1) [])] [] cls = some m__law_far := by kernel_rfl
/-! _law_moved -/
def N__law_moved : List Str := ["_law_box_here", "_law_word", "_law_many", "_law_turn", "_law_some"]
def m__law_moved : MS :=
 (sSeq (sFor (iOn srcRange (mCons (mVar 2) mNil)) (.name 3)
  (sSeq (sSet 4 (mOn (fSorted false) (mCons (mOn f__law_steps (mCons (mVar 1) mNil)) mNil)))
  (sSeq (sSet 1 (mBin fIx (mVar 4) (mOn f__law_take (mCons (mVar 0) (mCons (mOn fLen (mCons (mVar 4) mNil)) mNil)))))
  sNil)))
 (sSeq (sRet (mVar 1))
 sNil))
def f__law_moved : Fn := callF true N__law_moved.length m__law_moved
theorem c__law_moved : cDef N__law_moved (top 25) [("_law_steps", .fn f__law_steps (some 1) []), ("_law_take", .fn f__law_take (some 2) [])] ["len", "range", "sorted"] cls = some m__law_moved := by kernel_rfl
/-! _law_parted -/
def N__law_parted : List Str := ["_law_box_here", "_law_word", "_law_at", "_law_letter", "_law_turned", "_law_some"]
def m__law_parted : MS :=
 (sSeq (sIf (mTru (mBin fLt (mOn fLen (mCons (mVar 1) mNil)) (mC (.int 2))))
  (sSeq (sRet (mVar 1))
  sNil)
  sNil)
 (sSeq (sSet 2 (mOn f__law_take (mCons (mVar 0) (mCons (mBin fSub (mOn fLen (mCons (mVar 1) mNil)) (mC (.int 1))) mNil))))
 (sSeq (sSet 3 (mBin fIx (mC (.str "abz")) (mOn f__law_take (mCons (mVar 0) (mCons (mC (.int 3)) mNil)))))
 (sSeq (sSet 4 (mBin (fAdd false) (mBin fIx (mVar 1) (mBin (fAdd false) (mVar 2) (mC (.int 1)))) (mBin fIx (mVar 1) (mVar 2))))
 (sSeq (sSet 5 (mOn (mk false) (mCons (mBin (fAdd false) (mBin (fAdd false) (mBin fIx (mVar 1) (mBin (fAdd false) (mVar 2) (mC (.int 1)))) (mVar 3)) (mBin fIx (mVar 1) (mVar 2))) (mCons (mBin fIx (mVar 1) (mBin (fAdd false) (mVar 2) (mC (.int 1)))) (mCons (mBin (fAdd false) (mVar 4) (mVar 3)) (mCons (mBin (fAdd false) (mVar 3) (mVar 4)) mNil))))))
 (sSeq (sRet (mSl false (mBin (fAdd false) (mBin (fAdd false) (mSl false (mVar 1) oNone (oSome (mVar 2))) (mBin fIx (mVar 5) (mOn f__law_take (mCons (mVar 0) (mCons (mC (.int 4)) mNil))))) (mSl false (mVar 1) (oSome (mBin (fAdd false) (mVar 2) (mC (.int 2)))) oNone)) oNone (oSome (mC (.int 12)))))
 sNil))))))
def f__law_parted : Fn := callF true N__law_parted.length m__law_parted
theorem c__law_parted : cDef N__law_parted (top 26) [("_law_take", .fn f__law_take (some 2) [])] ["len"] cls = some m__law_parted := by kernel_rfl
/-! has_only -/
def N_has_only : List Str := ["text", "signs", "sign"]
def m_has_only : MS :=
 (sSeq (sRet (mOn fAll (mCons (mComp false (iSeq (mVar 0)) (.name 2) mYes (mBin fIn (mVar 2) (mVar 1)) [2]) mNil)))
 sNil)
def f_has_only : Fn := callF true N_has_only.length m_has_only
theorem c_has_only : cDef N_has_only (top 7) [] ["all"] cls = some m_has_only := by kernel_rfl
/-! is_word -/
def N_is_word : List Str := ["thing", "first", "others"]
def m_is_word : MS :=
 (sSeq (sIf (tOrM (tNotM (mTru (mOn fIsi (mCons (mVar 0) (mCons (mC (.ty "str")) mNil))))) (tNotM (mTru (mChain fLe fLe (mC (.int 1)) (mOn fLen (mCons (mVar 0) mNil)) (mC (.int 12))))))
  (sSeq (sRet (mC (.bl false)))
  sNil)
  sNil)
 (sSeq (sStar false [1, 2] (mVar 0))
 (sSeq (sRet (mAndM (mOrM (mBin fIn (mVar 1) (mC (.str "abcdefghijklmnopqrstuvwxyz"))) (mBin fIn (mVar 1) (mC (.str "ABCDEFGHIJKLMNOPQRSTUVWXYZ")))) (mOn f_has_only (mCons (mVar 2) (mCons (mC (.str "abcdefghijklmnopqrstuvwxyz")) mNil)))))
 sNil)))
def f_is_word : Fn := callF true N_is_word.length m_is_word
theorem c_is_word : cDef N_is_word (top 8) [("GREAT", .val (.str "ABCDEFGHIJKLMNOPQRSTUVWXYZ")), ("LONGEST_WORD", .val (.int 12)), ("SMALL", .val (.str "abcdefghijklmnopqrstuvwxyz")), ("has_only", .fn f_has_only (some 2) [])] ["isinstance", "len", "str"] cls = some m_is_word := by kernel_rfl
/-! need_word -/
def N_need_word : List Str := ["thing"]
def m_need_word : MS :=
 (sSeq (sIf (tNotM (mTru (mOn f_is_word (mCons (mVar 0) mNil))))
  (sSeq sStuck
  sNil)
  sNil)
 sNil)
def f_need_word : Fn := callF true N_need_word.length m_need_word
theorem c_need_word : cDef N_need_word (top 9) [("is_word", .fn f_is_word (some 1) [])] [] cls = some m_need_word := by kernel_rfl
/-! small -/
def N_small : List Str := ["word"]
def m_small : MS :=
 (sSeq (sExpr (mOn f_need_word (mCons (mVar 0) mNil)))
 (sSeq (sRet (mBin (fAdd false) (mMeth "str" (fStr0 Txt.lower) (mBin fIx (mVar 0) (mC (.int 0))) mNil) (mSl false (mVar 0) (oSome (mC (.int 1))) oNone)))
 sNil))
def f_small : Fn := callF true N_small.length m_small
theorem c_small : cDef N_small (top 10) [("need_word", .fn f_need_word (some 1) [])] [] cls = some m_small := by kernel_rfl
/-! is_small -/
def N_is_small : List Str := ["thing"]
def m_is_small : MS :=
 (sSeq (sRet (mAndM (mOn f_is_word (mCons (mVar 0) mNil)) (mBin fEqX (mOn f_small (mCons (mVar 0) mNil)) (mVar 0))))
 sNil)
def f_is_small : Fn := callF true N_is_small.length m_is_small
theorem c_is_small : cDef N_is_small (top 13) [("is_word", .fn f_is_word (some 1) []), ("small", .fn f_small (some 1) [])] [] cls = some m_is_small := by kernel_rfl
/-! need_both -/
def N_need_both : List Str := ["one", "other"]
def m_need_both : MS :=
 (sSeq (sIf (tNotM (mTru (mOn f_is_small (mCons (mVar 0) mNil))))
  (sSeq sStuck
  sNil)
  sNil)
 (sSeq (sIf (tNotM (mTru (mOn f_is_small (mCons (mVar 1) mNil))))
  (sSeq sStuck
  sNil)
  sNil)
 sNil))
def f_need_both : Fn := callF true N_need_both.length m_need_both
theorem c_need_both : cDef N_need_both (top 14) [("is_small", .fn f_is_small (some 1) [])] [] cls = some m_need_both := by kernel_rfl
/-! fewest -/
def N_fewest : List Str := ["one", "other", "beyond", "table", "last", "i", "letter", "row", "here", "j", "sign", "there", "turned", "kept"]
def m_fewest : MS :=
 (sSeq (sSet 2 (mBin (fAdd false) (mOn fLen (mCons (mVar 0) mNil)) (mOn fLen (mCons (mVar 1) mNil))))
 (sSeq (sSet 3 (mOn (mk true) (mCons (mBin (fMul false) (mOn (mk false) (mCons (mVar 2) mNil)) (mBin (fAdd false) (mOn fLen (mCons (mVar 1) mNil)) (mC (.int 2)))) (mCons (mBin (fAdd false) (mOn (mk false) (mCons (mVar 2) mNil)) (mOn (fLR false) (mCons (mBin (fAdd false) (mOn fLen (mCons (mVar 1) mNil)) (mC (.int 1))) mNil))) mNil))))
 (sSeq (sSet 4 (mDic0 true))
 (sSeq (sFor (iEnumD (mVar 0)) (.tup [5, 6])
  (sSeq (sSet 7 (mOn (mk true) (mCons (mVar 2) (mCons (mBin (fAdd false) (mVar 5) (mC (.int 1))) mNil))))
  (sSeq (sExpr (mMeth "list" fAppend (mVar 3) (mCons (mVar 7) mNil)))
  (sSeq (sSet 8 (mC (.int 0)))
  (sSeq (sFor (iEnumD (mVar 1)) (.tup [9, 10])
   (sSeq (sSet 11 (mDMeth fGet (mVar 4) (mCons (mVar 10) (mCons (mC (.int 0)) mNil))))
   (sSeq (sSet 12 (mBin (fAdd false) (mBin (fAdd false) (mBin (fAdd false) (mBin fIx (mBin fIx (mVar 3) (mVar 11)) (mVar 8)) (mBin fSub (mVar 5) (mVar 11))) (mC (.int 1))) (mBin fSub (mVar 9) (mVar 8))))
   (sSeq (sSet 13 (mBin (fAdd false) (mBin fIx (mBin fIx (mVar 3) (mBin (fAdd false) (mVar 5) (mC (.int 1)))) (mBin (fAdd false) (mVar 9) (mC (.int 1)))) (mOn fIntOf (mCons (mBin fNe (mVar 6) (mVar 10)) mNil))))
   (sSeq (sExpr (mMeth "list" fAppend (mVar 7) (mCons (mOn fMin (mCons (mVar 13) (mCons (mBin (fAdd false) (mBin fIx (mVar 7) (mBin (fAdd false) (mVar 9) (mC (.int 1)))) (mC (.int 1))) (mCons (mBin (fAdd false) (mBin fIx (mBin fIx (mVar 3) (mBin (fAdd false) (mVar 5) (mC (.int 1)))) (mBin (fAdd false) (mVar 9) (mC (.int 2)))) (mC (.int 1))) (mCons (mVar 12) mNil))))) mNil)))
   (sSeq (sIf (mTru (mBin fEqX (mVar 6) (mVar 10)))
    (sSeq (sSet 8 (mBin (fAdd false) (mVar 9) (mC (.int 1))))
    sNil)
    sNil)
   sNil))))))
  (sSeq (sSetIx (mVar 4) (mVar 6) (mBin (fAdd false) (mVar 5) (mC (.int 1))))
  sNil))))))
 (sSeq (sRet (mBin fIx (mBin fIx (mVar 3) (mUn fNeg (mC (.int 1)))) (mUn fNeg (mC (.int 1)))))
 sNil)))))
def f_fewest : Fn := callF true N_fewest.length m_fewest
theorem c_fewest : cDef N_fewest (top 15) [] ["enumerate", "int", "len", "list", "min", "range"] cls = some m_fewest := by kernel_rfl
/-! steps_to -/
def N_steps_to : List Str := ["one", "other", "many"]
def m_steps_to : MS :=
 (sSeq (sIf (mTru (mBin fGt (mOn fAbs (mCons (mBin fSub (mOn fLen (mCons (mVar 0) mNil)) (mOn fLen (mCons (mVar 1) mNil))) mNil)) (mC (.int 2))))
  (sSeq (sRet (mC .non))
  sNil)
  sNil)
 (sSeq (sSet 2 (mOn f_fewest (mCons (mVar 0) (mCons (mVar 1) mNil))))
 (sSeq (sRet (mIfM (mTru (mBin fLe (mVar 2) (mC (.int 2)))) (mVar 2) (mC .non)))
 sNil)))
def f_steps_to : Fn := callF true N_steps_to.length m_steps_to
theorem c_steps_to : cDef N_steps_to (top 16) [("MOST_FAR", .val (.int 2)), ("fewest", .fn f_fewest (some 2) [])] ["abs", "len"] cls = some m_steps_to := by kernel_rfl
/-! far -/
def N_far : List Str := ["one", "other"]
def m_far : MS :=
 (sSeq (sExpr (mOn f_need_both (mCons (mVar 0) (mCons (mVar 1) mNil))))
 (sSeq (sRet (mOn f_steps_to (mCons (mVar 0) (mCons (mVar 1) mNil))))
 sNil))
def f_far : Fn := callF true N_far.length m_far
theorem c_far : cDef N_far (top 17) [("need_both", .fn f_need_both (some 2) []), ("steps_to", .fn f_steps_to (some 2) [])] [] cls = some m_far := by kernel_rfl
/-! law -/
def N_law : List Str := ["_law_script", "_law_k", "_law_box_here", "_law_word", "_law_others", "_law_other", "_law_due", "_law_many"]
def m_law : MS :=
 (sSeq (sFor (iOn srcRange (mCons (mOn fMax (mCons (mC (.int 2)) (mCons (mOn fMin (mCons (mC (.int 6)) (mCons (mOn fLen (mCons (mVar 0) mNil)) mNil))) mNil))) mNil)) (.name 1)
  (sSeq (sSet 2 (mOn f__law_box (mCons (mOn f__law_cell (mCons (mVar 0) (mCons (mVar 1) mNil))) mNil)))
  (sSeq (sSet 3 (mOn f__law_drawn (mCons (mVar 2) mNil)))
  (sSeq (sSet 4 (mOn (mk false) (mCons (mVar 3) (mCons (mOn f__law_drawn (mCons (mVar 2) mNil)) (mCons (mOn f__law_parted (mCons (mVar 2) (mCons (mVar 3) mNil))) (mCons (mUn (fRev false) (mVar 3)) mNil))))))
  (sSeq (sSet 4 (mBin (fAdd false) (mVar 4) (mComp false (iOn srcRange (mCons (mC (.int 1)) (mCons (mC (.int 5)) mNil))) (.name 7) mYes (mOn f__law_moved (mCons (mVar 2) (mCons (mVar 3) (mCons (mVar 7) mNil)))) [7])))
  (sSeq (sFor (iSeq (mVar 4)) (.name 5)
   (sSeq (sSet 6 (mOn f__law_far (mCons (mVar 3) (mCons (mVar 5) mNil))))
   (sSeq (sIf (tOrM (mTru (mBin fNe (mOn fRepr (mCons (mOn f_far (mCons (mVar 3) (mCons (mVar 5) mNil))) mNil)) (mOn fRepr (mCons (mVar 6) mNil)))) (mTru (mBin fNe (mOn fRepr (mCons (mOn f_far (mCons (mVar 5) (mCons (mVar 3) mNil))) mNil)) (mOn fRepr (mCons (mVar 6) mNil)))))
    (sSeq (sRet (mC (.bl false)))
    sNil)
    sNil)
   sNil)))
  sNil))))))
 (sSeq (sRet (mC (.bl true)))
 sNil))
def f_law : Fn := callF true N_law.length m_law
theorem c_law : cDef N_law (top 27) [("_law_box", .fn f__law_box (some 1) []), ("_law_cell", .fn f__law_cell (some 2) []), ("_law_drawn", .fn f__law_drawn (some 1) []), ("_law_far", .fn f__law_far (some 2) []), ("_law_moved", .fn f__law_moved (some 3) []), ("_law_parted", .fn f__law_parted (some 2) []), ("far", .fn f_far (some 2) [])] ["len", "max", "min", "range", "repr"] cls = some m_law := by kernel_rfl
section
variable {K : PySem.W.Frag} {mg : MG} {P : Program} {w : World} {base : Heap}
theorem k__law_box (H : Has K mg "_law_box" (top 20))  (b0 : mg "max" = none) : GOk K mg P w base 1 "_law_box" (.fn f__law_box (some 1) []) := by
  obtain ⟨a, fd, D, kV, dc, pm, an, cd, ct, e⟩ := H.ex
  subst e
  exact GOk.of (ps := ["_law_cell_here"]) D (Fk.of false D.fu (by kernel_rfl) (tab_nil) (by simp only [List.mem_cons, List.not_mem_nil, or_false]; rintro x (rfl) <;> assumption) c__law_box) (fun n hn => by cases hn; exact ⟨rfl, fun us hl => match us, hl with | [_], _ => rfl⟩) (sigs_nil)
theorem k__law_cell (H : Has K mg "_law_cell" (top 19))  (b0 : mg "len" = none) : GOk K mg P w base 1 "_law_cell" (.fn f__law_cell (some 2) []) := by
  obtain ⟨a, fd, D, kV, dc, pm, an, cd, ct, e⟩ := H.ex
  subst e
  exact GOk.of (ps := ["_law_script", "_law_k"]) D (Fk.of true D.fu (by kernel_rfl) (tab_nil) (by simp only [List.mem_cons, List.not_mem_nil, or_false]; rintro x (rfl) <;> assumption) c__law_cell) (fun n hn => by cases hn; exact ⟨rfl, fun us hl => match us, hl with | [_, _], _ => rfl⟩) (sigs_nil)
theorem k__law_take (H : Has K mg "_law_take" (top 21))   : GOk K mg P w base 1 "_law_take" (.fn f__law_take (some 2) []) := by
  obtain ⟨a, fd, D, kV, dc, pm, an, cd, ct, e⟩ := H.ex
  subst e
  exact GOk.of (ps := ["_law_box_here", "_law_most"]) D (Fk.of true D.fu (by kernel_rfl) (tab_nil) (fun x h => by cases h) c__law_take) (fun n hn => by cases hn; exact ⟨rfl, fun us hl => match us, hl with | [_, _], _ => rfl⟩) (sigs_nil)
theorem k__law_drawn (H : Has K mg "_law_drawn" (top 22)) (h0 : GOk K mg P w base 1 "_law_take" (.fn f__law_take (some 2) [])) (b0 : mg "len" = none) (b1 : mg "range" = none) : GOk K mg P w base 2 "_law_drawn" (.fn f__law_drawn (some 1) []) := by
  obtain ⟨a, fd, D, kV, dc, pm, an, cd, ct, e⟩ := H.ex
  subst e
  exact GOk.of (ps := ["_law_box_here"]) D (Fk.of true D.fu (by kernel_rfl) (tab_cons (h0.mono (by decide)) (tab_nil)) (by simp only [List.mem_cons, List.not_mem_nil, or_false]; rintro x (rfl | rfl) <;> assumption) c__law_drawn) (fun n hn => by cases hn; exact ⟨rfl, fun us hl => match us, hl with | [_], _ => rfl⟩) (sigs_nil)
theorem k__law_steps (H : Has K mg "_law_steps" (top 23))  (b0 : mg "dict" = none) (b1 : mg "len" = none) (b2 : mg "range" = none) : GOk K mg P w base 1 "_law_steps" (.fn f__law_steps (some 1) []) := by
  obtain ⟨a, fd, D, kV, dc, pm, an, cd, ct, e⟩ := H.ex
  subst e
  exact GOk.of (ps := ["_law_word"]) D (Fk.of true D.fu (by kernel_rfl) (tab_nil) (by simp only [List.mem_cons, List.not_mem_nil, or_false]; rintro x (rfl | rfl | rfl) <;> assumption) c__law_steps) (fun n hn => by cases hn; exact ⟨rfl, fun us hl => match us, hl with | [_], _ => rfl⟩) (sigs_nil)
theorem k__law_far (H : Has K mg "_law_far" (top 24)) (h0 : GOk K mg P w base 1 "_law_steps" (.fn f__law_steps (some 1) []))  : GOk K mg P w base 2 "_law_far" (.fn f__law_far (some 2) []) := by
  obtain ⟨a, fd, D, kV, dc, pm, an, cd, ct, e⟩ := H.ex
  subst e
  exact GOk.of (ps := ["_law_one", "_law_other"]) D (Fk.of true D.fu (by kernel_rfl) (tab_cons (h0.mono (by decide)) (tab_nil)) (fun x h => by cases h) c__law_far) (fun n hn => by cases hn; exact ⟨rfl, fun us hl => match us, hl with | [_, _], _ => rfl⟩) (sigs_nil)
theorem k__law_moved (H : Has K mg "_law_moved" (top 25)) (h0 : GOk K mg P w base 1 "_law_steps" (.fn f__law_steps (some 1) [])) (h1 : GOk K mg P w base 1 "_law_take" (.fn f__law_take (some 2) [])) (b0 : mg "len" = none) (b1 : mg "range" = none) (b2 : mg "sorted" = none) : GOk K mg P w base 2 "_law_moved" (.fn f__law_moved (some 3) []) := by
  obtain ⟨a, fd, D, kV, dc, pm, an, cd, ct, e⟩ := H.ex
  subst e
  exact GOk.of (ps := ["_law_box_here", "_law_word", "_law_many"]) D (Fk.of true D.fu (by kernel_rfl) (tab_cons (h0.mono (by decide)) (tab_cons (h1.mono (by decide)) (tab_nil))) (by simp only [List.mem_cons, List.not_mem_nil, or_false]; rintro x (rfl | rfl | rfl) <;> assumption) c__law_moved) (fun n hn => by cases hn; exact ⟨rfl, fun us hl => match us, hl with | [_, _, _], _ => rfl⟩) (sigs_nil)
theorem k__law_parted (H : Has K mg "_law_parted" (top 26)) (h0 : GOk K mg P w base 1 "_law_take" (.fn f__law_take (some 2) [])) (b0 : mg "len" = none) : GOk K mg P w base 2 "_law_parted" (.fn f__law_parted (some 2) []) := by
  obtain ⟨a, fd, D, kV, dc, pm, an, cd, ct, e⟩ := H.ex
  subst e
  exact GOk.of (ps := ["_law_box_here", "_law_word"]) D (Fk.of true D.fu (by kernel_rfl) (tab_cons (h0.mono (by decide)) (tab_nil)) (by simp only [List.mem_cons, List.not_mem_nil, or_false]; rintro x (rfl) <;> assumption) c__law_parted) (fun n hn => by cases hn; exact ⟨rfl, fun us hl => match us, hl with | [_, _], _ => rfl⟩) (sigs_nil)
theorem k_has_only (H : Has K mg "has_only" (top 7))  (b0 : mg "all" = none) : GOk K mg P w base 1 "has_only" (.fn f_has_only (some 2) []) := by
  obtain ⟨a, fd, D, kV, dc, pm, an, cd, ct, e⟩ := H.ex
  subst e
  exact GOk.of (ps := ["text", "signs"]) D (Fk.of true D.fu (by kernel_rfl) (tab_nil) (by simp only [List.mem_cons, List.not_mem_nil, or_false]; rintro x (rfl) <;> assumption) c_has_only) (fun n hn => by cases hn; exact ⟨rfl, fun us hl => match us, hl with | [_, _], _ => rfl⟩) (sigs_nil)
theorem k_is_word (H : Has K mg "is_word" (top 8)) (h0 : GOk K mg P w base 0 "GREAT" (.val (.str "ABCDEFGHIJKLMNOPQRSTUVWXYZ"))) (h1 : GOk K mg P w base 0 "LONGEST_WORD" (.val (.int 12))) (h2 : GOk K mg P w base 0 "SMALL" (.val (.str "abcdefghijklmnopqrstuvwxyz"))) (h3 : GOk K mg P w base 1 "has_only" (.fn f_has_only (some 2) [])) (b0 : mg "isinstance" = none) (b1 : mg "len" = none) (b2 : mg "str" = none) : GOk K mg P w base 2 "is_word" (.fn f_is_word (some 1) []) := by
  obtain ⟨a, fd, D, kV, dc, pm, an, cd, ct, e⟩ := H.ex
  subst e
  exact GOk.of (ps := ["thing"]) D (Fk.of true D.fu (by kernel_rfl) (tab_cons (h0.mono (by decide)) (tab_cons (h1.mono (by decide)) (tab_cons (h2.mono (by decide)) (tab_cons (h3.mono (by decide)) (tab_nil))))) (by simp only [List.mem_cons, List.not_mem_nil, or_false]; rintro x (rfl | rfl | rfl) <;> assumption) c_is_word) (fun n hn => by cases hn; exact ⟨rfl, fun us hl => match us, hl with | [_], _ => rfl⟩) (sigs_nil)
theorem k_need_word (H : Has K mg "need_word" (top 9)) (h0 : GOk K mg P w base 2 "is_word" (.fn f_is_word (some 1) []))  : GOk K mg P w base 3 "need_word" (.fn f_need_word (some 1) []) := by
  obtain ⟨a, fd, D, kV, dc, pm, an, cd, ct, e⟩ := H.ex
  subst e
  exact GOk.of (ps := ["thing"]) D (Fk.of true D.fu (by kernel_rfl) (tab_cons (h0.mono (by decide)) (tab_nil)) (fun x h => by cases h) c_need_word) (fun n hn => by cases hn; exact ⟨rfl, fun us hl => match us, hl with | [_], _ => rfl⟩) (sigs_nil)
theorem k_small (H : Has K mg "small" (top 10)) (h0 : GOk K mg P w base 3 "need_word" (.fn f_need_word (some 1) []))  : GOk K mg P w base 4 "small" (.fn f_small (some 1) []) := by
  obtain ⟨a, fd, D, kV, dc, pm, an, cd, ct, e⟩ := H.ex
  subst e
  exact GOk.of (ps := ["word"]) D (Fk.of true D.fu (by kernel_rfl) (tab_cons (h0.mono (by decide)) (tab_nil)) (fun x h => by cases h) c_small) (fun n hn => by cases hn; exact ⟨rfl, fun us hl => match us, hl with | [_], _ => rfl⟩) (sigs_nil)
theorem k_is_small (H : Has K mg "is_small" (top 13)) (h0 : GOk K mg P w base 2 "is_word" (.fn f_is_word (some 1) [])) (h1 : GOk K mg P w base 4 "small" (.fn f_small (some 1) []))  : GOk K mg P w base 5 "is_small" (.fn f_is_small (some 1) []) := by
  obtain ⟨a, fd, D, kV, dc, pm, an, cd, ct, e⟩ := H.ex
  subst e
  exact GOk.of (ps := ["thing"]) D (Fk.of true D.fu (by kernel_rfl) (tab_cons (h0.mono (by decide)) (tab_cons (h1.mono (by decide)) (tab_nil))) (fun x h => by cases h) c_is_small) (fun n hn => by cases hn; exact ⟨rfl, fun us hl => match us, hl with | [_], _ => rfl⟩) (sigs_nil)
theorem k_need_both (H : Has K mg "need_both" (top 14)) (h0 : GOk K mg P w base 5 "is_small" (.fn f_is_small (some 1) []))  : GOk K mg P w base 6 "need_both" (.fn f_need_both (some 2) []) := by
  obtain ⟨a, fd, D, kV, dc, pm, an, cd, ct, e⟩ := H.ex
  subst e
  exact GOk.of (ps := ["one", "other"]) D (Fk.of true D.fu (by kernel_rfl) (tab_cons (h0.mono (by decide)) (tab_nil)) (fun x h => by cases h) c_need_both) (fun n hn => by cases hn; exact ⟨rfl, fun us hl => match us, hl with | [_, _], _ => rfl⟩) (sigs_nil)
theorem k_fewest (H : Has K mg "fewest" (top 15))  (b0 : mg "enumerate" = none) (b1 : mg "int" = none) (b2 : mg "len" = none) (b3 : mg "list" = none) (b4 : mg "min" = none) (b5 : mg "range" = none) : GOk K mg P w base 1 "fewest" (.fn f_fewest (some 2) []) := by
  obtain ⟨a, fd, D, kV, dc, pm, an, cd, ct, e⟩ := H.ex
  subst e
  exact GOk.of (ps := ["one", "other"]) D (Fk.of true D.fu (by kernel_rfl) (tab_nil) (by simp only [List.mem_cons, List.not_mem_nil, or_false]; rintro x (rfl | rfl | rfl | rfl | rfl | rfl) <;> assumption) c_fewest) (fun n hn => by cases hn; exact ⟨rfl, fun us hl => match us, hl with | [_, _], _ => rfl⟩) (sigs_nil)
theorem k_steps_to (H : Has K mg "steps_to" (top 16)) (h0 : GOk K mg P w base 0 "MOST_FAR" (.val (.int 2))) (h1 : GOk K mg P w base 1 "fewest" (.fn f_fewest (some 2) [])) (b0 : mg "abs" = none) (b1 : mg "len" = none) : GOk K mg P w base 2 "steps_to" (.fn f_steps_to (some 2) []) := by
  obtain ⟨a, fd, D, kV, dc, pm, an, cd, ct, e⟩ := H.ex
  subst e
  exact GOk.of (ps := ["one", "other"]) D (Fk.of true D.fu (by kernel_rfl) (tab_cons (h0.mono (by decide)) (tab_cons (h1.mono (by decide)) (tab_nil))) (by simp only [List.mem_cons, List.not_mem_nil, or_false]; rintro x (rfl | rfl) <;> assumption) c_steps_to) (fun n hn => by cases hn; exact ⟨rfl, fun us hl => match us, hl with | [_, _], _ => rfl⟩) (sigs_nil)
theorem k_far (H : Has K mg "far" (top 17)) (h0 : GOk K mg P w base 6 "need_both" (.fn f_need_both (some 2) [])) (h1 : GOk K mg P w base 2 "steps_to" (.fn f_steps_to (some 2) []))  : GOk K mg P w base 7 "far" (.fn f_far (some 2) []) := by
  obtain ⟨a, fd, D, kV, dc, pm, an, cd, ct, e⟩ := H.ex
  subst e
  exact GOk.of (ps := ["one", "other"]) D (Fk.of true D.fu (by kernel_rfl) (tab_cons (h0.mono (by decide)) (tab_cons (h1.mono (by decide)) (tab_nil))) (fun x h => by cases h) c_far) (fun n hn => by cases hn; exact ⟨rfl, fun us hl => match us, hl with | [_, _], _ => rfl⟩) (sigs_nil)
theorem k_law {a : Addr} {fd : FuncData} (D : DefIn K mg "law" (top 27) a fd) (h0 : GOk K mg P w base 1 "_law_box" (.fn f__law_box (some 1) [])) (h1 : GOk K mg P w base 1 "_law_cell" (.fn f__law_cell (some 2) [])) (h2 : GOk K mg P w base 2 "_law_drawn" (.fn f__law_drawn (some 1) [])) (h3 : GOk K mg P w base 2 "_law_far" (.fn f__law_far (some 2) [])) (h4 : GOk K mg P w base 2 "_law_moved" (.fn f__law_moved (some 3) [])) (h5 : GOk K mg P w base 2 "_law_parted" (.fn f__law_parted (some 2) [])) (h6 : GOk K mg P w base 7 "far" (.fn f_far (some 2) [])) (b0 : mg "len" = none) (b1 : mg "max" = none) (b2 : mg "min" = none) (b3 : mg "range" = none) (b4 : mg "repr" = none) : Fk P w K mg base 8 a fd ["_law_script"] f_law :=
  Fk.of true D.fu (by kernel_rfl) (tab_cons (h0.mono (by decide)) (tab_cons (h1.mono (by decide)) (tab_cons (h2.mono (by decide)) (tab_cons (h3.mono (by decide)) (tab_cons (h4.mono (by decide)) (tab_cons (h5.mono (by decide)) (tab_cons (h6.mono (by decide)) (tab_nil)))))))) (by simp only [List.mem_cons, List.not_mem_nil, or_false]; rintro x (rfl | rfl | rfl | rfl | rfl) <;> assumption) c_law
end
theorem all {l : PySem.W.OpenLaw} {w : World} {K : PySem.W.Frag} {h : Heap} {mg : MG} {fa : Addr} (X : K.In h) (G : h.Ns mainGlobals mg) (hfa : mg "law" = some (.ref fa))
    {oc0 kV0 dc0 pm0 cd0 ct0 : Value} {od0 an0 : Option Addr} {sl0 : Array (Option Value)} {f0 : Addr}
    {oc1 kV1 dc1 pm1 cd1 ct1 : Value} {od1 an1 : Option Addr} {sl1 : Array (Option Value)} {f1 : Addr}
    {oc2 kV2 dc2 pm2 cd2 ct2 : Value} {od2 an2 : Option Addr} {sl2 : Array (Option Value)} {f2 : Addr}
    {oc3 kV3 dc3 pm3 cd3 ct3 : Value} {od3 an3 : Option Addr} {sl3 : Array (Option Value)} {f3 : Addr}
    {oc4 kV4 dc4 pm4 cd4 ct4 : Value} {od4 an4 : Option Addr} {sl4 : Array (Option Value)} {f4 : Addr}
    {oc5 kV5 dc5 pm5 cd5 ct5 : Value} {od5 an5 : Option Addr} {sl5 : Array (Option Value)} {f5 : Addr}
    {oc6 kV6 dc6 pm6 cd6 ct6 : Value} {od6 an6 : Option Addr} {sl6 : Array (Option Value)} {f6 : Addr}
    {oc7 kV7 dc7 pm7 cd7 ct7 : Value} {od7 an7 : Option Addr} {sl7 : Array (Option Value)} {f7 : Addr}
    {oc8 kV8 dc8 pm8 cd8 ct8 : Value} {od8 an8 : Option Addr} {sl8 : Array (Option Value)} {f8 : Addr}
    {oc9 kV9 dc9 pm9 cd9 ct9 : Value} {od9 an9 : Option Addr} {sl9 : Array (Option Value)} {f9 : Addr}
    {oc10 kV10 dc10 pm10 cd10 ct10 : Value} {od10 an10 : Option Addr} {sl10 : Array (Option Value)} {f10 : Addr}
    {oc11 kV11 dc11 pm11 cd11 ct11 : Value} {od11 an11 : Option Addr} {sl11 : Array (Option Value)} {f11 : Addr}
    {oc12 kV12 dc12 pm12 cd12 ct12 : Value} {od12 an12 : Option Addr} {sl12 : Array (Option Value)} {f12 : Addr}
    {oc13 kV13 dc13 pm13 cd13 ct13 : Value} {od13 an13 : Option Addr} {sl13 : Array (Option Value)} {f13 : Addr}
    {oc14 kV14 dc14 pm14 cd14 ct14 : Value} {od14 an14 : Option Addr} {sl14 : Array (Option Value)} {f14 : Addr}
    {oc15 kV15 dc15 pm15 cd15 ct15 : Value} {od15 an15 : Option Addr} {sl15 : Array (Option Value)} {f15 : Addr}
    {oc16 kV16 dc16 pm16 cd16 ct16 : Value} {od16 an16 : Option Addr} {sl16 : Array (Option Value)} {f16 : Addr}
    {oc17 kV17 dc17 pm17 cd17 ct17 : Value} {od17 an17 : Option Addr} {sl17 : Array (Option Value)} {f17 : Addr}
    {tk0 : Tok}
    {tk1 : Tok}
    {tk2 : Tok}
    {tk3 : Tok}
    (a0 : PySem.W.nsIn K mainGlobals "_law_box" = some (some (.ref f0)))
    (l0 : K.lookup f0 = some ⟨oc0, od0, .func (PySem.W.fnOf "_law_box" "_law_box" (defArgs (top 20)) (defBody (top 20)) (defScope (top 20)) .none kV0 dc0 pm0 an0 cd0 ct0), sl0⟩)
    (c0 : PySem.W.codeIn K cd0 "_law_box" = true) (k0 : PySem.W.keepIn K (.ref f0) = true)
    (a1 : PySem.W.nsIn K mainGlobals "_law_cell" = some (some (.ref f1)))
    (l1 : K.lookup f1 = some ⟨oc1, od1, .func (PySem.W.fnOf "_law_cell" "_law_cell" (defArgs (top 19)) (defBody (top 19)) (defScope (top 19)) .none kV1 dc1 pm1 an1 cd1 ct1), sl1⟩)
    (c1 : PySem.W.codeIn K cd1 "_law_cell" = true) (k1 : PySem.W.keepIn K (.ref f1) = true)
    (a2 : PySem.W.nsIn K mainGlobals "_law_take" = some (some (.ref f2)))
    (l2 : K.lookup f2 = some ⟨oc2, od2, .func (PySem.W.fnOf "_law_take" "_law_take" (defArgs (top 21)) (defBody (top 21)) (defScope (top 21)) .none kV2 dc2 pm2 an2 cd2 ct2), sl2⟩)
    (c2 : PySem.W.codeIn K cd2 "_law_take" = true) (k2 : PySem.W.keepIn K (.ref f2) = true)
    (a3 : PySem.W.nsIn K mainGlobals "_law_drawn" = some (some (.ref f3)))
    (l3 : K.lookup f3 = some ⟨oc3, od3, .func (PySem.W.fnOf "_law_drawn" "_law_drawn" (defArgs (top 22)) (defBody (top 22)) (defScope (top 22)) .none kV3 dc3 pm3 an3 cd3 ct3), sl3⟩)
    (c3 : PySem.W.codeIn K cd3 "_law_drawn" = true) (k3 : PySem.W.keepIn K (.ref f3) = true)
    (a4 : PySem.W.nsIn K mainGlobals "_law_steps" = some (some (.ref f4)))
    (l4 : K.lookup f4 = some ⟨oc4, od4, .func (PySem.W.fnOf "_law_steps" "_law_steps" (defArgs (top 23)) (defBody (top 23)) (defScope (top 23)) .none kV4 dc4 pm4 an4 cd4 ct4), sl4⟩)
    (c4 : PySem.W.codeIn K cd4 "_law_steps" = true) (k4 : PySem.W.keepIn K (.ref f4) = true)
    (a5 : PySem.W.nsIn K mainGlobals "_law_far" = some (some (.ref f5)))
    (l5 : K.lookup f5 = some ⟨oc5, od5, .func (PySem.W.fnOf "_law_far" "_law_far" (defArgs (top 24)) (defBody (top 24)) (defScope (top 24)) .none kV5 dc5 pm5 an5 cd5 ct5), sl5⟩)
    (c5 : PySem.W.codeIn K cd5 "_law_far" = true) (k5 : PySem.W.keepIn K (.ref f5) = true)
    (a6 : PySem.W.nsIn K mainGlobals "_law_moved" = some (some (.ref f6)))
    (l6 : K.lookup f6 = some ⟨oc6, od6, .func (PySem.W.fnOf "_law_moved" "_law_moved" (defArgs (top 25)) (defBody (top 25)) (defScope (top 25)) .none kV6 dc6 pm6 an6 cd6 ct6), sl6⟩)
    (c6 : PySem.W.codeIn K cd6 "_law_moved" = true) (k6 : PySem.W.keepIn K (.ref f6) = true)
    (a7 : PySem.W.nsIn K mainGlobals "_law_parted" = some (some (.ref f7)))
    (l7 : K.lookup f7 = some ⟨oc7, od7, .func (PySem.W.fnOf "_law_parted" "_law_parted" (defArgs (top 26)) (defBody (top 26)) (defScope (top 26)) .none kV7 dc7 pm7 an7 cd7 ct7), sl7⟩)
    (c7 : PySem.W.codeIn K cd7 "_law_parted" = true) (k7 : PySem.W.keepIn K (.ref f7) = true)
    (a8 : PySem.W.nsIn K mainGlobals "has_only" = some (some (.ref f8)))
    (l8 : K.lookup f8 = some ⟨oc8, od8, .func (PySem.W.fnOf "has_only" "has_only" (defArgs (top 7)) (defBody (top 7)) (defScope (top 7)) .none kV8 dc8 pm8 an8 cd8 ct8), sl8⟩)
    (c8 : PySem.W.codeIn K cd8 "has_only" = true) (k8 : PySem.W.keepIn K (.ref f8) = true)
    (a9 : PySem.W.nsIn K mainGlobals "is_word" = some (some (.ref f9)))
    (l9 : K.lookup f9 = some ⟨oc9, od9, .func (PySem.W.fnOf "is_word" "is_word" (defArgs (top 8)) (defBody (top 8)) (defScope (top 8)) .none kV9 dc9 pm9 an9 cd9 ct9), sl9⟩)
    (c9 : PySem.W.codeIn K cd9 "is_word" = true) (k9 : PySem.W.keepIn K (.ref f9) = true)
    (a10 : PySem.W.nsIn K mainGlobals "need_word" = some (some (.ref f10)))
    (l10 : K.lookup f10 = some ⟨oc10, od10, .func (PySem.W.fnOf "need_word" "need_word" (defArgs (top 9)) (defBody (top 9)) (defScope (top 9)) .none kV10 dc10 pm10 an10 cd10 ct10), sl10⟩)
    (c10 : PySem.W.codeIn K cd10 "need_word" = true) (k10 : PySem.W.keepIn K (.ref f10) = true)
    (a11 : PySem.W.nsIn K mainGlobals "small" = some (some (.ref f11)))
    (l11 : K.lookup f11 = some ⟨oc11, od11, .func (PySem.W.fnOf "small" "small" (defArgs (top 10)) (defBody (top 10)) (defScope (top 10)) .none kV11 dc11 pm11 an11 cd11 ct11), sl11⟩)
    (c11 : PySem.W.codeIn K cd11 "small" = true) (k11 : PySem.W.keepIn K (.ref f11) = true)
    (a12 : PySem.W.nsIn K mainGlobals "is_small" = some (some (.ref f12)))
    (l12 : K.lookup f12 = some ⟨oc12, od12, .func (PySem.W.fnOf "is_small" "is_small" (defArgs (top 13)) (defBody (top 13)) (defScope (top 13)) .none kV12 dc12 pm12 an12 cd12 ct12), sl12⟩)
    (c12 : PySem.W.codeIn K cd12 "is_small" = true) (k12 : PySem.W.keepIn K (.ref f12) = true)
    (a13 : PySem.W.nsIn K mainGlobals "need_both" = some (some (.ref f13)))
    (l13 : K.lookup f13 = some ⟨oc13, od13, .func (PySem.W.fnOf "need_both" "need_both" (defArgs (top 14)) (defBody (top 14)) (defScope (top 14)) .none kV13 dc13 pm13 an13 cd13 ct13), sl13⟩)
    (c13 : PySem.W.codeIn K cd13 "need_both" = true) (k13 : PySem.W.keepIn K (.ref f13) = true)
    (a14 : PySem.W.nsIn K mainGlobals "fewest" = some (some (.ref f14)))
    (l14 : K.lookup f14 = some ⟨oc14, od14, .func (PySem.W.fnOf "fewest" "fewest" (defArgs (top 15)) (defBody (top 15)) (defScope (top 15)) .none kV14 dc14 pm14 an14 cd14 ct14), sl14⟩)
    (c14 : PySem.W.codeIn K cd14 "fewest" = true) (k14 : PySem.W.keepIn K (.ref f14) = true)
    (a15 : PySem.W.nsIn K mainGlobals "steps_to" = some (some (.ref f15)))
    (l15 : K.lookup f15 = some ⟨oc15, od15, .func (PySem.W.fnOf "steps_to" "steps_to" (defArgs (top 16)) (defBody (top 16)) (defScope (top 16)) .none kV15 dc15 pm15 an15 cd15 ct15), sl15⟩)
    (c15 : PySem.W.codeIn K cd15 "steps_to" = true) (k15 : PySem.W.keepIn K (.ref f15) = true)
    (a16 : PySem.W.nsIn K mainGlobals "far" = some (some (.ref f16)))
    (l16 : K.lookup f16 = some ⟨oc16, od16, .func (PySem.W.fnOf "far" "far" (defArgs (top 17)) (defBody (top 17)) (defScope (top 17)) .none kV16 dc16 pm16 an16 cd16 ct16), sl16⟩)
    (c16 : PySem.W.codeIn K cd16 "far" = true) (k16 : PySem.W.keepIn K (.ref f16) = true)
    (a17 : PySem.W.nsIn K mainGlobals "law" = some (some (.ref f17)))
    (l17 : K.lookup f17 = some ⟨oc17, od17, .func (PySem.W.fnOf "law" "law" (defArgs (top 27)) (defBody (top 27)) (defScope (top 27)) .none kV17 dc17 pm17 an17 cd17 ct17), sl17⟩)
    (c17 : PySem.W.codeIn K cd17 "law" = true) (k17 : PySem.W.keepIn K (.ref f17) = true)
    (v0 : PySem.W.nsIn K mainGlobals "SMALL" = some (some (.str "abcdefghijklmnopqrstuvwxyz" tk0)))
    (v1 : PySem.W.nsIn K mainGlobals "GREAT" = some (some (.str "ABCDEFGHIJKLMNOPQRSTUVWXYZ" tk1)))
    (v2 : PySem.W.nsIn K mainGlobals "LONGEST_WORD" = some (some (.int 12 tk2)))
    (v3 : PySem.W.nsIn K mainGlobals "MOST_FAR" = some (some (.int 2 tk3)))
    (z0 : PySem.W.nsIn K mainGlobals "abs" = some none)
    (z1 : PySem.W.nsIn K mainGlobals "all" = some none)
    (z2 : PySem.W.nsIn K mainGlobals "dict" = some none)
    (z3 : PySem.W.nsIn K mainGlobals "enumerate" = some none)
    (z4 : PySem.W.nsIn K mainGlobals "int" = some none)
    (z5 : PySem.W.nsIn K mainGlobals "isinstance" = some none)
    (z6 : PySem.W.nsIn K mainGlobals "len" = some none)
    (z7 : PySem.W.nsIn K mainGlobals "list" = some none)
    (z8 : PySem.W.nsIn K mainGlobals "max" = some none)
    (z9 : PySem.W.nsIn K mainGlobals "min" = some none)
    (z10 : PySem.W.nsIn K mainGlobals "range" = some none)
    (z11 : PySem.W.nsIn K mainGlobals "repr" = some none)
    (z12 : PySem.W.nsIn K mainGlobals "sorted" = some none)
    (z13 : PySem.W.nsIn K mainGlobals "str" = some none)
    (pure : ∀ ns : List Int, ns.length ≤ 63 → ∃ st, f_law [.scr ns] [] = .ok (.bl true) st) :
    ∃ (fd : FuncData) (f : Fn), (∀ (s : Shared) (u : Value), BindsTo s fd ⟨[u], []⟩ [("_law_script", u)]) ∧ (∀ ns : List Int, ns.length ≤ 63 → ∃ st, f [.scr ns] [] = .ok (.bl true) st) ∧ ∀ base : Heap, K.In base → base.Ns mainGlobals mg → Fk l.prog w K mg base 8 fa fd ["_law_script"] f := by
  have bz_abs := PySem.W.mg_none_of X G z0
  have bz_all := PySem.W.mg_none_of X G z1
  have bz_dict := PySem.W.mg_none_of X G z2
  have bz_enumerate := PySem.W.mg_none_of X G z3
  have bz_int := PySem.W.mg_none_of X G z4
  have bz_isinstance := PySem.W.mg_none_of X G z5
  have bz_len := PySem.W.mg_none_of X G z6
  have bz_list := PySem.W.mg_none_of X G z7
  have bz_max := PySem.W.mg_none_of X G z8
  have bz_min := PySem.W.mg_none_of X G z9
  have bz_range := PySem.W.mg_none_of X G z10
  have bz_repr := PySem.W.mg_none_of X G z11
  have bz_sorted := PySem.W.mg_none_of X G z12
  have bz_str := PySem.W.mg_none_of X G z13
  have hd__law_box : Has K mg "_law_box" (top 20) := Has.of X G a0 l0 c0 k0
  have hd__law_cell : Has K mg "_law_cell" (top 19) := Has.of X G a1 l1 c1 k1
  have hd__law_take : Has K mg "_law_take" (top 21) := Has.of X G a2 l2 c2 k2
  have hd__law_drawn : Has K mg "_law_drawn" (top 22) := Has.of X G a3 l3 c3 k3
  have hd__law_steps : Has K mg "_law_steps" (top 23) := Has.of X G a4 l4 c4 k4
  have hd__law_far : Has K mg "_law_far" (top 24) := Has.of X G a5 l5 c5 k5
  have hd__law_moved : Has K mg "_law_moved" (top 25) := Has.of X G a6 l6 c6 k6
  have hd__law_parted : Has K mg "_law_parted" (top 26) := Has.of X G a7 l7 c7 k7
  have hd_has_only : Has K mg "has_only" (top 7) := Has.of X G a8 l8 c8 k8
  have hd_is_word : Has K mg "is_word" (top 8) := Has.of X G a9 l9 c9 k9
  have hd_need_word : Has K mg "need_word" (top 9) := Has.of X G a10 l10 c10 k10
  have hd_small : Has K mg "small" (top 10) := Has.of X G a11 l11 c11 k11
  have hd_is_small : Has K mg "is_small" (top 13) := Has.of X G a12 l12 c12 k12
  have hd_need_both : Has K mg "need_both" (top 14) := Has.of X G a13 l13 c13 k13
  have hd_fewest : Has K mg "fewest" (top 15) := Has.of X G a14 l14 c14 k14
  have hd_steps_to : Has K mg "steps_to" (top 16) := Has.of X G a15 l15 c15 k15
  have hd_far : Has K mg "far" (top 17) := Has.of X G a16 l16 c16 k16
  cases hfa.symm.trans (PySem.W.mg_of X G a17)
  refine ⟨PySem.W.fnOf "law" "law" (defArgs (top 27)) (defBody (top 27)) (defScope (top 27)) .none kV17 dc17 pm17 an17 cd17 ct17, f_law, fun s u => .of_eq rfl, pure, fun base KB NB => ?_⟩
  have co_SMALL : GOk K mg l.prog w base 0 "SMALL" (.val (.str "abcdefghijklmnopqrstuvwxyz")) := .val (PySem.W.mg_of X G v0) (show RelV (.str _) _ from ⟨_, rfl⟩) fun g => .str _
  have co_GREAT : GOk K mg l.prog w base 0 "GREAT" (.val (.str "ABCDEFGHIJKLMNOPQRSTUVWXYZ")) := .val (PySem.W.mg_of X G v1) (show RelV (.str _) _ from ⟨_, rfl⟩) fun g => .str _
  have co_LONGEST_WORD : GOk K mg l.prog w base 0 "LONGEST_WORD" (.val (.int 12)) := .val (PySem.W.mg_of X G v2) (show RelV (.int _) _ from ⟨_, rfl⟩) fun g => .int _
  have co_MOST_FAR : GOk K mg l.prog w base 0 "MOST_FAR" (.val (.int 2)) := .val (PySem.W.mg_of X G v3) (show RelV (.int _) _ from ⟨_, rfl⟩) fun g => .int _
  have fn__law_box := k__law_box (P := l.prog) (w := w) (base := base) hd__law_box  bz_max
  have fn__law_cell := k__law_cell (P := l.prog) (w := w) (base := base) hd__law_cell  bz_len
  have fn__law_take := k__law_take (P := l.prog) (w := w) (base := base) hd__law_take  
  have fn__law_drawn := k__law_drawn (P := l.prog) (w := w) (base := base) hd__law_drawn fn__law_take bz_len bz_range
  have fn__law_steps := k__law_steps (P := l.prog) (w := w) (base := base) hd__law_steps  bz_dict bz_len bz_range
  have fn__law_far := k__law_far (P := l.prog) (w := w) (base := base) hd__law_far fn__law_steps 
  have fn__law_moved := k__law_moved (P := l.prog) (w := w) (base := base) hd__law_moved fn__law_steps fn__law_take bz_len bz_range bz_sorted
  have fn__law_parted := k__law_parted (P := l.prog) (w := w) (base := base) hd__law_parted fn__law_take bz_len
  have fn_has_only := k_has_only (P := l.prog) (w := w) (base := base) hd_has_only  bz_all
  have fn_is_word := k_is_word (P := l.prog) (w := w) (base := base) hd_is_word co_GREAT co_LONGEST_WORD co_SMALL fn_has_only bz_isinstance bz_len bz_str
  have fn_need_word := k_need_word (P := l.prog) (w := w) (base := base) hd_need_word fn_is_word 
  have fn_small := k_small (P := l.prog) (w := w) (base := base) hd_small fn_need_word 
  have fn_is_small := k_is_small (P := l.prog) (w := w) (base := base) hd_is_small fn_is_word fn_small 
  have fn_need_both := k_need_both (P := l.prog) (w := w) (base := base) hd_need_both fn_is_small 
  have fn_fewest := k_fewest (P := l.prog) (w := w) (base := base) hd_fewest  bz_enumerate bz_int bz_len bz_list bz_min bz_range
  have fn_steps_to := k_steps_to (P := l.prog) (w := w) (base := base) hd_steps_to co_MOST_FAR fn_fewest bz_abs bz_len
  have fn_far := k_far (P := l.prog) (w := w) (base := base) hd_far fn_need_both fn_steps_to 
  exact k_law ⟨fun_mk l17 c17 k17, a17, hfa⟩ fn__law_box fn__law_cell fn__law_drawn fn__law_far fn__law_moved fn__law_parted fn_far bz_len bz_max bz_min bz_range bz_repr
end P3.Law

/-! U10: what the program's defs say of words. -/
namespace P3.Law
open PySem PySem.Spec PyProof.Rows L2 P3
def isSm (c : Nat) : Bool := inStr ⟨#[c]⟩ "abcdefghijklmnopqrstuvwxyz"
def isGr (c : Nat) : Bool := inStr ⟨#[c]⟩ "ABCDEFGHIJKLMNOPQRSTUVWXYZ"
theorem sm_c {c : Nat} : inStr ⟨#[c]⟩ "abcdefghijklmnopqrstuvwxyz" = isSm c := rfl
theorem gr_c {c : Nat} : inStr ⟨#[c]⟩ "ABCDEFGHIJKLMNOPQRSTUVWXYZ" = isGr c := rfl
theorem sm_not_gr (c : Nat) (h : isSm c = true) : isGr c = false := by
  unfold isSm at h
  unfold isGr
  rw [inStr_one] at h ⊢
  have h : c ∈ (Str.ofString "abcdefghijklmnopqrstuvwxyz").cps.toList := by simpa using h
  have key : ((Str.ofString "abcdefghijklmnopqrstuvwxyz").cps.toList.all fun c => decide (c ∉ (Str.ofString "ABCDEFGHIJKLMNOPQRSTUVWXYZ").cps.toList)) = true := by decide +kernel
  rw [List.all_eq_true] at key
  have := key c h
  simpa using this
/-! the program's side -/
theorem only_str {z S : Str} {st : Sto} (hz : z.length ≤ 100000) : f_has_only [.str z, .str S] st = .ok (.bl (z.cps.toList.all fun c => inStr ⟨#[c]⟩ S)) st := by
  refine res_eq ?_
  unfold f_has_only
  rw [wp_call]
  show ws (m_has_only [some (.str z), some (.str S), none] st) _
  unfold m_has_only
  simp -implicitDefEqProofs -dsimp only [ws_seq, ws_ite, wp_ite, brk_t, brk_f, opt_some, ap_sIf, ap_sSet, ap_sRet, ap_sRetN, ap_sExpr, ap_sNil, ap_sBk, ap_sCt, ws_asg, ws_par, ws_par3, ws_toS, ws_nx, ws_rt, ws_bk, ws_ct, wp_tru, wp_notM, wp_andM, wp_orM, wp_chain, ap_mBin, ap_mUn, ap_mOn, ap_mCons, ap_mNil, ap_mKw, ap_mMeth, ap_mSl, ap_oNone, ap_oSome, ap_tAnd, ap_tOr, ap_tNot, ap_mIf, ap_mYes, wp_bind, ap_mVar, ap_mC, wp_ok, wp_optR, slot_0, slot_s, tru_bl, tru_int, tru_lst, tru_tup, tru_non, asBl_bl, asInt_int, asTwo_ap, asThree_ap, if_true, if_false, Bool.false_eq_true, Bool.not_true, Bool.not_false, fin_bl, fin_int, fin_str, fin_non, List.set_cons_succ, List.set_cons_zero]
  rw [comp_all (S := srcZ z) (fun x => .bl (match x with | .str y => inStr y S | _ => false)) rfl static_Z (by rw [signs_len]; exact hz) fun x hx => ?_]
  · simp -implicitDefEqProofs -dsimp only [ws_seq, ws_ite, wp_ite, brk_t, brk_f, opt_some, ap_sIf, ap_sSet, ap_sRet, ap_sRetN, ap_sExpr, ap_sNil, ap_sBk, ap_sCt, ws_asg, ws_par, ws_par3, ws_toS, ws_nx, ws_rt, ws_bk, ws_ct, wp_tru, wp_notM, wp_andM, wp_orM, wp_chain, ap_mBin, ap_mUn, ap_mOn, ap_mCons, ap_mNil, ap_mKw, ap_mMeth, ap_mSl, ap_oNone, ap_oSome, ap_tAnd, ap_tOr, ap_tNot, ap_mIf, ap_mYes, wp_bind, ap_mVar, ap_mC, wp_ok, wp_optR, slot_0, slot_s, tru_bl, tru_int, tru_lst, tru_tup, tru_non, asBl_bl, asInt_int, asTwo_ap, asThree_ap, if_true, if_false, Bool.false_eq_true, Bool.not_true, Bool.not_false, fin_bl, fin_int, fin_str, fin_non, List.set_cons_succ, List.set_cons_zero, all_map, signs_all]
    all_goals (first | trivial | exact ⟨rfl, rfl⟩ | exact ⟨rfl, trivial⟩ | exact ⟨trivial, trivial⟩)
  · obtain ⟨c, _, rfl⟩ := List.mem_map.mp hx
    exact ⟨_, rfl, fun st => ⟨rfl, fun _ => rfl⟩⟩
theorem only_lst {l : List Nat} {S : Str} {st : Sto} (hz : l.length ≤ 100000) : f_has_only [.lst (l.map fun c => .str ⟨#[c]⟩), .str S] st = .ok (.bl (l.all fun c => inStr ⟨#[c]⟩ S)) st := by
  refine res_eq ?_
  unfold f_has_only
  rw [wp_call]
  show ws (m_has_only [some (.lst _), some (.str S), none] st) _
  unfold m_has_only
  simp -implicitDefEqProofs -dsimp only [ws_seq, ws_ite, wp_ite, brk_t, brk_f, opt_some, ap_sIf, ap_sSet, ap_sRet, ap_sRetN, ap_sExpr, ap_sNil, ap_sBk, ap_sCt, ws_asg, ws_par, ws_par3, ws_toS, ws_nx, ws_rt, ws_bk, ws_ct, wp_tru, wp_notM, wp_andM, wp_orM, wp_chain, ap_mBin, ap_mUn, ap_mOn, ap_mCons, ap_mNil, ap_mKw, ap_mMeth, ap_mSl, ap_oNone, ap_oSome, ap_tAnd, ap_tOr, ap_tNot, ap_mIf, ap_mYes, wp_bind, ap_mVar, ap_mC, wp_ok, wp_optR, slot_0, slot_s, tru_bl, tru_int, tru_lst, tru_tup, tru_non, asBl_bl, asInt_int, asTwo_ap, asThree_ap, if_true, if_false, Bool.false_eq_true, Bool.not_true, Bool.not_false, fin_bl, fin_int, fin_str, fin_non, List.set_cons_succ, List.set_cons_zero]
  rw [comp_all (S := srcL (.lst (l.map fun c => D.str ⟨#[c]⟩)) _) (fun x => .bl (match x with | .str y => inStr y S | _ => false)) rfl (static_L (Nat.lt_succ_self _)) (by rw [List.length_map]; exact hz) fun x hx => ?_]
  · simp -implicitDefEqProofs -dsimp only [ws_seq, ws_ite, wp_ite, brk_t, brk_f, opt_some, ap_sIf, ap_sSet, ap_sRet, ap_sRetN, ap_sExpr, ap_sNil, ap_sBk, ap_sCt, ws_asg, ws_par, ws_par3, ws_toS, ws_nx, ws_rt, ws_bk, ws_ct, wp_tru, wp_notM, wp_andM, wp_orM, wp_chain, ap_mBin, ap_mUn, ap_mOn, ap_mCons, ap_mNil, ap_mKw, ap_mMeth, ap_mSl, ap_oNone, ap_oSome, ap_tAnd, ap_tOr, ap_tNot, ap_mIf, ap_mYes, wp_bind, ap_mVar, ap_mC, wp_ok, wp_optR, slot_0, slot_s, tru_bl, tru_int, tru_lst, tru_tup, tru_non, asBl_bl, asInt_int, asTwo_ap, asThree_ap, if_true, if_false, Bool.false_eq_true, Bool.not_true, Bool.not_false, fin_bl, fin_int, fin_str, fin_non, List.set_cons_succ, List.set_cons_zero, all_map, List.all_map]
    all_goals (first | trivial | exact ⟨rfl, rfl⟩ | exact ⟨rfl, trivial⟩ | exact ⟨trivial, trivial⟩)
  · obtain ⟨c, _, rfl⟩ := List.mem_map.mp hx
    exact ⟨_, rfl, fun st => ⟨rfl, fun _ => rfl⟩⟩
theorem only_small {z : Str} {st : Sto} (hz : z.length ≤ 100000) : f_has_only [.str z, .str "abcdefghijklmnopqrstuvwxyz"] st = .ok (.bl (z.cps.toList.all isSm)) st := only_str hz
theorem only_smalls {l : List Nat} {st : Sto} (hz : l.length ≤ 100000) : f_has_only [.lst (l.map fun c => .str ⟨#[c]⟩), .str "abcdefghijklmnopqrstuvwxyz"] st = .ok (.bl (l.all isSm)) st := only_lst hz
def wordB : D → Bool
  | .str z => decide ((1 : Int) ≤ z.length) && decide ((z.length : Int) ≤ 12) && (isSm z.cps[0]! || isGr z.cps[0]!) && (z.cps.toList.drop 1).all isSm
  | _ => false
theorem wordB_str {z : Str} : wordB (.str z) = (decide ((1 : Int) ≤ z.length) && decide ((z.length : Int) ≤ 12) && (isSm z.cps[0]! || isGr z.cps[0]!) && (z.cps.toList.drop 1).all isSm) := rfl
theorem word_ap {d : D} {st : Sto} (h : Gd d) : f_is_word [d] st = .ok (.bl (wordB d)) st := by
  refine res_eq ?_
  unfold f_is_word
  rw [wp_call]
  show ws (m_is_word [some d, none, none] st) _
  unfold m_is_word
  simp -implicitDefEqProofs -dsimp only [ws_seq, ws_ite, wp_ite, brk_t, brk_f, opt_some, ap_sIf, ap_sSet, ap_sRet, ap_sRetN, ap_sExpr, ap_sNil, ap_sBk, ap_sCt, ws_asg, ws_par, ws_par3, ws_toS, ws_nx, ws_rt, ws_bk, ws_ct, wp_tru, wp_notM, wp_andM, wp_orM, wp_chain, ap_mBin, ap_mUn, ap_mOn, ap_mCons, ap_mNil, ap_mKw, ap_mMeth, ap_mSl, ap_oNone, ap_oSome, ap_tAnd, ap_tOr, ap_tNot, ap_mIf, ap_mYes, wp_bind, ap_mVar, ap_mC, wp_ok, wp_optR, slot_0, slot_s, tru_bl, tru_int, tru_lst, tru_tup, tru_non, asBl_bl, asInt_int, asTwo_ap, asThree_ap, if_true, if_false, Bool.false_eq_true, Bool.not_true, Bool.not_false, fin_bl, fin_int, fin_str, fin_non, List.set_cons_succ, List.set_cons_zero, isi_pl h.1 str_in, isi_str h.1]
  cases d with
  | str z =>
    repeat' (first | simp -implicitDefEqProofs -dsimp only [ws_seq, ws_ite, wp_ite, brk_t, brk_f, opt_some, ap_sIf, ap_sSet, ap_sRet, ap_sRetN, ap_sExpr, ap_sNil, ap_sBk, ap_sCt, ws_asg, ws_par, ws_par3, ws_toS, ws_nx, ws_rt, ws_bk, ws_ct, wp_tru, wp_notM, wp_andM, wp_orM, wp_chain, ap_mBin, ap_mUn, ap_mOn, ap_mCons, ap_mNil, ap_mKw, ap_mMeth, ap_mSl, ap_oNone, ap_oSome, ap_tAnd, ap_tOr, ap_tNot, ap_mIf, ap_mYes, wp_bind, ap_mVar, ap_mC, wp_ok, wp_optR, slot_0, slot_s, tru_bl, tru_int, tru_lst, tru_tup, tru_non, asBl_bl, asInt_int, asTwo_ap, asThree_ap, if_true, if_false, Bool.false_eq_true, Bool.not_true, Bool.not_false, fin_bl, fin_int, fin_str, fin_non, List.set_cons_succ, List.set_cons_zero, isStrD, Bool.not_true, Bool.not_false, len_str h.str, le_int] | refine brk_if (fun hbr => ?_) (fun hbr => ?_))
    · simp_all [wordB] <;> intros <;> omega
    · rename_i h1
      have hl := h.str
      have h1' : 0 < z.cps.size := by
        have : (1 : Int) ≤ (z.length : Int) := by simpa using h1
        have h3 : z.length = z.cps.size := rfl
        omega
      have e0 : starL (.str z) st = some (signs z) := by
        show (if z.length ≤ 100000 then some (signs z) else none) = _
        rw [if_pos hl]
      have es : signs z = D.str ⟨#[z.cps[0]!]⟩ :: (z.cps.toList.drop 1).map fun c => D.str ⟨#[c]⟩ := by
        unfold signs
        have : z.cps.toList = z.cps[0]! :: z.cps.toList.drop 1 := by
          cases hz : z.cps.toList with
          | nil => simp [← Array.length_toList, hz] at h1'
          | cons a l =>
            have : z.cps[0]! = a := by
              have h5 : z.cps.toList[0]? = some a := by rw [hz]; rfl
              simp [h1'] 
              simpa [h1'] using h5
            rw [this]
            rfl
        conv => lhs; rw [this]
        rfl
      have hdl : (z.cps.toList.drop 1).length ≤ 100000 := by
        have h3 : z.length = z.cps.size := rfl
        rw [List.length_drop, Array.length_toList]
        omega
      repeat' (first | simp -implicitDefEqProofs -dsimp only [ws_seq, ws_ite, wp_ite, brk_t, brk_f, opt_some, ap_sIf, ap_sSet, ap_sRet, ap_sRetN, ap_sExpr, ap_sNil, ap_sBk, ap_sCt, ws_asg, ws_par, ws_par3, ws_toS, ws_nx, ws_rt, ws_bk, ws_ct, wp_tru, wp_notM, wp_andM, wp_orM, wp_chain, ap_mBin, ap_mUn, ap_mOn, ap_mCons, ap_mNil, ap_mKw, ap_mMeth, ap_mSl, ap_oNone, ap_oSome, ap_tAnd, ap_tOr, ap_tNot, ap_mIf, ap_mYes, wp_bind, ap_mVar, ap_mC, wp_ok, wp_optR, slot_0, slot_s, tru_bl, tru_int, tru_lst, tru_tup, tru_non, asBl_bl, asInt_int, asTwo_ap, asThree_ap, if_true, if_false, Bool.false_eq_true, Bool.not_true, Bool.not_false, fin_bl, fin_int, fin_str, fin_non, List.set_cons_succ, List.set_cons_zero, ws_star, e0, es, List.drop_succ_cons, List.drop_zero, List.take_succ_cons, List.take_zero, List.length_cons, List.length_nil, Nat.reduceAdd, Nat.reduceSub] | refine brk_if (fun hbr => ?_) (fun hbr => ?_))
      refine ⟨by omega, ?_⟩
      rw [mk_f (by rw [List.length_map]; exact hdl)]
      repeat' (first | simp -implicitDefEqProofs -dsimp only [ws_seq, ws_ite, wp_ite, brk_t, brk_f, opt_some, ap_sIf, ap_sSet, ap_sRet, ap_sRetN, ap_sExpr, ap_sNil, ap_sBk, ap_sCt, ws_asg, ws_par, ws_par3, ws_toS, ws_nx, ws_rt, ws_bk, ws_ct, wp_tru, wp_notM, wp_andM, wp_orM, wp_chain, ap_mBin, ap_mUn, ap_mOn, ap_mCons, ap_mNil, ap_mKw, ap_mMeth, ap_mSl, ap_oNone, ap_oSome, ap_tAnd, ap_tOr, ap_tNot, ap_mIf, ap_mYes, wp_bind, ap_mVar, ap_mC, wp_ok, wp_optR, slot_0, slot_s, tru_bl, tru_int, tru_lst, tru_tup, tru_non, asBl_bl, asInt_int, asTwo_ap, asThree_ap, if_true, if_false, Bool.false_eq_true, Bool.not_true, Bool.not_false, fin_bl, fin_int, fin_str, fin_non, List.set_cons_succ, List.set_cons_zero, setAll, List.drop_succ_cons, List.drop_zero, List.take_succ_cons, List.take_zero, List.length_cons, List.length_nil, Nat.reduceAdd, Nat.reduceSub, List.nil_append, List.cons_append, in_str, sm_c, gr_c, only_smalls hdl] | refine brk_if (fun hbr => ?_) (fun hbr => ?_))
      all_goals (clear e0 es hdl; simp_all [wordB])
    · simp_all [wordB] <;> intros <;> omega
  | _ => repeat' (first | simp -implicitDefEqProofs -dsimp only [ws_seq, ws_ite, wp_ite, brk_t, brk_f, opt_some, ap_sIf, ap_sSet, ap_sRet, ap_sRetN, ap_sExpr, ap_sNil, ap_sBk, ap_sCt, ws_asg, ws_par, ws_par3, ws_toS, ws_nx, ws_rt, ws_bk, ws_ct, wp_tru, wp_notM, wp_andM, wp_orM, wp_chain, ap_mBin, ap_mUn, ap_mOn, ap_mCons, ap_mNil, ap_mKw, ap_mMeth, ap_mSl, ap_oNone, ap_oSome, ap_tAnd, ap_tOr, ap_tNot, ap_mIf, ap_mYes, wp_bind, ap_mVar, ap_mC, wp_ok, wp_optR, slot_0, slot_s, tru_bl, tru_int, tru_lst, tru_tup, tru_non, asBl_bl, asInt_int, asTwo_ap, asThree_ap, if_true, if_false, Bool.false_eq_true, Bool.not_true, Bool.not_false, fin_bl, fin_int, fin_str, fin_non, List.set_cons_succ, List.set_cons_zero, isStrD, Bool.not_true, Bool.not_false] | refine brk_if (fun hbr => ?_) (fun hbr => ?_)); all_goals (first | trivial | exact ⟨rfl, rfl⟩ | exact ⟨rfl, trivial⟩ | exact ⟨trivial, trivial⟩)
theorem first_of {z : Str} (h : 0 < z.cps.size) : z.cps.toList = z.cps[0]! :: z.cps.toList.drop 1 := by
  cases hz : z.cps.toList with
  | nil => simp [← Array.length_toList, hz] at h
  | cons a l =>
    have : z.cps[0]! = a := by
      have h5 : z.cps.toList[0]? = some a := by rw [hz]; rfl
      simpa [h] using h5
    rw [this]
    rfl

/-! ### words of small letters -/
theorem isSm_iff {c : Nat} : isSm c = true ↔ 97 ≤ c ∧ c ≤ 122 := by
  unfold isSm
  rw [inStr_one, decide_eq_true_eq]
  have key : (Str.ofString "abcdefghijklmnopqrstuvwxyz").cps.toList = (List.range 26).map (· + 97) := by decide +kernel
  show c ∈ (Str.ofString "abcdefghijklmnopqrstuvwxyz").cps.toList ↔ _
  rw [key, List.mem_map]
  constructor
  · rintro ⟨a, h, rfl⟩
    have := List.mem_range.mp h
    omega
  · rintro ⟨h1, h2⟩
    exact ⟨c - 97, List.mem_range.mpr (by omega), by omega⟩
/-- a word of small letters -/
structure Wd (l : List Nat) : Prop where
  one : 1 ≤ l.length
  most : l.length ≤ 12
  sm : ∀ c ∈ l, isSm c = true
theorem Wd.asL {l : List Nat} (h : Wd l) : asL l := fun c hc => by
  have := isSm_iff.mp (h.sm c hc)
  omega
theorem Wd.len {l : List Nat} (h : Wd l) : l.length ≤ 100000 := by have := h.most; omega
theorem Wd.gd {l : List Nat} (h : Wd l) : Gd (sD l) := ⟨sm_pl _ (sm_sD h.asL), by
  have := h.most
  show wt (D.str ⟨l.toArray⟩) ≤ 200000
  unfold wt
  show _ ≤ _
  have e : (⟨l.toArray⟩ : Str).length = l.length := rfl
  omega⟩
theorem Wd.wordB {l : List Nat} (h : Wd l) : wordB (sD l) = true := by
  have h1 := h.one
  have h2 := h.most
  rw [wordB_str]
  have e : (⟨l.toArray⟩ : Str).length = l.length := rfl
  rw [Bool.and_eq_true, Bool.and_eq_true, Bool.and_eq_true, decide_eq_true_eq, decide_eq_true_eq, List.all_eq_true]
  refine ⟨⟨⟨by omega, by omega⟩, ?_⟩, fun c hc => h.sm c (List.mem_of_mem_drop (show c ∈ l.drop 1 from hc))⟩
  have : l.toArray[0]! = l[0]'(by omega) := by simp [show 0 < l.length by omega]
  show (isSm l.toArray[0]! || isGr l.toArray[0]!) = true
  rw [this, h.sm _ (List.getElem_mem _)]
  rfl
theorem word_w {l : List Nat} {st : Sto} (h : Wd l) : f_is_word [sD l] st = .ok (.bl true) st := by
  rw [word_ap h.gd, h.wordB]
theorem need_w {l : List Nat} {st : Sto} (h : Wd l) : f_need_word [sD l] st = .ok .non st := by
  refine res_eq ?_
  unfold f_need_word
  rw [wp_call]
  show ws (m_need_word [some (sD l)] st) _
  unfold m_need_word
  repeat' (first | simp -implicitDefEqProofs -dsimp only [ws_seq, ws_ite, wp_ite, brk_t, brk_f, opt_some, ap_sIf, ap_sSet, ap_sRet, ap_sRetN, ap_sExpr, ap_sNil, ap_sBk, ap_sCt, ws_asg, ws_par, ws_par3, ws_toS, ws_nx, ws_rt, ws_bk, ws_ct, wp_tru, wp_notM, wp_andM, wp_orM, wp_chain, ap_mBin, ap_mUn, ap_mOn, ap_mCons, ap_mNil, ap_mKw, ap_mMeth, ap_mSl, ap_oNone, ap_oSome, ap_tAnd, ap_tOr, ap_tNot, ap_mIf, ap_mYes, wp_bind, ap_mVar, ap_mC, wp_ok, wp_optR, slot_0, slot_s, tru_bl, tru_int, tru_lst, tru_tup, tru_non, asBl_bl, asInt_int, asTwo_ap, asThree_ap, if_true, if_false, Bool.false_eq_true, Bool.not_true, Bool.not_false, fin_bl, fin_int, fin_str, fin_non, List.set_cons_succ, List.set_cons_zero, word_w h] | refine brk_if (fun hbr => ?_) (fun hbr => ?_))
  all_goals first | exact ⟨rfl, rfl⟩ | exact ⟨rfl, trivial⟩ | trivial
theorem low_tab : ((List.range 123).all fun c => !isSm c || (Txt.lower ⟨#[c]⟩ == ⟨#[c]⟩)) = true := by decide +kernel
theorem low_c {c : Nat} (h : isSm c = true) : Txt.lower ⟨#[c]⟩ = ⟨#[c]⟩ := by
  have h1 := isSm_iff.mp h
  have := List.all_eq_true.mp low_tab c (List.mem_range.mpr (by omega))
  rw [h] at this
  exact eq_of_beq (by simpa using this)
theorem up1 {f : Str → Str} {c : Nat} {st : Sto} : fStr0 f (sD [c]) [] st = .ok (.str (f ⟨#[c]⟩)) st := by
  unfold fStr0
  exact if_pos (show (1 : Nat) ≤ 100000 by decide)
theorem small_w {l : List Nat} {st : Sto} (h : Wd l) : f_small [sD l] st = .ok (sD l) st := by
  have h1 := h.one
  have hl := h.len
  refine res_eq ?_
  unfold f_small
  rw [wp_call]
  show ws (m_small [some (sD l)] st) _
  unfold m_small
  have e1 := ix_sD (st := st) (l := l) (i := 0) hl (by omega)
  have e2 : fStr0 Txt.lower (sD [l[0]]) [] st = .ok (sD [l[0]]) st := by
    have e0 : fStr0 Txt.lower (sD [l[0]]) [] st = .ok (.str (Txt.lower ⟨#[l[0]]⟩)) st := up1
    have := low_c (h.sm l[0] (List.getElem_mem _))
    rw [e0, this]
  have e3 := sl_from (st := st) (l := l) (k := false) (i := 1) hl
  have e4 := add_sD (st := st) (k := false) (l := [l[0]]) (m := l.drop 1) (by rw [List.length_drop]; show 1 + _ ≤ _; omega)
  have e5 : [l[0]] ++ l.drop 1 = l := by
    cases l with
    | nil => simp at h1
    | cons a l => rfl
  rw [e5] at e4
  have e1' : fIx (sD l) (.int 0) st = .ok (sD [l[0]]) st := e1
  have e3' : fSl false (sD l) (some 1) none st = .ok (sD (l.drop 1)) st := e3
  repeat' (first | simp -implicitDefEqProofs -dsimp only [ws_seq, ws_ite, wp_ite, brk_t, brk_f, opt_some, ap_sIf, ap_sSet, ap_sRet, ap_sRetN, ap_sExpr, ap_sNil, ap_sBk, ap_sCt, ws_asg, ws_par, ws_par3, ws_toS, ws_nx, ws_rt, ws_bk, ws_ct, wp_tru, wp_notM, wp_andM, wp_orM, wp_chain, ap_mBin, ap_mUn, ap_mOn, ap_mCons, ap_mNil, ap_mKw, ap_mMeth, ap_mSl, ap_oNone, ap_oSome, ap_tAnd, ap_tOr, ap_tNot, ap_mIf, ap_mYes, wp_bind, ap_mVar, ap_mC, wp_ok, wp_optR, slot_0, slot_s, tru_bl, tru_int, tru_lst, tru_tup, tru_non, asBl_bl, asInt_int, asTwo_ap, asThree_ap, if_true, if_false, Bool.false_eq_true, Bool.not_true, Bool.not_false, fin_bl, fin_int, fin_str, fin_non, List.set_cons_succ, List.set_cons_zero, need_w h, e1', tc_str, e2, e3', e4] | refine brk_if (fun hbr => ?_) (fun hbr => ?_))
  all_goals (first | trivial | exact ⟨rfl, rfl⟩ | exact ⟨rfl, trivial⟩ | exact ⟨trivial, trivial⟩)
theorem is_small_w {l : List Nat} {st : Sto} (h : Wd l) : f_is_small [sD l] st = .ok (.bl true) st := by
  refine res_eq ?_
  unfold f_is_small
  rw [wp_call]
  show ws (m_is_small [some (sD l)] st) _
  unfold m_is_small
  repeat' (first | simp -implicitDefEqProofs -dsimp only [ws_seq, ws_ite, wp_ite, brk_t, brk_f, opt_some, ap_sIf, ap_sSet, ap_sRet, ap_sRetN, ap_sExpr, ap_sNil, ap_sBk, ap_sCt, ws_asg, ws_par, ws_par3, ws_toS, ws_nx, ws_rt, ws_bk, ws_ct, wp_tru, wp_notM, wp_andM, wp_orM, wp_chain, ap_mBin, ap_mUn, ap_mOn, ap_mCons, ap_mNil, ap_mKw, ap_mMeth, ap_mSl, ap_oNone, ap_oSome, ap_tAnd, ap_tOr, ap_tNot, ap_mIf, ap_mYes, wp_bind, ap_mVar, ap_mC, wp_ok, wp_optR, slot_0, slot_s, tru_bl, tru_int, tru_lst, tru_tup, tru_non, asBl_bl, asInt_int, asTwo_ap, asThree_ap, if_true, if_false, Bool.false_eq_true, Bool.not_true, Bool.not_false, fin_bl, fin_int, fin_str, fin_non, List.set_cons_succ, List.set_cons_zero, word_w h, small_w h, eq_sD h.asL h.asL, decide_true] | refine brk_if (fun hbr => ?_) (fun hbr => ?_))
  all_goals (first | trivial | exact ⟨rfl, rfl⟩ | exact ⟨rfl, trivial⟩ | exact ⟨trivial, trivial⟩)
theorem need_both_w {a b : List Nat} {st : Sto} (ha : Wd a) (hb : Wd b) : f_need_both [sD a, sD b] st = .ok .non st := by
  refine res_eq ?_
  unfold f_need_both
  rw [wp_call]
  show ws (m_need_both [some (sD a), some (sD b)] st) _
  unfold m_need_both
  repeat' (first | simp -implicitDefEqProofs -dsimp only [ws_seq, ws_ite, wp_ite, brk_t, brk_f, opt_some, ap_sIf, ap_sSet, ap_sRet, ap_sRetN, ap_sExpr, ap_sNil, ap_sBk, ap_sCt, ws_asg, ws_par, ws_par3, ws_toS, ws_nx, ws_rt, ws_bk, ws_ct, wp_tru, wp_notM, wp_andM, wp_orM, wp_chain, ap_mBin, ap_mUn, ap_mOn, ap_mCons, ap_mNil, ap_mKw, ap_mMeth, ap_mSl, ap_oNone, ap_oSome, ap_tAnd, ap_tOr, ap_tNot, ap_mIf, ap_mYes, wp_bind, ap_mVar, ap_mC, wp_ok, wp_optR, slot_0, slot_s, tru_bl, tru_int, tru_lst, tru_tup, tru_non, asBl_bl, asInt_int, asTwo_ap, asThree_ap, if_true, if_false, Bool.false_eq_true, Bool.not_true, Bool.not_false, fin_bl, fin_int, fin_str, fin_non, List.set_cons_succ, List.set_cons_zero, is_small_w ha, is_small_w hb] | refine brk_if (fun hbr => ?_) (fun hbr => ?_))
  all_goals (first | trivial | exact ⟨rfl, rfl⟩ | exact ⟨rfl, trivial⟩ | exact ⟨trivial, trivial⟩)
end P3.Law

/-! V10: the fewest steps, as the program finds them. -/
namespace P3.Law
open PySem PySem.Spec PyProof.Rows L2 P3 P3.Near
/-- a row of the table -/
noncomputable def rowD (a b : List Nat) (B : Int) : Nat → List D
  | 0 => List.replicate (b.length + 2) (.int B)
  | t + 1 => .int B :: (List.range (b.length + 1)).map fun c => .int (T a b t c)
theorem rowD_len {a b : List Nat} {B : Int} {t : Nat} : (rowD a b B t).length = b.length + 2 := by
  cases t with
  | zero => simp [rowD]
  | succ t => simp [rowD]
theorem rowD_0 {a b : List Nat} {B : Int} {t : Nat} : (rowD a b B t)[0]? = some (.int B) := by
  cases t with
  | zero => simp [rowD]
  | succ t => simp [rowD]
theorem rowD_00 {a b : List Nat} {B : Int} {c : Nat} (h : c < b.length + 2) : (rowD a b B 0)[c]? = some (.int B) := by
  simp [rowD, List.getElem?_replicate, h]
theorem rowD_s {a b : List Nat} {B : Int} {t c : Nat} (h : c < b.length + 1) : (rowD a b B (t + 1))[c + 1]? = some (.int (T a b t c)) := by
  show ((List.range (b.length + 1)).map fun c => D.int (T a b t c))[c]? = _
  rw [List.getElem?_map, List.getElem?_range h]
  rfl
/-- the table in the store: its cell at t0, its rows -/
structure Tab (a b : List Nat) (B : Int) (t0 : Nat) (n : Nat) (st : Sto) : Prop where
  tab : st[t0]? = some (.lst (.lst (rowD a b B 0) :: .lst (rowD a b B 1) :: (List.range n).map fun k => .cell (t0 + 2 + k)))
/-- what stands at a place of the table -/
theorem tab_at {a b : List Nat} {B : Int} {t0 n : Nat} {st : Sto} (h : st[t0]? = some (.lst (.lst (rowD a b B 0) :: .lst (rowD a b B 1) :: (List.range n).map fun k => .cell (t0 + 2 + k))))
    {t c : Nat} (rows : ∀ k, t = k + 2 → st[t0 + 2 + k]? = some (.lst (rowD a b B (k + 2)))) (ht : t < n + 2) {d : D} (hd : (rowD a b B t)[c]? = some d) :
    ∃ r, fIx (.cell t0) (.int (t : Int)) st = .ok r st ∧ fIx r (.int (c : Int)) st = .ok d st := by
  have hc : c < (rowD a b B t).length := (List.getElem?_eq_some_iff.mp hd).1
  have hdc : L2.atI (rowD a b B t) (c : Int) = some d := by rw [atI_nat hc]; exact (List.getElem?_eq_some_iff.mp hd).2 ▸ rfl
  have hlen : t < (D.lst (rowD a b B 0) :: .lst (rowD a b B 1) :: (List.range n).map fun k => D.cell (t0 + 2 + k)).length := by simp; omega
  match t, ht, hlen, hd, hdc, rows with
  | 0, _, hlen, hd, hdc, _ =>
    refine ⟨.lst (rowD a b B 0), ?_, ?_⟩
    · rw [ix_cell h, atI_nat hlen]; rfl
    · rw [ix_lst, hdc]; rfl
  | 1, _, hlen, hd, hdc, _ =>
    refine ⟨.lst (rowD a b B 1), ?_, ?_⟩
    · rw [ix_cell h, atI_nat hlen]; rfl
    · rw [ix_lst, hdc]; rfl
  | k + 2, ht, hlen, hd, hdc, rows =>
    refine ⟨.cell (t0 + 2 + k), ?_, ?_⟩
    · rw [ix_cell h, atI_nat hlen]
      simp [optR]
    · rw [ix_cell (rows k rfl), hdc]; rfl
theorem min4 {i j k l : Int} {st : Sto} : fMin [.int i, .int j, .int k, .int l] st = .ok (.int (min (min i j) (min k l))) st := rfl
theorem intOf_bl {k : Bool} {st : Sto} : fIntOf [.bl k] st = .ok (.int (if k then 1 else 0)) st := rfl
theorem mul_lst {l : List D} {k : Int} {st : Sto} (h : -(2 ^ 63) ≤ k ∧ k < 2 ^ 63 ∧ l.length * k.toNat ≤ 100000) : fMul false (.lst l) (.int k) st = mk false (List.replicate k.toNat l).flatten st := if_pos h
theorem rep_one {x : D} : ∀ n : Nat, (List.replicate n [x]).flatten = List.replicate n x
  | 0 => rfl
  | n + 1 => by rw [List.replicate_succ, List.flatten_cons, rep_one n]; rfl
theorem lr_ap {j : Int} {st : Sto} (h : -(2 ^ 30) ≤ j ∧ j ≤ 100000) : fLR false [.int j] st = mk false (intL 0 j.toNat) st := if_pos h
theorem row1 {a b : List Nat} {B : Int} : (.int B :: intL 0 (b.length + 1)) = rowD a b B 1 := by
  show _ = .int B :: (List.range (b.length + 1)).map fun c => D.int (T a b 0 c)
  congr 1
  unfold intL
  apply List.map_congr_left
  intro c hc
  rw [T_0 (by have := List.mem_range.mp hc; omega)]
  simp
theorem mk_t2 {x y : D} {st : Sto} : mk true [x, y] st = .ok (.cell st.length) (st ++ [.lst [x, y]]) := mk_t (show 2 ≤ 100000 by decide)
theorem fewest_ap {a b : List Nat} {st : Sto} (ha : Wd a) (hb : Wd b) : f_fewest [sD a, sD b] st = .ok (.int (fw a b)) st := by
  refine res_eq ?_
  unfold f_fewest
  rw [wp_call]
  show ws (m_fewest [some (sD a), some (sD b), none, none, none, none, none, none, none, none, none, none, none, none] st) _
  unfold m_fewest
  have a1 := ha.one
  have a2 := ha.most
  have b1 := hb.one
  have b2 := hb.most
  obtain ⟨B, hB⟩ : ∃ B : Int, B = (a.length : Int) + b.length := ⟨_, rfl⟩
  have eA := fun st => len_sD (st := st) ha.len
  have eB := fun st => len_sD (st := st) hb.len
  have em : ∀ st, fMul false (.lst [.int B]) (.int ((b.length : Int) + 2)) st = .ok (.lst (rowD a b B 0)) st := fun st => by
    rw [mul_lst ⟨by omega, by omega, by show 1 * _ ≤ _; omega⟩, rep_one, mk_f (by rw [List.length_replicate]; omega)]
    congr 3
  have el : ∀ st, fLR false [.int ((b.length : Int) + 1)] st = .ok (.lst (intL 0 (b.length + 1))) st := fun st => by
    rw [lr_ap ⟨by omega, by omega⟩, show ((b.length : Int) + 1).toNat = b.length + 1 by omega, mk_f (by rw [intL_len]; omega)]
  have ea : ∀ st, fAdd false (.lst [.int B]) (.lst (intL 0 (b.length + 1))) st = .ok (.lst (rowD a b B 1)) st := fun st => by
    rw [add_lst (by rw [List.length_append, intL_len]; show 1 + _ ≤ _; omega)]
    show Res.ok (D.lst (.int B :: intL 0 (b.length + 1))) st = _
    rw [row1 (a := a)]
  simp -implicitDefEqProofs -dsimp only [ws_seq, ws_ite, wp_ite, brk_t, brk_f, opt_some, ap_sIf, ap_sSet, ap_sRet, ap_sRetN, ap_sExpr, ap_sNil, ap_sBk, ap_sCt, ws_asg, ws_par, ws_par3, ws_toS, ws_nx, ws_rt, ws_bk, ws_ct, wp_tru, wp_notM, wp_andM, wp_orM, wp_chain, ap_mBin, ap_mUn, ap_mOn, ap_mCons, ap_mNil, ap_mKw, ap_mMeth, ap_mSl, ap_oNone, ap_oSome, ap_tAnd, ap_tOr, ap_tNot, ap_mIf, ap_mYes, wp_bind, ap_mVar, ap_mC, wp_ok, wp_optR, slot_0, slot_s, tru_bl, tru_int, tru_lst, tru_tup, tru_non, asBl_bl, asInt_int, asTwo_ap, asThree_ap, if_true, if_false, Bool.false_eq_true, Bool.not_true, Bool.not_false, fin_bl, fin_int, fin_str, fin_non, List.set_cons_succ, List.set_cons_zero, eA, eB, add_int, ← hB, mk_f, List.length_cons, List.length_nil, Nat.reduceAdd, Nat.reduceLeDiff, em, el, ea]
  obtain ⟨t0, ht0⟩ : ∃ t0, st.length = t0 := ⟨_, rfl⟩
  rw [mk_t2, ht0]
  simp -implicitDefEqProofs -dsimp only [ws_seq, ws_ite, wp_ite, brk_t, brk_f, opt_some, ap_sIf, ap_sSet, ap_sRet, ap_sRetN, ap_sExpr, ap_sNil, ap_sBk, ap_sCt, ws_asg, ws_par, ws_par3, ws_toS, ws_nx, ws_rt, ws_bk, ws_ct, wp_tru, wp_notM, wp_andM, wp_orM, wp_chain, ap_mBin, ap_mUn, ap_mOn, ap_mCons, ap_mNil, ap_mKw, ap_mMeth, ap_mSl, ap_oNone, ap_oSome, ap_tAnd, ap_tOr, ap_tNot, ap_mIf, ap_mYes, wp_bind, ap_mVar, ap_mC, wp_ok, wp_optR, slot_0, slot_s, tru_bl, tru_int, tru_lst, tru_tup, tru_non, asBl_bl, asInt_int, asTwo_ap, asThree_ap, if_true, if_false, Bool.false_eq_true, Bool.not_true, Bool.not_false, fin_bl, fin_int, fin_str, fin_non, List.set_cons_succ, List.set_cons_zero]
  have ed : ∀ st : Sto, mDic0 true = fun (_ : Ro) (st : Sto) => Res.ok (D.cell st.length) (st ++ [Cl.dic []]) := fun _ => rfl
  rw [ed st]
  simp -implicitDefEqProofs -dsimp only [ws_seq, ws_ite, wp_ite, brk_t, brk_f, opt_some, ap_sIf, ap_sSet, ap_sRet, ap_sRetN, ap_sExpr, ap_sNil, ap_sBk, ap_sCt, ws_asg, ws_par, ws_par3, ws_toS, ws_nx, ws_rt, ws_bk, ws_ct, wp_tru, wp_notM, wp_andM, wp_orM, wp_chain, ap_mBin, ap_mUn, ap_mOn, ap_mCons, ap_mNil, ap_mKw, ap_mMeth, ap_mSl, ap_oNone, ap_oSome, ap_tAnd, ap_tOr, ap_tNot, ap_mIf, ap_mYes, wp_bind, ap_mVar, ap_mC, wp_ok, wp_optR, slot_0, slot_s, tru_bl, tru_int, tru_lst, tru_tup, tru_non, asBl_bl, asInt_int, asTwo_ap, asThree_ap, if_true, if_false, Bool.false_eq_true, Bool.not_true, Bool.not_false, fin_bl, fin_int, fin_str, fin_non, List.set_cons_succ, List.set_cons_zero]
  rw [show (st ++ [Cl.lst [D.lst (rowD a b B 0), D.lst (rowD a b B 1)]]).length = t0 + 1 by simp [ht0]]
  refine ws_for (enD (signs ⟨a.toArray⟩)) (fun i ρ st' => i ≤ a.length ∧ (∃ v5 v6 v7 v8 v9 v10 v11 v12 v13, ρ = [some (sD a), some (sD b), some (.int B), some (.cell t0), some (.cell (t0 + 1)), v5, v6, v7, v8, v9, v10, v11, v12, v13]) ∧
      st'.length = t0 + 2 + i ∧ (∀ j, j < t0 → st'[j]? = st[j]?) ∧ st'[t0]? = some (.lst (.lst (rowD a b B 0) :: .lst (rowD a b B 1) :: (List.range i).map fun k => .cell (t0 + 2 + k))) ∧
      (∃ kvs, st'[t0 + 1]? = some (.dic kvs) ∧ kvs.length ≤ i ∧ ∀ c, (valD kvs (kS [c])).getD (.int 0) = .int (lix c a i)) ∧ ∀ k, k < i → st'[t0 + 2 + k]? = some (.lst (rowD a b B (k + 2)))) ?_ ?_ ?_
  · rw [ap_iEnum]
    simp -implicitDefEqProofs -dsimp only [ws_seq, ws_ite, wp_ite, brk_t, brk_f, opt_some, ap_sIf, ap_sSet, ap_sRet, ap_sRetN, ap_sExpr, ap_sNil, ap_sBk, ap_sCt, ws_asg, ws_par, ws_par3, ws_toS, ws_nx, ws_rt, ws_bk, ws_ct, wp_tru, wp_notM, wp_andM, wp_orM, wp_chain, ap_mBin, ap_mUn, ap_mOn, ap_mCons, ap_mNil, ap_mKw, ap_mMeth, ap_mSl, ap_oNone, ap_oSome, ap_tAnd, ap_tOr, ap_tNot, ap_mIf, ap_mYes, wp_bind, ap_mVar, ap_mC, wp_ok, wp_optR, slot_0, slot_s, tru_bl, tru_int, tru_lst, tru_tup, tru_non, asBl_bl, asInt_int, asTwo_ap, asThree_ap, if_true, if_false, Bool.false_eq_true, Bool.not_true, Bool.not_false, fin_bl, fin_int, fin_str, fin_non, List.set_cons_succ, List.set_cons_zero]
    rw [srcOf_str, wp_ok, wp_ok]
    refine ⟨static_En static_Z, Nat.zero_le _, ⟨_, _, _, _, _, _, _, _, _, rfl⟩, by simp [ht0], fun j hj => ?_, ?_, ⟨[], ?_, Nat.le_refl _, fun c => by rw [lix_0]; rfl⟩, fun k hk => by omega⟩
    · rw [List.append_assoc, List.getElem?_append_left (by omega)]
    · rw [List.append_assoc, List.getElem?_append_right (by omega), ht0, Nat.sub_self]
      rfl
    · rw [List.append_assoc, List.getElem?_append_right (by omega), ht0, show t0 + 1 - t0 = 1 by omega]
      rfl
  · rintro i x ρ st' hx ⟨hi, ⟨v5, v6, v7, v8, v9, v10, v11, v12, v13, rfl⟩, hlen, hold, htab, ⟨kvs, hdic, hkl, hkv⟩, hrows⟩
    obtain ⟨y, hy, rfl⟩ := enD_at hx
    obtain ⟨hia, rfl⟩ : ∃ h : i < a.length, y = sD [a[i]] := by
      have hy : (a.map fun c => D.str ⟨#[c]⟩)[i]? = some y := hy
      rw [List.getElem?_map, Option.map_eq_some_iff] at hy
      obtain ⟨c, hc, rfl⟩ := hy
      obtain ⟨h, rfl⟩ := List.getElem?_eq_some_iff.mp hc
      exact ⟨h, rfl⟩
    refine ⟨[some (sD a), some (sD b), some (.int B), some (.cell t0), some (.cell (t0 + 1)), some (.int (i : Int)), some (sD [a[i]]), v7, v8, v9, v10, v11, v12, v13], rfl, ?_⟩
    simp -implicitDefEqProofs -dsimp only [ws_seq, ws_ite, wp_ite, brk_t, brk_f, opt_some, ap_sIf, ap_sSet, ap_sRet, ap_sRetN, ap_sExpr, ap_sNil, ap_sBk, ap_sCt, ws_asg, ws_par, ws_par3, ws_toS, ws_nx, ws_rt, ws_bk, ws_ct, wp_tru, wp_notM, wp_andM, wp_orM, wp_chain, ap_mBin, ap_mUn, ap_mOn, ap_mCons, ap_mNil, ap_mKw, ap_mMeth, ap_mSl, ap_oNone, ap_oSome, ap_tAnd, ap_tOr, ap_tNot, ap_mIf, ap_mYes, wp_bind, ap_mVar, ap_mC, wp_ok, wp_optR, slot_0, slot_s, tru_bl, tru_int, tru_lst, tru_tup, tru_non, asBl_bl, asInt_int, asTwo_ap, asThree_ap, if_true, if_false, Bool.false_eq_true, Bool.not_true, Bool.not_false, fin_bl, fin_int, fin_str, fin_non, List.set_cons_succ, List.set_cons_zero, add_int]
    rw [mk_t2, hlen]
    obtain ⟨s1, hs1⟩ : ∃ s1, s1 = st' ++ [Cl.lst [D.int B, D.int ((i : Int) + 1)]] := ⟨_, rfl⟩
    rw [← hs1]
    have s1t : s1[t0]? = some (.lst (.lst (rowD a b B 0) :: .lst (rowD a b B 1) :: (List.range i).map fun k => .cell (t0 + 2 + k))) := by rw [hs1, List.getElem?_append_left (by omega)]; exact htab
    have happ := app_ok (d := .cell (t0 + 2 + i)) s1t (by simp; omega)
    obtain ⟨s2, hs2⟩ : ∃ s2, s2 = s1.set t0 (.lst ((.lst (rowD a b B 0) :: .lst (rowD a b B 1) :: (List.range i).map fun k => D.cell (t0 + 2 + k)) ++ [.cell (t0 + 2 + i)])) := ⟨_, rfl⟩
    rw [← hs2] at happ
    simp -implicitDefEqProofs -dsimp only [ws_seq, ws_ite, wp_ite, brk_t, brk_f, opt_some, ap_sIf, ap_sSet, ap_sRet, ap_sRetN, ap_sExpr, ap_sNil, ap_sBk, ap_sCt, ws_asg, ws_par, ws_par3, ws_toS, ws_nx, ws_rt, ws_bk, ws_ct, wp_tru, wp_notM, wp_andM, wp_orM, wp_chain, ap_mBin, ap_mUn, ap_mOn, ap_mCons, ap_mNil, ap_mKw, ap_mMeth, ap_mSl, ap_oNone, ap_oSome, ap_tAnd, ap_tOr, ap_tNot, ap_mIf, ap_mYes, wp_bind, ap_mVar, ap_mC, wp_ok, wp_optR, slot_0, slot_s, tru_bl, tru_int, tru_lst, tru_tup, tru_non, asBl_bl, asInt_int, asTwo_ap, asThree_ap, if_true, if_false, Bool.false_eq_true, Bool.not_true, Bool.not_false, fin_bl, fin_int, fin_str, fin_non, List.set_cons_succ, List.set_cons_zero, tc_cell s1t, happ]
    have s1l : s1.length = t0 + 3 + i := by rw [hs1]; simp [hlen]; omega
    have s2l : s2.length = t0 + 3 + i := by rw [hs2, List.length_set]; exact s1l
    have s2o : ∀ j, j < t0 → s2[j]? = st[j]? := fun j hj => by
      rw [hs2, List.getElem?_set_ne (by omega), hs1, List.getElem?_append_left (by omega)]
      exact hold j hj
    have s2t : s2[t0]? = some (.lst (.lst (rowD a b B 0) :: .lst (rowD a b B 1) :: (List.range (i + 1)).map fun k => .cell (t0 + 2 + k))) := by
      rw [hs2, List.getElem?_set_self (by omega), List.range_succ, List.map_append]
      rfl
    have s2d : s2[t0 + 1]? = some (.dic kvs) := by
      rw [hs2, List.getElem?_set_ne (by omega), hs1, List.getElem?_append_left (by omega)]
      exact hdic
    have s2r : ∀ k, k < i → s2[t0 + 2 + k]? = some (.lst (rowD a b B (k + 2))) := fun k hk => by
      rw [hs2, List.getElem?_set_ne (by omega), hs1, List.getElem?_append_left (by omega)]
      exact hrows k hk
    have s2n : s2[t0 + 2 + i]? = some (.lst (.int B :: (List.range 1).map fun c => .int (T a b (i + 1) c))) := by
      rw [hs2, List.getElem?_set_ne (by omega), hs1, List.getElem?_append_right (by omega), hlen, Nat.sub_self]
      show some (Cl.lst [D.int B, D.int ((i : Int) + 1)]) = some (Cl.lst [D.int B, D.int (T a b (i + 1) 0)])
      rw [T_c0 hia]
      rfl
    refine ws_for (enD (signs ⟨b.toArray⟩)) (fun j ρ s => j ≤ b.length ∧ (∃ v9 v10 v11 v12 v13, ρ = [some (sD a), some (sD b), some (.int B), some (.cell t0), some (.cell (t0 + 1)), some (.int (i : Int)), some (sD [a[i]]), some (.cell (t0 + 2 + i)), some (.int (lix a[i] b j)), v9, v10, v11, v12, v13]) ∧
        s.length = t0 + 3 + i ∧ (∀ q, q ≠ t0 + 2 + i → s[q]? = s2[q]?) ∧ s[t0 + 2 + i]? = some (.lst (.int B :: (List.range (j + 1)).map fun c => .int (T a b (i + 1) c)))) ?_ ?_ ?_
    · rw [ap_iEnum]
      simp -implicitDefEqProofs -dsimp only [ws_seq, ws_ite, wp_ite, brk_t, brk_f, opt_some, ap_sIf, ap_sSet, ap_sRet, ap_sRetN, ap_sExpr, ap_sNil, ap_sBk, ap_sCt, ws_asg, ws_par, ws_par3, ws_toS, ws_nx, ws_rt, ws_bk, ws_ct, wp_tru, wp_notM, wp_andM, wp_orM, wp_chain, ap_mBin, ap_mUn, ap_mOn, ap_mCons, ap_mNil, ap_mKw, ap_mMeth, ap_mSl, ap_oNone, ap_oSome, ap_tAnd, ap_tOr, ap_tNot, ap_mIf, ap_mYes, wp_bind, ap_mVar, ap_mC, wp_ok, wp_optR, slot_0, slot_s, tru_bl, tru_int, tru_lst, tru_tup, tru_non, asBl_bl, asInt_int, asTwo_ap, asThree_ap, if_true, if_false, Bool.false_eq_true, Bool.not_true, Bool.not_false, fin_bl, fin_int, fin_str, fin_non, List.set_cons_succ, List.set_cons_zero]
      rw [srcOf_str, wp_ok, wp_ok]
      exact ⟨static_En static_Z, Nat.zero_le _, ⟨_, _, _, _, _, by rw [lix_0]; rfl⟩, s2l, fun _ _ => rfl, s2n⟩
    · rintro j x ρ s hx ⟨hj, ⟨w9, w10, w11, w12, w13, rfl⟩, sl, so, sn⟩
      obtain ⟨y, hy, rfl⟩ := enD_at hx
      obtain ⟨hjb, rfl⟩ : ∃ h : j < b.length, y = sD [b[j]] := by
        have hy : (b.map fun c => D.str ⟨#[c]⟩)[j]? = some y := hy
        rw [List.getElem?_map, Option.map_eq_some_iff] at hy
        obtain ⟨c, hc, rfl⟩ := hy
        obtain ⟨h, rfl⟩ := List.getElem?_eq_some_iff.mp hc
        exact ⟨h, rfl⟩
      refine ⟨[some (sD a), some (sD b), some (.int B), some (.cell t0), some (.cell (t0 + 1)), some (.int (i : Int)), some (sD [a[i]]), some (.cell (t0 + 2 + i)), some (.int (lix a[i] b j)), some (.int (j : Int)), some (sD [b[j]]), w11, w12, w13], rfl, ?_⟩
      have sd : s[t0 + 1]? = some (.dic kvs) := by rw [so _ (by omega)]; exact s2d
      have stb : s[t0]? = some (.lst (.lst (rowD a b B 0) :: .lst (rowD a b B 1) :: (List.range (i + 1)).map fun k => .cell (t0 + 2 + k))) := by rw [so _ (by omega)]; exact s2t
      have sr : ∀ k, k < i → s[t0 + 2 + k]? = some (.lst (rowD a b B (k + 2))) := fun k hk => by rw [so _ (by omega)]; exact s2r k hk
      have g1 := get_cell (e := .int 0) sd (keyD_sD (l := [b[j]]))
      rw [hkv b[j]] at g1
      have l1 := lix_le (y := b[j]) (Nat.le_of_lt hia)
      have l2 := lix_le (y := a[i]) (Nat.le_of_lt hjb)
      -- what stands where both letters stood
      obtain ⟨tv, htv, hbig, hsml⟩ : ∃ tv : Nat, (rowD a b B (lix b[j] a i))[lix a[i] b j]? = some (.int (tv : Int)) ∧ (lix b[j] a i = 0 ∨ lix a[i] b j = 0 → (tv : Int) = B) ∧ (∀ p q, lix b[j] a i = p + 1 → lix a[i] b j = q + 1 → tv = T a b p q) := by
        cases hp : lix b[j] a i with
        | zero => exact ⟨a.length + b.length, by rw [rowD_00 (by omega), hB]; simp, fun _ => by rw [hB]; simp, fun p q h => by omega⟩
        | succ p =>
          cases hq : lix a[i] b j with
          | zero => exact ⟨a.length + b.length, by rw [rowD_0, hB]; simp, fun _ => by rw [hB]; simp, fun p q h h2 => by omega⟩
          | succ q => exact ⟨T a b p q, rowD_s (by omega), fun h => by omega, fun p' q' h h2 => by rw [show p' = p by omega, show q' = q by omega]⟩
      obtain ⟨r1, e1, e2⟩ := tab_at (n := i + 1) stb (fun k hk => sr k (by omega)) (by omega) htv
      obtain ⟨r2, e3, e4⟩ := tab_at (n := i + 1) (t := i + 1) (c := j + 1) stb (fun k hk => sr k (by omega)) (by omega) (rowD_s (t := i) (c := j) (by omega))
      obtain ⟨r3, e5, e6⟩ := tab_at (n := i + 1) (t := i + 1) (c := j + 2) stb (fun k hk => sr k (by omega)) (by omega) (rowD_s (t := i) (c := j + 1) (by omega))
      have e3' : fIx (.cell t0) (.int ((i : Int) + 1)) s = .ok r2 s := e3
      have e4' : fIx r2 (.int ((j : Int) + 1)) s = .ok (.int (T a b i j)) s := e4
      have e5' : fIx (.cell t0) (.int ((i : Int) + 1)) s = .ok r3 s := e5
      have e32 : r3 = r2 := by rw [e3'] at e5'; cases e5'; rfl
      have e6' : fIx r2 (.int ((j : Int) + 2)) s = .ok (.int (T a b i (j + 1))) s := by rw [← e32]; exact e6
      have e7 : fIx (.cell (t0 + 2 + i)) (.int ((j : Int) + 1)) s = .ok (.int (T a b (i + 1) j)) s := by
        rw [ix_cell sn]
        have := atI_nat (l := D.int B :: (List.range (j + 1)).map fun c => D.int (T a b (i + 1) c)) (n := j + 1) (by simp)
        rw [show ((j : Int) + 1) = ((j + 1 : Nat) : Int) by simp, this]
        simp [optR]
      have ene := ne_sD (st := s) (l := [a[i]]) (m := [b[j]]) (fun c hc => ha.asL c (by simp at hc; rw [hc]; exact List.getElem_mem _)) (fun c hc => hb.asL c (by simp at hc; rw [hc]; exact List.getElem_mem _))
      have eeq := fun st => eq_sD (st := st) (l := [a[i]]) (m := [b[j]]) (fun c hc => ha.asL c (by simp at hc; rw [hc]; exact List.getElem_mem _)) (fun c hc => hb.asL c (by simp at hc; rw [hc]; exact List.getElem_mem _))
      obtain ⟨m, hm⟩ : ∃ m : Int, min (min ((T a b i j : Int) + if (!decide ([a[i]] = [b[j]])) = true then 1 else 0) ((T a b (i + 1) j : Int) + 1)) (min ((T a b i (j + 1) : Int) + 1) ((tv : Int) + ((i : Int) - lix b[j] a i) + 1 + ((j : Int) - lix a[i] b j))) = m := ⟨_, rfl⟩
      have hmT : m = (T a b (i + 1) (j + 1) : Int) := by
        have key := T_step hia hjb (tv + (i - lix b[j] a i) + 1 + (j - lix a[i] b j)) (fun h => by
          have := hbig h
          rw [hB] at this
          omega) (fun p q hp hq => by rw [hsml p q hp hq, hp, hq])
        have e : (if (!decide ([a[i]] = [b[j]])) = true then (1 : Int) else 0) = ((if a[i] = b[j] then 0 else 1 : Nat) : Int) := by
          by_cases hab : a[i] = b[j]
          · simp [hab]
          · simp [hab]
        rw [key, ← hm, e]
        generalize (if a[i] = b[j] then 0 else 1 : Nat) = c
        omega
      have app2 := app_ok (d := .int m) sn (by simp; omega)
      simp -implicitDefEqProofs -dsimp only [ws_seq, ws_ite, wp_ite, brk_t, brk_f, opt_some, ap_sIf, ap_sSet, ap_sRet, ap_sRetN, ap_sExpr, ap_sNil, ap_sBk, ap_sCt, ws_asg, ws_par, ws_par3, ws_toS, ws_nx, ws_rt, ws_bk, ws_ct, wp_tru, wp_notM, wp_andM, wp_orM, wp_chain, ap_mBin, ap_mUn, ap_mOn, ap_mCons, ap_mNil, ap_mKw, ap_mMeth, ap_mSl, ap_oNone, ap_oSome, ap_tAnd, ap_tOr, ap_tNot, ap_mIf, ap_mYes, wp_bind, ap_mVar, ap_mC, wp_ok, wp_optR, slot_0, slot_s, tru_bl, tru_int, tru_lst, tru_tup, tru_non, asBl_bl, asInt_int, asTwo_ap, asThree_ap, if_true, if_false, Bool.false_eq_true, Bool.not_true, Bool.not_false, fin_bl, fin_int, fin_str, fin_non, List.set_cons_succ, List.set_cons_zero, ap_mDMeth, isDi_cell sd, g1, e1, e2, e3', e4', e6', e7, ene, add_int, sub_int, intOf_bl, min4, hm, tc_cell sn, app2, eeq]
      have hs5 : ∀ x, x = Cl.lst (D.int B :: (List.range (j + 1)).map (fun c => D.int (T a b (i + 1) c)) ++ [D.int m]) → x = Cl.lst (.int B :: (List.range (j + 1 + 1)).map fun c => .int (T a b (i + 1) c)) := by
        rintro x rfl
        rw [List.range_succ (n := j + 1), List.map_append, hmT]
        rfl
      have hlx := lix_succ (y := a[i]) hjb
      refine brk_if (fun hbr => ?_) (fun hbr => ?_)
      · simp -implicitDefEqProofs -dsimp only [ws_seq, ws_ite, wp_ite, brk_t, brk_f, opt_some, ap_sIf, ap_sSet, ap_sRet, ap_sRetN, ap_sExpr, ap_sNil, ap_sBk, ap_sCt, ws_asg, ws_par, ws_par3, ws_toS, ws_nx, ws_rt, ws_bk, ws_ct, wp_tru, wp_notM, wp_andM, wp_orM, wp_chain, ap_mBin, ap_mUn, ap_mOn, ap_mCons, ap_mNil, ap_mKw, ap_mMeth, ap_mSl, ap_oNone, ap_oSome, ap_tAnd, ap_tOr, ap_tNot, ap_mIf, ap_mYes, wp_bind, ap_mVar, ap_mC, wp_ok, wp_optR, slot_0, slot_s, tru_bl, tru_int, tru_lst, tru_tup, tru_non, asBl_bl, asInt_int, asTwo_ap, asThree_ap, if_true, if_false, Bool.false_eq_true, Bool.not_true, Bool.not_false, fin_bl, fin_int, fin_str, fin_non, List.set_cons_succ, List.set_cons_zero, add_int]
        have hab : b[j] = a[i] := by have := of_decide_eq_true hbr; simpa using this.symm
        rw [if_pos hab] at hlx
        refine ⟨hjb, ⟨_, _, _, _, _, by rw [hlx]; rfl⟩, by rw [List.length_set]; exact sl, fun q hq => by rw [List.getElem?_set_ne (Ne.symm hq)]; exact so q hq, ?_⟩
        rw [List.getElem?_set_self (by omega)]
        exact congrArg some (hs5 _ rfl)
      · simp -implicitDefEqProofs -dsimp only [ws_seq, ws_ite, wp_ite, brk_t, brk_f, opt_some, ap_sIf, ap_sSet, ap_sRet, ap_sRetN, ap_sExpr, ap_sNil, ap_sBk, ap_sCt, ws_asg, ws_par, ws_par3, ws_toS, ws_nx, ws_rt, ws_bk, ws_ct, wp_tru, wp_notM, wp_andM, wp_orM, wp_chain, ap_mBin, ap_mUn, ap_mOn, ap_mCons, ap_mNil, ap_mKw, ap_mMeth, ap_mSl, ap_oNone, ap_oSome, ap_tAnd, ap_tOr, ap_tNot, ap_mIf, ap_mYes, wp_bind, ap_mVar, ap_mC, wp_ok, wp_optR, slot_0, slot_s, tru_bl, tru_int, tru_lst, tru_tup, tru_non, asBl_bl, asInt_int, asTwo_ap, asThree_ap, if_true, if_false, Bool.false_eq_true, Bool.not_true, Bool.not_false, fin_bl, fin_int, fin_str, fin_non, List.set_cons_succ, List.set_cons_zero]
        have hab : ¬ b[j] = a[i] := fun z => by have := of_decide_eq_false hbr; exact this (by rw [z])
        rw [if_neg hab] at hlx
        refine ⟨hjb, ⟨_, _, _, _, _, by rw [hlx]⟩, by rw [List.length_set]; exact sl, fun q hq => by rw [List.getElem?_set_ne (Ne.symm hq)]; exact so q hq, ?_⟩
        rw [List.getElem?_set_self (by omega)]
        exact congrArg some (hs5 _ rfl)
    · rintro ρ s ⟨hj, ⟨w9, w10, w11, w12, w13, rfl⟩, sl, so, sn⟩
      have en : (enD (signs ⟨b.toArray⟩)).length = b.length := by rw [enD_len, signs_len]; rfl
      rw [en] at sn
      have sd : s[t0 + 1]? = some (.dic kvs) := by rw [so _ (by omega)]; exact s2d
      show ws (sSeq (sSetIx (mVar 4) (mVar 6) (mBin (fAdd false) (mVar 5) (mC (.int 1)))) sNil _ s) _
      rw [ws_seq]
      refine ws_setDk ?_
      simp -implicitDefEqProofs -dsimp only [ws_seq, ws_ite, wp_ite, brk_t, brk_f, opt_some, ap_sIf, ap_sSet, ap_sRet, ap_sRetN, ap_sExpr, ap_sNil, ap_sBk, ap_sCt, ws_asg, ws_par, ws_par3, ws_toS, ws_nx, ws_rt, ws_bk, ws_ct, wp_tru, wp_notM, wp_andM, wp_orM, wp_chain, ap_mBin, ap_mUn, ap_mOn, ap_mCons, ap_mNil, ap_mKw, ap_mMeth, ap_mSl, ap_oNone, ap_oSome, ap_tAnd, ap_tOr, ap_tNot, ap_mIf, ap_mYes, wp_bind, ap_mVar, ap_mC, wp_ok, wp_optR, slot_0, slot_s, tru_bl, tru_int, tru_lst, tru_tup, tru_non, asBl_bl, asInt_int, asTwo_ap, asThree_ap, if_true, if_false, Bool.false_eq_true, Bool.not_true, Bool.not_false, fin_bl, fin_int, fin_str, fin_non, List.set_cons_succ, List.set_cons_zero, add_int]
      refine ⟨t0 + 1, rfl, kvs, kS [a[i]], rfl, sd, by omega, ?_⟩
      refine ⟨hia, ⟨_, _, _, _, _, _, _, _, _, rfl⟩, by rw [List.length_set, sl]; omega, fun q hq => ?_, ?_, ⟨putK2 kvs (kS [a[i]]) (.int ((i : Int) + 1)), ?_, ?_, fun c => ?_⟩, fun k hk => ?_⟩
      · rw [List.getElem?_set_ne (by omega), so _ (by omega)]
        exact s2o q hq
      · rw [List.getElem?_set_ne (by omega), so _ (by omega)]
        exact s2t
      · rw [List.getElem?_set_self (by omega)]
      · have := putK2_len (kvs := kvs) (k := kS [a[i]]) (d := .int ((i : Int) + 1))
        omega
      · rw [valD_putK2, lix_succ hia]
        by_cases hc : a[i] = c
        · rw [if_pos (by rw [hc]), if_pos hc]
          rfl
        · rw [if_neg (fun z => hc (by have := kS_inj.mp z; simpa using this.symm)), if_neg hc]
          exact hkv c
      · rw [List.getElem?_set_ne (by omega)]
        by_cases hki : k = i
        · subst hki
          exact sn
        · rw [so _ (by omega)]
          exact s2r k (by omega)
  · rintro ρ st' ⟨hi, ⟨v5, v6, v7, v8, v9, v10, v11, v12, v13, rfl⟩, hlen, hold, htab, ⟨kvs, hdic, hkl, hkv⟩, hrows⟩
    have en : (enD (signs ⟨a.toArray⟩)).length = a.length := by rw [enD_len, signs_len]; rfl
    rw [en] at hlen htab hrows
    obtain ⟨r, e1, e2⟩ := tab_at (n := a.length) (t := a.length + 1) (c := b.length + 1) htab (fun k hk => hrows k (by omega)) (by omega) (rowD_s (by omega))
    -- the last row, its last
    have hneg : ∀ st : Sto, fNeg (.int 1) st = .ok (.int (-1)) st := fun _ => rfl
    obtain ⟨n, hn⟩ : ∃ n, a.length = n + 1 := ⟨a.length - 1, by omega⟩
    have hr := hrows n (by omega)
    have e3 : fIx (.cell t0) (.int (-1)) st' = .ok (.cell (t0 + 2 + n)) st' := by
      rw [ix_cell htab, atI_last (by simp)]
      simp [optR, hn]
    have e4 : fIx (.cell (t0 + 2 + n)) (.int (-1)) st' = .ok (.int (fw a b)) st' := by
      rw [ix_cell hr, atI_last (by rw [rowD_len]; omega)]
      have h5 : (rowD a b B (n + 2))[(rowD a b B (n + 2)).length - 1]? = some (.int (fw a b)) := by
        rw [rowD_len]
        have := rowD_s (a := a) (b := b) (B := B) (t := n + 1) (c := b.length) (by omega)
        rw [show b.length + 2 - 1 = b.length + 1 by omega, this]
        unfold fw
        rw [hn]
      have h6 := (List.getElem?_eq_some_iff.mp h5).2
      rw [h6]
      rfl
    show ws (sSeq (sRet (mBin fIx (mBin fIx (mVar 3) (mUn fNeg (mC (.int 1)))) (mUn fNeg (mC (.int 1))))) sNil _ st') _
    simp -implicitDefEqProofs -dsimp only [ws_seq, ws_ite, wp_ite, brk_t, brk_f, opt_some, ap_sIf, ap_sSet, ap_sRet, ap_sRetN, ap_sExpr, ap_sNil, ap_sBk, ap_sCt, ws_asg, ws_par, ws_par3, ws_toS, ws_nx, ws_rt, ws_bk, ws_ct, wp_tru, wp_notM, wp_andM, wp_orM, wp_chain, ap_mBin, ap_mUn, ap_mOn, ap_mCons, ap_mNil, ap_mKw, ap_mMeth, ap_mSl, ap_oNone, ap_oSome, ap_tAnd, ap_tOr, ap_tNot, ap_mIf, ap_mYes, wp_bind, ap_mVar, ap_mC, wp_ok, wp_optR, slot_0, slot_s, tru_bl, tru_int, tru_lst, tru_tup, tru_non, asBl_bl, asInt_int, asTwo_ap, asThree_ap, if_true, if_false, Bool.false_eq_true, Bool.not_true, Bool.not_false, fin_bl, fin_int, fin_str, fin_non, List.set_cons_succ, List.set_cons_zero, hneg, e3, e4]
    rw [wp_fin (.of (by rw [ht0]; omega) fun j hj => hold j (by omega)) rfl]
    refine ⟨rfl, ?_⟩
    apply List.ext_getElem?
    intro j
    by_cases hj : j < st.length
    · rw [List.getElem?_take_of_lt hj]
      exact hold j (by omega)
    · rw [List.getElem?_eq_none (by rw [List.length_take]; omega), List.getElem?_eq_none (by omega)]
end P3.Law

/-! W10: the words that a step makes, as the law goes through them. -/
namespace P3.Law
open PySem PySem.Spec PyProof.Rows L2 P3 P3.Near
abbrev abc : Str := "abcdefghijklmnopqrstuvwxyz"
theorem abc_cps : abc.cps.toList = (List.range 26).map (· + 97) := by decide +kernel
theorem abc_signs : signs abc = (List.range 26).map fun q => sD [q + 97] := by
  unfold signs
  rw [abc_cps, List.map_map]
  rfl
theorem abc_at {q : Nat} {x : D} (h : (signs abc)[q]? = some x) : q < 26 ∧ x = sD [q + 97] := by
  rw [abc_signs, List.getElem?_map, Option.map_eq_some_iff] at h
  obtain ⟨a, ha, rfl⟩ := h
  have := List.getElem?_eq_some_iff.mp ha
  obtain ⟨h1, h2⟩ := this
  rw [List.getElem_range] at h2
  rw [List.length_range] at h1
  subst h2
  exact ⟨h1, rfl⟩
theorem abc_len : (signs abc).length = 26 := by rw [abc_signs]; simp
theorem sm_ix {c : Nat} : isSm c = true ↔ ∃ q, q < 26 ∧ c = q + 97 := by
  rw [isSm_iff]
  constructor
  · intro h; exact ⟨c - 97, by omega, by omega⟩
  · rintro ⟨q, h, rfl⟩; omega
/-- a dict of words, found so far -/
structure Fd (kvs : List (Key × D)) (P : List Nat → Prop) (n : Nat) : Prop where
  mem : ∀ l, kS l ∈ kvs.map (·.1) ↔ P l
  keys : ∀ k ∈ kvs.map (·.1), ∃ l, k = kS l
  len : kvs.length ≤ n
  vals : ∀ kv ∈ kvs, kv.2 = .bl true
theorem Fd.put {kvs : List (Key × D)} {P : List Nat → Prop} {n : Nat} (h : Fd kvs P n) (m : List Nat) : Fd (putK2 kvs (kS m) (.bl true)) (fun l => P l ∨ l = m) (n + 1) where
  mem l := by
    rw [putK2_mem, h.mem, kS_inj]
    exact Or.comm
  keys k hk := by
    rcases putK2_mem.mp hk with rfl | hk
    · exact ⟨m, rfl⟩
    · exact h.keys k hk
  len := by have := putK2_len (kvs := kvs) (k := kS m) (d := .bl true); have := h.len; omega
  vals := putK2_all (P := fun d => d = .bl true) rfl h.vals
theorem Fd.imp {kvs : List (Key × D)} {P Q : List Nat → Prop} {n m : Nat} (h : Fd kvs P n) (k : ∀ l, P l ↔ Q l) (hn : n ≤ m) : Fd kvs Q m := ⟨fun l => (h.mem l).trans (k l), h.keys, Nat.le_trans h.len hn, h.vals⟩
/-- the words that a step makes of one, those that are words -/
def Sw (w l : List Nat) : Prop := Step w l ∧ l ≠ w ∧ Wd l
theorem pairs_ap {ks : List Key} (hk : ∀ k ∈ ks, ∃ l, k = kS l) : pairsD (ks.map fun k => .tup [kD k, .bl true]) = some (ks.map fun k => (k, .bl true)) := by
  induction ks with
  | nil => rfl
  | cons k ks ih =>
    obtain ⟨l, rfl⟩ := hk k List.mem_cons_self
    have := ih fun k hk' => hk k (List.mem_cons_of_mem _ hk')
    show (match keyD (kD (kS l)), pairsD (ks.map fun k => .tup [kD k, .bl true]) with
      | some kk, some r => some ((kk, D.bl true) :: r)
      | _, _ => none) = _
    rw [this]
    rfl
theorem merge_mem {x : Key} : ∀ {more kvs : List (Key × D)}, x ∈ (mergeD kvs more).map (·.1) ↔ x ∈ kvs.map (·.1) ∨ x ∈ more.map (·.1)
  | [], kvs => by simp [mergeD]
  | kv :: more, kvs => by
    have := merge_mem (x := x) (more := more) (kvs := putK2 kvs kv.1 kv.2)
    show x ∈ (mergeD (putK2 kvs kv.1 kv.2) more).map (·.1) ↔ _
    rw [this, putK2_mem]
    simp only [List.map_cons, List.mem_cons]
    constructor
    · rintro ((h | h) | h)
      · exact .inr (.inl h)
      · exact .inl h
      · exact .inr (.inr h)
    · rintro (h | h | h)
      · exact .inl (.inr h)
      · exact .inl (.inl h)
      · exact .inr h
theorem merge_len : ∀ {more kvs : List (Key × D)}, (mergeD kvs more).length ≤ kvs.length + more.length
  | [], kvs => by simp [mergeD]
  | kv :: more, kvs => by
    have := merge_len (more := more) (kvs := putK2 kvs kv.1 kv.2)
    have := putK2_len (kvs := kvs) (k := kv.1) (d := kv.2)
    show (mergeD (putK2 kvs kv.1 kv.2) more).length ≤ _
    simp only [List.length_cons]
    omega
theorem merge_all {P : D → Prop} : ∀ {more kvs : List (Key × D)}, (∀ kv ∈ kvs, P kv.2) → (∀ kv ∈ more, P kv.2) → ∀ kv ∈ mergeD kvs more, P kv.2
  | [], _, h, _ => h
  | kv :: more, kvs, h, k => merge_all (more := more) (kvs := putK2 kvs kv.1 kv.2) (putK2_all (k kv List.mem_cons_self) h) fun q hq => k q (List.mem_cons_of_mem _ hq)
/-- which of the found ones stay -/
def keepW (w : List Nat) : D → Bool
  | .str z => decide (0 < (z.length : Int)) && decide ((z.length : Int) < 13) && !decide (z.cps.toList = w)
  | _ => false
def pairW (d : D) : D := .tup [d, .bl true]
def stAt (w : List Nat) (n : Nat) (l : List Nat) : Prop := ∃ p, p < n ∧ InAt (fun c => isSm c = true) w p l
/-- within a place: the letters so far -/
def ltAt (w : List Nat) (p j : Nat) (l : List Nat) : Prop := ∃ q, q < j ∧ (l = w.take p ++ (q + 97) :: w.drop p ∨ (p < w.length ∧ l = w.take p ++ (q + 97) :: w.drop (p + 1)))
theorem steps_ap {w : List Nat} {st : Sto} (hw : Wd w) : ∃ kvs, f__law_steps [sD w] st = .ok (.dic kvs) st ∧ Fd kvs (Sw w) 1000 := by
  have main : wp (f__law_steps [sD w] st) fun d st' => (∃ kvs, d = .dic kvs ∧ Fd kvs (Sw w) 1000) ∧ st' = st := by
    unfold f__law_steps
    rw [wp_call]
    show ws (m__law_steps [some (sD w), none, none, none, none, none, none] st) _
    unfold m__law_steps
    have w1 := hw.one
    have w2 := hw.most
    have eL := fun st => len_sD (st := st) hw.len
    have ed : ∀ st : Sto, mDic0 true = fun (_ : Ro) (st : Sto) => Res.ok (D.cell st.length) (st ++ [Cl.dic []]) := fun _ => rfl
    rw [ed st]
    simp -implicitDefEqProofs -dsimp only [ws_seq, ws_ite, wp_ite, brk_t, brk_f, opt_some, ap_sIf, ap_sSet, ap_sRet, ap_sRetN, ap_sExpr, ap_sNil, ap_sBk, ap_sCt, ws_asg, ws_par, ws_par3, ws_toS, ws_nx, ws_rt, ws_bk, ws_ct, wp_tru, wp_notM, wp_andM, wp_orM, wp_chain, ap_mBin, ap_mUn, ap_mOn, ap_mCons, ap_mNil, ap_mKw, ap_mMeth, ap_mSl, ap_oNone, ap_oSome, ap_tAnd, ap_tOr, ap_tNot, ap_mIf, ap_mYes, wp_bind, ap_mVar, ap_mC, wp_ok, wp_optR, slot_0, slot_s, tru_bl, tru_int, tru_lst, tru_tup, tru_non, asBl_bl, asInt_int, asTwo_ap, asThree_ap, if_true, if_false, Bool.false_eq_true, Bool.not_true, Bool.not_false, fin_bl, fin_int, fin_str, fin_non, List.set_cons_succ, List.set_cons_zero]
    obtain ⟨t0, ht0⟩ : ∃ t0, st.length = t0 := ⟨_, rfl⟩
    rw [ht0]
    refine ws_for (intL 0 (w.length + 1)) (fun p ρ st' => p ≤ w.length + 1 ∧ (∃ v3 v4 v5 v6, ρ = [some (sD w), some (.str abc), some (.cell t0), v3, v4, v5, v6]) ∧ ∃ kvs, st' = st ++ [.dic kvs] ∧ Fd kvs (stAt w p) (60 * p)) ?_ ?_ ?_
    · simp -implicitDefEqProofs -dsimp only [ws_seq, ws_ite, wp_ite, brk_t, brk_f, opt_some, ap_sIf, ap_sSet, ap_sRet, ap_sRetN, ap_sExpr, ap_sNil, ap_sBk, ap_sCt, ws_asg, ws_par, ws_par3, ws_toS, ws_nx, ws_rt, ws_bk, ws_ct, wp_tru, wp_notM, wp_andM, wp_orM, wp_chain, ap_mBin, ap_mUn, ap_mOn, ap_mCons, ap_mNil, ap_mKw, ap_mMeth, ap_mSl, ap_oNone, ap_oSome, ap_tAnd, ap_tOr, ap_tNot, ap_mIf, ap_mYes, wp_bind, ap_mVar, ap_mC, wp_ok, wp_optR, slot_0, slot_s, tru_bl, tru_int, tru_lst, tru_tup, tru_non, asBl_bl, asInt_int, asTwo_ap, asThree_ap, if_true, if_false, Bool.false_eq_true, Bool.not_true, Bool.not_false, fin_bl, fin_int, fin_str, fin_non, List.set_cons_succ, List.set_cons_zero, ap_iOn, eL, add_int]
      rw [range_ap ⟨by omega, by omega⟩]
      refine ⟨by rw [show ((w.length : Int) + 1).toNat = w.length + 1 by omega]; exact static_R, Nat.zero_le _, ⟨_, _, _, _, rfl⟩, [], rfl, ⟨fun l => ?_, fun k h => absurd h List.not_mem_nil, Nat.le_refl _, fun k h => absurd h List.not_mem_nil⟩⟩
      exact ⟨fun h => absurd h List.not_mem_nil, fun ⟨p, h, _⟩ => absurd h (Nat.not_lt_zero _)⟩
    · rintro p x ρ st' hx ⟨hp, ⟨v3, v4, v5, v6, rfl⟩, kvs, rfl, F⟩
      obtain ⟨rfl, hpl⟩ := intL_at hx
      refine ⟨[some (sD w), some (.str abc), some (.cell t0), some (.int (p : Int)), v4, v5, v6], rfl, ?_⟩
      have eT := fun st => sl_to (st := st) (k := false) (i := p) hw.len
      have eD := fun st => sl_from (st := st) (k := false) (i := p) hw.len
      have eD1 : ∀ st, fSl false (sD w) (some ((p : Int) + 1)) none st = .ok (sD (w.drop (p + 1))) st := fun st => sl_from (st := st) (k := false) (i := p + 1) hw.len
      have lt : (w.take p).length ≤ 12 := by rw [List.length_take]; omega
      have ld : ∀ n, (w.drop n).length ≤ 12 := fun n => by rw [List.length_drop]; omega
      rw [ws_seq]
      refine ws_for (signs abc) (fun j ρ st' => j ≤ 26 ∧ (∃ v4 v5 v6, ρ = [some (sD w), some (.str abc), some (.cell t0), some (.int (p : Int)), v4, v5, v6]) ∧ ∃ kvs, st' = st ++ [.dic kvs] ∧ Fd kvs (fun l => stAt w p l ∨ ltAt w p j l) (60 * p + 2 * j)) ?_ ?_ ?_
      · simp -implicitDefEqProofs -dsimp only [ws_seq, ws_ite, wp_ite, brk_t, brk_f, opt_some, ap_sIf, ap_sSet, ap_sRet, ap_sRetN, ap_sExpr, ap_sNil, ap_sBk, ap_sCt, ws_asg, ws_par, ws_par3, ws_toS, ws_nx, ws_rt, ws_bk, ws_ct, wp_tru, wp_notM, wp_andM, wp_orM, wp_chain, ap_mBin, ap_mUn, ap_mOn, ap_mCons, ap_mNil, ap_mKw, ap_mMeth, ap_mSl, ap_oNone, ap_oSome, ap_tAnd, ap_tOr, ap_tNot, ap_mIf, ap_mYes, wp_bind, ap_mVar, ap_mC, wp_ok, wp_optR, slot_0, slot_s, tru_bl, tru_int, tru_lst, tru_tup, tru_non, asBl_bl, asInt_int, asTwo_ap, asThree_ap, if_true, if_false, Bool.false_eq_true, Bool.not_true, Bool.not_false, fin_bl, fin_int, fin_str, fin_non, List.set_cons_succ, List.set_cons_zero, ap_iSeq]
        rw [srcOf_str, wp_ok]
        refine ⟨static_Z, Nat.zero_le _, ⟨_, _, _, rfl⟩, kvs, rfl, F.imp (fun l => ⟨.inl, fun h => h.elim id fun ⟨q, h, _⟩ => absurd h (Nat.not_lt_zero _)⟩) (by omega)⟩
      · rintro q x ρ st' hx ⟨hq, ⟨v4, v5, v6, rfl⟩, kvs, rfl, F⟩
        obtain ⟨hq26, rfl⟩ := abc_at hx
        refine ⟨[some (sD w), some (.str abc), some (.cell t0), some (.int (p : Int)), some (sD [q + 97]), v5, v6], rfl, ?_⟩
        have a1 := fun st => add_sD (st := st) (k := false) (l := w.take p) (m := [q + 97]) (by show _ + 1 ≤ _; omega)
        have a2 := fun st => add_sD (st := st) (k := false) (l := w.take p ++ [q + 97]) (m := w.drop p) (by have := ld p; rw [List.length_append]; show _ + 1 + _ ≤ _; omega)
        have a3 := fun st => add_sD (st := st) (k := false) (l := w.take p ++ [q + 97]) (m := w.drop (p + 1)) (by have := ld (p + 1); rw [List.length_append]; show _ + 1 + _ ≤ _; omega)
        have F1 := F.put ((w.take p ++ [q + 97]) ++ w.drop p)
        rw [ws_seq]
        refine ws_setDk ?_
        simp -implicitDefEqProofs -dsimp only [ws_seq, ws_ite, wp_ite, brk_t, brk_f, opt_some, ap_sIf, ap_sSet, ap_sRet, ap_sRetN, ap_sExpr, ap_sNil, ap_sBk, ap_sCt, ws_asg, ws_par, ws_par3, ws_toS, ws_nx, ws_rt, ws_bk, ws_ct, wp_tru, wp_notM, wp_andM, wp_orM, wp_chain, ap_mBin, ap_mUn, ap_mOn, ap_mCons, ap_mNil, ap_mKw, ap_mMeth, ap_mSl, ap_oNone, ap_oSome, ap_tAnd, ap_tOr, ap_tNot, ap_mIf, ap_mYes, wp_bind, ap_mVar, ap_mC, wp_ok, wp_optR, slot_0, slot_s, tru_bl, tru_int, tru_lst, tru_tup, tru_non, asBl_bl, asInt_int, asTwo_ap, asThree_ap, if_true, if_false, Bool.false_eq_true, Bool.not_true, Bool.not_false, fin_bl, fin_int, fin_str, fin_non, List.set_cons_succ, List.set_cons_zero, eT, eD, a1, a2]
        refine ⟨t0, rfl, kvs, kS ((w.take p ++ [q + 97]) ++ w.drop p), rfl, by rw [← ht0]; simp, by have := F.len; omega, ?_⟩
        rw [show (st ++ [Cl.dic kvs]).set t0 (.dic (putK2 kvs (kS ((w.take p ++ [q + 97]) ++ w.drop p)) (.bl true))) = st ++ [.dic (putK2 kvs (kS ((w.take p ++ [q + 97]) ++ w.drop p)) (.bl true))] by rw [← ht0]; simp]
        have F1l := F1.len
        generalize putK2 kvs (kS ((w.take p ++ [q + 97]) ++ w.drop p)) (.bl true) = k1 at F1 F1l ⊢
        simp -implicitDefEqProofs -dsimp only [ws_seq, ws_ite, wp_ite, brk_t, brk_f, opt_some, ap_sIf, ap_sSet, ap_sRet, ap_sRetN, ap_sExpr, ap_sNil, ap_sBk, ap_sCt, ws_asg, ws_par, ws_par3, ws_toS, ws_nx, ws_rt, ws_bk, ws_ct, wp_tru, wp_notM, wp_andM, wp_orM, wp_chain, ap_mBin, ap_mUn, ap_mOn, ap_mCons, ap_mNil, ap_mKw, ap_mMeth, ap_mSl, ap_oNone, ap_oSome, ap_tAnd, ap_tOr, ap_tNot, ap_mIf, ap_mYes, wp_bind, ap_mVar, ap_mC, wp_ok, wp_optR, slot_0, slot_s, tru_bl, tru_int, tru_lst, tru_tup, tru_non, asBl_bl, asInt_int, asTwo_ap, asThree_ap, if_true, if_false, Bool.false_eq_true, Bool.not_true, Bool.not_false, fin_bl, fin_int, fin_str, fin_non, List.set_cons_succ, List.set_cons_zero, eL, lt_int]
        refine brk_if (fun hbr => ?_) (fun hbr => ?_)
        · have hpw : p < w.length := by have := of_decide_eq_true hbr; omega
          have F2 := F1.put ((w.take p ++ [q + 97]) ++ w.drop (p + 1))
          rw [ws_seq]
          refine ws_setDk ?_
          simp -implicitDefEqProofs -dsimp only [ws_seq, ws_ite, wp_ite, brk_t, brk_f, opt_some, ap_sIf, ap_sSet, ap_sRet, ap_sRetN, ap_sExpr, ap_sNil, ap_sBk, ap_sCt, ws_asg, ws_par, ws_par3, ws_toS, ws_nx, ws_rt, ws_bk, ws_ct, wp_tru, wp_notM, wp_andM, wp_orM, wp_chain, ap_mBin, ap_mUn, ap_mOn, ap_mCons, ap_mNil, ap_mKw, ap_mMeth, ap_mSl, ap_oNone, ap_oSome, ap_tAnd, ap_tOr, ap_tNot, ap_mIf, ap_mYes, wp_bind, ap_mVar, ap_mC, wp_ok, wp_optR, slot_0, slot_s, tru_bl, tru_int, tru_lst, tru_tup, tru_non, asBl_bl, asInt_int, asTwo_ap, asThree_ap, if_true, if_false, Bool.false_eq_true, Bool.not_true, Bool.not_false, fin_bl, fin_int, fin_str, fin_non, List.set_cons_succ, List.set_cons_zero, eT, eD1, a1, a3, add_int]
          refine ⟨t0, rfl, k1, kS ((w.take p ++ [q + 97]) ++ w.drop (p + 1)), rfl, by rw [← ht0]; simp, by omega, ?_⟩
          rw [show (st ++ [Cl.dic k1]).set t0 (.dic (putK2 k1 (kS ((w.take p ++ [q + 97]) ++ w.drop (p + 1))) (.bl true))) = st ++ [.dic (putK2 k1 (kS ((w.take p ++ [q + 97]) ++ w.drop (p + 1))) (.bl true))] by rw [← ht0]; simp]
          refine ⟨hq26, ⟨_, _, _, rfl⟩, _, rfl, F2.imp (fun l => ?_) (by omega)⟩
          constructor
          · rintro (((h | ⟨q', h1, h2⟩) | h) | h)
            · exact .inl h
            · exact .inr ⟨q', by omega, h2⟩
            · exact .inr ⟨q, by omega, .inl (by rw [h]; simp)⟩
            · exact .inr ⟨q, by omega, .inr ⟨hpw, by rw [h]; simp⟩⟩
          · rintro (h | ⟨q', h1, h2⟩)
            · exact .inl (.inl (.inl h))
            · by_cases hqq : q' = q
              · subst hqq
                rcases h2 with h2 | ⟨_, h2⟩
                · exact .inl (.inr (by rw [h2]; simp))
                · exact .inr (by rw [h2]; simp)
              · exact .inl (.inl (.inr ⟨q', by omega, h2⟩))
        · have hpw : ¬ p < w.length := by have := of_decide_eq_false hbr; omega
          simp -implicitDefEqProofs -dsimp only [ws_seq, ws_ite, wp_ite, brk_t, brk_f, opt_some, ap_sIf, ap_sSet, ap_sRet, ap_sRetN, ap_sExpr, ap_sNil, ap_sBk, ap_sCt, ws_asg, ws_par, ws_par3, ws_toS, ws_nx, ws_rt, ws_bk, ws_ct, wp_tru, wp_notM, wp_andM, wp_orM, wp_chain, ap_mBin, ap_mUn, ap_mOn, ap_mCons, ap_mNil, ap_mKw, ap_mMeth, ap_mSl, ap_oNone, ap_oSome, ap_tAnd, ap_tOr, ap_tNot, ap_mIf, ap_mYes, wp_bind, ap_mVar, ap_mC, wp_ok, wp_optR, slot_0, slot_s, tru_bl, tru_int, tru_lst, tru_tup, tru_non, asBl_bl, asInt_int, asTwo_ap, asThree_ap, if_true, if_false, Bool.false_eq_true, Bool.not_true, Bool.not_false, fin_bl, fin_int, fin_str, fin_non, List.set_cons_succ, List.set_cons_zero]
          refine ⟨hq26, ⟨_, _, _, rfl⟩, _, rfl, F1.imp (fun l => ?_) (by omega)⟩
          constructor
          · rintro ((h | ⟨q', h1, h2⟩) | h)
            · exact .inl h
            · exact .inr ⟨q', by omega, h2⟩
            · exact .inr ⟨q, by omega, .inl (by rw [h]; simp)⟩
          · rintro (h | ⟨q', h1, h2⟩)
            · exact .inl (.inl h)
            · by_cases hqq : q' = q
              · subst hqq
                rcases h2 with h2 | ⟨h3, _⟩
                · exact .inr (by rw [h2]; simp)
                · exact absurd h3 hpw
              · exact .inl (.inr ⟨q', by omega, h2⟩)
      · rintro ρ st' ⟨hq, ⟨v4, v5, v6, rfl⟩, kvs, rfl, F⟩
        rw [abc_len] at F
        have Fl := F.len
        have fin0 : ∀ k2 : List (Key × D), Fd k2 (stAt w (p + 1)) (60 * (p + 1)) → p + 1 ≤ w.length + 1 → ∀ v4 v5 v6, (p + 1 ≤ w.length + 1 ∧ (∃ v3 v4' v5' v6', [some (sD w), some (.str abc), some (D.cell t0), some (.int (p : Int)), v4, v5, v6] = [some (sD w), some (.str abc), some (.cell t0), v3, v4', v5', v6']) ∧ ∃ kvs, (st ++ [Cl.dic k2]) = st ++ [.dic kvs] ∧ Fd kvs (stAt w (p + 1)) (60 * (p + 1))) := fun k2 h hp v4 v5 v6 => ⟨hp, ⟨_, _, _, _, rfl⟩, k2, rfl, h⟩
        show ws (sSeq _ _ _ _) _
        simp -implicitDefEqProofs -dsimp only [ws_seq, ws_ite, wp_ite, brk_t, brk_f, opt_some, ap_sIf, ap_sSet, ap_sRet, ap_sRetN, ap_sExpr, ap_sNil, ap_sBk, ap_sCt, ws_asg, ws_par, ws_par3, ws_toS, ws_nx, ws_rt, ws_bk, ws_ct, wp_tru, wp_notM, wp_andM, wp_orM, wp_chain, ap_mBin, ap_mUn, ap_mOn, ap_mCons, ap_mNil, ap_mKw, ap_mMeth, ap_mSl, ap_oNone, ap_oSome, ap_tAnd, ap_tOr, ap_tNot, ap_mIf, ap_mYes, wp_bind, ap_mVar, ap_mC, wp_ok, wp_optR, slot_0, slot_s, tru_bl, tru_int, tru_lst, tru_tup, tru_non, asBl_bl, asInt_int, asTwo_ap, asThree_ap, if_true, if_false, Bool.false_eq_true, Bool.not_true, Bool.not_false, fin_bl, fin_int, fin_str, fin_non, List.set_cons_succ, List.set_cons_zero, eL, lt_int]
        refine brk_if (fun hbr => ?_) (fun hbr => ?_)
        · have hpw : p < w.length := by have := of_decide_eq_true hbr; omega
          have a4 := fun st => add_sD (st := st) (k := false) (l := w.take p) (m := w.drop (p + 1)) (by have := ld (p + 1); omega)
          have F1 := F.put (w.take p ++ w.drop (p + 1))
          rw [ws_seq]
          refine ws_setDk ?_
          simp -implicitDefEqProofs -dsimp only [ws_seq, ws_ite, wp_ite, brk_t, brk_f, opt_some, ap_sIf, ap_sSet, ap_sRet, ap_sRetN, ap_sExpr, ap_sNil, ap_sBk, ap_sCt, ws_asg, ws_par, ws_par3, ws_toS, ws_nx, ws_rt, ws_bk, ws_ct, wp_tru, wp_notM, wp_andM, wp_orM, wp_chain, ap_mBin, ap_mUn, ap_mOn, ap_mCons, ap_mNil, ap_mKw, ap_mMeth, ap_mSl, ap_oNone, ap_oSome, ap_tAnd, ap_tOr, ap_tNot, ap_mIf, ap_mYes, wp_bind, ap_mVar, ap_mC, wp_ok, wp_optR, slot_0, slot_s, tru_bl, tru_int, tru_lst, tru_tup, tru_non, asBl_bl, asInt_int, asTwo_ap, asThree_ap, if_true, if_false, Bool.false_eq_true, Bool.not_true, Bool.not_false, fin_bl, fin_int, fin_str, fin_non, List.set_cons_succ, List.set_cons_zero, eT, eD1, a4, add_int]
          refine ⟨t0, rfl, kvs, kS (w.take p ++ w.drop (p + 1)), rfl, by rw [← ht0]; simp, by omega, ?_⟩
          rw [show (st ++ [Cl.dic kvs]).set t0 (.dic (putK2 kvs (kS (w.take p ++ w.drop (p + 1))) (.bl true))) = st ++ [.dic (putK2 kvs (kS (w.take p ++ w.drop (p + 1))) (.bl true))] by rw [← ht0]; simp]
          have F1l := F1.len
          generalize putK2 kvs (kS (w.take p ++ w.drop (p + 1))) (.bl true) = k1 at F1 F1l ⊢
          simp -implicitDefEqProofs -dsimp only [ws_seq, ws_ite, wp_ite, brk_t, brk_f, opt_some, ap_sIf, ap_sSet, ap_sRet, ap_sRetN, ap_sExpr, ap_sNil, ap_sBk, ap_sCt, ws_asg, ws_par, ws_par3, ws_toS, ws_nx, ws_rt, ws_bk, ws_ct, wp_tru, wp_notM, wp_andM, wp_orM, wp_chain, ap_mBin, ap_mUn, ap_mOn, ap_mCons, ap_mNil, ap_mKw, ap_mMeth, ap_mSl, ap_oNone, ap_oSome, ap_tAnd, ap_tOr, ap_tNot, ap_mIf, ap_mYes, wp_bind, ap_mVar, ap_mC, wp_ok, wp_optR, slot_0, slot_s, tru_bl, tru_int, tru_lst, tru_tup, tru_non, asBl_bl, asInt_int, asTwo_ap, asThree_ap, if_true, if_false, Bool.false_eq_true, Bool.not_true, Bool.not_false, fin_bl, fin_int, fin_str, fin_non, List.set_cons_succ, List.set_cons_zero, eL, lt_int]
          refine brk_if (fun h0 => ?_) (fun h0 => ?_)
          · have hp0 : 0 < p := by have := of_decide_eq_true h0; omega
            simp -implicitDefEqProofs -dsimp only [ws_seq, ws_ite, wp_ite, brk_t, brk_f, opt_some, ap_sIf, ap_sSet, ap_sRet, ap_sRetN, ap_sExpr, ap_sNil, ap_sBk, ap_sCt, ws_asg, ws_par, ws_par3, ws_toS, ws_nx, ws_rt, ws_bk, ws_ct, wp_tru, wp_notM, wp_andM, wp_orM, wp_chain, ap_mBin, ap_mUn, ap_mOn, ap_mCons, ap_mNil, ap_mKw, ap_mMeth, ap_mSl, ap_oNone, ap_oSome, ap_tAnd, ap_tOr, ap_tNot, ap_mIf, ap_mYes, wp_bind, ap_mVar, ap_mC, wp_ok, wp_optR, slot_0, slot_s, tru_bl, tru_int, tru_lst, tru_tup, tru_non, asBl_bl, asInt_int, asTwo_ap, asThree_ap, if_true, if_false, Bool.false_eq_true, Bool.not_true, Bool.not_false, fin_bl, fin_int, fin_str, fin_non, List.set_cons_succ, List.set_cons_zero, eL, lt_int]
            rw [hbr]
            have i1 := fun st => ix_sD (st := st) (l := w) (i := p) hw.len hpw
            have i2 : ∀ st, fIx (sD w) (.int ((p : Int) - 1)) st = .ok (sD [w[p - 1]]) st := fun st => by
              have := ix_sD (st := st) (l := w) (i := p - 1) hw.len (by omega)
              rw [show ((p - 1 : Nat) : Int) = (p : Int) - 1 by omega] at this
              exact this
            have a5 := fun st => add_sD (st := st) (k := false) (l := [w[p]]) (m := [w[p - 1]]) (by show 1 + 1 ≤ _; omega)
            have eT1 : ∀ st, fSl false (sD w) none (some ((p : Int) - 1)) st = .ok (sD (w.take (p - 1))) st := fun st => by
              have := sl_to (st := st) (k := false) (i := p - 1) hw.len
              rw [show ((p - 1 : Nat) : Int) = (p : Int) - 1 by omega] at this
              exact this
            have lt1 : (w.take (p - 1)).length ≤ 12 := by rw [List.length_take]; omega
            have a6 := fun st => add_sD (st := st) (k := false) (l := w.take (p - 1)) (m := [w[p]] ++ [w[p - 1]]) (by rw [List.length_append]; show _ + (1 + 1) ≤ _; omega)
            have a7 := fun st => add_sD (st := st) (k := false) (l := w.take (p - 1) ++ ([w[p]] ++ [w[p - 1]])) (m := w.drop (p + 1)) (by have := ld (p + 1); rw [List.length_append, List.length_append]; show _ + (1 + 1) + _ ≤ _; omega)
            simp -implicitDefEqProofs -dsimp only [ws_seq, ws_ite, wp_ite, brk_t, brk_f, opt_some, ap_sIf, ap_sSet, ap_sRet, ap_sRetN, ap_sExpr, ap_sNil, ap_sBk, ap_sCt, ws_asg, ws_par, ws_par3, ws_toS, ws_nx, ws_rt, ws_bk, ws_ct, wp_tru, wp_notM, wp_andM, wp_orM, wp_chain, ap_mBin, ap_mUn, ap_mOn, ap_mCons, ap_mNil, ap_mKw, ap_mMeth, ap_mSl, ap_oNone, ap_oSome, ap_tAnd, ap_tOr, ap_tNot, ap_mIf, ap_mYes, wp_bind, ap_mVar, ap_mC, wp_ok, wp_optR, slot_0, slot_s, tru_bl, tru_int, tru_lst, tru_tup, tru_non, asBl_bl, asInt_int, asTwo_ap, asThree_ap, if_true, if_false, Bool.false_eq_true, Bool.not_true, Bool.not_false, fin_bl, fin_int, fin_str, fin_non, List.set_cons_succ, List.set_cons_zero, i1, i2, sub_int, a5]
            have F2 := F1.put (w.take (p - 1) ++ ([w[p]] ++ [w[p - 1]]) ++ w.drop (p + 1))
            refine ws_setDk ?_
            simp -implicitDefEqProofs -dsimp only [ws_seq, ws_ite, wp_ite, brk_t, brk_f, opt_some, ap_sIf, ap_sSet, ap_sRet, ap_sRetN, ap_sExpr, ap_sNil, ap_sBk, ap_sCt, ws_asg, ws_par, ws_par3, ws_toS, ws_nx, ws_rt, ws_bk, ws_ct, wp_tru, wp_notM, wp_andM, wp_orM, wp_chain, ap_mBin, ap_mUn, ap_mOn, ap_mCons, ap_mNil, ap_mKw, ap_mMeth, ap_mSl, ap_oNone, ap_oSome, ap_tAnd, ap_tOr, ap_tNot, ap_mIf, ap_mYes, wp_bind, ap_mVar, ap_mC, wp_ok, wp_optR, slot_0, slot_s, tru_bl, tru_int, tru_lst, tru_tup, tru_non, asBl_bl, asInt_int, asTwo_ap, asThree_ap, if_true, if_false, Bool.false_eq_true, Bool.not_true, Bool.not_false, fin_bl, fin_int, fin_str, fin_non, List.set_cons_succ, List.set_cons_zero, eT1, eD1, a6, a7, sub_int, add_int]
            refine ⟨t0, rfl, k1, kS (w.take (p - 1) ++ ([w[p]] ++ [w[p - 1]]) ++ w.drop (p + 1)), rfl, by rw [← ht0]; simp, by omega, ?_⟩
            rw [show (st ++ [Cl.dic k1]).set t0 (.dic (putK2 k1 (kS (w.take (p - 1) ++ ([w[p]] ++ [w[p - 1]]) ++ w.drop (p + 1))) (.bl true))) = st ++ [.dic (putK2 k1 (kS (w.take (p - 1) ++ ([w[p]] ++ [w[p - 1]]) ++ w.drop (p + 1))) (.bl true))] by rw [← ht0]; simp]
            refine fin0 _ (F2.imp (fun l => ?_) (by omega)) (by omega) _ _ _
            constructor
            · rintro (((⟨q, h1, h2⟩ | ⟨q, h1, h2⟩) | h) | h)
              · exact ⟨q, by omega, h2⟩
              · exact ⟨p, by omega, .inl ⟨q + 97, sm_ix.mpr ⟨q, h1, rfl⟩, h2⟩⟩
              · exact ⟨p, by omega, .inr (.inl ⟨hpw, h⟩)⟩
              · exact ⟨p, by omega, .inr (.inr ⟨hpw, hp0, by rw [h]; simp⟩)⟩
            · rintro ⟨q, h1, h2⟩
              by_cases hqp : q = p
              · subst hqp
                rcases h2 with ⟨c, hc, h3⟩ | ⟨_, h3⟩ | ⟨_, _, h3⟩
                · obtain ⟨z, hz, rfl⟩ := sm_ix.mp hc
                  exact .inl (.inl (.inr ⟨z, hz, h3⟩))
                · exact .inl (.inr h3)
                · exact .inr (by rw [h3]; simp)
              · exact .inl (.inl (.inl ⟨q, by omega, h2⟩))
          · have hp0 : p = 0 := by have := of_decide_eq_false h0; omega
            simp -implicitDefEqProofs -dsimp only [ws_seq, ws_ite, wp_ite, brk_t, brk_f, opt_some, ap_sIf, ap_sSet, ap_sRet, ap_sRetN, ap_sExpr, ap_sNil, ap_sBk, ap_sCt, ws_asg, ws_par, ws_par3, ws_toS, ws_nx, ws_rt, ws_bk, ws_ct, wp_tru, wp_notM, wp_andM, wp_orM, wp_chain, ap_mBin, ap_mUn, ap_mOn, ap_mCons, ap_mNil, ap_mKw, ap_mMeth, ap_mSl, ap_oNone, ap_oSome, ap_tAnd, ap_tOr, ap_tNot, ap_mIf, ap_mYes, wp_bind, ap_mVar, ap_mC, wp_ok, wp_optR, slot_0, slot_s, tru_bl, tru_int, tru_lst, tru_tup, tru_non, asBl_bl, asInt_int, asTwo_ap, asThree_ap, if_true, if_false, Bool.false_eq_true, Bool.not_true, Bool.not_false, fin_bl, fin_int, fin_str, fin_non, List.set_cons_succ, List.set_cons_zero]
            refine fin0 _ (F1.imp (fun l => ?_) (by omega)) (by omega) _ _ _
            constructor
            · rintro ((⟨q, h1, h2⟩ | ⟨q, h1, h2⟩) | h)
              · exact ⟨q, by omega, h2⟩
              · exact ⟨p, by omega, .inl ⟨q + 97, sm_ix.mpr ⟨q, h1, rfl⟩, h2⟩⟩
              · exact ⟨p, by omega, .inr (.inl ⟨hpw, h⟩)⟩
            · rintro ⟨q, h1, h2⟩
              by_cases hqp : q = p
              · subst hqp
                rcases h2 with ⟨c, hc, h3⟩ | ⟨_, h3⟩ | ⟨_, h4, h3⟩
                · obtain ⟨z, hz, rfl⟩ := sm_ix.mp hc
                  exact .inl (.inr ⟨z, hz, h3⟩)
                · exact .inr h3
                · omega
              · exact .inl (.inl ⟨q, by omega, h2⟩)
        · have hpw : ¬ p < w.length := by have := of_decide_eq_false hbr; omega
          simp -implicitDefEqProofs -dsimp only [ws_seq, ws_ite, wp_ite, brk_t, brk_f, opt_some, ap_sIf, ap_sSet, ap_sRet, ap_sRetN, ap_sExpr, ap_sNil, ap_sBk, ap_sCt, ws_asg, ws_par, ws_par3, ws_toS, ws_nx, ws_rt, ws_bk, ws_ct, wp_tru, wp_notM, wp_andM, wp_orM, wp_chain, ap_mBin, ap_mUn, ap_mOn, ap_mCons, ap_mNil, ap_mKw, ap_mMeth, ap_mSl, ap_oNone, ap_oSome, ap_tAnd, ap_tOr, ap_tNot, ap_mIf, ap_mYes, wp_bind, ap_mVar, ap_mC, wp_ok, wp_optR, slot_0, slot_s, tru_bl, tru_int, tru_lst, tru_tup, tru_non, asBl_bl, asInt_int, asTwo_ap, asThree_ap, if_true, if_false, Bool.false_eq_true, Bool.not_true, Bool.not_false, fin_bl, fin_int, fin_str, fin_non, List.set_cons_succ, List.set_cons_zero, eL, lt_int]
          refine brk_if (fun h0 => ?_) (fun h0 => ?_)
          · simp -implicitDefEqProofs -dsimp only [ws_seq, ws_ite, wp_ite, brk_t, brk_f, opt_some, ap_sIf, ap_sSet, ap_sRet, ap_sRetN, ap_sExpr, ap_sNil, ap_sBk, ap_sCt, ws_asg, ws_par, ws_par3, ws_toS, ws_nx, ws_rt, ws_bk, ws_ct, wp_tru, wp_notM, wp_andM, wp_orM, wp_chain, ap_mBin, ap_mUn, ap_mOn, ap_mCons, ap_mNil, ap_mKw, ap_mMeth, ap_mSl, ap_oNone, ap_oSome, ap_tAnd, ap_tOr, ap_tNot, ap_mIf, ap_mYes, wp_bind, ap_mVar, ap_mC, wp_ok, wp_optR, slot_0, slot_s, tru_bl, tru_int, tru_lst, tru_tup, tru_non, asBl_bl, asInt_int, asTwo_ap, asThree_ap, if_true, if_false, Bool.false_eq_true, Bool.not_true, Bool.not_false, fin_bl, fin_int, fin_str, fin_non, List.set_cons_succ, List.set_cons_zero, eL, lt_int]
            rw [hbr]
            simp -implicitDefEqProofs -dsimp only [ws_seq, ws_ite, wp_ite, brk_t, brk_f, opt_some, ap_sIf, ap_sSet, ap_sRet, ap_sRetN, ap_sExpr, ap_sNil, ap_sBk, ap_sCt, ws_asg, ws_par, ws_par3, ws_toS, ws_nx, ws_rt, ws_bk, ws_ct, wp_tru, wp_notM, wp_andM, wp_orM, wp_chain, ap_mBin, ap_mUn, ap_mOn, ap_mCons, ap_mNil, ap_mKw, ap_mMeth, ap_mSl, ap_oNone, ap_oSome, ap_tAnd, ap_tOr, ap_tNot, ap_mIf, ap_mYes, wp_bind, ap_mVar, ap_mC, wp_ok, wp_optR, slot_0, slot_s, tru_bl, tru_int, tru_lst, tru_tup, tru_non, asBl_bl, asInt_int, asTwo_ap, asThree_ap, if_true, if_false, Bool.false_eq_true, Bool.not_true, Bool.not_false, fin_bl, fin_int, fin_str, fin_non, List.set_cons_succ, List.set_cons_zero]
            refine fin0 _ (F.imp (fun l => ?_) (by omega)) (by omega) _ _ _
            constructor
            · rintro (⟨q, h1, h2⟩ | ⟨q, h1, h2⟩)
              · exact ⟨q, by omega, h2⟩
              · exact ⟨p, by omega, .inl ⟨q + 97, sm_ix.mpr ⟨q, h1, rfl⟩, h2⟩⟩
            · rintro ⟨q, h1, h2⟩
              by_cases hqp : q = p
              · subst hqp
                rcases h2 with ⟨c, hc, h3⟩ | ⟨h4, h3⟩ | ⟨h4, _, h3⟩
                · obtain ⟨z, hz, rfl⟩ := sm_ix.mp hc
                  exact .inr ⟨z, hz, h3⟩
                · exact absurd h4 hpw
                · exact absurd h4 hpw
              · exact .inl ⟨q, by omega, h2⟩
          · exfalso
            have := of_decide_eq_false h0
            omega
    · rintro ρ st' ⟨hp, ⟨v3, v4, v5, v6, rfl⟩, kvs, rfl, F⟩
      rw [intL_len] at F
      have Fl := F.len
      have eC := compC_pure (kind := 0) (loc := locV 2) (t := .name 6) (tt := tAndM (mTru (mChain fLt fLt (mC (.int 0)) (mOn fLen (mCons (mVar 6) mNil)) (mC (.int 13)))) (mTru (mBin fNe (mVar 6) (mVar 0)))) (me := mOn fTup (mCons (mVar 6) (mCons (mC (.bl true)) mNil))) (vs := [6]) (ρ := [some (sD w), some (.str abc), some (.cell t0), v3, v4, v5, v6]) (st := st ++ [.dic kvs]) (kvs := kvs) (j := t0) rfl (by rw [← ht0]; simp) (keepW w) pairW (by omega) (fun x hx => by
        obtain ⟨kv, h1, rfl⟩ := List.mem_map.mp hx
        obtain ⟨l, hl⟩ := F.keys kv.1 (List.mem_map.mpr ⟨kv, h1, rfl⟩)
        have hx : turnD 0 kv = sD l := by show kD kv.1 = _; rw [hl]; rfl
        rw [hx]
        have hs := (F.mem l).mp (hl ▸ List.mem_map.mpr ⟨kv, h1, rfl⟩)
        obtain ⟨q, _, hin⟩ := hs
        have hsm := in_small hw.sm hin
        have hasc : asL l := fun c hc => by have := isSm_iff.mp (hsm c hc); omega
        have hlen : l.length ≤ 100000 := by have := (in_step hin).len; omega
        refine ⟨[some (sD w), some (.str abc), some (.cell t0), v3, v4, v5, some (sD l)], rfl, fun st => ⟨?_, fun _ => ⟨rfl, fun n => rfl⟩⟩⟩
        have eN := fun st => ne_sD (st := st) hasc hw.asL
        have eLl := fun st => len_sD (st := st) hlen
        refine res_eq ?_
        simp -implicitDefEqProofs -dsimp only [ws_seq, ws_ite, wp_ite, brk_t, brk_f, opt_some, ap_sIf, ap_sSet, ap_sRet, ap_sRetN, ap_sExpr, ap_sNil, ap_sBk, ap_sCt, ws_asg, ws_par, ws_par3, ws_toS, ws_nx, ws_rt, ws_bk, ws_ct, wp_tru, wp_notM, wp_andM, wp_orM, wp_chain, ap_mBin, ap_mUn, ap_mOn, ap_mCons, ap_mNil, ap_mKw, ap_mMeth, ap_mSl, ap_oNone, ap_oSome, ap_tAnd, ap_tOr, ap_tNot, ap_mIf, ap_mYes, wp_bind, ap_mVar, ap_mC, wp_ok, wp_optR, slot_0, slot_s, tru_bl, tru_int, tru_lst, tru_tup, tru_non, asBl_bl, asInt_int, asTwo_ap, asThree_ap, if_true, if_false, Bool.false_eq_true, Bool.not_true, Bool.not_false, fin_bl, fin_int, fin_str, fin_non, List.set_cons_succ, List.set_cons_zero, eLl, lt_int]
        have ek : keepW w (sD l) = (decide (0 < (l.length : Int)) && decide ((l.length : Int) < 13) && !decide (l = w)) := rfl
        rw [ek]
        refine brk_if (fun h1 => ?_) (fun h1 => ?_)
        · simp -implicitDefEqProofs -dsimp only [ws_seq, ws_ite, wp_ite, brk_t, brk_f, opt_some, ap_sIf, ap_sSet, ap_sRet, ap_sRetN, ap_sExpr, ap_sNil, ap_sBk, ap_sCt, ws_asg, ws_par, ws_par3, ws_toS, ws_nx, ws_rt, ws_bk, ws_ct, wp_tru, wp_notM, wp_andM, wp_orM, wp_chain, ap_mBin, ap_mUn, ap_mOn, ap_mCons, ap_mNil, ap_mKw, ap_mMeth, ap_mSl, ap_oNone, ap_oSome, ap_tAnd, ap_tOr, ap_tNot, ap_mIf, ap_mYes, wp_bind, ap_mVar, ap_mC, wp_ok, wp_optR, slot_0, slot_s, tru_bl, tru_int, tru_lst, tru_tup, tru_non, asBl_bl, asInt_int, asTwo_ap, asThree_ap, if_true, if_false, Bool.false_eq_true, Bool.not_true, Bool.not_false, fin_bl, fin_int, fin_str, fin_non, List.set_cons_succ, List.set_cons_zero, lt_int]
          rw [h1]
          refine brk_if (fun h2 => ?_) (fun h2 => ?_)
          · simp -implicitDefEqProofs -dsimp only [ws_seq, ws_ite, wp_ite, brk_t, brk_f, opt_some, ap_sIf, ap_sSet, ap_sRet, ap_sRetN, ap_sExpr, ap_sNil, ap_sBk, ap_sCt, ws_asg, ws_par, ws_par3, ws_toS, ws_nx, ws_rt, ws_bk, ws_ct, wp_tru, wp_notM, wp_andM, wp_orM, wp_chain, ap_mBin, ap_mUn, ap_mOn, ap_mCons, ap_mNil, ap_mKw, ap_mMeth, ap_mSl, ap_oNone, ap_oSome, ap_tAnd, ap_tOr, ap_tNot, ap_mIf, ap_mYes, wp_bind, ap_mVar, ap_mC, wp_ok, wp_optR, slot_0, slot_s, tru_bl, tru_int, tru_lst, tru_tup, tru_non, asBl_bl, asInt_int, asTwo_ap, asThree_ap, if_true, if_false, Bool.false_eq_true, Bool.not_true, Bool.not_false, fin_bl, fin_int, fin_str, fin_non, List.set_cons_succ, List.set_cons_zero, eN]
            rw [h2]
            exact ⟨by rw [Bool.true_and, Bool.true_and], trivial⟩
          · rw [h2]
            exact ⟨by rw [Bool.true_and, Bool.false_and], rfl⟩
        · simp -implicitDefEqProofs -dsimp only [ws_seq, ws_ite, wp_ite, brk_t, brk_f, opt_some, ap_sIf, ap_sSet, ap_sRet, ap_sRetN, ap_sExpr, ap_sNil, ap_sBk, ap_sCt, ws_asg, ws_par, ws_par3, ws_toS, ws_nx, ws_rt, ws_bk, ws_ct, wp_tru, wp_notM, wp_andM, wp_orM, wp_chain, ap_mBin, ap_mUn, ap_mOn, ap_mCons, ap_mNil, ap_mKw, ap_mMeth, ap_mSl, ap_oNone, ap_oSome, ap_tAnd, ap_tOr, ap_tNot, ap_mIf, ap_mYes, wp_bind, ap_mVar, ap_mC, wp_ok, wp_optR, slot_0, slot_s, tru_bl, tru_int, tru_lst, tru_tup, tru_non, asBl_bl, asInt_int, asTwo_ap, asThree_ap, if_true, if_false, Bool.false_eq_true, Bool.not_true, Bool.not_false, fin_bl, fin_int, fin_str, fin_non, List.set_cons_succ, List.set_cons_zero]
          rw [h1]
          exact ⟨by rw [Bool.false_and, Bool.false_and], trivial⟩)
      obtain ⟨ks, hks⟩ : ∃ ks, ks = (kvs.map (·.1)).filter fun k => keepW w (kD k) := ⟨_, rfl⟩
      have hkk : ∀ k ∈ ks, ∃ l, k = kS l := fun k hk => by
        rw [hks] at hk
        exact F.keys k (List.mem_filter.mp hk).1
      have eL : ((kvs.map (turnD 0)).filter (keepW w)).map pairW = ks.map fun k => .tup [kD k, .bl true] := by
        have : kvs.map (turnD 0) = (kvs.map (·.1)).map kD := by rw [List.map_map]; rfl
        rw [this, List.filter_map, List.map_map, hks]
        rfl
      rw [eL] at eC
      have eD : fDictOf false [.lst (ks.map fun k => .tup [kD k, .bl true])] (st ++ [.dic kvs]) = .ok (.dic (mergeD [] (ks.map fun k => (k, .bl true)))) (st ++ [.dic kvs]) := by
        unfold fDictOf
        simp only [view_lst]
        rw [pairs_ap hkk]
        rfl
      have hks2 : (ks.map fun k => (k, D.bl true)).map (·.1) = ks := by rw [List.map_map]; exact List.map_id _
      have hklen : ks.length ≤ kvs.length := by
        rw [hks]
        have := List.length_filter_le (fun k => keepW w (kD k)) (kvs.map (·.1))
        rwa [List.length_map] at this
      have FF : Fd (mergeD [] (ks.map fun k => (k, .bl true))) (Sw w) 1000 := by
        refine ⟨fun l => ?_, fun k hk => ?_, ?_, ?_⟩
        · rw [merge_mem, hks2, hks, List.mem_filter, F.mem]
          have ek : keepW w (kD (kS l)) = (decide (0 < (l.length : Int)) && decide ((l.length : Int) < 13) && !decide (l = w)) := rfl
          rw [ek]
          simp only [List.map_nil, List.not_mem_nil, false_or, Bool.and_eq_true, decide_eq_true_eq, Bool.not_eq_true', decide_eq_false_iff_not]
          constructor
          · rintro ⟨⟨q, _, hin⟩, ⟨h1, h2⟩, h3⟩
            exact ⟨in_step hin, h3, ⟨by omega, by omega, in_small hw.sm hin⟩⟩
          · rintro ⟨h1, h2, h3⟩
            have := h3.one
            have := h3.most
            obtain ⟨q, h4, h5⟩ := step_in (S := fun c => isSm c = true) h1 h3.sm
            exact ⟨⟨q, h4, h5⟩, ⟨by omega, by omega⟩, h2⟩
        · rcases merge_mem.mp hk with hk | hk
          · exact absurd hk List.not_mem_nil
          · rw [hks2] at hk
            exact hkk k hk
        · have := merge_len (more := ks.map fun k => (k, D.bl true)) (kvs := [])
          rw [List.length_map] at this
          simp only [List.length_nil] at this
          omega
        · refine merge_all (P := fun d => d = .bl true) (fun kv h => absurd h List.not_mem_nil) fun kv h => ?_
          obtain ⟨k, _, rfl⟩ := List.mem_map.mp h
          rfl
      show ws (sSeq _ _ _ _) _
      simp -implicitDefEqProofs -dsimp only [ws_seq, ws_ite, wp_ite, brk_t, brk_f, opt_some, ap_sIf, ap_sSet, ap_sRet, ap_sRetN, ap_sExpr, ap_sNil, ap_sBk, ap_sCt, ws_asg, ws_par, ws_par3, ws_toS, ws_nx, ws_rt, ws_bk, ws_ct, wp_tru, wp_notM, wp_andM, wp_orM, wp_chain, ap_mBin, ap_mUn, ap_mOn, ap_mCons, ap_mNil, ap_mKw, ap_mMeth, ap_mSl, ap_oNone, ap_oSome, ap_tAnd, ap_tOr, ap_tNot, ap_mIf, ap_mYes, wp_bind, ap_mVar, ap_mC, wp_ok, wp_optR, slot_0, slot_s, tru_bl, tru_int, tru_lst, tru_tup, tru_non, asBl_bl, asInt_int, asTwo_ap, asThree_ap, if_true, if_false, Bool.false_eq_true, Bool.not_true, Bool.not_false, fin_bl, fin_int, fin_str, fin_non, List.set_cons_succ, List.set_cons_zero, eC, eD]
      have hb : (D.dic (mergeD [] (ks.map fun k => (k, .bl true)))).blw st.length = true := by
        show blwK _ _ = true
        rw [blwK_map, blwL_iff]
        intro d hd
        obtain ⟨kv, h1, rfl⟩ := List.mem_map.mp hd
        rw [FF.vals kv h1]
        rfl
      rw [wp_fin (.app _ _) hb, List.take_left]
      exact ⟨⟨_, rfl, FF⟩, rfl⟩
  obtain ⟨d, st', e, ⟨kvs, rfl, h⟩, rfl⟩ := wp_ok_of main
  exact ⟨kvs, e, h⟩
end P3.Law

/-! X10: how far words are, by the program and by the law. -/
namespace P3.Law
open PySem PySem.Spec PyProof.Rows L2 P3 P3.Near
/-- how far: 0, 1, 2 or None -/
noncomputable def farD (a b : List Nat) : D := if fw a b ≤ 2 then .int (fw a b) else .non
theorem farD_symm (a b : List Nat) : farD a b = farD b a := by unfold farD; rw [fw_symm]
theorem steps_to_ap {a b : List Nat} {st : Sto} (ha : Wd a) (hb : Wd b) : f_steps_to [sD a, sD b] st = .ok (farD a b) st := by
  refine res_eq ?_
  unfold f_steps_to
  rw [wp_call]
  show ws (m_steps_to [some (sD a), some (sD b), none] st) _
  unfold m_steps_to
  have eA := fun st => len_sD (st := st) ha.len
  have eB := fun st => len_sD (st := st) hb.len
  have abs_ap : ∀ (i : Int) (st : Sto), fAbs [.int i] st = .ok (.int (if i < 0 then -i else i)) st := fun _ _ => rfl
  have hl := fw_len a b
  simp -implicitDefEqProofs -dsimp only [ws_seq, ws_ite, wp_ite, brk_t, brk_f, opt_some, ap_sIf, ap_sSet, ap_sRet, ap_sRetN, ap_sExpr, ap_sNil, ap_sBk, ap_sCt, ws_asg, ws_par, ws_par3, ws_toS, ws_nx, ws_rt, ws_bk, ws_ct, wp_tru, wp_notM, wp_andM, wp_orM, wp_chain, ap_mBin, ap_mUn, ap_mOn, ap_mCons, ap_mNil, ap_mKw, ap_mMeth, ap_mSl, ap_oNone, ap_oSome, ap_tAnd, ap_tOr, ap_tNot, ap_mIf, ap_mYes, wp_bind, ap_mVar, ap_mC, wp_ok, wp_optR, slot_0, slot_s, tru_bl, tru_int, tru_lst, tru_tup, tru_non, asBl_bl, asInt_int, asTwo_ap, asThree_ap, if_true, if_false, Bool.false_eq_true, Bool.not_true, Bool.not_false, fin_bl, fin_int, fin_str, fin_non, List.set_cons_succ, List.set_cons_zero, eA, eB, sub_int, abs_ap, gt_int]
  refine brk_if (fun h => ?_) (fun h => ?_)
  · simp -implicitDefEqProofs -dsimp only [ws_seq, ws_ite, wp_ite, brk_t, brk_f, opt_some, ap_sIf, ap_sSet, ap_sRet, ap_sRetN, ap_sExpr, ap_sNil, ap_sBk, ap_sCt, ws_asg, ws_par, ws_par3, ws_toS, ws_nx, ws_rt, ws_bk, ws_ct, wp_tru, wp_notM, wp_andM, wp_orM, wp_chain, ap_mBin, ap_mUn, ap_mOn, ap_mCons, ap_mNil, ap_mKw, ap_mMeth, ap_mSl, ap_oNone, ap_oSome, ap_tAnd, ap_tOr, ap_tNot, ap_mIf, ap_mYes, wp_bind, ap_mVar, ap_mC, wp_ok, wp_optR, slot_0, slot_s, tru_bl, tru_int, tru_lst, tru_tup, tru_non, asBl_bl, asInt_int, asTwo_ap, asThree_ap, if_true, if_false, Bool.false_eq_true, Bool.not_true, Bool.not_false, fin_bl, fin_int, fin_str, fin_non, List.set_cons_succ, List.set_cons_zero]
    have h := of_decide_eq_true h
    have hn : ¬ fw a b ≤ 2 := by
      split at h <;> omega
    unfold farD
    rw [if_neg hn]
    exact ⟨rfl, trivial⟩
  · simp -implicitDefEqProofs -dsimp only [ws_seq, ws_ite, wp_ite, brk_t, brk_f, opt_some, ap_sIf, ap_sSet, ap_sRet, ap_sRetN, ap_sExpr, ap_sNil, ap_sBk, ap_sCt, ws_asg, ws_par, ws_par3, ws_toS, ws_nx, ws_rt, ws_bk, ws_ct, wp_tru, wp_notM, wp_andM, wp_orM, wp_chain, ap_mBin, ap_mUn, ap_mOn, ap_mCons, ap_mNil, ap_mKw, ap_mMeth, ap_mSl, ap_oNone, ap_oSome, ap_tAnd, ap_tOr, ap_tNot, ap_mIf, ap_mYes, wp_bind, ap_mVar, ap_mC, wp_ok, wp_optR, slot_0, slot_s, tru_bl, tru_int, tru_lst, tru_tup, tru_non, asBl_bl, asInt_int, asTwo_ap, asThree_ap, if_true, if_false, Bool.false_eq_true, Bool.not_true, Bool.not_false, fin_bl, fin_int, fin_str, fin_non, List.set_cons_succ, List.set_cons_zero, fewest_ap ha hb, le_int]
    unfold farD
    by_cases hn : fw a b ≤ 2
    · rw [if_pos hn, decide_eq_true (by omega)]
      simp -implicitDefEqProofs -dsimp only [ws_seq, ws_ite, wp_ite, brk_t, brk_f, opt_some, ap_sIf, ap_sSet, ap_sRet, ap_sRetN, ap_sExpr, ap_sNil, ap_sBk, ap_sCt, ws_asg, ws_par, ws_par3, ws_toS, ws_nx, ws_rt, ws_bk, ws_ct, wp_tru, wp_notM, wp_andM, wp_orM, wp_chain, ap_mBin, ap_mUn, ap_mOn, ap_mCons, ap_mNil, ap_mKw, ap_mMeth, ap_mSl, ap_oNone, ap_oSome, ap_tAnd, ap_tOr, ap_tNot, ap_mIf, ap_mYes, wp_bind, ap_mVar, ap_mC, wp_ok, wp_optR, slot_0, slot_s, tru_bl, tru_int, tru_lst, tru_tup, tru_non, asBl_bl, asInt_int, asTwo_ap, asThree_ap, if_true, if_false, Bool.false_eq_true, Bool.not_true, Bool.not_false, fin_bl, fin_int, fin_str, fin_non, List.set_cons_succ, List.set_cons_zero]
      all_goals (first | trivial | exact ⟨rfl, rfl⟩ | exact ⟨rfl, trivial⟩ | exact ⟨trivial, trivial⟩)
    · rw [if_neg hn, decide_eq_false (by omega)]
      simp -implicitDefEqProofs -dsimp only [ws_seq, ws_ite, wp_ite, brk_t, brk_f, opt_some, ap_sIf, ap_sSet, ap_sRet, ap_sRetN, ap_sExpr, ap_sNil, ap_sBk, ap_sCt, ws_asg, ws_par, ws_par3, ws_toS, ws_nx, ws_rt, ws_bk, ws_ct, wp_tru, wp_notM, wp_andM, wp_orM, wp_chain, ap_mBin, ap_mUn, ap_mOn, ap_mCons, ap_mNil, ap_mKw, ap_mMeth, ap_mSl, ap_oNone, ap_oSome, ap_tAnd, ap_tOr, ap_tNot, ap_mIf, ap_mYes, wp_bind, ap_mVar, ap_mC, wp_ok, wp_optR, slot_0, slot_s, tru_bl, tru_int, tru_lst, tru_tup, tru_non, asBl_bl, asInt_int, asTwo_ap, asThree_ap, if_true, if_false, Bool.false_eq_true, Bool.not_true, Bool.not_false, fin_bl, fin_int, fin_str, fin_non, List.set_cons_succ, List.set_cons_zero]
      all_goals (first | trivial | exact ⟨rfl, rfl⟩ | exact ⟨rfl, trivial⟩ | exact ⟨trivial, trivial⟩)
theorem farD_blw {a b : List Nat} {n : Nat} : (farD a b).blw n = true := by
  unfold farD
  split <;> rfl
theorem far_ap {a b : List Nat} {st : Sto} (ha : Wd a) (hb : Wd b) : f_far [sD a, sD b] st = .ok (farD a b) st := by
  refine res_eq ?_
  unfold f_far
  rw [wp_call]
  show ws (m_far [some (sD a), some (sD b)] st) _
  unfold m_far
  simp -implicitDefEqProofs -dsimp only [ws_seq, ws_ite, wp_ite, brk_t, brk_f, opt_some, ap_sIf, ap_sSet, ap_sRet, ap_sRetN, ap_sExpr, ap_sNil, ap_sBk, ap_sCt, ws_asg, ws_par, ws_par3, ws_toS, ws_nx, ws_rt, ws_bk, ws_ct, wp_tru, wp_notM, wp_andM, wp_orM, wp_chain, ap_mBin, ap_mUn, ap_mOn, ap_mCons, ap_mNil, ap_mKw, ap_mMeth, ap_mSl, ap_oNone, ap_oSome, ap_tAnd, ap_tOr, ap_tNot, ap_mIf, ap_mYes, wp_bind, ap_mVar, ap_mC, wp_ok, wp_optR, slot_0, slot_s, tru_bl, tru_int, tru_lst, tru_tup, tru_non, asBl_bl, asInt_int, asTwo_ap, asThree_ap, if_true, if_false, Bool.false_eq_true, Bool.not_true, Bool.not_false, fin_bl, fin_int, fin_str, fin_non, List.set_cons_succ, List.set_cons_zero, need_both_w ha hb, steps_to_ap ha hb]
  rw [wp_fin0 farD_blw]
  exact ⟨rfl, rfl⟩
/-! the law's own -/
theorem fw0 {a b : List Nat} : fw a b = 0 ↔ a = b := (mn_says (fw_mn a b)).1
theorem fw1 {a b : List Nat} : fw a b = 1 ↔ a ≠ b ∧ Step a b := by
  obtain ⟨h0, h1, _⟩ := mn_says (fw_mn a b)
  constructor
  · intro h
    have hne : a ≠ b := fun z => by have := h0.mpr z; omega
    rcases h1.mp (by omega) with z | z
    · exact absurd z hne
    · exact ⟨hne, z⟩
  · rintro ⟨h, s⟩
    have := h1.mpr (.inr s)
    have : fw a b ≠ 0 := fun z => h (h0.mp z)
    omega
theorem fw2 {a b : List Nat} (ha : Wd a) (hb : Wd b) (h0 : a ≠ b) (h1 : ¬ Step a b) : fw a b = 2 ↔ ∃ w, Sw a w ∧ Sw b w := by
  obtain ⟨k0, k1, k2, k3⟩ := mn_says (fw_mn a b)
  constructor
  · intro h
    obtain ⟨w, s1, s2, hl, hc⟩ := k3 h
    have wa : w ≠ a := fun z => h1 (z ▸ s2)
    have wb : w ≠ b := fun z => h1 (z ▸ s1)
    have hw : Wd w := by
      refine ⟨?_, ?_, fun c hcw => ?_⟩
      · cases w with
        | cons c w => simp
        | nil =>
          exfalso
          have l1 := s1.len
          have l2 := s2.len
          have := ha.one
          have := hb.one
          match a, b, l1, l2, h1 with
          | [x], [y], _, _, h1 => exact h1 (.sub [] [] x y)
          | [], _, _, _, _ => have := ha.one; simp at this
          | _, [], _, _, _ => have := hb.one; simp at this
          | _ :: _ :: _, _, l1, _, _ => simp at l1
          | _, _ :: _ :: _, _, l2, _ => simp at l2
      · have := ha.most
        have := hb.most
        omega
      · rcases hc c hcw with h | h
        · exact ha.sm c h
        · exact hb.sm c h
    exact ⟨w, ⟨s1, wa, hw⟩, ⟨s2.symm, wb, hw⟩⟩
  · rintro ⟨w, s1, s2⟩
    have := k2.mpr (.inr (.inr ⟨w, s1.1, s2.1.symm⟩))
    have : fw a b ≠ 0 := fun z => h0 (k0.mp z)
    have : fw a b ≠ 1 := fun z => h1 (fw1.mp z).2
    omega
theorem locV_at {i : Nat} {ρ : Ro} {d : D} {st : Sto} (h : ρ[i]? = some (some d)) : locV i ρ st = some d := by
  unfold locV
  rw [h]
theorem ne_nil {l : List D} {st : Sto} (hl : smL l = true) (hd : dpL l ≤ 60) : fNe (.lst l) (.lst []) st = .ok (.bl (!l.isEmpty)) st := by
  rw [ne_sm (x := .lst l) (y := .lst []) (by simpa [sm] using hl) rfl (by unfold dp; omega) (by decide)]
  congr 2
  cases l with
  | nil => rfl
  | cons d l =>
    have h : sm (.lst (d :: l)) = true := by simpa [sm] using hl
    obtain ⟨p, e1, _⟩ := sm_py _ h
    unfold eqD
    rw [e1]
    show (!(PyData.eqv p (.list []))) = true
    have : ∃ x xs, p = .list (x :: xs) := by
      unfold pyD at e1
      cases q : pyL (d :: l) with
      | none => rw [q] at e1; cases e1
      | some xs =>
        rw [q] at e1
        cases e1
        unfold pyL at q
        split at q
        · cases q; exact ⟨_, _, rfl⟩
        · cases q
    obtain ⟨x, xs, rfl⟩ := this
    simp [PyData.eqv, PyData.eqvAll]
theorem far_law {a b : List Nat} {st : Sto} (ha : Wd a) (hb : Wd b) : f__law_far [sD a, sD b] st = .ok (farD a b) st := by
  refine res_eq ?_
  unfold f__law_far
  rw [wp_call]
  show ws (m__law_far [some (sD a), some (sD b), none, none, none] st) _
  unfold m__law_far
  simp -implicitDefEqProofs -dsimp only [ws_seq, ws_ite, wp_ite, brk_t, brk_f, opt_some, ap_sIf, ap_sSet, ap_sRet, ap_sRetN, ap_sExpr, ap_sNil, ap_sBk, ap_sCt, ws_asg, ws_par, ws_par3, ws_toS, ws_nx, ws_rt, ws_bk, ws_ct, wp_tru, wp_notM, wp_andM, wp_orM, wp_chain, ap_mBin, ap_mUn, ap_mOn, ap_mCons, ap_mNil, ap_mKw, ap_mMeth, ap_mSl, ap_oNone, ap_oSome, ap_tAnd, ap_tOr, ap_tNot, ap_mIf, ap_mYes, wp_bind, ap_mVar, ap_mC, wp_ok, wp_optR, slot_0, slot_s, tru_bl, tru_int, tru_lst, tru_tup, tru_non, asBl_bl, asInt_int, asTwo_ap, asThree_ap, if_true, if_false, Bool.false_eq_true, Bool.not_true, Bool.not_false, fin_bl, fin_int, fin_str, fin_non, List.set_cons_succ, List.set_cons_zero, eq_sD ha.asL hb.asL]
  refine brk_if (fun h => ?_) (fun h => ?_)
  · simp -implicitDefEqProofs -dsimp only [ws_seq, ws_ite, wp_ite, brk_t, brk_f, opt_some, ap_sIf, ap_sSet, ap_sRet, ap_sRetN, ap_sExpr, ap_sNil, ap_sBk, ap_sCt, ws_asg, ws_par, ws_par3, ws_toS, ws_nx, ws_rt, ws_bk, ws_ct, wp_tru, wp_notM, wp_andM, wp_orM, wp_chain, ap_mBin, ap_mUn, ap_mOn, ap_mCons, ap_mNil, ap_mKw, ap_mMeth, ap_mSl, ap_oNone, ap_oSome, ap_tAnd, ap_tOr, ap_tNot, ap_mIf, ap_mYes, wp_bind, ap_mVar, ap_mC, wp_ok, wp_optR, slot_0, slot_s, tru_bl, tru_int, tru_lst, tru_tup, tru_non, asBl_bl, asInt_int, asTwo_ap, asThree_ap, if_true, if_false, Bool.false_eq_true, Bool.not_true, Bool.not_false, fin_bl, fin_int, fin_str, fin_non, List.set_cons_succ, List.set_cons_zero]
    have h := of_decide_eq_true h
    have : fw a b = 0 := fw0.mpr h
    unfold farD
    rw [this]
    exact ⟨rfl, trivial⟩
  · have hne : a ≠ b := of_decide_eq_false h
    obtain ⟨k1, e1, F1⟩ := steps_ap (st := st) ha
    obtain ⟨k2, e2, F2⟩ := steps_ap (st := st) hb
    have hin1 : (valD k1 (kS b)).isSome = true ↔ Step a b := by
      rw [valD_isSome, F1.mem]
      exact ⟨fun h => h.1, fun h => ⟨h, Ne.symm hne, hb⟩⟩
    simp -implicitDefEqProofs -dsimp only [ws_seq, ws_ite, wp_ite, brk_t, brk_f, opt_some, ap_sIf, ap_sSet, ap_sRet, ap_sRetN, ap_sExpr, ap_sNil, ap_sBk, ap_sCt, ws_asg, ws_par, ws_par3, ws_toS, ws_nx, ws_rt, ws_bk, ws_ct, wp_tru, wp_notM, wp_andM, wp_orM, wp_chain, ap_mBin, ap_mUn, ap_mOn, ap_mCons, ap_mNil, ap_mKw, ap_mMeth, ap_mSl, ap_oNone, ap_oSome, ap_tAnd, ap_tOr, ap_tNot, ap_mIf, ap_mYes, wp_bind, ap_mVar, ap_mC, wp_ok, wp_optR, slot_0, slot_s, tru_bl, tru_int, tru_lst, tru_tup, tru_non, asBl_bl, asInt_int, asTwo_ap, asThree_ap, if_true, if_false, Bool.false_eq_true, Bool.not_true, Bool.not_false, fin_bl, fin_int, fin_str, fin_non, List.set_cons_succ, List.set_cons_zero, e1, in_dic (keyD_sD (l := b))]
    refine brk_if (fun h => ?_) (fun h => ?_)
    · simp -implicitDefEqProofs -dsimp only [ws_seq, ws_ite, wp_ite, brk_t, brk_f, opt_some, ap_sIf, ap_sSet, ap_sRet, ap_sRetN, ap_sExpr, ap_sNil, ap_sBk, ap_sCt, ws_asg, ws_par, ws_par3, ws_toS, ws_nx, ws_rt, ws_bk, ws_ct, wp_tru, wp_notM, wp_andM, wp_orM, wp_chain, ap_mBin, ap_mUn, ap_mOn, ap_mCons, ap_mNil, ap_mKw, ap_mMeth, ap_mSl, ap_oNone, ap_oSome, ap_tAnd, ap_tOr, ap_tNot, ap_mIf, ap_mYes, wp_bind, ap_mVar, ap_mC, wp_ok, wp_optR, slot_0, slot_s, tru_bl, tru_int, tru_lst, tru_tup, tru_non, asBl_bl, asInt_int, asTwo_ap, asThree_ap, if_true, if_false, Bool.false_eq_true, Bool.not_true, Bool.not_false, fin_bl, fin_int, fin_str, fin_non, List.set_cons_succ, List.set_cons_zero]
      have : fw a b = 1 := fw1.mpr ⟨hne, hin1.mp h⟩
      unfold farD
      rw [this]
      exact ⟨rfl, trivial⟩
    · have hns : ¬ Step a b := fun z => by rw [hin1.mpr z] at h; cases h
      simp -implicitDefEqProofs -dsimp only [ws_seq, ws_ite, wp_ite, brk_t, brk_f, opt_some, ap_sIf, ap_sSet, ap_sRet, ap_sRetN, ap_sExpr, ap_sNil, ap_sBk, ap_sCt, ws_asg, ws_par, ws_par3, ws_toS, ws_nx, ws_rt, ws_bk, ws_ct, wp_tru, wp_notM, wp_andM, wp_orM, wp_chain, ap_mBin, ap_mUn, ap_mOn, ap_mCons, ap_mNil, ap_mKw, ap_mMeth, ap_mSl, ap_oNone, ap_oSome, ap_tAnd, ap_tOr, ap_tNot, ap_mIf, ap_mYes, wp_bind, ap_mVar, ap_mC, wp_ok, wp_optR, slot_0, slot_s, tru_bl, tru_int, tru_lst, tru_tup, tru_non, asBl_bl, asInt_int, asTwo_ap, asThree_ap, if_true, if_false, Bool.false_eq_true, Bool.not_true, Bool.not_false, fin_bl, fin_int, fin_str, fin_non, List.set_cons_succ, List.set_cons_zero, e2]
      have eC := compI_pure (kind := 0) (loc := locV 2) (t := .name 4) (tt := mTru (mBin fIn (mVar 4) (mVar 3))) (me := mVar 4) (vs := [4]) (ρ := [some (sD a), some (sD b), some (.dic k1), some (.dic k2), none]) (st := st) (kvs := k1) rfl (fun x => match keyD x with | some k => (valD k2 k).isSome | none => false) id (by have := F1.len; omega) (fun x hx => by
        obtain ⟨kv, h1, rfl⟩ := List.mem_map.mp hx
        obtain ⟨l, hl⟩ := F1.keys kv.1 (List.mem_map.mpr ⟨kv, h1, rfl⟩)
        have hx : turnD 0 kv = sD l := by show kD kv.1 = _; rw [hl]; rfl
        rw [hx]
        refine ⟨[some (sD a), some (sD b), some (.dic k1), some (.dic k2), some (sD l)], rfl, fun st => ⟨?_, fun _ => ⟨rfl, fun n => rfl⟩⟩⟩
        refine res_eq ?_
        simp -implicitDefEqProofs -dsimp only [ws_seq, ws_ite, wp_ite, brk_t, brk_f, opt_some, ap_sIf, ap_sSet, ap_sRet, ap_sRetN, ap_sExpr, ap_sNil, ap_sBk, ap_sCt, ws_asg, ws_par, ws_par3, ws_toS, ws_nx, ws_rt, ws_bk, ws_ct, wp_tru, wp_notM, wp_andM, wp_orM, wp_chain, ap_mBin, ap_mUn, ap_mOn, ap_mCons, ap_mNil, ap_mKw, ap_mMeth, ap_mSl, ap_oNone, ap_oSome, ap_tAnd, ap_tOr, ap_tNot, ap_mIf, ap_mYes, wp_bind, ap_mVar, ap_mC, wp_ok, wp_optR, slot_0, slot_s, tru_bl, tru_int, tru_lst, tru_tup, tru_non, asBl_bl, asInt_int, asTwo_ap, asThree_ap, if_true, if_false, Bool.false_eq_true, Bool.not_true, Bool.not_false, fin_bl, fin_int, fin_str, fin_non, List.set_cons_succ, List.set_cons_zero, in_dic (keyD_sD (l := l))]
        exact ⟨rfl, trivial⟩)
      obtain ⟨L, hL⟩ : ∃ L, L = ((k1.map (turnD 0)).filter (fun x => match keyD x with | some k => (valD k2 k).isSome | none => false)).map id := ⟨_, rfl⟩
      rw [← hL] at eC
      have hmem : ∀ d ∈ L, ∃ l, d = sD l ∧ Sw a l ∧ Sw b l := fun d hd => by
        rw [hL, List.map_id, List.mem_filter] at hd
        obtain ⟨hx, hk⟩ := hd
        obtain ⟨kv, h1, rfl⟩ := List.mem_map.mp hx
        have hkm : kv.1 ∈ k1.map (·.1) := List.mem_map.mpr ⟨kv, h1, rfl⟩
        obtain ⟨l, hl⟩ := F1.keys kv.1 hkm
        have hx : turnD 0 kv = sD l := by show kD kv.1 = _; rw [hl]; rfl
        rw [hx] at hk
        have hk : (valD k2 (kS l)).isSome = true := hk
        rw [valD_isSome, F2.mem] at hk
        rw [hl, F1.mem] at hkm
        exact ⟨l, hx, hkm, hk⟩
      have hne2 : L.isEmpty = false ↔ ∃ w, Sw a w ∧ Sw b w := by
        constructor
        · intro h
          cases L with
          | nil => cases h
          | cons d L =>
            obtain ⟨l, _, h1, h2⟩ := hmem d List.mem_cons_self
            exact ⟨l, h1, h2⟩
        · rintro ⟨w, h1, h2⟩
          have hw1 : kS w ∈ k1.map (·.1) := (F1.mem w).mpr h1
          obtain ⟨kv, q1, q2⟩ := List.mem_map.mp hw1
          have : sD w ∈ L := by
            rw [hL, List.map_id, List.mem_filter]
            refine ⟨List.mem_map.mpr ⟨kv, q1, by show kD kv.1 = _; rw [q2]; rfl⟩, ?_⟩
            show (valD k2 (kS w)).isSome = true
            rw [valD_isSome, F2.mem]
            exact h2
          cases L with
          | nil => cases this
          | cons d L => rfl
      have hsm : smL L = true := by
        have : ∀ (M : List D), (∀ d ∈ M, ∃ l, d = sD l ∧ Sw a l ∧ Sw b l) → smL M = true ∧ dpL M ≤ 0 := by
          intro M
          induction M with
          | nil => exact fun _ => ⟨rfl, Nat.le_refl _⟩
          | cons d M ih =>
            intro h
            obtain ⟨l, rfl, h1, _⟩ := h d List.mem_cons_self
            obtain ⟨i1, i2⟩ := ih fun d hd => h d (List.mem_cons_of_mem _ hd)
            refine ⟨?_, ?_⟩
            · show (sm (sD l) && smL M) = true
              rw [sm_sD h1.2.2.asL, i1]; rfl
            · show max (dp (sD l)) (dpL M) ≤ 0
              have : dp (sD l) = 0 := rfl
              omega
        exact (this L hmem).1
      have hdp : dpL L ≤ 60 := by
        have : ∀ (M : List D), (∀ d ∈ M, ∃ l, d = sD l ∧ Sw a l ∧ Sw b l) → dpL M ≤ 0 := by
          intro M
          induction M with
          | nil => exact fun _ => Nat.le_refl _
          | cons d M ih =>
            intro h
            obtain ⟨l, rfl, h1, _⟩ := h d List.mem_cons_self
            have i2 := ih fun d hd => h d (List.mem_cons_of_mem _ hd)
            show max (dp (sD l)) (dpL M) ≤ 0
            have : dp (sD l) = 0 := rfl
            omega
        have := this L hmem
        omega
      simp -implicitDefEqProofs -dsimp only [ws_seq, ws_ite, wp_ite, brk_t, brk_f, opt_some, ap_sIf, ap_sSet, ap_sRet, ap_sRetN, ap_sExpr, ap_sNil, ap_sBk, ap_sCt, ws_asg, ws_par, ws_par3, ws_toS, ws_nx, ws_rt, ws_bk, ws_ct, wp_tru, wp_notM, wp_andM, wp_orM, wp_chain, ap_mBin, ap_mUn, ap_mOn, ap_mCons, ap_mNil, ap_mKw, ap_mMeth, ap_mSl, ap_oNone, ap_oSome, ap_tAnd, ap_tOr, ap_tNot, ap_mIf, ap_mYes, wp_bind, ap_mVar, ap_mC, wp_ok, wp_optR, slot_0, slot_s, tru_bl, tru_int, tru_lst, tru_tup, tru_non, asBl_bl, asInt_int, asTwo_ap, asThree_ap, if_true, if_false, Bool.false_eq_true, Bool.not_true, Bool.not_false, fin_bl, fin_int, fin_str, fin_non, List.set_cons_succ, List.set_cons_zero, eC, mk_f0, ne_nil hsm hdp]
      refine brk_if (fun h => ?_) (fun h => ?_)
      · simp -implicitDefEqProofs -dsimp only [ws_seq, ws_ite, wp_ite, brk_t, brk_f, opt_some, ap_sIf, ap_sSet, ap_sRet, ap_sRetN, ap_sExpr, ap_sNil, ap_sBk, ap_sCt, ws_asg, ws_par, ws_par3, ws_toS, ws_nx, ws_rt, ws_bk, ws_ct, wp_tru, wp_notM, wp_andM, wp_orM, wp_chain, ap_mBin, ap_mUn, ap_mOn, ap_mCons, ap_mNil, ap_mKw, ap_mMeth, ap_mSl, ap_oNone, ap_oSome, ap_tAnd, ap_tOr, ap_tNot, ap_mIf, ap_mYes, wp_bind, ap_mVar, ap_mC, wp_ok, wp_optR, slot_0, slot_s, tru_bl, tru_int, tru_lst, tru_tup, tru_non, asBl_bl, asInt_int, asTwo_ap, asThree_ap, if_true, if_false, Bool.false_eq_true, Bool.not_true, Bool.not_false, fin_bl, fin_int, fin_str, fin_non, List.set_cons_succ, List.set_cons_zero]
        have hf : fw a b = 2 := (fw2 ha hb hne hns).mpr (hne2.mp (by simpa using h))
        unfold farD
        rw [hf]
        exact ⟨rfl, trivial⟩
      · simp -implicitDefEqProofs -dsimp only [ws_seq, ws_ite, wp_ite, brk_t, brk_f, opt_some, ap_sIf, ap_sSet, ap_sRet, ap_sRetN, ap_sExpr, ap_sNil, ap_sBk, ap_sCt, ws_asg, ws_par, ws_par3, ws_toS, ws_nx, ws_rt, ws_bk, ws_ct, wp_tru, wp_notM, wp_andM, wp_orM, wp_chain, ap_mBin, ap_mUn, ap_mOn, ap_mCons, ap_mNil, ap_mKw, ap_mMeth, ap_mSl, ap_oNone, ap_oSome, ap_tAnd, ap_tOr, ap_tNot, ap_mIf, ap_mYes, wp_bind, ap_mVar, ap_mC, wp_ok, wp_optR, slot_0, slot_s, tru_bl, tru_int, tru_lst, tru_tup, tru_non, asBl_bl, asInt_int, asTwo_ap, asThree_ap, if_true, if_false, Bool.false_eq_true, Bool.not_true, Bool.not_false, fin_bl, fin_int, fin_str, fin_non, List.set_cons_succ, List.set_cons_zero]
        have n0 : fw a b ≠ 0 := fun z => hne (fw0.mp z)
        have n1 : fw a b ≠ 1 := fun z => hns (fw1.mp z).2
        have n2 : fw a b ≠ 2 := fun z => by
          have := hne2.mpr ((fw2 ha hb hne hns).mp z)
          rw [this] at h
          cases h
        unfold farD
        rw [if_neg (by omega)]
        exact ⟨rfl, trivial⟩
end P3.Law

/-! Y10: what the law draws. -/
namespace P3.Law
open PySem PySem.Spec PyProof.Rows L2 P3 P3.Near
theorem tk {st : Sto} {i b : Nat} {n : Int} {Q : D → Sto → Prop} (hn : 0 < n ∧ n < 1073741824) (B : Bx st i (b + 1)) (k : ∀ (r : Int) (st' : Sto), 0 ≤ r → r < n → Bx st' i b → Sm i st st' → Q (.int r) st') : wp (f__law_take [.cell i, .int n] st) Q := by
  rw [show f__law_take = callF true 5 (takeM 7919 33 13) from rfl]
  exact take_run (by decide) (by decide) (by decide) hn B k
theorem cell_ap {ns : List Int} {k : Nat} {st : Sto} : ∃ v, f__law_cell [.scr ns, .int k] st = .ok (.int v) st := by
  rw [show f__law_cell = callF true 2 (cellM 7919 71) from rfl]
  exact cell_run (by decide)
theorem box_ap {v : Int} {st : Sto} {Q : D → Sto → Prop} (k : ∀ st', Bx st' st.length 999999999 → st'.length = st.length + 1 → (∀ j, j < st.length → st'[j]? = st[j]?) → Q (.cell st.length) st') : wp (f__law_box [.int v] st) Q := by
  rw [show f__law_box = callF false 1 boxM from rfl]
  exact box_run k
/-- texts of small letters -/
def SmL (l : List Nat) : Prop := ∀ c ∈ l, isSm c = true
theorem SmL.app {l m : List Nat} (h : SmL l) (k : SmL m) : SmL (l ++ m) := fun c hc => (List.mem_append.mp hc).elim (h c) (k c)
theorem letters_ok {r : Int} (h0 : 0 ≤ r) (h1 : r < 3) : ∃ z : List Nat, L2.atI [D.str "abcdefghijklmnopqrstuvwxyz", .str "ab", .str "za"] r = some (sD z) ∧ SmL z ∧ 2 ≤ z.length ∧ z.length ≤ 26 := by
  have : r = 0 ∨ r = 1 ∨ r = 2 := by omega
  rcases this with rfl | rfl | rfl
  · refine ⟨(List.range 26).map (· + 97), ?_, fun c hc => ?_, by simp, by simp⟩
    · have : (D.str "abcdefghijklmnopqrstuvwxyz") = sD ((List.range 26).map (· + 97)) := by
        congr 1
      rw [← this]; rfl
    · obtain ⟨q, hq, rfl⟩ := List.mem_map.mp hc
      exact sm_ix.mpr ⟨q, List.mem_range.mp hq, rfl⟩
  · refine ⟨[97, 98], rfl, fun c hc => ?_, by simp, by simp⟩
    simp at hc
    rcases hc with rfl | rfl <;> exact isSm_iff.mpr (by omega)
  · refine ⟨[122, 97], rfl, fun c hc => ?_, by simp, by simp⟩
    simp at hc
    rcases hc with rfl | rfl <;> exact isSm_iff.mpr (by omega)
theorem ones_of : ∀ l : List D, (∀ d ∈ l, ∃ c, isSm c = true ∧ d = sD [c]) → ∃ cs : List Nat, SmL cs ∧ l = cs.map fun c => .str ⟨#[c]⟩
  | [], _ => ⟨[], fun c h => absurd h List.not_mem_nil, rfl⟩
  | d :: l, h => by
    obtain ⟨c, h1, rfl⟩ := h d List.mem_cons_self
    obtain ⟨cs, h2, rfl⟩ := ones_of l fun e he => h e (List.mem_cons_of_mem _ he)
    refine ⟨c :: cs, fun x hx => ?_, rfl⟩
    rcases List.mem_cons.mp hx with rfl | hx
    · exact h1
    · exact h2 x hx
theorem drawn_run {st : Sto} {i b : Nat} {Q : D → Sto → Prop} (B : Bx st i (b + 14)) (k : ∀ l st', Wd l → Bx st' i b → Sm i st st' → Q (sD l) st') : wp (f__law_drawn [.cell i] st) Q := by
  unfold f__law_drawn
  rw [wp_call]
  show ws (m__law_drawn [some (.cell i), none, none] st) _
  unfold m__law_drawn
  simp -implicitDefEqProofs -dsimp only [ws_seq, ws_ite, wp_ite, brk_t, brk_f, opt_some, ap_sIf, ap_sSet, ap_sRet, ap_sRetN, ap_sExpr, ap_sNil, ap_sBk, ap_sCt, ws_asg, ws_par, ws_par3, ws_toS, ws_nx, ws_rt, ws_bk, ws_ct, wp_tru, wp_notM, wp_andM, wp_orM, wp_chain, ap_mBin, ap_mUn, ap_mOn, ap_mCons, ap_mNil, ap_mKw, ap_mMeth, ap_mSl, ap_oNone, ap_oSome, ap_tAnd, ap_tOr, ap_tNot, ap_mIf, ap_mYes, wp_bind, ap_mVar, ap_mC, wp_ok, wp_optR, slot_0, slot_s, tru_bl, tru_int, tru_lst, tru_tup, tru_non, asBl_bl, asInt_int, asTwo_ap, asThree_ap, if_true, if_false, Bool.false_eq_true, Bool.not_true, Bool.not_false, fin_bl, fin_int, fin_str, fin_non, List.set_cons_succ, List.set_cons_zero, mk_f, List.length_cons, List.length_nil, Nat.reduceAdd, Nat.reduceLeDiff]
  refine tk (b := b + 13) ⟨by decide, by decide⟩ B fun r st1 h1 h2 B1 S1 => ?_
  obtain ⟨z, ez, hz, z1, z2⟩ := letters_ok h1 h2
  simp -implicitDefEqProofs -dsimp only [ws_seq, ws_ite, wp_ite, brk_t, brk_f, opt_some, ap_sIf, ap_sSet, ap_sRet, ap_sRetN, ap_sExpr, ap_sNil, ap_sBk, ap_sCt, ws_asg, ws_par, ws_par3, ws_toS, ws_nx, ws_rt, ws_bk, ws_ct, wp_tru, wp_notM, wp_andM, wp_orM, wp_chain, ap_mBin, ap_mUn, ap_mOn, ap_mCons, ap_mNil, ap_mKw, ap_mMeth, ap_mSl, ap_oNone, ap_oSome, ap_tAnd, ap_tOr, ap_tNot, ap_mIf, ap_mYes, wp_bind, ap_mVar, ap_mC, wp_ok, wp_optR, slot_0, slot_s, tru_bl, tru_int, tru_lst, tru_tup, tru_non, asBl_bl, asInt_int, asTwo_ap, asThree_ap, if_true, if_false, Bool.false_eq_true, Bool.not_true, Bool.not_false, fin_bl, fin_int, fin_str, fin_non, List.set_cons_succ, List.set_cons_zero, ix_lst]
  refine opt_of ez ?_
  have eL := fun st => len_sD (st := st) (l := z) (by omega)
  simp -implicitDefEqProofs -dsimp only [ws_seq, ws_ite, wp_ite, brk_t, brk_f, opt_some, ap_sIf, ap_sSet, ap_sRet, ap_sRetN, ap_sExpr, ap_sNil, ap_sBk, ap_sCt, ws_asg, ws_par, ws_par3, ws_toS, ws_nx, ws_rt, ws_bk, ws_ct, wp_tru, wp_notM, wp_andM, wp_orM, wp_chain, ap_mBin, ap_mUn, ap_mOn, ap_mCons, ap_mNil, ap_mKw, ap_mMeth, ap_mSl, ap_oNone, ap_oSome, ap_tAnd, ap_tOr, ap_tNot, ap_mIf, ap_mYes, wp_bind, ap_mVar, ap_mC, wp_ok, wp_optR, slot_0, slot_s, tru_bl, tru_int, tru_lst, tru_tup, tru_non, asBl_bl, asInt_int, asTwo_ap, asThree_ap, if_true, if_false, Bool.false_eq_true, Bool.not_true, Bool.not_false, fin_bl, fin_int, fin_str, fin_non, List.set_cons_succ, List.set_cons_zero, tc_str]
  refine draw_comp (R := fun n => 1 ≤ n) (P := fun d => ∃ c, isSm c = true ∧ d = sD [c]) b 1 12 (by decide) B1.lt (fun d n h => by obtain ⟨c, _, rfl⟩ := h; rfl) ?_ ?_ ?_
  · simp -implicitDefEqProofs -dsimp only [ws_seq, ws_ite, wp_ite, brk_t, brk_f, opt_some, ap_sIf, ap_sSet, ap_sRet, ap_sRetN, ap_sExpr, ap_sNil, ap_sBk, ap_sCt, ws_asg, ws_par, ws_par3, ws_toS, ws_nx, ws_rt, ws_bk, ws_ct, wp_tru, wp_notM, wp_andM, wp_orM, wp_chain, ap_mBin, ap_mUn, ap_mOn, ap_mCons, ap_mNil, ap_mKw, ap_mMeth, ap_mSl, ap_oNone, ap_oSome, ap_tAnd, ap_tOr, ap_tNot, ap_mIf, ap_mYes, wp_bind, ap_mVar, ap_mC, wp_ok, wp_optR, slot_0, slot_s, tru_bl, tru_int, tru_lst, tru_tup, tru_non, asBl_bl, asInt_int, asTwo_ap, asThree_ap, if_true, if_false, Bool.false_eq_true, Bool.not_true, Bool.not_false, fin_bl, fin_int, fin_str, fin_non, List.set_cons_succ, List.set_cons_zero, ap_iOn]
    refine tk (b := b + 12) ⟨by decide, by decide⟩ B1 fun r st1 h1 h2 B1 S1 => ?_
    simp -implicitDefEqProofs -dsimp only [ws_seq, ws_ite, wp_ite, brk_t, brk_f, opt_some, ap_sIf, ap_sSet, ap_sRet, ap_sRetN, ap_sExpr, ap_sNil, ap_sBk, ap_sCt, ws_asg, ws_par, ws_par3, ws_toS, ws_nx, ws_rt, ws_bk, ws_ct, wp_tru, wp_notM, wp_andM, wp_orM, wp_chain, ap_mBin, ap_mUn, ap_mOn, ap_mCons, ap_mNil, ap_mKw, ap_mMeth, ap_mSl, ap_oNone, ap_oSome, ap_tAnd, ap_tOr, ap_tNot, ap_mIf, ap_mYes, wp_bind, ap_mVar, ap_mC, wp_ok, wp_optR, slot_0, slot_s, tru_bl, tru_int, tru_lst, tru_tup, tru_non, asBl_bl, asInt_int, asTwo_ap, asThree_ap, if_true, if_false, Bool.false_eq_true, Bool.not_true, Bool.not_false, fin_bl, fin_int, fin_str, fin_non, List.set_cons_succ, List.set_cons_zero, add_int]
    rw [range_ap ⟨by omega, by omega⟩]
    exact ⟨0, (1 + r).toNat, static_R, by omega, by omega, B1, S1⟩
  · intro x b' st' B'
    refine ⟨[some (.cell i), some (sD z), some x], rfl, ?_⟩
    simp -implicitDefEqProofs -dsimp only [ws_seq, ws_ite, wp_ite, brk_t, brk_f, opt_some, ap_sIf, ap_sSet, ap_sRet, ap_sRetN, ap_sExpr, ap_sNil, ap_sBk, ap_sCt, ws_asg, ws_par, ws_par3, ws_toS, ws_nx, ws_rt, ws_bk, ws_ct, wp_tru, wp_notM, wp_andM, wp_orM, wp_chain, ap_mBin, ap_mUn, ap_mOn, ap_mCons, ap_mNil, ap_mKw, ap_mMeth, ap_mSl, ap_oNone, ap_oSome, ap_tAnd, ap_tOr, ap_tNot, ap_mIf, ap_mYes, wp_bind, ap_mVar, ap_mC, wp_ok, wp_optR, slot_0, slot_s, tru_bl, tru_int, tru_lst, tru_tup, tru_non, asBl_bl, asInt_int, asTwo_ap, asThree_ap, if_true, if_false, Bool.false_eq_true, Bool.not_true, Bool.not_false, fin_bl, fin_int, fin_str, fin_non, List.set_cons_succ, List.set_cons_zero, eL]
    refine tk ⟨by omega, by omega⟩ B' fun r st1 h1 h2 B1 S1 => ?_
    obtain ⟨n, rfl⟩ := Int.eq_ofNat_of_zero_le h1
    have e := ix_sD (st := st1) (l := z) (i := n) (by omega) (by omega)
    rw [e, wp_ok]
    exact ⟨⟨_, hz _ (List.getElem_mem _), rfl⟩, B1, S1⟩
  · intro l st' hR hl hP B' S'
    obtain ⟨cs, hcs, rfl⟩ := ones_of l hP
    rw [List.length_map] at hR hl
    simp -implicitDefEqProofs -dsimp only [ws_seq, ws_ite, wp_ite, brk_t, brk_f, opt_some, ap_sIf, ap_sSet, ap_sRet, ap_sRetN, ap_sExpr, ap_sNil, ap_sBk, ap_sCt, ws_asg, ws_par, ws_par3, ws_toS, ws_nx, ws_rt, ws_bk, ws_ct, wp_tru, wp_notM, wp_andM, wp_orM, wp_chain, ap_mBin, ap_mUn, ap_mOn, ap_mCons, ap_mNil, ap_mKw, ap_mMeth, ap_mSl, ap_oNone, ap_oSome, ap_tAnd, ap_tOr, ap_tNot, ap_mIf, ap_mYes, wp_bind, ap_mVar, ap_mC, wp_ok, wp_optR, slot_0, slot_s, tru_bl, tru_int, tru_lst, tru_tup, tru_non, asBl_bl, asInt_int, asTwo_ap, asThree_ap, if_true, if_false, Bool.false_eq_true, Bool.not_true, Bool.not_false, fin_bl, fin_int, fin_str, fin_non, List.set_cons_succ, List.set_cons_zero, join_chars (l := cs) (st := st') (by omega)]
    have S2 := S1.trans S'
    rw [wp_finE (S2.old B') S2.len rfl]
    exact k cs _ ⟨hR, hl, hcs⟩ B' S2
theorem abz_ok {r : Int} (h0 : 0 ≤ r) (h1 : r < 3) {st : Sto} : ∃ c, fIx (.str "abz") (.int r) st = .ok (sD [c]) st ∧ isSm c = true := by
  have : r = 0 ∨ r = 1 ∨ r = 2 := by omega
  rcases this with rfl | rfl | rfl
  · exact ⟨97, rfl, isSm_iff.mpr (by omega)⟩
  · exact ⟨98, rfl, isSm_iff.mpr (by omega)⟩
  · exact ⟨122, rfl, isSm_iff.mpr (by omega)⟩
theorem at_some {l : List D} {P : D → Prop} {r : Int} (h : ∀ d ∈ l, P d) (h0 : 0 ≤ r) (h1 : r < l.length) : ∃ d, L2.atI l r = some d ∧ P d := by
  obtain ⟨d, e, hm, _⟩ := atI_in h0 h1
  exact ⟨d, e, h d hm⟩
theorem parted_run {w : List Nat} {st : Sto} {i b : Nat} {Q : D → Sto → Prop} (hw : Wd w) (B : Bx st i (b + 3)) (k : ∀ l st', Wd l → Bx st' i b → Sm i st st' → Q (sD l) st') : wp (f__law_parted [.cell i, sD w] st) Q := by
  unfold f__law_parted
  rw [wp_call]
  show ws (m__law_parted [some (.cell i), some (sD w), none, none, none, none] st) _
  unfold m__law_parted
  have w1 := hw.one
  have w2 := hw.most
  have eL := fun st => len_sD (st := st) hw.len
  simp -implicitDefEqProofs -dsimp only [ws_seq, ws_ite, wp_ite, brk_t, brk_f, opt_some, ap_sIf, ap_sSet, ap_sRet, ap_sRetN, ap_sExpr, ap_sNil, ap_sBk, ap_sCt, ws_asg, ws_par, ws_par3, ws_toS, ws_nx, ws_rt, ws_bk, ws_ct, wp_tru, wp_notM, wp_andM, wp_orM, wp_chain, ap_mBin, ap_mUn, ap_mOn, ap_mCons, ap_mNil, ap_mKw, ap_mMeth, ap_mSl, ap_oNone, ap_oSome, ap_tAnd, ap_tOr, ap_tNot, ap_mIf, ap_mYes, wp_bind, ap_mVar, ap_mC, wp_ok, wp_optR, slot_0, slot_s, tru_bl, tru_int, tru_lst, tru_tup, tru_non, asBl_bl, asInt_int, asTwo_ap, asThree_ap, if_true, if_false, Bool.false_eq_true, Bool.not_true, Bool.not_false, fin_bl, fin_int, fin_str, fin_non, List.set_cons_succ, List.set_cons_zero, eL, lt_int]
  refine brk_if (fun h => ?_) (fun h => ?_)
  · simp -implicitDefEqProofs -dsimp only [ws_seq, ws_ite, wp_ite, brk_t, brk_f, opt_some, ap_sIf, ap_sSet, ap_sRet, ap_sRetN, ap_sExpr, ap_sNil, ap_sBk, ap_sCt, ws_asg, ws_par, ws_par3, ws_toS, ws_nx, ws_rt, ws_bk, ws_ct, wp_tru, wp_notM, wp_andM, wp_orM, wp_chain, ap_mBin, ap_mUn, ap_mOn, ap_mCons, ap_mNil, ap_mKw, ap_mMeth, ap_mSl, ap_oNone, ap_oSome, ap_tAnd, ap_tOr, ap_tNot, ap_mIf, ap_mYes, wp_bind, ap_mVar, ap_mC, wp_ok, wp_optR, slot_0, slot_s, tru_bl, tru_int, tru_lst, tru_tup, tru_non, asBl_bl, asInt_int, asTwo_ap, asThree_ap, if_true, if_false, Bool.false_eq_true, Bool.not_true, Bool.not_false, fin_bl, fin_int, fin_str, fin_non, List.set_cons_succ, List.set_cons_zero]
    exact k w st hw (B.le (by omega)) (.refl)
  · have h := of_decide_eq_false h
    simp -implicitDefEqProofs -dsimp only [ws_seq, ws_ite, wp_ite, brk_t, brk_f, opt_some, ap_sIf, ap_sSet, ap_sRet, ap_sRetN, ap_sExpr, ap_sNil, ap_sBk, ap_sCt, ws_asg, ws_par, ws_par3, ws_toS, ws_nx, ws_rt, ws_bk, ws_ct, wp_tru, wp_notM, wp_andM, wp_orM, wp_chain, ap_mBin, ap_mUn, ap_mOn, ap_mCons, ap_mNil, ap_mKw, ap_mMeth, ap_mSl, ap_oNone, ap_oSome, ap_tAnd, ap_tOr, ap_tNot, ap_mIf, ap_mYes, wp_bind, ap_mVar, ap_mC, wp_ok, wp_optR, slot_0, slot_s, tru_bl, tru_int, tru_lst, tru_tup, tru_non, asBl_bl, asInt_int, asTwo_ap, asThree_ap, if_true, if_false, Bool.false_eq_true, Bool.not_true, Bool.not_false, fin_bl, fin_int, fin_str, fin_non, List.set_cons_succ, List.set_cons_zero, eL, sub_int]
    refine tk (b := b + 2) ⟨by omega, by omega⟩ B fun r st1 h1 h2 B1 S1 => ?_
    obtain ⟨p, rfl⟩ := Int.eq_ofNat_of_zero_le h1
    have hp : p + 1 < w.length := by omega
    simp -implicitDefEqProofs -dsimp only [ws_seq, ws_ite, wp_ite, brk_t, brk_f, opt_some, ap_sIf, ap_sSet, ap_sRet, ap_sRetN, ap_sExpr, ap_sNil, ap_sBk, ap_sCt, ws_asg, ws_par, ws_par3, ws_toS, ws_nx, ws_rt, ws_bk, ws_ct, wp_tru, wp_notM, wp_andM, wp_orM, wp_chain, ap_mBin, ap_mUn, ap_mOn, ap_mCons, ap_mNil, ap_mKw, ap_mMeth, ap_mSl, ap_oNone, ap_oSome, ap_tAnd, ap_tOr, ap_tNot, ap_mIf, ap_mYes, wp_bind, ap_mVar, ap_mC, wp_ok, wp_optR, slot_0, slot_s, tru_bl, tru_int, tru_lst, tru_tup, tru_non, asBl_bl, asInt_int, asTwo_ap, asThree_ap, if_true, if_false, Bool.false_eq_true, Bool.not_true, Bool.not_false, fin_bl, fin_int, fin_str, fin_non, List.set_cons_succ, List.set_cons_zero]
    refine tk (b := b + 1) ⟨by decide, by decide⟩ B1 fun r2 st2 h3 h4 B2 S2 => ?_
    obtain ⟨c, ec, hc⟩ := abz_ok (st := st2) h3 h4
    have i1 : ∀ st, fIx (sD w) (.int (p : Int)) st = .ok (sD [w[p]]) st := fun st => ix_sD hw.len (by omega)
    have i2 : ∀ st, fIx (sD w) (.int ((p : Int) + 1)) st = .ok (sD [w[p + 1]]) st := fun st => ix_sD (i := p + 1) hw.len hp
    have a1 : ∀ st, fAdd false (sD [w[p + 1]]) (sD [w[p]]) st = .ok (sD ([w[p + 1]] ++ [w[p]])) st := fun st => add_sD (by show 1 + 1 ≤ _; omega)
    have a2 : ∀ st, fAdd false (sD [w[p + 1]]) (sD [c]) st = .ok (sD ([w[p + 1]] ++ [c])) st := fun st => add_sD (by show 1 + 1 ≤ _; omega)
    have a3 : ∀ st, fAdd false (sD ([w[p + 1]] ++ [c])) (sD [w[p]]) st = .ok (sD ([w[p + 1]] ++ [c] ++ [w[p]])) st := fun st => add_sD (by show 2 + 1 ≤ _; omega)
    have a4 : ∀ st, fAdd false (sD ([w[p + 1]] ++ [w[p]])) (sD [c]) st = .ok (sD ([w[p + 1]] ++ [w[p]] ++ [c])) st := fun st => add_sD (by show 2 + 1 ≤ _; omega)
    have a5 : ∀ st, fAdd false (sD [c]) (sD ([w[p + 1]] ++ [w[p]])) st = .ok (sD ([c] ++ ([w[p + 1]] ++ [w[p]]))) st := fun st => add_sD (by show 1 + 2 ≤ _; omega)
    have s1 : ∀ c ∈ [w[p]], isSm c = true := fun c h => by simp at h; rw [h]; exact hw.sm _ (List.getElem_mem _)
    have s2 : ∀ c ∈ [w[p + 1]], isSm c = true := fun c h => by simp at h; rw [h]; exact hw.sm _ (List.getElem_mem _)
    have s3 : ∀ x ∈ [c], isSm x = true := fun x h => by simp at h; rw [h]; exact hc
    simp -implicitDefEqProofs -dsimp only [ws_seq, ws_ite, wp_ite, brk_t, brk_f, opt_some, ap_sIf, ap_sSet, ap_sRet, ap_sRetN, ap_sExpr, ap_sNil, ap_sBk, ap_sCt, ws_asg, ws_par, ws_par3, ws_toS, ws_nx, ws_rt, ws_bk, ws_ct, wp_tru, wp_notM, wp_andM, wp_orM, wp_chain, ap_mBin, ap_mUn, ap_mOn, ap_mCons, ap_mNil, ap_mKw, ap_mMeth, ap_mSl, ap_oNone, ap_oSome, ap_tAnd, ap_tOr, ap_tNot, ap_mIf, ap_mYes, wp_bind, ap_mVar, ap_mC, wp_ok, wp_optR, slot_0, slot_s, tru_bl, tru_int, tru_lst, tru_tup, tru_non, asBl_bl, asInt_int, asTwo_ap, asThree_ap, if_true, if_false, Bool.false_eq_true, Bool.not_true, Bool.not_false, fin_bl, fin_int, fin_str, fin_non, List.set_cons_succ, List.set_cons_zero, ec, i1, i2, add_int, a1, a2, a3, a4, a5, mk_f, List.length_cons, List.length_nil, Nat.reduceAdd, Nat.reduceLeDiff]
    have eT : ∀ st, fSl false (sD w) none (some (p : Int)) st = .ok (sD (w.take p)) st := fun st => sl_to hw.len
    have eD : ∀ st, fSl false (sD w) (some ((p : Int) + 2)) none st = .ok (sD (w.drop (p + 2))) st := fun st => sl_from (i := p + 2) hw.len
    simp -implicitDefEqProofs -dsimp only [ws_seq, ws_ite, wp_ite, brk_t, brk_f, opt_some, ap_sIf, ap_sSet, ap_sRet, ap_sRetN, ap_sExpr, ap_sNil, ap_sBk, ap_sCt, ws_asg, ws_par, ws_par3, ws_toS, ws_nx, ws_rt, ws_bk, ws_ct, wp_tru, wp_notM, wp_andM, wp_orM, wp_chain, ap_mBin, ap_mUn, ap_mOn, ap_mCons, ap_mNil, ap_mKw, ap_mMeth, ap_mSl, ap_oNone, ap_oSome, ap_tAnd, ap_tOr, ap_tNot, ap_mIf, ap_mYes, wp_bind, ap_mVar, ap_mC, wp_ok, wp_optR, slot_0, slot_s, tru_bl, tru_int, tru_lst, tru_tup, tru_non, asBl_bl, asInt_int, asTwo_ap, asThree_ap, if_true, if_false, Bool.false_eq_true, Bool.not_true, Bool.not_false, fin_bl, fin_int, fin_str, fin_non, List.set_cons_succ, List.set_cons_zero, eT]
    refine tk (b := b) ⟨by decide, by decide⟩ B2 fun r3 st3 h5 h6 B3 S3 => ?_
    obtain ⟨d, ed, l, rfl, l1, l2, l3⟩ := at_some (l := [sD ([w[p + 1]] ++ [c] ++ [w[p]]), sD [w[p + 1]], sD ([w[p + 1]] ++ [w[p]] ++ [c]), sD ([c] ++ ([w[p + 1]] ++ [w[p]]))]) (P := fun d => ∃ l, d = sD l ∧ 1 ≤ l.length ∧ l.length ≤ 3 ∧ SmL l) (fun d hd => by
      simp only [List.mem_cons, List.not_mem_nil, or_false] at hd
      rcases hd with rfl | rfl | rfl | rfl
      · exact ⟨_, rfl, by simp, by simp, SmL.app (SmL.app s2 s3) s1⟩
      · exact ⟨_, rfl, by simp, by simp, s2⟩
      · exact ⟨_, rfl, by simp, by simp, SmL.app (SmL.app s2 s1) s3⟩
      · exact ⟨_, rfl, by simp, by simp, SmL.app s3 (SmL.app s2 s1)⟩) h5 h6
    have lt : (w.take p).length ≤ 12 := by rw [List.length_take]; omega
    have ld : (w.drop (p + 2)).length ≤ 12 := by rw [List.length_drop]; omega
    have b1 : ∀ st, fAdd false (sD (w.take p)) (sD l) st = .ok (sD (w.take p ++ l)) st := fun st => add_sD (by omega)
    have b2 : ∀ st, fAdd false (sD (w.take p ++ l)) (sD (w.drop (p + 2))) st = .ok (sD (w.take p ++ l ++ w.drop (p + 2))) st := fun st => add_sD (by rw [List.length_append]; omega)
    have b3 : ∀ st, fSl false (sD (w.take p ++ l ++ w.drop (p + 2))) none (some 12) st = .ok (sD ((w.take p ++ l ++ w.drop (p + 2)).take 12)) st := fun st => sl_to (i := 12) (by rw [List.length_append, List.length_append]; omega)
    simp -implicitDefEqProofs -dsimp only [ws_seq, ws_ite, wp_ite, brk_t, brk_f, opt_some, ap_sIf, ap_sSet, ap_sRet, ap_sRetN, ap_sExpr, ap_sNil, ap_sBk, ap_sCt, ws_asg, ws_par, ws_par3, ws_toS, ws_nx, ws_rt, ws_bk, ws_ct, wp_tru, wp_notM, wp_andM, wp_orM, wp_chain, ap_mBin, ap_mUn, ap_mOn, ap_mCons, ap_mNil, ap_mKw, ap_mMeth, ap_mSl, ap_oNone, ap_oSome, ap_tAnd, ap_tOr, ap_tNot, ap_mIf, ap_mYes, wp_bind, ap_mVar, ap_mC, wp_ok, wp_optR, slot_0, slot_s, tru_bl, tru_int, tru_lst, tru_tup, tru_non, asBl_bl, asInt_int, asTwo_ap, asThree_ap, if_true, if_false, Bool.false_eq_true, Bool.not_true, Bool.not_false, fin_bl, fin_int, fin_str, fin_non, List.set_cons_succ, List.set_cons_zero, ix_lst]
    refine opt_of ed ?_
    simp -implicitDefEqProofs -dsimp only [ws_seq, ws_ite, wp_ite, brk_t, brk_f, opt_some, ap_sIf, ap_sSet, ap_sRet, ap_sRetN, ap_sExpr, ap_sNil, ap_sBk, ap_sCt, ws_asg, ws_par, ws_par3, ws_toS, ws_nx, ws_rt, ws_bk, ws_ct, wp_tru, wp_notM, wp_andM, wp_orM, wp_chain, ap_mBin, ap_mUn, ap_mOn, ap_mCons, ap_mNil, ap_mKw, ap_mMeth, ap_mSl, ap_oNone, ap_oSome, ap_tAnd, ap_tOr, ap_tNot, ap_mIf, ap_mYes, wp_bind, ap_mVar, ap_mC, wp_ok, wp_optR, slot_0, slot_s, tru_bl, tru_int, tru_lst, tru_tup, tru_non, asBl_bl, asInt_int, asTwo_ap, asThree_ap, if_true, if_false, Bool.false_eq_true, Bool.not_true, Bool.not_false, fin_bl, fin_int, fin_str, fin_non, List.set_cons_succ, List.set_cons_zero, b1, add_int, eD, b2, b3]
    have S4 := (S1.trans S2).trans S3
    rw [wp_finE (S4.old B3) S4.len rfl]
    refine k _ _ ⟨?_, ?_, fun x hx => ?_⟩ B3 S4
    · rw [List.length_take, List.length_append, List.length_append]
      omega
    · rw [List.length_take]
      omega
    · have hx := List.mem_of_mem_take hx
      rcases List.mem_append.mp hx with hx | hx
      · rcases List.mem_append.mp hx with hx | hx
        · exact hw.sm x (List.mem_of_mem_take hx)
        · exact l3 x hx
      · exact hw.sm x (List.mem_of_mem_drop hx)
/-- the words that a step makes, in order -/
theorem sorted_ap {kvs : List (Key × D)} {w : List Nat} {st : Sto} (F : Fd kvs (Sw w) 1000) (hw : Wd w) : ∃ ds : List D, fSorted false [.dic kvs] st = .ok (.lst ds) st ∧ 0 < ds.length ∧ ds.length ≤ 1000 ∧ ∀ d ∈ ds, ∃ l, d = sD l ∧ Sw w l := by
  have key : ∀ (kvs : List (Key × D)), (∀ k ∈ kvs.map (·.1), ∃ l, k = kS l) → ∃ ss, keyTxts kvs = some ss ∧ kvs.map (·.1) = ss.map Sum.inr := by
    intro kvs
    induction kvs with
    | nil => exact fun _ => ⟨[], rfl, rfl⟩
    | cons kv kvs ih =>
      intro h
      obtain ⟨l, hl⟩ := h kv.1 (by simp)
      obtain ⟨ss, e1, e2⟩ := ih fun k hk => h k (by simp at hk ⊢; exact .inr hk)
      obtain ⟨k, d⟩ := kv
      have hl : k = kS l := hl
      subst hl
      refine ⟨⟨l.toArray⟩ :: ss, ?_, ?_⟩
      · show (keyTxts kvs).map _ = _
        rw [e1]; rfl
      · show _ :: _ = _ :: _
        rw [e2]
  obtain ⟨ss, e1, e2⟩ := key kvs F.keys
  have hlen : ss.length = kvs.length := by simpa using (congrArg List.length e2).symm
  refine ⟨(sortS ss).map D.str, ?_, ?_, ?_, ?_⟩
  · unfold fSorted
    show (match keyTxts kvs with | some ss => mk false ((sortS ss).map D.str) st | none => .stuck) = _
    rw [e1]
    exact mk_f (by rw [List.length_map, (sortS_perm ss).length_eq]; have := F.len; omega)
  · rw [List.length_map, (sortS_perm ss).length_eq, hlen]
    -- a first letter may always be another one
    have w1 := hw.one
    have hex : ∃ l, Sw w l := by
      cases w with
      | nil => simp at w1
      | cons c t =>
        have hd : ∃ d, isSm d = true ∧ d ≠ c := by
          by_cases hc : c = 97
          · exact ⟨98, isSm_iff.mpr (by decide), fun z => by rw [hc] at z; exact absurd z (by decide)⟩
          · exact ⟨97, isSm_iff.mpr (by decide), fun z => hc z.symm⟩
        obtain ⟨d, h1, h2⟩ := hd
        refine ⟨d :: t, .sub [] t c d, fun z => h2 (by injection z), ⟨by simp, by simpa using hw.most, fun x hx => ?_⟩⟩
        rcases List.mem_cons.mp hx with rfl | hx
        · exact h1
        · exact hw.sm x (List.mem_cons_of_mem _ hx)
    obtain ⟨l, hl⟩ := hex
    have := (F.mem l).mpr hl
    cases kvs with
    | nil => cases this
    | cons kv kvs => simp
  · rw [List.length_map, (sortS_perm ss).length_eq, hlen]
    exact F.len
  · intro d hd
    obtain ⟨z, hz, rfl⟩ := List.mem_map.mp hd
    have hz := (sortS_perm ss).mem_iff.mp hz
    have : (Sum.inr z : Key) ∈ kvs.map (·.1) := by rw [e2]; exact List.mem_map.mpr ⟨z, hz, rfl⟩
    obtain ⟨l, hl⟩ := F.keys _ this
    rw [hl] at this
    injection hl with hl
    exact ⟨l, by rw [hl], (F.mem l).mp this⟩
theorem moved_run {w : List Nat} {m : Int} {st : Sto} {i b : Nat} {Q : D → Sto → Prop} (hw : Wd w) (m0 : 0 ≤ m) (hm : m ≤ 4) (B : Bx st i (b + 4)) (k : ∀ l st', Wd l → Bx st' i b → Sm i st st' → Q (sD l) st') : wp (f__law_moved [.cell i, sD w, .int m] st) Q := by
  unfold f__law_moved
  rw [wp_call]
  show ws (m__law_moved [some (.cell i), some (sD w), some (.int m), none, none] st) _
  unfold m__law_moved
  rw [ws_seq]
  refine ws_for (intL 0 m.toNat) (fun (j : Nat) (ρ : Ro) (st' : Sto) => j ≤ m.toNat ∧ (∃ l v3 v4, Wd l ∧ ρ = [some (.cell i), some (sD l), some (.int m), v3, v4]) ∧ Bx st' i (b + (4 - j)) ∧ Sm i st st') ?_ ?_ ?_
  · simp -implicitDefEqProofs -dsimp only [ws_seq, ws_ite, wp_ite, brk_t, brk_f, opt_some, ap_sIf, ap_sSet, ap_sRet, ap_sRetN, ap_sExpr, ap_sNil, ap_sBk, ap_sCt, ws_asg, ws_par, ws_par3, ws_toS, ws_nx, ws_rt, ws_bk, ws_ct, wp_tru, wp_notM, wp_andM, wp_orM, wp_chain, ap_mBin, ap_mUn, ap_mOn, ap_mCons, ap_mNil, ap_mKw, ap_mMeth, ap_mSl, ap_oNone, ap_oSome, ap_tAnd, ap_tOr, ap_tNot, ap_mIf, ap_mYes, wp_bind, ap_mVar, ap_mC, wp_ok, wp_optR, slot_0, slot_s, tru_bl, tru_int, tru_lst, tru_tup, tru_non, asBl_bl, asInt_int, asTwo_ap, asThree_ap, if_true, if_false, Bool.false_eq_true, Bool.not_true, Bool.not_false, fin_bl, fin_int, fin_str, fin_non, List.set_cons_succ, List.set_cons_zero, ap_iOn]
    rw [range_ap ⟨by omega, by omega⟩]
    exact ⟨static_R, Nat.zero_le _, ⟨w, _, _, hw, rfl⟩, B, .refl⟩
  · rintro j x ρ st' hx ⟨hj, ⟨l, v3, v4, hl, rfl⟩, B', S'⟩
    obtain ⟨rfl, hjm⟩ := intL_at hx
    refine ⟨[some (.cell i), some (sD l), some (.int m), some (.int (j : Int)), v4], rfl, ?_⟩
    obtain ⟨kvs, e1, F⟩ := steps_ap (st := st') hl
    obtain ⟨ds, e2, d1, d2, d3⟩ := sorted_ap (st := st') F hl
    simp -implicitDefEqProofs -dsimp only [ws_seq, ws_ite, wp_ite, brk_t, brk_f, opt_some, ap_sIf, ap_sSet, ap_sRet, ap_sRetN, ap_sExpr, ap_sNil, ap_sBk, ap_sCt, ws_asg, ws_par, ws_par3, ws_toS, ws_nx, ws_rt, ws_bk, ws_ct, wp_tru, wp_notM, wp_andM, wp_orM, wp_chain, ap_mBin, ap_mUn, ap_mOn, ap_mCons, ap_mNil, ap_mKw, ap_mMeth, ap_mSl, ap_oNone, ap_oSome, ap_tAnd, ap_tOr, ap_tNot, ap_mIf, ap_mYes, wp_bind, ap_mVar, ap_mC, wp_ok, wp_optR, slot_0, slot_s, tru_bl, tru_int, tru_lst, tru_tup, tru_non, asBl_bl, asInt_int, asTwo_ap, asThree_ap, if_true, if_false, Bool.false_eq_true, Bool.not_true, Bool.not_false, fin_bl, fin_int, fin_str, fin_non, List.set_cons_succ, List.set_cons_zero, e1, e2, len_lst]
    rw [show b + (4 - j) = (b + (4 - (j + 1))) + 1 by omega] at B'
    refine tk ⟨by omega, by omega⟩ B' fun r st1 h1 h2 B1 S1 => ?_
    obtain ⟨d, ed, l2, rfl, hs⟩ := at_some (l := ds) d3 h1 h2
    simp -implicitDefEqProofs -dsimp only [ws_seq, ws_ite, wp_ite, brk_t, brk_f, opt_some, ap_sIf, ap_sSet, ap_sRet, ap_sRetN, ap_sExpr, ap_sNil, ap_sBk, ap_sCt, ws_asg, ws_par, ws_par3, ws_toS, ws_nx, ws_rt, ws_bk, ws_ct, wp_tru, wp_notM, wp_andM, wp_orM, wp_chain, ap_mBin, ap_mUn, ap_mOn, ap_mCons, ap_mNil, ap_mKw, ap_mMeth, ap_mSl, ap_oNone, ap_oSome, ap_tAnd, ap_tOr, ap_tNot, ap_mIf, ap_mYes, wp_bind, ap_mVar, ap_mC, wp_ok, wp_optR, slot_0, slot_s, tru_bl, tru_int, tru_lst, tru_tup, tru_non, asBl_bl, asInt_int, asTwo_ap, asThree_ap, if_true, if_false, Bool.false_eq_true, Bool.not_true, Bool.not_false, fin_bl, fin_int, fin_str, fin_non, List.set_cons_succ, List.set_cons_zero, ix_lst]
    refine opt_of ed ?_
    simp -implicitDefEqProofs -dsimp only [ws_seq, ws_ite, wp_ite, brk_t, brk_f, opt_some, ap_sIf, ap_sSet, ap_sRet, ap_sRetN, ap_sExpr, ap_sNil, ap_sBk, ap_sCt, ws_asg, ws_par, ws_par3, ws_toS, ws_nx, ws_rt, ws_bk, ws_ct, wp_tru, wp_notM, wp_andM, wp_orM, wp_chain, ap_mBin, ap_mUn, ap_mOn, ap_mCons, ap_mNil, ap_mKw, ap_mMeth, ap_mSl, ap_oNone, ap_oSome, ap_tAnd, ap_tOr, ap_tNot, ap_mIf, ap_mYes, wp_bind, ap_mVar, ap_mC, wp_ok, wp_optR, slot_0, slot_s, tru_bl, tru_int, tru_lst, tru_tup, tru_non, asBl_bl, asInt_int, asTwo_ap, asThree_ap, if_true, if_false, Bool.false_eq_true, Bool.not_true, Bool.not_false, fin_bl, fin_int, fin_str, fin_non, List.set_cons_succ, List.set_cons_zero]
    exact ⟨hjm, ⟨l2, _, _, hs.2.2, rfl⟩, B1, S'.trans S1⟩
  · rintro ρ st' ⟨hj, ⟨l, v3, v4, hl, rfl⟩, B', S'⟩
    show ws (sSeq (sRet (mVar 1)) sNil [some (.cell i), some (sD l), some (.int m), v3, v4] st') { nx := fun x st' => wp (fin true st D.non st') Q, rt := fun d st' => wp (fin true st d st') Q }
    simp -implicitDefEqProofs -dsimp only [ws_seq, ws_ite, wp_ite, brk_t, brk_f, opt_some, ap_sIf, ap_sSet, ap_sRet, ap_sRetN, ap_sExpr, ap_sNil, ap_sBk, ap_sCt, ws_asg, ws_par, ws_par3, ws_toS, ws_nx, ws_rt, ws_bk, ws_ct, wp_tru, wp_notM, wp_andM, wp_orM, wp_chain, ap_mBin, ap_mUn, ap_mOn, ap_mCons, ap_mNil, ap_mKw, ap_mMeth, ap_mSl, ap_oNone, ap_oSome, ap_tAnd, ap_tOr, ap_tNot, ap_mIf, ap_mYes, wp_bind, ap_mVar, ap_mC, wp_ok, wp_optR, slot_0, slot_s, tru_bl, tru_int, tru_lst, tru_tup, tru_non, asBl_bl, asInt_int, asTwo_ap, asThree_ap, if_true, if_false, Bool.false_eq_true, Bool.not_true, Bool.not_false, fin_bl, fin_int, fin_str, fin_non, List.set_cons_succ, List.set_cons_zero]
    have B2 := B'.le (Nat.le_add_right b _)
    rw [wp_finE (S'.old B2) S'.len rfl]
    exact k l _ hl B2 S'
end P3.Law

/-! L10: the law. -/
namespace P3.Law
open PySem PySem.Spec PyProof.Rows L2 P3 P3.Near
/-- a list of what is drawn, one for each of xs -/
theorem draw_xs {mi : MI} {t : Tg} {me : ME} {vs : List Nat} {ρ : Ro} {st : Sto} {Q : D → Sto → Prop} {i : Nat} {P : D → Prop} (xs : List D) (b c : Nat) (hN : xs.length ≤ 1000) (hi : i < st.length) (hP : ∀ d n, P d → d.blw n = true)
    (hm : wp (mi ρ st) fun S st1 => Static S xs ∧ Bx st1 i (b + c * xs.length) ∧ Sm i st st1)
    (hb : ∀ x ∈ xs, ∀ b' st', Bx st' i (b' + c) → ∃ ρ1, gtD t x (wipeR ρ vs) = some ρ1 ∧ wp (me ρ1 st') fun d st2 => P d ∧ Bx st2 i b' ∧ Sm i st' st2)
    (k : ∀ l st', l.length = xs.length → (∀ d ∈ l, P d) → Bx st' i b → Sm i st st' → Q (.lst l) st') : wp (mComp false mi t mYes me vs ρ st) Q := by
  refine wp_compX rfl (wp_imp hm fun S st1 ⟨hS, B1, S1⟩ => ⟨xs, fun j acc st' => acc.length = j ∧ (∀ d ∈ acc, P d) ∧ Bx st' i (b + c * (xs.length - j)) ∧ st'.length = st.length + 1 ∧ ∀ q, q < st.length → q ≠ i → st'[q]? = st[q]?, hS, S1.len, ⟨rfl, fun d h => absurd h List.not_mem_nil, B1.app, by simp [S1.len], fun q h1 h2 => ?_⟩, ?_, ?_⟩)
  · rw [List.getElem?_append_left (by rw [S1.len]; exact h1), S1.at_ _ h2]
  · rintro j x acc st' hx ⟨hl, ha, Bj, hlen, hat⟩ hk
    have hj : j < xs.length := (List.getElem?_eq_some_iff.mp hx).1
    have e : b + c * (xs.length - j) = (b + c * (xs.length - (j + 1))) + c := by
      have : xs.length - j = (xs.length - (j + 1)) + 1 := by omega
      rw [this, Nat.mul_add, Nat.mul_one]
      omega
    rw [e] at Bj
    obtain ⟨ρ1, e1, h1⟩ := hb x (List.mem_of_getElem? hx) _ st' Bj
    refine ⟨ρ1, e1, ?_⟩
    show wp (me ρ1 st') _
    refine wp_imp h1 fun d st2 ⟨hd, B2, S2⟩ => ?_
    have hk2 : st2[st.length]? = some (.lst acc) := by rw [S2.at_ _ (by omega)]; exact hk
    refine ⟨hk2, by omega, hP d _ hd, by rw [List.length_append, hl]; rfl, fun d' hd' => ?_, B2.of (List.getElem?_set_ne (by omega)), by rw [List.length_set, S2.len, hlen], fun q h1 h2 => ?_⟩
    · rcases List.mem_append.mp hd' with h | h
      · exact ha _ h
      · rw [List.mem_singleton.mp h]; exact hd
    · rw [List.getElem?_set_ne (by omega), S2.at_ _ h2, hat q h1 h2]
  · rintro acc st' ⟨hl, ha, Bj, hlen, hat⟩ hk
    refine ⟨Bj.old (by omega) hat, ?_⟩
    have ht : (st'.take st.length).length = st.length := by rw [List.length_take]; omega
    have hat' : ∀ q, q < st.length → (st'.take st.length)[q]? = st'[q]? := fun q h => List.getElem?_take_of_lt h
    refine k _ _ hl ha ((Bj.le (Nat.le_add_right _ _)).of (hat' i hi)) ⟨ht, fun q hq => ?_⟩
    by_cases h : q < st.length
    · rw [hat' q h, hat q h hq]
    · rw [List.getElem?_eq_none (by omega), List.getElem?_eq_none (by omega)]
theorem turns {n : Int} : ∃ m : Int, (if (if n < 6 then n else 6) > 2 then (if n < 6 then n else 6) else 2) = m ∧ 0 ≤ m ∧ m ≤ 6 := by
  by_cases h : n < 6
  · rw [if_pos h]
    by_cases h2 : n > 2
    · exact ⟨n, if_pos h2, by omega, by omega⟩
    · exact ⟨2, if_neg h2, by omega, by omega⟩
  · rw [if_neg h]
    exact ⟨6, if_pos (by omega), by omega, by omega⟩
theorem rev_wd {l : List Nat} (h : Wd l) : Wd l.reverse := ⟨by rw [List.length_reverse]; exact h.one, by rw [List.length_reverse]; exact h.most, fun c hc => h.sm c (List.mem_reverse.mp hc)⟩
theorem farD_tx {a b : List Nat} {st : Sto} : fRepr [farD a b] st = .ok (.str (tx (farD a b))) st ∧ plainStr (tx (farD a b)) = true := by
  have h : farD a b = .int 0 ∨ farD a b = .int 1 ∨ farD a b = .int 2 ∨ farD a b = .non := by
    unfold farD
    split
    · have h : fw a b = 0 ∨ fw a b = 1 ∨ fw a b = 2 := by omega
      rcases h with h | h | h <;> rw [h]
      · exact .inl rfl
      · exact .inr (.inl rfl)
      · exact .inr (.inr (.inl rfl))
    · exact .inr (.inr (.inr rfl))
  rcases h with h | h | h | h <;> rw [h] <;> exact tx_ok (by decide +kernel) (by decide +kernel) (by decide +kernel)
theorem law_true : ∀ ns : List Int, ns.length ≤ 63 → ∃ st, f_law [.scr ns] [] = .ok (.bl true) st := by
  intro ns _
  have main : wp (f_law [.scr ns] []) fun d _ => d = .bl true := by
    unfold f_law
    rw [wp_call]
    show ws (m_law [some (.scr ns), none, none, none, none, none, none, none] []) _
    unfold m_law
    simp -implicitDefEqProofs -dsimp only [ws_seq, ws_ite, wp_ite, brk_t, brk_f, opt_some, ap_sIf, ap_sSet, ap_sRet, ap_sRetN, ap_sExpr, ap_sNil, ap_sBk, ap_sCt, ws_asg, ws_par, ws_par3, ws_toS, ws_nx, ws_rt, ws_bk, ws_ct, wp_tru, wp_notM, wp_andM, wp_orM, wp_chain, ap_mBin, ap_mUn, ap_mOn, ap_mCons, ap_mNil, ap_mKw, ap_mMeth, ap_mSl, ap_oNone, ap_oSome, ap_tAnd, ap_tOr, ap_tNot, ap_mIf, ap_mYes, wp_bind, ap_mVar, ap_mC, wp_ok, wp_optR, slot_0, slot_s, tru_bl, tru_int, tru_lst, tru_tup, tru_non, asBl_bl, asInt_int, asTwo_ap, asThree_ap, if_true, if_false, Bool.false_eq_true, Bool.not_true, Bool.not_false, fin_bl, fin_int, fin_str, fin_non, List.set_cons_succ, List.set_cons_zero]
    obtain ⟨m, em, m0, m1⟩ := turns (n := (ns.length : Int))
    refine ws_for (intL 0 m.toNat) (fun j ρ st' => ∃ a b c d e f g, ρ = [some (.scr ns), a, b, c, d, e, f, g]) ?_ ?_ ?_
    · simp -implicitDefEqProofs -dsimp only [ws_seq, ws_ite, wp_ite, brk_t, brk_f, opt_some, ap_sIf, ap_sSet, ap_sRet, ap_sRetN, ap_sExpr, ap_sNil, ap_sBk, ap_sCt, ws_asg, ws_par, ws_par3, ws_toS, ws_nx, ws_rt, ws_bk, ws_ct, wp_tru, wp_notM, wp_andM, wp_orM, wp_chain, ap_mBin, ap_mUn, ap_mOn, ap_mCons, ap_mNil, ap_mKw, ap_mMeth, ap_mSl, ap_oNone, ap_oSome, ap_tAnd, ap_tOr, ap_tNot, ap_mIf, ap_mYes, wp_bind, ap_mVar, ap_mC, wp_ok, wp_optR, slot_0, slot_s, tru_bl, tru_int, tru_lst, tru_tup, tru_non, asBl_bl, asInt_int, asTwo_ap, asThree_ap, if_true, if_false, Bool.false_eq_true, Bool.not_true, Bool.not_false, fin_bl, fin_int, fin_str, fin_non, List.set_cons_succ, List.set_cons_zero, ap_iOn, len_scr, min_int, max_int]
      rw [em, range_ap ⟨by omega, by omega⟩]
      exact ⟨static_R, _, _, _, _, _, _, _, rfl⟩
    · rintro j x ρ st hx ⟨a, b, c, d, e, f, g, rfl⟩
      obtain ⟨rfl, hj⟩ := intL_at hx
      refine ⟨[some (.scr ns), some (.int (j : Int)), b, c, d, e, f, g], rfl, ?_⟩
      obtain ⟨v, ev⟩ := cell_ap (ns := ns) (k := j) (st := st)
      simp -implicitDefEqProofs -dsimp only [ws_seq, ws_ite, wp_ite, brk_t, brk_f, opt_some, ap_sIf, ap_sSet, ap_sRet, ap_sRetN, ap_sExpr, ap_sNil, ap_sBk, ap_sCt, ws_asg, ws_par, ws_par3, ws_toS, ws_nx, ws_rt, ws_bk, ws_ct, wp_tru, wp_notM, wp_andM, wp_orM, wp_chain, ap_mBin, ap_mUn, ap_mOn, ap_mCons, ap_mNil, ap_mKw, ap_mMeth, ap_mSl, ap_oNone, ap_oSome, ap_tAnd, ap_tOr, ap_tNot, ap_mIf, ap_mYes, wp_bind, ap_mVar, ap_mC, wp_ok, wp_optR, slot_0, slot_s, tru_bl, tru_int, tru_lst, tru_tup, tru_non, asBl_bl, asInt_int, asTwo_ap, asThree_ap, if_true, if_false, Bool.false_eq_true, Bool.not_true, Bool.not_false, fin_bl, fin_int, fin_str, fin_non, List.set_cons_succ, List.set_cons_zero, ev]
      refine box_ap fun st1 B1 _ _ => ?_
      simp -implicitDefEqProofs -dsimp only [ws_seq, ws_ite, wp_ite, brk_t, brk_f, opt_some, ap_sIf, ap_sSet, ap_sRet, ap_sRetN, ap_sExpr, ap_sNil, ap_sBk, ap_sCt, ws_asg, ws_par, ws_par3, ws_toS, ws_nx, ws_rt, ws_bk, ws_ct, wp_tru, wp_notM, wp_andM, wp_orM, wp_chain, ap_mBin, ap_mUn, ap_mOn, ap_mCons, ap_mNil, ap_mKw, ap_mMeth, ap_mSl, ap_oNone, ap_oSome, ap_tAnd, ap_tOr, ap_tNot, ap_mIf, ap_mYes, wp_bind, ap_mVar, ap_mC, wp_ok, wp_optR, slot_0, slot_s, tru_bl, tru_int, tru_lst, tru_tup, tru_non, asBl_bl, asInt_int, asTwo_ap, asThree_ap, if_true, if_false, Bool.false_eq_true, Bool.not_true, Bool.not_false, fin_bl, fin_int, fin_str, fin_non, List.set_cons_succ, List.set_cons_zero]
      refine drawn_run (b := 1000) (B1.le (by decide)) fun w st2 hw B2 S2 => ?_
      simp -implicitDefEqProofs -dsimp only [ws_seq, ws_ite, wp_ite, brk_t, brk_f, opt_some, ap_sIf, ap_sSet, ap_sRet, ap_sRetN, ap_sExpr, ap_sNil, ap_sBk, ap_sCt, ws_asg, ws_par, ws_par3, ws_toS, ws_nx, ws_rt, ws_bk, ws_ct, wp_tru, wp_notM, wp_andM, wp_orM, wp_chain, ap_mBin, ap_mUn, ap_mOn, ap_mCons, ap_mNil, ap_mKw, ap_mMeth, ap_mSl, ap_oNone, ap_oSome, ap_tAnd, ap_tOr, ap_tNot, ap_mIf, ap_mYes, wp_bind, ap_mVar, ap_mC, wp_ok, wp_optR, slot_0, slot_s, tru_bl, tru_int, tru_lst, tru_tup, tru_non, asBl_bl, asInt_int, asTwo_ap, asThree_ap, if_true, if_false, Bool.false_eq_true, Bool.not_true, Bool.not_false, fin_bl, fin_int, fin_str, fin_non, List.set_cons_succ, List.set_cons_zero]
      refine drawn_run (b := 900) (B2.le (by decide)) fun w2 st3 hw2 B3 S3 => ?_
      simp -implicitDefEqProofs -dsimp only [ws_seq, ws_ite, wp_ite, brk_t, brk_f, opt_some, ap_sIf, ap_sSet, ap_sRet, ap_sRetN, ap_sExpr, ap_sNil, ap_sBk, ap_sCt, ws_asg, ws_par, ws_par3, ws_toS, ws_nx, ws_rt, ws_bk, ws_ct, wp_tru, wp_notM, wp_andM, wp_orM, wp_chain, ap_mBin, ap_mUn, ap_mOn, ap_mCons, ap_mNil, ap_mKw, ap_mMeth, ap_mSl, ap_oNone, ap_oSome, ap_tAnd, ap_tOr, ap_tNot, ap_mIf, ap_mYes, wp_bind, ap_mVar, ap_mC, wp_ok, wp_optR, slot_0, slot_s, tru_bl, tru_int, tru_lst, tru_tup, tru_non, asBl_bl, asInt_int, asTwo_ap, asThree_ap, if_true, if_false, Bool.false_eq_true, Bool.not_true, Bool.not_false, fin_bl, fin_int, fin_str, fin_non, List.set_cons_succ, List.set_cons_zero]
      refine parted_run (b := 800) hw (B3.le (by decide)) fun w3 st4 hw3 B4 S4 => ?_
      simp -implicitDefEqProofs -dsimp only [ws_seq, ws_ite, wp_ite, brk_t, brk_f, opt_some, ap_sIf, ap_sSet, ap_sRet, ap_sRetN, ap_sExpr, ap_sNil, ap_sBk, ap_sCt, ws_asg, ws_par, ws_par3, ws_toS, ws_nx, ws_rt, ws_bk, ws_ct, wp_tru, wp_notM, wp_andM, wp_orM, wp_chain, ap_mBin, ap_mUn, ap_mOn, ap_mCons, ap_mNil, ap_mKw, ap_mMeth, ap_mSl, ap_oNone, ap_oSome, ap_tAnd, ap_tOr, ap_tNot, ap_mIf, ap_mYes, wp_bind, ap_mVar, ap_mC, wp_ok, wp_optR, slot_0, slot_s, tru_bl, tru_int, tru_lst, tru_tup, tru_non, asBl_bl, asInt_int, asTwo_ap, asThree_ap, if_true, if_false, Bool.false_eq_true, Bool.not_true, Bool.not_false, fin_bl, fin_int, fin_str, fin_non, List.set_cons_succ, List.set_cons_zero, rev_sD hw.len, mk_f, List.length_cons, List.length_nil, Nat.reduceAdd, Nat.reduceLeDiff]
      refine draw_xs (intL 1 4) (b := 100) (c := 4) (P := fun d => ∃ l, d = sD l ∧ Wd l) (by decide) B4.lt (fun d n ⟨l, h, _⟩ => by rw [h]; rfl) ?_ ?_ ?_
      · simp -implicitDefEqProofs -dsimp only [ws_seq, ws_ite, wp_ite, brk_t, brk_f, opt_some, ap_sIf, ap_sSet, ap_sRet, ap_sRetN, ap_sExpr, ap_sNil, ap_sBk, ap_sCt, ws_asg, ws_par, ws_par3, ws_toS, ws_nx, ws_rt, ws_bk, ws_ct, wp_tru, wp_notM, wp_andM, wp_orM, wp_chain, ap_mBin, ap_mUn, ap_mOn, ap_mCons, ap_mNil, ap_mKw, ap_mMeth, ap_mSl, ap_oNone, ap_oSome, ap_tAnd, ap_tOr, ap_tNot, ap_mIf, ap_mYes, wp_bind, ap_mVar, ap_mC, wp_ok, wp_optR, slot_0, slot_s, tru_bl, tru_int, tru_lst, tru_tup, tru_non, asBl_bl, asInt_int, asTwo_ap, asThree_ap, if_true, if_false, Bool.false_eq_true, Bool.not_true, Bool.not_false, fin_bl, fin_int, fin_str, fin_non, List.set_cons_succ, List.set_cons_zero, ap_iOn]
        rw [range2_ap ⟨by omega, by omega⟩]
        exact ⟨static_R, B4.le (by decide), .refl⟩
      · intro x hx b' st' B'
        obtain ⟨q, rfl, q0, hq⟩ : ∃ q : Int, x = .int q ∧ 0 ≤ q ∧ q ≤ 4 := by
          have : x ∈ [D.int 1, .int 2, .int 3, .int 4] := hx
          simp only [List.mem_cons, List.not_mem_nil, or_false] at this
          rcases this with rfl | rfl | rfl | rfl
          · exact ⟨1, rfl, by decide, by decide⟩
          · exact ⟨2, rfl, by decide, by decide⟩
          · exact ⟨3, rfl, by decide, by decide⟩
          · exact ⟨4, rfl, by decide, by decide⟩
        refine ⟨[some (.scr ns), some (.int (j : Int)), some (.cell st.length), some (sD w), some (.lst [sD w, sD w2, sD w3, sD w.reverse]), e, f, some (.int q)], rfl, ?_⟩
        simp -implicitDefEqProofs -dsimp only [ws_seq, ws_ite, wp_ite, brk_t, brk_f, opt_some, ap_sIf, ap_sSet, ap_sRet, ap_sRetN, ap_sExpr, ap_sNil, ap_sBk, ap_sCt, ws_asg, ws_par, ws_par3, ws_toS, ws_nx, ws_rt, ws_bk, ws_ct, wp_tru, wp_notM, wp_andM, wp_orM, wp_chain, ap_mBin, ap_mUn, ap_mOn, ap_mCons, ap_mNil, ap_mKw, ap_mMeth, ap_mSl, ap_oNone, ap_oSome, ap_tAnd, ap_tOr, ap_tNot, ap_mIf, ap_mYes, wp_bind, ap_mVar, ap_mC, wp_ok, wp_optR, slot_0, slot_s, tru_bl, tru_int, tru_lst, tru_tup, tru_non, asBl_bl, asInt_int, asTwo_ap, asThree_ap, if_true, if_false, Bool.false_eq_true, Bool.not_true, Bool.not_false, fin_bl, fin_int, fin_str, fin_non, List.set_cons_succ, List.set_cons_zero]
        exact moved_run hw q0 hq B' fun l st2 hl B2 S2 => ⟨⟨l, rfl, hl⟩, B2, S2⟩
      · intro l st5 hl hP B5 S5
        have hall : ∀ d ∈ [sD w, sD w2, sD w3, sD w.reverse] ++ l, ∃ l, d = sD l ∧ Wd l := by
          intro d hd
          rcases List.mem_append.mp hd with hd | hd
          · simp only [List.mem_cons, List.not_mem_nil, or_false] at hd
            rcases hd with rfl | rfl | rfl | rfl
            · exact ⟨_, rfl, hw⟩
            · exact ⟨_, rfl, hw2⟩
            · exact ⟨_, rfl, hw3⟩
            · exact ⟨_, rfl, rev_wd hw⟩
          · exact hP d hd
        have hlen : ([sD w, sD w2, sD w3, sD w.reverse] ++ l).length ≤ 100000 := by
          rw [List.length_append, hl, intL_len]
          simp
        simp -implicitDefEqProofs -dsimp only [ws_seq, ws_ite, wp_ite, brk_t, brk_f, opt_some, ap_sIf, ap_sSet, ap_sRet, ap_sRetN, ap_sExpr, ap_sNil, ap_sBk, ap_sCt, ws_asg, ws_par, ws_par3, ws_toS, ws_nx, ws_rt, ws_bk, ws_ct, wp_tru, wp_notM, wp_andM, wp_orM, wp_chain, ap_mBin, ap_mUn, ap_mOn, ap_mCons, ap_mNil, ap_mKw, ap_mMeth, ap_mSl, ap_oNone, ap_oSome, ap_tAnd, ap_tOr, ap_tNot, ap_mIf, ap_mYes, wp_bind, ap_mVar, ap_mC, wp_ok, wp_optR, slot_0, slot_s, tru_bl, tru_int, tru_lst, tru_tup, tru_non, asBl_bl, asInt_int, asTwo_ap, asThree_ap, if_true, if_false, Bool.false_eq_true, Bool.not_true, Bool.not_false, fin_bl, fin_int, fin_str, fin_non, List.set_cons_succ, List.set_cons_zero, add_lst hlen]
        generalize [sD w, sD w2, sD w3, sD w.reverse] ++ l = all at hall hlen
        refine ws_for all (fun q ρ st' => ∃ f g h, ρ = [some (.scr ns), some (.int (j : Int)), some (.cell st.length), some (sD w), some (.lst all), f, g, h]) ?_ ?_ ?_
        · simp -implicitDefEqProofs -dsimp only [ws_seq, ws_ite, wp_ite, brk_t, brk_f, opt_some, ap_sIf, ap_sSet, ap_sRet, ap_sRetN, ap_sExpr, ap_sNil, ap_sBk, ap_sCt, ws_asg, ws_par, ws_par3, ws_toS, ws_nx, ws_rt, ws_bk, ws_ct, wp_tru, wp_notM, wp_andM, wp_orM, wp_chain, ap_mBin, ap_mUn, ap_mOn, ap_mCons, ap_mNil, ap_mKw, ap_mMeth, ap_mSl, ap_oNone, ap_oSome, ap_tAnd, ap_tOr, ap_tNot, ap_mIf, ap_mYes, wp_bind, ap_mVar, ap_mC, wp_ok, wp_optR, slot_0, slot_s, tru_bl, tru_int, tru_lst, tru_tup, tru_non, asBl_bl, asInt_int, asTwo_ap, asThree_ap, if_true, if_false, Bool.false_eq_true, Bool.not_true, Bool.not_false, fin_bl, fin_int, fin_str, fin_non, List.set_cons_succ, List.set_cons_zero, ap_iSeq, srcOf_lst]
          exact ⟨static_L (Nat.lt_succ_self _), _, _, _, rfl⟩
        · rintro q y ρ st6 hy ⟨f, g, h, rfl⟩
          obtain ⟨o, rfl, ho⟩ := hall y (List.mem_of_getElem? hy)
          refine ⟨[some (.scr ns), some (.int (j : Int)), some (.cell st.length), some (sD w), some (.lst all), some (sD o), g, h], rfl, ?_⟩
          have f1 := (farD_tx (a := w) (b := o) (st := st6)).1
          have f2 := (farD_tx (a := w) (b := o) (st := st6)).2
          simp -implicitDefEqProofs -dsimp only [ws_seq, ws_ite, wp_ite, brk_t, brk_f, opt_some, ap_sIf, ap_sSet, ap_sRet, ap_sRetN, ap_sExpr, ap_sNil, ap_sBk, ap_sCt, ws_asg, ws_par, ws_par3, ws_toS, ws_nx, ws_rt, ws_bk, ws_ct, wp_tru, wp_notM, wp_andM, wp_orM, wp_chain, ap_mBin, ap_mUn, ap_mOn, ap_mCons, ap_mNil, ap_mKw, ap_mMeth, ap_mSl, ap_oNone, ap_oSome, ap_tAnd, ap_tOr, ap_tNot, ap_mIf, ap_mYes, wp_bind, ap_mVar, ap_mC, wp_ok, wp_optR, slot_0, slot_s, tru_bl, tru_int, tru_lst, tru_tup, tru_non, asBl_bl, asInt_int, asTwo_ap, asThree_ap, if_true, if_false, Bool.false_eq_true, Bool.not_true, Bool.not_false, fin_bl, fin_int, fin_str, fin_non, List.set_cons_succ, List.set_cons_zero, far_law hw ho, far_ap hw ho, far_ap ho hw, farD_symm o w, f1, ne_str f2 f2, eqS_self, Bool.not_true]
          exact ⟨_, _, _, rfl⟩
        · rintro ρ st6 ⟨f, g, h, rfl⟩
          exact ⟨_, _, _, _, _, _, _, rfl⟩
    · rintro ρ st ⟨a, b, c, d, e, f, g, rfl⟩
      simp -implicitDefEqProofs -dsimp only [ws_seq, ws_ite, wp_ite, brk_t, brk_f, opt_some, ap_sIf, ap_sSet, ap_sRet, ap_sRetN, ap_sExpr, ap_sNil, ap_sBk, ap_sCt, ws_asg, ws_par, ws_par3, ws_toS, ws_nx, ws_rt, ws_bk, ws_ct, wp_tru, wp_notM, wp_andM, wp_orM, wp_chain, ap_mBin, ap_mUn, ap_mOn, ap_mCons, ap_mNil, ap_mKw, ap_mMeth, ap_mSl, ap_oNone, ap_oSome, ap_tAnd, ap_tOr, ap_tNot, ap_mIf, ap_mYes, wp_bind, ap_mVar, ap_mC, wp_ok, wp_optR, slot_0, slot_s, tru_bl, tru_int, tru_lst, tru_tup, tru_non, asBl_bl, asInt_int, asTwo_ap, asThree_ap, if_true, if_false, Bool.false_eq_true, Bool.not_true, Bool.not_false, fin_bl, fin_int, fin_str, fin_non, List.set_cons_succ, List.set_cons_zero]
      rw [wp_fin (OldB.of (Nat.zero_le _) (fun i hi => absurd hi (Nat.not_lt_zero _))) rfl]
  obtain ⟨d, st, e, rfl⟩ := wp_ok_of main
  exact ⟨st, e⟩
end P3.Law

open PySem PySem.W PyProof.Rows in
set_option maxRecDepth 100000 in
set_option maxHeartbeats 0 in
theorem PySem.Challenge.cw_penhelper_k10_how_far_words_are_holds : PySem.Challenge.rw_penhelper_k10_how_far_words_are.Holds := by
  w_on; o_law; k_head; (case hw => w_witness2)
  k_fill
  refine P3.walk3 (l := PySem.Challenge.rw_penhelper_k10_how_far_words_are) (n := 63) (k := 8) (x := "_law_script") rfl (by decide) rfl ⟨rfl, by decide, by decide⟩ (fun w h Y => PySem.W.kIn_of Y) ?F
  case F =>
    intro w mg fa h KX G hmg
    refine' P3.Law.all KX G hmg ?a0 ?l0 ?c0 ?k0 ?a1 ?l1 ?c1 ?k1 ?a2 ?l2 ?c2 ?k2 ?a3 ?l3 ?c3 ?k3 ?a4 ?l4 ?c4 ?k4 ?a5 ?l5 ?c5 ?k5 ?a6 ?l6 ?c6 ?k6 ?a7 ?l7 ?c7 ?k7 ?a8 ?l8 ?c8 ?k8 ?a9 ?l9 ?c9 ?k9 ?a10 ?l10 ?c10 ?k10 ?a11 ?l11 ?c11 ?k11 ?a12 ?l12 ?c12 ?k12 ?a13 ?l13 ?c13 ?k13 ?a14 ?l14 ?c14 ?k14 ?a15 ?l15 ?c15 ?k15 ?a16 ?l16 ?c16 ?k16 ?a17 ?l17 ?c17 ?k17 ?v0 ?v1 ?v2 ?v3 ?z0 ?z1 ?z2 ?z3 ?z4 ?z5 ?z6 ?z7 ?z8 ?z9 ?z10 ?z11 ?z12 ?z13 P3.Law.law_true
    (case a0 => k_is)
    (case l0 => k_is)
    (case c0 => k_is)
    (case k0 => k_is)
    (case a1 => k_is)
    (case l1 => k_is)
    (case c1 => k_is)
    (case k1 => k_is)
    (case a2 => k_is)
    (case l2 => k_is)
    (case c2 => k_is)
    (case k2 => k_is)
    (case a3 => k_is)
    (case l3 => k_is)
    (case c3 => k_is)
    (case k3 => k_is)
    (case a4 => k_is)
    (case l4 => k_is)
    (case c4 => k_is)
    (case k4 => k_is)
    (case a5 => k_is)
    (case l5 => k_is)
    (case c5 => k_is)
    (case k5 => k_is)
    (case a6 => k_is)
    (case l6 => k_is)
    (case c6 => k_is)
    (case k6 => k_is)
    (case a7 => k_is)
    (case l7 => k_is)
    (case c7 => k_is)
    (case k7 => k_is)
    (case a8 => k_is)
    (case l8 => k_is)
    (case c8 => k_is)
    (case k8 => k_is)
    (case a9 => k_is)
    (case l9 => k_is)
    (case c9 => k_is)
    (case k9 => k_is)
    (case a10 => k_is)
    (case l10 => k_is)
    (case c10 => k_is)
    (case k10 => k_is)
    (case a11 => k_is)
    (case l11 => k_is)
    (case c11 => k_is)
    (case k11 => k_is)
    (case a12 => k_is)
    (case l12 => k_is)
    (case c12 => k_is)
    (case k12 => k_is)
    (case a13 => k_is)
    (case l13 => k_is)
    (case c13 => k_is)
    (case k13 => k_is)
    (case a14 => k_is)
    (case l14 => k_is)
    (case c14 => k_is)
    (case k14 => k_is)
    (case a15 => k_is)
    (case l15 => k_is)
    (case c15 => k_is)
    (case k15 => k_is)
    (case a16 => k_is)
    (case l16 => k_is)
    (case c16 => k_is)
    (case k16 => k_is)
    (case a17 => k_is)
    (case l17 => k_is)
    (case c17 => k_is)
    (case k17 => k_is)
    (case v0 => k_is)
    (case v1 => k_is)
    (case v2 => k_is)
    (case v3 => k_is)
    (case z0 => k_is)
    (case z1 => k_is)
    (case z2 => k_is)
    (case z3 => k_is)
    (case z4 => k_is)
    (case z5 => k_is)
    (case z6 => k_is)
    (case z7 => k_is)
    (case z8 => k_is)
    (case z9 => k_is)
    (case z10 => k_is)
    (case z11 => k_is)
    (case z12 => k_is)
    (case z13 => k_is)

