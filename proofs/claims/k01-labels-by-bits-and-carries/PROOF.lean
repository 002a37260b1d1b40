import PyProof.Rows.All
import Wide.All
import OpenK.AllK
import Wide.FinOn
import HandS.Base
import HandS.Call
import HandS.List
import HandS.Comp
import HandS.Iter
import HandS.Text
import HandS.Dict
import HandS.More
import HandS.Exc
import HandS.Lambda
import HandS.ExcOwn
import HandS.WordsExc
import HandS.Defaults
import HandS.HeadHook4
import HandS.HeadEnd
import HandS.Wide
import HandS.WideBits
import HandS.TupLe
import HandS.TupAny
import HandS.IsInst
import HandS.FStr
import HandS.StrMore
import KE.SortData
import KE.GoesZip
import KE.GoesMore
import HandS.Ends
import HandS.Words
import HandS.Head0
import HandS.Head1
import HandS.Head2
import HandS.HeadHook1
import HandS.HeadHook2
import HandS.HeadHook3
import HandS.ExcInit
import HandS.ExcField
import KE.KExcIs
import HandS.EndBits
import HandS.TupMul
import HandS.RaiseMore
import HandS.Zip0
import HandS.Star
import HandS.SortKw
import KE.DataMinMax
import HandS.NamedTupSort
import KE.KSortTup
import HandS.SetTxt0
import HandS.SetFor
import KE.KDictSum
import HandS.Style
import HandS.NoneIn
import PySem.Challenge.RW_leastequal_k01_labels_by_bits_and_carrie
set_option Elab.async false
set_option linter.all false
set_option maxRecDepth 100000
set_option maxHeartbeats 8000000
/-! E0: data, their standing in the abstract heap, the judgements over data. -/
namespace Ev
open PySem PySem.Spec PyProof.Rows L2

/-- data: what a value is, without addresses; a box is a list that is shared and changed -/
inductive D where
  | non | bl (b : Bool) | int (i : Int) | str (s : Str)
  | lst (xs : List D) | tup (xs : List D)
  | dic (ks : List Key) (vs : List D)
  /-- a dict of the module's top, text keys -/
  | kd (ks : List Str) (vs : List D)
  | box (n : Nat)
  | ins (c : Str) (ns : List Str) (vs : List D)

/-- the text's facts -/
structure Tx0 where
  K : PySem.W.Frag
  w : World
  ca : Str → Addr

def lk {α β : Type} [DecidableEq α] : List α → List β → α → Option β
  | k :: ks, v :: vs, z => if z = k then some v else lk ks vs z
  | _, _, _ => none

/-- where the boxes stand, and how many there are -/
structure Io where
  f : Nat → Addr
  n : Nat
/-- .. and what a def's frame leans on: tables of code objects, and the names they bear; the least ghosts; the closure that was handed in -/
structure Tx extends Tx0 where
  tb : List (Addr × Str) := []
  io0 : Io := ⟨fun _ => 0, 0⟩
  G0 : Hp := fun _ => none
  clo : Addr := 0
instance : Coe Tx Tx0 := ⟨Tx.toTx0⟩
def Io.Le (a b : Io) : Prop := a.n ≤ b.n ∧ ∀ i, i < a.n → b.f i = a.f i
theorem Io.Le.refl (a : Io) : a.Le a := ⟨Nat.le_refl _, fun _ _ => rfl⟩
theorem Io.Le.trans {a b c : Io} (h : a.Le b) (k : b.Le c) : a.Le c := ⟨Nat.le_trans h.1 k.1, fun i hi => by rw [k.2 i (Nat.lt_of_lt_of_le hi h.1), h.2 i hi]⟩

/-- a caught error at a: its class, its dict -/
def xo (a : Addr) (cls : Value) (dd : Addr) : HO := .ext fun h => ∃ (oe : Obj) (vs : Array Value), h.get? a = some oe ∧ Zc cls (some dd) oe ∧ oe.data = .fields vs
mutual
inductive Rep (T : Tx0) (io : Io) (G : Hp) : V → D → Prop
  | non : Rep T io G .non .non
  | bl (b : Bool) : Rep T io G (.bl b) (.bl b)
  | int (i : Int) : Rep T io G (.int i) (.int i)
  | str (x : Str) : Rep T io G (.str x) (.str x)
  | lst {a : Addr} {vs : List V} {ds : List D} : SqL T.K G a vs → Reps T io G vs ds → Rep T io G (.ref a) (.lst ds)
  | tup {a : Addr} {vs : List V} {ds : List D} : SqT T.K G a vs → Reps T io G vs ds → Rep T io G (.ref a) (.tup ds)
  | box (n : Nat) : n < io.n → Rep T io G (.ref (io.f n)) (.box n)
  | dic {a : Addr} {ks : List Key} {vs : List V} {ds : List D} : Rd G a (.dK (ks.zip vs)) → ks.length = ds.length → ks.Nodup → Reps T io G vs ds → Rep T io G (.ref a) (.dic ks ds)
  | kd {a : Addr} {ks : List Str} {vv : Str → V} {ds : List D} {es : Array DictEntry} {n : Nat} : KDict T.K T.w a es n → (∀ z d, lk ks ds z = some d → ∃ u, PySem.W.nsIn T.K a z = some (some u) ∧ RelV (vv z) u) → (∀ z d, lk ks ds z = some d → Rep T io G (vv z) d) →
      (∀ z, lk ks ds z = none → PySem.W.nsIn T.K a z = some none) → Rep T io G (.ref a) (.kd ks ds)
  | ins {a dd : Addr} {c : Str} {ns : List Str} {us : List V} {vs : List D} : G a = some (xo a (.ref (T.ca c)) dd) → G dd = some (.xd (ns.zip us)) → ns.length = us.length → Reps T io G us vs → Rep T io G (.ref a) (.ins c ns vs)
inductive Reps (T : Tx0) (io : Io) (G : Hp) : List V → List D → Prop
  | nil : Reps T io G [] []
  | cons {v : V} {vs : List V} {d : D} {ds : List D} : Rep T io G v d → Reps T io G vs ds → Reps T io G (v :: vs) (d :: ds)
end

/-- one heap within another -/
def Le (G G' : Hp) : Prop := ∀ a o, G a = some o → G' a = some o
theorem Le.refl (G : Hp) : Le G G := fun _ _ h => h
theorem Le.trans {A B C : Hp} (h : Le A B) (k : Le B C) : Le A C := fun a o q => k a o (h a o q)
theorem Le.rd {G G' : Hp} (h : Le G G') {a : Addr} {u : HO} (r : Rd G a u) : Rd G' a u := by
  rcases r with r | ⟨o, r⟩
  · exact .inl (h _ _ r)
  · exact .inr ⟨o, h _ _ r⟩
theorem Le.sqL {G G' : Hp} (h : Le G G') {K : PySem.W.Frag} {a : Addr} {xs : List V} (r : SqL K G a xs) : SqL K G' a xs := by
  rcases r with r | r
  · exact .inl (h.rd r)
  · exact .inr r
theorem Le.sqT {G G' : Hp} (h : Le G G') {K : PySem.W.Frag} {a : Addr} {xs : List V} (r : SqT K G a xs) : SqT K G' a xs := by
  rcases r with r | r
  · exact .inl (h.rd r)
  · exact .inr r
mutual
theorem Rep.mono {T : Tx0} {io io' : Io} {G G' : Hp} (hi : io.Le io') (h : Le G G') : ∀ {v : V} {d : D}, Rep T io G v d → Rep T io' G' v d
  | _, _, .non => .non
  | _, _, .bl b => .bl b
  | _, _, .int i => .int i
  | _, _, .str x => .str x
  | _, _, .lst s r => .lst (h.sqL s) (Reps.mono hi h r)
  | _, _, .tup s r => .tup (h.sqT s) (Reps.mono hi h r)
  | _, _, .box n hn => by rw [← hi.2 n hn]; exact .box n (Nat.lt_of_lt_of_le hn hi.1)
  | _, _, .dic s l nd r => .dic (h.rd s) l nd (Reps.mono hi h r)
  | _, _, .kd k a b c => .kd k a (fun z d e => Rep.mono hi h (b z d e)) c
  | _, _, .ins e1 e2 l r => .ins (h _ _ e1) (h _ _ e2) l (Reps.mono hi h r)
theorem Reps.mono {T : Tx0} {io io' : Io} {G G' : Hp} (hi : io.Le io') (h : Le G G') : ∀ {v : List V} {d : List D}, Reps T io G v d → Reps T io' G' v d
  | _, _, .nil => .nil
  | _, _, .cons a r => .cons (Rep.mono hi h a) (Reps.mono hi h r)
end
theorem Rep.up {T : Tx0} {io : Io} {G G' : Hp} (h : Le G G') {v : V} {d : D} (r : Rep T io G v d) : Rep T io G' v d := r.mono (Io.Le.refl _) h
theorem Reps.up {T : Tx0} {io : Io} {G G' : Hp} (h : Le G G') {v : List V} {d : List D} (r : Reps T io G v d) : Reps T io G' v d := r.mono (Io.Le.refl _) h
theorem Reps.length {T : Tx0} {io : Io} {G : Hp} : ∀ {vs : List V} {ds : List D}, Reps T io G vs ds → vs.length = ds.length
  | _, _, .nil => rfl
  | _, _, .cons _ r => by simp [Reps.length r]
theorem Reps.get {T : Tx0} {io : Io} {G : Hp} : ∀ {vs : List V} {ds : List D} {i : Nat} {d : D}, Reps T io G vs ds → ds[i]? = some d → ∃ v, vs[i]? = some v ∧ Rep T io G v d
  | _, _, _, _, .nil, h => by simp at h
  | _, _, 0, _, .cons a _, h => by simp at h; subst h; exact ⟨_, rfl, a⟩
  | _, _, i + 1, _, .cons _ r, h => by
    obtain ⟨v, e, q⟩ := Reps.get (i := i) r (by simpa using h)
    exact ⟨v, by simpa using e, q⟩
theorem Reps.get' {T : Tx0} {io : Io} {G : Hp} : ∀ {vs : List V} {ds : List D} {i : Nat} {v : V}, Reps T io G vs ds → vs[i]? = some v → ∃ d, ds[i]? = some d ∧ Rep T io G v d
  | _, _, _, _, .nil, h => by simp at h
  | _, _, 0, _, .cons a _, h => by simp at h; subst h; exact ⟨_, rfl, a⟩
  | _, _, i + 1, _, .cons _ r, h => by
    obtain ⟨v, e, q⟩ := Reps.get' (i := i) r (by simpa using h)
    exact ⟨v, by simpa using e, q⟩
theorem Reps.append {T : Tx0} {io : Io} {G : Hp} : ∀ {vs us : List V} {ds es : List D}, Reps T io G vs ds → Reps T io G us es → Reps T io G (vs ++ us) (ds ++ es)
  | _, _, _, _, .nil, s => s
  | _, _, _, _, .cons a r, s => .cons a (Reps.append r s)
theorem Reps.one {T : Tx0} {io : Io} {G : Hp} {v : V} {d : D} (r : Rep T io G v d) : Reps T io G [v] [d] := .cons r .nil
theorem Reps.set {T : Tx0} {io : Io} {G : Hp} {v : V} {d : D} (q : Rep T io G v d) : ∀ {vs : List V} {ds : List D} (i : Nat), Reps T io G vs ds → Reps T io G (vs.set i v) (ds.set i d)
  | _, _, _, .nil => .nil
  | _, _, 0, .cons _ r => .cons q r
  | _, _, i + 1, .cons a r => .cons a (Reps.set q i r)
theorem Reps.take {T : Tx0} {io : Io} {G : Hp} : ∀ {vs : List V} {ds : List D} (n : Nat), Reps T io G vs ds → Reps T io G (vs.take n) (ds.take n)
  | _, _, 0, _ => .nil
  | _, _, _ + 1, .nil => .nil
  | _, _, n + 1, .cons a r => .cons a (Reps.take n r)
theorem Reps.drop {T : Tx0} {io : Io} {G : Hp} : ∀ {vs : List V} {ds : List D} (n : Nat), Reps T io G vs ds → Reps T io G (vs.drop n) (ds.drop n)
  | _, _, 0, r => r
  | _, _, _ + 1, .nil => .nil
  | _, _, n + 1, .cons _ r => Reps.drop n r
theorem Reps.eraseIdx {T : Tx0} {io : Io} {G : Hp} : ∀ {vs : List V} {ds : List D} (n : Nat), Reps T io G vs ds → Reps T io G (vs.eraseIdx n) (ds.eraseIdx n)
  | _, _, _, .nil => .nil
  | _, _, 0, .cons _ r => r
  | _, _, n + 1, .cons a r => .cons a (Reps.eraseIdx n r)
theorem Reps.reverse {T : Tx0} {io : Io} {G : Hp} : ∀ {vs : List V} {ds : List D}, Reps T io G vs ds → Reps T io G vs.reverse ds.reverse
  | _, _, .nil => .nil
  | _, _, .cons a r => by simpa using (Reps.reverse r).append (.one a)
theorem Reps.ints {T : Tx0} {io : Io} {G : Hp} : ∀ ns : List Int, Reps T io G (ns.map V.int) (ns.map D.int)
  | [] => .nil
  | n :: ns => .cons (.int n) (Reps.ints ns)

/-! ### slots, states -/
inductive Sl where
  | un
  /-- a shared datum -/
  | sh (d : D)
  /-- a list of one's own: it may be changed -/
  | ow (xs : List D)
  /-- the closure that was handed in -/
  | th
  /-- a dict of one's own: it may be changed -/
  | od (ks : List Key) (ds : List D)
structure Sx where
  env : List Sl
  sto : List (List D)
/-- the ghosts: where boxes stand, the shared heap, what is one's own (owned lists, boxes) -/
structure Gh where
  io : Io
  G : Hp
  U : Addr → Prop

/-- the table at P: the code objects that it tells are shared, and bear the name q -/
def TabG (G H : Hp) (P : Addr) (q : Str) : Prop := ∃ ps : Array Value, H P = some (.tbl ps) ∧ TriplesOk ps.toList ∧ ∀ (pos : Pos) (cv : Value), codeAmong pos ps.toList = some cv → ∃ c, cv = .ref c ∧ G c = some (LamX.CodeO c q)
theorem TabG.ext {G G' H H' : Hp} {P : Addr} {q : Str} (t : TabG G H P q) (g : Le G G') (e : ∀ b o, H b = some o → H' b = some o) : TabG G' H' P q := by
  obtain ⟨ps, h1, h2, h3⟩ := t
  refine ⟨ps, e _ _ h1, h2, fun pos cv hc => ?_⟩
  obtain ⟨c, e1, e2⟩ := h3 pos cv hc
  exact ⟨c, e1, g _ _ e2⟩
/-- the boxes stand -/
structure Bx (T : Tx) (x : Gh) (sto : List (List D)) (H : Hp) : Prop where
  n : x.io.n = sto.length
  at_ : ∀ (i : Nat) (xs : List D), sto[i]? = some xs → ∃ vs, H (x.io.f i) = some (.lst vs) ∧ Reps T x.io x.G vs xs
  inU : ∀ i, i < sto.length → x.U (x.io.f i)
  inj : ∀ i j, i < sto.length → j < sto.length → x.io.f i = x.io.f j → i = j
  sub : Le x.G H
  off : ∀ a o, x.G a = some o → ¬ x.U a
  trk : ∀ a, x.U a → ∃ o, H a = some o
  tab : ∀ p ∈ T.tb, x.U p.1 ∧ TabG x.G H p.1 p.2
  lo : T.io0.Le x.io ∧ Le T.G0 x.G
theorem tabS_lst {G H : Hp} {a P : Addr} {q : Str} {vs : List V} {o : HO} (h : H a = some (.lst vs)) (t : TabG G H P q) : TabG G (L2.upd H a o) P q := by
  obtain ⟨ps, h1, h2, h3⟩ := t
  exact ⟨ps, by rw [upd_ne (fun z => by rw [z, h] at h1; cases h1)]; exact h1, h2, h3⟩
/-- the dicts of one's own stand -/
structure OdOk (T : Tx) (x : Gh) (s : Sx) (σ : L2.St) (H : Hp) : Prop where
  at_ : ∀ (i : Nat) (ks : List Key) (ds : List D), s.env[i]? = some (.od ks ds) → ∃ a vs, σ[i]? = some (some (.ref a)) ∧ H a = some (.dK (ks.zip vs)) ∧ ks.length = ds.length ∧ ks.Nodup ∧ Reps T x.io x.G vs ds ∧ x.U a
  inj : ∀ (i j : Nat) (ks ls : List Key) (ds es : List D) (a : Addr), s.env[i]? = some (.od ks ds) → s.env[j]? = some (.od ls es) → σ[i]? = some (some (.ref a)) → σ[j]? = some (some (.ref a)) → i = j
theorem OdOk.of {T : Tx} {x x' : Gh} {s s' : Sx} {σ σ' : L2.St} {H H' : Hp} (k : OdOk T x s σ H) (io : x.io.Le x'.io) (le : Le x.G x'.G) (env : ∀ (i : Nat) (ks : List Key) (ds : List D), s'.env[i]? = some (.od ks ds) → s.env[i]? = some (.od ks ds) ∧ σ'[i]? = σ[i]?)
    (h : ∀ (a : Addr) (kvs : List (Key × V)), H a = some (.dK kvs) → x.U a → H' a = some (.dK kvs) ∧ x'.U a) : OdOk T x' s' σ' H' where
  at_ := fun i ks ds e => by
    obtain ⟨e1, e2⟩ := env i ks ds e
    obtain ⟨a, vs, h1, h2, h3, h4, h5, h6⟩ := k.at_ i ks ds e1
    exact ⟨a, vs, by rw [e2]; exact h1, (h a _ h2 h6).1, h3, h4, h5.mono io le, (h a _ h2 h6).2⟩
  inj := fun i j ks ls ds es a e1 e2 e3 e4 => by
    obtain ⟨f1, g1⟩ := env i ks ds e1
    obtain ⟨f2, g2⟩ := env j ls es e2
    exact k.inj i j ks ls ds es a f1 f2 (by rw [← g1]; exact e3) (by rw [← g2]; exact e4)
theorem set_od {l : List Sl} {i j : Nat} {z : Sl} {ks : List Key} {ds : List D} (hz : ∀ ks ds, z ≠ .od ks ds) (e : (l.set i z)[j]? = some (.od ks ds)) : i ≠ j ∧ l[j]? = some (.od ks ds) := by
  by_cases hj : i = j
  · subst hj
    have hl : i < l.length := by simpa using (List.getElem?_eq_some_iff.mp e).1
    rw [List.getElem?_set_self hl] at e
    cases e
    exact absurd rfl (hz _ _)
  · rw [List.getElem?_set_ne hj] at e
    exact ⟨hj, e⟩
theorem set_od_sh {l : List Sl} {i j : Nat} {d : D} {ks : List Key} {ds : List D} (e : (l.set i (.sh d))[j]? = some (.od ks ds)) : i ≠ j ∧ l[j]? = some (.od ks ds) := set_od (fun _ _ q => by cases q) e
theorem set_od_ow {l : List Sl} {i j : Nat} {xs : List D} {ks : List Key} {ds : List D} (e : (l.set i (.ow xs))[j]? = some (.od ks ds)) : i ≠ j ∧ l[j]? = some (.od ks ds) := set_od (fun _ _ q => by cases q) e
theorem set_od_un {l : List Sl} {i j : Nat} {ks : List Key} {ds : List D} (e : (l.set i .un)[j]? = some (.od ks ds)) : i ≠ j ∧ l[j]? = some (.od ks ds) := set_od (fun _ _ q => by cases q) e
theorem OdOk.non {T : Tx} {x : Gh} {s : Sx} {σ : L2.St} {H : Hp} (h : ∀ (i : Nat) (ks : List Key) (ds : List D), s.env[i]? = some (.od ks ds) → False) : OdOk T x s σ H :=
  ⟨fun i ks ds e => (h i ks ds e).elim, fun i j ks ls ds es a e _ _ _ => (h i ks ds e).elim⟩
/-- the slots stand -/
structure Ok (T : Tx) (x : Gh) (s : Sx) (σ : L2.St) (H : Hp) : Prop where
  bx : Bx T x s.sto H
  len : s.env.length = σ.length
  sh : ∀ (i : Nat) (d : D), s.env[i]? = some (.sh d) → ∃ v, σ[i]? = some (some v) ∧ Rep T x.io x.G v d
  ow : ∀ (i : Nat) (xs : List D), s.env[i]? = some (.ow xs) → ∃ a vs, σ[i]? = some (some (.ref a)) ∧ H a = some (.lst vs) ∧ Reps T x.io x.G vs xs ∧ x.U a ∧ ∀ j, j < s.sto.length → a ≠ x.io.f j
  owi : ∀ (i j : Nat) (xs ys : List D) (a : Addr), s.env[i]? = some (.ow xs) → s.env[j]? = some (.ow ys) → σ[i]? = some (some (.ref a)) → σ[j]? = some (some (.ref a)) → i = j
  th : ∀ i : Nat, s.env[i]? = some .th → σ[i]? = some (some (.ref T.clo))
  od : OdOk T x s σ H

/-- from one state to a later one -/
structure Stp (x : Gh) (H : Hp) (x' : Gh) (H' : Hp) : Prop where
  io : x.io.Le x'.io
  le : Le x.G x'.G
  fr : ∀ a o, H a = some o → ¬ x.U a → H' a = some o
  new : ∀ a o, x'.G a = some o → x.G a = some o ∨ x.U a ∨ H a = none
  un : ∀ a, x'.U a → x.U a ∨ H a = none
  th : ∀ a, H' a = none → H a = none
theorem Stp.refl (x : Gh) (H : Hp) : Stp x H x H := ⟨.refl _, .refl _, fun _ _ h _ => h, fun _ _ h => .inl h, fun _ h => .inl h, fun _ h => h⟩
theorem Stp.trans {x y z : Gh} {H H1 H2 : Hp} (h : Stp x H y H1) (k : Stp y H1 z H2) : Stp x H z H2 where
  io := h.io.trans k.io
  le := h.le.trans k.le
  fr := fun a o e n => k.fr a o (h.fr a o e n) fun u => (h.un a u).elim n fun z => by rw [e] at z; cases z
  new := fun a o e => by
    rcases k.new a o e with q | q | q
    · exact h.new a o q
    · rcases h.un a q with r | r
      · exact .inr (.inl r)
      · exact .inr (.inr r)
    · exact .inr (.inr (h.th a q))
  un := fun a u => by
    rcases k.un a u with q | q
    · exact h.un a q
    · exact .inr (h.th a q)
  th := fun a e => h.th a (k.th a e)

/-- the shared heap grows by new things alone -/
structure Grow (G H G' H' : Hp) : Prop where
  g : Le G G'
  h : Le H H'
  sub : Le G' H'
  new : ∀ a o, G' a = some o → G a = some o ∨ H a = none
theorem Grow.refl {G H : Hp} (h : Le G H) : Grow G H G H := ⟨.refl _, .refl _, h, fun _ _ q => .inl q⟩
theorem Le.upd {H : Hp} {p : Addr} {o : HO} (h : H p = none) : Le H (upd H p o) := fun a u e => by rw [upd_ne (ne_of_none e h)]; exact e
theorem Le.none {G H : Hp} (h : Le G H) {p : Addr} (hp : H p = none) : G p = none := by
  cases e : G p with
  | none => rfl
  | some u => rw [h _ _ e] at hp; cases hp
theorem Grow.one {G H : Hp} {p : Addr} {o : HO} (h : Le G H) (hp : H p = none) : Grow G H (L2.upd G p o) (L2.upd H p o) := by
  have gp := h.none hp
  refine ⟨.upd gp, .upd hp, fun a u e => ?_, fun a u e => ?_⟩
  · by_cases q : a = p
    · subst q; rw [upd_same] at e ⊢; exact e
    · rw [upd_ne q] at e ⊢; exact h _ _ e
  · by_cases q : a = p
    · subst q; exact .inr hp
    · rw [upd_ne q] at e; exact .inl e
theorem Grow.trans {G H G1 H1 G2 H2 : Hp} (a : Grow G H G1 H1) (b : Grow G1 H1 G2 H2) : Grow G H G2 H2 :=
  ⟨a.g.trans b.g, a.h.trans b.h, b.sub, fun c o e => by
    rcases b.new c o e with q | q
    · exact a.new c o q
    · exact .inr (a.h.none q)⟩
theorem Grow.stp {x : Gh} {H G' H' : Hp} (g : Grow x.G H G' H') : Stp x H { x with G := G' } H' :=
  ⟨.refl _, g.g, fun a o e _ => g.h a o e, fun a o e => (g.new a o e).elim .inl fun z => .inr (.inr z), fun _ u => .inl u, fun a e => g.h.none e⟩
theorem Bx.grow {T : Tx} {x : Gh} {sto : List (List D)} {H G' H' : Hp} (b : Bx T x sto H) (g : Grow x.G H G' H') : Bx T { x with G := G' } sto H' where
  n := b.n
  at_ := fun i xs e => by
    obtain ⟨vs, h, r⟩ := b.at_ i xs e
    exact ⟨vs, g.h _ _ h, r.up g.g⟩
  inU := b.inU
  inj := b.inj
  sub := g.sub
  off := fun a o e u => by
    rcases g.new a o e with q | q
    · exact b.off a o q u
    · obtain ⟨o', z⟩ := b.trk a u
      rw [q] at z; cases z
  trk := fun a u => by
    obtain ⟨o, z⟩ := b.trk a u
    exact ⟨o, g.h _ _ z⟩
  tab := fun p hp => ⟨(b.tab p hp).1, (b.tab p hp).2.ext g.g g.h⟩
  lo := ⟨b.lo.1, b.lo.2.trans g.g⟩
theorem Ok.grow {T : Tx} {x : Gh} {s : Sx} {σ : L2.St} {H G' H' : Hp} (k : Ok T x s σ H) (g : Grow x.G H G' H') : Ok T { x with G := G' } s σ H' where
  bx := k.bx.grow g
  len := k.len
  sh := fun i d e => by
    obtain ⟨v, h, r⟩ := k.sh i d e
    exact ⟨v, h, r.up g.g⟩
  ow := fun i xs e => by
    obtain ⟨a, vs, h1, h2, r, u, z⟩ := k.ow i xs e
    exact ⟨a, vs, h1, g.h _ _ h2, r.up g.g, u, z⟩
  owi := k.owi
  th := k.th
  od := k.od.of (.refl _) g.g (fun _ _ _ e => ⟨e, rfl⟩) fun a kvs e u => ⟨g.h _ _ e, u⟩

/-! ### what a piece of code makes of a state -/
inductive R (α : Type) where
  | ok (a : α) (s : Sx)
  | exc (c : Str) (ns : List Str) (vs : List D) (sto : List (List D))
  | bad
abbrev M (α : Type) := Sx → R α
def M.pure {α : Type} (a : α) : M α := fun s => .ok a s
def M.bind {α β : Type} (m : M α) (f : α → M β) : M β := fun s => match m s with
  | .ok a s' => f a s'
  | .exc c ns vs sto => .exc c ns vs sto
  | .bad => .bad
def M.lift {α : Type} (o : Option α) : M α := fun s => match o with
  | some a => .ok a s
  | none => .bad
instance : Monad M where
  pure := M.pure
  bind := M.bind

/-- an exception's dict, new since H: nobody's own, not shared -/
structure XD (T : Tx) (x' : Gh) (H H' : Hp) (dd : Addr) (ns : List Str) (us : List V) (vs : List D) : Prop where
  at_ : H' dd = some (.xd (ns.zip us))
  hl : ns.length = us.length
  rs : Reps T x'.io x'.G us vs
  new : H dd = none
  nu : ¬ x'.U dd
  ng : x'.G dd = none
/-- what is wanted of an exception of the class c with these fields -/
def XP (T : Tx) (W : WX) (x : Gh) (σ : L2.St) (H : Hp) (c : Str) (ns : List Str) (vs : List D) (sto : List (List D)) : Prop :=
  ∀ (x' : Gh) (dd : Addr) (us : List V) (H' : Hp), Bx T x' sto H' → Stp x H x' H' → XD T x' H H' dd ns us vs → W (.ref (T.ca c)) (some dd) σ H'

/-- the reading of an expression: a shared datum -/
def tD (T : Tx) (W : WX) (m : M D) : TE := fun σ H Q => ∃ (x : Gh) (s : Sx), Ok T x s σ H ∧ match m s with
  | .ok d s' => ∀ x' v H', Ok T x' s' σ H' → Stp x H x' H' → Rep T x'.io x'.G v d → Q v H'
  | .exc c ns vs sto => XP T W x σ H c ns vs sto
  | .bad => False
/-- .. of a test -/
def tB (T : Tx) (W : WX) (m : M Bool) : TT := fun σ H Q => ∃ (x : Gh) (s : Sx), Ok T x s σ H ∧ match m s with
  | .ok b s' => ∀ x' H', Ok T x' s' σ H' → Stp x H x' H' → Q b H'
  | .exc c ns vs sto => XP T W x σ H c ns vs sto
  | .bad => False
/-- .. of arguments -/
def tDs (T : Tx) (W : WX) (m : M (List D)) : TA := fun σ H Q => ∃ (x : Gh) (s : Sx), Ok T x s σ H ∧ match m s with
  | .ok ds s' => ∀ x' vs H', Ok T x' s' σ H' → Stp x H x' H' → Reps T x'.io x'.G vs ds → Q vs H'
  | .exc c ns vs sto => XP T W x σ H c ns vs sto
  | .bad => False
/-- a list of one's own, at a -/
structure Own (T : Tx) (x : Gh) (s : Sx) (σ : L2.St) (H : Hp) (a : Addr) (xs : List D) : Prop where
  u : x.U a
  l : ∃ vs, H a = some (.lst vs) ∧ Reps T x.io x.G vs xs
  b : ∀ j, j < s.sto.length → a ≠ x.io.f j
  o : ∀ (i : Nat) (ys : List D), s.env[i]? = some (.ow ys) → σ[i]? ≠ some (some (.ref a))
/-- .. of an expression that makes a list of one's own -/
def tF (T : Tx) (W : WX) (m : M (List D)) : TE := fun σ H Q => ∃ (x : Gh) (s : Sx), Ok T x s σ H ∧ match m s with
  | .ok xs s' => ∀ x' a H', Ok T x' s' σ H' → Stp x H x' H' → Own T x' s' σ H' a xs → Q (.ref a) H'
  | .exc c ns vs sto => XP T W x σ H c ns vs sto
  | .bad => False

/-- what a statement makes -/
inductive RS where
  | nx (s : Sx) | bk (s : Sx) | ct (s : Sx)
  | rt (d : D) (sto : List (List D))
  /-- a list of one's own is handed back -/
  | ro (xs : List D) (sto : List (List D))
  | exc (c : Str) (ns : List Str) (vs : List D) (sto : List (List D))
  | bad
abbrev MS := Sx → RS
def tS (T : Tx) (W : WX) (m : MS) : TS := fun E σ H => ∃ (x : Gh) (s : Sx), Ok T x s σ H ∧ match m s with
  | .nx s' => ∀ x' σ' H', Ok T x' s' σ' H' → Stp x H x' H' → E.nx σ' H'
  | .bk s' => ∀ x' σ' H', Ok T x' s' σ' H' → Stp x H x' H' → E.bk σ' H'
  | .ct s' => ∀ x' σ' H', Ok T x' s' σ' H' → Stp x H x' H' → E.ct σ' H'
  | .rt d sto => ∀ x' v H', Bx T x' sto H' → Stp x H x' H' → Rep T x'.io x'.G v d → E.rt v H'
  | .ro xs sto => ∀ x' a H', Bx T x' sto H' → Stp x H x' H' → Own T x' ⟨[], sto⟩ [] H' a xs → E.rt (.ref a) H'
  | .exc c ns vs sto => ∀ σ', XP T W x σ' H c ns vs sto
  | .bad => False

/-! ### weakening -/
theorem PE.imp {X : Cx} {e : Expr} {t t' : TE} (h : PE X e t) (k : ∀ σ H Q, t' σ H Q → t σ H Q) : PE X e t' := ⟨fun pins s σ H Q I q => h.run pins s σ H Q I (k σ H Q q)⟩
theorem PT.imp {X : Cx} {e : Expr} {t t' : TT} (h : PT X e t) (k : ∀ σ H Q, t' σ H Q → t σ H Q) : PT X e t' := ⟨fun pins s σ H Q I q => h.run pins s σ H Q I (k σ H Q q)⟩
theorem PW.imp {X : Cx} {e : Expr} {t t' : TT} (h : PW X e t) (k : ∀ σ H Q, t' σ H Q → t σ H Q) : PW X e t' := ⟨fun wh pins s σ H Q I q => h.run wh pins s σ H Q I (k σ H Q q)⟩
theorem PA.imp {X : Cx} {es : List Expr} {t t' : TA} (h : PA X es t) (k : ∀ σ H Q, t' σ H Q → t σ H Q) : PA X es t' := ⟨fun pos pins s σ H Q I q => h.run pos pins s σ H Q I (k σ H Q q)⟩
theorem PS.imp {X : Cx} {st : Stmt} {t t' : TS} (h : PS X st t) (k : ∀ D σ H, t' D σ H → t D σ H) : PS X st t' := ⟨fun pins s σ H D I q => h.run pins s σ H D I (k D σ H q)⟩
theorem PSs.imp {X : Cx} {st : List Stmt} {t t' : TS} (h : PSs X st t) (k : ∀ D σ H, t' D σ H → t D σ H) : PSs X st t' := ⟨fun pins s σ H D I q => h.run pins s σ H D I (k D σ H q)⟩

theorem XP.back {T : Tx} {W : WX} {x y : Gh} {σ : L2.St} {H H1 : Hp} {c : Str} {ns : List Str} {vs : List D} {sto : List (List D)} (h : XP T W x σ H c ns vs sto) (k : Stp x H y H1) : XP T W y σ H1 c ns vs sto :=
  fun x' dd us H' b st e => h x' dd us H' b (k.trans st) ⟨e.at_, e.hl, e.rs, k.th dd e.new, e.nu, e.ng⟩

/-- one piece, then another -/
theorem tD.bind {α : Type} {T : Tx} {W : WX} {m : M D} {f : D → M α} {σ : L2.St} {H : Hp} {P : VK} {x : Gh} {s : Sx} (k : Ok T x s σ H) {R1 : R α → Prop}
    (h : match (M.bind m f) s with | .exc c ns vs sto => XP T W x σ H c ns vs sto | .bad => False | r => R1 r)
    (next : ∀ d s' x' v H', m s = .ok d s' → Ok T x' s' σ H' → Stp x H x' H' → Rep T x'.io x'.G v d → (match f d s' with | .exc c ns vs sto => XP T W x σ H c ns vs sto | .bad => False | r => R1 r) → P v H') : tD T W m σ H P := by
  refine ⟨x, s, k, ?_⟩
  unfold M.bind at h
  cases e : m s with
  | ok d s' =>
    rw [e] at h
    exact fun x' v H' k' st r => next d s' x' v H' e k' st r h
  | exc c ns vs sto => rw [e] at h; exact h
  | bad => rw [e] at h; exact h
end Ev

/-! E1: names, constants, operators, tests, arguments, displays, calls. -/
namespace Ev
open PySem PySem.Spec L2
section
variable {T : Tx} {x : Gh} {s : Sx} {σ : L2.St} {H : Hp}
/-- what is one's own is shared from now on -/
theorem share_gh (b : Bx T x s.sto H) {a : Addr} {vs : List V} {xs : List D} (u : x.U a) (h : H a = some (.lst vs)) (r : Reps T x.io x.G vs xs) (nb : ∀ j, j < s.sto.length → a ≠ x.io.f j) :
    ∃ x' : Gh, x'.io = x.io ∧ x'.G = upd x.G a (.lst vs) ∧ (∀ c, x'.U c ↔ x.U c ∧ c ≠ a) ∧ Le x.G x'.G ∧ Bx T x' s.sto H ∧ Stp x H x' H ∧ Rep T x'.io x'.G (.ref a) (.lst xs) := by
  have gn : x.G a = none := by
    cases e : x.G a with
    | none => rfl
    | some o => exact absurd u (b.off a o e)
  have le : Le x.G (upd x.G a (.lst vs)) := Le.upd gn
  refine ⟨⟨x.io, upd x.G a (.lst vs), fun c => x.U c ∧ c ≠ a⟩, rfl, rfl, fun _ => Iff.rfl, le, ?_, ?_, ?_⟩
  · refine ⟨b.n, fun i ys e => ?_, fun i hi => ⟨b.inU i hi, fun z => nb i hi z.symm⟩, b.inj, fun c o e => ?_, fun c o e z => ?_, fun c z => b.trk c z.1, fun p hp => ⟨⟨(b.tab p hp).1, fun z => by
      obtain ⟨ps, e1, _⟩ := (b.tab p hp).2
      rw [z, h] at e1; cases e1⟩, (b.tab p hp).2.ext le fun _ _ e => e⟩, ⟨b.lo.1, b.lo.2.trans le⟩⟩
    · obtain ⟨us, e1, r1⟩ := b.at_ i ys e
      exact ⟨us, e1, r1.up le⟩
    · have e : upd x.G a (.lst vs) c = some o := e
      by_cases q : c = a
      · subst q; rw [upd_same] at e; cases e; exact h
      · rw [upd_ne q] at e; exact b.sub c o e
    · have e : upd x.G a (.lst vs) c = some o := e
      by_cases q : c = a
      · exact z.2 q
      · rw [upd_ne q] at e; exact b.off c o e z.1
  · refine ⟨.refl _, le, fun _ _ e _ => e, fun c o e => ?_, fun c z => .inl z.1, fun _ e => e⟩
    have e : upd x.G a (.lst vs) c = some o := e
    by_cases q : c = a
    · subst q; exact .inr (.inl u)
    · rw [upd_ne q] at e; exact .inl e
  · exact .lst (.inl (.inl upd_same)) (r.up le)
/-- a slot's list is shared -/
theorem Ok.share (k : Ok T x s σ H) {i : Nat} {xs : List D} (e : s.env[i]? = some (.ow xs)) :
    ∃ (x' : Gh) (a : Addr), σ[i]? = some (some (.ref a)) ∧ Ok T x' { s with env := s.env.set i (.sh (.lst xs)) } σ H ∧ Stp x H x' H ∧ Rep T x'.io x'.G (.ref a) (.lst xs) := by
  obtain ⟨a, vs, h1, h2, r, u, nb⟩ := k.ow i xs e
  obtain ⟨x', e1, e2, e3, le, b', st, rp⟩ := share_gh k.bx u h2 r nb
  refine ⟨x', a, h1, ⟨b', by simpa using k.len, fun j d q => ?_, fun j ys q => ?_, fun j l ys zs c q1 q2 => ?_, fun j q => ?_, k.od.of (by rw [e1]; exact .refl _) le (fun j ks ds q => ⟨(set_od_sh q).2, rfl⟩) fun c kvs q u' => ⟨q, (e3 c).mpr ⟨u', fun hc => by subst hc; rw [h2] at q; cases q⟩⟩⟩, st, rp⟩
  · have q : (s.env.set i (.sh (.lst xs)))[j]? = some (.sh d) := q
    by_cases hj : i = j
    · subst hj
      have hl : i < s.env.length := (List.getElem?_eq_some_iff.mp e).1
      rw [List.getElem?_set_self hl] at q
      cases q
      exact ⟨_, h1, rp⟩
    · rw [List.getElem?_set_ne hj] at q
      obtain ⟨v, z, r'⟩ := k.sh j d q
      exact ⟨v, z, by rw [e1]; exact r'.up le⟩
  · have q : (s.env.set i (.sh (.lst xs)))[j]? = some (.ow ys) := q
    by_cases hj : i = j
    · subst hj
      have hl : i < s.env.length := (List.getElem?_eq_some_iff.mp e).1
      rw [List.getElem?_set_self hl] at q
      cases q
    · rw [List.getElem?_set_ne hj] at q
      obtain ⟨c, us, z1, z2, r', u', nb'⟩ := k.ow j ys q
      refine ⟨c, us, z1, z2, by rw [e1]; exact r'.up le, (e3 c).mpr ⟨u', fun hc => ?_⟩, by rw [e1]; exact nb'⟩
      subst hc
      exact hj (k.owi i j xs ys c e q h1 z1)
  · have q1 : (s.env.set i (.sh (.lst xs)))[j]? = some (.ow ys) := q1
    have q2 : (s.env.set i (.sh (.lst xs)))[l]? = some (.ow zs) := q2
    have hl : i < s.env.length := (List.getElem?_eq_some_iff.mp e).1
    have hj : i ≠ j := by rintro rfl; rw [List.getElem?_set_self hl] at q1; cases q1
    have hk : i ≠ l := by rintro rfl; rw [List.getElem?_set_self hl] at q2; cases q2
    rw [List.getElem?_set_ne hj] at q1
    rw [List.getElem?_set_ne hk] at q2
    exact k.owi j l ys zs c q1 q2
  · have q : (s.env.set i (.sh (.lst xs)))[j]? = some .th := q
    have hl : i < s.env.length := (List.getElem?_eq_some_iff.mp e).1
    have hj : i ≠ j := by rintro rfl; rw [List.getElem?_set_self hl] at q; cases q
    rw [List.getElem?_set_ne hj] at q
    exact k.th j q
/-- a list of one's own, in no slot, is shared -/
theorem Own.share {a : Addr} {xs : List D} (k : Ok T x s σ H) (o : Own T x s σ H a xs) : ∃ x' : Gh, Ok T x' s σ H ∧ Stp x H x' H ∧ Rep T x'.io x'.G (.ref a) (.lst xs) := by
  obtain ⟨vs, h2, r⟩ := o.l
  obtain ⟨x', e1, e2, e3, le, b', st, rp⟩ := share_gh k.bx o.u h2 r o.b
  refine ⟨x', ⟨b', k.len, fun j d q => ?_, fun j ys q => ?_, k.owi, k.th, k.od.of (by rw [e1]; exact .refl _) le (fun j ks ds q => ⟨q, rfl⟩) fun c kvs q u' => ⟨q, (e3 c).mpr ⟨u', fun hc => by subst hc; rw [h2] at q; cases q⟩⟩⟩, st, rp⟩
  · obtain ⟨v, z, r'⟩ := k.sh j d q
    exact ⟨v, z, by rw [e1]; exact r'.up le⟩
  · obtain ⟨c, us, z1, z2, r', u', nb'⟩ := k.ow j ys q
    refine ⟨c, us, z1, z2, by rw [e1]; exact r'.up le, (e3 c).mpr ⟨u', fun hc => ?_⟩, by rw [e1]; exact nb'⟩
    subst hc
    exact o.o j ys q z1
theorem bx_share {a : Addr} {xs : List D} {sto : List (List D)} (b : Bx T x sto H) (o : Own T x ⟨[], sto⟩ [] H a xs) : ∃ x' : Gh, Bx T x' sto H ∧ Stp x H x' H ∧ Rep T x'.io x'.G (.ref a) (.lst xs) := by
  obtain ⟨vs, h2, r⟩ := o.l
  obtain ⟨x', e1, e2, e3, le, b', st, rp⟩ := share_gh (s := ⟨[], sto⟩) b o.u h2 r o.b
  exact ⟨x', b', st, rp⟩
/-- a new list of one's own is laid -/
theorem Ok.lay (k : Ok T x s σ H) {p : Addr} {vs : List V} {xs : List D} (hp : H p = none) (r : Reps T x.io x.G vs xs) :
    ∃ x' : Gh, x'.io = x.io ∧ x'.G = x.G ∧ Ok T x' s σ (upd H p (.lst vs)) ∧ Stp x H x' (upd H p (.lst vs)) ∧ Own T x' s σ (upd H p (.lst vs)) p xs := by
  have lu : Le H (upd H p (.lst vs)) := Le.upd hp
  have gp := k.bx.sub.none hp
  have nb : ∀ j, j < s.sto.length → p ≠ x.io.f j := fun j hj z => by
    obtain ⟨o, e⟩ := k.bx.trk _ (k.bx.inU j hj)
    rw [← z, hp] at e; cases e
  refine ⟨⟨x.io, x.G, fun c => x.U c ∨ c = p⟩, rfl, rfl, ⟨⟨k.bx.n, fun i ys e => ?_, fun i hi => .inl (k.bx.inU i hi), k.bx.inj, k.bx.sub.trans lu, fun c o e z => ?_, fun c z => ?_, fun q hq => ⟨.inl (k.bx.tab q hq).1, (k.bx.tab q hq).2.ext (.refl _) lu⟩, k.bx.lo⟩, k.len, k.sh, fun i ys e => ?_, k.owi, k.th, k.od.of (.refl _) (.refl _) (fun _ _ _ e => ⟨e, rfl⟩) fun c kvs e u => ⟨lu _ _ e, .inl u⟩⟩, ⟨.refl _, .refl _, fun c o e _ => lu c o e, fun c o e => .inl e, fun c z => ?_, fun c e => lu.none e⟩, ⟨.inr rfl, ⟨vs, upd_same, r⟩, nb, fun i ys e z => ?_⟩⟩
  · obtain ⟨us, e1, r1⟩ := k.bx.at_ i ys e
    exact ⟨us, lu _ _ e1, r1⟩
  · rcases z with z | z
    · exact k.bx.off c o e z
    · subst z; rw [gp] at e; cases e
  · rcases z with z | z
    · obtain ⟨o, e⟩ := k.bx.trk c z
      exact ⟨o, lu _ _ e⟩
    · subst z; exact ⟨_, upd_same⟩
  · obtain ⟨c, us, z1, z2, r', u', nb'⟩ := k.ow i ys e
    exact ⟨c, us, z1, lu _ _ z2, r', .inl u', nb'⟩
  · rcases z with z | z
    · exact .inl z
    · subst z; exact .inr hp
  · obtain ⟨c, us, z1, z2, _⟩ := k.ow i ys e
    rw [z1] at z
    cases z
    rw [hp] at z2; cases z2
end

/-! ### names, constants -/
def mVar (i : Nat) : M D := fun s => match s.env[i]? with
  | some (.sh d) => .ok d s
  | some (.ow xs) => .ok (.lst xs) { s with env := s.env.set i (.sh (.lst xs)) }
  | _ => .bad
def mC (d : D) : M D := M.pure d
section
variable {T : Tx} {W : WX} {X : Cx}
theorem tD.ok {m : M D} {σ : L2.St} {H : Hp} {Q : VK} (h : tD T W m σ H Q) : ∃ (x : Gh) (s : Sx), Ok T x s σ H ∧ match m s with
  | .ok d s' => ∀ x' v H', Ok T x' s' σ H' → Stp x H x' H' → Rep T x'.io x'.G v d → Q v H'
  | .exc c ns vs sto => XP T W x σ H c ns vs sto
  | .bad => False := h
theorem de_var {i : Nat} {y : Str} {pos : Pos} (hN : X.N[i]? = some y) (hv : Vis X.env.scope y) (hd : (y == ("__debug__" : Str)) = false := by decide) (hcd : (y == ("__classdict__" : Str)) = false := by decide) : PE X (.Name y pos) (tD T W (mVar i)) := by
  refine PE.imp (pe_var (pos := pos) (i := i) hN hv hd hcd) fun σ H Q ⟨x, s, k, h⟩ => ?_
  unfold mVar at h
  cases q : s.env[i]? with
  | none => rw [q] at h; exact h.elim
  | some sl =>
    cases sl with
    | un => rw [q] at h; exact h.elim
    | th => rw [q] at h; exact h.elim
    | od ks ds => rw [q] at h; exact h.elim
    | sh d =>
      rw [q] at h
      obtain ⟨v, z, r⟩ := k.sh i d q
      exact ⟨v, z, h x v H k (.refl _ _) r⟩
    | ow xs =>
      rw [q] at h
      obtain ⟨x', a, z, k', st, r⟩ := k.share q
      exact ⟨_, z, h x' _ H k' st r⟩
theorem de_c {e : Expr} {v : V} {d : D} (h : PE X e (tC v)) (r : ∀ io G, Rep T io G v d) : PE X e (tD T W (mC d)) :=
  PE.imp h fun σ H Q ⟨x, s, k, q⟩ => q x v H k (.refl _ _) (r _ _)
theorem de_int {i j pos} : PE X (.Constant (.int i) j pos) (tD T W (mC (.int i))) := de_c pe_int fun _ _ => .int i
theorem de_bl {b j pos} : PE X (.Constant (.bool b) j pos) (tD T W (mC (.bl b))) := de_c pe_bl fun _ _ => .bl b
theorem de_non {j pos} : PE X (.Constant .none j pos) (tD T W (mC .non)) := de_c pe_non fun _ _ => .non
theorem de_str {y j pos} : PE X (.Constant (.str y) j pos) (tD T W (mC (.str y))) := de_c pe_str fun _ _ => .str y
/-- a constant of the module -/
theorem de_glob {y : Str} {v : V} {u : Value} {d : D} {pos : Pos} (hg : Gl X y) (hm : X.mg y = some u) (r : RelV v u) (rp : ∀ io G, Rep T io G v d) (hd : (y == ("__debug__" : Str)) = false := by decide) : PE X (.Name y pos) (tD T W (mC d)) :=
  de_c (pe_glob hg hm r hd) rp

/-! ### pure rules -/
def P1 (T : Tx) (r : V → Hp → VK → Prop) (g : D → Option D) : Prop := ∀ (io : Io) (G : Hp) (v : V) (d z : D) (H : Hp) (Q : VK), Rep T io G v d → Le G H → g d = some z → (∀ G' v' H', Grow G H G' H' → Rep T io G' v' z → Q v' H') → r v H Q
def P2 (T : Tx) (r : R2) (g : D → D → Option D) : Prop := ∀ (io : Io) (G : Hp) (v u : V) (d e z : D) (H : Hp) (Q : VK), Rep T io G v d → Rep T io G u e → Le G H → g d e = some z → (∀ G' v' H', Grow G H G' H' → Rep T io G' v' z → Q v' H') → r v u H Q
def PL (T : Tx) (r : List V → Hp → VK → Prop) (g : List D → Option D) : Prop := ∀ (io : Io) (G : Hp) (vs : List V) (ds : List D) (z : D) (H : Hp) (Q : VK), Reps T io G vs ds → Le G H → g ds = some z → (∀ G' v' H', Grow G H G' H' → Rep T io G' v' z → Q v' H') → r vs H Q
def m1 (g : D → Option D) (ma : M D) : M D := M.bind ma fun a => M.lift (g a)
def m2 (g : D → D → Option D) (ma mb : M D) : M D := M.bind ma fun a => M.bind mb fun b => M.lift (g a b)
def mL (g : List D → Option D) (ma : M (List D)) : M D := M.bind ma fun a => M.lift (g a)
theorem t1 {r : V → Hp → VK → Prop} {g : D → Option D} (p : P1 T r g) {ma : M D} {σ : L2.St} {H : Hp} {Q : VK} (h : tD T W (m1 g ma) σ H Q) : tUn r (tD T W ma) σ H Q := by
  obtain ⟨x, s, k, h⟩ := h
  refine ⟨x, s, k, ?_⟩
  unfold m1 M.bind M.lift at h
  cases e : ma s with
  | ok d s' =>
    rw [e] at h
    intro x' v H' k' st r'
    simp only at h
    cases e2 : g d with
    | none => rw [e2] at h; exact h.elim
    | some z =>
      rw [e2] at h
      exact p _ _ _ _ _ _ _ r' k'.bx.sub e2 fun G' v' H2 gr r2 => h _ v' H2 (k'.grow gr) (st.trans gr.stp) r2
  | exc c ns vs sto => rw [e] at h; exact h
  | bad => rw [e] at h; exact h
theorem t2 {r : R2} {g : D → D → Option D} (p : P2 T r g) {ma mb : M D} {σ : L2.St} {H : Hp} {Q : VK} (h : tD T W (m2 g ma mb) σ H Q) : tOp r (tD T W ma) (tD T W mb) σ H Q := by
  obtain ⟨x, s, k, h⟩ := h
  refine ⟨x, s, k, ?_⟩
  unfold m2 M.bind M.lift at h
  cases e : ma s with
  | ok d s' =>
    rw [e] at h
    intro x' v H' k' st r'
    refine ⟨x', s', k', ?_⟩
    simp only at h
    cases e1 : mb s' with
    | ok d2 s2 =>
      rw [e1] at h
      intro x2 v2 H2 k2 st2 r2
      simp only at h
      cases e2 : g d d2 with
      | none => rw [e2] at h; exact h.elim
      | some z =>
        rw [e2] at h
        exact p _ _ _ _ _ _ _ _ _ (r'.mono st2.io st2.le) r2 k2.bx.sub e2 fun G' v' H3 gr r3 => h _ v' H3 (k2.grow gr) (st.trans (st2.trans gr.stp)) r3
    | exc c ns vs sto => rw [e1] at h; exact h.back st
    | bad => rw [e1] at h; exact h
  | exc c ns vs sto => rw [e] at h; exact h
  | bad => rw [e] at h; exact h
theorem tl {r : List V → Hp → VK → Prop} {g : List D → Option D} (p : PL T r g) {ma : M (List D)} {σ : L2.St} {H : Hp} {Q : VK} (h : tD T W (mL g ma) σ H Q) : tCB r (tDs T W ma) σ H Q := by
  obtain ⟨x, s, k, h⟩ := h
  refine ⟨x, s, k, ?_⟩
  unfold mL M.bind M.lift at h
  cases e : ma s with
  | ok d s' =>
    rw [e] at h
    intro x' v H' k' st r'
    simp only at h
    cases e2 : g d with
    | none => rw [e2] at h; exact h.elim
    | some z =>
      rw [e2] at h
      exact p _ _ _ _ _ _ _ r' k'.bx.sub e2 fun G' v' H2 gr r2 => h _ v' H2 (k'.grow gr) (st.trans gr.stp) r2
  | exc c ns vs sto => rw [e] at h; exact h
  | bad => rw [e] at h; exact h
variable {a b : Expr} {ma mb : M D} {pos : Pos}
theorem de_op {op : Operator} {r : R2} {g : D → D → Option D} (ho : OpR X (binaryOp op) r) (p : P2 T r g) (ha : PE X a (tD T W ma)) (hb : PE X b (tD T W mb)) : PE X (.BinOp a op b pos) (tD T W (m2 g ma mb)) :=
  PE.imp (pe_op ho ha hb) fun _ _ _ h => t2 p h
theorem de_un {op : UnaryOp} {r : V → Hp → VK → Prop} {g : D → Option D} (ho : UnR X (unaryOp op) r) (p : P1 T r g) (ha : PE X a (tD T W ma)) : PE X (.UnaryOp op a pos) (tD T W (m1 g ma)) :=
  PE.imp (pe_un ho ha) fun _ _ _ h => t1 p h
theorem de_cmp {op : CmpOp} {r : R2} {g : D → D → Option D} (ho : OpR X (compareOp op) r) (p : P2 T r g) (ha : PE X a (tD T W ma)) (hb : PE X b (tD T W mb)) (hm : behindInMarks op b = false) : PE X (.Compare a [op] [b] pos) (tD T W (m2 g ma mb)) :=
  PE.imp (pe_cmpR ho ha hb hm) fun _ _ _ h => t2 p h
theorem de_ix {r : R2} {g : D → D → Option D} (hr : IxR X r) (p : P2 T r g) (ha : PE X a (tD T W ma)) (hb : PE X b (tD T W mb)) (hs : PlainIx b) : PE X (.Subscript a b pos) (tD T W (m2 g ma mb)) :=
  PE.imp (pe_ix hr ha hb hs) fun _ _ _ h => t2 p h

/-! ### tests -/
def asB (d : D) : Option Bool := match d with | .bl b => some b | _ => none
def mT (m : M D) : M Bool := M.bind m fun d => M.lift (asB d)
theorem tT {m : M D} {σ : L2.St} {H : Hp} {Q : Bool → Hp → Prop} (h : tB T W (mT m) σ H Q) : tD T W m σ H fun v H1 => ∃ c, v = .bl c ∧ Q c H1 := by
  obtain ⟨x, s, k, h⟩ := h
  refine ⟨x, s, k, ?_⟩
  unfold mT M.bind M.lift at h
  cases e : m s with
  | ok d s' =>
    rw [e] at h
    intro x' v H' k' st r'
    simp only at h
    cases d with
    | bl c => cases r'; exact ⟨c, rfl, h x' H' k' st⟩
    | _ => exact h.elim
  | exc c ns vs sto => rw [e] at h; exact h
  | bad => rw [e] at h; exact h
/-- an expression whose value is a truth, as a test -/
theorem dt_val {e : Expr} {m : M D} (h : PE X e (tD T W m)) (he : ∀ whole, isTrue e X.env whole = (do let v ← whole; standAt e.pos; holding [v] (truthy v)) := by intro _; rfl) : PT X e (tB T W (mT m)) :=
  PT.imp (pt_val h he) fun _ _ _ q => tT q
theorem dt_cmp {op : CmpOp} {r : R2} {g : D → D → Option D} (ho : OpR X (compareOp op) r) (p : P2 T r g) (ha : PE X a (tD T W ma)) (hb : PE X b (tD T W mb)) (hm : behindInMarks op b = false) : PT X (.Compare a [op] [b] pos) (tB T W (mT (m2 g ma mb))) :=
  PT.imp (pt_cmpR ho ha hb hm) fun _ _ _ q => by
    obtain ⟨x, s, k, h⟩ := tT q
    exact t2 p ⟨x, s, k, h⟩
def mNot (m : M Bool) : M Bool := M.bind m fun c => M.pure (!c)
def mAnd (m n : M Bool) : M Bool := M.bind m fun c => if c = true then n else M.pure false
def mOr (m n : M Bool) : M Bool := M.bind m fun c => if c = true then M.pure true else n
def mIf {α : Type} (c : M Bool) (m n : M α) : M α := M.bind c fun b => if b = true then m else n
/-- a bool's reading behind another -/
theorem tB.step {m : M Bool} {α : Type} {f : Bool → M α} {σ : L2.St} {H : Hp} {P : Bool → Hp → Prop} {x : Gh} {s : Sx} {C : R α → Prop} (k : Ok T x s σ H)
    (hC : C ((M.bind m f) s)) (hexc : ∀ c ns vs sto, C (.exc c ns vs sto) → XP T W x σ H c ns vs sto) (hbad : ¬ C .bad)
    (next : ∀ b s' x' H', Ok T x' s' σ H' → Stp x H x' H' → C (f b s') → P b H') : tB T W m σ H P := by
  refine ⟨x, s, k, ?_⟩
  unfold M.bind at hC
  cases e : m s with
  | ok b s' => rw [e] at hC; exact fun x' H' k' st => next b s' x' H' k' st hC
  | exc c ns vs sto => rw [e] at hC; exact hexc _ _ _ _ hC
  | bad => rw [e] at hC; exact hbad hC
theorem dt_not {c : Expr} {m : M Bool} (h : PT X c (tB T W m)) : PT X (.UnaryOp .Not c pos) (tB T W (mNot m)) :=
  PT.imp (pt_not h) fun σ H Q ⟨x, s, k, h⟩ => by
    refine ⟨x, s, k, ?_⟩
    unfold mNot M.bind M.pure at h
    cases e : m s with
    | ok b s' => rw [e] at h; exact fun x' H' k' st => h x' H' k' st
    | exc c ns vs sto => rw [e] at h; exact h
    | bad => rw [e] at h; exact h
theorem tAnd_of {m n : M Bool} {σ : L2.St} {H : Hp} {Q : Bool → Hp → Prop} (h : tB T W (mAnd m n) σ H Q) : tAnd (tB T W m) (tB T W n) σ H Q := by
  obtain ⟨x, s, k, h⟩ := h
  refine ⟨x, s, k, ?_⟩
  unfold mAnd M.bind M.pure at h
  cases e : m s with
  | ok b s' =>
    rw [e] at h
    intro x' H' k' st
    cases b with
    | true =>
      rw [if_pos rfl]
      refine ⟨x', s', k', ?_⟩
      simp only [if_true] at h
      cases e2 : n s' with
      | ok b2 s2 => rw [e2] at h; exact fun x2 H2 k2 st2 => h x2 H2 k2 (st.trans st2)
      | exc c ns vs sto => rw [e2] at h; exact h.back st
      | bad => rw [e2] at h; exact h
    | false => rw [if_neg Bool.false_ne_true]; exact h x' H' k' st
  | exc c ns vs sto => rw [e] at h; exact h
  | bad => rw [e] at h; exact h
theorem tOr_of {m n : M Bool} {σ : L2.St} {H : Hp} {Q : Bool → Hp → Prop} (h : tB T W (mOr m n) σ H Q) : tOr (tB T W m) (tB T W n) σ H Q := by
  obtain ⟨x, s, k, h⟩ := h
  refine ⟨x, s, k, ?_⟩
  unfold mOr M.bind M.pure at h
  cases e : m s with
  | ok b s' =>
    rw [e] at h
    intro x' H' k' st
    cases b with
    | false =>
      rw [if_neg Bool.false_ne_true]
      refine ⟨x', s', k', ?_⟩
      simp only [Bool.false_eq_true, if_false] at h
      cases e2 : n s' with
      | ok b2 s2 => rw [e2] at h; exact fun x2 H2 k2 st2 => h x2 H2 k2 (st.trans st2)
      | exc c ns vs sto => rw [e2] at h; exact h.back st
      | bad => rw [e2] at h; exact h
    | true => rw [if_pos rfl]; exact h x' H' k' st
  | exc c ns vs sto => rw [e] at h; exact h
  | bad => rw [e] at h; exact h
variable {rest : List Expr} {m n : M Bool}
theorem dw_and1 (ha : PT X a (tB T W m)) : PW X (.BoolOp .And [a] pos) (tB T W m) := pw_and1 ha
theorem dw_or1 (ha : PT X a (tB T W m)) : PW X (.BoolOp .Or [a] pos) (tB T W m) := pw_or1 ha
theorem dw_and (ha : PT X a (tB T W m)) (hb : PW X (.BoolOp .And (b :: rest) pos) (tB T W n)) : PW X (.BoolOp .And (a :: b :: rest) pos) (tB T W (mAnd m n)) := PW.imp (pw_and ha hb) fun _ _ _ h => tAnd_of h
theorem dw_or (ha : PT X a (tB T W m)) (hb : PW X (.BoolOp .Or (b :: rest) pos) (tB T W n)) : PW X (.BoolOp .Or (a :: b :: rest) pos) (tB T W (mOr m n)) := PW.imp (pw_or ha hb) fun _ _ _ h => tOr_of h
/-- a branch's reading -/
theorem tIf_of {c : M Bool} {m n : M D} {σ : L2.St} {H : Hp} {Q : VK} (h : tD T W (mIf c m n) σ H Q) : tIf (tB T W c) (tD T W m) (tD T W n) σ H Q := by
  obtain ⟨x, s, k, h⟩ := h
  refine ⟨x, s, k, ?_⟩
  unfold mIf M.bind at h
  cases e : c s with
  | ok b s' =>
    rw [e] at h
    intro x' H' k' st
    cases b with
    | true =>
      rw [if_pos rfl]
      refine ⟨x', s', k', ?_⟩
      simp only [if_true] at h
      cases e2 : m s' with
      | ok b2 s2 => rw [e2] at h; exact fun x2 v H2 k2 st2 r => h x2 v H2 k2 (st.trans st2) r
      | exc c ns vs sto => rw [e2] at h; exact h.back st
      | bad => rw [e2] at h; exact h
    | false =>
      rw [if_neg Bool.false_ne_true]
      refine ⟨x', s', k', ?_⟩
      simp only [Bool.false_eq_true, if_false] at h
      cases e2 : n s' with
      | ok b2 s2 => rw [e2] at h; exact fun x2 v H2 k2 st2 r => h x2 v H2 k2 (st.trans st2) r
      | exc c ns vs sto => rw [e2] at h; exact h.back st
      | bad => rw [e2] at h; exact h
  | exc c ns vs sto => rw [e] at h; exact h
  | bad => rw [e] at h; exact h
theorem de_if {c : Expr} {mc : M Bool} (hc : PT X c (tB T W mc)) (ha : PE X a (tD T W ma)) (hb : PE X b (tD T W mb)) : PE X (.IfExp c a b pos) (tD T W (mIf mc ma mb)) := PE.imp (pe_ifExp hc ha hb) fun _ _ _ h => tIf_of h
end
end Ev

/-! E2: arguments, displays, targets, statements, loops, comprehensions, calls. -/
namespace Ev
open PySem PySem.Spec L2
/-! ### arguments, displays -/
def mNil : M (List D) := M.pure []
def mCons (m : M D) (r : M (List D)) : M (List D) := M.bind m fun d => M.bind r fun ds => M.pure (d :: ds)
def mTup (m : M (List D)) : M D := M.bind m fun ds => if ds.length ≤ sizeLine then M.pure (.tup ds) else fun _ => .bad
def mLst (m : M (List D)) : M (List D) := M.bind m fun ds => if ds.length ≤ sizeLine then M.pure ds else fun _ => .bad
/-- a list of one's own as a shared one -/
def mSh (m : M (List D)) : M D := M.bind m fun ds => M.pure (.lst ds)
section
variable {T : Tx} {W : WX} {X : Cx} {e : Expr} {es : List Expr} {ma : M D} {ml : M (List D)} {pos : Pos}
theorem da_nil : PA X [] (tDs T W mNil) := PA.imp pa_nil fun σ H Q ⟨x, s, k, h⟩ => h x [] H k (.refl _ _) .nil
theorem tDs_cons {m : M D} {r : M (List D)} {σ : L2.St} {H : Hp} {Q : List V → Hp → Prop} (h : tDs T W (mCons m r) σ H Q) : tCons (tD T W m) (tDs T W r) σ H Q := by
  obtain ⟨x, s, k, h⟩ := h
  refine ⟨x, s, k, ?_⟩
  unfold mCons M.bind M.pure at h
  cases e : m s with
  | ok d s' =>
    rw [e] at h
    intro x' v H' k' st r'
    refine ⟨x', s', k', ?_⟩
    simp only at h
    cases e1 : r s' with
    | ok ds s2 => rw [e1] at h; exact fun x2 vs H2 k2 st2 r2 => h x2 _ H2 k2 (st.trans st2) (.cons (r'.mono st2.io st2.le) r2)
    | exc c ns vs sto => rw [e1] at h; exact h.back st
    | bad => rw [e1] at h; exact h
  | exc c ns vs sto => rw [e] at h; exact h
  | bad => rw [e] at h; exact h
theorem da_cons (ha : PE X e (tD T W ma)) (hr : PA X es (tDs T W ml)) (hs : starEach (e :: es) X.env = (false, eval e X.env) :: starEach es X.env := by rfl) : PA X (e :: es) (tDs T W (mCons ma ml)) :=
  PA.imp (pa_cons ha hr hs) fun _ _ _ h => tDs_cons h
theorem de_tup {k : Nat} (h : PA X es (tDs T W ml)) : PE X (.Tuple es k pos) (tD T W (mTup ml)) := PE.imp (pe_tup h) fun σ H Q ⟨x, s, k, q⟩ => by
  refine ⟨x, s, k, ?_⟩
  unfold mTup M.bind M.pure at q
  cases e : ml s with
  | ok ds s' =>
    rw [e] at q
    intro x' vs H' k' st r'
    simp only at q
    by_cases hl : ds.length ≤ sizeLine
    · rw [if_pos hl] at q
      refine ⟨by rw [r'.length]; exact hl, fun p hp => ?_⟩
      have gr := Grow.one (o := .tup vs) k'.bx.sub hp
      exact q _ _ _ (k'.grow gr) (st.trans gr.stp) (.tup (.inl (.inl upd_same)) (r'.up gr.g))
    · rw [if_neg hl] at q; exact q.elim
  | exc c ns vs sto => rw [e] at q; exact q
  | bad => rw [e] at q; exact q
/-- a list display: of one's own -/
theorem df_lst (h : PA X es (tDs T W ml)) : PE X (.List es pos) (tF T W (mLst ml)) := PE.imp (pe_lst h) fun σ H Q ⟨x, s, k, q⟩ => by
  refine ⟨x, s, k, ?_⟩
  unfold mLst M.bind M.pure at q
  cases e : ml s with
  | ok ds s' =>
    rw [e] at q
    intro x' vs H' k' st r'
    simp only at q
    by_cases hl : ds.length ≤ sizeLine
    · rw [if_pos hl] at q
      refine ⟨by rw [r'.length]; exact hl, fun p hp => ?_⟩
      obtain ⟨x2, _, _, k2, st2, o⟩ := k'.lay hp r'
      exact q _ _ _ k2 (st.trans st2) o
    · rw [if_neg hl] at q; exact q.elim
  | exc c ns vs sto => rw [e] at q; exact q
  | bad => rw [e] at q; exact q
theorem de_sh (h : PE X e (tF T W ml)) : PE X e (tD T W (mSh ml)) := PE.imp h fun σ H Q ⟨x, s, k, q⟩ => by
  refine ⟨x, s, k, ?_⟩
  unfold mSh M.bind M.pure at q
  cases e : ml s with
  | ok ds s' =>
    rw [e] at q
    intro x' a H' k' st o
    obtain ⟨x2, k2, st2, r⟩ := o.share k'
    exact q x2 _ H' k2 (st.trans st2) r
  | exc c ns vs sto => rw [e] at q; exact q
  | bad => rw [e] at q; exact q
/-- a built-in by its name -/
theorem de_bi {id : String} {r : List V → Hp → VK → Prop} {g : List D → Option D} {y : Str} {p : Pos} (hc : CallR X (.builtin id) r) (pl : PL T r g) (hg : Gl X y) (hm : X.mg y = none) (hv : bootBuiltins y = some (.builtin id)) (ha : PA X (e :: es) (tDs T W ml)) (hn : y ≠ "__name__" := by decide) (hdb : (y == ("__debug__" : Str)) = false := by decide)
    (he : starEach (e :: es) X.env = (false, eval e X.env) :: starEach es X.env := by rfl) (hpl : (backTo pos (starEach es X.env)).any (·.1) = false := by rfl) : PE X (.Call (.Name y p) (e :: es) [] pos) (tD T W (mL g ml)) :=
  PE.imp (pe_callB hc hg hm hv ha hn hdb he hpl) fun _ _ _ h => tl pl h
theorem de_ty {id : String} {r : List V → Hp → VK → Prop} {g : List D → Option D} {y : Str} {p : Pos} (hc : CallR X (.type id) r) (pl : PL T r g) (hg : Gl X y) (hm : X.mg y = none) (hv : bootBuiltins y = some (.type id)) (ha : PA X (e :: es) (tDs T W ml)) (hn : y ≠ "__name__" := by decide) (hdb : (y == ("__debug__" : Str)) = false := by decide)
    (he : starEach (e :: es) X.env = (false, eval e X.env) :: starEach es X.env := by rfl) (hpl : (backTo pos (starEach es X.env)).any (·.1) = false := by rfl) : PE X (.Call (.Name y p) (e :: es) [] pos) (tD T W (mL g ml)) :=
  PE.imp (pe_callTy hc hg hm hv ha hn hdb he hpl) fun _ _ _ h => tl pl h
end

/-! ### targets -/
structure Tg where
  slots : List Nat
  run : D → Sx → Option Sx
def Sx.put (s : Sx) (i : Nat) (d : D) : Sx := { s with env := s.env.set i (.sh d) }
def tgN (i : Nat) : Tg := ⟨[i], fun d s => some (s.put i d)⟩
structure Tgs where
  slots : List Nat
  run : List D → Sx → Option Sx
def tgsNil : Tgs := ⟨[], fun ds s => match ds with | [] => some s | _ => none⟩
def tgsCons (t : Tg) (u : Tgs) : Tgs := ⟨t.slots ++ u.slots, fun ds s => match ds with | d :: r => (t.run d s).bind fun s' => u.run r s' | [] => none⟩
def tgT (u : Tgs) : Tg := ⟨u.slots, fun d s => match d with | .tup xs => u.run xs s | _ => none⟩
def gD (T : Tx) (t : Tg) : TG := fun v σ H Q => ∃ (x : Gh) (s s' : Sx) (d : D), Ok T x s σ H ∧ Rep T x.io x.G v d ∧ t.run d s = some s' ∧ ∀ σ', Ok T x s' σ' H → σ'.length = σ.length → (∀ j, j ∉ t.slots → σ'[j]? = σ[j]?) → Q σ' H
def gDs (T : Tx) (t : Tgs) : TGs := fun vs σ H Q => ∃ (x : Gh) (s s' : Sx) (ds : List D), Ok T x s σ H ∧ Reps T x.io x.G vs ds ∧ t.run ds s = some s' ∧ ∀ σ', Ok T x s' σ' H → σ'.length = σ.length → (∀ j, j ∉ t.slots → σ'[j]? = σ[j]?) → Q σ' H
theorem PG.imp {X : Cx} {e : Expr} {t t' : TG} (h : PG X e t) (k : ∀ v σ H Q, t' v σ H Q → t v σ H Q) : PG X e t' := ⟨fun pins s σ H v u Q I r q => h.run pins s σ H v u Q I r (k v σ H Q q)⟩
theorem PGs.imp {X : Cx} {e : List Expr} {t t' : TGs} (h : PGs X e t) (k : ∀ v σ H Q, t' v σ H Q → t v σ H Q) : PGs X e t' := ⟨fun pins s σ H v u Q I r q => h.run pins s σ H v u Q I r (k v σ H Q q)⟩
section
variable {T : Tx} {x : Gh} {s : Sx} {σ : L2.St} {H : Hp}
theorem Ok.put (k : Ok T x s σ H) (i : Nat) {v : V} {d : D} (r : Rep T x.io x.G v d) : Ok T x (s.put i d) (σ.set i (some v)) H := by
  refine ⟨k.bx, by simpa [Sx.put] using k.len, fun j e q => ?_, fun j ys q => ?_, fun j l ys zs c q1 q2 q3 q4 => ?_, fun j q => ?_, k.od.of (.refl _) (.refl _) (fun j ks ds e => ⟨(set_od_sh e).2, List.getElem?_set_ne (set_od_sh e).1⟩) fun _ _ e u => ⟨e, u⟩⟩
  · have q : (s.env.set i (.sh d))[j]? = some (.sh e) := q
    by_cases hj : i = j
    · subst hj
      have hl : i < s.env.length := by
        have h1 := (List.getElem?_eq_some_iff.mp q).1
        simpa using h1
      rw [List.getElem?_set_self hl] at q
      cases q
      exact ⟨v, List.getElem?_set_self (by rw [← k.len]; exact hl), r⟩
    · rw [List.getElem?_set_ne hj] at q ⊢
      exact k.sh j e q
  · have q : (s.env.set i (.sh d))[j]? = some (.ow ys) := q
    by_cases hj : i = j
    · subst hj
      have hl : i < s.env.length := by
        have h1 := (List.getElem?_eq_some_iff.mp q).1
        simpa using h1
      rw [List.getElem?_set_self hl] at q
      cases q
    · rw [List.getElem?_set_ne hj] at q ⊢
      exact k.ow j ys q
  · have q1 : (s.env.set i (.sh d))[j]? = some (.ow ys) := q1
    have q2 : (s.env.set i (.sh d))[l]? = some (.ow zs) := q2
    have hj : i ≠ j := by
      rintro rfl
      have hl : i < s.env.length := by simpa using (List.getElem?_eq_some_iff.mp q1).1
      rw [List.getElem?_set_self hl] at q1; cases q1
    have hk : i ≠ l := by
      rintro rfl
      have hl : i < s.env.length := by simpa using (List.getElem?_eq_some_iff.mp q2).1
      rw [List.getElem?_set_self hl] at q2; cases q2
    rw [List.getElem?_set_ne hj] at q1 q3
    rw [List.getElem?_set_ne hk] at q2 q4
    exact k.owi j l ys zs c q1 q2 q3 q4
  · have q : (s.env.set i (.sh d))[j]? = some .th := q
    have hj : i ≠ j := by
      rintro rfl
      have hl : i < s.env.length := by simpa using (List.getElem?_eq_some_iff.mp q).1
      rw [List.getElem?_set_self hl] at q; cases q
    rw [List.getElem?_set_ne hj] at q ⊢
    exact k.th j q
variable {X : Cx} {pos : Pos}
theorem dg_name {i : Nat} {y : Str} (hN : X.N.Nodup) (hi : X.N[i]? = some y) (hx : Loc X.env.scope y) (hf : X.fn y = true ∨ X.env.scope.names.lookup y = some .local := by first | exact .inl rfl | exact .inr rfl | assumption) : PG X (.Name y pos) (gD T (tgN i)) :=
  PG.imp (pg_name hN hi hx hf) fun v σ H Q ⟨x, s, s', d, k, r, e, h⟩ => by
    cases e
    refine h _ (k.put i r) (by simp) fun j hj => ?_
    rw [List.getElem?_set_ne (fun z => hj (by rw [← z]; exact List.mem_singleton.mpr rfl))]
theorem dgs_nil : PGs X [] (gDs T tgsNil) := PGs.imp pgs_nil fun vs σ H Q ⟨x, s, s', ds, k, r, e, h⟩ => by
  cases r with
  | nil => cases e; exact ⟨rfl, h σ k rfl fun _ _ => rfl⟩
  | cons a b => cases e
theorem dgs_cons {e : Expr} {es : List Expr} {t : Tg} {u : Tgs} (h1 : PG X e (gD T t)) (h2 : PGs X es (gDs T u))
    (hs : (assignEach (e :: es) X.env).map (·.2) = assign e X.env :: (assignEach es X.env).map (·.2) := by rfl) : PGs X (e :: es) (gDs T (tgsCons t u)) :=
  PGs.imp (pgs_cons h1 h2 hs) fun vs σ H Q ⟨x, s, s', ds, k, r, e, h⟩ => by
    cases r with
    | nil => cases e
    | @cons v vr d dr a b =>
      have e : ((t.run d s).bind fun s' => u.run dr s') = some s' := e
      cases e1 : t.run d s with
      | none => rw [e1] at e; cases e
      | some s1 =>
        rw [e1] at e
        refine ⟨v, vr, rfl, x, s, s1, d, k, a, e1, fun σ1 k1 l1 f1 => ⟨x, s1, s', dr, k1, b, e, fun σ2 k2 l2 f2 => h σ2 k2 (l2.trans l1) fun j hj => ?_⟩⟩
        have hj' := fun z => hj (List.mem_append.mpr z)
        rw [f2 j fun z => hj' (.inr z), f1 j fun z => hj' (.inl z)]
theorem dg_tup {es : List Expr} {kk : Nat} {u : Tgs} {n : Nat} (hK : X.K = T.K) (hc : X.calm = true) (h : PGs X es (gDs T u)) (hn : (assignEach es X.env).length = n := by rfl) (hl : ∀ ds s s', u.run ds s = some s' → ds.length = n)
    (hst : (assignEach es X.env).findIdx? (·.1) = none := by rfl) : PG X (.Tuple es kk pos) (gD T (tgT u)) :=
  PG.imp (pg_tup hc h hn hst) fun v σ H Q ⟨x, s, s', d, k, r, e, q⟩ => by
    cases r with
    | tup sq rs =>
      have e : u.run _ s = some s' := e
      refine ⟨_, _, rfl, ?_, ?_, ⟨x, s, s', _, k, rs, e, q⟩⟩
      · rw [hK]; exact k.bx.sub.sqT sq
      · rw [rs.length]; exact hl _ _ _ e
    | _ => cases e
end

/-! ### statements -/
def Fin (T : Tx) (W : WX) (E : Ends) (x : Gh) (H : Hp) (r : RS) : Prop := match r with
  | .nx s' => ∀ x' σ' H', Ok T x' s' σ' H' → Stp x H x' H' → E.nx σ' H'
  | .bk s' => ∀ x' σ' H', Ok T x' s' σ' H' → Stp x H x' H' → E.bk σ' H'
  | .ct s' => ∀ x' σ' H', Ok T x' s' σ' H' → Stp x H x' H' → E.ct σ' H'
  | .rt d sto => ∀ x' v H', Bx T x' sto H' → Stp x H x' H' → Rep T x'.io x'.G v d → E.rt v H'
  | .ro xs sto => ∀ x' a H', Bx T x' sto H' → Stp x H x' H' → Own T x' ⟨[], sto⟩ [] H' a xs → E.rt (.ref a) H'
  | .exc c ns vs sto => ∀ σ', XP T W x σ' H c ns vs sto
  | .bad => False
theorem Fin.back {T : Tx} {W : WX} {E : Ends} {x y : Gh} {H H1 : Hp} {r : RS} (h : Fin T W E x H r) (st : Stp x H y H1) : Fin T W E y H1 r := by
  cases r with
  | nx s' => exact fun x' σ' H' k q => h x' σ' H' k (st.trans q)
  | bk s' => exact fun x' σ' H' k q => h x' σ' H' k (st.trans q)
  | ct s' => exact fun x' σ' H' k q => h x' σ' H' k (st.trans q)
  | rt d sto => exact fun x' v H' b q r => h x' v H' b (st.trans q) r
  | ro xs sto => exact fun x' a H' b q r => h x' a H' b (st.trans q) r
  | exc c ns vs sto => exact fun σ' => (h σ').back st
  | bad => exact h
theorem tS_def {T : Tx} {W : WX} {m : MS} {E : Ends} {σ : L2.St} {H : Hp} : tS T W m E σ H = ∃ (x : Gh) (s : Sx), Ok T x s σ H ∧ Fin T W E x H (m s) := rfl
def sNx : MS := fun s => .nx s
def sSeq (m n : MS) : MS := fun s => match m s with
  | .nx s' => n s'
  | r => r
/-- an expression, then a statement's rest -/
def sBind {α : Type} (m : M α) (f : α → MS) : MS := fun s => match m s with
  | .ok a s' => f a s'
  | .exc c ns vs sto => .exc c ns vs sto
  | .bad => .bad
def sIf (c : M Bool) (m n : MS) : MS := sBind c fun b => if b = true then m else n
def sDrop (m : M D) : MS := sBind m fun _ => sNx
def sRet (m : M D) : MS := sBind m fun d s => .rt d s.sto
def sRetF (m : M (List D)) : MS := sBind m fun d s => .ro d s.sto
def sRetN : MS := fun s => .rt .non s.sto
def sSet (i : Nat) (m : M D) : MS := sBind m fun d s => .nx (s.put i d)
def Sx.own (s : Sx) (i : Nat) (xs : List D) : Sx := { s with env := s.env.set i (.ow xs) }
def sOwn (i : Nat) (m : M (List D)) : MS := sBind m fun xs s => .nx (s.own i xs)
def sAsg (t : Tg) (m : M D) : MS := sBind m fun d s => match t.run d s with
  | some s' => .nx s'
  | none => .bad
def sBk : MS := fun s => .bk s
def sCt : MS := fun s => .ct s
section
variable {T : Tx} {W : WX} {X : Cx} {st : Stmt} {rest : List Stmt} {e : Expr} {m n : MS} {ma : M D} {mb : M Bool} {ml : M (List D)} {pos : Pos}
theorem dss_nil : PSs X [] (tS T W sNx) := PSs.imp pss_nil fun E σ H ⟨x, s, k, h⟩ => h x σ H k (.refl _ _)
theorem tS_seq {E : Ends} {σ : L2.St} {H : Hp} (h : tS T W (sSeq m n) E σ H) : tSeq (tS T W m) (tS T W n) E σ H := by
  obtain ⟨x, s, k, h⟩ := h
  refine ⟨x, s, k, ?_⟩
  have h : Fin T W E x H (sSeq m n s) := h
  unfold sSeq at h
  cases e : m s with
  | nx s' => rw [e] at h; exact fun x' σ' H' k' q => ⟨x', s', k', h.back q⟩
  | bk s' => rw [e] at h; exact h
  | ct s' => rw [e] at h; exact h
  | rt d sto => rw [e] at h; exact h
  | ro xs sto => rw [e] at h; exact h
  | exc c ns vs sto => rw [e] at h; exact h
  | bad => rw [e] at h; exact h
theorem dss_cons (h1 : PS X st (tS T W m)) (h2 : PSs X rest (tS T W n)) : PSs X (st :: rest) (tS T W (sSeq m n)) := PSs.imp (pss_cons h1 h2) fun _ _ _ h => tS_seq h
theorem dss_one (h1 : PS X st (tS T W m)) : PSs X [st] (tS T W m) := pss_one h1
/-- an expression's reading within a statement's -/
theorem tD_s {f : D → MS} {E : Ends} {σ : L2.St} {H : Hp} {P : VK} {x : Gh} {s : Sx} (k : Ok T x s σ H) (h : Fin T W E x H (sBind ma f s))
    (next : ∀ d s' x' v H', Ok T x' s' σ H' → Stp x H x' H' → Rep T x'.io x'.G v d → Fin T W E x' H' (f d s') → P v H') : tD T W ma σ H P := by
  refine ⟨x, s, k, ?_⟩
  unfold sBind at h
  cases e : ma s with
  | ok d s' => rw [e] at h; exact fun x' v H' k' st r => next d s' x' v H' k' st r (h.back st)
  | exc c ns vs sto => rw [e] at h; exact h σ
  | bad => rw [e] at h; exact h
theorem tF_s {f : List D → MS} {E : Ends} {σ : L2.St} {H : Hp} {P : VK} {x : Gh} {s : Sx} (k : Ok T x s σ H) (h : Fin T W E x H (sBind ml f s))
    (next : ∀ d s' x' a H', Ok T x' s' σ H' → Own T x' s' σ H' a d → Fin T W E x' H' (f d s') → P (.ref a) H') : tF T W ml σ H P := by
  refine ⟨x, s, k, ?_⟩
  unfold sBind at h
  cases e : ml s with
  | ok d s' => rw [e] at h; exact fun x' v H' k' st r => next d s' x' v H' k' r (h.back st)
  | exc c ns vs sto => rw [e] at h; exact h σ
  | bad => rw [e] at h; exact h
theorem tB_s {f : Bool → MS} {E : Ends} {σ : L2.St} {H : Hp} {P : Bool → Hp → Prop} {x : Gh} {s : Sx} (k : Ok T x s σ H) (h : Fin T W E x H (sBind mb f s))
    (next : ∀ b s' x' H', Ok T x' s' σ H' → Fin T W E x' H' (f b s') → P b H') : tB T W mb σ H P := by
  refine ⟨x, s, k, ?_⟩
  unfold sBind at h
  cases e : mb s with
  | ok d s' => rw [e] at h; exact fun x' H' k' st => next d s' x' H' k' (h.back st)
  | exc c ns vs sto => rw [e] at h; exact h σ
  | bad => rw [e] at h; exact h
theorem ds_pass : PS X (.Pass pos) (tS T W sNx) := PS.imp ps_pass fun E σ H ⟨x, s, k, h⟩ => h x σ H k (.refl _ _)
theorem ds_break : PS X (.Break pos) (tS T W sBk) := PS.imp ps_break fun E σ H ⟨x, s, k, h⟩ => h x σ H k (.refl _ _)
theorem ds_continue : PS X (.Continue pos) (tS T W sCt) := PS.imp ps_continue fun E σ H ⟨x, s, k, h⟩ => h x σ H k (.refl _ _)
theorem ds_expr (he : PE X e (tD T W ma)) (hs : swapsWith e none pos.line X.env = pure false := by rfl) : PS X (.Expr e pos) (tS T W (sDrop ma)) :=
  PS.imp (ps_expr he hs) fun E σ H ⟨x, s, k, h⟩ => tD_s k h fun d s' x' v H' k' _ _ f => f x' σ H' k' (.refl _ _)
theorem ds_ret (he : PE X e (tD T W ma)) : PS X (.Return (some e) pos) (tS T W (sRet ma)) :=
  PS.imp (ps_ret he) fun E σ H ⟨x, s, k, h⟩ => tD_s k h fun d s' x' v H' k' _ r f => f x' v H' k'.bx (.refl _ _) r
theorem ds_retF (he : PE X e (tF T W ml)) : PS X (.Return (some e) pos) (tS T W (sRetF ml)) :=
  PS.imp (ps_ret he) fun E σ H ⟨x, s, k, h⟩ => tF_s k h fun d s' x' a H' k' o f => f x' a H' k'.bx (.refl _ _) ⟨o.u, o.l, o.b, fun i ys z => by simp at z⟩
theorem ds_retN : PS X (.Return none pos) (tS T W sRetN) := PS.imp ps_retN fun E σ H ⟨x, s, k, h⟩ => h x .non H k.bx (.refl _ _) .non
theorem ds_if {c : Expr} {a b : List Stmt} (hc : PT X c (tB T W mb)) (ha : PSs X a (tS T W m)) (hb : PSs X b (tS T W n)) : PS X (.If c a b pos) (tS T W (sIf mb m n)) :=
  PS.imp (ps_if hc ha hb) fun E σ H ⟨x, s, k, h⟩ => tB_s k h fun c s' x' H' k' f => by
    cases c with
    | true => rw [if_pos rfl]; exact ⟨x', s', k', f⟩
    | false => rw [if_neg Bool.false_ne_true]; exact ⟨x', s', k', f⟩
theorem ds_set {i : Nat} {y : Str} {pos' : Pos} (hN : X.N.Nodup) (hi : X.N[i]? = some y) (hx : Loc X.env.scope y) (he : PE X e (tD T W ma)) (hs : swapsWith e (some (.Name y pos')) pos.line X.env = pure false := by rfl) (hf : X.fn y = true ∨ X.env.scope.names.lookup y = some .local := by first | exact .inl rfl | exact .inr rfl | assumption) :
    PS X (.Assign [.Name y pos'] e pos) (tS T W (sSet i ma)) :=
  PS.imp (ps_set hN hi hx he hs hf) fun E σ H ⟨x, s, k, h⟩ => tD_s k h fun d s' x' v H' k' _ r f => f x' _ H' (k'.put i r) (.refl _ _)
theorem Ok.put_own {x : Gh} {s : Sx} {σ : L2.St} {H : Hp} (k : Ok T x s σ H) (i : Nat) {a : Addr} {xs : List D} (o : Own T x s σ H a xs) : Ok T x (s.own i xs) (σ.set i (some (.ref a))) H := by
  refine ⟨k.bx, by simpa [Sx.own] using k.len, fun j e q => ?_, fun j ys q => ?_, fun j l ys zs c q1 q2 q3 q4 => ?_, fun j q => ?_, k.od.of (.refl _) (.refl _) (fun j ks ds e => ⟨(set_od_ow e).2, List.getElem?_set_ne (set_od_ow e).1⟩) fun _ _ e u => ⟨e, u⟩⟩
  · have q : (s.env.set i (.ow xs))[j]? = some (.sh e) := q
    by_cases hj : i = j
    · subst hj
      have hl : i < s.env.length := by simpa using (List.getElem?_eq_some_iff.mp q).1
      rw [List.getElem?_set_self hl] at q
      cases q
    · rw [List.getElem?_set_ne hj] at q ⊢
      exact k.sh j e q
  · have q : (s.env.set i (.ow xs))[j]? = some (.ow ys) := q
    by_cases hj : i = j
    · subst hj
      have hl : i < s.env.length := by simpa using (List.getElem?_eq_some_iff.mp q).1
      rw [List.getElem?_set_self hl] at q
      cases q
      obtain ⟨vs, h1, h2⟩ := o.l
      exact ⟨a, vs, List.getElem?_set_self (by rw [← k.len]; exact hl), h1, h2, o.u, o.b⟩
    · rw [List.getElem?_set_ne hj] at q ⊢
      exact k.ow j ys q
  · have q1 : (s.env.set i (.ow xs))[j]? = some (.ow ys) := q1
    have q2 : (s.env.set i (.ow xs))[l]? = some (.ow zs) := q2
    have big : ∀ {j : Nat} {ys : List D}, (s.env.set i (.ow xs))[j]? = some (.ow ys) → j < s.env.length := fun q => by simpa using (List.getElem?_eq_some_iff.mp q).1
    by_cases hj : i = j
    · subst hj
      by_cases hk : i = l
      · exact hk
      · rw [List.getElem?_set_self (by rw [← k.len]; exact big q1)] at q3
        rw [List.getElem?_set_ne hk] at q2 q4
        cases q3
        exact absurd q4 (o.o l zs q2)
    · rw [List.getElem?_set_ne hj] at q1 q3
      by_cases hk : i = l
      · subst hk
        rw [List.getElem?_set_self (by rw [← k.len]; exact big q2)] at q4
        cases q4
        exact absurd q3 (o.o j ys q1)
      · rw [List.getElem?_set_ne hk] at q2 q4
        exact k.owi j l ys zs c q1 q2 q3 q4
  · have q : (s.env.set i (.ow xs))[j]? = some .th := q
    have hj : i ≠ j := by
      rintro rfl
      have hl : i < s.env.length := by simpa using (List.getElem?_eq_some_iff.mp q).1
      rw [List.getElem?_set_self hl] at q; cases q
    rw [List.getElem?_set_ne hj] at q ⊢
    exact k.th j q
theorem ds_own {i : Nat} {y : Str} {pos' : Pos} (hN : X.N.Nodup) (hi : X.N[i]? = some y) (hx : Loc X.env.scope y) (he : PE X e (tF T W ml)) (hs : swapsWith e (some (.Name y pos')) pos.line X.env = pure false := by rfl) (hf : X.fn y = true ∨ X.env.scope.names.lookup y = some .local := by first | exact .inl rfl | exact .inr rfl | assumption) :
    PS X (.Assign [.Name y pos'] e pos) (tS T W (sOwn i ml)) :=
  PS.imp (ps_set hN hi hx he hs hf) fun E σ H ⟨x, s, k, h⟩ => tF_s k h fun d s' x' v H' k' o f => f x' _ H' (k'.put_own i o) (.refl _ _)
theorem ds_asg {tg : Expr} {t : Tg} (he : PE X e (tD T W ma)) (hg : PG X tg (gD T t)) (hs : swapsWithSole [tg] e pos.line X.env = pure false := by rfl) (hw : swappedStores [tg] e X.env = pure none := by rfl)
    (h1 : (assignEach [tg] X.env).map (·.2) = [assign tg X.env] := by rfl) : PS X (.Assign [tg] e pos) (tS T W (sAsg t ma)) :=
  PS.imp (ps_asg he hg hs hw h1) fun E σ H ⟨x, s, k, h⟩ => tD_s k h fun d s' x' v H' k' _ r f => by
    cases q : t.run d s' with
    | none => rw [q] at f; exact f.elim
    | some s2 => rw [q] at f; exact ⟨x', s', s2, d, k', r, q, fun σ' k2 _ _ => f x' σ' H' k2 (.refl _ _)⟩
end
end Ev

/-! E3: what is one's own changed, boxes; loops; comprehensions; calls of defs. -/
namespace Ev
open PySem PySem.Spec L2
/-! ### lists of one's own are written -/
section
variable {T : Tx} {x : Gh} {s : Sx} {σ : L2.St} {H : Hp}
theorem Ok.write (k : Ok T x s σ H) {i : Nat} {a : Addr} {xs ys : List D} {us : List V} (e : s.env[i]? = some (.ow xs)) (ea : σ[i]? = some (some (.ref a))) (r : Reps T x.io x.G us ys) :
    Ok T x (s.own i ys) σ (upd H a (.lst us)) ∧ Stp x H x (upd H a (.lst us)) := by
  obtain ⟨c, vs, h1, h2, r0, u, nb⟩ := k.ow i xs e
  have ec : c = a := by
    have z : some (some (V.ref c)) = some (some (V.ref a)) := h1.symm.trans ea
    injection z with z
    injection z with z
    injection z
  subst ec
  have hi : i < s.env.length := (List.getElem?_eq_some_iff.mp e).1
  refine ⟨⟨⟨k.bx.n, fun j zs q => ?_, k.bx.inU, k.bx.inj, fun b o q => ?_, k.bx.off, fun b q => ?_, fun p hp => ⟨(k.bx.tab p hp).1, tabS_lst h2 (k.bx.tab p hp).2⟩, k.bx.lo⟩, by simpa [Sx.own] using k.len, fun j d q => ?_, fun j zs q => ?_, fun j l ys' zs' b q1 q2 q3 q4 => ?_, fun j q => ?_, k.od.of (.refl _) (.refl _) (fun j ks ds e => ⟨(set_od_ow e).2, rfl⟩) fun b kvs e u => ⟨by rw [upd_ne (fun z => by subst z; rw [h2] at e; cases e)]; exact e, u⟩⟩, ⟨.refl _, .refl _, fun b o q n => ?_, fun _ _ q => .inl q, fun _ q => .inl q, fun b q => ?_⟩⟩
  · obtain ⟨ws, h3, h4⟩ := k.bx.at_ j zs q
    exact ⟨ws, by rw [upd_ne (fun z => nb j (List.getElem?_eq_some_iff.mp q).1 z.symm)]; exact h3, h4⟩
  · rw [upd_ne (fun z => by subst z; exact k.bx.off b o q u)]
    exact k.bx.sub b o q
  · by_cases hb : b = c
    · subst hb; exact ⟨_, upd_same⟩
    · rw [upd_ne hb]; exact k.bx.trk b q
  · have q : (s.env.set i (.ow ys))[j]? = some (.sh d) := q
    by_cases hj : i = j
    · subst hj; rw [List.getElem?_set_self hi] at q; cases q
    · rw [List.getElem?_set_ne hj] at q; exact k.sh j d q
  · have q : (s.env.set i (.ow ys))[j]? = some (.ow zs) := q
    by_cases hj : i = j
    · subst hj
      rw [List.getElem?_set_self hi] at q
      cases q
      exact ⟨c, us, h1, upd_same, r, u, nb⟩
    · rw [List.getElem?_set_ne hj] at q
      obtain ⟨b, ws, g1, g2, g3⟩ := k.ow j zs q
      have hbc : b ≠ c := fun z => by
        subst z
        exact hj (k.owi i j xs zs b e q h1 g1)
      exact ⟨b, ws, g1, by rw [upd_ne hbc]; exact g2, g3⟩
  · have q1 : (s.env.set i (.ow ys))[j]? = some (.ow ys') := q1
    have q2 : (s.env.set i (.ow ys))[l]? = some (.ow zs') := q2
    have back : ∀ {j : Nat} {ys' : List D}, (s.env.set i (.ow ys))[j]? = some (.ow ys') → ∃ zs, s.env[j]? = some (.ow zs) := fun {j ys'} q => by
      by_cases hj : i = j
      · subst hj; exact ⟨xs, e⟩
      · rw [List.getElem?_set_ne hj] at q; exact ⟨ys', q⟩
    obtain ⟨z1, w1⟩ := back q1
    obtain ⟨z2, w2⟩ := back q2
    exact k.owi j l z1 z2 b w1 w2 q3 q4
  · have q : (s.env.set i (.ow ys))[j]? = some .th := q
    have hj : i ≠ j := by rintro rfl; rw [List.getElem?_set_self hi] at q; cases q
    rw [List.getElem?_set_ne hj] at q
    exact k.th j q
  · rw [upd_ne (fun z => by subst z; exact n u)]
    exact q
  · by_cases hb : b = c
    · subst hb; rw [upd_same] at q; cases q
    · rw [upd_ne hb] at q; exact q
/-- a box is written -/
theorem Ok.writeB (k : Ok T x s σ H) {n : Nat} {xs ys : List D} {us : List V} (e : s.sto[n]? = some xs) (r : Reps T x.io x.G us ys) :
    Ok T x { s with sto := s.sto.set n ys } σ (upd H (x.io.f n) (.lst us)) ∧ Stp x H x (upd H (x.io.f n) (.lst us)) := by
  have hn : n < s.sto.length := (List.getElem?_eq_some_iff.mp e).1
  have u := k.bx.inU n hn
  obtain ⟨vs0, hb0, _⟩ := k.bx.at_ n xs e
  refine ⟨⟨⟨by simpa using k.bx.n, fun j zs q => ?_, fun i hi => k.bx.inU i (by simpa using hi), fun i j hi hj => k.bx.inj i j (by simpa using hi) (by simpa using hj), fun b o q => ?_, k.bx.off, fun b q => ?_, fun p hp => ⟨(k.bx.tab p hp).1, tabS_lst hb0 (k.bx.tab p hp).2⟩, k.bx.lo⟩, k.len, k.sh, fun j zs q => ?_, k.owi, k.th, k.od.of (.refl _) (.refl _) (fun j ks ds e => ⟨e, rfl⟩) fun b kvs e u => ⟨by rw [upd_ne (fun z => by subst z; rw [hb0] at e; cases e)]; exact e, u⟩⟩, ⟨.refl _, .refl _, fun b o q n => ?_, fun _ _ q => .inl q, fun _ q => .inl q, fun b q => ?_⟩⟩
  · have q : (s.sto.set n ys)[j]? = some zs := q
    by_cases hj : n = j
    · subst hj
      rw [List.getElem?_set_self hn] at q
      cases q
      exact ⟨us, upd_same, r⟩
    · rw [List.getElem?_set_ne hj] at q
      obtain ⟨ws, h3, h4⟩ := k.bx.at_ j zs q
      exact ⟨ws, by rw [upd_ne (fun z => hj (k.bx.inj n j hn (List.getElem?_eq_some_iff.mp q).1 z.symm))]; exact h3, h4⟩
  · rw [upd_ne (fun z => by subst z; exact k.bx.off _ o q u)]
    exact k.bx.sub b o q
  · by_cases hb : b = x.io.f n
    · subst hb; exact ⟨_, upd_same⟩
    · rw [upd_ne hb]; exact k.bx.trk b q
  · obtain ⟨b, ws, g1, g2, g3, g4, g5⟩ := k.ow j zs q
    exact ⟨b, ws, g1, by rw [upd_ne (g5 n hn)]; exact g2, g3, g4, fun l hl => g5 l (by simpa using hl)⟩
  · rw [upd_ne (fun z => by subst z; exact n u)]
    exact q
  · by_cases hb : b = x.io.f n
    · subst hb; rw [upd_same] at q; cases q
    · rw [upd_ne hb] at q; exact q
/-- a list of one's own becomes a box, in slot i -/
theorem Ok.box (k : Ok T x s σ H) (i : Nat) {a : Addr} {xs : List D} (o : Own T x s σ H a xs) :
    ∃ x' : Gh, Ok T x' { env := s.env.set i (.sh (.box s.sto.length)), sto := s.sto ++ [xs] } (σ.set i (some (.ref a))) H ∧ Stp x H x' H := by
  have iole : x.io.Le ⟨fun j => if j = s.sto.length then a else x.io.f j, s.sto.length + 1⟩ := ⟨by rw [k.bx.n]; exact Nat.le_succ _, fun j hj => by
    rw [k.bx.n] at hj
    exact if_neg (Nat.ne_of_lt hj)⟩
  have old : ∀ j, j < s.sto.length → (if j = s.sto.length then a else x.io.f j) = x.io.f j := fun j hj => if_neg (Nat.ne_of_lt hj)
  refine ⟨⟨⟨fun j => if j = s.sto.length then a else x.io.f j, s.sto.length + 1⟩, x.G, x.U⟩, ?_, ⟨iole, .refl _, fun _ _ q _ => q, fun _ _ q => .inl q, fun _ q => .inl q, fun _ q => q⟩⟩
  have k0 : Ok T ⟨⟨fun j => if j = s.sto.length then a else x.io.f j, s.sto.length + 1⟩, x.G, x.U⟩ { env := s.env, sto := s.sto ++ [xs] } σ H := by
    refine ⟨⟨by simp, fun j ys q => ?_, fun j hj => ?_, fun j l hj hl q => ?_, k.bx.sub, k.bx.off, k.bx.trk, k.bx.tab, ⟨k.bx.lo.1.trans iole, k.bx.lo.2⟩⟩, k.len, fun j d q => ?_, fun j ys q => ?_, k.owi, k.th, k.od.of iole (.refl _) (fun _ _ _ e => ⟨e, rfl⟩) fun _ _ e u => ⟨e, u⟩⟩
    · have q : (s.sto ++ [xs])[j]? = some ys := q
      by_cases hj : j < s.sto.length
      · rw [List.getElem?_append_left hj] at q
        obtain ⟨vs, h1, h2⟩ := k.bx.at_ j ys q
        exact ⟨vs, by show H (if j = s.sto.length then a else x.io.f j) = _; rw [old j hj]; exact h1, h2.mono iole (.refl _)⟩
      · have hj2 : j = s.sto.length := by
          have := (List.getElem?_eq_some_iff.mp q).1
          simp at this
          omega
        subst hj2
        simp at q
        subst q
        obtain ⟨vs, h1, h2⟩ := o.l
        exact ⟨vs, by show H (if s.sto.length = s.sto.length then a else x.io.f s.sto.length) = _; rw [if_pos rfl]; exact h1, h2.mono iole (.refl _)⟩
    · show x.U (if j = s.sto.length then a else x.io.f j)
      by_cases hj2 : j = s.sto.length
      · rw [if_pos hj2]; exact o.u
      · rw [if_neg hj2]
        have hj : j < (s.sto ++ [xs]).length := hj
        simp at hj
        exact k.bx.inU j (by omega)
    · have hj : j < (s.sto ++ [xs]).length := hj
      have hl : l < (s.sto ++ [xs]).length := hl
      simp at hj hl
      have q : (if j = s.sto.length then a else x.io.f j) = (if l = s.sto.length then a else x.io.f l) := q
      by_cases h1 : j = s.sto.length
      · by_cases h2 : l = s.sto.length
        · omega
        · rw [if_pos h1, if_neg h2] at q
          exact absurd q (o.b l (by omega))
      · by_cases h2 : l = s.sto.length
        · rw [if_neg h1, if_pos h2] at q
          exact absurd q.symm (o.b j (by omega))
        · rw [if_neg h1, if_neg h2] at q
          exact k.bx.inj j l (by omega) (by omega) q
    · obtain ⟨v, h1, h2⟩ := k.sh j d q
      exact ⟨v, h1, h2.mono iole (.refl _)⟩
    · obtain ⟨b, vs, h1, h2, h3, h4, h5⟩ := k.ow j ys q
      refine ⟨b, vs, h1, h2, h3.mono iole (.refl _), h4, fun l hl => ?_⟩
      show b ≠ if l = s.sto.length then a else x.io.f l
      have hl : l < (s.sto ++ [xs]).length := hl
      simp at hl
      by_cases h6 : l = s.sto.length
      · rw [if_pos h6]
        intro z
        subst z
        exact o.o j ys q h1
      · rw [if_neg h6]; exact h5 l (by omega)
  exact k0.put i (by
    have h : Rep T ⟨fun j => if j = s.sto.length then a else x.io.f j, s.sto.length + 1⟩ x.G (.ref ((fun j => if j = s.sto.length then a else x.io.f j) s.sto.length)) (.box s.sto.length) := .box _ (Nat.lt_succ_self _)
    simpa using h)
/-! ### readings of names that are not shared by it -/
variable {W : WX} {X : Cx} {pos : Pos} {e : Expr} {ma mb mv : M D} {ml : M (List D)}
def slD (s : Sx) (i : Nat) : Option D := match s.env[i]? with
  | some (.sh d) => some d
  | some (.ow xs) => some (.lst xs)
  | _ => none
def D.flat : D → Bool
  | .non => true | .bl _ => true | .int _ => true | .str _ => true
  | _ => false
theorem Rep.flat {io io' : Io} {G G' : Hp} {v : V} {d : D} (r : Rep T io G v d) (h : d.flat = true) : Rep T io' G' v d := by
  cases r with
  | non => exact .non
  | bl b => exact .bl b
  | int i => exact .int i
  | str y => exact .str y
  | _ => cases h
/-- what stands in a slot, read for the moment: within a heap G1 between the shared one and the whole -/
theorem Ok.look (k : Ok T x s σ H) {i : Nat} {d : D} (e : slD s i = some d) : ∃ (v : V) (G1 : Hp), σ[i]? = some (some v) ∧ Le x.G G1 ∧ Le G1 H ∧ Rep T x.io G1 v d := by
  unfold slD at e
  cases q : s.env[i]? with
  | none => rw [q] at e; cases e
  | some sl =>
    rw [q] at e
    cases sl with
    | un => cases e
    | th => cases e
    | od ks ds => cases e
    | sh d' =>
      cases e
      obtain ⟨v, h1, h2⟩ := k.sh i d q
      exact ⟨v, x.G, h1, .refl _, k.bx.sub, h2⟩
    | ow xs =>
      cases e
      obtain ⟨a, vs, h1, h2, h3, h4, _⟩ := k.ow i xs q
      have gn : x.G a = none := by
        cases z : x.G a with
        | none => rfl
        | some o => exact absurd h4 (k.bx.off a o z)
      have le : Le x.G (upd x.G a (.lst vs)) := Le.upd gn
      refine ⟨_, upd x.G a (.lst vs), h1, le, fun c o z => ?_, .lst (.inl (.inl upd_same)) (h3.up le)⟩
      by_cases hc : c = a
      · subst hc; rw [upd_same] at z; cases z; exact h2
      · rw [upd_ne hc] at z; exact k.bx.sub c o z
/-- g(.. of a name ..), the answer flat -/
def mB1 (g : List D → Option D) (i : Nat) : M D := fun s => match slD s i with
  | some d => match g [d] with
    | some z => if z.flat = true then .ok z s else .bad
    | none => .bad
  | none => .bad
theorem tB1 {r : List V → Hp → VK → Prop} {g : List D → Option D} (p : PL T r g) {i : Nat} {Q : VK} (h : tD T W (mB1 g i) σ H Q) : tCB r (tCons (tVar i) tNil) σ H Q := by
  obtain ⟨x, s, k, h⟩ := h
  unfold mB1 at h
  cases e : slD s i with
  | none => rw [e] at h; exact h.elim
  | some d =>
    rw [e] at h
    cases e2 : g [d] with
    | none => simp only [e2] at h
    | some z =>
      simp only [e2] at h
      by_cases hf : z.flat = true
      · rw [if_pos hf] at h
        obtain ⟨v, G1, h1, l1, l2, r1⟩ := k.look e
        refine ⟨v, h1, p _ G1 [v] [d] z H Q (.one r1) l2 e2 fun G' v' H' gr r' => ?_⟩
        have g2 : Grow x.G H x.G H' := ⟨.refl _, gr.h, k.bx.sub.trans gr.h, fun _ _ q => .inl q⟩
        exact h _ v' H' (k.grow g2) g2.stp (r'.flat hf)
      · rw [if_neg hf] at h; exact h.elim
theorem de_biB {id : String} {r : List V → Hp → VK → Prop} {g : List D → Option D} {y z : Str} {p p2 : Pos} {i : Nat} (hc : CallR X (.builtin id) r) (pl : PL T r g) (hg : Gl X y) (hm : X.mg y = none) (hv : bootBuiltins y = some (.builtin id))
    (hN : X.N[i]? = some z) (hvis : Vis X.env.scope z) (hd : (z == ("__debug__" : Str)) = false := by decide) (hcd : (z == ("__classdict__" : Str)) = false := by decide) (hn : y ≠ "__name__" := by decide) (hdb : (y == ("__debug__" : Str)) = false := by decide) : PE X (.Call (.Name y p) [.Name z p2] [] pos) (tD T W (mB1 g i)) :=
  PE.imp (pe_callB hc hg hm hv (pa_cons (pe_var (pos := p2) (i := i) hN hvis hd hcd) pa_nil) hn hdb) fun _ _ _ h => tB1 pl h
/-- (name op e), the answer flat -/
def mB2 (g : D → D → Option D) (i : Nat) (mb : M D) : M D := fun s => match slD s i with
  | none => .bad
  | some _ => match mb s with
    | .ok b s' => match slD s' i with
      | some d => match g d b with
        | some z => if z.flat = true then .ok z s' else .bad
        | none => .bad
      | none => .bad
    | .exc c ns vs sto => .exc c ns vs sto
    | .bad => .bad
theorem tB2 {r : R2} {g : D → D → Option D} (p : P2 T r g) {i : Nat} {Q : VK} (h : tD T W (mB2 g i mb) σ H Q) : tOp r (tVar i) (tD T W mb) σ H Q := by
  obtain ⟨x, s, k, h⟩ := h
  unfold mB2 at h
  cases e0 : slD s i with
  | none => rw [e0] at h; exact h.elim
  | some d0 =>
    simp only [e0] at h
    obtain ⟨v0, _, h0, _⟩ := k.look e0
    refine ⟨v0, h0, x, s, k, ?_⟩
    cases eb : mb s with
    | exc c ns vs sto => rw [eb] at h; exact h
    | bad => rw [eb] at h; exact h
    | ok b s' =>
      simp only [eb] at h
      intro x' v' H' k' st rb
      cases e : slD s' i with
      | none => rw [e] at h; exact h.elim
      | some d =>
        simp only [e] at h
        cases e2 : g d b with
        | none => rw [e2] at h; exact h.elim
        | some z =>
          simp only [e2] at h
          by_cases hf : z.flat = true
          · rw [if_pos hf] at h
            obtain ⟨v, G1, h1, l1, l2, r1⟩ := k'.look e
            have ev : v = v0 := by
              have z : some (some v) = some (some v0) := h1.symm.trans h0
              injection z with z
              injection z
            subst ev
            refine p _ G1 v v' d b z H' Q r1 (rb.up l1) l2 e2 fun G' u' H2 gr r' => ?_
            have g2 : Grow x'.G H' x'.G H2 := ⟨.refl _, gr.h, k'.bx.sub.trans gr.h, fun _ _ q => .inl q⟩
            exact h _ u' H2 (k'.grow g2) (st.trans g2.stp) (r'.flat hf)
          · rw [if_neg hf] at h; exact h.elim
theorem de_cmpB {op : CmpOp} {r : R2} {g : D → D → Option D} {b : Expr} {z : Str} {p2 : Pos} {i : Nat} (ho : OpR X (compareOp op) r) (p : P2 T r g) (hN : X.N[i]? = some z) (hvis : Vis X.env.scope z) (hb : PE X b (tD T W mb)) (hm : behindInMarks op b = false)
    (hd : (z == ("__debug__" : Str)) = false := by decide) (hcd : (z == ("__classdict__" : Str)) = false := by decide) : PE X (.Compare (.Name z p2) [op] [b] pos) (tD T W (mB2 g i mb)) :=
  PE.imp (pe_cmpR ho (pe_var (pos := p2) (i := i) hN hvis hd hcd) hb hm) fun _ _ _ h => tB2 p h
/-- an item of a name's list -/
def itemsOf : D → Option (List D)
  | .lst xs => some xs
  | .tup xs => some xs
  | _ => none
def asI : D → Option Int
  | .int i => some i
  | _ => none
def mIxB (i : Nat) (mb : M D) : M D := fun s => match slD s i with
  | none => .bad
  | some _ => match mb s with
    | .ok (.int j) s' => match (slD s' i).bind itemsOf with
      | some xs => match atI xs j with
        | some z => .ok z s'
        | none => .bad
      | none => .bad
    | .ok _ _ => .bad
    | .exc c ns vs sto => .exc c ns vs sto
    | .bad => .bad
theorem atI_rep {io : Io} {G : Hp} {vs : List V} {ds : List D} {j : Int} {z : D} (r : Reps T io G vs ds) (h : atI ds j = some z) : ∃ v, atI vs j = some v ∧ Rep T io G v z := by
  unfold atI at h ⊢
  rw [r.length]
  cases e : ixN ds.length j with
  | none => rw [e] at h; cases h
  | some n =>
    rw [e] at h
    obtain ⟨v, h1, h2⟩ := r.get (i := n) h
    exact ⟨v, h1, h2⟩
/-- a slot's list: its items are shared -/
theorem Ok.items (k : Ok T x s σ H) {i : Nat} {xs : List D} (e : (slD s i).bind itemsOf = some xs) :
    ∃ (a : Addr) (vs : List V), σ[i]? = some (some (.ref a)) ∧ (SqL T.K H a vs ∨ SqT T.K H a vs) ∧ Reps T x.io x.G vs xs := by
  unfold slD at e
  cases q : s.env[i]? with
  | none => rw [q] at e; cases e
  | some sl =>
    rw [q] at e
    cases sl with
    | un => cases e
    | th => cases e
    | od ks ds => cases e
    | sh d' =>
      obtain ⟨v, h1, h2⟩ := k.sh i d' q
      cases h2 with
      | lst sq rs => cases e; exact ⟨_, _, h1, .inl (k.bx.sub.sqL sq), rs⟩
      | tup sq rs => cases e; exact ⟨_, _, h1, .inr (k.bx.sub.sqT sq), rs⟩
      | _ => cases e
    | ow ys =>
      cases e
      obtain ⟨a, vs, h1, h2, h3, h4, _⟩ := k.ow i xs q
      exact ⟨a, vs, h1, .inl (SqL.of h2), h3⟩
theorem de_ixB {b : Expr} {z : Str} {p2 : Pos} {i : Nat} (hK : X.K = T.K) (hN : X.N[i]? = some z) (hvis : Vis X.env.scope z) (hb : PE X b (tD T W mb)) (hs : PlainIx b)
    (hd : (z == ("__debug__" : Str)) = false := by decide) (hcd : (z == ("__classdict__" : Str)) = false := by decide) : PE X (.Subscript (.Name z p2) b pos) (tD T W (mIxB i mb)) :=
  PE.imp (pe_ix ix_seq (pe_var (pos := p2) (i := i) hN hvis hd hcd) hb hs) fun σ H Q ⟨x, s, k, h⟩ => by
    unfold mIxB at h
    cases e0 : slD s i with
    | none => rw [e0] at h; exact h.elim
    | some d0 =>
      simp only [e0] at h
      obtain ⟨v0, _, h0, _⟩ := k.look e0
      refine ⟨v0, h0, x, s, k, ?_⟩
      cases eb : mb s with
      | exc c ns vs sto => rw [eb] at h; exact h
      | bad => rw [eb] at h; exact h
      | ok b s' =>
        simp only [eb] at h
        intro x' v' H' k' st rb
        cases rb with
        | int j =>
          simp only at h
          cases e : (slD s' i).bind itemsOf with
          | none => rw [e] at h; exact h.elim
          | some xs =>
            simp only [e] at h
            cases e2 : atI xs j with
            | none => rw [e2] at h; exact h.elim
            | some z =>
              simp only [e2] at h
              obtain ⟨a, vs, h1, h2, h3⟩ := k'.items e
              obtain ⟨v, h4, h5⟩ := atI_rep h3 e2
              have ev : v0 = .ref a := by
                have z : some (some v0) = some (some (V.ref a)) := h0.symm.trans h1
                injection z with z
                injection z
              subst ev
              have q := h x' v H' k' st h5
              rcases h2 with h2 | h2
              · exact .inl ⟨a, vs, j, v, rfl, rfl, by rw [hK]; exact h2, h4, q⟩
              · exact .inr (.inl ⟨a, vs, j, v, rfl, rfl, by rw [hK]; exact h2, h4, q⟩)
        | _ => exact h.elim
/-- x.append(e), x a name of a list of one's own -/
def sApp (i : Nat) (ma : M D) : MS := fun s => match s.env[i]? with
  | some (.ow _) => sBind ma (fun d s' => match s'.env[i]? with
    | some (.ow xs) => if xs.length < sizeLine then .nx (s'.own i (xs ++ [d])) else .bad
    | _ => .bad) s
  | _ => .bad
theorem ds_app {z : Str} {i : Nat} {p1 p2 p3 : Pos} (hK : X.K = T.K) (hN : X.N[i]? = some z) (hvis : Vis X.env.scope z) (he : PE X e (tD T W ma)) (hsw : swapsWith (.Call (.Attribute (.Name z p1) "append" p2) [e] [] p3) none pos.line X.env = pure false := by rfl)
    (hfew : ((backTo p3 (starEach [e] X.env)).all (fun x => !x.1) && (backToKw p3 (keywordEach [] X.env)).all (fun x => x.1.isSome)
      && decide ([e].length + ([] : List Keyword).length + (if ([] : List Keyword).isEmpty then 0 else 1) < 30)) = true := by rfl)
    (hline : (p2.endLine == p3.line) = true := by rfl) (hs : starEach [e] X.env = (false, eval e X.env) :: starEach [] X.env := by rfl) (hplain : (backTo p3 (starEach [] X.env)).any (·.1) = false := by rfl)
    (hbase : attributeBase (.Name z p1) "append" X.env (eval (.Name z p1) X.env) = eval (.Name z p1) X.env := by rfl)
    (hd : (z == ("__debug__" : Str)) = false := by decide) (hcd : (z == ("__classdict__" : Str)) = false := by decide) : PS X (.Expr (.Call (.Attribute (.Name z p1) "append" p2) [e] [] p3) pos) (tS T W (sApp i ma)) :=
  PS.imp (ps_expr (pe_bm PySem.F.plainAttrs_list PySem.F.slot_list_append PySem.F.type_list_append mt_append (pe_var (pos := p1) (i := i) hN hvis hd hcd) (pa_cons he pa_nil hs) hbase hfew hline hs hplain) hsw) fun E σ H ⟨x, s, k, h⟩ => by
    have h : Fin T W E x H (sApp i ma s) := h
    unfold sApp at h
    cases q : s.env[i]? with
    | none => rw [q] at h; exact h.elim
    | some sl =>
      cases sl with
      | un => rw [q] at h; exact h.elim
      | th => rw [q] at h; exact h.elim
      | od ks ds => rw [q] at h; exact h.elim
      | sh d => rw [q] at h; exact h.elim
      | ow xs0 =>
        simp only [q] at h
        obtain ⟨a, vs0, h1, h2, h3, h4, h5⟩ := k.ow i xs0 q
        refine ⟨_, h1, .inl ⟨rfl, vs0, by rw [hK]; exact SqL.of h2⟩, ?_⟩
        refine tD_s k h fun d s' x' v H' k' _ r f => ?_
        cases q' : s'.env[i]? with
        | none => rw [q'] at f; exact f.elim
        | some sl =>
          cases sl with
          | un => rw [q'] at f; exact f.elim
          | th => rw [q'] at f; exact f.elim
          | od ks ds => rw [q'] at f; exact f.elim
          | sh d => rw [q'] at f; exact f.elim
          | ow xs =>
            simp only [q'] at f
            by_cases hl : xs.length < sizeLine
            · rw [if_pos hl] at f
              obtain ⟨a', vs, g1, g2, g3, g4, g5⟩ := k'.ow i xs q'
              have ea : a' = a := by
                have z : some (some (V.ref a')) = some (some (V.ref a)) := g1.symm.trans h1
                injection z with z
                injection z with z
                injection z
              subst ea
              obtain ⟨k2, st2⟩ := k'.write q' g1 (g3.append (.one r))
              exact ⟨_, vs, v, rfl, rfl, g2, by rw [g3.length]; exact hl, f x' σ _ k2 st2⟩
            · rw [if_neg hl] at f; exact f.elim
/-- x[e] = v: a box, or a name's own list -/
def sSetB (mo mi mv : M D) : MS := sBind mv fun v => sBind mo fun o => sBind mi fun j s => match o, j with
  | .box n, .int j => match s.sto[n]? with
    | some xs => match ixN xs.length j with
      | some m => .nx { s with sto := s.sto.set n (xs.set m v) }
      | none => .bad
    | none => .bad
  | _, _ => .bad
theorem ds_setB {o i' value : Expr} {tpos : Pos} {mo mi : M D} (hv : PE X value (tD T W mv)) (ho : PE X o (tD T W mo)) (hi : PE X i' (tD T W mi))
    (hs : swapsWithSole [.Subscript o i' tpos] value pos.line X.env = pure false := by rfl) (hw : swappedStores [.Subscript o i' tpos] value X.env = pure none := by rfl)
    (h1 : (assignEach [.Subscript o i' tpos] X.env).map (·.2) = [assign (.Subscript o i' tpos) X.env] := by rfl)
    (hass : ∀ v, assign (.Subscript o i' tpos) X.env v = (do
      let ov ← holding [v] (eval o X.env)
      let iv ← holding [v, ov] (eval i' X.env)
      standAt tpos
      holding [v, ov, iv] (setItem ov iv v)
      release [v, ov, iv] []) := by intro _; rfl) : PS X (.Assign [.Subscript o i' tpos] value pos) (tS T W (sSetB mo mi mv)) :=
  PS.imp (ps_asg hv (pg_sub ho hi set_list hass) hs hw h1) fun E σ H ⟨x, s, k, h⟩ => tD_s k h fun d s1 x1 v H1 k1 _ r1 f1 => tD_s k1 f1 fun od s2 x2 ov H2 k2 st2 r2 f2 => tD_s k2 f2 fun j s3 x3 iv H3 k3 st3 r3 f3 => by
    cases r2 with
    | box n hn =>
      cases r3 with
      | int j =>
        simp only at f3
        cases e : s3.sto[n]? with
        | none => rw [e] at f3; exact f3.elim
        | some xs =>
          simp only [e] at f3
          cases e2 : ixN xs.length j with
          | none => rw [e2] at f3; exact f3.elim
          | some m =>
            simp only [e2] at f3
            obtain ⟨vs, h3, h4⟩ := k3.bx.at_ n xs e
            have h5 : Reps T x3.io x3.G (vs.set m v) (xs.set m d) := h4.set ((r1.mono st2.io st2.le).mono st3.io st3.le) m
            obtain ⟨k4, st4⟩ := k3.writeB e h5
            have en : x3.io.f n = x2.io.f n := st3.io.2 n hn
            refine ⟨x2.io.f n, vs, j, m, rfl, rfl, by rw [← en]; exact h3, by rw [h4.length]; exact e2, ?_⟩
            rw [← en]
            exact f3 x3 σ _ k4 st4
      | _ => exact f3.elim
    | _ => exact f3.elim
/-- x[e] = v, x a name of a list of one's own -/
def sSetO (i : Nat) (mi mv : M D) : MS := sBind mv fun v s1 => match s1.env[i]? with
  | some (.ow _) => sBind mi (fun j s => match s.env[i]?, j with
    | some (.ow xs), .int j => match ixN xs.length j with
      | some m => .nx (s.own i (xs.set m v))
      | none => .bad
    | _, _ => .bad) s1
  | _ => .bad
theorem ds_setO {i' value : Expr} {z : Str} {i : Nat} {p1 tpos : Pos} {mi : M D} (hN : X.N[i]? = some z) (hvis : Vis X.env.scope z) (hv : PE X value (tD T W mv)) (hi : PE X i' (tD T W mi))
    (hs : swapsWithSole [.Subscript (.Name z p1) i' tpos] value pos.line X.env = pure false := by rfl) (hw : swappedStores [.Subscript (.Name z p1) i' tpos] value X.env = pure none := by rfl)
    (h1 : (assignEach [.Subscript (.Name z p1) i' tpos] X.env).map (·.2) = [assign (.Subscript (.Name z p1) i' tpos) X.env] := by rfl)
    (hass : ∀ v, assign (.Subscript (.Name z p1) i' tpos) X.env v = (do
      let ov ← holding [v] (eval (.Name z p1) X.env)
      let iv ← holding [v, ov] (eval i' X.env)
      standAt tpos
      holding [v, ov, iv] (setItem ov iv v)
      release [v, ov, iv] []) := by intro _; rfl)
    (hd : (z == ("__debug__" : Str)) = false := by decide) (hcd : (z == ("__classdict__" : Str)) = false := by decide) : PS X (.Assign [.Subscript (.Name z p1) i' tpos] value pos) (tS T W (sSetO i mi mv)) :=
  PS.imp (ps_asg hv (pg_sub (pe_var (pos := p1) (i := i) hN hvis hd hcd) hi set_list hass) hs hw h1) fun E σ H ⟨x, s, k, h⟩ => tD_s k h fun d s1 x1 v H1 k1 _ r1 f1 => by
    cases q : s1.env[i]? with
    | none => rw [q] at f1; exact f1.elim
    | some sl =>
      cases sl with
      | un => rw [q] at f1; exact f1.elim
      | th => rw [q] at f1; exact f1.elim
      | od ks ds => rw [q] at f1; exact f1.elim
      | sh d => rw [q] at f1; exact f1.elim
      | ow xs0 =>
        simp only [q] at f1
        obtain ⟨a, vs0, h1, h2, h3, h4, h5⟩ := k1.ow i xs0 q
        refine ⟨_, h1, tD_s k1 f1 fun j s3 x3 iv H3 k3 st3 r3 f3 => ?_⟩
        cases q' : s3.env[i]? with
        | none => rw [q'] at f3; exact f3.elim
        | some sl =>
          cases sl with
          | un => rw [q'] at f3; exact f3.elim
          | th => rw [q'] at f3; exact f3.elim
          | od ks ds => rw [q'] at f3; exact f3.elim
          | sh d => rw [q'] at f3; exact f3.elim
          | ow xs =>
            cases r3 with
            | int j =>
              simp only [q'] at f3
              cases e2 : ixN xs.length j with
              | none => rw [e2] at f3; exact f3.elim
              | some m =>
                simp only [e2] at f3
                obtain ⟨a', vs, g1, g2, g3, g4, g5⟩ := k3.ow i xs q'
                have ea : a' = a := by
                  have z : some (some (V.ref a')) = some (some (V.ref a)) := g1.symm.trans h1
                  injection z with z
                  injection z with z
                  injection z
                subst ea
                obtain ⟨k4, st4⟩ := k3.write q' g1 (g3.set (r1.mono st3.io st3.le) m)
                exact ⟨a', vs, j, m, rfl, rfl, g2, by rw [g3.length]; exact e2, f3 x3 σ _ k4 st4⟩
            | _ => simp only [q'] at f3; exact f3.elim
/-- name = a list of one's own, a box from now on -/
def sBox (i : Nat) (ml : M (List D)) : MS := sBind ml fun xs s => .nx { env := s.env.set i (.sh (.box s.sto.length)), sto := s.sto ++ [xs] }
theorem ds_box {i : Nat} {y : Str} {pos' : Pos} (hN : X.N.Nodup) (hi : X.N[i]? = some y) (hx : Loc X.env.scope y) (he : PE X e (tF T W ml)) (hs : swapsWith e (some (.Name y pos')) pos.line X.env = pure false := by rfl) (hf : X.fn y = true ∨ X.env.scope.names.lookup y = some .local := by first | exact .inl rfl | exact .inr rfl | assumption) :
    PS X (.Assign [.Name y pos'] e pos) (tS T W (sBox i ml)) :=
  PS.imp (ps_set hN hi hx he hs hf) fun E σ H ⟨x, s, k, h⟩ => tF_s k h fun d s' x' v H' k' o f => by
    obtain ⟨x2, k2, st2⟩ := k'.box i o
    exact f x2 _ H' k2 st2
/-- o[i]: a list's, a tuple's, a text's item, or a box's -/
def gIx (a b : D) : Option D := match a, b with
  | .lst xs, .int j => atI xs j
  | .tup xs, .int j => atI xs j
  | .str z, .int j => if z.length ≤ sizeLine then (atI z.cps.toList j).map fun c => .str ⟨#[c]⟩ else none
  | _, _ => none
def ixPost (a b : D) (s : Sx) : R D := match a with
  | .box n => match b with
    | .int j => match s.sto[n]? with
      | some xs => match atI xs j with
        | some z => .ok z s
        | none => .bad
      | none => .bad
    | _ => .bad
  | a => match gIx a b with
    | some z => .ok z s
    | none => .bad
theorem ixPost_ne {a b : D} {s : Sx} (h : ∀ n, a ≠ .box n) : ixPost a b s = match gIx a b with
    | some z => .ok z s
    | none => .bad := by
  cases a <;> first | rfl | exact absurd rfl (h _)
def mIx (ma mb : M D) : M D := M.bind ma fun a => M.bind mb fun b => ixPost a b
theorem p_ix (hK : X.K = T.K) : P2 T (rIx X.K) gIx := fun io G v u d e z H Q r1 r2 le h q => by
  rw [hK]
  cases r2 with
  | int j =>
    cases r1 with
    | lst sq rs =>
      obtain ⟨v', h1, h2⟩ := atI_rep rs h
      exact .inl ⟨_, _, j, v', rfl, rfl, le.sqL sq, h1, q G v' H (.refl le) h2⟩
    | tup sq rs =>
      obtain ⟨v', h1, h2⟩ := atI_rep rs h
      exact .inr (.inl ⟨_, _, j, v', rfl, rfl, le.sqT sq, h1, q G v' H (.refl le) h2⟩)
    | str y =>
      unfold gIx at h
      simp only at h
      by_cases hl : y.length ≤ sizeLine
      · rw [if_pos hl] at h
        cases e : atI y.cps.toList j with
        | none => rw [e] at h; cases h
        | some c =>
          rw [e] at h
          cases h
          exact .inr (.inr ⟨y, j, c, rfl, rfl, hl, e, q G _ H (.refl le) (.str _)⟩)
      · rw [if_neg hl] at h; cases h
    | _ => cases h
  | _ => cases r1 <;> cases h
theorem de_ixA {a b : Expr} (hK : X.K = T.K) (ha : PE X a (tD T W ma)) (hb : PE X b (tD T W mb)) (hs : PlainIx b) : PE X (.Subscript a b pos) (tD T W (mIx ma mb)) :=
  PE.imp (pe_ix ix_seq ha hb hs) fun σ H Q ⟨x, s, k, h⟩ => by
    refine ⟨x, s, k, ?_⟩
    unfold mIx M.bind at h
    cases e1 : ma s with
    | exc c ns vs sto => rw [e1] at h; exact h
    | bad => rw [e1] at h; exact h
    | ok a s1 =>
      rw [e1] at h
      intro x1 v1 H1 k1 st1 r1
      refine ⟨x1, s1, k1, ?_⟩
      simp only at h
      cases e2 : mb s1 with
      | exc c ns vs sto => rw [e2] at h; exact h.back st1
      | bad => rw [e2] at h; exact h
      | ok b s2 =>
        rw [e2] at h
        intro x2 v2 H2 k2 st2 r2
        simp only at h
        have pure_ : ∀ z, gIx a b = some z → (∀ x' v H', Ok T x' s2 σ H' → Stp x H x' H' → Rep T x'.io x'.G v z → Q v H') → rIx X.K v1 v2 H2 Q := fun z hz hq =>
          p_ix hK _ x2.G v1 v2 a b z H2 Q (r1.mono st2.io st2.le) r2 k2.bx.sub hz fun G' v' H3 gr r3 => hq _ v' H3 (k2.grow gr) (st1.trans (st2.trans gr.stp)) r3
        by_cases hb : ∃ n, a = .box n
        · obtain ⟨n, rfl⟩ := hb
          cases r2 with
          | int j =>
            unfold ixPost at h
            simp only at h
            cases e3 : s2.sto[n]? with
            | none => rw [e3] at h; exact h.elim
            | some xs =>
              simp only [e3] at h
              cases e4 : atI xs j with
              | none => rw [e4] at h; exact h.elim
              | some z =>
                simp only [e4] at h
                cases r1 with
                | box _ hn =>
                  obtain ⟨vs, g1, g2⟩ := k2.bx.at_ n xs e3
                  obtain ⟨v, g3, g4⟩ := atI_rep g2 e4
                  rw [st2.io.2 n hn] at g1
                  exact .inl ⟨_, vs, j, v, rfl, rfl, SqL.of g1, g3, h x2 v H2 k2 (st1.trans st2) g4⟩
          | _ => exact h.elim
        · rw [ixPost_ne fun n z => hb ⟨n, z⟩] at h
          cases e3 : gIx a b with
          | some z => rw [e3] at h; exact pure_ z e3 h
          | none => rw [e3] at h; exact h.elim
end
end Ev

/-! E4: what is walked, loops, comprehensions, calls of defs. -/
namespace Ev
open PySem PySem.Spec L2
/-- the iterator J yields these data -/
structure Src (T : Tx) (io : Io) (G : Hp) (J : It) (ds : List D) : Prop where
  stop : ∀ i H, Le G H → ds.length = i → J.stop i H
  go : ∀ i H, Le G H → i < ds.length → J.go i H
  yld : ∀ (i : Nat) (H : Hp) (v : V) (H' G1 : Hp) (d : D), Le G G1 → Le G1 H → ds[i]? = some d → J.yld i H v H' → ∃ G', Grow G1 H G' H' ∧ Rep T io G' v d
def tI (T : Tx) (W : WX) (m : M (List D)) : TI := fun σ H R => ∃ (x : Gh) (s : Sx), Ok T x s σ H ∧ match m s with
  | .ok ds s' => ∀ x' J H', Ok T x' s' σ H' → Stp x H x' H' → Src T x'.io x'.G J ds → R J H'
  | .exc c ns vs sto => XP T W x σ H c ns vs sto
  | .bad => False
theorem PI.imp {X : Cx} {tg e : Expr} {t t' : TI} (h : PI X tg e t) (k : ∀ σ H Q, t' σ H Q → t σ H Q) : PI X tg e t' := ⟨fun pins s σ H R I q => h.run pins s σ H R I (k σ H R q)⟩
theorem PI.or {X : Cx} {tg e : Expr} {t t' : TI} (h : PI X tg e t) (h' : PI X tg e t') : PI X tg e (fun σ H Q => t σ H Q ∨ t' σ H Q) := ⟨fun pins s σ H R I q => q.elim (h.run pins s σ H R I) (h'.run pins s σ H R I)⟩
def mItems (m : M D) : M (List D) := M.bind m fun d => M.lift (itemsOf d)
section
variable {T : Tx} {W : WX} {X : Cx} {tg e : Expr} {ma : M D} {ml : M (List D)} {pos : Pos}
/-- over a list or a tuple -/
theorem di_seq (hK : X.K = T.K) (h : PE X e (tD T W ma)) : PI X tg e (tI T W (mItems ma)) :=
  PI.imp (PI.or (pi_list h) (pi_tup h)) fun σ H R ⟨x, s, k, q⟩ => by
    unfold mItems M.bind M.lift at q
    cases em : ma s with
    | exc c ns vs sto => rw [em] at q; exact .inl ⟨x, s, k, by rw [em]; exact q⟩
    | bad => rw [em] at q; exact q.elim
    | ok d s' =>
      rw [em] at q
      simp only at q
      cases d with
      | lst xs =>
        refine .inl ⟨x, s, k, ?_⟩
        rw [em]
        intro x' v H' k' st r
        cases r with
        | @lst a vs ds sq rs =>
          refine ⟨a, rfl, ⟨vs, by rw [hK]; exact k'.bx.sub.sqL sq⟩, q x' _ H' k' st ⟨fun i H1 le hi => ?_, fun i H1 le hi => ?_, fun i H1 v H2 G1 d le le1 hd hy => ?_⟩⟩
          · exact ⟨vs, by rw [hK]; exact le.sqL sq, by rw [rs.length]; first | exact hi | exact Nat.le_of_eq hi⟩
          · obtain ⟨v, h1, _⟩ := rs.get (List.getElem?_eq_getElem hi)
            exact ⟨vs, v, by rw [hK]; exact le.sqL sq, h1⟩
          · obtain ⟨rfl, h2⟩ := hy
            obtain ⟨v', h1, h3⟩ := rs.get hd
            have := h2 vs (by rw [hK]; exact (le.trans le1).sqL sq)
            rw [h1] at this
            cases this
            exact ⟨G1, .refl le1, h3.up le⟩
      | tup xs =>
        refine .inr ⟨x, s, k, ?_⟩
        rw [em]
        intro x' v H' k' st r
        cases r with
        | @tup a vs ds sq rs =>
          refine ⟨a, rfl, ⟨vs, by rw [hK]; exact k'.bx.sub.sqT sq⟩, q x' _ H' k' st ⟨fun i H1 le hi => ?_, fun i H1 le hi => ?_, fun i H1 v H2 G1 d le le1 hd hy => ?_⟩⟩
          · exact ⟨vs, by rw [hK]; exact le.sqT sq, by rw [rs.length]; first | exact hi | exact Nat.le_of_eq hi⟩
          · obtain ⟨v, h1, _⟩ := rs.get (List.getElem?_eq_getElem hi)
            exact ⟨vs, v, by rw [hK]; exact le.sqT sq, h1⟩
          · obtain ⟨rfl, h2⟩ := hy
            obtain ⟨v', h1, h3⟩ := rs.get hd
            have := h2 vs (by rw [hK]; exact (le.trans le1).sqT sq)
            rw [h1] at this
            cases this
            exact ⟨G1, .refl le1, h3.up le⟩
      | _ => exact q.elim
/-- range(n), range(a, b) -/
def rngL (lo : Int) (n : Nat) : List D := (List.range n).map fun (i : Nat) => D.int (lo + (i : Int))
theorem src_rng {io : Io} {G : Hp} (lo : Int) (n : Nat) : Src T io G (Itr lo n) (rngL lo n) := by
  have hl : (rngL lo n).length = n := by simp [rngL]
  refine ⟨fun i H _ hi => by rw [hl] at hi; exact Nat.le_of_eq hi, fun i H _ hi => by rw [hl] at hi; exact hi, fun i H v H' G1 d le le1 hd hy => ?_⟩
  obtain ⟨rfl, rfl⟩ := hy
  have hi : i < n := by
    have := (List.getElem?_eq_some_iff.mp hd).1
    rwa [hl] at this
  have : d = .int (lo + i) := by
    unfold rngL at hd
    rw [List.getElem?_map, List.getElem?_range hi] at hd
    exact (Option.some.inj hd).symm
  subst this
  exact ⟨G1, .refl le1, .int _⟩
def gRng1 (ds : List D) : Option (List D) := match ds with
  | [.int j] => if -(2 ^ 62) ≤ j ∧ j < 2 ^ 62 then some (rngL 0 j.toNat) else none
  | _ => none
def gRng2 (ds : List D) : Option (List D) := match ds with
  | [.int i, .int j] => if (-(2 ^ 62) ≤ i ∧ i < 2 ^ 62) ∧ -(2 ^ 62) ≤ j ∧ j < 2 ^ 62 then some (rngL i (j - i).toNat) else none
  | _ => none
def mRng (g : List D → Option (List D)) (m : M (List D)) : M (List D) := M.bind m fun ds => M.lift (g ds)
theorem di_rng1 {a : Expr} {p : Pos} (hg : Gl X "range") (hm : X.mg "range" = none) (ha : PA X [a] (tDs T W ml)) (hs : starEach [a] X.env = [(false, eval a X.env)] := by rfl) : PI X tg (.Call (.Name "range" p) [a] [] pos) (tI T W (mRng gRng1 ml)) :=
  PI.imp (pi_range1 hg hm ha hs) fun σ H R ⟨x, s, k, q⟩ => by
    refine ⟨x, s, k, ?_⟩
    unfold mRng M.bind M.lift at q
    cases em : ml s with
    | exc c ns vs sto => rw [em] at q; exact q
    | bad => rw [em] at q; exact q
    | ok ds s' =>
      rw [em] at q
      simp only at q
      intro x' vs H' k' st r
      cases e2 : gRng1 ds with
      | none => rw [e2] at q; exact q.elim
      | some l =>
        simp only [e2] at q
        unfold gRng1 at e2
        split at e2
        · rename_i j
          split at e2
          · rename_i hj
            cases e2
            cases r with
            | cons r1 r2 =>
              cases r1
              cases r2
              exact ⟨j, rfl, hj.1, hj.2, q x' _ H' k' st (src_rng _ _)⟩
          · cases e2
        · cases e2
theorem di_rng2 {a b : Expr} {p : Pos} (hg : Gl X "range") (hm : X.mg "range" = none) (ha : PA X [a, b] (tDs T W ml)) (hs : starEach [a, b] X.env = [(false, eval a X.env), (false, eval b X.env)] := by rfl) (hs2 : starEach [b] X.env = [(false, eval b X.env)] := by rfl) : PI X tg (.Call (.Name "range" p) [a, b] [] pos) (tI T W (mRng gRng2 ml)) :=
  PI.imp (pi_range2 hg hm ha hs hs2) fun σ H R ⟨x, s, k, q⟩ => by
    refine ⟨x, s, k, ?_⟩
    unfold mRng M.bind M.lift at q
    cases em : ml s with
    | exc c ns vs sto => rw [em] at q; exact q
    | bad => rw [em] at q; exact q
    | ok ds s' =>
      rw [em] at q
      simp only at q
      intro x' vs H' k' st r
      cases e2 : gRng2 ds with
      | none => rw [e2] at q; exact q.elim
      | some l =>
        simp only [e2] at q
        unfold gRng2 at e2
        split at e2
        · rename_i i j
          split at e2
          · rename_i hj
            cases e2
            cases r with
            | cons r1 r2 =>
              cases r1
              cases r2 with
              | cons r3 r4 =>
                cases r3
                cases r4
                exact ⟨i, j, rfl, ⟨hj.1.1, hj.1.2, hj.2.1, hj.2.2⟩, q x' _ H' k' st (src_rng _ _)⟩
          · cases e2
        · cases e2
end
/-! ### for -/
def forL (t : Tg) (body : MS) : List D → MS
  | [] => fun s => .nx s
  | d :: ds => fun s => match t.run d s with
    | none => .bad
    | some s1 => match body s1 with
      | .nx s2 => forL t body ds s2
      | .ct s2 => forL t body ds s2
      | .bk s2 => .nx s2
      | r => r
def sFor (mi : M (List D)) (t : Tg) (body : MS) : MS := sBind mi fun ds => forL t body ds
section
variable {T : Tx} {W : WX} {X : Cx} {tg iter : Expr} {mi : M (List D)} {t : Tg} {mb : MS} {body : List Stmt} {pos : Pos}
theorem ds_for (hp : PassesOwn (model X.prog X.w) X.A X.env X.xe) (hc : X.calm = true) (hi : PI X tg iter (tI T W mi)) (hg : PG X tg (gD T t)) (hb : PSs X body (tS T W mb))
    (hs : ∀ x, foldedSetIterable iter X.env x = pure x := by intro _; rfl) : PS X (.For tg iter body [] pos) (tS T W (sFor mi t mb)) :=
  PS.imp (ps_for hp hc hi hg hb hs) fun E σ H ⟨x, s, k, h⟩ => by
    refine ⟨x, s, k, ?_⟩
    have h : Fin T W E x H (sFor mi t mb s) := h
    unfold sFor sBind at h
    cases em : mi s with
    | exc c ns vs sto => rw [em] at h; exact h σ
    | bad => rw [em] at h; exact h
    | ok ds s' =>
      rw [em] at h
      intro x0 J H0 k0 st0 src
      have h0 := h.back st0
      refine ⟨fun i m σ H => ∃ (x : Gh) (s : Sx), Ok T x s σ H ∧ Le x0.G x.G ∧ x0.io.Le x.io ∧ i ≤ ds.length ∧ m = ds.length - i ∧ Fin T W E x H (forL t mb (ds.drop i) s), ⟨ds.length, x0, s', k0, .refl _, .refl _, Nat.zero_le _, rfl, h0⟩, ?_⟩
      rintro i m σ1 H1 ⟨x1, s1, k1, le1, io1, hi1, rfl, f1⟩
      by_cases hlt : i < ds.length
      · refine .inr ⟨src.go i H1 (le1.trans k1.bx.sub) hlt, fun σ' H' => ∃ (x : Gh) (s : Sx), Ok T x s σ' H' ∧ Le x0.G x.G ∧ x0.io.Le x.io ∧ Fin T W E x H' (forL t mb (ds.drop (i + 1)) s), fun σ' H' ⟨x2, s2, k2, l2, o2, f2⟩ => ⟨ds.length - (i + 1), by omega, x2, s2, k2, l2, o2, hlt, rfl, f2⟩, fun v H2 hy => ?_⟩
        obtain ⟨G2, gr, r⟩ := src.yld i H1 v H2 x1.G ds[i] le1 k1.bx.sub (List.getElem?_eq_getElem hlt) hy
        have k2 := k1.grow gr
        have f2 := f1.back gr.stp
        rw [List.drop_eq_getElem_cons hlt] at f2
        unfold forL at f2
        cases e2 : t.run ds[i] s1 with
        | none => rw [e2] at f2; exact f2.elim
        | some s2 =>
          simp only [e2] at f2
          refine ⟨_, s1, s2, ds[i], k2, r.mono io1 (.refl _), e2, fun σ2 k3 _ _ => ⟨_, s2, k3, ?_⟩⟩
          have lg : Le x0.G G2 := le1.trans gr.g
          cases e3 : mb s2 with
          | nx s3 => rw [e3] at f2; exact fun x' σ' H' k' st => ⟨x', s3, k', lg.trans st.le, io1.trans st.io, f2.back st⟩
          | ct s3 => rw [e3] at f2; exact fun x' σ' H' k' st => ⟨x', s3, k', lg.trans st.le, io1.trans st.io, f2.back st⟩
          | bk s3 => rw [e3] at f2; exact f2
          | rt d sto => rw [e3] at f2; exact f2
          | ro xs sto => rw [e3] at f2; exact f2
          | exc c ns vs sto => rw [e3] at f2; exact f2
          | bad => rw [e3] at f2; exact f2
      · have e : i = ds.length := by omega
        subst e
        refine .inl ⟨src.stop _ H1 (le1.trans k1.bx.sub) rfl, ?_⟩
        rw [List.drop_length] at f1
        exact f1 x1 σ1 H1 k1 (.refl _ _)
end
/-! ### while, by fuel -/
def whL (c : M Bool) (body : MS) : Nat → MS
  | 0 => fun _ => .bad
  | n + 1 => sBind c fun b s => if b = true then (match body s with
      | .nx s2 => whL c body n s2
      | .ct s2 => whL c body n s2
      | .bk s2 => .nx s2
      | r => r) else .nx s
section
variable {T : Tx} {W : WX} {X : Cx} {mc : M Bool} {mb : MS} {body : List Stmt} {c : Expr} {pos : Pos}
theorem ds_while (n : Nat) (hp : PassesOwn (model X.prog X.w) X.A X.env X.xe) (hc : PT X c (tB T W mc)) (hb : PSs X body (tS T W mb)) : PS X (.While c body [] pos) (tS T W (whL mc mb n)) :=
  PS.imp (ps_while hp hc hb) fun E σ H ⟨x, s, k, h⟩ => by
    refine ⟨fun m σ H => ∃ (x : Gh) (s : Sx), Ok T x s σ H ∧ Fin T W E x H (whL mc mb m s), ⟨n, x, s, k, h⟩, ?_⟩
    rintro m σ1 H1 ⟨x1, s1, k1, f1⟩
    cases m with
    | zero => exact f1.elim
    | succ m =>
      unfold whL at f1
      refine tB_s k1 f1 fun b s2 x2 H2 k2 f2 => ?_
      cases b with
      | false => rw [if_neg Bool.false_ne_true] at f2 ⊢; exact f2 x2 σ1 H2 k2 (.refl _ _)
      | true =>
        rw [if_pos rfl] at f2 ⊢
        refine ⟨fun σ' H' => ∃ (x : Gh) (s : Sx), Ok T x s σ' H' ∧ Fin T W E x H' (whL mc mb m s), fun σ' H' q => ⟨m, Nat.lt_succ_self _, q⟩, x2, s2, k2, ?_⟩
        cases e3 : mb s2 with
        | nx s3 => rw [e3] at f2; exact fun x' σ' H' k' st => ⟨x', s3, k', f2.back st⟩
        | ct s3 => rw [e3] at f2; exact fun x' σ' H' k' st => ⟨x', s3, k', f2.back st⟩
        | bk s3 => rw [e3] at f2; exact f2
        | rt d sto => rw [e3] at f2; exact f2
        | ro xs sto => rw [e3] at f2; exact f2
        | exc c ns vs sto => rw [e3] at f2; exact f2
        | bad => rw [e3] at f2; exact f2
end
/-! ### calls of defs -/
abbrev Fn := List D → List (List D) → RS
def FinF (T : Tx) (Q : VK) (E : XK) (x : Gh) (H : Hp) (r : RS) : Prop := match r with
  | .rt d sto => ∀ x' v H', Bx T x' sto H' → Stp x H x' H' → Rep T x'.io x'.G v d → Q v H'
  | .ro xs sto => ∀ x' a H', Bx T x' sto H' → Stp x H x' H' → Own T x' ⟨[], sto⟩ [] H' a xs → Q (.ref a) H'
  | .exc c ns vs sto => ∀ (x' : Gh) (dd : Addr) (us : List V) (H' : Hp), Bx T x' sto H' → Stp x H x' H' → XD T x' H H' dd ns us vs → E (.ref (T.ca c)) (some dd) H'
  | _ => False
/-- the promise of a def: n arguments -/
def spD (T : Tx) (n : Nat) (F : Fn) : Sp := fun vs H Q E => ∃ (x : Gh) (ds : List D) (sto : List (List D)), Bx T x sto H ∧ (∀ a, x.U a → (∃ i, i < sto.length ∧ a = x.io.f i) ∨ ∃ p ∈ T.tb, a = p.1) ∧ Reps T x.io x.G vs ds ∧ vs.length = n ∧ FinF T Q E x H (F ds sto)
/-- a body's end as a def's -/
def bodyF (n : Nat) (m : MS) : Fn := fun ds sto => match m ⟨ds.map .sh ++ List.replicate (n - ds.length) .un, sto⟩ with
  | .nx s => .rt .non s.sto
  | .bk _ => .bad
  | .ct _ => .bad
  | r => r
/-- a def's promise, where nothing is being shown (repr's guards) -/
structure FnG (P : Program) (w : World) (K : PySem.W.Frag) (mg : Str → Option Value) (base : Heap) (CX : CXT) (k : Nat) (f : Addr) (fd : FuncData) (ps : List Str) (sp : Sp) : Prop where
  len : ∀ vs H Q E, sp vs H Q E → vs.length = ps.length
  run : ∀ (A : Around) (outer : List Env) (s : Shared) (H : Hp) (args : Args) (us : List Value) (vs : List V) (Q : VK) (E : XK), A.guards = some [] → Room k A → Env0 P w K mg base A outer s H →
    BindsTo s fd args (ps.zip us) → Vals vs us → sp vs H Q E → codeAny (model P w) A (.call (.ref f) args) (CR CX outer P w H s Q E) s
/-- a def of the text -/
structure DefOk (T : Tx) (P : Program) (mg : Str → Option Value) (base : Heap) (k : Nat) (dd : He.DefD) (ps : List Str) (F : Fn) : Prop where
  ex : ∃ (f : Addr) (fd : FuncData), mg dd.name = some (.ref f) ∧ FunD T.K dd.name dd.qual dd.params dd.body dd.scope (dd.dvs T.K) (dd.kws T.K) f fd ∧ (dd.dfl = [] → Binds T.K fd ps []) ∧ FnG P T.w T.K mg base (L2.CX P T.w) k f fd ps (spD T ps.length F)
def mCall (F : Fn) (ml : M (List D)) : M D := M.bind ml fun ds s => match F ds s.sto with
  | .rt d sto => .ok d { s with sto := sto }
  | .ro xs sto => .ok (.lst xs) { s with sto := sto }
  | .exc c ns vs sto => .exc c ns vs sto
  | _ => .bad
/-- a call whose answer is a list of one's own -/
def mCallF (F : Fn) (ml : M (List D)) : M (List D) := M.bind ml fun ds s => match F ds s.sto with
  | .ro xs sto => .ok xs { s with sto := sto }
  | .exc c ns vs sto => .exc c ns vs sto
  | _ => .bad
section
variable {T : Tx}
/-- what a callee may change: boxes, tables -/
def bdU (T : Tx) (x : Gh) (s : Sx) (a : Addr) : Prop := (∃ i, i < s.sto.length ∧ a = x.io.f i) ∨ ∃ p ∈ T.tb, a = p.1
theorem bd_U {x : Gh} {s : Sx} {H : Hp} (b : Bx T x s.sto H) {a : Addr} (h : bdU T x s a) : x.U a := by
  rcases h with ⟨i, hi, rfl⟩ | ⟨p, hp, rfl⟩
  · exact b.inU i hi
  · exact (b.tab p hp).1
theorem bd_not {x : Gh} {s : Sx} {H : Hp} {sto : List (List D)} (b : Bx T x sto H) {a : Addr} {vs : List V} (h : H a = some (.lst vs)) (n : ∀ j, j < s.sto.length → a ≠ x.io.f j) : ¬ bdU T x s a := by
  rintro (⟨i, hi, z⟩ | ⟨p, hp, rfl⟩)
  · exact n i hi z
  · obtain ⟨ps, e, _⟩ := (b.tab p hp).2
    rw [h] at e; cases e
theorem bd_notD {x : Gh} {s : Sx} {H : Hp} (b : Bx T x s.sto H) {a : Addr} {kvs : List (Key × V)} (h : H a = some (.dK kvs)) : ¬ bdU T x s a := by
  rintro (⟨i, hi, z⟩ | ⟨p, hp, rfl⟩)
  · obtain ⟨vs, e, _⟩ := b.at_ i _ (List.getElem?_eq_getElem hi)
    rw [← z, h] at e; cases e
  · obtain ⟨ps, e, _⟩ := (b.tab p hp).2
    rw [h] at e; cases e
theorem Ok.after {x y : Gh} {s : Sx} {σ : L2.St} {H H' : Hp} {sto : List (List D)} (k : Ok T x s σ H) (b : Bx T y sto H') (st : Stp ⟨x.io, x.G, bdU T x s⟩ H y H') :
    Ok T ⟨y.io, y.G, fun a => x.U a ∨ y.U a⟩ { s with sto := sto } σ H' ∧ Stp x H ⟨y.io, y.G, fun a => x.U a ∨ y.U a⟩ H' := by
  have io : x.io.Le y.io := st.io
  have le : Le x.G y.G := st.le
  have hln : s.sto.length ≤ sto.length := by rw [← k.bx.n, ← b.n]; exact io.1
  have keep : ∀ a o, H a = some o → ¬ bdU T x s a → H' a = some o := fun a o e n => st.fr a o e n
  have bY : ∀ a, bdU T x s a → y.U a := fun a h => by
    rcases h with ⟨i, hi, rfl⟩ | ⟨p, hp, rfl⟩
    · rw [← io.2 i (by rw [k.bx.n]; exact hi)]
      exact b.inU i (Nat.lt_of_lt_of_le hi hln)
    · exact (b.tab p hp).1
  have off : ∀ a o, y.G a = some o → ¬ (x.U a ∨ y.U a) := fun a o e z => by
    rcases z with z | z
    · rcases st.new a o e with q | q | q
      · exact k.bx.off a o q z
      · exact b.off _ o e (bY a q)
      · obtain ⟨o', z'⟩ := k.bx.trk a z
        rw [q] at z'; cases z'
    · exact b.off a o e z
  have trk : ∀ a, x.U a → ∃ o, H' a = some o := fun a u => by
    obtain ⟨o, e⟩ := k.bx.trk a u
    cases q : H' a with
    | some o' => exact ⟨o', rfl⟩
    | none => rw [st.th a q] at e; cases e
  refine ⟨⟨⟨b.n, b.at_, fun i hi => .inr (b.inU i hi), b.inj, b.sub, off, fun a u => u.elim (trk a) (b.trk a), fun p hp => ⟨.inr (b.tab p hp).1, (b.tab p hp).2⟩, b.lo⟩, k.len, fun i d e => ?_, fun i xs e => ?_, k.owi, k.th, k.od.of io le (fun _ _ _ e => ⟨e, rfl⟩) fun a kvs e u => ⟨keep a _ e (bd_notD k.bx e), .inl u⟩⟩, ⟨io, le, fun a o e n => keep a o e fun z => n (bd_U k.bx z), fun a o e => ?_, fun a u => ?_, st.th⟩⟩
  · obtain ⟨v, h1, h2⟩ := k.sh i d e
    exact ⟨v, h1, h2.mono io le⟩
  · obtain ⟨a, vs, h1, h2, h3, h4, h5⟩ := k.ow i xs e
    have nb := bd_not (s := s) k.bx h2 h5
    refine ⟨a, vs, h1, keep a _ h2 nb, h3.mono io le, .inl h4, fun j hj z => ?_⟩
    rcases st.un _ (b.inU j hj) with q | q
    · rw [← z] at q; exact nb q
    · rw [← z, h2] at q; cases q
  · rcases st.new a o e with q | q | q
    · exact .inl q
    · exact .inr (.inl (bd_U k.bx q))
    · exact .inr (.inr q)
  · rcases u with u | u
    · exact .inl u
    · rcases st.un a u with q | q
      · exact .inl (bd_U k.bx q)
      · exact .inr q
theorem Ok.afterOwn {x y : Gh} {s : Sx} {σ : L2.St} {H H' : Hp} {sto : List (List D)} {a : Addr} {xs : List D} (k : Ok T x s σ H) (b : Bx T y sto H') (st : Stp ⟨x.io, x.G, bdU T x s⟩ H y H')
    (o : Own T y ⟨[], sto⟩ [] H' a xs) : Own T ⟨y.io, y.G, fun a => x.U a ∨ y.U a⟩ { s with sto := sto } σ H' a xs := by
  refine ⟨.inr o.u, o.l, o.b, fun i ys e z => ?_⟩
  obtain ⟨c, vs, h1, h2, h3, h4, h5⟩ := k.ow i ys e
  rw [h1] at z
  injection z with z
  injection z with z
  injection z with z
  subst z
  rcases st.un c o.u with q | q
  · exact bd_not (s := s) k.bx h2 h5 q
  · rw [h2] at q; cases q
theorem bx_call {x : Gh} {s : Sx} {σ : L2.St} {H : Hp} (k : Ok T x s σ H) : Bx T ⟨x.io, x.G, bdU T x s⟩ s.sto H :=
  ⟨k.bx.n, k.bx.at_, fun i hi => .inl ⟨i, hi, rfl⟩, k.bx.inj, k.bx.sub, fun a o e z => k.bx.off a o e (bd_U k.bx z), fun a z => k.bx.trk a (bd_U k.bx z), fun p hp => ⟨.inr ⟨p, hp, rfl⟩, (k.bx.tab p hp).2⟩, k.bx.lo⟩
variable {W : WX} {X : Cx} {P : Program} {mg : Str → Option Value} {base : Heap} {dd : He.DefD} {ps : List Str} {F : Fn} {k0 : Nat} {e : Expr} {es : List Expr} {ml : M (List D)} {pos p : Pos}
/-- the promise's reading, from the caller -/
theorem call_read {x : Gh} {s : Sx} {σ : L2.St} {H : Hp} {vs : List V} {ds : List D} {Q : VK} {n : Nat} (k : Ok T x s σ H) (r : Reps T x.io x.G vs ds) (hn : vs.length = n)
    (h : match F ds s.sto with
      | .rt d sto => ∀ x' v H', Ok T x' { s with sto := sto } σ H' → Stp x H x' H' → Rep T x'.io x'.G v d → Q v H'
      | .ro xs sto => ∀ x' a H', Ok T x' { s with sto := sto } σ H' → Stp x H x' H' → Own T x' { s with sto := sto } σ H' a xs → Q (.ref a) H'
      | .exc c ns vs sto => XP T W x σ H c ns vs sto
      | _ => False) : spD T n F vs H Q (WE W σ) := by
  refine ⟨⟨x.io, x.G, bdU T x s⟩, ds, s.sto, bx_call k, fun _ z => z, r, hn, ?_⟩
  cases e : F ds s.sto with
  | rt d sto =>
    rw [e] at h
    intro x' v H' b st r'
    obtain ⟨k2, st2⟩ := k.after b st
    exact h _ v H' k2 st2 r'
  | ro xs sto =>
    rw [e] at h
    intro x' a H' b st o
    obtain ⟨k2, st2⟩ := k.after b st
    exact h _ a H' k2 st2 (k.afterOwn b st o)
  | exc c ns vs sto =>
    rw [e] at h
    intro x' dd us H' b st xd
    obtain ⟨k2, st2⟩ := k.after b st
    exact h _ dd us H' k2.bx st2 ⟨xd.at_, xd.hl, xd.rs, xd.new, fun u => by
      rcases u with u | u
      · obtain ⟨o, e⟩ := k.bx.trk dd u
        rw [xd.new] at e; cases e
      · exact xd.nu u, xd.ng⟩
  | nx _ => rw [e] at h; exact h.elim
  | bk _ => rw [e] at h; exact h.elim
  | ct _ => rw [e] at h; exact h.elim
  | bad => rw [e] at h; exact h.elim
theorem run_fnG {X : Cx} {CX : CXT} {k : Nat} {f : Addr} {fd : FuncData} {ps : List Str} {sp : Sp} {E : L2.St → XK} {pins : List (Addr × Obj)} {σ : L2.St} {H : Hp} {s : Shared} {Q : VK} {us : List Value} {vs : List V}
    (F : FnG X.prog X.w X.K X.mg X.base CX k f fd ps sp) (gd : X.A.guards = some []) (hr : Room k X.A) (hb : Binds X.K fd ps []) (hx : PassesAt CX X σ (E σ)) (I : L2.Inv X pins σ H s) (r : Vals vs us) (h : sp vs H Q (E σ)) :
    wpAny (model X.prog X.w) X.A (call (.ref f) us) (EP X pins σ Q) X.xe s := by
  have b := hb s us I.kIn (by rw [List.append_nil, ← r.length]; exact F.len _ _ _ _ h)
  rw [List.append_nil] at b
  refine wpAny_call (codeAny_mono (F.run X.A X.stack s H _ us vs Q (E σ) gd hr I.env0 b r h) fun q s' hq => ?_)
  match q, hq with
  | .error e, hq => exact hx pins H s e s' I hq
  | .ok (.ret u), hq => exact I.after hq
theorem pe_callG {X : Cx} {CX : CXT} {k : Nat} {f : Addr} {fd : FuncData} {ps : List Str} {sp : Sp} {E : L2.St → XK} {y : Str} {p pos : Pos} {e : Expr} {es : List Expr} {t : TA} (F : FnG X.prog X.w X.K X.mg X.base CX k f fd ps sp) (gd : X.A.guards = some []) (hr : Room k X.A) (hg : Gl X y) (hm : X.mg y = some (.ref f))
    (hk : PySem.W.keepIn X.K (.ref f) = true) (hb : Binds X.K fd ps []) (hx : ∀ σ, PassesAt CX X σ (E σ)) (ha : PA X (e :: es) t) (hdb : (y == ("__debug__" : Str)) = false) (he : starEach (e :: es) X.env = (false, eval e X.env) :: starEach es X.env) (hpl : (backTo pos (starEach es X.env)).any (·.1) = false) :
    PE X (.Call (.Name y p) (e :: es) [] pos) (tCallS sp E t) := ⟨fun pins s σ H Q I h => wpAny_Call_Name_kw (ld_glob I hg hm
  (PySem.W.callWith_K (h₀ := X.base) I.ok.mod.kin hk (thn (ha.run pos pins s σ H _ I h) fun us s1 ⟨vs, H1, I1, r, q⟩ => ⟨I1.kIn, run_fnG F gd hr hb (hx σ) I1 r q⟩) he hpl) hdb)⟩
theorem de_call (d : DefOk T X.prog X.mg X.base k0 dd ps F) (hK : X.K = T.K) (hw : X.w = T.w) (tk : Takes X W) (gd : X.A.guards = some []) (hr : Room k0 X.A) (hg : Gl X dd.name) (ha : PA X (e :: es) (tDs T W ml)) (hn : (e :: es).length = ps.length := by rfl)
    (hdb : (dd.name == ("__debug__" : Str)) = false := by decide) (h0 : dd.dfl = [] := by rfl) (he : starEach (e :: es) X.env = (false, eval e X.env) :: starEach es X.env := by rfl) (hpl : (backTo pos (starEach es X.env)).any (·.1) = false := by rfl)
    (hlen : ∀ s ds s', ml s = .ok ds s' → ds.length = ps.length) :
    PE X (.Call (.Name dd.name p) (e :: es) [] pos) (tD T W (mCall F ml)) := by
  obtain ⟨f, fd, hm, FU, hb, FO⟩ := d.ex
  have hb := hb h0
  have hk := FU.kp
  rw [← hK, ← hw] at FO
  rw [← hK] at hb hk
  refine PE.imp (pe_callG FO gd hr hg hm hk hb (fun σ => passAt tk σ) ha hdb he hpl) fun σ H Q ⟨x, s, k, h⟩ => ?_
  refine ⟨x, s, k, ?_⟩
  unfold mCall M.bind at h
  cases em : ml s with
  | exc c ns vs sto => rw [em] at h; exact h
  | bad => rw [em] at h; exact h
  | ok ds s' =>
    rw [em] at h
    simp only at h
    intro x' vs H' k' st r
    refine call_read k' r (by rw [r.length]; exact hlen s ds s' em) ?_
    cases e2 : F ds s'.sto with
    | rt d sto => rw [e2] at h; exact fun x2 v H2 k2 st2 r2 => h x2 v H2 k2 (st.trans st2) r2
    | ro xs sto =>
      rw [e2] at h
      intro x2 a H2 k2 st2 o
      obtain ⟨x3, k3, st3, r3⟩ := o.share k2
      exact h x3 _ H2 k3 (st.trans (st2.trans st3)) r3
    | exc c ns vs sto => rw [e2] at h; exact h.back st
    | nx _ => rw [e2] at h; exact h.elim
    | bk _ => rw [e2] at h; exact h.elim
    | ct _ => rw [e2] at h; exact h.elim
    | bad => rw [e2] at h; exact h.elim
theorem df_call (d : DefOk T X.prog X.mg X.base k0 dd ps F) (hK : X.K = T.K) (hw : X.w = T.w) (tk : Takes X W) (gd : X.A.guards = some []) (hr : Room k0 X.A) (hg : Gl X dd.name) (ha : PA X (e :: es) (tDs T W ml))
    (hdb : (dd.name == ("__debug__" : Str)) = false := by decide) (h0 : dd.dfl = [] := by rfl) (he : starEach (e :: es) X.env = (false, eval e X.env) :: starEach es X.env := by rfl) (hpl : (backTo pos (starEach es X.env)).any (·.1) = false := by rfl)
    (hlen : ∀ s ds s', ml s = .ok ds s' → ds.length = ps.length) :
    PE X (.Call (.Name dd.name p) (e :: es) [] pos) (tF T W (mCallF F ml)) := by
  obtain ⟨f, fd, hm, FU, hb, FO⟩ := d.ex
  have hb := hb h0
  have hk := FU.kp
  rw [← hK, ← hw] at FO
  rw [← hK] at hb hk
  refine PE.imp (pe_callG FO gd hr hg hm hk hb (fun σ => passAt tk σ) ha hdb he hpl) fun σ H Q ⟨x, s, k, h⟩ => ?_
  refine ⟨x, s, k, ?_⟩
  unfold mCallF M.bind at h
  cases em : ml s with
  | exc c ns vs sto => rw [em] at h; exact h
  | bad => rw [em] at h; exact h
  | ok ds s' =>
    rw [em] at h
    simp only at h
    intro x' vs H' k' st r
    refine call_read k' r (by rw [r.length]; exact hlen s ds s' em) ?_
    cases e2 : F ds s'.sto with
    | rt d sto => rw [e2] at h; exact h.elim
    | ro xs sto => rw [e2] at h; exact fun x2 a H2 k2 st2 o => h x2 a H2 k2 (st.trans st2) o
    | exc c ns vs sto => rw [e2] at h; exact h.back st
    | nx _ => rw [e2] at h; exact h.elim
    | bk _ => rw [e2] at h; exact h.elim
    | ct _ => rw [e2] at h; exact h.elim
    | bad => rw [e2] at h; exact h.elim
end
end Ev

/-! E5: comprehensions; a def by its body; the law's end. -/
namespace Ev
open PySem PySem.Spec L2
/-! ### how many -/
def Ar (n : Nat) (m : M (List D)) : Prop := ∀ s ds s', m s = .ok ds s' → ds.length = n
theorem ar_nil : Ar 0 mNil := fun s ds s' e => by
  unfold mNil M.pure at e
  cases e; rfl
theorem ar_cons {n : Nat} {m : M D} {r : M (List D)} (h : Ar n r) : Ar (n + 1) (mCons m r) := fun s ds s' e => by
  unfold mCons M.bind M.pure at e
  cases e1 : m s with
  | exc c ns vs sto => rw [e1] at e; cases e
  | bad => rw [e1] at e; cases e
  | ok d s1 =>
    rw [e1] at e
    simp only at e
    cases e2 : r s1 with
    | exc c ns vs sto => rw [e2] at e; cases e
    | bad => rw [e2] at e; cases e
    | ok l s2 =>
      rw [e2] at e
      cases e
      simp [h _ _ _ e2]
/-! ### comprehensions -/
def wipeE (l : List Sl) : List Nat → List Sl
  | [] => l
  | v :: vs => (wipeE l vs).set v .un
/-- none of these is a list of one's own -/
def noOw (l : List Sl) : List Nat → Bool
  | [] => true
  | v :: vs => (match l[v]? with | some (.ow _) => false | some (.od _ _) => false | _ => true) && noOw l vs
/-- the slots ws as in the old ones -/
def rest_ (old new : List Sl) (ws : List Nat) : List Sl := ws.foldr (fun v l => match old[v]? with
  | some x => l.set v x
  | none => l) new
def compL (t : Tg) (c : M Bool) (m : M D) (ws : List Nat) : List D → List D → Sx → Option (List D × Sx)
  | [], acc, s => some (acc, s)
  | d :: ds, acc, s => match t.run d { s with env := wipeE s.env ws } with
    | none => none
    | some s1 => match c s1 with
      | .ok true s2 => match m s2 with
        | .ok z s3 => if acc.length < sizeLine then compL t c m ws ds (acc ++ [z]) s3 else none
        | _ => none
      | .ok false s2 => compL t c m ws ds acc s2
      | _ => none
def mComp (mi : M (List D)) (t : Tg) (c : M Bool) (m : M D) (ws : List Nat) : M (List D) := M.bind mi fun ds s => if noOw s.env ws = true then
    (match compL t c m ws ds [] s with
    | some (acc, s') => .ok acc { s' with env := rest_ s.env s'.env ws }
    | none => .bad) else .bad
theorem wipeE_len (l : List Sl) : ∀ ws, (wipeE l ws).length = l.length
  | [] => rfl
  | v :: vs => by unfold wipeE; rw [List.length_set, wipeE_len l vs]
theorem wipeE_get {l : List Sl} {x : Sl} {i : Nat} : ∀ {ws : List Nat}, (wipeE l ws)[i]? = some x → x = .un ∨ (l[i]? = some x ∧ i ∉ ws)
  | [], h => .inr ⟨h, by simp⟩
  | v :: vs, h => by
    unfold wipeE at h
    by_cases hv : v = i
    · subst hv
      by_cases hl : v < (wipeE l vs).length
      · rw [List.getElem?_set_self hl] at h
        exact .inl (Option.some.inj h).symm
      · rw [List.getElem?_eq_none (by simpa using hl)] at h; cases h
    · rw [List.getElem?_set_ne hv] at h
      rcases wipeE_get h with z | ⟨z, n⟩
      · exact .inl z
      · exact .inr ⟨z, by simp only [List.mem_cons, not_or]; exact ⟨fun e => hv e.symm, n⟩⟩
theorem noOw_get {l : List Sl} {xs : List D} {i : Nat} : ∀ {ws : List Nat}, noOw l ws = true → i ∈ ws → l[i]? ≠ some (.ow xs)
  | [], _, h => by simp at h
  | v :: vs, h, hm => by
    unfold noOw at h
    rw [Bool.and_eq_true] at h
    rcases List.mem_cons.mp hm with e | hm
    · subst e
      intro z
      rw [z] at h
      exact absurd h.1 (by simp)
    · exact noOw_get h.2 hm
theorem noOw_getD {l : List Sl} {ks : List Key} {ds : List D} {i : Nat} : ∀ {ws : List Nat}, noOw l ws = true → i ∈ ws → l[i]? ≠ some (.od ks ds)
  | [], _, h => by simp at h
  | v :: vs, h, hm => by
    unfold noOw at h
    rw [Bool.and_eq_true] at h
    rcases List.mem_cons.mp hm with e | hm
    · subst e
      intro z
      rw [z] at h
      exact absurd h.1 (by simp)
    · exact noOw_getD h.2 hm
theorem rest_len {old new : List Sl} : ∀ {ws : List Nat}, (rest_ old new ws).length = new.length
  | [] => rfl
  | v :: vs => by
    show (match old[v]? with | some x => (rest_ old new vs).set v x | none => rest_ old new vs).length = _
    split
    · rw [List.length_set]; exact rest_len
    · exact rest_len
theorem rest_get {old new : List Sl} (hl : old.length = new.length) {i : Nat} : ∀ {ws : List Nat}, (rest_ old new ws)[i]? = if i ∈ ws then old[i]? else new[i]?
  | [] => by rw [if_neg (by simp)]; rfl
  | v :: vs => by
    show (match old[v]? with | some x => (rest_ old new vs).set v x | none => rest_ old new vs)[i]? = _
    by_cases hv : v = i
    · subst hv
      rw [if_pos (by simp)]
      cases e : old[v]? with
      | some x =>
        have hlt : v < old.length := (List.getElem?_eq_some_iff.mp e).1
        show ((rest_ old new vs).set v x)[v]? = _
        rw [List.getElem?_set_self (by rw [rest_len, ← hl]; exact hlt)]
      | none =>
        show (rest_ old new vs)[v]? = _
        have hge : old.length ≤ v := List.getElem?_eq_none_iff.mp e
        exact List.getElem?_eq_none_iff.mpr (by rw [rest_len, ← hl]; exact hge)
    · have go : (rest_ old new vs)[i]? = if i ∈ v :: vs then old[i]? else new[i]? := by
        rw [rest_get hl (ws := vs)]
        by_cases hm : i ∈ vs
        · rw [if_pos hm, if_pos (by simp [hm])]
        · rw [if_neg hm, if_neg (by simp only [List.mem_cons, not_or]; exact ⟨fun e => hv e.symm, hm⟩)]
      split
      · rw [List.getElem?_set_ne hv]; exact go
      · exact go
theorem wipe_get {σ : L2.St} {i : Nat} : ∀ {ws : List Nat}, i ∉ ws → (wipe σ ws)[i]? = σ[i]?
  | [], _ => rfl
  | v :: vs, h => by
    unfold wipe
    simp only [List.mem_cons, not_or] at h
    rw [List.getElem?_set_ne (fun e => h.1 e.symm)]
    exact wipe_get h.2
theorem wipe_in {σ : L2.St} {i : Nat} {ws : List Nat} (h : i ∈ ws) : (wipe σ ws)[i]? = if i < σ.length then some none else none := by
  by_cases hi : i < σ.length
  · rw [if_pos hi]
    have hl : i < (wipe σ ws).length := by rw [wipe_length]; exact hi
    cases e : (wipe σ ws)[i]? with
    | none => exact absurd (List.getElem?_eq_none_iff.mp e) (by omega)
    | some x =>
      cases x with
      | none => rfl
      | some v => exact absurd h (wipe_some e).2
  · rw [if_neg hi]
    exact List.getElem?_eq_none_iff.mpr (by rw [wipe_length]; omega)
theorem wipe_eq {σ σ' : L2.St} {ws : List Nat} (hl : σ'.length = σ.length) (h : ∀ j, j ∉ ws → σ'[j]? = σ[j]?) : wipe σ' ws = wipe σ ws := by
  apply List.ext_getElem?
  intro j
  by_cases hj : j ∈ ws
  · rw [wipe_in hj, wipe_in hj, hl]
  · rw [wipe_get hj, wipe_get hj, h j hj]
section
variable {T : Tx} {x : Gh} {s : Sx} {σ : L2.St} {H : Hp}
theorem Ok.wiped (k : Ok T x s σ H) (ws : List Nat) : Ok T x { s with env := wipeE s.env ws } (wipe σ ws) H := by
  refine ⟨k.bx, by rw [wipeE_len, wipe_length]; exact k.len, fun i d e => ?_, fun i xs e => ?_, fun i j xs ys a e1 e2 e3 e4 => ?_, fun i e => ?_, k.od.of (.refl _) (.refl _) (fun i ks ds e => by
    rcases wipeE_get e with z | ⟨z, n⟩
    · cases z
    · exact ⟨z, wipe_get n⟩) fun _ _ e u => ⟨e, u⟩⟩
  · rcases wipeE_get e with z | ⟨z, n⟩
    · cases z
    · obtain ⟨v, h1, h2⟩ := k.sh i d z
      exact ⟨v, by rw [wipe_get n]; exact h1, h2⟩
  · rcases wipeE_get e with z | ⟨z, n⟩
    · cases z
    · obtain ⟨a, vs, h1, h2⟩ := k.ow i xs z
      exact ⟨a, vs, by rw [wipe_get n]; exact h1, h2⟩
  · rcases wipeE_get e1 with z | ⟨z1, n1⟩
    · cases z
    · rcases wipeE_get e2 with z | ⟨z2, n2⟩
      · cases z
      · rw [wipe_get n1] at e3
        rw [wipe_get n2] at e4
        exact k.owi i j xs ys a z1 z2 e3 e4
  · rcases wipeE_get e with z | ⟨z, n⟩
    · cases z
    · rw [wipe_get n]; exact k.th i z
theorem wipeE_out {l : List Sl} {i : Nat} : ∀ {ws : List Nat}, i ∉ ws → (wipeE l ws)[i]? = l[i]?
  | [], _ => rfl
  | v :: vs, h => by
    unfold wipeE
    simp only [List.mem_cons, not_or] at h
    rw [List.getElem?_set_ne (fun e => h.1 e.symm)]
    exact wipeE_out h.2
theorem Ok.restore {x1 : Gh} {s1 : Sx} {H1 : Hp} {ws : List Nat} (k : Ok T x s σ H) (k1 : Ok T x1 { s1 with env := wipeE s1.env ws } (wipe σ ws) H1) (st : Stp x H x1 H1) (no : noOw s.env ws = true) : Ok T x1 { s1 with env := rest_ s.env s1.env ws } σ H1 := by
  have hl : s.env.length = s1.env.length := by
    have h1 := k1.len
    rw [wipe_length] at h1
    have h2 : (wipeE s1.env ws).length = σ.length := h1
    rw [wipeE_len] at h2
    rw [h2, k.len]
  have get : ∀ i, (rest_ s.env s1.env ws)[i]? = if i ∈ ws then s.env[i]? else s1.env[i]? := fun i => rest_get hl
  refine ⟨k1.bx, by show (rest_ s.env s1.env ws).length = σ.length; rw [rest_len, ← hl, k.len], fun i d e => ?_, fun i xs e => ?_, fun i j xs ys a e1 e2 e3 e4 => ?_, fun i e => ?_, k1.od.of (.refl _) (.refl _) (fun i ks ds e => by
    have e : (rest_ s.env s1.env ws)[i]? = some (.od ks ds) := e
    rw [get] at e
    by_cases hi : i ∈ ws
    · rw [if_pos hi] at e
      exact absurd e (noOw_getD no hi)
    · rw [if_neg hi] at e
      exact ⟨by show (wipeE s1.env ws)[i]? = _; rw [wipeE_out hi]; exact e, (wipe_get hi).symm⟩) fun _ _ e u => ⟨e, u⟩⟩
  · have e : (rest_ s.env s1.env ws)[i]? = some (.sh d) := e
    rw [get] at e
    by_cases hi : i ∈ ws
    · rw [if_pos hi] at e
      obtain ⟨v, h1, h2⟩ := k.sh i d e
      exact ⟨v, h1, h2.mono st.io st.le⟩
    · rw [if_neg hi] at e
      obtain ⟨v, h1, h2⟩ := k1.sh i d (by show (wipeE s1.env ws)[i]? = _; rw [wipeE_out hi]; exact e)
      exact ⟨v, by rw [← wipe_get hi]; exact h1, h2⟩
  · have e : (rest_ s.env s1.env ws)[i]? = some (.ow xs) := e
    rw [get] at e
    by_cases hi : i ∈ ws
    · rw [if_pos hi] at e
      exact absurd e (noOw_get no hi)
    · rw [if_neg hi] at e
      obtain ⟨a, vs, h1, h2⟩ := k1.ow i xs (by show (wipeE s1.env ws)[i]? = _; rw [wipeE_out hi]; exact e)
      exact ⟨a, vs, by rw [← wipe_get hi]; exact h1, h2⟩
  · have e1 : (rest_ s.env s1.env ws)[i]? = some (.ow xs) := e1
    have e2 : (rest_ s.env s1.env ws)[j]? = some (.ow ys) := e2
    rw [get] at e1 e2
    by_cases hi : i ∈ ws
    · rw [if_pos hi] at e1
      exact absurd e1 (noOw_get no hi)
    · by_cases hj : j ∈ ws
      · rw [if_pos hj] at e2
        exact absurd e2 (noOw_get no hj)
      · rw [if_neg hi] at e1
        rw [if_neg hj] at e2
        exact k1.owi i j xs ys a (by show (wipeE s1.env ws)[i]? = _; rw [wipeE_out hi]; exact e1) (by show (wipeE s1.env ws)[j]? = _; rw [wipeE_out hj]; exact e2) (by rw [wipe_get hi]; exact e3) (by rw [wipe_get hj]; exact e4)
  · have e : (rest_ s.env s1.env ws)[i]? = some .th := e
    rw [get] at e
    by_cases hi : i ∈ ws
    · rw [if_pos hi] at e
      exact k.th i e
    · rw [if_neg hi] at e
      have h1 := k1.th i (by show (wipeE s1.env ws)[i]? = _; rw [wipeE_out hi]; exact e)
      rw [← wipe_get hi]; exact h1
/-- what stands aside becomes one's own -/
theorem Ok.take {L : Addr} {vs : List V} {acc : List D} (k : Ok T x s σ H) (h : H L = some (.lst vs)) (r : Reps T x.io x.G vs acc) (hu : ¬ x.U L) (hg : x.G L = none) :
    Ok T ⟨x.io, x.G, fun c => x.U c ∨ c = L⟩ s σ H ∧ Own T ⟨x.io, x.G, fun c => x.U c ∨ c = L⟩ s σ H L acc ∧ ∀ (y : Gh) (H0 : Hp), Stp y H0 x H → H0 L = none → Stp y H0 ⟨x.io, x.G, fun c => x.U c ∨ c = L⟩ H := by
  have nb : ∀ j, j < s.sto.length → L ≠ x.io.f j := fun j hj z => hu (by rw [z]; exact k.bx.inU j hj)
  refine ⟨⟨⟨k.bx.n, k.bx.at_, fun i hi => .inl (k.bx.inU i hi), k.bx.inj, k.bx.sub, fun a o e z => ?_, fun a z => ?_, fun p hp => ⟨.inl (k.bx.tab p hp).1, (k.bx.tab p hp).2⟩, k.bx.lo⟩, k.len, k.sh, fun i xs e => ?_, k.owi, k.th, k.od.of (.refl _) (.refl _) (fun _ _ _ e => ⟨e, rfl⟩) fun _ _ e u => ⟨e, .inl u⟩⟩, ⟨.inr rfl, ⟨vs, h, r⟩, nb, fun i ys e z => ?_⟩, fun y H0 st hL => ⟨st.io, st.le, st.fr, st.new, fun a z => ?_, st.th⟩⟩
  · rcases z with z | z
    · exact k.bx.off a o e z
    · subst z; rw [hg] at e; cases e
  · rcases z with z | z
    · exact k.bx.trk a z
    · subst z; exact ⟨_, h⟩
  · obtain ⟨a, us, h1, h2, h3, h4, h5⟩ := k.ow i xs e
    exact ⟨a, us, h1, h2, h3, .inl h4, h5⟩
  · obtain ⟨a, us, h1, h2, h3, h4, h5⟩ := k.ow i ys e
    rw [h1] at z
    injection z with z
    injection z with z
    injection z with z
    subst z
    exact hu h4
  · rcases z with z | z
    · exact st.un a z
    · subst z; exact .inr hL
/-- an object that is neither shared nor one's own is written -/
theorem Ok.aside (k : Ok T x s σ H) {L : Addr} {o : HO} (hu : ¬ x.U L) (hg : x.G L = none) (hl : H L = none ∨ ∃ vs, H L = some (.lst vs)) : Ok T x s σ (upd H L o) := by
  refine ⟨⟨k.bx.n, fun j ys q => ?_, k.bx.inU, k.bx.inj, fun c u q => ?_, k.bx.off, fun c u => ?_, fun p hp => ⟨(k.bx.tab p hp).1, by
    rcases hl with hl | ⟨vs, hl⟩
    · exact (k.bx.tab p hp).2.ext (.refl _) (Le.upd hl)
    · exact tabS_lst hl (k.bx.tab p hp).2⟩, k.bx.lo⟩, k.len, k.sh, fun i xs e => ?_, k.owi, k.th, k.od.of (.refl _) (.refl _) (fun _ _ _ e => ⟨e, rfl⟩) fun a kvs e u => ⟨by rw [upd_ne (fun z => hu (by rw [← z]; exact u))]; exact e, u⟩⟩
  · obtain ⟨vs, h1, h2⟩ := k.bx.at_ j ys q
    exact ⟨vs, by rw [upd_ne (fun z => hu (by rw [← z]; exact k.bx.inU j (List.getElem?_eq_some_iff.mp q).1))]; exact h1, h2⟩
  · rw [upd_ne (fun z => by subst z; rw [hg] at q; cases q)]
    exact k.bx.sub c u q
  · by_cases hc : c = L
    · subst hc; exact ⟨_, upd_same⟩
    · rw [upd_ne hc]; exact k.bx.trk c u
  · obtain ⟨a, vs, h1, h2, h3, h4, h5⟩ := k.ow i xs e
    exact ⟨a, vs, h1, by rw [upd_ne (fun z => hu (by rw [← z]; exact h4))]; exact h2, h3, h4, h5⟩
theorem Stp.aside {y : Gh} {H' : Hp} (st : Stp x H y H') {L : Addr} {o : HO} (hL : H L = none) : Stp x H y (upd H' L o) :=
  ⟨st.io, st.le, fun c u e n => by rw [upd_ne (ne_of_none e hL)]; exact st.fr c u e n, st.new, st.un, fun c e => by
    by_cases hc : c = L
    · subst hc; exact hL
    · rw [upd_ne hc] at e; exact st.th c e⟩
end
section
variable {T : Tx} {W : WX} {X : Cx} {tg iter elt : Expr} {ifs : List Expr} {scope : Scope} {own : List (Str × Nat)} {mi : M (List D)} {t : Tg} {mc : M Bool} {m : M D} {pos : Pos}
/-- no exception leaves a comprehension's block -/
abbrev W0 : WX := fun _ _ _ _ => False
theorem tLc_of {σ : L2.St} {H : Hp} {Q : VK} {ws : List Nat} (hsl : ∀ j ∈ t.slots, j ∈ ws) (h : tF T W (mComp mi t mc m ws) σ H Q) : tLc (tI T W mi) (gD T t) (tB T W0 mc) (tD T W0 m) ws σ H Q := by
  obtain ⟨x, s, k, h⟩ := h
  refine ⟨x, s, k, ?_⟩
  unfold mComp M.bind at h
  cases em : mi s with
  | exc c ns vs sto => rw [em] at h; exact h
  | bad => rw [em] at h; exact h
  | ok ds s0 =>
    rw [em] at h
    simp only at h
    intro x0 J H0 k0 st0 src L hL
    by_cases hno : noOw s0.env ws = true
    · rw [if_pos hno] at h
      cases ec : compL t mc m ws ds [] s0 with
      | none => rw [ec] at h; exact h.elim
      | some pr =>
        obtain ⟨accF, sF⟩ := pr
        rw [ec] at h
        simp only at h
        have gL0 : x0.G L = none := k0.bx.sub.none hL
        have uL0 : ¬ x0.U L := fun z => by
          obtain ⟨o, e⟩ := k0.bx.trk L z
          rw [hL] at e; cases e
        -- the invariant
        refine ⟨fun i mm H1 => ∃ (x1 : Gh) (s1 : Sx) (acc : List D) (vs : List V), Ok T x1 { s1 with env := wipeE s1.env ws } (wipe σ ws) H1 ∧ H1 L = some (.lst vs) ∧ Reps T x1.io x1.G vs acc ∧ ¬ x1.U L ∧ x1.G L = none ∧ Stp x0 H0 x1 H1 ∧ i ≤ ds.length ∧ mm = ds.length - i ∧
            compL t mc m ws (ds.drop i) acc s1 = some (accF, sF), ⟨ds.length, x0, s0, [], [], (k0.wiped ws).aside uL0 gL0 (.inl hL), upd_same, .nil, uL0, gL0, (Stp.refl x0 H0).aside hL, Nat.zero_le _, rfl, ec⟩, ?_⟩
        rintro i mm H1 ⟨x1, s1, acc, vs, k1, hL1, r1, uL, gL, st1, hi1, rfl, c1⟩
        by_cases hlt : i < ds.length
        · refine .inr ⟨src.go i H1 (st1.le.trans k1.bx.sub) hlt, fun H2 => ∃ (x2 : Gh) (s2 : Sx) (acc : List D) (vs : List V), Ok T x2 { s2 with env := wipeE s2.env ws } (wipe σ ws) H2 ∧ H2 L = some (.lst vs) ∧ Reps T x2.io x2.G vs acc ∧ ¬ x2.U L ∧ x2.G L = none ∧ Stp x0 H0 x2 H2 ∧
            compL t mc m ws (ds.drop (i + 1)) acc s2 = some (accF, sF), fun H2 ⟨x2, s2, acc2, vs2, a1, a2, a3, a4, a5, a6, a7⟩ => ⟨ds.length - (i + 1), by omega, x2, s2, acc2, vs2, a1, a2, a3, a4, a5, a6, hlt, rfl, a7⟩, fun v H2 hy => ?_⟩
          obtain ⟨G2, gr, rv⟩ := src.yld i H1 v H2 x1.G ds[i] st1.le k1.bx.sub (List.getElem?_eq_getElem hlt) hy
          have k2 := k1.grow gr
          have st2 := st1.trans gr.stp
          rw [List.drop_eq_getElem_cons hlt] at c1
          unfold compL at c1
          cases e2 : t.run ds[i] { s1 with env := wipeE s1.env ws } with
          | none => rw [e2] at c1; cases c1
          | some s2 =>
            simp only [e2] at c1
            have hL2 : H2 L = some (.lst vs) := gr.h _ _ hL1
            have gL2 : G2 L = none := by
              cases e : G2 L with
              | none => rfl
              | some o =>
                rcases gr.new L o e with q | q
                · rw [gL] at q; cases q
                · rw [hL1] at q; cases q
            refine ⟨_, _, s2, ds[i], k2, rv.mono st1.io (.refl _), e2, fun σ2 k3 len2 f2 => ?_⟩
            have hw2 : wipe σ2 ws = wipe σ ws := by
              have z : wipe σ2 ws = wipe (wipe σ ws) ws := wipe_eq len2 fun j hj => f2 j fun q => hj (hsl j q)
              rw [z]
              exact wipe_eq (wipe_length _ _) fun j hj => wipe_get hj
            refine ⟨hw2, ⟨_, s2, k3, ?_⟩⟩
            -- what stands at L is kept by what follows
            have keepL : ∀ {y : Gh} {H3 : Hp}, Stp ⟨x1.io, G2, x1.U⟩ H2 y H3 → H3 L = some (.lst vs) ∧ ¬ y.U L ∧ y.G L = none := fun {y H3} st => by
              refine ⟨st.fr L _ hL2 uL, fun z => ?_, ?_⟩
              · rcases st.un L z with q | q
                · exact uL q
                · rw [hL2] at q; cases q
              · cases e : y.G L with
                | none => rfl
                | some o =>
                  rcases st.new L o e with q | q | q
                  · have q : G2 L = some o := q
                    rw [gL2] at q; cases q
                  · exact absurd q uL
                  · rw [hL2] at q; cases q
            cases e3 : mc s2 with
            | exc c ns vs sto => rw [e3] at c1; cases c1
            | bad => rw [e3] at c1; cases c1
            | ok b s3 =>
              intro x3 H3 k4 st3
              cases b with
              | false =>
                rw [e3] at c1
                rw [if_neg Bool.false_ne_true]
                obtain ⟨a1, a2, a3⟩ := keepL st3
                have kw := k4.wiped ws
                rw [hw2] at kw
                exact ⟨x3, s3, acc, vs, kw, a1, r1.mono st3.io (gr.g.trans st3.le), a2, a3, st2.trans st3, c1⟩
              | true =>
                rw [e3] at c1
                rw [if_pos rfl]
                refine ⟨x3, s3, k4, ?_⟩
                cases e4 : m s3 with
                | exc c ns vs sto => simp only [e4] at c1; cases c1
                | bad => simp only [e4] at c1; cases c1
                | ok z s4 =>
                  simp only [e4] at c1
                  intro x4 u H4 k5 st4 r4
                  obtain ⟨a1, a2, a3⟩ := keepL (st3.trans st4)
                  by_cases hacc : acc.length < sizeLine
                  · rw [if_pos hacc] at c1
                    refine ⟨vs, a1, by rw [r1.length]; exact hacc, x4, s4, acc ++ [z], vs ++ [u], ?_, upd_same, (r1.mono (st3.trans st4).io (gr.g.trans (st3.trans st4).le)).append (.one r4), a2, a3, (st2.trans (st3.trans st4)).aside hL, c1⟩
                    have kw := k5.wiped ws
                    rw [hw2] at kw
                    exact kw.aside a2 a3 (.inr ⟨_, a1⟩)
                  · rw [if_neg hacc] at c1; cases c1
        · have e : i = ds.length := by omega
          subst e
          refine .inl ⟨src.stop _ H1 (st1.le.trans k1.bx.sub) rfl, ?_⟩
          rw [List.drop_length] at c1
          unfold compL at c1
          cases c1
          have kr := k0.restore k1 st1 hno
          obtain ⟨k2, o2, s2⟩ := kr.take hL1 r1 uL gL
          exact h _ L H1 k2 (st0.trans (s2 x0 H0 st1 hL)) o2
    · rw [if_neg hno] at h; exact h.elim
theorem df_comp (hc : X.calm = true) (hN : X.N.Nodup) (hi : PI X tg iter (tI T W mi)) (ok : BlkOk X.N X.env.scope scope own) (hsl : ∀ j ∈ t.slots, j ∈ own.map (·.2))
    (hg : ∀ (s : Shared) (H : Hp) (C : Addr) (cl : List (Str × Addr)) (fp : List Addr), PG (X.blk s H scope (compEnvC scope cl C X.env) fp) tg (gD T t)) (ht : ∀ (s : Shared) (H : Hp) (C : Addr) (cl : List (Str × Addr)) (fp : List Addr), PTs (X.blk s H scope (compEnvC scope cl C X.env) fp) ifs (tB T W0 mc))
    (he : ∀ (s : Shared) (H : Hp) (C : Addr) (cl : List (Str × Addr)) (fp : List Addr), PE (X.blk s H scope (compEnvC scope cl C X.env) fp) elt (tD T W0 m)) (hs : ∀ x, foldedSetIterable iter X.env x = pure x := by intro _; rfl) :
    PE X (.ListComp elt [⟨tg, iter, ifs, 0⟩] scope pos) (tF T W (mComp mi t mc m (own.map (·.2)))) :=
  PE.imp (pe_lc hc hN hi ok hg ht he hs) fun _ _ _ h => tLc_of hsl h
/-- name = [..] on one line -/
theorem ds_setComp {f : List D → MS} {i : Nat} {y : Str} {py spos : Pos} (hc : X.calm = true) (hN : X.N.Nodup) (hy : X.N[i]? = some y) (hyl : X.env.scope.names.lookup y = some .local)
    (hsw : swapsWith (.ListComp elt [⟨tg, iter, ifs, 0⟩] scope pos) (some (.Name y py)) spos.line X.env = pure true) (hi : PI X tg iter (tI T W mi)) (ok : BlkOk X.N X.env.scope scope own) (hsl : ∀ j ∈ t.slots, j ∈ own.map (·.2))
    (hg : ∀ (s : Shared) (H : Hp) (C : Addr) (cl : List (Str × Addr)) (fp : List Addr), PG (X.blk s H scope (compEnvC scope cl C X.env) fp) tg (gD T t)) (ht : ∀ (s : Shared) (H : Hp) (C : Addr) (cl : List (Str × Addr)) (fp : List Addr), PTs (X.blk s H scope (compEnvC scope cl C X.env) fp) ifs (tB T W0 mc))
    (he : ∀ (s : Shared) (H : Hp) (C : Addr) (cl : List (Str × Addr)) (fp : List Addr), PE (X.blk s H scope (compEnvC scope cl C X.env) fp) elt (tD T W0 m)) (hs : ∀ x, foldedSetIterable iter X.env x = pure x := by intro _; rfl) :
    PS X (.Assign [.Name y py] (.ListComp elt [⟨tg, iter, ifs, 0⟩] scope pos) spos) (tS T W (sOwn i (mComp mi t mc m (own.map (·.2))))) :=
  PS.imp (ps_setLc hc hN hy hyl hsw hi ok hg ht he hs) fun E σ H ⟨x, s, k, h⟩ => tLc_of hsl (tF_s k h fun d s' x' v H' k' o f => f x' _ H' (k'.put_own i o) (.refl _ _))
theorem dts_nil : PTs X [] (tB T W (M.pure true)) := ⟨fun pins s σ H Q I ⟨x, s', k, h⟩ => pts_nil.run pins s σ H Q I (h x H k (.refl _ _))⟩
theorem dts_one {c : Expr} (h : PT X c (tB T W mc)) : PTs X [c] (tB T W mc) := pts_one h
end

/-! ### a def by its body -/
section
variable {T : Tx} {P : Program} {mg : Str → Option Value} {base : Heap} {y qual : Str} {params : Arguments} {body : List Stmt} {scope : Scope} {f : Addr} {fd : FuncData} {N ps : List Str} {k : Nat} {m : MS}
theorem Bx.start {x : Gh} {ds : List D} {sto : List (List D)} {H : Hp} {vs : List V} {n : Nat} (b : Bx T x sto H) (r : Reps T x.io x.G vs ds) (hn : n = N.length) : Ok T x ⟨ds.map .sh ++ List.replicate (n - ds.length) .un, sto⟩ (L2.start N vs) H := by
  have hl := r.length
  have ge : ∀ (i : Nat) (sl : Sl), (ds.map Sl.sh ++ List.replicate (n - ds.length) .un)[i]? = some sl → sl = .un ∨ ∃ d, sl = .sh d ∧ ds[i]? = some d := fun i sl e => by
    by_cases hi : i < ds.length
    · rw [List.getElem?_append_left (by simpa using hi), List.getElem?_map] at e
      cases q : ds[i]? with
      | none => rw [q] at e; cases e
      | some d => rw [q] at e; exact .inr ⟨d, (Option.some.inj e).symm, rfl⟩
    · rw [List.getElem?_append_right (by simpa using hi)] at e
      exact .inl (List.eq_of_mem_replicate (List.mem_of_getElem? e))
  refine ⟨b, by simp [L2.start, hl, hn], fun i d e => ?_, fun i xs e => ?_, fun i j xs ys a e1 e2 => ?_, fun i e => (by rcases ge i _ e with z | ⟨d', z, q⟩ <;> cases z), .non fun i ks ds e => by rcases ge i _ e with z | ⟨d', z, q⟩ <;> cases z⟩
  · rcases ge i _ e with z | ⟨d', z, q⟩
    · cases z
    · cases z
      obtain ⟨v, h1, h2⟩ := r.get q
      refine ⟨v, ?_, h2⟩
      have hv : i < vs.length := (List.getElem?_eq_some_iff.mp h1).1
      unfold L2.start
      rw [List.getElem?_append_left (by simpa using hv), List.getElem?_map, h1]
      rfl
  · rcases ge i _ e with z | ⟨d', z, q⟩ <;> cases z
  · rcases ge i _ e1 with z | ⟨d', z, q⟩ <;> cases z
/-- the def at f, its code object -/
def CodeAt (K : PySem.W.Frag) (f : Addr) (cdv : Value) : Prop := ∃ (oc : Value) (od : Option Addr) (fd : FuncData) (osl : Array (Option Value)), K.lookup f = some ⟨oc, od, .func fd, osl⟩ ∧ fd.code = cdv ∧ ∃ c, cdv = .ref c
theorem CodeAt.is {K : PySem.W.Frag} {p : He.Defn} {cdv : Value} (h : CodeAt K (He.fAd K p) cdv) : cdv = .ref (He.codeOf K p) := by
  obtain ⟨oc, od, fd, osl, lk, e, c, rfl⟩ := h
  rw [He.codeOf_eq lk e]
/-- the rule for a def: its body's promise wherever nothing is being shown -/
theorem fnG_of {CX : CXT} {sp : Sp} {dvs : List V} {kws : List (Str × V)} (F : FunD T.K y qual params body scope dvs kws f fd) (S : FnScope N ps scope) (len : ∀ vs H Q E, sp vs H Q E → vs.length = ps.length)
    (hbody : ∀ (cdv : Value), CodeAt T.K f cdv → ∀ (A : Around) (outer : List Env) (s : Shared) (H : Hp) (vs : List V) (Q : VK) (E : XK), A.guards = some [] → Room k (A.deeper (PyProof.Rows.envOfC qual scope s.heap.objs.size f cdv)) → sp vs H Q E →
      ∃ t, PSs (cxOf CX P T.w T.K mg base N qual scope f cdv A outer s H E) body t ∧ t { nx := fun _ H' => Q .non H', rt := Q } (L2.start N vs) H) : FnG P T.w T.K mg base CX (k + 1) f fd ps sp := by
  obtain ⟨oc, od, dV, kV, doc, pm, an, cdv, ct, osl, rfl, lk, hcd, _, _⟩ := F.ex
  refine ⟨len, fun A outer s H args us vs Q E gd hr e0 hb r hsp => ?_⟩
  have old : ∀ b o, base.get? b = some o → s.heap.get? b = some o := fun b o e => (e0.bs b o e).1
  have kin : T.K.In s.heap := e0.mod.kin.keeps old
  refine codeAny_call_function hr.depth (kin _ _ lk) rfl S.co S.gen rfl (PySem.W.codeRec_of kin hcd) (hb _ _ _ _ (wpAny_newFunctionEnv_cells S.kind (fun z hz => ?_) fun env he s1 x => ?_))
  · rcases S.par z.1 (List.of_mem_zip hz).1 with q | q
    · exact .inl q
    · exact .inr ⟨q, PySem.W.cellsFrom_some _ _ _ (.inl q)⟩
  · subst he
    refine ⟨(e0.mod.nolimit.keeps old).keeps x.toInCall.keep, codeAny_func ?_⟩
    obtain ⟨t, ht, hq⟩ := hbody cdv ⟨_, _, _, _, lk, rfl, He.codeIn_ref hcd⟩ A outer s H vs Q E gd (hr.deeper _) hsp
    refine wpAny_mono (ht.run [] s1 _ H _ (inv_start S hr.hd e0 (len _ _ _ _ hsp) r x) hq) (fun fl s' hs => ?_) fun e s' hs => hs
    match fl, hs with
    | .ret u, ⟨v, σ', H', J, rv, q⟩ => exact ⟨v, H', J.os, J.bare, J.base, J.hok, rv, q⟩
    | .next, ⟨σ', H', J, q⟩ => exact ⟨V.non, H', J.os, J.bare, J.base, J.hok, rfl, q⟩
    | .brk, ⟨_, _, _, q⟩ => exact q.elim
    | .cont, ⟨_, _, _, q⟩ => exact q.elim
theorem def_ok {dd : He.DefD} (F : FunD T.K dd.name dd.qual dd.params dd.body dd.scope (dd.dvs T.K) (dd.kws T.K) f fd) (hm : mg dd.name = some (.ref f)) (S : FnScope N ps dd.scope)
    (hb : dd.dfl = [] → ∀ (kV doc pm : Value) (an : Option Addr) (cdv ct : Value) (us : List Value), us.length = ps.length → bindArgs (PySem.W.fnOf dd.name dd.qual dd.params dd.body dd.scope .none kV doc pm an cdv ct) ⟨us, []⟩ = pure (ps.zip us))
    (hbody : ∀ (cdv : Value), CodeAt T.K f cdv → ∀ (A : Around) (outer : List Env) (s : Shared) (H : Hp) (E : XK), A.guards = some [] → Room k (A.deeper (PyProof.Rows.envOfC dd.qual dd.scope s.heap.objs.size f cdv)) →
      Takes (cxOf (L2.CX P T.w) P T.w T.K mg base N dd.qual dd.scope f cdv A outer s H E) (fun cls d _ H => E cls d H) →
      PSs (cxOf (L2.CX P T.w) P T.w T.K mg base N dd.qual dd.scope f cdv A outer s H E) dd.body (tS T (fun cls d _ H => E cls d H) m)) : DefOk T P mg base (k + 1) dd ps (bodyF N.length m) := by
  refine ⟨f, fd, hm, F, fun h0 => ?_, fnG_of F S (fun vs H Q E ⟨_, _, _, _, _, _, h, _⟩ => h) fun cdv hcd A outer s H vs Q E gd hr hsp => ?_⟩
  · have F0 := F
    have e0 : dd.dvs T.K = [] := by unfold He.DefD.dvs; rw [h0]; rfl
    rw [e0] at F0
    exact F0.bindsN (hb h0)
  refine ⟨_, hbody cdv hcd A outer s H E gd hr (takes_of rfl rfl rfl rfl), ?_⟩
  obtain ⟨x, ds, sto, b, hu, r, hn, h⟩ := hsp
  refine ⟨x, _, b.start r rfl, ?_⟩
  unfold bodyF at h
  cases e : m ⟨ds.map .sh ++ List.replicate (N.length - ds.length) .un, sto⟩ with
  | nx s' => rw [e] at h; exact fun x' σ' H' k' st => h x' .non H' k'.bx st .non
  | bk _ => rw [e] at h; exact h.elim
  | ct _ => rw [e] at h; exact h.elim
  | rt d sto => rw [e] at h; exact h
  | ro xs sto => rw [e] at h; exact h
  | exc c ns vs sto => rw [e] at h; exact fun σ' x' dd us H' b' st xd => h x' dd us H' b' st xd
  | bad => rw [e] at h; exact h.elim
end
end Ev

/-! E6: operators, comparisons, built-ins on data. -/
namespace Ev
open PySem PySem.Spec L2
theorem OpR.imp {X : Cx} {f : Value → Value → Sem Value} {r r' : R2} (h : OpR X f r) (k : ∀ x y H Q, r' x y H Q → r x y H Q) : OpR X f r' := fun pins s σ H x y v u Q I rx ry q => h pins s σ H x y v u Q I rx ry (k x y H Q q)
theorem P2.or1 {T : Tx} {r r' : R2} {g : D → D → Option D} (h : P2 T r g) : P2 T (fun x y H Q => r x y H Q ∨ r' x y H Q) g := fun io G v u d e z H Q a b c e1 q => .inl (h io G v u d e z H Q a b c e1 q)
/-! ### ints -/
def gI (C : Int → Int → Bool) (f : Int → Int → Int) (a b : D) : Option D := match a, b with
  | .int i, .int j => if C i j = true then some (.int (f i j)) else none
  | _, _ => none
theorem p_I {T : Tx} {C : Int → Int → Prop} {Cb : Int → Int → Bool} {f : Int → Int → Int} (h : ∀ i j, Cb i j = true → C i j) : P2 T (rI C fun i j => .int (f i j)) (gI Cb f) := fun io G v u d e z H Q r1 r2 le q k => by
  unfold gI at q
  split at q
  · rename_i i j
    split at q
    · rename_i hc
      cases q
      cases r1
      cases r2
      exact ⟨i, j, rfl, rfl, h i j hc, k G _ H (.refl le) (.int _)⟩
    · cases q
  · cases q
def gI0 (f : Int → Int → Int) (a b : D) : Option D := match a, b with
  | .int i, .int j => some (.int (f i j))
  | _, _ => none
theorem p_I0 {T : Tx} {f : Int → Int → Int} : P2 T (rI0 fun i j => .int (f i j)) (gI0 f) := fun io G v u d e z H Q r1 r2 le q k => by
  unfold gI0 at q
  split at q
  · rename_i i j
    cases q
    cases r1
    cases r2
    exact ⟨i, j, rfl, rfl, k G _ H (.refl le) (.int _)⟩
  · cases q
def gB0 (f : Int → Int → Bool) (a b : D) : Option D := match a, b with
  | .int i, .int j => some (.bl (f i j))
  | _, _ => none
theorem p_B0 {T : Tx} {f : Int → Int → Bool} : P2 T (rI0 fun i j => .bl (f i j)) (gB0 f) := fun io G v u d e z H Q r1 r2 le q k => by
  unfold gB0 at q
  split at q
  · rename_i i j
    cases q
    cases r1
    cases r2
    exact ⟨i, j, rfl, rfl, k G _ H (.refl le) (.bl _)⟩
  · cases q
def cMul (i j : Int) : Bool := decide ((Builtin.Int.intBits i : Int) + (Builtin.Int.intBits j : Int) ≤ 134217728)
def cDiv (_ j : Int) : Bool := decide (0 < j ∧ j.natAbs.log2 < 9000)
def cMod (_ j : Int) : Bool := decide (0 < j)
def cPow (i j : Int) : Bool := decide (0 ≤ j ∧ j ≤ 1000000 ∧ i.natAbs < 2 ^ 64)
def cShl (i j : Int) : Bool := decide (0 ≤ j ∧ (Builtin.Int.intBits i : Int) + j ≤ 2 ^ 27)
abbrev gSub := gI0 fun i j => i - j
abbrev gMulI := gI cMul fun i j => i * j
abbrev gDiv := gI cDiv fun i j => i / j
abbrev gMod := gI cMod fun i j => i % j
abbrev gPow := gI cPow fun i j => i ^ j.toNat
abbrev gShl := gI cShl fun i j => i * 2 ^ j.toNat
abbrev gAnd := gI0 Builtin.bitAnd
abbrev gOr := gI0 Builtin.bitOr
abbrev gXor := gI0 Builtin.bitXor
abbrev gLt := gB0 fun i j => decide (i < j)
abbrev gLe := gB0 fun i j => decide (i ≤ j)
abbrev gGt := gB0 fun i j => decide (j < i)
abbrev gGe := gB0 fun i j => decide (j ≤ i)
section
variable {T : Tx} {X : Cx} {W : WX} {a b c : Expr} {ma mb mc : M D} {pos : Pos}
theorem de_sub (ha : PE X a (tD T W ma)) (hb : PE X b (tD T W mb)) : PE X (.BinOp a .Sub b pos) (tD T W (m2 gSub ma mb)) := de_op op_sub p_I0 ha hb
theorem de_mul (ha : PE X a (tD T W ma)) (hb : PE X b (tD T W mb)) : PE X (.BinOp a .Mult b pos) (tD T W (m2 gMulI ma mb)) := de_op op_mulX (p_I (Cb := cMul) fun _ _ h => by unfold cMul at h; have h2 := of_decide_eq_true h; exact h2) ha hb
theorem de_div (ha : PE X a (tD T W ma)) (hb : PE X b (tD T W mb)) : PE X (.BinOp a .FloorDiv b pos) (tD T W (m2 gDiv ma mb)) := de_op op_fdivW (p_I (Cb := cDiv) fun _ _ h => by unfold cDiv at h; have h2 := of_decide_eq_true h; exact h2) ha hb
theorem de_mod (ha : PE X a (tD T W ma)) (hb : PE X b (tD T W mb)) : PE X (.BinOp a .Mod b pos) (tD T W (m2 gMod ma mb)) := de_op op_mod (p_I (Cb := cMod) fun _ _ h => by unfold cMod at h; have h2 := of_decide_eq_true h; exact h2) ha hb
theorem de_pow (ha : PE X a (tD T W ma)) (hb : PE X b (tD T W mb)) : PE X (.BinOp a .Pow b pos) (tD T W (m2 gPow ma mb)) := de_op op_pow (p_I (Cb := cPow) fun _ _ h => by unfold cPow at h; have h2 := of_decide_eq_true h; exact h2) ha hb
theorem de_shl (ha : PE X a (tD T W ma)) (hb : PE X b (tD T W mb)) : PE X (.BinOp a .LShift b pos) (tD T W (m2 gShl ma mb)) := de_op op_shlW (p_I (Cb := cShl) fun _ _ h => by unfold cShl at h; have h2 := of_decide_eq_true h; exact h2) ha hb
theorem de_and_ (ha : PE X a (tD T W ma)) (hb : PE X b (tD T W mb)) : PE X (.BinOp a .BitAnd b pos) (tD T W (m2 gAnd ma mb)) := de_op op_and p_I0 ha hb
theorem de_or_ (ha : PE X a (tD T W ma)) (hb : PE X b (tD T W mb)) : PE X (.BinOp a .BitOr b pos) (tD T W (m2 gOr ma mb)) := de_op op_or p_I0 ha hb
theorem de_xor_ (ha : PE X a (tD T W ma)) (hb : PE X b (tD T W mb)) : PE X (.BinOp a .BitXor b pos) (tD T W (m2 gXor ma mb)) := de_op op_xor p_I0 ha hb
def gNeg (a : D) : Option D := match a with
  | .int i => some (.int (-i))
  | _ => none
theorem de_neg (ha : PE X a (tD T W ma)) : PE X (.UnaryOp .USub a pos) (tD T W (m1 gNeg ma)) := de_un un_neg (fun io G v d z H Q r le q k => by
  unfold gNeg at q
  split at q
  · cases q; cases r; exact ⟨_, rfl, k G _ H (.refl le) (.int _)⟩
  · cases q) ha
/-! ### + -/
def rCatL (K : PySem.W.Frag) : R2 := fun x y H Q => ∃ l b xs zs, x = .ref l ∧ y = .ref b ∧ SqL K H l xs ∧ SqL K H b zs ∧ xs.length + zs.length ≤ sizeLine ∧ ∀ p, H p = none → Q (.ref p) (upd H p (.lst (xs ++ zs)))
theorem op_catLs : OpR X (binaryOp .Add) (rCatL X.K) := by
  intro pins s σ H x y v u Q I rx ry h
  obtain ⟨l, b, xs, zs, rfl, rfl, hH, hB, hz, q⟩ := h
  cases rx
  cases ry
  obtain ⟨its, r, ⟨o, n, e, hc, hd, hdt⟩, z⟩ := I.list hH
  obtain ⟨its2, r2, ⟨o2, n2, e2, hc2, hd2, hdt2⟩, z2⟩ := I.list hB
  obtain ⟨oc, od, odt, osl⟩ := o
  obtain ⟨oc2, od2, odt2, osl2⟩ := o2
  simp only at hc hd hdt hc2 hd2 hdt2
  subst hc hd hdt hc2 hd2 hdt2
  have l1 := r.length
  have l2 := r2.length
  have ea : its.toArray ++ its2.toArray = (its ++ its2).toArray := by simp
  refine concat_meets ⟨_, e, rfl⟩ ⟨_, e2, rfl⟩ noFill_list_add seq_list_add PySem.F.slot_list_add PySem.F.entry_list_add (PySem.F.args_list_add_2 _ _) (PyProof.Rows.list_addW l b its.toArray its2.toArray n n2 none none osl osl2 (by simp; omega)) ⟨e, e2, ?_⟩
  rw [ea]
  exact ⟨.ref _, _, I.lnew (t' := s.toks) (r.append r2) (by rw [List.length_append]; omega), rfl, q _ I.fresh⟩
def rAdd_ (K : PySem.W.Frag) : R2 := fun x y H Q => (∃ i j, x = .int i ∧ y = .int j ∧ Q (.int (i + j)) H) ∨ (∃ i j, x = .str i ∧ y = .str j ∧ i.length + j.length ≤ sizeLine ∧ Q (.str (i ++ j)) H) ∨ rCatL K x y H Q ∨ rCatA K x y H Q
theorem op_addA : OpR X (binaryOp .Add) (rAdd_ X.K) := op_add.or (op_add_str.or (op_catLs.or op_catA))
def gAdd (a b : D) : Option D := match a, b with
  | .int i, .int j => some (.int (i + j))
  | .str i, .str j => if i.length + j.length ≤ sizeLine then some (.str (i ++ j)) else none
  | .lst xs, .lst ys => if xs.length + ys.length ≤ sizeLine then some (.lst (xs ++ ys)) else none
  | .tup xs, .tup ys => if xs.length + ys.length ≤ sizeLine then some (.tup (xs ++ ys)) else none
  | _, _ => none
theorem Reps.nil_iff {io : Io} {G : Hp} {vs : List V} {ds : List D} (r : Reps T io G vs ds) : vs = [] ↔ ds = [] := by
  cases r with
  | nil => simp
  | cons a b => simp
theorem p_add (hK : X.K = T.K) : P2 T (rAdd_ X.K) gAdd := fun io G v u d e z H Q r1 r2 le q k => by
  rw [hK]
  unfold gAdd at q
  split at q
  · cases q; cases r1; cases r2
    exact .inl ⟨_, _, rfl, rfl, k G _ H (.refl le) (.int _)⟩
  · split at q
    · rename_i hl
      cases q; cases r1; cases r2
      exact .inr (.inl ⟨_, _, rfl, rfl, hl, k G _ H (.refl le) (.str _)⟩)
    · cases q
  · split at q
    · rename_i xs ys hl
      cases q
      cases r1 with
      | @lst a vs ds s1 e1 =>
        cases r2 with
        | @lst a2 vs2 ds2 s2 e2 =>
          refine .inr (.inr (.inl ⟨_, _, _, _, rfl, rfl, le.sqL s1, le.sqL s2, by rw [e1.length, e2.length]; exact hl, fun p hp => ?_⟩))
          have gr := Grow.one (o := .lst (vs ++ vs2)) le hp
          exact k _ _ _ gr (.lst (.inl (.inl upd_same)) ((e1.up gr.g).append (e2.up gr.g)))
    · cases q
  · split at q
    · rename_i xs ys hl
      cases q
      cases r1 with
      | @tup a vs ds s1 e1 =>
        cases r2 with
        | @tup a2 vs2 ds2 s2 e2 =>
          refine .inr (.inr (.inr ⟨_, _, _, _, rfl, rfl, le.sqT s1, le.sqT s2, by rw [e1.length, e2.length]; exact hl, fun h0 => ?_, fun h0 h1 => ?_, fun _ _ p hp => ?_⟩))
          · have hx := e1.nil_iff.mp h0
            subst hx
            exact k G _ H (.refl le) (.tup s2 e2)
          · have hy := e2.nil_iff.mp h1
            subst hy
            rw [List.append_nil] at k
            exact k G _ H (.refl le) (.tup s1 e1)
          · have gr := Grow.one (o := .tup (vs ++ vs2)) le hp
            exact k _ _ _ gr (.tup (.inl (.inl upd_same)) ((e1.up gr.g).append (e2.up gr.g)))
    · cases q
  · cases q
theorem de_add (hK : X.K = T.K) (ha : PE X a (tD T W ma)) (hb : PE X b (tD T W mb)) : PE X (.BinOp a .Add b pos) (tD T W (m2 gAdd ma mb)) := de_op op_addA (p_add hK) ha hb
/-! ### comparisons of ints -/
theorem de_lt (ha : PE X a (tD T W ma)) (hb : PE X b (tD T W mb)) : PE X (.Compare a [.Lt] [b] pos) (tD T W (m2 gLt ma mb)) := de_cmp op_lt p_B0 ha hb (nomark _)
theorem de_le (ha : PE X a (tD T W ma)) (hb : PE X b (tD T W mb)) : PE X (.Compare a [.LtE] [b] pos) (tD T W (m2 gLe ma mb)) := de_cmp op_le p_B0 ha hb (nomark _)
theorem de_gt (ha : PE X a (tD T W ma)) (hb : PE X b (tD T W mb)) : PE X (.Compare a [.Gt] [b] pos) (tD T W (m2 gGt ma mb)) := de_cmp op_gt p_B0 ha hb (nomark _)
theorem de_ge (ha : PE X a (tD T W ma)) (hb : PE X b (tD T W mb)) : PE X (.Compare a [.GtE] [b] pos) (tD T W (m2 gGe ma mb)) := de_cmp op_ge p_B0 ha hb (nomark _)
theorem dt_lt (ha : PE X a (tD T W ma)) (hb : PE X b (tD T W mb)) : PT X (.Compare a [.Lt] [b] pos) (tB T W (mT (m2 gLt ma mb))) := dt_cmp op_lt p_B0 ha hb (nomark _)
theorem dt_le (ha : PE X a (tD T W ma)) (hb : PE X b (tD T W mb)) : PT X (.Compare a [.LtE] [b] pos) (tB T W (mT (m2 gLe ma mb))) := dt_cmp op_le p_B0 ha hb (nomark _)
theorem dt_gt (ha : PE X a (tD T W ma)) (hb : PE X b (tD T W mb)) : PT X (.Compare a [.Gt] [b] pos) (tB T W (mT (m2 gGt ma mb))) := dt_cmp op_gt p_B0 ha hb (nomark _)
theorem dt_ge (ha : PE X a (tD T W ma)) (hb : PE X b (tD T W mb)) : PT X (.Compare a [.GtE] [b] pos) (tB T W (mT (m2 gGe ma mb))) := dt_cmp op_ge p_B0 ha hb (nomark _)
/-- a op b op' c -/
def mChain (g g' : D → D → Option D) (ma mb mc : M D) : M D := M.bind ma fun a => M.bind mb fun b => M.bind (M.lift (g a b)) fun k => match k with
  | .bl true => M.bind mc fun c => M.lift (g' b c)
  | .bl false => M.pure (.bl false)
  | _ => fun _ => .bad
/-- what a comparison tells is a truth, and changes nothing -/
def PB (T : Tx) (r : R2) (g : D → D → Option D) : Prop := ∀ (io : Io) (G : Hp) (v u : V) (d e : D) (k : Bool) (H : Hp) (Q : VK), Rep T io G v d → Rep T io G u e → Le G H → g d e = some (.bl k) → Q (.bl k) H → r v u H Q
theorem pb_B0 {f : Int → Int → Bool} : PB T (rI0 fun i j => .bl (f i j)) (gB0 f) := fun io G v u d e z H Q r1 r2 le q k => by
  unfold gB0 at q
  split at q
  · rename_i i j
    cases q
    cases r1
    cases r2
    exact ⟨i, j, rfl, rfl, k⟩
  · cases q
theorem tChain_of {r r' : R2} {g g' : D → D → Option D} (p : PB T r g) (p' : P2 T r' g') {σ : L2.St} {H : Hp} {Q : VK} (h : tD T W (mChain g g' ma mb mc) σ H Q) : tChain r r' (tD T W ma) (tD T W mb) (tD T W mc) σ H Q := by
  obtain ⟨x, s, k, h⟩ := h
  refine ⟨x, s, k, ?_⟩
  unfold mChain M.bind M.lift M.pure at h
  cases e1 : ma s with
  | exc c ns vs sto => rw [e1] at h; exact h
  | bad => rw [e1] at h; exact h
  | ok d1 s1 =>
    rw [e1] at h
    intro x1 v1 H1 k1 st1 r1
    refine ⟨x1, s1, k1, ?_⟩
    simp only at h
    cases e2 : mb s1 with
    | exc c ns vs sto => rw [e2] at h; exact h.back st1
    | bad => rw [e2] at h; exact h
    | ok d2 s2 =>
      rw [e2] at h
      intro x2 v2 H2 k2 st2 r2
      simp only at h
      cases e3 : g d1 d2 with
      | none => rw [e3] at h; exact h.elim
      | some z =>
        simp only [e3] at h
        cases z with
        | bl b =>
          refine p _ x2.G v1 v2 d1 d2 b H2 _ (r1.mono st2.io st2.le) r2 k2.bx.sub e3 ⟨b, rfl, ?_⟩
          cases b with
          | false => rw [if_neg Bool.false_ne_true]; exact h x2 _ H2 k2 (st1.trans st2) (.bl _)
          | true =>
            rw [if_pos rfl]
            refine ⟨x2, s2, k2, ?_⟩
            simp only at h
            cases e4 : mc s2 with
            | exc c ns vs sto => rw [e4] at h; exact h.back (st1.trans st2)
            | bad => rw [e4] at h; exact h
            | ok d3 s3 =>
              rw [e4] at h
              intro x3 v3 H3 k3 st3 r3
              simp only at h
              cases e5 : g' d2 d3 with
              | none => rw [e5] at h; exact h.elim
              | some z =>
                simp only [e5] at h
                exact p' _ x3.G v2 v3 d2 d3 z H3 Q (r2.mono st3.io st3.le) r3 k3.bx.sub e5 fun G' v' H4 gr r4 => h _ v' H4 (k3.grow gr) (st1.trans (st2.trans (st3.trans gr.stp))) r4
        | _ => exact h.elim
theorem de_chain {op op' : CmpOp} {r r' : R2} {g g' : D → D → Option D} (ho : OpR X (compareOp op) r) (ho' : OpR X (compareOp op') r') (p : PB T r g) (p' : P2 T r' g') (ha : PE X a (tD T W ma)) (hb : PE X b (tD T W mb)) (hc : PE X c (tD T W mc))
    (hm : lastMarks [op, op'] [b, c] = false := by with_unfolding_all rfl) : PE X (.Compare a [op, op'] [b, c] pos) (tD T W (mChain g g' ma mb mc)) := PE.imp (pe_chain ho ho' ha hb hc hm) fun _ _ _ h => tChain_of p p' h
theorem dt_chain {op op' : CmpOp} {r r' : R2} {g g' : D → D → Option D} (ho : OpR X (compareOp op) r) (ho' : OpR X (compareOp op') r') (p : PB T r g) (p' : P2 T r' g') (ha : PE X a (tD T W ma)) (hb : PE X b (tD T W mb)) (hc : PE X c (tD T W mc))
    (hm : lastMarks [op, op'] [b, c] = false := by with_unfolding_all rfl) : PT X (.Compare a [op, op'] [b, c] pos) (tB T W (mT (mChain g g' ma mb mc))) := PT.imp (pt_chain ho ho' ha hb hc hm) fun σ H Q q => tChain_of p p' (tT q)
/-! ### and, or, not as values (truths) -/
def mAndV (ma mb : M D) : M D := M.bind ma fun a => match a with
  | .bl true => mb
  | .bl false => M.pure (.bl false)
  | _ => fun _ => .bad
def mOrV (ma mb : M D) : M D := M.bind ma fun a => match a with
  | .bl false => mb
  | .bl true => M.pure (.bl true)
  | _ => fun _ => .bad
def mNotV (ma : M D) : M D := M.bind ma fun a => match a with
  | .bl k => M.pure (.bl (!k))
  | _ => fun _ => .bad
variable {rest : List Expr}
theorem dv_one {op : BoolOp} (h : PE X a (tD T W ma)) : PE X (.BoolOp op [a] pos) (tD T W ma) := pe_one h
theorem dv_and (ha : PE X a (tD T W ma)) (hb : PE X (.BoolOp .And (b :: rest) pos) (tD T W mb)) : PE X (.BoolOp .And (a :: b :: rest) pos) (tD T W (mAndV ma mb)) := PE.imp (pe_and ha hb) fun σ H Q ⟨x, s, k, h⟩ => by
  refine ⟨x, s, k, ?_⟩
  unfold mAndV M.bind M.pure at h
  cases e1 : ma s with
  | exc c ns vs sto => rw [e1] at h; exact h
  | bad => rw [e1] at h; exact h
  | ok d1 s1 =>
    rw [e1] at h
    intro x1 v1 H1 k1 st1 r1
    cases r1 with
    | bl q =>
      refine ⟨q, rfl, ?_⟩
      cases q with
      | false => rw [if_neg Bool.false_ne_true]; exact h x1 _ H1 k1 st1 (.bl _)
      | true =>
        rw [if_pos rfl]
        refine ⟨x1, s1, k1, ?_⟩
        simp only at h
        cases e2 : mb s1 with
        | exc c ns vs sto => rw [e2] at h; exact h.back st1
        | bad => rw [e2] at h; exact h
        | ok d2 s2 => rw [e2] at h; exact fun x2 v2 H2 k2 st2 r2 => h x2 v2 H2 k2 (st1.trans st2) r2
    | _ => exact h.elim
theorem dv_or (ha : PE X a (tD T W ma)) (hb : PE X (.BoolOp .Or (b :: rest) pos) (tD T W mb)) : PE X (.BoolOp .Or (a :: b :: rest) pos) (tD T W (mOrV ma mb)) := PE.imp (pe_or ha hb) fun σ H Q ⟨x, s, k, h⟩ => by
  refine ⟨x, s, k, ?_⟩
  unfold mOrV M.bind M.pure at h
  cases e1 : ma s with
  | exc c ns vs sto => rw [e1] at h; exact h
  | bad => rw [e1] at h; exact h
  | ok d1 s1 =>
    rw [e1] at h
    intro x1 v1 H1 k1 st1 r1
    cases r1 with
    | bl q =>
      refine ⟨q, rfl, ?_⟩
      cases q with
      | true => rw [if_pos rfl]; exact h x1 _ H1 k1 st1 (.bl _)
      | false =>
        rw [if_neg Bool.false_ne_true]
        refine ⟨x1, s1, k1, ?_⟩
        simp only at h
        cases e2 : mb s1 with
        | exc c ns vs sto => rw [e2] at h; exact h.back st1
        | bad => rw [e2] at h; exact h
        | ok d2 s2 => rw [e2] at h; exact fun x2 v2 H2 k2 st2 r2 => h x2 v2 H2 k2 (st1.trans st2) r2
    | _ => exact h.elim
theorem dv_not (ha : PE X a (tD T W ma)) : PE X (.UnaryOp .Not a pos) (tD T W (mNotV ma)) := PE.imp (pe_not ha) fun σ H Q ⟨x, s, k, h⟩ => by
  refine ⟨x, s, k, ?_⟩
  unfold mNotV M.bind M.pure at h
  cases e1 : ma s with
  | exc c ns vs sto => rw [e1] at h; exact h
  | bad => rw [e1] at h; exact h
  | ok d1 s1 =>
    rw [e1] at h
    intro x1 v1 H1 k1 st1 r1
    cases r1 with
    | bl q => exact ⟨q, rfl, h x1 _ H1 k1 st1 (.bl _)⟩
    | _ => exact h.elim
end
end Ev

/-! E7: ==, is, in, isinstance, len, int, abs, slices, texts. -/
namespace Ev
open PySem PySem.Spec L2
/-! ### data without boxes, as the library's -/
mutual
def D.py : D → PyData
  | .non => .none
  | .bl b => .bool b
  | .int i => .int i
  | .str s => .str s
  | .lst xs => .list (pys xs)
  | .tup xs => .tuple (pys xs)
  | _ => .none
def pys : List D → List PyData
  | [] => []
  | d :: ds => d.py :: pys ds
end
mutual
def D.pure : D → Bool
  | .lst xs => pures xs
  | .tup xs => pures xs
  | .dic _ _ => false
  | .kd _ _ => false
  | .box _ => false
  | .ins _ _ _ => false
  | _ => true
def pures : List D → Bool
  | [] => true
  | d :: ds => d.pure && pures ds
end
mutual
theorem Rep.dp {T : Tx} {io : Io} {G H : Hp} (le : Le G H) : ∀ {v : V} {d : D}, Rep T io G v d → d.pure = true → Dp T.K H v d.py
  | _, _, .non, _ => .non
  | _, _, .bl b, _ => .bl b
  | _, _, .int i, _ => .int i
  | _, _, .str x, _ => .str x
  | _, _, .lst s r, h => .lst (le.sqL s) (Reps.dp le r h)
  | _, _, .tup s r, h => .tup (le.sqT s) (Reps.dp le r h)
  | _, _, .box _ _, h => by cases h
  | _, _, .dic _ _ _ _, h => by cases h
  | _, _, .kd _ _ _ _, h => by cases h
theorem Reps.dp {T : Tx} {io : Io} {G H : Hp} (le : Le G H) : ∀ {v : List V} {d : List D}, Reps T io G v d → pures d = true → DpAll T.K H v (pys d)
  | _, _, .nil, _ => .nil
  | _, _, .cons a r, h => by
    unfold pures at h
    rw [Bool.and_eq_true] at h
    exact .cons (Rep.dp le a h.1) (Reps.dp le r h.2)
end
def gEqD (a b : D) : Option D := if (a.pure && b.pure && SeqAt.shaped a.py && SeqAt.shaped b.py) = true then some (.bl (PyData.eqv a.py b.py)) else none
def gEq (a b : D) : Option D := match a, b with
  | .int i, .int j => some (.bl (decide (i = j)))
  | .str i, .str j => some (.bl (decide (i = j)))
  | .bl i, .bl j => some (.bl (decide (i = j)))
  | .non, .non => some (.bl true)
  | a, b => gEqD a b
def gNe (a b : D) : Option D := match gEq a b with
  | some (.bl k) => some (.bl (!k))
  | _ => none
section
variable {T : Tx} {X : Cx} {W : WX} {a b c : Expr} {ma mb mc : M D} {pos : Pos}
theorem gEqD_bl {a b z : D} (h : gEqD a b = some z) : ∃ k, z = .bl k := by
  unfold gEqD at h
  split at h
  · cases h; exact ⟨_, rfl⟩
  · cases h
theorem gEq_bl {a b z : D} (h : gEq a b = some z) : ∃ k, z = .bl k := by
  unfold gEq at h
  split at h
  all_goals first | (cases h; exact ⟨_, rfl⟩) | exact gEqD_bl h
theorem eq_cases {io : Io} {G H : Hp} {v u : V} {d e : D} {k : Bool} (r1 : Rep T io G v d) (r2 : Rep T io G u e) (le : Le G H) (h : gEq d e = some (.bl k)) :
    (scal v u = true ∧ decide (v = u) = k) ∨ ∃ d' e', Dp T.K H v d' ∧ Dp T.K H u e' ∧ SeqAt.shaped d' = true ∧ SeqAt.shaped e' = true ∧ PyData.eqv d' e' = k := by
  unfold gEq at h
  split at h
  · cases h; cases r1; cases r2; exact .inl ⟨rfl, by simp⟩
  · cases h; cases r1; cases r2; exact .inl ⟨rfl, by simp⟩
  · cases h; cases r1; cases r2; exact .inl ⟨rfl, by simp⟩
  · cases h; cases r1; cases r2; exact .inl ⟨rfl, rfl⟩
  · unfold gEqD at h
    split at h
    · rename_i hc
      simp only [Bool.and_eq_true] at hc
      obtain ⟨⟨⟨p1, p2⟩, s1⟩, s2⟩ := hc
      injection h with h
      injection h with h
      exact .inr ⟨_, _, r1.dp le p1, r2.dp le p2, s1, s2, h⟩
    · cases h
def rEqA (K : PySem.W.Frag) : R2 := fun x y H Q => rEq x y H Q ∨ rEqD K x y H Q
def rNeA (K : PySem.W.Frag) : R2 := fun x y H Q => rNe x y H Q ∨ rNeD K x y H Q
theorem op_eqA (hu : X.A.units + 64 < cLine) : OpR X (compareOp .Eq) (rEqA X.K) := op_eq.or (op_eqD hu)
theorem op_neA (hu : X.A.units + 64 < cLine) : OpR X (compareOp .NotEq) (rNeA X.K) := op_ne.or (op_neD hu)
theorem p_eq (hK : X.K = T.K) : P2 T (rEqA X.K) gEq := fun io G v u d e z H Q r1 r2 le q k => by
  rw [hK]
  obtain ⟨b, rfl⟩ := gEq_bl q
  rcases eq_cases r1 r2 le q with ⟨h1, h2⟩ | ⟨d', e', h1, h2, h3, h4, h5⟩
  · exact .inl ⟨h1, by rw [h2]; exact k G _ H (.refl le) (.bl _)⟩
  · exact .inr ⟨d', e', h1, h2, h3, h4, by rw [h5]; exact k G _ H (.refl le) (.bl _)⟩
theorem p_ne (hK : X.K = T.K) : P2 T (rNeA X.K) gNe := fun io G v u d e z H Q r1 r2 le q k => by
  rw [hK]
  unfold gNe at q
  cases q1 : gEq d e with
  | none => rw [q1] at q; cases q
  | some z' =>
    rw [q1] at q
    obtain ⟨b, rfl⟩ := gEq_bl q1
    cases q
    rcases eq_cases r1 r2 le q1 with ⟨h1, h2⟩ | ⟨d', e', h1, h2, h3, h4, h5⟩
    · exact .inl ⟨h1, by rw [h2]; exact k G _ H (.refl le) (.bl _)⟩
    · exact .inr ⟨d', e', h1, h2, h3, h4, by rw [h5]; exact k G _ H (.refl le) (.bl _)⟩
theorem de_eq (hK : X.K = T.K) {k0 : Nat} (hr : Room k0 X.A) (ha : PE X a (tD T W ma)) (hb : PE X b (tD T W mb)) : PE X (.Compare a [.Eq] [b] pos) (tD T W (m2 gEq ma mb)) := de_cmp (op_eqA hr.units) (p_eq hK) ha hb (nomark _)
theorem de_ne (hK : X.K = T.K) {k0 : Nat} (hr : Room k0 X.A) (ha : PE X a (tD T W ma)) (hb : PE X b (tD T W mb)) : PE X (.Compare a [.NotEq] [b] pos) (tD T W (m2 gNe ma mb)) := de_cmp (op_neA hr.units) (p_ne hK) ha hb (nomark _)
theorem dt_eq (hK : X.K = T.K) {k0 : Nat} (hr : Room k0 X.A) (ha : PE X a (tD T W ma)) (hb : PE X b (tD T W mb)) : PT X (.Compare a [.Eq] [b] pos) (tB T W (mT (m2 gEq ma mb))) := dt_cmp (op_eqA hr.units) (p_eq hK) ha hb (nomark _)
theorem dt_ne (hK : X.K = T.K) {k0 : Nat} (hr : Room k0 X.A) (ha : PE X a (tD T W ma)) (hb : PE X b (tD T W mb)) : PT X (.Compare a [.NotEq] [b] pos) (tB T W (mT (m2 gNe ma mb))) := dt_cmp (op_neA hr.units) (p_ne hK) ha hb (nomark _)
/-! ### is -/
def isNon : D → Bool
  | .non => true
  | _ => false
def gIs (a b : D) : Option D := match a, b with
  | .bl i, .bl j => some (.bl (decide (i = j)))
  | a, .non => some (.bl (isNon a))
  | _, _ => none
def gIsNot (a b : D) : Option D := match a, b with
  | .bl i, .bl j => some (.bl (!decide (i = j)))
  | a, .non => some (.bl (!isNon a))
  | _, _ => none
theorem Rep.isNon {io : Io} {G : Hp} {v : V} {d : D} (r : Rep T io G v d) : decide (v = .non) = isNon d := by
  cases r <;> rfl
def rIsA : R2 := fun x y H Q => (y = .non ∧ Q (.bl (decide (x = .non))) H) ∨ ∃ a b, x = .bl a ∧ y = .bl b ∧ Q (.bl (decide (a = b))) H
def rIsNotA : R2 := fun x y H Q => (y = .non ∧ Q (.bl (!decide (x = .non))) H) ∨ ∃ a b, x = .bl a ∧ y = .bl b ∧ Q (.bl (!decide (a = b))) H
theorem op_isA : OpR X (compareOp .Is) rIsA := op_isN.or op_is_bl
theorem op_isNotA : OpR X (compareOp .IsNot) rIsNotA := op_notN.or op_isnot_bl
theorem p_is : P2 T rIsA gIs := fun io G v u d e z H Q r1 r2 le q k => by
  unfold gIs at q
  split at q
  · cases q; cases r1; cases r2; exact .inr ⟨_, _, rfl, rfl, k G _ H (.refl le) (.bl _)⟩
  · cases q; cases r2; exact .inl ⟨rfl, by rw [r1.isNon]; exact k G _ H (.refl le) (.bl _)⟩
  · cases q
theorem p_isNot : P2 T rIsNotA gIsNot := fun io G v u d e z H Q r1 r2 le q k => by
  unfold gIsNot at q
  split at q
  · cases q; cases r1; cases r2; exact .inr ⟨_, _, rfl, rfl, k G _ H (.refl le) (.bl _)⟩
  · cases q; cases r2; exact .inl ⟨rfl, by rw [r1.isNon]; exact k G _ H (.refl le) (.bl _)⟩
  · cases q
theorem de_is (ha : PE X a (tD T W ma)) (hb : PE X b (tD T W mb)) : PE X (.Compare a [.Is] [b] pos) (tD T W (m2 gIs ma mb)) := de_cmp op_isA p_is ha hb (nomark _)
theorem dt_is (ha : PE X a (tD T W ma)) (hb : PE X b (tD T W mb)) : PT X (.Compare a [.Is] [b] pos) (tB T W (mT (m2 gIs ma mb))) := dt_cmp op_isA p_is ha hb (nomark _)
theorem de_isnot (ha : PE X a (tD T W ma)) (hb : PE X b (tD T W mb)) : PE X (.Compare a [.IsNot] [b] pos) (tD T W (m2 gIsNot ma mb)) := de_cmp op_isNotA p_isNot ha hb (nomark _)
theorem dt_isnot (ha : PE X a (tD T W ma)) (hb : PE X b (tD T W mb)) : PT X (.Compare a [.IsNot] [b] pos) (tB T W (mT (m2 gIsNot ma mb))) := dt_cmp op_isNotA p_isNot ha hb (nomark _)
/-! ### in a written dict; its items -/
def gInK (a b : D) : Option D := match a, b with
  | .str z, .kd ks ds => some (.bl (lk ks ds z).isSome)
  | _, _ => none
def gNotInK (a b : D) : Option D := match a, b with
  | .str z, .kd ks ds => some (.bl (!(lk ks ds z).isSome))
  | _, _ => none
/-- a written dict at any place -/
def rInK (K : PySem.W.Frag) (w : World) (neg : Bool) : R2 := fun x y H Q => ∃ (z : Str) (r : Option Value) (p : Addr) (es : Array DictEntry) (n : Nat), KDict K w p es n ∧ x = .str z ∧ y = .ref p ∧ PySem.W.nsIn K p z = some r ∧ Q (.bl (if neg then !r.isSome else r.isSome)) H
theorem op_inK : OpR X (compareOp .In) (rInK X.K X.w false) := fun pins s σ H x y v u Q I rx ry ⟨z, r, p, es, n, kd, e1, e2, e3, q⟩ => op_in_kd kd pins s σ H x y v u Q I rx ry ⟨z, r, e1, e2, e3, q⟩
theorem op_notInK : OpR X (compareOp .NotIn) (rInK X.K X.w true) := fun pins s σ H x y v u Q I rx ry ⟨z, r, p, es, n, kd, e1, e2, e3, q⟩ => op_notIn_kd kd pins s σ H x y v u Q I rx ry ⟨z, r, e1, e2, e3, q⟩
theorem p_inK (hK : X.K = T.K) (hw : X.w = T.w) : P2 T (rInK X.K X.w false) gInK := fun io G v u d e z H Q r1 r2 le q k => by
  rw [hK, hw]
  unfold gInK at q
  split at q
  · rename_i y ks ds
    cases q
    cases r1
    cases r2 with
    | kd kd h1 h2 h3 =>
      cases el : lk ks ds y with
      | none => exact ⟨y, none, _, _, _, kd, rfl, rfl, h3 y el, by rw [el] at k; exact k G _ H (.refl le) (.bl _)⟩
      | some d' =>
        obtain ⟨u', e1, _⟩ := h1 y d' el
        exact ⟨y, some u', _, _, _, kd, rfl, rfl, e1, by rw [el] at k; exact k G _ H (.refl le) (.bl _)⟩
  · cases q
theorem p_notInK (hK : X.K = T.K) (hw : X.w = T.w) : P2 T (rInK X.K X.w true) gNotInK := fun io G v u d e z H Q r1 r2 le q k => by
  rw [hK, hw]
  unfold gNotInK at q
  split at q
  · rename_i y ks ds
    cases q
    cases r1
    cases r2 with
    | kd kd h1 h2 h3 =>
      cases el : lk ks ds y with
      | none => exact ⟨y, none, _, _, _, kd, rfl, rfl, h3 y el, by rw [el] at k; exact k G _ H (.refl le) (.bl _)⟩
      | some d' =>
        obtain ⟨u', e1, _⟩ := h1 y d' el
        exact ⟨y, some u', _, _, _, kd, rfl, rfl, e1, by rw [el] at k; exact k G _ H (.refl le) (.bl _)⟩
  · cases q
/-! ### in a list, a tuple of flat things; a text in a text -/
def D.toV : D → Option V
  | .non => some .non | .bl b => some (.bl b) | .int i => some (.int i) | .str s => some (.str s)
  | _ => none
theorem Rep.toV {io : Io} {G : Hp} {v v' : V} {d : D} (r : Rep T io G v d) (h : d.toV = some v') : v = v' ∧ flatV v = true := by
  cases r <;> first | (cases h; done) | (cases h; exact ⟨rfl, rfl⟩)
def toVs : List D → Option (List V)
  | [] => some []
  | d :: ds => match d.toV, toVs ds with
    | some v, some vs => some (v :: vs)
    | _, _ => none
theorem Reps.toVs {io : Io} {G : Hp} : ∀ {vs vs' : List V} {ds : List D}, Reps T io G vs ds → toVs ds = some vs' → vs = vs' ∧ vs.all flatV = true
  | _, _, _, .nil, h => by cases h; exact ⟨rfl, rfl⟩
  | _, _, _, .cons (d := d) (ds := ds) a r, h => by
    unfold Ev.toVs at h
    cases e1 : d.toV with
    | none => rw [e1] at h; cases h
    | some v =>
      cases e2 : Ev.toVs ds with
      | none => rw [e1, e2] at h; cases h
      | some vs =>
        rw [e1, e2] at h
        cases h
        obtain ⟨h1, h2⟩ := a.toV e1
        obtain ⟨h3, h4⟩ := Reps.toVs r e2
        subst h1 h3
        exact ⟨rfl, by simp [h2, h4]⟩
def inD (a b : D) : Option Bool := match a, b with
  | .str i, .str j => some (!(Builtin.Str.occurrences j i 0 j.length 1).isEmpty)
  | a, .lst xs => match a.toV, toVs xs with
    | some v, some vs => some (inV v vs)
    | _, _ => none
  | a, .tup xs => match a.toV, toVs xs with
    | some v, some vs => some (inV v vs)
    | _, _ => none
  | .str z, .kd ks ds => some (lk ks ds z).isSome
  | _, _ => none
def gIn (a b : D) : Option D := (inD a b).map .bl
def gNotIn (a b : D) : Option D := (inD a b).map fun k => .bl (!k)
def rInA (K : PySem.W.Frag) (w : World) : R2 := fun x y H Q => (∃ i j, x = .str i ∧ y = .str j ∧ Q (.bl (!(Builtin.Str.occurrences j i 0 j.length 1).isEmpty)) H) ∨ rIn K false x y H Q ∨ rInK K w false x y H Q
def rNotInA (K : PySem.W.Frag) (w : World) : R2 := fun x y H Q => (∃ i j, x = .str i ∧ y = .str j ∧ Q (.bl (!(!(Builtin.Str.occurrences j i 0 j.length 1).isEmpty))) H) ∨ rIn K true x y H Q ∨ rInK K w true x y H Q
theorem op_inA : OpR X (compareOp .In) (rInA X.K X.w) := op_in_str.or (op_in_seq.or op_inK)
theorem op_notInA : OpR X (compareOp .NotIn) (rNotInA X.K X.w) := op_notIn_str.or (op_notIn_seq.or op_notInK)
theorem in_cases {io : Io} {G H : Hp} {v u : V} {d e : D} {k : Bool} (r1 : Rep T io G v d) (r2 : Rep T io G u e) (le : Le G H) (h : inD d e = some k) :
    (∃ i j, v = .str i ∧ u = .str j ∧ (!(Builtin.Str.occurrences j i 0 j.length 1).isEmpty) = k) ∨ (∃ p xs, u = .ref p ∧ (SqL T.K H p xs ∨ SqT T.K H p xs) ∧ flatV v = true ∧ xs.all flatV = true ∧ inV v xs = k) ∨
      ∃ (z : Str) (r : Option Value) (p : Addr) (es : Array DictEntry) (n : Nat), KDict T.K T.w p es n ∧ v = .str z ∧ u = .ref p ∧ PySem.W.nsIn T.K p z = some r ∧ r.isSome = k := by
  unfold inD at h
  split at h
  · cases h; cases r1; cases r2; exact .inl ⟨_, _, rfl, rfl, rfl⟩
  · rename_i xs
    cases r2 with
    | lst s rs =>
      cases e1 : d.toV with
      | none => rw [e1] at h; cases h
      | some v1 =>
        cases e2 : Ev.toVs xs with
        | none => rw [e1, e2] at h; cases h
        | some vs =>
          rw [e1, e2] at h
          cases h
          obtain ⟨h1, h2⟩ := r1.toV e1
          obtain ⟨h3, h4⟩ := rs.toVs e2
          subst h1 h3
          exact .inr (.inl ⟨_, _, rfl, .inl (le.sqL s), h2, h4, rfl⟩)
  · rename_i xs
    cases r2 with
    | tup s rs =>
      cases e1 : d.toV with
      | none => rw [e1] at h; cases h
      | some v1 =>
        cases e2 : Ev.toVs xs with
        | none => rw [e1, e2] at h; cases h
        | some vs =>
          rw [e1, e2] at h
          cases h
          obtain ⟨h1, h2⟩ := r1.toV e1
          obtain ⟨h3, h4⟩ := rs.toVs e2
          subst h1 h3
          exact .inr (.inl ⟨_, _, rfl, .inr (le.sqT s), h2, h4, rfl⟩)
  · rename_i y ks ds
    cases h
    cases r1
    cases r2 with
    | kd kd h1 h2 h3 =>
      cases el : lk ks ds y with
      | none => exact .inr (.inr ⟨y, none, _, _, _, kd, rfl, rfl, h3 y el, rfl⟩)
      | some d' =>
        obtain ⟨u', e1, _⟩ := h1 y d' el
        exact .inr (.inr ⟨y, some u', _, _, _, kd, rfl, rfl, e1, rfl⟩)
  · cases h
theorem p_in (hK : X.K = T.K) (hw : X.w = T.w) : P2 T (rInA X.K X.w) gIn := fun io G v u d e z H Q r1 r2 le q k => by
  rw [hK, hw]
  unfold gIn at q
  cases e1 : inD d e with
  | none => rw [e1] at q; cases q
  | some b =>
    rw [e1] at q
    cases q
    have fin := k G _ H (.refl le) (.bl b)
    rcases in_cases r1 r2 le e1 with ⟨i, j, h1, h2, h3⟩ | ⟨p, xs, h1, h2, h3, h4, h5⟩ | ⟨y, r, p, es, n, h1, h2, h3, h4, h5⟩
    · exact .inl ⟨i, j, h1, h2, by rw [h3]; exact fin⟩
    · exact .inr (.inl ⟨p, xs, h1, h2, h3, h4, by rw [if_neg (by decide), h5]; exact fin⟩)
    · exact .inr (.inr ⟨y, r, p, es, n, h1, h2, h3, h4, by rw [if_neg (by decide), h5]; exact fin⟩)
theorem p_notIn (hK : X.K = T.K) (hw : X.w = T.w) : P2 T (rNotInA X.K X.w) gNotIn := fun io G v u d e z H Q r1 r2 le q k => by
  rw [hK, hw]
  unfold gNotIn at q
  cases e1 : inD d e with
  | none => rw [e1] at q; cases q
  | some b =>
    rw [e1] at q
    cases q
    have fin := k G _ H (.refl le) (.bl (!b))
    rcases in_cases r1 r2 le e1 with ⟨i, j, h1, h2, h3⟩ | ⟨p, xs, h1, h2, h3, h4, h5⟩ | ⟨y, r, p, es, n, h1, h2, h3, h4, h5⟩
    · exact .inl ⟨i, j, h1, h2, by rw [h3]; exact fin⟩
    · exact .inr (.inl ⟨p, xs, h1, h2, h3, h4, by rw [if_pos rfl, h5]; exact fin⟩)
    · exact .inr (.inr ⟨y, r, p, es, n, h1, h2, h3, h4, by rw [if_pos rfl, h5]; exact fin⟩)
theorem de_in (hK : X.K = T.K) (hw : X.w = T.w) (ha : PE X a (tD T W ma)) (hb : PE X b (tD T W mb)) (hm : behindInMarks .In b = false := by rfl) : PE X (.Compare a [.In] [b] pos) (tD T W (m2 gIn ma mb)) := de_cmp op_inA (p_in hK hw) ha hb hm
theorem dt_in (hK : X.K = T.K) (hw : X.w = T.w) (ha : PE X a (tD T W ma)) (hb : PE X b (tD T W mb)) (hm : behindInMarks .In b = false := by rfl) : PT X (.Compare a [.In] [b] pos) (tB T W (mT (m2 gIn ma mb))) := dt_cmp op_inA (p_in hK hw) ha hb hm
theorem de_notin (hK : X.K = T.K) (hw : X.w = T.w) (ha : PE X a (tD T W ma)) (hb : PE X b (tD T W mb)) (hm : behindInMarks .NotIn b = false := by rfl) : PE X (.Compare a [.NotIn] [b] pos) (tD T W (m2 gNotIn ma mb)) := de_cmp op_notInA (p_notIn hK hw) ha hb hm
theorem dt_notin (hK : X.K = T.K) (hw : X.w = T.w) (ha : PE X a (tD T W ma)) (hb : PE X b (tD T W mb)) (hm : behindInMarks .NotIn b = false := by rfl) : PT X (.Compare a [.NotIn] [b] pos) (tB T W (mT (m2 gNotIn ma mb))) := dt_cmp op_notInA (p_notIn hK hw) ha hb hm
/-! ### len, int, abs, min, max -/
def gLen : List D → Option D
  | [.lst xs] => some (.int xs.length)
  | [.tup xs] => some (.int xs.length)
  | [.str z] => if z.length ≤ sizeLine then some (.int z.length) else none
  | _ => none
def rLenA (K : PySem.W.Frag) : List V → Hp → VK → Prop := fun xs H Q => (∃ p ys, xs = [.ref p] ∧ (SqL K H p ys ∨ SqT K H p ys) ∧ Q (.int ys.length) H) ∨ ∃ z, xs = [.str z] ∧ z.length ≤ sizeLine ∧ Q (.int z.length) H
theorem call_lenA : CallR X (.builtin "len") (rLenA X.K) := call_len_seq.or call_len_str
theorem p_len (hK : X.K = T.K) : PL T (rLenA X.K) gLen := fun io G vs ds z H Q r le q k => by
  rw [hK]
  unfold gLen at q
  split at q
  · cases q
    cases r with
    | cons r1 r2 =>
      cases r2
      cases r1 with
      | lst s rs => exact .inl ⟨_, _, rfl, .inl (le.sqL s), by rw [rs.length]; exact k G _ H (.refl le) (.int _)⟩
  · cases q
    cases r with
    | cons r1 r2 =>
      cases r2
      cases r1 with
      | tup s rs => exact .inl ⟨_, _, rfl, .inr (le.sqT s), by rw [rs.length]; exact k G _ H (.refl le) (.int _)⟩
  · split at q
    · rename_i hz
      cases q
      cases r with
      | cons r1 r2 =>
        cases r2
        cases r1
        exact .inr ⟨_, rfl, hz, k G _ H (.refl le) (.int _)⟩
    · cases q
  · cases q
def gInt : List D → Option D
  | [.int i] => some (.int i)
  | [.bl b] => some (.int (if b = true then 1 else 0))
  | [.str z] => match PySem.intText? z with
    | some n => if z.length ≤ 640 then some (.int n) else none
    | none => none
  | _ => none
def rIntA : List V → Hp → VK → Prop := fun xs H Q => ((∃ i, xs = [.int i] ∧ Q (.int i) H) ∨ ∃ k, xs = [.bl k] ∧ Q (.int (if k then 1 else 0)) H) ∨ ∃ a n, xs = [.str a] ∧ PySem.intText? a = some n ∧ a.length ≤ 640 ∧ Q (.int n) H
theorem call_intA : CallR X (.type "int") rIntA := call_int1.or call_int_str
theorem p_int : PL T rIntA gInt := fun io G vs ds z H Q r le q k => by
  unfold gInt at q
  split at q
  · cases q
    cases r with
    | cons r1 r2 => cases r2; cases r1; exact .inl (.inl ⟨_, rfl, k G _ H (.refl le) (.int _)⟩)
  · cases q
    cases r with
    | cons r1 r2 => cases r2; cases r1; exact .inl (.inr ⟨_, rfl, k G _ H (.refl le) (.int _)⟩)
  · split at q
    · rename_i n hn
      split at q
      · rename_i hz
        cases q
        cases r with
        | cons r1 r2 => cases r2; cases r1; exact .inr ⟨_, _, rfl, hn, hz, k G _ H (.refl le) (.int _)⟩
      · cases q
    · cases q
  · cases q
def gAbs : List D → Option D
  | [.int i] => some (.int (if i < 0 then -i else i))
  | _ => none
theorem p_abs : PL T (fun xs H Q => ∃ i, xs = [.int i] ∧ Q (.int (if i < 0 then -i else i)) H) gAbs := fun io G vs ds z H Q r le q k => by
  unfold gAbs at q
  split at q
  · cases q
    cases r with
    | cons r1 r2 => cases r2; cases r1; exact ⟨_, rfl, k G _ H (.refl le) (.int _)⟩
  · cases q
def gMin2 : List D → Option D
  | [.int i, .int j] => some (.int (if j < i then j else i))
  | _ => none
theorem p_min2 : PL T (fun xs H Q => ∃ i j, xs = [.int i, .int j] ∧ Q (.int (if j < i then j else i)) H) gMin2 := fun io G vs ds z H Q r le q k => by
  unfold gMin2 at q
  split at q
  · cases q
    cases r with
    | cons r1 r2 =>
      cases r2 with
      | cons r3 r4 => cases r4; cases r1; cases r3; exact ⟨_, _, rfl, k G _ H (.refl le) (.int _)⟩
  · cases q
end
end Ev

/-! E8: the end of a law over data. -/
namespace Ev
open PySem PySem.Spec L2
/-- what the making of lambdas asks of the written part: code objects and their tables -/
def TabsAt (base : Heap) (mg : Str → Option Value) (cs : List (Addr × Addr)) : Prop := ∀ p ∈ cs, LamX.TabB base mg p.1 p.2
/-- the tables at the start: empty, outside the module's known part -/
structure TabE (K : PySem.W.Frag) (h : Heap) (cs : List (Addr × Addr)) : Prop where
  at_ : ∀ p ∈ cs, h.get? p.2 = some { cls := .none, data := .fields #[] }
  out : ∀ p ∈ cs, K.lookup p.2 = none
  hd : ∀ p ∈ cs, PySem.W.CodeHd h p.1 p.2
theorem TabE.nil {K : PySem.W.Frag} {h : Heap} : TabE K h [] := ⟨fun _ q => (by cases q), fun _ q => (by cases q), fun _ q => (by cases q)⟩
def tblH (cs : List (Addr × Addr)) (H : Hp) : Hp := fun b => if b ∈ cs.map (·.2) then some (.tbl #[]) else H b
theorem tblH_in {cs : List (Addr × Addr)} {H : Hp} {b : Addr} (h : b ∈ cs.map (·.2)) : tblH cs H b = some (.tbl #[]) := if_pos h
theorem tblH_out {cs : List (Addr × Addr)} {H : Hp} {b : Addr} (h : b ∉ cs.map (·.2)) : tblH cs H b = H b := if_neg h
/-- the call of the law's def at the heap behind the top -/
theorem end_call {P : Program} {w : World} {K : PySem.W.Frag} {ca : Str → Addr} {mg mb : Str → Option Value} {k : Nat} {fa a : Addr} {fd : FuncData} {y : Str} {F : Fn} {s1 : Shared} {vs : List Value} {ns : List Int} {cs : List (Addr × Addr)} {tb : List (Addr × Str)}
    (kin : K.In s1.heap) (gl : s1.heap.Ns mainGlobals mg) (bu : s1.heap.Ns builtinsNs mb) (bv : ∀ z : Str, z ≠ "__name__" → mb z = bootBuiltins z) (lim : s1.heap.NoLimit) (gens : s1.gens = #[])
    (TE : TabE K s1.heap cs) (htb : ∀ p ∈ tb, p.1 ∈ cs.map (·.2)) (bmn : ∃ (bm : Addr) (ob : Obj), mg "__builtins__" = some (.ref bm) ∧ bm ≠ builtinsNs ∧ s1.heap.get? bm = some ob ∧ ob.cls = .type "module" ∧ ob.dict = some builtinsNs ∧ ob.data = .plain)
    (at_ : s1.heap.get? a = some { cls := .type "list", data := .seq vs.toArray }) (hin : PyProof.Rows.IntsAre vs ns) (few : ns.length ≤ sizeLine) (room : Room k callerA)
    (FO : ∀ base : Heap, K.In base → base.Ns mainGlobals mg → TabsAt base mg cs → FnG P w K mg base (L2.CX P w) k fa fd [y] (spD { K := K, w := w, ca := ca, tb := tb } 1 F)) (bind : ∀ (s : Shared) (u : Value), BindsTo s fd ⟨[u], []⟩ [(y, u)])
    (run : ∃ sto, F [.lst (ns.map .int)] [] = .rt (.bl true) sto) :
    codeAny (model P w) callerA (.call (.ref fa) ⟨[.ref a], []⟩) (fun r s' => r = .ok (.ret (.bool true)) ∧ OldK s1.heap s'.heap ∧ s'.os = s1.os ∧ PyProof.Rows.AllBare s'.gens) s1 := by
  obtain ⟨sto, run⟩ := run
  have rv : Vals (ns.map V.int) vs := vals_of_ints hin
  have tat : ∀ b, b ∈ cs.map (·.2) → s1.heap.get? b = some { cls := .none, data := .fields #[] } ∧ K.lookup b = none := fun b hb => by
    obtain ⟨p, hp, rfl⟩ := List.mem_map.mp hb
    exact ⟨TE.at_ p hp, TE.out p hp⟩
  have aT : a ∉ cs.map (·.2) := fun z => by
    have q := (tat a z).1
    rw [at_] at q
    cases q
  -- what is tracked at the start, but for the tables: the script, or nothing where the module knows it
  obtain ⟨H0, hS0, hok0, only0, known0⟩ : ∃ H : Hp, SqL K H a (ns.map V.int) ∧ HOk P w H s1.heap ∧ (∀ b u, H b = some u → b = a ∧ ∃ o xs, u = .frz o (.lst xs)) ∧ ((∃ u, H a = some u) → K.lookup a = none) := by
    cases q : K.lookup a with
    | some o =>
      have e := kin a o q
      rw [at_] at e
      cases e
      exact ⟨fun _ => none, .inr ⟨_, vs.toArray, _, q, rfl, rfl, rfl, by rw [List.size_toArray, hin.length]; exact few, by simpa using rv⟩, (show HOk P w (fun _ => none) s1.heap from fun b u z => (nomatch z)), (fun b u z => (nomatch z)), (fun ⟨u, z⟩ => (nomatch z))⟩
    | none =>
      refine ⟨L2.upd (fun _ => none) a (.frz { cls := .type "list", data := .seq vs.toArray } (.lst (ns.map V.int))), .inl (.inr ⟨_, upd_same⟩), fun b u z => ?_, fun b u z => ?_, fun _ => rfl⟩
      · by_cases hb : b = a
        · subst hb
          rw [upd_same] at z
          cases z
          exact ⟨at_, by rw [List.length_map]; exact few, vs, 0, rv, at_⟩
        · rw [upd_ne hb] at z; cases z
      · by_cases hb : b = a
        · subst hb
          rw [upd_same] at z
          cases z
          exact ⟨rfl, _, _, rfl⟩
        · rw [upd_ne hb] at z; cases z
  obtain ⟨H, eH⟩ : ∃ H, H = tblH cs H0 := ⟨_, rfl⟩
  have hTin : ∀ b, b ∈ cs.map (·.2) → H b = some (.tbl #[]) := fun b hb => by rw [eH]; exact tblH_in hb
  have hTout : ∀ b, b ∉ cs.map (·.2) → H b = H0 b := fun b hb => by rw [eH]; exact tblH_out hb
  have only : ∀ b u, H b = some u → (b ∈ cs.map (·.2) ∧ u = .tbl #[]) ∨ (b = a ∧ ∃ o xs, u = .frz o (.lst xs)) := fun b u e => by
    by_cases hb : b ∈ cs.map (·.2)
    · rw [hTin b hb] at e; cases e; exact .inl ⟨hb, rfl⟩
    · rw [hTout b hb] at e; exact .inr (only0 b u e)
  have le0 : Le H0 H := fun b u e => by rw [hTout b (fun z => aT ((only0 b u e).1 ▸ z))]; exact e
  have hS : SqL K H0 a (ns.map V.int) := hS0
  have hok : HOk P w H s1.heap := fun b u e => by
    by_cases hb : b ∈ cs.map (·.2)
    · rw [hTin b hb] at e; cases e
      exact (tat b hb).1
    · rw [hTout b hb] at e
      have z := hok0 b u e
      obtain ⟨_, o, xs, rfl⟩ := only0 b u e
      exact z
  have notD : ∀ {b : Addr} {o : Obj}, s1.heap.get? b = some o → (∀ xs n, o.data ≠ .seq xs n) → o.data ≠ .fields #[] → H b = none := fun {b o} e d1 d2 => by
    cases q : H b with
    | none => rfl
    | some u =>
      rcases only b u q with ⟨hb, _⟩ | ⟨rfl, _⟩
      · rw [(tat b hb).1] at e
        cases e
        exact absurd rfl d2
      · rw [at_] at e
        cases e
        exact absurd rfl (d1 _ _)
  have nsH : ∀ {b : Addr} {m : Str → Option Value}, s1.heap.Ns b m → (hidT s1.heap H).Ns b m := fun ⟨o, es, ep, e, d, r⟩ => ⟨o, es, ep, hidT_get e (notD e (fun _ _ z => by rw [d] at z; cases z) fun z => by rw [d] at z; cases z), d, r⟩
  have kinH : K.In (hidT s1.heap H) := fun b o e => hidT_get (kin b o e) (by
    cases q : H b with
    | none => rfl
    | some u =>
      rcases only b u q with ⟨hb, _⟩ | ⟨rfl, _⟩
      · rw [(tat b hb).2] at e; cases e
      · rw [hTout b aT] at q
        rw [known0 ⟨u, q⟩] at e
        cases e)
  have md : Mod K mg (hidT s1.heap H) := ⟨kinH, nsH gl, ⟨mb, nsH bu, bv⟩, match lim with | ⟨mc, h1, h2⟩ => ⟨mc, nsH h1, h2⟩⟩
  have e0 : Env0 P w K mg (hidT s1.heap H) callerA [] s1 H := ⟨rfl, md, fun b o e => of_hidT e, Nat.le_of_eq (hidT_size _ _), trivial, fun b hb => (nomatch hb), hok, PyProof.Rows.AllBare.of_eq gens⟩
  have TB : TabsAt (hidT s1.heap H) mg cs := fun p hp => by
    have hat := TE.at_ p hp
    refine ⟨?_, ?_, fun z => ?_⟩
    · obtain ⟨o, us, file, tf, flags, tg, inF, text, tt, e1, r1, r2, r3, r⟩ := TE.hd p hp
      exact ⟨o, us, file, tf, flags, tg, inF, text, tt, hidT_get e1 (notD e1 (fun _ _ z => by rw [r2] at z; cases z) fun z => by rw [r2] at z; cases z; simp at r3), r1, r2, r3, r⟩
    · obtain ⟨bm, ob, b1, b2, b3, b4, b5, b6⟩ := bmn
      refine ⟨bm, ob, b1, b2, fun q => ?_, fun q => ?_, hidT_get b3 (notD b3 (fun _ _ z => by rw [b6] at z; cases z) fun z => by rw [b6] at z; cases z), b4, b5, b6⟩
      · obtain ⟨o, es, ep, e, d, _⟩ := gl
        rw [← q, b3] at e
        cases e
        rw [b6] at d; cases d
      · rw [q, hat] at b3
        cases b3
        cases b6
    · obtain ⟨o, es, ep, e, d, _⟩ := gl
      rw [z, hat] at e
      cases e
      cases d
  have sp : spD { K := K, w := w, ca := ca, tb := tb } 1 F [.ref a] H (fun v _ => v = .bl true) (fun _ _ _ => False) := by
    refine ⟨⟨⟨fun _ => 0, 0⟩, H0, fun b => b ∈ tb.map (·.1)⟩, _, [], ⟨rfl, fun i xs z => by simp at z, fun i hi => by simp at hi, fun i j hi => by simp at hi, le0, fun b o z q => ?_, fun b q => ?_, fun p hp => ⟨List.mem_map.mpr ⟨p, hp, rfl⟩, #[], hTin _ (htb p hp), True.intro, fun pos cv hc => by
        have z : codeAmong pos [] = some cv := hc
        simp [codeAmong] at z⟩, ⟨.refl _, fun _ _ z => by cases z⟩⟩, fun b q => ?_, .cons (.lst hS (.ints ns)) .nil, rfl, ?_⟩
    · obtain ⟨p, hp, rfl⟩ := List.mem_map.mp q
      exact aT ((only0 _ o z).1 ▸ htb p hp)
    · obtain ⟨p, hp, rfl⟩ := List.mem_map.mp q
      exact ⟨_, hTin _ (htb p hp)⟩
    · obtain ⟨p, hp, rfl⟩ := List.mem_map.mp q
      exact .inr ⟨p, hp, rfl⟩
    · rw [run]
      intro x' v H' _ _ r
      cases r
      rfl
  refine codeAny_mono ((FO _ kinH (nsH gl) TB).run callerA [] s1 H ⟨[.ref a], []⟩ [.ref a] [.ref a] _ _ rfl room e0 (bind s1 _) (.cons rfl .nil) sp) fun r s' h => ?_
  match r, h with
  | .error e, ⟨_, _, _, _, _, _, _, _, _, _, _, _, z⟩ => exact z.elim
  | .ok (.ret u), ⟨v, H', os, bare, un, hok', rr, q⟩ =>
    have q : v = .bl true := q
    subst q
    cases rr
    have tmore : ∀ b, b ∈ cs.map (·.2) → ∃ more : Array Value, s'.heap.get? b = some { cls := .none, data := .fields (#[] ++ more) } := fun b hb => by
      obtain ⟨more, z⟩ := un.tbls b #[] (hTin b hb)
      exact ⟨more, hok' b _ z⟩
    have rest : ∀ b o, b ∉ cs.map (·.2) → s1.heap.get? b = some o → s'.heap.get? b = some o := fun b o nb e => by
      cases z : H b with
      | none => exact un.keep b o e z (by simp [frs]) (by simp)
      | some u =>
        rcases only b u z with ⟨hb, _⟩ | ⟨_, ob, xs, rfl⟩
        · exact absurd hb nb
        · obtain ⟨e1, _⟩ := hok b _ z
          obtain ⟨e2, _⟩ := hok' b _ (un.frzs b ob _ z)
          rw [e] at e1
          cases e1
          exact e2
    refine ⟨rfl, ⟨fun b o e => ?_, fun b o e => ?_⟩, os, bare⟩
    · by_cases hb : b ∈ cs.map (·.2)
      · obtain ⟨more, z⟩ := tmore b hb
        have e2 := (tat b hb).1
        rw [e] at e2
        cases e2
        obtain ⟨p, hp, rfl⟩ := List.mem_map.mp hb
        exact .inr (.inl ⟨((TE.hd p hp).tab (TE.at_ p hp)).isCodeTable, rfl, #[], more, rfl, z⟩)
      · exact .inl (rest b o hb e)
    · by_cases hb : b ∈ cs.map (·.2)
      · obtain ⟨more, z⟩ := tmore b hb
        exact ⟨_, z⟩
      · exact ⟨o, rest b o hb e⟩
end Ev

/-! E9: isinstance, items of written dicts, slices, f-strings, repr, sorted. -/
namespace Ev
open PySem PySem.Spec L2
/-! ### isinstance of built-in types -/
def D.tyn : D → Option String
  | .non => some "NoneType" | .bl _ => some "bool" | .int _ => some "int" | .str _ => some "str" | .lst _ => some "list" | .tup _ => some "tuple" | .dic _ _ => some "dict" | .kd _ _ => some "dict"
  | _ => none
def isA (n t : String) : Bool := n == t || (n == "bool" && t == "int")
def tyNames : List String := ["int", "bool", "str", "list", "tuple", "dict"]
def ownNames : List String := ["NoneType", "bool", "int", "str", "list", "tuple", "dict"]
theorem isA_ok : ∀ n ∈ ownNames, ∀ t ∈ tyNames, kitB n t = some (isA n t) := by decide +kernel
theorem D.tyn_mem {d : D} {n : String} (h : d.tyn = some n) : n ∈ ownNames := by
  cases d <;> first | (cases h; done) | (cases h; decide)
def gIsi (ts : List String) (d : D) : Option D := match d.tyn with
  | some n => some (.bl (ts.any fun t => isA n t))
  | none => none
section
variable {T : Tx} {X : Cx} {W : WX} {e a b : Expr} {ma mb mc : M D} {pos : Pos}
theorem Rep.tyx {io : Io} {G H : Hp} {v : V} {d : D} {n : String} (r : Rep T io G v d) (le : Le G H) (h : d.tyn = some n) : TyX T.K H v (.type n) := by
  cases r with
  | non => cases h; exact .base .non
  | bl b => cases h; exact .base (.bl b)
  | int i => cases h; exact .base (.int i)
  | str x => cases h; exact .base (.str x)
  | lst s _ =>
    cases h
    rcases le.sqL s with (z | ⟨o, z⟩) | ⟨o, its, m, z, c, _⟩
    · exact .base (.lst z)
    · exact .base (.frz z)
    · exact .kList z c
  | tup s _ =>
    cases h
    rcases le.sqT s with (z | ⟨o, z⟩) | ⟨o, its, m, z, c, _⟩
    · exact .base (.tup z)
    · exact .fTuple z
    · exact .kTuple z c
  | box m _ => cases h
  | dic s _ _ _ =>
    cases h
    rcases le.rd s with z | ⟨o, z⟩
    · exact .base (.dK z)
    · exact .fDict z
  | kd k _ _ _ => cases h; exact .kDict k.at_ rfl
  | ins _ _ _ _ => cases h
theorem kitAny_ok {K : PySem.W.Frag} {n : String} : ∀ {ts : List String}, n ∈ ownNames → (∀ t ∈ ts, t ∈ tyNames) → PySem.W.kitAny K (.type n) (ts.map Value.type) = some (ts.any fun t => isA n t)
  | [], _, _ => kitAny_nil
  | t :: ts, hn, ht => kitAny_cons (b := isA n t) (kit_ty (isA_ok n hn t (ht t (List.mem_cons_self ..)))) (fun hb => by
      show PySem.W.kitAny K (.type n) (ts.map Value.type) = some (isA n t || ts.any fun t => isA n t)
      rw [hb, Bool.false_or]; exact kitAny_ok hn fun u hu => ht u (List.mem_cons_of_mem _ hu)) fun hb => by
      show (isA n t || ts.any fun t => isA n t) = true
      rw [hb, Bool.true_or]
theorem boot_isi : bootBuiltins "isinstance" = some (.builtin "isinstance") := PyProof.Rows.boot_isinstance
/-- isinstance(e, T) -/
theorem de_isi {t : Str} {n : String} {p p2 : Pos} (hK : X.K = T.K) (hg : Gl X "isinstance") (hm : X.mg "isinstance" = none) (hgt : Gl X t) (hmt : X.mg t = none) (hv : bootBuiltins t = some (.type n)) (hn : n ∈ tyNames) (he : PE X e (tD T W ma))
    (hnn : t ≠ "__name__" := by decide) (hdb : (t == ("__debug__" : Str)) = false := by decide)
    (hs : starEach [e, .Name t p2] X.env = (false, eval e X.env) :: starEach [.Name t p2] X.env := by rfl) (hs2 : starEach [.Name t p2] X.env = (false, eval (.Name t p2) X.env) :: starEach [] X.env := by rfl) (hpl : (backTo pos (starEach [.Name t p2] X.env)).any (·.1) = false := by rfl) :
    PE X (.Call (.Name "isinstance" p) [e, .Name t p2] [] pos) (tD T W (m1 (gIsi [n]) ma)) :=
  PE.imp (pe_callB call_isi hg hm boot_isi (pa_cons he (pa_cons (pe_bltn (v := .ty n) hgt hmt hv rfl hnn hdb) pa_nil hs2) hs) (he := hs) (hpl := hpl)) fun σ H Q h => by
    have h2 : tUn (fun x H Q => rIsi X.K [x, .ty n] H Q) (tD T W ma) σ H Q := t1 (fun io G v d z H Q r le q k => by
      rw [hK]
      unfold gIsi at q
      cases e1 : d.tyn with
      | none => rw [e1] at q; cases q
      | some m =>
        rw [e1] at q
        cases q
        have hb : ([n].any fun t => isA m t) = isA m n := by simp
        rw [hb] at k
        exact ⟨v, .ty n, .type m, .type n, isA m n, rfl, .ty n, r.tyx le e1, kit_ty (isA_ok m (D.tyn_mem e1) n hn), k G _ H (.refl le) (.bl _)⟩) h
    exact h2
/-- isinstance(e, (T, U)) -/
theorem de_isi2 {t u : Str} {n m : String} {p p2 p3 p4 : Pos} {kk : Nat} (hK : X.K = T.K) (hg : Gl X "isinstance") (hm : X.mg "isinstance" = none) (hgt : Gl X t) (hmt : X.mg t = none) (hv : bootBuiltins t = some (.type n)) (hn : n ∈ tyNames)
    (hgu : Gl X u) (hmu : X.mg u = none) (hvu : bootBuiltins u = some (.type m)) (hmm : m ∈ tyNames) (he : PE X e (tD T W ma))
    (hnn : t ≠ "__name__" := by decide) (hdb : (t == ("__debug__" : Str)) = false := by decide) (hnu : u ≠ "__name__" := by decide) (hdu : (u == ("__debug__" : Str)) = false := by decide)
    (hs : starEach [e, .Tuple [.Name t p2, .Name u p3] kk p4] X.env = (false, eval e X.env) :: starEach [.Tuple [.Name t p2, .Name u p3] kk p4] X.env := by rfl)
    (hs2 : starEach [.Tuple [.Name t p2, .Name u p3] kk p4] X.env = (false, eval (.Tuple [.Name t p2, .Name u p3] kk p4) X.env) :: starEach [] X.env := by rfl)
    (hs3 : starEach [.Name t p2, .Name u p3] X.env = (false, eval (.Name t p2) X.env) :: starEach [.Name u p3] X.env := by rfl) (hs4 : starEach [.Name u p3] X.env = (false, eval (.Name u p3) X.env) :: starEach [] X.env := by rfl)
    (hpl : (backTo pos (starEach [.Tuple [.Name t p2, .Name u p3] kk p4] X.env)).any (·.1) = false := by rfl) :
    PE X (.Call (.Name "isinstance" p) [e, .Tuple [.Name t p2, .Name u p3] kk p4] [] pos) (tD T W (m1 (gIsi [n, m]) ma)) :=
  PE.imp (pe_callB call_isiT hg hm boot_isi (pa_cons he (pa_cons (pe_tup (pa_cons (pe_bltn (v := .ty n) hgt hmt hv rfl hnn hdb) (pa_cons (pe_bltn (v := .ty m) hgu hmu hvu rfl hnu hdu) pa_nil hs4) hs3)) pa_nil hs2) hs) (he := hs) (hpl := hpl)) fun σ H Q h => by
    have h2 : tUn (fun x H Q => ∀ p, H p = none → rIsiT X.K [x, .ref p] (L2.upd H p (.tup [.ty n, .ty m])) Q) (tD T W ma) σ H Q := t1 (fun io G v d z H Q r le q k => by
      rw [hK]
      unfold gIsi at q
      cases e1 : d.tyn with
      | none => rw [e1] at q; cases q
      | some y =>
        rw [e1] at q
        cases q
        intro p hp
        have lu : Le H (L2.upd H p (.tup [.ty n, .ty m])) := Le.upd hp
        have gr : Grow G H G (L2.upd H p (.tup [.ty n, .ty m])) := ⟨.refl _, lu, le.trans lu, fun _ _ z => .inl z⟩
        refine ⟨v, p, [.ty n, .ty m], .type y, [n, m].map Value.type, _, rfl, upd_same, .cons (.ty n) (.cons (.ty m) .nil), r.tyx (le.trans lu) e1, kitAny_ok (D.tyn_mem e1) (fun t ht => ?_), k G _ _ gr (.bl _)⟩
        simp at ht
        rcases ht with rfl | rfl
        · exact hn
        · exact hmm) h
    obtain ⟨x, s, k, h2⟩ := h2
    refine ⟨x, s, k, ?_⟩
    cases e1 : ma s with
    | exc c ns vs sto => rw [e1] at h2; exact h2
    | bad => rw [e1] at h2; exact h2
    | ok d s' => rw [e1] at h2; exact fun x' v H' k' st r => ⟨by show 2 ≤ sizeLine; rw [sizeLine_eq]; omega, fun p hp => h2 x' v H' k' st r p hp⟩
/-! ### an item of a written dict -/
def gIxK (a b : D) : Option D := match a, b with
  | .kd ks ds, .str z => lk ks ds z
  | _, _ => none
theorem de_ixK (hK : X.K = T.K) (hw : X.w = T.w) (ha : PE X a (tD T W ma)) (hb : PE X b (tD T W mb)) (hs : PlainIx b) : PE X (.Subscript a b pos) (tD T W (m2 gIxK ma mb)) :=
  de_ix ix_kdict (fun io G v u d e z H Q r1 r2 le q k => by
    rw [hK, hw]
    unfold gIxK at q
    split at q
    · rename_i ks ds y
      cases r2
      cases r1 with
      | kd kd h1 h2 h3 =>
        obtain ⟨u', e1, e2⟩ := h1 y z q
        exact ⟨_, y, _, rfl, rfl, ⟨_, _, u', kd.at_, kd.lit, e1, e2⟩, k G _ H (.refl le) (h2 y z q |>.up (.refl _))⟩
    · cases q) ha hb hs
/-! ### slices -/
def cutD (xs : List D) (lo hi : Option Int) : List D := (xs.drop (HT.sIx xs.length 0 lo)).take (HT.sIx xs.length xs.length hi - HT.sIx xs.length 0 lo)
def mPart (m : Option (M D)) : M (Option Int) := match m with
  | none => M.pure none
  | some m => M.bind m fun d => match d with
    | .int i => M.pure (some i)
    | _ => fun _ => .bad
def gSl (a : D) (lo hi : Option Int) : Option D := match a with
  | .lst xs => some (.lst (cutD xs lo hi))
  | .tup xs => some (.tup (cutD xs lo hi))
  | .str z => if z.length ≤ sizeLine then some (.str (cutS z lo hi)) else none
  | _ => none
def mSl (ma : M D) (lo hi : Option (M D)) : M D := M.bind ma fun a => M.bind (mPart lo) fun l => M.bind (mPart hi) fun h => M.lift (gSl a l h)
def tO (T : Tx) (W : WX) (m : M (Option Int)) : TO := fun σ H Q => ∃ (x : Gh) (s : Sx), Ok T x s σ H ∧ match m s with
  | .ok o s' => ∀ x' H', Ok T x' s' σ H' → Stp x H x' H' → Q o H'
  | .exc c ns vs sto => XP T W x σ H c ns vs sto
  | .bad => False
theorem PO.imp {e : Option Expr} {t t' : TO} (h : PO X e t) (k : ∀ σ H Q, t' σ H Q → t σ H Q) : PO X e t' := ⟨fun pins s σ H Q I q => h.run pins s σ H Q I (k σ H Q q)⟩
theorem dp_none : PO X none (tO T W (mPart none)) := PO.imp po_none fun σ H Q ⟨x, s, k, h⟩ => h x H k (.refl _ _)
theorem dp_some (he : PE X e (tD T W ma)) : PO X (some e) (tO T W (mPart (some ma))) := PO.imp (po_some he) fun σ H Q ⟨x, s, k, h⟩ => by
  refine ⟨x, s, k, ?_⟩
  unfold mPart M.bind M.pure at h
  simp only at h
  cases e1 : ma s with
  | exc c ns vs sto => rw [e1] at h; exact h
  | bad => rw [e1] at h; exact h
  | ok d s' =>
    rw [e1] at h
    intro x' v H' k' st r
    cases r with
    | int i => exact ⟨i, rfl, h x' H' k' st⟩
    | _ => exact h.elim
def rSlAll (K : PySem.W.Frag) : V → Option Int → Option Int → Hp → VK → Prop := fun x lo hi H Q => rSlL K x lo hi H Q ∨ rSlA K x lo hi H Q ∨ ∃ z, x = .str z ∧ z.length ≤ sizeLine ∧ Q (.str (cutS z lo hi)) H
end
end Ev

/-! E10: slices, f-strings, texts' methods, repr, sorted. -/
namespace Ev
open PySem PySem.Spec L2
section
variable {T : Tx} {X : Cx} {W : WX} {e a b : Expr} {lo hi : Option Expr} {ma mb mc : M D} {mlo mhi : Option (M D)} {pos : Pos}
theorem sl_all : SlR X (rSlAll X.K) := sl_list.or (sl_tupA.or sl_str)
theorem cutD_rep {io : Io} {G : Hp} {vs : List V} {ds : List D} (r : Reps T io G vs ds) (l h : Option Int) : Reps T io G (cutV vs l h) (cutD ds l h) := by
  unfold cutV cutD
  rw [r.length]
  exact (r.drop _).take _
theorem de_sl {p2 : Pos} (hK : X.K = T.K) (ha : PE X a (tD T W ma)) (hl : PO X lo (tO T W (mPart mlo))) (hh : PO X hi (tO T W (mPart mhi))) : PE X (.Subscript a (.Slice lo hi none p2) pos) (tD T W (mSl ma mlo mhi)) :=
  PE.imp (pe_slice sl_all ha hl hh) fun σ H Q ⟨x, s, k, h⟩ => by
    rw [hK]
    refine ⟨x, s, k, ?_⟩
    unfold mSl M.bind M.lift at h
    cases e1 : ma s with
    | exc c ns vs sto => rw [e1] at h; exact h
    | bad => rw [e1] at h; exact h
    | ok d s1 =>
      rw [e1] at h
      intro x1 v1 H1 k1 st1 r1
      refine ⟨x1, s1, k1, ?_⟩
      simp only at h
      cases e2 : mPart mlo s1 with
      | exc c ns vs sto => rw [e2] at h; exact h.back st1
      | bad => rw [e2] at h; exact h
      | ok l s2 =>
        rw [e2] at h
        intro x2 H2 k2 st2
        refine ⟨x2, s2, k2, ?_⟩
        simp only at h
        cases e3 : mPart mhi s2 with
        | exc c ns vs sto => rw [e3] at h; exact h.back (st1.trans st2)
        | bad => rw [e3] at h; exact h
        | ok hh s3 =>
          rw [e3] at h
          intro x3 H3 k3 st3
          simp only at h
          have r3 := (r1.mono st2.io st2.le).mono st3.io st3.le
          cases e4 : gSl d l hh with
          | none => rw [e4] at h; exact h.elim
          | some z =>
            simp only [e4] at h
            have stt := st1.trans (st2.trans st3)
            unfold gSl at e4
            split at e4
            · cases e4
              cases r3 with
              | @lst a vs _ sq rs =>
                refine .inl ⟨_, vs, rfl, k3.bx.sub.sqL sq, fun p hp => ?_⟩
                have gr := Grow.one (o := .lst (cutV vs l hh)) k3.bx.sub hp
                exact h _ _ _ (k3.grow gr) (stt.trans gr.stp) (.lst (.inl (.inl upd_same)) (cutD_rep (rs.up gr.g) l hh))
            · rename_i ds
              cases e4
              cases r3 with
              | @tup a vs _ sq rs =>
                refine .inr (.inl ⟨_, vs, rfl, k3.bx.sub.sqT sq, fun hw => ?_, fun hw p hp => ?_⟩)
                · have ec : cutD ds l hh = ds := by
                    unfold cutD
                    rw [rs.length] at hw
                    rw [hw.1, hw.2]
                    simp
                  rw [ec] at h
                  exact h x3 _ H3 k3 stt (.tup sq rs)
                · have gr := Grow.one (o := .tup (cutV vs l hh)) k3.bx.sub hp
                  exact h _ _ _ (k3.grow gr) (stt.trans gr.stp) (.tup (.inl (.inl upd_same)) (cutD_rep (rs.up gr.g) l hh))
            · split at e4
              · rename_i hz
                cases e4
                cases r3
                exact .inr (.inr ⟨_, rfl, hz, h x3 _ H3 k3 stt (.str _)⟩)
              · cases e4
            · cases e4
/-! ### f-strings -/
def gFmt (a : D) : Option D := match a with
  | .str z => if z.length ≤ sizeLine then some (.str z) else none
  | .int i => if i.natAbs.log2 < 1920 then some (.str (toString i)) else none
  | _ => none
theorem de_fmt (he : PE X e (tD T W ma)) : PE X (.FormattedValue e (-1) none pos) (tD T W (m1 gFmt ma)) :=
  PE.imp (pe_fmt he) fun σ H Q h => t1 (r := fun x H1 Q => (∃ y : Str, x = .str y ∧ y.length ≤ sizeLine ∧ Q (.str y) H1) ∨ ∃ i : Int, x = .int i ∧ i.natAbs.log2 < 1920 ∧ Q (.str (toString i)) H1) (fun io G v d z H Q r le q k => by
    unfold gFmt at q
    split at q
    · split at q
      · rename_i hz; cases q; cases r; exact .inl ⟨_, rfl, hz, k G _ H (.refl le) (.str _)⟩
      · cases q
    · split at q
      · rename_i hz; cases q; cases r; exact .inr ⟨_, rfl, hz, k G _ H (.refl le) (.str _)⟩
      · cases q
    · cases q) h
/-- the parts, one behind another -/
def mJ : List (M D) → Str → M D
  | [], acc => M.pure (.str acc)
  | m :: ms, acc => M.bind m fun d => match d with
    | .str y => if (acc ++ y).length ≤ sizeLine then mJ ms (acc ++ y) else fun _ => .bad
    | _ => fun _ => .bad
inductive DJ (T : Tx) (W : WX) (X : Cx) : List Expr → List (M D) → Prop where
  | nil : DJ T W X [] []
  | cons {e : Expr} {m : M D} {es : List Expr} {ms : List (M D)} (h : PE X e (tD T W m)) (r : DJ T W X es ms) : DJ T W X (e :: es) (m :: ms)
theorem DJ.pj {es : List Expr} {ms : List (M D)} (h : DJ T W X es ms) : PJ X es (ms.map (tD T W)) := by
  induction h with
  | nil => exact .nil
  | cons h r ih => exact .cons h ih
theorem tJs_of {σ : L2.St} : ∀ {ms : List (M D)} {acc : Str} {x : Gh} {s : Sx} {H : Hp} {Q : Str → Hp → Prop}, Ok T x s σ H → (match mJ ms acc s with
    | .ok (.str z) s' => ∀ x' H', Ok T x' s' σ H' → Stp x H x' H' → Q z H'
    | .ok _ _ => False
    | .exc c ns vs sto => XP T W x σ H c ns vs sto
    | .bad => False) → tJs (ms.map (tD T W)) acc σ H Q
  | [], acc, x, s, H, Q, k, h => h x H k (.refl _ _)
  | m :: ms, acc, x, s, H, Q, k, h => by
    show tD T W m σ H _
    refine ⟨x, s, k, ?_⟩
    unfold mJ M.bind at h
    cases e1 : m s with
    | exc c ns vs sto => rw [e1] at h; exact h
    | bad => rw [e1] at h; exact h
    | ok d s1 =>
      rw [e1] at h
      intro x1 v1 H1 k1 st1 r1
      simp only at h
      cases r1 with
      | str y =>
        simp only at h
        by_cases hz : (acc ++ y).length ≤ sizeLine
        · rw [if_pos hz] at h
          refine ⟨y, rfl, hz, tJs_of k1 ?_⟩
          cases e2 : mJ ms (acc ++ y) s1 with
          | exc c ns vs sto => rw [e2] at h; exact h.back st1
          | bad => rw [e2] at h; exact h
          | ok d2 s2 =>
            rw [e2] at h
            cases d2 with
            | str z => exact fun x2 H2 k2 st2 => h x2 H2 k2 (st1.trans st2)
            | _ => exact h.elim
        · rw [if_neg hz] at h; exact h.elim
      | _ => exact h.elim
theorem mJ_str : ∀ {ms : List (M D)} {acc : Str} {s s' : Sx} {d : D}, mJ ms acc s = .ok d s' → ∃ z, d = .str z
  | [], acc, s, s', d, h => by
    unfold mJ M.pure at h
    cases h
    exact ⟨_, rfl⟩
  | m :: ms, acc, s, s', d, h => by
    unfold mJ M.bind at h
    cases e1 : m s with
    | exc c ns vs sto => rw [e1] at h; cases h
    | bad => rw [e1] at h; cases h
    | ok d1 s1 =>
      rw [e1] at h
      simp only at h
      cases d1 with
      | str y =>
        simp only at h
        split at h
        · exact mJ_str h
        · cases h
      | _ => cases h
theorem de_join {v1 v2 : Expr} {rest : List Expr} {ms : List (M D)} (h : DJ T W X (v1 :: v2 :: rest) ms) : PE X (.JoinedStr (v1 :: v2 :: rest) pos) (tD T W (mJ ms Str.empty)) :=
  PE.imp (pe_joined h.pj) fun σ H Q ⟨x, s, k, q⟩ => tJs_of k (by
    cases e2 : mJ ms Str.empty s with
    | exc c ns vs sto => rw [e2] at q; exact q
    | bad => rw [e2] at q; exact q
    | ok d2 s2 =>
      obtain ⟨z, rfl⟩ := mJ_str e2
      rw [e2] at q
      exact fun x' H' k' st => q x' _ H' k' st (.str _))
theorem de_join1 (h : PE X e (tD T W ma)) : PE X (.JoinedStr [e] pos) (tD T W ma) := pe_joined1 h
/-! ### a text's method with a text -/
def mS1 (f : Str → Str → D) (ma mb : M D) : M D := M.bind ma fun a => match a with
  | .str x => M.bind mb fun b => match b with
    | .str y => M.pure (f x y)
    | _ => fun _ => .bad
  | _ => fun _ => .bad
theorem de_s1 {id : String} {name : Str} {apos : Pos} {f : Str → Str → D} {fv : Str → Str → V} (slot : Slot "str" name id) (ty : typeOf (.builtin id) = pure (.type "method_descriptor")) (rule : MtR X id (fun x xs H Q => ∃ a b, x = .str a ∧ xs = [.str b] ∧ Q (fv a b) H))
    (hf : ∀ (io : Io) (G : Hp) x y, Rep T io G (fv x y) (f x y)) (ha : PE X a (tD T W ma)) (hb : PE X b (tD T W mb)) (hs : starEach [b] X.env = [(false, eval b X.env)] := by rfl) (hbase : attributeBase a name X.env (eval a X.env) = eval a X.env := by rfl) (hline : (apos.endLine == pos.line) = true := by rfl) :
    PE X (.Call (.Attribute a name apos) [b] [] pos) (tD T W (mS1 f ma mb)) :=
  PE.imp (pe_m1 slot ty rule ha hb hs hbase hline) fun σ H Q h => by
    obtain ⟨x, s, k, h⟩ := h
    refine ⟨x, s, k, ?_⟩
    unfold mS1 M.bind M.pure at h
    cases e1 : ma s with
    | exc c ns vs sto => rw [e1] at h; exact h
    | bad => rw [e1] at h; exact h
    | ok d s1 =>
      rw [e1] at h
      intro x1 v1 H1 k1 st1 r1
      simp only at h
      cases r1 with
      | str y =>
        refine ⟨⟨_, rfl⟩, x1, s1, k1, ?_⟩
        simp only at h
        cases e2 : mb s1 with
        | exc c ns vs sto => rw [e2] at h; exact h.back st1
        | bad => rw [e2] at h; exact h
        | ok d2 s2 =>
          rw [e2] at h
          simp only at h
          intro x2 v2 H2 k2 st2 r2
          cases r2 with
          | str z => exact ⟨_, _, rfl, rfl, h x2 _ H2 k2 (st1.trans st2) (hf _ _ _ _)⟩
          | _ => exact h.elim
      | _ => exact h.elim
def fStarts (x y : Str) : D := .bl (Txt.startswith x y)
theorem de_starts {apos : Pos} (ha : PE X a (tD T W ma)) (hb : PE X b (tD T W mb)) (hs : starEach [b] X.env = [(false, eval b X.env)] := by rfl) (hbase : attributeBase a "startswith" X.env (eval a X.env) = eval a X.env := by rfl) (hline : (apos.endLine == pos.line) = true := by rfl) :
    PE X (.Call (.Attribute a "startswith" apos) [b] [] pos) (tD T W (mS1 fStarts ma mb)) := de_s1 PySem.F.slot_str_startswith PySem.F.type_str_startswith mt_startswith (fun _ _ _ _ => .bl _) ha hb hs hbase hline
/-! ### repr -/
def gRepr : List D → Option D
  | [d] => if (d.pure && d.py.showable && decide (d.py.depth ≤ 60) && decide (d.py.shown.length ≤ sizeLine)) = true then some (.str d.py.shown) else none
  | _ => none
def rRepr (K : PySem.W.Frag) : List V → Hp → VK → Prop := fun xs H Q => ∃ x d, xs = [x] ∧ Dp K H x d ∧ d.showable = true ∧ d.depth ≤ 60 ∧ d.shown.length ≤ sizeLine ∧ Q (.str d.shown) H
theorem Dp.noDict {K : PySem.W.Frag} {H : Hp} : ∀ {v : V} {d : PyData}, Dp K H v d → d.hasDict = false := by
  intro v d h
  exact (Dp.rec (motive_1 := fun v d _ => d.hasDict = false) (motive_2 := fun vs ds _ => PyData.hasDictAll ds = false) rfl (fun _ => rfl) (fun _ => rfl) (fun _ => rfl)
    (fun _ _ ih => by simpa [PyData.hasDict] using ih) (fun _ _ ih => by simpa [PyData.hasDict] using ih) rfl (fun _ _ a b => by simp [PyData.hasDictAll, a, b]) h)
theorem call_reprA (gd : X.A.guards = some []) {k0 : Nat} (hr : Room k0 X.A) : CallR X (.builtin "repr") (rRepr X.K) := by
  intro pins s σ H xs us Q I r h
  obtain ⟨x, d, rfl, dp, hs, hdp, hl, q⟩ := h
  obtain ⟨u, rfl, ru⟩ := Vals.one r
  have hu := hr.units
  cases dp with
  | non => cases ru; exact PySem.P.repr_of_none ⟨.str _, H, I.tok _, ⟨_, rfl⟩, q⟩
  | bl b => cases ru; exact PySem.P.repr_of_bool ⟨.str _, H, I.tok _, ⟨_, rfl⟩, q⟩
  | int i =>
    obtain ⟨t, rfl⟩ := ru
    exact PySem.P.repr_of_int (by simpa [PyData.showable] using hs) ⟨.str _, H, I.tok _, ⟨_, rfl⟩, q⟩
  | str y =>
    obtain ⟨t, rfl⟩ := ru
    exact PySem.P.repr_of_str ⟨.str _, H, I.tok _, ⟨_, rfl⟩, q⟩ hl
  | lst hq ha =>
    cases ru
    obtain ⟨as, rd⟩ := Dp.reads I _ _ _ (.lst hq ha) rfl
    exact PySem.repr_of_reads' rd hs (fun z => by rw [Ev.Dp.noDict (Dp.lst hq ha)] at z; cases z) gd (by omega) (fun _ _ e => e) (fun h' u tk kp => ⟨.str _, H, I.kept kp, ⟨_, rfl⟩, q⟩) hl
  | tup hq ha =>
    cases ru
    obtain ⟨as, rd⟩ := Dp.reads I _ _ _ (.tup hq ha) rfl
    exact PySem.repr_of_reads' rd hs (fun z => by rw [Ev.Dp.noDict (Dp.tup hq ha)] at z; cases z) gd (by omega) (fun _ _ e => e) (fun h' u tk kp => ⟨.str _, H, I.kept kp, ⟨_, rfl⟩, q⟩) hl
theorem p_repr (hK : X.K = T.K) : PL T (rRepr X.K) gRepr := fun io G vs ds z H Q r le q k => by
  rw [hK]
  unfold gRepr at q
  split at q
  · split at q
    · rename_i hc
      simp only [Bool.and_eq_true, decide_eq_true_eq] at hc
      obtain ⟨⟨⟨h1, h2⟩, h3⟩, h4⟩ := hc
      cases q
      cases r with
      | cons r1 r2 =>
        cases r2
        exact ⟨_, _, rfl, r1.dp le h1, h2, h3, h4, k G _ H (.refl le) (.str _)⟩
    · cases q
  · cases q
end
end Ev

/-! E11: sorted. -/
namespace Ev
open PySem PySem.Spec L2
def tupOk : PyData → Bool
  | .tuple (_ :: _) => true
  | _ => false
def othOk : PyData → Bool
  | .none => false
  | .tuple _ => false
  | _ => true
def canSort (xs : List D) : Bool := pures xs && (xs.all fun a => xs.all fun b => PySem.W.alike a.py b.py) && ((xs.all fun a => tupOk a.py) || (xs.all fun a => othOk a.py)) && (xs.all fun a => decide (a.py.depth ≤ 60))
def srt (xs : List D) : List D := xs.mergeSort (PySem.W.dataLe false D.py)
def gSorted : List D → Option D
  | [.lst xs] => if canSort xs = true then some (.lst (srt xs)) else none
  | _ => none
/-- values that stand for data -/
structure VD where
  v : V
  d : D
def rSrt (T : Tx) : List V → Hp → VK → Prop := fun xs H Q => ∃ (a : Addr) (bs : List VD), xs = [.ref a] ∧ SqL T.K H a (bs.map (·.v)) ∧ (∀ b ∈ bs, Dp T.K H b.v b.d.py) ∧ canSort (bs.map (·.d)) = true ∧
  ∀ p, H p = none → Q (.ref p) (upd H p (.lst ((bs.mergeSort (PySem.W.dataLe false fun b => b.d.py)).map (·.v))))
section
variable {T : Tx} {X : Cx} {W : WX}
theorem pures_all : ∀ {xs : List D}, pures xs = true → ∀ d ∈ xs, d.pure = true
  | [], _, _, h => by cases h
  | x :: xs, h, d, hd => by
    unfold pures at h
    rw [Bool.and_eq_true] at h
    rcases List.mem_cons.mp hd with rfl | hd
    · exact h.1
    · exact pures_all h.2 d hd
theorem canSort_facts {xs : List D} (h : canSort xs = true) : pures xs = true ∧ PySem.W.AllAlike (xs.map D.py) ∧ PySem.W.Sortable (xs.map D.py) ∧ ∀ a ∈ xs, a.py.depth ≤ 60 := by
  unfold canSort at h
  simp only [Bool.and_eq_true, Bool.or_eq_true, List.all_eq_true, decide_eq_true_eq] at h
  obtain ⟨⟨⟨h1, h2⟩, h3⟩, h4⟩ := h
  refine ⟨h1, fun d hd d' hd' => ?_, ?_, h4⟩
  · obtain ⟨a, ha, rfl⟩ := List.mem_map.mp hd
    obtain ⟨b, hb, rfl⟩ := List.mem_map.mp hd'
    exact h2 a ha b hb
  · rcases h3 with h3 | h3
    · refine .inl fun d hd => ?_
      obtain ⟨a, ha, rfl⟩ := List.mem_map.mp hd
      have q := h3 a ha
      cases e : a.py with
      | tuple l => cases l with
        | nil => rw [e] at q; cases q
        | cons x r => exact ⟨x, r, rfl⟩
      | _ => rw [e] at q; cases q
    · refine .inr fun d hd => ?_
      obtain ⟨a, ha, rfl⟩ := List.mem_map.mp hd
      have q := h3 a ha
      refine ⟨fun z => ?_, fun l z => ?_⟩
      · rw [z] at q; cases q
      · rw [z] at q; cases q
theorem call_srt (hK : X.K = T.K) {k0 : Nat} (hr : Room k0 X.A) : CallR X (.builtin "sorted") (rSrt T) := by
  intro pins s σ H xs us Q I r h
  obtain ⟨a, bs, rfl, hs, hdp, hc, q⟩ := h
  obtain ⟨u, rfl, ru⟩ := Vals.one r
  cases ru
  rw [← hK] at hs
  obtain ⟨its, rv, pl, hz⟩ := I.list hs
  obtain ⟨h1, h2, h3, h4⟩ := canSort_facts hc
  rw [List.map_map] at h2 h3
  have hl := rv.length
  rw [List.length_map] at hl hz
  have e : PySem.W.EachIs (fun (v : Value) (b : VD) => RelV b.v v) its bs := by
    have go : ∀ (bs : List VD) (its : List Value), Vals (bs.map (·.v)) its → PySem.W.EachIs (fun (v : Value) (b : VD) => RelV b.v v) its bs := by
      intro bs
      induction bs with
      | nil => intro its r; cases r; exact .nil
      | cons b bs ih =>
        intro its r
        cases r with
        | cons r1 r2 => exact .cons r1 (ih _ r2)
    exact go bs its rv
  have er : PySem.W.EachIs (fun (v : Value) (b : VD) => ∃ as, Reads s.heap v b.d.py as) its bs := by
    have go : ∀ (bs : List VD) (its : List Value), (∀ b ∈ bs, Dp X.K H b.v b.d.py) → PySem.W.EachIs (fun (v : Value) (b : VD) => RelV b.v v) its bs → PySem.W.EachIs (fun (v : Value) (b : VD) => ∃ as, Reads s.heap v b.d.py as) its bs := by
      intro bs its hb e
      induction e with
      | nil => exact .nil
      | cons r1 r2 ih => exact .cons (Dp.reads I _ _ _ (hb _ (List.mem_cons_self ..)) r1) (ih fun b q => hb b (List.mem_cons_of_mem _ q))
    exact go bs its (by rw [hK]; exact hdp) e
  refine PySem.W.sorted_data (enc := fun b : VD => b.d.py) pl.isList e er h2 h3 (by omega) (fun b hb => ?_) fun out hout eo => ?_
  · have h5 := h4 b.d (List.mem_map.mpr ⟨b, hb, rfl⟩)
    have h6 := hr.units
    show _ + 2 + b.d.py.depth < _
    omega
  · have ov : Vals ((bs.mergeSort (PySem.W.dataLe false fun b => b.d.py)).map (·.v)) out := by
      have go : ∀ (bs : List VD) (its : List Value), PySem.W.EachIs (fun (v : Value) (b : VD) => RelV b.v v) its bs → Vals (bs.map (·.v)) its := by
        intro bs its e
        induction e with
        | nil => exact .nil
        | cons r1 r2 ih => exact .cons r1 ih
      exact go _ _ eo
    obtain ⟨n, at_⟩ := PyProof.Rows.sortedAll_at s.heap its (List.toArray out)
    have hn : H (s.heap.objs.size + 1) = none := I.hok.fresh (Nat.le_succ _)
    exact ⟨.ref _, _, I.laid (t' := s.toks) (o := .lst ((bs.mergeSort (PySem.W.dataLe false fun b => b.d.py)).map (·.v))) (fun b o e => PyProof.Rows.sortedAll_old e) (Nat.le_succ _) ⟨by rw [ov.length, hout]; omega, out, n, ov, at_⟩, rfl, q _ hn⟩
theorem vds {io : Io} {G : Hp} : ∀ {vs : List V} {ds : List D}, Reps T io G vs ds → ∃ bs : List VD, bs.map (·.v) = vs ∧ bs.map (·.d) = ds ∧ ∀ b ∈ bs, Rep T io G b.v b.d
  | _, _, .nil => ⟨[], rfl, rfl, fun _ h => by cases h⟩
  | _, _, .cons (v := v) (d := d) a r => by
    obtain ⟨bs, h1, h2, h3⟩ := vds r
    refine ⟨⟨v, d⟩ :: bs, by simp [h1], by simp [h2], fun b hb => ?_⟩
    rcases List.mem_cons.mp hb with rfl | hb
    · exact a
    · exact h3 b hb
theorem reps_of {io : Io} {G : Hp} : ∀ {bs : List VD}, (∀ b ∈ bs, Rep T io G b.v b.d) → Reps T io G (bs.map (·.v)) (bs.map (·.d))
  | [], _ => .nil
  | b :: bs, h => .cons (h b (List.mem_cons_self ..)) (reps_of fun c hc => h c (List.mem_cons_of_mem _ hc))
theorem srt_of (bs : List VD) : (bs.mergeSort (PySem.W.dataLe false fun b => b.d.py)).map (·.d) = srt (bs.map (·.d)) := by
  unfold srt
  exact PySem.W.sort_maps (fun b : VD => b.d) fun a _ b _ => rfl
theorem p_srt : PL T (rSrt T) gSorted := fun io G vs ds z H Q r le q k => by
  unfold gSorted at q
  split at q
  · split at q
    · rename_i hc
      cases q
      cases r with
      | cons r1 r2 =>
        cases r2
        cases r1 with
        | @lst a vs _ sq rs =>
          obtain ⟨bs, e1, e2, e3⟩ := vds rs
          subst e1 e2
          have hp := (canSort_facts hc).1
          refine ⟨a, bs, rfl, le.sqL sq, fun b hb => (e3 b hb).dp le (pures_all hp _ (List.mem_map.mpr ⟨b, hb, rfl⟩)), hc, fun p hp => ?_⟩
          have gr := Grow.one (o := .lst ((bs.mergeSort (PySem.W.dataLe false fun b => b.d.py)).map (·.v))) le hp
          refine k _ _ _ gr (.lst (.inl (.inl upd_same)) ?_)
          rw [← srt_of]
          exact (reps_of fun b hb => e3 b ((List.mergeSort_perm _ _).mem_iff.mp hb)).up gr.g
    · cases q
  · cases q
end
end Ev

/-! E12: zip of two, lists or tuples. -/
namespace Ev
open PySem PySem.Spec L2
/-- list (false) or tuple (true) -/
def SqB (b : Bool) (K : PySem.W.Frag) (H : Hp) (a : Addr) (xs : List V) : Prop := if b = true then SqT K H a xs else SqL K H a xs
def IsB (b : Bool) (h : Heap) (l : Addr) (its : Array Value) : Prop := if b = true then h.IsTuple l its else h.IsList l its
def ItB (b : Bool) (h : Heap) (it l : Addr) (i : Nat) : Prop := if b = true then h.IsTupleIter it l i else h.IsListIter it l i
def itObj (b : Bool) (l : Addr) : Obj := if b = true then { cls := .type "tuple_iterator", data := .fields #[.ref l, .int 0 0] } else { cls := .type "list_iterator", data := .fields #[.ref l, .int 0 0] }
section
variable {X : Cx} {pins : List (Addr × Obj)} {σ : L2.St} {H : Hp} {s : Shared} {a : Addr} {xs ys : List V} {b : Bool}
theorem seqB (I : Inv X pins σ H s) (h : SqB b X.K H a xs) : ∃ its : List Value, Vals xs its ∧ IsB b s.heap a its.toArray := by
  cases b
  · obtain ⟨its, r, p, _⟩ := I.list h
    exact ⟨its, r, p.isList⟩
  · obtain ⟨its, r, p, _⟩ := I.tuple h
    exact ⟨its, r, p⟩
theorem seqB_inj (I : Inv X pins σ H s) (h : SqB b X.K H a xs) (h' : SqB b X.K H a ys) : xs = ys := by
  cases b
  · exact I.list_inj h h'
  · exact I.tuple_inj h h'
end
theorem IsB.lt {b : Bool} {h : Heap} {l : Addr} {its : Array Value} (x : IsB b h l its) : l < h.objs.size := by
  cases b <;> exact Heap.lt_size x.choose_spec.1
theorem draws_B {prog : Program} {w : World} {A : Around} (b : Bool) (hh : A.handled = none) (it l : Addr) (hne : l ≠ it) (items : Array Value) :
    Draws prog w A it [it, l] items.size (fun i v => items[i]? = some v) (fun i h => ItB b h it l i ∧ IsB b h l items) := by
  cases b
  · exact Draws.list hh it l hne items
  · exact Draws.tuple hh it l hne items
theorem begins_B (b : Bool) (l : Addr) (items : Array Value) : Begins (.ref l) (itObj b l) fun h => IsB b h l items := by
  cases b
  · exact begins_list l items
  · exact begins_tuple l items
theorem ItB.at {b : Bool} {h h' : Heap} {it l : Addr} {i : Nat} (x : ItB b h it l i) (k : ∀ o, h.get? it = some o → h'.get? it = some o) : ItB b h' it l i := by
  cases b
  · obtain ⟨o, e, r⟩ := id x; exact ⟨o, k o e, r⟩
  · obtain ⟨o, e, r⟩ := id x; exact ⟨o, k o e, r⟩
theorem ItB.obj {b : Bool} {h : Heap} {it l : Addr} {i : Nat} (x : ItB b h it l i) : ∃ o, h.get? it = some o ∧ ∀ v, o.data ≠ .cell v := by
  cases b
  · obtain ⟨o, e, _, d⟩ := id x; exact ⟨o, e, fun v q => by rw [d] at q; cases q⟩
  · obtain ⟨o, e, _, d⟩ := id x; exact ⟨o, e, fun v q => by rw [d] at q; cases q⟩
theorem ItB.start {b : Bool} {h : Heap} {it l : Addr} (e : h.get? it = some (itObj b l)) : ItB b h it l 0 := by
  cases b
  · exact ⟨_, e, rfl, rfl⟩
  · exact ⟨_, e, rfl, rfl⟩
def ItzB (K : PySem.W.Frag) (c d : Bool) (a b : Addr) : It :=
  ⟨fun i H => ∃ (xs ys : List V) (x y : V), SqB c K H a xs ∧ SqB d K H b ys ∧ xs[i]? = some x ∧ ys[i]? = some y,
    fun i H v H' => ∃ T x y, v = .ref T ∧ H T = none ∧ H' = upd H T (.tup [x, y]) ∧ (∀ xs, SqB c K H a xs → xs[i]? = some x) ∧ ∀ ys, SqB d K H b ys → ys[i]? = some y,
    fun i H => ∃ xs ys : List V, SqB c K H a xs ∧ SqB d K H b ys ∧ i ≤ xs.length ∧ i ≤ ys.length ∧ (xs.length = i ∨ ys.length = i)⟩
theorem sep_of {a b z TI TO i1 i2 : Addr} (D : ZipApart z TI TO i1 i2 a b) : ZipSep2 z TI TO i1 i2 [i1, a] [i2, b] where
  TIz := D.TIz
  TOz := D.TOz
  TITO := D.TITO
  TIi1 := D.TIi1
  mem1 := by simp
  zf1 := by simp; exact ⟨D.i1z.symm, D.l1z.symm⟩
  Tf1 := by simp; exact ⟨D.TOi1, D.l1TO.symm⟩
  TIi2 := D.TIi2
  mem2 := by simp
  zf2 := by simp; exact ⟨D.i2z.symm, D.l2z.symm⟩
  Tf2 := by simp; exact ⟨D.TOi2, D.l2TO.symm⟩
  sep1_2 := by simp; exact ⟨D.i12, D.l2i1.symm⟩
  sep2_1 := by simp; exact ⟨D.i12.symm, D.l1i2.symm⟩
theorem turn_zB {P : Program} {w : World} {K : PySem.W.Frag} {elts : List Expr} {kk : Nat} {tpos : Pos} {a b z TI TO i1 i2 : Addr} (c d : Bool) (D : ZipApart z TI TO i1 i2 a b) :
    Turn P w K (.Tuple elts kk tpos) (ItzB K c d a b) [z, TI, TO, i1, i2] z (fun i h => IsZip h z TI TO .none ∧ IsPair h TI (.ref i1) (.ref i2) ∧ (∃ x y, IsPair h TO x y) ∧ ItB c h i1 a i ∧ ItB d h i2 b i) where
  mem := by simp
  obj := fun i h st e he => by
    obtain ⟨hz, hTI, ⟨x, y, hTO⟩, h1, h2⟩ := st
    have e' : e = z ∨ e = TI ∨ e = TO ∨ e = i1 ∨ e = i2 := by simpa using he
    rcases e' with q | q | q | q | q
    · rw [q]; exact ⟨_, hz, fun v q => nomatch q⟩
    · rw [q]; exact ⟨_, hTI, fun v q => nomatch q⟩
    · rw [q]; exact ⟨_, hTO, fun v q => nomatch q⟩
    · rw [q]; exact h1.obj
    · rw [q]; exact h2.obj
  keep := fun i h h' st k => by
    obtain ⟨hz, hTI, ⟨x, y, hTO⟩, h1, h2⟩ := st
    exact ⟨k z (by simp) _ hz, k TI (by simp) _ hTI, ⟨x, y, k TO (by simp) _ hTO⟩, h1.at fun o q => k i1 (by simp) o q, h2.at fun o q => k i2 (by simp) o q⟩
  item := by
    intro X hP hw hK hc i pins s σ H E I hf st hg
    subst hP hw hK
    obtain ⟨hz, hTI, ⟨x0, y0, hTO⟩, h1, h2⟩ := st
    obtain ⟨xs, ys, x, y, hqx, hqy, hx, hy⟩ := hg
    obtain ⟨its, rv, p⟩ := seqB I hqx
    obtain ⟨its2, rv2, p2⟩ := seqB I hqy
    obtain ⟨u, hu, ru⟩ := rv.get hx
    obtain ⟨u2, hu2, ru2⟩ := rv2.get hy
    have hzl : z < s.heap.objs.size := Heap.lt_size hz
    have hl1 : i < its.toArray.size := by simpa using (List.getElem?_eq_some_iff.mp hu).1
    have hl2 : i < its2.toArray.size := by simpa using (List.getElem?_eq_some_iff.mp hu2).1
    refine wpAny_pyNext_zipD2_item (sep_of D) (draws_B c (show X.A.in1.handled = none from I.ok.hd hc) i1 a D.l1i1 its.toArray) (draws_B d (show X.A.in1.handled = none from I.ok.hd hc) i2 b D.l2i2 its2.toArray) hz hTI hTO ⟨h1, p⟩ ⟨h2, p2⟩ hl1 hl2 fun w1 w2 h' tk e1 e2 z' TO' h1' h2' hT hsz hk => ?_
    have q1 : w1 = u := by
      have : its[i]? = some w1 := by simpa using e1
      rw [hu] at this; exact (Option.some.inj this).symm
    have q2 : w2 = u2 := by
      have : its2[i]? = some w2 := by simpa using e2
      rw [hu2] at this; exact (Option.some.inj this).symm
    subst q1 q2
    refine ⟨_, rfl, wpAny_letOwnedTupleGo_zip (s := { s with heap := h', toks := tk }) z' fun h'' z'' sb => ?_⟩
    have hT2 : h''.get? s.heap.objs.size = some { cls := .type "tuple", data := .seq #[w1, w2] } := (sb.2 _ (Nat.ne_of_gt hzl)).trans hT
    have new : ObjOk X.prog X.w (upd H s.heap.objs.size (.tup [x, y])) h'' s.heap.objs.size (.tup [x, y]) :=
      ⟨by show 2 ≤ sizeLine; decide, [w1, w2], .cons ru (.cons ru2 .nil), ⟨_, hT2, rfl, _, rfl⟩⟩
    have I1 : Inv X pins σ (upd H s.heap.objs.size (.tup [x, y])) { s with heap := h'', toks := tk } :=
      I.turnedNew (t' := tk) (ch := [z, TI, TO, i1, i2]) (fun e o hb q => (sb.2 e (fun q' => hb (by simp [q']))).trans (hk e o (fun q' => hb (by simp [q'])) (fun q' => hb (by simp [q'])) (fun q' => hb (by simp [q'])) (fun q' => hb (by simp [q'])) q)) hf (Nat.le_refl _) new
    refine ⟨.ref s.heap.objs.size, _, I1, rfl, ⟨_, x, y, rfl, I.hok.fresh (Nat.le_refl _), rfl, fun l hl => by rw [seqB_inj I hl hqx]; exact hx, fun l hl => by rw [seqB_inj I hl hqy]; exact hy⟩, ⟨z'', ?_, ⟨w1, w2, ?_⟩, ?_, ?_⟩, fun e hcm => ?_⟩
    · exact (sb.2 _ D.TIz).trans (hk _ _ D.TIz D.TITO D.TIi1 D.TIi2 hTI)
    · exact (sb.2 _ D.TOz).trans TO'
    · exact h1'.1.at fun o q => (sb.2 _ D.i1z).trans q
    · exact h2'.1.at fun o q => (sb.2 _ D.i2z).trans q
    · have hlt : e < s.heap.objs.size := by
        have e' : e = z ∨ e = TI ∨ e = TO ∨ e = i1 ∨ e = i2 := by simpa using hcm
        rcases e' with q | q | q | q | q
        · rw [q]; exact hzl
        · rw [q]; exact Heap.lt_size hTI
        · rw [q]; exact Heap.lt_size hTO
        · rw [q]; obtain ⟨_, e1, _⟩ := h1.obj; exact Heap.lt_size e1
        · rw [q]; obtain ⟨_, e2, _⟩ := h2.obj; exact Heap.lt_size e2
      rw [upd_ne (Nat.ne_of_lt hlt)]
      exact (hf e hcm).1
  done := by
    intro X hP hw hK hc i pins s σ H E I hf st hg
    subst hP hw hK
    obtain ⟨hz, hTI, ⟨x0, y0, hTO⟩, h1, h2⟩ := st
    obtain ⟨xs, ys, hqx, hqy, hle1, hle2, hend⟩ := hg
    obtain ⟨its, rv, p⟩ := seqB I hqx
    obtain ⟨its2, rv2, p2⟩ := seqB I hqy
    have l1 := rv.length
    have l2 := rv2.length
    refine wpAny_pyNext_zipD2_end (sep_of D) (draws_B c (show X.A.in1.handled = none from I.ok.hd hc) i1 a D.l1i1 its.toArray) (draws_B d (show X.A.in1.handled = none from I.ok.hd hc) i2 b D.l2i2 its2.toArray) hz hTI hTO ⟨h1, p⟩ ⟨h2, p2⟩ (by simp; omega) (by simp; omega) (by simp; omega) fun h' tk hk => ⟨rfl, I.turnedL (t' := tk) (ch := [z, TI, TO, i1, i2]) (fun e o hb q =>
      hk e o (fun q' => hb (by simp [q'])) (fun q' => hb (by simp [q'])) (fun q' => hb (by simp [q'])) (fun q' => hb (by simp [q'])) q) hf⟩
  self := fun A i s Q E st h => wpAny_pyIter_zip st.1 h
def iZipB (K : PySem.W.Frag) (ta : TA) : TI := fun σ H R => ta σ H fun vs H1 => ∃ c d a b xs ys, vs = [.ref a, .ref b] ∧ SqB c K H1 a xs ∧ SqB d K H1 b ys ∧ R (ItzB K c d a b) H1
theorem pi_zB {X : Cx} {e e2 : Expr} {ta : TA} {p pos tpos : Pos} {elts : List Expr} {kk : Nat} (hg : Gl X "zip") (hm : X.mg "zip" = none) (ha : PA X [e, e2] ta)
    (hs : starEach [e, e2] X.env = (false, eval e X.env) :: starEach [e2] X.env := by rfl) (hpl : (backTo pos (starEach [e2] X.env)).any (·.1) = false := by rfl) :
    PI X (.Tuple elts kk tpos) (.Call (.Name "zip" p) [e, e2] [] pos) (iZipB X.K ta) := by
  refine ⟨fun pins s σ H R I h => ?_⟩
  refine PyProof.Rows.Call_ (ld_blt I hg hm PyProof.Rows.boot_zip (PyProof.Rows.callWith_type1 (thn (ha.run pos pins s σ H _ I h) fun us s1 ⟨vs, H1, I1, r1, q1⟩ => ?_) hs hpl))
  obtain ⟨c, d, a, b, xs, ys, ex, hqx, hqy, q⟩ := q1
  subst ex
  cases r1 with
  | cons r rr =>
    cases rr with
    | cons r' rr =>
      cases rr
      cases r
      cases r'
      have fresh5 : ∀ c, c ∈ [s1.heap.objs.size + 4, s1.heap.objs.size + 2, s1.heap.objs.size + 3, s1.heap.objs.size, s1.heap.objs.size + 1] → FpOk X pins H1 c := fun c hcm => by
        have hle : s1.heap.objs.size ≤ c := by
          simp at hcm
          omega
        exact I1.fpOk hle (I1.hok.fresh hle)
      obtain ⟨its, rv, p1⟩ := seqB I1 hqx
      obtain ⟨its2, rv2, p2⟩ := seqB I1 hqy
      refine zip_begins2 (begins_B c a its.toArray) (begins_B d b its2.toArray) p1 p2 fun h' hz hTI hTO g1 g2 hsz hk => wpAny_pyIter_zip hz ?_
      have I2 : Inv X pins σ H1 { s1 with heap := h' } := I1.kept (t' := s1.toks) fun e o q => hk e o q
      exact ⟨s1.heap.objs.size + 4, [s1.heap.objs.size + 4, s1.heap.objs.size + 2, s1.heap.objs.size + 3, s1.heap.objs.size, s1.heap.objs.size + 1], _, _, H1, rfl, I2, turn_zB c d (PySem.W.ktu_apart s1.heap.objs.size a b p1.lt p2.lt), ⟨hz, hTI, ⟨_, _, hTO⟩, .start g1, .start g2⟩, fresh5, q⟩
/-- zip as data: new pairs -/
def zipD : List D → List D → List D
  | a :: as, b :: bs => .tup [a, b] :: zipD as bs
  | _, _ => []
def gZip (ds : List D) : Option (List D) := match ds with
  | [a, b] => match itemsOf a, itemsOf b with
    | some xs, some ys => some (zipD xs ys)
    | _, _ => none
  | _ => none
theorem zipD_len : ∀ (xs ys : List D), (zipD xs ys).length = min xs.length ys.length
  | a :: as, b :: bs => by simp [zipD, zipD_len as bs, Nat.succ_min_succ]
  | [], _ => by simp [zipD]
  | _ :: _, [] => by simp [zipD]
theorem zipD_get : ∀ {xs ys : List D} {i : Nat} {d : D}, (zipD xs ys)[i]? = some d → ∃ a b, xs[i]? = some a ∧ ys[i]? = some b ∧ d = .tup [a, b]
  | a :: as, b :: bs, 0, d, h => by simp [zipD] at h; exact ⟨a, b, rfl, rfl, h.symm⟩
  | a :: as, b :: bs, i + 1, d, h => by
    obtain ⟨x, y, h1, h2, h3⟩ := zipD_get (i := i) (by simpa [zipD] using h)
    exact ⟨x, y, by simpa using h1, by simpa using h2, h3⟩
  | [], _, _, _, h => by simp [zipD] at h
  | _ :: _, [], _, _, h => by simp [zipD] at h
theorem SqB.up {G G' : Hp} (h : Le G G') {b : Bool} {K : PySem.W.Frag} {a : Addr} {xs : List V} (r : SqB b K G a xs) : SqB b K G' a xs := by
  cases b
  · exact h.sqL r
  · exact h.sqT r
theorem Rep.seqB {T : Tx} {io : Io} {G : Hp} {v : V} {d : D} {xs : List D} (r : Rep T io G v d) (h : itemsOf d = some xs) : ∃ b a vs, v = .ref a ∧ SqB b T.K G a vs ∧ Reps T io G vs xs := by
  cases r <;> first
    | (rename_i sq rs
       cases h
       first | exact ⟨false, _, _, rfl, sq, rs⟩ | exact ⟨true, _, _, rfl, sq, rs⟩)
    | cases h
section
variable {T : Tx} {W : WX} {X : Cx} {e e2 : Expr} {ml : M (List D)} {pos p tpos : Pos} {elts : List Expr} {kk : Nat}
theorem di_zip (hK : X.K = T.K) (hg : Gl X "zip") (hm : X.mg "zip" = none) (ha : PA X [e, e2] (tDs T W ml))
    (hs : starEach [e, e2] X.env = (false, eval e X.env) :: starEach [e2] X.env := by rfl) (hpl : (backTo pos (starEach [e2] X.env)).any (·.1) = false := by rfl) :
    PI X (.Tuple elts kk tpos) (.Call (.Name "zip" p) [e, e2] [] pos) (tI T W (mRng gZip ml)) :=
  PI.imp (pi_zB hg hm ha hs hpl) fun σ H R ⟨x, s, k, q⟩ => by
    refine ⟨x, s, k, ?_⟩
    unfold mRng M.bind M.lift at q
    cases em : ml s with
    | exc c ns vs sto => rw [em] at q; exact q
    | bad => rw [em] at q; exact q
    | ok ds s' =>
      rw [em] at q
      simp only at q
      intro x' vs H' k' st r
      cases e2 : gZip ds with
      | none => rw [e2] at q; exact q.elim
      | some l =>
        simp only [e2] at q
        unfold gZip at e2
        split at e2
        · rename_i a b
          split at e2
          · rename_i xs ys h1 h2
            cases e2
            cases r with
            | cons r1 r2 =>
              cases r2 with
              | cons r2 r3 =>
                cases r3
                obtain ⟨c1, a1, v1, rfl, s1, t1⟩ := r1.seqB h1
                obtain ⟨c2, a2, v2, rfl, s2, t2⟩ := r2.seqB h2
                have l1 := t1.length
                have l2 := t2.length
                refine ⟨c1, c2, a1, a2, v1, v2, rfl, by rw [hK]; exact SqB.up k'.bx.sub s1, by rw [hK]; exact SqB.up k'.bx.sub s2, q x' _ H' k' st ⟨fun i H1 le hi => ?_, fun i H1 le hi => ?_, fun i H1 v H2 G1 d le le1 hd hy => ?_⟩⟩
                · rw [zipD_len] at hi
                  exact ⟨v1, v2, by rw [hK]; exact SqB.up le s1, by rw [hK]; exact SqB.up le s2, by omega, by omega, by omega⟩
                · rw [zipD_len] at hi
                  have z1 : i < v1.length := by omega
                  have z2 : i < v2.length := by omega
                  exact ⟨v1, v2, v1[i], v2[i], by rw [hK]; exact SqB.up le s1, by rw [hK]; exact SqB.up le s2, List.getElem?_eq_getElem z1, List.getElem?_eq_getElem z2⟩
                · obtain ⟨p, u1, u2, rfl, hn, rfl, f1, f2⟩ := hy
                  obtain ⟨d1, d2, g1, g2, rfl⟩ := zipD_get hd
                  obtain ⟨w1, w1e, rr1⟩ := t1.get g1
                  obtain ⟨w2, w2e, rr2⟩ := t2.get g2
                  have z1 := f1 v1 (by rw [hK]; exact SqB.up (le.trans le1) s1)
                  have z2 := f2 v2 (by rw [hK]; exact SqB.up (le.trans le1) s2)
                  rw [w1e] at z1; cases z1
                  rw [w2e] at z2; cases z2
                  have gr := Grow.one (o := .tup [u1, u2]) le1 hn
                  exact ⟨_, gr, .tup (.inl (.inl upd_same)) (.cons (rr1.up (le.trans gr.g)) (.cons (rr2.up (le.trans gr.g)) .nil))⟩
          · cases e2
        · cases e2
end
end Ev

/-! E13: a, b = x, y; statements that are never reached; a block's exceptions; what the module holds. -/
namespace Ev
open PySem PySem.Spec L2
section
variable {T : Tx} {W : WX} {X : Cx} {pos : Pos} {ml : M (List D)} {i j : Nat} {x y : Str} {a b : Expr} {px py pt : Pos} {kt k2 : Nat} {pt2 : Pos}
def sPar (i j : Nat) (m : M (List D)) : MS := sBind m fun ds s => match ds with
  | [d, e] => .nx ((s.put i d).put j e)
  | _ => .bad
theorem tDs_s {f : List D → MS} {E : Ends} {σ : L2.St} {H : Hp} {P : List V → Hp → Prop} {x : Gh} {s : Sx} (k : Ok T x s σ H) (h : Fin T W E x H (sBind ml f s))
    (next : ∀ ds s' x' vs H', Ok T x' s' σ H' → Stp x H x' H' → Reps T x'.io x'.G vs ds → Fin T W E x' H' (f ds s') → P vs H') : tDs T W ml σ H P := by
  refine ⟨x, s, k, ?_⟩
  unfold sBind at h
  cases e : ml s with
  | ok d s' => rw [e] at h; exact fun x' v H' k' st r => next d s' x' v H' k' st r (h.back st)
  | exc c ns vs sto => rw [e] at h; exact h σ
  | bad => rw [e] at h; exact h
theorem ds_par (hc : X.calm = true) (hN : X.N.Nodup) (hi : X.N[i]? = some x) (hj : X.N[j]? = some y) (hij : i ≠ j)
    (hx : X.env.scope.names.lookup x = some .local) (hy : X.env.scope.names.lookup y = some .local) (ha : PA X [a, b] (tDs T W ml))
    (hw : swappedStores [.Tuple [.Name x px, .Name y py] kt pt] (.Tuple [a, b] k2 pt2) X.env = pure (some [x, y]) := by rfl)
    (hs : swapsWithSole [.Tuple [.Name x px, .Name y py] kt pt] (.Tuple [a, b] k2 pt2) pos.line X.env = pure false := by rfl) :
    PS X (.Assign [.Tuple [.Name x px, .Name y py] kt pt] (.Tuple [a, b] k2 pt2) pos) (tS T W (sPar i j ml)) :=
  PS.imp (ps_par hc hN hi hj hij hx hy ha hw hs) fun E σ H ⟨x0, s, k, h⟩ => tDs_s k h fun ds s' x' vs H' k' st r f => by
    cases r with
    | nil => exact f.elim
    | cons r1 r2 =>
      cases r2 with
      | nil => exact f.elim
      | cons r2 r3 =>
        cases r3 with
        | nil => exact ⟨_, _, rfl, f x' _ H' ((k'.put i r1).put j r2) (.refl _ _)⟩
        | cons _ _ => exact f.elim
def sBad : MS := fun _ => .bad
theorem ds_never {st : Stmt} : PS X st (tS T W sBad) := PS.imp ps_never fun E σ H ⟨x, s, k, h⟩ => h
theorem takes0 : Takes X W0 := fun u s' ⟨_, _, _, _, _, _, _, _, _, _, _, _, _, _, _, _, w⟩ => w.elim
end
/-! ### what the module holds: written data -/
def vOf : Value → V
  | .none => .non
  | .bool b => .bl b
  | .int i _ => .int i
  | .str x _ => .str x
  | .ref a => .ref a
  | _ => .non
mutual
def dOk (K : PySem.W.Frag) : Value → D → Bool
  | .none, .non => true
  | .bool b, .bl c => b == c
  | .int i _, .int j => decide (i = j)
  | .str x _, .str y => decide (x = y)
  | .ref a, .tup ds => match K.lookup a with
    | some ⟨.type c, _, .seq its _, _⟩ => decide (c = "tuple") && (decide (its.size ≤ sizeLine) && dsOk K its.toList ds)
    | _ => false
  | .ref a, .lst ds => match K.lookup a with
    | some ⟨.type c, none, .seq its _, _⟩ => decide (c = "list") && (decide (its.size ≤ sizeLine) && dsOk K its.toList ds)
    | _ => false
  | _, _ => false
def dsOk (K : PySem.W.Frag) : List Value → List D → Bool
  | [], [] => true
  | v :: vs, d :: ds => dOk K v d && dsOk K vs ds
  | _, _ => false
end
section
variable {T : Tx}
mutual
theorem dOk_rep (d : D) : ∀ {u : Value}, dOk T.K u d = true → RelV (vOf u) u ∧ ∀ io G, Rep T io G (vOf u) d := by
  intro u h
  cases d with
  | non => cases u <;> simp [dOk] at h; exact ⟨rfl, fun _ _ => .non⟩
  | bl c => cases u <;> simp [dOk] at h; subst h; exact ⟨rfl, fun _ _ => .bl _⟩
  | int j => cases u <;> simp [dOk] at h; subst h; exact ⟨⟨_, rfl⟩, fun _ _ => .int _⟩
  | str y => cases u <;> simp [dOk] at h; subst h; exact ⟨⟨_, rfl⟩, fun _ _ => .str _⟩
  | tup ds =>
    cases u with
    | ref a =>
      unfold dOk at h
      cases q : T.K.lookup a with
      | none => rw [q] at h; cases h
      | some o =>
        obtain ⟨oc, od, dt, osl⟩ := o
        rw [q] at h
        cases oc with
        | type c =>
          cases dt with
          | seq its n =>
            simp only [Bool.and_eq_true, decide_eq_true_eq] at h
            obtain ⟨h1, h2, h3⟩ := h
            obtain ⟨r1, r2⟩ := dsOk_rep ds h3
            exact ⟨rfl, fun io G => .tup (.inr ⟨_, its, n, q, congrArg Value.type h1, rfl, h2, r1⟩) (r2 io G)⟩
          | _ => cases h
        | _ => cases dt <;> cases h
    | _ => simp [dOk] at h
  | lst ds =>
    cases u with
    | ref a =>
      unfold dOk at h
      cases q : T.K.lookup a with
      | none => rw [q] at h; cases h
      | some o =>
        obtain ⟨oc, od, dt, osl⟩ := o
        rw [q] at h
        cases oc with
        | type c =>
          cases od with
          | none =>
            cases dt with
            | seq its n =>
              simp only [Bool.and_eq_true, decide_eq_true_eq] at h
              obtain ⟨h1, h2, h3⟩ := h
              obtain ⟨r1, r2⟩ := dsOk_rep ds h3
              exact ⟨rfl, fun io G => .lst (.inr ⟨_, its, n, q, congrArg Value.type h1, rfl, rfl, h2, r1⟩) (r2 io G)⟩
            | _ => cases h
          | some _ => cases dt <;> cases h
        | _ => cases od <;> cases dt <;> cases h
    | _ => simp [dOk] at h
  | _ => cases u <;> simp [dOk] at h
theorem dsOk_rep (ds : List D) : ∀ {us : List Value}, dsOk T.K us ds = true → Vals (us.map vOf) us ∧ ∀ io G, Reps T io G (us.map vOf) ds := by
  intro us h
  cases ds with
  | nil => cases us with
    | nil => exact ⟨.nil, fun _ _ => .nil⟩
    | cons => simp [dsOk] at h
  | cons d ds => cases us with
    | nil => simp [dsOk] at h
    | cons u us =>
      simp only [dsOk, Bool.and_eq_true] at h
      obtain ⟨a1, a2⟩ := dOk_rep d h.1
      obtain ⟨b1, b2⟩ := dsOk_rep ds h.2
      exact ⟨.cons a1 b1, fun io G => .cons (a2 io G) (b2 io G)⟩
end
end
/-- a written dict of text keys: its values -/
def kvOk (K : PySem.W.Frag) (a : Addr) : List Str → List D → Bool
  | [], [] => true
  | k :: ks, d :: ds => (match PySem.W.nsIn K a k with
    | some (some u) => dOk K u d
    | _ => false) && kvOk K a ks ds
  | _, _ => false
theorem kvOk_lk {K : PySem.W.Frag} {a : Addr} : ∀ {ks : List Str} {ds : List D}, kvOk K a ks ds = true → ∀ z d, lk ks ds z = some d → ∃ u, PySem.W.nsIn K a z = some (some u) ∧ dOk K u d = true
  | [], [], _, z, d, e => by cases e
  | k :: ks, d0 :: ds, h, z, d, e => by
    simp only [kvOk, Bool.and_eq_true] at h
    unfold lk at e
    split at e
    · rename_i hz
      subst hz
      cases e
      cases q : PySem.W.nsIn K a z with
      | none => rw [q] at h; cases h.1
      | some r =>
        rw [q] at h
        cases r with
        | none => cases h.1
        | some u => exact ⟨u, rfl, h.1⟩
    · exact kvOk_lk h.2 z d e
  | [], _ :: _, h, _, _, _ => by simp [kvOk] at h
  | _ :: _, [], h, _, _, _ => by simp [kvOk] at h
/-- a key that is not written is not found -/
theorem nsIn_absent {K : PySem.W.Frag} {a : Addr} {z : Str} {ks : List Str} {P : Params} (h : He.dicW K a = some (He.keysIn P ks)) (hz : z ∉ ks) : PySem.W.nsIn K a z = some none := by
  unfold He.dicW at h
  unfold PySem.W.nsIn
  cases q : K.lookup a with
  | none => rw [q] at h; cases h
  | some o =>
    obtain ⟨oc, od, dt, osl⟩ := o
    rw [q] at h
    cases oc with
    | type c =>
      cases od with
      | none =>
        cases dt with
        | dict es n =>
          have h1 : (match decide (c = "dict") && (osl.isEmpty && !(a == sysModules)) with
            | true => some (es.toList.map He.keyOf)
            | false => none) = some (He.keysIn P ks) := h
          split at h1
          · have h2 := Option.some.inj h1
            have all : ∀ e ∈ es.toList, ∃ x t, e.key = .str x t ∧ x ∈ ks := fun e he => by
              have m : He.keyOf e ∈ es.toList.map He.keyOf := List.mem_map_of_mem he
              rw [h2] at m
              unfold He.keysIn at m
              obtain ⟨k, hk, e1⟩ := List.mem_map.mp m
              unfold He.keyOf at e1
              split at e1
              · rename_i x t hx
                have e3 := Option.some.inj e1
                injection e3 with e4 e5
                exact ⟨x, t, hx, by rw [← e4]; exact hk⟩
              · cases e1
            have f1 : es.toList.find? (·.key.isStr z) = none := List.find?_eq_none.mpr fun e he => by
              obtain ⟨x, t, hx, hk⟩ := all e he
              rw [hx]
              intro q2
              apply hz
              have : x = z := by simpa [Value.isStr] using q2
              rw [← this]; exact hk
            have f2 : (es.toList.any (·.refKey)) = false := by
              rw [List.any_eq_false]
              intro e he
              obtain ⟨x, t, hx, hk⟩ := all e he
              unfold DictEntry.refKey
              rw [hx]
              simp
            show (match es.toList.find? (·.key.isStr z) with
              | some e => some (some e.val)
              | none => if es.toList.any (·.refKey) then none else some none) = some none
            rw [f1, f2]
            rfl
          · cases h1
        | _ => cases h
      | some b => cases dt <;> cases h
    | _ => cases od <;> cases dt <;> cases h
theorem lk_none {ks : List Str} : ∀ {ds : List D} {z : Str}, ks.length = ds.length → lk ks ds z = none → z ∉ ks := by
  induction ks with
  | nil => intro ds z _ _; simp
  | cons k ks ih =>
    intro ds z hl h
    cases ds with
    | nil => simp at hl
    | cons d ds =>
      unfold lk at h
      split at h
      · cases h
      · rename_i hz
        simp only [List.mem_cons, not_or]
        exact ⟨hz, ih (by simpa using hl) h⟩
theorem kd_rep {T : Tx} {a : Addr} {ks : List Str} {ds : List D} {es : Array DictEntry} {n : Nat} (kd : KDict T.K T.w a es n) (hw : He.dicW T.K a = some (He.keysIn T.w.params ks)) (hl : ks.length = ds.length) (hv : kvOk T.K a ks ds = true) (io : Io) (G : Hp) : Rep T io G (.ref a) (.kd ks ds) :=
  .kd (vv := fun z => match PySem.W.nsIn T.K a z with
    | some (some u) => vOf u
    | _ => .non) kd (fun z d e => by
    obtain ⟨u, h1, h2⟩ := kvOk_lk hv z d e
    exact ⟨u, h1, by rw [h1]; exact (dOk_rep d h2).1⟩) (fun z d e => by
    obtain ⟨u, h1, h2⟩ := kvOk_lk hv z d e
    rw [h1]
    exact (dOk_rep d h2).2 io G) fun z e => nsIn_absent hw (lk_none hl e)
end Ev

/-! E13b: own error classes, by reckoning. -/
namespace Ev
open PySem PySem.Spec L2
/-- an own class above ValueError: by reckoning -/
def oexOk (K : PySem.W.Frag) (C : Addr) : Bool := (match K.lookup C with
  | some ⟨.type "type", _, .cls cd, sl⟩ => (match cd.mro, sl.toList with
    | .ref C' :: bm, [_, _, _, _, some (.builtin n), _] => C' == C && n == "ValueError.__new__" && !cd.hasDel && cd.hasDict && PySem.HandSPX.refsVE bm
    | _, _ => false)
  | _ => false) && (decide (PySem.W.findIn K (.ref C) "__setattr__" = some (some (.builtin "object.__setattr__"))) && (decide (PySem.W.subIn K (.ref C) (.type "BaseException") = some true) && (decide (PySem.W.typeIn K (.ref C) = some (.type "type")) && PySem.W.keepIn K (.ref C))))
theorem oexOk_ok {K : PySem.W.Frag} {C : Addr} (h : oexOk K C = true) : OexC K C := by
  unfold oexOk at h
  simp only [Bool.and_eq_true, decide_eq_true_eq] at h
  obtain ⟨q, h1, h2, h3, h4⟩ := h
  refine ⟨?_, h1, h2, h3, h4⟩
  split at q
  · rename_i dd cd sl ho
    split at q
    · rename_i C' bm k0 k1 k2 k3 n k5 hm hs
      simp only [Bool.and_eq_true, beq_iff_eq, Bool.not_eq_true'] at q
      obtain ⟨⟨⟨⟨rfl, rfl⟩, hdel⟩, hdct⟩, ht⟩ := q
      obtain ⟨nm, bs, mro, ns, qn, hd, sn, sub, ab, col, del⟩ := cd
      dsimp only at hm hdel hdct
      subst hm hdel hdct
      have hsl : sl = #[k0, k1, k2, k3, some (.builtin "ValueError.__new__"), k5] := by
        obtain ⟨l⟩ := sl
        simp only at hs
        rw [hs]
      subst hsl
      exact ⟨nm, qn, ns, bs, bm, sn, sub, ab, col, dd, k0, k1, k2, k3, k5, ho, ht⟩
    · cases q
  · cases q
/-- what an own error class must say -/
structure XCls (K : PySem.W.Frag) (D : Addr) : Prop where
  cl : (PySem.W.clsIn K D).isSome = true
  f : XfC K D
  ha : PySem.W.findIn K (.ref D) "__class__" = some (some (.builtin "object.__class__"))
  hn : PySem.W.specialIn K (.builtin "object.__class__") "__get__" = some (some (.builtin "getset_descriptor.__get__"))
  ht : PySem.W.takesIn K (.builtin "object.__class__") = some true
  hm : PySem.W.mroIn K D (.type "object") = some true
def xclsB (K : PySem.W.Frag) (D : Addr) : Bool := (PySem.W.clsIn K D).isSome && (xfB K D && (decide (PySem.W.findIn K (.ref D) "__class__" = some (some (.builtin "object.__class__"))) && (decide (PySem.W.specialIn K (.builtin "object.__class__") "__get__" = some (some (.builtin "getset_descriptor.__get__"))) &&
  (decide (PySem.W.takesIn K (.builtin "object.__class__") = some true) && decide (PySem.W.mroIn K D (.type "object") = some true)))))
theorem xclsB_ok {K : PySem.W.Frag} {D : Addr} (h : xclsB K D = true) : XCls K D := by
  unfold xclsB at h
  simp only [Bool.and_eq_true, decide_eq_true_eq] at h
  exact ⟨h.1, xfB_ok h.2.1, h.2.2.1, h.2.2.2.1, h.2.2.2.2.1, h.2.2.2.2.2⟩
end Ev

/-! E14: the facts of the head, for the printed texts. -/
namespace Ev
open PySem PySem.Spec L2
/-- a constant of the module -/
inductive Con where
  | kd (x : Str) (ks : List Str) (ds : List D)
  | val (x : Str) (d : D)
  /-- an own error x whose __init__ keeps the one field f -/
  | ecl (x f : Str)
  /-- y among the own errors: which of these classes lie below it -/
  | tree (y : Str) (tbl : List (Str × Bool))
  /-- these errors' field n is the instance's own -/
  | fld (cs : List Str) (n : Str)
  /-- the defs' tables lie apart -/
  | apart (tf : List He.Defn)
def Con.ok (K : PySem.W.Frag) : Con → Bool
  | .kd x ks ds => kvOk K (He.ga K x) ks ds
  | .val x d => (match PySem.W.nsIn K mainGlobals x with
    | some (some u) => dOk K u d
    | _ => false)
  | .ecl x f => oexOk K (He.ga K x) && (decide (PySem.W.findIn K (.ref (He.ga K x)) "__init__" = some (some (.ref (He.ma K (He.ga K x) "__init__")))) && (decide (PySem.W.typeIn K (.ref (He.ma K (He.ga K x) "__init__")) = some (.type "function")) && decide (PySem.W.findIn K (.ref (He.ga K x)) f = some none)))
  | .tree y tbl => decide (PySem.W.kitOne K (.type "NoneType") (.ref (He.ga K y)) = some false) && tbl.all fun p => xclsB K (He.ga K p.1) && (decide (PySem.W.kitOne K (.ref (He.ga K p.1)) (.ref (He.ga K y)) = some p.2) && decide (PySem.W.exmOne K (.ref (He.ga K p.1)) (.ref (He.ga K y)) = some p.2))
  | .fld cs n => cs.all fun c => xfB K (He.ga K c) && decide (PySem.W.findIn K (.ref (He.ga K c)) n = some none)
  | .apart tf => decide (tf.map fun p => (He.cT K p).2).Nodup
def exOf (cs : List Con) (K : PySem.W.Frag) : Bool := cs.all (·.ok K)
structure Facts (T : Tx) (mg : Str → Option Value) (fa : List He.Fa) (fn : List He.DefD) (ts : List He.Tab) (tf : List He.Defn) (cs : List Con) : Prop where
  ca : ∀ x, T.ca x = He.ga T.K x
  x : ∃ h, T.K.In h ∧ h.Ns mainGlobals mg ∧ He.SaysX fa fn ts tf (exOf cs) T.w h T.K
section
variable {T : Tx} {mg : Str → Option Value} {fa : List He.Fa} {fn : List He.DefD} {ts : List He.Tab} {tf : List He.Defn} {cs : List Con}
theorem Facts.glo (M : Facts T mg fa fn ts tf cs) (i : Nat) {x : Str} (h : fa[i]? = some (.glo x)) : mg x = some (.ref (He.ga T.K x)) := by
  obtain ⟨hp, k, g, c⟩ := M.x
  exact He.glo_ok k g (c.t.d.fact i h)
theorem Facts.free (M : Facts T mg fa fn ts tf cs) (i : Nat) {x : Str} (h : fa[i]? = some (.free x)) : mg x = none := by
  obtain ⟨hp, k, g, c⟩ := M.x
  exact He.free_ok k g (c.t.d.fact i h)
theorem Facts.def_ (M : Facts T mg fa fn ts tf cs) (i : Nat) {d : He.DefD} (h : fn[i]? = some d) : ∃ fd, FunD T.K d.name d.qual d.params d.body d.scope (d.dvs T.K) (d.kws T.K) (He.fAd T.K d.at_) fd := by
  obtain ⟨hp, k, g, c⟩ := M.x
  exact c.t.d.def_ i h
theorem Facts.con (M : Facts T mg fa fn ts tf cs) (i : Nat) {z : Con} (h : cs[i]? = some z) : z.ok T.K = true := by
  obtain ⟨hp, k, g, c⟩ := M.x
  exact List.all_eq_true.mp c.more z (List.mem_of_getElem? h)
theorem Facts.tab (M : Facts T mg fa fn ts tf cs) (i : Nat) {t : He.Tab} (h : ts[i]? = some t) : He.dicW T.K (t.1 T.K) = some (He.keysIn T.w.params t.2) := by
  obtain ⟨hp, k, g, c⟩ := M.x
  have e : ts.map (fun t => He.dicW T.K (t.1 T.K)) = ts.map fun t => some (He.keysIn T.w.params t.2) := congrArg (fun z : He.AlT => z.2) c.t
  have e2 : (ts.map fun t => He.dicW T.K (t.1 T.K))[i]? = (ts.map fun t => some (He.keysIn T.w.params t.2))[i]? := by rw [e]
  rw [List.getElem?_map, List.getElem?_map, h] at e2
  exact Option.some.inj e2
theorem Facts.kd (M : Facts T mg fa fn ts tf cs) (i j : Nat) {x : Str} {ks : List Str} {ds : List D} (h1 : ts[i]? = some (fun K => He.ga K x, ks)) (h2 : cs[j]? = some (.kd x ks ds)) (hl : ks.length = ds.length) (io : Io) (G : Hp) : Rep T io G (.ref (He.ga T.K x)) (.kd ks ds) := by
  have a := M.tab i h1
  have b := M.con j h2
  obtain ⟨es, n, kd⟩ := He.dicW_ok a
  exact kd_rep kd a hl b io G
/-- the name of a constant -/
theorem Facts.val (M : Facts T mg fa fn ts tf cs) (j : Nat) {x : Str} {d : D} (h2 : cs[j]? = some (.val x d)) : ∃ u, mg x = some u ∧ RelV (vOf u) u ∧ ∀ io G, Rep T io G (vOf u) d := by
  have b := M.con j h2
  unfold Con.ok at b
  obtain ⟨hp, k, g, c⟩ := M.x
  cases q : PySem.W.nsIn T.K mainGlobals x with
  | none => simp only [q] at b; cases b
  | some r =>
    cases r with
    | none => simp only [q] at b; cases b
    | some u =>
      simp only [q] at b
      exact ⟨u, PySem.W.mg_of k g q, dOk_rep d b⟩
end
end Ev
namespace Ev
open PySem PySem.Spec L2
/-- a block stands in its def: by reckoning -/
def blkChk (N : List Str) (sn : List (Str × NameKind)) (sc : Scope) (own : List (Str × Nat)) : Bool :=
  decide (sc.kind = .function) && (sc.names.all fun y => decide (sc.names.lookup y.1 = some y.2)) && (own.all fun p => decide (N[p.2]? = some p.1)) &&
  (sc.names.all fun y => !decide (y.2 = .free) || (decide (sn.lookup y.1 = some .cell) || decide (sn.lookup y.1 = some .free))) &&
  (sc.names.all fun y => !(decide (y.2 = .local) || decide (y.2 = .cell)) || (decide (y.1 ∈ own.map (·.1)) || decide (y.1 ∉ N)))
theorem blkOk_of {N : List Str} {sc scope : Scope} {own : List (Str × Nat)} (h : blkChk N sc.names scope own = true) : BlkOk N sc scope own := by
  unfold blkChk at h
  simp only [Bool.and_eq_true, List.all_eq_true, decide_eq_true_eq, Bool.or_eq_true, Bool.not_eq_true', decide_eq_false_iff_not] at h
  obtain ⟨⟨⟨⟨h1, h2⟩, h3⟩, h4⟩, h5⟩ := h
  refine ⟨h1, h2, h3, fun y hy e => ?_, fun y hy e => ?_⟩
  · rcases h4 y hy with q | q
    · exact absurd e q
    · exact q
  · rcases h5 y hy with q | q
    · rcases e with e | e <;> simp [e] at q
    · exact q
end Ev
namespace Ev
open PySem PySem.Spec L2
/-- a body's derivation gives the promise -/
theorem def_okG {T : Tx} {P : Program} {mg : Str → Option Value} {base : Heap} {y qual : Str} {params : Arguments} {body : List Stmt} {scope : Scope} {f : Addr} {fd : FuncData} {N ps : List Str} {k : Nat} {m : MS}
    {dvs : List V} {kws : List (Str × V)} (F : FunD T.K y qual params body scope dvs kws f fd) (S : FnScope N ps scope)
    (hbody : ∀ (cdv : Value), CodeAt T.K f cdv → ∀ (A : Around) (outer : List Env) (s : Shared) (H : Hp) (E : XK), A.guards = some [] → Room k (A.deeper (PyProof.Rows.envOfC qual scope s.heap.objs.size f cdv)) →
      Takes (cxOf (L2.CX P T.w) P T.w T.K mg base N qual scope f cdv A outer s H E) (fun cls d _ H => E cls d H) →
      PSs (cxOf (L2.CX P T.w) P T.w T.K mg base N qual scope f cdv A outer s H E) body (tS T (fun cls d _ H => E cls d H) m)) : FnG P T.w T.K mg base (L2.CX P T.w) (k + 1) f fd ps (spD T ps.length (bodyF N.length m)) := by
  refine fnG_of F S (fun vs H Q E ⟨_, _, _, _, _, _, h, _⟩ => h) fun cdv hcd A outer s H vs Q E gd hr hsp => ?_
  refine ⟨_, hbody cdv hcd A outer s H E gd hr (takes_of rfl rfl rfl rfl), ?_⟩
  obtain ⟨x, ds, sto, b, hu, r, hn, h⟩ := hsp
  refine ⟨x, _, b.start r rfl, ?_⟩
  unfold bodyF at h
  cases e : m ⟨ds.map .sh ++ List.replicate (N.length - ds.length) .un, sto⟩ with
  | nx s' => rw [e] at h; exact fun x' σ' H' k' st => h x' .non H' k'.bx st .non
  | bk _ => rw [e] at h; exact h.elim
  | ct _ => rw [e] at h; exact h.elim
  | rt d sto => rw [e] at h; exact h
  | ro xs sto => rw [e] at h; exact h
  | exc c ns vs sto => rw [e] at h; exact fun σ' x' dd us H' b' st xd => h x' dd us H' b' st xd
  | bad => rw [e] at h; exact h.elim
/-- a law's end, its numbers of some 2^20 bits -/
theorem end_ofB {l : PySem.W.OpenLaw} {n k : Nat} {q : Program} {loose : List Str} {XP : (Str → Option Value) → Heap → Prop} {YP : World → Heap → Prop} {d : DefRec} {y : Str} {F : Fn}
    (hn : l.most = some n) (few : n ≤ sizeLine) (hdf : d.params.defaults = []) (room : Room k callerA)
    (FO : ∀ (w : World) (mg : Str → Option Value) (fa : Addr) (h : Heap), YP w h → h.Ns mainGlobals mg → mg d.name = some (.ref fa) →
      ∃ (K : PySem.W.Frag) (ca : Str → Addr) (fd : FuncData) (cs : List (Addr × Addr)) (tb : List (Addr × Str)), K.In h ∧ (∀ (s : Shared) (u : Value), BindsTo s fd ⟨[u], []⟩ [(y, u)]) ∧ TabE K h cs ∧ (∀ p ∈ tb, p.1 ∈ cs.map (·.2)) ∧
        ∀ base : Heap, K.In base → base.Ns mainGlobals mg → TabsAt base mg cs → FnG l.prog w K mg base (L2.CX l.prog w) k fa fd [y] (spD { K := K, w := w, ca := ca, tb := tb } 1 F))
    (run : ∀ ns : List Int, ns.length ≤ n → (∀ z ∈ ns, Builtin.Int.intBits z ≤ 1048576) → ∃ sto, F [.lst (ns.map .int)] [] = .rt (.bl true) sto) :
    PySem.W.WalkO q loose XP YP l.row.toRowW d [] (fun f vs => PySem.call f vs) :=
  Att.attach_callB hn hdf fun w s0 s1 mg mb fa o pm cd doc a vs ns G Y _ _ _ hmg hobj hints hlen hbits hg => by
    obtain ⟨K, ca, fd, cs, tb, kin, bind, TE, htb, FO⟩ := FO w mg fa _ Y G.T.g hmg
    exact end_call (ca := ca) kin G.T.g G.T.b G.T.builtins G.T.nolimit hg TE htb G.T.bmain hobj hints (Nat.le_trans hlen few) room FO bind (run ns hlen hbits)
end Ev

/-! E17: what is wanted of the meanings: rules to reckon them with, from the front. -/
namespace Ev
open PySem PySem.Spec L2
abbrev Sto := List (List D)
abbrev XPost := Str → List Str → List D → Sto → Prop
def Xn : XPost := fun _ _ _ _ => False
/-- of an expression -/
def We {α : Type} (r : R α) (E : XPost) (Q : α → Sx → Prop) : Prop := match r with
  | .ok a s => Q a s
  | .exc c ns vs sto => E c ns vs sto
  | .bad => False
structure Kp where
  nx : Sx → Prop
  bk : Sx → Prop
  ct : Sx → Prop
  rt : D → Sto → Prop
  ro : List D → Sto → Prop
  ex : XPost
abbrev Kp.to (k : Kp) (f : Sx → Prop) : Kp := ⟨f, k.bk, k.ct, k.rt, k.ro, k.ex⟩
abbrev Kp.lp (k : Kp) (f : Sx → Prop) : Kp := ⟨f, k.nx, f, k.rt, k.ro, k.ex⟩
/-- of a statement -/
def Ws (r : RS) (k : Kp) : Prop := match r with
  | .nx s => k.nx s
  | .bk s => k.bk s
  | .ct s => k.ct s
  | .rt d sto => k.rt d sto
  | .ro xs sto => k.ro xs sto
  | .exc c ns vs sto => k.ex c ns vs sto
  | .bad => False
/-- of a def's call -/
def Wf (r : RS) (E : XPost) (P : D → Sto → Prop) : Prop := match r with
  | .rt d sto => P d sto
  | .ro xs sto => P (.lst xs) sto
  | .exc c ns vs sto => E c ns vs sto
  | _ => False
def WfO (r : RS) (E : XPost) (P : List D → Sto → Prop) : Prop := match r with
  | .ro xs sto => P xs sto
  | .exc c ns vs sto => E c ns vs sto
  | _ => False
def X2 (g : D → D → Option D) (a b : D) (P : D → Prop) : Prop := ∃ z, g a b = some z ∧ P z
def X1 (g : D → Option D) (a : D) (P : D → Prop) : Prop := ∃ z, g a = some z ∧ P z
def XL (g : List D → Option D) (a : List D) (P : D → Prop) : Prop := ∃ z, g a = some z ∧ P z
def XI (g : List D → Option (List D)) (a : List D) (P : List D → Prop) : Prop := ∃ z, g a = some z ∧ P z
def XItems (a : D) (P : List D → Prop) : Prop := ∃ xs, itemsOf a = some xs ∧ P xs
def XPar (ds : List D) (P : D → D → Prop) : Prop := ∃ d e, ds = [d, e] ∧ P d e
def XIxO (i : Nat) (b : D) (s : Sx) (P : D → Sx → Prop) : Prop := ∃ j xs z, b = .int j ∧ (slD s i).bind itemsOf = some xs ∧ atI xs j = some z ∧ P z s
def XSetB (o j v : D) (s : Sx) (P : Sx → Prop) : Prop := ∃ n jj xs p, o = .box n ∧ j = .int jj ∧ s.sto[n]? = some xs ∧ ixN xs.length jj = some p ∧ P { s with sto := s.sto.set n (xs.set p v) }
def XSetO (i : Nat) (j v : D) (s : Sx) (P : Sx → Prop) : Prop := ∃ jj xs p, j = .int jj ∧ s.env[i]? = some (.ow xs) ∧ ixN xs.length jj = some p ∧ P (s.own i (xs.set p v))
def XApp (i : Nat) (d : D) (s : Sx) (P : Sx → Prop) : Prop := ∃ xs, s.env[i]? = some (.ow xs) ∧ xs.length < sizeLine ∧ P (s.own i (xs ++ [d]))
def XLen (ds : List D) (p : Prop) : Prop := ds.length ≤ sizeLine ∧ p
theorem XLen.mk {ds : List D} {p : Prop} (h : Nat.ble ds.length sizeLine = true) (q : p) : XLen ds p := ⟨Nat.le_of_ble_eq_true h, q⟩
def XOpt (d : D) (P : Option Int → Prop) : Prop := ∃ i, d = .int i ∧ P (some i)
theorem XOpt.int {i : Int} {P : Option Int → Prop} (h : P (some i)) : XOpt (.int i) P := ⟨i, rfl, h⟩
def XSl (a : D) (l h : Option Int) (P : D → Prop) : Prop := ∃ z, gSl a l h = some z ∧ P z
theorem XSl.lst {xs : List D} {l h : Option Int} {P : D → Prop} (q : P (.lst (cutD xs l h))) : XSl (.lst xs) l h P := ⟨_, rfl, q⟩
theorem XSl.tup {xs : List D} {l h : Option Int} {P : D → Prop} (q : P (.tup (cutD xs l h))) : XSl (.tup xs) l h P := ⟨_, rfl, q⟩
def XStr (a : D) (P : Str → Prop) : Prop := ∃ x, a = .str x ∧ P x
theorem XStr.str {x : Str} {P : Str → Prop} (h : P x) : XStr (.str x) P := ⟨x, rfl, h⟩
theorem XItems.lst {xs : List D} {P : List D → Prop} (h : P xs) : XItems (.lst xs) P := ⟨xs, rfl, h⟩
theorem XItems.tup {xs : List D} {P : List D → Prop} (h : P xs) : XItems (.tup xs) P := ⟨xs, rfl, h⟩
theorem XPar.two {d e : D} {P : D → D → Prop} (h : P d e) : XPar [d, e] P := ⟨d, e, rfl, h⟩
theorem XSetB.box {n p : Nat} {jj : Int} {v : D} {s : Sx} {xs : List D} {P : Sx → Prop} (h1 : s.sto[n]? = some xs) (h2 : ixN xs.length jj = some p) (h : P { s with sto := s.sto.set n (xs.set p v) }) : XSetB (.box n) (.int jj) v s P := ⟨n, jj, xs, p, rfl, rfl, h1, h2, h⟩
theorem XSetO.own {i p : Nat} {jj : Int} {v : D} {s : Sx} {xs : List D} {P : Sx → Prop} (h1 : s.env[i]? = some (.ow xs)) (h2 : ixN xs.length jj = some p) (h : P (s.own i (xs.set p v))) : XSetO i (.int jj) v s P := ⟨jj, xs, p, rfl, h1, h2, h⟩
theorem XApp.own {i : Nat} {d : D} {s : Sx} {xs : List D} {P : Sx → Prop} (h1 : s.env[i]? = some (.ow xs)) (h2 : xs.length < sizeLine) (h : P (s.own i (xs ++ [d]))) : XApp i d s P := ⟨xs, h1, h2, h⟩
theorem XIxO.at {i : Nat} {j : Int} {s : Sx} {xs : List D} {z : D} {P : D → Sx → Prop} (h1 : (slD s i).bind itemsOf = some xs) (h2 : atI xs j = some z) (h : P z s) : XIxO i (.int j) s P := ⟨j, xs, z, rfl, h1, h2, h⟩
def XB (d : D) (P : Bool → Prop) : Prop := ∃ b, d = .bl b ∧ P b
/-- by a truth: either way -/
def Xc (b : Bool) (A B : Prop) : Prop := (b = true → A) ∧ (b = false → B)
theorem Xc.t {b : Bool} {A B : Prop} (h : b = true) (a : A) : Xc b A B := ⟨fun _ => a, fun e => by rw [h] at e; cases e⟩
theorem Xc.f {b : Bool} {A B : Prop} (h : b = false) (a : B) : Xc b A B := ⟨fun e => (by rw [h] at e; cases e), fun _ => a⟩
theorem Xc.d {p : Prop} [Decidable p] {A B : Prop} (a : p → A) (b : ¬ p → B) : Xc (decide p) A B := ⟨fun e => a (of_decide_eq_true e), fun e => b (of_decide_eq_false e)⟩
theorem Xc.n {c : Bool} {A B : Prop} (h : Xc c B A) : Xc (!c) A B := ⟨fun e => h.2 (by simpa using e), fun e => h.1 (by simpa using e)⟩
section
variable {α β : Type} {E : XPost} {s : Sx} {Q : α → Sx → Prop}
theorem We.bind {m : M β} {f : β → M α} (h : We (m s) E fun a s' => We (f a s') E Q) : We (M.bind m f s) E Q := by
  unfold M.bind
  cases e : m s with
  | ok a s' => rw [e] at h; exact h
  | exc => rw [e] at h; exact h
  | bad => rw [e] at h; exact h
theorem We.imp {r : R α} {Q' : α → Sx → Prop} (h : We r E Q) (k : ∀ a s, Q a s → Q' a s) : We r E Q' := by
  cases r with
  | ok a s' => exact k _ _ h
  | exc => exact h
  | bad => exact h
theorem We.pure {a : α} (h : Q a s) : We (M.pure a s) E Q := h
theorem We.lift {o : Option α} {a : α} (e : o = some a) (h : Q a s) : We (M.lift o s) E Q := by
  subst e; exact h
end
section
variable {E : XPost} {s : Sx} {Q : D → Sx → Prop} {QB : Bool → Sx → Prop} {QL : List D → Sx → Prop} {ma mb mc : M D} {ml : M (List D)} {m n : M Bool} {i : Nat} {d : D}
theorem We.var (h : s.env[i]? = some (.sh d)) (q : Q d s) : We (mVar i s) E Q := by
  unfold mVar; rw [h]; exact q
theorem We.varO {xs : List D} (h : s.env[i]? = some (.ow xs)) (q : Q (.lst xs) (s.put i (.lst xs))) : We (mVar i s) E Q := by
  unfold mVar; rw [h]; exact q
theorem We.c (q : Q d s) : We (mC d s) E Q := q
theorem We.m1 {g : D → Option D} (h : We (ma s) E fun a s1 => X1 g a fun z => Q z s1) : We (m1 g ma s) E Q :=
  We.bind (h.imp fun a s1 ⟨z, e, q⟩ => We.lift e q)
theorem We.m2 {g : D → D → Option D} (h : We (ma s) E fun a s1 => We (mb s1) E fun b s2 => X2 g a b fun z => Q z s2) : We (m2 g ma mb s) E Q :=
  We.bind (h.imp fun a s1 h => We.bind (h.imp fun b s2 ⟨z, e, q⟩ => We.lift e q))
theorem We.mL {g : List D → Option D} (h : We (ml s) E fun a s1 => XL g a fun z => Q z s1) : We (mL g ml s) E Q :=
  We.bind (h.imp fun a s1 ⟨z, e, q⟩ => We.lift e q)
theorem We.mRng {g : List D → Option (List D)} (h : We (ml s) E fun a s1 => XI g a fun z => QL z s1) : We (mRng g ml s) E QL :=
  We.bind (h.imp fun a s1 ⟨z, e, q⟩ => We.lift e q)
theorem We.mItems (h : We (ma s) E fun a s1 => XItems a fun xs => QL xs s1) : We (mItems ma s) E QL :=
  We.bind (h.imp fun a s1 ⟨z, e, q⟩ => We.lift e q)
theorem We.mT (h : We (ma s) E fun a s1 => XB a fun b => QB b s1) : We (mT ma s) E QB :=
  We.bind (h.imp fun a s1 ⟨z, e, q⟩ => by subst e; exact We.lift rfl q)
theorem We.mNot (h : We (m s) E fun b s1 => QB (!b) s1) : We (mNot m s) E QB := We.bind (h.imp fun b s1 q => q)
theorem We.mAnd (h : We (m s) E fun b s1 => Xc b (We (n s1) E QB) (QB false s1)) : We (mAnd m n s) E QB :=
  We.bind (h.imp fun b s1 q => by cases b; exact q.2 rfl; exact q.1 rfl)
theorem We.mOr (h : We (m s) E fun b s1 => Xc b (QB true s1) (We (n s1) E QB)) : We (mOr m n s) E QB :=
  We.bind (h.imp fun b s1 q => by cases b; exact q.2 rfl; exact q.1 rfl)
theorem We.mIf {α : Type} {Q : α → Sx → Prop} {x y : M α} (h : We (m s) E fun b s1 => Xc b (We (x s1) E Q) (We (y s1) E Q)) : We (mIf m x y s) E Q :=
  We.bind (h.imp fun b s1 q => by cases b; exact q.2 rfl; exact q.1 rfl)
theorem We.nil (q : QL [] s) : We (mNil s) E QL := q
theorem We.cons (h : We (ma s) E fun d s1 => We (ml s1) E fun ds s2 => QL (d :: ds) s2) : We (mCons ma ml s) E QL :=
  We.bind (h.imp fun a s1 h => We.bind (h.imp fun b s2 q => q))
theorem We.tup (h : We (ml s) E fun ds s1 => XLen ds (Q (.tup ds) s1)) : We (mTup ml s) E Q :=
  We.bind (h.imp fun a s1 ⟨e, q⟩ => by rw [if_pos e]; exact q)
theorem We.lst (h : We (ml s) E fun ds s1 => XLen ds (QL ds s1)) : We (mLst ml s) E QL :=
  We.bind (h.imp fun a s1 ⟨e, q⟩ => by rw [if_pos e]; exact q)
theorem We.p0 {Q : Option Int → Sx → Prop} (h : Q none s) : We (mPart none s) E Q := h
theorem We.p1 {Q : Option Int → Sx → Prop} (h : We (ma s) E fun d s1 => XOpt d fun o => Q o s1) : We (mPart (some ma) s) E Q :=
  We.bind (h.imp fun a s1 ⟨i, e, q⟩ => by subst e; exact q)
theorem We.sl {lo hi : Option (M D)} (h : We (ma s) E fun a s1 => We (mPart lo s1) E fun l s2 => We (mPart hi s2) E fun h s3 => XSl a l h fun z => Q z s3) : We (mSl ma lo hi s) E Q :=
  We.bind (h.imp fun a s1 h => We.bind (h.imp fun l s2 h => We.bind (h.imp fun hh s3 ⟨z, e, q⟩ => We.lift e q)))
theorem We.sh (h : We (ml s) E fun ds s1 => Q (.lst ds) s1) : We (mSh ml s) E Q := We.bind (h.imp fun a s1 q => q)
theorem We.call {F : Fn} (h : We (ml s) E fun ds s1 => Wf (F ds s1.sto) E fun d sto => Q d { s1 with sto := sto }) : We (mCall F ml s) E Q :=
  We.bind (h.imp fun ds s1 q => by
    show We (match F ds s1.sto with
      | .rt d sto => .ok d { s1 with sto := sto }
      | .ro xs sto => .ok (.lst xs) { s1 with sto := sto }
      | .exc c ns vs sto => .exc c ns vs sto
      | _ => .bad) E Q
    unfold Wf at q
    cases e : F ds s1.sto <;> rw [e] at q <;> first | exact q | exact q.elim)
theorem We.callF {F : Fn} (h : We (ml s) E fun ds s1 => WfO (F ds s1.sto) E fun d sto => QL d { s1 with sto := sto }) : We (mCallF F ml s) E QL :=
  We.bind (h.imp fun ds s1 q => by
    show We (match F ds s1.sto with
      | .ro xs sto => .ok xs { s1 with sto := sto }
      | .exc c ns vs sto => .exc c ns vs sto
      | _ => .bad) E QL
    unfold WfO at q
    cases e : F ds s1.sto <;> rw [e] at q <;> first | exact q | exact q.elim)
theorem We.mAndV (h : We (ma s) E fun d s1 => XB d fun b => Xc b (We (mb s1) E Q) (Q (.bl false) s1)) : We (mAndV ma mb s) E Q :=
  We.bind (h.imp fun d s1 ⟨b, e, q⟩ => by subst e; cases b; exact q.2 rfl; exact q.1 rfl)
theorem We.mOrV (h : We (ma s) E fun d s1 => XB d fun b => Xc b (Q (.bl true) s1) (We (mb s1) E Q)) : We (mOrV ma mb s) E Q :=
  We.bind (h.imp fun d s1 ⟨b, e, q⟩ => by subst e; cases b; exact q.2 rfl; exact q.1 rfl)
theorem We.mNotV (h : We (ma s) E fun d s1 => XB d fun b => Q (.bl (!b)) s1) : We (mNotV ma s) E Q :=
  We.bind (h.imp fun d s1 ⟨b, e, q⟩ => by subst e; exact q)
theorem We.chain {g g' : D → D → Option D} (h : We (ma s) E fun a s1 => We (mb s1) E fun b s2 => X2 g a b fun k => XB k fun k => Xc k (We (mc s2) E fun c s3 => X2 g' b c fun z => Q z s3) (Q (.bl false) s2)) : We (mChain g g' ma mb mc s) E Q :=
  We.bind (h.imp fun a s1 h => We.bind (h.imp fun b s2 ⟨z, e, k, e2, q⟩ => by
    subst e2
    refine We.bind (We.lift e ?_)
    cases k
    · exact q.2 rfl
    · exact We.bind ((q.1 rfl).imp fun c s3 ⟨z, e, q⟩ => We.lift e q)))
theorem We.ix (h : We (ma s) E fun a s1 => We (mb s1) E fun b s2 => We (ixPost a b s2) E Q) : We (mIx ma mb s) E Q := We.bind (h.imp fun a s1 h => We.bind h)
theorem We.ixL {xs : List D} {j : Int} {z : D} (e : atI xs j = some z) (q : Q z s) : We (ixPost (.lst xs) (.int j) s) E Q := by
  unfold ixPost gIx; simp only [e]; exact q
theorem We.ixT {xs : List D} {j : Int} {z : D} (e : atI xs j = some z) (q : Q z s) : We (ixPost (.tup xs) (.int j) s) E Q := by
  unfold ixPost gIx; simp only [e]; exact q
theorem We.ixB {xs : List D} {n : Nat} {j : Int} {z : D} (e1 : s.sto[n]? = some xs) (e : atI xs j = some z) (q : Q z s) : We (ixPost (.box n) (.int j) s) E Q := by
  unfold ixPost; simp only [e1, e]; exact q
theorem We.b1 {g : List D → Option D} (e : slD s i = some d) (h : XL g [d] fun z => z.flat = true ∧ Q z s) : We (mB1 g i s) E Q := by
  obtain ⟨z, e2, hz, q⟩ := h
  unfold mB1; simp only [e, e2, hz, if_true]; exact q
theorem We.ixO (e0 : (slD s i).isSome = true) (h : We (mb s) E fun b s1 => XIxO i b s1 Q) : We (mIxB i mb s) E Q := by
  unfold mIxB
  cases e : slD s i with
  | none => rw [e] at e0; cases e0
  | some d0 =>
    simp only
    cases e2 : mb s with
    | ok b s1 =>
      rw [e2] at h
      obtain ⟨j, xs, z, rfl, h1, h2, h3⟩ := h
      simp only [h1, h2]
      exact h3
    | exc => rw [e2] at h; exact h
    | bad => rw [e2] at h; exact h
theorem We.s1 {f : Str → Str → D} (h : We (ma s) E fun a s1 => XStr a fun x => We (mb s1) E fun b s2 => XStr b fun y => Q (f x y) s2) : We (mS1 f ma mb s) E Q := by
  unfold mS1
  refine We.bind (h.imp fun a s1 ⟨x, e, h⟩ => ?_)
  subst e
  refine We.bind (h.imp fun b s2 ⟨y, e, q⟩ => ?_)
  subst e
  exact q
end
section
variable {k : Kp} {s : Sx} {m n : MS} {ma mo mi mv : M D} {ml : M (List D)} {c : M Bool} {i j : Nat} {t : Tg} {body : MS}
theorem Ws.imp {r : RS} {k' : Kp} (h : Ws r k) (h1 : ∀ s, k.nx s → k'.nx s) (h2 : ∀ s, k.bk s → k'.bk s) (h3 : ∀ s, k.ct s → k'.ct s) (h4 : ∀ d s, k.rt d s → k'.rt d s) (h5 : ∀ d s, k.ro d s → k'.ro d s) (h6 : ∀ c ns vs s, k.ex c ns vs s → k'.ex c ns vs s) : Ws r k' := by
  cases r with
  | nx => exact h1 _ h
  | bk => exact h2 _ h
  | ct => exact h3 _ h
  | rt => exact h4 _ _ h
  | ro => exact h5 _ _ h
  | exc => exact h6 _ _ _ _ h
  | bad => exact h
theorem Ws.seq (h : Ws (m s) (k.to fun s' => Ws (n s') k)) : Ws (sSeq m n s) k := by
  unfold sSeq
  cases e : m s <;> rw [e] at h <;> exact h
theorem Ws.seqI (I : Sx → Prop) (h : Ws (m s) (k.to I)) (h2 : ∀ s', I s' → Ws (n s') k) : Ws (sSeq m n s) k :=
  Ws.seq (h.imp h2 (fun _ q => q) (fun _ q => q) (fun _ _ q => q) (fun _ _ q => q) fun _ _ _ _ q => q)
theorem Ws.bind {α : Type} {x : M α} {f : α → MS} (h : We (x s) k.ex fun a s' => Ws (f a s') k) : Ws (sBind x f s) k := by
  unfold sBind
  cases e : x s <;> rw [e] at h <;> exact h
theorem Ws.if (h : We (c s) k.ex fun b s' => Xc b (Ws (m s') k) (Ws (n s') k)) : Ws (sIf c m n s) k :=
  Ws.bind (h.imp fun b s1 q => by cases b; exact q.2 rfl; exact q.1 rfl)
theorem Ws.nx (h : k.nx s) : Ws (sNx s) k := h
theorem Ws.bk (h : k.bk s) : Ws (sBk s) k := h
theorem Ws.ct (h : k.ct s) : Ws (sCt s) k := h
theorem Ws.drop (h : We (ma s) k.ex fun _ s' => k.nx s') : Ws (sDrop ma s) k := Ws.bind (h.imp fun _ _ q => q)
theorem Ws.ret (h : We (ma s) k.ex fun d s' => k.rt d s'.sto) : Ws (sRet ma s) k := Ws.bind (h.imp fun _ _ q => q)
theorem Ws.retF (h : We (ml s) k.ex fun d s' => k.ro d s'.sto) : Ws (sRetF ml s) k := Ws.bind (h.imp fun _ _ q => q)
theorem Ws.retN (h : k.rt .non s.sto) : Ws (sRetN s) k := h
theorem Ws.set (h : We (ma s) k.ex fun d s' => k.nx (s'.put i d)) : Ws (sSet i ma s) k := Ws.bind (h.imp fun _ _ q => q)
theorem Ws.own (h : We (ml s) k.ex fun d s' => k.nx (s'.own i d)) : Ws (sOwn i ml s) k := Ws.bind (h.imp fun _ _ q => q)
theorem Ws.box (h : We (ml s) k.ex fun xs s' => k.nx { env := s'.env.set i (.sh (.box s'.sto.length)), sto := s'.sto ++ [xs] }) : Ws (sBox i ml s) k := Ws.bind (h.imp fun _ _ q => q)
theorem Ws.par (h : We (ml s) k.ex fun ds s' => XPar ds fun d e => k.nx ((s'.put i d).put j e)) : Ws (sPar i j ml s) k :=
  Ws.bind (h.imp fun ds s1 ⟨d, e, z, q⟩ => by subst z; exact q)
theorem Ws.for (h : We (ml s) k.ex fun ds s' => Ws (forL t body ds s') k) : Ws (sFor ml t body s) k := Ws.bind h
theorem Ws.app {xs0 : List D} (e0 : s.env[i]? = some (.ow xs0)) (h : We (ma s) k.ex fun d s1 => XApp i d s1 k.nx) : Ws (sApp i ma s) k := by
  unfold sApp
  simp only [e0]
  exact Ws.bind (h.imp fun d s1 ⟨xs, e, hl, q⟩ => by simp only [e, hl, if_true]; exact q)
theorem Ws.setB (h : We (mv s) k.ex fun v s1 => We (mo s1) k.ex fun o s2 => We (mi s2) k.ex fun j s3 => XSetB o j v s3 k.nx) : Ws (sSetB mo mi mv s) k := by
  unfold sSetB
  refine Ws.bind (h.imp fun v s1 h => Ws.bind (h.imp fun o s2 h => Ws.bind (h.imp fun j s3 ⟨n, jj, xs, p, e1, e2, e3, e4, q⟩ => ?_)))
  subst e1 e2
  simp only [e3, e4]
  exact q
theorem Ws.setO (h : We (mv s) k.ex fun v s1 => ∃ ys, s1.env[i]? = some (.ow ys) ∧ We (mi s1) k.ex fun j s3 => XSetO i j v s3 k.nx) : Ws (sSetO i mi mv s) k := by
  unfold sSetO
  refine Ws.bind (h.imp fun v s1 ⟨ys, e0, h⟩ => ?_)
  simp only [e0]
  refine Ws.bind (h.imp fun j s3 ⟨jj, xs, p, e1, e2, e3, q⟩ => ?_)
  subst e1
  simp only [e2, e3]
  exact q
theorem Wf.fn {E : XPost} {P : D → Sto → Prop} {nn : Nat} {ds : List D} {sto : Sto} (h : Ws (m ⟨ds.map .sh ++ List.replicate (nn - ds.length) .un, sto⟩) ⟨fun s => P .non s.sto, fun _ => False, fun _ => False, P, fun xs => P (.lst xs), E⟩) : Wf (bodyF nn m ds sto) E P := by
  unfold bodyF
  cases e : m ⟨ds.map .sh ++ List.replicate (nn - ds.length) .un, sto⟩ <;> rw [e] at h <;> first | exact h | exact h.elim
theorem WfO.fn {E : XPost} {P : List D → Sto → Prop} {nn : Nat} {ds : List D} {sto : Sto} (h : Ws (m ⟨ds.map .sh ++ List.replicate (nn - ds.length) .un, sto⟩) ⟨fun s => False, fun _ => False, fun _ => False, fun _ _ => False, P, E⟩) : WfO (bodyF nn m ds sto) E P := by
  unfold bodyF
  cases e : m ⟨ds.map .sh ++ List.replicate (nn - ds.length) .un, sto⟩ <;> rw [e] at h <;> first | exact h | exact h.elim
theorem Wf.of_eq {E : XPost} {P : D → Sto → Prop} {r : RS} {d : D} {sto : Sto} (e : r = .rt d sto) (h : P d sto) : Wf r E P := by subst e; exact h
theorem Wf.imp {E : XPost} {P P' : D → Sto → Prop} {r : RS} (h : Wf r E P) (k : ∀ d s, P d s → P' d s) : Wf r E P' := by
  cases r with
  | rt => exact k _ _ h
  | ro => exact k _ _ h
  | exc => exact h
  | nx => exact h
  | bk => exact h
  | ct => exact h
  | bad => exact h
theorem Wf.eq {P : D → Sto → Prop} {r : RS} (h : Wf r Xn P) (hr : ∀ xs sto, r ≠ .ro xs sto) : ∃ d sto, r = .rt d sto ∧ P d sto := by
  cases r with
  | rt => exact ⟨_, _, rfl, h⟩
  | ro => exact absurd rfl (hr _ _)
  | exc => exact h.elim
  | nx => exact h.elim
  | bk => exact h.elim
  | ct => exact h.elim
  | bad => exact h.elim
/-- a loop by an invariant: I at the rest of the items -/
theorem forL_inv (I : List D → Sx → Prop) (step : ∀ d ds s, I (d :: ds) s → ∃ s1, t.run d s = some s1 ∧ Ws (body s1) (k.lp (I ds))) (fin : ∀ s, I [] s → k.nx s) : ∀ ds s, I ds s → Ws (forL t body ds s) k := by
  intro ds
  induction ds with
  | nil => intro s h; exact fin s h
  | cons d ds ih =>
    intro s h
    obtain ⟨s1, e1, h1⟩ := step d ds s h
    show Ws (match t.run d s with
      | none => .bad
      | some s1 => match body s1 with
        | .nx s2 => forL t body ds s2
        | .ct s2 => forL t body ds s2
        | .bk s2 => .nx s2
        | r => r) k
    rw [e1]
    simp only
    cases e : body s1 <;> rw [e] at h1 <;> first | exact ih _ h1 | exact h1
end
/-- a comprehension by an invariant: I at the rest of the items and what was gathered -/
theorem compL_inv {t : Tg} {c : M Bool} {m : M D} {ws : List Nat} (I : List D → List D → Sx → Prop)
    (step : ∀ d ds acc s, I (d :: ds) acc s → acc.length < sizeLine ∧ ∃ s1, t.run d { s with env := wipeE s.env ws } = some s1 ∧ We (c s1) Xn fun b s2 => Xc b (We (m s2) Xn fun z s3 => I ds (acc ++ [z]) s3) (I ds acc s2)) :
    ∀ ds acc s, I ds acc s → ∃ acc' s', compL t c m ws ds acc s = some (acc', s') ∧ I [] acc' s' := by
  intro ds
  induction ds with
  | nil => intro acc s h; exact ⟨acc, s, rfl, h⟩
  | cons d ds ih =>
    intro acc s h
    obtain ⟨hl, s1, e1, h1⟩ := step d ds acc s h
    unfold compL
    rw [e1]
    simp only
    cases e2 : c s1 with
    | exc => rw [e2] at h1; exact h1.elim
    | bad => rw [e2] at h1; exact h1.elim
    | ok b s2 =>
      rw [e2] at h1
      cases b with
      | false => exact ih _ _ (h1.2 rfl)
      | true =>
        have h2 := h1.1 rfl
        simp only
        cases e3 : m s2 with
        | exc => rw [e3] at h2; exact h2.elim
        | bad => rw [e3] at h2; exact h2.elim
        | ok z s3 =>
          rw [e3] at h2
          simp only [hl, if_true]
          exact ih _ _ h2
theorem We.comp {E : XPost} {s : Sx} {Q : List D → Sx → Prop} {mi : M (List D)} {t : Tg} {c : M Bool} {m : M D} {ws : List Nat}
    (h : We (mi s) E fun ds s0 => noOw s0.env ws = true ∧ ∃ acc s', compL t c m ws ds [] s0 = some (acc, s') ∧ Q acc { s' with env := rest_ s0.env s'.env ws }) : We (mComp mi t c m ws s) E Q :=
  We.bind (h.imp fun ds s0 ⟨h1, acc, s', e, q⟩ => by
    show We (if noOw s0.env ws = true then (match compL t c m ws ds [] s0 with
      | some (acc, s') => R.ok acc { s' with env := rest_ s0.env s'.env ws }
      | none => .bad) else .bad) E Q
    rw [if_pos h1, e]
    exact q)
/-! ### operators -/
section
variable {i j : Int} {a b : Str} {p q : Bool} {P : D → Prop} {xs : List D} {PL : List D → Prop}
theorem X2.of {g : D → D → Option D} {x y z : D} (e : g x y = some z) (h : P z) : X2 g x y P := ⟨z, e, h⟩
theorem X2.add (h : P (.int (i + j))) : X2 gAdd (.int i) (.int j) P := ⟨_, rfl, h⟩
theorem X2.sub (h : P (.int (i - j))) : X2 gSub (.int i) (.int j) P := ⟨_, rfl, h⟩
theorem X2.mul (c : cMul i j = true) (h : P (.int (i * j))) : X2 gMulI (.int i) (.int j) P := ⟨_, by show (if cMul i j = true then _ else _) = _; rw [if_pos c], h⟩
theorem X2.div (c : cDiv i j = true) (h : P (.int (i / j))) : X2 gDiv (.int i) (.int j) P := ⟨_, by show (if cDiv i j = true then _ else _) = _; rw [if_pos c], h⟩
theorem X2.mod (c : 0 < j) (h : P (.int (i % j))) : X2 gMod (.int i) (.int j) P := ⟨_, by show (if cMod i j = true then _ else _) = _; rw [if_pos (show cMod i j = true from decide_eq_true c)], h⟩
theorem X2.pow (c : cPow i j = true) (h : P (.int (i ^ j.toNat))) : X2 gPow (.int i) (.int j) P := ⟨_, by show (if cPow i j = true then _ else _) = _; rw [if_pos c], h⟩
theorem X2.shl (c : cShl i j = true) (h : P (.int (i * 2 ^ j.toNat))) : X2 gShl (.int i) (.int j) P := ⟨_, by show (if cShl i j = true then _ else _) = _; rw [if_pos c], h⟩
theorem X2.band (h : P (.int (Builtin.bitAnd i j))) : X2 gAnd (.int i) (.int j) P := ⟨_, rfl, h⟩
theorem X2.bor (h : P (.int (Builtin.bitOr i j))) : X2 gOr (.int i) (.int j) P := ⟨_, rfl, h⟩
theorem X2.bxor (h : P (.int (Builtin.bitXor i j))) : X2 gXor (.int i) (.int j) P := ⟨_, rfl, h⟩
theorem X2.lt (h : P (.bl (decide (i < j)))) : X2 gLt (.int i) (.int j) P := ⟨_, rfl, h⟩
theorem X2.le (h : P (.bl (decide (i ≤ j)))) : X2 gLe (.int i) (.int j) P := ⟨_, rfl, h⟩
theorem X2.gt (h : P (.bl (decide (j < i)))) : X2 gGt (.int i) (.int j) P := ⟨_, rfl, h⟩
theorem X2.ge (h : P (.bl (decide (j ≤ i)))) : X2 gGe (.int i) (.int j) P := ⟨_, rfl, h⟩
theorem X2.eqI (h : P (.bl (decide (i = j)))) : X2 gEq (.int i) (.int j) P := ⟨_, rfl, h⟩
theorem X2.eqS (h : P (.bl (decide (a = b)))) : X2 gEq (.str a) (.str b) P := ⟨_, rfl, h⟩
theorem X2.eqB (h : P (.bl (decide (p = q)))) : X2 gEq (.bl p) (.bl q) P := ⟨_, rfl, h⟩
theorem X2.neI (h : P (.bl (!decide (i = j)))) : X2 gNe (.int i) (.int j) P := ⟨_, rfl, h⟩
theorem X2.neS (h : P (.bl (!decide (a = b)))) : X2 gNe (.str a) (.str b) P := ⟨_, rfl, h⟩
theorem X2.neB (h : P (.bl (!decide (p = q)))) : X2 gNe (.bl p) (.bl q) P := ⟨_, rfl, h⟩
theorem X2.isB (h : P (.bl (decide (p = q)))) : X2 gIs (.bl p) (.bl q) P := ⟨_, rfl, h⟩
theorem X2.isN {x : D} (hx : isNon x = p) (h : P (.bl p)) : X2 gIs x .non P := ⟨.bl (isNon x), by cases x <;> rfl, by rw [hx]; exact h⟩
theorem X2.isnN {x : D} (hx : isNon x = p) (h : P (.bl (!p))) : X2 gIsNot x .non P := ⟨.bl (!isNon x), by cases x <;> rfl, by rw [hx]; exact h⟩
theorem XL.len (h : P (.int xs.length)) : XL gLen [.lst xs] P := ⟨_, rfl, h⟩
theorem XL.lenT (h : P (.int xs.length)) : XL gLen [.tup xs] P := ⟨_, rfl, h⟩
theorem XL.int (h : P (.int i)) : XL gInt [.int i] P := ⟨_, rfl, h⟩
theorem XL.intB (h : P (.int (if p = true then 1 else 0))) : XL gInt [.bl p] P := ⟨_, rfl, h⟩
theorem XL.abs {z : D} (e : gAbs [.int i] = some z) (h : P z) : XL gAbs [.int i] P := ⟨_, e, h⟩
theorem XL.of {g : List D → Option D} {l : List D} {z : D} (e : g l = some z) (h : P z) : XL g l P := ⟨_, e, h⟩
theorem X1.of {g : D → Option D} {l : D} {z : D} (e : g l = some z) (h : P z) : X1 g l P := ⟨_, e, h⟩
theorem XI.rng1 (h0 : 0 ≤ j) (h1 : j < 2 ^ 62) (h : PL (rngL 0 j.toNat)) : XI gRng1 [.int j] PL := ⟨_, by show (if _ then _ else _) = _; rw [if_pos ⟨by omega, h1⟩], h⟩
theorem XB.bl {b : Bool} {PB : Bool → Prop} (h : PB b) : XB (.bl b) PB := ⟨_, rfl, h⟩
theorem XB.st {x y : Str} {b : Bool} {PB : Bool → Prop} (e : Txt.startswith x y = b) (h : PB b) : XB (fStarts x y) PB := ⟨b, by unfold fStarts; rw [e], h⟩
end
end Ev

/-! E18: a comprehension over a name's own list, which stays one's own. -/
namespace Ev
open PySem PySem.Spec L2
def compLO (i0 : Nat) (t : Tg) (c : M Bool) (m : M D) (ws : List Nat) : Nat → Nat → List D → Sx → Option (List D × Sx)
  | 0, k, acc, s => match s.env[i0]? with
    | some (.ow ys) => match ys[k]? with
      | none => some (acc, s)
      | some _ => none
    | _ => none
  | n + 1, k, acc, s => match s.env[i0]? with
    | some (.ow ys) => match ys[k]? with
      | none => some (acc, s)
      | some d => match t.run d { s with env := wipeE s.env ws } with
        | none => none
        | some s1 => match c s1 with
          | .ok true s2 => match m s2 with
            | .ok z s3 => if acc.length < sizeLine then compLO i0 t c m ws n (k + 1) (acc ++ [z]) s3 else none
            | _ => none
          | .ok false s2 => compLO i0 t c m ws n (k + 1) acc s2
          | _ => none
    | _ => none
def ownLen (s : Sx) (i0 : Nat) : Nat := match s.env[i0]? with
  | some (.ow ys) => ys.length
  | _ => 0
def mCompO (i0 : Nat) (t : Tg) (c : M Bool) (m : M D) (ws : List Nat) : M (List D) := fun s => if (noOw s.env ws && !ws.contains i0) = true then
    (match compLO i0 t c m ws (ownLen s i0) 0 [] s with
    | some (acc, s') => .ok acc { s' with env := rest_ s.env s'.env ws }
    | none => .bad) else .bad
section
variable {T : Tx} {W : WX} {X : Cx} {tg elt : Expr} {ifs : List Expr} {scope : Scope} {own : List (Str × Nat)} {t : Tg} {mc : M Bool} {m : M D} {pos : Pos} {i0 : Nat}
/-- where a name's own list stands, at a turn -/
theorem own_at {x1 : Gh} {s1 : Sx} {σ : L2.St} {H1 : Hp} {ws : List Nat} {ys : List D} (k1 : Ok T x1 { s1 with env := wipeE s1.env ws } (wipe σ ws) H1) (hw : i0 ∉ ws) (e : s1.env[i0]? = some (.ow ys)) :
    ∃ a vs, σ[i0]? = some (some (.ref a)) ∧ H1 a = some (.lst vs) ∧ Reps T x1.io x1.G vs ys := by
  obtain ⟨a, vs, h1, h2, h3, _, _⟩ := k1.ow i0 ys (by show (wipeE s1.env ws)[i0]? = _; rw [wipeE_out hw]; exact e)
  exact ⟨a, vs, by rw [wipe_get hw] at h1; exact h1, h2, h3⟩
theorem tLc_own {σ : L2.St} {H : Hp} {Q : VK} {ws : List Nat} (hK : X.K = T.K) (hsl : ∀ j ∈ t.slots, j ∈ ws) (h : tF T W (mCompO i0 t mc m ws) σ H Q) : tLc (iList X.K (tVar i0)) (gD T t) (tB T W0 mc) (tD T W0 m) ws σ H Q := by
  obtain ⟨x0, s0, k0, h⟩ := h
  unfold mCompO at h
  by_cases hno : (noOw s0.env ws && !ws.contains i0) = true
  · rw [if_pos hno] at h
    obtain ⟨hno, hnot⟩ := Bool.and_eq_true_iff.mp hno
    have hw : i0 ∉ ws := by simpa using hnot
    cases ec : compLO i0 t mc m ws (ownLen s0 i0) 0 [] s0 with
    | none => rw [ec] at h; exact h.elim
    | some pr =>
      obtain ⟨accF, sF⟩ := pr
      rw [ec] at h
      simp only at h
      -- the list now
      obtain ⟨a, ea, vs0, ha0⟩ : ∃ a, σ[i0]? = some (some (.ref a)) ∧ ∃ vs0, H a = some (.lst vs0) := by
        have : ∃ ys, s0.env[i0]? = some (.ow ys) := by
          cases q : s0.env[i0]? with
          | none => cases n : ownLen s0 i0 <;> rw [n] at ec <;> unfold compLO at ec <;> rw [q] at ec <;> cases ec
          | some sl =>
            cases sl with
            | ow ys => exact ⟨ys, rfl⟩
            | _ => cases n : ownLen s0 i0 <;> rw [n] at ec <;> unfold compLO at ec <;> rw [q] at ec <;> cases ec
        obtain ⟨ys, q⟩ := this
        obtain ⟨a, vs, h1, h2, _⟩ := k0.ow i0 ys q
        exact ⟨a, h1, vs, h2⟩
      refine ⟨.ref a, ea, a, rfl, ⟨vs0, .inl (.inl ha0)⟩, ?_⟩
      intro L hL
      have gL0 : x0.G L = none := k0.bx.sub.none hL
      have uL0 : ¬ x0.U L := fun z => by
        obtain ⟨o, e⟩ := k0.bx.trk L z
        rw [hL] at e; cases e
      refine ⟨fun i mm H1 => ∃ (x1 : Gh) (s1 : Sx) (acc : List D) (vs : List V), Ok T x1 { s1 with env := wipeE s1.env ws } (wipe σ ws) H1 ∧ H1 L = some (.lst vs) ∧ Reps T x1.io x1.G vs acc ∧ ¬ x1.U L ∧ x1.G L = none ∧ Stp x0 H x1 H1 ∧
          compLO i0 t mc m ws mm i acc s1 = some (accF, sF), ⟨ownLen s0 i0, x0, s0, [], [], (k0.wiped ws).aside uL0 gL0 (.inl hL), upd_same, .nil, uL0, gL0, (Stp.refl x0 H).aside hL, ec⟩, ?_⟩
      rintro i mm H1 ⟨x1, s1, acc, vs, k1, hL1, r1, uL, gL, st1, c1⟩
      obtain ⟨ys, ey⟩ : ∃ ys, s1.env[i0]? = some (.ow ys) := by
        cases q : s1.env[i0]? with
        | none => cases mm <;> unfold compLO at c1 <;> rw [q] at c1 <;> cases c1
        | some sl =>
          cases sl with
          | ow ys => exact ⟨ys, rfl⟩
          | _ => cases mm <;> unfold compLO at c1 <;> rw [q] at c1 <;> cases c1
      obtain ⟨a', us, ea', ha, ra⟩ := own_at k1 hw ey
      rw [ea] at ea'
      cases ea'
      have lus := ra.length
      cases hd : ys[i]? with
      | none =>
        have hge : ys.length ≤ i := by
          by_cases q : i < ys.length
          · rw [List.getElem?_eq_getElem q] at hd; cases hd
          · omega
        refine .inl ⟨⟨us, .inl (.inl ha), by omega⟩, ?_⟩
        have c2 : some (acc, s1) = some (accF, sF) := by
          cases mm <;> unfold compLO at c1 <;> simp only [ey, hd] at c1 <;> exact c1
        cases c2
        have kr := k0.restore k1 st1 hno
        obtain ⟨k2, o2, s2⟩ := kr.take hL1 r1 uL gL
        exact h _ L H1 k2 (s2 x0 H st1 hL) o2
      | some d =>
        cases mm with
        | zero => unfold compLO at c1; simp only [ey, hd] at c1; cases c1
        | succ n =>
          unfold compLO at c1
          simp only [ey, hd] at c1
          have hlt : i < ys.length := (List.getElem?_eq_some_iff.mp hd).1
          obtain ⟨v, hv, rv⟩ := ra.get hd
          refine .inr ⟨⟨us, v, .inl (.inl ha), hv⟩, fun H2 => ∃ (x2 : Gh) (s2 : Sx) (acc : List D) (vs : List V), Ok T x2 { s2 with env := wipeE s2.env ws } (wipe σ ws) H2 ∧ H2 L = some (.lst vs) ∧ Reps T x2.io x2.G vs acc ∧ ¬ x2.U L ∧ x2.G L = none ∧ Stp x0 H x2 H2 ∧
            compLO i0 t mc m ws n (i + 1) acc s2 = some (accF, sF), fun H2 ⟨x2, s2, acc2, vs2, a1, a2, a3, a4, a5, a6, a7⟩ => ⟨n, Nat.lt_succ_self n, x2, s2, acc2, vs2, a1, a2, a3, a4, a5, a6, a7⟩, fun v' H2 hy => ?_⟩
          obtain ⟨rfl, hy2⟩ := hy
          have ev : v' = v := by
            have := hy2 us (.inl (.inl ha))
            rw [hv] at this
            exact (Option.some.inj this).symm
          subst ev
          cases e2 : t.run d { s1 with env := wipeE s1.env ws } with
          | none => rw [e2] at c1; cases c1
          | some s2 =>
            simp only [e2] at c1
            refine ⟨x1, _, s2, d, k1, rv, e2, fun σ2 k3 len2 f2 => ?_⟩
            have hw2 : wipe σ2 ws = wipe σ ws := by
              have z : wipe σ2 ws = wipe (wipe σ ws) ws := wipe_eq len2 fun j hj => f2 j fun q => hj (hsl j q)
              rw [z]
              exact wipe_eq (wipe_length _ _) fun j hj => wipe_get hj
            refine ⟨hw2, ⟨_, s2, k3, ?_⟩⟩
            have keepL : ∀ {y : Gh} {H3 : Hp}, Stp x1 H2 y H3 → H3 L = some (.lst vs) ∧ ¬ y.U L ∧ y.G L = none := fun {y H3} st => by
              refine ⟨st.fr L _ hL1 uL, fun z => ?_, ?_⟩
              · rcases st.un L z with q | q
                · exact uL q
                · rw [hL1] at q; cases q
              · cases e : y.G L with
                | none => rfl
                | some o =>
                  rcases st.new L o e with q | q | q
                  · rw [gL] at q; cases q
                  · exact absurd q uL
                  · rw [hL1] at q; cases q
            cases e3 : mc s2 with
            | exc c ns vs sto => rw [e3] at c1; cases c1
            | bad => rw [e3] at c1; cases c1
            | ok b s3 =>
              intro x3 H3 k4 st3
              cases b with
              | false =>
                rw [e3] at c1
                rw [if_neg Bool.false_ne_true]
                obtain ⟨a1, a2, a3⟩ := keepL st3
                have kw := k4.wiped ws
                rw [hw2] at kw
                exact ⟨x3, s3, acc, vs, kw, a1, r1.mono st3.io st3.le, a2, a3, st1.trans st3, c1⟩
              | true =>
                rw [e3] at c1
                rw [if_pos rfl]
                refine ⟨x3, s3, k4, ?_⟩
                cases e4 : m s3 with
                | exc c ns vs sto => simp only [e4] at c1; cases c1
                | bad => simp only [e4] at c1; cases c1
                | ok z s4 =>
                  simp only [e4] at c1
                  intro x4 u H4 k5 st4 r4
                  obtain ⟨a1, a2, a3⟩ := keepL (st3.trans st4)
                  by_cases hacc : acc.length < sizeLine
                  · rw [if_pos hacc] at c1
                    refine ⟨vs, a1, by rw [r1.length]; exact hacc, x4, s4, acc ++ [z], vs ++ [u], ?_, upd_same, (r1.mono (st3.trans st4).io (st3.trans st4).le).append (.one r4), a2, a3, (st1.trans (st3.trans st4)).aside hL, c1⟩
                    have kw := k5.wiped ws
                    rw [hw2] at kw
                    exact kw.aside a2 a3 (.inr ⟨_, a1⟩)
                  · rw [if_neg hacc] at c1; cases c1
  · rw [if_neg hno] at h; exact h.elim
variable {z : Str} {p2 : Pos}
theorem df_compO (hK : X.K = T.K) (hz : X.N[i0]? = some z) (hvis : Vis X.env.scope z) (hc : X.calm = true) (hN : X.N.Nodup) (ok : BlkOk X.N X.env.scope scope own) (hsl : ∀ j ∈ t.slots, j ∈ own.map (·.2))
    (hg : ∀ (s : Shared) (H : Hp) (C : Addr) (cl : List (Str × Addr)) (fp : List Addr), PG (X.blk s H scope (compEnvC scope cl C X.env) fp) tg (gD T t)) (ht : ∀ (s : Shared) (H : Hp) (C : Addr) (cl : List (Str × Addr)) (fp : List Addr), PTs (X.blk s H scope (compEnvC scope cl C X.env) fp) ifs (tB T W0 mc))
    (he : ∀ (s : Shared) (H : Hp) (C : Addr) (cl : List (Str × Addr)) (fp : List Addr), PE (X.blk s H scope (compEnvC scope cl C X.env) fp) elt (tD T W0 m)) (hs : ∀ x, foldedSetIterable (.Name z p2) X.env x = pure x := by intro _; rfl)
    (hd : (z == ("__debug__" : Str)) = false := by decide) (hcd : (z == ("__classdict__" : Str)) = false := by decide) :
    PE X (.ListComp elt [⟨tg, .Name z p2, ifs, 0⟩] scope pos) (tF T W (mCompO i0 t mc m (own.map (·.2)))) :=
  PE.imp (pe_lc hc hN (pi_list (pe_var (pos := p2) (i := i0) hz hvis hd hcd)) ok hg ht he hs) fun _ _ _ h => tLc_own hK hsl h
theorem ds_setCompO {i : Nat} {y : Str} {py spos : Pos} (hK : X.K = T.K) (hz : X.N[i0]? = some z) (hvis : Vis X.env.scope z) (hc : X.calm = true) (hN : X.N.Nodup) (hy : X.N[i]? = some y) (hyl : X.env.scope.names.lookup y = some .local)
    (hsw : swapsWith (.ListComp elt [⟨tg, .Name z p2, ifs, 0⟩] scope pos) (some (.Name y py)) spos.line X.env = pure true) (ok : BlkOk X.N X.env.scope scope own) (hsl : ∀ j ∈ t.slots, j ∈ own.map (·.2))
    (hg : ∀ (s : Shared) (H : Hp) (C : Addr) (cl : List (Str × Addr)) (fp : List Addr), PG (X.blk s H scope (compEnvC scope cl C X.env) fp) tg (gD T t)) (ht : ∀ (s : Shared) (H : Hp) (C : Addr) (cl : List (Str × Addr)) (fp : List Addr), PTs (X.blk s H scope (compEnvC scope cl C X.env) fp) ifs (tB T W0 mc))
    (he : ∀ (s : Shared) (H : Hp) (C : Addr) (cl : List (Str × Addr)) (fp : List Addr), PE (X.blk s H scope (compEnvC scope cl C X.env) fp) elt (tD T W0 m)) (hs : ∀ x, foldedSetIterable (.Name z p2) X.env x = pure x := by intro _; rfl)
    (hd : (z == ("__debug__" : Str)) = false := by decide) (hcd : (z == ("__classdict__" : Str)) = false := by decide) :
    PS X (.Assign [.Name y py] (.ListComp elt [⟨tg, .Name z p2, ifs, 0⟩] scope pos) spos) (tS T W (sOwn i (mCompO i0 t mc m (own.map (·.2))))) :=
  PS.imp (ps_setLc hc hN hy hyl hsw (pi_list (pe_var (pos := p2) (i := i0) hz hvis hd hcd)) ok hg ht he hs) fun E σ H ⟨x, s, k, h⟩ => tLc_own hK hsl (tF_s k h fun d s' x' v H' k' o f => f x' _ H' (k'.put_own i o) (.refl _ _))
end
end Ev
namespace Ev
open PySem PySem.Spec L2
theorem We.compOJ {E : XPost} {s : Sx} {Q : List D → Sx → Prop} {m : M D} {i0 j : Nat} {ys : List D} (J : List D → Sto → Prop) (h0 : s.env[i0]? = some (.ow ys)) (h1 : noOw s.env [j] = true) (hij : i0 ≠ j) (hj : j < s.env.length) (h2 : ys.length ≤ sizeLine) (h3 : J [] s.sto)
    (h4 : ∀ d acc sto, ys[acc.length]? = some d → J acc sto → We (m ⟨s.env.set j (.sh d), sto⟩) Xn fun z s2 => s2.env = s.env.set j (.sh d) ∧ J (acc ++ [z]) s2.sto)
    (h5 : ∀ acc sto, acc.length = ys.length → J acc sto → Q acc ⟨s.env, sto⟩) : We (mCompO i0 (tgN j) (M.pure true) m [j] s) E Q := by
  have at_ : ∀ s' : Sx, s'.env.set j .un = s.env.set j .un → s'.env[i0]? = some (.ow ys) := fun s' e => by
    have : (s'.env.set j .un)[i0]? = (s.env.set j .un)[i0]? := by rw [e]
    rw [List.getElem?_set_ne (Ne.symm hij), List.getElem?_set_ne (Ne.symm hij)] at this
    rw [this, h0]
  have go : ∀ n acc (s' : Sx), n + acc.length = ys.length → s'.env.set j .un = s.env.set j .un → J acc s'.sto →
      ∃ acc' s'', compLO i0 (tgN j) (M.pure true) m [j] n acc.length acc s' = some (acc', s'') ∧ s''.env.set j .un = s.env.set j .un ∧ acc'.length = ys.length ∧ J acc' s''.sto := by
    intro n
    induction n with
    | zero =>
      intro acc s' e1 e2 e3
      refine ⟨acc, s', ?_, e2, by omega, e3⟩
      unfold compLO
      rw [at_ s' e2]
      simp only [List.getElem?_eq_none (show ys.length ≤ acc.length by omega)]
    | succ n ih =>
      intro acc s' e1 e2 e3
      have hlt : acc.length < ys.length := by omega
      have hd := List.getElem?_eq_getElem hlt
      have en : ({ s' with env := wipeE s'.env [j] } : Sx).put j ys[acc.length] = ⟨s.env.set j (.sh ys[acc.length]), s'.sto⟩ := by
        show (⟨(s'.env.set j .un).set j (.sh _), s'.sto⟩ : Sx) = _
        rw [e2, List.set_set]
      have w := h4 _ acc s'.sto hd e3
      rw [← en] at w
      unfold compLO
      rw [at_ s' e2]
      simp only [hd]
      show ∃ acc' s'', (match (some (({ s' with env := wipeE s'.env [j] } : Sx).put j ys[acc.length])) with
        | none => none
        | some s1 => match (M.pure true : M Bool) s1 with
          | .ok true s2 => match m s2 with
            | .ok z s3 => if acc.length < sizeLine then compLO i0 (tgN j) (M.pure true) m [j] n (acc.length + 1) (acc ++ [z]) s3 else none
            | _ => none
          | .ok false s2 => compLO i0 (tgN j) (M.pure true) m [j] n (acc.length + 1) acc s2
          | _ => none) = some (acc', s'') ∧ _
      simp only [M.pure]
      cases e4 : m (({ s' with env := wipeE s'.env [j] } : Sx).put j ys[acc.length]) with
      | exc => rw [e4] at w; exact w.elim
      | bad => rw [e4] at w; exact w.elim
      | ok z s3 =>
        rw [e4] at w
        simp only [if_pos (show acc.length < sizeLine by omega)]
        obtain ⟨b1, b2⟩ := w
        have := ih (acc ++ [z]) s3 (by simp; omega) (by rw [b1, List.set_set]) b2
        rw [List.length_append, List.length_singleton] at this
        exact this
  have hol : ownLen s i0 = ys.length := by unfold ownLen; rw [h0]
  obtain ⟨acc, s'', e, e1, e2, e3⟩ := go ys.length [] s (by simp) rfl h3
  have e : compLO i0 (tgN j) (M.pure true) m [j] ys.length 0 [] s = some (acc, s'') := e
  have w := h5 acc s''.sto e2 e3
  have en : rest_ s.env s''.env [j] = s.env := by
    obtain ⟨x, hx⟩ : ∃ x, s.env[j]? = some x := ⟨_, List.getElem?_eq_getElem hj⟩
    show (match s.env[j]? with
      | some x => s''.env.set j x
      | none => s''.env) = _
    rw [hx]
    have z : (s''.env.set j .un).set j x = (s.env.set j .un).set j x := by rw [e1]
    rw [List.set_set, List.set_set] at z
    show s''.env.set j x = s.env
    rw [z]
    refine List.ext_getElem? fun i => ?_
    by_cases hi : j = i
    · subst hi; rw [List.getElem?_set_self hj, hx]
    · rw [List.getElem?_set_ne hi]
  unfold mCompO
  rw [if_pos (by simp only [h1, Bool.true_and]; simp [hij])]
  rw [hol, e]
  show Q acc { env := rest_ s.env s''.env [j], sto := s''.sto }
  rw [en]
  exact w
end Ev

/-! E19: raising an own error whose __init__ keeps one field. -/
namespace Ev
open PySem PySem.Spec L2
/-- what such an __init__ does -/
def spI (C : Addr) (f : Str) : Sp := fun vs H Q _ => ∃ (a : Addr) (v : V), vs = [.ref a, v] ∧ H a = some (exo a C none) ∧ ∀ dx, H dx = none → dx ≠ a → Q .non (upd (upd H dx (exd dx [(f, v)])) a (exo a C (some dx)))
theorem init1_ok {P : Program} {w : World} {K : PySem.W.Frag} {mg : Str → Option Value} {base : Heap} {C fI : Addr} {fd : FuncData} {x qual f y : Str} {params : Arguments} {scope : Scope} {p1 p2 p3 p4 : Pos}
    (F : FunD K x qual params [.Assign [.Attribute (.Name "self" p1) f p2] (.Name y p3) p4] scope [] [] fI fd) (S : FnScope ["self", y] ["self", y] scope) (T : OexC K C) (hno : PySem.W.findIn K (.ref C) f = some none)
    (ls : scope.names.lookup ("self" : Str) = some .local) (ly : scope.names.lookup y = some .local) (hd : (y == ("__debug__" : Str)) = false := by decide) (hcd : (y == ("__classdict__" : Str)) = false := by decide) : FnOk P w K mg base CX0 1 fI fd ["self", y] (spI C f) := by
  refine F.ok S (fun vs H Q E ⟨a, v, e, _⟩ => by rw [e]; rfl) fun cdv A outer s H vs Q E hr h => ⟨tOst K f (tVar 0) (tVar 1), ?_, ?_⟩
  · exact pss_one (ps_ost (pe_var (i := 0) rfl (.inl ls)) (pe_var (i := 1) rfl (.inl ly) hd hcd))
  · obtain ⟨a, v, rfl, ha, q⟩ := h
    exact ⟨v, rfl, .ref a, rfl, a, C, rfl, T, hno, .inl ⟨ha, fun dx h1 h2 => q dx h1 h2⟩⟩
def sRaise (x f : Str) (m : M D) : MS := sBind m fun d s => .exc x [f] [d] s.sto
section
variable {T : Tx} {W : WX} {X : Cx} {e : Expr} {ma : M D} {x f y : Str} {C fI : Addr} {fd : FuncData} {p pos pos2 : Pos}
theorem ds_raise1 (hca : T.ca x = C) (ok : OexC X.K C) (iC : PySem.W.findIn X.K (.ref C) "__init__" = some (some (.ref fI))) (tI : PySem.W.typeIn X.K (.ref fI) = some (.type "function")) (F1 : FnOk X.prog X.w X.K X.mg X.base CX0 1 fI fd ["self", y] (spI C f)) (hr : Room 2 X.A)
    (hb : Binds X.K fd ["self", y] []) (tk : Takes X W) (hc : X.calm = true) (hg : Gl X x) (hm : X.mg x = some (.ref C)) (he : PE X e (tD T W ma)) (hdb : (x == ("__debug__" : Str)) = false := by decide)
    (hse : starEach [e] X.env = (false, eval e X.env) :: starEach [] X.env := by rfl) (hpl : (backTo pos (starEach [] X.env)).any (·.1) = false := by rfl) :
    PS X (.Raise (some (.Call (.Name x p) [e] [] pos)) none pos2) (tS T W (sRaise x f ma)) :=
  PS.imp (ps_raise hc tk (pmk_oex (dvs := []) (ds := []) ok iC tI F1 hr hb .nil (fun _ _ _ _ _ _ _ h => h.elim) hg hm (pa_cons he pa_nil hse) hdb hse hpl)) fun E σ H ⟨x0, s, k, h⟩ => tD_s k h fun d s' x' v H' k' st r q => by
    refine ⟨by show 1 ≤ 1000; decide, fun a ha => ⟨a, v, rfl, upd_same, fun dx hdx hne => ⟨rfl, dx, [(f, v)], upd_same, by rw [upd_ne hne, upd_same], by rw [upd_ne hne] at hdx; exact hdx, ?_⟩⟩⟩
    rw [upd_ne hne] at hdx
    have nU : ¬ x'.U dx := fun u => by
      obtain ⟨o, z⟩ := k'.bx.trk dx u
      rw [hdx] at z; cases z
    have nG : x'.G dx = none := k'.bx.sub.none hdx
    have eh : upd (del (upd (upd (upd H' a (exo a C none)) dx (exd dx [(f, v)])) a (exo a C (some dx))) a) dx (.xd [(f, v)]) = upd H' dx (.xd [(f, v)]) := by
      funext b
      by_cases h1 : b = dx
      · subst h1; rw [upd_same, upd_same]
      · rw [upd_ne h1, upd_ne h1]
        by_cases h2 : b = a
        · subst h2; rw [del_same, ha]
        · rw [del_ne h2, upd_ne h2, upd_ne h1, upd_ne h2]
    rw [eh]
    have kk := k'.aside (o := .xd [(f, v)]) nU nG (.inl hdx)
    have z := q σ x' dx [v] _ kk.bx ((Stp.refl x' H').aside hdx) ⟨upd_same, rfl, .one r, hdx, nU, nG⟩
    rw [hca] at z
    exact z
end
end Ev

/-! E20: a caught error that is kept in a name behind the clause. -/
namespace Ev
open PySem PySem.Spec L2
theorem xo_ok {P : Program} {w : World} {H : Hp} {h : Heap} {a dd : Addr} {cls : Value} {oe : Obj} {vs : Array Value} (e : h.get? a = some oe) (z : Zc cls (some dd) oe) (d : oe.data = .fields vs) : ObjOk P w H h a (xo a cls dd) :=
  ⟨⟨oe, vs, e, z, d⟩, ⟨oe, e⟩, fun _ _ ⟨o, v, q, r⟩ k => ⟨o, v, k o q, r⟩⟩
section
variable {X : Cx} {pins : List (Addr × Obj)} {σ : L2.St} {H : Hp} {s : Shared}
theorem take_exc {a dd : Addr} {oe : Obj} {vs : Array Value} {cls : Value} (I : Inv X ((a, oe) :: pins) σ H s) (hz : Zc cls (some dd) oe) (hd : oe.data = .fields vs) (n0 : X.s_0.heap.get? a = none) (hp : ∀ p ∈ X.pn ++ pins, p.1 ≠ a) : Inv X pins σ (upd H a (xo a cls dd)) s := by
  obtain ⟨ha, na, nl, nf, nc⟩ := I.pin (a, oe) (List.mem_append_right _ List.mem_cons_self)
  have ha : s.heap.get? a = some oe := ha
  have na : H a = none := na
  have nl : a ≠ X.env.locals := nl
  refine ⟨I.ok, I.os, I.bare, ⟨I.base.keep, I.base.slot, fun b o e n hx => ?_, I.base.there, fun b xs e => ?_, fun b o u e => ?_, fun b ps e => ?_⟩, I.loc, I.cell, ?_, fun y c e => ?_, fun p h => ?_, fun b o e => ?_, I.len⟩
  · rw [upd_ne (fun z => by rw [z, n0] at e; cases e)]; exact I.base.free b o e n hx
  · rw [upd_ne (ne_of_none (I.base.tups b xs e) na)]; exact I.base.tups b xs e
  · rw [upd_ne (ne_of_none (I.base.frzs b o u e) na)]; exact I.base.frzs b o u e
  · obtain ⟨more, z⟩ := I.base.tbls b ps e
    exact ⟨more, by rw [upd_ne (ne_of_none z na)]; exact z⟩
  · rw [upd_ne (Ne.symm nl)]; exact I.free
  · rw [upd_ne ?_]
    · exact I.freeC y c e
    · intro z
      subst z
      obtain ⟨v, o, e1, e2⟩ := I.cell y c e
      rw [ha] at e1
      cases e1
      exact nc _ (by first | exact e2.2 | exact e2 | exact e2.1)
  · obtain ⟨h1, h2, h3⟩ := I.pin p (by
      rcases List.mem_append.mp h with q | q
      · exact List.mem_append_left _ q
      · exact List.mem_append_right _ (List.mem_cons_of_mem _ q))
    exact ⟨h1, by rw [upd_ne (hp p h)]; exact h2, h3⟩
  · by_cases hb : b = a
    · subst hb
      rw [upd_same] at e
      cases e
      exact xo_ok ha hz hd
    · rw [upd_ne hb] at e
      exact (I.hok b o e).stay (fun c v _ q => q) (fun c q => by rw [upd_ne (ne_of_none q na)]; exact q) fun c xs q => by rw [upd_ne (ne_of_none q na)]; exact q
end
/-- what the clause 'except x as n: y = n' wishes: slot i is n's, slot j is y's -/
def wKeep (K : PySem.W.Frag) (c : Value) (i j : Nat) (Wout : WX) (D : Ends) : WX := fun cls d σ H =>
  ∃ b, PySem.W.exmOne K cls c = some b ∧ (b = true → ∃ dd, d = some dd ∧ ∀ a, H a = none → D.nx (((σ.set i (some (.ref a))).set j (some (.ref a))).set i none) (upd H a (xo a cls dd))) ∧ (b = false → Wout cls d σ H)
section
variable {X : Cx} {x n y : Str} {c : Value} {i j : Nat} {body : List Stmt} {np pos pos' py pn0 ap : Pos} {tb : WX → TS} {Wout : WX}
theorem ps_try_keep (hs : X.stack = X.env :: X.outer) (hf : X.env.frame = some X.env.locals) (hN : X.N.Nodup) (hi : X.N[i]? = some n) (hln : X.env.kindOf n = some .local) (hj : X.N[j]? = some y) (hly : X.env.kindOf y = some .local) (hlv : X.env.scope.names.lookup y = some .local) (hnv : X.env.scope.names.lookup n = some .local) (hij : i ≠ j) (hx : X.ex = []) (hc : Names X x c) (tk : Takes X Wout)
    (hb : ∀ (W : WX) (pn : List (Addr × Obj)) (xe : Value → Shared → Prop), Takes (X.tr pn xe) W → PassesOwn (model X.prog X.w) X.A X.env xe → PSs (X.tr pn xe) body (tb W))
    (hsw : ∀ (a : Addr) (pn : List (Addr × Obj)), swapsWith (.Name n pn0) (some (.Name y py)) ap.line (X.suite a pn).env = pure false) (hd : (n == ("__debug__" : Str)) = false := by decide) (hcd : (n == ("__classdict__" : Str)) = false := by decide) :
    PS X (.Try body [.ExceptHandler (some (.Name x np)) (some n) [.Assign [.Name y py] (.Name n pn0) ap] pos'] [] [] pos) (fun D σ H => tb (wKeep X.K c i j Wout D) D σ H) := by
  refine ⟨fun pins s σ H D I h => ?_⟩
  have ok := I.ok
  have hfr : X.A.frames = some (X.env :: X.outer) := by rw [ok.frames, hs]
  have hloc : Loc X.env.scope n := .inl hnv
  refine wpAny_Try_except ?_
  refine wpAny_mono ((hb (wKeep X.K c i j Wout D) (X.pn ++ pins) (fun e s₁ => wpAny (model X.prog X.w) X.A (noteFrame e X.env) (fun _ s₂ => wpAny (model X.prog X.w) X.A (setFlight e none) (fun _ s₃ =>
    wpAny (model X.prog X.w) X.A (handleBy e X.env [.ExceptHandler (some (.Name x np)) (some n) [.Assign [.Name y py] (.Name n pn0) ap] pos']) (SP X pins D) X.xe s₃) X.xe s₂) X.xe s₁) (fun u s' xx => ?_) PassesOwn.looking).run [] s σ H D (I.toTry _) h) (fun f s1 hsp => ?_) (fun e s1 he => he)
  · obtain ⟨a, B, sI, pins', σ', H', cls, d, rfl, J', nb, up, sky, na, os, ag, b, hb1, hyes, hno⟩ := xx
    have J : Inv X pins σ' H' sI := J'.ofTry ok
    have sky' : Sky B (X.env :: X.outer) a (Zc cls d) X.env.locals s'.heap := by rw [← hs]; exact sky
    show wpAny (model X.prog X.w) X.A (noteFrame (.ref a) X.env) _ _ _
    refine Sky.land Zc.steady hfr hf sky' fun h3 fl3 up3 => ?_
    have J3 : Inv X pins σ' H' { s' with heap := h3 } := J.landed nb fl3.1 (up.trans up3) os ag
    obtain ⟨oe3, vs3, he3, hz3, hd3⟩ := fl3.there
    have notFr : ∀ {h : Heap} {o : Obj} {vs : Array Value}, h.FunFrames B (X.env :: X.outer) → h.get? a = some o → o.data = .fields vs → a ∉ frs (X.env :: X.outer) := fun {h o vs} ff e dd hm => by
      obtain ⟨_, o', e', hnf⟩ := ff.mem hm
      rw [e] at e'; cases e'
      exact hnf _ dd
    have nfr := notFr fl3.2.2.1 he3 hd3
    have nL : a ≠ X.env.locals := fun z => nfr (List.mem_filterMap.mpr ⟨X.env, List.mem_cons_self, by rw [hf, z]⟩)
    have nF : a ∉ X.fs := fun hm => by
      obtain ⟨e, he, q⟩ := List.mem_filterMap.mp hm
      exact nfr (List.mem_filterMap.mpr ⟨e, List.mem_cons_of_mem _ he, q⟩)
    have nI : sI.heap.get? a = none := by
      cases q : sI.heap.get? a with
      | none => rfl
      | some o =>
        have := nb a o q (by rw [hs]; exact nfr)
        rw [fl3.2.1] at this
        cases this
    have n0 : X.s_0.heap.get? a = none := by
      cases q : X.s_0.heap.get? a with
      | none => rfl
      | some o =>
        obtain ⟨o', z⟩ := J.base.there a o q (by rw [hx]; simp)
        rw [nI] at z
        cases z
    have npin : ∀ p ∈ X.pn ++ pins, p.1 ≠ a := fun p hp z => by
      have := (J.pin p hp).1
      rw [z, nI] at this
      cases this
    have S3 := J3.suite he3 hd3 na nL nF
    refine wpAny_handleBy_cons (codeAny_handlers_test ?_) (by intro q; cases q)
    have LT : PySem.W.Looks (model X.prog X.w) h3 (typeOf (.ref a)) cls := fun A Q E s k q => wpAny_typeOf_ref (k _ _ he3) (by rw [hz3.1]; exact q)
    have LM := PySem.W.exm_one (M := model X.prog X.w) (J3.kIn) LT hb1
    have test : ∀ {Q : Value → Shared → Prop} {E : Value → Shared → Prop}, Q c { s' with heap := h3 } → wpAny (model X.prog X.w) (X.A.mark (some (.ref a))) (eval (.Name x np) X.env) Q E { s' with heap := h3 } := fun {Q E} q => by
      obtain ⟨hg, hdbg, hm | ⟨hm, hv, hnn⟩⟩ := hc
      · exact ld_glob (X := X.suite a ((a, oe3) :: (X.pn ++ pins))) S3 hg hm q hdbg
      · exact ld_blt (X := X.suite a ((a, oe3) :: (X.pn ++ pins))) S3 hg hm hv q hnn hdbg
    refine test (LM.here ?_)
    cases b with
    | true =>
      obtain ⟨dd, rfl, hgo⟩ := hyes rfl
      refine codeAny_handlers_suite_as ?_
      refine HandSPX.lands_againZ fl3 fun h4 fl4 up4 => ?_
      have J4 : Inv X pins σ' H' { s' with heap := h4 } := J.landed nb fl4.1 ((up.trans up3).trans up4) os ag
      obtain ⟨oe4, vs4, he4, hz4, hd4⟩ := fl4.there
      have S4 := J4.suite he4 hd4 na nL nF
      refine store_ok (X := X.suite a ((a, oe4) :: (X.pn ++ pins))) (v := .ref a) S4 hN hi hloc rfl (fun s5 S5 => ?_) (.inr hnv)
      have il : i < σ'.length := by rw [J4.len]; exact (List.getElem?_eq_some_iff.mp hi).1
      have hset := pss_one (ps_set (X := X.suite a ((a, oe4) :: (X.pn ++ pins))) (pos := ap) (pos' := py) hN hj (.inl hlv) (pe_var (pos := pn0) (i := i) hi (.inl hnv) hd hcd) (hsw a _) (.inr hlv))
      refine wpAny_mono (hset.run [] s5 _ H' ⟨fun σ6 H6 => σ6 = (σ'.set i (some (.ref a))).set j (some (.ref a)) ∧ H6 = H', fun _ _ => False, fun _ _ => False, fun _ _ => False⟩ S5 ⟨.ref a, List.getElem?_set_self il, rfl, rfl⟩) (fun f s6 hsp => ?_) (fun _ _ z => False.elim z)
      cases f with
      | next =>
        obtain ⟨σ6, H6, S6, rfl, rfl⟩ := hsp
        have I6 : Inv X ((a, oe4) :: pins) ((σ'.set i (some (.ref a))).set j (some (.ref a))) H6 s6 := ⟨ok, S6.os, S6.bare, S6.base, S6.loc, S6.cell, S6.free, S6.freeC, fun p hp => S6.pin p (by
          rw [List.append_nil]
          show p ∈ (a, oe4) :: (X.pn ++ pins)
          rcases List.mem_append.mp hp with q | q
          · exact List.mem_cons_of_mem _ (List.mem_append_left _ q)
          · rcases List.mem_cons.mp q with q | q
            · rw [q]; exact List.mem_cons_self
            · exact List.mem_cons_of_mem _ (List.mem_append_right _ q)), S6.hok, S6.len⟩
        exact gone_ok I6 hN hi hln fun s7 I7 => ⟨_, _, take_exc I7 hz4 hd4 n0 npin, hgo a na⟩
      | brk =>
        obtain ⟨σ6, H6, S6, q6⟩ := hsp
        exact q6.elim
      | cont =>
        obtain ⟨σ6, H6, S6, q6⟩ := hsp
        exact q6.elim
      | ret u =>
        obtain ⟨v6, σ6, H6, S6, r6, q6⟩ := hsp
        exact q6.elim
    | false =>
      show wpAny _ X.A (handleBy (.ref a) X.env []) _ _ _
      refine wpAny_handleBy_nil ?_
      obtain ⟨k1, k2, k3, oe, vs, T, oT, ts', he, hz, hd, h1, hr⟩ := id fl3
      unfold PySem.passOn
      refine wpAny_bind (wpAny_field he hd h1 ?_)
      rw [if_neg (show ¬ ((Value.ref T == Value.none) = true) from by simp)]
      have fin : wpAny (model X.prog X.w) X.A (setFlight (.ref a) X.env.frame) (fun _ s4 => wpAny (model X.prog X.w) X.A (throw (.ref a) : Sem Flow) (SP X pins D) X.xe s4) X.xe { s' with heap := h3 } := by
        rw [hf]
        refine HandSPX.setFlight_upZ fl3 fun h4 hh4 up4 => wpAny_throw (tk _ _ ?_)
        exact ⟨a, B, sI, pins, σ', H', cls, d, rfl, J, nb, (up.trans up3).trans up4, .inr (.inr (by rw [hs]; exact hh4)), na, os, ag, hno rfl⟩
      first
        | exact wpAny_bind (wpAny_pure (wpAny_bind fin))
        | exact wpAny_bind fin
  · cases f with
    | next =>
      obtain ⟨σ', H', J', q⟩ := hsp
      exact wpAny_execs_nil ⟨σ', H', J'.ofTry ok, q⟩
    | brk =>
      obtain ⟨σ', H', J', q⟩ := hsp
      exact ⟨σ', H', J'.ofTry ok, q⟩
    | cont =>
      obtain ⟨σ', H', J', q⟩ := hsp
      exact ⟨σ', H', J'.ofTry ok, q⟩
    | ret u =>
      obtain ⟨v, σ', H', J', r, q⟩ := hsp
      exact ⟨v, σ', H', J'.ofTry ok, r, q⟩
end
end Ev

/-! E21: a kept error: its fields, isinstance of own classes. -/
namespace Ev
open PySem PySem.Spec L2
section
variable {X : Cx} {pins : List (Addr × Obj)} {σ : L2.St} {H : Hp} {s : Shared}
/-- the kept error as an instance -/
theorem xo_inst {a D dd : Addr} {fs : List (Str × V)} (I : Inv X pins σ H s) (ea : H a = some (xo a (.ref D) dd)) (ed : H dd = some (.xd fs)) :
    ∃ (oe od : Obj) (mA : Str → Option Value), PySem.W.InstAt s.heap a oe D (some od) ∧ (∀ n, PySem.W.lookIn n od = some (mA n)) ∧ ∀ f, RelO (fs.lookup f) (mA f) := by
  obtain ⟨⟨oe, vs, ha, hz, hd⟩, _⟩ := I.hok a _ ea
  obtain ⟨mA, hns, hr⟩ := (show ObjOk X.prog X.w H s.heap dd (.xd fs) from I.hok dd _ ed)
  obtain ⟨od, ho, hl⟩ := lookIn_ns hns
  exact ⟨oe, od, mA, ⟨ha, hz.1, by unfold PySem.W.notCls; rw [hd] <;> rfl, by rw [hz.2]; exact ho⟩, hl, hr⟩
end
/-- e.n of a kept error -/
def tXo (K : PySem.W.Frag) (n : Str) (te : TE) : TE := fun σ H Q => te σ H fun x H1 => ∃ (a D dd : Addr) (fs : List (Str × V)) (v : V), x = .ref a ∧ XfC K D ∧ PySem.W.findIn K (.ref D) n = some none ∧ H1 a = some (xo a (.ref D) dd) ∧ H1 dd = some (.xd fs) ∧ fs.lookup n = some v ∧ Q v H1
theorem pe_xo {X : Cx} {e : Expr} {te : TE} {n : Str} {pos : Pos} (he : PE X e te) (hb : attributeBase e n X.env (eval e X.env) = eval e X.env := by rfl) : PE X (.Attribute e n pos) (tXo X.K n te) := by
  refine ⟨fun pins s σ H Q I h => attr_of hb (thn (he.run pins s σ H _ I h) fun u s1 hh => ?_)⟩
  obtain ⟨x, H1, I1, rx, a, D, dd, fs, v, ex, xf, hno, ea, ed, l, q⟩ := hh
  subst ex
  cases (show u = Value.ref a from rx)
  obtain ⟨oe, od, mA, J, hl, hr⟩ := xo_inst I1 ea ed
  obtain ⟨u, hu, ru⟩ := RelO.some_of (v := v) (o := mA n) (by rw [← l]; exact hr n)
  exact PySem.HandSPX.exc_get I1.kIn J xf.ga xf.gg xf.exC (PySem.W.findObj_own xf.hdC hno rfl (by rw [hl, hu])) (handed_of ru) ⟨v, H1, I1.tok _, ru, q⟩
def gFld (cs : List Str) (n : Str) (d : D) : Option D := match d with
  | .ins c ns vs => if cs.contains c = true then lk ns vs n else none
  | _ => none
theorem lk_zip {T : Tx} {io : Io} {G : Hp} {n : Str} {d : D} : ∀ {ns : List Str} {us : List V} {vs : List D}, ns.length = us.length → Reps T io G us vs → lk ns vs n = some d → ∃ v, (ns.zip us).lookup n = some v ∧ Rep T io G v d
  | [], _, _, _, _, h => by cases h
  | k :: ns, u :: us, [], hl, r, h => by cases r
  | k :: ns, [], vs, hl, r, h => by simp at hl
  | k :: ns, u :: us, v :: vs, hl, r, h => by
    cases r with
    | cons r1 r2 =>
      unfold lk at h
      split at h
      · rename_i hn
        subst hn
        cases h
        exact ⟨u, by simp, r1⟩
      · rename_i hn
        obtain ⟨w, e, q⟩ := lk_zip (by simpa using hl) r2 h
        refine ⟨w, ?_, q⟩
        have : (n == k) = false := by simpa using hn
        show ((k, u) :: ns.zip us).lookup n = some w
        simp only [List.lookup, this]
        exact e
section
variable {T : Tx} {W : WX} {X : Cx} {e : Expr} {ma : M D} {pos : Pos} {cs : List Str} {n : Str}
theorem de_fld (hK : X.K = T.K) (hcs : ∀ c, cs.contains c = true → XfC T.K (T.ca c) ∧ PySem.W.findIn T.K (.ref (T.ca c)) n = some none) (he : PE X e (tD T W ma)) (hb : attributeBase e n X.env (eval e X.env) = eval e X.env := by rfl) :
    PE X (.Attribute e n pos) (tD T W (m1 (gFld cs n) ma)) :=
  PE.imp (pe_xo he hb) fun σ H Q h => by
    have h2 := t1 (r := fun x H1 Q => ∃ (a D dd : Addr) (fs : List (Str × V)) (v : V), x = .ref a ∧ XfC X.K D ∧ PySem.W.findIn X.K (.ref D) n = some none ∧ H1 a = some (xo a (.ref D) dd) ∧ H1 dd = some (.xd fs) ∧ fs.lookup n = some v ∧ Q v H1) (fun io G v d z H Q r le q k => by
      unfold gFld at q
      cases r <;> first | cases q | skip
      rename_i a dd c ns us vs ea ed hl rs
      simp only at q
      by_cases hc : cs.contains c = true
      · rw [if_pos hc] at q
        obtain ⟨v, e1, rv⟩ := lk_zip hl rs q
        obtain ⟨x1, x2⟩ := hcs c hc
        exact ⟨a, T.ca c, dd, ns.zip us, v, rfl, by rw [hK]; exact x1, by rw [hK]; exact x2, le _ _ ea, le _ _ ed, e1, k G v H (.refl le) rv⟩
      · rw [if_neg hc] at q; cases q) h
    exact h2
end
end Ev
namespace Ev
open PySem PySem.Spec L2
/-! ### isinstance(e, C) of a kept error, or none -/
def rIsX (K : PySem.W.Frag) : List V → Hp → VK → Prop := fun xs H Q => ∃ (a D dd : Addr) (fs : List (Str × V)) (c : V) (cv : Value) (b : Bool), xs = [.ref a, c] ∧ ClsV c cv ∧ XCls K D ∧ H a = some (xo a (.ref D) dd) ∧ H dd = some (.xd fs) ∧ PySem.W.kitOne K (.ref D) cv = some b ∧ Q (.bl b) H
theorem call_isX {X : Cx} : CallR X (.builtin "isinstance") (rIsX X.K) := by
  intro pins s σ H xs us Q I r h
  obtain ⟨a, D, dd, fs, c, cv, b, rfl, hcv, xc, ea, ed, e, q⟩ := h
  cases r with
  | cons rx rr =>
    cases rr with
    | cons rt rr =>
      cases rr
      cases rx
      have ec := hcv.eq rt
      subst ec
      obtain ⟨oe, od, mA, J, _, _⟩ := xo_inst I ea ed
      exact PySem.W.kia_one (PySem.W.kitx_exc xc.cl xc.f.ga xc.f.gg xc.f.exC xc.ha xc.hn xc.ht xc.hm) I.kIn J e (fun z => nomatch z) fun tk => ⟨.bl b, H, I.kept (t' := tk) fun _ _ z => z, rfl, q⟩
def gIsx (tbl : List (Str × Bool)) (d : D) : Option D := match d with
  | .non => some (.bl false)
  | .ins c _ _ => (tbl.lookup c).map .bl
  | _ => none
section
variable {T : Tx} {W : WX} {X : Cx} {e : Expr} {ma : M D} {pos p p2 : Pos} {tbl : List (Str × Bool)} {y : Str} {C : Addr}
theorem de_isx (hK : X.K = T.K) (hg : Gl X "isinstance") (hm : X.mg "isinstance" = none) (hgy : Gl X y) (hmy : X.mg y = some (.ref C)) (h0 : PySem.W.kitOne T.K (.type "NoneType") (.ref C) = some false)
    (ht : ∀ c b, tbl.lookup c = some b → XCls T.K (T.ca c) ∧ PySem.W.kitOne T.K (.ref (T.ca c)) (.ref C) = some b) (he : PE X e (tD T W ma)) (hdb : (y == ("__debug__" : Str)) = false := by decide)
    (hs : starEach [e, .Name y p2] X.env = (false, eval e X.env) :: starEach [.Name y p2] X.env := by rfl) (hs2 : starEach [.Name y p2] X.env = (false, eval (.Name y p2) X.env) :: starEach [] X.env := by rfl) (hpl : (backTo pos (starEach [.Name y p2] X.env)).any (·.1) = false := by rfl) :
    PE X (.Call (.Name "isinstance" p) [e, .Name y p2] [] pos) (tD T W (m1 (gIsx tbl) ma)) :=
  PE.imp (pe_callB (call_isi.or call_isX) hg hm boot_isi (pa_cons he (pa_cons (pe_glob (v := .ref C) hgy hmy rfl hdb) pa_nil hs2) hs) (he := hs) (hpl := hpl)) fun σ H Q h => by
    have h2 : tUn (fun x H Q => rIsi X.K [x, .ref C] H Q ∨ rIsX X.K [x, .ref C] H Q) (tD T W ma) σ H Q := t1 (fun io G v d z H Q r le q k => by
      rw [hK]
      unfold gIsx at q
      cases r <;> first | cases q; done | skip
      · cases q
        exact .inl ⟨.non, .ref C, .type "NoneType", .ref C, false, rfl, .own C, .base .non, h0, k G _ H (.refl le) (.bl _)⟩
      · rename_i a dd c ns us vs ea ed hl rs
        simp only at q
        cases e1 : tbl.lookup c with
        | none => rw [e1] at q; cases q
        | some b =>
          rw [e1] at q
          cases q
          obtain ⟨x1, x2⟩ := ht c b e1
          exact .inr ⟨a, T.ca c, dd, ns.zip us, .ref C, .ref C, b, rfl, .own C, x1, le _ _ ea, le _ _ ed, x2, k G _ H (.refl le) (.bl _)⟩) h
    exact h2
/-! ### try: e / except C as n: y = n -/
def noOwS (s : Sx) : Bool := s.env.all fun x => match x with
  | .ow _ => false
  | .od _ _ => false
  | _ => true
def sTry (subs : List (Str × Bool)) (i j : Nat) (m : M D) : MS := fun s => match m s with
  | .ok _ s' => .nx s'
  | .exc c ns vs sto => match subs.lookup c with
    | some true => if noOwS s = true then .nx { env := (s.env.set i .un).set j (.sh (.ins c ns vs)), sto := sto } else .bad
    | some false => .exc c ns vs sto
    | none => .bad
  | .bad => .bad
/-- the state where an error was caught -/
theorem Ok.caught {x x' : Gh} {s : Sx} {σ : L2.St} {H H' : Hp} {a dd : Addr} {c : Str} {ns : List Str} {us : List V} {vs : List D} {sto : List (List D)} {i j : Nat} (k : Ok T x s σ H) (hno : noOwS s = true) (b : Bx T x' sto H') (st : Stp x H x' H') (xd : XD T x' H H' dd ns us vs) (na : H' a = none) (hij : i ≠ j) :
    ∃ x2, Ok T x2 { env := (s.env.set i .un).set j (.sh (.ins c ns vs)), sto := sto } (((σ.set i (some (.ref a))).set j (some (.ref a))).set i none) (L2.upd H' a (xo a (.ref (T.ca c)) dd)) ∧ Stp x H x2 (L2.upd H' a (xo a (.ref (T.ca c)) dd)) := by
  have hne : a ≠ dd := fun z => by rw [z, xd.at_] at na; cases na
  -- the dict, the error are shared from now on
  have nUa : ¬ x'.U a := fun u => by
    obtain ⟨o, z⟩ := b.trk a u
    rw [na] at z; cases z
  have gA : x'.G a = none := b.sub.none na
  let G2 : Hp := L2.upd (L2.upd x'.G dd (.xd (ns.zip us))) a (xo a (.ref (T.ca c)) dd)
  have le1 : Le x'.G G2 := fun z o e => by
    have h1 : z ≠ dd := fun q => by rw [q, xd.ng] at e; cases e
    have h2 : z ≠ a := fun q => by rw [q, gA] at e; cases e
    show L2.upd _ a _ z = _
    rw [upd_ne h2, upd_ne h1]; exact e
  have sub : Le G2 (L2.upd H' a (xo a (.ref (T.ca c)) dd)) := fun z o e => by
    by_cases h2 : z = a
    · subst h2
      have e : L2.upd _ z _ z = some o := e
      rw [upd_same] at e ⊢; exact e
    · have e : L2.upd _ a _ z = some o := e
      rw [upd_ne h2] at e ⊢
      by_cases h1 : z = dd
      · subst h1; rw [upd_same] at e; rw [xd.at_]; exact e
      · rw [upd_ne h1] at e; exact b.sub _ _ e
  have up : Le H' (L2.upd H' a (xo a (.ref (T.ca c)) dd)) := .upd na
  have g2new : ∀ z o, G2 z = some o → x'.G z = some o ∨ z = dd ∨ z = a := fun z o e => by
    by_cases h2 : z = a
    · exact .inr (.inr h2)
    · by_cases h1 : z = dd
      · exact .inr (.inl h1)
      · have e : L2.upd _ a _ z = some o := e
        rw [upd_ne h2, upd_ne h1] at e; exact .inl e
  have haH : H a = none := st.th a na
  have thc : ∀ q : Nat, ((s.env.set i .un).set j (.sh (.ins c ns vs)))[q]? = some .th → (((σ.set i (some (.ref a))).set j (some (.ref a))).set i none)[q]? = some (some (.ref T.clo)) := fun q e => by
    by_cases hj : j = q
    · subst hj
      have hl : j < s.env.length := by simpa using (List.getElem?_eq_some_iff.mp e).1
      rw [List.getElem?_set_self (by simpa using hl)] at e
      cases e
    · rw [List.getElem?_set_ne hj] at e
      by_cases hi : i = q
      · subst hi
        have hl : i < s.env.length := by simpa using (List.getElem?_eq_some_iff.mp e).1
        rw [List.getElem?_set_self hl] at e
        cases e
      · rw [List.getElem?_set_ne hi] at e
        rw [List.getElem?_set_ne hi, List.getElem?_set_ne hj, List.getElem?_set_ne hi]
        exact k.th q e
  refine ⟨⟨x'.io, G2, x'.U⟩, ⟨⟨b.n, fun q xs e => ?_, b.inU, b.inj, sub, fun z o e u => ?_, fun z u => ?_, fun p hp => ⟨(b.tab p hp).1, (b.tab p hp).2.ext le1 up⟩, ⟨b.lo.1, b.lo.2.trans le1⟩⟩, by simpa using k.len, fun q d e => ?_, fun q xs e => ?_, fun q1 q2 xs ys z e1 => ?_, fun q e => thc q e, .non fun q ks ds e => (by
    have := List.all_eq_true.mp hno _ (List.mem_of_getElem? (set_od_un (set_od_sh e).2).2)
    cases this)⟩, ⟨st.io, st.le.trans le1, fun z o e u => up _ _ (st.fr z o e u), fun z o e => ?_, st.un, fun z e => ?_⟩⟩
  · obtain ⟨ws, h1, h2⟩ := b.at_ q xs e
    exact ⟨ws, up _ _ h1, h2.up le1⟩
  · rcases g2new z o e with h | h | h
    · exact b.off z o h u
    · subst h; exact xd.nu u
    · subst h; exact nUa u
  · obtain ⟨o, e⟩ := b.trk z u
    exact ⟨o, up _ _ e⟩
  · have e : ((s.env.set i .un).set j (.sh (.ins c ns vs)))[q]? = some (.sh d) := e
    by_cases hj : j = q
    · subst hj
      have hl : j < s.env.length := by simpa using (List.getElem?_eq_some_iff.mp e).1
      rw [List.getElem?_set_self (by simpa using hl)] at e
      cases e
      refine ⟨.ref a, ?_, .ins (G := G2) (dd := dd) ?_ ?_ xd.hl (xd.rs.up le1)⟩
      · rw [List.getElem?_set_ne hij, List.getElem?_set_self (by simpa [← k.len] using hl)]
      · show L2.upd _ a _ a = _; rw [upd_same]
      · show L2.upd _ a _ dd = _; rw [upd_ne (Ne.symm hne), upd_same]
    · rw [List.getElem?_set_ne hj] at e
      by_cases hi : i = q
      · subst hi
        have hl : i < s.env.length := by simpa using (List.getElem?_eq_some_iff.mp e).1
        rw [List.getElem?_set_self hl] at e
        cases e
      · rw [List.getElem?_set_ne hi] at e
        obtain ⟨v, h1, h2⟩ := k.sh q d e
        exact ⟨v, by rw [List.getElem?_set_ne hi, List.getElem?_set_ne hj, List.getElem?_set_ne hi]; exact h1, h2.mono st.io (st.le.trans le1)⟩
  all_goals first
    | (have e : ((s.env.set i .un).set j (.sh (.ins c ns vs)))[q]? = some (.ow xs) := e
       exfalso
       by_cases hj : j = q
       · subst hj
         have hl : j < s.env.length := by simpa using (List.getElem?_eq_some_iff.mp e).1
         rw [List.getElem?_set_self (by simpa using hl)] at e
         cases e
       · rw [List.getElem?_set_ne hj] at e
         by_cases hi : i = q
         · subst hi
           have hl : i < s.env.length := by simpa using (List.getElem?_eq_some_iff.mp e).1
           rw [List.getElem?_set_self hl] at e
           cases e
         · rw [List.getElem?_set_ne hi] at e
           have := List.all_eq_true.mp hno _ (List.mem_of_getElem? e)
           cases this)
    | skip
  · exfalso
    have e : ((s.env.set i .un).set j (.sh (.ins c ns vs)))[q1]? = some (.ow xs) := e1
    by_cases hj : j = q1
    · subst hj
      have hl : j < s.env.length := by simpa using (List.getElem?_eq_some_iff.mp e).1
      rw [List.getElem?_set_self (by simpa using hl)] at e
      cases e
    · rw [List.getElem?_set_ne hj] at e
      by_cases hi : i = q1
      · subst hi
        have hl : i < s.env.length := by simpa using (List.getElem?_eq_some_iff.mp e).1
        rw [List.getElem?_set_self hl] at e
        cases e
      · rw [List.getElem?_set_ne hi] at e
        have := List.all_eq_true.mp hno _ (List.mem_of_getElem? e)
        cases this
  · rcases g2new z o e with h | h | h
    · exact st.new z o h
    · subst h; exact .inr (.inr xd.new)
    · subst h; exact .inr (.inr haH)
  · refine st.th z ?_
    by_cases h : z = a
    · subst h; exact na
    · rwa [upd_ne h] at e
end
end Ev

/-! E22: try: e / except C as n: y = n, over data. -/
namespace Ev
open PySem PySem.Spec L2
section
variable {T : Tx} {W : WX} {X : Cx} {e : Expr} {m : M D} {x n y : Str} {C : Addr} {i j : Nat} {np pos pos' py pn0 ap ep : Pos} {subs : List (Str × Bool)}
theorem ds_try (hK : X.K = T.K) (hs : X.stack = X.env :: X.outer) (hf : X.env.frame = some X.env.locals) (hN : X.N.Nodup) (hi : X.N[i]? = some n) (hln : X.env.kindOf n = some .local) (hj : X.N[j]? = some y) (hly : X.env.kindOf y = some .local) (hlv : X.env.scope.names.lookup y = some .local) (hnv : X.env.scope.names.lookup n = some .local) (hij : i ≠ j) (hx : X.ex = [])
    (hg : Gl X x) (hdx : (x == ("__debug__" : Str)) = false) (hm : X.mg x = some (.ref C)) (tk : Takes X W) (hsub : ∀ c b, subs.lookup c = some b → PySem.W.exmOne T.K (.ref (T.ca c)) (.ref C) = some b)
    (hb : ∀ (W : WX) (pn : List (Addr × Obj)) (xe : Value → Shared → Prop), Takes (X.tr pn xe) W → PassesOwn (model X.prog X.w) X.A X.env xe → PE (X.tr pn xe) e (tD T W m))
    (hse : ∀ (pn : List (Addr × Obj)) (xe : Value → Shared → Prop), swapsWith e none ep.line (X.tr pn xe).env = pure false)
    (hsw : ∀ (a : Addr) (pn : List (Addr × Obj)), swapsWith (.Name n pn0) (some (.Name y py)) ap.line (X.suite a pn).env = pure false) (hd : (n == ("__debug__" : Str)) = false := by decide) (hcd : (n == ("__classdict__" : Str)) = false := by decide) :
    PS X (.Try [.Expr e ep] [.ExceptHandler (some (.Name x np)) (some n) [.Assign [.Name y py] (.Name n pn0) ap] pos'] [] [] pos) (tS T W (sTry subs i j m)) :=
  PS.imp (ps_try_keep (c := .ref C) (tb := fun W' D σ H => tD T W' m σ H fun _ H1 => D.nx σ H1) hs hf hN hi hln hj hly hlv hnv hij hx ⟨hg, hdx, .inl hm⟩ tk
    (fun W' pn xe tk' po => pss_one (ps_expr (hb W' pn xe tk' po) (hse pn xe))) hsw hd hcd) fun D σ H ⟨x0, s, k, h⟩ => by
    refine ⟨x0, s, k, ?_⟩
    unfold sTry at h
    cases em : m s with
    | ok d s' =>
      rw [em] at h
      exact fun x' v H' k' st _ => h x' σ H' k' st
    | bad => rw [em] at h; exact h
    | exc c ns vs sto =>
      rw [em] at h
      simp only at h
      intro x' dd us H' b st xd
      cases eb : subs.lookup c with
      | none => rw [eb] at h; exact h.elim
      | some bb =>
        rw [eb] at h
        refine ⟨bb, by rw [hK]; exact hsub c bb eb, fun hbt => ⟨dd, rfl, fun a na => ?_⟩, fun hbf => ?_⟩
        · subst hbt
          simp only at h
          by_cases hno : noOwS s = true
          · rw [if_pos hno] at h
            obtain ⟨x2, k2, st2⟩ := k.caught (c := c) (i := i) (j := j) hno b st xd na hij
            exact h x2 _ _ k2 st2
          · rw [if_neg hno] at h; exact h.elim
        · subst hbf
          exact h σ x' dd us H' b st xd
end
end Ev

/-! E23: a lambda is made: its function object, its code object in the maker's table, its defaults. -/
namespace Ev
open PySem PySem.Spec L2
abbrev lamFn (qual : Str) (params : Arguments) (body : Expr) (scope : Scope) (cl : List (Str × Addr)) (dV pm cdv ct : Value) : FuncData :=
  { name := "<lambda>", qualname := qual, params := params, body := .expr body, scope := scope, globals := mainGlobals, closure := cl, defaults := dV, kwdefaults := .none, doc := .none, pyModule := pm, annotations := none, code := cdv, closureTuple := ct, builtins := builtinsNs }
abbrev lamO (qual : Str) (params : Arguments) (body : Expr) (scope : Scope) (cl : List (Str × Addr)) (dV pm cdv ct : Value) : Obj :=
  { cls := .type "function", data := .func (lamFn qual params body scope cl dV pm cdv ct) }
section
variable {M : Model} {A : Around} {E : Value → Shared → Prop} {s : Shared} {qual : Str} {params : Arguments} {body : Expr} {scope : Scope} {env : Env} {c P : Addr} {ps : Array Value} {pos : Pos} {line : Nat} {mg : Str → Option Value} {clos : List (Str × Addr)} {dV : Value} {Q : Value → Shared → Prop}
theorem lam_tail (hcl : closureFor scope env = pure clos) (hge : env.globals = mainGlobals) (hg : s.heap.Ns mainGlobals mg) (hcode : env.code = .ref c) (C : PySem.W.CodeHd s.heap c P) (hP : s.heap.get? P = some (PySem.W.tabObj ps)) (ht : TriplesOk ps.toList) (hgP : mainGlobals ≠ P) (hb : s.heap.BuiltinsAt mg P)
    (h : ∀ (cv ctv : Value) (h' : Heap) (tk : Tok), Heap.ExtBut P s.heap h' → s.heap.objs.size ≤ h'.objs.size →
      ((codeAmong pos ps.toList = some cv ∧ ∀ b o, s.heap.get? b = some o → h'.get? b = some o) ∨ (codeAmong pos ps.toList = none ∧ ∃ c', cv = .ref c' ∧ s.heap.objs.size ≤ c' ∧ c' < h'.objs.size ∧ h'.CodeRec (.ref c') qual ∧ h'.get? P = some (PySem.W.tabObj (ps ++ #[rawInt pos.line, rawInt pos.col, .ref c'])))) →
      Q (.ref h'.objs.size) { s with heap := h'.push (lamO qual params body scope clos dV ((mg "__name__").getD .none) cv ctv), toks := tk }) :
    wpAny M A (makeTail "<lambda>" qual params (.expr body) scope env dV .none none pos line) Q E s := by
  unfold makeTail
  rw [hcl, hge]
  refine wpAny_bind (wpAny_pure ?_)
  have rest : ∀ (ctv : Value) (h1 : Heap), (∀ b o, s.heap.get? b = some o → h1.get? b = some o) → s.heap.objs.size ≤ h1.objs.size → wpAny M A (do
      let cd ← functionCode env pos line "<lambda>" qual params scope (.expr body)
      let bl ← builtinsFor mainGlobals env.builtins
      let nm ← nsGet mainGlobals "__name__"
      let dc ← (pure Value.none : Sem Value)
      newObj (.type "function") (.func { name := "<lambda>", qualname := qual, params := params, body := .expr body, scope := scope, globals := mainGlobals, closure := clos, defaults := dV, kwdefaults := .none, doc := dc, pyModule := nm.getD .none, annotations := none, code := cd, closureTuple := ctv, builtins := bl })) Q E { s with heap := h1 } := fun ctv h1 kp sz => by
    have C1 := C.keeps kp
    obtain ⟨bm, ob, b1, b2, b3, b4, b5, b6, b7, b8⟩ := hb
    cases hc : codeAmong pos ps.toList with
    | some cv =>
      refine wpAny_bind (wpAny_functionCode_hit hcode (C1.code (kp _ _ hP) ht) hc ?_)
      refine wpAny_bind (wpAny_builtinsFor (hg.keeps kp) b1 b2 (kp _ _ b5) b6 b7 b8 ?_)
      refine wpAny_bind (wpAny_nsGet (hg.keeps kp) ?_)
      exact wpAny_bind (wpAny_pure (wpAny_newObj_type (h cv ctv h1 _ (fun b o _ e => kp b o e) sz (.inl ⟨hc, kp⟩)) (by size_fits)))
    | none =>
      refine wpAny_bind (wpAny_functionCodeX hcode (C1.code (kp _ _ hP) ht) (C1.tab (kp _ _ hP)) hc fun c' h' tk hx hge' hlt _ hrec htb _ => ?_)
      have ext : Heap.ExtBut P s.heap h' := fun b o n e => hx b o n (kp b o e)
      have hg' := (hg.keeps kp).extBut hx hgP
      have z1 : s.heap.objs.size ≤ c' := Nat.le_trans sz hge'
      refine wpAny_bind (wpAny_builtinsFor hg' b1 b2 (ext _ _ b4 b5) b6 b7 b8 ?_)
      refine wpAny_bind (wpAny_nsGet hg' ?_)
      exact wpAny_bind (wpAny_pure (wpAny_newObj_type (h (.ref c') ctv h' tk ext (Nat.le_trans z1 (Nat.le_of_lt hlt)) (.inr ⟨hc, c', rfl, z1, hlt, hrec, htb.2⟩)) (by size_fits)))
  cases clos with
  | nil => exact wpAny_bind (wpAny_pure (rest .none s.heap (fun _ _ e => e) (Nat.le_refl _)))
  | cons q r => exact wpAny_bind (wpAny_newTextTuple (rest _ _ (fun b o e => Heap.get?_push_of_some _ e) (by rw [Heap.size_push]; exact Nat.le_succ _)))
end
/-- written defaults: constants -/
structure Dfl (X : Cx) (es : List Expr) (dvs : List V) : Prop where
  run : ∀ (pins : List (Addr × Obj)) (s : Shared) (σ : L2.St) (H : Hp) (Q : List Value → Shared → Prop), L2.Inv X pins σ H s → (∀ us s', Vals dvs us → L2.Inv X pins σ H s' → Q us s') → wpAny (model X.prog X.w) X.A (evalAll (evalEach es X.env)) Q X.xe s
section
variable {X : Cx}
theorem dfl_nil : Dfl X [] [] := ⟨fun pins s σ H Q I h => wpAny_pure (h [] s .nil I)⟩
theorem dfl_cons {e : Expr} {es : List Expr} {v : V} {dvs : List V} (he : PE X e (tC v)) (hr : Dfl X es dvs) : Dfl X (e :: es) (v :: dvs) := ⟨fun pins s σ H Q I h => by
  show wpAny _ _ (evalAll (eval e X.env :: evalEach es X.env)) _ _ _
  unfold evalAll
  refine wpAny_bind (thn (he.run pins s σ H (fun w H1 => w = v ∧ H1 = H) I ⟨rfl, rfl⟩) fun u s1 hh => ?_)
  obtain ⟨w, H1, I1, r, e1, e2⟩ := hh
  subst e1 e2
  exact wpAny_bind (wpAny_holding (hr.run pins s1 σ _ _ I1 fun us s2 rs I2 => wpAny_pure (h (u :: us) s2 (.cons r rs) I2)))⟩
end
/-- where a lambda's defaults stand -/
def DflAt (h : Heap) (H : Hp) (fs : List Addr) (dV : Value) (us : List Value) : Prop := (us = [] ∧ dV = .none) ∨ (us ≠ [] ∧ ∃ dt, dV = .ref dt ∧ h.get? dt = some { cls := .type "tuple", data := .seq us.toArray } ∧ H dt = none ∧ dt ∉ fs)
/-- nothing but tables has changed -/
theorem Ok.tabled {T : Tx} {x x1 : Gh} {s : Sx} {σ : L2.St} {H H1 : Hp} (k : Ok T x s σ H) (b : Bx T x1 s.sto H1) (io : x1.io = x.io) (le : Le x.G x1.G) (hu : ∀ a, x1.U a ↔ x.U a) (ex : LamX.ExtN H H1) : Ok T x1 s σ H1 where
  bx := b
  len := k.len
  sh := fun i d e => by
    obtain ⟨v, h, r⟩ := k.sh i d e
    exact ⟨v, h, by rw [io]; exact r.up le⟩
  ow := fun i xs e => by
    obtain ⟨a, vs, h1, h2, r, u, z⟩ := k.ow i xs e
    exact ⟨a, vs, h1, ex _ _ h2 (fun _ z => by cases z), by rw [io]; exact r.up le, (hu a).mpr u, by rw [io]; exact z⟩
  owi := k.owi
  th := k.th
  od := k.od.of (by rw [io]; exact .refl _) le (fun _ _ _ e => ⟨e, rfl⟩) fun a kvs e u => ⟨ex _ _ e (fun _ z => by cases z), (hu a).mpr u⟩
section
variable {T : Tx} {X : Cx} {pins : List (Addr × Obj)} {σ : L2.St} {H : Hp} {s : Shared} {x : Gh} {sto : List (List D)}
theorem lam_make {c P : Addr} {params : Arguments} {body : Expr} {scope : Scope} {pos : Pos} {es : List Expr} {dvs : List V} {Q : Value → Shared → Prop} (I : L2.Inv X pins σ H s) (b : Bx T x sto H) (TB : LamX.TabB X.base X.mg c P) (hcode : X.env.code = .ref c)
    (hm : (P, X.env.qual ++ "<lambda>") ∈ T.tb) (hu : ∀ p ∈ T.tb, p.1 = P → p.2 = X.env.qual ++ "<lambda>") (hdef : defaultsOf params X.env = (evalEach es X.env, [])) (dfl : Dfl X es dvs) (hfree : ∀ y ∈ scope.names, y.2 = .free → ∃ c, X.env.cells.lookup y.1 = some c)
    (h : ∀ (f c' : Addr) (dV pm ctv : Value) (us : List Value) (H1 : Hp) (s' : Shared) (x1 : Gh), L2.Inv X pins σ H1 s' → Bx T x1 sto H1 → Stp x H x1 H1 → x1.io = x.io → (∀ a, x1.U a ↔ x.U a) → LamX.ExtN H H1 →
      s'.heap.get? f = some (lamO (X.env.qual ++ "<lambda>") params body scope (cloFrom X.env.cells scope.names []) dV pm (.ref c') ctv) → H1 f = none → f ∉ frs X.stack → x1.G c' = some (LamX.CodeO c' (X.env.qual ++ "<lambda>")) → Vals dvs us → DflAt s'.heap H1 (frs X.stack) dV us → Q (.ref f) s') :
    wpAny (model X.prog X.w) X.A (eval (.Lambda params body scope pos) X.env) Q X.xe s := by
  rw [arm_eval_Lambda, hdef]
  show wpAny _ _ (do let dv ← evalAll (evalEach es X.env); let kdv ← holding dv (evalAllOpt []); makeFunction "<lambda>" (X.env.qual ++ "<lambda>") params (.expr body) scope X.env dv kdv [] pos pos.line) _ _ _
  refine wpAny_bind (dfl.run pins s σ H _ I fun us s0 rv I0 => wpAny_bind (wpAny_holding (wpAny_pure ?_)))
  rw [makeFunction_eq]
  simp only [List.zip_nil_right, List.filterMap_nil, List.isEmpty_nil, if_true, pure_bind]
  have nofr : ∀ {s1 : Shared} {H1 : Hp}, L2.Inv X pins σ H1 s1 → ∀ f, s1.heap.objs.size ≤ f → f ∉ frs X.stack := fun {s1 H1} J f hf z => by
    rcases List.mem_cons.mp (J.stkSub _ z) with e | e
    · have h1 := J.lt
      rw [← e] at h1
      exact Nat.lt_irrefl _ (Nat.lt_of_lt_of_le h1 hf)
    · exact J.nofs hf e
  suffices rest : ∀ (dV : Value) (s1 : Shared), L2.Inv X pins σ H s1 → DflAt s1.heap H (frs X.stack) dV us → wpAny (model X.prog X.w) X.A (makeTail "<lambda>" (X.env.qual ++ "<lambda>") params (.expr body) scope X.env dV .none none pos pos.line) Q X.xe s1 by
    cases us with
    | nil => exact rest .none s0 I0 (.inl ⟨rfl, rfl⟩)
    | cons u r => exact wpAny_bind (wpAny_newTextTuple (rest _ _ (I0.kept (t' := s0.toks) fun b o e => Heap.get?_push_of_some _ e) (.inr ⟨by simp, _, rfl, Heap.get?_push_size _ rfl, I0.hok.fresh (Nat.le_refl _), nofr I0 _ (Nat.le_refl _)⟩)))
  intro dV s1 I1 hdA
  obtain ⟨uP, ps, hP, ht, ha⟩ := b.tab _ hm
  have bP : s1.heap.BuiltinsAt X.mg P := TB.bm.keeps I1.bk
  have hP' : s1.heap.get? P = some (PySem.W.tabObj ps) := I1.hok P _ hP
  have dAfter : ∀ {h' : Heap} {H1 : Hp}, (∀ b o, b ≠ P → s1.heap.get? b = some o → h'.get? b = some o) → (∀ b o, s1.heap.get? b = some o → H b = none → H1 b = none) → DflAt h' H1 (frs X.stack) dV us := fun {h' H1} kp kn => by
    rcases hdA with z | ⟨n, dt, e1, e2, e3, e4⟩
    · exact .inl z
    · exact .inr ⟨n, dt, e1, kp _ _ (fun z => by rw [z] at e3; rw [e3] at hP; cases hP) e2, kn _ _ e2 e3, e4⟩
  refine lam_tail (mg := X.mg) (c := c) (P := P) (ps := ps) (closure_ok hfree) I1.ok.glob (I1.mod.glob.keeps I1.bk) hcode (TB.code.keeps I1.bk) hP' ht TB.gP bP fun cv ctv h' tk hx hsz hcase => ?_
  have fresh : ∀ f, s1.heap.objs.size ≤ f → H f = none := fun f hf => I1.hok.fresh hf
  rcases hcase with ⟨hc, kp⟩ | ⟨hc, c', rfl, hge, hlt, hrec, htb⟩
  · obtain ⟨c', rfl, hco⟩ := ha pos cv hc
    have I2 : L2.Inv X pins σ H { s1 with heap := h'.push (lamO (X.env.qual ++ "<lambda>") params body scope (cloFrom X.env.cells scope.names []) dV ((X.mg "__name__").getD .none) (.ref c') ctv), toks := tk } := I1.kept fun b o e => Heap.get?_push_of_some _ (kp b o e)
    exact h h'.objs.size c' dV _ ctv us H _ x I2 b (.refl _ _) rfl (fun _ => Iff.rfl) (.refl H) (Heap.get?_push_size _ rfl) (fresh _ hsz) (nofr I1 _ hsz) hco rv (dAfter (fun b o _ e => Heap.get?_push_of_some _ (kp b o e)) fun _ _ _ e => e)
  · obtain ⟨c2, oc, vs, t, e2, hoc, hd, hv⟩ := hrec
    cases e2
    have nC : H c' = none := fresh c' hge
    have nPc : P ≠ c' := ne_of_none hP nC
    have I2 := LamX.inv_table (t' := tk) (more := #[rawInt pos.line, rawInt pos.col, .ref c']) (q := X.env.qual ++ "<lambda>") (h' := h'.push (lamO (X.env.qual ++ "<lambda>") params body scope (cloFrom X.env.cells scope.names []) dV ((X.mg "__name__").getD .none) (.ref c') ctv)) I1 hP
      (fun b o hb e => Heap.get?_push_of_some _ (hx b o hb e)) (Heap.get?_push_of_some _ htb) hge ⟨oc, vs, t, Heap.get?_push_of_some _ hoc, hd, hv⟩
    obtain ⟨H1, eH⟩ : ∃ H1 : Hp, H1 = L2.upd (L2.upd H P (.tbl (ps ++ #[rawInt pos.line, rawInt pos.col, .ref c']))) c' (LamX.CodeO c' (X.env.qual ++ "<lambda>")) := ⟨_, rfl⟩
    rw [← eH] at I2
    have at_ : ∀ b, b ≠ P → b ≠ c' → H1 b = H b := fun b h1 h2 => by rw [eH, upd_ne h2, upd_ne h1]
    have atP : H1 P = some (.tbl (ps ++ #[rawInt pos.line, rawInt pos.col, .ref c'])) := by rw [eH, upd_ne nPc, upd_same]
    have atC : H1 c' = some (LamX.CodeO c' (X.env.qual ++ "<lambda>")) := by rw [eH, upd_same]
    have keep : ∀ a o, H a = some o → a ≠ P → H1 a = some o := fun a o e n => by rw [at_ a n (ne_of_none e nC)]; exact e
    have gC : x.G c' = none := b.sub.none nC
    have uC : ¬ x.U c' := fun z => by
      obtain ⟨o, e⟩ := b.trk c' z
      rw [nC] at e; cases e
    have leG : Le x.G (L2.upd x.G c' (LamX.CodeO c' (X.env.qual ++ "<lambda>"))) := .upd gC
    have gP : ∀ o, x.G P ≠ some o := fun o e => b.off P o e uP
    have eN : LamX.ExtN H H1 := fun a o e n => keep a o e fun z => by
      rw [z, hP] at e
      exact n ps (Option.some.inj e).symm
    have eL : (ps ++ #[rawInt pos.line, rawInt pos.col, .ref c']).toList = ps.toList ++ [rawInt pos.line, rawInt pos.col, .ref c'] := by simp
    have b1 : Bx T ⟨x.io, L2.upd x.G c' (LamX.CodeO c' (X.env.qual ++ "<lambda>")), x.U⟩ sto H1 := by
      refine ⟨b.n, fun i xs e => ?_, b.inU, b.inj, fun a o e => ?_, fun a o e u => ?_, fun a u => ?_, fun p hp => ⟨(b.tab p hp).1, ?_⟩, ⟨b.lo.1, b.lo.2.trans leG⟩⟩
      · obtain ⟨ws, e1, r⟩ := b.at_ i xs e
        exact ⟨ws, eN _ _ e1 (fun _ z => by cases z), r.up leG⟩
      · have e : L2.upd x.G c' _ a = some o := e
        by_cases ha : a = c'
        · subst ha; rw [upd_same] at e; cases e; exact atC
        · rw [upd_ne ha] at e
          exact keep a o (b.sub a o e) fun z => gP o (by rw [← z]; exact e)
      · have e : L2.upd x.G c' _ a = some o := e
        by_cases ha : a = c'
        · subst ha; exact uC u
        · rw [upd_ne ha] at e; exact b.off a o e u
      · by_cases ha : a = P
        · rw [ha]; exact ⟨_, atP⟩
        · obtain ⟨o, e⟩ := b.trk a u
          exact ⟨o, keep a o e ha⟩
      · by_cases hb : p.1 = P
        · rw [hu p hp hb, hb]
          refine ⟨_, atP, by rw [eL]; exact PySem.TriplesOk_snoc _ _ _ _ ht, fun p' cv hcv => ?_⟩
          rw [eL] at hcv
          rcases LamX.among_app _ ht hcv with z | z
          · obtain ⟨c0, e1, e2⟩ := ha p' cv z
            exact ⟨c0, e1, leG _ _ e2⟩
          · exact ⟨c', z, by show L2.upd x.G c' _ c' = _; rw [upd_same]⟩
        · obtain ⟨ps', a1, a2, a3⟩ := (b.tab p hp).2
          refine ⟨ps', keep _ _ a1 hb, a2, fun p' cv hcv => ?_⟩
          obtain ⟨c0, e1, e2⟩ := a3 p' cv hcv
          exact ⟨c0, e1, leG _ _ e2⟩
    have st : Stp x H ⟨x.io, L2.upd x.G c' (LamX.CodeO c' (X.env.qual ++ "<lambda>")), x.U⟩ H1 := by
      refine ⟨.refl _, leG, fun a o e n => keep a o e (fun z => n (by rw [z]; exact uP)), fun a o e => ?_, fun a u => .inl u, fun a e => ?_⟩
      · have e : L2.upd x.G c' _ a = some o := e
        by_cases ha : a = c'
        · subst ha; exact .inr (.inr nC)
        · rw [upd_ne ha] at e; exact .inl e
      · cases q : H a with
        | none => rfl
        | some o =>
          by_cases ha : a = P
          · rw [ha, atP] at e; cases e
          · rw [keep a o q ha] at e; cases e
    have n1 : h'.objs.size ≠ c' := Nat.ne_of_gt hlt
    have n2 : h'.objs.size ≠ P := Nat.ne_of_gt (Nat.lt_of_lt_of_le (Heap.lt_size hP') hsz)
    refine h h'.objs.size c' dV _ ctv us H1 _ _ I2 b1 st rfl (fun _ => Iff.rfl) eN (Heap.get?_push_size _ rfl) (by rw [at_ _ n2 n1]; exact fresh _ hsz) (nofr I1 _ hsz) (by show L2.upd x.G c' _ c' = _; rw [upd_same]) rv (dAfter (fun b o n e => Heap.get?_push_of_some _ (hx b o n e)) fun a o e n => ?_)
    have a1 : a ≠ P := fun z => by rw [z, hP] at n; cases n
    have a2 : a ≠ c' := fun z => by
      rw [z] at e
      exact Nat.lt_irrefl _ (Nat.lt_of_lt_of_le (Heap.lt_size e) hge)
    rw [at_ a a1 a2]; exact n
end
end Ev

/-! E24: a lambda's frame; a def that is handed a lambda; its call. -/
namespace Ev
open PySem PySem.Spec L2
/-! ### names -/
structure LamP (N : List Str) (sc scope : Scope) (ps : List Str) : Prop where
  kind : scope.kind = .function
  co : scope.isCoroutine = false
  gen : scope.isGenerator = false
  nocell : ∀ y ∈ scope.names, y.2 ≠ .cell
  loc : ∀ y ∈ scope.names, y.2 = .local → y.1 ∉ N
  free : ∀ y ∈ scope.names, y.2 = .free → sc.names.lookup y.1 = some .cell ∨ sc.names.lookup y.1 = some .free
  par : ∀ y ∈ ps, scope.names.lookup y = some .local
  nd : ps.Nodup
def lamPB (N : List Str) (sc : List (Str × NameKind)) (scope : Scope) (ps : List Str) : Bool :=
  decide (scope.kind = .function) && (!scope.isCoroutine && (!scope.isGenerator && ((scope.names.all fun y => !decide (y.2 = .cell) && ((!decide (y.2 = .local) || !decide (y.1 ∈ N)) && (!decide (y.2 = .free) || (decide (sc.lookup y.1 = some .cell) || decide (sc.lookup y.1 = some .free))))) &&
    ((ps.all fun y => decide (scope.names.lookup y = some .local)) && decide ps.Nodup))))
theorem lamP_by {N : List Str} {sc scope : Scope} {ps : List Str} (h : lamPB N sc.names scope ps = true) : LamP N sc scope ps := by
  unfold lamPB at h
  simp only [Bool.and_eq_true, Bool.or_eq_true, Bool.not_eq_true', decide_eq_true_eq, decide_eq_false_iff_not, List.all_eq_true] at h
  obtain ⟨h1, h2, h3, h4, h5, h6⟩ := h
  exact ⟨h1, h2, h3, fun y hy => (h4 y hy).1, fun y hy e => (h4 y hy).2.1.resolve_left fun z => z e, fun y hy e => (h4 y hy).2.2.resolve_left fun z => z e, h5, h6⟩
theorem LamP.has {X : Cx} {scope : Scope} {ps : List Str} (L : LamP X.N X.env.scope scope ps) (ok : X.Ok) : ∀ y ∈ scope.names, y.2 = .free → ∃ c, X.env.cells.lookup y.1 = some c := fun y hy e => by
  rcases L.free y hy e with k | k
  · exact ok.has _ (.inl k)
  · exact ok.has _ (.inr k)
/-- the lambda's frame -/
def lamX (X : Cx) (N' : List Str) (A : Around) (outer : List Env) (s : Shared) (H : Hp) (E : XK) (scope : Scope) (f c' : Addr) : Cx := { LamX.lamCx X A outer s H E scope f c' with N := N' }
theorem lookup_zip_rev : ∀ {ps : List Str} {us : List Value} {i : Nat} {y : Str} {u : Value}, ps.Nodup → ps[i]? = some y → us[i]? = some u → (ps.zip us).reverse.lookup y = some u
  | [], _, _, _, _, _, h, _ => by simp at h
  | p :: ps, [], _, _, _, _, _, h => by simp at h
  | p :: ps, u0 :: us, 0, y, u, nd, h1, h2 => by
    simp at h1 h2
    subst h1 h2
    have hn : ((ps.zip us).reverse).lookup p = none := by
      rw [List.lookup_eq_none_iff]
      intro q hq
      have h3 := (List.of_mem_zip (show (q.1, q.2) ∈ ps.zip us from List.mem_reverse.mp hq)).1
      have h4 := (List.nodup_cons.mp nd).1
      cases hb : (p == q.1) with
      | false => simp [bne, hb]
      | true => exact absurd (by rw [beq_iff_eq.mp hb]; exact h3) h4
    simp [List.lookup_append, hn]
  | p :: ps, u0 :: us, i + 1, y, u, nd, h1, h2 => by
    have ih := lookup_zip_rev (i := i) (List.nodup_cons.mp nd).2 (by simpa using h1) (by simpa using h2)
    simp [List.lookup_append, ih]
section
variable {X : Cx} {pins : List (Addr × Obj)} {σ : L2.St} {H HZ : Hp} {s s1 : Shared}
theorem lam_start {A : Around} {outer : List Env} {E : XK} {scope : Scope} {f c' : Addr} {h1 : Heap} {tk : Nat} {ps ms : List Str} {vs : List V} {us : List Value} (I : L2.Inv X pins σ H s) (L : LamP X.N X.env.scope scope ps) (e0 : Env0 X.prog X.w X.K X.mg X.base A outer s1 HZ) (hd : A.handled = none)
    (un : Un (frs X.stack) [] H HZ s.heap s1.heap) (hns : h1.Ns s1.heap.objs.size fun y => (ps.zip us).reverse.lookup y) (kp : ∀ b o, s1.heap.get? b = some o → h1.get? b = some o) (rv : Vals vs us) (hl : us.length = ps.length) :
    L2.Inv (lamX X (X.N ++ (ps ++ ms)) A outer s1 HZ E scope f c') [] (σ ++ (vs.map some ++ List.replicate ms.length none)) HZ { s1 with heap := h1, toks := tk } := by
  have hfree := L.has I.ok
  have cm : ∀ {y c}, (cloFrom X.env.cells scope.names []).lookup y = some c → X.env.cells.lookup y = some c := fun {y c} e => by
    rcases cloFrom_mem (PySem.mem_of_lookup e) with hm | ⟨h1, h2⟩
    · cases hm
    · obtain ⟨c1, hc⟩ := hfree _ h1 rfl
      have hc : X.env.cells.lookup y = some c1 := hc
      have e2 : c = c1 := by rw [h2, hc]; rfl
      rw [e2]
      exact hc
  have look : ∀ {y}, scope.names.lookup y = some .free → ∃ c, (cloFrom X.env.cells scope.names []).lookup y = some c := fun {y} hl =>
    mem_lookup (cloFrom_has (cells := X.env.cells) (acc := []) (show (y, NameKind.free) ∈ scope.names from PySem.mem_of_lookup hl))
  have cellK : ∀ {c : Addr} {v : Option Value}, H c = none → s.heap.IsCell c v → h1.IsCell c v := fun {c v} n ⟨o, ho, hd⟩ => by
    obtain ⟨sl, q⟩ := un.any ho n (by simp)
    exact ⟨_, kp _ _ q, hd⟩
  have noA : ∀ b : Addr, b ∉ (lamX X (X.N ++ (ps ++ ms)) A outer s1 HZ E scope f c').ex := fun b z => absurd (show b ∈ ([] : List Addr) from z) (by simp)
  refine ⟨⟨e0.mod, L.kind, rfl, rfl, Nat.le_refl _, fun y z c e1 e2 => I.ok.inj y z c (cm e1) (cm e2), fun y hy => ?_, fun y c z _ => ?_, fun _ => hd, Around.frames_deeper e0.frames, .inr ⟨rfl, rfl⟩, fun b z => absurd z (noA b), e0.bs, e0.bsz, fun b _ _ => noA b,
      fun b z => absurd z (noA b), e0.funs, e0.frf⟩,
    rfl, e0.bare, Un.kept kp, ⟨_, hns, fun i y v e1 e2 e3 => ?_⟩, fun y c e => ?_, e0.hok.fresh (Nat.le_refl _), fun y c e => ?_, fun q hq => absurd (show q ∈ ([] : List (Addr × Obj)) ++ [] from hq) (by simp), e0.hok.kept kp, ?_⟩
  · have hy : scope.names.lookup y = some .cell ∨ scope.names.lookup y = some .free := hy
    rcases hy with hy | hy
    · exact absurd rfl (L.nocell _ (PySem.mem_of_lookup hy))
    · exact look hy
  · have z : false = true := z
    cases z
  · have e3 : Vis scope y := e3
    have e1 : (X.N ++ (ps ++ ms))[i]? = some y := e1
    by_cases hi : i < X.N.length
    · rw [List.getElem?_append_left hi] at e1
      rw [List.getElem?_append_left (by rw [I.len]; exact hi)] at e2
      have hyN : y ∈ X.N := List.mem_of_getElem? e1
      rcases e3 with k | k | k
      · exact absurd hyN (L.loc _ (PySem.mem_of_lookup k) rfl)
      · exact absurd rfl (L.nocell _ (PySem.mem_of_lookup k))
      · obtain ⟨m, hn, hlk⟩ := I.loc
        have hvis : Vis X.env.scope y := (L.free _ (PySem.mem_of_lookup k) rfl).elim (fun k => .inr (.inl k)) (fun k => .inr (.inr k))
        obtain ⟨w', r, q⟩ := hlk i y v e1 e2 hvis
        obtain ⟨c2, h2⟩ := look k
        refine ⟨w', r, .inr ⟨.inr k, c2, h2, ?_⟩⟩
        have c1 := cm h2
        rcases q with ⟨k', _⟩ | ⟨_, c3, e', z⟩
        · have k' : X.env.scope.names.lookup y = some .local := k'
          rcases L.free _ (PySem.mem_of_lookup k) rfl with k2 | k2 <;> rw [show X.env.scope.names.lookup y = _ from k2] at k' <;> cases k'
        · rw [c1] at e'
          cases e'
          exact cellK (I.freeC y _ c1) z
    · rw [List.getElem?_append_right (by omega)] at e1
      rw [List.getElem?_append_right (by rw [I.len]; omega), I.len] at e2
      have hj : i - X.N.length < vs.length := by
        refine Nat.lt_of_not_le fun z => ?_
        rw [List.getElem?_append_right (by simpa using z)] at e2
        have := List.eq_of_mem_replicate (List.mem_of_getElem? e2)
        cases this
      rw [List.getElem?_append_left (by simpa using hj), List.getElem?_map] at e2
      rw [List.getElem?_append_left (by rw [← hl, ← rv.length]; exact hj)] at e1
      cases q : vs[i - X.N.length]? with
      | none => rw [q] at e2; cases e2
      | some v0 =>
        rw [q] at e2
        cases e2
        obtain ⟨u, hu, r⟩ := rv.get q
        exact ⟨u, r, .inl ⟨L.par y (List.mem_of_getElem? e1), lookup_zip_rev L.nd e1 hu⟩⟩
  · obtain ⟨w', z⟩ := I.cell y c (cm e)
    exact ⟨w', cellK (I.freeC y c (cm e)) z⟩
  · obtain ⟨v, o, ho, hd⟩ := I.cell y c (cm e)
    exact un.free c o ho (I.freeC y c (cm e)) (by simp)
  · show (σ ++ (vs.map some ++ List.replicate ms.length none)).length = (X.N ++ (ps ++ ms)).length
    have := I.len
    have := rv.length
    simp
    omega
end
end Ev

/-! E25: a lambda as a function over data; the def that is handed it; its call. -/
namespace Ev
open PySem PySem.Spec L2
def hideOw (l : List Sl) : List Sl := l.map fun x => match x with
  | .sh d => .sh d
  | _ => .un
/-- the lambda's body, the maker's own lists out of sight; dd: its defaults; nm: names of its blocks -/
def lamF (m : M D) (dd : List D) (nm : Nat) (s : Sx) : Fn := fun ds sto => match m ⟨hideOw s.env ++ ((ds ++ dd).map .sh ++ List.replicate nm .un), sto⟩ with
  | .ok d s' => .rt d s'.sto
  | .exc c ns vs sto => .exc c ns vs sto
  | .bad => .bad
theorem hideOw_get {l : List Sl} {i : Nat} {x : Sl} (h : (hideOw l)[i]? = some x) : x = .un ∨ ∃ d, x = .sh d ∧ l[i]? = some (.sh d) := by
  unfold hideOw at h
  rw [List.getElem?_map] at h
  cases q : l[i]? with
  | none => rw [q] at h; cases h
  | some y =>
    rw [q] at h
    cases y with
    | un => cases h; exact .inl rfl
    | sh d => cases h; exact .inr ⟨d, rfl, rfl⟩
    | ow ys => cases h; exact .inl rfl
    | th => cases h; exact .inl rfl
    | od ks ds => cases h; exact .inl rfl
/-- the frame of what a closure was handed to -/
abbrev Tx.at_ (T : Tx) (io : Io) (G : Hp) (f : Addr) : Tx := { T with io0 := io, G0 := G, clo := f }
section
variable {T : Tx} {x : Gh} {sto : List (List D)} {H : Hp} {io : Io} {G : Hp} {f : Addr}
theorem Bx.low (b : Bx (T.at_ io G f) x sto H) (h : T.io0.Le io ∧ Le T.G0 G) : Bx T x sto H := ⟨b.n, b.at_, b.inU, b.inj, b.sub, b.off, b.trk, b.tab, ⟨h.1.trans b.lo.1, h.2.trans b.lo.2⟩⟩
theorem Bx.rise (b : Bx T x sto H) (h : io.Le x.io ∧ Le G x.G) : Bx (T.at_ io G f) x sto H := ⟨b.n, b.at_, b.inU, b.inj, b.sub, b.off, b.trk, b.tab, h⟩
/-- the maker's state as the lambda sees it later: boxes and tables alone may have changed -/
theorem Ok.hide {y : Gh} {s : Sx} {σ : L2.St} {H' : Hp} {vs : List V} {ds : List D} (k : Ok T x s σ H) (b : Bx T y sto H') (io : x.io.Le y.io) (le : Le x.G y.G) (r : Reps T y.io y.G vs ds) (nm : Nat) :
    Ok T ⟨y.io, y.G, bdU T y ⟨[], sto⟩⟩ ⟨hideOw s.env ++ (ds.map .sh ++ List.replicate nm .un), sto⟩ (σ ++ (vs.map some ++ List.replicate nm none)) H' := by
  have hl : (hideOw s.env).length = σ.length := by simpa [hideOw] using k.len
  have ge : ∀ (i : Nat) (sl : Sl), (hideOw s.env ++ (ds.map .sh ++ List.replicate nm .un))[i]? = some sl → sl = .un ∨ ∃ d v, sl = .sh d ∧ (σ ++ (vs.map some ++ List.replicate nm none))[i]? = some (some v) ∧ Rep T y.io y.G v d := fun i sl e => by
    by_cases hi : i < (hideOw s.env).length
    · rw [List.getElem?_append_left hi] at e
      rw [List.getElem?_append_left (by rw [← hl]; exact hi)]
      rcases hideOw_get e with z | ⟨d, rfl, z⟩
      · exact .inl z
      · obtain ⟨v, h1, h2⟩ := k.sh i d z
        exact .inr ⟨d, v, rfl, h1, h2.mono io le⟩
    · rw [List.getElem?_append_right (by omega)] at e
      rw [List.getElem?_append_right (by omega), ← hl]
      by_cases hj : i - (hideOw s.env).length < ds.length
      · rw [List.getElem?_append_left (by simpa using hj), List.getElem?_map] at e
        rw [List.getElem?_append_left (by simpa [r.length] using hj), List.getElem?_map]
        cases q : ds[i - (hideOw s.env).length]? with
        | none => rw [q] at e; cases e
        | some d =>
          rw [q] at e
          cases e
          obtain ⟨v, h1, h2⟩ := r.get q
          exact .inr ⟨d, v, rfl, by rw [h1]; rfl, h2⟩
      · rw [List.getElem?_append_right (by simpa using hj)] at e
        exact .inl (List.eq_of_mem_replicate (List.mem_of_getElem? e))
  refine ⟨⟨b.n, b.at_, fun i hi => .inl ⟨i, hi, rfl⟩, b.inj, b.sub, fun a o e z => b.off a o e (bd_U (s := ⟨[], sto⟩) b z), fun a z => b.trk a (bd_U (s := ⟨[], sto⟩) b z), fun p hp => ⟨.inr ⟨p, hp, rfl⟩, (b.tab p hp).2⟩, b.lo⟩, ?_, fun i d e => ?_, fun i xs e => ?_, fun i j xs ys a e1 e2 => ?_, fun i e => ?_, .non fun i ks ds e => (by rcases ge i _ e with z | ⟨d', v, z, h1, h2⟩ <;> cases z)⟩
  · show (hideOw s.env ++ (ds.map Sl.sh ++ List.replicate nm Sl.un)).length = _
    simp [hl, r.length]
  · rcases ge i _ e with z | ⟨d', v, z, h1, h2⟩
    · cases z
    · cases z; exact ⟨v, h1, h2⟩
  · rcases ge i _ e with z | ⟨d', v, z, h1, h2⟩ <;> cases z
  · rcases ge i _ e1 with z | ⟨d', v, z, h1, h2⟩ <;> cases z
  · rcases ge i _ e with z | ⟨d', v, z, h1, h2⟩ <;> cases z
end
/-- what a lambda binds: n values written, its defaults behind them -/
def BindOk (params : Arguments) (body : Expr) (scope : Scope) (ps : List Str) (n nd : Nat) : Prop := ∀ (q : Str) (cl : List (Str × Addr)) (pm cdv ctv : Value) (us its : List Value), us.length = n → its.length = nd →
  (nd = 0 → bindArgs (lamFn q params body scope cl .none pm cdv ctv) ⟨us, []⟩ = pure (ps.zip us)) ∧ ∀ dt : Addr, ∃ k, bindArgs (lamFn q params body scope cl (.ref dt) pm cdv ctv) ⟨us, []⟩ = seqItems? (.ref dt) >>= k ∧ k (some its.toArray) = pure (ps.zip (us ++ its))
/-- a closure's promise, from the state at which it was handed on -/
structure Act (T : Tx) (P : Program) (w : World) (K : PySem.W.Frag) (mg : Str → Option Value) (base : Heap) (stk : List Env) (H0 : Hp) (h0 : Heap) (k : Nat) (f : Addr) (n : Nat) (th : Fn) : Prop where
  fn : PySem.W.FnAt f h0
  hf : H0 f = none
  nfr : f ∉ frs stk
  run : ∀ (A : Around) (outer : List Env) (s1 : Shared) (HZ : Hp) (us : List Value) (vs : List V) (Q : VK) (E : XK), A.guards = some [] → Room (k + 1) A → Env0 P w K mg base A outer s1 HZ → Un (frs stk) [] H0 HZ h0 s1.heap → Vals vs us → spD T n th vs HZ Q E →
    codeAny (model P w) A (.call (.ref f) ⟨us, []⟩) (CR (L2.CX P w) outer P w HZ s1 Q E) s1
section
variable {T : Tx} {X : Cx} {pins : List (Addr × Obj)} {σ : L2.St} {H : Hp} {s : Shared} {x : Gh} {sx : Sx} {params : Arguments} {body : Expr} {scope : Scope} {ps ms : List Str} {f c' : Addr} {dV pm ctv : Value} {ud : List Value} {dvs : List V} {dd : List D} {m : M D} {kl n : Nat}
theorem act_of (hK : X.K = T.K) (hw : X.w = T.w) (I : L2.Inv X pins σ H s) (k : Ok T x sx σ H) (L : LamP X.N X.env.scope scope ps) (hf : s.heap.get? f = some (lamO (X.env.qual ++ "<lambda>") params body scope (cloFrom X.env.cells scope.names []) dV pm (.ref c') ctv)) (hfn : H f = none) (hfr : f ∉ frs X.stack)
    (hc : x.G c' = some (LamX.CodeO c' (X.env.qual ++ "<lambda>"))) (rd : Vals dvs ud) (rD : ∀ io G, Reps T io G dvs dd) (hd : DflAt s.heap H (frs X.stack) dV ud) (bok : BindOk params body scope ps n dvs.length) (hn : n + dvs.length = ps.length)
    (hbody : ∀ (A : Around) (outer : List Env) (s1 : Shared) (HZ : Hp) (E : XK), A.guards = some [] → Room kl (A.deeper (LamX.lamEnv X scope s1.heap.objs.size f c')) → Takes (lamX X (X.N ++ (ps ++ ms)) A outer s1 HZ E scope f c') (fun cls d _ H => E cls d H) →
      PE (lamX X (X.N ++ (ps ++ ms)) A outer s1 HZ E scope f c') body (tD T (fun cls d _ H => E cls d H) m)) :
    Act (T.at_ x.io x.G f) X.prog X.w X.K X.mg X.base X.stack H s.heap kl f n (lamF m dd ms.length sx) where
  fn := ⟨_, _, _, _, hf⟩
  hf := hfn
  nfr := hfr
  run := fun A outer s1 HZ us vs Q E gd hr e0 un rv ⟨y, ds, sto, b, hu, r, hl, h⟩ => by
    have bT := b.low k.bx.lo
    have kp1 : ∀ {a : Addr} {o : Obj}, s.heap.get? a = some o → H a = none → a ∉ frs X.stack → s1.heap.get? a = some o := fun {a o} e n1 n2 => un.keep a o e n1 n2 (by simp)
    have of1 := kp1 hf hfn hfr
    obtain ⟨⟨oc, cvs, t, hoc, hdc, hvc⟩, _, _⟩ := e0.hok c' _ (bT.sub c' _ (b.lo.2 c' _ hc))
    have hus : us.length = n := rv.length.symm.trans hl
    have hbind : BindsTo s1 (lamFn (X.env.qual ++ "<lambda>") params body scope (cloFrom X.env.cells scope.names []) dV pm (.ref c') ctv) ⟨us, []⟩ (ps.zip (us ++ ud)) := by
      have bk := bok (X.env.qual ++ "<lambda>") (cloFrom X.env.cells scope.names []) pm (.ref c') ctv us ud hus rd.length.symm
      rcases hd with ⟨rfl, rfl⟩ | ⟨_, dt, rfl, e1, e2, e3⟩
      · rw [List.append_nil]
        exact .of_eq (bk.1 rd.length)
      · obtain ⟨kk, e4, e5⟩ := bk.2 dt
        refine L2.BindsTo.of_looks fun M => ?_
        rw [e4]
        exact fun A' Q' E' s' kp q => wpAny_bind (wpAny_seqItems (kp _ _ (kp1 e1 e2 e3)) rfl (by rw [e5]; exact wpAny_pure q))
    refine PySem.W.kla_callFunE hr.depth of1 rfl L.co L.gen rfl ⟨c', oc, cvs, t, rfl, hoc, hdc, hvc⟩ (hbind _ _ _ _ (wpAny_newFunctionEnv L.nocell (fun z hz => L.par z.1 (List.of_mem_zip hz).1) (fun h1 hns hsb => ⟨e0.mod.nolimit.keeps (fun b o e => (e0.bs b o e).1) |>.fresh _ hsb, ?_⟩) L.kind))
    have kp : ∀ b o, s1.heap.get? b = some o → h1.get? b = some o := fun b o e => hsb.extBut b o (Nat.ne_of_lt (Heap.lt_size e)) (Heap.get?_push_of_some _ e)
    have J := lam_start (tk := s1.toks + (ps.zip (us ++ ud)).length) (ms := ms) (f := f) (c' := c') (E := E) I L e0 hr.hd un hns kp (rv.append rd) (by rw [List.length_append, hus, ← rd.length, hn])
    refine PySem.W.kla_codeExpr (wpAny_mono ((hbody A outer s1 HZ E gd (hr.deeper _) (takes_of rfl rfl rfl rfl)).run [] _ _ HZ Q J ?_) (fun v s' hq => ?_) fun e s' hq => hq)
    · have kk := k.hide (sto := sto) bT b.lo.1 b.lo.2 (r.append (rD _ _)) ms.length
      refine ⟨_, _, kk, ?_⟩
      have h : FinF (T.at_ x.io x.G f) Q E y HZ (lamF m dd ms.length sx ds sto) := h
      unfold lamF at h
      have back : ∀ {z : Gh} {H' : Hp}, Stp ⟨y.io, y.G, bdU T y ⟨[], sto⟩⟩ HZ z H' → Stp y HZ z H' := fun {z H'} st => ⟨st.io, st.le, fun a o e nu => st.fr a o e fun q => nu (bd_U (s := ⟨[], sto⟩) bT q), fun a o e => by
        rcases st.new a o e with q | q | q
        · exact .inl q
        · exact .inr (.inl (bd_U (s := ⟨[], sto⟩) bT q))
        · exact .inr (.inr q), fun a u => (st.un a u).imp (fun q => bd_U (s := ⟨[], sto⟩) bT q) id, st.th⟩
      cases em : m ⟨hideOw sx.env ++ ((ds ++ dd).map .sh ++ List.replicate ms.length .un), sto⟩ with
      | ok d s' =>
        rw [em] at h
        exact fun x' v H' k' st r' => h x' v H' (k'.bx.rise ⟨b.lo.1.trans st.io, b.lo.2.trans st.le⟩) (back st) r'
      | exc c ns vs' sto' =>
        rw [em] at h
        exact fun x' dz uz H' b' st xd => h x' dz uz H' (b'.rise ⟨b.lo.1.trans st.io, b.lo.2.trans st.le⟩) (back st) ⟨xd.at_, xd.hl, xd.rs, xd.new, xd.nu, xd.ng⟩
      | bad => rw [em] at h; exact h.elim
    · obtain ⟨w', H', J', rv', q⟩ := hq
      exact ⟨w', H', J'.os, J'.bare, J'.base, J'.hok, rv', q⟩
end
end Ev

/-! E26: the call of the closure that was handed in; the def that is handed it; the maker's call. -/
namespace Ev
open PySem PySem.Spec L2
/-- a(..): slot i holds the closure -/
def mAsk (i : Nat) (th : Fn) (ml : M (List D)) : M D := fun s => match s.env[i]? with
  | some .th => mCall th ml s
  | _ => .bad
section
variable {T : Tx} {W : WX} {P : Program} {w : World} {K : PySem.W.Frag} {mg : Str → Option Value} {base : Heap} {N : List Str} {qual a : Str} {scope : Scope} {g : Addr} {cdv : Value} {A : Around} {outer : List Env} {s0 : Shared} {H0 : Hp} {E0 : XK} {pn : List (Addr × Obj)} {xe : Value → Shared → Prop}
  {k n i : Nat} {f : Addr} {th : Fn} {es : List Expr} {ml : M (List D)} {p1 p2 : Pos}
abbrev hearX (P : Program) (w : World) (K : PySem.W.Frag) (mg : Str → Option Value) (base : Heap) (N : List Str) (qual : Str) (scope : Scope) (g : Addr) (cdv : Value) (A : Around) (outer : List Env) (s0 : Shared) (H0 : Hp) (E0 : XK) (pn : List (Addr × Obj)) (xe : Value → Shared → Prop) : Cx :=
  (cxOf (L2.CX P w) P w K mg base N qual scope g cdv A outer s0 H0 E0).tr pn xe
theorem de_ask (act : Act T P w K mg base outer H0 s0.heap k f n th) (hclo : T.clo = f) (hi : N[i]? = some a) (hv : Vis scope a) (gd : A.guards = some []) (hr : Room (k + 1) (A.deeper (PyProof.Rows.envOfC qual scope s0.heap.objs.size g cdv)))
    (tk : Takes (hearX P w K mg base N qual scope g cdv A outer s0 H0 E0 pn xe) W) (ha : PA (hearX P w K mg base N qual scope g cdv A outer s0 H0 E0 pn xe) es (tDs T W ml)) (hlen : ∀ s ds s', ml s = .ok ds s' → ds.length = n)
    (hsp : es = [] ∨ ∃ e r, es = e :: r ∧ starEach (e :: r) (PyProof.Rows.envOfC qual scope s0.heap.objs.size g cdv) = (false, eval e (PyProof.Rows.envOfC qual scope s0.heap.objs.size g cdv)) :: starEach r (PyProof.Rows.envOfC qual scope s0.heap.objs.size g cdv) ∧ (backTo p2 (starEach r (PyProof.Rows.envOfC qual scope s0.heap.objs.size g cdv))).any (·.1) = false := by exact .inl rfl)
    (hd : (a == ("__debug__" : Str)) = false := by decide) (hcd : (a == ("__classdict__" : Str)) = false := by decide) :
    PE (hearX P w K mg base N qual scope g cdv A outer s0 H0 E0 pn xe) (.Call (.Name a p1) es [] p2) (tD T W (mAsk i th ml)) := by
  refine ⟨fun pins s σ H Q I h => ?_⟩
  obtain ⟨x, sx, ok, h⟩ := h
  unfold mAsk at h
  cases q : sx.env[i]? with
  | none => rw [q] at h; exact h.elim
  | some sl =>
    cases sl with
    | un => rw [q] at h; exact h.elim
    | sh d => rw [q] at h; exact h.elim
    | ow d => rw [q] at h; exact h.elim
    | od ks ds => rw [q] at h; exact h.elim
    | th =>
      rw [q] at h
      have hs := ok.th i q
      rw [hclo] at hs
      refine wpAny_Call_Name_kw (thn ((pe_var (pos := p1) (i := i) hi hv hd hcd).run pins s σ H (fun v H1 => v = .ref f ∧ H1 = H) I ⟨.ref f, hs, rfl, rfl⟩) fun u s1 hh => ?_)
      obtain ⟨v, H1, I1, r1, e1, e2⟩ := hh
      subst e1 e2
      cases r1
      have fnAt : ∀ {s2 : Shared} {H2 : Hp}, L2.Inv (hearX P w K mg base N qual scope g cdv A outer s0 H0 E0 pn xe) pins σ H2 s2 → PySem.W.FnAt f s2.heap := fun {s2 H2} J => by
        obtain ⟨a1, a2, a3, a4, z⟩ := act.fn
        exact ⟨a1, a2, a3, a4, J.base.keep f _ z act.hf act.nfr (fun z => nomatch (show f ∈ ([] : List Addr) from z))⟩
      unfold mCall M.bind at h
      have fin : ∀ {s2 : Shared} {H2 : Hp} {us : List Value} {vs : List V} {y : Gh} {sy : Sx} {ds : List D}, L2.Inv (hearX P w K mg base N qual scope g cdv A outer s0 H0 E0 pn xe) pins σ H2 s2 → Vals vs us → Ok T y sy σ H2 → Stp x H1 y H2 → Reps T y.io y.G vs ds → ml sx = .ok ds sy →
          wpAny (model P w) (A.deeper (PyProof.Rows.envOfC qual scope s0.heap.objs.size g cdv)) (call (.ref f) us) (EP (hearX P w K mg base N qual scope g cdv A outer s0 H0 E0 pn xe) pins σ Q) xe s2 := fun {s2 H2 us vs y sy ds} I2 rv k2 st2 r2 em => by
        rw [em] at h
        simp only at h
        refine wpAny_call (codeAny_mono (act.run _ _ s2 H2 us vs Q (WE W σ) gd hr I2.env0 I2.base rv (call_read k2 r2 (by rw [r2.length]; exact hlen _ _ _ em) ?_)) fun r s' hq => ?_)
        · cases e2 : th ds sy.sto with
          | rt d sto => rw [e2] at h; exact fun x3 v H3 k3 st3 r3 => h x3 v H3 k3 (st2.trans st3) r3
          | ro xs sto =>
            rw [e2] at h
            intro x3 a3 H3 k3 st3 o
            obtain ⟨x4, k4, st4, r4⟩ := o.share k3
            exact h x4 _ H3 k4 (st2.trans (st3.trans st4)) r4
          | exc c ns vs sto => rw [e2] at h; exact h.back st2
          | nx _ => rw [e2] at h; exact h.elim
          | bk _ => rw [e2] at h; exact h.elim
          | ct _ => rw [e2] at h; exact h.elim
          | bad => rw [e2] at h; exact h.elim
        · match r, hq with
          | .error e, hq => exact passAt tk σ pins H2 s2 e s' I2 hq
          | .ok (.ret u), hq => exact I2.after hq
      have hml : tDs T W ml σ H1 fun vs H2 => ∃ y sy ds, Ok T y sy σ H2 ∧ Stp x H1 y H2 ∧ Reps T y.io y.G vs ds ∧ ml sx = .ok ds sy := by
        refine ⟨x, sx, ok, ?_⟩
        cases em : ml sx with
        | ok ds sy => exact fun y vs H2 k2 st2 r2 => ⟨y, sy, ds, k2, st2, r2, rfl⟩
        | exc c ns vs sto => rw [em] at h; exact h
        | bad => rw [em] at h; exact h
      have hrun := ha.run p2 pins s1 σ H1 _ I1 hml
      rcases hsp with rfl | ⟨e, r, rfl, h1, h2⟩
      · refine PySem.W.callWith_F0 (fnAt I1) ?_
        have hx := ha.run p2 pins s1 σ H1 (fun vs H2 => ∃ y sy ds, Ok T y sy σ H2 ∧ Stp x H1 y H2 ∧ Reps T y.io y.G vs ds ∧ ml sx = .ok ds sy) I1 hml
        have hz : wpAny (model P w) (A.deeper (PyProof.Rows.envOfC qual scope s0.heap.objs.size g cdv)) (spliced [] >>= fun us => call (.ref f) us) (EP (hearX P w K mg base N qual scope g cdv A outer s0 H0 E0 pn xe) pins σ Q) xe s1 :=
          wpAny_bind (thn hx fun us s2 ⟨vs, H2, I2, rv, y, sy, ds, k2, st2, r2, em⟩ => fin I2 rv k2 st2 r2 em)
        exact hz
      · exact PySem.W.callWith_F (fnAt I1) (thn hrun fun us s2 ⟨vs, H2, I2, rv, y, sy, ds, k2, st2, r2, em⟩ => ⟨fnAt I2, fin I2 rv k2 st2 r2 em⟩) h1 h2
end
/-- the promise of a def whose last argument is a closure -/
def spL (T : Tx) (f : Addr) (n : Nat) (F : Fn) : Sp := fun vs H Q E => ∃ (x : Gh) (vs0 : List V) (ds : List D) (sto : List (List D)), Bx T x sto H ∧ (∀ a, x.U a → (∃ i, i < sto.length ∧ a = x.io.f i) ∨ ∃ p ∈ T.tb, a = p.1) ∧ vs = vs0 ++ [.ref f] ∧ Reps T x.io x.G vs0 ds ∧ vs.length = n ∧ FinF T Q E x H (F ds sto)
def bodyL (n : Nat) (m : MS) : Fn := fun ds sto => match m ⟨ds.map .sh ++ (.th :: List.replicate (n - ds.length - 1) .un), sto⟩ with
  | .nx s => .rt .non s.sto
  | .bk _ => .bad
  | .ct _ => .bad
  | r => r
/-- such a def of the text; n: how many arguments it gives the closure -/
structure LamOk (T : Tx) (P : Program) (mg : Str → Option Value) (base : Heap) (y : Str) (ps : List Str) (n : Nat) (F : Fn → Fn) : Prop where
  ex : ∃ (g : Addr) (fd : FuncData), mg y = some (.ref g) ∧ PySem.W.keepIn T.K (.ref g) = true ∧ Binds T.K fd ps [] ∧
    ∀ (A : Around) (outer : List Env) (s : Shared) (H : Hp) (args : Args) (us : List Value) (vs : List V) (Q : VK) (E : XK) (f : Addr) (io : Io) (G : Hp) (kl : Nat) (th : Fn), A.guards = some [] → Room (kl + 3) A → Env0 P T.w T.K mg base A outer s H → BindsTo s fd args (ps.zip us) → Vals vs us →
      Act (T.at_ io G f) P T.w T.K mg base outer H s.heap kl f n th → spL (T.at_ io G f) f ps.length (F th) vs H Q E → codeAny (model P T.w) A (.call (.ref g) args) (CR (L2.CX P T.w) outer P T.w H s Q E) s
section
variable {T : Tx} {P : Program} {mg : Str → Option Value} {base : Heap} {y qual : Str} {params : Arguments} {body : List Stmt} {scope : Scope} {g : Addr} {fd : FuncData} {N ps : List Str} {n : Nat} {m : Fn → MS}
theorem Bx.startL {x : Gh} {ds : List D} {sto : List (List D)} {H : Hp} {vs : List V} {f : Addr} {nn : Nat} (b : Bx T x sto H) (r : Reps T x.io x.G vs ds) (hc : T.clo = f) (hn : nn = N.length) (hl : vs.length + 1 ≤ nn) : Ok T x ⟨ds.map .sh ++ (.th :: List.replicate (nn - ds.length - 1) .un), sto⟩ (L2.start N (vs ++ [.ref f])) H := by
  have hlen := r.length
  have ge : ∀ (i : Nat) (sl : Sl), (ds.map Sl.sh ++ (.th :: List.replicate (nn - ds.length - 1) .un))[i]? = some sl → sl = .un ∨ (sl = .th ∧ i = ds.length) ∨ ∃ d, sl = .sh d ∧ ds[i]? = some d := fun i sl e => by
    by_cases hi : i < ds.length
    · rw [List.getElem?_append_left (by simpa using hi), List.getElem?_map] at e
      cases q : ds[i]? with
      | none => rw [q] at e; cases e
      | some d => rw [q] at e; exact .inr (.inr ⟨d, (Option.some.inj e).symm, rfl⟩)
    · rw [List.getElem?_append_right (by simpa using hi)] at e
      by_cases h0 : i = ds.length
      · subst h0
        simp at e
        exact .inr (.inl ⟨e.symm, rfl⟩)
      · obtain ⟨j, hj⟩ : ∃ j, i - (ds.map Sl.sh).length = j + 1 := ⟨i - ds.length - 1, by simp; omega⟩
        rw [hj] at e
        exact .inl (List.eq_of_mem_replicate (List.mem_of_getElem? e))
  have st0 : ∀ (i : Nat) (v : V), vs[i]? = some v → (L2.start N (vs ++ [.ref f]))[i]? = some (some v) := fun i v e => by
    have hv : i < vs.length := (List.getElem?_eq_some_iff.mp e).1
    unfold L2.start
    rw [List.getElem?_append_left (by simp; omega), List.getElem?_map, List.getElem?_append_left hv, e]
    rfl
  refine ⟨b, by simp [L2.start, hlen, hn] <;> omega, fun i d e => ?_, fun i xs e => ?_, fun i j xs ys a e1 e2 => ?_, fun i e => ?_, .non fun i ks ds e => (by rcases ge i _ e with z | ⟨z, _⟩ | ⟨d', z, q⟩ <;> cases z)⟩
  · rcases ge i _ e with z | ⟨z, _⟩ | ⟨d', z, q⟩
    · cases z
    · cases z
    · cases z
      obtain ⟨v, h1, h2⟩ := r.get q
      exact ⟨v, st0 i v h1, h2⟩
  · rcases ge i _ e with z | ⟨z, _⟩ | ⟨d', z, q⟩ <;> cases z
  · rcases ge i _ e1 with z | ⟨z, _⟩ | ⟨d', z, q⟩ <;> cases z
  · rcases ge i _ e with z | ⟨_, rfl⟩ | ⟨d', z, q⟩
    · cases z
    · unfold L2.start
      rw [List.getElem?_append_left (by simp; omega), List.getElem?_map, List.getElem?_append_right (by omega), ← hlen, hc]
      simp
    · cases z
theorem lam_ok (F : FunD T.K y qual params body scope [] [] g fd) (hm : mg y = some (.ref g)) (S : FnScope N ps scope) (hN : ps.length ≤ N.length)
    (hb : ∀ (kV doc pm : Value) (an : Option Addr) (cdv ct : Value) (us : List Value), us.length = ps.length → bindArgs (PySem.W.fnOf y qual params body scope .none kV doc pm an cdv ct) ⟨us, []⟩ = pure (ps.zip us))
    (hbody : ∀ (cdv : Value) (A : Around) (outer : List Env) (s : Shared) (H : Hp) (E : XK) (f : Addr) (io : Io) (G : Hp) (kl : Nat) (th : Fn), A.guards = some [] → Room (kl + 2) (A.deeper (PyProof.Rows.envOfC qual scope s.heap.objs.size g cdv)) →
      Act (T.at_ io G f) P T.w T.K mg base outer H s.heap kl f n th →
      Takes (cxOf (L2.CX P T.w) P T.w T.K mg base N qual scope g cdv A outer s H E) (fun cls d _ H => E cls d H) →
      PSs (cxOf (L2.CX P T.w) P T.w T.K mg base N qual scope g cdv A outer s H E) body (tS (T.at_ io G f) (fun cls d _ H => E cls d H) (m th))) : LamOk T P mg base y ps n (fun th => bodyL N.length (m th)) := by
  refine ⟨g, fd, hm, F.kp, F.bindsN hb, fun A outer s H args us vs Q E f io G kl th gd hr e0 hbind rv act hsp => ?_⟩
  obtain ⟨oc, od, dV, kV, doc, pm, an, cdv, ct, osl, rfl, lk, hcd, _, _⟩ := F.ex
  obtain ⟨x, vs0, ds, sto, b, hu, rfl, r, hl, h⟩ := hsp
  refine LamX.run_ofS (N := N) (ps := ps) (us := us) (vs := vs0 ++ [.ref f]) lk hcd S hr e0 hbind rv hl fun hr' => ⟨_, hbody cdv A outer s H E f io G kl th gd hr' act (takes_of rfl rfl rfl rfl), ?_⟩
  have hl' : vs0.length + 1 ≤ N.length := by
    rw [List.length_append] at hl
    simp at hl
    omega
  refine ⟨x, _, b.startL r rfl rfl hl', ?_⟩
  unfold bodyL at h
  cases e : m th ⟨ds.map .sh ++ (.th :: List.replicate (N.length - ds.length - 1) .un), sto⟩ with
  | nx s' => rw [e] at h; exact fun x' σ' H' k' st => h x' .non H' k'.bx st .non
  | bk _ => rw [e] at h; exact h.elim
  | ct _ => rw [e] at h; exact h.elim
  | rt d sto => rw [e] at h; exact h
  | ro xs sto => rw [e] at h; exact h
  | exc c ns vs sto => rw [e] at h; exact fun σ' x' dd us H' b' st xd => h x' dd us H' b' st xd
  | bad => rw [e] at h; exact h.elim
end
/-- y(.., lambda) -/
def mLam (F : Fn → Fn) (lf : Sx → Fn) (ml : M (List D)) : M D := M.bind ml fun ds s => match F (lf s) ds s.sto with
  | .rt d sto => .ok d { s with sto := sto }
  | .ro xs sto => .ok (.lst xs) { s with sto := sto }
  | .exc c ns vs sto => .exc c ns vs sto
  | _ => .bad
section
variable {T : Tx} {W : WX} {X : Cx} {y : Str} {ps lps ms : List Str} {n kl : Nat} {F : Fn → Fn} {c Pt : Addr} {params : Arguments} {body : Expr} {scope : Scope} {es : List Expr} {dvs : List V} {dd : List D} {m : M D} {p lpos pos : Pos}
theorem de_lam (d : LamOk T X.prog X.mg X.base y [ps.headD ""] n F) (hK : X.K = T.K) (hw : X.w = T.w) (tk : Takes X W) (gd : X.A.guards = some []) (hr : Room (kl + 3) X.A) (hg : Gl X y) (TB : LamX.TabB X.base X.mg c Pt) (hcode : X.env.code = .ref c)
    (hm : (Pt, X.env.qual ++ "<lambda>") ∈ T.tb) (hu : ∀ p ∈ T.tb, p.1 = Pt → p.2 = X.env.qual ++ "<lambda>") (hdef : defaultsOf params X.env = (evalEach es X.env, [])) (dfl : Dfl X es dvs) (rD : ∀ io G, Reps T io G dvs dd) (L : LamP X.N X.env.scope scope lps) (bok : BindOk params body scope lps n dvs.length) (hn : n + dvs.length = lps.length)
    (hbody : ∀ (A : Around) (outer : List Env) (s1 : Shared) (HZ : Hp) (E : XK) (f c' : Addr), A.guards = some [] → Room kl (A.deeper (LamX.lamEnv X scope s1.heap.objs.size f c')) → Takes (lamX X (X.N ++ (lps ++ ms)) A outer s1 HZ E scope f c') (fun cls d _ H => E cls d H) →
      PE (lamX X (X.N ++ (lps ++ ms)) A outer s1 HZ E scope f c') body (tD T (fun cls d _ H => E cls d H) m)) (hdb : (y == ("__debug__" : Str)) = false := by decide) :
    PE X (.Call (.Name y p) [.Lambda params body scope lpos] [] pos) (tD T W (mLam F (lamF m dd ms.length) mNil)) := by
  obtain ⟨g, fd, hmg, hk, hb, run⟩ := d.ex
  rw [← hK] at hk hb
  refine ⟨fun pins s σ H Q I h => ?_⟩
  obtain ⟨x, sx, k, h⟩ := h
  refine wpAny_Call_Name_kw (ld_glob I hg hmg ?_ hdb)
  refine PySem.W.callWith_K (h₀ := X.base) I.ok.mod.kin hk ?_ (by rfl) (by rfl)
  show wpAny _ _ (spliced ((false, eval (.Lambda params body scope lpos) X.env) :: backTo pos (starEach [] X.env))) _ _ s
  refine Calls.spliced_cons (lam_make I k.bx TB hcode hm hu hdef dfl (L.has I.ok) fun f c' dV pm ctv us H1 s' x1 I1 b1 st1 io1 hu1 eN hf hfn hfr hco rv hd => ?_)
  refine Calls.spliced_nil ⟨I1.kIn, ?_⟩
  have k1 := k.tabled b1 io1 st1.le hu1 eN
  have act := act_of (kl := kl) (ms := ms) (m := m) hK hw I1 k1 L hf hfn hfr hco rv rD hd bok hn fun A outer s1 HZ E g1 g2 g3 => hbody A outer s1 HZ E f c' g1 g2 g3
  rw [hK, hw] at act
  have e0 := I1.env0
  rw [hK, hw] at e0
  have hbd : BindsTo s' fd ⟨[.ref f], []⟩ ([ps.headD ""].zip [.ref f]) := by
    have := hb s' [.ref f] I1.kIn rfl
    simpa using this
  have rc := run X.A X.stack s' H1 ⟨[.ref f], []⟩ [.ref f] [.ref f] Q (WE W σ) f x1.io x1.G kl (lamF m dd ms.length sx) gd hr e0 hbd (.cons rfl .nil) act ?_
  · rw [← hw] at rc
    refine wpAny_call (codeAny_mono rc fun r s2 hq => ?_)
    match r, hq with
    | .error e, hq => exact passAt tk σ pins H1 s' e s2 I1 hq
    | .ok (.ret u), hq => exact I1.after hq
  · have bb := bx_call k1
    refine ⟨⟨x1.io, x1.G, bdU T x1 sx⟩, [], [], sx.sto, bb.rise ⟨.refl _, .refl _⟩, fun a z => z, rfl, .nil, rfl, ?_⟩
    have h : (match mLam F (lamF m dd ms.length) mNil sx with
      | .ok d s' => ∀ x' v H', Ok T x' s' σ H' → Stp x H x' H' → Rep T x'.io x'.G v d → Q v H'
      | .exc c ns vs sto => XP T W x σ H c ns vs sto
      | .bad => False) := h
    have em : mLam F (lamF m dd ms.length) mNil sx = match F (lamF m dd ms.length sx) [] sx.sto with
      | .rt d sto => .ok d { sx with sto := sto }
      | .ro xs sto => .ok (.lst xs) { sx with sto := sto }
      | .exc c ns vs sto => .exc c ns vs sto
      | _ => .bad := rfl
    rw [em] at h
    cases e : F (lamF m dd ms.length sx) [] sx.sto with
    | rt d sto =>
      rw [e] at h
      intro x' v H' b st r'
      obtain ⟨k2, st2⟩ := k1.after (b.low k1.bx.lo) st
      exact h _ v H' k2 (st1.trans st2) r'
    | ro xs sto =>
      rw [e] at h
      intro x' a H' b st o
      have o' : Own T x' ⟨[], sto⟩ [] H' a xs := ⟨o.u, o.l, o.b, fun i ys z => by simp at z⟩
      obtain ⟨k2, st2⟩ := k1.after (b.low k1.bx.lo) st
      obtain ⟨x3, k3, st3, r3⟩ := (k1.afterOwn (b.low k1.bx.lo) st o').share k2
      exact h x3 _ H' k3 (st1.trans (st2.trans st3)) r3
    | exc c ns vs sto =>
      rw [e] at h
      intro x' dz uz H' b st xd
      obtain ⟨k2, st2⟩ := k1.after (b.low k1.bx.lo) st
      exact h _ dz uz H' k2.bx (st1.trans st2) ⟨xd.at_, xd.hl, xd.rs, st1.th _ xd.new, fun u => by
        rcases u with u | u
        · obtain ⟨o, z⟩ := k1.bx.trk dz u
          rw [xd.new] at z; cases z
        · exact xd.nu u, xd.ng⟩
    | nx _ => rw [e] at h; exact h.elim
    | bk _ => rw [e] at h; exact h.elim
    | ct _ => rw [e] at h; exact h.elim
    | bad => rw [e] at h; exact h.elim
end
end Ev

/-! E27: calls with keywords and defaults; {}; what the head tells of classes and tables. -/
namespace Ev
open PySem PySem.Spec L2
/-! ### keywords, defaults -/
def pick {α : Type} (l : List α) (idx : List Nat) : List α := idx.filterMap fun i => l[i]?
theorem pick_vals {xs : List V} {us : List Value} (r : Vals xs us) : ∀ idx : List Nat, Vals (pick xs idx) (pick us idx)
  | [] => .nil
  | i :: is => by
    have ih := pick_vals r is
    unfold pick at ih ⊢
    rw [List.filterMap_cons, List.filterMap_cons]
    cases e : xs[i]? with
    | none =>
      have : us[i]? = none := by
        rw [List.getElem?_eq_none_iff] at e ⊢
        rw [← r.length]; exact e
      rw [this]; exact ih
    | some x =>
      obtain ⟨u, hu, hr⟩ := r.get e
      rw [hu]; exact .cons hr ih
theorem pick_reps {T : Tx0} {io : Io} {G : Hp} {xs : List V} {us : List D} (r : Reps T io G xs us) : ∀ idx : List Nat, Reps T io G (pick xs idx) (pick us idx)
  | [] => .nil
  | i :: is => by
    have ih := pick_reps r is
    unfold pick at ih ⊢
    rw [List.filterMap_cons, List.filterMap_cons]
    cases e : xs[i]? with
    | none =>
      have : us[i]? = none := by
        rw [List.getElem?_eq_none_iff] at e ⊢
        rw [← r.length]; exact e
      rw [this]; exact ih
    | some x =>
      obtain ⟨u, hu, hr⟩ := r.get' e
      rw [hu]; exact .cons hr ih
def mPick (idx : List Nat) (dz : List D) (ml mk : M (List D)) : M (List D) := M.bind ml fun us => M.bind mk fun ws => M.pure (pick (us ++ dz ++ ws) idx)
/-- a call's shape: n values, the keywords ks, the defaults: what is bound -/
def KShape (dd : He.DefD) (ps : List Str) (n : Nat) (ks : List Str) (idx : List Nat) : Prop := ∀ (dt : Addr) (kV doc pm : Value) (an : Option Addr) (cdv ct : Value) (us its ws : List Value), us.length = n → its.length = dd.dfl.length → ws.length = ks.length →
  (dd.dfl = [] → bindArgs (PySem.W.fnOf dd.name dd.qual dd.params dd.body dd.scope .none kV doc pm an cdv ct) ⟨us, ks.zip ws⟩ = pure (ps.zip (pick (us ++ its ++ ws) idx))) ∧
  (dd.dfl ≠ [] → ∃ k, bindArgs (PySem.W.fnOf dd.name dd.qual dd.params dd.body dd.scope (.ref dt) kV doc pm an cdv ct) ⟨us, ks.zip ws⟩ = seqItems? (.ref dt) >>= k ∧ k (some its.toArray) = pure (ps.zip (pick (us ++ its ++ ws) idx)))
/-- what a keyword call binds, over the data's own text -/
structure KBd (K : PySem.W.Frag) (fd : FuncData) (ps : List Str) (n : Nat) (ks : List Str) (dvs : List V) (idx : List Nat) : Prop where
  to : ∃ its : List Value, Vals dvs its ∧ ∀ (s : Shared) (us ws : List Value), K.In s.heap → us.length = n → ws.length = ks.length → BindsTo s fd ⟨us, ks.zip ws⟩ (ps.zip (pick (us ++ its ++ ws) idx))
section
variable {T : Tx} {W : WX} {X : Cx} {dd : He.DefD} {ps ks : List Str} {F : Fn} {k0 n : Nat} {idx : List Nat} {es : List Expr} {kws : List Keyword} {ml mk : M (List D)} {dz : List D} {pos p : Pos} {fd : FuncData} {f : Addr} {K : PySem.W.Frag}
theorem kbd_of (FU : FunD K dd.name dd.qual dd.params dd.body dd.scope (dd.dvs K) (dd.kws K) f fd) (sh : KShape dd ps n ks idx) : KBd K fd ps n ks (dd.dvs K) idx := by
  obtain ⟨oc, od, dV, kV, doc, pm, an, cdv, ct, osl, rfl, lk, hcd, hD, hK⟩ := FU.ex
  have le : (dd.dvs K).length = dd.dfl.length := by unfold He.DefD.dvs; simp
  rcases hD with ⟨e, rfl⟩ | ⟨ne, dt, o, its, m, rfl, lT, oT, rT⟩
  · have e0 : dd.dfl = [] := by
      have := congrArg List.length e
      rw [le] at this
      exact List.eq_nil_of_length_eq_zero this
    refine ⟨[], by rw [e]; exact .nil, fun s us ws X l1 l2 => .of_eq ?_⟩
    exact (sh 0 kV doc pm an cdv ct us [] ws l1 (by rw [e0]; rfl) l2).1 e0
  · have e0 : dd.dfl ≠ [] := fun z => ne (by unfold He.DefD.dvs; rw [z]; rfl)
    refine ⟨its, rT, fun s us ws X l1 l2 => ?_⟩
    obtain ⟨k, e1, e2⟩ := (sh dt kV doc pm an cdv ct us its ws l1 (rT.length.symm.trans le) l2).2 e0
    refine L2.BindsTo.of_looks fun M => ?_
    rw [e1]
    exact looks_items X lT oT (.of_pure e2)
theorem dk_nil : PK X [] (tDs T W mNil) := ⟨fun pos pins s σ H Q I ⟨x, sx, k, h⟩ => pk_nil.run pos pins s σ H Q I (h x [] H k (.refl _ _) .nil)⟩
theorem dk_cons {e : Expr} {nm : Option Str} {kpos : Pos} {ma : M D} {mr : M (List D)} (ha : PE X e (tD T W ma)) (hr : PK X kws (tDs T W mr)) : PK X (⟨nm, e, kpos⟩ :: kws) (tDs T W (mCons ma mr)) :=
  ⟨fun pos pins s σ H Q I h => (pk_cons ha hr).run pos pins s σ H Q I (tDs_cons h)⟩
theorem de_callK (d : DefOk T X.prog X.mg X.base k0 dd ps F) (hK : X.K = T.K) (hw : X.w = T.w) (tk : Takes X W) (gd : X.A.guards = some []) (hr : Room k0 X.A) (hg : Gl X dd.name) (sh : KShape dd ps n ks idx) (rz : ∀ io G, Reps T io G (dd.dvs T.K) dz) (ha : PA X es (tDs T W ml)) (hk : PK X kws (tDs T W mk))
    (hlen : ∀ s ds s', ml s = .ok ds s' → ds.length = n) (hlenK : ∀ s ds s', mk s = .ok ds s' → ds.length = ks.length) (hps : ∀ l : List D, l.length = n + dz.length + ks.length → (pick l idx).length = ps.length)
    (hes : (es = [] ∧ ml = mNil) ∨ ∃ e r, es = e :: r ∧ starEach (e :: r) X.env = (false, eval e X.env) :: starEach r X.env)
    (hall : (backToKw pos (keywordEach kws X.env)).all (·.1.isSome) = true := by rfl) (hks : (backToKw pos (keywordEach kws X.env)).filterMap (·.1) = ks := by rfl) (hdb : (dd.name == ("__debug__" : Str)) = false := by decide)
    (hpl : ((backTo pos (starEach es X.env)).any (·.1) || (backToKw pos (keywordEach kws X.env)).any (·.1.isNone)) = false := by rfl) :
    PE X (.Call (.Name dd.name p) es kws pos) (tD T W (mCall F (mPick idx dz ml mk))) := by
  obtain ⟨f, fd, hm, FU, _, FO⟩ := d.ex
  have hkp := FU.kp
  obtain ⟨its, rV, hb⟩ := (kbd_of FU sh).to
  rw [← hK, ← hw] at FO
  rw [← hK] at hkp
  refine ⟨fun pins s σ H Q I h => ?_⟩
  obtain ⟨x, sx, k, h⟩ := h
  unfold mCall mPick M.bind at h
  refine wpAny_Call_Name_kw (ld_glob I hg hm ?_ hdb)
  -- behind the values
  have mid : ∀ {us : List Value} {vs : List V} {s1 : Shared} {H1 : Hp} {x1 : Gh} {sx1 : Sx} {ds : List D}, L2.Inv X pins σ H1 s1 → Vals vs us → Ok T x1 sx1 σ H1 → Stp x H x1 H1 → Reps T x1.io x1.G vs ds → ml sx = .ok ds sx1 →
      wpAny (model X.prog X.w) X.A (evalAll ((backToKw pos (keywordEach kws X.env)).map (·.2))) (fun ws s2 => X.K.In s2.heap ∧ wpAny (model X.prog X.w) X.A (call (.ref f) ([] ++ us) (((backToKw pos (keywordEach kws X.env)).filterMap (·.1)).zip ws)) (EP X pins σ Q) X.xe s2) X.xe s1 := by
    intro us vs s1 H1 x1 sx1 ds I1 rv k1 st1 r1 em
    rw [em] at h
    simp only at h
    have hmk : tDs T W mk σ H1 fun zs H2 => ∃ x2 sx2 es2, Ok T x2 sx2 σ H2 ∧ Stp x1 H1 x2 H2 ∧ Reps T x2.io x2.G zs es2 ∧ mk sx1 = .ok es2 sx2 := by
      refine ⟨x1, sx1, k1, ?_⟩
      cases en : mk sx1 with
      | ok es2 sx2 => exact fun y vs H2 k2 st2 r2 => ⟨y, sx2, es2, k2, st2, r2, rfl⟩
      | exc c ns vs sto => rw [en] at h; exact h.back st1
      | bad => rw [en] at h; exact h
    refine thn (hk.run pos pins s1 σ H1 _ I1 hmk) fun ws s2 ⟨zs, H2, I2, rz2, x2, sx2, es2, k2, st2, r2, en⟩ => ⟨I2.kIn, ?_⟩
    rw [hks, List.nil_append]
    have l1 : us.length = n := rv.length.symm.trans (r1.length.trans (hlen _ _ _ em))
    have l2 : ws.length = ks.length := rz2.length.symm.trans (r2.length.trans (hlenK _ _ _ en))
    rw [en] at h
    simp only at h
    have rall : Reps T x2.io x2.G (vs ++ dd.dvs T.K ++ zs) (ds ++ dz ++ es2) := ((r1.mono st2.io st2.le).append (rz _ _)).append r2
    have vall : Vals (vs ++ dd.dvs T.K ++ zs) (us ++ its ++ ws) := (rv.append rV).append rz2
    have KX : T.K.In s2.heap := by rw [← hK]; exact I2.kIn
    refine wpAny_call (codeAny_mono (FO.run X.A X.stack s2 H2 ⟨us, ks.zip ws⟩ (pick (us ++ its ++ ws) idx) (pick (vs ++ dd.dvs T.K ++ zs) idx) Q (WE W σ) gd hr I2.env0 (hb s2 us ws KX l1 l2) (pick_vals vall idx) (call_read k2 (pick_reps rall idx) ?_ ?_)) fun r s' hq => ?_)
    · rw [(pick_reps rall idx).length]
      have a1 := hlen _ _ _ em
      have a2 := hlenK _ _ _ en
      exact hps _ (by rw [List.length_append, List.length_append, a1, a2])
    · have h : (match (match F (pick (ds ++ dz ++ es2) idx) sx2.sto with
          | .rt d sto => R.ok d { sx2 with sto := sto }
          | .ro xs sto => .ok (.lst xs) { sx2 with sto := sto }
          | .exc c ns vs sto => .exc c ns vs sto
          | _ => .bad) with
        | .ok d s' => ∀ x' v H', Ok T x' s' σ H' → Stp x H x' H' → Rep T x'.io x'.G v d → Q v H'
        | .exc c ns vs sto => XP T W x σ H c ns vs sto
        | .bad => False) := h
      cases e2 : F (pick (ds ++ dz ++ es2) idx) sx2.sto with
      | rt d sto => rw [e2] at h; exact fun x3 v H3 k3 st3 r3 => h x3 v H3 k3 (st1.trans (st2.trans st3)) r3
      | ro xs sto =>
        rw [e2] at h
        intro x3 a3 H3 k3 st3 o
        obtain ⟨x4, k4, st4, r4⟩ := o.share k3
        exact h x4 _ H3 k4 (st1.trans (st2.trans (st3.trans st4))) r4
      | exc c ns vs sto => rw [e2] at h; exact h.back (st1.trans st2)
      | nx _ => rw [e2] at h; exact h.elim
      | bk _ => rw [e2] at h; exact h.elim
      | ct _ => rw [e2] at h; exact h.elim
      | bad => rw [e2] at h; exact h.elim
    · match r, hq with
      | .error e, hq => exact passAt tk σ pins H2 s2 e s' I2 hq
      | .ok (.ret u), hq => exact I2.after hq
  rcases hes with ⟨rfl, rfl⟩ | ⟨e, r, rfl, he⟩
  · exact PySem.W.callWith_KW0 (h₀ := X.base) I.ok.mod.kin hkp hall (mid I .nil k (.refl _ _) .nil rfl) hpl
  · have hml : tDs T W ml σ H fun vs H1 => ∃ x1 sx1 ds, Ok T x1 sx1 σ H1 ∧ Stp x H x1 H1 ∧ Reps T x1.io x1.G vs ds ∧ ml sx = .ok ds sx1 := by
      refine ⟨x, sx, k, ?_⟩
      cases em : ml sx with
      | ok ds sx1 => exact fun y vs H1 k2 st2 r2 => ⟨y, sx1, ds, k2, st2, r2, rfl⟩
      | exc c ns vs sto => rw [em] at h; exact h
      | bad => rw [em] at h; exact h
    refine PySem.W.callWith_KW (h₀ := X.base) I.ok.mod.kin hkp hall (thn (ha.run pos pins s σ H _ I hml) fun us s1 ⟨vs, H1, I1, rv, x1, sx1, ds, k1, st1, r1, em⟩ => mid I1 rv k1 st1 r1 em) hpl he
end
/-! ### {} -/
section
variable {T : Tx} {W : WX} {X : Cx} {pos : Pos}
def mDic0 : M D := M.pure (.dic [] [])
theorem de_dic0 : PE X (.Dict [] [] pos) (tD T W mDic0) := PE.imp pe_dnewK fun σ H Q ⟨x, s, k, h⟩ => fun p hp => by
  have gr : Grow x.G H (L2.upd x.G p (.dK [])) (L2.upd H p (.dK [])) := Grow.one k.bx.sub hp
  exact h _ (.ref p) _ (k.grow gr) gr.stp (.dic (G := L2.upd x.G p (.dK [])) (vs := []) (.inl upd_same) rfl .nil .nil)
end
/-! ### what the head tells -/
section
variable {T : Tx} {mg : Str → Option Value} {fa : List He.Fa} {fn : List He.DefD} {ts : List He.Tab} {tf : List He.Defn} {cs : List Con}
theorem Facts.ecl (M : Facts T mg fa fn ts tf cs) (j : Nat) {x f : Str} (h : cs[j]? = some (.ecl x f)) : OexC T.K (He.ga T.K x) ∧ PySem.W.findIn T.K (.ref (He.ga T.K x)) "__init__" = some (some (.ref (He.ma T.K (He.ga T.K x) "__init__"))) ∧
    PySem.W.typeIn T.K (.ref (He.ma T.K (He.ga T.K x) "__init__")) = some (.type "function") ∧ PySem.W.findIn T.K (.ref (He.ga T.K x)) f = some none := by
  have b := M.con j h
  unfold Con.ok at b
  simp only [Bool.and_eq_true, decide_eq_true_eq] at b
  exact ⟨oexOk_ok b.1, b.2.1, b.2.2.1, b.2.2.2⟩
theorem lookup_mem_ {α : Type} {c : Str} {b : α} : ∀ {l : List (Str × α)}, l.lookup c = some b → (c, b) ∈ l
  | [], h => by cases h
  | (k, v) :: r, h => by
    simp only [List.lookup] at h
    split at h
    · rename_i q
      cases h
      rw [beq_iff_eq.mp q]; exact List.mem_cons_self
    · exact List.mem_cons_of_mem _ (lookup_mem_ h)
theorem Facts.tree (M : Facts T mg fa fn ts tf cs) (j : Nat) {y : Str} {tbl : List (Str × Bool)} (h : cs[j]? = some (.tree y tbl)) : PySem.W.kitOne T.K (.type "NoneType") (.ref (He.ga T.K y)) = some false ∧
    ∀ c b, tbl.lookup c = some b → (XCls T.K (T.ca c) ∧ PySem.W.kitOne T.K (.ref (T.ca c)) (.ref (He.ga T.K y)) = some b) ∧ PySem.W.exmOne T.K (.ref (T.ca c)) (.ref (He.ga T.K y)) = some b := by
  have b := M.con j h
  unfold Con.ok at b
  simp only [Bool.and_eq_true, decide_eq_true_eq, List.all_eq_true] at b
  refine ⟨b.1, fun c bb e => ?_⟩
  have z := b.2 _ (lookup_mem_ e)
  rw [M.ca]
  exact ⟨⟨xclsB_ok z.1, z.2.1⟩, z.2.2⟩
theorem Facts.fld (M : Facts T mg fa fn ts tf cs) (j : Nat) {n : Str} {l : List Str} (h : cs[j]? = some (.fld l n)) : ∀ c, l.contains c = true → XfC T.K (T.ca c) ∧ PySem.W.findIn T.K (.ref (T.ca c)) n = some none := by
  have b := M.con j h
  unfold Con.ok at b
  simp only [Bool.and_eq_true, decide_eq_true_eq, List.all_eq_true] at b
  intro c hc
  have z := b c (by simpa using hc)
  rw [M.ca]
  exact ⟨xfB_ok z.1, z.2⟩
end
/-- the tables of the defs tf, their lambdas' names tq -/
structure Lams (T : Tx) (mg : Str → Option Value) (base : Heap) (tf : List He.Defn) (tq : List Str) : Prop where
  tb : T.tb = (tf.zip tq).map fun p => ((He.cT T.K p.1).2, p.2)
  at_ : TabsAt base mg (tf.map (He.cT T.K))
  nd : (tf.map fun p => (He.cT T.K p).2).Nodup
section
variable {T : Tx} {mg : Str → Option Value} {base : Heap} {tf : List He.Defn} {tq : List Str}
theorem Lams.tab (B : Lams T mg base tf tq) (i : Nat) {p : He.Defn} (h : tf[i]? = some p) : LamX.TabB base mg (He.codeOf T.K p) (He.cT T.K p).2 := B.at_ (He.cT T.K p) (List.mem_map.mpr ⟨p, List.mem_of_getElem? h, rfl⟩)
theorem Lams.mem (B : Lams T mg base tf tq) (i : Nat) {p : He.Defn} {q : Str} (h : tf[i]? = some p) (h2 : tq[i]? = some q) : ((He.cT T.K p).2, q) ∈ T.tb := by
  rw [B.tb]
  exact List.mem_map.mpr ⟨(p, q), List.mem_of_getElem? (i := i) (by rw [List.getElem?_zip_eq_some]; exact ⟨h, h2⟩), rfl⟩
theorem Lams.un (B : Lams T mg base tf tq) (i : Nat) {p : He.Defn} {q : Str} (h : tf[i]? = some p) (h2 : tq[i]? = some q) : ∀ r ∈ T.tb, r.1 = (He.cT T.K p).2 → r.2 = q := by
  rw [B.tb]
  intro r hr e
  obtain ⟨z, hz, rfl⟩ := List.mem_map.mp hr
  obtain ⟨j, hj⟩ := List.mem_iff_getElem?.mp hz
  rw [List.getElem?_zip_eq_some] at hj
  have e2 : (tf.map fun p => (He.cT T.K p).2)[j]? = (tf.map fun p => (He.cT T.K p).2)[i]? := by
    rw [List.getElem?_map, List.getElem?_map, hj.1, h]
    exact congrArg some e
  have hl : j < (tf.map fun p => (He.cT T.K p).2).length := by
    rw [List.length_map]; exact (List.getElem?_eq_some_iff.mp hj.1).1
  have ij : j = i := (List.getElem?_inj hl B.nd).mp e2
  subst ij
  have := hj.2
  rw [h2] at this
  exact (Option.some.inj this).symm
end
/-- a class's i-th statement -/
def clsAt (s : Stmt) (i : Nat) : Stmt := match s with
  | .ClassDef (body := b) .. => b.getD i (.Pass ⟨0, 0, 0, 0⟩)
  | _ => .Pass ⟨0, 0, 0, 0⟩
theorem tabE_of {K : PySem.W.Frag} {fa : List He.Fa} {fn : List He.DefD} {ts : List He.Tab} {tf : List He.Defn} {ex : PySem.W.Frag → Bool} {w : World} {h : Heap} (KX : K.In h) (c : He.SaysX fa fn ts tf ex w h K) : TabE K h (tf.map (He.cT K)) := by
  refine ⟨fun p hp => ?_, fun p hp => ?_, fun p hp => ?_⟩ <;> obtain ⟨q, hq, rfl⟩ := List.mem_map.mp hp
  · exact c.empty q hq
  · exact c.out q hq
  · exact PySem.W.codeHd_of_K KX (c.hd q hq)
theorem lams_of {K : PySem.W.Frag} {w : World} {ca : Str → Addr} {tf : List He.Defn} {tq : List Str} {mg : Str → Option Value} {base : Heap} {cs : List Con} (b : exOf cs K = true) (j : Nat) (h : cs[j]? = some (.apart tf)) (at_ : TabsAt base mg (tf.map (He.cT K))) :
    Lams { K := K, w := w, ca := ca, tb := (tf.zip tq).map fun p => ((He.cT K p.1).2, p.2) } mg base tf tq :=
  ⟨rfl, at_, of_decide_eq_true (List.all_eq_true.mp b _ (List.mem_of_getElem? h))⟩
theorem tb_in {K : PySem.W.Frag} {tf : List He.Defn} {tq : List Str} : ∀ p ∈ (tf.zip tq).map fun p => ((He.cT K p.1).2, p.2), p.1 ∈ (tf.map (He.cT K)).map (·.2) := by
  intro p hp
  obtain ⟨z, hz, rfl⟩ := List.mem_map.mp hp
  exact List.mem_map.mpr ⟨_, List.mem_map.mpr ⟨z.1, (List.of_mem_zip (show (z.1, z.2) ∈ tf.zip tq from hz)).1, rfl⟩, rfl⟩
end Ev

/-! E28: what is never reached; constants; all, any, sum, tuple, list, str of data; texts walked, split, compared; repetition. -/
namespace Ev
open PySem PySem.Spec L2
/-! ### never reached -/
section
variable {T : Tx} {P : Program} {mg : Str → Option Value} {base : Heap} {f : Addr} {fd : FuncData} {ps : List Str} {k : Nat}
def fBad : Fn := fun _ _ => .bad
theorem def_zero {dd : He.DefD} (F : FunD T.K dd.name dd.qual dd.params dd.body dd.scope (dd.dvs T.K) (dd.kws T.K) f fd) (hm : mg dd.name = some (.ref f))
    (hb : dd.dfl = [] → ∀ (kV doc pm : Value) (an : Option Addr) (cdv ct : Value) (us : List Value), us.length = ps.length → bindArgs (PySem.W.fnOf dd.name dd.qual dd.params dd.body dd.scope .none kV doc pm an cdv ct) ⟨us, []⟩ = pure (ps.zip us)) : DefOk T P mg base k dd ps fBad := by
  refine ⟨f, fd, hm, F, fun h0 => ?_, ⟨fun vs H Q E ⟨_, _, _, _, _, _, h, _⟩ => h, fun A outer s H args us vs Q E gd hr e0 hb' r ⟨_, _, _, _, _, _, _, h⟩ => h.elim⟩⟩
  have F0 := F
  have e0 : dd.dvs T.K = [] := by unfold He.DefD.dvs; rw [h0]; rfl
  rw [e0] at F0
  exact F0.bindsN (hb h0)
end
section
variable {T : Tx} {W : WX} {X : Cx} {e a b : Expr} {es : List Expr} {ml : M (List D)} {ma mb : M D} {pos : Pos}
def gNone : List D → Option D := fun _ => none
theorem p_none {r : List V → Hp → VK → Prop} : PL T r gNone := fun _ _ _ _ _ _ _ _ _ q _ => by cases q
theorem call_none {f : Value} : CallR X f (fun _ _ _ => False) := fun _ _ _ _ _ _ _ _ _ h => h.elim
/-! ### constants -/
theorem de_val {y : Str} {d : D} {pos : Pos} (h : ∃ u, X.mg y = some u ∧ RelV (vOf u) u ∧ ∀ io G, Rep T io G (vOf u) d) (hg : Gl X y) (hd : (y == ("__debug__" : Str)) = false := by decide) : PE X (.Name y pos) (tD T W (mC d)) := by
  obtain ⟨u, h1, h2, h3⟩ := h
  exact de_glob hg h1 h2 h3 hd
/-! ### all, any, sum -/
def asBs : List D → Option (List Bool)
  | [] => some []
  | .bl b :: r => (asBs r).map (b :: ·)
  | _ => none
def asIs : List D → Option (List Int)
  | [] => some []
  | .int b :: r => (asIs r).map (b :: ·)
  | _ => none
theorem Reps.bls {io : Io} {G : Hp} : ∀ {vs : List V} {ds : List D} {bs : List Bool}, Reps T io G vs ds → asBs ds = some bs → vs = bs.map V.bl
  | _, _, _, .nil, h => by cases h; rfl
  | _, _, _, .cons (d := d) a r, h => by
    cases d <;> first | cases h; done | skip
    rename_i b
    unfold asBs at h
    obtain ⟨bs, e, rfl⟩ := Option.map_eq_some_iff.mp h
    cases a
    rw [Reps.bls r e]; rfl
theorem Reps.ints' {io : Io} {G : Hp} : ∀ {vs : List V} {ds : List D} {bs : List Int}, Reps T io G vs ds → asIs ds = some bs → vs = bs.map V.int
  | _, _, _, .nil, h => by cases h; rfl
  | _, _, _, .cons (d := d) a r, h => by
    cases d <;> first | cases h; done | skip
    rename_i b
    unfold asIs at h
    obtain ⟨bs, e, rfl⟩ := Option.map_eq_some_iff.mp h
    cases a
    rw [Reps.ints' r e]; rfl
def gAll : List D → Option D
  | [.lst xs] => (asBs xs).map fun bs => .bl (bs.all id)
  | _ => none
def gAny : List D → Option D
  | [.lst xs] => (asBs xs).map fun bs => .bl (bs.any id)
  | _ => none
def gSum : List D → Option D
  | [.lst xs] => (asIs xs).map fun bs => .int bs.sum
  | _ => none
theorem p_all (hK : X.K = T.K) : PL T (rAll X.K) gAll := fun io G vs ds z H Q r le q k => by
  unfold gAll at q
  split at q
  · rename_i xs
    obtain ⟨bs, e, rfl⟩ := Option.map_eq_some_iff.mp q
    cases r with
    | cons r1 r2 =>
      cases r2; cases r1 with
      | lst sq rs => exact ⟨_, bs, rfl, by rw [hK, ← rs.bls e]; exact le.sqL sq, k G _ H (.refl le) (.bl _)⟩
  · cases q
theorem p_any (hK : X.K = T.K) : PL T (rAny X.K) gAny := fun io G vs ds z H Q r le q k => by
  unfold gAny at q
  split at q
  · rename_i xs
    obtain ⟨bs, e, rfl⟩ := Option.map_eq_some_iff.mp q
    cases r with
    | cons r1 r2 =>
      cases r2; cases r1 with
      | lst sq rs => exact ⟨_, bs, rfl, by rw [hK, ← rs.bls e]; exact le.sqL sq, k G _ H (.refl le) (.bl _)⟩
  · cases q
theorem p_sum (hK : X.K = T.K) : PL T (rSum X.K) gSum := fun io G vs ds z H Q r le q k => by
  unfold gSum at q
  split at q
  · rename_i xs
    obtain ⟨bs, e, rfl⟩ := Option.map_eq_some_iff.mp q
    cases r with
    | cons r1 r2 =>
      cases r2; cases r1 with
      | lst sq rs => exact ⟨_, bs, rfl, by rw [hK, ← rs.ints' e]; exact le.sqL sq, k G _ H (.refl le) (.int _)⟩
  · cases q
/-! ### tuple(x), list(x), str(x) -/
def gTuple : List D → Option D
  | [.lst xs] => some (.tup xs)
  | [.tup xs] => some (.tup xs)
  | _ => none
theorem p_tuple (hK : X.K = T.K) : PL T (fun xs H Q => ∃ p ys, xs = [V.ref p] ∧ ((SqL X.K H p ys ∧ ∀ l, H l = none → Q (.ref l) (L2.upd H l (.tup ys))) ∨ (SqT X.K H p ys ∧ Q (.ref p) H))) gTuple := fun io G vs ds z H Q r le q k => by
  unfold gTuple at q
  split at q
  · cases q
    cases r with
    | cons r1 r2 =>
      cases r2; cases r1 with
      | @lst _ ys _ sq rs =>
        refine ⟨_, _, rfl, .inl ⟨by rw [hK]; exact le.sqL sq, fun l hl => ?_⟩⟩
        have gr : Grow G H (L2.upd G l (.tup ys)) (L2.upd H l (.tup ys)) := Grow.one le hl
        exact k _ _ _ gr (.tup (.inl (.inl upd_same)) (rs.up gr.g))
  · cases q
    cases r with
    | cons r1 r2 =>
      cases r2; cases r1 with
      | tup sq rs => exact ⟨_, _, rfl, .inr ⟨by rw [hK]; exact le.sqT sq, k G _ H (.refl le) (.tup sq rs)⟩⟩
  · cases q
def gList : List D → Option D
  | [.lst xs] => some (.lst xs)
  | [.tup xs] => some (.lst xs)
  | _ => none
theorem p_list (hK : X.K = T.K) : PL T (fun xs H Q => ∃ p ys, xs = [V.ref p] ∧ (SqL X.K H p ys ∨ SqT X.K H p ys) ∧ ∀ l, H l = none → Q (.ref l) (L2.upd H l (.lst ys))) gList := fun io G vs ds z H Q r le q k => by
  have fin : ∀ {ys : List V} {xs : List D}, Reps T io G ys xs → ∀ l, H l = none → z = .lst xs → Q (.ref l) (L2.upd H l (.lst ys)) := fun {ys xs} rs l hl e => by
    subst e
    have gr : Grow G H (L2.upd G l (.lst ys)) (L2.upd H l (.lst ys)) := Grow.one le hl
    exact k _ _ _ gr (.lst (.inl (.inl upd_same)) (rs.up gr.g))
  unfold gList at q
  split at q
  · cases q
    cases r with
    | cons r1 r2 =>
      cases r2; cases r1 with
      | lst sq rs => exact ⟨_, _, rfl, .inl (by rw [hK]; exact le.sqL sq), fun l hl => fin rs l hl rfl⟩
  · cases q
    cases r with
    | cons r1 r2 =>
      cases r2; cases r1 with
      | tup sq rs => exact ⟨_, _, rfl, .inr (by rw [hK]; exact le.sqT sq), fun l hl => fin rs l hl rfl⟩
  · cases q
def gStr : List D → Option D
  | [.int i] => if i.natAbs.log2 < 1920 then some (.str (toString i)) else none
  | [.str z] => some (.str z)
  | _ => none
theorem p_str : PL T (fun xs H Q => (∃ i, xs = [V.int i] ∧ i.natAbs.log2 < 1920 ∧ Q (.str (toString i)) H) ∨ ∃ a, xs = [V.str a] ∧ Q (.str a) H) gStr := fun io G vs ds z H Q r le q k => by
  unfold gStr at q
  split at q
  · split at q
    · rename_i h
      cases q
      cases r with
      | cons r1 r2 => cases r2; cases r1; exact .inl ⟨_, rfl, h, k G _ H (.refl le) (.str _)⟩
    · cases q
  · cases q
    cases r with
    | cons r1 r2 => cases r2; cases r1; exact .inr ⟨_, rfl, k G _ H (.refl le) (.str _)⟩
  · cases q
theorem call_strA : CallR X (.type "str") (fun xs H Q => (∃ i, xs = [V.int i] ∧ i.natAbs.log2 < 1920 ∧ Q (.str (toString i)) H) ∨ ∃ a, xs = [V.str a] ∧ Q (.str a) H) := call_str_int.or SkE.call_str_str
/-! ### a text walked -/
def signs (z : Str) : List D := z.cps.toList.map fun c => .str ⟨#[c]⟩
theorem src_str {io : Io} {G : Hp} (z : Str) : Src T io G (Its z) (signs z) := by
  have hl : (signs z).length = z.cps.size := by simp [signs]
  refine ⟨fun i H _ hi => by rw [hl] at hi; exact Nat.le_of_eq hi, fun i H _ hi => by rw [hl] at hi; exact hi, fun i H v H' G1 d le le1 hd hy => ?_⟩
  obtain ⟨rfl, c, hc, rfl⟩ := hy
  unfold signs at hd
  rw [List.getElem?_map, ← Array.getElem?_toList] at *
  rw [hc] at hd
  cases hd
  exact ⟨G1, .refl le1, .str _⟩
def itemsS : D → Option (List D)
  | .str z => some (signs z)
  | _ => none
def mItemsS (m : M D) : M (List D) := M.bind m fun d => M.lift (itemsS d)
theorem di_str {tg : Expr} (h : PE X e (tD T W ma)) : PI X tg e (tI T W (mItemsS ma)) :=
  PI.imp (pi_str h) fun σ H R ⟨x, s, k, q⟩ => by
    refine ⟨x, s, k, ?_⟩
    unfold mItemsS M.bind M.lift at q
    cases em : ma s with
    | exc c ns vs sto => rw [em] at q; exact q
    | bad => rw [em] at q; exact q
    | ok d s' =>
      rw [em] at q
      simp only at q
      intro x' v H' k' st r
      cases r with
      | str z => exact ⟨z, rfl, q x' _ H' k' st (src_str z)⟩
      | _ => exact q.elim
/-! ### split -/
def gSplit (x y : D) : Option D := match x, y with
  | .str x, .str y => if (y.length == 0) = false ∧ x.length + 2 ≤ sizeLine then some (.lst ((Txt.split x y).map .str)) else none
  | _, _ => none
theorem Reps.strs {io : Io} {G : Hp} : ∀ ys : List Str, Reps T io G (ys.map V.str) (ys.map D.str)
  | [] => .nil
  | y :: ys => .cons (.str y) (Reps.strs ys)
def mSplit (ma mb : M D) : M D := M.bind ma fun a => match a with
  | .str x => M.bind mb fun b => M.lift (gSplit (.str x) b)
  | _ => fun _ => .bad
theorem de_split {apos : Pos} (ha : PE X a (tD T W ma)) (hb : PE X b (tD T W mb)) (hs : starEach [b] X.env = [(false, eval b X.env)] := by rfl) (hbase : attributeBase a "split" X.env (eval a X.env) = eval a X.env := by rfl) (hline : (apos.endLine == pos.line) = true := by rfl) :
    PE X (.Call (.Attribute a "split" apos) [b] [] pos) (tD T W (mSplit ma mb)) :=
  PE.imp (pe_m1 PySem.F.slot_str_split PySem.F.type_str_split mt_split ha hb hs hbase hline) fun σ H Q h => by
    obtain ⟨x, s, k, h⟩ := h
    refine ⟨x, s, k, ?_⟩
    unfold mSplit M.bind M.lift at h
    cases e1 : ma s with
    | exc c ns vs sto => rw [e1] at h; exact h
    | bad => rw [e1] at h; exact h
    | ok d s1 =>
      rw [e1] at h
      intro x1 v1 H1 k1 st1 r1
      simp only at h
      cases r1 with
      | str y =>
        refine ⟨⟨_, rfl⟩, x1, s1, k1, ?_⟩
        simp only at h
        cases e2 : mb s1 with
        | exc c ns vs sto => rw [e2] at h; exact h.back st1
        | bad => rw [e2] at h; exact h
        | ok d2 s2 =>
          rw [e2] at h
          simp only at h
          intro x2 v2 H2 k2 st2 r2
          cases e3 : gSplit (.str y) d2 with
          | none => rw [e3] at h; exact h.elim
          | some z =>
            rw [e3] at h
            unfold gSplit at e3
            split at e3
            · rename_i p q e4
              cases e4
              split at e3
              · rename_i hc
                cases e3
                cases r2
                refine ⟨_, _, rfl, rfl, hc.1, hc.2, fun l hl => ?_⟩
                have gr : Grow x2.G H2 (L2.upd x2.G l (.lst ((Txt.split y q).map V.str))) (L2.upd H2 l (.lst ((Txt.split y q).map V.str))) := Grow.one k2.bx.sub hl
                exact h _ _ _ (k2.grow gr) (st1.trans (st2.trans gr.stp)) (.lst (.inl (.inl upd_same)) (.strs _))
              · cases e3
            · cases e3
      | _ => exact h.elim
/-! ### order of texts -/
def gLeS (a b : D) : Option D := match a, b with
  | .str i, .str j => some (.bl (!decide (j.cps.toList < i.cps.toList)))
  | _, _ => none
theorem p_leS : P2 T (fun x y H Q => ∃ i j, x = .str i ∧ y = .str j ∧ Q (.bl (!decide (j.cps.toList < i.cps.toList))) H) gLeS := fun io G v u d e z H Q r1 r2 le q k => by
  unfold gLeS at q
  split at q
  · cases q; cases r1; cases r2; exact ⟨_, _, rfl, rfl, k G _ H (.refl le) (.bl _)⟩
  · cases q
theorem pb_leS : PB T (fun x y H Q => ∃ i j, x = .str i ∧ y = .str j ∧ Q (.bl (!decide (j.cps.toList < i.cps.toList))) H) gLeS := fun io G v u d e k H Q r1 r2 le q h => by
  unfold gLeS at q
  split at q
  · cases q; cases r1; cases r2; exact ⟨_, _, rfl, rfl, h⟩
  · cases q
/-! ### repetition -/
open PyProof.Rows in
theorem tup_mul1 (l : Addr) (items : Array Value) (n : Nat) (dd : Option Addr) (sl : Array (Option Value)) (x : Int) (u : Tok) (c0 : (decide (x < -(2 ^ 63)) || decide (x ≥ 2 ^ 63)) = false) (c1 : (items.isEmpty || x == 1) = true) :
    Meets (Builtin.«tuple.__mul__» ⟨[.ref l, .int x u], []⟩) (fun _ R s => s.heap.get? l = some { cls := .type "tuple", dict := dd, data := .seq items n, slots := sl } ∧ R (.ok (.ret (Value.ref l))) s) :=
  .of_wp fun prog w A R s h => by
    obtain ⟨hp, g, d, tk, os⟩ := s
    obtain ⟨hl, h⟩ := h
    have f1 := AutoSeq1.idx_int
    wp_walk using wpAny_loadPart' hl
    repeat (first
      | (refine wpAny_ite_false (decide_eq_false (by rw [c0]; exact Bool.false_ne_true)) ?_; wp_walk using wpAny_loadPart' hl)
      | (refine wpAny_ite_true (decide_eq_true c1) ?_; wp_walk using wpAny_loadPart' hl))
    exact ⟨_, rfl, h⟩
open PyProof.Rows in
theorem tup_mul0 (l : Addr) (items : Array Value) (n : Nat) (dd : Option Addr) (sl : Array (Option Value)) (x : Int) (u : Tok) (c0 : (decide (x < -(2 ^ 63)) || decide (x ≥ 2 ^ 63)) = false) (c1 : (items.isEmpty || x == 1) = false) (c2 : (decide (x ≤ 0) || items.isEmpty) = true) :
    Meets (Builtin.«tuple.__mul__» ⟨[.ref l, .int x u], []⟩) (fun _ R s => s.heap.get? l = some { cls := .type "tuple", dict := dd, data := .seq items n, slots := sl } ∧ R (.ok (.ret (Value.ref s.heap.objs.size))) { s with heap := s.heap.push { cls := Value.type "tuple", data := Data.seq #[] }, toks := s.toks }) :=
  .of_wp fun prog w A R s h => by
    obtain ⟨hp, g, d, tk, os⟩ := s
    obtain ⟨hl, h⟩ := h
    have f1 := AutoSeq1.idx_int
    wp_walk using wpAny_loadPart' hl
    repeat (first
      | (refine wpAny_ite_false (decide_eq_false (by rw [c0]; exact Bool.false_ne_true)) ?_; wp_walk using wpAny_loadPart' hl)
      | (refine wpAny_ite_false (decide_eq_false (by rw [c1]; exact Bool.false_ne_true)) ?_; wp_walk using wpAny_loadPart' hl)
      | (refine wpAny_ite_true (decide_eq_true c2) ?_; wp_walk using wpAny_loadPart' hl))
    exact ⟨_, rfl, h⟩
/-- tuple * int -/
def rRepTA (K : PySem.W.Frag) : R2 := fun x y H Q => ∃ l k xs, x = .ref l ∧ y = .int k ∧ SqT K H l xs ∧ k ≤ 1000 ∧ -1000 ≤ k ∧ xs.length ≤ 1000 ∧ ((xs = [] ∨ k = 1) ∧ Q (.ref l) H ∨ (xs ≠ [] ∧ k ≠ 1) ∧ ∀ p, H p = none → Q (.ref p) (L2.upd H p (.tup (List.replicate k.toNat xs).flatten)))
open PyProof.Rows in
theorem op_repTA : OpR X (binaryOp .Mult) (rRepTA X.K) := by
  intro pins s σ H x y v u Q I rx ry h
  obtain ⟨l, k, xs, rfl, rfl, hT, h1, h0, hz, hc⟩ := h
  by_cases h2 : 2 ≤ k ∧ xs ≠ []
  · rcases hc with ⟨hc, q⟩ | ⟨_, q⟩
    · rcases hc with hc | hc
      · exact absurd hc h2.2
      · omega
    · exact op_repT pins s σ H _ _ v u Q I rx ry ⟨l, k, xs, rfl, rfl, hT, h2.2, h2.1, h1, hz, q⟩
  cases rx
  obtain ⟨t, rfl⟩ := ry
  obtain ⟨its, r, ⟨⟨cls, dd, data, sl⟩, ho, hcl, n, hd⟩, hs⟩ := I.tuple hT
  simp only at hcl hd
  subst hcl hd
  have hle : its.length = xs.length := r.length.symm
  have c0 : (decide (k < -(2 ^ 63)) || decide (k ≥ 2 ^ 63)) = false := by
    rw [decide_eq_false (by omega), decide_eq_false (by omega)]; rfl
  have emp : its.toArray.isEmpty = decide (xs = []) := by
    cases its with
    | nil => have : xs = [] := List.eq_nil_of_length_eq_zero hle.symm; rw [this]; rfl
    | cons a b => cases xs with
      | nil => simp at hle
      | cons => rfl
  rcases hc with ⟨hc, q⟩ | ⟨hc, q⟩
  · have c1 : (its.toArray.isEmpty || k == 1) = true := by
      rw [emp]
      rcases hc with hc | hc
      · rw [hc]; rfl
      · rw [hc]; simp
    refine wpAny_binaryOp_repeat_ref (T := "tuple") (U := "int") (by decide) ⟨_, ho, rfl⟩ (fun s' => typeIs_int s' k t) noFill_tuple_mul F.fills_int_mul F.slot_int_rmul repeat_tuple F.slot_int_index.lookup
      (call_meets F.slot_int_rmul (typeIs_int s k t) F.entry_int_rmul (F.args_int_rmul_2 _ _) (int_rmul_tuple k t l its.toArray n dd sl)
        ⟨ho, rfl, ⟨_, ho, rfl⟩, call_meets F.slot_tuple_mul ⟨_, ho, rfl⟩ F.entry_tuple_mul (F.args_tuple_mul_2 _ _) (tup_mul1 l its.toArray n dd sl k t c0 c1) ⟨ho, ?_⟩⟩)
    exact ⟨.ref l, H, I.kept (t' := s.toks) fun _ _ q => q, rfl, q⟩
  · have hk0 : k ≤ 0 := by
      refine Int.not_lt.mp fun z => h2 ⟨?_, hc.1⟩
      have := hc.2
      omega
    have c1 : (its.toArray.isEmpty || k == 1) = false := by
      rw [emp, decide_eq_false hc.1, Bool.false_or]
      exact beq_eq_false_iff_ne.mpr hc.2
    have c2 : (decide (k ≤ 0) || its.toArray.isEmpty) = true := by rw [decide_eq_true hk0]; rfl
    refine wpAny_binaryOp_repeat_ref (T := "tuple") (U := "int") (by decide) ⟨_, ho, rfl⟩ (fun s' => typeIs_int s' k t) noFill_tuple_mul F.fills_int_mul F.slot_int_rmul repeat_tuple F.slot_int_index.lookup
      (call_meets F.slot_int_rmul (typeIs_int s k t) F.entry_int_rmul (F.args_int_rmul_2 _ _) (int_rmul_tuple k t l its.toArray n dd sl)
        ⟨ho, rfl, ⟨_, ho, rfl⟩, call_meets F.slot_tuple_mul ⟨_, ho, rfl⟩ F.entry_tuple_mul (F.args_tuple_mul_2 _ _) (tup_mul0 l its.toArray n dd sl k t c0 c1 c2) ⟨ho, ?_⟩⟩)
    have ek : k.toNat = 0 := by omega
    rw [ek] at q
    exact ⟨.ref s.heap.objs.size, _, I.laid (t' := s.toks) (o := .tup []) (fun b ob q => Heap.get?_push_of_some _ q) (Nat.le_refl _) ⟨Nat.zero_le _, [], .nil, IsTup.new _ _⟩, rfl, q _ (I.hok.fresh (Nat.le_refl _))⟩
def gRepT (a b : D) : Option D := match a, b with
  | .tup xs, .int k => if k ≤ 1000 ∧ -1000 ≤ k ∧ xs.length ≤ 1000 then some (.tup (List.replicate k.toNat xs).flatten) else none
  | _, _ => none
theorem Reps.rep {io : Io} {G : Hp} {vs : List V} {ds : List D} (r : Reps T io G vs ds) : ∀ n : Nat, Reps T io G (List.replicate n vs).flatten (List.replicate n ds).flatten
  | 0 => .nil
  | n + 1 => by
    rw [List.replicate_succ, List.replicate_succ, List.flatten_cons, List.flatten_cons]
    exact r.append (Reps.rep r n)
theorem p_repT (hK : X.K = T.K) : P2 T (rRepTA X.K) gRepT := fun io G v u d e z H Q r1 r2 le q k => by
  unfold gRepT at q
  split at q
  · rename_i xs n
    split at q
    · rename_i hc
      cases q
      cases r2
      cases r1 with
      | @tup p vs _ sq rs =>
        have hl := rs.length
        by_cases hh : vs = [] ∨ n = 1
        · refine ⟨p, n, vs, rfl, rfl, by rw [hK]; exact le.sqT sq, hc.1, hc.2.1, by omega, .inl ⟨hh, k G _ H (.refl le) ?_⟩⟩
          refine .tup sq ?_
          rcases hh with rfl | rfl
          · cases rs
            have : (List.replicate n.toNat ([] : List D)).flatten = [] := by simp
            rw [this]; exact .nil
          · have : (List.replicate (1 : Int).toNat xs).flatten = xs := by simp
            rw [this]; exact rs
        · have hh2 : vs ≠ [] ∧ n ≠ 1 := ⟨fun z => hh (.inl z), fun z => hh (.inr z)⟩
          refine ⟨p, n, vs, rfl, rfl, by rw [hK]; exact le.sqT sq, hc.1, hc.2.1, by omega, .inr ⟨hh2, fun l hl => ?_⟩⟩
          have gr : Grow G H (L2.upd G l (.tup (List.replicate n.toNat vs).flatten)) (L2.upd H l (.tup (List.replicate n.toNat vs).flatten)) := Grow.one le hl
          exact k _ _ _ gr (.tup (.inl (.inl upd_same)) ((rs.up gr.g).rep _))
    · cases q
  · cases q
theorem de_repT (hK : X.K = T.K) (ha : PE X a (tD T W ma)) (hb : PE X b (tD T W mb)) : PE X (.BinOp a .Mult b pos) (tD T W (m2 gRepT ma mb)) := de_op op_repTA (p_repT hK) ha hb
/-- what is one's own, in no slot, is left aside -/
theorem Own.leave {x : Gh} {s : Sx} {σ : L2.St} {H : Hp} {p : Addr} {xs : List D} (k : Ok T x s σ H) (o : Own T x s σ H p xs) : Ok T ⟨x.io, x.G, fun c => x.U c ∧ c ≠ p⟩ s σ H ∧ Stp x H ⟨x.io, x.G, fun c => x.U c ∧ c ≠ p⟩ H := by
  obtain ⟨vs, hp, _⟩ := o.l
  refine ⟨⟨⟨k.bx.n, k.bx.at_, fun i hi => ⟨k.bx.inU i hi, fun z => o.b i hi z.symm⟩, k.bx.inj, k.bx.sub, fun a u e z => k.bx.off a u e z.1, fun a z => k.bx.trk a z.1, fun q hq => ⟨⟨(k.bx.tab q hq).1, fun z => ?_⟩, (k.bx.tab q hq).2⟩, k.bx.lo⟩, k.len, k.sh, fun i ys e => ?_, k.owi, k.th, k.od.of (.refl _) (.refl _) (fun _ _ _ e => ⟨e, rfl⟩) fun c kvs e u => ⟨e, u, fun z => by subst z; rw [hp] at e; cases e⟩⟩, ⟨.refl _, .refl _, fun _ _ e _ => e, fun _ _ e => .inl e, fun _ z => .inl z.1, fun _ e => e⟩⟩
  · obtain ⟨ps, e1, _⟩ := (k.bx.tab q hq).2
    rw [z, hp] at e1; cases e1
  · obtain ⟨c, us, h1, h2, h3, h4, h5⟩ := k.ow i ys e
    exact ⟨c, us, h1, h2, h3, ⟨h4, fun z => o.o i ys e (by rw [← z]; exact h1)⟩, h5⟩
/-- [..] * n -/
def mRepF (ml : M (List D)) (mb : M D) : M (List D) := M.bind ml fun xs => M.bind mb fun d => match d with
  | .int k => if -(2 ^ 63) ≤ k ∧ k < 2 ^ 63 ∧ xs.length * k.toNat ≤ sizeLine then M.pure (List.replicate k.toNat xs).flatten else fun _ => .bad
  | _ => fun _ => .bad
theorem df_rep (ha : PE X a (tF T W ml)) (hb : PE X b (tD T W mb)) : PE X (.BinOp a .Mult b pos) (tF T W (mRepF ml mb)) := PE.imp (pe_op op_rep ha hb) fun σ H Q ⟨x, s, k, h⟩ => by
  refine ⟨x, s, k, ?_⟩
  unfold mRepF M.bind at h
  cases e1 : ml s with
  | exc c ns vs sto => rw [e1] at h; exact h
  | bad => rw [e1] at h; exact h
  | ok xs s1 =>
    rw [e1] at h
    simp only at h
    intro x1 p H1 k1 st1 o1
    obtain ⟨k2, st2⟩ := o1.leave k1
    obtain ⟨vs, hp, rs⟩ := o1.l
    refine ⟨_, s1, k2, ?_⟩
    cases e2 : mb s1 with
    | exc c ns vs sto => rw [e2] at h; exact h.back (st1.trans st2)
    | bad => rw [e2] at h; exact h
    | ok d s2 =>
      rw [e2] at h
      simp only at h
      intro x3 v3 H3 k3 st3 r3
      cases r3 with
      | int n =>
        have hl := rs.length
        by_cases hc : -(2 ^ 63) ≤ n ∧ n < 2 ^ 63 ∧ xs.length * n.toNat ≤ sizeLine
        · simp only [if_pos hc] at h
          refine ⟨p, n, vs, rfl, rfl, st3.fr p _ hp (fun z => z.2 rfl), hc.1, hc.2.1, by rw [hl]; exact hc.2.2, fun l hln => ?_⟩
          have rs3 : Reps T x3.io x3.G vs xs := rs.mono st3.io st3.le
          obtain ⟨x4, io4, g4, k4, st4, o4⟩ := k3.lay hln (rs3.rep n.toNat)
          exact h x4 l _ k4 (st1.trans (st2.trans (st3.trans st4))) o4
        · simp only [if_neg hc] at h
      | _ => exact h.elim
/-! ### local dicts -/
theorem lk_valV {io : Io} {G : Hp} {k : Key} : ∀ {ks : List Key} {vs : List V} {ds : List D}, ks.length = ds.length → Reps T io G vs ds → (∀ d, lk ks ds k = some d → ∃ v, valV (ks.zip vs) k = some v ∧ Rep T io G v d) ∧ (lk ks ds k = none → valV (ks.zip vs) k = none)
  | [], _, _, _, _ => ⟨fun d h => (by cases h), fun _ => rfl⟩
  | q :: ks, vs, [], hl, _ => by simp at hl
  | q :: ks, _, d0 :: ds, hl, .cons (v := v0) (vs := vs) r1 r2 => by
    obtain ⟨i1, i2⟩ := lk_valV (k := k) (by simpa using hl) r2
    by_cases hq : k = q
    · refine ⟨fun d h => ?_, fun h => ?_⟩
      · unfold lk at h
        rw [if_pos hq] at h
        cases h
        exact ⟨v0, by rw [List.zip_cons_cons]; exact valV_pos hq.symm, r1⟩
      · unfold lk at h
        rw [if_pos hq] at h; cases h
    · have hn : valV ((q, v0) :: ks.zip vs) k = valV (ks.zip vs) k := by
        unfold valV
        rw [List.find?_cons_of_neg]
        simpa using fun z => hq z.symm
      refine ⟨fun d h => ?_, fun h => ?_⟩
      · unfold lk at h
        rw [if_neg hq] at h
        rw [List.zip_cons_cons, hn]; exact i1 d h
      · unfold lk at h
        rw [if_neg hq] at h
        rw [List.zip_cons_cons, hn]; exact i2 h
def asKey : D → Option Key
  | .int i => some (.inl i)
  | .str z => some (.inr z)
  | _ => none
def gIxD (a b : D) : Option D := match a, asKey b with
  | .dic ks ds, some k => lk ks ds k
  | _, _ => none
def gInD (b a : D) : Option D := match a, asKey b with
  | .dic ks ds, some k => some (.bl (lk ks ds k).isSome)
  | _, _ => none
def gNotInD (b a : D) : Option D := match a, asKey b with
  | .dic ks ds, some k => some (.bl (!(lk ks ds k).isSome))
  | _, _ => none
theorem asKey_kV {io : Io} {G : Hp} {v : V} {d : D} {k : Key} (r : Rep T io G v d) (h : asKey d = some k) : v = kV k := by
  unfold asKey at h
  split at h
  · cases h; cases r; rfl
  · cases h; cases r; rfl
  · cases h
theorem p_ixD : P2 T (fun x y H Q => ∃ a v, x = .ref a ∧ DGet H a y (some v) ∧ Q v H) gIxD := fun io G v u d e z H Q r1 r2 le q k => by
  unfold gIxD at q
  split at q
  · rename_i ks ds key hk
    cases r1 with
    | dic rd hl nd rs =>
      obtain ⟨w, e1, rw1⟩ := (lk_valV hl rs).1 z q
      exact ⟨_, w, rfl, .inl ⟨_, key, le.rd rd, asKey_kV r2 hk, e1.symm⟩, k G w H (.refl le) rw1⟩
  · cases q
theorem p_inD {neg : Bool} : P2 T (fun y x H Q => ∃ a o, x = .ref a ∧ DGet H a y o ∧ Q (.bl (if neg then !o.isSome else o.isSome)) H) (if neg then gNotInD else gInD) := fun io G v u d e z H Q r1 r2 le q k => by
  have main : ∀ (ks : List Key) (ds : List D) (key : Key), e = .dic ks ds → asKey d = some key → (∀ o : Option V, o.isSome = (lk ks ds key).isSome → Q (.bl (if neg then !o.isSome else o.isSome)) H) → ∃ a o, u = .ref a ∧ DGet H a v o ∧ Q (.bl (if neg then !o.isSome else o.isSome)) H := by
    intro ks ds key e0 hk hq
    subst e0
    cases r2 with
    | dic rd hl nd rs =>
      cases e1 : lk ks ds key with
      | none =>
        have := (lk_valV hl rs).2 e1
        exact ⟨_, none, rfl, .inl ⟨_, key, le.rd rd, asKey_kV r1 hk, this.symm⟩, hq none (by rw [e1]; rfl)⟩
      | some d1 =>
        obtain ⟨w, e2, _⟩ := (lk_valV hl rs).1 d1 e1
        exact ⟨_, some w, rfl, .inl ⟨_, key, le.rd rd, asKey_kV r1 hk, e2.symm⟩, hq (some w) (by rw [e1]; rfl)⟩
  cases neg with
  | false =>
    have q : gInD d e = some z := q
    unfold gInD at q
    split at q
    · rename_i ks ds key hk _
      cases q
      exact main _ _ _ rfl hk fun o ho => by
        show Q (.bl o.isSome) H
        rw [ho]; exact k G _ H (.refl le) (.bl _)
    · cases q
  | true =>
    have q : gNotInD d e = some z := q
    unfold gNotInD at q
    split at q
    · rename_i ks ds key hk _
      cases q
      exact main _ _ _ rfl hk fun o ho => by
        show Q (.bl (!o.isSome)) H
        rw [ho]; exact k G _ H (.refl le) (.bl _)
    · cases q
theorem de_ixD {k0 : Nat} (hr : Room k0 X.A) (ha : PE X a (tD T W ma)) (hb : PE X b (tD T W mb)) (hs : NoSl b) : PE X (.Subscript a b pos) (tD T W (m2 gIxD ma mb)) :=
  PE.imp (pe_dget (by have := hr.un; omega) ha hb hs) fun _ _ _ h => t2 p_ixD h
theorem de_inD {k0 : Nat} (hr : Room k0 X.A) (ha : PE X a (tD T W ma)) (hb : PE X b (tD T W mb)) (hm : behindInMarks .In b = false) : PE X (.Compare a [.In] [b] pos) (tD T W (m2 gInD ma mb)) :=
  PE.imp (pe_cmp (pc_din (by have := hr.un; omega) ha hb) hm) fun _ _ _ h => t2 (p_inD (neg := false)) h
theorem de_notinD {k0 : Nat} (hr : Room k0 X.A) (ha : PE X a (tD T W ma)) (hb : PE X b (tD T W mb)) (hm : behindInMarks .NotIn b = false) : PE X (.Compare a [.NotIn] [b] pos) (tD T W (m2 gNotInD ma mb)) :=
  PE.imp (pe_cmp (pc_dnotin (by have := hr.un; omega) ha hb) hm) fun _ _ _ h => t2 (p_inD (neg := true)) h
theorem dt_inD {k0 : Nat} (hr : Room k0 X.A) (ha : PE X a (tD T W ma)) (hb : PE X b (tD T W mb)) (hm : behindInMarks .In b = false) : PT X (.Compare a [.In] [b] pos) (tB T W (mT (m2 gInD ma mb))) :=
  PT.imp (pt_cmp (pc_din (by have := hr.un; omega) ha hb) hm) fun _ _ _ q => by
    obtain ⟨x, s, k, h⟩ := tT q
    exact t2 (p_inD (neg := false)) ⟨x, s, k, h⟩
theorem dt_notinD {k0 : Nat} (hr : Room k0 X.A) (ha : PE X a (tD T W ma)) (hb : PE X b (tD T W mb)) (hm : behindInMarks .NotIn b = false) : PT X (.Compare a [.NotIn] [b] pos) (tB T W (mT (m2 gNotInD ma mb))) :=
  PT.imp (pt_cmp (pc_dnotin (by have := hr.un; omega) ha hb) hm) fun _ _ _ q => by
    obtain ⟨x, s, k, h⟩ := tT q
    exact t2 (p_inD (neg := true)) ⟨x, s, k, h⟩
end
end Ev

/-! E29: displays of dicts with written text keys. -/
namespace Ev
open PySem PySem.Spec L2
section
variable {T : Tx} {W : WX} {X : Cx} {pos : Pos}
theorem tD.mono {m : M D} {σ : L2.St} {H : Hp} {Q Q' : VK} (h : tD T W m σ H Q) (k : ∀ v H, Q v H → Q' v H) : tD T W m σ H Q' := by
  obtain ⟨x, s, ok, h⟩ := h
  refine ⟨x, s, ok, ?_⟩
  cases e : m s with
  | ok d s' => rw [e] at h; exact fun x' v H' k1 st r => k _ _ (h x' v H' k1 st r)
  | exc c ns vs sto => rw [e] at h; exact h
  | bad => rw [e] at h; exact h
theorem tDs.mono {m : M (List D)} {σ : L2.St} {H : Hp} {Q Q' : List V → Hp → Prop} (h : tDs T W m σ H Q) (k : ∀ v H, Q v H → Q' v H) : tDs T W m σ H Q' := by
  obtain ⟨x, s, ok, h⟩ := h
  refine ⟨x, s, ok, ?_⟩
  cases e : m s with
  | ok d s' => rw [e] at h; exact fun x' v H' k1 st r => k _ _ (h x' v H' k1 st r)
  | exc c ns vs sto => rw [e] at h; exact h
  | bad => rw [e] at h; exact h
/-- an object that is neither shared nor one's own is written -/
theorem Ok.aside' {x : Gh} {s : Sx} {σ : L2.St} {H : Hp} (k : Ok T x s σ H) {L : Addr} {o : HO} (hu : ¬ x.U L) (hg : x.G L = none) : Ok T x s σ (L2.upd H L o) := by
  refine ⟨⟨k.bx.n, fun j ys q => ?_, k.bx.inU, k.bx.inj, fun c u q => ?_, k.bx.off, fun c u => ?_, fun p hp => ⟨(k.bx.tab p hp).1, ?_⟩, k.bx.lo⟩, k.len, k.sh, fun i xs e => ?_, k.owi, k.th, k.od.of (.refl _) (.refl _) (fun _ _ _ e => ⟨e, rfl⟩) fun a kvs e u => ⟨by rw [upd_ne (fun z => hu (by rw [← z]; exact u))]; exact e, u⟩⟩
  · obtain ⟨vs, h1, h2⟩ := k.bx.at_ j ys q
    exact ⟨vs, by rw [upd_ne (fun z => hu (by rw [← z]; exact k.bx.inU j (List.getElem?_eq_some_iff.mp q).1))]; exact h1, h2⟩
  · rw [upd_ne (fun z => by subst z; rw [hg] at q; cases q)]
    exact k.bx.sub c u q
  · by_cases hc : c = L
    · subst hc; exact ⟨_, upd_same⟩
    · rw [upd_ne hc]; exact k.bx.trk c u
  · obtain ⟨ps, e1, e2⟩ := (k.bx.tab p hp).2
    exact ⟨ps, by rw [upd_ne (fun z => hu (by rw [← z]; exact (k.bx.tab p hp).1))]; exact e1, e2⟩
  · obtain ⟨a, vs, h1, h2, h3, h4, h5⟩ := k.ow i xs e
    exact ⟨a, vs, h1, by rw [upd_ne (fun z => hu (by rw [← z]; exact h4))]; exact h2, h3, h4, h5⟩
/-- what stands aside is shared from now on -/
theorem Ok.reveal {x : Gh} {s : Sx} {σ : L2.St} {H : Hp} (k : Ok T x s σ H) {L : Addr} {o : HO} (h : H L = some o) (hu : ¬ x.U L) (hg : x.G L = none) : Ok T ⟨x.io, L2.upd x.G L o, x.U⟩ s σ H ∧ Le x.G (L2.upd x.G L o) := by
  have le : Le x.G (L2.upd x.G L o) := .upd hg
  refine ⟨⟨⟨k.bx.n, fun j ys q => ?_, k.bx.inU, k.bx.inj, fun c u q => ?_, fun c u q z => ?_, k.bx.trk, fun p hp => ⟨(k.bx.tab p hp).1, (k.bx.tab p hp).2.ext le fun _ _ e => e⟩, ⟨k.bx.lo.1, k.bx.lo.2.trans le⟩⟩, k.len, fun i d e => ?_, fun i xs e => ?_, k.owi, k.th, k.od.of (.refl _) le (fun _ _ _ e => ⟨e, rfl⟩) fun _ _ e u => ⟨e, u⟩⟩, le⟩
  · obtain ⟨vs, h1, h2⟩ := k.bx.at_ j ys q
    exact ⟨vs, h1, h2.up le⟩
  · have q : L2.upd x.G L o c = some u := q
    by_cases hc : c = L
    · subst hc; rw [upd_same] at q; rw [← q]; exact h
    · rw [upd_ne hc] at q; exact k.bx.sub c u q
  · have q : L2.upd x.G L o c = some u := q
    by_cases hc : c = L
    · subst hc; exact hu z
    · rw [upd_ne hc] at q; exact k.bx.off c u q z
  · obtain ⟨v, h1, h2⟩ := k.sh i d e
    exact ⟨v, h1, h2.up le⟩
  · obtain ⟨a, vs, h1, h2, h3, h4, h5⟩ := k.ow i xs e
    exact ⟨a, vs, h1, h2, h3.up le, h4, h5⟩
/-- the pairs of a display -/
structure DP (T : Tx) (W : WX) (X : Cx) (pos : Pos) (keys : List (Option Expr)) (values : List Expr) (ks : List Str) (m : M (List D)) : Prop where
  ex : ∃ trs, PPs X pos keys values trs ∧ ∀ σ H Q, tDs T W m σ H (fun vs H' => Q ((ks.zip vs).map fun q => (V.str q.1, q.2)) H') → tPairs trs σ H Q
  len : keys.length = values.length
  all : keys.all (·.isSome) = true
  lk : keys.length = ks.length
  ar : Ar ks.length m
theorem dp_nil : DP T W X pos [] [] [] mNil := ⟨⟨[], pps_nil, fun σ H Q ⟨x, s, k, h⟩ => h x [] H k (.refl _ _) .nil⟩, rfl, rfl, rfl, ar_nil⟩
theorem dp_cons {keys : List (Option Expr)} {values : List Expr} {ks : List Str} {m : M (List D)} {k : Str} {j : Nat} {p : Pos} {v : Expr} {ma : M D} (ha : PE X v (tD T W ma)) (h : DP T W X pos keys values ks m) : DP T W X pos (some (.Constant (.str k) j p) :: keys) (v :: values) (k :: ks) (mCons ma m) := by
  obtain ⟨trs, h1, h2⟩ := h.ex
  refine ⟨⟨_, pps_cons pe_str ha h1, fun σ H Q q => ?_⟩, by simp [h.len], by simp [h.all], by simp [h.lk], ar_cons h.ar⟩
  have q2 := tDs_cons q
  show tD T W ma σ H fun y H2 => tPairs trs σ H2 fun ps H3 => Q ((V.str k, y) :: ps) H3
  exact tD.mono q2 fun y H2 q3 => h2 σ H2 _ (tDs.mono q3 fun vs H3 q4 => by simpa using q4)
theorem nodup_inr {ks : List Str} (h : ks.Nodup) : (ks.map (Sum.inr : Str → Key)).Nodup := by
  unfold List.Nodup at *
  rw [List.pairwise_map]
  exact h.imp fun h e => h (Sum.inr.inj e)
def mDisp (ks : List Str) (m : M (List D)) : M D := M.bind m fun ds => M.pure (.dic (ks.map .inr) ds)
theorem putK_new {kvs : List (Key × V)} {k : Key} {v : V} (h : k ∉ kvs.map (·.1)) : putK kvs k v = kvs ++ [(k, v)] := by
  unfold putK
  rw [if_neg]
  simp only [List.any_eq_true, decide_eq_true_eq, not_exists, not_and]
  intro q hq e
  exact h (List.mem_map.mpr ⟨q, hq, e⟩)
theorem mergeK_new : ∀ {more kvs : List (Key × V)}, ((kvs ++ more).map (·.1)).Nodup → mergeK kvs more = kvs ++ more
  | [], kvs, _ => by simp [mergeK]
  | p :: r, kvs, h => by
    have hp : p.1 ∉ kvs.map (·.1) := by
      rw [List.map_append, List.nodup_append] at h
      exact fun z => h.2.2 _ z _ (by simp) rfl
    show mergeK (putK kvs p.1 p.2) r = _
    rw [putK_new hp, mergeK_new (by simpa using h)]
    simp
theorem de_disp {keys : List (Option Expr)} {values : List Expr} {ks : List Str} {m : M (List D)} (h : DP T W X pos keys values ks m) (nd : ks.Nodup) (h0 : keys ≠ []) (h15 : ks.length ≤ 15) : PE X (.Dict keys values pos) (tD T W (mDisp ks m)) := by
  obtain ⟨trs, h1, h2⟩ := h.ex
  refine PE.imp (pe_disp h1 h.all h.len h0 (by rw [h.lk]; exact h15)) fun σ H Q ⟨x, s, k, q⟩ => fun p hp => h2 σ _ _ ?_
  have hu : ¬ x.U p := fun z => by
    obtain ⟨o, e⟩ := k.bx.trk p z
    rw [hp] at e; cases e
  have hg : x.G p = none := k.bx.sub.none hp
  refine ⟨x, s, k.aside' hu hg, ?_⟩
  unfold mDisp M.bind M.pure at q
  have st0 : Stp x H x (L2.upd H p (.dK [])) := (Stp.refl x H).aside hp
  cases e : m s with
  | exc c ns vs sto => rw [e] at q; exact q.back st0
  | bad => rw [e] at q; exact q
  | ok ds s' =>
    rw [e] at q
    simp only at q
    intro x2 vs H2 k2 st2 r2
    have h2p : H2 p = some (.dK []) := st2.fr p _ upd_same hu
    have hu2 : ¬ x2.U p := fun z => by
      rcases st2.un p z with w | w
      · exact hu w
      · rw [upd_same] at w; cases w
    have hg2 : x2.G p = none := by
      cases e2 : x2.G p with
      | none => rfl
      | some o =>
        rcases st2.new p o e2 with w | w | w
        · rw [hg] at w; cases w
        · exact absurd w hu
        · rw [upd_same] at w; cases w
    have hlen : vs.length = ks.length := r2.length.trans (h.ar s ds s' e)
    have kz : (((ks.map Sum.inr).zip vs : List (Key × V)).map (·.1)) = ks.map Sum.inr := by
      rw [List.map_fst_zip]
      simp [hlen]
    refine ⟨h2p, (ks.map Sum.inr).zip vs, ?_, by simp [hlen]; omega, ?_⟩
    · rw [List.zip_map_left, List.map_map]
      rfl
    · have em : mergeK [] ((ks.map Sum.inr).zip vs : List (Key × V)) = (ks.map Sum.inr).zip vs := by
        rw [mergeK_new]
        · rfl
        · rw [List.nil_append, kz]
          exact nodup_inr nd
      rw [em]
      have k3 := k2.aside' (o := .dK ((ks.map Sum.inr).zip vs)) hu2 hg2
      obtain ⟨k4, le4⟩ := k3.reveal upd_same hu2 hg2
      refine q _ _ _ k4 ⟨st2.io, st2.le.trans le4, fun a o e n => ?_, fun a o e => ?_, fun a u => ?_, fun a e => ?_⟩ (.dic (.inl upd_same) (by simp [h.ar s ds s' e]) (nodup_inr nd) (r2.up le4))
      · have ha : a ≠ p := ne_of_none e hp
        rw [upd_ne ha]
        exact st2.fr a o (by rw [upd_ne ha]; exact e) n
      · have e : L2.upd x2.G p _ a = some o := e
        by_cases ha : a = p
        · subst ha; exact .inr (.inr hp)
        · rw [upd_ne ha] at e
          rcases st2.new a o e with w | w | w
          · exact .inl w
          · exact .inr (.inl w)
          · rw [upd_ne ha] at w; exact .inr (.inr w)
      · rcases st2.un a u with w | w
        · exact .inl w
        · by_cases ha : a = p
          · subst ha; exact .inr hp
          · rw [upd_ne ha] at w; exact .inr w
      · by_cases ha : a = p
        · subst ha; exact hp
        · rw [upd_ne ha] at e
          have := st2.th a e
          rw [upd_ne ha] at this; exact this
end
end Ev

/-! E30: a tuple enumerated, in the model. -/
namespace EnT
open PySem
open PySem.Sem (wp)
open AutoSeq1 (wpAny_loadPart')
theorem meets_newT (l : Addr) (items : Array Value) (n : Nat) (dct : Option Addr) (sl : Array (Option Value)) :
    Meets (Builtin.«enumerate.__new__» ⟨[.type "enumerate", .ref l], []⟩) (fun _ R s => s.heap.get? l = some { cls := .type "tuple", dict := dct, data := .seq items n, slots := sl } ∧
      R (.ok (.ret (.ref (s.heap.push { cls := .type "tuple_iterator", data := .fields #[.ref l, .int 0 0] }).objs.size)))
        { s with heap := (s.heap.push { cls := .type "tuple_iterator", data := .fields #[.ref l, .int 0 0] }).push { cls := .type "enumerate", data := .fields #[.none, .bool false, .ref s.heap.objs.size, rawInt 0, .none, .none] } }) :=
  .of_wp fun prog w A R s q => by
    obtain ⟨ho, gl, dd, tk, os⟩ := s
    obtain ⟨hl, q⟩ := q
    have sE := sub_enumerate
    have hT : Heap.IsTuple (Shared.heap ⟨ho, gl, dd, tk, os⟩) l items := ⟨_, hl, rfl, n, rfl⟩
    wp_walk using wpAny_loadPart' hl
    refine wpAny_stack_any fun sk => wpAny_pure ?_
    split
    · rename_i c _ _ _ _ _
      cases (c == Value.type "enumerate")
      · wp_walk using wpAny_loadPart' hl, wpAny_pyIter_tuple hT
        exact ⟨_, rfl, q⟩
      · wp_walk using wpAny_loadPart' hl, wpAny_pyIter_tuple hT
        exact ⟨_, rfl, q⟩
    · wp_walk using wpAny_loadPart' hl, wpAny_pyIter_tuple hT
      exact ⟨_, rfl, q⟩
section
variable {prog : Program} {w : World} {A : Around} {E : Value → Shared → Prop} {s : Shared}
theorem call_enumT {l : Addr} {items : Array Value} {Q : Value → Shared → Prop} (hT : s.heap.IsTuple l items)
    (k : ∀ h', IsEnum h' (s.heap.objs.size + 1) s.heap.objs.size 0 .none → h'.IsTupleIter s.heap.objs.size l 0 → h'.objs.size = s.heap.objs.size + 2 →
      (∀ b o, s.heap.get? b = some o → h'.get? b = some o) → Q (.ref (s.heap.objs.size + 1)) { s with heap := h' }) :
    wpAny (model prog w) A (call (.type "enumerate") [.ref l]) Q E s := by
  obtain ⟨⟨cc, dct, dt, sl⟩, hl, h1, n, h2⟩ := hT
  replace h1 : cc = .type "tuple" := h1
  replace h2 : dt = .seq items n := h2
  subst h1 h2
  refine callType_new F.called_enumerate (by decide) (F.typeCall_enumerate_1 _) (F.newCall_enumerate_1 _) (fun ob => F.args_object_init_2 ob _) F.entry_enumerate_new
    (meets_newT l items n dct sl) ⟨hl, ?_⟩
  have hz : (s.heap.push { cls := .type "tuple_iterator", data := .fields #[.ref l, .int 0 0] }).objs.size = s.heap.objs.size + 1 := Heap.size_push ..
  show _ ∧ _
  rw [hz]
  have en : IsEnum ((s.heap.push { cls := .type "tuple_iterator", data := .fields #[.ref l, .int 0 0] }).push
      { cls := .type "enumerate", data := .fields #[.none, .bool false, .ref s.heap.objs.size, rawInt 0, .none, .none] }) (s.heap.objs.size + 1) s.heap.objs.size 0 .none := by
    have z := Heap.get?_push_size (s.heap.push { cls := .type "tuple_iterator", data := .fields #[.ref l, .int 0 0] })
      (o := { cls := .type "enumerate", data := .fields #[.none, .bool false, .ref s.heap.objs.size, rawInt 0, .none, .none] }) rfl
    rw [hz] at z; exact z
  refine ⟨⟨_, en, rfl⟩, k _ en ⟨_, Heap.get?_push_of_some _ (Heap.get?_push_size _ rfl), rfl, rfl⟩ (by rw [Heap.size_push, hz]) fun b o x => Heap.get?_push_of_some _ (Heap.get?_push_of_some _ x)⟩
end
theorem drawsT {prog : Program} {w : World} {A : Around} (hh : A.handled = none) (it l : Addr) (hne : l ≠ it) (items : Array Value) :
    Draws prog w A it [it, l] items.size (fun i v => items[i]? = some v) (fun i h => h.IsTupleIter it l i ∧ h.IsTuple l items) where
  live := fun _ _ st => let ⟨o, ho, _⟩ := st.1; ⟨o, ho⟩
  frame := fun _ _ _ st hk => ⟨st.1.at fun o e => hk it (by simp) o e, let ⟨o, ho, r⟩ := st.2; ⟨o, hk l (by simp) o ho, r⟩⟩
  item := fun i s Q E hi st hQ => RZ.nextOf_tuple_item st.1 st.2 (x := items[i]) (by simp [hi]) fun h' hit' hs' => hQ _ h' s.toks (by simp [hi]) ⟨hit', st.2.extBut hs'.extBut hne⟩ hs'
  done := fun s Q E st hE => RZ.nextOf_tuple_end hh st.1 st.2 (by simp) hE
theorem enumT_end {prog : Program} {w : World} {A : Around} {E : Value → Shared → Prop} {s : Shared} {e it l : Addr} {i : Nat} {items : Array Value} {j : Int} {old : Value} {Q : Option Value → Shared → Prop} (hh : A.handled = none)
    (he : IsEnum s.heap e it j old) (hit : s.heap.IsTupleIter it l i) (hT : s.heap.IsTuple l items) (hx : items[i]? = none) (k : ∀ h', Heap.ExtBut it s.heap h' → Q none { s with heap := h' }) : wpAny (model prog w) A (pyNext (.ref e)) Q E s := by
  have ty : s.TypeIs (.ref e) "enumerate" := ⟨_, he, rfl⟩
  unfold pyNext
  refine wpAny_bind (wpAny_attempt (wpAny_callSpecial?_slot (name := Str.ofString "__next__") ty F.slot_enumerate_next
    (wpAny_call_entry F.slot_enumerate_next ty F.entry_enumerate_next ?_ (F.args_enumerate_next_1 _))))
  show wpAny _ _ (field (.ref e) 2 >>= _) _ _ _
  refine wpAny_bind (wpAny_field he rfl (x := .ref it) rfl ?_)
  refine wpAny_bind (RZ.nextOf_tuple_end (show A.in1.handled = none from hh) hit hT hx fun h' x he' hx' => ?_)
  obtain ⟨o, ho, hc⟩ := hx'
  exact wpAny_bind (wpAny_isInstance (T := "StopIteration") (b := true) ⟨o, ho, hc⟩ isSubtype_stop (wpAny_pure (k _ he')))
end EnT
namespace L2
open PySem PySem.Spec PyProof.Rows
/-- the tuple at a as it stands, each item in a new pair -/
def IteT (K : PySem.W.Frag) (a : Addr) : It :=
  ⟨fun i H => ∃ (xs : List V) (x : V), SqT K H a xs ∧ xs[i]? = some x, fun i H v H' => ∃ T x, v = .ref T ∧ H T = none ∧ H' = upd H T (.tup [.int (i : Nat), x]) ∧ ∀ xs, SqT K H a xs → xs[i]? = some x, fun i H => ∃ xs : List V, SqT K H a xs ∧ xs.length ≤ i⟩
theorem turn_enumT {P : Program} {w : World} {K : PySem.W.Frag} {elts : List Expr} {kk : Nat} {tpos : Pos} (a e it : Addr) (hai : a ≠ it) (hae : a ≠ e) :
    Turn P w K (.Tuple elts kk tpos) (IteT K a) [e, it] e (fun i h => (∃ old, IsEnum h e it ((i : Nat) : Int) old) ∧ h.IsTupleIter it a i ∧ e ≠ it) where
  mem := by simp
  obj := fun i h st b hb => by
    obtain ⟨⟨old, he⟩, ⟨o, ho, hc, hd⟩, _⟩ := st
    rcases (by simpa using hb : b = e ∨ b = it) with z | z
    · rw [z]; exact ⟨_, he, fun v q => nomatch q⟩
    · rw [z]; exact ⟨o, ho, fun v q => by rw [hd] at q; cases q⟩
  keep := fun i h h' st k => let ⟨⟨old, he⟩, hi, hne⟩ := st; ⟨⟨old, k e (by simp) _ he⟩, hi.at fun o q => k it (by simp) o q, hne⟩
  item := by
    intro X hP hw hK hc i pins s σ H E I hf st hg
    subst hP hw hK
    obtain ⟨⟨old, he⟩, hit, hne⟩ := st
    obtain ⟨xs, x, hq, hx⟩ := hg
    obtain ⟨its, rv, p, hz⟩ := I.tuple hq
    obtain ⟨u, hu, ru⟩ := rv.get hx
    have hT : s.heap.IsTuple a its.toArray := p
    have hel : e < s.heap.objs.size := Heap.lt_size he
    have hil : it < s.heap.objs.size := by obtain ⟨_, q, _⟩ := hit; exact Heap.lt_size q
    have hlt : i < its.toArray.size := by
      have := (List.getElem?_eq_some_iff.mp hu).1
      simpa using this
    refine wpAny_pyNext_enum_itemD (EnT.drawsT (show X.A.in1.handled = none from I.ok.hd hc) it a hai its.toArray) he ⟨hit, hT⟩ hlt hne (by simp; exact ⟨hne, fun z => hae z.symm⟩) fun y h' tk hy ho hit' hT' hsz hk => ?_
    have ey : y = u := by
      have hy : its.toArray[i]? = some y := hy
      rw [List.getElem?_toArray, hu] at hy
      exact (Option.some.inj hy).symm
    subst ey
    refine ⟨_, rfl, wpAny_letOwnedTupleGo_enum (s := { s with heap := h', toks := tk + 1 }) ho fun h2 en2 sb => ?_⟩
    have at2 : h2.get? s.heap.objs.size = some { cls := .type "tuple", data := .seq #[.int i tk, y] } := (sb.2 _ (Nat.ne_of_gt hel)).trans hT'
    have fit2 : ObjOk X.prog X.w (upd H s.heap.objs.size (.tup [.int (i : Nat), x])) h2 s.heap.objs.size (.tup [.int (i : Nat), x]) :=
      ⟨by show 2 ≤ sizeLine; decide, [.int i tk, y], .cons ⟨_, rfl⟩ (.cons ru .nil), ⟨_, at2, rfl, _, rfl⟩⟩
    have I1 : Inv X pins σ (upd H s.heap.objs.size (.tup [.int (i : Nat), x])) { s with heap := h2, toks := tk + 1 } :=
      I.turnedNew (ch := [e, it]) (fun b ob hb q => (sb.2 b (fun z => hb (by simp [z]))).trans (hk b ob (fun z => hb (by simp [z])) (fun z => hb (by simp [z])) q)) hf (Nat.le_refl _) fit2
    refine ⟨.ref s.heap.objs.size, _, I1, rfl, ⟨_, x, rfl, I.hok.fresh (Nat.le_refl _), rfl, fun ys hy => by rw [I.tuple_inj hy hq]; exact hx⟩, ⟨⟨y, ?_⟩, hit'.1.at fun o q => (sb.2 it (Ne.symm hne)).trans q, hne⟩, fun b hb => ?_⟩
    · have : ((i + 1 : Nat) : Int) = (i : Int) + 1 := by omega
      rw [this]
      exact en2
    · have hb' : b < s.heap.objs.size := by
        rcases (by simpa using hb : b = e ∨ b = it) with z | z
        · rw [z]; exact hel
        · rw [z]; exact hil
      rw [upd_ne (Nat.ne_of_lt hb')]
      exact (hf b hb).1
  done := by
    intro X hP hw hK hc i pins s σ H E I hf st hg
    subst hP hw hK
    obtain ⟨⟨old, he⟩, hit, hne⟩ := st
    obtain ⟨xs, hq, hx⟩ := hg
    obtain ⟨its, rv, p, hz⟩ := I.tuple hq
    obtain ⟨f0, f1, f2, f3, f4, f5⟩ := hf it (by simp)
    have hl := rv.length
    exact EnT.enumT_end (I.ok.hd hc) he hit (show s.heap.IsTuple a its.toArray from p) (by simp; omega) fun h' eb => ⟨rfl, I.turned (t' := s.toks) (fun b o hb q => eb b o hb q) f0 f1 f3 f4 f5⟩
  self := fun A i s Q E st h => let ⟨⟨_, en⟩, _⟩ := st; wpAny_pyIter_enum en h
def iEnumT (K : PySem.W.Frag) (ta : TA) : TI := fun σ H R => ta σ H fun vs H1 => ∃ a xs, vs = [.ref a] ∧ SqT K H1 a xs ∧ R (IteT K a) H1
theorem pi_enumT {X : Cx} {e : Expr} {ta : TA} {p pos tpos : Pos} {elts : List Expr} {kk : Nat} (hg : Gl X "enumerate") (hm : X.mg "enumerate" = none) (ha : PA X [e] ta) (hs : starEach [e] X.env = [(false, eval e X.env)] := by rfl) :
    PI X (.Tuple elts kk tpos) (.Call (.Name "enumerate" p) [e] [] pos) (iEnumT X.K ta) := by
  refine ⟨fun pins s σ H R I h => ?_⟩
  refine Call_ (ld_blt I hg hm boot_enumerate (PyProof.Rows.callWith_type1 (thn (ha.run pos pins s σ H _ I h) fun us s1 ⟨vs, H1, I1, r1, q1⟩ => ?_) hs rfl))
  obtain ⟨a, xs, ev, hq, q⟩ := q1
  subst ev
  cases r1 with
  | cons r rr =>
    cases rr
    cases r
    obtain ⟨its, rv, tp, hz⟩ := I1.tuple hq
    have tp : s1.heap.IsTuple a its.toArray := tp
    have ha : a < s1.heap.objs.size := by
      obtain ⟨o, ho, _⟩ := tp
      exact Heap.lt_size ho
    refine EnT.call_enumT tp fun h' en hit hsz hk => wpAny_pyIter_enum en ?_
    have I2 : Inv X pins σ H1 { s1 with heap := h' } := I1.kept (t' := s1.toks) hk
    refine ⟨s1.heap.objs.size + 1, [s1.heap.objs.size + 1, s1.heap.objs.size], _, _, H1, rfl, I2, turn_enumT a (s1.heap.objs.size + 1) s1.heap.objs.size (Nat.ne_of_lt ha) (Nat.ne_of_lt (Nat.lt_succ_of_lt ha)), ⟨⟨.none, en⟩, hit, Nat.succ_ne_self _⟩, fun b hb => ?_, q⟩
    have hle : s1.heap.objs.size ≤ b := by
      rcases (by simpa using hb : b = s1.heap.objs.size + 1 ∨ b = s1.heap.objs.size) with z | z
      · rw [z]; exact Nat.le_add_right _ _
      · rw [z]; exact Nat.le_refl _
    exact I1.fpOk hle (I1.hok.fresh hle)
end L2

/-! E31: enumerate, a star in a display, pop, two own lists at once. -/
namespace Ev
open PySem PySem.Spec L2
section
variable {T : Tx} {W : WX} {X : Cx} {e : Expr} {es : List Expr} {ma : M D} {ml : M (List D)} {pos : Pos}
/-! ### enumerate -/
def enumL : Nat → List D → List D
  | _, [] => []
  | i, d :: r => .tup [.int (i : Nat), d] :: enumL (i + 1) r
theorem enumL_get : ∀ {xs : List D} {i j : Nat}, (enumL j xs)[i]? = xs[i]?.map fun d => .tup [.int ((j + i : Nat) : Int), d]
  | [], i, j => by simp [enumL]
  | x :: xs, 0, j => by simp [enumL]
  | x :: xs, i + 1, j => by
    unfold enumL
    rw [List.getElem?_cons_succ, List.getElem?_cons_succ, enumL_get, Nat.add_right_comm, Nat.add_assoc]
theorem enumL_len : ∀ {xs : List D} {j : Nat}, (enumL j xs).length = xs.length
  | [], _ => rfl
  | x :: xs, j => by unfold enumL; rw [List.length_cons, List.length_cons, enumL_len]
def mEnum (m : M D) : M (List D) := M.bind m fun d => M.lift ((itemsOf d).map (enumL 0))
theorem src_enumL {io : Io} {G : Hp} {a : Addr} {vs : List V} {ds : List D} (sq : SqL T.K G a vs) (rs : Reps T io G vs ds) : Src T io G (Ite T.K a) (enumL 0 ds) := by
  refine ⟨fun i H le hi => ⟨vs, le.sqL sq, by rw [rs.length]; rw [enumL_len] at hi; omega⟩, fun i H le hi => ?_, fun i H v H' G1 d le le1 hd hy => ?_⟩
  · rw [enumL_len] at hi
    obtain ⟨v, h1, _⟩ := rs.get (List.getElem?_eq_getElem hi)
    exact ⟨vs, v, le.sqL sq, h1⟩
  · obtain ⟨t, x, rfl, hn, rfl, hx⟩ := hy
    rw [enumL_get] at hd
    cases e : ds[i]? with
    | none => rw [e] at hd; cases hd
    | some y =>
      rw [e] at hd
      obtain ⟨v', h1, h2⟩ := rs.get e
      have h3 := hx vs ((le.trans le1).sqL sq)
      rw [h1] at h3
      cases h3
      have hd := Option.some.inj hd
      subst hd
      have gr := Grow.one (o := .tup [.int (i : Nat), x]) le1 hn
      refine ⟨_, gr, .tup (.inl (.inl upd_same)) (.cons ?_ (.cons ((h2.up le).up gr.g) .nil))⟩
      rw [Nat.zero_add]
      exact .int _
theorem src_enumT {io : Io} {G : Hp} {a : Addr} {vs : List V} {ds : List D} (sq : SqT T.K G a vs) (rs : Reps T io G vs ds) : Src T io G (L2.IteT T.K a) (enumL 0 ds) := by
  refine ⟨fun i H le hi => ⟨vs, le.sqT sq, by rw [rs.length]; rw [enumL_len] at hi; omega⟩, fun i H le hi => ?_, fun i H v H' G1 d le le1 hd hy => ?_⟩
  · rw [enumL_len] at hi
    obtain ⟨v, h1, _⟩ := rs.get (List.getElem?_eq_getElem hi)
    exact ⟨vs, v, le.sqT sq, h1⟩
  · obtain ⟨t, x, rfl, hn, rfl, hx⟩ := hy
    rw [enumL_get] at hd
    cases e : ds[i]? with
    | none => rw [e] at hd; cases hd
    | some y =>
      rw [e] at hd
      obtain ⟨v', h1, h2⟩ := rs.get e
      have h3 := hx vs ((le.trans le1).sqT sq)
      rw [h1] at h3
      cases h3
      have hd := Option.some.inj hd
      subst hd
      have gr := Grow.one (o := .tup [.int (i : Nat), x]) le1 hn
      refine ⟨_, gr, .tup (.inl (.inl upd_same)) (.cons ?_ (.cons ((h2.up le).up gr.g) .nil))⟩
      rw [Nat.zero_add]
      exact .int _
theorem di_enum {elts : List Expr} {kk : Nat} {tpos p : Pos} (hK : X.K = T.K) (hg : Gl X "enumerate") (hm : X.mg "enumerate" = none) (h : PE X e (tD T W ma)) (hs : starEach [e] X.env = [(false, eval e X.env)] := by rfl)
    (hs2 : starEach [e] X.env = (false, eval e X.env) :: starEach [] X.env := by rfl) : PI X (.Tuple elts kk tpos) (.Call (.Name "enumerate" p) [e] [] pos) (tI T W (mEnum ma)) :=
  PI.imp (PI.or (pi_enum hg hm (pa_cons h pa_nil hs2) hs) (L2.pi_enumT hg hm (pa_cons h pa_nil hs2) hs)) fun σ H R ⟨x, s, k, q⟩ => by
    unfold mEnum M.bind M.lift at q
    cases em : ma s with
    | exc c ns vs sto => rw [em] at q; exact .inl ⟨x, s, k, by rw [em]; exact q⟩
    | bad => rw [em] at q; exact q.elim
    | ok d s' =>
      rw [em] at q
      simp only at q
      cases d with
      | lst xs =>
        refine .inl ⟨x, s, k, ?_⟩
        rw [em]
        intro x' v H' k' st r
        cases r with
        | @lst a vs ds sq rs => exact ⟨a, vs, rfl, by rw [hK]; exact k'.bx.sub.sqL sq, by rw [hK]; exact q x' _ H' k' st (src_enumL sq rs)⟩
      | tup xs =>
        refine .inr ⟨x, s, k, ?_⟩
        rw [em]
        intro x' v H' k' st r
        cases r with
        | @tup a vs ds sq rs => exact ⟨a, vs, rfl, by rw [hK]; exact k'.bx.sub.sqT sq, by rw [hK]; exact q x' _ H' k' st (src_enumT sq rs)⟩
      | _ => exact q.elim
/-! ### a star in a display -/
def mStar (m : M D) (r : M (List D)) : M (List D) := M.bind m fun d => match itemsOf d with
  | some xs => M.bind r fun ys => M.pure (xs ++ ys)
  | none => fun _ => .bad
theorem da_star {p : Pos} (hK : X.K = T.K) (ha : PE X e (tD T W ma)) (hr : PA X es (tDs T W ml)) (hs : starEach (.Starred e p :: es) X.env = (true, eval e X.env) :: starEach es X.env := by rfl) : PA X (.Starred e p :: es) (tDs T W (mStar ma ml)) :=
  PA.imp (StX.pa_star ha hr hs) fun σ H Q ⟨x, s, k, h⟩ => by
    refine ⟨x, s, k, ?_⟩
    unfold mStar M.bind M.pure at h
    cases em : ma s with
    | exc c ns vs sto => rw [em] at h; exact h
    | bad => rw [em] at h; exact h
    | ok d s1 =>
      rw [em] at h
      intro x1 v1 H1 k1 st1 r1
      simp only at h
      have go : ∀ (a : Addr) (vs : List V) (xs : List D), v1 = .ref a → (SqT X.K H1 a vs ∨ SqL X.K H1 a vs) → Reps T x1.io x1.G vs xs → itemsOf d = some xs → ∃ p ys, v1 = V.ref p ∧ (SqT X.K H1 p ys ∨ SqL X.K H1 p ys) ∧ tDs T W ml σ H1 fun zs H2 => Q (ys ++ zs) H2 := by
        intro a vs xs hv sq rs ei
        rw [ei] at h
        simp only at h
        refine ⟨a, vs, hv, sq, x1, s1, k1, ?_⟩
        cases e2 : ml s1 with
        | exc c ns vs sto => rw [e2] at h; exact h.back st1
        | bad => rw [e2] at h; exact h
        | ok ys s2 =>
          rw [e2] at h
          exact fun x2 zs H2 k2 st2 r2 => h x2 _ H2 k2 (st1.trans st2) ((rs.mono st2.io st2.le).append r2)
      cases r1 with
      | @lst a vs ds sq rs => exact go a vs ds rfl (.inr (by rw [hK]; exact k1.bx.sub.sqL sq)) rs rfl
      | @tup a vs ds sq rs => exact go a vs ds rfl (.inl (by rw [hK]; exact k1.bx.sub.sqT sq)) rs rfl
      | _ => exact h.elim
/-! ### x.pop(), x a name of a list of one's own -/
theorem Reps.dropLast {io : Io} {G : Hp} : ∀ {vs : List V} {ds : List D}, Reps T io G vs ds → Reps T io G vs.dropLast ds.dropLast
  | _, _, .nil => .nil
  | _, _, .cons a .nil => .nil
  | _, _, .cons a (.cons b r) => .cons a (Reps.dropLast (.cons b r))
def mPopO (i : Nat) : M D := fun s => match s.env[i]? with
  | some (.ow xs) => match xs[xs.length - 1]? with
    | some d => .ok d (s.own i xs.dropLast)
    | none => .bad
  | _ => .bad
theorem de_popO {z : Str} {i : Nat} {p1 p2 p3 : Pos} (hK : X.K = T.K) (hN : X.N[i]? = some z) (hvis : Vis X.env.scope z)
    (hbase : attributeBase (.Name z p1) "pop" X.env (eval (.Name z p1) X.env) = eval (.Name z p1) X.env := by rfl) (hline : (p2.endLine == p3.line) = true := by rfl)
    (hd : (z == ("__debug__" : Str)) = false := by decide) (hcd : (z == ("__classdict__" : Str)) = false := by decide) : PE X (.Call (.Attribute (.Name z p1) "pop" p2) [] [] p3) (tD T W (mPopO i)) :=
  PE.imp (pe_bm0 PySem.F.plainAttrs_list PySem.F.slot_list_pop PySem.F.type_list_pop mt_pop (pe_var (pos := p1) (i := i) hN hvis hd hcd) hbase hline) fun σ H Q ⟨x, s, k, h⟩ => by
    unfold mPopO at h
    cases q : s.env[i]? with
    | none => rw [q] at h; exact h.elim
    | some sl =>
      cases sl with
      | un => rw [q] at h; exact h.elim
      | th => rw [q] at h; exact h.elim
      | od ks ds => rw [q] at h; exact h.elim
      | sh d => rw [q] at h; exact h.elim
      | ow xs =>
        simp only [q] at h
        obtain ⟨a, vs, h1, h2, h3, h4, h5⟩ := k.ow i xs q
        cases el : xs[xs.length - 1]? with
        | none => rw [el] at h; exact h.elim
        | some d =>
          simp only [el] at h
          obtain ⟨v, hv, rv⟩ := h3.get el
          obtain ⟨k2, st2⟩ := k.write q h1 h3.dropLast
          exact ⟨_, h1, .inl ⟨rfl, vs, by rw [hK]; exact SqL.of h2⟩, a, vs, v, rfl, rfl, h2, by rw [h3.length]; exact hv, h x v _ k2 st2 rv⟩
/-! ### two lists of one's own at once -/
theorem Own.hideStp {x : Gh} {H : Hp} (a : Addr) : Stp x H ⟨x.io, x.G, fun c => x.U c ∧ c ≠ a⟩ H :=
  ⟨.refl _, .refl _, fun _ _ e _ => e, fun _ _ e => .inl e, fun _ u => .inl u.1, fun _ e => e⟩
theorem Ok.hideA {x : Gh} {s : Sx} {σ : L2.St} {H : Hp} {a : Addr} {xs : List D} (k : Ok T x s σ H) (o : Own T x s σ H a xs) : Ok T ⟨x.io, x.G, fun c => x.U c ∧ c ≠ a⟩ s σ H := by
  obtain ⟨vs, ha, _⟩ := o.l
  refine ⟨⟨k.bx.n, k.bx.at_, fun i hi => ⟨k.bx.inU i hi, fun z => o.b i hi z.symm⟩, k.bx.inj, k.bx.sub, fun c u e z => k.bx.off c u e z.1, fun c z => k.bx.trk c z.1, fun p hp => ⟨⟨(k.bx.tab p hp).1, fun z => ?_⟩, (k.bx.tab p hp).2⟩, k.bx.lo⟩, k.len, k.sh, fun i ys q => ?_, k.owi, k.th, k.od.of (.refl _) (.refl _) (fun _ _ _ e => ⟨e, rfl⟩) fun c kvs e u => ⟨e, u, fun z => by subst z; rw [ha] at e; cases e⟩⟩
  · obtain ⟨ps, e1, _⟩ := (k.bx.tab p hp).2
    rw [z, ha] at e1
    cases e1
  · obtain ⟨c, us, z1, z2, r', u', nb'⟩ := k.ow i ys q
    exact ⟨c, us, z1, z2, r', ⟨u', fun hc => o.o i ys q (by rw [← hc]; exact z1)⟩, nb'⟩
theorem Ok.unhideA {x y : Gh} {s s' : Sx} {σ : L2.St} {H H' : Hp} {a : Addr} {xs : List D} (o : Own T x s σ H a xs) (k0 : Ok T x s σ H) (k : Ok T y s' σ H') (st : Stp ⟨x.io, x.G, fun c => x.U c ∧ c ≠ a⟩ H y H') :
    Ok T ⟨y.io, y.G, fun c => y.U c ∨ c = a⟩ s' σ H' ∧ Own T ⟨y.io, y.G, fun c => y.U c ∨ c = a⟩ s' σ H' a xs ∧ Stp x H ⟨y.io, y.G, fun c => y.U c ∨ c = a⟩ H' ∧ ¬ y.U a := by
  obtain ⟨vs, ha, ra⟩ := o.l
  have nu : ¬ y.U a := fun u => by
    rcases st.un a u with z | z
    · exact z.2 rfl
    · rw [ha] at z; cases z
  have ha' : H' a = some (.lst vs) := st.fr a _ ha fun z => z.2 rfl
  have ng : ∀ u, y.G a ≠ some u := fun u e => by
    rcases st.new a u e with z | z | z
    · exact k0.bx.off a u z o.u
    · exact z.2 rfl
    · rw [ha] at z; cases z
  refine ⟨⟨⟨k.bx.n, k.bx.at_, fun i hi => .inl (k.bx.inU i hi), k.bx.inj, k.bx.sub, fun c u e z => ?_, fun c z => ?_, fun p hp => ⟨.inl (k.bx.tab p hp).1, (k.bx.tab p hp).2⟩, k.bx.lo⟩, k.len, k.sh, fun i ys q => ?_, k.owi, k.th, k.od.of (.refl _) (.refl _) (fun _ _ _ e => ⟨e, rfl⟩) fun _ _ e u => ⟨e, .inl u⟩⟩, ⟨.inr rfl, ⟨vs, ha', ra.mono st.io st.le⟩, fun j hj z => nu (by rw [z]; exact k.bx.inU j hj), fun i ys q z => ?_⟩, ⟨st.io, st.le, fun c u e n => st.fr c u e fun z => n z.1, fun c u e => ?_, fun c u => ?_, st.th⟩, nu⟩
  · rcases z with z | z
    · exact k.bx.off c u e z
    · subst z; exact ng u e
  · rcases z with z | z
    · exact k.bx.trk c z
    · subst z; exact ⟨_, ha'⟩
  · obtain ⟨c, us, z1, z2, r', u', nb'⟩ := k.ow i ys q
    exact ⟨c, us, z1, z2, r', .inl u', nb'⟩
  · obtain ⟨c, us, z1, z2, r', u', nb'⟩ := k.ow i ys q
    rw [z1] at z
    cases z
    exact nu u'
  · rcases st.new c u e with z | z | z
    · exact .inl z
    · exact .inr (.inl z.1)
    · exact .inr (.inr z)
  · rcases u with u | u
    · rcases st.un c u with z | z
      · exact .inl z.1
      · exact .inr z
    · subst u; exact .inl o.u
def sParO (i j : Nat) (ml1 ml2 : M (List D)) : MS := sBind ml1 fun xs => sBind ml2 fun ys s => .nx ((s.own i xs).own j ys)
variable {a b : Expr} {ml1 ml2 : M (List D)} {i j : Nat} {x y : Str} {px py pt pt2 : Pos} {kt k2 : Nat}
theorem ds_parO (hc : X.calm = true) (hN : X.N.Nodup) (hi : X.N[i]? = some x) (hj : X.N[j]? = some y) (hij : i ≠ j)
    (hx : X.env.scope.names.lookup x = some .local) (hy : X.env.scope.names.lookup y = some .local) (ha : PE X a (tF T W ml1)) (hb : PE X b (tF T W ml2))
    (hw : swappedStores [.Tuple [.Name x px, .Name y py] kt pt] (.Tuple [a, b] k2 pt2) X.env = pure (some [x, y]) := by rfl)
    (hs : swapsWithSole [.Tuple [.Name x px, .Name y py] kt pt] (.Tuple [a, b] k2 pt2) pos.line X.env = pure false := by rfl)
    (h1 : starEach [a, b] X.env = (false, eval a X.env) :: starEach [b] X.env := by rfl) (h2 : starEach [b] X.env = (false, eval b X.env) :: starEach [] X.env := by rfl) :
    PS X (.Assign [.Tuple [.Name x px, .Name y py] kt pt] (.Tuple [a, b] k2 pt2) pos) (tS T W (sParO i j ml1 ml2)) :=
  PS.imp (ps_par hc hN hi hj hij hx hy (pa_cons ha (pa_cons hb pa_nil h2) h1) hw hs) fun E σ H ⟨x0, s, k, h⟩ => by
    have h : Fin T W E x0 H (sParO i j ml1 ml2 s) := h
    unfold sParO sBind at h
    refine ⟨x0, s, k, ?_⟩
    cases e1 : ml1 s with
    | exc c ns vs sto => rw [e1] at h; exact h σ
    | bad => rw [e1] at h; exact h
    | ok xs s1 =>
      rw [e1] at h
      simp only at h
      intro x1 a1 H1 k1 st1 o1
      refine ⟨_, s1, k1.hideA o1, ?_⟩
      cases e2 : ml2 s1 with
      | exc c ns vs sto => rw [e2] at h; exact ((h σ).back st1).back (Own.hideStp a1)
      | bad => rw [e2] at h; exact h
      | ok ys s2 =>
        rw [e2] at h
        intro x2 a2 H2 k2 st2 o2
        obtain ⟨ku, ou, su, nu⟩ := Ok.unhideA o1 k1 k2 st2
        have k3 := ku.put_own i ou
        have o3 : Own T ⟨x2.io, x2.G, fun c => x2.U c ∨ c = a1⟩ (s2.own i xs) (σ.set i (some (.ref a1))) H2 a2 ys := by
          refine ⟨.inl o2.u, o2.l, o2.b, fun m zs q z => ?_⟩
          have q : (s2.env.set i (.ow xs))[m]? = some (.ow zs) := q
          by_cases hm : i = m
          · subst hm
            have hlt : i < s2.env.length := by
              have := (List.getElem?_eq_some_iff.mp q).1
              simpa using this
            rw [List.getElem?_set_self (by rw [← k2.len]; exact hlt)] at z
            cases z
            exact nu o2.u
          · rw [List.getElem?_set_ne hm] at q z
            exact o2.o m zs q z
        exact ⟨_, _, rfl, h _ _ H2 (k3.put_own j o3) (st1.trans su)⟩
/-! ### max of ints -/
def maxI : List Int → Int
  | [] => 0
  | [x] => x
  | x :: y :: r => let m := maxI (y :: r); if x ≤ m then m else x
theorem maxI_mem : ∀ {ns : List Int}, ns ≠ [] → maxI ns ∈ ns
  | [], h => absurd rfl h
  | [x], _ => List.mem_cons_self
  | x :: y :: r, _ => by
    have := maxI_mem (ns := y :: r) (by simp)
    unfold maxI
    simp only
    split
    · exact List.mem_cons_of_mem _ this
    · exact List.mem_cons_self
theorem maxI_le : ∀ {ns : List Int}, ∀ z ∈ ns, z ≤ maxI ns
  | [x], z, h => by
    have : z = x := by simpa using h
    rw [this]
    exact Int.le_refl _
  | x :: y :: r, z, h => by
    unfold maxI
    simp only
    rcases List.mem_cons.mp h with e | h
    · subst e
      split <;> omega
    · have := maxI_le z h
      split <;> omega
def gMax : List D → Option D
  | [.lst ds] => (asIs ds).bind fun ns => if ns = [] then none else some (.int (maxI ns))
  | _ => none
end
end Ev

/-! E32: max, max with a default; sorted tuples of ints. -/
namespace L2
open PySem PySem.Spec PyProof.Rows
section
variable {X : Cx}
/-- max(xs, default=d) of ints -/
def rMaxDef (K : PySem.W.Frag) : List V → List V → Hp → VK → Prop := fun vs zs H Q => ∃ (a : Addr) (ns : List Int) (d : V), vs = [V.ref a] ∧ zs = [d] ∧ SqL K H a (ns.map V.int) ∧ (ns = [] → Q d H) ∧ ∀ n r, ns = n :: r → Q (.int (r.foldl max n)) H
theorem depth_intsE : ∀ ns : List Int, PyData.depthAll (ns.map .int) ≤ 1
  | [] => by simp [PyData.depthAll]
  | n :: r => by
    have := depth_intsE r
    simp only [List.map_cons, PyData.depthAll, PyData.depth]
    omega
theorem alike_ints (ns : List Int) : PySem.W.AlikeAll (ns.map .int) := by
  refine ⟨fun x hx y hy => ?_, fun x hx => ?_⟩
  · obtain ⟨i, _, rfl⟩ := List.mem_map.mp hx
    obtain ⟨j, _, rfl⟩ := List.mem_map.mp hy
    rfl
  · obtain ⟨i, _, rfl⟩ := List.mem_map.mp hx
    exact fun z => nomatch z
theorem cr_maxDef {k0 : Nat} (hr : Room k0 X.A) : CallRK X (.builtin "max") ["default"] (rMaxDef X.K) := by
  intro pins s σ H xs zs us ws Q I r rz h
  obtain ⟨a, ns, d, rfl, rfl, hs, q0, q1⟩ := h
  obtain ⟨its, rv, hl, _⟩ := I.list hs
  have hi := rv.ints
  rw [Vals.ref1 r]
  cases rz with
  | cons rd rn =>
    cases rn
    rename_i ud
    have hu := hr.un
    have hd := depth_intsE ns
    refine PySem.W.max_list_default (vs := its.toArray) (xs := ns.map .int) (as := []) hr.hd hl.isList (by simpa using hi.reads s.heap) (alike_ints ns) (by omega) (fun e h' tk kp => ?_) fun y ys i v h' tk bs e hv rd' kp => ?_
    · exact ⟨d, H, I.kept kp, rd, q0 (by simpa using e)⟩
    · cases ns with
      | nil => cases e
      | cons n t =>
        cases e
        rw [PySem.W.maxD_ints] at rd'
        cases rd' with
        | int j tk' => exact ⟨.int _, H, I.kept kp, ⟨_, rfl⟩, q1 n t rfl⟩
end
end L2
namespace Ev
open PySem PySem.Spec L2
section
variable {T : Tx} {W : WX} {X : Cx} {e : Expr} {ma : M D} {ml mk : M (List D)} {pos : Pos}
theorem foldl_max_le : ∀ (r : List Int) (n : Int), n ≤ r.foldl max n ∧ ∀ z ∈ r, z ≤ r.foldl max n
  | [], n => ⟨Int.le_refl _, fun _ h => by cases h⟩
  | x :: r, n => by
    obtain ⟨h1, h2⟩ := foldl_max_le r (max n x)
    refine ⟨Int.le_trans (Int.le_max_left n x) h1, fun z hz => ?_⟩
    rcases List.mem_cons.mp hz with e | hz
    · subst e; exact Int.le_trans (Int.le_max_right n z) h1
    · exact h2 z hz
theorem foldl_max_mem : ∀ (r : List Int) (n : Int), r.foldl max n ∈ n :: r
  | [], n => List.mem_cons_self
  | x :: r, n => by
    have h := foldl_max_mem r (max n x)
    show r.foldl max (max n x) ∈ n :: x :: r
    rcases List.mem_cons.mp h with e | h
    · rw [e]
      by_cases hx : n ≤ x
      · rw [Int.max_eq_right hx]; exact List.mem_cons_of_mem _ List.mem_cons_self
      · rw [Int.max_eq_left (by omega)]; exact List.mem_cons_self
    · exact List.mem_cons_of_mem _ (List.mem_cons_of_mem _ h)
theorem maxI_uniq {ns : List Int} {m : Int} (h0 : ns ≠ []) (h1 : m ∈ ns) (h2 : ∀ z ∈ ns, z ≤ m) : m = maxI ns := Int.le_antisymm (maxI_le m h1) (h2 _ (maxI_mem h0))
theorem p_max (hK : X.K = T.K) : PL T (rMax X.K) gMax := fun io G vs ds z H Q r le q k => by
  unfold gMax at q
  split at q
  · rename_i xs
    obtain ⟨ns, e, q⟩ := Option.bind_eq_some_iff.mp q
    split at q
    · cases q
    · rename_i h0
      cases q
      cases r with
      | cons r1 r2 =>
        cases r2; cases r1 with
        | lst sq rs =>
          refine ⟨_, ns, rfl, by rw [hK, ← rs.ints' e]; exact le.sqL sq, List.length_pos_iff.mpr h0, fun m h1 h2 => ?_⟩
          rw [maxI_uniq h0 h1 h2]
          exact k G _ H (.refl le) (.int _)
  · cases q
def gMaxD : List D → List D → Option D
  | [.lst ds], [d] => (asIs ds).map fun ns => if ns = [] then d else .int (maxI ns)
  | _, _ => none
def mMaxD (ml mk : M (List D)) : M D := M.bind ml fun ds => M.bind mk fun zs => M.lift (gMaxD ds zs)
theorem de_maxD {k0 : Nat} {p : Pos} {d : Expr} {kpos : Pos} (hK : X.K = T.K) (hr : Room k0 X.A) (hg : Gl X "max") (hm : X.mg "max" = none) (ha : PA X [e] (tDs T W ml)) (hk : PK X [⟨some "default", d, kpos⟩] (tDs T W mk))
    (he : backTo pos (starEach [e] X.env) = (false, eval e X.env) :: backTo pos (starEach [] X.env) := by rfl) (hpl : (backTo pos (starEach [e] X.env)).any (·.1) = false := by rfl)
    (hall : (backToKw pos (keywordEach [⟨some "default", d, kpos⟩] X.env)).all (·.1.isSome) = true := by rfl) (hnone : (backToKw pos (keywordEach [⟨some "default", d, kpos⟩] X.env)).any (·.1.isNone) = false := by rfl)
    (hks : (backToKw pos (keywordEach [⟨some "default", d, kpos⟩] X.env)).filterMap (·.1) = [("default" : Str)] := by rfl) :
    PE X (.Call (.Name "max" p) [e] [⟨some "default", d, kpos⟩] pos) (tD T W (mMaxD ml mk)) :=
  PE.imp (pe_callBK (cr_maxDef hr) hg hm (by decide +kernel) ha hk (by decide) (by decide) he hpl hall hnone hks) fun σ H Q ⟨x, s, k, q⟩ => by
    refine ⟨x, s, k, ?_⟩
    unfold mMaxD M.bind M.lift at q
    cases e1 : ml s with
    | exc c ns vs sto => rw [e1] at q; exact q
    | bad => rw [e1] at q; exact q
    | ok ds s1 =>
      rw [e1] at q
      intro x1 vs H1 k1 st1 r1
      refine ⟨x1, s1, k1, ?_⟩
      simp only at q
      cases e2 : mk s1 with
      | exc c ns vs sto => rw [e2] at q; exact q.back st1
      | bad => rw [e2] at q; exact q
      | ok zs s2 =>
        rw [e2] at q
        intro x2 ws H2 k2 st2 r2
        simp only at q
        cases e3 : gMaxD ds zs with
        | none => rw [e3] at q; exact q.elim
        | some z =>
          rw [e3] at q
          unfold gMaxD at e3
          split at e3
          · rename_i xs d
            obtain ⟨ns, e4, rfl⟩ := Option.map_eq_some_iff.mp e3
            have r1 := r1.mono st2.io st2.le
            cases r1 with
            | cons a1 a2 =>
              cases a2
              cases a1 with
              | lst sq rs =>
                cases r2 with
                | cons b1 b2 =>
                  cases b2
                  refine ⟨_, ns, _, rfl, rfl, by rw [hK, ← rs.ints' e4]; exact k2.bx.sub.sqL sq, fun h0 => ?_, fun n r hn => ?_⟩
                  · rw [if_pos h0] at q
                    exact q x2 _ H2 k2 (st1.trans st2) b1
                  · have h0 : ns ≠ [] := by rw [hn]; exact List.cons_ne_nil _ _
                    rw [if_neg h0] at q
                    have em : r.foldl max n = maxI ns := maxI_uniq h0 (by rw [hn]; exact foldl_max_mem r n) fun z hz => by
                      rw [hn] at hz
                      rcases List.mem_cons.mp hz with e | hz
                      · subst e; exact (foldl_max_le r z).1
                      · exact (foldl_max_le r n).2 z hz
                    rw [em]
                    exact q x2 _ H2 k2 (st1.trans st2) (.int _)
          · cases e3
end
end Ev

/-! E33: tuples of ints sorted, the first one empty. -/
namespace TiS
open PySem PySem.W PyProof.Rows Builtin
/-- v: a tuple of these numbers -/
def IsTi (h : Heap) (v : Value) (ns : List Int) : Prop :=
  ∃ (a : Addr) (o : Obj) (items : Array Value) (n : Nat), v = .ref a ∧ h.get? a = some o ∧ o.cls = .type "tuple" ∧ o.data = .seq items n ∧ IntsAre items.toList ns
theorem IsTi.keeps {h h' : Heap} {v : Value} {ns : List Int} (x : IsTi h v ns) (k : ∀ b o, v = .ref b → h.get? b = some o → h'.get? b = some o) : IsTi h' v ns := by
  obtain ⟨a, o, items, n, e, g, c, d, i⟩ := x
  exact ⟨a, o, items, n, e, k _ _ e g, c, d, i⟩
theorem IsTi.type {M : Model} {h : Heap} {v : Value} {ns : List Int} (x : IsTi h v ns) : Looks M h (typeOf v) (.type "tuple") := by
  obtain ⟨a, o, items, n, rfl, g, c, d, i⟩ := x
  exact c ▸ (Looks.ld g).andThen .now
section
variable {prog : Program} {w : World} {A : Around} {E : Value → Shared → Prop} {s : Shared}
theorem call_ltT {a b : Addr} {da db : Option Addr} {items items2 : Array Value} {n n2 : Nat} {sa sb : Array (Option Value)} {ns ms : List Int} {Q : Value → Shared → Prop} (ga : s.heap.get? a = some { cls := .type "tuple", dict := da, data := .seq items n, slots := sa })
    (gb : s.heap.get? b = some { cls := .type "tuple", dict := db, data := .seq items2 n2, slots := sb }) (ia : IntsAre items.toList ns) (ib : IntsAre items2.toList ms) (iv : Looks (model prog w) s.heap (isInstance (.ref a) (.type "tuple")) true)
    (iu : ∀ M : Model, Looks M s.heap (isInstance (.ref b) (.type "tuple")) true) (k : Q (.bool (HT.lexLt ns ms)) s) : wpAny (model prog w) A (call (.builtin "tuple.__lt__") [.ref a, .ref b]) Q E s := by
  refine wpAny_call (codeAny_call_builtin PySem.F.slot_tuple_lt.plain PySem.F.entry_tuple_lt (@check_slot (model prog w) _ _ _ "tuple.__lt__" "tuple" "__lt__" (.ref a) [.ref b] [] _ (by decide +kernel) (by decide +kernel) iv (PySem.F.args_tuple_lt_2 _ _) ?_))
  refine wpAny_mono (NtL.nt_lt_ints a b _ _ items items2 n n2 da db sa sb ns ms ia ib prog w _ (wants Q E) s ⟨ga, gb, iu, k⟩) (fun fin s' r => ?_) fun _ _ z => z
  cases fin with
  | done f => exact r
  | again c => exact r
theorem lt_ti {v u : Value} {ns ms : List Int} {Q : Bool → Shared → Prop} (hu : A.units < cLine) (hv : IsTi s.heap v ns) (hw : IsTi s.heap u ms) (h : Q (HT.lexLt ns ms) s) : wpAny (model prog w) A (keyLt' oneType' v u) Q E s := by
  have iu : ∀ M : Model, Looks M s.heap (isInstance u (.type "tuple")) true := fun M => (hw.type (M := M)).andThen (Looks.of_pure (by rw [isSubtype_type]; kernel_rfl))
  obtain ⟨a, ⟨ca, da, ta, sa⟩, items, n, rfl, ga, c1, d1, ia⟩ := hv
  obtain ⟨b, ⟨cb, db, tb, sb⟩, items2, n2, rfl, gb, c2, d2, ib⟩ := hw
  replace c1 : ca = .type "tuple" := c1
  replace d1 : ta = .seq items n := d1
  replace c2 : cb = .type "tuple" := c2
  replace d2 : tb = .seq items2 n2 := d2
  subst c1 d1 c2 d2
  rw [keyLt'_oneType, oneLt'_eq]
  simp only [if_true]
  refine wpAny_bind (wpAny_cRoomFor hu ?_)
  have ty : s.TypeIs (.ref a) "tuple" := ⟨_, ga, rfl⟩
  have iv : Looks (model prog w) s.heap (isInstance (.ref a) (.type "tuple")) true := (IsTi.type (v := .ref a) (ns := ns) ⟨a, _, items, n, rfl, ga, rfl, rfl, ia⟩).andThen (Looks.of_pure (by rw [isSubtype_type]; kernel_rfl))
  refine wpAny_bind (wpAny_callSpecialIfBound?_slot ty PySem.F.slot_tuple_lt (call_ltT ga gb ia ib iv iu ?_))
  exact wpAny_truthy_bool h
theorem ti_cmp {vs : List Value} {k : Value → List Int} (hu : A.units < cLine) (hv : ∀ v ∈ vs, IsTi s.heap v (k v)) : SrtO.Cmp prog w A s oneType' (fun p => p.1 ∈ vs) (SrtO.lt2 fun v u => HT.lexLt (k v) (k u)) := by
  intro p q hp hq
  exact lt_ti (Q := fun r s' => s' = s ∧ r = HT.lexLt (k p.1) (k q.1)) (E := fun _ _ => False) hu (hv p.1 hp) (hv q.1 hq) ⟨rfl, rfl⟩
end
section
variable {M : Model} {A : Around} {E : Value → Shared → Prop} {s : Shared}
theorem ti_first {v : Value} {ns : List Int} {Q : Option Value → Shared → Prop} (hv : IsTi s.heap v ns) (h : ∀ r, (ns = [] → r = none) → Q r s) : wpAny M A (firstOfTuple' v) Q E s := by
  obtain ⟨a, o, items, n, rfl, g, c, d, i⟩ := hv
  rw [kas_first_eq]
  refine wpAny_bind (Looks.here (show Looks M s.heap (typeOf (.ref a)) o.cls from (Looks.ld g).andThen .now) ?_)
  rw [c, if_neg (by first | decide | simp)]
  refine wpAny_bind (listItems_at g d (wpAny_pure (h _ fun e => ?_)))
  subst e
  have : items.toList = [] := by cases hq : items.toList with
    | nil => rfl
    | cons x r => rw [hq] at i; cases i
  have : items = #[] := by simpa using this
  rw [this]
  rfl
theorem ti_firsts : ∀ (vs : List Value) {Q : List (Option Value) → Shared → Prop}, (∀ v ∈ vs, ∃ ns, IsTi s.heap v ns) → (∀ rs, rs.length = vs.length → Q rs s) → wpAny M A (vs.mapM firstOfTuple') Q E s
  | [], Q, _, h => by rw [List.mapM_nil]; exact wpAny_pure (h [] rfl)
  | v :: vs, Q, hv, h => by
    obtain ⟨ns, h1⟩ := hv v List.mem_cons_self
    rw [List.mapM_cons]
    refine wpAny_bind (ti_first h1 fun r _ => ?_)
    refine wpAny_bind (ti_firsts vs (Q := fun bs s' => wpAny M A (pure (r :: bs)) Q E s') (fun u hu => hv u (List.mem_cons_of_mem _ hu)) fun rs hr => wpAny_pure (h _ (by simp [hr])))
theorem ti_kind {v : Value} {vs : List Value} {Q : SortKind → Shared → Prop} (h0 : IsTi s.heap v []) (hv : ∀ u ∈ vs, ∃ ns, IsTi s.heap u ns) (h : Q oneType' s) : wpAny M A (keyKind' (v :: vs).toArray) Q E s := by
  rw [keyKind'_eq, List.mapM_toArray, map_eq_pure_bind, List.mapM_cons]
  refine wpAny_bind (wpAny_bind (wpAny_bind (ti_first h0 fun r hr => ?_)))
  rw [hr rfl]
  refine wpAny_bind (ti_firsts vs hv fun rs _ => wpAny_pure (wpAny_pure ?_))
  rw [if_neg (by simp), if_neg (by simp)]
  rw [oneTypeOnly'_eq, List.mapM_toArray, map_eq_pure_bind]
  refine wpAny_bind (wpAny_bind (wpAny_bind (kas_mapM (r := .type "tuple") _ (fun u hu Q' hq => ?_) (wpAny_pure ?_))))
  · rcases List.mem_cons.mp hu with e | hu
    · subst e; exact h0.type.here hq
    · obtain ⟨ns, h1⟩ := hv u hu
      exact h1.type.here hq
  · have hall : ((List.map (fun _ => Value.type "tuple") (v :: vs)).toArray.all fun x => x == Value.type "tuple") = true := by
      simp only [List.all_toArray, List.all_map, List.all_eq_true]
      intro _ _
      rfl
    have hz : (List.map (fun _ => Value.type "tuple") (v :: vs)).toArray[0]? = some (Value.type "tuple") := by simp
    rw [hz]
    simp only [hall, if_true]
    exact wpAny_pure (wpAny_pure h)
end
section
variable {prog : Program} {w : World} {A : Around} {s : Shared}
theorem ti_sortable {a : Addr} {v : Value} {vs : List Value} {k : Value → List Int} (hu : A.units < cLine) (h0 : k v = []) (hv : ∀ u ∈ v :: vs, IsTi s.heap u (k u)) (ha : ∀ u ∈ v :: vs, u ≠ .ref a) :
    SrtO.SortableO prog w A s a (v :: vs) fun x y => HT.lexLt (k x) (k y) := by
  intro h' keep
  have hv' : ∀ u ∈ v :: vs, IsTi h' u (k u) := fun u hm => (hv u hm).keeps fun b o e g => keep b o (fun z => ha u hm (by rw [e, z])) g
  refine ⟨oneType', fun Q E hq => ti_kind (s := { s with heap := h' }) (by have := hv' v List.mem_cons_self; rw [h0] at this; exact this) (fun u hm => ⟨_, hv' u (List.mem_cons_of_mem _ hm)⟩) hq, ti_cmp (s := { s with heap := h' }) hu hv'⟩
end
end TiS
namespace L2
open PySem PySem.Spec PyProof.Rows
/-- a tuple's value, its numbers -/
structure VT where
  v : V
  ns : List Int
/-- sorted(xs): tuples of ints, the first one empty -/
def rSortTi (K : PySem.W.Frag) : List V → Hp → VK → Prop := fun vs H Q => ∃ (a : Addr) (bs : List VT), vs = [V.ref a] ∧ SqL K H a (bs.map (·.v)) ∧ (∀ x ∈ bs, ∃ t, x.v = V.ref t ∧ SqT K H t (x.ns.map V.int)) ∧ (∃ v r, bs = v :: r ∧ v.ns = []) ∧
  ∀ (cs : List VT) (p : Addr), cs.Pairwise (fun x y => HT.lexLt y.ns x.ns = false) → cs.Perm bs → H p = none → Q (.ref p) (upd H p (.lst (cs.map (·.v))))
open Classical in
noncomputable def kTi (h : Heap) (u : Value) : List Int := if q : ∃ ns, TiS.IsTi h u ns then q.choose else []
theorem kTi_eq {h : Heap} {u : Value} {ns : List Int} (x : TiS.IsTi h u ns) : kTi h u = ns := by
  have q : ∃ ns, TiS.IsTi h u ns := ⟨ns, x⟩
  unfold kTi
  rw [dif_pos q]
  obtain ⟨a, o, items, n, e, g, c, d, i⟩ := q.choose_spec
  obtain ⟨a', o', items', n', e', g', c', d', i'⟩ := x
  rw [e] at e'
  cases e'
  rw [g] at g'
  cases g'
  rw [d] at d'
  cases d'
  rw [← SrtO.iv_ints i, SrtO.iv_ints i']
theorem vt_back : ∀ {bs : List VT} {its : List Value} {h : Heap}, Vals (bs.map (·.v)) its → (∀ x ∈ bs, ∀ u, RelV x.v u → TiS.IsTi h u x.ns) → its.map (fun u => (⟨backV u, kTi h u⟩ : VT)) = bs
  | [], its, h, r, _ => by cases r; rfl
  | b :: bs, its, h, r, k => by
    cases r with
    | cons r1 r2 =>
      have t := k b List.mem_cons_self _ r1
      have ek := kTi_eq t
      obtain ⟨a, o, items, n, e, _⟩ := t
      rw [List.map_cons, vt_back r2 fun x hx => k x (List.mem_cons_of_mem _ hx), ek]
      congr 1
      obtain ⟨v, ns⟩ := b
      subst e
      have : v = .ref a := by
        cases v with
        | ref c => cases r1; rfl
        | _ => first | cases r1; done | (obtain ⟨t, z⟩ := r1; cases z)
      subst this
      rfl
section
variable {X : Cx}
theorem cr_sortTi {k0 : Nat} (hr : Room k0 X.A) : CallR X (.builtin "sorted") (rSortTi X.K) := by
  intro pins s σ H vs us Q I r h
  obtain ⟨a, bs, rfl, hs, hx, ⟨v0, r0, e0, hk0⟩, q⟩ := h
  obtain ⟨its, rv, hl, hz⟩ := I.list hs
  rw [Vals.ref1 r]
  have hti : ∀ x ∈ bs, ∀ u, RelV x.v u → TiS.IsTi s.heap u x.ns := fun x hm u ru => by
    obtain ⟨t, e, ht⟩ := hx x hm
    rw [e] at ru
    obtain rfl : u = Value.ref t := ru
    obtain ⟨its2, r2, ⟨o, ho, hc, n, hd⟩, _⟩ := I.tuple ht
    exact ⟨t, o, its2.toArray, n, rfl, ho, hc, hd, r2.ints⟩
  have em := vt_back (h := s.heap) rv hti
  have hte : ∀ u ∈ its, TiS.IsTi s.heap u (kTi s.heap u) := fun u hu => by
    have hm : (⟨backV u, kTi s.heap u⟩ : VT) ∈ bs := by rw [← em]; exact List.mem_map.mpr ⟨u, hu, rfl⟩
    have go : ∀ {bs : List VT} {its : List Value}, Vals (bs.map (·.v)) its → u ∈ its → ∃ x ∈ bs, RelV x.v u := by
      intro bs
      induction bs with
      | nil => intro its r hu; cases r; cases hu
      | cons b bs ih =>
        intro its r hu
        cases r with
        | cons r1 r2 =>
          rcases List.mem_cons.mp hu with e | hu
          · subst e; exact ⟨b, List.mem_cons_self, r1⟩
          · obtain ⟨x, hx, rx⟩ := ih r2 hu
            exact ⟨x, List.mem_cons_of_mem _ hx, rx⟩
    obtain ⟨x, hx', rx⟩ := go rv hu
    have t := hti x hx' u rx
    rw [kTi_eq t]
    exact t
  have hun := hr.un
  cases its with
  | nil => rw [e0] at em; cases em
  | cons u us =>
    have hku : kTi s.heap u = [] := by
      rw [e0] at em
      cases em
      exact hk0
    refine SrtO.sorted_ord (NtL.swo_lexL fun u => kTi s.heap u) hl.isList (by rw [← rv.length]; exact hz) (fun h2 h₁ a' ha' keep => TiS.ti_sortable (by show X.A.units + 1 + 1 < cLine; omega) hku (fun w hw => ?_) fun w hw => ?_) fun out h1 h2 => ?_
    · exact (hte w hw).keeps fun b o e g => (keep b o g).2
    · obtain ⟨t, o, items, n, e, g, _⟩ := hte w hw
      intro z
      rw [e] at z
      cases z
      exact (keep _ _ g).1 rfl
    · have h3 : ∀ w ∈ out, ∃ a, w = Value.ref a := fun w hw => by
        obtain ⟨t, o, items, n, e, g, _⟩ := hte w (h2.perm.mem_iff.mp hw)
        exact ⟨t, e⟩
      have hb : (out.map fun u => (⟨backV u, kTi s.heap u⟩ : VT)).Perm bs := by
        rw [← em]
        exact h2.perm.map _
      have ev : (out.map fun u => (⟨backV u, kTi s.heap u⟩ : VT)).map (·.v) = out.map backV := by
        rw [List.map_map]
        rfl
      obtain ⟨ep, at'⟩ := PyProof.Rows.sortedAll_at s.heap (u :: us) out.toArray
      have qq := q (out.map fun u => (⟨backV u, kTi s.heap u⟩ : VT)) (s.heap.objs.size + 1) (List.pairwise_map.mpr (h1.imp fun {x y} z => z)) hb (I.hok.fresh (Nat.le_succ _))
      rw [ev] at qq
      refine ⟨.ref _, upd H (s.heap.objs.size + 1) (.lst (out.map backV)), I.laid (t' := s.toks) (fun _ _ => PyProof.Rows.sortedAll_old) (Nat.le_succ _) ⟨?_, out, ep, vals_back h3, at'⟩, rfl, qq⟩
      rw [← ev, List.length_map, hb.length_eq]
      rw [List.length_map] at hz
      exact hz
end
end L2
namespace Ev
open PySem PySem.Spec L2
/-! ### .. as data -/
def asTi : D → Option (List Int)
  | .tup ds => asIs ds
  | _ => none
def asTis : List D → Option (List (List Int))
  | [] => some []
  | d :: r => (asTi d).bind fun ns => (asTis r).map (ns :: ·)
def tiD (ns : List Int) : D := .tup (ns.map .int)
def lexLe (x y : List Int) : Bool := !HT.lexLt y x
theorem lex_total : ∀ x y : List Int, HT.lexLt x y = false → HT.lexLt y x = false → x = y
  | [], [], _, _ => rfl
  | [], _ :: _, h, _ => by rw [HT.lexLt_nil_cons] at h; cases h
  | _ :: _, [], _, h => by rw [HT.lexLt_nil_cons] at h; cases h
  | x :: xs, y :: ys, h1, h2 => by
    rw [HT.lexLt_cons] at h1 h2
    by_cases e : x = y
    · rw [if_pos e] at h1
      rw [if_pos e.symm] at h2
      rw [e, lex_total xs ys h1 h2]
    · rw [if_neg e] at h1
      rw [if_neg (Ne.symm e)] at h2
      have a := of_decide_eq_false h1
      have b := of_decide_eq_false h2
      omega
theorem lexLe_trans (a b c : List Int) (h1 : lexLe a b = true) (h2 : lexLe b c = true) : lexLe a c = true := by
  unfold lexLe at *
  simp only [Bool.not_eq_true'] at *
  exact NtL.lex_tr _ _ _ h1 h2
theorem lexLe_total (a b : List Int) : (lexLe a b || lexLe b a) = true := by
  unfold lexLe
  cases e : HT.lexLt b a with
  | false => rfl
  | true => rw [NtL.lex_asym _ _ e]; rfl
theorem sorted_uniq {l m : List (List Int)} (hl : l.Pairwise fun x y => HT.lexLt y x = false) (hm : m.Pairwise fun x y => HT.lexLt y x = false) (p : l.Perm m) : l = m :=
  List.Perm.eq_of_pairwise (le := fun x y => HT.lexLt y x = false) (fun a b _ _ h1 h2 => lex_total a b h2 h1) hl hm p
def srtTi (nss : List (List Int)) : List (List Int) := nss.mergeSort lexLe
theorem srtTi_of {l nss : List (List Int)} (hl : l.Pairwise fun x y => HT.lexLt y x = false) (p : l.Perm nss) : l = srtTi nss := by
  refine sorted_uniq hl ?_ (p.trans (List.mergeSort_perm _ _).symm)
  have := List.pairwise_mergeSort (le := lexLe) lexLe_trans lexLe_total nss
  refine this.imp fun {x y} h => ?_
  unfold lexLe at h
  simpa using h
def gSortTi : List D → Option D
  | [.lst ds] => match asTis ds with
    | some ([] :: r) => some (.lst ((srtTi ([] :: r)).map tiD))
    | _ => none
  | _ => none
section
variable {T : Tx} {W : WX} {X : Cx}
/-- data, as tuples' values -/
theorem vts {io : Io} {G : Hp} : ∀ {vs : List V} {ds : List D} {nss : List (List Int)}, Reps T io G vs ds → asTis ds = some nss → ∃ bs : List VT, bs.map (·.v) = vs ∧ bs.map (·.ns) = nss ∧ ∀ b ∈ bs, ∃ t, b.v = V.ref t ∧ SqT T.K G t (b.ns.map V.int)
  | _, _, _, .nil, h => by cases h; exact ⟨[], rfl, rfl, fun _ h => by cases h⟩
  | _, _, _, .cons (v := v) (d := d) a r, h => by
    unfold asTis at h
    obtain ⟨ns, h1, h⟩ := Option.bind_eq_some_iff.mp h
    obtain ⟨nss, h2, rfl⟩ := Option.map_eq_some_iff.mp h
    obtain ⟨bs, e1, e2, e3⟩ := vts r h2
    cases d with
    | tup ds =>
      cases a with
      | @tup c vs' _ sq rs =>
        refine ⟨⟨.ref c, ns⟩ :: bs, by rw [List.map_cons, e1], by rw [List.map_cons, e2], fun b hb => ?_⟩
        rcases List.mem_cons.mp hb with e | hb
        · subst e
          exact ⟨c, rfl, by rw [← rs.ints' h1]; exact sq⟩
        · exact e3 b hb
    | _ => cases h1
theorem tis_ints : ∀ {ds : List D} {ns : List Int}, asIs ds = some ns → ds = ns.map .int
  | [], _, h => by cases h; rfl
  | d :: r, _, h => by
    cases d <;> first | cases h; done | skip
    unfold asIs at h
    obtain ⟨ns, e, rfl⟩ := Option.map_eq_some_iff.mp h
    rw [tis_ints e]
    rfl
theorem reps_tis {io : Io} {G : Hp} : ∀ {bs : List VT}, (∀ b ∈ bs, ∃ t, b.v = V.ref t ∧ SqT T.K G t (b.ns.map V.int)) → Reps T io G (bs.map (·.v)) ((bs.map (·.ns)).map tiD)
  | [], _ => .nil
  | b :: bs, h => by
    obtain ⟨t, e, sq⟩ := h b List.mem_cons_self
    refine .cons ?_ (reps_tis fun c hc => h c (List.mem_cons_of_mem _ hc))
    show Rep T io G b.v (tiD b.ns)
    rw [e]
    refine .tup sq ?_
    have go : ∀ ns : List Int, Reps T io G (ns.map V.int) (ns.map D.int) := by
      intro ns
      induction ns with
      | nil => exact .nil
      | cons n ns ih => exact .cons (.int n) ih
    exact go b.ns
theorem p_sortTi (hK : X.K = T.K) : PL T (rSortTi X.K) gSortTi := fun io G vs ds z H Q r le q k => by
  unfold gSortTi at q
  split at q
  · rename_i xs
    cases e : asTis xs with
    | none => rw [e] at q; cases q
    | some nss =>
      cases nss with
      | nil => rw [e] at q; cases q
      | cons n0 rest =>
        cases n0 with
        | cons _ _ => rw [e] at q; cases q
        | nil =>
          rw [e] at q
          cases q
          cases r with
          | cons r1 r2 =>
            cases r2
            cases r1 with
            | @lst a ws _ sq rs =>
              obtain ⟨bs, e1, e2, e3⟩ := vts rs e
              refine ⟨a, bs, rfl, by rw [hK, e1]; exact le.sqL sq, fun x hx => ?_, ?_, fun cs p hs hp hn => ?_⟩
              · obtain ⟨t, et, st⟩ := e3 x hx
                exact ⟨t, et, by rw [hK]; exact le.sqT st⟩
              · cases bs with
                | nil => cases e2
                | cons b bs =>
                  rw [List.map_cons] at e2
                  exact ⟨b, bs, rfl, (List.cons.inj e2).1⟩
              · have hc : ∀ b ∈ cs, ∃ t, b.v = V.ref t ∧ SqT T.K G t (b.ns.map V.int) := fun b hb => e3 b (hp.mem_iff.mp hb)
                have es : cs.map (·.ns) = srtTi ([] :: rest) := srtTi_of (List.pairwise_map.mpr hs) (by rw [← e2]; exact hp.map _)
                have gr := Grow.one (o := .lst (cs.map (·.v))) le hn
                refine k _ _ _ gr (.lst (.inl (.inl upd_same)) ?_)
                rw [← es]
                exact (reps_tis hc).up gr.g
  · cases q
end
end Ev

/-! E34: sorted(set(texts)). -/
namespace StT
open PySem PySem.Spec L2 PyProof.Rows PySem.Froz
/-- a: a set of the texts l -/
structure SetS (P : Program) (w : World) (h : Heap) (a : Addr) (l : List Str) : Prop where
  ex : ∃ D : SD, h.get? a = some (sObj "set" D) ∧ TxOk P w D l ∧ Ris D.2.2.place.toList ∧ (w.params.followText "set-order" = true ∨ D.2.2.led = true)
  nd : l.Nodup
section
variable {P : Program} {w : World} {A : Around} {E : Value → Shared → Prop} {s : Shared}
theorem SetS.at {h h' : Heap} {a : Addr} {l : List Str} (x : SetS P w h a l) (k : ∀ o, h.get? a = some o → h'.get? a = some o) : SetS P w h' a l := by
  obtain ⟨D, h1, h2⟩ := x.ex
  exact ⟨⟨D, k _ h1, h2⟩, x.nd⟩
theorem tail_facts {ep : Nat} {es1 : Array (Int × Value)} {t2 : SetTable} {wd : Bool} (r : Ris t2.place.toList) : Ris (tailTx ep es1 t2 wd).2.2.place.toList ∧ (tailTx ep es1 t2 wd).2.2.led = t2.led := by
  unfold tailTx
  split
  · exact ⟨relayAll_ris _ _ _, relayAll_led _ _ _⟩
  · exact ⟨r, rfl⟩
theorem addTx_facts {z : Int} {v : Value} {D : SD} (r : Ris D.2.2.place.toList) : Ris (addTx z v D).2.2.place.toList ∧ (addTx z v D).2.2.led = D.2.2.led := by
  have r1 := layNew_ris D.2.2 D.1 z v r
  have l1 := layNew_led D.2.2 D.1 z v
  unfold addTx
  split
  · obtain ⟨a, b⟩ := tail_facts (ep := D.2.1) (es1 := (layNew D.2.2 D.1 z v).1) (t2 := { (layNew D.2.2 D.1 z v).2.1 with plain := false }) (wd := (layNew D.2.2 D.1 z v).2.2.1) r1
    exact ⟨a, b.trans l1⟩
  · obtain ⟨a, b⟩ := tail_facts (ep := D.2.1) (es1 := (layNew D.2.2 D.1 z v).1) (t2 := (layNew D.2.2 D.1 z v).2.1) (wd := (layNew D.2.2 D.1 z v).2.2.1) r1
    exact ⟨a, b.trans l1⟩
/-- what stands there already -/
theorem add_same {a : Addr} {T : String} {D : SD} {l : List Str} {k : Str} {u : Tok} {Q : Bool → Shared → Prop} (ho : s.heap.get? a = some (sObj T D)) (F : TxOk P w D l) (hk : k ∈ l) (hb : l.length < scanBound) (h : Q false s) : wpAny (model P w) A (setAddHashed a (.str k u) (hashStr w k)) Q E s := by
  obtain ⟨es, ep, t⟩ := D
  have hd : (sObj T (es, ep, t)).data = .set es ep t := rfl
  have ft : t.fits es.size = true := F.fit
  have el : ElemsOf (strKind P w) es.toList := F.el
  have sz : es.size = l.length := F.sz
  have b0 : es.size < scanBound := by omega
  have ik : (strKind P w).is k (.str k u) = true := is_str k u
  obtain ⟨e, he, hq⟩ := (F.mem k).mp hk
  have hsome : ∃ j, List.findIdx? (fun e => (strKind P w).is k e.2) es.toList = some j := by
    cases hr : List.findIdx? (fun e => (strKind P w).is k e.2) es.toList with
    | some j => exact ⟨j, rfl⟩
    | none =>
      have c := List.findIdx?_eq_none_iff.mp hr e he
      rw [hq] at c
      cases c
  obtain ⟨j, hj⟩ := hsome
  unfold setAddHashed setAddHashedIn
  refine wpAny_holding (wpAny_bind (wpAny_setState_of ho hd ft ?_))
  dsimp only
  rw [byScan_of rfl b0 el]
  simp only [↓reduceIte]
  unfold setAddByScan
  refine wpAny_bind ?_
  refine wpAny_bind (wpAny_rule ?_)
  refine wpAny_bind (wpAny_setScan_of (knd := strKind P w) (k := k) ik ho hd ft el ?_)
  rw [hj]
  dsimp only
  exact wpAny_pure (wpAny_pure h)
theorem setS_add {a : Addr} {l : List Str} {k : Str} {u : Tok} {Q : Bool → Shared → Prop} (F : SetS P w s.heap a l) (hb : l.length + 1 < scanBound)
    (h : ∀ (b : Bool) (h' : Heap) (l' : List Str), Heap.SameBut a s.heap h' → SetS P w h' a l' → (∀ z, z ∈ l' ↔ z ∈ l ∨ z = k) → l'.length ≤ l.length + 1 → Q b { s with heap := h' }) : wpAny (model P w) A (setAddHashed a (.str k u) (hashStr w k)) Q E s := by
  obtain ⟨D, h1, h2, h3, h4⟩ := F.ex
  by_cases hk : k ∈ l
  · exact add_same h1 h2 hk (by omega) (h false s.heap l (Heap.SameBut.refl a s.heap) F (fun z => ⟨.inl, fun q => q.elim id fun e => e ▸ hk⟩) (Nat.le_succ _))
  · refine add_x h1 h2 hk hb (h true _ (k :: l) (Heap.SameBut.update s.heap a _) ⟨⟨_, get_upd _ h1 rfl, add_ok u h2, ?_, ?_⟩, List.nodup_cons.mpr ⟨hk, F.nd⟩⟩ (fun z => ?_) (Nat.le_refl _))
    · exact (addTx_facts h3).1
    · exact h4.imp id fun z => by rw [(addTx_facts h3).2]; exact z
    · rw [List.mem_cons]
      exact Or.comm
/-- the loop of set(..) over texts -/
theorem set_update_txt {I : Addr} {fp wr : List Addr} {G : Array GenState → Array GenState → Prop} {n : Nat} {Pv : Nat → Value → Prop} {St : Nat → Shared → Prop} {R : Result → Shared → Prop}
    (W : WalksS P w A.in1 I fp wr G n Pv St) (S : Addr) (hSf : S ∉ fp) (ns : List Str) (hn : n = ns.length) (hb : ns.length + 1 < scanBound) (hval : ∀ i v, Pv i v → ∃ k t, ns[i]? = some k ∧ v = .str k t) :
    ∀ (k i : Nat) (s : Shared), n - i = k → i ≤ n → St i s → (∃ l, l.length ≤ i ∧ SetS P w s.heap S l ∧ ∀ z, z ∈ l ↔ z ∈ ns.take i) →
      (∀ s' l, Moved (S :: wr) G s s' → SetS P w s'.heap S l → (∀ z, z ∈ l ↔ z ∈ ns) → l.length ≤ n → R (.ok (.ret .none)) s') →
      codeAny (model P w) A (.builtin "set.update.loop" ⟨[.ref S, .ref I], []⟩) R s := by
  have nw : S ∉ wr := fun h => hSf (W.sub _ h)
  have sub : ∀ b ∈ wr, b ∈ S :: wr := fun b hb => List.mem_cons_of_mem _ hb
  intro k
  induction k with
  | zero =>
    intro i s hk' hi hst ⟨l, hc, hS, hm⟩ hR
    have hin : i = n := by omega
    subst hin
    refine codeAny_builtin F.entry_set_update_loop ?_
    rw [Around.under_plainId F.plain_set_update_loop _]
    show wpAny _ A.in1 (pyNext (.ref I) >>= _) _ _ s
    refine wpAny_bind (W.done s _ _ hst fun s' mv => ?_)
    show wpAny _ A.in1 (ret Value.none) _ _ s'
    rw [List.take_of_length_le (by omega)] at hm
    exact wpAny_pure (hR s' l (mv.mono sub) (hS.at fun o e => mv.heap S o nw e) hm hc)
  | succ k ih =>
    intro i s hk' hi hst ⟨l, hc, hS, hm⟩ hR
    have lt : i < n := by omega
    refine codeAny_builtin F.entry_set_update_loop ?_
    rw [Around.under_plainId F.plain_set_update_loop _]
    show wpAny _ A.in1 (pyNext (.ref I) >>= _) _ _ s
    refine wpAny_bind (W.item i s _ _ lt hst fun v s' hP hst' mv => ?_)
    obtain ⟨z, t, hz, rfl⟩ := hval i v hP
    have hS' : SetS P w s'.heap S l := hS.at fun o e => mv.heap S o nw e
    show wpAny _ A.in1 (holding [Value.str z t] (setAdd S (.str z t)) >>= _) _ _ s'
    refine wpAny_bind (wpAny_holding ?_)
    unfold setAdd
    refine wpAny_holding ?_
    refine wpAny_bind ((strKind P w).pyHash (k := z) (is_str _ _) ?_)
    refine setS_add (s := { s' with toks := s'.toks + 1 }) hS' (by omega) fun b h' l' hsb hS2 hm2 hl2 => ?_
    have hm3 : ∀ y, y ∈ l' ↔ y ∈ ns.take (i + 1) := fun y => by
      rw [hm2 y, hm y, List.take_add_one, hz]
      simp
    refine wpAny_pure ⟨plainId_quiet F.plain_set_update_loop _, ih (i + 1) _ (by omega) lt (W.frame _ s' _ _ hst' (Nat.le_succ _) fun b hb o e => ?_) ⟨l', by omega, hS2, hm3⟩ fun s2 l2 mv2 hS3 hm4 hl3 => ?_⟩
    · rw [hsb.2 b (fun h : b = S => hSf (by rw [← h]; exact hb))]; exact e
    · refine hR s2 l2 (Moved.trans W.gtrans ((mv.mono sub).then_heap (Nat.le_succ _) fun b o hb e => ?_) mv2) hS3 hm4 hl3
      rw [hsb.2 b (fun h : b = S => hb (by rw [h]; exact List.mem_cons_self))]; exact e
abbrev nO (w : World) : Obj := { cls := .type "set", dict := none, data := .set #[] 0 (.fresh 0 0 (!w.params.followText "set-order")) }
theorem setS_new {h : Heap} {a : Addr} (ho : h.get? a = some (nO w)) : SetS P w h a [] := by
  refine ⟨⟨(#[], 0, .fresh 0 0 (!w.params.followText "set-order")), ho, TxOk.nil (by rfl), List.Pairwise.nil, ?_⟩, List.nodup_nil⟩
  show _ ∨ (!w.params.followText "set-order") = true
  cases w.params.followText "set-order"
  · exact .inr rfl
  · exact .inl rfl
theorem call_set_lst {l : Addr} {items : Array Value} (ns : List Str) {Q : Value → Shared → Prop} (hh : A.handled = none) (hl : s.heap.IsList l items) (hit : StrsAre items.toList ns) (hb : ns.length + 1 < scanBound)
    (h : ∀ (h' : Heap) (tk : Nat) (l' : List Str), SetS P w h' s.heap.objs.size l' → (∀ z, z ∈ l' ↔ z ∈ ns) → l'.length ≤ ns.length → (∀ b o, s.heap.get? b = some o → h'.get? b = some o) → Q (.ref s.heap.objs.size) { s with heap := h', toks := tk }) :
    wpAny (model P w) A (call (.type "set") [.ref l]) Q E s := by
  have isz : items.size = ns.length := by
    have q := StrsAre.length hit
    rw [Array.length_toList] at q
    exact q
  obtain ⟨c, tl, hmro⟩ := F.called_set.mro
  have made := F.called_set.made
  have subs := F.called_set.sub
  refine wpAny_call (codeAny_of_tree ?_)
  show wpAny _ _ (callAny (.type "set") _) _ _ _
  refine wpAny_pure ⟨Code.quiet_builtin _ (by decide +kernel), codeAny_builtin F.entry_type_call ?_⟩
  rw [Around.under_plain (weight_type_call_type "set" [.ref l] []) rfl]
  have f1 := F.called_set.notType
  have f2 := F.called_set.canCreate
  have f3 := F.typeCall_set_1 (.ref l)
  repeat (any_goals (first | assumption | wp_step))
  refine codeAny_mono (code_set_led1 (.ref l) (E := E) (Q₁ := fun obj s₁ => obj = .ref s.heap.objs.size ∧ s₁ = { s with heap := s.heap.push (nO w) }) ⟨rfl, rfl⟩) fun r s₁ hr => ?_
  cases r with
  | error e => exact hr
  | ok fl =>
    cases fl with
    | ret obj =>
      obtain ⟨rfl, rfl⟩ := hr
      have oS : (s.heap.push (nO w)).get? s.heap.objs.size = some (nO w) := Heap.get?_push_size _ rfl
      have oT : Shared.TypeIs { s with heap := s.heap.push (nO w) } (.ref s.heap.objs.size) "set" := ⟨_, oS, rfl⟩
      have look := F.called_set.init.lookup
      have bind := F.called_set.init.bind (.ref s.heap.objs.size)
      repeat (any_goals (first | assumption | wp_step))
      refine codeAny_mono (codeAny_call_builtin (R := wants (fun r s₂ => r = .none ∧ ∃ h' tk l', s₂ = { s with heap := h', toks := tk } ∧ SetS P w h' s.heap.objs.size l' ∧ (∀ z, z ∈ l' ↔ z ∈ ns) ∧ l'.length ≤ ns.length ∧
          (∀ b o, s.heap.get? b = some o → h'.get? b = some o)) E) F.called_set.init.plain F.entry_set_init (check_set_init_1 oT ?_)) fun r₂ s₂ hr₂ => ?_
      · obtain ⟨⟨oc, od, odt, osl⟩, hol, hcl, nl, hdl⟩ := hl
        simp only at hcl hdl
        subst hcl; subst hdl
        have at1 : (s.heap.push (nO w)).get? l = some { cls := .type "list", dict := od, data := .seq items nl, slots := osl } := Heap.get?_push_of_some _ hol
        have g1 := F.sub_list_set
        have g2 := F.sub_list_frozenset
        have g3 : (Value.type "list" == Value.type "dict") = false := by decide
        have ls1 : (s.heap.push (nO w)).IsList l items := ⟨_, at1, rfl, nl, rfl⟩
        unfold Builtin.«set.__init__» noKeywords Builtin.Frozenset.updateFrom
        generalize hPI : pyIter = PI
        wp_walk
        subst hPI
        refine wpAny_pyIter_list ls1 ?_
        refine wpAny_bind (wpAny_runValue ?_)
        have lS : l < s.heap.objs.size := Heap.lt_size hol
        have hh3 : A.in1.in1.in1.handled = none := by simp [hh]
        have ne1 : l ≠ (s.heap.push (nO w)).objs.size := by
          rw [Heap.size_push]; exact Nat.ne_of_lt (Nat.lt_succ_of_lt lS)
        have nf1 : s.heap.objs.size ∉ [(s.heap.push (nO w)).objs.size, l] := by
          rw [Heap.size_push]
          simp only [List.mem_cons, List.not_mem_nil, or_false, not_or]
          exact ⟨Nat.ne_of_lt (Nat.lt_succ_self _), Nat.ne_of_gt lS⟩
        have val : ∀ (i : Nat) (v : Value), items[i]? = some v → ∃ k t, ns[i]? = some k ∧ v = .str k t := fun i v hv => by
          obtain ⟨y, t, e, hy⟩ := hit.item i v (by rw [Array.getElem?_toList]; exact hv)
          exact ⟨y, t, hy, e⟩
        refine set_update_txt ((Walks.list hh3 _ l ne1 items).toS) s.heap.objs.size nf1 ns isz hb val (items.size - 0) 0 _ (by omega) (Nat.zero_le _)
          ⟨⟨_, Heap.get?_push_size _ rfl, rfl, rfl⟩, (ls1.push _)⟩ ⟨[], Nat.le_refl _, setS_new (by exact Heap.get?_push_of_some _ oS), fun z => by simp⟩ ?hR
        case hR =>
          intro s' l' mv hS' hm' hl'
          obtain ⟨h', g2, d', tk', os'⟩ := s'
          have eg : g2 = s.gens := mv.gens
          have ed : d' = s.drawn := mv.drawn
          have eo : os' = s.os := mv.os
          subst eg; subst ed; subst eo
          show wpAny _ _ _ _ _ _
          refine wpAny_pure ?_
          show wpAny _ _ (ret Value.none) _ _ _
          rw [isz] at hl'
          refine wpAny_pure ⟨rfl, h', tk', l', rfl, hS', hm', hl', fun b o e => ?_⟩
          have b0 : b < s.heap.objs.size := Heap.lt_size e
          have b1 : b ≠ s.heap.objs.size := Nat.ne_of_lt b0
          have b2 : b ≠ (s.heap.push (nO w)).objs.size := by
            rw [Heap.size_push]; exact Nat.ne_of_lt (Nat.lt_succ_of_lt b0)
          exact mv.heap b o (by simp only [List.mem_cons, List.not_mem_nil, or_false, not_or]; exact ⟨b1, b2⟩) (Heap.get?_push_of_some _ (Heap.get?_push_of_some _ e))
      · cases r₂ with
        | error e => exact hr₂
        | ok fl₂ =>
          cases fl₂ with
          | ret r =>
            obtain ⟨rfl, h', tk, l', rfl, hS', hm', hl', hk'⟩ := hr₂
            repeat (any_goals (first | assumption | wp_step))
            exact h _ _ _ hS' hm' hl' hk'
          | _ => exact hr₂.elim
    | _ => exact hr.elim
def sv : Value → Str
  | .str k _ => k
  | _ => Str.empty
theorem strs_of : ∀ (vs : List Value), (∀ v ∈ vs, ∃ k t, v = Value.str k t) → StrsAre vs (vs.map sv)
  | [], _ => .nil
  | v :: vs, h => by
    obtain ⟨k, t, rfl⟩ := h v List.mem_cons_self
    exact .cons k t (strs_of vs fun u hu => h u (List.mem_cons_of_mem _ hu))
theorem perm_nodup : ∀ {l ks : List Str}, l.Nodup → (∀ z ∈ l, z ∈ ks) → ks.length = l.length → ks.Perm l
  | [], ks, _, _, e => by rw [List.eq_nil_of_length_eq_zero e]
  | x :: l, ks, nd, sub, e => by
    obtain ⟨h1, h2⟩ := List.nodup_cons.mp nd
    have hx := sub x List.mem_cons_self
    refine (List.perm_cons_erase hx).trans ((perm_nodup h2 (fun z hz => ?_) ?_).cons x)
    · exact (List.mem_erase_of_ne fun q : z = x => h1 (by rw [← q]; exact hz)).mpr (sub z (List.mem_cons_of_mem _ hz))
    · rw [List.length_erase_of_mem hx, e]
      rfl
theorem sorted_setS {a : Addr} {l : List Str} {Q : Value → Shared → Prop} (F : SetS P w s.heap a l) (hh : A.handled = none) (h64 : l.length < 64)
    (hQ : ∀ (s' : Shared) (p : Addr) (out : Array Value) (c : Nat) (ys : List Str), (∀ b o, s.heap.get? b = some o → s'.heap.get? b = some o) → s'.gens = s.gens → s'.os = s.os → s.heap.objs.size ≤ p →
      s'.heap.get? p = some (seqObj "list" out c) → StrsAre out.toList ys → ys.Perm l → sortedS ys = true → Q (.ref p) s') :
    wpAny (model P w) A (call (.builtin "sorted") [.ref a]) Q E s := by
  obtain ⟨⟨⟨es, ep, t⟩, ho, tx, ri, led⟩, nd⟩ := F
  have sz : es.size = l.length := tx.sz
  refine Calls.call_function_entry kind_sorted plain_sorted entry_sorted (args_sorted1 _) ?_
  unfold Builtin.«sorted»
  refine wpAny_bind (m := checkCount "sorted" 1 1 _) (wpAny_pure ?_)
  refine wpAny_bind (collect_set (A := A.in1) hh ⟨_, ho, rfl, rfl⟩ tx.fit (by rw [sz]; unfold scanBound; omega) ri led fun s1 vs k1 hz g1 o1 pm => ?_)
  have vl : vs.length = l.length := by rw [pm.length_eq, List.length_map, Array.length_toList]; exact sz
  have each : ∀ e ∈ es.toList, ∃ k t, e.2 = Value.str k t := fun e he => by
    obtain ⟨⟨k, hk, _⟩, _⟩ := tx.el e he
    obtain ⟨t, q⟩ := Value.isStrOf_shape (x := k) (v := e.2) hk
    exact ⟨k, t, q⟩
  have vstr : ∀ v ∈ vs, ∃ k t, v = Value.str k t := fun v hv => by
    obtain ⟨e, he, q⟩ := List.mem_map.mp (pm.mem_iff.mp hv)
    rw [← q]
    exact each e he
  have hS := strs_of vs vstr
  have pk : (vs.map sv).Perm l := by
    have q := pm.map sv
    rw [List.map_map] at q
    refine q.trans (perm_nodup nd (fun z hz => ?_) ?_)
    · obtain ⟨e, he, hq⟩ := (tx.mem z).mp hz
      obtain ⟨t, q2⟩ := Value.isStrOf_shape (x := z) (v := e.2) hq
      exact List.mem_map.mpr ⟨e, he, by show sv e.2 = z; rw [q2]; rfl⟩
    · rw [List.length_map, Array.length_toList]
      exact sz
  refine wpAny_bind (wpAny_newList ?_ (by rw [vl, sizeLine_eq]; omega))
  have at1 : (s1.heap.push (seqObj "list" vs.toArray 0)).get? s1.heap.objs.size = some (seqObj "list" vs.toArray 0) := Heap.get?_push_size _ rfl
  refine wpAny_bind (wpAny_holding (wpAny_call_entry slot_list_sort ⟨_, at1, rfl⟩ entry_list_sort
    (list_sort_treeK strKind_oneLt (s := { s1 with heap := s1.heap.push (seqObj "list" vs.toArray 0) }) at1 hS.keysOf (fun v₁ v₂ rest e => keyKind_strs (by rw [← e]; exact hS)) (by rw [vl]; exact h64) fun st' hp hs => ⟨_, rfl, ?_⟩)
    (args_list_sort _)))
  obtain ⟨ys, a1, a2, a3⟩ := sorted_out_str hS hp hs
  obtain ⟨c, hc⟩ := sortedHeap_at (vs := vs) (out := (arrOf st').map (·.2)) at1
  refine wpAny_pure ⟨_, rfl, hQ _ s1.heap.objs.size _ c ys (fun b u e => ?_) g1 o1 hz hc a1 (a2.trans pk) a3⟩
  have q := k1 b u e
  have lt := Heap.lt_size q
  show (sortedHeap (s1.heap.push (seqObj "list" vs.toArray 0)) s1.heap.objs.size vs _).get? b = some u
  rw [sortedHeap_old (Nat.ne_of_lt lt) (by rw [size_push']; exact Nat.lt_succ_of_lt lt)]
  exact Heap.get?_push_of_some _ q
end
end StT

/-! E35: sorted(set(texts)) as a rule over data. -/
namespace L2
open PySem PySem.Spec PyProof.Rows
/-- a set of texts, not tracked further -/
def setT (P : Program) (w : World) (a : Addr) (l : List Str) : HO := .ext fun h => StT.SetS P w h a l
section
variable {X : Cx}
def rSetT (X : Cx) : List V → Hp → VK → Prop := fun vs H Q => ∃ (a : Addr) (ns : List Str), vs = [V.ref a] ∧ SqL X.K H a (ns.map V.str) ∧ ns.length ≤ 4000 ∧
  ∀ (p : Addr) (l : List Str), l.Nodup → (∀ z, z ∈ l ↔ z ∈ ns) → H p = none → Q (.ref p) (upd H p (setT X.prog X.w p l))
theorem ext_ok {H : Hp} {h : Heap} {a : Addr} {l : List Str} (x : StT.SetS X.prog X.w h a l) : ObjOk X.prog X.w H h a (setT X.prog X.w a l) := by
  obtain ⟨D, e, _⟩ := x.ex
  exact ⟨x, ⟨_, e⟩, fun h1 h2 y k => y.at k⟩
theorem cr_setT (hc : X.calm = true) : CallR X (.type "set") (rSetT X) := by
  intro pins s σ H vs us Q I r h
  obtain ⟨a, ns, rfl, hs, hn, q⟩ := h
  obtain ⟨its, rv, hl, hz⟩ := I.list hs
  rw [Vals.ref1 r]
  refine StT.call_set_lst ns (I.ok.hd hc) hl.isList rv.strs (by unfold scanBound; omega) fun h' tk l' F hm hl' kp => ?_
  exact ⟨.ref _, upd H s.heap.objs.size (setT X.prog X.w s.heap.objs.size l'), I.laid (t' := tk) kp (Nat.le_refl _) (ext_ok F), rfl, q _ l' F.nd hm (I.hok.fresh (Nat.le_refl _))⟩
def rSrtSet (X : Cx) : List V → Hp → VK → Prop := fun vs H Q => ∃ (a : Addr) (l : List Str), vs = [V.ref a] ∧ H a = some (setT X.prog X.w a l) ∧ l.length < 64 ∧
  ∀ (ys : List Str) (p : Addr), ys.Perm l → sortedS ys = true → H p = none → Q (.ref p) (upd H p (.lst (ys.map V.str)))
theorem cr_srtSet (hc : X.calm = true) : CallR X (.builtin "sorted") (rSrtSet X) := by
  intro pins s σ H vs us Q I r h
  obtain ⟨a, l, rfl, ha, h64, q⟩ := h
  rw [Vals.ref1 r]
  obtain ⟨F, _, _⟩ : StT.SetS X.prog X.w s.heap a l ∧ _ ∧ _ := I.hok _ _ ha
  refine StT.sorted_setS F (I.ok.hd hc) h64 fun s' p out c ys kp g1 o1 hp hat hst pm so => ?_
  have hn : H p = none := I.hok.fresh hp
  refine ⟨.ref p, upd H p (.lst (ys.map V.str)), I.call' (ch := []) o1 (Un.laid kp hp hn) (I.hok.laid kp hp ⟨?_, out.toList, c, vals_of_strs hst, by simpa using hat⟩) (by rw [g1]; exact I.bare) (fun _ z => nomatch z), rfl, q ys p pm so hn⟩
  rw [List.length_map, pm.length_eq]
  exact small64 h64
end
end L2
namespace Ev
open PySem PySem.Spec L2 PyProof.Rows
section
variable {T : Tx} {W : WX} {X : Cx} {e : Expr} {ma : M D} {pos : Pos}
def asSs : List D → Option (List Str)
  | [] => some []
  | .str b :: r => (asSs r).map (b :: ·)
  | _ => none
theorem Reps.txs {io : Io} {G : Hp} : ∀ {vs : List V} {ds : List D} {bs : List Str}, Reps T io G vs ds → asSs ds = some bs → vs = bs.map V.str
  | _, _, _, .nil, h => by cases h; rfl
  | _, _, _, .cons (d := d) a r, h => by
    cases d <;> first | cases h; done | skip
    unfold asSs at h
    obtain ⟨bs, e, rfl⟩ := Option.map_eq_some_iff.mp h
    cases a
    rw [Reps.txs r e]; rfl
/-- each once, as first met -/
def oneS : List Str → List Str
  | [] => []
  | x :: r => if x ∈ r then oneS r else x :: oneS r
theorem oneS_mem : ∀ (l : List Str) (z : Str), z ∈ oneS l ↔ z ∈ l
  | [], z => Iff.rfl
  | x :: r, z => by
    unfold oneS
    split
    · rename_i h
      rw [oneS_mem r z, List.mem_cons]
      exact ⟨.inr, fun q => q.elim (fun e => by rw [e]; exact h) id⟩
    · rw [List.mem_cons, List.mem_cons, oneS_mem r z]
theorem oneS_nodup : ∀ l : List Str, (oneS l).Nodup
  | [] => List.nodup_nil
  | x :: r => by
    unfold oneS
    split
    · exact oneS_nodup r
    · rename_i h
      exact List.nodup_cons.mpr ⟨fun q => h ((oneS_mem r x).mp q), oneS_nodup r⟩
def strLe (x y : Str) : Bool := decide (x.cps.toList ≤ y.cps.toList)
def srtS (l : List Str) : List Str := l.mergeSort strLe
theorem perm_sub : ∀ {l m : List Str}, l.Nodup → m.Nodup → (∀ z, z ∈ l ↔ z ∈ m) → l.Perm m
  | [], m, _, _, h => by
    cases m with
    | nil => exact .refl _
    | cons y m => exact absurd ((h y).mpr List.mem_cons_self) (by simp)
  | x :: l, m, nl, nm, h => by
    obtain ⟨h1, h2⟩ := List.nodup_cons.mp nl
    have hx := (h x).mp List.mem_cons_self
    refine .trans ?_ (List.perm_cons_erase hx).symm
    refine (perm_sub h2 (nm.erase x) fun z => ?_).cons x
    by_cases e : z = x
    · subst e
      exact ⟨fun q => absurd q h1, fun q => absurd q (fun q => by
        have := (List.Nodup.mem_erase_iff nm).mp q
        exact this.1 rfl)⟩
    · rw [List.mem_erase_of_ne e, ← h z, List.mem_cons]
      exact ⟨.inr, fun q => q.resolve_left e⟩
def gSortSet (d : D) : Option D := match d with
  | .lst ds => (asSs ds).bind fun ns => if ns.length ≤ 4000 ∧ (oneS ns).length < 64 then some (.lst ((srtS (oneS ns)).map .str)) else none
  | _ => none
theorem rising_pw : ∀ (r : List Str) (p : Str), risingS p r = true → (∀ z ∈ r, p.cps.toList ≤ z.cps.toList) ∧ r.Pairwise fun a b => a.cps.toList ≤ b.cps.toList
  | [], _, _ => ⟨fun _ h => (by cases h), List.Pairwise.nil⟩
  | x :: r, p, h => by
    unfold risingS at h
    rw [Bool.and_eq_true, Bool.not_eq_true'] at h
    rw [ltCps_eq] at h
    have px : p.cps.toList ≤ x.cps.toList := List.not_lt.mp (of_decide_eq_false h.1)
    obtain ⟨h1, h2⟩ := rising_pw r x h.2
    refine ⟨fun z hz => ?_, List.pairwise_cons.mpr ⟨h1, h2⟩⟩
    rcases List.mem_cons.mp hz with e | hz
    · subst e; exact px
    · exact List.le_trans px (h1 z hz)
theorem sorted_pw {ys : List Str} (h : sortedS ys = true) : ys.Pairwise fun a b => a.cps.toList ≤ b.cps.toList := by
  cases ys with
  | nil => exact List.Pairwise.nil
  | cons x r => exact List.pairwise_cons.mpr (rising_pw r x h)
theorem str_ext {x y : Str} (h : x.cps.toList = y.cps.toList) : x = y := by
  obtain ⟨⟨a⟩⟩ := x
  obtain ⟨⟨b⟩⟩ := y
  have : a = b := h
  rw [this]
theorem srtS_pw (l : List Str) : (srtS l).Pairwise fun a b => a.cps.toList ≤ b.cps.toList := by
  have := List.pairwise_mergeSort (le := strLe) (fun a b c h1 h2 => decide_eq_true (List.le_trans (of_decide_eq_true h1) (of_decide_eq_true h2))) (fun a b => by
    unfold strLe
    rcases List.le_total a.cps.toList b.cps.toList with h | h
    · rw [decide_eq_true h]; rfl
    · rw [decide_eq_true h, Bool.or_true]) l
  exact this.imp fun {x y} h => of_decide_eq_true h
theorem srtS_uniq {ys l : List Str} (h : sortedS ys = true) (p : ys.Perm l) : ys = srtS l :=
  List.Perm.eq_of_pairwise (le := fun a b : Str => a.cps.toList ≤ b.cps.toList) (fun a b _ _ h1 h2 => str_ext (List.le_antisymm h1 h2)) (sorted_pw h) (srtS_pw l) (p.trans (List.mergeSort_perm _ _).symm)
theorem de_sortSet {p p2 pos2 : Pos} (hK : X.K = T.K) (hc : X.calm = true) (hg : Gl X "sorted") (hm : X.mg "sorted" = none) (hg2 : Gl X "set") (hm2 : X.mg "set" = none) (he : PE X e (tD T W ma))
    (h1 : starEach [e] X.env = (false, eval e X.env) :: starEach [] X.env := by rfl) (h2 : (backTo pos2 (starEach [] X.env)).any (·.1) = false := by rfl)
    (h3 : starEach [.Call (.Name "set" p2) [e] [] pos2] X.env = (false, eval (.Call (.Name "set" p2) [e] [] pos2) X.env) :: starEach [] X.env := by rfl) (h4 : (backTo pos (starEach [] X.env)).any (·.1) = false := by rfl) :
    PE X (.Call (.Name "sorted" p) [.Call (.Name "set" p2) [e] [] pos2] [] pos) (tD T W (m1 gSortSet ma)) :=
  PE.imp (pe_callB (cr_srtSet hc) hg hm (by decide +kernel) (pa_cons (pe_callTy (cr_setT hc) hg2 hm2 (by decide +kernel) (pa_cons he pa_nil h1) (by decide) (by decide) h1 h2) pa_nil h3) (by decide) (by decide) h3 h4) fun σ H Q ⟨x, s, k, q⟩ => by
    refine ⟨x, s, k, ?_⟩
    unfold m1 M.bind M.lift at q
    cases em : ma s with
    | exc c ns vs sto => rw [em] at q; exact q
    | bad => rw [em] at q; exact q
    | ok d s1 =>
      rw [em] at q
      intro x1 v1 H1 k1 st1 r1
      simp only at q
      cases e2 : gSortSet d with
      | none => rw [e2] at q; exact q.elim
      | some z =>
        simp only [e2] at q
        unfold gSortSet at e2
        cases d with
        | lst ds =>
          obtain ⟨ns, e3, e4⟩ := Option.bind_eq_some_iff.mp e2
          split at e4
          · rename_i hl
            cases e4
            cases r1 with
            | @lst a vs _ sq rs =>
              refine ⟨a, ns, rfl, by rw [hK, ← Reps.txs rs e3]; exact k1.bx.sub.sqL sq, hl.1, fun p l nd hm hp => ?_⟩
              have pm : l.Perm (oneS ns) := perm_sub nd (oneS_nodup ns) fun z => (hm z).trans (oneS_mem ns z).symm
              refine ⟨p, l, rfl, upd_same, by rw [pm.length_eq]; exact hl.2, fun ys p2 py so hp2 => ?_⟩
              rw [srtS_uniq so (py.trans pm)]
              have lu : Le H1 (upd H1 p (setT X.prog X.w p l)) := Le.upd hp
              have hp2' : H1 p2 = none := by
                cases q2 : H1 p2 with
                | none => rfl
                | some o => rw [lu _ _ q2] at hp2; cases hp2
              have gn : x1.G p2 = none := k1.bx.sub.none hp2'
              have l2 : Le (upd H1 p (setT X.prog X.w p l)) (upd (upd H1 p (setT X.prog X.w p l)) p2 (.lst ((srtS (oneS ns)).map V.str))) := Le.upd hp2
              have gr : Grow x1.G H1 (upd x1.G p2 (.lst ((srtS (oneS ns)).map V.str))) (upd (upd H1 p (setT X.prog X.w p l)) p2 (.lst ((srtS (oneS ns)).map V.str))) := by
                refine ⟨Le.upd gn, lu.trans l2, fun c o e => ?_, fun c o e => ?_⟩
                · by_cases hcp : c = p2
                  · subst hcp
                    rw [upd_same] at e ⊢
                    exact e
                  · rw [upd_ne hcp] at e
                    exact l2 _ _ (lu _ _ (k1.bx.sub _ _ e))
                · by_cases hcp : c = p2
                  · subst hcp
                    exact .inr hp2'
                  · rw [upd_ne hcp] at e
                    exact .inl e
              refine q _ _ _ (k1.grow gr) (st1.trans gr.stp) (.lst (.inl (.inl upd_same)) ?_)
              have go : ∀ l : List Str, Reps T x1.io (upd x1.G p2 (.lst ((srtS (oneS ns)).map V.str))) (l.map V.str) (l.map D.str) := by
                intro l
                induction l with
                | nil => exact .nil
                | cons a l ih => exact .cons (.str a) ih
              exact go _
          · cases e4
        | _ => cases e2
end
end Ev

/-! E36: list(x) as a list of one's own; an own list compared. -/
namespace Ev
open PySem PySem.Spec L2
section
variable {T : Tx} {W : WX} {X : Cx} {e a b : Expr} {es : List Expr} {ma mb : M D} {pos : Pos}
def mListF (ma : M D) : M (List D) := M.bind ma fun d => M.lift (itemsOf d)
theorem df_list {p : Pos} (hK : X.K = T.K) (hc : CallR X (.type "list") (fun xs H Q => ∃ p ys, xs = [V.ref p] ∧ (SqL X.K H p ys ∨ SqT X.K H p ys) ∧ ∀ l, H l = none → Q (.ref l) (L2.upd H l (.lst ys)))) (hg : Gl X "list") (hm : X.mg "list" = none) (he : PE X e (tD T W ma))
    (h1 : starEach [e] X.env = (false, eval e X.env) :: starEach [] X.env := by rfl) (h2 : (backTo pos (starEach [] X.env)).any (·.1) = false := by rfl) : PE X (.Call (.Name "list" p) [e] [] pos) (tF T W (mListF ma)) :=
  PE.imp (pe_callTy hc hg hm (by decide +kernel) (pa_cons he pa_nil h1) (by decide) (by decide) h1 h2) fun σ H Q ⟨x, s, k, q⟩ => by
    refine ⟨x, s, k, ?_⟩
    unfold mListF M.bind M.lift at q
    cases em : ma s with
    | exc c ns vs sto => rw [em] at q; exact q
    | bad => rw [em] at q; exact q
    | ok d s1 =>
      rw [em] at q
      intro x1 v1 H1 k1 st1 r1
      simp only at q
      cases r1 with
      | @lst a vs ds sq rs =>
        refine ⟨a, vs, rfl, .inl (by rw [hK]; exact k1.bx.sub.sqL sq), fun l hl => ?_⟩
        obtain ⟨x2, _, _, k2, st2, o⟩ := k1.lay hl rs
        exact q x2 l _ k2 (st1.trans st2) o
      | @tup a vs ds sq rs =>
        refine ⟨a, vs, rfl, .inr (by rw [hK]; exact k1.bx.sub.sqT sq), fun l hl => ?_⟩
        obtain ⟨x2, _, _, k2, st2, o⟩ := k1.lay hl rs
        exact q x2 l _ k2 (st1.trans st2) o
      | _ => exact q.elim
theorem dt_cmpB {op : CmpOp} {r : R2} {g : D → D → Option D} {z : Str} {p2 : Pos} {i : Nat} (ho : OpR X (compareOp op) r) (p : P2 T r g) (hN : X.N[i]? = some z) (hvis : Vis X.env.scope z) (hb : PE X b (tD T W mb)) (hm : behindInMarks op b = false)
    (hd : (z == ("__debug__" : Str)) = false := by decide) (hcd : (z == ("__classdict__" : Str)) = false := by decide) : PT X (.Compare (.Name z p2) [op] [b] pos) (tB T W (mT (mB2 g i mb))) :=
  PT.imp (pt_cmpR ho (pe_var (pos := p2) (i := i) hN hvis hd hcd) hb hm) fun _ _ _ q => tB2 p (tT q)
end
end Ev

/-! E37: dict(pairs), d.get(k, x), xs.pop(i), xs[::-1], a list taken apart, dict displays of any keys. -/
namespace Ev
open PySem PySem.Spec L2
section
variable {T : Tx} {W : WX} {X : Cx} {e a b c : Expr} {es : List Expr} {ma mb mc : M D} {ml : M (List D)} {pos : Pos}
/-! ### dict(pairs) -/
def asPair : D → Option (Key × D)
  | .tup [k, v] => (asKey k).map fun k => (k, v)
  | _ => none
def asPairs : List D → Option (List (Key × D))
  | [] => some []
  | d :: ds => (asPair d).bind fun p => (asPairs ds).map fun r => p :: r
def gDict (l : List D) : Option D := match l with
  | [.lst xs] => (asPairs xs).bind fun ps => if (ps.map (·.1)).Nodup then some (.dic (ps.map (·.1)) (ps.map (·.2))) else none
  | _ => none
def rDict (K : PySem.W.Frag) : List V → Hp → VK → Prop := fun xs H Q => ∃ (a : Addr) (ps : List Addr) (kvs : List (Key × V)), xs = [.ref a] ∧ SqL K H a (ps.map V.ref) ∧ Paired (fun p kv => SqT K H p [kV kv.1, kv.2]) ps kvs ∧ ∀ p, H p = none → Q (.ref p) (L2.upd H p (.dK (mergeK [] kvs)))
theorem call_dictA (hc : X.calm = true) : CallR X (.type "dict") (rDict X.K) := call_dictP hc
theorem asPair_rep {io : Io} {G : Hp} {v : V} {d : D} {k : Key} {z : D} (r : Rep T io G v d) (h : asPair d = some (k, z)) : ∃ (p : Addr) (u : V), v = .ref p ∧ SqT T.K G p [kV k, u] ∧ Rep T io G u z := by
  unfold asPair at h
  split at h
  · rename_i dk dv
    cases e : asKey dk with
    | none => rw [e] at h; cases h
    | some k' =>
      rw [e] at h
      cases h
      cases r with
      | @tup a vs ds sq rs =>
        cases rs with
        | cons r1 r2 =>
          cases r2 with
          | cons r2 r3 =>
            cases r3
            have := asKey_kV r1 e
            subst this
            exact ⟨a, _, rfl, sq, r2⟩
  · cases h
theorem asPairs_rep {io : Io} {G H : Hp} (le : Le G H) : ∀ {vs : List V} {ds : List D} {ps : List (Key × D)}, Reps T io G vs ds → asPairs ds = some ps →
    ∃ (as : List Addr) (kvs : List (Key × V)), vs = as.map V.ref ∧ Paired (fun p kv => SqT T.K H p [kV kv.1, kv.2]) as kvs ∧ kvs.map (·.1) = ps.map (·.1) ∧ Reps T io G (kvs.map (·.2)) (ps.map (·.2))
  | _, _, ps, .nil, h => by
    unfold asPairs at h
    cases h
    exact ⟨[], [], rfl, .nil, rfl, .nil⟩
  | _, _, ps, .cons (d := d) (ds := ds) r rs, h => by
    unfold asPairs at h
    cases e : asPair d with
    | none => rw [e] at h; cases h
    | some p =>
      rw [e] at h
      cases e2 : asPairs ds with
      | none => simp [e2] at h
      | some q =>
        simp [e2] at h
        subst h
        obtain ⟨k, z⟩ := p
        obtain ⟨p, u, rfl, sq, ru⟩ := asPair_rep r e
        obtain ⟨as, kvs, rfl, pr, ek, rk⟩ := asPairs_rep le rs e2
        exact ⟨p :: as, (k, u) :: kvs, rfl, .cons (le.sqT sq) pr, by simp [ek], .cons ru rk⟩
theorem p_dict (hK : X.K = T.K) : PL T (rDict X.K) gDict := fun io G vs ds z H Q r le q k => by
  rw [hK]
  unfold gDict at q
  split at q
  · rename_i xs
    cases r with
    | cons r r0 =>
      cases r0
      cases r with
      | @lst a us ds sq rs =>
        cases e : asPairs xs with
        | none => rw [e] at q; cases q
        | some ps =>
          rw [e] at q
          simp only [Option.bind_some] at q
          by_cases nd : (ps.map (·.1)).Nodup
          · rw [if_pos nd] at q
            cases q
            obtain ⟨as, kvs, rfl, pr, ek, rk⟩ := asPairs_rep le rs e
            refine ⟨a, as, kvs, rfl, le.sqL sq, pr, fun p hp => ?_⟩
            have gr := Grow.one (o := .dK (mergeK [] kvs)) le hp
            have em : mergeK [] kvs = (ps.map (·.1)).zip (kvs.map (·.2)) := by
              rw [mergeK_new (by rw [List.nil_append, ek]; exact nd), List.nil_append, ← ek]
              clear pr ek rk gr
              induction kvs with
              | nil => rfl
              | cons p r ih => simp [← ih]
            refine k _ _ _ gr (.dic (vs := kvs.map (·.2)) (.inl ?_) (by simp) nd (rk.up gr.g))
            rw [upd_same, em]
          · rw [if_neg nd] at q; cases q
      | _ => cases q
  · cases q
/-! ### d.get(k, x) -/
def mGet2 (ma mb mc : M D) : M D := M.bind ma fun d => match d with
  | .dic ks ds => M.bind mb fun k => M.bind mc fun z => M.lift ((asKey k).map fun k => (lk ks ds k).getD z)
  | _ => fun _ => .bad
theorem de_get2 {k0 : Nat} {p1 p3 : Pos} (hr : Room k0 X.A) (ha : PE X a (tD T W ma)) (hb : PE X b (tD T W mb)) (hc : PE X c (tD T W mc))
    (base : attributeBase a "get" X.env (eval a X.env) = eval a X.env := by rfl)
    (few : ((((backTo p3 (starEach [b, c] X.env)).all fun x => !x.fst) && (backToKw p3 (keywordEach [] X.env)).all fun x => x.fst.isSome) && decide (([b, c].length + ([] : List Keyword).length + if ([] : List Keyword).isEmpty = true then 0 else 1) < 30)) = true := by rfl)
    (line : (p1.endLine == p3.line) = true := by rfl) (trees : backTo p3 (starEach [b, c] X.env) = [(false, eval b X.env), (false, eval c X.env)] := by rfl) :
    PE X (.Call (.Attribute a "get" p1) [b, c] [] p3) (tD T W (mGet2 ma mb mc)) :=
  PE.imp (pe_dget2 (by have := hr.un; omega) ha hb hc ⟨base, few, line, trees⟩) fun σ H Q ⟨x, s, k, h⟩ => by
    refine ⟨x, s, k, ?_⟩
    unfold mGet2 M.bind M.lift at h
    cases e1 : ma s with
    | exc c ns vs sto => rw [e1] at h; exact h
    | bad => rw [e1] at h; exact h
    | ok d s1 =>
      rw [e1] at h
      intro x1 v1 H1 k1 st1 r1
      cases d with
      | dic ks ds =>
        simp only at h
        cases r1 with
        | dic rd hl nd rs =>
          refine ⟨_, rfl, .inl ⟨_, k1.bx.sub.rd rd⟩, x1, s1, k1, ?_⟩
          cases e2 : mb s1 with
          | exc c ns vs sto => rw [e2] at h; exact h.back st1
          | bad => rw [e2] at h; exact h
          | ok kd s2 =>
            rw [e2] at h
            intro x2 v2 H2 k2 st2 r2
            simp only at h
            refine ⟨x2, s2, k2, ?_⟩
            cases e3 : mc s2 with
            | exc c ns vs sto => rw [e3] at h; exact (h.back st1).back st2
            | bad => rw [e3] at h; exact h
            | ok z s3 =>
              rw [e3] at h
              intro x3 v3 H3 k3 st3 r3
              simp only at h
              cases e4 : asKey kd with
              | none => rw [e4] at h; exact h.elim
              | some key =>
                rw [e4] at h
                simp only [Option.map_some] at h
                have rs3 := (rs.mono st2.io st2.le).mono st3.io st3.le
                have rd3 := k3.bx.sub.rd (st3.le.rd (st2.le.rd rd))
                have ek := asKey_kV r2 e4
                cases e5 : lk ks ds key with
                | none =>
                  rw [e5] at h
                  refine ⟨none, .inl ⟨_, key, rd3, ek, ((lk_valV hl rs3).2 e5).symm⟩, ?_⟩
                  exact h x3 v3 H3 k3 (st1.trans (st2.trans st3)) r3
                | some w =>
                  rw [e5] at h
                  obtain ⟨u, e6, ru⟩ := (lk_valV hl rs3).1 w e5
                  exact ⟨some u, .inl ⟨_, key, rd3, ek, e6.symm⟩, h x3 u H3 k3 (st1.trans (st2.trans st3)) ru⟩
      | _ => exact h.elim
/-! ### xs.pop(i), x a name of a list of one's own -/
def mPopAt (i : Nat) (ma : M D) : M D := fun s => match s.env[i]? with
  | some (.ow _) => M.bind ma (fun d s' => match s'.env[i]?, d with
    | some (.ow xs), .int j => if (0 ≤ j ∧ j < xs.length) ∧ j < 2 ^ 62 then (match xs[j.toNat]? with
      | some z => .ok z (s'.own i (xs.eraseIdx j.toNat))
      | none => .bad) else .bad
    | _, _ => .bad) s
  | _ => .bad
theorem seqIx {j : Int} {n : Nat} (h0 : 0 ≤ j) (h1 : j < n) : seqIndex? j n = some j.toNat := by
  unfold seqIndex?
  have : ¬ j < 0 := by omega
  simp [this, h0, h1]
theorem de_popAt {z : Str} {i : Nat} {p1 p2 p3 : Pos} (hK : X.K = T.K) (hN : X.N[i]? = some z) (hvis : Vis X.env.scope z) (he : PE X e (tD T W ma))
    (hfew : ((backTo p3 (starEach [e] X.env)).all (fun x => !x.1) && (backToKw p3 (keywordEach [] X.env)).all (fun x => x.1.isSome)
      && decide ([e].length + ([] : List Keyword).length + (if ([] : List Keyword).isEmpty then 0 else 1) < 30)) = true := by rfl)
    (hline : (p2.endLine == p3.line) = true := by rfl) (hs : starEach [e] X.env = (false, eval e X.env) :: starEach [] X.env := by rfl) (hplain : (backTo p3 (starEach [] X.env)).any (·.1) = false := by rfl)
    (hbase : attributeBase (.Name z p1) "pop" X.env (eval (.Name z p1) X.env) = eval (.Name z p1) X.env := by rfl)
    (hd : (z == ("__debug__" : Str)) = false := by decide) (hcd : (z == ("__classdict__" : Str)) = false := by decide) : PE X (.Call (.Attribute (.Name z p1) "pop" p2) [e] [] p3) (tD T W (mPopAt i ma)) :=
  PE.imp (pe_bm PySem.F.plainAttrs_list PySem.F.slot_list_pop PySem.F.type_list_pop mt_popAt (pe_var (pos := p1) (i := i) hN hvis hd hcd) (pa_cons he pa_nil hs) hbase hfew hline hs hplain) fun σ H Q ⟨x, s, k, h⟩ => by
    unfold mPopAt at h
    cases q : s.env[i]? with
    | none => rw [q] at h; exact h.elim
    | some sl =>
      cases sl with
      | un => rw [q] at h; exact h.elim
      | th => rw [q] at h; exact h.elim
      | od ks ds => rw [q] at h; exact h.elim
      | sh d => rw [q] at h; exact h.elim
      | ow xs0 =>
        simp only [q] at h
        unfold M.bind at h
        obtain ⟨a, vs0, h1, h2, h3, h4, h5⟩ := k.ow i xs0 q
        refine ⟨_, h1, .inl ⟨rfl, vs0, by rw [hK]; exact SqL.of h2⟩, x, s, k, ?_⟩
        cases em : ma s with
        | exc c ns vs sto => rw [em] at h; exact h
        | bad => rw [em] at h; exact h
        | ok d s' =>
          rw [em] at h
          simp only at h
          intro x' v0 H' k' st r
          cases q' : s'.env[i]? with
          | none => rw [q'] at h; exact h.elim
          | some sl =>
            cases sl with
            | un => rw [q'] at h; exact h.elim
            | th => rw [q'] at h; exact h.elim
            | od ks ds => rw [q'] at h; exact h.elim
            | sh d => rw [q'] at h; exact h.elim
            | ow xs =>
                cases r with
                | int j =>
                  simp only [q'] at h
                  by_cases hj : (0 ≤ j ∧ j < xs.length) ∧ j < 2 ^ 62
                  · rw [if_pos hj] at h
                    cases ez : xs[j.toNat]? with
                    | none => simp only [ez] at h
                    | some z =>
                      simp only [ez] at h
                      obtain ⟨a', vs, g1, g2, g3, g4, g5⟩ := k'.ow i xs q'
                      have ea : a' = a := by
                        have z : some (some (V.ref a')) = some (some (V.ref a)) := g1.symm.trans h1
                        injection z with z
                        injection z with z
                        injection z
                      subst ea
                      obtain ⟨v, hv, rv⟩ := g3.get ez
                      obtain ⟨k2, st2⟩ := k'.write q' g1 (g3.eraseIdx j.toNat)
                      refine ⟨a', vs, j, j.toNat, v, rfl, rfl, g2, by omega, by omega, ?_, hv, h x' v _ k2 (st.trans st2) rv⟩
                      rw [g3.length]
                      exact seqIx hj.1.1 hj.1.2
                  · rw [if_neg hj] at h; exact h.elim
                | _ => simp only [q'] at h
/-! ### xs[::-1] -/
def gRev (d : D) : Option D := match d with
  | .lst xs => some (.lst xs.reverse)
  | _ => none
def rRev (K : PySem.W.Frag) : V → Hp → VK → Prop := fun x H Q => ∃ a xs, x = .ref a ∧ SqL K H a xs ∧ ∀ p, H p = none → Q (.ref p) (L2.upd H p (.lst xs.reverse))
theorem p_rev (hK : X.K = T.K) : P1 T (rRev X.K) gRev := fun io G v d z H Q r le q k => by
  rw [hK]
  cases r with
  | @lst a vs ds sq rs =>
    cases q
    refine ⟨a, vs, rfl, le.sqL sq, fun p hp => ?_⟩
    have gr := Grow.one (o := .lst vs.reverse) le hp
    exact k _ _ _ gr (.lst (.inl (.inl upd_same)) (rs.reverse.up gr.g))
  | _ => cases q
theorem de_revL {j : Nat} {p1 p2 p3 : Pos} (hK : X.K = T.K) (ha : PE X a (tD T W ma)) : PE X (.Subscript a (.Slice none none (some (.UnaryOp .USub (.Constant (.int 1) j p1) p2)) p3) pos) (tD T W (m1 gRev ma)) :=
  PE.imp (pe_revL ha) fun _ _ _ h => t1 (p_rev hK) h
/-! ### a list taken apart -/
def tgL (u : Tgs) : Tg := ⟨u.slots, fun d s => match d with | .lst xs => u.run xs s | _ => none⟩
theorem dg_lst {es : List Expr} {kk : Nat} {u : Tgs} {n : Nat} (hK : X.K = T.K) (hc : X.calm = true) (h : PGs X es (gDs T u)) (hn : (assignEach es X.env).length = n := by rfl) (hl : ∀ ds s s', u.run ds s = some s' → ds.length = n)
    (hst : (assignEach es X.env).findIdx? (·.1) = none := by rfl) : PG X (.Tuple es kk pos) (gD T (tgL u)) :=
  PG.imp (pg_unl hc h hn hst) fun v σ H Q ⟨x, s, s', d, k, r, e, q⟩ => by
    cases r with
    | lst sq rs =>
      have e : u.run _ s = some s' := e
      refine ⟨_, _, rfl, ?_, ?_, ⟨x, s, s', _, k, rs, e, q⟩⟩
      · rw [hK]; exact k.bx.sub.sqL sq
      · rw [rs.length]; exact hl _ _ _ e
    | _ => cases e
/-! ### displays of dicts, any keys -/
structure DPK (T : Tx) (W : WX) (X : Cx) (pos : Pos) (keys : List (Option Expr)) (values : List Expr) (ks : List Key) (m : M (List D)) : Prop where
  ex : ∃ trs, PPs X pos keys values trs ∧ ∀ σ H Q, tDs T W m σ H (fun vs H' => Q ((ks.zip vs).map fun q => (kV q.1, q.2)) H') → tPairs trs σ H Q
  len : keys.length = values.length
  all : keys.all (·.isSome) = true
  lk : keys.length = ks.length
  ar : Ar ks.length m
theorem dq_nil : DPK T W X pos [] [] [] mNil := ⟨⟨[], pps_nil, fun σ H Q ⟨x, s, k, h⟩ => h x [] H k (.refl _ _) .nil⟩, rfl, rfl, rfl, ar_nil⟩
theorem dq_cons {keys : List (Option Expr)} {values : List Expr} {ks : List Key} {m : M (List D)} {k : Key} {ke v : Expr} (hk : PE X ke (tC (kV k))) (ha : PE X v (tD T W ma)) (h : DPK T W X pos keys values ks m) : DPK T W X pos (some ke :: keys) (v :: values) (k :: ks) (mCons ma m) := by
  obtain ⟨trs, h1, h2⟩ := h.ex
  refine ⟨⟨_, pps_cons hk ha h1, fun σ H Q q => ?_⟩, by simp [h.len], by simp [h.all], by simp [h.lk], ar_cons h.ar⟩
  have q2 := tDs_cons q
  show tD T W ma σ H fun y H2 => tPairs trs σ H2 fun ps H3 => Q ((kV k, y) :: ps) H3
  exact tD.mono q2 fun y H2 q3 => h2 σ H2 _ (tDs.mono q3 fun vs H3 q4 => by simpa using q4)
def mDispK (ks : List Key) (m : M (List D)) : M D := M.bind m fun ds => M.pure (.dic ks ds)
theorem de_dispK {keys : List (Option Expr)} {values : List Expr} {ks : List Key} {m : M (List D)} (h : DPK T W X pos keys values ks m) (nd : ks.Nodup) (h0 : keys ≠ []) (h15 : ks.length ≤ 15) : PE X (.Dict keys values pos) (tD T W (mDispK ks m)) := by
  obtain ⟨trs, h1, h2⟩ := h.ex
  refine PE.imp (pe_disp h1 h.all h.len h0 (by rw [h.lk]; exact h15)) fun σ H Q ⟨x, s, k, q⟩ => fun p hp => h2 σ _ _ ?_
  have hu : ¬ x.U p := fun z => by
    obtain ⟨o, e⟩ := k.bx.trk p z
    rw [hp] at e; cases e
  have hg : x.G p = none := k.bx.sub.none hp
  refine ⟨x, s, k.aside' hu hg, ?_⟩
  unfold mDispK M.bind M.pure at q
  have st0 : Stp x H x (L2.upd H p (.dK [])) := (Stp.refl x H).aside hp
  cases e : m s with
  | exc c ns vs sto => rw [e] at q; exact q.back st0
  | bad => rw [e] at q; exact q
  | ok ds s' =>
    rw [e] at q
    simp only at q
    intro x2 vs H2 k2 st2 r2
    have h2p : H2 p = some (.dK []) := st2.fr p _ upd_same hu
    have hu2 : ¬ x2.U p := fun z => by
      rcases st2.un p z with w | w
      · exact hu w
      · rw [upd_same] at w; cases w
    have hg2 : x2.G p = none := by
      cases e2 : x2.G p with
      | none => rfl
      | some o =>
        rcases st2.new p o e2 with w | w | w
        · rw [hg] at w; cases w
        · exact absurd w hu
        · rw [upd_same] at w; cases w
    have hlen : vs.length = ks.length := r2.length.trans (h.ar s ds s' e)
    have kz : ((ks.zip vs : List (Key × V)).map (·.1)) = ks := by
      rw [List.map_fst_zip]
      simp [hlen]
    refine ⟨h2p, ks.zip vs, rfl, by simp [hlen]; omega, ?_⟩
    have em : mergeK [] (ks.zip vs : List (Key × V)) = ks.zip vs := by
      rw [mergeK_new]
      · rfl
      · rw [List.nil_append, kz]
        exact nd
    rw [em]
    have k3 := k2.aside' (o := .dK (ks.zip vs)) hu2 hg2
    obtain ⟨k4, le4⟩ := k3.reveal upd_same hu2 hg2
    refine q _ _ _ k4 ⟨st2.io, st2.le.trans le4, fun a o e n => ?_, fun a o e => ?_, fun a u => ?_, fun a e => ?_⟩ (.dic (.inl upd_same) (by simp [h.ar s ds s' e]) nd (r2.up le4))
    · have ha : a ≠ p := ne_of_none e hp
      rw [upd_ne ha]
      exact st2.fr a o (by rw [upd_ne ha]; exact e) n
    · have e : L2.upd x2.G p _ a = some o := e
      by_cases ha : a = p
      · subst ha; exact .inr (.inr hp)
      · rw [upd_ne ha] at e
        rcases st2.new a o e with w | w | w
        · exact .inl w
        · exact .inr (.inl w)
        · rw [upd_ne ha] at w; exact .inr (.inr w)
    · rcases st2.un a u with w | w
      · exact .inl w
      · by_cases ha : a = p
        · subst ha; exact .inr hp
        · rw [upd_ne ha] at w; exact .inr w
    · by_cases ha : a = p
      · subst ha; exact hp
      · rw [upd_ne ha] at e
        have := st2.th a e
        rw [upd_ne ha] at this; exact this
end
end Ev

/-! E38: a dict of one's own: made, asked, put to. -/
namespace Ev
open PySem PySem.Spec L2
section
variable {T : Tx} {x : Gh} {s : Sx} {σ : L2.St} {H : Hp}
theorem set_other {l : List Sl} {i j : Nat} {z y : Sl} (hz : y ≠ z) (e : (l.set i z)[j]? = some y) : i ≠ j ∧ l[j]? = some y := by
  by_cases hj : i = j
  · subst hj
    have hl : i < l.length := by simpa using (List.getElem?_eq_some_iff.mp e).1
    rw [List.getElem?_set_self hl] at e
    cases e
    exact absurd rfl hz
  · rw [List.getElem?_set_ne hj] at e
    exact ⟨hj, e⟩
theorem Ok.lay_od (k : Ok T x s σ H) (i : Nat) {p : Addr} (hp : H p = none) :
    ∃ x' : Gh, Ok T x' { s with env := s.env.set i (.od [] []) } (σ.set i (some (.ref p))) (L2.upd H p (.dK [])) ∧ Stp x H x' (L2.upd H p (.dK [])) := by
  have lu : Le H (L2.upd H p (.dK [])) := Le.upd hp
  have gp := k.bx.sub.none hp
  have off : ∀ {c : Addr} {o : HO}, H c = some o → c ≠ p := fun e z => by subst z; rw [hp] at e; cases e
  refine ⟨⟨x.io, x.G, fun c => x.U c ∨ c = p⟩, ⟨⟨k.bx.n, fun i ys e => ?_, fun i hi => .inl (k.bx.inU i hi), k.bx.inj, k.bx.sub.trans lu, fun c o e z => ?_, fun c z => ?_, fun q hq => ⟨.inl (k.bx.tab q hq).1, (k.bx.tab q hq).2.ext (.refl _) lu⟩, k.bx.lo⟩, by simpa using k.len, fun j d e => ?_, fun j ys e => ?_, fun j l ys zs a q1 q2 q3 q4 => ?_, fun j e => ?_, fun j ks ds e => ?_, fun j l ks ls ds es a q1 q2 q3 q4 => ?_⟩, ⟨.refl _, .refl _, fun c o e _ => lu c o e, fun c o e => .inl e, fun c z => ?_, fun c e => lu.none e⟩⟩
  · obtain ⟨us, e1, r1⟩ := k.bx.at_ i ys e
    exact ⟨us, lu _ _ e1, r1⟩
  · rcases z with z | z
    · exact k.bx.off c o e z
    · subst z; rw [gp] at e; cases e
  · rcases z with z | z
    · obtain ⟨o, e⟩ := k.bx.trk c z
      exact ⟨o, lu _ _ e⟩
    · subst z; exact ⟨_, upd_same⟩
  · obtain ⟨hj, e⟩ := set_other (fun z => by cases z) e
    rw [List.getElem?_set_ne hj]
    exact k.sh j d e
  · obtain ⟨hj, e⟩ := set_other (fun z => by cases z) e
    rw [List.getElem?_set_ne hj]
    obtain ⟨c, us, z1, z2, r', u', nb'⟩ := k.ow j ys e
    exact ⟨c, us, z1, lu _ _ z2, r', .inl u', nb'⟩
  · obtain ⟨hj, q1⟩ := set_other (fun z => by cases z) q1
    obtain ⟨hl, q2⟩ := set_other (fun z => by cases z) q2
    rw [List.getElem?_set_ne hj] at q3
    rw [List.getElem?_set_ne hl] at q4
    exact k.owi j l ys zs a q1 q2 q3 q4
  · obtain ⟨hj, e⟩ := set_other (fun z => by cases z) e
    rw [List.getElem?_set_ne hj]
    exact k.th j e
  · by_cases hj : i = j
    · subst hj
      have hi : i < s.env.length := by simpa using (List.getElem?_eq_some_iff.mp e).1
      rw [List.getElem?_set_self hi] at e
      cases e
      exact ⟨p, [], List.getElem?_set_self (by rw [← k.len]; exact hi), upd_same, rfl, .nil, .nil, .inr rfl⟩
    · rw [List.getElem?_set_ne hj] at e ⊢
      obtain ⟨a, vs, h1, h2, h3, h4, h5, h6⟩ := k.od.at_ j ks ds e
      exact ⟨a, vs, h1, lu _ _ h2, h3, h4, h5, .inl h6⟩
  · have fresh : ∀ {j : Nat} {ks : List Key} {ds : List D}, s.env[j]? = some (.od ks ds) → σ[j]? ≠ some (some (.ref p)) := fun {j ks ds} e z => by
      obtain ⟨b, vs, h1, h2, _⟩ := k.od.at_ j ks ds e
      rw [h1] at z
      cases z
      exact off h2 rfl
    have hi : ∀ {j : Nat} {ks : List Key} {ds : List D}, (s.env.set i (.od [] []))[j]? = some (.od ks ds) → j < σ.length := fun e => by
      rw [← k.len]; simpa using (List.getElem?_eq_some_iff.mp e).1
    by_cases hj : i = j
    · subst hj
      rw [List.getElem?_set_self (hi q1)] at q3
      cases q3
      by_cases hl : i = l
      · exact hl
      · rw [List.getElem?_set_ne hl] at q2 q4
        exact absurd q4 (fresh q2)
    · by_cases hl : i = l
      · subst hl
        rw [List.getElem?_set_self (hi q2)] at q4
        cases q4
        rw [List.getElem?_set_ne hj] at q1 q3
        exact absurd q3 (fresh q1)
      · rw [List.getElem?_set_ne hj] at q1 q3
        rw [List.getElem?_set_ne hl] at q2 q4
        exact k.od.inj j l ks ls ds es a q1 q2 q3 q4
  · rcases z with z | z
    · exact .inl z
    · subst z; exact .inr hp
theorem Ok.put_od (k : Ok T x s σ H) {i : Nat} {a : Addr} {ks : List Key} {ds : List D} {vs : List V} {key : Key} {v : V} {d : D} (e : s.env[i]? = some (.od ks ds)) (ea : σ[i]? = some (some (.ref a))) (ha : H a = some (.dK (ks.zip vs))) (rs : Reps T x.io x.G vs ds) (hn : key ∉ ks) (r : Rep T x.io x.G v d) :
    Ok T x { s with env := s.env.set i (.od (ks ++ [key]) (ds ++ [d])) } σ (L2.upd H a (.dK (putK (ks.zip vs) key v))) ∧ Stp x H x (L2.upd H a (.dK (putK (ks.zip vs) key v))) := by
  obtain ⟨a', vs', h1, h2, h3, h4, h5, h6⟩ := k.od.at_ i ks ds e
  have ec : a' = a := by
    have z : some (some (V.ref a')) = some (some (V.ref a)) := h1.symm.trans ea
    injection z with z
    injection z with z
    injection z
  subst ec
  have hi : i < s.env.length := (List.getElem?_eq_some_iff.mp e).1
  have hl : ks.length = vs.length := h3.trans rs.length.symm
  have ez : putK (ks.zip vs) key v = (ks ++ [key]).zip (vs ++ [v]) := by
    rw [Ev.putK_new (by rw [List.map_fst_zip (Nat.le_of_eq hl)]; exact hn), List.zip_append hl]
    rfl
  have other : ∀ {c : Addr} {o : HO}, H c = some o → (∀ kvs, o ≠ .dK kvs) → c ≠ a' := fun q n z => by
    subst z
    rw [ha] at q
    cases q
    exact n _ rfl
  refine ⟨⟨⟨k.bx.n, fun j zs q => ?_, k.bx.inU, k.bx.inj, fun b o q => ?_, k.bx.off, fun b q => ?_, fun p hp => ⟨(k.bx.tab p hp).1, ?_⟩, k.bx.lo⟩, by simpa using k.len, fun j d q => ?_, fun j zs q => ?_, fun j l ys' zs' b q1 q2 q3 q4 => ?_, fun j q => ?_, fun j ks' ds' q => ?_, fun j l ks' ls ds' es b q1 q2 q3 q4 => ?_⟩, ⟨.refl _, .refl _, fun b o q n => ?_, fun _ _ q => .inl q, fun _ q => .inl q, fun b q => ?_⟩⟩
  · obtain ⟨ws, g1, g2⟩ := k.bx.at_ j zs q
    exact ⟨ws, by rw [upd_ne (other g1 fun _ z => by cases z)]; exact g1, g2⟩
  · rw [upd_ne (fun z => by subst z; exact k.bx.off b o q h6)]
    exact k.bx.sub b o q
  · by_cases hb : b = a'
    · subst hb; exact ⟨_, upd_same⟩
    · rw [upd_ne hb]; exact k.bx.trk b q
  · obtain ⟨ps, e1, e2⟩ := (k.bx.tab p hp).2
    exact ⟨ps, by rw [upd_ne (other e1 fun _ z => by cases z)]; exact e1, e2⟩
  · exact k.sh j d (set_other (fun z => by cases z) q).2
  · obtain ⟨b, ws, g1, g2, g3⟩ := k.ow j zs (set_other (fun z => by cases z) q).2
    exact ⟨b, ws, g1, by rw [upd_ne (other g2 fun _ z => by cases z)]; exact g2, g3⟩
  · exact k.owi j l ys' zs' b (set_other (fun z => by cases z) q1).2 (set_other (fun z => by cases z) q2).2 q3 q4
  · exact k.th j (set_other (fun z => by cases z) q).2
  · have q : (s.env.set i (.od (ks ++ [key]) (ds ++ [d])))[j]? = some (.od ks' ds') := q
    by_cases hj : i = j
    · subst hj
      rw [List.getElem?_set_self hi] at q
      cases q
      refine ⟨a', vs ++ [v], h1, ?_, by simp [h3], ?_, rs.append (.one r), h6⟩
      · rw [upd_same, ez]
      · rw [List.nodup_append]
        exact ⟨h4, by simp, fun p hp q hq z => hn (by simp at hq; subst hq; rw [← z]; exact hp)⟩
    · rw [List.getElem?_set_ne hj] at q
      obtain ⟨b, ws, g1, g2, g3, g4, g5, g6⟩ := k.od.at_ j ks' ds' q
      have hb : b ≠ a' := fun z => by
        subst z
        exact hj (k.od.inj i j ks ks' ds ds' b e q h1 g1)
      exact ⟨b, ws, g1, by rw [upd_ne hb]; exact g2, g3, g4, g5, g6⟩
  · have back : ∀ {j : Nat} {ks' : List Key} {ds' : List D}, (s.env.set i (.od (ks ++ [key]) (ds ++ [d])))[j]? = some (.od ks' ds') → ∃ ks2 ds2, s.env[j]? = some (.od ks2 ds2) := fun {j ks' ds'} q => by
      by_cases hj : i = j
      · subst hj; exact ⟨ks, ds, e⟩
      · rw [List.getElem?_set_ne hj] at q; exact ⟨ks', ds', q⟩
    obtain ⟨_, _, w1⟩ := back q1
    obtain ⟨_, _, w2⟩ := back q2
    exact k.od.inj j l _ _ _ _ b w1 w2 q3 q4
  · rw [upd_ne (fun z => by subst z; exact n h6)]
    exact q
  · by_cases hb : b = a'
    · subst hb; rw [upd_same] at q; cases q
    · rw [upd_ne hb] at q; exact q
end
section
variable {T : Tx} {W : WX} {X : Cx} {e a b : Expr} {ma mv mk : M D} {pos : Pos}
/-- name = {} -/
def sNewD (i : Nat) : MS := fun s => .nx { s with env := s.env.set i (.od [] []) }
theorem ds_newD {i : Nat} {y : Str} {pos' p2 : Pos} (hN : X.N.Nodup) (hi : X.N[i]? = some y) (hx : Loc X.env.scope y) (hs : swapsWith (.Dict [] [] p2) (some (.Name y pos')) pos.line X.env = pure false := by rfl) (hf : X.fn y = true ∨ X.env.scope.names.lookup y = some .local := by first | exact .inl rfl | exact .inr rfl | assumption) :
    PS X (.Assign [.Name y pos'] (.Dict [] [] p2) pos) (tS T W (sNewD i)) :=
  PS.imp (ps_set hN hi hx pe_dnewK hs hf) fun E σ H ⟨x, s, k, h⟩ => fun p hp => by
    obtain ⟨x', k', st⟩ := k.lay_od i hp
    exact h x' _ _ k' st
/-- e in name -/
def mInO (i : Nat) (ma : M D) : M D := M.bind ma fun d s => match s.env[i]?, asKey d with
  | some (.od ks ds), some key => .ok (.bl (lk ks ds key).isSome) s
  | _, _ => .bad
theorem in_od {σ : L2.St} {H : Hp} {Q : VK} {i : Nat} (h : tD T W (mInO i ma) σ H Q) : tDIn (tD T W ma) (tVar i) σ H Q := by
  obtain ⟨x, s, k, h⟩ := h
  refine ⟨x, s, k, ?_⟩
  unfold mInO M.bind at h
  cases em : ma s with
  | exc c ns vs sto => rw [em] at h; exact h
  | bad => rw [em] at h; exact h
  | ok d s1 =>
    rw [em] at h
    intro x1 v1 H1 k1 st1 r1
    simp only at h
    cases q : s1.env[i]? with
    | none => rw [q] at h; exact h.elim
    | some sl =>
      cases sl with
      | od ks ds =>
        cases ek : asKey d with
        | none => rw [q, ek] at h; exact h.elim
        | some key =>
          rw [q, ek] at h
          simp only at h
          obtain ⟨a, vs, h1, h2, h3, h4, h5, h6⟩ := k1.od.at_ i ks ds q
          refine ⟨_, h1, a, valV (ks.zip vs) key, rfl, .inl ⟨_, key, .inl h2, asKey_kV r1 ek, rfl⟩, ?_⟩
          have es : (valV (ks.zip vs) key).isSome = (lk ks ds key).isSome := by
            cases e1 : lk ks ds key with
            | none => rw [(lk_valV h3 h5).2 e1]; rfl
            | some w =>
              obtain ⟨u, e2, _⟩ := (lk_valV h3 h5).1 w e1
              rw [e2]; rfl
          rw [es]
          exact h x1 _ H1 k1 st1 (.bl _)
      | _ => rw [q] at h; exact h.elim
theorem de_inO {z : Str} {i : Nat} {p2 : Pos} {k0 : Nat} (hr : Room k0 X.A) (hN : X.N[i]? = some z) (hvis : Vis X.env.scope z) (ha : PE X a (tD T W ma)) (hm : behindInMarks .In (.Name z p2) = false := by rfl)
    (hd : (z == ("__debug__" : Str)) = false := by decide) (hcd : (z == ("__classdict__" : Str)) = false := by decide) : PE X (.Compare a [.In] [.Name z p2] pos) (tD T W (mInO i ma)) :=
  PE.imp (pe_cmp (pc_din (by have := hr.un; omega) ha (pe_var (pos := p2) (i := i) hN hvis hd hcd)) hm) fun _ _ _ h => in_od h
theorem dt_inO {z : Str} {i : Nat} {p2 : Pos} {k0 : Nat} (hr : Room k0 X.A) (hN : X.N[i]? = some z) (hvis : Vis X.env.scope z) (ha : PE X a (tD T W ma)) (hm : behindInMarks .In (.Name z p2) = false := by rfl)
    (hd : (z == ("__debug__" : Str)) = false := by decide) (hcd : (z == ("__classdict__" : Str)) = false := by decide) : PT X (.Compare a [.In] [.Name z p2] pos) (tB T W (mT (mInO i ma))) :=
  PT.imp (pt_cmp (pc_din (by have := hr.un; omega) ha (pe_var (pos := p2) (i := i) hN hvis hd hcd)) hm) fun _ _ _ h => in_od (tT h)
theorem lk_not {key : Key} : ∀ {ks : List Key} {ds : List D}, ks.length = ds.length → lk ks ds key = none → key ∉ ks
  | [], _, _, _ => by simp
  | k :: ks, [], h, _ => by simp at h
  | k :: ks, d :: ds, h, e => by
    unfold lk at e
    by_cases hk : key = k
    · rw [if_pos hk] at e; cases e
    · rw [if_neg hk] at e
      intro z
      rcases List.mem_cons.mp z with z | z
      · exact hk z
      · exact lk_not (by simpa using h) e z
/-- name[e] = v, a new key -/
def sPutO (i : Nat) (mk mv : M D) : MS := sBind mv fun v s1 => match s1.env[i]? with
  | some (.od _ _) => sBind mk (fun kd s => match s.env[i]?, asKey kd with
    | some (.od ks ds), some key => if ks.length < sizeLine ∧ (lk ks ds key).isNone = true then .nx { s with env := s.env.set i (.od (ks ++ [key]) (ds ++ [v])) } else .bad
    | _, _ => .bad) s1
  | _ => .bad
theorem ds_putO {i' value : Expr} {z : Str} {i : Nat} {p1 tpos : Pos} {k0 : Nat} (hr : Room k0 X.A) (hN : X.N[i]? = some z) (hvis : Vis X.env.scope z) (hv : PE X value (tD T W mv)) (hi : PE X i' (tD T W mk))
    (hs : swapsWith value (some (.Subscript (.Name z p1) i' tpos)) pos.line X.env = pure false := by rfl)
    (hd : (z == ("__debug__" : Str)) = false := by decide) (hcd : (z == ("__classdict__" : Str)) = false := by decide) : PS X (.Assign [.Subscript (.Name z p1) i' tpos] value pos) (tS T W (sPutO i mk mv)) :=
  PS.imp (ps_dput (by have := hr.un; omega) (pe_var (pos := p1) (i := i) hN hvis hd hcd) hi hv hs) fun E σ H ⟨x, s, k, h⟩ => tD_s k h fun d s1 x1 v H1 k1 _ r1 f1 => by
    cases q : s1.env[i]? with
    | none => rw [q] at f1; exact f1.elim
    | some sl =>
      cases sl with
      | od ks0 ds0 =>
        simp only [q] at f1
        obtain ⟨a, vs0, h1, h2, _⟩ := k1.od.at_ i ks0 ds0 q
        refine ⟨_, h1, tD_s k1 f1 fun j s3 x3 iv H3 k3 st3 r3 f3 => ?_⟩
        cases q' : s3.env[i]? with
        | none => rw [q'] at f3; exact f3.elim
        | some sl =>
          cases sl with
          | od ks ds =>
            cases ek : asKey j with
            | none => rw [q', ek] at f3; exact f3.elim
            | some key =>
              rw [q', ek] at f3
              simp only at f3
              by_cases hc : ks.length < sizeLine ∧ (lk ks ds key).isNone = true
              · rw [if_pos hc] at f3
                obtain ⟨a', vs, g1, g2, g3, g4, g5, g6⟩ := k3.od.at_ i ks ds q'
                have ea : a' = a := by
                  have z : some (some (V.ref a')) = some (some (V.ref a)) := g1.symm.trans h1
                  injection z with z
                  injection z with z
                  injection z
                subst ea
                obtain ⟨k4, st4⟩ := k3.put_od q' g1 g2 g5 (lk_not g3 (by simpa using hc.2)) (r1.mono st3.io st3.le)
                refine ⟨a', _, rfl, .inl ⟨_, key, g2, asKey_kV r3 ek, ?_, rfl⟩, f3 x3 σ _ k4 st4⟩
                rw [List.length_zip]
                exact Nat.lt_of_le_of_lt (Nat.min_le_left _ _) hc.1
              · rw [if_neg hc] at f3; exact f3.elim
          | _ => rw [q'] at f3; exact f3.elim
      | _ => rw [q] at f1; exact f1.elim
end
end Ev

/-! E39: name = [.. for k, v in d.items()], d a shared dict, locked meanwhile. -/
namespace Ev
open PySem PySem.Spec L2
/-- u is the dict kvs, open or locked -/
def IsKv (u : HO) (kvs : List (Key × V)) : Prop := u = .dK kvs ∨ ∃ o, u = .frz o (.dK kvs)
section
variable {T : Tx0} {G : Hp} {a : Addr} {kvs : List (Key × V)} {u w : HO}
theorem rd_relock (hG : G a = some u) (hu : IsKv u kvs) (hw : IsKv w kvs) {b : Addr} {o : HO} (ho : ∀ z q, o ≠ .frz z q) (r : Rd G b o) : Rd (L2.upd G a w) b o := by
  by_cases hb : b = a
  · subst hb
    have eo : o = .dK kvs := by
      rcases r with r | ⟨z, r⟩
      · rw [hG] at r
        cases r
        rcases hu with h | ⟨z, h⟩
        · exact h
        · exact absurd h (ho _ _)
      · rw [hG] at r
        cases r
        rcases hu with h | ⟨z', h⟩
        · cases h
        · cases h; rfl
    subst eo
    rcases hw with h | ⟨z, h⟩
    · subst h; exact .inl upd_same
    · subst h; exact .inr ⟨z, upd_same⟩
  · rcases r with r | ⟨z, r⟩
    · exact .inl (by rw [upd_ne hb]; exact r)
    · exact .inr ⟨z, by rw [upd_ne hb]; exact r⟩
theorem ne_relock (hG : G a = some u) (hu : IsKv u kvs) {b : Addr} {o : HO} (h : G b = some o) (h1 : ∀ k, o ≠ .dK k) (h2 : ∀ z q, o ≠ .frz z q) : b ≠ a := fun z => by
  subst z
  rw [hG] at h
  cases h
  rcases hu with e | ⟨z, e⟩
  · exact h1 _ e
  · exact h2 _ _ e
mutual
theorem Rep.relock {io : Io} (hG : G a = some u) (hu : IsKv u kvs) (hw : IsKv w kvs) : ∀ {v : V} {d : D}, Rep T io G v d → Rep T io (L2.upd G a w) v d
  | _, _, .non => .non
  | _, _, .bl b => .bl b
  | _, _, .int i => .int i
  | _, _, .str x => .str x
  | _, _, .lst s r => .lst (s.imp (rd_relock hG hu hw (fun _ _ z => by cases z)) id) (Reps.relock hG hu hw r)
  | _, _, .tup s r => .tup (s.imp (rd_relock hG hu hw (fun _ _ z => by cases z)) id) (Reps.relock hG hu hw r)
  | _, _, .box n hn => .box n hn
  | _, _, .dic s l nd r => .dic (rd_relock hG hu hw (fun _ _ z => by cases z) s) l nd (Reps.relock hG hu hw r)
  | _, _, .kd k a b c => .kd k a (fun z d e => Rep.relock hG hu hw (b z d e)) c
  | _, _, .ins e1 e2 l r => .ins (by rw [upd_ne (ne_relock hG hu e1 (fun _ z => by cases z) (fun _ _ z => by cases z))]; exact e1) (by rw [upd_ne (ne_relock hG hu e2 (fun _ z => by cases z) (fun _ _ z => by cases z))]; exact e2) l (Reps.relock hG hu hw r)
theorem Reps.relock {io : Io} (hG : G a = some u) (hu : IsKv u kvs) (hw : IsKv w kvs) : ∀ {v : List V} {d : List D}, Reps T io G v d → Reps T io (L2.upd G a w) v d
  | _, _, .nil => .nil
  | _, _, .cons x r => .cons (Rep.relock hG hu hw x) (Reps.relock hG hu hw r)
end
end
section
variable {T : Tx} {x : Gh} {s : Sx} {σ : L2.St} {H : Hp} {a : Addr} {kvs : List (Key × V)} {u w : HO}
theorem Ok.relock (k : Ok T x s σ H) (hG : x.G a = some u) (hu : IsKv u kvs) (hw : IsKv w kvs) {io0 : Io} {G0 : Hp} (hlo : io0.Le x.io ∧ Le G0 (L2.upd x.G a w)) : Ok (T.at_ io0 G0 T.clo) ⟨x.io, L2.upd x.G a w, x.U⟩ s σ (L2.upd H a w) := by
  have hH := k.bx.sub _ _ hG
  have ne : ∀ {b : Addr} {o : HO}, H b = some o → (∀ k, o ≠ .dK k) → (∀ z q, o ≠ .frz z q) → b ≠ a := fun h h1 h2 => ne_relock hH hu h h1 h2
  have na : ¬ x.U a := k.bx.off _ _ hG
  have rp : ∀ {v : V} {d : D}, Rep T x.io x.G v d → Rep T x.io (L2.upd x.G a w) v d := fun r => r.relock hG hu hw
  have rps : ∀ {v : List V} {d : List D}, Reps T x.io x.G v d → Reps T x.io (L2.upd x.G a w) v d := fun r => r.relock hG hu hw
  refine ⟨⟨k.bx.n, fun i xs e => ?_, k.bx.inU, k.bx.inj, fun c o e => ?_, fun c o e z => ?_, fun c z => ?_, fun p hp => ⟨(k.bx.tab p hp).1, ?_⟩, hlo⟩, k.len, fun i d e => ?_, fun i xs e => ?_, k.owi, k.th, ⟨fun i ks ds e => ?_, k.od.inj⟩⟩
  · obtain ⟨vs, h1, h2⟩ := k.bx.at_ i xs e
    exact ⟨vs, by rw [upd_ne (ne h1 (fun _ z => by cases z) (fun _ _ z => by cases z))]; exact h1, rps h2⟩
  · have e : L2.upd x.G a w c = some o := e
    by_cases hc : c = a
    · subst hc; rw [upd_same] at e ⊢; exact e
    · rw [upd_ne hc] at e ⊢; exact k.bx.sub c o e
  · have e : L2.upd x.G a w c = some o := e
    by_cases hc : c = a
    · subst hc; exact na z
    · rw [upd_ne hc] at e; exact k.bx.off c o e z
  · obtain ⟨o, e⟩ := k.bx.trk c z
    exact ⟨o, by rw [upd_ne (fun h => na (by rw [← h]; exact z))]; exact e⟩
  · obtain ⟨ps, e1, e2, e3⟩ := (k.bx.tab p hp).2
    refine ⟨ps, by rw [upd_ne (ne e1 (fun _ z => by cases z) (fun _ _ z => by cases z))]; exact e1, e2, fun pos cv hc => ?_⟩
    obtain ⟨c, f1, f2⟩ := e3 pos cv hc
    exact ⟨c, f1, by show L2.upd x.G a w c = _; rw [upd_ne (ne_relock hG hu f2 (fun _ z => by cases z) (fun _ _ z => by cases z))]; exact f2⟩
  · obtain ⟨v, h1, h2⟩ := k.sh i d e
    exact ⟨v, h1, rp h2⟩
  · obtain ⟨b, vs, h1, h2, h3, h4, h5⟩ := k.ow i xs e
    exact ⟨b, vs, h1, by rw [upd_ne (ne h2 (fun _ z => by cases z) (fun _ _ z => by cases z))]; exact h2, rps h3, h4, h5⟩
  · obtain ⟨b, vs, h1, h2, h3, h4, h5, h6⟩ := k.od.at_ i ks ds e
    exact ⟨b, vs, h1, by rw [upd_ne (fun h => na (by rw [← h]; exact h6))]; exact h2, h3, h4, rps h5, h6⟩
end
def kD : Key → D
  | .inl i => .int i
  | .inr z => .str z
def itemsL (ks : List Key) (ds : List D) : List D := (ks.zip ds).map fun p => .tup [kD p.1, p.2]
def mItemsD (j : Nat) : M (List D) := fun s => match s.env[j]? with
  | some (.sh (.dic ks ds)) => .ok (itemsL ks ds) s
  | _ => .bad
section
variable {T : Tx} {W : WX} {X : Cx}
theorem kD_rep {io : Io} {G : Hp} (k : Key) : Rep T io G (kV k) (kD k) := by
  cases k with
  | inl i => exact .int i
  | inr z => exact .str z
theorem src_items {io : Io} {G : Hp} {a : Addr} {o : Obj} {ks : List Key} {vs : List V} {ds : List D} (hG : G a = some (.frz o (.dK (ks.zip vs)))) (hl : ks.length = ds.length) (rs : Reps T io G vs ds) : Src T io G (Iti a o (ks.zip vs)) (itemsL ks ds) := by
  have l1 : (itemsL ks ds).length = ds.length := by simp [itemsL, hl]
  have l2 : (ks.zip vs).length = ds.length := by simp [hl, rs.length]
  refine ⟨fun i H le hi => ⟨le _ _ hG, by rw [l2]; omega⟩, fun i H le hi => ⟨le _ _ hG, by rw [l2]; omega⟩, fun i H v H' G1 d le le1 hd hy => ?_⟩
  obtain ⟨t, k, y, e1, rfl, hn, rfl⟩ := hy
  have hi : i < ds.length := by rw [← l1]; exact (List.getElem?_eq_some_iff.mp hd).1
  have e1 := List.getElem?_zip_eq_some.mp e1
  obtain ⟨z, hz, rz⟩ := rs.get' e1.2
  have ed : d = .tup [kD k, z] := by
    unfold itemsL at hd
    have e2 : (ks.zip ds)[i]? = some (k, z) := List.getElem?_zip_eq_some.mpr ⟨e1.1, hz⟩
    rw [List.getElem?_map, e2] at hd
    exact (Option.some.inj hd).symm
  subst ed
  have gr := Grow.one (o := .tup [kV k, y]) le1 hn
  exact ⟨_, gr, .tup (.inl (.inl upd_same)) (.cons (kD_rep k) (.cons ((rz.up le).up gr.g) .nil))⟩
theorem items_conv {σ : L2.St} {H : Hp} {R : It → Hp → Prop} {j : Nat} {a : Addr} {o : Obj} {kvs : List (Key × V)} (hl : H a = some (.frz o (.dK kvs))) (hj : σ[j]? = some (some (.ref a))) (q : tI T W (mItemsD j) σ H R) : iItems (tVar j) σ H R := by
  obtain ⟨x, s, k, h⟩ := q
  unfold mItemsD at h
  cases e : s.env[j]? with
  | none => rw [e] at h; exact h.elim
  | some sl =>
    cases sl with
    | sh d =>
      cases d with
      | dic ks ds =>
        simp only [e] at h
        obtain ⟨v, h1, r⟩ := k.sh j _ e
        rw [hj] at h1
        cases h1
        cases r with
        | @dic a' _ vs' _ rd hlen nd rs =>
          have ek : x.G a = some (.frz o (.dK kvs)) ∧ kvs = ks.zip vs' := by
            rcases rd with rd | ⟨z, rd⟩
            · have := k.bx.sub _ _ rd
              rw [hl] at this; cases this
            · have := k.bx.sub _ _ rd
              rw [hl] at this; cases this
              exact ⟨rd, rfl⟩
          obtain ⟨eG, ek⟩ := ek
          subst ek
          exact ⟨_, hj, a, o, _, rfl, hl, h x _ H k (.refl _ _) (src_items eG hlen rs)⟩
      | _ => simp only [e] at h
    | _ => simp only [e] at h
theorem PS.any {α : Type} {st : Stmt} {t : α → TS} (h : ∀ i, PS X st (t i)) : PS X st (fun E σ H => ∃ i, t i E σ H) := ⟨fun pins s σ H D I ⟨i, q⟩ => (h i).run pins s σ H D I q⟩
theorem PS.or {st : Stmt} {t t' : TS} (h : PS X st t) (h' : PS X st t') : PS X st (fun E σ H => t E σ H ∨ t' E σ H) := ⟨fun pins s σ H D I q => q.elim (h.run pins s σ H D I) (h'.run pins s σ H D I)⟩
variable {elt : Expr} {elts : List Expr} {kk : Nat} {tpos p1 p2 p3 : Pos} {ifs : List Expr} {scope : Scope} {own : List (Str × Nat)} {t : Tg} {mc : M Bool} {m : M D} {pos : Pos}
theorem ds_setItems {i j : Nat} {y z : Str} {py spos : Pos} (hc : X.calm = true) (hN : X.N.Nodup) (hy : X.N[i]? = some y) (hyl : X.env.scope.names.lookup y = some .local)
    (hj : X.N[j]? = some z) (hvis : Vis X.env.scope z)
    (hsw : swapsWith (.ListComp elt [⟨.Tuple elts kk tpos, .Call (.Attribute (.Name z p1) "items" p2) [] [] p3, ifs, 0⟩] scope pos) (some (.Name y py)) spos.line X.env = pure true) (ok : BlkOk X.N X.env.scope scope own) (hsl : ∀ j ∈ t.slots, j ∈ own.map (·.2))
    (hg : ∀ (io : Io) (G : Hp) (s : Shared) (H : Hp) (C : Addr) (cl : List (Str × Addr)) (fp : List Addr), PG (X.blk s H scope (compEnvC scope cl C X.env) fp) (.Tuple elts kk tpos) (gD (T.at_ io G T.clo) t)) (ht : ∀ (io : Io) (G : Hp) (s : Shared) (H : Hp) (C : Addr) (cl : List (Str × Addr)) (fp : List Addr), PTs (X.blk s H scope (compEnvC scope cl C X.env) fp) ifs (tB (T.at_ io G T.clo) W0 mc))
    (he : ∀ (io : Io) (G : Hp) (s : Shared) (H : Hp) (C : Addr) (cl : List (Str × Addr)) (fp : List Addr), PE (X.blk s H scope (compEnvC scope cl C X.env) fp) elt (tD (T.at_ io G T.clo) W0 m)) (hs : ∀ x, foldedSetIterable (.Call (.Attribute (.Name z p1) "items" p2) [] [] p3) X.env x = pure x := by intro _; rfl)
    (hba : attributeBase (.Name z p1) "items" X.env (eval (.Name z p1) X.env) = eval (.Name z p1) X.env := by rfl) (hli : (p2.endLine == p3.line) = true := by rfl)
    (hd : (z == ("__debug__" : Str)) = false := by decide) (hcd : (z == ("__classdict__" : Str)) = false := by decide) :
    PS X (.Assign [.Name y py] (.ListComp elt [⟨.Tuple elts kk tpos, .Call (.Attribute (.Name z p1) "items" p2) [] [] p3, ifs, 0⟩] scope pos) spos) (tS T W (sOwn i (mComp (mItemsD j) t mc m (own.map (·.2))))) := by
  have base := fun (q : Io × Hp) => ps_setLc (i := i) hc hN hy hyl hsw (pi_items (pe_var (pos := p1) (i := j) hj hvis hd hcd) hba hli) ok (hg q.1 q.2) (ht q.1 q.2) (he q.1 q.2) hs
  refine PS.imp (PS.or (PS.any fun q => ps_lock (base q)) (PS.any base)) fun E σ H ⟨x, s, k, h⟩ => ?_
  have h : Fin T W E x H (sOwn i (mComp (mItemsD j) t mc m (own.map (·.2))) s) := h
  unfold sOwn sBind at h
  cases ev : s.env[j]? with
  | none => unfold mComp M.bind mItemsD at h; simp only [ev] at h; exact h.elim
  | some sl =>
    cases sl with
    | sh d =>
      cases d with
      | dic ks ds =>
        have noexc : ∀ c ns vs sto, mComp (mItemsD j) t mc m (own.map (·.2)) s ≠ .exc c ns vs sto := fun c ns vs sto e => by
          unfold mComp M.bind mItemsD at e
          simp only [ev] at e
          split at e
          · split at e <;> cases e
          · cases e
        obtain ⟨v, h1, r⟩ := k.sh j _ ev
        cases r with
        | @dic a _ vs _ rd hlen nd rs =>
          rcases rd with hG | ⟨o, hG⟩
          · refine .inl ⟨⟨T.io0, fun c => if c = a then none else T.G0 c⟩, a, _, k.bx.sub _ _ hG, trivial, fun od => ?_⟩
            have kl := k.relock (w := .frz od (.dK (ks.zip vs))) hG (.inl rfl) (.inr ⟨od, rfl⟩) (io0 := T.io0) (G0 := fun c => if c = a then none else T.G0 c) ⟨k.bx.lo.1, fun c o e => by
              by_cases hc : c = a
              · simp only [if_pos hc] at e; cases e
              · simp only [if_neg hc] at e
                rw [upd_ne hc]; exact k.bx.lo.2 c o e⟩
            have go : tF (T.at_ T.io0 (fun c => if c = a then none else T.G0 c) T.clo) W (mComp (mItemsD j) t mc m (own.map (·.2))) σ (L2.upd H a (.frz od (.dK (ks.zip vs)))) (fun v H' => H' a = some (.frz od (.dK (ks.zip vs))) ∧ E.nx (σ.set i (some v)) (L2.upd H' a (.dK (ks.zip vs)))) → tAsg (tLc (iItems (tVar j)) (gD (T.at_ T.io0 (fun c => if c = a then none else T.G0 c) T.clo) t) (tB (T.at_ T.io0 (fun c => if c = a then none else T.G0 c) T.clo) W0 mc) (tD (T.at_ T.io0 (fun c => if c = a then none else T.G0 c) T.clo) W0 m) (own.map (·.2))) (gName i)
                ⟨fun σ' H' => H' a = some (.frz od (.dK (ks.zip vs))) ∧ E.nx σ' (L2.upd H' a (.dK (ks.zip vs))), fun v H' => H' a = some (.frz od (.dK (ks.zip vs))) ∧ E.rt v (L2.upd H' a (.dK (ks.zip vs))), fun σ' H' => H' a = some (.frz od (.dK (ks.zip vs))) ∧ E.bk σ' (L2.upd H' a (.dK (ks.zip vs))), fun σ' H' => H' a = some (.frz od (.dK (ks.zip vs))) ∧ E.ct σ' (L2.upd H' a (.dK (ks.zip vs)))⟩ σ (L2.upd H a (.frz od (.dK (ks.zip vs)))) := fun q => by
              have q1 := tLc_of (W := W) (mi := mItemsD j) hsl q
              exact items_conv upd_same h1 q1
            refine go ⟨_, s, kl, ?_⟩
            cases em : mComp (mItemsD j) t mc m (own.map (·.2)) s with
            | exc c ns vs sto => exact absurd em (noexc _ _ _ _)
            | bad => rw [em] at h; exact h
            | ok xs s' =>
              rw [em] at h
              simp only at h ⊢
              intro x' a' H' k' st o
              have hG' : x'.G a = some (.frz od (.dK (ks.zip vs))) := st.le a _ upd_same
              have hH' := k'.bx.sub _ _ hG'
              have na : ¬ x'.U a := k'.bx.off _ _ hG'
              have kb := k'.relock (w := .dK (ks.zip vs)) hG' (.inr ⟨od, rfl⟩) (.inl rfl) (io0 := T.io0) (G0 := T.G0) ⟨k.bx.lo.1.trans st.io, fun c u0 e => by
                by_cases hc : c = a
                · have := k.bx.lo.2 c u0 e
                  rw [hc, hG] at this
                  rw [hc, upd_same]; exact this
                · rw [upd_ne hc]
                  exact st.le c u0 (by show L2.upd x.G a _ c = _; rw [upd_ne hc]; exact k.bx.lo.2 c u0 e)⟩
              have haa : a' ≠ a := fun z => na (by rw [← z]; exact o.u)
              have ob : Own T ⟨x'.io, L2.upd x'.G a (.dK (ks.zip vs)), x'.U⟩ s' σ (L2.upd H' a (.dK (ks.zip vs))) a' xs := by
                obtain ⟨ws, e1, e2⟩ := o.l
                exact ⟨o.u, ⟨ws, by rw [upd_ne haa]; exact e1, e2.relock hG' (.inr ⟨od, rfl⟩) (.inl rfl)⟩, o.b, o.o⟩
              refine ⟨hH', h _ _ _ (Ok.put_own (T := T) kb i ob) ⟨st.io, fun c o e => ?_, fun c o e n => ?_, fun c o e => ?_, fun c z => ?_, fun c e => ?_⟩⟩
              · show L2.upd x'.G a _ c = some o
                by_cases hc : c = a
                · subst hc
                  rw [hG] at e; cases e; exact upd_same
                · rw [upd_ne hc]
                  exact st.le c o (by show L2.upd x.G a _ c = _; rw [upd_ne hc]; exact e)
              · by_cases hc : c = a
                · subst hc
                  rw [k.bx.sub _ _ hG] at e; cases e; exact upd_same
                · rw [upd_ne hc]
                  exact st.fr c o (by rw [upd_ne hc]; exact e) n
              · have e : L2.upd x'.G a _ c = some o := e
                by_cases hc : c = a
                · subst hc
                  rw [upd_same] at e; cases e; exact .inl hG
                · rw [upd_ne hc] at e
                  rcases st.new c o e with z | z | z
                  · have z : L2.upd x.G a _ c = some o := z
                    rw [upd_ne hc] at z; exact .inl z
                  · exact .inr (.inl z)
                  · rw [upd_ne hc] at z; exact .inr (.inr z)
              · rcases st.un c z with z | z
                · exact .inl z
                · by_cases hc : c = a
                  · subst hc; rw [upd_same] at z; cases z
                  · rw [upd_ne hc] at z; exact .inr z
              · by_cases hc : c = a
                · subst hc; rw [upd_same] at e; cases e
                · rw [upd_ne hc] at e
                  have := st.th c e
                  rw [upd_ne hc] at this; exact this
          · refine .inr ⟨⟨T.io0, T.G0⟩, ?_⟩
            have go : tF T W (mComp (mItemsD j) t mc m (own.map (·.2))) σ H (fun v H' => E.nx (σ.set i (some v)) H') → tAsg (tLc (iItems (tVar j)) (gD T t) (tB T W0 mc) (tD T W0 m) (own.map (·.2))) (gName i) E σ H := fun q => by
              have q1 := tLc_of (W := W) (mi := mItemsD j) hsl q
              exact items_conv (k.bx.sub _ _ hG) h1 q1
            refine go ⟨x, s, k, ?_⟩
            cases em : mComp (mItemsD j) t mc m (own.map (·.2)) s with
            | exc c ns vs sto => exact absurd em (noexc _ _ _ _)
            | bad => rw [em] at h; exact h
            | ok xs s' =>
              rw [em] at h
              simp only at h ⊢
              intro x' a' H' k' st o
              exact h x' _ H' (k'.put_own i o) st
      | _ => unfold mComp M.bind mItemsD at h; simp only [ev] at h; exact h.elim
    | _ => unfold mComp M.bind mItemsD at h; simp only [ev] at h; exact h.elim
end
end Ev

/-! E40: a list of lists, all of one's own: made, its lists changed, then shared. -/
namespace Ev
open PySem PySem.Spec L2
section
variable {T : Tx} {x x0 : Gh} {s : Sx} {σ : L2.St} {H H0 : Hp}
/-- the lists stand: neither shared nor one's own to the others; at H0 they were not there -/
structure Ol (T : Tx) (x : Gh) (σ : L2.St) (H0 H : Hp) (i : Nat) (a : Addr) (as : List Addr) (xss : List (List D)) : Prop where
  sl : σ[i]? = some (some (.ref a))
  at_ : H a = some (.lst (as.map V.ref))
  ls : ∀ (k : Nat) (b : Addr), as[k]? = some b → ∃ vs xs, xss[k]? = some xs ∧ H b = some (.lst vs) ∧ Reps T x.io x.G vs xs
  len : as.length = xss.length
  nd : (a :: as).Nodup
  nu : ∀ b ∈ a :: as, ¬ x.U b ∧ x.G b = none
  old : ∀ b ∈ a :: as, H0 b = none
theorem Ol.tr {i : Nat} {a : Addr} {as : List Addr} {xss : List (List D)} (o : Ol T x σ H0 H i a as xss) : ∀ b ∈ a :: as, ∃ u, H b = some u := by
  intro b hb
  rcases List.mem_cons.mp hb with e | hb
  · subst e; exact ⟨_, o.at_⟩
  · obtain ⟨k, hk⟩ := List.getElem?_of_mem hb
    obtain ⟨vs, xs, _, h, _⟩ := o.ls k b hk
    exact ⟨_, h⟩
theorem Ol.step {x' : Gh} {H' : Hp} {i : Nat} {a : Addr} {as : List Addr} {xss : List (List D)} (o : Ol T x σ H0 H i a as xss) (st : Stp x H x' H') : Ol T x' σ H0 H' i a as xss := by
  refine ⟨o.sl, st.fr _ _ o.at_ (o.nu a List.mem_cons_self).1, fun k b hk => ?_, o.len, o.nd, fun b hb => ?_, o.old⟩
  · obtain ⟨vs, xs, e1, e2, e3⟩ := o.ls k b hk
    exact ⟨vs, xs, e1, st.fr _ _ e2 (o.nu b (List.mem_cons_of_mem _ (List.mem_of_getElem? hk))).1, e3.mono st.io st.le⟩
  · obtain ⟨u, hu⟩ := o.tr b hb
    obtain ⟨n1, n2⟩ := o.nu b hb
    refine ⟨fun z => ?_, ?_⟩
    · rcases st.un b z with q | q
      · exact n1 q
      · rw [hu] at q; cases q
    · cases e : x'.G b with
      | none => rfl
      | some v =>
        rcases st.new b v e with q | q | q
        · rw [n2] at q; cases q
        · exact absurd q n1
        · rw [hu] at q; cases q
/-- one of the lists is written -/
theorem Ol.write {i : Nat} {a : Addr} {as : List Addr} {xss : List (List D)} (o : Ol T x σ H0 H i a as xss) (k : Ok T x s σ H) (st : Stp x0 H0 x H) {c : Nat} {b : Addr} (hb : as[c]? = some b) {vs : List V} {xs : List D} (r : Reps T x.io x.G vs xs) :
    Ok T x s σ (L2.upd H b (.lst vs)) ∧ Ol T x σ H0 (L2.upd H b (.lst vs)) i a as (xss.set c xs) ∧ Stp x0 H0 x (L2.upd H b (.lst vs)) := by
  have hm := List.mem_of_getElem? hb
  obtain ⟨n1, n2⟩ := o.nu b (List.mem_cons_of_mem _ hm)
  have hab : a ≠ b := fun z => (List.nodup_cons.mp o.nd).1 (by rw [z]; exact hm)
  have hc : c < as.length := (List.getElem?_eq_some_iff.mp hb).1
  refine ⟨k.aside' n1 n2, ⟨o.sl, by rw [upd_ne hab]; exact o.at_, fun j d hj => ?_, by rw [List.length_set]; exact o.len, o.nd, o.nu, o.old⟩, st.aside (o.old b (List.mem_cons_of_mem _ hm))⟩
  by_cases hjc : c = j
  · subst hjc
    rw [hb] at hj
    cases hj
    exact ⟨vs, xs, List.getElem?_set_self (by rw [← o.len]; exact hc), upd_same, r⟩
  · obtain ⟨us, ys, e1, e2, e3⟩ := o.ls j d hj
    have hd : d ≠ b := fun z => by
      subst z
      have nd := (List.nodup_cons.mp o.nd).2
      obtain ⟨h1, h1'⟩ := List.getElem?_eq_some_iff.mp hb
      obtain ⟨h2, h2'⟩ := List.getElem?_eq_some_iff.mp hj
      rcases Nat.lt_or_gt_of_ne hjc with q | q
      · exact absurd (h1'.trans h2'.symm) (List.pairwise_iff_getElem.mp nd c j h1 h2 q)
      · exact absurd (h2'.trans h1'.symm) (List.pairwise_iff_getElem.mp nd j c h2 h1 q)
    exact ⟨us, ys, by rw [List.getElem?_set_ne hjc]; exact e1, by rw [upd_ne hd]; exact e2, e3⟩
/-- all of them are shared from now on -/
theorem Ol.share {i : Nat} {a : Addr} {as : List Addr} {xss : List (List D)} (o : Ol T x σ H0 H i a as xss) (k : Ok T x s σ H) (st : Stp x0 H0 x H) :
    ∃ x' : Gh, Ok T x' s σ H ∧ Stp x0 H0 x' H ∧ Rep T x'.io x'.G (.ref a) (.lst (xss.map .lst)) := by
  classical
  let G' : Hp := fun c => if c ∈ a :: as then H c else x.G c
  have g1 : ∀ c, c ∈ a :: as → G' c = H c := fun c hc => if_pos hc
  have g2 : ∀ c, c ∉ a :: as → G' c = x.G c := fun c hc => if_neg hc
  have le : Le x.G G' := fun c u e => by
    have hc : c ∉ a :: as := fun hc => by
      rw [(o.nu c hc).2] at e; cases e
    rw [g2 c hc]; exact e
  have sub : Le G' H := fun c u e => by
    by_cases hc : c ∈ a :: as
    · rw [g1 c hc] at e; exact e
    · rw [g2 c hc] at e; exact k.bx.sub c u e
  have rs : ∀ (bs : List Addr) (yss : List (List D)), bs.length = yss.length → (∀ b ∈ bs, b ∈ a :: as) → (∀ (k : Nat) (b : Addr), bs[k]? = some b → ∃ vs xs, yss[k]? = some xs ∧ H b = some (.lst vs) ∧ Reps T x.io x.G vs xs) → Reps T x.io G' (bs.map V.ref) (yss.map .lst) := by
    intro bs
    induction bs with
    | nil => intro yss hl _ _; cases yss with
      | nil => exact .nil
      | cons => simp at hl
    | cons b bs ih =>
      intro yss hl hm hk
      cases yss with
      | nil => simp at hl
      | cons ys yss =>
        obtain ⟨vs, xs, e1, e2, e3⟩ := hk 0 b rfl
        cases e1
        refine .cons (.lst (.inl (.inl ?_)) (e3.up le)) (ih yss (by simpa using hl) (fun d hd => hm d (List.mem_cons_of_mem _ hd)) fun j d hj => hk (j + 1) d (by simpa using hj))
        rw [g1 b (hm b List.mem_cons_self)]; exact e2
  refine ⟨⟨x.io, G', x.U⟩, ⟨⟨k.bx.n, fun j ys q => ?_, k.bx.inU, k.bx.inj, sub, fun c u q z => ?_, k.bx.trk, fun p hp => ⟨(k.bx.tab p hp).1, (k.bx.tab p hp).2.ext le fun _ _ e => e⟩, ⟨k.bx.lo.1, k.bx.lo.2.trans le⟩⟩, k.len, fun i d e => ?_, fun i xs e => ?_, k.owi, k.th, k.od.of (.refl _) le (fun _ _ _ e => ⟨e, rfl⟩) fun _ _ e u => ⟨e, u⟩⟩, ⟨st.io, st.le.trans le, st.fr, fun c u q => ?_, st.un, st.th⟩, .lst (.inl (.inl ?_)) (rs as xss o.len (fun b hb => List.mem_cons_of_mem _ hb) o.ls)⟩
  · obtain ⟨vs, h1, h2⟩ := k.bx.at_ j ys q
    exact ⟨vs, h1, h2.up le⟩
  · have q : G' c = some u := q
    by_cases hc : c ∈ a :: as
    · exact (o.nu c hc).1 z
    · rw [g2 c hc] at q; exact k.bx.off c u q z
  · obtain ⟨v, h1, h2⟩ := k.sh i d e
    exact ⟨v, h1, h2.up le⟩
  · obtain ⟨a, vs, h1, h2, h3, h4, h5⟩ := k.ow i xs e
    exact ⟨a, vs, h1, h2, h3.up le, h4, h5⟩
  · have q : G' c = some u := q
    by_cases hc : c ∈ a :: as
    · exact .inr (.inr (o.old c hc))
    · rw [g2 c hc] at q; exact st.new c u q
  · show G' a = _
    rw [g1 a List.mem_cons_self]; exact o.at_
theorem Ok.put_at (k : Ok T x s σ H) (i : Nat) {v : V} {d : D} (hv : σ[i]? = some (some v)) (r : Rep T x.io x.G v d) : Ok T x (s.put i d) σ H := by
  have := k.put i r
  have e : σ.set i (some v) = σ := by
    obtain ⟨h1, h2⟩ := List.getElem?_eq_some_iff.mp hv
    rw [← h2]
    exact List.set_getElem_self h1
  rw [e] at this
  exact this
theorem Ok.un (k : Ok T x s σ H) (i : Nat) (v : Option V) : Ok T x { s with env := s.env.set i .un } (σ.set i v) H := by
  refine ⟨k.bx, by simpa using k.len, fun j e q => ?_, fun j ys q => ?_, fun j l ys zs c q1 q2 q3 q4 => ?_, fun j q => ?_, k.od.of (.refl _) (.refl _) (fun j ks ds e => ⟨(set_od_un e).2, List.getElem?_set_ne (set_od_un e).1⟩) fun _ _ e u => ⟨e, u⟩⟩
  · obtain ⟨hj, q⟩ := set_other (fun z => by cases z) q
    rw [List.getElem?_set_ne hj]; exact k.sh j e q
  · obtain ⟨hj, q⟩ := set_other (fun z => by cases z) q
    rw [List.getElem?_set_ne hj]; exact k.ow j ys q
  · obtain ⟨hj, q1⟩ := set_other (fun z => by cases z) q1
    obtain ⟨hl, q2⟩ := set_other (fun z => by cases z) q2
    rw [List.getElem?_set_ne hj] at q3
    rw [List.getElem?_set_ne hl] at q4
    exact k.owi j l ys zs c q1 q2 q3 q4
  · obtain ⟨hj, q⟩ := set_other (fun z => by cases z) q
    rw [List.getElem?_set_ne hj]; exact k.th j q
end
section
variable {T : Tx} {W : WX} {X : Cx} {pos : Pos}
/-- statements while the lists of slot i are one's own -/
def tSo (T : Tx) (W : WX) (i : Nat) (m : List (List D) → MS) : TS := fun E σ H => ∃ (x0 : Gh) (H0 : Hp) (x : Gh) (s : Sx) (a : Addr) (as : List Addr) (xss : List (List D)), Ok T x s σ H ∧ Ol T x σ H0 H i a as xss ∧ Stp x0 H0 x H ∧ Fin T W E x0 H0 (m xss s)
theorem tD_b {ma : M D} {f : D → MS} {E : Ends} {σ : L2.St} {H H0 : Hp} {P : VK} {x x0 : Gh} {s : Sx} (k : Ok T x s σ H) (st : Stp x0 H0 x H) (h : Fin T W E x0 H0 (sBind ma f s))
    (next : ∀ d s' x' v H', Ok T x' s' σ H' → Stp x H x' H' → Rep T x'.io x'.G v d → Fin T W E x0 H0 (f d s') → P v H') : tD T W ma σ H P := by
  refine ⟨x, s, k, ?_⟩
  unfold sBind at h
  cases e : ma s with
  | ok d s' => rw [e] at h; exact fun x' v H' k' st' r => next d s' x' v H' k' st' r h
  | exc c ns vs sto => rw [e] at h; exact (h σ).back st
  | bad => rw [e] at h; exact h
/-- shared -/
def soEnd (i : Nat) (n : MS) : List (List D) → MS := fun xss s => n (s.put i (.lst (xss.map .lst)))
theorem dso_end {i : Nat} {rest : List Stmt} {n : MS} (h : PSs X rest (tS T W n)) : PSs X rest (tSo T W i (soEnd i n)) := PSs.imp h fun E σ H ⟨x0, H0, x, s, a, as, xss, k, o, st, h⟩ => by
  obtain ⟨x', k', st', r⟩ := o.share k st
  exact ⟨x', _, k'.put_at i o.sl r, Fin.back h st'⟩
theorem ix_ol {i c : Nat} {σ : L2.St} {H H0 : Hp} {x : Gh} {a b : Addr} {as : List Addr} {xss : List (List D)} {K : PySem.W.Frag} {Q : VK} (o : Ol T x σ H0 H i a as xss) (hb : as[c]? = some b) (q : Q (.ref b) H) : tOp (rIx K) (tVar i) (tC (.int (c : Nat))) σ H Q :=
  ⟨_, o.sl, .inl ⟨a, as.map V.ref, (c : Nat), .ref b, rfl, rfl, SqL.of o.at_, atI_nat (by rw [List.getElem?_map, hb]; rfl), q⟩⟩
/-- name[c][e] = v -/
def soSet (c : Nat) (mk mv : M D) (n : List (List D) → MS) : List (List D) → MS := fun xss => sBind mv fun v => match xss[c]? with
  | some xs => sBind mk fun j s => (match j with
    | .int j => (match ixN xs.length j with
      | some p => n (xss.set c (xs.set p v)) s
      | none => .bad)
    | _ => .bad)
  | none => fun _ => .bad
theorem dso_set {i c : Nat} {z : Str} {rest : List Stmt} {n : List (List D) → MS} {mk mv : M D} {value ie : Expr} {jj : Nat} {p1 p2 p3 tpos : Pos} (hN : X.N[i]? = some z) (hvis : Vis X.env.scope z) (hv : PE X value (tD T W mv)) (hi : PE X ie (tD T W mk)) (hr : PSs X rest (tSo T W i n))
    (hs : swapsWithSole [.Subscript (.Subscript (.Name z p1) (.Constant (.int (c : Nat)) jj p2) p3) ie tpos] value pos.line X.env = pure false := by rfl) (hw : swappedStores [.Subscript (.Subscript (.Name z p1) (.Constant (.int (c : Nat)) jj p2) p3) ie tpos] value X.env = pure none := by rfl)
    (h1 : (assignEach [.Subscript (.Subscript (.Name z p1) (.Constant (.int (c : Nat)) jj p2) p3) ie tpos] X.env).map (·.2) = [assign (.Subscript (.Subscript (.Name z p1) (.Constant (.int (c : Nat)) jj p2) p3) ie tpos) X.env] := by rfl)
    (hass : ∀ v, assign (.Subscript (.Subscript (.Name z p1) (.Constant (.int (c : Nat)) jj p2) p3) ie tpos) X.env v = (do
      let ov ← holding [v] (eval (.Subscript (.Name z p1) (.Constant (.int (c : Nat)) jj p2) p3) X.env)
      let iv ← holding [v, ov] (eval ie X.env)
      standAt tpos
      holding [v, ov, iv] (setItem ov iv v)
      release [v, ov, iv] []) := by intro _; rfl)
    (hd : (z == ("__debug__" : Str)) = false := by decide) (hcd : (z == ("__classdict__" : Str)) = false := by decide) :
    PSs X (.Assign [.Subscript (.Subscript (.Name z p1) (.Constant (.int (c : Nat)) jj p2) p3) ie tpos] value pos :: rest) (tSo T W i (soSet c mk mv n)) :=
  PSs.imp (pss_cons (ps_asg hv (pg_sub (pe_ix ix_seq (pe_var (pos := p1) (i := i) hN hvis hd hcd) pe_int (fun _ _ => rfl)) hi set_list hass) hs hw h1) hr) fun E σ H ⟨x0, H0, x, s, a, as, xss, k, o, st, h⟩ => tD_b k st h fun d s1 x1 v H1 k1 st1 r1 f1 => by
    have o1 := o.step st1
    cases eb : as[c]? with
    | none =>
      have ex : xss[c]? = none := by
        rw [List.getElem?_eq_none_iff] at eb ⊢
        rw [← o.len]; exact eb
      rw [ex] at f1
      exact f1.elim
    | some b =>
      obtain ⟨vs0, xs, ex, _, _⟩ := o1.ls c b eb
      rw [ex] at f1
      refine ix_ol o1 eb (tD_b k1 (st.trans st1) f1 fun j s2 x2 iv H2 k2 st2 r2 f2 => ?_)
      have o2 := o1.step st2
      obtain ⟨vs, xs', ex', hb2, rb⟩ := o2.ls c b eb
      rw [ex] at ex'
      cases ex'
      cases r2 with
      | int j =>
        simp only at f2
        cases ep : ixN xs.length j with
        | none => rw [ep] at f2; exact f2.elim
        | some p =>
          rw [ep] at f2
          obtain ⟨k3, o3, st3⟩ := o2.write k2 ((st.trans st1).trans st2) eb (rb.set (r1.mono st2.io st2.le) p)
          exact ⟨b, vs, j, p, rfl, rfl, hb2, by rw [rb.length]; exact ep, x0, H0, x2, s2, a, as, _, k3, o3, st3, f2⟩
      | _ => exact f2.elim
/-- name[c].append(e) -/
def soApp (c : Nat) (mv : M D) (n : List (List D) → MS) : List (List D) → MS := fun xss => match xss[c]? with
  | some xs => sBind mv fun v s => if xs.length < sizeLine then n (xss.set c (xs ++ [v])) s else .bad
  | none => fun _ => .bad
theorem dso_app {i c : Nat} {z : Str} {rest : List Stmt} {n : List (List D) → MS} {mv : M D} {e : Expr} {jj : Nat} {q1 q2 q3 p2 p3 : Pos} (hK : X.K = T.K) (hN : X.N[i]? = some z) (hvis : Vis X.env.scope z) (he : PE X e (tD T W mv)) (hr : PSs X rest (tSo T W i n))
    (hsw : swapsWith (.Call (.Attribute (.Subscript (.Name z q1) (.Constant (.int (c : Nat)) jj q2) q3) "append" p2) [e] [] p3) none pos.line X.env = pure false := by rfl)
    (hfew : ((backTo p3 (starEach [e] X.env)).all (fun x => !x.1) && (backToKw p3 (keywordEach [] X.env)).all (fun x => x.1.isSome)
      && decide ([e].length + ([] : List Keyword).length + (if ([] : List Keyword).isEmpty then 0 else 1) < 30)) = true := by rfl)
    (hline : (p2.endLine == p3.line) = true := by rfl) (hs : starEach [e] X.env = (false, eval e X.env) :: starEach [] X.env := by rfl) (hplain : (backTo p3 (starEach [] X.env)).any (·.1) = false := by rfl)
    (hbase : attributeBase (.Subscript (.Name z q1) (.Constant (.int (c : Nat)) jj q2) q3) "append" X.env (eval (.Subscript (.Name z q1) (.Constant (.int (c : Nat)) jj q2) q3) X.env) = eval (.Subscript (.Name z q1) (.Constant (.int (c : Nat)) jj q2) q3) X.env := by rfl)
    (hd : (z == ("__debug__" : Str)) = false := by decide) (hcd : (z == ("__classdict__" : Str)) = false := by decide) :
    PSs X (.Expr (.Call (.Attribute (.Subscript (.Name z q1) (.Constant (.int (c : Nat)) jj q2) q3) "append" p2) [e] [] p3) pos :: rest) (tSo T W i (soApp c mv n)) :=
  PSs.imp (pss_cons (ps_expr (pe_bm PySem.F.plainAttrs_list PySem.F.slot_list_append PySem.F.type_list_append mt_append (pe_ix ix_seq (pe_var (pos := q1) (i := i) hN hvis hd hcd) pe_int (fun _ _ => rfl)) (pa_cons he pa_nil hs) hbase hfew hline hs hplain) hsw) hr) fun E σ H ⟨x0, H0, x, s, a, as, xss, k, o, st, h⟩ => by
    have h : Fin T W E x0 H0 (soApp c mv n xss s) := h
    unfold soApp at h
    cases eb : as[c]? with
    | none =>
      have ex : xss[c]? = none := by
        rw [List.getElem?_eq_none_iff] at eb ⊢
        rw [← o.len]; exact eb
      rw [ex] at h
      exact h.elim
    | some b =>
      obtain ⟨vs0, xs, ex, hb0, _⟩ := o.ls c b eb
      rw [ex] at h
      refine ix_ol o eb ⟨.inl ⟨rfl, vs0, by rw [hK]; exact SqL.of hb0⟩, tD_b k st h fun d s2 x2 v H2 k2 st2 r2 f2 => ?_⟩
      have o2 := o.step st2
      obtain ⟨vs, xs', ex', hb2, rb⟩ := o2.ls c b eb
      rw [ex] at ex'
      cases ex'
      by_cases hl : xs.length < sizeLine
      · rw [if_pos hl] at f2
        obtain ⟨k3, o3, st3⟩ := o2.write k2 (st.trans st2) eb (rb.append (.one r2))
        exact ⟨b, vs, v, rfl, rfl, hb2, by rw [rb.length]; exact hl, x0, H0, x2, s2, a, as, _, k3, o3, st3, f2⟩
      · rw [if_neg hl] at f2; exact f2.elim
/-- name[c].pop() -/
def soPop (c : Nat) (n : List (List D) → MS) : List (List D) → MS := fun xss s => match xss[c]? with
  | some xs => if xs.isEmpty = true then .bad else n (xss.set c xs.dropLast) s
  | none => .bad
theorem dso_pop {i c : Nat} {z : Str} {rest : List Stmt} {n : List (List D) → MS} {jj : Nat} {q1 q2 q3 p2 p3 : Pos} (hK : X.K = T.K) (hN : X.N[i]? = some z) (hvis : Vis X.env.scope z) (hr : PSs X rest (tSo T W i n))
    (hsw : swapsWith (.Call (.Attribute (.Subscript (.Name z q1) (.Constant (.int (c : Nat)) jj q2) q3) "pop" p2) [] [] p3) none pos.line X.env = pure false := by rfl)
    (hbase : attributeBase (.Subscript (.Name z q1) (.Constant (.int (c : Nat)) jj q2) q3) "pop" X.env (eval (.Subscript (.Name z q1) (.Constant (.int (c : Nat)) jj q2) q3) X.env) = eval (.Subscript (.Name z q1) (.Constant (.int (c : Nat)) jj q2) q3) X.env := by rfl) (hline : (p2.endLine == p3.line) = true := by rfl)
    (hd : (z == ("__debug__" : Str)) = false := by decide) (hcd : (z == ("__classdict__" : Str)) = false := by decide) :
    PSs X (.Expr (.Call (.Attribute (.Subscript (.Name z q1) (.Constant (.int (c : Nat)) jj q2) q3) "pop" p2) [] [] p3) pos :: rest) (tSo T W i (soPop c n)) :=
  PSs.imp (pss_cons (ps_expr (pe_bm0 PySem.F.plainAttrs_list PySem.F.slot_list_pop PySem.F.type_list_pop mt_pop (pe_ix ix_seq (pe_var (pos := q1) (i := i) hN hvis hd hcd) pe_int (fun _ _ => rfl)) hbase hline) hsw) hr) fun E σ H ⟨x0, H0, x, s, a, as, xss, k, o, st, h⟩ => by
    have h : Fin T W E x0 H0 (soPop c n xss s) := h
    unfold soPop at h
    cases eb : as[c]? with
    | none =>
      have ex : xss[c]? = none := by
        rw [List.getElem?_eq_none_iff] at eb ⊢
        rw [← o.len]; exact eb
      rw [ex] at h
      exact h.elim
    | some b =>
      obtain ⟨vs, xs, ex, hb0, rb⟩ := o.ls c b eb
      rw [ex] at h
      simp only at h
      by_cases hx : xs.isEmpty = true
      · rw [if_pos hx] at h; exact h.elim
      · rw [if_neg hx] at h
        have hp : 0 < vs.length := by
          rw [rb.length]
          cases xs with
          | nil => exact absurd rfl hx
          | cons => simp
        obtain ⟨k3, o3, st3⟩ := o.write k st eb rb.dropLast
        exact ix_ol o eb ⟨.inl ⟨rfl, vs, by rw [hK]; exact SqL.of hb0⟩, b, vs, vs[vs.length - 1], rfl, rfl, hb0, List.getElem?_eq_getElem (by omega), x0, H0, x, s, a, as, _, k3, o3, st3, h⟩
/-- name = [list(other) for _ in range(c)] -/
def soNew (i p c : Nat) (n : List (List D) → MS) : MS := fun s => match s.env[p]? with
  | some (.sh d) => (match itemsOf d with
    | some xs => if i < s.env.length then n (List.replicate c xs) { s with env := s.env.set i .un } else .bad
    | none => .bad)
  | _ => .bad
theorem dso_new {i p t c : Nat} {y z tn : Str} {rest : List Stmt} {n : List (List D) → MS} {scope : Scope} {jc : Nat} {py l1 l2 l3 pt r1 r2 r3 cpos spos : Pos} (hK : X.K = T.K) (hc : X.calm = true) (hN : X.N.Nodup) (hy : X.N[i]? = some y) (hyl : X.env.scope.names.lookup y = some .local) (hp : X.N[p]? = some z) (hpt : p ≠ t) (ht : X.N[t]? = some tn) (hc2 : c ≤ 1000)
    (hsw : swapsWith (.ListComp (.Call (.Name "list" l1) [.Name z l2] [] l3) [⟨.Name tn pt, .Call (.Name "range" r1) [.Constant (.int (c : Nat)) jc r2] [] r3, [], 0⟩] scope cpos) (some (.Name y py)) spos.line X.env = pure true)
    (hgr : Gl X "range") (hmr : X.mg "range" = none) (hml : X.mg "list" = none) (ok : BlkOk X.N X.env.scope scope [(tn, t)])
    (hg : ∀ (s : Shared) (H : Hp) (C : Addr) (cl : List (Str × Addr)) (fp : List Addr), PG (X.blk s H scope (compEnvC scope cl C X.env) fp) (.Name tn pt) (gName t))
    (he : ∀ (s : Shared) (H : Hp) (C : Addr) (cl : List (Str × Addr)) (fp : List Addr), PE (X.blk s H scope (compEnvC scope cl C X.env) fp) (.Call (.Name "list" l1) [.Name z l2] [] l3) (tCB (fun xs H Q => ∃ p ys, xs = [V.ref p] ∧ (SqL X.K H p ys ∨ SqT X.K H p ys) ∧ ∀ l, H l = none → Q (.ref l) (L2.upd H l (.lst ys))) (tCons (tVar p) tNil)))
    (hr : PSs X rest (tSo T W i n)) (hs2 : starEach [.Constant (.int (c : Nat)) jc r2] X.env = (false, eval (.Constant (.int (c : Nat)) jc r2) X.env) :: starEach [] X.env := by rfl) (hs1 : starEach [.Constant (.int (c : Nat)) jc r2] X.env = [(false, eval (.Constant (.int (c : Nat)) jc r2) X.env)] := by rfl)
    (hs : ∀ x, foldedSetIterable (.Call (.Name "range" r1) [.Constant (.int (c : Nat)) jc r2] [] r3) X.env x = pure x := by intro _; rfl) :
    PSs X (.Assign [.Name y py] (.ListComp (.Call (.Name "list" l1) [.Name z l2] [] l3) [⟨.Name tn pt, .Call (.Name "range" r1) [.Constant (.int (c : Nat)) jc r2] [] r3, [], 0⟩] scope cpos) spos :: rest) (tS T W (soNew i p c n)) :=
  PSs.imp (pss_cons (ps_setLc (i := i) hc hN hy hyl hsw (pi_range1 hgr hmr (pa_cons pe_int pa_nil hs2) hs1) ok hg (fun _ _ _ _ _ => pts_nil) he hs) hr) fun E σ H ⟨x, s, k, h⟩ => by
    have hz : sizeLine = 16777216 := by decide
    have h : Fin T W E x H (soNew i p c n s) := h
    unfold soNew at h
    cases e : s.env[p]? with
    | none => rw [e] at h; exact h.elim
    | some sl =>
      cases sl with
      | sh d =>
        simp only [e] at h
        obtain ⟨v0, hv0, rp⟩ := k.sh p d e
        have core : ∀ (a0 : Addr) (vs : List V) (xs : List D), v0 = .ref a0 → (SqL T.K x.G a0 vs ∨ SqT T.K x.G a0 vs) → Reps T x.io x.G vs xs → itemsOf d = some xs →
            tAsg (tLc (iRng1 (tCons (tC (.int (c : Nat))) tNil)) (gName t) tYes (tCB (fun xs H Q => ∃ p ys, xs = [V.ref p] ∧ (SqL X.K H p ys ∨ SqT X.K H p ys) ∧ ∀ l, H l = none → Q (.ref l) (L2.upd H l (.lst ys))) (tCons (tVar p) tNil)) [t]) (gName i) ⟨tSo T W i n E, E.rt, E.bk, E.ct⟩ σ H := by
          rintro a0 vs xs rfl sq rs hi
          rw [hi] at h
          simp only at h
          by_cases hil : i < s.env.length
          · rw [if_pos hil] at h
            refine ⟨(c : Nat), rfl, by omega, by omega, fun D hD => ?_⟩
            rw [Int.toNat_natCast]
            refine ⟨fun q m H1 => q ≤ c ∧ m = c - q ∧ ∃ as : List Addr, as.length = q ∧ H1 D = some (.lst (as.map V.ref)) ∧ (∀ b ∈ as, H1 b = some (.lst vs)) ∧ (D :: as).Nodup ∧ (∀ b ∈ D :: as, H b = none) ∧ Le H H1, ⟨c, Nat.zero_le _, rfl, [], rfl, upd_same, fun b hb => (by cases hb), by simp, fun b hb => by rw [List.mem_singleton.mp hb]; exact hD, .upd hD⟩, ?_⟩
            rintro q m H1 ⟨hq, rfl, as, e1, e2, e3, e4, e5, le⟩
            by_cases hlt : q < c
            · refine .inr ⟨hlt, fun H' => q + 1 ≤ c ∧ c - (q + 1) = c - (q + 1) ∧ ∃ as : List Addr, as.length = q + 1 ∧ H' D = some (.lst (as.map V.ref)) ∧ (∀ b ∈ as, H' b = some (.lst vs)) ∧ (D :: as).Nodup ∧ (∀ b ∈ D :: as, H b = none) ∧ Le H H', fun H' hH => ⟨c - (q + 1), by omega, hH⟩, ?_⟩
              rintro u H' ⟨rfl, rfl⟩
              have hσ : ((wipe σ [t]).set t (some (.int (0 + (q : Int)))))[p]? = some (some (.ref a0)) := by
                rw [List.getElem?_set_ne (fun z => hpt z.symm), wipe_get (by simpa using hpt)]
                exact hv0
              refine ⟨(wipe_eq (by simp) fun j hj => ?_).trans (wipe_eq (wipe_length _ _) fun j hj => wipe_get hj), ?_⟩
              · rw [List.getElem?_set_ne (fun z => hj (by rw [← z]; exact List.mem_singleton.mpr rfl))]
              · refine ⟨_, hσ, a0, vs, rfl, ?_, fun l hl => ⟨as.map V.ref, ?_, ?_, hlt, rfl, as ++ [l], ?_, ?_, fun b hb => ?_, ?_, fun b hb => ?_, fun b o hb => ?_⟩⟩
                · have le2 := k.bx.sub.trans le
                  rw [hK]
                  rcases sq with sq | sq
                  · exact .inl (le2.sqL sq)
                  · exact .inr (le2.sqT sq)
                · rw [upd_ne (fun z => by subst z; rw [e2] at hl; cases hl)]; exact e2
                · rw [List.length_map]; omega
                · rw [List.length_append, e1]; rfl
                · rw [upd_same, List.map_append]; rfl
                · have hD1 : D ∉ as := (List.nodup_cons.mp e4).1
                  have hDl : l ≠ D := fun z => by subst z; rw [e2] at hl; cases hl
                  rcases List.mem_append.mp hb with hb | hb
                  · have hbl : b ≠ l := fun z => by
                      have h9 := e3 b hb
                      rw [z, hl] at h9
                      cases h9
                    rw [upd_ne (fun z => hD1 (by rw [← z]; exact hb)), upd_ne hbl]
                    exact e3 b hb
                  · rw [List.mem_singleton.mp hb, upd_ne hDl, upd_same]
                · have hl1 : l ∉ D :: as := fun z => by
                    rcases List.mem_cons.mp z with z | z
                    · rw [z, e2] at hl; cases hl
                    · rw [e3 l z] at hl; cases hl
                  have : (D :: (as ++ [l])) = (D :: as) ++ [l] := rfl
                  rw [this, List.nodup_append]
                  exact ⟨e4, by simp, fun a ha b hb z => hl1 (by rw [← List.mem_singleton.mp hb, ← z]; exact ha)⟩
                · rcases List.mem_cons.mp hb with hb | hb
                  · rw [hb]; exact hD
                  · rcases List.mem_append.mp hb with hb | hb
                    · exact e5 b (List.mem_cons_of_mem _ hb)
                    · rw [List.mem_singleton.mp hb]; exact le.none hl
                · rw [upd_ne (fun z => by subst z; rw [hD] at hb; cases hb), upd_ne (fun z => by subst z; rw [le.none hl] at hb; cases hb)]
                  exact le b o hb
            · have hqc : q = c := by omega
              subst hqc
              refine .inl ⟨Nat.le_refl _, ?_⟩
              have kg : Ok T x s σ H1 := k.grow ⟨.refl _, le, k.bx.sub.trans le, fun _ _ q => .inl q⟩
              have st : Stp x H x H1 := ⟨.refl _, .refl _, fun b o e _ => le b o e, fun b o e => .inl e, fun b u => .inl u, fun b e => le.none e⟩
              refine ⟨x, H, x, _, D, as, List.replicate q xs, kg.un i (some (.ref D)), ⟨List.getElem?_set_self (by rw [← k.len]; exact hil), e2, fun j b hb => ⟨vs, xs, ?_, e3 b (List.mem_of_getElem? hb), rs⟩, by rw [List.length_replicate]; exact e1, e4, fun b hb => ⟨fun z => ?_, k.bx.sub.none (e5 b hb)⟩, e5⟩, st, h⟩
              · rw [List.getElem?_replicate, if_pos (by rw [← e1]; exact (List.getElem?_eq_some_iff.mp hb).1)]
              · obtain ⟨o, e⟩ := k.bx.trk b z
                rw [e5 b hb] at e; cases e
          · rw [if_neg hil] at h; exact h.elim
        cases rp with
        | @lst a0 vs xs sq rs => exact core a0 vs xs rfl (.inl sq) rs rfl
        | @tup a0 vs xs sq rs => exact core a0 vs xs rfl (.inr sq) rs rfl
        | _ => simp only [itemsOf] at h; exact h.elim
      | _ => rw [e] at h; exact h.elim
end
end Ev

namespace Ev
open PySem PySem.Spec L2
theorem tgs_len2 {t u : Tg} : ∀ (ds : List D) (s s' : Sx), (tgsCons t (tgsCons u tgsNil)).run ds s = some s' → ds.length = 2 := by
  intro ds s s' h
  match ds with
  | [] => simp [tgsCons] at h
  | [a] => simp [tgsCons] at h
  | [a, b] => rfl
  | a :: b :: c :: r => simp [tgsCons, tgsNil] at h
/-! ### the meanings -/
def ck_SHAPES : List Str := ["add", "sub", "mul", "and", "or", "xor", "neg", "flip", "at", "if", "eq", "lt", "less", "both", "either", "no"]
def cv_SHAPES : List D := [.tup [.str "word", .tup [.str "word", .str "word"]], .tup [.str "word", .tup [.str "word", .str "word"]], .tup [.str "word", .tup [.str "word", .str "word"]], .tup [.str "word", .tup [.str "word", .str "word"]], .tup [.str "word", .tup [.str "word", .str "word"]], .tup [.str "word", .tup [.str "word", .str "word"]], .tup [.str "word", .tup [.str "word"]], .tup [.str "word", .tup [.str "word"]], .tup [.str "word", .tup [.str "word"]], .tup [.str "word", .tup [.str "truth", .str "word", .str "word"]], .tup [.str "truth", .tup [.str "word", .str "word"]], .tup [.str "truth", .tup [.str "word", .str "word"]], .tup [.str "truth", .tup [.str "word", .str "word"]], .tup [.str "truth", .tup [.str "truth", .str "truth"]], .tup [.str "truth", .tup [.str "truth", .str "truth"]], .tup [.str "truth", .tup [.str "truth"]]]
def c_SHAPES : D := .kd ck_SHAPES cv_SHAPES
def m__law_dip : MS := sSeq (sIf (mT (m2 gGt (mIx (mVar 0) (mC (.int 2))) (mC (.int 0)))) (sSeq (sSet 2 (mIx (mVar 0) (mC (.int 2)))) (sSeq (sSetB (mVar 0) (mC (.int 2)) (m2 gDiv (mL gInt (mCons (mVar 2) (mNil))) (mVar 1))) (sRet (m2 gMod (mL gInt (mCons (mVar 2) (mNil))) (mVar 1))))) (sNx)) (sSeq (sSet 3 (mIx (mVar 0) (mC (.int 1)))) (sSeq (sSetB (mVar 0) (mC (.int 1)) (m2 gAdd (mVar 3) (mC (.int 1)))) (sSeq (sSet 4 (m2 gAdd (m2 gMulI (mC (.int 82039)) (mVar 3)) (mC (.int 7411)))) (sSeq (sIf (mT (m2 gNe (mIx (mVar 0) (mC (.int 0))) (mSh (mLst (mNil))))) (sSet 4 (mIx (mIx (mVar 0) (mC (.int 0))) (m2 gMod (mL gInt (mCons (mVar 3) (mNil))) (mL gLen (mCons (mIx (mVar 0) (mC (.int 0))) (mNil)))))) (sNx)) (sSeq (sIf (mAnd (mT (m2 gLt (mVar 3) (mL gLen (mCons (mIx (mVar 0) (mC (.int 0))) (mNil))))) (mT (m2 gGe (mL gAbs (mCons (mVar 4) (mNil))) (m2 gPow (mC (.int 10)) (mC (.int 18)))))) (sSeq (sSet 2 (m2 gAdd (m2 gMulI (mC (.int 2)) (m2 gSub (mL gAbs (mCons (mVar 4) (mNil))) (m2 gPow (mC (.int 10)) (mC (.int 18))))) (mL gInt (mCons (m2 gLt (mVar 4) (mC (.int 0))) (mNil))))) (sSeq (sSetB (mVar 0) (mC (.int 2)) (m2 gDiv (mL gInt (mCons (mVar 2) (mNil))) (mVar 1))) (sRet (m2 gMod (mL gInt (mCons (mVar 2) (mNil))) (mVar 1))))) (sNx)) (sSeq (sSet 5 (m2 gMod (mL gInt (mCons (m2 gPow (m2 gAdd (m2 gAdd (m2 gMod (mL gInt (mCons (mVar 4) (mNil))) (mC (.int 2147483647))) (m2 gMulI (mC (.int 82039)) (mVar 3))) (mC (.int 7411))) (mC (.int 5))) (mNil))) (mC (.int 2147483579)))) (sSeq (sSet 5 (m2 gMod (mL gInt (mCons (m2 gPow (m2 gAdd (m2 gAdd (m2 gMulI (mVar 5) (m2 gAdd (m2 gMulI (mC (.int 2)) (mVar 3)) (mC (.int 1523)))) (m2 gMulI (m2 gMulI (mC (.int 82039)) (mVar 3)) (mVar 3))) (mC (.int 7411))) (mC (.int 3))) (mNil))) (mC (.int 2147483497)))) (sRet (m2 gMod (mL gInt (mCons (m2 gDiv (mVar 5) (mC (.int 64))) (mNil))) (mVar 1))))))))))
def f__law_dip : Fn := bodyF 6 m__law_dip

def m__law_bits_b1 : MS := sSeq (sApp 2 (m2 gMod (mL gInt (mCons (mVar 0) (mNil))) (mC (.int 2)))) (sSet 0 (m2 gDiv (mVar 0) (mC (.int 2))))
def m__law_bits : MS := sSeq (sOwn 2 (mLst (mNil))) (sSeq (sFor (mRng gRng1 (mCons (mVar 1) (mNil))) (tgN 3) m__law_bits_b1) (sRet (mVar 2)))
def f__law_bits : Fn := bodyF 4 m__law_bits

def m__law_added_b1 : MS := sSeq (sSet 6 (m2 gAdd (m2 gAdd (mVar 4) (mVar 5)) (mVar 2))) (sSeq (sApp 3 (m2 gMod (mL gInt (mCons (mVar 6) (mNil))) (mC (.int 2)))) (sSet 2 (m2 gDiv (mVar 6) (mC (.int 2)))))
def m__law_added : MS := sSeq (sOwn 3 (mLst (mNil))) (sSeq (sFor (mRng gZip (mCons (mVar 0) (mCons (mVar 1) (mNil)))) (tgT (tgsCons (tgN 4) (tgsCons (tgN 5) tgsNil))) m__law_added_b1) (sRet (mTup (mCons (mVar 3) (mCons (mVar 2) (mNil))))))
def f__law_added : Fn := bodyF 7 m__law_added

def m__law_multiplied_e1 : M D := mC (.int 0)
def m__law_multiplied_e2 : M D := mC (.int 0)
def m__law_multiplied_b3 : MS := sIf (mT (m2 gEq (mIx (mVar 1) (mVar 3)) (mC (.int 1)))) (sSet 2 (mIx (mCall f__law_added (mCons (mVar 2) (mCons (mSl (m2 gAdd (mSh (mComp (mRng gRng1 (mCons (mVar 3) (mNil))) (tgN 5) (M.pure true) m__law_multiplied_e2 [5])) (mVar 0)) none (some (mL gLen (mCons (mVar 0) (mNil))))) (mCons (mC (.int 0)) (mNil))))) (mC (.int 0)))) (sNx)
def m__law_multiplied : MS := sSeq (sOwn 2 (mComp (mItems (mVar 0)) (tgN 4) (M.pure true) m__law_multiplied_e1 [4])) (sSeq (sFor (mRng gRng1 (mCons (mL gLen (mCons (mVar 0) (mNil))) (mNil))) (tgN 3) m__law_multiplied_b3) (sRet (mVar 2)))
def f__law_multiplied : Fn := bodyF 6 m__law_multiplied

def m__law_turned_e1 : M D := m2 gSub (mC (.int 1)) (mVar 1)
def m__law_turned : MS := sRetF (mComp (mItems (mVar 0)) (tgN 1) (M.pure true) m__law_turned_e1 [1])
def f__law_turned : Fn := bodyF 2 m__law_turned

def m__law_due_e1 : M D := mL gInt (mCons (mAndV (m2 gGe (m2 gAdd (mVar 4) (mVar 5)) (mIf (mT (m2 gEq (mVar 0) (mC (.str "and")))) (mC (.int 2)) (mC (.int 1)))) (mNotV (mAndV (m2 gEq (mVar 0) (mC (.str "xor"))) (m2 gEq (m2 gAdd (mVar 4) (mVar 5)) (mC (.int 2)))))) (mNil))
def m__law_due_e2 : M D := mC (.int 0)
def m__law_due_e3 : M D := mC (.int 0)
def m__law_due : MS := sSeq (sPar 2 3 (mCons (mIx (mVar 1) (mC (.int 0))) (mCons (mIx (mVar 1) (m1 gNeg (mC (.int 1)))) (mNil)))) (sSeq (sIf (mT (m2 gEq (mVar 0) (mC (.str "if")))) (sRet (mIf (mT (m2 gIs (mVar 2) (mC (.bl true)))) (mIx (mVar 1) (mC (.int 1))) (mVar 3))) (sNx)) (sSeq (sIf (mT (m2 gIn (mVar 0) (mTup (mCons (mC (.str "and")) (mCons (mC (.str "or")) (mCons (mC (.str "xor")) (mNil))))))) (sRetF (mComp (mRng gZip (mCons (mVar 2) (mCons (mVar 3) (mNil)))) (tgT (tgsCons (tgN 4) (tgsCons (tgN 5) tgsNil))) (M.pure true) m__law_due_e1 [4, 5])) (sNx)) (sSeq (sIf (mT (m2 gEq (mVar 0) (mC (.str "flip")))) (sRet (mCall f__law_turned (mCons (mVar 2) (mNil)))) (sNx)) (sSeq (sIf (mT (m2 gEq (mVar 0) (mC (.str "neg")))) (sRet (mIx (mCall f__law_added (mCons (mCall f__law_turned (mCons (mVar 2) (mNil))) (mCons (mSh (mComp (mItems (mVar 2)) (tgN 4) (M.pure true) m__law_due_e2 [4])) (mCons (mC (.int 1)) (mNil))))) (mC (.int 0)))) (sNx)) (sSeq (sIf (mT (m2 gEq (mVar 0) (mC (.str "add")))) (sRet (mIx (mCall f__law_added (mCons (mVar 2) (mCons (mVar 3) (mCons (mC (.int 0)) (mNil))))) (mC (.int 0)))) (sNx)) (sSeq (sIf (mT (m2 gEq (mVar 0) (mC (.str "sub")))) (sRet (mIx (mCall f__law_added (mCons (mVar 2) (mCons (mCall f__law_turned (mCons (mVar 3) (mNil))) (mCons (mC (.int 1)) (mNil))))) (mC (.int 0)))) (sNx)) (sSeq (sIf (mT (m2 gEq (mVar 0) (mC (.str "mul")))) (sRet (mCall f__law_multiplied (mCons (mVar 2) (mCons (mVar 3) (mNil))))) (sNx)) (sRet (mSl (m2 gAdd (mSh (mComp (mRng gRng1 (mCons (mL gInt (mCons (mSl (mVar 0) (some (mC (.int 4))) none) (mNil))) (mNil))) (tgN 6) (M.pure true) m__law_due_e3 [6])) (mVar 2)) none (some (mL gLen (mCons (mVar 2) (mNil)))))))))))))
def f__law_due : Fn := bodyF 7 m__law_due

def m__law_kinds : MS := sSeq (sIf (mOr (mT (m2 gIn (mVar 0) (mTup (mCons (mC (.str "neg")) (mCons (mC (.str "flip")) (mCons (mC (.str "at")) (mNil))))))) (mT (m2 gEq (mSl (mVar 0) none (some (mC (.int 4)))) (mC (.str "shl "))))) (sRet (mTup (mCons (mC (.str "word")) (mNil)))) (sNx)) (sSeq (sIf (mT (m2 gIn (mVar 0) (mTup (mCons (mC (.str "no")) (mCons (mC (.str "if")) (mNil)))))) (sRet (mIf (mT (m2 gEq (mVar 0) (mC (.str "no")))) (mTup (mCons (mC (.str "truth")) (mNil))) (mTup (mCons (mC (.str "truth")) (mCons (mC (.str "word")) (mCons (mC (.str "word")) (mNil))))))) (sNx)) (sRet (mIf (mT (m2 gIn (mVar 0) (mTup (mCons (mC (.str "both")) (mCons (mC (.str "either")) (mNil)))))) (mTup (mCons (mC (.str "truth")) (mCons (mC (.str "truth")) (mNil)))) (mTup (mCons (mC (.str "word")) (mCons (mC (.str "word")) (mNil)))))))
def f__law_kinds : Fn := bodyF 1 m__law_kinds

def m__law_number_b1 : MS := sSet 1 (m2 gAdd (m2 gMulI (mC (.int 2)) (mVar 1)) (mVar 2))
def m__law_number : MS := sSeq (sSet 1 (mC (.int 0))) (sSeq (sFor (mItems (m1 gRev (mVar 0))) (tgN 2) m__law_number_b1) (sRet (mVar 1)))
def f__law_number : Fn := bodyF 3 m__law_number

def m__law_take : MS := sRet (mIx (mVar 1) (mCall f__law_dip (mCons (mVar 0) (mCons (mL gLen (mCons (mVar 1) (mNil))) (mNil)))))
def f__law_take : Fn := bodyF 2 m__law_take

def m__law_great_b1 : MS := sIf (mT (m2 gLt (mVar 2) (mVar 1))) (sSet 2 (m2 gAdd (m2 gMulI (mVar 2) (mC (.int 268435456))) (mCall f__law_dip (mCons (mVar 0) (mCons (mC (.int 268435456)) (mNil)))))) (sNx)
def m__law_great : MS := sSeq (sSet 2 (mC (.int 0))) (sSeq (sFor (mRng gRng1 (mCons (mC (.int 11)) (mNil))) (tgN 3) m__law_great_b1) (sRet (m2 gMod (mL gInt (mCons (mVar 2) (mNil))) (m2 gAdd (mVar 1) (mC (.int 1))))))
def f__law_great : Fn := bodyF 4 m__law_great

def m__law_word : MS := sRet (mCall f__law_take (mCons (mVar 0) (mCons (mSh (mLst (mCons (mC (.int 0)) (mCons (mC (.int 1)) (mCons (m2 gSub (mVar 1) (mC (.int 1))) (mCons (m2 gDiv (mVar 1) (mC (.int 2))) (mCons (m2 gSub (m2 gDiv (mVar 1) (mC (.int 2))) (mC (.int 1))) (mCons (mCall f__law_great (mCons (mVar 0) (mCons (m2 gSub (mVar 1) (mC (.int 1))) (mNil)))) (mCons (mCall f__law_great (mCons (mVar 0) (mCons (m2 gSub (mVar 1) (mC (.int 1))) (mNil)))) (mNil)))))))))) (mNil))))
def f__law_word : Fn := bodyF 2 m__law_word

def m__law_parts_e1 : M D := mIf (mT (m2 gEq (mVar 3) (mC (.str "truth")))) (mCall f__law_take (mCons (mVar 0) (mCons (mSh (mLst (mCons (mC (.bl true)) (mCons (mC (.bl false)) (mNil))))) (mNil)))) (mCall f__law_word (mCons (mVar 0) (mCons (mVar 2) (mNil))))
def m__law_parts : MS := sRetF (mComp (mItems (mCall f__law_kinds (mCons (mVar 1) (mNil)))) (tgN 3) (M.pure true) m__law_parts_e1 [3])
def f__law_parts : Fn := bodyF 4 m__law_parts

def m__law_below : MS := sRet (m2 gEq (mIx (mCall f__law_added (mCons (mVar 0) (mCons (mCall f__law_turned (mCons (mVar 1) (mNil))) (mCons (mC (.int 1)) (mNil))))) (mC (.int 1))) (mC (.int 0)))
def f__law_below : Fn := bodyF 2 m__law_below

def m__law_truth_e1 : M D := mC (.int 1)
def m__law_truth : MS := sSeq (sIf (mT (m2 gIn (mVar 0) (mTup (mCons (mC (.str "both")) (mCons (mC (.str "either")) (mCons (mC (.str "no")) (mNil))))))) (sRet (mIf (mT (m2 gEq (mVar 0) (mC (.str "both")))) (m2 gNotIn (mC (.bl false)) (mVar 1)) (mIf (mT (m2 gEq (mVar 0) (mC (.str "either")))) (m2 gIn (mC (.bl true)) (mVar 1)) (m2 gIs (mIx (mVar 1) (mC (.int 0))) (mC (.bl false)))))) (sNx)) (sSeq (sAsg (tgL (tgsCons (tgN 2) (tgsCons (tgN 3) tgsNil))) (mVar 1)) (sSeq (sIf (mT (m2 gEq (mVar 0) (mC (.str "eq")))) (sRet (m2 gEq (mSh (mComp (mRng gZip (mCons (mVar 2) (mCons (mVar 3) (mNil)))) (tgT (tgsCons (tgN 4) (tgsCons (tgN 5) tgsNil))) (mT (m2 gNe (mVar 4) (mVar 5))) m__law_truth_e1 [4, 5])) (mSh (mLst (mNil))))) (sNx)) (sSeq (sIf (mT (m2 gEq (mVar 0) (mC (.str "lt")))) (sRet (mCall f__law_below (mCons (mVar 2) (mCons (mVar 3) (mNil))))) (sNx)) (sRet (mCall f__law_below (mCons (m2 gAdd (mSl (mVar 2) none (some (m1 gNeg (mC (.int 1))))) (mSh (mLst (mCons (m2 gSub (mC (.int 1)) (mIx (mVar 2) (m1 gNeg (mC (.int 1))))) (mNil))))) (mCons (m2 gAdd (mSl (mVar 3) none (some (m1 gNeg (mC (.int 1))))) (mSh (mLst (mCons (m2 gSub (mC (.int 1)) (mIx (mVar 3) (m1 gNeg (mC (.int 1))))) (mNil))))) (mNil))))))))
def f__law_truth : Fn := bodyF 6 m__law_truth

def m_bits_up_b1 : MS := sIf (mT (m2 gEq (mVar 0) (mJ [mC (.str "shl "), m1 gFmt (mVar 1)] Str.empty))) (sRet (mVar 1)) (sNx)
def m_bits_up : MS := sSeq (sFor (mRng gRng2 (mCons (mC (.int 1)) (mCons (mC (.int 32)) (mNil)))) (tgN 1) m_bits_up_b1) (sRet (mC (.int 0)))
def f_bits_up : Fn := bodyF 2 m_bits_up

def m_shape_of : MS := sSeq (sIf (mNot (mT (m1 (gIsi ["str"]) (mVar 0)))) (sRet (mC .non)) (sNx)) (sSeq (sIf (mT (m2 gIn (mVar 0) (mC c_SHAPES))) (sRet (m2 gIxK (mC c_SHAPES) (mVar 0))) (sNx)) (sRet (mIf (mT (m2 gGt (mCall f_bits_up (mCons (mVar 0) (mNil))) (mC (.int 0)))) (mTup (mCons (mC (.str "word")) (mCons (mTup (mCons (mC (.str "word")) (mNil))) (mNil)))) (mC .non))))
def f_shape_of : Fn := bodyF 1 m_shape_of

def m_is_integer : MS := sRet (mAndV (m1 (gIsi ["int"]) (mVar 0)) (mNotV (m1 (gIsi ["bool"]) (mVar 0))))
def f_is_integer : Fn := bodyF 1 m_is_integer

def m_is_within : MS := sSeq (sIf (mNot (mT (mCall f_is_integer (mCons (mVar 0) (mNil))))) (sRet (mC (.bl false))) (sNx)) (sSeq (sIf (mAnd (mT (m2 gIsNot (mVar 1) (mC .non))) (mT (m2 gLt (mVar 0) (mVar 1)))) (sRet (mC (.bl false))) (sNx)) (sRet (mOrV (m2 gIs (mVar 2) (mC .non)) (m2 gLe (mVar 0) (mVar 2)))))
def f_is_within : Fn := bodyF 3 m_is_within

def m_joined : MS := sSeq (sIf (mT (m2 gEq (mVar 0) (mC (.str "add")))) (sRet (m2 gMod (m2 gAdd (mVar 2) (mVar 3)) (mVar 1))) (sNx)) (sSeq (sIf (mT (m2 gEq (mVar 0) (mC (.str "sub")))) (sRet (m2 gMod (m2 gSub (mVar 2) (mVar 3)) (mVar 1))) (sNx)) (sSeq (sIf (mT (m2 gEq (mVar 0) (mC (.str "mul")))) (sRet (m2 gMod (m2 gMulI (mVar 2) (mVar 3)) (mVar 1))) (sNx)) (sSeq (sIf (mT (m2 gEq (mVar 0) (mC (.str "and")))) (sRet (m2 gAnd (mVar 2) (mVar 3))) (sNx)) (sSeq (sIf (mT (m2 gEq (mVar 0) (mC (.str "or")))) (sRet (m2 gOr (mVar 2) (mVar 3))) (sNx)) (sRet (m2 gXor (mVar 2) (mVar 3)))))))
def f_joined : Fn := bodyF 4 m_joined

def m_told_true : MS := sSeq (sIf (mT (m2 gEq (mVar 0) (mC (.str "both")))) (sRet (mAndV (mVar 2) (mVar 3))) (sNx)) (sSeq (sIf (mT (m2 gEq (mVar 0) (mC (.str "either")))) (sRet (mOrV (mVar 2) (mVar 3))) (sNx)) (sSeq (sIf (mT (m2 gEq (mVar 0) (mC (.str "eq")))) (sRet (m2 gEq (mVar 2) (mVar 3))) (sNx)) (sSeq (sIf (mT (m2 gEq (mVar 0) (mC (.str "lt")))) (sRet (m2 gLt (mVar 2) (mVar 3))) (sNx)) (sSeq (sSet 4 (m2 gDiv (mVar 1) (mC (.int 2)))) (sRet (m2 gLt (m2 gMod (m2 gAdd (mVar 2) (mVar 4)) (mVar 1)) (m2 gMod (m2 gAdd (mVar 3) (mVar 4)) (mVar 1))))))))
def f_told_true : Fn := bodyF 5 m_told_true

def m_made : MS := sSeq (sSet 3 (mIx (mVar 2) (mC (.int 0)))) (sSeq (sIf (mT (m2 gEq (mVar 0) (mC (.str "if")))) (sRet (mIf (mT (mVar 3)) (mIx (mVar 2) (mC (.int 1))) (mIx (mVar 2) (mC (.int 2))))) (sNx)) (sSeq (sIf (mT (m2 gEq (mVar 0) (mC (.str "neg")))) (sRet (m2 gMod (m2 gSub (mC (.int 0)) (mVar 3)) (mVar 1))) (sNx)) (sSeq (sIf (mT (m2 gEq (mVar 0) (mC (.str "flip")))) (sRet (m2 gSub (m2 gSub (mVar 1) (mC (.int 1))) (mVar 3))) (sNx)) (sSeq (sIf (mT (m2 gEq (mVar 0) (mC (.str "no")))) (sRet (mNotV (mVar 3))) (sNx)) (sSeq (sIf (mT (mS1 fStarts (mVar 0) (mC (.str "shl ")))) (sRet (m2 gMod (m2 gShl (mVar 3) (mCall f_bits_up (mCons (mVar 0) (mNil)))) (mVar 1))) (sNx)) (sSeq (sIf (mT (m2 gEq (mIx (mCall f_shape_of (mCons (mVar 0) (mNil))) (mC (.int 0))) (mC (.str "truth")))) (sRet (mCall f_told_true (mCons (mVar 0) (mCons (mVar 1) (mCons (mVar 3) (mCons (mIx (mVar 2) (mC (.int 1))) (mNil))))))) (sNx)) (sRet (mCall f_joined (mCons (mVar 0) (mCons (mVar 1) (mCons (mVar 3) (mCons (mIx (mVar 2) (mC (.int 1))) (mNil)))))))))))))
def f_made : Fn := bodyF 4 m_made

def m_need_number : MS := sIf (mNot (mT (mCall f_is_within (mCons (mVar 0) (mCons (mVar 2) (mCons (mVar 3) (mNil))))))) (sRaise "BadNumber" "part" (mVar 1)) (sNx)
def f_need_number : Fn := bodyF 4 m_need_number

def m_need_width : MS := sDrop (mCall f_need_number (mCons (mVar 0) (mCons (mC (.str "width")) (mCons (mC (.int 1)) (mCons (mC (.int 300)) (mNil))))))
def f_need_width : Fn := bodyF 1 m_need_width

def m_worked_b1 : MS := sSeq (sIf (mAnd (mT (m2 gEq (mVar 5) (mC (.str "truth")))) (mNot (mT (m1 (gIsi ["bool"]) (mVar 6))))) (sRaise "BadNumber" "part" (mC (.str "values"))) (sNx)) (sIf (mAnd (mT (m2 gEq (mVar 5) (mC (.str "word")))) (mNot (mT (mCall f_is_within (mCons (mVar 6) (mCons (mC (.int 0)) (mCons (m2 gSub (mVar 4) (mC (.int 1))) (mNil)))))))) (sRaise "BadNumber" "part" (mC (.str "values"))) (sNx))
def m_worked : MS := sSeq (sSet 3 (mCall f_shape_of (mCons (mVar 0) (mNil)))) (sSeq (sIf (mOr (mT (m2 gIs (mVar 3) (mC .non))) (mT (m2 gEq (mVar 0) (mC (.str "at"))))) (sRaise "BadTerm" "part" (mC (.str "label"))) (sNx)) (sSeq (sDrop (mCall f_need_width (mCons (mVar 1) (mNil)))) (sSeq (sIf (mOr (mNot (mT (m1 (gIsi ["list", "tuple"]) (mVar 2)))) (mT (m2 gNe (mL gLen (mCons (mVar 2) (mNil))) (mL gLen (mCons (mIx (mVar 3) (mC (.int 1))) (mNil)))))) (sRaise "BadNumber" "part" (mC (.str "values"))) (sNx)) (sSeq (sSet 4 (m2 gShl (mC (.int 1)) (mVar 1))) (sSeq (sFor (mRng gZip (mCons (mIx (mVar 3) (mC (.int 1))) (mCons (mVar 2) (mNil)))) (tgT (tgsCons (tgN 5) (tgsCons (tgN 6) tgsNil))) m_worked_b1) (sRet (mCall f_made (mCons (mVar 0) (mCons (mVar 4) (mCons (mVar 2) (mNil)))))))))))
def f_worked : Fn := bodyF 7 m_worked

def m__law_label_right_e1 : M D := mIf (mT (m1 (gIsi ["bool"]) (mVar 9))) (mVar 9) (mCall f__law_bits (mCons (mVar 9) (mCons (mVar 3) (mNil))))
def m__law_label_right : MS := sSeq (sSet 2 (m2 gIn (mVar 1) (mTup (mCons (mC (.str "eq")) (mCons (mC (.str "lt")) (mCons (mC (.str "less")) (mCons (mC (.str "both")) (mCons (mC (.str "either")) (mCons (mC (.str "no")) (mNil)))))))))) (sSeq (sIf (mT (m2 gNe (mL gRepr (mCons (mCall f_shape_of (mPick [0] [] (mNil) (mCons (mVar 1) (mNil)))) (mNil))) (mL gRepr (mCons (mTup (mCons (mIf (mT (mVar 2)) (mC (.str "truth")) (mC (.str "word"))) (mCons (mCall f__law_kinds (mCons (mVar 1) (mNil))) (mNil)))) (mNil))))) (sRet (mC (.bl false))) (sNx)) (sSeq (sIf (mT (m2 gEq (mVar 1) (mC (.str "at")))) (sRet (mC (.bl true))) (sNx)) (sSeq (sSet 3 (mCall f__law_take (mCons (mVar 0) (mCons (mIf (mT (m2 gEq (mVar 1) (mC (.str "mul")))) (mSh (mLst (mCons (mC (.int 1)) (mCons (mC (.int 2)) (mCons (mC (.int 3)) (mCons (mC (.int 5)) (mCons (mC (.int 8)) (mCons (mC (.int 32)) (mCons (mC (.int 40)) (mNil)))))))))) (mSh (mLst (mCons (mC (.int 1)) (mCons (mC (.int 2)) (mCons (mC (.int 3)) (mCons (mC (.int 8)) (mCons (mC (.int 31)) (mCons (mC (.int 64)) (mCons (m2 gAdd (mC (.int 1)) (mCall f__law_dip (mCons (mVar 0) (mCons (mC (.int 300)) (mNil))))) (mCons (mC (.int 300)) (mNil)))))))))))) (mNil))))) (sSeq (sSet 4 (m2 gShl (mC (.int 1)) (mVar 3))) (sSeq (sOwn 5 (mCallF f__law_parts (mCons (mVar 0) (mCons (mVar 1) (mCons (mVar 4) (mNil)))))) (sSeq (sIf (mT (m2 gEq (mCall f__law_dip (mCons (mVar 0) (mCons (mC (.int 3)) (mNil)))) (mC (.int 0)))) (sSetO 5 (m1 gNeg (mC (.int 1))) (mIf (mT (m2 gEq (mB1 gLen 5) (mC (.int 2)))) (mIxB 5 (m1 gNeg (mC (.int 2)))) (mIxB 5 (m1 gNeg (mC (.int 1)))))) (sNx)) (sSeq (sSet 6 (mL gList (mCons (mVar 5) (mNil)))) (sSeq (sSet 7 (mCall f_worked (mPick [0, 1, 2] [] (mNil) (mCons (mVar 1) (mCons (mVar 3) (mCons (mCall f__law_take (mCons (mVar 0) (mCons (mSh (mLst (mCons (mVar 5) (mCons (mL gTuple (mCons (mVar 5) (mNil))) (mNil))))) (mNil)))) (mNil))))))) (sSeq (sOwn 8 (mComp (mItems (mVar 6)) (tgN 9) (M.pure true) m__law_label_right_e1 [9])) (sSeq (sIf (mOr (mT (mB2 gNe 5 (mVar 6))) (mT (m2 gNe (mL gRepr (mCons (mVar 5) (mNil))) (mL gRepr (mCons (mVar 6) (mNil)))))) (sRet (mC (.bl false))) (sNx)) (sSeq (sIf (mT (mVar 2)) (sRet (mAndV (m1 (gIsi ["bool"]) (mVar 7)) (m2 gEq (mVar 7) (mCall f__law_truth (mCons (mVar 1) (mCons (mVar 8) (mNil))))))) (sNx)) (sRet (mAndV (m1 (gIsi ["int"]) (mVar 7)) (mAndV (mNotV (m1 (gIsi ["bool"]) (mVar 7))) (m2 gEq (mVar 7) (mCall f__law_number (mCons (mCall f__law_due (mCons (mVar 1) (mCons (mVar 8) (mNil)))) (mNil))))))))))))))))))
def f__law_label_right : Fn := bodyF 10 m__law_label_right

def m__law_heard (th : Fn) : MS := sSeq (sSet 1 (mC .non)) (sSeq (sTry [("BadNumber", true), ("BadTerm", true)] 2 1 (mAsk 0 th (mNil))) (sSeq (sIf (mT (m1 (gIsx [("BadNumber", true), ("BadTerm", false)]) (mVar 1))) (sRet (mTup (mCons (mC (.str "BadNumber")) (mCons (m1 (gFld ["BadNumber", "BadTerm"] "part") (mVar 1)) (mNil))))) (sNx)) (sSeq (sIf (mT (m1 (gIsx [("BadNumber", false), ("BadTerm", true)]) (mVar 1))) (sRet (mTup (mCons (mC (.str "BadTerm")) (mCons (m1 (gFld ["BadNumber", "BadTerm"] "part") (mVar 1)) (mNil))))) (sNx)) (sRet (mIf (mT (m2 gIs (mVar 1) (mC .non))) (mC .non) (mTup (mCons (mC (.str "other")) (mCons (mC .non) (mNil)))))))))
def f__law_heard (th : Fn) : Fn := bodyL 3 (m__law_heard th)

def m__law_refused_right_l1 : M D := mCall f_worked (mCons (mVar 1) (mCons (mVar 5) (mCons (mVar 10) (mNil))))
def m__law_refused_right_l2 : M D := mCall f_worked (mCons (mVar 3) (mCons (mVar 5) (mCons (mVar 10) (mNil))))
def m__law_refused_right_l3 : M D := mCall f_worked (mCons (mVar 1) (mCons (mVar 4) (mCons (mVar 10) (mNil))))
def m__law_refused_right_l4 : M D := mCall f_worked (mCons (mVar 1) (mCons (mVar 4) (mCons (mVar 7) (mNil))))
def m__law_refused_right : MS := sSeq (sSet 2 (mSh (mLst (mCons (mC (.str "number")) (mCons (mC (.str "name")) (mCons (mC (.str "flag")) (mCons (mC (.str "true")) (mCons (mC (.str "false")) (mCons (mC (.str "call f 0")) (mCons (mC (.str "loop f 0")) (mCons (mC (.str "shl")) (mCons (mC (.str "shl 0")) (mCons (mC (.str "shl 32")) (mCons (mC (.str "shl 01")) (mCons (mC (.str "shl  1")) (mCons (mC (.str "shl 1 ")) (mCons (mC (.str "shl -1")) (mCons (mC (.str "shl x")) (mCons (mC (.str " add")) (mNil)))))))))))))))))))) (sSeq (sSet 2 (m2 gAdd (mVar 2) (mSh (mLst (mCons (mC (.str "Add")) (mCons (mC (.str "")) (mCons (mC (.str "not")) (mCons (mC (.str "mod")) (mCons (mC (.str "if ")) (mCons (mC .non) (mCons (mC (.bl true)) (mCons (mC (.int 0)) (mCons (mC (.int 7)) (mCons (mTup (mCons (mC (.str "add")) (mNil))) (mCons (mSh (mLst (mCons (mC (.str "add")) (mNil)))) (mCons (mDic0) (mNil))))))))))))))))) (sSeq (sAsg (tgT (tgsCons (tgN 3) (tgsCons (tgN 4) tgsNil))) (mTup (mCons (mCall f__law_take (mCons (mVar 0) (mCons (mVar 2) (mNil)))) (mCons (mCall f__law_take (mCons (mVar 0) (mCons (mSh (mLst (mCons (mC (.int 1)) (mCons (mC (.int 4)) (mCons (mC (.int 64)) (mNil)))))) (mNil)))) (mNil))))) (sSeq (sSet 5 (mCall f__law_take (mCons (mVar 0) (mCons (mSh (mLst (mCons (mC (.int 0)) (mCons (mC (.int 301)) (mCons (m1 gNeg (mC (.int 1))) (mCons (mC .non) (mCons (mC (.bl true)) (mCons (mC (.str "8")) (mNil))))))))) (mNil))))) (sSeq (sSet 6 (m2 gShl (mC (.int 1)) (mVar 4))) (sSeq (sSet 7 (mCall f__law_parts (mCons (mVar 0) (mCons (mVar 1) (mCons (mVar 6) (mNil)))))) (sSeq (sSet 8 (mCall f__law_dip (mCons (mVar 0) (mCons (mL gLen (mCons (mVar 7) (mNil))) (mNil))))) ((soNew 9 7 4 (soSet 0 (mVar 8) (mIf (mT (m2 gEq (mIx (mCall f__law_kinds (mCons (mVar 1) (mNil))) (mVar 8)) (mC (.str "word")))) (mCall f__law_take (mCons (mVar 0) (mCons (mSh (mLst (mCons (mVar 6) (mCons (m1 gNeg (mC (.int 1))) (mCons (mC .non) (mCons (mC (.bl true)) (mCons (mC (.str "1")) (mCons (mSh (mLst (mCons (mC (.int 0)) (mNil)))) (mNil))))))))) (mNil)))) (mCall f__law_take (mCons (mVar 0) (mCons (mSh (mLst (mCons (mC (.int 0)) (mCons (mC (.int 1)) (mCons (mC .non) (mCons (mC (.str "True")) (mNil))))))) (mNil))))) (soApp 1 (mCall f__law_take (mCons (mVar 0) (mCons (mSh (mLst (mCons (mC (.int 0)) (mCons (mC (.bl true)) (mCons (mC .non) (mNil)))))) (mNil)))) (soPop 2 (soEnd 9 (sSeq (sSet 10 (mCall f__law_take (mCons (mVar 0) (mCons (mSh (mLst (mCons (mIx (mVar 9) (mC (.int 0))) (mCons (mIx (mVar 9) (mC (.int 0))) (mCons (mL gTuple (mCons (mIx (mVar 9) (mC (.int 1))) (mNil))) (mCons (mIx (mVar 9) (mC (.int 2))) (mCons (mC .non) (mCons (mC (.int 5)) (mCons (mC (.str "00")) (mCons (mDispK [.inl 0] (mCons (mC (.int 1)) (mNil))) (mNil))))))))))) (mNil))))) (sSeq (sIf (mT (m2 gIsNot (mCall f_shape_of (mCons (mVar 3) (mNil))) (mC .non))) (sRet (mC (.bl false))) (sNx)) (sSeq (sOwn 11 (mLst (mCons (mLam f__law_heard (lamF m__law_refused_right_l2 [] 0) mNil) (mCons (mLam f__law_heard (lamF m__law_refused_right_l1 [.int 0] 0) mNil) (mNil))))) (sSeq (sApp 11 (mLam f__law_heard (lamF m__law_refused_right_l3 [] 0) mNil)) (sSeq (sSet 12 (mSh (mLst (mCons (mTup (mCons (mC (.str "BadTerm")) (mCons (mC (.str "label")) (mNil)))) (mCons (mTup (mCons (mC (.str "BadNumber")) (mCons (mC (.str "width")) (mNil)))) (mCons (mTup (mCons (mC (.str "BadNumber")) (mCons (mC (.str "values")) (mNil)))) (mNil))))))) (sSeq (sIf (mT (m2 gEq (mVar 1) (mC (.str "at")))) (sSet 12 (mSh (mLst (mCons (mTup (mCons (mC (.str "BadTerm")) (mCons (mC (.str "label")) (mNil)))) (mCons (mTup (mCons (mC (.str "BadTerm")) (mCons (mC (.str "label")) (mNil)))) (mCons (mTup (mCons (mC (.str "BadTerm")) (mCons (mC (.str "label")) (mNil)))) (mNil))))))) (sNx)) (sRet (mAndV (m2 gEq (mVar 11) (mVar 12)) (mOrV (m2 gEq (mVar 1) (mC (.str "at"))) (m2 gIs (mLam f__law_heard (lamF m__law_refused_right_l4 [] 0) mNil) (mC .non)))))))))))))))))))))))
def f__law_refused_right : Fn := bodyF 14 m__law_refused_right

def m__law_tray_e1 : M D := mL gInt (mCons (mVar 1) (mNil))
def m__law_tray : MS := sRetF (mLst (mCons (mSh (mComp (mItems (mSl (mVar 0) none (some (mC (.int 60))))) (tgN 1) (M.pure true) m__law_tray_e1 [1])) (mCons (mC (.int 0)) (mCons (mC (.int 0)) (mNil)))))
def f__law_tray : Fn := bodyF 2 m__law_tray

def m_law_b1 : MS := sIf (mNot (mT (mCall f__law_label_right (mCons (mVar 1) (mCons (mVar 4) (mNil)))))) (sRet (mC (.bl false))) (sNx)
def m_law_b2 : MS := sIf (mNot (mT (mCall f__law_refused_right (mCons (mVar 1) (mCons (mCall f__law_take (mCons (mVar 1) (mCons (m2 gAdd (mVar 2) (mVar 3)) (mNil)))) (mNil)))))) (sRet (mC (.bl false))) (sNx)
def m_law : MS := sSeq (sBox 1 (mCallF f__law_tray (mCons (mVar 0) (mNil)))) (sSeq (sSet 2 (mSh (mLst (mCons (mC (.str "add")) (mCons (mC (.str "sub")) (mCons (mC (.str "mul")) (mCons (mC (.str "and")) (mCons (mC (.str "or")) (mCons (mC (.str "xor")) (mCons (mC (.str "neg")) (mCons (mC (.str "flip")) (mCons (mC (.str "at")) (mCons (mC (.str "if")) (mCons (mC (.str "eq")) (mCons (mC (.str "lt")) (mCons (mC (.str "less")) (mCons (mC (.str "both")) (mCons (mC (.str "either")) (mCons (mC (.str "no")) (mNil)))))))))))))))))))) (sSeq (sSet 3 (mSh (mLst (mCons (mJ [mC (.str "shl "), m1 gFmt (m2 gAdd (mC (.int 1)) (mCall f__law_dip (mCons (mVar 1) (mCons (mC (.int 31)) (mNil)))))] Str.empty) (mCons (mJ [mC (.str "shl "), m1 gFmt (mCall f__law_take (mCons (mVar 1) (mCons (mSh (mLst (mCons (mC (.int 1)) (mCons (mC (.int 2)) (mCons (mC (.int 3)) (mCons (mC (.int 30)) (mCons (mC (.int 31)) (mNil)))))))) (mNil))))] Str.empty) (mCons (mJ [mC (.str "shl "), m1 gFmt (m2 gAdd (mC (.int 1)) (mCall f__law_dip (mCons (mVar 1) (mCons (mC (.int 4)) (mNil)))))] Str.empty) (mNil))))))) (sSeq (sFor (mItems (m2 gAdd (m2 gAdd (mVar 2) (mVar 3)) (mSh (mLst (mCons (mC (.str "less")) (mCons (mC (.str "sub")) (mCons (mC (.str "mul")) (mCons (mC (.str "lt")) (mNil))))))))) (tgN 4) m_law_b1) (sSeq (sFor (mRng gRng1 (mCons (mC (.int 5)) (mNil))) (tgN 5) m_law_b2) (sRet (mC (.bl true)))))))
def f_law : Fn := bodyF 6 m_law


/-! ### the text -/
def top (i : Nat) : Stmt := PySem.Challenge.pw_leastequal_k01_labels_by_bits_and_carrie.main.body.getD i (.Pass ⟨0, 0, 0, 0⟩)
def dd__law_dip : He.DefD := ⟨("_law_dip", none), "_law_dip", "_law_dip", defArgs (top 19), defBody (top 19), defScope (top 19), [], []⟩
def dd__law_bits : He.DefD := ⟨("_law_bits", none), "_law_bits", "_law_bits", defArgs (top 23), defBody (top 23), defScope (top 23), [], []⟩
def dd__law_added : He.DefD := ⟨("_law_added", none), "_law_added", "_law_added", defArgs (top 25), defBody (top 25), defScope (top 25), [], []⟩
def dd__law_multiplied : He.DefD := ⟨("_law_multiplied", none), "_law_multiplied", "_law_multiplied", defArgs (top 28), defBody (top 28), defScope (top 28), [], []⟩
def dd__law_turned : He.DefD := ⟨("_law_turned", none), "_law_turned", "_law_turned", defArgs (top 26), defBody (top 26), defScope (top 26), [], []⟩
def dd__law_due : He.DefD := ⟨("_law_due", none), "_law_due", "_law_due", defArgs (top 30), defBody (top 30), defScope (top 30), [], []⟩
def dd__law_kinds : He.DefD := ⟨("_law_kinds", none), "_law_kinds", "_law_kinds", defArgs (top 31), defBody (top 31), defScope (top 31), [], []⟩
def dd__law_number : He.DefD := ⟨("_law_number", none), "_law_number", "_law_number", defArgs (top 24), defBody (top 24), defScope (top 24), [], []⟩
def dd__law_take : He.DefD := ⟨("_law_take", none), "_law_take", "_law_take", defArgs (top 20), defBody (top 20), defScope (top 20), [], []⟩
def dd__law_great : He.DefD := ⟨("_law_great", none), "_law_great", "_law_great", defArgs (top 21), defBody (top 21), defScope (top 21), [], []⟩
def dd__law_word : He.DefD := ⟨("_law_word", none), "_law_word", "_law_word", defArgs (top 22), defBody (top 22), defScope (top 22), [], []⟩
def dd__law_parts : He.DefD := ⟨("_law_parts", none), "_law_parts", "_law_parts", defArgs (top 33), defBody (top 33), defScope (top 33), [], []⟩
def dd__law_below : He.DefD := ⟨("_law_below", none), "_law_below", "_law_below", defArgs (top 27), defBody (top 27), defScope (top 27), [], []⟩
def dd__law_truth : He.DefD := ⟨("_law_truth", none), "_law_truth", "_law_truth", defArgs (top 29), defBody (top 29), defScope (top 29), [], []⟩
def dd_bits_up : He.DefD := ⟨("bits_up", none), "bits_up", "bits_up", defArgs (top 11), defBody (top 11), defScope (top 11), [], []⟩
def dd_shape_of : He.DefD := ⟨("shape_of", none), "shape_of", "shape_of", defArgs (top 12), defBody (top 12), defScope (top 12), [], []⟩
def dd_is_integer : He.DefD := ⟨("is_integer", none), "is_integer", "is_integer", defArgs (top 5), defBody (top 5), defScope (top 5), [], []⟩
def dd_is_within : He.DefD := ⟨("is_within", none), "is_within", "is_within", defArgs (top 6), defBody (top 6), defScope (top 6), [], []⟩
def dd_joined : He.DefD := ⟨("joined", none), "joined", "joined", defArgs (top 15), defBody (top 15), defScope (top 15), [], []⟩
def dd_told_true : He.DefD := ⟨("told_true", none), "told_true", "told_true", defArgs (top 16), defBody (top 16), defScope (top 16), [], []⟩
def dd_made : He.DefD := ⟨("made", none), "made", "made", defArgs (top 14), defBody (top 14), defScope (top 14), [], []⟩
def dd_need_number : He.DefD := ⟨("need_number", none), "need_number", "need_number", defArgs (top 7), defBody (top 7), defScope (top 7), [], []⟩
def dd_need_width : He.DefD := ⟨("need_width", none), "need_width", "need_width", defArgs (top 8), defBody (top 8), defScope (top 8), [], []⟩
def dd_worked : He.DefD := ⟨("worked", none), "worked", "worked", defArgs (top 13), defBody (top 13), defScope (top 13), [], []⟩
def dd__law_label_right : He.DefD := ⟨("_law_label_right", none), "_law_label_right", "_law_label_right", defArgs (top 34), defBody (top 34), defScope (top 34), [], []⟩
def dd__law_heard : He.DefD := ⟨("_law_heard", none), "_law_heard", "_law_heard", defArgs (top 32), defBody (top 32), defScope (top 32), [], []⟩
def dd__law_refused_right : He.DefD := ⟨("_law_refused_right", none), "_law_refused_right", "_law_refused_right", defArgs (top 35), defBody (top 35), defScope (top 35), [], []⟩
def dd__law_tray : He.DefD := ⟨("_law_tray", none), "_law_tray", "_law_tray", defArgs (top 18), defBody (top 18), defScope (top 18), [], []⟩
def dd_law : He.DefD := ⟨("law", none), "law", "law", defArgs (top 36), defBody (top 36), defScope (top 36), [], []⟩
def di_BadNumber : He.DefD := ⟨("BadNumber", some "__init__"), "__init__", "BadNumber.__init__", defArgs (clsAt (top 2) 0), defBody (clsAt (top 2) 0), defScope (clsAt (top 2) 0), [], []⟩
def di_BadTerm : He.DefD := ⟨("BadTerm", some "__init__"), "__init__", "BadTerm.__init__", defArgs (clsAt (top 3) 0), defBody (clsAt (top 3) 0), defScope (clsAt (top 3) 0), [], []⟩
def fn : List He.DefD := [dd__law_dip, dd__law_bits, dd__law_added, dd__law_multiplied, dd__law_turned, dd__law_due, dd__law_kinds, dd__law_number, dd__law_take, dd__law_great, dd__law_word, dd__law_parts, dd__law_below, dd__law_truth, dd_bits_up, dd_shape_of, dd_is_integer, dd_is_within, dd_joined, dd_told_true, dd_made, dd_need_number, dd_need_width, dd_worked, dd__law_label_right, dd__law_heard, dd__law_refused_right, dd__law_tray, dd_law, di_BadNumber, di_BadTerm]
def fa : List He.Fa := [.free "int", .free "len", .free "abs", .glo "_law_dip", .free "range", .glo "_law_bits", .free "zip", .glo "_law_added", .glo "_law_multiplied", .glo "_law_turned", .glo "_law_due", .glo "_law_kinds", .glo "_law_number", .glo "_law_take", .glo "_law_great", .glo "_law_word", .glo "_law_parts", .glo "_law_below", .glo "_law_truth", .glo "bits_up", .free "isinstance", .free "str", .glo "SHAPES", .glo "shape_of", .free "bool", .glo "is_integer", .glo "is_within", .glo "joined", .glo "told_true", .glo "made", .glo "BadNumber", .glo "need_number", .glo "need_width", .glo "BadTerm", .free "list", .free "tuple", .glo "worked", .free "repr", .glo "_law_label_right", .glo "EqualError", .glo "_law_heard", .glo "_law_refused_right", .glo "_law_tray", .glo "law"]
def ts : List He.Tab := [(fun K => He.ga K "SHAPES", ck_SHAPES)]
def tf : List He.Defn := [("_law_refused_right", none)]
def tq : List Str := ["_law_refused_right.<locals>.<lambda>"]
def cs : List Con := [.kd "SHAPES" ck_SHAPES cv_SHAPES, .ecl "BadNumber" "part", .ecl "BadTerm" "part", .tree "EqualError" [("BadNumber", true), ("BadTerm", true)], .tree "BadNumber" [("BadNumber", true), ("BadTerm", false)], .fld ["BadNumber", "BadTerm"] "part", .tree "BadTerm" [("BadNumber", false), ("BadTerm", true)], .apart tf]
abbrev FactsL (T : Tx) (mg : Str → Option Value) : Prop := Facts T mg fa fn ts tf cs
abbrev LamsL (T : Tx) (mg : Str → Option Value) (base : Heap) : Prop := Lams T mg base tf tq

section
variable {T : Tx} {P : Program} {mg : Str → Option Value} {base : Heap}
theorem init_BadNumber (M : FactsL T mg) : ∃ fd, FnOk P T.w T.K mg base CX0 1 (He.ma T.K (He.ga T.K "BadNumber") "__init__") fd ["self", "part"] (spI (He.ga T.K "BadNumber") "part") ∧ Binds T.K fd ["self", "part"] [] := by
  obtain ⟨fd, F⟩ := M.def_ 29 (d := di_BadNumber) rfl
  have S : FnScope ["self", "part"] ["self", "part"] (defScope (clsAt (top 2) 0)) := ⟨rfl, rfl, rfl, by decide +kernel, rfl, by decide +kernel, by decide +kernel⟩
  exact ⟨fd, init1_ok (y := "part") F S (M.ecl 1 rfl).1 (M.ecl 1 rfl).2.2.2 rfl rfl, F.bindsN fun _ _ _ _ _ _ us hl => match us, hl with | [_, _], _ => rfl⟩
theorem init_BadTerm (M : FactsL T mg) : ∃ fd, FnOk P T.w T.K mg base CX0 1 (He.ma T.K (He.ga T.K "BadTerm") "__init__") fd ["self", "part"] (spI (He.ga T.K "BadTerm") "part") ∧ Binds T.K fd ["self", "part"] [] := by
  obtain ⟨fd, F⟩ := M.def_ 30 (d := di_BadTerm) rfl
  have S : FnScope ["self", "part"] ["self", "part"] (defScope (clsAt (top 3) 0)) := ⟨rfl, rfl, rfl, by decide +kernel, rfl, by decide +kernel, by decide +kernel⟩
  exact ⟨fd, init1_ok (y := "part") F S (M.ecl 2 rfl).1 (M.ecl 2 rfl).2.2.2 rfl rfl, F.bindsN fun _ _ _ _ _ _ us hl => match us, hl with | [_, _], _ => rfl⟩
theorem ok__law_dip (M : FactsL T mg) (B : LamsL T mg base) : DefOk T P mg base 1 dd__law_dip ["_law_tray_here", "_law_many"] f__law_dip := by
  obtain ⟨fd, F⟩ := M.def_ 0 (d := dd__law_dip) rfl
  have S : FnScope ["_law_tray_here", "_law_many", "_law_rest", "_law_turn", "_law_cell", "_law_mixed"] ["_law_tray_here", "_law_many"] (defScope (top 19)) := ⟨rfl, rfl, rfl, by decide +kernel, rfl, by decide +kernel, by decide +kernel⟩
  have nd := S.nd
  exact def_ok F (M.glo 3 rfl) S (fun _ => fun _ _ _ _ _ _ us hl => match us, hl with | [_, _], _ => rfl) fun cdv hcd A outer s0 H0 E gd hr tk => (dss_cons (ds_if (dt_gt (de_ixA rfl (de_var (i := 0) rfl (.inl rfl)) de_int (fun _ _ => rfl)) de_int) (dss_cons (ds_set (i := 2) nd rfl (.inl rfl) (de_ixA rfl (de_var (i := 0) rfl (.inl rfl)) de_int (fun _ _ => rfl)))
  (dss_cons (ds_setB (de_div (de_ty (id := "int") call_intA p_int (by rfl) (M.free 0 rfl) (by decide +kernel) (da_cons (de_var (i := 2) rfl (.inl rfl)) da_nil)) (de_var (i := 1) rfl (.inl rfl))) (de_var (i := 0) rfl (.inl rfl)) de_int)
  (dss_one (ds_ret (de_mod (de_ty (id := "int") call_intA p_int (by rfl) (M.free 0 rfl) (by decide +kernel) (da_cons (de_var (i := 2) rfl (.inl rfl)) da_nil)) (de_var (i := 1) rfl (.inl rfl))))))) dss_nil)
  (dss_cons (ds_set (i := 3) nd rfl (.inl rfl) (de_ixA rfl (de_var (i := 0) rfl (.inl rfl)) de_int (fun _ _ => rfl)))
  (dss_cons (ds_setB (de_add rfl (de_var (i := 3) rfl (.inl rfl)) de_int) (de_var (i := 0) rfl (.inl rfl)) de_int)
  (dss_cons (ds_set (i := 4) nd rfl (.inl rfl) (de_add rfl (de_mul de_int (de_var (i := 3) rfl (.inl rfl))) de_int))
  (dss_cons (ds_if (dt_ne rfl hr (de_ixA rfl (de_var (i := 0) rfl (.inl rfl)) de_int (fun _ _ => rfl)) (de_sh (df_lst da_nil))) (dss_one (ds_set (i := 4) nd rfl (.inl rfl) (de_ixA rfl (de_ixA rfl (de_var (i := 0) rfl (.inl rfl)) de_int (fun _ _ => rfl)) (de_mod (de_ty (id := "int") call_intA p_int (by rfl) (M.free 0 rfl) (by decide +kernel) (da_cons (de_var (i := 3) rfl (.inl rfl)) da_nil)) (de_bi call_lenA (p_len rfl) (by rfl) (M.free 1 rfl) (by decide +kernel) (da_cons (de_ixA rfl (de_var (i := 0) rfl (.inl rfl)) de_int (fun _ _ => rfl)) da_nil))) (fun _ _ => rfl)))) dss_nil)
  (dss_cons (ds_if (dw_and (dt_lt (de_var (i := 3) rfl (.inl rfl)) (de_bi call_lenA (p_len rfl) (by rfl) (M.free 1 rfl) (by decide +kernel) (da_cons (de_ixA rfl (de_var (i := 0) rfl (.inl rfl)) de_int (fun _ _ => rfl)) da_nil))) (dw_and1 (dt_ge (de_bi call_abs p_abs (by rfl) (M.free 2 rfl) (by decide +kernel) (da_cons (de_var (i := 4) rfl (.inl rfl)) da_nil)) (de_pow de_int de_int)))).pt (dss_cons (ds_set (i := 2) nd rfl (.inl rfl) (de_add rfl (de_mul de_int (de_sub (de_bi call_abs p_abs (by rfl) (M.free 2 rfl) (by decide +kernel) (da_cons (de_var (i := 4) rfl (.inl rfl)) da_nil)) (de_pow de_int de_int))) (de_ty (id := "int") call_intA p_int (by rfl) (M.free 0 rfl) (by decide +kernel) (da_cons (de_lt (de_var (i := 4) rfl (.inl rfl)) de_int) da_nil))))
  (dss_cons (ds_setB (de_div (de_ty (id := "int") call_intA p_int (by rfl) (M.free 0 rfl) (by decide +kernel) (da_cons (de_var (i := 2) rfl (.inl rfl)) da_nil)) (de_var (i := 1) rfl (.inl rfl))) (de_var (i := 0) rfl (.inl rfl)) de_int)
  (dss_one (ds_ret (de_mod (de_ty (id := "int") call_intA p_int (by rfl) (M.free 0 rfl) (by decide +kernel) (da_cons (de_var (i := 2) rfl (.inl rfl)) da_nil)) (de_var (i := 1) rfl (.inl rfl))))))) dss_nil)
  (dss_cons (ds_set (i := 5) nd rfl (.inl rfl) (de_mod (de_ty (id := "int") call_intA p_int (by rfl) (M.free 0 rfl) (by decide +kernel) (da_cons (de_pow (de_add rfl (de_add rfl (de_mod (de_ty (id := "int") call_intA p_int (by rfl) (M.free 0 rfl) (by decide +kernel) (da_cons (de_var (i := 4) rfl (.inl rfl)) da_nil)) de_int) (de_mul de_int (de_var (i := 3) rfl (.inl rfl)))) de_int) de_int) da_nil)) de_int))
  (dss_cons (ds_set (i := 5) nd rfl (.inl rfl) (de_mod (de_ty (id := "int") call_intA p_int (by rfl) (M.free 0 rfl) (by decide +kernel) (da_cons (de_pow (de_add rfl (de_add rfl (de_mul (de_var (i := 5) rfl (.inl rfl)) (de_add rfl (de_mul de_int (de_var (i := 3) rfl (.inl rfl))) de_int)) (de_mul (de_mul de_int (de_var (i := 3) rfl (.inl rfl))) (de_var (i := 3) rfl (.inl rfl)))) de_int) de_int) da_nil)) de_int))
  (dss_one (ds_ret (de_mod (de_ty (id := "int") call_intA p_int (by rfl) (M.free 0 rfl) (by decide +kernel) (da_cons (de_div (de_var (i := 5) rfl (.inl rfl)) de_int) da_nil)) (de_var (i := 1) rfl (.inl rfl)))))))))))))
theorem ok__law_bits (M : FactsL T mg) (B : LamsL T mg base) : DefOk T P mg base 1 dd__law_bits ["_law_value", "_law_width"] f__law_bits := by
  obtain ⟨fd, F⟩ := M.def_ 1 (d := dd__law_bits) rfl
  have S : FnScope ["_law_value", "_law_width", "_law_bits_here", "_law_turn"] ["_law_value", "_law_width"] (defScope (top 23)) := ⟨rfl, rfl, rfl, by decide +kernel, rfl, by decide +kernel, by decide +kernel⟩
  have nd := S.nd
  exact def_ok F (M.glo 5 rfl) S (fun _ => fun _ _ _ _ _ _ us hl => match us, hl with | [_, _], _ => rfl) fun cdv hcd A outer s0 H0 E gd hr tk => (dss_cons (ds_own (i := 2) nd rfl (.inl rfl) (df_lst da_nil))
  (dss_cons (ds_for (passes_of rfl) rfl (di_rng1 (by rfl) (M.free 4 rfl) (da_cons (de_var (i := 1) rfl (.inl rfl)) da_nil)) (dg_name (i := 3) nd rfl (.inl rfl)) (dss_cons (ds_app (i := 2) rfl rfl (.inl rfl) (de_mod (de_ty (id := "int") call_intA p_int (by rfl) (M.free 0 rfl) (by decide +kernel) (da_cons (de_var (i := 0) rfl (.inl rfl)) da_nil)) de_int))
  (dss_one (ds_set (i := 0) nd rfl (.inl rfl) (de_div (de_var (i := 0) rfl (.inl rfl)) de_int)))))
  (dss_one (ds_ret (de_var (i := 2) rfl (.inl rfl))))))
theorem ok__law_added (M : FactsL T mg) (B : LamsL T mg base) : DefOk T P mg base 1 dd__law_added ["_law_one", "_law_other", "_law_carry"] f__law_added := by
  obtain ⟨fd, F⟩ := M.def_ 2 (d := dd__law_added) rfl
  have S : FnScope ["_law_one", "_law_other", "_law_carry", "_law_made", "_law_bit", "_law_also", "_law_total"] ["_law_one", "_law_other", "_law_carry"] (defScope (top 25)) := ⟨rfl, rfl, rfl, by decide +kernel, rfl, by decide +kernel, by decide +kernel⟩
  have nd := S.nd
  exact def_ok F (M.glo 7 rfl) S (fun _ => fun _ _ _ _ _ _ us hl => match us, hl with | [_, _, _], _ => rfl) fun cdv hcd A outer s0 H0 E gd hr tk => (dss_cons (ds_own (i := 3) nd rfl (.inl rfl) (df_lst da_nil))
  (dss_cons (ds_for (passes_of rfl) rfl (di_zip rfl (by rfl) (M.free 6 rfl) (da_cons (de_var (i := 0) rfl (.inl rfl)) (da_cons (de_var (i := 1) rfl (.inl rfl)) da_nil))) (dg_tup (n := 2) rfl rfl (dgs_cons (dg_name (i := 4) nd rfl (.inl rfl)) (dgs_cons (dg_name (i := 5) nd rfl (.inl rfl)) dgs_nil)) rfl tgs_len2) (dss_cons (ds_set (i := 6) nd rfl (.inl rfl) (de_add rfl (de_add rfl (de_var (i := 4) rfl (.inl rfl)) (de_var (i := 5) rfl (.inl rfl))) (de_var (i := 2) rfl (.inl rfl))))
  (dss_cons (ds_app (i := 3) rfl rfl (.inl rfl) (de_mod (de_ty (id := "int") call_intA p_int (by rfl) (M.free 0 rfl) (by decide +kernel) (da_cons (de_var (i := 6) rfl (.inl rfl)) da_nil)) de_int))
  (dss_one (ds_set (i := 2) nd rfl (.inl rfl) (de_div (de_var (i := 6) rfl (.inl rfl)) de_int))))))
  (dss_one (ds_ret (de_tup (da_cons (de_var (i := 3) rfl (.inl rfl)) (da_cons (de_var (i := 2) rfl (.inl rfl)) da_nil)))))))
theorem ok__law_multiplied (M : FactsL T mg) (B : LamsL T mg base) : DefOk T P mg base 2 dd__law_multiplied ["_law_one", "_law_other"] f__law_multiplied := by
  obtain ⟨fd, F⟩ := M.def_ 3 (d := dd__law_multiplied) rfl
  have S : FnScope ["_law_one", "_law_other", "_law_made", "_law_place", "_law_bit", "_law_turn"] ["_law_one", "_law_other"] (defScope (top 28)) := ⟨rfl, rfl, rfl, by decide +kernel, rfl, by decide +kernel, by decide +kernel⟩
  have nd := S.nd
  exact def_ok F (M.glo 8 rfl) S (fun _ => fun _ _ _ _ _ _ us hl => match us, hl with | [_, _], _ => rfl) fun cdv hcd A outer s0 H0 E gd hr tk => (dss_cons (ds_setComp (f := fun _ => sNx) (i := 2) rfl nd rfl rfl rfl (own := [("_law_bit", 4)]) (di_seq rfl (de_var (i := 0) rfl (.inl rfl))) (blkOk_of (by rfl)) (by decide) (fun s H C cl fp => (dg_name (i := 4) nd rfl (.inl rfl))) (fun s H C cl fp => dts_nil) (fun s H C cl fp => de_int))
  (dss_cons (ds_for (passes_of rfl) rfl (di_rng1 (by rfl) (M.free 4 rfl) (da_cons (de_bi call_lenA (p_len rfl) (by rfl) (M.free 1 rfl) (by decide +kernel) (da_cons (de_var (i := 0) rfl (.inl rfl)) da_nil)) da_nil)) (dg_name (i := 3) nd rfl (.inl rfl)) (dss_one (ds_if (dt_eq rfl hr (de_ixA rfl (de_var (i := 1) rfl (.inl rfl)) (de_var (i := 3) rfl (.inl rfl)) (fun _ _ => rfl)) de_int) (dss_one (ds_set (i := 2) nd rfl (.inl rfl) (de_ixA rfl (de_call (ok__law_added M B) rfl rfl tk gd (hr.mono (by decide)) (by rfl) (da_cons (de_var (i := 2) rfl (.inl rfl)) (da_cons (de_sl rfl (de_add rfl (de_sh (df_comp rfl nd (own := [("_law_turn", 5)]) (di_rng1 (by rfl) (M.free 4 rfl) (da_cons (de_var (i := 3) rfl (.inl rfl)) da_nil)) (blkOk_of (by rfl)) (by decide) (fun s H C cl fp => (dg_name (i := 5) nd rfl (.inl rfl))) (fun s H C cl fp => dts_nil) (fun s H C cl fp => de_int))) (de_var (i := 0) rfl (.inl rfl))) dp_none (dp_some (de_bi call_lenA (p_len rfl) (by rfl) (M.free 1 rfl) (by decide +kernel) (da_cons (de_var (i := 0) rfl (.inl rfl)) da_nil)))) (da_cons de_int da_nil))) (hlen := (ar_cons (ar_cons (ar_cons ar_nil))))) de_int (fun _ _ => rfl)))) dss_nil)))
  (dss_one (ds_ret (de_var (i := 2) rfl (.inl rfl))))))
theorem ok__law_turned (M : FactsL T mg) (B : LamsL T mg base) : DefOk T P mg base 1 dd__law_turned ["_law_bits_here"] f__law_turned := by
  obtain ⟨fd, F⟩ := M.def_ 4 (d := dd__law_turned) rfl
  have S : FnScope ["_law_bits_here", "_law_bit"] ["_law_bits_here"] (defScope (top 26)) := ⟨rfl, rfl, rfl, by decide +kernel, rfl, by decide +kernel, by decide +kernel⟩
  have nd := S.nd
  exact def_ok F (M.glo 9 rfl) S (fun _ => fun _ _ _ _ _ _ us hl => match us, hl with | [_], _ => rfl) fun cdv hcd A outer s0 H0 E gd hr tk => (dss_one (ds_retF (df_comp rfl nd (own := [("_law_bit", 1)]) (di_seq rfl (de_var (i := 0) rfl (.inl rfl))) (blkOk_of (by rfl)) (by decide) (fun s H C cl fp => (dg_name (i := 1) nd rfl (.inl rfl))) (fun s H C cl fp => dts_nil) (fun s H C cl fp => (de_sub de_int (de_var (i := 1) rfl (.inl rfl)))))))
theorem ok__law_due (M : FactsL T mg) (B : LamsL T mg base) : DefOk T P mg base 3 dd__law_due ["_law_label", "_law_parts_here"] f__law_due := by
  obtain ⟨fd, F⟩ := M.def_ 5 (d := dd__law_due) rfl
  have S : FnScope ["_law_label", "_law_parts_here", "_law_one", "_law_other", "_law_bit", "_law_also", "_law_turn"] ["_law_label", "_law_parts_here"] (defScope (top 30)) := ⟨rfl, rfl, rfl, by decide +kernel, rfl, by decide +kernel, by decide +kernel⟩
  have nd := S.nd
  exact def_ok F (M.glo 10 rfl) S (fun _ => fun _ _ _ _ _ _ us hl => match us, hl with | [_, _], _ => rfl) fun cdv hcd A outer s0 H0 E gd hr tk => (dss_cons (ds_par (i := 2) (j := 3) rfl nd rfl rfl (by decide) rfl rfl (da_cons (de_ixA rfl (de_var (i := 1) rfl (.inl rfl)) de_int (fun _ _ => rfl)) (da_cons (de_ixA rfl (de_var (i := 1) rfl (.inl rfl)) (de_neg de_int) (fun _ _ => rfl)) da_nil)))
  (dss_cons (ds_if (dt_eq rfl hr (de_var (i := 0) rfl (.inr (.inl rfl))) de_str) (dss_one (ds_ret (de_if (dt_is (de_var (i := 2) rfl (.inl rfl)) de_bl) (de_ixA rfl (de_var (i := 1) rfl (.inl rfl)) de_int (fun _ _ => rfl)) (de_var (i := 3) rfl (.inl rfl))))) dss_nil)
  (dss_cons (ds_if (dt_in rfl rfl (de_var (i := 0) rfl (.inr (.inl rfl))) (de_tup (da_cons de_str (da_cons de_str (da_cons de_str da_nil))))) (dss_one (ds_retF (df_comp rfl nd (own := [("_law_bit", 4), ("_law_also", 5)]) (di_zip rfl (by rfl) (M.free 6 rfl) (da_cons (de_var (i := 2) rfl (.inl rfl)) (da_cons (de_var (i := 3) rfl (.inl rfl)) da_nil))) (blkOk_of (by rfl)) (by decide) (fun s H C cl fp => (dg_tup (n := 2) rfl rfl (dgs_cons (dg_name (i := 4) nd rfl (.inl rfl)) (dgs_cons (dg_name (i := 5) nd rfl (.inl rfl)) dgs_nil)) rfl tgs_len2)) (fun s H C cl fp => dts_nil) (fun s H C cl fp => (de_ty (id := "int") call_intA p_int (by rfl) (M.free 0 rfl) (by decide +kernel) (da_cons (dv_and (de_ge (de_add rfl (de_var (i := 4) rfl (.inl rfl)) (de_var (i := 5) rfl (.inl rfl))) (de_if (dt_eq rfl hr (de_var (i := 0) rfl (.inr (.inl rfl))) de_str) de_int de_int)) (dv_one (dv_not (dv_and (de_eq rfl hr (de_var (i := 0) rfl (.inr (.inl rfl))) de_str) (dv_one (de_eq rfl hr (de_add rfl (de_var (i := 4) rfl (.inl rfl)) (de_var (i := 5) rfl (.inl rfl))) de_int)))))) da_nil)))))) dss_nil)
  (dss_cons (ds_if (dt_eq rfl hr (de_var (i := 0) rfl (.inr (.inl rfl))) de_str) (dss_one (ds_ret (de_call (ok__law_turned M B) rfl rfl tk gd (hr.mono (by decide)) (by rfl) (da_cons (de_var (i := 2) rfl (.inl rfl)) da_nil) (hlen := (ar_cons ar_nil))))) dss_nil)
  (dss_cons (ds_if (dt_eq rfl hr (de_var (i := 0) rfl (.inr (.inl rfl))) de_str) (dss_one (ds_ret (de_ixA rfl (de_call (ok__law_added M B) rfl rfl tk gd (hr.mono (by decide)) (by rfl) (da_cons (de_call (ok__law_turned M B) rfl rfl tk gd (hr.mono (by decide)) (by rfl) (da_cons (de_var (i := 2) rfl (.inl rfl)) da_nil) (hlen := (ar_cons ar_nil))) (da_cons (de_sh (df_comp rfl nd (own := [("_law_bit", 4)]) (di_seq rfl (de_var (i := 2) rfl (.inl rfl))) (blkOk_of (by rfl)) (by decide) (fun s H C cl fp => (dg_name (i := 4) nd rfl (.inl rfl))) (fun s H C cl fp => dts_nil) (fun s H C cl fp => de_int))) (da_cons de_int da_nil))) (hlen := (ar_cons (ar_cons (ar_cons ar_nil))))) de_int (fun _ _ => rfl)))) dss_nil)
  (dss_cons (ds_if (dt_eq rfl hr (de_var (i := 0) rfl (.inr (.inl rfl))) de_str) (dss_one (ds_ret (de_ixA rfl (de_call (ok__law_added M B) rfl rfl tk gd (hr.mono (by decide)) (by rfl) (da_cons (de_var (i := 2) rfl (.inl rfl)) (da_cons (de_var (i := 3) rfl (.inl rfl)) (da_cons de_int da_nil))) (hlen := (ar_cons (ar_cons (ar_cons ar_nil))))) de_int (fun _ _ => rfl)))) dss_nil)
  (dss_cons (ds_if (dt_eq rfl hr (de_var (i := 0) rfl (.inr (.inl rfl))) de_str) (dss_one (ds_ret (de_ixA rfl (de_call (ok__law_added M B) rfl rfl tk gd (hr.mono (by decide)) (by rfl) (da_cons (de_var (i := 2) rfl (.inl rfl)) (da_cons (de_call (ok__law_turned M B) rfl rfl tk gd (hr.mono (by decide)) (by rfl) (da_cons (de_var (i := 3) rfl (.inl rfl)) da_nil) (hlen := (ar_cons ar_nil))) (da_cons de_int da_nil))) (hlen := (ar_cons (ar_cons (ar_cons ar_nil))))) de_int (fun _ _ => rfl)))) dss_nil)
  (dss_cons (ds_if (dt_eq rfl hr (de_var (i := 0) rfl (.inr (.inl rfl))) de_str) (dss_one (ds_ret (de_call (ok__law_multiplied M B) rfl rfl tk gd (hr.mono (by decide)) (by rfl) (da_cons (de_var (i := 2) rfl (.inl rfl)) (da_cons (de_var (i := 3) rfl (.inl rfl)) da_nil)) (hlen := (ar_cons (ar_cons ar_nil)))))) dss_nil)
  (dss_one (ds_ret (de_sl rfl (de_add rfl (de_sh (df_comp rfl nd (own := [("_law_turn", 6)]) (di_rng1 (by rfl) (M.free 4 rfl) (da_cons (de_ty (id := "int") call_intA p_int (by rfl) (M.free 0 rfl) (by decide +kernel) (da_cons (de_sl rfl (de_var (i := 0) rfl (.inr (.inl rfl))) (dp_some de_int) dp_none) da_nil)) da_nil)) (blkOk_of (by rfl)) (by decide) (fun s H C cl fp => (dg_name (i := 6) nd rfl (.inl rfl))) (fun s H C cl fp => dts_nil) (fun s H C cl fp => de_int))) (de_var (i := 2) rfl (.inl rfl))) dp_none (dp_some (de_bi call_lenA (p_len rfl) (by rfl) (M.free 1 rfl) (by decide +kernel) (da_cons (de_var (i := 2) rfl (.inl rfl)) da_nil))))))))))))))
theorem ok__law_kinds (M : FactsL T mg) (B : LamsL T mg base) : DefOk T P mg base 1 dd__law_kinds ["_law_label"] f__law_kinds := by
  obtain ⟨fd, F⟩ := M.def_ 6 (d := dd__law_kinds) rfl
  have S : FnScope ["_law_label"] ["_law_label"] (defScope (top 31)) := ⟨rfl, rfl, rfl, by decide +kernel, rfl, by decide +kernel, by decide +kernel⟩
  have nd := S.nd
  exact def_ok F (M.glo 11 rfl) S (fun _ => fun _ _ _ _ _ _ us hl => match us, hl with | [_], _ => rfl) fun cdv hcd A outer s0 H0 E gd hr tk => (dss_cons (ds_if (dw_or (dt_in rfl rfl (de_var (i := 0) rfl (.inl rfl)) (de_tup (da_cons de_str (da_cons de_str (da_cons de_str da_nil))))) (dw_or1 (dt_eq rfl hr (de_sl rfl (de_var (i := 0) rfl (.inl rfl)) dp_none (dp_some de_int)) de_str))).pt (dss_one (ds_ret (de_tup (da_cons de_str da_nil)))) dss_nil)
  (dss_cons (ds_if (dt_in rfl rfl (de_var (i := 0) rfl (.inl rfl)) (de_tup (da_cons de_str (da_cons de_str da_nil)))) (dss_one (ds_ret (de_if (dt_eq rfl hr (de_var (i := 0) rfl (.inl rfl)) de_str) (de_tup (da_cons de_str da_nil)) (de_tup (da_cons de_str (da_cons de_str (da_cons de_str da_nil))))))) dss_nil)
  (dss_one (ds_ret (de_if (dt_in rfl rfl (de_var (i := 0) rfl (.inl rfl)) (de_tup (da_cons de_str (da_cons de_str da_nil)))) (de_tup (da_cons de_str (da_cons de_str da_nil))) (de_tup (da_cons de_str (da_cons de_str da_nil))))))))
theorem ok__law_number (M : FactsL T mg) (B : LamsL T mg base) : DefOk T P mg base 1 dd__law_number ["_law_bits_here"] f__law_number := by
  obtain ⟨fd, F⟩ := M.def_ 7 (d := dd__law_number) rfl
  have S : FnScope ["_law_bits_here", "_law_value", "_law_bit"] ["_law_bits_here"] (defScope (top 24)) := ⟨rfl, rfl, rfl, by decide +kernel, rfl, by decide +kernel, by decide +kernel⟩
  have nd := S.nd
  exact def_ok F (M.glo 12 rfl) S (fun _ => fun _ _ _ _ _ _ us hl => match us, hl with | [_], _ => rfl) fun cdv hcd A outer s0 H0 E gd hr tk => (dss_cons (ds_set (i := 1) nd rfl (.inl rfl) de_int)
  (dss_cons (ds_for (passes_of rfl) rfl (di_seq rfl (de_revL rfl (de_var (i := 0) rfl (.inl rfl)))) (dg_name (i := 2) nd rfl (.inl rfl)) (dss_one (ds_set (i := 1) nd rfl (.inl rfl) (de_add rfl (de_mul de_int (de_var (i := 1) rfl (.inl rfl))) (de_var (i := 2) rfl (.inl rfl))))))
  (dss_one (ds_ret (de_var (i := 1) rfl (.inl rfl))))))
theorem ok__law_take (M : FactsL T mg) (B : LamsL T mg base) : DefOk T P mg base 2 dd__law_take ["_law_tray_here", "_law_some"] f__law_take := by
  obtain ⟨fd, F⟩ := M.def_ 8 (d := dd__law_take) rfl
  have S : FnScope ["_law_tray_here", "_law_some"] ["_law_tray_here", "_law_some"] (defScope (top 20)) := ⟨rfl, rfl, rfl, by decide +kernel, rfl, by decide +kernel, by decide +kernel⟩
  have nd := S.nd
  exact def_ok F (M.glo 13 rfl) S (fun _ => fun _ _ _ _ _ _ us hl => match us, hl with | [_, _], _ => rfl) fun cdv hcd A outer s0 H0 E gd hr tk => (dss_one (ds_ret (de_ixA rfl (de_var (i := 1) rfl (.inl rfl)) (de_call (ok__law_dip M B) rfl rfl tk gd (hr.mono (by decide)) (by rfl) (da_cons (de_var (i := 0) rfl (.inl rfl)) (da_cons (de_bi call_lenA (p_len rfl) (by rfl) (M.free 1 rfl) (by decide +kernel) (da_cons (de_var (i := 1) rfl (.inl rfl)) da_nil)) da_nil)) (hlen := (ar_cons (ar_cons ar_nil)))) (fun _ _ => rfl))))
theorem ok__law_great (M : FactsL T mg) (B : LamsL T mg base) : DefOk T P mg base 2 dd__law_great ["_law_tray_here", "_law_most"] f__law_great := by
  obtain ⟨fd, F⟩ := M.def_ 9 (d := dd__law_great) rfl
  have S : FnScope ["_law_tray_here", "_law_most", "_law_number_here", "_law_turn"] ["_law_tray_here", "_law_most"] (defScope (top 21)) := ⟨rfl, rfl, rfl, by decide +kernel, rfl, by decide +kernel, by decide +kernel⟩
  have nd := S.nd
  exact def_ok F (M.glo 14 rfl) S (fun _ => fun _ _ _ _ _ _ us hl => match us, hl with | [_, _], _ => rfl) fun cdv hcd A outer s0 H0 E gd hr tk => (dss_cons (ds_set (i := 2) nd rfl (.inl rfl) de_int)
  (dss_cons (ds_for (passes_of rfl) rfl (di_rng1 (by rfl) (M.free 4 rfl) (da_cons de_int da_nil)) (dg_name (i := 3) nd rfl (.inl rfl)) (dss_one (ds_if (dt_lt (de_var (i := 2) rfl (.inl rfl)) (de_var (i := 1) rfl (.inl rfl))) (dss_one (ds_set (i := 2) nd rfl (.inl rfl) (de_add rfl (de_mul (de_var (i := 2) rfl (.inl rfl)) de_int) (de_call (ok__law_dip M B) rfl rfl tk gd (hr.mono (by decide)) (by rfl) (da_cons (de_var (i := 0) rfl (.inl rfl)) (da_cons de_int da_nil)) (hlen := (ar_cons (ar_cons ar_nil))))))) dss_nil)))
  (dss_one (ds_ret (de_mod (de_ty (id := "int") call_intA p_int (by rfl) (M.free 0 rfl) (by decide +kernel) (da_cons (de_var (i := 2) rfl (.inl rfl)) da_nil)) (de_add rfl (de_var (i := 1) rfl (.inl rfl)) de_int))))))
theorem ok__law_word (M : FactsL T mg) (B : LamsL T mg base) : DefOk T P mg base 3 dd__law_word ["_law_tray_here", "_law_limit"] f__law_word := by
  obtain ⟨fd, F⟩ := M.def_ 10 (d := dd__law_word) rfl
  have S : FnScope ["_law_tray_here", "_law_limit"] ["_law_tray_here", "_law_limit"] (defScope (top 22)) := ⟨rfl, rfl, rfl, by decide +kernel, rfl, by decide +kernel, by decide +kernel⟩
  have nd := S.nd
  exact def_ok F (M.glo 15 rfl) S (fun _ => fun _ _ _ _ _ _ us hl => match us, hl with | [_, _], _ => rfl) fun cdv hcd A outer s0 H0 E gd hr tk => (dss_one (ds_ret (de_call (ok__law_take M B) rfl rfl tk gd (hr.mono (by decide)) (by rfl) (da_cons (de_var (i := 0) rfl (.inl rfl)) (da_cons (de_sh (df_lst (da_cons de_int (da_cons de_int (da_cons (de_sub (de_var (i := 1) rfl (.inl rfl)) de_int) (da_cons (de_div (de_var (i := 1) rfl (.inl rfl)) de_int) (da_cons (de_sub (de_div (de_var (i := 1) rfl (.inl rfl)) de_int) de_int) (da_cons (de_call (ok__law_great M B) rfl rfl tk gd (hr.mono (by decide)) (by rfl) (da_cons (de_var (i := 0) rfl (.inl rfl)) (da_cons (de_sub (de_var (i := 1) rfl (.inl rfl)) de_int) da_nil)) (hlen := (ar_cons (ar_cons ar_nil)))) (da_cons (de_call (ok__law_great M B) rfl rfl tk gd (hr.mono (by decide)) (by rfl) (da_cons (de_var (i := 0) rfl (.inl rfl)) (da_cons (de_sub (de_var (i := 1) rfl (.inl rfl)) de_int) da_nil)) (hlen := (ar_cons (ar_cons ar_nil)))) da_nil))))))))) da_nil)) (hlen := (ar_cons (ar_cons ar_nil))))))
theorem ok__law_parts (M : FactsL T mg) (B : LamsL T mg base) : DefOk T P mg base 4 dd__law_parts ["_law_tray_here", "_law_label", "_law_limit"] f__law_parts := by
  obtain ⟨fd, F⟩ := M.def_ 11 (d := dd__law_parts) rfl
  have S : FnScope ["_law_tray_here", "_law_label", "_law_limit", "_law_kind"] ["_law_tray_here", "_law_label", "_law_limit"] (defScope (top 33)) := ⟨rfl, rfl, rfl, by decide +kernel, rfl, by decide +kernel, by decide +kernel⟩
  have nd := S.nd
  exact def_ok F (M.glo 16 rfl) S (fun _ => fun _ _ _ _ _ _ us hl => match us, hl with | [_, _, _], _ => rfl) fun cdv hcd A outer s0 H0 E gd hr tk => (dss_one (ds_retF (df_comp rfl nd (own := [("_law_kind", 3)]) (di_seq rfl (de_call (ok__law_kinds M B) rfl rfl tk gd (hr.mono (by decide)) (by rfl) (da_cons (de_var (i := 1) rfl (.inl rfl)) da_nil) (hlen := (ar_cons ar_nil)))) (blkOk_of (by rfl)) (by decide) (fun s H C cl fp => (dg_name (i := 3) nd rfl (.inl rfl))) (fun s H C cl fp => dts_nil) (fun s H C cl fp => (de_if (dt_eq rfl hr (de_var (i := 3) rfl (.inl rfl)) de_str) (de_call (ok__law_take M B) rfl rfl takes0 gd (hr.mono (by decide)) (by rfl) (da_cons (de_var (i := 0) rfl (.inr (.inl rfl))) (da_cons (de_sh (df_lst (da_cons de_bl (da_cons de_bl da_nil)))) da_nil)) (hlen := (ar_cons (ar_cons ar_nil)))) (de_call (ok__law_word M B) rfl rfl takes0 gd (hr.mono (by decide)) (by rfl) (da_cons (de_var (i := 0) rfl (.inr (.inl rfl))) (da_cons (de_var (i := 2) rfl (.inr (.inl rfl))) da_nil)) (hlen := (ar_cons (ar_cons ar_nil)))))))))
theorem ok__law_below (M : FactsL T mg) (B : LamsL T mg base) : DefOk T P mg base 2 dd__law_below ["_law_one", "_law_other"] f__law_below := by
  obtain ⟨fd, F⟩ := M.def_ 12 (d := dd__law_below) rfl
  have S : FnScope ["_law_one", "_law_other"] ["_law_one", "_law_other"] (defScope (top 27)) := ⟨rfl, rfl, rfl, by decide +kernel, rfl, by decide +kernel, by decide +kernel⟩
  have nd := S.nd
  exact def_ok F (M.glo 17 rfl) S (fun _ => fun _ _ _ _ _ _ us hl => match us, hl with | [_, _], _ => rfl) fun cdv hcd A outer s0 H0 E gd hr tk => (dss_one (ds_ret (de_eq rfl hr (de_ixA rfl (de_call (ok__law_added M B) rfl rfl tk gd (hr.mono (by decide)) (by rfl) (da_cons (de_var (i := 0) rfl (.inl rfl)) (da_cons (de_call (ok__law_turned M B) rfl rfl tk gd (hr.mono (by decide)) (by rfl) (da_cons (de_var (i := 1) rfl (.inl rfl)) da_nil) (hlen := (ar_cons ar_nil))) (da_cons de_int da_nil))) (hlen := (ar_cons (ar_cons (ar_cons ar_nil))))) de_int (fun _ _ => rfl)) de_int)))
theorem ok__law_truth (M : FactsL T mg) (B : LamsL T mg base) : DefOk T P mg base 3 dd__law_truth ["_law_label", "_law_parts_here"] f__law_truth := by
  obtain ⟨fd, F⟩ := M.def_ 13 (d := dd__law_truth) rfl
  have S : FnScope ["_law_label", "_law_parts_here", "_law_one", "_law_other", "_law_bit", "_law_also"] ["_law_label", "_law_parts_here"] (defScope (top 29)) := ⟨rfl, rfl, rfl, by decide +kernel, rfl, by decide +kernel, by decide +kernel⟩
  have nd := S.nd
  exact def_ok F (M.glo 18 rfl) S (fun _ => fun _ _ _ _ _ _ us hl => match us, hl with | [_, _], _ => rfl) fun cdv hcd A outer s0 H0 E gd hr tk => (dss_cons (ds_if (dt_in rfl rfl (de_var (i := 0) rfl (.inl rfl)) (de_tup (da_cons de_str (da_cons de_str (da_cons de_str da_nil))))) (dss_one (ds_ret (de_if (dt_eq rfl hr (de_var (i := 0) rfl (.inl rfl)) de_str) (de_notin rfl rfl de_bl (de_var (i := 1) rfl (.inl rfl))) (de_if (dt_eq rfl hr (de_var (i := 0) rfl (.inl rfl)) de_str) (de_in rfl rfl de_bl (de_var (i := 1) rfl (.inl rfl))) (de_is (de_ixA rfl (de_var (i := 1) rfl (.inl rfl)) de_int (fun _ _ => rfl)) de_bl))))) dss_nil)
  (dss_cons (ds_asg (de_var (i := 1) rfl (.inl rfl)) (dg_lst (n := 2) rfl rfl (dgs_cons (dg_name (i := 2) nd rfl (.inl rfl)) (dgs_cons (dg_name (i := 3) nd rfl (.inl rfl)) dgs_nil)) rfl tgs_len2))
  (dss_cons (ds_if (dt_eq rfl hr (de_var (i := 0) rfl (.inl rfl)) de_str) (dss_one (ds_ret (de_eq rfl hr (de_sh (df_comp rfl nd (own := [("_law_bit", 4), ("_law_also", 5)]) (di_zip rfl (by rfl) (M.free 6 rfl) (da_cons (de_var (i := 2) rfl (.inl rfl)) (da_cons (de_var (i := 3) rfl (.inl rfl)) da_nil))) (blkOk_of (by rfl)) (by decide) (fun s H C cl fp => (dg_tup (n := 2) rfl rfl (dgs_cons (dg_name (i := 4) nd rfl (.inl rfl)) (dgs_cons (dg_name (i := 5) nd rfl (.inl rfl)) dgs_nil)) rfl tgs_len2)) (fun s H C cl fp => (dts_one (dt_ne rfl hr (de_var (i := 4) rfl (.inl rfl)) (de_var (i := 5) rfl (.inl rfl))))) (fun s H C cl fp => de_int))) (de_sh (df_lst da_nil))))) dss_nil)
  (dss_cons (ds_if (dt_eq rfl hr (de_var (i := 0) rfl (.inl rfl)) de_str) (dss_one (ds_ret (de_call (ok__law_below M B) rfl rfl tk gd (hr.mono (by decide)) (by rfl) (da_cons (de_var (i := 2) rfl (.inl rfl)) (da_cons (de_var (i := 3) rfl (.inl rfl)) da_nil)) (hlen := (ar_cons (ar_cons ar_nil)))))) dss_nil)
  (dss_one (ds_ret (de_call (ok__law_below M B) rfl rfl tk gd (hr.mono (by decide)) (by rfl) (da_cons (de_add rfl (de_sl rfl (de_var (i := 2) rfl (.inl rfl)) dp_none (dp_some (de_neg de_int))) (de_sh (df_lst (da_cons (de_sub de_int (de_ixA rfl (de_var (i := 2) rfl (.inl rfl)) (de_neg de_int) (fun _ _ => rfl))) da_nil)))) (da_cons (de_add rfl (de_sl rfl (de_var (i := 3) rfl (.inl rfl)) dp_none (dp_some (de_neg de_int))) (de_sh (df_lst (da_cons (de_sub de_int (de_ixA rfl (de_var (i := 3) rfl (.inl rfl)) (de_neg de_int) (fun _ _ => rfl))) da_nil)))) da_nil)) (hlen := (ar_cons (ar_cons ar_nil))))))))))
theorem ok_bits_up (M : FactsL T mg) (B : LamsL T mg base) : DefOk T P mg base 1 dd_bits_up ["label"] f_bits_up := by
  obtain ⟨fd, F⟩ := M.def_ 14 (d := dd_bits_up) rfl
  have S : FnScope ["label", "k"] ["label"] (defScope (top 11)) := ⟨rfl, rfl, rfl, by decide +kernel, rfl, by decide +kernel, by decide +kernel⟩
  have nd := S.nd
  exact def_ok F (M.glo 19 rfl) S (fun _ => fun _ _ _ _ _ _ us hl => match us, hl with | [_], _ => rfl) fun cdv hcd A outer s0 H0 E gd hr tk => (dss_cons (ds_for (passes_of rfl) rfl (di_rng2 (by rfl) (M.free 4 rfl) (da_cons de_int (da_cons de_int da_nil))) (dg_name (i := 1) nd rfl (.inl rfl)) (dss_one (ds_if (dt_eq rfl hr (de_var (i := 0) rfl (.inl rfl)) (de_join (.cons de_str (.cons (de_fmt (de_var (i := 1) rfl (.inl rfl))) DJ.nil)))) (dss_one (ds_ret (de_var (i := 1) rfl (.inl rfl)))) dss_nil)))
  (dss_one (ds_ret de_int)))
theorem ok_shape_of (M : FactsL T mg) (B : LamsL T mg base) : DefOk T P mg base 2 dd_shape_of ["label"] f_shape_of := by
  obtain ⟨fd, F⟩ := M.def_ 15 (d := dd_shape_of) rfl
  have S : FnScope ["label"] ["label"] (defScope (top 12)) := ⟨rfl, rfl, rfl, by decide +kernel, rfl, by decide +kernel, by decide +kernel⟩
  have nd := S.nd
  exact def_ok F (M.glo 23 rfl) S (fun _ => fun _ _ _ _ _ _ us hl => match us, hl with | [_], _ => rfl) fun cdv hcd A outer s0 H0 E gd hr tk => (dss_cons (ds_if (dt_not (dt_val (de_isi rfl (by rfl) (M.free 20 rfl) (by rfl) (M.free 21 rfl) (by decide +kernel) (by decide) (de_var (i := 0) rfl (.inl rfl))))) (dss_one (ds_ret de_non)) dss_nil)
  (dss_cons (ds_if (dt_in rfl rfl (de_var (i := 0) rfl (.inl rfl)) (de_glob (by rfl) (M.glo 22 rfl) (show RelV (.ref _) _ from rfl) (fun io G => M.kd 0 0 rfl rfl rfl io G))) (dss_one (ds_ret (de_ixK rfl rfl (de_glob (by rfl) (M.glo 22 rfl) (show RelV (.ref _) _ from rfl) (fun io G => M.kd 0 0 rfl rfl rfl io G)) (de_var (i := 0) rfl (.inl rfl)) (fun _ _ => rfl)))) dss_nil)
  (dss_one (ds_ret (de_if (dt_gt (de_call (ok_bits_up M B) rfl rfl tk gd (hr.mono (by decide)) (by rfl) (da_cons (de_var (i := 0) rfl (.inl rfl)) da_nil) (hlen := (ar_cons ar_nil))) de_int) (de_tup (da_cons de_str (da_cons (de_tup (da_cons de_str da_nil)) da_nil))) de_non)))))
theorem ok_is_integer (M : FactsL T mg) (B : LamsL T mg base) : DefOk T P mg base 1 dd_is_integer ["value"] f_is_integer := by
  obtain ⟨fd, F⟩ := M.def_ 16 (d := dd_is_integer) rfl
  have S : FnScope ["value"] ["value"] (defScope (top 5)) := ⟨rfl, rfl, rfl, by decide +kernel, rfl, by decide +kernel, by decide +kernel⟩
  have nd := S.nd
  exact def_ok F (M.glo 25 rfl) S (fun _ => fun _ _ _ _ _ _ us hl => match us, hl with | [_], _ => rfl) fun cdv hcd A outer s0 H0 E gd hr tk => (dss_one (ds_ret (dv_and (de_isi rfl (by rfl) (M.free 20 rfl) (by rfl) (M.free 0 rfl) (by decide +kernel) (by decide) (de_var (i := 0) rfl (.inl rfl))) (dv_one (dv_not (de_isi rfl (by rfl) (M.free 20 rfl) (by rfl) (M.free 24 rfl) (by decide +kernel) (by decide) (de_var (i := 0) rfl (.inl rfl))))))))
theorem ok_is_within (M : FactsL T mg) (B : LamsL T mg base) : DefOk T P mg base 2 dd_is_within ["value", "least", "most"] f_is_within := by
  obtain ⟨fd, F⟩ := M.def_ 17 (d := dd_is_within) rfl
  have S : FnScope ["value", "least", "most"] ["value", "least", "most"] (defScope (top 6)) := ⟨rfl, rfl, rfl, by decide +kernel, rfl, by decide +kernel, by decide +kernel⟩
  have nd := S.nd
  exact def_ok F (M.glo 26 rfl) S (fun _ => fun _ _ _ _ _ _ us hl => match us, hl with | [_, _, _], _ => rfl) fun cdv hcd A outer s0 H0 E gd hr tk => (dss_cons (ds_if (dt_not (dt_val (de_call (ok_is_integer M B) rfl rfl tk gd (hr.mono (by decide)) (by rfl) (da_cons (de_var (i := 0) rfl (.inl rfl)) da_nil) (hlen := (ar_cons ar_nil))))) (dss_one (ds_ret de_bl)) dss_nil)
  (dss_cons (ds_if (dw_and (dt_isnot (de_var (i := 1) rfl (.inl rfl)) de_non) (dw_and1 (dt_lt (de_var (i := 0) rfl (.inl rfl)) (de_var (i := 1) rfl (.inl rfl))))).pt (dss_one (ds_ret de_bl)) dss_nil)
  (dss_one (ds_ret (dv_or (de_is (de_var (i := 2) rfl (.inl rfl)) de_non) (dv_one (de_le (de_var (i := 0) rfl (.inl rfl)) (de_var (i := 2) rfl (.inl rfl)))))))))
theorem ok_joined (M : FactsL T mg) (B : LamsL T mg base) : DefOk T P mg base 1 dd_joined ["label", "limit", "one", "other"] f_joined := by
  obtain ⟨fd, F⟩ := M.def_ 18 (d := dd_joined) rfl
  have S : FnScope ["label", "limit", "one", "other"] ["label", "limit", "one", "other"] (defScope (top 15)) := ⟨rfl, rfl, rfl, by decide +kernel, rfl, by decide +kernel, by decide +kernel⟩
  have nd := S.nd
  exact def_ok F (M.glo 27 rfl) S (fun _ => fun _ _ _ _ _ _ us hl => match us, hl with | [_, _, _, _], _ => rfl) fun cdv hcd A outer s0 H0 E gd hr tk => (dss_cons (ds_if (dt_eq rfl hr (de_var (i := 0) rfl (.inl rfl)) de_str) (dss_one (ds_ret (de_mod (de_add rfl (de_var (i := 2) rfl (.inl rfl)) (de_var (i := 3) rfl (.inl rfl))) (de_var (i := 1) rfl (.inl rfl))))) dss_nil)
  (dss_cons (ds_if (dt_eq rfl hr (de_var (i := 0) rfl (.inl rfl)) de_str) (dss_one (ds_ret (de_mod (de_sub (de_var (i := 2) rfl (.inl rfl)) (de_var (i := 3) rfl (.inl rfl))) (de_var (i := 1) rfl (.inl rfl))))) dss_nil)
  (dss_cons (ds_if (dt_eq rfl hr (de_var (i := 0) rfl (.inl rfl)) de_str) (dss_one (ds_ret (de_mod (de_mul (de_var (i := 2) rfl (.inl rfl)) (de_var (i := 3) rfl (.inl rfl))) (de_var (i := 1) rfl (.inl rfl))))) dss_nil)
  (dss_cons (ds_if (dt_eq rfl hr (de_var (i := 0) rfl (.inl rfl)) de_str) (dss_one (ds_ret (de_and_ (de_var (i := 2) rfl (.inl rfl)) (de_var (i := 3) rfl (.inl rfl))))) dss_nil)
  (dss_cons (ds_if (dt_eq rfl hr (de_var (i := 0) rfl (.inl rfl)) de_str) (dss_one (ds_ret (de_or_ (de_var (i := 2) rfl (.inl rfl)) (de_var (i := 3) rfl (.inl rfl))))) dss_nil)
  (dss_one (ds_ret (de_xor_ (de_var (i := 2) rfl (.inl rfl)) (de_var (i := 3) rfl (.inl rfl))))))))))
theorem ok_told_true (M : FactsL T mg) (B : LamsL T mg base) : DefOk T P mg base 1 dd_told_true ["label", "limit", "one", "other"] f_told_true := by
  obtain ⟨fd, F⟩ := M.def_ 19 (d := dd_told_true) rfl
  have S : FnScope ["label", "limit", "one", "other", "half"] ["label", "limit", "one", "other"] (defScope (top 16)) := ⟨rfl, rfl, rfl, by decide +kernel, rfl, by decide +kernel, by decide +kernel⟩
  have nd := S.nd
  exact def_ok F (M.glo 28 rfl) S (fun _ => fun _ _ _ _ _ _ us hl => match us, hl with | [_, _, _, _], _ => rfl) fun cdv hcd A outer s0 H0 E gd hr tk => (dss_cons (ds_if (dt_eq rfl hr (de_var (i := 0) rfl (.inl rfl)) de_str) (dss_one (ds_ret (dv_and (de_var (i := 2) rfl (.inl rfl)) (dv_one (de_var (i := 3) rfl (.inl rfl)))))) dss_nil)
  (dss_cons (ds_if (dt_eq rfl hr (de_var (i := 0) rfl (.inl rfl)) de_str) (dss_one (ds_ret (dv_or (de_var (i := 2) rfl (.inl rfl)) (dv_one (de_var (i := 3) rfl (.inl rfl)))))) dss_nil)
  (dss_cons (ds_if (dt_eq rfl hr (de_var (i := 0) rfl (.inl rfl)) de_str) (dss_one (ds_ret (de_eq rfl hr (de_var (i := 2) rfl (.inl rfl)) (de_var (i := 3) rfl (.inl rfl))))) dss_nil)
  (dss_cons (ds_if (dt_eq rfl hr (de_var (i := 0) rfl (.inl rfl)) de_str) (dss_one (ds_ret (de_lt (de_var (i := 2) rfl (.inl rfl)) (de_var (i := 3) rfl (.inl rfl))))) dss_nil)
  (dss_cons (ds_set (i := 4) nd rfl (.inl rfl) (de_div (de_var (i := 1) rfl (.inl rfl)) de_int))
  (dss_one (ds_ret (de_lt (de_mod (de_add rfl (de_var (i := 2) rfl (.inl rfl)) (de_var (i := 4) rfl (.inl rfl))) (de_var (i := 1) rfl (.inl rfl))) (de_mod (de_add rfl (de_var (i := 3) rfl (.inl rfl)) (de_var (i := 4) rfl (.inl rfl))) (de_var (i := 1) rfl (.inl rfl)))))))))))
theorem ok_made (M : FactsL T mg) (B : LamsL T mg base) : DefOk T P mg base 3 dd_made ["label", "limit", "values"] f_made := by
  obtain ⟨fd, F⟩ := M.def_ 20 (d := dd_made) rfl
  have S : FnScope ["label", "limit", "values", "first"] ["label", "limit", "values"] (defScope (top 14)) := ⟨rfl, rfl, rfl, by decide +kernel, rfl, by decide +kernel, by decide +kernel⟩
  have nd := S.nd
  exact def_ok F (M.glo 29 rfl) S (fun _ => fun _ _ _ _ _ _ us hl => match us, hl with | [_, _, _], _ => rfl) fun cdv hcd A outer s0 H0 E gd hr tk => (dss_cons (ds_set (i := 3) nd rfl (.inl rfl) (de_ixA rfl (de_var (i := 2) rfl (.inl rfl)) de_int (fun _ _ => rfl)))
  (dss_cons (ds_if (dt_eq rfl hr (de_var (i := 0) rfl (.inl rfl)) de_str) (dss_one (ds_ret (de_if (dt_val (de_var (i := 3) rfl (.inl rfl))) (de_ixA rfl (de_var (i := 2) rfl (.inl rfl)) de_int (fun _ _ => rfl)) (de_ixA rfl (de_var (i := 2) rfl (.inl rfl)) de_int (fun _ _ => rfl))))) dss_nil)
  (dss_cons (ds_if (dt_eq rfl hr (de_var (i := 0) rfl (.inl rfl)) de_str) (dss_one (ds_ret (de_mod (de_sub de_int (de_var (i := 3) rfl (.inl rfl))) (de_var (i := 1) rfl (.inl rfl))))) dss_nil)
  (dss_cons (ds_if (dt_eq rfl hr (de_var (i := 0) rfl (.inl rfl)) de_str) (dss_one (ds_ret (de_sub (de_sub (de_var (i := 1) rfl (.inl rfl)) de_int) (de_var (i := 3) rfl (.inl rfl))))) dss_nil)
  (dss_cons (ds_if (dt_eq rfl hr (de_var (i := 0) rfl (.inl rfl)) de_str) (dss_one (ds_ret (dv_not (de_var (i := 3) rfl (.inl rfl))))) dss_nil)
  (dss_cons (ds_if (dt_val (de_starts (de_var (i := 0) rfl (.inl rfl)) de_str)) (dss_one (ds_ret (de_mod (de_shl (de_var (i := 3) rfl (.inl rfl)) (de_call (ok_bits_up M B) rfl rfl tk gd (hr.mono (by decide)) (by rfl) (da_cons (de_var (i := 0) rfl (.inl rfl)) da_nil) (hlen := (ar_cons ar_nil)))) (de_var (i := 1) rfl (.inl rfl))))) dss_nil)
  (dss_cons (ds_if (dt_eq rfl hr (de_ixA rfl (de_call (ok_shape_of M B) rfl rfl tk gd (hr.mono (by decide)) (by rfl) (da_cons (de_var (i := 0) rfl (.inl rfl)) da_nil) (hlen := (ar_cons ar_nil))) de_int (fun _ _ => rfl)) de_str) (dss_one (ds_ret (de_call (ok_told_true M B) rfl rfl tk gd (hr.mono (by decide)) (by rfl) (da_cons (de_var (i := 0) rfl (.inl rfl)) (da_cons (de_var (i := 1) rfl (.inl rfl)) (da_cons (de_var (i := 3) rfl (.inl rfl)) (da_cons (de_ixA rfl (de_var (i := 2) rfl (.inl rfl)) de_int (fun _ _ => rfl)) da_nil)))) (hlen := (ar_cons (ar_cons (ar_cons (ar_cons ar_nil)))))))) dss_nil)
  (dss_one (ds_ret (de_call (ok_joined M B) rfl rfl tk gd (hr.mono (by decide)) (by rfl) (da_cons (de_var (i := 0) rfl (.inl rfl)) (da_cons (de_var (i := 1) rfl (.inl rfl)) (da_cons (de_var (i := 3) rfl (.inl rfl)) (da_cons (de_ixA rfl (de_var (i := 2) rfl (.inl rfl)) de_int (fun _ _ => rfl)) da_nil)))) (hlen := (ar_cons (ar_cons (ar_cons (ar_cons ar_nil)))))))))))))))
theorem ok_need_number (M : FactsL T mg) (B : LamsL T mg base) : DefOk T P mg base 3 dd_need_number ["value", "part", "least", "most"] f_need_number := by
  obtain ⟨fd, F⟩ := M.def_ 21 (d := dd_need_number) rfl
  have S : FnScope ["value", "part", "least", "most"] ["value", "part", "least", "most"] (defScope (top 7)) := ⟨rfl, rfl, rfl, by decide +kernel, rfl, by decide +kernel, by decide +kernel⟩
  have nd := S.nd
  exact def_ok F (M.glo 31 rfl) S (fun _ => fun _ _ _ _ _ _ us hl => match us, hl with | [_, _, _, _], _ => rfl) fun cdv hcd A outer s0 H0 E gd hr tk => (dss_one (ds_if (dt_not (dt_val (de_call (ok_is_within M B) rfl rfl tk gd (hr.mono (by decide)) (by rfl) (da_cons (de_var (i := 0) rfl (.inl rfl)) (da_cons (de_var (i := 2) rfl (.inl rfl)) (da_cons (de_var (i := 3) rfl (.inl rfl)) da_nil))) (hlen := (ar_cons (ar_cons (ar_cons ar_nil))))))) (dss_one (by obtain ⟨fdI, FI, hbI⟩ := init_BadNumber (P := P) (base := base) M; exact ds_raise1 (C := He.ga _ "BadNumber") (M.ca _) (M.ecl 1 rfl).1 (M.ecl 1 rfl).2.1 (M.ecl 1 rfl).2.2.1 FI (hr.mono (by decide)) hbI tk rfl (by rfl) (M.glo 30 rfl) (de_var (i := 1) rfl (.inl rfl)))) dss_nil))
theorem ok_need_width (M : FactsL T mg) (B : LamsL T mg base) : DefOk T P mg base 4 dd_need_width ["value"] f_need_width := by
  obtain ⟨fd, F⟩ := M.def_ 22 (d := dd_need_width) rfl
  have S : FnScope ["value"] ["value"] (defScope (top 8)) := ⟨rfl, rfl, rfl, by decide +kernel, rfl, by decide +kernel, by decide +kernel⟩
  have nd := S.nd
  exact def_ok F (M.glo 32 rfl) S (fun _ => fun _ _ _ _ _ _ us hl => match us, hl with | [_], _ => rfl) fun cdv hcd A outer s0 H0 E gd hr tk => (dss_one (ds_expr (de_call (ok_need_number M B) rfl rfl tk gd (hr.mono (by decide)) (by rfl) (da_cons (de_var (i := 0) rfl (.inl rfl)) (da_cons de_str (da_cons de_int (da_cons de_int da_nil)))) (hlen := (ar_cons (ar_cons (ar_cons (ar_cons ar_nil))))))))
theorem ok_worked (M : FactsL T mg) (B : LamsL T mg base) : DefOk T P mg base 5 dd_worked ["label", "width", "values"] f_worked := by
  obtain ⟨fd, F⟩ := M.def_ 23 (d := dd_worked) rfl
  have S : FnScope ["label", "width", "values", "shape", "limit", "kind", "value"] ["label", "width", "values"] (defScope (top 13)) := ⟨rfl, rfl, rfl, by decide +kernel, rfl, by decide +kernel, by decide +kernel⟩
  have nd := S.nd
  exact def_ok F (M.glo 36 rfl) S (fun _ => fun _ _ _ _ _ _ us hl => match us, hl with | [_, _, _], _ => rfl) fun cdv hcd A outer s0 H0 E gd hr tk => (dss_cons (ds_set (i := 3) nd rfl (.inl rfl) (de_call (ok_shape_of M B) rfl rfl tk gd (hr.mono (by decide)) (by rfl) (da_cons (de_var (i := 0) rfl (.inl rfl)) da_nil) (hlen := (ar_cons ar_nil))))
  (dss_cons (ds_if (dw_or (dt_is (de_var (i := 3) rfl (.inl rfl)) de_non) (dw_or1 (dt_eq rfl hr (de_var (i := 0) rfl (.inl rfl)) de_str))).pt (dss_one (by obtain ⟨fdI, FI, hbI⟩ := init_BadTerm (P := P) (base := base) M; exact ds_raise1 (C := He.ga _ "BadTerm") (M.ca _) (M.ecl 2 rfl).1 (M.ecl 2 rfl).2.1 (M.ecl 2 rfl).2.2.1 FI (hr.mono (by decide)) hbI tk rfl (by rfl) (M.glo 33 rfl) de_str)) dss_nil)
  (dss_cons (ds_expr (de_call (ok_need_width M B) rfl rfl tk gd (hr.mono (by decide)) (by rfl) (da_cons (de_var (i := 1) rfl (.inl rfl)) da_nil) (hlen := (ar_cons ar_nil))))
  (dss_cons (ds_if (dw_or (dt_not (dt_val (de_isi2 rfl (by rfl) (M.free 20 rfl) (by rfl) (M.free 34 rfl) (by decide +kernel) (by decide) (by rfl) (M.free 35 rfl) (by decide +kernel) (by decide) (de_var (i := 2) rfl (.inl rfl))))) (dw_or1 (dt_ne rfl hr (de_bi call_lenA (p_len rfl) (by rfl) (M.free 1 rfl) (by decide +kernel) (da_cons (de_var (i := 2) rfl (.inl rfl)) da_nil)) (de_bi call_lenA (p_len rfl) (by rfl) (M.free 1 rfl) (by decide +kernel) (da_cons (de_ixA rfl (de_var (i := 3) rfl (.inl rfl)) de_int (fun _ _ => rfl)) da_nil))))).pt (dss_one (by obtain ⟨fdI, FI, hbI⟩ := init_BadNumber (P := P) (base := base) M; exact ds_raise1 (C := He.ga _ "BadNumber") (M.ca _) (M.ecl 1 rfl).1 (M.ecl 1 rfl).2.1 (M.ecl 1 rfl).2.2.1 FI (hr.mono (by decide)) hbI tk rfl (by rfl) (M.glo 30 rfl) de_str)) dss_nil)
  (dss_cons (ds_set (i := 4) nd rfl (.inl rfl) (de_shl de_int (de_var (i := 1) rfl (.inl rfl))))
  (dss_cons (ds_for (passes_of rfl) rfl (di_zip rfl (by rfl) (M.free 6 rfl) (da_cons (de_ixA rfl (de_var (i := 3) rfl (.inl rfl)) de_int (fun _ _ => rfl)) (da_cons (de_var (i := 2) rfl (.inl rfl)) da_nil))) (dg_tup (n := 2) rfl rfl (dgs_cons (dg_name (i := 5) nd rfl (.inl rfl)) (dgs_cons (dg_name (i := 6) nd rfl (.inl rfl)) dgs_nil)) rfl tgs_len2) (dss_cons (ds_if (dw_and (dt_eq rfl hr (de_var (i := 5) rfl (.inl rfl)) de_str) (dw_and1 (dt_not (dt_val (de_isi rfl (by rfl) (M.free 20 rfl) (by rfl) (M.free 24 rfl) (by decide +kernel) (by decide) (de_var (i := 6) rfl (.inl rfl))))))).pt (dss_one (by obtain ⟨fdI, FI, hbI⟩ := init_BadNumber (P := P) (base := base) M; exact ds_raise1 (C := He.ga _ "BadNumber") (M.ca _) (M.ecl 1 rfl).1 (M.ecl 1 rfl).2.1 (M.ecl 1 rfl).2.2.1 FI (hr.mono (by decide)) hbI tk rfl (by rfl) (M.glo 30 rfl) de_str)) dss_nil)
  (dss_one (ds_if (dw_and (dt_eq rfl hr (de_var (i := 5) rfl (.inl rfl)) de_str) (dw_and1 (dt_not (dt_val (de_call (ok_is_within M B) rfl rfl tk gd (hr.mono (by decide)) (by rfl) (da_cons (de_var (i := 6) rfl (.inl rfl)) (da_cons de_int (da_cons (de_sub (de_var (i := 4) rfl (.inl rfl)) de_int) da_nil))) (hlen := (ar_cons (ar_cons (ar_cons ar_nil))))))))).pt (dss_one (by obtain ⟨fdI, FI, hbI⟩ := init_BadNumber (P := P) (base := base) M; exact ds_raise1 (C := He.ga _ "BadNumber") (M.ca _) (M.ecl 1 rfl).1 (M.ecl 1 rfl).2.1 (M.ecl 1 rfl).2.2.1 FI (hr.mono (by decide)) hbI tk rfl (by rfl) (M.glo 30 rfl) de_str)) dss_nil))))
  (dss_one (ds_ret (de_call (ok_made M B) rfl rfl tk gd (hr.mono (by decide)) (by rfl) (da_cons (de_var (i := 0) rfl (.inl rfl)) (da_cons (de_var (i := 4) rfl (.inl rfl)) (da_cons (de_var (i := 2) rfl (.inl rfl)) da_nil))) (hlen := (ar_cons (ar_cons (ar_cons ar_nil)))))))))))))
theorem ok__law_label_right (M : FactsL T mg) (B : LamsL T mg base) : DefOk T P mg base 6 dd__law_label_right ["_law_tray_here", "_law_label"] f__law_label_right := by
  obtain ⟨fd, F⟩ := M.def_ 24 (d := dd__law_label_right) rfl
  have S : FnScope ["_law_tray_here", "_law_label", "_law_truths", "_law_width", "_law_limit", "_law_parts_here", "_law_kept", "_law_told", "_law_bits_here", "_law_part"] ["_law_tray_here", "_law_label"] (defScope (top 34)) := ⟨rfl, rfl, rfl, by decide +kernel, rfl, by decide +kernel, by decide +kernel⟩
  have nd := S.nd
  exact def_ok F (M.glo 38 rfl) S (fun _ => fun _ _ _ _ _ _ us hl => match us, hl with | [_, _], _ => rfl) fun cdv hcd A outer s0 H0 E gd hr tk => (dss_cons (ds_set (i := 2) nd rfl (.inl rfl) (de_in rfl rfl (de_var (i := 1) rfl (.inl rfl)) (de_tup (da_cons de_str (da_cons de_str (da_cons de_str (da_cons de_str (da_cons de_str (da_cons de_str da_nil)))))))))
  (dss_cons (ds_if (dt_ne rfl hr (de_bi (call_reprA gd hr) (p_repr rfl) (by rfl) (M.free 37 rfl) (by decide +kernel) (da_cons (de_callK (ps := ["label"]) (n := 0) (ks := ["label"]) (idx := [0]) (dz := []) (ok_shape_of M B) rfl rfl tk gd (hr.mono (by decide)) (by rfl) (fun _ _ _ _ _ _ _ us its ws h1 h2 h3 => match us, its, ws, h1, h2, h3 with | [], [], [_], _, _, _ => ⟨fun _ => rfl, fun h => absurd rfl h⟩) (fun _ _ => .nil) da_nil (dk_cons (de_var (i := 1) rfl (.inl rfl)) dk_nil) ar_nil (ar_cons ar_nil) (fun l hl => match l, hl with | [_], _ => rfl) (.inl ⟨rfl, rfl⟩)) da_nil)) (de_bi (call_reprA gd hr) (p_repr rfl) (by rfl) (M.free 37 rfl) (by decide +kernel) (da_cons (de_tup (da_cons (de_if (dt_val (de_var (i := 2) rfl (.inl rfl))) de_str de_str) (da_cons (de_call (ok__law_kinds M B) rfl rfl tk gd (hr.mono (by decide)) (by rfl) (da_cons (de_var (i := 1) rfl (.inl rfl)) da_nil) (hlen := (ar_cons ar_nil))) da_nil))) da_nil))) (dss_one (ds_ret de_bl)) dss_nil)
  (dss_cons (ds_if (dt_eq rfl hr (de_var (i := 1) rfl (.inl rfl)) de_str) (dss_one (ds_ret de_bl)) dss_nil)
  (dss_cons (ds_set (i := 3) nd rfl (.inr rfl) (de_call (ok__law_take M B) rfl rfl tk gd (hr.mono (by decide)) (by rfl) (da_cons (de_var (i := 0) rfl (.inl rfl)) (da_cons (de_if (dt_eq rfl hr (de_var (i := 1) rfl (.inl rfl)) de_str) (de_sh (df_lst (da_cons de_int (da_cons de_int (da_cons de_int (da_cons de_int (da_cons de_int (da_cons de_int (da_cons de_int da_nil))))))))) (de_sh (df_lst (da_cons de_int (da_cons de_int (da_cons de_int (da_cons de_int (da_cons de_int (da_cons de_int (da_cons (de_add rfl de_int (de_call (ok__law_dip M B) rfl rfl tk gd (hr.mono (by decide)) (by rfl) (da_cons (de_var (i := 0) rfl (.inl rfl)) (da_cons de_int da_nil)) (hlen := (ar_cons (ar_cons ar_nil))))) (da_cons de_int da_nil))))))))))) da_nil)) (hlen := (ar_cons (ar_cons ar_nil)))))
  (dss_cons (ds_set (i := 4) nd rfl (.inl rfl) (de_shl de_int (de_var (i := 3) rfl (.inr (.inl rfl)))))
  (dss_cons (ds_own (i := 5) nd rfl (.inl rfl) (df_call (ok__law_parts M B) rfl rfl tk gd (hr.mono (by decide)) (by rfl) (da_cons (de_var (i := 0) rfl (.inl rfl)) (da_cons (de_var (i := 1) rfl (.inl rfl)) (da_cons (de_var (i := 4) rfl (.inl rfl)) da_nil))) (hlen := (ar_cons (ar_cons (ar_cons ar_nil))))))
  (dss_cons (ds_if (dt_eq rfl hr (de_call (ok__law_dip M B) rfl rfl tk gd (hr.mono (by decide)) (by rfl) (da_cons (de_var (i := 0) rfl (.inl rfl)) (da_cons de_int da_nil)) (hlen := (ar_cons (ar_cons ar_nil)))) de_int) (dss_one (ds_setO (i := 5) rfl (.inl rfl) (de_if (dt_eq rfl hr (de_biB (i := 5) call_lenA (p_len rfl) (by rfl) (M.free 1 rfl) (by decide +kernel) rfl (.inl rfl)) de_int) (de_ixB (i := 5) rfl rfl (.inl rfl) (de_neg de_int) (fun _ _ => rfl)) (de_ixB (i := 5) rfl rfl (.inl rfl) (de_neg de_int) (fun _ _ => rfl))) (de_neg de_int))) dss_nil)
  (dss_cons (ds_set (i := 6) nd rfl (.inl rfl) (de_ty (id := "list") call_list_of (p_list rfl) (by rfl) (M.free 34 rfl) (by decide +kernel) (da_cons (de_var (i := 5) rfl (.inl rfl)) da_nil)))
  (dss_cons (ds_set (i := 7) nd rfl (.inl rfl) (de_callK (ps := ["label", "width", "values"]) (n := 0) (ks := ["label", "width", "values"]) (idx := [0, 1, 2]) (dz := []) (ok_worked M B) rfl rfl tk gd (hr.mono (by decide)) (by rfl) (fun _ _ _ _ _ _ _ us its ws h1 h2 h3 => match us, its, ws, h1, h2, h3 with | [], [], [_, _, _], _, _, _ => ⟨fun _ => rfl, fun h => absurd rfl h⟩) (fun _ _ => .nil) da_nil (dk_cons (de_var (i := 1) rfl (.inl rfl)) (dk_cons (de_var (i := 3) rfl (.inr (.inl rfl))) (dk_cons (de_call (ok__law_take M B) rfl rfl tk gd (hr.mono (by decide)) (by rfl) (da_cons (de_var (i := 0) rfl (.inl rfl)) (da_cons (de_sh (df_lst (da_cons (de_var (i := 5) rfl (.inl rfl)) (da_cons (de_ty (id := "tuple") call_tuple_of (p_tuple rfl) (by rfl) (M.free 35 rfl) (by decide +kernel) (da_cons (de_var (i := 5) rfl (.inl rfl)) da_nil)) da_nil)))) da_nil)) (hlen := (ar_cons (ar_cons ar_nil)))) dk_nil))) ar_nil (ar_cons (ar_cons (ar_cons ar_nil))) (fun l hl => match l, hl with | [_, _, _], _ => rfl) (.inl ⟨rfl, rfl⟩)))
  (dss_cons (ds_setComp (f := fun _ => sNx) (i := 8) rfl nd rfl rfl rfl (own := [("_law_part", 9)]) (di_seq rfl (de_var (i := 6) rfl (.inl rfl))) (blkOk_of (by rfl)) (by decide) (fun s H C cl fp => (dg_name (i := 9) nd rfl (.inl rfl))) (fun s H C cl fp => dts_nil) (fun s H C cl fp => (de_if (dt_val (de_isi rfl (by rfl) (M.free 20 rfl) (by rfl) (M.free 24 rfl) (by decide +kernel) (by decide) (de_var (i := 9) rfl (.inl rfl)))) (de_var (i := 9) rfl (.inl rfl)) (de_call (ok__law_bits M B) rfl rfl takes0 gd (hr.mono (by decide)) (by rfl) (da_cons (de_var (i := 9) rfl (.inl rfl)) (da_cons (de_var (i := 3) rfl (.inr (.inl rfl))) da_nil)) (hlen := (ar_cons (ar_cons ar_nil)))))))
  (dss_cons (ds_if (dw_or (dt_cmpB (i := 5) (op_neA hr.units) (p_ne rfl) rfl (.inl rfl) (de_var (i := 6) rfl (.inl rfl)) (nomark _)) (dw_or1 (dt_ne rfl hr (de_bi (call_reprA gd hr) (p_repr rfl) (by rfl) (M.free 37 rfl) (by decide +kernel) (da_cons (de_var (i := 5) rfl (.inl rfl)) da_nil)) (de_bi (call_reprA gd hr) (p_repr rfl) (by rfl) (M.free 37 rfl) (by decide +kernel) (da_cons (de_var (i := 6) rfl (.inl rfl)) da_nil))))).pt (dss_one (ds_ret de_bl)) dss_nil)
  (dss_cons (ds_if (dt_val (de_var (i := 2) rfl (.inl rfl))) (dss_one (ds_ret (dv_and (de_isi rfl (by rfl) (M.free 20 rfl) (by rfl) (M.free 24 rfl) (by decide +kernel) (by decide) (de_var (i := 7) rfl (.inl rfl))) (dv_one (de_eq rfl hr (de_var (i := 7) rfl (.inl rfl)) (de_call (ok__law_truth M B) rfl rfl tk gd (hr.mono (by decide)) (by rfl) (da_cons (de_var (i := 1) rfl (.inl rfl)) (da_cons (de_var (i := 8) rfl (.inl rfl)) da_nil)) (hlen := (ar_cons (ar_cons ar_nil))))))))) dss_nil)
  (dss_one (ds_ret (dv_and (de_isi rfl (by rfl) (M.free 20 rfl) (by rfl) (M.free 0 rfl) (by decide +kernel) (by decide) (de_var (i := 7) rfl (.inl rfl))) (dv_and (dv_not (de_isi rfl (by rfl) (M.free 20 rfl) (by rfl) (M.free 24 rfl) (by decide +kernel) (by decide) (de_var (i := 7) rfl (.inl rfl)))) (dv_one (de_eq rfl hr (de_var (i := 7) rfl (.inl rfl)) (de_call (ok__law_number M B) rfl rfl tk gd (hr.mono (by decide)) (by rfl) (da_cons (de_call (ok__law_due M B) rfl rfl tk gd (hr.mono (by decide)) (by rfl) (da_cons (de_var (i := 1) rfl (.inl rfl)) (da_cons (de_var (i := 8) rfl (.inl rfl)) da_nil)) (hlen := (ar_cons (ar_cons ar_nil)))) da_nil) (hlen := (ar_cons ar_nil)))))))))))))))))))))
theorem ok__law_heard (M : FactsL T mg) (B : LamsL T mg base) : LamOk T P mg base "_law_heard" ["_law_ask"] 0 f__law_heard := by
  obtain ⟨fd, F⟩ := M.def_ 25 (d := dd__law_heard) rfl
  have S : FnScope ["_law_ask", "_law_caught", "error"] ["_law_ask"] (defScope (top 32)) := ⟨rfl, rfl, rfl, by decide +kernel, rfl, by decide +kernel, by decide +kernel⟩
  have nd := S.nd
  exact lam_ok (m := m__law_heard) F (M.glo 40 rfl) S (by decide) (fun _ _ _ _ _ _ us hl => match us, hl with | [_], _ => rfl) fun cdv A outer s0 H0 E f io G kl th gd hr act tk => by
    have M : FactsL (T.at_ io G f) mg := ⟨M.ca, M.x⟩
    exact (dss_cons (ds_set (i := 1) nd rfl (.inl rfl) de_non)
  (dss_cons (ds_try (i := 2) (j := 1) (subs := [("BadNumber", true), ("BadTerm", true)]) rfl rfl rfl nd rfl rfl rfl rfl rfl rfl (by decide) rfl (by rfl) (by decide) (M.glo 39 rfl) tk (fun c b e => ((M.tree 3 rfl).2 c b e).2) (fun W1 pn xe tk po => (de_ask (i := 0) act rfl rfl (.inl rfl) gd (hr.mono (by omega)) tk da_nil ar_nil (hsp := (.inl rfl)))) (fun _ _ => rfl) (fun _ _ => rfl))
  (dss_cons (ds_if (dt_val (de_isx (tbl := [("BadNumber", true), ("BadTerm", false)]) rfl (by rfl) (M.free 20 rfl) (by rfl) (M.glo 30 rfl) (M.tree 4 rfl).1 (fun c b e => ((M.tree 4 rfl).2 c b e).1) (de_var (i := 1) rfl (.inl rfl)))) (dss_one (ds_ret (de_tup (da_cons de_str (da_cons (de_fld rfl (M.fld 5 rfl) (de_var (i := 1) rfl (.inl rfl))) da_nil))))) dss_nil)
  (dss_cons (ds_if (dt_val (de_isx (tbl := [("BadNumber", false), ("BadTerm", true)]) rfl (by rfl) (M.free 20 rfl) (by rfl) (M.glo 33 rfl) (M.tree 6 rfl).1 (fun c b e => ((M.tree 6 rfl).2 c b e).1) (de_var (i := 1) rfl (.inl rfl)))) (dss_one (ds_ret (de_tup (da_cons de_str (da_cons (de_fld rfl (M.fld 5 rfl) (de_var (i := 1) rfl (.inl rfl))) da_nil))))) dss_nil)
  (dss_one (ds_ret (de_if (dt_is (de_var (i := 1) rfl (.inl rfl)) de_non) de_non (de_tup (da_cons de_str (da_cons de_non da_nil))))))))))
theorem ok__law_refused_right (M : FactsL T mg) (B : LamsL T mg base) : DefOk T P mg base 10 dd__law_refused_right ["_law_tray_here", "_law_label"] f__law_refused_right := by
  obtain ⟨fd, F⟩ := M.def_ 26 (d := dd__law_refused_right) rfl
  have S : FnScope ["_law_tray_here", "_law_label", "_law_odd", "_law_strange", "_law_width", "_law_wide", "_law_limit", "_law_parts_here", "_law_spot", "_law_bad", "_law_wrong", "_law_heard_here", "_law_due_here", "_law_turn"] ["_law_tray_here", "_law_label"] (defScope (top 35)) := ⟨rfl, rfl, rfl, by decide +kernel, rfl, by decide +kernel, by decide +kernel⟩
  have nd := S.nd
  exact def_ok F (M.glo 41 rfl) S (fun _ => fun _ _ _ _ _ _ us hl => match us, hl with | [_, _], _ => rfl) fun cdv hcd A outer s0 H0 E gd hr tk => (dss_cons (ds_set (i := 2) nd rfl (.inl rfl) (de_sh (df_lst (da_cons de_str (da_cons de_str (da_cons de_str (da_cons de_str (da_cons de_str (da_cons de_str (da_cons de_str (da_cons de_str (da_cons de_str (da_cons de_str (da_cons de_str (da_cons de_str (da_cons de_str (da_cons de_str (da_cons de_str (da_cons de_str da_nil)))))))))))))))))))
  (dss_cons (ds_set (i := 2) nd rfl (.inl rfl) (de_add rfl (de_var (i := 2) rfl (.inl rfl)) (de_sh (df_lst (da_cons de_str (da_cons de_str (da_cons de_str (da_cons de_str (da_cons de_str (da_cons de_non (da_cons de_bl (da_cons de_int (da_cons de_int (da_cons (de_tup (da_cons de_str da_nil)) (da_cons (de_sh (df_lst (da_cons de_str da_nil))) (da_cons de_dic0 da_nil))))))))))))))))
  (dss_cons (ds_asg (de_tup (da_cons (de_call (ok__law_take M B) rfl rfl tk gd (hr.mono (by decide)) (by rfl) (da_cons (de_var (i := 0) rfl (.inl rfl)) (da_cons (de_var (i := 2) rfl (.inl rfl)) da_nil)) (hlen := (ar_cons (ar_cons ar_nil)))) (da_cons (de_call (ok__law_take M B) rfl rfl tk gd (hr.mono (by decide)) (by rfl) (da_cons (de_var (i := 0) rfl (.inl rfl)) (da_cons (de_sh (df_lst (da_cons de_int (da_cons de_int (da_cons de_int da_nil))))) da_nil)) (hlen := (ar_cons (ar_cons ar_nil)))) da_nil))) (dg_tup (n := 2) rfl rfl (dgs_cons (dg_name (i := 3) nd rfl (.inr rfl)) (dgs_cons (dg_name (i := 4) nd rfl (.inr rfl)) dgs_nil)) rfl tgs_len2))
  (dss_cons (ds_set (i := 5) nd rfl (.inr rfl) (de_call (ok__law_take M B) rfl rfl tk gd (hr.mono (by decide)) (by rfl) (da_cons (de_var (i := 0) rfl (.inl rfl)) (da_cons (de_sh (df_lst (da_cons de_int (da_cons de_int (da_cons (de_neg de_int) (da_cons de_non (da_cons de_bl (da_cons de_str da_nil)))))))) da_nil)) (hlen := (ar_cons (ar_cons ar_nil)))))
  (dss_cons (ds_set (i := 6) nd rfl (.inl rfl) (de_shl de_int (de_var (i := 4) rfl (.inr (.inl rfl)))))
  (dss_cons (ds_set (i := 7) nd rfl (.inr rfl) (de_call (ok__law_parts M B) rfl rfl tk gd (hr.mono (by decide)) (by rfl) (da_cons (de_var (i := 0) rfl (.inl rfl)) (da_cons (de_var (i := 1) rfl (.inr (.inl rfl))) (da_cons (de_var (i := 6) rfl (.inl rfl)) da_nil))) (hlen := (ar_cons (ar_cons (ar_cons ar_nil))))))
  (dss_cons (ds_set (i := 8) nd rfl (.inl rfl) (de_call (ok__law_dip M B) rfl rfl tk gd (hr.mono (by decide)) (by rfl) (da_cons (de_var (i := 0) rfl (.inl rfl)) (da_cons (de_bi call_lenA (p_len rfl) (by rfl) (M.free 1 rfl) (by decide +kernel) (da_cons (de_var (i := 7) rfl (.inr (.inl rfl))) da_nil)) da_nil)) (hlen := (ar_cons (ar_cons ar_nil)))))
  (dso_new (i := 9) (p := 7) (t := 13) rfl rfl nd rfl rfl rfl (by decide) rfl (by decide) rfl (by rfl) (M.free 4 rfl) (M.free 34 rfl) (blkOk_of (by rfl)) (fun s H C cl fp => pg_name (i := 13) nd rfl (.inl rfl)) (fun s H C cl fp => pe_callTy call_list_of (by rfl) (M.free 34 rfl) (by decide +kernel) (pa_cons (pe_var (i := 7) rfl (.inr (.inl rfl))) pa_nil)) (dso_set (i := 9) rfl (.inl rfl) (de_if (dt_eq rfl hr (de_ixA rfl (de_call (ok__law_kinds M B) rfl rfl tk gd (hr.mono (by decide)) (by rfl) (da_cons (de_var (i := 1) rfl (.inr (.inl rfl))) da_nil) (hlen := (ar_cons ar_nil))) (de_var (i := 8) rfl (.inl rfl)) (fun _ _ => rfl)) de_str) (de_call (ok__law_take M B) rfl rfl tk gd (hr.mono (by decide)) (by rfl) (da_cons (de_var (i := 0) rfl (.inl rfl)) (da_cons (de_sh (df_lst (da_cons (de_var (i := 6) rfl (.inl rfl)) (da_cons (de_neg de_int) (da_cons de_non (da_cons de_bl (da_cons de_str (da_cons (de_sh (df_lst (da_cons de_int da_nil))) da_nil)))))))) da_nil)) (hlen := (ar_cons (ar_cons ar_nil)))) (de_call (ok__law_take M B) rfl rfl tk gd (hr.mono (by decide)) (by rfl) (da_cons (de_var (i := 0) rfl (.inl rfl)) (da_cons (de_sh (df_lst (da_cons de_int (da_cons de_int (da_cons de_non (da_cons de_str da_nil)))))) da_nil)) (hlen := (ar_cons (ar_cons ar_nil))))) (de_var (i := 8) rfl (.inl rfl)) (dso_app (i := 9) rfl rfl (.inl rfl) (de_call (ok__law_take M B) rfl rfl tk gd (hr.mono (by decide)) (by rfl) (da_cons (de_var (i := 0) rfl (.inl rfl)) (da_cons (de_sh (df_lst (da_cons de_int (da_cons de_bl (da_cons de_non da_nil))))) da_nil)) (hlen := (ar_cons (ar_cons ar_nil)))) (dso_pop (i := 9) rfl rfl (.inl rfl) (dso_end (i := 9) (dss_cons (ds_set (i := 10) nd rfl (.inr rfl) (de_call (ok__law_take M B) rfl rfl tk gd (hr.mono (by decide)) (by rfl) (da_cons (de_var (i := 0) rfl (.inl rfl)) (da_cons (de_sh (df_lst (da_cons (de_ixA rfl (de_var (i := 9) rfl (.inl rfl)) de_int (fun _ _ => rfl)) (da_cons (de_ixA rfl (de_var (i := 9) rfl (.inl rfl)) de_int (fun _ _ => rfl)) (da_cons (de_ty (id := "tuple") call_tuple_of (p_tuple rfl) (by rfl) (M.free 35 rfl) (by decide +kernel) (da_cons (de_ixA rfl (de_var (i := 9) rfl (.inl rfl)) de_int (fun _ _ => rfl)) da_nil)) (da_cons (de_ixA rfl (de_var (i := 9) rfl (.inl rfl)) de_int (fun _ _ => rfl)) (da_cons de_non (da_cons de_int (da_cons de_str (da_cons (de_dispK (dq_cons (k := (.inl 0)) pe_int de_int dq_nil) (by decide) (by simp) (by decide)) da_nil)))))))))) da_nil)) (hlen := (ar_cons (ar_cons ar_nil)))))
  (dss_cons (ds_if (dt_isnot (de_call (ok_shape_of M B) rfl rfl tk gd (hr.mono (by decide)) (by rfl) (da_cons (de_var (i := 3) rfl (.inr (.inl rfl))) da_nil) (hlen := (ar_cons ar_nil))) de_non) (dss_one (ds_ret de_bl)) dss_nil)
  (dss_cons (ds_own (i := 11) nd rfl (.inl rfl) (df_lst (da_cons (de_lam (ps := ["_law_ask"]) (kl := 6) (lps := []) (ms := []) (ok__law_heard M B) rfl rfl tk gd (hr.mono (by decide)) (by rfl) (B.tab 0 rfl) hcd.is (B.mem 0 rfl rfl) (B.un 0 rfl rfl) rfl dfl_nil (fun _ _ => .nil) (lamP_by (by rfl)) (fun _ _ _ _ _ us its h1 h2 => match us, its, h1, h2 with | [], [], _, _ => ⟨fun _ => rfl, fun _ => ⟨_, rfl, rfl⟩⟩) rfl (fun A outer s1 HZ E f c1 gd hr tk => (de_call (ok_worked M B) rfl rfl tk gd (hr.mono (by decide)) (by rfl) (da_cons (de_var (i := 3) rfl (.inr (.inr rfl))) (da_cons (de_var (i := 5) rfl (.inr (.inr rfl))) (da_cons (de_var (i := 10) rfl (.inr (.inr rfl))) da_nil))) (hlen := (ar_cons (ar_cons (ar_cons ar_nil))))))) (da_cons (de_lam (ps := ["_law_ask"]) (kl := 6) (lps := ["_law_a1"]) (ms := []) (ok__law_heard M B) rfl rfl tk gd (hr.mono (by decide)) (by rfl) (B.tab 0 rfl) hcd.is (B.mem 0 rfl rfl) (B.un 0 rfl rfl) rfl (dfl_cons pe_int dfl_nil) (fun _ _ => .cons (.int 0) (.nil)) (lamP_by (by rfl)) (fun _ _ _ _ _ us its h1 h2 => match us, its, h1, h2 with | [], [_], _, _ => ⟨fun h => (nomatch h), fun _ => ⟨_, rfl, rfl⟩⟩) rfl (fun A outer s1 HZ E f c1 gd hr tk => (de_call (ok_worked M B) rfl rfl tk gd (hr.mono (by decide)) (by rfl) (da_cons (de_var (i := 1) rfl (.inr (.inr rfl))) (da_cons (de_var (i := 5) rfl (.inr (.inr rfl))) (da_cons (de_var (i := 10) rfl (.inr (.inr rfl))) da_nil))) (hlen := (ar_cons (ar_cons (ar_cons ar_nil))))))) da_nil))))
  (dss_cons (ds_app (i := 11) rfl rfl (.inl rfl) (de_lam (ps := ["_law_ask"]) (kl := 6) (lps := []) (ms := []) (ok__law_heard M B) rfl rfl tk gd (hr.mono (by decide)) (by rfl) (B.tab 0 rfl) hcd.is (B.mem 0 rfl rfl) (B.un 0 rfl rfl) rfl dfl_nil (fun _ _ => .nil) (lamP_by (by rfl)) (fun _ _ _ _ _ us its h1 h2 => match us, its, h1, h2 with | [], [], _, _ => ⟨fun _ => rfl, fun _ => ⟨_, rfl, rfl⟩⟩) rfl (fun A outer s1 HZ E f c1 gd hr tk => (de_call (ok_worked M B) rfl rfl tk gd (hr.mono (by decide)) (by rfl) (da_cons (de_var (i := 1) rfl (.inr (.inr rfl))) (da_cons (de_var (i := 4) rfl (.inr (.inr rfl))) (da_cons (de_var (i := 10) rfl (.inr (.inr rfl))) da_nil))) (hlen := (ar_cons (ar_cons (ar_cons ar_nil))))))))
  (dss_cons (ds_set (i := 12) nd rfl (.inl rfl) (de_sh (df_lst (da_cons (de_tup (da_cons de_str (da_cons de_str da_nil))) (da_cons (de_tup (da_cons de_str (da_cons de_str da_nil))) (da_cons (de_tup (da_cons de_str (da_cons de_str da_nil))) da_nil))))))
  (dss_cons (ds_if (dt_eq rfl hr (de_var (i := 1) rfl (.inr (.inl rfl))) de_str) (dss_one (ds_set (i := 12) nd rfl (.inl rfl) (de_sh (df_lst (da_cons (de_tup (da_cons de_str (da_cons de_str da_nil))) (da_cons (de_tup (da_cons de_str (da_cons de_str da_nil))) (da_cons (de_tup (da_cons de_str (da_cons de_str da_nil))) da_nil))))))) dss_nil)
  (dss_one (ds_ret (dv_and (de_eq rfl hr (de_var (i := 11) rfl (.inl rfl)) (de_var (i := 12) rfl (.inl rfl))) (dv_one (dv_or (de_eq rfl hr (de_var (i := 1) rfl (.inr (.inl rfl))) de_str) (dv_one (de_is (de_lam (ps := ["_law_ask"]) (kl := 6) (lps := []) (ms := []) (ok__law_heard M B) rfl rfl tk gd (hr.mono (by decide)) (by rfl) (B.tab 0 rfl) hcd.is (B.mem 0 rfl rfl) (B.un 0 rfl rfl) rfl dfl_nil (fun _ _ => .nil) (lamP_by (by rfl)) (fun _ _ _ _ _ us its h1 h2 => match us, its, h1, h2 with | [], [], _, _ => ⟨fun _ => rfl, fun _ => ⟨_, rfl, rfl⟩⟩) rfl (fun A outer s1 HZ E f c1 gd hr tk => (de_call (ok_worked M B) rfl rfl tk gd (hr.mono (by decide)) (by rfl) (da_cons (de_var (i := 1) rfl (.inr (.inr rfl))) (da_cons (de_var (i := 4) rfl (.inr (.inr rfl))) (da_cons (de_var (i := 7) rfl (.inr (.inr rfl))) da_nil))) (hlen := (ar_cons (ar_cons (ar_cons ar_nil))))))) de_non)))))))))))))))))))))))))
theorem ok__law_tray (M : FactsL T mg) (B : LamsL T mg base) : DefOk T P mg base 1 dd__law_tray ["_law_script"] f__law_tray := by
  obtain ⟨fd, F⟩ := M.def_ 27 (d := dd__law_tray) rfl
  have S : FnScope ["_law_script", "_law_cell"] ["_law_script"] (defScope (top 18)) := ⟨rfl, rfl, rfl, by decide +kernel, rfl, by decide +kernel, by decide +kernel⟩
  have nd := S.nd
  exact def_ok F (M.glo 42 rfl) S (fun _ => fun _ _ _ _ _ _ us hl => match us, hl with | [_], _ => rfl) fun cdv hcd A outer s0 H0 E gd hr tk => (dss_one (ds_retF (df_lst (da_cons (de_sh (df_comp rfl nd (own := [("_law_cell", 1)]) (di_seq rfl (de_sl rfl (de_var (i := 0) rfl (.inl rfl)) dp_none (dp_some de_int))) (blkOk_of (by rfl)) (by decide) (fun s H C cl fp => (dg_name (i := 1) nd rfl (.inl rfl))) (fun s H C cl fp => dts_nil) (fun s H C cl fp => (de_ty (id := "int") call_intA p_int (by rfl) (M.free 0 rfl) (by decide +kernel) (da_cons (de_var (i := 1) rfl (.inl rfl)) da_nil))))) (da_cons de_int (da_cons de_int da_nil))))))
theorem fnG_law {fd : FuncData} (M : FactsL T mg) (B : LamsL T mg base) (F : FunD T.K dd_law.name dd_law.qual dd_law.params dd_law.body dd_law.scope (dd_law.dvs T.K) (dd_law.kws T.K) (He.fAd T.K dd_law.at_) fd) : FnG P T.w T.K mg base (L2.CX P T.w) 11 (He.fAd T.K dd_law.at_) fd ["_law_script"] (spD T 1 f_law) := by
  have S : FnScope ["_law_script", "_law_tray_here", "_law_labels", "_law_shifts", "_law_label", "_law_lap"] ["_law_script"] (defScope (top 36)) := ⟨rfl, rfl, rfl, by decide +kernel, rfl, by decide +kernel, by decide +kernel⟩
  have nd := S.nd
  exact def_okG F S fun cdv hcd A outer s0 H0 E gd hr tk => (dss_cons (ds_box (i := 1) nd rfl (.inl rfl) (df_call (ok__law_tray M B) rfl rfl tk gd (hr.mono (by decide)) (by rfl) (da_cons (de_var (i := 0) rfl (.inl rfl)) da_nil) (hlen := (ar_cons ar_nil))))
  (dss_cons (ds_set (i := 2) nd rfl (.inl rfl) (de_sh (df_lst (da_cons de_str (da_cons de_str (da_cons de_str (da_cons de_str (da_cons de_str (da_cons de_str (da_cons de_str (da_cons de_str (da_cons de_str (da_cons de_str (da_cons de_str (da_cons de_str (da_cons de_str (da_cons de_str (da_cons de_str (da_cons de_str da_nil)))))))))))))))))))
  (dss_cons (ds_set (i := 3) nd rfl (.inl rfl) (de_sh (df_lst (da_cons (de_join (.cons de_str (.cons (de_fmt (de_add rfl de_int (de_call (ok__law_dip M B) rfl rfl tk gd (hr.mono (by decide)) (by rfl) (da_cons (de_var (i := 1) rfl (.inl rfl)) (da_cons de_int da_nil)) (hlen := (ar_cons (ar_cons ar_nil)))))) DJ.nil))) (da_cons (de_join (.cons de_str (.cons (de_fmt (de_call (ok__law_take M B) rfl rfl tk gd (hr.mono (by decide)) (by rfl) (da_cons (de_var (i := 1) rfl (.inl rfl)) (da_cons (de_sh (df_lst (da_cons de_int (da_cons de_int (da_cons de_int (da_cons de_int (da_cons de_int da_nil))))))) da_nil)) (hlen := (ar_cons (ar_cons ar_nil))))) DJ.nil))) (da_cons (de_join (.cons de_str (.cons (de_fmt (de_add rfl de_int (de_call (ok__law_dip M B) rfl rfl tk gd (hr.mono (by decide)) (by rfl) (da_cons (de_var (i := 1) rfl (.inl rfl)) (da_cons de_int da_nil)) (hlen := (ar_cons (ar_cons ar_nil)))))) DJ.nil))) da_nil))))))
  (dss_cons (ds_for (passes_of rfl) rfl (di_seq rfl (de_add rfl (de_add rfl (de_var (i := 2) rfl (.inl rfl)) (de_var (i := 3) rfl (.inl rfl))) (de_sh (df_lst (da_cons de_str (da_cons de_str (da_cons de_str (da_cons de_str da_nil)))))))) (dg_name (i := 4) nd rfl (.inl rfl)) (dss_one (ds_if (dt_not (dt_val (de_call (ok__law_label_right M B) rfl rfl tk gd (hr.mono (by decide)) (by rfl) (da_cons (de_var (i := 1) rfl (.inl rfl)) (da_cons (de_var (i := 4) rfl (.inl rfl)) da_nil)) (hlen := (ar_cons (ar_cons ar_nil)))))) (dss_one (ds_ret de_bl)) dss_nil)))
  (dss_cons (ds_for (passes_of rfl) rfl (di_rng1 (by rfl) (M.free 4 rfl) (da_cons de_int da_nil)) (dg_name (i := 5) nd rfl (.inl rfl)) (dss_one (ds_if (dt_not (dt_val (de_call (ok__law_refused_right M B) rfl rfl tk gd (hr.mono (by decide)) (by rfl) (da_cons (de_var (i := 1) rfl (.inl rfl)) (da_cons (de_call (ok__law_take M B) rfl rfl tk gd (hr.mono (by decide)) (by rfl) (da_cons (de_var (i := 1) rfl (.inl rfl)) (da_cons (de_add rfl (de_var (i := 2) rfl (.inl rfl)) (de_var (i := 3) rfl (.inl rfl))) da_nil)) (hlen := (ar_cons (ar_cons ar_nil)))) da_nil)) (hlen := (ar_cons (ar_cons ar_nil)))))) (dss_one (ds_ret de_bl)) dss_nil)))
  (dss_one (ds_ret de_bl)))))))
end

def loose0 : List Str := ["is_integer", "is_within", "need_number", "need_width", "bits_up", "shape_of", "worked", "made", "joined", "told_true", "_law_tray", "_law_dip", "_law_take", "_law_great", "_law_word", "_law_bits", "_law_number", "_law_added", "_law_turned", "_law_below", "_law_multiplied", "_law_truth", "_law_due", "_law_kinds", "_law_heard", "_law_parts", "_law_label_right", "_law_refused_right", "EqualError", "BadNumber"]
def loose1 : List Str := ["BadTerm", "SHAPES"]
def loose : List Str := loose0 ++ loose1
abbrev Rw : PySem.W.OpenRow := PySem.W.OpenLaw.row PySem.Challenge.rw_leastequal_k01_labels_by_bits_and_carrie
abbrev hk : PySem.W.Hook := He.hookX 6 fa fn ts tf (exOf cs)
def ob (s : PySem.W.SharedT) : He.AlX := He.obsX 6 fa fn ts tf (exOf cs) (HandSHeadRun.getT s)
theorem ob_eq (s : PySem.W.SharedT) : ob s = hk.obs s.abs := He.obsX_eq (HandSHeadRun.getT_eq s)
theorem run_false (w : World) : HandSHeadRun.RunEq Rw (PySem.W.view Rw.prog [36]) hk ob 20000 loose (w.withFollow "special-get-raises" false) := by
  intro os
  kernel_rfl
theorem run_true (w : World) : HandSHeadRun.RunEq Rw (PySem.W.view Rw.prog [36]) hk ob 20000 loose (w.withFollow "special-get-raises" true) := by
  intro os
  kernel_rfl
theorem run_top (w : World) : HandSHeadRun.RunEq Rw (PySem.W.view Rw.prog [36]) hk ob 20000 loose w := PySem.W.byRow2 "special-get-raises" (P := fun w => HandSHeadRun.RunEq Rw (PySem.W.view Rw.prog [36]) hk ob 20000 loose w) run_false run_true w
theorem facts_of (w : World) (mg : Str → Option Value) (fv : Addr) (h : Heap) (Y : hk.says w h) (G : h.Ns mainGlobals mg) (hmg : mg "law" = some (.ref fv)) :
    ∃ (K : PySem.W.Frag) (ca : Str → Addr) (fd : FuncData) (cs : List (Addr × Addr)) (tb : List (Addr × Str)), K.In h ∧ (∀ (s : Shared) (u : Value), BindsTo s fd ⟨[u], []⟩ [("_law_script", u)]) ∧ TabE K h cs ∧ (∀ p ∈ tb, p.1 ∈ cs.map (·.2)) ∧
      ∀ (P : Program) (base : Heap), K.In base → base.Ns mainGlobals mg → TabsAt base mg cs → FnG P w K mg base (L2.CX P w) 11 fv fd ["_law_script"] (spD { K := K, w := w, ca := ca, tb := tb } 1 f_law) := by
  obtain ⟨K, KX, c⟩ := Y
  have M : FactsL { K := K, w := w, ca := fun c => He.ga K c, tb := (tf.zip tq).map fun p => ((He.cT K p.1).2, p.2) } mg := ⟨fun _ => rfl, h, KX, G, c⟩
  obtain ⟨fd, F⟩ := M.def_ 28 (d := dd_law) rfl
  have e := hmg.symm.trans (M.glo 43 rfl)
  cases e
  have b := FunD.bindsA (ps := ["_law_script"]) F fun _ _ _ _ _ _ us hl => match us, hl with | [_], _ => rfl
  refine ⟨K, fun c => He.ga K c, fd, _, _, KX, fun s v => b s [v] rfl, tabE_of KX c, tb_in (tq := tq), fun P base _ _ at_ => ?_⟩
  exact fnG_law (P := P) (base := base) M (lams_of c.more 7 rfl at_) F

local macro_rules | `(tactic| walk_at "ev") => `(tactic| first
  | with_reducible refine We.c ?_
  | ((with_reducible apply We.var); (· rfl))
  | ((with_reducible apply We.varO); (· rfl))
  | with_reducible refine We.m2 ?_
  | with_reducible refine We.m1 ?_
  | with_reducible refine We.mL ?_
  | with_reducible refine We.mT ?_
  | with_reducible refine XB.bl ?_
  | ((with_reducible apply XB.st); (· rfl))
  | with_reducible refine We.cons ?_
  | with_reducible refine We.nil ?_
  | with_reducible refine We.mIf ?_
  | with_reducible refine We.mAnd ?_
  | with_reducible refine We.mOr ?_
  | with_reducible refine We.mNot ?_
  | with_reducible refine We.mAndV ?_
  | with_reducible refine We.mOrV ?_
  | with_reducible refine We.mNotV ?_
  | with_reducible refine We.chain ?_
  | with_reducible refine We.sh ?_
  | with_reducible refine We.call ?_
  | with_reducible refine We.ix ?_
  | ((with_reducible apply We.ixL); (· rfl))
  | ((with_reducible apply We.ixT); (· rfl))
  | ((with_reducible apply We.ixB); (· rfl); (· rfl))
  | with_reducible refine We.mRng ?_
  | (with_reducible refine We.mItems ?_)
  | with_reducible refine Ws.seq (m := sSet _ _) ?_
  | with_reducible refine Ws.seq (m := sOwn _ _) ?_
  | with_reducible refine Ws.seq (m := sDrop _) ?_
  | with_reducible refine Ws.seq (m := sPar _ _ _) ?_
  | with_reducible refine Ws.seq (m := sSetB _ _ _) ?_
  | with_reducible refine Ws.seq (m := sSetO _ _ _) ?_
  | with_reducible refine Ws.seq (m := sApp _ _) ?_
  | with_reducible refine Ws.seq (m := sBox _ _) ?_
  | with_reducible refine Ws.seq (m := sRet _) ?_
  | with_reducible refine Ws.seq (m := sNx) ?_
  | with_reducible refine Ws.if ?_
  | with_reducible refine Ws.nx ?_
  | with_reducible refine Ws.bk ?_
  | with_reducible refine Ws.ct ?_
  | with_reducible refine Ws.ret ?_
  | with_reducible refine Ws.retF ?_
  | with_reducible refine Ws.retN ?_
  | with_reducible refine Ws.set ?_
  | with_reducible refine Ws.own ?_
  | with_reducible refine Ws.drop ?_
  | with_reducible refine Ws.for ?_
  | with_reducible refine Ws.par ?_
  | with_reducible refine X2.add ?_
  | with_reducible refine X2.sub ?_
  | with_reducible refine X2.lt ?_
  | with_reducible refine X2.le ?_
  | with_reducible refine X2.gt ?_
  | with_reducible refine X2.ge ?_
  | with_reducible refine X2.eqI ?_
  | with_reducible refine X2.eqS ?_
  | with_reducible refine X2.eqB ?_
  | with_reducible refine X2.neI ?_
  | with_reducible refine X2.neS ?_
  | with_reducible refine X2.neB ?_
  | with_reducible refine X2.isB ?_
  | ((with_reducible apply X2.isN); (· rfl))
  | ((with_reducible apply X2.isnN); (· rfl))
  | with_reducible refine X2.band ?_
  | with_reducible refine X2.bor ?_
  | with_reducible refine X2.bxor ?_
  | ((with_reducible refine X2.mod ?_ ?_); (· first | assumption | omega))
  | with_reducible refine XL.len ?_
  | with_reducible refine XL.lenT ?_
  | with_reducible refine XL.int ?_
  | with_reducible refine XL.intB ?_
  | ((with_reducible apply X2.of (g := gEq)); (· rfl))
  | ((with_reducible apply X1.of); (· rfl))
  | ((with_reducible refine X2.div ?_ ?_); (· first | (unfold cDiv; decide)))
  | ((with_reducible refine X2.mul ?_ ?_); (· assumption))
  | with_reducible refine We.tup ?_
  | with_reducible refine We.lst ?_
  | ((with_reducible refine XLen.mk ?_ ?_); (· rfl))
  | with_reducible refine We.sl ?_
  | with_reducible refine We.p0 ?_
  | with_reducible refine We.p1 ?_
  | with_reducible refine XOpt.int ?_
  | with_reducible refine XSl.lst ?_
  | with_reducible refine XSl.tup ?_
  | ((with_reducible refine X2.pow ?_ ?_); (· first | assumption | decide))
  | with_reducible refine XItems.lst ?_
  | with_reducible refine XItems.tup ?_
  | with_reducible refine XPar.two ?_
  | with_reducible refine XStr.str ?_
  | with_reducible refine We.s1 ?_
  | with_reducible refine Ws.setB ?_
  | with_reducible refine Ws.box ?_
  | ((with_reducible apply XSetB.box); (· rfl); (· rfl))
  | ((with_reducible apply XSetO.own); (· rfl); (· rfl))
  | ((with_reducible apply XIxO.at); (· rfl); (· rfl))
  | ((with_reducible refine We.ixO ?_ ?_); (· rfl))
  | ((with_reducible refine XI.rng1 ?_ ?_ ?_); (· first | omega | decide); (· first | omega | decide))
  | ((with_reducible apply XL.of (g := gAbs)); (· rfl))
  | ((with_reducible refine Xc.f ?_ ?_); (· first | assumption | rfl | decide))
  | ((with_reducible refine Xc.t ?_ ?_); (· first | assumption | rfl | decide)))
local macro_rules | `(tactic| walk_at "evs") => `(tactic| first | with_reducible refine Ws.seq ?_ | walk_at "ev")
theorem w_is_integer {n : Int} {sto : Sto} : f_is_integer [.int n] sto = .rt (.bl true) sto := rfl
theorem w_is_integerB {b : Bool} {sto : Sto} : f_is_integer [.bl b] sto = .rt (.bl false) sto := rfl
theorem w_is_within {v lo hi : Int} {sto : Sto} {E : XPost} {P : D → Sto → Prop} (h : P (.bl (decide (lo ≤ v ∧ v ≤ hi))) sto) : Wf (f_is_within [.int v, .int lo, .int hi] sto) E P := by
  refine Wf.fn ?_
  unfold m_is_within

  repeat walk_at "evs"
  refine Wf.of_eq w_is_integer ?_
  repeat walk_at "evs"
  refine @Xc.d _ _ _ _ (fun h1 => ?_) fun h1 => ?_
  · repeat walk_at "evs"
    rw [decide_eq_false (by omega)] at h
    exact h
  · repeat walk_at "evs"
    rw [show decide (v ≤ hi) = decide (lo ≤ v ∧ v ≤ hi) by simp; omega]
    exact h
theorem w_need_number {v lo hi : Int} {p : D} {sto : Sto} {E : XPost} {P : D → Sto → Prop} (h1 : lo ≤ v) (h2 : v ≤ hi) (h : P .non sto) : Wf (f_need_number [.int v, p, .int lo, .int hi] sto) E P := by
  refine Wf.fn ?_
  unfold m_need_number
  repeat walk_at "evs"
  refine w_is_within ?_
  rw [decide_eq_true (show lo ≤ v ∧ v ≤ hi from ⟨h1, h2⟩)]
  repeat walk_at "evs"
  exact h
theorem w_need_width {v : Int} {sto : Sto} {E : XPost} {P : D → Sto → Prop} (h1 : 1 ≤ v) (h2 : v ≤ 300) (h : P .non sto) : Wf (f_need_width [.int v] sto) E P := by
  refine Wf.fn ?_
  unfold m_need_width
  repeat walk_at "evs"
  refine w_need_number h1 h2 ?_
  exact h
theorem cShl_ok {i j : Int} (h1 : 0 ≤ j) (h2 : j ≤ 100000) {m : Nat} (h3 : Builtin.Int.intBits i ≤ m) (h4 : m ≤ 100000000) : cShl i j = true := by
  unfold cShl
  refine decide_eq_true ⟨h1, ?_⟩
  have : (2 : Int) ^ 27 = 134217728 := by decide
  omega
theorem cMul_ok {i j : Int} {m n : Nat} (h3 : Builtin.Int.intBits i ≤ m) (h4 : Builtin.Int.intBits j ≤ n) (h5 : m + n ≤ 134217728) : cMul i j = true := by
  unfold cMul
  exact decide_eq_true (by omega)
theorem bits_of {i : Int} {m : Nat} (h : i.natAbs < 2 ^ m) : Builtin.Int.intBits i ≤ m := intBits_le_iff.mpr h
theorem two_nn (n : Nat) : (0 : Int) < 2 ^ n := by
  have : (0:Int) < 2 := by decide
  exact Int.pow_pos this

theorem atI_nn {α : Type} {xs : List α} {j : Int} (h0 : 0 ≤ j) (h1 : j < xs.length) : ∃ z, atI xs j = some z ∧ z ∈ xs ∧ xs[j.toNat]? = some z := by
  have hj : j.toNat < xs.length := by omega
  refine ⟨xs[j.toNat], ?_, List.getElem_mem hj, List.getElem?_eq_getElem hj⟩
  unfold atI ixN
  rw [if_pos h0, if_pos h1]
  exact List.getElem?_eq_getElem hj
theorem cDiv_ok {i j : Int} (h1 : 0 < j) (h2 : j < 2 ^ 62) : cDiv i j = true := by
  unfold cDiv
  refine decide_eq_true ⟨h1, ?_⟩
  have h3 : j.natAbs < 2 ^ 62 := by omega
  have : j.natAbs.log2 < 62 := (Nat.log2_lt (by omega)).mpr h3
  omega
theorem cPow_ok {i j : Int} (h1 : 0 ≤ j) (h2 : j ≤ 1000000) (h3 : i.natAbs < 18446744073709551616) : cPow i j = true := decide_eq_true ⟨h1, h2, h3⟩
theorem mul_le {a b A B : Int} (h0 : 0 ≤ a) (h1 : a ≤ A) (h2 : 0 ≤ b) (h3 : b ≤ B) : 0 ≤ a * b ∧ a * b ≤ A * B :=
  ⟨Int.mul_nonneg h0 h2, Int.mul_le_mul h1 h3 h2 (by omega)⟩
theorem pures_ints : ∀ c : List Int, pures (c.map .int) = true
  | [] => rfl
  | _ :: r => pures_ints r
theorem lay_ints : ∀ c : List Int, PyData.canLayAll0 (pys (c.map .int)) = true
  | [] => rfl
  | _ :: r => lay_ints r
theorem depthAll_ints : ∀ c : List Int, PyData.depthAll (pys (c.map .int)) ≤ 2
  | [] => by simp [pys, PyData.depthAll]
  | a :: r => by
    have := depthAll_ints r
    simp only [List.map_cons, pys, D.py, PyData.depthAll, PyData.depth]
    omega
theorem depth_ints (c : List Int) : (PyData.list (pys (c.map .int))).depth ≤ 64 := by
  have := depthAll_ints c
  simp only [PyData.depth]
  omega
theorem ne_nil {c : List Int} {P : D → Prop} (h : P (.bl (decide (c ≠ [])))) : X2 gNe (.lst (c.map .int)) (.lst []) P := by
  refine ⟨_, ?_, h⟩
  unfold gNe gEq
  have e : gEqD (.lst (c.map .int)) (.lst []) = some (.bl (decide (c = []))) := by
    unfold gEqD
    rw [if_pos]
    · cases c with
      | nil => rfl
      | cons a r => rfl
    · simp only [Bool.and_eq_true]
      refine ⟨⟨⟨?_, rfl⟩, ?_⟩, rfl⟩
      · unfold D.pure; exact pures_ints c
      · unfold SeqAt.shaped
        simp only [Bool.and_eq_true, decide_eq_true_eq]
        exact ⟨lay_ints c, depth_ints c⟩
  simp only [e]
  congr 2
  by_cases hc : c = [] <;> simp [hc]
/-- the cells of a script -/
structure Cs (c : List Int) : Prop where
  len : c.length ≤ 60
  bits : ∀ z ∈ c, Builtin.Int.intBits z ≤ 1048576
structure Tr (c : List Int) (B : Int) (sto : Sto) : Prop where
  ex : ∃ t r : Int, sto = [[.lst (c.map .int), .int t, .int r]] ∧ 0 ≤ t ∧ t ≤ B ∧ 0 ≤ r
theorem Tr.mono {c : List Int} {B B' : Int} {sto : Sto} (h : Tr c B sto) (hb : B ≤ B') : Tr c B' sto := by
  obtain ⟨t, r, e, h0, h1, h2⟩ := h.ex
  exact ⟨t, r, e, h0, by omega, h2⟩
theorem w_dip {c : List Int} {B many : Int} {sto : Sto} {E : XPost} {P : D → Sto → Prop} (hc : Cs c) (h : Tr c B sto) (hB : B ≤ 1000000) (m1 : 0 < many) (m2 : many < 2 ^ 62)
    (k : ∀ d sto', Tr c (B + 1) sto' → 0 ≤ d → d < many → P (.int d) sto') : Wf (f__law_dip [.box 0, .int many] sto) E P := by
  obtain ⟨t, r, rfl, ht0, htB, hr⟩ := h
  refine Wf.fn ?_
  unfold m__law_dip
  refine Ws.seq ?_
  repeat walk_at "ev"
  refine @Xc.d _ _ _ _ (fun h1 => ?_) fun h1 => ?_
  · repeat walk_at "ev"
    refine X2.div (cDiv_ok m1 m2) ?_
    repeat walk_at "ev"
    exact k _ _ ⟨t, r / many, rfl, ht0, by omega, Int.ediv_nonneg hr (by omega)⟩ (Int.emod_nonneg _ (by omega)) (Int.emod_lt_of_pos _ m1)
  · repeat walk_at "ev"
    have b39 : Builtin.Int.intBits 82039 ≤ 17 := by decide
    have bt : Builtin.Int.intBits t ≤ 20 := bits_of (by omega)
    refine X2.mul (cMul_ok b39 bt (by decide)) ?_
    repeat walk_at "ev"
    have m39 := mul_le (a := 82039) (A := 82039) (by decide) (by decide) ht0 htB
    refine Ws.seqI (fun s' => ∃ cell : Int, Builtin.Int.intBits cell ≤ 1048576 ∧ s' = ⟨[.sh (.box 0), .sh (.int many), .un, .sh (.int t), .sh (.int cell), .un], [[.lst (c.map .int), .int (t + 1), .int r]]⟩) ?_ ?_
    · repeat walk_at "ev"
      refine ne_nil ?_
      repeat walk_at "ev"
      refine @Xc.d _ _ _ _ (fun h2 => ?_) fun h2 => ?_
      · repeat walk_at "ev"
        have hl : 0 < c.length := List.length_pos_iff.mpr h2
        refine X2.mod (by simp; omega) ?_
        obtain ⟨z, hz1, hz2, hz3⟩ := atI_nn (xs := c.map D.int) (j := t % ((c.map D.int).length : Int)) (Int.emod_nonneg _ (by simp; omega)) (Int.emod_lt_of_pos _ (by simp; omega))
        obtain ⟨y, hy1, hy2⟩ := List.mem_map.mp hz2
        subst hy2
        refine We.ixL hz1 ?_
        exact ⟨y, hc.bits y hy1, rfl⟩
      · repeat walk_at "ev"
        exact ⟨_, Nat.le_trans (bits_of (m := 60) (by omega)) (by decide), rfl⟩
    · rintro s' ⟨cell, bc, rfl⟩
      refine Ws.seqI (fun s' => s' = ⟨[.sh (.box 0), .sh (.int many), .un, .sh (.int t), .sh (.int cell), .un], [[.lst (c.map .int), .int (t + 1), .int r]]⟩) ?_ ?_
      · repeat walk_at "ev"
        refine @Xc.d _ _ _ _ (fun h3 => ?_) fun h3 => ?_
        · repeat walk_at "ev"
          refine @Xc.d _ _ _ _ (fun h4 => ?_) fun h4 => ?_
          · repeat walk_at "ev"
            have ba : Builtin.Int.intBits (if cell < 0 then -cell else cell) ≤ 1048576 := by
              split
              · exact intBits_neg_le bc
              · exact bc
            have bs : Builtin.Int.intBits ((if cell < 0 then -cell else cell) - 10 ^ Int.toNat 18) ≤ max 1048576 70 + 1 := intBits_sub_le ba (bits_of (by decide))
            refine X2.mul (cMul_ok (show Builtin.Int.intBits 2 ≤ 2 by decide) bs (by decide)) ?_
            repeat walk_at "ev"
            refine X2.div (cDiv_ok m1 m2) ?_
            repeat walk_at "ev"
            generalize hb : (if cell < 0 then -cell else cell) = ab at *
            have pw : (10 : Int) ^ Int.toNat 18 = 1000000000000000000 := by decide
            rw [pw] at h4
            refine k _ _ ⟨t + 1, _, rfl, by omega, by omega, Int.ediv_nonneg ?_ (by omega)⟩ (Int.emod_nonneg _ (by omega)) (Int.emod_lt_of_pos _ m1)
            rw [pw]
            split <;> omega
          · repeat walk_at "ev"
            rfl
        · repeat walk_at "ev"
          rfl
      · rintro s' rfl
        repeat walk_at "ev"
        refine X2.mul (cMul_ok b39 bt (by decide)) ?_
        repeat walk_at "ev"
        have c0 := Int.emod_nonneg cell (b := 2147483647) (by decide)
        have c1 := Int.emod_lt_of_pos cell (b := 2147483647) (by decide)
        refine X2.pow (cPow_ok (by decide) (by decide) (by omega)) ?_
        repeat walk_at "ev"
        generalize hx : (cell % 2147483647 + 82039 * t + 7411) ^ Int.toNat 5 % 2147483579 = x
        have x0 : 0 ≤ x := by rw [← hx]; exact Int.emod_nonneg _ (by decide)
        have x1 : x < 2147483579 := by rw [← hx]; exact Int.emod_lt_of_pos _ (by decide)
        refine X2.mul (cMul_ok (show Builtin.Int.intBits 2 ≤ 2 by decide) bt (by decide)) ?_
        repeat walk_at "ev"
        refine X2.mul (cMul_ok (m := 40) (n := 40) (bits_of (by omega)) (bits_of (by omega)) (by decide)) ?_
        repeat walk_at "ev"
        refine X2.mul (cMul_ok b39 bt (by decide)) ?_
        refine X2.mul (cMul_ok (m := 60) (bits_of (by omega)) bt (by decide)) ?_
        repeat walk_at "ev"
        have z1 := mul_le (a := x) (A := 2147483579) x0 (by omega) (b := 2 * t + 1523) (B := 2001523) (by omega) (by omega)
        have z2 := mul_le (a := 82039 * t) (A := 82039000000) (by omega) (by omega) (b := t) (B := 1000000) ht0 (by omega)
        refine X2.pow (cPow_ok (by decide) (by decide) (by omega)) ?_
        repeat walk_at "ev"
        exact k _ _ ⟨t + 1, r, rfl, by omega, by omega, hr⟩ (Int.emod_nonneg _ (by omega)) (Int.emod_lt_of_pos _ m1)

theorem w_take {c : List Int} {B : Int} {xs : List D} {sto : Sto} {E : XPost} {P : D → Sto → Prop} (hc : Cs c) (h : Tr c B sto) (hB : B ≤ 1000000) (m1 : 0 < xs.length) (m2 : xs.length < 2 ^ 60)
    (k : ∀ d sto', Tr c (B + 1) sto' → d ∈ xs → P d sto') : Wf (f__law_take [.box 0, .lst xs] sto) E P := by
  refine Wf.fn ?_
  unfold m__law_take
  repeat walk_at "ev"
  refine w_dip hc h hB (by omega) (by omega) fun d sto' h' h0 h1 => ?_
  obtain ⟨z, hz1, hz2, _⟩ := atI_nn h0 h1
  exact We.ixL hz1 (k z sto' h' hz2)
theorem w_great {c : List Int} {B most : Int} {sto : Sto} {E : XPost} {P : D → Sto → Prop} (hc : Cs c) (h : Tr c B sto) (hB : B ≤ 100000) (m1 : 0 ≤ most) (m2 : Builtin.Int.intBits most ≤ 300)
    (k : ∀ d sto', Tr c (B + 11) sto' → 0 ≤ d → d ≤ most → P (.int d) sto') : Wf (f__law_great [.box 0, .int most] sto) E P := by
  refine Wf.fn ?_
  unfold m__law_great
  repeat walk_at "ev"
  refine Ws.seq ?_
  repeat walk_at "ev"
  refine forL_inv (fun rest s => rest.length ≤ 11 ∧ ∃ (number : Int) (x : Sl) (sto' : Sto), s = ⟨[.sh (.box 0), .sh (.int most), .sh (.int number), x], sto'⟩ ∧ 0 ≤ number ∧ Tr c (B + (11 - rest.length)) sto') ?_ ?_ _ _ ⟨by decide, 0, .un, sto, rfl, by decide, h.mono (by show B ≤ B + (11 - ((11 : Nat) : Int)); omega)⟩
  · rintro d ds s ⟨hl, number, x, sto', rfl, hn, h'⟩
    refine ⟨_, rfl, ?_⟩
    unfold m__law_great_b1
    repeat walk_at "ev"
    simp only [List.length_cons] at hl h'
    refine @Xc.d _ _ _ _ (fun h3 => ?_) fun h3 => ?_
    · with_reducible refine Ws.set ?_
      with_reducible refine We.m2 ?_
      with_reducible refine We.m2 ?_
      with_reducible apply We.var
      · rfl
      with_reducible refine We.c ?_

      have bn : Builtin.Int.intBits number ≤ 300 := intBits_le_of_natAbs (by omega) m2
      refine X2.mul (cMul_ok bn (show Builtin.Int.intBits 268435456 ≤ 40 from bits_of (by decide)) (by decide)) ?_
      repeat walk_at "ev"
      refine w_dip hc h' (by omega) (by decide) (by decide) fun d sto2 h2 h0 h1 => ?_
      repeat walk_at "ev"
      exact ⟨by omega, _, _, _, rfl, by omega, h2.mono (by omega)⟩
    · repeat walk_at "ev"
      exact ⟨by omega, _, _, _, rfl, hn, h'.mono (by omega)⟩
  · rintro s ⟨_, number, x, sto', rfl, hn, h'⟩
    repeat walk_at "ev"
    exact k _ _ (h'.mono (by simp)) (Int.emod_nonneg _ (by omega)) (by have := Int.emod_lt_of_pos number (b := most + 1) (by omega); omega)
theorem bits_pow (w : Nat) (i : Int) (h0 : 0 ≤ i) (h1 : i ≤ 2 ^ w) : Builtin.Int.intBits i ≤ w + 1 := by
  refine bits_of ?_
  have e : ((2 ^ w : Nat) : Int) = (2 : Int) ^ w := by simp
  have : 2 ^ (w + 1) = 2 ^ w * 2 := Nat.pow_succ ..
  have p : 0 < 2 ^ w := Nat.two_pow_pos w
  omega
theorem w_wordd {c : List Int} {B : Int} {w : Nat} {sto : Sto} {E : XPost} {P : D → Sto → Prop} (hc : Cs c) (h : Tr c B sto) (hB : B ≤ 90000) (w1 : 1 ≤ w) (w2 : w ≤ 300)
    (k : ∀ d sto', Tr c (B + 23) sto' → 0 ≤ d → d < 2 ^ w → P (.int d) sto') : Wf (f__law_word [.box 0, .int (2 ^ w)] sto) E P := by
  have lim : (2 : Int) ≤ 2 ^ w := by
    have : (2 : Int) ^ 1 ≤ 2 ^ w := by
      have : (2 : Nat) ^ 1 ≤ 2 ^ w := Nat.pow_le_pow_right (by decide) w1
      have e : ((2 ^ w : Nat) : Int) = (2 : Int) ^ w := by simp
      omega
    exact this
  have bw : Builtin.Int.intBits ((2 : Int) ^ w - 1) ≤ 300 := by
    refine bits_of ?_
    have e : ((2 ^ w : Nat) : Int) = (2 : Int) ^ w := by simp
    have : 2 ^ w ≤ 2 ^ 300 := Nat.pow_le_pow_right (by decide) w2
    generalize 2 ^ 300 = Z at *
    have p : 0 < 2 ^ w := Nat.two_pow_pos w
    omega
  refine Wf.fn ?_
  unfold m__law_word
  repeat walk_at "ev"
  refine w_great hc h (by omega) (by omega) bw fun d1 sto1 h1 a1 b1 => ?_
  repeat walk_at "ev"
  refine w_great hc h1 (by omega) (by omega) bw fun d2 sto2 h2 a2 b2 => ?_
  repeat walk_at "ev"
  refine w_take hc h2 (by omega) (Nat.lt_of_lt_of_le (by decide) (Nat.le_refl 7)) (Nat.lt_of_le_of_lt (Nat.le_refl 7) (by decide)) fun d sto3 h3 hd => ?_
  have h3 := h3.mono (B' := B + 23) (by omega)
  generalize (2 : Int) ^ w = L at *
  simp only [List.mem_cons, List.not_mem_nil, or_false] at hd
  rcases hd with e | e | e | e | e | e | e <;> subst e <;> refine k _ _ h3 ?_ ?_ <;> omega
/-- the first cells -/
theorem cut_ints (ns : List Int) : cutD (ns.map .int) none (some 60) = (ns.take 60).map .int := by
  unfold cutD
  have e : HT.sIx (ns.map D.int).length (ns.map D.int).length (some 60) = min 60 (ns.map D.int).length := HT.sIx_nat _ _ 60
  rw [e]
  simp only [HT.sIx_none, List.drop_zero, Nat.sub_zero, List.length_map, List.map_take]
  simp
theorem w_tray {ns : List Int} {E : XPost} {P : List D → Sto → Prop} {sto : Sto} (hn : ns.length ≤ 63) (k : P [.lst ((ns.take 60).map .int), .int 0, .int 0] sto) : WfO (f__law_tray [.lst (ns.map .int)] sto) E P := by
  refine WfO.fn ?_
  unfold m__law_tray
  repeat walk_at "ev"
  refine We.comp ?_
  repeat walk_at "ev"
  refine ⟨rfl, ?_⟩
  rw [cut_ints]
  have hl : (ns.take 60).length ≤ 60 := by simp; omega
  generalize ns.take 60 = c at *
  obtain ⟨acc, s', e, x, rfl, hx⟩ := compL_inv (t := tgN 1) (c := M.pure true) (m := m__law_tray_e1) (ws := [1]) (fun rest acc s => ∃ x, s = ⟨[.sh (.lst (ns.map .int)), x], sto⟩ ∧ ∃ (done todo : List Int), c = done ++ todo ∧ rest = todo.map .int ∧ acc = done.map .int)
    (by
      rintro d ds acc s ⟨x, rfl, done, todo, e1, e2, e3⟩
      cases todo with
      | nil => cases e2
      | cons a todo =>
        cases e2
        refine ⟨?_, _, rfl, ?_⟩
        · subst e3
          have : done.length ≤ 60 := by rw [e1] at hl; simp at hl; omega
          simp
          have hz : sizeLine = 16777216 := by decide
          omega
        · refine We.pure ?_
          refine Xc.t rfl ?_
          unfold m__law_tray_e1
          repeat walk_at "ev"
          exact ⟨_, rfl, done ++ [a], todo, by simp [e1], rfl, by simp [e3]⟩)
    (c.map .int) [] ⟨[.sh (.lst (ns.map .int)), .un], sto⟩ ⟨_, rfl, [], c, rfl, rfl, rfl⟩
  obtain ⟨done, todo, e1, e2, e3⟩ := hx
  have : todo = [] := by
    cases todo with
    | nil => rfl
    | cons => cases e2
  subst this
  simp only [List.append_nil] at e1
  subst e1
  refine ⟨acc, _, e, ?_⟩
  repeat walk_at "ev"
  subst e3
  exact k

def labS (k : Int) : Str := (Str.empty ++ "shl ") ++ toString k
/-- what fits the kinds -/
inductive Fits (L : Int) : List D → List D → Prop
  | nil : Fits L [] []
  | w {v : Int} {ks vs : List D} : 0 ≤ v → v < L → Fits L ks vs → Fits L (.str "word" :: ks) (.int v :: vs)
  | t {b : Bool} {ks vs : List D} : Fits L ks vs → Fits L (.str "truth" :: ks) (.bl b :: vs)
theorem Fits.length {L : Int} {ks vs : List D} (h : Fits L ks vs) : vs.length = ks.length := by
  induction h with
  | nil => rfl
  | w _ _ _ ih => simp [ih]
  | t _ ih => simp [ih]
def Cont (cont : D) (vs : List D) : Prop := cont = .lst vs ∨ cont = .tup vs
theorem w_worked {L : Str} {w : Nat} {out : D} {ks vs : List D} {cont : D} {sto : Sto} {E : XPost} {P : D → Sto → Prop} (hs : ∀ sto, f_shape_of [.str L] sto = .rt (.tup [out, .tup ks]) sto) (hat : L ≠ "at") (hcont : Cont cont vs) (w1 : 1 ≤ w) (w2 : w ≤ 300) (hf : Fits (2 ^ w) ks vs)
    (k : Wf (f_made [.str L, .int (2 ^ w), cont] sto) E P) : Wf (f_worked [.str L, .int w, cont] sto) E P := by
  refine Wf.fn ?_
  unfold m_worked
  repeat walk_at "evs"
  refine Wf.of_eq (hs _) ?_
  repeat walk_at "evs"
  refine Xc.f (decide_eq_false hat) ?_
  repeat walk_at "evs"
  refine w_need_width (by omega) (by omega) ?_
  have hl := hf.length
  have zip : ∀ n : Int, n = vs.length → True := fun _ _ => trivial
  rcases hcont with rfl | rfl
  all_goals
    repeat walk_at "evs"
    refine Xc.n (Xc.t (decide_eq_true (by omega)) ?_)
    repeat walk_at "evs"
    refine X2.shl (cShl_ok (m := 1) (by omega) (by omega) (by decide) (by decide)) ?_
    rw [Int.one_mul, Int.toNat_natCast]
    repeat walk_at "evs"
    refine ⟨zipD ks vs, rfl, ?_⟩
    refine forL_inv (fun rest s => ∃ ks vs x y, rest = zipD ks vs ∧ Fits (2 ^ w) ks vs ∧ s = ⟨[.sh (.str L), .sh (.int w), .sh _, .sh _, .sh (.int (2 ^ w)), x, y], sto⟩) ?_ ?_ _ _ ⟨ks, vs, _, _, rfl, hf, rfl⟩
    · rintro d ds s ⟨ks, vs, x, y, e, hf, rfl⟩
      cases hf with
      | nil => cases e
      | @w v ks vs h0 h1 hf =>
        cases e
        refine ⟨_, rfl, ?_⟩
        unfold m_worked_b1
        repeat walk_at "evs"
        refine w_is_within ?_
        rw [decide_eq_true (show 0 ≤ v ∧ v ≤ 2 ^ w - 1 from ⟨h0, by omega⟩)]
        repeat walk_at "evs"
        exact ⟨ks, vs, _, _, rfl, hf, rfl⟩
      | @t b ks vs hf =>
        cases e
        refine ⟨_, rfl, ?_⟩
        unfold m_worked_b1
        repeat walk_at "evs"
        exact ⟨ks, vs, _, _, rfl, hf, rfl⟩
    · rintro s ⟨ks, vs, x, y, e, hf, rfl⟩
      repeat walk_at "evs"
      exact k

def cut (v : Nat) : D → D
  | .int i => .int (i % 2 ^ v)
  | d => d
structure LabOk (L : Str) (ks : List D) : Prop where
  shape : ∀ sto, f_shape_of [.str L] sto = .rt (.tup [.str "word", .tup ks]) sto
  nat : L ≠ "at"
  kn : ks.length ≤ 3
  made : ∀ (w v : Nat) (vs : List D), 1 ≤ v → v ≤ w → w ≤ 300 → Fits (2 ^ w) ks vs → ∃ r : Int, 0 ≤ r ∧ r < 2 ^ w ∧
    (∀ (sto : Sto) (E : XPost) (P : D → Sto → Prop), P (.int r) sto → Wf (f_made [.str L, .int (2 ^ w), .lst vs] sto) E P) ∧
    ∀ (sto : Sto) (E : XPost) (P : D → Sto → Prop), P (.int (r % 2 ^ v)) sto → Wf (f_made [.str L, .int (2 ^ v), .lst (vs.map (cut v))] sto) E P
theorem dvd2 {v w : Nat} (h : v ≤ w) : ∃ c : Int, (2 : Int) ^ w = 2 ^ v * c := ⟨2 ^ (w - v), by rw [← Int.pow_add]; congr 1; omega⟩
theorem mod2 {v w : Nat} (h : v ≤ w) (n : Int) : n % 2 ^ w % 2 ^ v = n % 2 ^ v := by
  obtain ⟨c, e⟩ := dvd2 h
  exact Int.emod_emod_of_dvd n ⟨c, e⟩
theorem bits2 {w : Nat} {i : Int} (h0 : 0 ≤ i) (h1 : i < 2 ^ w) : Builtin.Int.intBits i ≤ w := by
  refine bits_of ?_
  have e : ((2 ^ w : Nat) : Int) = (2 : Int) ^ w := by simp
  omega
theorem and_nn (a b : Nat) : Builtin.bitAnd (a : Int) b = ((a &&& b : Nat) : Int) := by
  unfold Builtin.bitAnd
  simp
theorem not_not' (a : Nat) : (Builtin.bitNot (a : Int)).toNat = 0 ∧ ¬ 0 ≤ Builtin.bitNot (a : Int) ∧ Builtin.bitNot (Builtin.bitNot (a : Int)) = a := by
  unfold Builtin.bitNot
  refine ⟨by omega, by omega, by omega⟩
theorem or_nn (a b : Nat) : Builtin.bitOr (a : Int) b = ((a ||| b : Nat) : Int) := by
  unfold Builtin.bitOr Builtin.bitAnd
  rw [decide_eq_false (not_not' a).2.1, decide_eq_false (not_not' b).2.1]
  simp only [(not_not' _).2.2, Int.toNat_natCast]
theorem and_le_or (a b : Nat) : a &&& b ≤ a ||| b := Nat.le_trans Nat.and_le_left Nat.left_le_or
theorem xor_nn (a b : Nat) : Builtin.bitXor (a : Int) b = ((a ||| b : Nat) : Int) - ((a &&& b : Nat) : Int) := by
  unfold Builtin.bitXor
  rw [and_nn, or_nn]
theorem pow_cast (w : Nat) : ((2 ^ w : Nat) : Int) = (2 : Int) ^ w := by simp
section
variable {w v : Nat} {a b : Int}
theorem m_mod (h : v ≤ w) (x y : Int) (e : x % 2 ^ v = y % 2 ^ v) : x % 2 ^ w % 2 ^ v = y % 2 ^ v := by rw [mod2 h, e]
theorem flip_mod (h : v ≤ w) (a : Int) : (2 ^ w - 1 - a) % 2 ^ v = 2 ^ v - 1 - a % 2 ^ v := by
  obtain ⟨c, e⟩ := dvd2 h
  have p := two_nn v
  rw [e]
  generalize (2 : Int) ^ v = M at *
  have e1 : M * c - 1 - a = (M - 1 - a % M) + M * (c - 1 - a / M) := by
    have := Int.emod_add_mul_ediv a M
    rw [Int.mul_sub, Int.mul_sub]
    omega
  rw [e1, Int.add_mul_emod_self_left]
  have h0 := Int.emod_nonneg a (b := M) (by omega)
  have h1 := Int.emod_lt_of_pos a p
  exact Int.emod_eq_of_lt (by omega) (by omega)
theorem nat_of {a : Int} (h : 0 ≤ a) : ∃ n : Nat, a = n := ⟨a.toNat, by omega⟩
theorem and_mod (h0 : 0 ≤ a) (h1 : 0 ≤ b) : Builtin.bitAnd a b % 2 ^ v = Builtin.bitAnd (a % 2 ^ v) (b % 2 ^ v) := by
  obtain ⟨m, rfl⟩ := nat_of h0
  obtain ⟨n, rfl⟩ := nat_of h1
  rw [and_nn, ← pow_cast, ← Int.natCast_emod, ← Int.natCast_emod, ← Int.natCast_emod, and_nn, Nat.and_mod_two_pow]
theorem or_mod (h0 : 0 ≤ a) (h1 : 0 ≤ b) : Builtin.bitOr a b % 2 ^ v = Builtin.bitOr (a % 2 ^ v) (b % 2 ^ v) := by
  obtain ⟨m, rfl⟩ := nat_of h0
  obtain ⟨n, rfl⟩ := nat_of h1
  rw [or_nn, ← pow_cast, ← Int.natCast_emod, ← Int.natCast_emod, ← Int.natCast_emod, or_nn, Nat.or_mod_two_pow]
theorem or_rng (h0 : 0 ≤ a) (h1 : 0 ≤ b) (h2 : a < 2 ^ w) (h3 : b < 2 ^ w) : 0 ≤ Builtin.bitOr a b ∧ Builtin.bitOr a b < 2 ^ w := by
  obtain ⟨m, rfl⟩ := nat_of h0
  obtain ⟨n, rfl⟩ := nat_of h1
  rw [← pow_cast] at *
  rw [or_nn]
  have := Nat.or_lt_two_pow (x := m) (y := n) (n := w) (by omega) (by omega)
  omega
theorem and_rng (h0 : 0 ≤ a) (h1 : 0 ≤ b) (h2 : a < 2 ^ w) : 0 ≤ Builtin.bitAnd a b ∧ Builtin.bitAnd a b < 2 ^ w := by
  obtain ⟨m, rfl⟩ := nat_of h0
  obtain ⟨n, rfl⟩ := nat_of h1
  rw [← pow_cast] at *
  rw [and_nn]
  have : m &&& n ≤ m := Nat.and_le_left
  omega
theorem xor_eq (h0 : 0 ≤ a) (h1 : 0 ≤ b) : Builtin.bitXor a b = Builtin.bitOr a b - Builtin.bitAnd a b ∧ 0 ≤ Builtin.bitXor a b := by
  obtain ⟨m, rfl⟩ := nat_of h0
  obtain ⟨n, rfl⟩ := nat_of h1
  rw [xor_nn, and_nn, or_nn]
  have := and_le_or m n
  omega
theorem xor_rng (h0 : 0 ≤ a) (h1 : 0 ≤ b) (h2 : a < 2 ^ w) (h3 : b < 2 ^ w) : 0 ≤ Builtin.bitXor a b ∧ Builtin.bitXor a b < 2 ^ w := by
  have h4 := or_rng h0 h1 h2 h3
  have h5 := and_rng h0 h1 h2
  have h6 := xor_eq h0 h1
  omega
theorem xor_mod (h0 : 0 ≤ a) (h1 : 0 ≤ b) : Builtin.bitXor a b % 2 ^ v = Builtin.bitXor (a % 2 ^ v) (b % 2 ^ v) := by
  have p := two_nn v
  have a0 := Int.emod_nonneg a (b := 2 ^ v) (by omega)
  have b0 := Int.emod_nonneg b (b := 2 ^ v) (by omega)
  have a1 := Int.emod_lt_of_pos a p
  have b1 := Int.emod_lt_of_pos b p
  have x := xor_rng a0 b0 a1 b1
  rw [(xor_eq h0 h1).1, Int.sub_emod, or_mod h0 h1, and_mod h0 h1, ← (xor_eq a0 b0).1]
  exact Int.emod_eq_of_lt x.1 x.2
theorem mod_rng (w : Nat) (n : Int) : 0 ≤ n % 2 ^ w ∧ n % 2 ^ w < 2 ^ w := ⟨Int.emod_nonneg _ (by have := two_nn w; omega), Int.emod_lt_of_pos _ (two_nn w)⟩
end
/-! ### each label -/
theorem Fits.two {L : Int} {vs : List D} (h : Fits L [.str "word", .str "word"] vs) : ∃ a b : Int, vs = [.int a, .int b] ∧ 0 ≤ a ∧ a < L ∧ 0 ≤ b ∧ b < L := by
  cases h with
  | w h0 h1 h => cases h with
    | w h2 h3 h => cases h; exact ⟨_, _, rfl, h0, h1, h2, h3⟩
theorem Fits.one {L : Int} {vs : List D} (h : Fits L [.str "word"] vs) : ∃ a : Int, vs = [.int a] ∧ 0 ≤ a ∧ a < L := by
  cases h with
  | w h0 h1 h => cases h; exact ⟨_, rfl, h0, h1⟩
theorem Fits.three {L : Int} {vs : List D} (h : Fits L [.str "truth", .str "word", .str "word"] vs) : ∃ (t : Bool) (a b : Int), vs = [.bl t, .int a, .int b] ∧ 0 ≤ a ∧ a < L ∧ 0 ≤ b ∧ b < L := by
  cases h with
  | t h => cases h with
    | w h0 h1 h => cases h with
      | w h2 h3 h => cases h; exact ⟨_, _, _, rfl, h0, h1, h2, h3⟩
/-- a label of two words: what made makes -/
theorem lab_two {L : Str} (f : Int → Int → Int → Int) (hs : ∀ sto, f_shape_of [.str L] sto = .rt (.tup [.str "word", .tup [.str "word", .str "word"]]) sto) (nat : L ≠ "at")
    (run : ∀ (w : Nat) (a b : Int) (sto : Sto) (E : XPost) (P : D → Sto → Prop), 1 ≤ w → w ≤ 300 → 0 ≤ a → a < 2 ^ w → 0 ≤ b → b < 2 ^ w → P (.int (f (2 ^ w) a b)) sto → Wf (f_made [.str L, .int (2 ^ w), .lst [.int a, .int b]] sto) E P)
    (rng : ∀ (w : Nat) (a b : Int), 0 ≤ a → a < 2 ^ w → 0 ≤ b → b < 2 ^ w → 0 ≤ f (2 ^ w) a b ∧ f (2 ^ w) a b < 2 ^ w)
    (low : ∀ (w v : Nat) (a b : Int), v ≤ w → 0 ≤ a → 0 ≤ b → f (2 ^ w) a b % 2 ^ v = f (2 ^ v) (a % 2 ^ v) (b % 2 ^ v)) : LabOk L [.str "word", .str "word"] where
  shape := hs
  nat := nat
  kn := by decide
  made := fun w v vs h1 h2 h3 hf => by
    obtain ⟨a, b, rfl, a0, a1, b0, b1⟩ := hf.two
    have r := rng w a b a0 a1 b0 b1
    refine ⟨f (2 ^ w) a b, r.1, r.2, fun sto E P k => run w a b sto E P (by omega) h3 a0 a1 b0 b1 k, fun sto E P k => ?_⟩
    rw [low w v a b h2 a0 b0] at k
    exact run v _ _ sto E P h1 (by omega) (mod_rng v a).1 (mod_rng v a).2 (mod_rng v b).1 (mod_rng v b).2 k
theorem lab_one {L : Str} (f : Int → Int → Int) (hs : ∀ sto, f_shape_of [.str L] sto = .rt (.tup [.str "word", .tup [.str "word"]]) sto) (nat : L ≠ "at")
    (run : ∀ (w : Nat) (a : Int) (sto : Sto) (E : XPost) (P : D → Sto → Prop), 1 ≤ w → w ≤ 300 → 0 ≤ a → a < 2 ^ w → P (.int (f (2 ^ w) a)) sto → Wf (f_made [.str L, .int (2 ^ w), .lst [.int a]] sto) E P)
    (rng : ∀ (w : Nat) (a : Int), 0 ≤ a → a < 2 ^ w → 0 ≤ f (2 ^ w) a ∧ f (2 ^ w) a < 2 ^ w)
    (low : ∀ (w v : Nat) (a : Int), v ≤ w → 0 ≤ a → f (2 ^ w) a % 2 ^ v = f (2 ^ v) (a % 2 ^ v)) : LabOk L [.str "word"] where
  shape := hs
  nat := nat
  kn := by decide
  made := fun w v vs h1 h2 h3 hf => by
    obtain ⟨a, rfl, a0, a1⟩ := hf.one
    have r := rng w a a0 a1
    refine ⟨f (2 ^ w) a, r.1, r.2, fun sto E P k => run w a sto E P (by omega) h3 a0 a1 k, fun sto E P k => ?_⟩
    rw [low w v a h2 a0] at k
    exact run v _ sto E P h1 (by omega) (mod_rng v a).1 (mod_rng v a).2 k

theorem sh_add (sto : Sto) : f_shape_of [.str "add"] sto = .rt (.tup [.str "word", .tup [.str "word", .str "word"]]) sto := by kernel_rfl
theorem lab_add : LabOk "add" [.str "word", .str "word"] := by
  refine lab_two (fun M a b => (a + b) % M) sh_add (by decide) (fun w a b sto E P w1 w2 a0 a1 b0 b1 k => ?_) (fun w a b a0 a1 b0 b1 => mod_rng w _) fun w v a b h h0 h1 => ?_
  · have p2 := two_nn w
    refine Wf.fn ?_
    unfold m_made
    repeat walk_at "evs"
    refine Wf.of_eq (sh_add _) ?_
    repeat walk_at "evs"
    refine Wf.fn ?_
    unfold m_joined
    repeat walk_at "evs"
    exact k
  · exact m_mod h _ _ (Int.add_emod a b _)
theorem sh_sub (sto : Sto) : f_shape_of [.str "sub"] sto = .rt (.tup [.str "word", .tup [.str "word", .str "word"]]) sto := by kernel_rfl
theorem lab_sub : LabOk "sub" [.str "word", .str "word"] := by
  refine lab_two (fun M a b => (a - b) % M) sh_sub (by decide) (fun w a b sto E P w1 w2 a0 a1 b0 b1 k => ?_) (fun w a b a0 a1 b0 b1 => mod_rng w _) fun w v a b h h0 h1 => ?_
  · have p2 := two_nn w
    refine Wf.fn ?_
    unfold m_made
    repeat walk_at "evs"
    refine Wf.of_eq (sh_sub _) ?_
    repeat walk_at "evs"
    refine Wf.fn ?_
    unfold m_joined
    repeat walk_at "evs"
    exact k
  · exact m_mod h _ _ (Int.sub_emod a b _)
theorem sh_mul (sto : Sto) : f_shape_of [.str "mul"] sto = .rt (.tup [.str "word", .tup [.str "word", .str "word"]]) sto := by kernel_rfl
theorem lab_mul : LabOk "mul" [.str "word", .str "word"] := by
  refine lab_two (fun M a b => a * b % M) sh_mul (by decide) (fun w a b sto E P w1 w2 a0 a1 b0 b1 k => ?_) (fun w a b a0 a1 b0 b1 => mod_rng w _) fun w v a b h h0 h1 => ?_
  · have p2 := two_nn w
    refine Wf.fn ?_
    unfold m_made
    repeat walk_at "evs"
    refine Wf.of_eq (sh_mul _) ?_
    repeat walk_at "evs"
    refine Wf.fn ?_
    unfold m_joined
    repeat walk_at "evs"
    refine X2.mul (cMul_ok (bits2 a0 a1) (bits2 b0 b1) (by omega)) ?_
    repeat walk_at "evs"
    exact k
  · exact m_mod h _ _ (Int.mul_emod a b _)
theorem sh_and (sto : Sto) : f_shape_of [.str "and"] sto = .rt (.tup [.str "word", .tup [.str "word", .str "word"]]) sto := by kernel_rfl
theorem lab_and : LabOk "and" [.str "word", .str "word"] := by
  refine lab_two (fun _ a b => Builtin.bitAnd a b) sh_and (by decide) (fun w a b sto E P w1 w2 a0 a1 b0 b1 k => ?_) (fun w a b a0 a1 b0 b1 => and_rng a0 b0 a1) fun w v a b h h0 h1 => ?_
  · have p2 := two_nn w
    refine Wf.fn ?_
    unfold m_made
    repeat walk_at "evs"
    refine Wf.of_eq (sh_and _) ?_
    repeat walk_at "evs"
    refine Wf.fn ?_
    unfold m_joined
    repeat walk_at "evs"
    exact k
  · exact and_mod h0 h1
theorem sh_or (sto : Sto) : f_shape_of [.str "or"] sto = .rt (.tup [.str "word", .tup [.str "word", .str "word"]]) sto := by kernel_rfl
theorem lab_or : LabOk "or" [.str "word", .str "word"] := by
  refine lab_two (fun _ a b => Builtin.bitOr a b) sh_or (by decide) (fun w a b sto E P w1 w2 a0 a1 b0 b1 k => ?_) (fun w a b a0 a1 b0 b1 => or_rng a0 b0 a1 b1) fun w v a b h h0 h1 => ?_
  · have p2 := two_nn w
    refine Wf.fn ?_
    unfold m_made
    repeat walk_at "evs"
    refine Wf.of_eq (sh_or _) ?_
    repeat walk_at "evs"
    refine Wf.fn ?_
    unfold m_joined
    repeat walk_at "evs"
    exact k
  · exact or_mod h0 h1
theorem sh_xor (sto : Sto) : f_shape_of [.str "xor"] sto = .rt (.tup [.str "word", .tup [.str "word", .str "word"]]) sto := by kernel_rfl
theorem lab_xor : LabOk "xor" [.str "word", .str "word"] := by
  refine lab_two (fun _ a b => Builtin.bitXor a b) sh_xor (by decide) (fun w a b sto E P w1 w2 a0 a1 b0 b1 k => ?_) (fun w a b a0 a1 b0 b1 => xor_rng a0 b0 a1 b1) fun w v a b h h0 h1 => ?_
  · have p2 := two_nn w
    refine Wf.fn ?_
    unfold m_made
    repeat walk_at "evs"
    refine Wf.of_eq (sh_xor _) ?_
    repeat walk_at "evs"
    refine Wf.fn ?_
    unfold m_joined
    repeat walk_at "evs"
    exact k
  · exact xor_mod h0 h1
theorem sh_neg (sto : Sto) : f_shape_of [.str "neg"] sto = .rt (.tup [.str "word", .tup [.str "word"]]) sto := by kernel_rfl
theorem lab_neg : LabOk "neg" [.str "word"] := by
  refine lab_one (fun M a => (0 - a) % M) sh_neg (by decide) (fun w a sto E P w1 w2 a0 a1 k => ?_) (fun w a a0 a1 => mod_rng w _) fun w v a h h0 => ?_
  · have p2 := two_nn w
    refine Wf.fn ?_
    unfold m_made
    repeat walk_at "evs"
    exact k
  · exact m_mod h _ _ (by rw [Int.sub_emod, Int.sub_emod 0 (a % 2 ^ v), Int.emod_emod])
theorem sh_flip (sto : Sto) : f_shape_of [.str "flip"] sto = .rt (.tup [.str "word", .tup [.str "word"]]) sto := by kernel_rfl
theorem lab_flip : LabOk "flip" [.str "word"] := by
  refine lab_one (fun M a => M - 1 - a) sh_flip (by decide) (fun w a sto E P w1 w2 a0 a1 k => ?_) (fun w a a0 a1 => ⟨by omega, by omega⟩) fun w v a h h0 => ?_
  · have p2 := two_nn w
    refine Wf.fn ?_
    unfold m_made
    repeat walk_at "evs"
    exact k
  · exact flip_mod h a
theorem sh_if (sto : Sto) : f_shape_of [.str "if"] sto = .rt (.tup [.str "word", .tup [.str "truth", .str "word", .str "word"]]) sto := by kernel_rfl
theorem lab_if : LabOk "if" [.str "truth", .str "word", .str "word"] where
  shape := sh_if
  nat := by decide
  kn := by decide
  made := fun w v vs h1 h2 h3 hf => by
    obtain ⟨t, a, b, rfl, a0, a1, b0, b1⟩ := hf.three
    cases t
    · refine ⟨b, b0, b1, fun sto E P k => ?_, fun sto E P k => ?_⟩
      · refine Wf.fn ?_
        unfold m_made
        repeat walk_at "evs"
        exact k
      · show Wf (f_made [.str "if", .int (2 ^ v), .lst [.bl false, .int (a % 2 ^ v), .int (b % 2 ^ v)]] sto) E P
        refine Wf.fn ?_
        unfold m_made
        repeat walk_at "evs"
        exact k
    · refine ⟨a, a0, a1, fun sto E P k => ?_, fun sto E P k => ?_⟩
      · refine Wf.fn ?_
        unfold m_made
        repeat walk_at "evs"
        exact k
      · show Wf (f_made [.str "if", .int (2 ^ v), .lst [.bl true, .int (a % 2 ^ v), .int (b % 2 ^ v)]] sto) E P
        refine Wf.fn ?_
        unfold m_made
        repeat walk_at "evs"
        exact k
structure ShF (k : Int) : Prop where
  up : ∀ sto, f_bits_up [.str (labS k)] sto = .rt (.int k) sto
  shape : ∀ sto, f_shape_of [.str (labS k)] sto = .rt (.tup [.str "word", .tup [.str "word"]]) sto
  nat : decide (labS k = "at") = false
  nif : decide (labS k = "if") = false
  nneg : decide (labS k = "neg") = false
  nflip : decide (labS k = "flip") = false
  nno : decide (labS k = "no") = false
  st : Txt.startswith (labS k) "shl " = true
  len : Nat.ble (labS k).length sizeLine = true
theorem shf1 : ShF 1 := ⟨fun sto => by kernel_rfl, fun sto => by kernel_rfl, by kernel_rfl, by kernel_rfl, by kernel_rfl, by kernel_rfl, by kernel_rfl, by kernel_rfl, by kernel_rfl⟩
theorem shf2 : ShF 2 := ⟨fun sto => by kernel_rfl, fun sto => by kernel_rfl, by kernel_rfl, by kernel_rfl, by kernel_rfl, by kernel_rfl, by kernel_rfl, by kernel_rfl, by kernel_rfl⟩
theorem shf3 : ShF 3 := ⟨fun sto => by kernel_rfl, fun sto => by kernel_rfl, by kernel_rfl, by kernel_rfl, by kernel_rfl, by kernel_rfl, by kernel_rfl, by kernel_rfl, by kernel_rfl⟩
theorem shf4 : ShF 4 := ⟨fun sto => by kernel_rfl, fun sto => by kernel_rfl, by kernel_rfl, by kernel_rfl, by kernel_rfl, by kernel_rfl, by kernel_rfl, by kernel_rfl, by kernel_rfl⟩
theorem shf5 : ShF 5 := ⟨fun sto => by kernel_rfl, fun sto => by kernel_rfl, by kernel_rfl, by kernel_rfl, by kernel_rfl, by kernel_rfl, by kernel_rfl, by kernel_rfl, by kernel_rfl⟩
theorem shf6 : ShF 6 := ⟨fun sto => by kernel_rfl, fun sto => by kernel_rfl, by kernel_rfl, by kernel_rfl, by kernel_rfl, by kernel_rfl, by kernel_rfl, by kernel_rfl, by kernel_rfl⟩
theorem shf7 : ShF 7 := ⟨fun sto => by kernel_rfl, fun sto => by kernel_rfl, by kernel_rfl, by kernel_rfl, by kernel_rfl, by kernel_rfl, by kernel_rfl, by kernel_rfl, by kernel_rfl⟩
theorem shf8 : ShF 8 := ⟨fun sto => by kernel_rfl, fun sto => by kernel_rfl, by kernel_rfl, by kernel_rfl, by kernel_rfl, by kernel_rfl, by kernel_rfl, by kernel_rfl, by kernel_rfl⟩
theorem shf9 : ShF 9 := ⟨fun sto => by kernel_rfl, fun sto => by kernel_rfl, by kernel_rfl, by kernel_rfl, by kernel_rfl, by kernel_rfl, by kernel_rfl, by kernel_rfl, by kernel_rfl⟩
theorem shf10 : ShF 10 := ⟨fun sto => by kernel_rfl, fun sto => by kernel_rfl, by kernel_rfl, by kernel_rfl, by kernel_rfl, by kernel_rfl, by kernel_rfl, by kernel_rfl, by kernel_rfl⟩
theorem shf11 : ShF 11 := ⟨fun sto => by kernel_rfl, fun sto => by kernel_rfl, by kernel_rfl, by kernel_rfl, by kernel_rfl, by kernel_rfl, by kernel_rfl, by kernel_rfl, by kernel_rfl⟩
theorem shf12 : ShF 12 := ⟨fun sto => by kernel_rfl, fun sto => by kernel_rfl, by kernel_rfl, by kernel_rfl, by kernel_rfl, by kernel_rfl, by kernel_rfl, by kernel_rfl, by kernel_rfl⟩
theorem shf13 : ShF 13 := ⟨fun sto => by kernel_rfl, fun sto => by kernel_rfl, by kernel_rfl, by kernel_rfl, by kernel_rfl, by kernel_rfl, by kernel_rfl, by kernel_rfl, by kernel_rfl⟩
theorem shf14 : ShF 14 := ⟨fun sto => by kernel_rfl, fun sto => by kernel_rfl, by kernel_rfl, by kernel_rfl, by kernel_rfl, by kernel_rfl, by kernel_rfl, by kernel_rfl, by kernel_rfl⟩
theorem shf15 : ShF 15 := ⟨fun sto => by kernel_rfl, fun sto => by kernel_rfl, by kernel_rfl, by kernel_rfl, by kernel_rfl, by kernel_rfl, by kernel_rfl, by kernel_rfl, by kernel_rfl⟩
theorem shf16 : ShF 16 := ⟨fun sto => by kernel_rfl, fun sto => by kernel_rfl, by kernel_rfl, by kernel_rfl, by kernel_rfl, by kernel_rfl, by kernel_rfl, by kernel_rfl, by kernel_rfl⟩
theorem shf17 : ShF 17 := ⟨fun sto => by kernel_rfl, fun sto => by kernel_rfl, by kernel_rfl, by kernel_rfl, by kernel_rfl, by kernel_rfl, by kernel_rfl, by kernel_rfl, by kernel_rfl⟩
theorem shf18 : ShF 18 := ⟨fun sto => by kernel_rfl, fun sto => by kernel_rfl, by kernel_rfl, by kernel_rfl, by kernel_rfl, by kernel_rfl, by kernel_rfl, by kernel_rfl, by kernel_rfl⟩
theorem shf19 : ShF 19 := ⟨fun sto => by kernel_rfl, fun sto => by kernel_rfl, by kernel_rfl, by kernel_rfl, by kernel_rfl, by kernel_rfl, by kernel_rfl, by kernel_rfl, by kernel_rfl⟩
theorem shf20 : ShF 20 := ⟨fun sto => by kernel_rfl, fun sto => by kernel_rfl, by kernel_rfl, by kernel_rfl, by kernel_rfl, by kernel_rfl, by kernel_rfl, by kernel_rfl, by kernel_rfl⟩
theorem shf21 : ShF 21 := ⟨fun sto => by kernel_rfl, fun sto => by kernel_rfl, by kernel_rfl, by kernel_rfl, by kernel_rfl, by kernel_rfl, by kernel_rfl, by kernel_rfl, by kernel_rfl⟩
theorem shf22 : ShF 22 := ⟨fun sto => by kernel_rfl, fun sto => by kernel_rfl, by kernel_rfl, by kernel_rfl, by kernel_rfl, by kernel_rfl, by kernel_rfl, by kernel_rfl, by kernel_rfl⟩
theorem shf23 : ShF 23 := ⟨fun sto => by kernel_rfl, fun sto => by kernel_rfl, by kernel_rfl, by kernel_rfl, by kernel_rfl, by kernel_rfl, by kernel_rfl, by kernel_rfl, by kernel_rfl⟩
theorem shf24 : ShF 24 := ⟨fun sto => by kernel_rfl, fun sto => by kernel_rfl, by kernel_rfl, by kernel_rfl, by kernel_rfl, by kernel_rfl, by kernel_rfl, by kernel_rfl, by kernel_rfl⟩
theorem shf25 : ShF 25 := ⟨fun sto => by kernel_rfl, fun sto => by kernel_rfl, by kernel_rfl, by kernel_rfl, by kernel_rfl, by kernel_rfl, by kernel_rfl, by kernel_rfl, by kernel_rfl⟩
theorem shf26 : ShF 26 := ⟨fun sto => by kernel_rfl, fun sto => by kernel_rfl, by kernel_rfl, by kernel_rfl, by kernel_rfl, by kernel_rfl, by kernel_rfl, by kernel_rfl, by kernel_rfl⟩
theorem shf27 : ShF 27 := ⟨fun sto => by kernel_rfl, fun sto => by kernel_rfl, by kernel_rfl, by kernel_rfl, by kernel_rfl, by kernel_rfl, by kernel_rfl, by kernel_rfl, by kernel_rfl⟩
theorem shf28 : ShF 28 := ⟨fun sto => by kernel_rfl, fun sto => by kernel_rfl, by kernel_rfl, by kernel_rfl, by kernel_rfl, by kernel_rfl, by kernel_rfl, by kernel_rfl, by kernel_rfl⟩
theorem shf29 : ShF 29 := ⟨fun sto => by kernel_rfl, fun sto => by kernel_rfl, by kernel_rfl, by kernel_rfl, by kernel_rfl, by kernel_rfl, by kernel_rfl, by kernel_rfl, by kernel_rfl⟩
theorem shf30 : ShF 30 := ⟨fun sto => by kernel_rfl, fun sto => by kernel_rfl, by kernel_rfl, by kernel_rfl, by kernel_rfl, by kernel_rfl, by kernel_rfl, by kernel_rfl, by kernel_rfl⟩
theorem shf31 : ShF 31 := ⟨fun sto => by kernel_rfl, fun sto => by kernel_rfl, by kernel_rfl, by kernel_rfl, by kernel_rfl, by kernel_rfl, by kernel_rfl, by kernel_rfl, by kernel_rfl⟩
theorem shf (k : Int) (h0 : 1 ≤ k) (h1 : k ≤ 31) : ShF k := by
  have : k = 1 ∨ k = 2 ∨ k = 3 ∨ k = 4 ∨ k = 5 ∨ k = 6 ∨ k = 7 ∨ k = 8 ∨ k = 9 ∨ k = 10 ∨ k = 11 ∨ k = 12 ∨ k = 13 ∨ k = 14 ∨ k = 15 ∨ k = 16 ∨ k = 17 ∨ k = 18 ∨ k = 19 ∨ k = 20 ∨ k = 21 ∨ k = 22 ∨ k = 23 ∨ k = 24 ∨ k = 25 ∨ k = 26 ∨ k = 27 ∨ k = 28 ∨ k = 29 ∨ k = 30 ∨ k = 31 := by omega
  rcases this with rfl | rfl | rfl | rfl | rfl | rfl | rfl | rfl | rfl | rfl | rfl | rfl | rfl | rfl | rfl | rfl | rfl | rfl | rfl | rfl | rfl | rfl | rfl | rfl | rfl | rfl | rfl | rfl | rfl | rfl | rfl
  · exact shf1
  · exact shf2
  · exact shf3
  · exact shf4
  · exact shf5
  · exact shf6
  · exact shf7
  · exact shf8
  · exact shf9
  · exact shf10
  · exact shf11
  · exact shf12
  · exact shf13
  · exact shf14
  · exact shf15
  · exact shf16
  · exact shf17
  · exact shf18
  · exact shf19
  · exact shf20
  · exact shf21
  · exact shf22
  · exact shf23
  · exact shf24
  · exact shf25
  · exact shf26
  · exact shf27
  · exact shf28
  · exact shf29
  · exact shf30
  · exact shf31
theorem lab_shl {k : Int} (h0 : 1 ≤ k) (h1 : k ≤ 31) : LabOk (labS k) [.str "word"] := by
  have F := shf k h0 h1
  refine lab_one (fun M a => a * 2 ^ k.toNat % M) F.shape (of_decide_eq_false F.nat) (fun w a sto E P w1 w2 a0 a1 kk => ?_) (fun w a a0 a1 => mod_rng w _) fun w v a h h0 => ?_
  · have p2 := two_nn w
    refine Wf.fn ?_
    unfold m_made
    repeat walk_at "evs"
    refine Xc.f F.nif ?_
    repeat walk_at "evs"
    refine Xc.f F.nneg ?_
    repeat walk_at "evs"
    refine Xc.f F.nflip ?_
    repeat walk_at "evs"
    refine Xc.f F.nno ?_
    repeat walk_at "evs"
    refine Xc.t F.st ?_
    repeat walk_at "evs"
    refine Wf.of_eq (F.up _) ?_
    repeat walk_at "evs"
    refine X2.shl (cShl_ok (by omega) (by omega) (bits2 a0 a1) (by omega)) ?_
    repeat walk_at "evs"
    exact kk
  · have e1 := Int.mul_emod a (2 ^ k.toNat) (2 ^ v)
    have e2 := Int.mul_emod (a % 2 ^ v) (2 ^ k.toNat) (2 ^ v)
    rw [Int.emod_emod_of_dvd a (Int.dvd_refl _)] at e2
    exact m_mod h _ _ (e1.trans e2.symm)

theorem We.compJ {E : XPost} {s : Sx} {Q : List D → Sx → Prop} {mi : M (List D)} {m : M D} {j : Nat} (J : List D → Sto → Prop)
    (h : We (mi s) E fun items s0 => noOw s0.env [j] = true ∧ j < s0.env.length ∧ items.length ≤ sizeLine ∧ J [] s0.sto ∧
      (∀ d acc sto, items[acc.length]? = some d → J acc sto → We (m ⟨s0.env.set j (.sh d), sto⟩) Xn fun z s2 => s2.env = s0.env.set j (.sh d) ∧ J (acc ++ [z]) s2.sto) ∧
      (∀ acc sto, acc.length = items.length → J acc sto → Q acc ⟨s0.env, sto⟩)) : We (mComp mi (tgN j) (M.pure true) m [j] s) E Q := by
  refine We.comp (h.imp fun items s0 ⟨h1, hj, h2, h3, h4, h5⟩ => ⟨h1, ?_⟩)
  obtain ⟨acc, s', e, e1, e2, e3⟩ := compL_inv (t := tgN j) (c := M.pure true) (m := m) (ws := [j]) (fun rest acc s => s.env.set j .un = s0.env.set j .un ∧ rest = items.drop acc.length ∧ acc.length ≤ items.length ∧ J acc s.sto)
    (by
      rintro d ds acc s ⟨a1, a2, a3, a4⟩
      have hd : items[acc.length]? = some d := by
        have : (items.drop acc.length)[0]? = some d := by rw [← a2]; rfl
        rwa [List.getElem?_drop, Nat.add_zero] at this
      have hlt : acc.length < items.length := (List.getElem?_eq_some_iff.mp hd).1
      refine ⟨by omega, _, rfl, ?_⟩
      refine We.pure (Xc.t rfl ?_)
      have en : ({ s with env := wipeE s.env [j] } : Sx).put j d = ⟨s0.env.set j (.sh d), s.sto⟩ := by
        show (⟨(s.env.set j .un).set j (.sh d), s.sto⟩ : Sx) = _
        rw [a1, List.set_set]
      have w := h4 d acc s.sto hd a4
      rw [← en] at w
      refine w.imp fun z s2 ⟨b1, b2⟩ => ⟨?_, ?_, ?_, b2⟩
      · rw [b1, List.set_set]
      · rw [List.length_append, List.length_singleton, ← List.drop_drop, ← a2]
        rfl
      · simp; omega)
    items [] s0 ⟨rfl, rfl, Nat.zero_le _, h3⟩
  refine ⟨acc, s', e, ?_⟩
  obtain ⟨e2, e4, e5⟩ := (⟨e2, e3⟩ : _ ∧ _ ∧ _)
  have hl : acc.length = items.length := by
    have : (items.drop acc.length).length = 0 := by rw [← e2]; rfl
    simp at this
    omega
  have w := h5 acc s'.sto hl e5
  have en : rest_ s0.env s'.env [j] = s0.env := by
    obtain ⟨x, hx⟩ : ∃ x, s0.env[j]? = some x := ⟨_, List.getElem?_eq_getElem hj⟩
    show (match s0.env[j]? with
      | some x => s'.env.set j x
      | none => s'.env) = _
    rw [hx]
    have z : (s'.env.set j .un).set j x = (s0.env.set j .un).set j x := by rw [e1]
    rw [List.set_set, List.set_set] at z
    show s'.env.set j x = s0.env
    rw [z]
    refine List.ext_getElem? fun i => ?_
    by_cases hi : j = i
    · subst hi; rw [List.getElem?_set_self hj, hx]
    · rw [List.getElem?_set_ne hi]
  show Q acc { env := rest_ s0.env s'.env [j], sto := s'.sto }
  rw [en]
  exact w
/-! ### the comparisons -/
theorem sh_eq (sto : Sto) : f_shape_of [.str "eq"] sto = .rt (.tup [.str "truth", .tup [.str "word", .str "word"]]) sto := by kernel_rfl
theorem sh_lt (sto : Sto) : f_shape_of [.str "lt"] sto = .rt (.tup [.str "truth", .tup [.str "word", .str "word"]]) sto := by kernel_rfl
theorem sh_less (sto : Sto) : f_shape_of [.str "less"] sto = .rt (.tup [.str "truth", .tup [.str "word", .str "word"]]) sto := by kernel_rfl
theorem fits2 {L a b : Int} (a0 : 0 ≤ a) (a1 : a < L) (b0 : 0 ≤ b) (b1 : b < L) : Fits L [.str "word", .str "word"] [.int a, .int b] := .w a0 a1 (.w b0 b1 .nil)
section
variable {w : Nat} {a b : Int} {cont : D} {sto : Sto} {E : XPost} {P : D → Sto → Prop}
theorem w_eq (hc : Cont cont [.int a, .int b]) (w1 : 1 ≤ w) (w2 : w ≤ 300) (a0 : 0 ≤ a) (a1 : a < 2 ^ w) (b0 : 0 ≤ b) (b1 : b < 2 ^ w) (k : P (.bl (decide (a = b))) sto) : Wf (f_worked [.str "eq", .int w, cont] sto) E P := by
  refine w_worked sh_eq (by decide) hc w1 w2 (fits2 a0 a1 b0 b1) ?_
  rcases hc with rfl | rfl
  all_goals
    refine Wf.fn ?_
    unfold m_made
    repeat walk_at "evs"
    refine Wf.of_eq (sh_eq _) ?_
    repeat walk_at "evs"
    refine Wf.fn ?_
    unfold m_told_true
    repeat walk_at "evs"
    exact k
theorem w_lt (w1 : 1 ≤ w) (w2 : w ≤ 300) (a0 : 0 ≤ a) (a1 : a < 2 ^ w) (b0 : 0 ≤ b) (b1 : b < 2 ^ w) (k : P (.bl (decide (a < b))) sto) : Wf (f_worked [.str "lt", .int w, .lst [.int a, .int b]] sto) E P := by
  refine w_worked sh_lt (by decide) (.inl rfl) w1 w2 (fits2 a0 a1 b0 b1) ?_
  refine Wf.fn ?_
  unfold m_made
  repeat walk_at "evs"
  refine Wf.of_eq (sh_lt _) ?_
  repeat walk_at "evs"
  refine Wf.fn ?_
  unfold m_told_true
  repeat walk_at "evs"
  exact k
/-- a word with its top bit turned about -/
def up (w : Nat) (a : Int) : Int := (a + 2 ^ w / 2) % 2 ^ w
theorem w_less (w1 : 1 ≤ w) (w2 : w ≤ 300) (a0 : 0 ≤ a) (a1 : a < 2 ^ w) (b0 : 0 ≤ b) (b1 : b < 2 ^ w) (k : P (.bl (decide (up w a < up w b))) sto) : Wf (f_worked [.str "less", .int w, .lst [.int a, .int b]] sto) E P := by
  refine w_worked sh_less (by decide) (.inl rfl) w1 w2 (fits2 a0 a1 b0 b1) ?_
  have p2 := two_nn w
  refine Wf.fn ?_
  unfold m_made
  repeat walk_at "evs"
  refine Wf.of_eq (sh_less _) ?_
  repeat walk_at "evs"
  refine Wf.fn ?_
  unfold m_told_true
  repeat walk_at "evs"
  exact k
end

/-! ### bits -/
def bN (b : Bool) : Nat := if b then 1 else 0
def numB : List Bool → Nat
  | [] => 0
  | b :: r => bN b + 2 * numB r
theorem numB_cons (b : Bool) (r : List Bool) : numB (b :: r) = bN b + 2 * numB r := rfl
def bitsN : Nat → Nat → List Bool
  | 0, _ => []
  | w + 1, n => (n % 2 == 1) :: bitsN w (n / 2)
theorem bitsN_len : ∀ (w n : Nat), (bitsN w n).length = w
  | 0, _ => rfl
  | w + 1, n => by unfold bitsN; rw [List.length_cons, bitsN_len w]
theorem bN_mod (n : Nat) : bN (n % 2 == 1) = n % 2 := by
  unfold bN
  rcases Nat.mod_two_eq_zero_or_one n with h | h <;> rw [h] <;> rfl
theorem numB_bits : ∀ (w n : Nat), numB (bitsN w n) = n % 2 ^ w
  | 0, n => by show 0 = n % 1; omega
  | w + 1, n => by
    show bN (n % 2 == 1) + 2 * numB (bitsN w (n / 2)) = _
    rw [bN_mod, numB_bits w, Nat.pow_succ, Nat.mul_comm (2 ^ w) 2, Nat.mod_mul]
theorem numB_lt : ∀ bs : List Bool, numB bs < 2 ^ bs.length
  | [] => by decide
  | b :: r => by
    have := numB_lt r
    simp only [numB_cons]
    rw [List.length_cons, Nat.pow_succ]
    have : bN b ≤ 1 := by unfold bN; split <;> decide
    omega
theorem numB_app : ∀ a b : List Bool, numB (a ++ b) = numB a + 2 ^ a.length * numB b
  | [], b => by simp [numB]
  | x :: a, b => by
    rw [List.cons_append, numB_cons, numB_cons, numB_app a b, List.length_cons, Nat.pow_succ, Nat.mul_add, ← Nat.mul_assoc 2, Nat.mul_comm 2 (2 ^ a.length)]
    omega
theorem numB_zeros : ∀ n : Nat, numB (List.replicate n false) = 0
  | 0 => rfl
  | n + 1 => by rw [List.replicate_succ]; rw [numB_cons, numB_zeros n]; rfl
theorem numB_inj : ∀ {a b : List Bool}, a.length = b.length → numB a = numB b → a = b
  | [], [], _, _ => rfl
  | [], _ :: _, h, _ => by simp at h
  | _ :: _, [], h, _ => by simp at h
  | x :: a, y :: b, h, e => by
    simp only [numB_cons] at e
    have hx : bN x ≤ 1 := by unfold bN; split <;> decide
    have hy : bN y ≤ 1 := by unfold bN; split <;> decide
    have e1 : bN x = bN y := by omega
    have e2 : numB a = numB b := by omega
    have e3 : x = y := by
      cases x <;> cases y <;> first | rfl | exact absurd e1 (by decide)
    rw [e3, numB_inj (by simpa using h) e2]
theorem numB_take (l : List Bool) (w : Nat) (h : w ≤ l.length) : numB (l.take w) = numB l % 2 ^ w := by
  have e := numB_app (l.take w) (l.drop w)
  have hl : (l.take w).length = w := by rw [List.length_take]; omega
  have hb := numB_lt (l.take w)
  rw [List.take_append_drop, hl] at e
  rw [hl] at hb
  rw [e, Nat.add_mul_mod_self_left, Nat.mod_eq_of_lt hb]
def notB (l : List Bool) : List Bool := l.map (!·)
theorem numB_not : ∀ l : List Bool, numB (notB l) + numB l + 1 = 2 ^ l.length
  | [] => rfl
  | b :: r => by
    have := numB_not r
    unfold notB at *
    rw [List.map_cons]
    simp only [numB_cons]
    rw [List.length_cons, Nat.pow_succ]
    have : bN (!b) + bN b = 1 := by cases b <;> rfl
    omega
/-- the bits of a sum, and the carry behind the last one -/
def addB : List Bool → List Bool → Bool → List Bool × Bool
  | a :: as, b :: bs, c => ((bN a + bN b + bN c) % 2 == 1) :: (addB as bs (decide (2 ≤ bN a + bN b + bN c))).1 |> fun l => (l, (addB as bs (decide (2 ≤ bN a + bN b + bN c))).2)
  | _, _, c => ([], c)
theorem addB_cons (a b c : Bool) (as bs : List Bool) : addB (a :: as) (b :: bs) c = (((bN a + bN b + bN c) % 2 == 1) :: (addB as bs (decide (2 ≤ bN a + bN b + bN c))).1, (addB as bs (decide (2 ≤ bN a + bN b + bN c))).2) := rfl
theorem addB_num : ∀ (a b : List Bool) (c : Bool), a.length = b.length → numB (addB a b c).1 + 2 ^ a.length * bN (addB a b c).2 = numB a + numB b + bN c ∧ (addB a b c).1.length = a.length
  | [], [], c, _ => ⟨by show numB [] + 2 ^ 0 * bN c = numB [] + numB [] + bN c; unfold numB; omega, rfl⟩
  | [], _ :: _, _, h => by simp at h
  | _ :: _, [], _, h => by simp at h
  | x :: a, y :: b, c, h => by
    obtain ⟨h1, h2⟩ := addB_num a b (decide (2 ≤ bN x + bN y + bN c)) (by simpa using h)
    rw [addB_cons]
    refine ⟨?_, by show _ + 1 = _ + 1; rw [h2]⟩
    generalize addB a b (decide (2 ≤ bN x + bN y + bN c)) = q at h1 h2
    show bN ((bN x + bN y + bN c) % 2 == 1) + 2 * numB q.1 + 2 ^ (a.length + 1) * bN q.2 = (bN x + 2 * numB a) + (bN y + 2 * numB b) + bN c
    rw [bN_mod, Nat.pow_succ, Nat.mul_right_comm]
    have e : bN x + bN y + bN c = (bN x + bN y + bN c) % 2 + 2 * bN (decide (2 ≤ bN x + bN y + bN c)) := by
      cases x <;> cases y <;> cases c <;> rfl
    generalize 2 ^ a.length * bN q.2 = z at h1 ⊢
    omega
theorem addB_sum {a b : List Bool} {c : Bool} (h : a.length = b.length) : numB (addB a b c).1 = (numB a + numB b + bN c) % 2 ^ a.length := by
  obtain ⟨h1, h2⟩ := addB_num a b c h
  have := numB_lt (addB a b c).1
  rw [h2] at this
  rw [← h1, Nat.add_mul_mod_self_left, Nat.mod_eq_of_lt this]
/-- below: no carry comes out of the difference -/
theorem addB_below {a b : List Bool} (h : a.length = b.length) : (addB a (notB b) true).2 = !decide (numB a < numB b) := by
  have hn : a.length = (notB b).length := by unfold notB; rw [List.length_map]; exact h
  obtain ⟨h1, h2⟩ := addB_num a (notB b) true hn
  have h3 := numB_not b
  have h4 := numB_lt (addB a (notB b) true).1
  have ha := numB_lt a
  have hb := numB_lt b
  rw [h2] at h4
  rw [← h] at h3 hb
  have ht : bN true = 1 := rfl
  rw [ht] at h1
  generalize 2 ^ a.length = M at *
  cases hc : (addB a (notB b) true).2 with
  | true =>
    rw [hc] at h1
    have : bN true = 1 := rfl
    rw [this] at h1
    have : ¬ numB a < numB b := by omega
    rw [decide_eq_false this]
    rfl
  | false =>
    rw [hc] at h1
    have : bN false = 0 := rfl
    rw [this] at h1
    have : numB a < numB b := by omega
    rw [decide_eq_true this]
    rfl
/-- shifted up, cut -/
def shlB (k : Nat) (l : List Bool) : List Bool := (List.replicate k false ++ l).take l.length
theorem shlB_len (k : Nat) (l : List Bool) : (shlB k l).length = l.length := by
  unfold shlB
  rw [List.length_take, List.length_append, List.length_replicate]
  omega
theorem shlB_num (k : Nat) (l : List Bool) : numB (shlB k l) = numB l * 2 ^ k % 2 ^ l.length := by
  unfold shlB
  rw [numB_take _ _ (by rw [List.length_append]; omega), numB_app, numB_zeros, List.length_replicate, Nat.zero_add, Nat.mul_comm]
/-- a product, by shifting and adding -/
def mulB (one other : List Bool) : Nat → List Bool
  | 0 => one.map fun _ => false
  | i + 1 => if other.getD i false = true then (addB (mulB one other i) (shlB i one) false).1 else mulB one other i
theorem mulB_len (one other : List Bool) : ∀ i, (mulB one other i).length = one.length
  | 0 => List.length_map _
  | i + 1 => by
    unfold mulB
    split
    · rw [(addB_num _ _ _ (by rw [shlB_len, mulB_len one other i])).2, mulB_len one other i]
    · exact mulB_len one other i
theorem numB_step : ∀ (l : List Bool) (i : Nat), i < l.length → numB l % 2 ^ (i + 1) = numB l % 2 ^ i + 2 ^ i * bN (l.getD i false)
  | [], i, h => by simp at h
  | b :: r, 0, _ => by
    simp only [numB_cons]
    show (bN b + 2 * numB r) % 2 = (bN b + 2 * numB r) % 1 + 1 * bN b
    have : bN b ≤ 1 := by unfold bN; split <;> decide
    omega
  | b :: r, i + 1, h => by
    have ih := numB_step r i (by simpa using h)
    have hb : bN b ≤ 1 := by unfold bN; split <;> decide
    have key : ∀ j, (bN b + 2 * numB r) % 2 ^ (j + 1) = bN b + 2 * (numB r % 2 ^ j) := fun j => by
      rw [Nat.pow_succ, Nat.mul_comm (2 ^ j) 2, Nat.mod_mul]
      have e1 : (bN b + 2 * numB r) % 2 = bN b := by omega
      have e2 : (bN b + 2 * numB r) / 2 = numB r := by omega
      rw [e1, e2]
    simp only [numB_cons]
    rw [key, key, ih]
    show _ = _ + 2 ^ (i + 1) * bN (r.getD i false)
    rw [Nat.pow_succ, Nat.mul_right_comm]
    omega
theorem map_false : ∀ l : List Bool, numB (l.map fun _ => false) = 0
  | [] => rfl
  | b :: l => by rw [List.map_cons]; rw [numB_cons, map_false l]; rfl
theorem mulB_num (one other : List Bool) (h : one.length = other.length) : ∀ i, i ≤ other.length → numB (mulB one other i) = numB one * (numB other % 2 ^ i) % 2 ^ one.length
  | 0, _ => by
    unfold mulB
    rw [map_false, Nat.pow_zero, Nat.mod_one, Nat.mul_zero, Nat.zero_mod]
  | i + 1, hi => by
    have ih := mulB_num one other h i (by omega)
    have hs := numB_step other i (by omega)
    unfold mulB
    rw [hs]
    cases hb : other.getD i false with
    | true =>
      rw [if_pos rfl, addB_sum (by rw [shlB_len, mulB_len]), mulB_len, ih, shlB_num]
      show (_ + _ + 0) % _ = numB one * (_ + 2 ^ i * 1) % _
      rw [Nat.add_zero, Nat.mul_one, Nat.mul_add, ← Nat.add_mod]
    | false =>
      rw [if_neg Bool.false_ne_true, ih]
      show _ = numB one * (_ + 2 ^ i * 0) % _
      rw [Nat.mul_zero, Nat.add_zero]
theorem mulB_all (one other : List Bool) (h : one.length = other.length) : numB (mulB one other one.length) = numB one * numB other % 2 ^ one.length := by
  have := numB_lt other
  rw [← h] at this
  rw [mulB_num one other h _ (by omega), Nat.mod_eq_of_lt this]
/-- bit by bit -/
def zipB (f : Bool → Bool → Bool) (a b : List Bool) : List Bool := List.zipWith f a b
theorem zipB_len {f : Bool → Bool → Bool} {a b : List Bool} (h : a.length = b.length) : (zipB f a b).length = a.length := by
  unfold zipB
  rw [List.length_zipWith]
  omega
theorem numB_tb : ∀ (l : List Bool) (i : Nat), (numB l).testBit i = l.getD i false
  | [], i => by simp [numB]
  | b :: r, 0 => by
    simp only [numB_cons]
    rw [Nat.testBit_zero]
    show decide ((bN b + 2 * numB r) % 2 = 1) = b
    cases b
    · exact decide_eq_false (by show ¬ (0 + 2 * numB r) % 2 = 1; omega)
    · exact decide_eq_true (by show (1 + 2 * numB r) % 2 = 1; omega)
  | b :: r, i + 1 => by
    simp only [numB_cons]
    rw [Nat.testBit_succ]
    have : (bN b + 2 * numB r) / 2 = numB r := by
      have : bN b ≤ 1 := by unfold bN; split <;> decide
      omega
    rw [this, numB_tb r i]
    rfl
theorem zipB_get {f : Bool → Bool → Bool} (hf : f false false = false) : ∀ {a b : List Bool} (i : Nat), a.length = b.length → (zipB f a b).getD i false = f (a.getD i false) (b.getD i false)
  | [], [], i, _ => by simp [zipB, hf]
  | [], _ :: _, _, h => by simp at h
  | _ :: _, [], _, h => by simp at h
  | x :: a, y :: b, 0, _ => rfl
  | x :: a, y :: b, i + 1, h => zipB_get hf (a := a) (b := b) i (by simpa using h)
theorem numB_and {a b : List Bool} (h : a.length = b.length) : numB (zipB (· && ·) a b) = numB a &&& numB b := by
  apply Nat.eq_of_testBit_eq
  intro i
  rw [Nat.testBit_and, numB_tb, numB_tb, numB_tb, zipB_get rfl i h]
theorem numB_or {a b : List Bool} (h : a.length = b.length) : numB (zipB (· || ·) a b) = numB a ||| numB b := by
  apply Nat.eq_of_testBit_eq
  intro i
  rw [Nat.testBit_or, numB_tb, numB_tb, numB_tb, zipB_get rfl i h]
theorem numB_xor {a b : List Bool} (h : a.length = b.length) : numB (zipB (fun x y => x != y) a b) = numB a ^^^ numB b := by
  apply Nat.eq_of_testBit_eq
  intro i
  rw [Nat.testBit_xor, numB_tb, numB_tb, numB_tb, zipB_get rfl i h]

theorem rest_same {old new : List Sl} {ws : List Nat} (h : wipeE new ws = wipeE old ws) : rest_ old new ws = old := by
  have hl : old.length = new.length := by
    have := congrArg List.length h
    rw [wipeE_len, wipeE_len] at this
    exact this.symm
  refine List.ext_getElem? fun i => ?_
  rw [rest_get hl]
  by_cases hi : i ∈ ws
  · rw [if_pos hi]
  · rw [if_neg hi, ← wipeE_out (l := new) hi, h, wipeE_out hi]
/-- a comprehension whose turns change nothing: p lets, g makes -/
theorem We.compP {E : XPost} {s : Sx} {Q : List D → Sx → Prop} {mi : M (List D)} {t : Tg} {c : M Bool} {m : M D} {ws : List Nat} (p : D → Bool) (g : D → D)
    (h : We (mi s) E fun items s0 => noOw s0.env ws = true ∧ items.length < sizeLine ∧
      (∀ d ∈ items, ∃ s1, t.run d ⟨wipeE s0.env ws, s0.sto⟩ = some s1 ∧ s1.sto = s0.sto ∧ wipeE s1.env ws = wipeE s0.env ws ∧ We (c s1) Xn fun b s2 => b = p d ∧ s2 = s1 ∧ (b = true → We (m s1) Xn fun z s3 => z = g d ∧ s3 = s1)) ∧
      Q ((items.filter p).map g) s0) : We (mComp mi t c m ws s) E Q := by
  refine We.comp (h.imp fun items s0 ⟨h1, h2, h3, h4⟩ => ⟨h1, ?_⟩)
  obtain ⟨acc, s', e, a1, a2, done, a3, a4⟩ := compL_inv (t := t) (c := c) (m := m) (ws := ws) (fun rest acc s => s.sto = s0.sto ∧ wipeE s.env ws = wipeE s0.env ws ∧ ∃ done, items = done ++ rest ∧ acc = (done.filter p).map g)
    (by
      rintro d ds acc s ⟨a1, a2, done, a3, rfl⟩
      obtain ⟨s1, e1, e2, e3, e4⟩ := h3 d (by rw [a3]; simp)
      refine ⟨?_, s1, ?_, ?_⟩
      · have l1 := congrArg List.length a3
        have l2 := List.length_filter_le p done
        simp at l1
        simp
        omega
      · have : ({ s with env := wipeE s.env ws } : Sx) = ⟨wipeE s0.env ws, s0.sto⟩ := by
          rw [← a2, ← a1]
        rw [this]; exact e1
      · refine e4.imp fun b s2 ⟨hb, hs, hm⟩ => ?_
        subst hs
        refine ⟨fun ht => (hm ht).imp fun z s3 ⟨hz, hs3⟩ => ?_, fun hf => ?_⟩
        · subst hs3 hz
          exact ⟨e2, e3, done ++ [d], by rw [a3]; simp, by rw [List.filter_append, List.map_append]; simp [← hb, ht]⟩
        · exact ⟨e2, e3, done ++ [d], by rw [a3]; simp, by rw [List.filter_append, List.map_append]; simp [← hb, hf]⟩)
    items [] s0 ⟨rfl, rfl, [], rfl, rfl⟩
  refine ⟨acc, s', e, ?_⟩
  rw [List.append_nil] at a3
  subst a3
  rw [rest_same a2, a4]
  have : (⟨s0.env, s'.sto⟩ : Sx) = s0 := by rw [a1]
  show Q _ ⟨s0.env, s'.sto⟩
  rw [this]
  exact h4
/-! ### the law's own bits -/
def bI : Bool → D
  | true => .int 1
  | false => .int 0
theorem bIt : bI true = .int 1 := rfl
theorem bIf : bI false = .int 0 := rfl
abbrev bL (l : List Bool) : D := .lst (l.map bI)
theorem bI_eq (b : Bool) : bI b = .int ((bN b : Nat) : Int) := by cases b <;> rfl
theorem bI_mod (n : Nat) : D.int ((n : Int) % 2) = bI (n % 2 == 1) := by
  rw [bI_eq, bN_mod]
  rfl
theorem rngL_len (w : Nat) : (rngL 0 w).length = w := by unfold rngL; rw [List.length_map, List.length_range]
theorem XI.rngN {w : Nat} {PL : List D → Prop} (hw : w ≤ 1000000) (h : PL (rngL 0 w)) : XI gRng1 [.int (w : Nat)] PL := XI.rng1 (by omega) (by omega) (by rw [Int.toNat_natCast]; exact h)
theorem we_rngN {i w : Nat} (hw : w ≤ 1000000) {s : Sx} {E : XPost} {QL : List D → Sx → Prop} (e : s.env[i]? = some (.sh (.int (w : Nat)))) (q : QL (rngL 0 w) s) : We (mRng gRng1 (mCons (mVar i) (mNil)) s) E QL :=
  We.mRng (We.cons (We.var e (We.nil (XI.rngN hw q))))
theorem w_bitsF {fb : Fn} (e : fb = f__law_bits) {n w : Nat} (hw : w ≤ 300) {sto : Sto} {E : XPost} {P : D → Sto → Prop} (k : P (bL (bitsN w n)) sto) : Wf (fb [.int (n : Nat), .int (w : Nat)] sto) E P := by
  subst e
  have hz : sizeLine = 16777216 := by decide
  have hr : ∀ {s : Sx} {E : XPost} {QL : List D → Sx → Prop}, s.env[1]? = some (.sh (.int (w : Nat))) → QL (rngL 0 w) s → We (mRng gRng1 (mCons (mVar 1) (mNil)) s) E QL := fun e q => we_rngN (by omega) e q
  refine Wf.fn ?_
  unfold m__law_bits
  generalize mRng gRng1 (mCons (mVar 1) (mNil)) = mi at hr
  repeat walk_at "evs"
  refine hr rfl ?_
  have hlen : (rngL 0 w).length = w := rngL_len w
  generalize rngL 0 w = items at hlen ⊢
  refine forL_inv (fun rest s => ∃ (m : Nat) (done : List Bool) (x3 : Sl), s = ⟨[.sh (.int (m : Nat)), .sh (.int (w : Nat)), .ow (done.map bI), x3], sto⟩ ∧ done ++ bitsN rest.length m = bitsN w n ∧ done.length + rest.length = w) ?_ ?_ _ _ ⟨n, [], .un, rfl, by rw [hlen]; rfl, by rw [hlen]; simp⟩
  · rintro d ds s ⟨m, done, x3, rfl, h1, h2⟩
    rw [List.length_cons] at h1 h2
    refine ⟨_, rfl, ?_⟩
    unfold m__law_bits_b1
    refine Ws.seq (Ws.app rfl ?_)
    repeat walk_at "evs"
    refine XApp.own (by rfl) (by rw [List.length_map]; omega) ?_
    repeat walk_at "evs"
    refine ⟨m / 2, done ++ [m % 2 == 1], .sh d, ?_, ?_, ?_⟩
    · rw [bI_mod, List.map_append]
      rfl
    · rw [List.append_assoc]
      exact h1
    · rw [List.length_append, List.length_singleton]
      omega
  · rintro s ⟨m, done, x3, rfl, h1, h2⟩
    rw [List.length_nil] at h1
    have e : done = bitsN w n := by rw [← h1]; exact (List.append_nil done).symm
    subst e
    repeat walk_at "evs"
    exact k
theorem w_number {l : List Bool} (hl : l.length ≤ 300) {sto : Sto} {E : XPost} {P : D → Sto → Prop} (k : P (.int (numB l : Nat)) sto) : Wf (f__law_number [bL l] sto) E P := by
  refine Wf.fn ?_
  unfold m__law_number
  repeat walk_at "evs"
  rw [← List.map_reverse]
  refine forL_inv (fun rest s => ∃ (done todo : List Bool) (x2 : Sl), l.reverse = done ++ todo ∧ rest = todo.map bI ∧ s = ⟨[.sh (bL l), .sh (.int (numB done.reverse : Nat)), x2], sto⟩) ?_ ?_ _ _ ⟨[], l.reverse, .un, rfl, rfl, rfl⟩
  · rintro d ds s ⟨done, todo, x2, h1, h2, rfl⟩
    cases todo with
    | nil => cases h2
    | cons b todo =>
      cases h2
      refine ⟨_, rfl, ?_⟩
      have hd : done.length ≤ 300 := by
        have := congrArg List.length h1
        rw [List.length_reverse, List.length_append] at this
        omega
      have hlt := numB_lt done.reverse
      rw [List.length_reverse] at hlt
      have hb : Builtin.Int.intBits ((numB done.reverse : Nat) : Int) ≤ 300 := Nat.le_trans (bits_of (m := done.length) (by rw [Int.natAbs_natCast]; exact hlt)) hd
      rw [bI_eq]
      unfold m__law_number_b1
      repeat walk_at "evs"
      refine X2.mul (cMul_ok (m := 2) (by decide) hb (by decide)) ?_
      repeat walk_at "evs"
      refine ⟨done ++ [b], todo, .sh (.int (bN b : Nat)), by rw [h1, List.append_assoc]; rfl, rfl, ?_⟩
      have e : (2 : Int) * ((numB done.reverse : Nat) : Int) + ((bN b : Nat) : Int) = ((numB (done ++ [b]).reverse : Nat) : Int) := by
        rw [List.reverse_append, List.reverse_singleton, List.singleton_append, numB_cons]
        omega
      rw [e]
      rfl
  · rintro s ⟨done, todo, x2, h1, h2, rfl⟩
    cases todo with
    | cons => cases h2
    | nil =>
      rw [List.append_nil] at h1
      have e : done.reverse = l := by rw [← h1, List.reverse_reverse]
      rw [e]
      repeat walk_at "evs"
      exact k
theorem w_added {a b : List Bool} {c : Bool} (h : a.length = b.length) (hl : a.length ≤ 300) {sto : Sto} {E : XPost} {P : D → Sto → Prop} (k : P (.tup [bL (addB a b c).1, bI (addB a b c).2]) sto) : Wf (f__law_added [bL a, bL b, bI c] sto) E P := by
  have hz : sizeLine = 16777216 := by decide
  refine Wf.fn ?_
  unfold m__law_added
  repeat walk_at "evs"
  refine ⟨zipD (a.map bI) (b.map bI), rfl, ?_⟩
  refine forL_inv (fun rest s => ∃ (as bs : List Bool) (c' : Bool) (done : List Bool) (x4 x5 x6 : Sl), as.length = bs.length ∧ rest = zipD (as.map bI) (bs.map bI) ∧ s = ⟨[.sh (bL a), .sh (bL b), .sh (bI c'), .ow (done.map bI), x4, x5, x6], sto⟩ ∧ done ++ (addB as bs c').1 = (addB a b c).1 ∧ (addB as bs c').2 = (addB a b c).2 ∧ done.length + as.length ≤ 300) ?_ ?_ _ _ ⟨a, b, c, [], .un, .un, .un, h, rfl, rfl, rfl, rfl, by simpa using hl⟩
  · rintro d ds s ⟨as, bs, c', done, x4, x5, x6, h0, h1, rfl, h2, h3, h4⟩
    cases as with
    | nil => cases h1
    | cons x as =>
      cases bs with
      | nil => cases h1
      | cons y bs =>
        cases h1
        refine ⟨_, rfl, ?_⟩
        rw [addB_cons] at h2 h3
        rw [List.length_cons] at h4
        have e2 : (done ++ [(bN x + bN y + bN c') % 2 == 1]) ++ (addB as bs (decide (2 ≤ bN x + bN y + bN c'))).1 = (addB a b c).1 := by
          rw [List.append_assoc]; exact h2
        obtain ⟨y4, hy4⟩ : ∃ z, z = Sl.sh (bI x) := ⟨_, rfl⟩
        obtain ⟨y5, hy5⟩ : ∃ z, z = Sl.sh (bI y) := ⟨_, rfl⟩
        obtain ⟨y6, hy6⟩ : ∃ z, z = Sl.sh (.int ((bN x + bN y + bN c' : Nat) : Int)) := ⟨_, rfl⟩
        unfold m__law_added_b1
        cases x <;> cases y <;> cases c'
        all_goals
          simp only [bIt, bIf]
          repeat walk_at "evs"
          refine Ws.app rfl ?_
          repeat walk_at "evs"
          refine XApp.own (by rfl) (by rw [List.length_map]; omega) ?_
          repeat walk_at "evs"
          refine ⟨as, bs, _, _, y4, y5, y6, by simpa using h0, rfl, ?_, e2, h3, by rw [List.length_append, List.length_singleton]; omega⟩
          rw [List.map_append, hy4, hy5, hy6]
          rfl
  · rintro s ⟨as, bs, c', done, x4, x5, x6, h0, h1, rfl, h2, h3, h4⟩
    have e : as = [] ∧ bs = [] := by
      cases as with
      | nil => cases bs with
        | nil => exact ⟨rfl, rfl⟩
        | cons => simp at h0
      | cons => cases bs with
        | nil => simp at h0
        | cons => cases h1
    obtain ⟨rfl, rfl⟩ := e
    have e1 : done = (addB a b c).1 := by rw [← h2]; exact (List.append_nil done).symm
    have e2 : c' = (addB a b c).2 := h3
    rw [← e1, ← e2] at k
    repeat walk_at "evs"
    exact k
def flD : D → D
  | .int i => .int (1 - i)
  | d => d
theorem fl_map (l : List Bool) : (l.map bI).map flD = (notB l).map bI := by
  unfold notB
  rw [List.map_map, List.map_map]
  congr 1
  funext b
  cases b <;> rfl
theorem w_turned {l : List Bool} (hl : l.length ≤ 300) {sto : Sto} {E : XPost} {P : D → Sto → Prop} (k : P (bL (notB l)) sto) : Wf (f__law_turned [bL l] sto) E P := by
  have hz : sizeLine = 16777216 := by decide
  refine Wf.fn ?_
  unfold m__law_turned
  repeat walk_at "evs"
  refine We.compP (fun _ => true) flD ?_
  repeat walk_at "evs"
  refine ⟨rfl, by rw [List.length_map]; omega, fun d hd => ?_, ?_⟩
  · obtain ⟨b, _, rfl⟩ := List.mem_map.mp hd
    refine ⟨_, rfl, rfl, rfl, We.pure ⟨rfl, rfl, fun _ => ?_⟩⟩
    rw [bI_eq]
    unfold m__law_turned_e1
    repeat walk_at "evs"
    exact ⟨rfl, rfl⟩
  · rw [List.filter_eq_self.mpr fun _ _ => rfl, fl_map]
    exact k
theorem notB_len (l : List Bool) : (notB l).length = l.length := List.length_map _
theorem bI0 (b : Bool) : gEq (bI b) (.int 0) = some (.bl (!b)) := by cases b <;> rfl
theorem w_below {a b : List Bool} (h : a.length = b.length) (hl : a.length ≤ 300) {sto : Sto} {E : XPost} {P : D → Sto → Prop} (k : P (.bl (decide (numB a < numB b))) sto) : Wf (f__law_below [bL a, bL b] sto) E P := by
  refine Wf.fn ?_
  unfold m__law_below
  repeat walk_at "evs"
  refine w_turned (by omega) ?_
  repeat walk_at "evs"
  refine w_added (c := true) (by rw [notB_len]; exact h) hl ?_
  repeat walk_at "evs"
  refine X2.of (bI0 _) ?_
  rw [addB_below h, Bool.not_not]
  exact k

theorem Ws.asg {s : Sx} {k : Kp} {t : Tg} {ma : M D} (h : We (ma s) k.ex fun d s1 => ∃ s2, t.run d s1 = some s2 ∧ k.nx s2) : Ws (sAsg t ma s) k :=
  Ws.bind (h.imp fun d s1 ⟨s2, e, h⟩ => by
    show Ws (match t.run d s1 with | some s' => RS.nx s' | none => .bad) k
    rw [e]
    exact h)
theorem We.norm {α : Type} {E : XPost} {m : Sx → R α} {s s' : Sx} {Q : α → Sx → Prop} (e : s' = s) (h : We (m s) E Q) : We (m s') E Q := e ▸ h
theorem X2.addL {xs ys : List D} {P : D → Prop} (hz : xs.length + ys.length ≤ sizeLine) (h : P (.lst (xs ++ ys))) : X2 gAdd (.lst xs) (.lst ys) P := ⟨_, by unfold gAdd; exact if_pos hz, h⟩
theorem Ws.st {m : MS} {s s' : Sx} {k : Kp} (e : s = s') (h : Ws (m s') k) : Ws (m s) k := by rw [e]; exact h
theorem cut_hi {xs : List D} {j : Nat} : cutD xs none (some (j : Int)) = xs.take j := by
  unfold cutD
  have e1 : HT.sIx xs.length xs.length (some (j : Int)) = min j xs.length := HT.sIx_nat _ _ j
  rw [e1, HT.sIx_none, List.drop_zero, Nat.sub_zero, List.take_eq_take_iff]
  omega
theorem bI1 (b : Bool) : gEq (bI b) (.int 1) = some (.bl b) := by cases b <;> rfl
theorem at_nat {α : Type} {l : List α} {i : Nat} {x : α} (h : l[i]? = some x) : atI l (i : Int) = some x := by
  obtain ⟨hi, e⟩ := List.getElem?_eq_some_iff.mp h
  obtain ⟨z, h1, h2, h3⟩ := atI_nn (xs := l) (j := (i : Int)) (by omega) (by omega)
  rw [Int.toNat_natCast, h] at h3
  cases h3
  exact h1
theorem zeros_map (n : Nat) : (rngL 0 n).map (fun _ => D.int 0) = (List.replicate n false).map bI := by
  unfold rngL
  rw [List.map_map, List.map_replicate]
  have : ∀ m, (List.range m).map ((fun _ => D.int 0) ∘ fun (i : Nat) => D.int (0 + (i : Int))) = List.replicate m (bI false) := by
    intro m
    induction m with
    | zero => rfl
    | succ m ih => rw [List.range_succ, List.map_append, ih, List.replicate_succ']; rfl
  exact this n
theorem zmap (l : List Bool) : (l.map bI).map (fun _ => D.int 0) = (l.map fun _ => false).map bI := by
  rw [List.map_map, List.map_map]
  rfl
theorem we_rngL {i : Nat} {xs : List D} (hw : xs.length ≤ 1000000) {s : Sx} {E : XPost} {QL : List D → Sx → Prop} (e : s.env[i]? = some (.sh (.lst xs))) (q : QL (rngL 0 xs.length) s) : We (mRng gRng1 (mCons (mL gLen (mCons (mVar i) (mNil))) (mNil)) s) E QL :=
  We.mRng (We.cons (We.mL (We.cons (We.var e (We.nil (XL.len (We.nil (XI.rngN hw q))))))))
/-- zeros ahead -/
theorem we_zeros {i t n : Nat} {m : M D} (hm : m = mC (.int 0)) (hn : n ≤ 1000) {s : Sx} {E : XPost} {QL : List D → Sx → Prop} (e : s.env[i]? = some (.sh (.int (n : Nat)))) (ho : noOw s.env [t] = true) (q : QL ((List.replicate n false).map bI) s) : We (mComp (mRng gRng1 (mCons (mVar i) (mNil))) (tgN t) (M.pure true) m [t] s) E QL := by
  have hz : sizeLine = 16777216 := by decide
  subst hm
  refine We.compP (fun _ => true) (fun _ => .int 0) ?_
  refine we_rngN (by omega) e ?_
  refine ⟨ho, by rw [rngL_len]; omega, fun d hd => ⟨_, rfl, rfl, ?_, We.pure ⟨rfl, rfl, fun _ => ⟨rfl, rfl⟩⟩⟩, ?_⟩
  · show wipeE ((wipeE s.env [t]).set t (.sh d)) [t] = wipeE s.env [t]
    show ((s.env.set t .un).set t (.sh d)).set t .un = s.env.set t .un
    rw [List.set_set, List.set_set]
  · rw [List.filter_eq_self.mpr fun _ _ => rfl, zeros_map]
    exact q
theorem rng_drop {w i : Nat} {d : D} {ds : List D} (h : (rngL 0 w).drop i = d :: ds) : i < w ∧ d = .int (i : Nat) ∧ ds = (rngL 0 w).drop (i + 1) := by
  have hi : i < (rngL 0 w).length := by
    rcases Nat.lt_or_ge i (rngL 0 w).length with q | q
    · exact q
    · rw [List.drop_of_length_le q] at h; cases h
  rw [List.drop_eq_getElem_cons hi] at h
  obtain ⟨h1, h2⟩ := List.cons.inj h
  rw [rngL_len] at hi
  refine ⟨hi, ?_, h2.symm⟩
  rw [← h1]
  unfold rngL
  simp
theorem w_mul {a b : List Bool} (h : a.length = b.length) (hl : a.length ≤ 300) {sto : Sto} {E : XPost} {P : D → Sto → Prop} (k : P (bL (mulB a b a.length)) sto) : Wf (f__law_multiplied [bL a, bL b] sto) E P := by
  have hz : sizeLine = 16777216 := by decide
  have h1 : ∀ {s : Sx} {E : XPost} {QL : List D → Sx → Prop}, s.env[0]? = some (.sh (bL a)) → QL (rngL 0 a.length) s → We (mRng gRng1 (mCons (mL gLen (mCons (mVar 0) (mNil))) (mNil)) s) E QL := fun e q => we_rngL (by rw [List.length_map]; omega) e (by rw [List.length_map]; exact q)
  have h2 : ∀ {n : Nat}, n ≤ 300 → ∀ {s : Sx} {E : XPost} {QL : List D → Sx → Prop}, s.env[3]? = some (.sh (.int (n : Nat))) → noOw s.env [5] = true → QL ((List.replicate n false).map bI) s → We (mComp (mRng gRng1 (mCons (mVar 3) (mNil))) (tgN 5) (M.pure true) m__law_multiplied_e2 [5] s) E QL := fun hn _ _ _ e ho q => we_zeros rfl (by omega) e ho q
  refine Wf.fn ?_
  unfold m__law_multiplied m__law_multiplied_b3
  generalize mRng gRng1 (mCons (mL gLen (mCons (mVar 0) (mNil))) (mNil)) = mi at h1
  generalize mComp (mRng gRng1 (mCons (mVar 3) (mNil))) (tgN 5) (M.pure true) m__law_multiplied_e2 [5] = mz at h2
  repeat walk_at "evs"
  refine We.compP (fun _ => true) (fun _ => .int 0) ?_
  repeat walk_at "evs"
  refine ⟨rfl, by rw [List.length_map]; omega, fun d hd => ⟨_, rfl, rfl, rfl, We.pure ⟨rfl, rfl, fun _ => ⟨rfl, rfl⟩⟩⟩, ?_⟩
  rw [List.filter_eq_self.mpr fun _ _ => rfl, zmap]
  repeat walk_at "evs"
  refine h1 rfl ?_
  have len : ∀ i, (mulB a b i).length = a.length := mulB_len a b
  refine forL_inv (fun rest s => ∃ (i : Nat) (x2 x3 x4 x5 : Sl), i ≤ a.length ∧ rest = (rngL 0 a.length).drop i ∧ (x2 = .ow ((mulB a b i).map bI) ∨ x2 = .sh (bL (mulB a b i))) ∧ noOw [.sh (bL a), .sh (bL b), .un, x3, x4, x5] [5] = true ∧ s = ⟨[.sh (bL a), .sh (bL b), x2, x3, x4, x5], sto⟩) ?_ ?_ _ _ ⟨0, _, .un, .un, .un, Nat.zero_le _, rfl, .inl rfl, rfl, rfl⟩
  · rintro d ds s ⟨i, x2, x3, x4, x5, hi, hr, hx, ho, rfl⟩
    obtain ⟨hlt, rfl, hr2⟩ := rng_drop hr.symm
    refine ⟨_, rfl, ?_⟩
    have hb : (b.map bI)[i]? = some (bI (b.getD i false)) := by
      have : i < b.length := by omega
      rw [List.getElem?_map, List.getElem?_eq_getElem this, List.getD_eq_getElem?_getD, List.getElem?_eq_getElem this]
      rfl
    have e5 : noOw [.sh (bL a), .sh (bL b), .un, .sh (.int (i : Nat)), x4, x5] [5] = true := ho
    have es : mulB a b (i + 1) = if b.getD i false = true then (addB (mulB a b i) (shlB i a) false).1 else mulB a b i := rfl
    rcases hx with rfl | rfl
    all_goals
      refine Ws.if ?_
      repeat walk_at "evs"
      refine We.ixL (at_nat hb) ?_
      repeat walk_at "evs"
      refine X2.of (bI1 _) ?_
      repeat walk_at "evs"
      cases hc : b.getD i false with
      | false =>
        refine Xc.f rfl ?_
        repeat walk_at "evs"
        rw [hc, if_neg Bool.false_ne_true] at es
        exact ⟨i + 1, _, _, x4, x5, hlt, hr2, by rw [es]; first | exact .inl rfl | exact .inr rfl, e5, rfl⟩
      | true =>
        rw [hc, if_pos rfl] at es
        refine Xc.t rfl ?_
        repeat walk_at "evs"
        refine h2 (n := i) (by omega) rfl e5 ?_
        repeat walk_at "evs"
        refine X2.addL (by rw [List.length_map, List.length_map, List.length_replicate]; omega) ?_
        repeat walk_at "evs"
        rw [← List.map_append, List.length_map, cut_hi, ← List.map_take]
        refine w_added (a := mulB a b i) (b := shlB i a) (c := false) (by rw [len, shlB_len]) (by rw [len]; exact hl) ?_
        repeat walk_at "evs"
        exact ⟨i + 1, _, _, x4, x5, hlt, hr2, .inr (by rw [es]), e5, rfl⟩
  · rintro s ⟨i, x2, x3, x4, x5, hi, hr, hx, ho, rfl⟩
    have e : i = a.length := by
      have := congrArg List.length hr
      rw [List.length_drop, rngL_len, List.length_nil] at this
      omega
    subst e
    rcases hx with rfl | rfl
    · repeat walk_at "evs"
      exact k
    · repeat walk_at "evs"
      exact k

/-! ### truths by bits -/
theorem eq_nilI {ns : List Int} {P : D → Prop} (h : P (.bl ns.isEmpty)) : X2 gEq (.lst (ns.map .int)) (.lst []) P := by
  refine ⟨_, ?_, h⟩
  obtain ⟨p1, p2⟩ : D.pure (.lst (ns.map .int)) = true ∧ SeqAt.shaped (D.lst (ns.map .int)).py = true := by
    refine ⟨by show D.pure (.lst (ns.map .int)) = true; unfold D.pure; exact pures_ints ns, ?_⟩
    unfold SeqAt.shaped
    simp only [Bool.and_eq_true, decide_eq_true_eq]
    exact ⟨lay_ints ns, depth_ints ns⟩
  have e : gEqD (.lst (ns.map .int)) (.lst []) = some (.bl ns.isEmpty) := by
    unfold gEqD
    rw [if_pos]
    · cases ns with
      | nil => rfl
      | cons a r => rfl
    · rw [p1, p2]
      rfl
  exact e
def unlike (d : D) : Bool := match d with
  | .tup [.int i, .int j] => !decide (i = j)
  | _ => false
def zipI (a b : List Bool) : List D := zipD (a.map bI) (b.map bI)
theorem zip_unlike : ∀ {a b : List Bool}, a.length = b.length → (((zipI a b).filter unlike).map fun _ => D.int 1) = (((zipI a b).filter unlike).map fun _ => (1 : Int)).map .int ∧ ((((zipI a b).filter unlike).map fun _ => (1 : Int)).isEmpty = decide (a = b))
  | [], [], _ => ⟨rfl, rfl⟩
  | [], _ :: _, h => by simp at h
  | _ :: _, [], h => by simp at h
  | x :: a, y :: b, h => by
    refine ⟨by rw [List.map_map]; rfl, ?_⟩
    have ih := (zip_unlike (a := a) (b := b) (by simpa using h)).2
    show (((D.tup [bI x, bI y] :: zipI a b).filter unlike).map fun _ => (1 : Int)).isEmpty = _
    have hu : unlike (.tup [bI x, bI y]) = (x != y) := by cases x <;> cases y <;> rfl
    rw [List.filter_cons, hu]
    cases hxy : (x != y) with
    | true =>
      have : x ≠ y := by simpa using hxy
      rw [if_pos rfl, List.map_cons]
      exact (decide_eq_false fun e => this (List.cons.inj e).1).symm
    | false =>
      have : x = y := by simpa using hxy
      rw [if_neg Bool.false_ne_true, ih]
      exact decide_eq_decide.mpr ⟨fun e => by rw [this, e], fun e => (List.cons.inj e).2⟩
theorem zipI_mem {a b : List Bool} {d : D} (h : d ∈ zipI a b) : ∃ x y, d = .tup [bI x, bI y] := by
  induction a generalizing b with
  | nil => cases b <;> cases h
  | cons u a ih =>
    cases b with
    | nil => cases h
    | cons v b =>
      rcases List.mem_cons.mp h with h | h
      · exact ⟨u, v, h⟩
      · exact ih h
theorem zipI_len {a b : List Bool} (h : a.length = b.length) : (zipI a b).length = a.length := by
  unfold zipI
  rw [zipD_len, List.length_map, List.length_map]
  omega
theorem w_truth_eq {a b : List Bool} (h : a.length = b.length) (hl : a.length ≤ 300) {sto : Sto} {E : XPost} {P : D → Sto → Prop} (k : P (.bl (decide (a = b))) sto) : Wf (f__law_truth [.str "eq", .lst [bL a, bL b]] sto) E P := by
  have hz : sizeLine = 16777216 := by decide
  obtain ⟨z1, z2⟩ := zip_unlike h
  refine Wf.fn ?_
  unfold m__law_truth
  repeat walk_at "evs"
  refine X2.of (z := .bl false) (by kernel_rfl) ?_
  repeat walk_at "evs"
  refine Ws.asg ?_
  repeat walk_at "evs"
  refine ⟨_, rfl, ?_⟩
  repeat walk_at "evs"
  refine We.compP unlike (fun _ => .int 1) ?_
  repeat walk_at "evs"
  refine ⟨zipI a b, rfl, ?_⟩
  refine ⟨rfl, by rw [zipI_len h]; omega, fun d hd => ?_, ?_⟩
  · obtain ⟨x, y, rfl⟩ := zipI_mem hd
    refine ⟨_, rfl, rfl, rfl, ?_⟩
    cases x <;> cases y
    all_goals
      simp only [bIt, bIf]
      repeat walk_at "evs"
      exact ⟨rfl, rfl, fun _ => ⟨rfl, rfl⟩⟩
  · rw [z1]
    repeat walk_at "evs"
    refine eq_nilI ?_
    rw [z2]
    exact k
theorem w_truth_lt {a b : List Bool} (h : a.length = b.length) (hl : a.length ≤ 300) {sto : Sto} {E : XPost} {P : D → Sto → Prop} (k : P (.bl (decide (numB a < numB b))) sto) : Wf (f__law_truth [.str "lt", .lst [bL a, bL b]] sto) E P := by
  refine Wf.fn ?_
  unfold m__law_truth
  repeat walk_at "evs"
  refine X2.of (z := .bl false) (by kernel_rfl) ?_
  repeat walk_at "evs"
  refine Ws.asg ?_
  repeat walk_at "evs"
  refine ⟨_, rfl, ?_⟩
  repeat walk_at "evs"
  exact w_below h hl k
/-- the top bit turned about -/
theorem snoc_of {α : Type} : ∀ {l : List α}, l ≠ [] → ∃ d t, l = d ++ [t]
  | [], h => absurd rfl h
  | [x], _ => ⟨[], x, rfl⟩
  | x :: y :: r, _ => by
    obtain ⟨d, t, e⟩ := snoc_of (l := y :: r) (by simp)
    exact ⟨x :: d, t, by rw [e]; rfl⟩
theorem atI_lastB {α : Type} {l : List α} {x : α} : atI (l ++ [x]) (-1) = some x := by
  unfold atI ixN
  rw [if_neg (by decide), if_pos (by simp; omega)]
  simp
  rw [show (-1 + ((l.length : Int) + 1)).toNat = l.length by omega]
  simp
theorem top_num (d : List Bool) (t : Bool) : numB (d ++ [!t]) = (numB (d ++ [t]) + 2 ^ d.length) % 2 ^ (d.length + 1) := by
  rw [numB_app, numB_app, Nat.pow_succ]
  have hd := numB_lt d
  show numB d + 2 ^ d.length * (bN (!t) + 2 * 0) = (numB d + 2 ^ d.length * (bN t + 2 * 0) + 2 ^ d.length) % (2 ^ d.length * 2)
  generalize 2 ^ d.length = M at *
  cases t with
  | true =>
    show numB d + M * 0 = (numB d + M * 1 + M) % (M * 2)
    rw [show numB d + M * 1 + M = numB d + M * 2 by omega, Nat.add_mod_right, Nat.mod_eq_of_lt (by omega)]
    omega
  | false =>
    show numB d + M * 1 = (numB d + M * 0 + M) % (M * 2)
    rw [Nat.mod_eq_of_lt (by omega)]
    omega
theorem cut_top {l : List D} {x : D} : cutD (l ++ [x]) none (some (-1)) = l := by
  unfold cutD
  have e : HT.sIx (l ++ [x]).length (l ++ [x]).length (some (-1)) = l.length := by
    show (if (-1 : Int) < 0 then ((-1 : Int) + ((l ++ [x]).length : Nat)).toNat else min (-1 : Int).toNat (l ++ [x]).length) = _
    rw [if_pos (by decide), List.length_append, List.length_singleton]
    omega
  rw [e, HT.sIx_none, List.drop_zero, Nat.sub_zero, List.take_append_of_le_length (Nat.le_refl _), List.take_of_length_le (Nat.le_refl _)]
theorem sub1 (t : Bool) : gSub (.int 1) (bI t) = some (bI (!t)) := by cases t <;> rfl
theorem w_truth_less {d e : List Bool} {t u : Bool} (h : d.length = e.length) (hl : d.length < 300) {sto : Sto} {E : XPost} {P : D → Sto → Prop} (k : P (.bl (decide (numB (d ++ [!t]) < numB (e ++ [!u])))) sto) : Wf (f__law_truth [.str "less", .lst [bL (d ++ [t]), bL (e ++ [u])]] sto) E P := by
  have hz : sizeLine = 16777216 := by decide
  have ed : bL (d ++ [t]) = D.lst (d.map bI ++ [bI t]) := by
    show D.lst _ = _
    rw [List.map_append]
    rfl
  have ee : bL (e ++ [u]) = D.lst (e.map bI ++ [bI u]) := by
    show D.lst _ = _
    rw [List.map_append]
    rfl
  rw [ed, ee]
  refine Wf.fn ?_
  unfold m__law_truth
  repeat walk_at "evs"
  refine X2.of (z := .bl false) (by kernel_rfl) ?_
  repeat walk_at "evs"
  refine Ws.asg ?_
  repeat walk_at "evs"
  refine ⟨_, rfl, ?_⟩
  repeat walk_at "evs"
  rw [cut_top]
  refine We.ixL atI_lastB ?_
  refine X2.of (sub1 _) ?_
  repeat walk_at "evs"
  refine X2.addL (by rw [List.length_map, List.length_singleton]; omega) ?_
  repeat walk_at "evs"
  rw [cut_top]
  refine We.ixL atI_lastB ?_
  refine X2.of (sub1 _) ?_
  repeat walk_at "evs"
  refine X2.addL (by rw [List.length_map, List.length_singleton]; omega) ?_
  repeat walk_at "evs"
  have e1 : d.map bI ++ [bI (!t)] = (d ++ [!t]).map bI := by rw [List.map_append]; rfl
  have e2 : e.map bI ++ [bI (!u)] = (e ++ [!u]).map bI := by rw [List.map_append]; rfl
  rw [e1, e2]
  exact w_below (a := d ++ [!t]) (b := e ++ [!u]) (by rw [List.length_append, List.length_append, h]; rfl) (by rw [List.length_append, List.length_singleton]; omega) k
theorem w_truth_both {p q : Bool} {sto : Sto} {E : XPost} {P : D → Sto → Prop} (k : P (.bl (p && q)) sto) : Wf (f__law_truth [.str "both", .lst [.bl p, .bl q]] sto) E P := Wf.of_eq (d := .bl (p && q)) (by cases p <;> cases q <;> kernel_rfl) k
theorem w_truth_either {p q : Bool} {sto : Sto} {E : XPost} {P : D → Sto → Prop} (k : P (.bl (p || q)) sto) : Wf (f__law_truth [.str "either", .lst [.bl p, .bl q]] sto) E P := Wf.of_eq (d := .bl (p || q)) (by cases p <;> cases q <;> kernel_rfl) k
theorem w_truth_no {p : Bool} {sto : Sto} {E : XPost} {P : D → Sto → Prop} (k : P (.bl (!p)) sto) : Wf (f__law_truth [.str "no", .lst [.bl p]] sto) E P := Wf.of_eq (d := .bl (!p)) (by cases p <;> kernel_rfl) k

/-! ### what is due, by bits -/
def gB (f : Bool → Bool → Bool) (d : D) : D := match d with
  | .tup [.int i, .int j] => bI (f (decide (i = 1)) (decide (j = 1)))
  | _ => .non
theorem gB_zip (f : Bool → Bool → Bool) : ∀ a b : List Bool, (zipI a b).map (gB f) = (zipB f a b).map bI
  | [], _ => by cases ‹List Bool› <;> rfl
  | _ :: _, [] => rfl
  | x :: a, y :: b => by
    show gB f (.tup [bI x, bI y]) :: (zipI a b).map (gB f) = bI (f x y) :: (zipB f a b).map bI
    rw [gB_zip f a b]
    cases x <;> cases y <;> rfl
section
variable {a b : List Bool} {sto : Sto} {E : XPost} {P : D → Sto → Prop}
theorem w_due_if {t : Bool} (k : P (bL (if t = true then a else b)) sto) : Wf (f__law_due [.str "if", .lst [.bl t, bL a, bL b]] sto) E P := by
  refine Wf.fn ?_
  unfold m__law_due
  cases t
  all_goals
    repeat walk_at "evs"
    exact k
theorem w_due_and (h : a.length = b.length) (hl : a.length ≤ 300) (k : P (bL (zipB (fun x y => x && y) a b)) sto) : Wf (f__law_due [.str "and", .lst [bL a, bL b]] sto) E P := by
  have hz : sizeLine = 16777216 := by decide
  refine Wf.fn ?_
  unfold m__law_due
  repeat walk_at "evs"
  refine X2.of (z := .bl true) (by kernel_rfl) ?_
  repeat walk_at "evs"
  refine We.compP (fun _ => true) (gB (fun x y => x && y)) ?_
  repeat walk_at "evs"
  refine ⟨zipI a b, rfl, ?_⟩
  refine ⟨rfl, by rw [zipI_len h]; omega, fun d hd => ?_, ?_⟩
  · obtain ⟨x, y, rfl⟩ := zipI_mem hd
    refine ⟨_, rfl, rfl, rfl, We.pure ⟨rfl, rfl, fun _ => ?_⟩⟩
    unfold m__law_due_e1
    cases x <;> cases y
    all_goals
      simp only [bIt, bIf]
      repeat walk_at "evs"
      exact ⟨rfl, rfl⟩
  · rw [List.filter_eq_self.mpr fun _ _ => rfl, gB_zip]
    exact k
theorem w_due_or (h : a.length = b.length) (hl : a.length ≤ 300) (k : P (bL (zipB (fun x y => x || y) a b)) sto) : Wf (f__law_due [.str "or", .lst [bL a, bL b]] sto) E P := by
  have hz : sizeLine = 16777216 := by decide
  refine Wf.fn ?_
  unfold m__law_due
  repeat walk_at "evs"
  refine X2.of (z := .bl true) (by kernel_rfl) ?_
  repeat walk_at "evs"
  refine We.compP (fun _ => true) (gB (fun x y => x || y)) ?_
  repeat walk_at "evs"
  refine ⟨zipI a b, rfl, ?_⟩
  refine ⟨rfl, by rw [zipI_len h]; omega, fun d hd => ?_, ?_⟩
  · obtain ⟨x, y, rfl⟩ := zipI_mem hd
    refine ⟨_, rfl, rfl, rfl, We.pure ⟨rfl, rfl, fun _ => ?_⟩⟩
    unfold m__law_due_e1
    cases x <;> cases y
    all_goals
      simp only [bIt, bIf]
      repeat walk_at "evs"
      exact ⟨rfl, rfl⟩
  · rw [List.filter_eq_self.mpr fun _ _ => rfl, gB_zip]
    exact k
theorem w_due_xor (h : a.length = b.length) (hl : a.length ≤ 300) (k : P (bL (zipB (fun x y => x != y) a b)) sto) : Wf (f__law_due [.str "xor", .lst [bL a, bL b]] sto) E P := by
  have hz : sizeLine = 16777216 := by decide
  refine Wf.fn ?_
  unfold m__law_due
  repeat walk_at "evs"
  refine X2.of (z := .bl true) (by kernel_rfl) ?_
  repeat walk_at "evs"
  refine We.compP (fun _ => true) (gB (fun x y => x != y)) ?_
  repeat walk_at "evs"
  refine ⟨zipI a b, rfl, ?_⟩
  refine ⟨rfl, by rw [zipI_len h]; omega, fun d hd => ?_, ?_⟩
  · obtain ⟨x, y, rfl⟩ := zipI_mem hd
    refine ⟨_, rfl, rfl, rfl, We.pure ⟨rfl, rfl, fun _ => ?_⟩⟩
    unfold m__law_due_e1
    cases x <;> cases y
    all_goals
      simp only [bIt, bIf]
      repeat walk_at "evs"
      exact ⟨rfl, rfl⟩
  · rw [List.filter_eq_self.mpr fun _ _ => rfl, gB_zip]
    exact k
theorem w_due_flip (hl : a.length ≤ 300) (k : P (bL (notB a)) sto) : Wf (f__law_due [.str "flip", .lst [bL a]] sto) E P := by
  have hz : sizeLine = 16777216 := by decide
  refine Wf.fn ?_
  unfold m__law_due
  repeat walk_at "evs"
  refine X2.of (z := .bl false) (by kernel_rfl) ?_
  repeat walk_at "evs"
  exact w_turned hl k
theorem w_due_neg (hl : a.length ≤ 300) (k : P (bL (addB (notB a) (a.map fun _ => false) true).1) sto) : Wf (f__law_due [.str "neg", .lst [bL a]] sto) E P := by
  have hz : sizeLine = 16777216 := by decide
  refine Wf.fn ?_
  unfold m__law_due
  repeat walk_at "evs"
  refine X2.of (z := .bl false) (by kernel_rfl) ?_
  repeat walk_at "evs"
  refine w_turned hl ?_
  repeat walk_at "evs"
  refine We.compP (fun _ => true) (fun _ => .int 0) ?_
  repeat walk_at "evs"
  refine ⟨rfl, by rw [List.length_map]; omega, fun d hd => ⟨_, rfl, rfl, rfl, We.pure ⟨rfl, rfl, fun _ => ⟨rfl, rfl⟩⟩⟩, ?_⟩
  rw [List.filter_eq_self.mpr fun _ _ => rfl, zmap]
  repeat walk_at "evs"
  refine w_added (a := notB a) (b := a.map fun _ => false) (c := true) (by rw [notB_len, List.length_map]) (by rw [notB_len]; exact hl) ?_
  repeat walk_at "evs"
  exact k
theorem w_due_add (h : a.length = b.length) (hl : a.length ≤ 300) (k : P (bL (addB a b false).1) sto) : Wf (f__law_due [.str "add", .lst [bL a, bL b]] sto) E P := by
  have hz : sizeLine = 16777216 := by decide
  refine Wf.fn ?_
  unfold m__law_due
  repeat walk_at "evs"
  refine X2.of (z := .bl false) (by kernel_rfl) ?_
  repeat walk_at "evs"
  refine w_added (c := false) h hl ?_
  repeat walk_at "evs"
  exact k
theorem w_due_sub (h : a.length = b.length) (hl : a.length ≤ 300) (k : P (bL (addB a (notB b) true).1) sto) : Wf (f__law_due [.str "sub", .lst [bL a, bL b]] sto) E P := by
  have hz : sizeLine = 16777216 := by decide
  refine Wf.fn ?_
  unfold m__law_due
  repeat walk_at "evs"
  refine X2.of (z := .bl false) (by kernel_rfl) ?_
  repeat walk_at "evs"
  refine w_turned (by omega) ?_
  repeat walk_at "evs"
  refine w_added (c := true) (by rw [notB_len]; exact h) hl ?_
  repeat walk_at "evs"
  exact k
theorem w_due_mul (h : a.length = b.length) (hl : a.length ≤ 300) (k : P (bL (mulB a b a.length)) sto) : Wf (f__law_due [.str "mul", .lst [bL a, bL b]] sto) E P := by
  have hz : sizeLine = 16777216 := by decide
  refine Wf.fn ?_
  unfold m__law_due
  repeat walk_at "evs"
  refine X2.of (z := .bl false) (by kernel_rfl) ?_
  repeat walk_at "evs"
  exact w_mul h hl k
end
/-! shl k -/
structure ShG (k : Nat) : Prop where
  sl : gSl (.str (labS (k : Nat))) (some 4) none = some (.str (toString ((k : Nat) : Int)))
  it : gInt [.str (toString ((k : Nat) : Int))] = some (.int (k : Nat))
  nao : gIn (.str (labS (k : Nat))) (.tup [.str "and", .str "or", .str "xor"]) = some (.bl false)
  nadd : decide (labS (k : Nat) = "add") = false
  nsub : decide (labS (k : Nat) = "sub") = false
  nmul : decide (labS (k : Nat) = "mul") = false
  kn : ∀ sto, f__law_kinds [.str (labS (k : Nat))] sto = .rt (.tup [.str "word"]) sto
  ntr : gIn (.str (labS (k : Nat))) (.tup [.str "eq", .str "lt", .str "less", .str "both", .str "either", .str "no"]) = some (.bl false)
theorem shg1 : ShG 1 := ⟨by kernel_rfl, by kernel_rfl, by kernel_rfl, by kernel_rfl, by kernel_rfl, by kernel_rfl, fun sto => by kernel_rfl, by kernel_rfl⟩
theorem shg2 : ShG 2 := ⟨by kernel_rfl, by kernel_rfl, by kernel_rfl, by kernel_rfl, by kernel_rfl, by kernel_rfl, fun sto => by kernel_rfl, by kernel_rfl⟩
theorem shg3 : ShG 3 := ⟨by kernel_rfl, by kernel_rfl, by kernel_rfl, by kernel_rfl, by kernel_rfl, by kernel_rfl, fun sto => by kernel_rfl, by kernel_rfl⟩
theorem shg4 : ShG 4 := ⟨by kernel_rfl, by kernel_rfl, by kernel_rfl, by kernel_rfl, by kernel_rfl, by kernel_rfl, fun sto => by kernel_rfl, by kernel_rfl⟩
theorem shg5 : ShG 5 := ⟨by kernel_rfl, by kernel_rfl, by kernel_rfl, by kernel_rfl, by kernel_rfl, by kernel_rfl, fun sto => by kernel_rfl, by kernel_rfl⟩
theorem shg6 : ShG 6 := ⟨by kernel_rfl, by kernel_rfl, by kernel_rfl, by kernel_rfl, by kernel_rfl, by kernel_rfl, fun sto => by kernel_rfl, by kernel_rfl⟩
theorem shg7 : ShG 7 := ⟨by kernel_rfl, by kernel_rfl, by kernel_rfl, by kernel_rfl, by kernel_rfl, by kernel_rfl, fun sto => by kernel_rfl, by kernel_rfl⟩
theorem shg8 : ShG 8 := ⟨by kernel_rfl, by kernel_rfl, by kernel_rfl, by kernel_rfl, by kernel_rfl, by kernel_rfl, fun sto => by kernel_rfl, by kernel_rfl⟩
theorem shg9 : ShG 9 := ⟨by kernel_rfl, by kernel_rfl, by kernel_rfl, by kernel_rfl, by kernel_rfl, by kernel_rfl, fun sto => by kernel_rfl, by kernel_rfl⟩
theorem shg10 : ShG 10 := ⟨by kernel_rfl, by kernel_rfl, by kernel_rfl, by kernel_rfl, by kernel_rfl, by kernel_rfl, fun sto => by kernel_rfl, by kernel_rfl⟩
theorem shg11 : ShG 11 := ⟨by kernel_rfl, by kernel_rfl, by kernel_rfl, by kernel_rfl, by kernel_rfl, by kernel_rfl, fun sto => by kernel_rfl, by kernel_rfl⟩
theorem shg12 : ShG 12 := ⟨by kernel_rfl, by kernel_rfl, by kernel_rfl, by kernel_rfl, by kernel_rfl, by kernel_rfl, fun sto => by kernel_rfl, by kernel_rfl⟩
theorem shg13 : ShG 13 := ⟨by kernel_rfl, by kernel_rfl, by kernel_rfl, by kernel_rfl, by kernel_rfl, by kernel_rfl, fun sto => by kernel_rfl, by kernel_rfl⟩
theorem shg14 : ShG 14 := ⟨by kernel_rfl, by kernel_rfl, by kernel_rfl, by kernel_rfl, by kernel_rfl, by kernel_rfl, fun sto => by kernel_rfl, by kernel_rfl⟩
theorem shg15 : ShG 15 := ⟨by kernel_rfl, by kernel_rfl, by kernel_rfl, by kernel_rfl, by kernel_rfl, by kernel_rfl, fun sto => by kernel_rfl, by kernel_rfl⟩
theorem shg16 : ShG 16 := ⟨by kernel_rfl, by kernel_rfl, by kernel_rfl, by kernel_rfl, by kernel_rfl, by kernel_rfl, fun sto => by kernel_rfl, by kernel_rfl⟩
theorem shg17 : ShG 17 := ⟨by kernel_rfl, by kernel_rfl, by kernel_rfl, by kernel_rfl, by kernel_rfl, by kernel_rfl, fun sto => by kernel_rfl, by kernel_rfl⟩
theorem shg18 : ShG 18 := ⟨by kernel_rfl, by kernel_rfl, by kernel_rfl, by kernel_rfl, by kernel_rfl, by kernel_rfl, fun sto => by kernel_rfl, by kernel_rfl⟩
theorem shg19 : ShG 19 := ⟨by kernel_rfl, by kernel_rfl, by kernel_rfl, by kernel_rfl, by kernel_rfl, by kernel_rfl, fun sto => by kernel_rfl, by kernel_rfl⟩
theorem shg20 : ShG 20 := ⟨by kernel_rfl, by kernel_rfl, by kernel_rfl, by kernel_rfl, by kernel_rfl, by kernel_rfl, fun sto => by kernel_rfl, by kernel_rfl⟩
theorem shg21 : ShG 21 := ⟨by kernel_rfl, by kernel_rfl, by kernel_rfl, by kernel_rfl, by kernel_rfl, by kernel_rfl, fun sto => by kernel_rfl, by kernel_rfl⟩
theorem shg22 : ShG 22 := ⟨by kernel_rfl, by kernel_rfl, by kernel_rfl, by kernel_rfl, by kernel_rfl, by kernel_rfl, fun sto => by kernel_rfl, by kernel_rfl⟩
theorem shg23 : ShG 23 := ⟨by kernel_rfl, by kernel_rfl, by kernel_rfl, by kernel_rfl, by kernel_rfl, by kernel_rfl, fun sto => by kernel_rfl, by kernel_rfl⟩
theorem shg24 : ShG 24 := ⟨by kernel_rfl, by kernel_rfl, by kernel_rfl, by kernel_rfl, by kernel_rfl, by kernel_rfl, fun sto => by kernel_rfl, by kernel_rfl⟩
theorem shg25 : ShG 25 := ⟨by kernel_rfl, by kernel_rfl, by kernel_rfl, by kernel_rfl, by kernel_rfl, by kernel_rfl, fun sto => by kernel_rfl, by kernel_rfl⟩
theorem shg26 : ShG 26 := ⟨by kernel_rfl, by kernel_rfl, by kernel_rfl, by kernel_rfl, by kernel_rfl, by kernel_rfl, fun sto => by kernel_rfl, by kernel_rfl⟩
theorem shg27 : ShG 27 := ⟨by kernel_rfl, by kernel_rfl, by kernel_rfl, by kernel_rfl, by kernel_rfl, by kernel_rfl, fun sto => by kernel_rfl, by kernel_rfl⟩
theorem shg28 : ShG 28 := ⟨by kernel_rfl, by kernel_rfl, by kernel_rfl, by kernel_rfl, by kernel_rfl, by kernel_rfl, fun sto => by kernel_rfl, by kernel_rfl⟩
theorem shg29 : ShG 29 := ⟨by kernel_rfl, by kernel_rfl, by kernel_rfl, by kernel_rfl, by kernel_rfl, by kernel_rfl, fun sto => by kernel_rfl, by kernel_rfl⟩
theorem shg30 : ShG 30 := ⟨by kernel_rfl, by kernel_rfl, by kernel_rfl, by kernel_rfl, by kernel_rfl, by kernel_rfl, fun sto => by kernel_rfl, by kernel_rfl⟩
theorem shg31 : ShG 31 := ⟨by kernel_rfl, by kernel_rfl, by kernel_rfl, by kernel_rfl, by kernel_rfl, by kernel_rfl, fun sto => by kernel_rfl, by kernel_rfl⟩
theorem shg (k : Nat) (h0 : 1 ≤ k) (h1 : k ≤ 31) : ShG k := by
  have : k = 1 ∨ k = 2 ∨ k = 3 ∨ k = 4 ∨ k = 5 ∨ k = 6 ∨ k = 7 ∨ k = 8 ∨ k = 9 ∨ k = 10 ∨ k = 11 ∨ k = 12 ∨ k = 13 ∨ k = 14 ∨ k = 15 ∨ k = 16 ∨ k = 17 ∨ k = 18 ∨ k = 19 ∨ k = 20 ∨ k = 21 ∨ k = 22 ∨ k = 23 ∨ k = 24 ∨ k = 25 ∨ k = 26 ∨ k = 27 ∨ k = 28 ∨ k = 29 ∨ k = 30 ∨ k = 31 := by omega
  rcases this with rfl | rfl | rfl | rfl | rfl | rfl | rfl | rfl | rfl | rfl | rfl | rfl | rfl | rfl | rfl | rfl | rfl | rfl | rfl | rfl | rfl | rfl | rfl | rfl | rfl | rfl | rfl | rfl | rfl | rfl | rfl
  · exact shg1
  · exact shg2
  · exact shg3
  · exact shg4
  · exact shg5
  · exact shg6
  · exact shg7
  · exact shg8
  · exact shg9
  · exact shg10
  · exact shg11
  · exact shg12
  · exact shg13
  · exact shg14
  · exact shg15
  · exact shg16
  · exact shg17
  · exact shg18
  · exact shg19
  · exact shg20
  · exact shg21
  · exact shg22
  · exact shg23
  · exact shg24
  · exact shg25
  · exact shg26
  · exact shg27
  · exact shg28
  · exact shg29
  · exact shg30
  · exact shg31
theorem we_range {i n : Nat} {m : M (List D)} {s : Sx} {E : XPost} {QL : List D → Sx → Prop} (h : We (m s) E fun ds s1 => ds = [.int (n : Nat)] ∧ n ≤ 1000 ∧ QL (rngL 0 n) s1) : We (mRng gRng1 m s) E QL :=
  We.mRng (h.imp fun ds s1 ⟨e, hn, q⟩ => by subst e; exact XI.rngN (by omega) q)
theorem w_due_shl {k : Nat} (h0 : 1 ≤ k) (h1 : k ≤ 31) {a : List Bool} (hl : a.length ≤ 300) {sto : Sto} {E : XPost} {P : D → Sto → Prop} (kk : P (bL (shlB k a)) sto) : Wf (f__law_due [.str (labS (k : Nat)), .lst [bL a]] sto) E P := by
  have hz : sizeLine = 16777216 := by decide
  have g := shg k h0 h1
  have f := shf (k : Nat) (by omega) (by omega)
  have hc : ∀ {s : Sx} {E : XPost} {QL : List D → Sx → Prop}, s.env[0]? = some (.sh (.str (labS (k : Nat)))) → noOw s.env [6] = true → QL ((List.replicate k false).map bI) s → We (mComp (mRng gRng1 (mCons (mL gInt (mCons (mSl (mVar 0) (some (mC (.int 4))) none) (mNil))) (mNil))) (tgN 6) (M.pure true) m__law_due_e3 [6] s) E QL := by
    intro s E QL e ho q
    refine We.compP (fun _ => true) (fun _ => .int 0) ?_
    refine we_range (i := 0) (n := k) (We.cons (We.mL (We.cons (We.sl (We.var e (We.p1 (We.c (XOpt.int (We.p0 ⟨_, g.sl, We.nil ⟨_, g.it, We.nil ⟨rfl, by omega, ?_⟩⟩⟩)))))))))
    refine ⟨ho, by rw [rngL_len]; omega, fun d hd => ⟨_, rfl, rfl, ?_, We.pure ⟨rfl, rfl, fun _ => ⟨rfl, rfl⟩⟩⟩, ?_⟩
    · show ((s.env.set 6 .un).set 6 (.sh d)).set 6 .un = s.env.set 6 .un
      rw [List.set_set, List.set_set]
    · rw [List.filter_eq_self.mpr fun _ _ => rfl, zeros_map]
      exact q
  refine Wf.fn ?_
  unfold m__law_due
  generalize mComp (mRng gRng1 (mCons (mL gInt (mCons (mSl (mVar 0) (some (mC (.int 4))) none) (mNil))) (mNil))) (tgN 6) (M.pure true) m__law_due_e3 [6] = mz at hc
  repeat walk_at "evs"
  refine Xc.f f.nif ?_
  repeat walk_at "evs"
  refine X2.of g.nao ?_
  repeat walk_at "evs"
  refine Xc.f f.nflip ?_
  repeat walk_at "evs"
  refine Xc.f f.nneg ?_
  repeat walk_at "evs"
  refine Xc.f g.nadd ?_
  repeat walk_at "evs"
  refine Xc.f g.nsub ?_
  repeat walk_at "evs"
  refine Xc.f g.nmul ?_
  repeat walk_at "evs"
  refine hc rfl rfl ?_
  repeat walk_at "evs"
  refine X2.addL (by rw [List.length_map, List.length_map, List.length_replicate]; omega) ?_
  repeat walk_at "evs"
  rw [← List.map_append, List.length_map, cut_hi, ← List.map_take]
  exact kk

/-! ### labels: what is worked, what is due -/
def bitsD (w : Nat) : D → D
  | .int n => bL (bitsN w n.toNat)
  | d => d
structure LabW (L : Str) (ks : List D) (w : Nat) : Prop where
  go : ∀ vs, Fits (2 ^ w) ks vs → ∃ (n : Int) (bs : List Bool), bs.length = w ∧ n = (numB bs : Nat) ∧ (∀ cont sto E (P : D → Sto → Prop), Cont cont vs → P (.int n) sto → Wf (f_made [.str L, .int (2 ^ w), cont] sto) E P) ∧
    (∀ sto E (P : D → Sto → Prop), P (bL bs) sto → Wf (f__law_due [.str L, .lst (vs.map (bitsD w))] sto) E P)
structure LabT (L : Str) (ks : List D) (w : Nat) : Prop where
  go : ∀ vs, Fits (2 ^ w) ks vs → ∃ b : Bool, (∀ cont sto E (P : D → Sto → Prop), Cont cont vs → P (.bl b) sto → Wf (f_made [.str L, .int (2 ^ w), cont] sto) E P) ∧
    (∀ sto E (P : D → Sto → Prop), P (.bl b) sto → Wf (f__law_truth [.str L, .lst (vs.map (bitsD w))] sto) E P)
theorem Fits.t2 {L : Int} {vs : List D} (h : Fits L [.str "truth", .str "truth"] vs) : ∃ p q : Bool, vs = [.bl p, .bl q] := by
  cases h with
  | t h => cases h with
    | t h => cases h; exact ⟨_, _, rfl⟩
theorem Fits.t1 {L : Int} {vs : List D} (h : Fits L [.str "truth"] vs) : ∃ p : Bool, vs = [.bl p] := by
  cases h with
  | t h => cases h; exact ⟨_, rfl⟩
theorem wnat {w : Nat} {a : Int} (h0 : 0 ≤ a) (h1 : a < 2 ^ w) : ∃ m : Nat, a = (m : Nat) ∧ m < 2 ^ w ∧ numB (bitsN w m) = m := by
  obtain ⟨m, rfl⟩ := nat_of h0
  have : m < 2 ^ w := by
    rw [← pow_cast] at h1
    omega
  exact ⟨m, rfl, this, by rw [numB_bits, Nat.mod_eq_of_lt this]⟩
theorem cast_mod (m w : Nat) : ((m % 2 ^ w : Nat) : Int) = (m : Int) % 2 ^ w := by
  rw [Int.natCast_emod, pow_cast]
theorem sh_both (sto : Sto) : f_shape_of [.str "both"] sto = .rt (.tup [.str "truth", .tup [.str "truth", .str "truth"]]) sto := by kernel_rfl
theorem sh_either (sto : Sto) : f_shape_of [.str "either"] sto = .rt (.tup [.str "truth", .tup [.str "truth", .str "truth"]]) sto := by kernel_rfl
theorem sh_no (sto : Sto) : f_shape_of [.str "no"] sto = .rt (.tup [.str "truth", .tup [.str "truth"]]) sto := by kernel_rfl
section
variable {M a b : Int} {cont : D} {sto : Sto} {E : XPost} {P : D → Sto → Prop}
theorem mk_add (hM : 0 < M) (hc : Cont cont [.int a, .int b]) (k : P (.int ((a + b) % M)) sto) : Wf (f_made [.str "add", .int M, cont] sto) E P := by
  rcases hc with rfl | rfl
  all_goals
    refine Wf.fn ?_
    unfold m_made
    repeat walk_at "evs"
    refine Wf.of_eq (sh_add _) ?_
    repeat walk_at "evs"
    refine Wf.fn ?_
    unfold m_joined
    repeat walk_at "evs"
    exact k
theorem mk_sub (hM : 0 < M) (hc : Cont cont [.int a, .int b]) (k : P (.int ((a - b) % M)) sto) : Wf (f_made [.str "sub", .int M, cont] sto) E P := by
  rcases hc with rfl | rfl
  all_goals
    refine Wf.fn ?_
    unfold m_made
    repeat walk_at "evs"
    refine Wf.of_eq (sh_sub _) ?_
    repeat walk_at "evs"
    refine Wf.fn ?_
    unfold m_joined
    repeat walk_at "evs"
    exact k
theorem mk_mul (hM : 0 < M) (ha : Builtin.Int.intBits a ≤ 300) (hb : Builtin.Int.intBits b ≤ 300) (hc : Cont cont [.int a, .int b]) (k : P (.int (a * b % M)) sto) : Wf (f_made [.str "mul", .int M, cont] sto) E P := by
  rcases hc with rfl | rfl
  all_goals
    refine Wf.fn ?_
    unfold m_made
    repeat walk_at "evs"
    refine Wf.of_eq (sh_mul _) ?_
    repeat walk_at "evs"
    refine Wf.fn ?_
    unfold m_joined
    repeat walk_at "evs"
    refine X2.mul (cMul_ok ha hb (by omega)) ?_
    repeat walk_at "evs"
    exact k
theorem mk_and (hM : 0 < M) (hc : Cont cont [.int a, .int b]) (k : P (.int (Builtin.bitAnd a b)) sto) : Wf (f_made [.str "and", .int M, cont] sto) E P := by
  rcases hc with rfl | rfl
  all_goals
    refine Wf.fn ?_
    unfold m_made
    repeat walk_at "evs"
    refine Wf.of_eq (sh_and _) ?_
    repeat walk_at "evs"
    refine Wf.fn ?_
    unfold m_joined
    repeat walk_at "evs"
    exact k
theorem mk_or (hM : 0 < M) (hc : Cont cont [.int a, .int b]) (k : P (.int (Builtin.bitOr a b)) sto) : Wf (f_made [.str "or", .int M, cont] sto) E P := by
  rcases hc with rfl | rfl
  all_goals
    refine Wf.fn ?_
    unfold m_made
    repeat walk_at "evs"
    refine Wf.of_eq (sh_or _) ?_
    repeat walk_at "evs"
    refine Wf.fn ?_
    unfold m_joined
    repeat walk_at "evs"
    exact k
theorem mk_xor (hM : 0 < M) (hc : Cont cont [.int a, .int b]) (k : P (.int (Builtin.bitXor a b)) sto) : Wf (f_made [.str "xor", .int M, cont] sto) E P := by
  rcases hc with rfl | rfl
  all_goals
    refine Wf.fn ?_
    unfold m_made
    repeat walk_at "evs"
    refine Wf.of_eq (sh_xor _) ?_
    repeat walk_at "evs"
    refine Wf.fn ?_
    unfold m_joined
    repeat walk_at "evs"
    exact k
theorem mk_neg (hM : 0 < M) (hc : Cont cont [.int a]) (k : P (.int ((0 - a) % M)) sto) : Wf (f_made [.str "neg", .int M, cont] sto) E P := by
  rcases hc with rfl | rfl
  all_goals
    refine Wf.fn ?_
    unfold m_made
    repeat walk_at "evs"
    exact k
theorem mk_flip (hM : 0 < M) (hc : Cont cont [.int a]) (k : P (.int (M - 1 - a)) sto) : Wf (f_made [.str "flip", .int M, cont] sto) E P := by
  rcases hc with rfl | rfl
  all_goals
    refine Wf.fn ?_
    unfold m_made
    repeat walk_at "evs"
    exact k
theorem mk_if {t : Bool} (hc : Cont cont [.bl t, .int a, .int b]) (k : P (.int (if t = true then a else b)) sto) : Wf (f_made [.str "if", .int M, cont] sto) E P := by
  rcases hc with rfl | rfl
  all_goals
    cases t
    all_goals
      refine Wf.fn ?_
      unfold m_made
      repeat walk_at "evs"
      exact k
theorem mk_no {t : Bool} (hc : Cont cont [.bl t]) (k : P (.bl (!t)) sto) : Wf (f_made [.str "no", .int M, cont] sto) E P := by
  rcases hc with rfl | rfl
  all_goals
    refine Wf.fn ?_
    unfold m_made
    repeat walk_at "evs"
    exact k
theorem mk_both {p q : Bool} (hc : Cont cont [.bl p, .bl q]) (k : P (.bl (p && q)) sto) : Wf (f_made [.str "both", .int M, cont] sto) E P := by
  rcases hc with rfl | rfl
  all_goals
    refine Wf.fn ?_
    unfold m_made
    repeat walk_at "evs"
    refine Wf.of_eq (sh_both _) ?_
    repeat walk_at "evs"
    refine Wf.fn ?_
    unfold m_told_true
    cases p
    all_goals
      repeat walk_at "evs"
      exact k
theorem mk_either {p q : Bool} (hc : Cont cont [.bl p, .bl q]) (k : P (.bl (p || q)) sto) : Wf (f_made [.str "either", .int M, cont] sto) E P := by
  rcases hc with rfl | rfl
  all_goals
    refine Wf.fn ?_
    unfold m_made
    repeat walk_at "evs"
    refine Wf.of_eq (sh_either _) ?_
    repeat walk_at "evs"
    refine Wf.fn ?_
    unfold m_told_true
    cases p
    all_goals
      repeat walk_at "evs"
      exact k
theorem mk_eq (hM : 0 < M) (hc : Cont cont [.int a, .int b]) (k : P (.bl (decide (a = b))) sto) : Wf (f_made [.str "eq", .int M, cont] sto) E P := by
  rcases hc with rfl | rfl
  all_goals
    refine Wf.fn ?_
    unfold m_made
    repeat walk_at "evs"
    refine Wf.of_eq (sh_eq _) ?_
    repeat walk_at "evs"
    refine Wf.fn ?_
    unfold m_told_true
    repeat walk_at "evs"
    exact k
theorem mk_lt (hM : 0 < M) (hc : Cont cont [.int a, .int b]) (k : P (.bl (decide (a < b))) sto) : Wf (f_made [.str "lt", .int M, cont] sto) E P := by
  rcases hc with rfl | rfl
  all_goals
    refine Wf.fn ?_
    unfold m_made
    repeat walk_at "evs"
    refine Wf.of_eq (sh_lt _) ?_
    repeat walk_at "evs"
    refine Wf.fn ?_
    unfold m_told_true
    repeat walk_at "evs"
    exact k
theorem mk_less (hM : 0 < M) (hc : Cont cont [.int a, .int b]) (k : P (.bl (decide ((a + M / 2) % M < (b + M / 2) % M))) sto) : Wf (f_made [.str "less", .int M, cont] sto) E P := by
  rcases hc with rfl | rfl
  all_goals
    refine Wf.fn ?_
    unfold m_made
    repeat walk_at "evs"
    refine Wf.of_eq (sh_less _) ?_
    repeat walk_at "evs"
    refine Wf.fn ?_
    unfold m_told_true
    repeat walk_at "evs"
    exact k
theorem mk_shl {k : Nat} (h0 : 1 ≤ k) (h1 : k ≤ 31) (hM : 0 < M) (ha : Builtin.Int.intBits a ≤ 300) (hc : Cont cont [.int a]) (kk : P (.int (a * 2 ^ k % M)) sto) : Wf (f_made [.str (labS (k : Nat)), .int M, cont] sto) E P := by
  have f := shf (k : Nat) (by omega) (by omega)
  rcases hc with rfl | rfl
  all_goals
    refine Wf.fn ?_
    unfold m_made
    repeat walk_at "evs"
    refine Xc.f f.nif ?_
    repeat walk_at "evs"
    refine Xc.f f.nneg ?_
    repeat walk_at "evs"
    refine Xc.f f.nflip ?_
    repeat walk_at "evs"
    refine Xc.f f.nno ?_
    repeat walk_at "evs"
    refine Xc.t f.st ?_
    repeat walk_at "evs"
    refine Wf.of_eq (f.up _) ?_
    repeat walk_at "evs"
    refine X2.shl (cShl_ok (by omega) (by omega) ha (by omega)) ?_
    rw [Int.toNat_natCast]
    repeat walk_at "evs"
    exact kk
end

theorem zip_xor : ∀ {a b : List Bool}, a.length = b.length → numB (zipB (fun x y => x != y) a b) + numB (zipB (fun x y => x && y) a b) = numB (zipB (fun x y => x || y) a b)
  | [], [], _ => rfl
  | [], _ :: _, h => by simp at h
  | _ :: _, [], h => by simp at h
  | x :: a, y :: b, h => by
    have ih := zip_xor (a := a) (b := b) (by simpa using h)
    show (bN (x != y) + 2 * numB (zipB _ a b)) + (bN (x && y) + 2 * numB (zipB _ a b)) = bN (x || y) + 2 * numB (zipB _ a b)
    have e : bN (x != y) + bN (x && y) = bN (x || y) := by cases x <;> cases y <;> rfl
    omega
theorem Fits.bits {w : Nat} {m : Nat} : bitsD w (.int (m : Nat)) = bL (bitsN w m) := rfl
section
variable {w : Nat} (w1 : 1 ≤ w) (w2 : w ≤ 300)
include w1 w2
theorem LabW.two {L : Str} (f : Int → Int → Int) (g : List Bool → List Bool → List Bool)
    (hg : ∀ a b : List Bool, a.length = w → b.length = w → (g a b).length = w ∧ ((numB (g a b) : Nat) : Int) = f (numB a : Nat) (numB b : Nat))
    (hm : ∀ (m n : Nat) cont sto E (P : D → Sto → Prop), m < 2 ^ w → n < 2 ^ w → Cont cont [.int (m : Nat), .int (n : Nat)] → P (.int (f (m : Nat) (n : Nat))) sto → Wf (f_made [.str L, .int (2 ^ w), cont] sto) E P)
    (hd : ∀ (a b : List Bool) sto E (P : D → Sto → Prop), a.length = b.length → a.length ≤ 300 → P (bL (g a b)) sto → Wf (f__law_due [.str L, .lst [bL a, bL b]] sto) E P) : LabW L [.str "word", .str "word"] w := ⟨fun vs hf => by
  obtain ⟨a, b, rfl, a0, a1, b0, b1⟩ := hf.two
  obtain ⟨m, rfl, hmw, em⟩ := wnat a0 a1
  obtain ⟨n, rfl, hnw, en⟩ := wnat b0 b1
  obtain ⟨h1, h2⟩ := hg (bitsN w m) (bitsN w n) (bitsN_len w m) (bitsN_len w n)
  rw [em, en] at h2
  exact ⟨_, g (bitsN w m) (bitsN w n), h1, h2.symm, fun cont sto E P hc k => hm m n cont sto E P hmw hnw hc k, fun sto E P k => hd _ _ sto E P (by rw [bitsN_len, bitsN_len]) (by rw [bitsN_len]; exact w2) k⟩⟩
theorem LabW.one {L : Str} (f : Int → Int) (g : List Bool → List Bool)
    (hg : ∀ a : List Bool, a.length = w → (g a).length = w ∧ ((numB (g a) : Nat) : Int) = f (numB a : Nat))
    (hm : ∀ (m : Nat) cont sto E (P : D → Sto → Prop), m < 2 ^ w → Cont cont [.int (m : Nat)] → P (.int (f (m : Nat))) sto → Wf (f_made [.str L, .int (2 ^ w), cont] sto) E P)
    (hd : ∀ (a : List Bool) sto E (P : D → Sto → Prop), a.length ≤ 300 → P (bL (g a)) sto → Wf (f__law_due [.str L, .lst [bL a]] sto) E P) : LabW L [.str "word"] w := ⟨fun vs hf => by
  obtain ⟨a, rfl, a0, a1⟩ := hf.one
  obtain ⟨m, rfl, hmw, em⟩ := wnat a0 a1
  obtain ⟨h1, h2⟩ := hg (bitsN w m) (bitsN_len w m)
  rw [em] at h2
  exact ⟨_, g (bitsN w m), h1, h2.symm, fun cont sto E P hc k => hm m cont sto E P hmw hc k, fun sto E P k => hd _ sto E P (by rw [bitsN_len]; exact w2) k⟩⟩
theorem labT_two {L : Str} (f : Nat → Nat → Bool)
    (hm : ∀ (m n : Nat) cont sto E (P : D → Sto → Prop), m < 2 ^ w → n < 2 ^ w → Cont cont [.int (m : Nat), .int (n : Nat)] → P (.bl (f m n)) sto → Wf (f_made [.str L, .int (2 ^ w), cont] sto) E P)
    (hd : ∀ (a b : List Bool) sto E (P : D → Sto → Prop), a.length = w → b.length = w → P (.bl (f (numB a) (numB b))) sto → Wf (f__law_truth [.str L, .lst [bL a, bL b]] sto) E P) : LabT L [.str "word", .str "word"] w := ⟨fun vs hf => by
  obtain ⟨a, b, rfl, a0, a1, b0, b1⟩ := hf.two
  obtain ⟨m, rfl, hmw, em⟩ := wnat a0 a1
  obtain ⟨n, rfl, hnw, en⟩ := wnat b0 b1
  refine ⟨f m n, fun cont sto E P hc k => hm m n cont sto E P hmw hnw hc k, fun sto E P k => hd _ _ sto E P (bitsN_len w m) (bitsN_len w n) ?_⟩
  rw [Int.toNat_natCast, Int.toNat_natCast, em, en]
  exact k⟩
theorem pos2 : (0 : Int) < 2 ^ w := two_nn w
theorem bits_w {m : Nat} (h : m < 2 ^ w) : Builtin.Int.intBits (m : Int) ≤ 300 := Nat.le_trans (bits_of (m := w) (by rw [Int.natAbs_natCast]; exact h)) w2
theorem lb_add : LabW "add" [.str "word", .str "word"] w := LabW.two w1 w2 (fun a b => (a + b) % 2 ^ w) (fun a b => (addB a b false).1)
  (fun a b ha hb => ⟨by rw [(addB_num a b false (by omega)).2, ha], by rw [addB_sum (by omega), ha, cast_mod]; show ((_ + _ + 0 : Nat) : Int) % _ = _; rw [Nat.add_zero, Int.natCast_add]⟩)
  (fun m n cont sto E P _ _ hc k => mk_add (pos2 w1 w2) hc k) fun a b sto E P h hl k => w_due_add h hl k
theorem lb_sub : LabW "sub" [.str "word", .str "word"] w := LabW.two w1 w2 (fun a b => (a - b) % 2 ^ w) (fun a b => (addB a (notB b) true).1)
  (fun a b ha hb => ⟨by rw [(addB_num a (notB b) true (by rw [notB_len]; omega)).2, ha], by
    rw [addB_sum (by rw [notB_len]; omega), ha, cast_mod]
    have h := numB_not b
    rw [hb] at h
    have h2 : ((numB (notB b) + numB b + 1 : Nat) : Int) = 2 ^ w := by rw [h, pow_cast]
    show ((numB a + numB (notB b) + 1 : Nat) : Int) % _ = _
    have e : ((numB a + numB (notB b) + 1 : Nat) : Int) = ((numB a : Nat) : Int) - (numB b : Nat) + 2 ^ w := by omega
    rw [e, Int.add_emod_right]⟩)
  (fun m n cont sto E P _ _ hc k => mk_sub (pos2 w1 w2) hc k) fun a b sto E P h hl k => w_due_sub h hl k
theorem lb_mul : LabW "mul" [.str "word", .str "word"] w := LabW.two w1 w2 (fun a b => a * b % 2 ^ w) (fun a b => mulB a b a.length)
  (fun a b ha hb => ⟨by rw [mulB_len, ha], by rw [mulB_all a b (by omega), ha, cast_mod, Int.natCast_mul]⟩)
  (fun m n cont sto E P hm hn hc k => mk_mul (pos2 w1 w2) (bits_w w1 w2 hm) (bits_w w1 w2 hn) hc k) fun a b sto E P h hl k => w_due_mul h hl k
theorem lb_and : LabW "and" [.str "word", .str "word"] w := LabW.two w1 w2 (fun a b => Builtin.bitAnd a b) (fun a b => zipB (fun x y => x && y) a b)
  (fun a b ha hb => ⟨by rw [zipB_len (by omega), ha], by rw [numB_and (by omega), and_nn]⟩)
  (fun m n cont sto E P _ _ hc k => mk_and (pos2 w1 w2) hc k) fun a b sto E P h hl k => w_due_and h hl k
theorem lb_or : LabW "or" [.str "word", .str "word"] w := LabW.two w1 w2 (fun a b => Builtin.bitOr a b) (fun a b => zipB (fun x y => x || y) a b)
  (fun a b ha hb => ⟨by rw [zipB_len (by omega), ha], by rw [numB_or (by omega), or_nn]⟩)
  (fun m n cont sto E P _ _ hc k => mk_or (pos2 w1 w2) hc k) fun a b sto E P h hl k => w_due_or h hl k
theorem lb_xor : LabW "xor" [.str "word", .str "word"] w := LabW.two w1 w2 (fun a b => Builtin.bitXor a b) (fun a b => zipB (fun x y => x != y) a b)
  (fun a b ha hb => ⟨by rw [zipB_len (by omega), ha], by
    have h := zip_xor (a := a) (b := b) (by omega)
    rw [xor_nn, ← numB_or (by omega), ← numB_and (by omega)]
    omega⟩)
  (fun m n cont sto E P _ _ hc k => mk_xor (pos2 w1 w2) hc k) fun a b sto E P h hl k => w_due_xor h hl k
theorem lb_neg : LabW "neg" [.str "word"] w := LabW.one w1 w2 (fun a => (0 - a) % 2 ^ w) (fun a => (addB (notB a) (a.map fun _ => false) true).1)
  (fun a ha => ⟨by rw [(addB_num (notB a) (a.map fun _ => false) true (by rw [notB_len, List.length_map])).2, notB_len, ha], by
    rw [addB_sum (by rw [notB_len, List.length_map]), notB_len, ha, cast_mod, map_false]
    have h := numB_not a
    rw [ha] at h
    have h2 : ((numB (notB a) + numB a + 1 : Nat) : Int) = 2 ^ w := by rw [h, pow_cast]
    show ((numB (notB a) + 0 + 1 : Nat) : Int) % _ = _
    have e : ((numB (notB a) + 0 + 1 : Nat) : Int) = (0 - ((numB a : Nat) : Int)) + 2 ^ w := by omega
    rw [e, Int.add_emod_right]⟩)
  (fun m cont sto E P _ hc k => mk_neg (pos2 w1 w2) hc k) fun a sto E P hl k => w_due_neg hl k
theorem lb_flip : LabW "flip" [.str "word"] w := LabW.one w1 w2 (fun a => 2 ^ w - 1 - a) (fun a => notB a)
  (fun a ha => ⟨by rw [notB_len, ha], by
    have h := numB_not a
    rw [ha] at h
    have h2 : ((numB (notB a) + numB a + 1 : Nat) : Int) = 2 ^ w := by rw [h, pow_cast]
    omega⟩)
  (fun m cont sto E P _ hc k => mk_flip (pos2 w1 w2) hc k) fun a sto E P hl k => w_due_flip hl k
theorem lb_shl {k : Nat} (h0 : 1 ≤ k) (h1 : k ≤ 31) : LabW (labS (k : Nat)) [.str "word"] w := LabW.one w1 w2 (fun a => a * 2 ^ k % 2 ^ w) (fun a => shlB k a)
  (fun a ha => ⟨by rw [shlB_len, ha], by rw [shlB_num, ha, cast_mod, Int.natCast_mul, pow_cast]⟩)
  (fun m cont sto E P hm hc kk => mk_shl h0 h1 (pos2 w1 w2) (bits_w w1 w2 hm) hc kk) fun a sto E P hl kk => w_due_shl h0 h1 hl kk
theorem lb_if : LabW "if" [.str "truth", .str "word", .str "word"] w := ⟨fun vs hf => by
  obtain ⟨t, a, b, rfl, a0, a1, b0, b1⟩ := hf.three
  obtain ⟨m, rfl, hmw, em⟩ := wnat a0 a1
  obtain ⟨n, rfl, hnw, en⟩ := wnat b0 b1
  refine ⟨if t = true then (m : Int) else (n : Int), if t = true then bitsN w m else bitsN w n, ?_, ?_, fun cont sto E P hc k => mk_if hc k, fun sto E P k => w_due_if k⟩
  · cases t
    · exact bitsN_len w n
    · exact bitsN_len w m
  · cases t
    · show ((n : Nat) : Int) = ((numB (bitsN w n) : Nat) : Int)
      rw [en]
    · show ((m : Nat) : Int) = ((numB (bitsN w m) : Nat) : Int)
      rw [em]⟩
theorem lb_eq : LabT "eq" [.str "word", .str "word"] w := labT_two w1 w2 (fun m n => decide (m = n))
  (fun m n cont sto E P _ _ hc k => mk_eq (pos2 w1 w2) hc (by rw [show decide ((m : Int) = (n : Int)) = decide (m = n) from decide_eq_decide.mpr Int.ofNat_inj]; exact k))
  fun a b sto E P ha hb k => w_truth_eq (by omega) (by omega) (by rw [show decide (a = b) = decide (numB a = numB b) from decide_eq_decide.mpr ⟨fun e => by rw [e], fun e => numB_inj (by omega) e⟩]; exact k)
theorem lb_lt : LabT "lt" [.str "word", .str "word"] w := labT_two w1 w2 (fun m n => decide (m < n))
  (fun m n cont sto E P _ _ hc k => mk_lt (pos2 w1 w2) hc (by rw [show decide ((m : Int) < (n : Int)) = decide (m < n) from decide_eq_decide.mpr Int.ofNat_lt]; exact k))
  fun a b sto E P ha hb k => w_truth_lt (by omega) (by omega) k
theorem half_cast : ((2 : Int) ^ w) / 2 = ((2 ^ (w - 1) : Nat) : Int) := by
  obtain ⟨v, rfl⟩ : ∃ v, w = v + 1 := ⟨w - 1, by omega⟩
  rw [Nat.add_sub_cancel, pow_cast, Int.pow_succ]
  exact Int.mul_ediv_cancel _ (by decide)
theorem lb_less : LabT "less" [.str "word", .str "word"] w := labT_two w1 w2 (fun m n => decide ((m + 2 ^ (w - 1)) % 2 ^ w < (n + 2 ^ (w - 1)) % 2 ^ w))
  (fun m n cont sto E P _ _ hc k => mk_less (pos2 w1 w2) hc (by
    rw [half_cast w1 w2, ← Int.natCast_add, ← Int.natCast_add, ← cast_mod, ← cast_mod]
    rw [show decide ((((m + 2 ^ (w - 1)) % 2 ^ w : Nat) : Int) < (((n + 2 ^ (w - 1)) % 2 ^ w : Nat) : Int)) = decide ((m + 2 ^ (w - 1)) % 2 ^ w < (n + 2 ^ (w - 1)) % 2 ^ w) from decide_eq_decide.mpr Int.ofNat_lt]
    exact k))
  fun a b sto E P ha hb k => by
    obtain ⟨d, t, rfl⟩ := snoc_of (l := a) (fun e => by rw [e, List.length_nil] at ha; omega)
    obtain ⟨e, u, rfl⟩ := snoc_of (l := b) (fun e => by rw [e, List.length_nil] at hb; omega)
    rw [List.length_append, List.length_singleton] at ha hb
    refine w_truth_less (by omega) (by omega) ?_
    rw [top_num, top_num]
    have e1 : d.length = w - 1 := by omega
    have e2 : e.length = w - 1 := by omega
    rw [e1, e2, Nat.sub_add_cancel w1]
    exact k
theorem lb_both : LabT "both" [.str "truth", .str "truth"] w := ⟨fun vs hf => by
  obtain ⟨p, q, rfl⟩ := hf.t2
  exact ⟨p && q, fun cont sto E P hc k => mk_both hc k, fun sto E P k => w_truth_both k⟩⟩
theorem lb_either : LabT "either" [.str "truth", .str "truth"] w := ⟨fun vs hf => by
  obtain ⟨p, q, rfl⟩ := hf.t2
  exact ⟨p || q, fun cont sto E P hc k => mk_either hc k, fun sto E P k => w_truth_either k⟩⟩
theorem lb_no : LabT "no" [.str "truth"] w := ⟨fun vs hf => by
  obtain ⟨p, rfl⟩ := hf.t1
  exact ⟨!p, fun cont sto E P hc k => mk_no hc k, fun sto E P k => w_truth_no k⟩⟩
end

/-! ### drawn parts -/
structure VsOk (vs : List D) : Prop where
  pu : pures vs = true
  ly : PyData.canLayAll0 (pys vs) = true
  sh : PyData.intsShortAll 1921 (pys vs) = true
  ss : PyData.showableAll (pys vs) = true
  dp : PyData.depthAll (pys vs) ≤ 2
  wt : PyData.weightAll (pys vs) ≤ 302 * vs.length
theorem log_lt {w m : Nat} (hw : w ≤ 300) (h : m < 2 ^ w) : m.log2 < 301 := by
  rcases Nat.eq_zero_or_pos m with e | e
  · subst e; decide
  · have := (Nat.log2_lt (by omega)).mpr h
    omega
theorem vs_ok {w : Nat} (hw : w ≤ 300) : ∀ {ks vs : List D}, Fits (2 ^ w) ks vs → VsOk vs
  | _, _, .nil => ⟨rfl, rfl, rfl, rfl, Nat.zero_le _, Nat.zero_le _⟩
  | _, _, .w (v := v) (vs := vs) h0 h1 hf => by
    have o := vs_ok hw hf
    obtain ⟨m, rfl, hm, _⟩ := wnat h0 h1
    have hl := log_lt hw hm
    have hl2 : ((m : Nat) : Int).natAbs.log2 < 301 := hl
    refine ⟨?_, ?_, ?_, ?_, ?_, ?_⟩
    · show (true && pures vs) = true
      rw [o.pu]; rfl
    · show (true && PyData.canLayAll0 (pys vs)) = true
      rw [o.ly]; rfl
    · show (decide ((PyData.int (m : Nat)).shown.length ≤ 1921) && PyData.intsShortAll 1921 (pys vs)) = true
      have e9 : (PyData.int ((m : Nat) : Int)).shown.length ≤ 1921 := PyProof.Rows.int_text_len_1921 (i := ((m : Nat) : Int)) (by omega)
      rw [o.sh, decide_eq_true e9]
      rfl
    · show (decide (((m : Nat) : Int).natAbs.log2 < 1920) && PyData.showableAll (pys vs)) = true
      rw [o.ss, decide_eq_true (by omega)]
      rfl
    · have := o.dp
      simp only [pys, PyData.depthAll, D.py, PyData.depth]
      omega
    · have := o.wt
      simp only [pys, PyData.weightAll, D.py, PyData.weight, List.length_cons]
      split <;> omega
  | _, _, .t (b := b) (vs := vs) hf => by
    have o := vs_ok hw hf
    refine ⟨?_, ?_, ?_, ?_, ?_, ?_⟩
    · show (true && pures vs) = true
      rw [o.pu]; rfl
    · show (true && PyData.canLayAll0 (pys vs)) = true
      rw [o.ly]; rfl
    · show (true && PyData.intsShortAll 1921 (pys vs)) = true
      rw [o.sh]; rfl
    · show (true && PyData.showableAll (pys vs)) = true
      rw [o.ss]; rfl
    · have := o.dp
      simp only [pys, PyData.depthAll, D.py, PyData.depth]
      omega
    · have := o.wt
      simp only [pys, PyData.weightAll, D.py, PyData.weight, List.length_cons]
      omega
theorem VsOk.same {vs : List D} (o : VsOk vs) : gNe (.lst vs) (.lst vs) = some (.bl false) := by
  have p1 : D.pure (.lst vs) = true := by unfold D.pure; exact o.pu
  have p3 : (D.lst vs).py.canLay0 = true := by
    simp only [D.py, PyData.canLay0]
    exact o.ly
  have p2 : SeqAt.shaped (D.lst vs).py = true := by
    unfold SeqAt.shaped
    rw [p3, decide_eq_true]
    · rfl
    · have := o.dp
      simp only [D.py, PyData.depth]
      omega
  have e : gEqD (.lst vs) (.lst vs) = some (.bl true) := by
    unfold gEqD
    rw [if_pos (by rw [p1, p2]; rfl), SeqAt.eqv_refl _ p3]
  show (match gEqD (.lst vs) (.lst vs) with | some (.bl k) => some (D.bl (!k)) | _ => none) = _
  rw [e]
  rfl
theorem VsOk.repr {vs : List D} (o : VsOk vs) (hl : vs.length ≤ 4) : gRepr [.lst vs] = some (.str (D.lst vs).py.shown) := by
  have p1 : D.pure (.lst vs) = true := by unfold D.pure; exact o.pu
  have p2 : (D.lst vs).py.canLay0 = true := by
    simp only [D.py, PyData.canLay0]
    exact o.ly
  have p3 : (D.lst vs).py.intsShort 1921 = true := by
    simp only [D.py, PyData.intsShort]
    exact o.sh
  have p4 : (D.lst vs).py.showable = true := by
    simp only [D.py, PyData.showable]
    exact o.ss
  have p5 : (D.lst vs).py.depth ≤ 60 := by
    have := o.dp
    simp only [D.py, PyData.depth]
    omega
  have p6 : (D.lst vs).py.weight ≤ 1208 := by
    have := o.wt
    simp only [D.py, PyData.weight]
    omega
  have hs := PyData.shown_le 1921 (by decide) _ (PyData.leavesShort_of_canLay0 1921 _ p2 p3)
  have hz : sizeLine = 16777216 := by decide
  show (if ((D.lst vs).pure && (D.lst vs).py.showable && decide ((D.lst vs).py.depth ≤ 60) && decide ((D.lst vs).py.shown.length ≤ sizeLine)) = true then some (D.str (D.lst vs).py.shown) else none) = _
  rw [if_pos]
  rw [p1, p4, decide_eq_true p5, decide_eq_true]
  · rfl
  · omega
/-- a label's facts -/
structure Fct (L : Str) (ks : List Str) (tr : Bool) : Prop where
  sh : ∀ sto, f_shape_of [.str L] sto = .rt (.tup [.str (if tr = true then "truth" else "word"), .tup (ks.map .str)]) sto
  kn : ∀ sto, f__law_kinds [.str L] sto = .rt (.tup (ks.map .str)) sto
  tr_ : gIn (.str L) (.tup [.str "eq", .str "lt", .str "less", .str "both", .str "either", .str "no"]) = some (.bl tr)
  len : 1 ≤ ks.length ∧ ks.length ≤ 3
  rp : ∃ S, gRepr [.tup [.str (if tr = true then "truth" else "word"), .tup (ks.map .str)]] = some (.str S)
  kd : ∀ k ∈ ks, k = "truth" ∨ k = "word"
theorem Fits.snoc {L : Int} {ks vs : List D} (h : Fits L ks vs) {k v : D} (hk : Fits L [k] [v]) : Fits L (ks ++ [k]) (vs ++ [v]) := by
  induction h with
  | nil => exact hk
  | w h0 h1 _ ih => exact .w h0 h1 ih
  | t _ ih => exact .t ih
theorem w_partsF {c : List Int} (hc : Cs c) {L : Str} {ks : List Str} {tr : Bool} (f : Fct L ks tr) {w : Nat} (w1 : 1 ≤ w) (w2 : w ≤ 300) {B : Int} {sto : Sto} {E : XPost} {Q : List D → Sto → Prop} (h : Tr c B sto) (hB : B + 100 ≤ 90000)
    (k : ∀ vs sto', Tr c (B + 90) sto' → Fits (2 ^ w) (ks.map .str) vs → Q vs sto') : WfO (f__law_parts [.box 0, .str L, .int (2 ^ w)] sto) E Q := by
  have hz : sizeLine = 16777216 := by decide
  have hl := f.len
  refine WfO.fn ?_
  unfold m__law_parts
  repeat walk_at "evs"
  refine We.compJ (fun acc sto => Tr c (B + ((acc.length * 25 : Nat) : Int)) sto ∧ Fits (2 ^ w) ((ks.take acc.length).map .str) acc) ?_
  repeat walk_at "evs"
  refine Wf.of_eq (f.kn _) ?_
  repeat walk_at "evs"
  refine ⟨rfl, Nat.lt_succ_self 3, by rw [List.length_map]; omega, ⟨h.mono (by simp), .nil⟩, ?_, ?_⟩
  · rintro d acc sto hd ⟨h1, h2⟩
    have hi : acc.length < ks.length := by
      have := (List.getElem?_eq_some_iff.mp hd).1
      rwa [List.length_map] at this
    have hk := List.getElem?_eq_getElem hi
    rw [List.getElem?_map, hk] at hd
    have hd := Option.some.inj hd
    subst hd
    have et : ks.take (acc.length + 1) = ks.take acc.length ++ [ks[acc.length]] := by
      rw [List.take_succ, hk]; rfl
    have kk := f.kd ks[acc.length] (List.getElem_mem hi)
    generalize ks[acc.length] = kz at et kk
    unfold m__law_parts_e1
    rcases kk with rfl | rfl
    · repeat walk_at "evs"
      refine w_take hc h1 (by omega) (Nat.lt_of_lt_of_le (by decide) (Nat.le_refl 2)) (Nat.lt_of_le_of_lt (Nat.le_refl 2) (by decide)) fun v sto2 g1 hv => ?_
      refine ⟨rfl, g1.mono ?_, ?_⟩
      · rw [List.length_append, List.length_singleton, Nat.succ_mul]
        omega
      · rw [List.length_append, List.length_singleton, et, List.map_append]
        simp only [List.mem_cons, List.not_mem_nil, or_false] at hv
        rcases hv with rfl | rfl
        · exact h2.snoc (.t .nil)
        · exact h2.snoc (.t .nil)
    · repeat walk_at "evs"
      refine w_wordd hc h1 (by omega) w1 w2 fun v sto2 g1 v0 v1 => ?_
      refine ⟨rfl, g1.mono ?_, ?_⟩
      · rw [List.length_append, List.length_singleton, Nat.succ_mul]
        omega
      · rw [List.length_append, List.length_singleton, et, List.map_append]
        exact h2.snoc (.w v0 v1 .nil)
  · rintro acc sto hl2 ⟨h1, h2⟩
    rw [List.length_map] at hl2
    rw [hl2, List.take_of_length_le (Nat.le_refl _)] at h2
    exact k acc sto (h1.mono (by rw [hl2]; omega)) h2

theorem We.pick {E : XPost} {s : Sx} {QL : List D → Sx → Prop} {idx : List Nat} {dz : List D} {ml mk : M (List D)} (h : We (ml s) E fun us s1 => We (mk s1) E fun ws s2 => QL (Ev.pick (us ++ dz ++ ws) idx) s2) : We (mPick idx dz ml mk s) E QL :=
  We.bind (h.imp fun us s1 h => We.bind (h.imp fun ws s2 q => q))
theorem We.b2 {E : XPost} {s : Sx} {Q : D → Sx → Prop} {g : D → D → Option D} {i : Nat} {mb : M D} {d0 : D} (e0 : slD s i = some d0) (h : We (mb s) E fun b s1 => ∃ d z, slD s1 i = some d ∧ g d b = some z ∧ z.flat = true ∧ Q z s1) : We (mB2 g i mb s) E Q := by
  unfold mB2
  rw [e0]
  simp only
  cases e : mb s with
  | ok b s1 =>
    rw [e] at h
    obtain ⟨d, z, h1, h2, h3, q⟩ := h
    simp only [h1, h2, h3, if_true]
    exact q
  | exc => rw [e] at h; exact h
  | bad => rw [e] at h; exact h
/-! ### a label has its shape and makes what is due -/
theorem we_width {c : List Int} (hc : Cs c) {L : Str} {B : Int} {sto : Sto} {x2 x3 x4 x5 x6 x7 x8 x9 : Sl} {E : XPost} {Q : D → Sx → Prop} (h : Tr c B sto) (hB : B ≤ 90000)
    (k : ∀ (w : Nat) sto', Tr c (B + 2) sto' → 1 ≤ w → w ≤ 300 → Q (.int (w : Nat)) ⟨[.sh (.box 0), .sh (.str L), x2, x3, x4, x5, x6, x7, x8, x9], sto'⟩) : We ((mCall f__law_take (mCons (mVar 0) (mCons (mIf (mT (m2 gEq (mVar 1) (mC (.str "mul")))) (mSh (mLst (mCons (mC (.int 1)) (mCons (mC (.int 2)) (mCons (mC (.int 3)) (mCons (mC (.int 5)) (mCons (mC (.int 8)) (mCons (mC (.int 32)) (mCons (mC (.int 40)) (mNil)))))))))) (mSh (mLst (mCons (mC (.int 1)) (mCons (mC (.int 2)) (mCons (mC (.int 3)) (mCons (mC (.int 8)) (mCons (mC (.int 31)) (mCons (mC (.int 64)) (mCons (m2 gAdd (mC (.int 1)) (mCall f__law_dip (mCons (mVar 0) (mCons (mC (.int 300)) (mNil))))) (mCons (mC (.int 300)) (mNil)))))))))))) (mNil)))) ⟨[.sh (.box 0), .sh (.str L), x2, x3, x4, x5, x6, x7, x8, x9], sto⟩) E Q := by
  repeat walk_at "evs"
  refine @Xc.d _ _ _ _ (fun hm => ?_) fun hm => ?_
  · repeat walk_at "evs"
    refine w_take hc h (by omega) (Nat.lt_of_lt_of_le (by decide) (Nat.le_refl 7)) (Nat.lt_of_le_of_lt (Nat.le_refl 7) (by decide)) fun dw sto2 h2 hd => ?_
    obtain ⟨w, rfl, w1, w2⟩ : ∃ w : Nat, dw = .int (w : Int) ∧ 1 ≤ w ∧ w ≤ 300 := by
      simp only [List.mem_cons, List.not_mem_nil, or_false] at hd
      rcases hd with e | e | e | e | e | e | e <;> subst e
      · exact ⟨1, rfl, by decide, by decide⟩
      · exact ⟨2, rfl, by decide, by decide⟩
      · exact ⟨3, rfl, by decide, by decide⟩
      · exact ⟨5, rfl, by decide, by decide⟩
      · exact ⟨8, rfl, by decide, by decide⟩
      · exact ⟨32, rfl, by decide, by decide⟩
      · exact ⟨40, rfl, by decide, by decide⟩
    exact k w sto2 (h2.mono (by omega)) w1 w2
  · repeat walk_at "evs"
    refine w_dip hc h (by omega) (by decide) (by decide) fun d1 sto1 h1 a1 b1 => ?_
    repeat walk_at "evs"
    refine w_take hc h1 (by omega) (Nat.lt_of_lt_of_le (by decide) (Nat.le_refl 8)) (Nat.lt_of_le_of_lt (Nat.le_refl 8) (by decide)) fun dw sto2 h2 hd => ?_
    obtain ⟨w, rfl, w1, w2⟩ : ∃ w : Nat, dw = .int (w : Int) ∧ 1 ≤ w ∧ w ≤ 300 := by
      simp only [List.mem_cons, List.not_mem_nil, or_false] at hd
      rcases hd with e | e | e | e | e | e | e | e <;> subst e
      · exact ⟨1, rfl, by decide, by decide⟩
      · exact ⟨2, rfl, by decide, by decide⟩
      · exact ⟨3, rfl, by decide, by decide⟩
      · exact ⟨8, rfl, by decide, by decide⟩
      · exact ⟨31, rfl, by decide, by decide⟩
      · exact ⟨64, rfl, by decide, by decide⟩
      · exact ⟨(1 + d1).toNat, by congr 1; omega, by omega, by omega⟩
      · exact ⟨300, rfl, by decide, by decide⟩
    exact k w sto2 (h2.mono (by omega)) w1 w2
structure Fct2 (L : Str) (ks : List Str) (tr : Bool) : Prop extends Fct L ks tr where
  two : ks.length = 2 → ∃ k, ks = [k, k]
theorem w_bend {c : List Int} (hc : Cs c) {L : Str} {ks : List Str} {tr : Bool} (f : Fct2 L ks tr) {w : Nat} {vs : List D} (hf : Fits (2 ^ w) (ks.map .str) vs) {B : Int} {sto : Sto} {x2 x3 x4 x6 x7 x8 x9 : Sl} {k : Kp} (h : Tr c B sto) (hB : B ≤ 90000)
    (kk : ∀ vs' sto', Tr c (B + 1) sto' → Fits (2 ^ w) (ks.map .str) vs' → k.nx ⟨[.sh (.box 0), .sh (.str L), x2, x3, x4, .ow vs', x6, x7, x8, x9], sto'⟩) : Ws ((sIf (mT (m2 gEq (mCall f__law_dip (mCons (mVar 0) (mCons (mC (.int 3)) (mNil)))) (mC (.int 0)))) (sSetO 5 (m1 gNeg (mC (.int 1))) (mIf (mT (m2 gEq (mB1 gLen 5) (mC (.int 2)))) (mIxB 5 (m1 gNeg (mC (.int 2)))) (mIxB 5 (m1 gNeg (mC (.int 1)))))) (sNx)) ⟨[.sh (.box 0), .sh (.str L), x2, x3, x4, .ow vs, x6, x7, x8, x9], sto⟩) k := by
  have hl := hf.length
  rw [List.length_map] at hl
  have hk := f.len
  refine Ws.if ?_
  repeat walk_at "evs"
  refine w_dip hc h (by omega) (by decide) (by decide) fun d1 sto1 h1 a1 b1 => ?_
  repeat walk_at "evs"
  refine @Xc.d _ _ _ _ (fun hm => ?_) fun hm => ?_
  · match vs, hl, hf with
    | [u], hl, hf =>
      refine Ws.setO ?_
      repeat walk_at "evs"
      refine We.b1 rfl ?_
      repeat walk_at "evs"
      refine ⟨rfl, ?_⟩
      repeat walk_at "evs"
      refine ⟨_, rfl, ?_⟩
      repeat walk_at "evs"
      exact kk [u] sto1 h1 hf
    | [u, v], hl, hf =>
      refine Ws.setO ?_
      repeat walk_at "evs"
      refine We.b1 rfl ?_
      repeat walk_at "evs"
      refine ⟨rfl, ?_⟩
      repeat walk_at "evs"
      refine ⟨_, rfl, ?_⟩
      repeat walk_at "evs"
      refine kk [u, u] sto1 h1 ?_
      obtain ⟨z, rfl⟩ := f.two (by rw [← hl]; rfl)
      have hf : Fits (2 ^ w) [.str z, .str z] [u, v] := hf
      show Fits (2 ^ w) [.str z, .str z] [u, u]
      cases hf with
      | w h0 h1 _ => exact .w h0 h1 (.w h0 h1 .nil)
      | t _ => exact .t (.t .nil)
    | [u, v, y], hl, hf =>
      refine Ws.setO ?_
      repeat walk_at "evs"
      refine We.b1 rfl ?_
      repeat walk_at "evs"
      refine ⟨rfl, ?_⟩
      repeat walk_at "evs"
      refine ⟨_, rfl, ?_⟩
      repeat walk_at "evs"
      exact kk [u, v, y] sto1 h1 hf
    | [], hl, hf => simp at hl; omega
    | _ :: _ :: _ :: _ :: _, hl, hf => simp at hl; omega
  · repeat walk_at "evs"
    exact kk vs sto1 h1 hf
theorem Fits.mem {w : Nat} : ∀ {ks vs : List D} {d : D}, Fits (2 ^ w) ks vs → d ∈ vs → (∃ m : Nat, d = .int (m : Nat) ∧ m < 2 ^ w) ∨ ∃ b, d = .bl b
  | _, _, d, .nil, h => by cases h
  | _, _, d, .w h0 h1 hf, h => by
    rcases List.mem_cons.mp h with rfl | h
    · obtain ⟨m, rfl, hm, _⟩ := wnat h0 h1
      exact .inl ⟨m, rfl, hm⟩
    · exact hf.mem h
  | _, _, d, .t hf, h => by
    rcases List.mem_cons.mp h with rfl | h
    · exact .inr ⟨_, rfl⟩
    · exact hf.mem h
theorem w_restF {c : List Int} (hc : Cs c) {L : Str} {ks : List Str} {tr : Bool} (f : Fct2 L ks tr) (hat : L ≠ "at") {w : Nat} (w1 : 1 ≤ w) (w2 : w ≤ 300) {vs : List D} (hf : Fits (2 ^ w) (ks.map .str) vs) {x4 x9 : Sl} (hx4 : ∃ d, x4 = .sh d)
    (hT : tr = true → LabT L (ks.map .str) w) (hW : tr = false → LabW L (ks.map .str) w) {B : Int} {sto : Sto} {k : Kp} (h : Tr c B sto) (hB : B ≤ 90000) (kk : ∀ sto', Tr c (B + 1) sto' → k.rt (.bl true) sto') :
    Ws ((sSeq (sSet 6 (mL gList (mCons (mVar 5) (mNil)))) (sSeq (sSet 7 (mCall f_worked (mPick [0, 1, 2] [] (mNil) (mCons (mVar 1) (mCons (mVar 3) (mCons (mCall f__law_take (mCons (mVar 0) (mCons (mSh (mLst (mCons (mVar 5) (mCons (mL gTuple (mCons (mVar 5) (mNil))) (mNil))))) (mNil)))) (mNil))))))) (sSeq (sOwn 8 (mComp (mItems (mVar 6)) (tgN 9) (M.pure true) m__law_label_right_e1 [9])) (sSeq (sIf (mOr (mT (mB2 gNe 5 (mVar 6))) (mT (m2 gNe (mL gRepr (mCons (mVar 5) (mNil))) (mL gRepr (mCons (mVar 6) (mNil)))))) (sRet (mC (.bl false))) (sNx)) (sSeq (sIf (mT (mVar 2)) (sRet (mAndV (m1 (gIsi ["bool"]) (mVar 7)) (m2 gEq (mVar 7) (mCall f__law_truth (mCons (mVar 1) (mCons (mVar 8) (mNil))))))) (sNx)) (sRet (mAndV (m1 (gIsi ["int"]) (mVar 7)) (mAndV (mNotV (m1 (gIsi ["bool"]) (mVar 7))) (m2 gEq (mVar 7) (mCall f__law_number (mCons (mCall f__law_due (mCons (mVar 1) (mCons (mVar 8) (mNil)))) (mNil)))))))))))) ⟨[.sh (.box 0), .sh (.str L), .sh (.bl tr), .sh (.int (w : Nat)), x4, .ow vs, .un, .un, .un, .un], sto⟩) k := by
  obtain ⟨d4, rfl⟩ := hx4
  have hz : sizeLine = 16777216 := by decide
  have hl := hf.length
  rw [List.length_map] at hl
  have hk := f.len
  have ok := vs_ok w2 hf
  repeat walk_at "evs"
  refine XL.of (z := .lst vs) rfl ?_
  repeat walk_at "evs"
  refine We.pick ?_
  repeat walk_at "evs"
  refine XL.of (z := .tup vs) rfl ?_
  repeat walk_at "evs"
  refine w_take hc h (by omega) (Nat.lt_of_lt_of_le (by decide) (Nat.le_refl 2)) (Nat.lt_of_le_of_lt (Nat.le_refl 2) (by decide)) fun cont sto2 h2 hd => ?_
  have hcont : Cont cont vs := by
    simp only [List.mem_cons, List.not_mem_nil, or_false] at hd
    exact hd
  repeat walk_at "evs"
  refine w_worked f.sh hat hcont w1 w2 hf ?_
  have comp : ∀ {x7 : Sl} {E : XPost} {Q : List D → Sx → Prop}, Q (vs.map (bitsD w)) ⟨[.sh (.box 0), .sh (.str L), .sh (.bl tr), .sh (.int (w : Nat)), .sh d4, .sh (.lst vs), .sh (.lst vs), x7, .un, .un], sto2⟩ → We (mComp (mItems (mVar 6)) (tgN 9) (M.pure true) m__law_label_right_e1 [9] ⟨[.sh (.box 0), .sh (.str L), .sh (.bl tr), .sh (.int (w : Nat)), .sh d4, .sh (.lst vs), .sh (.lst vs), x7, .un, .un], sto2⟩) E Q := by
    intro x7 E Q q
    refine We.compP (fun _ => true) (bitsD w) ?_
    repeat walk_at "evs"
    refine ⟨rfl, by omega, fun d hd => ?_, ?_⟩
    · refine ⟨_, rfl, rfl, rfl, We.pure ⟨rfl, rfl, fun _ => ?_⟩⟩
      obtain ⟨fb, hfb⟩ : ∃ fb, fb = f__law_bits := ⟨_, rfl⟩
      unfold m__law_label_right_e1
      rw [← hfb]
      rcases hf.mem hd with ⟨m, rfl, hm⟩ | ⟨b, rfl⟩
      · repeat walk_at "evs"
        refine w_bitsF hfb w2 ?_
        exact ⟨rfl, rfl⟩
      · repeat walk_at "evs"
        exact ⟨rfl, rfl⟩
    · rw [List.filter_eq_self.mpr fun _ _ => rfl]
      exact q
  generalize mComp (mItems (mVar 6)) (tgN 9) (M.pure true) m__law_label_right_e1 [9] = mc at comp ⊢
  cases tr with
  | true =>
    obtain ⟨b, g1, g2⟩ := (hT rfl).go vs hf
    refine g1 cont _ _ _ hcont ?_
    with_reducible refine Ws.seq (m := sOwn _ _) ?_
    with_reducible refine Ws.own ?_
    refine comp ?_
    refine Ws.seq (Ws.if ?_)
    refine We.norm (s := ⟨[.sh (.box 0), .sh (.str L), .sh (.bl true), .sh (.int (w : Nat)), .sh d4, .sh (.lst vs), .sh (.lst vs), .sh (.bl b), .ow (vs.map (bitsD w)), .un], sto2⟩) rfl ?_
    refine We.mOr (We.mT (We.b2 rfl ?_))
    repeat walk_at "evs"
    refine ⟨_, _, rfl, ok.same, rfl, ?_⟩
    repeat walk_at "evs"
    refine XL.of (ok.repr (by omega)) ?_
    repeat walk_at "evs"
    refine XL.of (ok.repr (by omega)) ?_
    generalize (D.lst vs).py.shown = S
    repeat walk_at "evs"
    refine Xc.f (by rw [decide_eq_true rfl]; rfl) ?_
    with_reducible refine Ws.nx ?_
    repeat walk_at "evs"
    refine g2 _ _ _ ?_
    repeat walk_at "evs"
    rw [decide_eq_true rfl]
    exact kk sto2 h2
  | false =>
    obtain ⟨n, bs, e1, e2, g1, g2⟩ := (hW rfl).go vs hf
    refine g1 cont _ _ _ hcont ?_
    with_reducible refine Ws.seq (m := sOwn _ _) ?_
    with_reducible refine Ws.own ?_
    refine comp ?_
    refine Ws.seq (Ws.if ?_)
    refine We.norm (s := ⟨[.sh (.box 0), .sh (.str L), .sh (.bl false), .sh (.int (w : Nat)), .sh d4, .sh (.lst vs), .sh (.lst vs), .sh (.int n), .ow (vs.map (bitsD w)), .un], sto2⟩) rfl ?_
    refine We.mOr (We.mT (We.b2 rfl ?_))
    repeat walk_at "evs"
    refine ⟨_, _, rfl, ok.same, rfl, ?_⟩
    repeat walk_at "evs"
    refine XL.of (ok.repr (by omega)) ?_
    repeat walk_at "evs"
    refine XL.of (ok.repr (by omega)) ?_
    generalize (D.lst vs).py.shown = S
    repeat walk_at "evs"
    refine Xc.f (by rw [decide_eq_true rfl]; rfl) ?_
    with_reducible refine Ws.nx ?_
    repeat walk_at "evs"
    refine g2 _ _ _ ?_
    repeat walk_at "evs"
    refine w_number (by omega) ?_
    repeat walk_at "evs"
    rw [decide_eq_true e2]
    exact kk sto2 h2

/-! ### every label -/
structure AnyLab (L : Str) : Prop where
  ex : ∃ ks tr, Fct2 L ks tr ∧ (L = "at" ∨ (L ≠ "at" ∧ ∀ w, 1 ≤ w → w ≤ 300 → (tr = true → LabT L (ks.map .str) w) ∧ (tr = false → LabW L (ks.map .str) w)))
theorem kd_ok {ks : List Str} (h : (ks.all fun k => decide (k = "truth" ∨ k = "word")) = true) : ∀ k ∈ ks, k = "truth" ∨ k = "word" := fun k hk => of_decide_eq_true (List.all_eq_true.mp h k hk)
theorem fct_add : Fct2 "add" ["word", "word"] false := ⟨⟨fun sto => by kernel_rfl, fun sto => by kernel_rfl, by kernel_rfl, by decide, ⟨(D.tup [.str (if false = true then "truth" else "word"), .tup ((["word", "word"] : List Str).map .str)]).py.shown, by kernel_rfl⟩, kd_ok (by decide +kernel)⟩, fun _ => ⟨"word", rfl⟩⟩
theorem any_add : AnyLab "add" := ⟨⟨_, _, fct_add, .inr ⟨by decide +kernel, fun w w1 w2 => ⟨fun h => (by cases h), fun _ => lb_add w1 w2⟩⟩⟩⟩
theorem fct_sub : Fct2 "sub" ["word", "word"] false := ⟨⟨fun sto => by kernel_rfl, fun sto => by kernel_rfl, by kernel_rfl, by decide, ⟨(D.tup [.str (if false = true then "truth" else "word"), .tup ((["word", "word"] : List Str).map .str)]).py.shown, by kernel_rfl⟩, kd_ok (by decide +kernel)⟩, fun _ => ⟨"word", rfl⟩⟩
theorem any_sub : AnyLab "sub" := ⟨⟨_, _, fct_sub, .inr ⟨by decide +kernel, fun w w1 w2 => ⟨fun h => (by cases h), fun _ => lb_sub w1 w2⟩⟩⟩⟩
theorem fct_mul : Fct2 "mul" ["word", "word"] false := ⟨⟨fun sto => by kernel_rfl, fun sto => by kernel_rfl, by kernel_rfl, by decide, ⟨(D.tup [.str (if false = true then "truth" else "word"), .tup ((["word", "word"] : List Str).map .str)]).py.shown, by kernel_rfl⟩, kd_ok (by decide +kernel)⟩, fun _ => ⟨"word", rfl⟩⟩
theorem any_mul : AnyLab "mul" := ⟨⟨_, _, fct_mul, .inr ⟨by decide +kernel, fun w w1 w2 => ⟨fun h => (by cases h), fun _ => lb_mul w1 w2⟩⟩⟩⟩
theorem fct_and : Fct2 "and" ["word", "word"] false := ⟨⟨fun sto => by kernel_rfl, fun sto => by kernel_rfl, by kernel_rfl, by decide, ⟨(D.tup [.str (if false = true then "truth" else "word"), .tup ((["word", "word"] : List Str).map .str)]).py.shown, by kernel_rfl⟩, kd_ok (by decide +kernel)⟩, fun _ => ⟨"word", rfl⟩⟩
theorem any_and : AnyLab "and" := ⟨⟨_, _, fct_and, .inr ⟨by decide +kernel, fun w w1 w2 => ⟨fun h => (by cases h), fun _ => lb_and w1 w2⟩⟩⟩⟩
theorem fct_or : Fct2 "or" ["word", "word"] false := ⟨⟨fun sto => by kernel_rfl, fun sto => by kernel_rfl, by kernel_rfl, by decide, ⟨(D.tup [.str (if false = true then "truth" else "word"), .tup ((["word", "word"] : List Str).map .str)]).py.shown, by kernel_rfl⟩, kd_ok (by decide +kernel)⟩, fun _ => ⟨"word", rfl⟩⟩
theorem any_or : AnyLab "or" := ⟨⟨_, _, fct_or, .inr ⟨by decide +kernel, fun w w1 w2 => ⟨fun h => (by cases h), fun _ => lb_or w1 w2⟩⟩⟩⟩
theorem fct_xor : Fct2 "xor" ["word", "word"] false := ⟨⟨fun sto => by kernel_rfl, fun sto => by kernel_rfl, by kernel_rfl, by decide, ⟨(D.tup [.str (if false = true then "truth" else "word"), .tup ((["word", "word"] : List Str).map .str)]).py.shown, by kernel_rfl⟩, kd_ok (by decide +kernel)⟩, fun _ => ⟨"word", rfl⟩⟩
theorem any_xor : AnyLab "xor" := ⟨⟨_, _, fct_xor, .inr ⟨by decide +kernel, fun w w1 w2 => ⟨fun h => (by cases h), fun _ => lb_xor w1 w2⟩⟩⟩⟩
theorem fct_neg : Fct2 "neg" ["word"] false := ⟨⟨fun sto => by kernel_rfl, fun sto => by kernel_rfl, by kernel_rfl, by decide, ⟨(D.tup [.str (if false = true then "truth" else "word"), .tup ((["word"] : List Str).map .str)]).py.shown, by kernel_rfl⟩, kd_ok (by decide +kernel)⟩, fun h => absurd h (by decide)⟩
theorem any_neg : AnyLab "neg" := ⟨⟨_, _, fct_neg, .inr ⟨by decide +kernel, fun w w1 w2 => ⟨fun h => (by cases h), fun _ => lb_neg w1 w2⟩⟩⟩⟩
theorem fct_flip : Fct2 "flip" ["word"] false := ⟨⟨fun sto => by kernel_rfl, fun sto => by kernel_rfl, by kernel_rfl, by decide, ⟨(D.tup [.str (if false = true then "truth" else "word"), .tup ((["word"] : List Str).map .str)]).py.shown, by kernel_rfl⟩, kd_ok (by decide +kernel)⟩, fun h => absurd h (by decide)⟩
theorem any_flip : AnyLab "flip" := ⟨⟨_, _, fct_flip, .inr ⟨by decide +kernel, fun w w1 w2 => ⟨fun h => (by cases h), fun _ => lb_flip w1 w2⟩⟩⟩⟩
theorem fct_at : Fct2 "at" ["word"] false := ⟨⟨fun sto => by kernel_rfl, fun sto => by kernel_rfl, by kernel_rfl, by decide, ⟨(D.tup [.str (if false = true then "truth" else "word"), .tup ((["word"] : List Str).map .str)]).py.shown, by kernel_rfl⟩, kd_ok (by decide +kernel)⟩, fun h => absurd h (by decide)⟩
theorem any_at : AnyLab "at" := ⟨⟨_, _, fct_at, .inl rfl⟩⟩
theorem fct_if : Fct2 "if" ["truth", "word", "word"] false := ⟨⟨fun sto => by kernel_rfl, fun sto => by kernel_rfl, by kernel_rfl, by decide, ⟨(D.tup [.str (if false = true then "truth" else "word"), .tup ((["truth", "word", "word"] : List Str).map .str)]).py.shown, by kernel_rfl⟩, kd_ok (by decide +kernel)⟩, fun h => absurd h (by decide)⟩
theorem any_if : AnyLab "if" := ⟨⟨_, _, fct_if, .inr ⟨by decide +kernel, fun w w1 w2 => ⟨fun h => (by cases h), fun _ => lb_if w1 w2⟩⟩⟩⟩
theorem fct_eq : Fct2 "eq" ["word", "word"] true := ⟨⟨fun sto => by kernel_rfl, fun sto => by kernel_rfl, by kernel_rfl, by decide, ⟨(D.tup [.str (if true = true then "truth" else "word"), .tup ((["word", "word"] : List Str).map .str)]).py.shown, by kernel_rfl⟩, kd_ok (by decide +kernel)⟩, fun _ => ⟨"word", rfl⟩⟩
theorem any_eq : AnyLab "eq" := ⟨⟨_, _, fct_eq, .inr ⟨by decide +kernel, fun w w1 w2 => ⟨fun _ => lb_eq w1 w2, fun h => (by cases h)⟩⟩⟩⟩
theorem fct_lt : Fct2 "lt" ["word", "word"] true := ⟨⟨fun sto => by kernel_rfl, fun sto => by kernel_rfl, by kernel_rfl, by decide, ⟨(D.tup [.str (if true = true then "truth" else "word"), .tup ((["word", "word"] : List Str).map .str)]).py.shown, by kernel_rfl⟩, kd_ok (by decide +kernel)⟩, fun _ => ⟨"word", rfl⟩⟩
theorem any_lt : AnyLab "lt" := ⟨⟨_, _, fct_lt, .inr ⟨by decide +kernel, fun w w1 w2 => ⟨fun _ => lb_lt w1 w2, fun h => (by cases h)⟩⟩⟩⟩
theorem fct_less : Fct2 "less" ["word", "word"] true := ⟨⟨fun sto => by kernel_rfl, fun sto => by kernel_rfl, by kernel_rfl, by decide, ⟨(D.tup [.str (if true = true then "truth" else "word"), .tup ((["word", "word"] : List Str).map .str)]).py.shown, by kernel_rfl⟩, kd_ok (by decide +kernel)⟩, fun _ => ⟨"word", rfl⟩⟩
theorem any_less : AnyLab "less" := ⟨⟨_, _, fct_less, .inr ⟨by decide +kernel, fun w w1 w2 => ⟨fun _ => lb_less w1 w2, fun h => (by cases h)⟩⟩⟩⟩
theorem fct_both : Fct2 "both" ["truth", "truth"] true := ⟨⟨fun sto => by kernel_rfl, fun sto => by kernel_rfl, by kernel_rfl, by decide, ⟨(D.tup [.str (if true = true then "truth" else "word"), .tup ((["truth", "truth"] : List Str).map .str)]).py.shown, by kernel_rfl⟩, kd_ok (by decide +kernel)⟩, fun _ => ⟨"truth", rfl⟩⟩
theorem any_both : AnyLab "both" := ⟨⟨_, _, fct_both, .inr ⟨by decide +kernel, fun w w1 w2 => ⟨fun _ => lb_both w1 w2, fun h => (by cases h)⟩⟩⟩⟩
theorem fct_either : Fct2 "either" ["truth", "truth"] true := ⟨⟨fun sto => by kernel_rfl, fun sto => by kernel_rfl, by kernel_rfl, by decide, ⟨(D.tup [.str (if true = true then "truth" else "word"), .tup ((["truth", "truth"] : List Str).map .str)]).py.shown, by kernel_rfl⟩, kd_ok (by decide +kernel)⟩, fun _ => ⟨"truth", rfl⟩⟩
theorem any_either : AnyLab "either" := ⟨⟨_, _, fct_either, .inr ⟨by decide +kernel, fun w w1 w2 => ⟨fun _ => lb_either w1 w2, fun h => (by cases h)⟩⟩⟩⟩
theorem fct_no : Fct2 "no" ["truth"] true := ⟨⟨fun sto => by kernel_rfl, fun sto => by kernel_rfl, by kernel_rfl, by decide, ⟨(D.tup [.str (if true = true then "truth" else "word"), .tup ((["truth"] : List Str).map .str)]).py.shown, by kernel_rfl⟩, kd_ok (by decide +kernel)⟩, fun h => absurd h (by decide)⟩
theorem any_no : AnyLab "no" := ⟨⟨_, _, fct_no, .inr ⟨by decide +kernel, fun w w1 w2 => ⟨fun _ => lb_no w1 w2, fun h => (by cases h)⟩⟩⟩⟩
theorem any_shl {k : Nat} (h0 : 1 ≤ k) (h1 : k ≤ 31) : AnyLab (labS (k : Nat)) := by
  have f := shf (k : Nat) (by omega) (by omega)
  have g := shg k h0 h1
  refine ⟨⟨["word"], false, ⟨⟨f.shape, g.kn, g.ntr, by decide, ⟨(D.tup [.str (if false = true then "truth" else "word"), .tup ((["word"] : List Str).map .str)]).py.shown, by kernel_rfl⟩, kd_ok (by decide +kernel)⟩, fun h => absurd h (by decide)⟩, .inr ⟨of_decide_eq_false f.nat, fun w w1 w2 => ⟨fun h => (by cases h), fun _ => lb_shl w1 w2 h0 h1⟩⟩⟩⟩
theorem w_label_right {c : List Int} (hc : Cs c) {L : Str} (hL : AnyLab L) {B : Int} {sto : Sto} {E : XPost} {P : D → Sto → Prop} (h : Tr c B sto) (hB : B + 200 ≤ 80000) (k : ∀ sto', Tr c (B + 200) sto' → P (.bl true) sto') : Wf (f__law_label_right [.box 0, .str L] sto) E P := by
  obtain ⟨ks, tr, f, hat⟩ := hL.ex
  obtain ⟨S, hS⟩ := f.rp
  cases tr
  all_goals
    refine Wf.fn ?_
    unfold m__law_label_right
    repeat walk_at "evs"
    refine X2.of f.tr_ ?_
    repeat walk_at "evs"
    refine We.pick ?_
    repeat walk_at "evs"
    refine Wf.of_eq (f.sh _) ?_
    repeat walk_at "evs"
    refine XL.of hS ?_
    repeat walk_at "evs"
    refine Wf.of_eq (f.kn _) ?_
    repeat walk_at "evs"
    refine XL.of hS ?_
    repeat walk_at "evs"
    refine Xc.f (by rw [decide_eq_true rfl]; rfl) ?_
    repeat walk_at "evs"
    rcases hat with rfl | ⟨hat, lab⟩
    · repeat walk_at "evs"
      exact k sto (h.mono (by omega))
    · refine Xc.f (decide_eq_false hat) ?_
      with_reducible refine Ws.nx ?_
      with_reducible refine Ws.seq (m := sSet _ _) ?_
      with_reducible refine Ws.set ?_
      refine We.norm (s := ⟨[.sh (.box 0), .sh (.str L), .sh (.bl _), .un, .un, .un, .un, .un, .un, .un], sto⟩) rfl ?_
      refine we_width hc h (by omega) fun w sto1 h1 w1 w2 => ?_
      repeat walk_at "evs"
      refine X2.shl (cShl_ok (m := 1) (by omega) (by omega) (by decide) (by decide)) ?_
      rw [Int.one_mul, Int.toNat_natCast]
      repeat walk_at "evs"
      refine We.callF ?_
      repeat walk_at "evs"
      refine w_partsF hc f.toFct w1 w2 h1 (by omega) fun vs sto2 h2 hf => ?_
      with_reducible refine Ws.seq ?_
      refine Ws.st (s' := ⟨[.sh (.box 0), .sh (.str L), .sh (.bl _), .sh (.int (w : Nat)), .sh (.int (2 ^ w)), .ow vs, .un, .un, .un, .un], sto2⟩) rfl ?_
      refine w_bend hc f hf h2 (by omega) fun vs' sto3 h3 hf' => ?_
      exact w_restF (x9 := .un) hc f hat w1 w2 hf' ⟨_, rfl⟩ (fun e => (lab w w1 w2).1 e) (fun e => (lab w w1 w2).2 e) h3 (by omega) fun sto4 h4 => k sto4 (h4.mono (by omega))

/-! ### what is refused -/
def oddA : List D := [.str "number", .str "name", .str "flag", .str "true", .str "false", .str "call f 0", .str "loop f 0", .str "shl", .str "shl 0", .str "shl 32", .str "shl 01", .str "shl  1", .str "shl 1 ", .str "shl -1", .str "shl x", .str " add"]
def oddB : List D := [.str "Add", .str "", .str "not", .str "mod", .str "if ", .non, .bl true, .int 0, .int 7, .tup [.str "add"], .lst [.str "add"], .dic [] []]
theorem odd_shape : ∀ o ∈ oddA ++ oddB, ∀ sto, f_shape_of [o] sto = .rt .non sto := by
  intro o ho
  unfold oddA oddB at ho
  simp only [List.mem_append, List.mem_cons, List.not_mem_nil, or_false] at ho
  rcases ho with (rfl | rfl | rfl | rfl | rfl | rfl | rfl | rfl | rfl | rfl | rfl | rfl | rfl | rfl | rfl | rfl) | (rfl | rfl | rfl | rfl | rfl | rfl | rfl | rfl | rfl | rfl | rfl | rfl)
  all_goals exact fun sto => by kernel_rfl
def wides : List D := [.int 0, .int 301, .int (-1), .non, .bl true, .str "8"]
theorem wide_bad : ∀ d ∈ wides, ∀ sto, f_need_width [d] sto = .exc "BadNumber" ["part"] [.str "width"] sto := by
  intro o ho
  unfold wides at ho
  simp only [List.mem_cons, List.not_mem_nil, or_false] at ho
  rcases ho with rfl | rfl | rfl | rfl | rfl | rfl
  all_goals exact fun sto => by kernel_rfl
theorem Ws.raise {x f : Str} {m : M D} {s : Sx} {k : Kp} (h : We (m s) k.ex fun d s' => k.ex x [f] [d] s'.sto) : Ws (sRaise x f m s) k := Ws.bind (h.imp fun _ _ q => q)
theorem Wf.of_exc {E : XPost} {P : D → Sto → Prop} {r : RS} {c : Str} {ns : List Str} {vs : List D} {sto : Sto} (e : r = .exc c ns vs sto) (h : E c ns vs sto) : Wf r E P := by rw [e]; exact h
section
variable {E : XPost} {P : D → Sto → Prop} {sto : Sto}
theorem x_worked_label {o a b : D} (h : ∀ sto, f_shape_of [o] sto = .rt .non sto) (k : E "BadTerm" ["part"] [.str "label"] sto) : Wf (f_worked [o, a, b] sto) E P := by
  refine Wf.fn ?_
  unfold m_worked
  repeat walk_at "evs"
  refine Wf.of_eq (h _) ?_
  repeat walk_at "evs"
  refine Ws.raise ?_
  repeat walk_at "evs"
  exact k
theorem x_worked_at {a b : D} (k : E "BadTerm" ["part"] [.str "label"] sto) : Wf (f_worked [.str "at", a, b] sto) E P := by
  refine Wf.fn ?_
  unfold m_worked
  repeat walk_at "evs"
  refine Wf.of_eq (fct_at.sh _) ?_
  repeat walk_at "evs"
  refine Ws.raise ?_
  repeat walk_at "evs"
  exact k
theorem x_worked_width {L : Str} {ks : List Str} {tr : Bool} (f : Fct L ks tr) (hat : L ≠ "at") {d b : D} (hd : d ∈ wides) (k : E "BadNumber" ["part"] [.str "width"] sto) : Wf (f_worked [.str L, d, b] sto) E P := by
  refine Wf.fn ?_
  unfold m_worked
  repeat walk_at "evs"
  refine Wf.of_eq (f.sh _) ?_
  repeat walk_at "evs"
  refine Xc.f (decide_eq_false hat) ?_
  repeat walk_at "evs"
  exact Wf.of_exc (wide_bad d hd _) k
/-- what fits no kind -/
inductive Unfit (w : Nat) : Str → D → Prop
  | w {v : D} : (∀ (sto : Sto) (E : XPost) (P : D → Sto → Prop), P (.bl false) sto → Wf (f_is_within [v, .int 0, .int (2 ^ w - 1)] sto) E P) → Unfit w "word" v
  | t {v : D} : gIsi ["bool"] v = some (.bl false) → Unfit w "truth" v
theorem forL_cons {k : Kp} {t : Tg} {body : MS} {d : D} {ds : List D} {s s1 : Sx} (e : t.run d s = some s1) (h : Ws (body s1) (k.lp fun s2 => Ws (forL t body ds s2) k)) : Ws (forL t body (d :: ds) s) k := by
  show Ws (match t.run d s with
      | none => .bad
      | some s1 => match body s1 with
        | .nx s2 => forL t body ds s2
        | .ct s2 => forL t body ds s2
        | .bk s2 => .nx s2
        | r => r) k
  rw [e]
  simp only
  cases e2 : body s1 <;> rw [e2] at h <;> exact h
theorem unfit_first {w : Nat} {kz : Str} {v : D} (hu : Unfit w kz v) {ds : List D} {a b c d x5 x6 : Sl} {k : Kp} (h : k.ex "BadNumber" ["part"] [.str "values"] sto) :
    Ws (forL (tgT (tgsCons (tgN 5) (tgsCons (tgN 6) tgsNil))) m_worked_b1 (.tup [.str kz, v] :: ds) ⟨[a, b, c, d, .sh (.int (2 ^ w)), x5, x6], sto⟩) k := by
  refine forL_cons rfl ?_
  unfold m_worked_b1
  cases hu with
  | w hw =>
    repeat walk_at "evs"
    refine hw _ _ _ ?_
    repeat walk_at "evs"
    refine Ws.raise ?_
    repeat walk_at "evs"
    exact h
  | t ht =>
    repeat walk_at "evs"
    refine X1.of ht ?_
    repeat walk_at "evs"
    refine Ws.raise ?_
    repeat walk_at "evs"
    exact h
theorem unfit_loop {w : Nat} {x : D} : ∀ {ks vs : List D} {p : Nat} {kz : Str}, Fits (2 ^ w) ks vs → ks[p]? = some (.str kz) → Unfit w kz x → ∀ {a b c d x5 x6 : Sl} {k : Kp}, k.ex "BadNumber" ["part"] [.str "values"] sto →
    Ws (forL (tgT (tgsCons (tgN 5) (tgsCons (tgN 6) tgsNil))) m_worked_b1 (zipD ks (vs.set p x)) ⟨[a, b, c, d, .sh (.int (2 ^ w)), x5, x6], sto⟩) k
  | _, _, p, kz, .nil, hk, _, _, _, _, _, _, _, _, _ => by simp at hk
  | _, _, 0, kz, .w h0 h1 hf, hk, hu, a, b, c, d, x5, x6, k, h => by
    cases hk
    exact unfit_first hu h
  | _, _, 0, kz, .t hf, hk, hu, a, b, c, d, x5, x6, k, h => by
    cases hk
    exact unfit_first hu h
  | _, _, p + 1, kz, .w (v := v) h0 h1 hf, hk, hu, a, b, c, d, x5, x6, k, h => by
    refine forL_cons rfl ?_
    unfold m_worked_b1
    repeat walk_at "evs"
    refine w_is_within ?_
    rw [decide_eq_true (show 0 ≤ v ∧ v ≤ 2 ^ w - 1 from ⟨h0, by omega⟩)]
    repeat walk_at "evs"
    exact unfit_loop hf (by simpa using hk) hu h
  | _, _, p + 1, kz, .t hf, hk, hu, a, b, c, d, x5, x6, k, h => by
    refine forL_cons rfl ?_
    unfold m_worked_b1
    repeat walk_at "evs"
    exact unfit_loop hf (by simpa using hk) hu h
/-- wrong values -/
inductive Wrong (w : Nat) (ks : List Str) : D → Prop
  | non {v : D} : gIsi ["list", "tuple"] v = some (.bl false) → Wrong w ks v
  | lst {us : List D} : us.length ≠ ks.length → Wrong w ks (.lst us)
  | tup {us : List D} : us.length ≠ ks.length → Wrong w ks (.tup us)
  | bad {vs : List D} {p : Nat} {kz : Str} {x : D} : Fits (2 ^ w) (ks.map .str) vs → ks[p]? = some kz → Unfit w kz x → Wrong w ks (.lst (vs.set p x))
theorem x_worked_vals {L : Str} {ks : List Str} {tr : Bool} (f : Fct L ks tr) (hat : L ≠ "at") {w : Nat} (w1 : 1 ≤ w) (w2 : w ≤ 300) {v : D} (hv : Wrong w ks v) (k : E "BadNumber" ["part"] [.str "values"] sto) : Wf (f_worked [.str L, .int (w : Nat), v] sto) E P := by
  refine Wf.fn ?_
  unfold m_worked
  repeat walk_at "evs"
  refine Wf.of_eq (f.sh _) ?_
  repeat walk_at "evs"
  refine Xc.f (decide_eq_false hat) ?_
  repeat walk_at "evs"
  refine w_need_width (by omega) (by omega) ?_
  cases hv with
  | non hn =>
    repeat walk_at "evs"
    refine X1.of hn ?_
    repeat walk_at "evs"
    refine Ws.raise ?_
    repeat walk_at "evs"
    exact k
  | lst hn =>
    repeat walk_at "evs"
    rw [List.length_map]
    refine Xc.t (by rw [decide_eq_false (by omega)]; rfl) ?_
    repeat walk_at "evs"
    refine Ws.raise ?_
    repeat walk_at "evs"
    exact k
  | tup hn =>
    repeat walk_at "evs"
    rw [List.length_map]
    refine Xc.t (by rw [decide_eq_false (by omega)]; rfl) ?_
    repeat walk_at "evs"
    refine Ws.raise ?_
    repeat walk_at "evs"
    exact k
  | @bad vs p kz x hf hk hu =>
    have hl := hf.length
    rw [List.length_map] at hl
    repeat walk_at "evs"
    rw [List.length_map, List.length_set]
    refine Xc.f (by rw [decide_eq_true (by omega)]; rfl) ?_
    repeat walk_at "evs"
    refine X2.shl (cShl_ok (m := 1) (by omega) (by omega) (by decide) (by decide)) ?_
    rw [Int.one_mul, Int.toNat_natCast]
    repeat walk_at "evs"
    refine ⟨zipD (ks.map .str) (vs.set p x), rfl, ?_⟩
    exact unfit_loop hf (by rw [List.getElem?_map, hk]; rfl) hu k
end
/-! the odd values of a place -/
theorem not_within {v a b : D} (h : ∀ (sto : Sto), f_is_within [v, a, b] sto = .rt (.bl false) sto) (sto : Sto) (E : XPost) (P : D → Sto → Prop) (k : P (.bl false) sto) : Wf (f_is_within [v, a, b] sto) E P := Wf.of_eq (h sto) k
theorem unfit_word {w : Nat} {x : D} (h : x ∈ [D.int (2 ^ w), .int (-1), .non, .bl true, .str "1", .lst [.int 0]]) : Unfit w "word" x := by
  simp only [List.mem_cons, List.not_mem_nil, or_false] at h
  have p2 := two_nn w
  rcases h with rfl | rfl | rfl | rfl | rfl | rfl
  · refine .w fun sto E P k => w_is_within ?_
    rw [decide_eq_false (by omega)]
    exact k
  · refine .w fun sto E P k => w_is_within ?_
    rw [decide_eq_false (by omega)]
    exact k
  · exact .w (not_within fun _ => rfl)
  · exact .w (not_within fun _ => rfl)
  · exact .w (not_within fun _ => rfl)
  · exact .w (not_within fun _ => rfl)
theorem unfit_truth {w : Nat} {x : D} (h : x ∈ [D.int 0, .int 1, .non, .str "True"]) : Unfit w "truth" x := by
  simp only [List.mem_cons, List.not_mem_nil, or_false] at h
  rcases h with rfl | rfl | rfl | rfl
  all_goals exact .t rfl

theorem Wf.lam {E : XPost} {P : D → Sto → Prop} {m : M D} {dd ds : List D} {nm : Nat} {s : Sx} {sto : Sto} (h : We (m ⟨hideOw s.env ++ ((ds ++ dd).map .sh ++ List.replicate nm .un), sto⟩) E fun d s' => P d s'.sto) : Wf (lamF m dd nm s ds sto) E P := by
  unfold lamF
  cases e : m ⟨hideOw s.env ++ ((ds ++ dd).map .sh ++ List.replicate nm .un), sto⟩ with
  | ok d s' => rw [e] at h; exact h
  | exc c ns vs sto' => rw [e] at h; exact h
  | bad => rw [e] at h; exact h.elim
theorem We.lam {E : XPost} {s : Sx} {Q : D → Sx → Prop} {F : Fn → Fn} {lf : Sx → Fn} {ml : M (List D)} (h : We (ml s) E fun ds s1 => Wf (F (lf s1) ds s1.sto) E fun d sto => Q d { s1 with sto := sto }) : We (mLam F lf ml s) E Q :=
  We.bind (h.imp fun ds s1 q => by
    show We (match F (lf s1) ds s1.sto with
      | .rt d sto => .ok d { s1 with sto := sto }
      | .ro xs sto => .ok (.lst xs) { s1 with sto := sto }
      | .exc c ns vs sto => .exc c ns vs sto
      | _ => .bad) E Q
    unfold Wf at q
    cases e : F (lf s1) ds s1.sto <;> rw [e] at q <;> first | exact q | exact q.elim)
def XH (P : D → Sto → Prop) : XPost := fun c ns vs sto => (c = "BadNumber" ∨ c = "BadTerm") ∧ ns = [("part" : Str)] ∧ ∃ p, vs = [.str p] ∧ P (.tup [.str c, .str p]) sto
theorem XH.number {P : D → Sto → Prop} {p : Str} {sto : Sto} (h : P (.tup [.str "BadNumber", .str p]) sto) : XH P "BadNumber" ["part"] [.str p] sto := ⟨.inl rfl, rfl, p, rfl, h⟩
theorem XH.term {P : D → Sto → Prop} {p : Str} {sto : Sto} (h : P (.tup [.str "BadTerm", .str p]) sto) : XH P "BadTerm" ["part"] [.str p] sto := ⟨.inr rfl, rfl, p, rfl, h⟩
theorem w_heard {th : Fn} {sto : Sto} {E : XPost} {P : D → Sto → Prop} (h : Wf (th [] sto) (XH P) fun _ sto' => P .non sto') : Wf (f__law_heard th [] sto) E P := by
  cases e : th [] sto with
  | rt d sto' =>
    rw [e] at h
    have q : f__law_heard th [] sto = .rt .non sto' := by
      unfold f__law_heard bodyL m__law_heard sTry mAsk mCall M.bind
      simp [sSeq, sSet, sBind, mC, M.pure, Sx.put, mNil, e, sIf, mT, m1, M.bind, mVar, gIsx, M.lift, asB, sNx, sRet, mIf, m2, gIs, isNon]
    exact Wf.of_eq q h
  | ro xs sto' =>
    rw [e] at h
    have q : f__law_heard th [] sto = .rt .non sto' := by
      unfold f__law_heard bodyL m__law_heard sTry mAsk mCall M.bind
      simp [sSeq, sSet, sBind, mC, M.pure, Sx.put, mNil, e, sIf, mT, m1, M.bind, mVar, gIsx, M.lift, asB, sNx, sRet, mIf, m2, gIs, isNon]
    exact Wf.of_eq q h
  | exc c ns vs sto' =>
    rw [e] at h
    obtain ⟨hc, rfl, p, rfl, hp⟩ := h
    refine Wf.of_eq (d := .tup [.str c, .str p]) (sto := sto') ?_ hp
    have ea : mAsk 0 th mNil ⟨[.th, .sh .non, .un], sto⟩ = .exc c ["part"] [.str p] sto' := by
      unfold mAsk mCall M.bind
      simp [mNil, M.pure, e]
    have et : sTry [("BadNumber", true), ("BadTerm", true)] 2 1 (mAsk 0 th mNil) ⟨[.th, .sh .non, .un], sto⟩ = .nx ⟨[.th, .sh (.ins c ["part"] [.str p]), .un], sto'⟩ := by
      unfold sTry
      rw [ea]
      rcases hc with rfl | rfl <;> rfl
    show (match m__law_heard th ⟨[.th, .un, .un], sto⟩ with | .nx s => RS.rt .non s.sto | .bk _ => .bad | .ct _ => .bad | r => r) = _
    have em : m__law_heard th ⟨[.th, .un, .un], sto⟩ = .rt (.tup [.str c, .str p]) sto' := by
      unfold m__law_heard
      show sSeq (sTry [("BadNumber", true), ("BadTerm", true)] 2 1 (mAsk 0 th mNil)) _ ⟨[.th, .sh .non, .un], sto⟩ = _
      unfold sSeq
      rw [et]
      rcases hc with rfl | rfl <;> rfl
    rw [em]
  | nx _ => rw [e] at h; exact h.elim
  | bk _ => rw [e] at h; exact h.elim
  | ct _ => rw [e] at h; exact h.elim
  | bad => rw [e] at h; exact h.elim
/-! ### own lists of own lists -/
theorem Ws.soNew {i p c : Nat} {n : List (List D) → MS} {s : Sx} {k : Kp} {d : D} {xs : List D} (e : s.env[p]? = some (.sh d)) (hi : itemsOf d = some xs) (hl : i < s.env.length) (h : Ws (n (List.replicate c xs) { s with env := s.env.set i .un }) k) : Ws (soNew i p c n s) k := by
  unfold Ev.soNew
  simp only [e, hi]
  rw [if_pos hl]
  exact h
theorem Ws.soSet {c : Nat} {mk mv : M D} {n : List (List D) → MS} {xss : List (List D)} {s : Sx} {k : Kp} (h : We (mv s) k.ex fun v s1 => ∃ xs, xss[c]? = some xs ∧ We (mk s1) k.ex fun j s2 => ∃ jj p, j = .int jj ∧ ixN xs.length jj = some p ∧ Ws (n (xss.set c (xs.set p v)) s2) k) : Ws (soSet c mk mv n xss s) k := by
  unfold Ev.soSet
  refine Ws.bind (h.imp fun v s1 ⟨xs, e, h⟩ => ?_)
  simp only [e]
  refine Ws.bind (h.imp fun j s2 ⟨jj, p, ej, ep, h⟩ => ?_)
  subst ej
  simp only [ep]
  exact h
theorem Ws.soApp {c : Nat} {mv : M D} {n : List (List D) → MS} {xss : List (List D)} {s : Sx} {k : Kp} {xs : List D} (e : xss[c]? = some xs) (h : We (mv s) k.ex fun v s1 => xs.length < sizeLine ∧ Ws (n (xss.set c (xs ++ [v])) s1) k) : Ws (soApp c mv n xss s) k := by
  unfold Ev.soApp
  simp only [e]
  exact Ws.bind (h.imp fun v s1 ⟨hl, h⟩ => by rw [if_pos hl]; exact h)
theorem Ws.soPop {c : Nat} {n : List (List D) → MS} {xss : List (List D)} {s : Sx} {k : Kp} {xs : List D} (e : xss[c]? = some xs) (hx : xs.isEmpty = false) (h : Ws (n (xss.set c xs.dropLast) s) k) : Ws (soPop c n xss s) k := by
  unfold Ev.soPop
  simp only [e]
  rw [if_neg (by rw [hx]; decide)]
  exact h
theorem Ws.soEnd {i : Nat} {n : MS} {xss : List (List D)} {s : Sx} {k : Kp} (h : Ws (n (s.put i (.lst (xss.map .lst)))) k) : Ws (soEnd i n xss s) k := h
theorem We.dispK {E : XPost} {s : Sx} {Q : D → Sx → Prop} {ks : List Key} {m : M (List D)} (h : We (m s) E fun ds s1 => Q (.dic ks ds) s1) : We (mDispK ks m s) E Q := We.bind (h.imp fun ds s1 q => We.pure q)
theorem Wf.ofO {r : RS} {E : XPost} {P : D → Sto → Prop} (h : WfO r E fun xs sto => P (.lst xs) sto) : Wf r E P := by
  cases r with
  | ro xs sto => exact h
  | exc => exact h
  | rt => exact h.elim
  | nx => exact h.elim
  | bk => exact h.elim
  | ct => exact h.elim
  | bad => exact h.elim
theorem ix_nat {n p : Nat} (h : p < n) : ixN n ((p : Nat) : Int) = some p := by
  unfold ixN
  rw [if_pos (by omega)]
  simp
  omega

theorem we_spoil {c : List Int} (hc : Cs c) {L : Str} {ks : List Str} {tr : Bool} (f : Fct2 L ks tr) {w p : Nat} {kz : Str} (hkp : ks[p]? = some kz) (hkd : kz = "truth" ∨ kz = "word") {B : Int} {sto : Sto} {x2 x3 x4 x5 x7 x9 x10 x11 x12 x13 : Sl} {E : XPost} {Q : D → Sx → Prop} (h : Tr c B sto) (hB : B ≤ 90000)
    (kk : ∀ x sto', Tr c (B + 1) sto' → Unfit w kz x → Q x ⟨[.sh (.box 0), .sh (.str L), x2, x3, x4, x5, .sh (.int (2 ^ w)), x7, .sh (.int (p : Nat)), x9, x10, x11, x12, x13], sto'⟩) :
    We ((mIf (mT (m2 gEq (mIx (mCall f__law_kinds (mCons (mVar 1) (mNil))) (mVar 8)) (mC (.str "word")))) (mCall f__law_take (mCons (mVar 0) (mCons (mSh (mLst (mCons (mVar 6) (mCons (m1 gNeg (mC (.int 1))) (mCons (mC .non) (mCons (mC (.bl true)) (mCons (mC (.str "1")) (mCons (mSh (mLst (mCons (mC (.int 0)) (mNil)))) (mNil))))))))) (mNil)))) (mCall f__law_take (mCons (mVar 0) (mCons (mSh (mLst (mCons (mC (.int 0)) (mCons (mC (.int 1)) (mCons (mC .non) (mCons (mC (.str "True")) (mNil))))))) (mNil))))) ⟨[.sh (.box 0), .sh (.str L), x2, x3, x4, x5, .sh (.int (2 ^ w)), x7, .sh (.int (p : Nat)), x9, x10, x11, x12, x13], sto⟩) E Q := by
  repeat walk_at "evs"
  refine Wf.of_eq (f.kn _) ?_
  repeat walk_at "evs"
  refine We.ixT (z := .str kz) (at_nat (by rw [List.getElem?_map, hkp]; rfl)) ?_
  repeat walk_at "evs"
  rcases hkd with rfl | rfl
  · refine Xc.f (by decide +kernel) ?_
    repeat walk_at "evs"
    refine w_take hc h (by omega) (Nat.lt_of_lt_of_le (by decide) (Nat.le_refl 4)) (Nat.lt_of_le_of_lt (Nat.le_refl 4) (by decide)) fun x sto1 h1 hx => ?_
    exact kk x sto1 h1 (unfit_truth hx)
  · refine Xc.t (by decide +kernel) ?_
    repeat walk_at "evs"
    refine w_take hc h (by omega) (Nat.lt_of_lt_of_le (by decide) (Nat.le_refl 6)) (Nat.lt_of_le_of_lt (Nat.le_refl 6) (by decide)) fun x sto1 h1 hx => ?_
    exact kk x sto1 h1 (unfit_word hx)

theorem w_wrong {w p : Nat} {ks : List Str} {kz : Str} {vs : List D} {x y v : D} (hf : Fits (2 ^ w) (ks.map .str) vs) (hkp : ks[p]? = some kz) (hx : Unfit w kz x) (hv : v ∈ [D.lst (vs.set p x), .lst (vs.set p x), .tup (vs ++ [y]), .lst vs.dropLast, .non, .int 5, .str "00", .dic [.inl 0] [.int 1]]) : Wrong w ks v := by
  have hl := hf.length
  rw [List.length_map] at hl
  have hp := (List.getElem?_eq_some_iff.mp hkp).1
  simp only [List.mem_cons, List.not_mem_nil, or_false] at hv
  rcases hv with rfl | rfl | rfl | rfl | rfl | rfl | rfl | rfl
  · exact .bad hf hkp hx
  · exact .bad hf hkp hx
  · exact .tup (by simp only [List.length_append, List.length_cons, List.length_nil]; omega)
  · exact .lst (by simp only [List.length_dropLast]; omega)
  all_goals exact .non rfl
set_option maxHeartbeats 4000000 in
theorem w_refused_right {c : List Int} (hc : Cs c) {L : Str} (hL : AnyLab L) {B : Int} {sto : Sto} {E : XPost} {P : D → Sto → Prop} (h : Tr c B sto) (hB : B + 300 ≤ 80000) (k : ∀ sto', Tr c (B + 300) sto' → P (.bl true) sto') : Wf (f__law_refused_right [.box 0, .str L] sto) E P := by
  have hz : sizeLine = 16777216 := by decide
  obtain ⟨ks, tr, f, hat⟩ := hL.ex
  refine Wf.fn ?_
  unfold m__law_refused_right
  repeat walk_at "evs"
  refine We.c (d := .dic [] []) ?_
  repeat walk_at "evs"
  refine X2.addL (by show 16 + 12 ≤ sizeLine; omega) ?_
  with_reducible refine Ws.seq (m := sAsg _ _) ?_
  refine Ws.st (s' := ⟨[.sh (.box 0), .sh (.str L), .sh (.lst (oddA ++ oddB)), .un, .un, .un, .un, .un, .un, .un, .un, .un, .un, .un], sto⟩) (by rfl) ?_
  refine Ws.asg ?_
  repeat walk_at "evs"
  refine w_take hc h (by omega) (Nat.lt_of_lt_of_le (by decide) (Nat.le_refl 28)) (Nat.lt_of_le_of_lt (Nat.le_refl 28) (by decide)) fun o sto1 h1 ho => ?_
  have ho := odd_shape o ho
  repeat walk_at "evs"
  refine w_take hc h1 (by omega) (Nat.lt_of_lt_of_le (by decide) (Nat.le_refl 3)) (Nat.lt_of_le_of_lt (Nat.le_refl 3) (by decide)) fun dw sto2 h2 hw => ?_
  obtain ⟨w, rfl, w1, w2⟩ : ∃ w : Nat, dw = .int (w : Int) ∧ 1 ≤ w ∧ w ≤ 300 := by
    simp only [List.mem_cons, List.not_mem_nil, or_false] at hw
    rcases hw with e | e | e <;> subst e
    · exact ⟨1, rfl, by decide, by decide⟩
    · exact ⟨4, rfl, by decide, by decide⟩
    · exact ⟨64, rfl, by decide, by decide⟩
  repeat walk_at "evs"
  refine ⟨_, rfl, ?_⟩
  repeat walk_at "evs"
  refine w_take hc h2 (by omega) (Nat.lt_of_lt_of_le (by decide) (Nat.le_refl 6)) (Nat.lt_of_le_of_lt (Nat.le_refl 6) (by decide)) fun wd sto3 h3 hwd => ?_
  have hwd : wd ∈ wides := hwd
  repeat walk_at "evs"
  refine X2.shl (cShl_ok (m := 1) (by omega) (by omega) (by decide) (by decide)) ?_
  rw [Int.one_mul, Int.toNat_natCast]
  repeat walk_at "evs"
  refine Wf.ofO (w_partsF hc f.toFct w1 w2 h3 (by omega) fun vs sto4 h4 hf => ?_)
  have hl := hf.length
  rw [List.length_map] at hl
  have hk := f.len
  repeat walk_at "evs"
  refine w_dip hc h4 (by omega) (by omega) (by omega) fun sp sto5 h5 s0 s1 => ?_
  obtain ⟨p, rfl⟩ := nat_of s0
  have hp : p < ks.length := by omega
  have hkp := List.getElem?_eq_getElem hp
  have hkd := f.kd ks[p] (List.getElem_mem hp)
  generalize ks[p] = kz at hkp hkd
  refine Ws.st (s' := ⟨[.sh (.box 0), .sh (.str L), .sh (.lst (oddA ++ oddB)), .sh o, .sh (.int (w : Nat)), .sh wd, .sh (.int (2 ^ w)), .sh (.lst vs), .sh (.int (p : Nat)), .un, .un, .un, .un, .un], sto5⟩) (by rfl) ?_
  generalize oddA ++ oddB = OD
  refine Ws.soNew (d := .lst vs) (xs := vs) rfl rfl (by show 9 < 14; decide) ?_
  refine Ws.soSet ?_
  refine We.norm (s := ⟨[.sh (.box 0), .sh (.str L), .sh (.lst OD), .sh o, .sh (.int (w : Nat)), .sh wd, .sh (.int (2 ^ w)), .sh (.lst vs), .sh (.int (p : Nat)), .un, .un, .un, .un, .un], sto5⟩) rfl ?_
  refine we_spoil hc f hkp hkd h5 (by omega) fun x sto6 h6 hx => ?_
  refine ⟨vs, rfl, ?_⟩
  repeat walk_at "evs"
  refine ⟨_, p, rfl, ix_nat (by omega), ?_⟩
  refine Ws.soApp (xs := vs) rfl ?_
  repeat walk_at "evs"
  refine w_take hc h6 (by omega) (Nat.lt_of_lt_of_le (by decide) (Nat.le_refl 3)) (Nat.lt_of_le_of_lt (Nat.le_refl 3) (by decide)) fun y sto7 h7 _ => ?_
  refine ⟨by omega, ?_⟩
  refine Ws.soPop (xs := vs) rfl (by cases vs with | nil => simp at hl; omega | cons => rfl) ?_
  refine Ws.soEnd ?_
  refine Ws.st (s' := ⟨[.sh (.box 0), .sh (.str L), .sh (.lst OD), .sh o, .sh (.int (w : Nat)), .sh wd, .sh (.int (2 ^ w)), .sh (.lst vs), .sh (.int (p : Nat)), .sh (.lst [.lst (vs.set p x), .lst (vs ++ [y]), .lst vs.dropLast, .lst vs]), .un, .un, .un, .un], sto7⟩) (by rfl) ?_
  repeat walk_at "evs"
  refine XL.of (z := .tup (vs ++ [y])) rfl ?_
  repeat walk_at "evs"
  refine We.dispK ?_
  repeat walk_at "evs"
  refine w_take hc h7 (by omega) (Nat.lt_of_lt_of_le (by decide) (Nat.le_refl 8)) (Nat.lt_of_le_of_lt (Nat.le_refl 8) (by decide)) fun v sto8 h8 hv => ?_
  have hv := w_wrong hf hkp hx hv
  repeat walk_at "evs"
  refine Wf.of_eq (ho _) ?_
  repeat walk_at "evs"
  refine We.norm (s := ⟨[.sh (.box 0), .sh (.str L), .sh (.lst OD), .sh o, .sh (.int (w : Nat)), .sh wd, .sh (.int (2 ^ w)), .sh (.lst vs), .sh (.int (p : Nat)), .sh (.lst [.lst (vs.set p x), .lst (vs ++ [y]), .lst vs.dropLast, .lst vs]), .sh v, .un, .un, .un], sto8⟩) rfl ?_
  generalize (D.lst [.lst (vs.set p x), .lst (vs ++ [y]), .lst vs.dropLast, .lst vs]) = bads
  rcases hat with rfl | ⟨hat, lab⟩
  · have kk := k
    refine We.lam ?_
    repeat walk_at "evs"
    refine w_heard ?_
    refine Wf.lam ?_
    unfold m__law_refused_right_l2
    repeat walk_at "evs"
    refine x_worked_label ho ?_
    refine XH.term ?_
    repeat walk_at "evs"
    refine We.lam ?_
    repeat walk_at "evs"
    refine w_heard ?_
    refine Wf.lam ?_
    unfold m__law_refused_right_l1
    repeat walk_at "evs"
    refine x_worked_at ?_
    refine XH.term ?_
    repeat walk_at "evs"
    refine Ws.st (s' := ⟨[.sh (.box 0), .sh (.str "at"), .sh (.lst OD), .sh o, .sh (.int (w : Nat)), .sh wd, .sh (.int (2 ^ w)), .sh (.lst vs), .sh (.int (p : Nat)), .sh bads, .sh v, .ow [.tup [.str "BadTerm", .str "label"], .tup [.str "BadTerm", .str "label"]], .un, .un], sto8⟩) rfl ?_
    refine Ws.app rfl ?_
    refine We.lam ?_
    repeat walk_at "evs"
    refine w_heard ?_
    refine Wf.lam ?_
    unfold m__law_refused_right_l3
    repeat walk_at "evs"
    refine x_worked_at ?_
    refine XH.term ?_
    refine XApp.own (by rfl) (by decide) ?_
    refine Ws.seq ?_
    refine Ws.st (s' := ⟨[.sh (.box 0), .sh (.str "at"), .sh (.lst OD), .sh o, .sh (.int (w : Nat)), .sh wd, .sh (.int (2 ^ w)), .sh (.lst vs), .sh (.int (p : Nat)), .sh bads, .sh v, .ow [.tup [.str "BadTerm", .str "label"], .tup [.str "BadTerm", .str "label"], .tup [.str "BadTerm", .str "label"]], .un, .un], sto8⟩) rfl ?_
    repeat walk_at "evs"
    refine X2.of (z := .bl true) (by kernel_rfl) ?_
    repeat walk_at "evs"
    exact k _ (h8.mono (by omega))
  · have kk := k
    refine We.lam ?_
    repeat walk_at "evs"
    refine w_heard ?_
    refine Wf.lam ?_
    unfold m__law_refused_right_l2
    repeat walk_at "evs"
    refine x_worked_label ho ?_
    refine XH.term ?_
    repeat walk_at "evs"
    refine We.lam ?_
    repeat walk_at "evs"
    refine w_heard ?_
    refine Wf.lam ?_
    unfold m__law_refused_right_l1
    repeat walk_at "evs"
    refine x_worked_width f.toFct hat hwd ?_
    refine XH.number ?_
    repeat walk_at "evs"
    refine Ws.st (s' := ⟨[.sh (.box 0), .sh (.str L), .sh (.lst OD), .sh o, .sh (.int (w : Nat)), .sh wd, .sh (.int (2 ^ w)), .sh (.lst vs), .sh (.int (p : Nat)), .sh bads, .sh v, .ow [.tup [.str "BadTerm", .str "label"], .tup [.str "BadNumber", .str "width"]], .un, .un], sto8⟩) rfl ?_
    refine Ws.app rfl ?_
    refine We.lam ?_
    repeat walk_at "evs"
    refine w_heard ?_
    refine Wf.lam ?_
    unfold m__law_refused_right_l3
    repeat walk_at "evs"
    refine x_worked_vals f.toFct hat w1 w2 hv ?_
    refine XH.number ?_
    refine XApp.own (by rfl) (by decide) ?_
    refine Ws.seq ?_
    refine Ws.st (s' := ⟨[.sh (.box 0), .sh (.str L), .sh (.lst OD), .sh o, .sh (.int (w : Nat)), .sh wd, .sh (.int (2 ^ w)), .sh (.lst vs), .sh (.int (p : Nat)), .sh bads, .sh v, .ow [.tup [.str "BadTerm", .str "label"], .tup [.str "BadNumber", .str "width"], .tup [.str "BadNumber", .str "values"]], .un, .un], sto8⟩) rfl ?_
    repeat walk_at "evs"
    refine Xc.f (decide_eq_false hat) ?_
    repeat walk_at "evs"
    refine X2.of (z := .bl true) (by kernel_rfl) ?_
    repeat walk_at "evs"
    refine Xc.f (decide_eq_false hat) ?_
    repeat walk_at "evs"
    refine We.lam ?_
    repeat walk_at "evs"
    refine w_heard ?_
    refine Wf.lam ?_
    unfold m__law_refused_right_l4
    repeat walk_at "evs"
    refine w_worked f.sh hat (.inl rfl) w1 w2 hf ?_
    cases tr with
    | true =>
      obtain ⟨b, g1, _⟩ := ((lab w w1 w2).1 rfl).go vs hf
      refine g1 _ _ _ _ (.inl rfl) ?_
      repeat walk_at "evs"
      exact k _ (h8.mono (by omega))
    | false =>
      obtain ⟨n, bs, _, _, g1, _⟩ := ((lab w w1 w2).2 rfl).go vs hf
      refine g1 _ _ _ _ (.inl rfl) ?_
      repeat walk_at "evs"
      exact k _ (h8.mono (by omega))

theorem We.jN {E : XPost} {s : Sx} {Q : D → Sx → Prop} {acc : Str} (h : Q (.str acc) s) : We (mJ [] acc s) E Q := h
theorem We.jC {E : XPost} {s : Sx} {Q : D → Sx → Prop} {acc : Str} {ma : M D} {ms : List (M D)} (h : We (ma s) E fun d s1 => ∃ y, d = .str y ∧ (acc ++ y).length ≤ sizeLine ∧ We (mJ ms (acc ++ y) s1) E Q) : We (mJ (ma :: ms) acc s) E Q := by
  unfold mJ
  refine We.bind (h.imp ?_)
  rintro d s1 ⟨y, rfl, hl, h⟩
  show We ((if (acc ++ y).length ≤ sizeLine then mJ ms (acc ++ y) else fun _ => .bad) s1) E Q
  rw [if_pos hl]
  exact h
theorem X1.fmtI {i : Int} {P : D → Prop} (hz : i.natAbs.log2 < 1920) (h : P (.str (toString i))) : X1 gFmt (.int i) P := ⟨_, by unfold gFmt; exact if_pos hz, h⟩
theorem log_small {i : Int} (h0 : 0 ≤ i) (h1 : i < 1000000) : i.natAbs.log2 < 1920 := by
  by_cases h : i = 0
  · subst h; decide
  · refine Nat.lt_of_lt_of_le ((Nat.log2_lt (k := 20) (by omega)).mpr ?_) (by decide)
    have : (2 : Nat) ^ 20 = 1048576 := by decide
    omega
theorem X1.fmtN {i : Int} {P : D → Prop} (h0 : 0 ≤ i) (h1 : i < 1000000) (h : P (.str (toString i))) : X1 gFmt (.int i) P := X1.fmtI (log_small h0 h1) h
theorem len_shl : ∀ n : Nat, n < 32 → decide ((labS (n : Int)).length ≤ 100) = true := by decide +kernel
theorem we_shl {s : Sx} {E : XPost} {Q : D → Sx → Prop} {m : M D} (h : We (m s) E fun d s1 => ∃ n : Nat, d = .int (n : Nat) ∧ 1 ≤ n ∧ n ≤ 31 ∧ (AnyLab (labS (n : Nat)) → Q (.str (labS (n : Nat))) s1)) : We (mJ [mC (.str "shl "), m1 gFmt m] Str.empty s) E Q := by
  have hz : sizeLine = 16777216 := by decide
  refine We.jC (We.c ⟨"shl ", rfl, Nat.le_trans (show (Str.empty ++ "shl ").length ≤ 4 by decide +kernel) (by omega), ?_⟩)
  refine We.jC (We.m1 (h.imp ?_))
  rintro d s1 ⟨n, rfl, h0, h1, h⟩
  have hl := of_decide_eq_true (len_shl n (by omega))
  exact X1.fmtN (by omega) (by omega) ⟨_, rfl, by unfold labS at hl; omega, We.jN (h (any_shl h0 h1))⟩
def Labs (ds : List D) : Prop := ∀ d ∈ ds, ∃ L, d = .str L ∧ AnyLab L
def labs16 : List D := [.str "add", .str "sub", .str "mul", .str "and", .str "or", .str "xor", .str "neg", .str "flip", .str "at", .str "if", .str "eq", .str "lt", .str "less", .str "both", .str "either", .str "no"]
theorem Labs.nil : Labs [] := fun d h => by cases h
theorem Labs.cons {L : Str} {ds : List D} (h : AnyLab L) (hs : Labs ds) : Labs (.str L :: ds) := fun d hd => by
  rcases List.mem_cons.mp hd with rfl | hd
  · exact ⟨L, rfl, h⟩
  · exact hs d hd
theorem Labs.app {a b : List D} (h : Labs a) (hs : Labs b) : Labs (a ++ b) := fun d hd => by
  rcases List.mem_append.mp hd with hd | hd
  · exact h d hd
  · exact hs d hd
theorem labs_ok : Labs labs16 := .cons any_add (.cons any_sub (.cons any_mul (.cons any_and (.cons any_or (.cons any_xor (.cons any_neg (.cons any_flip (.cons any_at (.cons any_if (.cons any_eq (.cons any_lt (.cons any_less (.cons any_both (.cons any_either (.cons any_no .nil)))))))))))))))
theorem w_law {ns : List Int} (hn : ns.length ≤ 63) (hb : ∀ z ∈ ns, Builtin.Int.intBits z ≤ 1048576) : Wf (f_law [.lst (ns.map .int)] []) Xn fun d _ => d = .bl true := by
  have hz : sizeLine = 16777216 := by decide
  have hc : Cs (ns.take 60) := ⟨by simp; omega, fun z hz => hb z (List.mem_of_mem_take hz)⟩
  refine Wf.fn ?_
  unfold m_law
  refine Ws.seq ?_
  refine Ws.box ?_
  refine We.callF ?_
  repeat walk_at "evs"
  refine w_tray hn ?_
  have h0 : Tr (ns.take 60) 0 [[.lst ((ns.take 60).map .int), .int 0, .int 0]] := ⟨0, 0, rfl, by decide, by decide, by decide⟩
  repeat walk_at "evs"
  refine We.norm (s := ⟨[.sh (.lst (ns.map .int)), .sh (.box 0), .sh (.lst labs16), .un, .un, .un], [[.lst ((ns.take 60).map .int), .int 0, .int 0]]⟩) (by rfl) ?_
  generalize ([[.lst ((ns.take 60).map .int), .int 0, .int 0]] : Sto) = sto0 at h0 ⊢
  have hl16 := labs_ok
  have hlen : labs16.length = 16 := rfl
  generalize labs16 = LS at hl16 hlen ⊢
  refine we_shl ?_
  repeat walk_at "evs"
  refine w_dip hc h0 (by omega) (by decide) (by decide) fun d1 sto1 h1 a1 b1 => ?_
  repeat walk_at "evs"
  refine ⟨(1 + d1).toNat, by congr 1; omega, by omega, by omega, fun any1 => ?_⟩
  generalize labS ((1 + d1).toNat : Nat) = L1 at any1
  refine We.cons ?_
  refine we_shl ?_
  repeat walk_at "evs"
  refine w_take hc h1 (by omega) (Nat.lt_of_lt_of_le (by decide) (Nat.le_refl 5)) (Nat.lt_of_le_of_lt (Nat.le_refl 5) (by decide)) fun dw sto2 h2 hd => ?_
  obtain ⟨n2, rfl, a2, b2⟩ : ∃ n : Nat, dw = .int (n : Int) ∧ 1 ≤ n ∧ n ≤ 31 := by
    simp only [List.mem_cons, List.not_mem_nil, or_false] at hd
    rcases hd with e | e | e | e | e <;> subst e
    · exact ⟨1, rfl, by decide, by decide⟩
    · exact ⟨2, rfl, by decide, by decide⟩
    · exact ⟨3, rfl, by decide, by decide⟩
    · exact ⟨30, rfl, by decide, by decide⟩
    · exact ⟨31, rfl, by decide, by decide⟩
  refine ⟨n2, rfl, a2, b2, fun any2 => ?_⟩
  generalize labS (n2 : Nat) = L2 at any2
  refine We.cons ?_
  refine we_shl ?_
  repeat walk_at "evs"
  refine w_dip hc h2 (by omega) (by decide) (by decide) fun d3 sto3 h3 a3 b3 => ?_
  repeat walk_at "evs"
  refine ⟨(1 + d3).toNat, by congr 1; omega, by omega, by omega, fun any3 => ?_⟩
  generalize labS ((1 + d3).toNat : Nat) = L3 at any3
  repeat walk_at "evs"
  have hsh : Labs [.str L1, .str L2, .str L3] := .cons any1 (.cons any2 (.cons any3 .nil))
  have hslen : ([.str L1, .str L2, .str L3] : List D).length = 3 := rfl
  refine X2.addL (by rw [hlen, hslen]; omega) ?_
  repeat walk_at "evs"
  refine X2.addL (by show (LS ++ [D.str L1, D.str L2, D.str L3]).length + 4 ≤ sizeLine; rw [List.length_append, hlen, hslen]; omega) ?_
  repeat walk_at "evs"
  refine Ws.st (s' := ⟨[.sh (.lst (ns.map .int)), .sh (.box 0), .sh (.lst LS), .sh (.lst [.str L1, .str L2, .str L3]), .un, .un], sto3⟩) (by rfl) ?_
  generalize ([.str L1, .str L2, .str L3] : List D) = SH at hsh hslen ⊢
  have hall : Labs (LS ++ SH ++ [.str "less", .str "sub", .str "mul", .str "lt"]) := (hl16.app hsh).app (.cons any_less (.cons any_sub (.cons any_mul (.cons any_lt .nil))))
  have halen : (LS ++ SH ++ [.str "less", .str "sub", .str "mul", .str "lt"] : List D).length = 23 := by simp only [List.length_append, hlen, hslen]; rfl
  generalize (LS ++ SH ++ [.str "less", .str "sub", .str "mul", .str "lt"] : List D) = AL at hall halen ⊢
  refine forL_inv (fun rest s => Labs rest ∧ rest.length ≤ 23 ∧ ∃ (x4 : Sl) (sto' : Sto), Tr (ns.take 60) (5 + 200 * (23 - rest.length)) sto' ∧ s = ⟨[.sh (.lst (ns.map .int)), .sh (.box 0), .sh (.lst LS), .sh (.lst SH), x4, .un], sto'⟩) ?_ ?_ _ _ ⟨hall, by omega, _, _, h3.mono (by omega), rfl⟩
  · rintro d ds s ⟨ha, hl, x4, sto', ht, rfl⟩
    simp only [List.length_cons] at hl ht
    obtain ⟨L, rfl, any⟩ := ha d (by simp)
    refine ⟨_, rfl, ?_⟩
    unfold m_law_b1
    generalize hB : (5 + 200 * (23 - ((ds.length + 1 : Nat) : Int))) = B at ht
    repeat walk_at "evs"
    refine w_label_right hc any ht (by omega) fun sto1 h1 => ?_
    repeat walk_at "evs"
    exact ⟨fun d h => ha d (by simp [h]), by omega, _, sto1, h1.mono (by omega), rfl⟩
  · rintro s ⟨ha, hl, x4, sto', ht, rfl⟩
    have ht := ht.mono (B' := 5000) (by simp)
    repeat walk_at "evs"
    refine forL_inv (fun rest s => rest.length ≤ 5 ∧ ∃ (x5 : Sl) (sto' : Sto), Tr (ns.take 60) (5000 + 400 * (5 - rest.length)) sto' ∧ s = ⟨[.sh (.lst (ns.map .int)), .sh (.box 0), .sh (.lst LS), .sh (.lst SH), x4, x5], sto'⟩) ?_ ?_ _ _ ⟨by decide, _, _, ht.mono (by decide), rfl⟩
    · rintro d ds s ⟨hl, x5, sto', ht, rfl⟩
      simp only [List.length_cons] at hl ht
      refine ⟨_, rfl, ?_⟩
      unfold m_law_b2
      generalize hB : (5000 + 400 * (5 - ((ds.length + 1 : Nat) : Int))) = B at ht
      repeat walk_at "evs"
      refine X2.addL (by omega) ?_
      repeat walk_at "evs"
      refine w_take hc ht (by omega) (by rw [List.length_append]; omega) (by rw [List.length_append, hlen, hslen]; decide) fun dl sto1 h1 hd => ?_
      obtain ⟨L, rfl, any⟩ := (hl16.app hsh) dl hd
      repeat walk_at "evs"
      refine w_refused_right hc any h1 (by omega) fun sto2 h2 => ?_
      repeat walk_at "evs"
      exact ⟨by omega, _, sto2, h2.mono (by omega), rfl⟩
    · rintro s ⟨hl, x5, sto', ht, rfl⟩
      repeat walk_at "evs"
      rfl
theorem run_law : ∀ ns : List Int, ns.length ≤ 63 → (∀ z ∈ ns, Builtin.Int.intBits z ≤ 1048576) → ∃ sto, f_law [.lst (ns.map .int)] [] = .rt (.bl true) sto := fun ns hn hb => by
  have h := w_law hn hb
  have hr : ∀ xs sto, f_law [.lst (ns.map .int)] [] = .ro xs sto → False := fun xs sto e => by
    rw [e] at h
    cases h
  obtain ⟨d, sto, e, hd⟩ := h.eq fun xs sto e => hr xs sto e
  exact ⟨sto, by rw [e, hd]⟩

end Ev

open PySem PySem.W PySem.Calls PyProof.Rows
theorem PySem.Challenge.cw_leastequal_k01_labels_by_bits_and_carrie_holds : PySem.Challenge.rw_leastequal_k01_labels_by_bits_and_carrie.Holds := by
  w_on; o_law
  refine HandSHeadRun.head_any (r := OpenLaw.row PySem.Challenge.rw_leastequal_k01_labels_by_bits_and_carrie) (q := view (OpenLaw.row PySem.Challenge.rw_leastequal_k01_labels_by_bits_and_carrie).prog [36]) (H := Ev.hk) (ob := Ev.ob) (M := 20000) (loose := Ev.loose) (d := HandSHeadRun.topDef (OpenLaw.row PySem.Challenge.rw_leastequal_k01_labels_by_bits_and_carrie).prog 36) (kwd := []) Ev.ob_eq
    (by kernel_rfl) (fun s => by kernel_rfl) Ev.run_top (by kernel_rfl) (by kernel_rfl) (by kernel_rfl) (by rfl) (by first | assumption | decide +kernel) (by decide +kernel) ⟨rfl, rfl, rfl, rfl, rfl, by decide +kernel⟩ ?hw ?hc
  case hw => w_witness2
  case hc =>
    refine Ev.end_ofB (l := PySem.Challenge.rw_leastequal_k01_labels_by_bits_and_carrie) (n := 63) (k := 11) (y := "_law_script") (F := Ev.f_law) rfl (by decide) (by kernel_rfl) ⟨rfl, by decide, by decide⟩ ?F Ev.run_law
    intro w mg fv h Y G hmg0
    have hmg : mg ("law" : PySem.Str) = some (.ref fv) := by
      have e : (HandSHeadRun.topDef (OpenLaw.row PySem.Challenge.rw_leastequal_k01_labels_by_bits_and_carrie).prog 36).name = ("law" : PySem.Str) := by kernel_rfl
      rw [← e]
      exact hmg0
    obtain ⟨K, ca, fd, cs, tb, a, b, c, d, e⟩ := Ev.facts_of w mg fv h Y G hmg
    exact ⟨K, ca, fd, cs, tb, a, b, c, d, fun base x y z => e _ base x y z⟩
