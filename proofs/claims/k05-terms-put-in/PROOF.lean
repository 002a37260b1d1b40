import PyProof.Rows.All
import Wide.All
import OpenK.AllK
import Wide.FinOn
import HandS.Base
import HandS.Call
import HandS.List
import HandS.Comp
import HandS.Iter
import HandS.Text
import HandS.Dict
import HandS.More
import HandS.Exc
import HandS.Lambda
import HandS.ExcOwn
import HandS.WordsExc
import HandS.Defaults
import HandS.HeadHook4
import HandS.HeadEnd
import HandS.Wide
import HandS.WideBits
import HandS.TupLe
import HandS.TupAny
import HandS.IsInst
import HandS.FStr
import HandS.StrMore
import KE.SortData
import KE.GoesZip
import KE.GoesMore
import HandS.Ends
import HandS.Words
import HandS.Head0
import HandS.Head1
import HandS.Head2
import HandS.HeadHook1
import HandS.HeadHook2
import HandS.HeadHook3
import HandS.ExcInit
import HandS.ExcField
import KE.KExcIs
import HandS.EndBits
import HandS.TupMul
import HandS.RaiseMore
import HandS.Zip0
import HandS.Star
import HandS.SortKw
import KE.DataMinMax
import HandS.NamedTupSort
import KE.KSortTup
import HandS.SetTxt0
import HandS.SetFor
import KE.KDictSum
import HandS.Style
import HandS.NoneIn
import PySem.Challenge.RW_leastequal_k05_terms_put_in
set_option Elab.async false
set_option linter.all false
set_option maxRecDepth 100000
set_option maxHeartbeats 8000000
/-! E0: data, their standing in the abstract heap, the judgements over data. -/
namespace Ev
open PySem PySem.Spec PyProof.Rows L2

/-- data: what a value is, without addresses; a box is a list that is shared and changed -/
inductive D where
  | non | bl (b : Bool) | int (i : Int) | str (s : Str)
  | lst (xs : List D) | tup (xs : List D)
  | dic (ks : List Key) (vs : List D)
  /-- a dict of the module's top, text keys -/
  | kd (ks : List Str) (vs : List D)
  | box (n : Nat)
  | ins (c : Str) (ns : List Str) (vs : List D)

/-- the text's facts -/
structure Tx0 where
  K : PySem.W.Frag
  w : World
  ca : Str → Addr

def lk {α β : Type} [DecidableEq α] : List α → List β → α → Option β
  | k :: ks, v :: vs, z => if z = k then some v else lk ks vs z
  | _, _, _ => none

/-- where the boxes stand, and how many there are -/
structure Io where
  f : Nat → Addr
  n : Nat
/-- .. and what a def's frame leans on: tables of code objects, and the names they bear; the least ghosts; the closure that was handed in -/
structure Tx extends Tx0 where
  tb : List (Addr × Str) := []
  io0 : Io := ⟨fun _ => 0, 0⟩
  G0 : Hp := fun _ => none
  clo : Addr := 0
instance : Coe Tx Tx0 := ⟨Tx.toTx0⟩
def Io.Le (a b : Io) : Prop := a.n ≤ b.n ∧ ∀ i, i < a.n → b.f i = a.f i
theorem Io.Le.refl (a : Io) : a.Le a := ⟨Nat.le_refl _, fun _ _ => rfl⟩
theorem Io.Le.trans {a b c : Io} (h : a.Le b) (k : b.Le c) : a.Le c := ⟨Nat.le_trans h.1 k.1, fun i hi => by rw [k.2 i (Nat.lt_of_lt_of_le hi h.1), h.2 i hi]⟩

/-- a caught error at a: its class, its dict -/
def xo (a : Addr) (cls : Value) (dd : Addr) : HO := .ext fun h => ∃ (oe : Obj) (vs : Array Value), h.get? a = some oe ∧ Zc cls (some dd) oe ∧ oe.data = .fields vs
mutual
inductive Rep (T : Tx0) (io : Io) (G : Hp) : V → D → Prop
  | non : Rep T io G .non .non
  | bl (b : Bool) : Rep T io G (.bl b) (.bl b)
  | int (i : Int) : Rep T io G (.int i) (.int i)
  | str (x : Str) : Rep T io G (.str x) (.str x)
  | lst {a : Addr} {vs : List V} {ds : List D} : SqL T.K G a vs → Reps T io G vs ds → Rep T io G (.ref a) (.lst ds)
  | tup {a : Addr} {vs : List V} {ds : List D} : SqT T.K G a vs → Reps T io G vs ds → Rep T io G (.ref a) (.tup ds)
  | box (n : Nat) : n < io.n → Rep T io G (.ref (io.f n)) (.box n)
  | dic {a : Addr} {ks : List Key} {vs : List V} {ds : List D} : Rd G a (.dK (ks.zip vs)) → ks.length = ds.length → ks.Nodup → Reps T io G vs ds → Rep T io G (.ref a) (.dic ks ds)
  | kd {a : Addr} {ks : List Str} {vv : Str → V} {ds : List D} {es : Array DictEntry} {n : Nat} : KDict T.K T.w a es n → (∀ z d, lk ks ds z = some d → ∃ u, PySem.W.nsIn T.K a z = some (some u) ∧ RelV (vv z) u) → (∀ z d, lk ks ds z = some d → Rep T io G (vv z) d) →
      (∀ z, lk ks ds z = none → PySem.W.nsIn T.K a z = some none) → Rep T io G (.ref a) (.kd ks ds)
  | ins {a dd : Addr} {c : Str} {ns : List Str} {us : List V} {vs : List D} : G a = some (xo a (.ref (T.ca c)) dd) → G dd = some (.xd (ns.zip us)) → ns.length = us.length → Reps T io G us vs → Rep T io G (.ref a) (.ins c ns vs)
inductive Reps (T : Tx0) (io : Io) (G : Hp) : List V → List D → Prop
  | nil : Reps T io G [] []
  | cons {v : V} {vs : List V} {d : D} {ds : List D} : Rep T io G v d → Reps T io G vs ds → Reps T io G (v :: vs) (d :: ds)
end

/-- one heap within another -/
def Le (G G' : Hp) : Prop := ∀ a o, G a = some o → G' a = some o
theorem Le.refl (G : Hp) : Le G G := fun _ _ h => h
theorem Le.trans {A B C : Hp} (h : Le A B) (k : Le B C) : Le A C := fun a o q => k a o (h a o q)
theorem Le.rd {G G' : Hp} (h : Le G G') {a : Addr} {u : HO} (r : Rd G a u) : Rd G' a u := by
  rcases r with r | ⟨o, r⟩
  · exact .inl (h _ _ r)
  · exact .inr ⟨o, h _ _ r⟩
theorem Le.sqL {G G' : Hp} (h : Le G G') {K : PySem.W.Frag} {a : Addr} {xs : List V} (r : SqL K G a xs) : SqL K G' a xs := by
  rcases r with r | r
  · exact .inl (h.rd r)
  · exact .inr r
theorem Le.sqT {G G' : Hp} (h : Le G G') {K : PySem.W.Frag} {a : Addr} {xs : List V} (r : SqT K G a xs) : SqT K G' a xs := by
  rcases r with r | r
  · exact .inl (h.rd r)
  · exact .inr r
mutual
theorem Rep.mono {T : Tx0} {io io' : Io} {G G' : Hp} (hi : io.Le io') (h : Le G G') : ∀ {v : V} {d : D}, Rep T io G v d → Rep T io' G' v d
  | _, _, .non => .non
  | _, _, .bl b => .bl b
  | _, _, .int i => .int i
  | _, _, .str x => .str x
  | _, _, .lst s r => .lst (h.sqL s) (Reps.mono hi h r)
  | _, _, .tup s r => .tup (h.sqT s) (Reps.mono hi h r)
  | _, _, .box n hn => by rw [← hi.2 n hn]; exact .box n (Nat.lt_of_lt_of_le hn hi.1)
  | _, _, .dic s l nd r => .dic (h.rd s) l nd (Reps.mono hi h r)
  | _, _, .kd k a b c => .kd k a (fun z d e => Rep.mono hi h (b z d e)) c
  | _, _, .ins e1 e2 l r => .ins (h _ _ e1) (h _ _ e2) l (Reps.mono hi h r)
theorem Reps.mono {T : Tx0} {io io' : Io} {G G' : Hp} (hi : io.Le io') (h : Le G G') : ∀ {v : List V} {d : List D}, Reps T io G v d → Reps T io' G' v d
  | _, _, .nil => .nil
  | _, _, .cons a r => .cons (Rep.mono hi h a) (Reps.mono hi h r)
end
theorem Rep.up {T : Tx0} {io : Io} {G G' : Hp} (h : Le G G') {v : V} {d : D} (r : Rep T io G v d) : Rep T io G' v d := r.mono (Io.Le.refl _) h
theorem Reps.up {T : Tx0} {io : Io} {G G' : Hp} (h : Le G G') {v : List V} {d : List D} (r : Reps T io G v d) : Reps T io G' v d := r.mono (Io.Le.refl _) h
theorem Reps.length {T : Tx0} {io : Io} {G : Hp} : ∀ {vs : List V} {ds : List D}, Reps T io G vs ds → vs.length = ds.length
  | _, _, .nil => rfl
  | _, _, .cons _ r => by simp [Reps.length r]
theorem Reps.get {T : Tx0} {io : Io} {G : Hp} : ∀ {vs : List V} {ds : List D} {i : Nat} {d : D}, Reps T io G vs ds → ds[i]? = some d → ∃ v, vs[i]? = some v ∧ Rep T io G v d
  | _, _, _, _, .nil, h => by simp at h
  | _, _, 0, _, .cons a _, h => by simp at h; subst h; exact ⟨_, rfl, a⟩
  | _, _, i + 1, _, .cons _ r, h => by
    obtain ⟨v, e, q⟩ := Reps.get (i := i) r (by simpa using h)
    exact ⟨v, by simpa using e, q⟩
theorem Reps.get' {T : Tx0} {io : Io} {G : Hp} : ∀ {vs : List V} {ds : List D} {i : Nat} {v : V}, Reps T io G vs ds → vs[i]? = some v → ∃ d, ds[i]? = some d ∧ Rep T io G v d
  | _, _, _, _, .nil, h => by simp at h
  | _, _, 0, _, .cons a _, h => by simp at h; subst h; exact ⟨_, rfl, a⟩
  | _, _, i + 1, _, .cons _ r, h => by
    obtain ⟨v, e, q⟩ := Reps.get' (i := i) r (by simpa using h)
    exact ⟨v, by simpa using e, q⟩
theorem Reps.append {T : Tx0} {io : Io} {G : Hp} : ∀ {vs us : List V} {ds es : List D}, Reps T io G vs ds → Reps T io G us es → Reps T io G (vs ++ us) (ds ++ es)
  | _, _, _, _, .nil, s => s
  | _, _, _, _, .cons a r, s => .cons a (Reps.append r s)
theorem Reps.one {T : Tx0} {io : Io} {G : Hp} {v : V} {d : D} (r : Rep T io G v d) : Reps T io G [v] [d] := .cons r .nil
theorem Reps.set {T : Tx0} {io : Io} {G : Hp} {v : V} {d : D} (q : Rep T io G v d) : ∀ {vs : List V} {ds : List D} (i : Nat), Reps T io G vs ds → Reps T io G (vs.set i v) (ds.set i d)
  | _, _, _, .nil => .nil
  | _, _, 0, .cons _ r => .cons q r
  | _, _, i + 1, .cons a r => .cons a (Reps.set q i r)
theorem Reps.take {T : Tx0} {io : Io} {G : Hp} : ∀ {vs : List V} {ds : List D} (n : Nat), Reps T io G vs ds → Reps T io G (vs.take n) (ds.take n)
  | _, _, 0, _ => .nil
  | _, _, _ + 1, .nil => .nil
  | _, _, n + 1, .cons a r => .cons a (Reps.take n r)
theorem Reps.drop {T : Tx0} {io : Io} {G : Hp} : ∀ {vs : List V} {ds : List D} (n : Nat), Reps T io G vs ds → Reps T io G (vs.drop n) (ds.drop n)
  | _, _, 0, r => r
  | _, _, _ + 1, .nil => .nil
  | _, _, n + 1, .cons _ r => Reps.drop n r
theorem Reps.eraseIdx {T : Tx0} {io : Io} {G : Hp} : ∀ {vs : List V} {ds : List D} (n : Nat), Reps T io G vs ds → Reps T io G (vs.eraseIdx n) (ds.eraseIdx n)
  | _, _, _, .nil => .nil
  | _, _, 0, .cons _ r => r
  | _, _, n + 1, .cons a r => .cons a (Reps.eraseIdx n r)
theorem Reps.reverse {T : Tx0} {io : Io} {G : Hp} : ∀ {vs : List V} {ds : List D}, Reps T io G vs ds → Reps T io G vs.reverse ds.reverse
  | _, _, .nil => .nil
  | _, _, .cons a r => by simpa using (Reps.reverse r).append (.one a)
theorem Reps.ints {T : Tx0} {io : Io} {G : Hp} : ∀ ns : List Int, Reps T io G (ns.map V.int) (ns.map D.int)
  | [] => .nil
  | n :: ns => .cons (.int n) (Reps.ints ns)

/-! ### slots, states -/
inductive Sl where
  | un
  /-- a shared datum -/
  | sh (d : D)
  /-- a list of one's own: it may be changed -/
  | ow (xs : List D)
  /-- the closure that was handed in -/
  | th
  /-- a dict of one's own: it may be changed -/
  | od (ks : List Key) (ds : List D)
structure Sx where
  env : List Sl
  sto : List (List D)
/-- the ghosts: where boxes stand, the shared heap, what is one's own (owned lists, boxes) -/
structure Gh where
  io : Io
  G : Hp
  U : Addr → Prop

/-- the table at P: the code objects that it tells are shared, and bear the name q -/
def TabG (G H : Hp) (P : Addr) (q : Str) : Prop := ∃ ps : Array Value, H P = some (.tbl ps) ∧ TriplesOk ps.toList ∧ ∀ (pos : Pos) (cv : Value), codeAmong pos ps.toList = some cv → ∃ c, cv = .ref c ∧ G c = some (LamX.CodeO c q)
theorem TabG.ext {G G' H H' : Hp} {P : Addr} {q : Str} (t : TabG G H P q) (g : Le G G') (e : ∀ b o, H b = some o → H' b = some o) : TabG G' H' P q := by
  obtain ⟨ps, h1, h2, h3⟩ := t
  refine ⟨ps, e _ _ h1, h2, fun pos cv hc => ?_⟩
  obtain ⟨c, e1, e2⟩ := h3 pos cv hc
  exact ⟨c, e1, g _ _ e2⟩
/-- the boxes stand -/
structure Bx (T : Tx) (x : Gh) (sto : List (List D)) (H : Hp) : Prop where
  n : x.io.n = sto.length
  at_ : ∀ (i : Nat) (xs : List D), sto[i]? = some xs → ∃ vs, H (x.io.f i) = some (.lst vs) ∧ Reps T x.io x.G vs xs
  inU : ∀ i, i < sto.length → x.U (x.io.f i)
  inj : ∀ i j, i < sto.length → j < sto.length → x.io.f i = x.io.f j → i = j
  sub : Le x.G H
  off : ∀ a o, x.G a = some o → ¬ x.U a
  trk : ∀ a, x.U a → ∃ o, H a = some o
  tab : ∀ p ∈ T.tb, x.U p.1 ∧ TabG x.G H p.1 p.2
  lo : T.io0.Le x.io ∧ Le T.G0 x.G
theorem tabS_lst {G H : Hp} {a P : Addr} {q : Str} {vs : List V} {o : HO} (h : H a = some (.lst vs)) (t : TabG G H P q) : TabG G (L2.upd H a o) P q := by
  obtain ⟨ps, h1, h2, h3⟩ := t
  exact ⟨ps, by rw [upd_ne (fun z => by rw [z, h] at h1; cases h1)]; exact h1, h2, h3⟩
/-- the dicts of one's own stand -/
structure OdOk (T : Tx) (x : Gh) (s : Sx) (σ : L2.St) (H : Hp) : Prop where
  at_ : ∀ (i : Nat) (ks : List Key) (ds : List D), s.env[i]? = some (.od ks ds) → ∃ a vs, σ[i]? = some (some (.ref a)) ∧ H a = some (.dK (ks.zip vs)) ∧ ks.length = ds.length ∧ ks.Nodup ∧ Reps T x.io x.G vs ds ∧ x.U a
  inj : ∀ (i j : Nat) (ks ls : List Key) (ds es : List D) (a : Addr), s.env[i]? = some (.od ks ds) → s.env[j]? = some (.od ls es) → σ[i]? = some (some (.ref a)) → σ[j]? = some (some (.ref a)) → i = j
theorem OdOk.of {T : Tx} {x x' : Gh} {s s' : Sx} {σ σ' : L2.St} {H H' : Hp} (k : OdOk T x s σ H) (io : x.io.Le x'.io) (le : Le x.G x'.G) (env : ∀ (i : Nat) (ks : List Key) (ds : List D), s'.env[i]? = some (.od ks ds) → s.env[i]? = some (.od ks ds) ∧ σ'[i]? = σ[i]?)
    (h : ∀ (a : Addr) (kvs : List (Key × V)), H a = some (.dK kvs) → x.U a → H' a = some (.dK kvs) ∧ x'.U a) : OdOk T x' s' σ' H' where
  at_ := fun i ks ds e => by
    obtain ⟨e1, e2⟩ := env i ks ds e
    obtain ⟨a, vs, h1, h2, h3, h4, h5, h6⟩ := k.at_ i ks ds e1
    exact ⟨a, vs, by rw [e2]; exact h1, (h a _ h2 h6).1, h3, h4, h5.mono io le, (h a _ h2 h6).2⟩
  inj := fun i j ks ls ds es a e1 e2 e3 e4 => by
    obtain ⟨f1, g1⟩ := env i ks ds e1
    obtain ⟨f2, g2⟩ := env j ls es e2
    exact k.inj i j ks ls ds es a f1 f2 (by rw [← g1]; exact e3) (by rw [← g2]; exact e4)
theorem set_od {l : List Sl} {i j : Nat} {z : Sl} {ks : List Key} {ds : List D} (hz : ∀ ks ds, z ≠ .od ks ds) (e : (l.set i z)[j]? = some (.od ks ds)) : i ≠ j ∧ l[j]? = some (.od ks ds) := by
  by_cases hj : i = j
  · subst hj
    have hl : i < l.length := by simpa using (List.getElem?_eq_some_iff.mp e).1
    rw [List.getElem?_set_self hl] at e
    cases e
    exact absurd rfl (hz _ _)
  · rw [List.getElem?_set_ne hj] at e
    exact ⟨hj, e⟩
theorem set_od_sh {l : List Sl} {i j : Nat} {d : D} {ks : List Key} {ds : List D} (e : (l.set i (.sh d))[j]? = some (.od ks ds)) : i ≠ j ∧ l[j]? = some (.od ks ds) := set_od (fun _ _ q => by cases q) e
theorem set_od_ow {l : List Sl} {i j : Nat} {xs : List D} {ks : List Key} {ds : List D} (e : (l.set i (.ow xs))[j]? = some (.od ks ds)) : i ≠ j ∧ l[j]? = some (.od ks ds) := set_od (fun _ _ q => by cases q) e
theorem set_od_un {l : List Sl} {i j : Nat} {ks : List Key} {ds : List D} (e : (l.set i .un)[j]? = some (.od ks ds)) : i ≠ j ∧ l[j]? = some (.od ks ds) := set_od (fun _ _ q => by cases q) e
theorem OdOk.non {T : Tx} {x : Gh} {s : Sx} {σ : L2.St} {H : Hp} (h : ∀ (i : Nat) (ks : List Key) (ds : List D), s.env[i]? = some (.od ks ds) → False) : OdOk T x s σ H :=
  ⟨fun i ks ds e => (h i ks ds e).elim, fun i j ks ls ds es a e _ _ _ => (h i ks ds e).elim⟩
/-- the slots stand -/
structure Ok (T : Tx) (x : Gh) (s : Sx) (σ : L2.St) (H : Hp) : Prop where
  bx : Bx T x s.sto H
  len : s.env.length = σ.length
  sh : ∀ (i : Nat) (d : D), s.env[i]? = some (.sh d) → ∃ v, σ[i]? = some (some v) ∧ Rep T x.io x.G v d
  ow : ∀ (i : Nat) (xs : List D), s.env[i]? = some (.ow xs) → ∃ a vs, σ[i]? = some (some (.ref a)) ∧ H a = some (.lst vs) ∧ Reps T x.io x.G vs xs ∧ x.U a ∧ ∀ j, j < s.sto.length → a ≠ x.io.f j
  owi : ∀ (i j : Nat) (xs ys : List D) (a : Addr), s.env[i]? = some (.ow xs) → s.env[j]? = some (.ow ys) → σ[i]? = some (some (.ref a)) → σ[j]? = some (some (.ref a)) → i = j
  th : ∀ i : Nat, s.env[i]? = some .th → σ[i]? = some (some (.ref T.clo))
  od : OdOk T x s σ H

/-- from one state to a later one -/
structure Stp (x : Gh) (H : Hp) (x' : Gh) (H' : Hp) : Prop where
  io : x.io.Le x'.io
  le : Le x.G x'.G
  fr : ∀ a o, H a = some o → ¬ x.U a → H' a = some o
  new : ∀ a o, x'.G a = some o → x.G a = some o ∨ x.U a ∨ H a = none
  un : ∀ a, x'.U a → x.U a ∨ H a = none
  th : ∀ a, H' a = none → H a = none
theorem Stp.refl (x : Gh) (H : Hp) : Stp x H x H := ⟨.refl _, .refl _, fun _ _ h _ => h, fun _ _ h => .inl h, fun _ h => .inl h, fun _ h => h⟩
theorem Stp.trans {x y z : Gh} {H H1 H2 : Hp} (h : Stp x H y H1) (k : Stp y H1 z H2) : Stp x H z H2 where
  io := h.io.trans k.io
  le := h.le.trans k.le
  fr := fun a o e n => k.fr a o (h.fr a o e n) fun u => (h.un a u).elim n fun z => by rw [e] at z; cases z
  new := fun a o e => by
    rcases k.new a o e with q | q | q
    · exact h.new a o q
    · rcases h.un a q with r | r
      · exact .inr (.inl r)
      · exact .inr (.inr r)
    · exact .inr (.inr (h.th a q))
  un := fun a u => by
    rcases k.un a u with q | q
    · exact h.un a q
    · exact .inr (h.th a q)
  th := fun a e => h.th a (k.th a e)

/-- the shared heap grows by new things alone -/
structure Grow (G H G' H' : Hp) : Prop where
  g : Le G G'
  h : Le H H'
  sub : Le G' H'
  new : ∀ a o, G' a = some o → G a = some o ∨ H a = none
theorem Grow.refl {G H : Hp} (h : Le G H) : Grow G H G H := ⟨.refl _, .refl _, h, fun _ _ q => .inl q⟩
theorem Le.upd {H : Hp} {p : Addr} {o : HO} (h : H p = none) : Le H (upd H p o) := fun a u e => by rw [upd_ne (ne_of_none e h)]; exact e
theorem Le.none {G H : Hp} (h : Le G H) {p : Addr} (hp : H p = none) : G p = none := by
  cases e : G p with
  | none => rfl
  | some u => rw [h _ _ e] at hp; cases hp
theorem Grow.one {G H : Hp} {p : Addr} {o : HO} (h : Le G H) (hp : H p = none) : Grow G H (L2.upd G p o) (L2.upd H p o) := by
  have gp := h.none hp
  refine ⟨.upd gp, .upd hp, fun a u e => ?_, fun a u e => ?_⟩
  · by_cases q : a = p
    · subst q; rw [upd_same] at e ⊢; exact e
    · rw [upd_ne q] at e ⊢; exact h _ _ e
  · by_cases q : a = p
    · subst q; exact .inr hp
    · rw [upd_ne q] at e; exact .inl e
theorem Grow.trans {G H G1 H1 G2 H2 : Hp} (a : Grow G H G1 H1) (b : Grow G1 H1 G2 H2) : Grow G H G2 H2 :=
  ⟨a.g.trans b.g, a.h.trans b.h, b.sub, fun c o e => by
    rcases b.new c o e with q | q
    · exact a.new c o q
    · exact .inr (a.h.none q)⟩
theorem Grow.stp {x : Gh} {H G' H' : Hp} (g : Grow x.G H G' H') : Stp x H { x with G := G' } H' :=
  ⟨.refl _, g.g, fun a o e _ => g.h a o e, fun a o e => (g.new a o e).elim .inl fun z => .inr (.inr z), fun _ u => .inl u, fun a e => g.h.none e⟩
theorem Bx.grow {T : Tx} {x : Gh} {sto : List (List D)} {H G' H' : Hp} (b : Bx T x sto H) (g : Grow x.G H G' H') : Bx T { x with G := G' } sto H' where
  n := b.n
  at_ := fun i xs e => by
    obtain ⟨vs, h, r⟩ := b.at_ i xs e
    exact ⟨vs, g.h _ _ h, r.up g.g⟩
  inU := b.inU
  inj := b.inj
  sub := g.sub
  off := fun a o e u => by
    rcases g.new a o e with q | q
    · exact b.off a o q u
    · obtain ⟨o', z⟩ := b.trk a u
      rw [q] at z; cases z
  trk := fun a u => by
    obtain ⟨o, z⟩ := b.trk a u
    exact ⟨o, g.h _ _ z⟩
  tab := fun p hp => ⟨(b.tab p hp).1, (b.tab p hp).2.ext g.g g.h⟩
  lo := ⟨b.lo.1, b.lo.2.trans g.g⟩
theorem Ok.grow {T : Tx} {x : Gh} {s : Sx} {σ : L2.St} {H G' H' : Hp} (k : Ok T x s σ H) (g : Grow x.G H G' H') : Ok T { x with G := G' } s σ H' where
  bx := k.bx.grow g
  len := k.len
  sh := fun i d e => by
    obtain ⟨v, h, r⟩ := k.sh i d e
    exact ⟨v, h, r.up g.g⟩
  ow := fun i xs e => by
    obtain ⟨a, vs, h1, h2, r, u, z⟩ := k.ow i xs e
    exact ⟨a, vs, h1, g.h _ _ h2, r.up g.g, u, z⟩
  owi := k.owi
  th := k.th
  od := k.od.of (.refl _) g.g (fun _ _ _ e => ⟨e, rfl⟩) fun a kvs e u => ⟨g.h _ _ e, u⟩

/-! ### what a piece of code makes of a state -/
inductive R (α : Type) where
  | ok (a : α) (s : Sx)
  | exc (c : Str) (ns : List Str) (vs : List D) (sto : List (List D))
  | bad
abbrev M (α : Type) := Sx → R α
def M.pure {α : Type} (a : α) : M α := fun s => .ok a s
def M.bind {α β : Type} (m : M α) (f : α → M β) : M β := fun s => match m s with
  | .ok a s' => f a s'
  | .exc c ns vs sto => .exc c ns vs sto
  | .bad => .bad
def M.lift {α : Type} (o : Option α) : M α := fun s => match o with
  | some a => .ok a s
  | none => .bad
instance : Monad M where
  pure := M.pure
  bind := M.bind

/-- an exception's dict, new since H: nobody's own, not shared -/
structure XD (T : Tx) (x' : Gh) (H H' : Hp) (dd : Addr) (ns : List Str) (us : List V) (vs : List D) : Prop where
  at_ : H' dd = some (.xd (ns.zip us))
  hl : ns.length = us.length
  rs : Reps T x'.io x'.G us vs
  new : H dd = none
  nu : ¬ x'.U dd
  ng : x'.G dd = none
/-- what is wanted of an exception of the class c with these fields -/
def XP (T : Tx) (W : WX) (x : Gh) (σ : L2.St) (H : Hp) (c : Str) (ns : List Str) (vs : List D) (sto : List (List D)) : Prop :=
  ∀ (x' : Gh) (dd : Addr) (us : List V) (H' : Hp), Bx T x' sto H' → Stp x H x' H' → XD T x' H H' dd ns us vs → W (.ref (T.ca c)) (some dd) σ H'

/-- the reading of an expression: a shared datum -/
def tD (T : Tx) (W : WX) (m : M D) : TE := fun σ H Q => ∃ (x : Gh) (s : Sx), Ok T x s σ H ∧ match m s with
  | .ok d s' => ∀ x' v H', Ok T x' s' σ H' → Stp x H x' H' → Rep T x'.io x'.G v d → Q v H'
  | .exc c ns vs sto => XP T W x σ H c ns vs sto
  | .bad => False
/-- .. of a test -/
def tB (T : Tx) (W : WX) (m : M Bool) : TT := fun σ H Q => ∃ (x : Gh) (s : Sx), Ok T x s σ H ∧ match m s with
  | .ok b s' => ∀ x' H', Ok T x' s' σ H' → Stp x H x' H' → Q b H'
  | .exc c ns vs sto => XP T W x σ H c ns vs sto
  | .bad => False
/-- .. of arguments -/
def tDs (T : Tx) (W : WX) (m : M (List D)) : TA := fun σ H Q => ∃ (x : Gh) (s : Sx), Ok T x s σ H ∧ match m s with
  | .ok ds s' => ∀ x' vs H', Ok T x' s' σ H' → Stp x H x' H' → Reps T x'.io x'.G vs ds → Q vs H'
  | .exc c ns vs sto => XP T W x σ H c ns vs sto
  | .bad => False
/-- a list of one's own, at a -/
structure Own (T : Tx) (x : Gh) (s : Sx) (σ : L2.St) (H : Hp) (a : Addr) (xs : List D) : Prop where
  u : x.U a
  l : ∃ vs, H a = some (.lst vs) ∧ Reps T x.io x.G vs xs
  b : ∀ j, j < s.sto.length → a ≠ x.io.f j
  o : ∀ (i : Nat) (ys : List D), s.env[i]? = some (.ow ys) → σ[i]? ≠ some (some (.ref a))
/-- .. of an expression that makes a list of one's own -/
def tF (T : Tx) (W : WX) (m : M (List D)) : TE := fun σ H Q => ∃ (x : Gh) (s : Sx), Ok T x s σ H ∧ match m s with
  | .ok xs s' => ∀ x' a H', Ok T x' s' σ H' → Stp x H x' H' → Own T x' s' σ H' a xs → Q (.ref a) H'
  | .exc c ns vs sto => XP T W x σ H c ns vs sto
  | .bad => False

/-- what a statement makes -/
inductive RS where
  | nx (s : Sx) | bk (s : Sx) | ct (s : Sx)
  | rt (d : D) (sto : List (List D))
  /-- a list of one's own is handed back -/
  | ro (xs : List D) (sto : List (List D))
  | exc (c : Str) (ns : List Str) (vs : List D) (sto : List (List D))
  | bad
abbrev MS := Sx → RS
def tS (T : Tx) (W : WX) (m : MS) : TS := fun E σ H => ∃ (x : Gh) (s : Sx), Ok T x s σ H ∧ match m s with
  | .nx s' => ∀ x' σ' H', Ok T x' s' σ' H' → Stp x H x' H' → E.nx σ' H'
  | .bk s' => ∀ x' σ' H', Ok T x' s' σ' H' → Stp x H x' H' → E.bk σ' H'
  | .ct s' => ∀ x' σ' H', Ok T x' s' σ' H' → Stp x H x' H' → E.ct σ' H'
  | .rt d sto => ∀ x' v H', Bx T x' sto H' → Stp x H x' H' → Rep T x'.io x'.G v d → E.rt v H'
  | .ro xs sto => ∀ x' a H', Bx T x' sto H' → Stp x H x' H' → Own T x' ⟨[], sto⟩ [] H' a xs → E.rt (.ref a) H'
  | .exc c ns vs sto => ∀ σ', XP T W x σ' H c ns vs sto
  | .bad => False

/-! ### weakening -/
theorem PE.imp {X : Cx} {e : Expr} {t t' : TE} (h : PE X e t) (k : ∀ σ H Q, t' σ H Q → t σ H Q) : PE X e t' := ⟨fun pins s σ H Q I q => h.run pins s σ H Q I (k σ H Q q)⟩
theorem PT.imp {X : Cx} {e : Expr} {t t' : TT} (h : PT X e t) (k : ∀ σ H Q, t' σ H Q → t σ H Q) : PT X e t' := ⟨fun pins s σ H Q I q => h.run pins s σ H Q I (k σ H Q q)⟩
theorem PW.imp {X : Cx} {e : Expr} {t t' : TT} (h : PW X e t) (k : ∀ σ H Q, t' σ H Q → t σ H Q) : PW X e t' := ⟨fun wh pins s σ H Q I q => h.run wh pins s σ H Q I (k σ H Q q)⟩
theorem PA.imp {X : Cx} {es : List Expr} {t t' : TA} (h : PA X es t) (k : ∀ σ H Q, t' σ H Q → t σ H Q) : PA X es t' := ⟨fun pos pins s σ H Q I q => h.run pos pins s σ H Q I (k σ H Q q)⟩
theorem PS.imp {X : Cx} {st : Stmt} {t t' : TS} (h : PS X st t) (k : ∀ D σ H, t' D σ H → t D σ H) : PS X st t' := ⟨fun pins s σ H D I q => h.run pins s σ H D I (k D σ H q)⟩
theorem PSs.imp {X : Cx} {st : List Stmt} {t t' : TS} (h : PSs X st t) (k : ∀ D σ H, t' D σ H → t D σ H) : PSs X st t' := ⟨fun pins s σ H D I q => h.run pins s σ H D I (k D σ H q)⟩

theorem XP.back {T : Tx} {W : WX} {x y : Gh} {σ : L2.St} {H H1 : Hp} {c : Str} {ns : List Str} {vs : List D} {sto : List (List D)} (h : XP T W x σ H c ns vs sto) (k : Stp x H y H1) : XP T W y σ H1 c ns vs sto :=
  fun x' dd us H' b st e => h x' dd us H' b (k.trans st) ⟨e.at_, e.hl, e.rs, k.th dd e.new, e.nu, e.ng⟩

/-- one piece, then another -/
theorem tD.bind {α : Type} {T : Tx} {W : WX} {m : M D} {f : D → M α} {σ : L2.St} {H : Hp} {P : VK} {x : Gh} {s : Sx} (k : Ok T x s σ H) {R1 : R α → Prop}
    (h : match (M.bind m f) s with | .exc c ns vs sto => XP T W x σ H c ns vs sto | .bad => False | r => R1 r)
    (next : ∀ d s' x' v H', m s = .ok d s' → Ok T x' s' σ H' → Stp x H x' H' → Rep T x'.io x'.G v d → (match f d s' with | .exc c ns vs sto => XP T W x σ H c ns vs sto | .bad => False | r => R1 r) → P v H') : tD T W m σ H P := by
  refine ⟨x, s, k, ?_⟩
  unfold M.bind at h
  cases e : m s with
  | ok d s' =>
    rw [e] at h
    exact fun x' v H' k' st r => next d s' x' v H' e k' st r h
  | exc c ns vs sto => rw [e] at h; exact h
  | bad => rw [e] at h; exact h
end Ev

/-! E1: names, constants, operators, tests, arguments, displays, calls. -/
namespace Ev
open PySem PySem.Spec L2
section
variable {T : Tx} {x : Gh} {s : Sx} {σ : L2.St} {H : Hp}
/-- what is one's own is shared from now on -/
theorem share_gh (b : Bx T x s.sto H) {a : Addr} {vs : List V} {xs : List D} (u : x.U a) (h : H a = some (.lst vs)) (r : Reps T x.io x.G vs xs) (nb : ∀ j, j < s.sto.length → a ≠ x.io.f j) :
    ∃ x' : Gh, x'.io = x.io ∧ x'.G = upd x.G a (.lst vs) ∧ (∀ c, x'.U c ↔ x.U c ∧ c ≠ a) ∧ Le x.G x'.G ∧ Bx T x' s.sto H ∧ Stp x H x' H ∧ Rep T x'.io x'.G (.ref a) (.lst xs) := by
  have gn : x.G a = none := by
    cases e : x.G a with
    | none => rfl
    | some o => exact absurd u (b.off a o e)
  have le : Le x.G (upd x.G a (.lst vs)) := Le.upd gn
  refine ⟨⟨x.io, upd x.G a (.lst vs), fun c => x.U c ∧ c ≠ a⟩, rfl, rfl, fun _ => Iff.rfl, le, ?_, ?_, ?_⟩
  · refine ⟨b.n, fun i ys e => ?_, fun i hi => ⟨b.inU i hi, fun z => nb i hi z.symm⟩, b.inj, fun c o e => ?_, fun c o e z => ?_, fun c z => b.trk c z.1, fun p hp => ⟨⟨(b.tab p hp).1, fun z => by
      obtain ⟨ps, e1, _⟩ := (b.tab p hp).2
      rw [z, h] at e1; cases e1⟩, (b.tab p hp).2.ext le fun _ _ e => e⟩, ⟨b.lo.1, b.lo.2.trans le⟩⟩
    · obtain ⟨us, e1, r1⟩ := b.at_ i ys e
      exact ⟨us, e1, r1.up le⟩
    · have e : upd x.G a (.lst vs) c = some o := e
      by_cases q : c = a
      · subst q; rw [upd_same] at e; cases e; exact h
      · rw [upd_ne q] at e; exact b.sub c o e
    · have e : upd x.G a (.lst vs) c = some o := e
      by_cases q : c = a
      · exact z.2 q
      · rw [upd_ne q] at e; exact b.off c o e z.1
  · refine ⟨.refl _, le, fun _ _ e _ => e, fun c o e => ?_, fun c z => .inl z.1, fun _ e => e⟩
    have e : upd x.G a (.lst vs) c = some o := e
    by_cases q : c = a
    · subst q; exact .inr (.inl u)
    · rw [upd_ne q] at e; exact .inl e
  · exact .lst (.inl (.inl upd_same)) (r.up le)
/-- a slot's list is shared -/
theorem Ok.share (k : Ok T x s σ H) {i : Nat} {xs : List D} (e : s.env[i]? = some (.ow xs)) :
    ∃ (x' : Gh) (a : Addr), σ[i]? = some (some (.ref a)) ∧ Ok T x' { s with env := s.env.set i (.sh (.lst xs)) } σ H ∧ Stp x H x' H ∧ Rep T x'.io x'.G (.ref a) (.lst xs) := by
  obtain ⟨a, vs, h1, h2, r, u, nb⟩ := k.ow i xs e
  obtain ⟨x', e1, e2, e3, le, b', st, rp⟩ := share_gh k.bx u h2 r nb
  refine ⟨x', a, h1, ⟨b', by simpa using k.len, fun j d q => ?_, fun j ys q => ?_, fun j l ys zs c q1 q2 => ?_, fun j q => ?_, k.od.of (by rw [e1]; exact .refl _) le (fun j ks ds q => ⟨(set_od_sh q).2, rfl⟩) fun c kvs q u' => ⟨q, (e3 c).mpr ⟨u', fun hc => by subst hc; rw [h2] at q; cases q⟩⟩⟩, st, rp⟩
  · have q : (s.env.set i (.sh (.lst xs)))[j]? = some (.sh d) := q
    by_cases hj : i = j
    · subst hj
      have hl : i < s.env.length := (List.getElem?_eq_some_iff.mp e).1
      rw [List.getElem?_set_self hl] at q
      cases q
      exact ⟨_, h1, rp⟩
    · rw [List.getElem?_set_ne hj] at q
      obtain ⟨v, z, r'⟩ := k.sh j d q
      exact ⟨v, z, by rw [e1]; exact r'.up le⟩
  · have q : (s.env.set i (.sh (.lst xs)))[j]? = some (.ow ys) := q
    by_cases hj : i = j
    · subst hj
      have hl : i < s.env.length := (List.getElem?_eq_some_iff.mp e).1
      rw [List.getElem?_set_self hl] at q
      cases q
    · rw [List.getElem?_set_ne hj] at q
      obtain ⟨c, us, z1, z2, r', u', nb'⟩ := k.ow j ys q
      refine ⟨c, us, z1, z2, by rw [e1]; exact r'.up le, (e3 c).mpr ⟨u', fun hc => ?_⟩, by rw [e1]; exact nb'⟩
      subst hc
      exact hj (k.owi i j xs ys c e q h1 z1)
  · have q1 : (s.env.set i (.sh (.lst xs)))[j]? = some (.ow ys) := q1
    have q2 : (s.env.set i (.sh (.lst xs)))[l]? = some (.ow zs) := q2
    have hl : i < s.env.length := (List.getElem?_eq_some_iff.mp e).1
    have hj : i ≠ j := by rintro rfl; rw [List.getElem?_set_self hl] at q1; cases q1
    have hk : i ≠ l := by rintro rfl; rw [List.getElem?_set_self hl] at q2; cases q2
    rw [List.getElem?_set_ne hj] at q1
    rw [List.getElem?_set_ne hk] at q2
    exact k.owi j l ys zs c q1 q2
  · have q : (s.env.set i (.sh (.lst xs)))[j]? = some .th := q
    have hl : i < s.env.length := (List.getElem?_eq_some_iff.mp e).1
    have hj : i ≠ j := by rintro rfl; rw [List.getElem?_set_self hl] at q; cases q
    rw [List.getElem?_set_ne hj] at q
    exact k.th j q
/-- a list of one's own, in no slot, is shared -/
theorem Own.share {a : Addr} {xs : List D} (k : Ok T x s σ H) (o : Own T x s σ H a xs) : ∃ x' : Gh, Ok T x' s σ H ∧ Stp x H x' H ∧ Rep T x'.io x'.G (.ref a) (.lst xs) := by
  obtain ⟨vs, h2, r⟩ := o.l
  obtain ⟨x', e1, e2, e3, le, b', st, rp⟩ := share_gh k.bx o.u h2 r o.b
  refine ⟨x', ⟨b', k.len, fun j d q => ?_, fun j ys q => ?_, k.owi, k.th, k.od.of (by rw [e1]; exact .refl _) le (fun j ks ds q => ⟨q, rfl⟩) fun c kvs q u' => ⟨q, (e3 c).mpr ⟨u', fun hc => by subst hc; rw [h2] at q; cases q⟩⟩⟩, st, rp⟩
  · obtain ⟨v, z, r'⟩ := k.sh j d q
    exact ⟨v, z, by rw [e1]; exact r'.up le⟩
  · obtain ⟨c, us, z1, z2, r', u', nb'⟩ := k.ow j ys q
    refine ⟨c, us, z1, z2, by rw [e1]; exact r'.up le, (e3 c).mpr ⟨u', fun hc => ?_⟩, by rw [e1]; exact nb'⟩
    subst hc
    exact o.o j ys q z1
theorem bx_share {a : Addr} {xs : List D} {sto : List (List D)} (b : Bx T x sto H) (o : Own T x ⟨[], sto⟩ [] H a xs) : ∃ x' : Gh, Bx T x' sto H ∧ Stp x H x' H ∧ Rep T x'.io x'.G (.ref a) (.lst xs) := by
  obtain ⟨vs, h2, r⟩ := o.l
  obtain ⟨x', e1, e2, e3, le, b', st, rp⟩ := share_gh (s := ⟨[], sto⟩) b o.u h2 r o.b
  exact ⟨x', b', st, rp⟩
/-- a new list of one's own is laid -/
theorem Ok.lay (k : Ok T x s σ H) {p : Addr} {vs : List V} {xs : List D} (hp : H p = none) (r : Reps T x.io x.G vs xs) :
    ∃ x' : Gh, x'.io = x.io ∧ x'.G = x.G ∧ Ok T x' s σ (upd H p (.lst vs)) ∧ Stp x H x' (upd H p (.lst vs)) ∧ Own T x' s σ (upd H p (.lst vs)) p xs := by
  have lu : Le H (upd H p (.lst vs)) := Le.upd hp
  have gp := k.bx.sub.none hp
  have nb : ∀ j, j < s.sto.length → p ≠ x.io.f j := fun j hj z => by
    obtain ⟨o, e⟩ := k.bx.trk _ (k.bx.inU j hj)
    rw [← z, hp] at e; cases e
  refine ⟨⟨x.io, x.G, fun c => x.U c ∨ c = p⟩, rfl, rfl, ⟨⟨k.bx.n, fun i ys e => ?_, fun i hi => .inl (k.bx.inU i hi), k.bx.inj, k.bx.sub.trans lu, fun c o e z => ?_, fun c z => ?_, fun q hq => ⟨.inl (k.bx.tab q hq).1, (k.bx.tab q hq).2.ext (.refl _) lu⟩, k.bx.lo⟩, k.len, k.sh, fun i ys e => ?_, k.owi, k.th, k.od.of (.refl _) (.refl _) (fun _ _ _ e => ⟨e, rfl⟩) fun c kvs e u => ⟨lu _ _ e, .inl u⟩⟩, ⟨.refl _, .refl _, fun c o e _ => lu c o e, fun c o e => .inl e, fun c z => ?_, fun c e => lu.none e⟩, ⟨.inr rfl, ⟨vs, upd_same, r⟩, nb, fun i ys e z => ?_⟩⟩
  · obtain ⟨us, e1, r1⟩ := k.bx.at_ i ys e
    exact ⟨us, lu _ _ e1, r1⟩
  · rcases z with z | z
    · exact k.bx.off c o e z
    · subst z; rw [gp] at e; cases e
  · rcases z with z | z
    · obtain ⟨o, e⟩ := k.bx.trk c z
      exact ⟨o, lu _ _ e⟩
    · subst z; exact ⟨_, upd_same⟩
  · obtain ⟨c, us, z1, z2, r', u', nb'⟩ := k.ow i ys e
    exact ⟨c, us, z1, lu _ _ z2, r', .inl u', nb'⟩
  · rcases z with z | z
    · exact .inl z
    · subst z; exact .inr hp
  · obtain ⟨c, us, z1, z2, _⟩ := k.ow i ys e
    rw [z1] at z
    cases z
    rw [hp] at z2; cases z2
end

/-! ### names, constants -/
def mVar (i : Nat) : M D := fun s => match s.env[i]? with
  | some (.sh d) => .ok d s
  | some (.ow xs) => .ok (.lst xs) { s with env := s.env.set i (.sh (.lst xs)) }
  | _ => .bad
def mC (d : D) : M D := M.pure d
section
variable {T : Tx} {W : WX} {X : Cx}
theorem tD.ok {m : M D} {σ : L2.St} {H : Hp} {Q : VK} (h : tD T W m σ H Q) : ∃ (x : Gh) (s : Sx), Ok T x s σ H ∧ match m s with
  | .ok d s' => ∀ x' v H', Ok T x' s' σ H' → Stp x H x' H' → Rep T x'.io x'.G v d → Q v H'
  | .exc c ns vs sto => XP T W x σ H c ns vs sto
  | .bad => False := h
theorem de_var {i : Nat} {y : Str} {pos : Pos} (hN : X.N[i]? = some y) (hv : Vis X.env.scope y) (hd : (y == ("__debug__" : Str)) = false := by decide) (hcd : (y == ("__classdict__" : Str)) = false := by decide) : PE X (.Name y pos) (tD T W (mVar i)) := by
  refine PE.imp (pe_var (pos := pos) (i := i) hN hv hd hcd) fun σ H Q ⟨x, s, k, h⟩ => ?_
  unfold mVar at h
  cases q : s.env[i]? with
  | none => rw [q] at h; exact h.elim
  | some sl =>
    cases sl with
    | un => rw [q] at h; exact h.elim
    | th => rw [q] at h; exact h.elim
    | od ks ds => rw [q] at h; exact h.elim
    | sh d =>
      rw [q] at h
      obtain ⟨v, z, r⟩ := k.sh i d q
      exact ⟨v, z, h x v H k (.refl _ _) r⟩
    | ow xs =>
      rw [q] at h
      obtain ⟨x', a, z, k', st, r⟩ := k.share q
      exact ⟨_, z, h x' _ H k' st r⟩
theorem de_c {e : Expr} {v : V} {d : D} (h : PE X e (tC v)) (r : ∀ io G, Rep T io G v d) : PE X e (tD T W (mC d)) :=
  PE.imp h fun σ H Q ⟨x, s, k, q⟩ => q x v H k (.refl _ _) (r _ _)
theorem de_int {i j pos} : PE X (.Constant (.int i) j pos) (tD T W (mC (.int i))) := de_c pe_int fun _ _ => .int i
theorem de_bl {b j pos} : PE X (.Constant (.bool b) j pos) (tD T W (mC (.bl b))) := de_c pe_bl fun _ _ => .bl b
theorem de_non {j pos} : PE X (.Constant .none j pos) (tD T W (mC .non)) := de_c pe_non fun _ _ => .non
theorem de_str {y j pos} : PE X (.Constant (.str y) j pos) (tD T W (mC (.str y))) := de_c pe_str fun _ _ => .str y
/-- a constant of the module -/
theorem de_glob {y : Str} {v : V} {u : Value} {d : D} {pos : Pos} (hg : Gl X y) (hm : X.mg y = some u) (r : RelV v u) (rp : ∀ io G, Rep T io G v d) (hd : (y == ("__debug__" : Str)) = false := by decide) : PE X (.Name y pos) (tD T W (mC d)) :=
  de_c (pe_glob hg hm r hd) rp

/-! ### pure rules -/
def P1 (T : Tx) (r : V → Hp → VK → Prop) (g : D → Option D) : Prop := ∀ (io : Io) (G : Hp) (v : V) (d z : D) (H : Hp) (Q : VK), Rep T io G v d → Le G H → g d = some z → (∀ G' v' H', Grow G H G' H' → Rep T io G' v' z → Q v' H') → r v H Q
def P2 (T : Tx) (r : R2) (g : D → D → Option D) : Prop := ∀ (io : Io) (G : Hp) (v u : V) (d e z : D) (H : Hp) (Q : VK), Rep T io G v d → Rep T io G u e → Le G H → g d e = some z → (∀ G' v' H', Grow G H G' H' → Rep T io G' v' z → Q v' H') → r v u H Q
def PL (T : Tx) (r : List V → Hp → VK → Prop) (g : List D → Option D) : Prop := ∀ (io : Io) (G : Hp) (vs : List V) (ds : List D) (z : D) (H : Hp) (Q : VK), Reps T io G vs ds → Le G H → g ds = some z → (∀ G' v' H', Grow G H G' H' → Rep T io G' v' z → Q v' H') → r vs H Q
def m1 (g : D → Option D) (ma : M D) : M D := M.bind ma fun a => M.lift (g a)
def m2 (g : D → D → Option D) (ma mb : M D) : M D := M.bind ma fun a => M.bind mb fun b => M.lift (g a b)
def mL (g : List D → Option D) (ma : M (List D)) : M D := M.bind ma fun a => M.lift (g a)
theorem t1 {r : V → Hp → VK → Prop} {g : D → Option D} (p : P1 T r g) {ma : M D} {σ : L2.St} {H : Hp} {Q : VK} (h : tD T W (m1 g ma) σ H Q) : tUn r (tD T W ma) σ H Q := by
  obtain ⟨x, s, k, h⟩ := h
  refine ⟨x, s, k, ?_⟩
  unfold m1 M.bind M.lift at h
  cases e : ma s with
  | ok d s' =>
    rw [e] at h
    intro x' v H' k' st r'
    simp only at h
    cases e2 : g d with
    | none => rw [e2] at h; exact h.elim
    | some z =>
      rw [e2] at h
      exact p _ _ _ _ _ _ _ r' k'.bx.sub e2 fun G' v' H2 gr r2 => h _ v' H2 (k'.grow gr) (st.trans gr.stp) r2
  | exc c ns vs sto => rw [e] at h; exact h
  | bad => rw [e] at h; exact h
theorem t2 {r : R2} {g : D → D → Option D} (p : P2 T r g) {ma mb : M D} {σ : L2.St} {H : Hp} {Q : VK} (h : tD T W (m2 g ma mb) σ H Q) : tOp r (tD T W ma) (tD T W mb) σ H Q := by
  obtain ⟨x, s, k, h⟩ := h
  refine ⟨x, s, k, ?_⟩
  unfold m2 M.bind M.lift at h
  cases e : ma s with
  | ok d s' =>
    rw [e] at h
    intro x' v H' k' st r'
    refine ⟨x', s', k', ?_⟩
    simp only at h
    cases e1 : mb s' with
    | ok d2 s2 =>
      rw [e1] at h
      intro x2 v2 H2 k2 st2 r2
      simp only at h
      cases e2 : g d d2 with
      | none => rw [e2] at h; exact h.elim
      | some z =>
        rw [e2] at h
        exact p _ _ _ _ _ _ _ _ _ (r'.mono st2.io st2.le) r2 k2.bx.sub e2 fun G' v' H3 gr r3 => h _ v' H3 (k2.grow gr) (st.trans (st2.trans gr.stp)) r3
    | exc c ns vs sto => rw [e1] at h; exact h.back st
    | bad => rw [e1] at h; exact h
  | exc c ns vs sto => rw [e] at h; exact h
  | bad => rw [e] at h; exact h
theorem tl {r : List V → Hp → VK → Prop} {g : List D → Option D} (p : PL T r g) {ma : M (List D)} {σ : L2.St} {H : Hp} {Q : VK} (h : tD T W (mL g ma) σ H Q) : tCB r (tDs T W ma) σ H Q := by
  obtain ⟨x, s, k, h⟩ := h
  refine ⟨x, s, k, ?_⟩
  unfold mL M.bind M.lift at h
  cases e : ma s with
  | ok d s' =>
    rw [e] at h
    intro x' v H' k' st r'
    simp only at h
    cases e2 : g d with
    | none => rw [e2] at h; exact h.elim
    | some z =>
      rw [e2] at h
      exact p _ _ _ _ _ _ _ r' k'.bx.sub e2 fun G' v' H2 gr r2 => h _ v' H2 (k'.grow gr) (st.trans gr.stp) r2
  | exc c ns vs sto => rw [e] at h; exact h
  | bad => rw [e] at h; exact h
variable {a b : Expr} {ma mb : M D} {pos : Pos}
theorem de_op {op : Operator} {r : R2} {g : D → D → Option D} (ho : OpR X (binaryOp op) r) (p : P2 T r g) (ha : PE X a (tD T W ma)) (hb : PE X b (tD T W mb)) : PE X (.BinOp a op b pos) (tD T W (m2 g ma mb)) :=
  PE.imp (pe_op ho ha hb) fun _ _ _ h => t2 p h
theorem de_un {op : UnaryOp} {r : V → Hp → VK → Prop} {g : D → Option D} (ho : UnR X (unaryOp op) r) (p : P1 T r g) (ha : PE X a (tD T W ma)) : PE X (.UnaryOp op a pos) (tD T W (m1 g ma)) :=
  PE.imp (pe_un ho ha) fun _ _ _ h => t1 p h
theorem de_cmp {op : CmpOp} {r : R2} {g : D → D → Option D} (ho : OpR X (compareOp op) r) (p : P2 T r g) (ha : PE X a (tD T W ma)) (hb : PE X b (tD T W mb)) (hm : behindInMarks op b = false) : PE X (.Compare a [op] [b] pos) (tD T W (m2 g ma mb)) :=
  PE.imp (pe_cmpR ho ha hb hm) fun _ _ _ h => t2 p h
theorem de_ix {r : R2} {g : D → D → Option D} (hr : IxR X r) (p : P2 T r g) (ha : PE X a (tD T W ma)) (hb : PE X b (tD T W mb)) (hs : PlainIx b) : PE X (.Subscript a b pos) (tD T W (m2 g ma mb)) :=
  PE.imp (pe_ix hr ha hb hs) fun _ _ _ h => t2 p h

/-! ### tests -/
def asB (d : D) : Option Bool := match d with | .bl b => some b | _ => none
def mT (m : M D) : M Bool := M.bind m fun d => M.lift (asB d)
theorem tT {m : M D} {σ : L2.St} {H : Hp} {Q : Bool → Hp → Prop} (h : tB T W (mT m) σ H Q) : tD T W m σ H fun v H1 => ∃ c, v = .bl c ∧ Q c H1 := by
  obtain ⟨x, s, k, h⟩ := h
  refine ⟨x, s, k, ?_⟩
  unfold mT M.bind M.lift at h
  cases e : m s with
  | ok d s' =>
    rw [e] at h
    intro x' v H' k' st r'
    simp only at h
    cases d with
    | bl c => cases r'; exact ⟨c, rfl, h x' H' k' st⟩
    | _ => exact h.elim
  | exc c ns vs sto => rw [e] at h; exact h
  | bad => rw [e] at h; exact h
/-- an expression whose value is a truth, as a test -/
theorem dt_val {e : Expr} {m : M D} (h : PE X e (tD T W m)) (he : ∀ whole, isTrue e X.env whole = (do let v ← whole; standAt e.pos; holding [v] (truthy v)) := by intro _; rfl) : PT X e (tB T W (mT m)) :=
  PT.imp (pt_val h he) fun _ _ _ q => tT q
theorem dt_cmp {op : CmpOp} {r : R2} {g : D → D → Option D} (ho : OpR X (compareOp op) r) (p : P2 T r g) (ha : PE X a (tD T W ma)) (hb : PE X b (tD T W mb)) (hm : behindInMarks op b = false) : PT X (.Compare a [op] [b] pos) (tB T W (mT (m2 g ma mb))) :=
  PT.imp (pt_cmpR ho ha hb hm) fun _ _ _ q => by
    obtain ⟨x, s, k, h⟩ := tT q
    exact t2 p ⟨x, s, k, h⟩
def mNot (m : M Bool) : M Bool := M.bind m fun c => M.pure (!c)
def mAnd (m n : M Bool) : M Bool := M.bind m fun c => if c = true then n else M.pure false
def mOr (m n : M Bool) : M Bool := M.bind m fun c => if c = true then M.pure true else n
def mIf {α : Type} (c : M Bool) (m n : M α) : M α := M.bind c fun b => if b = true then m else n
/-- a bool's reading behind another -/
theorem tB.step {m : M Bool} {α : Type} {f : Bool → M α} {σ : L2.St} {H : Hp} {P : Bool → Hp → Prop} {x : Gh} {s : Sx} {C : R α → Prop} (k : Ok T x s σ H)
    (hC : C ((M.bind m f) s)) (hexc : ∀ c ns vs sto, C (.exc c ns vs sto) → XP T W x σ H c ns vs sto) (hbad : ¬ C .bad)
    (next : ∀ b s' x' H', Ok T x' s' σ H' → Stp x H x' H' → C (f b s') → P b H') : tB T W m σ H P := by
  refine ⟨x, s, k, ?_⟩
  unfold M.bind at hC
  cases e : m s with
  | ok b s' => rw [e] at hC; exact fun x' H' k' st => next b s' x' H' k' st hC
  | exc c ns vs sto => rw [e] at hC; exact hexc _ _ _ _ hC
  | bad => rw [e] at hC; exact hbad hC
theorem dt_not {c : Expr} {m : M Bool} (h : PT X c (tB T W m)) : PT X (.UnaryOp .Not c pos) (tB T W (mNot m)) :=
  PT.imp (pt_not h) fun σ H Q ⟨x, s, k, h⟩ => by
    refine ⟨x, s, k, ?_⟩
    unfold mNot M.bind M.pure at h
    cases e : m s with
    | ok b s' => rw [e] at h; exact fun x' H' k' st => h x' H' k' st
    | exc c ns vs sto => rw [e] at h; exact h
    | bad => rw [e] at h; exact h
theorem tAnd_of {m n : M Bool} {σ : L2.St} {H : Hp} {Q : Bool → Hp → Prop} (h : tB T W (mAnd m n) σ H Q) : tAnd (tB T W m) (tB T W n) σ H Q := by
  obtain ⟨x, s, k, h⟩ := h
  refine ⟨x, s, k, ?_⟩
  unfold mAnd M.bind M.pure at h
  cases e : m s with
  | ok b s' =>
    rw [e] at h
    intro x' H' k' st
    cases b with
    | true =>
      rw [if_pos rfl]
      refine ⟨x', s', k', ?_⟩
      simp only [if_true] at h
      cases e2 : n s' with
      | ok b2 s2 => rw [e2] at h; exact fun x2 H2 k2 st2 => h x2 H2 k2 (st.trans st2)
      | exc c ns vs sto => rw [e2] at h; exact h.back st
      | bad => rw [e2] at h; exact h
    | false => rw [if_neg Bool.false_ne_true]; exact h x' H' k' st
  | exc c ns vs sto => rw [e] at h; exact h
  | bad => rw [e] at h; exact h
theorem tOr_of {m n : M Bool} {σ : L2.St} {H : Hp} {Q : Bool → Hp → Prop} (h : tB T W (mOr m n) σ H Q) : tOr (tB T W m) (tB T W n) σ H Q := by
  obtain ⟨x, s, k, h⟩ := h
  refine ⟨x, s, k, ?_⟩
  unfold mOr M.bind M.pure at h
  cases e : m s with
  | ok b s' =>
    rw [e] at h
    intro x' H' k' st
    cases b with
    | false =>
      rw [if_neg Bool.false_ne_true]
      refine ⟨x', s', k', ?_⟩
      simp only [Bool.false_eq_true, if_false] at h
      cases e2 : n s' with
      | ok b2 s2 => rw [e2] at h; exact fun x2 H2 k2 st2 => h x2 H2 k2 (st.trans st2)
      | exc c ns vs sto => rw [e2] at h; exact h.back st
      | bad => rw [e2] at h; exact h
    | true => rw [if_pos rfl]; exact h x' H' k' st
  | exc c ns vs sto => rw [e] at h; exact h
  | bad => rw [e] at h; exact h
variable {rest : List Expr} {m n : M Bool}
theorem dw_and1 (ha : PT X a (tB T W m)) : PW X (.BoolOp .And [a] pos) (tB T W m) := pw_and1 ha
theorem dw_or1 (ha : PT X a (tB T W m)) : PW X (.BoolOp .Or [a] pos) (tB T W m) := pw_or1 ha
theorem dw_and (ha : PT X a (tB T W m)) (hb : PW X (.BoolOp .And (b :: rest) pos) (tB T W n)) : PW X (.BoolOp .And (a :: b :: rest) pos) (tB T W (mAnd m n)) := PW.imp (pw_and ha hb) fun _ _ _ h => tAnd_of h
theorem dw_or (ha : PT X a (tB T W m)) (hb : PW X (.BoolOp .Or (b :: rest) pos) (tB T W n)) : PW X (.BoolOp .Or (a :: b :: rest) pos) (tB T W (mOr m n)) := PW.imp (pw_or ha hb) fun _ _ _ h => tOr_of h
/-- a branch's reading -/
theorem tIf_of {c : M Bool} {m n : M D} {σ : L2.St} {H : Hp} {Q : VK} (h : tD T W (mIf c m n) σ H Q) : tIf (tB T W c) (tD T W m) (tD T W n) σ H Q := by
  obtain ⟨x, s, k, h⟩ := h
  refine ⟨x, s, k, ?_⟩
  unfold mIf M.bind at h
  cases e : c s with
  | ok b s' =>
    rw [e] at h
    intro x' H' k' st
    cases b with
    | true =>
      rw [if_pos rfl]
      refine ⟨x', s', k', ?_⟩
      simp only [if_true] at h
      cases e2 : m s' with
      | ok b2 s2 => rw [e2] at h; exact fun x2 v H2 k2 st2 r => h x2 v H2 k2 (st.trans st2) r
      | exc c ns vs sto => rw [e2] at h; exact h.back st
      | bad => rw [e2] at h; exact h
    | false =>
      rw [if_neg Bool.false_ne_true]
      refine ⟨x', s', k', ?_⟩
      simp only [Bool.false_eq_true, if_false] at h
      cases e2 : n s' with
      | ok b2 s2 => rw [e2] at h; exact fun x2 v H2 k2 st2 r => h x2 v H2 k2 (st.trans st2) r
      | exc c ns vs sto => rw [e2] at h; exact h.back st
      | bad => rw [e2] at h; exact h
  | exc c ns vs sto => rw [e] at h; exact h
  | bad => rw [e] at h; exact h
theorem de_if {c : Expr} {mc : M Bool} (hc : PT X c (tB T W mc)) (ha : PE X a (tD T W ma)) (hb : PE X b (tD T W mb)) : PE X (.IfExp c a b pos) (tD T W (mIf mc ma mb)) := PE.imp (pe_ifExp hc ha hb) fun _ _ _ h => tIf_of h
end
end Ev

/-! E2: arguments, displays, targets, statements, loops, comprehensions, calls. -/
namespace Ev
open PySem PySem.Spec L2
/-! ### arguments, displays -/
def mNil : M (List D) := M.pure []
def mCons (m : M D) (r : M (List D)) : M (List D) := M.bind m fun d => M.bind r fun ds => M.pure (d :: ds)
def mTup (m : M (List D)) : M D := M.bind m fun ds => if ds.length ≤ sizeLine then M.pure (.tup ds) else fun _ => .bad
def mLst (m : M (List D)) : M (List D) := M.bind m fun ds => if ds.length ≤ sizeLine then M.pure ds else fun _ => .bad
/-- a list of one's own as a shared one -/
def mSh (m : M (List D)) : M D := M.bind m fun ds => M.pure (.lst ds)
section
variable {T : Tx} {W : WX} {X : Cx} {e : Expr} {es : List Expr} {ma : M D} {ml : M (List D)} {pos : Pos}
theorem da_nil : PA X [] (tDs T W mNil) := PA.imp pa_nil fun σ H Q ⟨x, s, k, h⟩ => h x [] H k (.refl _ _) .nil
theorem tDs_cons {m : M D} {r : M (List D)} {σ : L2.St} {H : Hp} {Q : List V → Hp → Prop} (h : tDs T W (mCons m r) σ H Q) : tCons (tD T W m) (tDs T W r) σ H Q := by
  obtain ⟨x, s, k, h⟩ := h
  refine ⟨x, s, k, ?_⟩
  unfold mCons M.bind M.pure at h
  cases e : m s with
  | ok d s' =>
    rw [e] at h
    intro x' v H' k' st r'
    refine ⟨x', s', k', ?_⟩
    simp only at h
    cases e1 : r s' with
    | ok ds s2 => rw [e1] at h; exact fun x2 vs H2 k2 st2 r2 => h x2 _ H2 k2 (st.trans st2) (.cons (r'.mono st2.io st2.le) r2)
    | exc c ns vs sto => rw [e1] at h; exact h.back st
    | bad => rw [e1] at h; exact h
  | exc c ns vs sto => rw [e] at h; exact h
  | bad => rw [e] at h; exact h
theorem da_cons (ha : PE X e (tD T W ma)) (hr : PA X es (tDs T W ml)) (hs : starEach (e :: es) X.env = (false, eval e X.env) :: starEach es X.env := by rfl) : PA X (e :: es) (tDs T W (mCons ma ml)) :=
  PA.imp (pa_cons ha hr hs) fun _ _ _ h => tDs_cons h
theorem de_tup {k : Nat} (h : PA X es (tDs T W ml)) : PE X (.Tuple es k pos) (tD T W (mTup ml)) := PE.imp (pe_tup h) fun σ H Q ⟨x, s, k, q⟩ => by
  refine ⟨x, s, k, ?_⟩
  unfold mTup M.bind M.pure at q
  cases e : ml s with
  | ok ds s' =>
    rw [e] at q
    intro x' vs H' k' st r'
    simp only at q
    by_cases hl : ds.length ≤ sizeLine
    · rw [if_pos hl] at q
      refine ⟨by rw [r'.length]; exact hl, fun p hp => ?_⟩
      have gr := Grow.one (o := .tup vs) k'.bx.sub hp
      exact q _ _ _ (k'.grow gr) (st.trans gr.stp) (.tup (.inl (.inl upd_same)) (r'.up gr.g))
    · rw [if_neg hl] at q; exact q.elim
  | exc c ns vs sto => rw [e] at q; exact q
  | bad => rw [e] at q; exact q
/-- a list display: of one's own -/
theorem df_lst (h : PA X es (tDs T W ml)) : PE X (.List es pos) (tF T W (mLst ml)) := PE.imp (pe_lst h) fun σ H Q ⟨x, s, k, q⟩ => by
  refine ⟨x, s, k, ?_⟩
  unfold mLst M.bind M.pure at q
  cases e : ml s with
  | ok ds s' =>
    rw [e] at q
    intro x' vs H' k' st r'
    simp only at q
    by_cases hl : ds.length ≤ sizeLine
    · rw [if_pos hl] at q
      refine ⟨by rw [r'.length]; exact hl, fun p hp => ?_⟩
      obtain ⟨x2, _, _, k2, st2, o⟩ := k'.lay hp r'
      exact q _ _ _ k2 (st.trans st2) o
    · rw [if_neg hl] at q; exact q.elim
  | exc c ns vs sto => rw [e] at q; exact q
  | bad => rw [e] at q; exact q
theorem de_sh (h : PE X e (tF T W ml)) : PE X e (tD T W (mSh ml)) := PE.imp h fun σ H Q ⟨x, s, k, q⟩ => by
  refine ⟨x, s, k, ?_⟩
  unfold mSh M.bind M.pure at q
  cases e : ml s with
  | ok ds s' =>
    rw [e] at q
    intro x' a H' k' st o
    obtain ⟨x2, k2, st2, r⟩ := o.share k'
    exact q x2 _ H' k2 (st.trans st2) r
  | exc c ns vs sto => rw [e] at q; exact q
  | bad => rw [e] at q; exact q
/-- a built-in by its name -/
theorem de_bi {id : String} {r : List V → Hp → VK → Prop} {g : List D → Option D} {y : Str} {p : Pos} (hc : CallR X (.builtin id) r) (pl : PL T r g) (hg : Gl X y) (hm : X.mg y = none) (hv : bootBuiltins y = some (.builtin id)) (ha : PA X (e :: es) (tDs T W ml)) (hn : y ≠ "__name__" := by decide) (hdb : (y == ("__debug__" : Str)) = false := by decide)
    (he : starEach (e :: es) X.env = (false, eval e X.env) :: starEach es X.env := by rfl) (hpl : (backTo pos (starEach es X.env)).any (·.1) = false := by rfl) : PE X (.Call (.Name y p) (e :: es) [] pos) (tD T W (mL g ml)) :=
  PE.imp (pe_callB hc hg hm hv ha hn hdb he hpl) fun _ _ _ h => tl pl h
theorem de_ty {id : String} {r : List V → Hp → VK → Prop} {g : List D → Option D} {y : Str} {p : Pos} (hc : CallR X (.type id) r) (pl : PL T r g) (hg : Gl X y) (hm : X.mg y = none) (hv : bootBuiltins y = some (.type id)) (ha : PA X (e :: es) (tDs T W ml)) (hn : y ≠ "__name__" := by decide) (hdb : (y == ("__debug__" : Str)) = false := by decide)
    (he : starEach (e :: es) X.env = (false, eval e X.env) :: starEach es X.env := by rfl) (hpl : (backTo pos (starEach es X.env)).any (·.1) = false := by rfl) : PE X (.Call (.Name y p) (e :: es) [] pos) (tD T W (mL g ml)) :=
  PE.imp (pe_callTy hc hg hm hv ha hn hdb he hpl) fun _ _ _ h => tl pl h
end

/-! ### targets -/
structure Tg where
  slots : List Nat
  run : D → Sx → Option Sx
def Sx.put (s : Sx) (i : Nat) (d : D) : Sx := { s with env := s.env.set i (.sh d) }
def tgN (i : Nat) : Tg := ⟨[i], fun d s => some (s.put i d)⟩
structure Tgs where
  slots : List Nat
  run : List D → Sx → Option Sx
def tgsNil : Tgs := ⟨[], fun ds s => match ds with | [] => some s | _ => none⟩
def tgsCons (t : Tg) (u : Tgs) : Tgs := ⟨t.slots ++ u.slots, fun ds s => match ds with | d :: r => (t.run d s).bind fun s' => u.run r s' | [] => none⟩
def tgT (u : Tgs) : Tg := ⟨u.slots, fun d s => match d with | .tup xs => u.run xs s | _ => none⟩
def gD (T : Tx) (t : Tg) : TG := fun v σ H Q => ∃ (x : Gh) (s s' : Sx) (d : D), Ok T x s σ H ∧ Rep T x.io x.G v d ∧ t.run d s = some s' ∧ ∀ σ', Ok T x s' σ' H → σ'.length = σ.length → (∀ j, j ∉ t.slots → σ'[j]? = σ[j]?) → Q σ' H
def gDs (T : Tx) (t : Tgs) : TGs := fun vs σ H Q => ∃ (x : Gh) (s s' : Sx) (ds : List D), Ok T x s σ H ∧ Reps T x.io x.G vs ds ∧ t.run ds s = some s' ∧ ∀ σ', Ok T x s' σ' H → σ'.length = σ.length → (∀ j, j ∉ t.slots → σ'[j]? = σ[j]?) → Q σ' H
theorem PG.imp {X : Cx} {e : Expr} {t t' : TG} (h : PG X e t) (k : ∀ v σ H Q, t' v σ H Q → t v σ H Q) : PG X e t' := ⟨fun pins s σ H v u Q I r q => h.run pins s σ H v u Q I r (k v σ H Q q)⟩
theorem PGs.imp {X : Cx} {e : List Expr} {t t' : TGs} (h : PGs X e t) (k : ∀ v σ H Q, t' v σ H Q → t v σ H Q) : PGs X e t' := ⟨fun pins s σ H v u Q I r q => h.run pins s σ H v u Q I r (k v σ H Q q)⟩
section
variable {T : Tx} {x : Gh} {s : Sx} {σ : L2.St} {H : Hp}
theorem Ok.put (k : Ok T x s σ H) (i : Nat) {v : V} {d : D} (r : Rep T x.io x.G v d) : Ok T x (s.put i d) (σ.set i (some v)) H := by
  refine ⟨k.bx, by simpa [Sx.put] using k.len, fun j e q => ?_, fun j ys q => ?_, fun j l ys zs c q1 q2 q3 q4 => ?_, fun j q => ?_, k.od.of (.refl _) (.refl _) (fun j ks ds e => ⟨(set_od_sh e).2, List.getElem?_set_ne (set_od_sh e).1⟩) fun _ _ e u => ⟨e, u⟩⟩
  · have q : (s.env.set i (.sh d))[j]? = some (.sh e) := q
    by_cases hj : i = j
    · subst hj
      have hl : i < s.env.length := by
        have h1 := (List.getElem?_eq_some_iff.mp q).1
        simpa using h1
      rw [List.getElem?_set_self hl] at q
      cases q
      exact ⟨v, List.getElem?_set_self (by rw [← k.len]; exact hl), r⟩
    · rw [List.getElem?_set_ne hj] at q ⊢
      exact k.sh j e q
  · have q : (s.env.set i (.sh d))[j]? = some (.ow ys) := q
    by_cases hj : i = j
    · subst hj
      have hl : i < s.env.length := by
        have h1 := (List.getElem?_eq_some_iff.mp q).1
        simpa using h1
      rw [List.getElem?_set_self hl] at q
      cases q
    · rw [List.getElem?_set_ne hj] at q ⊢
      exact k.ow j ys q
  · have q1 : (s.env.set i (.sh d))[j]? = some (.ow ys) := q1
    have q2 : (s.env.set i (.sh d))[l]? = some (.ow zs) := q2
    have hj : i ≠ j := by
      rintro rfl
      have hl : i < s.env.length := by simpa using (List.getElem?_eq_some_iff.mp q1).1
      rw [List.getElem?_set_self hl] at q1; cases q1
    have hk : i ≠ l := by
      rintro rfl
      have hl : i < s.env.length := by simpa using (List.getElem?_eq_some_iff.mp q2).1
      rw [List.getElem?_set_self hl] at q2; cases q2
    rw [List.getElem?_set_ne hj] at q1 q3
    rw [List.getElem?_set_ne hk] at q2 q4
    exact k.owi j l ys zs c q1 q2 q3 q4
  · have q : (s.env.set i (.sh d))[j]? = some .th := q
    have hj : i ≠ j := by
      rintro rfl
      have hl : i < s.env.length := by simpa using (List.getElem?_eq_some_iff.mp q).1
      rw [List.getElem?_set_self hl] at q; cases q
    rw [List.getElem?_set_ne hj] at q ⊢
    exact k.th j q
variable {X : Cx} {pos : Pos}
theorem dg_name {i : Nat} {y : Str} (hN : X.N.Nodup) (hi : X.N[i]? = some y) (hx : Loc X.env.scope y) (hf : X.fn y = true ∨ X.env.scope.names.lookup y = some .local := by first | exact .inl rfl | exact .inr rfl | assumption) : PG X (.Name y pos) (gD T (tgN i)) :=
  PG.imp (pg_name hN hi hx hf) fun v σ H Q ⟨x, s, s', d, k, r, e, h⟩ => by
    cases e
    refine h _ (k.put i r) (by simp) fun j hj => ?_
    rw [List.getElem?_set_ne (fun z => hj (by rw [← z]; exact List.mem_singleton.mpr rfl))]
theorem dgs_nil : PGs X [] (gDs T tgsNil) := PGs.imp pgs_nil fun vs σ H Q ⟨x, s, s', ds, k, r, e, h⟩ => by
  cases r with
  | nil => cases e; exact ⟨rfl, h σ k rfl fun _ _ => rfl⟩
  | cons a b => cases e
theorem dgs_cons {e : Expr} {es : List Expr} {t : Tg} {u : Tgs} (h1 : PG X e (gD T t)) (h2 : PGs X es (gDs T u))
    (hs : (assignEach (e :: es) X.env).map (·.2) = assign e X.env :: (assignEach es X.env).map (·.2) := by rfl) : PGs X (e :: es) (gDs T (tgsCons t u)) :=
  PGs.imp (pgs_cons h1 h2 hs) fun vs σ H Q ⟨x, s, s', ds, k, r, e, h⟩ => by
    cases r with
    | nil => cases e
    | @cons v vr d dr a b =>
      have e : ((t.run d s).bind fun s' => u.run dr s') = some s' := e
      cases e1 : t.run d s with
      | none => rw [e1] at e; cases e
      | some s1 =>
        rw [e1] at e
        refine ⟨v, vr, rfl, x, s, s1, d, k, a, e1, fun σ1 k1 l1 f1 => ⟨x, s1, s', dr, k1, b, e, fun σ2 k2 l2 f2 => h σ2 k2 (l2.trans l1) fun j hj => ?_⟩⟩
        have hj' := fun z => hj (List.mem_append.mpr z)
        rw [f2 j fun z => hj' (.inr z), f1 j fun z => hj' (.inl z)]
theorem dg_tup {es : List Expr} {kk : Nat} {u : Tgs} {n : Nat} (hK : X.K = T.K) (hc : X.calm = true) (h : PGs X es (gDs T u)) (hn : (assignEach es X.env).length = n := by rfl) (hl : ∀ ds s s', u.run ds s = some s' → ds.length = n)
    (hst : (assignEach es X.env).findIdx? (·.1) = none := by rfl) : PG X (.Tuple es kk pos) (gD T (tgT u)) :=
  PG.imp (pg_tup hc h hn hst) fun v σ H Q ⟨x, s, s', d, k, r, e, q⟩ => by
    cases r with
    | tup sq rs =>
      have e : u.run _ s = some s' := e
      refine ⟨_, _, rfl, ?_, ?_, ⟨x, s, s', _, k, rs, e, q⟩⟩
      · rw [hK]; exact k.bx.sub.sqT sq
      · rw [rs.length]; exact hl _ _ _ e
    | _ => cases e
end

/-! ### statements -/
def Fin (T : Tx) (W : WX) (E : Ends) (x : Gh) (H : Hp) (r : RS) : Prop := match r with
  | .nx s' => ∀ x' σ' H', Ok T x' s' σ' H' → Stp x H x' H' → E.nx σ' H'
  | .bk s' => ∀ x' σ' H', Ok T x' s' σ' H' → Stp x H x' H' → E.bk σ' H'
  | .ct s' => ∀ x' σ' H', Ok T x' s' σ' H' → Stp x H x' H' → E.ct σ' H'
  | .rt d sto => ∀ x' v H', Bx T x' sto H' → Stp x H x' H' → Rep T x'.io x'.G v d → E.rt v H'
  | .ro xs sto => ∀ x' a H', Bx T x' sto H' → Stp x H x' H' → Own T x' ⟨[], sto⟩ [] H' a xs → E.rt (.ref a) H'
  | .exc c ns vs sto => ∀ σ', XP T W x σ' H c ns vs sto
  | .bad => False
theorem Fin.back {T : Tx} {W : WX} {E : Ends} {x y : Gh} {H H1 : Hp} {r : RS} (h : Fin T W E x H r) (st : Stp x H y H1) : Fin T W E y H1 r := by
  cases r with
  | nx s' => exact fun x' σ' H' k q => h x' σ' H' k (st.trans q)
  | bk s' => exact fun x' σ' H' k q => h x' σ' H' k (st.trans q)
  | ct s' => exact fun x' σ' H' k q => h x' σ' H' k (st.trans q)
  | rt d sto => exact fun x' v H' b q r => h x' v H' b (st.trans q) r
  | ro xs sto => exact fun x' a H' b q r => h x' a H' b (st.trans q) r
  | exc c ns vs sto => exact fun σ' => (h σ').back st
  | bad => exact h
theorem tS_def {T : Tx} {W : WX} {m : MS} {E : Ends} {σ : L2.St} {H : Hp} : tS T W m E σ H = ∃ (x : Gh) (s : Sx), Ok T x s σ H ∧ Fin T W E x H (m s) := rfl
def sNx : MS := fun s => .nx s
def sSeq (m n : MS) : MS := fun s => match m s with
  | .nx s' => n s'
  | r => r
/-- an expression, then a statement's rest -/
def sBind {α : Type} (m : M α) (f : α → MS) : MS := fun s => match m s with
  | .ok a s' => f a s'
  | .exc c ns vs sto => .exc c ns vs sto
  | .bad => .bad
def sIf (c : M Bool) (m n : MS) : MS := sBind c fun b => if b = true then m else n
def sDrop (m : M D) : MS := sBind m fun _ => sNx
def sRet (m : M D) : MS := sBind m fun d s => .rt d s.sto
def sRetF (m : M (List D)) : MS := sBind m fun d s => .ro d s.sto
def sRetN : MS := fun s => .rt .non s.sto
def sSet (i : Nat) (m : M D) : MS := sBind m fun d s => .nx (s.put i d)
def Sx.own (s : Sx) (i : Nat) (xs : List D) : Sx := { s with env := s.env.set i (.ow xs) }
def sOwn (i : Nat) (m : M (List D)) : MS := sBind m fun xs s => .nx (s.own i xs)
def sAsg (t : Tg) (m : M D) : MS := sBind m fun d s => match t.run d s with
  | some s' => .nx s'
  | none => .bad
def sBk : MS := fun s => .bk s
def sCt : MS := fun s => .ct s
section
variable {T : Tx} {W : WX} {X : Cx} {st : Stmt} {rest : List Stmt} {e : Expr} {m n : MS} {ma : M D} {mb : M Bool} {ml : M (List D)} {pos : Pos}
theorem dss_nil : PSs X [] (tS T W sNx) := PSs.imp pss_nil fun E σ H ⟨x, s, k, h⟩ => h x σ H k (.refl _ _)
theorem tS_seq {E : Ends} {σ : L2.St} {H : Hp} (h : tS T W (sSeq m n) E σ H) : tSeq (tS T W m) (tS T W n) E σ H := by
  obtain ⟨x, s, k, h⟩ := h
  refine ⟨x, s, k, ?_⟩
  have h : Fin T W E x H (sSeq m n s) := h
  unfold sSeq at h
  cases e : m s with
  | nx s' => rw [e] at h; exact fun x' σ' H' k' q => ⟨x', s', k', h.back q⟩
  | bk s' => rw [e] at h; exact h
  | ct s' => rw [e] at h; exact h
  | rt d sto => rw [e] at h; exact h
  | ro xs sto => rw [e] at h; exact h
  | exc c ns vs sto => rw [e] at h; exact h
  | bad => rw [e] at h; exact h
theorem dss_cons (h1 : PS X st (tS T W m)) (h2 : PSs X rest (tS T W n)) : PSs X (st :: rest) (tS T W (sSeq m n)) := PSs.imp (pss_cons h1 h2) fun _ _ _ h => tS_seq h
theorem dss_one (h1 : PS X st (tS T W m)) : PSs X [st] (tS T W m) := pss_one h1
/-- an expression's reading within a statement's -/
theorem tD_s {f : D → MS} {E : Ends} {σ : L2.St} {H : Hp} {P : VK} {x : Gh} {s : Sx} (k : Ok T x s σ H) (h : Fin T W E x H (sBind ma f s))
    (next : ∀ d s' x' v H', Ok T x' s' σ H' → Stp x H x' H' → Rep T x'.io x'.G v d → Fin T W E x' H' (f d s') → P v H') : tD T W ma σ H P := by
  refine ⟨x, s, k, ?_⟩
  unfold sBind at h
  cases e : ma s with
  | ok d s' => rw [e] at h; exact fun x' v H' k' st r => next d s' x' v H' k' st r (h.back st)
  | exc c ns vs sto => rw [e] at h; exact h σ
  | bad => rw [e] at h; exact h
theorem tF_s {f : List D → MS} {E : Ends} {σ : L2.St} {H : Hp} {P : VK} {x : Gh} {s : Sx} (k : Ok T x s σ H) (h : Fin T W E x H (sBind ml f s))
    (next : ∀ d s' x' a H', Ok T x' s' σ H' → Own T x' s' σ H' a d → Fin T W E x' H' (f d s') → P (.ref a) H') : tF T W ml σ H P := by
  refine ⟨x, s, k, ?_⟩
  unfold sBind at h
  cases e : ml s with
  | ok d s' => rw [e] at h; exact fun x' v H' k' st r => next d s' x' v H' k' r (h.back st)
  | exc c ns vs sto => rw [e] at h; exact h σ
  | bad => rw [e] at h; exact h
theorem tB_s {f : Bool → MS} {E : Ends} {σ : L2.St} {H : Hp} {P : Bool → Hp → Prop} {x : Gh} {s : Sx} (k : Ok T x s σ H) (h : Fin T W E x H (sBind mb f s))
    (next : ∀ b s' x' H', Ok T x' s' σ H' → Fin T W E x' H' (f b s') → P b H') : tB T W mb σ H P := by
  refine ⟨x, s, k, ?_⟩
  unfold sBind at h
  cases e : mb s with
  | ok d s' => rw [e] at h; exact fun x' H' k' st => next d s' x' H' k' (h.back st)
  | exc c ns vs sto => rw [e] at h; exact h σ
  | bad => rw [e] at h; exact h
theorem ds_pass : PS X (.Pass pos) (tS T W sNx) := PS.imp ps_pass fun E σ H ⟨x, s, k, h⟩ => h x σ H k (.refl _ _)
theorem ds_break : PS X (.Break pos) (tS T W sBk) := PS.imp ps_break fun E σ H ⟨x, s, k, h⟩ => h x σ H k (.refl _ _)
theorem ds_continue : PS X (.Continue pos) (tS T W sCt) := PS.imp ps_continue fun E σ H ⟨x, s, k, h⟩ => h x σ H k (.refl _ _)
theorem ds_expr (he : PE X e (tD T W ma)) (hs : swapsWith e none pos.line X.env = pure false := by rfl) : PS X (.Expr e pos) (tS T W (sDrop ma)) :=
  PS.imp (ps_expr he hs) fun E σ H ⟨x, s, k, h⟩ => tD_s k h fun d s' x' v H' k' _ _ f => f x' σ H' k' (.refl _ _)
theorem ds_ret (he : PE X e (tD T W ma)) : PS X (.Return (some e) pos) (tS T W (sRet ma)) :=
  PS.imp (ps_ret he) fun E σ H ⟨x, s, k, h⟩ => tD_s k h fun d s' x' v H' k' _ r f => f x' v H' k'.bx (.refl _ _) r
theorem ds_retF (he : PE X e (tF T W ml)) : PS X (.Return (some e) pos) (tS T W (sRetF ml)) :=
  PS.imp (ps_ret he) fun E σ H ⟨x, s, k, h⟩ => tF_s k h fun d s' x' a H' k' o f => f x' a H' k'.bx (.refl _ _) ⟨o.u, o.l, o.b, fun i ys z => by simp at z⟩
theorem ds_retN : PS X (.Return none pos) (tS T W sRetN) := PS.imp ps_retN fun E σ H ⟨x, s, k, h⟩ => h x .non H k.bx (.refl _ _) .non
theorem ds_if {c : Expr} {a b : List Stmt} (hc : PT X c (tB T W mb)) (ha : PSs X a (tS T W m)) (hb : PSs X b (tS T W n)) : PS X (.If c a b pos) (tS T W (sIf mb m n)) :=
  PS.imp (ps_if hc ha hb) fun E σ H ⟨x, s, k, h⟩ => tB_s k h fun c s' x' H' k' f => by
    cases c with
    | true => rw [if_pos rfl]; exact ⟨x', s', k', f⟩
    | false => rw [if_neg Bool.false_ne_true]; exact ⟨x', s', k', f⟩
theorem ds_set {i : Nat} {y : Str} {pos' : Pos} (hN : X.N.Nodup) (hi : X.N[i]? = some y) (hx : Loc X.env.scope y) (he : PE X e (tD T W ma)) (hs : swapsWith e (some (.Name y pos')) pos.line X.env = pure false := by rfl) (hf : X.fn y = true ∨ X.env.scope.names.lookup y = some .local := by first | exact .inl rfl | exact .inr rfl | assumption) :
    PS X (.Assign [.Name y pos'] e pos) (tS T W (sSet i ma)) :=
  PS.imp (ps_set hN hi hx he hs hf) fun E σ H ⟨x, s, k, h⟩ => tD_s k h fun d s' x' v H' k' _ r f => f x' _ H' (k'.put i r) (.refl _ _)
theorem Ok.put_own {x : Gh} {s : Sx} {σ : L2.St} {H : Hp} (k : Ok T x s σ H) (i : Nat) {a : Addr} {xs : List D} (o : Own T x s σ H a xs) : Ok T x (s.own i xs) (σ.set i (some (.ref a))) H := by
  refine ⟨k.bx, by simpa [Sx.own] using k.len, fun j e q => ?_, fun j ys q => ?_, fun j l ys zs c q1 q2 q3 q4 => ?_, fun j q => ?_, k.od.of (.refl _) (.refl _) (fun j ks ds e => ⟨(set_od_ow e).2, List.getElem?_set_ne (set_od_ow e).1⟩) fun _ _ e u => ⟨e, u⟩⟩
  · have q : (s.env.set i (.ow xs))[j]? = some (.sh e) := q
    by_cases hj : i = j
    · subst hj
      have hl : i < s.env.length := by simpa using (List.getElem?_eq_some_iff.mp q).1
      rw [List.getElem?_set_self hl] at q
      cases q
    · rw [List.getElem?_set_ne hj] at q ⊢
      exact k.sh j e q
  · have q : (s.env.set i (.ow xs))[j]? = some (.ow ys) := q
    by_cases hj : i = j
    · subst hj
      have hl : i < s.env.length := by simpa using (List.getElem?_eq_some_iff.mp q).1
      rw [List.getElem?_set_self hl] at q
      cases q
      obtain ⟨vs, h1, h2⟩ := o.l
      exact ⟨a, vs, List.getElem?_set_self (by rw [← k.len]; exact hl), h1, h2, o.u, o.b⟩
    · rw [List.getElem?_set_ne hj] at q ⊢
      exact k.ow j ys q
  · have q1 : (s.env.set i (.ow xs))[j]? = some (.ow ys) := q1
    have q2 : (s.env.set i (.ow xs))[l]? = some (.ow zs) := q2
    have big : ∀ {j : Nat} {ys : List D}, (s.env.set i (.ow xs))[j]? = some (.ow ys) → j < s.env.length := fun q => by simpa using (List.getElem?_eq_some_iff.mp q).1
    by_cases hj : i = j
    · subst hj
      by_cases hk : i = l
      · exact hk
      · rw [List.getElem?_set_self (by rw [← k.len]; exact big q1)] at q3
        rw [List.getElem?_set_ne hk] at q2 q4
        cases q3
        exact absurd q4 (o.o l zs q2)
    · rw [List.getElem?_set_ne hj] at q1 q3
      by_cases hk : i = l
      · subst hk
        rw [List.getElem?_set_self (by rw [← k.len]; exact big q2)] at q4
        cases q4
        exact absurd q3 (o.o j ys q1)
      · rw [List.getElem?_set_ne hk] at q2 q4
        exact k.owi j l ys zs c q1 q2 q3 q4
  · have q : (s.env.set i (.ow xs))[j]? = some .th := q
    have hj : i ≠ j := by
      rintro rfl
      have hl : i < s.env.length := by simpa using (List.getElem?_eq_some_iff.mp q).1
      rw [List.getElem?_set_self hl] at q; cases q
    rw [List.getElem?_set_ne hj] at q ⊢
    exact k.th j q
theorem ds_own {i : Nat} {y : Str} {pos' : Pos} (hN : X.N.Nodup) (hi : X.N[i]? = some y) (hx : Loc X.env.scope y) (he : PE X e (tF T W ml)) (hs : swapsWith e (some (.Name y pos')) pos.line X.env = pure false := by rfl) (hf : X.fn y = true ∨ X.env.scope.names.lookup y = some .local := by first | exact .inl rfl | exact .inr rfl | assumption) :
    PS X (.Assign [.Name y pos'] e pos) (tS T W (sOwn i ml)) :=
  PS.imp (ps_set hN hi hx he hs hf) fun E σ H ⟨x, s, k, h⟩ => tF_s k h fun d s' x' v H' k' o f => f x' _ H' (k'.put_own i o) (.refl _ _)
theorem ds_asg {tg : Expr} {t : Tg} (he : PE X e (tD T W ma)) (hg : PG X tg (gD T t)) (hs : swapsWithSole [tg] e pos.line X.env = pure false := by rfl) (hw : swappedStores [tg] e X.env = pure none := by rfl)
    (h1 : (assignEach [tg] X.env).map (·.2) = [assign tg X.env] := by rfl) : PS X (.Assign [tg] e pos) (tS T W (sAsg t ma)) :=
  PS.imp (ps_asg he hg hs hw h1) fun E σ H ⟨x, s, k, h⟩ => tD_s k h fun d s' x' v H' k' _ r f => by
    cases q : t.run d s' with
    | none => rw [q] at f; exact f.elim
    | some s2 => rw [q] at f; exact ⟨x', s', s2, d, k', r, q, fun σ' k2 _ _ => f x' σ' H' k2 (.refl _ _)⟩
end
end Ev

/-! E3: what is one's own changed, boxes; loops; comprehensions; calls of defs. -/
namespace Ev
open PySem PySem.Spec L2
/-! ### lists of one's own are written -/
section
variable {T : Tx} {x : Gh} {s : Sx} {σ : L2.St} {H : Hp}
theorem Ok.write (k : Ok T x s σ H) {i : Nat} {a : Addr} {xs ys : List D} {us : List V} (e : s.env[i]? = some (.ow xs)) (ea : σ[i]? = some (some (.ref a))) (r : Reps T x.io x.G us ys) :
    Ok T x (s.own i ys) σ (upd H a (.lst us)) ∧ Stp x H x (upd H a (.lst us)) := by
  obtain ⟨c, vs, h1, h2, r0, u, nb⟩ := k.ow i xs e
  have ec : c = a := by
    have z : some (some (V.ref c)) = some (some (V.ref a)) := h1.symm.trans ea
    injection z with z
    injection z with z
    injection z
  subst ec
  have hi : i < s.env.length := (List.getElem?_eq_some_iff.mp e).1
  refine ⟨⟨⟨k.bx.n, fun j zs q => ?_, k.bx.inU, k.bx.inj, fun b o q => ?_, k.bx.off, fun b q => ?_, fun p hp => ⟨(k.bx.tab p hp).1, tabS_lst h2 (k.bx.tab p hp).2⟩, k.bx.lo⟩, by simpa [Sx.own] using k.len, fun j d q => ?_, fun j zs q => ?_, fun j l ys' zs' b q1 q2 q3 q4 => ?_, fun j q => ?_, k.od.of (.refl _) (.refl _) (fun j ks ds e => ⟨(set_od_ow e).2, rfl⟩) fun b kvs e u => ⟨by rw [upd_ne (fun z => by subst z; rw [h2] at e; cases e)]; exact e, u⟩⟩, ⟨.refl _, .refl _, fun b o q n => ?_, fun _ _ q => .inl q, fun _ q => .inl q, fun b q => ?_⟩⟩
  · obtain ⟨ws, h3, h4⟩ := k.bx.at_ j zs q
    exact ⟨ws, by rw [upd_ne (fun z => nb j (List.getElem?_eq_some_iff.mp q).1 z.symm)]; exact h3, h4⟩
  · rw [upd_ne (fun z => by subst z; exact k.bx.off b o q u)]
    exact k.bx.sub b o q
  · by_cases hb : b = c
    · subst hb; exact ⟨_, upd_same⟩
    · rw [upd_ne hb]; exact k.bx.trk b q
  · have q : (s.env.set i (.ow ys))[j]? = some (.sh d) := q
    by_cases hj : i = j
    · subst hj; rw [List.getElem?_set_self hi] at q; cases q
    · rw [List.getElem?_set_ne hj] at q; exact k.sh j d q
  · have q : (s.env.set i (.ow ys))[j]? = some (.ow zs) := q
    by_cases hj : i = j
    · subst hj
      rw [List.getElem?_set_self hi] at q
      cases q
      exact ⟨c, us, h1, upd_same, r, u, nb⟩
    · rw [List.getElem?_set_ne hj] at q
      obtain ⟨b, ws, g1, g2, g3⟩ := k.ow j zs q
      have hbc : b ≠ c := fun z => by
        subst z
        exact hj (k.owi i j xs zs b e q h1 g1)
      exact ⟨b, ws, g1, by rw [upd_ne hbc]; exact g2, g3⟩
  · have q1 : (s.env.set i (.ow ys))[j]? = some (.ow ys') := q1
    have q2 : (s.env.set i (.ow ys))[l]? = some (.ow zs') := q2
    have back : ∀ {j : Nat} {ys' : List D}, (s.env.set i (.ow ys))[j]? = some (.ow ys') → ∃ zs, s.env[j]? = some (.ow zs) := fun {j ys'} q => by
      by_cases hj : i = j
      · subst hj; exact ⟨xs, e⟩
      · rw [List.getElem?_set_ne hj] at q; exact ⟨ys', q⟩
    obtain ⟨z1, w1⟩ := back q1
    obtain ⟨z2, w2⟩ := back q2
    exact k.owi j l z1 z2 b w1 w2 q3 q4
  · have q : (s.env.set i (.ow ys))[j]? = some .th := q
    have hj : i ≠ j := by rintro rfl; rw [List.getElem?_set_self hi] at q; cases q
    rw [List.getElem?_set_ne hj] at q
    exact k.th j q
  · rw [upd_ne (fun z => by subst z; exact n u)]
    exact q
  · by_cases hb : b = c
    · subst hb; rw [upd_same] at q; cases q
    · rw [upd_ne hb] at q; exact q
/-- a box is written -/
theorem Ok.writeB (k : Ok T x s σ H) {n : Nat} {xs ys : List D} {us : List V} (e : s.sto[n]? = some xs) (r : Reps T x.io x.G us ys) :
    Ok T x { s with sto := s.sto.set n ys } σ (upd H (x.io.f n) (.lst us)) ∧ Stp x H x (upd H (x.io.f n) (.lst us)) := by
  have hn : n < s.sto.length := (List.getElem?_eq_some_iff.mp e).1
  have u := k.bx.inU n hn
  obtain ⟨vs0, hb0, _⟩ := k.bx.at_ n xs e
  refine ⟨⟨⟨by simpa using k.bx.n, fun j zs q => ?_, fun i hi => k.bx.inU i (by simpa using hi), fun i j hi hj => k.bx.inj i j (by simpa using hi) (by simpa using hj), fun b o q => ?_, k.bx.off, fun b q => ?_, fun p hp => ⟨(k.bx.tab p hp).1, tabS_lst hb0 (k.bx.tab p hp).2⟩, k.bx.lo⟩, k.len, k.sh, fun j zs q => ?_, k.owi, k.th, k.od.of (.refl _) (.refl _) (fun j ks ds e => ⟨e, rfl⟩) fun b kvs e u => ⟨by rw [upd_ne (fun z => by subst z; rw [hb0] at e; cases e)]; exact e, u⟩⟩, ⟨.refl _, .refl _, fun b o q n => ?_, fun _ _ q => .inl q, fun _ q => .inl q, fun b q => ?_⟩⟩
  · have q : (s.sto.set n ys)[j]? = some zs := q
    by_cases hj : n = j
    · subst hj
      rw [List.getElem?_set_self hn] at q
      cases q
      exact ⟨us, upd_same, r⟩
    · rw [List.getElem?_set_ne hj] at q
      obtain ⟨ws, h3, h4⟩ := k.bx.at_ j zs q
      exact ⟨ws, by rw [upd_ne (fun z => hj (k.bx.inj n j hn (List.getElem?_eq_some_iff.mp q).1 z.symm))]; exact h3, h4⟩
  · rw [upd_ne (fun z => by subst z; exact k.bx.off _ o q u)]
    exact k.bx.sub b o q
  · by_cases hb : b = x.io.f n
    · subst hb; exact ⟨_, upd_same⟩
    · rw [upd_ne hb]; exact k.bx.trk b q
  · obtain ⟨b, ws, g1, g2, g3, g4, g5⟩ := k.ow j zs q
    exact ⟨b, ws, g1, by rw [upd_ne (g5 n hn)]; exact g2, g3, g4, fun l hl => g5 l (by simpa using hl)⟩
  · rw [upd_ne (fun z => by subst z; exact n u)]
    exact q
  · by_cases hb : b = x.io.f n
    · subst hb; rw [upd_same] at q; cases q
    · rw [upd_ne hb] at q; exact q
/-- a list of one's own becomes a box, in slot i -/
theorem Ok.box (k : Ok T x s σ H) (i : Nat) {a : Addr} {xs : List D} (o : Own T x s σ H a xs) :
    ∃ x' : Gh, Ok T x' { env := s.env.set i (.sh (.box s.sto.length)), sto := s.sto ++ [xs] } (σ.set i (some (.ref a))) H ∧ Stp x H x' H := by
  have iole : x.io.Le ⟨fun j => if j = s.sto.length then a else x.io.f j, s.sto.length + 1⟩ := ⟨by rw [k.bx.n]; exact Nat.le_succ _, fun j hj => by
    rw [k.bx.n] at hj
    exact if_neg (Nat.ne_of_lt hj)⟩
  have old : ∀ j, j < s.sto.length → (if j = s.sto.length then a else x.io.f j) = x.io.f j := fun j hj => if_neg (Nat.ne_of_lt hj)
  refine ⟨⟨⟨fun j => if j = s.sto.length then a else x.io.f j, s.sto.length + 1⟩, x.G, x.U⟩, ?_, ⟨iole, .refl _, fun _ _ q _ => q, fun _ _ q => .inl q, fun _ q => .inl q, fun _ q => q⟩⟩
  have k0 : Ok T ⟨⟨fun j => if j = s.sto.length then a else x.io.f j, s.sto.length + 1⟩, x.G, x.U⟩ { env := s.env, sto := s.sto ++ [xs] } σ H := by
    refine ⟨⟨by simp, fun j ys q => ?_, fun j hj => ?_, fun j l hj hl q => ?_, k.bx.sub, k.bx.off, k.bx.trk, k.bx.tab, ⟨k.bx.lo.1.trans iole, k.bx.lo.2⟩⟩, k.len, fun j d q => ?_, fun j ys q => ?_, k.owi, k.th, k.od.of iole (.refl _) (fun _ _ _ e => ⟨e, rfl⟩) fun _ _ e u => ⟨e, u⟩⟩
    · have q : (s.sto ++ [xs])[j]? = some ys := q
      by_cases hj : j < s.sto.length
      · rw [List.getElem?_append_left hj] at q
        obtain ⟨vs, h1, h2⟩ := k.bx.at_ j ys q
        exact ⟨vs, by show H (if j = s.sto.length then a else x.io.f j) = _; rw [old j hj]; exact h1, h2.mono iole (.refl _)⟩
      · have hj2 : j = s.sto.length := by
          have := (List.getElem?_eq_some_iff.mp q).1
          simp at this
          omega
        subst hj2
        simp at q
        subst q
        obtain ⟨vs, h1, h2⟩ := o.l
        exact ⟨vs, by show H (if s.sto.length = s.sto.length then a else x.io.f s.sto.length) = _; rw [if_pos rfl]; exact h1, h2.mono iole (.refl _)⟩
    · show x.U (if j = s.sto.length then a else x.io.f j)
      by_cases hj2 : j = s.sto.length
      · rw [if_pos hj2]; exact o.u
      · rw [if_neg hj2]
        have hj : j < (s.sto ++ [xs]).length := hj
        simp at hj
        exact k.bx.inU j (by omega)
    · have hj : j < (s.sto ++ [xs]).length := hj
      have hl : l < (s.sto ++ [xs]).length := hl
      simp at hj hl
      have q : (if j = s.sto.length then a else x.io.f j) = (if l = s.sto.length then a else x.io.f l) := q
      by_cases h1 : j = s.sto.length
      · by_cases h2 : l = s.sto.length
        · omega
        · rw [if_pos h1, if_neg h2] at q
          exact absurd q (o.b l (by omega))
      · by_cases h2 : l = s.sto.length
        · rw [if_neg h1, if_pos h2] at q
          exact absurd q.symm (o.b j (by omega))
        · rw [if_neg h1, if_neg h2] at q
          exact k.bx.inj j l (by omega) (by omega) q
    · obtain ⟨v, h1, h2⟩ := k.sh j d q
      exact ⟨v, h1, h2.mono iole (.refl _)⟩
    · obtain ⟨b, vs, h1, h2, h3, h4, h5⟩ := k.ow j ys q
      refine ⟨b, vs, h1, h2, h3.mono iole (.refl _), h4, fun l hl => ?_⟩
      show b ≠ if l = s.sto.length then a else x.io.f l
      have hl : l < (s.sto ++ [xs]).length := hl
      simp at hl
      by_cases h6 : l = s.sto.length
      · rw [if_pos h6]
        intro z
        subst z
        exact o.o j ys q h1
      · rw [if_neg h6]; exact h5 l (by omega)
  exact k0.put i (by
    have h : Rep T ⟨fun j => if j = s.sto.length then a else x.io.f j, s.sto.length + 1⟩ x.G (.ref ((fun j => if j = s.sto.length then a else x.io.f j) s.sto.length)) (.box s.sto.length) := .box _ (Nat.lt_succ_self _)
    simpa using h)
/-! ### readings of names that are not shared by it -/
variable {W : WX} {X : Cx} {pos : Pos} {e : Expr} {ma mb mv : M D} {ml : M (List D)}
def slD (s : Sx) (i : Nat) : Option D := match s.env[i]? with
  | some (.sh d) => some d
  | some (.ow xs) => some (.lst xs)
  | _ => none
def D.flat : D → Bool
  | .non => true | .bl _ => true | .int _ => true | .str _ => true
  | _ => false
theorem Rep.flat {io io' : Io} {G G' : Hp} {v : V} {d : D} (r : Rep T io G v d) (h : d.flat = true) : Rep T io' G' v d := by
  cases r with
  | non => exact .non
  | bl b => exact .bl b
  | int i => exact .int i
  | str y => exact .str y
  | _ => cases h
/-- what stands in a slot, read for the moment: within a heap G1 between the shared one and the whole -/
theorem Ok.look (k : Ok T x s σ H) {i : Nat} {d : D} (e : slD s i = some d) : ∃ (v : V) (G1 : Hp), σ[i]? = some (some v) ∧ Le x.G G1 ∧ Le G1 H ∧ Rep T x.io G1 v d := by
  unfold slD at e
  cases q : s.env[i]? with
  | none => rw [q] at e; cases e
  | some sl =>
    rw [q] at e
    cases sl with
    | un => cases e
    | th => cases e
    | od ks ds => cases e
    | sh d' =>
      cases e
      obtain ⟨v, h1, h2⟩ := k.sh i d q
      exact ⟨v, x.G, h1, .refl _, k.bx.sub, h2⟩
    | ow xs =>
      cases e
      obtain ⟨a, vs, h1, h2, h3, h4, _⟩ := k.ow i xs q
      have gn : x.G a = none := by
        cases z : x.G a with
        | none => rfl
        | some o => exact absurd h4 (k.bx.off a o z)
      have le : Le x.G (upd x.G a (.lst vs)) := Le.upd gn
      refine ⟨_, upd x.G a (.lst vs), h1, le, fun c o z => ?_, .lst (.inl (.inl upd_same)) (h3.up le)⟩
      by_cases hc : c = a
      · subst hc; rw [upd_same] at z; cases z; exact h2
      · rw [upd_ne hc] at z; exact k.bx.sub c o z
/-- g(.. of a name ..), the answer flat -/
def mB1 (g : List D → Option D) (i : Nat) : M D := fun s => match slD s i with
  | some d => match g [d] with
    | some z => if z.flat = true then .ok z s else .bad
    | none => .bad
  | none => .bad
theorem tB1 {r : List V → Hp → VK → Prop} {g : List D → Option D} (p : PL T r g) {i : Nat} {Q : VK} (h : tD T W (mB1 g i) σ H Q) : tCB r (tCons (tVar i) tNil) σ H Q := by
  obtain ⟨x, s, k, h⟩ := h
  unfold mB1 at h
  cases e : slD s i with
  | none => rw [e] at h; exact h.elim
  | some d =>
    rw [e] at h
    cases e2 : g [d] with
    | none => simp only [e2] at h
    | some z =>
      simp only [e2] at h
      by_cases hf : z.flat = true
      · rw [if_pos hf] at h
        obtain ⟨v, G1, h1, l1, l2, r1⟩ := k.look e
        refine ⟨v, h1, p _ G1 [v] [d] z H Q (.one r1) l2 e2 fun G' v' H' gr r' => ?_⟩
        have g2 : Grow x.G H x.G H' := ⟨.refl _, gr.h, k.bx.sub.trans gr.h, fun _ _ q => .inl q⟩
        exact h _ v' H' (k.grow g2) g2.stp (r'.flat hf)
      · rw [if_neg hf] at h; exact h.elim
theorem de_biB {id : String} {r : List V → Hp → VK → Prop} {g : List D → Option D} {y z : Str} {p p2 : Pos} {i : Nat} (hc : CallR X (.builtin id) r) (pl : PL T r g) (hg : Gl X y) (hm : X.mg y = none) (hv : bootBuiltins y = some (.builtin id))
    (hN : X.N[i]? = some z) (hvis : Vis X.env.scope z) (hd : (z == ("__debug__" : Str)) = false := by decide) (hcd : (z == ("__classdict__" : Str)) = false := by decide) (hn : y ≠ "__name__" := by decide) (hdb : (y == ("__debug__" : Str)) = false := by decide) : PE X (.Call (.Name y p) [.Name z p2] [] pos) (tD T W (mB1 g i)) :=
  PE.imp (pe_callB hc hg hm hv (pa_cons (pe_var (pos := p2) (i := i) hN hvis hd hcd) pa_nil) hn hdb) fun _ _ _ h => tB1 pl h
/-- (name op e), the answer flat -/
def mB2 (g : D → D → Option D) (i : Nat) (mb : M D) : M D := fun s => match slD s i with
  | none => .bad
  | some _ => match mb s with
    | .ok b s' => match slD s' i with
      | some d => match g d b with
        | some z => if z.flat = true then .ok z s' else .bad
        | none => .bad
      | none => .bad
    | .exc c ns vs sto => .exc c ns vs sto
    | .bad => .bad
theorem tB2 {r : R2} {g : D → D → Option D} (p : P2 T r g) {i : Nat} {Q : VK} (h : tD T W (mB2 g i mb) σ H Q) : tOp r (tVar i) (tD T W mb) σ H Q := by
  obtain ⟨x, s, k, h⟩ := h
  unfold mB2 at h
  cases e0 : slD s i with
  | none => rw [e0] at h; exact h.elim
  | some d0 =>
    simp only [e0] at h
    obtain ⟨v0, _, h0, _⟩ := k.look e0
    refine ⟨v0, h0, x, s, k, ?_⟩
    cases eb : mb s with
    | exc c ns vs sto => rw [eb] at h; exact h
    | bad => rw [eb] at h; exact h
    | ok b s' =>
      simp only [eb] at h
      intro x' v' H' k' st rb
      cases e : slD s' i with
      | none => rw [e] at h; exact h.elim
      | some d =>
        simp only [e] at h
        cases e2 : g d b with
        | none => rw [e2] at h; exact h.elim
        | some z =>
          simp only [e2] at h
          by_cases hf : z.flat = true
          · rw [if_pos hf] at h
            obtain ⟨v, G1, h1, l1, l2, r1⟩ := k'.look e
            have ev : v = v0 := by
              have z : some (some v) = some (some v0) := h1.symm.trans h0
              injection z with z
              injection z
            subst ev
            refine p _ G1 v v' d b z H' Q r1 (rb.up l1) l2 e2 fun G' u' H2 gr r' => ?_
            have g2 : Grow x'.G H' x'.G H2 := ⟨.refl _, gr.h, k'.bx.sub.trans gr.h, fun _ _ q => .inl q⟩
            exact h _ u' H2 (k'.grow g2) (st.trans g2.stp) (r'.flat hf)
          · rw [if_neg hf] at h; exact h.elim
theorem de_cmpB {op : CmpOp} {r : R2} {g : D → D → Option D} {b : Expr} {z : Str} {p2 : Pos} {i : Nat} (ho : OpR X (compareOp op) r) (p : P2 T r g) (hN : X.N[i]? = some z) (hvis : Vis X.env.scope z) (hb : PE X b (tD T W mb)) (hm : behindInMarks op b = false)
    (hd : (z == ("__debug__" : Str)) = false := by decide) (hcd : (z == ("__classdict__" : Str)) = false := by decide) : PE X (.Compare (.Name z p2) [op] [b] pos) (tD T W (mB2 g i mb)) :=
  PE.imp (pe_cmpR ho (pe_var (pos := p2) (i := i) hN hvis hd hcd) hb hm) fun _ _ _ h => tB2 p h
/-- an item of a name's list -/
def itemsOf : D → Option (List D)
  | .lst xs => some xs
  | .tup xs => some xs
  | _ => none
def asI : D → Option Int
  | .int i => some i
  | _ => none
def mIxB (i : Nat) (mb : M D) : M D := fun s => match slD s i with
  | none => .bad
  | some _ => match mb s with
    | .ok (.int j) s' => match (slD s' i).bind itemsOf with
      | some xs => match atI xs j with
        | some z => .ok z s'
        | none => .bad
      | none => .bad
    | .ok _ _ => .bad
    | .exc c ns vs sto => .exc c ns vs sto
    | .bad => .bad
theorem atI_rep {io : Io} {G : Hp} {vs : List V} {ds : List D} {j : Int} {z : D} (r : Reps T io G vs ds) (h : atI ds j = some z) : ∃ v, atI vs j = some v ∧ Rep T io G v z := by
  unfold atI at h ⊢
  rw [r.length]
  cases e : ixN ds.length j with
  | none => rw [e] at h; cases h
  | some n =>
    rw [e] at h
    obtain ⟨v, h1, h2⟩ := r.get (i := n) h
    exact ⟨v, h1, h2⟩
/-- a slot's list: its items are shared -/
theorem Ok.items (k : Ok T x s σ H) {i : Nat} {xs : List D} (e : (slD s i).bind itemsOf = some xs) :
    ∃ (a : Addr) (vs : List V), σ[i]? = some (some (.ref a)) ∧ (SqL T.K H a vs ∨ SqT T.K H a vs) ∧ Reps T x.io x.G vs xs := by
  unfold slD at e
  cases q : s.env[i]? with
  | none => rw [q] at e; cases e
  | some sl =>
    rw [q] at e
    cases sl with
    | un => cases e
    | th => cases e
    | od ks ds => cases e
    | sh d' =>
      obtain ⟨v, h1, h2⟩ := k.sh i d' q
      cases h2 with
      | lst sq rs => cases e; exact ⟨_, _, h1, .inl (k.bx.sub.sqL sq), rs⟩
      | tup sq rs => cases e; exact ⟨_, _, h1, .inr (k.bx.sub.sqT sq), rs⟩
      | _ => cases e
    | ow ys =>
      cases e
      obtain ⟨a, vs, h1, h2, h3, h4, _⟩ := k.ow i xs q
      exact ⟨a, vs, h1, .inl (SqL.of h2), h3⟩
theorem de_ixB {b : Expr} {z : Str} {p2 : Pos} {i : Nat} (hK : X.K = T.K) (hN : X.N[i]? = some z) (hvis : Vis X.env.scope z) (hb : PE X b (tD T W mb)) (hs : PlainIx b)
    (hd : (z == ("__debug__" : Str)) = false := by decide) (hcd : (z == ("__classdict__" : Str)) = false := by decide) : PE X (.Subscript (.Name z p2) b pos) (tD T W (mIxB i mb)) :=
  PE.imp (pe_ix ix_seq (pe_var (pos := p2) (i := i) hN hvis hd hcd) hb hs) fun σ H Q ⟨x, s, k, h⟩ => by
    unfold mIxB at h
    cases e0 : slD s i with
    | none => rw [e0] at h; exact h.elim
    | some d0 =>
      simp only [e0] at h
      obtain ⟨v0, _, h0, _⟩ := k.look e0
      refine ⟨v0, h0, x, s, k, ?_⟩
      cases eb : mb s with
      | exc c ns vs sto => rw [eb] at h; exact h
      | bad => rw [eb] at h; exact h
      | ok b s' =>
        simp only [eb] at h
        intro x' v' H' k' st rb
        cases rb with
        | int j =>
          simp only at h
          cases e : (slD s' i).bind itemsOf with
          | none => rw [e] at h; exact h.elim
          | some xs =>
            simp only [e] at h
            cases e2 : atI xs j with
            | none => rw [e2] at h; exact h.elim
            | some z =>
              simp only [e2] at h
              obtain ⟨a, vs, h1, h2, h3⟩ := k'.items e
              obtain ⟨v, h4, h5⟩ := atI_rep h3 e2
              have ev : v0 = .ref a := by
                have z : some (some v0) = some (some (V.ref a)) := h0.symm.trans h1
                injection z with z
                injection z
              subst ev
              have q := h x' v H' k' st h5
              rcases h2 with h2 | h2
              · exact .inl ⟨a, vs, j, v, rfl, rfl, by rw [hK]; exact h2, h4, q⟩
              · exact .inr (.inl ⟨a, vs, j, v, rfl, rfl, by rw [hK]; exact h2, h4, q⟩)
        | _ => exact h.elim
/-- x.append(e), x a name of a list of one's own -/
def sApp (i : Nat) (ma : M D) : MS := fun s => match s.env[i]? with
  | some (.ow _) => sBind ma (fun d s' => match s'.env[i]? with
    | some (.ow xs) => if xs.length < sizeLine then .nx (s'.own i (xs ++ [d])) else .bad
    | _ => .bad) s
  | _ => .bad
theorem ds_app {z : Str} {i : Nat} {p1 p2 p3 : Pos} (hK : X.K = T.K) (hN : X.N[i]? = some z) (hvis : Vis X.env.scope z) (he : PE X e (tD T W ma)) (hsw : swapsWith (.Call (.Attribute (.Name z p1) "append" p2) [e] [] p3) none pos.line X.env = pure false := by rfl)
    (hfew : ((backTo p3 (starEach [e] X.env)).all (fun x => !x.1) && (backToKw p3 (keywordEach [] X.env)).all (fun x => x.1.isSome)
      && decide ([e].length + ([] : List Keyword).length + (if ([] : List Keyword).isEmpty then 0 else 1) < 30)) = true := by rfl)
    (hline : (p2.endLine == p3.line) = true := by rfl) (hs : starEach [e] X.env = (false, eval e X.env) :: starEach [] X.env := by rfl) (hplain : (backTo p3 (starEach [] X.env)).any (·.1) = false := by rfl)
    (hbase : attributeBase (.Name z p1) "append" X.env (eval (.Name z p1) X.env) = eval (.Name z p1) X.env := by rfl)
    (hd : (z == ("__debug__" : Str)) = false := by decide) (hcd : (z == ("__classdict__" : Str)) = false := by decide) : PS X (.Expr (.Call (.Attribute (.Name z p1) "append" p2) [e] [] p3) pos) (tS T W (sApp i ma)) :=
  PS.imp (ps_expr (pe_bm PySem.F.plainAttrs_list PySem.F.slot_list_append PySem.F.type_list_append mt_append (pe_var (pos := p1) (i := i) hN hvis hd hcd) (pa_cons he pa_nil hs) hbase hfew hline hs hplain) hsw) fun E σ H ⟨x, s, k, h⟩ => by
    have h : Fin T W E x H (sApp i ma s) := h
    unfold sApp at h
    cases q : s.env[i]? with
    | none => rw [q] at h; exact h.elim
    | some sl =>
      cases sl with
      | un => rw [q] at h; exact h.elim
      | th => rw [q] at h; exact h.elim
      | od ks ds => rw [q] at h; exact h.elim
      | sh d => rw [q] at h; exact h.elim
      | ow xs0 =>
        simp only [q] at h
        obtain ⟨a, vs0, h1, h2, h3, h4, h5⟩ := k.ow i xs0 q
        refine ⟨_, h1, .inl ⟨rfl, vs0, by rw [hK]; exact SqL.of h2⟩, ?_⟩
        refine tD_s k h fun d s' x' v H' k' _ r f => ?_
        cases q' : s'.env[i]? with
        | none => rw [q'] at f; exact f.elim
        | some sl =>
          cases sl with
          | un => rw [q'] at f; exact f.elim
          | th => rw [q'] at f; exact f.elim
          | od ks ds => rw [q'] at f; exact f.elim
          | sh d => rw [q'] at f; exact f.elim
          | ow xs =>
            simp only [q'] at f
            by_cases hl : xs.length < sizeLine
            · rw [if_pos hl] at f
              obtain ⟨a', vs, g1, g2, g3, g4, g5⟩ := k'.ow i xs q'
              have ea : a' = a := by
                have z : some (some (V.ref a')) = some (some (V.ref a)) := g1.symm.trans h1
                injection z with z
                injection z with z
                injection z
              subst ea
              obtain ⟨k2, st2⟩ := k'.write q' g1 (g3.append (.one r))
              exact ⟨_, vs, v, rfl, rfl, g2, by rw [g3.length]; exact hl, f x' σ _ k2 st2⟩
            · rw [if_neg hl] at f; exact f.elim
/-- x[e] = v: a box, or a name's own list -/
def sSetB (mo mi mv : M D) : MS := sBind mv fun v => sBind mo fun o => sBind mi fun j s => match o, j with
  | .box n, .int j => match s.sto[n]? with
    | some xs => match ixN xs.length j with
      | some m => .nx { s with sto := s.sto.set n (xs.set m v) }
      | none => .bad
    | none => .bad
  | _, _ => .bad
theorem ds_setB {o i' value : Expr} {tpos : Pos} {mo mi : M D} (hv : PE X value (tD T W mv)) (ho : PE X o (tD T W mo)) (hi : PE X i' (tD T W mi))
    (hs : swapsWithSole [.Subscript o i' tpos] value pos.line X.env = pure false := by rfl) (hw : swappedStores [.Subscript o i' tpos] value X.env = pure none := by rfl)
    (h1 : (assignEach [.Subscript o i' tpos] X.env).map (·.2) = [assign (.Subscript o i' tpos) X.env] := by rfl)
    (hass : ∀ v, assign (.Subscript o i' tpos) X.env v = (do
      let ov ← holding [v] (eval o X.env)
      let iv ← holding [v, ov] (eval i' X.env)
      standAt tpos
      holding [v, ov, iv] (setItem ov iv v)
      release [v, ov, iv] []) := by intro _; rfl) : PS X (.Assign [.Subscript o i' tpos] value pos) (tS T W (sSetB mo mi mv)) :=
  PS.imp (ps_asg hv (pg_sub ho hi set_list hass) hs hw h1) fun E σ H ⟨x, s, k, h⟩ => tD_s k h fun d s1 x1 v H1 k1 _ r1 f1 => tD_s k1 f1 fun od s2 x2 ov H2 k2 st2 r2 f2 => tD_s k2 f2 fun j s3 x3 iv H3 k3 st3 r3 f3 => by
    cases r2 with
    | box n hn =>
      cases r3 with
      | int j =>
        simp only at f3
        cases e : s3.sto[n]? with
        | none => rw [e] at f3; exact f3.elim
        | some xs =>
          simp only [e] at f3
          cases e2 : ixN xs.length j with
          | none => rw [e2] at f3; exact f3.elim
          | some m =>
            simp only [e2] at f3
            obtain ⟨vs, h3, h4⟩ := k3.bx.at_ n xs e
            have h5 : Reps T x3.io x3.G (vs.set m v) (xs.set m d) := h4.set ((r1.mono st2.io st2.le).mono st3.io st3.le) m
            obtain ⟨k4, st4⟩ := k3.writeB e h5
            have en : x3.io.f n = x2.io.f n := st3.io.2 n hn
            refine ⟨x2.io.f n, vs, j, m, rfl, rfl, by rw [← en]; exact h3, by rw [h4.length]; exact e2, ?_⟩
            rw [← en]
            exact f3 x3 σ _ k4 st4
      | _ => exact f3.elim
    | _ => exact f3.elim
/-- x[e] = v, x a name of a list of one's own -/
def sSetO (i : Nat) (mi mv : M D) : MS := sBind mv fun v s1 => match s1.env[i]? with
  | some (.ow _) => sBind mi (fun j s => match s.env[i]?, j with
    | some (.ow xs), .int j => match ixN xs.length j with
      | some m => .nx (s.own i (xs.set m v))
      | none => .bad
    | _, _ => .bad) s1
  | _ => .bad
theorem ds_setO {i' value : Expr} {z : Str} {i : Nat} {p1 tpos : Pos} {mi : M D} (hN : X.N[i]? = some z) (hvis : Vis X.env.scope z) (hv : PE X value (tD T W mv)) (hi : PE X i' (tD T W mi))
    (hs : swapsWithSole [.Subscript (.Name z p1) i' tpos] value pos.line X.env = pure false := by rfl) (hw : swappedStores [.Subscript (.Name z p1) i' tpos] value X.env = pure none := by rfl)
    (h1 : (assignEach [.Subscript (.Name z p1) i' tpos] X.env).map (·.2) = [assign (.Subscript (.Name z p1) i' tpos) X.env] := by rfl)
    (hass : ∀ v, assign (.Subscript (.Name z p1) i' tpos) X.env v = (do
      let ov ← holding [v] (eval (.Name z p1) X.env)
      let iv ← holding [v, ov] (eval i' X.env)
      standAt tpos
      holding [v, ov, iv] (setItem ov iv v)
      release [v, ov, iv] []) := by intro _; rfl)
    (hd : (z == ("__debug__" : Str)) = false := by decide) (hcd : (z == ("__classdict__" : Str)) = false := by decide) : PS X (.Assign [.Subscript (.Name z p1) i' tpos] value pos) (tS T W (sSetO i mi mv)) :=
  PS.imp (ps_asg hv (pg_sub (pe_var (pos := p1) (i := i) hN hvis hd hcd) hi set_list hass) hs hw h1) fun E σ H ⟨x, s, k, h⟩ => tD_s k h fun d s1 x1 v H1 k1 _ r1 f1 => by
    cases q : s1.env[i]? with
    | none => rw [q] at f1; exact f1.elim
    | some sl =>
      cases sl with
      | un => rw [q] at f1; exact f1.elim
      | th => rw [q] at f1; exact f1.elim
      | od ks ds => rw [q] at f1; exact f1.elim
      | sh d => rw [q] at f1; exact f1.elim
      | ow xs0 =>
        simp only [q] at f1
        obtain ⟨a, vs0, h1, h2, h3, h4, h5⟩ := k1.ow i xs0 q
        refine ⟨_, h1, tD_s k1 f1 fun j s3 x3 iv H3 k3 st3 r3 f3 => ?_⟩
        cases q' : s3.env[i]? with
        | none => rw [q'] at f3; exact f3.elim
        | some sl =>
          cases sl with
          | un => rw [q'] at f3; exact f3.elim
          | th => rw [q'] at f3; exact f3.elim
          | od ks ds => rw [q'] at f3; exact f3.elim
          | sh d => rw [q'] at f3; exact f3.elim
          | ow xs =>
            cases r3 with
            | int j =>
              simp only [q'] at f3
              cases e2 : ixN xs.length j with
              | none => rw [e2] at f3; exact f3.elim
              | some m =>
                simp only [e2] at f3
                obtain ⟨a', vs, g1, g2, g3, g4, g5⟩ := k3.ow i xs q'
                have ea : a' = a := by
                  have z : some (some (V.ref a')) = some (some (V.ref a)) := g1.symm.trans h1
                  injection z with z
                  injection z with z
                  injection z
                subst ea
                obtain ⟨k4, st4⟩ := k3.write q' g1 (g3.set (r1.mono st3.io st3.le) m)
                exact ⟨a', vs, j, m, rfl, rfl, g2, by rw [g3.length]; exact e2, f3 x3 σ _ k4 st4⟩
            | _ => simp only [q'] at f3; exact f3.elim
/-- name = a list of one's own, a box from now on -/
def sBox (i : Nat) (ml : M (List D)) : MS := sBind ml fun xs s => .nx { env := s.env.set i (.sh (.box s.sto.length)), sto := s.sto ++ [xs] }
theorem ds_box {i : Nat} {y : Str} {pos' : Pos} (hN : X.N.Nodup) (hi : X.N[i]? = some y) (hx : Loc X.env.scope y) (he : PE X e (tF T W ml)) (hs : swapsWith e (some (.Name y pos')) pos.line X.env = pure false := by rfl) (hf : X.fn y = true ∨ X.env.scope.names.lookup y = some .local := by first | exact .inl rfl | exact .inr rfl | assumption) :
    PS X (.Assign [.Name y pos'] e pos) (tS T W (sBox i ml)) :=
  PS.imp (ps_set hN hi hx he hs hf) fun E σ H ⟨x, s, k, h⟩ => tF_s k h fun d s' x' v H' k' o f => by
    obtain ⟨x2, k2, st2⟩ := k'.box i o
    exact f x2 _ H' k2 st2
/-- o[i]: a list's, a tuple's, a text's item, or a box's -/
def gIx (a b : D) : Option D := match a, b with
  | .lst xs, .int j => atI xs j
  | .tup xs, .int j => atI xs j
  | .str z, .int j => if z.length ≤ sizeLine then (atI z.cps.toList j).map fun c => .str ⟨#[c]⟩ else none
  | _, _ => none
def ixPost (a b : D) (s : Sx) : R D := match a with
  | .box n => match b with
    | .int j => match s.sto[n]? with
      | some xs => match atI xs j with
        | some z => .ok z s
        | none => .bad
      | none => .bad
    | _ => .bad
  | a => match gIx a b with
    | some z => .ok z s
    | none => .bad
theorem ixPost_ne {a b : D} {s : Sx} (h : ∀ n, a ≠ .box n) : ixPost a b s = match gIx a b with
    | some z => .ok z s
    | none => .bad := by
  cases a <;> first | rfl | exact absurd rfl (h _)
def mIx (ma mb : M D) : M D := M.bind ma fun a => M.bind mb fun b => ixPost a b
theorem p_ix (hK : X.K = T.K) : P2 T (rIx X.K) gIx := fun io G v u d e z H Q r1 r2 le h q => by
  rw [hK]
  cases r2 with
  | int j =>
    cases r1 with
    | lst sq rs =>
      obtain ⟨v', h1, h2⟩ := atI_rep rs h
      exact .inl ⟨_, _, j, v', rfl, rfl, le.sqL sq, h1, q G v' H (.refl le) h2⟩
    | tup sq rs =>
      obtain ⟨v', h1, h2⟩ := atI_rep rs h
      exact .inr (.inl ⟨_, _, j, v', rfl, rfl, le.sqT sq, h1, q G v' H (.refl le) h2⟩)
    | str y =>
      unfold gIx at h
      simp only at h
      by_cases hl : y.length ≤ sizeLine
      · rw [if_pos hl] at h
        cases e : atI y.cps.toList j with
        | none => rw [e] at h; cases h
        | some c =>
          rw [e] at h
          cases h
          exact .inr (.inr ⟨y, j, c, rfl, rfl, hl, e, q G _ H (.refl le) (.str _)⟩)
      · rw [if_neg hl] at h; cases h
    | _ => cases h
  | _ => cases r1 <;> cases h
theorem de_ixA {a b : Expr} (hK : X.K = T.K) (ha : PE X a (tD T W ma)) (hb : PE X b (tD T W mb)) (hs : PlainIx b) : PE X (.Subscript a b pos) (tD T W (mIx ma mb)) :=
  PE.imp (pe_ix ix_seq ha hb hs) fun σ H Q ⟨x, s, k, h⟩ => by
    refine ⟨x, s, k, ?_⟩
    unfold mIx M.bind at h
    cases e1 : ma s with
    | exc c ns vs sto => rw [e1] at h; exact h
    | bad => rw [e1] at h; exact h
    | ok a s1 =>
      rw [e1] at h
      intro x1 v1 H1 k1 st1 r1
      refine ⟨x1, s1, k1, ?_⟩
      simp only at h
      cases e2 : mb s1 with
      | exc c ns vs sto => rw [e2] at h; exact h.back st1
      | bad => rw [e2] at h; exact h
      | ok b s2 =>
        rw [e2] at h
        intro x2 v2 H2 k2 st2 r2
        simp only at h
        have pure_ : ∀ z, gIx a b = some z → (∀ x' v H', Ok T x' s2 σ H' → Stp x H x' H' → Rep T x'.io x'.G v z → Q v H') → rIx X.K v1 v2 H2 Q := fun z hz hq =>
          p_ix hK _ x2.G v1 v2 a b z H2 Q (r1.mono st2.io st2.le) r2 k2.bx.sub hz fun G' v' H3 gr r3 => hq _ v' H3 (k2.grow gr) (st1.trans (st2.trans gr.stp)) r3
        by_cases hb : ∃ n, a = .box n
        · obtain ⟨n, rfl⟩ := hb
          cases r2 with
          | int j =>
            unfold ixPost at h
            simp only at h
            cases e3 : s2.sto[n]? with
            | none => rw [e3] at h; exact h.elim
            | some xs =>
              simp only [e3] at h
              cases e4 : atI xs j with
              | none => rw [e4] at h; exact h.elim
              | some z =>
                simp only [e4] at h
                cases r1 with
                | box _ hn =>
                  obtain ⟨vs, g1, g2⟩ := k2.bx.at_ n xs e3
                  obtain ⟨v, g3, g4⟩ := atI_rep g2 e4
                  rw [st2.io.2 n hn] at g1
                  exact .inl ⟨_, vs, j, v, rfl, rfl, SqL.of g1, g3, h x2 v H2 k2 (st1.trans st2) g4⟩
          | _ => exact h.elim
        · rw [ixPost_ne fun n z => hb ⟨n, z⟩] at h
          cases e3 : gIx a b with
          | some z => rw [e3] at h; exact pure_ z e3 h
          | none => rw [e3] at h; exact h.elim
end
end Ev

/-! E4: what is walked, loops, comprehensions, calls of defs. -/
namespace Ev
open PySem PySem.Spec L2
/-- the iterator J yields these data -/
structure Src (T : Tx) (io : Io) (G : Hp) (J : It) (ds : List D) : Prop where
  stop : ∀ i H, Le G H → ds.length = i → J.stop i H
  go : ∀ i H, Le G H → i < ds.length → J.go i H
  yld : ∀ (i : Nat) (H : Hp) (v : V) (H' G1 : Hp) (d : D), Le G G1 → Le G1 H → ds[i]? = some d → J.yld i H v H' → ∃ G', Grow G1 H G' H' ∧ Rep T io G' v d
def tI (T : Tx) (W : WX) (m : M (List D)) : TI := fun σ H R => ∃ (x : Gh) (s : Sx), Ok T x s σ H ∧ match m s with
  | .ok ds s' => ∀ x' J H', Ok T x' s' σ H' → Stp x H x' H' → Src T x'.io x'.G J ds → R J H'
  | .exc c ns vs sto => XP T W x σ H c ns vs sto
  | .bad => False
theorem PI.imp {X : Cx} {tg e : Expr} {t t' : TI} (h : PI X tg e t) (k : ∀ σ H Q, t' σ H Q → t σ H Q) : PI X tg e t' := ⟨fun pins s σ H R I q => h.run pins s σ H R I (k σ H R q)⟩
theorem PI.or {X : Cx} {tg e : Expr} {t t' : TI} (h : PI X tg e t) (h' : PI X tg e t') : PI X tg e (fun σ H Q => t σ H Q ∨ t' σ H Q) := ⟨fun pins s σ H R I q => q.elim (h.run pins s σ H R I) (h'.run pins s σ H R I)⟩
def mItems (m : M D) : M (List D) := M.bind m fun d => M.lift (itemsOf d)
section
variable {T : Tx} {W : WX} {X : Cx} {tg e : Expr} {ma : M D} {ml : M (List D)} {pos : Pos}
/-- over a list or a tuple -/
theorem di_seq (hK : X.K = T.K) (h : PE X e (tD T W ma)) : PI X tg e (tI T W (mItems ma)) :=
  PI.imp (PI.or (pi_list h) (pi_tup h)) fun σ H R ⟨x, s, k, q⟩ => by
    unfold mItems M.bind M.lift at q
    cases em : ma s with
    | exc c ns vs sto => rw [em] at q; exact .inl ⟨x, s, k, by rw [em]; exact q⟩
    | bad => rw [em] at q; exact q.elim
    | ok d s' =>
      rw [em] at q
      simp only at q
      cases d with
      | lst xs =>
        refine .inl ⟨x, s, k, ?_⟩
        rw [em]
        intro x' v H' k' st r
        cases r with
        | @lst a vs ds sq rs =>
          refine ⟨a, rfl, ⟨vs, by rw [hK]; exact k'.bx.sub.sqL sq⟩, q x' _ H' k' st ⟨fun i H1 le hi => ?_, fun i H1 le hi => ?_, fun i H1 v H2 G1 d le le1 hd hy => ?_⟩⟩
          · exact ⟨vs, by rw [hK]; exact le.sqL sq, by rw [rs.length]; first | exact hi | exact Nat.le_of_eq hi⟩
          · obtain ⟨v, h1, _⟩ := rs.get (List.getElem?_eq_getElem hi)
            exact ⟨vs, v, by rw [hK]; exact le.sqL sq, h1⟩
          · obtain ⟨rfl, h2⟩ := hy
            obtain ⟨v', h1, h3⟩ := rs.get hd
            have := h2 vs (by rw [hK]; exact (le.trans le1).sqL sq)
            rw [h1] at this
            cases this
            exact ⟨G1, .refl le1, h3.up le⟩
      | tup xs =>
        refine .inr ⟨x, s, k, ?_⟩
        rw [em]
        intro x' v H' k' st r
        cases r with
        | @tup a vs ds sq rs =>
          refine ⟨a, rfl, ⟨vs, by rw [hK]; exact k'.bx.sub.sqT sq⟩, q x' _ H' k' st ⟨fun i H1 le hi => ?_, fun i H1 le hi => ?_, fun i H1 v H2 G1 d le le1 hd hy => ?_⟩⟩
          · exact ⟨vs, by rw [hK]; exact le.sqT sq, by rw [rs.length]; first | exact hi | exact Nat.le_of_eq hi⟩
          · obtain ⟨v, h1, _⟩ := rs.get (List.getElem?_eq_getElem hi)
            exact ⟨vs, v, by rw [hK]; exact le.sqT sq, h1⟩
          · obtain ⟨rfl, h2⟩ := hy
            obtain ⟨v', h1, h3⟩ := rs.get hd
            have := h2 vs (by rw [hK]; exact (le.trans le1).sqT sq)
            rw [h1] at this
            cases this
            exact ⟨G1, .refl le1, h3.up le⟩
      | _ => exact q.elim
/-- range(n), range(a, b) -/
def rngL (lo : Int) (n : Nat) : List D := (List.range n).map fun (i : Nat) => D.int (lo + (i : Int))
theorem src_rng {io : Io} {G : Hp} (lo : Int) (n : Nat) : Src T io G (Itr lo n) (rngL lo n) := by
  have hl : (rngL lo n).length = n := by simp [rngL]
  refine ⟨fun i H _ hi => by rw [hl] at hi; exact Nat.le_of_eq hi, fun i H _ hi => by rw [hl] at hi; exact hi, fun i H v H' G1 d le le1 hd hy => ?_⟩
  obtain ⟨rfl, rfl⟩ := hy
  have hi : i < n := by
    have := (List.getElem?_eq_some_iff.mp hd).1
    rwa [hl] at this
  have : d = .int (lo + i) := by
    unfold rngL at hd
    rw [List.getElem?_map, List.getElem?_range hi] at hd
    exact (Option.some.inj hd).symm
  subst this
  exact ⟨G1, .refl le1, .int _⟩
def gRng1 (ds : List D) : Option (List D) := match ds with
  | [.int j] => if -(2 ^ 62) ≤ j ∧ j < 2 ^ 62 then some (rngL 0 j.toNat) else none
  | _ => none
def gRng2 (ds : List D) : Option (List D) := match ds with
  | [.int i, .int j] => if (-(2 ^ 62) ≤ i ∧ i < 2 ^ 62) ∧ -(2 ^ 62) ≤ j ∧ j < 2 ^ 62 then some (rngL i (j - i).toNat) else none
  | _ => none
def mRng (g : List D → Option (List D)) (m : M (List D)) : M (List D) := M.bind m fun ds => M.lift (g ds)
theorem di_rng1 {a : Expr} {p : Pos} (hg : Gl X "range") (hm : X.mg "range" = none) (ha : PA X [a] (tDs T W ml)) (hs : starEach [a] X.env = [(false, eval a X.env)] := by rfl) : PI X tg (.Call (.Name "range" p) [a] [] pos) (tI T W (mRng gRng1 ml)) :=
  PI.imp (pi_range1 hg hm ha hs) fun σ H R ⟨x, s, k, q⟩ => by
    refine ⟨x, s, k, ?_⟩
    unfold mRng M.bind M.lift at q
    cases em : ml s with
    | exc c ns vs sto => rw [em] at q; exact q
    | bad => rw [em] at q; exact q
    | ok ds s' =>
      rw [em] at q
      simp only at q
      intro x' vs H' k' st r
      cases e2 : gRng1 ds with
      | none => rw [e2] at q; exact q.elim
      | some l =>
        simp only [e2] at q
        unfold gRng1 at e2
        split at e2
        · rename_i j
          split at e2
          · rename_i hj
            cases e2
            cases r with
            | cons r1 r2 =>
              cases r1
              cases r2
              exact ⟨j, rfl, hj.1, hj.2, q x' _ H' k' st (src_rng _ _)⟩
          · cases e2
        · cases e2
theorem di_rng2 {a b : Expr} {p : Pos} (hg : Gl X "range") (hm : X.mg "range" = none) (ha : PA X [a, b] (tDs T W ml)) (hs : starEach [a, b] X.env = [(false, eval a X.env), (false, eval b X.env)] := by rfl) (hs2 : starEach [b] X.env = [(false, eval b X.env)] := by rfl) : PI X tg (.Call (.Name "range" p) [a, b] [] pos) (tI T W (mRng gRng2 ml)) :=
  PI.imp (pi_range2 hg hm ha hs hs2) fun σ H R ⟨x, s, k, q⟩ => by
    refine ⟨x, s, k, ?_⟩
    unfold mRng M.bind M.lift at q
    cases em : ml s with
    | exc c ns vs sto => rw [em] at q; exact q
    | bad => rw [em] at q; exact q
    | ok ds s' =>
      rw [em] at q
      simp only at q
      intro x' vs H' k' st r
      cases e2 : gRng2 ds with
      | none => rw [e2] at q; exact q.elim
      | some l =>
        simp only [e2] at q
        unfold gRng2 at e2
        split at e2
        · rename_i i j
          split at e2
          · rename_i hj
            cases e2
            cases r with
            | cons r1 r2 =>
              cases r1
              cases r2 with
              | cons r3 r4 =>
                cases r3
                cases r4
                exact ⟨i, j, rfl, ⟨hj.1.1, hj.1.2, hj.2.1, hj.2.2⟩, q x' _ H' k' st (src_rng _ _)⟩
          · cases e2
        · cases e2
end
/-! ### for -/
def forL (t : Tg) (body : MS) : List D → MS
  | [] => fun s => .nx s
  | d :: ds => fun s => match t.run d s with
    | none => .bad
    | some s1 => match body s1 with
      | .nx s2 => forL t body ds s2
      | .ct s2 => forL t body ds s2
      | .bk s2 => .nx s2
      | r => r
def sFor (mi : M (List D)) (t : Tg) (body : MS) : MS := sBind mi fun ds => forL t body ds
section
variable {T : Tx} {W : WX} {X : Cx} {tg iter : Expr} {mi : M (List D)} {t : Tg} {mb : MS} {body : List Stmt} {pos : Pos}
theorem ds_for (hp : PassesOwn (model X.prog X.w) X.A X.env X.xe) (hc : X.calm = true) (hi : PI X tg iter (tI T W mi)) (hg : PG X tg (gD T t)) (hb : PSs X body (tS T W mb))
    (hs : ∀ x, foldedSetIterable iter X.env x = pure x := by intro _; rfl) : PS X (.For tg iter body [] pos) (tS T W (sFor mi t mb)) :=
  PS.imp (ps_for hp hc hi hg hb hs) fun E σ H ⟨x, s, k, h⟩ => by
    refine ⟨x, s, k, ?_⟩
    have h : Fin T W E x H (sFor mi t mb s) := h
    unfold sFor sBind at h
    cases em : mi s with
    | exc c ns vs sto => rw [em] at h; exact h σ
    | bad => rw [em] at h; exact h
    | ok ds s' =>
      rw [em] at h
      intro x0 J H0 k0 st0 src
      have h0 := h.back st0
      refine ⟨fun i m σ H => ∃ (x : Gh) (s : Sx), Ok T x s σ H ∧ Le x0.G x.G ∧ x0.io.Le x.io ∧ i ≤ ds.length ∧ m = ds.length - i ∧ Fin T W E x H (forL t mb (ds.drop i) s), ⟨ds.length, x0, s', k0, .refl _, .refl _, Nat.zero_le _, rfl, h0⟩, ?_⟩
      rintro i m σ1 H1 ⟨x1, s1, k1, le1, io1, hi1, rfl, f1⟩
      by_cases hlt : i < ds.length
      · refine .inr ⟨src.go i H1 (le1.trans k1.bx.sub) hlt, fun σ' H' => ∃ (x : Gh) (s : Sx), Ok T x s σ' H' ∧ Le x0.G x.G ∧ x0.io.Le x.io ∧ Fin T W E x H' (forL t mb (ds.drop (i + 1)) s), fun σ' H' ⟨x2, s2, k2, l2, o2, f2⟩ => ⟨ds.length - (i + 1), by omega, x2, s2, k2, l2, o2, hlt, rfl, f2⟩, fun v H2 hy => ?_⟩
        obtain ⟨G2, gr, r⟩ := src.yld i H1 v H2 x1.G ds[i] le1 k1.bx.sub (List.getElem?_eq_getElem hlt) hy
        have k2 := k1.grow gr
        have f2 := f1.back gr.stp
        rw [List.drop_eq_getElem_cons hlt] at f2
        unfold forL at f2
        cases e2 : t.run ds[i] s1 with
        | none => rw [e2] at f2; exact f2.elim
        | some s2 =>
          simp only [e2] at f2
          refine ⟨_, s1, s2, ds[i], k2, r.mono io1 (.refl _), e2, fun σ2 k3 _ _ => ⟨_, s2, k3, ?_⟩⟩
          have lg : Le x0.G G2 := le1.trans gr.g
          cases e3 : mb s2 with
          | nx s3 => rw [e3] at f2; exact fun x' σ' H' k' st => ⟨x', s3, k', lg.trans st.le, io1.trans st.io, f2.back st⟩
          | ct s3 => rw [e3] at f2; exact fun x' σ' H' k' st => ⟨x', s3, k', lg.trans st.le, io1.trans st.io, f2.back st⟩
          | bk s3 => rw [e3] at f2; exact f2
          | rt d sto => rw [e3] at f2; exact f2
          | ro xs sto => rw [e3] at f2; exact f2
          | exc c ns vs sto => rw [e3] at f2; exact f2
          | bad => rw [e3] at f2; exact f2
      · have e : i = ds.length := by omega
        subst e
        refine .inl ⟨src.stop _ H1 (le1.trans k1.bx.sub) rfl, ?_⟩
        rw [List.drop_length] at f1
        exact f1 x1 σ1 H1 k1 (.refl _ _)
end
/-! ### while, by fuel -/
def whL (c : M Bool) (body : MS) : Nat → MS
  | 0 => fun _ => .bad
  | n + 1 => sBind c fun b s => if b = true then (match body s with
      | .nx s2 => whL c body n s2
      | .ct s2 => whL c body n s2
      | .bk s2 => .nx s2
      | r => r) else .nx s
section
variable {T : Tx} {W : WX} {X : Cx} {mc : M Bool} {mb : MS} {body : List Stmt} {c : Expr} {pos : Pos}
theorem ds_while (n : Nat) (hp : PassesOwn (model X.prog X.w) X.A X.env X.xe) (hc : PT X c (tB T W mc)) (hb : PSs X body (tS T W mb)) : PS X (.While c body [] pos) (tS T W (whL mc mb n)) :=
  PS.imp (ps_while hp hc hb) fun E σ H ⟨x, s, k, h⟩ => by
    refine ⟨fun m σ H => ∃ (x : Gh) (s : Sx), Ok T x s σ H ∧ Fin T W E x H (whL mc mb m s), ⟨n, x, s, k, h⟩, ?_⟩
    rintro m σ1 H1 ⟨x1, s1, k1, f1⟩
    cases m with
    | zero => exact f1.elim
    | succ m =>
      unfold whL at f1
      refine tB_s k1 f1 fun b s2 x2 H2 k2 f2 => ?_
      cases b with
      | false => rw [if_neg Bool.false_ne_true] at f2 ⊢; exact f2 x2 σ1 H2 k2 (.refl _ _)
      | true =>
        rw [if_pos rfl] at f2 ⊢
        refine ⟨fun σ' H' => ∃ (x : Gh) (s : Sx), Ok T x s σ' H' ∧ Fin T W E x H' (whL mc mb m s), fun σ' H' q => ⟨m, Nat.lt_succ_self _, q⟩, x2, s2, k2, ?_⟩
        cases e3 : mb s2 with
        | nx s3 => rw [e3] at f2; exact fun x' σ' H' k' st => ⟨x', s3, k', f2.back st⟩
        | ct s3 => rw [e3] at f2; exact fun x' σ' H' k' st => ⟨x', s3, k', f2.back st⟩
        | bk s3 => rw [e3] at f2; exact f2
        | rt d sto => rw [e3] at f2; exact f2
        | ro xs sto => rw [e3] at f2; exact f2
        | exc c ns vs sto => rw [e3] at f2; exact f2
        | bad => rw [e3] at f2; exact f2
end
/-! ### calls of defs -/
abbrev Fn := List D → List (List D) → RS
def FinF (T : Tx) (Q : VK) (E : XK) (x : Gh) (H : Hp) (r : RS) : Prop := match r with
  | .rt d sto => ∀ x' v H', Bx T x' sto H' → Stp x H x' H' → Rep T x'.io x'.G v d → Q v H'
  | .ro xs sto => ∀ x' a H', Bx T x' sto H' → Stp x H x' H' → Own T x' ⟨[], sto⟩ [] H' a xs → Q (.ref a) H'
  | .exc c ns vs sto => ∀ (x' : Gh) (dd : Addr) (us : List V) (H' : Hp), Bx T x' sto H' → Stp x H x' H' → XD T x' H H' dd ns us vs → E (.ref (T.ca c)) (some dd) H'
  | _ => False
/-- the promise of a def: n arguments -/
def spD (T : Tx) (n : Nat) (F : Fn) : Sp := fun vs H Q E => ∃ (x : Gh) (ds : List D) (sto : List (List D)), Bx T x sto H ∧ (∀ a, x.U a → (∃ i, i < sto.length ∧ a = x.io.f i) ∨ ∃ p ∈ T.tb, a = p.1) ∧ Reps T x.io x.G vs ds ∧ vs.length = n ∧ FinF T Q E x H (F ds sto)
/-- a body's end as a def's -/
def bodyF (n : Nat) (m : MS) : Fn := fun ds sto => match m ⟨ds.map .sh ++ List.replicate (n - ds.length) .un, sto⟩ with
  | .nx s => .rt .non s.sto
  | .bk _ => .bad
  | .ct _ => .bad
  | r => r
/-- a def's promise, where nothing is being shown (repr's guards) -/
structure FnG (P : Program) (w : World) (K : PySem.W.Frag) (mg : Str → Option Value) (base : Heap) (CX : CXT) (k : Nat) (f : Addr) (fd : FuncData) (ps : List Str) (sp : Sp) : Prop where
  len : ∀ vs H Q E, sp vs H Q E → vs.length = ps.length
  run : ∀ (A : Around) (outer : List Env) (s : Shared) (H : Hp) (args : Args) (us : List Value) (vs : List V) (Q : VK) (E : XK), A.guards = some [] → Room k A → Env0 P w K mg base A outer s H →
    BindsTo s fd args (ps.zip us) → Vals vs us → sp vs H Q E → codeAny (model P w) A (.call (.ref f) args) (CR CX outer P w H s Q E) s
/-- a def of the text -/
structure DefOk (T : Tx) (P : Program) (mg : Str → Option Value) (base : Heap) (k : Nat) (dd : He.DefD) (ps : List Str) (F : Fn) : Prop where
  ex : ∃ (f : Addr) (fd : FuncData), mg dd.name = some (.ref f) ∧ FunD T.K dd.name dd.qual dd.params dd.body dd.scope (dd.dvs T.K) (dd.kws T.K) f fd ∧ (dd.dfl = [] → Binds T.K fd ps []) ∧ FnG P T.w T.K mg base (L2.CX P T.w) k f fd ps (spD T ps.length F)
def mCall (F : Fn) (ml : M (List D)) : M D := M.bind ml fun ds s => match F ds s.sto with
  | .rt d sto => .ok d { s with sto := sto }
  | .ro xs sto => .ok (.lst xs) { s with sto := sto }
  | .exc c ns vs sto => .exc c ns vs sto
  | _ => .bad
/-- a call whose answer is a list of one's own -/
def mCallF (F : Fn) (ml : M (List D)) : M (List D) := M.bind ml fun ds s => match F ds s.sto with
  | .ro xs sto => .ok xs { s with sto := sto }
  | .exc c ns vs sto => .exc c ns vs sto
  | _ => .bad
section
variable {T : Tx}
/-- what a callee may change: boxes, tables -/
def bdU (T : Tx) (x : Gh) (s : Sx) (a : Addr) : Prop := (∃ i, i < s.sto.length ∧ a = x.io.f i) ∨ ∃ p ∈ T.tb, a = p.1
theorem bd_U {x : Gh} {s : Sx} {H : Hp} (b : Bx T x s.sto H) {a : Addr} (h : bdU T x s a) : x.U a := by
  rcases h with ⟨i, hi, rfl⟩ | ⟨p, hp, rfl⟩
  · exact b.inU i hi
  · exact (b.tab p hp).1
theorem bd_not {x : Gh} {s : Sx} {H : Hp} {sto : List (List D)} (b : Bx T x sto H) {a : Addr} {vs : List V} (h : H a = some (.lst vs)) (n : ∀ j, j < s.sto.length → a ≠ x.io.f j) : ¬ bdU T x s a := by
  rintro (⟨i, hi, z⟩ | ⟨p, hp, rfl⟩)
  · exact n i hi z
  · obtain ⟨ps, e, _⟩ := (b.tab p hp).2
    rw [h] at e; cases e
theorem bd_notD {x : Gh} {s : Sx} {H : Hp} (b : Bx T x s.sto H) {a : Addr} {kvs : List (Key × V)} (h : H a = some (.dK kvs)) : ¬ bdU T x s a := by
  rintro (⟨i, hi, z⟩ | ⟨p, hp, rfl⟩)
  · obtain ⟨vs, e, _⟩ := b.at_ i _ (List.getElem?_eq_getElem hi)
    rw [← z, h] at e; cases e
  · obtain ⟨ps, e, _⟩ := (b.tab p hp).2
    rw [h] at e; cases e
theorem Ok.after {x y : Gh} {s : Sx} {σ : L2.St} {H H' : Hp} {sto : List (List D)} (k : Ok T x s σ H) (b : Bx T y sto H') (st : Stp ⟨x.io, x.G, bdU T x s⟩ H y H') :
    Ok T ⟨y.io, y.G, fun a => x.U a ∨ y.U a⟩ { s with sto := sto } σ H' ∧ Stp x H ⟨y.io, y.G, fun a => x.U a ∨ y.U a⟩ H' := by
  have io : x.io.Le y.io := st.io
  have le : Le x.G y.G := st.le
  have hln : s.sto.length ≤ sto.length := by rw [← k.bx.n, ← b.n]; exact io.1
  have keep : ∀ a o, H a = some o → ¬ bdU T x s a → H' a = some o := fun a o e n => st.fr a o e n
  have bY : ∀ a, bdU T x s a → y.U a := fun a h => by
    rcases h with ⟨i, hi, rfl⟩ | ⟨p, hp, rfl⟩
    · rw [← io.2 i (by rw [k.bx.n]; exact hi)]
      exact b.inU i (Nat.lt_of_lt_of_le hi hln)
    · exact (b.tab p hp).1
  have off : ∀ a o, y.G a = some o → ¬ (x.U a ∨ y.U a) := fun a o e z => by
    rcases z with z | z
    · rcases st.new a o e with q | q | q
      · exact k.bx.off a o q z
      · exact b.off _ o e (bY a q)
      · obtain ⟨o', z'⟩ := k.bx.trk a z
        rw [q] at z'; cases z'
    · exact b.off a o e z
  have trk : ∀ a, x.U a → ∃ o, H' a = some o := fun a u => by
    obtain ⟨o, e⟩ := k.bx.trk a u
    cases q : H' a with
    | some o' => exact ⟨o', rfl⟩
    | none => rw [st.th a q] at e; cases e
  refine ⟨⟨⟨b.n, b.at_, fun i hi => .inr (b.inU i hi), b.inj, b.sub, off, fun a u => u.elim (trk a) (b.trk a), fun p hp => ⟨.inr (b.tab p hp).1, (b.tab p hp).2⟩, b.lo⟩, k.len, fun i d e => ?_, fun i xs e => ?_, k.owi, k.th, k.od.of io le (fun _ _ _ e => ⟨e, rfl⟩) fun a kvs e u => ⟨keep a _ e (bd_notD k.bx e), .inl u⟩⟩, ⟨io, le, fun a o e n => keep a o e fun z => n (bd_U k.bx z), fun a o e => ?_, fun a u => ?_, st.th⟩⟩
  · obtain ⟨v, h1, h2⟩ := k.sh i d e
    exact ⟨v, h1, h2.mono io le⟩
  · obtain ⟨a, vs, h1, h2, h3, h4, h5⟩ := k.ow i xs e
    have nb := bd_not (s := s) k.bx h2 h5
    refine ⟨a, vs, h1, keep a _ h2 nb, h3.mono io le, .inl h4, fun j hj z => ?_⟩
    rcases st.un _ (b.inU j hj) with q | q
    · rw [← z] at q; exact nb q
    · rw [← z, h2] at q; cases q
  · rcases st.new a o e with q | q | q
    · exact .inl q
    · exact .inr (.inl (bd_U k.bx q))
    · exact .inr (.inr q)
  · rcases u with u | u
    · exact .inl u
    · rcases st.un a u with q | q
      · exact .inl (bd_U k.bx q)
      · exact .inr q
theorem Ok.afterOwn {x y : Gh} {s : Sx} {σ : L2.St} {H H' : Hp} {sto : List (List D)} {a : Addr} {xs : List D} (k : Ok T x s σ H) (b : Bx T y sto H') (st : Stp ⟨x.io, x.G, bdU T x s⟩ H y H')
    (o : Own T y ⟨[], sto⟩ [] H' a xs) : Own T ⟨y.io, y.G, fun a => x.U a ∨ y.U a⟩ { s with sto := sto } σ H' a xs := by
  refine ⟨.inr o.u, o.l, o.b, fun i ys e z => ?_⟩
  obtain ⟨c, vs, h1, h2, h3, h4, h5⟩ := k.ow i ys e
  rw [h1] at z
  injection z with z
  injection z with z
  injection z with z
  subst z
  rcases st.un c o.u with q | q
  · exact bd_not (s := s) k.bx h2 h5 q
  · rw [h2] at q; cases q
theorem bx_call {x : Gh} {s : Sx} {σ : L2.St} {H : Hp} (k : Ok T x s σ H) : Bx T ⟨x.io, x.G, bdU T x s⟩ s.sto H :=
  ⟨k.bx.n, k.bx.at_, fun i hi => .inl ⟨i, hi, rfl⟩, k.bx.inj, k.bx.sub, fun a o e z => k.bx.off a o e (bd_U k.bx z), fun a z => k.bx.trk a (bd_U k.bx z), fun p hp => ⟨.inr ⟨p, hp, rfl⟩, (k.bx.tab p hp).2⟩, k.bx.lo⟩
variable {W : WX} {X : Cx} {P : Program} {mg : Str → Option Value} {base : Heap} {dd : He.DefD} {ps : List Str} {F : Fn} {k0 : Nat} {e : Expr} {es : List Expr} {ml : M (List D)} {pos p : Pos}
/-- the promise's reading, from the caller -/
theorem call_read {x : Gh} {s : Sx} {σ : L2.St} {H : Hp} {vs : List V} {ds : List D} {Q : VK} {n : Nat} (k : Ok T x s σ H) (r : Reps T x.io x.G vs ds) (hn : vs.length = n)
    (h : match F ds s.sto with
      | .rt d sto => ∀ x' v H', Ok T x' { s with sto := sto } σ H' → Stp x H x' H' → Rep T x'.io x'.G v d → Q v H'
      | .ro xs sto => ∀ x' a H', Ok T x' { s with sto := sto } σ H' → Stp x H x' H' → Own T x' { s with sto := sto } σ H' a xs → Q (.ref a) H'
      | .exc c ns vs sto => XP T W x σ H c ns vs sto
      | _ => False) : spD T n F vs H Q (WE W σ) := by
  refine ⟨⟨x.io, x.G, bdU T x s⟩, ds, s.sto, bx_call k, fun _ z => z, r, hn, ?_⟩
  cases e : F ds s.sto with
  | rt d sto =>
    rw [e] at h
    intro x' v H' b st r'
    obtain ⟨k2, st2⟩ := k.after b st
    exact h _ v H' k2 st2 r'
  | ro xs sto =>
    rw [e] at h
    intro x' a H' b st o
    obtain ⟨k2, st2⟩ := k.after b st
    exact h _ a H' k2 st2 (k.afterOwn b st o)
  | exc c ns vs sto =>
    rw [e] at h
    intro x' dd us H' b st xd
    obtain ⟨k2, st2⟩ := k.after b st
    exact h _ dd us H' k2.bx st2 ⟨xd.at_, xd.hl, xd.rs, xd.new, fun u => by
      rcases u with u | u
      · obtain ⟨o, e⟩ := k.bx.trk dd u
        rw [xd.new] at e; cases e
      · exact xd.nu u, xd.ng⟩
  | nx _ => rw [e] at h; exact h.elim
  | bk _ => rw [e] at h; exact h.elim
  | ct _ => rw [e] at h; exact h.elim
  | bad => rw [e] at h; exact h.elim
theorem run_fnG {X : Cx} {CX : CXT} {k : Nat} {f : Addr} {fd : FuncData} {ps : List Str} {sp : Sp} {E : L2.St → XK} {pins : List (Addr × Obj)} {σ : L2.St} {H : Hp} {s : Shared} {Q : VK} {us : List Value} {vs : List V}
    (F : FnG X.prog X.w X.K X.mg X.base CX k f fd ps sp) (gd : X.A.guards = some []) (hr : Room k X.A) (hb : Binds X.K fd ps []) (hx : PassesAt CX X σ (E σ)) (I : L2.Inv X pins σ H s) (r : Vals vs us) (h : sp vs H Q (E σ)) :
    wpAny (model X.prog X.w) X.A (call (.ref f) us) (EP X pins σ Q) X.xe s := by
  have b := hb s us I.kIn (by rw [List.append_nil, ← r.length]; exact F.len _ _ _ _ h)
  rw [List.append_nil] at b
  refine wpAny_call (codeAny_mono (F.run X.A X.stack s H _ us vs Q (E σ) gd hr I.env0 b r h) fun q s' hq => ?_)
  match q, hq with
  | .error e, hq => exact hx pins H s e s' I hq
  | .ok (.ret u), hq => exact I.after hq
theorem pe_callG {X : Cx} {CX : CXT} {k : Nat} {f : Addr} {fd : FuncData} {ps : List Str} {sp : Sp} {E : L2.St → XK} {y : Str} {p pos : Pos} {e : Expr} {es : List Expr} {t : TA} (F : FnG X.prog X.w X.K X.mg X.base CX k f fd ps sp) (gd : X.A.guards = some []) (hr : Room k X.A) (hg : Gl X y) (hm : X.mg y = some (.ref f))
    (hk : PySem.W.keepIn X.K (.ref f) = true) (hb : Binds X.K fd ps []) (hx : ∀ σ, PassesAt CX X σ (E σ)) (ha : PA X (e :: es) t) (hdb : (y == ("__debug__" : Str)) = false) (he : starEach (e :: es) X.env = (false, eval e X.env) :: starEach es X.env) (hpl : (backTo pos (starEach es X.env)).any (·.1) = false) :
    PE X (.Call (.Name y p) (e :: es) [] pos) (tCallS sp E t) := ⟨fun pins s σ H Q I h => wpAny_Call_Name_kw (ld_glob I hg hm
  (PySem.W.callWith_K (h₀ := X.base) I.ok.mod.kin hk (thn (ha.run pos pins s σ H _ I h) fun us s1 ⟨vs, H1, I1, r, q⟩ => ⟨I1.kIn, run_fnG F gd hr hb (hx σ) I1 r q⟩) he hpl) hdb)⟩
theorem de_call (d : DefOk T X.prog X.mg X.base k0 dd ps F) (hK : X.K = T.K) (hw : X.w = T.w) (tk : Takes X W) (gd : X.A.guards = some []) (hr : Room k0 X.A) (hg : Gl X dd.name) (ha : PA X (e :: es) (tDs T W ml)) (hn : (e :: es).length = ps.length := by rfl)
    (hdb : (dd.name == ("__debug__" : Str)) = false := by decide) (h0 : dd.dfl = [] := by rfl) (he : starEach (e :: es) X.env = (false, eval e X.env) :: starEach es X.env := by rfl) (hpl : (backTo pos (starEach es X.env)).any (·.1) = false := by rfl)
    (hlen : ∀ s ds s', ml s = .ok ds s' → ds.length = ps.length) :
    PE X (.Call (.Name dd.name p) (e :: es) [] pos) (tD T W (mCall F ml)) := by
  obtain ⟨f, fd, hm, FU, hb, FO⟩ := d.ex
  have hb := hb h0
  have hk := FU.kp
  rw [← hK, ← hw] at FO
  rw [← hK] at hb hk
  refine PE.imp (pe_callG FO gd hr hg hm hk hb (fun σ => passAt tk σ) ha hdb he hpl) fun σ H Q ⟨x, s, k, h⟩ => ?_
  refine ⟨x, s, k, ?_⟩
  unfold mCall M.bind at h
  cases em : ml s with
  | exc c ns vs sto => rw [em] at h; exact h
  | bad => rw [em] at h; exact h
  | ok ds s' =>
    rw [em] at h
    simp only at h
    intro x' vs H' k' st r
    refine call_read k' r (by rw [r.length]; exact hlen s ds s' em) ?_
    cases e2 : F ds s'.sto with
    | rt d sto => rw [e2] at h; exact fun x2 v H2 k2 st2 r2 => h x2 v H2 k2 (st.trans st2) r2
    | ro xs sto =>
      rw [e2] at h
      intro x2 a H2 k2 st2 o
      obtain ⟨x3, k3, st3, r3⟩ := o.share k2
      exact h x3 _ H2 k3 (st.trans (st2.trans st3)) r3
    | exc c ns vs sto => rw [e2] at h; exact h.back st
    | nx _ => rw [e2] at h; exact h.elim
    | bk _ => rw [e2] at h; exact h.elim
    | ct _ => rw [e2] at h; exact h.elim
    | bad => rw [e2] at h; exact h.elim
theorem df_call (d : DefOk T X.prog X.mg X.base k0 dd ps F) (hK : X.K = T.K) (hw : X.w = T.w) (tk : Takes X W) (gd : X.A.guards = some []) (hr : Room k0 X.A) (hg : Gl X dd.name) (ha : PA X (e :: es) (tDs T W ml))
    (hdb : (dd.name == ("__debug__" : Str)) = false := by decide) (h0 : dd.dfl = [] := by rfl) (he : starEach (e :: es) X.env = (false, eval e X.env) :: starEach es X.env := by rfl) (hpl : (backTo pos (starEach es X.env)).any (·.1) = false := by rfl)
    (hlen : ∀ s ds s', ml s = .ok ds s' → ds.length = ps.length) :
    PE X (.Call (.Name dd.name p) (e :: es) [] pos) (tF T W (mCallF F ml)) := by
  obtain ⟨f, fd, hm, FU, hb, FO⟩ := d.ex
  have hb := hb h0
  have hk := FU.kp
  rw [← hK, ← hw] at FO
  rw [← hK] at hb hk
  refine PE.imp (pe_callG FO gd hr hg hm hk hb (fun σ => passAt tk σ) ha hdb he hpl) fun σ H Q ⟨x, s, k, h⟩ => ?_
  refine ⟨x, s, k, ?_⟩
  unfold mCallF M.bind at h
  cases em : ml s with
  | exc c ns vs sto => rw [em] at h; exact h
  | bad => rw [em] at h; exact h
  | ok ds s' =>
    rw [em] at h
    simp only at h
    intro x' vs H' k' st r
    refine call_read k' r (by rw [r.length]; exact hlen s ds s' em) ?_
    cases e2 : F ds s'.sto with
    | rt d sto => rw [e2] at h; exact h.elim
    | ro xs sto => rw [e2] at h; exact fun x2 a H2 k2 st2 o => h x2 a H2 k2 (st.trans st2) o
    | exc c ns vs sto => rw [e2] at h; exact h.back st
    | nx _ => rw [e2] at h; exact h.elim
    | bk _ => rw [e2] at h; exact h.elim
    | ct _ => rw [e2] at h; exact h.elim
    | bad => rw [e2] at h; exact h.elim
end
end Ev

/-! E5: comprehensions; a def by its body; the law's end. -/
namespace Ev
open PySem PySem.Spec L2
/-! ### how many -/
def Ar (n : Nat) (m : M (List D)) : Prop := ∀ s ds s', m s = .ok ds s' → ds.length = n
theorem ar_nil : Ar 0 mNil := fun s ds s' e => by
  unfold mNil M.pure at e
  cases e; rfl
theorem ar_cons {n : Nat} {m : M D} {r : M (List D)} (h : Ar n r) : Ar (n + 1) (mCons m r) := fun s ds s' e => by
  unfold mCons M.bind M.pure at e
  cases e1 : m s with
  | exc c ns vs sto => rw [e1] at e; cases e
  | bad => rw [e1] at e; cases e
  | ok d s1 =>
    rw [e1] at e
    simp only at e
    cases e2 : r s1 with
    | exc c ns vs sto => rw [e2] at e; cases e
    | bad => rw [e2] at e; cases e
    | ok l s2 =>
      rw [e2] at e
      cases e
      simp [h _ _ _ e2]
/-! ### comprehensions -/
def wipeE (l : List Sl) : List Nat → List Sl
  | [] => l
  | v :: vs => (wipeE l vs).set v .un
/-- none of these is a list of one's own -/
def noOw (l : List Sl) : List Nat → Bool
  | [] => true
  | v :: vs => (match l[v]? with | some (.ow _) => false | some (.od _ _) => false | _ => true) && noOw l vs
/-- the slots ws as in the old ones -/
def rest_ (old new : List Sl) (ws : List Nat) : List Sl := ws.foldr (fun v l => match old[v]? with
  | some x => l.set v x
  | none => l) new
def compL (t : Tg) (c : M Bool) (m : M D) (ws : List Nat) : List D → List D → Sx → Option (List D × Sx)
  | [], acc, s => some (acc, s)
  | d :: ds, acc, s => match t.run d { s with env := wipeE s.env ws } with
    | none => none
    | some s1 => match c s1 with
      | .ok true s2 => match m s2 with
        | .ok z s3 => if acc.length < sizeLine then compL t c m ws ds (acc ++ [z]) s3 else none
        | _ => none
      | .ok false s2 => compL t c m ws ds acc s2
      | _ => none
def mComp (mi : M (List D)) (t : Tg) (c : M Bool) (m : M D) (ws : List Nat) : M (List D) := M.bind mi fun ds s => if noOw s.env ws = true then
    (match compL t c m ws ds [] s with
    | some (acc, s') => .ok acc { s' with env := rest_ s.env s'.env ws }
    | none => .bad) else .bad
theorem wipeE_len (l : List Sl) : ∀ ws, (wipeE l ws).length = l.length
  | [] => rfl
  | v :: vs => by unfold wipeE; rw [List.length_set, wipeE_len l vs]
theorem wipeE_get {l : List Sl} {x : Sl} {i : Nat} : ∀ {ws : List Nat}, (wipeE l ws)[i]? = some x → x = .un ∨ (l[i]? = some x ∧ i ∉ ws)
  | [], h => .inr ⟨h, by simp⟩
  | v :: vs, h => by
    unfold wipeE at h
    by_cases hv : v = i
    · subst hv
      by_cases hl : v < (wipeE l vs).length
      · rw [List.getElem?_set_self hl] at h
        exact .inl (Option.some.inj h).symm
      · rw [List.getElem?_eq_none (by simpa using hl)] at h; cases h
    · rw [List.getElem?_set_ne hv] at h
      rcases wipeE_get h with z | ⟨z, n⟩
      · exact .inl z
      · exact .inr ⟨z, by simp only [List.mem_cons, not_or]; exact ⟨fun e => hv e.symm, n⟩⟩
theorem noOw_get {l : List Sl} {xs : List D} {i : Nat} : ∀ {ws : List Nat}, noOw l ws = true → i ∈ ws → l[i]? ≠ some (.ow xs)
  | [], _, h => by simp at h
  | v :: vs, h, hm => by
    unfold noOw at h
    rw [Bool.and_eq_true] at h
    rcases List.mem_cons.mp hm with e | hm
    · subst e
      intro z
      rw [z] at h
      exact absurd h.1 (by simp)
    · exact noOw_get h.2 hm
theorem noOw_getD {l : List Sl} {ks : List Key} {ds : List D} {i : Nat} : ∀ {ws : List Nat}, noOw l ws = true → i ∈ ws → l[i]? ≠ some (.od ks ds)
  | [], _, h => by simp at h
  | v :: vs, h, hm => by
    unfold noOw at h
    rw [Bool.and_eq_true] at h
    rcases List.mem_cons.mp hm with e | hm
    · subst e
      intro z
      rw [z] at h
      exact absurd h.1 (by simp)
    · exact noOw_getD h.2 hm
theorem rest_len {old new : List Sl} : ∀ {ws : List Nat}, (rest_ old new ws).length = new.length
  | [] => rfl
  | v :: vs => by
    show (match old[v]? with | some x => (rest_ old new vs).set v x | none => rest_ old new vs).length = _
    split
    · rw [List.length_set]; exact rest_len
    · exact rest_len
theorem rest_get {old new : List Sl} (hl : old.length = new.length) {i : Nat} : ∀ {ws : List Nat}, (rest_ old new ws)[i]? = if i ∈ ws then old[i]? else new[i]?
  | [] => by rw [if_neg (by simp)]; rfl
  | v :: vs => by
    show (match old[v]? with | some x => (rest_ old new vs).set v x | none => rest_ old new vs)[i]? = _
    by_cases hv : v = i
    · subst hv
      rw [if_pos (by simp)]
      cases e : old[v]? with
      | some x =>
        have hlt : v < old.length := (List.getElem?_eq_some_iff.mp e).1
        show ((rest_ old new vs).set v x)[v]? = _
        rw [List.getElem?_set_self (by rw [rest_len, ← hl]; exact hlt)]
      | none =>
        show (rest_ old new vs)[v]? = _
        have hge : old.length ≤ v := List.getElem?_eq_none_iff.mp e
        exact List.getElem?_eq_none_iff.mpr (by rw [rest_len, ← hl]; exact hge)
    · have go : (rest_ old new vs)[i]? = if i ∈ v :: vs then old[i]? else new[i]? := by
        rw [rest_get hl (ws := vs)]
        by_cases hm : i ∈ vs
        · rw [if_pos hm, if_pos (by simp [hm])]
        · rw [if_neg hm, if_neg (by simp only [List.mem_cons, not_or]; exact ⟨fun e => hv e.symm, hm⟩)]
      split
      · rw [List.getElem?_set_ne hv]; exact go
      · exact go
theorem wipe_get {σ : L2.St} {i : Nat} : ∀ {ws : List Nat}, i ∉ ws → (wipe σ ws)[i]? = σ[i]?
  | [], _ => rfl
  | v :: vs, h => by
    unfold wipe
    simp only [List.mem_cons, not_or] at h
    rw [List.getElem?_set_ne (fun e => h.1 e.symm)]
    exact wipe_get h.2
theorem wipe_in {σ : L2.St} {i : Nat} {ws : List Nat} (h : i ∈ ws) : (wipe σ ws)[i]? = if i < σ.length then some none else none := by
  by_cases hi : i < σ.length
  · rw [if_pos hi]
    have hl : i < (wipe σ ws).length := by rw [wipe_length]; exact hi
    cases e : (wipe σ ws)[i]? with
    | none => exact absurd (List.getElem?_eq_none_iff.mp e) (by omega)
    | some x =>
      cases x with
      | none => rfl
      | some v => exact absurd h (wipe_some e).2
  · rw [if_neg hi]
    exact List.getElem?_eq_none_iff.mpr (by rw [wipe_length]; omega)
theorem wipe_eq {σ σ' : L2.St} {ws : List Nat} (hl : σ'.length = σ.length) (h : ∀ j, j ∉ ws → σ'[j]? = σ[j]?) : wipe σ' ws = wipe σ ws := by
  apply List.ext_getElem?
  intro j
  by_cases hj : j ∈ ws
  · rw [wipe_in hj, wipe_in hj, hl]
  · rw [wipe_get hj, wipe_get hj, h j hj]
section
variable {T : Tx} {x : Gh} {s : Sx} {σ : L2.St} {H : Hp}
theorem Ok.wiped (k : Ok T x s σ H) (ws : List Nat) : Ok T x { s with env := wipeE s.env ws } (wipe σ ws) H := by
  refine ⟨k.bx, by rw [wipeE_len, wipe_length]; exact k.len, fun i d e => ?_, fun i xs e => ?_, fun i j xs ys a e1 e2 e3 e4 => ?_, fun i e => ?_, k.od.of (.refl _) (.refl _) (fun i ks ds e => by
    rcases wipeE_get e with z | ⟨z, n⟩
    · cases z
    · exact ⟨z, wipe_get n⟩) fun _ _ e u => ⟨e, u⟩⟩
  · rcases wipeE_get e with z | ⟨z, n⟩
    · cases z
    · obtain ⟨v, h1, h2⟩ := k.sh i d z
      exact ⟨v, by rw [wipe_get n]; exact h1, h2⟩
  · rcases wipeE_get e with z | ⟨z, n⟩
    · cases z
    · obtain ⟨a, vs, h1, h2⟩ := k.ow i xs z
      exact ⟨a, vs, by rw [wipe_get n]; exact h1, h2⟩
  · rcases wipeE_get e1 with z | ⟨z1, n1⟩
    · cases z
    · rcases wipeE_get e2 with z | ⟨z2, n2⟩
      · cases z
      · rw [wipe_get n1] at e3
        rw [wipe_get n2] at e4
        exact k.owi i j xs ys a z1 z2 e3 e4
  · rcases wipeE_get e with z | ⟨z, n⟩
    · cases z
    · rw [wipe_get n]; exact k.th i z
theorem wipeE_out {l : List Sl} {i : Nat} : ∀ {ws : List Nat}, i ∉ ws → (wipeE l ws)[i]? = l[i]?
  | [], _ => rfl
  | v :: vs, h => by
    unfold wipeE
    simp only [List.mem_cons, not_or] at h
    rw [List.getElem?_set_ne (fun e => h.1 e.symm)]
    exact wipeE_out h.2
theorem Ok.restore {x1 : Gh} {s1 : Sx} {H1 : Hp} {ws : List Nat} (k : Ok T x s σ H) (k1 : Ok T x1 { s1 with env := wipeE s1.env ws } (wipe σ ws) H1) (st : Stp x H x1 H1) (no : noOw s.env ws = true) : Ok T x1 { s1 with env := rest_ s.env s1.env ws } σ H1 := by
  have hl : s.env.length = s1.env.length := by
    have h1 := k1.len
    rw [wipe_length] at h1
    have h2 : (wipeE s1.env ws).length = σ.length := h1
    rw [wipeE_len] at h2
    rw [h2, k.len]
  have get : ∀ i, (rest_ s.env s1.env ws)[i]? = if i ∈ ws then s.env[i]? else s1.env[i]? := fun i => rest_get hl
  refine ⟨k1.bx, by show (rest_ s.env s1.env ws).length = σ.length; rw [rest_len, ← hl, k.len], fun i d e => ?_, fun i xs e => ?_, fun i j xs ys a e1 e2 e3 e4 => ?_, fun i e => ?_, k1.od.of (.refl _) (.refl _) (fun i ks ds e => by
    have e : (rest_ s.env s1.env ws)[i]? = some (.od ks ds) := e
    rw [get] at e
    by_cases hi : i ∈ ws
    · rw [if_pos hi] at e
      exact absurd e (noOw_getD no hi)
    · rw [if_neg hi] at e
      exact ⟨by show (wipeE s1.env ws)[i]? = _; rw [wipeE_out hi]; exact e, (wipe_get hi).symm⟩) fun _ _ e u => ⟨e, u⟩⟩
  · have e : (rest_ s.env s1.env ws)[i]? = some (.sh d) := e
    rw [get] at e
    by_cases hi : i ∈ ws
    · rw [if_pos hi] at e
      obtain ⟨v, h1, h2⟩ := k.sh i d e
      exact ⟨v, h1, h2.mono st.io st.le⟩
    · rw [if_neg hi] at e
      obtain ⟨v, h1, h2⟩ := k1.sh i d (by show (wipeE s1.env ws)[i]? = _; rw [wipeE_out hi]; exact e)
      exact ⟨v, by rw [← wipe_get hi]; exact h1, h2⟩
  · have e : (rest_ s.env s1.env ws)[i]? = some (.ow xs) := e
    rw [get] at e
    by_cases hi : i ∈ ws
    · rw [if_pos hi] at e
      exact absurd e (noOw_get no hi)
    · rw [if_neg hi] at e
      obtain ⟨a, vs, h1, h2⟩ := k1.ow i xs (by show (wipeE s1.env ws)[i]? = _; rw [wipeE_out hi]; exact e)
      exact ⟨a, vs, by rw [← wipe_get hi]; exact h1, h2⟩
  · have e1 : (rest_ s.env s1.env ws)[i]? = some (.ow xs) := e1
    have e2 : (rest_ s.env s1.env ws)[j]? = some (.ow ys) := e2
    rw [get] at e1 e2
    by_cases hi : i ∈ ws
    · rw [if_pos hi] at e1
      exact absurd e1 (noOw_get no hi)
    · by_cases hj : j ∈ ws
      · rw [if_pos hj] at e2
        exact absurd e2 (noOw_get no hj)
      · rw [if_neg hi] at e1
        rw [if_neg hj] at e2
        exact k1.owi i j xs ys a (by show (wipeE s1.env ws)[i]? = _; rw [wipeE_out hi]; exact e1) (by show (wipeE s1.env ws)[j]? = _; rw [wipeE_out hj]; exact e2) (by rw [wipe_get hi]; exact e3) (by rw [wipe_get hj]; exact e4)
  · have e : (rest_ s.env s1.env ws)[i]? = some .th := e
    rw [get] at e
    by_cases hi : i ∈ ws
    · rw [if_pos hi] at e
      exact k.th i e
    · rw [if_neg hi] at e
      have h1 := k1.th i (by show (wipeE s1.env ws)[i]? = _; rw [wipeE_out hi]; exact e)
      rw [← wipe_get hi]; exact h1
/-- what stands aside becomes one's own -/
theorem Ok.take {L : Addr} {vs : List V} {acc : List D} (k : Ok T x s σ H) (h : H L = some (.lst vs)) (r : Reps T x.io x.G vs acc) (hu : ¬ x.U L) (hg : x.G L = none) :
    Ok T ⟨x.io, x.G, fun c => x.U c ∨ c = L⟩ s σ H ∧ Own T ⟨x.io, x.G, fun c => x.U c ∨ c = L⟩ s σ H L acc ∧ ∀ (y : Gh) (H0 : Hp), Stp y H0 x H → H0 L = none → Stp y H0 ⟨x.io, x.G, fun c => x.U c ∨ c = L⟩ H := by
  have nb : ∀ j, j < s.sto.length → L ≠ x.io.f j := fun j hj z => hu (by rw [z]; exact k.bx.inU j hj)
  refine ⟨⟨⟨k.bx.n, k.bx.at_, fun i hi => .inl (k.bx.inU i hi), k.bx.inj, k.bx.sub, fun a o e z => ?_, fun a z => ?_, fun p hp => ⟨.inl (k.bx.tab p hp).1, (k.bx.tab p hp).2⟩, k.bx.lo⟩, k.len, k.sh, fun i xs e => ?_, k.owi, k.th, k.od.of (.refl _) (.refl _) (fun _ _ _ e => ⟨e, rfl⟩) fun _ _ e u => ⟨e, .inl u⟩⟩, ⟨.inr rfl, ⟨vs, h, r⟩, nb, fun i ys e z => ?_⟩, fun y H0 st hL => ⟨st.io, st.le, st.fr, st.new, fun a z => ?_, st.th⟩⟩
  · rcases z with z | z
    · exact k.bx.off a o e z
    · subst z; rw [hg] at e; cases e
  · rcases z with z | z
    · exact k.bx.trk a z
    · subst z; exact ⟨_, h⟩
  · obtain ⟨a, us, h1, h2, h3, h4, h5⟩ := k.ow i xs e
    exact ⟨a, us, h1, h2, h3, .inl h4, h5⟩
  · obtain ⟨a, us, h1, h2, h3, h4, h5⟩ := k.ow i ys e
    rw [h1] at z
    injection z with z
    injection z with z
    injection z with z
    subst z
    exact hu h4
  · rcases z with z | z
    · exact st.un a z
    · subst z; exact .inr hL
/-- an object that is neither shared nor one's own is written -/
theorem Ok.aside (k : Ok T x s σ H) {L : Addr} {o : HO} (hu : ¬ x.U L) (hg : x.G L = none) (hl : H L = none ∨ ∃ vs, H L = some (.lst vs)) : Ok T x s σ (upd H L o) := by
  refine ⟨⟨k.bx.n, fun j ys q => ?_, k.bx.inU, k.bx.inj, fun c u q => ?_, k.bx.off, fun c u => ?_, fun p hp => ⟨(k.bx.tab p hp).1, by
    rcases hl with hl | ⟨vs, hl⟩
    · exact (k.bx.tab p hp).2.ext (.refl _) (Le.upd hl)
    · exact tabS_lst hl (k.bx.tab p hp).2⟩, k.bx.lo⟩, k.len, k.sh, fun i xs e => ?_, k.owi, k.th, k.od.of (.refl _) (.refl _) (fun _ _ _ e => ⟨e, rfl⟩) fun a kvs e u => ⟨by rw [upd_ne (fun z => hu (by rw [← z]; exact u))]; exact e, u⟩⟩
  · obtain ⟨vs, h1, h2⟩ := k.bx.at_ j ys q
    exact ⟨vs, by rw [upd_ne (fun z => hu (by rw [← z]; exact k.bx.inU j (List.getElem?_eq_some_iff.mp q).1))]; exact h1, h2⟩
  · rw [upd_ne (fun z => by subst z; rw [hg] at q; cases q)]
    exact k.bx.sub c u q
  · by_cases hc : c = L
    · subst hc; exact ⟨_, upd_same⟩
    · rw [upd_ne hc]; exact k.bx.trk c u
  · obtain ⟨a, vs, h1, h2, h3, h4, h5⟩ := k.ow i xs e
    exact ⟨a, vs, h1, by rw [upd_ne (fun z => hu (by rw [← z]; exact h4))]; exact h2, h3, h4, h5⟩
theorem Stp.aside {y : Gh} {H' : Hp} (st : Stp x H y H') {L : Addr} {o : HO} (hL : H L = none) : Stp x H y (upd H' L o) :=
  ⟨st.io, st.le, fun c u e n => by rw [upd_ne (ne_of_none e hL)]; exact st.fr c u e n, st.new, st.un, fun c e => by
    by_cases hc : c = L
    · subst hc; exact hL
    · rw [upd_ne hc] at e; exact st.th c e⟩
end
section
variable {T : Tx} {W : WX} {X : Cx} {tg iter elt : Expr} {ifs : List Expr} {scope : Scope} {own : List (Str × Nat)} {mi : M (List D)} {t : Tg} {mc : M Bool} {m : M D} {pos : Pos}
/-- no exception leaves a comprehension's block -/
abbrev W0 : WX := fun _ _ _ _ => False
theorem tLc_of {σ : L2.St} {H : Hp} {Q : VK} {ws : List Nat} (hsl : ∀ j ∈ t.slots, j ∈ ws) (h : tF T W (mComp mi t mc m ws) σ H Q) : tLc (tI T W mi) (gD T t) (tB T W0 mc) (tD T W0 m) ws σ H Q := by
  obtain ⟨x, s, k, h⟩ := h
  refine ⟨x, s, k, ?_⟩
  unfold mComp M.bind at h
  cases em : mi s with
  | exc c ns vs sto => rw [em] at h; exact h
  | bad => rw [em] at h; exact h
  | ok ds s0 =>
    rw [em] at h
    simp only at h
    intro x0 J H0 k0 st0 src L hL
    by_cases hno : noOw s0.env ws = true
    · rw [if_pos hno] at h
      cases ec : compL t mc m ws ds [] s0 with
      | none => rw [ec] at h; exact h.elim
      | some pr =>
        obtain ⟨accF, sF⟩ := pr
        rw [ec] at h
        simp only at h
        have gL0 : x0.G L = none := k0.bx.sub.none hL
        have uL0 : ¬ x0.U L := fun z => by
          obtain ⟨o, e⟩ := k0.bx.trk L z
          rw [hL] at e; cases e
        -- the invariant
        refine ⟨fun i mm H1 => ∃ (x1 : Gh) (s1 : Sx) (acc : List D) (vs : List V), Ok T x1 { s1 with env := wipeE s1.env ws } (wipe σ ws) H1 ∧ H1 L = some (.lst vs) ∧ Reps T x1.io x1.G vs acc ∧ ¬ x1.U L ∧ x1.G L = none ∧ Stp x0 H0 x1 H1 ∧ i ≤ ds.length ∧ mm = ds.length - i ∧
            compL t mc m ws (ds.drop i) acc s1 = some (accF, sF), ⟨ds.length, x0, s0, [], [], (k0.wiped ws).aside uL0 gL0 (.inl hL), upd_same, .nil, uL0, gL0, (Stp.refl x0 H0).aside hL, Nat.zero_le _, rfl, ec⟩, ?_⟩
        rintro i mm H1 ⟨x1, s1, acc, vs, k1, hL1, r1, uL, gL, st1, hi1, rfl, c1⟩
        by_cases hlt : i < ds.length
        · refine .inr ⟨src.go i H1 (st1.le.trans k1.bx.sub) hlt, fun H2 => ∃ (x2 : Gh) (s2 : Sx) (acc : List D) (vs : List V), Ok T x2 { s2 with env := wipeE s2.env ws } (wipe σ ws) H2 ∧ H2 L = some (.lst vs) ∧ Reps T x2.io x2.G vs acc ∧ ¬ x2.U L ∧ x2.G L = none ∧ Stp x0 H0 x2 H2 ∧
            compL t mc m ws (ds.drop (i + 1)) acc s2 = some (accF, sF), fun H2 ⟨x2, s2, acc2, vs2, a1, a2, a3, a4, a5, a6, a7⟩ => ⟨ds.length - (i + 1), by omega, x2, s2, acc2, vs2, a1, a2, a3, a4, a5, a6, hlt, rfl, a7⟩, fun v H2 hy => ?_⟩
          obtain ⟨G2, gr, rv⟩ := src.yld i H1 v H2 x1.G ds[i] st1.le k1.bx.sub (List.getElem?_eq_getElem hlt) hy
          have k2 := k1.grow gr
          have st2 := st1.trans gr.stp
          rw [List.drop_eq_getElem_cons hlt] at c1
          unfold compL at c1
          cases e2 : t.run ds[i] { s1 with env := wipeE s1.env ws } with
          | none => rw [e2] at c1; cases c1
          | some s2 =>
            simp only [e2] at c1
            have hL2 : H2 L = some (.lst vs) := gr.h _ _ hL1
            have gL2 : G2 L = none := by
              cases e : G2 L with
              | none => rfl
              | some o =>
                rcases gr.new L o e with q | q
                · rw [gL] at q; cases q
                · rw [hL1] at q; cases q
            refine ⟨_, _, s2, ds[i], k2, rv.mono st1.io (.refl _), e2, fun σ2 k3 len2 f2 => ?_⟩
            have hw2 : wipe σ2 ws = wipe σ ws := by
              have z : wipe σ2 ws = wipe (wipe σ ws) ws := wipe_eq len2 fun j hj => f2 j fun q => hj (hsl j q)
              rw [z]
              exact wipe_eq (wipe_length _ _) fun j hj => wipe_get hj
            refine ⟨hw2, ⟨_, s2, k3, ?_⟩⟩
            -- what stands at L is kept by what follows
            have keepL : ∀ {y : Gh} {H3 : Hp}, Stp ⟨x1.io, G2, x1.U⟩ H2 y H3 → H3 L = some (.lst vs) ∧ ¬ y.U L ∧ y.G L = none := fun {y H3} st => by
              refine ⟨st.fr L _ hL2 uL, fun z => ?_, ?_⟩
              · rcases st.un L z with q | q
                · exact uL q
                · rw [hL2] at q; cases q
              · cases e : y.G L with
                | none => rfl
                | some o =>
                  rcases st.new L o e with q | q | q
                  · have q : G2 L = some o := q
                    rw [gL2] at q; cases q
                  · exact absurd q uL
                  · rw [hL2] at q; cases q
            cases e3 : mc s2 with
            | exc c ns vs sto => rw [e3] at c1; cases c1
            | bad => rw [e3] at c1; cases c1
            | ok b s3 =>
              intro x3 H3 k4 st3
              cases b with
              | false =>
                rw [e3] at c1
                rw [if_neg Bool.false_ne_true]
                obtain ⟨a1, a2, a3⟩ := keepL st3
                have kw := k4.wiped ws
                rw [hw2] at kw
                exact ⟨x3, s3, acc, vs, kw, a1, r1.mono st3.io (gr.g.trans st3.le), a2, a3, st2.trans st3, c1⟩
              | true =>
                rw [e3] at c1
                rw [if_pos rfl]
                refine ⟨x3, s3, k4, ?_⟩
                cases e4 : m s3 with
                | exc c ns vs sto => simp only [e4] at c1; cases c1
                | bad => simp only [e4] at c1; cases c1
                | ok z s4 =>
                  simp only [e4] at c1
                  intro x4 u H4 k5 st4 r4
                  obtain ⟨a1, a2, a3⟩ := keepL (st3.trans st4)
                  by_cases hacc : acc.length < sizeLine
                  · rw [if_pos hacc] at c1
                    refine ⟨vs, a1, by rw [r1.length]; exact hacc, x4, s4, acc ++ [z], vs ++ [u], ?_, upd_same, (r1.mono (st3.trans st4).io (gr.g.trans (st3.trans st4).le)).append (.one r4), a2, a3, (st2.trans (st3.trans st4)).aside hL, c1⟩
                    have kw := k5.wiped ws
                    rw [hw2] at kw
                    exact kw.aside a2 a3 (.inr ⟨_, a1⟩)
                  · rw [if_neg hacc] at c1; cases c1
        · have e : i = ds.length := by omega
          subst e
          refine .inl ⟨src.stop _ H1 (st1.le.trans k1.bx.sub) rfl, ?_⟩
          rw [List.drop_length] at c1
          unfold compL at c1
          cases c1
          have kr := k0.restore k1 st1 hno
          obtain ⟨k2, o2, s2⟩ := kr.take hL1 r1 uL gL
          exact h _ L H1 k2 (st0.trans (s2 x0 H0 st1 hL)) o2
    · rw [if_neg hno] at h; exact h.elim
theorem df_comp (hc : X.calm = true) (hN : X.N.Nodup) (hi : PI X tg iter (tI T W mi)) (ok : BlkOk X.N X.env.scope scope own) (hsl : ∀ j ∈ t.slots, j ∈ own.map (·.2))
    (hg : ∀ (s : Shared) (H : Hp) (C : Addr) (cl : List (Str × Addr)) (fp : List Addr), PG (X.blk s H scope (compEnvC scope cl C X.env) fp) tg (gD T t)) (ht : ∀ (s : Shared) (H : Hp) (C : Addr) (cl : List (Str × Addr)) (fp : List Addr), PTs (X.blk s H scope (compEnvC scope cl C X.env) fp) ifs (tB T W0 mc))
    (he : ∀ (s : Shared) (H : Hp) (C : Addr) (cl : List (Str × Addr)) (fp : List Addr), PE (X.blk s H scope (compEnvC scope cl C X.env) fp) elt (tD T W0 m)) (hs : ∀ x, foldedSetIterable iter X.env x = pure x := by intro _; rfl) :
    PE X (.ListComp elt [⟨tg, iter, ifs, 0⟩] scope pos) (tF T W (mComp mi t mc m (own.map (·.2)))) :=
  PE.imp (pe_lc hc hN hi ok hg ht he hs) fun _ _ _ h => tLc_of hsl h
/-- name = [..] on one line -/
theorem ds_setComp {f : List D → MS} {i : Nat} {y : Str} {py spos : Pos} (hc : X.calm = true) (hN : X.N.Nodup) (hy : X.N[i]? = some y) (hyl : X.env.scope.names.lookup y = some .local)
    (hsw : swapsWith (.ListComp elt [⟨tg, iter, ifs, 0⟩] scope pos) (some (.Name y py)) spos.line X.env = pure true) (hi : PI X tg iter (tI T W mi)) (ok : BlkOk X.N X.env.scope scope own) (hsl : ∀ j ∈ t.slots, j ∈ own.map (·.2))
    (hg : ∀ (s : Shared) (H : Hp) (C : Addr) (cl : List (Str × Addr)) (fp : List Addr), PG (X.blk s H scope (compEnvC scope cl C X.env) fp) tg (gD T t)) (ht : ∀ (s : Shared) (H : Hp) (C : Addr) (cl : List (Str × Addr)) (fp : List Addr), PTs (X.blk s H scope (compEnvC scope cl C X.env) fp) ifs (tB T W0 mc))
    (he : ∀ (s : Shared) (H : Hp) (C : Addr) (cl : List (Str × Addr)) (fp : List Addr), PE (X.blk s H scope (compEnvC scope cl C X.env) fp) elt (tD T W0 m)) (hs : ∀ x, foldedSetIterable iter X.env x = pure x := by intro _; rfl) :
    PS X (.Assign [.Name y py] (.ListComp elt [⟨tg, iter, ifs, 0⟩] scope pos) spos) (tS T W (sOwn i (mComp mi t mc m (own.map (·.2))))) :=
  PS.imp (ps_setLc hc hN hy hyl hsw hi ok hg ht he hs) fun E σ H ⟨x, s, k, h⟩ => tLc_of hsl (tF_s k h fun d s' x' v H' k' o f => f x' _ H' (k'.put_own i o) (.refl _ _))
theorem dts_nil : PTs X [] (tB T W (M.pure true)) := ⟨fun pins s σ H Q I ⟨x, s', k, h⟩ => pts_nil.run pins s σ H Q I (h x H k (.refl _ _))⟩
theorem dts_one {c : Expr} (h : PT X c (tB T W mc)) : PTs X [c] (tB T W mc) := pts_one h
end

/-! ### a def by its body -/
section
variable {T : Tx} {P : Program} {mg : Str → Option Value} {base : Heap} {y qual : Str} {params : Arguments} {body : List Stmt} {scope : Scope} {f : Addr} {fd : FuncData} {N ps : List Str} {k : Nat} {m : MS}
theorem Bx.start {x : Gh} {ds : List D} {sto : List (List D)} {H : Hp} {vs : List V} {n : Nat} (b : Bx T x sto H) (r : Reps T x.io x.G vs ds) (hn : n = N.length) : Ok T x ⟨ds.map .sh ++ List.replicate (n - ds.length) .un, sto⟩ (L2.start N vs) H := by
  have hl := r.length
  have ge : ∀ (i : Nat) (sl : Sl), (ds.map Sl.sh ++ List.replicate (n - ds.length) .un)[i]? = some sl → sl = .un ∨ ∃ d, sl = .sh d ∧ ds[i]? = some d := fun i sl e => by
    by_cases hi : i < ds.length
    · rw [List.getElem?_append_left (by simpa using hi), List.getElem?_map] at e
      cases q : ds[i]? with
      | none => rw [q] at e; cases e
      | some d => rw [q] at e; exact .inr ⟨d, (Option.some.inj e).symm, rfl⟩
    · rw [List.getElem?_append_right (by simpa using hi)] at e
      exact .inl (List.eq_of_mem_replicate (List.mem_of_getElem? e))
  refine ⟨b, by simp [L2.start, hl, hn], fun i d e => ?_, fun i xs e => ?_, fun i j xs ys a e1 e2 => ?_, fun i e => (by rcases ge i _ e with z | ⟨d', z, q⟩ <;> cases z), .non fun i ks ds e => by rcases ge i _ e with z | ⟨d', z, q⟩ <;> cases z⟩
  · rcases ge i _ e with z | ⟨d', z, q⟩
    · cases z
    · cases z
      obtain ⟨v, h1, h2⟩ := r.get q
      refine ⟨v, ?_, h2⟩
      have hv : i < vs.length := (List.getElem?_eq_some_iff.mp h1).1
      unfold L2.start
      rw [List.getElem?_append_left (by simpa using hv), List.getElem?_map, h1]
      rfl
  · rcases ge i _ e with z | ⟨d', z, q⟩ <;> cases z
  · rcases ge i _ e1 with z | ⟨d', z, q⟩ <;> cases z
/-- the def at f, its code object -/
def CodeAt (K : PySem.W.Frag) (f : Addr) (cdv : Value) : Prop := ∃ (oc : Value) (od : Option Addr) (fd : FuncData) (osl : Array (Option Value)), K.lookup f = some ⟨oc, od, .func fd, osl⟩ ∧ fd.code = cdv ∧ ∃ c, cdv = .ref c
theorem CodeAt.is {K : PySem.W.Frag} {p : He.Defn} {cdv : Value} (h : CodeAt K (He.fAd K p) cdv) : cdv = .ref (He.codeOf K p) := by
  obtain ⟨oc, od, fd, osl, lk, e, c, rfl⟩ := h
  rw [He.codeOf_eq lk e]
/-- the rule for a def: its body's promise wherever nothing is being shown -/
theorem fnG_of {CX : CXT} {sp : Sp} {dvs : List V} {kws : List (Str × V)} (F : FunD T.K y qual params body scope dvs kws f fd) (S : FnScope N ps scope) (len : ∀ vs H Q E, sp vs H Q E → vs.length = ps.length)
    (hbody : ∀ (cdv : Value), CodeAt T.K f cdv → ∀ (A : Around) (outer : List Env) (s : Shared) (H : Hp) (vs : List V) (Q : VK) (E : XK), A.guards = some [] → Room k (A.deeper (PyProof.Rows.envOfC qual scope s.heap.objs.size f cdv)) → sp vs H Q E →
      ∃ t, PSs (cxOf CX P T.w T.K mg base N qual scope f cdv A outer s H E) body t ∧ t { nx := fun _ H' => Q .non H', rt := Q } (L2.start N vs) H) : FnG P T.w T.K mg base CX (k + 1) f fd ps sp := by
  obtain ⟨oc, od, dV, kV, doc, pm, an, cdv, ct, osl, rfl, lk, hcd, _, _⟩ := F.ex
  refine ⟨len, fun A outer s H args us vs Q E gd hr e0 hb r hsp => ?_⟩
  have old : ∀ b o, base.get? b = some o → s.heap.get? b = some o := fun b o e => (e0.bs b o e).1
  have kin : T.K.In s.heap := e0.mod.kin.keeps old
  refine codeAny_call_function hr.depth (kin _ _ lk) rfl S.co S.gen rfl (PySem.W.codeRec_of kin hcd) (hb _ _ _ _ (wpAny_newFunctionEnv_cells S.kind (fun z hz => ?_) fun env he s1 x => ?_))
  · rcases S.par z.1 (List.of_mem_zip hz).1 with q | q
    · exact .inl q
    · exact .inr ⟨q, PySem.W.cellsFrom_some _ _ _ (.inl q)⟩
  · subst he
    refine ⟨(e0.mod.nolimit.keeps old).keeps x.toInCall.keep, codeAny_func ?_⟩
    obtain ⟨t, ht, hq⟩ := hbody cdv ⟨_, _, _, _, lk, rfl, He.codeIn_ref hcd⟩ A outer s H vs Q E gd (hr.deeper _) hsp
    refine wpAny_mono (ht.run [] s1 _ H _ (inv_start S hr.hd e0 (len _ _ _ _ hsp) r x) hq) (fun fl s' hs => ?_) fun e s' hs => hs
    match fl, hs with
    | .ret u, ⟨v, σ', H', J, rv, q⟩ => exact ⟨v, H', J.os, J.bare, J.base, J.hok, rv, q⟩
    | .next, ⟨σ', H', J, q⟩ => exact ⟨V.non, H', J.os, J.bare, J.base, J.hok, rfl, q⟩
    | .brk, ⟨_, _, _, q⟩ => exact q.elim
    | .cont, ⟨_, _, _, q⟩ => exact q.elim
theorem def_ok {dd : He.DefD} (F : FunD T.K dd.name dd.qual dd.params dd.body dd.scope (dd.dvs T.K) (dd.kws T.K) f fd) (hm : mg dd.name = some (.ref f)) (S : FnScope N ps dd.scope)
    (hb : dd.dfl = [] → ∀ (kV doc pm : Value) (an : Option Addr) (cdv ct : Value) (us : List Value), us.length = ps.length → bindArgs (PySem.W.fnOf dd.name dd.qual dd.params dd.body dd.scope .none kV doc pm an cdv ct) ⟨us, []⟩ = pure (ps.zip us))
    (hbody : ∀ (cdv : Value), CodeAt T.K f cdv → ∀ (A : Around) (outer : List Env) (s : Shared) (H : Hp) (E : XK), A.guards = some [] → Room k (A.deeper (PyProof.Rows.envOfC dd.qual dd.scope s.heap.objs.size f cdv)) →
      Takes (cxOf (L2.CX P T.w) P T.w T.K mg base N dd.qual dd.scope f cdv A outer s H E) (fun cls d _ H => E cls d H) →
      PSs (cxOf (L2.CX P T.w) P T.w T.K mg base N dd.qual dd.scope f cdv A outer s H E) dd.body (tS T (fun cls d _ H => E cls d H) m)) : DefOk T P mg base (k + 1) dd ps (bodyF N.length m) := by
  refine ⟨f, fd, hm, F, fun h0 => ?_, fnG_of F S (fun vs H Q E ⟨_, _, _, _, _, _, h, _⟩ => h) fun cdv hcd A outer s H vs Q E gd hr hsp => ?_⟩
  · have F0 := F
    have e0 : dd.dvs T.K = [] := by unfold He.DefD.dvs; rw [h0]; rfl
    rw [e0] at F0
    exact F0.bindsN (hb h0)
  refine ⟨_, hbody cdv hcd A outer s H E gd hr (takes_of rfl rfl rfl rfl), ?_⟩
  obtain ⟨x, ds, sto, b, hu, r, hn, h⟩ := hsp
  refine ⟨x, _, b.start r rfl, ?_⟩
  unfold bodyF at h
  cases e : m ⟨ds.map .sh ++ List.replicate (N.length - ds.length) .un, sto⟩ with
  | nx s' => rw [e] at h; exact fun x' σ' H' k' st => h x' .non H' k'.bx st .non
  | bk _ => rw [e] at h; exact h.elim
  | ct _ => rw [e] at h; exact h.elim
  | rt d sto => rw [e] at h; exact h
  | ro xs sto => rw [e] at h; exact h
  | exc c ns vs sto => rw [e] at h; exact fun σ' x' dd us H' b' st xd => h x' dd us H' b' st xd
  | bad => rw [e] at h; exact h.elim
end
end Ev

/-! E6: operators, comparisons, built-ins on data. -/
namespace Ev
open PySem PySem.Spec L2
theorem OpR.imp {X : Cx} {f : Value → Value → Sem Value} {r r' : R2} (h : OpR X f r) (k : ∀ x y H Q, r' x y H Q → r x y H Q) : OpR X f r' := fun pins s σ H x y v u Q I rx ry q => h pins s σ H x y v u Q I rx ry (k x y H Q q)
theorem P2.or1 {T : Tx} {r r' : R2} {g : D → D → Option D} (h : P2 T r g) : P2 T (fun x y H Q => r x y H Q ∨ r' x y H Q) g := fun io G v u d e z H Q a b c e1 q => .inl (h io G v u d e z H Q a b c e1 q)
/-! ### ints -/
def gI (C : Int → Int → Bool) (f : Int → Int → Int) (a b : D) : Option D := match a, b with
  | .int i, .int j => if C i j = true then some (.int (f i j)) else none
  | _, _ => none
theorem p_I {T : Tx} {C : Int → Int → Prop} {Cb : Int → Int → Bool} {f : Int → Int → Int} (h : ∀ i j, Cb i j = true → C i j) : P2 T (rI C fun i j => .int (f i j)) (gI Cb f) := fun io G v u d e z H Q r1 r2 le q k => by
  unfold gI at q
  split at q
  · rename_i i j
    split at q
    · rename_i hc
      cases q
      cases r1
      cases r2
      exact ⟨i, j, rfl, rfl, h i j hc, k G _ H (.refl le) (.int _)⟩
    · cases q
  · cases q
def gI0 (f : Int → Int → Int) (a b : D) : Option D := match a, b with
  | .int i, .int j => some (.int (f i j))
  | _, _ => none
theorem p_I0 {T : Tx} {f : Int → Int → Int} : P2 T (rI0 fun i j => .int (f i j)) (gI0 f) := fun io G v u d e z H Q r1 r2 le q k => by
  unfold gI0 at q
  split at q
  · rename_i i j
    cases q
    cases r1
    cases r2
    exact ⟨i, j, rfl, rfl, k G _ H (.refl le) (.int _)⟩
  · cases q
def gB0 (f : Int → Int → Bool) (a b : D) : Option D := match a, b with
  | .int i, .int j => some (.bl (f i j))
  | _, _ => none
theorem p_B0 {T : Tx} {f : Int → Int → Bool} : P2 T (rI0 fun i j => .bl (f i j)) (gB0 f) := fun io G v u d e z H Q r1 r2 le q k => by
  unfold gB0 at q
  split at q
  · rename_i i j
    cases q
    cases r1
    cases r2
    exact ⟨i, j, rfl, rfl, k G _ H (.refl le) (.bl _)⟩
  · cases q
def cMul (i j : Int) : Bool := decide ((Builtin.Int.intBits i : Int) + (Builtin.Int.intBits j : Int) ≤ 134217728)
def cDiv (_ j : Int) : Bool := decide (0 < j ∧ j.natAbs.log2 < 9000)
def cMod (_ j : Int) : Bool := decide (0 < j)
def cPow (i j : Int) : Bool := decide (0 ≤ j ∧ j ≤ 1000000 ∧ i.natAbs < 2 ^ 64)
def cShl (i j : Int) : Bool := decide (0 ≤ j ∧ (Builtin.Int.intBits i : Int) + j ≤ 2 ^ 27)
abbrev gSub := gI0 fun i j => i - j
abbrev gMulI := gI cMul fun i j => i * j
abbrev gDiv := gI cDiv fun i j => i / j
abbrev gMod := gI cMod fun i j => i % j
abbrev gPow := gI cPow fun i j => i ^ j.toNat
abbrev gShl := gI cShl fun i j => i * 2 ^ j.toNat
abbrev gAnd := gI0 Builtin.bitAnd
abbrev gOr := gI0 Builtin.bitOr
abbrev gXor := gI0 Builtin.bitXor
abbrev gLt := gB0 fun i j => decide (i < j)
abbrev gLe := gB0 fun i j => decide (i ≤ j)
abbrev gGt := gB0 fun i j => decide (j < i)
abbrev gGe := gB0 fun i j => decide (j ≤ i)
section
variable {T : Tx} {X : Cx} {W : WX} {a b c : Expr} {ma mb mc : M D} {pos : Pos}
theorem de_sub (ha : PE X a (tD T W ma)) (hb : PE X b (tD T W mb)) : PE X (.BinOp a .Sub b pos) (tD T W (m2 gSub ma mb)) := de_op op_sub p_I0 ha hb
theorem de_mul (ha : PE X a (tD T W ma)) (hb : PE X b (tD T W mb)) : PE X (.BinOp a .Mult b pos) (tD T W (m2 gMulI ma mb)) := de_op op_mulX (p_I (Cb := cMul) fun _ _ h => by unfold cMul at h; have h2 := of_decide_eq_true h; exact h2) ha hb
theorem de_div (ha : PE X a (tD T W ma)) (hb : PE X b (tD T W mb)) : PE X (.BinOp a .FloorDiv b pos) (tD T W (m2 gDiv ma mb)) := de_op op_fdivW (p_I (Cb := cDiv) fun _ _ h => by unfold cDiv at h; have h2 := of_decide_eq_true h; exact h2) ha hb
theorem de_mod (ha : PE X a (tD T W ma)) (hb : PE X b (tD T W mb)) : PE X (.BinOp a .Mod b pos) (tD T W (m2 gMod ma mb)) := de_op op_mod (p_I (Cb := cMod) fun _ _ h => by unfold cMod at h; have h2 := of_decide_eq_true h; exact h2) ha hb
theorem de_pow (ha : PE X a (tD T W ma)) (hb : PE X b (tD T W mb)) : PE X (.BinOp a .Pow b pos) (tD T W (m2 gPow ma mb)) := de_op op_pow (p_I (Cb := cPow) fun _ _ h => by unfold cPow at h; have h2 := of_decide_eq_true h; exact h2) ha hb
theorem de_shl (ha : PE X a (tD T W ma)) (hb : PE X b (tD T W mb)) : PE X (.BinOp a .LShift b pos) (tD T W (m2 gShl ma mb)) := de_op op_shlW (p_I (Cb := cShl) fun _ _ h => by unfold cShl at h; have h2 := of_decide_eq_true h; exact h2) ha hb
theorem de_and_ (ha : PE X a (tD T W ma)) (hb : PE X b (tD T W mb)) : PE X (.BinOp a .BitAnd b pos) (tD T W (m2 gAnd ma mb)) := de_op op_and p_I0 ha hb
theorem de_or_ (ha : PE X a (tD T W ma)) (hb : PE X b (tD T W mb)) : PE X (.BinOp a .BitOr b pos) (tD T W (m2 gOr ma mb)) := de_op op_or p_I0 ha hb
theorem de_xor_ (ha : PE X a (tD T W ma)) (hb : PE X b (tD T W mb)) : PE X (.BinOp a .BitXor b pos) (tD T W (m2 gXor ma mb)) := de_op op_xor p_I0 ha hb
def gNeg (a : D) : Option D := match a with
  | .int i => some (.int (-i))
  | _ => none
theorem de_neg (ha : PE X a (tD T W ma)) : PE X (.UnaryOp .USub a pos) (tD T W (m1 gNeg ma)) := de_un un_neg (fun io G v d z H Q r le q k => by
  unfold gNeg at q
  split at q
  · cases q; cases r; exact ⟨_, rfl, k G _ H (.refl le) (.int _)⟩
  · cases q) ha
/-! ### + -/
def rCatL (K : PySem.W.Frag) : R2 := fun x y H Q => ∃ l b xs zs, x = .ref l ∧ y = .ref b ∧ SqL K H l xs ∧ SqL K H b zs ∧ xs.length + zs.length ≤ sizeLine ∧ ∀ p, H p = none → Q (.ref p) (upd H p (.lst (xs ++ zs)))
theorem op_catLs : OpR X (binaryOp .Add) (rCatL X.K) := by
  intro pins s σ H x y v u Q I rx ry h
  obtain ⟨l, b, xs, zs, rfl, rfl, hH, hB, hz, q⟩ := h
  cases rx
  cases ry
  obtain ⟨its, r, ⟨o, n, e, hc, hd, hdt⟩, z⟩ := I.list hH
  obtain ⟨its2, r2, ⟨o2, n2, e2, hc2, hd2, hdt2⟩, z2⟩ := I.list hB
  obtain ⟨oc, od, odt, osl⟩ := o
  obtain ⟨oc2, od2, odt2, osl2⟩ := o2
  simp only at hc hd hdt hc2 hd2 hdt2
  subst hc hd hdt hc2 hd2 hdt2
  have l1 := r.length
  have l2 := r2.length
  have ea : its.toArray ++ its2.toArray = (its ++ its2).toArray := by simp
  refine concat_meets ⟨_, e, rfl⟩ ⟨_, e2, rfl⟩ noFill_list_add seq_list_add PySem.F.slot_list_add PySem.F.entry_list_add (PySem.F.args_list_add_2 _ _) (PyProof.Rows.list_addW l b its.toArray its2.toArray n n2 none none osl osl2 (by simp; omega)) ⟨e, e2, ?_⟩
  rw [ea]
  exact ⟨.ref _, _, I.lnew (t' := s.toks) (r.append r2) (by rw [List.length_append]; omega), rfl, q _ I.fresh⟩
def rAdd_ (K : PySem.W.Frag) : R2 := fun x y H Q => (∃ i j, x = .int i ∧ y = .int j ∧ Q (.int (i + j)) H) ∨ (∃ i j, x = .str i ∧ y = .str j ∧ i.length + j.length ≤ sizeLine ∧ Q (.str (i ++ j)) H) ∨ rCatL K x y H Q ∨ rCatA K x y H Q
theorem op_addA : OpR X (binaryOp .Add) (rAdd_ X.K) := op_add.or (op_add_str.or (op_catLs.or op_catA))
def gAdd (a b : D) : Option D := match a, b with
  | .int i, .int j => some (.int (i + j))
  | .str i, .str j => if i.length + j.length ≤ sizeLine then some (.str (i ++ j)) else none
  | .lst xs, .lst ys => if xs.length + ys.length ≤ sizeLine then some (.lst (xs ++ ys)) else none
  | .tup xs, .tup ys => if xs.length + ys.length ≤ sizeLine then some (.tup (xs ++ ys)) else none
  | _, _ => none
theorem Reps.nil_iff {io : Io} {G : Hp} {vs : List V} {ds : List D} (r : Reps T io G vs ds) : vs = [] ↔ ds = [] := by
  cases r with
  | nil => simp
  | cons a b => simp
theorem p_add (hK : X.K = T.K) : P2 T (rAdd_ X.K) gAdd := fun io G v u d e z H Q r1 r2 le q k => by
  rw [hK]
  unfold gAdd at q
  split at q
  · cases q; cases r1; cases r2
    exact .inl ⟨_, _, rfl, rfl, k G _ H (.refl le) (.int _)⟩
  · split at q
    · rename_i hl
      cases q; cases r1; cases r2
      exact .inr (.inl ⟨_, _, rfl, rfl, hl, k G _ H (.refl le) (.str _)⟩)
    · cases q
  · split at q
    · rename_i xs ys hl
      cases q
      cases r1 with
      | @lst a vs ds s1 e1 =>
        cases r2 with
        | @lst a2 vs2 ds2 s2 e2 =>
          refine .inr (.inr (.inl ⟨_, _, _, _, rfl, rfl, le.sqL s1, le.sqL s2, by rw [e1.length, e2.length]; exact hl, fun p hp => ?_⟩))
          have gr := Grow.one (o := .lst (vs ++ vs2)) le hp
          exact k _ _ _ gr (.lst (.inl (.inl upd_same)) ((e1.up gr.g).append (e2.up gr.g)))
    · cases q
  · split at q
    · rename_i xs ys hl
      cases q
      cases r1 with
      | @tup a vs ds s1 e1 =>
        cases r2 with
        | @tup a2 vs2 ds2 s2 e2 =>
          refine .inr (.inr (.inr ⟨_, _, _, _, rfl, rfl, le.sqT s1, le.sqT s2, by rw [e1.length, e2.length]; exact hl, fun h0 => ?_, fun h0 h1 => ?_, fun _ _ p hp => ?_⟩))
          · have hx := e1.nil_iff.mp h0
            subst hx
            exact k G _ H (.refl le) (.tup s2 e2)
          · have hy := e2.nil_iff.mp h1
            subst hy
            rw [List.append_nil] at k
            exact k G _ H (.refl le) (.tup s1 e1)
          · have gr := Grow.one (o := .tup (vs ++ vs2)) le hp
            exact k _ _ _ gr (.tup (.inl (.inl upd_same)) ((e1.up gr.g).append (e2.up gr.g)))
    · cases q
  · cases q
theorem de_add (hK : X.K = T.K) (ha : PE X a (tD T W ma)) (hb : PE X b (tD T W mb)) : PE X (.BinOp a .Add b pos) (tD T W (m2 gAdd ma mb)) := de_op op_addA (p_add hK) ha hb
/-! ### comparisons of ints -/
theorem de_lt (ha : PE X a (tD T W ma)) (hb : PE X b (tD T W mb)) : PE X (.Compare a [.Lt] [b] pos) (tD T W (m2 gLt ma mb)) := de_cmp op_lt p_B0 ha hb (nomark _)
theorem de_le (ha : PE X a (tD T W ma)) (hb : PE X b (tD T W mb)) : PE X (.Compare a [.LtE] [b] pos) (tD T W (m2 gLe ma mb)) := de_cmp op_le p_B0 ha hb (nomark _)
theorem de_gt (ha : PE X a (tD T W ma)) (hb : PE X b (tD T W mb)) : PE X (.Compare a [.Gt] [b] pos) (tD T W (m2 gGt ma mb)) := de_cmp op_gt p_B0 ha hb (nomark _)
theorem de_ge (ha : PE X a (tD T W ma)) (hb : PE X b (tD T W mb)) : PE X (.Compare a [.GtE] [b] pos) (tD T W (m2 gGe ma mb)) := de_cmp op_ge p_B0 ha hb (nomark _)
theorem dt_lt (ha : PE X a (tD T W ma)) (hb : PE X b (tD T W mb)) : PT X (.Compare a [.Lt] [b] pos) (tB T W (mT (m2 gLt ma mb))) := dt_cmp op_lt p_B0 ha hb (nomark _)
theorem dt_le (ha : PE X a (tD T W ma)) (hb : PE X b (tD T W mb)) : PT X (.Compare a [.LtE] [b] pos) (tB T W (mT (m2 gLe ma mb))) := dt_cmp op_le p_B0 ha hb (nomark _)
theorem dt_gt (ha : PE X a (tD T W ma)) (hb : PE X b (tD T W mb)) : PT X (.Compare a [.Gt] [b] pos) (tB T W (mT (m2 gGt ma mb))) := dt_cmp op_gt p_B0 ha hb (nomark _)
theorem dt_ge (ha : PE X a (tD T W ma)) (hb : PE X b (tD T W mb)) : PT X (.Compare a [.GtE] [b] pos) (tB T W (mT (m2 gGe ma mb))) := dt_cmp op_ge p_B0 ha hb (nomark _)
/-- a op b op' c -/
def mChain (g g' : D → D → Option D) (ma mb mc : M D) : M D := M.bind ma fun a => M.bind mb fun b => M.bind (M.lift (g a b)) fun k => match k with
  | .bl true => M.bind mc fun c => M.lift (g' b c)
  | .bl false => M.pure (.bl false)
  | _ => fun _ => .bad
/-- what a comparison tells is a truth, and changes nothing -/
def PB (T : Tx) (r : R2) (g : D → D → Option D) : Prop := ∀ (io : Io) (G : Hp) (v u : V) (d e : D) (k : Bool) (H : Hp) (Q : VK), Rep T io G v d → Rep T io G u e → Le G H → g d e = some (.bl k) → Q (.bl k) H → r v u H Q
theorem pb_B0 {f : Int → Int → Bool} : PB T (rI0 fun i j => .bl (f i j)) (gB0 f) := fun io G v u d e z H Q r1 r2 le q k => by
  unfold gB0 at q
  split at q
  · rename_i i j
    cases q
    cases r1
    cases r2
    exact ⟨i, j, rfl, rfl, k⟩
  · cases q
theorem tChain_of {r r' : R2} {g g' : D → D → Option D} (p : PB T r g) (p' : P2 T r' g') {σ : L2.St} {H : Hp} {Q : VK} (h : tD T W (mChain g g' ma mb mc) σ H Q) : tChain r r' (tD T W ma) (tD T W mb) (tD T W mc) σ H Q := by
  obtain ⟨x, s, k, h⟩ := h
  refine ⟨x, s, k, ?_⟩
  unfold mChain M.bind M.lift M.pure at h
  cases e1 : ma s with
  | exc c ns vs sto => rw [e1] at h; exact h
  | bad => rw [e1] at h; exact h
  | ok d1 s1 =>
    rw [e1] at h
    intro x1 v1 H1 k1 st1 r1
    refine ⟨x1, s1, k1, ?_⟩
    simp only at h
    cases e2 : mb s1 with
    | exc c ns vs sto => rw [e2] at h; exact h.back st1
    | bad => rw [e2] at h; exact h
    | ok d2 s2 =>
      rw [e2] at h
      intro x2 v2 H2 k2 st2 r2
      simp only at h
      cases e3 : g d1 d2 with
      | none => rw [e3] at h; exact h.elim
      | some z =>
        simp only [e3] at h
        cases z with
        | bl b =>
          refine p _ x2.G v1 v2 d1 d2 b H2 _ (r1.mono st2.io st2.le) r2 k2.bx.sub e3 ⟨b, rfl, ?_⟩
          cases b with
          | false => rw [if_neg Bool.false_ne_true]; exact h x2 _ H2 k2 (st1.trans st2) (.bl _)
          | true =>
            rw [if_pos rfl]
            refine ⟨x2, s2, k2, ?_⟩
            simp only at h
            cases e4 : mc s2 with
            | exc c ns vs sto => rw [e4] at h; exact h.back (st1.trans st2)
            | bad => rw [e4] at h; exact h
            | ok d3 s3 =>
              rw [e4] at h
              intro x3 v3 H3 k3 st3 r3
              simp only at h
              cases e5 : g' d2 d3 with
              | none => rw [e5] at h; exact h.elim
              | some z =>
                simp only [e5] at h
                exact p' _ x3.G v2 v3 d2 d3 z H3 Q (r2.mono st3.io st3.le) r3 k3.bx.sub e5 fun G' v' H4 gr r4 => h _ v' H4 (k3.grow gr) (st1.trans (st2.trans (st3.trans gr.stp))) r4
        | _ => exact h.elim
theorem de_chain {op op' : CmpOp} {r r' : R2} {g g' : D → D → Option D} (ho : OpR X (compareOp op) r) (ho' : OpR X (compareOp op') r') (p : PB T r g) (p' : P2 T r' g') (ha : PE X a (tD T W ma)) (hb : PE X b (tD T W mb)) (hc : PE X c (tD T W mc))
    (hm : lastMarks [op, op'] [b, c] = false := by with_unfolding_all rfl) : PE X (.Compare a [op, op'] [b, c] pos) (tD T W (mChain g g' ma mb mc)) := PE.imp (pe_chain ho ho' ha hb hc hm) fun _ _ _ h => tChain_of p p' h
theorem dt_chain {op op' : CmpOp} {r r' : R2} {g g' : D → D → Option D} (ho : OpR X (compareOp op) r) (ho' : OpR X (compareOp op') r') (p : PB T r g) (p' : P2 T r' g') (ha : PE X a (tD T W ma)) (hb : PE X b (tD T W mb)) (hc : PE X c (tD T W mc))
    (hm : lastMarks [op, op'] [b, c] = false := by with_unfolding_all rfl) : PT X (.Compare a [op, op'] [b, c] pos) (tB T W (mT (mChain g g' ma mb mc))) := PT.imp (pt_chain ho ho' ha hb hc hm) fun σ H Q q => tChain_of p p' (tT q)
/-! ### and, or, not as values (truths) -/
def mAndV (ma mb : M D) : M D := M.bind ma fun a => match a with
  | .bl true => mb
  | .bl false => M.pure (.bl false)
  | _ => fun _ => .bad
def mOrV (ma mb : M D) : M D := M.bind ma fun a => match a with
  | .bl false => mb
  | .bl true => M.pure (.bl true)
  | _ => fun _ => .bad
def mNotV (ma : M D) : M D := M.bind ma fun a => match a with
  | .bl k => M.pure (.bl (!k))
  | _ => fun _ => .bad
variable {rest : List Expr}
theorem dv_one {op : BoolOp} (h : PE X a (tD T W ma)) : PE X (.BoolOp op [a] pos) (tD T W ma) := pe_one h
theorem dv_and (ha : PE X a (tD T W ma)) (hb : PE X (.BoolOp .And (b :: rest) pos) (tD T W mb)) : PE X (.BoolOp .And (a :: b :: rest) pos) (tD T W (mAndV ma mb)) := PE.imp (pe_and ha hb) fun σ H Q ⟨x, s, k, h⟩ => by
  refine ⟨x, s, k, ?_⟩
  unfold mAndV M.bind M.pure at h
  cases e1 : ma s with
  | exc c ns vs sto => rw [e1] at h; exact h
  | bad => rw [e1] at h; exact h
  | ok d1 s1 =>
    rw [e1] at h
    intro x1 v1 H1 k1 st1 r1
    cases r1 with
    | bl q =>
      refine ⟨q, rfl, ?_⟩
      cases q with
      | false => rw [if_neg Bool.false_ne_true]; exact h x1 _ H1 k1 st1 (.bl _)
      | true =>
        rw [if_pos rfl]
        refine ⟨x1, s1, k1, ?_⟩
        simp only at h
        cases e2 : mb s1 with
        | exc c ns vs sto => rw [e2] at h; exact h.back st1
        | bad => rw [e2] at h; exact h
        | ok d2 s2 => rw [e2] at h; exact fun x2 v2 H2 k2 st2 r2 => h x2 v2 H2 k2 (st1.trans st2) r2
    | _ => exact h.elim
theorem dv_or (ha : PE X a (tD T W ma)) (hb : PE X (.BoolOp .Or (b :: rest) pos) (tD T W mb)) : PE X (.BoolOp .Or (a :: b :: rest) pos) (tD T W (mOrV ma mb)) := PE.imp (pe_or ha hb) fun σ H Q ⟨x, s, k, h⟩ => by
  refine ⟨x, s, k, ?_⟩
  unfold mOrV M.bind M.pure at h
  cases e1 : ma s with
  | exc c ns vs sto => rw [e1] at h; exact h
  | bad => rw [e1] at h; exact h
  | ok d1 s1 =>
    rw [e1] at h
    intro x1 v1 H1 k1 st1 r1
    cases r1 with
    | bl q =>
      refine ⟨q, rfl, ?_⟩
      cases q with
      | true => rw [if_pos rfl]; exact h x1 _ H1 k1 st1 (.bl _)
      | false =>
        rw [if_neg Bool.false_ne_true]
        refine ⟨x1, s1, k1, ?_⟩
        simp only at h
        cases e2 : mb s1 with
        | exc c ns vs sto => rw [e2] at h; exact h.back st1
        | bad => rw [e2] at h; exact h
        | ok d2 s2 => rw [e2] at h; exact fun x2 v2 H2 k2 st2 r2 => h x2 v2 H2 k2 (st1.trans st2) r2
    | _ => exact h.elim
theorem dv_not (ha : PE X a (tD T W ma)) : PE X (.UnaryOp .Not a pos) (tD T W (mNotV ma)) := PE.imp (pe_not ha) fun σ H Q ⟨x, s, k, h⟩ => by
  refine ⟨x, s, k, ?_⟩
  unfold mNotV M.bind M.pure at h
  cases e1 : ma s with
  | exc c ns vs sto => rw [e1] at h; exact h
  | bad => rw [e1] at h; exact h
  | ok d1 s1 =>
    rw [e1] at h
    intro x1 v1 H1 k1 st1 r1
    cases r1 with
    | bl q => exact ⟨q, rfl, h x1 _ H1 k1 st1 (.bl _)⟩
    | _ => exact h.elim
end
end Ev

/-! E7: ==, is, in, isinstance, len, int, abs, slices, texts. -/
namespace Ev
open PySem PySem.Spec L2
/-! ### data without boxes, as the library's -/
mutual
def D.py : D → PyData
  | .non => .none
  | .bl b => .bool b
  | .int i => .int i
  | .str s => .str s
  | .lst xs => .list (pys xs)
  | .tup xs => .tuple (pys xs)
  | _ => .none
def pys : List D → List PyData
  | [] => []
  | d :: ds => d.py :: pys ds
end
mutual
def D.pure : D → Bool
  | .lst xs => pures xs
  | .tup xs => pures xs
  | .dic _ _ => false
  | .kd _ _ => false
  | .box _ => false
  | .ins _ _ _ => false
  | _ => true
def pures : List D → Bool
  | [] => true
  | d :: ds => d.pure && pures ds
end
mutual
theorem Rep.dp {T : Tx} {io : Io} {G H : Hp} (le : Le G H) : ∀ {v : V} {d : D}, Rep T io G v d → d.pure = true → Dp T.K H v d.py
  | _, _, .non, _ => .non
  | _, _, .bl b, _ => .bl b
  | _, _, .int i, _ => .int i
  | _, _, .str x, _ => .str x
  | _, _, .lst s r, h => .lst (le.sqL s) (Reps.dp le r h)
  | _, _, .tup s r, h => .tup (le.sqT s) (Reps.dp le r h)
  | _, _, .box _ _, h => by cases h
  | _, _, .dic _ _ _ _, h => by cases h
  | _, _, .kd _ _ _ _, h => by cases h
theorem Reps.dp {T : Tx} {io : Io} {G H : Hp} (le : Le G H) : ∀ {v : List V} {d : List D}, Reps T io G v d → pures d = true → DpAll T.K H v (pys d)
  | _, _, .nil, _ => .nil
  | _, _, .cons a r, h => by
    unfold pures at h
    rw [Bool.and_eq_true] at h
    exact .cons (Rep.dp le a h.1) (Reps.dp le r h.2)
end
def gEqD (a b : D) : Option D := if (a.pure && b.pure && SeqAt.shaped a.py && SeqAt.shaped b.py) = true then some (.bl (PyData.eqv a.py b.py)) else none
def gEq (a b : D) : Option D := match a, b with
  | .int i, .int j => some (.bl (decide (i = j)))
  | .str i, .str j => some (.bl (decide (i = j)))
  | .bl i, .bl j => some (.bl (decide (i = j)))
  | .non, .non => some (.bl true)
  | a, b => gEqD a b
def gNe (a b : D) : Option D := match gEq a b with
  | some (.bl k) => some (.bl (!k))
  | _ => none
section
variable {T : Tx} {X : Cx} {W : WX} {a b c : Expr} {ma mb mc : M D} {pos : Pos}
theorem gEqD_bl {a b z : D} (h : gEqD a b = some z) : ∃ k, z = .bl k := by
  unfold gEqD at h
  split at h
  · cases h; exact ⟨_, rfl⟩
  · cases h
theorem gEq_bl {a b z : D} (h : gEq a b = some z) : ∃ k, z = .bl k := by
  unfold gEq at h
  split at h
  all_goals first | (cases h; exact ⟨_, rfl⟩) | exact gEqD_bl h
theorem eq_cases {io : Io} {G H : Hp} {v u : V} {d e : D} {k : Bool} (r1 : Rep T io G v d) (r2 : Rep T io G u e) (le : Le G H) (h : gEq d e = some (.bl k)) :
    (scal v u = true ∧ decide (v = u) = k) ∨ ∃ d' e', Dp T.K H v d' ∧ Dp T.K H u e' ∧ SeqAt.shaped d' = true ∧ SeqAt.shaped e' = true ∧ PyData.eqv d' e' = k := by
  unfold gEq at h
  split at h
  · cases h; cases r1; cases r2; exact .inl ⟨rfl, by simp⟩
  · cases h; cases r1; cases r2; exact .inl ⟨rfl, by simp⟩
  · cases h; cases r1; cases r2; exact .inl ⟨rfl, by simp⟩
  · cases h; cases r1; cases r2; exact .inl ⟨rfl, rfl⟩
  · unfold gEqD at h
    split at h
    · rename_i hc
      simp only [Bool.and_eq_true] at hc
      obtain ⟨⟨⟨p1, p2⟩, s1⟩, s2⟩ := hc
      injection h with h
      injection h with h
      exact .inr ⟨_, _, r1.dp le p1, r2.dp le p2, s1, s2, h⟩
    · cases h
def rEqA (K : PySem.W.Frag) : R2 := fun x y H Q => rEq x y H Q ∨ rEqD K x y H Q
def rNeA (K : PySem.W.Frag) : R2 := fun x y H Q => rNe x y H Q ∨ rNeD K x y H Q
theorem op_eqA (hu : X.A.units + 64 < cLine) : OpR X (compareOp .Eq) (rEqA X.K) := op_eq.or (op_eqD hu)
theorem op_neA (hu : X.A.units + 64 < cLine) : OpR X (compareOp .NotEq) (rNeA X.K) := op_ne.or (op_neD hu)
theorem p_eq (hK : X.K = T.K) : P2 T (rEqA X.K) gEq := fun io G v u d e z H Q r1 r2 le q k => by
  rw [hK]
  obtain ⟨b, rfl⟩ := gEq_bl q
  rcases eq_cases r1 r2 le q with ⟨h1, h2⟩ | ⟨d', e', h1, h2, h3, h4, h5⟩
  · exact .inl ⟨h1, by rw [h2]; exact k G _ H (.refl le) (.bl _)⟩
  · exact .inr ⟨d', e', h1, h2, h3, h4, by rw [h5]; exact k G _ H (.refl le) (.bl _)⟩
theorem p_ne (hK : X.K = T.K) : P2 T (rNeA X.K) gNe := fun io G v u d e z H Q r1 r2 le q k => by
  rw [hK]
  unfold gNe at q
  cases q1 : gEq d e with
  | none => rw [q1] at q; cases q
  | some z' =>
    rw [q1] at q
    obtain ⟨b, rfl⟩ := gEq_bl q1
    cases q
    rcases eq_cases r1 r2 le q1 with ⟨h1, h2⟩ | ⟨d', e', h1, h2, h3, h4, h5⟩
    · exact .inl ⟨h1, by rw [h2]; exact k G _ H (.refl le) (.bl _)⟩
    · exact .inr ⟨d', e', h1, h2, h3, h4, by rw [h5]; exact k G _ H (.refl le) (.bl _)⟩
theorem de_eq (hK : X.K = T.K) {k0 : Nat} (hr : Room k0 X.A) (ha : PE X a (tD T W ma)) (hb : PE X b (tD T W mb)) : PE X (.Compare a [.Eq] [b] pos) (tD T W (m2 gEq ma mb)) := de_cmp (op_eqA hr.units) (p_eq hK) ha hb (nomark _)
theorem de_ne (hK : X.K = T.K) {k0 : Nat} (hr : Room k0 X.A) (ha : PE X a (tD T W ma)) (hb : PE X b (tD T W mb)) : PE X (.Compare a [.NotEq] [b] pos) (tD T W (m2 gNe ma mb)) := de_cmp (op_neA hr.units) (p_ne hK) ha hb (nomark _)
theorem dt_eq (hK : X.K = T.K) {k0 : Nat} (hr : Room k0 X.A) (ha : PE X a (tD T W ma)) (hb : PE X b (tD T W mb)) : PT X (.Compare a [.Eq] [b] pos) (tB T W (mT (m2 gEq ma mb))) := dt_cmp (op_eqA hr.units) (p_eq hK) ha hb (nomark _)
theorem dt_ne (hK : X.K = T.K) {k0 : Nat} (hr : Room k0 X.A) (ha : PE X a (tD T W ma)) (hb : PE X b (tD T W mb)) : PT X (.Compare a [.NotEq] [b] pos) (tB T W (mT (m2 gNe ma mb))) := dt_cmp (op_neA hr.units) (p_ne hK) ha hb (nomark _)
/-! ### is -/
def isNon : D → Bool
  | .non => true
  | _ => false
def gIs (a b : D) : Option D := match a, b with
  | .bl i, .bl j => some (.bl (decide (i = j)))
  | a, .non => some (.bl (isNon a))
  | _, _ => none
def gIsNot (a b : D) : Option D := match a, b with
  | .bl i, .bl j => some (.bl (!decide (i = j)))
  | a, .non => some (.bl (!isNon a))
  | _, _ => none
theorem Rep.isNon {io : Io} {G : Hp} {v : V} {d : D} (r : Rep T io G v d) : decide (v = .non) = isNon d := by
  cases r <;> rfl
def rIsA : R2 := fun x y H Q => (y = .non ∧ Q (.bl (decide (x = .non))) H) ∨ ∃ a b, x = .bl a ∧ y = .bl b ∧ Q (.bl (decide (a = b))) H
def rIsNotA : R2 := fun x y H Q => (y = .non ∧ Q (.bl (!decide (x = .non))) H) ∨ ∃ a b, x = .bl a ∧ y = .bl b ∧ Q (.bl (!decide (a = b))) H
theorem op_isA : OpR X (compareOp .Is) rIsA := op_isN.or op_is_bl
theorem op_isNotA : OpR X (compareOp .IsNot) rIsNotA := op_notN.or op_isnot_bl
theorem p_is : P2 T rIsA gIs := fun io G v u d e z H Q r1 r2 le q k => by
  unfold gIs at q
  split at q
  · cases q; cases r1; cases r2; exact .inr ⟨_, _, rfl, rfl, k G _ H (.refl le) (.bl _)⟩
  · cases q; cases r2; exact .inl ⟨rfl, by rw [r1.isNon]; exact k G _ H (.refl le) (.bl _)⟩
  · cases q
theorem p_isNot : P2 T rIsNotA gIsNot := fun io G v u d e z H Q r1 r2 le q k => by
  unfold gIsNot at q
  split at q
  · cases q; cases r1; cases r2; exact .inr ⟨_, _, rfl, rfl, k G _ H (.refl le) (.bl _)⟩
  · cases q; cases r2; exact .inl ⟨rfl, by rw [r1.isNon]; exact k G _ H (.refl le) (.bl _)⟩
  · cases q
theorem de_is (ha : PE X a (tD T W ma)) (hb : PE X b (tD T W mb)) : PE X (.Compare a [.Is] [b] pos) (tD T W (m2 gIs ma mb)) := de_cmp op_isA p_is ha hb (nomark _)
theorem dt_is (ha : PE X a (tD T W ma)) (hb : PE X b (tD T W mb)) : PT X (.Compare a [.Is] [b] pos) (tB T W (mT (m2 gIs ma mb))) := dt_cmp op_isA p_is ha hb (nomark _)
theorem de_isnot (ha : PE X a (tD T W ma)) (hb : PE X b (tD T W mb)) : PE X (.Compare a [.IsNot] [b] pos) (tD T W (m2 gIsNot ma mb)) := de_cmp op_isNotA p_isNot ha hb (nomark _)
theorem dt_isnot (ha : PE X a (tD T W ma)) (hb : PE X b (tD T W mb)) : PT X (.Compare a [.IsNot] [b] pos) (tB T W (mT (m2 gIsNot ma mb))) := dt_cmp op_isNotA p_isNot ha hb (nomark _)
/-! ### in a written dict; its items -/
def gInK (a b : D) : Option D := match a, b with
  | .str z, .kd ks ds => some (.bl (lk ks ds z).isSome)
  | _, _ => none
def gNotInK (a b : D) : Option D := match a, b with
  | .str z, .kd ks ds => some (.bl (!(lk ks ds z).isSome))
  | _, _ => none
/-- a written dict at any place -/
def rInK (K : PySem.W.Frag) (w : World) (neg : Bool) : R2 := fun x y H Q => ∃ (z : Str) (r : Option Value) (p : Addr) (es : Array DictEntry) (n : Nat), KDict K w p es n ∧ x = .str z ∧ y = .ref p ∧ PySem.W.nsIn K p z = some r ∧ Q (.bl (if neg then !r.isSome else r.isSome)) H
theorem op_inK : OpR X (compareOp .In) (rInK X.K X.w false) := fun pins s σ H x y v u Q I rx ry ⟨z, r, p, es, n, kd, e1, e2, e3, q⟩ => op_in_kd kd pins s σ H x y v u Q I rx ry ⟨z, r, e1, e2, e3, q⟩
theorem op_notInK : OpR X (compareOp .NotIn) (rInK X.K X.w true) := fun pins s σ H x y v u Q I rx ry ⟨z, r, p, es, n, kd, e1, e2, e3, q⟩ => op_notIn_kd kd pins s σ H x y v u Q I rx ry ⟨z, r, e1, e2, e3, q⟩
theorem p_inK (hK : X.K = T.K) (hw : X.w = T.w) : P2 T (rInK X.K X.w false) gInK := fun io G v u d e z H Q r1 r2 le q k => by
  rw [hK, hw]
  unfold gInK at q
  split at q
  · rename_i y ks ds
    cases q
    cases r1
    cases r2 with
    | kd kd h1 h2 h3 =>
      cases el : lk ks ds y with
      | none => exact ⟨y, none, _, _, _, kd, rfl, rfl, h3 y el, by rw [el] at k; exact k G _ H (.refl le) (.bl _)⟩
      | some d' =>
        obtain ⟨u', e1, _⟩ := h1 y d' el
        exact ⟨y, some u', _, _, _, kd, rfl, rfl, e1, by rw [el] at k; exact k G _ H (.refl le) (.bl _)⟩
  · cases q
theorem p_notInK (hK : X.K = T.K) (hw : X.w = T.w) : P2 T (rInK X.K X.w true) gNotInK := fun io G v u d e z H Q r1 r2 le q k => by
  rw [hK, hw]
  unfold gNotInK at q
  split at q
  · rename_i y ks ds
    cases q
    cases r1
    cases r2 with
    | kd kd h1 h2 h3 =>
      cases el : lk ks ds y with
      | none => exact ⟨y, none, _, _, _, kd, rfl, rfl, h3 y el, by rw [el] at k; exact k G _ H (.refl le) (.bl _)⟩
      | some d' =>
        obtain ⟨u', e1, _⟩ := h1 y d' el
        exact ⟨y, some u', _, _, _, kd, rfl, rfl, e1, by rw [el] at k; exact k G _ H (.refl le) (.bl _)⟩
  · cases q
/-! ### in a list, a tuple of flat things; a text in a text -/
def D.toV : D → Option V
  | .non => some .non | .bl b => some (.bl b) | .int i => some (.int i) | .str s => some (.str s)
  | _ => none
theorem Rep.toV {io : Io} {G : Hp} {v v' : V} {d : D} (r : Rep T io G v d) (h : d.toV = some v') : v = v' ∧ flatV v = true := by
  cases r <;> first | (cases h; done) | (cases h; exact ⟨rfl, rfl⟩)
def toVs : List D → Option (List V)
  | [] => some []
  | d :: ds => match d.toV, toVs ds with
    | some v, some vs => some (v :: vs)
    | _, _ => none
theorem Reps.toVs {io : Io} {G : Hp} : ∀ {vs vs' : List V} {ds : List D}, Reps T io G vs ds → toVs ds = some vs' → vs = vs' ∧ vs.all flatV = true
  | _, _, _, .nil, h => by cases h; exact ⟨rfl, rfl⟩
  | _, _, _, .cons (d := d) (ds := ds) a r, h => by
    unfold Ev.toVs at h
    cases e1 : d.toV with
    | none => rw [e1] at h; cases h
    | some v =>
      cases e2 : Ev.toVs ds with
      | none => rw [e1, e2] at h; cases h
      | some vs =>
        rw [e1, e2] at h
        cases h
        obtain ⟨h1, h2⟩ := a.toV e1
        obtain ⟨h3, h4⟩ := Reps.toVs r e2
        subst h1 h3
        exact ⟨rfl, by simp [h2, h4]⟩
def inD (a b : D) : Option Bool := match a, b with
  | .str i, .str j => some (!(Builtin.Str.occurrences j i 0 j.length 1).isEmpty)
  | a, .lst xs => match a.toV, toVs xs with
    | some v, some vs => some (inV v vs)
    | _, _ => none
  | a, .tup xs => match a.toV, toVs xs with
    | some v, some vs => some (inV v vs)
    | _, _ => none
  | .str z, .kd ks ds => some (lk ks ds z).isSome
  | _, _ => none
def gIn (a b : D) : Option D := (inD a b).map .bl
def gNotIn (a b : D) : Option D := (inD a b).map fun k => .bl (!k)
def rInA (K : PySem.W.Frag) (w : World) : R2 := fun x y H Q => (∃ i j, x = .str i ∧ y = .str j ∧ Q (.bl (!(Builtin.Str.occurrences j i 0 j.length 1).isEmpty)) H) ∨ rIn K false x y H Q ∨ rInK K w false x y H Q
def rNotInA (K : PySem.W.Frag) (w : World) : R2 := fun x y H Q => (∃ i j, x = .str i ∧ y = .str j ∧ Q (.bl (!(!(Builtin.Str.occurrences j i 0 j.length 1).isEmpty))) H) ∨ rIn K true x y H Q ∨ rInK K w true x y H Q
theorem op_inA : OpR X (compareOp .In) (rInA X.K X.w) := op_in_str.or (op_in_seq.or op_inK)
theorem op_notInA : OpR X (compareOp .NotIn) (rNotInA X.K X.w) := op_notIn_str.or (op_notIn_seq.or op_notInK)
theorem in_cases {io : Io} {G H : Hp} {v u : V} {d e : D} {k : Bool} (r1 : Rep T io G v d) (r2 : Rep T io G u e) (le : Le G H) (h : inD d e = some k) :
    (∃ i j, v = .str i ∧ u = .str j ∧ (!(Builtin.Str.occurrences j i 0 j.length 1).isEmpty) = k) ∨ (∃ p xs, u = .ref p ∧ (SqL T.K H p xs ∨ SqT T.K H p xs) ∧ flatV v = true ∧ xs.all flatV = true ∧ inV v xs = k) ∨
      ∃ (z : Str) (r : Option Value) (p : Addr) (es : Array DictEntry) (n : Nat), KDict T.K T.w p es n ∧ v = .str z ∧ u = .ref p ∧ PySem.W.nsIn T.K p z = some r ∧ r.isSome = k := by
  unfold inD at h
  split at h
  · cases h; cases r1; cases r2; exact .inl ⟨_, _, rfl, rfl, rfl⟩
  · rename_i xs
    cases r2 with
    | lst s rs =>
      cases e1 : d.toV with
      | none => rw [e1] at h; cases h
      | some v1 =>
        cases e2 : Ev.toVs xs with
        | none => rw [e1, e2] at h; cases h
        | some vs =>
          rw [e1, e2] at h
          cases h
          obtain ⟨h1, h2⟩ := r1.toV e1
          obtain ⟨h3, h4⟩ := rs.toVs e2
          subst h1 h3
          exact .inr (.inl ⟨_, _, rfl, .inl (le.sqL s), h2, h4, rfl⟩)
  · rename_i xs
    cases r2 with
    | tup s rs =>
      cases e1 : d.toV with
      | none => rw [e1] at h; cases h
      | some v1 =>
        cases e2 : Ev.toVs xs with
        | none => rw [e1, e2] at h; cases h
        | some vs =>
          rw [e1, e2] at h
          cases h
          obtain ⟨h1, h2⟩ := r1.toV e1
          obtain ⟨h3, h4⟩ := rs.toVs e2
          subst h1 h3
          exact .inr (.inl ⟨_, _, rfl, .inr (le.sqT s), h2, h4, rfl⟩)
  · rename_i y ks ds
    cases h
    cases r1
    cases r2 with
    | kd kd h1 h2 h3 =>
      cases el : lk ks ds y with
      | none => exact .inr (.inr ⟨y, none, _, _, _, kd, rfl, rfl, h3 y el, rfl⟩)
      | some d' =>
        obtain ⟨u', e1, _⟩ := h1 y d' el
        exact .inr (.inr ⟨y, some u', _, _, _, kd, rfl, rfl, e1, rfl⟩)
  · cases h
theorem p_in (hK : X.K = T.K) (hw : X.w = T.w) : P2 T (rInA X.K X.w) gIn := fun io G v u d e z H Q r1 r2 le q k => by
  rw [hK, hw]
  unfold gIn at q
  cases e1 : inD d e with
  | none => rw [e1] at q; cases q
  | some b =>
    rw [e1] at q
    cases q
    have fin := k G _ H (.refl le) (.bl b)
    rcases in_cases r1 r2 le e1 with ⟨i, j, h1, h2, h3⟩ | ⟨p, xs, h1, h2, h3, h4, h5⟩ | ⟨y, r, p, es, n, h1, h2, h3, h4, h5⟩
    · exact .inl ⟨i, j, h1, h2, by rw [h3]; exact fin⟩
    · exact .inr (.inl ⟨p, xs, h1, h2, h3, h4, by rw [if_neg (by decide), h5]; exact fin⟩)
    · exact .inr (.inr ⟨y, r, p, es, n, h1, h2, h3, h4, by rw [if_neg (by decide), h5]; exact fin⟩)
theorem p_notIn (hK : X.K = T.K) (hw : X.w = T.w) : P2 T (rNotInA X.K X.w) gNotIn := fun io G v u d e z H Q r1 r2 le q k => by
  rw [hK, hw]
  unfold gNotIn at q
  cases e1 : inD d e with
  | none => rw [e1] at q; cases q
  | some b =>
    rw [e1] at q
    cases q
    have fin := k G _ H (.refl le) (.bl (!b))
    rcases in_cases r1 r2 le e1 with ⟨i, j, h1, h2, h3⟩ | ⟨p, xs, h1, h2, h3, h4, h5⟩ | ⟨y, r, p, es, n, h1, h2, h3, h4, h5⟩
    · exact .inl ⟨i, j, h1, h2, by rw [h3]; exact fin⟩
    · exact .inr (.inl ⟨p, xs, h1, h2, h3, h4, by rw [if_pos rfl, h5]; exact fin⟩)
    · exact .inr (.inr ⟨y, r, p, es, n, h1, h2, h3, h4, by rw [if_pos rfl, h5]; exact fin⟩)
theorem de_in (hK : X.K = T.K) (hw : X.w = T.w) (ha : PE X a (tD T W ma)) (hb : PE X b (tD T W mb)) (hm : behindInMarks .In b = false := by rfl) : PE X (.Compare a [.In] [b] pos) (tD T W (m2 gIn ma mb)) := de_cmp op_inA (p_in hK hw) ha hb hm
theorem dt_in (hK : X.K = T.K) (hw : X.w = T.w) (ha : PE X a (tD T W ma)) (hb : PE X b (tD T W mb)) (hm : behindInMarks .In b = false := by rfl) : PT X (.Compare a [.In] [b] pos) (tB T W (mT (m2 gIn ma mb))) := dt_cmp op_inA (p_in hK hw) ha hb hm
theorem de_notin (hK : X.K = T.K) (hw : X.w = T.w) (ha : PE X a (tD T W ma)) (hb : PE X b (tD T W mb)) (hm : behindInMarks .NotIn b = false := by rfl) : PE X (.Compare a [.NotIn] [b] pos) (tD T W (m2 gNotIn ma mb)) := de_cmp op_notInA (p_notIn hK hw) ha hb hm
theorem dt_notin (hK : X.K = T.K) (hw : X.w = T.w) (ha : PE X a (tD T W ma)) (hb : PE X b (tD T W mb)) (hm : behindInMarks .NotIn b = false := by rfl) : PT X (.Compare a [.NotIn] [b] pos) (tB T W (mT (m2 gNotIn ma mb))) := dt_cmp op_notInA (p_notIn hK hw) ha hb hm
/-! ### len, int, abs, min, max -/
def gLen : List D → Option D
  | [.lst xs] => some (.int xs.length)
  | [.tup xs] => some (.int xs.length)
  | [.str z] => if z.length ≤ sizeLine then some (.int z.length) else none
  | _ => none
def rLenA (K : PySem.W.Frag) : List V → Hp → VK → Prop := fun xs H Q => (∃ p ys, xs = [.ref p] ∧ (SqL K H p ys ∨ SqT K H p ys) ∧ Q (.int ys.length) H) ∨ ∃ z, xs = [.str z] ∧ z.length ≤ sizeLine ∧ Q (.int z.length) H
theorem call_lenA : CallR X (.builtin "len") (rLenA X.K) := call_len_seq.or call_len_str
theorem p_len (hK : X.K = T.K) : PL T (rLenA X.K) gLen := fun io G vs ds z H Q r le q k => by
  rw [hK]
  unfold gLen at q
  split at q
  · cases q
    cases r with
    | cons r1 r2 =>
      cases r2
      cases r1 with
      | lst s rs => exact .inl ⟨_, _, rfl, .inl (le.sqL s), by rw [rs.length]; exact k G _ H (.refl le) (.int _)⟩
  · cases q
    cases r with
    | cons r1 r2 =>
      cases r2
      cases r1 with
      | tup s rs => exact .inl ⟨_, _, rfl, .inr (le.sqT s), by rw [rs.length]; exact k G _ H (.refl le) (.int _)⟩
  · split at q
    · rename_i hz
      cases q
      cases r with
      | cons r1 r2 =>
        cases r2
        cases r1
        exact .inr ⟨_, rfl, hz, k G _ H (.refl le) (.int _)⟩
    · cases q
  · cases q
def gInt : List D → Option D
  | [.int i] => some (.int i)
  | [.bl b] => some (.int (if b = true then 1 else 0))
  | [.str z] => match PySem.intText? z with
    | some n => if z.length ≤ 640 then some (.int n) else none
    | none => none
  | _ => none
def rIntA : List V → Hp → VK → Prop := fun xs H Q => ((∃ i, xs = [.int i] ∧ Q (.int i) H) ∨ ∃ k, xs = [.bl k] ∧ Q (.int (if k then 1 else 0)) H) ∨ ∃ a n, xs = [.str a] ∧ PySem.intText? a = some n ∧ a.length ≤ 640 ∧ Q (.int n) H
theorem call_intA : CallR X (.type "int") rIntA := call_int1.or call_int_str
theorem p_int : PL T rIntA gInt := fun io G vs ds z H Q r le q k => by
  unfold gInt at q
  split at q
  · cases q
    cases r with
    | cons r1 r2 => cases r2; cases r1; exact .inl (.inl ⟨_, rfl, k G _ H (.refl le) (.int _)⟩)
  · cases q
    cases r with
    | cons r1 r2 => cases r2; cases r1; exact .inl (.inr ⟨_, rfl, k G _ H (.refl le) (.int _)⟩)
  · split at q
    · rename_i n hn
      split at q
      · rename_i hz
        cases q
        cases r with
        | cons r1 r2 => cases r2; cases r1; exact .inr ⟨_, _, rfl, hn, hz, k G _ H (.refl le) (.int _)⟩
      · cases q
    · cases q
  · cases q
def gAbs : List D → Option D
  | [.int i] => some (.int (if i < 0 then -i else i))
  | _ => none
theorem p_abs : PL T (fun xs H Q => ∃ i, xs = [.int i] ∧ Q (.int (if i < 0 then -i else i)) H) gAbs := fun io G vs ds z H Q r le q k => by
  unfold gAbs at q
  split at q
  · cases q
    cases r with
    | cons r1 r2 => cases r2; cases r1; exact ⟨_, rfl, k G _ H (.refl le) (.int _)⟩
  · cases q
def gMin2 : List D → Option D
  | [.int i, .int j] => some (.int (if j < i then j else i))
  | _ => none
theorem p_min2 : PL T (fun xs H Q => ∃ i j, xs = [.int i, .int j] ∧ Q (.int (if j < i then j else i)) H) gMin2 := fun io G vs ds z H Q r le q k => by
  unfold gMin2 at q
  split at q
  · cases q
    cases r with
    | cons r1 r2 =>
      cases r2 with
      | cons r3 r4 => cases r4; cases r1; cases r3; exact ⟨_, _, rfl, k G _ H (.refl le) (.int _)⟩
  · cases q
end
end Ev

/-! E8: the end of a law over data. -/
namespace Ev
open PySem PySem.Spec L2
/-- what the making of lambdas asks of the written part: code objects and their tables -/
def TabsAt (base : Heap) (mg : Str → Option Value) (cs : List (Addr × Addr)) : Prop := ∀ p ∈ cs, LamX.TabB base mg p.1 p.2
/-- the tables at the start: empty, outside the module's known part -/
structure TabE (K : PySem.W.Frag) (h : Heap) (cs : List (Addr × Addr)) : Prop where
  at_ : ∀ p ∈ cs, h.get? p.2 = some { cls := .none, data := .fields #[] }
  out : ∀ p ∈ cs, K.lookup p.2 = none
  hd : ∀ p ∈ cs, PySem.W.CodeHd h p.1 p.2
theorem TabE.nil {K : PySem.W.Frag} {h : Heap} : TabE K h [] := ⟨fun _ q => (by cases q), fun _ q => (by cases q), fun _ q => (by cases q)⟩
def tblH (cs : List (Addr × Addr)) (H : Hp) : Hp := fun b => if b ∈ cs.map (·.2) then some (.tbl #[]) else H b
theorem tblH_in {cs : List (Addr × Addr)} {H : Hp} {b : Addr} (h : b ∈ cs.map (·.2)) : tblH cs H b = some (.tbl #[]) := if_pos h
theorem tblH_out {cs : List (Addr × Addr)} {H : Hp} {b : Addr} (h : b ∉ cs.map (·.2)) : tblH cs H b = H b := if_neg h
/-- the call of the law's def at the heap behind the top -/
theorem end_call {P : Program} {w : World} {K : PySem.W.Frag} {ca : Str → Addr} {mg mb : Str → Option Value} {k : Nat} {fa a : Addr} {fd : FuncData} {y : Str} {F : Fn} {s1 : Shared} {vs : List Value} {ns : List Int} {cs : List (Addr × Addr)} {tb : List (Addr × Str)}
    (kin : K.In s1.heap) (gl : s1.heap.Ns mainGlobals mg) (bu : s1.heap.Ns builtinsNs mb) (bv : ∀ z : Str, z ≠ "__name__" → mb z = bootBuiltins z) (lim : s1.heap.NoLimit) (gens : s1.gens = #[])
    (TE : TabE K s1.heap cs) (htb : ∀ p ∈ tb, p.1 ∈ cs.map (·.2)) (bmn : ∃ (bm : Addr) (ob : Obj), mg "__builtins__" = some (.ref bm) ∧ bm ≠ builtinsNs ∧ s1.heap.get? bm = some ob ∧ ob.cls = .type "module" ∧ ob.dict = some builtinsNs ∧ ob.data = .plain)
    (at_ : s1.heap.get? a = some { cls := .type "list", data := .seq vs.toArray }) (hin : PyProof.Rows.IntsAre vs ns) (few : ns.length ≤ sizeLine) (room : Room k callerA)
    (FO : ∀ base : Heap, K.In base → base.Ns mainGlobals mg → TabsAt base mg cs → FnG P w K mg base (L2.CX P w) k fa fd [y] (spD { K := K, w := w, ca := ca, tb := tb } 1 F)) (bind : ∀ (s : Shared) (u : Value), BindsTo s fd ⟨[u], []⟩ [(y, u)])
    (run : ∃ sto, F [.lst (ns.map .int)] [] = .rt (.bl true) sto) :
    codeAny (model P w) callerA (.call (.ref fa) ⟨[.ref a], []⟩) (fun r s' => r = .ok (.ret (.bool true)) ∧ OldK s1.heap s'.heap ∧ s'.os = s1.os ∧ PyProof.Rows.AllBare s'.gens) s1 := by
  obtain ⟨sto, run⟩ := run
  have rv : Vals (ns.map V.int) vs := vals_of_ints hin
  have tat : ∀ b, b ∈ cs.map (·.2) → s1.heap.get? b = some { cls := .none, data := .fields #[] } ∧ K.lookup b = none := fun b hb => by
    obtain ⟨p, hp, rfl⟩ := List.mem_map.mp hb
    exact ⟨TE.at_ p hp, TE.out p hp⟩
  have aT : a ∉ cs.map (·.2) := fun z => by
    have q := (tat a z).1
    rw [at_] at q
    cases q
  -- what is tracked at the start, but for the tables: the script, or nothing where the module knows it
  obtain ⟨H0, hS0, hok0, only0, known0⟩ : ∃ H : Hp, SqL K H a (ns.map V.int) ∧ HOk P w H s1.heap ∧ (∀ b u, H b = some u → b = a ∧ ∃ o xs, u = .frz o (.lst xs)) ∧ ((∃ u, H a = some u) → K.lookup a = none) := by
    cases q : K.lookup a with
    | some o =>
      have e := kin a o q
      rw [at_] at e
      cases e
      exact ⟨fun _ => none, .inr ⟨_, vs.toArray, _, q, rfl, rfl, rfl, by rw [List.size_toArray, hin.length]; exact few, by simpa using rv⟩, (show HOk P w (fun _ => none) s1.heap from fun b u z => (nomatch z)), (fun b u z => (nomatch z)), (fun ⟨u, z⟩ => (nomatch z))⟩
    | none =>
      refine ⟨L2.upd (fun _ => none) a (.frz { cls := .type "list", data := .seq vs.toArray } (.lst (ns.map V.int))), .inl (.inr ⟨_, upd_same⟩), fun b u z => ?_, fun b u z => ?_, fun _ => rfl⟩
      · by_cases hb : b = a
        · subst hb
          rw [upd_same] at z
          cases z
          exact ⟨at_, by rw [List.length_map]; exact few, vs, 0, rv, at_⟩
        · rw [upd_ne hb] at z; cases z
      · by_cases hb : b = a
        · subst hb
          rw [upd_same] at z
          cases z
          exact ⟨rfl, _, _, rfl⟩
        · rw [upd_ne hb] at z; cases z
  obtain ⟨H, eH⟩ : ∃ H, H = tblH cs H0 := ⟨_, rfl⟩
  have hTin : ∀ b, b ∈ cs.map (·.2) → H b = some (.tbl #[]) := fun b hb => by rw [eH]; exact tblH_in hb
  have hTout : ∀ b, b ∉ cs.map (·.2) → H b = H0 b := fun b hb => by rw [eH]; exact tblH_out hb
  have only : ∀ b u, H b = some u → (b ∈ cs.map (·.2) ∧ u = .tbl #[]) ∨ (b = a ∧ ∃ o xs, u = .frz o (.lst xs)) := fun b u e => by
    by_cases hb : b ∈ cs.map (·.2)
    · rw [hTin b hb] at e; cases e; exact .inl ⟨hb, rfl⟩
    · rw [hTout b hb] at e; exact .inr (only0 b u e)
  have le0 : Le H0 H := fun b u e => by rw [hTout b (fun z => aT ((only0 b u e).1 ▸ z))]; exact e
  have hS : SqL K H0 a (ns.map V.int) := hS0
  have hok : HOk P w H s1.heap := fun b u e => by
    by_cases hb : b ∈ cs.map (·.2)
    · rw [hTin b hb] at e; cases e
      exact (tat b hb).1
    · rw [hTout b hb] at e
      have z := hok0 b u e
      obtain ⟨_, o, xs, rfl⟩ := only0 b u e
      exact z
  have notD : ∀ {b : Addr} {o : Obj}, s1.heap.get? b = some o → (∀ xs n, o.data ≠ .seq xs n) → o.data ≠ .fields #[] → H b = none := fun {b o} e d1 d2 => by
    cases q : H b with
    | none => rfl
    | some u =>
      rcases only b u q with ⟨hb, _⟩ | ⟨rfl, _⟩
      · rw [(tat b hb).1] at e
        cases e
        exact absurd rfl d2
      · rw [at_] at e
        cases e
        exact absurd rfl (d1 _ _)
  have nsH : ∀ {b : Addr} {m : Str → Option Value}, s1.heap.Ns b m → (hidT s1.heap H).Ns b m := fun ⟨o, es, ep, e, d, r⟩ => ⟨o, es, ep, hidT_get e (notD e (fun _ _ z => by rw [d] at z; cases z) fun z => by rw [d] at z; cases z), d, r⟩
  have kinH : K.In (hidT s1.heap H) := fun b o e => hidT_get (kin b o e) (by
    cases q : H b with
    | none => rfl
    | some u =>
      rcases only b u q with ⟨hb, _⟩ | ⟨rfl, _⟩
      · rw [(tat b hb).2] at e; cases e
      · rw [hTout b aT] at q
        rw [known0 ⟨u, q⟩] at e
        cases e)
  have md : Mod K mg (hidT s1.heap H) := ⟨kinH, nsH gl, ⟨mb, nsH bu, bv⟩, match lim with | ⟨mc, h1, h2⟩ => ⟨mc, nsH h1, h2⟩⟩
  have e0 : Env0 P w K mg (hidT s1.heap H) callerA [] s1 H := ⟨rfl, md, fun b o e => of_hidT e, Nat.le_of_eq (hidT_size _ _), trivial, fun b hb => (nomatch hb), hok, PyProof.Rows.AllBare.of_eq gens⟩
  have TB : TabsAt (hidT s1.heap H) mg cs := fun p hp => by
    have hat := TE.at_ p hp
    refine ⟨?_, ?_, fun z => ?_⟩
    · obtain ⟨o, us, file, tf, flags, tg, inF, text, tt, e1, r1, r2, r3, r⟩ := TE.hd p hp
      exact ⟨o, us, file, tf, flags, tg, inF, text, tt, hidT_get e1 (notD e1 (fun _ _ z => by rw [r2] at z; cases z) fun z => by rw [r2] at z; cases z; simp at r3), r1, r2, r3, r⟩
    · obtain ⟨bm, ob, b1, b2, b3, b4, b5, b6⟩ := bmn
      refine ⟨bm, ob, b1, b2, fun q => ?_, fun q => ?_, hidT_get b3 (notD b3 (fun _ _ z => by rw [b6] at z; cases z) fun z => by rw [b6] at z; cases z), b4, b5, b6⟩
      · obtain ⟨o, es, ep, e, d, _⟩ := gl
        rw [← q, b3] at e
        cases e
        rw [b6] at d; cases d
      · rw [q, hat] at b3
        cases b3
        cases b6
    · obtain ⟨o, es, ep, e, d, _⟩ := gl
      rw [z, hat] at e
      cases e
      cases d
  have sp : spD { K := K, w := w, ca := ca, tb := tb } 1 F [.ref a] H (fun v _ => v = .bl true) (fun _ _ _ => False) := by
    refine ⟨⟨⟨fun _ => 0, 0⟩, H0, fun b => b ∈ tb.map (·.1)⟩, _, [], ⟨rfl, fun i xs z => by simp at z, fun i hi => by simp at hi, fun i j hi => by simp at hi, le0, fun b o z q => ?_, fun b q => ?_, fun p hp => ⟨List.mem_map.mpr ⟨p, hp, rfl⟩, #[], hTin _ (htb p hp), True.intro, fun pos cv hc => by
        have z : codeAmong pos [] = some cv := hc
        simp [codeAmong] at z⟩, ⟨.refl _, fun _ _ z => by cases z⟩⟩, fun b q => ?_, .cons (.lst hS (.ints ns)) .nil, rfl, ?_⟩
    · obtain ⟨p, hp, rfl⟩ := List.mem_map.mp q
      exact aT ((only0 _ o z).1 ▸ htb p hp)
    · obtain ⟨p, hp, rfl⟩ := List.mem_map.mp q
      exact ⟨_, hTin _ (htb p hp)⟩
    · obtain ⟨p, hp, rfl⟩ := List.mem_map.mp q
      exact .inr ⟨p, hp, rfl⟩
    · rw [run]
      intro x' v H' _ _ r
      cases r
      rfl
  refine codeAny_mono ((FO _ kinH (nsH gl) TB).run callerA [] s1 H ⟨[.ref a], []⟩ [.ref a] [.ref a] _ _ rfl room e0 (bind s1 _) (.cons rfl .nil) sp) fun r s' h => ?_
  match r, h with
  | .error e, ⟨_, _, _, _, _, _, _, _, _, _, _, _, z⟩ => exact z.elim
  | .ok (.ret u), ⟨v, H', os, bare, un, hok', rr, q⟩ =>
    have q : v = .bl true := q
    subst q
    cases rr
    have tmore : ∀ b, b ∈ cs.map (·.2) → ∃ more : Array Value, s'.heap.get? b = some { cls := .none, data := .fields (#[] ++ more) } := fun b hb => by
      obtain ⟨more, z⟩ := un.tbls b #[] (hTin b hb)
      exact ⟨more, hok' b _ z⟩
    have rest : ∀ b o, b ∉ cs.map (·.2) → s1.heap.get? b = some o → s'.heap.get? b = some o := fun b o nb e => by
      cases z : H b with
      | none => exact un.keep b o e z (by simp [frs]) (by simp)
      | some u =>
        rcases only b u z with ⟨hb, _⟩ | ⟨_, ob, xs, rfl⟩
        · exact absurd hb nb
        · obtain ⟨e1, _⟩ := hok b _ z
          obtain ⟨e2, _⟩ := hok' b _ (un.frzs b ob _ z)
          rw [e] at e1
          cases e1
          exact e2
    refine ⟨rfl, ⟨fun b o e => ?_, fun b o e => ?_⟩, os, bare⟩
    · by_cases hb : b ∈ cs.map (·.2)
      · obtain ⟨more, z⟩ := tmore b hb
        have e2 := (tat b hb).1
        rw [e] at e2
        cases e2
        obtain ⟨p, hp, rfl⟩ := List.mem_map.mp hb
        exact .inr (.inl ⟨((TE.hd p hp).tab (TE.at_ p hp)).isCodeTable, rfl, #[], more, rfl, z⟩)
      · exact .inl (rest b o hb e)
    · by_cases hb : b ∈ cs.map (·.2)
      · obtain ⟨more, z⟩ := tmore b hb
        exact ⟨_, z⟩
      · exact ⟨o, rest b o hb e⟩
end Ev

/-! E9: isinstance, items of written dicts, slices, f-strings, repr, sorted. -/
namespace Ev
open PySem PySem.Spec L2
/-! ### isinstance of built-in types -/
def D.tyn : D → Option String
  | .non => some "NoneType" | .bl _ => some "bool" | .int _ => some "int" | .str _ => some "str" | .lst _ => some "list" | .tup _ => some "tuple" | .dic _ _ => some "dict" | .kd _ _ => some "dict"
  | _ => none
def isA (n t : String) : Bool := n == t || (n == "bool" && t == "int")
def tyNames : List String := ["int", "bool", "str", "list", "tuple", "dict"]
def ownNames : List String := ["NoneType", "bool", "int", "str", "list", "tuple", "dict"]
theorem isA_ok : ∀ n ∈ ownNames, ∀ t ∈ tyNames, kitB n t = some (isA n t) := by decide +kernel
theorem D.tyn_mem {d : D} {n : String} (h : d.tyn = some n) : n ∈ ownNames := by
  cases d <;> first | (cases h; done) | (cases h; decide)
def gIsi (ts : List String) (d : D) : Option D := match d.tyn with
  | some n => some (.bl (ts.any fun t => isA n t))
  | none => none
section
variable {T : Tx} {X : Cx} {W : WX} {e a b : Expr} {ma mb mc : M D} {pos : Pos}
theorem Rep.tyx {io : Io} {G H : Hp} {v : V} {d : D} {n : String} (r : Rep T io G v d) (le : Le G H) (h : d.tyn = some n) : TyX T.K H v (.type n) := by
  cases r with
  | non => cases h; exact .base .non
  | bl b => cases h; exact .base (.bl b)
  | int i => cases h; exact .base (.int i)
  | str x => cases h; exact .base (.str x)
  | lst s _ =>
    cases h
    rcases le.sqL s with (z | ⟨o, z⟩) | ⟨o, its, m, z, c, _⟩
    · exact .base (.lst z)
    · exact .base (.frz z)
    · exact .kList z c
  | tup s _ =>
    cases h
    rcases le.sqT s with (z | ⟨o, z⟩) | ⟨o, its, m, z, c, _⟩
    · exact .base (.tup z)
    · exact .fTuple z
    · exact .kTuple z c
  | box m _ => cases h
  | dic s _ _ _ =>
    cases h
    rcases le.rd s with z | ⟨o, z⟩
    · exact .base (.dK z)
    · exact .fDict z
  | kd k _ _ _ => cases h; exact .kDict k.at_ rfl
  | ins _ _ _ _ => cases h
theorem kitAny_ok {K : PySem.W.Frag} {n : String} : ∀ {ts : List String}, n ∈ ownNames → (∀ t ∈ ts, t ∈ tyNames) → PySem.W.kitAny K (.type n) (ts.map Value.type) = some (ts.any fun t => isA n t)
  | [], _, _ => kitAny_nil
  | t :: ts, hn, ht => kitAny_cons (b := isA n t) (kit_ty (isA_ok n hn t (ht t (List.mem_cons_self ..)))) (fun hb => by
      show PySem.W.kitAny K (.type n) (ts.map Value.type) = some (isA n t || ts.any fun t => isA n t)
      rw [hb, Bool.false_or]; exact kitAny_ok hn fun u hu => ht u (List.mem_cons_of_mem _ hu)) fun hb => by
      show (isA n t || ts.any fun t => isA n t) = true
      rw [hb, Bool.true_or]
theorem boot_isi : bootBuiltins "isinstance" = some (.builtin "isinstance") := PyProof.Rows.boot_isinstance
/-- isinstance(e, T) -/
theorem de_isi {t : Str} {n : String} {p p2 : Pos} (hK : X.K = T.K) (hg : Gl X "isinstance") (hm : X.mg "isinstance" = none) (hgt : Gl X t) (hmt : X.mg t = none) (hv : bootBuiltins t = some (.type n)) (hn : n ∈ tyNames) (he : PE X e (tD T W ma))
    (hnn : t ≠ "__name__" := by decide) (hdb : (t == ("__debug__" : Str)) = false := by decide)
    (hs : starEach [e, .Name t p2] X.env = (false, eval e X.env) :: starEach [.Name t p2] X.env := by rfl) (hs2 : starEach [.Name t p2] X.env = (false, eval (.Name t p2) X.env) :: starEach [] X.env := by rfl) (hpl : (backTo pos (starEach [.Name t p2] X.env)).any (·.1) = false := by rfl) :
    PE X (.Call (.Name "isinstance" p) [e, .Name t p2] [] pos) (tD T W (m1 (gIsi [n]) ma)) :=
  PE.imp (pe_callB call_isi hg hm boot_isi (pa_cons he (pa_cons (pe_bltn (v := .ty n) hgt hmt hv rfl hnn hdb) pa_nil hs2) hs) (he := hs) (hpl := hpl)) fun σ H Q h => by
    have h2 : tUn (fun x H Q => rIsi X.K [x, .ty n] H Q) (tD T W ma) σ H Q := t1 (fun io G v d z H Q r le q k => by
      rw [hK]
      unfold gIsi at q
      cases e1 : d.tyn with
      | none => rw [e1] at q; cases q
      | some m =>
        rw [e1] at q
        cases q
        have hb : ([n].any fun t => isA m t) = isA m n := by simp
        rw [hb] at k
        exact ⟨v, .ty n, .type m, .type n, isA m n, rfl, .ty n, r.tyx le e1, kit_ty (isA_ok m (D.tyn_mem e1) n hn), k G _ H (.refl le) (.bl _)⟩) h
    exact h2
/-- isinstance(e, (T, U)) -/
theorem de_isi2 {t u : Str} {n m : String} {p p2 p3 p4 : Pos} {kk : Nat} (hK : X.K = T.K) (hg : Gl X "isinstance") (hm : X.mg "isinstance" = none) (hgt : Gl X t) (hmt : X.mg t = none) (hv : bootBuiltins t = some (.type n)) (hn : n ∈ tyNames)
    (hgu : Gl X u) (hmu : X.mg u = none) (hvu : bootBuiltins u = some (.type m)) (hmm : m ∈ tyNames) (he : PE X e (tD T W ma))
    (hnn : t ≠ "__name__" := by decide) (hdb : (t == ("__debug__" : Str)) = false := by decide) (hnu : u ≠ "__name__" := by decide) (hdu : (u == ("__debug__" : Str)) = false := by decide)
    (hs : starEach [e, .Tuple [.Name t p2, .Name u p3] kk p4] X.env = (false, eval e X.env) :: starEach [.Tuple [.Name t p2, .Name u p3] kk p4] X.env := by rfl)
    (hs2 : starEach [.Tuple [.Name t p2, .Name u p3] kk p4] X.env = (false, eval (.Tuple [.Name t p2, .Name u p3] kk p4) X.env) :: starEach [] X.env := by rfl)
    (hs3 : starEach [.Name t p2, .Name u p3] X.env = (false, eval (.Name t p2) X.env) :: starEach [.Name u p3] X.env := by rfl) (hs4 : starEach [.Name u p3] X.env = (false, eval (.Name u p3) X.env) :: starEach [] X.env := by rfl)
    (hpl : (backTo pos (starEach [.Tuple [.Name t p2, .Name u p3] kk p4] X.env)).any (·.1) = false := by rfl) :
    PE X (.Call (.Name "isinstance" p) [e, .Tuple [.Name t p2, .Name u p3] kk p4] [] pos) (tD T W (m1 (gIsi [n, m]) ma)) :=
  PE.imp (pe_callB call_isiT hg hm boot_isi (pa_cons he (pa_cons (pe_tup (pa_cons (pe_bltn (v := .ty n) hgt hmt hv rfl hnn hdb) (pa_cons (pe_bltn (v := .ty m) hgu hmu hvu rfl hnu hdu) pa_nil hs4) hs3)) pa_nil hs2) hs) (he := hs) (hpl := hpl)) fun σ H Q h => by
    have h2 : tUn (fun x H Q => ∀ p, H p = none → rIsiT X.K [x, .ref p] (L2.upd H p (.tup [.ty n, .ty m])) Q) (tD T W ma) σ H Q := t1 (fun io G v d z H Q r le q k => by
      rw [hK]
      unfold gIsi at q
      cases e1 : d.tyn with
      | none => rw [e1] at q; cases q
      | some y =>
        rw [e1] at q
        cases q
        intro p hp
        have lu : Le H (L2.upd H p (.tup [.ty n, .ty m])) := Le.upd hp
        have gr : Grow G H G (L2.upd H p (.tup [.ty n, .ty m])) := ⟨.refl _, lu, le.trans lu, fun _ _ z => .inl z⟩
        refine ⟨v, p, [.ty n, .ty m], .type y, [n, m].map Value.type, _, rfl, upd_same, .cons (.ty n) (.cons (.ty m) .nil), r.tyx (le.trans lu) e1, kitAny_ok (D.tyn_mem e1) (fun t ht => ?_), k G _ _ gr (.bl _)⟩
        simp at ht
        rcases ht with rfl | rfl
        · exact hn
        · exact hmm) h
    obtain ⟨x, s, k, h2⟩ := h2
    refine ⟨x, s, k, ?_⟩
    cases e1 : ma s with
    | exc c ns vs sto => rw [e1] at h2; exact h2
    | bad => rw [e1] at h2; exact h2
    | ok d s' => rw [e1] at h2; exact fun x' v H' k' st r => ⟨by show 2 ≤ sizeLine; rw [sizeLine_eq]; omega, fun p hp => h2 x' v H' k' st r p hp⟩
/-! ### an item of a written dict -/
def gIxK (a b : D) : Option D := match a, b with
  | .kd ks ds, .str z => lk ks ds z
  | _, _ => none
theorem de_ixK (hK : X.K = T.K) (hw : X.w = T.w) (ha : PE X a (tD T W ma)) (hb : PE X b (tD T W mb)) (hs : PlainIx b) : PE X (.Subscript a b pos) (tD T W (m2 gIxK ma mb)) :=
  de_ix ix_kdict (fun io G v u d e z H Q r1 r2 le q k => by
    rw [hK, hw]
    unfold gIxK at q
    split at q
    · rename_i ks ds y
      cases r2
      cases r1 with
      | kd kd h1 h2 h3 =>
        obtain ⟨u', e1, e2⟩ := h1 y z q
        exact ⟨_, y, _, rfl, rfl, ⟨_, _, u', kd.at_, kd.lit, e1, e2⟩, k G _ H (.refl le) (h2 y z q |>.up (.refl _))⟩
    · cases q) ha hb hs
/-! ### slices -/
def cutD (xs : List D) (lo hi : Option Int) : List D := (xs.drop (HT.sIx xs.length 0 lo)).take (HT.sIx xs.length xs.length hi - HT.sIx xs.length 0 lo)
def mPart (m : Option (M D)) : M (Option Int) := match m with
  | none => M.pure none
  | some m => M.bind m fun d => match d with
    | .int i => M.pure (some i)
    | _ => fun _ => .bad
def gSl (a : D) (lo hi : Option Int) : Option D := match a with
  | .lst xs => some (.lst (cutD xs lo hi))
  | .tup xs => some (.tup (cutD xs lo hi))
  | .str z => if z.length ≤ sizeLine then some (.str (cutS z lo hi)) else none
  | _ => none
def mSl (ma : M D) (lo hi : Option (M D)) : M D := M.bind ma fun a => M.bind (mPart lo) fun l => M.bind (mPart hi) fun h => M.lift (gSl a l h)
def tO (T : Tx) (W : WX) (m : M (Option Int)) : TO := fun σ H Q => ∃ (x : Gh) (s : Sx), Ok T x s σ H ∧ match m s with
  | .ok o s' => ∀ x' H', Ok T x' s' σ H' → Stp x H x' H' → Q o H'
  | .exc c ns vs sto => XP T W x σ H c ns vs sto
  | .bad => False
theorem PO.imp {e : Option Expr} {t t' : TO} (h : PO X e t) (k : ∀ σ H Q, t' σ H Q → t σ H Q) : PO X e t' := ⟨fun pins s σ H Q I q => h.run pins s σ H Q I (k σ H Q q)⟩
theorem dp_none : PO X none (tO T W (mPart none)) := PO.imp po_none fun σ H Q ⟨x, s, k, h⟩ => h x H k (.refl _ _)
theorem dp_some (he : PE X e (tD T W ma)) : PO X (some e) (tO T W (mPart (some ma))) := PO.imp (po_some he) fun σ H Q ⟨x, s, k, h⟩ => by
  refine ⟨x, s, k, ?_⟩
  unfold mPart M.bind M.pure at h
  simp only at h
  cases e1 : ma s with
  | exc c ns vs sto => rw [e1] at h; exact h
  | bad => rw [e1] at h; exact h
  | ok d s' =>
    rw [e1] at h
    intro x' v H' k' st r
    cases r with
    | int i => exact ⟨i, rfl, h x' H' k' st⟩
    | _ => exact h.elim
def rSlAll (K : PySem.W.Frag) : V → Option Int → Option Int → Hp → VK → Prop := fun x lo hi H Q => rSlL K x lo hi H Q ∨ rSlA K x lo hi H Q ∨ ∃ z, x = .str z ∧ z.length ≤ sizeLine ∧ Q (.str (cutS z lo hi)) H
end
end Ev

/-! E10: slices, f-strings, texts' methods, repr, sorted. -/
namespace Ev
open PySem PySem.Spec L2
section
variable {T : Tx} {X : Cx} {W : WX} {e a b : Expr} {lo hi : Option Expr} {ma mb mc : M D} {mlo mhi : Option (M D)} {pos : Pos}
theorem sl_all : SlR X (rSlAll X.K) := sl_list.or (sl_tupA.or sl_str)
theorem cutD_rep {io : Io} {G : Hp} {vs : List V} {ds : List D} (r : Reps T io G vs ds) (l h : Option Int) : Reps T io G (cutV vs l h) (cutD ds l h) := by
  unfold cutV cutD
  rw [r.length]
  exact (r.drop _).take _
theorem de_sl {p2 : Pos} (hK : X.K = T.K) (ha : PE X a (tD T W ma)) (hl : PO X lo (tO T W (mPart mlo))) (hh : PO X hi (tO T W (mPart mhi))) : PE X (.Subscript a (.Slice lo hi none p2) pos) (tD T W (mSl ma mlo mhi)) :=
  PE.imp (pe_slice sl_all ha hl hh) fun σ H Q ⟨x, s, k, h⟩ => by
    rw [hK]
    refine ⟨x, s, k, ?_⟩
    unfold mSl M.bind M.lift at h
    cases e1 : ma s with
    | exc c ns vs sto => rw [e1] at h; exact h
    | bad => rw [e1] at h; exact h
    | ok d s1 =>
      rw [e1] at h
      intro x1 v1 H1 k1 st1 r1
      refine ⟨x1, s1, k1, ?_⟩
      simp only at h
      cases e2 : mPart mlo s1 with
      | exc c ns vs sto => rw [e2] at h; exact h.back st1
      | bad => rw [e2] at h; exact h
      | ok l s2 =>
        rw [e2] at h
        intro x2 H2 k2 st2
        refine ⟨x2, s2, k2, ?_⟩
        simp only at h
        cases e3 : mPart mhi s2 with
        | exc c ns vs sto => rw [e3] at h; exact h.back (st1.trans st2)
        | bad => rw [e3] at h; exact h
        | ok hh s3 =>
          rw [e3] at h
          intro x3 H3 k3 st3
          simp only at h
          have r3 := (r1.mono st2.io st2.le).mono st3.io st3.le
          cases e4 : gSl d l hh with
          | none => rw [e4] at h; exact h.elim
          | some z =>
            simp only [e4] at h
            have stt := st1.trans (st2.trans st3)
            unfold gSl at e4
            split at e4
            · cases e4
              cases r3 with
              | @lst a vs _ sq rs =>
                refine .inl ⟨_, vs, rfl, k3.bx.sub.sqL sq, fun p hp => ?_⟩
                have gr := Grow.one (o := .lst (cutV vs l hh)) k3.bx.sub hp
                exact h _ _ _ (k3.grow gr) (stt.trans gr.stp) (.lst (.inl (.inl upd_same)) (cutD_rep (rs.up gr.g) l hh))
            · rename_i ds
              cases e4
              cases r3 with
              | @tup a vs _ sq rs =>
                refine .inr (.inl ⟨_, vs, rfl, k3.bx.sub.sqT sq, fun hw => ?_, fun hw p hp => ?_⟩)
                · have ec : cutD ds l hh = ds := by
                    unfold cutD
                    rw [rs.length] at hw
                    rw [hw.1, hw.2]
                    simp
                  rw [ec] at h
                  exact h x3 _ H3 k3 stt (.tup sq rs)
                · have gr := Grow.one (o := .tup (cutV vs l hh)) k3.bx.sub hp
                  exact h _ _ _ (k3.grow gr) (stt.trans gr.stp) (.tup (.inl (.inl upd_same)) (cutD_rep (rs.up gr.g) l hh))
            · split at e4
              · rename_i hz
                cases e4
                cases r3
                exact .inr (.inr ⟨_, rfl, hz, h x3 _ H3 k3 stt (.str _)⟩)
              · cases e4
            · cases e4
/-! ### f-strings -/
def gFmt (a : D) : Option D := match a with
  | .str z => if z.length ≤ sizeLine then some (.str z) else none
  | .int i => if i.natAbs.log2 < 1920 then some (.str (toString i)) else none
  | _ => none
theorem de_fmt (he : PE X e (tD T W ma)) : PE X (.FormattedValue e (-1) none pos) (tD T W (m1 gFmt ma)) :=
  PE.imp (pe_fmt he) fun σ H Q h => t1 (r := fun x H1 Q => (∃ y : Str, x = .str y ∧ y.length ≤ sizeLine ∧ Q (.str y) H1) ∨ ∃ i : Int, x = .int i ∧ i.natAbs.log2 < 1920 ∧ Q (.str (toString i)) H1) (fun io G v d z H Q r le q k => by
    unfold gFmt at q
    split at q
    · split at q
      · rename_i hz; cases q; cases r; exact .inl ⟨_, rfl, hz, k G _ H (.refl le) (.str _)⟩
      · cases q
    · split at q
      · rename_i hz; cases q; cases r; exact .inr ⟨_, rfl, hz, k G _ H (.refl le) (.str _)⟩
      · cases q
    · cases q) h
/-- the parts, one behind another -/
def mJ : List (M D) → Str → M D
  | [], acc => M.pure (.str acc)
  | m :: ms, acc => M.bind m fun d => match d with
    | .str y => if (acc ++ y).length ≤ sizeLine then mJ ms (acc ++ y) else fun _ => .bad
    | _ => fun _ => .bad
inductive DJ (T : Tx) (W : WX) (X : Cx) : List Expr → List (M D) → Prop where
  | nil : DJ T W X [] []
  | cons {e : Expr} {m : M D} {es : List Expr} {ms : List (M D)} (h : PE X e (tD T W m)) (r : DJ T W X es ms) : DJ T W X (e :: es) (m :: ms)
theorem DJ.pj {es : List Expr} {ms : List (M D)} (h : DJ T W X es ms) : PJ X es (ms.map (tD T W)) := by
  induction h with
  | nil => exact .nil
  | cons h r ih => exact .cons h ih
theorem tJs_of {σ : L2.St} : ∀ {ms : List (M D)} {acc : Str} {x : Gh} {s : Sx} {H : Hp} {Q : Str → Hp → Prop}, Ok T x s σ H → (match mJ ms acc s with
    | .ok (.str z) s' => ∀ x' H', Ok T x' s' σ H' → Stp x H x' H' → Q z H'
    | .ok _ _ => False
    | .exc c ns vs sto => XP T W x σ H c ns vs sto
    | .bad => False) → tJs (ms.map (tD T W)) acc σ H Q
  | [], acc, x, s, H, Q, k, h => h x H k (.refl _ _)
  | m :: ms, acc, x, s, H, Q, k, h => by
    show tD T W m σ H _
    refine ⟨x, s, k, ?_⟩
    unfold mJ M.bind at h
    cases e1 : m s with
    | exc c ns vs sto => rw [e1] at h; exact h
    | bad => rw [e1] at h; exact h
    | ok d s1 =>
      rw [e1] at h
      intro x1 v1 H1 k1 st1 r1
      simp only at h
      cases r1 with
      | str y =>
        simp only at h
        by_cases hz : (acc ++ y).length ≤ sizeLine
        · rw [if_pos hz] at h
          refine ⟨y, rfl, hz, tJs_of k1 ?_⟩
          cases e2 : mJ ms (acc ++ y) s1 with
          | exc c ns vs sto => rw [e2] at h; exact h.back st1
          | bad => rw [e2] at h; exact h
          | ok d2 s2 =>
            rw [e2] at h
            cases d2 with
            | str z => exact fun x2 H2 k2 st2 => h x2 H2 k2 (st1.trans st2)
            | _ => exact h.elim
        · rw [if_neg hz] at h; exact h.elim
      | _ => exact h.elim
theorem mJ_str : ∀ {ms : List (M D)} {acc : Str} {s s' : Sx} {d : D}, mJ ms acc s = .ok d s' → ∃ z, d = .str z
  | [], acc, s, s', d, h => by
    unfold mJ M.pure at h
    cases h
    exact ⟨_, rfl⟩
  | m :: ms, acc, s, s', d, h => by
    unfold mJ M.bind at h
    cases e1 : m s with
    | exc c ns vs sto => rw [e1] at h; cases h
    | bad => rw [e1] at h; cases h
    | ok d1 s1 =>
      rw [e1] at h
      simp only at h
      cases d1 with
      | str y =>
        simp only at h
        split at h
        · exact mJ_str h
        · cases h
      | _ => cases h
theorem de_join {v1 v2 : Expr} {rest : List Expr} {ms : List (M D)} (h : DJ T W X (v1 :: v2 :: rest) ms) : PE X (.JoinedStr (v1 :: v2 :: rest) pos) (tD T W (mJ ms Str.empty)) :=
  PE.imp (pe_joined h.pj) fun σ H Q ⟨x, s, k, q⟩ => tJs_of k (by
    cases e2 : mJ ms Str.empty s with
    | exc c ns vs sto => rw [e2] at q; exact q
    | bad => rw [e2] at q; exact q
    | ok d2 s2 =>
      obtain ⟨z, rfl⟩ := mJ_str e2
      rw [e2] at q
      exact fun x' H' k' st => q x' _ H' k' st (.str _))
theorem de_join1 (h : PE X e (tD T W ma)) : PE X (.JoinedStr [e] pos) (tD T W ma) := pe_joined1 h
/-! ### a text's method with a text -/
def mS1 (f : Str → Str → D) (ma mb : M D) : M D := M.bind ma fun a => match a with
  | .str x => M.bind mb fun b => match b with
    | .str y => M.pure (f x y)
    | _ => fun _ => .bad
  | _ => fun _ => .bad
theorem de_s1 {id : String} {name : Str} {apos : Pos} {f : Str → Str → D} {fv : Str → Str → V} (slot : Slot "str" name id) (ty : typeOf (.builtin id) = pure (.type "method_descriptor")) (rule : MtR X id (fun x xs H Q => ∃ a b, x = .str a ∧ xs = [.str b] ∧ Q (fv a b) H))
    (hf : ∀ (io : Io) (G : Hp) x y, Rep T io G (fv x y) (f x y)) (ha : PE X a (tD T W ma)) (hb : PE X b (tD T W mb)) (hs : starEach [b] X.env = [(false, eval b X.env)] := by rfl) (hbase : attributeBase a name X.env (eval a X.env) = eval a X.env := by rfl) (hline : (apos.endLine == pos.line) = true := by rfl) :
    PE X (.Call (.Attribute a name apos) [b] [] pos) (tD T W (mS1 f ma mb)) :=
  PE.imp (pe_m1 slot ty rule ha hb hs hbase hline) fun σ H Q h => by
    obtain ⟨x, s, k, h⟩ := h
    refine ⟨x, s, k, ?_⟩
    unfold mS1 M.bind M.pure at h
    cases e1 : ma s with
    | exc c ns vs sto => rw [e1] at h; exact h
    | bad => rw [e1] at h; exact h
    | ok d s1 =>
      rw [e1] at h
      intro x1 v1 H1 k1 st1 r1
      simp only at h
      cases r1 with
      | str y =>
        refine ⟨⟨_, rfl⟩, x1, s1, k1, ?_⟩
        simp only at h
        cases e2 : mb s1 with
        | exc c ns vs sto => rw [e2] at h; exact h.back st1
        | bad => rw [e2] at h; exact h
        | ok d2 s2 =>
          rw [e2] at h
          simp only at h
          intro x2 v2 H2 k2 st2 r2
          cases r2 with
          | str z => exact ⟨_, _, rfl, rfl, h x2 _ H2 k2 (st1.trans st2) (hf _ _ _ _)⟩
          | _ => exact h.elim
      | _ => exact h.elim
def fStarts (x y : Str) : D := .bl (Txt.startswith x y)
theorem de_starts {apos : Pos} (ha : PE X a (tD T W ma)) (hb : PE X b (tD T W mb)) (hs : starEach [b] X.env = [(false, eval b X.env)] := by rfl) (hbase : attributeBase a "startswith" X.env (eval a X.env) = eval a X.env := by rfl) (hline : (apos.endLine == pos.line) = true := by rfl) :
    PE X (.Call (.Attribute a "startswith" apos) [b] [] pos) (tD T W (mS1 fStarts ma mb)) := de_s1 PySem.F.slot_str_startswith PySem.F.type_str_startswith mt_startswith (fun _ _ _ _ => .bl _) ha hb hs hbase hline
/-! ### repr -/
def gRepr : List D → Option D
  | [d] => if (d.pure && d.py.showable && decide (d.py.depth ≤ 60) && decide (d.py.shown.length ≤ sizeLine)) = true then some (.str d.py.shown) else none
  | _ => none
def rRepr (K : PySem.W.Frag) : List V → Hp → VK → Prop := fun xs H Q => ∃ x d, xs = [x] ∧ Dp K H x d ∧ d.showable = true ∧ d.depth ≤ 60 ∧ d.shown.length ≤ sizeLine ∧ Q (.str d.shown) H
theorem Dp.noDict {K : PySem.W.Frag} {H : Hp} : ∀ {v : V} {d : PyData}, Dp K H v d → d.hasDict = false := by
  intro v d h
  exact (Dp.rec (motive_1 := fun v d _ => d.hasDict = false) (motive_2 := fun vs ds _ => PyData.hasDictAll ds = false) rfl (fun _ => rfl) (fun _ => rfl) (fun _ => rfl)
    (fun _ _ ih => by simpa [PyData.hasDict] using ih) (fun _ _ ih => by simpa [PyData.hasDict] using ih) rfl (fun _ _ a b => by simp [PyData.hasDictAll, a, b]) h)
theorem call_reprA (gd : X.A.guards = some []) {k0 : Nat} (hr : Room k0 X.A) : CallR X (.builtin "repr") (rRepr X.K) := by
  intro pins s σ H xs us Q I r h
  obtain ⟨x, d, rfl, dp, hs, hdp, hl, q⟩ := h
  obtain ⟨u, rfl, ru⟩ := Vals.one r
  have hu := hr.units
  cases dp with
  | non => cases ru; exact PySem.P.repr_of_none ⟨.str _, H, I.tok _, ⟨_, rfl⟩, q⟩
  | bl b => cases ru; exact PySem.P.repr_of_bool ⟨.str _, H, I.tok _, ⟨_, rfl⟩, q⟩
  | int i =>
    obtain ⟨t, rfl⟩ := ru
    exact PySem.P.repr_of_int (by simpa [PyData.showable] using hs) ⟨.str _, H, I.tok _, ⟨_, rfl⟩, q⟩
  | str y =>
    obtain ⟨t, rfl⟩ := ru
    exact PySem.P.repr_of_str ⟨.str _, H, I.tok _, ⟨_, rfl⟩, q⟩ hl
  | lst hq ha =>
    cases ru
    obtain ⟨as, rd⟩ := Dp.reads I _ _ _ (.lst hq ha) rfl
    exact PySem.repr_of_reads' rd hs (fun z => by rw [Ev.Dp.noDict (Dp.lst hq ha)] at z; cases z) gd (by omega) (fun _ _ e => e) (fun h' u tk kp => ⟨.str _, H, I.kept kp, ⟨_, rfl⟩, q⟩) hl
  | tup hq ha =>
    cases ru
    obtain ⟨as, rd⟩ := Dp.reads I _ _ _ (.tup hq ha) rfl
    exact PySem.repr_of_reads' rd hs (fun z => by rw [Ev.Dp.noDict (Dp.tup hq ha)] at z; cases z) gd (by omega) (fun _ _ e => e) (fun h' u tk kp => ⟨.str _, H, I.kept kp, ⟨_, rfl⟩, q⟩) hl
theorem p_repr (hK : X.K = T.K) : PL T (rRepr X.K) gRepr := fun io G vs ds z H Q r le q k => by
  rw [hK]
  unfold gRepr at q
  split at q
  · split at q
    · rename_i hc
      simp only [Bool.and_eq_true, decide_eq_true_eq] at hc
      obtain ⟨⟨⟨h1, h2⟩, h3⟩, h4⟩ := hc
      cases q
      cases r with
      | cons r1 r2 =>
        cases r2
        exact ⟨_, _, rfl, r1.dp le h1, h2, h3, h4, k G _ H (.refl le) (.str _)⟩
    · cases q
  · cases q
end
end Ev

/-! E11: sorted. -/
namespace Ev
open PySem PySem.Spec L2
def tupOk : PyData → Bool
  | .tuple (_ :: _) => true
  | _ => false
def othOk : PyData → Bool
  | .none => false
  | .tuple _ => false
  | _ => true
def canSort (xs : List D) : Bool := pures xs && (xs.all fun a => xs.all fun b => PySem.W.alike a.py b.py) && ((xs.all fun a => tupOk a.py) || (xs.all fun a => othOk a.py)) && (xs.all fun a => decide (a.py.depth ≤ 60))
def srt (xs : List D) : List D := xs.mergeSort (PySem.W.dataLe false D.py)
def gSorted : List D → Option D
  | [.lst xs] => if canSort xs = true then some (.lst (srt xs)) else none
  | _ => none
/-- values that stand for data -/
structure VD where
  v : V
  d : D
def rSrt (T : Tx) : List V → Hp → VK → Prop := fun xs H Q => ∃ (a : Addr) (bs : List VD), xs = [.ref a] ∧ SqL T.K H a (bs.map (·.v)) ∧ (∀ b ∈ bs, Dp T.K H b.v b.d.py) ∧ canSort (bs.map (·.d)) = true ∧
  ∀ p, H p = none → Q (.ref p) (upd H p (.lst ((bs.mergeSort (PySem.W.dataLe false fun b => b.d.py)).map (·.v))))
section
variable {T : Tx} {X : Cx} {W : WX}
theorem pures_all : ∀ {xs : List D}, pures xs = true → ∀ d ∈ xs, d.pure = true
  | [], _, _, h => by cases h
  | x :: xs, h, d, hd => by
    unfold pures at h
    rw [Bool.and_eq_true] at h
    rcases List.mem_cons.mp hd with rfl | hd
    · exact h.1
    · exact pures_all h.2 d hd
theorem canSort_facts {xs : List D} (h : canSort xs = true) : pures xs = true ∧ PySem.W.AllAlike (xs.map D.py) ∧ PySem.W.Sortable (xs.map D.py) ∧ ∀ a ∈ xs, a.py.depth ≤ 60 := by
  unfold canSort at h
  simp only [Bool.and_eq_true, Bool.or_eq_true, List.all_eq_true, decide_eq_true_eq] at h
  obtain ⟨⟨⟨h1, h2⟩, h3⟩, h4⟩ := h
  refine ⟨h1, fun d hd d' hd' => ?_, ?_, h4⟩
  · obtain ⟨a, ha, rfl⟩ := List.mem_map.mp hd
    obtain ⟨b, hb, rfl⟩ := List.mem_map.mp hd'
    exact h2 a ha b hb
  · rcases h3 with h3 | h3
    · refine .inl fun d hd => ?_
      obtain ⟨a, ha, rfl⟩ := List.mem_map.mp hd
      have q := h3 a ha
      cases e : a.py with
      | tuple l => cases l with
        | nil => rw [e] at q; cases q
        | cons x r => exact ⟨x, r, rfl⟩
      | _ => rw [e] at q; cases q
    · refine .inr fun d hd => ?_
      obtain ⟨a, ha, rfl⟩ := List.mem_map.mp hd
      have q := h3 a ha
      refine ⟨fun z => ?_, fun l z => ?_⟩
      · rw [z] at q; cases q
      · rw [z] at q; cases q
theorem call_srt (hK : X.K = T.K) {k0 : Nat} (hr : Room k0 X.A) : CallR X (.builtin "sorted") (rSrt T) := by
  intro pins s σ H xs us Q I r h
  obtain ⟨a, bs, rfl, hs, hdp, hc, q⟩ := h
  obtain ⟨u, rfl, ru⟩ := Vals.one r
  cases ru
  rw [← hK] at hs
  obtain ⟨its, rv, pl, hz⟩ := I.list hs
  obtain ⟨h1, h2, h3, h4⟩ := canSort_facts hc
  rw [List.map_map] at h2 h3
  have hl := rv.length
  rw [List.length_map] at hl hz
  have e : PySem.W.EachIs (fun (v : Value) (b : VD) => RelV b.v v) its bs := by
    have go : ∀ (bs : List VD) (its : List Value), Vals (bs.map (·.v)) its → PySem.W.EachIs (fun (v : Value) (b : VD) => RelV b.v v) its bs := by
      intro bs
      induction bs with
      | nil => intro its r; cases r; exact .nil
      | cons b bs ih =>
        intro its r
        cases r with
        | cons r1 r2 => exact .cons r1 (ih _ r2)
    exact go bs its rv
  have er : PySem.W.EachIs (fun (v : Value) (b : VD) => ∃ as, Reads s.heap v b.d.py as) its bs := by
    have go : ∀ (bs : List VD) (its : List Value), (∀ b ∈ bs, Dp X.K H b.v b.d.py) → PySem.W.EachIs (fun (v : Value) (b : VD) => RelV b.v v) its bs → PySem.W.EachIs (fun (v : Value) (b : VD) => ∃ as, Reads s.heap v b.d.py as) its bs := by
      intro bs its hb e
      induction e with
      | nil => exact .nil
      | cons r1 r2 ih => exact .cons (Dp.reads I _ _ _ (hb _ (List.mem_cons_self ..)) r1) (ih fun b q => hb b (List.mem_cons_of_mem _ q))
    exact go bs its (by rw [hK]; exact hdp) e
  refine PySem.W.sorted_data (enc := fun b : VD => b.d.py) pl.isList e er h2 h3 (by omega) (fun b hb => ?_) fun out hout eo => ?_
  · have h5 := h4 b.d (List.mem_map.mpr ⟨b, hb, rfl⟩)
    have h6 := hr.units
    show _ + 2 + b.d.py.depth < _
    omega
  · have ov : Vals ((bs.mergeSort (PySem.W.dataLe false fun b => b.d.py)).map (·.v)) out := by
      have go : ∀ (bs : List VD) (its : List Value), PySem.W.EachIs (fun (v : Value) (b : VD) => RelV b.v v) its bs → Vals (bs.map (·.v)) its := by
        intro bs its e
        induction e with
        | nil => exact .nil
        | cons r1 r2 ih => exact .cons r1 ih
      exact go _ _ eo
    obtain ⟨n, at_⟩ := PyProof.Rows.sortedAll_at s.heap its (List.toArray out)
    have hn : H (s.heap.objs.size + 1) = none := I.hok.fresh (Nat.le_succ _)
    exact ⟨.ref _, _, I.laid (t' := s.toks) (o := .lst ((bs.mergeSort (PySem.W.dataLe false fun b => b.d.py)).map (·.v))) (fun b o e => PyProof.Rows.sortedAll_old e) (Nat.le_succ _) ⟨by rw [ov.length, hout]; omega, out, n, ov, at_⟩, rfl, q _ hn⟩
theorem vds {io : Io} {G : Hp} : ∀ {vs : List V} {ds : List D}, Reps T io G vs ds → ∃ bs : List VD, bs.map (·.v) = vs ∧ bs.map (·.d) = ds ∧ ∀ b ∈ bs, Rep T io G b.v b.d
  | _, _, .nil => ⟨[], rfl, rfl, fun _ h => by cases h⟩
  | _, _, .cons (v := v) (d := d) a r => by
    obtain ⟨bs, h1, h2, h3⟩ := vds r
    refine ⟨⟨v, d⟩ :: bs, by simp [h1], by simp [h2], fun b hb => ?_⟩
    rcases List.mem_cons.mp hb with rfl | hb
    · exact a
    · exact h3 b hb
theorem reps_of {io : Io} {G : Hp} : ∀ {bs : List VD}, (∀ b ∈ bs, Rep T io G b.v b.d) → Reps T io G (bs.map (·.v)) (bs.map (·.d))
  | [], _ => .nil
  | b :: bs, h => .cons (h b (List.mem_cons_self ..)) (reps_of fun c hc => h c (List.mem_cons_of_mem _ hc))
theorem srt_of (bs : List VD) : (bs.mergeSort (PySem.W.dataLe false fun b => b.d.py)).map (·.d) = srt (bs.map (·.d)) := by
  unfold srt
  exact PySem.W.sort_maps (fun b : VD => b.d) fun a _ b _ => rfl
theorem p_srt : PL T (rSrt T) gSorted := fun io G vs ds z H Q r le q k => by
  unfold gSorted at q
  split at q
  · split at q
    · rename_i hc
      cases q
      cases r with
      | cons r1 r2 =>
        cases r2
        cases r1 with
        | @lst a vs _ sq rs =>
          obtain ⟨bs, e1, e2, e3⟩ := vds rs
          subst e1 e2
          have hp := (canSort_facts hc).1
          refine ⟨a, bs, rfl, le.sqL sq, fun b hb => (e3 b hb).dp le (pures_all hp _ (List.mem_map.mpr ⟨b, hb, rfl⟩)), hc, fun p hp => ?_⟩
          have gr := Grow.one (o := .lst ((bs.mergeSort (PySem.W.dataLe false fun b => b.d.py)).map (·.v))) le hp
          refine k _ _ _ gr (.lst (.inl (.inl upd_same)) ?_)
          rw [← srt_of]
          exact (reps_of fun b hb => e3 b ((List.mergeSort_perm _ _).mem_iff.mp hb)).up gr.g
    · cases q
  · cases q
end
end Ev

/-! E12: zip of two, lists or tuples. -/
namespace Ev
open PySem PySem.Spec L2
/-- list (false) or tuple (true) -/
def SqB (b : Bool) (K : PySem.W.Frag) (H : Hp) (a : Addr) (xs : List V) : Prop := if b = true then SqT K H a xs else SqL K H a xs
def IsB (b : Bool) (h : Heap) (l : Addr) (its : Array Value) : Prop := if b = true then h.IsTuple l its else h.IsList l its
def ItB (b : Bool) (h : Heap) (it l : Addr) (i : Nat) : Prop := if b = true then h.IsTupleIter it l i else h.IsListIter it l i
def itObj (b : Bool) (l : Addr) : Obj := if b = true then { cls := .type "tuple_iterator", data := .fields #[.ref l, .int 0 0] } else { cls := .type "list_iterator", data := .fields #[.ref l, .int 0 0] }
section
variable {X : Cx} {pins : List (Addr × Obj)} {σ : L2.St} {H : Hp} {s : Shared} {a : Addr} {xs ys : List V} {b : Bool}
theorem seqB (I : Inv X pins σ H s) (h : SqB b X.K H a xs) : ∃ its : List Value, Vals xs its ∧ IsB b s.heap a its.toArray := by
  cases b
  · obtain ⟨its, r, p, _⟩ := I.list h
    exact ⟨its, r, p.isList⟩
  · obtain ⟨its, r, p, _⟩ := I.tuple h
    exact ⟨its, r, p⟩
theorem seqB_inj (I : Inv X pins σ H s) (h : SqB b X.K H a xs) (h' : SqB b X.K H a ys) : xs = ys := by
  cases b
  · exact I.list_inj h h'
  · exact I.tuple_inj h h'
end
theorem IsB.lt {b : Bool} {h : Heap} {l : Addr} {its : Array Value} (x : IsB b h l its) : l < h.objs.size := by
  cases b <;> exact Heap.lt_size x.choose_spec.1
theorem draws_B {prog : Program} {w : World} {A : Around} (b : Bool) (hh : A.handled = none) (it l : Addr) (hne : l ≠ it) (items : Array Value) :
    Draws prog w A it [it, l] items.size (fun i v => items[i]? = some v) (fun i h => ItB b h it l i ∧ IsB b h l items) := by
  cases b
  · exact Draws.list hh it l hne items
  · exact Draws.tuple hh it l hne items
theorem begins_B (b : Bool) (l : Addr) (items : Array Value) : Begins (.ref l) (itObj b l) fun h => IsB b h l items := by
  cases b
  · exact begins_list l items
  · exact begins_tuple l items
theorem ItB.at {b : Bool} {h h' : Heap} {it l : Addr} {i : Nat} (x : ItB b h it l i) (k : ∀ o, h.get? it = some o → h'.get? it = some o) : ItB b h' it l i := by
  cases b
  · obtain ⟨o, e, r⟩ := id x; exact ⟨o, k o e, r⟩
  · obtain ⟨o, e, r⟩ := id x; exact ⟨o, k o e, r⟩
theorem ItB.obj {b : Bool} {h : Heap} {it l : Addr} {i : Nat} (x : ItB b h it l i) : ∃ o, h.get? it = some o ∧ ∀ v, o.data ≠ .cell v := by
  cases b
  · obtain ⟨o, e, _, d⟩ := id x; exact ⟨o, e, fun v q => by rw [d] at q; cases q⟩
  · obtain ⟨o, e, _, d⟩ := id x; exact ⟨o, e, fun v q => by rw [d] at q; cases q⟩
theorem ItB.start {b : Bool} {h : Heap} {it l : Addr} (e : h.get? it = some (itObj b l)) : ItB b h it l 0 := by
  cases b
  · exact ⟨_, e, rfl, rfl⟩
  · exact ⟨_, e, rfl, rfl⟩
def ItzB (K : PySem.W.Frag) (c d : Bool) (a b : Addr) : It :=
  ⟨fun i H => ∃ (xs ys : List V) (x y : V), SqB c K H a xs ∧ SqB d K H b ys ∧ xs[i]? = some x ∧ ys[i]? = some y,
    fun i H v H' => ∃ T x y, v = .ref T ∧ H T = none ∧ H' = upd H T (.tup [x, y]) ∧ (∀ xs, SqB c K H a xs → xs[i]? = some x) ∧ ∀ ys, SqB d K H b ys → ys[i]? = some y,
    fun i H => ∃ xs ys : List V, SqB c K H a xs ∧ SqB d K H b ys ∧ i ≤ xs.length ∧ i ≤ ys.length ∧ (xs.length = i ∨ ys.length = i)⟩
theorem sep_of {a b z TI TO i1 i2 : Addr} (D : ZipApart z TI TO i1 i2 a b) : ZipSep2 z TI TO i1 i2 [i1, a] [i2, b] where
  TIz := D.TIz
  TOz := D.TOz
  TITO := D.TITO
  TIi1 := D.TIi1
  mem1 := by simp
  zf1 := by simp; exact ⟨D.i1z.symm, D.l1z.symm⟩
  Tf1 := by simp; exact ⟨D.TOi1, D.l1TO.symm⟩
  TIi2 := D.TIi2
  mem2 := by simp
  zf2 := by simp; exact ⟨D.i2z.symm, D.l2z.symm⟩
  Tf2 := by simp; exact ⟨D.TOi2, D.l2TO.symm⟩
  sep1_2 := by simp; exact ⟨D.i12, D.l2i1.symm⟩
  sep2_1 := by simp; exact ⟨D.i12.symm, D.l1i2.symm⟩
theorem turn_zB {P : Program} {w : World} {K : PySem.W.Frag} {elts : List Expr} {kk : Nat} {tpos : Pos} {a b z TI TO i1 i2 : Addr} (c d : Bool) (D : ZipApart z TI TO i1 i2 a b) :
    Turn P w K (.Tuple elts kk tpos) (ItzB K c d a b) [z, TI, TO, i1, i2] z (fun i h => IsZip h z TI TO .none ∧ IsPair h TI (.ref i1) (.ref i2) ∧ (∃ x y, IsPair h TO x y) ∧ ItB c h i1 a i ∧ ItB d h i2 b i) where
  mem := by simp
  obj := fun i h st e he => by
    obtain ⟨hz, hTI, ⟨x, y, hTO⟩, h1, h2⟩ := st
    have e' : e = z ∨ e = TI ∨ e = TO ∨ e = i1 ∨ e = i2 := by simpa using he
    rcases e' with q | q | q | q | q
    · rw [q]; exact ⟨_, hz, fun v q => nomatch q⟩
    · rw [q]; exact ⟨_, hTI, fun v q => nomatch q⟩
    · rw [q]; exact ⟨_, hTO, fun v q => nomatch q⟩
    · rw [q]; exact h1.obj
    · rw [q]; exact h2.obj
  keep := fun i h h' st k => by
    obtain ⟨hz, hTI, ⟨x, y, hTO⟩, h1, h2⟩ := st
    exact ⟨k z (by simp) _ hz, k TI (by simp) _ hTI, ⟨x, y, k TO (by simp) _ hTO⟩, h1.at fun o q => k i1 (by simp) o q, h2.at fun o q => k i2 (by simp) o q⟩
  item := by
    intro X hP hw hK hc i pins s σ H E I hf st hg
    subst hP hw hK
    obtain ⟨hz, hTI, ⟨x0, y0, hTO⟩, h1, h2⟩ := st
    obtain ⟨xs, ys, x, y, hqx, hqy, hx, hy⟩ := hg
    obtain ⟨its, rv, p⟩ := seqB I hqx
    obtain ⟨its2, rv2, p2⟩ := seqB I hqy
    obtain ⟨u, hu, ru⟩ := rv.get hx
    obtain ⟨u2, hu2, ru2⟩ := rv2.get hy
    have hzl : z < s.heap.objs.size := Heap.lt_size hz
    have hl1 : i < its.toArray.size := by simpa using (List.getElem?_eq_some_iff.mp hu).1
    have hl2 : i < its2.toArray.size := by simpa using (List.getElem?_eq_some_iff.mp hu2).1
    refine wpAny_pyNext_zipD2_item (sep_of D) (draws_B c (show X.A.in1.handled = none from I.ok.hd hc) i1 a D.l1i1 its.toArray) (draws_B d (show X.A.in1.handled = none from I.ok.hd hc) i2 b D.l2i2 its2.toArray) hz hTI hTO ⟨h1, p⟩ ⟨h2, p2⟩ hl1 hl2 fun w1 w2 h' tk e1 e2 z' TO' h1' h2' hT hsz hk => ?_
    have q1 : w1 = u := by
      have : its[i]? = some w1 := by simpa using e1
      rw [hu] at this; exact (Option.some.inj this).symm
    have q2 : w2 = u2 := by
      have : its2[i]? = some w2 := by simpa using e2
      rw [hu2] at this; exact (Option.some.inj this).symm
    subst q1 q2
    refine ⟨_, rfl, wpAny_letOwnedTupleGo_zip (s := { s with heap := h', toks := tk }) z' fun h'' z'' sb => ?_⟩
    have hT2 : h''.get? s.heap.objs.size = some { cls := .type "tuple", data := .seq #[w1, w2] } := (sb.2 _ (Nat.ne_of_gt hzl)).trans hT
    have new : ObjOk X.prog X.w (upd H s.heap.objs.size (.tup [x, y])) h'' s.heap.objs.size (.tup [x, y]) :=
      ⟨by show 2 ≤ sizeLine; decide, [w1, w2], .cons ru (.cons ru2 .nil), ⟨_, hT2, rfl, _, rfl⟩⟩
    have I1 : Inv X pins σ (upd H s.heap.objs.size (.tup [x, y])) { s with heap := h'', toks := tk } :=
      I.turnedNew (t' := tk) (ch := [z, TI, TO, i1, i2]) (fun e o hb q => (sb.2 e (fun q' => hb (by simp [q']))).trans (hk e o (fun q' => hb (by simp [q'])) (fun q' => hb (by simp [q'])) (fun q' => hb (by simp [q'])) (fun q' => hb (by simp [q'])) q)) hf (Nat.le_refl _) new
    refine ⟨.ref s.heap.objs.size, _, I1, rfl, ⟨_, x, y, rfl, I.hok.fresh (Nat.le_refl _), rfl, fun l hl => by rw [seqB_inj I hl hqx]; exact hx, fun l hl => by rw [seqB_inj I hl hqy]; exact hy⟩, ⟨z'', ?_, ⟨w1, w2, ?_⟩, ?_, ?_⟩, fun e hcm => ?_⟩
    · exact (sb.2 _ D.TIz).trans (hk _ _ D.TIz D.TITO D.TIi1 D.TIi2 hTI)
    · exact (sb.2 _ D.TOz).trans TO'
    · exact h1'.1.at fun o q => (sb.2 _ D.i1z).trans q
    · exact h2'.1.at fun o q => (sb.2 _ D.i2z).trans q
    · have hlt : e < s.heap.objs.size := by
        have e' : e = z ∨ e = TI ∨ e = TO ∨ e = i1 ∨ e = i2 := by simpa using hcm
        rcases e' with q | q | q | q | q
        · rw [q]; exact hzl
        · rw [q]; exact Heap.lt_size hTI
        · rw [q]; exact Heap.lt_size hTO
        · rw [q]; obtain ⟨_, e1, _⟩ := h1.obj; exact Heap.lt_size e1
        · rw [q]; obtain ⟨_, e2, _⟩ := h2.obj; exact Heap.lt_size e2
      rw [upd_ne (Nat.ne_of_lt hlt)]
      exact (hf e hcm).1
  done := by
    intro X hP hw hK hc i pins s σ H E I hf st hg
    subst hP hw hK
    obtain ⟨hz, hTI, ⟨x0, y0, hTO⟩, h1, h2⟩ := st
    obtain ⟨xs, ys, hqx, hqy, hle1, hle2, hend⟩ := hg
    obtain ⟨its, rv, p⟩ := seqB I hqx
    obtain ⟨its2, rv2, p2⟩ := seqB I hqy
    have l1 := rv.length
    have l2 := rv2.length
    refine wpAny_pyNext_zipD2_end (sep_of D) (draws_B c (show X.A.in1.handled = none from I.ok.hd hc) i1 a D.l1i1 its.toArray) (draws_B d (show X.A.in1.handled = none from I.ok.hd hc) i2 b D.l2i2 its2.toArray) hz hTI hTO ⟨h1, p⟩ ⟨h2, p2⟩ (by simp; omega) (by simp; omega) (by simp; omega) fun h' tk hk => ⟨rfl, I.turnedL (t' := tk) (ch := [z, TI, TO, i1, i2]) (fun e o hb q =>
      hk e o (fun q' => hb (by simp [q'])) (fun q' => hb (by simp [q'])) (fun q' => hb (by simp [q'])) (fun q' => hb (by simp [q'])) q) hf⟩
  self := fun A i s Q E st h => wpAny_pyIter_zip st.1 h
def iZipB (K : PySem.W.Frag) (ta : TA) : TI := fun σ H R => ta σ H fun vs H1 => ∃ c d a b xs ys, vs = [.ref a, .ref b] ∧ SqB c K H1 a xs ∧ SqB d K H1 b ys ∧ R (ItzB K c d a b) H1
theorem pi_zB {X : Cx} {e e2 : Expr} {ta : TA} {p pos tpos : Pos} {elts : List Expr} {kk : Nat} (hg : Gl X "zip") (hm : X.mg "zip" = none) (ha : PA X [e, e2] ta)
    (hs : starEach [e, e2] X.env = (false, eval e X.env) :: starEach [e2] X.env := by rfl) (hpl : (backTo pos (starEach [e2] X.env)).any (·.1) = false := by rfl) :
    PI X (.Tuple elts kk tpos) (.Call (.Name "zip" p) [e, e2] [] pos) (iZipB X.K ta) := by
  refine ⟨fun pins s σ H R I h => ?_⟩
  refine PyProof.Rows.Call_ (ld_blt I hg hm PyProof.Rows.boot_zip (PyProof.Rows.callWith_type1 (thn (ha.run pos pins s σ H _ I h) fun us s1 ⟨vs, H1, I1, r1, q1⟩ => ?_) hs hpl))
  obtain ⟨c, d, a, b, xs, ys, ex, hqx, hqy, q⟩ := q1
  subst ex
  cases r1 with
  | cons r rr =>
    cases rr with
    | cons r' rr =>
      cases rr
      cases r
      cases r'
      have fresh5 : ∀ c, c ∈ [s1.heap.objs.size + 4, s1.heap.objs.size + 2, s1.heap.objs.size + 3, s1.heap.objs.size, s1.heap.objs.size + 1] → FpOk X pins H1 c := fun c hcm => by
        have hle : s1.heap.objs.size ≤ c := by
          simp at hcm
          omega
        exact I1.fpOk hle (I1.hok.fresh hle)
      obtain ⟨its, rv, p1⟩ := seqB I1 hqx
      obtain ⟨its2, rv2, p2⟩ := seqB I1 hqy
      refine zip_begins2 (begins_B c a its.toArray) (begins_B d b its2.toArray) p1 p2 fun h' hz hTI hTO g1 g2 hsz hk => wpAny_pyIter_zip hz ?_
      have I2 : Inv X pins σ H1 { s1 with heap := h' } := I1.kept (t' := s1.toks) fun e o q => hk e o q
      exact ⟨s1.heap.objs.size + 4, [s1.heap.objs.size + 4, s1.heap.objs.size + 2, s1.heap.objs.size + 3, s1.heap.objs.size, s1.heap.objs.size + 1], _, _, H1, rfl, I2, turn_zB c d (PySem.W.ktu_apart s1.heap.objs.size a b p1.lt p2.lt), ⟨hz, hTI, ⟨_, _, hTO⟩, .start g1, .start g2⟩, fresh5, q⟩
/-- zip as data: new pairs -/
def zipD : List D → List D → List D
  | a :: as, b :: bs => .tup [a, b] :: zipD as bs
  | _, _ => []
def gZip (ds : List D) : Option (List D) := match ds with
  | [a, b] => match itemsOf a, itemsOf b with
    | some xs, some ys => some (zipD xs ys)
    | _, _ => none
  | _ => none
theorem zipD_len : ∀ (xs ys : List D), (zipD xs ys).length = min xs.length ys.length
  | a :: as, b :: bs => by simp [zipD, zipD_len as bs, Nat.succ_min_succ]
  | [], _ => by simp [zipD]
  | _ :: _, [] => by simp [zipD]
theorem zipD_get : ∀ {xs ys : List D} {i : Nat} {d : D}, (zipD xs ys)[i]? = some d → ∃ a b, xs[i]? = some a ∧ ys[i]? = some b ∧ d = .tup [a, b]
  | a :: as, b :: bs, 0, d, h => by simp [zipD] at h; exact ⟨a, b, rfl, rfl, h.symm⟩
  | a :: as, b :: bs, i + 1, d, h => by
    obtain ⟨x, y, h1, h2, h3⟩ := zipD_get (i := i) (by simpa [zipD] using h)
    exact ⟨x, y, by simpa using h1, by simpa using h2, h3⟩
  | [], _, _, _, h => by simp [zipD] at h
  | _ :: _, [], _, _, h => by simp [zipD] at h
theorem SqB.up {G G' : Hp} (h : Le G G') {b : Bool} {K : PySem.W.Frag} {a : Addr} {xs : List V} (r : SqB b K G a xs) : SqB b K G' a xs := by
  cases b
  · exact h.sqL r
  · exact h.sqT r
theorem Rep.seqB {T : Tx} {io : Io} {G : Hp} {v : V} {d : D} {xs : List D} (r : Rep T io G v d) (h : itemsOf d = some xs) : ∃ b a vs, v = .ref a ∧ SqB b T.K G a vs ∧ Reps T io G vs xs := by
  cases r <;> first
    | (rename_i sq rs
       cases h
       first | exact ⟨false, _, _, rfl, sq, rs⟩ | exact ⟨true, _, _, rfl, sq, rs⟩)
    | cases h
section
variable {T : Tx} {W : WX} {X : Cx} {e e2 : Expr} {ml : M (List D)} {pos p tpos : Pos} {elts : List Expr} {kk : Nat}
theorem di_zip (hK : X.K = T.K) (hg : Gl X "zip") (hm : X.mg "zip" = none) (ha : PA X [e, e2] (tDs T W ml))
    (hs : starEach [e, e2] X.env = (false, eval e X.env) :: starEach [e2] X.env := by rfl) (hpl : (backTo pos (starEach [e2] X.env)).any (·.1) = false := by rfl) :
    PI X (.Tuple elts kk tpos) (.Call (.Name "zip" p) [e, e2] [] pos) (tI T W (mRng gZip ml)) :=
  PI.imp (pi_zB hg hm ha hs hpl) fun σ H R ⟨x, s, k, q⟩ => by
    refine ⟨x, s, k, ?_⟩
    unfold mRng M.bind M.lift at q
    cases em : ml s with
    | exc c ns vs sto => rw [em] at q; exact q
    | bad => rw [em] at q; exact q
    | ok ds s' =>
      rw [em] at q
      simp only at q
      intro x' vs H' k' st r
      cases e2 : gZip ds with
      | none => rw [e2] at q; exact q.elim
      | some l =>
        simp only [e2] at q
        unfold gZip at e2
        split at e2
        · rename_i a b
          split at e2
          · rename_i xs ys h1 h2
            cases e2
            cases r with
            | cons r1 r2 =>
              cases r2 with
              | cons r2 r3 =>
                cases r3
                obtain ⟨c1, a1, v1, rfl, s1, t1⟩ := r1.seqB h1
                obtain ⟨c2, a2, v2, rfl, s2, t2⟩ := r2.seqB h2
                have l1 := t1.length
                have l2 := t2.length
                refine ⟨c1, c2, a1, a2, v1, v2, rfl, by rw [hK]; exact SqB.up k'.bx.sub s1, by rw [hK]; exact SqB.up k'.bx.sub s2, q x' _ H' k' st ⟨fun i H1 le hi => ?_, fun i H1 le hi => ?_, fun i H1 v H2 G1 d le le1 hd hy => ?_⟩⟩
                · rw [zipD_len] at hi
                  exact ⟨v1, v2, by rw [hK]; exact SqB.up le s1, by rw [hK]; exact SqB.up le s2, by omega, by omega, by omega⟩
                · rw [zipD_len] at hi
                  have z1 : i < v1.length := by omega
                  have z2 : i < v2.length := by omega
                  exact ⟨v1, v2, v1[i], v2[i], by rw [hK]; exact SqB.up le s1, by rw [hK]; exact SqB.up le s2, List.getElem?_eq_getElem z1, List.getElem?_eq_getElem z2⟩
                · obtain ⟨p, u1, u2, rfl, hn, rfl, f1, f2⟩ := hy
                  obtain ⟨d1, d2, g1, g2, rfl⟩ := zipD_get hd
                  obtain ⟨w1, w1e, rr1⟩ := t1.get g1
                  obtain ⟨w2, w2e, rr2⟩ := t2.get g2
                  have z1 := f1 v1 (by rw [hK]; exact SqB.up (le.trans le1) s1)
                  have z2 := f2 v2 (by rw [hK]; exact SqB.up (le.trans le1) s2)
                  rw [w1e] at z1; cases z1
                  rw [w2e] at z2; cases z2
                  have gr := Grow.one (o := .tup [u1, u2]) le1 hn
                  exact ⟨_, gr, .tup (.inl (.inl upd_same)) (.cons (rr1.up (le.trans gr.g)) (.cons (rr2.up (le.trans gr.g)) .nil))⟩
          · cases e2
        · cases e2
end
end Ev

/-! E13: a, b = x, y; statements that are never reached; a block's exceptions; what the module holds. -/
namespace Ev
open PySem PySem.Spec L2
section
variable {T : Tx} {W : WX} {X : Cx} {pos : Pos} {ml : M (List D)} {i j : Nat} {x y : Str} {a b : Expr} {px py pt : Pos} {kt k2 : Nat} {pt2 : Pos}
def sPar (i j : Nat) (m : M (List D)) : MS := sBind m fun ds s => match ds with
  | [d, e] => .nx ((s.put i d).put j e)
  | _ => .bad
theorem tDs_s {f : List D → MS} {E : Ends} {σ : L2.St} {H : Hp} {P : List V → Hp → Prop} {x : Gh} {s : Sx} (k : Ok T x s σ H) (h : Fin T W E x H (sBind ml f s))
    (next : ∀ ds s' x' vs H', Ok T x' s' σ H' → Stp x H x' H' → Reps T x'.io x'.G vs ds → Fin T W E x' H' (f ds s') → P vs H') : tDs T W ml σ H P := by
  refine ⟨x, s, k, ?_⟩
  unfold sBind at h
  cases e : ml s with
  | ok d s' => rw [e] at h; exact fun x' v H' k' st r => next d s' x' v H' k' st r (h.back st)
  | exc c ns vs sto => rw [e] at h; exact h σ
  | bad => rw [e] at h; exact h
theorem ds_par (hc : X.calm = true) (hN : X.N.Nodup) (hi : X.N[i]? = some x) (hj : X.N[j]? = some y) (hij : i ≠ j)
    (hx : X.env.scope.names.lookup x = some .local) (hy : X.env.scope.names.lookup y = some .local) (ha : PA X [a, b] (tDs T W ml))
    (hw : swappedStores [.Tuple [.Name x px, .Name y py] kt pt] (.Tuple [a, b] k2 pt2) X.env = pure (some [x, y]) := by rfl)
    (hs : swapsWithSole [.Tuple [.Name x px, .Name y py] kt pt] (.Tuple [a, b] k2 pt2) pos.line X.env = pure false := by rfl) :
    PS X (.Assign [.Tuple [.Name x px, .Name y py] kt pt] (.Tuple [a, b] k2 pt2) pos) (tS T W (sPar i j ml)) :=
  PS.imp (ps_par hc hN hi hj hij hx hy ha hw hs) fun E σ H ⟨x0, s, k, h⟩ => tDs_s k h fun ds s' x' vs H' k' st r f => by
    cases r with
    | nil => exact f.elim
    | cons r1 r2 =>
      cases r2 with
      | nil => exact f.elim
      | cons r2 r3 =>
        cases r3 with
        | nil => exact ⟨_, _, rfl, f x' _ H' ((k'.put i r1).put j r2) (.refl _ _)⟩
        | cons _ _ => exact f.elim
def sBad : MS := fun _ => .bad
theorem ds_never {st : Stmt} : PS X st (tS T W sBad) := PS.imp ps_never fun E σ H ⟨x, s, k, h⟩ => h
theorem takes0 : Takes X W0 := fun u s' ⟨_, _, _, _, _, _, _, _, _, _, _, _, _, _, _, _, w⟩ => w.elim
end
/-! ### what the module holds: written data -/
def vOf : Value → V
  | .none => .non
  | .bool b => .bl b
  | .int i _ => .int i
  | .str x _ => .str x
  | .ref a => .ref a
  | _ => .non
mutual
def dOk (K : PySem.W.Frag) : Value → D → Bool
  | .none, .non => true
  | .bool b, .bl c => b == c
  | .int i _, .int j => decide (i = j)
  | .str x _, .str y => decide (x = y)
  | .ref a, .tup ds => match K.lookup a with
    | some ⟨.type c, _, .seq its _, _⟩ => decide (c = "tuple") && (decide (its.size ≤ sizeLine) && dsOk K its.toList ds)
    | _ => false
  | .ref a, .lst ds => match K.lookup a with
    | some ⟨.type c, none, .seq its _, _⟩ => decide (c = "list") && (decide (its.size ≤ sizeLine) && dsOk K its.toList ds)
    | _ => false
  | _, _ => false
def dsOk (K : PySem.W.Frag) : List Value → List D → Bool
  | [], [] => true
  | v :: vs, d :: ds => dOk K v d && dsOk K vs ds
  | _, _ => false
end
section
variable {T : Tx}
mutual
theorem dOk_rep (d : D) : ∀ {u : Value}, dOk T.K u d = true → RelV (vOf u) u ∧ ∀ io G, Rep T io G (vOf u) d := by
  intro u h
  cases d with
  | non => cases u <;> simp [dOk] at h; exact ⟨rfl, fun _ _ => .non⟩
  | bl c => cases u <;> simp [dOk] at h; subst h; exact ⟨rfl, fun _ _ => .bl _⟩
  | int j => cases u <;> simp [dOk] at h; subst h; exact ⟨⟨_, rfl⟩, fun _ _ => .int _⟩
  | str y => cases u <;> simp [dOk] at h; subst h; exact ⟨⟨_, rfl⟩, fun _ _ => .str _⟩
  | tup ds =>
    cases u with
    | ref a =>
      unfold dOk at h
      cases q : T.K.lookup a with
      | none => rw [q] at h; cases h
      | some o =>
        obtain ⟨oc, od, dt, osl⟩ := o
        rw [q] at h
        cases oc with
        | type c =>
          cases dt with
          | seq its n =>
            simp only [Bool.and_eq_true, decide_eq_true_eq] at h
            obtain ⟨h1, h2, h3⟩ := h
            obtain ⟨r1, r2⟩ := dsOk_rep ds h3
            exact ⟨rfl, fun io G => .tup (.inr ⟨_, its, n, q, congrArg Value.type h1, rfl, h2, r1⟩) (r2 io G)⟩
          | _ => cases h
        | _ => cases dt <;> cases h
    | _ => simp [dOk] at h
  | lst ds =>
    cases u with
    | ref a =>
      unfold dOk at h
      cases q : T.K.lookup a with
      | none => rw [q] at h; cases h
      | some o =>
        obtain ⟨oc, od, dt, osl⟩ := o
        rw [q] at h
        cases oc with
        | type c =>
          cases od with
          | none =>
            cases dt with
            | seq its n =>
              simp only [Bool.and_eq_true, decide_eq_true_eq] at h
              obtain ⟨h1, h2, h3⟩ := h
              obtain ⟨r1, r2⟩ := dsOk_rep ds h3
              exact ⟨rfl, fun io G => .lst (.inr ⟨_, its, n, q, congrArg Value.type h1, rfl, rfl, h2, r1⟩) (r2 io G)⟩
            | _ => cases h
          | some _ => cases dt <;> cases h
        | _ => cases od <;> cases dt <;> cases h
    | _ => simp [dOk] at h
  | _ => cases u <;> simp [dOk] at h
theorem dsOk_rep (ds : List D) : ∀ {us : List Value}, dsOk T.K us ds = true → Vals (us.map vOf) us ∧ ∀ io G, Reps T io G (us.map vOf) ds := by
  intro us h
  cases ds with
  | nil => cases us with
    | nil => exact ⟨.nil, fun _ _ => .nil⟩
    | cons => simp [dsOk] at h
  | cons d ds => cases us with
    | nil => simp [dsOk] at h
    | cons u us =>
      simp only [dsOk, Bool.and_eq_true] at h
      obtain ⟨a1, a2⟩ := dOk_rep d h.1
      obtain ⟨b1, b2⟩ := dsOk_rep ds h.2
      exact ⟨.cons a1 b1, fun io G => .cons (a2 io G) (b2 io G)⟩
end
end
/-- a written dict of text keys: its values -/
def kvOk (K : PySem.W.Frag) (a : Addr) : List Str → List D → Bool
  | [], [] => true
  | k :: ks, d :: ds => (match PySem.W.nsIn K a k with
    | some (some u) => dOk K u d
    | _ => false) && kvOk K a ks ds
  | _, _ => false
theorem kvOk_lk {K : PySem.W.Frag} {a : Addr} : ∀ {ks : List Str} {ds : List D}, kvOk K a ks ds = true → ∀ z d, lk ks ds z = some d → ∃ u, PySem.W.nsIn K a z = some (some u) ∧ dOk K u d = true
  | [], [], _, z, d, e => by cases e
  | k :: ks, d0 :: ds, h, z, d, e => by
    simp only [kvOk, Bool.and_eq_true] at h
    unfold lk at e
    split at e
    · rename_i hz
      subst hz
      cases e
      cases q : PySem.W.nsIn K a z with
      | none => rw [q] at h; cases h.1
      | some r =>
        rw [q] at h
        cases r with
        | none => cases h.1
        | some u => exact ⟨u, rfl, h.1⟩
    · exact kvOk_lk h.2 z d e
  | [], _ :: _, h, _, _, _ => by simp [kvOk] at h
  | _ :: _, [], h, _, _, _ => by simp [kvOk] at h
/-- a key that is not written is not found -/
theorem nsIn_absent {K : PySem.W.Frag} {a : Addr} {z : Str} {ks : List Str} {P : Params} (h : He.dicW K a = some (He.keysIn P ks)) (hz : z ∉ ks) : PySem.W.nsIn K a z = some none := by
  unfold He.dicW at h
  unfold PySem.W.nsIn
  cases q : K.lookup a with
  | none => rw [q] at h; cases h
  | some o =>
    obtain ⟨oc, od, dt, osl⟩ := o
    rw [q] at h
    cases oc with
    | type c =>
      cases od with
      | none =>
        cases dt with
        | dict es n =>
          have h1 : (match decide (c = "dict") && (osl.isEmpty && !(a == sysModules)) with
            | true => some (es.toList.map He.keyOf)
            | false => none) = some (He.keysIn P ks) := h
          split at h1
          · have h2 := Option.some.inj h1
            have all : ∀ e ∈ es.toList, ∃ x t, e.key = .str x t ∧ x ∈ ks := fun e he => by
              have m : He.keyOf e ∈ es.toList.map He.keyOf := List.mem_map_of_mem he
              rw [h2] at m
              unfold He.keysIn at m
              obtain ⟨k, hk, e1⟩ := List.mem_map.mp m
              unfold He.keyOf at e1
              split at e1
              · rename_i x t hx
                have e3 := Option.some.inj e1
                injection e3 with e4 e5
                exact ⟨x, t, hx, by rw [← e4]; exact hk⟩
              · cases e1
            have f1 : es.toList.find? (·.key.isStr z) = none := List.find?_eq_none.mpr fun e he => by
              obtain ⟨x, t, hx, hk⟩ := all e he
              rw [hx]
              intro q2
              apply hz
              have : x = z := by simpa [Value.isStr] using q2
              rw [← this]; exact hk
            have f2 : (es.toList.any (·.refKey)) = false := by
              rw [List.any_eq_false]
              intro e he
              obtain ⟨x, t, hx, hk⟩ := all e he
              unfold DictEntry.refKey
              rw [hx]
              simp
            show (match es.toList.find? (·.key.isStr z) with
              | some e => some (some e.val)
              | none => if es.toList.any (·.refKey) then none else some none) = some none
            rw [f1, f2]
            rfl
          · cases h1
        | _ => cases h
      | some b => cases dt <;> cases h
    | _ => cases od <;> cases dt <;> cases h
theorem lk_none {ks : List Str} : ∀ {ds : List D} {z : Str}, ks.length = ds.length → lk ks ds z = none → z ∉ ks := by
  induction ks with
  | nil => intro ds z _ _; simp
  | cons k ks ih =>
    intro ds z hl h
    cases ds with
    | nil => simp at hl
    | cons d ds =>
      unfold lk at h
      split at h
      · cases h
      · rename_i hz
        simp only [List.mem_cons, not_or]
        exact ⟨hz, ih (by simpa using hl) h⟩
theorem kd_rep {T : Tx} {a : Addr} {ks : List Str} {ds : List D} {es : Array DictEntry} {n : Nat} (kd : KDict T.K T.w a es n) (hw : He.dicW T.K a = some (He.keysIn T.w.params ks)) (hl : ks.length = ds.length) (hv : kvOk T.K a ks ds = true) (io : Io) (G : Hp) : Rep T io G (.ref a) (.kd ks ds) :=
  .kd (vv := fun z => match PySem.W.nsIn T.K a z with
    | some (some u) => vOf u
    | _ => .non) kd (fun z d e => by
    obtain ⟨u, h1, h2⟩ := kvOk_lk hv z d e
    exact ⟨u, h1, by rw [h1]; exact (dOk_rep d h2).1⟩) (fun z d e => by
    obtain ⟨u, h1, h2⟩ := kvOk_lk hv z d e
    rw [h1]
    exact (dOk_rep d h2).2 io G) fun z e => nsIn_absent hw (lk_none hl e)
end Ev

/-! E13b: own error classes, by reckoning. -/
namespace Ev
open PySem PySem.Spec L2
/-- an own class above ValueError: by reckoning -/
def oexOk (K : PySem.W.Frag) (C : Addr) : Bool := (match K.lookup C with
  | some ⟨.type "type", _, .cls cd, sl⟩ => (match cd.mro, sl.toList with
    | .ref C' :: bm, [_, _, _, _, some (.builtin n), _] => C' == C && n == "ValueError.__new__" && !cd.hasDel && cd.hasDict && PySem.HandSPX.refsVE bm
    | _, _ => false)
  | _ => false) && (decide (PySem.W.findIn K (.ref C) "__setattr__" = some (some (.builtin "object.__setattr__"))) && (decide (PySem.W.subIn K (.ref C) (.type "BaseException") = some true) && (decide (PySem.W.typeIn K (.ref C) = some (.type "type")) && PySem.W.keepIn K (.ref C))))
theorem oexOk_ok {K : PySem.W.Frag} {C : Addr} (h : oexOk K C = true) : OexC K C := by
  unfold oexOk at h
  simp only [Bool.and_eq_true, decide_eq_true_eq] at h
  obtain ⟨q, h1, h2, h3, h4⟩ := h
  refine ⟨?_, h1, h2, h3, h4⟩
  split at q
  · rename_i dd cd sl ho
    split at q
    · rename_i C' bm k0 k1 k2 k3 n k5 hm hs
      simp only [Bool.and_eq_true, beq_iff_eq, Bool.not_eq_true'] at q
      obtain ⟨⟨⟨⟨rfl, rfl⟩, hdel⟩, hdct⟩, ht⟩ := q
      obtain ⟨nm, bs, mro, ns, qn, hd, sn, sub, ab, col, del⟩ := cd
      dsimp only at hm hdel hdct
      subst hm hdel hdct
      have hsl : sl = #[k0, k1, k2, k3, some (.builtin "ValueError.__new__"), k5] := by
        obtain ⟨l⟩ := sl
        simp only at hs
        rw [hs]
      subst hsl
      exact ⟨nm, qn, ns, bs, bm, sn, sub, ab, col, dd, k0, k1, k2, k3, k5, ho, ht⟩
    · cases q
  · cases q
/-- what an own error class must say -/
structure XCls (K : PySem.W.Frag) (D : Addr) : Prop where
  cl : (PySem.W.clsIn K D).isSome = true
  f : XfC K D
  ha : PySem.W.findIn K (.ref D) "__class__" = some (some (.builtin "object.__class__"))
  hn : PySem.W.specialIn K (.builtin "object.__class__") "__get__" = some (some (.builtin "getset_descriptor.__get__"))
  ht : PySem.W.takesIn K (.builtin "object.__class__") = some true
  hm : PySem.W.mroIn K D (.type "object") = some true
def xclsB (K : PySem.W.Frag) (D : Addr) : Bool := (PySem.W.clsIn K D).isSome && (xfB K D && (decide (PySem.W.findIn K (.ref D) "__class__" = some (some (.builtin "object.__class__"))) && (decide (PySem.W.specialIn K (.builtin "object.__class__") "__get__" = some (some (.builtin "getset_descriptor.__get__"))) &&
  (decide (PySem.W.takesIn K (.builtin "object.__class__") = some true) && decide (PySem.W.mroIn K D (.type "object") = some true)))))
theorem xclsB_ok {K : PySem.W.Frag} {D : Addr} (h : xclsB K D = true) : XCls K D := by
  unfold xclsB at h
  simp only [Bool.and_eq_true, decide_eq_true_eq] at h
  exact ⟨h.1, xfB_ok h.2.1, h.2.2.1, h.2.2.2.1, h.2.2.2.2.1, h.2.2.2.2.2⟩
end Ev

/-! E14: the facts of the head, for the printed texts. -/
namespace Ev
open PySem PySem.Spec L2
/-- a constant of the module -/
inductive Con where
  | kd (x : Str) (ks : List Str) (ds : List D)
  | val (x : Str) (d : D)
  /-- an own error x whose __init__ keeps the one field f -/
  | ecl (x f : Str)
  /-- y among the own errors: which of these classes lie below it -/
  | tree (y : Str) (tbl : List (Str × Bool))
  /-- these errors' field n is the instance's own -/
  | fld (cs : List Str) (n : Str)
  /-- the defs' tables lie apart -/
  | apart (tf : List He.Defn)
def Con.ok (K : PySem.W.Frag) : Con → Bool
  | .kd x ks ds => kvOk K (He.ga K x) ks ds
  | .val x d => (match PySem.W.nsIn K mainGlobals x with
    | some (some u) => dOk K u d
    | _ => false)
  | .ecl x f => oexOk K (He.ga K x) && (decide (PySem.W.findIn K (.ref (He.ga K x)) "__init__" = some (some (.ref (He.ma K (He.ga K x) "__init__")))) && (decide (PySem.W.typeIn K (.ref (He.ma K (He.ga K x) "__init__")) = some (.type "function")) && decide (PySem.W.findIn K (.ref (He.ga K x)) f = some none)))
  | .tree y tbl => decide (PySem.W.kitOne K (.type "NoneType") (.ref (He.ga K y)) = some false) && tbl.all fun p => xclsB K (He.ga K p.1) && (decide (PySem.W.kitOne K (.ref (He.ga K p.1)) (.ref (He.ga K y)) = some p.2) && decide (PySem.W.exmOne K (.ref (He.ga K p.1)) (.ref (He.ga K y)) = some p.2))
  | .fld cs n => cs.all fun c => xfB K (He.ga K c) && decide (PySem.W.findIn K (.ref (He.ga K c)) n = some none)
  | .apart tf => decide (tf.map fun p => (He.cT K p).2).Nodup
def exOf (cs : List Con) (K : PySem.W.Frag) : Bool := cs.all (·.ok K)
structure Facts (T : Tx) (mg : Str → Option Value) (fa : List He.Fa) (fn : List He.DefD) (ts : List He.Tab) (tf : List He.Defn) (cs : List Con) : Prop where
  ca : ∀ x, T.ca x = He.ga T.K x
  x : ∃ h, T.K.In h ∧ h.Ns mainGlobals mg ∧ He.SaysX fa fn ts tf (exOf cs) T.w h T.K
section
variable {T : Tx} {mg : Str → Option Value} {fa : List He.Fa} {fn : List He.DefD} {ts : List He.Tab} {tf : List He.Defn} {cs : List Con}
theorem Facts.glo (M : Facts T mg fa fn ts tf cs) (i : Nat) {x : Str} (h : fa[i]? = some (.glo x)) : mg x = some (.ref (He.ga T.K x)) := by
  obtain ⟨hp, k, g, c⟩ := M.x
  exact He.glo_ok k g (c.t.d.fact i h)
theorem Facts.free (M : Facts T mg fa fn ts tf cs) (i : Nat) {x : Str} (h : fa[i]? = some (.free x)) : mg x = none := by
  obtain ⟨hp, k, g, c⟩ := M.x
  exact He.free_ok k g (c.t.d.fact i h)
theorem Facts.def_ (M : Facts T mg fa fn ts tf cs) (i : Nat) {d : He.DefD} (h : fn[i]? = some d) : ∃ fd, FunD T.K d.name d.qual d.params d.body d.scope (d.dvs T.K) (d.kws T.K) (He.fAd T.K d.at_) fd := by
  obtain ⟨hp, k, g, c⟩ := M.x
  exact c.t.d.def_ i h
theorem Facts.con (M : Facts T mg fa fn ts tf cs) (i : Nat) {z : Con} (h : cs[i]? = some z) : z.ok T.K = true := by
  obtain ⟨hp, k, g, c⟩ := M.x
  exact List.all_eq_true.mp c.more z (List.mem_of_getElem? h)
theorem Facts.tab (M : Facts T mg fa fn ts tf cs) (i : Nat) {t : He.Tab} (h : ts[i]? = some t) : He.dicW T.K (t.1 T.K) = some (He.keysIn T.w.params t.2) := by
  obtain ⟨hp, k, g, c⟩ := M.x
  have e : ts.map (fun t => He.dicW T.K (t.1 T.K)) = ts.map fun t => some (He.keysIn T.w.params t.2) := congrArg (fun z : He.AlT => z.2) c.t
  have e2 : (ts.map fun t => He.dicW T.K (t.1 T.K))[i]? = (ts.map fun t => some (He.keysIn T.w.params t.2))[i]? := by rw [e]
  rw [List.getElem?_map, List.getElem?_map, h] at e2
  exact Option.some.inj e2
theorem Facts.kd (M : Facts T mg fa fn ts tf cs) (i j : Nat) {x : Str} {ks : List Str} {ds : List D} (h1 : ts[i]? = some (fun K => He.ga K x, ks)) (h2 : cs[j]? = some (.kd x ks ds)) (hl : ks.length = ds.length) (io : Io) (G : Hp) : Rep T io G (.ref (He.ga T.K x)) (.kd ks ds) := by
  have a := M.tab i h1
  have b := M.con j h2
  obtain ⟨es, n, kd⟩ := He.dicW_ok a
  exact kd_rep kd a hl b io G
/-- the name of a constant -/
theorem Facts.val (M : Facts T mg fa fn ts tf cs) (j : Nat) {x : Str} {d : D} (h2 : cs[j]? = some (.val x d)) : ∃ u, mg x = some u ∧ RelV (vOf u) u ∧ ∀ io G, Rep T io G (vOf u) d := by
  have b := M.con j h2
  unfold Con.ok at b
  obtain ⟨hp, k, g, c⟩ := M.x
  cases q : PySem.W.nsIn T.K mainGlobals x with
  | none => simp only [q] at b; cases b
  | some r =>
    cases r with
    | none => simp only [q] at b; cases b
    | some u =>
      simp only [q] at b
      exact ⟨u, PySem.W.mg_of k g q, dOk_rep d b⟩
end
end Ev
namespace Ev
open PySem PySem.Spec L2
/-- a block stands in its def: by reckoning -/
def blkChk (N : List Str) (sn : List (Str × NameKind)) (sc : Scope) (own : List (Str × Nat)) : Bool :=
  decide (sc.kind = .function) && (sc.names.all fun y => decide (sc.names.lookup y.1 = some y.2)) && (own.all fun p => decide (N[p.2]? = some p.1)) &&
  (sc.names.all fun y => !decide (y.2 = .free) || (decide (sn.lookup y.1 = some .cell) || decide (sn.lookup y.1 = some .free))) &&
  (sc.names.all fun y => !(decide (y.2 = .local) || decide (y.2 = .cell)) || (decide (y.1 ∈ own.map (·.1)) || decide (y.1 ∉ N)))
theorem blkOk_of {N : List Str} {sc scope : Scope} {own : List (Str × Nat)} (h : blkChk N sc.names scope own = true) : BlkOk N sc scope own := by
  unfold blkChk at h
  simp only [Bool.and_eq_true, List.all_eq_true, decide_eq_true_eq, Bool.or_eq_true, Bool.not_eq_true', decide_eq_false_iff_not] at h
  obtain ⟨⟨⟨⟨h1, h2⟩, h3⟩, h4⟩, h5⟩ := h
  refine ⟨h1, h2, h3, fun y hy e => ?_, fun y hy e => ?_⟩
  · rcases h4 y hy with q | q
    · exact absurd e q
    · exact q
  · rcases h5 y hy with q | q
    · rcases e with e | e <;> simp [e] at q
    · exact q
end Ev
namespace Ev
open PySem PySem.Spec L2
/-- a body's derivation gives the promise -/
theorem def_okG {T : Tx} {P : Program} {mg : Str → Option Value} {base : Heap} {y qual : Str} {params : Arguments} {body : List Stmt} {scope : Scope} {f : Addr} {fd : FuncData} {N ps : List Str} {k : Nat} {m : MS}
    {dvs : List V} {kws : List (Str × V)} (F : FunD T.K y qual params body scope dvs kws f fd) (S : FnScope N ps scope)
    (hbody : ∀ (cdv : Value), CodeAt T.K f cdv → ∀ (A : Around) (outer : List Env) (s : Shared) (H : Hp) (E : XK), A.guards = some [] → Room k (A.deeper (PyProof.Rows.envOfC qual scope s.heap.objs.size f cdv)) →
      Takes (cxOf (L2.CX P T.w) P T.w T.K mg base N qual scope f cdv A outer s H E) (fun cls d _ H => E cls d H) →
      PSs (cxOf (L2.CX P T.w) P T.w T.K mg base N qual scope f cdv A outer s H E) body (tS T (fun cls d _ H => E cls d H) m)) : FnG P T.w T.K mg base (L2.CX P T.w) (k + 1) f fd ps (spD T ps.length (bodyF N.length m)) := by
  refine fnG_of F S (fun vs H Q E ⟨_, _, _, _, _, _, h, _⟩ => h) fun cdv hcd A outer s H vs Q E gd hr hsp => ?_
  refine ⟨_, hbody cdv hcd A outer s H E gd hr (takes_of rfl rfl rfl rfl), ?_⟩
  obtain ⟨x, ds, sto, b, hu, r, hn, h⟩ := hsp
  refine ⟨x, _, b.start r rfl, ?_⟩
  unfold bodyF at h
  cases e : m ⟨ds.map .sh ++ List.replicate (N.length - ds.length) .un, sto⟩ with
  | nx s' => rw [e] at h; exact fun x' σ' H' k' st => h x' .non H' k'.bx st .non
  | bk _ => rw [e] at h; exact h.elim
  | ct _ => rw [e] at h; exact h.elim
  | rt d sto => rw [e] at h; exact h
  | ro xs sto => rw [e] at h; exact h
  | exc c ns vs sto => rw [e] at h; exact fun σ' x' dd us H' b' st xd => h x' dd us H' b' st xd
  | bad => rw [e] at h; exact h.elim
/-- a law's end, its numbers of some 2^20 bits -/
theorem end_ofB {l : PySem.W.OpenLaw} {n k : Nat} {q : Program} {loose : List Str} {XP : (Str → Option Value) → Heap → Prop} {YP : World → Heap → Prop} {d : DefRec} {y : Str} {F : Fn}
    (hn : l.most = some n) (few : n ≤ sizeLine) (hdf : d.params.defaults = []) (room : Room k callerA)
    (FO : ∀ (w : World) (mg : Str → Option Value) (fa : Addr) (h : Heap), YP w h → h.Ns mainGlobals mg → mg d.name = some (.ref fa) →
      ∃ (K : PySem.W.Frag) (ca : Str → Addr) (fd : FuncData) (cs : List (Addr × Addr)) (tb : List (Addr × Str)), K.In h ∧ (∀ (s : Shared) (u : Value), BindsTo s fd ⟨[u], []⟩ [(y, u)]) ∧ TabE K h cs ∧ (∀ p ∈ tb, p.1 ∈ cs.map (·.2)) ∧
        ∀ base : Heap, K.In base → base.Ns mainGlobals mg → TabsAt base mg cs → FnG l.prog w K mg base (L2.CX l.prog w) k fa fd [y] (spD { K := K, w := w, ca := ca, tb := tb } 1 F))
    (run : ∀ ns : List Int, ns.length ≤ n → (∀ z ∈ ns, Builtin.Int.intBits z ≤ 1048576) → ∃ sto, F [.lst (ns.map .int)] [] = .rt (.bl true) sto) :
    PySem.W.WalkO q loose XP YP l.row.toRowW d [] (fun f vs => PySem.call f vs) :=
  Att.attach_callB hn hdf fun w s0 s1 mg mb fa o pm cd doc a vs ns G Y _ _ _ hmg hobj hints hlen hbits hg => by
    obtain ⟨K, ca, fd, cs, tb, kin, bind, TE, htb, FO⟩ := FO w mg fa _ Y G.T.g hmg
    exact end_call (ca := ca) kin G.T.g G.T.b G.T.builtins G.T.nolimit hg TE htb G.T.bmain hobj hints (Nat.le_trans hlen few) room FO bind (run ns hlen hbits)
end Ev

/-! E17: what is wanted of the meanings: rules to reckon them with, from the front. -/
namespace Ev
open PySem PySem.Spec L2
abbrev Sto := List (List D)
abbrev XPost := Str → List Str → List D → Sto → Prop
def Xn : XPost := fun _ _ _ _ => False
/-- of an expression -/
def We {α : Type} (r : R α) (E : XPost) (Q : α → Sx → Prop) : Prop := match r with
  | .ok a s => Q a s
  | .exc c ns vs sto => E c ns vs sto
  | .bad => False
structure Kp where
  nx : Sx → Prop
  bk : Sx → Prop
  ct : Sx → Prop
  rt : D → Sto → Prop
  ro : List D → Sto → Prop
  ex : XPost
abbrev Kp.to (k : Kp) (f : Sx → Prop) : Kp := ⟨f, k.bk, k.ct, k.rt, k.ro, k.ex⟩
abbrev Kp.lp (k : Kp) (f : Sx → Prop) : Kp := ⟨f, k.nx, f, k.rt, k.ro, k.ex⟩
/-- of a statement -/
def Ws (r : RS) (k : Kp) : Prop := match r with
  | .nx s => k.nx s
  | .bk s => k.bk s
  | .ct s => k.ct s
  | .rt d sto => k.rt d sto
  | .ro xs sto => k.ro xs sto
  | .exc c ns vs sto => k.ex c ns vs sto
  | .bad => False
/-- of a def's call -/
def Wf (r : RS) (E : XPost) (P : D → Sto → Prop) : Prop := match r with
  | .rt d sto => P d sto
  | .ro xs sto => P (.lst xs) sto
  | .exc c ns vs sto => E c ns vs sto
  | _ => False
def WfO (r : RS) (E : XPost) (P : List D → Sto → Prop) : Prop := match r with
  | .ro xs sto => P xs sto
  | .exc c ns vs sto => E c ns vs sto
  | _ => False
def X2 (g : D → D → Option D) (a b : D) (P : D → Prop) : Prop := ∃ z, g a b = some z ∧ P z
def X1 (g : D → Option D) (a : D) (P : D → Prop) : Prop := ∃ z, g a = some z ∧ P z
def XL (g : List D → Option D) (a : List D) (P : D → Prop) : Prop := ∃ z, g a = some z ∧ P z
def XI (g : List D → Option (List D)) (a : List D) (P : List D → Prop) : Prop := ∃ z, g a = some z ∧ P z
def XItems (a : D) (P : List D → Prop) : Prop := ∃ xs, itemsOf a = some xs ∧ P xs
def XPar (ds : List D) (P : D → D → Prop) : Prop := ∃ d e, ds = [d, e] ∧ P d e
def XIxO (i : Nat) (b : D) (s : Sx) (P : D → Sx → Prop) : Prop := ∃ j xs z, b = .int j ∧ (slD s i).bind itemsOf = some xs ∧ atI xs j = some z ∧ P z s
def XSetB (o j v : D) (s : Sx) (P : Sx → Prop) : Prop := ∃ n jj xs p, o = .box n ∧ j = .int jj ∧ s.sto[n]? = some xs ∧ ixN xs.length jj = some p ∧ P { s with sto := s.sto.set n (xs.set p v) }
def XSetO (i : Nat) (j v : D) (s : Sx) (P : Sx → Prop) : Prop := ∃ jj xs p, j = .int jj ∧ s.env[i]? = some (.ow xs) ∧ ixN xs.length jj = some p ∧ P (s.own i (xs.set p v))
def XApp (i : Nat) (d : D) (s : Sx) (P : Sx → Prop) : Prop := ∃ xs, s.env[i]? = some (.ow xs) ∧ xs.length < sizeLine ∧ P (s.own i (xs ++ [d]))
def XLen (ds : List D) (p : Prop) : Prop := ds.length ≤ sizeLine ∧ p
theorem XLen.mk {ds : List D} {p : Prop} (h : Nat.ble ds.length sizeLine = true) (q : p) : XLen ds p := ⟨Nat.le_of_ble_eq_true h, q⟩
def XOpt (d : D) (P : Option Int → Prop) : Prop := ∃ i, d = .int i ∧ P (some i)
theorem XOpt.int {i : Int} {P : Option Int → Prop} (h : P (some i)) : XOpt (.int i) P := ⟨i, rfl, h⟩
def XSl (a : D) (l h : Option Int) (P : D → Prop) : Prop := ∃ z, gSl a l h = some z ∧ P z
theorem XSl.lst {xs : List D} {l h : Option Int} {P : D → Prop} (q : P (.lst (cutD xs l h))) : XSl (.lst xs) l h P := ⟨_, rfl, q⟩
theorem XSl.tup {xs : List D} {l h : Option Int} {P : D → Prop} (q : P (.tup (cutD xs l h))) : XSl (.tup xs) l h P := ⟨_, rfl, q⟩
def XStr (a : D) (P : Str → Prop) : Prop := ∃ x, a = .str x ∧ P x
theorem XStr.str {x : Str} {P : Str → Prop} (h : P x) : XStr (.str x) P := ⟨x, rfl, h⟩
theorem XItems.lst {xs : List D} {P : List D → Prop} (h : P xs) : XItems (.lst xs) P := ⟨xs, rfl, h⟩
theorem XItems.tup {xs : List D} {P : List D → Prop} (h : P xs) : XItems (.tup xs) P := ⟨xs, rfl, h⟩
theorem XPar.two {d e : D} {P : D → D → Prop} (h : P d e) : XPar [d, e] P := ⟨d, e, rfl, h⟩
theorem XSetB.box {n p : Nat} {jj : Int} {v : D} {s : Sx} {xs : List D} {P : Sx → Prop} (h1 : s.sto[n]? = some xs) (h2 : ixN xs.length jj = some p) (h : P { s with sto := s.sto.set n (xs.set p v) }) : XSetB (.box n) (.int jj) v s P := ⟨n, jj, xs, p, rfl, rfl, h1, h2, h⟩
theorem XSetO.own {i p : Nat} {jj : Int} {v : D} {s : Sx} {xs : List D} {P : Sx → Prop} (h1 : s.env[i]? = some (.ow xs)) (h2 : ixN xs.length jj = some p) (h : P (s.own i (xs.set p v))) : XSetO i (.int jj) v s P := ⟨jj, xs, p, rfl, h1, h2, h⟩
theorem XApp.own {i : Nat} {d : D} {s : Sx} {xs : List D} {P : Sx → Prop} (h1 : s.env[i]? = some (.ow xs)) (h2 : xs.length < sizeLine) (h : P (s.own i (xs ++ [d]))) : XApp i d s P := ⟨xs, h1, h2, h⟩
theorem XIxO.at {i : Nat} {j : Int} {s : Sx} {xs : List D} {z : D} {P : D → Sx → Prop} (h1 : (slD s i).bind itemsOf = some xs) (h2 : atI xs j = some z) (h : P z s) : XIxO i (.int j) s P := ⟨j, xs, z, rfl, h1, h2, h⟩
def XB (d : D) (P : Bool → Prop) : Prop := ∃ b, d = .bl b ∧ P b
/-- by a truth: either way -/
def Xc (b : Bool) (A B : Prop) : Prop := (b = true → A) ∧ (b = false → B)
theorem Xc.t {b : Bool} {A B : Prop} (h : b = true) (a : A) : Xc b A B := ⟨fun _ => a, fun e => by rw [h] at e; cases e⟩
theorem Xc.f {b : Bool} {A B : Prop} (h : b = false) (a : B) : Xc b A B := ⟨fun e => (by rw [h] at e; cases e), fun _ => a⟩
theorem Xc.d {p : Prop} [Decidable p] {A B : Prop} (a : p → A) (b : ¬ p → B) : Xc (decide p) A B := ⟨fun e => a (of_decide_eq_true e), fun e => b (of_decide_eq_false e)⟩
theorem Xc.n {c : Bool} {A B : Prop} (h : Xc c B A) : Xc (!c) A B := ⟨fun e => h.2 (by simpa using e), fun e => h.1 (by simpa using e)⟩
section
variable {α β : Type} {E : XPost} {s : Sx} {Q : α → Sx → Prop}
theorem We.bind {m : M β} {f : β → M α} (h : We (m s) E fun a s' => We (f a s') E Q) : We (M.bind m f s) E Q := by
  unfold M.bind
  cases e : m s with
  | ok a s' => rw [e] at h; exact h
  | exc => rw [e] at h; exact h
  | bad => rw [e] at h; exact h
theorem We.imp {r : R α} {Q' : α → Sx → Prop} (h : We r E Q) (k : ∀ a s, Q a s → Q' a s) : We r E Q' := by
  cases r with
  | ok a s' => exact k _ _ h
  | exc => exact h
  | bad => exact h
theorem We.pure {a : α} (h : Q a s) : We (M.pure a s) E Q := h
theorem We.lift {o : Option α} {a : α} (e : o = some a) (h : Q a s) : We (M.lift o s) E Q := by
  subst e; exact h
end
section
variable {E : XPost} {s : Sx} {Q : D → Sx → Prop} {QB : Bool → Sx → Prop} {QL : List D → Sx → Prop} {ma mb mc : M D} {ml : M (List D)} {m n : M Bool} {i : Nat} {d : D}
theorem We.var (h : s.env[i]? = some (.sh d)) (q : Q d s) : We (mVar i s) E Q := by
  unfold mVar; rw [h]; exact q
theorem We.varO {xs : List D} (h : s.env[i]? = some (.ow xs)) (q : Q (.lst xs) (s.put i (.lst xs))) : We (mVar i s) E Q := by
  unfold mVar; rw [h]; exact q
theorem We.c (q : Q d s) : We (mC d s) E Q := q
theorem We.m1 {g : D → Option D} (h : We (ma s) E fun a s1 => X1 g a fun z => Q z s1) : We (m1 g ma s) E Q :=
  We.bind (h.imp fun a s1 ⟨z, e, q⟩ => We.lift e q)
theorem We.m2 {g : D → D → Option D} (h : We (ma s) E fun a s1 => We (mb s1) E fun b s2 => X2 g a b fun z => Q z s2) : We (m2 g ma mb s) E Q :=
  We.bind (h.imp fun a s1 h => We.bind (h.imp fun b s2 ⟨z, e, q⟩ => We.lift e q))
theorem We.mL {g : List D → Option D} (h : We (ml s) E fun a s1 => XL g a fun z => Q z s1) : We (mL g ml s) E Q :=
  We.bind (h.imp fun a s1 ⟨z, e, q⟩ => We.lift e q)
theorem We.mRng {g : List D → Option (List D)} (h : We (ml s) E fun a s1 => XI g a fun z => QL z s1) : We (mRng g ml s) E QL :=
  We.bind (h.imp fun a s1 ⟨z, e, q⟩ => We.lift e q)
theorem We.mItems (h : We (ma s) E fun a s1 => XItems a fun xs => QL xs s1) : We (mItems ma s) E QL :=
  We.bind (h.imp fun a s1 ⟨z, e, q⟩ => We.lift e q)
theorem We.mT (h : We (ma s) E fun a s1 => XB a fun b => QB b s1) : We (mT ma s) E QB :=
  We.bind (h.imp fun a s1 ⟨z, e, q⟩ => by subst e; exact We.lift rfl q)
theorem We.mNot (h : We (m s) E fun b s1 => QB (!b) s1) : We (mNot m s) E QB := We.bind (h.imp fun b s1 q => q)
theorem We.mAnd (h : We (m s) E fun b s1 => Xc b (We (n s1) E QB) (QB false s1)) : We (mAnd m n s) E QB :=
  We.bind (h.imp fun b s1 q => by cases b; exact q.2 rfl; exact q.1 rfl)
theorem We.mOr (h : We (m s) E fun b s1 => Xc b (QB true s1) (We (n s1) E QB)) : We (mOr m n s) E QB :=
  We.bind (h.imp fun b s1 q => by cases b; exact q.2 rfl; exact q.1 rfl)
theorem We.mIf {α : Type} {Q : α → Sx → Prop} {x y : M α} (h : We (m s) E fun b s1 => Xc b (We (x s1) E Q) (We (y s1) E Q)) : We (mIf m x y s) E Q :=
  We.bind (h.imp fun b s1 q => by cases b; exact q.2 rfl; exact q.1 rfl)
theorem We.nil (q : QL [] s) : We (mNil s) E QL := q
theorem We.cons (h : We (ma s) E fun d s1 => We (ml s1) E fun ds s2 => QL (d :: ds) s2) : We (mCons ma ml s) E QL :=
  We.bind (h.imp fun a s1 h => We.bind (h.imp fun b s2 q => q))
theorem We.tup (h : We (ml s) E fun ds s1 => XLen ds (Q (.tup ds) s1)) : We (mTup ml s) E Q :=
  We.bind (h.imp fun a s1 ⟨e, q⟩ => by rw [if_pos e]; exact q)
theorem We.lst (h : We (ml s) E fun ds s1 => XLen ds (QL ds s1)) : We (mLst ml s) E QL :=
  We.bind (h.imp fun a s1 ⟨e, q⟩ => by rw [if_pos e]; exact q)
theorem We.p0 {Q : Option Int → Sx → Prop} (h : Q none s) : We (mPart none s) E Q := h
theorem We.p1 {Q : Option Int → Sx → Prop} (h : We (ma s) E fun d s1 => XOpt d fun o => Q o s1) : We (mPart (some ma) s) E Q :=
  We.bind (h.imp fun a s1 ⟨i, e, q⟩ => by subst e; exact q)
theorem We.sl {lo hi : Option (M D)} (h : We (ma s) E fun a s1 => We (mPart lo s1) E fun l s2 => We (mPart hi s2) E fun h s3 => XSl a l h fun z => Q z s3) : We (mSl ma lo hi s) E Q :=
  We.bind (h.imp fun a s1 h => We.bind (h.imp fun l s2 h => We.bind (h.imp fun hh s3 ⟨z, e, q⟩ => We.lift e q)))
theorem We.sh (h : We (ml s) E fun ds s1 => Q (.lst ds) s1) : We (mSh ml s) E Q := We.bind (h.imp fun a s1 q => q)
theorem We.call {F : Fn} (h : We (ml s) E fun ds s1 => Wf (F ds s1.sto) E fun d sto => Q d { s1 with sto := sto }) : We (mCall F ml s) E Q :=
  We.bind (h.imp fun ds s1 q => by
    show We (match F ds s1.sto with
      | .rt d sto => .ok d { s1 with sto := sto }
      | .ro xs sto => .ok (.lst xs) { s1 with sto := sto }
      | .exc c ns vs sto => .exc c ns vs sto
      | _ => .bad) E Q
    unfold Wf at q
    cases e : F ds s1.sto <;> rw [e] at q <;> first | exact q | exact q.elim)
theorem We.callF {F : Fn} (h : We (ml s) E fun ds s1 => WfO (F ds s1.sto) E fun d sto => QL d { s1 with sto := sto }) : We (mCallF F ml s) E QL :=
  We.bind (h.imp fun ds s1 q => by
    show We (match F ds s1.sto with
      | .ro xs sto => .ok xs { s1 with sto := sto }
      | .exc c ns vs sto => .exc c ns vs sto
      | _ => .bad) E QL
    unfold WfO at q
    cases e : F ds s1.sto <;> rw [e] at q <;> first | exact q | exact q.elim)
theorem We.mAndV (h : We (ma s) E fun d s1 => XB d fun b => Xc b (We (mb s1) E Q) (Q (.bl false) s1)) : We (mAndV ma mb s) E Q :=
  We.bind (h.imp fun d s1 ⟨b, e, q⟩ => by subst e; cases b; exact q.2 rfl; exact q.1 rfl)
theorem We.mOrV (h : We (ma s) E fun d s1 => XB d fun b => Xc b (Q (.bl true) s1) (We (mb s1) E Q)) : We (mOrV ma mb s) E Q :=
  We.bind (h.imp fun d s1 ⟨b, e, q⟩ => by subst e; cases b; exact q.2 rfl; exact q.1 rfl)
theorem We.mNotV (h : We (ma s) E fun d s1 => XB d fun b => Q (.bl (!b)) s1) : We (mNotV ma s) E Q :=
  We.bind (h.imp fun d s1 ⟨b, e, q⟩ => by subst e; exact q)
theorem We.chain {g g' : D → D → Option D} (h : We (ma s) E fun a s1 => We (mb s1) E fun b s2 => X2 g a b fun k => XB k fun k => Xc k (We (mc s2) E fun c s3 => X2 g' b c fun z => Q z s3) (Q (.bl false) s2)) : We (mChain g g' ma mb mc s) E Q :=
  We.bind (h.imp fun a s1 h => We.bind (h.imp fun b s2 ⟨z, e, k, e2, q⟩ => by
    subst e2
    refine We.bind (We.lift e ?_)
    cases k
    · exact q.2 rfl
    · exact We.bind ((q.1 rfl).imp fun c s3 ⟨z, e, q⟩ => We.lift e q)))
theorem We.ix (h : We (ma s) E fun a s1 => We (mb s1) E fun b s2 => We (ixPost a b s2) E Q) : We (mIx ma mb s) E Q := We.bind (h.imp fun a s1 h => We.bind h)
theorem We.ixL {xs : List D} {j : Int} {z : D} (e : atI xs j = some z) (q : Q z s) : We (ixPost (.lst xs) (.int j) s) E Q := by
  unfold ixPost gIx; simp only [e]; exact q
theorem We.ixT {xs : List D} {j : Int} {z : D} (e : atI xs j = some z) (q : Q z s) : We (ixPost (.tup xs) (.int j) s) E Q := by
  unfold ixPost gIx; simp only [e]; exact q
theorem We.ixB {xs : List D} {n : Nat} {j : Int} {z : D} (e1 : s.sto[n]? = some xs) (e : atI xs j = some z) (q : Q z s) : We (ixPost (.box n) (.int j) s) E Q := by
  unfold ixPost; simp only [e1, e]; exact q
theorem We.b1 {g : List D → Option D} (e : slD s i = some d) (h : XL g [d] fun z => z.flat = true ∧ Q z s) : We (mB1 g i s) E Q := by
  obtain ⟨z, e2, hz, q⟩ := h
  unfold mB1; simp only [e, e2, hz, if_true]; exact q
theorem We.ixO (e0 : (slD s i).isSome = true) (h : We (mb s) E fun b s1 => XIxO i b s1 Q) : We (mIxB i mb s) E Q := by
  unfold mIxB
  cases e : slD s i with
  | none => rw [e] at e0; cases e0
  | some d0 =>
    simp only
    cases e2 : mb s with
    | ok b s1 =>
      rw [e2] at h
      obtain ⟨j, xs, z, rfl, h1, h2, h3⟩ := h
      simp only [h1, h2]
      exact h3
    | exc => rw [e2] at h; exact h
    | bad => rw [e2] at h; exact h
theorem We.s1 {f : Str → Str → D} (h : We (ma s) E fun a s1 => XStr a fun x => We (mb s1) E fun b s2 => XStr b fun y => Q (f x y) s2) : We (mS1 f ma mb s) E Q := by
  unfold mS1
  refine We.bind (h.imp fun a s1 ⟨x, e, h⟩ => ?_)
  subst e
  refine We.bind (h.imp fun b s2 ⟨y, e, q⟩ => ?_)
  subst e
  exact q
end
section
variable {k : Kp} {s : Sx} {m n : MS} {ma mo mi mv : M D} {ml : M (List D)} {c : M Bool} {i j : Nat} {t : Tg} {body : MS}
theorem Ws.imp {r : RS} {k' : Kp} (h : Ws r k) (h1 : ∀ s, k.nx s → k'.nx s) (h2 : ∀ s, k.bk s → k'.bk s) (h3 : ∀ s, k.ct s → k'.ct s) (h4 : ∀ d s, k.rt d s → k'.rt d s) (h5 : ∀ d s, k.ro d s → k'.ro d s) (h6 : ∀ c ns vs s, k.ex c ns vs s → k'.ex c ns vs s) : Ws r k' := by
  cases r with
  | nx => exact h1 _ h
  | bk => exact h2 _ h
  | ct => exact h3 _ h
  | rt => exact h4 _ _ h
  | ro => exact h5 _ _ h
  | exc => exact h6 _ _ _ _ h
  | bad => exact h
theorem Ws.seq (h : Ws (m s) (k.to fun s' => Ws (n s') k)) : Ws (sSeq m n s) k := by
  unfold sSeq
  cases e : m s <;> rw [e] at h <;> exact h
theorem Ws.seqI (I : Sx → Prop) (h : Ws (m s) (k.to I)) (h2 : ∀ s', I s' → Ws (n s') k) : Ws (sSeq m n s) k :=
  Ws.seq (h.imp h2 (fun _ q => q) (fun _ q => q) (fun _ _ q => q) (fun _ _ q => q) fun _ _ _ _ q => q)
theorem Ws.bind {α : Type} {x : M α} {f : α → MS} (h : We (x s) k.ex fun a s' => Ws (f a s') k) : Ws (sBind x f s) k := by
  unfold sBind
  cases e : x s <;> rw [e] at h <;> exact h
theorem Ws.if (h : We (c s) k.ex fun b s' => Xc b (Ws (m s') k) (Ws (n s') k)) : Ws (sIf c m n s) k :=
  Ws.bind (h.imp fun b s1 q => by cases b; exact q.2 rfl; exact q.1 rfl)
theorem Ws.nx (h : k.nx s) : Ws (sNx s) k := h
theorem Ws.bk (h : k.bk s) : Ws (sBk s) k := h
theorem Ws.ct (h : k.ct s) : Ws (sCt s) k := h
theorem Ws.drop (h : We (ma s) k.ex fun _ s' => k.nx s') : Ws (sDrop ma s) k := Ws.bind (h.imp fun _ _ q => q)
theorem Ws.ret (h : We (ma s) k.ex fun d s' => k.rt d s'.sto) : Ws (sRet ma s) k := Ws.bind (h.imp fun _ _ q => q)
theorem Ws.retF (h : We (ml s) k.ex fun d s' => k.ro d s'.sto) : Ws (sRetF ml s) k := Ws.bind (h.imp fun _ _ q => q)
theorem Ws.retN (h : k.rt .non s.sto) : Ws (sRetN s) k := h
theorem Ws.set (h : We (ma s) k.ex fun d s' => k.nx (s'.put i d)) : Ws (sSet i ma s) k := Ws.bind (h.imp fun _ _ q => q)
theorem Ws.own (h : We (ml s) k.ex fun d s' => k.nx (s'.own i d)) : Ws (sOwn i ml s) k := Ws.bind (h.imp fun _ _ q => q)
theorem Ws.box (h : We (ml s) k.ex fun xs s' => k.nx { env := s'.env.set i (.sh (.box s'.sto.length)), sto := s'.sto ++ [xs] }) : Ws (sBox i ml s) k := Ws.bind (h.imp fun _ _ q => q)
theorem Ws.par (h : We (ml s) k.ex fun ds s' => XPar ds fun d e => k.nx ((s'.put i d).put j e)) : Ws (sPar i j ml s) k :=
  Ws.bind (h.imp fun ds s1 ⟨d, e, z, q⟩ => by subst z; exact q)
theorem Ws.for (h : We (ml s) k.ex fun ds s' => Ws (forL t body ds s') k) : Ws (sFor ml t body s) k := Ws.bind h
theorem Ws.app {xs0 : List D} (e0 : s.env[i]? = some (.ow xs0)) (h : We (ma s) k.ex fun d s1 => XApp i d s1 k.nx) : Ws (sApp i ma s) k := by
  unfold sApp
  simp only [e0]
  exact Ws.bind (h.imp fun d s1 ⟨xs, e, hl, q⟩ => by simp only [e, hl, if_true]; exact q)
theorem Ws.setB (h : We (mv s) k.ex fun v s1 => We (mo s1) k.ex fun o s2 => We (mi s2) k.ex fun j s3 => XSetB o j v s3 k.nx) : Ws (sSetB mo mi mv s) k := by
  unfold sSetB
  refine Ws.bind (h.imp fun v s1 h => Ws.bind (h.imp fun o s2 h => Ws.bind (h.imp fun j s3 ⟨n, jj, xs, p, e1, e2, e3, e4, q⟩ => ?_)))
  subst e1 e2
  simp only [e3, e4]
  exact q
theorem Ws.setO (h : We (mv s) k.ex fun v s1 => ∃ ys, s1.env[i]? = some (.ow ys) ∧ We (mi s1) k.ex fun j s3 => XSetO i j v s3 k.nx) : Ws (sSetO i mi mv s) k := by
  unfold sSetO
  refine Ws.bind (h.imp fun v s1 ⟨ys, e0, h⟩ => ?_)
  simp only [e0]
  refine Ws.bind (h.imp fun j s3 ⟨jj, xs, p, e1, e2, e3, q⟩ => ?_)
  subst e1
  simp only [e2, e3]
  exact q
theorem Wf.fn {E : XPost} {P : D → Sto → Prop} {nn : Nat} {ds : List D} {sto : Sto} (h : Ws (m ⟨ds.map .sh ++ List.replicate (nn - ds.length) .un, sto⟩) ⟨fun s => P .non s.sto, fun _ => False, fun _ => False, P, fun xs => P (.lst xs), E⟩) : Wf (bodyF nn m ds sto) E P := by
  unfold bodyF
  cases e : m ⟨ds.map .sh ++ List.replicate (nn - ds.length) .un, sto⟩ <;> rw [e] at h <;> first | exact h | exact h.elim
theorem WfO.fn {E : XPost} {P : List D → Sto → Prop} {nn : Nat} {ds : List D} {sto : Sto} (h : Ws (m ⟨ds.map .sh ++ List.replicate (nn - ds.length) .un, sto⟩) ⟨fun s => False, fun _ => False, fun _ => False, fun _ _ => False, P, E⟩) : WfO (bodyF nn m ds sto) E P := by
  unfold bodyF
  cases e : m ⟨ds.map .sh ++ List.replicate (nn - ds.length) .un, sto⟩ <;> rw [e] at h <;> first | exact h | exact h.elim
theorem Wf.of_eq {E : XPost} {P : D → Sto → Prop} {r : RS} {d : D} {sto : Sto} (e : r = .rt d sto) (h : P d sto) : Wf r E P := by subst e; exact h
theorem Wf.imp {E : XPost} {P P' : D → Sto → Prop} {r : RS} (h : Wf r E P) (k : ∀ d s, P d s → P' d s) : Wf r E P' := by
  cases r with
  | rt => exact k _ _ h
  | ro => exact k _ _ h
  | exc => exact h
  | nx => exact h
  | bk => exact h
  | ct => exact h
  | bad => exact h
theorem Wf.eq {P : D → Sto → Prop} {r : RS} (h : Wf r Xn P) (hr : ∀ xs sto, r ≠ .ro xs sto) : ∃ d sto, r = .rt d sto ∧ P d sto := by
  cases r with
  | rt => exact ⟨_, _, rfl, h⟩
  | ro => exact absurd rfl (hr _ _)
  | exc => exact h.elim
  | nx => exact h.elim
  | bk => exact h.elim
  | ct => exact h.elim
  | bad => exact h.elim
/-- a loop by an invariant: I at the rest of the items -/
theorem forL_inv (I : List D → Sx → Prop) (step : ∀ d ds s, I (d :: ds) s → ∃ s1, t.run d s = some s1 ∧ Ws (body s1) (k.lp (I ds))) (fin : ∀ s, I [] s → k.nx s) : ∀ ds s, I ds s → Ws (forL t body ds s) k := by
  intro ds
  induction ds with
  | nil => intro s h; exact fin s h
  | cons d ds ih =>
    intro s h
    obtain ⟨s1, e1, h1⟩ := step d ds s h
    show Ws (match t.run d s with
      | none => .bad
      | some s1 => match body s1 with
        | .nx s2 => forL t body ds s2
        | .ct s2 => forL t body ds s2
        | .bk s2 => .nx s2
        | r => r) k
    rw [e1]
    simp only
    cases e : body s1 <;> rw [e] at h1 <;> first | exact ih _ h1 | exact h1
end
/-- a comprehension by an invariant: I at the rest of the items and what was gathered -/
theorem compL_inv {t : Tg} {c : M Bool} {m : M D} {ws : List Nat} (I : List D → List D → Sx → Prop)
    (step : ∀ d ds acc s, I (d :: ds) acc s → acc.length < sizeLine ∧ ∃ s1, t.run d { s with env := wipeE s.env ws } = some s1 ∧ We (c s1) Xn fun b s2 => Xc b (We (m s2) Xn fun z s3 => I ds (acc ++ [z]) s3) (I ds acc s2)) :
    ∀ ds acc s, I ds acc s → ∃ acc' s', compL t c m ws ds acc s = some (acc', s') ∧ I [] acc' s' := by
  intro ds
  induction ds with
  | nil => intro acc s h; exact ⟨acc, s, rfl, h⟩
  | cons d ds ih =>
    intro acc s h
    obtain ⟨hl, s1, e1, h1⟩ := step d ds acc s h
    unfold compL
    rw [e1]
    simp only
    cases e2 : c s1 with
    | exc => rw [e2] at h1; exact h1.elim
    | bad => rw [e2] at h1; exact h1.elim
    | ok b s2 =>
      rw [e2] at h1
      cases b with
      | false => exact ih _ _ (h1.2 rfl)
      | true =>
        have h2 := h1.1 rfl
        simp only
        cases e3 : m s2 with
        | exc => rw [e3] at h2; exact h2.elim
        | bad => rw [e3] at h2; exact h2.elim
        | ok z s3 =>
          rw [e3] at h2
          simp only [hl, if_true]
          exact ih _ _ h2
theorem We.comp {E : XPost} {s : Sx} {Q : List D → Sx → Prop} {mi : M (List D)} {t : Tg} {c : M Bool} {m : M D} {ws : List Nat}
    (h : We (mi s) E fun ds s0 => noOw s0.env ws = true ∧ ∃ acc s', compL t c m ws ds [] s0 = some (acc, s') ∧ Q acc { s' with env := rest_ s0.env s'.env ws }) : We (mComp mi t c m ws s) E Q :=
  We.bind (h.imp fun ds s0 ⟨h1, acc, s', e, q⟩ => by
    show We (if noOw s0.env ws = true then (match compL t c m ws ds [] s0 with
      | some (acc, s') => R.ok acc { s' with env := rest_ s0.env s'.env ws }
      | none => .bad) else .bad) E Q
    rw [if_pos h1, e]
    exact q)
/-! ### operators -/
section
variable {i j : Int} {a b : Str} {p q : Bool} {P : D → Prop} {xs : List D} {PL : List D → Prop}
theorem X2.of {g : D → D → Option D} {x y z : D} (e : g x y = some z) (h : P z) : X2 g x y P := ⟨z, e, h⟩
theorem X2.add (h : P (.int (i + j))) : X2 gAdd (.int i) (.int j) P := ⟨_, rfl, h⟩
theorem X2.sub (h : P (.int (i - j))) : X2 gSub (.int i) (.int j) P := ⟨_, rfl, h⟩
theorem X2.mul (c : cMul i j = true) (h : P (.int (i * j))) : X2 gMulI (.int i) (.int j) P := ⟨_, by show (if cMul i j = true then _ else _) = _; rw [if_pos c], h⟩
theorem X2.div (c : cDiv i j = true) (h : P (.int (i / j))) : X2 gDiv (.int i) (.int j) P := ⟨_, by show (if cDiv i j = true then _ else _) = _; rw [if_pos c], h⟩
theorem X2.mod (c : 0 < j) (h : P (.int (i % j))) : X2 gMod (.int i) (.int j) P := ⟨_, by show (if cMod i j = true then _ else _) = _; rw [if_pos (show cMod i j = true from decide_eq_true c)], h⟩
theorem X2.pow (c : cPow i j = true) (h : P (.int (i ^ j.toNat))) : X2 gPow (.int i) (.int j) P := ⟨_, by show (if cPow i j = true then _ else _) = _; rw [if_pos c], h⟩
theorem X2.shl (c : cShl i j = true) (h : P (.int (i * 2 ^ j.toNat))) : X2 gShl (.int i) (.int j) P := ⟨_, by show (if cShl i j = true then _ else _) = _; rw [if_pos c], h⟩
theorem X2.band (h : P (.int (Builtin.bitAnd i j))) : X2 gAnd (.int i) (.int j) P := ⟨_, rfl, h⟩
theorem X2.bor (h : P (.int (Builtin.bitOr i j))) : X2 gOr (.int i) (.int j) P := ⟨_, rfl, h⟩
theorem X2.bxor (h : P (.int (Builtin.bitXor i j))) : X2 gXor (.int i) (.int j) P := ⟨_, rfl, h⟩
theorem X2.lt (h : P (.bl (decide (i < j)))) : X2 gLt (.int i) (.int j) P := ⟨_, rfl, h⟩
theorem X2.le (h : P (.bl (decide (i ≤ j)))) : X2 gLe (.int i) (.int j) P := ⟨_, rfl, h⟩
theorem X2.gt (h : P (.bl (decide (j < i)))) : X2 gGt (.int i) (.int j) P := ⟨_, rfl, h⟩
theorem X2.ge (h : P (.bl (decide (j ≤ i)))) : X2 gGe (.int i) (.int j) P := ⟨_, rfl, h⟩
theorem X2.eqI (h : P (.bl (decide (i = j)))) : X2 gEq (.int i) (.int j) P := ⟨_, rfl, h⟩
theorem X2.eqS (h : P (.bl (decide (a = b)))) : X2 gEq (.str a) (.str b) P := ⟨_, rfl, h⟩
theorem X2.eqB (h : P (.bl (decide (p = q)))) : X2 gEq (.bl p) (.bl q) P := ⟨_, rfl, h⟩
theorem X2.neI (h : P (.bl (!decide (i = j)))) : X2 gNe (.int i) (.int j) P := ⟨_, rfl, h⟩
theorem X2.neS (h : P (.bl (!decide (a = b)))) : X2 gNe (.str a) (.str b) P := ⟨_, rfl, h⟩
theorem X2.neB (h : P (.bl (!decide (p = q)))) : X2 gNe (.bl p) (.bl q) P := ⟨_, rfl, h⟩
theorem X2.isB (h : P (.bl (decide (p = q)))) : X2 gIs (.bl p) (.bl q) P := ⟨_, rfl, h⟩
theorem X2.isN {x : D} (hx : isNon x = p) (h : P (.bl p)) : X2 gIs x .non P := ⟨.bl (isNon x), by cases x <;> rfl, by rw [hx]; exact h⟩
theorem X2.isnN {x : D} (hx : isNon x = p) (h : P (.bl (!p))) : X2 gIsNot x .non P := ⟨.bl (!isNon x), by cases x <;> rfl, by rw [hx]; exact h⟩
theorem XL.len (h : P (.int xs.length)) : XL gLen [.lst xs] P := ⟨_, rfl, h⟩
theorem XL.lenT (h : P (.int xs.length)) : XL gLen [.tup xs] P := ⟨_, rfl, h⟩
theorem XL.int (h : P (.int i)) : XL gInt [.int i] P := ⟨_, rfl, h⟩
theorem XL.intB (h : P (.int (if p = true then 1 else 0))) : XL gInt [.bl p] P := ⟨_, rfl, h⟩
theorem XL.abs {z : D} (e : gAbs [.int i] = some z) (h : P z) : XL gAbs [.int i] P := ⟨_, e, h⟩
theorem XL.of {g : List D → Option D} {l : List D} {z : D} (e : g l = some z) (h : P z) : XL g l P := ⟨_, e, h⟩
theorem X1.of {g : D → Option D} {l : D} {z : D} (e : g l = some z) (h : P z) : X1 g l P := ⟨_, e, h⟩
theorem XI.rng1 (h0 : 0 ≤ j) (h1 : j < 2 ^ 62) (h : PL (rngL 0 j.toNat)) : XI gRng1 [.int j] PL := ⟨_, by show (if _ then _ else _) = _; rw [if_pos ⟨by omega, h1⟩], h⟩
theorem XB.bl {b : Bool} {PB : Bool → Prop} (h : PB b) : XB (.bl b) PB := ⟨_, rfl, h⟩
theorem XB.st {x y : Str} {b : Bool} {PB : Bool → Prop} (e : Txt.startswith x y = b) (h : PB b) : XB (fStarts x y) PB := ⟨b, by unfold fStarts; rw [e], h⟩
end
end Ev

/-! E18: a comprehension over a name's own list, which stays one's own. -/
namespace Ev
open PySem PySem.Spec L2
def compLO (i0 : Nat) (t : Tg) (c : M Bool) (m : M D) (ws : List Nat) : Nat → Nat → List D → Sx → Option (List D × Sx)
  | 0, k, acc, s => match s.env[i0]? with
    | some (.ow ys) => match ys[k]? with
      | none => some (acc, s)
      | some _ => none
    | _ => none
  | n + 1, k, acc, s => match s.env[i0]? with
    | some (.ow ys) => match ys[k]? with
      | none => some (acc, s)
      | some d => match t.run d { s with env := wipeE s.env ws } with
        | none => none
        | some s1 => match c s1 with
          | .ok true s2 => match m s2 with
            | .ok z s3 => if acc.length < sizeLine then compLO i0 t c m ws n (k + 1) (acc ++ [z]) s3 else none
            | _ => none
          | .ok false s2 => compLO i0 t c m ws n (k + 1) acc s2
          | _ => none
    | _ => none
def ownLen (s : Sx) (i0 : Nat) : Nat := match s.env[i0]? with
  | some (.ow ys) => ys.length
  | _ => 0
def mCompO (i0 : Nat) (t : Tg) (c : M Bool) (m : M D) (ws : List Nat) : M (List D) := fun s => if (noOw s.env ws && !ws.contains i0) = true then
    (match compLO i0 t c m ws (ownLen s i0) 0 [] s with
    | some (acc, s') => .ok acc { s' with env := rest_ s.env s'.env ws }
    | none => .bad) else .bad
section
variable {T : Tx} {W : WX} {X : Cx} {tg elt : Expr} {ifs : List Expr} {scope : Scope} {own : List (Str × Nat)} {t : Tg} {mc : M Bool} {m : M D} {pos : Pos} {i0 : Nat}
/-- where a name's own list stands, at a turn -/
theorem own_at {x1 : Gh} {s1 : Sx} {σ : L2.St} {H1 : Hp} {ws : List Nat} {ys : List D} (k1 : Ok T x1 { s1 with env := wipeE s1.env ws } (wipe σ ws) H1) (hw : i0 ∉ ws) (e : s1.env[i0]? = some (.ow ys)) :
    ∃ a vs, σ[i0]? = some (some (.ref a)) ∧ H1 a = some (.lst vs) ∧ Reps T x1.io x1.G vs ys := by
  obtain ⟨a, vs, h1, h2, h3, _, _⟩ := k1.ow i0 ys (by show (wipeE s1.env ws)[i0]? = _; rw [wipeE_out hw]; exact e)
  exact ⟨a, vs, by rw [wipe_get hw] at h1; exact h1, h2, h3⟩
theorem tLc_own {σ : L2.St} {H : Hp} {Q : VK} {ws : List Nat} (hK : X.K = T.K) (hsl : ∀ j ∈ t.slots, j ∈ ws) (h : tF T W (mCompO i0 t mc m ws) σ H Q) : tLc (iList X.K (tVar i0)) (gD T t) (tB T W0 mc) (tD T W0 m) ws σ H Q := by
  obtain ⟨x0, s0, k0, h⟩ := h
  unfold mCompO at h
  by_cases hno : (noOw s0.env ws && !ws.contains i0) = true
  · rw [if_pos hno] at h
    obtain ⟨hno, hnot⟩ := Bool.and_eq_true_iff.mp hno
    have hw : i0 ∉ ws := by simpa using hnot
    cases ec : compLO i0 t mc m ws (ownLen s0 i0) 0 [] s0 with
    | none => rw [ec] at h; exact h.elim
    | some pr =>
      obtain ⟨accF, sF⟩ := pr
      rw [ec] at h
      simp only at h
      -- the list now
      obtain ⟨a, ea, vs0, ha0⟩ : ∃ a, σ[i0]? = some (some (.ref a)) ∧ ∃ vs0, H a = some (.lst vs0) := by
        have : ∃ ys, s0.env[i0]? = some (.ow ys) := by
          cases q : s0.env[i0]? with
          | none => cases n : ownLen s0 i0 <;> rw [n] at ec <;> unfold compLO at ec <;> rw [q] at ec <;> cases ec
          | some sl =>
            cases sl with
            | ow ys => exact ⟨ys, rfl⟩
            | _ => cases n : ownLen s0 i0 <;> rw [n] at ec <;> unfold compLO at ec <;> rw [q] at ec <;> cases ec
        obtain ⟨ys, q⟩ := this
        obtain ⟨a, vs, h1, h2, _⟩ := k0.ow i0 ys q
        exact ⟨a, h1, vs, h2⟩
      refine ⟨.ref a, ea, a, rfl, ⟨vs0, .inl (.inl ha0)⟩, ?_⟩
      intro L hL
      have gL0 : x0.G L = none := k0.bx.sub.none hL
      have uL0 : ¬ x0.U L := fun z => by
        obtain ⟨o, e⟩ := k0.bx.trk L z
        rw [hL] at e; cases e
      refine ⟨fun i mm H1 => ∃ (x1 : Gh) (s1 : Sx) (acc : List D) (vs : List V), Ok T x1 { s1 with env := wipeE s1.env ws } (wipe σ ws) H1 ∧ H1 L = some (.lst vs) ∧ Reps T x1.io x1.G vs acc ∧ ¬ x1.U L ∧ x1.G L = none ∧ Stp x0 H x1 H1 ∧
          compLO i0 t mc m ws mm i acc s1 = some (accF, sF), ⟨ownLen s0 i0, x0, s0, [], [], (k0.wiped ws).aside uL0 gL0 (.inl hL), upd_same, .nil, uL0, gL0, (Stp.refl x0 H).aside hL, ec⟩, ?_⟩
      rintro i mm H1 ⟨x1, s1, acc, vs, k1, hL1, r1, uL, gL, st1, c1⟩
      obtain ⟨ys, ey⟩ : ∃ ys, s1.env[i0]? = some (.ow ys) := by
        cases q : s1.env[i0]? with
        | none => cases mm <;> unfold compLO at c1 <;> rw [q] at c1 <;> cases c1
        | some sl =>
          cases sl with
          | ow ys => exact ⟨ys, rfl⟩
          | _ => cases mm <;> unfold compLO at c1 <;> rw [q] at c1 <;> cases c1
      obtain ⟨a', us, ea', ha, ra⟩ := own_at k1 hw ey
      rw [ea] at ea'
      cases ea'
      have lus := ra.length
      cases hd : ys[i]? with
      | none =>
        have hge : ys.length ≤ i := by
          by_cases q : i < ys.length
          · rw [List.getElem?_eq_getElem q] at hd; cases hd
          · omega
        refine .inl ⟨⟨us, .inl (.inl ha), by omega⟩, ?_⟩
        have c2 : some (acc, s1) = some (accF, sF) := by
          cases mm <;> unfold compLO at c1 <;> simp only [ey, hd] at c1 <;> exact c1
        cases c2
        have kr := k0.restore k1 st1 hno
        obtain ⟨k2, o2, s2⟩ := kr.take hL1 r1 uL gL
        exact h _ L H1 k2 (s2 x0 H st1 hL) o2
      | some d =>
        cases mm with
        | zero => unfold compLO at c1; simp only [ey, hd] at c1; cases c1
        | succ n =>
          unfold compLO at c1
          simp only [ey, hd] at c1
          have hlt : i < ys.length := (List.getElem?_eq_some_iff.mp hd).1
          obtain ⟨v, hv, rv⟩ := ra.get hd
          refine .inr ⟨⟨us, v, .inl (.inl ha), hv⟩, fun H2 => ∃ (x2 : Gh) (s2 : Sx) (acc : List D) (vs : List V), Ok T x2 { s2 with env := wipeE s2.env ws } (wipe σ ws) H2 ∧ H2 L = some (.lst vs) ∧ Reps T x2.io x2.G vs acc ∧ ¬ x2.U L ∧ x2.G L = none ∧ Stp x0 H x2 H2 ∧
            compLO i0 t mc m ws n (i + 1) acc s2 = some (accF, sF), fun H2 ⟨x2, s2, acc2, vs2, a1, a2, a3, a4, a5, a6, a7⟩ => ⟨n, Nat.lt_succ_self n, x2, s2, acc2, vs2, a1, a2, a3, a4, a5, a6, a7⟩, fun v' H2 hy => ?_⟩
          obtain ⟨rfl, hy2⟩ := hy
          have ev : v' = v := by
            have := hy2 us (.inl (.inl ha))
            rw [hv] at this
            exact (Option.some.inj this).symm
          subst ev
          cases e2 : t.run d { s1 with env := wipeE s1.env ws } with
          | none => rw [e2] at c1; cases c1
          | some s2 =>
            simp only [e2] at c1
            refine ⟨x1, _, s2, d, k1, rv, e2, fun σ2 k3 len2 f2 => ?_⟩
            have hw2 : wipe σ2 ws = wipe σ ws := by
              have z : wipe σ2 ws = wipe (wipe σ ws) ws := wipe_eq len2 fun j hj => f2 j fun q => hj (hsl j q)
              rw [z]
              exact wipe_eq (wipe_length _ _) fun j hj => wipe_get hj
            refine ⟨hw2, ⟨_, s2, k3, ?_⟩⟩
            have keepL : ∀ {y : Gh} {H3 : Hp}, Stp x1 H2 y H3 → H3 L = some (.lst vs) ∧ ¬ y.U L ∧ y.G L = none := fun {y H3} st => by
              refine ⟨st.fr L _ hL1 uL, fun z => ?_, ?_⟩
              · rcases st.un L z with q | q
                · exact uL q
                · rw [hL1] at q; cases q
              · cases e : y.G L with
                | none => rfl
                | some o =>
                  rcases st.new L o e with q | q | q
                  · rw [gL] at q; cases q
                  · exact absurd q uL
                  · rw [hL1] at q; cases q
            cases e3 : mc s2 with
            | exc c ns vs sto => rw [e3] at c1; cases c1
            | bad => rw [e3] at c1; cases c1
            | ok b s3 =>
              intro x3 H3 k4 st3
              cases b with
              | false =>
                rw [e3] at c1
                rw [if_neg Bool.false_ne_true]
                obtain ⟨a1, a2, a3⟩ := keepL st3
                have kw := k4.wiped ws
                rw [hw2] at kw
                exact ⟨x3, s3, acc, vs, kw, a1, r1.mono st3.io st3.le, a2, a3, st1.trans st3, c1⟩
              | true =>
                rw [e3] at c1
                rw [if_pos rfl]
                refine ⟨x3, s3, k4, ?_⟩
                cases e4 : m s3 with
                | exc c ns vs sto => simp only [e4] at c1; cases c1
                | bad => simp only [e4] at c1; cases c1
                | ok z s4 =>
                  simp only [e4] at c1
                  intro x4 u H4 k5 st4 r4
                  obtain ⟨a1, a2, a3⟩ := keepL (st3.trans st4)
                  by_cases hacc : acc.length < sizeLine
                  · rw [if_pos hacc] at c1
                    refine ⟨vs, a1, by rw [r1.length]; exact hacc, x4, s4, acc ++ [z], vs ++ [u], ?_, upd_same, (r1.mono (st3.trans st4).io (st3.trans st4).le).append (.one r4), a2, a3, (st1.trans (st3.trans st4)).aside hL, c1⟩
                    have kw := k5.wiped ws
                    rw [hw2] at kw
                    exact kw.aside a2 a3 (.inr ⟨_, a1⟩)
                  · rw [if_neg hacc] at c1; cases c1
  · rw [if_neg hno] at h; exact h.elim
variable {z : Str} {p2 : Pos}
theorem df_compO (hK : X.K = T.K) (hz : X.N[i0]? = some z) (hvis : Vis X.env.scope z) (hc : X.calm = true) (hN : X.N.Nodup) (ok : BlkOk X.N X.env.scope scope own) (hsl : ∀ j ∈ t.slots, j ∈ own.map (·.2))
    (hg : ∀ (s : Shared) (H : Hp) (C : Addr) (cl : List (Str × Addr)) (fp : List Addr), PG (X.blk s H scope (compEnvC scope cl C X.env) fp) tg (gD T t)) (ht : ∀ (s : Shared) (H : Hp) (C : Addr) (cl : List (Str × Addr)) (fp : List Addr), PTs (X.blk s H scope (compEnvC scope cl C X.env) fp) ifs (tB T W0 mc))
    (he : ∀ (s : Shared) (H : Hp) (C : Addr) (cl : List (Str × Addr)) (fp : List Addr), PE (X.blk s H scope (compEnvC scope cl C X.env) fp) elt (tD T W0 m)) (hs : ∀ x, foldedSetIterable (.Name z p2) X.env x = pure x := by intro _; rfl)
    (hd : (z == ("__debug__" : Str)) = false := by decide) (hcd : (z == ("__classdict__" : Str)) = false := by decide) :
    PE X (.ListComp elt [⟨tg, .Name z p2, ifs, 0⟩] scope pos) (tF T W (mCompO i0 t mc m (own.map (·.2)))) :=
  PE.imp (pe_lc hc hN (pi_list (pe_var (pos := p2) (i := i0) hz hvis hd hcd)) ok hg ht he hs) fun _ _ _ h => tLc_own hK hsl h
theorem ds_setCompO {i : Nat} {y : Str} {py spos : Pos} (hK : X.K = T.K) (hz : X.N[i0]? = some z) (hvis : Vis X.env.scope z) (hc : X.calm = true) (hN : X.N.Nodup) (hy : X.N[i]? = some y) (hyl : X.env.scope.names.lookup y = some .local)
    (hsw : swapsWith (.ListComp elt [⟨tg, .Name z p2, ifs, 0⟩] scope pos) (some (.Name y py)) spos.line X.env = pure true) (ok : BlkOk X.N X.env.scope scope own) (hsl : ∀ j ∈ t.slots, j ∈ own.map (·.2))
    (hg : ∀ (s : Shared) (H : Hp) (C : Addr) (cl : List (Str × Addr)) (fp : List Addr), PG (X.blk s H scope (compEnvC scope cl C X.env) fp) tg (gD T t)) (ht : ∀ (s : Shared) (H : Hp) (C : Addr) (cl : List (Str × Addr)) (fp : List Addr), PTs (X.blk s H scope (compEnvC scope cl C X.env) fp) ifs (tB T W0 mc))
    (he : ∀ (s : Shared) (H : Hp) (C : Addr) (cl : List (Str × Addr)) (fp : List Addr), PE (X.blk s H scope (compEnvC scope cl C X.env) fp) elt (tD T W0 m)) (hs : ∀ x, foldedSetIterable (.Name z p2) X.env x = pure x := by intro _; rfl)
    (hd : (z == ("__debug__" : Str)) = false := by decide) (hcd : (z == ("__classdict__" : Str)) = false := by decide) :
    PS X (.Assign [.Name y py] (.ListComp elt [⟨tg, .Name z p2, ifs, 0⟩] scope pos) spos) (tS T W (sOwn i (mCompO i0 t mc m (own.map (·.2))))) :=
  PS.imp (ps_setLc hc hN hy hyl hsw (pi_list (pe_var (pos := p2) (i := i0) hz hvis hd hcd)) ok hg ht he hs) fun E σ H ⟨x, s, k, h⟩ => tLc_own hK hsl (tF_s k h fun d s' x' v H' k' o f => f x' _ H' (k'.put_own i o) (.refl _ _))
end
end Ev
namespace Ev
open PySem PySem.Spec L2
theorem We.compOJ {E : XPost} {s : Sx} {Q : List D → Sx → Prop} {m : M D} {i0 j : Nat} {ys : List D} (J : List D → Sto → Prop) (h0 : s.env[i0]? = some (.ow ys)) (h1 : noOw s.env [j] = true) (hij : i0 ≠ j) (hj : j < s.env.length) (h2 : ys.length ≤ sizeLine) (h3 : J [] s.sto)
    (h4 : ∀ d acc sto, ys[acc.length]? = some d → J acc sto → We (m ⟨s.env.set j (.sh d), sto⟩) Xn fun z s2 => s2.env = s.env.set j (.sh d) ∧ J (acc ++ [z]) s2.sto)
    (h5 : ∀ acc sto, acc.length = ys.length → J acc sto → Q acc ⟨s.env, sto⟩) : We (mCompO i0 (tgN j) (M.pure true) m [j] s) E Q := by
  have at_ : ∀ s' : Sx, s'.env.set j .un = s.env.set j .un → s'.env[i0]? = some (.ow ys) := fun s' e => by
    have : (s'.env.set j .un)[i0]? = (s.env.set j .un)[i0]? := by rw [e]
    rw [List.getElem?_set_ne (Ne.symm hij), List.getElem?_set_ne (Ne.symm hij)] at this
    rw [this, h0]
  have go : ∀ n acc (s' : Sx), n + acc.length = ys.length → s'.env.set j .un = s.env.set j .un → J acc s'.sto →
      ∃ acc' s'', compLO i0 (tgN j) (M.pure true) m [j] n acc.length acc s' = some (acc', s'') ∧ s''.env.set j .un = s.env.set j .un ∧ acc'.length = ys.length ∧ J acc' s''.sto := by
    intro n
    induction n with
    | zero =>
      intro acc s' e1 e2 e3
      refine ⟨acc, s', ?_, e2, by omega, e3⟩
      unfold compLO
      rw [at_ s' e2]
      simp only [List.getElem?_eq_none (show ys.length ≤ acc.length by omega)]
    | succ n ih =>
      intro acc s' e1 e2 e3
      have hlt : acc.length < ys.length := by omega
      have hd := List.getElem?_eq_getElem hlt
      have en : ({ s' with env := wipeE s'.env [j] } : Sx).put j ys[acc.length] = ⟨s.env.set j (.sh ys[acc.length]), s'.sto⟩ := by
        show (⟨(s'.env.set j .un).set j (.sh _), s'.sto⟩ : Sx) = _
        rw [e2, List.set_set]
      have w := h4 _ acc s'.sto hd e3
      rw [← en] at w
      unfold compLO
      rw [at_ s' e2]
      simp only [hd]
      show ∃ acc' s'', (match (some (({ s' with env := wipeE s'.env [j] } : Sx).put j ys[acc.length])) with
        | none => none
        | some s1 => match (M.pure true : M Bool) s1 with
          | .ok true s2 => match m s2 with
            | .ok z s3 => if acc.length < sizeLine then compLO i0 (tgN j) (M.pure true) m [j] n (acc.length + 1) (acc ++ [z]) s3 else none
            | _ => none
          | .ok false s2 => compLO i0 (tgN j) (M.pure true) m [j] n (acc.length + 1) acc s2
          | _ => none) = some (acc', s'') ∧ _
      simp only [M.pure]
      cases e4 : m (({ s' with env := wipeE s'.env [j] } : Sx).put j ys[acc.length]) with
      | exc => rw [e4] at w; exact w.elim
      | bad => rw [e4] at w; exact w.elim
      | ok z s3 =>
        rw [e4] at w
        simp only [if_pos (show acc.length < sizeLine by omega)]
        obtain ⟨b1, b2⟩ := w
        have := ih (acc ++ [z]) s3 (by simp; omega) (by rw [b1, List.set_set]) b2
        rw [List.length_append, List.length_singleton] at this
        exact this
  have hol : ownLen s i0 = ys.length := by unfold ownLen; rw [h0]
  obtain ⟨acc, s'', e, e1, e2, e3⟩ := go ys.length [] s (by simp) rfl h3
  have e : compLO i0 (tgN j) (M.pure true) m [j] ys.length 0 [] s = some (acc, s'') := e
  have w := h5 acc s''.sto e2 e3
  have en : rest_ s.env s''.env [j] = s.env := by
    obtain ⟨x, hx⟩ : ∃ x, s.env[j]? = some x := ⟨_, List.getElem?_eq_getElem hj⟩
    show (match s.env[j]? with
      | some x => s''.env.set j x
      | none => s''.env) = _
    rw [hx]
    have z : (s''.env.set j .un).set j x = (s.env.set j .un).set j x := by rw [e1]
    rw [List.set_set, List.set_set] at z
    show s''.env.set j x = s.env
    rw [z]
    refine List.ext_getElem? fun i => ?_
    by_cases hi : j = i
    · subst hi; rw [List.getElem?_set_self hj, hx]
    · rw [List.getElem?_set_ne hi]
  unfold mCompO
  rw [if_pos (by simp only [h1, Bool.true_and]; simp [hij])]
  rw [hol, e]
  show Q acc { env := rest_ s.env s''.env [j], sto := s''.sto }
  rw [en]
  exact w
end Ev

/-! E19: raising an own error whose __init__ keeps one field. -/
namespace Ev
open PySem PySem.Spec L2
/-- what such an __init__ does -/
def spI (C : Addr) (f : Str) : Sp := fun vs H Q _ => ∃ (a : Addr) (v : V), vs = [.ref a, v] ∧ H a = some (exo a C none) ∧ ∀ dx, H dx = none → dx ≠ a → Q .non (upd (upd H dx (exd dx [(f, v)])) a (exo a C (some dx)))
theorem init1_ok {P : Program} {w : World} {K : PySem.W.Frag} {mg : Str → Option Value} {base : Heap} {C fI : Addr} {fd : FuncData} {x qual f y : Str} {params : Arguments} {scope : Scope} {p1 p2 p3 p4 : Pos}
    (F : FunD K x qual params [.Assign [.Attribute (.Name "self" p1) f p2] (.Name y p3) p4] scope [] [] fI fd) (S : FnScope ["self", y] ["self", y] scope) (T : OexC K C) (hno : PySem.W.findIn K (.ref C) f = some none)
    (ls : scope.names.lookup ("self" : Str) = some .local) (ly : scope.names.lookup y = some .local) (hd : (y == ("__debug__" : Str)) = false := by decide) (hcd : (y == ("__classdict__" : Str)) = false := by decide) : FnOk P w K mg base CX0 1 fI fd ["self", y] (spI C f) := by
  refine F.ok S (fun vs H Q E ⟨a, v, e, _⟩ => by rw [e]; rfl) fun cdv A outer s H vs Q E hr h => ⟨tOst K f (tVar 0) (tVar 1), ?_, ?_⟩
  · exact pss_one (ps_ost (pe_var (i := 0) rfl (.inl ls)) (pe_var (i := 1) rfl (.inl ly) hd hcd))
  · obtain ⟨a, v, rfl, ha, q⟩ := h
    exact ⟨v, rfl, .ref a, rfl, a, C, rfl, T, hno, .inl ⟨ha, fun dx h1 h2 => q dx h1 h2⟩⟩
def sRaise (x f : Str) (m : M D) : MS := sBind m fun d s => .exc x [f] [d] s.sto
section
variable {T : Tx} {W : WX} {X : Cx} {e : Expr} {ma : M D} {x f y : Str} {C fI : Addr} {fd : FuncData} {p pos pos2 : Pos}
theorem ds_raise1 (hca : T.ca x = C) (ok : OexC X.K C) (iC : PySem.W.findIn X.K (.ref C) "__init__" = some (some (.ref fI))) (tI : PySem.W.typeIn X.K (.ref fI) = some (.type "function")) (F1 : FnOk X.prog X.w X.K X.mg X.base CX0 1 fI fd ["self", y] (spI C f)) (hr : Room 2 X.A)
    (hb : Binds X.K fd ["self", y] []) (tk : Takes X W) (hc : X.calm = true) (hg : Gl X x) (hm : X.mg x = some (.ref C)) (he : PE X e (tD T W ma)) (hdb : (x == ("__debug__" : Str)) = false := by decide)
    (hse : starEach [e] X.env = (false, eval e X.env) :: starEach [] X.env := by rfl) (hpl : (backTo pos (starEach [] X.env)).any (·.1) = false := by rfl) :
    PS X (.Raise (some (.Call (.Name x p) [e] [] pos)) none pos2) (tS T W (sRaise x f ma)) :=
  PS.imp (ps_raise hc tk (pmk_oex (dvs := []) (ds := []) ok iC tI F1 hr hb .nil (fun _ _ _ _ _ _ _ h => h.elim) hg hm (pa_cons he pa_nil hse) hdb hse hpl)) fun E σ H ⟨x0, s, k, h⟩ => tD_s k h fun d s' x' v H' k' st r q => by
    refine ⟨by show 1 ≤ 1000; decide, fun a ha => ⟨a, v, rfl, upd_same, fun dx hdx hne => ⟨rfl, dx, [(f, v)], upd_same, by rw [upd_ne hne, upd_same], by rw [upd_ne hne] at hdx; exact hdx, ?_⟩⟩⟩
    rw [upd_ne hne] at hdx
    have nU : ¬ x'.U dx := fun u => by
      obtain ⟨o, z⟩ := k'.bx.trk dx u
      rw [hdx] at z; cases z
    have nG : x'.G dx = none := k'.bx.sub.none hdx
    have eh : upd (del (upd (upd (upd H' a (exo a C none)) dx (exd dx [(f, v)])) a (exo a C (some dx))) a) dx (.xd [(f, v)]) = upd H' dx (.xd [(f, v)]) := by
      funext b
      by_cases h1 : b = dx
      · subst h1; rw [upd_same, upd_same]
      · rw [upd_ne h1, upd_ne h1]
        by_cases h2 : b = a
        · subst h2; rw [del_same, ha]
        · rw [del_ne h2, upd_ne h2, upd_ne h1, upd_ne h2]
    rw [eh]
    have kk := k'.aside (o := .xd [(f, v)]) nU nG (.inl hdx)
    have z := q σ x' dx [v] _ kk.bx ((Stp.refl x' H').aside hdx) ⟨upd_same, rfl, .one r, hdx, nU, nG⟩
    rw [hca] at z
    exact z
end
end Ev

/-! E20: a caught error that is kept in a name behind the clause. -/
namespace Ev
open PySem PySem.Spec L2
theorem xo_ok {P : Program} {w : World} {H : Hp} {h : Heap} {a dd : Addr} {cls : Value} {oe : Obj} {vs : Array Value} (e : h.get? a = some oe) (z : Zc cls (some dd) oe) (d : oe.data = .fields vs) : ObjOk P w H h a (xo a cls dd) :=
  ⟨⟨oe, vs, e, z, d⟩, ⟨oe, e⟩, fun _ _ ⟨o, v, q, r⟩ k => ⟨o, v, k o q, r⟩⟩
section
variable {X : Cx} {pins : List (Addr × Obj)} {σ : L2.St} {H : Hp} {s : Shared}
theorem take_exc {a dd : Addr} {oe : Obj} {vs : Array Value} {cls : Value} (I : Inv X ((a, oe) :: pins) σ H s) (hz : Zc cls (some dd) oe) (hd : oe.data = .fields vs) (n0 : X.s_0.heap.get? a = none) (hp : ∀ p ∈ X.pn ++ pins, p.1 ≠ a) : Inv X pins σ (upd H a (xo a cls dd)) s := by
  obtain ⟨ha, na, nl, nf, nc⟩ := I.pin (a, oe) (List.mem_append_right _ List.mem_cons_self)
  have ha : s.heap.get? a = some oe := ha
  have na : H a = none := na
  have nl : a ≠ X.env.locals := nl
  refine ⟨I.ok, I.os, I.bare, ⟨I.base.keep, I.base.slot, fun b o e n hx => ?_, I.base.there, fun b xs e => ?_, fun b o u e => ?_, fun b ps e => ?_⟩, I.loc, I.cell, ?_, fun y c e => ?_, fun p h => ?_, fun b o e => ?_, I.len⟩
  · rw [upd_ne (fun z => by rw [z, n0] at e; cases e)]; exact I.base.free b o e n hx
  · rw [upd_ne (ne_of_none (I.base.tups b xs e) na)]; exact I.base.tups b xs e
  · rw [upd_ne (ne_of_none (I.base.frzs b o u e) na)]; exact I.base.frzs b o u e
  · obtain ⟨more, z⟩ := I.base.tbls b ps e
    exact ⟨more, by rw [upd_ne (ne_of_none z na)]; exact z⟩
  · rw [upd_ne (Ne.symm nl)]; exact I.free
  · rw [upd_ne ?_]
    · exact I.freeC y c e
    · intro z
      subst z
      obtain ⟨v, o, e1, e2⟩ := I.cell y c e
      rw [ha] at e1
      cases e1
      exact nc _ (by first | exact e2.2 | exact e2 | exact e2.1)
  · obtain ⟨h1, h2, h3⟩ := I.pin p (by
      rcases List.mem_append.mp h with q | q
      · exact List.mem_append_left _ q
      · exact List.mem_append_right _ (List.mem_cons_of_mem _ q))
    exact ⟨h1, by rw [upd_ne (hp p h)]; exact h2, h3⟩
  · by_cases hb : b = a
    · subst hb
      rw [upd_same] at e
      cases e
      exact xo_ok ha hz hd
    · rw [upd_ne hb] at e
      exact (I.hok b o e).stay (fun c v _ q => q) (fun c q => by rw [upd_ne (ne_of_none q na)]; exact q) fun c xs q => by rw [upd_ne (ne_of_none q na)]; exact q
end
/-- what the clause 'except x as n: y = n' wishes: slot i is n's, slot j is y's -/
def wKeep (K : PySem.W.Frag) (c : Value) (i j : Nat) (Wout : WX) (D : Ends) : WX := fun cls d σ H =>
  ∃ b, PySem.W.exmOne K cls c = some b ∧ (b = true → ∃ dd, d = some dd ∧ ∀ a, H a = none → D.nx (((σ.set i (some (.ref a))).set j (some (.ref a))).set i none) (upd H a (xo a cls dd))) ∧ (b = false → Wout cls d σ H)
section
variable {X : Cx} {x n y : Str} {c : Value} {i j : Nat} {body : List Stmt} {np pos pos' py pn0 ap : Pos} {tb : WX → TS} {Wout : WX}
theorem ps_try_keep (hs : X.stack = X.env :: X.outer) (hf : X.env.frame = some X.env.locals) (hN : X.N.Nodup) (hi : X.N[i]? = some n) (hln : X.env.kindOf n = some .local) (hj : X.N[j]? = some y) (hly : X.env.kindOf y = some .local) (hlv : X.env.scope.names.lookup y = some .local) (hnv : X.env.scope.names.lookup n = some .local) (hij : i ≠ j) (hx : X.ex = []) (hc : Names X x c) (tk : Takes X Wout)
    (hb : ∀ (W : WX) (pn : List (Addr × Obj)) (xe : Value → Shared → Prop), Takes (X.tr pn xe) W → PassesOwn (model X.prog X.w) X.A X.env xe → PSs (X.tr pn xe) body (tb W))
    (hsw : ∀ (a : Addr) (pn : List (Addr × Obj)), swapsWith (.Name n pn0) (some (.Name y py)) ap.line (X.suite a pn).env = pure false) (hd : (n == ("__debug__" : Str)) = false := by decide) (hcd : (n == ("__classdict__" : Str)) = false := by decide) :
    PS X (.Try body [.ExceptHandler (some (.Name x np)) (some n) [.Assign [.Name y py] (.Name n pn0) ap] pos'] [] [] pos) (fun D σ H => tb (wKeep X.K c i j Wout D) D σ H) := by
  refine ⟨fun pins s σ H D I h => ?_⟩
  have ok := I.ok
  have hfr : X.A.frames = some (X.env :: X.outer) := by rw [ok.frames, hs]
  have hloc : Loc X.env.scope n := .inl hnv
  refine wpAny_Try_except ?_
  refine wpAny_mono ((hb (wKeep X.K c i j Wout D) (X.pn ++ pins) (fun e s₁ => wpAny (model X.prog X.w) X.A (noteFrame e X.env) (fun _ s₂ => wpAny (model X.prog X.w) X.A (setFlight e none) (fun _ s₃ =>
    wpAny (model X.prog X.w) X.A (handleBy e X.env [.ExceptHandler (some (.Name x np)) (some n) [.Assign [.Name y py] (.Name n pn0) ap] pos']) (SP X pins D) X.xe s₃) X.xe s₂) X.xe s₁) (fun u s' xx => ?_) PassesOwn.looking).run [] s σ H D (I.toTry _) h) (fun f s1 hsp => ?_) (fun e s1 he => he)
  · obtain ⟨a, B, sI, pins', σ', H', cls, d, rfl, J', nb, up, sky, na, os, ag, b, hb1, hyes, hno⟩ := xx
    have J : Inv X pins σ' H' sI := J'.ofTry ok
    have sky' : Sky B (X.env :: X.outer) a (Zc cls d) X.env.locals s'.heap := by rw [← hs]; exact sky
    show wpAny (model X.prog X.w) X.A (noteFrame (.ref a) X.env) _ _ _
    refine Sky.land Zc.steady hfr hf sky' fun h3 fl3 up3 => ?_
    have J3 : Inv X pins σ' H' { s' with heap := h3 } := J.landed nb fl3.1 (up.trans up3) os ag
    obtain ⟨oe3, vs3, he3, hz3, hd3⟩ := fl3.there
    have notFr : ∀ {h : Heap} {o : Obj} {vs : Array Value}, h.FunFrames B (X.env :: X.outer) → h.get? a = some o → o.data = .fields vs → a ∉ frs (X.env :: X.outer) := fun {h o vs} ff e dd hm => by
      obtain ⟨_, o', e', hnf⟩ := ff.mem hm
      rw [e] at e'; cases e'
      exact hnf _ dd
    have nfr := notFr fl3.2.2.1 he3 hd3
    have nL : a ≠ X.env.locals := fun z => nfr (List.mem_filterMap.mpr ⟨X.env, List.mem_cons_self, by rw [hf, z]⟩)
    have nF : a ∉ X.fs := fun hm => by
      obtain ⟨e, he, q⟩ := List.mem_filterMap.mp hm
      exact nfr (List.mem_filterMap.mpr ⟨e, List.mem_cons_of_mem _ he, q⟩)
    have nI : sI.heap.get? a = none := by
      cases q : sI.heap.get? a with
      | none => rfl
      | some o =>
        have := nb a o q (by rw [hs]; exact nfr)
        rw [fl3.2.1] at this
        cases this
    have n0 : X.s_0.heap.get? a = none := by
      cases q : X.s_0.heap.get? a with
      | none => rfl
      | some o =>
        obtain ⟨o', z⟩ := J.base.there a o q (by rw [hx]; simp)
        rw [nI] at z
        cases z
    have npin : ∀ p ∈ X.pn ++ pins, p.1 ≠ a := fun p hp z => by
      have := (J.pin p hp).1
      rw [z, nI] at this
      cases this
    have S3 := J3.suite he3 hd3 na nL nF
    refine wpAny_handleBy_cons (codeAny_handlers_test ?_) (by intro q; cases q)
    have LT : PySem.W.Looks (model X.prog X.w) h3 (typeOf (.ref a)) cls := fun A Q E s k q => wpAny_typeOf_ref (k _ _ he3) (by rw [hz3.1]; exact q)
    have LM := PySem.W.exm_one (M := model X.prog X.w) (J3.kIn) LT hb1
    have test : ∀ {Q : Value → Shared → Prop} {E : Value → Shared → Prop}, Q c { s' with heap := h3 } → wpAny (model X.prog X.w) (X.A.mark (some (.ref a))) (eval (.Name x np) X.env) Q E { s' with heap := h3 } := fun {Q E} q => by
      obtain ⟨hg, hdbg, hm | ⟨hm, hv, hnn⟩⟩ := hc
      · exact ld_glob (X := X.suite a ((a, oe3) :: (X.pn ++ pins))) S3 hg hm q hdbg
      · exact ld_blt (X := X.suite a ((a, oe3) :: (X.pn ++ pins))) S3 hg hm hv q hnn hdbg
    refine test (LM.here ?_)
    cases b with
    | true =>
      obtain ⟨dd, rfl, hgo⟩ := hyes rfl
      refine codeAny_handlers_suite_as ?_
      refine HandSPX.lands_againZ fl3 fun h4 fl4 up4 => ?_
      have J4 : Inv X pins σ' H' { s' with heap := h4 } := J.landed nb fl4.1 ((up.trans up3).trans up4) os ag
      obtain ⟨oe4, vs4, he4, hz4, hd4⟩ := fl4.there
      have S4 := J4.suite he4 hd4 na nL nF
      refine store_ok (X := X.suite a ((a, oe4) :: (X.pn ++ pins))) (v := .ref a) S4 hN hi hloc rfl (fun s5 S5 => ?_) (.inr hnv)
      have il : i < σ'.length := by rw [J4.len]; exact (List.getElem?_eq_some_iff.mp hi).1
      have hset := pss_one (ps_set (X := X.suite a ((a, oe4) :: (X.pn ++ pins))) (pos := ap) (pos' := py) hN hj (.inl hlv) (pe_var (pos := pn0) (i := i) hi (.inl hnv) hd hcd) (hsw a _) (.inr hlv))
      refine wpAny_mono (hset.run [] s5 _ H' ⟨fun σ6 H6 => σ6 = (σ'.set i (some (.ref a))).set j (some (.ref a)) ∧ H6 = H', fun _ _ => False, fun _ _ => False, fun _ _ => False⟩ S5 ⟨.ref a, List.getElem?_set_self il, rfl, rfl⟩) (fun f s6 hsp => ?_) (fun _ _ z => False.elim z)
      cases f with
      | next =>
        obtain ⟨σ6, H6, S6, rfl, rfl⟩ := hsp
        have I6 : Inv X ((a, oe4) :: pins) ((σ'.set i (some (.ref a))).set j (some (.ref a))) H6 s6 := ⟨ok, S6.os, S6.bare, S6.base, S6.loc, S6.cell, S6.free, S6.freeC, fun p hp => S6.pin p (by
          rw [List.append_nil]
          show p ∈ (a, oe4) :: (X.pn ++ pins)
          rcases List.mem_append.mp hp with q | q
          · exact List.mem_cons_of_mem _ (List.mem_append_left _ q)
          · rcases List.mem_cons.mp q with q | q
            · rw [q]; exact List.mem_cons_self
            · exact List.mem_cons_of_mem _ (List.mem_append_right _ q)), S6.hok, S6.len⟩
        exact gone_ok I6 hN hi hln fun s7 I7 => ⟨_, _, take_exc I7 hz4 hd4 n0 npin, hgo a na⟩
      | brk =>
        obtain ⟨σ6, H6, S6, q6⟩ := hsp
        exact q6.elim
      | cont =>
        obtain ⟨σ6, H6, S6, q6⟩ := hsp
        exact q6.elim
      | ret u =>
        obtain ⟨v6, σ6, H6, S6, r6, q6⟩ := hsp
        exact q6.elim
    | false =>
      show wpAny _ X.A (handleBy (.ref a) X.env []) _ _ _
      refine wpAny_handleBy_nil ?_
      obtain ⟨k1, k2, k3, oe, vs, T, oT, ts', he, hz, hd, h1, hr⟩ := id fl3
      unfold PySem.passOn
      refine wpAny_bind (wpAny_field he hd h1 ?_)
      rw [if_neg (show ¬ ((Value.ref T == Value.none) = true) from by simp)]
      have fin : wpAny (model X.prog X.w) X.A (setFlight (.ref a) X.env.frame) (fun _ s4 => wpAny (model X.prog X.w) X.A (throw (.ref a) : Sem Flow) (SP X pins D) X.xe s4) X.xe { s' with heap := h3 } := by
        rw [hf]
        refine HandSPX.setFlight_upZ fl3 fun h4 hh4 up4 => wpAny_throw (tk _ _ ?_)
        exact ⟨a, B, sI, pins, σ', H', cls, d, rfl, J, nb, (up.trans up3).trans up4, .inr (.inr (by rw [hs]; exact hh4)), na, os, ag, hno rfl⟩
      first
        | exact wpAny_bind (wpAny_pure (wpAny_bind fin))
        | exact wpAny_bind fin
  · cases f with
    | next =>
      obtain ⟨σ', H', J', q⟩ := hsp
      exact wpAny_execs_nil ⟨σ', H', J'.ofTry ok, q⟩
    | brk =>
      obtain ⟨σ', H', J', q⟩ := hsp
      exact ⟨σ', H', J'.ofTry ok, q⟩
    | cont =>
      obtain ⟨σ', H', J', q⟩ := hsp
      exact ⟨σ', H', J'.ofTry ok, q⟩
    | ret u =>
      obtain ⟨v, σ', H', J', r, q⟩ := hsp
      exact ⟨v, σ', H', J'.ofTry ok, r, q⟩
end
end Ev

/-! E21: a kept error: its fields, isinstance of own classes. -/
namespace Ev
open PySem PySem.Spec L2
section
variable {X : Cx} {pins : List (Addr × Obj)} {σ : L2.St} {H : Hp} {s : Shared}
/-- the kept error as an instance -/
theorem xo_inst {a D dd : Addr} {fs : List (Str × V)} (I : Inv X pins σ H s) (ea : H a = some (xo a (.ref D) dd)) (ed : H dd = some (.xd fs)) :
    ∃ (oe od : Obj) (mA : Str → Option Value), PySem.W.InstAt s.heap a oe D (some od) ∧ (∀ n, PySem.W.lookIn n od = some (mA n)) ∧ ∀ f, RelO (fs.lookup f) (mA f) := by
  obtain ⟨⟨oe, vs, ha, hz, hd⟩, _⟩ := I.hok a _ ea
  obtain ⟨mA, hns, hr⟩ := (show ObjOk X.prog X.w H s.heap dd (.xd fs) from I.hok dd _ ed)
  obtain ⟨od, ho, hl⟩ := lookIn_ns hns
  exact ⟨oe, od, mA, ⟨ha, hz.1, by unfold PySem.W.notCls; rw [hd] <;> rfl, by rw [hz.2]; exact ho⟩, hl, hr⟩
end
/-- e.n of a kept error -/
def tXo (K : PySem.W.Frag) (n : Str) (te : TE) : TE := fun σ H Q => te σ H fun x H1 => ∃ (a D dd : Addr) (fs : List (Str × V)) (v : V), x = .ref a ∧ XfC K D ∧ PySem.W.findIn K (.ref D) n = some none ∧ H1 a = some (xo a (.ref D) dd) ∧ H1 dd = some (.xd fs) ∧ fs.lookup n = some v ∧ Q v H1
theorem pe_xo {X : Cx} {e : Expr} {te : TE} {n : Str} {pos : Pos} (he : PE X e te) (hb : attributeBase e n X.env (eval e X.env) = eval e X.env := by rfl) : PE X (.Attribute e n pos) (tXo X.K n te) := by
  refine ⟨fun pins s σ H Q I h => attr_of hb (thn (he.run pins s σ H _ I h) fun u s1 hh => ?_)⟩
  obtain ⟨x, H1, I1, rx, a, D, dd, fs, v, ex, xf, hno, ea, ed, l, q⟩ := hh
  subst ex
  cases (show u = Value.ref a from rx)
  obtain ⟨oe, od, mA, J, hl, hr⟩ := xo_inst I1 ea ed
  obtain ⟨u, hu, ru⟩ := RelO.some_of (v := v) (o := mA n) (by rw [← l]; exact hr n)
  exact PySem.HandSPX.exc_get I1.kIn J xf.ga xf.gg xf.exC (PySem.W.findObj_own xf.hdC hno rfl (by rw [hl, hu])) (handed_of ru) ⟨v, H1, I1.tok _, ru, q⟩
def gFld (cs : List Str) (n : Str) (d : D) : Option D := match d with
  | .ins c ns vs => if cs.contains c = true then lk ns vs n else none
  | _ => none
theorem lk_zip {T : Tx} {io : Io} {G : Hp} {n : Str} {d : D} : ∀ {ns : List Str} {us : List V} {vs : List D}, ns.length = us.length → Reps T io G us vs → lk ns vs n = some d → ∃ v, (ns.zip us).lookup n = some v ∧ Rep T io G v d
  | [], _, _, _, _, h => by cases h
  | k :: ns, u :: us, [], hl, r, h => by cases r
  | k :: ns, [], vs, hl, r, h => by simp at hl
  | k :: ns, u :: us, v :: vs, hl, r, h => by
    cases r with
    | cons r1 r2 =>
      unfold lk at h
      split at h
      · rename_i hn
        subst hn
        cases h
        exact ⟨u, by simp, r1⟩
      · rename_i hn
        obtain ⟨w, e, q⟩ := lk_zip (by simpa using hl) r2 h
        refine ⟨w, ?_, q⟩
        have : (n == k) = false := by simpa using hn
        show ((k, u) :: ns.zip us).lookup n = some w
        simp only [List.lookup, this]
        exact e
section
variable {T : Tx} {W : WX} {X : Cx} {e : Expr} {ma : M D} {pos : Pos} {cs : List Str} {n : Str}
theorem de_fld (hK : X.K = T.K) (hcs : ∀ c, cs.contains c = true → XfC T.K (T.ca c) ∧ PySem.W.findIn T.K (.ref (T.ca c)) n = some none) (he : PE X e (tD T W ma)) (hb : attributeBase e n X.env (eval e X.env) = eval e X.env := by rfl) :
    PE X (.Attribute e n pos) (tD T W (m1 (gFld cs n) ma)) :=
  PE.imp (pe_xo he hb) fun σ H Q h => by
    have h2 := t1 (r := fun x H1 Q => ∃ (a D dd : Addr) (fs : List (Str × V)) (v : V), x = .ref a ∧ XfC X.K D ∧ PySem.W.findIn X.K (.ref D) n = some none ∧ H1 a = some (xo a (.ref D) dd) ∧ H1 dd = some (.xd fs) ∧ fs.lookup n = some v ∧ Q v H1) (fun io G v d z H Q r le q k => by
      unfold gFld at q
      cases r <;> first | cases q | skip
      rename_i a dd c ns us vs ea ed hl rs
      simp only at q
      by_cases hc : cs.contains c = true
      · rw [if_pos hc] at q
        obtain ⟨v, e1, rv⟩ := lk_zip hl rs q
        obtain ⟨x1, x2⟩ := hcs c hc
        exact ⟨a, T.ca c, dd, ns.zip us, v, rfl, by rw [hK]; exact x1, by rw [hK]; exact x2, le _ _ ea, le _ _ ed, e1, k G v H (.refl le) rv⟩
      · rw [if_neg hc] at q; cases q) h
    exact h2
end
end Ev
namespace Ev
open PySem PySem.Spec L2
/-! ### isinstance(e, C) of a kept error, or none -/
def rIsX (K : PySem.W.Frag) : List V → Hp → VK → Prop := fun xs H Q => ∃ (a D dd : Addr) (fs : List (Str × V)) (c : V) (cv : Value) (b : Bool), xs = [.ref a, c] ∧ ClsV c cv ∧ XCls K D ∧ H a = some (xo a (.ref D) dd) ∧ H dd = some (.xd fs) ∧ PySem.W.kitOne K (.ref D) cv = some b ∧ Q (.bl b) H
theorem call_isX {X : Cx} : CallR X (.builtin "isinstance") (rIsX X.K) := by
  intro pins s σ H xs us Q I r h
  obtain ⟨a, D, dd, fs, c, cv, b, rfl, hcv, xc, ea, ed, e, q⟩ := h
  cases r with
  | cons rx rr =>
    cases rr with
    | cons rt rr =>
      cases rr
      cases rx
      have ec := hcv.eq rt
      subst ec
      obtain ⟨oe, od, mA, J, _, _⟩ := xo_inst I ea ed
      exact PySem.W.kia_one (PySem.W.kitx_exc xc.cl xc.f.ga xc.f.gg xc.f.exC xc.ha xc.hn xc.ht xc.hm) I.kIn J e (fun z => nomatch z) fun tk => ⟨.bl b, H, I.kept (t' := tk) fun _ _ z => z, rfl, q⟩
def gIsx (tbl : List (Str × Bool)) (d : D) : Option D := match d with
  | .non => some (.bl false)
  | .ins c _ _ => (tbl.lookup c).map .bl
  | _ => none
section
variable {T : Tx} {W : WX} {X : Cx} {e : Expr} {ma : M D} {pos p p2 : Pos} {tbl : List (Str × Bool)} {y : Str} {C : Addr}
theorem de_isx (hK : X.K = T.K) (hg : Gl X "isinstance") (hm : X.mg "isinstance" = none) (hgy : Gl X y) (hmy : X.mg y = some (.ref C)) (h0 : PySem.W.kitOne T.K (.type "NoneType") (.ref C) = some false)
    (ht : ∀ c b, tbl.lookup c = some b → XCls T.K (T.ca c) ∧ PySem.W.kitOne T.K (.ref (T.ca c)) (.ref C) = some b) (he : PE X e (tD T W ma)) (hdb : (y == ("__debug__" : Str)) = false := by decide)
    (hs : starEach [e, .Name y p2] X.env = (false, eval e X.env) :: starEach [.Name y p2] X.env := by rfl) (hs2 : starEach [.Name y p2] X.env = (false, eval (.Name y p2) X.env) :: starEach [] X.env := by rfl) (hpl : (backTo pos (starEach [.Name y p2] X.env)).any (·.1) = false := by rfl) :
    PE X (.Call (.Name "isinstance" p) [e, .Name y p2] [] pos) (tD T W (m1 (gIsx tbl) ma)) :=
  PE.imp (pe_callB (call_isi.or call_isX) hg hm boot_isi (pa_cons he (pa_cons (pe_glob (v := .ref C) hgy hmy rfl hdb) pa_nil hs2) hs) (he := hs) (hpl := hpl)) fun σ H Q h => by
    have h2 : tUn (fun x H Q => rIsi X.K [x, .ref C] H Q ∨ rIsX X.K [x, .ref C] H Q) (tD T W ma) σ H Q := t1 (fun io G v d z H Q r le q k => by
      rw [hK]
      unfold gIsx at q
      cases r <;> first | cases q; done | skip
      · cases q
        exact .inl ⟨.non, .ref C, .type "NoneType", .ref C, false, rfl, .own C, .base .non, h0, k G _ H (.refl le) (.bl _)⟩
      · rename_i a dd c ns us vs ea ed hl rs
        simp only at q
        cases e1 : tbl.lookup c with
        | none => rw [e1] at q; cases q
        | some b =>
          rw [e1] at q
          cases q
          obtain ⟨x1, x2⟩ := ht c b e1
          exact .inr ⟨a, T.ca c, dd, ns.zip us, .ref C, .ref C, b, rfl, .own C, x1, le _ _ ea, le _ _ ed, x2, k G _ H (.refl le) (.bl _)⟩) h
    exact h2
/-! ### try: e / except C as n: y = n -/
def noOwS (s : Sx) : Bool := s.env.all fun x => match x with
  | .ow _ => false
  | .od _ _ => false
  | _ => true
def sTry (subs : List (Str × Bool)) (i j : Nat) (m : M D) : MS := fun s => match m s with
  | .ok _ s' => .nx s'
  | .exc c ns vs sto => match subs.lookup c with
    | some true => if noOwS s = true then .nx { env := (s.env.set i .un).set j (.sh (.ins c ns vs)), sto := sto } else .bad
    | some false => .exc c ns vs sto
    | none => .bad
  | .bad => .bad
/-- the state where an error was caught -/
theorem Ok.caught {x x' : Gh} {s : Sx} {σ : L2.St} {H H' : Hp} {a dd : Addr} {c : Str} {ns : List Str} {us : List V} {vs : List D} {sto : List (List D)} {i j : Nat} (k : Ok T x s σ H) (hno : noOwS s = true) (b : Bx T x' sto H') (st : Stp x H x' H') (xd : XD T x' H H' dd ns us vs) (na : H' a = none) (hij : i ≠ j) :
    ∃ x2, Ok T x2 { env := (s.env.set i .un).set j (.sh (.ins c ns vs)), sto := sto } (((σ.set i (some (.ref a))).set j (some (.ref a))).set i none) (L2.upd H' a (xo a (.ref (T.ca c)) dd)) ∧ Stp x H x2 (L2.upd H' a (xo a (.ref (T.ca c)) dd)) := by
  have hne : a ≠ dd := fun z => by rw [z, xd.at_] at na; cases na
  -- the dict, the error are shared from now on
  have nUa : ¬ x'.U a := fun u => by
    obtain ⟨o, z⟩ := b.trk a u
    rw [na] at z; cases z
  have gA : x'.G a = none := b.sub.none na
  let G2 : Hp := L2.upd (L2.upd x'.G dd (.xd (ns.zip us))) a (xo a (.ref (T.ca c)) dd)
  have le1 : Le x'.G G2 := fun z o e => by
    have h1 : z ≠ dd := fun q => by rw [q, xd.ng] at e; cases e
    have h2 : z ≠ a := fun q => by rw [q, gA] at e; cases e
    show L2.upd _ a _ z = _
    rw [upd_ne h2, upd_ne h1]; exact e
  have sub : Le G2 (L2.upd H' a (xo a (.ref (T.ca c)) dd)) := fun z o e => by
    by_cases h2 : z = a
    · subst h2
      have e : L2.upd _ z _ z = some o := e
      rw [upd_same] at e ⊢; exact e
    · have e : L2.upd _ a _ z = some o := e
      rw [upd_ne h2] at e ⊢
      by_cases h1 : z = dd
      · subst h1; rw [upd_same] at e; rw [xd.at_]; exact e
      · rw [upd_ne h1] at e; exact b.sub _ _ e
  have up : Le H' (L2.upd H' a (xo a (.ref (T.ca c)) dd)) := .upd na
  have g2new : ∀ z o, G2 z = some o → x'.G z = some o ∨ z = dd ∨ z = a := fun z o e => by
    by_cases h2 : z = a
    · exact .inr (.inr h2)
    · by_cases h1 : z = dd
      · exact .inr (.inl h1)
      · have e : L2.upd _ a _ z = some o := e
        rw [upd_ne h2, upd_ne h1] at e; exact .inl e
  have haH : H a = none := st.th a na
  have thc : ∀ q : Nat, ((s.env.set i .un).set j (.sh (.ins c ns vs)))[q]? = some .th → (((σ.set i (some (.ref a))).set j (some (.ref a))).set i none)[q]? = some (some (.ref T.clo)) := fun q e => by
    by_cases hj : j = q
    · subst hj
      have hl : j < s.env.length := by simpa using (List.getElem?_eq_some_iff.mp e).1
      rw [List.getElem?_set_self (by simpa using hl)] at e
      cases e
    · rw [List.getElem?_set_ne hj] at e
      by_cases hi : i = q
      · subst hi
        have hl : i < s.env.length := by simpa using (List.getElem?_eq_some_iff.mp e).1
        rw [List.getElem?_set_self hl] at e
        cases e
      · rw [List.getElem?_set_ne hi] at e
        rw [List.getElem?_set_ne hi, List.getElem?_set_ne hj, List.getElem?_set_ne hi]
        exact k.th q e
  refine ⟨⟨x'.io, G2, x'.U⟩, ⟨⟨b.n, fun q xs e => ?_, b.inU, b.inj, sub, fun z o e u => ?_, fun z u => ?_, fun p hp => ⟨(b.tab p hp).1, (b.tab p hp).2.ext le1 up⟩, ⟨b.lo.1, b.lo.2.trans le1⟩⟩, by simpa using k.len, fun q d e => ?_, fun q xs e => ?_, fun q1 q2 xs ys z e1 => ?_, fun q e => thc q e, .non fun q ks ds e => (by
    have := List.all_eq_true.mp hno _ (List.mem_of_getElem? (set_od_un (set_od_sh e).2).2)
    cases this)⟩, ⟨st.io, st.le.trans le1, fun z o e u => up _ _ (st.fr z o e u), fun z o e => ?_, st.un, fun z e => ?_⟩⟩
  · obtain ⟨ws, h1, h2⟩ := b.at_ q xs e
    exact ⟨ws, up _ _ h1, h2.up le1⟩
  · rcases g2new z o e with h | h | h
    · exact b.off z o h u
    · subst h; exact xd.nu u
    · subst h; exact nUa u
  · obtain ⟨o, e⟩ := b.trk z u
    exact ⟨o, up _ _ e⟩
  · have e : ((s.env.set i .un).set j (.sh (.ins c ns vs)))[q]? = some (.sh d) := e
    by_cases hj : j = q
    · subst hj
      have hl : j < s.env.length := by simpa using (List.getElem?_eq_some_iff.mp e).1
      rw [List.getElem?_set_self (by simpa using hl)] at e
      cases e
      refine ⟨.ref a, ?_, .ins (G := G2) (dd := dd) ?_ ?_ xd.hl (xd.rs.up le1)⟩
      · rw [List.getElem?_set_ne hij, List.getElem?_set_self (by simpa [← k.len] using hl)]
      · show L2.upd _ a _ a = _; rw [upd_same]
      · show L2.upd _ a _ dd = _; rw [upd_ne (Ne.symm hne), upd_same]
    · rw [List.getElem?_set_ne hj] at e
      by_cases hi : i = q
      · subst hi
        have hl : i < s.env.length := by simpa using (List.getElem?_eq_some_iff.mp e).1
        rw [List.getElem?_set_self hl] at e
        cases e
      · rw [List.getElem?_set_ne hi] at e
        obtain ⟨v, h1, h2⟩ := k.sh q d e
        exact ⟨v, by rw [List.getElem?_set_ne hi, List.getElem?_set_ne hj, List.getElem?_set_ne hi]; exact h1, h2.mono st.io (st.le.trans le1)⟩
  all_goals first
    | (have e : ((s.env.set i .un).set j (.sh (.ins c ns vs)))[q]? = some (.ow xs) := e
       exfalso
       by_cases hj : j = q
       · subst hj
         have hl : j < s.env.length := by simpa using (List.getElem?_eq_some_iff.mp e).1
         rw [List.getElem?_set_self (by simpa using hl)] at e
         cases e
       · rw [List.getElem?_set_ne hj] at e
         by_cases hi : i = q
         · subst hi
           have hl : i < s.env.length := by simpa using (List.getElem?_eq_some_iff.mp e).1
           rw [List.getElem?_set_self hl] at e
           cases e
         · rw [List.getElem?_set_ne hi] at e
           have := List.all_eq_true.mp hno _ (List.mem_of_getElem? e)
           cases this)
    | skip
  · exfalso
    have e : ((s.env.set i .un).set j (.sh (.ins c ns vs)))[q1]? = some (.ow xs) := e1
    by_cases hj : j = q1
    · subst hj
      have hl : j < s.env.length := by simpa using (List.getElem?_eq_some_iff.mp e).1
      rw [List.getElem?_set_self (by simpa using hl)] at e
      cases e
    · rw [List.getElem?_set_ne hj] at e
      by_cases hi : i = q1
      · subst hi
        have hl : i < s.env.length := by simpa using (List.getElem?_eq_some_iff.mp e).1
        rw [List.getElem?_set_self hl] at e
        cases e
      · rw [List.getElem?_set_ne hi] at e
        have := List.all_eq_true.mp hno _ (List.mem_of_getElem? e)
        cases this
  · rcases g2new z o e with h | h | h
    · exact st.new z o h
    · subst h; exact .inr (.inr xd.new)
    · subst h; exact .inr (.inr haH)
  · refine st.th z ?_
    by_cases h : z = a
    · subst h; exact na
    · rwa [upd_ne h] at e
end
end Ev

/-! E22: try: e / except C as n: y = n, over data. -/
namespace Ev
open PySem PySem.Spec L2
section
variable {T : Tx} {W : WX} {X : Cx} {e : Expr} {m : M D} {x n y : Str} {C : Addr} {i j : Nat} {np pos pos' py pn0 ap ep : Pos} {subs : List (Str × Bool)}
theorem ds_try (hK : X.K = T.K) (hs : X.stack = X.env :: X.outer) (hf : X.env.frame = some X.env.locals) (hN : X.N.Nodup) (hi : X.N[i]? = some n) (hln : X.env.kindOf n = some .local) (hj : X.N[j]? = some y) (hly : X.env.kindOf y = some .local) (hlv : X.env.scope.names.lookup y = some .local) (hnv : X.env.scope.names.lookup n = some .local) (hij : i ≠ j) (hx : X.ex = [])
    (hg : Gl X x) (hdx : (x == ("__debug__" : Str)) = false) (hm : X.mg x = some (.ref C)) (tk : Takes X W) (hsub : ∀ c b, subs.lookup c = some b → PySem.W.exmOne T.K (.ref (T.ca c)) (.ref C) = some b)
    (hb : ∀ (W : WX) (pn : List (Addr × Obj)) (xe : Value → Shared → Prop), Takes (X.tr pn xe) W → PassesOwn (model X.prog X.w) X.A X.env xe → PE (X.tr pn xe) e (tD T W m))
    (hse : ∀ (pn : List (Addr × Obj)) (xe : Value → Shared → Prop), swapsWith e none ep.line (X.tr pn xe).env = pure false)
    (hsw : ∀ (a : Addr) (pn : List (Addr × Obj)), swapsWith (.Name n pn0) (some (.Name y py)) ap.line (X.suite a pn).env = pure false) (hd : (n == ("__debug__" : Str)) = false := by decide) (hcd : (n == ("__classdict__" : Str)) = false := by decide) :
    PS X (.Try [.Expr e ep] [.ExceptHandler (some (.Name x np)) (some n) [.Assign [.Name y py] (.Name n pn0) ap] pos'] [] [] pos) (tS T W (sTry subs i j m)) :=
  PS.imp (ps_try_keep (c := .ref C) (tb := fun W' D σ H => tD T W' m σ H fun _ H1 => D.nx σ H1) hs hf hN hi hln hj hly hlv hnv hij hx ⟨hg, hdx, .inl hm⟩ tk
    (fun W' pn xe tk' po => pss_one (ps_expr (hb W' pn xe tk' po) (hse pn xe))) hsw hd hcd) fun D σ H ⟨x0, s, k, h⟩ => by
    refine ⟨x0, s, k, ?_⟩
    unfold sTry at h
    cases em : m s with
    | ok d s' =>
      rw [em] at h
      exact fun x' v H' k' st _ => h x' σ H' k' st
    | bad => rw [em] at h; exact h
    | exc c ns vs sto =>
      rw [em] at h
      simp only at h
      intro x' dd us H' b st xd
      cases eb : subs.lookup c with
      | none => rw [eb] at h; exact h.elim
      | some bb =>
        rw [eb] at h
        refine ⟨bb, by rw [hK]; exact hsub c bb eb, fun hbt => ⟨dd, rfl, fun a na => ?_⟩, fun hbf => ?_⟩
        · subst hbt
          simp only at h
          by_cases hno : noOwS s = true
          · rw [if_pos hno] at h
            obtain ⟨x2, k2, st2⟩ := k.caught (c := c) (i := i) (j := j) hno b st xd na hij
            exact h x2 _ _ k2 st2
          · rw [if_neg hno] at h; exact h.elim
        · subst hbf
          exact h σ x' dd us H' b st xd
end
end Ev

/-! E23: a lambda is made: its function object, its code object in the maker's table, its defaults. -/
namespace Ev
open PySem PySem.Spec L2
abbrev lamFn (qual : Str) (params : Arguments) (body : Expr) (scope : Scope) (cl : List (Str × Addr)) (dV pm cdv ct : Value) : FuncData :=
  { name := "<lambda>", qualname := qual, params := params, body := .expr body, scope := scope, globals := mainGlobals, closure := cl, defaults := dV, kwdefaults := .none, doc := .none, pyModule := pm, annotations := none, code := cdv, closureTuple := ct, builtins := builtinsNs }
abbrev lamO (qual : Str) (params : Arguments) (body : Expr) (scope : Scope) (cl : List (Str × Addr)) (dV pm cdv ct : Value) : Obj :=
  { cls := .type "function", data := .func (lamFn qual params body scope cl dV pm cdv ct) }
section
variable {M : Model} {A : Around} {E : Value → Shared → Prop} {s : Shared} {qual : Str} {params : Arguments} {body : Expr} {scope : Scope} {env : Env} {c P : Addr} {ps : Array Value} {pos : Pos} {line : Nat} {mg : Str → Option Value} {clos : List (Str × Addr)} {dV : Value} {Q : Value → Shared → Prop}
theorem lam_tail (hcl : closureFor scope env = pure clos) (hge : env.globals = mainGlobals) (hg : s.heap.Ns mainGlobals mg) (hcode : env.code = .ref c) (C : PySem.W.CodeHd s.heap c P) (hP : s.heap.get? P = some (PySem.W.tabObj ps)) (ht : TriplesOk ps.toList) (hgP : mainGlobals ≠ P) (hb : s.heap.BuiltinsAt mg P)
    (h : ∀ (cv ctv : Value) (h' : Heap) (tk : Tok), Heap.ExtBut P s.heap h' → s.heap.objs.size ≤ h'.objs.size →
      ((codeAmong pos ps.toList = some cv ∧ ∀ b o, s.heap.get? b = some o → h'.get? b = some o) ∨ (codeAmong pos ps.toList = none ∧ ∃ c', cv = .ref c' ∧ s.heap.objs.size ≤ c' ∧ c' < h'.objs.size ∧ h'.CodeRec (.ref c') qual ∧ h'.get? P = some (PySem.W.tabObj (ps ++ #[rawInt pos.line, rawInt pos.col, .ref c'])))) →
      Q (.ref h'.objs.size) { s with heap := h'.push (lamO qual params body scope clos dV ((mg "__name__").getD .none) cv ctv), toks := tk }) :
    wpAny M A (makeTail "<lambda>" qual params (.expr body) scope env dV .none none pos line) Q E s := by
  unfold makeTail
  rw [hcl, hge]
  refine wpAny_bind (wpAny_pure ?_)
  have rest : ∀ (ctv : Value) (h1 : Heap), (∀ b o, s.heap.get? b = some o → h1.get? b = some o) → s.heap.objs.size ≤ h1.objs.size → wpAny M A (do
      let cd ← functionCode env pos line "<lambda>" qual params scope (.expr body)
      let bl ← builtinsFor mainGlobals env.builtins
      let nm ← nsGet mainGlobals "__name__"
      let dc ← (pure Value.none : Sem Value)
      newObj (.type "function") (.func { name := "<lambda>", qualname := qual, params := params, body := .expr body, scope := scope, globals := mainGlobals, closure := clos, defaults := dV, kwdefaults := .none, doc := dc, pyModule := nm.getD .none, annotations := none, code := cd, closureTuple := ctv, builtins := bl })) Q E { s with heap := h1 } := fun ctv h1 kp sz => by
    have C1 := C.keeps kp
    obtain ⟨bm, ob, b1, b2, b3, b4, b5, b6, b7, b8⟩ := hb
    cases hc : codeAmong pos ps.toList with
    | some cv =>
      refine wpAny_bind (wpAny_functionCode_hit hcode (C1.code (kp _ _ hP) ht) hc ?_)
      refine wpAny_bind (wpAny_builtinsFor (hg.keeps kp) b1 b2 (kp _ _ b5) b6 b7 b8 ?_)
      refine wpAny_bind (wpAny_nsGet (hg.keeps kp) ?_)
      exact wpAny_bind (wpAny_pure (wpAny_newObj_type (h cv ctv h1 _ (fun b o _ e => kp b o e) sz (.inl ⟨hc, kp⟩)) (by size_fits)))
    | none =>
      refine wpAny_bind (wpAny_functionCodeX hcode (C1.code (kp _ _ hP) ht) (C1.tab (kp _ _ hP)) hc fun c' h' tk hx hge' hlt _ hrec htb _ => ?_)
      have ext : Heap.ExtBut P s.heap h' := fun b o n e => hx b o n (kp b o e)
      have hg' := (hg.keeps kp).extBut hx hgP
      have z1 : s.heap.objs.size ≤ c' := Nat.le_trans sz hge'
      refine wpAny_bind (wpAny_builtinsFor hg' b1 b2 (ext _ _ b4 b5) b6 b7 b8 ?_)
      refine wpAny_bind (wpAny_nsGet hg' ?_)
      exact wpAny_bind (wpAny_pure (wpAny_newObj_type (h (.ref c') ctv h' tk ext (Nat.le_trans z1 (Nat.le_of_lt hlt)) (.inr ⟨hc, c', rfl, z1, hlt, hrec, htb.2⟩)) (by size_fits)))
  cases clos with
  | nil => exact wpAny_bind (wpAny_pure (rest .none s.heap (fun _ _ e => e) (Nat.le_refl _)))
  | cons q r => exact wpAny_bind (wpAny_newTextTuple (rest _ _ (fun b o e => Heap.get?_push_of_some _ e) (by rw [Heap.size_push]; exact Nat.le_succ _)))
end
/-- written defaults: constants -/
structure Dfl (X : Cx) (es : List Expr) (dvs : List V) : Prop where
  run : ∀ (pins : List (Addr × Obj)) (s : Shared) (σ : L2.St) (H : Hp) (Q : List Value → Shared → Prop), L2.Inv X pins σ H s → (∀ us s', Vals dvs us → L2.Inv X pins σ H s' → Q us s') → wpAny (model X.prog X.w) X.A (evalAll (evalEach es X.env)) Q X.xe s
section
variable {X : Cx}
theorem dfl_nil : Dfl X [] [] := ⟨fun pins s σ H Q I h => wpAny_pure (h [] s .nil I)⟩
theorem dfl_cons {e : Expr} {es : List Expr} {v : V} {dvs : List V} (he : PE X e (tC v)) (hr : Dfl X es dvs) : Dfl X (e :: es) (v :: dvs) := ⟨fun pins s σ H Q I h => by
  show wpAny _ _ (evalAll (eval e X.env :: evalEach es X.env)) _ _ _
  unfold evalAll
  refine wpAny_bind (thn (he.run pins s σ H (fun w H1 => w = v ∧ H1 = H) I ⟨rfl, rfl⟩) fun u s1 hh => ?_)
  obtain ⟨w, H1, I1, r, e1, e2⟩ := hh
  subst e1 e2
  exact wpAny_bind (wpAny_holding (hr.run pins s1 σ _ _ I1 fun us s2 rs I2 => wpAny_pure (h (u :: us) s2 (.cons r rs) I2)))⟩
end
/-- where a lambda's defaults stand -/
def DflAt (h : Heap) (H : Hp) (fs : List Addr) (dV : Value) (us : List Value) : Prop := (us = [] ∧ dV = .none) ∨ (us ≠ [] ∧ ∃ dt, dV = .ref dt ∧ h.get? dt = some { cls := .type "tuple", data := .seq us.toArray } ∧ H dt = none ∧ dt ∉ fs)
/-- nothing but tables has changed -/
theorem Ok.tabled {T : Tx} {x x1 : Gh} {s : Sx} {σ : L2.St} {H H1 : Hp} (k : Ok T x s σ H) (b : Bx T x1 s.sto H1) (io : x1.io = x.io) (le : Le x.G x1.G) (hu : ∀ a, x1.U a ↔ x.U a) (ex : LamX.ExtN H H1) : Ok T x1 s σ H1 where
  bx := b
  len := k.len
  sh := fun i d e => by
    obtain ⟨v, h, r⟩ := k.sh i d e
    exact ⟨v, h, by rw [io]; exact r.up le⟩
  ow := fun i xs e => by
    obtain ⟨a, vs, h1, h2, r, u, z⟩ := k.ow i xs e
    exact ⟨a, vs, h1, ex _ _ h2 (fun _ z => by cases z), by rw [io]; exact r.up le, (hu a).mpr u, by rw [io]; exact z⟩
  owi := k.owi
  th := k.th
  od := k.od.of (by rw [io]; exact .refl _) le (fun _ _ _ e => ⟨e, rfl⟩) fun a kvs e u => ⟨ex _ _ e (fun _ z => by cases z), (hu a).mpr u⟩
section
variable {T : Tx} {X : Cx} {pins : List (Addr × Obj)} {σ : L2.St} {H : Hp} {s : Shared} {x : Gh} {sto : List (List D)}
theorem lam_make {c P : Addr} {params : Arguments} {body : Expr} {scope : Scope} {pos : Pos} {es : List Expr} {dvs : List V} {Q : Value → Shared → Prop} (I : L2.Inv X pins σ H s) (b : Bx T x sto H) (TB : LamX.TabB X.base X.mg c P) (hcode : X.env.code = .ref c)
    (hm : (P, X.env.qual ++ "<lambda>") ∈ T.tb) (hu : ∀ p ∈ T.tb, p.1 = P → p.2 = X.env.qual ++ "<lambda>") (hdef : defaultsOf params X.env = (evalEach es X.env, [])) (dfl : Dfl X es dvs) (hfree : ∀ y ∈ scope.names, y.2 = .free → ∃ c, X.env.cells.lookup y.1 = some c)
    (h : ∀ (f c' : Addr) (dV pm ctv : Value) (us : List Value) (H1 : Hp) (s' : Shared) (x1 : Gh), L2.Inv X pins σ H1 s' → Bx T x1 sto H1 → Stp x H x1 H1 → x1.io = x.io → (∀ a, x1.U a ↔ x.U a) → LamX.ExtN H H1 →
      s'.heap.get? f = some (lamO (X.env.qual ++ "<lambda>") params body scope (cloFrom X.env.cells scope.names []) dV pm (.ref c') ctv) → H1 f = none → f ∉ frs X.stack → x1.G c' = some (LamX.CodeO c' (X.env.qual ++ "<lambda>")) → Vals dvs us → DflAt s'.heap H1 (frs X.stack) dV us → Q (.ref f) s') :
    wpAny (model X.prog X.w) X.A (eval (.Lambda params body scope pos) X.env) Q X.xe s := by
  rw [arm_eval_Lambda, hdef]
  show wpAny _ _ (do let dv ← evalAll (evalEach es X.env); let kdv ← holding dv (evalAllOpt []); makeFunction "<lambda>" (X.env.qual ++ "<lambda>") params (.expr body) scope X.env dv kdv [] pos pos.line) _ _ _
  refine wpAny_bind (dfl.run pins s σ H _ I fun us s0 rv I0 => wpAny_bind (wpAny_holding (wpAny_pure ?_)))
  rw [makeFunction_eq]
  simp only [List.zip_nil_right, List.filterMap_nil, List.isEmpty_nil, if_true, pure_bind]
  have nofr : ∀ {s1 : Shared} {H1 : Hp}, L2.Inv X pins σ H1 s1 → ∀ f, s1.heap.objs.size ≤ f → f ∉ frs X.stack := fun {s1 H1} J f hf z => by
    rcases List.mem_cons.mp (J.stkSub _ z) with e | e
    · have h1 := J.lt
      rw [← e] at h1
      exact Nat.lt_irrefl _ (Nat.lt_of_lt_of_le h1 hf)
    · exact J.nofs hf e
  suffices rest : ∀ (dV : Value) (s1 : Shared), L2.Inv X pins σ H s1 → DflAt s1.heap H (frs X.stack) dV us → wpAny (model X.prog X.w) X.A (makeTail "<lambda>" (X.env.qual ++ "<lambda>") params (.expr body) scope X.env dV .none none pos pos.line) Q X.xe s1 by
    cases us with
    | nil => exact rest .none s0 I0 (.inl ⟨rfl, rfl⟩)
    | cons u r => exact wpAny_bind (wpAny_newTextTuple (rest _ _ (I0.kept (t' := s0.toks) fun b o e => Heap.get?_push_of_some _ e) (.inr ⟨by simp, _, rfl, Heap.get?_push_size _ rfl, I0.hok.fresh (Nat.le_refl _), nofr I0 _ (Nat.le_refl _)⟩)))
  intro dV s1 I1 hdA
  obtain ⟨uP, ps, hP, ht, ha⟩ := b.tab _ hm
  have bP : s1.heap.BuiltinsAt X.mg P := TB.bm.keeps I1.bk
  have hP' : s1.heap.get? P = some (PySem.W.tabObj ps) := I1.hok P _ hP
  have dAfter : ∀ {h' : Heap} {H1 : Hp}, (∀ b o, b ≠ P → s1.heap.get? b = some o → h'.get? b = some o) → (∀ b o, s1.heap.get? b = some o → H b = none → H1 b = none) → DflAt h' H1 (frs X.stack) dV us := fun {h' H1} kp kn => by
    rcases hdA with z | ⟨n, dt, e1, e2, e3, e4⟩
    · exact .inl z
    · exact .inr ⟨n, dt, e1, kp _ _ (fun z => by rw [z] at e3; rw [e3] at hP; cases hP) e2, kn _ _ e2 e3, e4⟩
  refine lam_tail (mg := X.mg) (c := c) (P := P) (ps := ps) (closure_ok hfree) I1.ok.glob (I1.mod.glob.keeps I1.bk) hcode (TB.code.keeps I1.bk) hP' ht TB.gP bP fun cv ctv h' tk hx hsz hcase => ?_
  have fresh : ∀ f, s1.heap.objs.size ≤ f → H f = none := fun f hf => I1.hok.fresh hf
  rcases hcase with ⟨hc, kp⟩ | ⟨hc, c', rfl, hge, hlt, hrec, htb⟩
  · obtain ⟨c', rfl, hco⟩ := ha pos cv hc
    have I2 : L2.Inv X pins σ H { s1 with heap := h'.push (lamO (X.env.qual ++ "<lambda>") params body scope (cloFrom X.env.cells scope.names []) dV ((X.mg "__name__").getD .none) (.ref c') ctv), toks := tk } := I1.kept fun b o e => Heap.get?_push_of_some _ (kp b o e)
    exact h h'.objs.size c' dV _ ctv us H _ x I2 b (.refl _ _) rfl (fun _ => Iff.rfl) (.refl H) (Heap.get?_push_size _ rfl) (fresh _ hsz) (nofr I1 _ hsz) hco rv (dAfter (fun b o _ e => Heap.get?_push_of_some _ (kp b o e)) fun _ _ _ e => e)
  · obtain ⟨c2, oc, vs, t, e2, hoc, hd, hv⟩ := hrec
    cases e2
    have nC : H c' = none := fresh c' hge
    have nPc : P ≠ c' := ne_of_none hP nC
    have I2 := LamX.inv_table (t' := tk) (more := #[rawInt pos.line, rawInt pos.col, .ref c']) (q := X.env.qual ++ "<lambda>") (h' := h'.push (lamO (X.env.qual ++ "<lambda>") params body scope (cloFrom X.env.cells scope.names []) dV ((X.mg "__name__").getD .none) (.ref c') ctv)) I1 hP
      (fun b o hb e => Heap.get?_push_of_some _ (hx b o hb e)) (Heap.get?_push_of_some _ htb) hge ⟨oc, vs, t, Heap.get?_push_of_some _ hoc, hd, hv⟩
    obtain ⟨H1, eH⟩ : ∃ H1 : Hp, H1 = L2.upd (L2.upd H P (.tbl (ps ++ #[rawInt pos.line, rawInt pos.col, .ref c']))) c' (LamX.CodeO c' (X.env.qual ++ "<lambda>")) := ⟨_, rfl⟩
    rw [← eH] at I2
    have at_ : ∀ b, b ≠ P → b ≠ c' → H1 b = H b := fun b h1 h2 => by rw [eH, upd_ne h2, upd_ne h1]
    have atP : H1 P = some (.tbl (ps ++ #[rawInt pos.line, rawInt pos.col, .ref c'])) := by rw [eH, upd_ne nPc, upd_same]
    have atC : H1 c' = some (LamX.CodeO c' (X.env.qual ++ "<lambda>")) := by rw [eH, upd_same]
    have keep : ∀ a o, H a = some o → a ≠ P → H1 a = some o := fun a o e n => by rw [at_ a n (ne_of_none e nC)]; exact e
    have gC : x.G c' = none := b.sub.none nC
    have uC : ¬ x.U c' := fun z => by
      obtain ⟨o, e⟩ := b.trk c' z
      rw [nC] at e; cases e
    have leG : Le x.G (L2.upd x.G c' (LamX.CodeO c' (X.env.qual ++ "<lambda>"))) := .upd gC
    have gP : ∀ o, x.G P ≠ some o := fun o e => b.off P o e uP
    have eN : LamX.ExtN H H1 := fun a o e n => keep a o e fun z => by
      rw [z, hP] at e
      exact n ps (Option.some.inj e).symm
    have eL : (ps ++ #[rawInt pos.line, rawInt pos.col, .ref c']).toList = ps.toList ++ [rawInt pos.line, rawInt pos.col, .ref c'] := by simp
    have b1 : Bx T ⟨x.io, L2.upd x.G c' (LamX.CodeO c' (X.env.qual ++ "<lambda>")), x.U⟩ sto H1 := by
      refine ⟨b.n, fun i xs e => ?_, b.inU, b.inj, fun a o e => ?_, fun a o e u => ?_, fun a u => ?_, fun p hp => ⟨(b.tab p hp).1, ?_⟩, ⟨b.lo.1, b.lo.2.trans leG⟩⟩
      · obtain ⟨ws, e1, r⟩ := b.at_ i xs e
        exact ⟨ws, eN _ _ e1 (fun _ z => by cases z), r.up leG⟩
      · have e : L2.upd x.G c' _ a = some o := e
        by_cases ha : a = c'
        · subst ha; rw [upd_same] at e; cases e; exact atC
        · rw [upd_ne ha] at e
          exact keep a o (b.sub a o e) fun z => gP o (by rw [← z]; exact e)
      · have e : L2.upd x.G c' _ a = some o := e
        by_cases ha : a = c'
        · subst ha; exact uC u
        · rw [upd_ne ha] at e; exact b.off a o e u
      · by_cases ha : a = P
        · rw [ha]; exact ⟨_, atP⟩
        · obtain ⟨o, e⟩ := b.trk a u
          exact ⟨o, keep a o e ha⟩
      · by_cases hb : p.1 = P
        · rw [hu p hp hb, hb]
          refine ⟨_, atP, by rw [eL]; exact PySem.TriplesOk_snoc _ _ _ _ ht, fun p' cv hcv => ?_⟩
          rw [eL] at hcv
          rcases LamX.among_app _ ht hcv with z | z
          · obtain ⟨c0, e1, e2⟩ := ha p' cv z
            exact ⟨c0, e1, leG _ _ e2⟩
          · exact ⟨c', z, by show L2.upd x.G c' _ c' = _; rw [upd_same]⟩
        · obtain ⟨ps', a1, a2, a3⟩ := (b.tab p hp).2
          refine ⟨ps', keep _ _ a1 hb, a2, fun p' cv hcv => ?_⟩
          obtain ⟨c0, e1, e2⟩ := a3 p' cv hcv
          exact ⟨c0, e1, leG _ _ e2⟩
    have st : Stp x H ⟨x.io, L2.upd x.G c' (LamX.CodeO c' (X.env.qual ++ "<lambda>")), x.U⟩ H1 := by
      refine ⟨.refl _, leG, fun a o e n => keep a o e (fun z => n (by rw [z]; exact uP)), fun a o e => ?_, fun a u => .inl u, fun a e => ?_⟩
      · have e : L2.upd x.G c' _ a = some o := e
        by_cases ha : a = c'
        · subst ha; exact .inr (.inr nC)
        · rw [upd_ne ha] at e; exact .inl e
      · cases q : H a with
        | none => rfl
        | some o =>
          by_cases ha : a = P
          · rw [ha, atP] at e; cases e
          · rw [keep a o q ha] at e; cases e
    have n1 : h'.objs.size ≠ c' := Nat.ne_of_gt hlt
    have n2 : h'.objs.size ≠ P := Nat.ne_of_gt (Nat.lt_of_lt_of_le (Heap.lt_size hP') hsz)
    refine h h'.objs.size c' dV _ ctv us H1 _ _ I2 b1 st rfl (fun _ => Iff.rfl) eN (Heap.get?_push_size _ rfl) (by rw [at_ _ n2 n1]; exact fresh _ hsz) (nofr I1 _ hsz) (by show L2.upd x.G c' _ c' = _; rw [upd_same]) rv (dAfter (fun b o n e => Heap.get?_push_of_some _ (hx b o n e)) fun a o e n => ?_)
    have a1 : a ≠ P := fun z => by rw [z, hP] at n; cases n
    have a2 : a ≠ c' := fun z => by
      rw [z] at e
      exact Nat.lt_irrefl _ (Nat.lt_of_lt_of_le (Heap.lt_size e) hge)
    rw [at_ a a1 a2]; exact n
end
end Ev

/-! E24: a lambda's frame; a def that is handed a lambda; its call. -/
namespace Ev
open PySem PySem.Spec L2
/-! ### names -/
structure LamP (N : List Str) (sc scope : Scope) (ps : List Str) : Prop where
  kind : scope.kind = .function
  co : scope.isCoroutine = false
  gen : scope.isGenerator = false
  nocell : ∀ y ∈ scope.names, y.2 ≠ .cell
  loc : ∀ y ∈ scope.names, y.2 = .local → y.1 ∉ N
  free : ∀ y ∈ scope.names, y.2 = .free → sc.names.lookup y.1 = some .cell ∨ sc.names.lookup y.1 = some .free
  par : ∀ y ∈ ps, scope.names.lookup y = some .local
  nd : ps.Nodup
def lamPB (N : List Str) (sc : List (Str × NameKind)) (scope : Scope) (ps : List Str) : Bool :=
  decide (scope.kind = .function) && (!scope.isCoroutine && (!scope.isGenerator && ((scope.names.all fun y => !decide (y.2 = .cell) && ((!decide (y.2 = .local) || !decide (y.1 ∈ N)) && (!decide (y.2 = .free) || (decide (sc.lookup y.1 = some .cell) || decide (sc.lookup y.1 = some .free))))) &&
    ((ps.all fun y => decide (scope.names.lookup y = some .local)) && decide ps.Nodup))))
theorem lamP_by {N : List Str} {sc scope : Scope} {ps : List Str} (h : lamPB N sc.names scope ps = true) : LamP N sc scope ps := by
  unfold lamPB at h
  simp only [Bool.and_eq_true, Bool.or_eq_true, Bool.not_eq_true', decide_eq_true_eq, decide_eq_false_iff_not, List.all_eq_true] at h
  obtain ⟨h1, h2, h3, h4, h5, h6⟩ := h
  exact ⟨h1, h2, h3, fun y hy => (h4 y hy).1, fun y hy e => (h4 y hy).2.1.resolve_left fun z => z e, fun y hy e => (h4 y hy).2.2.resolve_left fun z => z e, h5, h6⟩
theorem LamP.has {X : Cx} {scope : Scope} {ps : List Str} (L : LamP X.N X.env.scope scope ps) (ok : X.Ok) : ∀ y ∈ scope.names, y.2 = .free → ∃ c, X.env.cells.lookup y.1 = some c := fun y hy e => by
  rcases L.free y hy e with k | k
  · exact ok.has _ (.inl k)
  · exact ok.has _ (.inr k)
/-- the lambda's frame -/
def lamX (X : Cx) (N' : List Str) (A : Around) (outer : List Env) (s : Shared) (H : Hp) (E : XK) (scope : Scope) (f c' : Addr) : Cx := { LamX.lamCx X A outer s H E scope f c' with N := N' }
theorem lookup_zip_rev : ∀ {ps : List Str} {us : List Value} {i : Nat} {y : Str} {u : Value}, ps.Nodup → ps[i]? = some y → us[i]? = some u → (ps.zip us).reverse.lookup y = some u
  | [], _, _, _, _, _, h, _ => by simp at h
  | p :: ps, [], _, _, _, _, _, h => by simp at h
  | p :: ps, u0 :: us, 0, y, u, nd, h1, h2 => by
    simp at h1 h2
    subst h1 h2
    have hn : ((ps.zip us).reverse).lookup p = none := by
      rw [List.lookup_eq_none_iff]
      intro q hq
      have h3 := (List.of_mem_zip (show (q.1, q.2) ∈ ps.zip us from List.mem_reverse.mp hq)).1
      have h4 := (List.nodup_cons.mp nd).1
      cases hb : (p == q.1) with
      | false => simp [bne, hb]
      | true => exact absurd (by rw [beq_iff_eq.mp hb]; exact h3) h4
    simp [List.lookup_append, hn]
  | p :: ps, u0 :: us, i + 1, y, u, nd, h1, h2 => by
    have ih := lookup_zip_rev (i := i) (List.nodup_cons.mp nd).2 (by simpa using h1) (by simpa using h2)
    simp [List.lookup_append, ih]
section
variable {X : Cx} {pins : List (Addr × Obj)} {σ : L2.St} {H HZ : Hp} {s s1 : Shared}
theorem lam_start {A : Around} {outer : List Env} {E : XK} {scope : Scope} {f c' : Addr} {h1 : Heap} {tk : Nat} {ps ms : List Str} {vs : List V} {us : List Value} (I : L2.Inv X pins σ H s) (L : LamP X.N X.env.scope scope ps) (e0 : Env0 X.prog X.w X.K X.mg X.base A outer s1 HZ) (hd : A.handled = none)
    (un : Un (frs X.stack) [] H HZ s.heap s1.heap) (hns : h1.Ns s1.heap.objs.size fun y => (ps.zip us).reverse.lookup y) (kp : ∀ b o, s1.heap.get? b = some o → h1.get? b = some o) (rv : Vals vs us) (hl : us.length = ps.length) :
    L2.Inv (lamX X (X.N ++ (ps ++ ms)) A outer s1 HZ E scope f c') [] (σ ++ (vs.map some ++ List.replicate ms.length none)) HZ { s1 with heap := h1, toks := tk } := by
  have hfree := L.has I.ok
  have cm : ∀ {y c}, (cloFrom X.env.cells scope.names []).lookup y = some c → X.env.cells.lookup y = some c := fun {y c} e => by
    rcases cloFrom_mem (PySem.mem_of_lookup e) with hm | ⟨h1, h2⟩
    · cases hm
    · obtain ⟨c1, hc⟩ := hfree _ h1 rfl
      have hc : X.env.cells.lookup y = some c1 := hc
      have e2 : c = c1 := by rw [h2, hc]; rfl
      rw [e2]
      exact hc
  have look : ∀ {y}, scope.names.lookup y = some .free → ∃ c, (cloFrom X.env.cells scope.names []).lookup y = some c := fun {y} hl =>
    mem_lookup (cloFrom_has (cells := X.env.cells) (acc := []) (show (y, NameKind.free) ∈ scope.names from PySem.mem_of_lookup hl))
  have cellK : ∀ {c : Addr} {v : Option Value}, H c = none → s.heap.IsCell c v → h1.IsCell c v := fun {c v} n ⟨o, ho, hd⟩ => by
    obtain ⟨sl, q⟩ := un.any ho n (by simp)
    exact ⟨_, kp _ _ q, hd⟩
  have noA : ∀ b : Addr, b ∉ (lamX X (X.N ++ (ps ++ ms)) A outer s1 HZ E scope f c').ex := fun b z => absurd (show b ∈ ([] : List Addr) from z) (by simp)
  refine ⟨⟨e0.mod, L.kind, rfl, rfl, Nat.le_refl _, fun y z c e1 e2 => I.ok.inj y z c (cm e1) (cm e2), fun y hy => ?_, fun y c z _ => ?_, fun _ => hd, Around.frames_deeper e0.frames, .inr ⟨rfl, rfl⟩, fun b z => absurd z (noA b), e0.bs, e0.bsz, fun b _ _ => noA b,
      fun b z => absurd z (noA b), e0.funs, e0.frf⟩,
    rfl, e0.bare, Un.kept kp, ⟨_, hns, fun i y v e1 e2 e3 => ?_⟩, fun y c e => ?_, e0.hok.fresh (Nat.le_refl _), fun y c e => ?_, fun q hq => absurd (show q ∈ ([] : List (Addr × Obj)) ++ [] from hq) (by simp), e0.hok.kept kp, ?_⟩
  · have hy : scope.names.lookup y = some .cell ∨ scope.names.lookup y = some .free := hy
    rcases hy with hy | hy
    · exact absurd rfl (L.nocell _ (PySem.mem_of_lookup hy))
    · exact look hy
  · have z : false = true := z
    cases z
  · have e3 : Vis scope y := e3
    have e1 : (X.N ++ (ps ++ ms))[i]? = some y := e1
    by_cases hi : i < X.N.length
    · rw [List.getElem?_append_left hi] at e1
      rw [List.getElem?_append_left (by rw [I.len]; exact hi)] at e2
      have hyN : y ∈ X.N := List.mem_of_getElem? e1
      rcases e3 with k | k | k
      · exact absurd hyN (L.loc _ (PySem.mem_of_lookup k) rfl)
      · exact absurd rfl (L.nocell _ (PySem.mem_of_lookup k))
      · obtain ⟨m, hn, hlk⟩ := I.loc
        have hvis : Vis X.env.scope y := (L.free _ (PySem.mem_of_lookup k) rfl).elim (fun k => .inr (.inl k)) (fun k => .inr (.inr k))
        obtain ⟨w', r, q⟩ := hlk i y v e1 e2 hvis
        obtain ⟨c2, h2⟩ := look k
        refine ⟨w', r, .inr ⟨.inr k, c2, h2, ?_⟩⟩
        have c1 := cm h2
        rcases q with ⟨k', _⟩ | ⟨_, c3, e', z⟩
        · have k' : X.env.scope.names.lookup y = some .local := k'
          rcases L.free _ (PySem.mem_of_lookup k) rfl with k2 | k2 <;> rw [show X.env.scope.names.lookup y = _ from k2] at k' <;> cases k'
        · rw [c1] at e'
          cases e'
          exact cellK (I.freeC y _ c1) z
    · rw [List.getElem?_append_right (by omega)] at e1
      rw [List.getElem?_append_right (by rw [I.len]; omega), I.len] at e2
      have hj : i - X.N.length < vs.length := by
        refine Nat.lt_of_not_le fun z => ?_
        rw [List.getElem?_append_right (by simpa using z)] at e2
        have := List.eq_of_mem_replicate (List.mem_of_getElem? e2)
        cases this
      rw [List.getElem?_append_left (by simpa using hj), List.getElem?_map] at e2
      rw [List.getElem?_append_left (by rw [← hl, ← rv.length]; exact hj)] at e1
      cases q : vs[i - X.N.length]? with
      | none => rw [q] at e2; cases e2
      | some v0 =>
        rw [q] at e2
        cases e2
        obtain ⟨u, hu, r⟩ := rv.get q
        exact ⟨u, r, .inl ⟨L.par y (List.mem_of_getElem? e1), lookup_zip_rev L.nd e1 hu⟩⟩
  · obtain ⟨w', z⟩ := I.cell y c (cm e)
    exact ⟨w', cellK (I.freeC y c (cm e)) z⟩
  · obtain ⟨v, o, ho, hd⟩ := I.cell y c (cm e)
    exact un.free c o ho (I.freeC y c (cm e)) (by simp)
  · show (σ ++ (vs.map some ++ List.replicate ms.length none)).length = (X.N ++ (ps ++ ms)).length
    have := I.len
    have := rv.length
    simp
    omega
end
end Ev

/-! E25: a lambda as a function over data; the def that is handed it; its call. -/
namespace Ev
open PySem PySem.Spec L2
def hideOw (l : List Sl) : List Sl := l.map fun x => match x with
  | .sh d => .sh d
  | _ => .un
/-- the lambda's body, the maker's own lists out of sight; dd: its defaults; nm: names of its blocks -/
def lamF (m : M D) (dd : List D) (nm : Nat) (s : Sx) : Fn := fun ds sto => match m ⟨hideOw s.env ++ ((ds ++ dd).map .sh ++ List.replicate nm .un), sto⟩ with
  | .ok d s' => .rt d s'.sto
  | .exc c ns vs sto => .exc c ns vs sto
  | .bad => .bad
theorem hideOw_get {l : List Sl} {i : Nat} {x : Sl} (h : (hideOw l)[i]? = some x) : x = .un ∨ ∃ d, x = .sh d ∧ l[i]? = some (.sh d) := by
  unfold hideOw at h
  rw [List.getElem?_map] at h
  cases q : l[i]? with
  | none => rw [q] at h; cases h
  | some y =>
    rw [q] at h
    cases y with
    | un => cases h; exact .inl rfl
    | sh d => cases h; exact .inr ⟨d, rfl, rfl⟩
    | ow ys => cases h; exact .inl rfl
    | th => cases h; exact .inl rfl
    | od ks ds => cases h; exact .inl rfl
/-- the frame of what a closure was handed to -/
abbrev Tx.at_ (T : Tx) (io : Io) (G : Hp) (f : Addr) : Tx := { T with io0 := io, G0 := G, clo := f }
section
variable {T : Tx} {x : Gh} {sto : List (List D)} {H : Hp} {io : Io} {G : Hp} {f : Addr}
theorem Bx.low (b : Bx (T.at_ io G f) x sto H) (h : T.io0.Le io ∧ Le T.G0 G) : Bx T x sto H := ⟨b.n, b.at_, b.inU, b.inj, b.sub, b.off, b.trk, b.tab, ⟨h.1.trans b.lo.1, h.2.trans b.lo.2⟩⟩
theorem Bx.rise (b : Bx T x sto H) (h : io.Le x.io ∧ Le G x.G) : Bx (T.at_ io G f) x sto H := ⟨b.n, b.at_, b.inU, b.inj, b.sub, b.off, b.trk, b.tab, h⟩
/-- the maker's state as the lambda sees it later: boxes and tables alone may have changed -/
theorem Ok.hide {y : Gh} {s : Sx} {σ : L2.St} {H' : Hp} {vs : List V} {ds : List D} (k : Ok T x s σ H) (b : Bx T y sto H') (io : x.io.Le y.io) (le : Le x.G y.G) (r : Reps T y.io y.G vs ds) (nm : Nat) :
    Ok T ⟨y.io, y.G, bdU T y ⟨[], sto⟩⟩ ⟨hideOw s.env ++ (ds.map .sh ++ List.replicate nm .un), sto⟩ (σ ++ (vs.map some ++ List.replicate nm none)) H' := by
  have hl : (hideOw s.env).length = σ.length := by simpa [hideOw] using k.len
  have ge : ∀ (i : Nat) (sl : Sl), (hideOw s.env ++ (ds.map .sh ++ List.replicate nm .un))[i]? = some sl → sl = .un ∨ ∃ d v, sl = .sh d ∧ (σ ++ (vs.map some ++ List.replicate nm none))[i]? = some (some v) ∧ Rep T y.io y.G v d := fun i sl e => by
    by_cases hi : i < (hideOw s.env).length
    · rw [List.getElem?_append_left hi] at e
      rw [List.getElem?_append_left (by rw [← hl]; exact hi)]
      rcases hideOw_get e with z | ⟨d, rfl, z⟩
      · exact .inl z
      · obtain ⟨v, h1, h2⟩ := k.sh i d z
        exact .inr ⟨d, v, rfl, h1, h2.mono io le⟩
    · rw [List.getElem?_append_right (by omega)] at e
      rw [List.getElem?_append_right (by omega), ← hl]
      by_cases hj : i - (hideOw s.env).length < ds.length
      · rw [List.getElem?_append_left (by simpa using hj), List.getElem?_map] at e
        rw [List.getElem?_append_left (by simpa [r.length] using hj), List.getElem?_map]
        cases q : ds[i - (hideOw s.env).length]? with
        | none => rw [q] at e; cases e
        | some d =>
          rw [q] at e
          cases e
          obtain ⟨v, h1, h2⟩ := r.get q
          exact .inr ⟨d, v, rfl, by rw [h1]; rfl, h2⟩
      · rw [List.getElem?_append_right (by simpa using hj)] at e
        exact .inl (List.eq_of_mem_replicate (List.mem_of_getElem? e))
  refine ⟨⟨b.n, b.at_, fun i hi => .inl ⟨i, hi, rfl⟩, b.inj, b.sub, fun a o e z => b.off a o e (bd_U (s := ⟨[], sto⟩) b z), fun a z => b.trk a (bd_U (s := ⟨[], sto⟩) b z), fun p hp => ⟨.inr ⟨p, hp, rfl⟩, (b.tab p hp).2⟩, b.lo⟩, ?_, fun i d e => ?_, fun i xs e => ?_, fun i j xs ys a e1 e2 => ?_, fun i e => ?_, .non fun i ks ds e => (by rcases ge i _ e with z | ⟨d', v, z, h1, h2⟩ <;> cases z)⟩
  · show (hideOw s.env ++ (ds.map Sl.sh ++ List.replicate nm Sl.un)).length = _
    simp [hl, r.length]
  · rcases ge i _ e with z | ⟨d', v, z, h1, h2⟩
    · cases z
    · cases z; exact ⟨v, h1, h2⟩
  · rcases ge i _ e with z | ⟨d', v, z, h1, h2⟩ <;> cases z
  · rcases ge i _ e1 with z | ⟨d', v, z, h1, h2⟩ <;> cases z
  · rcases ge i _ e with z | ⟨d', v, z, h1, h2⟩ <;> cases z
end
/-- what a lambda binds: n values written, its defaults behind them -/
def BindOk (params : Arguments) (body : Expr) (scope : Scope) (ps : List Str) (n nd : Nat) : Prop := ∀ (q : Str) (cl : List (Str × Addr)) (pm cdv ctv : Value) (us its : List Value), us.length = n → its.length = nd →
  (nd = 0 → bindArgs (lamFn q params body scope cl .none pm cdv ctv) ⟨us, []⟩ = pure (ps.zip us)) ∧ ∀ dt : Addr, ∃ k, bindArgs (lamFn q params body scope cl (.ref dt) pm cdv ctv) ⟨us, []⟩ = seqItems? (.ref dt) >>= k ∧ k (some its.toArray) = pure (ps.zip (us ++ its))
/-- a closure's promise, from the state at which it was handed on -/
structure Act (T : Tx) (P : Program) (w : World) (K : PySem.W.Frag) (mg : Str → Option Value) (base : Heap) (stk : List Env) (H0 : Hp) (h0 : Heap) (k : Nat) (f : Addr) (n : Nat) (th : Fn) : Prop where
  fn : PySem.W.FnAt f h0
  hf : H0 f = none
  nfr : f ∉ frs stk
  run : ∀ (A : Around) (outer : List Env) (s1 : Shared) (HZ : Hp) (us : List Value) (vs : List V) (Q : VK) (E : XK), A.guards = some [] → Room (k + 1) A → Env0 P w K mg base A outer s1 HZ → Un (frs stk) [] H0 HZ h0 s1.heap → Vals vs us → spD T n th vs HZ Q E →
    codeAny (model P w) A (.call (.ref f) ⟨us, []⟩) (CR (L2.CX P w) outer P w HZ s1 Q E) s1
section
variable {T : Tx} {X : Cx} {pins : List (Addr × Obj)} {σ : L2.St} {H : Hp} {s : Shared} {x : Gh} {sx : Sx} {params : Arguments} {body : Expr} {scope : Scope} {ps ms : List Str} {f c' : Addr} {dV pm ctv : Value} {ud : List Value} {dvs : List V} {dd : List D} {m : M D} {kl n : Nat}
theorem act_of (hK : X.K = T.K) (hw : X.w = T.w) (I : L2.Inv X pins σ H s) (k : Ok T x sx σ H) (L : LamP X.N X.env.scope scope ps) (hf : s.heap.get? f = some (lamO (X.env.qual ++ "<lambda>") params body scope (cloFrom X.env.cells scope.names []) dV pm (.ref c') ctv)) (hfn : H f = none) (hfr : f ∉ frs X.stack)
    (hc : x.G c' = some (LamX.CodeO c' (X.env.qual ++ "<lambda>"))) (rd : Vals dvs ud) (rD : ∀ io G, Reps T io G dvs dd) (hd : DflAt s.heap H (frs X.stack) dV ud) (bok : BindOk params body scope ps n dvs.length) (hn : n + dvs.length = ps.length)
    (hbody : ∀ (A : Around) (outer : List Env) (s1 : Shared) (HZ : Hp) (E : XK), A.guards = some [] → Room kl (A.deeper (LamX.lamEnv X scope s1.heap.objs.size f c')) → Takes (lamX X (X.N ++ (ps ++ ms)) A outer s1 HZ E scope f c') (fun cls d _ H => E cls d H) →
      PE (lamX X (X.N ++ (ps ++ ms)) A outer s1 HZ E scope f c') body (tD T (fun cls d _ H => E cls d H) m)) :
    Act (T.at_ x.io x.G f) X.prog X.w X.K X.mg X.base X.stack H s.heap kl f n (lamF m dd ms.length sx) where
  fn := ⟨_, _, _, _, hf⟩
  hf := hfn
  nfr := hfr
  run := fun A outer s1 HZ us vs Q E gd hr e0 un rv ⟨y, ds, sto, b, hu, r, hl, h⟩ => by
    have bT := b.low k.bx.lo
    have kp1 : ∀ {a : Addr} {o : Obj}, s.heap.get? a = some o → H a = none → a ∉ frs X.stack → s1.heap.get? a = some o := fun {a o} e n1 n2 => un.keep a o e n1 n2 (by simp)
    have of1 := kp1 hf hfn hfr
    obtain ⟨⟨oc, cvs, t, hoc, hdc, hvc⟩, _, _⟩ := e0.hok c' _ (bT.sub c' _ (b.lo.2 c' _ hc))
    have hus : us.length = n := rv.length.symm.trans hl
    have hbind : BindsTo s1 (lamFn (X.env.qual ++ "<lambda>") params body scope (cloFrom X.env.cells scope.names []) dV pm (.ref c') ctv) ⟨us, []⟩ (ps.zip (us ++ ud)) := by
      have bk := bok (X.env.qual ++ "<lambda>") (cloFrom X.env.cells scope.names []) pm (.ref c') ctv us ud hus rd.length.symm
      rcases hd with ⟨rfl, rfl⟩ | ⟨_, dt, rfl, e1, e2, e3⟩
      · rw [List.append_nil]
        exact .of_eq (bk.1 rd.length)
      · obtain ⟨kk, e4, e5⟩ := bk.2 dt
        refine L2.BindsTo.of_looks fun M => ?_
        rw [e4]
        exact fun A' Q' E' s' kp q => wpAny_bind (wpAny_seqItems (kp _ _ (kp1 e1 e2 e3)) rfl (by rw [e5]; exact wpAny_pure q))
    refine PySem.W.kla_callFunE hr.depth of1 rfl L.co L.gen rfl ⟨c', oc, cvs, t, rfl, hoc, hdc, hvc⟩ (hbind _ _ _ _ (wpAny_newFunctionEnv L.nocell (fun z hz => L.par z.1 (List.of_mem_zip hz).1) (fun h1 hns hsb => ⟨e0.mod.nolimit.keeps (fun b o e => (e0.bs b o e).1) |>.fresh _ hsb, ?_⟩) L.kind))
    have kp : ∀ b o, s1.heap.get? b = some o → h1.get? b = some o := fun b o e => hsb.extBut b o (Nat.ne_of_lt (Heap.lt_size e)) (Heap.get?_push_of_some _ e)
    have J := lam_start (tk := s1.toks + (ps.zip (us ++ ud)).length) (ms := ms) (f := f) (c' := c') (E := E) I L e0 hr.hd un hns kp (rv.append rd) (by rw [List.length_append, hus, ← rd.length, hn])
    refine PySem.W.kla_codeExpr (wpAny_mono ((hbody A outer s1 HZ E gd (hr.deeper _) (takes_of rfl rfl rfl rfl)).run [] _ _ HZ Q J ?_) (fun v s' hq => ?_) fun e s' hq => hq)
    · have kk := k.hide (sto := sto) bT b.lo.1 b.lo.2 (r.append (rD _ _)) ms.length
      refine ⟨_, _, kk, ?_⟩
      have h : FinF (T.at_ x.io x.G f) Q E y HZ (lamF m dd ms.length sx ds sto) := h
      unfold lamF at h
      have back : ∀ {z : Gh} {H' : Hp}, Stp ⟨y.io, y.G, bdU T y ⟨[], sto⟩⟩ HZ z H' → Stp y HZ z H' := fun {z H'} st => ⟨st.io, st.le, fun a o e nu => st.fr a o e fun q => nu (bd_U (s := ⟨[], sto⟩) bT q), fun a o e => by
        rcases st.new a o e with q | q | q
        · exact .inl q
        · exact .inr (.inl (bd_U (s := ⟨[], sto⟩) bT q))
        · exact .inr (.inr q), fun a u => (st.un a u).imp (fun q => bd_U (s := ⟨[], sto⟩) bT q) id, st.th⟩
      cases em : m ⟨hideOw sx.env ++ ((ds ++ dd).map .sh ++ List.replicate ms.length .un), sto⟩ with
      | ok d s' =>
        rw [em] at h
        exact fun x' v H' k' st r' => h x' v H' (k'.bx.rise ⟨b.lo.1.trans st.io, b.lo.2.trans st.le⟩) (back st) r'
      | exc c ns vs' sto' =>
        rw [em] at h
        exact fun x' dz uz H' b' st xd => h x' dz uz H' (b'.rise ⟨b.lo.1.trans st.io, b.lo.2.trans st.le⟩) (back st) ⟨xd.at_, xd.hl, xd.rs, xd.new, xd.nu, xd.ng⟩
      | bad => rw [em] at h; exact h.elim
    · obtain ⟨w', H', J', rv', q⟩ := hq
      exact ⟨w', H', J'.os, J'.bare, J'.base, J'.hok, rv', q⟩
end
end Ev

/-! E26: the call of the closure that was handed in; the def that is handed it; the maker's call. -/
namespace Ev
open PySem PySem.Spec L2
/-- a(..): slot i holds the closure -/
def mAsk (i : Nat) (th : Fn) (ml : M (List D)) : M D := fun s => match s.env[i]? with
  | some .th => mCall th ml s
  | _ => .bad
section
variable {T : Tx} {W : WX} {P : Program} {w : World} {K : PySem.W.Frag} {mg : Str → Option Value} {base : Heap} {N : List Str} {qual a : Str} {scope : Scope} {g : Addr} {cdv : Value} {A : Around} {outer : List Env} {s0 : Shared} {H0 : Hp} {E0 : XK} {pn : List (Addr × Obj)} {xe : Value → Shared → Prop}
  {k n i : Nat} {f : Addr} {th : Fn} {es : List Expr} {ml : M (List D)} {p1 p2 : Pos}
abbrev hearX (P : Program) (w : World) (K : PySem.W.Frag) (mg : Str → Option Value) (base : Heap) (N : List Str) (qual : Str) (scope : Scope) (g : Addr) (cdv : Value) (A : Around) (outer : List Env) (s0 : Shared) (H0 : Hp) (E0 : XK) (pn : List (Addr × Obj)) (xe : Value → Shared → Prop) : Cx :=
  (cxOf (L2.CX P w) P w K mg base N qual scope g cdv A outer s0 H0 E0).tr pn xe
theorem de_ask (act : Act T P w K mg base outer H0 s0.heap k f n th) (hclo : T.clo = f) (hi : N[i]? = some a) (hv : Vis scope a) (gd : A.guards = some []) (hr : Room (k + 1) (A.deeper (PyProof.Rows.envOfC qual scope s0.heap.objs.size g cdv)))
    (tk : Takes (hearX P w K mg base N qual scope g cdv A outer s0 H0 E0 pn xe) W) (ha : PA (hearX P w K mg base N qual scope g cdv A outer s0 H0 E0 pn xe) es (tDs T W ml)) (hlen : ∀ s ds s', ml s = .ok ds s' → ds.length = n)
    (hsp : es = [] ∨ ∃ e r, es = e :: r ∧ starEach (e :: r) (PyProof.Rows.envOfC qual scope s0.heap.objs.size g cdv) = (false, eval e (PyProof.Rows.envOfC qual scope s0.heap.objs.size g cdv)) :: starEach r (PyProof.Rows.envOfC qual scope s0.heap.objs.size g cdv) ∧ (backTo p2 (starEach r (PyProof.Rows.envOfC qual scope s0.heap.objs.size g cdv))).any (·.1) = false := by exact .inl rfl)
    (hd : (a == ("__debug__" : Str)) = false := by decide) (hcd : (a == ("__classdict__" : Str)) = false := by decide) :
    PE (hearX P w K mg base N qual scope g cdv A outer s0 H0 E0 pn xe) (.Call (.Name a p1) es [] p2) (tD T W (mAsk i th ml)) := by
  refine ⟨fun pins s σ H Q I h => ?_⟩
  obtain ⟨x, sx, ok, h⟩ := h
  unfold mAsk at h
  cases q : sx.env[i]? with
  | none => rw [q] at h; exact h.elim
  | some sl =>
    cases sl with
    | un => rw [q] at h; exact h.elim
    | sh d => rw [q] at h; exact h.elim
    | ow d => rw [q] at h; exact h.elim
    | od ks ds => rw [q] at h; exact h.elim
    | th =>
      rw [q] at h
      have hs := ok.th i q
      rw [hclo] at hs
      refine wpAny_Call_Name_kw (thn ((pe_var (pos := p1) (i := i) hi hv hd hcd).run pins s σ H (fun v H1 => v = .ref f ∧ H1 = H) I ⟨.ref f, hs, rfl, rfl⟩) fun u s1 hh => ?_)
      obtain ⟨v, H1, I1, r1, e1, e2⟩ := hh
      subst e1 e2
      cases r1
      have fnAt : ∀ {s2 : Shared} {H2 : Hp}, L2.Inv (hearX P w K mg base N qual scope g cdv A outer s0 H0 E0 pn xe) pins σ H2 s2 → PySem.W.FnAt f s2.heap := fun {s2 H2} J => by
        obtain ⟨a1, a2, a3, a4, z⟩ := act.fn
        exact ⟨a1, a2, a3, a4, J.base.keep f _ z act.hf act.nfr (fun z => nomatch (show f ∈ ([] : List Addr) from z))⟩
      unfold mCall M.bind at h
      have fin : ∀ {s2 : Shared} {H2 : Hp} {us : List Value} {vs : List V} {y : Gh} {sy : Sx} {ds : List D}, L2.Inv (hearX P w K mg base N qual scope g cdv A outer s0 H0 E0 pn xe) pins σ H2 s2 → Vals vs us → Ok T y sy σ H2 → Stp x H1 y H2 → Reps T y.io y.G vs ds → ml sx = .ok ds sy →
          wpAny (model P w) (A.deeper (PyProof.Rows.envOfC qual scope s0.heap.objs.size g cdv)) (call (.ref f) us) (EP (hearX P w K mg base N qual scope g cdv A outer s0 H0 E0 pn xe) pins σ Q) xe s2 := fun {s2 H2 us vs y sy ds} I2 rv k2 st2 r2 em => by
        rw [em] at h
        simp only at h
        refine wpAny_call (codeAny_mono (act.run _ _ s2 H2 us vs Q (WE W σ) gd hr I2.env0 I2.base rv (call_read k2 r2 (by rw [r2.length]; exact hlen _ _ _ em) ?_)) fun r s' hq => ?_)
        · cases e2 : th ds sy.sto with
          | rt d sto => rw [e2] at h; exact fun x3 v H3 k3 st3 r3 => h x3 v H3 k3 (st2.trans st3) r3
          | ro xs sto =>
            rw [e2] at h
            intro x3 a3 H3 k3 st3 o
            obtain ⟨x4, k4, st4, r4⟩ := o.share k3
            exact h x4 _ H3 k4 (st2.trans (st3.trans st4)) r4
          | exc c ns vs sto => rw [e2] at h; exact h.back st2
          | nx _ => rw [e2] at h; exact h.elim
          | bk _ => rw [e2] at h; exact h.elim
          | ct _ => rw [e2] at h; exact h.elim
          | bad => rw [e2] at h; exact h.elim
        · match r, hq with
          | .error e, hq => exact passAt tk σ pins H2 s2 e s' I2 hq
          | .ok (.ret u), hq => exact I2.after hq
      have hml : tDs T W ml σ H1 fun vs H2 => ∃ y sy ds, Ok T y sy σ H2 ∧ Stp x H1 y H2 ∧ Reps T y.io y.G vs ds ∧ ml sx = .ok ds sy := by
        refine ⟨x, sx, ok, ?_⟩
        cases em : ml sx with
        | ok ds sy => exact fun y vs H2 k2 st2 r2 => ⟨y, sy, ds, k2, st2, r2, rfl⟩
        | exc c ns vs sto => rw [em] at h; exact h
        | bad => rw [em] at h; exact h
      have hrun := ha.run p2 pins s1 σ H1 _ I1 hml
      rcases hsp with rfl | ⟨e, r, rfl, h1, h2⟩
      · refine PySem.W.callWith_F0 (fnAt I1) ?_
        have hx := ha.run p2 pins s1 σ H1 (fun vs H2 => ∃ y sy ds, Ok T y sy σ H2 ∧ Stp x H1 y H2 ∧ Reps T y.io y.G vs ds ∧ ml sx = .ok ds sy) I1 hml
        have hz : wpAny (model P w) (A.deeper (PyProof.Rows.envOfC qual scope s0.heap.objs.size g cdv)) (spliced [] >>= fun us => call (.ref f) us) (EP (hearX P w K mg base N qual scope g cdv A outer s0 H0 E0 pn xe) pins σ Q) xe s1 :=
          wpAny_bind (thn hx fun us s2 ⟨vs, H2, I2, rv, y, sy, ds, k2, st2, r2, em⟩ => fin I2 rv k2 st2 r2 em)
        exact hz
      · exact PySem.W.callWith_F (fnAt I1) (thn hrun fun us s2 ⟨vs, H2, I2, rv, y, sy, ds, k2, st2, r2, em⟩ => ⟨fnAt I2, fin I2 rv k2 st2 r2 em⟩) h1 h2
end
/-- the promise of a def whose last argument is a closure -/
def spL (T : Tx) (f : Addr) (n : Nat) (F : Fn) : Sp := fun vs H Q E => ∃ (x : Gh) (vs0 : List V) (ds : List D) (sto : List (List D)), Bx T x sto H ∧ (∀ a, x.U a → (∃ i, i < sto.length ∧ a = x.io.f i) ∨ ∃ p ∈ T.tb, a = p.1) ∧ vs = vs0 ++ [.ref f] ∧ Reps T x.io x.G vs0 ds ∧ vs.length = n ∧ FinF T Q E x H (F ds sto)
def bodyL (n : Nat) (m : MS) : Fn := fun ds sto => match m ⟨ds.map .sh ++ (.th :: List.replicate (n - ds.length - 1) .un), sto⟩ with
  | .nx s => .rt .non s.sto
  | .bk _ => .bad
  | .ct _ => .bad
  | r => r
/-- such a def of the text; n: how many arguments it gives the closure -/
structure LamOk (T : Tx) (P : Program) (mg : Str → Option Value) (base : Heap) (y : Str) (ps : List Str) (n : Nat) (F : Fn → Fn) : Prop where
  ex : ∃ (g : Addr) (fd : FuncData), mg y = some (.ref g) ∧ PySem.W.keepIn T.K (.ref g) = true ∧ Binds T.K fd ps [] ∧
    ∀ (A : Around) (outer : List Env) (s : Shared) (H : Hp) (args : Args) (us : List Value) (vs : List V) (Q : VK) (E : XK) (f : Addr) (io : Io) (G : Hp) (kl : Nat) (th : Fn), A.guards = some [] → Room (kl + 3) A → Env0 P T.w T.K mg base A outer s H → BindsTo s fd args (ps.zip us) → Vals vs us →
      Act (T.at_ io G f) P T.w T.K mg base outer H s.heap kl f n th → spL (T.at_ io G f) f ps.length (F th) vs H Q E → codeAny (model P T.w) A (.call (.ref g) args) (CR (L2.CX P T.w) outer P T.w H s Q E) s
section
variable {T : Tx} {P : Program} {mg : Str → Option Value} {base : Heap} {y qual : Str} {params : Arguments} {body : List Stmt} {scope : Scope} {g : Addr} {fd : FuncData} {N ps : List Str} {n : Nat} {m : Fn → MS}
theorem Bx.startL {x : Gh} {ds : List D} {sto : List (List D)} {H : Hp} {vs : List V} {f : Addr} {nn : Nat} (b : Bx T x sto H) (r : Reps T x.io x.G vs ds) (hc : T.clo = f) (hn : nn = N.length) (hl : vs.length + 1 ≤ nn) : Ok T x ⟨ds.map .sh ++ (.th :: List.replicate (nn - ds.length - 1) .un), sto⟩ (L2.start N (vs ++ [.ref f])) H := by
  have hlen := r.length
  have ge : ∀ (i : Nat) (sl : Sl), (ds.map Sl.sh ++ (.th :: List.replicate (nn - ds.length - 1) .un))[i]? = some sl → sl = .un ∨ (sl = .th ∧ i = ds.length) ∨ ∃ d, sl = .sh d ∧ ds[i]? = some d := fun i sl e => by
    by_cases hi : i < ds.length
    · rw [List.getElem?_append_left (by simpa using hi), List.getElem?_map] at e
      cases q : ds[i]? with
      | none => rw [q] at e; cases e
      | some d => rw [q] at e; exact .inr (.inr ⟨d, (Option.some.inj e).symm, rfl⟩)
    · rw [List.getElem?_append_right (by simpa using hi)] at e
      by_cases h0 : i = ds.length
      · subst h0
        simp at e
        exact .inr (.inl ⟨e.symm, rfl⟩)
      · obtain ⟨j, hj⟩ : ∃ j, i - (ds.map Sl.sh).length = j + 1 := ⟨i - ds.length - 1, by simp; omega⟩
        rw [hj] at e
        exact .inl (List.eq_of_mem_replicate (List.mem_of_getElem? e))
  have st0 : ∀ (i : Nat) (v : V), vs[i]? = some v → (L2.start N (vs ++ [.ref f]))[i]? = some (some v) := fun i v e => by
    have hv : i < vs.length := (List.getElem?_eq_some_iff.mp e).1
    unfold L2.start
    rw [List.getElem?_append_left (by simp; omega), List.getElem?_map, List.getElem?_append_left hv, e]
    rfl
  refine ⟨b, by simp [L2.start, hlen, hn] <;> omega, fun i d e => ?_, fun i xs e => ?_, fun i j xs ys a e1 e2 => ?_, fun i e => ?_, .non fun i ks ds e => (by rcases ge i _ e with z | ⟨z, _⟩ | ⟨d', z, q⟩ <;> cases z)⟩
  · rcases ge i _ e with z | ⟨z, _⟩ | ⟨d', z, q⟩
    · cases z
    · cases z
    · cases z
      obtain ⟨v, h1, h2⟩ := r.get q
      exact ⟨v, st0 i v h1, h2⟩
  · rcases ge i _ e with z | ⟨z, _⟩ | ⟨d', z, q⟩ <;> cases z
  · rcases ge i _ e1 with z | ⟨z, _⟩ | ⟨d', z, q⟩ <;> cases z
  · rcases ge i _ e with z | ⟨_, rfl⟩ | ⟨d', z, q⟩
    · cases z
    · unfold L2.start
      rw [List.getElem?_append_left (by simp; omega), List.getElem?_map, List.getElem?_append_right (by omega), ← hlen, hc]
      simp
    · cases z
theorem lam_ok (F : FunD T.K y qual params body scope [] [] g fd) (hm : mg y = some (.ref g)) (S : FnScope N ps scope) (hN : ps.length ≤ N.length)
    (hb : ∀ (kV doc pm : Value) (an : Option Addr) (cdv ct : Value) (us : List Value), us.length = ps.length → bindArgs (PySem.W.fnOf y qual params body scope .none kV doc pm an cdv ct) ⟨us, []⟩ = pure (ps.zip us))
    (hbody : ∀ (cdv : Value) (A : Around) (outer : List Env) (s : Shared) (H : Hp) (E : XK) (f : Addr) (io : Io) (G : Hp) (kl : Nat) (th : Fn), A.guards = some [] → Room (kl + 2) (A.deeper (PyProof.Rows.envOfC qual scope s.heap.objs.size g cdv)) →
      Act (T.at_ io G f) P T.w T.K mg base outer H s.heap kl f n th →
      Takes (cxOf (L2.CX P T.w) P T.w T.K mg base N qual scope g cdv A outer s H E) (fun cls d _ H => E cls d H) →
      PSs (cxOf (L2.CX P T.w) P T.w T.K mg base N qual scope g cdv A outer s H E) body (tS (T.at_ io G f) (fun cls d _ H => E cls d H) (m th))) : LamOk T P mg base y ps n (fun th => bodyL N.length (m th)) := by
  refine ⟨g, fd, hm, F.kp, F.bindsN hb, fun A outer s H args us vs Q E f io G kl th gd hr e0 hbind rv act hsp => ?_⟩
  obtain ⟨oc, od, dV, kV, doc, pm, an, cdv, ct, osl, rfl, lk, hcd, _, _⟩ := F.ex
  obtain ⟨x, vs0, ds, sto, b, hu, rfl, r, hl, h⟩ := hsp
  refine LamX.run_ofS (N := N) (ps := ps) (us := us) (vs := vs0 ++ [.ref f]) lk hcd S hr e0 hbind rv hl fun hr' => ⟨_, hbody cdv A outer s H E f io G kl th gd hr' act (takes_of rfl rfl rfl rfl), ?_⟩
  have hl' : vs0.length + 1 ≤ N.length := by
    rw [List.length_append] at hl
    simp at hl
    omega
  refine ⟨x, _, b.startL r rfl rfl hl', ?_⟩
  unfold bodyL at h
  cases e : m th ⟨ds.map .sh ++ (.th :: List.replicate (N.length - ds.length - 1) .un), sto⟩ with
  | nx s' => rw [e] at h; exact fun x' σ' H' k' st => h x' .non H' k'.bx st .non
  | bk _ => rw [e] at h; exact h.elim
  | ct _ => rw [e] at h; exact h.elim
  | rt d sto => rw [e] at h; exact h
  | ro xs sto => rw [e] at h; exact h
  | exc c ns vs sto => rw [e] at h; exact fun σ' x' dd us H' b' st xd => h x' dd us H' b' st xd
  | bad => rw [e] at h; exact h.elim
end
/-- y(.., lambda) -/
def mLam (F : Fn → Fn) (lf : Sx → Fn) (ml : M (List D)) : M D := M.bind ml fun ds s => match F (lf s) ds s.sto with
  | .rt d sto => .ok d { s with sto := sto }
  | .ro xs sto => .ok (.lst xs) { s with sto := sto }
  | .exc c ns vs sto => .exc c ns vs sto
  | _ => .bad
section
variable {T : Tx} {W : WX} {X : Cx} {y : Str} {ps lps ms : List Str} {n kl : Nat} {F : Fn → Fn} {c Pt : Addr} {params : Arguments} {body : Expr} {scope : Scope} {es : List Expr} {dvs : List V} {dd : List D} {m : M D} {p lpos pos : Pos}
theorem de_lam (d : LamOk T X.prog X.mg X.base y [ps.headD ""] n F) (hK : X.K = T.K) (hw : X.w = T.w) (tk : Takes X W) (gd : X.A.guards = some []) (hr : Room (kl + 3) X.A) (hg : Gl X y) (TB : LamX.TabB X.base X.mg c Pt) (hcode : X.env.code = .ref c)
    (hm : (Pt, X.env.qual ++ "<lambda>") ∈ T.tb) (hu : ∀ p ∈ T.tb, p.1 = Pt → p.2 = X.env.qual ++ "<lambda>") (hdef : defaultsOf params X.env = (evalEach es X.env, [])) (dfl : Dfl X es dvs) (rD : ∀ io G, Reps T io G dvs dd) (L : LamP X.N X.env.scope scope lps) (bok : BindOk params body scope lps n dvs.length) (hn : n + dvs.length = lps.length)
    (hbody : ∀ (A : Around) (outer : List Env) (s1 : Shared) (HZ : Hp) (E : XK) (f c' : Addr), A.guards = some [] → Room kl (A.deeper (LamX.lamEnv X scope s1.heap.objs.size f c')) → Takes (lamX X (X.N ++ (lps ++ ms)) A outer s1 HZ E scope f c') (fun cls d _ H => E cls d H) →
      PE (lamX X (X.N ++ (lps ++ ms)) A outer s1 HZ E scope f c') body (tD T (fun cls d _ H => E cls d H) m)) (hdb : (y == ("__debug__" : Str)) = false := by decide) :
    PE X (.Call (.Name y p) [.Lambda params body scope lpos] [] pos) (tD T W (mLam F (lamF m dd ms.length) mNil)) := by
  obtain ⟨g, fd, hmg, hk, hb, run⟩ := d.ex
  rw [← hK] at hk hb
  refine ⟨fun pins s σ H Q I h => ?_⟩
  obtain ⟨x, sx, k, h⟩ := h
  refine wpAny_Call_Name_kw (ld_glob I hg hmg ?_ hdb)
  refine PySem.W.callWith_K (h₀ := X.base) I.ok.mod.kin hk ?_ (by rfl) (by rfl)
  show wpAny _ _ (spliced ((false, eval (.Lambda params body scope lpos) X.env) :: backTo pos (starEach [] X.env))) _ _ s
  refine Calls.spliced_cons (lam_make I k.bx TB hcode hm hu hdef dfl (L.has I.ok) fun f c' dV pm ctv us H1 s' x1 I1 b1 st1 io1 hu1 eN hf hfn hfr hco rv hd => ?_)
  refine Calls.spliced_nil ⟨I1.kIn, ?_⟩
  have k1 := k.tabled b1 io1 st1.le hu1 eN
  have act := act_of (kl := kl) (ms := ms) (m := m) hK hw I1 k1 L hf hfn hfr hco rv rD hd bok hn fun A outer s1 HZ E g1 g2 g3 => hbody A outer s1 HZ E f c' g1 g2 g3
  rw [hK, hw] at act
  have e0 := I1.env0
  rw [hK, hw] at e0
  have hbd : BindsTo s' fd ⟨[.ref f], []⟩ ([ps.headD ""].zip [.ref f]) := by
    have := hb s' [.ref f] I1.kIn rfl
    simpa using this
  have rc := run X.A X.stack s' H1 ⟨[.ref f], []⟩ [.ref f] [.ref f] Q (WE W σ) f x1.io x1.G kl (lamF m dd ms.length sx) gd hr e0 hbd (.cons rfl .nil) act ?_
  · rw [← hw] at rc
    refine wpAny_call (codeAny_mono rc fun r s2 hq => ?_)
    match r, hq with
    | .error e, hq => exact passAt tk σ pins H1 s' e s2 I1 hq
    | .ok (.ret u), hq => exact I1.after hq
  · have bb := bx_call k1
    refine ⟨⟨x1.io, x1.G, bdU T x1 sx⟩, [], [], sx.sto, bb.rise ⟨.refl _, .refl _⟩, fun a z => z, rfl, .nil, rfl, ?_⟩
    have h : (match mLam F (lamF m dd ms.length) mNil sx with
      | .ok d s' => ∀ x' v H', Ok T x' s' σ H' → Stp x H x' H' → Rep T x'.io x'.G v d → Q v H'
      | .exc c ns vs sto => XP T W x σ H c ns vs sto
      | .bad => False) := h
    have em : mLam F (lamF m dd ms.length) mNil sx = match F (lamF m dd ms.length sx) [] sx.sto with
      | .rt d sto => .ok d { sx with sto := sto }
      | .ro xs sto => .ok (.lst xs) { sx with sto := sto }
      | .exc c ns vs sto => .exc c ns vs sto
      | _ => .bad := rfl
    rw [em] at h
    cases e : F (lamF m dd ms.length sx) [] sx.sto with
    | rt d sto =>
      rw [e] at h
      intro x' v H' b st r'
      obtain ⟨k2, st2⟩ := k1.after (b.low k1.bx.lo) st
      exact h _ v H' k2 (st1.trans st2) r'
    | ro xs sto =>
      rw [e] at h
      intro x' a H' b st o
      have o' : Own T x' ⟨[], sto⟩ [] H' a xs := ⟨o.u, o.l, o.b, fun i ys z => by simp at z⟩
      obtain ⟨k2, st2⟩ := k1.after (b.low k1.bx.lo) st
      obtain ⟨x3, k3, st3, r3⟩ := (k1.afterOwn (b.low k1.bx.lo) st o').share k2
      exact h x3 _ H' k3 (st1.trans (st2.trans st3)) r3
    | exc c ns vs sto =>
      rw [e] at h
      intro x' dz uz H' b st xd
      obtain ⟨k2, st2⟩ := k1.after (b.low k1.bx.lo) st
      exact h _ dz uz H' k2.bx (st1.trans st2) ⟨xd.at_, xd.hl, xd.rs, st1.th _ xd.new, fun u => by
        rcases u with u | u
        · obtain ⟨o, z⟩ := k1.bx.trk dz u
          rw [xd.new] at z; cases z
        · exact xd.nu u, xd.ng⟩
    | nx _ => rw [e] at h; exact h.elim
    | bk _ => rw [e] at h; exact h.elim
    | ct _ => rw [e] at h; exact h.elim
    | bad => rw [e] at h; exact h.elim
end
end Ev

/-! E27: calls with keywords and defaults; {}; what the head tells of classes and tables. -/
namespace Ev
open PySem PySem.Spec L2
/-! ### keywords, defaults -/
def pick {α : Type} (l : List α) (idx : List Nat) : List α := idx.filterMap fun i => l[i]?
theorem pick_vals {xs : List V} {us : List Value} (r : Vals xs us) : ∀ idx : List Nat, Vals (pick xs idx) (pick us idx)
  | [] => .nil
  | i :: is => by
    have ih := pick_vals r is
    unfold pick at ih ⊢
    rw [List.filterMap_cons, List.filterMap_cons]
    cases e : xs[i]? with
    | none =>
      have : us[i]? = none := by
        rw [List.getElem?_eq_none_iff] at e ⊢
        rw [← r.length]; exact e
      rw [this]; exact ih
    | some x =>
      obtain ⟨u, hu, hr⟩ := r.get e
      rw [hu]; exact .cons hr ih
theorem pick_reps {T : Tx0} {io : Io} {G : Hp} {xs : List V} {us : List D} (r : Reps T io G xs us) : ∀ idx : List Nat, Reps T io G (pick xs idx) (pick us idx)
  | [] => .nil
  | i :: is => by
    have ih := pick_reps r is
    unfold pick at ih ⊢
    rw [List.filterMap_cons, List.filterMap_cons]
    cases e : xs[i]? with
    | none =>
      have : us[i]? = none := by
        rw [List.getElem?_eq_none_iff] at e ⊢
        rw [← r.length]; exact e
      rw [this]; exact ih
    | some x =>
      obtain ⟨u, hu, hr⟩ := r.get' e
      rw [hu]; exact .cons hr ih
def mPick (idx : List Nat) (dz : List D) (ml mk : M (List D)) : M (List D) := M.bind ml fun us => M.bind mk fun ws => M.pure (pick (us ++ dz ++ ws) idx)
/-- a call's shape: n values, the keywords ks, the defaults: what is bound -/
def KShape (dd : He.DefD) (ps : List Str) (n : Nat) (ks : List Str) (idx : List Nat) : Prop := ∀ (dt : Addr) (kV doc pm : Value) (an : Option Addr) (cdv ct : Value) (us its ws : List Value), us.length = n → its.length = dd.dfl.length → ws.length = ks.length →
  (dd.dfl = [] → bindArgs (PySem.W.fnOf dd.name dd.qual dd.params dd.body dd.scope .none kV doc pm an cdv ct) ⟨us, ks.zip ws⟩ = pure (ps.zip (pick (us ++ its ++ ws) idx))) ∧
  (dd.dfl ≠ [] → ∃ k, bindArgs (PySem.W.fnOf dd.name dd.qual dd.params dd.body dd.scope (.ref dt) kV doc pm an cdv ct) ⟨us, ks.zip ws⟩ = seqItems? (.ref dt) >>= k ∧ k (some its.toArray) = pure (ps.zip (pick (us ++ its ++ ws) idx)))
/-- what a keyword call binds, over the data's own text -/
structure KBd (K : PySem.W.Frag) (fd : FuncData) (ps : List Str) (n : Nat) (ks : List Str) (dvs : List V) (idx : List Nat) : Prop where
  to : ∃ its : List Value, Vals dvs its ∧ ∀ (s : Shared) (us ws : List Value), K.In s.heap → us.length = n → ws.length = ks.length → BindsTo s fd ⟨us, ks.zip ws⟩ (ps.zip (pick (us ++ its ++ ws) idx))
section
variable {T : Tx} {W : WX} {X : Cx} {dd : He.DefD} {ps ks : List Str} {F : Fn} {k0 n : Nat} {idx : List Nat} {es : List Expr} {kws : List Keyword} {ml mk : M (List D)} {dz : List D} {pos p : Pos} {fd : FuncData} {f : Addr} {K : PySem.W.Frag}
theorem kbd_of (FU : FunD K dd.name dd.qual dd.params dd.body dd.scope (dd.dvs K) (dd.kws K) f fd) (sh : KShape dd ps n ks idx) : KBd K fd ps n ks (dd.dvs K) idx := by
  obtain ⟨oc, od, dV, kV, doc, pm, an, cdv, ct, osl, rfl, lk, hcd, hD, hK⟩ := FU.ex
  have le : (dd.dvs K).length = dd.dfl.length := by unfold He.DefD.dvs; simp
  rcases hD with ⟨e, rfl⟩ | ⟨ne, dt, o, its, m, rfl, lT, oT, rT⟩
  · have e0 : dd.dfl = [] := by
      have := congrArg List.length e
      rw [le] at this
      exact List.eq_nil_of_length_eq_zero this
    refine ⟨[], by rw [e]; exact .nil, fun s us ws X l1 l2 => .of_eq ?_⟩
    exact (sh 0 kV doc pm an cdv ct us [] ws l1 (by rw [e0]; rfl) l2).1 e0
  · have e0 : dd.dfl ≠ [] := fun z => ne (by unfold He.DefD.dvs; rw [z]; rfl)
    refine ⟨its, rT, fun s us ws X l1 l2 => ?_⟩
    obtain ⟨k, e1, e2⟩ := (sh dt kV doc pm an cdv ct us its ws l1 (rT.length.symm.trans le) l2).2 e0
    refine L2.BindsTo.of_looks fun M => ?_
    rw [e1]
    exact looks_items X lT oT (.of_pure e2)
theorem dk_nil : PK X [] (tDs T W mNil) := ⟨fun pos pins s σ H Q I ⟨x, sx, k, h⟩ => pk_nil.run pos pins s σ H Q I (h x [] H k (.refl _ _) .nil)⟩
theorem dk_cons {e : Expr} {nm : Option Str} {kpos : Pos} {ma : M D} {mr : M (List D)} (ha : PE X e (tD T W ma)) (hr : PK X kws (tDs T W mr)) : PK X (⟨nm, e, kpos⟩ :: kws) (tDs T W (mCons ma mr)) :=
  ⟨fun pos pins s σ H Q I h => (pk_cons ha hr).run pos pins s σ H Q I (tDs_cons h)⟩
theorem de_callK (d : DefOk T X.prog X.mg X.base k0 dd ps F) (hK : X.K = T.K) (hw : X.w = T.w) (tk : Takes X W) (gd : X.A.guards = some []) (hr : Room k0 X.A) (hg : Gl X dd.name) (sh : KShape dd ps n ks idx) (rz : ∀ io G, Reps T io G (dd.dvs T.K) dz) (ha : PA X es (tDs T W ml)) (hk : PK X kws (tDs T W mk))
    (hlen : ∀ s ds s', ml s = .ok ds s' → ds.length = n) (hlenK : ∀ s ds s', mk s = .ok ds s' → ds.length = ks.length) (hps : ∀ l : List D, l.length = n + dz.length + ks.length → (pick l idx).length = ps.length)
    (hes : (es = [] ∧ ml = mNil) ∨ ∃ e r, es = e :: r ∧ starEach (e :: r) X.env = (false, eval e X.env) :: starEach r X.env)
    (hall : (backToKw pos (keywordEach kws X.env)).all (·.1.isSome) = true := by rfl) (hks : (backToKw pos (keywordEach kws X.env)).filterMap (·.1) = ks := by rfl) (hdb : (dd.name == ("__debug__" : Str)) = false := by decide)
    (hpl : ((backTo pos (starEach es X.env)).any (·.1) || (backToKw pos (keywordEach kws X.env)).any (·.1.isNone)) = false := by rfl) :
    PE X (.Call (.Name dd.name p) es kws pos) (tD T W (mCall F (mPick idx dz ml mk))) := by
  obtain ⟨f, fd, hm, FU, _, FO⟩ := d.ex
  have hkp := FU.kp
  obtain ⟨its, rV, hb⟩ := (kbd_of FU sh).to
  rw [← hK, ← hw] at FO
  rw [← hK] at hkp
  refine ⟨fun pins s σ H Q I h => ?_⟩
  obtain ⟨x, sx, k, h⟩ := h
  unfold mCall mPick M.bind at h
  refine wpAny_Call_Name_kw (ld_glob I hg hm ?_ hdb)
  -- behind the values
  have mid : ∀ {us : List Value} {vs : List V} {s1 : Shared} {H1 : Hp} {x1 : Gh} {sx1 : Sx} {ds : List D}, L2.Inv X pins σ H1 s1 → Vals vs us → Ok T x1 sx1 σ H1 → Stp x H x1 H1 → Reps T x1.io x1.G vs ds → ml sx = .ok ds sx1 →
      wpAny (model X.prog X.w) X.A (evalAll ((backToKw pos (keywordEach kws X.env)).map (·.2))) (fun ws s2 => X.K.In s2.heap ∧ wpAny (model X.prog X.w) X.A (call (.ref f) ([] ++ us) (((backToKw pos (keywordEach kws X.env)).filterMap (·.1)).zip ws)) (EP X pins σ Q) X.xe s2) X.xe s1 := by
    intro us vs s1 H1 x1 sx1 ds I1 rv k1 st1 r1 em
    rw [em] at h
    simp only at h
    have hmk : tDs T W mk σ H1 fun zs H2 => ∃ x2 sx2 es2, Ok T x2 sx2 σ H2 ∧ Stp x1 H1 x2 H2 ∧ Reps T x2.io x2.G zs es2 ∧ mk sx1 = .ok es2 sx2 := by
      refine ⟨x1, sx1, k1, ?_⟩
      cases en : mk sx1 with
      | ok es2 sx2 => exact fun y vs H2 k2 st2 r2 => ⟨y, sx2, es2, k2, st2, r2, rfl⟩
      | exc c ns vs sto => rw [en] at h; exact h.back st1
      | bad => rw [en] at h; exact h
    refine thn (hk.run pos pins s1 σ H1 _ I1 hmk) fun ws s2 ⟨zs, H2, I2, rz2, x2, sx2, es2, k2, st2, r2, en⟩ => ⟨I2.kIn, ?_⟩
    rw [hks, List.nil_append]
    have l1 : us.length = n := rv.length.symm.trans (r1.length.trans (hlen _ _ _ em))
    have l2 : ws.length = ks.length := rz2.length.symm.trans (r2.length.trans (hlenK _ _ _ en))
    rw [en] at h
    simp only at h
    have rall : Reps T x2.io x2.G (vs ++ dd.dvs T.K ++ zs) (ds ++ dz ++ es2) := ((r1.mono st2.io st2.le).append (rz _ _)).append r2
    have vall : Vals (vs ++ dd.dvs T.K ++ zs) (us ++ its ++ ws) := (rv.append rV).append rz2
    have KX : T.K.In s2.heap := by rw [← hK]; exact I2.kIn
    refine wpAny_call (codeAny_mono (FO.run X.A X.stack s2 H2 ⟨us, ks.zip ws⟩ (pick (us ++ its ++ ws) idx) (pick (vs ++ dd.dvs T.K ++ zs) idx) Q (WE W σ) gd hr I2.env0 (hb s2 us ws KX l1 l2) (pick_vals vall idx) (call_read k2 (pick_reps rall idx) ?_ ?_)) fun r s' hq => ?_)
    · rw [(pick_reps rall idx).length]
      have a1 := hlen _ _ _ em
      have a2 := hlenK _ _ _ en
      exact hps _ (by rw [List.length_append, List.length_append, a1, a2])
    · have h : (match (match F (pick (ds ++ dz ++ es2) idx) sx2.sto with
          | .rt d sto => R.ok d { sx2 with sto := sto }
          | .ro xs sto => .ok (.lst xs) { sx2 with sto := sto }
          | .exc c ns vs sto => .exc c ns vs sto
          | _ => .bad) with
        | .ok d s' => ∀ x' v H', Ok T x' s' σ H' → Stp x H x' H' → Rep T x'.io x'.G v d → Q v H'
        | .exc c ns vs sto => XP T W x σ H c ns vs sto
        | .bad => False) := h
      cases e2 : F (pick (ds ++ dz ++ es2) idx) sx2.sto with
      | rt d sto => rw [e2] at h; exact fun x3 v H3 k3 st3 r3 => h x3 v H3 k3 (st1.trans (st2.trans st3)) r3
      | ro xs sto =>
        rw [e2] at h
        intro x3 a3 H3 k3 st3 o
        obtain ⟨x4, k4, st4, r4⟩ := o.share k3
        exact h x4 _ H3 k4 (st1.trans (st2.trans (st3.trans st4))) r4
      | exc c ns vs sto => rw [e2] at h; exact h.back (st1.trans st2)
      | nx _ => rw [e2] at h; exact h.elim
      | bk _ => rw [e2] at h; exact h.elim
      | ct _ => rw [e2] at h; exact h.elim
      | bad => rw [e2] at h; exact h.elim
    · match r, hq with
      | .error e, hq => exact passAt tk σ pins H2 s2 e s' I2 hq
      | .ok (.ret u), hq => exact I2.after hq
  rcases hes with ⟨rfl, rfl⟩ | ⟨e, r, rfl, he⟩
  · exact PySem.W.callWith_KW0 (h₀ := X.base) I.ok.mod.kin hkp hall (mid I .nil k (.refl _ _) .nil rfl) hpl
  · have hml : tDs T W ml σ H fun vs H1 => ∃ x1 sx1 ds, Ok T x1 sx1 σ H1 ∧ Stp x H x1 H1 ∧ Reps T x1.io x1.G vs ds ∧ ml sx = .ok ds sx1 := by
      refine ⟨x, sx, k, ?_⟩
      cases em : ml sx with
      | ok ds sx1 => exact fun y vs H1 k2 st2 r2 => ⟨y, sx1, ds, k2, st2, r2, rfl⟩
      | exc c ns vs sto => rw [em] at h; exact h
      | bad => rw [em] at h; exact h
    refine PySem.W.callWith_KW (h₀ := X.base) I.ok.mod.kin hkp hall (thn (ha.run pos pins s σ H _ I hml) fun us s1 ⟨vs, H1, I1, rv, x1, sx1, ds, k1, st1, r1, em⟩ => mid I1 rv k1 st1 r1 em) hpl he
end
/-! ### {} -/
section
variable {T : Tx} {W : WX} {X : Cx} {pos : Pos}
def mDic0 : M D := M.pure (.dic [] [])
theorem de_dic0 : PE X (.Dict [] [] pos) (tD T W mDic0) := PE.imp pe_dnewK fun σ H Q ⟨x, s, k, h⟩ => fun p hp => by
  have gr : Grow x.G H (L2.upd x.G p (.dK [])) (L2.upd H p (.dK [])) := Grow.one k.bx.sub hp
  exact h _ (.ref p) _ (k.grow gr) gr.stp (.dic (G := L2.upd x.G p (.dK [])) (vs := []) (.inl upd_same) rfl .nil .nil)
end
/-! ### what the head tells -/
section
variable {T : Tx} {mg : Str → Option Value} {fa : List He.Fa} {fn : List He.DefD} {ts : List He.Tab} {tf : List He.Defn} {cs : List Con}
theorem Facts.ecl (M : Facts T mg fa fn ts tf cs) (j : Nat) {x f : Str} (h : cs[j]? = some (.ecl x f)) : OexC T.K (He.ga T.K x) ∧ PySem.W.findIn T.K (.ref (He.ga T.K x)) "__init__" = some (some (.ref (He.ma T.K (He.ga T.K x) "__init__"))) ∧
    PySem.W.typeIn T.K (.ref (He.ma T.K (He.ga T.K x) "__init__")) = some (.type "function") ∧ PySem.W.findIn T.K (.ref (He.ga T.K x)) f = some none := by
  have b := M.con j h
  unfold Con.ok at b
  simp only [Bool.and_eq_true, decide_eq_true_eq] at b
  exact ⟨oexOk_ok b.1, b.2.1, b.2.2.1, b.2.2.2⟩
theorem lookup_mem_ {α : Type} {c : Str} {b : α} : ∀ {l : List (Str × α)}, l.lookup c = some b → (c, b) ∈ l
  | [], h => by cases h
  | (k, v) :: r, h => by
    simp only [List.lookup] at h
    split at h
    · rename_i q
      cases h
      rw [beq_iff_eq.mp q]; exact List.mem_cons_self
    · exact List.mem_cons_of_mem _ (lookup_mem_ h)
theorem Facts.tree (M : Facts T mg fa fn ts tf cs) (j : Nat) {y : Str} {tbl : List (Str × Bool)} (h : cs[j]? = some (.tree y tbl)) : PySem.W.kitOne T.K (.type "NoneType") (.ref (He.ga T.K y)) = some false ∧
    ∀ c b, tbl.lookup c = some b → (XCls T.K (T.ca c) ∧ PySem.W.kitOne T.K (.ref (T.ca c)) (.ref (He.ga T.K y)) = some b) ∧ PySem.W.exmOne T.K (.ref (T.ca c)) (.ref (He.ga T.K y)) = some b := by
  have b := M.con j h
  unfold Con.ok at b
  simp only [Bool.and_eq_true, decide_eq_true_eq, List.all_eq_true] at b
  refine ⟨b.1, fun c bb e => ?_⟩
  have z := b.2 _ (lookup_mem_ e)
  rw [M.ca]
  exact ⟨⟨xclsB_ok z.1, z.2.1⟩, z.2.2⟩
theorem Facts.fld (M : Facts T mg fa fn ts tf cs) (j : Nat) {n : Str} {l : List Str} (h : cs[j]? = some (.fld l n)) : ∀ c, l.contains c = true → XfC T.K (T.ca c) ∧ PySem.W.findIn T.K (.ref (T.ca c)) n = some none := by
  have b := M.con j h
  unfold Con.ok at b
  simp only [Bool.and_eq_true, decide_eq_true_eq, List.all_eq_true] at b
  intro c hc
  have z := b c (by simpa using hc)
  rw [M.ca]
  exact ⟨xfB_ok z.1, z.2⟩
end
/-- the tables of the defs tf, their lambdas' names tq -/
structure Lams (T : Tx) (mg : Str → Option Value) (base : Heap) (tf : List He.Defn) (tq : List Str) : Prop where
  tb : T.tb = (tf.zip tq).map fun p => ((He.cT T.K p.1).2, p.2)
  at_ : TabsAt base mg (tf.map (He.cT T.K))
  nd : (tf.map fun p => (He.cT T.K p).2).Nodup
section
variable {T : Tx} {mg : Str → Option Value} {base : Heap} {tf : List He.Defn} {tq : List Str}
theorem Lams.tab (B : Lams T mg base tf tq) (i : Nat) {p : He.Defn} (h : tf[i]? = some p) : LamX.TabB base mg (He.codeOf T.K p) (He.cT T.K p).2 := B.at_ (He.cT T.K p) (List.mem_map.mpr ⟨p, List.mem_of_getElem? h, rfl⟩)
theorem Lams.mem (B : Lams T mg base tf tq) (i : Nat) {p : He.Defn} {q : Str} (h : tf[i]? = some p) (h2 : tq[i]? = some q) : ((He.cT T.K p).2, q) ∈ T.tb := by
  rw [B.tb]
  exact List.mem_map.mpr ⟨(p, q), List.mem_of_getElem? (i := i) (by rw [List.getElem?_zip_eq_some]; exact ⟨h, h2⟩), rfl⟩
theorem Lams.un (B : Lams T mg base tf tq) (i : Nat) {p : He.Defn} {q : Str} (h : tf[i]? = some p) (h2 : tq[i]? = some q) : ∀ r ∈ T.tb, r.1 = (He.cT T.K p).2 → r.2 = q := by
  rw [B.tb]
  intro r hr e
  obtain ⟨z, hz, rfl⟩ := List.mem_map.mp hr
  obtain ⟨j, hj⟩ := List.mem_iff_getElem?.mp hz
  rw [List.getElem?_zip_eq_some] at hj
  have e2 : (tf.map fun p => (He.cT T.K p).2)[j]? = (tf.map fun p => (He.cT T.K p).2)[i]? := by
    rw [List.getElem?_map, List.getElem?_map, hj.1, h]
    exact congrArg some e
  have hl : j < (tf.map fun p => (He.cT T.K p).2).length := by
    rw [List.length_map]; exact (List.getElem?_eq_some_iff.mp hj.1).1
  have ij : j = i := (List.getElem?_inj hl B.nd).mp e2
  subst ij
  have := hj.2
  rw [h2] at this
  exact (Option.some.inj this).symm
end
/-- a class's i-th statement -/
def clsAt (s : Stmt) (i : Nat) : Stmt := match s with
  | .ClassDef (body := b) .. => b.getD i (.Pass ⟨0, 0, 0, 0⟩)
  | _ => .Pass ⟨0, 0, 0, 0⟩
theorem tabE_of {K : PySem.W.Frag} {fa : List He.Fa} {fn : List He.DefD} {ts : List He.Tab} {tf : List He.Defn} {ex : PySem.W.Frag → Bool} {w : World} {h : Heap} (KX : K.In h) (c : He.SaysX fa fn ts tf ex w h K) : TabE K h (tf.map (He.cT K)) := by
  refine ⟨fun p hp => ?_, fun p hp => ?_, fun p hp => ?_⟩ <;> obtain ⟨q, hq, rfl⟩ := List.mem_map.mp hp
  · exact c.empty q hq
  · exact c.out q hq
  · exact PySem.W.codeHd_of_K KX (c.hd q hq)
theorem lams_of {K : PySem.W.Frag} {w : World} {ca : Str → Addr} {tf : List He.Defn} {tq : List Str} {mg : Str → Option Value} {base : Heap} {cs : List Con} (b : exOf cs K = true) (j : Nat) (h : cs[j]? = some (.apart tf)) (at_ : TabsAt base mg (tf.map (He.cT K))) :
    Lams { K := K, w := w, ca := ca, tb := (tf.zip tq).map fun p => ((He.cT K p.1).2, p.2) } mg base tf tq :=
  ⟨rfl, at_, of_decide_eq_true (List.all_eq_true.mp b _ (List.mem_of_getElem? h))⟩
theorem tb_in {K : PySem.W.Frag} {tf : List He.Defn} {tq : List Str} : ∀ p ∈ (tf.zip tq).map fun p => ((He.cT K p.1).2, p.2), p.1 ∈ (tf.map (He.cT K)).map (·.2) := by
  intro p hp
  obtain ⟨z, hz, rfl⟩ := List.mem_map.mp hp
  exact List.mem_map.mpr ⟨_, List.mem_map.mpr ⟨z.1, (List.of_mem_zip (show (z.1, z.2) ∈ tf.zip tq from hz)).1, rfl⟩, rfl⟩
end Ev

/-! E28: what is never reached; constants; all, any, sum, tuple, list, str of data; texts walked, split, compared; repetition. -/
namespace Ev
open PySem PySem.Spec L2
/-! ### never reached -/
section
variable {T : Tx} {P : Program} {mg : Str → Option Value} {base : Heap} {f : Addr} {fd : FuncData} {ps : List Str} {k : Nat}
def fBad : Fn := fun _ _ => .bad
theorem def_zero {dd : He.DefD} (F : FunD T.K dd.name dd.qual dd.params dd.body dd.scope (dd.dvs T.K) (dd.kws T.K) f fd) (hm : mg dd.name = some (.ref f))
    (hb : dd.dfl = [] → ∀ (kV doc pm : Value) (an : Option Addr) (cdv ct : Value) (us : List Value), us.length = ps.length → bindArgs (PySem.W.fnOf dd.name dd.qual dd.params dd.body dd.scope .none kV doc pm an cdv ct) ⟨us, []⟩ = pure (ps.zip us)) : DefOk T P mg base k dd ps fBad := by
  refine ⟨f, fd, hm, F, fun h0 => ?_, ⟨fun vs H Q E ⟨_, _, _, _, _, _, h, _⟩ => h, fun A outer s H args us vs Q E gd hr e0 hb' r ⟨_, _, _, _, _, _, _, h⟩ => h.elim⟩⟩
  have F0 := F
  have e0 : dd.dvs T.K = [] := by unfold He.DefD.dvs; rw [h0]; rfl
  rw [e0] at F0
  exact F0.bindsN (hb h0)
end
section
variable {T : Tx} {W : WX} {X : Cx} {e a b : Expr} {es : List Expr} {ml : M (List D)} {ma mb : M D} {pos : Pos}
def gNone : List D → Option D := fun _ => none
theorem p_none {r : List V → Hp → VK → Prop} : PL T r gNone := fun _ _ _ _ _ _ _ _ _ q _ => by cases q
theorem call_none {f : Value} : CallR X f (fun _ _ _ => False) := fun _ _ _ _ _ _ _ _ _ h => h.elim
/-! ### constants -/
theorem de_val {y : Str} {d : D} {pos : Pos} (h : ∃ u, X.mg y = some u ∧ RelV (vOf u) u ∧ ∀ io G, Rep T io G (vOf u) d) (hg : Gl X y) (hd : (y == ("__debug__" : Str)) = false := by decide) : PE X (.Name y pos) (tD T W (mC d)) := by
  obtain ⟨u, h1, h2, h3⟩ := h
  exact de_glob hg h1 h2 h3 hd
/-! ### all, any, sum -/
def asBs : List D → Option (List Bool)
  | [] => some []
  | .bl b :: r => (asBs r).map (b :: ·)
  | _ => none
def asIs : List D → Option (List Int)
  | [] => some []
  | .int b :: r => (asIs r).map (b :: ·)
  | _ => none
theorem Reps.bls {io : Io} {G : Hp} : ∀ {vs : List V} {ds : List D} {bs : List Bool}, Reps T io G vs ds → asBs ds = some bs → vs = bs.map V.bl
  | _, _, _, .nil, h => by cases h; rfl
  | _, _, _, .cons (d := d) a r, h => by
    cases d <;> first | cases h; done | skip
    rename_i b
    unfold asBs at h
    obtain ⟨bs, e, rfl⟩ := Option.map_eq_some_iff.mp h
    cases a
    rw [Reps.bls r e]; rfl
theorem Reps.ints' {io : Io} {G : Hp} : ∀ {vs : List V} {ds : List D} {bs : List Int}, Reps T io G vs ds → asIs ds = some bs → vs = bs.map V.int
  | _, _, _, .nil, h => by cases h; rfl
  | _, _, _, .cons (d := d) a r, h => by
    cases d <;> first | cases h; done | skip
    rename_i b
    unfold asIs at h
    obtain ⟨bs, e, rfl⟩ := Option.map_eq_some_iff.mp h
    cases a
    rw [Reps.ints' r e]; rfl
def gAll : List D → Option D
  | [.lst xs] => (asBs xs).map fun bs => .bl (bs.all id)
  | _ => none
def gAny : List D → Option D
  | [.lst xs] => (asBs xs).map fun bs => .bl (bs.any id)
  | _ => none
def gSum : List D → Option D
  | [.lst xs] => (asIs xs).map fun bs => .int bs.sum
  | _ => none
theorem p_all (hK : X.K = T.K) : PL T (rAll X.K) gAll := fun io G vs ds z H Q r le q k => by
  unfold gAll at q
  split at q
  · rename_i xs
    obtain ⟨bs, e, rfl⟩ := Option.map_eq_some_iff.mp q
    cases r with
    | cons r1 r2 =>
      cases r2; cases r1 with
      | lst sq rs => exact ⟨_, bs, rfl, by rw [hK, ← rs.bls e]; exact le.sqL sq, k G _ H (.refl le) (.bl _)⟩
  · cases q
theorem p_any (hK : X.K = T.K) : PL T (rAny X.K) gAny := fun io G vs ds z H Q r le q k => by
  unfold gAny at q
  split at q
  · rename_i xs
    obtain ⟨bs, e, rfl⟩ := Option.map_eq_some_iff.mp q
    cases r with
    | cons r1 r2 =>
      cases r2; cases r1 with
      | lst sq rs => exact ⟨_, bs, rfl, by rw [hK, ← rs.bls e]; exact le.sqL sq, k G _ H (.refl le) (.bl _)⟩
  · cases q
theorem p_sum (hK : X.K = T.K) : PL T (rSum X.K) gSum := fun io G vs ds z H Q r le q k => by
  unfold gSum at q
  split at q
  · rename_i xs
    obtain ⟨bs, e, rfl⟩ := Option.map_eq_some_iff.mp q
    cases r with
    | cons r1 r2 =>
      cases r2; cases r1 with
      | lst sq rs => exact ⟨_, bs, rfl, by rw [hK, ← rs.ints' e]; exact le.sqL sq, k G _ H (.refl le) (.int _)⟩
  · cases q
/-! ### tuple(x), list(x), str(x) -/
def gTuple : List D → Option D
  | [.lst xs] => some (.tup xs)
  | [.tup xs] => some (.tup xs)
  | _ => none
theorem p_tuple (hK : X.K = T.K) : PL T (fun xs H Q => ∃ p ys, xs = [V.ref p] ∧ ((SqL X.K H p ys ∧ ∀ l, H l = none → Q (.ref l) (L2.upd H l (.tup ys))) ∨ (SqT X.K H p ys ∧ Q (.ref p) H))) gTuple := fun io G vs ds z H Q r le q k => by
  unfold gTuple at q
  split at q
  · cases q
    cases r with
    | cons r1 r2 =>
      cases r2; cases r1 with
      | @lst _ ys _ sq rs =>
        refine ⟨_, _, rfl, .inl ⟨by rw [hK]; exact le.sqL sq, fun l hl => ?_⟩⟩
        have gr : Grow G H (L2.upd G l (.tup ys)) (L2.upd H l (.tup ys)) := Grow.one le hl
        exact k _ _ _ gr (.tup (.inl (.inl upd_same)) (rs.up gr.g))
  · cases q
    cases r with
    | cons r1 r2 =>
      cases r2; cases r1 with
      | tup sq rs => exact ⟨_, _, rfl, .inr ⟨by rw [hK]; exact le.sqT sq, k G _ H (.refl le) (.tup sq rs)⟩⟩
  · cases q
def gList : List D → Option D
  | [.lst xs] => some (.lst xs)
  | [.tup xs] => some (.lst xs)
  | _ => none
theorem p_list (hK : X.K = T.K) : PL T (fun xs H Q => ∃ p ys, xs = [V.ref p] ∧ (SqL X.K H p ys ∨ SqT X.K H p ys) ∧ ∀ l, H l = none → Q (.ref l) (L2.upd H l (.lst ys))) gList := fun io G vs ds z H Q r le q k => by
  have fin : ∀ {ys : List V} {xs : List D}, Reps T io G ys xs → ∀ l, H l = none → z = .lst xs → Q (.ref l) (L2.upd H l (.lst ys)) := fun {ys xs} rs l hl e => by
    subst e
    have gr : Grow G H (L2.upd G l (.lst ys)) (L2.upd H l (.lst ys)) := Grow.one le hl
    exact k _ _ _ gr (.lst (.inl (.inl upd_same)) (rs.up gr.g))
  unfold gList at q
  split at q
  · cases q
    cases r with
    | cons r1 r2 =>
      cases r2; cases r1 with
      | lst sq rs => exact ⟨_, _, rfl, .inl (by rw [hK]; exact le.sqL sq), fun l hl => fin rs l hl rfl⟩
  · cases q
    cases r with
    | cons r1 r2 =>
      cases r2; cases r1 with
      | tup sq rs => exact ⟨_, _, rfl, .inr (by rw [hK]; exact le.sqT sq), fun l hl => fin rs l hl rfl⟩
  · cases q
def gStr : List D → Option D
  | [.int i] => if i.natAbs.log2 < 1920 then some (.str (toString i)) else none
  | [.str z] => some (.str z)
  | _ => none
theorem p_str : PL T (fun xs H Q => (∃ i, xs = [V.int i] ∧ i.natAbs.log2 < 1920 ∧ Q (.str (toString i)) H) ∨ ∃ a, xs = [V.str a] ∧ Q (.str a) H) gStr := fun io G vs ds z H Q r le q k => by
  unfold gStr at q
  split at q
  · split at q
    · rename_i h
      cases q
      cases r with
      | cons r1 r2 => cases r2; cases r1; exact .inl ⟨_, rfl, h, k G _ H (.refl le) (.str _)⟩
    · cases q
  · cases q
    cases r with
    | cons r1 r2 => cases r2; cases r1; exact .inr ⟨_, rfl, k G _ H (.refl le) (.str _)⟩
  · cases q
theorem call_strA : CallR X (.type "str") (fun xs H Q => (∃ i, xs = [V.int i] ∧ i.natAbs.log2 < 1920 ∧ Q (.str (toString i)) H) ∨ ∃ a, xs = [V.str a] ∧ Q (.str a) H) := call_str_int.or SkE.call_str_str
/-! ### a text walked -/
def signs (z : Str) : List D := z.cps.toList.map fun c => .str ⟨#[c]⟩
theorem src_str {io : Io} {G : Hp} (z : Str) : Src T io G (Its z) (signs z) := by
  have hl : (signs z).length = z.cps.size := by simp [signs]
  refine ⟨fun i H _ hi => by rw [hl] at hi; exact Nat.le_of_eq hi, fun i H _ hi => by rw [hl] at hi; exact hi, fun i H v H' G1 d le le1 hd hy => ?_⟩
  obtain ⟨rfl, c, hc, rfl⟩ := hy
  unfold signs at hd
  rw [List.getElem?_map, ← Array.getElem?_toList] at *
  rw [hc] at hd
  cases hd
  exact ⟨G1, .refl le1, .str _⟩
def itemsS : D → Option (List D)
  | .str z => some (signs z)
  | _ => none
def mItemsS (m : M D) : M (List D) := M.bind m fun d => M.lift (itemsS d)
theorem di_str {tg : Expr} (h : PE X e (tD T W ma)) : PI X tg e (tI T W (mItemsS ma)) :=
  PI.imp (pi_str h) fun σ H R ⟨x, s, k, q⟩ => by
    refine ⟨x, s, k, ?_⟩
    unfold mItemsS M.bind M.lift at q
    cases em : ma s with
    | exc c ns vs sto => rw [em] at q; exact q
    | bad => rw [em] at q; exact q
    | ok d s' =>
      rw [em] at q
      simp only at q
      intro x' v H' k' st r
      cases r with
      | str z => exact ⟨z, rfl, q x' _ H' k' st (src_str z)⟩
      | _ => exact q.elim
/-! ### split -/
def gSplit (x y : D) : Option D := match x, y with
  | .str x, .str y => if (y.length == 0) = false ∧ x.length + 2 ≤ sizeLine then some (.lst ((Txt.split x y).map .str)) else none
  | _, _ => none
theorem Reps.strs {io : Io} {G : Hp} : ∀ ys : List Str, Reps T io G (ys.map V.str) (ys.map D.str)
  | [] => .nil
  | y :: ys => .cons (.str y) (Reps.strs ys)
def mSplit (ma mb : M D) : M D := M.bind ma fun a => match a with
  | .str x => M.bind mb fun b => M.lift (gSplit (.str x) b)
  | _ => fun _ => .bad
theorem de_split {apos : Pos} (ha : PE X a (tD T W ma)) (hb : PE X b (tD T W mb)) (hs : starEach [b] X.env = [(false, eval b X.env)] := by rfl) (hbase : attributeBase a "split" X.env (eval a X.env) = eval a X.env := by rfl) (hline : (apos.endLine == pos.line) = true := by rfl) :
    PE X (.Call (.Attribute a "split" apos) [b] [] pos) (tD T W (mSplit ma mb)) :=
  PE.imp (pe_m1 PySem.F.slot_str_split PySem.F.type_str_split mt_split ha hb hs hbase hline) fun σ H Q h => by
    obtain ⟨x, s, k, h⟩ := h
    refine ⟨x, s, k, ?_⟩
    unfold mSplit M.bind M.lift at h
    cases e1 : ma s with
    | exc c ns vs sto => rw [e1] at h; exact h
    | bad => rw [e1] at h; exact h
    | ok d s1 =>
      rw [e1] at h
      intro x1 v1 H1 k1 st1 r1
      simp only at h
      cases r1 with
      | str y =>
        refine ⟨⟨_, rfl⟩, x1, s1, k1, ?_⟩
        simp only at h
        cases e2 : mb s1 with
        | exc c ns vs sto => rw [e2] at h; exact h.back st1
        | bad => rw [e2] at h; exact h
        | ok d2 s2 =>
          rw [e2] at h
          simp only at h
          intro x2 v2 H2 k2 st2 r2
          cases e3 : gSplit (.str y) d2 with
          | none => rw [e3] at h; exact h.elim
          | some z =>
            rw [e3] at h
            unfold gSplit at e3
            split at e3
            · rename_i p q e4
              cases e4
              split at e3
              · rename_i hc
                cases e3
                cases r2
                refine ⟨_, _, rfl, rfl, hc.1, hc.2, fun l hl => ?_⟩
                have gr : Grow x2.G H2 (L2.upd x2.G l (.lst ((Txt.split y q).map V.str))) (L2.upd H2 l (.lst ((Txt.split y q).map V.str))) := Grow.one k2.bx.sub hl
                exact h _ _ _ (k2.grow gr) (st1.trans (st2.trans gr.stp)) (.lst (.inl (.inl upd_same)) (.strs _))
              · cases e3
            · cases e3
      | _ => exact h.elim
/-! ### order of texts -/
def gLeS (a b : D) : Option D := match a, b with
  | .str i, .str j => some (.bl (!decide (j.cps.toList < i.cps.toList)))
  | _, _ => none
theorem p_leS : P2 T (fun x y H Q => ∃ i j, x = .str i ∧ y = .str j ∧ Q (.bl (!decide (j.cps.toList < i.cps.toList))) H) gLeS := fun io G v u d e z H Q r1 r2 le q k => by
  unfold gLeS at q
  split at q
  · cases q; cases r1; cases r2; exact ⟨_, _, rfl, rfl, k G _ H (.refl le) (.bl _)⟩
  · cases q
theorem pb_leS : PB T (fun x y H Q => ∃ i j, x = .str i ∧ y = .str j ∧ Q (.bl (!decide (j.cps.toList < i.cps.toList))) H) gLeS := fun io G v u d e k H Q r1 r2 le q h => by
  unfold gLeS at q
  split at q
  · cases q; cases r1; cases r2; exact ⟨_, _, rfl, rfl, h⟩
  · cases q
/-! ### repetition -/
open PyProof.Rows in
theorem tup_mul1 (l : Addr) (items : Array Value) (n : Nat) (dd : Option Addr) (sl : Array (Option Value)) (x : Int) (u : Tok) (c0 : (decide (x < -(2 ^ 63)) || decide (x ≥ 2 ^ 63)) = false) (c1 : (items.isEmpty || x == 1) = true) :
    Meets (Builtin.«tuple.__mul__» ⟨[.ref l, .int x u], []⟩) (fun _ R s => s.heap.get? l = some { cls := .type "tuple", dict := dd, data := .seq items n, slots := sl } ∧ R (.ok (.ret (Value.ref l))) s) :=
  .of_wp fun prog w A R s h => by
    obtain ⟨hp, g, d, tk, os⟩ := s
    obtain ⟨hl, h⟩ := h
    have f1 := AutoSeq1.idx_int
    wp_walk using wpAny_loadPart' hl
    repeat (first
      | (refine wpAny_ite_false (decide_eq_false (by rw [c0]; exact Bool.false_ne_true)) ?_; wp_walk using wpAny_loadPart' hl)
      | (refine wpAny_ite_true (decide_eq_true c1) ?_; wp_walk using wpAny_loadPart' hl))
    exact ⟨_, rfl, h⟩
open PyProof.Rows in
theorem tup_mul0 (l : Addr) (items : Array Value) (n : Nat) (dd : Option Addr) (sl : Array (Option Value)) (x : Int) (u : Tok) (c0 : (decide (x < -(2 ^ 63)) || decide (x ≥ 2 ^ 63)) = false) (c1 : (items.isEmpty || x == 1) = false) (c2 : (decide (x ≤ 0) || items.isEmpty) = true) :
    Meets (Builtin.«tuple.__mul__» ⟨[.ref l, .int x u], []⟩) (fun _ R s => s.heap.get? l = some { cls := .type "tuple", dict := dd, data := .seq items n, slots := sl } ∧ R (.ok (.ret (Value.ref s.heap.objs.size))) { s with heap := s.heap.push { cls := Value.type "tuple", data := Data.seq #[] }, toks := s.toks }) :=
  .of_wp fun prog w A R s h => by
    obtain ⟨hp, g, d, tk, os⟩ := s
    obtain ⟨hl, h⟩ := h
    have f1 := AutoSeq1.idx_int
    wp_walk using wpAny_loadPart' hl
    repeat (first
      | (refine wpAny_ite_false (decide_eq_false (by rw [c0]; exact Bool.false_ne_true)) ?_; wp_walk using wpAny_loadPart' hl)
      | (refine wpAny_ite_false (decide_eq_false (by rw [c1]; exact Bool.false_ne_true)) ?_; wp_walk using wpAny_loadPart' hl)
      | (refine wpAny_ite_true (decide_eq_true c2) ?_; wp_walk using wpAny_loadPart' hl))
    exact ⟨_, rfl, h⟩
/-- tuple * int -/
def rRepTA (K : PySem.W.Frag) : R2 := fun x y H Q => ∃ l k xs, x = .ref l ∧ y = .int k ∧ SqT K H l xs ∧ k ≤ 1000 ∧ -1000 ≤ k ∧ xs.length ≤ 1000 ∧ ((xs = [] ∨ k = 1) ∧ Q (.ref l) H ∨ (xs ≠ [] ∧ k ≠ 1) ∧ ∀ p, H p = none → Q (.ref p) (L2.upd H p (.tup (List.replicate k.toNat xs).flatten)))
open PyProof.Rows in
theorem op_repTA : OpR X (binaryOp .Mult) (rRepTA X.K) := by
  intro pins s σ H x y v u Q I rx ry h
  obtain ⟨l, k, xs, rfl, rfl, hT, h1, h0, hz, hc⟩ := h
  by_cases h2 : 2 ≤ k ∧ xs ≠ []
  · rcases hc with ⟨hc, q⟩ | ⟨_, q⟩
    · rcases hc with hc | hc
      · exact absurd hc h2.2
      · omega
    · exact op_repT pins s σ H _ _ v u Q I rx ry ⟨l, k, xs, rfl, rfl, hT, h2.2, h2.1, h1, hz, q⟩
  cases rx
  obtain ⟨t, rfl⟩ := ry
  obtain ⟨its, r, ⟨⟨cls, dd, data, sl⟩, ho, hcl, n, hd⟩, hs⟩ := I.tuple hT
  simp only at hcl hd
  subst hcl hd
  have hle : its.length = xs.length := r.length.symm
  have c0 : (decide (k < -(2 ^ 63)) || decide (k ≥ 2 ^ 63)) = false := by
    rw [decide_eq_false (by omega), decide_eq_false (by omega)]; rfl
  have emp : its.toArray.isEmpty = decide (xs = []) := by
    cases its with
    | nil => have : xs = [] := List.eq_nil_of_length_eq_zero hle.symm; rw [this]; rfl
    | cons a b => cases xs with
      | nil => simp at hle
      | cons => rfl
  rcases hc with ⟨hc, q⟩ | ⟨hc, q⟩
  · have c1 : (its.toArray.isEmpty || k == 1) = true := by
      rw [emp]
      rcases hc with hc | hc
      · rw [hc]; rfl
      · rw [hc]; simp
    refine wpAny_binaryOp_repeat_ref (T := "tuple") (U := "int") (by decide) ⟨_, ho, rfl⟩ (fun s' => typeIs_int s' k t) noFill_tuple_mul F.fills_int_mul F.slot_int_rmul repeat_tuple F.slot_int_index.lookup
      (call_meets F.slot_int_rmul (typeIs_int s k t) F.entry_int_rmul (F.args_int_rmul_2 _ _) (int_rmul_tuple k t l its.toArray n dd sl)
        ⟨ho, rfl, ⟨_, ho, rfl⟩, call_meets F.slot_tuple_mul ⟨_, ho, rfl⟩ F.entry_tuple_mul (F.args_tuple_mul_2 _ _) (tup_mul1 l its.toArray n dd sl k t c0 c1) ⟨ho, ?_⟩⟩)
    exact ⟨.ref l, H, I.kept (t' := s.toks) fun _ _ q => q, rfl, q⟩
  · have hk0 : k ≤ 0 := by
      refine Int.not_lt.mp fun z => h2 ⟨?_, hc.1⟩
      have := hc.2
      omega
    have c1 : (its.toArray.isEmpty || k == 1) = false := by
      rw [emp, decide_eq_false hc.1, Bool.false_or]
      exact beq_eq_false_iff_ne.mpr hc.2
    have c2 : (decide (k ≤ 0) || its.toArray.isEmpty) = true := by rw [decide_eq_true hk0]; rfl
    refine wpAny_binaryOp_repeat_ref (T := "tuple") (U := "int") (by decide) ⟨_, ho, rfl⟩ (fun s' => typeIs_int s' k t) noFill_tuple_mul F.fills_int_mul F.slot_int_rmul repeat_tuple F.slot_int_index.lookup
      (call_meets F.slot_int_rmul (typeIs_int s k t) F.entry_int_rmul (F.args_int_rmul_2 _ _) (int_rmul_tuple k t l its.toArray n dd sl)
        ⟨ho, rfl, ⟨_, ho, rfl⟩, call_meets F.slot_tuple_mul ⟨_, ho, rfl⟩ F.entry_tuple_mul (F.args_tuple_mul_2 _ _) (tup_mul0 l its.toArray n dd sl k t c0 c1 c2) ⟨ho, ?_⟩⟩)
    have ek : k.toNat = 0 := by omega
    rw [ek] at q
    exact ⟨.ref s.heap.objs.size, _, I.laid (t' := s.toks) (o := .tup []) (fun b ob q => Heap.get?_push_of_some _ q) (Nat.le_refl _) ⟨Nat.zero_le _, [], .nil, IsTup.new _ _⟩, rfl, q _ (I.hok.fresh (Nat.le_refl _))⟩
def gRepT (a b : D) : Option D := match a, b with
  | .tup xs, .int k => if k ≤ 1000 ∧ -1000 ≤ k ∧ xs.length ≤ 1000 then some (.tup (List.replicate k.toNat xs).flatten) else none
  | _, _ => none
theorem Reps.rep {io : Io} {G : Hp} {vs : List V} {ds : List D} (r : Reps T io G vs ds) : ∀ n : Nat, Reps T io G (List.replicate n vs).flatten (List.replicate n ds).flatten
  | 0 => .nil
  | n + 1 => by
    rw [List.replicate_succ, List.replicate_succ, List.flatten_cons, List.flatten_cons]
    exact r.append (Reps.rep r n)
theorem p_repT (hK : X.K = T.K) : P2 T (rRepTA X.K) gRepT := fun io G v u d e z H Q r1 r2 le q k => by
  unfold gRepT at q
  split at q
  · rename_i xs n
    split at q
    · rename_i hc
      cases q
      cases r2
      cases r1 with
      | @tup p vs _ sq rs =>
        have hl := rs.length
        by_cases hh : vs = [] ∨ n = 1
        · refine ⟨p, n, vs, rfl, rfl, by rw [hK]; exact le.sqT sq, hc.1, hc.2.1, by omega, .inl ⟨hh, k G _ H (.refl le) ?_⟩⟩
          refine .tup sq ?_
          rcases hh with rfl | rfl
          · cases rs
            have : (List.replicate n.toNat ([] : List D)).flatten = [] := by simp
            rw [this]; exact .nil
          · have : (List.replicate (1 : Int).toNat xs).flatten = xs := by simp
            rw [this]; exact rs
        · have hh2 : vs ≠ [] ∧ n ≠ 1 := ⟨fun z => hh (.inl z), fun z => hh (.inr z)⟩
          refine ⟨p, n, vs, rfl, rfl, by rw [hK]; exact le.sqT sq, hc.1, hc.2.1, by omega, .inr ⟨hh2, fun l hl => ?_⟩⟩
          have gr : Grow G H (L2.upd G l (.tup (List.replicate n.toNat vs).flatten)) (L2.upd H l (.tup (List.replicate n.toNat vs).flatten)) := Grow.one le hl
          exact k _ _ _ gr (.tup (.inl (.inl upd_same)) ((rs.up gr.g).rep _))
    · cases q
  · cases q
theorem de_repT (hK : X.K = T.K) (ha : PE X a (tD T W ma)) (hb : PE X b (tD T W mb)) : PE X (.BinOp a .Mult b pos) (tD T W (m2 gRepT ma mb)) := de_op op_repTA (p_repT hK) ha hb
/-- what is one's own, in no slot, is left aside -/
theorem Own.leave {x : Gh} {s : Sx} {σ : L2.St} {H : Hp} {p : Addr} {xs : List D} (k : Ok T x s σ H) (o : Own T x s σ H p xs) : Ok T ⟨x.io, x.G, fun c => x.U c ∧ c ≠ p⟩ s σ H ∧ Stp x H ⟨x.io, x.G, fun c => x.U c ∧ c ≠ p⟩ H := by
  obtain ⟨vs, hp, _⟩ := o.l
  refine ⟨⟨⟨k.bx.n, k.bx.at_, fun i hi => ⟨k.bx.inU i hi, fun z => o.b i hi z.symm⟩, k.bx.inj, k.bx.sub, fun a u e z => k.bx.off a u e z.1, fun a z => k.bx.trk a z.1, fun q hq => ⟨⟨(k.bx.tab q hq).1, fun z => ?_⟩, (k.bx.tab q hq).2⟩, k.bx.lo⟩, k.len, k.sh, fun i ys e => ?_, k.owi, k.th, k.od.of (.refl _) (.refl _) (fun _ _ _ e => ⟨e, rfl⟩) fun c kvs e u => ⟨e, u, fun z => by subst z; rw [hp] at e; cases e⟩⟩, ⟨.refl _, .refl _, fun _ _ e _ => e, fun _ _ e => .inl e, fun _ z => .inl z.1, fun _ e => e⟩⟩
  · obtain ⟨ps, e1, _⟩ := (k.bx.tab q hq).2
    rw [z, hp] at e1; cases e1
  · obtain ⟨c, us, h1, h2, h3, h4, h5⟩ := k.ow i ys e
    exact ⟨c, us, h1, h2, h3, ⟨h4, fun z => o.o i ys e (by rw [← z]; exact h1)⟩, h5⟩
/-- [..] * n -/
def mRepF (ml : M (List D)) (mb : M D) : M (List D) := M.bind ml fun xs => M.bind mb fun d => match d with
  | .int k => if -(2 ^ 63) ≤ k ∧ k < 2 ^ 63 ∧ xs.length * k.toNat ≤ sizeLine then M.pure (List.replicate k.toNat xs).flatten else fun _ => .bad
  | _ => fun _ => .bad
theorem df_rep (ha : PE X a (tF T W ml)) (hb : PE X b (tD T W mb)) : PE X (.BinOp a .Mult b pos) (tF T W (mRepF ml mb)) := PE.imp (pe_op op_rep ha hb) fun σ H Q ⟨x, s, k, h⟩ => by
  refine ⟨x, s, k, ?_⟩
  unfold mRepF M.bind at h
  cases e1 : ml s with
  | exc c ns vs sto => rw [e1] at h; exact h
  | bad => rw [e1] at h; exact h
  | ok xs s1 =>
    rw [e1] at h
    simp only at h
    intro x1 p H1 k1 st1 o1
    obtain ⟨k2, st2⟩ := o1.leave k1
    obtain ⟨vs, hp, rs⟩ := o1.l
    refine ⟨_, s1, k2, ?_⟩
    cases e2 : mb s1 with
    | exc c ns vs sto => rw [e2] at h; exact h.back (st1.trans st2)
    | bad => rw [e2] at h; exact h
    | ok d s2 =>
      rw [e2] at h
      simp only at h
      intro x3 v3 H3 k3 st3 r3
      cases r3 with
      | int n =>
        have hl := rs.length
        by_cases hc : -(2 ^ 63) ≤ n ∧ n < 2 ^ 63 ∧ xs.length * n.toNat ≤ sizeLine
        · simp only [if_pos hc] at h
          refine ⟨p, n, vs, rfl, rfl, st3.fr p _ hp (fun z => z.2 rfl), hc.1, hc.2.1, by rw [hl]; exact hc.2.2, fun l hln => ?_⟩
          have rs3 : Reps T x3.io x3.G vs xs := rs.mono st3.io st3.le
          obtain ⟨x4, io4, g4, k4, st4, o4⟩ := k3.lay hln (rs3.rep n.toNat)
          exact h x4 l _ k4 (st1.trans (st2.trans (st3.trans st4))) o4
        · simp only [if_neg hc] at h
      | _ => exact h.elim
/-! ### local dicts -/
theorem lk_valV {io : Io} {G : Hp} {k : Key} : ∀ {ks : List Key} {vs : List V} {ds : List D}, ks.length = ds.length → Reps T io G vs ds → (∀ d, lk ks ds k = some d → ∃ v, valV (ks.zip vs) k = some v ∧ Rep T io G v d) ∧ (lk ks ds k = none → valV (ks.zip vs) k = none)
  | [], _, _, _, _ => ⟨fun d h => (by cases h), fun _ => rfl⟩
  | q :: ks, vs, [], hl, _ => by simp at hl
  | q :: ks, _, d0 :: ds, hl, .cons (v := v0) (vs := vs) r1 r2 => by
    obtain ⟨i1, i2⟩ := lk_valV (k := k) (by simpa using hl) r2
    by_cases hq : k = q
    · refine ⟨fun d h => ?_, fun h => ?_⟩
      · unfold lk at h
        rw [if_pos hq] at h
        cases h
        exact ⟨v0, by rw [List.zip_cons_cons]; exact valV_pos hq.symm, r1⟩
      · unfold lk at h
        rw [if_pos hq] at h; cases h
    · have hn : valV ((q, v0) :: ks.zip vs) k = valV (ks.zip vs) k := by
        unfold valV
        rw [List.find?_cons_of_neg]
        simpa using fun z => hq z.symm
      refine ⟨fun d h => ?_, fun h => ?_⟩
      · unfold lk at h
        rw [if_neg hq] at h
        rw [List.zip_cons_cons, hn]; exact i1 d h
      · unfold lk at h
        rw [if_neg hq] at h
        rw [List.zip_cons_cons, hn]; exact i2 h
def asKey : D → Option Key
  | .int i => some (.inl i)
  | .str z => some (.inr z)
  | _ => none
def gIxD (a b : D) : Option D := match a, asKey b with
  | .dic ks ds, some k => lk ks ds k
  | _, _ => none
def gInD (b a : D) : Option D := match a, asKey b with
  | .dic ks ds, some k => some (.bl (lk ks ds k).isSome)
  | _, _ => none
def gNotInD (b a : D) : Option D := match a, asKey b with
  | .dic ks ds, some k => some (.bl (!(lk ks ds k).isSome))
  | _, _ => none
theorem asKey_kV {io : Io} {G : Hp} {v : V} {d : D} {k : Key} (r : Rep T io G v d) (h : asKey d = some k) : v = kV k := by
  unfold asKey at h
  split at h
  · cases h; cases r; rfl
  · cases h; cases r; rfl
  · cases h
theorem p_ixD : P2 T (fun x y H Q => ∃ a v, x = .ref a ∧ DGet H a y (some v) ∧ Q v H) gIxD := fun io G v u d e z H Q r1 r2 le q k => by
  unfold gIxD at q
  split at q
  · rename_i ks ds key hk
    cases r1 with
    | dic rd hl nd rs =>
      obtain ⟨w, e1, rw1⟩ := (lk_valV hl rs).1 z q
      exact ⟨_, w, rfl, .inl ⟨_, key, le.rd rd, asKey_kV r2 hk, e1.symm⟩, k G w H (.refl le) rw1⟩
  · cases q
theorem p_inD {neg : Bool} : P2 T (fun y x H Q => ∃ a o, x = .ref a ∧ DGet H a y o ∧ Q (.bl (if neg then !o.isSome else o.isSome)) H) (if neg then gNotInD else gInD) := fun io G v u d e z H Q r1 r2 le q k => by
  have main : ∀ (ks : List Key) (ds : List D) (key : Key), e = .dic ks ds → asKey d = some key → (∀ o : Option V, o.isSome = (lk ks ds key).isSome → Q (.bl (if neg then !o.isSome else o.isSome)) H) → ∃ a o, u = .ref a ∧ DGet H a v o ∧ Q (.bl (if neg then !o.isSome else o.isSome)) H := by
    intro ks ds key e0 hk hq
    subst e0
    cases r2 with
    | dic rd hl nd rs =>
      cases e1 : lk ks ds key with
      | none =>
        have := (lk_valV hl rs).2 e1
        exact ⟨_, none, rfl, .inl ⟨_, key, le.rd rd, asKey_kV r1 hk, this.symm⟩, hq none (by rw [e1]; rfl)⟩
      | some d1 =>
        obtain ⟨w, e2, _⟩ := (lk_valV hl rs).1 d1 e1
        exact ⟨_, some w, rfl, .inl ⟨_, key, le.rd rd, asKey_kV r1 hk, e2.symm⟩, hq (some w) (by rw [e1]; rfl)⟩
  cases neg with
  | false =>
    have q : gInD d e = some z := q
    unfold gInD at q
    split at q
    · rename_i ks ds key hk _
      cases q
      exact main _ _ _ rfl hk fun o ho => by
        show Q (.bl o.isSome) H
        rw [ho]; exact k G _ H (.refl le) (.bl _)
    · cases q
  | true =>
    have q : gNotInD d e = some z := q
    unfold gNotInD at q
    split at q
    · rename_i ks ds key hk _
      cases q
      exact main _ _ _ rfl hk fun o ho => by
        show Q (.bl (!o.isSome)) H
        rw [ho]; exact k G _ H (.refl le) (.bl _)
    · cases q
theorem de_ixD {k0 : Nat} (hr : Room k0 X.A) (ha : PE X a (tD T W ma)) (hb : PE X b (tD T W mb)) (hs : NoSl b) : PE X (.Subscript a b pos) (tD T W (m2 gIxD ma mb)) :=
  PE.imp (pe_dget (by have := hr.un; omega) ha hb hs) fun _ _ _ h => t2 p_ixD h
theorem de_inD {k0 : Nat} (hr : Room k0 X.A) (ha : PE X a (tD T W ma)) (hb : PE X b (tD T W mb)) (hm : behindInMarks .In b = false) : PE X (.Compare a [.In] [b] pos) (tD T W (m2 gInD ma mb)) :=
  PE.imp (pe_cmp (pc_din (by have := hr.un; omega) ha hb) hm) fun _ _ _ h => t2 (p_inD (neg := false)) h
theorem de_notinD {k0 : Nat} (hr : Room k0 X.A) (ha : PE X a (tD T W ma)) (hb : PE X b (tD T W mb)) (hm : behindInMarks .NotIn b = false) : PE X (.Compare a [.NotIn] [b] pos) (tD T W (m2 gNotInD ma mb)) :=
  PE.imp (pe_cmp (pc_dnotin (by have := hr.un; omega) ha hb) hm) fun _ _ _ h => t2 (p_inD (neg := true)) h
theorem dt_inD {k0 : Nat} (hr : Room k0 X.A) (ha : PE X a (tD T W ma)) (hb : PE X b (tD T W mb)) (hm : behindInMarks .In b = false) : PT X (.Compare a [.In] [b] pos) (tB T W (mT (m2 gInD ma mb))) :=
  PT.imp (pt_cmp (pc_din (by have := hr.un; omega) ha hb) hm) fun _ _ _ q => by
    obtain ⟨x, s, k, h⟩ := tT q
    exact t2 (p_inD (neg := false)) ⟨x, s, k, h⟩
theorem dt_notinD {k0 : Nat} (hr : Room k0 X.A) (ha : PE X a (tD T W ma)) (hb : PE X b (tD T W mb)) (hm : behindInMarks .NotIn b = false) : PT X (.Compare a [.NotIn] [b] pos) (tB T W (mT (m2 gNotInD ma mb))) :=
  PT.imp (pt_cmp (pc_dnotin (by have := hr.un; omega) ha hb) hm) fun _ _ _ q => by
    obtain ⟨x, s, k, h⟩ := tT q
    exact t2 (p_inD (neg := true)) ⟨x, s, k, h⟩
end
end Ev

/-! E29: displays of dicts with written text keys. -/
namespace Ev
open PySem PySem.Spec L2
section
variable {T : Tx} {W : WX} {X : Cx} {pos : Pos}
theorem tD.mono {m : M D} {σ : L2.St} {H : Hp} {Q Q' : VK} (h : tD T W m σ H Q) (k : ∀ v H, Q v H → Q' v H) : tD T W m σ H Q' := by
  obtain ⟨x, s, ok, h⟩ := h
  refine ⟨x, s, ok, ?_⟩
  cases e : m s with
  | ok d s' => rw [e] at h; exact fun x' v H' k1 st r => k _ _ (h x' v H' k1 st r)
  | exc c ns vs sto => rw [e] at h; exact h
  | bad => rw [e] at h; exact h
theorem tDs.mono {m : M (List D)} {σ : L2.St} {H : Hp} {Q Q' : List V → Hp → Prop} (h : tDs T W m σ H Q) (k : ∀ v H, Q v H → Q' v H) : tDs T W m σ H Q' := by
  obtain ⟨x, s, ok, h⟩ := h
  refine ⟨x, s, ok, ?_⟩
  cases e : m s with
  | ok d s' => rw [e] at h; exact fun x' v H' k1 st r => k _ _ (h x' v H' k1 st r)
  | exc c ns vs sto => rw [e] at h; exact h
  | bad => rw [e] at h; exact h
/-- an object that is neither shared nor one's own is written -/
theorem Ok.aside' {x : Gh} {s : Sx} {σ : L2.St} {H : Hp} (k : Ok T x s σ H) {L : Addr} {o : HO} (hu : ¬ x.U L) (hg : x.G L = none) : Ok T x s σ (L2.upd H L o) := by
  refine ⟨⟨k.bx.n, fun j ys q => ?_, k.bx.inU, k.bx.inj, fun c u q => ?_, k.bx.off, fun c u => ?_, fun p hp => ⟨(k.bx.tab p hp).1, ?_⟩, k.bx.lo⟩, k.len, k.sh, fun i xs e => ?_, k.owi, k.th, k.od.of (.refl _) (.refl _) (fun _ _ _ e => ⟨e, rfl⟩) fun a kvs e u => ⟨by rw [upd_ne (fun z => hu (by rw [← z]; exact u))]; exact e, u⟩⟩
  · obtain ⟨vs, h1, h2⟩ := k.bx.at_ j ys q
    exact ⟨vs, by rw [upd_ne (fun z => hu (by rw [← z]; exact k.bx.inU j (List.getElem?_eq_some_iff.mp q).1))]; exact h1, h2⟩
  · rw [upd_ne (fun z => by subst z; rw [hg] at q; cases q)]
    exact k.bx.sub c u q
  · by_cases hc : c = L
    · subst hc; exact ⟨_, upd_same⟩
    · rw [upd_ne hc]; exact k.bx.trk c u
  · obtain ⟨ps, e1, e2⟩ := (k.bx.tab p hp).2
    exact ⟨ps, by rw [upd_ne (fun z => hu (by rw [← z]; exact (k.bx.tab p hp).1))]; exact e1, e2⟩
  · obtain ⟨a, vs, h1, h2, h3, h4, h5⟩ := k.ow i xs e
    exact ⟨a, vs, h1, by rw [upd_ne (fun z => hu (by rw [← z]; exact h4))]; exact h2, h3, h4, h5⟩
/-- what stands aside is shared from now on -/
theorem Ok.reveal {x : Gh} {s : Sx} {σ : L2.St} {H : Hp} (k : Ok T x s σ H) {L : Addr} {o : HO} (h : H L = some o) (hu : ¬ x.U L) (hg : x.G L = none) : Ok T ⟨x.io, L2.upd x.G L o, x.U⟩ s σ H ∧ Le x.G (L2.upd x.G L o) := by
  have le : Le x.G (L2.upd x.G L o) := .upd hg
  refine ⟨⟨⟨k.bx.n, fun j ys q => ?_, k.bx.inU, k.bx.inj, fun c u q => ?_, fun c u q z => ?_, k.bx.trk, fun p hp => ⟨(k.bx.tab p hp).1, (k.bx.tab p hp).2.ext le fun _ _ e => e⟩, ⟨k.bx.lo.1, k.bx.lo.2.trans le⟩⟩, k.len, fun i d e => ?_, fun i xs e => ?_, k.owi, k.th, k.od.of (.refl _) le (fun _ _ _ e => ⟨e, rfl⟩) fun _ _ e u => ⟨e, u⟩⟩, le⟩
  · obtain ⟨vs, h1, h2⟩ := k.bx.at_ j ys q
    exact ⟨vs, h1, h2.up le⟩
  · have q : L2.upd x.G L o c = some u := q
    by_cases hc : c = L
    · subst hc; rw [upd_same] at q; rw [← q]; exact h
    · rw [upd_ne hc] at q; exact k.bx.sub c u q
  · have q : L2.upd x.G L o c = some u := q
    by_cases hc : c = L
    · subst hc; exact hu z
    · rw [upd_ne hc] at q; exact k.bx.off c u q z
  · obtain ⟨v, h1, h2⟩ := k.sh i d e
    exact ⟨v, h1, h2.up le⟩
  · obtain ⟨a, vs, h1, h2, h3, h4, h5⟩ := k.ow i xs e
    exact ⟨a, vs, h1, h2, h3.up le, h4, h5⟩
/-- the pairs of a display -/
structure DP (T : Tx) (W : WX) (X : Cx) (pos : Pos) (keys : List (Option Expr)) (values : List Expr) (ks : List Str) (m : M (List D)) : Prop where
  ex : ∃ trs, PPs X pos keys values trs ∧ ∀ σ H Q, tDs T W m σ H (fun vs H' => Q ((ks.zip vs).map fun q => (V.str q.1, q.2)) H') → tPairs trs σ H Q
  len : keys.length = values.length
  all : keys.all (·.isSome) = true
  lk : keys.length = ks.length
  ar : Ar ks.length m
theorem dp_nil : DP T W X pos [] [] [] mNil := ⟨⟨[], pps_nil, fun σ H Q ⟨x, s, k, h⟩ => h x [] H k (.refl _ _) .nil⟩, rfl, rfl, rfl, ar_nil⟩
theorem dp_cons {keys : List (Option Expr)} {values : List Expr} {ks : List Str} {m : M (List D)} {k : Str} {j : Nat} {p : Pos} {v : Expr} {ma : M D} (ha : PE X v (tD T W ma)) (h : DP T W X pos keys values ks m) : DP T W X pos (some (.Constant (.str k) j p) :: keys) (v :: values) (k :: ks) (mCons ma m) := by
  obtain ⟨trs, h1, h2⟩ := h.ex
  refine ⟨⟨_, pps_cons pe_str ha h1, fun σ H Q q => ?_⟩, by simp [h.len], by simp [h.all], by simp [h.lk], ar_cons h.ar⟩
  have q2 := tDs_cons q
  show tD T W ma σ H fun y H2 => tPairs trs σ H2 fun ps H3 => Q ((V.str k, y) :: ps) H3
  exact tD.mono q2 fun y H2 q3 => h2 σ H2 _ (tDs.mono q3 fun vs H3 q4 => by simpa using q4)
theorem nodup_inr {ks : List Str} (h : ks.Nodup) : (ks.map (Sum.inr : Str → Key)).Nodup := by
  unfold List.Nodup at *
  rw [List.pairwise_map]
  exact h.imp fun h e => h (Sum.inr.inj e)
def mDisp (ks : List Str) (m : M (List D)) : M D := M.bind m fun ds => M.pure (.dic (ks.map .inr) ds)
theorem putK_new {kvs : List (Key × V)} {k : Key} {v : V} (h : k ∉ kvs.map (·.1)) : putK kvs k v = kvs ++ [(k, v)] := by
  unfold putK
  rw [if_neg]
  simp only [List.any_eq_true, decide_eq_true_eq, not_exists, not_and]
  intro q hq e
  exact h (List.mem_map.mpr ⟨q, hq, e⟩)
theorem mergeK_new : ∀ {more kvs : List (Key × V)}, ((kvs ++ more).map (·.1)).Nodup → mergeK kvs more = kvs ++ more
  | [], kvs, _ => by simp [mergeK]
  | p :: r, kvs, h => by
    have hp : p.1 ∉ kvs.map (·.1) := by
      rw [List.map_append, List.nodup_append] at h
      exact fun z => h.2.2 _ z _ (by simp) rfl
    show mergeK (putK kvs p.1 p.2) r = _
    rw [putK_new hp, mergeK_new (by simpa using h)]
    simp
theorem de_disp {keys : List (Option Expr)} {values : List Expr} {ks : List Str} {m : M (List D)} (h : DP T W X pos keys values ks m) (nd : ks.Nodup) (h0 : keys ≠ []) (h15 : ks.length ≤ 15) : PE X (.Dict keys values pos) (tD T W (mDisp ks m)) := by
  obtain ⟨trs, h1, h2⟩ := h.ex
  refine PE.imp (pe_disp h1 h.all h.len h0 (by rw [h.lk]; exact h15)) fun σ H Q ⟨x, s, k, q⟩ => fun p hp => h2 σ _ _ ?_
  have hu : ¬ x.U p := fun z => by
    obtain ⟨o, e⟩ := k.bx.trk p z
    rw [hp] at e; cases e
  have hg : x.G p = none := k.bx.sub.none hp
  refine ⟨x, s, k.aside' hu hg, ?_⟩
  unfold mDisp M.bind M.pure at q
  have st0 : Stp x H x (L2.upd H p (.dK [])) := (Stp.refl x H).aside hp
  cases e : m s with
  | exc c ns vs sto => rw [e] at q; exact q.back st0
  | bad => rw [e] at q; exact q
  | ok ds s' =>
    rw [e] at q
    simp only at q
    intro x2 vs H2 k2 st2 r2
    have h2p : H2 p = some (.dK []) := st2.fr p _ upd_same hu
    have hu2 : ¬ x2.U p := fun z => by
      rcases st2.un p z with w | w
      · exact hu w
      · rw [upd_same] at w; cases w
    have hg2 : x2.G p = none := by
      cases e2 : x2.G p with
      | none => rfl
      | some o =>
        rcases st2.new p o e2 with w | w | w
        · rw [hg] at w; cases w
        · exact absurd w hu
        · rw [upd_same] at w; cases w
    have hlen : vs.length = ks.length := r2.length.trans (h.ar s ds s' e)
    have kz : (((ks.map Sum.inr).zip vs : List (Key × V)).map (·.1)) = ks.map Sum.inr := by
      rw [List.map_fst_zip]
      simp [hlen]
    refine ⟨h2p, (ks.map Sum.inr).zip vs, ?_, by simp [hlen]; omega, ?_⟩
    · rw [List.zip_map_left, List.map_map]
      rfl
    · have em : mergeK [] ((ks.map Sum.inr).zip vs : List (Key × V)) = (ks.map Sum.inr).zip vs := by
        rw [mergeK_new]
        · rfl
        · rw [List.nil_append, kz]
          exact nodup_inr nd
      rw [em]
      have k3 := k2.aside' (o := .dK ((ks.map Sum.inr).zip vs)) hu2 hg2
      obtain ⟨k4, le4⟩ := k3.reveal upd_same hu2 hg2
      refine q _ _ _ k4 ⟨st2.io, st2.le.trans le4, fun a o e n => ?_, fun a o e => ?_, fun a u => ?_, fun a e => ?_⟩ (.dic (.inl upd_same) (by simp [h.ar s ds s' e]) (nodup_inr nd) (r2.up le4))
      · have ha : a ≠ p := ne_of_none e hp
        rw [upd_ne ha]
        exact st2.fr a o (by rw [upd_ne ha]; exact e) n
      · have e : L2.upd x2.G p _ a = some o := e
        by_cases ha : a = p
        · subst ha; exact .inr (.inr hp)
        · rw [upd_ne ha] at e
          rcases st2.new a o e with w | w | w
          · exact .inl w
          · exact .inr (.inl w)
          · rw [upd_ne ha] at w; exact .inr (.inr w)
      · rcases st2.un a u with w | w
        · exact .inl w
        · by_cases ha : a = p
          · subst ha; exact .inr hp
          · rw [upd_ne ha] at w; exact .inr w
      · by_cases ha : a = p
        · subst ha; exact hp
        · rw [upd_ne ha] at e
          have := st2.th a e
          rw [upd_ne ha] at this; exact this
end
end Ev

/-! E30: a tuple enumerated, in the model. -/
namespace EnT
open PySem
open PySem.Sem (wp)
open AutoSeq1 (wpAny_loadPart')
theorem meets_newT (l : Addr) (items : Array Value) (n : Nat) (dct : Option Addr) (sl : Array (Option Value)) :
    Meets (Builtin.«enumerate.__new__» ⟨[.type "enumerate", .ref l], []⟩) (fun _ R s => s.heap.get? l = some { cls := .type "tuple", dict := dct, data := .seq items n, slots := sl } ∧
      R (.ok (.ret (.ref (s.heap.push { cls := .type "tuple_iterator", data := .fields #[.ref l, .int 0 0] }).objs.size)))
        { s with heap := (s.heap.push { cls := .type "tuple_iterator", data := .fields #[.ref l, .int 0 0] }).push { cls := .type "enumerate", data := .fields #[.none, .bool false, .ref s.heap.objs.size, rawInt 0, .none, .none] } }) :=
  .of_wp fun prog w A R s q => by
    obtain ⟨ho, gl, dd, tk, os⟩ := s
    obtain ⟨hl, q⟩ := q
    have sE := sub_enumerate
    have hT : Heap.IsTuple (Shared.heap ⟨ho, gl, dd, tk, os⟩) l items := ⟨_, hl, rfl, n, rfl⟩
    wp_walk using wpAny_loadPart' hl
    refine wpAny_stack_any fun sk => wpAny_pure ?_
    split
    · rename_i c _ _ _ _ _
      cases (c == Value.type "enumerate")
      · wp_walk using wpAny_loadPart' hl, wpAny_pyIter_tuple hT
        exact ⟨_, rfl, q⟩
      · wp_walk using wpAny_loadPart' hl, wpAny_pyIter_tuple hT
        exact ⟨_, rfl, q⟩
    · wp_walk using wpAny_loadPart' hl, wpAny_pyIter_tuple hT
      exact ⟨_, rfl, q⟩
section
variable {prog : Program} {w : World} {A : Around} {E : Value → Shared → Prop} {s : Shared}
theorem call_enumT {l : Addr} {items : Array Value} {Q : Value → Shared → Prop} (hT : s.heap.IsTuple l items)
    (k : ∀ h', IsEnum h' (s.heap.objs.size + 1) s.heap.objs.size 0 .none → h'.IsTupleIter s.heap.objs.size l 0 → h'.objs.size = s.heap.objs.size + 2 →
      (∀ b o, s.heap.get? b = some o → h'.get? b = some o) → Q (.ref (s.heap.objs.size + 1)) { s with heap := h' }) :
    wpAny (model prog w) A (call (.type "enumerate") [.ref l]) Q E s := by
  obtain ⟨⟨cc, dct, dt, sl⟩, hl, h1, n, h2⟩ := hT
  replace h1 : cc = .type "tuple" := h1
  replace h2 : dt = .seq items n := h2
  subst h1 h2
  refine callType_new F.called_enumerate (by decide) (F.typeCall_enumerate_1 _) (F.newCall_enumerate_1 _) (fun ob => F.args_object_init_2 ob _) F.entry_enumerate_new
    (meets_newT l items n dct sl) ⟨hl, ?_⟩
  have hz : (s.heap.push { cls := .type "tuple_iterator", data := .fields #[.ref l, .int 0 0] }).objs.size = s.heap.objs.size + 1 := Heap.size_push ..
  show _ ∧ _
  rw [hz]
  have en : IsEnum ((s.heap.push { cls := .type "tuple_iterator", data := .fields #[.ref l, .int 0 0] }).push
      { cls := .type "enumerate", data := .fields #[.none, .bool false, .ref s.heap.objs.size, rawInt 0, .none, .none] }) (s.heap.objs.size + 1) s.heap.objs.size 0 .none := by
    have z := Heap.get?_push_size (s.heap.push { cls := .type "tuple_iterator", data := .fields #[.ref l, .int 0 0] })
      (o := { cls := .type "enumerate", data := .fields #[.none, .bool false, .ref s.heap.objs.size, rawInt 0, .none, .none] }) rfl
    rw [hz] at z; exact z
  refine ⟨⟨_, en, rfl⟩, k _ en ⟨_, Heap.get?_push_of_some _ (Heap.get?_push_size _ rfl), rfl, rfl⟩ (by rw [Heap.size_push, hz]) fun b o x => Heap.get?_push_of_some _ (Heap.get?_push_of_some _ x)⟩
end
theorem drawsT {prog : Program} {w : World} {A : Around} (hh : A.handled = none) (it l : Addr) (hne : l ≠ it) (items : Array Value) :
    Draws prog w A it [it, l] items.size (fun i v => items[i]? = some v) (fun i h => h.IsTupleIter it l i ∧ h.IsTuple l items) where
  live := fun _ _ st => let ⟨o, ho, _⟩ := st.1; ⟨o, ho⟩
  frame := fun _ _ _ st hk => ⟨st.1.at fun o e => hk it (by simp) o e, let ⟨o, ho, r⟩ := st.2; ⟨o, hk l (by simp) o ho, r⟩⟩
  item := fun i s Q E hi st hQ => RZ.nextOf_tuple_item st.1 st.2 (x := items[i]) (by simp [hi]) fun h' hit' hs' => hQ _ h' s.toks (by simp [hi]) ⟨hit', st.2.extBut hs'.extBut hne⟩ hs'
  done := fun s Q E st hE => RZ.nextOf_tuple_end hh st.1 st.2 (by simp) hE
theorem enumT_end {prog : Program} {w : World} {A : Around} {E : Value → Shared → Prop} {s : Shared} {e it l : Addr} {i : Nat} {items : Array Value} {j : Int} {old : Value} {Q : Option Value → Shared → Prop} (hh : A.handled = none)
    (he : IsEnum s.heap e it j old) (hit : s.heap.IsTupleIter it l i) (hT : s.heap.IsTuple l items) (hx : items[i]? = none) (k : ∀ h', Heap.ExtBut it s.heap h' → Q none { s with heap := h' }) : wpAny (model prog w) A (pyNext (.ref e)) Q E s := by
  have ty : s.TypeIs (.ref e) "enumerate" := ⟨_, he, rfl⟩
  unfold pyNext
  refine wpAny_bind (wpAny_attempt (wpAny_callSpecial?_slot (name := Str.ofString "__next__") ty F.slot_enumerate_next
    (wpAny_call_entry F.slot_enumerate_next ty F.entry_enumerate_next ?_ (F.args_enumerate_next_1 _))))
  show wpAny _ _ (field (.ref e) 2 >>= _) _ _ _
  refine wpAny_bind (wpAny_field he rfl (x := .ref it) rfl ?_)
  refine wpAny_bind (RZ.nextOf_tuple_end (show A.in1.handled = none from hh) hit hT hx fun h' x he' hx' => ?_)
  obtain ⟨o, ho, hc⟩ := hx'
  exact wpAny_bind (wpAny_isInstance (T := "StopIteration") (b := true) ⟨o, ho, hc⟩ isSubtype_stop (wpAny_pure (k _ he')))
end EnT
namespace L2
open PySem PySem.Spec PyProof.Rows
/-- the tuple at a as it stands, each item in a new pair -/
def IteT (K : PySem.W.Frag) (a : Addr) : It :=
  ⟨fun i H => ∃ (xs : List V) (x : V), SqT K H a xs ∧ xs[i]? = some x, fun i H v H' => ∃ T x, v = .ref T ∧ H T = none ∧ H' = upd H T (.tup [.int (i : Nat), x]) ∧ ∀ xs, SqT K H a xs → xs[i]? = some x, fun i H => ∃ xs : List V, SqT K H a xs ∧ xs.length ≤ i⟩
theorem turn_enumT {P : Program} {w : World} {K : PySem.W.Frag} {elts : List Expr} {kk : Nat} {tpos : Pos} (a e it : Addr) (hai : a ≠ it) (hae : a ≠ e) :
    Turn P w K (.Tuple elts kk tpos) (IteT K a) [e, it] e (fun i h => (∃ old, IsEnum h e it ((i : Nat) : Int) old) ∧ h.IsTupleIter it a i ∧ e ≠ it) where
  mem := by simp
  obj := fun i h st b hb => by
    obtain ⟨⟨old, he⟩, ⟨o, ho, hc, hd⟩, _⟩ := st
    rcases (by simpa using hb : b = e ∨ b = it) with z | z
    · rw [z]; exact ⟨_, he, fun v q => nomatch q⟩
    · rw [z]; exact ⟨o, ho, fun v q => by rw [hd] at q; cases q⟩
  keep := fun i h h' st k => let ⟨⟨old, he⟩, hi, hne⟩ := st; ⟨⟨old, k e (by simp) _ he⟩, hi.at fun o q => k it (by simp) o q, hne⟩
  item := by
    intro X hP hw hK hc i pins s σ H E I hf st hg
    subst hP hw hK
    obtain ⟨⟨old, he⟩, hit, hne⟩ := st
    obtain ⟨xs, x, hq, hx⟩ := hg
    obtain ⟨its, rv, p, hz⟩ := I.tuple hq
    obtain ⟨u, hu, ru⟩ := rv.get hx
    have hT : s.heap.IsTuple a its.toArray := p
    have hel : e < s.heap.objs.size := Heap.lt_size he
    have hil : it < s.heap.objs.size := by obtain ⟨_, q, _⟩ := hit; exact Heap.lt_size q
    have hlt : i < its.toArray.size := by
      have := (List.getElem?_eq_some_iff.mp hu).1
      simpa using this
    refine wpAny_pyNext_enum_itemD (EnT.drawsT (show X.A.in1.handled = none from I.ok.hd hc) it a hai its.toArray) he ⟨hit, hT⟩ hlt hne (by simp; exact ⟨hne, fun z => hae z.symm⟩) fun y h' tk hy ho hit' hT' hsz hk => ?_
    have ey : y = u := by
      have hy : its.toArray[i]? = some y := hy
      rw [List.getElem?_toArray, hu] at hy
      exact (Option.some.inj hy).symm
    subst ey
    refine ⟨_, rfl, wpAny_letOwnedTupleGo_enum (s := { s with heap := h', toks := tk + 1 }) ho fun h2 en2 sb => ?_⟩
    have at2 : h2.get? s.heap.objs.size = some { cls := .type "tuple", data := .seq #[.int i tk, y] } := (sb.2 _ (Nat.ne_of_gt hel)).trans hT'
    have fit2 : ObjOk X.prog X.w (upd H s.heap.objs.size (.tup [.int (i : Nat), x])) h2 s.heap.objs.size (.tup [.int (i : Nat), x]) :=
      ⟨by show 2 ≤ sizeLine; decide, [.int i tk, y], .cons ⟨_, rfl⟩ (.cons ru .nil), ⟨_, at2, rfl, _, rfl⟩⟩
    have I1 : Inv X pins σ (upd H s.heap.objs.size (.tup [.int (i : Nat), x])) { s with heap := h2, toks := tk + 1 } :=
      I.turnedNew (ch := [e, it]) (fun b ob hb q => (sb.2 b (fun z => hb (by simp [z]))).trans (hk b ob (fun z => hb (by simp [z])) (fun z => hb (by simp [z])) q)) hf (Nat.le_refl _) fit2
    refine ⟨.ref s.heap.objs.size, _, I1, rfl, ⟨_, x, rfl, I.hok.fresh (Nat.le_refl _), rfl, fun ys hy => by rw [I.tuple_inj hy hq]; exact hx⟩, ⟨⟨y, ?_⟩, hit'.1.at fun o q => (sb.2 it (Ne.symm hne)).trans q, hne⟩, fun b hb => ?_⟩
    · have : ((i + 1 : Nat) : Int) = (i : Int) + 1 := by omega
      rw [this]
      exact en2
    · have hb' : b < s.heap.objs.size := by
        rcases (by simpa using hb : b = e ∨ b = it) with z | z
        · rw [z]; exact hel
        · rw [z]; exact hil
      rw [upd_ne (Nat.ne_of_lt hb')]
      exact (hf b hb).1
  done := by
    intro X hP hw hK hc i pins s σ H E I hf st hg
    subst hP hw hK
    obtain ⟨⟨old, he⟩, hit, hne⟩ := st
    obtain ⟨xs, hq, hx⟩ := hg
    obtain ⟨its, rv, p, hz⟩ := I.tuple hq
    obtain ⟨f0, f1, f2, f3, f4, f5⟩ := hf it (by simp)
    have hl := rv.length
    exact EnT.enumT_end (I.ok.hd hc) he hit (show s.heap.IsTuple a its.toArray from p) (by simp; omega) fun h' eb => ⟨rfl, I.turned (t' := s.toks) (fun b o hb q => eb b o hb q) f0 f1 f3 f4 f5⟩
  self := fun A i s Q E st h => let ⟨⟨_, en⟩, _⟩ := st; wpAny_pyIter_enum en h
def iEnumT (K : PySem.W.Frag) (ta : TA) : TI := fun σ H R => ta σ H fun vs H1 => ∃ a xs, vs = [.ref a] ∧ SqT K H1 a xs ∧ R (IteT K a) H1
theorem pi_enumT {X : Cx} {e : Expr} {ta : TA} {p pos tpos : Pos} {elts : List Expr} {kk : Nat} (hg : Gl X "enumerate") (hm : X.mg "enumerate" = none) (ha : PA X [e] ta) (hs : starEach [e] X.env = [(false, eval e X.env)] := by rfl) :
    PI X (.Tuple elts kk tpos) (.Call (.Name "enumerate" p) [e] [] pos) (iEnumT X.K ta) := by
  refine ⟨fun pins s σ H R I h => ?_⟩
  refine Call_ (ld_blt I hg hm boot_enumerate (PyProof.Rows.callWith_type1 (thn (ha.run pos pins s σ H _ I h) fun us s1 ⟨vs, H1, I1, r1, q1⟩ => ?_) hs rfl))
  obtain ⟨a, xs, ev, hq, q⟩ := q1
  subst ev
  cases r1 with
  | cons r rr =>
    cases rr
    cases r
    obtain ⟨its, rv, tp, hz⟩ := I1.tuple hq
    have tp : s1.heap.IsTuple a its.toArray := tp
    have ha : a < s1.heap.objs.size := by
      obtain ⟨o, ho, _⟩ := tp
      exact Heap.lt_size ho
    refine EnT.call_enumT tp fun h' en hit hsz hk => wpAny_pyIter_enum en ?_
    have I2 : Inv X pins σ H1 { s1 with heap := h' } := I1.kept (t' := s1.toks) hk
    refine ⟨s1.heap.objs.size + 1, [s1.heap.objs.size + 1, s1.heap.objs.size], _, _, H1, rfl, I2, turn_enumT a (s1.heap.objs.size + 1) s1.heap.objs.size (Nat.ne_of_lt ha) (Nat.ne_of_lt (Nat.lt_succ_of_lt ha)), ⟨⟨.none, en⟩, hit, Nat.succ_ne_self _⟩, fun b hb => ?_, q⟩
    have hle : s1.heap.objs.size ≤ b := by
      rcases (by simpa using hb : b = s1.heap.objs.size + 1 ∨ b = s1.heap.objs.size) with z | z
      · rw [z]; exact Nat.le_add_right _ _
      · rw [z]; exact Nat.le_refl _
    exact I1.fpOk hle (I1.hok.fresh hle)
end L2

/-! E31: enumerate, a star in a display, pop, two own lists at once. -/
namespace Ev
open PySem PySem.Spec L2
section
variable {T : Tx} {W : WX} {X : Cx} {e : Expr} {es : List Expr} {ma : M D} {ml : M (List D)} {pos : Pos}
/-! ### enumerate -/
def enumL : Nat → List D → List D
  | _, [] => []
  | i, d :: r => .tup [.int (i : Nat), d] :: enumL (i + 1) r
theorem enumL_get : ∀ {xs : List D} {i j : Nat}, (enumL j xs)[i]? = xs[i]?.map fun d => .tup [.int ((j + i : Nat) : Int), d]
  | [], i, j => by simp [enumL]
  | x :: xs, 0, j => by simp [enumL]
  | x :: xs, i + 1, j => by
    unfold enumL
    rw [List.getElem?_cons_succ, List.getElem?_cons_succ, enumL_get, Nat.add_right_comm, Nat.add_assoc]
theorem enumL_len : ∀ {xs : List D} {j : Nat}, (enumL j xs).length = xs.length
  | [], _ => rfl
  | x :: xs, j => by unfold enumL; rw [List.length_cons, List.length_cons, enumL_len]
def mEnum (m : M D) : M (List D) := M.bind m fun d => M.lift ((itemsOf d).map (enumL 0))
theorem src_enumL {io : Io} {G : Hp} {a : Addr} {vs : List V} {ds : List D} (sq : SqL T.K G a vs) (rs : Reps T io G vs ds) : Src T io G (Ite T.K a) (enumL 0 ds) := by
  refine ⟨fun i H le hi => ⟨vs, le.sqL sq, by rw [rs.length]; rw [enumL_len] at hi; omega⟩, fun i H le hi => ?_, fun i H v H' G1 d le le1 hd hy => ?_⟩
  · rw [enumL_len] at hi
    obtain ⟨v, h1, _⟩ := rs.get (List.getElem?_eq_getElem hi)
    exact ⟨vs, v, le.sqL sq, h1⟩
  · obtain ⟨t, x, rfl, hn, rfl, hx⟩ := hy
    rw [enumL_get] at hd
    cases e : ds[i]? with
    | none => rw [e] at hd; cases hd
    | some y =>
      rw [e] at hd
      obtain ⟨v', h1, h2⟩ := rs.get e
      have h3 := hx vs ((le.trans le1).sqL sq)
      rw [h1] at h3
      cases h3
      have hd := Option.some.inj hd
      subst hd
      have gr := Grow.one (o := .tup [.int (i : Nat), x]) le1 hn
      refine ⟨_, gr, .tup (.inl (.inl upd_same)) (.cons ?_ (.cons ((h2.up le).up gr.g) .nil))⟩
      rw [Nat.zero_add]
      exact .int _
theorem src_enumT {io : Io} {G : Hp} {a : Addr} {vs : List V} {ds : List D} (sq : SqT T.K G a vs) (rs : Reps T io G vs ds) : Src T io G (L2.IteT T.K a) (enumL 0 ds) := by
  refine ⟨fun i H le hi => ⟨vs, le.sqT sq, by rw [rs.length]; rw [enumL_len] at hi; omega⟩, fun i H le hi => ?_, fun i H v H' G1 d le le1 hd hy => ?_⟩
  · rw [enumL_len] at hi
    obtain ⟨v, h1, _⟩ := rs.get (List.getElem?_eq_getElem hi)
    exact ⟨vs, v, le.sqT sq, h1⟩
  · obtain ⟨t, x, rfl, hn, rfl, hx⟩ := hy
    rw [enumL_get] at hd
    cases e : ds[i]? with
    | none => rw [e] at hd; cases hd
    | some y =>
      rw [e] at hd
      obtain ⟨v', h1, h2⟩ := rs.get e
      have h3 := hx vs ((le.trans le1).sqT sq)
      rw [h1] at h3
      cases h3
      have hd := Option.some.inj hd
      subst hd
      have gr := Grow.one (o := .tup [.int (i : Nat), x]) le1 hn
      refine ⟨_, gr, .tup (.inl (.inl upd_same)) (.cons ?_ (.cons ((h2.up le).up gr.g) .nil))⟩
      rw [Nat.zero_add]
      exact .int _
theorem di_enum {elts : List Expr} {kk : Nat} {tpos p : Pos} (hK : X.K = T.K) (hg : Gl X "enumerate") (hm : X.mg "enumerate" = none) (h : PE X e (tD T W ma)) (hs : starEach [e] X.env = [(false, eval e X.env)] := by rfl)
    (hs2 : starEach [e] X.env = (false, eval e X.env) :: starEach [] X.env := by rfl) : PI X (.Tuple elts kk tpos) (.Call (.Name "enumerate" p) [e] [] pos) (tI T W (mEnum ma)) :=
  PI.imp (PI.or (pi_enum hg hm (pa_cons h pa_nil hs2) hs) (L2.pi_enumT hg hm (pa_cons h pa_nil hs2) hs)) fun σ H R ⟨x, s, k, q⟩ => by
    unfold mEnum M.bind M.lift at q
    cases em : ma s with
    | exc c ns vs sto => rw [em] at q; exact .inl ⟨x, s, k, by rw [em]; exact q⟩
    | bad => rw [em] at q; exact q.elim
    | ok d s' =>
      rw [em] at q
      simp only at q
      cases d with
      | lst xs =>
        refine .inl ⟨x, s, k, ?_⟩
        rw [em]
        intro x' v H' k' st r
        cases r with
        | @lst a vs ds sq rs => exact ⟨a, vs, rfl, by rw [hK]; exact k'.bx.sub.sqL sq, by rw [hK]; exact q x' _ H' k' st (src_enumL sq rs)⟩
      | tup xs =>
        refine .inr ⟨x, s, k, ?_⟩
        rw [em]
        intro x' v H' k' st r
        cases r with
        | @tup a vs ds sq rs => exact ⟨a, vs, rfl, by rw [hK]; exact k'.bx.sub.sqT sq, by rw [hK]; exact q x' _ H' k' st (src_enumT sq rs)⟩
      | _ => exact q.elim
/-! ### a star in a display -/
def mStar (m : M D) (r : M (List D)) : M (List D) := M.bind m fun d => match itemsOf d with
  | some xs => M.bind r fun ys => M.pure (xs ++ ys)
  | none => fun _ => .bad
theorem da_star {p : Pos} (hK : X.K = T.K) (ha : PE X e (tD T W ma)) (hr : PA X es (tDs T W ml)) (hs : starEach (.Starred e p :: es) X.env = (true, eval e X.env) :: starEach es X.env := by rfl) : PA X (.Starred e p :: es) (tDs T W (mStar ma ml)) :=
  PA.imp (StX.pa_star ha hr hs) fun σ H Q ⟨x, s, k, h⟩ => by
    refine ⟨x, s, k, ?_⟩
    unfold mStar M.bind M.pure at h
    cases em : ma s with
    | exc c ns vs sto => rw [em] at h; exact h
    | bad => rw [em] at h; exact h
    | ok d s1 =>
      rw [em] at h
      intro x1 v1 H1 k1 st1 r1
      simp only at h
      have go : ∀ (a : Addr) (vs : List V) (xs : List D), v1 = .ref a → (SqT X.K H1 a vs ∨ SqL X.K H1 a vs) → Reps T x1.io x1.G vs xs → itemsOf d = some xs → ∃ p ys, v1 = V.ref p ∧ (SqT X.K H1 p ys ∨ SqL X.K H1 p ys) ∧ tDs T W ml σ H1 fun zs H2 => Q (ys ++ zs) H2 := by
        intro a vs xs hv sq rs ei
        rw [ei] at h
        simp only at h
        refine ⟨a, vs, hv, sq, x1, s1, k1, ?_⟩
        cases e2 : ml s1 with
        | exc c ns vs sto => rw [e2] at h; exact h.back st1
        | bad => rw [e2] at h; exact h
        | ok ys s2 =>
          rw [e2] at h
          exact fun x2 zs H2 k2 st2 r2 => h x2 _ H2 k2 (st1.trans st2) ((rs.mono st2.io st2.le).append r2)
      cases r1 with
      | @lst a vs ds sq rs => exact go a vs ds rfl (.inr (by rw [hK]; exact k1.bx.sub.sqL sq)) rs rfl
      | @tup a vs ds sq rs => exact go a vs ds rfl (.inl (by rw [hK]; exact k1.bx.sub.sqT sq)) rs rfl
      | _ => exact h.elim
/-! ### x.pop(), x a name of a list of one's own -/
theorem Reps.dropLast {io : Io} {G : Hp} : ∀ {vs : List V} {ds : List D}, Reps T io G vs ds → Reps T io G vs.dropLast ds.dropLast
  | _, _, .nil => .nil
  | _, _, .cons a .nil => .nil
  | _, _, .cons a (.cons b r) => .cons a (Reps.dropLast (.cons b r))
def mPopO (i : Nat) : M D := fun s => match s.env[i]? with
  | some (.ow xs) => match xs[xs.length - 1]? with
    | some d => .ok d (s.own i xs.dropLast)
    | none => .bad
  | _ => .bad
theorem de_popO {z : Str} {i : Nat} {p1 p2 p3 : Pos} (hK : X.K = T.K) (hN : X.N[i]? = some z) (hvis : Vis X.env.scope z)
    (hbase : attributeBase (.Name z p1) "pop" X.env (eval (.Name z p1) X.env) = eval (.Name z p1) X.env := by rfl) (hline : (p2.endLine == p3.line) = true := by rfl)
    (hd : (z == ("__debug__" : Str)) = false := by decide) (hcd : (z == ("__classdict__" : Str)) = false := by decide) : PE X (.Call (.Attribute (.Name z p1) "pop" p2) [] [] p3) (tD T W (mPopO i)) :=
  PE.imp (pe_bm0 PySem.F.plainAttrs_list PySem.F.slot_list_pop PySem.F.type_list_pop mt_pop (pe_var (pos := p1) (i := i) hN hvis hd hcd) hbase hline) fun σ H Q ⟨x, s, k, h⟩ => by
    unfold mPopO at h
    cases q : s.env[i]? with
    | none => rw [q] at h; exact h.elim
    | some sl =>
      cases sl with
      | un => rw [q] at h; exact h.elim
      | th => rw [q] at h; exact h.elim
      | od ks ds => rw [q] at h; exact h.elim
      | sh d => rw [q] at h; exact h.elim
      | ow xs =>
        simp only [q] at h
        obtain ⟨a, vs, h1, h2, h3, h4, h5⟩ := k.ow i xs q
        cases el : xs[xs.length - 1]? with
        | none => rw [el] at h; exact h.elim
        | some d =>
          simp only [el] at h
          obtain ⟨v, hv, rv⟩ := h3.get el
          obtain ⟨k2, st2⟩ := k.write q h1 h3.dropLast
          exact ⟨_, h1, .inl ⟨rfl, vs, by rw [hK]; exact SqL.of h2⟩, a, vs, v, rfl, rfl, h2, by rw [h3.length]; exact hv, h x v _ k2 st2 rv⟩
/-! ### two lists of one's own at once -/
theorem Own.hideStp {x : Gh} {H : Hp} (a : Addr) : Stp x H ⟨x.io, x.G, fun c => x.U c ∧ c ≠ a⟩ H :=
  ⟨.refl _, .refl _, fun _ _ e _ => e, fun _ _ e => .inl e, fun _ u => .inl u.1, fun _ e => e⟩
theorem Ok.hideA {x : Gh} {s : Sx} {σ : L2.St} {H : Hp} {a : Addr} {xs : List D} (k : Ok T x s σ H) (o : Own T x s σ H a xs) : Ok T ⟨x.io, x.G, fun c => x.U c ∧ c ≠ a⟩ s σ H := by
  obtain ⟨vs, ha, _⟩ := o.l
  refine ⟨⟨k.bx.n, k.bx.at_, fun i hi => ⟨k.bx.inU i hi, fun z => o.b i hi z.symm⟩, k.bx.inj, k.bx.sub, fun c u e z => k.bx.off c u e z.1, fun c z => k.bx.trk c z.1, fun p hp => ⟨⟨(k.bx.tab p hp).1, fun z => ?_⟩, (k.bx.tab p hp).2⟩, k.bx.lo⟩, k.len, k.sh, fun i ys q => ?_, k.owi, k.th, k.od.of (.refl _) (.refl _) (fun _ _ _ e => ⟨e, rfl⟩) fun c kvs e u => ⟨e, u, fun z => by subst z; rw [ha] at e; cases e⟩⟩
  · obtain ⟨ps, e1, _⟩ := (k.bx.tab p hp).2
    rw [z, ha] at e1
    cases e1
  · obtain ⟨c, us, z1, z2, r', u', nb'⟩ := k.ow i ys q
    exact ⟨c, us, z1, z2, r', ⟨u', fun hc => o.o i ys q (by rw [← hc]; exact z1)⟩, nb'⟩
theorem Ok.unhideA {x y : Gh} {s s' : Sx} {σ : L2.St} {H H' : Hp} {a : Addr} {xs : List D} (o : Own T x s σ H a xs) (k0 : Ok T x s σ H) (k : Ok T y s' σ H') (st : Stp ⟨x.io, x.G, fun c => x.U c ∧ c ≠ a⟩ H y H') :
    Ok T ⟨y.io, y.G, fun c => y.U c ∨ c = a⟩ s' σ H' ∧ Own T ⟨y.io, y.G, fun c => y.U c ∨ c = a⟩ s' σ H' a xs ∧ Stp x H ⟨y.io, y.G, fun c => y.U c ∨ c = a⟩ H' ∧ ¬ y.U a := by
  obtain ⟨vs, ha, ra⟩ := o.l
  have nu : ¬ y.U a := fun u => by
    rcases st.un a u with z | z
    · exact z.2 rfl
    · rw [ha] at z; cases z
  have ha' : H' a = some (.lst vs) := st.fr a _ ha fun z => z.2 rfl
  have ng : ∀ u, y.G a ≠ some u := fun u e => by
    rcases st.new a u e with z | z | z
    · exact k0.bx.off a u z o.u
    · exact z.2 rfl
    · rw [ha] at z; cases z
  refine ⟨⟨⟨k.bx.n, k.bx.at_, fun i hi => .inl (k.bx.inU i hi), k.bx.inj, k.bx.sub, fun c u e z => ?_, fun c z => ?_, fun p hp => ⟨.inl (k.bx.tab p hp).1, (k.bx.tab p hp).2⟩, k.bx.lo⟩, k.len, k.sh, fun i ys q => ?_, k.owi, k.th, k.od.of (.refl _) (.refl _) (fun _ _ _ e => ⟨e, rfl⟩) fun _ _ e u => ⟨e, .inl u⟩⟩, ⟨.inr rfl, ⟨vs, ha', ra.mono st.io st.le⟩, fun j hj z => nu (by rw [z]; exact k.bx.inU j hj), fun i ys q z => ?_⟩, ⟨st.io, st.le, fun c u e n => st.fr c u e fun z => n z.1, fun c u e => ?_, fun c u => ?_, st.th⟩, nu⟩
  · rcases z with z | z
    · exact k.bx.off c u e z
    · subst z; exact ng u e
  · rcases z with z | z
    · exact k.bx.trk c z
    · subst z; exact ⟨_, ha'⟩
  · obtain ⟨c, us, z1, z2, r', u', nb'⟩ := k.ow i ys q
    exact ⟨c, us, z1, z2, r', .inl u', nb'⟩
  · obtain ⟨c, us, z1, z2, r', u', nb'⟩ := k.ow i ys q
    rw [z1] at z
    cases z
    exact nu u'
  · rcases st.new c u e with z | z | z
    · exact .inl z
    · exact .inr (.inl z.1)
    · exact .inr (.inr z)
  · rcases u with u | u
    · rcases st.un c u with z | z
      · exact .inl z.1
      · exact .inr z
    · subst u; exact .inl o.u
def sParO (i j : Nat) (ml1 ml2 : M (List D)) : MS := sBind ml1 fun xs => sBind ml2 fun ys s => .nx ((s.own i xs).own j ys)
variable {a b : Expr} {ml1 ml2 : M (List D)} {i j : Nat} {x y : Str} {px py pt pt2 : Pos} {kt k2 : Nat}
theorem ds_parO (hc : X.calm = true) (hN : X.N.Nodup) (hi : X.N[i]? = some x) (hj : X.N[j]? = some y) (hij : i ≠ j)
    (hx : X.env.scope.names.lookup x = some .local) (hy : X.env.scope.names.lookup y = some .local) (ha : PE X a (tF T W ml1)) (hb : PE X b (tF T W ml2))
    (hw : swappedStores [.Tuple [.Name x px, .Name y py] kt pt] (.Tuple [a, b] k2 pt2) X.env = pure (some [x, y]) := by rfl)
    (hs : swapsWithSole [.Tuple [.Name x px, .Name y py] kt pt] (.Tuple [a, b] k2 pt2) pos.line X.env = pure false := by rfl)
    (h1 : starEach [a, b] X.env = (false, eval a X.env) :: starEach [b] X.env := by rfl) (h2 : starEach [b] X.env = (false, eval b X.env) :: starEach [] X.env := by rfl) :
    PS X (.Assign [.Tuple [.Name x px, .Name y py] kt pt] (.Tuple [a, b] k2 pt2) pos) (tS T W (sParO i j ml1 ml2)) :=
  PS.imp (ps_par hc hN hi hj hij hx hy (pa_cons ha (pa_cons hb pa_nil h2) h1) hw hs) fun E σ H ⟨x0, s, k, h⟩ => by
    have h : Fin T W E x0 H (sParO i j ml1 ml2 s) := h
    unfold sParO sBind at h
    refine ⟨x0, s, k, ?_⟩
    cases e1 : ml1 s with
    | exc c ns vs sto => rw [e1] at h; exact h σ
    | bad => rw [e1] at h; exact h
    | ok xs s1 =>
      rw [e1] at h
      simp only at h
      intro x1 a1 H1 k1 st1 o1
      refine ⟨_, s1, k1.hideA o1, ?_⟩
      cases e2 : ml2 s1 with
      | exc c ns vs sto => rw [e2] at h; exact ((h σ).back st1).back (Own.hideStp a1)
      | bad => rw [e2] at h; exact h
      | ok ys s2 =>
        rw [e2] at h
        intro x2 a2 H2 k2 st2 o2
        obtain ⟨ku, ou, su, nu⟩ := Ok.unhideA o1 k1 k2 st2
        have k3 := ku.put_own i ou
        have o3 : Own T ⟨x2.io, x2.G, fun c => x2.U c ∨ c = a1⟩ (s2.own i xs) (σ.set i (some (.ref a1))) H2 a2 ys := by
          refine ⟨.inl o2.u, o2.l, o2.b, fun m zs q z => ?_⟩
          have q : (s2.env.set i (.ow xs))[m]? = some (.ow zs) := q
          by_cases hm : i = m
          · subst hm
            have hlt : i < s2.env.length := by
              have := (List.getElem?_eq_some_iff.mp q).1
              simpa using this
            rw [List.getElem?_set_self (by rw [← k2.len]; exact hlt)] at z
            cases z
            exact nu o2.u
          · rw [List.getElem?_set_ne hm] at q z
            exact o2.o m zs q z
        exact ⟨_, _, rfl, h _ _ H2 (k3.put_own j o3) (st1.trans su)⟩
/-! ### max of ints -/
def maxI : List Int → Int
  | [] => 0
  | [x] => x
  | x :: y :: r => let m := maxI (y :: r); if x ≤ m then m else x
theorem maxI_mem : ∀ {ns : List Int}, ns ≠ [] → maxI ns ∈ ns
  | [], h => absurd rfl h
  | [x], _ => List.mem_cons_self
  | x :: y :: r, _ => by
    have := maxI_mem (ns := y :: r) (by simp)
    unfold maxI
    simp only
    split
    · exact List.mem_cons_of_mem _ this
    · exact List.mem_cons_self
theorem maxI_le : ∀ {ns : List Int}, ∀ z ∈ ns, z ≤ maxI ns
  | [x], z, h => by
    have : z = x := by simpa using h
    rw [this]
    exact Int.le_refl _
  | x :: y :: r, z, h => by
    unfold maxI
    simp only
    rcases List.mem_cons.mp h with e | h
    · subst e
      split <;> omega
    · have := maxI_le z h
      split <;> omega
def gMax : List D → Option D
  | [.lst ds] => (asIs ds).bind fun ns => if ns = [] then none else some (.int (maxI ns))
  | _ => none
end
end Ev

/-! E32: max, max with a default; sorted tuples of ints. -/
namespace L2
open PySem PySem.Spec PyProof.Rows
section
variable {X : Cx}
/-- max(xs, default=d) of ints -/
def rMaxDef (K : PySem.W.Frag) : List V → List V → Hp → VK → Prop := fun vs zs H Q => ∃ (a : Addr) (ns : List Int) (d : V), vs = [V.ref a] ∧ zs = [d] ∧ SqL K H a (ns.map V.int) ∧ (ns = [] → Q d H) ∧ ∀ n r, ns = n :: r → Q (.int (r.foldl max n)) H
theorem depth_intsE : ∀ ns : List Int, PyData.depthAll (ns.map .int) ≤ 1
  | [] => by simp [PyData.depthAll]
  | n :: r => by
    have := depth_intsE r
    simp only [List.map_cons, PyData.depthAll, PyData.depth]
    omega
theorem alike_ints (ns : List Int) : PySem.W.AlikeAll (ns.map .int) := by
  refine ⟨fun x hx y hy => ?_, fun x hx => ?_⟩
  · obtain ⟨i, _, rfl⟩ := List.mem_map.mp hx
    obtain ⟨j, _, rfl⟩ := List.mem_map.mp hy
    rfl
  · obtain ⟨i, _, rfl⟩ := List.mem_map.mp hx
    exact fun z => nomatch z
theorem cr_maxDef {k0 : Nat} (hr : Room k0 X.A) : CallRK X (.builtin "max") ["default"] (rMaxDef X.K) := by
  intro pins s σ H xs zs us ws Q I r rz h
  obtain ⟨a, ns, d, rfl, rfl, hs, q0, q1⟩ := h
  obtain ⟨its, rv, hl, _⟩ := I.list hs
  have hi := rv.ints
  rw [Vals.ref1 r]
  cases rz with
  | cons rd rn =>
    cases rn
    rename_i ud
    have hu := hr.un
    have hd := depth_intsE ns
    refine PySem.W.max_list_default (vs := its.toArray) (xs := ns.map .int) (as := []) hr.hd hl.isList (by simpa using hi.reads s.heap) (alike_ints ns) (by omega) (fun e h' tk kp => ?_) fun y ys i v h' tk bs e hv rd' kp => ?_
    · exact ⟨d, H, I.kept kp, rd, q0 (by simpa using e)⟩
    · cases ns with
      | nil => cases e
      | cons n t =>
        cases e
        rw [PySem.W.maxD_ints] at rd'
        cases rd' with
        | int j tk' => exact ⟨.int _, H, I.kept kp, ⟨_, rfl⟩, q1 n t rfl⟩
end
end L2
namespace Ev
open PySem PySem.Spec L2
section
variable {T : Tx} {W : WX} {X : Cx} {e : Expr} {ma : M D} {ml mk : M (List D)} {pos : Pos}
theorem foldl_max_le : ∀ (r : List Int) (n : Int), n ≤ r.foldl max n ∧ ∀ z ∈ r, z ≤ r.foldl max n
  | [], n => ⟨Int.le_refl _, fun _ h => by cases h⟩
  | x :: r, n => by
    obtain ⟨h1, h2⟩ := foldl_max_le r (max n x)
    refine ⟨Int.le_trans (Int.le_max_left n x) h1, fun z hz => ?_⟩
    rcases List.mem_cons.mp hz with e | hz
    · subst e; exact Int.le_trans (Int.le_max_right n z) h1
    · exact h2 z hz
theorem foldl_max_mem : ∀ (r : List Int) (n : Int), r.foldl max n ∈ n :: r
  | [], n => List.mem_cons_self
  | x :: r, n => by
    have h := foldl_max_mem r (max n x)
    show r.foldl max (max n x) ∈ n :: x :: r
    rcases List.mem_cons.mp h with e | h
    · rw [e]
      by_cases hx : n ≤ x
      · rw [Int.max_eq_right hx]; exact List.mem_cons_of_mem _ List.mem_cons_self
      · rw [Int.max_eq_left (by omega)]; exact List.mem_cons_self
    · exact List.mem_cons_of_mem _ (List.mem_cons_of_mem _ h)
theorem maxI_uniq {ns : List Int} {m : Int} (h0 : ns ≠ []) (h1 : m ∈ ns) (h2 : ∀ z ∈ ns, z ≤ m) : m = maxI ns := Int.le_antisymm (maxI_le m h1) (h2 _ (maxI_mem h0))
theorem p_max (hK : X.K = T.K) : PL T (rMax X.K) gMax := fun io G vs ds z H Q r le q k => by
  unfold gMax at q
  split at q
  · rename_i xs
    obtain ⟨ns, e, q⟩ := Option.bind_eq_some_iff.mp q
    split at q
    · cases q
    · rename_i h0
      cases q
      cases r with
      | cons r1 r2 =>
        cases r2; cases r1 with
        | lst sq rs =>
          refine ⟨_, ns, rfl, by rw [hK, ← rs.ints' e]; exact le.sqL sq, List.length_pos_iff.mpr h0, fun m h1 h2 => ?_⟩
          rw [maxI_uniq h0 h1 h2]
          exact k G _ H (.refl le) (.int _)
  · cases q
def gMaxD : List D → List D → Option D
  | [.lst ds], [d] => (asIs ds).map fun ns => if ns = [] then d else .int (maxI ns)
  | _, _ => none
def mMaxD (ml mk : M (List D)) : M D := M.bind ml fun ds => M.bind mk fun zs => M.lift (gMaxD ds zs)
theorem de_maxD {k0 : Nat} {p : Pos} {d : Expr} {kpos : Pos} (hK : X.K = T.K) (hr : Room k0 X.A) (hg : Gl X "max") (hm : X.mg "max" = none) (ha : PA X [e] (tDs T W ml)) (hk : PK X [⟨some "default", d, kpos⟩] (tDs T W mk))
    (he : backTo pos (starEach [e] X.env) = (false, eval e X.env) :: backTo pos (starEach [] X.env) := by rfl) (hpl : (backTo pos (starEach [e] X.env)).any (·.1) = false := by rfl)
    (hall : (backToKw pos (keywordEach [⟨some "default", d, kpos⟩] X.env)).all (·.1.isSome) = true := by rfl) (hnone : (backToKw pos (keywordEach [⟨some "default", d, kpos⟩] X.env)).any (·.1.isNone) = false := by rfl)
    (hks : (backToKw pos (keywordEach [⟨some "default", d, kpos⟩] X.env)).filterMap (·.1) = [("default" : Str)] := by rfl) :
    PE X (.Call (.Name "max" p) [e] [⟨some "default", d, kpos⟩] pos) (tD T W (mMaxD ml mk)) :=
  PE.imp (pe_callBK (cr_maxDef hr) hg hm (by decide +kernel) ha hk (by decide) (by decide) he hpl hall hnone hks) fun σ H Q ⟨x, s, k, q⟩ => by
    refine ⟨x, s, k, ?_⟩
    unfold mMaxD M.bind M.lift at q
    cases e1 : ml s with
    | exc c ns vs sto => rw [e1] at q; exact q
    | bad => rw [e1] at q; exact q
    | ok ds s1 =>
      rw [e1] at q
      intro x1 vs H1 k1 st1 r1
      refine ⟨x1, s1, k1, ?_⟩
      simp only at q
      cases e2 : mk s1 with
      | exc c ns vs sto => rw [e2] at q; exact q.back st1
      | bad => rw [e2] at q; exact q
      | ok zs s2 =>
        rw [e2] at q
        intro x2 ws H2 k2 st2 r2
        simp only at q
        cases e3 : gMaxD ds zs with
        | none => rw [e3] at q; exact q.elim
        | some z =>
          rw [e3] at q
          unfold gMaxD at e3
          split at e3
          · rename_i xs d
            obtain ⟨ns, e4, rfl⟩ := Option.map_eq_some_iff.mp e3
            have r1 := r1.mono st2.io st2.le
            cases r1 with
            | cons a1 a2 =>
              cases a2
              cases a1 with
              | lst sq rs =>
                cases r2 with
                | cons b1 b2 =>
                  cases b2
                  refine ⟨_, ns, _, rfl, rfl, by rw [hK, ← rs.ints' e4]; exact k2.bx.sub.sqL sq, fun h0 => ?_, fun n r hn => ?_⟩
                  · rw [if_pos h0] at q
                    exact q x2 _ H2 k2 (st1.trans st2) b1
                  · have h0 : ns ≠ [] := by rw [hn]; exact List.cons_ne_nil _ _
                    rw [if_neg h0] at q
                    have em : r.foldl max n = maxI ns := maxI_uniq h0 (by rw [hn]; exact foldl_max_mem r n) fun z hz => by
                      rw [hn] at hz
                      rcases List.mem_cons.mp hz with e | hz
                      · subst e; exact (foldl_max_le r z).1
                      · exact (foldl_max_le r n).2 z hz
                    rw [em]
                    exact q x2 _ H2 k2 (st1.trans st2) (.int _)
          · cases e3
end
end Ev

/-! E33: tuples of ints sorted, the first one empty. -/
namespace TiS
open PySem PySem.W PyProof.Rows Builtin
/-- v: a tuple of these numbers -/
def IsTi (h : Heap) (v : Value) (ns : List Int) : Prop :=
  ∃ (a : Addr) (o : Obj) (items : Array Value) (n : Nat), v = .ref a ∧ h.get? a = some o ∧ o.cls = .type "tuple" ∧ o.data = .seq items n ∧ IntsAre items.toList ns
theorem IsTi.keeps {h h' : Heap} {v : Value} {ns : List Int} (x : IsTi h v ns) (k : ∀ b o, v = .ref b → h.get? b = some o → h'.get? b = some o) : IsTi h' v ns := by
  obtain ⟨a, o, items, n, e, g, c, d, i⟩ := x
  exact ⟨a, o, items, n, e, k _ _ e g, c, d, i⟩
theorem IsTi.type {M : Model} {h : Heap} {v : Value} {ns : List Int} (x : IsTi h v ns) : Looks M h (typeOf v) (.type "tuple") := by
  obtain ⟨a, o, items, n, rfl, g, c, d, i⟩ := x
  exact c ▸ (Looks.ld g).andThen .now
section
variable {prog : Program} {w : World} {A : Around} {E : Value → Shared → Prop} {s : Shared}
theorem call_ltT {a b : Addr} {da db : Option Addr} {items items2 : Array Value} {n n2 : Nat} {sa sb : Array (Option Value)} {ns ms : List Int} {Q : Value → Shared → Prop} (ga : s.heap.get? a = some { cls := .type "tuple", dict := da, data := .seq items n, slots := sa })
    (gb : s.heap.get? b = some { cls := .type "tuple", dict := db, data := .seq items2 n2, slots := sb }) (ia : IntsAre items.toList ns) (ib : IntsAre items2.toList ms) (iv : Looks (model prog w) s.heap (isInstance (.ref a) (.type "tuple")) true)
    (iu : ∀ M : Model, Looks M s.heap (isInstance (.ref b) (.type "tuple")) true) (k : Q (.bool (HT.lexLt ns ms)) s) : wpAny (model prog w) A (call (.builtin "tuple.__lt__") [.ref a, .ref b]) Q E s := by
  refine wpAny_call (codeAny_call_builtin PySem.F.slot_tuple_lt.plain PySem.F.entry_tuple_lt (@check_slot (model prog w) _ _ _ "tuple.__lt__" "tuple" "__lt__" (.ref a) [.ref b] [] _ (by decide +kernel) (by decide +kernel) iv (PySem.F.args_tuple_lt_2 _ _) ?_))
  refine wpAny_mono (NtL.nt_lt_ints a b _ _ items items2 n n2 da db sa sb ns ms ia ib prog w _ (wants Q E) s ⟨ga, gb, iu, k⟩) (fun fin s' r => ?_) fun _ _ z => z
  cases fin with
  | done f => exact r
  | again c => exact r
theorem lt_ti {v u : Value} {ns ms : List Int} {Q : Bool → Shared → Prop} (hu : A.units < cLine) (hv : IsTi s.heap v ns) (hw : IsTi s.heap u ms) (h : Q (HT.lexLt ns ms) s) : wpAny (model prog w) A (keyLt' oneType' v u) Q E s := by
  have iu : ∀ M : Model, Looks M s.heap (isInstance u (.type "tuple")) true := fun M => (hw.type (M := M)).andThen (Looks.of_pure (by rw [isSubtype_type]; kernel_rfl))
  obtain ⟨a, ⟨ca, da, ta, sa⟩, items, n, rfl, ga, c1, d1, ia⟩ := hv
  obtain ⟨b, ⟨cb, db, tb, sb⟩, items2, n2, rfl, gb, c2, d2, ib⟩ := hw
  replace c1 : ca = .type "tuple" := c1
  replace d1 : ta = .seq items n := d1
  replace c2 : cb = .type "tuple" := c2
  replace d2 : tb = .seq items2 n2 := d2
  subst c1 d1 c2 d2
  rw [keyLt'_oneType, oneLt'_eq]
  simp only [if_true]
  refine wpAny_bind (wpAny_cRoomFor hu ?_)
  have ty : s.TypeIs (.ref a) "tuple" := ⟨_, ga, rfl⟩
  have iv : Looks (model prog w) s.heap (isInstance (.ref a) (.type "tuple")) true := (IsTi.type (v := .ref a) (ns := ns) ⟨a, _, items, n, rfl, ga, rfl, rfl, ia⟩).andThen (Looks.of_pure (by rw [isSubtype_type]; kernel_rfl))
  refine wpAny_bind (wpAny_callSpecialIfBound?_slot ty PySem.F.slot_tuple_lt (call_ltT ga gb ia ib iv iu ?_))
  exact wpAny_truthy_bool h
theorem ti_cmp {vs : List Value} {k : Value → List Int} (hu : A.units < cLine) (hv : ∀ v ∈ vs, IsTi s.heap v (k v)) : SrtO.Cmp prog w A s oneType' (fun p => p.1 ∈ vs) (SrtO.lt2 fun v u => HT.lexLt (k v) (k u)) := by
  intro p q hp hq
  exact lt_ti (Q := fun r s' => s' = s ∧ r = HT.lexLt (k p.1) (k q.1)) (E := fun _ _ => False) hu (hv p.1 hp) (hv q.1 hq) ⟨rfl, rfl⟩
end
section
variable {M : Model} {A : Around} {E : Value → Shared → Prop} {s : Shared}
theorem ti_first {v : Value} {ns : List Int} {Q : Option Value → Shared → Prop} (hv : IsTi s.heap v ns) (h : ∀ r, (ns = [] → r = none) → Q r s) : wpAny M A (firstOfTuple' v) Q E s := by
  obtain ⟨a, o, items, n, rfl, g, c, d, i⟩ := hv
  rw [kas_first_eq]
  refine wpAny_bind (Looks.here (show Looks M s.heap (typeOf (.ref a)) o.cls from (Looks.ld g).andThen .now) ?_)
  rw [c, if_neg (by first | decide | simp)]
  refine wpAny_bind (listItems_at g d (wpAny_pure (h _ fun e => ?_)))
  subst e
  have : items.toList = [] := by cases hq : items.toList with
    | nil => rfl
    | cons x r => rw [hq] at i; cases i
  have : items = #[] := by simpa using this
  rw [this]
  rfl
theorem ti_firsts : ∀ (vs : List Value) {Q : List (Option Value) → Shared → Prop}, (∀ v ∈ vs, ∃ ns, IsTi s.heap v ns) → (∀ rs, rs.length = vs.length → Q rs s) → wpAny M A (vs.mapM firstOfTuple') Q E s
  | [], Q, _, h => by rw [List.mapM_nil]; exact wpAny_pure (h [] rfl)
  | v :: vs, Q, hv, h => by
    obtain ⟨ns, h1⟩ := hv v List.mem_cons_self
    rw [List.mapM_cons]
    refine wpAny_bind (ti_first h1 fun r _ => ?_)
    refine wpAny_bind (ti_firsts vs (Q := fun bs s' => wpAny M A (pure (r :: bs)) Q E s') (fun u hu => hv u (List.mem_cons_of_mem _ hu)) fun rs hr => wpAny_pure (h _ (by simp [hr])))
theorem ti_kind {v : Value} {vs : List Value} {Q : SortKind → Shared → Prop} (h0 : IsTi s.heap v []) (hv : ∀ u ∈ vs, ∃ ns, IsTi s.heap u ns) (h : Q oneType' s) : wpAny M A (keyKind' (v :: vs).toArray) Q E s := by
  rw [keyKind'_eq, List.mapM_toArray, map_eq_pure_bind, List.mapM_cons]
  refine wpAny_bind (wpAny_bind (wpAny_bind (ti_first h0 fun r hr => ?_)))
  rw [hr rfl]
  refine wpAny_bind (ti_firsts vs hv fun rs _ => wpAny_pure (wpAny_pure ?_))
  rw [if_neg (by simp), if_neg (by simp)]
  rw [oneTypeOnly'_eq, List.mapM_toArray, map_eq_pure_bind]
  refine wpAny_bind (wpAny_bind (wpAny_bind (kas_mapM (r := .type "tuple") _ (fun u hu Q' hq => ?_) (wpAny_pure ?_))))
  · rcases List.mem_cons.mp hu with e | hu
    · subst e; exact h0.type.here hq
    · obtain ⟨ns, h1⟩ := hv u hu
      exact h1.type.here hq
  · have hall : ((List.map (fun _ => Value.type "tuple") (v :: vs)).toArray.all fun x => x == Value.type "tuple") = true := by
      simp only [List.all_toArray, List.all_map, List.all_eq_true]
      intro _ _
      rfl
    have hz : (List.map (fun _ => Value.type "tuple") (v :: vs)).toArray[0]? = some (Value.type "tuple") := by simp
    rw [hz]
    simp only [hall, if_true]
    exact wpAny_pure (wpAny_pure h)
end
section
variable {prog : Program} {w : World} {A : Around} {s : Shared}
theorem ti_sortable {a : Addr} {v : Value} {vs : List Value} {k : Value → List Int} (hu : A.units < cLine) (h0 : k v = []) (hv : ∀ u ∈ v :: vs, IsTi s.heap u (k u)) (ha : ∀ u ∈ v :: vs, u ≠ .ref a) :
    SrtO.SortableO prog w A s a (v :: vs) fun x y => HT.lexLt (k x) (k y) := by
  intro h' keep
  have hv' : ∀ u ∈ v :: vs, IsTi h' u (k u) := fun u hm => (hv u hm).keeps fun b o e g => keep b o (fun z => ha u hm (by rw [e, z])) g
  refine ⟨oneType', fun Q E hq => ti_kind (s := { s with heap := h' }) (by have := hv' v List.mem_cons_self; rw [h0] at this; exact this) (fun u hm => ⟨_, hv' u (List.mem_cons_of_mem _ hm)⟩) hq, ti_cmp (s := { s with heap := h' }) hu hv'⟩
end
end TiS
namespace L2
open PySem PySem.Spec PyProof.Rows
/-- a tuple's value, its numbers -/
structure VT where
  v : V
  ns : List Int
/-- sorted(xs): tuples of ints, the first one empty -/
def rSortTi (K : PySem.W.Frag) : List V → Hp → VK → Prop := fun vs H Q => ∃ (a : Addr) (bs : List VT), vs = [V.ref a] ∧ SqL K H a (bs.map (·.v)) ∧ (∀ x ∈ bs, ∃ t, x.v = V.ref t ∧ SqT K H t (x.ns.map V.int)) ∧ (∃ v r, bs = v :: r ∧ v.ns = []) ∧
  ∀ (cs : List VT) (p : Addr), cs.Pairwise (fun x y => HT.lexLt y.ns x.ns = false) → cs.Perm bs → H p = none → Q (.ref p) (upd H p (.lst (cs.map (·.v))))
open Classical in
noncomputable def kTi (h : Heap) (u : Value) : List Int := if q : ∃ ns, TiS.IsTi h u ns then q.choose else []
theorem kTi_eq {h : Heap} {u : Value} {ns : List Int} (x : TiS.IsTi h u ns) : kTi h u = ns := by
  have q : ∃ ns, TiS.IsTi h u ns := ⟨ns, x⟩
  unfold kTi
  rw [dif_pos q]
  obtain ⟨a, o, items, n, e, g, c, d, i⟩ := q.choose_spec
  obtain ⟨a', o', items', n', e', g', c', d', i'⟩ := x
  rw [e] at e'
  cases e'
  rw [g] at g'
  cases g'
  rw [d] at d'
  cases d'
  rw [← SrtO.iv_ints i, SrtO.iv_ints i']
theorem vt_back : ∀ {bs : List VT} {its : List Value} {h : Heap}, Vals (bs.map (·.v)) its → (∀ x ∈ bs, ∀ u, RelV x.v u → TiS.IsTi h u x.ns) → its.map (fun u => (⟨backV u, kTi h u⟩ : VT)) = bs
  | [], its, h, r, _ => by cases r; rfl
  | b :: bs, its, h, r, k => by
    cases r with
    | cons r1 r2 =>
      have t := k b List.mem_cons_self _ r1
      have ek := kTi_eq t
      obtain ⟨a, o, items, n, e, _⟩ := t
      rw [List.map_cons, vt_back r2 fun x hx => k x (List.mem_cons_of_mem _ hx), ek]
      congr 1
      obtain ⟨v, ns⟩ := b
      subst e
      have : v = .ref a := by
        cases v with
        | ref c => cases r1; rfl
        | _ => first | cases r1; done | (obtain ⟨t, z⟩ := r1; cases z)
      subst this
      rfl
section
variable {X : Cx}
theorem cr_sortTi {k0 : Nat} (hr : Room k0 X.A) : CallR X (.builtin "sorted") (rSortTi X.K) := by
  intro pins s σ H vs us Q I r h
  obtain ⟨a, bs, rfl, hs, hx, ⟨v0, r0, e0, hk0⟩, q⟩ := h
  obtain ⟨its, rv, hl, hz⟩ := I.list hs
  rw [Vals.ref1 r]
  have hti : ∀ x ∈ bs, ∀ u, RelV x.v u → TiS.IsTi s.heap u x.ns := fun x hm u ru => by
    obtain ⟨t, e, ht⟩ := hx x hm
    rw [e] at ru
    obtain rfl : u = Value.ref t := ru
    obtain ⟨its2, r2, ⟨o, ho, hc, n, hd⟩, _⟩ := I.tuple ht
    exact ⟨t, o, its2.toArray, n, rfl, ho, hc, hd, r2.ints⟩
  have em := vt_back (h := s.heap) rv hti
  have hte : ∀ u ∈ its, TiS.IsTi s.heap u (kTi s.heap u) := fun u hu => by
    have hm : (⟨backV u, kTi s.heap u⟩ : VT) ∈ bs := by rw [← em]; exact List.mem_map.mpr ⟨u, hu, rfl⟩
    have go : ∀ {bs : List VT} {its : List Value}, Vals (bs.map (·.v)) its → u ∈ its → ∃ x ∈ bs, RelV x.v u := by
      intro bs
      induction bs with
      | nil => intro its r hu; cases r; cases hu
      | cons b bs ih =>
        intro its r hu
        cases r with
        | cons r1 r2 =>
          rcases List.mem_cons.mp hu with e | hu
          · subst e; exact ⟨b, List.mem_cons_self, r1⟩
          · obtain ⟨x, hx, rx⟩ := ih r2 hu
            exact ⟨x, List.mem_cons_of_mem _ hx, rx⟩
    obtain ⟨x, hx', rx⟩ := go rv hu
    have t := hti x hx' u rx
    rw [kTi_eq t]
    exact t
  have hun := hr.un
  cases its with
  | nil => rw [e0] at em; cases em
  | cons u us =>
    have hku : kTi s.heap u = [] := by
      rw [e0] at em
      cases em
      exact hk0
    refine SrtO.sorted_ord (NtL.swo_lexL fun u => kTi s.heap u) hl.isList (by rw [← rv.length]; exact hz) (fun h2 h₁ a' ha' keep => TiS.ti_sortable (by show X.A.units + 1 + 1 < cLine; omega) hku (fun w hw => ?_) fun w hw => ?_) fun out h1 h2 => ?_
    · exact (hte w hw).keeps fun b o e g => (keep b o g).2
    · obtain ⟨t, o, items, n, e, g, _⟩ := hte w hw
      intro z
      rw [e] at z
      cases z
      exact (keep _ _ g).1 rfl
    · have h3 : ∀ w ∈ out, ∃ a, w = Value.ref a := fun w hw => by
        obtain ⟨t, o, items, n, e, g, _⟩ := hte w (h2.perm.mem_iff.mp hw)
        exact ⟨t, e⟩
      have hb : (out.map fun u => (⟨backV u, kTi s.heap u⟩ : VT)).Perm bs := by
        rw [← em]
        exact h2.perm.map _
      have ev : (out.map fun u => (⟨backV u, kTi s.heap u⟩ : VT)).map (·.v) = out.map backV := by
        rw [List.map_map]
        rfl
      obtain ⟨ep, at'⟩ := PyProof.Rows.sortedAll_at s.heap (u :: us) out.toArray
      have qq := q (out.map fun u => (⟨backV u, kTi s.heap u⟩ : VT)) (s.heap.objs.size + 1) (List.pairwise_map.mpr (h1.imp fun {x y} z => z)) hb (I.hok.fresh (Nat.le_succ _))
      rw [ev] at qq
      refine ⟨.ref _, upd H (s.heap.objs.size + 1) (.lst (out.map backV)), I.laid (t' := s.toks) (fun _ _ => PyProof.Rows.sortedAll_old) (Nat.le_succ _) ⟨?_, out, ep, vals_back h3, at'⟩, rfl, qq⟩
      rw [← ev, List.length_map, hb.length_eq]
      rw [List.length_map] at hz
      exact hz
end
end L2
namespace Ev
open PySem PySem.Spec L2
/-! ### .. as data -/
def asTi : D → Option (List Int)
  | .tup ds => asIs ds
  | _ => none
def asTis : List D → Option (List (List Int))
  | [] => some []
  | d :: r => (asTi d).bind fun ns => (asTis r).map (ns :: ·)
def tiD (ns : List Int) : D := .tup (ns.map .int)
def lexLe (x y : List Int) : Bool := !HT.lexLt y x
theorem lex_total : ∀ x y : List Int, HT.lexLt x y = false → HT.lexLt y x = false → x = y
  | [], [], _, _ => rfl
  | [], _ :: _, h, _ => by rw [HT.lexLt_nil_cons] at h; cases h
  | _ :: _, [], _, h => by rw [HT.lexLt_nil_cons] at h; cases h
  | x :: xs, y :: ys, h1, h2 => by
    rw [HT.lexLt_cons] at h1 h2
    by_cases e : x = y
    · rw [if_pos e] at h1
      rw [if_pos e.symm] at h2
      rw [e, lex_total xs ys h1 h2]
    · rw [if_neg e] at h1
      rw [if_neg (Ne.symm e)] at h2
      have a := of_decide_eq_false h1
      have b := of_decide_eq_false h2
      omega
theorem lexLe_trans (a b c : List Int) (h1 : lexLe a b = true) (h2 : lexLe b c = true) : lexLe a c = true := by
  unfold lexLe at *
  simp only [Bool.not_eq_true'] at *
  exact NtL.lex_tr _ _ _ h1 h2
theorem lexLe_total (a b : List Int) : (lexLe a b || lexLe b a) = true := by
  unfold lexLe
  cases e : HT.lexLt b a with
  | false => rfl
  | true => rw [NtL.lex_asym _ _ e]; rfl
theorem sorted_uniq {l m : List (List Int)} (hl : l.Pairwise fun x y => HT.lexLt y x = false) (hm : m.Pairwise fun x y => HT.lexLt y x = false) (p : l.Perm m) : l = m :=
  List.Perm.eq_of_pairwise (le := fun x y => HT.lexLt y x = false) (fun a b _ _ h1 h2 => lex_total a b h2 h1) hl hm p
def srtTi (nss : List (List Int)) : List (List Int) := nss.mergeSort lexLe
theorem srtTi_of {l nss : List (List Int)} (hl : l.Pairwise fun x y => HT.lexLt y x = false) (p : l.Perm nss) : l = srtTi nss := by
  refine sorted_uniq hl ?_ (p.trans (List.mergeSort_perm _ _).symm)
  have := List.pairwise_mergeSort (le := lexLe) lexLe_trans lexLe_total nss
  refine this.imp fun {x y} h => ?_
  unfold lexLe at h
  simpa using h
def gSortTi : List D → Option D
  | [.lst ds] => match asTis ds with
    | some ([] :: r) => some (.lst ((srtTi ([] :: r)).map tiD))
    | _ => none
  | _ => none
section
variable {T : Tx} {W : WX} {X : Cx}
/-- data, as tuples' values -/
theorem vts {io : Io} {G : Hp} : ∀ {vs : List V} {ds : List D} {nss : List (List Int)}, Reps T io G vs ds → asTis ds = some nss → ∃ bs : List VT, bs.map (·.v) = vs ∧ bs.map (·.ns) = nss ∧ ∀ b ∈ bs, ∃ t, b.v = V.ref t ∧ SqT T.K G t (b.ns.map V.int)
  | _, _, _, .nil, h => by cases h; exact ⟨[], rfl, rfl, fun _ h => by cases h⟩
  | _, _, _, .cons (v := v) (d := d) a r, h => by
    unfold asTis at h
    obtain ⟨ns, h1, h⟩ := Option.bind_eq_some_iff.mp h
    obtain ⟨nss, h2, rfl⟩ := Option.map_eq_some_iff.mp h
    obtain ⟨bs, e1, e2, e3⟩ := vts r h2
    cases d with
    | tup ds =>
      cases a with
      | @tup c vs' _ sq rs =>
        refine ⟨⟨.ref c, ns⟩ :: bs, by rw [List.map_cons, e1], by rw [List.map_cons, e2], fun b hb => ?_⟩
        rcases List.mem_cons.mp hb with e | hb
        · subst e
          exact ⟨c, rfl, by rw [← rs.ints' h1]; exact sq⟩
        · exact e3 b hb
    | _ => cases h1
theorem tis_ints : ∀ {ds : List D} {ns : List Int}, asIs ds = some ns → ds = ns.map .int
  | [], _, h => by cases h; rfl
  | d :: r, _, h => by
    cases d <;> first | cases h; done | skip
    unfold asIs at h
    obtain ⟨ns, e, rfl⟩ := Option.map_eq_some_iff.mp h
    rw [tis_ints e]
    rfl
theorem reps_tis {io : Io} {G : Hp} : ∀ {bs : List VT}, (∀ b ∈ bs, ∃ t, b.v = V.ref t ∧ SqT T.K G t (b.ns.map V.int)) → Reps T io G (bs.map (·.v)) ((bs.map (·.ns)).map tiD)
  | [], _ => .nil
  | b :: bs, h => by
    obtain ⟨t, e, sq⟩ := h b List.mem_cons_self
    refine .cons ?_ (reps_tis fun c hc => h c (List.mem_cons_of_mem _ hc))
    show Rep T io G b.v (tiD b.ns)
    rw [e]
    refine .tup sq ?_
    have go : ∀ ns : List Int, Reps T io G (ns.map V.int) (ns.map D.int) := by
      intro ns
      induction ns with
      | nil => exact .nil
      | cons n ns ih => exact .cons (.int n) ih
    exact go b.ns
theorem p_sortTi (hK : X.K = T.K) : PL T (rSortTi X.K) gSortTi := fun io G vs ds z H Q r le q k => by
  unfold gSortTi at q
  split at q
  · rename_i xs
    cases e : asTis xs with
    | none => rw [e] at q; cases q
    | some nss =>
      cases nss with
      | nil => rw [e] at q; cases q
      | cons n0 rest =>
        cases n0 with
        | cons _ _ => rw [e] at q; cases q
        | nil =>
          rw [e] at q
          cases q
          cases r with
          | cons r1 r2 =>
            cases r2
            cases r1 with
            | @lst a ws _ sq rs =>
              obtain ⟨bs, e1, e2, e3⟩ := vts rs e
              refine ⟨a, bs, rfl, by rw [hK, e1]; exact le.sqL sq, fun x hx => ?_, ?_, fun cs p hs hp hn => ?_⟩
              · obtain ⟨t, et, st⟩ := e3 x hx
                exact ⟨t, et, by rw [hK]; exact le.sqT st⟩
              · cases bs with
                | nil => cases e2
                | cons b bs =>
                  rw [List.map_cons] at e2
                  exact ⟨b, bs, rfl, (List.cons.inj e2).1⟩
              · have hc : ∀ b ∈ cs, ∃ t, b.v = V.ref t ∧ SqT T.K G t (b.ns.map V.int) := fun b hb => e3 b (hp.mem_iff.mp hb)
                have es : cs.map (·.ns) = srtTi ([] :: rest) := srtTi_of (List.pairwise_map.mpr hs) (by rw [← e2]; exact hp.map _)
                have gr := Grow.one (o := .lst (cs.map (·.v))) le hn
                refine k _ _ _ gr (.lst (.inl (.inl upd_same)) ?_)
                rw [← es]
                exact (reps_tis hc).up gr.g
  · cases q
end
end Ev

/-! E34: sorted(set(texts)). -/
namespace StT
open PySem PySem.Spec L2 PyProof.Rows PySem.Froz
/-- a: a set of the texts l -/
structure SetS (P : Program) (w : World) (h : Heap) (a : Addr) (l : List Str) : Prop where
  ex : ∃ D : SD, h.get? a = some (sObj "set" D) ∧ TxOk P w D l ∧ Ris D.2.2.place.toList ∧ (w.params.followText "set-order" = true ∨ D.2.2.led = true)
  nd : l.Nodup
section
variable {P : Program} {w : World} {A : Around} {E : Value → Shared → Prop} {s : Shared}
theorem SetS.at {h h' : Heap} {a : Addr} {l : List Str} (x : SetS P w h a l) (k : ∀ o, h.get? a = some o → h'.get? a = some o) : SetS P w h' a l := by
  obtain ⟨D, h1, h2⟩ := x.ex
  exact ⟨⟨D, k _ h1, h2⟩, x.nd⟩
theorem tail_facts {ep : Nat} {es1 : Array (Int × Value)} {t2 : SetTable} {wd : Bool} (r : Ris t2.place.toList) : Ris (tailTx ep es1 t2 wd).2.2.place.toList ∧ (tailTx ep es1 t2 wd).2.2.led = t2.led := by
  unfold tailTx
  split
  · exact ⟨relayAll_ris _ _ _, relayAll_led _ _ _⟩
  · exact ⟨r, rfl⟩
theorem addTx_facts {z : Int} {v : Value} {D : SD} (r : Ris D.2.2.place.toList) : Ris (addTx z v D).2.2.place.toList ∧ (addTx z v D).2.2.led = D.2.2.led := by
  have r1 := layNew_ris D.2.2 D.1 z v r
  have l1 := layNew_led D.2.2 D.1 z v
  unfold addTx
  split
  · obtain ⟨a, b⟩ := tail_facts (ep := D.2.1) (es1 := (layNew D.2.2 D.1 z v).1) (t2 := { (layNew D.2.2 D.1 z v).2.1 with plain := false }) (wd := (layNew D.2.2 D.1 z v).2.2.1) r1
    exact ⟨a, b.trans l1⟩
  · obtain ⟨a, b⟩ := tail_facts (ep := D.2.1) (es1 := (layNew D.2.2 D.1 z v).1) (t2 := (layNew D.2.2 D.1 z v).2.1) (wd := (layNew D.2.2 D.1 z v).2.2.1) r1
    exact ⟨a, b.trans l1⟩
/-- what stands there already -/
theorem add_same {a : Addr} {T : String} {D : SD} {l : List Str} {k : Str} {u : Tok} {Q : Bool → Shared → Prop} (ho : s.heap.get? a = some (sObj T D)) (F : TxOk P w D l) (hk : k ∈ l) (hb : l.length < scanBound) (h : Q false s) : wpAny (model P w) A (setAddHashed a (.str k u) (hashStr w k)) Q E s := by
  obtain ⟨es, ep, t⟩ := D
  have hd : (sObj T (es, ep, t)).data = .set es ep t := rfl
  have ft : t.fits es.size = true := F.fit
  have el : ElemsOf (strKind P w) es.toList := F.el
  have sz : es.size = l.length := F.sz
  have b0 : es.size < scanBound := by omega
  have ik : (strKind P w).is k (.str k u) = true := is_str k u
  obtain ⟨e, he, hq⟩ := (F.mem k).mp hk
  have hsome : ∃ j, List.findIdx? (fun e => (strKind P w).is k e.2) es.toList = some j := by
    cases hr : List.findIdx? (fun e => (strKind P w).is k e.2) es.toList with
    | some j => exact ⟨j, rfl⟩
    | none =>
      have c := List.findIdx?_eq_none_iff.mp hr e he
      rw [hq] at c
      cases c
  obtain ⟨j, hj⟩ := hsome
  unfold setAddHashed setAddHashedIn
  refine wpAny_holding (wpAny_bind (wpAny_setState_of ho hd ft ?_))
  dsimp only
  rw [byScan_of rfl b0 el]
  simp only [↓reduceIte]
  unfold setAddByScan
  refine wpAny_bind ?_
  refine wpAny_bind (wpAny_rule ?_)
  refine wpAny_bind (wpAny_setScan_of (knd := strKind P w) (k := k) ik ho hd ft el ?_)
  rw [hj]
  dsimp only
  exact wpAny_pure (wpAny_pure h)
theorem setS_add {a : Addr} {l : List Str} {k : Str} {u : Tok} {Q : Bool → Shared → Prop} (F : SetS P w s.heap a l) (hb : l.length + 1 < scanBound)
    (h : ∀ (b : Bool) (h' : Heap) (l' : List Str), Heap.SameBut a s.heap h' → SetS P w h' a l' → (∀ z, z ∈ l' ↔ z ∈ l ∨ z = k) → l'.length ≤ l.length + 1 → Q b { s with heap := h' }) : wpAny (model P w) A (setAddHashed a (.str k u) (hashStr w k)) Q E s := by
  obtain ⟨D, h1, h2, h3, h4⟩ := F.ex
  by_cases hk : k ∈ l
  · exact add_same h1 h2 hk (by omega) (h false s.heap l (Heap.SameBut.refl a s.heap) F (fun z => ⟨.inl, fun q => q.elim id fun e => e ▸ hk⟩) (Nat.le_succ _))
  · refine add_x h1 h2 hk hb (h true _ (k :: l) (Heap.SameBut.update s.heap a _) ⟨⟨_, get_upd _ h1 rfl, add_ok u h2, ?_, ?_⟩, List.nodup_cons.mpr ⟨hk, F.nd⟩⟩ (fun z => ?_) (Nat.le_refl _))
    · exact (addTx_facts h3).1
    · exact h4.imp id fun z => by rw [(addTx_facts h3).2]; exact z
    · rw [List.mem_cons]
      exact Or.comm
/-- the loop of set(..) over texts -/
theorem set_update_txt {I : Addr} {fp wr : List Addr} {G : Array GenState → Array GenState → Prop} {n : Nat} {Pv : Nat → Value → Prop} {St : Nat → Shared → Prop} {R : Result → Shared → Prop}
    (W : WalksS P w A.in1 I fp wr G n Pv St) (S : Addr) (hSf : S ∉ fp) (ns : List Str) (hn : n = ns.length) (hb : ns.length + 1 < scanBound) (hval : ∀ i v, Pv i v → ∃ k t, ns[i]? = some k ∧ v = .str k t) :
    ∀ (k i : Nat) (s : Shared), n - i = k → i ≤ n → St i s → (∃ l, l.length ≤ i ∧ SetS P w s.heap S l ∧ ∀ z, z ∈ l ↔ z ∈ ns.take i) →
      (∀ s' l, Moved (S :: wr) G s s' → SetS P w s'.heap S l → (∀ z, z ∈ l ↔ z ∈ ns) → l.length ≤ n → R (.ok (.ret .none)) s') →
      codeAny (model P w) A (.builtin "set.update.loop" ⟨[.ref S, .ref I], []⟩) R s := by
  have nw : S ∉ wr := fun h => hSf (W.sub _ h)
  have sub : ∀ b ∈ wr, b ∈ S :: wr := fun b hb => List.mem_cons_of_mem _ hb
  intro k
  induction k with
  | zero =>
    intro i s hk' hi hst ⟨l, hc, hS, hm⟩ hR
    have hin : i = n := by omega
    subst hin
    refine codeAny_builtin F.entry_set_update_loop ?_
    rw [Around.under_plainId F.plain_set_update_loop _]
    show wpAny _ A.in1 (pyNext (.ref I) >>= _) _ _ s
    refine wpAny_bind (W.done s _ _ hst fun s' mv => ?_)
    show wpAny _ A.in1 (ret Value.none) _ _ s'
    rw [List.take_of_length_le (by omega)] at hm
    exact wpAny_pure (hR s' l (mv.mono sub) (hS.at fun o e => mv.heap S o nw e) hm hc)
  | succ k ih =>
    intro i s hk' hi hst ⟨l, hc, hS, hm⟩ hR
    have lt : i < n := by omega
    refine codeAny_builtin F.entry_set_update_loop ?_
    rw [Around.under_plainId F.plain_set_update_loop _]
    show wpAny _ A.in1 (pyNext (.ref I) >>= _) _ _ s
    refine wpAny_bind (W.item i s _ _ lt hst fun v s' hP hst' mv => ?_)
    obtain ⟨z, t, hz, rfl⟩ := hval i v hP
    have hS' : SetS P w s'.heap S l := hS.at fun o e => mv.heap S o nw e
    show wpAny _ A.in1 (holding [Value.str z t] (setAdd S (.str z t)) >>= _) _ _ s'
    refine wpAny_bind (wpAny_holding ?_)
    unfold setAdd
    refine wpAny_holding ?_
    refine wpAny_bind ((strKind P w).pyHash (k := z) (is_str _ _) ?_)
    refine setS_add (s := { s' with toks := s'.toks + 1 }) hS' (by omega) fun b h' l' hsb hS2 hm2 hl2 => ?_
    have hm3 : ∀ y, y ∈ l' ↔ y ∈ ns.take (i + 1) := fun y => by
      rw [hm2 y, hm y, List.take_add_one, hz]
      simp
    refine wpAny_pure ⟨plainId_quiet F.plain_set_update_loop _, ih (i + 1) _ (by omega) lt (W.frame _ s' _ _ hst' (Nat.le_succ _) fun b hb o e => ?_) ⟨l', by omega, hS2, hm3⟩ fun s2 l2 mv2 hS3 hm4 hl3 => ?_⟩
    · rw [hsb.2 b (fun h : b = S => hSf (by rw [← h]; exact hb))]; exact e
    · refine hR s2 l2 (Moved.trans W.gtrans ((mv.mono sub).then_heap (Nat.le_succ _) fun b o hb e => ?_) mv2) hS3 hm4 hl3
      rw [hsb.2 b (fun h : b = S => hb (by rw [h]; exact List.mem_cons_self))]; exact e
abbrev nO (w : World) : Obj := { cls := .type "set", dict := none, data := .set #[] 0 (.fresh 0 0 (!w.params.followText "set-order")) }
theorem setS_new {h : Heap} {a : Addr} (ho : h.get? a = some (nO w)) : SetS P w h a [] := by
  refine ⟨⟨(#[], 0, .fresh 0 0 (!w.params.followText "set-order")), ho, TxOk.nil (by rfl), List.Pairwise.nil, ?_⟩, List.nodup_nil⟩
  show _ ∨ (!w.params.followText "set-order") = true
  cases w.params.followText "set-order"
  · exact .inr rfl
  · exact .inl rfl
theorem call_set_lst {l : Addr} {items : Array Value} (ns : List Str) {Q : Value → Shared → Prop} (hh : A.handled = none) (hl : s.heap.IsList l items) (hit : StrsAre items.toList ns) (hb : ns.length + 1 < scanBound)
    (h : ∀ (h' : Heap) (tk : Nat) (l' : List Str), SetS P w h' s.heap.objs.size l' → (∀ z, z ∈ l' ↔ z ∈ ns) → l'.length ≤ ns.length → (∀ b o, s.heap.get? b = some o → h'.get? b = some o) → Q (.ref s.heap.objs.size) { s with heap := h', toks := tk }) :
    wpAny (model P w) A (call (.type "set") [.ref l]) Q E s := by
  have isz : items.size = ns.length := by
    have q := StrsAre.length hit
    rw [Array.length_toList] at q
    exact q
  obtain ⟨c, tl, hmro⟩ := F.called_set.mro
  have made := F.called_set.made
  have subs := F.called_set.sub
  refine wpAny_call (codeAny_of_tree ?_)
  show wpAny _ _ (callAny (.type "set") _) _ _ _
  refine wpAny_pure ⟨Code.quiet_builtin _ (by decide +kernel), codeAny_builtin F.entry_type_call ?_⟩
  rw [Around.under_plain (weight_type_call_type "set" [.ref l] []) rfl]
  have f1 := F.called_set.notType
  have f2 := F.called_set.canCreate
  have f3 := F.typeCall_set_1 (.ref l)
  repeat (any_goals (first | assumption | wp_step))
  refine codeAny_mono (code_set_led1 (.ref l) (E := E) (Q₁ := fun obj s₁ => obj = .ref s.heap.objs.size ∧ s₁ = { s with heap := s.heap.push (nO w) }) ⟨rfl, rfl⟩) fun r s₁ hr => ?_
  cases r with
  | error e => exact hr
  | ok fl =>
    cases fl with
    | ret obj =>
      obtain ⟨rfl, rfl⟩ := hr
      have oS : (s.heap.push (nO w)).get? s.heap.objs.size = some (nO w) := Heap.get?_push_size _ rfl
      have oT : Shared.TypeIs { s with heap := s.heap.push (nO w) } (.ref s.heap.objs.size) "set" := ⟨_, oS, rfl⟩
      have look := F.called_set.init.lookup
      have bind := F.called_set.init.bind (.ref s.heap.objs.size)
      repeat (any_goals (first | assumption | wp_step))
      refine codeAny_mono (codeAny_call_builtin (R := wants (fun r s₂ => r = .none ∧ ∃ h' tk l', s₂ = { s with heap := h', toks := tk } ∧ SetS P w h' s.heap.objs.size l' ∧ (∀ z, z ∈ l' ↔ z ∈ ns) ∧ l'.length ≤ ns.length ∧
          (∀ b o, s.heap.get? b = some o → h'.get? b = some o)) E) F.called_set.init.plain F.entry_set_init (check_set_init_1 oT ?_)) fun r₂ s₂ hr₂ => ?_
      · obtain ⟨⟨oc, od, odt, osl⟩, hol, hcl, nl, hdl⟩ := hl
        simp only at hcl hdl
        subst hcl; subst hdl
        have at1 : (s.heap.push (nO w)).get? l = some { cls := .type "list", dict := od, data := .seq items nl, slots := osl } := Heap.get?_push_of_some _ hol
        have g1 := F.sub_list_set
        have g2 := F.sub_list_frozenset
        have g3 : (Value.type "list" == Value.type "dict") = false := by decide
        have ls1 : (s.heap.push (nO w)).IsList l items := ⟨_, at1, rfl, nl, rfl⟩
        unfold Builtin.«set.__init__» noKeywords Builtin.Frozenset.updateFrom
        generalize hPI : pyIter = PI
        wp_walk
        subst hPI
        refine wpAny_pyIter_list ls1 ?_
        refine wpAny_bind (wpAny_runValue ?_)
        have lS : l < s.heap.objs.size := Heap.lt_size hol
        have hh3 : A.in1.in1.in1.handled = none := by simp [hh]
        have ne1 : l ≠ (s.heap.push (nO w)).objs.size := by
          rw [Heap.size_push]; exact Nat.ne_of_lt (Nat.lt_succ_of_lt lS)
        have nf1 : s.heap.objs.size ∉ [(s.heap.push (nO w)).objs.size, l] := by
          rw [Heap.size_push]
          simp only [List.mem_cons, List.not_mem_nil, or_false, not_or]
          exact ⟨Nat.ne_of_lt (Nat.lt_succ_self _), Nat.ne_of_gt lS⟩
        have val : ∀ (i : Nat) (v : Value), items[i]? = some v → ∃ k t, ns[i]? = some k ∧ v = .str k t := fun i v hv => by
          obtain ⟨y, t, e, hy⟩ := hit.item i v (by rw [Array.getElem?_toList]; exact hv)
          exact ⟨y, t, hy, e⟩
        refine set_update_txt ((Walks.list hh3 _ l ne1 items).toS) s.heap.objs.size nf1 ns isz hb val (items.size - 0) 0 _ (by omega) (Nat.zero_le _)
          ⟨⟨_, Heap.get?_push_size _ rfl, rfl, rfl⟩, (ls1.push _)⟩ ⟨[], Nat.le_refl _, setS_new (by exact Heap.get?_push_of_some _ oS), fun z => by simp⟩ ?hR
        case hR =>
          intro s' l' mv hS' hm' hl'
          obtain ⟨h', g2, d', tk', os'⟩ := s'
          have eg : g2 = s.gens := mv.gens
          have ed : d' = s.drawn := mv.drawn
          have eo : os' = s.os := mv.os
          subst eg; subst ed; subst eo
          show wpAny _ _ _ _ _ _
          refine wpAny_pure ?_
          show wpAny _ _ (ret Value.none) _ _ _
          rw [isz] at hl'
          refine wpAny_pure ⟨rfl, h', tk', l', rfl, hS', hm', hl', fun b o e => ?_⟩
          have b0 : b < s.heap.objs.size := Heap.lt_size e
          have b1 : b ≠ s.heap.objs.size := Nat.ne_of_lt b0
          have b2 : b ≠ (s.heap.push (nO w)).objs.size := by
            rw [Heap.size_push]; exact Nat.ne_of_lt (Nat.lt_succ_of_lt b0)
          exact mv.heap b o (by simp only [List.mem_cons, List.not_mem_nil, or_false, not_or]; exact ⟨b1, b2⟩) (Heap.get?_push_of_some _ (Heap.get?_push_of_some _ e))
      · cases r₂ with
        | error e => exact hr₂
        | ok fl₂ =>
          cases fl₂ with
          | ret r =>
            obtain ⟨rfl, h', tk, l', rfl, hS', hm', hl', hk'⟩ := hr₂
            repeat (any_goals (first | assumption | wp_step))
            exact h _ _ _ hS' hm' hl' hk'
          | _ => exact hr₂.elim
    | _ => exact hr.elim
def sv : Value → Str
  | .str k _ => k
  | _ => Str.empty
theorem strs_of : ∀ (vs : List Value), (∀ v ∈ vs, ∃ k t, v = Value.str k t) → StrsAre vs (vs.map sv)
  | [], _ => .nil
  | v :: vs, h => by
    obtain ⟨k, t, rfl⟩ := h v List.mem_cons_self
    exact .cons k t (strs_of vs fun u hu => h u (List.mem_cons_of_mem _ hu))
theorem perm_nodup : ∀ {l ks : List Str}, l.Nodup → (∀ z ∈ l, z ∈ ks) → ks.length = l.length → ks.Perm l
  | [], ks, _, _, e => by rw [List.eq_nil_of_length_eq_zero e]
  | x :: l, ks, nd, sub, e => by
    obtain ⟨h1, h2⟩ := List.nodup_cons.mp nd
    have hx := sub x List.mem_cons_self
    refine (List.perm_cons_erase hx).trans ((perm_nodup h2 (fun z hz => ?_) ?_).cons x)
    · exact (List.mem_erase_of_ne fun q : z = x => h1 (by rw [← q]; exact hz)).mpr (sub z (List.mem_cons_of_mem _ hz))
    · rw [List.length_erase_of_mem hx, e]
      rfl
theorem sorted_setS {a : Addr} {l : List Str} {Q : Value → Shared → Prop} (F : SetS P w s.heap a l) (hh : A.handled = none) (h64 : l.length < 64)
    (hQ : ∀ (s' : Shared) (p : Addr) (out : Array Value) (c : Nat) (ys : List Str), (∀ b o, s.heap.get? b = some o → s'.heap.get? b = some o) → s'.gens = s.gens → s'.os = s.os → s.heap.objs.size ≤ p →
      s'.heap.get? p = some (seqObj "list" out c) → StrsAre out.toList ys → ys.Perm l → sortedS ys = true → Q (.ref p) s') :
    wpAny (model P w) A (call (.builtin "sorted") [.ref a]) Q E s := by
  obtain ⟨⟨⟨es, ep, t⟩, ho, tx, ri, led⟩, nd⟩ := F
  have sz : es.size = l.length := tx.sz
  refine Calls.call_function_entry kind_sorted plain_sorted entry_sorted (args_sorted1 _) ?_
  unfold Builtin.«sorted»
  refine wpAny_bind (m := checkCount "sorted" 1 1 _) (wpAny_pure ?_)
  refine wpAny_bind (collect_set (A := A.in1) hh ⟨_, ho, rfl, rfl⟩ tx.fit (by rw [sz]; unfold scanBound; omega) ri led fun s1 vs k1 hz g1 o1 pm => ?_)
  have vl : vs.length = l.length := by rw [pm.length_eq, List.length_map, Array.length_toList]; exact sz
  have each : ∀ e ∈ es.toList, ∃ k t, e.2 = Value.str k t := fun e he => by
    obtain ⟨⟨k, hk, _⟩, _⟩ := tx.el e he
    obtain ⟨t, q⟩ := Value.isStrOf_shape (x := k) (v := e.2) hk
    exact ⟨k, t, q⟩
  have vstr : ∀ v ∈ vs, ∃ k t, v = Value.str k t := fun v hv => by
    obtain ⟨e, he, q⟩ := List.mem_map.mp (pm.mem_iff.mp hv)
    rw [← q]
    exact each e he
  have hS := strs_of vs vstr
  have pk : (vs.map sv).Perm l := by
    have q := pm.map sv
    rw [List.map_map] at q
    refine q.trans (perm_nodup nd (fun z hz => ?_) ?_)
    · obtain ⟨e, he, hq⟩ := (tx.mem z).mp hz
      obtain ⟨t, q2⟩ := Value.isStrOf_shape (x := z) (v := e.2) hq
      exact List.mem_map.mpr ⟨e, he, by show sv e.2 = z; rw [q2]; rfl⟩
    · rw [List.length_map, Array.length_toList]
      exact sz
  refine wpAny_bind (wpAny_newList ?_ (by rw [vl, sizeLine_eq]; omega))
  have at1 : (s1.heap.push (seqObj "list" vs.toArray 0)).get? s1.heap.objs.size = some (seqObj "list" vs.toArray 0) := Heap.get?_push_size _ rfl
  refine wpAny_bind (wpAny_holding (wpAny_call_entry slot_list_sort ⟨_, at1, rfl⟩ entry_list_sort
    (list_sort_treeK strKind_oneLt (s := { s1 with heap := s1.heap.push (seqObj "list" vs.toArray 0) }) at1 hS.keysOf (fun v₁ v₂ rest e => keyKind_strs (by rw [← e]; exact hS)) (by rw [vl]; exact h64) fun st' hp hs => ⟨_, rfl, ?_⟩)
    (args_list_sort _)))
  obtain ⟨ys, a1, a2, a3⟩ := sorted_out_str hS hp hs
  obtain ⟨c, hc⟩ := sortedHeap_at (vs := vs) (out := (arrOf st').map (·.2)) at1
  refine wpAny_pure ⟨_, rfl, hQ _ s1.heap.objs.size _ c ys (fun b u e => ?_) g1 o1 hz hc a1 (a2.trans pk) a3⟩
  have q := k1 b u e
  have lt := Heap.lt_size q
  show (sortedHeap (s1.heap.push (seqObj "list" vs.toArray 0)) s1.heap.objs.size vs _).get? b = some u
  rw [sortedHeap_old (Nat.ne_of_lt lt) (by rw [size_push']; exact Nat.lt_succ_of_lt lt)]
  exact Heap.get?_push_of_some _ q
end
end StT

/-! E35: sorted(set(texts)) as a rule over data. -/
namespace L2
open PySem PySem.Spec PyProof.Rows
/-- a set of texts, not tracked further -/
def setT (P : Program) (w : World) (a : Addr) (l : List Str) : HO := .ext fun h => StT.SetS P w h a l
section
variable {X : Cx}
def rSetT (X : Cx) : List V → Hp → VK → Prop := fun vs H Q => ∃ (a : Addr) (ns : List Str), vs = [V.ref a] ∧ SqL X.K H a (ns.map V.str) ∧ ns.length ≤ 4000 ∧
  ∀ (p : Addr) (l : List Str), l.Nodup → (∀ z, z ∈ l ↔ z ∈ ns) → H p = none → Q (.ref p) (upd H p (setT X.prog X.w p l))
theorem ext_ok {H : Hp} {h : Heap} {a : Addr} {l : List Str} (x : StT.SetS X.prog X.w h a l) : ObjOk X.prog X.w H h a (setT X.prog X.w a l) := by
  obtain ⟨D, e, _⟩ := x.ex
  exact ⟨x, ⟨_, e⟩, fun h1 h2 y k => y.at k⟩
theorem cr_setT (hc : X.calm = true) : CallR X (.type "set") (rSetT X) := by
  intro pins s σ H vs us Q I r h
  obtain ⟨a, ns, rfl, hs, hn, q⟩ := h
  obtain ⟨its, rv, hl, hz⟩ := I.list hs
  rw [Vals.ref1 r]
  refine StT.call_set_lst ns (I.ok.hd hc) hl.isList rv.strs (by unfold scanBound; omega) fun h' tk l' F hm hl' kp => ?_
  exact ⟨.ref _, upd H s.heap.objs.size (setT X.prog X.w s.heap.objs.size l'), I.laid (t' := tk) kp (Nat.le_refl _) (ext_ok F), rfl, q _ l' F.nd hm (I.hok.fresh (Nat.le_refl _))⟩
def rSrtSet (X : Cx) : List V → Hp → VK → Prop := fun vs H Q => ∃ (a : Addr) (l : List Str), vs = [V.ref a] ∧ H a = some (setT X.prog X.w a l) ∧ l.length < 64 ∧
  ∀ (ys : List Str) (p : Addr), ys.Perm l → sortedS ys = true → H p = none → Q (.ref p) (upd H p (.lst (ys.map V.str)))
theorem cr_srtSet (hc : X.calm = true) : CallR X (.builtin "sorted") (rSrtSet X) := by
  intro pins s σ H vs us Q I r h
  obtain ⟨a, l, rfl, ha, h64, q⟩ := h
  rw [Vals.ref1 r]
  obtain ⟨F, _, _⟩ : StT.SetS X.prog X.w s.heap a l ∧ _ ∧ _ := I.hok _ _ ha
  refine StT.sorted_setS F (I.ok.hd hc) h64 fun s' p out c ys kp g1 o1 hp hat hst pm so => ?_
  have hn : H p = none := I.hok.fresh hp
  refine ⟨.ref p, upd H p (.lst (ys.map V.str)), I.call' (ch := []) o1 (Un.laid kp hp hn) (I.hok.laid kp hp ⟨?_, out.toList, c, vals_of_strs hst, by simpa using hat⟩) (by rw [g1]; exact I.bare) (fun _ z => nomatch z), rfl, q ys p pm so hn⟩
  rw [List.length_map, pm.length_eq]
  exact small64 h64
end
end L2
namespace Ev
open PySem PySem.Spec L2 PyProof.Rows
section
variable {T : Tx} {W : WX} {X : Cx} {e : Expr} {ma : M D} {pos : Pos}
def asSs : List D → Option (List Str)
  | [] => some []
  | .str b :: r => (asSs r).map (b :: ·)
  | _ => none
theorem Reps.txs {io : Io} {G : Hp} : ∀ {vs : List V} {ds : List D} {bs : List Str}, Reps T io G vs ds → asSs ds = some bs → vs = bs.map V.str
  | _, _, _, .nil, h => by cases h; rfl
  | _, _, _, .cons (d := d) a r, h => by
    cases d <;> first | cases h; done | skip
    unfold asSs at h
    obtain ⟨bs, e, rfl⟩ := Option.map_eq_some_iff.mp h
    cases a
    rw [Reps.txs r e]; rfl
/-- each once, as first met -/
def oneS : List Str → List Str
  | [] => []
  | x :: r => if x ∈ r then oneS r else x :: oneS r
theorem oneS_mem : ∀ (l : List Str) (z : Str), z ∈ oneS l ↔ z ∈ l
  | [], z => Iff.rfl
  | x :: r, z => by
    unfold oneS
    split
    · rename_i h
      rw [oneS_mem r z, List.mem_cons]
      exact ⟨.inr, fun q => q.elim (fun e => by rw [e]; exact h) id⟩
    · rw [List.mem_cons, List.mem_cons, oneS_mem r z]
theorem oneS_nodup : ∀ l : List Str, (oneS l).Nodup
  | [] => List.nodup_nil
  | x :: r => by
    unfold oneS
    split
    · exact oneS_nodup r
    · rename_i h
      exact List.nodup_cons.mpr ⟨fun q => h ((oneS_mem r x).mp q), oneS_nodup r⟩
def strLe (x y : Str) : Bool := decide (x.cps.toList ≤ y.cps.toList)
def srtS (l : List Str) : List Str := l.mergeSort strLe
theorem perm_sub : ∀ {l m : List Str}, l.Nodup → m.Nodup → (∀ z, z ∈ l ↔ z ∈ m) → l.Perm m
  | [], m, _, _, h => by
    cases m with
    | nil => exact .refl _
    | cons y m => exact absurd ((h y).mpr List.mem_cons_self) (by simp)
  | x :: l, m, nl, nm, h => by
    obtain ⟨h1, h2⟩ := List.nodup_cons.mp nl
    have hx := (h x).mp List.mem_cons_self
    refine .trans ?_ (List.perm_cons_erase hx).symm
    refine (perm_sub h2 (nm.erase x) fun z => ?_).cons x
    by_cases e : z = x
    · subst e
      exact ⟨fun q => absurd q h1, fun q => absurd q (fun q => by
        have := (List.Nodup.mem_erase_iff nm).mp q
        exact this.1 rfl)⟩
    · rw [List.mem_erase_of_ne e, ← h z, List.mem_cons]
      exact ⟨.inr, fun q => q.resolve_left e⟩
def gSortSet (d : D) : Option D := match d with
  | .lst ds => (asSs ds).bind fun ns => if ns.length ≤ 4000 ∧ (oneS ns).length < 64 then some (.lst ((srtS (oneS ns)).map .str)) else none
  | _ => none
theorem rising_pw : ∀ (r : List Str) (p : Str), risingS p r = true → (∀ z ∈ r, p.cps.toList ≤ z.cps.toList) ∧ r.Pairwise fun a b => a.cps.toList ≤ b.cps.toList
  | [], _, _ => ⟨fun _ h => (by cases h), List.Pairwise.nil⟩
  | x :: r, p, h => by
    unfold risingS at h
    rw [Bool.and_eq_true, Bool.not_eq_true'] at h
    rw [ltCps_eq] at h
    have px : p.cps.toList ≤ x.cps.toList := List.not_lt.mp (of_decide_eq_false h.1)
    obtain ⟨h1, h2⟩ := rising_pw r x h.2
    refine ⟨fun z hz => ?_, List.pairwise_cons.mpr ⟨h1, h2⟩⟩
    rcases List.mem_cons.mp hz with e | hz
    · subst e; exact px
    · exact List.le_trans px (h1 z hz)
theorem sorted_pw {ys : List Str} (h : sortedS ys = true) : ys.Pairwise fun a b => a.cps.toList ≤ b.cps.toList := by
  cases ys with
  | nil => exact List.Pairwise.nil
  | cons x r => exact List.pairwise_cons.mpr (rising_pw r x h)
theorem str_ext {x y : Str} (h : x.cps.toList = y.cps.toList) : x = y := by
  obtain ⟨⟨a⟩⟩ := x
  obtain ⟨⟨b⟩⟩ := y
  have : a = b := h
  rw [this]
theorem srtS_pw (l : List Str) : (srtS l).Pairwise fun a b => a.cps.toList ≤ b.cps.toList := by
  have := List.pairwise_mergeSort (le := strLe) (fun a b c h1 h2 => decide_eq_true (List.le_trans (of_decide_eq_true h1) (of_decide_eq_true h2))) (fun a b => by
    unfold strLe
    rcases List.le_total a.cps.toList b.cps.toList with h | h
    · rw [decide_eq_true h]; rfl
    · rw [decide_eq_true h, Bool.or_true]) l
  exact this.imp fun {x y} h => of_decide_eq_true h
theorem srtS_uniq {ys l : List Str} (h : sortedS ys = true) (p : ys.Perm l) : ys = srtS l :=
  List.Perm.eq_of_pairwise (le := fun a b : Str => a.cps.toList ≤ b.cps.toList) (fun a b _ _ h1 h2 => str_ext (List.le_antisymm h1 h2)) (sorted_pw h) (srtS_pw l) (p.trans (List.mergeSort_perm _ _).symm)
theorem de_sortSet {p p2 pos2 : Pos} (hK : X.K = T.K) (hc : X.calm = true) (hg : Gl X "sorted") (hm : X.mg "sorted" = none) (hg2 : Gl X "set") (hm2 : X.mg "set" = none) (he : PE X e (tD T W ma))
    (h1 : starEach [e] X.env = (false, eval e X.env) :: starEach [] X.env := by rfl) (h2 : (backTo pos2 (starEach [] X.env)).any (·.1) = false := by rfl)
    (h3 : starEach [.Call (.Name "set" p2) [e] [] pos2] X.env = (false, eval (.Call (.Name "set" p2) [e] [] pos2) X.env) :: starEach [] X.env := by rfl) (h4 : (backTo pos (starEach [] X.env)).any (·.1) = false := by rfl) :
    PE X (.Call (.Name "sorted" p) [.Call (.Name "set" p2) [e] [] pos2] [] pos) (tD T W (m1 gSortSet ma)) :=
  PE.imp (pe_callB (cr_srtSet hc) hg hm (by decide +kernel) (pa_cons (pe_callTy (cr_setT hc) hg2 hm2 (by decide +kernel) (pa_cons he pa_nil h1) (by decide) (by decide) h1 h2) pa_nil h3) (by decide) (by decide) h3 h4) fun σ H Q ⟨x, s, k, q⟩ => by
    refine ⟨x, s, k, ?_⟩
    unfold m1 M.bind M.lift at q
    cases em : ma s with
    | exc c ns vs sto => rw [em] at q; exact q
    | bad => rw [em] at q; exact q
    | ok d s1 =>
      rw [em] at q
      intro x1 v1 H1 k1 st1 r1
      simp only at q
      cases e2 : gSortSet d with
      | none => rw [e2] at q; exact q.elim
      | some z =>
        simp only [e2] at q
        unfold gSortSet at e2
        cases d with
        | lst ds =>
          obtain ⟨ns, e3, e4⟩ := Option.bind_eq_some_iff.mp e2
          split at e4
          · rename_i hl
            cases e4
            cases r1 with
            | @lst a vs _ sq rs =>
              refine ⟨a, ns, rfl, by rw [hK, ← Reps.txs rs e3]; exact k1.bx.sub.sqL sq, hl.1, fun p l nd hm hp => ?_⟩
              have pm : l.Perm (oneS ns) := perm_sub nd (oneS_nodup ns) fun z => (hm z).trans (oneS_mem ns z).symm
              refine ⟨p, l, rfl, upd_same, by rw [pm.length_eq]; exact hl.2, fun ys p2 py so hp2 => ?_⟩
              rw [srtS_uniq so (py.trans pm)]
              have lu : Le H1 (upd H1 p (setT X.prog X.w p l)) := Le.upd hp
              have hp2' : H1 p2 = none := by
                cases q2 : H1 p2 with
                | none => rfl
                | some o => rw [lu _ _ q2] at hp2; cases hp2
              have gn : x1.G p2 = none := k1.bx.sub.none hp2'
              have l2 : Le (upd H1 p (setT X.prog X.w p l)) (upd (upd H1 p (setT X.prog X.w p l)) p2 (.lst ((srtS (oneS ns)).map V.str))) := Le.upd hp2
              have gr : Grow x1.G H1 (upd x1.G p2 (.lst ((srtS (oneS ns)).map V.str))) (upd (upd H1 p (setT X.prog X.w p l)) p2 (.lst ((srtS (oneS ns)).map V.str))) := by
                refine ⟨Le.upd gn, lu.trans l2, fun c o e => ?_, fun c o e => ?_⟩
                · by_cases hcp : c = p2
                  · subst hcp
                    rw [upd_same] at e ⊢
                    exact e
                  · rw [upd_ne hcp] at e
                    exact l2 _ _ (lu _ _ (k1.bx.sub _ _ e))
                · by_cases hcp : c = p2
                  · subst hcp
                    exact .inr hp2'
                  · rw [upd_ne hcp] at e
                    exact .inl e
              refine q _ _ _ (k1.grow gr) (st1.trans gr.stp) (.lst (.inl (.inl upd_same)) ?_)
              have go : ∀ l : List Str, Reps T x1.io (upd x1.G p2 (.lst ((srtS (oneS ns)).map V.str))) (l.map V.str) (l.map D.str) := by
                intro l
                induction l with
                | nil => exact .nil
                | cons a l ih => exact .cons (.str a) ih
              exact go _
          · cases e4
        | _ => cases e2
end
end Ev

/-! E36: list(x) as a list of one's own; an own list compared. -/
namespace Ev
open PySem PySem.Spec L2
section
variable {T : Tx} {W : WX} {X : Cx} {e a b : Expr} {es : List Expr} {ma mb : M D} {pos : Pos}
def mListF (ma : M D) : M (List D) := M.bind ma fun d => M.lift (itemsOf d)
theorem df_list {p : Pos} (hK : X.K = T.K) (hc : CallR X (.type "list") (fun xs H Q => ∃ p ys, xs = [V.ref p] ∧ (SqL X.K H p ys ∨ SqT X.K H p ys) ∧ ∀ l, H l = none → Q (.ref l) (L2.upd H l (.lst ys)))) (hg : Gl X "list") (hm : X.mg "list" = none) (he : PE X e (tD T W ma))
    (h1 : starEach [e] X.env = (false, eval e X.env) :: starEach [] X.env := by rfl) (h2 : (backTo pos (starEach [] X.env)).any (·.1) = false := by rfl) : PE X (.Call (.Name "list" p) [e] [] pos) (tF T W (mListF ma)) :=
  PE.imp (pe_callTy hc hg hm (by decide +kernel) (pa_cons he pa_nil h1) (by decide) (by decide) h1 h2) fun σ H Q ⟨x, s, k, q⟩ => by
    refine ⟨x, s, k, ?_⟩
    unfold mListF M.bind M.lift at q
    cases em : ma s with
    | exc c ns vs sto => rw [em] at q; exact q
    | bad => rw [em] at q; exact q
    | ok d s1 =>
      rw [em] at q
      intro x1 v1 H1 k1 st1 r1
      simp only at q
      cases r1 with
      | @lst a vs ds sq rs =>
        refine ⟨a, vs, rfl, .inl (by rw [hK]; exact k1.bx.sub.sqL sq), fun l hl => ?_⟩
        obtain ⟨x2, _, _, k2, st2, o⟩ := k1.lay hl rs
        exact q x2 l _ k2 (st1.trans st2) o
      | @tup a vs ds sq rs =>
        refine ⟨a, vs, rfl, .inr (by rw [hK]; exact k1.bx.sub.sqT sq), fun l hl => ?_⟩
        obtain ⟨x2, _, _, k2, st2, o⟩ := k1.lay hl rs
        exact q x2 l _ k2 (st1.trans st2) o
      | _ => exact q.elim
theorem dt_cmpB {op : CmpOp} {r : R2} {g : D → D → Option D} {z : Str} {p2 : Pos} {i : Nat} (ho : OpR X (compareOp op) r) (p : P2 T r g) (hN : X.N[i]? = some z) (hvis : Vis X.env.scope z) (hb : PE X b (tD T W mb)) (hm : behindInMarks op b = false)
    (hd : (z == ("__debug__" : Str)) = false := by decide) (hcd : (z == ("__classdict__" : Str)) = false := by decide) : PT X (.Compare (.Name z p2) [op] [b] pos) (tB T W (mT (mB2 g i mb))) :=
  PT.imp (pt_cmpR ho (pe_var (pos := p2) (i := i) hN hvis hd hcd) hb hm) fun _ _ _ q => tB2 p (tT q)
end
end Ev

/-! E37: dict(pairs), d.get(k, x), xs.pop(i), xs[::-1], a list taken apart, dict displays of any keys. -/
namespace Ev
open PySem PySem.Spec L2
section
variable {T : Tx} {W : WX} {X : Cx} {e a b c : Expr} {es : List Expr} {ma mb mc : M D} {ml : M (List D)} {pos : Pos}
/-! ### dict(pairs) -/
def asPair : D → Option (Key × D)
  | .tup [k, v] => (asKey k).map fun k => (k, v)
  | _ => none
def asPairs : List D → Option (List (Key × D))
  | [] => some []
  | d :: ds => (asPair d).bind fun p => (asPairs ds).map fun r => p :: r
def gDict (l : List D) : Option D := match l with
  | [.lst xs] => (asPairs xs).bind fun ps => if (ps.map (·.1)).Nodup then some (.dic (ps.map (·.1)) (ps.map (·.2))) else none
  | _ => none
def rDict (K : PySem.W.Frag) : List V → Hp → VK → Prop := fun xs H Q => ∃ (a : Addr) (ps : List Addr) (kvs : List (Key × V)), xs = [.ref a] ∧ SqL K H a (ps.map V.ref) ∧ Paired (fun p kv => SqT K H p [kV kv.1, kv.2]) ps kvs ∧ ∀ p, H p = none → Q (.ref p) (L2.upd H p (.dK (mergeK [] kvs)))
theorem call_dictA (hc : X.calm = true) : CallR X (.type "dict") (rDict X.K) := call_dictP hc
theorem asPair_rep {io : Io} {G : Hp} {v : V} {d : D} {k : Key} {z : D} (r : Rep T io G v d) (h : asPair d = some (k, z)) : ∃ (p : Addr) (u : V), v = .ref p ∧ SqT T.K G p [kV k, u] ∧ Rep T io G u z := by
  unfold asPair at h
  split at h
  · rename_i dk dv
    cases e : asKey dk with
    | none => rw [e] at h; cases h
    | some k' =>
      rw [e] at h
      cases h
      cases r with
      | @tup a vs ds sq rs =>
        cases rs with
        | cons r1 r2 =>
          cases r2 with
          | cons r2 r3 =>
            cases r3
            have := asKey_kV r1 e
            subst this
            exact ⟨a, _, rfl, sq, r2⟩
  · cases h
theorem asPairs_rep {io : Io} {G H : Hp} (le : Le G H) : ∀ {vs : List V} {ds : List D} {ps : List (Key × D)}, Reps T io G vs ds → asPairs ds = some ps →
    ∃ (as : List Addr) (kvs : List (Key × V)), vs = as.map V.ref ∧ Paired (fun p kv => SqT T.K H p [kV kv.1, kv.2]) as kvs ∧ kvs.map (·.1) = ps.map (·.1) ∧ Reps T io G (kvs.map (·.2)) (ps.map (·.2))
  | _, _, ps, .nil, h => by
    unfold asPairs at h
    cases h
    exact ⟨[], [], rfl, .nil, rfl, .nil⟩
  | _, _, ps, .cons (d := d) (ds := ds) r rs, h => by
    unfold asPairs at h
    cases e : asPair d with
    | none => rw [e] at h; cases h
    | some p =>
      rw [e] at h
      cases e2 : asPairs ds with
      | none => simp [e2] at h
      | some q =>
        simp [e2] at h
        subst h
        obtain ⟨k, z⟩ := p
        obtain ⟨p, u, rfl, sq, ru⟩ := asPair_rep r e
        obtain ⟨as, kvs, rfl, pr, ek, rk⟩ := asPairs_rep le rs e2
        exact ⟨p :: as, (k, u) :: kvs, rfl, .cons (le.sqT sq) pr, by simp [ek], .cons ru rk⟩
theorem p_dict (hK : X.K = T.K) : PL T (rDict X.K) gDict := fun io G vs ds z H Q r le q k => by
  rw [hK]
  unfold gDict at q
  split at q
  · rename_i xs
    cases r with
    | cons r r0 =>
      cases r0
      cases r with
      | @lst a us ds sq rs =>
        cases e : asPairs xs with
        | none => rw [e] at q; cases q
        | some ps =>
          rw [e] at q
          simp only [Option.bind_some] at q
          by_cases nd : (ps.map (·.1)).Nodup
          · rw [if_pos nd] at q
            cases q
            obtain ⟨as, kvs, rfl, pr, ek, rk⟩ := asPairs_rep le rs e
            refine ⟨a, as, kvs, rfl, le.sqL sq, pr, fun p hp => ?_⟩
            have gr := Grow.one (o := .dK (mergeK [] kvs)) le hp
            have em : mergeK [] kvs = (ps.map (·.1)).zip (kvs.map (·.2)) := by
              rw [mergeK_new (by rw [List.nil_append, ek]; exact nd), List.nil_append, ← ek]
              clear pr ek rk gr
              induction kvs with
              | nil => rfl
              | cons p r ih => simp [← ih]
            refine k _ _ _ gr (.dic (vs := kvs.map (·.2)) (.inl ?_) (by simp) nd (rk.up gr.g))
            rw [upd_same, em]
          · rw [if_neg nd] at q; cases q
      | _ => cases q
  · cases q
/-! ### d.get(k, x) -/
def mGet2 (ma mb mc : M D) : M D := M.bind ma fun d => match d with
  | .dic ks ds => M.bind mb fun k => M.bind mc fun z => M.lift ((asKey k).map fun k => (lk ks ds k).getD z)
  | _ => fun _ => .bad
theorem de_get2 {k0 : Nat} {p1 p3 : Pos} (hr : Room k0 X.A) (ha : PE X a (tD T W ma)) (hb : PE X b (tD T W mb)) (hc : PE X c (tD T W mc))
    (base : attributeBase a "get" X.env (eval a X.env) = eval a X.env := by rfl)
    (few : ((((backTo p3 (starEach [b, c] X.env)).all fun x => !x.fst) && (backToKw p3 (keywordEach [] X.env)).all fun x => x.fst.isSome) && decide (([b, c].length + ([] : List Keyword).length + if ([] : List Keyword).isEmpty = true then 0 else 1) < 30)) = true := by rfl)
    (line : (p1.endLine == p3.line) = true := by rfl) (trees : backTo p3 (starEach [b, c] X.env) = [(false, eval b X.env), (false, eval c X.env)] := by rfl) :
    PE X (.Call (.Attribute a "get" p1) [b, c] [] p3) (tD T W (mGet2 ma mb mc)) :=
  PE.imp (pe_dget2 (by have := hr.un; omega) ha hb hc ⟨base, few, line, trees⟩) fun σ H Q ⟨x, s, k, h⟩ => by
    refine ⟨x, s, k, ?_⟩
    unfold mGet2 M.bind M.lift at h
    cases e1 : ma s with
    | exc c ns vs sto => rw [e1] at h; exact h
    | bad => rw [e1] at h; exact h
    | ok d s1 =>
      rw [e1] at h
      intro x1 v1 H1 k1 st1 r1
      cases d with
      | dic ks ds =>
        simp only at h
        cases r1 with
        | dic rd hl nd rs =>
          refine ⟨_, rfl, .inl ⟨_, k1.bx.sub.rd rd⟩, x1, s1, k1, ?_⟩
          cases e2 : mb s1 with
          | exc c ns vs sto => rw [e2] at h; exact h.back st1
          | bad => rw [e2] at h; exact h
          | ok kd s2 =>
            rw [e2] at h
            intro x2 v2 H2 k2 st2 r2
            simp only at h
            refine ⟨x2, s2, k2, ?_⟩
            cases e3 : mc s2 with
            | exc c ns vs sto => rw [e3] at h; exact (h.back st1).back st2
            | bad => rw [e3] at h; exact h
            | ok z s3 =>
              rw [e3] at h
              intro x3 v3 H3 k3 st3 r3
              simp only at h
              cases e4 : asKey kd with
              | none => rw [e4] at h; exact h.elim
              | some key =>
                rw [e4] at h
                simp only [Option.map_some] at h
                have rs3 := (rs.mono st2.io st2.le).mono st3.io st3.le
                have rd3 := k3.bx.sub.rd (st3.le.rd (st2.le.rd rd))
                have ek := asKey_kV r2 e4
                cases e5 : lk ks ds key with
                | none =>
                  rw [e5] at h
                  refine ⟨none, .inl ⟨_, key, rd3, ek, ((lk_valV hl rs3).2 e5).symm⟩, ?_⟩
                  exact h x3 v3 H3 k3 (st1.trans (st2.trans st3)) r3
                | some w =>
                  rw [e5] at h
                  obtain ⟨u, e6, ru⟩ := (lk_valV hl rs3).1 w e5
                  exact ⟨some u, .inl ⟨_, key, rd3, ek, e6.symm⟩, h x3 u H3 k3 (st1.trans (st2.trans st3)) ru⟩
      | _ => exact h.elim
/-! ### xs.pop(i), x a name of a list of one's own -/
def mPopAt (i : Nat) (ma : M D) : M D := fun s => match s.env[i]? with
  | some (.ow _) => M.bind ma (fun d s' => match s'.env[i]?, d with
    | some (.ow xs), .int j => if (0 ≤ j ∧ j < xs.length) ∧ j < 2 ^ 62 then (match xs[j.toNat]? with
      | some z => .ok z (s'.own i (xs.eraseIdx j.toNat))
      | none => .bad) else .bad
    | _, _ => .bad) s
  | _ => .bad
theorem seqIx {j : Int} {n : Nat} (h0 : 0 ≤ j) (h1 : j < n) : seqIndex? j n = some j.toNat := by
  unfold seqIndex?
  have : ¬ j < 0 := by omega
  simp [this, h0, h1]
theorem de_popAt {z : Str} {i : Nat} {p1 p2 p3 : Pos} (hK : X.K = T.K) (hN : X.N[i]? = some z) (hvis : Vis X.env.scope z) (he : PE X e (tD T W ma))
    (hfew : ((backTo p3 (starEach [e] X.env)).all (fun x => !x.1) && (backToKw p3 (keywordEach [] X.env)).all (fun x => x.1.isSome)
      && decide ([e].length + ([] : List Keyword).length + (if ([] : List Keyword).isEmpty then 0 else 1) < 30)) = true := by rfl)
    (hline : (p2.endLine == p3.line) = true := by rfl) (hs : starEach [e] X.env = (false, eval e X.env) :: starEach [] X.env := by rfl) (hplain : (backTo p3 (starEach [] X.env)).any (·.1) = false := by rfl)
    (hbase : attributeBase (.Name z p1) "pop" X.env (eval (.Name z p1) X.env) = eval (.Name z p1) X.env := by rfl)
    (hd : (z == ("__debug__" : Str)) = false := by decide) (hcd : (z == ("__classdict__" : Str)) = false := by decide) : PE X (.Call (.Attribute (.Name z p1) "pop" p2) [e] [] p3) (tD T W (mPopAt i ma)) :=
  PE.imp (pe_bm PySem.F.plainAttrs_list PySem.F.slot_list_pop PySem.F.type_list_pop mt_popAt (pe_var (pos := p1) (i := i) hN hvis hd hcd) (pa_cons he pa_nil hs) hbase hfew hline hs hplain) fun σ H Q ⟨x, s, k, h⟩ => by
    unfold mPopAt at h
    cases q : s.env[i]? with
    | none => rw [q] at h; exact h.elim
    | some sl =>
      cases sl with
      | un => rw [q] at h; exact h.elim
      | th => rw [q] at h; exact h.elim
      | od ks ds => rw [q] at h; exact h.elim
      | sh d => rw [q] at h; exact h.elim
      | ow xs0 =>
        simp only [q] at h
        unfold M.bind at h
        obtain ⟨a, vs0, h1, h2, h3, h4, h5⟩ := k.ow i xs0 q
        refine ⟨_, h1, .inl ⟨rfl, vs0, by rw [hK]; exact SqL.of h2⟩, x, s, k, ?_⟩
        cases em : ma s with
        | exc c ns vs sto => rw [em] at h; exact h
        | bad => rw [em] at h; exact h
        | ok d s' =>
          rw [em] at h
          simp only at h
          intro x' v0 H' k' st r
          cases q' : s'.env[i]? with
          | none => rw [q'] at h; exact h.elim
          | some sl =>
            cases sl with
            | un => rw [q'] at h; exact h.elim
            | th => rw [q'] at h; exact h.elim
            | od ks ds => rw [q'] at h; exact h.elim
            | sh d => rw [q'] at h; exact h.elim
            | ow xs =>
                cases r with
                | int j =>
                  simp only [q'] at h
                  by_cases hj : (0 ≤ j ∧ j < xs.length) ∧ j < 2 ^ 62
                  · rw [if_pos hj] at h
                    cases ez : xs[j.toNat]? with
                    | none => simp only [ez] at h
                    | some z =>
                      simp only [ez] at h
                      obtain ⟨a', vs, g1, g2, g3, g4, g5⟩ := k'.ow i xs q'
                      have ea : a' = a := by
                        have z : some (some (V.ref a')) = some (some (V.ref a)) := g1.symm.trans h1
                        injection z with z
                        injection z with z
                        injection z
                      subst ea
                      obtain ⟨v, hv, rv⟩ := g3.get ez
                      obtain ⟨k2, st2⟩ := k'.write q' g1 (g3.eraseIdx j.toNat)
                      refine ⟨a', vs, j, j.toNat, v, rfl, rfl, g2, by omega, by omega, ?_, hv, h x' v _ k2 (st.trans st2) rv⟩
                      rw [g3.length]
                      exact seqIx hj.1.1 hj.1.2
                  · rw [if_neg hj] at h; exact h.elim
                | _ => simp only [q'] at h
/-! ### xs[::-1] -/
def gRev (d : D) : Option D := match d with
  | .lst xs => some (.lst xs.reverse)
  | _ => none
def rRev (K : PySem.W.Frag) : V → Hp → VK → Prop := fun x H Q => ∃ a xs, x = .ref a ∧ SqL K H a xs ∧ ∀ p, H p = none → Q (.ref p) (L2.upd H p (.lst xs.reverse))
theorem p_rev (hK : X.K = T.K) : P1 T (rRev X.K) gRev := fun io G v d z H Q r le q k => by
  rw [hK]
  cases r with
  | @lst a vs ds sq rs =>
    cases q
    refine ⟨a, vs, rfl, le.sqL sq, fun p hp => ?_⟩
    have gr := Grow.one (o := .lst vs.reverse) le hp
    exact k _ _ _ gr (.lst (.inl (.inl upd_same)) (rs.reverse.up gr.g))
  | _ => cases q
theorem de_revL {j : Nat} {p1 p2 p3 : Pos} (hK : X.K = T.K) (ha : PE X a (tD T W ma)) : PE X (.Subscript a (.Slice none none (some (.UnaryOp .USub (.Constant (.int 1) j p1) p2)) p3) pos) (tD T W (m1 gRev ma)) :=
  PE.imp (pe_revL ha) fun _ _ _ h => t1 (p_rev hK) h
/-! ### a list taken apart -/
def tgL (u : Tgs) : Tg := ⟨u.slots, fun d s => match d with | .lst xs => u.run xs s | _ => none⟩
theorem dg_lst {es : List Expr} {kk : Nat} {u : Tgs} {n : Nat} (hK : X.K = T.K) (hc : X.calm = true) (h : PGs X es (gDs T u)) (hn : (assignEach es X.env).length = n := by rfl) (hl : ∀ ds s s', u.run ds s = some s' → ds.length = n)
    (hst : (assignEach es X.env).findIdx? (·.1) = none := by rfl) : PG X (.Tuple es kk pos) (gD T (tgL u)) :=
  PG.imp (pg_unl hc h hn hst) fun v σ H Q ⟨x, s, s', d, k, r, e, q⟩ => by
    cases r with
    | lst sq rs =>
      have e : u.run _ s = some s' := e
      refine ⟨_, _, rfl, ?_, ?_, ⟨x, s, s', _, k, rs, e, q⟩⟩
      · rw [hK]; exact k.bx.sub.sqL sq
      · rw [rs.length]; exact hl _ _ _ e
    | _ => cases e
/-! ### displays of dicts, any keys -/
structure DPK (T : Tx) (W : WX) (X : Cx) (pos : Pos) (keys : List (Option Expr)) (values : List Expr) (ks : List Key) (m : M (List D)) : Prop where
  ex : ∃ trs, PPs X pos keys values trs ∧ ∀ σ H Q, tDs T W m σ H (fun vs H' => Q ((ks.zip vs).map fun q => (kV q.1, q.2)) H') → tPairs trs σ H Q
  len : keys.length = values.length
  all : keys.all (·.isSome) = true
  lk : keys.length = ks.length
  ar : Ar ks.length m
theorem dq_nil : DPK T W X pos [] [] [] mNil := ⟨⟨[], pps_nil, fun σ H Q ⟨x, s, k, h⟩ => h x [] H k (.refl _ _) .nil⟩, rfl, rfl, rfl, ar_nil⟩
theorem dq_cons {keys : List (Option Expr)} {values : List Expr} {ks : List Key} {m : M (List D)} {k : Key} {ke v : Expr} (hk : PE X ke (tC (kV k))) (ha : PE X v (tD T W ma)) (h : DPK T W X pos keys values ks m) : DPK T W X pos (some ke :: keys) (v :: values) (k :: ks) (mCons ma m) := by
  obtain ⟨trs, h1, h2⟩ := h.ex
  refine ⟨⟨_, pps_cons hk ha h1, fun σ H Q q => ?_⟩, by simp [h.len], by simp [h.all], by simp [h.lk], ar_cons h.ar⟩
  have q2 := tDs_cons q
  show tD T W ma σ H fun y H2 => tPairs trs σ H2 fun ps H3 => Q ((kV k, y) :: ps) H3
  exact tD.mono q2 fun y H2 q3 => h2 σ H2 _ (tDs.mono q3 fun vs H3 q4 => by simpa using q4)
def mDispK (ks : List Key) (m : M (List D)) : M D := M.bind m fun ds => M.pure (.dic ks ds)
theorem de_dispK {keys : List (Option Expr)} {values : List Expr} {ks : List Key} {m : M (List D)} (h : DPK T W X pos keys values ks m) (nd : ks.Nodup) (h0 : keys ≠ []) (h15 : ks.length ≤ 15) : PE X (.Dict keys values pos) (tD T W (mDispK ks m)) := by
  obtain ⟨trs, h1, h2⟩ := h.ex
  refine PE.imp (pe_disp h1 h.all h.len h0 (by rw [h.lk]; exact h15)) fun σ H Q ⟨x, s, k, q⟩ => fun p hp => h2 σ _ _ ?_
  have hu : ¬ x.U p := fun z => by
    obtain ⟨o, e⟩ := k.bx.trk p z
    rw [hp] at e; cases e
  have hg : x.G p = none := k.bx.sub.none hp
  refine ⟨x, s, k.aside' hu hg, ?_⟩
  unfold mDispK M.bind M.pure at q
  have st0 : Stp x H x (L2.upd H p (.dK [])) := (Stp.refl x H).aside hp
  cases e : m s with
  | exc c ns vs sto => rw [e] at q; exact q.back st0
  | bad => rw [e] at q; exact q
  | ok ds s' =>
    rw [e] at q
    simp only at q
    intro x2 vs H2 k2 st2 r2
    have h2p : H2 p = some (.dK []) := st2.fr p _ upd_same hu
    have hu2 : ¬ x2.U p := fun z => by
      rcases st2.un p z with w | w
      · exact hu w
      · rw [upd_same] at w; cases w
    have hg2 : x2.G p = none := by
      cases e2 : x2.G p with
      | none => rfl
      | some o =>
        rcases st2.new p o e2 with w | w | w
        · rw [hg] at w; cases w
        · exact absurd w hu
        · rw [upd_same] at w; cases w
    have hlen : vs.length = ks.length := r2.length.trans (h.ar s ds s' e)
    have kz : ((ks.zip vs : List (Key × V)).map (·.1)) = ks := by
      rw [List.map_fst_zip]
      simp [hlen]
    refine ⟨h2p, ks.zip vs, rfl, by simp [hlen]; omega, ?_⟩
    have em : mergeK [] (ks.zip vs : List (Key × V)) = ks.zip vs := by
      rw [mergeK_new]
      · rfl
      · rw [List.nil_append, kz]
        exact nd
    rw [em]
    have k3 := k2.aside' (o := .dK (ks.zip vs)) hu2 hg2
    obtain ⟨k4, le4⟩ := k3.reveal upd_same hu2 hg2
    refine q _ _ _ k4 ⟨st2.io, st2.le.trans le4, fun a o e n => ?_, fun a o e => ?_, fun a u => ?_, fun a e => ?_⟩ (.dic (.inl upd_same) (by simp [h.ar s ds s' e]) nd (r2.up le4))
    · have ha : a ≠ p := ne_of_none e hp
      rw [upd_ne ha]
      exact st2.fr a o (by rw [upd_ne ha]; exact e) n
    · have e : L2.upd x2.G p _ a = some o := e
      by_cases ha : a = p
      · subst ha; exact .inr (.inr hp)
      · rw [upd_ne ha] at e
        rcases st2.new a o e with w | w | w
        · exact .inl w
        · exact .inr (.inl w)
        · rw [upd_ne ha] at w; exact .inr (.inr w)
    · rcases st2.un a u with w | w
      · exact .inl w
      · by_cases ha : a = p
        · subst ha; exact .inr hp
        · rw [upd_ne ha] at w; exact .inr w
    · by_cases ha : a = p
      · subst ha; exact hp
      · rw [upd_ne ha] at e
        have := st2.th a e
        rw [upd_ne ha] at this; exact this
end
end Ev

/-! E38: a dict of one's own: made, asked, put to. -/
namespace Ev
open PySem PySem.Spec L2
section
variable {T : Tx} {x : Gh} {s : Sx} {σ : L2.St} {H : Hp}
theorem set_other {l : List Sl} {i j : Nat} {z y : Sl} (hz : y ≠ z) (e : (l.set i z)[j]? = some y) : i ≠ j ∧ l[j]? = some y := by
  by_cases hj : i = j
  · subst hj
    have hl : i < l.length := by simpa using (List.getElem?_eq_some_iff.mp e).1
    rw [List.getElem?_set_self hl] at e
    cases e
    exact absurd rfl hz
  · rw [List.getElem?_set_ne hj] at e
    exact ⟨hj, e⟩
theorem Ok.lay_od (k : Ok T x s σ H) (i : Nat) {p : Addr} (hp : H p = none) :
    ∃ x' : Gh, Ok T x' { s with env := s.env.set i (.od [] []) } (σ.set i (some (.ref p))) (L2.upd H p (.dK [])) ∧ Stp x H x' (L2.upd H p (.dK [])) := by
  have lu : Le H (L2.upd H p (.dK [])) := Le.upd hp
  have gp := k.bx.sub.none hp
  have off : ∀ {c : Addr} {o : HO}, H c = some o → c ≠ p := fun e z => by subst z; rw [hp] at e; cases e
  refine ⟨⟨x.io, x.G, fun c => x.U c ∨ c = p⟩, ⟨⟨k.bx.n, fun i ys e => ?_, fun i hi => .inl (k.bx.inU i hi), k.bx.inj, k.bx.sub.trans lu, fun c o e z => ?_, fun c z => ?_, fun q hq => ⟨.inl (k.bx.tab q hq).1, (k.bx.tab q hq).2.ext (.refl _) lu⟩, k.bx.lo⟩, by simpa using k.len, fun j d e => ?_, fun j ys e => ?_, fun j l ys zs a q1 q2 q3 q4 => ?_, fun j e => ?_, fun j ks ds e => ?_, fun j l ks ls ds es a q1 q2 q3 q4 => ?_⟩, ⟨.refl _, .refl _, fun c o e _ => lu c o e, fun c o e => .inl e, fun c z => ?_, fun c e => lu.none e⟩⟩
  · obtain ⟨us, e1, r1⟩ := k.bx.at_ i ys e
    exact ⟨us, lu _ _ e1, r1⟩
  · rcases z with z | z
    · exact k.bx.off c o e z
    · subst z; rw [gp] at e; cases e
  · rcases z with z | z
    · obtain ⟨o, e⟩ := k.bx.trk c z
      exact ⟨o, lu _ _ e⟩
    · subst z; exact ⟨_, upd_same⟩
  · obtain ⟨hj, e⟩ := set_other (fun z => by cases z) e
    rw [List.getElem?_set_ne hj]
    exact k.sh j d e
  · obtain ⟨hj, e⟩ := set_other (fun z => by cases z) e
    rw [List.getElem?_set_ne hj]
    obtain ⟨c, us, z1, z2, r', u', nb'⟩ := k.ow j ys e
    exact ⟨c, us, z1, lu _ _ z2, r', .inl u', nb'⟩
  · obtain ⟨hj, q1⟩ := set_other (fun z => by cases z) q1
    obtain ⟨hl, q2⟩ := set_other (fun z => by cases z) q2
    rw [List.getElem?_set_ne hj] at q3
    rw [List.getElem?_set_ne hl] at q4
    exact k.owi j l ys zs a q1 q2 q3 q4
  · obtain ⟨hj, e⟩ := set_other (fun z => by cases z) e
    rw [List.getElem?_set_ne hj]
    exact k.th j e
  · by_cases hj : i = j
    · subst hj
      have hi : i < s.env.length := by simpa using (List.getElem?_eq_some_iff.mp e).1
      rw [List.getElem?_set_self hi] at e
      cases e
      exact ⟨p, [], List.getElem?_set_self (by rw [← k.len]; exact hi), upd_same, rfl, .nil, .nil, .inr rfl⟩
    · rw [List.getElem?_set_ne hj] at e ⊢
      obtain ⟨a, vs, h1, h2, h3, h4, h5, h6⟩ := k.od.at_ j ks ds e
      exact ⟨a, vs, h1, lu _ _ h2, h3, h4, h5, .inl h6⟩
  · have fresh : ∀ {j : Nat} {ks : List Key} {ds : List D}, s.env[j]? = some (.od ks ds) → σ[j]? ≠ some (some (.ref p)) := fun {j ks ds} e z => by
      obtain ⟨b, vs, h1, h2, _⟩ := k.od.at_ j ks ds e
      rw [h1] at z
      cases z
      exact off h2 rfl
    have hi : ∀ {j : Nat} {ks : List Key} {ds : List D}, (s.env.set i (.od [] []))[j]? = some (.od ks ds) → j < σ.length := fun e => by
      rw [← k.len]; simpa using (List.getElem?_eq_some_iff.mp e).1
    by_cases hj : i = j
    · subst hj
      rw [List.getElem?_set_self (hi q1)] at q3
      cases q3
      by_cases hl : i = l
      · exact hl
      · rw [List.getElem?_set_ne hl] at q2 q4
        exact absurd q4 (fresh q2)
    · by_cases hl : i = l
      · subst hl
        rw [List.getElem?_set_self (hi q2)] at q4
        cases q4
        rw [List.getElem?_set_ne hj] at q1 q3
        exact absurd q3 (fresh q1)
      · rw [List.getElem?_set_ne hj] at q1 q3
        rw [List.getElem?_set_ne hl] at q2 q4
        exact k.od.inj j l ks ls ds es a q1 q2 q3 q4
  · rcases z with z | z
    · exact .inl z
    · subst z; exact .inr hp
theorem Ok.put_od (k : Ok T x s σ H) {i : Nat} {a : Addr} {ks : List Key} {ds : List D} {vs : List V} {key : Key} {v : V} {d : D} (e : s.env[i]? = some (.od ks ds)) (ea : σ[i]? = some (some (.ref a))) (ha : H a = some (.dK (ks.zip vs))) (rs : Reps T x.io x.G vs ds) (hn : key ∉ ks) (r : Rep T x.io x.G v d) :
    Ok T x { s with env := s.env.set i (.od (ks ++ [key]) (ds ++ [d])) } σ (L2.upd H a (.dK (putK (ks.zip vs) key v))) ∧ Stp x H x (L2.upd H a (.dK (putK (ks.zip vs) key v))) := by
  obtain ⟨a', vs', h1, h2, h3, h4, h5, h6⟩ := k.od.at_ i ks ds e
  have ec : a' = a := by
    have z : some (some (V.ref a')) = some (some (V.ref a)) := h1.symm.trans ea
    injection z with z
    injection z with z
    injection z
  subst ec
  have hi : i < s.env.length := (List.getElem?_eq_some_iff.mp e).1
  have hl : ks.length = vs.length := h3.trans rs.length.symm
  have ez : putK (ks.zip vs) key v = (ks ++ [key]).zip (vs ++ [v]) := by
    rw [Ev.putK_new (by rw [List.map_fst_zip (Nat.le_of_eq hl)]; exact hn), List.zip_append hl]
    rfl
  have other : ∀ {c : Addr} {o : HO}, H c = some o → (∀ kvs, o ≠ .dK kvs) → c ≠ a' := fun q n z => by
    subst z
    rw [ha] at q
    cases q
    exact n _ rfl
  refine ⟨⟨⟨k.bx.n, fun j zs q => ?_, k.bx.inU, k.bx.inj, fun b o q => ?_, k.bx.off, fun b q => ?_, fun p hp => ⟨(k.bx.tab p hp).1, ?_⟩, k.bx.lo⟩, by simpa using k.len, fun j d q => ?_, fun j zs q => ?_, fun j l ys' zs' b q1 q2 q3 q4 => ?_, fun j q => ?_, fun j ks' ds' q => ?_, fun j l ks' ls ds' es b q1 q2 q3 q4 => ?_⟩, ⟨.refl _, .refl _, fun b o q n => ?_, fun _ _ q => .inl q, fun _ q => .inl q, fun b q => ?_⟩⟩
  · obtain ⟨ws, g1, g2⟩ := k.bx.at_ j zs q
    exact ⟨ws, by rw [upd_ne (other g1 fun _ z => by cases z)]; exact g1, g2⟩
  · rw [upd_ne (fun z => by subst z; exact k.bx.off b o q h6)]
    exact k.bx.sub b o q
  · by_cases hb : b = a'
    · subst hb; exact ⟨_, upd_same⟩
    · rw [upd_ne hb]; exact k.bx.trk b q
  · obtain ⟨ps, e1, e2⟩ := (k.bx.tab p hp).2
    exact ⟨ps, by rw [upd_ne (other e1 fun _ z => by cases z)]; exact e1, e2⟩
  · exact k.sh j d (set_other (fun z => by cases z) q).2
  · obtain ⟨b, ws, g1, g2, g3⟩ := k.ow j zs (set_other (fun z => by cases z) q).2
    exact ⟨b, ws, g1, by rw [upd_ne (other g2 fun _ z => by cases z)]; exact g2, g3⟩
  · exact k.owi j l ys' zs' b (set_other (fun z => by cases z) q1).2 (set_other (fun z => by cases z) q2).2 q3 q4
  · exact k.th j (set_other (fun z => by cases z) q).2
  · have q : (s.env.set i (.od (ks ++ [key]) (ds ++ [d])))[j]? = some (.od ks' ds') := q
    by_cases hj : i = j
    · subst hj
      rw [List.getElem?_set_self hi] at q
      cases q
      refine ⟨a', vs ++ [v], h1, ?_, by simp [h3], ?_, rs.append (.one r), h6⟩
      · rw [upd_same, ez]
      · rw [List.nodup_append]
        exact ⟨h4, by simp, fun p hp q hq z => hn (by simp at hq; subst hq; rw [← z]; exact hp)⟩
    · rw [List.getElem?_set_ne hj] at q
      obtain ⟨b, ws, g1, g2, g3, g4, g5, g6⟩ := k.od.at_ j ks' ds' q
      have hb : b ≠ a' := fun z => by
        subst z
        exact hj (k.od.inj i j ks ks' ds ds' b e q h1 g1)
      exact ⟨b, ws, g1, by rw [upd_ne hb]; exact g2, g3, g4, g5, g6⟩
  · have back : ∀ {j : Nat} {ks' : List Key} {ds' : List D}, (s.env.set i (.od (ks ++ [key]) (ds ++ [d])))[j]? = some (.od ks' ds') → ∃ ks2 ds2, s.env[j]? = some (.od ks2 ds2) := fun {j ks' ds'} q => by
      by_cases hj : i = j
      · subst hj; exact ⟨ks, ds, e⟩
      · rw [List.getElem?_set_ne hj] at q; exact ⟨ks', ds', q⟩
    obtain ⟨_, _, w1⟩ := back q1
    obtain ⟨_, _, w2⟩ := back q2
    exact k.od.inj j l _ _ _ _ b w1 w2 q3 q4
  · rw [upd_ne (fun z => by subst z; exact n h6)]
    exact q
  · by_cases hb : b = a'
    · subst hb; rw [upd_same] at q; cases q
    · rw [upd_ne hb] at q; exact q
end
section
variable {T : Tx} {W : WX} {X : Cx} {e a b : Expr} {ma mv mk : M D} {pos : Pos}
/-- name = {} -/
def sNewD (i : Nat) : MS := fun s => .nx { s with env := s.env.set i (.od [] []) }
theorem ds_newD {i : Nat} {y : Str} {pos' p2 : Pos} (hN : X.N.Nodup) (hi : X.N[i]? = some y) (hx : Loc X.env.scope y) (hs : swapsWith (.Dict [] [] p2) (some (.Name y pos')) pos.line X.env = pure false := by rfl) (hf : X.fn y = true ∨ X.env.scope.names.lookup y = some .local := by first | exact .inl rfl | exact .inr rfl | assumption) :
    PS X (.Assign [.Name y pos'] (.Dict [] [] p2) pos) (tS T W (sNewD i)) :=
  PS.imp (ps_set hN hi hx pe_dnewK hs hf) fun E σ H ⟨x, s, k, h⟩ => fun p hp => by
    obtain ⟨x', k', st⟩ := k.lay_od i hp
    exact h x' _ _ k' st
/-- e in name -/
def mInO (i : Nat) (ma : M D) : M D := M.bind ma fun d s => match s.env[i]?, asKey d with
  | some (.od ks ds), some key => .ok (.bl (lk ks ds key).isSome) s
  | _, _ => .bad
theorem in_od {σ : L2.St} {H : Hp} {Q : VK} {i : Nat} (h : tD T W (mInO i ma) σ H Q) : tDIn (tD T W ma) (tVar i) σ H Q := by
  obtain ⟨x, s, k, h⟩ := h
  refine ⟨x, s, k, ?_⟩
  unfold mInO M.bind at h
  cases em : ma s with
  | exc c ns vs sto => rw [em] at h; exact h
  | bad => rw [em] at h; exact h
  | ok d s1 =>
    rw [em] at h
    intro x1 v1 H1 k1 st1 r1
    simp only at h
    cases q : s1.env[i]? with
    | none => rw [q] at h; exact h.elim
    | some sl =>
      cases sl with
      | od ks ds =>
        cases ek : asKey d with
        | none => rw [q, ek] at h; exact h.elim
        | some key =>
          rw [q, ek] at h
          simp only at h
          obtain ⟨a, vs, h1, h2, h3, h4, h5, h6⟩ := k1.od.at_ i ks ds q
          refine ⟨_, h1, a, valV (ks.zip vs) key, rfl, .inl ⟨_, key, .inl h2, asKey_kV r1 ek, rfl⟩, ?_⟩
          have es : (valV (ks.zip vs) key).isSome = (lk ks ds key).isSome := by
            cases e1 : lk ks ds key with
            | none => rw [(lk_valV h3 h5).2 e1]; rfl
            | some w =>
              obtain ⟨u, e2, _⟩ := (lk_valV h3 h5).1 w e1
              rw [e2]; rfl
          rw [es]
          exact h x1 _ H1 k1 st1 (.bl _)
      | _ => rw [q] at h; exact h.elim
theorem de_inO {z : Str} {i : Nat} {p2 : Pos} {k0 : Nat} (hr : Room k0 X.A) (hN : X.N[i]? = some z) (hvis : Vis X.env.scope z) (ha : PE X a (tD T W ma)) (hm : behindInMarks .In (.Name z p2) = false := by rfl)
    (hd : (z == ("__debug__" : Str)) = false := by decide) (hcd : (z == ("__classdict__" : Str)) = false := by decide) : PE X (.Compare a [.In] [.Name z p2] pos) (tD T W (mInO i ma)) :=
  PE.imp (pe_cmp (pc_din (by have := hr.un; omega) ha (pe_var (pos := p2) (i := i) hN hvis hd hcd)) hm) fun _ _ _ h => in_od h
theorem dt_inO {z : Str} {i : Nat} {p2 : Pos} {k0 : Nat} (hr : Room k0 X.A) (hN : X.N[i]? = some z) (hvis : Vis X.env.scope z) (ha : PE X a (tD T W ma)) (hm : behindInMarks .In (.Name z p2) = false := by rfl)
    (hd : (z == ("__debug__" : Str)) = false := by decide) (hcd : (z == ("__classdict__" : Str)) = false := by decide) : PT X (.Compare a [.In] [.Name z p2] pos) (tB T W (mT (mInO i ma))) :=
  PT.imp (pt_cmp (pc_din (by have := hr.un; omega) ha (pe_var (pos := p2) (i := i) hN hvis hd hcd)) hm) fun _ _ _ h => in_od (tT h)
theorem lk_not {key : Key} : ∀ {ks : List Key} {ds : List D}, ks.length = ds.length → lk ks ds key = none → key ∉ ks
  | [], _, _, _ => by simp
  | k :: ks, [], h, _ => by simp at h
  | k :: ks, d :: ds, h, e => by
    unfold lk at e
    by_cases hk : key = k
    · rw [if_pos hk] at e; cases e
    · rw [if_neg hk] at e
      intro z
      rcases List.mem_cons.mp z with z | z
      · exact hk z
      · exact lk_not (by simpa using h) e z
/-- name[e] = v, a new key -/
def sPutO (i : Nat) (mk mv : M D) : MS := sBind mv fun v s1 => match s1.env[i]? with
  | some (.od _ _) => sBind mk (fun kd s => match s.env[i]?, asKey kd with
    | some (.od ks ds), some key => if ks.length < sizeLine ∧ (lk ks ds key).isNone = true then .nx { s with env := s.env.set i (.od (ks ++ [key]) (ds ++ [v])) } else .bad
    | _, _ => .bad) s1
  | _ => .bad
theorem ds_putO {i' value : Expr} {z : Str} {i : Nat} {p1 tpos : Pos} {k0 : Nat} (hr : Room k0 X.A) (hN : X.N[i]? = some z) (hvis : Vis X.env.scope z) (hv : PE X value (tD T W mv)) (hi : PE X i' (tD T W mk))
    (hs : swapsWith value (some (.Subscript (.Name z p1) i' tpos)) pos.line X.env = pure false := by rfl)
    (hd : (z == ("__debug__" : Str)) = false := by decide) (hcd : (z == ("__classdict__" : Str)) = false := by decide) : PS X (.Assign [.Subscript (.Name z p1) i' tpos] value pos) (tS T W (sPutO i mk mv)) :=
  PS.imp (ps_dput (by have := hr.un; omega) (pe_var (pos := p1) (i := i) hN hvis hd hcd) hi hv hs) fun E σ H ⟨x, s, k, h⟩ => tD_s k h fun d s1 x1 v H1 k1 _ r1 f1 => by
    cases q : s1.env[i]? with
    | none => rw [q] at f1; exact f1.elim
    | some sl =>
      cases sl with
      | od ks0 ds0 =>
        simp only [q] at f1
        obtain ⟨a, vs0, h1, h2, _⟩ := k1.od.at_ i ks0 ds0 q
        refine ⟨_, h1, tD_s k1 f1 fun j s3 x3 iv H3 k3 st3 r3 f3 => ?_⟩
        cases q' : s3.env[i]? with
        | none => rw [q'] at f3; exact f3.elim
        | some sl =>
          cases sl with
          | od ks ds =>
            cases ek : asKey j with
            | none => rw [q', ek] at f3; exact f3.elim
            | some key =>
              rw [q', ek] at f3
              simp only at f3
              by_cases hc : ks.length < sizeLine ∧ (lk ks ds key).isNone = true
              · rw [if_pos hc] at f3
                obtain ⟨a', vs, g1, g2, g3, g4, g5, g6⟩ := k3.od.at_ i ks ds q'
                have ea : a' = a := by
                  have z : some (some (V.ref a')) = some (some (V.ref a)) := g1.symm.trans h1
                  injection z with z
                  injection z with z
                  injection z
                subst ea
                obtain ⟨k4, st4⟩ := k3.put_od q' g1 g2 g5 (lk_not g3 (by simpa using hc.2)) (r1.mono st3.io st3.le)
                refine ⟨a', _, rfl, .inl ⟨_, key, g2, asKey_kV r3 ek, ?_, rfl⟩, f3 x3 σ _ k4 st4⟩
                rw [List.length_zip]
                exact Nat.lt_of_le_of_lt (Nat.min_le_left _ _) hc.1
              · rw [if_neg hc] at f3; exact f3.elim
          | _ => rw [q'] at f3; exact f3.elim
      | _ => rw [q] at f1; exact f1.elim
end
end Ev

/-! E39: name = [.. for k, v in d.items()], d a shared dict, locked meanwhile. -/
namespace Ev
open PySem PySem.Spec L2
/-- u is the dict kvs, open or locked -/
def IsKv (u : HO) (kvs : List (Key × V)) : Prop := u = .dK kvs ∨ ∃ o, u = .frz o (.dK kvs)
section
variable {T : Tx0} {G : Hp} {a : Addr} {kvs : List (Key × V)} {u w : HO}
theorem rd_relock (hG : G a = some u) (hu : IsKv u kvs) (hw : IsKv w kvs) {b : Addr} {o : HO} (ho : ∀ z q, o ≠ .frz z q) (r : Rd G b o) : Rd (L2.upd G a w) b o := by
  by_cases hb : b = a
  · subst hb
    have eo : o = .dK kvs := by
      rcases r with r | ⟨z, r⟩
      · rw [hG] at r
        cases r
        rcases hu with h | ⟨z, h⟩
        · exact h
        · exact absurd h (ho _ _)
      · rw [hG] at r
        cases r
        rcases hu with h | ⟨z', h⟩
        · cases h
        · cases h; rfl
    subst eo
    rcases hw with h | ⟨z, h⟩
    · subst h; exact .inl upd_same
    · subst h; exact .inr ⟨z, upd_same⟩
  · rcases r with r | ⟨z, r⟩
    · exact .inl (by rw [upd_ne hb]; exact r)
    · exact .inr ⟨z, by rw [upd_ne hb]; exact r⟩
theorem ne_relock (hG : G a = some u) (hu : IsKv u kvs) {b : Addr} {o : HO} (h : G b = some o) (h1 : ∀ k, o ≠ .dK k) (h2 : ∀ z q, o ≠ .frz z q) : b ≠ a := fun z => by
  subst z
  rw [hG] at h
  cases h
  rcases hu with e | ⟨z, e⟩
  · exact h1 _ e
  · exact h2 _ _ e
mutual
theorem Rep.relock {io : Io} (hG : G a = some u) (hu : IsKv u kvs) (hw : IsKv w kvs) : ∀ {v : V} {d : D}, Rep T io G v d → Rep T io (L2.upd G a w) v d
  | _, _, .non => .non
  | _, _, .bl b => .bl b
  | _, _, .int i => .int i
  | _, _, .str x => .str x
  | _, _, .lst s r => .lst (s.imp (rd_relock hG hu hw (fun _ _ z => by cases z)) id) (Reps.relock hG hu hw r)
  | _, _, .tup s r => .tup (s.imp (rd_relock hG hu hw (fun _ _ z => by cases z)) id) (Reps.relock hG hu hw r)
  | _, _, .box n hn => .box n hn
  | _, _, .dic s l nd r => .dic (rd_relock hG hu hw (fun _ _ z => by cases z) s) l nd (Reps.relock hG hu hw r)
  | _, _, .kd k a b c => .kd k a (fun z d e => Rep.relock hG hu hw (b z d e)) c
  | _, _, .ins e1 e2 l r => .ins (by rw [upd_ne (ne_relock hG hu e1 (fun _ z => by cases z) (fun _ _ z => by cases z))]; exact e1) (by rw [upd_ne (ne_relock hG hu e2 (fun _ z => by cases z) (fun _ _ z => by cases z))]; exact e2) l (Reps.relock hG hu hw r)
theorem Reps.relock {io : Io} (hG : G a = some u) (hu : IsKv u kvs) (hw : IsKv w kvs) : ∀ {v : List V} {d : List D}, Reps T io G v d → Reps T io (L2.upd G a w) v d
  | _, _, .nil => .nil
  | _, _, .cons x r => .cons (Rep.relock hG hu hw x) (Reps.relock hG hu hw r)
end
end
section
variable {T : Tx} {x : Gh} {s : Sx} {σ : L2.St} {H : Hp} {a : Addr} {kvs : List (Key × V)} {u w : HO}
theorem Ok.relock (k : Ok T x s σ H) (hG : x.G a = some u) (hu : IsKv u kvs) (hw : IsKv w kvs) {io0 : Io} {G0 : Hp} (hlo : io0.Le x.io ∧ Le G0 (L2.upd x.G a w)) : Ok (T.at_ io0 G0 T.clo) ⟨x.io, L2.upd x.G a w, x.U⟩ s σ (L2.upd H a w) := by
  have hH := k.bx.sub _ _ hG
  have ne : ∀ {b : Addr} {o : HO}, H b = some o → (∀ k, o ≠ .dK k) → (∀ z q, o ≠ .frz z q) → b ≠ a := fun h h1 h2 => ne_relock hH hu h h1 h2
  have na : ¬ x.U a := k.bx.off _ _ hG
  have rp : ∀ {v : V} {d : D}, Rep T x.io x.G v d → Rep T x.io (L2.upd x.G a w) v d := fun r => r.relock hG hu hw
  have rps : ∀ {v : List V} {d : List D}, Reps T x.io x.G v d → Reps T x.io (L2.upd x.G a w) v d := fun r => r.relock hG hu hw
  refine ⟨⟨k.bx.n, fun i xs e => ?_, k.bx.inU, k.bx.inj, fun c o e => ?_, fun c o e z => ?_, fun c z => ?_, fun p hp => ⟨(k.bx.tab p hp).1, ?_⟩, hlo⟩, k.len, fun i d e => ?_, fun i xs e => ?_, k.owi, k.th, ⟨fun i ks ds e => ?_, k.od.inj⟩⟩
  · obtain ⟨vs, h1, h2⟩ := k.bx.at_ i xs e
    exact ⟨vs, by rw [upd_ne (ne h1 (fun _ z => by cases z) (fun _ _ z => by cases z))]; exact h1, rps h2⟩
  · have e : L2.upd x.G a w c = some o := e
    by_cases hc : c = a
    · subst hc; rw [upd_same] at e ⊢; exact e
    · rw [upd_ne hc] at e ⊢; exact k.bx.sub c o e
  · have e : L2.upd x.G a w c = some o := e
    by_cases hc : c = a
    · subst hc; exact na z
    · rw [upd_ne hc] at e; exact k.bx.off c o e z
  · obtain ⟨o, e⟩ := k.bx.trk c z
    exact ⟨o, by rw [upd_ne (fun h => na (by rw [← h]; exact z))]; exact e⟩
  · obtain ⟨ps, e1, e2, e3⟩ := (k.bx.tab p hp).2
    refine ⟨ps, by rw [upd_ne (ne e1 (fun _ z => by cases z) (fun _ _ z => by cases z))]; exact e1, e2, fun pos cv hc => ?_⟩
    obtain ⟨c, f1, f2⟩ := e3 pos cv hc
    exact ⟨c, f1, by show L2.upd x.G a w c = _; rw [upd_ne (ne_relock hG hu f2 (fun _ z => by cases z) (fun _ _ z => by cases z))]; exact f2⟩
  · obtain ⟨v, h1, h2⟩ := k.sh i d e
    exact ⟨v, h1, rp h2⟩
  · obtain ⟨b, vs, h1, h2, h3, h4, h5⟩ := k.ow i xs e
    exact ⟨b, vs, h1, by rw [upd_ne (ne h2 (fun _ z => by cases z) (fun _ _ z => by cases z))]; exact h2, rps h3, h4, h5⟩
  · obtain ⟨b, vs, h1, h2, h3, h4, h5, h6⟩ := k.od.at_ i ks ds e
    exact ⟨b, vs, h1, by rw [upd_ne (fun h => na (by rw [← h]; exact h6))]; exact h2, h3, h4, rps h5, h6⟩
end
def kD : Key → D
  | .inl i => .int i
  | .inr z => .str z
def itemsL (ks : List Key) (ds : List D) : List D := (ks.zip ds).map fun p => .tup [kD p.1, p.2]
def mItemsD (j : Nat) : M (List D) := fun s => match s.env[j]? with
  | some (.sh (.dic ks ds)) => .ok (itemsL ks ds) s
  | _ => .bad
section
variable {T : Tx} {W : WX} {X : Cx}
theorem kD_rep {io : Io} {G : Hp} (k : Key) : Rep T io G (kV k) (kD k) := by
  cases k with
  | inl i => exact .int i
  | inr z => exact .str z
theorem src_items {io : Io} {G : Hp} {a : Addr} {o : Obj} {ks : List Key} {vs : List V} {ds : List D} (hG : G a = some (.frz o (.dK (ks.zip vs)))) (hl : ks.length = ds.length) (rs : Reps T io G vs ds) : Src T io G (Iti a o (ks.zip vs)) (itemsL ks ds) := by
  have l1 : (itemsL ks ds).length = ds.length := by simp [itemsL, hl]
  have l2 : (ks.zip vs).length = ds.length := by simp [hl, rs.length]
  refine ⟨fun i H le hi => ⟨le _ _ hG, by rw [l2]; omega⟩, fun i H le hi => ⟨le _ _ hG, by rw [l2]; omega⟩, fun i H v H' G1 d le le1 hd hy => ?_⟩
  obtain ⟨t, k, y, e1, rfl, hn, rfl⟩ := hy
  have hi : i < ds.length := by rw [← l1]; exact (List.getElem?_eq_some_iff.mp hd).1
  have e1 := List.getElem?_zip_eq_some.mp e1
  obtain ⟨z, hz, rz⟩ := rs.get' e1.2
  have ed : d = .tup [kD k, z] := by
    unfold itemsL at hd
    have e2 : (ks.zip ds)[i]? = some (k, z) := List.getElem?_zip_eq_some.mpr ⟨e1.1, hz⟩
    rw [List.getElem?_map, e2] at hd
    exact (Option.some.inj hd).symm
  subst ed
  have gr := Grow.one (o := .tup [kV k, y]) le1 hn
  exact ⟨_, gr, .tup (.inl (.inl upd_same)) (.cons (kD_rep k) (.cons ((rz.up le).up gr.g) .nil))⟩
theorem items_conv {σ : L2.St} {H : Hp} {R : It → Hp → Prop} {j : Nat} {a : Addr} {o : Obj} {kvs : List (Key × V)} (hl : H a = some (.frz o (.dK kvs))) (hj : σ[j]? = some (some (.ref a))) (q : tI T W (mItemsD j) σ H R) : iItems (tVar j) σ H R := by
  obtain ⟨x, s, k, h⟩ := q
  unfold mItemsD at h
  cases e : s.env[j]? with
  | none => rw [e] at h; exact h.elim
  | some sl =>
    cases sl with
    | sh d =>
      cases d with
      | dic ks ds =>
        simp only [e] at h
        obtain ⟨v, h1, r⟩ := k.sh j _ e
        rw [hj] at h1
        cases h1
        cases r with
        | @dic a' _ vs' _ rd hlen nd rs =>
          have ek : x.G a = some (.frz o (.dK kvs)) ∧ kvs = ks.zip vs' := by
            rcases rd with rd | ⟨z, rd⟩
            · have := k.bx.sub _ _ rd
              rw [hl] at this; cases this
            · have := k.bx.sub _ _ rd
              rw [hl] at this; cases this
              exact ⟨rd, rfl⟩
          obtain ⟨eG, ek⟩ := ek
          subst ek
          exact ⟨_, hj, a, o, _, rfl, hl, h x _ H k (.refl _ _) (src_items eG hlen rs)⟩
      | _ => simp only [e] at h
    | _ => simp only [e] at h
theorem PS.any {α : Type} {st : Stmt} {t : α → TS} (h : ∀ i, PS X st (t i)) : PS X st (fun E σ H => ∃ i, t i E σ H) := ⟨fun pins s σ H D I ⟨i, q⟩ => (h i).run pins s σ H D I q⟩
theorem PS.or {st : Stmt} {t t' : TS} (h : PS X st t) (h' : PS X st t') : PS X st (fun E σ H => t E σ H ∨ t' E σ H) := ⟨fun pins s σ H D I q => q.elim (h.run pins s σ H D I) (h'.run pins s σ H D I)⟩
variable {elt : Expr} {elts : List Expr} {kk : Nat} {tpos p1 p2 p3 : Pos} {ifs : List Expr} {scope : Scope} {own : List (Str × Nat)} {t : Tg} {mc : M Bool} {m : M D} {pos : Pos}
theorem ds_setItems {i j : Nat} {y z : Str} {py spos : Pos} (hc : X.calm = true) (hN : X.N.Nodup) (hy : X.N[i]? = some y) (hyl : X.env.scope.names.lookup y = some .local)
    (hj : X.N[j]? = some z) (hvis : Vis X.env.scope z)
    (hsw : swapsWith (.ListComp elt [⟨.Tuple elts kk tpos, .Call (.Attribute (.Name z p1) "items" p2) [] [] p3, ifs, 0⟩] scope pos) (some (.Name y py)) spos.line X.env = pure true) (ok : BlkOk X.N X.env.scope scope own) (hsl : ∀ j ∈ t.slots, j ∈ own.map (·.2))
    (hg : ∀ (io : Io) (G : Hp) (s : Shared) (H : Hp) (C : Addr) (cl : List (Str × Addr)) (fp : List Addr), PG (X.blk s H scope (compEnvC scope cl C X.env) fp) (.Tuple elts kk tpos) (gD (T.at_ io G T.clo) t)) (ht : ∀ (io : Io) (G : Hp) (s : Shared) (H : Hp) (C : Addr) (cl : List (Str × Addr)) (fp : List Addr), PTs (X.blk s H scope (compEnvC scope cl C X.env) fp) ifs (tB (T.at_ io G T.clo) W0 mc))
    (he : ∀ (io : Io) (G : Hp) (s : Shared) (H : Hp) (C : Addr) (cl : List (Str × Addr)) (fp : List Addr), PE (X.blk s H scope (compEnvC scope cl C X.env) fp) elt (tD (T.at_ io G T.clo) W0 m)) (hs : ∀ x, foldedSetIterable (.Call (.Attribute (.Name z p1) "items" p2) [] [] p3) X.env x = pure x := by intro _; rfl)
    (hba : attributeBase (.Name z p1) "items" X.env (eval (.Name z p1) X.env) = eval (.Name z p1) X.env := by rfl) (hli : (p2.endLine == p3.line) = true := by rfl)
    (hd : (z == ("__debug__" : Str)) = false := by decide) (hcd : (z == ("__classdict__" : Str)) = false := by decide) :
    PS X (.Assign [.Name y py] (.ListComp elt [⟨.Tuple elts kk tpos, .Call (.Attribute (.Name z p1) "items" p2) [] [] p3, ifs, 0⟩] scope pos) spos) (tS T W (sOwn i (mComp (mItemsD j) t mc m (own.map (·.2))))) := by
  have base := fun (q : Io × Hp) => ps_setLc (i := i) hc hN hy hyl hsw (pi_items (pe_var (pos := p1) (i := j) hj hvis hd hcd) hba hli) ok (hg q.1 q.2) (ht q.1 q.2) (he q.1 q.2) hs
  refine PS.imp (PS.or (PS.any fun q => ps_lock (base q)) (PS.any base)) fun E σ H ⟨x, s, k, h⟩ => ?_
  have h : Fin T W E x H (sOwn i (mComp (mItemsD j) t mc m (own.map (·.2))) s) := h
  unfold sOwn sBind at h
  cases ev : s.env[j]? with
  | none => unfold mComp M.bind mItemsD at h; simp only [ev] at h; exact h.elim
  | some sl =>
    cases sl with
    | sh d =>
      cases d with
      | dic ks ds =>
        have noexc : ∀ c ns vs sto, mComp (mItemsD j) t mc m (own.map (·.2)) s ≠ .exc c ns vs sto := fun c ns vs sto e => by
          unfold mComp M.bind mItemsD at e
          simp only [ev] at e
          split at e
          · split at e <;> cases e
          · cases e
        obtain ⟨v, h1, r⟩ := k.sh j _ ev
        cases r with
        | @dic a _ vs _ rd hlen nd rs =>
          rcases rd with hG | ⟨o, hG⟩
          · refine .inl ⟨⟨T.io0, fun c => if c = a then none else T.G0 c⟩, a, _, k.bx.sub _ _ hG, trivial, fun od => ?_⟩
            have kl := k.relock (w := .frz od (.dK (ks.zip vs))) hG (.inl rfl) (.inr ⟨od, rfl⟩) (io0 := T.io0) (G0 := fun c => if c = a then none else T.G0 c) ⟨k.bx.lo.1, fun c o e => by
              by_cases hc : c = a
              · simp only [if_pos hc] at e; cases e
              · simp only [if_neg hc] at e
                rw [upd_ne hc]; exact k.bx.lo.2 c o e⟩
            have go : tF (T.at_ T.io0 (fun c => if c = a then none else T.G0 c) T.clo) W (mComp (mItemsD j) t mc m (own.map (·.2))) σ (L2.upd H a (.frz od (.dK (ks.zip vs)))) (fun v H' => H' a = some (.frz od (.dK (ks.zip vs))) ∧ E.nx (σ.set i (some v)) (L2.upd H' a (.dK (ks.zip vs)))) → tAsg (tLc (iItems (tVar j)) (gD (T.at_ T.io0 (fun c => if c = a then none else T.G0 c) T.clo) t) (tB (T.at_ T.io0 (fun c => if c = a then none else T.G0 c) T.clo) W0 mc) (tD (T.at_ T.io0 (fun c => if c = a then none else T.G0 c) T.clo) W0 m) (own.map (·.2))) (gName i)
                ⟨fun σ' H' => H' a = some (.frz od (.dK (ks.zip vs))) ∧ E.nx σ' (L2.upd H' a (.dK (ks.zip vs))), fun v H' => H' a = some (.frz od (.dK (ks.zip vs))) ∧ E.rt v (L2.upd H' a (.dK (ks.zip vs))), fun σ' H' => H' a = some (.frz od (.dK (ks.zip vs))) ∧ E.bk σ' (L2.upd H' a (.dK (ks.zip vs))), fun σ' H' => H' a = some (.frz od (.dK (ks.zip vs))) ∧ E.ct σ' (L2.upd H' a (.dK (ks.zip vs)))⟩ σ (L2.upd H a (.frz od (.dK (ks.zip vs)))) := fun q => by
              have q1 := tLc_of (W := W) (mi := mItemsD j) hsl q
              exact items_conv upd_same h1 q1
            refine go ⟨_, s, kl, ?_⟩
            cases em : mComp (mItemsD j) t mc m (own.map (·.2)) s with
            | exc c ns vs sto => exact absurd em (noexc _ _ _ _)
            | bad => rw [em] at h; exact h
            | ok xs s' =>
              rw [em] at h
              simp only at h ⊢
              intro x' a' H' k' st o
              have hG' : x'.G a = some (.frz od (.dK (ks.zip vs))) := st.le a _ upd_same
              have hH' := k'.bx.sub _ _ hG'
              have na : ¬ x'.U a := k'.bx.off _ _ hG'
              have kb := k'.relock (w := .dK (ks.zip vs)) hG' (.inr ⟨od, rfl⟩) (.inl rfl) (io0 := T.io0) (G0 := T.G0) ⟨k.bx.lo.1.trans st.io, fun c u0 e => by
                by_cases hc : c = a
                · have := k.bx.lo.2 c u0 e
                  rw [hc, hG] at this
                  rw [hc, upd_same]; exact this
                · rw [upd_ne hc]
                  exact st.le c u0 (by show L2.upd x.G a _ c = _; rw [upd_ne hc]; exact k.bx.lo.2 c u0 e)⟩
              have haa : a' ≠ a := fun z => na (by rw [← z]; exact o.u)
              have ob : Own T ⟨x'.io, L2.upd x'.G a (.dK (ks.zip vs)), x'.U⟩ s' σ (L2.upd H' a (.dK (ks.zip vs))) a' xs := by
                obtain ⟨ws, e1, e2⟩ := o.l
                exact ⟨o.u, ⟨ws, by rw [upd_ne haa]; exact e1, e2.relock hG' (.inr ⟨od, rfl⟩) (.inl rfl)⟩, o.b, o.o⟩
              refine ⟨hH', h _ _ _ (Ok.put_own (T := T) kb i ob) ⟨st.io, fun c o e => ?_, fun c o e n => ?_, fun c o e => ?_, fun c z => ?_, fun c e => ?_⟩⟩
              · show L2.upd x'.G a _ c = some o
                by_cases hc : c = a
                · subst hc
                  rw [hG] at e; cases e; exact upd_same
                · rw [upd_ne hc]
                  exact st.le c o (by show L2.upd x.G a _ c = _; rw [upd_ne hc]; exact e)
              · by_cases hc : c = a
                · subst hc
                  rw [k.bx.sub _ _ hG] at e; cases e; exact upd_same
                · rw [upd_ne hc]
                  exact st.fr c o (by rw [upd_ne hc]; exact e) n
              · have e : L2.upd x'.G a _ c = some o := e
                by_cases hc : c = a
                · subst hc
                  rw [upd_same] at e; cases e; exact .inl hG
                · rw [upd_ne hc] at e
                  rcases st.new c o e with z | z | z
                  · have z : L2.upd x.G a _ c = some o := z
                    rw [upd_ne hc] at z; exact .inl z
                  · exact .inr (.inl z)
                  · rw [upd_ne hc] at z; exact .inr (.inr z)
              · rcases st.un c z with z | z
                · exact .inl z
                · by_cases hc : c = a
                  · subst hc; rw [upd_same] at z; cases z
                  · rw [upd_ne hc] at z; exact .inr z
              · by_cases hc : c = a
                · subst hc; rw [upd_same] at e; cases e
                · rw [upd_ne hc] at e
                  have := st.th c e
                  rw [upd_ne hc] at this; exact this
          · refine .inr ⟨⟨T.io0, T.G0⟩, ?_⟩
            have go : tF T W (mComp (mItemsD j) t mc m (own.map (·.2))) σ H (fun v H' => E.nx (σ.set i (some v)) H') → tAsg (tLc (iItems (tVar j)) (gD T t) (tB T W0 mc) (tD T W0 m) (own.map (·.2))) (gName i) E σ H := fun q => by
              have q1 := tLc_of (W := W) (mi := mItemsD j) hsl q
              exact items_conv (k.bx.sub _ _ hG) h1 q1
            refine go ⟨x, s, k, ?_⟩
            cases em : mComp (mItemsD j) t mc m (own.map (·.2)) s with
            | exc c ns vs sto => exact absurd em (noexc _ _ _ _)
            | bad => rw [em] at h; exact h
            | ok xs s' =>
              rw [em] at h
              simp only at h ⊢
              intro x' a' H' k' st o
              exact h x' _ H' (k'.put_own i o) st
      | _ => unfold mComp M.bind mItemsD at h; simp only [ev] at h; exact h.elim
    | _ => unfold mComp M.bind mItemsD at h; simp only [ev] at h; exact h.elim
end
end Ev

namespace Ev
open PySem PySem.Spec L2
theorem tgs_len2 {t u : Tg} : ∀ (ds : List D) (s s' : Sx), (tgsCons t (tgsCons u tgsNil)).run ds s = some s' → ds.length = 2 := by
  intro ds s s' h
  match ds with
  | [] => simp [tgsCons] at h
  | [a] => simp [tgsCons] at h
  | [a, b] => rfl
  | a :: b :: c :: r => simp [tgsCons, tgsNil] at h
/-! ### the meanings -/
def ck_SHAPES : List Str := ["add", "sub", "mul", "and", "or", "xor", "neg", "flip", "at", "if", "eq", "lt", "less", "both", "either", "no"]
def cv_SHAPES : List D := [.tup [.str "word", .tup [.str "word", .str "word"]], .tup [.str "word", .tup [.str "word", .str "word"]], .tup [.str "word", .tup [.str "word", .str "word"]], .tup [.str "word", .tup [.str "word", .str "word"]], .tup [.str "word", .tup [.str "word", .str "word"]], .tup [.str "word", .tup [.str "word", .str "word"]], .tup [.str "word", .tup [.str "word"]], .tup [.str "word", .tup [.str "word"]], .tup [.str "word", .tup [.str "word"]], .tup [.str "word", .tup [.str "truth", .str "word", .str "word"]], .tup [.str "truth", .tup [.str "word", .str "word"]], .tup [.str "truth", .tup [.str "word", .str "word"]], .tup [.str "truth", .tup [.str "word", .str "word"]], .tup [.str "truth", .tup [.str "truth", .str "truth"]], .tup [.str "truth", .tup [.str "truth", .str "truth"]], .tup [.str "truth", .tup [.str "truth"]]]
def c_SHAPES : D := .kd ck_SHAPES cv_SHAPES
def ck_LEAF_KINDS : List Str := ["number", "name", "flag", "true", "false"]
def cv_LEAF_KINDS : List D := [.str "word", .str "word", .str "truth", .str "truth", .str "truth"]
def c_LEAF_KINDS : D := .kd ck_LEAF_KINDS cv_LEAF_KINDS
def m__law_seed : MS := sSeq (sIf (mT (m2 gGt (mIx (mVar 0) (mC (.int 2))) (mC (.int 0)))) (sSeq (sSet 2 (mL gInt (mCons (mIx (mVar 0) (mC (.int 2))) (mNil)))) (sSeq (sSetB (mVar 0) (mC (.int 2)) (m2 gDiv (mVar 2) (mVar 1))) (sRet (m2 gMod (mL gInt (mCons (mVar 2) (mNil))) (mVar 1))))) (sNx)) (sSeq (sSet 3 (mIx (mVar 0) (mC (.int 1)))) (sSeq (sSetB (mVar 0) (mC (.int 1)) (m2 gAdd (mVar 3) (mC (.int 1)))) (sSeq (sSet 4 (m2 gAdd (m2 gMulI (mC (.int 52579)) (mVar 3)) (mC (.int 8221)))) (sSeq (sIf (mT (m2 gNe (mIx (mVar 0) (mC (.int 0))) (mSh (mLst (mNil))))) (sSet 4 (mIx (mIx (mVar 0) (mC (.int 0))) (m2 gMod (mL gInt (mCons (mVar 3) (mNil))) (mL gLen (mCons (mIx (mVar 0) (mC (.int 0))) (mNil)))))) (sNx)) (sSeq (sIf (mAnd (mT (m2 gLt (mVar 3) (mL gLen (mCons (mIx (mVar 0) (mC (.int 0))) (mNil))))) (mT (m2 gGe (mL gAbs (mCons (mVar 4) (mNil))) (m2 gPow (mC (.int 10)) (mC (.int 18)))))) (sSeq (sSet 2 (m2 gAdd (m2 gMulI (mC (.int 2)) (m2 gSub (mL gAbs (mCons (mVar 4) (mNil))) (m2 gPow (mC (.int 10)) (mC (.int 18))))) (mL gInt (mCons (m2 gLt (mVar 4) (mC (.int 0))) (mNil))))) (sSeq (sSetB (mVar 0) (mC (.int 2)) (m2 gDiv (mL gInt (mCons (mVar 2) (mNil))) (mVar 1))) (sRet (m2 gMod (mL gInt (mCons (mVar 2) (mNil))) (mVar 1))))) (sNx)) (sSeq (sSet 5 (m2 gMod (mL gInt (mCons (m2 gPow (m2 gAdd (m2 gAdd (m2 gMod (mL gInt (mCons (mVar 4) (mNil))) (mC (.int 2147483423))) (m2 gMulI (mC (.int 28099)) (mVar 3))) (mC (.int 8221))) (mC (.int 5))) (mNil))) (mC (.int 2147483543)))) (sSeq (sSet 5 (m2 gMod (mL gInt (mCons (m2 gPow (m2 gAdd (m2 gAdd (m2 gMulI (mVar 5) (m2 gAdd (m2 gMulI (mC (.int 2)) (mVar 3)) (mC (.int 3499)))) (m2 gMulI (m2 gMulI (mC (.int 52579)) (mVar 3)) (mVar 3))) (mC (.int 28099))) (mC (.int 3))) (mNil))) (mC (.int 2147483269)))) (sRet (m2 gMod (mL gInt (mCons (m2 gDiv (mVar 5) (mC (.int 64))) (mNil))) (mVar 1))))))))))
def f__law_seed : Fn := bodyF 6 m__law_seed

def m__law_one_of : MS := sRet (mIx (mVar 1) (mCall f__law_seed (mCons (mVar 0) (mCons (mL gLen (mCons (mVar 1) (mNil))) (mNil)))))
def f__law_one_of : Fn := bodyF 2 m__law_one_of

def m__law_spelt : MS := sRet (mCall f__law_one_of (mCons (mVar 0) (mCons (mSh (mLst (mCons (mC (.str "x")) (mCons (mC (.str "y")) (mCons (mC (.str "z")) (mCons (mC (.str "n2")) (mCons (mC (.str "a")) (mCons (mC (.str "longname")) (mNil))))))))) (mNil))))
def f__law_spelt : Fn := bodyF 1 m__law_spelt

def m__law_drawn_e1 (r : Fn) : M D := mCall r (mCons (mVar 0) (mCons (mVar 5) (mCons (m2 gSub (mVar 2) (mC (.int 1))) (mNil))))
def m__law_drawn_e2 (r : Fn) : M D := mCall r (mCons (mVar 0) (mCons (mC (.str "word")) (mCons (m2 gSub (mVar 2) (mC (.int 1))) (mNil))))
def m__law_drawn_e3 (r : Fn) : M D := mCall r (mCons (mVar 0) (mCons (mC (.str "word")) (mCons (m2 gSub (mVar 2) (mC (.int 1))) (mNil))))
def m__law_drawn (r : Fn) : MS := sSeq (sIf (mOr (mT (m2 gEq (mVar 2) (mC (.int 0)))) (mT (m2 gEq (mCall f__law_seed (mCons (mVar 0) (mCons (mC (.int 5)) (mNil)))) (mC (.int 0))))) (sSeq (sIf (mT (m2 gEq (mVar 1) (mC (.str "truth")))) (sRet (mCall f__law_one_of (mCons (mVar 0) (mCons (mSh (mLst (mCons (mTup (mCons (mC (.str "true")) (mNil))) (mCons (mTup (mCons (mC (.str "false")) (mNil))) (mCons (mTup (mCons (mC (.str "flag")) (mCons (mCall f__law_spelt (mCons (mVar 0) (mNil))) (mNil)))) (mNil)))))) (mNil))))) (sNx)) (sSeq (sSet 3 (mCall f__law_one_of (mCons (mVar 0) (mCons (mSh (mLst (mCons (m2 gSub (mCall f__law_seed (mCons (mVar 0) (mCons (mC (.int 20)) (mNil)))) (mC (.int 10))) (mCons (mC (.int 2147483647)) (mCons (m1 gNeg (mC (.int 2147483647))) (mCons (mC (.int 0)) (mNil))))))) (mNil))))) (sRet (mCall f__law_one_of (mCons (mVar 0) (mCons (mSh (mLst (mCons (mTup (mCons (mC (.str "number")) (mCons (mVar 3) (mNil)))) (mCons (mTup (mCons (mC (.str "name")) (mCons (mCall f__law_spelt (mCons (mVar 0) (mNil))) (mNil)))) (mCons (mTup (mCons (mC (.str "name")) (mCons (mCall f__law_spelt (mCons (mVar 0) (mNil))) (mNil)))) (mNil)))))) (mNil))))))) (sNx)) (sSeq (sIf (mT (m2 gEq (mVar 1) (mC (.str "truth")))) (sSeq (sSet 4 (mCall f__law_one_of (mCons (mVar 0) (mCons (mSh (mLst (mCons (mC (.str "eq")) (mCons (mC (.str "lt")) (mCons (mC (.str "less")) (mCons (mC (.str "both")) (mCons (mC (.str "either")) (mCons (mC (.str "no")) (mNil))))))))) (mNil))))) (sSeq (sSet 5 (mIf (mT (m2 gIn (mVar 4) (mTup (mCons (mC (.str "eq")) (mCons (mC (.str "lt")) (mCons (mC (.str "less")) (mNil))))))) (mC (.str "word")) (mC (.str "truth")))) (sRet (mL gTuple (mCons (m2 gAdd (mSh (mLst (mCons (mVar 4) (mNil)))) (mSh (mComp (mRng gRng1 (mCons (mIf (mT (m2 gEq (mVar 4) (mC (.str "no")))) (mC (.int 1)) (mC (.int 2))) (mNil))) (tgN 8) (M.pure true) (m__law_drawn_e1 r) [8]))) (mNil)))))) (sNx)) (sSeq (sSet 4 (mCall f__law_one_of (mCons (mVar 0) (mCons (mSh (mLst (mCons (mC (.str "add")) (mCons (mC (.str "sub")) (mCons (mC (.str "mul")) (mCons (mC (.str "and")) (mCons (mC (.str "or")) (mCons (mC (.str "xor")) (mCons (mC (.str "neg")) (mCons (mC (.str "flip")) (mCons (mC (.str "shl")) (mCons (mC (.str "at")) (mCons (mC (.str "if")) (mCons (mC (.str "call")) (mCons (mC (.str "loop")) (mNil)))))))))))))))) (mNil))))) (sSeq (sIf (mT (m2 gEq (mVar 4) (mC (.str "if")))) (sRet (mTup (mCons (mC (.str "if")) (mCons (mCall r (mCons (mVar 0) (mCons (mC (.str "truth")) (mCons (m2 gSub (mVar 2) (mC (.int 1))) (mNil))))) (mCons (mCall r (mCons (mVar 0) (mCons (mC (.str "word")) (mCons (m2 gSub (mVar 2) (mC (.int 1))) (mNil))))) (mCons (mCall r (mCons (mVar 0) (mCons (mC (.str "word")) (mCons (m2 gSub (mVar 2) (mC (.int 1))) (mNil))))) (mNil))))))) (sNx)) (sSeq (sIf (mT (m2 gIn (mVar 4) (mTup (mCons (mC (.str "call")) (mCons (mC (.str "loop")) (mNil)))))) (sSeq (sSet 6 (mIf (mT (m2 gEq (mVar 4) (mC (.str "call")))) (mC (.int 0)) (mC (.int 2)))) (sSeq (sSet 4 (mJ [m1 gFmt (mVar 4), mC (.str " "), m1 gFmt (mCall f__law_spelt (mCons (mVar 0) (mNil))), mC (.str " "), m1 gFmt (mCall f__law_seed (mCons (mVar 0) (mCons (mC (.int 6)) (mNil))))] Str.empty)) (sRet (mL gTuple (mCons (m2 gAdd (mSh (mLst (mCons (mVar 4) (mNil)))) (mSh (mComp (mRng gRng1 (mCons (m2 gAdd (mVar 6) (mCall f__law_seed (mCons (mVar 0) (mCons (mC (.int 3)) (mNil))))) (mNil))) (tgN 8) (M.pure true) (m__law_drawn_e2 r) [8]))) (mNil)))))) (sNx)) (sSeq (sSet 7 (m2 gIn (mVar 4) (mTup (mCons (mC (.str "neg")) (mCons (mC (.str "flip")) (mCons (mC (.str "shl")) (mCons (mC (.str "at")) (mNil)))))))) (sSeq (sSet 4 (mIf (mT (m2 gEq (mVar 4) (mC (.str "shl")))) (mJ [mC (.str "shl "), m1 gFmt (mCall f__law_one_of (mCons (mVar 0) (mCons (mSh (mLst (mCons (mC (.int 1)) (mCons (mC (.int 31)) (mCons (m2 gAdd (mC (.int 1)) (mCall f__law_seed (mCons (mVar 0) (mCons (mC (.int 31)) (mNil))))) (mNil)))))) (mNil))))] Str.empty) (mVar 4))) (sRet (mL gTuple (mCons (m2 gAdd (mSh (mLst (mCons (mVar 4) (mNil)))) (mSh (mComp (mRng gRng1 (mCons (mIf (mT (mVar 7)) (mC (.int 1)) (mC (.int 2))) (mNil))) (tgN 8) (M.pure true) (m__law_drawn_e3 r) [8]))) (mNil))))))))))
def f__law_drawn : Nat → Fn
  | 0 => fBad
  | k + 1 => bodyF 9 (m__law_drawn (f__law_drawn k))

def m__law_loam_e1 : M D := mL gInt (mCons (mVar 1) (mNil))
def m__law_loam : MS := sRetF (mLst (mCons (mSh (mComp (mItems (mSl (mVar 0) none (some (mC (.int 63))))) (tgN 1) (M.pure true) m__law_loam_e1 [1])) (mCons (mC (.int 0)) (mCons (mC (.int 0)) (mNil)))))
def f__law_loam : Fn := bodyF 2 m__law_loam

def m__law_parted_e1 : M D := mVar 2
def m__law_parted_e2 : M D := mVar 2
def m__law_parted : MS := sSeq (sSet 1 (mTup (mCons (mC (.str "eq")) (mCons (mC (.str "lt")) (mCons (mC (.str "less")) (mCons (mC (.str "both")) (mCons (mC (.str "either")) (mCons (mC (.str "no")) (mCons (mC (.str "flag")) (mCons (mC (.str "true")) (mCons (mC (.str "false")) (mNil)))))))))))) (sRetF (mLst (mCons (mL gDict (mCons (mSh (mComp (mItems (mVar 0)) (tgN 2) (mT (m2 gNotIn (mIx (mIx (mVar 2) (mC (.int 1))) (mC (.int 0))) (mVar 1))) m__law_parted_e2 [2])) (mNil))) (mCons (mL gDict (mCons (mSh (mComp (mItems (mVar 0)) (tgN 2) (mT (m2 gIn (mIx (mIx (mVar 2) (mC (.int 1))) (mC (.int 0))) (mVar 1))) m__law_parted_e1 [2])) (mNil))) (mNil)))))
def f__law_parted : Fn := bodyF 3 m__law_parted

def m__law_put_e1 (r : Fn) : M D := mCall r (mCons (mVar 3) (mCons (mVar 1) (mCons (mVar 2) (mNil))))
def m__law_put (r : Fn) : MS := sSeq (sIf (mT (m2 gEq (mIx (mVar 0) (mC (.int 0))) (mC (.str "name")))) (sRet (mIf (mT (m2 gInD (mIx (mVar 0) (mC (.int 1))) (mVar 1))) (m2 gIxD (mVar 1) (mIx (mVar 0) (mC (.int 1)))) (mVar 0))) (sNx)) (sSeq (sIf (mT (m2 gEq (mIx (mVar 0) (mC (.int 0))) (mC (.str "flag")))) (sRet (mIf (mT (m2 gInD (mIx (mVar 0) (mC (.int 1))) (mVar 2))) (m2 gIxD (mVar 2) (mIx (mVar 0) (mC (.int 1)))) (mVar 0))) (sNx)) (sSeq (sIf (mT (m2 gIn (mIx (mVar 0) (mC (.int 0))) (mTup (mCons (mC (.str "number")) (mCons (mC (.str "true")) (mCons (mC (.str "false")) (mNil))))))) (sRet (mVar 0)) (sNx)) (sRet (mL gTuple (mCons (m2 gAdd (mSh (mLst (mCons (mIx (mVar 0) (mC (.int 0))) (mNil)))) (mSh (mComp (mItems (mSl (mVar 0) (some (mC (.int 1))) none)) (tgN 3) (M.pure true) (m__law_put_e1 r) [3]))) (mNil))))))
def f__law_put : Nat → Fn
  | 0 => fBad
  | k + 1 => bodyF 4 (m__law_put (f__law_put k))

def m__law_told_b1 : MS := sSeq (sSet 4 (mPopAt 2 (mCall f__law_seed (mCons (mVar 0) (mCons (mB1 gLen 2) (mNil)))))) (sApp 1 (mTup (mCons (mVar 4) (mCons (mCall (f__law_drawn 40) (mCons (mVar 0) (mCons (mCall f__law_one_of (mCons (mVar 0) (mCons (mSh (mLst (mCons (mC (.str "word")) (mCons (mC (.str "truth")) (mNil))))) (mNil)))) (mCons (mCall f__law_seed (mCons (mVar 0) (mCons (mC (.int 3)) (mNil)))) (mNil))))) (mNil)))))
def m__law_told : MS := sSeq (sParO 1 2 (mLst (mNil)) (mLst (mCons (mC (.str "x")) (mCons (mC (.str "y")) (mCons (mC (.str "z")) (mCons (mC (.str "n2")) (mCons (mC (.str "a")) (mCons (mC (.str "longname")) (mCons (mC (.str "other")) (mCons (mC (.str "true")) (mNil))))))))))) (sSeq (sFor (mRng gRng1 (mCons (mCall f__law_seed (mCons (mVar 0) (mCons (mC (.int 5)) (mNil)))) (mNil))) (tgN 3) m__law_told_b1) (sRet (mVar 1)))
def f__law_told : Fn := bodyF 5 m__law_told

def m_fixed_e1 (r : Fn) : M D := mCall r (mCons (mVar 1) (mNil))
def m_fixed (r : Fn) : MS := sSeq (sIf (mT (m1 (gIsi ["list", "tuple"]) (mVar 0))) (sRet (mL gTuple (mCons (mSh (mComp (mItems (mVar 0)) (tgN 1) (M.pure true) (m_fixed_e1 r) [1])) (mNil)))) (sNx)) (sRet (mVar 0))
def f_fixed : Nat → Fn
  | 0 => fBad
  | k + 1 => bodyF 2 (m_fixed (f_fixed k))

def m_is_spelling_e1 : M D := mOrV (m2 gIn (mVar 1) (mC (.str "abcdefghijklmnopqrstuvwxyz"))) (m2 gIn (mVar 1) (mC (.str "0123456789")))
def m_is_spelling : MS := sSeq (sIf (mOr (mNot (mT (m1 (gIsi ["str"]) (mVar 0)))) (mOr (mNot (mT (mChain gLe gLe (mC (.int 1)) (mL gLen (mCons (mVar 0) (mNil))) (mC (.int 8))))) (mT (m2 gNotIn (mIx (mVar 0) (mC (.int 0))) (mC (.str "abcdefghijklmnopqrstuvwxyz")))))) (sRet (mC (.bl false))) (sNx)) (sRet (mL gAll (mCons (mSh (mComp (mItemsS (mVar 0)) (tgN 1) (M.pure true) m_is_spelling_e1 [1])) (mNil))))
def f_is_spelling : Fn := bodyF 2 m_is_spelling

def m_is_name : MS := sRet (mAndV (mCall f_is_spelling (mCons (mVar 0) (mNil))) (m2 gNotIn (mVar 0) (mC (.tup [.str "true", .str "false"]))))
def f_is_name : Fn := bodyF 1 m_is_name

def m_is_integer : MS := sRet (mAndV (m1 (gIsi ["int"]) (mVar 0)) (mNotV (m1 (gIsi ["bool"]) (mVar 0))))
def f_is_integer : Fn := bodyF 1 m_is_integer

def m_is_within : MS := sSeq (sIf (mNot (mT (mCall f_is_integer (mCons (mVar 0) (mNil))))) (sRet (mC (.bl false))) (sNx)) (sSeq (sIf (mAnd (mT (m2 gIsNot (mVar 1) (mC .non))) (mT (m2 gLt (mVar 0) (mVar 1)))) (sRet (mC (.bl false))) (sNx)) (sRet (mOrV (m2 gIs (mVar 2) (mC .non)) (m2 gLe (mVar 0) (mVar 2)))))
def f_is_within : Fn := bodyF 3 m_is_within

def m_is_leaf : MS := sSeq (sIf (mT (m2 gIn (mIx (mVar 0) (mC (.int 0))) (mC (.tup [.str "true", .str "false"])))) (sRet (m2 gEq (mL gLen (mCons (mVar 0) (mNil))) (mC (.int 1)))) (sNx)) (sSeq (sIf (mT (m2 gNe (mL gLen (mCons (mVar 0) (mNil))) (mC (.int 2)))) (sRet (mC (.bl false))) (sNx)) (sSeq (sIf (mT (m2 gEq (mIx (mVar 0) (mC (.int 0))) (mC (.str "number")))) (sRet (mCall f_is_within (mCons (mIx (mVar 0) (mC (.int 1))) (mCons (m1 gNeg (mC (.int 2147483647))) (mCons (mC (.int 2147483647)) (mNil)))))) (sNx)) (sRet (mIf (mT (m2 gEq (mIx (mVar 0) (mC (.int 0))) (mC (.str "name")))) (mCall f_is_name (mCons (mIx (mVar 0) (mC (.int 1))) (mNil))) (mCall f_is_spelling (mCons (mIx (mVar 0) (mC (.int 1))) (mNil)))))))
def f_is_leaf : Fn := bodyF 1 m_is_leaf

def m_call_of : MS := sSeq (sSet 1 (mIf (mT (m1 (gIsi ["str"]) (mVar 0))) (mSplit (mVar 0) (mC (.str " "))) (mSh (mLst (mNil))))) (sSeq (sIf (mOr (mT (m2 gNe (mL gLen (mCons (mVar 1) (mNil))) (mC (.int 3)))) (mOr (mT (m2 gNotIn (mIx (mVar 1) (mC (.int 0))) (mTup (mCons (mC (.str "call")) (mCons (mC (.str "loop")) (mNil)))))) (mOr (mNot (mT (mCall f_is_spelling (mCons (mIx (mVar 1) (mC (.int 1))) (mNil))))) (mT (m2 gNotIn (mIx (mVar 1) (mC (.int 2))) (mC (.tup [.str "0", .str "1", .str "2", .str "3", .str "4", .str "5"]))))))) (sRet (mC .non)) (sNx)) (sRet (mTup (mCons (mIx (mVar 1) (mC (.int 0))) (mCons (mIx (mVar 1) (mC (.int 1))) (mCons (mL gInt (mCons (mIx (mVar 1) (mC (.int 2))) (mNil))) (mNil)))))))
def f_call_of : Fn := bodyF 2 m_call_of

def m_bits_up_b1 : MS := sIf (mT (m2 gEq (mVar 0) (mJ [mC (.str "shl "), m1 gFmt (mVar 1)] Str.empty))) (sRet (mVar 1)) (sNx)
def m_bits_up : MS := sSeq (sFor (mRng gRng2 (mCons (mC (.int 1)) (mCons (mC (.int 32)) (mNil)))) (tgN 1) m_bits_up_b1) (sRet (mC (.int 0)))
def f_bits_up : Fn := bodyF 2 m_bits_up

def m_shape_of : MS := sSeq (sIf (mNot (mT (m1 (gIsi ["str"]) (mVar 0)))) (sRet (mC .non)) (sNx)) (sSeq (sIf (mT (m2 gIn (mVar 0) (mC c_SHAPES))) (sRet (m2 gIxK (mC c_SHAPES) (mVar 0))) (sNx)) (sRet (mIf (mT (m2 gGt (mCall f_bits_up (mCons (mVar 0) (mNil))) (mC (.int 0)))) (mTup (mCons (mC (.str "word")) (mCons (mTup (mCons (mC (.str "word")) (mNil))) (mNil)))) (mC .non))))
def f_shape_of : Fn := bodyF 1 m_shape_of

def m_shape_in : MS := sSeq (sSet 2 (mCall f_call_of (mCons (mVar 0) (mNil)))) (sSeq (sIf (mT (m2 gIs (mVar 2) (mC .non))) (sSeq (sSet 3 (mCall f_shape_of (mCons (mVar 0) (mNil)))) (sRet (mIf (mAnd (mT (m2 gIsNot (mVar 3) (mC .non))) (mT (m2 gEq (mL gLen (mCons (mIx (mVar 3) (mC (.int 1))) (mNil))) (mVar 1)))) (mVar 3) (mC .non)))) (sNx)) (sSeq (sSet 4 (mIf (mT (m2 gEq (mIx (mVar 2) (mC (.int 0))) (mC (.str "call")))) (mC (.int 0)) (mC (.int 2)))) (sSeq (sIf (mNot (mT (mChain gLe gLe (mVar 4) (mVar 1) (m2 gAdd (m2 gDiv (mVar 4) (mC (.int 2))) (mC (.int 6)))))) (sRet (mC .non)) (sNx)) (sRet (mTup (mCons (mC (.str "word")) (mCons (m2 gRepT (mTup (mCons (mC (.str "word")) (mNil))) (mVar 1)) (mNil))))))))
def f_shape_in : Fn := bodyF 5 m_shape_in

def m_kind_of_e1 (r : Fn) : M D := m2 gEq (mCall r (mCons (mVar 2) (mNil))) (mVar 3)
def m_kind_of (r : Fn) : MS := sSeq (sIf (mOr (mNot (mT (m1 (gIsi ["list", "tuple"]) (mVar 0)))) (mOr (mT (m2 gEq (mL gLen (mCons (mVar 0) (mNil))) (mC (.int 0)))) (mNot (mT (m1 (gIsi ["str"]) (mIx (mVar 0) (mC (.int 0)))))))) (sRet (mC .non)) (sNx)) (sSeq (sIf (mT (m2 gIn (mIx (mVar 0) (mC (.int 0))) (mC c_LEAF_KINDS))) (sRet (mIf (mT (mCall f_is_leaf (mCons (mVar 0) (mNil)))) (m2 gIxK (mC c_LEAF_KINDS) (mIx (mVar 0) (mC (.int 0)))) (mC .non))) (sNx)) (sSeq (sSet 1 (mCall f_shape_in (mCons (mIx (mVar 0) (mC (.int 0))) (mCons (m2 gSub (mL gLen (mCons (mVar 0) (mNil))) (mC (.int 1))) (mNil))))) (sSeq (sIf (mOr (mT (m2 gIs (mVar 1) (mC .non))) (mNot (mT (mL gAll (mCons (mSh (mComp (mRng gZip (mCons (mSl (mVar 0) (some (mC (.int 1))) none) (mCons (mIx (mVar 1) (mC (.int 1))) (mNil)))) (tgT (tgsCons (tgN 2) (tgsCons (tgN 3) tgsNil))) (M.pure true) (m_kind_of_e1 r) [2, 3])) (mNil)))))) (sRet (mC .non)) (sNx)) (sRet (mIx (mVar 1) (mC (.int 0)))))))
def f_kind_of : Nat → Fn
  | 0 => fBad
  | k + 1 => bodyF 4 (m_kind_of (f_kind_of k))

def m_need_term : MS := sSeq (sIf (mT (m2 gIs (mCall (f_kind_of 40) (mCons (mVar 0) (mNil))) (mC .non))) (sRaise "BadTerm" "part" (mVar 1)) (sNx)) (sRet (mCall (f_fixed 40) (mCons (mVar 0) (mNil))))
def f_need_term : Fn := bodyF 2 m_need_term

def m_parts_in : MS := sRet (mIf (mT (m2 gIn (mIx (mVar 0) (mC (.int 0))) (mC c_LEAF_KINDS))) (mTup (mNil)) (mSl (mVar 0) (some (mC (.int 1))) none))
def f_parts_in : Fn := bodyF 1 m_parts_in

def m_spelt_in_b1 (r : Fn) : MS := sSet 2 (m2 gAdd (mVar 2) (mCall r (mCons (mVar 3) (mCons (mVar 1) (mNil)))))
def m_spelt_in (r : Fn) : MS := sSeq (sIf (mT (m2 gEq (mIx (mVar 0) (mC (.int 0))) (mVar 1))) (sRetF (mLst (mCons (mIx (mVar 0) (mC (.int 1))) (mNil)))) (sNx)) (sSeq (sSet 2 (mSh (mLst (mNil)))) (sSeq (sFor (mItems (mCall f_parts_in (mCons (mVar 0) (mNil)))) (tgN 3) (m_spelt_in_b1 r)) (sRet (mVar 2))))
def f_spelt_in : Nat → Fn
  | 0 => fBad
  | k + 1 => bodyF 4 (m_spelt_in (f_spelt_in k))

def m_flags_in : MS := sRet (mL gTuple (mCons (m1 gSortSet (mCall (f_spelt_in 40) (mCons (mCall f_need_term (mPick [0, 1] [.str "term"] (mCons (mVar 0) (mNil)) (mNil))) (mCons (mC (.str "flag")) (mNil))))) (mNil)))
def f_flags_in : Fn := bodyF 1 m_flags_in

def m_names_in : MS := sRet (mL gTuple (mCons (m1 gSortSet (mCall (f_spelt_in 40) (mCons (mCall f_need_term (mPick [0, 1] [.str "term"] (mCons (mVar 0) (mNil)) (mNil))) (mCons (mC (.str "name")) (mNil))))) (mNil)))
def f_names_in : Fn := bodyF 1 m_names_in

def m_is_term : MS := sRet (m2 gIsNot (mCall (f_kind_of 40) (mCons (mVar 0) (mNil))) (mC .non))
def f_is_term : Fn := bodyF 1 m_is_term

def m_leaves_put_e1 (r : Fn) : M D := mCall r (mCons (mVar 3) (mCons (mVar 1) (mCons (mVar 2) (mNil))))
def m_leaves_put (r : Fn) : MS := sSeq (sIf (mT (m2 gEq (mIx (mVar 0) (mC (.int 0))) (mC (.str "name")))) (sRet (mGet2 (mVar 1) (mIx (mVar 0) (mC (.int 1))) (mVar 0))) (sNx)) (sSeq (sIf (mT (m2 gEq (mIx (mVar 0) (mC (.int 0))) (mC (.str "flag")))) (sRet (mGet2 (mVar 2) (mIx (mVar 0) (mC (.int 1))) (mVar 0))) (sNx)) (sRet (mIf (mT (m2 gNe (mCall f_parts_in (mCons (mVar 0) (mNil))) (mTup (mNil)))) (mTup (mCons (mIx (mVar 0) (mC (.int 0))) (mStar (mSh (mComp (mItems (mCall f_parts_in (mCons (mVar 0) (mNil)))) (tgN 3) (M.pure true) (m_leaves_put_e1 r) [3])) (mNil)))) (mVar 0))))
def f_leaves_put : Nat → Fn
  | 0 => fBad
  | k + 1 => bodyF 4 (m_leaves_put (f_leaves_put k))

def m_are_pairs_e1 : M D := mAndV (m1 (gIsi ["list", "tuple"]) (mVar 1)) (m2 gEq (mL gLen (mCons (mVar 1) (mNil))) (mC (.int 2)))
def m_are_pairs : MS := sSeq (sIf (mNot (mT (m1 (gIsi ["list", "tuple"]) (mVar 0)))) (sRet (mC (.bl false))) (sNx)) (sRet (mL gAll (mCons (mSh (mComp (mItems (mVar 0)) (tgN 1) (M.pure true) m_are_pairs_e1 [1])) (mNil))))
def f_are_pairs : Fn := bodyF 2 m_are_pairs

def m_pairs_of_e1 : M D := mTup (mCons (mVar 3) (mCons (mVar 5) (mNil)))
def m_pairs_of_e2 : M D := mTup (mCons (mIx (mVar 6) (mC (.int 0))) (mCons (mIx (mVar 6) (mC (.int 1))) (mNil)))
def m_pairs_of_b3 : MS := sSeq (sIf (mOr (mNot (mOr (mT (mCall f_is_integer (mCons (mVar 3) (mNil)))) (mT (m1 (gIsi ["str"]) (mVar 3))))) (mT (mInO 2 (mVar 3)))) (sRet (mC .non)) (sNx)) (sPutO 2 (mVar 3) (mC (.bl true)))
def m_pairs_of : MS := sSeq (sIf (mT (m1 (gIsi ["dict"]) (mVar 0))) (sOwn 1 (mComp (mItemsD 0) (tgT (tgsCons (tgN 3) (tgsCons (tgN 5) tgsNil))) (M.pure true) m_pairs_of_e1 [3, 5])) (sIf (mT (mCall f_are_pairs (mCons (mVar 0) (mNil)))) (sOwn 1 (mComp (mItems (mVar 0)) (tgN 6) (M.pure true) m_pairs_of_e2 [6])) (sRet (mC .non)))) (sSeq (sNewD 2) (sSeq (sFor (mItems (mVar 1)) (tgT (tgsCons (tgN 3) (tgsCons (tgN 4) tgsNil))) m_pairs_of_b3) (sRet (mL gTuple (mCons (mVar 1) (mNil))))))
def f_pairs_of : Fn := bodyF 7 m_pairs_of

def m_put_in_e1 : M D := mAndV (mCall f_is_spelling (mCons (mVar 6) (mNil))) (mCall f_is_term (mCons (mVar 7) (mNil)))
def m_put_in_e2 : M D := mTup (mCons (mVar 6) (mCons (mCall (f_fixed 40) (mCons (mVar 7) (mNil))) (mNil)))
def m_put_in_e3 : M D := mTup (mCons (mVar 6) (mCons (mCall (f_fixed 40) (mCons (mVar 7) (mNil))) (mNil)))
def m_put_in : MS := sSeq (sSet 2 (mCall f_need_term (mPick [0, 1] [.str "term"] (mCons (mVar 0) (mNil)) (mNil)))) (sSeq (sSet 3 (mCall f_pairs_of (mCons (mVar 1) (mNil)))) (sSeq (sIf (mOr (mT (m2 gIs (mVar 3) (mC .non))) (mNot (mT (mL gAll (mCons (mSh (mComp (mItems (mVar 3)) (tgT (tgsCons (tgN 6) (tgsCons (tgN 7) tgsNil))) (M.pure true) m_put_in_e1 [6, 7])) (mNil)))))) (sRaise "BadInput" "part" (mC (.str "values"))) (sNx)) (sSeq (sSet 4 (mL gDict (mCons (mSh (mComp (mItems (mVar 3)) (tgT (tgsCons (tgN 6) (tgsCons (tgN 7) tgsNil))) (mT (m2 gEq (mCall (f_kind_of 40) (mCons (mVar 7) (mNil))) (mC (.str "word")))) m_put_in_e2 [6, 7])) (mNil)))) (sSeq (sSet 5 (mL gDict (mCons (mSh (mComp (mItems (mVar 3)) (tgT (tgsCons (tgN 6) (tgsCons (tgN 7) tgsNil))) (mT (m2 gEq (mCall (f_kind_of 40) (mCons (mVar 7) (mNil))) (mC (.str "truth")))) m_put_in_e3 [6, 7])) (mNil)))) (sRet (mCall (f_leaves_put 40) (mCons (mVar 2) (mCons (mVar 4) (mCons (mVar 5) (mNil))))))))))
def f_put_in : Fn := bodyF 8 m_put_in

def m__law_put_right_e1 : M D := mL gList (mCons (mVar 13) (mNil))
def m__law_put_right_e2 : M D := mVar 14
def m__law_put_right_e3 : M D := mTup (mCons (mVar 15) (mCons (mTup (mCons (mC (.str "name")) (mCons (mVar 15) (mNil)))) (mNil)))
def m__law_put_right_e4 : M D := mTup (mCons (mVar 15) (mCons (mTup (mCons (mC (.str "flag")) (mCons (mVar 15) (mNil)))) (mNil)))
def m__law_put_right : MS := sSeq (sSet 2 (mCall f__law_told (mCons (mVar 0) (mNil)))) (sSeq (sAsg (tgL (tgsCons (tgN 3) (tgsCons (tgN 4) tgsNil))) (mCall f__law_parted (mCons (mVar 2) (mNil)))) (sSeq (sAsg (tgT (tgsCons (tgN 5) (tgsCons (tgN 6) tgsNil))) (mTup (mCons (mL gRepr (mCons (mCall (f__law_put 40) (mCons (mVar 1) (mCons (mVar 3) (mCons (mVar 4) (mNil))))) (mNil))) (mCons (mL gRepr (mCons (mVar 2) (mNil))) (mNil))))) (sSeq (sSet 7 (mSh (mLst (mCons (mCall f_put_in (mCons (mVar 1) (mCons (mVar 2) (mNil)))) (mCons (mCall f_put_in (mPick [1, 0] [] (mNil) (mCons (mL gDict (mCons (m1 gRev (mVar 2)) (mNil))) (mCons (mVar 1) (mNil))))) (mCons (mCall f_put_in (mCons (mVar 1) (mCons (mL gTuple (mCons (mSh (mComp (mItems (m1 gRev (mVar 2))) (tgN 13) (M.pure true) m__law_put_right_e1 [13])) (mNil))) (mNil)))) (mNil))))))) (sSeq (sIf (mOr (mT (m2 gNe (mSh (mComp (mItems (mVar 7)) (tgN 14) (mT (m2 gNe (mL gRepr (mCons (mVar 14) (mNil))) (mVar 5))) m__law_put_right_e2 [14])) (mSh (mLst (mNil))))) (mT (m2 gNe (mL gRepr (mCons (mVar 2) (mNil))) (mVar 6)))) (sRet (mC (.bl false))) (sNx)) (sSeq (sSet 8 (mCall f__law_told (mCons (mVar 0) (mNil)))) (sSeq (sAsg (tgL (tgsCons (tgN 9) (tgsCons (tgN 10) tgsNil))) (mCall f__law_parted (mCons (mVar 8) (mNil)))) (sSeq (sIf (mT (m2 gNe (mL gRepr (mCons (mCall f_put_in (mCons (mIx (mVar 7) (mC (.int 0))) (mCons (mVar 8) (mNil)))) (mNil))) (mL gRepr (mCons (mCall (f__law_put 40) (mCons (mCall (f__law_put 40) (mCons (mVar 1) (mCons (mVar 3) (mCons (mVar 4) (mNil))))) (mCons (mVar 9) (mCons (mVar 10) (mNil))))) (mNil))))) (sRet (mC (.bl false))) (sNx)) (sSeq (sOwn 11 (mComp (mItems (mCall f_names_in (mCons (mVar 1) (mNil)))) (tgN 15) (M.pure true) m__law_put_right_e3 [15])) (sSeq (sOwn 12 (mComp (mItems (mCall f_flags_in (mCons (mVar 1) (mNil)))) (tgN 15) (M.pure true) m__law_put_right_e4 [15])) (sRet (m2 gEq (mL gRepr (mCons (mSh (mLst (mCons (mCall f_put_in (mCons (mVar 1) (mCons (mVar 11) (mNil)))) (mCons (mCall f_put_in (mCons (mVar 1) (mCons (mL gDict (mCons (mVar 12) (mNil))) (mNil)))) (mCons (mCall f_put_in (mCons (mVar 1) (mCons (mSh (mLst (mNil))) (mNil)))) (mCons (mCall f_put_in (mCons (mVar 1) (mCons (mDic0) (mNil)))) (mNil))))))) (mNil))) (mL gRepr (mCons (mSh (mRepF (mLst (mCons (mVar 1) (mNil))) (mC (.int 4)))) (mNil))))))))))))))
def f__law_put_right : Fn := bodyF 16 m__law_put_right

def m__law_heard (th : Fn) : MS := sSeq (sSet 1 (mC .non)) (sSeq (sTry [("BadTerm", true), ("BadInput", true)] 2 1 (mAsk 0 th (mNil))) (sSeq (sIf (mT (m1 (gIsx [("BadTerm", true), ("BadInput", false)]) (mVar 1))) (sRetF (mLst (mCons (mC (.str "term")) (mCons (m1 (gFld ["BadTerm", "BadInput"] "part") (mVar 1)) (mNil))))) (sNx)) (sSeq (sIf (mT (m1 (gIsx [("BadTerm", false), ("BadInput", true)]) (mVar 1))) (sRetF (mLst (mCons (mC (.str "input")) (mCons (m1 (gFld ["BadTerm", "BadInput"] "part") (mVar 1)) (mNil))))) (sNx)) (sRet (mIf (mT (m2 gIs (mVar 1) (mC .non))) (mC .non) (mSh (mLst (mCons (mC (.str "other")) (mCons (mC (.str "")) (mNil))))))))))
def f__law_heard (th : Fn) : Fn := bodyL 3 (m__law_heard th)

def m__law_refused_right_l1 : M D := mCall f_put_in (mCons (mVar 1) (mCons (mVar 4) (mNil)))
def m__law_refused_right_l2 : M D := mCall f_put_in (mCons (mVar 5) (mCons (mVar 4) (mNil)))
def m__law_refused_right_l3 : M D := mCall f_put_in (mCons (mVar 5) (mCons (mDic0) (mNil)))
def m__law_refused_right : MS := sSeq (sSet 2 (mCall (f__law_drawn 40) (mCons (mVar 0) (mCons (mC (.str "word")) (mCons (mC (.int 1)) (mNil)))))) (sSeq (sSet 3 (mSh (mLst (mCons (mC .non) (mCons (mC (.int 5)) (mCons (mC (.str "x")) (mCons (mSh (mLst (mCons (mC .non) (mNil)))) (mCons (mSh (mLst (mCons (mTup (mCons (mC (.str "x")) (mNil))) (mNil)))) (mCons (mSh (mLst (mCons (mTup (mCons (mC (.str "x")) (mCons (mVar 2) (mCons (mVar 2) (mNil))))) (mNil)))) (mCons (mSh (mLst (mCons (mTup (mCons (mC (.str "x")) (mCons (mVar 2) (mNil)))) (mCons (mTup (mCons (mC (.str "x")) (mCons (mVar 2) (mNil)))) (mNil))))) (mCons (mSh (mLst (mCons (mTup (mCons (mC (.str "x")) (mCons (mC (.int 5)) (mNil)))) (mNil)))) (mCons (mSh (mLst (mCons (mTup (mCons (mC (.int 1)) (mCons (mVar 2) (mNil)))) (mNil)))) (mCons (mSh (mLst (mCons (mTup (mCons (mC (.str "X")) (mCons (mVar 2) (mNil)))) (mNil)))) (mNil)))))))))))))) (sSeq (sSet 3 (m2 gAdd (mVar 3) (mSh (mLst (mCons (mDisp ["x"] (mCons (mC (.int 5)) (mNil))) (mCons (mDispK [.inl 1] (mCons (mVar 2) (mNil))) (mCons (mDisp [""] (mCons (mVar 2) (mNil))) (mCons (mSh (mLst (mCons (mTup (mCons (mC (.str "x")) (mCons (mTup (mCons (mC (.str "add")) (mCons (mVar 2) (mNil)))) (mNil)))) (mNil)))) (mCons (mSh (mLst (mCons (mSh (mLst (mCons (mC (.str "x")) (mCons (mVar 2) (mNil))))) (mCons (mTup (mCons (mC (.str "y")) (mCons (mC .non) (mNil)))) (mNil))))) (mCons (mSh (mLst (mCons (mTup (mCons (mC (.str "ninesigns")) (mCons (mVar 2) (mNil)))) (mNil)))) (mCons (mC (.bl true)) (mCons (mSh (mLst (mCons (mC (.str "xy")) (mNil)))) (mNil))))))))))))) (sSeq (sAsg (tgT (tgsCons (tgN 4) (tgsCons (tgN 5) tgsNil))) (mTup (mCons (mCall f__law_one_of (mCons (mVar 0) (mCons (mVar 3) (mNil)))) (mCons (mCall f__law_one_of (mCons (mVar 0) (mCons (mSh (mLst (mCons (mC .non) (mCons (mC (.int 7)) (mCons (mC (.str "x")) (mCons (mSh (mLst (mNil))) (mCons (mTup (mCons (mC (.str "no")) (mCons (mTup (mCons (mC (.str "name")) (mCons (mC (.str "x")) (mNil)))) (mNil)))) (mNil)))))))) (mNil)))) (mNil))))) (sSeq (sOwn 6 (mLst (mCons (mLam f__law_heard (lamF m__law_refused_right_l1 [] 0) mNil) (mNil)))) (sSeq (sApp 6 (mLam f__law_heard (lamF m__law_refused_right_l2 [] 0) mNil)) (sSeq (sApp 6 (mLam f__law_heard (lamF m__law_refused_right_l3 [] 0) mNil)) (sRet (m2 gEq (mVar 6) (mSh (mLst (mCons (mSh (mLst (mCons (mC (.str "input")) (mCons (mC (.str "values")) (mNil))))) (mCons (mSh (mLst (mCons (mC (.str "term")) (mCons (mC (.str "term")) (mNil))))) (mCons (mSh (mLst (mCons (mC (.str "term")) (mCons (mC (.str "term")) (mNil))))) (mNil))))))))))))))
def f__law_refused_right : Fn := bodyF 7 m__law_refused_right

def m_law_b1 : MS := sSeq (sSet 3 (mCall (f__law_drawn 40) (mCons (mVar 1) (mCons (mCall f__law_one_of (mCons (mVar 1) (mCons (mSh (mLst (mCons (mC (.str "word")) (mCons (mC (.str "truth")) (mNil))))) (mNil)))) (mCons (mCall f__law_seed (mCons (mVar 1) (mCons (mC (.int 4)) (mNil)))) (mNil)))))) (sIf (mOr (mNot (mT (mCall f__law_put_right (mCons (mVar 1) (mCons (mVar 3) (mNil)))))) (mNot (mT (mCall f__law_refused_right (mCons (mVar 1) (mCons (mVar 3) (mNil))))))) (sRet (mC (.bl false))) (sNx))
def m_law : MS := sSeq (sBox 1 (mCallF f__law_loam (mCons (mVar 0) (mNil)))) (sSeq (sFor (mRng gRng1 (mCons (mC (.int 4)) (mNil))) (tgN 2) m_law_b1) (sRet (mC (.bl true))))
def f_law : Fn := bodyF 4 m_law


/-! ### the text -/
def top (i : Nat) : Stmt := PySem.Challenge.pw_leastequal_k05_terms_put_in.main.body.getD i (.Pass ⟨0, 0, 0, 0⟩)
def dd__law_seed : He.DefD := ⟨("_law_seed", none), "_law_seed", "_law_seed", defArgs (top 39), defBody (top 39), defScope (top 39), [], []⟩
def dd__law_one_of : He.DefD := ⟨("_law_one_of", none), "_law_one_of", "_law_one_of", defArgs (top 40), defBody (top 40), defScope (top 40), [], []⟩
def dd__law_spelt : He.DefD := ⟨("_law_spelt", none), "_law_spelt", "_law_spelt", defArgs (top 41), defBody (top 41), defScope (top 41), [], []⟩
def dd__law_drawn : He.DefD := ⟨("_law_drawn", none), "_law_drawn", "_law_drawn", defArgs (top 42), defBody (top 42), defScope (top 42), [], []⟩
def dd__law_loam : He.DefD := ⟨("_law_loam", none), "_law_loam", "_law_loam", defArgs (top 38), defBody (top 38), defScope (top 38), [], []⟩
def dd__law_parted : He.DefD := ⟨("_law_parted", none), "_law_parted", "_law_parted", defArgs (top 45), defBody (top 45), defScope (top 45), [], []⟩
def dd__law_put : He.DefD := ⟨("_law_put", none), "_law_put", "_law_put", defArgs (top 43), defBody (top 43), defScope (top 43), [], []⟩
def dd__law_told : He.DefD := ⟨("_law_told", none), "_law_told", "_law_told", defArgs (top 44), defBody (top 44), defScope (top 44), [], []⟩
def dd_fixed : He.DefD := ⟨("fixed", none), "fixed", "fixed", defArgs (top 10), defBody (top 10), defScope (top 10), [], []⟩
def dd_is_spelling : He.DefD := ⟨("is_spelling", none), "is_spelling", "is_spelling", defArgs (top 23), defBody (top 23), defScope (top 23), [], []⟩
def dd_is_name : He.DefD := ⟨("is_name", none), "is_name", "is_name", defArgs (top 24), defBody (top 24), defScope (top 24), [], []⟩
def dd_is_integer : He.DefD := ⟨("is_integer", none), "is_integer", "is_integer", defArgs (top 5), defBody (top 5), defScope (top 5), [], []⟩
def dd_is_within : He.DefD := ⟨("is_within", none), "is_within", "is_within", defArgs (top 6), defBody (top 6), defScope (top 6), [], []⟩
def dd_is_leaf : He.DefD := ⟨("is_leaf", none), "is_leaf", "is_leaf", defArgs (top 27), defBody (top 27), defScope (top 27), [], []⟩
def dd_call_of : He.DefD := ⟨("call_of", none), "call_of", "call_of", defArgs (top 25), defBody (top 25), defScope (top 25), [], []⟩
def dd_bits_up : He.DefD := ⟨("bits_up", none), "bits_up", "bits_up", defArgs (top 13), defBody (top 13), defScope (top 13), [], []⟩
def dd_shape_of : He.DefD := ⟨("shape_of", none), "shape_of", "shape_of", defArgs (top 14), defBody (top 14), defScope (top 14), [], []⟩
def dd_shape_in : He.DefD := ⟨("shape_in", none), "shape_in", "shape_in", defArgs (top 26), defBody (top 26), defScope (top 26), [], []⟩
def dd_kind_of : He.DefD := ⟨("kind_of", none), "kind_of", "kind_of", defArgs (top 28), defBody (top 28), defScope (top 28), [], []⟩
def dd_need_term : He.DefD := ⟨("need_term", none), "need_term", "need_term", defArgs (top 29), defBody (top 29), defScope (top 29), [.str "term"], []⟩
def dd_parts_in : He.DefD := ⟨("parts_in", none), "parts_in", "parts_in", defArgs (top 30), defBody (top 30), defScope (top 30), [], []⟩
def dd_spelt_in : He.DefD := ⟨("spelt_in", none), "spelt_in", "spelt_in", defArgs (top 31), defBody (top 31), defScope (top 31), [], []⟩
def dd_flags_in : He.DefD := ⟨("flags_in", none), "flags_in", "flags_in", defArgs (top 35), defBody (top 35), defScope (top 35), [], []⟩
def dd_names_in : He.DefD := ⟨("names_in", none), "names_in", "names_in", defArgs (top 34), defBody (top 34), defScope (top 34), [], []⟩
def dd_is_term : He.DefD := ⟨("is_term", none), "is_term", "is_term", defArgs (top 33), defBody (top 33), defScope (top 33), [], []⟩
def dd_leaves_put : He.DefD := ⟨("leaves_put", none), "leaves_put", "leaves_put", defArgs (top 32), defBody (top 32), defScope (top 32), [], []⟩
def dd_are_pairs : He.DefD := ⟨("are_pairs", none), "are_pairs", "are_pairs", defArgs (top 7), defBody (top 7), defScope (top 7), [], []⟩
def dd_pairs_of : He.DefD := ⟨("pairs_of", none), "pairs_of", "pairs_of", defArgs (top 8), defBody (top 8), defScope (top 8), [], []⟩
def dd_put_in : He.DefD := ⟨("put_in", none), "put_in", "put_in", defArgs (top 36), defBody (top 36), defScope (top 36), [], []⟩
def dd__law_put_right : He.DefD := ⟨("_law_put_right", none), "_law_put_right", "_law_put_right", defArgs (top 47), defBody (top 47), defScope (top 47), [], []⟩
def dd__law_heard : He.DefD := ⟨("_law_heard", none), "_law_heard", "_law_heard", defArgs (top 46), defBody (top 46), defScope (top 46), [], []⟩
def dd__law_refused_right : He.DefD := ⟨("_law_refused_right", none), "_law_refused_right", "_law_refused_right", defArgs (top 48), defBody (top 48), defScope (top 48), [], []⟩
def dd_law : He.DefD := ⟨("law", none), "law", "law", defArgs (top 49), defBody (top 49), defScope (top 49), [], []⟩
def di_BadTerm : He.DefD := ⟨("BadTerm", some "__init__"), "__init__", "BadTerm.__init__", defArgs (clsAt (top 2) 0), defBody (clsAt (top 2) 0), defScope (clsAt (top 2) 0), [], []⟩
def di_BadInput : He.DefD := ⟨("BadInput", some "__init__"), "__init__", "BadInput.__init__", defArgs (clsAt (top 3) 0), defBody (clsAt (top 3) 0), defScope (clsAt (top 3) 0), [], []⟩
def fn : List He.DefD := [dd__law_seed, dd__law_one_of, dd__law_spelt, dd__law_drawn, dd__law_loam, dd__law_parted, dd__law_put, dd__law_told, dd_fixed, dd_is_spelling, dd_is_name, dd_is_integer, dd_is_within, dd_is_leaf, dd_call_of, dd_bits_up, dd_shape_of, dd_shape_in, dd_kind_of, dd_need_term, dd_parts_in, dd_spelt_in, dd_flags_in, dd_names_in, dd_is_term, dd_leaves_put, dd_are_pairs, dd_pairs_of, dd_put_in, dd__law_put_right, dd__law_heard, dd__law_refused_right, dd_law, di_BadTerm, di_BadInput]
def fa : List He.Fa := [.free "int", .free "len", .free "abs", .glo "_law_seed", .glo "_law_one_of", .glo "_law_spelt", .free "range", .free "tuple", .glo "_law_drawn", .glo "_law_loam", .free "dict", .glo "_law_parted", .glo "_law_put", .glo "_law_told", .free "isinstance", .free "list", .glo "fixed", .free "str", .free "all", .glo "is_spelling", .glo "is_name", .free "bool", .glo "is_integer", .glo "is_within", .glo "is_leaf", .glo "call_of", .glo "bits_up", .glo "SHAPES", .glo "shape_of", .glo "shape_in", .glo "LEAF_KINDS", .free "zip", .glo "kind_of", .glo "BadTerm", .glo "need_term", .glo "parts_in", .glo "spelt_in", .free "sorted", .free "set", .glo "flags_in", .glo "names_in", .glo "is_term", .glo "leaves_put", .glo "are_pairs", .glo "pairs_of", .glo "BadInput", .glo "put_in", .free "repr", .glo "_law_put_right", .glo "EqualError", .glo "_law_heard", .glo "_law_refused_right", .glo "law"]
def ts : List He.Tab := [(fun K => He.ga K "SHAPES", ck_SHAPES), (fun K => He.ga K "LEAF_KINDS", ck_LEAF_KINDS)]
def tf : List He.Defn := [("_law_refused_right", none)]
def tq : List Str := ["_law_refused_right.<locals>.<lambda>"]
def cs : List Con := [.kd "SHAPES" ck_SHAPES cv_SHAPES, .kd "LEAF_KINDS" ck_LEAF_KINDS cv_LEAF_KINDS, .val "LETTERS" (.str "abcdefghijklmnopqrstuvwxyz"), .val "FIGURES" (.str "0123456789"), .val "TRUTHS" (.tup [.str "true", .str "false"]), .val "MOST_NUMBER" (.int 2147483647), .val "INDEXES" (.tup [.str "0", .str "1", .str "2", .str "3", .str "4", .str "5"]), .val "MOST_PARTS" (.int 6), .ecl "BadTerm" "part", .ecl "BadInput" "part", .tree "EqualError" [("BadTerm", true), ("BadInput", true)], .tree "BadTerm" [("BadTerm", true), ("BadInput", false)], .fld ["BadTerm", "BadInput"] "part", .tree "BadInput" [("BadTerm", false), ("BadInput", true)], .apart tf]
abbrev FactsL (T : Tx) (mg : Str → Option Value) : Prop := Facts T mg fa fn ts tf cs
abbrev LamsL (T : Tx) (mg : Str → Option Value) (base : Heap) : Prop := Lams T mg base tf tq

section
variable {T : Tx} {P : Program} {mg : Str → Option Value} {base : Heap}
theorem init_BadTerm (M : FactsL T mg) : ∃ fd, FnOk P T.w T.K mg base CX0 1 (He.ma T.K (He.ga T.K "BadTerm") "__init__") fd ["self", "part"] (spI (He.ga T.K "BadTerm") "part") ∧ Binds T.K fd ["self", "part"] [] := by
  obtain ⟨fd, F⟩ := M.def_ 33 (d := di_BadTerm) rfl
  have S : FnScope ["self", "part"] ["self", "part"] (defScope (clsAt (top 2) 0)) := ⟨rfl, rfl, rfl, by decide +kernel, rfl, by decide +kernel, by decide +kernel⟩
  exact ⟨fd, init1_ok (y := "part") F S (M.ecl 8 rfl).1 (M.ecl 8 rfl).2.2.2 rfl rfl, F.bindsN fun _ _ _ _ _ _ us hl => match us, hl with | [_, _], _ => rfl⟩
theorem init_BadInput (M : FactsL T mg) : ∃ fd, FnOk P T.w T.K mg base CX0 1 (He.ma T.K (He.ga T.K "BadInput") "__init__") fd ["self", "part"] (spI (He.ga T.K "BadInput") "part") ∧ Binds T.K fd ["self", "part"] [] := by
  obtain ⟨fd, F⟩ := M.def_ 34 (d := di_BadInput) rfl
  have S : FnScope ["self", "part"] ["self", "part"] (defScope (clsAt (top 3) 0)) := ⟨rfl, rfl, rfl, by decide +kernel, rfl, by decide +kernel, by decide +kernel⟩
  exact ⟨fd, init1_ok (y := "part") F S (M.ecl 9 rfl).1 (M.ecl 9 rfl).2.2.2 rfl rfl, F.bindsN fun _ _ _ _ _ _ us hl => match us, hl with | [_, _], _ => rfl⟩
theorem ok__law_seed (M : FactsL T mg) (B : LamsL T mg base) : DefOk T P mg base 1 dd__law_seed ["_law_loam_here", "_law_many"] f__law_seed := by
  obtain ⟨fd, F⟩ := M.def_ 0 (d := dd__law_seed) rfl
  have S : FnScope ["_law_loam_here", "_law_many", "_law_rest", "_law_at", "_law_cell", "_law_mixed"] ["_law_loam_here", "_law_many"] (defScope (top 39)) := ⟨rfl, rfl, rfl, by decide +kernel, rfl, by decide +kernel, by decide +kernel⟩
  have nd := S.nd
  exact def_ok F (M.glo 3 rfl) S (fun _ => fun _ _ _ _ _ _ us hl => match us, hl with | [_, _], _ => rfl) fun cdv hcd A outer s0 H0 E gd hr tk => (dss_cons (ds_if (dt_gt (de_ixA rfl (de_var (i := 0) rfl (.inl rfl)) de_int (fun _ _ => rfl)) de_int) (dss_cons (ds_set (i := 2) nd rfl (.inl rfl) (de_ty (id := "int") call_intA p_int (by rfl) (M.free 0 rfl) (by decide +kernel) (da_cons (de_ixA rfl (de_var (i := 0) rfl (.inl rfl)) de_int (fun _ _ => rfl)) da_nil)))
  (dss_cons (ds_setB (de_div (de_var (i := 2) rfl (.inl rfl)) (de_var (i := 1) rfl (.inl rfl))) (de_var (i := 0) rfl (.inl rfl)) de_int)
  (dss_one (ds_ret (de_mod (de_ty (id := "int") call_intA p_int (by rfl) (M.free 0 rfl) (by decide +kernel) (da_cons (de_var (i := 2) rfl (.inl rfl)) da_nil)) (de_var (i := 1) rfl (.inl rfl))))))) dss_nil)
  (dss_cons (ds_set (i := 3) nd rfl (.inl rfl) (de_ixA rfl (de_var (i := 0) rfl (.inl rfl)) de_int (fun _ _ => rfl)))
  (dss_cons (ds_setB (de_add rfl (de_var (i := 3) rfl (.inl rfl)) de_int) (de_var (i := 0) rfl (.inl rfl)) de_int)
  (dss_cons (ds_set (i := 4) nd rfl (.inl rfl) (de_add rfl (de_mul de_int (de_var (i := 3) rfl (.inl rfl))) de_int))
  (dss_cons (ds_if (dt_ne rfl hr (de_ixA rfl (de_var (i := 0) rfl (.inl rfl)) de_int (fun _ _ => rfl)) (de_sh (df_lst da_nil))) (dss_one (ds_set (i := 4) nd rfl (.inl rfl) (de_ixA rfl (de_ixA rfl (de_var (i := 0) rfl (.inl rfl)) de_int (fun _ _ => rfl)) (de_mod (de_ty (id := "int") call_intA p_int (by rfl) (M.free 0 rfl) (by decide +kernel) (da_cons (de_var (i := 3) rfl (.inl rfl)) da_nil)) (de_bi call_lenA (p_len rfl) (by rfl) (M.free 1 rfl) (by decide +kernel) (da_cons (de_ixA rfl (de_var (i := 0) rfl (.inl rfl)) de_int (fun _ _ => rfl)) da_nil))) (fun _ _ => rfl)))) dss_nil)
  (dss_cons (ds_if (dw_and (dt_lt (de_var (i := 3) rfl (.inl rfl)) (de_bi call_lenA (p_len rfl) (by rfl) (M.free 1 rfl) (by decide +kernel) (da_cons (de_ixA rfl (de_var (i := 0) rfl (.inl rfl)) de_int (fun _ _ => rfl)) da_nil))) (dw_and1 (dt_ge (de_bi call_abs p_abs (by rfl) (M.free 2 rfl) (by decide +kernel) (da_cons (de_var (i := 4) rfl (.inl rfl)) da_nil)) (de_pow de_int de_int)))).pt (dss_cons (ds_set (i := 2) nd rfl (.inl rfl) (de_add rfl (de_mul de_int (de_sub (de_bi call_abs p_abs (by rfl) (M.free 2 rfl) (by decide +kernel) (da_cons (de_var (i := 4) rfl (.inl rfl)) da_nil)) (de_pow de_int de_int))) (de_ty (id := "int") call_intA p_int (by rfl) (M.free 0 rfl) (by decide +kernel) (da_cons (de_lt (de_var (i := 4) rfl (.inl rfl)) de_int) da_nil))))
  (dss_cons (ds_setB (de_div (de_ty (id := "int") call_intA p_int (by rfl) (M.free 0 rfl) (by decide +kernel) (da_cons (de_var (i := 2) rfl (.inl rfl)) da_nil)) (de_var (i := 1) rfl (.inl rfl))) (de_var (i := 0) rfl (.inl rfl)) de_int)
  (dss_one (ds_ret (de_mod (de_ty (id := "int") call_intA p_int (by rfl) (M.free 0 rfl) (by decide +kernel) (da_cons (de_var (i := 2) rfl (.inl rfl)) da_nil)) (de_var (i := 1) rfl (.inl rfl))))))) dss_nil)
  (dss_cons (ds_set (i := 5) nd rfl (.inl rfl) (de_mod (de_ty (id := "int") call_intA p_int (by rfl) (M.free 0 rfl) (by decide +kernel) (da_cons (de_pow (de_add rfl (de_add rfl (de_mod (de_ty (id := "int") call_intA p_int (by rfl) (M.free 0 rfl) (by decide +kernel) (da_cons (de_var (i := 4) rfl (.inl rfl)) da_nil)) de_int) (de_mul de_int (de_var (i := 3) rfl (.inl rfl)))) de_int) de_int) da_nil)) de_int))
  (dss_cons (ds_set (i := 5) nd rfl (.inl rfl) (de_mod (de_ty (id := "int") call_intA p_int (by rfl) (M.free 0 rfl) (by decide +kernel) (da_cons (de_pow (de_add rfl (de_add rfl (de_mul (de_var (i := 5) rfl (.inl rfl)) (de_add rfl (de_mul de_int (de_var (i := 3) rfl (.inl rfl))) de_int)) (de_mul (de_mul de_int (de_var (i := 3) rfl (.inl rfl))) (de_var (i := 3) rfl (.inl rfl)))) de_int) de_int) da_nil)) de_int))
  (dss_one (ds_ret (de_mod (de_ty (id := "int") call_intA p_int (by rfl) (M.free 0 rfl) (by decide +kernel) (da_cons (de_div (de_var (i := 5) rfl (.inl rfl)) de_int) da_nil)) (de_var (i := 1) rfl (.inl rfl)))))))))))))
theorem ok__law_one_of (M : FactsL T mg) (B : LamsL T mg base) : DefOk T P mg base 2 dd__law_one_of ["_law_loam_here", "_law_some"] f__law_one_of := by
  obtain ⟨fd, F⟩ := M.def_ 1 (d := dd__law_one_of) rfl
  have S : FnScope ["_law_loam_here", "_law_some"] ["_law_loam_here", "_law_some"] (defScope (top 40)) := ⟨rfl, rfl, rfl, by decide +kernel, rfl, by decide +kernel, by decide +kernel⟩
  have nd := S.nd
  exact def_ok F (M.glo 4 rfl) S (fun _ => fun _ _ _ _ _ _ us hl => match us, hl with | [_, _], _ => rfl) fun cdv hcd A outer s0 H0 E gd hr tk => (dss_one (ds_ret (de_ixA rfl (de_var (i := 1) rfl (.inl rfl)) (de_call (ok__law_seed M B) rfl rfl tk gd (hr.mono (by decide)) (by rfl) (da_cons (de_var (i := 0) rfl (.inl rfl)) (da_cons (de_bi call_lenA (p_len rfl) (by rfl) (M.free 1 rfl) (by decide +kernel) (da_cons (de_var (i := 1) rfl (.inl rfl)) da_nil)) da_nil)) (hlen := (ar_cons (ar_cons ar_nil)))) (fun _ _ => rfl))))
theorem ok__law_spelt (M : FactsL T mg) (B : LamsL T mg base) : DefOk T P mg base 3 dd__law_spelt ["_law_loam_here"] f__law_spelt := by
  obtain ⟨fd, F⟩ := M.def_ 2 (d := dd__law_spelt) rfl
  have S : FnScope ["_law_loam_here"] ["_law_loam_here"] (defScope (top 41)) := ⟨rfl, rfl, rfl, by decide +kernel, rfl, by decide +kernel, by decide +kernel⟩
  have nd := S.nd
  exact def_ok F (M.glo 5 rfl) S (fun _ => fun _ _ _ _ _ _ us hl => match us, hl with | [_], _ => rfl) fun cdv hcd A outer s0 H0 E gd hr tk => (dss_one (ds_ret (de_call (ok__law_one_of M B) rfl rfl tk gd (hr.mono (by decide)) (by rfl) (da_cons (de_var (i := 0) rfl (.inl rfl)) (da_cons (de_sh (df_lst (da_cons de_str (da_cons de_str (da_cons de_str (da_cons de_str (da_cons de_str (da_cons de_str da_nil)))))))) da_nil)) (hlen := (ar_cons (ar_cons ar_nil))))))
theorem ok__law_drawn_rec (M : FactsL T mg) : ∀ (k : Nat) (P : Program) (base : Heap), LamsL T mg base → DefOk T P mg base (4 + k) dd__law_drawn ["_law_loam_here", "_law_kind", "_law_deep"] (f__law_drawn k)
  | 0, P, base, B => by
    obtain ⟨fd, F⟩ := M.def_ 3 (d := dd__law_drawn) rfl
    exact def_zero F (M.glo 8 rfl) (fun _ _ _ _ _ _ _ us hl => match us, hl with | [_, _, _], _ => rfl)
  | k + 1, P, base, B => by
    have ih := ok__law_drawn_rec M k
    obtain ⟨fd, F⟩ := M.def_ 3 (d := dd__law_drawn) rfl
    have S : FnScope ["_law_loam_here", "_law_kind", "_law_deep", "_law_number", "_law_label", "_law_inner", "_law_least", "_law_one", "_law_turn"] ["_law_loam_here", "_law_kind", "_law_deep"] (defScope (top 42)) := ⟨rfl, rfl, rfl, by decide +kernel, rfl, by decide +kernel, by decide +kernel⟩
    have nd := S.nd
    exact def_ok (m := m__law_drawn (f__law_drawn k)) (k := 4 + k) F (M.glo 8 rfl) S (fun _ _ _ _ _ _ _ us hl => match us, hl with | [_, _, _], _ => rfl) fun cdv hcd A outer s0 H0 E gd hr tk => (dss_cons (ds_if (dw_or (dt_eq rfl hr (de_var (i := 2) rfl (.inr (.inl rfl))) de_int) (dw_or1 (dt_eq rfl hr (de_call (ok__law_seed M B) rfl rfl tk gd (hr.mono (by omega)) (by rfl) (da_cons (de_var (i := 0) rfl (.inr (.inl rfl))) (da_cons de_int da_nil)) (hlen := (ar_cons (ar_cons ar_nil)))) de_int))).pt (dss_cons (ds_if (dt_eq rfl hr (de_var (i := 1) rfl (.inl rfl)) de_str) (dss_one (ds_ret (de_call (ok__law_one_of M B) rfl rfl tk gd (hr.mono (by omega)) (by rfl) (da_cons (de_var (i := 0) rfl (.inr (.inl rfl))) (da_cons (de_sh (df_lst (da_cons (de_tup (da_cons de_str da_nil)) (da_cons (de_tup (da_cons de_str da_nil)) (da_cons (de_tup (da_cons de_str (da_cons (de_call (ok__law_spelt M B) rfl rfl tk gd (hr.mono (by omega)) (by rfl) (da_cons (de_var (i := 0) rfl (.inr (.inl rfl))) da_nil) (hlen := (ar_cons ar_nil))) da_nil))) da_nil))))) da_nil)) (hlen := (ar_cons (ar_cons ar_nil)))))) dss_nil)
  (dss_cons (ds_set (i := 3) nd rfl (.inl rfl) (de_call (ok__law_one_of M B) rfl rfl tk gd (hr.mono (by omega)) (by rfl) (da_cons (de_var (i := 0) rfl (.inr (.inl rfl))) (da_cons (de_sh (df_lst (da_cons (de_sub (de_call (ok__law_seed M B) rfl rfl tk gd (hr.mono (by omega)) (by rfl) (da_cons (de_var (i := 0) rfl (.inr (.inl rfl))) (da_cons de_int da_nil)) (hlen := (ar_cons (ar_cons ar_nil)))) de_int) (da_cons de_int (da_cons (de_neg de_int) (da_cons de_int da_nil)))))) da_nil)) (hlen := (ar_cons (ar_cons ar_nil)))))
  (dss_one (ds_ret (de_call (ok__law_one_of M B) rfl rfl tk gd (hr.mono (by omega)) (by rfl) (da_cons (de_var (i := 0) rfl (.inr (.inl rfl))) (da_cons (de_sh (df_lst (da_cons (de_tup (da_cons de_str (da_cons (de_var (i := 3) rfl (.inl rfl)) da_nil))) (da_cons (de_tup (da_cons de_str (da_cons (de_call (ok__law_spelt M B) rfl rfl tk gd (hr.mono (by omega)) (by rfl) (da_cons (de_var (i := 0) rfl (.inr (.inl rfl))) da_nil) (hlen := (ar_cons ar_nil))) da_nil))) (da_cons (de_tup (da_cons de_str (da_cons (de_call (ok__law_spelt M B) rfl rfl tk gd (hr.mono (by omega)) (by rfl) (da_cons (de_var (i := 0) rfl (.inr (.inl rfl))) da_nil) (hlen := (ar_cons ar_nil))) da_nil))) da_nil))))) da_nil)) (hlen := (ar_cons (ar_cons ar_nil)))))))) dss_nil)
  (dss_cons (ds_if (dt_eq rfl hr (de_var (i := 1) rfl (.inl rfl)) de_str) (dss_cons (ds_set (i := 4) nd rfl (.inl rfl) (de_call (ok__law_one_of M B) rfl rfl tk gd (hr.mono (by omega)) (by rfl) (da_cons (de_var (i := 0) rfl (.inr (.inl rfl))) (da_cons (de_sh (df_lst (da_cons de_str (da_cons de_str (da_cons de_str (da_cons de_str (da_cons de_str (da_cons de_str da_nil)))))))) da_nil)) (hlen := (ar_cons (ar_cons ar_nil)))))
  (dss_cons (ds_set (i := 5) nd rfl (.inr rfl) (de_if (dt_in rfl rfl (de_var (i := 4) rfl (.inl rfl)) (de_tup (da_cons de_str (da_cons de_str (da_cons de_str da_nil))))) de_str de_str))
  (dss_one (ds_ret (de_ty (id := "tuple") call_tuple_of (p_tuple rfl) (by rfl) (M.free 7 rfl) (by decide +kernel) (da_cons (de_add rfl (de_sh (df_lst (da_cons (de_var (i := 4) rfl (.inl rfl)) da_nil))) (de_sh (df_comp rfl nd (own := [("_law_turn", 8)]) (di_rng1 (by rfl) (M.free 6 rfl) (da_cons (de_if (dt_eq rfl hr (de_var (i := 4) rfl (.inl rfl)) de_str) de_int de_int) da_nil)) (blkOk_of (by rfl)) (by decide) (fun s H C cl fp => (dg_name (i := 8) nd rfl (.inl rfl))) (fun s H C cl fp => dts_nil) (fun s H C cl fp => (de_call (ps := ["_law_loam_here", "_law_kind", "_law_deep"]) (dd := dd__law_drawn) (k0 := 4 + k) (F := f__law_drawn k) (ih _ _ B) rfl rfl takes0 gd (hr.mono (by omega)) (by rfl) (da_cons (de_var (i := 0) rfl (.inr (.inl rfl))) (da_cons (de_var (i := 5) rfl (.inr (.inl rfl))) (da_cons (de_sub (de_var (i := 2) rfl (.inr (.inl rfl))) de_int) da_nil))) (hlen := (ar_cons (ar_cons (ar_cons ar_nil))))))))) da_nil)))))) dss_nil)
  (dss_cons (ds_set (i := 4) nd rfl (.inl rfl) (de_call (ok__law_one_of M B) rfl rfl tk gd (hr.mono (by omega)) (by rfl) (da_cons (de_var (i := 0) rfl (.inr (.inl rfl))) (da_cons (de_sh (df_lst (da_cons de_str (da_cons de_str (da_cons de_str (da_cons de_str (da_cons de_str (da_cons de_str (da_cons de_str (da_cons de_str (da_cons de_str (da_cons de_str (da_cons de_str (da_cons de_str (da_cons de_str da_nil))))))))))))))) da_nil)) (hlen := (ar_cons (ar_cons ar_nil)))))
  (dss_cons (ds_if (dt_eq rfl hr (de_var (i := 4) rfl (.inl rfl)) de_str) (dss_one (ds_ret (de_tup (da_cons de_str (da_cons (de_call (ps := ["_law_loam_here", "_law_kind", "_law_deep"]) (dd := dd__law_drawn) (k0 := 4 + k) (F := f__law_drawn k) (ih _ _ B) rfl rfl tk gd (hr.mono (by omega)) (by rfl) (da_cons (de_var (i := 0) rfl (.inr (.inl rfl))) (da_cons de_str (da_cons (de_sub (de_var (i := 2) rfl (.inr (.inl rfl))) de_int) da_nil))) (hlen := (ar_cons (ar_cons (ar_cons ar_nil))))) (da_cons (de_call (ps := ["_law_loam_here", "_law_kind", "_law_deep"]) (dd := dd__law_drawn) (k0 := 4 + k) (F := f__law_drawn k) (ih _ _ B) rfl rfl tk gd (hr.mono (by omega)) (by rfl) (da_cons (de_var (i := 0) rfl (.inr (.inl rfl))) (da_cons de_str (da_cons (de_sub (de_var (i := 2) rfl (.inr (.inl rfl))) de_int) da_nil))) (hlen := (ar_cons (ar_cons (ar_cons ar_nil))))) (da_cons (de_call (ps := ["_law_loam_here", "_law_kind", "_law_deep"]) (dd := dd__law_drawn) (k0 := 4 + k) (F := f__law_drawn k) (ih _ _ B) rfl rfl tk gd (hr.mono (by omega)) (by rfl) (da_cons (de_var (i := 0) rfl (.inr (.inl rfl))) (da_cons de_str (da_cons (de_sub (de_var (i := 2) rfl (.inr (.inl rfl))) de_int) da_nil))) (hlen := (ar_cons (ar_cons (ar_cons ar_nil))))) da_nil))))))) dss_nil)
  (dss_cons (ds_if (dt_in rfl rfl (de_var (i := 4) rfl (.inl rfl)) (de_tup (da_cons de_str (da_cons de_str da_nil)))) (dss_cons (ds_set (i := 6) nd rfl (.inl rfl) (de_if (dt_eq rfl hr (de_var (i := 4) rfl (.inl rfl)) de_str) de_int de_int))
  (dss_cons (ds_set (i := 4) nd rfl (.inl rfl) (de_join (.cons (de_fmt (de_var (i := 4) rfl (.inl rfl))) (.cons de_str (.cons (de_fmt (de_call (ok__law_spelt M B) rfl rfl tk gd (hr.mono (by omega)) (by rfl) (da_cons (de_var (i := 0) rfl (.inr (.inl rfl))) da_nil) (hlen := (ar_cons ar_nil)))) (.cons de_str (.cons (de_fmt (de_call (ok__law_seed M B) rfl rfl tk gd (hr.mono (by omega)) (by rfl) (da_cons (de_var (i := 0) rfl (.inr (.inl rfl))) (da_cons de_int da_nil)) (hlen := (ar_cons (ar_cons ar_nil))))) DJ.nil)))))))
  (dss_one (ds_ret (de_ty (id := "tuple") call_tuple_of (p_tuple rfl) (by rfl) (M.free 7 rfl) (by decide +kernel) (da_cons (de_add rfl (de_sh (df_lst (da_cons (de_var (i := 4) rfl (.inl rfl)) da_nil))) (de_sh (df_comp rfl nd (own := [("_law_turn", 8)]) (di_rng1 (by rfl) (M.free 6 rfl) (da_cons (de_add rfl (de_var (i := 6) rfl (.inl rfl)) (de_call (ok__law_seed M B) rfl rfl tk gd (hr.mono (by omega)) (by rfl) (da_cons (de_var (i := 0) rfl (.inr (.inl rfl))) (da_cons de_int da_nil)) (hlen := (ar_cons (ar_cons ar_nil))))) da_nil)) (blkOk_of (by rfl)) (by decide) (fun s H C cl fp => (dg_name (i := 8) nd rfl (.inl rfl))) (fun s H C cl fp => dts_nil) (fun s H C cl fp => (de_call (ps := ["_law_loam_here", "_law_kind", "_law_deep"]) (dd := dd__law_drawn) (k0 := 4 + k) (F := f__law_drawn k) (ih _ _ B) rfl rfl takes0 gd (hr.mono (by omega)) (by rfl) (da_cons (de_var (i := 0) rfl (.inr (.inl rfl))) (da_cons de_str (da_cons (de_sub (de_var (i := 2) rfl (.inr (.inl rfl))) de_int) da_nil))) (hlen := (ar_cons (ar_cons (ar_cons ar_nil))))))))) da_nil)))))) dss_nil)
  (dss_cons (ds_set (i := 7) nd rfl (.inl rfl) (de_in rfl rfl (de_var (i := 4) rfl (.inl rfl)) (de_tup (da_cons de_str (da_cons de_str (da_cons de_str (da_cons de_str da_nil)))))))
  (dss_cons (ds_set (i := 4) nd rfl (.inl rfl) (de_if (dt_eq rfl hr (de_var (i := 4) rfl (.inl rfl)) de_str) (de_join (.cons de_str (.cons (de_fmt (de_call (ok__law_one_of M B) rfl rfl tk gd (hr.mono (by omega)) (by rfl) (da_cons (de_var (i := 0) rfl (.inr (.inl rfl))) (da_cons (de_sh (df_lst (da_cons de_int (da_cons de_int (da_cons (de_add rfl de_int (de_call (ok__law_seed M B) rfl rfl tk gd (hr.mono (by omega)) (by rfl) (da_cons (de_var (i := 0) rfl (.inr (.inl rfl))) (da_cons de_int da_nil)) (hlen := (ar_cons (ar_cons ar_nil))))) da_nil))))) da_nil)) (hlen := (ar_cons (ar_cons ar_nil))))) DJ.nil))) (de_var (i := 4) rfl (.inl rfl))))
  (dss_one (ds_ret (de_ty (id := "tuple") call_tuple_of (p_tuple rfl) (by rfl) (M.free 7 rfl) (by decide +kernel) (da_cons (de_add rfl (de_sh (df_lst (da_cons (de_var (i := 4) rfl (.inl rfl)) da_nil))) (de_sh (df_comp rfl nd (own := [("_law_turn", 8)]) (di_rng1 (by rfl) (M.free 6 rfl) (da_cons (de_if (dt_val (de_var (i := 7) rfl (.inl rfl))) de_int de_int) da_nil)) (blkOk_of (by rfl)) (by decide) (fun s H C cl fp => (dg_name (i := 8) nd rfl (.inl rfl))) (fun s H C cl fp => dts_nil) (fun s H C cl fp => (de_call (ps := ["_law_loam_here", "_law_kind", "_law_deep"]) (dd := dd__law_drawn) (k0 := 4 + k) (F := f__law_drawn k) (ih _ _ B) rfl rfl takes0 gd (hr.mono (by omega)) (by rfl) (da_cons (de_var (i := 0) rfl (.inr (.inl rfl))) (da_cons de_str (da_cons (de_sub (de_var (i := 2) rfl (.inr (.inl rfl))) de_int) da_nil))) (hlen := (ar_cons (ar_cons (ar_cons ar_nil))))))))) da_nil)))))))))))
theorem ok__law_drawn (M : FactsL T mg) (B : LamsL T mg base) : DefOk T P mg base 44 dd__law_drawn ["_law_loam_here", "_law_kind", "_law_deep"] (f__law_drawn 40) := ok__law_drawn_rec M 40 P base B
theorem ok__law_loam (M : FactsL T mg) (B : LamsL T mg base) : DefOk T P mg base 1 dd__law_loam ["_law_script"] f__law_loam := by
  obtain ⟨fd, F⟩ := M.def_ 4 (d := dd__law_loam) rfl
  have S : FnScope ["_law_script", "_law_cell"] ["_law_script"] (defScope (top 38)) := ⟨rfl, rfl, rfl, by decide +kernel, rfl, by decide +kernel, by decide +kernel⟩
  have nd := S.nd
  exact def_ok F (M.glo 9 rfl) S (fun _ => fun _ _ _ _ _ _ us hl => match us, hl with | [_], _ => rfl) fun cdv hcd A outer s0 H0 E gd hr tk => (dss_one (ds_retF (df_lst (da_cons (de_sh (df_comp rfl nd (own := [("_law_cell", 1)]) (di_seq rfl (de_sl rfl (de_var (i := 0) rfl (.inl rfl)) dp_none (dp_some de_int))) (blkOk_of (by rfl)) (by decide) (fun s H C cl fp => (dg_name (i := 1) nd rfl (.inl rfl))) (fun s H C cl fp => dts_nil) (fun s H C cl fp => (de_ty (id := "int") call_intA p_int (by rfl) (M.free 0 rfl) (by decide +kernel) (da_cons (de_var (i := 1) rfl (.inl rfl)) da_nil))))) (da_cons de_int (da_cons de_int da_nil))))))
theorem ok__law_parted (M : FactsL T mg) (B : LamsL T mg base) : DefOk T P mg base 1 dd__law_parted ["_law_pairs"] f__law_parted := by
  obtain ⟨fd, F⟩ := M.def_ 5 (d := dd__law_parted) rfl
  have S : FnScope ["_law_pairs", "_law_truths", "_law_pair"] ["_law_pairs"] (defScope (top 45)) := ⟨rfl, rfl, rfl, by decide +kernel, rfl, by decide +kernel, by decide +kernel⟩
  have nd := S.nd
  exact def_ok F (M.glo 11 rfl) S (fun _ => fun _ _ _ _ _ _ us hl => match us, hl with | [_], _ => rfl) fun cdv hcd A outer s0 H0 E gd hr tk => (dss_cons (ds_set (i := 1) nd rfl (.inr rfl) (de_tup (da_cons de_str (da_cons de_str (da_cons de_str (da_cons de_str (da_cons de_str (da_cons de_str (da_cons de_str (da_cons de_str (da_cons de_str da_nil)))))))))))
  (dss_one (ds_retF (df_lst (da_cons (de_ty (id := "dict") (call_dictA rfl) (p_dict rfl) (by rfl) (M.free 10 rfl) (by decide +kernel) (da_cons (de_sh (df_comp rfl nd (own := [("_law_pair", 2)]) (di_seq rfl (de_var (i := 0) rfl (.inl rfl))) (blkOk_of (by rfl)) (by decide) (fun s H C cl fp => (dg_name (i := 2) nd rfl (.inl rfl))) (fun s H C cl fp => (dts_one (dt_notin rfl rfl (de_ixA rfl (de_ixA rfl (de_var (i := 2) rfl (.inl rfl)) de_int (fun _ _ => rfl)) de_int (fun _ _ => rfl)) (de_var (i := 1) rfl (.inr (.inl rfl)))))) (fun s H C cl fp => (de_var (i := 2) rfl (.inl rfl))))) da_nil)) (da_cons (de_ty (id := "dict") (call_dictA rfl) (p_dict rfl) (by rfl) (M.free 10 rfl) (by decide +kernel) (da_cons (de_sh (df_comp rfl nd (own := [("_law_pair", 2)]) (di_seq rfl (de_var (i := 0) rfl (.inl rfl))) (blkOk_of (by rfl)) (by decide) (fun s H C cl fp => (dg_name (i := 2) nd rfl (.inl rfl))) (fun s H C cl fp => (dts_one (dt_in rfl rfl (de_ixA rfl (de_ixA rfl (de_var (i := 2) rfl (.inl rfl)) de_int (fun _ _ => rfl)) de_int (fun _ _ => rfl)) (de_var (i := 1) rfl (.inr (.inl rfl)))))) (fun s H C cl fp => (de_var (i := 2) rfl (.inl rfl))))) da_nil)) da_nil))))))
theorem ok__law_put_rec (M : FactsL T mg) : ∀ (k : Nat) (P : Program) (base : Heap), LamsL T mg base → DefOk T P mg base (1 + k) dd__law_put ["_law_term", "_law_words", "_law_truths"] (f__law_put k)
  | 0, P, base, B => by
    obtain ⟨fd, F⟩ := M.def_ 6 (d := dd__law_put) rfl
    exact def_zero F (M.glo 12 rfl) (fun _ _ _ _ _ _ _ us hl => match us, hl with | [_, _, _], _ => rfl)
  | k + 1, P, base, B => by
    have ih := ok__law_put_rec M k
    obtain ⟨fd, F⟩ := M.def_ 6 (d := dd__law_put) rfl
    have S : FnScope ["_law_term", "_law_words", "_law_truths", "_law_part"] ["_law_term", "_law_words", "_law_truths"] (defScope (top 43)) := ⟨rfl, rfl, rfl, by decide +kernel, rfl, by decide +kernel, by decide +kernel⟩
    have nd := S.nd
    exact def_ok (m := m__law_put (f__law_put k)) (k := 1 + k) F (M.glo 12 rfl) S (fun _ _ _ _ _ _ _ us hl => match us, hl with | [_, _, _], _ => rfl) fun cdv hcd A outer s0 H0 E gd hr tk => (dss_cons (ds_if (dt_eq rfl hr (de_ixA rfl (de_var (i := 0) rfl (.inl rfl)) de_int (fun _ _ => rfl)) de_str) (dss_one (ds_ret (de_if (dt_inD hr (de_ixA rfl (de_var (i := 0) rfl (.inl rfl)) de_int (fun _ _ => rfl)) (de_var (i := 1) rfl (.inr (.inl rfl))) (by rfl)) (de_ixD hr (de_var (i := 1) rfl (.inr (.inl rfl))) (de_ixA rfl (de_var (i := 0) rfl (.inl rfl)) de_int (fun _ _ => rfl)) (fun _ _ => rfl)) (de_var (i := 0) rfl (.inl rfl))))) dss_nil)
  (dss_cons (ds_if (dt_eq rfl hr (de_ixA rfl (de_var (i := 0) rfl (.inl rfl)) de_int (fun _ _ => rfl)) de_str) (dss_one (ds_ret (de_if (dt_inD hr (de_ixA rfl (de_var (i := 0) rfl (.inl rfl)) de_int (fun _ _ => rfl)) (de_var (i := 2) rfl (.inr (.inl rfl))) (by rfl)) (de_ixD hr (de_var (i := 2) rfl (.inr (.inl rfl))) (de_ixA rfl (de_var (i := 0) rfl (.inl rfl)) de_int (fun _ _ => rfl)) (fun _ _ => rfl)) (de_var (i := 0) rfl (.inl rfl))))) dss_nil)
  (dss_cons (ds_if (dt_in rfl rfl (de_ixA rfl (de_var (i := 0) rfl (.inl rfl)) de_int (fun _ _ => rfl)) (de_tup (da_cons de_str (da_cons de_str (da_cons de_str da_nil))))) (dss_one (ds_ret (de_var (i := 0) rfl (.inl rfl)))) dss_nil)
  (dss_one (ds_ret (de_ty (id := "tuple") call_tuple_of (p_tuple rfl) (by rfl) (M.free 7 rfl) (by decide +kernel) (da_cons (de_add rfl (de_sh (df_lst (da_cons (de_ixA rfl (de_var (i := 0) rfl (.inl rfl)) de_int (fun _ _ => rfl)) da_nil))) (de_sh (df_comp rfl nd (own := [("_law_part", 3)]) (di_seq rfl (de_sl rfl (de_var (i := 0) rfl (.inl rfl)) (dp_some de_int) dp_none)) (blkOk_of (by rfl)) (by decide) (fun s H C cl fp => (dg_name (i := 3) nd rfl (.inl rfl))) (fun s H C cl fp => dts_nil) (fun s H C cl fp => (de_call (ps := ["_law_term", "_law_words", "_law_truths"]) (dd := dd__law_put) (k0 := 1 + k) (F := f__law_put k) (ih _ _ B) rfl rfl takes0 gd (hr.mono (by omega)) (by rfl) (da_cons (de_var (i := 3) rfl (.inl rfl)) (da_cons (de_var (i := 1) rfl (.inr (.inl rfl))) (da_cons (de_var (i := 2) rfl (.inr (.inl rfl))) da_nil))) (hlen := (ar_cons (ar_cons (ar_cons ar_nil))))))))) da_nil)))))))
theorem ok__law_put (M : FactsL T mg) (B : LamsL T mg base) : DefOk T P mg base 41 dd__law_put ["_law_term", "_law_words", "_law_truths"] (f__law_put 40) := ok__law_put_rec M 40 P base B
theorem ok__law_told (M : FactsL T mg) (B : LamsL T mg base) : DefOk T P mg base 45 dd__law_told ["_law_loam_here"] f__law_told := by
  obtain ⟨fd, F⟩ := M.def_ 7 (d := dd__law_told) rfl
  have S : FnScope ["_law_loam_here", "_law_found", "_law_left", "_law_turn", "_law_spelt_here"] ["_law_loam_here"] (defScope (top 44)) := ⟨rfl, rfl, rfl, by decide +kernel, rfl, by decide +kernel, by decide +kernel⟩
  have nd := S.nd
  exact def_ok F (M.glo 13 rfl) S (fun _ => fun _ _ _ _ _ _ us hl => match us, hl with | [_], _ => rfl) fun cdv hcd A outer s0 H0 E gd hr tk => (dss_cons (ds_parO (i := 1) (j := 2) rfl nd rfl rfl (by decide) rfl rfl (df_lst da_nil) (df_lst (da_cons de_str (da_cons de_str (da_cons de_str (da_cons de_str (da_cons de_str (da_cons de_str (da_cons de_str (da_cons de_str da_nil))))))))))
  (dss_cons (ds_for (passes_of rfl) rfl (di_rng1 (by rfl) (M.free 6 rfl) (da_cons (de_call (ok__law_seed M B) rfl rfl tk gd (hr.mono (by decide)) (by rfl) (da_cons (de_var (i := 0) rfl (.inl rfl)) (da_cons de_int da_nil)) (hlen := (ar_cons (ar_cons ar_nil)))) da_nil)) (dg_name (i := 3) nd rfl (.inl rfl)) (dss_cons (ds_set (i := 4) nd rfl (.inl rfl) (de_popAt (i := 2) rfl rfl (.inl rfl) (de_call (ok__law_seed M B) rfl rfl tk gd (hr.mono (by decide)) (by rfl) (da_cons (de_var (i := 0) rfl (.inl rfl)) (da_cons (de_biB (i := 2) call_lenA (p_len rfl) (by rfl) (M.free 1 rfl) (by decide +kernel) rfl (.inl rfl)) da_nil)) (hlen := (ar_cons (ar_cons ar_nil))))))
  (dss_one (ds_app (i := 1) rfl rfl (.inl rfl) (de_tup (da_cons (de_var (i := 4) rfl (.inl rfl)) (da_cons (de_call (ok__law_drawn M B) rfl rfl tk gd (hr.mono (by decide)) (by rfl) (da_cons (de_var (i := 0) rfl (.inl rfl)) (da_cons (de_call (ok__law_one_of M B) rfl rfl tk gd (hr.mono (by decide)) (by rfl) (da_cons (de_var (i := 0) rfl (.inl rfl)) (da_cons (de_sh (df_lst (da_cons de_str (da_cons de_str da_nil)))) da_nil)) (hlen := (ar_cons (ar_cons ar_nil)))) (da_cons (de_call (ok__law_seed M B) rfl rfl tk gd (hr.mono (by decide)) (by rfl) (da_cons (de_var (i := 0) rfl (.inl rfl)) (da_cons de_int da_nil)) (hlen := (ar_cons (ar_cons ar_nil)))) da_nil))) (hlen := (ar_cons (ar_cons (ar_cons ar_nil))))) da_nil)))))))
  (dss_one (ds_ret (de_var (i := 1) rfl (.inl rfl))))))
theorem ok_fixed_rec (M : FactsL T mg) : ∀ (k : Nat) (P : Program) (base : Heap), LamsL T mg base → DefOk T P mg base (1 + k) dd_fixed ["value"] (f_fixed k)
  | 0, P, base, B => by
    obtain ⟨fd, F⟩ := M.def_ 8 (d := dd_fixed) rfl
    exact def_zero F (M.glo 16 rfl) (fun _ _ _ _ _ _ _ us hl => match us, hl with | [_], _ => rfl)
  | k + 1, P, base, B => by
    have ih := ok_fixed_rec M k
    obtain ⟨fd, F⟩ := M.def_ 8 (d := dd_fixed) rfl
    have S : FnScope ["value", "part"] ["value"] (defScope (top 10)) := ⟨rfl, rfl, rfl, by decide +kernel, rfl, by decide +kernel, by decide +kernel⟩
    have nd := S.nd
    exact def_ok (m := m_fixed (f_fixed k)) (k := 1 + k) F (M.glo 16 rfl) S (fun _ _ _ _ _ _ _ us hl => match us, hl with | [_], _ => rfl) fun cdv hcd A outer s0 H0 E gd hr tk => (dss_cons (ds_if (dt_val (de_isi2 rfl (by rfl) (M.free 14 rfl) (by rfl) (M.free 15 rfl) (by decide +kernel) (by decide) (by rfl) (M.free 7 rfl) (by decide +kernel) (by decide) (de_var (i := 0) rfl (.inl rfl)))) (dss_one (ds_ret (de_ty (id := "tuple") call_tuple_of (p_tuple rfl) (by rfl) (M.free 7 rfl) (by decide +kernel) (da_cons (de_sh (df_comp rfl nd (own := [("part", 1)]) (di_seq rfl (de_var (i := 0) rfl (.inl rfl))) (blkOk_of (by rfl)) (by decide) (fun s H C cl fp => (dg_name (i := 1) nd rfl (.inl rfl))) (fun s H C cl fp => dts_nil) (fun s H C cl fp => (de_call (ps := ["value"]) (dd := dd_fixed) (k0 := 1 + k) (F := f_fixed k) (ih _ _ B) rfl rfl takes0 gd (hr.mono (by omega)) (by rfl) (da_cons (de_var (i := 1) rfl (.inl rfl)) da_nil) (hlen := (ar_cons ar_nil)))))) da_nil)))) dss_nil)
  (dss_one (ds_ret (de_var (i := 0) rfl (.inl rfl)))))
theorem ok_fixed (M : FactsL T mg) (B : LamsL T mg base) : DefOk T P mg base 41 dd_fixed ["value"] (f_fixed 40) := ok_fixed_rec M 40 P base B
theorem ok_is_spelling (M : FactsL T mg) (B : LamsL T mg base) : DefOk T P mg base 1 dd_is_spelling ["value"] f_is_spelling := by
  obtain ⟨fd, F⟩ := M.def_ 9 (d := dd_is_spelling) rfl
  have S : FnScope ["value", "sign"] ["value"] (defScope (top 23)) := ⟨rfl, rfl, rfl, by decide +kernel, rfl, by decide +kernel, by decide +kernel⟩
  have nd := S.nd
  exact def_ok F (M.glo 19 rfl) S (fun _ => fun _ _ _ _ _ _ us hl => match us, hl with | [_], _ => rfl) fun cdv hcd A outer s0 H0 E gd hr tk => (dss_cons (ds_if (dw_or (dt_not (dt_val (de_isi rfl (by rfl) (M.free 14 rfl) (by rfl) (M.free 17 rfl) (by decide +kernel) (by decide) (de_var (i := 0) rfl (.inl rfl))))) (dw_or (dt_not (dt_chain op_le op_le pb_B0 p_B0 de_int (de_bi call_lenA (p_len rfl) (by rfl) (M.free 1 rfl) (by decide +kernel) (da_cons (de_var (i := 0) rfl (.inl rfl)) da_nil)) de_int)) (dw_or1 (dt_notin rfl rfl (de_ixA rfl (de_var (i := 0) rfl (.inl rfl)) de_int (fun _ _ => rfl)) (de_val (M.val 2 rfl) (by rfl)))))).pt (dss_one (ds_ret de_bl)) dss_nil)
  (dss_one (ds_ret (de_bi (cr_all rfl) (p_all rfl) (by rfl) (M.free 18 rfl) (by decide +kernel) (da_cons (de_sh (df_comp rfl nd (own := [("sign", 1)]) (di_str (de_var (i := 0) rfl (.inl rfl))) (blkOk_of (by rfl)) (by decide) (fun s H C cl fp => (dg_name (i := 1) nd rfl (.inl rfl))) (fun s H C cl fp => dts_nil) (fun s H C cl fp => (dv_or (de_in rfl rfl (de_var (i := 1) rfl (.inl rfl)) (de_val (M.val 2 rfl) (by rfl))) (dv_one (de_in rfl rfl (de_var (i := 1) rfl (.inl rfl)) (de_val (M.val 3 rfl) (by rfl)))))))) da_nil)))))
theorem ok_is_name (M : FactsL T mg) (B : LamsL T mg base) : DefOk T P mg base 2 dd_is_name ["value"] f_is_name := by
  obtain ⟨fd, F⟩ := M.def_ 10 (d := dd_is_name) rfl
  have S : FnScope ["value"] ["value"] (defScope (top 24)) := ⟨rfl, rfl, rfl, by decide +kernel, rfl, by decide +kernel, by decide +kernel⟩
  have nd := S.nd
  exact def_ok F (M.glo 20 rfl) S (fun _ => fun _ _ _ _ _ _ us hl => match us, hl with | [_], _ => rfl) fun cdv hcd A outer s0 H0 E gd hr tk => (dss_one (ds_ret (dv_and (de_call (ok_is_spelling M B) rfl rfl tk gd (hr.mono (by decide)) (by rfl) (da_cons (de_var (i := 0) rfl (.inl rfl)) da_nil) (hlen := (ar_cons ar_nil))) (dv_one (de_notin rfl rfl (de_var (i := 0) rfl (.inl rfl)) (de_val (M.val 4 rfl) (by rfl)))))))
theorem ok_is_integer (M : FactsL T mg) (B : LamsL T mg base) : DefOk T P mg base 1 dd_is_integer ["value"] f_is_integer := by
  obtain ⟨fd, F⟩ := M.def_ 11 (d := dd_is_integer) rfl
  have S : FnScope ["value"] ["value"] (defScope (top 5)) := ⟨rfl, rfl, rfl, by decide +kernel, rfl, by decide +kernel, by decide +kernel⟩
  have nd := S.nd
  exact def_ok F (M.glo 22 rfl) S (fun _ => fun _ _ _ _ _ _ us hl => match us, hl with | [_], _ => rfl) fun cdv hcd A outer s0 H0 E gd hr tk => (dss_one (ds_ret (dv_and (de_isi rfl (by rfl) (M.free 14 rfl) (by rfl) (M.free 0 rfl) (by decide +kernel) (by decide) (de_var (i := 0) rfl (.inl rfl))) (dv_one (dv_not (de_isi rfl (by rfl) (M.free 14 rfl) (by rfl) (M.free 21 rfl) (by decide +kernel) (by decide) (de_var (i := 0) rfl (.inl rfl))))))))
theorem ok_is_within (M : FactsL T mg) (B : LamsL T mg base) : DefOk T P mg base 2 dd_is_within ["value", "least", "most"] f_is_within := by
  obtain ⟨fd, F⟩ := M.def_ 12 (d := dd_is_within) rfl
  have S : FnScope ["value", "least", "most"] ["value", "least", "most"] (defScope (top 6)) := ⟨rfl, rfl, rfl, by decide +kernel, rfl, by decide +kernel, by decide +kernel⟩
  have nd := S.nd
  exact def_ok F (M.glo 23 rfl) S (fun _ => fun _ _ _ _ _ _ us hl => match us, hl with | [_, _, _], _ => rfl) fun cdv hcd A outer s0 H0 E gd hr tk => (dss_cons (ds_if (dt_not (dt_val (de_call (ok_is_integer M B) rfl rfl tk gd (hr.mono (by decide)) (by rfl) (da_cons (de_var (i := 0) rfl (.inl rfl)) da_nil) (hlen := (ar_cons ar_nil))))) (dss_one (ds_ret de_bl)) dss_nil)
  (dss_cons (ds_if (dw_and (dt_isnot (de_var (i := 1) rfl (.inl rfl)) de_non) (dw_and1 (dt_lt (de_var (i := 0) rfl (.inl rfl)) (de_var (i := 1) rfl (.inl rfl))))).pt (dss_one (ds_ret de_bl)) dss_nil)
  (dss_one (ds_ret (dv_or (de_is (de_var (i := 2) rfl (.inl rfl)) de_non) (dv_one (de_le (de_var (i := 0) rfl (.inl rfl)) (de_var (i := 2) rfl (.inl rfl)))))))))
theorem ok_is_leaf (M : FactsL T mg) (B : LamsL T mg base) : DefOk T P mg base 3 dd_is_leaf ["value"] f_is_leaf := by
  obtain ⟨fd, F⟩ := M.def_ 13 (d := dd_is_leaf) rfl
  have S : FnScope ["value"] ["value"] (defScope (top 27)) := ⟨rfl, rfl, rfl, by decide +kernel, rfl, by decide +kernel, by decide +kernel⟩
  have nd := S.nd
  exact def_ok F (M.glo 24 rfl) S (fun _ => fun _ _ _ _ _ _ us hl => match us, hl with | [_], _ => rfl) fun cdv hcd A outer s0 H0 E gd hr tk => (dss_cons (ds_if (dt_in rfl rfl (de_ixA rfl (de_var (i := 0) rfl (.inl rfl)) de_int (fun _ _ => rfl)) (de_val (M.val 4 rfl) (by rfl))) (dss_one (ds_ret (de_eq rfl hr (de_bi call_lenA (p_len rfl) (by rfl) (M.free 1 rfl) (by decide +kernel) (da_cons (de_var (i := 0) rfl (.inl rfl)) da_nil)) de_int))) dss_nil)
  (dss_cons (ds_if (dt_ne rfl hr (de_bi call_lenA (p_len rfl) (by rfl) (M.free 1 rfl) (by decide +kernel) (da_cons (de_var (i := 0) rfl (.inl rfl)) da_nil)) de_int) (dss_one (ds_ret de_bl)) dss_nil)
  (dss_cons (ds_if (dt_eq rfl hr (de_ixA rfl (de_var (i := 0) rfl (.inl rfl)) de_int (fun _ _ => rfl)) de_str) (dss_one (ds_ret (de_call (ok_is_within M B) rfl rfl tk gd (hr.mono (by decide)) (by rfl) (da_cons (de_ixA rfl (de_var (i := 0) rfl (.inl rfl)) de_int (fun _ _ => rfl)) (da_cons (de_neg (de_val (M.val 5 rfl) (by rfl))) (da_cons (de_val (M.val 5 rfl) (by rfl)) da_nil))) (hlen := (ar_cons (ar_cons (ar_cons ar_nil))))))) dss_nil)
  (dss_one (ds_ret (de_if (dt_eq rfl hr (de_ixA rfl (de_var (i := 0) rfl (.inl rfl)) de_int (fun _ _ => rfl)) de_str) (de_call (ok_is_name M B) rfl rfl tk gd (hr.mono (by decide)) (by rfl) (da_cons (de_ixA rfl (de_var (i := 0) rfl (.inl rfl)) de_int (fun _ _ => rfl)) da_nil) (hlen := (ar_cons ar_nil))) (de_call (ok_is_spelling M B) rfl rfl tk gd (hr.mono (by decide)) (by rfl) (da_cons (de_ixA rfl (de_var (i := 0) rfl (.inl rfl)) de_int (fun _ _ => rfl)) da_nil) (hlen := (ar_cons ar_nil)))))))))
theorem ok_call_of (M : FactsL T mg) (B : LamsL T mg base) : DefOk T P mg base 2 dd_call_of ["label"] f_call_of := by
  obtain ⟨fd, F⟩ := M.def_ 14 (d := dd_call_of) rfl
  have S : FnScope ["label", "items"] ["label"] (defScope (top 25)) := ⟨rfl, rfl, rfl, by decide +kernel, rfl, by decide +kernel, by decide +kernel⟩
  have nd := S.nd
  exact def_ok F (M.glo 25 rfl) S (fun _ => fun _ _ _ _ _ _ us hl => match us, hl with | [_], _ => rfl) fun cdv hcd A outer s0 H0 E gd hr tk => (dss_cons (ds_set (i := 1) nd rfl (.inl rfl) (de_if (dt_val (de_isi rfl (by rfl) (M.free 14 rfl) (by rfl) (M.free 17 rfl) (by decide +kernel) (by decide) (de_var (i := 0) rfl (.inl rfl)))) (de_split (de_var (i := 0) rfl (.inl rfl)) de_str) (de_sh (df_lst da_nil))))
  (dss_cons (ds_if (dw_or (dt_ne rfl hr (de_bi call_lenA (p_len rfl) (by rfl) (M.free 1 rfl) (by decide +kernel) (da_cons (de_var (i := 1) rfl (.inl rfl)) da_nil)) de_int) (dw_or (dt_notin rfl rfl (de_ixA rfl (de_var (i := 1) rfl (.inl rfl)) de_int (fun _ _ => rfl)) (de_tup (da_cons de_str (da_cons de_str da_nil)))) (dw_or (dt_not (dt_val (de_call (ok_is_spelling M B) rfl rfl tk gd (hr.mono (by decide)) (by rfl) (da_cons (de_ixA rfl (de_var (i := 1) rfl (.inl rfl)) de_int (fun _ _ => rfl)) da_nil) (hlen := (ar_cons ar_nil))))) (dw_or1 (dt_notin rfl rfl (de_ixA rfl (de_var (i := 1) rfl (.inl rfl)) de_int (fun _ _ => rfl)) (de_val (M.val 6 rfl) (by rfl))))))).pt (dss_one (ds_ret de_non)) dss_nil)
  (dss_one (ds_ret (de_tup (da_cons (de_ixA rfl (de_var (i := 1) rfl (.inl rfl)) de_int (fun _ _ => rfl)) (da_cons (de_ixA rfl (de_var (i := 1) rfl (.inl rfl)) de_int (fun _ _ => rfl)) (da_cons (de_ty (id := "int") call_intA p_int (by rfl) (M.free 0 rfl) (by decide +kernel) (da_cons (de_ixA rfl (de_var (i := 1) rfl (.inl rfl)) de_int (fun _ _ => rfl)) da_nil)) da_nil))))))))
theorem ok_bits_up (M : FactsL T mg) (B : LamsL T mg base) : DefOk T P mg base 1 dd_bits_up ["label"] f_bits_up := by
  obtain ⟨fd, F⟩ := M.def_ 15 (d := dd_bits_up) rfl
  have S : FnScope ["label", "k"] ["label"] (defScope (top 13)) := ⟨rfl, rfl, rfl, by decide +kernel, rfl, by decide +kernel, by decide +kernel⟩
  have nd := S.nd
  exact def_ok F (M.glo 26 rfl) S (fun _ => fun _ _ _ _ _ _ us hl => match us, hl with | [_], _ => rfl) fun cdv hcd A outer s0 H0 E gd hr tk => (dss_cons (ds_for (passes_of rfl) rfl (di_rng2 (by rfl) (M.free 6 rfl) (da_cons de_int (da_cons de_int da_nil))) (dg_name (i := 1) nd rfl (.inl rfl)) (dss_one (ds_if (dt_eq rfl hr (de_var (i := 0) rfl (.inl rfl)) (de_join (.cons de_str (.cons (de_fmt (de_var (i := 1) rfl (.inl rfl))) DJ.nil)))) (dss_one (ds_ret (de_var (i := 1) rfl (.inl rfl)))) dss_nil)))
  (dss_one (ds_ret de_int)))
theorem ok_shape_of (M : FactsL T mg) (B : LamsL T mg base) : DefOk T P mg base 2 dd_shape_of ["label"] f_shape_of := by
  obtain ⟨fd, F⟩ := M.def_ 16 (d := dd_shape_of) rfl
  have S : FnScope ["label"] ["label"] (defScope (top 14)) := ⟨rfl, rfl, rfl, by decide +kernel, rfl, by decide +kernel, by decide +kernel⟩
  have nd := S.nd
  exact def_ok F (M.glo 28 rfl) S (fun _ => fun _ _ _ _ _ _ us hl => match us, hl with | [_], _ => rfl) fun cdv hcd A outer s0 H0 E gd hr tk => (dss_cons (ds_if (dt_not (dt_val (de_isi rfl (by rfl) (M.free 14 rfl) (by rfl) (M.free 17 rfl) (by decide +kernel) (by decide) (de_var (i := 0) rfl (.inl rfl))))) (dss_one (ds_ret de_non)) dss_nil)
  (dss_cons (ds_if (dt_in rfl rfl (de_var (i := 0) rfl (.inl rfl)) (de_glob (by rfl) (M.glo 27 rfl) (show RelV (.ref _) _ from rfl) (fun io G => M.kd 0 0 rfl rfl rfl io G))) (dss_one (ds_ret (de_ixK rfl rfl (de_glob (by rfl) (M.glo 27 rfl) (show RelV (.ref _) _ from rfl) (fun io G => M.kd 0 0 rfl rfl rfl io G)) (de_var (i := 0) rfl (.inl rfl)) (fun _ _ => rfl)))) dss_nil)
  (dss_one (ds_ret (de_if (dt_gt (de_call (ok_bits_up M B) rfl rfl tk gd (hr.mono (by decide)) (by rfl) (da_cons (de_var (i := 0) rfl (.inl rfl)) da_nil) (hlen := (ar_cons ar_nil))) de_int) (de_tup (da_cons de_str (da_cons (de_tup (da_cons de_str da_nil)) da_nil))) de_non)))))
theorem ok_shape_in (M : FactsL T mg) (B : LamsL T mg base) : DefOk T P mg base 3 dd_shape_in ["label", "many"] f_shape_in := by
  obtain ⟨fd, F⟩ := M.def_ 17 (d := dd_shape_in) rfl
  have S : FnScope ["label", "many", "call", "shape", "least"] ["label", "many"] (defScope (top 26)) := ⟨rfl, rfl, rfl, by decide +kernel, rfl, by decide +kernel, by decide +kernel⟩
  have nd := S.nd
  exact def_ok F (M.glo 29 rfl) S (fun _ => fun _ _ _ _ _ _ us hl => match us, hl with | [_, _], _ => rfl) fun cdv hcd A outer s0 H0 E gd hr tk => (dss_cons (ds_set (i := 2) nd rfl (.inl rfl) (de_call (ok_call_of M B) rfl rfl tk gd (hr.mono (by decide)) (by rfl) (da_cons (de_var (i := 0) rfl (.inl rfl)) da_nil) (hlen := (ar_cons ar_nil))))
  (dss_cons (ds_if (dt_is (de_var (i := 2) rfl (.inl rfl)) de_non) (dss_cons (ds_set (i := 3) nd rfl (.inl rfl) (de_call (ok_shape_of M B) rfl rfl tk gd (hr.mono (by decide)) (by rfl) (da_cons (de_var (i := 0) rfl (.inl rfl)) da_nil) (hlen := (ar_cons ar_nil))))
  (dss_one (ds_ret (de_if (dw_and (dt_isnot (de_var (i := 3) rfl (.inl rfl)) de_non) (dw_and1 (dt_eq rfl hr (de_bi call_lenA (p_len rfl) (by rfl) (M.free 1 rfl) (by decide +kernel) (da_cons (de_ixA rfl (de_var (i := 3) rfl (.inl rfl)) de_int (fun _ _ => rfl)) da_nil)) (de_var (i := 1) rfl (.inl rfl))))).pt (de_var (i := 3) rfl (.inl rfl)) de_non)))) dss_nil)
  (dss_cons (ds_set (i := 4) nd rfl (.inl rfl) (de_if (dt_eq rfl hr (de_ixA rfl (de_var (i := 2) rfl (.inl rfl)) de_int (fun _ _ => rfl)) de_str) de_int de_int))
  (dss_cons (ds_if (dt_not (dt_chain op_le op_le pb_B0 p_B0 (de_var (i := 4) rfl (.inl rfl)) (de_var (i := 1) rfl (.inl rfl)) (de_add rfl (de_div (de_var (i := 4) rfl (.inl rfl)) de_int) (de_val (M.val 7 rfl) (by rfl))))) (dss_one (ds_ret de_non)) dss_nil)
  (dss_one (ds_ret (de_tup (da_cons de_str (da_cons (de_repT rfl (de_tup (da_cons de_str da_nil)) (de_var (i := 1) rfl (.inl rfl))) da_nil)))))))))
theorem ok_kind_of_rec (M : FactsL T mg) : ∀ (k : Nat) (P : Program) (base : Heap), LamsL T mg base → DefOk T P mg base (4 + k) dd_kind_of ["value"] (f_kind_of k)
  | 0, P, base, B => by
    obtain ⟨fd, F⟩ := M.def_ 18 (d := dd_kind_of) rfl
    exact def_zero F (M.glo 32 rfl) (fun _ _ _ _ _ _ _ us hl => match us, hl with | [_], _ => rfl)
  | k + 1, P, base, B => by
    have ih := ok_kind_of_rec M k
    obtain ⟨fd, F⟩ := M.def_ 18 (d := dd_kind_of) rfl
    have S : FnScope ["value", "shape", "part", "kind"] ["value"] (defScope (top 28)) := ⟨rfl, rfl, rfl, by decide +kernel, rfl, by decide +kernel, by decide +kernel⟩
    have nd := S.nd
    exact def_ok (m := m_kind_of (f_kind_of k)) (k := 4 + k) F (M.glo 32 rfl) S (fun _ _ _ _ _ _ _ us hl => match us, hl with | [_], _ => rfl) fun cdv hcd A outer s0 H0 E gd hr tk => (dss_cons (ds_if (dw_or (dt_not (dt_val (de_isi2 rfl (by rfl) (M.free 14 rfl) (by rfl) (M.free 15 rfl) (by decide +kernel) (by decide) (by rfl) (M.free 7 rfl) (by decide +kernel) (by decide) (de_var (i := 0) rfl (.inl rfl))))) (dw_or (dt_eq rfl hr (de_bi call_lenA (p_len rfl) (by rfl) (M.free 1 rfl) (by decide +kernel) (da_cons (de_var (i := 0) rfl (.inl rfl)) da_nil)) de_int) (dw_or1 (dt_not (dt_val (de_isi rfl (by rfl) (M.free 14 rfl) (by rfl) (M.free 17 rfl) (by decide +kernel) (by decide) (de_ixA rfl (de_var (i := 0) rfl (.inl rfl)) de_int (fun _ _ => rfl)))))))).pt (dss_one (ds_ret de_non)) dss_nil)
  (dss_cons (ds_if (dt_in rfl rfl (de_ixA rfl (de_var (i := 0) rfl (.inl rfl)) de_int (fun _ _ => rfl)) (de_glob (by rfl) (M.glo 30 rfl) (show RelV (.ref _) _ from rfl) (fun io G => M.kd 1 1 rfl rfl rfl io G))) (dss_one (ds_ret (de_if (dt_val (de_call (ok_is_leaf M B) rfl rfl tk gd (hr.mono (by omega)) (by rfl) (da_cons (de_var (i := 0) rfl (.inl rfl)) da_nil) (hlen := (ar_cons ar_nil)))) (de_ixK rfl rfl (de_glob (by rfl) (M.glo 30 rfl) (show RelV (.ref _) _ from rfl) (fun io G => M.kd 1 1 rfl rfl rfl io G)) (de_ixA rfl (de_var (i := 0) rfl (.inl rfl)) de_int (fun _ _ => rfl)) (fun _ _ => rfl)) de_non))) dss_nil)
  (dss_cons (ds_set (i := 1) nd rfl (.inl rfl) (de_call (ok_shape_in M B) rfl rfl tk gd (hr.mono (by omega)) (by rfl) (da_cons (de_ixA rfl (de_var (i := 0) rfl (.inl rfl)) de_int (fun _ _ => rfl)) (da_cons (de_sub (de_bi call_lenA (p_len rfl) (by rfl) (M.free 1 rfl) (by decide +kernel) (da_cons (de_var (i := 0) rfl (.inl rfl)) da_nil)) de_int) da_nil)) (hlen := (ar_cons (ar_cons ar_nil)))))
  (dss_cons (ds_if (dw_or (dt_is (de_var (i := 1) rfl (.inl rfl)) de_non) (dw_or1 (dt_not (dt_val (de_bi (cr_all rfl) (p_all rfl) (by rfl) (M.free 18 rfl) (by decide +kernel) (da_cons (de_sh (df_comp rfl nd (own := [("part", 2), ("kind", 3)]) (di_zip rfl (by rfl) (M.free 31 rfl) (da_cons (de_sl rfl (de_var (i := 0) rfl (.inl rfl)) (dp_some de_int) dp_none) (da_cons (de_ixA rfl (de_var (i := 1) rfl (.inl rfl)) de_int (fun _ _ => rfl)) da_nil))) (blkOk_of (by rfl)) (by decide) (fun s H C cl fp => (dg_tup (n := 2) rfl rfl (dgs_cons (dg_name (i := 2) nd rfl (.inl rfl)) (dgs_cons (dg_name (i := 3) nd rfl (.inl rfl)) dgs_nil)) rfl tgs_len2)) (fun s H C cl fp => dts_nil) (fun s H C cl fp => (de_eq rfl hr (de_call (ps := ["value"]) (dd := dd_kind_of) (k0 := 4 + k) (F := f_kind_of k) (ih _ _ B) rfl rfl takes0 gd (hr.mono (by omega)) (by rfl) (da_cons (de_var (i := 2) rfl (.inl rfl)) da_nil) (hlen := (ar_cons ar_nil))) (de_var (i := 3) rfl (.inl rfl)))))) da_nil)))))).pt (dss_one (ds_ret de_non)) dss_nil)
  (dss_one (ds_ret (de_ixA rfl (de_var (i := 1) rfl (.inl rfl)) de_int (fun _ _ => rfl))))))))
theorem ok_kind_of (M : FactsL T mg) (B : LamsL T mg base) : DefOk T P mg base 44 dd_kind_of ["value"] (f_kind_of 40) := ok_kind_of_rec M 40 P base B
theorem ok_need_term (M : FactsL T mg) (B : LamsL T mg base) : DefOk T P mg base 45 dd_need_term ["value", "part"] f_need_term := by
  obtain ⟨fd, F⟩ := M.def_ 19 (d := dd_need_term) rfl
  have S : FnScope ["value", "part"] ["value", "part"] (defScope (top 29)) := ⟨rfl, rfl, rfl, by decide +kernel, rfl, by decide +kernel, by decide +kernel⟩
  have nd := S.nd
  exact def_ok F (M.glo 34 rfl) S (fun h => nomatch h) fun cdv hcd A outer s0 H0 E gd hr tk => (dss_cons (ds_if (dt_is (de_call (ok_kind_of M B) rfl rfl tk gd (hr.mono (by decide)) (by rfl) (da_cons (de_var (i := 0) rfl (.inl rfl)) da_nil) (hlen := (ar_cons ar_nil))) de_non) (dss_one (by obtain ⟨fdI, FI, hbI⟩ := init_BadTerm (P := P) (base := base) M; exact ds_raise1 (C := He.ga _ "BadTerm") (M.ca _) (M.ecl 8 rfl).1 (M.ecl 8 rfl).2.1 (M.ecl 8 rfl).2.2.1 FI (hr.mono (by decide)) hbI tk rfl (by rfl) (M.glo 33 rfl) (de_var (i := 1) rfl (.inl rfl)))) dss_nil)
  (dss_one (ds_ret (de_call (ok_fixed M B) rfl rfl tk gd (hr.mono (by decide)) (by rfl) (da_cons (de_var (i := 0) rfl (.inl rfl)) da_nil) (hlen := (ar_cons ar_nil))))))
theorem ok_parts_in (M : FactsL T mg) (B : LamsL T mg base) : DefOk T P mg base 1 dd_parts_in ["term"] f_parts_in := by
  obtain ⟨fd, F⟩ := M.def_ 20 (d := dd_parts_in) rfl
  have S : FnScope ["term"] ["term"] (defScope (top 30)) := ⟨rfl, rfl, rfl, by decide +kernel, rfl, by decide +kernel, by decide +kernel⟩
  have nd := S.nd
  exact def_ok F (M.glo 35 rfl) S (fun _ => fun _ _ _ _ _ _ us hl => match us, hl with | [_], _ => rfl) fun cdv hcd A outer s0 H0 E gd hr tk => (dss_one (ds_ret (de_if (dt_in rfl rfl (de_ixA rfl (de_var (i := 0) rfl (.inl rfl)) de_int (fun _ _ => rfl)) (de_glob (by rfl) (M.glo 30 rfl) (show RelV (.ref _) _ from rfl) (fun io G => M.kd 1 1 rfl rfl rfl io G))) (de_tup da_nil) (de_sl rfl (de_var (i := 0) rfl (.inl rfl)) (dp_some de_int) dp_none))))
theorem ok_spelt_in_rec (M : FactsL T mg) : ∀ (k : Nat) (P : Program) (base : Heap), LamsL T mg base → DefOk T P mg base (2 + k) dd_spelt_in ["term", "label"] (f_spelt_in k)
  | 0, P, base, B => by
    obtain ⟨fd, F⟩ := M.def_ 21 (d := dd_spelt_in) rfl
    exact def_zero F (M.glo 36 rfl) (fun _ _ _ _ _ _ _ us hl => match us, hl with | [_, _], _ => rfl)
  | k + 1, P, base, B => by
    have ih := ok_spelt_in_rec M k
    obtain ⟨fd, F⟩ := M.def_ 21 (d := dd_spelt_in) rfl
    have S : FnScope ["term", "label", "found", "part"] ["term", "label"] (defScope (top 31)) := ⟨rfl, rfl, rfl, by decide +kernel, rfl, by decide +kernel, by decide +kernel⟩
    have nd := S.nd
    exact def_ok (m := m_spelt_in (f_spelt_in k)) (k := 2 + k) F (M.glo 36 rfl) S (fun _ _ _ _ _ _ _ us hl => match us, hl with | [_, _], _ => rfl) fun cdv hcd A outer s0 H0 E gd hr tk => (dss_cons (ds_if (dt_eq rfl hr (de_ixA rfl (de_var (i := 0) rfl (.inl rfl)) de_int (fun _ _ => rfl)) (de_var (i := 1) rfl (.inl rfl))) (dss_one (ds_retF (df_lst (da_cons (de_ixA rfl (de_var (i := 0) rfl (.inl rfl)) de_int (fun _ _ => rfl)) da_nil)))) dss_nil)
  (dss_cons (ds_set (i := 2) nd rfl (.inl rfl) (de_sh (df_lst da_nil)))
  (dss_cons (ds_for (passes_of rfl) rfl (di_seq rfl (de_call (ok_parts_in M B) rfl rfl tk gd (hr.mono (by omega)) (by rfl) (da_cons (de_var (i := 0) rfl (.inl rfl)) da_nil) (hlen := (ar_cons ar_nil)))) (dg_name (i := 3) nd rfl (.inl rfl)) (dss_one (ds_set (i := 2) nd rfl (.inl rfl) (de_add rfl (de_var (i := 2) rfl (.inl rfl)) (de_call (ps := ["term", "label"]) (dd := dd_spelt_in) (k0 := 2 + k) (F := f_spelt_in k) (ih _ _ B) rfl rfl tk gd (hr.mono (by omega)) (by rfl) (da_cons (de_var (i := 3) rfl (.inl rfl)) (da_cons (de_var (i := 1) rfl (.inl rfl)) da_nil)) (hlen := (ar_cons (ar_cons ar_nil))))))))
  (dss_one (ds_ret (de_var (i := 2) rfl (.inl rfl)))))))
theorem ok_spelt_in (M : FactsL T mg) (B : LamsL T mg base) : DefOk T P mg base 42 dd_spelt_in ["term", "label"] (f_spelt_in 40) := ok_spelt_in_rec M 40 P base B
theorem ok_flags_in (M : FactsL T mg) (B : LamsL T mg base) : DefOk T P mg base 46 dd_flags_in ["term"] f_flags_in := by
  obtain ⟨fd, F⟩ := M.def_ 22 (d := dd_flags_in) rfl
  have S : FnScope ["term"] ["term"] (defScope (top 35)) := ⟨rfl, rfl, rfl, by decide +kernel, rfl, by decide +kernel, by decide +kernel⟩
  have nd := S.nd
  exact def_ok F (M.glo 39 rfl) S (fun _ => fun _ _ _ _ _ _ us hl => match us, hl with | [_], _ => rfl) fun cdv hcd A outer s0 H0 E gd hr tk => (dss_one (ds_ret (de_ty (id := "tuple") call_tuple_of (p_tuple rfl) (by rfl) (M.free 7 rfl) (by decide +kernel) (da_cons (de_sortSet rfl rfl (by rfl) (M.free 37 rfl) (by rfl) (M.free 38 rfl) (de_call (ok_spelt_in M B) rfl rfl tk gd (hr.mono (by decide)) (by rfl) (da_cons (de_callK (ps := ["value", "part"]) (n := 1) (ks := []) (idx := [0, 1]) (dz := [.str "term"]) (ok_need_term M B) rfl rfl tk gd (hr.mono (by decide)) (by rfl) (fun _ _ _ _ _ _ _ us its ws h1 h2 h3 => match us, its, ws, h1, h2, h3 with | [_], [_], [], _, _, _ => ⟨fun h => (nomatch h), fun _ => ⟨_, rfl, rfl⟩⟩) (fun _ _ => .cons (.str "term") (.nil)) (da_cons (de_var (i := 0) rfl (.inl rfl)) da_nil) dk_nil (ar_cons ar_nil) ar_nil (fun l hl => match l, hl with | [_, _], _ => rfl) (.inr ⟨_, _, rfl, rfl⟩)) (da_cons de_str da_nil)) (hlen := (ar_cons (ar_cons ar_nil))))) da_nil))))
theorem ok_names_in (M : FactsL T mg) (B : LamsL T mg base) : DefOk T P mg base 46 dd_names_in ["term"] f_names_in := by
  obtain ⟨fd, F⟩ := M.def_ 23 (d := dd_names_in) rfl
  have S : FnScope ["term"] ["term"] (defScope (top 34)) := ⟨rfl, rfl, rfl, by decide +kernel, rfl, by decide +kernel, by decide +kernel⟩
  have nd := S.nd
  exact def_ok F (M.glo 40 rfl) S (fun _ => fun _ _ _ _ _ _ us hl => match us, hl with | [_], _ => rfl) fun cdv hcd A outer s0 H0 E gd hr tk => (dss_one (ds_ret (de_ty (id := "tuple") call_tuple_of (p_tuple rfl) (by rfl) (M.free 7 rfl) (by decide +kernel) (da_cons (de_sortSet rfl rfl (by rfl) (M.free 37 rfl) (by rfl) (M.free 38 rfl) (de_call (ok_spelt_in M B) rfl rfl tk gd (hr.mono (by decide)) (by rfl) (da_cons (de_callK (ps := ["value", "part"]) (n := 1) (ks := []) (idx := [0, 1]) (dz := [.str "term"]) (ok_need_term M B) rfl rfl tk gd (hr.mono (by decide)) (by rfl) (fun _ _ _ _ _ _ _ us its ws h1 h2 h3 => match us, its, ws, h1, h2, h3 with | [_], [_], [], _, _, _ => ⟨fun h => (nomatch h), fun _ => ⟨_, rfl, rfl⟩⟩) (fun _ _ => .cons (.str "term") (.nil)) (da_cons (de_var (i := 0) rfl (.inl rfl)) da_nil) dk_nil (ar_cons ar_nil) ar_nil (fun l hl => match l, hl with | [_, _], _ => rfl) (.inr ⟨_, _, rfl, rfl⟩)) (da_cons de_str da_nil)) (hlen := (ar_cons (ar_cons ar_nil))))) da_nil))))
theorem ok_is_term (M : FactsL T mg) (B : LamsL T mg base) : DefOk T P mg base 45 dd_is_term ["value"] f_is_term := by
  obtain ⟨fd, F⟩ := M.def_ 24 (d := dd_is_term) rfl
  have S : FnScope ["value"] ["value"] (defScope (top 33)) := ⟨rfl, rfl, rfl, by decide +kernel, rfl, by decide +kernel, by decide +kernel⟩
  have nd := S.nd
  exact def_ok F (M.glo 41 rfl) S (fun _ => fun _ _ _ _ _ _ us hl => match us, hl with | [_], _ => rfl) fun cdv hcd A outer s0 H0 E gd hr tk => (dss_one (ds_ret (de_isnot (de_call (ok_kind_of M B) rfl rfl tk gd (hr.mono (by decide)) (by rfl) (da_cons (de_var (i := 0) rfl (.inl rfl)) da_nil) (hlen := (ar_cons ar_nil))) de_non)))
theorem ok_leaves_put_rec (M : FactsL T mg) : ∀ (k : Nat) (P : Program) (base : Heap), LamsL T mg base → DefOk T P mg base (2 + k) dd_leaves_put ["term", "names", "flags"] (f_leaves_put k)
  | 0, P, base, B => by
    obtain ⟨fd, F⟩ := M.def_ 25 (d := dd_leaves_put) rfl
    exact def_zero F (M.glo 42 rfl) (fun _ _ _ _ _ _ _ us hl => match us, hl with | [_, _, _], _ => rfl)
  | k + 1, P, base, B => by
    have ih := ok_leaves_put_rec M k
    obtain ⟨fd, F⟩ := M.def_ 25 (d := dd_leaves_put) rfl
    have S : FnScope ["term", "names", "flags", "part"] ["term", "names", "flags"] (defScope (top 32)) := ⟨rfl, rfl, rfl, by decide +kernel, rfl, by decide +kernel, by decide +kernel⟩
    have nd := S.nd
    exact def_ok (m := m_leaves_put (f_leaves_put k)) (k := 2 + k) F (M.glo 42 rfl) S (fun _ _ _ _ _ _ _ us hl => match us, hl with | [_, _, _], _ => rfl) fun cdv hcd A outer s0 H0 E gd hr tk => (dss_cons (ds_if (dt_eq rfl hr (de_ixA rfl (de_var (i := 0) rfl (.inl rfl)) de_int (fun _ _ => rfl)) de_str) (dss_one (ds_ret (de_get2 hr (de_var (i := 1) rfl (.inr (.inl rfl))) (de_ixA rfl (de_var (i := 0) rfl (.inl rfl)) de_int (fun _ _ => rfl)) (de_var (i := 0) rfl (.inl rfl))))) dss_nil)
  (dss_cons (ds_if (dt_eq rfl hr (de_ixA rfl (de_var (i := 0) rfl (.inl rfl)) de_int (fun _ _ => rfl)) de_str) (dss_one (ds_ret (de_get2 hr (de_var (i := 2) rfl (.inr (.inl rfl))) (de_ixA rfl (de_var (i := 0) rfl (.inl rfl)) de_int (fun _ _ => rfl)) (de_var (i := 0) rfl (.inl rfl))))) dss_nil)
  (dss_one (ds_ret (de_if (dt_ne rfl hr (de_call (ok_parts_in M B) rfl rfl tk gd (hr.mono (by omega)) (by rfl) (da_cons (de_var (i := 0) rfl (.inl rfl)) da_nil) (hlen := (ar_cons ar_nil))) (de_tup da_nil)) (de_tup (da_cons (de_ixA rfl (de_var (i := 0) rfl (.inl rfl)) de_int (fun _ _ => rfl)) (da_star rfl (de_sh (df_comp rfl nd (own := [("part", 3)]) (di_seq rfl (de_call (ok_parts_in M B) rfl rfl tk gd (hr.mono (by omega)) (by rfl) (da_cons (de_var (i := 0) rfl (.inl rfl)) da_nil) (hlen := (ar_cons ar_nil)))) (blkOk_of (by rfl)) (by decide) (fun s H C cl fp => (dg_name (i := 3) nd rfl (.inl rfl))) (fun s H C cl fp => dts_nil) (fun s H C cl fp => (de_call (ps := ["term", "names", "flags"]) (dd := dd_leaves_put) (k0 := 2 + k) (F := f_leaves_put k) (ih _ _ B) rfl rfl takes0 gd (hr.mono (by omega)) (by rfl) (da_cons (de_var (i := 3) rfl (.inl rfl)) (da_cons (de_var (i := 1) rfl (.inr (.inl rfl))) (da_cons (de_var (i := 2) rfl (.inr (.inl rfl))) da_nil))) (hlen := (ar_cons (ar_cons (ar_cons ar_nil)))))))) da_nil))) (de_var (i := 0) rfl (.inl rfl)))))))
theorem ok_leaves_put (M : FactsL T mg) (B : LamsL T mg base) : DefOk T P mg base 42 dd_leaves_put ["term", "names", "flags"] (f_leaves_put 40) := ok_leaves_put_rec M 40 P base B
theorem ok_are_pairs (M : FactsL T mg) (B : LamsL T mg base) : DefOk T P mg base 1 dd_are_pairs ["value"] f_are_pairs := by
  obtain ⟨fd, F⟩ := M.def_ 26 (d := dd_are_pairs) rfl
  have S : FnScope ["value", "part"] ["value"] (defScope (top 7)) := ⟨rfl, rfl, rfl, by decide +kernel, rfl, by decide +kernel, by decide +kernel⟩
  have nd := S.nd
  exact def_ok F (M.glo 43 rfl) S (fun _ => fun _ _ _ _ _ _ us hl => match us, hl with | [_], _ => rfl) fun cdv hcd A outer s0 H0 E gd hr tk => (dss_cons (ds_if (dt_not (dt_val (de_isi2 rfl (by rfl) (M.free 14 rfl) (by rfl) (M.free 15 rfl) (by decide +kernel) (by decide) (by rfl) (M.free 7 rfl) (by decide +kernel) (by decide) (de_var (i := 0) rfl (.inl rfl))))) (dss_one (ds_ret de_bl)) dss_nil)
  (dss_one (ds_ret (de_bi (cr_all rfl) (p_all rfl) (by rfl) (M.free 18 rfl) (by decide +kernel) (da_cons (de_sh (df_comp rfl nd (own := [("part", 1)]) (di_seq rfl (de_var (i := 0) rfl (.inl rfl))) (blkOk_of (by rfl)) (by decide) (fun s H C cl fp => (dg_name (i := 1) nd rfl (.inl rfl))) (fun s H C cl fp => dts_nil) (fun s H C cl fp => (dv_and (de_isi2 rfl (by rfl) (M.free 14 rfl) (by rfl) (M.free 15 rfl) (by decide +kernel) (by decide) (by rfl) (M.free 7 rfl) (by decide +kernel) (by decide) (de_var (i := 1) rfl (.inl rfl))) (dv_one (de_eq rfl hr (de_bi call_lenA (p_len rfl) (by rfl) (M.free 1 rfl) (by decide +kernel) (da_cons (de_var (i := 1) rfl (.inl rfl)) da_nil)) de_int)))))) da_nil)))))
theorem ok_pairs_of (M : FactsL T mg) (B : LamsL T mg base) : DefOk T P mg base 2 dd_pairs_of ["value"] f_pairs_of := by
  obtain ⟨fd, F⟩ := M.def_ 27 (d := dd_pairs_of) rfl
  have S : FnScope ["value", "pairs", "known", "key", "_", "worth", "part"] ["value"] (defScope (top 8)) := ⟨rfl, rfl, rfl, by decide +kernel, rfl, by decide +kernel, by decide +kernel⟩
  have nd := S.nd
  exact def_ok F (M.glo 44 rfl) S (fun _ => fun _ _ _ _ _ _ us hl => match us, hl with | [_], _ => rfl) fun cdv hcd A outer s0 H0 E gd hr tk => (dss_cons (ds_if (dt_val (de_isi rfl (by rfl) (M.free 14 rfl) (by rfl) (M.free 10 rfl) (by decide +kernel) (by decide) (de_var (i := 0) rfl (.inl rfl)))) (dss_one (ds_setItems (i := 1) (j := 0) rfl nd rfl rfl rfl (.inl rfl) rfl (own := [("key", 3), ("worth", 5)]) (blkOk_of (by rfl)) (by decide) (fun io G s H C cl fp => (dg_tup (n := 2) rfl rfl (dgs_cons (dg_name (i := 3) nd rfl (.inl rfl)) (dgs_cons (dg_name (i := 5) nd rfl (.inl rfl)) dgs_nil)) rfl tgs_len2)) (fun io G s H C cl fp => dts_nil) (fun io G s H C cl fp => (de_tup (da_cons (de_var (i := 3) rfl (.inl rfl)) (da_cons (de_var (i := 5) rfl (.inl rfl)) da_nil)))))) (dss_one (ds_if (dt_val (de_call (ok_are_pairs M B) rfl rfl tk gd (hr.mono (by decide)) (by rfl) (da_cons (de_var (i := 0) rfl (.inl rfl)) da_nil) (hlen := (ar_cons ar_nil)))) (dss_one (ds_setComp (f := fun _ => sNx) (i := 1) rfl nd rfl rfl rfl (own := [("part", 6)]) (di_seq rfl (de_var (i := 0) rfl (.inl rfl))) (blkOk_of (by rfl)) (by decide) (fun s H C cl fp => (dg_name (i := 6) nd rfl (.inl rfl))) (fun s H C cl fp => dts_nil) (fun s H C cl fp => (de_tup (da_cons (de_ixA rfl (de_var (i := 6) rfl (.inl rfl)) de_int (fun _ _ => rfl)) (da_cons (de_ixA rfl (de_var (i := 6) rfl (.inl rfl)) de_int (fun _ _ => rfl)) da_nil)))))) (dss_one (ds_ret de_non)))))
  (dss_cons (ds_newD (i := 2) nd rfl (.inl rfl))
  (dss_cons (ds_for (passes_of rfl) rfl (di_seq rfl (de_var (i := 1) rfl (.inl rfl))) (dg_tup (n := 2) rfl rfl (dgs_cons (dg_name (i := 3) nd rfl (.inl rfl)) (dgs_cons (dg_name (i := 4) nd rfl (.inl rfl)) dgs_nil)) rfl tgs_len2) (dss_cons (ds_if (dw_or (dt_not (dw_or (dt_val (de_call (ok_is_integer M B) rfl rfl tk gd (hr.mono (by decide)) (by rfl) (da_cons (de_var (i := 3) rfl (.inl rfl)) da_nil) (hlen := (ar_cons ar_nil)))) (dw_or1 (dt_val (de_isi rfl (by rfl) (M.free 14 rfl) (by rfl) (M.free 17 rfl) (by decide +kernel) (by decide) (de_var (i := 3) rfl (.inl rfl)))))).pt) (dw_or1 (dt_inO (i := 2) hr rfl (.inl rfl) (de_var (i := 3) rfl (.inl rfl))))).pt (dss_one (ds_ret de_non)) dss_nil)
  (dss_one (ds_putO (i := 2) hr rfl (.inl rfl) de_bl (de_var (i := 3) rfl (.inl rfl))))))
  (dss_one (ds_ret (de_ty (id := "tuple") call_tuple_of (p_tuple rfl) (by rfl) (M.free 7 rfl) (by decide +kernel) (da_cons (de_var (i := 1) rfl (.inl rfl)) da_nil)))))))
theorem ok_put_in (M : FactsL T mg) (B : LamsL T mg base) : DefOk T P mg base 46 dd_put_in ["term", "values"] f_put_in := by
  obtain ⟨fd, F⟩ := M.def_ 28 (d := dd_put_in) rfl
  have S : FnScope ["term", "values", "kept", "pairs", "names", "flags", "key", "worth"] ["term", "values"] (defScope (top 36)) := ⟨rfl, rfl, rfl, by decide +kernel, rfl, by decide +kernel, by decide +kernel⟩
  have nd := S.nd
  exact def_ok F (M.glo 46 rfl) S (fun _ => fun _ _ _ _ _ _ us hl => match us, hl with | [_, _], _ => rfl) fun cdv hcd A outer s0 H0 E gd hr tk => (dss_cons (ds_set (i := 2) nd rfl (.inl rfl) (de_callK (ps := ["value", "part"]) (n := 1) (ks := []) (idx := [0, 1]) (dz := [.str "term"]) (ok_need_term M B) rfl rfl tk gd (hr.mono (by decide)) (by rfl) (fun _ _ _ _ _ _ _ us its ws h1 h2 h3 => match us, its, ws, h1, h2, h3 with | [_], [_], [], _, _, _ => ⟨fun h => (nomatch h), fun _ => ⟨_, rfl, rfl⟩⟩) (fun _ _ => .cons (.str "term") (.nil)) (da_cons (de_var (i := 0) rfl (.inl rfl)) da_nil) dk_nil (ar_cons ar_nil) ar_nil (fun l hl => match l, hl with | [_, _], _ => rfl) (.inr ⟨_, _, rfl, rfl⟩)))
  (dss_cons (ds_set (i := 3) nd rfl (.inl rfl) (de_call (ok_pairs_of M B) rfl rfl tk gd (hr.mono (by decide)) (by rfl) (da_cons (de_var (i := 1) rfl (.inl rfl)) da_nil) (hlen := (ar_cons ar_nil))))
  (dss_cons (ds_if (dw_or (dt_is (de_var (i := 3) rfl (.inl rfl)) de_non) (dw_or1 (dt_not (dt_val (de_bi (cr_all rfl) (p_all rfl) (by rfl) (M.free 18 rfl) (by decide +kernel) (da_cons (de_sh (df_comp rfl nd (own := [("key", 6), ("worth", 7)]) (di_seq rfl (de_var (i := 3) rfl (.inl rfl))) (blkOk_of (by rfl)) (by decide) (fun s H C cl fp => (dg_tup (n := 2) rfl rfl (dgs_cons (dg_name (i := 6) nd rfl (.inl rfl)) (dgs_cons (dg_name (i := 7) nd rfl (.inl rfl)) dgs_nil)) rfl tgs_len2)) (fun s H C cl fp => dts_nil) (fun s H C cl fp => (dv_and (de_call (ok_is_spelling M B) rfl rfl takes0 gd (hr.mono (by decide)) (by rfl) (da_cons (de_var (i := 6) rfl (.inl rfl)) da_nil) (hlen := (ar_cons ar_nil))) (dv_one (de_call (ok_is_term M B) rfl rfl takes0 gd (hr.mono (by decide)) (by rfl) (da_cons (de_var (i := 7) rfl (.inl rfl)) da_nil) (hlen := (ar_cons ar_nil)))))))) da_nil)))))).pt (dss_one (by obtain ⟨fdI, FI, hbI⟩ := init_BadInput (P := P) (base := base) M; exact ds_raise1 (C := He.ga _ "BadInput") (M.ca _) (M.ecl 9 rfl).1 (M.ecl 9 rfl).2.1 (M.ecl 9 rfl).2.2.1 FI (hr.mono (by decide)) hbI tk rfl (by rfl) (M.glo 45 rfl) de_str)) dss_nil)
  (dss_cons (ds_set (i := 4) nd rfl (.inl rfl) (de_ty (id := "dict") (call_dictA rfl) (p_dict rfl) (by rfl) (M.free 10 rfl) (by decide +kernel) (da_cons (de_sh (df_comp rfl nd (own := [("key", 6), ("worth", 7)]) (di_seq rfl (de_var (i := 3) rfl (.inl rfl))) (blkOk_of (by rfl)) (by decide) (fun s H C cl fp => (dg_tup (n := 2) rfl rfl (dgs_cons (dg_name (i := 6) nd rfl (.inl rfl)) (dgs_cons (dg_name (i := 7) nd rfl (.inl rfl)) dgs_nil)) rfl tgs_len2)) (fun s H C cl fp => (dts_one (dt_eq rfl hr (de_call (ok_kind_of M B) rfl rfl takes0 gd (hr.mono (by decide)) (by rfl) (da_cons (de_var (i := 7) rfl (.inl rfl)) da_nil) (hlen := (ar_cons ar_nil))) de_str))) (fun s H C cl fp => (de_tup (da_cons (de_var (i := 6) rfl (.inl rfl)) (da_cons (de_call (ok_fixed M B) rfl rfl takes0 gd (hr.mono (by decide)) (by rfl) (da_cons (de_var (i := 7) rfl (.inl rfl)) da_nil) (hlen := (ar_cons ar_nil))) da_nil)))))) da_nil)))
  (dss_cons (ds_set (i := 5) nd rfl (.inl rfl) (de_ty (id := "dict") (call_dictA rfl) (p_dict rfl) (by rfl) (M.free 10 rfl) (by decide +kernel) (da_cons (de_sh (df_comp rfl nd (own := [("key", 6), ("worth", 7)]) (di_seq rfl (de_var (i := 3) rfl (.inl rfl))) (blkOk_of (by rfl)) (by decide) (fun s H C cl fp => (dg_tup (n := 2) rfl rfl (dgs_cons (dg_name (i := 6) nd rfl (.inl rfl)) (dgs_cons (dg_name (i := 7) nd rfl (.inl rfl)) dgs_nil)) rfl tgs_len2)) (fun s H C cl fp => (dts_one (dt_eq rfl hr (de_call (ok_kind_of M B) rfl rfl takes0 gd (hr.mono (by decide)) (by rfl) (da_cons (de_var (i := 7) rfl (.inl rfl)) da_nil) (hlen := (ar_cons ar_nil))) de_str))) (fun s H C cl fp => (de_tup (da_cons (de_var (i := 6) rfl (.inl rfl)) (da_cons (de_call (ok_fixed M B) rfl rfl takes0 gd (hr.mono (by decide)) (by rfl) (da_cons (de_var (i := 7) rfl (.inl rfl)) da_nil) (hlen := (ar_cons ar_nil))) da_nil)))))) da_nil)))
  (dss_one (ds_ret (de_call (ok_leaves_put M B) rfl rfl tk gd (hr.mono (by decide)) (by rfl) (da_cons (de_var (i := 2) rfl (.inl rfl)) (da_cons (de_var (i := 4) rfl (.inl rfl)) (da_cons (de_var (i := 5) rfl (.inl rfl)) da_nil))) (hlen := (ar_cons (ar_cons (ar_cons ar_nil))))))))))))
theorem ok__law_put_right (M : FactsL T mg) (B : LamsL T mg base) : DefOk T P mg base 47 dd__law_put_right ["_law_loam_here", "_law_term"] f__law_put_right := by
  obtain ⟨fd, F⟩ := M.def_ 29 (d := dd__law_put_right) rfl
  have S : FnScope ["_law_loam_here", "_law_term", "_law_pairs", "_law_words", "_law_truths", "_law_due", "_law_before", "_law_told_here", "_law_more", "_law_others", "_law_tests", "_law_itself", "_law_alone", "_law_pair", "_law_each", "_law_spelt_here"] ["_law_loam_here", "_law_term"] (defScope (top 47)) := ⟨rfl, rfl, rfl, by decide +kernel, rfl, by decide +kernel, by decide +kernel⟩
  have nd := S.nd
  exact def_ok F (M.glo 48 rfl) S (fun _ => fun _ _ _ _ _ _ us hl => match us, hl with | [_, _], _ => rfl) fun cdv hcd A outer s0 H0 E gd hr tk => (dss_cons (ds_set (i := 2) nd rfl (.inl rfl) (de_call (ok__law_told M B) rfl rfl tk gd (hr.mono (by decide)) (by rfl) (da_cons (de_var (i := 0) rfl (.inl rfl)) da_nil) (hlen := (ar_cons ar_nil))))
  (dss_cons (ds_asg (de_call (ok__law_parted M B) rfl rfl tk gd (hr.mono (by decide)) (by rfl) (da_cons (de_var (i := 2) rfl (.inl rfl)) da_nil) (hlen := (ar_cons ar_nil))) (dg_lst (n := 2) rfl rfl (dgs_cons (dg_name (i := 3) nd rfl (.inl rfl)) (dgs_cons (dg_name (i := 4) nd rfl (.inl rfl)) dgs_nil)) rfl tgs_len2))
  (dss_cons (ds_asg (de_tup (da_cons (de_bi (call_reprA gd hr) (p_repr rfl) (by rfl) (M.free 47 rfl) (by decide +kernel) (da_cons (de_call (ok__law_put M B) rfl rfl tk gd (hr.mono (by decide)) (by rfl) (da_cons (de_var (i := 1) rfl (.inl rfl)) (da_cons (de_var (i := 3) rfl (.inl rfl)) (da_cons (de_var (i := 4) rfl (.inl rfl)) da_nil))) (hlen := (ar_cons (ar_cons (ar_cons ar_nil))))) da_nil)) (da_cons (de_bi (call_reprA gd hr) (p_repr rfl) (by rfl) (M.free 47 rfl) (by decide +kernel) (da_cons (de_var (i := 2) rfl (.inl rfl)) da_nil)) da_nil))) (dg_tup (n := 2) rfl rfl (dgs_cons (dg_name (i := 5) nd rfl (.inr rfl)) (dgs_cons (dg_name (i := 6) nd rfl (.inl rfl)) dgs_nil)) rfl tgs_len2))
  (dss_cons (ds_set (i := 7) nd rfl (.inl rfl) (de_sh (df_lst (da_cons (de_call (ok_put_in M B) rfl rfl tk gd (hr.mono (by decide)) (by rfl) (da_cons (de_var (i := 1) rfl (.inl rfl)) (da_cons (de_var (i := 2) rfl (.inl rfl)) da_nil)) (hlen := (ar_cons (ar_cons ar_nil)))) (da_cons (de_callK (ps := ["term", "values"]) (n := 0) (ks := ["values", "term"]) (idx := [1, 0]) (dz := []) (ok_put_in M B) rfl rfl tk gd (hr.mono (by decide)) (by rfl) (fun _ _ _ _ _ _ _ us its ws h1 h2 h3 => match us, its, ws, h1, h2, h3 with | [], [], [_, _], _, _, _ => ⟨fun _ => rfl, fun h => absurd rfl h⟩) (fun _ _ => .nil) da_nil (dk_cons (de_ty (id := "dict") (call_dictA rfl) (p_dict rfl) (by rfl) (M.free 10 rfl) (by decide +kernel) (da_cons (de_revL rfl (de_var (i := 2) rfl (.inl rfl))) da_nil)) (dk_cons (de_var (i := 1) rfl (.inl rfl)) dk_nil)) ar_nil (ar_cons (ar_cons ar_nil)) (fun l hl => match l, hl with | [_, _], _ => rfl) (.inl ⟨rfl, rfl⟩)) (da_cons (de_call (ok_put_in M B) rfl rfl tk gd (hr.mono (by decide)) (by rfl) (da_cons (de_var (i := 1) rfl (.inl rfl)) (da_cons (de_ty (id := "tuple") call_tuple_of (p_tuple rfl) (by rfl) (M.free 7 rfl) (by decide +kernel) (da_cons (de_sh (df_comp rfl nd (own := [("_law_pair", 13)]) (di_seq rfl (de_revL rfl (de_var (i := 2) rfl (.inl rfl)))) (blkOk_of (by rfl)) (by decide) (fun s H C cl fp => (dg_name (i := 13) nd rfl (.inl rfl))) (fun s H C cl fp => dts_nil) (fun s H C cl fp => (de_ty (id := "list") call_list_of (p_list rfl) (by rfl) (M.free 15 rfl) (by decide +kernel) (da_cons (de_var (i := 13) rfl (.inl rfl)) da_nil))))) da_nil)) da_nil)) (hlen := (ar_cons (ar_cons ar_nil)))) da_nil))))))
  (dss_cons (ds_if (dw_or (dt_ne rfl hr (de_sh (df_comp rfl nd (own := [("_law_each", 14)]) (di_seq rfl (de_var (i := 7) rfl (.inl rfl))) (blkOk_of (by rfl)) (by decide) (fun s H C cl fp => (dg_name (i := 14) nd rfl (.inl rfl))) (fun s H C cl fp => (dts_one (dt_ne rfl hr (de_bi (call_reprA gd hr) (p_repr rfl) (by rfl) (M.free 47 rfl) (by decide +kernel) (da_cons (de_var (i := 14) rfl (.inl rfl)) da_nil)) (de_var (i := 5) rfl (.inr (.inl rfl)))))) (fun s H C cl fp => (de_var (i := 14) rfl (.inl rfl))))) (de_sh (df_lst da_nil))) (dw_or1 (dt_ne rfl hr (de_bi (call_reprA gd hr) (p_repr rfl) (by rfl) (M.free 47 rfl) (by decide +kernel) (da_cons (de_var (i := 2) rfl (.inl rfl)) da_nil)) (de_var (i := 6) rfl (.inl rfl))))).pt (dss_one (ds_ret de_bl)) dss_nil)
  (dss_cons (ds_set (i := 8) nd rfl (.inl rfl) (de_call (ok__law_told M B) rfl rfl tk gd (hr.mono (by decide)) (by rfl) (da_cons (de_var (i := 0) rfl (.inl rfl)) da_nil) (hlen := (ar_cons ar_nil))))
  (dss_cons (ds_asg (de_call (ok__law_parted M B) rfl rfl tk gd (hr.mono (by decide)) (by rfl) (da_cons (de_var (i := 8) rfl (.inl rfl)) da_nil) (hlen := (ar_cons ar_nil))) (dg_lst (n := 2) rfl rfl (dgs_cons (dg_name (i := 9) nd rfl (.inl rfl)) (dgs_cons (dg_name (i := 10) nd rfl (.inl rfl)) dgs_nil)) rfl tgs_len2))
  (dss_cons (ds_if (dt_ne rfl hr (de_bi (call_reprA gd hr) (p_repr rfl) (by rfl) (M.free 47 rfl) (by decide +kernel) (da_cons (de_call (ok_put_in M B) rfl rfl tk gd (hr.mono (by decide)) (by rfl) (da_cons (de_ixA rfl (de_var (i := 7) rfl (.inl rfl)) de_int (fun _ _ => rfl)) (da_cons (de_var (i := 8) rfl (.inl rfl)) da_nil)) (hlen := (ar_cons (ar_cons ar_nil)))) da_nil)) (de_bi (call_reprA gd hr) (p_repr rfl) (by rfl) (M.free 47 rfl) (by decide +kernel) (da_cons (de_call (ok__law_put M B) rfl rfl tk gd (hr.mono (by decide)) (by rfl) (da_cons (de_call (ok__law_put M B) rfl rfl tk gd (hr.mono (by decide)) (by rfl) (da_cons (de_var (i := 1) rfl (.inl rfl)) (da_cons (de_var (i := 3) rfl (.inl rfl)) (da_cons (de_var (i := 4) rfl (.inl rfl)) da_nil))) (hlen := (ar_cons (ar_cons (ar_cons ar_nil))))) (da_cons (de_var (i := 9) rfl (.inl rfl)) (da_cons (de_var (i := 10) rfl (.inl rfl)) da_nil))) (hlen := (ar_cons (ar_cons (ar_cons ar_nil))))) da_nil))) (dss_one (ds_ret de_bl)) dss_nil)
  (dss_cons (ds_setComp (f := fun _ => sNx) (i := 11) rfl nd rfl rfl rfl (own := [("_law_spelt_here", 15)]) (di_seq rfl (de_call (ok_names_in M B) rfl rfl tk gd (hr.mono (by decide)) (by rfl) (da_cons (de_var (i := 1) rfl (.inl rfl)) da_nil) (hlen := (ar_cons ar_nil)))) (blkOk_of (by rfl)) (by decide) (fun s H C cl fp => (dg_name (i := 15) nd rfl (.inl rfl))) (fun s H C cl fp => dts_nil) (fun s H C cl fp => (de_tup (da_cons (de_var (i := 15) rfl (.inl rfl)) (da_cons (de_tup (da_cons de_str (da_cons (de_var (i := 15) rfl (.inl rfl)) da_nil))) da_nil)))))
  (dss_cons (ds_setComp (f := fun _ => sNx) (i := 12) rfl nd rfl rfl rfl (own := [("_law_spelt_here", 15)]) (di_seq rfl (de_call (ok_flags_in M B) rfl rfl tk gd (hr.mono (by decide)) (by rfl) (da_cons (de_var (i := 1) rfl (.inl rfl)) da_nil) (hlen := (ar_cons ar_nil)))) (blkOk_of (by rfl)) (by decide) (fun s H C cl fp => (dg_name (i := 15) nd rfl (.inl rfl))) (fun s H C cl fp => dts_nil) (fun s H C cl fp => (de_tup (da_cons (de_var (i := 15) rfl (.inl rfl)) (da_cons (de_tup (da_cons de_str (da_cons (de_var (i := 15) rfl (.inl rfl)) da_nil))) da_nil)))))
  (dss_one (ds_ret (de_eq rfl hr (de_bi (call_reprA gd hr) (p_repr rfl) (by rfl) (M.free 47 rfl) (by decide +kernel) (da_cons (de_sh (df_lst (da_cons (de_call (ok_put_in M B) rfl rfl tk gd (hr.mono (by decide)) (by rfl) (da_cons (de_var (i := 1) rfl (.inl rfl)) (da_cons (de_var (i := 11) rfl (.inl rfl)) da_nil)) (hlen := (ar_cons (ar_cons ar_nil)))) (da_cons (de_call (ok_put_in M B) rfl rfl tk gd (hr.mono (by decide)) (by rfl) (da_cons (de_var (i := 1) rfl (.inl rfl)) (da_cons (de_ty (id := "dict") (call_dictA rfl) (p_dict rfl) (by rfl) (M.free 10 rfl) (by decide +kernel) (da_cons (de_var (i := 12) rfl (.inl rfl)) da_nil)) da_nil)) (hlen := (ar_cons (ar_cons ar_nil)))) (da_cons (de_call (ok_put_in M B) rfl rfl tk gd (hr.mono (by decide)) (by rfl) (da_cons (de_var (i := 1) rfl (.inl rfl)) (da_cons (de_sh (df_lst da_nil)) da_nil)) (hlen := (ar_cons (ar_cons ar_nil)))) (da_cons (de_call (ok_put_in M B) rfl rfl tk gd (hr.mono (by decide)) (by rfl) (da_cons (de_var (i := 1) rfl (.inl rfl)) (da_cons de_dic0 da_nil)) (hlen := (ar_cons (ar_cons ar_nil)))) da_nil)))))) da_nil)) (de_bi (call_reprA gd hr) (p_repr rfl) (by rfl) (M.free 47 rfl) (by decide +kernel) (da_cons (de_sh (df_rep (df_lst (da_cons (de_var (i := 1) rfl (.inl rfl)) da_nil)) de_int)) da_nil)))))))))))))))
theorem ok__law_heard (M : FactsL T mg) (B : LamsL T mg base) : LamOk T P mg base "_law_heard" ["_law_ask"] 0 f__law_heard := by
  obtain ⟨fd, F⟩ := M.def_ 30 (d := dd__law_heard) rfl
  have S : FnScope ["_law_ask", "_law_caught", "error"] ["_law_ask"] (defScope (top 46)) := ⟨rfl, rfl, rfl, by decide +kernel, rfl, by decide +kernel, by decide +kernel⟩
  have nd := S.nd
  exact lam_ok (m := m__law_heard) F (M.glo 50 rfl) S (by decide) (fun _ _ _ _ _ _ us hl => match us, hl with | [_], _ => rfl) fun cdv A outer s0 H0 E f io G kl th gd hr act tk => by
    have M : FactsL (T.at_ io G f) mg := ⟨M.ca, M.x⟩
    exact (dss_cons (ds_set (i := 1) nd rfl (.inl rfl) de_non)
  (dss_cons (ds_try (i := 2) (j := 1) (subs := [("BadTerm", true), ("BadInput", true)]) rfl rfl rfl nd rfl rfl rfl rfl rfl rfl (by decide) rfl (by rfl) (by decide) (M.glo 49 rfl) tk (fun c b e => ((M.tree 10 rfl).2 c b e).2) (fun W1 pn xe tk po => (de_ask (i := 0) act rfl rfl (.inl rfl) gd (hr.mono (by omega)) tk da_nil ar_nil (hsp := (.inl rfl)))) (fun _ _ => rfl) (fun _ _ => rfl))
  (dss_cons (ds_if (dt_val (de_isx (tbl := [("BadTerm", true), ("BadInput", false)]) rfl (by rfl) (M.free 14 rfl) (by rfl) (M.glo 33 rfl) (M.tree 11 rfl).1 (fun c b e => ((M.tree 11 rfl).2 c b e).1) (de_var (i := 1) rfl (.inl rfl)))) (dss_one (ds_retF (df_lst (da_cons de_str (da_cons (de_fld rfl (M.fld 12 rfl) (de_var (i := 1) rfl (.inl rfl))) da_nil))))) dss_nil)
  (dss_cons (ds_if (dt_val (de_isx (tbl := [("BadTerm", false), ("BadInput", true)]) rfl (by rfl) (M.free 14 rfl) (by rfl) (M.glo 45 rfl) (M.tree 13 rfl).1 (fun c b e => ((M.tree 13 rfl).2 c b e).1) (de_var (i := 1) rfl (.inl rfl)))) (dss_one (ds_retF (df_lst (da_cons de_str (da_cons (de_fld rfl (M.fld 12 rfl) (de_var (i := 1) rfl (.inl rfl))) da_nil))))) dss_nil)
  (dss_one (ds_ret (de_if (dt_is (de_var (i := 1) rfl (.inl rfl)) de_non) de_non (de_sh (df_lst (da_cons de_str (da_cons de_str da_nil)))))))))))
theorem ok__law_refused_right (M : FactsL T mg) (B : LamsL T mg base) : DefOk T P mg base 51 dd__law_refused_right ["_law_loam_here", "_law_term"] f__law_refused_right := by
  obtain ⟨fd, F⟩ := M.def_ 31 (d := dd__law_refused_right) rfl
  have S : FnScope ["_law_loam_here", "_law_term", "_law_word", "_law_odds", "_law_odd", "_law_none", "_law_heard_here"] ["_law_loam_here", "_law_term"] (defScope (top 48)) := ⟨rfl, rfl, rfl, by decide +kernel, rfl, by decide +kernel, by decide +kernel⟩
  have nd := S.nd
  exact def_ok F (M.glo 51 rfl) S (fun _ => fun _ _ _ _ _ _ us hl => match us, hl with | [_, _], _ => rfl) fun cdv hcd A outer s0 H0 E gd hr tk => (dss_cons (ds_set (i := 2) nd rfl (.inl rfl) (de_call (ok__law_drawn M B) rfl rfl tk gd (hr.mono (by decide)) (by rfl) (da_cons (de_var (i := 0) rfl (.inl rfl)) (da_cons de_str (da_cons de_int da_nil))) (hlen := (ar_cons (ar_cons (ar_cons ar_nil))))))
  (dss_cons (ds_set (i := 3) nd rfl (.inl rfl) (de_sh (df_lst (da_cons de_non (da_cons de_int (da_cons de_str (da_cons (de_sh (df_lst (da_cons de_non da_nil))) (da_cons (de_sh (df_lst (da_cons (de_tup (da_cons de_str da_nil)) da_nil))) (da_cons (de_sh (df_lst (da_cons (de_tup (da_cons de_str (da_cons (de_var (i := 2) rfl (.inl rfl)) (da_cons (de_var (i := 2) rfl (.inl rfl)) da_nil)))) da_nil))) (da_cons (de_sh (df_lst (da_cons (de_tup (da_cons de_str (da_cons (de_var (i := 2) rfl (.inl rfl)) da_nil))) (da_cons (de_tup (da_cons de_str (da_cons (de_var (i := 2) rfl (.inl rfl)) da_nil))) da_nil)))) (da_cons (de_sh (df_lst (da_cons (de_tup (da_cons de_str (da_cons de_int da_nil))) da_nil))) (da_cons (de_sh (df_lst (da_cons (de_tup (da_cons de_int (da_cons (de_var (i := 2) rfl (.inl rfl)) da_nil))) da_nil))) (da_cons (de_sh (df_lst (da_cons (de_tup (da_cons de_str (da_cons (de_var (i := 2) rfl (.inl rfl)) da_nil))) da_nil))) da_nil)))))))))))))
  (dss_cons (ds_set (i := 3) nd rfl (.inl rfl) (de_add rfl (de_var (i := 3) rfl (.inl rfl)) (de_sh (df_lst (da_cons (de_disp (dp_cons de_int dp_nil) (by decide) (by simp) (by decide)) (da_cons (de_dispK (dq_cons (k := (.inl 1)) pe_int (de_var (i := 2) rfl (.inl rfl)) dq_nil) (by decide) (by simp) (by decide)) (da_cons (de_disp (dp_cons (de_var (i := 2) rfl (.inl rfl)) dp_nil) (by decide) (by simp) (by decide)) (da_cons (de_sh (df_lst (da_cons (de_tup (da_cons de_str (da_cons (de_tup (da_cons de_str (da_cons (de_var (i := 2) rfl (.inl rfl)) da_nil))) da_nil))) da_nil))) (da_cons (de_sh (df_lst (da_cons (de_sh (df_lst (da_cons de_str (da_cons (de_var (i := 2) rfl (.inl rfl)) da_nil)))) (da_cons (de_tup (da_cons de_str (da_cons de_non da_nil))) da_nil)))) (da_cons (de_sh (df_lst (da_cons (de_tup (da_cons de_str (da_cons (de_var (i := 2) rfl (.inl rfl)) da_nil))) da_nil))) (da_cons de_bl (da_cons (de_sh (df_lst (da_cons de_str da_nil))) da_nil))))))))))))
  (dss_cons (ds_asg (de_tup (da_cons (de_call (ok__law_one_of M B) rfl rfl tk gd (hr.mono (by decide)) (by rfl) (da_cons (de_var (i := 0) rfl (.inl rfl)) (da_cons (de_var (i := 3) rfl (.inl rfl)) da_nil)) (hlen := (ar_cons (ar_cons ar_nil)))) (da_cons (de_call (ok__law_one_of M B) rfl rfl tk gd (hr.mono (by decide)) (by rfl) (da_cons (de_var (i := 0) rfl (.inl rfl)) (da_cons (de_sh (df_lst (da_cons de_non (da_cons de_int (da_cons de_str (da_cons (de_sh (df_lst da_nil)) (da_cons (de_tup (da_cons de_str (da_cons (de_tup (da_cons de_str (da_cons de_str da_nil))) da_nil))) da_nil))))))) da_nil)) (hlen := (ar_cons (ar_cons ar_nil)))) da_nil))) (dg_tup (n := 2) rfl rfl (dgs_cons (dg_name (i := 4) nd rfl (.inr rfl)) (dgs_cons (dg_name (i := 5) nd rfl (.inr rfl)) dgs_nil)) rfl tgs_len2))
  (dss_cons (ds_own (i := 6) nd rfl (.inl rfl) (df_lst (da_cons (de_lam (ps := ["_law_ask"]) (kl := 47) (lps := []) (ms := []) (ok__law_heard M B) rfl rfl tk gd (hr.mono (by decide)) (by rfl) (B.tab 0 rfl) hcd.is (B.mem 0 rfl rfl) (B.un 0 rfl rfl) rfl dfl_nil (fun _ _ => .nil) (lamP_by (by rfl)) (fun _ _ _ _ _ us its h1 h2 => match us, its, h1, h2 with | [], [], _, _ => ⟨fun _ => rfl, fun _ => ⟨_, rfl, rfl⟩⟩) rfl (fun A outer s1 HZ E f c1 gd hr tk => (de_call (ok_put_in M B) rfl rfl tk gd (hr.mono (by decide)) (by rfl) (da_cons (de_var (i := 1) rfl (.inr (.inr rfl))) (da_cons (de_var (i := 4) rfl (.inr (.inr rfl))) da_nil)) (hlen := (ar_cons (ar_cons ar_nil)))))) da_nil)))
  (dss_cons (ds_app (i := 6) rfl rfl (.inl rfl) (de_lam (ps := ["_law_ask"]) (kl := 47) (lps := []) (ms := []) (ok__law_heard M B) rfl rfl tk gd (hr.mono (by decide)) (by rfl) (B.tab 0 rfl) hcd.is (B.mem 0 rfl rfl) (B.un 0 rfl rfl) rfl dfl_nil (fun _ _ => .nil) (lamP_by (by rfl)) (fun _ _ _ _ _ us its h1 h2 => match us, its, h1, h2 with | [], [], _, _ => ⟨fun _ => rfl, fun _ => ⟨_, rfl, rfl⟩⟩) rfl (fun A outer s1 HZ E f c1 gd hr tk => (de_call (ok_put_in M B) rfl rfl tk gd (hr.mono (by decide)) (by rfl) (da_cons (de_var (i := 5) rfl (.inr (.inr rfl))) (da_cons (de_var (i := 4) rfl (.inr (.inr rfl))) da_nil)) (hlen := (ar_cons (ar_cons ar_nil)))))))
  (dss_cons (ds_app (i := 6) rfl rfl (.inl rfl) (de_lam (ps := ["_law_ask"]) (kl := 47) (lps := []) (ms := []) (ok__law_heard M B) rfl rfl tk gd (hr.mono (by decide)) (by rfl) (B.tab 0 rfl) hcd.is (B.mem 0 rfl rfl) (B.un 0 rfl rfl) rfl dfl_nil (fun _ _ => .nil) (lamP_by (by rfl)) (fun _ _ _ _ _ us its h1 h2 => match us, its, h1, h2 with | [], [], _, _ => ⟨fun _ => rfl, fun _ => ⟨_, rfl, rfl⟩⟩) rfl (fun A outer s1 HZ E f c1 gd hr tk => (de_call (ok_put_in M B) rfl rfl tk gd (hr.mono (by decide)) (by rfl) (da_cons (de_var (i := 5) rfl (.inr (.inr rfl))) (da_cons de_dic0 da_nil)) (hlen := (ar_cons (ar_cons ar_nil)))))))
  (dss_one (ds_ret (de_eq rfl hr (de_var (i := 6) rfl (.inl rfl)) (de_sh (df_lst (da_cons (de_sh (df_lst (da_cons de_str (da_cons de_str da_nil)))) (da_cons (de_sh (df_lst (da_cons de_str (da_cons de_str da_nil)))) (da_cons (de_sh (df_lst (da_cons de_str (da_cons de_str da_nil)))) da_nil)))))))))))))))
theorem fnG_law {fd : FuncData} (M : FactsL T mg) (B : LamsL T mg base) (F : FunD T.K dd_law.name dd_law.qual dd_law.params dd_law.body dd_law.scope (dd_law.dvs T.K) (dd_law.kws T.K) (He.fAd T.K dd_law.at_) fd) : FnG P T.w T.K mg base (L2.CX P T.w) 52 (He.fAd T.K dd_law.at_) fd ["_law_script"] (spD T 1 f_law) := by
  have S : FnScope ["_law_script", "_law_loam_here", "_law_turn", "_law_term"] ["_law_script"] (defScope (top 49)) := ⟨rfl, rfl, rfl, by decide +kernel, rfl, by decide +kernel, by decide +kernel⟩
  have nd := S.nd
  exact def_okG F S fun cdv hcd A outer s0 H0 E gd hr tk => (dss_cons (ds_box (i := 1) nd rfl (.inl rfl) (df_call (ok__law_loam M B) rfl rfl tk gd (hr.mono (by decide)) (by rfl) (da_cons (de_var (i := 0) rfl (.inl rfl)) da_nil) (hlen := (ar_cons ar_nil))))
  (dss_cons (ds_for (passes_of rfl) rfl (di_rng1 (by rfl) (M.free 6 rfl) (da_cons de_int da_nil)) (dg_name (i := 2) nd rfl (.inl rfl)) (dss_cons (ds_set (i := 3) nd rfl (.inl rfl) (de_call (ok__law_drawn M B) rfl rfl tk gd (hr.mono (by decide)) (by rfl) (da_cons (de_var (i := 1) rfl (.inl rfl)) (da_cons (de_call (ok__law_one_of M B) rfl rfl tk gd (hr.mono (by decide)) (by rfl) (da_cons (de_var (i := 1) rfl (.inl rfl)) (da_cons (de_sh (df_lst (da_cons de_str (da_cons de_str da_nil)))) da_nil)) (hlen := (ar_cons (ar_cons ar_nil)))) (da_cons (de_call (ok__law_seed M B) rfl rfl tk gd (hr.mono (by decide)) (by rfl) (da_cons (de_var (i := 1) rfl (.inl rfl)) (da_cons de_int da_nil)) (hlen := (ar_cons (ar_cons ar_nil)))) da_nil))) (hlen := (ar_cons (ar_cons (ar_cons ar_nil))))))
  (dss_one (ds_if (dw_or (dt_not (dt_val (de_call (ok__law_put_right M B) rfl rfl tk gd (hr.mono (by decide)) (by rfl) (da_cons (de_var (i := 1) rfl (.inl rfl)) (da_cons (de_var (i := 3) rfl (.inl rfl)) da_nil)) (hlen := (ar_cons (ar_cons ar_nil)))))) (dw_or1 (dt_not (dt_val (de_call (ok__law_refused_right M B) rfl rfl tk gd (hr.mono (by decide)) (by rfl) (da_cons (de_var (i := 1) rfl (.inl rfl)) (da_cons (de_var (i := 3) rfl (.inl rfl)) da_nil)) (hlen := (ar_cons (ar_cons ar_nil)))))))).pt (dss_one (ds_ret de_bl)) dss_nil))))
  (dss_one (ds_ret de_bl))))
end

def loose0 : List Str := ["is_integer", "is_within", "are_pairs", "pairs_of", "fixed", "bits_up", "shape_of", "is_spelling", "is_name", "call_of", "shape_in", "is_leaf", "kind_of", "need_term", "parts_in", "spelt_in", "leaves_put", "is_term", "names_in", "flags_in", "put_in", "_law_loam", "_law_seed", "_law_one_of", "_law_spelt", "_law_drawn", "_law_put", "_law_told", "_law_parted", "_law_heard"]
def loose1 : List Str := ["_law_put_right", "_law_refused_right", "EqualError", "BadTerm", "BadInput", "SHAPES", "MOST_NUMBER", "MOST_PARTS", "LETTERS", "FIGURES", "INDEXES", "TRUTHS", "LEAF_KINDS"]
def loose : List Str := loose0 ++ loose1
abbrev Rw : PySem.W.OpenRow := PySem.W.OpenLaw.row PySem.Challenge.rw_leastequal_k05_terms_put_in
abbrev hk : PySem.W.Hook := He.hookX 6 fa fn ts tf (exOf cs)
def ob (s : PySem.W.SharedT) : He.AlX := He.obsX 6 fa fn ts tf (exOf cs) (HandSHeadRun.getT s)
theorem ob_eq (s : PySem.W.SharedT) : ob s = hk.obs s.abs := He.obsX_eq (HandSHeadRun.getT_eq s)
theorem run_false (w : World) : HandSHeadRun.RunEq Rw (PySem.W.view Rw.prog [49]) hk ob 20000 loose (w.withFollow "special-get-raises" false) := by
  intro os
  kernel_rfl
theorem run_true (w : World) : HandSHeadRun.RunEq Rw (PySem.W.view Rw.prog [49]) hk ob 20000 loose (w.withFollow "special-get-raises" true) := by
  intro os
  kernel_rfl
theorem run_top (w : World) : HandSHeadRun.RunEq Rw (PySem.W.view Rw.prog [49]) hk ob 20000 loose w := PySem.W.byRow2 "special-get-raises" (P := fun w => HandSHeadRun.RunEq Rw (PySem.W.view Rw.prog [49]) hk ob 20000 loose w) run_false run_true w
theorem facts_of (w : World) (mg : Str → Option Value) (fv : Addr) (h : Heap) (Y : hk.says w h) (G : h.Ns mainGlobals mg) (hmg : mg "law" = some (.ref fv)) :
    ∃ (K : PySem.W.Frag) (ca : Str → Addr) (fd : FuncData) (cs : List (Addr × Addr)) (tb : List (Addr × Str)), K.In h ∧ (∀ (s : Shared) (u : Value), BindsTo s fd ⟨[u], []⟩ [("_law_script", u)]) ∧ TabE K h cs ∧ (∀ p ∈ tb, p.1 ∈ cs.map (·.2)) ∧
      ∀ (P : Program) (base : Heap), K.In base → base.Ns mainGlobals mg → TabsAt base mg cs → FnG P w K mg base (L2.CX P w) 52 fv fd ["_law_script"] (spD { K := K, w := w, ca := ca, tb := tb } 1 f_law) := by
  obtain ⟨K, KX, c⟩ := Y
  have M : FactsL { K := K, w := w, ca := fun c => He.ga K c, tb := (tf.zip tq).map fun p => ((He.cT K p.1).2, p.2) } mg := ⟨fun _ => rfl, h, KX, G, c⟩
  obtain ⟨fd, F⟩ := M.def_ 32 (d := dd_law) rfl
  have e := hmg.symm.trans (M.glo 52 rfl)
  cases e
  have b := FunD.bindsA (ps := ["_law_script"]) F fun _ _ _ _ _ _ us hl => match us, hl with | [_], _ => rfl
  refine ⟨K, fun c => He.ga K c, fd, _, _, KX, fun s v => b s [v] rfl, tabE_of KX c, tb_in (tq := tq), fun P base _ _ at_ => ?_⟩
  exact fnG_law (P := P) (base := base) M (lams_of c.more 14 rfl at_) F

local macro_rules | `(tactic| walk_at "ev") => `(tactic| first
  | with_reducible refine We.c ?_
  | ((with_reducible apply We.var); (· rfl))
  | ((with_reducible apply We.varO); (· rfl))
  | with_reducible refine We.m2 ?_
  | with_reducible refine We.m1 ?_
  | with_reducible refine We.mL ?_
  | with_reducible refine We.mT ?_
  | with_reducible refine XB.bl ?_
  | ((with_reducible apply XB.st); (· rfl))
  | with_reducible refine We.cons ?_
  | with_reducible refine We.nil ?_
  | with_reducible refine We.mIf ?_
  | with_reducible refine We.mAnd ?_
  | with_reducible refine We.mOr ?_
  | with_reducible refine We.mNot ?_
  | with_reducible refine We.mAndV ?_
  | with_reducible refine We.mOrV ?_
  | with_reducible refine We.mNotV ?_
  | with_reducible refine We.chain ?_
  | with_reducible refine We.sh ?_
  | with_reducible refine We.call ?_
  | with_reducible refine We.ix ?_
  | ((with_reducible apply We.ixL); (· rfl))
  | ((with_reducible apply We.ixT); (· rfl))
  | ((with_reducible apply We.ixB); (· rfl); (· rfl))
  | with_reducible refine We.mRng ?_
  | (with_reducible refine We.mItems ?_)
  | with_reducible refine Ws.seq (m := sSet _ _) ?_
  | with_reducible refine Ws.seq (m := sOwn _ _) ?_
  | with_reducible refine Ws.seq (m := sDrop _) ?_
  | with_reducible refine Ws.seq (m := sPar _ _ _) ?_
  | with_reducible refine Ws.seq (m := sSetB _ _ _) ?_
  | with_reducible refine Ws.seq (m := sSetO _ _ _) ?_
  | with_reducible refine Ws.seq (m := sApp _ _) ?_
  | with_reducible refine Ws.seq (m := sBox _ _) ?_
  | with_reducible refine Ws.seq (m := sRet _) ?_
  | with_reducible refine Ws.seq (m := sNx) ?_
  | with_reducible refine Ws.if ?_
  | with_reducible refine Ws.nx ?_
  | with_reducible refine Ws.bk ?_
  | with_reducible refine Ws.ct ?_
  | with_reducible refine Ws.ret ?_
  | with_reducible refine Ws.retF ?_
  | with_reducible refine Ws.retN ?_
  | with_reducible refine Ws.set ?_
  | with_reducible refine Ws.own ?_
  | with_reducible refine Ws.drop ?_
  | with_reducible refine Ws.for ?_
  | with_reducible refine Ws.par ?_
  | with_reducible refine X2.add ?_
  | with_reducible refine X2.sub ?_
  | with_reducible refine X2.lt ?_
  | with_reducible refine X2.le ?_
  | with_reducible refine X2.gt ?_
  | with_reducible refine X2.ge ?_
  | with_reducible refine X2.eqI ?_
  | with_reducible refine X2.eqS ?_
  | with_reducible refine X2.eqB ?_
  | with_reducible refine X2.neI ?_
  | with_reducible refine X2.neS ?_
  | with_reducible refine X2.neB ?_
  | with_reducible refine X2.isB ?_
  | ((with_reducible apply X2.isN); (· rfl))
  | ((with_reducible apply X2.isnN); (· rfl))
  | with_reducible refine X2.band ?_
  | with_reducible refine X2.bor ?_
  | with_reducible refine X2.bxor ?_
  | ((with_reducible refine X2.mod ?_ ?_); (· first | assumption | omega))
  | with_reducible refine XL.len ?_
  | with_reducible refine XL.lenT ?_
  | with_reducible refine XL.int ?_
  | with_reducible refine XL.intB ?_
  | ((with_reducible apply X2.of (g := gEq)); (· rfl))
  | ((with_reducible apply X1.of); (· rfl))
  | ((with_reducible refine X2.div ?_ ?_); (· first | (unfold cDiv; decide)))
  | ((with_reducible refine X2.mul ?_ ?_); (· assumption))
  | with_reducible refine We.tup ?_
  | with_reducible refine We.lst ?_
  | ((with_reducible refine XLen.mk ?_ ?_); (· rfl))
  | with_reducible refine We.sl ?_
  | with_reducible refine We.p0 ?_
  | with_reducible refine We.p1 ?_
  | with_reducible refine XOpt.int ?_
  | with_reducible refine XSl.lst ?_
  | with_reducible refine XSl.tup ?_
  | ((with_reducible refine X2.pow ?_ ?_); (· first | assumption | decide))
  | with_reducible refine XItems.lst ?_
  | with_reducible refine XItems.tup ?_
  | with_reducible refine XPar.two ?_
  | with_reducible refine XStr.str ?_
  | with_reducible refine We.s1 ?_
  | with_reducible refine Ws.setB ?_
  | with_reducible refine Ws.box ?_
  | ((with_reducible apply XSetB.box); (· rfl); (· rfl))
  | ((with_reducible apply XSetO.own); (· rfl); (· rfl))
  | ((with_reducible apply XIxO.at); (· rfl); (· rfl))
  | ((with_reducible refine We.ixO ?_ ?_); (· rfl))
  | ((with_reducible refine XI.rng1 ?_ ?_ ?_); (· first | omega | decide); (· first | omega | decide))
  | ((with_reducible apply XL.of (g := gAbs)); (· rfl))
  | ((with_reducible refine Xc.f ?_ ?_); (· first | assumption | rfl | decide))
  | ((with_reducible refine Xc.t ?_ ?_); (· first | assumption | rfl | decide)))
local macro_rules | `(tactic| walk_at "evs") => `(tactic| first | with_reducible refine Ws.seq ?_ | walk_at "ev")
theorem w_is_integer {n : Int} {sto : Sto} : f_is_integer [.int n] sto = .rt (.bl true) sto := rfl
theorem w_is_integerB {b : Bool} {sto : Sto} : f_is_integer [.bl b] sto = .rt (.bl false) sto := rfl
theorem w_is_within {v lo hi : Int} {sto : Sto} {E : XPost} {P : D → Sto → Prop} (h : P (.bl (decide (lo ≤ v ∧ v ≤ hi))) sto) : Wf (f_is_within [.int v, .int lo, .int hi] sto) E P := by
  refine Wf.fn ?_
  unfold m_is_within

  repeat walk_at "evs"
  refine Wf.of_eq w_is_integer ?_
  repeat walk_at "evs"
  refine @Xc.d _ _ _ _ (fun h1 => ?_) fun h1 => ?_
  · repeat walk_at "evs"
    rw [decide_eq_false (by omega)] at h
    exact h
  · repeat walk_at "evs"
    rw [show decide (v ≤ hi) = decide (lo ≤ v ∧ v ≤ hi) by simp; omega]
    exact h
theorem cShl_ok {i j : Int} (h1 : 0 ≤ j) (h2 : j ≤ 100000) {m : Nat} (h3 : Builtin.Int.intBits i ≤ m) (h4 : m ≤ 100000000) : cShl i j = true := by
  unfold cShl
  refine decide_eq_true ⟨h1, ?_⟩
  have : (2 : Int) ^ 27 = 134217728 := by decide
  omega
theorem cMul_ok {i j : Int} {m n : Nat} (h3 : Builtin.Int.intBits i ≤ m) (h4 : Builtin.Int.intBits j ≤ n) (h5 : m + n ≤ 134217728) : cMul i j = true := by
  unfold cMul
  exact decide_eq_true (by omega)
theorem bits_of {i : Int} {m : Nat} (h : i.natAbs < 2 ^ m) : Builtin.Int.intBits i ≤ m := intBits_le_iff.mpr h
theorem two_nn (n : Nat) : (0 : Int) < 2 ^ n := by
  have : (0:Int) < 2 := by decide
  exact Int.pow_pos this

theorem atI_nn {α : Type} {xs : List α} {j : Int} (h0 : 0 ≤ j) (h1 : j < xs.length) : ∃ z, atI xs j = some z ∧ z ∈ xs ∧ xs[j.toNat]? = some z := by
  have hj : j.toNat < xs.length := by omega
  refine ⟨xs[j.toNat], ?_, List.getElem_mem hj, List.getElem?_eq_getElem hj⟩
  unfold atI ixN
  rw [if_pos h0, if_pos h1]
  exact List.getElem?_eq_getElem hj
theorem cDiv_ok {i j : Int} (h1 : 0 < j) (h2 : j < 2 ^ 62) : cDiv i j = true := by
  unfold cDiv
  refine decide_eq_true ⟨h1, ?_⟩
  have h3 : j.natAbs < 2 ^ 62 := by omega
  have : j.natAbs.log2 < 62 := (Nat.log2_lt (by omega)).mpr h3
  omega
theorem cPow_ok {i j : Int} (h1 : 0 ≤ j) (h2 : j ≤ 1000000) (h3 : i.natAbs < 18446744073709551616) : cPow i j = true := decide_eq_true ⟨h1, h2, h3⟩
theorem mul_le {a b A B : Int} (h0 : 0 ≤ a) (h1 : a ≤ A) (h2 : 0 ≤ b) (h3 : b ≤ B) : 0 ≤ a * b ∧ a * b ≤ A * B :=
  ⟨Int.mul_nonneg h0 h2, Int.mul_le_mul h1 h3 h2 (by omega)⟩
theorem pures_ints : ∀ c : List Int, pures (c.map .int) = true
  | [] => rfl
  | _ :: r => pures_ints r
theorem lay_ints : ∀ c : List Int, PyData.canLayAll0 (pys (c.map .int)) = true
  | [] => rfl
  | _ :: r => lay_ints r
theorem depthAll_ints : ∀ c : List Int, PyData.depthAll (pys (c.map .int)) ≤ 2
  | [] => by simp [pys, PyData.depthAll]
  | a :: r => by
    have := depthAll_ints r
    simp only [List.map_cons, pys, D.py, PyData.depthAll, PyData.depth]
    omega
theorem depth_ints (c : List Int) : (PyData.list (pys (c.map .int))).depth ≤ 64 := by
  have := depthAll_ints c
  simp only [PyData.depth]
  omega
theorem ne_nil {c : List Int} {P : D → Prop} (h : P (.bl (decide (c ≠ [])))) : X2 gNe (.lst (c.map .int)) (.lst []) P := by
  refine ⟨_, ?_, h⟩
  unfold gNe gEq
  have e : gEqD (.lst (c.map .int)) (.lst []) = some (.bl (decide (c = []))) := by
    unfold gEqD
    rw [if_pos]
    · cases c with
      | nil => rfl
      | cons a r => rfl
    · simp only [Bool.and_eq_true]
      refine ⟨⟨⟨?_, rfl⟩, ?_⟩, rfl⟩
      · unfold D.pure; exact pures_ints c
      · unfold SeqAt.shaped
        simp only [Bool.and_eq_true, decide_eq_true_eq]
        exact ⟨lay_ints c, depth_ints c⟩
  simp only [e]
  congr 2
  by_cases hc : c = [] <;> simp [hc]
/-- the cells of a script -/
structure Cs (c : List Int) : Prop where
  len : c.length ≤ 63
  bits : ∀ z ∈ c, Builtin.Int.intBits z ≤ 1048576
structure Tr (c : List Int) (B : Int) (sto : Sto) : Prop where
  ex : ∃ t r : Int, sto = [[.lst (c.map .int), .int t, .int r]] ∧ 0 ≤ t ∧ t ≤ B ∧ 0 ≤ r
theorem Tr.mono {c : List Int} {B B' : Int} {sto : Sto} (h : Tr c B sto) (hb : B ≤ B') : Tr c B' sto := by
  obtain ⟨t, r, e, h0, h1, h2⟩ := h.ex
  exact ⟨t, r, e, h0, by omega, h2⟩
theorem w_seed {c : List Int} {B many : Int} {sto : Sto} {E : XPost} {P : D → Sto → Prop} (hc : Cs c) (h : Tr c B sto) (hB : B ≤ 1000000) (m1 : 0 < many) (m2 : many < 2 ^ 62)
    (k : ∀ d sto', Tr c (B + 1) sto' → 0 ≤ d → d < many → P (.int d) sto') : Wf (f__law_seed [.box 0, .int many] sto) E P := by
  obtain ⟨t, r, rfl, ht0, htB, hr⟩ := h
  refine Wf.fn ?_
  unfold m__law_seed
  refine Ws.seq ?_
  repeat walk_at "ev"
  refine @Xc.d _ _ _ _ (fun h1 => ?_) fun h1 => ?_
  · repeat walk_at "ev"
    refine X2.div (cDiv_ok m1 m2) ?_
    repeat walk_at "ev"
    exact k _ _ ⟨t, r / many, rfl, ht0, by omega, Int.ediv_nonneg hr (by omega)⟩ (Int.emod_nonneg _ (by omega)) (Int.emod_lt_of_pos _ m1)
  · repeat walk_at "ev"
    have b39 : Builtin.Int.intBits 52579 ≤ 17 := by decide
    have b28 : Builtin.Int.intBits 28099 ≤ 17 := by decide
    have bt : Builtin.Int.intBits t ≤ 20 := bits_of (by omega)
    refine X2.mul (cMul_ok b39 bt (by decide)) ?_
    repeat walk_at "ev"
    have m39 := mul_le (a := 52579) (A := 52579) (by decide) (by decide) ht0 htB
    refine Ws.seqI (fun s' => ∃ cell : Int, Builtin.Int.intBits cell ≤ 1048576 ∧ s' = ⟨[.sh (.box 0), .sh (.int many), .un, .sh (.int t), .sh (.int cell), .un], [[.lst (c.map .int), .int (t + 1), .int r]]⟩) ?_ ?_
    · repeat walk_at "ev"
      refine ne_nil ?_
      repeat walk_at "ev"
      refine @Xc.d _ _ _ _ (fun h2 => ?_) fun h2 => ?_
      · repeat walk_at "ev"
        have hl : 0 < c.length := List.length_pos_iff.mpr h2
        refine X2.mod (by simp; omega) ?_
        obtain ⟨z, hz1, hz2, hz3⟩ := atI_nn (xs := c.map D.int) (j := t % ((c.map D.int).length : Int)) (Int.emod_nonneg _ (by simp; omega)) (Int.emod_lt_of_pos _ (by simp; omega))
        obtain ⟨y, hy1, hy2⟩ := List.mem_map.mp hz2
        subst hy2
        refine We.ixL hz1 ?_
        exact ⟨y, hc.bits y hy1, rfl⟩
      · repeat walk_at "ev"
        exact ⟨_, Nat.le_trans (bits_of (m := 60) (by omega)) (by decide), rfl⟩
    · rintro s' ⟨cell, bc, rfl⟩
      refine Ws.seqI (fun s' => s' = ⟨[.sh (.box 0), .sh (.int many), .un, .sh (.int t), .sh (.int cell), .un], [[.lst (c.map .int), .int (t + 1), .int r]]⟩) ?_ ?_
      · repeat walk_at "ev"
        refine @Xc.d _ _ _ _ (fun h3 => ?_) fun h3 => ?_
        · repeat walk_at "ev"
          refine @Xc.d _ _ _ _ (fun h4 => ?_) fun h4 => ?_
          · repeat walk_at "ev"
            have ba : Builtin.Int.intBits (if cell < 0 then -cell else cell) ≤ 1048576 := by
              split
              · exact intBits_neg_le bc
              · exact bc
            have bs : Builtin.Int.intBits ((if cell < 0 then -cell else cell) - 10 ^ Int.toNat 18) ≤ max 1048576 70 + 1 := intBits_sub_le ba (bits_of (by decide))
            refine X2.mul (cMul_ok (show Builtin.Int.intBits 2 ≤ 2 by decide) bs (by decide)) ?_
            repeat walk_at "ev"
            refine X2.div (cDiv_ok m1 m2) ?_
            repeat walk_at "ev"
            generalize hb : (if cell < 0 then -cell else cell) = ab at *
            have pw : (10 : Int) ^ Int.toNat 18 = 1000000000000000000 := by decide
            rw [pw] at h4
            refine k _ _ ⟨t + 1, _, rfl, by omega, by omega, Int.ediv_nonneg ?_ (by omega)⟩ (Int.emod_nonneg _ (by omega)) (Int.emod_lt_of_pos _ m1)
            rw [pw]
            split <;> omega
          · repeat walk_at "ev"
            rfl
        · repeat walk_at "ev"
          rfl
      · rintro s' rfl
        repeat walk_at "ev"
        refine X2.mul (cMul_ok b28 bt (by decide)) ?_
        repeat walk_at "ev"
        have c0 := Int.emod_nonneg cell (b := 2147483423) (by decide)
        have c1 := Int.emod_lt_of_pos cell (b := 2147483423) (by decide)
        refine X2.pow (cPow_ok (by decide) (by decide) (by omega)) ?_
        repeat walk_at "ev"
        generalize hx : (cell % 2147483423 + 28099 * t + 8221) ^ Int.toNat 5 % 2147483543 = x
        have x0 : 0 ≤ x := by rw [← hx]; exact Int.emod_nonneg _ (by decide)
        have x1 : x < 2147483543 := by rw [← hx]; exact Int.emod_lt_of_pos _ (by decide)
        refine X2.mul (cMul_ok (show Builtin.Int.intBits 2 ≤ 2 by decide) bt (by decide)) ?_
        repeat walk_at "ev"
        refine X2.mul (cMul_ok (m := 40) (n := 40) (bits_of (by omega)) (bits_of (by omega)) (by decide)) ?_
        repeat walk_at "ev"
        refine X2.mul (cMul_ok b39 bt (by decide)) ?_
        refine X2.mul (cMul_ok (m := 60) (bits_of (by omega)) bt (by decide)) ?_
        repeat walk_at "ev"
        have z1 := mul_le (a := x) (A := 2147483543) x0 (by omega) (b := 2 * t + 3499) (B := 2003499) (by omega) (by omega)
        have z2 := mul_le (a := 52579 * t) (A := 52579000000) (by omega) (by omega) (b := t) (B := 1000000) ht0 (by omega)
        refine X2.pow (cPow_ok (by decide) (by decide) (by omega)) ?_
        repeat walk_at "ev"
        exact k _ _ ⟨t + 1, r, rfl, by omega, by omega, hr⟩ (Int.emod_nonneg _ (by omega)) (Int.emod_lt_of_pos _ m1)

theorem w_one_of {c : List Int} {B : Int} {xs : List D} {sto : Sto} {E : XPost} {P : D → Sto → Prop} (hc : Cs c) (h : Tr c B sto) (hB : B ≤ 1000000) (m1 : 0 < xs.length) (m2 : xs.length < 2 ^ 60)
    (k : ∀ d sto', Tr c (B + 1) sto' → d ∈ xs → P d sto') : Wf (f__law_one_of [.box 0, .lst xs] sto) E P := by
  refine Wf.fn ?_
  unfold m__law_one_of
  repeat walk_at "ev"
  refine w_seed hc h hB (by omega) (by omega) fun d sto' h' h0 h1 => ?_
  obtain ⟨z, hz1, hz2, _⟩ := atI_nn h0 h1
  exact We.ixL hz1 (k z sto' h' hz2)
/-! ### plain values -/
def pvB (d : D) : Bool := d.pure && (d.py.canLay0 && (d.py.intsShort 13 && d.py.showable))
def pvBs (ds : List D) : Bool := pures ds && (PyData.canLayAll0 (pys ds) && (PyData.intsShortAll 13 (pys ds) && PyData.showableAll (pys ds)))
/-- nested up to n levels, of a weight up to w -/
structure Pv (n w : Nat) (d : D) : Prop where
  b : pvB d = true
  dep : d.py.depth ≤ n
  wt : d.py.weight ≤ w
structure Pvs (n w : Nat) (ds : List D) : Prop where
  b : pvBs ds = true
  dep : PyData.depthAll (pys ds) ≤ n
  wt : PyData.weightAll (pys ds) ≤ w
theorem Pv.mono {n w n' w' : Nat} {d : D} (h : Pv n w d) (h1 : n ≤ n') (h2 : w ≤ w') : Pv n' w' d := ⟨h.b, Nat.le_trans h.dep h1, Nat.le_trans h.wt h2⟩
theorem Pvs.mono {n w n' w' : Nat} {d : List D} (h : Pvs n w d) (h1 : n ≤ n') (h2 : w ≤ w') : Pvs n' w' d := ⟨h.b, Nat.le_trans h.dep h1, Nat.le_trans h.wt h2⟩
theorem Pvs.nil {n w : Nat} : Pvs n w [] := ⟨rfl, Nat.zero_le _, Nat.zero_le _⟩
theorem pvBs_cons {d : D} {ds : List D} : pvBs (d :: ds) = (pvB d && pvBs ds) := by
  unfold pvBs pvB
  simp only [pures, pys, PyData.canLayAll0, PyData.intsShortAll, PyData.showableAll]
  cases d.pure <;> cases pures ds <;> cases d.py.canLay0 <;> cases PyData.canLayAll0 (pys ds) <;> cases d.py.intsShort 13 <;> cases PyData.intsShortAll 13 (pys ds) <;> cases d.py.showable <;> rfl
theorem Pvs.cons {n w w' : Nat} {d : D} {ds : List D} (h : Pv n w d) (hs : Pvs n w' ds) : Pvs n (w + 1 + w') (d :: ds) := by
  refine ⟨by rw [pvBs_cons, h.b, hs.b]; rfl, ?_, ?_⟩
  · simp only [pys, PyData.depthAll]
    have := h.dep
    have := hs.dep
    omega
  · simp only [pys, PyData.weightAll]
    have := h.wt
    have := hs.wt
    omega
theorem Pvs.uncons {n w : Nat} {d : D} {ds : List D} (h : Pvs n w (d :: ds)) : ∃ w1 w2, w1 + 1 + w2 = w ∧ Pv n w1 d ∧ Pvs n w2 ds := by
  have hb := h.b
  rw [pvBs_cons, Bool.and_eq_true] at hb
  have hd := h.dep
  have hw := h.wt
  simp only [pys, PyData.depthAll] at hd
  simp only [pys, PyData.weightAll] at hw
  exact ⟨d.py.weight, w - 1 - d.py.weight, by omega, ⟨hb.1, by omega, Nat.le_refl _⟩, ⟨hb.2, by omega, by omega⟩⟩
theorem Pv.tup {n w : Nat} {ds : List D} (h : Pvs n w ds) : Pv (n + 1) w (.tup ds) := by
  refine ⟨?_, ?_, ?_⟩
  · have := h.b
    unfold pvBs at this
    unfold pvB
    simpa only [D.pure, D.py, PyData.canLay0, PyData.intsShort, PyData.showable] using this
  · simp only [D.py, PyData.depth]
    have := h.dep
    omega
  · simpa only [D.py, PyData.weight] using h.wt
theorem Pv.lst {n w : Nat} {ds : List D} (h : Pvs n w ds) : Pv (n + 1) w (.lst ds) := by
  refine ⟨?_, ?_, ?_⟩
  · have := h.b
    unfold pvBs at this
    unfold pvB
    simpa only [D.pure, D.py, PyData.canLay0, PyData.intsShort, PyData.showable] using this
  · simp only [D.py, PyData.depth]
    have := h.dep
    omega
  · simpa only [D.py, PyData.weight] using h.wt
theorem Pv.untup {n w : Nat} {ds : List D} (h : Pv n w (.tup ds)) : ∃ m, n = m + 1 ∧ Pvs m w ds := by
  have h1 := h.b
  have h2 := h.dep
  have h3 := h.wt
  unfold pvB at h1
  simp only [D.pure, D.py, PyData.canLay0, PyData.intsShort, PyData.showable] at h1
  simp only [D.py, PyData.depth] at h2
  simp only [D.py, PyData.weight] at h3
  exact ⟨n - 1, by omega, h1, by omega, h3⟩
theorem Pv.unlst {n w : Nat} {ds : List D} (h : Pv n w (.lst ds)) : ∃ m, n = m + 1 ∧ Pvs m w ds := by
  have h1 := h.b
  have h2 := h.dep
  have h3 := h.wt
  unfold pvB at h1
  simp only [D.pure, D.py, PyData.canLay0, PyData.intsShort, PyData.showable] at h1
  simp only [D.py, PyData.depth] at h2
  simp only [D.py, PyData.weight] at h3
  exact ⟨n - 1, by omega, h1, by omega, h3⟩
theorem Pvs.append {n w w' : Nat} : ∀ {ds es : List D}, Pvs n w ds → Pvs n w' es → Pvs n (w + w') (ds ++ es)
  | [], es, h, h' => h'.mono (Nat.le_refl _) (by omega)
  | d :: ds, es, h, h' => by
    obtain ⟨w1, w2, e, a, b⟩ := h.uncons
    exact (Pvs.cons a (Pvs.append b h')).mono (Nat.le_refl _) (by omega)
theorem Pvs.mem {n w : Nat} : ∀ {ds : List D} {d : D}, Pvs n w ds → d ∈ ds → Pv n w d
  | e :: ds, d, h, hm => by
    obtain ⟨w1, w2, eq, a, b⟩ := h.uncons
    rcases List.mem_cons.mp hm with rfl | hm
    · exact a.mono (Nat.le_refl _) (by omega)
    · exact (Pvs.mem b hm).mono (Nat.le_refl _) (by omega)
theorem Pvs.sub {n : Nat} {ds es : List D} (s : es.Sublist ds) : ∀ {w : Nat}, Pvs n w ds → Pvs n w es := by
  induction s with
  | slnil => exact fun h => h
  | cons d s ih =>
    intro w h
    obtain ⟨w1, w2, eq, a, b⟩ := h.uncons
    exact (ih b).mono (Nat.le_refl _) (by omega)
  | cons_cons d s ih =>
    intro w h
    obtain ⟨w1, w2, eq, a, b⟩ := h.uncons
    exact (Pvs.cons a (ih b)).mono (Nat.le_refl _) (by omega)
theorem Pv.non {n w : Nat} : Pv n w .non := ⟨rfl, Nat.zero_le _, Nat.zero_le _⟩
theorem Pv.bl {n w : Nat} (b : Bool) : Pv n w (.bl b) := ⟨rfl, Nat.zero_le _, Nat.zero_le _⟩
/-- shown -/
theorem Pv.repr {n w : Nat} {d : D} {P : D → Prop} (h : Pv n w d) (hn : n ≤ 60) (hw : w ≤ 1000000) (k : P (.str d.py.shown)) : XL gRepr [d] P := by
  refine ⟨_, ?_, k⟩
  have hb := h.b
  unfold pvB at hb
  simp only [Bool.and_eq_true] at hb
  obtain ⟨h1, h2, h3, h4⟩ := hb
  have hl := PyData.shown_le 13 (by decide) d.py (PyData.leavesShort_of_canLay0 13 _ h2 h3)
  have hz : sizeLine = 16777216 := by decide
  show (if (d.pure && d.py.showable && decide (d.py.depth ≤ 60) && decide (d.py.shown.length ≤ sizeLine)) = true then some (D.str d.py.shown) else none) = _
  rw [if_pos]
  rw [h1, h4, decide_eq_true (Nat.le_trans h.dep hn), decide_eq_true]
  · rfl
  · have := h.wt
    omega
theorem Pv.shaped {n w : Nat} {d : D} (h : Pv n w d) (hn : n ≤ 64) : d.pure = true ∧ SeqAt.shaped d.py = true := by
  have hb := h.b
  unfold pvB at hb
  simp only [Bool.and_eq_true] at hb
  refine ⟨hb.1, ?_⟩
  unfold SeqAt.shaped
  rw [hb.2.1, decide_eq_true (Nat.le_trans h.dep hn)]; rfl

theorem rest_same {old new : List Sl} {ws : List Nat} (h : wipeE new ws = wipeE old ws) : rest_ old new ws = old := by
  have hl : old.length = new.length := by
    have := congrArg List.length h
    rw [wipeE_len, wipeE_len] at this
    exact this.symm
  refine List.ext_getElem? fun i => ?_
  rw [rest_get hl]
  by_cases hi : i ∈ ws
  · rw [if_pos hi]
  · rw [if_neg hi, ← wipeE_out (l := new) hi, h, wipeE_out hi]
/-- a comprehension whose turns change nothing: p lets, g makes -/
theorem We.compP {E : XPost} {s : Sx} {Q : List D → Sx → Prop} {mi : M (List D)} {t : Tg} {c : M Bool} {m : M D} {ws : List Nat} (p : D → Bool) (g : D → D)
    (h : We (mi s) E fun items s0 => noOw s0.env ws = true ∧ items.length < sizeLine ∧
      (∀ d ∈ items, ∃ s1, t.run d ⟨wipeE s0.env ws, s0.sto⟩ = some s1 ∧ s1.sto = s0.sto ∧ wipeE s1.env ws = wipeE s0.env ws ∧ We (c s1) Xn fun b s2 => b = p d ∧ s2 = s1 ∧ (b = true → We (m s1) Xn fun z s3 => z = g d ∧ s3 = s1)) ∧
      Q ((items.filter p).map g) s0) : We (mComp mi t c m ws s) E Q := by
  refine We.comp (h.imp fun items s0 ⟨h1, h2, h3, h4⟩ => ⟨h1, ?_⟩)
  obtain ⟨acc, s', e, a1, a2, done, a3, a4⟩ := compL_inv (t := t) (c := c) (m := m) (ws := ws) (fun rest acc s => s.sto = s0.sto ∧ wipeE s.env ws = wipeE s0.env ws ∧ ∃ done, items = done ++ rest ∧ acc = (done.filter p).map g)
    (by
      rintro d ds acc s ⟨a1, a2, done, a3, rfl⟩
      obtain ⟨s1, e1, e2, e3, e4⟩ := h3 d (by rw [a3]; simp)
      refine ⟨?_, s1, ?_, ?_⟩
      · have l1 := congrArg List.length a3
        have l2 := List.length_filter_le p done
        simp at l1
        simp
        omega
      · have : ({ s with env := wipeE s.env ws } : Sx) = ⟨wipeE s0.env ws, s0.sto⟩ := by
          rw [← a2, ← a1]
        rw [this]; exact e1
      · refine e4.imp fun b s2 ⟨hb, hs, hm⟩ => ?_
        subst hs
        refine ⟨fun ht => (hm ht).imp fun z s3 ⟨hz, hs3⟩ => ?_, fun hf => ?_⟩
        · subst hs3 hz
          exact ⟨e2, e3, done ++ [d], by rw [a3]; simp, by rw [List.filter_append, List.map_append]; simp [← hb, ht]⟩
        · exact ⟨e2, e3, done ++ [d], by rw [a3]; simp, by rw [List.filter_append, List.map_append]; simp [← hb, hf]⟩)
    items [] s0 ⟨rfl, rfl, [], rfl, rfl⟩
  refine ⟨acc, s', e, ?_⟩
  rw [List.append_nil] at a3
  subst a3
  rw [rest_same a2, a4]
  have : (⟨s0.env, s'.sto⟩ : Sx) = s0 := by rw [a1]
  show Q _ ⟨s0.env, s'.sto⟩
  rw [this]
  exact h4
/-! ### spellings -/
def lowS (c : Nat) : Bool := decide (97 ≤ c ∧ c ≤ 122)
def figS (c : Nat) : Bool := decide (48 ≤ c ∧ c ≤ 57)
def spS (z : Str) : Bool := decide (1 ≤ z.length ∧ z.length ≤ 8) && (match z.cps.toList with
  | c :: r => lowS c && (c :: r).all fun c => lowS c || figS c
  | [] => false)
def spelD : D → Bool
  | .str z => spS z
  | _ => false
abbrev sg (c : Nat) : D := .str ⟨#[c]⟩
theorem in_low (c : Nat) : gIn (sg c) (.str "abcdefghijklmnopqrstuvwxyz") = some (.bl (lowS c)) := by
  show some (D.bl (!(Builtin.Str.occurrences _ _ 0 _ 1).isEmpty)) = _
  rw [PySem.StrLaws.found_one]
  congr 2
  have e : ("abcdefghijklmnopqrstuvwxyz" : Str).cps.toList = (List.range 26).map (· + 97) := by decide
  rw [e]
  unfold lowS
  rw [Bool.eq_iff_iff]
  simp only [decide_eq_true_eq, List.mem_map, List.mem_range]
  exact ⟨fun ⟨a, h1, h2⟩ => by omega, fun h => ⟨c - 97, by omega, by omega⟩⟩
theorem in_fig (c : Nat) : gIn (sg c) (.str "0123456789") = some (.bl (figS c)) := by
  show some (D.bl (!(Builtin.Str.occurrences _ _ 0 _ 1).isEmpty)) = _
  rw [PySem.StrLaws.found_one]
  congr 2
  have e : ("0123456789" : Str).cps.toList = (List.range 10).map (· + 48) := by decide
  rw [e]
  unfold figS
  rw [Bool.eq_iff_iff]
  simp only [decide_eq_true_eq, List.mem_map, List.mem_range]
  exact ⟨fun ⟨a, h1, h2⟩ => by omega, fun h => ⟨c - 48, by omega, by omega⟩⟩
theorem le_sg (a c : Nat) : gLeS (sg a) (sg c) = some (.bl (decide (a ≤ c))) := by
  show some (D.bl (!decide (([c] : List Nat) < [a]))) = _
  have : (([c] : List Nat) < [a]) ↔ c < a := by
    constructor
    · intro h
      cases h with
      | rel h => exact h
      | cons h => cases h
    · exact fun h => .rel h
  by_cases h : c < a
  · rw [decide_eq_true (this.mpr h), decide_eq_false (by omega : ¬ a ≤ c)]; rfl
  · rw [decide_eq_false (fun z => h (this.mp z)), decide_eq_true (by omega : a ≤ c)]; rfl
theorem asBs_map {α : Type} (f : α → Bool) : ∀ l : List α, asBs (l.map fun a => .bl (f a)) = some (l.map f)
  | [] => rfl
  | a :: r => by simp [asBs, asBs_map f r]

theorem sz_line : sizeLine = 16777216 := by decide
theorem lt_line {n : Nat} (h : n ≤ 16777215) : n < sizeLine := by rw [sz_line]; omega
theorem We.ixS {E : XPost} {s : Sx} {Q : D → Sx → Prop} {z : Str} {c : Nat} {r : List Nat} (hc : z.cps.toList = c :: r) (hz : z.length ≤ sizeLine) (q : Q (sg c) s) : We (ixPost (.str z) (.int 0) s) E Q := by
  have e : gIx (.str z) (.int 0) = some (sg c) := by
    show (if z.length ≤ sizeLine then (atI z.cps.toList 0).map fun c => (.str ⟨#[c]⟩ : D) else none) = _
    rw [if_pos hz, hc]
    have : atI (c :: r) 0 = some c := by
      unfold atI ixN
      rw [if_pos (by omega), if_pos (by simp only [List.length_cons]; omega)]; rfl
    rw [this]; rfl
  show We (match gIx (.str z) (.int 0) with | some z => R.ok z s | none => .bad) E Q
  rw [e]; exact q
theorem notin_low (c : Nat) : gNotIn (sg c) (.str "abcdefghijklmnopqrstuvwxyz") = some (.bl (!lowS c)) := by
  have := in_low c
  unfold gIn at this
  unfold gNotIn
  cases e : inD (sg c) (.str "abcdefghijklmnopqrstuvwxyz") with
  | none => rw [e] at this; cases this
  | some b => rw [e] at this; cases this; rfl
theorem XLen1 {z : Str} {P : D → Prop} (hz : z.length ≤ 1000000) (h : P (.int z.length)) : XL gLen [.str z] P :=
  ⟨.int z.length, by show (if z.length ≤ sizeLine then some (D.int z.length) else none) = _; rw [if_pos (Nat.le_of_lt (lt_line (by omega)))], h⟩
theorem We.mItemsS {E : XPost} {s : Sx} {QL : List D → Sx → Prop} {ma : M D} (h : We (ma s) E fun a s1 => ∃ xs, itemsS a = some xs ∧ QL xs s1) : We (mItemsS ma s) E QL := We.bind (h.imp fun a s1 ⟨xs, e, q⟩ => We.lift e q)
/-- is_spelling -/
theorem w_spelling {z : Str} {sto : Sto} {E : XPost} {P : D → Sto → Prop} (hz : z.length ≤ 1000000) (h : P (.bl (spS z)) sto) : Wf (f_is_spelling [.str z] sto) E P := by
  have hl : z.cps.toList.length = z.length := by rw [Array.length_toList]; rfl
  have hz2 : z.length ≤ sizeLine := Nat.le_of_lt (lt_line (by omega))
  refine Wf.fn ?_
  unfold m_is_spelling
  repeat walk_at "evs"
  refine XLen1 hz ?_
  repeat walk_at "evs"
  refine @Xc.d _ _ _ _ (fun h1 => ?_) fun h1 => ?_
  · repeat walk_at "evs"
    refine @Xc.n _ _ _ (@Xc.d _ _ _ _ (fun h2 => ?_) fun h2 => ?_)
    · repeat walk_at "evs"
      cases hc : z.cps.toList with
      | nil => rw [hc] at hl; simp at hl; omega
      | cons c r =>
        have hsp : spS z = (lowS c && (c :: r).all fun c => lowS c || figS c) := by
          unfold spS
          rw [decide_eq_true (by omega), hc]; rfl
        refine We.ixS hc hz2 ?_
        repeat walk_at "evs"
        refine X2.of (notin_low c) ?_
        repeat walk_at "evs"
        cases hlow : lowS c with
        | false =>
          repeat walk_at "evs"
          rw [hsp, hlow] at h
          exact h
        | true =>
          repeat walk_at "evs"
          refine We.compP (fun _ => true) (fun d => match d with | .str y => .bl (y.cps.toList.all fun c => lowS c || figS c) | _ => .non) ?_
          refine We.mItemsS ?_
          repeat walk_at "evs"
          refine ⟨_, rfl, rfl, lt_line (by simp [signs, hl]; omega), ?_, ?_⟩
          · intro d hd
            obtain ⟨x, hx, rfl⟩ := List.mem_map.mp hd
            refine ⟨_, rfl, rfl, rfl, We.pure ⟨rfl, rfl, fun _ => ?_⟩⟩
            unfold m_is_spelling_e1
            repeat walk_at "evs"
            refine X2.of (in_low x) ?_
            repeat walk_at "evs"
            cases hlx : lowS x with
            | true =>
              repeat walk_at "evs"
              exact ⟨by simp [hlx], rfl⟩
            | false =>
              repeat walk_at "evs"
              refine X2.of (in_fig x) ?_
              exact ⟨by simp [hlx], rfl⟩
          · repeat walk_at "evs"
            have e : ((signs z).filter fun _ => true).map (fun d => match d with | .str y => (.bl (y.cps.toList.all fun c => lowS c || figS c) : D) | _ => .non) = z.cps.toList.map fun c => .bl (lowS c || figS c) := by
              rw [List.filter_eq_self.mpr (fun _ _ => rfl)]
              unfold signs
              rw [List.map_map]
              refine List.map_congr_left fun c _ => ?_
              simp
            rw [e]
            refine XL.of (g := gAll) (z := .bl ((c :: r).all fun c => lowS c || figS c)) ?_ ?_
            · unfold gAll
              simp only [asBs_map, hc, Option.map_some]
              rw [List.all_map]; rfl
            · rw [hsp, hlow] at h
              exact h
    · repeat walk_at "evs"
      have : spS z = false := by unfold spS; rw [decide_eq_false (by omega)]; rfl
      rw [this] at h; exact h
  · repeat walk_at "evs"
    have : spS z = false := by unfold spS; rw [decide_eq_false (by omega)]; rfl
    rw [this] at h; exact h

/-- texts of data -/
theorem pures_str : ∀ l : List Str, pures (l.map .str) = true
  | [] => rfl
  | _ :: r => pures_str r
theorem lay_str : ∀ l : List Str, (∀ z ∈ l, PyData.strOk z = true) → PyData.canLayAll0 (pys (l.map .str)) = true
  | [], _ => rfl
  | z :: r, h => by
    simp only [List.map_cons, pys, D.py, PyData.canLayAll0, PyData.canLay0, lay_str r (fun y hy => h y (List.mem_cons_of_mem _ hy)), h z List.mem_cons_self, Bool.and_self]
theorem depth_str : ∀ l : List Str, PyData.depthAll (pys (l.map .str)) ≤ 1
  | [] => Nat.zero_le _
  | z :: r => by
    have := depth_str r
    simp only [List.map_cons, pys, D.py, PyData.depthAll, PyData.depth]
    omega
theorem shaped_str {l : List Str} (h : ∀ z ∈ l, PyData.strOk z = true) : SeqAt.shaped (D.lst (l.map .str)).py = true := by
  unfold SeqAt.shaped
  simp only [D.py, PyData.canLay0, PyData.depth, Bool.and_eq_true, decide_eq_true_eq]
  have := depth_str l
  exact ⟨lay_str l h, by omega⟩
theorem eq_nilS {l : List Str} {P : D → Prop} (hz : ∀ z ∈ l, PyData.strOk z = true) (h : P (.bl l.isEmpty)) : X2 gEq (.lst (l.map .str)) (.lst []) P := by
  refine ⟨_, ?_, h⟩
  show gEqD (.lst (l.map .str)) (.lst []) = _
  unfold gEqD
  rw [if_pos]
  · cases l with
    | nil => rfl
    | cons a r => rfl
  · simp only [Bool.and_eq_true]
    refine ⟨⟨⟨?_, rfl⟩, shaped_str hz⟩, rfl⟩
    unfold D.pure; exact pures_str l
theorem strOk_sg {z : Str} (h : PyData.strOk z = true) {c : Nat} (hc : c ∈ z.cps.toList) : PyData.strOk ⟨#[c]⟩ = true := by
  unfold PyData.strOk at *
  simp only [Array.all_eq_true_iff_forall_mem] at h ⊢
  intro x hx
  have : x = c := by simpa using hx
  subst this
  exact h x (by simpa using hc)
def gapS (c : Nat) : Bool := !(lowS c || figS c)
theorem we_chain {E : XPost} {s : Sx} {Q : D → Sx → Prop} {a b x : Nat} {da db : D} (ea : gLeS da (sg x) = some (.bl (decide (a ≤ x)))) (eb : gLeS (sg x) db = some (.bl (decide (x ≤ b)))) (e : s.env[1]? = some (.sh (sg x))) (q : Q (.bl (decide (a ≤ x ∧ x ≤ b))) s) : We (mChain gLeS gLeS (mC da) (mVar 1) (mC db) s) E Q := by
  refine We.chain (We.c (We.var e (X2.of ea (XB.bl (@Xc.d _ _ _ _ (fun h => We.c (X2.of eb ?_)) fun h => ?_)))))
  · rw [Bool.eq_iff_iff.mpr (show decide (x ≤ b) = true ↔ decide (a ≤ x ∧ x ≤ b) = true by simp [h])]
    exact q
  · rw [decide_eq_false (by omega)] at q
    exact q

theorem XI.rng2 {i j : Int} {PL : List D → Prop} (h0 : -(2 ^ 62) ≤ i) (h1 : i < 2 ^ 62) (h2 : -(2 ^ 62) ≤ j) (h3 : j < 2 ^ 62) (h : PL (rngL i (j - i).toNat)) : XI gRng2 [.int i, .int j] PL := ⟨_, by unfold gRng2; exact if_pos ⟨⟨h0, h1⟩, h2, h3⟩, h⟩
/-! ### heads -/
theorem eqV_str (a b : Str) : eqV (.str a) (.str b) = decide (a = b) := by
  show (a == b) = _
  rw [Bool.eq_iff_iff]
  simp only [beq_iff_eq, decide_eq_true_eq]
theorem inV_str (z : Str) : ∀ l : List Str, inV (.str z) (l.map V.str) = l.contains z
  | [] => rfl
  | a :: r => by
    have := inV_str z r
    unfold inV at *
    rw [List.map_cons, List.any_cons, this, eqV_str, List.contains_cons]
    congr 1
    rw [Bool.eq_iff_iff]
    simp only [decide_eq_true_eq, beq_iff_eq]
    exact eq_comm
theorem toVs_str : ∀ l : List Str, toVs (l.map .str) = some (l.map V.str)
  | [] => rfl
  | a :: r => by
    show (match (some (V.str a)), toVs (r.map .str) with | some v, some vs => some (v :: vs) | _, _ => none) = _
    rw [toVs_str r]; rfl
theorem in_lstS (z : Str) (l : List Str) : gIn (.str z) (.lst (l.map .str)) = some (.bl (l.contains z)) := by
  show (match (some (V.str z)), toVs (l.map .str) with | some v, some vs => some (inV v vs) | _, _ => none).map D.bl = _
  rw [toVs_str, ← inV_str]; rfl
theorem in_tupS (z : Str) (l : List Str) : gIn (.str z) (.tup (l.map .str)) = some (.bl (l.contains z)) := by
  show (match (some (V.str z)), toVs (l.map .str) with | some v, some vs => some (inV v vs) | _, _ => none).map D.bl = _
  rw [toVs_str, ← inV_str]; rfl
theorem notin_tupS (z : Str) (l : List Str) : gNotIn (.str z) (.tup (l.map .str)) = some (.bl (!l.contains z)) := by
  show (match (some (V.str z)), toVs (l.map .str) with | some v, some vs => some (inV v vs) | _, _ => none).map (fun k => D.bl (!k)) = _
  rw [toVs_str, ← inV_str]; rfl
def figT (i : Nat) : Str := toString (Int.ofNat i)
def shT (i : Nat) : Str := Str.empty ++ "shl " ++ figT i
def figL : List Str := (List.range 31).map fun i => figT (i + 1)
theorem sh_split : ∀ i, i < 31 → Txt.split (shT (i + 1)) " " = [("shl" : Str), figT (i + 1)] := by decide +kernel
theorem sh_join : ∀ i, i < 31 → Str.join " " [("shl" : Str), figT (i + 1)] = shT (i + 1) := by decide +kernel
theorem sh_len : ∀ i, i < 31 → (shT (i + 1)).length ≤ 1000 := by decide +kernel
def isSh (z : Str) : Bool := match Txt.split z " " with
  | [a, b] => decide (a = "shl") && figL.contains b
  | _ => false
theorem isSh_of {z : Str} {i : Nat} (hi : i < 31) (h : z = shT (i + 1)) : isSh z = true := by
  unfold isSh
  rw [h, sh_split i hi]
  have : figL.contains (figT (i + 1)) = true := by
    rw [List.contains_iff_mem]
    exact List.mem_map.mpr ⟨i, List.mem_range.mpr hi, rfl⟩
  show (decide _ && figL.contains _) = true
  rw [this]; rfl
theorem of_isSh {z : Str} (h : isSh z = true) : ∃ i, i < 31 ∧ z = shT (i + 1) := by
  unfold isSh at h
  split at h
  · rename_i a b e
    simp only [Bool.and_eq_true, decide_eq_true_eq, List.contains_iff_mem] at h
    obtain ⟨ha, hb⟩ := h
    obtain ⟨i, hi, hb⟩ := List.mem_map.mp hb
    have hi := List.mem_range.mp hi
    refine ⟨i, hi, ?_⟩
    rw [← sh_join i hi, hb, ← ha, ← e, PySem.StrLaws.join_split]
  · cases h
theorem lk_out {β : Type} {z : Str} : ∀ {ks : List Str} {vs : List β}, z ∉ ks → lk ks vs z = none
  | [], _, _ => by unfold lk; rfl
  | k :: ks, [], _ => by unfold lk; rfl
  | k :: ks, v :: vs, h => by
    unfold lk
    rw [if_neg (fun e => h (by rw [e]; exact List.mem_cons_self))]
    exact lk_out fun m => h (List.mem_cons_of_mem _ m)
theorem lkI_none {β : Type} {z : Str} : ∀ {ks : List Str} {vs : List β}, z ∉ ks → lk (ks.map fun k => (.inr k : Key)) vs (.inr z) = none
  | [], _, _ => by unfold lk; rfl
  | k :: ks, [], _ => by unfold lk; rfl
  | k :: ks, v :: vs, h => by
    rw [List.map_cons]
    unfold lk
    rw [if_neg (fun e => h (by cases e; exact List.mem_cons_self))]
    exact lkI_none fun m => h (List.mem_cons_of_mem _ m)
theorem w_bits_up {z : Str} {sto : Sto} {E : XPost} {P : D → Sto → Prop} (h0 : isSh z = false → P (.int 0) sto) (h1 : isSh z = true → ∀ i : Nat, P (.int (1 + i)) sto) : Wf (f_bits_up [.str z] sto) E P := by
  refine Wf.fn ?_
  unfold m_bits_up
  repeat walk_at "evs"
  refine XI.rng2 (by decide) (by decide) (by decide) (by decide) ?_
  refine forL_inv (fun rest s => ∃ is x, rest = is.map (fun i : Nat => D.int (1 + i)) ∧ (∀ i ∈ is, i < 31) ∧ (∀ i, i < 31 → i ∉ is → z ≠ shT (i + 1)) ∧ s = ⟨[.sh (.str z), x], sto⟩) ?_ ?_ _ _ ⟨List.range 31, _, rfl, fun i hi => List.mem_range.mp hi, fun i hi hn => absurd (List.mem_range.mpr hi) hn, rfl⟩
  · rintro d ds s ⟨is, x, e, hlt, hne, rfl⟩
    cases is with
    | nil => cases e
    | cons i is =>
      rw [List.map_cons] at e
      cases e
      refine ⟨_, rfl, ?_⟩
      unfold m_bits_up_b1
      repeat walk_at "evs"
      have hi := hlt i List.mem_cons_self
      have hj : ∀ {E : XPost} {s : Sx} {Q : D → Sx → Prop}, s.env[1]? = some (.sh (.int (1 + (i : Int)))) → Q (.str (shT (i + 1))) s → We (mJ [mC (.str "shl "), m1 gFmt (mVar 1)] Str.empty s) E Q := by
        intro E s Q e q
        have e1 : (1 : Int) + i = Int.ofNat (i + 1) := by show (1 : Int) + (i : Int) = ((i + 1 : Nat) : Int); omega
        have e2 : ((1 : Int) + i).natAbs.log2 < 1920 := Nat.lt_of_le_of_lt (Nat.log2_le_self _) (by omega)
        have e3 := sh_len i hi
        unfold mJ
        refine We.bind (We.c ?_)
        show We ((if (Str.empty ++ ("shl " : Str)).length ≤ sizeLine then mJ [m1 gFmt (mVar 1)] (Str.empty ++ ("shl " : Str)) else fun _ => .bad) s) E Q
        rw [if_pos (by rw [sz_line]; decide)]
        unfold mJ
        refine We.bind (We.m1 (We.var e ⟨.str (toString ((1 : Int) + i)), ?_, ?_⟩))
        · show (if _ then _ else _) = _
          rw [if_pos e2]
        · show We ((if ((Str.empty ++ ("shl " : Str)) ++ (toString ((1 : Int) + i) : Str)).length ≤ sizeLine then mJ [] ((Str.empty ++ ("shl " : Str)) ++ (toString ((1 : Int) + i) : Str)) else fun _ => .bad) s) E Q
          rw [e1]
          show We ((if (shT (i + 1)).length ≤ sizeLine then mJ [] (shT (i + 1)) else fun _ => .bad) s) E Q
          rw [if_pos (Nat.le_of_lt (lt_line (Nat.le_trans e3 (by decide))))]
          exact We.pure q
      refine hj rfl ?_
      repeat walk_at "evs"
      refine @Xc.d _ _ _ _ (fun h2 => ?_) fun h2 => ?_
      · repeat walk_at "evs"
        exact h1 (isSh_of hi h2) i
      · repeat walk_at "evs"
        refine ⟨is, _, rfl, fun j hj => hlt j (List.mem_cons_of_mem _ hj), fun j hj hn => ?_, rfl⟩
        by_cases hji : j = i
        · subst hji; exact h2
        · exact hne j hj (by simp [hji, hn])
  · rintro s ⟨is, x, e, hlt, hne, rfl⟩
    repeat walk_at "evs"
    have : is = [] := by simpa using e.symm
    subst this
    refine h0 ?_
    cases hh : isSh z with
    | false => rfl
    | true =>
      obtain ⟨i, hi, hz⟩ := of_isSh hh
      exact absurd hz (hne i hi (by simp))
/-! ### parts of a head -/
def isCa (z : Str) : Bool := match Txt.split z " " with
  | [a, b, c] => [("call" : Str), "loop"].contains a && spS b && [("0" : Str), "1", "2", "3", "4", "5"].contains c
  | _ => false
def loC (z : Str) : Nat := match Txt.split z " " with
  | a :: _ => if a = "call" then 0 else 2
  | [] => 0
theorem len_app (a b : Str) : (a ++ b).length = a.length + b.length := by
  show (a.cps ++ b.cps).size = a.cps.size + b.cps.size
  exact Array.size_append
theorem strOk_app {a b : Str} (h : PyData.strOk (a ++ b) = true) : PyData.strOk a = true ∧ PyData.strOk b = true := by
  have e : (a ++ b).cps = a.cps ++ b.cps := rfl
  unfold PyData.strOk at *
  rw [e, Array.all_append, Bool.and_eq_true] at h
  exact h
/-- the middle of three -/
theorem split3 {z a b c : Str} (ok : PyData.strOk z = true) (e : Txt.split z " " = [a, b, c]) : b.length ≤ z.length ∧ PyData.strOk b = true := by
  have h := PySem.StrLaws.join_split z " "
  rw [e] at h
  have h : a ++ " " ++ (b ++ " " ++ c) = z := h
  subst h
  refine ⟨?_, ?_⟩
  · simp only [len_app]; omega
  · exact (strOk_app (strOk_app (strOk_app ok).2).1).1
theorem split_z {z : Str} (hz : z.length ≤ 1000000) : gSplit (.str z) (.str " ") = some (.lst ((Txt.split z " ").map .str)) := by
  show (if ((" " : Str).length == 0) = false ∧ z.length + 2 ≤ sizeLine then some (.lst ((Txt.split z " ").map .str)) else none) = (_ : Option D)
  rw [if_pos ⟨by decide, by rw [sz_line]; omega⟩]
theorem We.split {E : XPost} {s : Sx} {Q : D → Sx → Prop} {ma mb : M D} (h : We (ma s) E fun a s1 => ∃ x, a = .str x ∧ We (mb s1) E fun b s2 => X2 gSplit (.str x) b fun z => Q z s2) : We (mSplit ma mb s) E Q :=
  We.bind (h.imp fun a s1 ⟨x, e, h⟩ => by subst e; exact We.bind (h.imp fun b s2 ⟨z, e, q⟩ => We.lift e q))
theorem w_call_of {z : Str} {sto : Sto} {E : XPost} {P : D → Sto → Prop} (hz : z.length ≤ 1000000) (ok : PyData.strOk z = true) (h0 : isCa z = false → P .non sto)
    (h1 : isCa z = true → ∀ (a b : Str) c, (a = "call" ∧ loC z = 0 ∨ a = "loop" ∧ loC z = 2) → P (.tup [.str a, .str b, .int c]) sto) : Wf (f_call_of [.str z] sto) E P := by
  refine Wf.fn ?_
  unfold m_call_of
  repeat walk_at "evs"
  refine We.split ?_
  repeat walk_at "evs"
  refine ⟨_, rfl, ?_⟩
  repeat walk_at "evs"
  refine X2.of (split_z hz) ?_
  unfold isCa at h0 h1
  unfold loC at h1
  cases e : Txt.split z " " with
  | nil =>
    rw [e] at h0
    repeat walk_at "evs"
    exact h0 rfl
  | cons a r =>
    cases r with
    | nil =>
      rw [e] at h0
      repeat walk_at "evs"
      exact h0 rfl
    | cons b r =>
      cases r with
      | nil =>
        rw [e] at h0
        repeat walk_at "evs"
        exact h0 rfl
      | cons c r =>
        cases r with
        | cons d r =>
          rw [e] at h0
          repeat walk_at "evs"
          exact h0 rfl
        | nil =>
          rw [e] at h0 h1
          obtain ⟨hb1, hb2⟩ := split3 ok e
          repeat walk_at "evs"
          refine X2.of (notin_tupS a ["call", "loop"]) ?_
          repeat walk_at "evs"
          cases hA : [("call" : Str), "loop"].contains a with
          | false =>
            repeat walk_at "evs"
            exact h0 (by simp only [hA, Bool.false_and])
          | true =>
            repeat walk_at "evs"
            refine w_spelling (by omega) ?_
            repeat walk_at "evs"
            cases hB : spS b with
            | false =>
              repeat walk_at "evs"
              exact h0 (by simp only [hB, Bool.and_false, Bool.false_and])
            | true =>
              repeat walk_at "evs"
              refine X2.of (notin_tupS c ["0", "1", "2", "3", "4", "5"]) ?_
              repeat walk_at "evs"
              cases hC : [("0" : Str), "1", "2", "3", "4", "5"].contains c with
              | false =>
                repeat walk_at "evs"
                exact h0 (by simp only [hC, Bool.and_false])
              | true =>
                have h1 := h1 (by simp only [hA, hB, hC, Bool.and_self])
                have ha : a = "call" ∧ (if a = "call" then 0 else 2) = 0 ∨ a = "loop" ∧ (if a = "call" then 0 else 2) = 2 := by
                  simp only [List.contains_iff_mem, List.mem_cons, List.not_mem_nil, or_false] at hA
                  rcases hA with rfl | rfl
                  · exact .inl ⟨rfl, by decide⟩
                  · exact .inr ⟨rfl, by decide⟩
                repeat walk_at "evs"
                simp only [List.contains_iff_mem, List.mem_cons, List.not_mem_nil, or_false] at hC
                rcases hC with rfl | rfl | rfl | rfl | rfl | rfl
                · refine XL.of (z := .int 0) (by kernel_rfl) ?_
                  repeat walk_at "evs"
                  exact h1 _ _ _ ha
                · refine XL.of (z := .int 1) (by kernel_rfl) ?_
                  repeat walk_at "evs"
                  exact h1 _ _ _ ha
                · refine XL.of (z := .int 2) (by kernel_rfl) ?_
                  repeat walk_at "evs"
                  exact h1 _ _ _ ha
                · refine XL.of (z := .int 3) (by kernel_rfl) ?_
                  repeat walk_at "evs"
                  exact h1 _ _ _ ha
                · refine XL.of (z := .int 4) (by kernel_rfl) ?_
                  repeat walk_at "evs"
                  exact h1 _ _ _ ha
                · refine XL.of (z := .int 5) (by kernel_rfl) ?_
                  repeat walk_at "evs"
                  exact h1 _ _ _ ha
/-! ### shapes -/
theorem not_sh_tab : ∀ z ∈ ck_SHAPES, isSh z = false ∧ isCa z = false := by decide +kernel
theorem call_not_sh {z : Str} (h : isCa z = true) : isSh z = false := by
  unfold isCa at h
  unfold isSh
  split at h
  · rename_i e; rw [e]
  · cases h
/-- of a head: its kind and its parts' -/
def baseS (z : Str) : D := match lk ck_SHAPES cv_SHAPES z with
  | some d => d
  | none => if isSh z then .tup [.str "word", .tup [.str "word"]] else .non
theorem inKd {z : Str} {ks : List Str} {vs : List D} : gIn (.str z) (.kd ks vs) = some (.bl (lk ks vs z).isSome) := rfl
theorem w_shape_of {z : Str} {sto : Sto} {E : XPost} {P : D → Sto → Prop} (h : P (baseS z) sto) : Wf (f_shape_of [.str z] sto) E P := by
  refine Wf.fn ?_
  unfold m_shape_of
  repeat walk_at "evs"
  refine X2.of inKd ?_
  repeat walk_at "evs"
  unfold baseS at h
  cases e : lk ck_SHAPES cv_SHAPES z with
  | some d =>
    rw [e] at h
    repeat walk_at "evs"
    exact X2.of e h
  | none =>
    rw [e] at h
    repeat walk_at "evs"
    refine w_bits_up (fun hh => ?_) (fun hh i => ?_)
    · simp only [hh] at h
      repeat walk_at "evs"
      exact h
    · simp only [hh] at h
      repeat walk_at "evs"
      refine Xc.t (decide_eq_true (by omega)) ?_
      repeat walk_at "evs"
      exact h

abbrev Sp := Str × List Str
def tabK : List Sp := [("word", ["word", "word"]), ("word", ["word", "word"]), ("word", ["word", "word"]), ("word", ["word", "word"]), ("word", ["word", "word"]), ("word", ["word", "word"]), ("word", ["word"]), ("word", ["word"]), ("word", ["word"]), ("word", ["truth", "word", "word"]), ("truth", ["word", "word"]), ("truth", ["word", "word"]), ("truth", ["word", "word"]), ("truth", ["truth", "truth"]), ("truth", ["truth", "truth"]), ("truth", ["truth"])]
def enc (p : Sp) : D := .tup [.str p.1, .tup (p.2.map .str)]
def encL (p : Sp) : D := .lst [.str p.1, .lst (p.2.map .str)]
theorem cv_tab : cv_SHAPES = tabK.map enc := rfl
theorem lk_map {α β γ : Type} [DecidableEq α] (f : β → γ) (z : α) : ∀ (ks : List α) (vs : List β), lk ks (vs.map f) z = (lk ks vs z).map f
  | [], vs => by cases vs <;> (unfold lk; rfl)
  | k :: ks, [] => by unfold lk; rfl
  | k :: ks, v :: vs => by
    rw [List.map_cons]
    unfold lk
    by_cases h : z = k
    · rw [if_pos h, if_pos h]; rfl
    · rw [if_neg h, if_neg h]; exact lk_map f z ks vs
def bs (z : Str) : Option Sp := match lk ck_SHAPES tabK z with
  | some p => some p
  | none => if isSh z then some ("word", ["word"]) else none
def encO : Option Sp → D
  | some p => enc p
  | none => .non
theorem baseS_bs (z : Str) : baseS z = encO (bs z) := by
  unfold baseS bs
  rw [cv_tab, lk_map]
  cases lk ck_SHAPES tabK z with
  | some p => rfl
  | none =>
    show (if isSh z then _ else _) = encO (if isSh z then _ else _)
    cases isSh z <;> rfl
def shp (z : Str) (n : Nat) : Option Sp := if isCa z then (if loC z ≤ n ∧ n ≤ loC z / 2 + 6 then some ("word", List.replicate n "word") else none) else match bs z with
  | some p => if p.2.length = n then some p else none
  | none => none
theorem rep_word (n : Nat) : (List.replicate n [D.str "word"]).flatten = (List.replicate n ("word" : Str)).map .str := by
  induction n with
  | zero => rfl
  | succ n ih => rw [List.replicate_succ, List.replicate_succ, List.flatten_cons, ih]; rfl
theorem w_shape_in {z : Str} {n : Nat} {sto : Sto} {E : XPost} {P : D → Sto → Prop} (hz : z.length ≤ 1000000) (ok : PyData.strOk z = true) (h : P (encO (shp z n)) sto) : Wf (f_shape_in [.str z, .int n] sto) E P := by
  refine Wf.fn ?_
  unfold m_shape_in
  repeat walk_at "evs"
  unfold shp at h
  refine w_call_of hz ok (fun hc => ?_) fun hc a b c ha => ?_
  · rw [hc] at h
    repeat walk_at "evs"
    refine w_shape_of ?_
    rw [baseS_bs]
    simp only [Bool.false_eq_true, if_false] at h
    cases e : bs z with
    | none =>
      rw [e] at h
      unfold encO
      repeat walk_at "evs"
      exact h
    | some p =>
      rw [e] at h
      unfold encO enc
      repeat walk_at "evs"
      refine @Xc.d _ _ _ _ (fun h1 => ?_) fun h1 => ?_
      · repeat walk_at "evs"
        simp only [List.length_map] at h1
        simp only [show p.2.length = n by omega, if_true] at h
        exact h
      · repeat walk_at "evs"
        simp only [List.length_map] at h1
        simp only [show ¬ p.2.length = n by omega, if_false] at h
        exact h
  · rw [hc] at h
    repeat walk_at "evs"
    have fin : ∀ lo : Int, lo = loC z → (P (encO (if lo ≤ n ∧ (n : Int) ≤ lo / 2 + 6 then some ("word", List.replicate n "word") else none)) sto) := by
      intro lo hl
      simp only [if_true] at h
      have : (lo ≤ n ∧ (n : Int) ≤ lo / 2 + 6) ↔ (loC z ≤ n ∧ n ≤ loC z / 2 + 6) := by omega
      simp only [this]
      exact h
    rcases ha with ⟨rfl, ha⟩ | ⟨rfl, ha⟩
    · refine Xc.t (by decide) ?_
      have h := fin 0 (by rw [ha]; rfl)
      repeat walk_at "evs"
      refine @Xc.n _ _ _ (@Xc.d _ _ _ _ (fun h2 => ?_) fun h2 => ?_)
      · repeat walk_at "evs"
        have hr : gRepT (.tup [.str "word"]) (.int n) = some (.tup ((List.replicate n ("word" : Str)).map .str)) := by
          show (if (n : Int) ≤ 1000 ∧ -1000 ≤ (n : Int) ∧ [D.str "word"].length ≤ 1000 then some (D.tup (List.replicate (n : Int).toNat [D.str "word"]).flatten) else none) = _
          rw [if_pos ⟨by omega, by omega, by decide⟩, Int.toNat_natCast, rep_word]
        refine X2.of hr ?_
        repeat walk_at "evs"
        rw [if_pos (by omega)] at h
        exact h
      · repeat walk_at "evs"
        rw [if_neg (by omega)] at h
        exact h
    · refine Xc.f (by decide) ?_
      have h := fin 2 (by rw [ha]; rfl)
      repeat walk_at "evs"
      refine @Xc.d _ _ _ _ (fun h1 => ?_) fun h1 => ?_
      · repeat walk_at "evs"
        refine @Xc.n _ _ _ (@Xc.d _ _ _ _ (fun h2 => ?_) fun h2 => ?_)
        · repeat walk_at "evs"
          have hr : gRepT (.tup [.str "word"]) (.int n) = some (.tup ((List.replicate n ("word" : Str)).map .str)) := by
            show (if (n : Int) ≤ 1000 ∧ -1000 ≤ (n : Int) ∧ [D.str "word"].length ≤ 1000 then some (D.tup (List.replicate (n : Int).toNat [D.str "word"]).flatten) else none) = _
            rw [if_pos ⟨by omega, by omega, by decide⟩, Int.toNat_natCast, rep_word]
          refine X2.of hr ?_
          repeat walk_at "evs"
          rw [if_pos (by omega)] at h
          exact h
        · repeat walk_at "evs"
          rw [if_neg (by omega)] at h
          exact h
      · repeat walk_at "evs"
        rw [if_neg (by omega)] at h
        exact h

/-! ### the law's shapes -/
theorem of_ro {E : XPost} {P : D → Sto → Prop} {r : RS} {xs : List D} {sto : Sto} (e : r = .ro xs sto) (h : P (.lst xs) sto) : Wf r E P := by subst e; exact h
theorem sub1 : ∀ z ∈ [("add" : Str), "sub", "mul", "and", "or", "xor", "neg", "flip", "at"], z ∈ ck_SHAPES := by decide +kernel
theorem sub2 : ∀ z ∈ [("eq" : Str), "lt", "less", "both", "either", "no"], z ∈ ck_SHAPES := by decide +kernel
theorem inD_none {z : Str} {ks : List Str} {ds : List D} (h : z ∉ ks) : gInD (.str z) (.dic (ks.map .inr) ds) = some (.bl false) := by
  show some (D.bl (lk (ks.map fun k => (.inr k : Key)) ds (.inr z)).isSome) = _
  rw [lkI_none h]; rfl
theorem lk_some_mem {β : Type} {z : Str} : ∀ {ks : List Str} {vs : List β}, ks.length ≤ vs.length → z ∈ ks → lk ks vs z ≠ none
  | k :: ks, v :: vs, hl, h => by
    unfold lk
    by_cases e : z = k
    · rw [if_pos e]; exact fun h => by cases h
    · rw [if_neg e]
      refine lk_some_mem (by simpa using hl) ((List.mem_cons.mp h).resolve_left e)
  | k :: ks, [], hl, h => by simp at hl
def encO' : Option Sp → D
  | some p => encL p
  | none => .non
theorem We.disp {E : XPost} {s : Sx} {Q : D → Sx → Prop} {ks : List Str} {m : M (List D)} (h : We (m s) E fun ds s1 => Q (.dic (ks.map .inr) ds) s1) : We (mDisp ks m s) E Q := We.bind (h.imp fun ds s1 q => We.pure q)
theorem gStr_int {i : Int} (h : i.natAbs < 1920) : gStr [.int i] = some (.str (toString i)) := by
  unfold gStr
  simp only
  rw [if_pos (Nat.lt_of_le_of_lt (Nat.log2_le_self _) h)]
def stI (d : D) : D := match d with | .int i => .str (toString i) | _ => .non
theorem fig_all : ((rngL 1 31).filter fun _ => true).map stI = figL.map .str := by kernel_rfl
theorem Ws.st {m : MS} {s s' : Sx} {k : Kp} (e : s = s') (h : Ws (m s') k) : Ws (m s) k := by rw [e]; exact h
theorem Xc.b {b : Bool} {x y : Prop} (h1 : b = true → x) (h2 : b = false → y) : Xc b x y := ⟨h1, h2⟩
theorem We.repF {E : XPost} {s : Sx} {Q : List D → Sx → Prop} {ml : M (List D)} {mb : M D} (h : We (ml s) E fun xs s1 => We (mb s1) E fun d s2 => ∃ k : Int, d = .int k ∧ 0 ≤ k ∧ k ≤ 1000 ∧ xs.length * k.toNat ≤ sizeLine ∧ Q (List.replicate k.toNat xs).flatten s2) : We (mRepF ml mb s) E Q :=
  We.bind (h.imp fun xs s1 h => We.bind (h.imp fun d s2 ⟨k, e, h1, h2, h3, q⟩ => by
    subst e
    show We ((if -(2 ^ 63) ≤ k ∧ k < 2 ^ 63 ∧ xs.length * k.toNat ≤ sizeLine then M.pure (List.replicate k.toNat xs).flatten else fun _ => .bad) s2) E Q
    rw [if_pos ⟨Int.le_trans (by decide) h1, Int.lt_of_le_of_lt h2 (by decide), h3⟩]
    exact We.pure q))
theorem we_rep {n : Nat} {s : Sx} {E : XPost} {Q : D → Sx → Prop} (hn : n ≤ 1000) (e : s.env[1]? = some (.sh (.int n))) (q : Q (.lst ((List.replicate n ("word" : Str)).map .str)) s) : We (mSh (mRepF (mLst (mCons (mC (.str "word")) (mNil))) (mVar 1)) s) E Q := by
  have hn' : (n : Int) ≤ 1000 := Int.ofNat_le.mpr hn
  have hnl : 1 * (n : Int).toNat ≤ sizeLine := by rw [sz_line]; omega
  refine We.sh (We.repF (We.lst (We.cons (We.c (We.nil ⟨by rw [sz_line]; decide, We.var e ⟨(n : Int), rfl, Int.natCast_nonneg n, hn', hnl, ?_⟩⟩)))))
  rw [Int.toNat_natCast, rep_word]
  exact q

/-! ### leaves -/
def intB : D → Bool
  | .int v => decide (-2147483647 ≤ v ∧ v ≤ 2147483647)
  | _ => false
def nameB (d : D) : Bool := spelD d && !(match d with | .str z => [("true" : Str), "false"].contains z | _ => false)
/-- a text's bounds -/
def txtOk (d : D) : Prop := ∀ z, d = .str z → z.length ≤ 1000000 ∧ PyData.strOk z = true
theorem w_within_any {d : D} {sto : Sto} {E : XPost} {P : D → Sto → Prop} (hp : d.pure = true) (h : P (.bl (intB d)) sto) : Wf (f_is_within [d, .int (-2147483647), .int 2147483647] sto) E P := by
  cases d with
  | int v => exact w_is_within h
  | non => exact Wf.of_eq (d := .bl false) rfl h
  | bl b => exact Wf.of_eq (d := .bl false) rfl h
  | str z => exact Wf.of_eq (d := .bl false) rfl h
  | lst xs => exact Wf.of_eq (d := .bl false) rfl h
  | tup xs => exact Wf.of_eq (d := .bl false) rfl h
  | _ => cases hp
theorem w_spelling_any {d : D} {sto : Sto} {E : XPost} {P : D → Sto → Prop} (hp : d.pure = true) (ht : txtOk d) (h : P (.bl (spelD d)) sto) : Wf (f_is_spelling [d] sto) E P := by
  cases d with
  | str z => exact w_spelling (ht z rfl).1 h
  | non => exact Wf.of_eq (d := .bl false) rfl h
  | bl b => exact Wf.of_eq (d := .bl false) rfl h
  | int z => exact Wf.of_eq (d := .bl false) rfl h
  | lst xs => exact Wf.of_eq (d := .bl false) rfl h
  | tup xs => exact Wf.of_eq (d := .bl false) rfl h
  | _ => cases hp
theorem spelD_str {d : D} (h : spelD d = true) : ∃ z, d = .str z := by
  cases d with
  | str z => exact ⟨z, rfl⟩
  | _ => cases h
theorem w_is_name {d : D} {sto : Sto} {E : XPost} {P : D → Sto → Prop} (hp : d.pure = true) (ht : txtOk d) (h : P (.bl (nameB d)) sto) : Wf (f_is_name [d] sto) E P := by
  refine Wf.fn ?_
  unfold m_is_name
  repeat walk_at "evs"
  refine w_spelling_any hp ht ?_
  unfold nameB at h
  cases hs : spelD d with
  | false =>
    rw [hs] at h
    repeat walk_at "evs"
    exact h
  | true =>
    rw [hs] at h
    obtain ⟨z, rfl⟩ := spelD_str hs
    repeat walk_at "evs"
    refine X2.of (notin_tupS z ["true", "false"]) ?_
    exact h
/-- of what a leaf is -/
def leafK (z : Str) (r : List D) : Option Str :=
  if z = "true" ∨ z = "false" then (if r.length = 0 then some "truth" else none)
  else match r with
    | [x] => if z = "number" then (if intB x then some "word" else none) else if z = "name" then (if nameB x then some "word" else none) else (if spelD x then some "truth" else none)
    | _ => none
def leafB (z : Str) (r : List D) : Bool := (leafK z r).isSome
def kv : Option Str → D
  | some z => .str z
  | none => .non

/-! ### is_leaf -/
theorem at0 {α : Type} {x : α} {r : List α} : atI (x :: r) 0 = some x := by
  unfold atI ixN
  rw [if_pos (by omega), if_pos (by simp only [List.length_cons]; omega)]; rfl
theorem at1 {α : Type} {x y : α} {r : List α} : atI (x :: y :: r) 1 = some y := by
  unfold atI ixN
  rw [if_pos (by omega), if_pos (by simp only [List.length_cons]; omega)]; rfl
theorem w_is_leafT {z : Str} {r : List D} {sto : Sto} {E : XPost} {P : D → Sto → Prop} (hz : z ∈ ck_LEAF_KINDS) (hp : ∀ x ∈ r, x.pure = true ∧ txtOk x) (h : P (.bl (leafB z r)) sto) : Wf (f_is_leaf [.tup (.str z :: r)] sto) E P := by
  refine Wf.fn ?_
  unfold m_is_leaf
  simp only [ck_LEAF_KINDS, List.mem_cons, List.not_mem_nil, or_false] at hz
  have e2 : ∀ n : Nat, decide (((n + 1 : Nat) : Int) = 1) = decide (n = 0) := fun n => by rw [Bool.eq_iff_iff]; simp only [decide_eq_true_eq]; omega
  repeat walk_at "evs"
  refine We.ixT at0 ?_
  repeat walk_at "evs"
  rcases hz with rfl | rfl | rfl | rfl | rfl
  · refine X2.of (z := .bl false) (by kernel_rfl) ?_
    repeat walk_at "evs"
    match r, hp, h with
    | [], hp, h =>
      repeat walk_at "evs"
      exact h
    | x :: y :: r, hp, h =>
      repeat walk_at "evs"
      exact h
    | [x], hp, h =>
      have e : leafB "number" [x] = intB x := by
        show (if intB x then _ else _ : Option Str).isSome = _
        cases intB x <;> rfl
      rw [e] at h
      repeat walk_at "evs"
      exact w_within_any (hp x List.mem_cons_self).1 h
  · refine X2.of (z := .bl false) (by kernel_rfl) ?_
    repeat walk_at "evs"
    match r, hp, h with
    | [], hp, h =>
      repeat walk_at "evs"
      exact h
    | x :: y :: r, hp, h =>
      repeat walk_at "evs"
      exact h
    | [x], hp, h =>
      have e : leafB "name" [x] = nameB x := by
        show (if nameB x then _ else _ : Option Str).isSome = _
        cases nameB x <;> rfl
      rw [e] at h
      repeat walk_at "evs"
      exact w_is_name (hp x List.mem_cons_self).1 (hp x List.mem_cons_self).2 h
  · refine X2.of (z := .bl false) (by kernel_rfl) ?_
    repeat walk_at "evs"
    match r, hp, h with
    | [], hp, h =>
      repeat walk_at "evs"
      exact h
    | x :: y :: r, hp, h =>
      repeat walk_at "evs"
      exact h
    | [x], hp, h =>
      have e : leafB "flag" [x] = spelD x := by
        show (if spelD x then _ else _ : Option Str).isSome = _
        cases spelD x <;> rfl
      rw [e] at h
      repeat walk_at "evs"
      exact w_spelling_any (hp x List.mem_cons_self).1 (hp x List.mem_cons_self).2 h
  · refine X2.of (z := .bl true) (by kernel_rfl) ?_
    repeat walk_at "evs"
    have e : leafB "true" r = decide (r.length = 0) := by
      show (if r.length = 0 then some ("truth" : Str) else none).isSome = _
      by_cases hr : r.length = 0 <;> simp [hr]
    rw [e, ← e2] at h
    exact h
  · refine X2.of (z := .bl true) (by kernel_rfl) ?_
    repeat walk_at "evs"
    have e : leafB "false" r = decide (r.length = 0) := by
      show (if r.length = 0 then some ("truth" : Str) else none).isSome = _
      by_cases hr : r.length = 0 <;> simp [hr]
    rw [e, ← e2] at h
    exact h
theorem w_is_leafL {z : Str} {r : List D} {sto : Sto} {E : XPost} {P : D → Sto → Prop} (hz : z ∈ ck_LEAF_KINDS) (hp : ∀ x ∈ r, x.pure = true ∧ txtOk x) (h : P (.bl (leafB z r)) sto) : Wf (f_is_leaf [.lst (.str z :: r)] sto) E P := by
  refine Wf.fn ?_
  unfold m_is_leaf
  simp only [ck_LEAF_KINDS, List.mem_cons, List.not_mem_nil, or_false] at hz
  have e2 : ∀ n : Nat, decide (((n + 1 : Nat) : Int) = 1) = decide (n = 0) := fun n => by rw [Bool.eq_iff_iff]; simp only [decide_eq_true_eq]; omega
  repeat walk_at "evs"
  refine We.ixL at0 ?_
  repeat walk_at "evs"
  rcases hz with rfl | rfl | rfl | rfl | rfl
  · refine X2.of (z := .bl false) (by kernel_rfl) ?_
    repeat walk_at "evs"
    match r, hp, h with
    | [], hp, h =>
      repeat walk_at "evs"
      exact h
    | x :: y :: r, hp, h =>
      repeat walk_at "evs"
      exact h
    | [x], hp, h =>
      have e : leafB "number" [x] = intB x := by
        show (if intB x then _ else _ : Option Str).isSome = _
        cases intB x <;> rfl
      rw [e] at h
      repeat walk_at "evs"
      exact w_within_any (hp x List.mem_cons_self).1 h
  · refine X2.of (z := .bl false) (by kernel_rfl) ?_
    repeat walk_at "evs"
    match r, hp, h with
    | [], hp, h =>
      repeat walk_at "evs"
      exact h
    | x :: y :: r, hp, h =>
      repeat walk_at "evs"
      exact h
    | [x], hp, h =>
      have e : leafB "name" [x] = nameB x := by
        show (if nameB x then _ else _ : Option Str).isSome = _
        cases nameB x <;> rfl
      rw [e] at h
      repeat walk_at "evs"
      exact w_is_name (hp x List.mem_cons_self).1 (hp x List.mem_cons_self).2 h
  · refine X2.of (z := .bl false) (by kernel_rfl) ?_
    repeat walk_at "evs"
    match r, hp, h with
    | [], hp, h =>
      repeat walk_at "evs"
      exact h
    | x :: y :: r, hp, h =>
      repeat walk_at "evs"
      exact h
    | [x], hp, h =>
      have e : leafB "flag" [x] = spelD x := by
        show (if spelD x then _ else _ : Option Str).isSome = _
        cases spelD x <;> rfl
      rw [e] at h
      repeat walk_at "evs"
      exact w_spelling_any (hp x List.mem_cons_self).1 (hp x List.mem_cons_self).2 h
  · refine X2.of (z := .bl true) (by kernel_rfl) ?_
    repeat walk_at "evs"
    have e : leafB "true" r = decide (r.length = 0) := by
      show (if r.length = 0 then some ("truth" : Str) else none).isSome = _
      by_cases hr : r.length = 0 <;> simp [hr]
    rw [e, ← e2] at h
    exact h
  · refine X2.of (z := .bl true) (by kernel_rfl) ?_
    repeat walk_at "evs"
    have e : leafB "false" r = decide (r.length = 0) := by
      show (if r.length = 0 then some ("truth" : Str) else none).isSome = _
      by_cases hr : r.length = 0 <;> simp [hr]
    rw [e, ← e2] at h
    exact h

/-! ### kinds -/
def kindD : Nat → D → Option Str
  | 0, _ => none
  | n + 1, d => match (match d with | .lst xs => xs | .tup xs => xs | _ => []) with
    | .str z :: r => if ck_LEAF_KINDS.contains z then leafK z r else match shp z r.length with
      | some p => if r.map (kindD n) = p.2.map some then some p.1 else none
      | none => none
    | _ => none
theorem Pv.pure {n w : Nat} {d : D} (h : Pv n w d) : d.pure = true := by
  have := h.b
  unfold pvB at this
  simp only [Bool.and_eq_true] at this
  exact this.1
theorem Pv.txt {n w : Nat} {d : D} (h : Pv n w d) (hw : w ≤ 1000000) : txtOk d := by
  intro z e
  subst e
  refine ⟨?_, ?_⟩
  · have := h.wt
    simp only [D.py, PyData.weight] at this
    have e : z.cps.size = z.length := rfl
    omega
  · have := h.b
    unfold pvB at this
    simp only [Bool.and_eq_true, D.py, PyData.canLay0] at this
    exact this.2.1
theorem Pvs.all {n w : Nat} {ds : List D} (h : Pvs n w ds) (hw : w ≤ 1000000) : ∀ x ∈ ds, x.pure = true ∧ txtOk x := fun x hx =>
  ⟨(h.mem hx).pure, (h.mem hx).txt hw⟩
/-- the two kinds -/
def isK (z : Str) : Prop := z = "word" ∨ z = "truth"
theorem isK_ok {z : Str} (h : isK z) : PyData.strOk z = true := by
  rcases h with rfl | rfl <;> decide +kernel
theorem eq_kv {a : Option Str} {k : Str} (hk : isK k) : gEq (kv a) (.str k) = some (.bl (decide (a = some k))) := by
  cases a with
  | none =>
    rcases hk with rfl | rfl <;> kernel_rfl
  | some z =>
    show some (D.bl (decide (z = k))) = _
    congr 2
    rw [Bool.eq_iff_iff]
    simp
theorem tab_isK : ∀ p ∈ tabK, isK p.1 ∧ ∀ k ∈ p.2, isK k := by
  unfold isK
  decide +kernel
theorem lk_mem {α β : Type} [DecidableEq α] {z : α} {p : β} : ∀ {ks : List α} {vs : List β}, lk ks vs z = some p → p ∈ vs
  | [], vs, h => by cases vs <;> (unfold lk at h; cases h)
  | k :: ks, [], h => by unfold lk at h; cases h
  | k :: ks, v :: vs, h => by
    unfold lk at h
    split at h
    · cases h; exact List.mem_cons_self
    · exact List.mem_cons_of_mem _ (lk_mem h)
theorem shp_isK {z : Str} {n : Nat} {p : Sp} (h : shp z n = some p) : isK p.1 ∧ (∀ k ∈ p.2, isK k) ∧ p.2.length = n := by
  unfold shp at h
  split at h
  · split at h
    · cases h
      exact ⟨.inl rfl, fun k hk => .inl (List.eq_of_mem_replicate hk), List.length_replicate ..⟩
    · cases h
  · split at h
    · rename_i q e
      split at h
      · cases h
        rename_i hl
        unfold bs at e
        split at e
        · rename_i q' e'
          cases e
          exact ⟨(tab_isK _ (lk_mem e')).1, (tab_isK _ (lk_mem e')).2, hl⟩
        · split at e
          · cases e
            exact ⟨.inl rfl, fun k hk => .inl (by simpa using hk), hl⟩
          · cases e
      · cases h
    · cases h

theorem leafK_isK {z : Str} {r : List D} {k : Str} (h : leafK z r = some k) : isK k := by
  unfold leafK at h
  split at h
  · split at h
    · cases h; exact .inr rfl
    · cases h
  · split at h
    · split at h
      · split at h
        · cases h; exact .inl rfl
        · cases h
      · split at h
        · split at h
          · cases h; exact .inl rfl
          · cases h
        · split at h
          · cases h; exact .inr rfl
          · cases h
    · cases h
theorem kindD_isK {n : Nat} {d : D} {k : Str} (h : kindD n d = some k) : isK k := by
  cases n with
  | zero => unfold kindD at h; cases h
  | succ n =>
    unfold kindD at h
    split at h
    · split at h
      · exact leafK_isK h
      · split at h
        · rename_i p e
          split at h
          · cases h; exact (shp_isK e).1
          · cases h
        · cases h
    · cases h
def okK (a : Option Str) : Prop := ∀ k, a = some k → isK k
theorem kv_pure (a : Option Str) : (kv a).pure = true := by cases a <;> rfl
theorem kvs_pure : ∀ l : List (Option Str), pures (l.map kv) = true
  | [] => rfl
  | a :: r => by
    show ((kv a).pure && pures (r.map kv)) = true
    rw [kv_pure, kvs_pure r]; rfl
theorem kvs_lay : ∀ l : List (Option Str), (∀ a ∈ l, okK a) → PyData.canLayAll0 (pys (l.map kv)) = true
  | [], _ => rfl
  | a :: r, h => by
    have h1 := kvs_lay r fun b hb => h b (List.mem_cons_of_mem _ hb)
    have h2 := h a List.mem_cons_self
    simp only [List.map_cons, pys, PyData.canLayAll0, h1, Bool.and_true]
    cases a with
    | none => rfl
    | some k =>
      show PyData.canLay0 (.str k) = true
      simp only [PyData.canLay0]
      exact isK_ok (h2 k rfl)
theorem kvs_depth : ∀ l : List (Option Str), PyData.depthAll (pys (l.map kv)) ≤ 1
  | [] => Nat.zero_le _
  | a :: r => by
    have := kvs_depth r
    simp only [List.map_cons, pys, PyData.depthAll]
    have e : (kv a).py.depth = 0 := by cases a <;> rfl
    rw [e]
    omega
theorem kvs_shaped {l : List (Option Str)} (h : ∀ a ∈ l, okK a) : SeqAt.shaped (D.lst (l.map kv)).py = true := by
  unfold SeqAt.shaped
  simp only [D.py, PyData.canLay0, PyData.depth, Bool.and_eq_true, decide_eq_true_eq]
  have := kvs_depth l
  exact ⟨kvs_lay l h, by omega⟩
theorem eqv_kv (a b : Option Str) : PyData.eqv (kv a).py (kv b).py = decide (a = b) := by
  cases a <;> cases b
  · rfl
  · rfl
  · rfl
  · rename_i x y
    show (PyData.eqv (.str x) (.str y)) = _
    simp only [PyData.eqv]
    rw [Bool.eq_iff_iff]; simp
theorem eqvAll_kv : ∀ l m : List (Option Str), PyData.eqvAll (pys (l.map kv)) (pys (m.map kv)) = decide (l = m)
  | [], [] => rfl
  | [], _ :: _ => rfl
  | _ :: _, [] => rfl
  | a :: l, b :: m => by
    simp only [List.map_cons, pys, PyData.eqvAll, eqv_kv, eqvAll_kv l m]
    rw [Bool.eq_iff_iff]; simp
theorem eq_kvs {l : List (Option Str)} {as : List Str} (hl : ∀ a ∈ l, okK a) (ha : ∀ k ∈ as, isK k) : gEq (.lst (l.map kv)) (.lst (as.map .str)) = some (.bl (decide (l = as.map some))) := by
  have e : as.map D.str = (as.map some).map kv := by rw [List.map_map]; rfl
  rw [e]
  show gEqD _ _ = _
  unfold gEqD
  have hm : ∀ a ∈ as.map some, okK a := by
    intro a h k hk
    obtain ⟨z, hz, rfl⟩ := List.mem_map.mp h
    cases hk
    exact ha _ hz
  rw [if_pos]
  · congr 2
    show PyData.eqv (.list _) (.list _) = _
    simp only [PyData.eqv]
    exact eqvAll_kv _ _
  · simp only [Bool.and_eq_true]
    exact ⟨⟨⟨by unfold D.pure; exact kvs_pure _, by unfold D.pure; exact kvs_pure _⟩, kvs_shaped hl⟩, kvs_shaped hm⟩

/-! ### the law's kind -/
theorem in_five {z : Str} : z ∈ ck_LEAF_KINDS ↔ (z = "true" ∨ z = "false") ∨ (z = "number" ∨ z = "name" ∨ z = "flag") := by
  simp only [ck_LEAF_KINDS, List.mem_cons, List.not_mem_nil, or_false]
  constructor
  · rintro (h | h | h | h | h) <;> simp [h]
  · rintro ((h | h) | (h | h | h)) <;> simp [h]
def absI (i : Int) : Int := if i < 0 then -i else i
theorem abs_in (i : Int) : decide (absI i ≤ 2147483647) = decide (-2147483647 ≤ i ∧ i ≤ 2147483647) := by
  unfold absI
  rw [Bool.eq_iff_iff]
  simp only [decide_eq_true_eq]
  split <;> omega

/-! ### the law's kind, whole -/
theorem kind_leaf {k : Nat} {z : Str} {r : List D} (hz : z ∈ ck_LEAF_KINDS) : kindD (k + 1) (.tup (.str z :: r)) = leafK z r ∧ kindD (k + 1) (.lst (.str z :: r)) = leafK z r := by
  have : ck_LEAF_KINDS.contains z = true := List.contains_iff_mem.mpr hz
  constructor <;> (unfold kindD; simp only [this, if_true])
theorem cut1 {x : D} {r : List D} : cutD (x :: r) (some 1) none = r := by
  unfold cutD
  have e1 : HT.sIx (x :: r).length 0 (some 1) = 1 := (HT.sIx_nat _ _ 1).trans (by simp only [List.length_cons]; omega)
  have e2 : HT.sIx (x :: r).length (x :: r).length none = r.length + 1 := rfl
  rw [e1, e2]
  simp
def shapeK (k : Nat) (z : Str) (r : List D) : Option Str := match shp z r.length with
  | some p => if r.map (kindD k) = p.2.map some then some p.1 else none
  | none => none
theorem kind_shape {k : Nat} {z : Str} {r : List D} (hz : z ∉ ck_LEAF_KINDS) : kindD (k + 1) (.tup (.str z :: r)) = shapeK k z r ∧ kindD (k + 1) (.lst (.str z :: r)) = shapeK k z r := by
  have : ck_LEAF_KINDS.contains z = false := by
    cases h : ck_LEAF_KINDS.contains z with
    | false => rfl
    | true => exact absurd (List.contains_iff_mem.mp h) hz
  constructor <;> (unfold kindD; simp only [this, Bool.false_eq_true, if_false]; rfl)

theorem sz_of_wt {n w : Nat} : ∀ {ds : List D}, Pvs n w ds → ds.length ≤ w
  | [], _ => Nat.zero_le _
  | d :: ds, h => by
    obtain ⟨w1, w2, e, a, b⟩ := h.uncons
    have := sz_of_wt b
    simp only [List.length_cons]
    omega

/-! ### own kind_of -/
theorem leaf_kind {z : Str} {r : List D} (hz : z ∈ ck_LEAF_KINDS) : ∃ k : Str, lk ck_LEAF_KINDS cv_LEAF_KINDS z = some (.str k) ∧ kv (leafK z r) = if leafB z r then .str k else .non := by
  simp only [ck_LEAF_KINDS, List.mem_cons, List.not_mem_nil, or_false] at hz
  rcases hz with rfl | rfl | rfl | rfl | rfl
  · refine ⟨"word", by kernel_rfl, ?_⟩
    match r with
    | [] => rfl
    | _ :: _ :: _ => rfl
    | [x] =>
      show kv (if intB x then some "word" else none) = if (if intB x then some ("word" : Str) else none).isSome then _ else _
      cases intB x <;> rfl
  · refine ⟨"word", by kernel_rfl, ?_⟩
    match r with
    | [] => rfl
    | _ :: _ :: _ => rfl
    | [x] =>
      show kv (if nameB x then some "word" else none) = if (if nameB x then some ("word" : Str) else none).isSome then _ else _
      cases nameB x <;> rfl
  · refine ⟨"truth", by kernel_rfl, ?_⟩
    match r with
    | [] => rfl
    | _ :: _ :: _ => rfl
    | [x] =>
      show kv (if spelD x then some "truth" else none) = if (if spelD x then some ("truth" : Str) else none).isSome then _ else _
      cases spelD x <;> rfl
  · refine ⟨"truth", by kernel_rfl, ?_⟩
    cases r <;> rfl
  · refine ⟨"truth", by kernel_rfl, ?_⟩
    cases r <;> rfl
theorem w_ownLeafT {f : Fn} {z : Str} {r : List D} {sto : Sto} {E : XPost} {P : D → Sto → Prop} (hz : z ∈ ck_LEAF_KINDS) (hp : ∀ x ∈ r, x.pure = true ∧ txtOk x) (h : P (kv (leafK z r)) sto) : Wf (bodyF 4 (m_kind_of f) [.tup (.str z :: r)] sto) E P := by
  obtain ⟨k, hk, ek⟩ := leaf_kind (r := r) hz
  rw [ek] at h
  have gi : gIn (.str z) (.kd ck_LEAF_KINDS cv_LEAF_KINDS) = some (.bl true) := by rw [inKd, hk]; rfl
  refine Wf.fn ?_
  unfold m_kind_of
  repeat walk_at "evs"
  refine We.ixT at0 ?_
  repeat walk_at "evs"
  refine We.ixT at0 ?_
  repeat walk_at "evs"
  refine X2.of gi ?_
  repeat walk_at "evs"
  refine w_is_leafT hz hp ?_
  repeat walk_at "evs"
  cases hb : leafB z r with
  | false =>
    rw [hb] at h
    repeat walk_at "evs"
    exact h
  | true =>
    rw [hb] at h
    repeat walk_at "evs"
    refine We.ixT at0 ?_
    exact X2.of hk h
theorem w_ownLeafL {f : Fn} {z : Str} {r : List D} {sto : Sto} {E : XPost} {P : D → Sto → Prop} (hz : z ∈ ck_LEAF_KINDS) (hp : ∀ x ∈ r, x.pure = true ∧ txtOk x) (h : P (kv (leafK z r)) sto) : Wf (bodyF 4 (m_kind_of f) [.lst (.str z :: r)] sto) E P := by
  obtain ⟨k, hk, ek⟩ := leaf_kind (r := r) hz
  rw [ek] at h
  have gi : gIn (.str z) (.kd ck_LEAF_KINDS cv_LEAF_KINDS) = some (.bl true) := by rw [inKd, hk]; rfl
  refine Wf.fn ?_
  unfold m_kind_of
  repeat walk_at "evs"
  refine We.ixL at0 ?_
  repeat walk_at "evs"
  refine We.ixL at0 ?_
  repeat walk_at "evs"
  refine X2.of gi ?_
  repeat walk_at "evs"
  refine w_is_leafL hz hp ?_
  repeat walk_at "evs"
  cases hb : leafB z r with
  | false =>
    rw [hb] at h
    repeat walk_at "evs"
    exact h
  | true =>
    rw [hb] at h
    repeat walk_at "evs"
    refine We.ixL at0 ?_
    exact X2.of hk h

def kg (k : Nat) : D → Bool
  | .tup [x, .str z] => decide (kindD k x = some z)
  | _ => false
theorem zip_kinds (k : Nat) : ∀ (r : List D) (as : List Str), r.length = as.length → ((zipD r (as.map .str)).map (kg k)).all id = decide (r.map (kindD k) = as.map some)
  | [], [], _ => rfl
  | x :: r, a :: as, h => by
    have ih := zip_kinds k r as (by simpa using h)
    show (decide (kindD k x = some a) && ((zipD r (as.map .str)).map (kg k)).all id) = _
    rw [ih, Bool.eq_iff_iff]
    simp
  | [], _ :: _, h => by cases h
  | _ :: _, [], h => by cases h
theorem zip_mem : ∀ {r : List D} {as : List Str} {d : D}, d ∈ zipD r (as.map .str) → ∃ x a, x ∈ r ∧ a ∈ as ∧ d = .tup [x, .str a]
  | [], as, d, h => by unfold zipD at h; cases h
  | x :: r, [], d, h => by unfold zipD at h; cases h
  | x :: r, a :: as, d, h => by
    rcases List.mem_cons.mp (show d ∈ D.tup [x, .str a] :: zipD r (as.map .str) from h) with rfl | h
    · exact ⟨x, a, List.mem_cons_self, List.mem_cons_self, rfl⟩
    · obtain ⟨y, b, h1, h2, h3⟩ := zip_mem h
      exact ⟨y, b, List.mem_cons_of_mem _ h1, List.mem_cons_of_mem _ h2, h3⟩
theorem w_ownShapeT {k : Nat} {z : Str} {r : List D} {sto : Sto} {E : XPost} {P : D → Sto → Prop} (hz : z ∉ ck_LEAF_KINDS) (hl : z.length ≤ 1000000) (ok : PyData.strOk z = true) (hr : r.length < sizeLine)
    (ih : ∀ x ∈ r, ∀ {sto : Sto} {E : XPost} {P : D → Sto → Prop}, P (kv (kindD k x)) sto → Wf (f_kind_of k [x] sto) E P) (h : P (kv (shapeK k z r)) sto) : Wf (bodyF 4 (m_kind_of (f_kind_of k)) [.tup (.str z :: r)] sto) E P := by
  have gi : gIn (.str z) (.kd ck_LEAF_KINDS cv_LEAF_KINDS) = some (.bl false) := by rw [inKd, lk_out hz]; rfl
  refine Wf.fn ?_
  unfold m_kind_of
  repeat walk_at "evs"
  refine We.ixT at0 ?_
  repeat walk_at "evs"
  refine We.ixT at0 ?_
  repeat walk_at "evs"
  refine X2.of gi ?_
  repeat walk_at "evs"
  refine We.ixT at0 ?_
  repeat walk_at "evs"
  have el : ((D.str z :: r).length : Int) - 1 = (r.length : Int) := by simp only [List.length_cons]; omega
  rw [el]
  unfold shapeK at h
  refine w_shape_in hl ok ?_
  cases hp : shp z r.length with
  | none =>
    rw [hp] at h
    unfold encO
    repeat walk_at "evs"
    exact h
  | some p =>
    rw [hp] at h
    have hk := shp_isK hp
    unfold encO enc
    repeat walk_at "evs"
    have hzl : (zipD r (p.2.map .str)).length ≤ r.length := by rw [zipD_len]; omega
    refine We.compP (fun _ => true) (fun d => .bl (kg k d)) ?_
    repeat walk_at "evs"
    rw [cut1]
    refine ⟨zipD r (p.2.map .str), rfl, rfl, by omega, fun d hd => ?_, ?_⟩
    · obtain ⟨x, a, hx, ha, rfl⟩ := zip_mem hd
      refine ⟨_, rfl, rfl, rfl, We.pure ⟨rfl, rfl, fun _ => ?_⟩⟩
      unfold m_kind_of_e1
      repeat walk_at "evs"
      refine ih x hx ?_
      repeat walk_at "evs"
      exact X2.of (eq_kv (hk.2.1 a ha)) ⟨rfl, rfl⟩
    · rw [List.filter_eq_self.mpr (fun _ _ => rfl)]
      repeat walk_at "evs"
      refine XL.of (g := gAll) (z := .bl (decide (r.map (kindD k) = p.2.map some))) ?_ ?_
      · unfold gAll
        simp only [asBs_map, Option.map_some]
        rw [zip_kinds k r p.2 hk.2.2.symm]
      · repeat walk_at "evs"
        refine @Xc.n _ _ _ (@Xc.d _ _ _ _ (fun h3 => ?_) fun h3 => ?_)
        · simp only [if_pos h3] at h
          repeat walk_at "evs"
          exact h
        · simp only [if_neg h3] at h
          repeat walk_at "evs"
          exact h
theorem w_ownShapeL {k : Nat} {z : Str} {r : List D} {sto : Sto} {E : XPost} {P : D → Sto → Prop} (hz : z ∉ ck_LEAF_KINDS) (hl : z.length ≤ 1000000) (ok : PyData.strOk z = true) (hr : r.length < sizeLine)
    (ih : ∀ x ∈ r, ∀ {sto : Sto} {E : XPost} {P : D → Sto → Prop}, P (kv (kindD k x)) sto → Wf (f_kind_of k [x] sto) E P) (h : P (kv (shapeK k z r)) sto) : Wf (bodyF 4 (m_kind_of (f_kind_of k)) [.lst (.str z :: r)] sto) E P := by
  have gi : gIn (.str z) (.kd ck_LEAF_KINDS cv_LEAF_KINDS) = some (.bl false) := by rw [inKd, lk_out hz]; rfl
  refine Wf.fn ?_
  unfold m_kind_of
  repeat walk_at "evs"
  refine We.ixL at0 ?_
  repeat walk_at "evs"
  refine We.ixL at0 ?_
  repeat walk_at "evs"
  refine X2.of gi ?_
  repeat walk_at "evs"
  refine We.ixL at0 ?_
  repeat walk_at "evs"
  have el : ((D.str z :: r).length : Int) - 1 = (r.length : Int) := by simp only [List.length_cons]; omega
  rw [el]
  unfold shapeK at h
  refine w_shape_in hl ok ?_
  cases hp : shp z r.length with
  | none =>
    rw [hp] at h
    unfold encO
    repeat walk_at "evs"
    exact h
  | some p =>
    rw [hp] at h
    have hk := shp_isK hp
    unfold encO enc
    repeat walk_at "evs"
    have hzl : (zipD r (p.2.map .str)).length ≤ r.length := by rw [zipD_len]; omega
    refine We.compP (fun _ => true) (fun d => .bl (kg k d)) ?_
    repeat walk_at "evs"
    rw [cut1]
    refine ⟨zipD r (p.2.map .str), rfl, rfl, by omega, fun d hd => ?_, ?_⟩
    · obtain ⟨x, a, hx, ha, rfl⟩ := zip_mem hd
      refine ⟨_, rfl, rfl, rfl, We.pure ⟨rfl, rfl, fun _ => ?_⟩⟩
      unfold m_kind_of_e1
      repeat walk_at "evs"
      refine ih x hx ?_
      repeat walk_at "evs"
      exact X2.of (eq_kv (hk.2.1 a ha)) ⟨rfl, rfl⟩
    · rw [List.filter_eq_self.mpr (fun _ _ => rfl)]
      repeat walk_at "evs"
      refine XL.of (g := gAll) (z := .bl (decide (r.map (kindD k) = p.2.map some))) ?_ ?_
      · unfold gAll
        simp only [asBs_map, Option.map_some]
        rw [zip_kinds k r p.2 hk.2.2.symm]
      · repeat walk_at "evs"
        refine @Xc.n _ _ _ (@Xc.d _ _ _ _ (fun h3 => ?_) fun h3 => ?_)
        · simp only [if_pos h3] at h
          repeat walk_at "evs"
          exact h
        · simp only [if_neg h3] at h
          repeat walk_at "evs"
          exact h

theorem w_kind_of : ∀ (k n w : Nat) (d : D) {sto : Sto} {E : XPost} {P : D → Sto → Prop}, Pv n w d → n < k → w ≤ 1000000 → P (kv (kindD k d)) sto → Wf (f_kind_of k [d] sto) E P
  | 0, n, w, d, _, _, _, hd, hn, hw, h => absurd hn (by omega)
  | k + 1, n, w, d, sto, E, P, hd, hn, hw, h => by
    show Wf (bodyF 4 (m_kind_of (f_kind_of k)) [d] sto) E P
    have seq : ∀ r : List D, ∀ m, Pvs m w r → m < k → ∀ x ∈ r, ∀ {sto : Sto} {E : XPost} {P : D → Sto → Prop}, P (kv (kindD k x)) sto → Wf (f_kind_of k [x] sto) E P :=
      fun r m hr hm x hx _ _ _ h => w_kind_of k m w x (hr.mem hx) hm hw h
    cases d with
    | non =>
      refine Wf.fn ?_
      unfold m_kind_of
      repeat walk_at "evs"
      exact h
    | bl b =>
      refine Wf.fn ?_
      unfold m_kind_of
      repeat walk_at "evs"
      exact h
    | int i =>
      refine Wf.fn ?_
      unfold m_kind_of
      repeat walk_at "evs"
      exact h
    | str z =>
      refine Wf.fn ?_
      unfold m_kind_of
      repeat walk_at "evs"
      exact h
    | tup xs =>
      obtain ⟨m, hm, hs⟩ := hd.untup
      cases xs with
      | nil =>
        refine Wf.fn ?_
        unfold m_kind_of
        repeat walk_at "evs"
        exact h
      | cons y r =>
        obtain ⟨w1, w2, hw1, hy, hr⟩ := hs.uncons
        have hl : r.length < sizeLine := by
          have := sz_of_wt hr
          rw [sz_line]; omega
        have other : (∀ z, y ≠ .str z) → kindD (k + 1) (.tup (y :: r)) = none := by
          intro hn
          unfold kindD
          cases y <;> first | rfl | exact absurd rfl (hn _)
        cases y with
        | str z =>
          have ht := hy.txt (by omega) z rfl
          by_cases hz : z ∈ ck_LEAF_KINDS
          · rw [(kind_leaf hz).1] at h
            exact w_ownLeafT hz (hr.all (by omega)) h
          · rw [(kind_shape hz).1] at h
            exact w_ownShapeT hz ht.1 ht.2 hl (seq r m (hr.mono (Nat.le_refl _) (by omega)) (by omega)) h
        | non =>
          rw [other (fun z hz => by cases hz)] at h
          refine Wf.fn ?_
          unfold m_kind_of
          repeat walk_at "evs"
          refine We.ixT at0 ?_
          repeat walk_at "evs"
          exact h
        | bl b =>
          rw [other (fun z hz => by cases hz)] at h
          refine Wf.fn ?_
          unfold m_kind_of
          repeat walk_at "evs"
          refine We.ixT at0 ?_
          repeat walk_at "evs"
          exact h
        | int i =>
          rw [other (fun z hz => by cases hz)] at h
          refine Wf.fn ?_
          unfold m_kind_of
          repeat walk_at "evs"
          refine We.ixT at0 ?_
          repeat walk_at "evs"
          exact h
        | lst b =>
          rw [other (fun z hz => by cases hz)] at h
          refine Wf.fn ?_
          unfold m_kind_of
          repeat walk_at "evs"
          refine We.ixT at0 ?_
          repeat walk_at "evs"
          exact h
        | tup b =>
          rw [other (fun z hz => by cases hz)] at h
          refine Wf.fn ?_
          unfold m_kind_of
          repeat walk_at "evs"
          refine We.ixT at0 ?_
          repeat walk_at "evs"
          exact h
        | _ => exact absurd hy.pure (by intro e; cases e)
    | lst xs =>
      obtain ⟨m, hm, hs⟩ := hd.unlst
      cases xs with
      | nil =>
        refine Wf.fn ?_
        unfold m_kind_of
        repeat walk_at "evs"
        exact h
      | cons y r =>
        obtain ⟨w1, w2, hw1, hy, hr⟩ := hs.uncons
        have hl : r.length < sizeLine := by
          have := sz_of_wt hr
          rw [sz_line]; omega
        have other : (∀ z, y ≠ .str z) → kindD (k + 1) (.lst (y :: r)) = none := by
          intro hn
          unfold kindD
          cases y <;> first | rfl | exact absurd rfl (hn _)
        cases y with
        | str z =>
          have ht := hy.txt (by omega) z rfl
          by_cases hz : z ∈ ck_LEAF_KINDS
          · rw [(kind_leaf hz).2] at h
            exact w_ownLeafL hz (hr.all (by omega)) h
          · rw [(kind_shape hz).2] at h
            exact w_ownShapeL hz ht.1 ht.2 hl (seq r m (hr.mono (Nat.le_refl _) (by omega)) (by omega)) h
        | non =>
          rw [other (fun z hz => by cases hz)] at h
          refine Wf.fn ?_
          unfold m_kind_of
          repeat walk_at "evs"
          refine We.ixL at0 ?_
          repeat walk_at "evs"
          exact h
        | bl b =>
          rw [other (fun z hz => by cases hz)] at h
          refine Wf.fn ?_
          unfold m_kind_of
          repeat walk_at "evs"
          refine We.ixL at0 ?_
          repeat walk_at "evs"
          exact h
        | int i =>
          rw [other (fun z hz => by cases hz)] at h
          refine Wf.fn ?_
          unfold m_kind_of
          repeat walk_at "evs"
          refine We.ixL at0 ?_
          repeat walk_at "evs"
          exact h
        | lst b =>
          rw [other (fun z hz => by cases hz)] at h
          refine Wf.fn ?_
          unfold m_kind_of
          repeat walk_at "evs"
          refine We.ixL at0 ?_
          repeat walk_at "evs"
          exact h
        | tup b =>
          rw [other (fun z hz => by cases hz)] at h
          refine Wf.fn ?_
          unfold m_kind_of
          repeat walk_at "evs"
          refine We.ixL at0 ?_
          repeat walk_at "evs"
          exact h
        | _ => exact absurd hy.pure (by intro e; cases e)
    | _ => exact absurd hd.pure (by intro e; cases e)

/-! ### fixed -/
def fixD : Nat → D → D
  | 0, d => d
  | n + 1, d => match d with
    | .lst xs => .tup (xs.map (fixD n))
    | .tup xs => .tup (xs.map (fixD n))
    | d => d
theorem leafK_fix {z : Str} {r : List D} {f : D → D} (h1 : ∀ x, intB (f x) = intB x) (h2 : ∀ x, spelD (f x) = spelD x) (h3 : ∀ x, nameB (f x) = nameB x) : leafK z (r.map f) = leafK z r := by
  unfold leafK
  match r with
  | [] => rfl
  | [x] => simp only [List.map_cons, List.map_nil, h1, h2, h3, List.length_cons, List.length_nil]
  | x :: y :: r => rfl
theorem fix_leaf (n : Nat) (x : D) : intB (fixD n x) = intB x ∧ spelD (fixD n x) = spelD x ∧ nameB (fixD n x) = nameB x := by
  cases n with
  | zero => exact ⟨rfl, rfl, rfl⟩
  | succ n => cases x <;> exact ⟨rfl, rfl, rfl⟩
theorem Pvs.mapFix {f : D → D} {n : Nat} : ∀ {w : Nat} {ds : List D}, Pvs n w ds → (∀ x ∈ ds, ∀ v, Pv n v x → Pv n v (f x)) → Pvs n w (ds.map f)
  | _, [], h, _ => h
  | _, d :: ds, h, hf => by
    obtain ⟨w1, w2, e, a, b⟩ := h.uncons
    have := Pvs.cons (hf d List.mem_cons_self _ a) (Pvs.mapFix b fun x hx => hf x (List.mem_cons_of_mem _ hx))
    rw [← e]
    exact this
theorem Pv.fix : ∀ (k : Nat) {n w : Nat} {d : D}, Pv n w d → Pv n w (fixD k d)
  | 0, _, _, _, h => h
  | k + 1, n, w, d, h => by
    cases d with
    | lst xs =>
      obtain ⟨m, e, hs⟩ := h.unlst
      subst e
      exact Pv.tup (Pvs.mapFix hs fun x hx v hv => Pv.fix k hv)
    | tup xs =>
      obtain ⟨m, e, hs⟩ := h.untup
      subst e
      exact Pv.tup (Pvs.mapFix hs fun x hx v hv => Pv.fix k hv)
    | _ => exact h

theorem fix_str {j : Nat} {z : Str} : fixD j (.str z) = .str z := by cases j <;> rfl
theorem fix_not_str {j : Nat} {y : D} (h : ∀ z, y ≠ .str z) : ∀ z, fixD j y ≠ .str z := by
  intro z e
  cases j with
  | zero => exact h z e
  | succ j => cases y <;> first | exact h _ rfl | cases e
def itD : D → List D
  | .lst xs => xs
  | .tup xs => xs
  | _ => []
def kindL (k : Nat) : List D → Option Str
  | .str z :: r => if ck_LEAF_KINDS.contains z then leafK z r else shapeK k z r
  | _ => none
theorem kind_it (k : Nat) (d : D) : kindD (k + 1) d = kindL k (itD d) := by
  unfold kindD
  show (match itD d with
    | .str z :: r => if ck_LEAF_KINDS.contains z then leafK z r else match shp z r.length with
      | some p => if r.map (kindD k) = p.2.map some then some p.1 else none
      | none => none
    | _ => none) = _
  unfold kindL
  split <;> rfl
theorem kindL_not {k : Nat} {y : D} {r : List D} (h : ∀ z, y ≠ .str z) : kindL k (y :: r) = none := by
  unfold kindL
  split
  · rename_i z r e
    cases e
    exact absurd rfl (h z)
  · rfl
theorem kindL_fix {j k : Nat} (ih : ∀ x, kindD k (fixD j x) = kindD k x) : ∀ xs : List D, kindL k (xs.map (fixD j)) = kindL k xs
  | [] => rfl
  | y :: r => by
    by_cases h : ∃ z, y = .str z
    · obtain ⟨z, rfl⟩ := h
      rw [List.map_cons, fix_str]
      show (if ck_LEAF_KINDS.contains z then leafK z (r.map (fixD j)) else shapeK k z (r.map (fixD j))) = (if ck_LEAF_KINDS.contains z then leafK z r else shapeK k z r)
      rw [leafK_fix (fun x => (fix_leaf j x).1) (fun x => (fix_leaf j x).2.1) (fun x => (fix_leaf j x).2.2)]
      have : shapeK k z (r.map (fixD j)) = shapeK k z r := by
        unfold shapeK
        rw [List.length_map, List.map_map]
        have e : (kindD k ∘ fixD j) = kindD k := funext ih
        rw [e]
      rw [this]
    · have h' : ∀ z, y ≠ .str z := fun z e => h ⟨z, e⟩
      rw [List.map_cons, kindL_not (fix_not_str h'), kindL_not h']
theorem kind_fix : ∀ (j k : Nat) (d : D), kindD k (fixD j d) = kindD k d
  | 0, _, _ => rfl
  | _ + 1, 0, _ => rfl
  | j + 1, k + 1, d => by
    rw [kind_it, kind_it]
    have ih := kindL_fix (j := j) (k := k) fun x => kind_fix j k x
    cases d with
    | lst xs => exact ih xs
    | tup xs => exact ih xs
    | _ => rfl

theorem w_fixed : ∀ (k n w : Nat) (d : D) {sto : Sto} {E : XPost} {P : D → Sto → Prop}, Pv n w d → n < k → w ≤ 1000000 → P (fixD k d) sto → Wf (f_fixed k [d] sto) E P
  | 0, n, w, d, _, _, _, hd, hn, hw, h => absurd hn (by omega)
  | k + 1, n, w, d, sto, E, P, hd, hn, hw, h => by
    show Wf (bodyF 2 (m_fixed (f_fixed k)) [d] sto) E P
    have seq : ∀ r : List D, ∀ m, Pvs m w r → m < k → ∀ x ∈ r, ∀ {sto : Sto} {E : XPost} {P : D → Sto → Prop}, P (fixD k x) sto → Wf (f_fixed k [x] sto) E P :=
      fun r m hr hm x hx _ _ _ h => w_fixed k m w x (hr.mem hx) hm hw h
    refine Wf.fn ?_
    unfold m_fixed
    cases d with
    | non =>
      repeat walk_at "evs"
      exact h
    | bl b =>
      repeat walk_at "evs"
      exact h
    | int b =>
      repeat walk_at "evs"
      exact h
    | str b =>
      repeat walk_at "evs"
      exact h
    | lst xs =>
      obtain ⟨m, hm, hs⟩ := hd.unlst
      have hl := sz_of_wt hs
      repeat walk_at "evs"
      refine We.compP (fun _ => true) (fixD k) ?_
      repeat walk_at "evs"
      refine ⟨rfl, by rw [sz_line]; omega, fun x hx => ?_, ?_⟩
      · refine ⟨_, rfl, rfl, rfl, We.pure ⟨rfl, rfl, fun _ => ?_⟩⟩
        unfold m_fixed_e1
        repeat walk_at "evs"
        exact seq xs m hs (by omega) x hx ⟨rfl, rfl⟩
      · rw [List.filter_eq_self.mpr (fun _ _ => rfl)]
        repeat walk_at "evs"
        exact XL.of rfl h
    | tup xs =>
      obtain ⟨m, hm, hs⟩ := hd.untup
      have hl := sz_of_wt hs
      repeat walk_at "evs"
      refine We.compP (fun _ => true) (fixD k) ?_
      repeat walk_at "evs"
      refine ⟨rfl, by rw [sz_line]; omega, fun x hx => ?_, ?_⟩
      · refine ⟨_, rfl, rfl, rfl, We.pure ⟨rfl, rfl, fun _ => ?_⟩⟩
        unfold m_fixed_e1
        repeat walk_at "evs"
        exact seq xs m hs (by omega) x hx ⟨rfl, rfl⟩
      · rw [List.filter_eq_self.mpr (fun _ _ => rfl)]
        repeat walk_at "evs"
        exact XL.of rfl h
    | _ => exact absurd hd.pure (by intro e; cases e)

/-! ### refusals -/
theorem Ws.raise {x f : Str} {ma : M D} {s : Sx} {k : Kp} (h : We (ma s) k.ex fun d s1 => k.ex x [f] [d] s1.sto) : Ws (sRaise x f ma s) k := Ws.bind (h.imp fun d s1 h => h)
theorem w_need_bad {n w : Nat} {d p : D} {sto : Sto} {E : XPost} {P : D → Sto → Prop} (hd : Pv n w d) (hn : n < 40) (hw : w ≤ 1000000) (hk : kindD 40 d = none) (h : E "BadTerm" ["part"] [p] sto) : Wf (f_need_term [d, p] sto) E P := by
  refine Wf.fn ?_
  unfold m_need_term
  repeat walk_at "evs"
  refine w_kind_of 40 n w d hd hn hw ?_
  rw [hk]
  unfold kv
  repeat walk_at "evs"
  refine Ws.raise ?_
  repeat walk_at "evs"
  exact h
theorem w_need_ok {n w : Nat} {d p : D} {k : Str} {sto : Sto} {E : XPost} {P : D → Sto → Prop} (hd : Pv n w d) (hn : n < 40) (hw : w ≤ 1000000) (hk : kindD 40 d = some k) (h : P (fixD 40 d) sto) : Wf (f_need_term [d, p] sto) E P := by
  refine Wf.fn ?_
  unfold m_need_term
  repeat walk_at "evs"
  refine w_kind_of 40 n w d hd hn hw ?_
  rw [hk]
  unfold kv
  repeat walk_at "evs"
  exact w_fixed 40 n w d hd hn hw h

theorem Wf.lam {E : XPost} {P : D → Sto → Prop} {m : M D} {dd ds : List D} {nm : Nat} {s : Sx} {sto : Sto} (h : We (m ⟨hideOw s.env ++ ((ds ++ dd).map .sh ++ List.replicate nm .un), sto⟩) E fun d s' => P d s'.sto) : Wf (lamF m dd nm s ds sto) E P := by
  unfold lamF
  cases e : m ⟨hideOw s.env ++ ((ds ++ dd).map .sh ++ List.replicate nm .un), sto⟩ with
  | ok d s' => rw [e] at h; exact h
  | exc c ns vs sto' => rw [e] at h; exact h
  | bad => rw [e] at h; exact h
theorem We.lam {E : XPost} {s : Sx} {Q : D → Sx → Prop} {F : Fn → Fn} {lf : Sx → Fn} {ml : M (List D)} (h : We (ml s) E fun ds s1 => Wf (F (lf s1) ds s1.sto) E fun d sto => Q d { s1 with sto := sto }) : We (mLam F lf ml s) E Q :=
  We.bind (h.imp fun ds s1 h => by
    show We (match F (lf s1) ds s1.sto with
      | .rt d sto => R.ok d { s1 with sto := sto }
      | .ro xs sto => .ok (.lst xs) { s1 with sto := sto }
      | .exc c ns vs sto => .exc c ns vs sto
      | _ => .bad) E Q
    cases e : F (lf s1) ds s1.sto <;> rw [e] at h <;> exact h)

/-! ### what is no term is refused everywhere -/
theorem We.pick {E : XPost} {s : Sx} {QL : List D → Sx → Prop} {idx : List Nat} {dz : List D} {ml mk : M (List D)} (h : We (ml s) E fun us s1 => We (mk s1) E fun ws s2 => QL (pick (us ++ dz ++ ws) idx) s2) : We (mPick idx dz ml mk s) E QL :=
  We.bind (h.imp fun us s1 h => We.bind (h.imp fun ws s2 h => h))
structure Bad (d : D) : Prop where
  ex : ∃ n w, Pv n w d ∧ n < 40 ∧ w ≤ 1000000
  no : kindD 40 d = none
theorem bad_need {d p : D} {sto : Sto} {E : XPost} {P : D → Sto → Prop} (hb : Bad d) (h : E "BadTerm" ["part"] [p] sto) : Wf (f_need_term [d, p] sto) E P := by
  obtain ⟨⟨n, w, a, b, c⟩, e⟩ := hb
  exact w_need_bad a b c e h
theorem bad_flags_in {d : D} {sto : Sto} {E : XPost} {P : D → Sto → Prop} (hb : Bad d) (h : E "BadTerm" ["part"] [.str "term"] sto) : Wf (f_flags_in [d] sto) E P := by
  refine Wf.fn ?_
  unfold m_flags_in
  repeat walk_at "evs"
  refine We.pick ?_
  repeat walk_at "evs"
  exact bad_need hb h
theorem bad_names_in {d : D} {sto : Sto} {E : XPost} {P : D → Sto → Prop} (hb : Bad d) (h : E "BadTerm" ["part"] [.str "term"] sto) : Wf (f_names_in [d] sto) E P := by
  refine Wf.fn ?_
  unfold m_names_in
  repeat walk_at "evs"
  refine We.pick ?_
  repeat walk_at "evs"
  exact bad_need hb h

/-! ### judged -/
structure Good (d : D) : Prop where
  ex : ∃ n w, Pv n w d ∧ n < 40 ∧ w ≤ 1000000
theorem g_kind_of {d : D} {sto : Sto} {E : XPost} {P : D → Sto → Prop} (hg : Good d) (h : P (kv (kindD 40 d)) sto) : Wf (f_kind_of 40 [d] sto) E P := by
  obtain ⟨n, w, a, b, c⟩ := hg
  exact w_kind_of 40 n w d a b c h
theorem g_repr {d : D} {P : D → Prop} (hg : Good d) (h : P (.str d.py.shown)) : XL gRepr [d] P := by
  obtain ⟨n, w, a, b, c⟩ := hg
  exact a.repr (by omega) c h

/-! ### judged rightly -/
theorem le_line {n : Nat} (h : Nat.ble n 1000000 = true) : n ≤ sizeLine := Nat.le_trans (Nat.le_of_ble_eq_true h) (by decide)
theorem X2.addL {xs ys : List D} {P : D → Prop} (hz : xs.length + ys.length ≤ sizeLine) (h : P (.lst (xs ++ ys))) : X2 gAdd (.lst xs) (.lst ys) P := ⟨_, by unfold gAdd; exact if_pos hz, h⟩
theorem X2.addT {xs ys : List D} {P : D → Prop} (hz : xs.length + ys.length ≤ sizeLine) (h : P (.tup (xs ++ ys))) : X2 gAdd (.tup xs) (.tup ys) P := ⟨_, by unfold gAdd; exact if_pos hz, h⟩
theorem We.rep9 {E : XPost} {s : Sx} {QL : List D → Sx → Prop} (h : QL (List.replicate 9 (.str "term")) s) : We (mRepF (mLst (mCons (mC (.str "term")) (mNil))) (mC (.int 9)) s) E QL := by
  have e : mRepF (mLst (mCons (mC (.str "term")) (mNil))) (mC (.int 9)) s = .ok (List.replicate 9 (.str "term")) s := by rfl
  rw [e]
  exact h
theorem two_kb (kb : Bool) : gRepr [.lst [.bl kb, .bl kb]] = some (.str (if kb then "[True, True]" else "[False, False]")) := by cases kb <;> kernel_rfl

/-! ### what is drawn -/
theorem We.compJ {E : XPost} {s : Sx} {Q : List D → Sx → Prop} {mi : M (List D)} {m : M D} {j : Nat} (J : List D → Sto → Prop)
    (h : We (mi s) E fun items s0 => noOw s0.env [j] = true ∧ j < s0.env.length ∧ items.length ≤ sizeLine ∧ J [] s0.sto ∧
      (∀ d acc sto, items[acc.length]? = some d → J acc sto → We (m ⟨s0.env.set j (.sh d), sto⟩) Xn fun z s2 => s2.env = s0.env.set j (.sh d) ∧ J (acc ++ [z]) s2.sto) ∧
      (∀ acc sto, acc.length = items.length → J acc sto → Q acc ⟨s0.env, sto⟩)) : We (mComp mi (tgN j) (M.pure true) m [j] s) E Q := by
  refine We.comp (h.imp fun items s0 ⟨h1, hj, h2, h3, h4, h5⟩ => ⟨h1, ?_⟩)
  obtain ⟨acc, s', e, e1, e2, e3⟩ := compL_inv (t := tgN j) (c := M.pure true) (m := m) (ws := [j]) (fun rest acc s => s.env.set j .un = s0.env.set j .un ∧ rest = items.drop acc.length ∧ acc.length ≤ items.length ∧ J acc s.sto)
    (by
      rintro d ds acc s ⟨a1, a2, a3, a4⟩
      have hd : items[acc.length]? = some d := by
        have : (items.drop acc.length)[0]? = some d := by rw [← a2]; rfl
        rwa [List.getElem?_drop, Nat.add_zero] at this
      have hlt : acc.length < items.length := (List.getElem?_eq_some_iff.mp hd).1
      refine ⟨by omega, _, rfl, ?_⟩
      refine We.pure (Xc.t rfl ?_)
      have en : ({ s with env := wipeE s.env [j] } : Sx).put j d = ⟨s0.env.set j (.sh d), s.sto⟩ := by
        show (⟨(s.env.set j .un).set j (.sh d), s.sto⟩ : Sx) = _
        rw [a1, List.set_set]
      have w := h4 d acc s.sto hd a4
      rw [← en] at w
      refine w.imp fun z s2 ⟨b1, b2⟩ => ⟨?_, ?_, ?_, b2⟩
      · rw [b1, List.set_set]
      · rw [List.length_append, List.length_singleton, ← List.drop_drop, ← a2]
        rfl
      · simp; omega)
    items [] s0 ⟨rfl, rfl, Nat.zero_le _, h3⟩
  refine ⟨acc, s', e, ?_⟩
  obtain ⟨e2, e4, e5⟩ := (⟨e2, e3⟩ : _ ∧ _ ∧ _)
  have hl : acc.length = items.length := by
    have : (items.drop acc.length).length = 0 := by rw [← e2]; rfl
    simp at this
    omega
  have w := h5 acc s'.sto hl e5
  have en : rest_ s0.env s'.env [j] = s0.env := by
    obtain ⟨x, hx⟩ : ∃ x, s0.env[j]? = some x := ⟨_, List.getElem?_eq_getElem hj⟩
    show (match s0.env[j]? with
      | some x => s'.env.set j x
      | none => s'.env) = _
    rw [hx]
    have z : (s'.env.set j .un).set j x = (s0.env.set j .un).set j x := by rw [e1]
    rw [List.set_set, List.set_set] at z
    show s'.env.set j x = s0.env
    rw [z]
    refine List.ext_getElem? fun i => ?_
    by_cases hi : j = i
    · subst hi; rw [List.getElem?_set_self hj, hx]
    · rw [List.getElem?_set_ne hi]
  show Q acc { env := rest_ s0.env s'.env [j], sto := s'.sto }
  rw [en]
  exact w
theorem We.jN {E : XPost} {s : Sx} {Q : D → Sx → Prop} {acc : Str} (h : Q (.str acc) s) : We (mJ [] acc s) E Q := h
theorem We.jC {E : XPost} {s : Sx} {Q : D → Sx → Prop} {acc : Str} {ma : M D} {ms : List (M D)} (h : We (ma s) E fun d s1 => ∃ y, d = .str y ∧ (acc ++ y).length ≤ sizeLine ∧ We (mJ ms (acc ++ y) s1) E Q) : We (mJ (ma :: ms) acc s) E Q := by
  unfold mJ
  refine We.bind (h.imp ?_)
  rintro d s1 ⟨y, rfl, hl, h⟩
  show We ((if (acc ++ y).length ≤ sizeLine then mJ ms (acc ++ y) else fun _ => .bad) s1) E Q
  rw [if_pos hl]
  exact h
theorem X1.fmtS {z : Str} {P : D → Prop} (hz : z.length ≤ sizeLine) (h : P (.str z)) : X1 gFmt (.str z) P := ⟨_, by unfold gFmt; exact if_pos hz, h⟩
theorem X1.fmtI {i : Int} {P : D → Prop} (hz : i.natAbs.log2 < 1920) (h : P (.str (toString i))) : X1 gFmt (.int i) P := ⟨_, by unfold gFmt; exact if_pos hz, h⟩
theorem log_small {i : Int} (h0 : 0 ≤ i) (h1 : i < 1000000) : i.natAbs.log2 < 1920 := by
  by_cases h : i = 0
  · subst h; decide
  · refine Nat.lt_of_lt_of_le ((Nat.log2_lt (k := 20) (by omega)).mpr ?_) (by decide)
    have : (2 : Nat) ^ 20 = 1048576 := by decide
    omega
theorem X1.fmtN {i : Int} {P : D → Prop} (h0 : 0 ≤ i) (h1 : i < 1000000) (h : P (.str (toString i))) : X1 gFmt (.int i) P := X1.fmtI (log_small h0 h1) h
def pvC (n w : Nat) (d : D) : Bool := pvB d && (decide (d.py.depth ≤ n) && decide (d.py.weight ≤ w))
theorem pvC.pv {n w : Nat} {d : D} (h : pvC n w d = true) : Pv n w d := by
  unfold pvC at h
  simp only [Bool.and_eq_true, decide_eq_true_eq] at h
  exact ⟨h.1, h.2.1, h.2.2⟩
theorem w_one {c : List Int} {B : Int} {xs : List D} {sto : Sto} {E : XPost} {P : D → Sto → Prop} (hc : Cs c) (h : Tr c B sto) (hB : B ≤ 1000000) (m1 : Nat.ble 1 xs.length = true) (m2 : Nat.ble xs.length 1000 = true)
    (k : ∀ d sto', Tr c (B + 1) sto' → d ∈ xs → P d sto') : Wf (f__law_one_of [.box 0, .lst xs] sto) E P :=
  w_one_of hc h hB (Nat.le_of_ble_eq_true m1) (Nat.lt_of_le_of_lt (Nat.le_of_ble_eq_true m2) (by decide)) k
abbrev spelts : List Str := ["x", "y", "z", "n2", "a", "longname"]
theorem spelts_pv : ∀ z ∈ spelts, pvC 0 8 (.str z) = true := by decide +kernel
theorem w_spelt {c : List Int} {B : Int} {sto : Sto} {E : XPost} {P : D → Sto → Prop} (hc : Cs c) (h : Tr c B sto) (hB : B ≤ 1000000)
    (k : ∀ z sto', Tr c (B + 1) sto' → z ∈ spelts → P (.str z) sto') : Wf (f__law_spelt [.box 0] sto) E P := by
  refine Wf.fn ?_
  unfold m__law_spelt
  repeat walk_at "evs"
  refine w_one_of hc h hB (by decide) (by decide) fun d sto' h' hd => ?_
  obtain ⟨z, hz, rfl⟩ : ∃ z ∈ spelts, d = .str z := by simpa using hd
  exact k z sto' h' hz
/-- an odd value -/
def oddL (n : Int) : List D := [.non, .bl true, .bl false, .int n, .str (toString n), .str "", .str "x", .lst [], .tup [], .tup [.str "number"], .tup [.str "number", .int 2147483648], .tup [.str "number", .bl true], .tup [.str "number", .str "5"]]
  ++ [.tup [.str "name", .str "true"], .tup [.str "name", .str "X"], .tup [.str "name", .str "ninesigns"], .tup [.str "name", .str "2x"], .tup [.str "flag", .str "true"], .tup [.str "flag", .str ""], .tup [.str "true", .int 1], .tup [.str "false"]]
  ++ [.tup [.str "name", .str "x", .str "y"], .lst [.str "name", .str "x"], .tup [.str "number", .int (-2147483647)], .tup [.str "call f 6"], .tup [.str "call f 0"], .tup [.str "call  f 0"], .tup [.str "loop f 0", .tup [.str "number", .int 1]]]
theorem oddL_pv : ∀ n : Nat, n < 9 → ∀ d ∈ oddL n, pvC 2 50 d = true := by
  unfold oddL
  decide +kernel

/-! ### terms of tuples -/
def flatD : D → Bool
  | .int _ => true
  | .str z => spelts.contains z
  | _ => false
mutual
inductive Te : Nat → Str → D → Prop
  | lf {n : Nat} {k z : Str} {r : List D} : ck_LEAF_KINDS.contains z = true → leafK z r = some k → r.all flatD = true → Pv 1 50 (.tup (.str z :: r)) → Te (n + 1) k (.tup (.str z :: r))
  | nd {n : Nat} {k z : Str} {ks : List Str} {r : List D} : ck_LEAF_KINDS.contains z = false → shp z r.length = some (k, ks) → Tes n ks r → (r.length ≤ 4 ∧ pvC 0 20 (.str z) = true) → Te (n + 1) k (.tup (.str z :: r))
inductive Tes : Nat → List Str → List D → Prop
  | nil {n : Nat} : Tes n [] []
  | cons {n : Nat} {k : Str} {ks : List Str} {d : D} {ds : List D} : Te n k d → Tes n ks ds → Tes n (k :: ks) (d :: ds)
end
theorem Tes.imp {n m : Nat} (h : ∀ k d, Te n k d → Te m k d) : ∀ {ks : List Str} {ds : List D}, Tes n ks ds → Tes m ks ds
  | _, _, .nil => .nil
  | _, _, .cons a b => .cons (h _ _ a) (Tes.imp h b)
theorem Te.up : ∀ {n m : Nat} {k : Str} {d : D}, Te n k d → n ≤ m → Te m k d
  | n + 1, 0, _, _, _, h => by omega
  | n + 1, m + 1, _, _, .lf a b c d, h => .lf a b c d
  | n + 1, m + 1, _, _, .nd a b c e, h => .nd a b (Tes.imp (fun k d q => Te.up q (by omega)) c) e
theorem Tes.kinds {n j : Nat} (h : ∀ k d, Te n k d → kindD j d = some k) : ∀ {ks : List Str} {ds : List D}, Tes n ks ds → ds.map (kindD j) = ks.map some
  | _, _, .nil => rfl
  | _, _, .cons a b => by rw [List.map_cons, List.map_cons, h _ _ a, Tes.kinds h b]
theorem Te.kd : ∀ {n j : Nat} {k : Str} {d : D}, Te n k d → n ≤ j → kindD j d = some k
  | n + 1, 0, _, _, _, h => by omega
  | n + 1, j + 1, _, _, .lf a b c _, h => by
    unfold kindD
    simp only [a, if_true]
    exact b
  | n + 1, j + 1, k, _, .nd (ks := ks) (r := r) (z := z) a b c _, h => by
    unfold kindD
    simp only [a, Bool.false_eq_true, if_false, b]
    rw [if_pos (Tes.kinds (fun k d q => Te.kd q (by omega)) c)]
theorem Tes.fx {n j : Nat} (h : ∀ k d, Te n k d → fixD j d = d) : ∀ {ks : List Str} {ds : List D}, Tes n ks ds → ds.map (fixD j) = ds
  | _, _, .nil => rfl
  | _, _, .cons a b => by rw [List.map_cons, h _ _ a, Tes.fx h b]
theorem fix_flat {j : Nat} : ∀ {r : List D}, r.all flatD = true → r.map (fixD j) = r
  | [], _ => rfl
  | d :: r, h => by
    rw [List.all_cons, Bool.and_eq_true] at h
    rw [List.map_cons, fix_flat h.2]
    congr 1
    cases j with
    | zero => rfl
    | succ j => cases d <;> first | rfl | cases h.1
theorem Te.fx : ∀ {n j : Nat} {k : Str} {d : D}, Te n k d → fixD j d = d
  | n + 1, 0, _, _, _ => rfl
  | n + 1, j + 1, _, _, .lf a b c _ => by
    unfold fixD
    show D.tup (List.map (fixD j) (_ :: _)) = _
    rw [List.map_cons, fix_str, fix_flat c]
  | n + 1, j + 1, k, _, .nd a b c _ => by
    unfold fixD
    show D.tup (List.map (fixD j) (_ :: _)) = _
    rw [List.map_cons, fix_str, Tes.fx (fun k d q => Te.fx q) c]
/-! ### leaves, nodes that are drawn -/
theorem te_true {n : Nat} : Te (n + 1) "truth" (.tup [.str "true"]) := .lf (by decide +kernel) (by decide +kernel) rfl (pvC.pv (by kernel_rfl))
theorem te_false {n : Nat} : Te (n + 1) "truth" (.tup [.str "false"]) := .lf (by decide +kernel) (by decide +kernel) rfl (pvC.pv (by kernel_rfl))
theorem flag_leaf : ∀ z ∈ spelts, leafK "flag" [.str z] = some "truth" ∧ pvC 1 50 (.tup [.str "flag", .str z]) = true := by decide +kernel
theorem name_leaf : ∀ z ∈ spelts, leafK "name" [.str z] = some "word" ∧ pvC 1 50 (.tup [.str "name", .str z]) = true := by decide +kernel
theorem flat1 {z : Str} (h : z ∈ spelts) : [D.str z].all flatD = true := by
  show (spelts.contains z && true) = true
  rw [Bool.and_true]
  exact List.contains_iff_mem.mpr h
theorem te_flag {n : Nat} {z : Str} (h : z ∈ spelts) : Te (n + 1) "truth" (.tup [.str "flag", .str z]) := .lf (by decide +kernel) (flag_leaf z h).1 (flat1 h) (pvC.pv (flag_leaf z h).2)
theorem te_name {n : Nat} {z : Str} (h : z ∈ spelts) : Te (n + 1) "word" (.tup [.str "name", .str z]) := .lf (by decide +kernel) (name_leaf z h).1 (flat1 h) (pvC.pv (name_leaf z h).2)
theorem num_leaf : ∀ n : Nat, n < 20 → leafK "number" [.int ((n : Int) - 10)] = some "word" ∧ pvC 1 50 (.tup [.str "number", .int ((n : Int) - 10)]) = true := by decide +kernel
theorem te_num {n : Nat} {x : D} {i : Int} (h0 : 0 ≤ i) (h1 : i < 20) (hd : x ∈ [D.int (i - 10), .int 2147483647, .int (-2147483647), .int 0]) : Te (n + 1) "word" (.tup [.str "number", x]) := by
  obtain ⟨m, rfl⟩ := Int.eq_ofNat_of_zero_le h0
  simp only [List.mem_cons, List.not_mem_nil, or_false] at hd
  rcases hd with rfl | rfl | rfl | rfl
  · exact .lf (by decide +kernel) (num_leaf m (by omega)).1 rfl (pvC.pv (num_leaf m (by omega)).2)
  · exact .lf (by decide +kernel) (by decide +kernel) rfl (pvC.pv (by kernel_rfl))
  · exact .lf (by decide +kernel) (by decide +kernel) rfl (pvC.pv (by kernel_rfl))
  · exact .lf (by decide +kernel) (by decide +kernel) rfl (pvC.pv (by kernel_rfl))
/-- parts of one kind -/
def Same (n : Nat) (k : Str) (ds : List D) : Prop := Tes n (List.replicate ds.length k) ds
theorem Tes.app {n : Nat} : ∀ {ks ls : List Str} {ds es : List D}, Tes n ks ds → Tes n ls es → Tes n (ks ++ ls) (ds ++ es)
  | _, _, _, _, .nil, h => h
  | _, _, _, _, .cons a b, h => .cons a (Tes.app b h)
theorem Same.snoc {n : Nat} {k : Str} {ds : List D} {d : D} (h : Same n k ds) (hd : Te n k d) : Same n k (ds ++ [d]) := by
  unfold Same at *
  rw [List.length_append, List.length_singleton, List.replicate_succ']
  exact Tes.app h (.cons hd .nil)
def okSh (z : Str) (k ki : Str) (L : Nat) : Bool := ((!ck_LEAF_KINDS.contains z) && decide (shp z L = some (k, List.replicate L ki))) && (decide (L ≤ 4) && pvC 0 20 (.str z))
theorem te_node {n : Nat} {k ki z : Str} {ds : List D} (h : okSh z k ki ds.length = true) (hs : Same n ki ds) : Te (n + 1) k (.tup (.str z :: ds)) := by
  unfold okSh at h
  rw [Bool.and_eq_true, Bool.and_eq_true, Bool.and_eq_true, Bool.not_eq_true'] at h
  exact .nd h.1.1 (of_decide_eq_true h.1.2) hs ⟨of_decide_eq_true h.2.1, h.2.2⟩
theorem call_shp : ∀ b ∈ spelts, ∀ n : Nat, n < 6 → ∀ L : Nat, L < 3 → okSh (((((Str.empty ++ "call") ++ " ") ++ b) ++ " ") ++ (toString (n : Int) : Str)) "word" "word" L = true := by decide +kernel
theorem loop_shp : ∀ b ∈ spelts, ∀ n : Nat, n < 6 → ∀ L : Nat, L < 3 → okSh (((((Str.empty ++ "loop") ++ " ") ++ b) ++ " ") ++ (toString (n : Int) : Str)) "word" "word" (2 + L) = true := by decide +kernel
theorem shl_shp : ∀ n : Nat, n < 32 → 0 < n → okSh ((Str.empty ++ "shl ") ++ (toString (n : Int) : Str)) "word" "word" 1 = true := by decide +kernel
theorem te_if {n : Nat} {a b c : D} (ha : Te n "truth" a) (hb : Te n "word" b) (hc : Te n "word" c) : Te (n + 1) "word" (.tup [.str "if", a, b, c]) :=
  .nd (ks := ["truth", "word", "word"]) (by decide +kernel) (by show shp "if" 3 = _; decide +kernel) (.cons ha (.cons hb (.cons hc .nil))) ⟨by show 3 ≤ 4; decide, by decide +kernel⟩

/-! ### drawn terms -/
def dN : Nat → Nat
  | 0 => 10
  | m + 1 => 10 + 4 * dN m
def dW : Nat → Nat
  | 0 => 50
  | m + 1 => 21 + 4 * (dW m + 1)
structure Rec (c : List Int) (m : Nat) (r : Fn) : Prop where
  go : ∀ {B : Int} {kd : Str} {sto : Sto} {E : XPost} {P : D → Sto → Prop}, Tr c B sto → B + dN m ≤ 1000000 → (kd = "truth" ∨ kd = "word") →
  (∀ d sto', Tr c (B + dN m) sto' → Pv (m + 1) (dW m) d → Te (m + 1) kd d → P d sto') → Wf (r [.box 0, .str kd, .int m] sto) E P
def PJ (c : List Int) (B : Int) (m : Nat) (kd : Str) (acc : List D) (sto : Sto) : Prop := Tr c (B + ((acc.length * dN m : Nat) : Int)) sto ∧ Pvs (m + 1) (acc.length * (dW m + 1)) acc ∧ Same (m + 1) kd acc
theorem w_parts {c : List Int} {m : Nat} {r : Fn} (hr : Rec c m r) {B : Int} {sto : Sto} (h : Tr c B sto) (hB : B + 4 * dN m ≤ 1000000) {mm : M D} {env : List Sl} {kd : Str} {items : List D} {Q : List D → Sto → Prop}
    (he : noOw env [8] = true) (hl : 8 < env.length) (hi : items.length ≤ 4) (hkd : kd = "truth" ∨ kd = "word")
    (hm : ∀ (d : D) (sto : Sto) (Q : D → Sx → Prop), Wf (r [.box 0, .str kd, .int m] sto) Xn (fun z sto' => Q z ⟨env.set 8 (.sh d), sto'⟩) → We (mm ⟨env.set 8 (.sh d), sto⟩) Xn Q)
    (k : ∀ acc sto', Tr c (B + 4 * dN m) sto' → Pvs (m + 1) (4 * (dW m + 1)) acc → acc.length = items.length → Same (m + 1) kd acc → Q acc sto') :
    noOw env [8] = true ∧ 8 < env.length ∧ items.length ≤ sizeLine ∧ PJ c B m kd [] sto ∧
      (∀ (d : D) (acc : List D) (sto : Sto), items[acc.length]? = some d → PJ c B m kd acc sto → We (mm ⟨env.set 8 (.sh d), sto⟩) Xn fun z s2 => s2.env = env.set 8 (.sh d) ∧ PJ c B m kd (acc ++ [z]) s2.sto) ∧
      (∀ (acc : List D) (sto : Sto), acc.length = items.length → PJ c B m kd acc sto → Q acc sto) := by
  have hz : sizeLine = 16777216 := by decide
  refine ⟨he, hl, by omega, ⟨h.mono (by simp), Pvs.nil, Tes.nil⟩, ?_, ?_⟩
  · rintro d acc sto hd ⟨h1, h2, hs⟩
    have hlt : acc.length < items.length := (List.getElem?_eq_some_iff.mp hd).1
    have l3 : acc.length * dN m ≤ 3 * dN m := Nat.mul_le_mul_right _ (by omega)
    refine hm d sto _ (hr.go h1 (by omega) hkd fun z sto' h3 h4 h5 => ⟨rfl, h3.mono ?_, (Pvs.append h2 (Pvs.cons h4 (Pvs.nil (w := 0)))).mono (Nat.le_refl _) ?_, hs.snoc h5⟩)
    · rw [List.length_append, List.length_singleton, Nat.succ_mul]
      omega
    · rw [List.length_append, List.length_singleton, Nat.succ_mul]
      omega
  · rintro acc sto hl ⟨h1, h2, hs⟩
    have l3 : acc.length * dN m ≤ 4 * dN m := Nat.mul_le_mul_right _ (by omega)
    have l4 : acc.length * (dW m + 1) ≤ 4 * (dW m + 1) := Nat.mul_le_mul_right _ (by omega)
    exact k acc sto (h1.mono (by omega)) (h2.mono (Nat.le_refl _) l4) hl hs
/-- a node -/
theorem node_pv {m : Nat} {z : Str} {acc : List D} (hz : pvC 0 20 (.str z) = true) (h : Pvs (m + 1) (4 * (dW m + 1)) acc) : Pv (m + 1 + 1) (dW (m + 1)) (.tup ([.str z] ++ acc)) :=
  (Pv.tup (Pvs.cons ((pvC.pv hz).mono (Nat.zero_le _) (Nat.le_refl _)) h)).mono (Nat.le_refl _) (by show 20 + 1 + 4 * (dW m + 1) ≤ 21 + 4 * (dW m + 1); omega)
theorem dN_pos (m : Nat) : 10 ≤ dN m := by cases m <;> (unfold dN; omega)
theorem dW_pos : ∀ m : Nat, 50 ≤ dW m
  | 0 => Nat.le_refl _
  | m + 1 => by
    have := dW_pos m
    show 50 ≤ 21 + 4 * (dW m + 1)
    omega
theorem leafT {n : Nat} {d : D} {z : Str} (hz : z ∈ spelts) (hd : d ∈ [D.tup [.str "true"], .tup [.str "false"], .tup [.str "flag", .str z]]) : Pv (n + 1) 50 d := by
  have hp := (pvC.pv (spelts_pv z hz)).mono (Nat.zero_le n) (Nat.le_refl 8)
  simp only [List.mem_cons, List.not_mem_nil, or_false] at hd
  rcases hd with rfl | rfl | rfl
  · exact (pvC.pv (n := 1) (w := 50) (by kernel_rfl)).mono (by omega) (by omega)
  · exact (pvC.pv (n := 1) (w := 50) (by kernel_rfl)).mono (by omega) (by omega)
  · exact (Pv.tup (Pvs.cons ((pvC.pv (n := 0) (w := 8) (by kernel_rfl)).mono (Nat.zero_le n) (Nat.le_refl 8)) (Pvs.cons hp (Pvs.nil (w := 0))))).mono (by omega) (by omega)
theorem num20 : ∀ n : Nat, n < 20 → pvC 0 32 (.int ((n : Int) - 10)) = true := by decide +kernel
theorem numL {i : Int} {d : D} (h0 : 0 ≤ i) (h1 : i < 20) (hd : d ∈ [D.int (i - 10), .int 2147483647, .int (-2147483647), .int 0]) : Pv 0 32 d := by
  obtain ⟨n, rfl⟩ := Int.eq_ofNat_of_zero_le h0
  simp only [List.mem_cons, List.not_mem_nil, or_false] at hd
  rcases hd with rfl | rfl | rfl | rfl
  · exact pvC.pv (num20 n (by omega))
  · exact pvC.pv (by kernel_rfl)
  · exact pvC.pv (by kernel_rfl)
  · exact pvC.pv (by kernel_rfl)
theorem leafW {n : Nat} {d x : D} {y z : Str} (hx : Pv 0 32 x) (hy : y ∈ spelts) (hz : z ∈ spelts) (hd : d ∈ [D.tup [.str "number", x], .tup [.str "name", .str y], .tup [.str "name", .str z]]) : Pv (n + 1) 50 d := by
  simp only [List.mem_cons, List.not_mem_nil, or_false] at hd
  rcases hd with rfl | rfl | rfl
  · exact (Pv.tup (Pvs.cons ((pvC.pv (n := 0) (w := 8) (by kernel_rfl)).mono (Nat.zero_le n) (Nat.le_refl 8)) (Pvs.cons (hx.mono (Nat.zero_le n) (Nat.le_refl 32)) (Pvs.nil (w := 0))))).mono (by omega) (by omega)
  · exact (Pv.tup (Pvs.cons ((pvC.pv (n := 0) (w := 8) (by kernel_rfl)).mono (Nat.zero_le n) (Nat.le_refl 8)) (Pvs.cons ((pvC.pv (spelts_pv y hy)).mono (Nat.zero_le n) (Nat.le_refl 8)) (Pvs.nil (w := 0))))).mono (by omega) (by omega)
  · exact (Pv.tup (Pvs.cons ((pvC.pv (n := 0) (w := 8) (by kernel_rfl)).mono (Nat.zero_le n) (Nat.le_refl 8)) (Pvs.cons ((pvC.pv (spelts_pv z hz)).mono (Nat.zero_le n) (Nat.le_refl 8)) (Pvs.nil (w := 0))))).mono (by omega) (by omega)
theorem leafTk {n : Nat} {d : D} {z : Str} (hz : z ∈ spelts) (hd : d ∈ [D.tup [.str "true"], .tup [.str "false"], .tup [.str "flag", .str z]]) : Te (n + 1) "truth" d := by
  simp only [List.mem_cons, List.not_mem_nil, or_false] at hd
  rcases hd with rfl | rfl | rfl
  · exact te_true
  · exact te_false
  · exact te_flag hz
theorem leafWk {n : Nat} {d x : D} {i : Int} {y z : Str} (h0 : 0 ≤ i) (h1 : i < 20) (hx : x ∈ [D.int (i - 10), .int 2147483647, .int (-2147483647), .int 0]) (hy : y ∈ spelts) (hz : z ∈ spelts) (hd : d ∈ [D.tup [.str "number", x], .tup [.str "name", .str y], .tup [.str "name", .str z]]) : Te (n + 1) "word" d := by
  simp only [List.mem_cons, List.not_mem_nil, or_false] at hd
  rcases hd with rfl | rfl | rfl
  · exact te_num h0 h1 hx
  · exact te_name hy
  · exact te_name hz
theorem add_le {x : D} {acc : List D} (h : acc.length ≤ 5) : [x].length + acc.length ≤ sizeLine := by
  have hz : sizeLine = 16777216 := by decide
  show 1 + acc.length ≤ sizeLine
  omega

theorem drawn_truth {c : List Int} {m : Nat} {r : Fn} (hc : Cs c) (ih : ∀ m', m = m' + 1 → Rec c m' r) {B : Int} {sto : Sto} {E : XPost} {P : D → Sto → Prop} (h : Tr c B sto) (hB : B + dN m ≤ 1000000)
    (k : ∀ d sto', Tr c (B + dN m) sto' → Pv (m + 1) (dW m) d → Te (m + 1) "truth" d → P d sto') : Wf (bodyF 9 (m__law_drawn r) [.box 0, .str "truth", .int m] sto) E P := by
  have hN := dN_pos m
  have hW := dW_pos m
  refine Wf.fn ?_
  unfold m__law_drawn
  refine Ws.seq (Ws.if (We.imp (Q := fun b s' => ∃ sto', s' = ⟨[.sh (.box 0), .sh (.str "truth"), .sh (.int m), .un, .un, .un, .un, .un, .un], sto'⟩ ∧ Tr c (B + 1) sto' ∧ (b = false → m ≠ 0)) ?_ ?_))
  · repeat walk_at "evs"
    refine @Xc.d _ _ _ _ (fun h0 => ?_) fun h0 => ?_
    · exact ⟨_, rfl, h.mono (by omega), fun e => nomatch e⟩
    · repeat walk_at "evs"
      refine w_seed hc h (by omega) (by decide) (by decide) fun i sto1 h1 i0 i1 => ?_
      repeat walk_at "evs"
      exact ⟨_, rfl, h1, fun _ e => h0 (by omega)⟩
  · rintro b s' ⟨sto', rfl, h', hb⟩
    cases b with
    | true =>
      refine Xc.t rfl ?_
      repeat walk_at "evs"
      refine w_spelt hc h' (by omega) fun z sto2 h2 hz => ?_
      repeat walk_at "evs"
      refine w_one hc h2 (by omega) (by rfl) (by rfl) fun d sto3 h3 hd => ?_
      repeat walk_at "evs"
      exact k d sto3 (h3.mono (by omega)) ((leafT hz hd).mono (Nat.le_refl _) hW) (leafTk hz hd)
    | false =>
      refine Xc.f rfl ?_
      obtain ⟨m', rfl⟩ : ∃ m', m = m' + 1 := ⟨m - 1, by have := hb rfl; omega⟩
      have hr := ih m' rfl
      have e1 : ((m' + 1 : Nat) : Int) - 1 = (m' : Int) := by omega
      have e2 : ((dN (m' + 1) : Nat) : Int) = 10 + 4 * (dN m' : Int) := by
        show ((10 + 4 * dN m' : Nat) : Int) = _
        omega
      rw [e2] at hB k
      repeat walk_at "evs"
      refine w_one hc h' (by omega) (by rfl) (by rfl) fun d sto3 h3 hd => ?_
      repeat walk_at "evs"
      simp only [List.mem_cons, List.not_mem_nil, or_false] at hd
      rcases hd with rfl | rfl | rfl | rfl | rfl | rfl
      · repeat walk_at "evs"
        refine X2.of (z := .bl true) (by kernel_rfl) ?_
        repeat walk_at "evs"
        refine We.compJ (PJ c (B + 2) m' "word") ?_
        repeat walk_at "evs"
        refine w_parts hr (B := B + 2) (h3.mono (by omega)) (by omega) ?_ ?_ ?_ (.inr rfl) (fun d sto Q hw => ?_) fun acc sto4 h4 h5 h6 hs => ?_
        · rfl
        · exact Nat.lt_succ_self 8
        · exact (by decide : 2 ≤ 4)
        · unfold m__law_drawn_e1
          repeat walk_at "evs"
          rw [e1]
          exact hw
        repeat walk_at "evs"
        refine X2.addL (add_le (by rw [h6]; decide)) ?_
        repeat walk_at "evs"
        refine XL.of (z := .tup ([.str "eq"] ++ acc)) (by rfl) ?_
        repeat walk_at "evs"
        exact k _ _ (h4.mono (by omega)) (node_pv (by kernel_rfl) h5) (te_node (by show okSh _ _ _ acc.length = true; rw [h6]; decide +kernel) hs)
      · repeat walk_at "evs"
        refine X2.of (z := .bl true) (by kernel_rfl) ?_
        repeat walk_at "evs"
        refine We.compJ (PJ c (B + 2) m' "word") ?_
        repeat walk_at "evs"
        refine w_parts hr (B := B + 2) (h3.mono (by omega)) (by omega) ?_ ?_ ?_ (.inr rfl) (fun d sto Q hw => ?_) fun acc sto4 h4 h5 h6 hs => ?_
        · rfl
        · exact Nat.lt_succ_self 8
        · exact (by decide : 2 ≤ 4)
        · unfold m__law_drawn_e1
          repeat walk_at "evs"
          rw [e1]
          exact hw
        repeat walk_at "evs"
        refine X2.addL (add_le (by rw [h6]; decide)) ?_
        repeat walk_at "evs"
        refine XL.of (z := .tup ([.str "lt"] ++ acc)) (by rfl) ?_
        repeat walk_at "evs"
        exact k _ _ (h4.mono (by omega)) (node_pv (by kernel_rfl) h5) (te_node (by show okSh _ _ _ acc.length = true; rw [h6]; decide +kernel) hs)
      · repeat walk_at "evs"
        refine X2.of (z := .bl true) (by kernel_rfl) ?_
        repeat walk_at "evs"
        refine We.compJ (PJ c (B + 2) m' "word") ?_
        repeat walk_at "evs"
        refine w_parts hr (B := B + 2) (h3.mono (by omega)) (by omega) ?_ ?_ ?_ (.inr rfl) (fun d sto Q hw => ?_) fun acc sto4 h4 h5 h6 hs => ?_
        · rfl
        · exact Nat.lt_succ_self 8
        · exact (by decide : 2 ≤ 4)
        · unfold m__law_drawn_e1
          repeat walk_at "evs"
          rw [e1]
          exact hw
        repeat walk_at "evs"
        refine X2.addL (add_le (by rw [h6]; decide)) ?_
        repeat walk_at "evs"
        refine XL.of (z := .tup ([.str "less"] ++ acc)) (by rfl) ?_
        repeat walk_at "evs"
        exact k _ _ (h4.mono (by omega)) (node_pv (by kernel_rfl) h5) (te_node (by show okSh _ _ _ acc.length = true; rw [h6]; decide +kernel) hs)
      · repeat walk_at "evs"
        refine X2.of (z := .bl false) (by kernel_rfl) ?_
        repeat walk_at "evs"
        refine We.compJ (PJ c (B + 2) m' "truth") ?_
        repeat walk_at "evs"
        refine w_parts hr (B := B + 2) (h3.mono (by omega)) (by omega) ?_ ?_ ?_ (.inl rfl) (fun d sto Q hw => ?_) fun acc sto4 h4 h5 h6 hs => ?_
        · rfl
        · exact Nat.lt_succ_self 8
        · exact (by decide : 2 ≤ 4)
        · unfold m__law_drawn_e1
          repeat walk_at "evs"
          rw [e1]
          exact hw
        repeat walk_at "evs"
        refine X2.addL (add_le (by rw [h6]; decide)) ?_
        repeat walk_at "evs"
        refine XL.of (z := .tup ([.str "both"] ++ acc)) (by rfl) ?_
        repeat walk_at "evs"
        exact k _ _ (h4.mono (by omega)) (node_pv (by kernel_rfl) h5) (te_node (by show okSh _ _ _ acc.length = true; rw [h6]; decide +kernel) hs)
      · repeat walk_at "evs"
        refine X2.of (z := .bl false) (by kernel_rfl) ?_
        repeat walk_at "evs"
        refine We.compJ (PJ c (B + 2) m' "truth") ?_
        repeat walk_at "evs"
        refine w_parts hr (B := B + 2) (h3.mono (by omega)) (by omega) ?_ ?_ ?_ (.inl rfl) (fun d sto Q hw => ?_) fun acc sto4 h4 h5 h6 hs => ?_
        · rfl
        · exact Nat.lt_succ_self 8
        · exact (by decide : 2 ≤ 4)
        · unfold m__law_drawn_e1
          repeat walk_at "evs"
          rw [e1]
          exact hw
        repeat walk_at "evs"
        refine X2.addL (add_le (by rw [h6]; decide)) ?_
        repeat walk_at "evs"
        refine XL.of (z := .tup ([.str "either"] ++ acc)) (by rfl) ?_
        repeat walk_at "evs"
        exact k _ _ (h4.mono (by omega)) (node_pv (by kernel_rfl) h5) (te_node (by show okSh _ _ _ acc.length = true; rw [h6]; decide +kernel) hs)
      · repeat walk_at "evs"
        refine X2.of (z := .bl false) (by kernel_rfl) ?_
        repeat walk_at "evs"
        refine We.compJ (PJ c (B + 2) m' "truth") ?_
        repeat walk_at "evs"
        refine w_parts hr (B := B + 2) (h3.mono (by omega)) (by omega) ?_ ?_ ?_ (.inl rfl) (fun d sto Q hw => ?_) fun acc sto4 h4 h5 h6 hs => ?_
        · rfl
        · exact Nat.lt_succ_self 8
        · exact (by decide : 1 ≤ 4)
        · unfold m__law_drawn_e1
          repeat walk_at "evs"
          rw [e1]
          exact hw
        repeat walk_at "evs"
        refine X2.addL (add_le (by rw [h6]; decide)) ?_
        repeat walk_at "evs"
        refine XL.of (z := .tup ([.str "no"] ++ acc)) (by rfl) ?_
        repeat walk_at "evs"
        exact k _ _ (h4.mono (by omega)) (node_pv (by kernel_rfl) h5) (te_node (by show okSh _ _ _ acc.length = true; rw [h6]; decide +kernel) hs)

/-! ### drawn words -/
def txC (n : Nat) (z : Str) : Bool := pvC 0 n (.str z) && decide (z.length ≤ 100)
theorem call_txt : ∀ a ∈ [("call" : Str), "loop"], ∀ b ∈ spelts, ∀ n : Nat, n < 6 → txC 20 (((((Str.empty ++ a) ++ " ") ++ b) ++ " ") ++ (toString (n : Int) : Str)) = true := by decide +kernel
theorem shl_txt : ∀ n : Nat, n < 32 → txC 20 ((Str.empty ++ "shl ") ++ (toString (n : Int) : Str)) = true := by decide +kernel
theorem txC.pvC {n : Nat} {z : Str} (h : txC n z = true) : pvC 0 n (.str z) = true := by
  unfold txC at h
  rw [Bool.and_eq_true] at h
  exact h.1
theorem txC.len {n : Nat} {z : Str} (h : txC n z = true) : z.length ≤ 100 := by
  unfold txC at h
  rw [Bool.and_eq_true] at h
  exact of_decide_eq_true h.2
theorem call_txt2 : ∀ a ∈ [("call" : Str), "loop"], ((Str.empty ++ a).length ≤ 100 ∧ ((Str.empty ++ a) ++ " ").length ≤ 100) ∧ ∀ b ∈ spelts, ((((Str.empty ++ a) ++ " ") ++ b).length ≤ 100 ∧ ((((Str.empty ++ a) ++ " ") ++ b) ++ " ").length ≤ 100) ∧ (a.length ≤ 100 ∧ b.length ≤ 100) := by decide +kernel
theorem le_line2 {n : Nat} (h : n ≤ 100) : n ≤ sizeLine := Nat.le_trans h (by decide)
theorem call_j {a : Str} (ha : a ∈ [("call" : Str), "loop"]) {least : Nat} (hsh : ∀ b ∈ spelts, ∀ n : Nat, n < 6 → ∀ L : Nat, L < 3 → okSh (((((Str.empty ++ a) ++ " ") ++ b) ++ " ") ++ (toString (n : Int) : Str)) "word" "word" (least + L) = true) {c : List Int} {B : Int} {env : List Sl} {sto : Sto} {E : XPost} {Q : D → Sx → Prop} (hc : Cs c) (h : Tr c B sto) (hB : B ≤ 999995) (e0 : env[0]? = some (.sh (.box 0))) (e4 : env[4]? = some (.sh (.str a)))
    (k : ∀ z sto', Tr c (B + 2) sto' → pvC 0 20 (.str z) = true → (∀ L : Nat, L < 3 → okSh z "word" "word" (least + L) = true) → Q (.str z) ⟨env, sto'⟩) :
    We (mJ [m1 gFmt (mVar 4), mC (.str " "), m1 gFmt (mCall f__law_spelt (mCons (mVar 0) (mNil))), mC (.str " "), m1 gFmt (mCall f__law_seed (mCons (mVar 0) (mCons (mC (.int 6)) (mNil))))] Str.empty ⟨env, sto⟩) E Q := by
  have t2 := call_txt2 a ha
  have ax := (t2.2 "x" (by decide)).2.1
  refine We.jC (We.m1 (We.var e4 (X1.fmtS (le_line2 ax) ⟨a, rfl, le_line2 t2.1.1, ?_⟩)))
  refine We.jC (We.c ⟨" ", rfl, le_line2 t2.1.2, ?_⟩)
  refine We.jC (We.m1 (We.call (We.cons (We.var e0 (We.nil (w_spelt hc h (by omega) fun b sto1 h1 hb => ?_))))))
  have t3 := t2.2 b hb
  refine X1.fmtS (le_line2 t3.2.2) ⟨b, rfl, le_line2 t3.1.1, ?_⟩
  refine We.jC (We.c ⟨" ", rfl, le_line2 t3.1.2, ?_⟩)
  refine We.jC (We.m1 (We.call (We.cons (We.var e0 (We.cons (We.c (We.nil (w_seed hc h1 (by omega) (by decide) (by decide) fun i sto2 h2 i0 i1 => ?_))))))))
  obtain ⟨n, rfl⟩ := Int.eq_ofNat_of_zero_le i0
  have t4 := call_txt a ha b hb n (by omega)
  exact X1.fmtN i0 (by omega) ⟨_, rfl, le_line2 (txC.len t4), We.jN (k _ _ (h2.mono (by omega)) (txC.pvC t4) (hsh b hb n (by omega)))⟩
theorem shl_mem {i : Int} {d : D} (h0 : 0 ≤ i) (h1 : i < 31) (hd : d ∈ [D.int 1, .int 31, .int (1 + i)]) : ∃ n : Nat, (n < 32 ∧ 0 < n) ∧ d = .int n := by
  simp only [List.mem_cons, List.not_mem_nil, or_false] at hd
  rcases hd with rfl | rfl | rfl
  · exact ⟨1, by decide, rfl⟩
  · exact ⟨31, by decide, rfl⟩
  · exact ⟨(1 + i).toNat, ⟨by omega, by omega⟩, by rw [Int.toNat_of_nonneg (by omega)]⟩
theorem shl_j {c : List Int} {B : Int} {env : List Sl} {sto : Sto} {E : XPost} {Q : D → Sx → Prop} (hc : Cs c) (h : Tr c B sto) (hB : B ≤ 999995) (e0 : env[0]? = some (.sh (.box 0)))
    (k : ∀ z sto', Tr c (B + 2) sto' → pvC 0 20 (.str z) = true → okSh z "word" "word" 1 = true → Q (.str z) ⟨env, sto'⟩) :
    We (mJ [mC (.str "shl "), m1 gFmt (mCall f__law_one_of (mCons (mVar 0) (mCons (mSh (mLst (mCons (mC (.int 1)) (mCons (mC (.int 31)) (mCons (m2 gAdd (mC (.int 1)) (mCall f__law_seed (mCons (mVar 0) (mCons (mC (.int 31)) (mNil))))) (mNil)))))) (mNil))))] Str.empty ⟨env, sto⟩) E Q := by
  refine We.jC (We.c ⟨"shl ", rfl, le_line2 (by decide +kernel), ?_⟩)
  refine We.jC (We.m1 (We.call (We.cons (We.var e0 ?_))))
  refine We.cons (We.sh (We.lst ?_))
  refine We.cons (We.c (We.cons (We.c (We.cons (We.m2 (We.c ?_))))))
  refine We.call (We.cons (We.var e0 (We.cons (We.c (We.nil ?_)))))
  refine w_seed hc h (by omega) (by decide) (by decide) fun i sto1 h1 i0 i1 => ?_
  refine X2.add (We.nil ⟨by show 3 ≤ sizeLine; decide, We.nil ?_⟩)
  refine w_one hc h1 (by omega) (by rfl) (by rfl) fun d sto2 h2 hd => ?_
  obtain ⟨n, hn, rfl⟩ := shl_mem i0 i1 hd
  have t4 := shl_txt n hn.1
  exact X1.fmtN (by omega) (by omega) ⟨_, rfl, le_line2 (txC.len t4), We.jN (k _ _ (h2.mono (by omega)) (txC.pvC t4) (shl_shp n hn.1 hn.2))⟩
set_option maxHeartbeats 4000000 in
theorem drawn_word {c : List Int} {m : Nat} {r : Fn} (hc : Cs c) (ih : ∀ m', m = m' + 1 → Rec c m' r) {B : Int} {sto : Sto} {E : XPost} {P : D → Sto → Prop} (h : Tr c B sto) (hB : B + dN m ≤ 1000000)
    (k : ∀ d sto', Tr c (B + dN m) sto' → Pv (m + 1) (dW m) d → Te (m + 1) "word" d → P d sto') : Wf (bodyF 9 (m__law_drawn r) [.box 0, .str "word", .int m] sto) E P := by
  have hN := dN_pos m
  have hW := dW_pos m
  refine Wf.fn ?_
  unfold m__law_drawn
  refine Ws.seq (Ws.if (We.imp (Q := fun b s' => ∃ sto', s' = ⟨[.sh (.box 0), .sh (.str "word"), .sh (.int m), .un, .un, .un, .un, .un, .un], sto'⟩ ∧ Tr c (B + 1) sto' ∧ (b = false → m ≠ 0)) ?_ ?_))
  · repeat walk_at "evs"
    refine @Xc.d _ _ _ _ (fun h0 => ?_) fun h0 => ?_
    · exact ⟨_, rfl, h.mono (by omega), fun e => nomatch e⟩
    · repeat walk_at "evs"
      refine w_seed hc h (by omega) (by decide) (by decide) fun i sto1 h1 i0 i1 => ?_
      repeat walk_at "evs"
      exact ⟨_, rfl, h1, fun _ e => h0 (by omega)⟩
  · rintro b s' ⟨sto', rfl, h', hb⟩
    cases b with
    | true =>
      refine Xc.t rfl ?_
      repeat walk_at "evs"
      refine w_seed hc h' (by omega) (by decide) (by decide) fun i sto2 h2 i0 i1 => ?_
      repeat walk_at "evs"
      refine w_one hc h2 (by omega) (by rfl) (by rfl) fun x sto3 h3 hx => ?_
      repeat walk_at "evs"
      refine w_spelt hc h3 (by omega) fun y sto4 h4 hy => ?_
      repeat walk_at "evs"
      refine w_spelt hc h4 (by omega) fun z sto5 h5 hz => ?_
      repeat walk_at "evs"
      refine w_one hc h5 (by omega) (by rfl) (by rfl) fun d sto6 h6 hd => ?_
      repeat walk_at "evs"
      exact k d sto6 (h6.mono (by omega)) ((leafW (numL i0 i1 hx) hy hz hd).mono (Nat.le_refl _) hW) (leafWk i0 i1 hx hy hz hd)
    | false =>
      refine Xc.f rfl ?_
      obtain ⟨m', rfl⟩ : ∃ m', m = m' + 1 := ⟨m - 1, by have := hb rfl; omega⟩
      have hr := ih m' rfl
      have e1 : ((m' + 1 : Nat) : Int) - 1 = (m' : Int) := by omega
      have e2 : ((dN (m' + 1) : Nat) : Int) = 10 + 4 * (dN m' : Int) := by
        show ((10 + 4 * dN m' : Nat) : Int) = _
        omega
      rw [e2] at hB k
      repeat walk_at "evs"
      refine w_one hc h' (by omega) (by rfl) (by rfl) fun d sto3 h3 hd => ?_
      repeat walk_at "evs"
      simp only [List.mem_cons, List.not_mem_nil, or_false] at hd
      rcases hd with rfl | rfl | rfl | rfl | rfl | rfl | rfl | rfl | rfl | rfl | rfl | rfl | rfl
      · repeat walk_at "evs"
        refine X2.of (z := .bl false) (by kernel_rfl) ?_
        repeat walk_at "evs"
        refine X2.of (z := .bl false) (by kernel_rfl) ?_
        repeat walk_at "evs"
        refine We.compJ (PJ c (B + 2) m' "word") ?_
        repeat walk_at "evs"
        refine w_parts hr (B := B + 2) (h3.mono (by omega)) (by omega) ?_ ?_ ?_ (.inr rfl) (fun d sto Q hw => ?_) fun acc sto4 h4 h5 h6 hs => ?_
        · rfl
        · exact Nat.lt_succ_self 8
        · exact (by decide : 2 ≤ 4)
        · unfold m__law_drawn_e3
          repeat walk_at "evs"
          rw [e1]
          exact hw
        repeat walk_at "evs"
        refine X2.addL (add_le (by rw [h6]; decide)) ?_
        repeat walk_at "evs"
        refine XL.of (z := .tup ([.str "add"] ++ acc)) (by rfl) ?_
        repeat walk_at "evs"
        exact k _ _ (h4.mono (by omega)) (node_pv (by kernel_rfl) h5) (te_node (by show okSh _ _ _ acc.length = true; rw [h6]; decide +kernel) hs)
      · repeat walk_at "evs"
        refine X2.of (z := .bl false) (by kernel_rfl) ?_
        repeat walk_at "evs"
        refine X2.of (z := .bl false) (by kernel_rfl) ?_
        repeat walk_at "evs"
        refine We.compJ (PJ c (B + 2) m' "word") ?_
        repeat walk_at "evs"
        refine w_parts hr (B := B + 2) (h3.mono (by omega)) (by omega) ?_ ?_ ?_ (.inr rfl) (fun d sto Q hw => ?_) fun acc sto4 h4 h5 h6 hs => ?_
        · rfl
        · exact Nat.lt_succ_self 8
        · exact (by decide : 2 ≤ 4)
        · unfold m__law_drawn_e3
          repeat walk_at "evs"
          rw [e1]
          exact hw
        repeat walk_at "evs"
        refine X2.addL (add_le (by rw [h6]; decide)) ?_
        repeat walk_at "evs"
        refine XL.of (z := .tup ([.str "sub"] ++ acc)) (by rfl) ?_
        repeat walk_at "evs"
        exact k _ _ (h4.mono (by omega)) (node_pv (by kernel_rfl) h5) (te_node (by show okSh _ _ _ acc.length = true; rw [h6]; decide +kernel) hs)
      · repeat walk_at "evs"
        refine X2.of (z := .bl false) (by kernel_rfl) ?_
        repeat walk_at "evs"
        refine X2.of (z := .bl false) (by kernel_rfl) ?_
        repeat walk_at "evs"
        refine We.compJ (PJ c (B + 2) m' "word") ?_
        repeat walk_at "evs"
        refine w_parts hr (B := B + 2) (h3.mono (by omega)) (by omega) ?_ ?_ ?_ (.inr rfl) (fun d sto Q hw => ?_) fun acc sto4 h4 h5 h6 hs => ?_
        · rfl
        · exact Nat.lt_succ_self 8
        · exact (by decide : 2 ≤ 4)
        · unfold m__law_drawn_e3
          repeat walk_at "evs"
          rw [e1]
          exact hw
        repeat walk_at "evs"
        refine X2.addL (add_le (by rw [h6]; decide)) ?_
        repeat walk_at "evs"
        refine XL.of (z := .tup ([.str "mul"] ++ acc)) (by rfl) ?_
        repeat walk_at "evs"
        exact k _ _ (h4.mono (by omega)) (node_pv (by kernel_rfl) h5) (te_node (by show okSh _ _ _ acc.length = true; rw [h6]; decide +kernel) hs)
      · repeat walk_at "evs"
        refine X2.of (z := .bl false) (by kernel_rfl) ?_
        repeat walk_at "evs"
        refine X2.of (z := .bl false) (by kernel_rfl) ?_
        repeat walk_at "evs"
        refine We.compJ (PJ c (B + 2) m' "word") ?_
        repeat walk_at "evs"
        refine w_parts hr (B := B + 2) (h3.mono (by omega)) (by omega) ?_ ?_ ?_ (.inr rfl) (fun d sto Q hw => ?_) fun acc sto4 h4 h5 h6 hs => ?_
        · rfl
        · exact Nat.lt_succ_self 8
        · exact (by decide : 2 ≤ 4)
        · unfold m__law_drawn_e3
          repeat walk_at "evs"
          rw [e1]
          exact hw
        repeat walk_at "evs"
        refine X2.addL (add_le (by rw [h6]; decide)) ?_
        repeat walk_at "evs"
        refine XL.of (z := .tup ([.str "and"] ++ acc)) (by rfl) ?_
        repeat walk_at "evs"
        exact k _ _ (h4.mono (by omega)) (node_pv (by kernel_rfl) h5) (te_node (by show okSh _ _ _ acc.length = true; rw [h6]; decide +kernel) hs)
      · repeat walk_at "evs"
        refine X2.of (z := .bl false) (by kernel_rfl) ?_
        repeat walk_at "evs"
        refine X2.of (z := .bl false) (by kernel_rfl) ?_
        repeat walk_at "evs"
        refine We.compJ (PJ c (B + 2) m' "word") ?_
        repeat walk_at "evs"
        refine w_parts hr (B := B + 2) (h3.mono (by omega)) (by omega) ?_ ?_ ?_ (.inr rfl) (fun d sto Q hw => ?_) fun acc sto4 h4 h5 h6 hs => ?_
        · rfl
        · exact Nat.lt_succ_self 8
        · exact (by decide : 2 ≤ 4)
        · unfold m__law_drawn_e3
          repeat walk_at "evs"
          rw [e1]
          exact hw
        repeat walk_at "evs"
        refine X2.addL (add_le (by rw [h6]; decide)) ?_
        repeat walk_at "evs"
        refine XL.of (z := .tup ([.str "or"] ++ acc)) (by rfl) ?_
        repeat walk_at "evs"
        exact k _ _ (h4.mono (by omega)) (node_pv (by kernel_rfl) h5) (te_node (by show okSh _ _ _ acc.length = true; rw [h6]; decide +kernel) hs)
      · repeat walk_at "evs"
        refine X2.of (z := .bl false) (by kernel_rfl) ?_
        repeat walk_at "evs"
        refine X2.of (z := .bl false) (by kernel_rfl) ?_
        repeat walk_at "evs"
        refine We.compJ (PJ c (B + 2) m' "word") ?_
        repeat walk_at "evs"
        refine w_parts hr (B := B + 2) (h3.mono (by omega)) (by omega) ?_ ?_ ?_ (.inr rfl) (fun d sto Q hw => ?_) fun acc sto4 h4 h5 h6 hs => ?_
        · rfl
        · exact Nat.lt_succ_self 8
        · exact (by decide : 2 ≤ 4)
        · unfold m__law_drawn_e3
          repeat walk_at "evs"
          rw [e1]
          exact hw
        repeat walk_at "evs"
        refine X2.addL (add_le (by rw [h6]; decide)) ?_
        repeat walk_at "evs"
        refine XL.of (z := .tup ([.str "xor"] ++ acc)) (by rfl) ?_
        repeat walk_at "evs"
        exact k _ _ (h4.mono (by omega)) (node_pv (by kernel_rfl) h5) (te_node (by show okSh _ _ _ acc.length = true; rw [h6]; decide +kernel) hs)
      · repeat walk_at "evs"
        refine X2.of (z := .bl false) (by kernel_rfl) ?_
        repeat walk_at "evs"
        refine X2.of (z := .bl true) (by kernel_rfl) ?_
        repeat walk_at "evs"
        refine We.compJ (PJ c (B + 2) m' "word") ?_
        repeat walk_at "evs"
        refine w_parts hr (B := B + 2) (h3.mono (by omega)) (by omega) ?_ ?_ ?_ (.inr rfl) (fun d sto Q hw => ?_) fun acc sto4 h4 h5 h6 hs => ?_
        · rfl
        · exact Nat.lt_succ_self 8
        · exact (by decide : 1 ≤ 4)
        · unfold m__law_drawn_e3
          repeat walk_at "evs"
          rw [e1]
          exact hw
        repeat walk_at "evs"
        refine X2.addL (add_le (by rw [h6]; decide)) ?_
        repeat walk_at "evs"
        refine XL.of (z := .tup ([.str "neg"] ++ acc)) (by rfl) ?_
        repeat walk_at "evs"
        exact k _ _ (h4.mono (by omega)) (node_pv (by kernel_rfl) h5) (te_node (by show okSh _ _ _ acc.length = true; rw [h6]; decide +kernel) hs)
      · repeat walk_at "evs"
        refine X2.of (z := .bl false) (by kernel_rfl) ?_
        repeat walk_at "evs"
        refine X2.of (z := .bl true) (by kernel_rfl) ?_
        repeat walk_at "evs"
        refine We.compJ (PJ c (B + 2) m' "word") ?_
        repeat walk_at "evs"
        refine w_parts hr (B := B + 2) (h3.mono (by omega)) (by omega) ?_ ?_ ?_ (.inr rfl) (fun d sto Q hw => ?_) fun acc sto4 h4 h5 h6 hs => ?_
        · rfl
        · exact Nat.lt_succ_self 8
        · exact (by decide : 1 ≤ 4)
        · unfold m__law_drawn_e3
          repeat walk_at "evs"
          rw [e1]
          exact hw
        repeat walk_at "evs"
        refine X2.addL (add_le (by rw [h6]; decide)) ?_
        repeat walk_at "evs"
        refine XL.of (z := .tup ([.str "flip"] ++ acc)) (by rfl) ?_
        repeat walk_at "evs"
        exact k _ _ (h4.mono (by omega)) (node_pv (by kernel_rfl) h5) (te_node (by show okSh _ _ _ acc.length = true; rw [h6]; decide +kernel) hs)
      · repeat walk_at "evs"
        refine X2.of (z := .bl false) (by kernel_rfl) ?_
        repeat walk_at "evs"
        refine X2.of (z := .bl true) (by kernel_rfl) ?_
        repeat walk_at "evs"
        refine shl_j hc h3 (by omega) rfl fun z sto4 h4 hz ho => ?_
        repeat walk_at "evs"
        refine We.compJ (PJ c (B + 4) m' "word") ?_
        repeat walk_at "evs"
        refine w_parts hr (B := B + 4) (h4.mono (by omega)) (by omega) ?_ ?_ ?_ (.inr rfl) (fun d sto Q hw => ?_) fun acc sto4 h4 h5 h6 hs => ?_
        · rfl
        · exact Nat.lt_succ_self 8
        · exact (by decide : 1 ≤ 4)
        · unfold m__law_drawn_e3
          repeat walk_at "evs"
          rw [e1]
          exact hw
        repeat walk_at "evs"
        refine X2.addL (add_le (by rw [h6]; decide)) ?_
        repeat walk_at "evs"
        refine XL.of (z := .tup ([.str z] ++ acc)) (by rfl) ?_
        repeat walk_at "evs"
        exact k _ _ (h4.mono (by omega)) (node_pv hz h5) (te_node (by show okSh _ _ _ acc.length = true; rw [h6]; exact ho) hs)
      · repeat walk_at "evs"
        refine X2.of (z := .bl false) (by kernel_rfl) ?_
        repeat walk_at "evs"
        refine X2.of (z := .bl true) (by kernel_rfl) ?_
        repeat walk_at "evs"
        refine We.compJ (PJ c (B + 2) m' "word") ?_
        repeat walk_at "evs"
        refine w_parts hr (B := B + 2) (h3.mono (by omega)) (by omega) ?_ ?_ ?_ (.inr rfl) (fun d sto Q hw => ?_) fun acc sto4 h4 h5 h6 hs => ?_
        · rfl
        · exact Nat.lt_succ_self 8
        · exact (by decide : 1 ≤ 4)
        · unfold m__law_drawn_e3
          repeat walk_at "evs"
          rw [e1]
          exact hw
        repeat walk_at "evs"
        refine X2.addL (add_le (by rw [h6]; decide)) ?_
        repeat walk_at "evs"
        refine XL.of (z := .tup ([.str "at"] ++ acc)) (by rfl) ?_
        repeat walk_at "evs"
        exact k _ _ (h4.mono (by omega)) (node_pv (by kernel_rfl) h5) (te_node (by show okSh _ _ _ acc.length = true; rw [h6]; decide +kernel) hs)
      · repeat walk_at "evs"
        rw [e1]
        refine hr.go h3 (by omega) (.inl rfl) fun d1 sto4 h4 p1 t1 => ?_
        repeat walk_at "evs"
        rw [e1]
        refine hr.go h4 (by omega) (.inr rfl) fun d2 sto5 h5 p2 t2 => ?_
        repeat walk_at "evs"
        rw [e1]
        refine hr.go h5 (by omega) (.inr rfl) fun d3 sto6 h6 p3 t3 => ?_
        repeat walk_at "evs"
        refine k _ _ (h6.mono (by omega)) ?_ (te_if t1 t2 t3)
        refine node_pv (z := "if") (acc := [d1, d2, d3]) (by kernel_rfl) ?_
        exact (Pvs.cons p1 (Pvs.cons p2 (Pvs.cons p3 (Pvs.nil (w := 0))))).mono (Nat.le_refl _) (by omega)
      · repeat walk_at "evs"
        refine X2.of (z := .bl true) (by kernel_rfl) ?_
        repeat walk_at "evs"
        refine call_j (a := "call") (by decide) (least := 0) (fun b hb n hn L hL => by rw [Nat.zero_add]; exact call_shp b hb n hn L hL) hc h3 (by omega) rfl rfl fun z sto4 h4 hz ho => ?_
        repeat walk_at "evs"
        refine We.compJ (PJ c (B + 6) m' "word") ?_
        repeat walk_at "evs"
        refine w_seed hc h4 (by omega) (by decide) (by decide) fun i sto5 h5 i0 i1 => ?_
        repeat walk_at "evs"
        refine w_parts hr (B := B + 6) (h5.mono (by omega)) (by omega) ?_ ?_ ?_ (.inr rfl) (fun d sto Q hw => ?_) fun acc sto4 h4 h5 h6 hs => ?_
        · rfl
        · exact Nat.lt_succ_self 8
        · unfold rngL
          rw [List.length_map, List.length_range]
          omega
        · unfold m__law_drawn_e2
          repeat walk_at "evs"
          rw [e1]
          exact hw
        repeat walk_at "evs"
        have hL : acc.length = 0 + i.toNat := by
          rw [h6]
          unfold rngL
          rw [List.length_map, List.length_range]
          omega
        refine X2.addL (add_le (by omega)) ?_
        repeat walk_at "evs"
        refine XL.of (z := .tup ([.str z] ++ acc)) (by rfl) ?_
        repeat walk_at "evs"
        exact k _ _ (h4.mono (by omega)) (node_pv hz h5) (te_node (by show okSh _ _ _ acc.length = true; rw [hL]; exact ho _ (by omega)) hs)
      · repeat walk_at "evs"
        refine X2.of (z := .bl true) (by kernel_rfl) ?_
        repeat walk_at "evs"
        refine call_j (a := "loop") (by decide) (least := 2) loop_shp hc h3 (by omega) rfl rfl fun z sto4 h4 hz ho => ?_
        repeat walk_at "evs"
        refine We.compJ (PJ c (B + 6) m' "word") ?_
        repeat walk_at "evs"
        refine w_seed hc h4 (by omega) (by decide) (by decide) fun i sto5 h5 i0 i1 => ?_
        repeat walk_at "evs"
        refine w_parts hr (B := B + 6) (h5.mono (by omega)) (by omega) ?_ ?_ ?_ (.inr rfl) (fun d sto Q hw => ?_) fun acc sto4 h4 h5 h6 hs => ?_
        · rfl
        · exact Nat.lt_succ_self 8
        · unfold rngL
          rw [List.length_map, List.length_range]
          omega
        · unfold m__law_drawn_e2
          repeat walk_at "evs"
          rw [e1]
          exact hw
        repeat walk_at "evs"
        have hL : acc.length = 2 + i.toNat := by
          rw [h6]
          unfold rngL
          rw [List.length_map, List.length_range]
          omega
        refine X2.addL (add_le (by omega)) ?_
        repeat walk_at "evs"
        refine XL.of (z := .tup ([.str z] ++ acc)) (by rfl) ?_
        repeat walk_at "evs"
        exact k _ _ (h4.mono (by omega)) (node_pv hz h5) (te_node (by show okSh _ _ _ acc.length = true; rw [hL]; exact ho _ (by omega)) hs)

/-! ### drawn, listed -/
theorem w_drawn {c : List Int} (hc : Cs c) : ∀ (k m : Nat), m < k → Rec c m (f__law_drawn k)
  | 0, m, h => absurd h (Nat.not_lt_zero _)
  | k + 1, m, h => ⟨fun {B kd sto E P} ht hB hkd hp => by
      rcases hkd with rfl | rfl
      · exact drawn_truth hc (fun m' e => w_drawn hc k m' (by omega)) ht hB hp
      · exact drawn_word hc (fun m' e => w_drawn hc k m' (by omega)) ht hB hp⟩
theorem cut_lo {xs : List D} {j : Nat} : cutD xs (some (j : Int)) none = xs.drop j := by
  unfold cutD
  have e1 : HT.sIx xs.length 0 (some (j : Int)) = min j xs.length := HT.sIx_nat _ _ j
  rw [e1, HT.sIx_none]
  by_cases h : j ≤ xs.length
  · rw [Nat.min_eq_left h, List.take_of_length_le]
    rw [List.length_drop]
    exact Nat.le_refl _
  · rw [Nat.min_eq_right (by omega), List.drop_of_length_le (Nat.le_refl _), List.drop_of_length_le (by omega)]
    simp
theorem cut_hi {xs : List D} {j : Nat} : cutD xs none (some (j : Int)) = xs.take j := by
  unfold cutD
  have e1 : HT.sIx xs.length xs.length (some (j : Int)) = min j xs.length := HT.sIx_nat _ _ j
  rw [e1, HT.sIx_none, List.drop_zero, Nat.sub_zero, List.take_eq_take_iff]
  omega
theorem Pvs.split {n : Nat} : ∀ {w : Nat} {as bs : List D}, Pvs n w (as ++ bs) → ∃ w1 w2, w1 + w2 = w ∧ Pvs n w1 as ∧ Pvs n w2 bs
  | w, [], bs, h => ⟨0, w, by omega, Pvs.nil, h⟩
  | w, a :: as, bs, h => by
    obtain ⟨w1, w2, e, p, q⟩ := Pvs.uncons h
    obtain ⟨w3, w4, e2, p2, q2⟩ := Pvs.split q
    exact ⟨w1 + 1 + w3, w4, by omega, Pvs.cons p p2, q2⟩
theorem Pvs.len {n : Nat} : ∀ {w : Nat} {ds : List D}, Pvs n w ds → ds.length ≤ w
  | _, [], _ => Nat.zero_le _
  | w, d :: ds, h => by
    obtain ⟨w1, w2, e, p, q⟩ := h.uncons
    have := Pvs.len q
    rw [List.length_cons]
    omega
theorem Tr.nn {c : List Int} {B : Int} {sto : Sto} (h : Tr c B sto) : 0 ≤ B := by
  obtain ⟨t, r, e, h0, h1, h2⟩ := h.ex
  omega

/-- the first cells -/
theorem cut_ints (ns : List Int) : cutD (ns.map .int) none (some 63) = (ns.take 63).map .int := by
  unfold cutD
  have e : HT.sIx (ns.map D.int).length (ns.map D.int).length (some 63) = min 63 (ns.map D.int).length := HT.sIx_nat _ _ 63
  rw [e]
  simp only [HT.sIx_none, List.drop_zero, Nat.sub_zero, List.length_map, List.map_take]
  simp
theorem w_trellis {ns : List Int} {E : XPost} {P : List D → Sto → Prop} {sto : Sto} (hn : ns.length ≤ 63) (k : P [.lst ((ns.take 63).map .int), .int 0, .int 0] sto) : WfO (f__law_loam [.lst (ns.map .int)] sto) E P := by
  refine WfO.fn ?_
  unfold m__law_loam
  repeat walk_at "ev"
  refine We.comp ?_
  repeat walk_at "ev"
  refine ⟨rfl, ?_⟩
  rw [cut_ints]
  have hl : (ns.take 63).length ≤ 63 := by simp; omega
  generalize ns.take 63 = c at *
  obtain ⟨acc, s', e, x, rfl, hx⟩ := compL_inv (t := tgN 1) (c := M.pure true) (m := m__law_loam_e1) (ws := [1]) (fun rest acc s => ∃ x, s = ⟨[.sh (.lst (ns.map .int)), x], sto⟩ ∧ ∃ (done todo : List Int), c = done ++ todo ∧ rest = todo.map .int ∧ acc = done.map .int)
    (by
      rintro d ds acc s ⟨x, rfl, done, todo, e1, e2, e3⟩
      cases todo with
      | nil => cases e2
      | cons a todo =>
        cases e2
        refine ⟨?_, _, rfl, ?_⟩
        · subst e3
          have : done.length ≤ 63 := by rw [e1] at hl; simp at hl; omega
          simp
          have hz : sizeLine = 16777216 := by decide
          omega
        · refine We.pure ?_
          refine Xc.t rfl ?_
          unfold m__law_loam_e1
          repeat walk_at "ev"
          exact ⟨_, rfl, done ++ [a], todo, by simp [e1], rfl, by simp [e3]⟩)
    (c.map .int) [] ⟨[.sh (.lst (ns.map .int)), .un], sto⟩ ⟨_, rfl, [], c, rfl, rfl, rfl⟩
  obtain ⟨done, todo, e1, e2, e3⟩ := hx
  have : todo = [] := by
    cases todo with
    | nil => rfl
    | cons => cases e2
  subst this
  simp only [List.append_nil] at e1
  subst e1
  refine ⟨acc, _, e, ?_⟩
  repeat walk_at "ev"
  subst e3
  exact k
theorem Pv.good {n w : Nat} {d : D} (h : Pv n w d) (hn : n < 40) (hw : w ≤ 1000000) : Good d := ⟨⟨n, w, h, hn, hw⟩⟩
theorem w_term {c : List Int} (hc : Cs c) {m : Nat} (hm : m ≤ 4) {B : Int} {sto : Sto} {E : XPost} {P : D → Sto → Prop} (h : Tr c B sto) (hB : B + 4000 ≤ 1000000) {d : D} (hd : d ∈ [D.str "word", .str "truth"]) (k : ∀ d' sto' kd, Tr c (B + 4000) sto' → Pv 5 21000 d' → Te 5 kd d' → P d' sto') : Wf (f__law_drawn 40 [.box 0, d, .int m] sto) E P := by
  have hr := w_drawn hc 40 m (by omega)
  have e : dN m ≤ 4000 ∧ dW m ≤ 21000 := by
    have : ∀ m : Nat, m < 5 → dN m ≤ 4000 ∧ dW m ≤ 21000 := by decide
    exact this m (by omega)
  simp only [List.mem_cons, List.not_mem_nil, or_false] at hd
  rcases hd with rfl | rfl
  · exact hr.go h (by omega) (.inr rfl) fun d' sto' h1 h2 h3 => k d' sto' _ (h1.mono (by omega)) (h2.mono (by omega) e.2) (h3.up (by omega))
  · exact hr.go h (by omega) (.inl rfl) fun d' sto' h1 h2 h3 => k d' sto' _ (h1.mono (by omega)) (h2.mono (by omega) e.2) (h3.up (by omega))

/-! ### steps: stars, enumerate, pop, while -/
theorem We.mStar {E : XPost} {s : Sx} {QL : List D → Sx → Prop} {ma : M D} {ml : M (List D)} (h : We (ma s) E fun d s1 => ∃ xs, itemsOf d = some xs ∧ We (ml s1) E fun ys s2 => QL (xs ++ ys) s2) : We (mStar ma ml s) E QL :=
  We.bind (h.imp fun d s1 ⟨xs, e, h⟩ => by
    show We ((match itemsOf d with | some xs => M.bind ml fun ys => M.pure (xs ++ ys) | none => fun _ => .bad) s1) E QL
    rw [e]
    exact We.bind (h.imp fun ys s2 h => We.pure h))
theorem We.mEnum {E : XPost} {s : Sx} {QL : List D → Sx → Prop} {ma : M D} (h : We (ma s) E fun d s1 => ∃ xs, itemsOf d = some xs ∧ QL (enumL 0 xs) s1) : We (mEnum ma s) E QL :=
  We.bind (h.imp fun d s1 ⟨xs, e, h⟩ => We.lift (by rw [e]; rfl) h)
theorem We.mMaxD {E : XPost} {s : Sx} {Q : D → Sx → Prop} {ml mk : M (List D)} (h : We (ml s) E fun ds s1 => We (mk s1) E fun zs s2 => ∃ z, gMaxD ds zs = some z ∧ Q z s2) : We (mMaxD ml mk s) E Q :=
  We.bind (h.imp fun ds s1 h => We.bind (h.imp fun zs s2 ⟨z, e, h⟩ => We.lift e h))
theorem We.popO {E : XPost} {s : Sx} {Q : D → Sx → Prop} {i : Nat} {xs ys : List D} {d : D} (e : s.env[i]? = some (.ow xs)) (e2 : xs = ys ++ [d]) (h : Q d (s.own i ys)) : We (mPopO i s) E Q := by
  subst e2
  have e3 : (ys ++ [d])[(ys ++ [d]).length - 1]? = some d := by simp
  have e4 : mPopO i s = .ok d (s.own i ys) := by
    unfold mPopO
    rw [e]
    simp only [e3, List.dropLast_concat]
  rw [e4]
  exact h
theorem Ws.parO {s : Sx} {k : Kp} {i j : Nat} {ml1 ml2 : M (List D)} (h : We (ml1 s) k.ex fun xs s1 => We (ml2 s1) k.ex fun ys s2 => k.nx ((s2.own i xs).own j ys)) : Ws (sParO i j ml1 ml2 s) k :=
  Ws.bind (h.imp fun xs s1 h => Ws.bind (h.imp fun ys s2 h => h))
theorem Ws.asg {s : Sx} {k : Kp} {t : Tg} {ma : M D} (h : We (ma s) k.ex fun d s1 => ∃ s2, t.run d s1 = some s2 ∧ k.nx s2) : Ws (sAsg t ma s) k :=
  Ws.bind (h.imp fun d s1 ⟨s2, e, h⟩ => by
    show Ws (match t.run d s1 with | some s' => RS.nx s' | none => .bad) k
    rw [e]
    exact h)
theorem whL_inv {k : Kp} {c : M Bool} {body : MS} (I : Nat → Sx → Prop) (step : ∀ m s, I m s → We (c s) k.ex fun b s1 => if b = true then Ws (body s1) (k.lp fun s2 => ∃ m', m' < m ∧ I m' s2) else k.nx s1) :
    ∀ (n m : Nat) (s : Sx), m < n → I m s → Ws (whL c body n s) k
  | 0, m, s, h, _ => absurd h (Nat.not_lt_zero _)
  | n + 1, m, s, h, hI => by
    unfold whL
    refine Ws.bind ((step m s hI).imp fun b s1 hb => ?_)
    cases b with
    | false => exact hb
    | true =>
      rw [if_pos rfl] at hb
      show Ws (match body s1 with
        | .nx s2 => whL c body n s2
        | .ct s2 => whL c body n s2
        | .bk s2 => .nx s2
        | r => r) k
      cases e : body s1 with
      | nx s2 =>
        rw [e] at hb
        obtain ⟨m', hm, hi⟩ := hb
        exact whL_inv I step n m' s2 (by omega) hi
      | ct s2 =>
        rw [e] at hb
        obtain ⟨m', hm, hi⟩ := hb
        exact whL_inv I step n m' s2 (by omega) hi
      | bk s2 => rw [e] at hb; exact hb
      | rt d sto => rw [e] at hb; exact hb
      | ro xs sto => rw [e] at hb; exact hb
      | exc c ns vs sto => rw [e] at hb; exact hb
      | bad => rw [e] at hb; exact hb
/-! ### the parts of a term -/
def partsD : D → List D
  | .tup (.str z :: r) => if ck_LEAF_KINDS.contains z then [] else r
  | _ => []

/-! ### what the program's own walks compute -/
theorem leaf_mem {z : Str} (h : ck_LEAF_KINDS.contains z = true) : z ∈ ck_LEAF_KINDS := List.contains_iff_mem.mp h
theorem leaf_not {z : Str} (h : ck_LEAF_KINDS.contains z = false) : z ∉ ck_LEAF_KINDS := fun q => by
  rw [List.contains_iff_mem.mpr q] at h
  cases h
theorem parts_lf {z : Str} {r : List D} (a : ck_LEAF_KINDS.contains z = true) : partsD (.tup (.str z :: r)) = [] := by
  show (if ck_LEAF_KINDS.contains z = true then [] else r) = []
  rw [if_pos a]
theorem parts_nd {z : Str} {r : List D} (a : ck_LEAF_KINDS.contains z = false) : partsD (.tup (.str z :: r)) = r := by
  show (if ck_LEAF_KINDS.contains z = true then [] else r) = r
  rw [if_neg (by rw [a]; decide)]
theorem w_parts_in {n : Nat} {kd : Str} {t : D} {sto : Sto} {E : XPost} {P : D → Sto → Prop} (ht : Te n kd t) (h : P (.tup (partsD t)) sto) : Wf (f_parts_in [t] sto) E P := by
  cases ht with
  | @lf n k z r a b c =>
    obtain ⟨k, hk, ek⟩ := leaf_kind (r := r) (leaf_mem a)
    have gi : gIn (.str z) (.kd ck_LEAF_KINDS cv_LEAF_KINDS) = some (.bl true) := by rw [inKd, hk]; rfl
    rw [parts_lf a] at h
    refine Wf.fn ?_
    unfold m_parts_in
    repeat walk_at "evs"
    refine We.ixT at0 ?_
    repeat walk_at "evs"
    refine X2.of gi ?_
    repeat walk_at "evs"
    exact h
  | @nd n k z ks r a b c =>
    have gi : gIn (.str z) (.kd ck_LEAF_KINDS cv_LEAF_KINDS) = some (.bl false) := by rw [inKd, lk_out (leaf_not a)]; rfl
    rw [parts_nd a] at h
    refine Wf.fn ?_
    unfold m_parts_in
    repeat walk_at "evs"
    refine We.ixT at0 ?_
    repeat walk_at "evs"
    refine X2.of gi ?_
    repeat walk_at "evs"
    rw [cut1]
    exact h
theorem Tes.mem {n : Nat} : ∀ {ks : List Str} {ds : List D} {d : D}, Tes n ks ds → d ∈ ds → ∃ k, Te n k d
  | _, _, _, .nil, h => by cases h
  | _, _, _, .cons a b, h => by
    rcases List.mem_cons.mp h with e | h
    · subst e; exact ⟨_, a⟩
    · exact Tes.mem b h
theorem Te.part {n : Nat} {kd : Str} {t x : D} (ht : Te (n + 1) kd t) (hx : x ∈ partsD t) : ∃ k, Te n k x := by
  cases ht with
  | lf a b c =>
    rw [parts_lf a] at hx
    cases hx
  | nd a b c =>
    rw [parts_nd a] at hx
    exact c.mem hx
theorem Te.succ {n : Nat} {kd : Str} {t : D} (ht : Te n kd t) : ∃ m, n = m + 1 := by cases ht <;> exact ⟨_, rfl⟩
theorem loC_le (z : Str) : loC z ≤ 2 := by
  unfold loC
  split
  · split <;> decide
  · decide
theorem shp_len6 {z : Str} {n : Nat} {p : Sp} (h : shp z n = some p) : n ≤ 7 := by
  unfold shp at h
  split at h
  · split at h
    · rename_i hl
      have : loC z ≤ 2 := loC_le z
      omega
    · cases h
  · split at h
    · rename_i q e
      split at h
      · rename_i hq
        cases h
        unfold bs at e
        split at e
        · rename_i q' e'
          cases e
          have : ∀ p ∈ tabK, p.2.length ≤ 7 := by decide +kernel
          rw [← hq]
          exact this _ (lk_mem e')
        · split at e
          · cases e
            rw [← hq]
            decide
          · cases e
      · cases h
    · cases h
theorem Te.few {n : Nat} {kd : Str} {t : D} (ht : Te n kd t) : (partsD t).length ≤ 7 := by
  cases ht with
  | lf a b c => rw [parts_lf a]; exact Nat.zero_le _
  | nd a b c => rw [parts_nd a]; exact shp_len6 b
/-- sizes -/
def szD : Nat → D → Nat
  | 0, _ => 0
  | n + 1, d => 1 + ((partsD d).map (szD n)).sum
theorem asIs_nats (f : D → Nat) : ∀ ds : List D, asIs (ds.map fun d => D.int (f d : Nat)) = some (ds.map fun d => ((f d : Nat) : Int))
  | [] => rfl
  | d :: ds => by
    show (asIs (ds.map fun d => D.int (f d : Nat))).map (((f d : Nat) : Int) :: ·) = _
    rw [asIs_nats f ds]
    rfl
theorem sum_nats (f : D → Nat) : ∀ ds : List D, (ds.map fun d => ((f d : Nat) : Int)).sum = ((ds.map f).sum : Nat)
  | [] => rfl
  | d :: ds => by
    rw [List.map_cons, List.sum_cons, sum_nats f ds, List.map_cons, List.sum_cons]
    omega

/-! ### levels, spellings, places -/
def mxN : List Nat → Nat
  | [] => 0
  | x :: r => max x (mxN r)
def lvD : Nat → D → Nat
  | 0, _ => 0
  | n + 1, d => 1 + mxN ((partsD d).map (lvD n))
theorem maxI_nats : ∀ (x : Nat) (r : List Nat), maxI ((x :: r).map fun z => ((z : Nat) : Int)) = ((mxN (x :: r) : Nat) : Int)
  | x, [] => by
    show ((x : Nat) : Int) = ((max x 0 : Nat) : Int)
    rw [Nat.max_eq_left (Nat.zero_le _)]
  | x, y :: r => by
    have ih := maxI_nats y r
    show (if ((x : Nat) : Int) ≤ maxI ((y :: r).map fun z => ((z : Nat) : Int)) then _ else _) = ((max x (mxN (y :: r)) : Nat) : Int)
    rw [ih]
    by_cases h : x ≤ mxN (y :: r)
    · rw [if_pos (by omega), Nat.max_eq_right h]
      exact ih
    · rw [if_neg (by omega), Nat.max_eq_left (by omega)]
theorem gMaxD_nats (f : D → Nat) (ds : List D) : gMaxD [.lst (ds.map fun d => D.int (f d : Nat))] [.int 0] = some (.int (mxN (ds.map f) : Nat)) := by
  show (asIs (ds.map fun d => D.int (f d : Nat))).map _ = _
  rw [asIs_nats]
  cases ds with
  | nil => rfl
  | cons d ds =>
    show some (if _ then _ else D.int (maxI _)) = _
    rw [if_neg (by simp)]
    have := maxI_nats (f d) (ds.map f)
    rw [List.map_cons, List.map_map] at this
    rw [List.map_cons, List.map_cons]
    exact congrArg (fun z => some (D.int z)) this
/-- all spellings of leaves with a label, in order -/
def ownS (label : Str) : D → Option (List Str)
  | .tup (.str z :: r) => if z = label then some (match r with | .str y :: _ => [y] | _ => []) else none
  | _ => none
def splS : Nat → Str → D → List Str
  | 0, _, _ => []
  | n + 1, label, d => match ownS label d with
    | some l => l
    | none => (partsD d).flatMap (splS n label)
theorem szD_part {k : Nat} {t x : D} (hx : x ∈ partsD t) : szD k x < szD (k + 1) t := by
  show _ < 1 + ((partsD t).map (szD k)).sum
  have : ∀ (l : List D), x ∈ l → szD k x ≤ (l.map (szD k)).sum := by
    intro l
    induction l with
    | nil => intro h; cases h
    | cons y l ih =>
      intro h
      rw [List.map_cons, List.sum_cons]
      rcases List.mem_cons.mp h with e | h
      · subst e; omega
      · have := ih h; omega
  have := this _ hx
  omega
theorem splS_len : ∀ (k : Nat) (label : Str) (t : D), (splS k label t).length ≤ szD k t
  | 0, _, _ => Nat.le_refl _
  | k + 1, label, t => by
    unfold splS
    have go : ∀ l : List D, (l.flatMap (splS k label)).length ≤ (l.map (szD k)).sum := by
      intro l
      induction l with
      | nil => exact Nat.le_refl _
      | cons y l ih =>
        rw [List.flatMap_cons, List.length_append, List.map_cons, List.sum_cons]
        have := splS_len k label y
        omega
    show _ ≤ 1 + ((partsD t).map (szD k)).sum
    split
    · rename_i l e
      have : l.length ≤ 1 := by
        unfold ownS at e
        split at e
        · split at e
          · cases e
            split <;> simp
          · cases e
        · cases e
      omega
    · have := go (partsD t)
      omega
theorem w_spelt_in {label : Str} (hl : label = "name" ∨ label = "flag") : ∀ (k n : Nat) {kd : Str} {t : D} {sto : Sto} {E : XPost} {P : D → Sto → Prop}, n ≤ k → Te n kd t → szD k t ≤ 1000000 → P (.lst ((splS k label t).map .str)) sto → Wf (f_spelt_in k [t, .str label] sto) E P
  | 0, n, kd, t, sto, E, P, hk, ht, hs, h => by
    obtain ⟨m, e⟩ := ht.succ
    omega
  | k + 1, n, kd, t, sto, E, P, hk, ht, hs, h => by
    have ih : ∀ {kd : Str} {x : D} {sto : Sto} {E : XPost} {P : D → Sto → Prop} {m : Nat}, m ≤ k → Te m kd x → szD k x ≤ 1000000 → P (.lst ((splS k label x).map .str)) sto → Wf (f_spelt_in k [x, .str label] sto) E P := fun {kd x sto E P m} a b s c => w_spelt_in hl k m a b s c
    obtain ⟨m, rfl⟩ := ht.succ
    have few := ht.few
    show Wf (bodyF 4 (m_spelt_in (f_spelt_in k)) [t, .str label] sto) E P
    have hz : sizeLine = 16777216 := by decide
    obtain ⟨z, r, rfl⟩ : ∃ z r, t = .tup (.str z :: r) := by cases ht <;> exact ⟨_, _, rfl⟩
    generalize f_spelt_in k = rr at ih
    refine Wf.fn ?_
    unfold m_spelt_in
    repeat walk_at "evs"
    refine We.ixT at0 ?_
    repeat walk_at "evs"
    by_cases hzl : z = label
    · subst hzl
      refine Xc.t (decide_eq_true rfl) ?_
      have hr : ∃ y, r = [.str y] := by
        cases ht with
        | lf a b c =>
          rcases hl with rfl | rfl
          · match r, b with
            | [x], b =>
              have : (if nameB x then some ("word" : Str) else none) = some kd := b
              cases hx : nameB x with
              | false => rw [hx] at this; cases this
              | true =>
                unfold nameB at hx
                rw [Bool.and_eq_true] at hx
                obtain ⟨y, rfl⟩ := spelD_str hx.1
                exact ⟨y, rfl⟩
            | [], b => cases b
            | _ :: _ :: _, b => cases b
          · match r, b with
            | [x], b =>
              have : (if spelD x then some ("truth" : Str) else none) = some kd := b
              cases hx : spelD x with
              | false => rw [hx] at this; cases this
              | true =>
                obtain ⟨y, rfl⟩ := spelD_str hx
                exact ⟨y, rfl⟩
            | [], b => cases b
            | _ :: _ :: _, b => cases b
        | nd a b c => rcases hl with rfl | rfl <;> exact absurd a (by decide +kernel)
      obtain ⟨y, rfl⟩ := hr
      repeat walk_at "evs"
      have e : splS (k + 1) z (.tup [.str z, .str y]) = [y] := by
        unfold splS ownS
        simp
      rw [e] at h
      exact h
    · refine Xc.f (decide_eq_false hzl) ?_
      have e : splS (k + 1) label (.tup (.str z :: r)) = (partsD (.tup (.str z :: r))).flatMap (splS k label) := by
        unfold splS ownS
        simp only [hzl, if_false]
      rw [e] at h
      generalize htt : D.tup (.str z :: r) = t at *
      repeat walk_at "evs"
      refine w_parts_in ht ?_
      repeat walk_at "evs"
      have hs' : ((partsD t).map (szD k)).sum ≤ 1000000 := by
        have : szD (k + 1) t = 1 + ((partsD t).map (szD k)).sum := rfl
        omega
      refine forL_inv (fun rest s => ∃ (done : List D) (x3 : Sl), partsD t = done ++ rest ∧ (∀ xs, x3 ≠ .ow xs) ∧ s = ⟨[.sh t, .sh (.str label), .sh (.lst ((done.flatMap (splS k label)).map .str)), x3], sto⟩) ?_ ?_ _ _ ⟨[], .un, rfl, fun _ q => (nomatch q), rfl⟩
      · rintro d ds s ⟨done, x3, ed, hx3, rfl⟩
        refine ⟨_, rfl, ?_⟩
        unfold m_spelt_in_b1
        repeat walk_at "evs"
        have hd : d ∈ partsD t := by rw [ed]; simp
        obtain ⟨kx, hx⟩ := ht.part hd
        refine ih (by omega) hx (by have := szD_part (k := k) hd; omega) ?_
        have hsum : ((done ++ d :: ds).map (szD k)).sum ≤ 1000000 := by rw [← ed]; exact hs'
        have go : ∀ l : List D, (l.flatMap (splS k label)).length ≤ (l.map (szD k)).sum := by
          intro l
          induction l with
          | nil => exact Nat.le_refl _
          | cons y l ih =>
            rw [List.flatMap_cons, List.length_append, List.map_cons, List.sum_cons]
            have := splS_len k label y
            omega
        have g1 := go done
        have g2 := splS_len k label d
        rw [List.map_append, List.sum_append, List.map_cons, List.sum_cons] at hsum
        refine X2.addL (by rw [List.length_map, List.length_map]; omega) ?_
        refine ⟨done ++ [d], .sh d, by rw [ed]; simp, fun _ q => (nomatch q), ?_⟩
        rw [List.flatMap_append, List.flatMap_cons, List.flatMap_nil, List.append_nil, List.map_append]
        rfl
      · rintro s ⟨done, x3, ed, hx3, rfl⟩
        repeat walk_at "evs"
        rw [List.append_nil] at ed
        rw [← ed]
        exact h

/-! ### places -/
def plL (f : List Int → D → List (List Int)) (p : List Int) : Nat → List D → List (List Int)
  | _, [] => []
  | i, x :: r => f (p ++ [(i : Int)]) x ++ plL f p (i + 1) r
def plD : Nat → List Int → D → List (List Int)
  | 0, _, _ => []
  | n + 1, p, d => p :: plL (plD n) p 0 (partsD d)
theorem plL_len {k : Nat} (h : ∀ p x, (plD k p x).length = szD k x) : ∀ (r : List D) (p : List Int) (i : Nat), (plL (plD k) p i r).length = (r.map (szD k)).sum
  | [], _, _ => rfl
  | x :: r, p, i => by
    unfold plL
    rw [List.length_append, h, plL_len h r, List.map_cons, List.sum_cons]
theorem plD_len : ∀ (k : Nat) (p : List Int) (t : D), (plD k p t).length = szD k t
  | 0, _, _ => rfl
  | k + 1, p, t => by
    unfold plD
    rw [List.length_cons, plL_len (plD_len k)]
    show _ = 1 + _
    omega
theorem plL_app (f : List Int → D → List (List Int)) (p : List Int) : ∀ (a b : List D) (i : Nat), plL f p i (a ++ b) = plL f p i a ++ plL f p (i + a.length) b
  | [], b, i => rfl
  | x :: a, b, i => by
    show f _ x ++ plL f p (i + 1) (a ++ b) = (f _ x ++ plL f p (i + 1) a) ++ _
    rw [plL_app f p a b, List.append_assoc, List.length_cons, Nat.add_assoc, Nat.add_comm 1]
theorem enumL_app : ∀ (a b : List D) (i : Nat), enumL i (a ++ b) = enumL i a ++ enumL (i + a.length) b
  | [], b, i => rfl
  | x :: a, b, i => by
    show _ :: enumL (i + 1) (a ++ b) = (_ :: enumL (i + 1) a) ++ _
    rw [enumL_app a b, List.length_cons, Nat.add_assoc, Nat.add_comm 1]
    rfl
/-! ### the part at a place -/
def ptD : List Int → D → Option D
  | [], d => some d
  | i :: r, d => if 0 ≤ i then (match (partsD d)[i.toNat]? with | some x => ptD r x | none => none) else none
def optD : Option D → D
  | some d => d
  | none => .non

/-! ### places that are told, terms that are needed -/
theorem w_within0 {v : Int} {sto : Sto} {E : XPost} {P : D → Sto → Prop} (h : P (.bl (decide (0 ≤ v))) sto) : Wf (f_is_within [.int v, .int 0, .non] sto) E P := by
  refine Wf.fn ?_
  unfold m_is_within
  repeat walk_at "evs"
  refine Wf.of_eq (d := .bl true) (sto := sto) (by rfl) ?_
  repeat walk_at "evs"
  refine @Xc.d _ _ _ _ (fun h0 => ?_) fun h0 => ?_
  · repeat walk_at "evs"
    rw [decide_eq_false (by omega)] at h
    exact h
  · repeat walk_at "evs"
    rw [decide_eq_true (by omega)] at h
    exact h
theorem all_true : ∀ ds : List D, gAll [.lst (ds.map fun _ => D.bl true)] = some (.bl true) := fun ds => by
  show (asBs _).map _ = _
  have : ∀ ds : List D, asBs (ds.map fun _ => D.bl true) = some (ds.map fun _ => true) := by
    intro ds
    induction ds with
    | nil => rfl
    | cons d ds ih =>
      show (asBs (ds.map fun _ => D.bl true)).map (true :: ·) = _
      rw [ih]
      rfl
  rw [this]
  show some (D.bl ((ds.map fun _ => true).all id)) = _
  rw [List.all_eq_true.mpr]
  intro x hx
  obtain ⟨d, _, rfl⟩ := List.mem_map.mp hx
  rfl
/-- a term at hand -/
structure Go (kd : Str) (t : D) : Prop where
  pv : Pv 20 100000 t
  te : Te 20 kd t
theorem w_need_te {kd : Str} {t p : D} {sto : Sto} {E : XPost} {P : D → Sto → Prop} (ht : Go kd t) (h : P t sto) : Wf (f_need_term [t, p] sto) E P := by
  refine w_need_ok ht.pv (by omega) (by omega) (ht.te.kd (j := 40) (by omega)) ?_
  rw [ht.te.fx]
  exact h
theorem Te.isTup {n : Nat} {kd : Str} {t : D} (ht : Te n kd t) : ∃ z r, t = .tup (.str z :: r) ∧ (partsD t = [] ∨ partsD t = r) := by
  cases ht with
  | lf a b c => exact ⟨_, _, rfl, .inl (parts_lf a)⟩
  | nd a b c => exact ⟨_, _, rfl, .inr (parts_nd a)⟩
theorem Pvs.sum_sz {n k : Nat} (h : ∀ {w : Nat} {d : D}, Pv n w d → szD k d ≤ w + 1) : ∀ {w : Nat} {ds : List D}, Pvs n w ds → (ds.map (szD k)).sum ≤ w
  | _, [], _ => Nat.zero_le _
  | w, d :: ds, hs => by
    obtain ⟨w1, w2, e, a, b⟩ := hs.uncons
    have h1 := h a
    have h2 := Pvs.sum_sz h b
    rw [List.map_cons, List.sum_cons]
    omega
theorem szD_le : ∀ (k : Nat) {n w : Nat} {t : D}, Pv n w t → szD k t ≤ w + 1
  | 0, n, w, t, _ => Nat.zero_le _
  | k + 1, n, w, t, h => by
    show 1 + ((partsD t).map (szD k)).sum ≤ w + 1
    have : ((partsD t).map (szD k)).sum ≤ w := by
      cases t with
      | tup xs =>
        obtain ⟨m, rfl, hs⟩ := h.untup
        cases xs with
        | nil => exact Nat.zero_le _
        | cons x xs =>
          obtain ⟨w1, w2, e, a, b⟩ := hs.uncons
          cases x with
          | str z =>
            show ((if ck_LEAF_KINDS.contains z = true then [] else xs).map (szD k)).sum ≤ w
            split
            · exact Nat.zero_le _
            · have := Pvs.sum_sz (fun {w d} q => szD_le k q) b
              omega
          | _ => exact Nat.zero_le _
      | _ => exact Nat.zero_le _
    omega
theorem Go.sz {kd : Str} {t : D} (h : Go kd t) (k : Nat) : szD k t ≤ 100001 := szD_le k h.pv
theorem asSs_map : ∀ l : List Str, asSs (l.map .str) = some l
  | [] => rfl
  | x :: l => by
    show (asSs (l.map .str)).map (x :: ·) = _
    rw [asSs_map l]
    rfl
theorem gSortSet_strs {l : List Str} (h1 : l.length ≤ 4000) (h2 : (oneS l).length < 64) : gSortSet (.lst (l.map .str)) = some (.lst ((srtS (oneS l)).map .str)) := by
  show (asSs (l.map .str)).bind _ = _
  rw [asSs_map]
  show (if l.length ≤ 4000 ∧ (oneS l).length < 64 then _ else none) = _
  rw [if_pos ⟨h1, h2⟩]
theorem w_names_in {kd : Str} {t : D} {sto : Sto} {E : XPost} {P : D → Sto → Prop} (ht : Go kd t) (h1 : (splS 40 "name" t).length ≤ 4000) (h2 : (oneS (splS 40 "name" t)).length < 64) (h : P (.tup ((srtS (oneS (splS 40 "name" t))).map .str)) sto) : Wf (f_names_in [t] sto) E P := by
  refine Wf.fn ?_
  unfold m_names_in
  repeat walk_at "evs"
  refine We.pick ?_
  repeat walk_at "evs"
  refine w_need_te ht ?_
  repeat walk_at "evs"
  refine w_spelt_in (.inl rfl) 40 20 (by omega) ht.te (by have := ht.sz 40; omega) ?_
  refine X1.of (gSortSet_strs h1 h2) ?_
  repeat walk_at "evs"
  refine XL.of (by rfl) ?_
  exact h
theorem w_flags_in {kd : Str} {t : D} {sto : Sto} {E : XPost} {P : D → Sto → Prop} (ht : Go kd t) (h1 : (splS 40 "flag" t).length ≤ 4000) (h2 : (oneS (splS 40 "flag" t)).length < 64) (h : P (.tup ((srtS (oneS (splS 40 "flag" t))).map .str)) sto) : Wf (f_flags_in [t] sto) E P := by
  refine Wf.fn ?_
  unfold m_flags_in
  repeat walk_at "evs"
  refine We.pick ?_
  repeat walk_at "evs"
  refine w_need_te ht ?_
  repeat walk_at "evs"
  refine w_spelt_in (.inr rfl) 40 20 (by omega) ht.te (by have := ht.sz 40; omega) ?_
  refine X1.of (gSortSet_strs h1 h2) ?_
  repeat walk_at "evs"
  refine XL.of (by rfl) ?_
  exact h

/-! ### a term put at a place -/
theorem eq_ti {p : List Int} {P : D → Prop} (h : P (.bl (decide (p = [])))) : X2 gEq (tiD p) (.tup []) P := by
  refine ⟨_, ?_, h⟩
  show gEqD (.tup (p.map .int)) (.tup []) = some (.bl (decide (p = [])))
  unfold gEqD
  rw [if_pos]
  · cases p with
    | nil => rfl
    | cons a r => rfl
  · simp only [Bool.and_eq_true]
    refine ⟨⟨⟨?_, rfl⟩, ?_⟩, rfl⟩
    · unfold D.pure; exact pures_ints p
    · unfold SeqAt.shaped
      simp only [Bool.and_eq_true, decide_eq_true_eq]
      refine ⟨lay_ints p, ?_⟩
      have := depthAll_ints p
      show (PyData.tuple (pys (p.map .int))).depth ≤ 64
      simp only [PyData.depth]
      omega
def puD : List Int → D → D → D
  | [], _, o => o
  | i :: r, t, o => match t with
    | .tup xs => match xs[i.toNat + 1]? with
      | some x => .tup (xs.take (i.toNat + 1) ++ (puD r x o :: (xs.drop (i.toNat + 2) ++ [])))
      | none => t
    | t => t
theorem part_at_tup {n : Nat} {kd : Str} {t x : D} {i : Int} {r : List Int} (ht : Te n kd t) (h : ptD (i :: r) t = some x) :
    ∃ (q : Nat) (z : Str) (ds : List D) (y : D), i = (q : Int) ∧ t = .tup (.str z :: ds) ∧ partsD t = ds ∧ ds[q]? = some y ∧ ptD r y = some x := by
  have h : (if 0 ≤ i then (match (partsD t)[i.toNat]? with | some x => ptD r x | none => none) else none) = some x := h
  by_cases h0 : 0 ≤ i
  · rw [if_pos h0] at h
    obtain ⟨q, rfl⟩ := Int.eq_ofNat_of_zero_le h0
    rw [Int.toNat_natCast] at h
    obtain ⟨z, ds, rfl, hp⟩ := ht.isTup
    rcases hp with hp | hp
    · rw [hp] at h
      cases h
    · rw [hp] at h
      cases e : ds[q]? with
      | none => rw [e] at h; cases h
      | some y =>
        rw [e] at h
        exact ⟨q, z, ds, y, rfl, rfl, hp, e, h⟩
  · rw [if_neg h0] at h
    cases h
theorem ptD_te : ∀ {p : List Int} {n : Nat} {kd : Str} {t x : D}, Te n kd t → ptD p t = some x → ∃ m kx, m ≤ n ∧ Te m kx x
  | [], n, kd, t, x, ht, h => by
    cases h
    exact ⟨n, kd, Nat.le_refl _, ht⟩
  | i :: r, n, kd, t, x, ht, h => by
    obtain ⟨q, z, ds, y, rfl, rfl, hp, hy, hx⟩ := part_at_tup ht h
    obtain ⟨m, rfl⟩ := ht.succ
    obtain ⟨ky, hty⟩ := ht.part (x := y) (by rw [hp]; exact List.mem_of_getElem? hy)
    obtain ⟨m', kx, h1, h2⟩ := ptD_te hty hx
    exact ⟨m', kx, by omega, h2⟩
/-! ### .. is a term again -/
theorem Tes.put {n m : Nat} {o : D} : ∀ {ks : List Str} {ds : List D} {q : Nat} {y : D}, Tes n ks ds → ds[q]? = some y → (∀ k, Te n k y → Te m k o) → n ≤ m → Tes m ks (ds.take q ++ (o :: (ds.drop (q + 1) ++ [])))
  | _, _, 0, y, .cons a b, hy, ho, hm => by
    cases hy
    show Tes m _ (o :: (_ ++ []))
    rw [List.append_nil]
    exact .cons (ho _ a) (Tes.imp (fun k d h => h.up hm) b)
  | _, _, q + 1, y, .cons a b, hy, ho, hm => .cons (a.up hm) (Tes.put b hy ho hm)
  | _, _, q, y, .nil, hy, _, _ => by cases hy
theorem Te.uniq {n m : Nat} {k k' : Str} {d : D} (a : Te n k d) (b : Te m k' d) : k = k' := by
  have h1 := a.kd (j := n + m) (by omega)
  have h2 := b.kd (j := n + m) (by omega)
  rw [h1] at h2
  exact Option.some.inj h2
theorem Te.put : ∀ {p : List Int} {n m : Nat} {kd kx : Str} {t x o : D}, Te n kd t → ptD p t = some x → Te m kx x → Te m kx o → Te (n + m) kd (puD p t o)
  | [], n, m, kd, kx, t, x, o, ht, h, hx, ho => by
    cases h
    rw [ht.uniq hx]
    exact ho.up (by omega)
  | i :: r, n, m, kd, kx, t, x, o, ht, h, hx, ho => by
    obtain ⟨q, z, ds, y, rfl, rfl, hp, hy, hx'⟩ := part_at_tup ht h
    have hlt := (List.getElem?_eq_some_iff.mp hy).1
    have e4 : puD ((q : Int) :: r) (.tup (.str z :: ds)) o = .tup (.str z :: (ds.take q ++ (puD r y o :: (ds.drop (q + 1) ++ [])))) := by
      show (match (D.str z :: ds)[(q : Int).toNat + 1]? with | some x => D.tup ((D.str z :: ds).take ((q : Int).toNat + 1) ++ (puD r x o :: ((D.str z :: ds).drop ((q : Int).toNat + 2) ++ []))) | none => _) = _
      rw [Int.toNat_natCast, List.getElem?_cons_succ, hy]
      rfl
    rw [e4]
    cases ht with
    | lf a b c =>
      rw [parts_lf a] at hp
      subst hp
      cases hy
    | nd a b c d =>
      have : (ds.take q ++ (puD r y o :: (ds.drop (q + 1) ++ []))).length = ds.length := by
        simp only [List.length_append, List.length_take, List.length_cons, List.length_drop, List.length_nil]
        omega
      exact Nat.succ_add _ _ ▸ .nd a (by rw [this]; exact b) (Tes.put c hy (fun k hk => Te.put hk hx' hx ho) (by omega)) ⟨by rw [this]; exact d.1, d.2⟩
theorem Pv.put : ∀ {p : List Int} {n n' w w' m : Nat} {kd : Str} {t x o : D}, Pv n w t → Te m kd t → ptD p t = some x → Pv n' w' o → Pv (n + n') (w + w') (puD p t o)
  | [], n, n', w, w', m, kd, t, x, o, hp, ht, h, ho => ho.mono (by omega) (by omega)
  | i :: r, n, n', w, w', m, kd, t, x, o, hv, ht, h, ho => by
    obtain ⟨q, z, ds, y, rfl, rfl, hp, hy, hx'⟩ := part_at_tup ht h
    have e4 : puD ((q : Int) :: r) (.tup (.str z :: ds)) o = .tup (.str z :: (ds.take q ++ (puD r y o :: (ds.drop (q + 1) ++ [])))) := by
      show (match (D.str z :: ds)[(q : Int).toNat + 1]? with | some x => D.tup ((D.str z :: ds).take ((q : Int).toNat + 1) ++ (puD r x o :: ((D.str z :: ds).drop ((q : Int).toNat + 2) ++ []))) | none => _) = _
      rw [Int.toNat_natCast, List.getElem?_cons_succ, hy]
      rfl
    rw [e4]
    obtain ⟨m', rfl⟩ := ht.succ
    obtain ⟨ky, hty⟩ := ht.part (x := y) (by rw [hp]; exact List.mem_of_getElem? hy)
    obtain ⟨n1, rfl, hs⟩ := hv.untup
    obtain ⟨w1, w2, e, a, b⟩ := hs.uncons
    have hlt := (List.getElem?_eq_some_iff.mp hy).1
    have hge := (List.getElem?_eq_some_iff.mp hy).2
    have b' : Pvs n1 w2 (ds.take q ++ ds.drop q) := by rw [List.take_append_drop]; exact b
    obtain ⟨w3, w4, e2, c1, c2⟩ := b'.split
    rw [List.drop_eq_getElem_cons hlt, hge] at c2
    obtain ⟨w5, w6, e3, d1, d2⟩ := c2.uncons
    have ih := Pv.put d1 hty hx' ho
    rw [List.append_nil]
    refine (Pv.tup (Pvs.cons (a.mono (Nat.le_add_right n1 n') (Nat.le_refl _)) (Pvs.append (c1.mono (Nat.le_add_right n1 n') (Nat.le_refl _)) (Pvs.cons ih (d2.mono (Nat.le_add_right n1 n') (Nat.le_refl _)))))).mono (by omega) (by omega)

/-! ### part_at, with_part -/
def Pl (p : List Int) (d : D) : Prop := (d = tiD p ∨ d = .lst (p.map .int)) ∧ (∀ i ∈ p, 0 ≤ i) ∧ p.length ≤ 30
theorem Pv.ptD : ∀ {p : List Int} {n w m : Nat} {kd : Str} {t x : D}, Pv n w t → Te m kd t → Ev.ptD p t = some x → Pv n w x
  | [], n, w, m, kd, t, x, hv, ht, h => by cases h; exact hv
  | i :: r, n, w, m, kd, t, x, hv, ht, h => by
    obtain ⟨q, z, ds, y, rfl, rfl, hp, hy, hx'⟩ := part_at_tup ht h
    obtain ⟨m', rfl⟩ := ht.succ
    obtain ⟨ky, hty⟩ := ht.part (x := y) (by rw [hp]; exact List.mem_of_getElem? hy)
    obtain ⟨n1, rfl, hs⟩ := hv.untup
    have := hs.mem (List.mem_cons_of_mem _ (List.mem_of_getElem? hy))
    exact (Pv.ptD this hty hx').mono (by omega) (Nat.le_refl _)
theorem g_kind {kd : Str} {t : D} {n w m : Nat} {sto : Sto} {E : XPost} {P : D → Sto → Prop} (hv : Pv n w t) (hn : n < 40) (hw : w ≤ 1000000) (ht : Te m kd t) (hm : m ≤ 40) (h : P (.str kd) sto) : Wf (f_kind_of 40 [t] sto) E P := by
  refine w_kind_of 40 n w t hv hn hw ?_
  rw [ht.kd hm]
  exact h

def chL (p : List Int) : Nat → List D → List (List Int × D)
  | _, [] => []
  | i, x :: r => (p ++ [(i : Int)], x) :: chL p (i + 1) r
def wkD : Nat → List Int → D → List (List Int × D)
  | 0, _, _ => []
  | n + 1, p, d => (p, d) :: (chL p 0 (partsD d)).reverse.flatMap fun q => wkD n q.1 q.2
def prT (q : List Int × D) : D := .tup [tiD q.1, q.2]
theorem chL_app (p : List Int) : ∀ (a b : List D) (i : Nat), chL p i (a ++ b) = chL p i a ++ chL p (i + a.length) b
  | [], b, i => rfl
  | x :: a, b, i => by
    show _ :: chL p (i + 1) (a ++ b) = _ :: (chL p (i + 1) a ++ _)
    rw [chL_app p a b (i + 1), List.length_cons, Nat.add_assoc, Nat.add_comm 1]
theorem chL_mem {p : List Int} {q : List Int × D} : ∀ {ds : List D} {i : Nat}, q ∈ chL p i ds → ∃ j, q.1 = p ++ [((i + j : Nat) : Int)] ∧ ds[j]? = some q.2
  | [], i, h => by cases h
  | x :: r, i, h => by
    rcases List.mem_cons.mp h with rfl | h
    · exact ⟨0, rfl, rfl⟩
    · obtain ⟨j, h1, h2⟩ := chL_mem h
      exact ⟨j + 1, by rw [h1, Nat.add_assoc, Nat.add_comm 1], h2⟩
theorem chL_snd {p : List Int} : ∀ {ds : List D} {i : Nat}, (chL p i ds).map (·.2) = ds
  | [], i => rfl
  | x :: r, i => by
    show x :: (chL p (i + 1) r).map (·.2) = _
    rw [chL_snd]
theorem chL_len {p : List Int} {ds : List D} {i : Nat} : (chL p i ds).length = ds.length := by
  rw [← List.length_map (f := (·.2)), chL_snd]
theorem chL_mem2 {p : List Int} {q : List Int × D} {ds : List D} {i : Nat} (h : q ∈ chL p i ds) : q.2 ∈ ds := by
  obtain ⟨j, _, h⟩ := chL_mem h
  exact List.mem_of_getElem? h
theorem flatMap_eq {α β : Type} {f g : α → List β} : ∀ {l : List α}, (∀ a ∈ l, f a = g a) → l.flatMap f = l.flatMap g
  | [], _ => rfl
  | a :: l, h => by
    rw [List.flatMap_cons, List.flatMap_cons, h a List.mem_cons_self, flatMap_eq fun b hb => h b (List.mem_cons_of_mem _ hb)]
theorem wkD_up : ∀ {n m : Nat} {k : Str} {x : D} {p : List Int}, Te n k x → n ≤ m → wkD m p x = wkD n p x
  | 0, m, k, x, p, ht, h => by obtain ⟨m, e⟩ := ht.succ; cases e
  | n + 1, 0, k, x, p, ht, h => by omega
  | n + 1, m + 1, k, x, p, ht, h => by
    show _ :: _ = _ :: _
    congr 1
    refine flatMap_eq fun q hq => ?_
    obtain ⟨kq, hk⟩ := ht.part (chL_mem2 (List.mem_reverse.mp hq))
    exact wkD_up hk (by omega)
theorem map_eq {α β : Type} {f g : α → β} : ∀ {l : List α}, (∀ a ∈ l, f a = g a) → l.map f = l.map g
  | [], _ => rfl
  | a :: l, h => by
    rw [List.map_cons, List.map_cons, h a List.mem_cons_self, map_eq fun b hb => h b (List.mem_cons_of_mem _ hb)]
theorem szD_up : ∀ {n m : Nat} {k : Str} {x : D}, Te n k x → n ≤ m → szD m x = szD n x
  | 0, m, k, x, ht, h => by obtain ⟨m, e⟩ := ht.succ; cases e
  | n + 1, 0, k, x, ht, h => by omega
  | n + 1, m + 1, k, x, ht, h => by
    show 1 + _ = 1 + _
    congr 2
    refine map_eq fun q hq => ?_
    obtain ⟨kq, hk⟩ := ht.part hq
    exact szD_up hk (by omega)
theorem We.b2 {E : XPost} {s : Sx} {Q : D → Sx → Prop} {g : D → D → Option D} {i : Nat} {mb : M D} {d0 : D} (e0 : slD s i = some d0) (h : We (mb s) E fun b s1 => ∃ d z, slD s1 i = some d ∧ g d b = some z ∧ z.flat = true ∧ Q z s1) : We (mB2 g i mb s) E Q := by
  unfold mB2
  rw [e0]
  simp only
  cases e : mb s with
  | ok b s1 =>
    rw [e] at h
    obtain ⟨d, z, h1, h2, h3, q⟩ := h
    simp only [h1, h2, h3, if_true]
    exact q
  | exc => rw [e] at h; exact h
  | bad => rw [e] at h; exact h
theorem Pvs.ex {n : Nat} : ∀ {ds : List D}, (∀ d ∈ ds, ∃ w, Pv n w d) → ∃ w, Pvs n w ds
  | [], _ => ⟨0, Pvs.nil⟩
  | d :: ds, h => by
    obtain ⟨w1, h1⟩ := h d List.mem_cons_self
    obtain ⟨w2, h2⟩ := Pvs.ex fun x hx => h x (List.mem_cons_of_mem _ hx)
    exact ⟨_, Pvs.cons h1 h2⟩
/-- a place that may be -/
def smP (p : List Int) : Prop := ∀ i ∈ p, 0 ≤ i ∧ i < 7
theorem int7 : ∀ n : Nat, n < 7 → pvC 0 32 (.int (n : Int)) = true := by decide +kernel
theorem Pv.intE {i : Int} (h : 0 ≤ i ∧ i < 7) : Pv 0 32 (.int i) := by
  obtain ⟨n, rfl⟩ := Int.eq_ofNat_of_zero_le h.1
  exact pvC.pv (int7 n (by omega))
theorem ints_pv : ∀ {p : List Int}, smP p → Pvs 0 (33 * p.length) (p.map .int)
  | [], _ => Pvs.nil
  | i :: p, h => by
    refine (Pvs.cons (Pv.intE (h i List.mem_cons_self)) (ints_pv fun j hj => h j (List.mem_cons_of_mem _ hj))).mono (Nat.le_refl _) ?_
    rw [List.length_cons]
    omega
theorem tiD_pv {p : List Int} (h : smP p) : Pv 1 (33 * p.length) (tiD p) := Pv.tup (ints_pv h)
theorem prT_pv {n w : Nat} {q : List Int × D} (hs : smP q.1) (h : Pv (n + 1) w q.2) : ∃ w, Pv (n + 2) w (prT q) := by
  have h1 := tiD_pv hs
  exact ⟨_, Pv.tup (Pvs.cons (h1.mono (by omega) (Nat.le_refl _)) (Pvs.cons h (Pvs.nil (w := 0))))⟩
theorem gNe_nil {n w : Nat} {ds : List D} (h : Pvs n w ds) (hn : n ≤ 60) : gNe (.lst ds) (.lst []) = some (.bl (!ds.isEmpty)) := by
  obtain ⟨p1, p2⟩ := (Pv.lst h).shaped (by omega)
  have e : gEqD (.lst ds) (.lst []) = some (.bl ds.isEmpty) := by
    unfold gEqD
    rw [if_pos]
    · cases ds with
      | nil => rfl
      | cons a r => rfl
    · rw [p1, p2]
      rfl
  show (match gEqD (.lst ds) (.lst []) with | some (.bl k) => some (D.bl (!k)) | _ => none) = _
  rw [e]
/-- what stands on the stack -/
structure Sk (q : List Int × D) : Prop where
  te : ∃ n k, n ≤ 20 ∧ Te n k q.2 ∧ q.1.length + n ≤ 20
  pv : ∃ w, Pv 20 w q.2
  sm : smP q.1
def szS (stk : List (List Int × D)) : Nat := (stk.map fun q => szD 40 q.2).sum
theorem szS_app (a b : List (List Int × D)) : szS (a ++ b) = szS a + szS b := by unfold szS; rw [List.map_append, List.sum_append]
theorem sz_pos {n : Nat} {x : D} : 1 ≤ szD (n + 1) x := by show 1 ≤ 1 + _; omega
theorem szS_len : ∀ (stk : List (List Int × D)), stk.length ≤ szS stk
  | [] => Nat.zero_le _
  | q :: r => by
    have := szS_len r
    have h2 : 1 ≤ szD 40 q.2 := sz_pos
    have : szS (q :: r) = szD 40 q.2 + szS r := by unfold szS; rw [List.map_cons, List.sum_cons]
    rw [List.length_cons]
    omega
theorem Pv.part {n w : Nat} {t x : D} (h : Pv n w t) (hx : x ∈ partsD t) : Pv n w x := by
  cases t with
  | tup xs =>
    obtain ⟨m, rfl, hs⟩ := h.untup
    cases xs with
    | nil => cases hx
    | cons y ys =>
      cases y with
      | str z =>
        have hx : x ∈ (if ck_LEAF_KINDS.contains z = true then [] else ys) := hx
        split at hx
        · cases hx
        · exact (hs.mem (List.mem_cons_of_mem _ hx)).mono (by omega) (Nat.le_refl _)
      | _ => cases hx
  | _ => cases hx
theorem szS_ch {n : Nat} {k : Str} {x : D} {p : List Int} (ht : Te n k x) (hn : n ≤ 40) : szD 40 x = 1 + szS (chL p 0 (partsD x)) := by
  show 1 + ((partsD x).map (szD 39)).sum = 1 + _
  congr 1
  unfold szS
  have e : (chL p 0 (partsD x)).map (fun q => szD 40 q.2) = ((chL p 0 (partsD x)).map (·.2)).map (szD 40) := by rw [List.map_map]; rfl
  rw [e, chL_snd]
  congr 1
  refine map_eq fun q hq => ?_
  obtain ⟨m, rfl⟩ := ht.succ
  obtain ⟨kq, hk⟩ := ht.part hq
  exact (szD_up hk (by omega)).trans (szD_up hk (by omega)).symm
theorem wkD_succ (n : Nat) (p : List Int) (d : D) : wkD (n + 1) p d = (p, d) :: (chL p 0 (partsD d)).reverse.flatMap fun q => wkD n q.1 q.2 := rfl
theorem wkD_succ40 {p : List Int} {d : D} : wkD 40 p d = (p, d) :: (chL p 0 (partsD d)).reverse.flatMap fun q => wkD 39 q.1 q.2 := wkD_succ 39 p d
theorem wk_ch {n : Nat} {k : Str} {x : D} {p : List Int} (ht : Te n k x) (hn : n ≤ 40) : wkD 40 p x = (p, x) :: (chL p 0 (partsD x)).reverse.flatMap fun q => wkD 40 q.1 q.2 := by
  refine wkD_succ40.trans (congrArg (List.cons (p, x)) (flatMap_eq fun q hq => ?_))
  obtain ⟨m, rfl⟩ := ht.succ
  obtain ⟨kq, hk⟩ := ht.part (chL_mem2 (List.mem_reverse.mp hq))
  exact (wkD_up hk (by omega)).trans (wkD_up hk (by omega)).symm
theorem Sk.ch {q c : List Int × D} (h : Sk q) (hc : c ∈ chL q.1 0 (partsD q.2)) : Sk c := by
  obtain ⟨n, k, h1, h2, h3⟩ := h.te
  obtain ⟨w, hw⟩ := h.pv
  obtain ⟨m, rfl⟩ := h2.succ
  have hm := chL_mem2 hc
  obtain ⟨kq, hk⟩ := h2.part hm
  obtain ⟨j, e, ej⟩ := chL_mem hc
  have few := h2.few
  have hlt := (List.getElem?_eq_some_iff.mp ej).1
  refine ⟨⟨m, kq, by omega, hk, by rw [e, List.length_append, List.length_singleton]; omega⟩, ⟨w, hw.part hm⟩, ?_⟩
  intro i hi
  rw [e] at hi
  rcases List.mem_append.mp hi with hi | hi
  · exact h.sm i hi
  · rw [List.mem_singleton] at hi
    subst hi
    omega

/-! ### what is found on the walk -/
theorem leaf_str {n : Nat} {kd z label : Str} {r : List D} (hl : label = "name" ∨ label = "flag") (ht : Te n kd (.tup (.str z :: r))) (hz : z = label) : ∃ y, r = [.str y] ∧ y ∈ spelts := by
  subst hz
  cases ht with
  | lf a b c =>
    have fl : ∀ y, r = [.str y] → y ∈ spelts := by
      rintro y rfl
      have : (spelts.contains y && true) = true := c
      rw [Bool.and_true] at this
      exact List.contains_iff_mem.mp this
    rcases hl with rfl | rfl
    · match r, b with
      | [x], b =>
        have : (if nameB x then some ("word" : Str) else none) = some kd := b
        cases hx : nameB x with
        | false => rw [hx] at this; cases this
        | true =>
          unfold nameB at hx
          rw [Bool.and_eq_true] at hx
          obtain ⟨y, rfl⟩ := spelD_str hx.1
          exact ⟨y, rfl, fl y rfl⟩
      | [], b => cases b
      | _ :: _ :: _, b => cases b
    · match r, b with
      | [x], b =>
        have : (if spelD x then some ("truth" : Str) else none) = some kd := b
        cases hx : spelD x with
        | false => rw [hx] at this; cases this
        | true =>
          obtain ⟨y, rfl⟩ := spelD_str hx
          exact ⟨y, rfl, fl y rfl⟩
      | [], b => cases b
      | _ :: _ :: _, b => cases b
  | nd a b c => rcases hl with rfl | rfl <;> exact absurd a (by decide +kernel)
def gtD {β : Type} (F : List Int → D → List β) : Nat → List Int → D → List β
  | 0, _, _ => []
  | n + 1, p, d => F p d ++ (chL p 0 (partsD d)).flatMap fun q => gtD F n q.1 q.2
theorem flatMap_perm {α β : Type} {f g : α → List β} : ∀ {l : List α}, (∀ a ∈ l, (f a).Perm (g a)) → (l.flatMap f).Perm (l.flatMap g)
  | [], _ => .refl _
  | a :: l, h => by
    rw [List.flatMap_cons, List.flatMap_cons]
    exact (h a List.mem_cons_self).append (flatMap_perm fun b hb => h b (List.mem_cons_of_mem _ hb))
theorem wk_gt {β : Type} (F : List Int → D → List β) : ∀ (n : Nat) (p : List Int) (d : D), ((wkD n p d).flatMap fun q => F q.1 q.2).Perm (gtD F n p d)
  | 0, _, _ => .refl _
  | n + 1, p, d => by
    show (((p, d) :: (chL p 0 (partsD d)).reverse.flatMap fun q => wkD n q.1 q.2).flatMap fun q => F q.1 q.2).Perm (F p d ++ _)
    rw [List.flatMap_cons, List.flatMap_assoc]
    refine List.Perm.append_left _ ?_
    exact ((List.reverse_perm _).flatMap_right _).trans (flatMap_perm fun q _ => wk_gt F n q.1 q.2)
theorem chL_flat (f : List Int → D → List (List Int)) (p : List Int) : ∀ (ds : List D) (i : Nat), (chL p i ds).flatMap (fun q => f q.1 q.2) = plL f p i ds
  | [], i => rfl
  | x :: r, i => by
    show ((p ++ [(i : Int)], x) :: chL p (i + 1) r).flatMap _ = f _ x ++ plL f p (i + 1) r
    rw [List.flatMap_cons, chL_flat f p r]
theorem gt_pl : ∀ (n : Nat) (p : List Int) (d : D), gtD (fun p _ => [p]) n p d = plD n p d
  | 0, _, _ => rfl
  | n + 1, p, d => by
    show [p] ++ _ = p :: _
    rw [List.singleton_append, ← chL_flat]
    congr 1
    exact flatMap_eq fun q _ => gt_pl n q.1 q.2
theorem flat_one {α β : Type} (f : α → β) : ∀ l : List α, (l.flatMap fun x => [f x]) = l.map f
  | [] => rfl
  | x :: l => by rw [List.flatMap_cons, flat_one f l]; rfl
theorem wk_pl (n : Nat) (p : List Int) (d : D) : ((wkD n p d).map (·.1)).Perm (plD n p d) := by
  have := wk_gt (fun p _ => [p]) n p d
  rw [gt_pl, flat_one] at this
  exact this
theorem wk_len (n : Nat) (p : List Int) (d : D) : (wkD n p d).length = szD n d := by
  have := (wk_pl n p d).length_eq
  rw [List.length_map, plD_len] at this
  exact this
def ownL (label : Str) (d : D) : List Str := (ownS label d).getD []
theorem flat_snd {β : Type} (f : D → List β) (p : List Int) (ds : List D) (i : Nat) : (chL p i ds).flatMap (fun q => f q.2) = ds.flatMap f := by
  have : (chL p i ds).flatMap (fun q => f q.2) = ((chL p i ds).map (·.2)).flatMap f := by rw [List.flatMap_map]
  rw [this, chL_snd]
theorem own_leaf {label : Str} {d : D} {l : List Str} (hl : label = "name" ∨ label = "flag") (h : ownS label d = some l) : partsD d = [] := by
  unfold ownS at h
  split at h
  · split at h
    · rename_i e
      subst e
      rcases hl with rfl | rfl <;> exact parts_lf (by decide +kernel)
    · cases h
  · cases h
theorem gt_spl {label : Str} (hl : label = "name" ∨ label = "flag") : ∀ (n : Nat) (p : List Int) (d : D), gtD (fun _ d => ownL label d) n p d = splS n label d
  | 0, _, _ => rfl
  | n + 1, p, d => by
    show ownL label d ++ _ = match ownS label d with | some l => l | none => (partsD d).flatMap (splS n label)
    have e : (chL p 0 (partsD d)).flatMap (fun q => gtD (fun _ d => ownL label d) n q.1 q.2) = (partsD d).flatMap (splS n label) := by
      rw [← flat_snd (splS n label) p (partsD d) 0]
      exact flatMap_eq fun q _ => gt_spl hl n q.1 q.2
    rw [e]
    unfold ownL
    cases ho : ownS label d with
    | none => rfl
    | some l =>
      rw [own_leaf hl ho]
      show l ++ [] = l
      rw [List.append_nil]
theorem wk_spl {label : Str} (hl : label = "name" ∨ label = "flag") (n : Nat) (p : List Int) (d : D) : ((wkD n p d).flatMap fun q => ownL label q.2).Perm (splS n label d) := by
  have := wk_gt (fun _ d => ownL label d) n p d
  rw [gt_spl hl] at this
  exact this
/-- where a part stands -/
theorem wk_mem : ∀ {n : Nat} {p : List Int} {d : D} {q : List Int × D}, q ∈ wkD n p d → ∃ r, q.1 = p ++ r ∧ ptD r d = some q.2 ∧ (∀ i ∈ r, 0 ≤ i) ∧ r.length < n
  | 0, p, d, q, h => by cases h
  | n + 1, p, d, q, h => by
    rcases List.mem_cons.mp h with rfl | h
    · exact ⟨[], (List.append_nil p).symm, rfl, fun _ h => (by cases h), Nat.succ_pos n⟩
    · obtain ⟨c, hc, hq⟩ := List.mem_flatMap.mp h
      obtain ⟨j, e1, e2⟩ := chL_mem (List.mem_reverse.mp hc)
      obtain ⟨r, h1, h2, h3, h4⟩ := wk_mem hq
      refine ⟨(j : Int) :: r, by rw [h1, e1, List.append_assoc, Nat.zero_add]; rfl, ?_, ?_, by rw [List.length_cons]; omega⟩
      · show (if (0 : Int) ≤ (j : Int) then (match (partsD d)[(j : Int).toNat]? with | some x => ptD r x | none => none) else none) = _
        rw [if_pos (by omega), Int.toNat_natCast, e2]
        exact h2
      · intro i hi
        rcases List.mem_cons.mp hi with rfl | hi
        · omega
        · exact h3 i hi
/-! places ascend -/
theorem lex_pre (p : List Int) : ∀ (r s : List Int), HT.lexLt (p ++ r) (p ++ s) = HT.lexLt r s := by
  intro r s
  induction p with
  | nil => rfl
  | cons x p ih => rw [List.cons_append, List.cons_append, HT.lexLt_cons, if_pos rfl, ih]
theorem pl_mem : ∀ {n : Nat} {p : List Int} {d : D} {q : List Int}, q ∈ plD n p d → ∃ r, q = p ++ r := by
  intro n p d q h
  obtain ⟨c, hc, rfl⟩ := List.mem_map.mp ((wk_pl n p d).mem_iff.mpr h)
  obtain ⟨r, e, _⟩ := wk_mem hc
  exact ⟨r, e⟩
theorem plL_mem {n : Nat} {p : List Int} {q : List Int} : ∀ {ds : List D} {i : Nat}, q ∈ plL (plD n) p i ds → ∃ (j : Nat) (r : List Int), i ≤ j ∧ q = p ++ ((j : Int) :: r)
  | [], i, h => by cases h
  | x :: ds, i, h => by
    rcases List.mem_append.mp h with h | h
    · obtain ⟨r, e⟩ := pl_mem h
      exact ⟨i, r, Nat.le_refl i, by rw [e, List.append_assoc]; rfl⟩
    · obtain ⟨j, r, h1, h2⟩ := plL_mem h
      exact ⟨j, r, by omega, h2⟩
theorem plL_pw {n : Nat} (h : ∀ p d, (plD n p d).Pairwise fun x y => HT.lexLt y x = false) : ∀ (ds : List D) (p : List Int) (i : Nat), (plL (plD n) p i ds).Pairwise fun x y => HT.lexLt y x = false
  | [], p, i => .nil
  | x :: ds, p, i => by
    refine List.pairwise_append.mpr ⟨h _ _, plL_pw h ds p (i + 1), fun a ha b hb => ?_⟩
    obtain ⟨r, rfl⟩ := pl_mem ha
    obtain ⟨j, s, hj, rfl⟩ := plL_mem hb
    rw [List.append_assoc, lex_pre]
    show HT.lexLt ((j : Int) :: s) ((i : Int) :: r) = false
    rw [HT.lexLt_cons, if_neg (by omega), decide_eq_false (by omega)]
theorem pl_pw : ∀ (n : Nat) (p : List Int) (d : D), (plD n p d).Pairwise fun x y => HT.lexLt y x = false
  | 0, p, d => .nil
  | n + 1, p, d => by
    refine List.pairwise_cons.mpr ⟨fun b hb => ?_, plL_pw (pl_pw n) _ _ _⟩
    obtain ⟨j, r, _, rfl⟩ := plL_mem hb
    have := lex_pre p ((j : Int) :: r) []
    rw [List.append_nil] at this
    rw [this]
    rfl
theorem wk_sort (n : Nat) (p : List Int) (d : D) : srtTi ((wkD n p d).map (·.1)) = plD n p d :=
  (srtTi_of (pl_pw n p d) (wk_pl n p d).symm).symm
/-! levels -/
theorem mxN_le {M : Nat} : ∀ {l : List Nat}, mxN l ≤ M ↔ ∀ x ∈ l, x ≤ M
  | [] => ⟨fun _ _ h => (by cases h), fun _ => Nat.zero_le _⟩
  | y :: l => by
    show max y (mxN l) ≤ M ↔ _
    rw [Nat.max_le, mxN_le, List.forall_mem_cons]
theorem mxN_perm {l m : List Nat} (h : l.Perm m) : mxN l = mxN m :=
  Nat.le_antisymm (mxN_le.mpr fun x hx => mxN_le.mp (Nat.le_refl _) x (h.mem_iff.mp hx)) (mxN_le.mpr fun x hx => mxN_le.mp (Nat.le_refl _) x (h.mem_iff.mpr hx))
theorem mxN_app (a b : List Nat) : mxN (a ++ b) = max (mxN a) (mxN b) := by
  induction a with
  | nil => rw [List.nil_append]; exact (Nat.max_eq_right (Nat.zero_le _)).symm
  | cons x a ih =>
    show max x (mxN (a ++ b)) = max (max x (mxN a)) (mxN b)
    rw [ih]
    omega
theorem gt_lv : ∀ {n : Nat} {k : Str} {d : D} (p : List Int), Te n k d → mxN (gtD (fun p _ => [p.length]) n p d) + 1 = p.length + lvD n d
  | 0, k, d, p, ht => by obtain ⟨m, e⟩ := ht.succ; cases e
  | n + 1, k, d, p, ht => by
    have key : ∀ (ds : List D) (i : Nat), (∀ x ∈ ds, ∃ kx, Te n kx x) → max p.length (mxN ((chL p i ds).flatMap fun q => gtD (fun p _ => [p.length]) n q.1 q.2)) = p.length + mxN (ds.map (lvD n)) := by
      intro ds
      induction ds with
      | nil => intro i _; show max p.length 0 = p.length + 0; omega
      | cons x ds ih =>
        intro i hx
        obtain ⟨kx, hk⟩ := hx x List.mem_cons_self
        have h1 := gt_lv (p ++ [(i : Int)]) hk
        have h2 := ih (i + 1) fun y hy => hx y (List.mem_cons_of_mem _ hy)
        show max p.length (mxN (((p ++ [(i : Int)], x) :: chL p (i + 1) ds).flatMap _)) = p.length + max (lvD n x) (mxN (ds.map (lvD n)))
        rw [List.flatMap_cons, mxN_app]
        rw [List.length_append, List.length_singleton] at h1
        dsimp only
        omega
    show mxN ([p.length] ++ _) + 1 = p.length + (1 + _)
    rw [mxN_app]
    have := key (partsD d) 0 fun x hx => ht.part hx
    show max (max p.length 0) _ + 1 = _
    rw [Nat.max_zero]
    omega
theorem wk_lv {n : Nat} {k : Str} {d : D} (ht : Te n k d) : 1 + mxN ((wkD n [] d).map fun q => q.1.length) = lvD n d := by
  have h1 := mxN_perm (wk_gt (fun p _ => [p.length]) n [] d)
  rw [flat_one] at h1
  have h2 := gt_lv [] ht
  rw [List.length_nil] at h2
  omega
theorem lvD_up : ∀ {n m : Nat} {k : Str} {x : D}, Te n k x → n ≤ m → lvD m x = lvD n x
  | 0, m, k, x, ht, h => by obtain ⟨m, e⟩ := ht.succ; cases e
  | n + 1, 0, k, x, ht, h => by omega
  | n + 1, m + 1, k, x, ht, h => by
    show 1 + _ = 1 + _
    congr 2
    refine map_eq fun q hq => ?_
    obtain ⟨kq, hk⟩ := ht.part hq
    exact lvD_up hk (by omega)

/-! ### texts in order, each once -/
theorem le_str (a b : Str) : PySem.W.dataLe false D.py (.str a) (.str b) = strLe a b := by
  show (!PySem.W.dataLt (.str b) (.str a)) = decide (a.cps.toList ≤ b.cps.toList)
  rw [PySem.W.dataLt_str, ← decide_not]
  exact decide_eq_decide.mpr List.not_lt
theorem canSort_strs (l : List Str) : canSort (l.map .str) = true := by
  unfold canSort
  simp only [Bool.and_eq_true, Bool.or_eq_true, List.all_eq_true, decide_eq_true_eq]
  refine ⟨⟨⟨pures_str l, ?_⟩, .inr ?_⟩, ?_⟩
  · intro a ha b hb
    obtain ⟨x, _, rfl⟩ := List.mem_map.mp ha
    obtain ⟨y, _, rfl⟩ := List.mem_map.mp hb
    show PySem.W.alike (.str x) (.str y) = true
    simp only [PySem.W.alike]
  · intro a ha
    obtain ⟨x, _, rfl⟩ := List.mem_map.mp ha
    rfl
  · intro a ha
    obtain ⟨x, _, rfl⟩ := List.mem_map.mp ha
    show (PyData.str x).depth ≤ 60
    simp [PyData.depth]
theorem srt_strs (l : List Str) : srt (l.map .str) = (srtS l).map .str := by
  unfold srt srtS
  rw [List.map_mergeSort (r := strLe) (s := PySem.W.dataLe false D.py)]
  intro a _ b _
  exact (le_str a b).symm
theorem gSorted_strs (l : List Str) : gSorted [.lst (l.map .str)] = some (.lst ((srtS l).map .str)) := by
  show (if canSort (l.map .str) = true then some (D.lst (srt (l.map .str))) else none) = _
  rw [if_pos (canSort_strs l), srt_strs]
def ddF (p : Str) : List Str → List Str
  | [] => []
  | x :: r => if p = x then ddF x r else x :: ddF x r
def ddS : List Str → List Str
  | [] => []
  | x :: r => x :: ddF x r
theorem ddF_sub : ∀ (r : List Str) (p : Str), (ddF p r).Sublist r
  | [], p => .slnil
  | x :: r, p => by
    unfold ddF
    split
    · exact (ddF_sub r x).cons x
    · exact (ddF_sub r x).cons_cons x
theorem ddS_sub : ∀ r : List Str, (ddS r).Sublist r
  | [] => .slnil
  | x :: r => (ddF_sub r x).cons_cons x
theorem ddF_mem : ∀ (r : List Str) (p z : Str), (z = p ∨ z ∈ ddF p r) ↔ (z = p ∨ z ∈ r)
  | [], p, z => Iff.rfl
  | x :: r, p, z => by
    have ih := ddF_mem r x z
    unfold ddF
    split
    · rename_i e
      subst e
      rw [ih, List.mem_cons]
      exact ⟨fun h => h.elim .inl fun h => .inr (.inr h), fun h => h.elim .inl fun h => h⟩
    · rw [List.mem_cons, List.mem_cons, ih]
theorem ddS_mem : ∀ (r : List Str) (z : Str), z ∈ ddS r ↔ z ∈ r
  | [], z => Iff.rfl
  | x :: r, z => by
    show z ∈ x :: ddF x r ↔ _
    rw [List.mem_cons, List.mem_cons]
    exact ddF_mem r x z
abbrev leS (a b : Str) : Prop := a.cps.toList ≤ b.cps.toList
theorem ddF_gt : ∀ (r : List Str) (p : Str), (p :: r).Pairwise leS → ∀ z ∈ ddF p r, p ≠ z ∧ leS p z
  | [], p, _, z, h => by cases h
  | x :: r, p, hp, z, h => by
    obtain ⟨h1, h2⟩ := List.pairwise_cons.mp hp
    have ih := ddF_gt r x h2
    unfold ddF at h
    split at h
    · rename_i e
      subst e
      exact ih z h
    · rename_i e
      rcases List.mem_cons.mp h with rfl | h
      · exact ⟨e, h1 _ List.mem_cons_self⟩
      · obtain ⟨a, b⟩ := ih z h
        have hx := h1 x List.mem_cons_self
        refine ⟨?_, List.le_trans hx b⟩
        rintro rfl
        exact e (str_ext (List.le_antisymm hx b))
theorem ddF_nd : ∀ (r : List Str) (p : Str), (p :: r).Pairwise leS → (ddF p r).Nodup
  | [], p, _ => .nil
  | x :: r, p, hp => by
    obtain ⟨h1, h2⟩ := List.pairwise_cons.mp hp
    have ih := ddF_nd r x h2
    unfold ddF
    split
    · exact ih
    · exact List.nodup_cons.mpr ⟨fun h => (ddF_gt r x h2 x h).1 rfl, ih⟩
theorem ddS_nd : ∀ (r : List Str), r.Pairwise leS → (ddS r).Nodup
  | [], _ => .nil
  | x :: r, h => List.nodup_cons.mpr ⟨fun q => (ddF_gt r x h x q).1 rfl, ddF_nd r x h⟩
theorem srtS_of {ys l : List Str} (h : ys.Pairwise leS) (p : ys.Perm l) : ys = srtS l :=
  List.Perm.eq_of_pairwise (le := leS) (fun a b _ _ h1 h2 => str_ext (List.le_antisymm h1 h2)) h (srtS_pw l) (p.trans (List.mergeSort_perm _ _).symm)
theorem dd_one {l m : List Str} (h : l.Perm m) : ddS (srtS l) = srtS (oneS m) := by
  have pw := srtS_pw l
  refine srtS_of (pw.sublist (ddS_sub _)) (perm_sub (ddS_nd _ pw) (oneS_nodup m) fun z => ?_)
  rw [ddS_mem, oneS_mem]
  exact (List.mergeSort_perm l strLe).mem_iff.trans h.mem_iff
theorem nodup_len : ∀ {l m : List Str}, l.Nodup → (∀ z ∈ l, z ∈ m) → l.length ≤ m.length
  | [], m, _, _ => Nat.zero_le _
  | x :: l, m, hl, h => by
    obtain ⟨h1, h2⟩ := List.nodup_cons.mp hl
    have hx := h x List.mem_cons_self
    have := nodup_len (l := l) (m := m.erase x) h2 fun z hz => (List.mem_erase_of_ne (fun e => by subst e; exact h1 hz)).mpr (h z (List.mem_cons_of_mem _ hz))
    rw [List.length_erase_of_mem hx] at this
    have hp := List.length_pos_of_mem hx
    rw [List.length_cons]
    omega
/-- the law's own way: what is unlike the one ahead of it -/
def pE (ss : List Str) (d : D) : Bool := match d with
  | .tup [.int i, .str z] => decide (i = 0) || !(decide (ss[(i - 1).toNat]? = some z))
  | _ => false
def gE (d : D) : D := match d with
  | .tup [_, x] => x
  | _ => .non
theorem enum_ddF (ss : List Str) : ∀ (r pre : List Str) (y : Str), ss = pre ++ y :: r → ((enumL (pre.length + 1) (r.map .str)).filter (pE ss)).map gE = (ddF y r).map .str
  | [], pre, y, _ => rfl
  | x :: r, pre, y, e => by
    have ih := enum_ddF ss r (pre ++ [y]) x (by rw [e]; simp)
    rw [List.length_append, List.length_singleton] at ih
    have hp : pE ss (.tup [.int ((pre.length + 1 : Nat) : Int), .str x]) = !(decide (y = x)) := by
      show (decide (((pre.length + 1 : Nat) : Int) = 0) || !(decide (ss[(((pre.length + 1 : Nat) : Int) - 1).toNat]? = some x))) = _
      rw [decide_eq_false (by omega), show (((pre.length + 1 : Nat) : Int) - 1).toNat = pre.length by omega, e]
      rw [List.getElem?_append_right (Nat.le_refl _), Nat.sub_self, List.getElem?_cons_zero, Bool.false_or]
      congr 1
      exact decide_eq_decide.mpr ⟨fun h => Option.some.inj h, fun h => by rw [h]⟩
    show ((D.tup [.int ((pre.length + 1 : Nat) : Int), .str x] :: enumL (pre.length + 1 + 1) (r.map .str)).filter (pE ss)).map gE = (if y = x then ddF x r else x :: ddF x r).map .str
    by_cases h : y = x
    · rw [decide_eq_true h] at hp
      rw [List.filter_cons_of_neg (by rw [hp]; decide), if_pos h]
      exact ih
    · rw [decide_eq_false h] at hp
      rw [List.filter_cons_of_pos (by rw [hp]; decide), if_neg h, List.map_cons, List.map_cons, ih]
      rfl
theorem enum_ddS : ∀ ss : List Str, ((enumL 0 (ss.map .str)).filter (pE ss)).map gE = (ddS ss).map .str
  | [] => rfl
  | x :: r => by
    show ((D.tup [.int ((0 : Nat) : Int), .str x] :: enumL 1 (r.map .str)).filter (pE (x :: r))).map gE = (x :: ddF x r).map .str
    rw [List.filter_cons_of_pos (by rfl), List.map_cons, List.map_cons]
    have := enum_ddF (x :: r) r [] x rfl
    rw [List.length_nil, Nat.zero_add] at this
    rw [this]
    rfl
theorem enum_mem : ∀ {ss : List Str} {i : Nat} {d : D}, d ∈ enumL i (ss.map .str) → ∃ (j : Nat) (z : Str), d = .tup [.int ((i + j : Nat) : Int), .str z] ∧ ss[j]? = some z
  | [], i, d, h => by cases h
  | x :: r, i, d, h => by
    rcases List.mem_cons.mp h with rfl | h
    · exact ⟨0, x, rfl, rfl⟩
    · obtain ⟨j, z, e1, e2⟩ := enum_mem (ss := r) h
      exact ⟨j + 1, z, by rw [e1, Nat.add_assoc, Nat.add_comm 1], e2⟩

/-! ### a drawn term and its walk -/
structure Dr (kd : Str) (t : D) : Prop where
  pv : Pv 5 21000 t
  te : Te 5 kd t
theorem Dr.go {kd : Str} {t : D} (h : Dr kd t) : Go kd t := ⟨h.pv.mono (by omega) (by omega), h.te.up (by omega)⟩
def szB : Nat → Nat
  | 0 => 0
  | n + 1 => 1 + 7 * szB n
theorem sum_le {f : D → Nat} {b : Nat} : ∀ {l : List D}, (∀ x ∈ l, f x ≤ b) → (l.map f).sum ≤ l.length * b
  | [], _ => Nat.zero_le _
  | x :: l, h => by
    have h1 := h x List.mem_cons_self
    have h2 := sum_le fun y hy => h y (List.mem_cons_of_mem x hy)
    rw [List.map_cons, List.sum_cons, List.length_cons, Nat.succ_mul]
    omega
theorem szD_few : ∀ {n : Nat} {kd : Str} {t : D}, Te n kd t → szD n t ≤ szB n
  | 0, kd, t, ht => Nat.zero_le _
  | n + 1, kd, t, ht => by
    show 1 + ((partsD t).map (szD n)).sum ≤ 1 + 7 * szB n
    have h1 := sum_le (f := szD n) (b := szB n) (l := partsD t) fun x hx => by
      obtain ⟨k, hk⟩ := ht.part hx
      exact szD_few hk
    have h2 := Nat.mul_le_mul_right (szB n) ht.few
    omega
theorem Dr.sz {kd : Str} {t : D} (h : Dr kd t) : szD 40 t ≤ 2801 := by
  rw [szD_up h.te (by omega)]
  exact szD_few h.te
theorem ptD_sm : ∀ {p : List Int} {n : Nat} {kd : Str} {t x : D}, Te n kd t → ptD p t = some x → smP p
  | [], n, kd, t, x, ht, h => fun _ q => (by cases q)
  | i :: r, n, kd, t, x, ht, h => by
    obtain ⟨q, z, ds, y, rfl, rfl, hp, hy, hx⟩ := part_at_tup ht h
    have few := ht.few
    rw [hp] at few
    obtain ⟨m, rfl⟩ := ht.succ
    obtain ⟨ky, hty⟩ := ht.part (x := y) (by rw [hp]; exact List.mem_of_getElem? hy)
    have hlt := (List.getElem?_eq_some_iff.mp hy).1
    intro j hj
    rcases List.mem_cons.mp hj with rfl | hj
    · omega
    · exact ptD_sm hty hx j hj
/-- a place in a drawn term, and the part there -/
structure At (t : D) (q : List Int × D) : Prop where
  pt : ptD q.1 t = some q.2
  sm : smP q.1
  len : q.1.length ≤ 4
  te : ∃ m kx, m ≤ 5 ∧ Te m kx q.2
  pv : Pv 5 21000 q.2
theorem Dr.at {kd : Str} {t : D} (h : Dr kd t) {q : List Int × D} (hq : q ∈ wkD 40 [] t) : At t q := by
  rw [wkD_up h.te (by omega)] at hq
  obtain ⟨r, h1, h2, h3, h4⟩ := wk_mem hq
  rw [List.nil_append] at h1
  rw [← h1] at h2 h3 h4
  exact ⟨h2, ptD_sm h.te h2, by omega, ptD_te h.te h2, Pv.ptD h.pv h.te h2⟩
theorem At.pl {t : D} {q : List Int × D} (h : At t q) : Pl q.1 (tiD q.1) ∧ Pl q.1 (.lst (q.1.map .int)) :=
  have h0 : ∀ i ∈ q.1, 0 ≤ i := fun i hi => (h.sm i hi).1
  have hl : q.1.length ≤ 30 := by have := h.len; omega
  ⟨⟨.inl rfl, h0, hl⟩, ⟨.inr rfl, h0, hl⟩⟩
def nmL (label : Str) (t : D) : List Str := (wkD 40 [] t).flatMap fun q => ownL label q.2
theorem nm_mem {label kd : Str} {t : D} (hl : label = "name" ∨ label = "flag") (h : Dr kd t) : ∀ z ∈ nmL label t, z ∈ spelts := by
  intro z hz
  obtain ⟨q, hq, hz⟩ := List.mem_flatMap.mp hz
  obtain ⟨m, kx, _, hx⟩ := (h.at hq).te
  obtain ⟨y, r, e, _⟩ := hx.isTup
  rw [e] at hz hx
  unfold ownL ownS at hz
  by_cases hy : y = label
  · obtain ⟨w, rfl, hw⟩ := leaf_str hl hx hy
    simp only [hy, if_true] at hz
    have : z = w := by simpa using hz
    rw [this]
    exact hw
  · simp only [hy, if_false] at hz
    cases hz
theorem nm_len {label kd : Str} {t : D} (hl : label = "name" ∨ label = "flag") (h : Dr kd t) : (nmL label t).length ≤ 2801 := by
  show ((wkD 40 [] t).flatMap fun q => ownL label q.2).length ≤ 2801
  rw [(wk_spl hl 40 [] t).length_eq]
  have := splS_len 40 label t
  have := h.sz
  omega
theorem spl_few {label kd : Str} {t : D} (hl : label = "name" ∨ label = "flag") (h : Dr kd t) : (oneS (splS 40 label t)).length ≤ 6 := by
  refine nodup_len (m := spelts) (oneS_nodup _) fun z hz => nm_mem hl h z ?_
  exact (wk_spl hl 40 [] t).mem_iff.mpr ((oneS_mem _ z).mp hz)
theorem spl_len {label kd : Str} {t : D} (hl : label = "name" ∨ label = "flag") (h : Dr kd t) : (splS 40 label t).length ≤ 2801 := by
  rw [← (wk_spl hl 40 [] t).length_eq]
  exact nm_len hl h
def labP (label : Str) (d : D) : Bool := match d with
  | .tup [_, .tup (.str z :: _)] => decide (z = label)
  | _ => false
def argG (d : D) : D := match d with
  | .tup [_, .tup (_ :: x :: _)] => x
  | _ => .non
theorem nm_filter {label : Str} (hl : label = "name" ∨ label = "flag") : ∀ {l : List (List Int × D)}, (∀ q ∈ l, ∃ m kx, Te m kx q.2) → ((l.map prT).filter (labP label)).map argG = (l.flatMap fun q => ownL label q.2).map .str
  | [], _ => rfl
  | (p, x) :: l, h => by
    have ih := nm_filter hl fun q hq => h q (List.mem_cons_of_mem _ hq)
    obtain ⟨m, kx, hx⟩ := h (p, x) List.mem_cons_self
    obtain ⟨z, r, e, _⟩ := hx.isTup
    dsimp only at e
    subst e
    rw [List.map_cons, List.flatMap_cons, List.map_append, ← ih]
    by_cases hz : z = label
    · obtain ⟨y, rfl, _⟩ := leaf_str hl hx hz
      rw [List.filter_cons_of_pos (by show decide (z = label) = true; exact decide_eq_true hz), List.map_cons]
      have : ownL label (.tup [.str z, .str y]) = [y] := by
        unfold ownL ownS
        simp [hz]
      rw [this]
      rfl
    · rw [List.filter_cons_of_neg (by show ¬ decide (z = label) = true; rw [decide_eq_false hz]; decide)]
      have : ownL label (.tup (.str z :: r)) = [] := by
        unfold ownL ownS
        simp [hz]
      rw [this]
      rfl
theorem asIs_ns : ∀ ns : List Nat, asIs (ns.map fun n => D.int (n : Nat)) = some (ns.map fun n => ((n : Nat) : Int))
  | [] => rfl
  | n :: ns => by
    show (asIs (ns.map fun n => D.int (n : Nat))).map (((n : Nat) : Int) :: ·) = _
    rw [asIs_ns ns]
    rfl
theorem gMax_ns (n : Nat) (ns : List Nat) : gMax [.lst ((n :: ns).map fun n => D.int (n : Nat))] = some (.int ((mxN (n :: ns) : Nat) : Int)) := by
  show (asIs ((n :: ns).map fun n => D.int (n : Nat))).bind _ = _
  rw [asIs_ns]
  show (if ((n :: ns).map fun n => ((n : Nat) : Int)) = [] then none else some (D.int (maxI ((n :: ns).map fun n => ((n : Nat) : Int))))) = _
  rw [if_neg (by simp), maxI_nats]
theorem asTi_map : ∀ p : List Int, asTi (tiD p) = some p := by
  intro p
  show asIs (p.map .int) = some p
  induction p with
  | nil => rfl
  | cons i p ih =>
    show (asIs (p.map .int)).map (i :: ·) = _
    rw [ih]
    rfl
theorem asTis_map : ∀ ps : List (List Int), asTis (ps.map tiD) = some ps
  | [] => rfl
  | p :: ps => by
    show (asTi (tiD p)).bind _ = _
    rw [asTi_map]
    show (asTis (ps.map tiD)).map (p :: ·) = _
    rw [asTis_map ps]
    rfl
theorem gSortTi_wk (t : D) : gSortTi [.lst ((wkD 40 [] t).map fun q => tiD q.1)] = some (.lst ((plD 40 [] t).map tiD)) := by
  have e : ((wkD 40 [] t).map fun q => tiD q.1) = ((wkD 40 [] t).map (·.1)).map tiD := by rw [List.map_map]; rfl
  rw [e]
  have e2 : ∃ r, (wkD 40 [] t).map (·.1) = [] :: r := by rw [wkD_succ40]; exact ⟨_, rfl⟩
  have e3 := wk_sort 40 [] t
  obtain ⟨r, er⟩ := e2
  rw [er] at e3 ⊢
  show (match asTis (([] :: r).map tiD) with | some ([] :: r) => some (D.lst ((srtTi ([] :: r)).map tiD)) | _ => none) = _
  rw [asTis_map]
  show some (D.lst ((srtTi ([] :: r)).map tiD)) = _
  rw [e3]

/-! ### what is told of a term can be shown -/
theorem int3000 : ∀ n : Nat, n < 3000 → pvC 0 32 (.int (n : Int)) = true := by decide +kernel
theorem Pv.nat {n : Nat} (h : n < 3000) : Pv 0 32 (.int (n : Int)) := pvC.pv (int3000 n h)
theorem strs_pv : ∀ {l : List Str}, (∀ z ∈ l, z ∈ spelts) → Pvs 0 (9 * l.length) (l.map .str)
  | [], _ => Pvs.nil
  | z :: l, h => by
    refine (Pvs.cons (pvC.pv (spelts_pv z (h z List.mem_cons_self))) (strs_pv fun j hj => h j (List.mem_cons_of_mem _ hj))).mono (Nat.le_refl _) ?_
    rw [List.length_cons]
    omega
theorem plc_pv : ∀ {l : List (List Int)}, (∀ p ∈ l, smP p ∧ p.length ≤ 4) → Pvs 1 (133 * l.length) (l.map tiD)
  | [], _ => Pvs.nil
  | p :: l, h => by
    obtain ⟨h1, h2⟩ := h p List.mem_cons_self
    refine (Pvs.cons (tiD_pv h1) (plc_pv fun j hj => h j (List.mem_cons_of_mem _ hj))).mono (Nat.le_refl _) ?_
    rw [List.length_cons]
    omega
theorem Dr.lv {kd : Str} {t : D} (h : Dr kd t) : lvD 40 t < 3000 := by
  rw [lvD_up h.te (by omega)]
  rw [← wk_lv h.te, ← wkD_up h.te (show 5 ≤ 40 by omega)]
  have : mxN ((wkD 40 [] t).map fun q => q.1.length) ≤ 4 := mxN_le.mpr fun x hx => by
    obtain ⟨q, hq, rfl⟩ := List.mem_map.mp hx
    exact (h.at hq).len
  omega
def toldD (t : D) : List D := [.int (szD 40 t : Nat), .int (lvD 40 t : Nat), .tup ((srtS (oneS (splS 40 "name" t))).map .str), .tup ((srtS (oneS (splS 40 "flag" t))).map .str), .tup ((plD 40 [] t).map tiD)]
theorem told_strs {label kd : Str} {t : D} (hl : label = "name" ∨ label = "flag") (h : Dr kd t) : Pv 1 54 (.tup ((srtS (oneS (splS 40 label t))).map .str)) := by
  have hp : (srtS (oneS (splS 40 label t))).Perm (oneS (splS 40 label t)) := List.mergeSort_perm _ _
  refine (Pv.tup (strs_pv fun z hz => ?_)).mono (Nat.le_refl _) ?_
  · exact nm_mem hl h z ((wk_spl hl 40 [] t).mem_iff.mpr ((oneS_mem _ z).mp (hp.mem_iff.mp hz)))
  · rw [hp.length_eq]
    have := spl_few hl h
    omega
theorem told_pv {kd : Str} {t : D} (h : Dr kd t) : Pv 3 400000 (.lst (toldD t)) := by
  have hs := h.sz
  have hp : Pvs 1 (133 * (plD 40 [] t).length) ((plD 40 [] t).map tiD) := plc_pv fun p hp => by
    obtain ⟨q, hq, rfl⟩ := List.mem_map.mp ((wk_pl 40 [] t).mem_iff.mpr hp)
    exact ⟨(h.at hq).sm, (h.at hq).len⟩
  rw [plD_len] at hp
  refine (Pv.lst (Pvs.cons ((Pv.nat (by omega)).mono (Nat.zero_le 2) (Nat.le_refl _)) (Pvs.cons ((Pv.nat h.lv).mono (Nat.zero_le 2) (Nat.le_refl _)) (Pvs.cons ((told_strs (.inl rfl) h).mono (by omega) (Nat.le_refl _)) (Pvs.cons ((told_strs (.inr rfl) h).mono (by omega) (Nat.le_refl _)) (Pvs.cons (Pv.tup hp) (Pvs.nil (w := 0)))))))).mono (Nat.le_refl _) ?_
  omega
/-! ### the law's rounds over the walk -/
theorem forL_cons {k : Kp} {t : Tg} {body : MS} {d : D} {ds : List D} {s s1 : Sx} (e : t.run d s = some s1) (h : Ws (body s1) (k.lp fun s2 => Ws (forL t body ds s2) k)) : Ws (forL t body (d :: ds) s) k := by
  show Ws (match t.run d s with
      | none => .bad
      | some s1 => match body s1 with
        | .nx s2 => forL t body ds s2
        | .ct s2 => forL t body ds s2
        | .bk s2 => .nx s2
        | r => r) k
  rw [e]
  simp only
  cases e : body s1 <;> rw [e] at h <;> exact h
theorem forL_nil {k : Kp} {t : Tg} {body : MS} {s : Sx} (h : k.nx s) : Ws (forL t body [] s) k := h

/-! ### walk_right -/
def lenG (d : D) : D := match d with
  | .tup [.tup xs, _] => .int (xs.length : Nat)
  | _ => .non
def fstG (d : D) : D := match d with
  | .tup [x, _] => x
  | _ => .non
theorem filter_true {l : List D} : l.filter (fun _ => true) = l := List.filter_eq_self.mpr fun _ _ => rfl
theorem filter_false {l : List D} : l.filter (fun _ => false) = [] := List.filter_eq_nil_iff.mpr fun _ _ h => by cases h
theorem map_len (l : List (List Int × D)) : (l.map prT).map lenG = (l.map fun q => q.1.length).map fun n => D.int (n : Nat) := by
  rw [List.map_map, List.map_map]
  refine map_eq fun q _ => ?_
  show D.int (((q.1.map D.int).length : Nat) : Int) = .int ((q.1.length : Nat) : Int)
  rw [List.length_map]
theorem map_fst (l : List (List Int × D)) : (l.map prT).map fstG = l.map fun q => tiD q.1 := by
  rw [List.map_map]
  rfl
theorem max_wk {kd : Str} {t : D} (h : Dr kd t) : ∃ z : Int, gMax [.lst (((wkD 40 [] t).map prT).map lenG)] = some (.int z) ∧ 1 + z = ((lvD 40 t : Nat) : Int) := by
  rw [map_len]
  have e2 : ∃ r, ((wkD 40 [] t).map fun q => q.1.length) = 0 :: r := by rw [wkD_succ40]; exact ⟨_, rfl⟩
  obtain ⟨r, er⟩ := e2
  have e3 := wk_lv h.te
  rw [← wkD_up h.te (show 5 ≤ 40 by omega), ← lvD_up h.te (show 5 ≤ 40 by omega), er] at e3
  rw [er]
  exact ⟨_, gMax_ns 0 r, by omega⟩
theorem dd_nm {label : Str} (hl : label = "name" ∨ label = "flag") (t : D) : ddS (srtS (nmL label t)) = srtS (oneS (splS 40 label t)) := dd_one (wk_spl hl 40 [] t)

/-! ### kinds by labels -/
def trL : List Str := ["eq", "lt", "less", "both", "either", "no", "flag", "true", "false"]
def kdL (z : Str) : Str := if trL.contains z = true then "truth" else "word"
theorem tl_shapes : ∀ z ∈ ck_SHAPES, (bs z).map (·.1) = some (kdL z) ∧ isCa z = false := by decide +kernel
theorem tl_in : ∀ z ∈ trL, z ∈ ck_SHAPES ∨ z ∈ ck_LEAF_KINDS := by decide +kernel
theorem tl_leaf : ∀ z ∈ ck_LEAF_KINDS, lk ck_LEAF_KINDS cv_LEAF_KINDS z = some (.str (kdL z)) := by
  intro z hz
  rcases in_five.mp hz with (rfl | rfl) | (rfl | rfl | rfl) <;> rfl
theorem kind_lbl {n : Nat} {kd z : Str} {r : List D} (h : Te n kd (.tup (.str z :: r))) : kd = kdL z := by
  cases h with
  | lf a b c =>
    have hz := leaf_mem a
    obtain ⟨k, h1, h2⟩ := leaf_kind (r := r) hz
    have hb : leafB z r = true := by unfold leafB; rw [b]; rfl
    rw [b, hb, if_pos rfl] at h2
    rw [tl_leaf z hz] at h1
    have e1 : kd = k := by cases h2; rfl
    have e2 : kdL z = k := by
      have := Option.some.inj h1
      cases this
      rfl
    rw [e1, e2]
  | nd a b c =>
    by_cases hs : z ∈ ck_SHAPES
    · obtain ⟨h1, h2⟩ := tl_shapes z hs
      unfold shp at b
      rw [h2] at b
      simp only [Bool.false_eq_true, if_false] at b
      cases e : bs z with
      | none => rw [e] at b; cases b
      | some q =>
        rw [e] at b h1
        simp only at b
        split at b
        · have := Option.some.inj b
          have h1 := Option.some.inj h1
          rw [← h1, this]
        · cases b
    · have ht : trL.contains z = false := by
        cases e : trL.contains z with
        | false => rfl
        | true =>
          rcases tl_in z (List.contains_iff_mem.mp e) with q | q
          · exact absurd q hs
          · rw [List.contains_iff_mem.mpr q] at a
            cases a
      rw [show kdL z = "word" by unfold kdL; rw [ht]; rfl]
      unfold shp at b
      split at b
      · split at b
        · cases b; rfl
        · cases b
      · unfold bs at b
        rw [lk_out hs] at b
        simp only at b
        split at b
        · rename_i p e
          split at e
          · cases e
            split at b
            · cases b; rfl
            · cases b
          · cases e
        · cases b
theorem Te.two {n : Nat} {kd z : Str} {r : List D} (h : Te n kd (.tup (.str z :: r))) : (!trL.contains z) = decide (kd = "word") := by
  rw [kind_lbl h]
  unfold kdL
  cases trL.contains z <;> decide
/-! ### what is heard -/
def hdW (c : Str) : Str := if c = "BadTerm" then "term" else if c = "BadNumber" then "number" else "misfit"

/-! ### another term at a drawn place -/
theorem We.norm {α : Type} {E : XPost} {m : Sx → R α} {s s' : Sx} {Q : α → Sx → Prop} (e : s' = s) (h : We (m s) E Q) : We (m s') E Q := e ▸ h
theorem eqvAll_ints : ∀ a b : List Int, PyData.eqvAll (pys (a.map .int)) (pys (b.map .int)) = decide (a = b)
  | [], [] => rfl
  | [], _ :: _ => rfl
  | _ :: _, [] => rfl
  | i :: a, j :: b => by
    have e : PyData.eqv (D.int i).py (D.int j).py = decide (i = j) := by
      show PyData.eqv (.int i) (.int j) = _
      simp only [PyData.eqv]
      rw [Bool.eq_iff_iff]; simp
    simp only [List.map_cons, pys, PyData.eqvAll, e, eqvAll_ints a b]
    rw [Bool.eq_iff_iff]; simp
theorem ti_shaped (p : List Int) : (tiD p).pure = true ∧ SeqAt.shaped (tiD p).py = true := by
  refine ⟨by show D.pure (.tup (p.map .int)) = true; unfold D.pure; exact pures_ints p, ?_⟩
  show SeqAt.shaped (D.tup (p.map .int)).py = true
  unfold SeqAt.shaped
  simp only [Bool.and_eq_true, decide_eq_true_eq]
  refine ⟨lay_ints p, ?_⟩
  have := depthAll_ints p
  show (PyData.tuple (pys (p.map .int))).depth ≤ 64
  simp only [PyData.depth]
  omega
theorem ne_ti {a b : List Int} {P : D → Prop} (h : P (.bl (!decide (a = b)))) : X2 gNe (tiD a) (tiD b) P := by
  refine ⟨_, ?_, h⟩
  have e : gEqD (tiD a) (tiD b) = some (.bl (decide (a = b))) := by
    unfold gEqD
    rw [if_pos]
    · congr 2
      show PyData.eqv (.tuple _) (.tuple _) = _
      simp only [PyData.eqv]
      exact eqvAll_ints a b
    · simp only [Bool.and_eq_true]
      exact ⟨⟨⟨(ti_shaped a).1, (ti_shaped b).1⟩, (ti_shaped a).2⟩, (ti_shaped b).2⟩
  show (match gEqD (tiD a) (tiD b) with | some (.bl k) => some (D.bl (!k)) | _ => none) = _
  rw [e]
theorem Te.kd2 {n : Nat} {kd : Str} {t : D} (h : Te n kd t) : kd = "truth" ∨ kd = "word" := by
  obtain ⟨z, r, rfl, _⟩ := h.isTup
  rw [kind_lbl h]
  unfold kdL
  split
  · exact .inl rfl
  · exact .inr rfl
theorem kd_same {n m : Nat} {k l : Str} {x y : D} (hx : Te n k x) (hy : Te m l y) (h : decide (k = "word") = decide (l = "word")) : k = l := by
  rcases hx.kd2 with rfl | rfl <;> rcases hy.kd2 with rfl | rfl <;> first | rfl | (exact absurd h (by decide))
theorem kd_other {k l : Str} (h : ¬ decide (k = "word") = decide (l = "word")) : l ≠ k := fun e => h (by rw [e])
def apP (p : List Int) (d : D) : Bool := match d with
  | .tup [x, _] => (match asTi x with
    | some s => !decide (s.take p.length = p) && !decide (p.take s.length = s)
    | none => false)
  | _ => false
theorem ap_pr {p : List Int} {q : List Int × D} : apP p (prT q) = (!decide (q.1.take p.length = p) && !decide (p.take q.1.length = q.1)) := by
  show (match asTi (tiD q.1) with | some s => !decide (s.take p.length = p) && !decide (p.take s.length = s) | none => false) = _
  rw [asTi_map]
theorem cut_ti {s : List Int} {k : Nat} : D.tup (cutD (s.map .int) none (some ((k : Nat) : Int))) = tiD (s.take k) := by
  rw [cut_hi, ← List.map_take]
  rfl
theorem len_ti {p : List Int} {P : D → Prop} (h : P (.int ((p.length : Nat) : Int))) : XL gLen [tiD p] P := by
  refine ⟨_, ?_, h⟩
  show some (D.int (((p.map D.int).length : Nat) : Int)) = _
  rw [List.length_map]

/-! ### steps: dicts -/
theorem We.mGet2 {E : XPost} {s : Sx} {Q : D → Sx → Prop} {ma mb mc : M D} (h : We (ma s) E fun d s1 => ∃ ks ds, d = .dic ks ds ∧ We (mb s1) E fun k s2 => We (mc s2) E fun z s3 => ∃ key, asKey k = some key ∧ Q ((lk ks ds key).getD z) s3) : We (mGet2 ma mb mc s) E Q :=
  We.bind (h.imp fun d s1 ⟨ks, ds, e, h⟩ => by
    subst e
    exact We.bind (h.imp fun k s2 h => We.bind (h.imp fun z s3 ⟨key, e, q⟩ => We.lift (by rw [e]; rfl) q)))
theorem We.popAt {E : XPost} {s : Sx} {Q : D → Sx → Prop} {i : Nat} {ma : M D} {xs0 : List D} (e0 : s.env[i]? = some (.ow xs0)) (h : We (ma s) E fun d s1 => ∃ j xs z, d = .int j ∧ s1.env[i]? = some (.ow xs) ∧ ((0 ≤ j ∧ j < xs.length) ∧ j < 2 ^ 62) ∧ xs[j.toNat]? = some z ∧ Q z (s1.own i (xs.eraseIdx j.toNat))) : We (mPopAt i ma s) E Q := by
  unfold mPopAt
  simp only [e0]
  refine We.bind (h.imp fun d s1 ⟨j, xs, z, e1, e2, e3, e4, q⟩ => ?_)
  subst e1
  simp only [e2]
  rw [if_pos e3]
  simp only [e4]
  exact q
theorem We.dispK {E : XPost} {s : Sx} {Q : D → Sx → Prop} {ks : List Key} {m : M (List D)} (h : We (m s) E fun ds s1 => Q (.dic ks ds) s1) : We (mDispK ks m s) E Q := We.bind (h.imp fun ds s1 q => We.pure q)
theorem We.inO {E : XPost} {s : Sx} {Q : D → Sx → Prop} {i : Nat} {ma : M D} (h : We (ma s) E fun d s1 => ∃ ks ds key, s1.env[i]? = some (.od ks ds) ∧ asKey d = some key ∧ Q (.bl (lk ks ds key).isSome) s1) : We (mInO i ma s) E Q :=
  We.bind (h.imp fun d s1 ⟨ks, ds, key, e1, e2, q⟩ => by simp only [e1, e2]; exact q)
theorem We.itemsD {E : XPost} {s : Sx} {Q : List D → Sx → Prop} {j : Nat} {ks : List Key} {ds : List D} (e : s.env[j]? = some (.sh (.dic ks ds))) (h : Q (itemsL ks ds) s) : We (mItemsD j s) E Q := by
  unfold mItemsD
  simp only [e]
  exact h
theorem Ws.newD {s : Sx} {k : Kp} {i : Nat} (h : k.nx { s with env := s.env.set i (.od [] []) }) : Ws (sNewD i s) k := h
theorem Ws.putO {s : Sx} {k : Kp} {i : Nat} {mk mv : M D} (h : We (mv s) k.ex fun v s1 => (∃ ks ds, s1.env[i]? = some (.od ks ds)) ∧ We (mk s1) k.ex fun kd s2 => ∃ ks ds key, s2.env[i]? = some (.od ks ds) ∧ asKey kd = some key ∧ ks.length < sizeLine ∧ lk ks ds key = none ∧ k.nx { s2 with env := s2.env.set i (.od (ks ++ [key]) (ds ++ [v])) }) : Ws (sPutO i mk mv s) k := by
  unfold sPutO
  refine Ws.bind (h.imp fun v s1 ⟨⟨ks0, ds0, e0⟩, h⟩ => ?_)
  simp only [e0]
  refine Ws.bind (h.imp fun kd s2 ⟨ks, ds, key, e1, e2, e3, e4, q⟩ => ?_)
  simp only [e1, e2]
  rw [if_pos ⟨e3, by rw [e4]; rfl⟩]
  exact q
/-! ### leaves exchanged -/
abbrev Asc := List (Str × D)
def fnD (ps : Asc) (y : Str) : Option D := lk (ps.map (·.1)) (ps.map (·.2)) y
def dcD (ps : Asc) : D := .dic (ps.map fun p => .inr p.1) (ps.map (·.2))
theorem fnD_lk (y : Str) : ∀ ps : Asc, lk (ps.map fun p => (.inr p.1 : Key)) (ps.map (·.2)) (.inr y) = fnD ps y
  | [] => rfl
  | p :: ps => by
    have ih := fnD_lk y ps
    show (if (.inr y : Key) = .inr p.1 then some p.2 else lk (ps.map fun p => (.inr p.1 : Key)) (ps.map (·.2)) (.inr y)) = if y = p.1 then some p.2 else fnD ps y
    by_cases h : y = p.1
    · rw [if_pos h, if_pos (by rw [h])]
    · rw [if_neg h, if_neg (fun z => h (Sum.inr.inj z)), ih]
mutual
def putD (fw ft : Str → Option D) : D → D
  | .tup xs => putT fw ft xs
  | d => d
def putT (fw ft : Str → Option D) : List D → D
  | .str z :: r => if z = "name" then (match r with | .str y :: _ => (fw y).getD (.tup (.str z :: r)) | _ => .tup (.str z :: r))
      else if z = "flag" then (match r with | .str y :: _ => (ft y).getD (.tup (.str z :: r)) | _ => .tup (.str z :: r))
      else if ck_LEAF_KINDS.contains z = true then .tup (.str z :: r) else .tup (.str z :: putDs fw ft r)
  | xs => .tup xs
def putDs (fw ft : Str → Option D) : List D → List D
  | [] => []
  | d :: r => putD fw ft d :: putDs fw ft r
end
theorem putDs_map (fw ft : Str → Option D) : ∀ ds : List D, putDs fw ft ds = ds.map (putD fw ft)
  | [] => by unfold putDs; rfl
  | d :: r => by unfold putDs; rw [putDs_map fw ft r]; rfl
theorem put_nd {fw ft : Str → Option D} {z : Str} {r : List D} (h : ck_LEAF_KINDS.contains z = false) : putD fw ft (.tup (.str z :: r)) = .tup (.str z :: r.map (putD fw ft)) := by
  have h1 : z ≠ "name" := fun e => by subst e; exact absurd h (by decide +kernel)
  have h2 : z ≠ "flag" := fun e => by subst e; exact absurd h (by decide +kernel)
  unfold putD putT
  rw [if_neg h1, if_neg h2, if_neg (by rw [h]; decide), putDs_map]
theorem put_name {fw ft : Str → Option D} {y : Str} : putD fw ft (.tup [.str "name", .str y]) = (fw y).getD (.tup [.str "name", .str y]) := by
  unfold putD putT
  rw [if_pos rfl]
theorem put_flag {fw ft : Str → Option D} {y : Str} : putD fw ft (.tup [.str "flag", .str y]) = (ft y).getD (.tup [.str "flag", .str y]) := by
  unfold putD putT
  rw [if_neg (by decide +kernel), if_pos rfl]
theorem put_other {fw ft : Str → Option D} {z : Str} {r : List D} (h : ck_LEAF_KINDS.contains z = true) (h1 : z ≠ "name") (h2 : z ≠ "flag") : putD fw ft (.tup (.str z :: r)) = .tup (.str z :: r) := by
  unfold putD putT
  rw [if_neg h1, if_neg h2, if_pos h]
/-- a leaf's shape -/
theorem leaf_cases {n : Nat} {kd z : Str} {r : List D} (a : ck_LEAF_KINDS.contains z = true) (ht : Te n kd (.tup (.str z :: r))) :
    (∃ y, z = "name" ∧ r = [.str y] ∧ y ∈ spelts ∧ kd = "word") ∨ (∃ y, z = "flag" ∧ r = [.str y] ∧ y ∈ spelts ∧ kd = "truth") ∨ (z ≠ "name" ∧ z ≠ "flag") := by
  by_cases h1 : z = "name"
  · obtain ⟨y, hr, hy⟩ := leaf_str (.inl rfl) ht h1
    subst h1 hr
    exact .inl ⟨y, rfl, rfl, hy, kind_lbl ht⟩
  · by_cases h2 : z = "flag"
    · obtain ⟨y, hr, hy⟩ := leaf_str (.inr rfl) ht h2
      subst h2 hr
      exact .inr (.inl ⟨y, rfl, rfl, hy, kind_lbl ht⟩)
    · exact .inr (.inr ⟨h1, h2⟩)
/-! ### what becomes of terms -/
theorem Tes.lenE {n : Nat} : ∀ {ks : List Str} {ds : List D}, Tes n ks ds → ks.length = ds.length
  | _, _, .nil => rfl
  | _, _, .cons a b => by rw [List.length_cons, List.length_cons, Tes.lenE b]
theorem Tes.mapT {n m : Nat} {g : D → D} (h : ∀ k d, Te n k d → Te m k (g d)) : ∀ {ks : List Str} {ds : List D}, Tes n ks ds → Tes m ks (ds.map g)
  | _, _, .nil => .nil
  | _, _, .cons a b => .cons (h _ _ a) (Tes.mapT h b)
structure Fits (m : Nat) (fw ft : Str → Option D) : Prop where
  w : ∀ y x, fw y = some x → Te m "word" x
  t : ∀ y x, ft y = some x → Te m "truth" x
theorem Te.putD {m : Nat} {fw ft : Str → Option D} (hf : Fits m fw ft) : ∀ {n : Nat} {kd : Str} {t : D}, Te n kd t → Te (n + m) kd (Ev.putD fw ft t)
  | n + 1, kd, _, .lf (z := z) (r := r) a b c d => by
    have ht : Te (n + 1) kd (.tup (.str z :: r)) := .lf a b c d
    rcases leaf_cases a ht with ⟨y, rfl, rfl, hy, rfl⟩ | ⟨y, rfl, rfl, hy, rfl⟩ | ⟨h1, h2⟩
    · rw [put_name]
      cases e : fw y with
      | none => exact ht.up (by omega)
      | some x => exact (hf.w y x e).up (by omega)
    · rw [put_flag]
      cases e : ft y with
      | none => exact ht.up (by omega)
      | some x => exact (hf.t y x e).up (by omega)
    · rw [put_other a h1 h2]
      exact ht.up (by omega)
  | n + 1, kd, _, .nd (z := z) (r := r) a b c d => by
    rw [put_nd a, Nat.add_right_comm]
    exact .nd a (by rw [List.length_map]; exact b) (Tes.mapT (fun k x q => Te.putD hf q) c) ⟨by rw [List.length_map]; exact d.1, d.2⟩
/-- weights by levels -/
def wtN (w : Nat) : Nat → Nat
  | 0 => w
  | n + 1 => 21 + 4 * (wtN w n + 1)
theorem wtN_le (w : Nat) : ∀ n, w ≤ wtN w n
  | 0 => Nat.le_refl _
  | n + 1 => by
    have := wtN_le w n
    show w ≤ 21 + 4 * (wtN w n + 1)
    omega
theorem Pvs.of {n w : Nat} : ∀ {ds : List D}, (∀ d ∈ ds, Pv n w d) → Pvs n (ds.length * (w + 1)) ds
  | [], _ => Pvs.nil.mono (Nat.le_refl _) (Nat.zero_le _)
  | d :: ds, h => by
    refine (Pvs.cons (h d List.mem_cons_self) (Pvs.of fun x hx => h x (List.mem_cons_of_mem _ hx))).mono (Nat.le_refl _) ?_
    rw [List.length_cons, Nat.succ_mul]
    omega
theorem lev_pv {g : D → D} {m w : Nat} (hw : 21 ≤ w) (hn : ∀ z r, ck_LEAF_KINDS.contains z = false → g (.tup (.str z :: r)) = .tup (.str z :: r.map g))
    (hl : ∀ {n : Nat} {kd z : Str} {r : List D}, ck_LEAF_KINDS.contains z = true → Te n kd (.tup (.str z :: r)) → Pv (m + 1) w (g (.tup (.str z :: r)))) : ∀ {n : Nat} {kd : Str} {t : D}, Te (n + 1) kd t → Pv (n + 1 + m) (wtN w n) (g t)
  | n, kd, _, .lf (z := z) (r := r) a b c d => by
    have ht : Te (n + 1) kd (.tup (.str z :: r)) := .lf a b c d
    exact (hl a ht).mono (by omega) (wtN_le w n)
  | 0, kd, _, .nd (z := z) (r := r) (ks := ks) a b c d => by
    rw [hn z r a]
    have e : r = [] := by
      cases c with
      | nil => rfl
      | cons x y => obtain ⟨m', e⟩ := x.succ; omega
    subst e
    exact (Pv.tup (n := 0) (Pvs.cons (pvC.pv d.2) (Pvs.nil (w := 0)))).mono (by omega) hw
  | n + 1, kd, _, .nd (z := z) (r := r) a b c d => by
    rw [hn z r a]
    have hp : ∀ x ∈ r.map g, Pv (n + 1 + m) (wtN w n) x := by
      intro x hx
      obtain ⟨y, hy, rfl⟩ := List.mem_map.mp hx
      obtain ⟨k, hk⟩ := c.mem hy
      exact lev_pv hw hn hl hk
    have h1 := Pvs.of hp
    rw [List.length_map] at h1
    have h2 : r.length * (wtN w n + 1) ≤ 4 * (wtN w n + 1) := Nat.mul_le_mul_right _ d.1
    refine (Pv.tup (Pvs.cons ((pvC.pv d.2).mono (Nat.zero_le _) (Nat.le_refl _)) h1)).mono (by omega) ?_
    show 20 + 1 + _ ≤ 21 + 4 * (wtN w n + 1)
    omega
theorem Te.pvS {n : Nat} {kd : Str} {t : D} (h : Te (n + 1) kd t) : Pv (n + 1) (wtN 50 n) t :=
  lev_pv (g := fun d => d) (m := 0) (w := 50) (by decide) (fun z r _ => by rw [List.map_id']) (fun {n kd z r} a ht => by
    cases ht with
    | lf a b c d => exact d
    | nd a' b c d => rw [a'] at a; cases a) h
structure FitP (m w : Nat) (fw ft : Str → Option D) : Prop where
  wd : ∀ y x, fw y = some x → Pv (m + 1) w x
  tr : ∀ y x, ft y = some x → Pv (m + 1) w x
theorem put_leafP {m w : Nat} {fw ft : Str → Option D} (hw : 50 ≤ w) (hf : FitP m w fw ft) {n : Nat} {kd z : Str} {r : List D} (a : ck_LEAF_KINDS.contains z = true) (ht : Te n kd (.tup (.str z :: r))) : Pv (m + 1) w (putD fw ft (.tup (.str z :: r))) := by
  have h0 : Pv (m + 1) w (.tup (.str z :: r)) := by
    cases ht with
    | lf a b c d => exact d.mono (by omega) hw
    | nd a' b c d => rw [a'] at a; cases a
  rcases leaf_cases a ht with ⟨y, rfl, rfl, hy, rfl⟩ | ⟨y, rfl, rfl, hy, rfl⟩ | ⟨h1, h2⟩
  · rw [put_name]
    cases e : fw y with
    | none => exact h0
    | some x => exact hf.wd y x e
  · rw [put_flag]
    cases e : ft y with
    | none => exact h0
    | some x => exact hf.tr y x e
  · rw [put_other a h1 h2]
    exact h0
theorem put_pv {m w : Nat} {fw ft : Str → Option D} (hw : 50 ≤ w) (hf : FitP m w fw ft) {n : Nat} {kd : Str} {t : D} (h : Te (n + 1) kd t) : Pv (n + 1 + m) (wtN w n) (putD fw ft t) :=
  lev_pv (by omega) (fun z r a => put_nd a) (fun a ht => put_leafP hw hf a ht) h
/-- one behind the other -/
theorem put2_pv {m1 m2 w2 : Nat} {fw ft gw gt : Str → Option D} (hw : 50 ≤ w2) (hf : Fits (m1 + 1) fw ft) (hg : FitP m2 w2 gw gt) {n : Nat} {kd : Str} {t : D} (h : Te (n + 1) kd t) : Pv (n + 1 + (m1 + m2)) (wtN (wtN w2 m1) n) (putD gw gt (putD fw ft t)) := by
  have hle := wtN_le w2 m1
  refine lev_pv (g := fun t => putD gw gt (putD fw ft t)) (by omega) (fun z r a => ?_) (fun {n kd z r} a ht => ?_) h
  · show putD gw gt (putD fw ft _) = _
    rw [put_nd a, put_nd a, List.map_map]
    rfl
  · have h0 : Pv (m1 + m2 + 1) (wtN w2 m1) (putD gw gt (.tup (.str z :: r))) := (put_leafP hw hg a ht).mono (by omega) hle
    show Pv _ _ (putD gw gt (putD fw ft _))
    rcases leaf_cases a ht with ⟨y, rfl, rfl, hy, rfl⟩ | ⟨y, rfl, rfl, hy, rfl⟩ | ⟨h1, h2⟩
    · rw [put_name]
      cases e : fw y with
      | none => exact h0
      | some x => exact (put_pv hw hg (hf.w y x e)).mono (by omega) (Nat.le_refl _)
    · rw [put_flag]
      cases e : ft y with
      | none => exact h0
      | some x => exact (put_pv hw hg (hf.t y x e)).mono (by omega) (Nat.le_refl _)
    · rw [put_other a h1 h2]
      exact h0
/-- put in what stands for itself -/
theorem put_same {fw ft : Str → Option D} (hw : ∀ y x, fw y = some x → x = .tup [.str "name", .str y]) (hf : ∀ y x, ft y = some x → x = .tup [.str "flag", .str y]) : ∀ {n : Nat} {kd : Str} {t : D}, Te n kd t → putD fw ft t = t
  | n + 1, kd, _, .lf (z := z) (r := r) a b c d => by
    have ht : Te (n + 1) kd (.tup (.str z :: r)) := .lf a b c d
    rcases leaf_cases a ht with ⟨y, rfl, rfl, hy, rfl⟩ | ⟨y, rfl, rfl, hy, rfl⟩ | ⟨h1, h2⟩
    · rw [put_name]
      cases e : fw y with
      | none => rfl
      | some x => exact hw y x e
    · rw [put_flag]
      cases e : ft y with
      | none => rfl
      | some x => exact hf y x e
    · exact put_other a h1 h2
  | n + 1, kd, _, .nd (z := z) (r := r) a b c d => by
    rw [put_nd a]
    congr 2
    have : ∀ x ∈ r, putD fw ft x = x := fun x hx => by
      obtain ⟨k, hk⟩ := c.mem hx
      exact put_same hw hf hk
    rw [map_eq (g := fun x => x) this, List.map_id']

/-! ### the law's own exchange, the program's -/
theorem gIx1 {z : Str} {y : Str} : atI [D.str z, .str y] 1 = some (.str y) := at1
theorem gInD_dc {ps : Asc} {y : Str} : gInD (.str y) (dcD ps) = some (.bl (fnD ps y).isSome) := by
  show some (D.bl (lk (ps.map fun p => (.inr p.1 : Key)) (ps.map (·.2)) (.inr y)).isSome) = _
  rw [fnD_lk]
theorem gIxD_dc {ps : Asc} {y : Str} : gIxD (dcD ps) (.str y) = fnD ps y := fnD_lk y ps
theorem w_lput (ws ts : Asc) : ∀ (k n : Nat) {kd : Str} {t : D} {sto : Sto} {E : XPost} {P : D → Sto → Prop}, n ≤ k → Te n kd t → P (putD (fnD ws) (fnD ts) t) sto → Wf (f__law_put k [t, dcD ws, dcD ts] sto) E P
  | 0, n, kd, t, sto, E, P, hk, ht, h => by
    obtain ⟨m, e⟩ := ht.succ
    omega
  | k + 1, n, kd, t, sto, E, P, hk, ht, h => by
    have ih : ∀ {kd : Str} {x : D} {sto : Sto} {E : XPost} {P : D → Sto → Prop} {m : Nat}, m ≤ k → Te m kd x → P (putD (fnD ws) (fnD ts) x) sto → Wf (f__law_put k [x, dcD ws, dcD ts] sto) E P := fun {kd x sto E P m} a b c => w_lput ws ts k m a b c
    have few := ht.few
    show Wf (bodyF 4 (m__law_put (f__law_put k)) [t, dcD ws, dcD ts] sto) E P
    generalize f__law_put k = rr at ih
    have hz : sizeLine = 16777216 := by decide
    obtain ⟨m, rfl⟩ := ht.succ
    have leaf : ∀ z r, t = .tup (.str z :: r) → ck_LEAF_KINDS.contains z = true → Wf (bodyF 4 (m__law_put rr) [t, dcD ws, dcD ts] sto) E P := by
      rintro z r rfl a
      rcases leaf_cases a ht with ⟨y, rfl, rfl, hy, rfl⟩ | ⟨y, rfl, rfl, hy, rfl⟩ | ⟨h1, h2⟩
      · rw [put_name] at h
        refine Wf.fn ?_
        unfold m__law_put
        repeat walk_at "evs"
        refine X2.of gInD_dc ?_
        repeat walk_at "evs"
        cases e : fnD ws y with
        | none =>
          rw [e] at h
          refine Xc.f rfl ?_
          repeat walk_at "evs"
          exact h
        | some x =>
          rw [e] at h
          refine Xc.t rfl ?_
          repeat walk_at "evs"
          refine X2.of (gIxD_dc.trans e) ?_
          repeat walk_at "evs"
          exact h
      · rw [put_flag] at h
        refine Wf.fn ?_
        unfold m__law_put
        repeat walk_at "evs"
        refine X2.of gInD_dc ?_
        repeat walk_at "evs"
        cases e : fnD ts y with
        | none =>
          rw [e] at h
          refine Xc.f rfl ?_
          repeat walk_at "evs"
          exact h
        | some x =>
          rw [e] at h
          refine Xc.t rfl ?_
          repeat walk_at "evs"
          refine X2.of (gIxD_dc.trans e) ?_
          repeat walk_at "evs"
          exact h
      · rw [put_other a h1 h2] at h
        refine Wf.fn ?_
        unfold m__law_put
        repeat walk_at "evs"
        refine We.ixT at0 ?_
        repeat walk_at "evs"
        refine Xc.f (decide_eq_false h1) ?_
        repeat walk_at "evs"
        refine We.ixT at0 ?_
        repeat walk_at "evs"
        refine Xc.f (decide_eq_false h2) ?_
        repeat walk_at "evs"
        refine We.ixT at0 ?_
        repeat walk_at "evs"
        refine X2.of (in_tupS z ["number", "true", "false"]) ?_
        repeat walk_at "evs"
        have e : (["number", "true", "false"] : List Str).contains z = true := by
          have := in_five.mp (leaf_mem a)
          rcases this with (rfl | rfl) | (rfl | rfl | rfl) <;> first | rfl | exact absurd rfl h1 | exact absurd rfl h2
        rw [e]
        refine Xc.t rfl ?_
        repeat walk_at "evs"
        exact h
    cases ht with
    | lf a b c d => exact leaf _ _ rfl a
    | nd a b c d =>
      rename_i z ks r
      rw [put_nd a] at h
      have h1 : z ≠ "name" := fun e => by subst e; exact absurd a (by decide +kernel)
      have h2 : z ≠ "flag" := fun e => by subst e; exact absurd a (by decide +kernel)
      refine Wf.fn ?_
      unfold m__law_put
      repeat walk_at "evs"
      refine We.ixT at0 ?_
      repeat walk_at "evs"
      refine Xc.f (decide_eq_false h1) ?_
      repeat walk_at "evs"
      refine We.ixT at0 ?_
      repeat walk_at "evs"
      refine Xc.f (decide_eq_false h2) ?_
      repeat walk_at "evs"
      refine We.ixT at0 ?_
      repeat walk_at "evs"
      refine X2.of (in_tupS z ["number", "true", "false"]) ?_
      have e : (["number", "true", "false"] : List Str).contains z = false := by
        cases e : (["number", "true", "false"] : List Str).contains z with
        | false => rfl
        | true =>
          have : z ∈ (["number", "true", "false"] : List Str) := List.contains_iff_mem.mp e
          have : z ∈ ck_LEAF_KINDS := by
            simp only [List.mem_cons, List.not_mem_nil, or_false] at this
            rcases this with rfl | rfl | rfl <;> decide +kernel
          rw [List.contains_iff_mem.mpr this] at a
          cases a
      rw [e]
      repeat walk_at "evs"
      refine We.ixT at0 ?_
      repeat walk_at "evs"
      refine We.compP (fun _ => true) (putD (fnD ws) (fnD ts)) ?_
      repeat walk_at "evs"
      rw [cut1]
      have hd := d.1
      refine ⟨rfl, by omega, fun x hx => ⟨_, rfl, rfl, rfl, We.pure ⟨rfl, rfl, fun _ => ?_⟩⟩, ?_⟩
      · unfold m__law_put_e1
        repeat walk_at "evs"
        obtain ⟨kx, hx'⟩ := c.mem hx
        exact ih (by omega) hx' ⟨rfl, rfl⟩
      · rw [filter_true]
        repeat walk_at "evs"
        refine X2.addL (by rw [List.length_map]; show 1 + r.length ≤ _; omega) ?_
        repeat walk_at "evs"
        refine XL.of (z := .tup (.str z :: r.map (putD (fnD ws) (fnD ts)))) (by rfl) ?_
        exact h

theorem gNe_nilT {n w : Nat} {ds : List D} (h : Pvs n w ds) (hn : n ≤ 60) : gNe (.tup ds) (.tup []) = some (.bl (!ds.isEmpty)) := by
  obtain ⟨p1, p2⟩ := (Pv.tup h).shaped (by omega)
  have e : gEqD (.tup ds) (.tup []) = some (.bl ds.isEmpty) := by
    unfold gEqD
    rw [if_pos]
    · cases ds with
      | nil => rfl
      | cons a r => rfl
    · rw [p1, p2]
      rfl
  show (match gEqD (.tup ds) (.tup []) with | some (.bl k) => some (D.bl (!k)) | _ => none) = _
  rw [e]
theorem w_leaves_put (ws ts : Asc) : ∀ (k n N w : Nat) {kd : Str} {t : D} {sto : Sto} {E : XPost} {P : D → Sto → Prop}, n ≤ k → Te n kd t → Pv N w t → N ≤ 60 → P (putD (fnD ws) (fnD ts) t) sto → Wf (f_leaves_put k [t, dcD ws, dcD ts] sto) E P
  | 0, n, N, w, kd, t, sto, E, P, hk, ht, hv, hN, h => by
    obtain ⟨m, e⟩ := ht.succ
    omega
  | k + 1, n, N, w, kd, t, sto, E, P, hk, ht, hv, hN, h => by
    have ih : ∀ {kd : Str} {x : D} {sto : Sto} {E : XPost} {P : D → Sto → Prop} {m N w : Nat}, m ≤ k → Te m kd x → Pv N w x → N ≤ 60 → P (putD (fnD ws) (fnD ts) x) sto → Wf (f_leaves_put k [x, dcD ws, dcD ts] sto) E P := fun {kd x sto E P m N w} a b d e c => w_leaves_put ws ts k m N w a b d e c
    have few := ht.few
    show Wf (bodyF 4 (m_leaves_put (f_leaves_put k)) [t, dcD ws, dcD ts] sto) E P
    generalize f_leaves_put k = rr at ih
    have hz : sizeLine = 16777216 := by decide
    obtain ⟨m, rfl⟩ := ht.succ
    have ht0 := ht
    cases ht with
    | lf a b c d =>
      rename_i z r
      have ht := ht0
      rcases leaf_cases a ht with ⟨y, rfl, rfl, hy, rfl⟩ | ⟨y, rfl, rfl, hy, rfl⟩ | ⟨h1, h2⟩
      · rw [put_name] at h
        refine Wf.fn ?_
        unfold m_leaves_put
        repeat walk_at "evs"
        refine We.mGet2 ?_
        repeat walk_at "evs"
        refine ⟨_, _, rfl, ?_⟩
        repeat walk_at "evs"
        refine ⟨.inr y, rfl, ?_⟩
        rw [fnD_lk]
        exact h
      · rw [put_flag] at h
        refine Wf.fn ?_
        unfold m_leaves_put
        repeat walk_at "evs"
        refine We.mGet2 ?_
        repeat walk_at "evs"
        refine ⟨_, _, rfl, ?_⟩
        repeat walk_at "evs"
        refine ⟨.inr y, rfl, ?_⟩
        rw [fnD_lk]
        exact h
      · rw [put_other a h1 h2] at h
        refine Wf.fn ?_
        unfold m_leaves_put
        repeat walk_at "evs"
        refine We.ixT at0 ?_
        repeat walk_at "evs"
        refine Xc.f (decide_eq_false h1) ?_
        repeat walk_at "evs"
        refine We.ixT at0 ?_
        repeat walk_at "evs"
        refine Xc.f (decide_eq_false h2) ?_
        repeat walk_at "evs"
        refine w_parts_in ht ?_
        rw [parts_lf a]
        repeat walk_at "evs"
        refine X2.of (gNe_nilT (Pvs.nil (n := 0) (w := 0)) (by omega)) ?_
        repeat walk_at "evs"
        exact h
    | nd a b c d =>
      rename_i z ks r
      rw [put_nd a] at h
      have h1 : z ≠ "name" := fun e => by subst e; exact absurd a (by decide +kernel)
      have h2 : z ≠ "flag" := fun e => by subst e; exact absurd a (by decide +kernel)
      obtain ⟨N', rfl, hs⟩ := hv.untup
      obtain ⟨w1, w2, e, p1, p2⟩ := hs.uncons
      have hd := d.1
      refine Wf.fn ?_
      unfold m_leaves_put
      repeat walk_at "evs"
      refine We.ixT at0 ?_
      repeat walk_at "evs"
      refine Xc.f (decide_eq_false h1) ?_
      repeat walk_at "evs"
      refine We.ixT at0 ?_
      repeat walk_at "evs"
      refine Xc.f (decide_eq_false h2) ?_
      repeat walk_at "evs"
      refine w_parts_in ht0 ?_
      rw [parts_nd a]
      repeat walk_at "evs"
      refine X2.of (gNe_nilT p2 (by omega)) ?_
      repeat walk_at "evs"
      cases hr : r.isEmpty with
      | true =>
        have : r = [] := by cases r with
          | nil => rfl
          | cons => cases hr
        subst this
        refine Xc.f rfl ?_
        repeat walk_at "evs"
        exact h
      | false =>
        refine Xc.t rfl ?_
        repeat walk_at "evs"
        refine We.ixT at0 ?_
        repeat walk_at "evs"
        refine We.mStar ?_
        repeat walk_at "evs"
        refine We.compP (fun _ => true) (putD (fnD ws) (fnD ts)) ?_
        repeat walk_at "evs"
        refine w_parts_in ht0 ?_
        rw [parts_nd a]
        repeat walk_at "evs"
        refine ⟨rfl, by omega, fun x hx => ⟨_, rfl, rfl, rfl, We.pure ⟨rfl, rfl, fun _ => ?_⟩⟩, ?_⟩
        · unfold m_leaves_put_e1
          repeat walk_at "evs"
          obtain ⟨kx, hx'⟩ := c.mem hx
          exact ih (by omega) hx' (p2.mem hx) (by omega) ⟨rfl, rfl⟩
        · rw [filter_true]
          repeat walk_at "evs"
          refine ⟨_, rfl, ?_⟩
          repeat walk_at "evs"
          rw [List.append_nil]
          refine ⟨by rw [List.length_cons, List.length_map]; omega, ?_⟩
          repeat walk_at "evs"
          exact h

/-! ### what tells terms -/
def prS (p : Str × D) : D := .tup [.str p.1, p.2]
def prL (p : Str × D) : D := .lst [.str p.1, p.2]
inductive Val (ps : Asc) : D → Prop
  | l : Val ps (.lst (ps.map prS))
  | d : Val ps (dcD ps)
  | t : Val ps (.tup (ps.map prL))
def toT : D → D
  | .lst xs => .tup xs
  | d => d
theorem asPairs_prS : ∀ qs : Asc, asPairs (qs.map prS) = some (qs.map fun p => ((.inr p.1 : Key), p.2))
  | [] => rfl
  | p :: qs => by
    show (asPair (prS p)).bind (fun q => (asPairs (qs.map prS)).map fun r => q :: r) = _
    rw [asPairs_prS qs]
    rfl
theorem nodup_inr2 {qs : Asc} (h : (qs.map (·.1)).Nodup) : (qs.map fun p => (.inr p.1 : Key)).Nodup := by
  have := nodup_inr h
  rw [List.map_map] at this
  exact this
theorem gDict_prS {qs : Asc} (h : (qs.map (·.1)).Nodup) : gDict [.lst (qs.map prS)] = some (dcD qs) := by
  show (asPairs (qs.map prS)).bind _ = _
  rw [asPairs_prS]
  show (if ((qs.map fun p => ((.inr p.1 : Key), p.2)).map (·.1)).Nodup then some (D.dic ((qs.map fun p => ((.inr p.1 : Key), p.2)).map (·.1)) ((qs.map fun p => ((.inr p.1 : Key), p.2)).map (·.2))) else none) = _
  rw [List.map_map, List.map_map, if_pos]
  · rfl
  · exact nodup_inr2 h
theorem w_are_pairs {xs : List D} {v : D} {sto : Sto} {E : XPost} {P : D → Sto → Prop} (hv : v = .lst xs ∨ v = .tup xs) (hl : xs.length ≤ 1000) (hx : ∀ x ∈ xs, ∃ a b, x = .tup [a, b] ∨ x = .lst [a, b]) (h : P (.bl true) sto) : Wf (f_are_pairs [v] sto) E P := by
  have hz : sizeLine = 16777216 := by decide
  have body : ∀ x ∈ xs, ∀ (Q : D → Sx → Prop) (y : Sl), Q (.bl true) ⟨[.sh v, .sh x], sto⟩ → We (m_are_pairs_e1 ⟨[.sh v, .sh x], sto⟩) Xn Q := by
    intro x hx' Q y q
    obtain ⟨a, b, e⟩ := hx x hx'
    unfold m_are_pairs_e1
    rcases e with rfl | rfl
    · repeat walk_at "evs"
      exact q
    · repeat walk_at "evs"
      exact q
  refine Wf.fn ?_
  unfold m_are_pairs
  rcases hv with rfl | rfl
  · repeat walk_at "evs"
    refine We.compP (fun _ => true) (fun _ => .bl true) ?_
    repeat walk_at "evs"
    refine ⟨rfl, by omega, fun d hd => ⟨_, rfl, rfl, rfl, We.pure ⟨rfl, rfl, fun _ => ?_⟩⟩, ?_⟩
    · exact body d hd _ .un ⟨rfl, rfl⟩
    · rw [filter_true]
      repeat walk_at "evs"
      refine XL.of (all_true _) ?_
      exact h
  · repeat walk_at "evs"
    refine We.compP (fun _ => true) (fun _ => .bl true) ?_
    repeat walk_at "evs"
    refine ⟨rfl, by omega, fun d hd => ⟨_, rfl, rfl, rfl, We.pure ⟨rfl, rfl, fun _ => ?_⟩⟩, ?_⟩
    · exact body d hd _ .un ⟨rfl, rfl⟩
    · rw [filter_true]
      repeat walk_at "evs"
      refine XL.of (all_true _) ?_
      exact h
theorem w_pairs_tail {ps : Asc} (nd : (ps.map (·.1)).Nodup) (hl : ps.length ≤ 1000) {v : D} {sto : Sto} {k : Kp} (h : k.rt (.tup (ps.map prS)) sto) :
    Ws (sSeq (sNewD 2) (sSeq (sFor (mItems (mVar 1)) (tgT (tgsCons (tgN 3) (tgsCons (tgN 4) tgsNil))) m_pairs_of_b3) (sRet (mL gTuple (mCons (mVar 1) (mNil))))) ⟨[.sh v, .ow (ps.map prS), .un, .un, .un, .un, .un], sto⟩) k := by
  have hz : sizeLine = 16777216 := by decide
  refine Ws.seq (Ws.newD ?_)
  refine Ws.seq (Ws.for ?_)
  repeat walk_at "evs"
  refine forL_inv (fun rest s => ∃ (done todo : Asc) (x3 x4 : Sl), ps = done ++ todo ∧ rest = todo.map prS ∧ s = ⟨[.sh v, .sh (.lst (ps.map prS)), .od ((done.map (·.1)).map fun k => (.inr k : Key)) (done.map fun _ => .bl true), x3, x4, .un, .un], sto⟩) ?_ ?_ _ _ ⟨[], ps, .un, .un, rfl, rfl, rfl⟩
  · rintro d ds s ⟨done, todo, x3, x4, e1, e2, rfl⟩
    cases todo with
    | nil => cases e2
    | cons p todo =>
      cases e2
      refine ⟨_, rfl, ?_⟩
      have hn : p.1 ∉ done.map (·.1) := by
        rw [e1, List.map_append, List.nodup_append] at nd
        exact fun z => nd.2.2 _ z _ (by simp) rfl
      have hlk : ∀ vs : List D, lk ((done.map (·.1)).map fun k => (.inr k : Key)) vs (.inr p.1) = none := fun vs => lkI_none hn
      have hld : done.length < 1000 := by rw [e1, List.length_append, List.length_cons] at hl; omega
      unfold m_pairs_of_b3
      refine Ws.seq (Ws.if ?_)
      repeat walk_at "evs"
      refine Wf.of_eq (d := .bl false) rfl ?_
      repeat walk_at "evs"
      refine We.inO ?_
      repeat walk_at "evs"
      refine ⟨_, _, .inr p.1, rfl, rfl, ?_⟩
      rw [hlk]
      repeat walk_at "evs"
      refine Ws.putO ?_
      repeat walk_at "evs"
      refine ⟨⟨_, _, rfl⟩, ?_⟩
      repeat walk_at "evs"
      refine ⟨_, _, .inr p.1, rfl, rfl, by rw [List.length_map, List.length_map]; omega, hlk _, ?_⟩
      refine ⟨done ++ [p], todo, .sh (.str p.1), .sh p.2, by rw [e1]; simp, rfl, ?_⟩
      rw [List.map_append, List.map_append, List.map_append]
      rfl
  · rintro s ⟨done, todo, x3, x4, e1, e2, rfl⟩
    repeat walk_at "evs"
    refine XL.of (z := .tup (ps.map prS)) (by rfl) ?_
    exact h
theorem items_dc : ∀ ps : Asc, itemsL (ps.map fun p => (.inr p.1 : Key)) (ps.map (·.2)) = ps.map prS
  | [] => rfl
  | p :: ps => by
    have := items_dc ps
    unfold itemsL at *
    rw [List.map_cons, List.map_cons, List.zip_cons_cons, List.map_cons, List.map_cons, this]
    rfl
theorem w_pairs_of {ps : Asc} {v : D} (hv : Val ps v) (nd : (ps.map (·.1)).Nodup) (hl : ps.length ≤ 1000) {sto : Sto} {E : XPost} {P : D → Sto → Prop} (h : P (.tup (ps.map prS)) sto) : Wf (f_pairs_of [v] sto) E P := by
  have hz : sizeLine = 16777216 := by decide
  refine Wf.fn ?_
  unfold m_pairs_of
  cases hv with
  | l =>
    refine Ws.seq (Ws.if ?_)
    repeat walk_at "ev"
    refine w_are_pairs (.inl rfl) (by rw [List.length_map]; omega) (fun x hx => ?_) ?_
    · obtain ⟨p, _, rfl⟩ := List.mem_map.mp hx
      exact ⟨_, _, .inl rfl⟩
    repeat walk_at "ev"
    refine We.compP (fun _ => true) toT ?_
    repeat walk_at "ev"
    refine ⟨rfl, by rw [List.length_map]; omega, fun d hd => ⟨_, rfl, rfl, rfl, We.pure ⟨rfl, rfl, fun _ => ?_⟩⟩, ?_⟩
    · obtain ⟨p, _, rfl⟩ := List.mem_map.mp hd
      unfold m_pairs_of_e2
      repeat walk_at "ev"
      refine We.ixT at0 ?_
      repeat walk_at "ev"
      refine We.ixT at1 ?_
      repeat walk_at "ev"
      exact ⟨rfl, rfl⟩
    · rw [filter_true, List.map_map]
      exact w_pairs_tail nd hl h
  | t =>
    refine Ws.seq (Ws.if ?_)
    repeat walk_at "ev"
    refine w_are_pairs (.inr rfl) (by rw [List.length_map]; omega) (fun x hx => ?_) ?_
    · obtain ⟨p, _, rfl⟩ := List.mem_map.mp hx
      exact ⟨_, _, .inr rfl⟩
    repeat walk_at "ev"
    refine We.compP (fun _ => true) toT ?_
    repeat walk_at "ev"
    refine ⟨rfl, by rw [List.length_map]; omega, fun d hd => ⟨_, rfl, rfl, rfl, We.pure ⟨rfl, rfl, fun _ => ?_⟩⟩, ?_⟩
    · obtain ⟨p, _, rfl⟩ := List.mem_map.mp hd
      unfold m_pairs_of_e2
      repeat walk_at "ev"
      refine We.ixL at0 ?_
      repeat walk_at "ev"
      refine We.ixL at1 ?_
      repeat walk_at "ev"
      exact ⟨rfl, rfl⟩
    · rw [filter_true, List.map_map]
      exact w_pairs_tail nd hl h
  | d =>
    refine Ws.seq (Ws.if ?_)
    repeat walk_at "ev"
    refine We.compP (fun _ => true) toT ?_
    refine We.itemsD (ks := ps.map fun p => .inr p.1) (ds := ps.map (·.2)) rfl ?_
    rw [items_dc]
    refine ⟨rfl, by rw [List.length_map]; omega, fun d hd => ?_, ?_⟩
    · obtain ⟨p, _, rfl⟩ := List.mem_map.mp hd
      refine ⟨_, rfl, rfl, rfl, We.pure ⟨rfl, rfl, fun _ => ?_⟩⟩
      unfold m_pairs_of_e1
      repeat walk_at "ev"
      exact ⟨rfl, rfl⟩
    · rw [filter_true, List.map_map]
      exact w_pairs_tail nd hl h

/-! ### terms put in -/
def keyS : List Str := ["x", "y", "z", "n2", "a", "longname", "other", "true"]
theorem key_ok : ∀ z ∈ keyS, spS z = true ∧ z.length ≤ 1000000 ∧ pvC 0 8 (.str z) = true := by decide +kernel
theorem spelts_key : ∀ z ∈ spelts, z ∈ keyS := by decide +kernel
structure Told (ps : Asc) : Prop where
  nd : (ps.map (·.1)).Nodup
  len : ps.length ≤ 8
  key : ∀ p ∈ ps, p.1 ∈ keyS
  te : ∀ p ∈ ps, ∃ k, Te 3 k p.2
def isW (p : Str × D) : Bool := decide (kindD 40 p.2 = some "word")
def isT (p : Str × D) : Bool := decide (kindD 40 p.2 = some "truth")
theorem w_is_term {kd : Str} {t : D} (ht : Te 3 kd t) {sto : Sto} {E : XPost} {P : D → Sto → Prop} (h : P (.bl true) sto) : Wf (f_is_term [t] sto) E P := by
  refine Wf.fn ?_
  unfold m_is_term
  repeat walk_at "evs"
  refine g_kind ht.pvS (by decide) (by decide) ht (by decide) ?_
  repeat walk_at "evs"
  exact h
theorem Told.sub {ps qs : Asc} (h : Told ps) (s : qs.Sublist ps) : Told qs :=
  ⟨List.Nodup.sublist (s.map _) h.nd, Nat.le_trans s.length_le h.len, fun p hp => h.key p (s.subset hp), fun p hp => h.te p (s.subset hp)⟩
theorem Told.perm {ps qs : Asc} (h : Told ps) (s : qs.Perm ps) : Told qs :=
  ⟨((s.map _).nodup_iff).mpr h.nd, by rw [s.length_eq]; exact h.len, fun p hp => h.key p (s.mem_iff.mp hp), fun p hp => h.te p (s.mem_iff.mp hp)⟩
/-- the pairs of a kind, their terms made tuples -/
theorem kept_pairs {ps : Asc} (hp : Told ps) {kd : Str} {L : D} (hL : L = .tup (ps.map prS)) {e0 : List Sl} {sto : Sto} {E : XPost} {Q : List D → Sx → Prop} {m : M D}
    (hi : e0[3]? = some (.sh L)) (h8 : e0.length = 8) (hno : noOw e0 [6, 7] = true) (hm : m = mTup (mCons (mVar 6) (mCons (mCall (f_fixed 40) (mCons (mVar 7) (mNil))) (mNil))))
    (h : Q ((ps.filter fun p => decide (kindD 40 p.2 = some kd)).map prS) ⟨e0, sto⟩) :
    We (mComp (mItems (mVar 3)) (tgT (tgsCons (tgN 6) (tgsCons (tgN 7) tgsNil))) (mT (m2 gEq (mCall (f_kind_of 40) (mCons (mVar 7) (mNil))) (mC (.str kd)))) m [6, 7] ⟨e0, sto⟩) E Q := by
  have hz : sizeLine = 16777216 := by decide
  have hl := hp.len
  subst hL hm
  refine We.compP (fun d => match d with | .tup [_, x] => decide (kindD 40 x = some kd) | _ => false) (fun d => d) ?_
  refine We.mItems (We.var hi ?_)
  refine XItems.tup ?_
  refine ⟨hno, by rw [List.length_map]; omega, fun d hd => ?_, ?_⟩
  · obtain ⟨p, hpp, rfl⟩ := List.mem_map.mp hd
    obtain ⟨k, hk⟩ := hp.te p hpp
    obtain ⟨z, x⟩ := p
    match e0, h8 with
    | [a0, a1, a2, a3, a4, a5, a6, a7], _ =>
      refine ⟨_, rfl, rfl, rfl, ?_⟩
      repeat walk_at "evs"
      refine g_kind hk.pvS (by decide) (by decide) hk (by decide) ?_
      repeat walk_at "evs"
      refine ⟨?_, rfl, fun _ => ?_⟩
      · show decide (k = kd) = decide (kindD 40 x = some kd)
        rw [hk.kd (j := 40) (by decide)]
        exact decide_eq_decide.mpr ⟨fun e => by rw [e], fun e => Option.some.inj e⟩
      · repeat walk_at "evs"
        refine w_fixed 40 3 _ x hk.pvS (by decide) (by decide) ?_
        rw [hk.fx]
        repeat walk_at "evs"
        exact ⟨rfl, rfl⟩
  · rw [List.map_id', List.filter_map]
    exact h
theorem w_put_in {ps : Asc} {v : D} (hv : Val ps v) (hp : Told ps) {kd : Str} {t : D} (ht : Go kd t) {sto : Sto} {E : XPost} {P : D → Sto → Prop} (h : P (putD (fnD (ps.filter isW)) (fnD (ps.filter isT)) t) sto) : Wf (f_put_in [t, v] sto) E P := by
  have hz : sizeLine = 16777216 := by decide
  have hl := hp.len
  refine Wf.fn ?_
  unfold m_put_in
  repeat walk_at "evs"
  refine We.pick ?_
  repeat walk_at "evs"
  refine w_need_te ht ?_
  repeat walk_at "evs"
  refine w_pairs_of hv hp.nd (by omega) ?_
  repeat walk_at "evs"
  refine We.compP (fun _ => true) (fun _ => .bl true) ?_
  repeat walk_at "evs"
  refine ⟨rfl, by rw [List.length_map]; omega, fun d hd => ?_, ?_⟩
  · obtain ⟨p, hpp, rfl⟩ := List.mem_map.mp hd
    obtain ⟨k, hk⟩ := hp.te p hpp
    obtain ⟨h1, h2, _⟩ := key_ok p.1 (hp.key p hpp)
    refine ⟨_, rfl, rfl, rfl, We.pure ⟨rfl, rfl, fun _ => ?_⟩⟩
    unfold m_put_in_e1
    repeat walk_at "evs"
    refine w_spelling h2 ?_
    rw [h1]
    repeat walk_at "evs"
    refine w_is_term hk ?_
    exact ⟨rfl, rfl⟩
  · rw [filter_true]
    repeat walk_at "evs"
    refine XL.of (all_true _) ?_
    repeat walk_at "evs"
    refine kept_pairs hp rfl rfl rfl rfl rfl ?_
    repeat walk_at "evs"
    refine XL.of (gDict_prS (hp.sub List.filter_sublist).nd) ?_
    repeat walk_at "evs"
    refine kept_pairs hp rfl rfl rfl rfl rfl ?_
    repeat walk_at "evs"
    refine XL.of (gDict_prS (hp.sub List.filter_sublist).nd) ?_
    repeat walk_at "evs"
    exact w_leaves_put _ _ 40 20 20 100000 (by decide) ht.te ht.pv (by decide) h
/-! ### the pairs in any order -/
theorem fnD_mem {ps : Asc} (nd : (ps.map (·.1)).Nodup) {y : Str} {x : D} : fnD ps y = some x ↔ (y, x) ∈ ps := by
  induction ps with
  | nil => exact ⟨fun h => (by cases h), fun h => (by cases h)⟩
  | cons p ps ih =>
    rw [List.map_cons, List.nodup_cons] at nd
    have ih := ih nd.2
    show (if y = p.1 then some p.2 else fnD ps y) = some x ↔ _
    by_cases h : y = p.1
    · rw [if_pos h]
      refine ⟨fun e => ?_, fun e => ?_⟩
      · have : (y, x) = p := by rw [h, ← Option.some.inj e]
        rw [this]; exact List.mem_cons_self
      · rcases List.mem_cons.mp e with e | e
        · rw [← e]
        · exact absurd (List.mem_map.mpr ⟨_, e, h⟩) nd.1
    · rw [if_neg h, ih]
      exact ⟨fun e => List.mem_cons_of_mem _ e, fun e => by
        rcases List.mem_cons.mp e with e | e
        · exact absurd (by rw [← e]) h
        · exact e⟩
theorem fnD_perm {ps qs : Asc} (nd : (ps.map (·.1)).Nodup) (h : qs.Perm ps) : fnD qs = fnD ps := by
  funext y
  have nq : (qs.map (·.1)).Nodup := ((h.map _).nodup_iff).mpr nd
  cases e : fnD ps y with
  | some x => exact (fnD_mem nq).mpr (h.mem_iff.mpr ((fnD_mem nd).mp e))
  | none =>
    cases e2 : fnD qs y with
    | none => rfl
    | some x =>
      have := (fnD_mem nd).mpr (h.mem_iff.mp ((fnD_mem nq).mp e2))
      rw [e] at this; cases this
theorem Told.fits {ps : Asc} (h : Told ps) : Fits 3 (fnD (ps.filter isW)) (fnD (ps.filter isT)) := by
  refine ⟨fun y x e => ?_, fun y x e => ?_⟩
  · obtain ⟨h1, h2⟩ := List.mem_filter.mp ((fnD_mem (h.sub List.filter_sublist).nd).mp e)
    obtain ⟨k, hk⟩ := h.te _ h1
    have h3 : kindD 40 x = some "word" := of_decide_eq_true h2
    rw [hk.kd (j := 40) (by decide)] at h3
    rw [← Option.some.inj h3]; exact hk
  · obtain ⟨h1, h2⟩ := List.mem_filter.mp ((fnD_mem (h.sub List.filter_sublist).nd).mp e)
    obtain ⟨k, hk⟩ := h.te _ h1
    have h3 : kindD 40 x = some "truth" := of_decide_eq_true h2
    rw [hk.kd (j := 40) (by decide)] at h3
    rw [← Option.some.inj h3]; exact hk
theorem Fits.pv {n : Nat} {fw ft : Str → Option D} (h : Fits (n + 1) fw ft) : FitP n (wtN 50 n) fw ft := ⟨fun y x e => (h.w y x e).pvS, fun y x e => (h.t y x e).pvS⟩
/-- put in, in any order -/
theorem put_perm {ps qs : Asc} (hp : Told ps) (h : qs.Perm ps) (t : D) : putD (fnD (qs.filter isW)) (fnD (qs.filter isT)) t = putD (fnD (ps.filter isW)) (fnD (ps.filter isT)) t := by
  rw [fnD_perm (hp.sub List.filter_sublist).nd (h.filter _), fnD_perm (hp.sub List.filter_sublist).nd (h.filter _)]

/-! ### what is told, its parting -/
theorem w_drawnN {c : List Int} (hc : Cs c) {m M : Nat} (hm : m ≤ M) (hM : M ≤ 3) {B : Int} {sto : Sto} {E : XPost} {P : D → Sto → Prop} (h : Tr c B sto) (hB : B + 900 ≤ 1000000) {d : D} (hd : d ∈ [D.str "word", .str "truth"]) (k : ∀ d' sto' kd, Tr c (B + 900) sto' → Te (M + 1) kd d' → P d' sto') : Wf (f__law_drawn 40 [.box 0, d, .int m] sto) E P := by
  have hr := w_drawn hc 40 m (by omega)
  have e : dN m ≤ 900 := by
    have : ∀ m : Nat, m < 4 → dN m ≤ 900 := by decide
    exact this m (by omega)
  simp only [List.mem_cons, List.not_mem_nil, or_false] at hd
  rcases hd with rfl | rfl
  · exact hr.go h (by omega) (.inr rfl) fun d' sto' h1 h2 h3 => k d' sto' _ (h1.mono (by omega)) (h3.up (by omega))
  · exact hr.go h (by omega) (.inl rfl) fun d' sto' h1 h2 h3 => k d' sto' _ (h1.mono (by omega)) (h3.up (by omega))
theorem erase_map (f : Str → D) : ∀ (l : List Str) (i : Nat), (l.map f).eraseIdx i = (l.eraseIdx i).map f
  | [], _ => rfl
  | _ :: _, 0 => rfl
  | x :: l, i + 1 => by
    show f x :: (l.map f).eraseIdx i = _
    rw [erase_map f l i]
    rfl
theorem erase_perm : ∀ (l : List Str) (i : Nat) (y : Str), l[i]? = some y → (y :: l.eraseIdx i).Perm l
  | [], _, _, h => by simp at h
  | x :: l, 0, y, h => by
    simp at h
    subst h
    exact .refl _
  | x :: l, i + 1, y, h => by
    have := erase_perm l i y (by simpa using h)
    exact (List.Perm.swap x y (l.eraseIdx i)).trans (this.cons x)
theorem w_told {c : List Int} (hc : Cs c) {B : Int} {sto : Sto} {E : XPost} {P : D → Sto → Prop} (h : Tr c B sto) (hB : B + 4000 ≤ 1000000) (k : ∀ ps sto', Tr c (B + 4000) sto' → Told ps → P (.lst (ps.map prS)) sto') : Wf (f__law_told [.box 0] sto) E P := by
  have hz : sizeLine = 16777216 := by decide
  refine Wf.fn ?_
  unfold m__law_told
  refine Ws.seq (Ws.parO ?_)
  repeat walk_at "evs"
  refine w_seed hc h (by omega) (by decide) (by decide) fun n sto1 h1 n0 n5 => ?_
  refine XI.rng1 n0 (by omega) ?_
  have hn : (rngL 0 n.toNat).length ≤ 4 := by
    unfold rngL
    rw [List.length_map, List.length_range]
    omega
  generalize rngL 0 n.toNat = items at hn
  refine forL_inv (fun rest s => ∃ (ps : Asc) (left : List Str) (x3 x4 : Sl) (sto' : Sto), s = ⟨[.sh (.box 0), .ow (ps.map prS), .ow (left.map .str), x3, x4], sto'⟩ ∧ Tr c (B + 1 + ((ps.length * 950 : Nat) : Int)) sto' ∧ ps.length + rest.length ≤ 4 ∧ (ps.map (·.1) ++ left).Perm keyS ∧ ∀ p ∈ ps, ∃ k, Te 3 k p.2) ?_ ?_ _ _ ⟨[], keyS, .un, .un, sto1, rfl, h1.mono (by simp), by simpa using hn, .refl _, fun _ h => (by cases h)⟩
  · rintro d ds s ⟨ps, left, x3, x4, sto', rfl, h2, h3, h4, h5⟩
    rw [List.length_cons] at h3
    refine ⟨_, rfl, ?_⟩
    have hl : left.length + ps.length = 8 := by
      have := h4.length_eq
      rw [List.length_append, List.length_map] at this
      have e8 : keyS.length = 8 := rfl
      omega
    unfold m__law_told_b1
    repeat walk_at "evs"
    refine We.popAt rfl ?_
    repeat walk_at "evs"
    refine We.b1 rfl ?_
    repeat walk_at "evs"
    refine ⟨rfl, ?_⟩
    repeat walk_at "evs"
    rw [List.length_map]
    refine w_seed hc h2 (by omega) (by omega) (by omega) fun i sto2 g1 i0 i1 => ?_
    have hi : i.toNat < left.length := by omega
    have hy : left[i.toNat]? = some left[i.toNat] := List.getElem?_eq_getElem hi
    generalize left[i.toNat] = y at hy
    refine ⟨i, left.map .str, .str y, rfl, rfl, ⟨⟨i0, by rw [List.length_map]; exact i1⟩, by omega⟩, by rw [List.getElem?_map, hy]; rfl, ?_⟩
    rw [erase_map]
    have hp : (ps.map (·.1) ++ [y] ++ left.eraseIdx i.toNat).Perm keyS := by
      rw [List.append_assoc, List.singleton_append]
      exact ((erase_perm left _ y hy).append_left _).trans h4
    generalize left.eraseIdx i.toNat = left2 at hp
    refine Ws.app rfl ?_
    repeat walk_at "evs"
    refine w_one hc g1 (by omega) (by rfl) (by rfl) fun kd sto3 g2 hkd => ?_
    repeat walk_at "evs"
    refine w_seed hc g2 (by omega) (by decide) (by decide) fun m sto4 g3 m0 m1 => ?_
    obtain ⟨mm, rfl⟩ := Int.eq_ofNat_of_zero_le m0
    repeat walk_at "evs"
    refine w_drawnN hc (M := 2) (by omega) (by decide) g3 (by omega) hkd fun t sto5 kt g4 ht => ?_
    repeat walk_at "evs"
    refine XApp.own (by rfl) (by rw [List.length_map]; omega) ?_
    refine ⟨ps ++ [(y, t)], left2, .sh d, .sh (.str y), sto5, ?_, g4.mono ?_, by rw [List.length_append, List.length_singleton]; omega, ?_, ?_⟩
    · rw [List.map_append]
      rfl
    · rw [List.length_append, List.length_singleton, Nat.succ_mul]
      omega
    · rw [List.map_append]
      exact hp
    · intro p hp'
      rcases List.mem_append.mp hp' with q | q
      · exact h5 p q
      · rw [List.mem_singleton.mp q]
        exact ⟨kt, ht⟩
  · rintro s ⟨ps, left, x3, x4, sto', rfl, h2, h3, h4, h5⟩
    rw [List.length_nil] at h3
    repeat walk_at "evs"
    have nk : keyS.Nodup := by decide +kernel
    have nd := (h4.nodup_iff).mpr nk
    refine k ps sto' (h2.mono (by omega)) ⟨(List.nodup_append.mp nd).1, by omega, fun p hp => h4.mem_iff.mp (List.mem_append_left _ (List.mem_map.mpr ⟨p, hp, rfl⟩)), h5⟩
/-! parted -/
def notTr (d : D) : Bool := match d with
  | .tup [_, .tup (.str z :: _)] => !trL.contains z
  | _ => false
def inTr (d : D) : Bool := match d with
  | .tup [_, .tup (.str z :: _)] => trL.contains z
  | _ => false
theorem notTr_prS {p : Str × D} {k : Str} (h : Te 3 k p.2) : notTr (prS p) = isW p ∧ inTr (prS p) = isT p := by
  obtain ⟨y, x⟩ := p
  obtain ⟨z, r, e, _⟩ := h.isTup
  dsimp only at e h
  subst e
  have e1 := h.two
  have e2 := h.kd (j := 40) (by decide)
  have e3 := h.kd2
  have w : isW (y, D.tup (.str z :: r)) = decide (k = "word") := by
    unfold isW
    rw [e2]
    exact decide_eq_decide.mpr ⟨fun e => Option.some.inj e, fun e => by subst e; rfl⟩
  have t : isT (y, D.tup (.str z :: r)) = decide (k = "truth") := by
    unfold isT
    rw [e2]
    exact decide_eq_decide.mpr ⟨fun e => Option.some.inj e, fun e => by subst e; rfl⟩
  rw [w, t]
  refine ⟨e1, ?_⟩
  show trL.contains z = _
  rcases e3 with rfl | rfl
  · have : (!trL.contains z) = false := e1
    rw [show trL.contains z = true by simpa using this]
    rfl
  · have : (!trL.contains z) = true := e1
    rw [show trL.contains z = false by simpa using this]
    rfl
theorem w_parted {ps : Asc} (hp : Told ps) {sto : Sto} {E : XPost} {P : D → Sto → Prop} (h : P (.lst [dcD (ps.filter isW), dcD (ps.filter isT)]) sto) : Wf (f__law_parted [.lst (ps.map prS)] sto) E P := by
  have hz : sizeLine = 16777216 := by decide
  have hl := hp.len
  have hw : (ps.map prS).filter notTr = (ps.filter isW).map prS := by
    rw [List.filter_map]
    congr 1
    exact List.filter_congr fun p hpp => by
      obtain ⟨k, hk⟩ := hp.te p hpp
      exact (notTr_prS hk).1
  have ht : (ps.map prS).filter inTr = (ps.filter isT).map prS := by
    rw [List.filter_map]
    congr 1
    exact List.filter_congr fun p hpp => by
      obtain ⟨k, hk⟩ := hp.te p hpp
      exact (notTr_prS hk).2
  refine Wf.fn ?_
  unfold m__law_parted
  repeat walk_at "evs"
  refine We.compP notTr (fun d => d) ?_
  repeat walk_at "evs"
  refine ⟨rfl, by rw [List.length_map]; omega, fun d hd => ?_, ?_⟩
  · obtain ⟨⟨y, x⟩, hpp, rfl⟩ := List.mem_map.mp hd
    obtain ⟨k, hk⟩ := hp.te _ hpp
    obtain ⟨z, r, e, _⟩ := hk.isTup
    dsimp only at e
    subst e
    refine ⟨_, rfl, rfl, rfl, ?_⟩
    repeat walk_at "evs"
    refine We.ixT at1 ?_
    repeat walk_at "evs"
    refine We.ixT at0 ?_
    repeat walk_at "evs"
    refine X2.of (notin_tupS z trL) ?_
    repeat walk_at "evs"
    refine ⟨rfl, rfl, fun _ => ?_⟩
    unfold m__law_parted_e2
    repeat walk_at "evs"
    exact ⟨rfl, rfl⟩
  rw [hw, List.map_id']
  repeat walk_at "evs"
  refine XL.of (gDict_prS (hp.sub List.filter_sublist).nd) ?_
  repeat walk_at "evs"
  refine We.compP inTr (fun d => d) ?_
  repeat walk_at "evs"
  refine ⟨rfl, by rw [List.length_map]; omega, fun d hd => ?_, ?_⟩
  · obtain ⟨⟨y, x⟩, hpp, rfl⟩ := List.mem_map.mp hd
    obtain ⟨k, hk⟩ := hp.te _ hpp
    obtain ⟨z, r, e, _⟩ := hk.isTup
    dsimp only at e
    subst e
    refine ⟨_, rfl, rfl, rfl, ?_⟩
    repeat walk_at "evs"
    refine We.ixT at1 ?_
    repeat walk_at "evs"
    refine We.ixT at0 ?_
    repeat walk_at "evs"
    refine X2.of (in_tupS z trL) ?_
    repeat walk_at "evs"
    refine ⟨rfl, rfl, fun _ => ?_⟩
    unfold m__law_parted_e1
    repeat walk_at "evs"
    exact ⟨rfl, rfl⟩
  rw [ht, List.map_id']
  repeat walk_at "evs"
  refine XL.of (gDict_prS (hp.sub List.filter_sublist).nd) ?_
  repeat walk_at "evs"
  exact h

/-! ### terms are put in as is due -/
theorem Pv.reprX {n w : Nat} {d : D} {X : Str} {P : D → Prop} (h : Pv n w d) (hn : n ≤ 60) (hw : w ≤ 1000000) (e : d.py.shown = X) (k : P (.str X)) : XL gRepr [d] P := by
  subst e
  exact h.repr hn hw k
theorem ne_same (a : Str) : gNe (.str a) (.str a) = some (.bl false) := by
  show some (D.bl (!decide (a = a))) = _
  rw [decide_eq_true rfl]
  rfl
theorem eq_same (a : Str) : gEq (.str a) (.str a) = some (.bl true) := by
  show some (D.bl (decide (a = a))) = _
  rw [decide_eq_true rfl]
theorem prS_pv {p : Str × D} {k : Str} (hk : p.1 ∈ keyS) (h : Te 3 k p.2) : Pv 4 936 (prS p) :=
  (Pv.tup (Pvs.cons ((pvC.pv (key_ok p.1 hk).2.2).mono (Nat.zero_le 3) (Nat.le_refl _)) (Pvs.cons h.pvS (Pvs.nil (w := 0))))).mono (by decide) (by decide)
theorem Told.pv {ps : Asc} (h : Told ps) : Pv 5 8000 (.lst (ps.map prS)) := by
  have h1 := Pvs.of (ds := ps.map prS) (n := 4) (w := 936) fun d hd => by
    obtain ⟨p, hp, rfl⟩ := List.mem_map.mp hd
    obtain ⟨k, hk⟩ := h.te p hp
    exact prS_pv (h.key p hp) hk
  rw [List.length_map] at h1
  have := Nat.mul_le_mul_right (936 + 1) h.len
  exact (Pv.lst h1).mono (by decide) (by omega)
def nmS (label : Str) (t : D) : List Str := srtS (oneS (splS 40 label t))
def slf (label : Str) (N : List Str) : Asc := N.map fun y => (y, .tup [.str label, .str y])
theorem nmS_ok {label kd : Str} {t : D} (hl : label = "name" ∨ label = "flag") (h : Dr kd t) : (nmS label t).Nodup ∧ (∀ y ∈ nmS label t, y ∈ spelts) ∧ (nmS label t).length ≤ 6 := by
  have hp : (srtS (oneS (splS 40 label t))).Perm (oneS (splS 40 label t)) := List.mergeSort_perm _ _
  refine ⟨hp.nodup_iff.mpr (oneS_nodup _), fun z hz => nm_mem hl h z ((wk_spl hl 40 [] t).mem_iff.mpr ((oneS_mem _ z).mp (hp.mem_iff.mp hz))), ?_⟩
  unfold nmS
  rw [hp.length_eq]
  exact spl_few hl h
theorem slf_fst (label : Str) (N : List Str) : (slf label N).map (·.1) = N := by
  unfold slf
  rw [List.map_map]
  exact List.map_id' N
theorem te_slf {label y : Str} (hl : label = "name" ∨ label = "flag") (hy : y ∈ spelts) : ∃ k, Te 3 k (.tup [.str label, .str y]) := by
  rcases hl with rfl | rfl
  · exact ⟨_, te_name hy⟩
  · exact ⟨_, te_flag hy⟩
theorem slf_told {label : Str} (hl : label = "name" ∨ label = "flag") {N : List Str} (h1 : N.Nodup) (h2 : ∀ y ∈ N, y ∈ spelts) (h3 : N.length ≤ 6) : Told (slf label N) := by
  refine ⟨by rw [slf_fst]; exact h1, by unfold slf; rw [List.length_map]; omega, fun p hp => ?_, fun p hp => ?_⟩
  · obtain ⟨y, hy, rfl⟩ := List.mem_map.mp hp
    exact spelts_key y (h2 y hy)
  · obtain ⟨y, hy, rfl⟩ := List.mem_map.mp hp
    exact te_slf hl (h2 y hy)
theorem slf_same {label : Str} (hl : label = "name" ∨ label = "flag") {N : List Str} (h : Told (slf label N)) (hs : ∀ y ∈ N, y ∈ spelts) {n : Nat} {kd : Str} {t : D} (ht : Te n kd t) : putD (fnD ((slf label N).filter isW)) (fnD ((slf label N).filter isT)) t = t := by
  have mem : ∀ (q : Str × D → Bool) y x, fnD ((slf label N).filter q) y = some x → (x = .tup [.str label, .str y] ∧ y ∈ spelts) ∧ q (y, x) = true := fun q y x e => by
    obtain ⟨h1, h2⟩ := List.mem_filter.mp ((fnD_mem (h.sub List.filter_sublist).nd).mp e)
    obtain ⟨y', hy, e'⟩ := List.mem_map.mp h1
    cases e'
    exact ⟨⟨rfl, hs _ hy⟩, h2⟩
  refine put_same (fun y x e => ?_) (fun y x e => ?_) ht
  · obtain ⟨⟨e1, hy⟩, e2⟩ := mem _ y x e
    rcases hl with rfl | rfl
    · exact e1
    · subst e1
      have e2 : kindD 40 (.tup [.str "flag", .str y]) = some "word" := of_decide_eq_true e2
      rw [(te_flag (n := 0) hy).kd (by decide)] at e2
      exact absurd (Option.some.inj e2) (by decide +kernel)
  · obtain ⟨⟨e1, hy⟩, e2⟩ := mem _ y x e
    rcases hl with rfl | rfl
    · subst e1
      have e2 : kindD 40 (.tup [.str "name", .str y]) = some "truth" := of_decide_eq_true e2
      rw [(te_name (n := 0) hy).kd (by decide)] at e2
      exact absurd (Option.some.inj e2) (by decide +kernel)
    · exact e1
theorem none_told : Told [] := ⟨.nil, Nat.zero_le _, fun _ h => (by cases h), fun _ h => (by cases h)⟩
def toL : D → D
  | .tup xs => .lst xs
  | d => d
def slP (label : Str) (d : D) : D := .tup [d, .tup [.str label, d]]
theorem slP_map (label : Str) (N : List Str) : (N.map D.str).map (slP label) = (slf label N).map prS := by
  unfold slf
  rw [List.map_map, List.map_map]
  rfl
structure Dk (kd : Str) (t : D) : Prop where
  te : Te 4 kd t
theorem Dk.dr {kd : Str} {t : D} (h : Dk kd t) : Dr kd t := ⟨(h.te.pvS).mono (by decide) (by decide), h.te.up (by decide)⟩
theorem Dk.put {kd : Str} {t : D} (h : Dk kd t) {ps : Asc} (hp : Told ps) : Go kd (putD (fnD (ps.filter isW)) (fnD (ps.filter isT)) t) :=
  ⟨(put_pv (by decide) hp.fits.pv h.te).mono (by decide) (by decide), (Te.putD hp.fits h.te).up (by decide)⟩
theorem Dk.put2 {kd : Str} {t : D} (h : Dk kd t) {ps qs : Asc} (hp : Told ps) (hq : Told qs) : Pv 8 1000000 (putD (fnD (qs.filter isW)) (fnD (qs.filter isT)) (putD (fnD (ps.filter isW)) (fnD (ps.filter isT)) t)) :=
  (put2_pv (by decide) hp.fits hq.fits.pv h.te).mono (by decide) (by decide)
set_option maxHeartbeats 4000000 in
theorem w_put_right {c : List Int} (hc : Cs c) {B : Int} {sto : Sto} {E : XPost} {P : D → Sto → Prop} {kd : Str} {t : D} (hd : Dk kd t) (h : Tr c B sto) (hB : B + 9000 ≤ 1000000) (k : ∀ sto', Tr c (B + 8000) sto' → P (.bl true) sto') : Wf (f__law_put_right [.box 0, t] sto) E P := by
  have hz : sizeLine = 16777216 := by decide
  have hg := hd.dr.go
  refine Wf.fn ?_
  unfold m__law_put_right
  repeat walk_at "evs"
  refine w_told hc h (by omega) fun ps sto1 h1 hp => ?_
  have hpl := hp.len
  have hpr : Told ps.reverse := hp.perm (List.reverse_perm _)
  refine Ws.seq (Ws.asg ?_)
  repeat walk_at "evs"
  refine w_parted hp ?_
  refine ⟨_, rfl, ?_⟩
  have T1g := hd.put hp
  have T1e : ∀ qs : Asc, qs.Perm ps → putD (fnD (qs.filter isW)) (fnD (qs.filter isT)) t = putD (fnD (ps.filter isW)) (fnD (ps.filter isT)) t := fun qs hq => put_perm hp hq t
  have T1k : Te 7 kd (putD (fnD (ps.filter isW)) (fnD (ps.filter isT)) t) := Te.putD hp.fits hd.te
  refine Ws.seq (Ws.asg ?_)
  refine We.norm (s := ⟨[.sh (.box 0), .sh t, .sh (.lst (ps.map prS)), .sh (dcD (ps.filter isW)), .sh (dcD (ps.filter isT)), .un, .un, .un, .un, .un, .un, .un, .un, .un, .un, .un], sto1⟩) (by rfl) ?_
  repeat walk_at "evs"
  refine w_lput _ _ 40 4 (by decide) hd.te ?_
  have T2v : ∀ qs : Asc, Told qs → Pv 8 1000000 (putD (fnD (qs.filter isW)) (fnD (qs.filter isT)) (putD (fnD (ps.filter isW)) (fnD (ps.filter isT)) t)) := fun qs hq => hd.put2 hp hq
  have lp : ∀ {sto : Sto} {E : XPost} {P : D → Sto → Prop}, P (putD (fnD (ps.filter isW)) (fnD (ps.filter isT)) t) sto → Wf (f__law_put 40 [t, dcD (ps.filter isW), dcD (ps.filter isT)] sto) E P := fun h => w_lput _ _ 40 4 (by decide) hd.te h
  generalize putD (fnD (ps.filter isW)) (fnD (ps.filter isT)) t = T1 at *
  generalize hX : T1.py.shown = X
  generalize hY : (D.lst (ps.map prS)).py.shown = Y
  refine T1g.pv.reprX (by omega) (by omega) hX ?_
  repeat walk_at "evs"
  refine hp.pv.reprX (by omega) (by omega) hY ?_
  repeat walk_at "evs"
  refine ⟨_, rfl, ?_⟩
  with_reducible refine Ws.seq (m := sSet _ _) ?_
  refine Ws.st (s' := ⟨[.sh (.box 0), .sh t, .sh (.lst (ps.map prS)), .sh (dcD (ps.filter isW)), .sh (dcD (ps.filter isT)), .sh (.str X), .sh (.str Y), .un, .un, .un, .un, .un, .un, .un, .un, .un], sto1⟩) (by rfl) ?_
  repeat walk_at "evs"
  refine w_put_in (ps := ps) .l hp hg ?_
  rw [T1e ps (.refl _)]
  repeat walk_at "evs"
  refine We.pick ?_
  repeat walk_at "evs"
  rw [← List.map_reverse]
  refine XL.of (gDict_prS hpr.nd) ?_
  repeat walk_at "evs"
  refine w_put_in (ps := ps.reverse) .d hpr hg ?_
  rw [T1e _ (List.reverse_perm _)]
  repeat walk_at "evs"
  refine We.compP (fun _ => true) toL ?_
  repeat walk_at "evs"
  rw [← List.map_reverse]
  refine ⟨rfl, by rw [List.length_map, List.length_reverse]; omega, fun d hd => ⟨_, rfl, rfl, rfl, We.pure ⟨rfl, rfl, fun _ => ?_⟩⟩, ?_⟩
  · obtain ⟨p, _, rfl⟩ := List.mem_map.mp hd
    unfold m__law_put_right_e1
    repeat walk_at "evs"
    refine XL.of (z := toL (prS p)) rfl ?_
    exact ⟨rfl, rfl⟩
  rw [filter_true, List.map_map]
  repeat walk_at "evs"
  refine XL.of (z := .tup (ps.reverse.map prL)) rfl ?_
  repeat walk_at "evs"
  refine w_put_in (ps := ps.reverse) .t hpr hg ?_
  rw [T1e _ (List.reverse_perm _)]
  with_reducible refine We.nil ?_
  refine XLen.mk (by rfl) ?_
  with_reducible refine Ws.seq ?_
  refine Ws.st (s' := ⟨[.sh (.box 0), .sh t, .sh (.lst (ps.map prS)), .sh (dcD (ps.filter isW)), .sh (dcD (ps.filter isT)), .sh (.str X), .sh (.str Y), .sh (.lst [T1, T1, T1]), .un, .un, .un, .un, .un, .un, .un, .un], sto1⟩) (by rfl) ?_
  repeat walk_at "evs"
  refine We.compP (fun _ => false) (fun d => d) ?_
  repeat walk_at "evs"
  refine ⟨rfl, by show 3 < sizeLine; omega, fun d hd => ?_, ?_⟩
  · have e : d = T1 := by
      simp only [List.mem_cons, List.not_mem_nil, or_false, or_self] at hd
      exact hd
    subst e
    refine ⟨_, rfl, rfl, rfl, ?_⟩
    repeat walk_at "evs"
    refine T1g.pv.reprX (by omega) (by omega) hX ?_
    repeat walk_at "evs"
    exact ⟨by rw [decide_eq_true rfl]; rfl, rfl, fun e => by rw [decide_eq_true rfl] at e; cases e⟩
  rw [filter_false]
  repeat walk_at "evs"
  refine X2.of (gNe_nil (Pvs.nil (n := 0) (w := 0)) (by omega)) ?_
  repeat walk_at "evs"
  refine hp.pv.reprX (by omega) (by omega) hY ?_
  repeat walk_at "evs"
  refine Xc.f (by rw [decide_eq_true rfl]; rfl) ?_
  with_reducible refine Ws.nx ?_
  with_reducible refine Ws.seq (m := sSet _ _) ?_
  refine Ws.st (s' := ⟨[.sh (.box 0), .sh t, .sh (.lst (ps.map prS)), .sh (dcD (ps.filter isW)), .sh (dcD (ps.filter isT)), .sh (.str X), .sh (.str Y), .sh (.lst [T1, T1, T1]), .un, .un, .un, .un, .un, .un, .un, .un], sto1⟩) (by rfl) ?_
  repeat walk_at "evs"
  refine w_told hc h1 (by omega) fun qs sto2 h2 hq => ?_
  refine Ws.seq (Ws.asg ?_)
  repeat walk_at "evs"
  refine w_parted hq ?_
  refine ⟨_, rfl, ?_⟩
  with_reducible refine Ws.seq ?_
  refine Ws.st (s' := ⟨[.sh (.box 0), .sh t, .sh (.lst (ps.map prS)), .sh (dcD (ps.filter isW)), .sh (dcD (ps.filter isT)), .sh (.str X), .sh (.str Y), .sh (.lst [T1, T1, T1]), .sh (.lst (qs.map prS)), .sh (dcD (qs.filter isW)), .sh (dcD (qs.filter isT)), .un, .un, .un, .un, .un], sto2⟩) (by rfl) ?_
  have T2p := T2v qs hq
  repeat walk_at "evs"
  refine w_put_in (ps := qs) .l hq T1g ?_
  have lp2 : ∀ {sto : Sto} {E : XPost} {P : D → Sto → Prop}, P (putD (fnD (qs.filter isW)) (fnD (qs.filter isT)) T1) sto → Wf (f__law_put 40 [T1, dcD (qs.filter isW), dcD (qs.filter isT)] sto) E P := fun h => w_lput _ _ 40 7 (by decide) T1k h
  generalize putD (fnD (qs.filter isW)) (fnD (qs.filter isT)) T1 = T2 at *
  generalize hU : T2.py.shown = U
  repeat walk_at "evs"
  refine T2p.reprX (by omega) (by omega) hU ?_
  repeat walk_at "evs"
  refine lp ?_
  repeat walk_at "evs"
  refine lp2 ?_
  repeat walk_at "evs"
  refine T2p.reprX (by omega) (by omega) hU ?_
  repeat walk_at "evs"
  refine Xc.f (by rw [decide_eq_true rfl]; rfl) ?_
  with_reducible refine Ws.nx ?_
  have n1 := spl_len (label := "name") (.inl rfl) hd.dr
  have n2 := spl_few (label := "name") (.inl rfl) hd.dr
  have n3 := spl_len (label := "flag") (.inr rfl) hd.dr
  have n4 := spl_few (label := "flag") (.inr rfl) hd.dr
  obtain ⟨na1, na2, na3⟩ := nmS_ok (label := "name") (.inl rfl) hd.dr
  obtain ⟨fl1, fl2, fl3⟩ := nmS_ok (label := "flag") (.inr rfl) hd.dr
  have ht1 := slf_told (.inl rfl) na1 na2 na3
  have ht2 := slf_told (.inr rfl) fl1 fl2 fl3
  have hs1 := slf_same (.inl rfl) ht1 na2 hd.te
  have hs2 := slf_same (.inr rfl) ht2 fl2 hd.te
  with_reducible refine Ws.seq (m := sOwn _ _) ?_
  refine Ws.st (s' := ⟨[.sh (.box 0), .sh t, .sh (.lst (ps.map prS)), .sh (dcD (ps.filter isW)), .sh (dcD (ps.filter isT)), .sh (.str X), .sh (.str Y), .sh (.lst [T1, T1, T1]), .sh (.lst (qs.map prS)), .sh (dcD (qs.filter isW)), .sh (dcD (qs.filter isT)), .un, .un, .un, .un, .un], sto2⟩) (by rfl) ?_
  repeat walk_at "evs"
  refine We.compP (fun _ => true) (slP "name") ?_
  repeat walk_at "evs"
  refine w_names_in hg (by omega) (by omega) ?_
  show XItems (D.tup ((nmS "name" t).map .str)) _
  generalize nmS "name" t = N at *
  repeat walk_at "evs"
  refine ⟨rfl, by rw [List.length_map]; omega, fun d hd => ⟨_, rfl, rfl, rfl, We.pure ⟨rfl, rfl, fun _ => ?_⟩⟩, ?_⟩
  · unfold m__law_put_right_e3
    repeat walk_at "evs"
    exact ⟨rfl, rfl⟩
  rw [filter_true, slP_map]
  with_reducible refine Ws.seq (m := sOwn _ _) ?_
  refine Ws.st (s' := ⟨[.sh (.box 0), .sh t, .sh (.lst (ps.map prS)), .sh (dcD (ps.filter isW)), .sh (dcD (ps.filter isT)), .sh (.str X), .sh (.str Y), .sh (.lst [T1, T1, T1]), .sh (.lst (qs.map prS)), .sh (dcD (qs.filter isW)), .sh (dcD (qs.filter isT)), .ow ((slf "name" N).map prS), .un, .un, .un, .un], sto2⟩) (by rfl) ?_
  repeat walk_at "evs"
  refine We.compP (fun _ => true) (slP "flag") ?_
  repeat walk_at "evs"
  refine w_flags_in hg (by omega) (by omega) ?_
  show XItems (D.tup ((nmS "flag" t).map .str)) _
  generalize nmS "flag" t = F at *
  repeat walk_at "evs"
  refine ⟨rfl, by rw [List.length_map]; omega, fun d hd => ⟨_, rfl, rfl, rfl, We.pure ⟨rfl, rfl, fun _ => ?_⟩⟩, ?_⟩
  · unfold m__law_put_right_e4
    repeat walk_at "evs"
    exact ⟨rfl, rfl⟩
  rw [filter_true, slP_map]
  with_reducible refine Ws.ret ?_
  refine We.norm (s := ⟨[.sh (.box 0), .sh t, .sh (.lst (ps.map prS)), .sh (dcD (ps.filter isW)), .sh (dcD (ps.filter isT)), .sh (.str X), .sh (.str Y), .sh (.lst [T1, T1, T1]), .sh (.lst (qs.map prS)), .sh (dcD (qs.filter isW)), .sh (dcD (qs.filter isT)), .ow ((slf "name" N).map prS), .ow ((slf "flag" F).map prS), .un, .un, .un], sto2⟩) (by rfl) ?_
  generalize hV : (D.lst [t, t, t, t]).py.shown = V
  have pV : Pv 21 400004 (.lst [t, t, t, t]) := (Pv.lst (Pvs.of (ds := [t, t, t, t]) (n := 20) (w := 100000) fun d hd => by
    have e : d = t := by
      simp only [List.mem_cons, List.not_mem_nil, or_false, or_self] at hd
      exact hd
    rw [e]; exact hg.pv)).mono (by decide) (by show 4 * (100000 + 1) ≤ 400004; decide)
  repeat walk_at "evs"
  refine w_put_in (ps := slf "name" N) .l ht1 hg ?_
  rw [hs1]
  repeat walk_at "evs"
  refine XL.of (gDict_prS ht2.nd) ?_
  repeat walk_at "evs"
  refine w_put_in (ps := slf "flag" F) .d ht2 hg ?_
  rw [hs2]
  repeat walk_at "evs"
  refine w_put_in (ps := []) .l none_told hg ?_
  rw [put_same (fun y x e => by cases e) (fun y x e => by cases e) hd.te]
  repeat walk_at "evs"
  refine We.c (d := .dic [] []) ?_
  repeat walk_at "evs"
  refine w_put_in (ps := []) .d none_told hg ?_
  rw [put_same (fun y x e => by cases e) (fun y x e => by cases e) hd.te]
  repeat walk_at "evs"
  refine pV.reprX (by omega) (by omega) hV ?_
  repeat walk_at "evs"
  refine We.repF ?_
  repeat walk_at "evs"
  refine ⟨4, rfl, by decide, by decide, by show 1 * 4 ≤ sizeLine; omega, ?_⟩
  refine XL.of (z := .str V) ?_ ?_
  · obtain ⟨z, e, q⟩ := pV.reprX (P := fun z => z = .str V) (by omega) (by omega) hV rfl
    rw [← q]
    exact e
  repeat walk_at "evs"
  rw [decide_eq_true rfl]
  exact k sto2 (h2.mono (by omega))

/-! ### what tells no terms -/
def hdX (c : Str) : Str := if c = "BadTerm" then "term" else "input"
def XH (P : D → Sto → Prop) : XPost := fun c ns vs sto => (c = "BadTerm" ∨ c = "BadInput") ∧ ns = [("part" : Str)] ∧ ∃ p, vs = [.str p] ∧ P (.lst [.str (hdX c), .str p]) sto
theorem XH.term {P : D → Sto → Prop} {p : Str} {sto : Sto} (h : P (.lst [.str "term", .str p]) sto) : XH P "BadTerm" ["part"] [.str p] sto := ⟨.inl rfl, rfl, p, rfl, h⟩
theorem XH.input {P : D → Sto → Prop} {p : Str} {sto : Sto} (h : P (.lst [.str "input", .str p]) sto) : XH P "BadInput" ["part"] [.str p] sto := ⟨.inr rfl, rfl, p, rfl, h⟩
theorem w_heard {th : Fn} {sto : Sto} {E : XPost} {P : D → Sto → Prop} (h : Wf (th [] sto) (XH P) fun _ _ => False) : Wf (f__law_heard th [] sto) E P := by
  cases e : th [] sto with
  | rt d sto' => rw [e] at h; exact h.elim
  | ro xs sto' => rw [e] at h; exact h.elim
  | exc c ns vs sto' =>
    rw [e] at h
    obtain ⟨hc, rfl, p, rfl, hp⟩ := h
    refine of_ro (xs := [.str (hdX c), .str p]) (sto := sto') ?_ hp
    have ea : mAsk 0 th mNil ⟨[.th, .sh .non, .un], sto⟩ = .exc c ["part"] [.str p] sto' := by
      unfold mAsk mCall M.bind
      simp [mNil, M.pure, e]
    have et : sTry [("BadTerm", true), ("BadInput", true)] 2 1 (mAsk 0 th mNil) ⟨[.th, .sh .non, .un], sto⟩ = .nx ⟨[.th, .sh (.ins c ["part"] [.str p]), .un], sto'⟩ := by
      unfold sTry
      rw [ea]
      rcases hc with rfl | rfl <;> rfl
    show (match m__law_heard th ⟨[.th, .un, .un], sto⟩ with | .nx s => RS.rt .non s.sto | .bk _ => .bad | .ct _ => .bad | r => r) = _
    have em : m__law_heard th ⟨[.th, .un, .un], sto⟩ = .ro [.str (hdX c), .str p] sto' := by
      unfold m__law_heard
      show sSeq (sTry [("BadTerm", true), ("BadInput", true)] 2 1 (mAsk 0 th mNil)) _ ⟨[.th, .sh .non, .un], sto⟩ = _
      unfold sSeq
      rw [et]
      rcases hc with rfl | rfl <;> rfl
    rw [em]
  | nx _ => rw [e] at h; exact h.elim
  | bk _ => rw [e] at h; exact h.elim
  | ct _ => rw [e] at h; exact h.elim
  | bad => rw [e] at h; exact h.elim
def okP (d : D) : Bool := match d with
  | .tup [k, v] => spelD k && (kindD 40 v).isSome
  | _ => false
structure Pr (d : D) : Prop where
  ex : ∃ k v, d = .tup [k, v] ∧ k.pure = true ∧ txtOk k ∧ Good v
theorem kv_some (o : Option Str) : (!isNon (kv o)) = o.isSome := by cases o <;> rfl
theorem w_is_term_any {d : D} (hg : Good d) {sto : Sto} {E : XPost} {P : D → Sto → Prop} (h : P (.bl (kindD 40 d).isSome) sto) : Wf (f_is_term [d] sto) E P := by
  refine Wf.fn ?_
  unfold m_is_term
  repeat walk_at "evs"
  refine g_kind_of hg ?_
  repeat walk_at "evs"
  show P (.bl (!isNon (kv (kindD 40 d)))) sto
  rw [kv_some]
  exact h
theorem all_bl (f : D → Bool) (ds : List D) : gAll [.lst (ds.map fun d => D.bl (f d))] = some (.bl (ds.all f)) := by
  show (asBs (ds.map fun d => D.bl (f d))).map _ = _
  rw [asBs_map]
  show some (D.bl ((ds.map f).all id)) = _
  rw [List.all_map]
  rfl
theorem x_put_pairs {kd : Str} {t o : D} {qs : List D} {sto : Sto} {E : XPost} {P : D → Sto → Prop} (ht : Go kd t) (ho : f_pairs_of [o] sto = .rt (.tup qs) sto) (hl : qs.length ≤ 10) (hq : ∀ d ∈ qs, Pr d) (hf : qs.all okP = false) (h : E "BadInput" ["part"] [.str "values"] sto) : Wf (f_put_in [t, o] sto) E P := by
  have hz : sizeLine = 16777216 := by decide
  refine Wf.fn ?_
  unfold m_put_in
  repeat walk_at "evs"
  refine We.pick ?_
  repeat walk_at "evs"
  refine w_need_te ht ?_
  repeat walk_at "evs"
  refine Wf.of_eq ho ?_
  repeat walk_at "evs"
  refine We.compP (fun _ => true) (fun d => .bl (okP d)) ?_
  repeat walk_at "evs"
  refine ⟨rfl, by omega, fun d hd => ?_, ?_⟩
  · obtain ⟨k, v, rfl, h1, h2, h3⟩ := (hq d hd).ex
    refine ⟨_, rfl, rfl, rfl, We.pure ⟨rfl, rfl, fun _ => ?_⟩⟩
    unfold m_put_in_e1
    repeat walk_at "evs"
    refine w_spelling_any h1 h2 ?_
    repeat walk_at "evs"
    cases hs : spelD k with
    | false =>
      refine Xc.f rfl ?_
      refine ⟨?_, rfl⟩
      show D.bl false = D.bl (spelD k && (kindD 40 v).isSome)
      rw [hs]
      rfl
    | true =>
      refine Xc.t rfl ?_
      repeat walk_at "evs"
      refine w_is_term_any h3 ?_
      refine ⟨?_, rfl⟩
      show D.bl _ = D.bl (spelD k && (kindD 40 v).isSome)
      rw [hs]
      rfl
  · rw [filter_true]
    repeat walk_at "evs"
    refine XL.of (all_bl okP qs) ?_
    rw [hf]
    repeat walk_at "evs"
    refine Ws.raise ?_
    repeat walk_at "evs"
    exact h
theorem x_put_none {kd : Str} {t o : D} {sto : Sto} {E : XPost} {P : D → Sto → Prop} (ht : Go kd t) (ho : f_pairs_of [o] sto = .rt .non sto) (h : E "BadInput" ["part"] [.str "values"] sto) : Wf (f_put_in [t, o] sto) E P := by
  refine Wf.fn ?_
  unfold m_put_in
  repeat walk_at "evs"
  refine We.pick ?_
  repeat walk_at "evs"
  refine w_need_te ht ?_
  repeat walk_at "evs"
  refine Wf.of_eq ho ?_
  repeat walk_at "evs"
  refine Ws.raise ?_
  repeat walk_at "evs"
  exact h
theorem x_put_bad {t o : D} {sto : Sto} {E : XPost} {P : D → Sto → Prop} (ht : Bad t) (h : E "BadTerm" ["part"] [.str "term"] sto) : Wf (f_put_in [t, o] sto) E P := by
  refine Wf.fn ?_
  unfold m_put_in
  repeat walk_at "evs"
  refine We.pick ?_
  repeat walk_at "evs"
  exact bad_need ht h
def oddsN (w : D) : List D := [.non, .int 5, .str "x", .lst [.non], .lst [.tup [.str "x"]], .lst [.tup [.str "x", w, w]], .lst [.tup [.str "x", w], .tup [.str "x", w]], .lst [.tup [.str "x", .int 5]], .lst [.tup [.int 1, w]], .lst [.tup [.str "X", w]]]
def oddsM (w : D) : List D := [.dic [.inr "x"] [.int 5], .dic [.inl 1] [w], .dic [.inr ""] [w], .lst [.tup [.str "x", .tup [.str "add", w]]], .lst [.lst [.str "x", w], .tup [.str "y", .non]], .lst [.tup [.str "ninesigns", w]], .bl true, .lst [.str "xy"]]
theorem txt_str {z : Str} (h : pvC 0 20 (.str z) = true) (hl : z.length ≤ 1000000) (ho : PyData.strOk z = true) : txtOk (.str z) := fun y e => by cases e; exact ⟨hl, ho⟩
theorem bad_add {w : D} {n m : Nat} {kw : Str} (hw : Pv n m w) (h1 : n ≤ 20) (h2 : m ≤ 100000) : kindD 40 (.tup [.str "add", w]) = none := by
  have hs : shp "add" 1 = none := by decide +kernel
  unfold kindD
  have e : ck_LEAF_KINDS.contains ("add" : Str) = false := by decide +kernel
  show (if ck_LEAF_KINDS.contains ("add" : Str) = true then _ else match shp "add" [w].length with | some p => if [w].map (kindD 39) = p.2.map some then some p.1 else none | none => none) = none
  rw [e]
  simp only [Bool.false_eq_true, if_false]
  show (match shp "add" 1 with | some p => if [w].map (kindD 39) = p.2.map some then some p.1 else none | none => none) = none
  rw [hs]
theorem x_put_odd {kd : Str} {t w o : D} {n m : Nat} {sto : Sto} {E : XPost} {P : D → Sto → Prop} (ht : Go kd t) (hw : Pv n m w) (h1 : n ≤ 20) (h2 : m ≤ 100000) (ho : o ∈ oddsN w ++ oddsM w) (h : E "BadInput" ["part"] [.str "values"] sto) : Wf (f_put_in [t, o] sto) E P := by
  have sx : txtOk (.str "x") := fun y e => by cases e; decide +kernel
  have sX : txtOk (.str "X") := fun y e => by cases e; decide +kernel
  have se : txtOk (.str "") := fun y e => by cases e; decide +kernel
  have sy : txtOk (.str "y") := fun y e => by cases e; decide +kernel
  have sn : txtOk (.str "ninesigns") := fun y e => by cases e; decide +kernel
  have si : txtOk (.int 1) := fun y e => by cases e
  have gw : Good w := ⟨⟨n, m, hw, by omega, by omega⟩⟩
  have g5 : Good (.int 5) := ⟨⟨0, 32, pvC.pv (by kernel_rfl), by decide, by decide⟩⟩
  have gn : Good .non := ⟨⟨0, 32, pvC.pv (by kernel_rfl), by decide, by decide⟩⟩
  have ga : Good (.tup [.str "add", w]) := ⟨⟨n + 1, 20 + 1 + (m + 1 + 0), Pv.tup (Pvs.cons ((pvC.pv (n := 0) (w := 20) (by kernel_rfl)).mono (Nat.zero_le n) (Nat.le_refl _)) (Pvs.cons hw (Pvs.nil (w := 0)))), by omega, by omega⟩⟩
  have one : ∀ {k v : D}, k.pure = true → txtOk k → Good v → ∀ d ∈ [D.tup [k, v]], Pr d := fun {k v} a b c d hd => by
    rw [List.mem_singleton.mp hd]
    exact ⟨⟨k, v, rfl, a, b, c⟩⟩
  have f1 : spelD (.str "X") = false := by decide +kernel
  have f2 : spelD (.str "") = false := by decide +kernel
  have f3 : spelD (.str "ninesigns") = false := by decide +kernel
  have allf : ∀ {k v : D}, (spelD k && (kindD 40 v).isSome) = false → [D.tup [k, v]].all okP = false := fun {k v} e => by
    show ((spelD k && (kindD 40 v).isSome) && true) = false
    rw [e]
    rfl
  unfold oddsN oddsM at ho
  simp only [List.mem_append, List.mem_cons, List.not_mem_nil, or_false] at ho
  rcases ho with (rfl | rfl | rfl | rfl | rfl | rfl | rfl | rfl | rfl | rfl) | (rfl | rfl | rfl | rfl | rfl | rfl | rfl | rfl)
  · exact x_put_none ht rfl h
  · exact x_put_none ht rfl h
  · exact x_put_none ht rfl h
  · exact x_put_none ht rfl h
  · exact x_put_none ht rfl h
  · exact x_put_none ht rfl h
  · exact x_put_none ht (by kernel_rfl) h
  · exact x_put_pairs ht (qs := [.tup [.str "x", .int 5]]) (by kernel_rfl) (by decide) (one rfl sx g5) (allf (by decide +kernel)) h
  · exact x_put_pairs ht (qs := [.tup [.int 1, w]]) (by kernel_rfl) (by show 1 ≤ 10; decide) (one rfl si gw) (allf rfl) h
  · exact x_put_pairs ht (qs := [.tup [.str "X", w]]) (by kernel_rfl) (by show 1 ≤ 10; decide) (one rfl sX gw) (allf (by rw [f1]; rfl)) h
  · exact x_put_pairs ht (qs := [.tup [.str "x", .int 5]]) (by kernel_rfl) (by decide) (one rfl sx g5) (allf (by decide +kernel)) h
  · exact x_put_pairs ht (qs := [.tup [.int 1, w]]) (by kernel_rfl) (by show 1 ≤ 10; decide) (one rfl si gw) (allf rfl) h
  · exact x_put_pairs ht (qs := [.tup [.str "", w]]) (by kernel_rfl) (by show 1 ≤ 10; decide) (one rfl se gw) (allf (by rw [f2]; rfl)) h
  · refine x_put_pairs ht (qs := [.tup [.str "x", .tup [.str "add", w]]]) (by kernel_rfl) (by show 1 ≤ 10; decide) (one rfl sx ga) (allf ?_) h
    rw [bad_add (kw := "") hw h1 h2]
    exact Bool.and_false _
  · refine x_put_pairs ht (qs := [.tup [.str "x", w], .tup [.str "y", .non]]) (by kernel_rfl) (by show 2 ≤ 10; decide) (fun d hd => ?_) ?_ h
    · simp only [List.mem_cons, List.not_mem_nil, or_false] at hd
      rcases hd with rfl | rfl
      · exact ⟨⟨_, _, rfl, rfl, sx, gw⟩⟩
      · exact ⟨⟨_, _, rfl, rfl, sy, gn⟩⟩
    · have : okP (.tup [.str "y", .non]) = false := by decide +kernel
      show (okP _ && (okP (.tup [.str "y", .non]) && true)) = false
      rw [this]
      exact Bool.and_false _
  · exact x_put_pairs ht (qs := [.tup [.str "ninesigns", w]]) (by kernel_rfl) (by show 1 ≤ 10; decide) (one rfl sn gw) (allf (by rw [f3]; rfl)) h
  · exact x_put_none ht rfl h
  · exact x_put_none ht rfl h
def noneL : List D := [.non, .int 7, .str "x", .lst [], .tup [.str "no", .tup [.str "name", .str "x"]]]
theorem none_bad : ∀ d ∈ noneL, Bad d := by
  have key : ∀ d ∈ noneL, pvC 3 100 d = true ∧ kindD 40 d = none := by decide +kernel
  intro d hd
  obtain ⟨h1, h2⟩ := key d hd
  exact ⟨⟨3, 100, pvC.pv h1, by decide, by decide⟩, h2⟩

/-! ### what is refused -/
set_option maxHeartbeats 4000000 in
theorem w_refused_right {c : List Int} (hc : Cs c) {B : Int} {sto : Sto} {E : XPost} {P : D → Sto → Prop} {kd : Str} {t : D} (hd : Dk kd t) (h : Tr c B sto) (hB : B + 2000 ≤ 1000000) (k : ∀ sto', Tr c (B + 1000) sto' → P (.bl true) sto') : Wf (f__law_refused_right [.box 0, t] sto) E P := by
  have hz : sizeLine = 16777216 := by decide
  have hg := hd.dr.go
  refine Wf.fn ?_
  unfold m__law_refused_right
  repeat walk_at "evs"
  refine w_drawnN hc (M := 1) (m := 1) (by decide) (by decide) h (by omega) (d := .str "word") List.mem_cons_self fun w sto1 kw h1 hw => ?_
  have pw := hw.pvS
  have hn1 : (1 : Nat) + 1 ≤ 20 := by decide
  have hn2 : wtN 50 1 ≤ 100000 := by decide
  repeat walk_at "evs"
  refine We.disp ?_
  repeat walk_at "evs"
  refine We.dispK ?_
  repeat walk_at "evs"
  refine We.disp ?_
  repeat walk_at "evs"
  refine X2.addL (by show 10 + 8 ≤ sizeLine; omega) ?_
  with_reducible refine Ws.seq ?_
  refine Ws.st (s' := ⟨[.sh (.box 0), .sh t, .sh w, .sh (.lst (oddsN w ++ oddsM w)), .un, .un, .un], sto1⟩) (by rfl) ?_
  have hlen : (oddsN w ++ oddsM w).length = 18 := rfl
  have hodd : ∀ {o : D}, o ∈ oddsN w ++ oddsM w → ∀ {sto : Sto} {E : XPost} {P : D → Sto → Prop}, E "BadInput" ["part"] [.str "values"] sto → Wf (f_put_in [t, o] sto) E P := fun ho _ _ _ h => x_put_odd hg pw hn1 hn2 ho h
  generalize oddsN w ++ oddsM w = L at hlen hodd ⊢
  refine Ws.asg ?_
  repeat walk_at "evs"
  refine w_one_of hc h1 (by omega) (by rw [hlen]; decide) (by rw [hlen]; decide) fun o sto2 h2 ho => ?_
  repeat walk_at "evs"
  refine w_one hc h2 (by omega) (by rfl) (by rfl) fun nn sto3 h3 hn => ?_
  have hn : Bad nn := none_bad nn hn
  repeat walk_at "evs"
  refine ⟨_, rfl, ?_⟩
  with_reducible refine Ws.seq ?_
  refine Ws.st (s' := ⟨[.sh (.box 0), .sh t, .sh w, .sh (.lst L), .sh o, .sh nn, .un], sto3⟩) rfl ?_
  repeat walk_at "evs"
  refine We.lam ?_
  repeat walk_at "evs"
  refine w_heard ?_
  refine Wf.lam ?_
  unfold m__law_refused_right_l1
  repeat walk_at "evs"
  refine hodd ho ?_
  refine XH.input ?_
  with_reducible refine We.nil ?_
  refine XLen.mk (by rfl) ?_
  with_reducible refine Ws.seq ?_
  refine Ws.st (s' := ⟨[.sh (.box 0), .sh t, .sh w, .sh (.lst L), .sh o, .sh nn, .ow [.lst [.str "input", .str "values"]]], sto3⟩) rfl ?_
  refine Ws.app rfl ?_
  refine We.lam ?_
  repeat walk_at "evs"
  refine w_heard ?_
  refine Wf.lam ?_
  unfold m__law_refused_right_l2
  repeat walk_at "evs"
  refine x_put_bad hn ?_
  refine XH.term ?_
  refine XApp.own (by rfl) (by decide) ?_
  with_reducible refine Ws.seq ?_
  refine Ws.st (s' := ⟨[.sh (.box 0), .sh t, .sh w, .sh (.lst L), .sh o, .sh nn, .ow [.lst [.str "input", .str "values"], .lst [.str "term", .str "term"]]], sto3⟩) rfl ?_
  refine Ws.app rfl ?_
  refine We.lam ?_
  repeat walk_at "evs"
  refine w_heard ?_
  refine Wf.lam ?_
  unfold m__law_refused_right_l3
  repeat walk_at "evs"
  refine We.c (d := .dic [] []) ?_
  repeat walk_at "evs"
  refine x_put_bad hn ?_
  refine XH.term ?_
  refine XApp.own (by rfl) (by decide) ?_
  refine Ws.st (s' := ⟨[.sh (.box 0), .sh t, .sh w, .sh (.lst L), .sh o, .sh nn, .ow [.lst [.str "input", .str "values"], .lst [.str "term", .str "term"], .lst [.str "term", .str "term"]]], sto3⟩) rfl ?_
  repeat walk_at "evs"
  refine X2.of (z := .bl true) (by kernel_rfl) ?_
  exact k _ (h3.mono (by omega))

/-! ### the law -/
theorem w_law {ns : List Int} (hn : ns.length ≤ 63) (hb : ∀ z ∈ ns, Builtin.Int.intBits z ≤ 1048576) : Wf (f_law [.lst (ns.map .int)] []) Xn fun d _ => d = .bl true := by
  have hc : Cs (ns.take 63) := ⟨by simp; omega, fun z hz => hb z (List.mem_of_mem_take hz)⟩
  refine Wf.fn ?_
  unfold m_law
  refine Ws.seq ?_
  refine Ws.box ?_
  refine We.callF ?_
  repeat walk_at "evs"
  refine w_trellis hn ?_
  repeat walk_at "evs"
  refine forL_inv (fun rest s => rest.length ≤ 4 ∧ ∃ (x2 x3 : Sl) (sto' : Sto), Tr (ns.take 63) (20000 * (4 - rest.length)) sto' ∧ s = ⟨[.sh (.lst (ns.map .int)), .sh (.box 0), x2, x3], sto'⟩) ?_ ?_ _ _ ⟨by decide, _, _, _, ⟨0, 0, rfl, by decide, by decide, by decide⟩, rfl⟩
  · rintro d ds s ⟨hl, x2, x3, sto', ht, rfl⟩
    simp only [List.length_cons] at hl ht
    refine ⟨_, rfl, ?_⟩
    unfold m_law_b1
    generalize hB : (20000 * (4 - ((ds.length + 1 : Nat) : Int))) = B at ht
    repeat walk_at "evs"
    refine w_one hc ht (by omega) (by rfl) (by rfl) fun kd sto1 h1 hkd => ?_
    repeat walk_at "evs"
    refine w_seed hc h1 (by omega) (by decide) (by decide) fun i sto2 h2 i0 i1 => ?_
    repeat walk_at "evs"
    obtain ⟨m, rfl⟩ := Int.eq_ofNat_of_zero_le i0
    refine w_drawnN hc (M := 3) (by omega) (by decide) h2 (by omega) hkd fun t sto3 ko h3 tt => ?_
    have dk : Dk ko t := ⟨tt⟩
    refine Ws.st (s' := ⟨[.sh (.lst (ns.map .int)), .sh (.box 0), .sh d, .sh t], sto3⟩) rfl ?_
    repeat walk_at "evs"
    refine w_put_right hc dk h3 (by omega) fun sto4 h4 => ?_
    repeat walk_at "evs"
    refine w_refused_right hc dk h4 (by omega) fun sto5 h5 => ?_
    repeat walk_at "evs"
    exact ⟨by omega, .sh d, .sh t, sto5, h5.mono (by omega), rfl⟩
  · rintro s ⟨hl, x2, x3, sto', ht, rfl⟩
    repeat walk_at "evs"
    rfl
theorem run_law : ∀ ns : List Int, ns.length ≤ 63 → (∀ z ∈ ns, Builtin.Int.intBits z ≤ 1048576) → ∃ sto, f_law [.lst (ns.map .int)] [] = .rt (.bl true) sto := fun ns hn hb => by
  have h := w_law hn hb
  have hr : ∀ xs sto, f_law [.lst (ns.map .int)] [] = .ro xs sto → False := fun xs sto e => by
    rw [e] at h
    cases h
  obtain ⟨d, sto, e, hd⟩ := h.eq fun xs sto e => hr xs sto e
  exact ⟨sto, by rw [e, hd]⟩

end Ev

open PySem PySem.W PySem.Calls PyProof.Rows
theorem PySem.Challenge.cw_leastequal_k05_terms_put_in_holds : PySem.Challenge.rw_leastequal_k05_terms_put_in.Holds := by
  w_on; o_law
  refine HandSHeadRun.head_any (r := OpenLaw.row PySem.Challenge.rw_leastequal_k05_terms_put_in) (q := view (OpenLaw.row PySem.Challenge.rw_leastequal_k05_terms_put_in).prog [49]) (H := Ev.hk) (ob := Ev.ob) (M := 20000) (loose := Ev.loose) (d := HandSHeadRun.topDef (OpenLaw.row PySem.Challenge.rw_leastequal_k05_terms_put_in).prog 49) (kwd := []) Ev.ob_eq
    (by kernel_rfl) (fun s => by kernel_rfl) Ev.run_top (by kernel_rfl) (by kernel_rfl) (by kernel_rfl) (by rfl) (by first | assumption | decide +kernel) (by decide +kernel) ⟨rfl, rfl, rfl, rfl, rfl, by decide +kernel⟩ ?hw ?hc
  case hw => w_witness2
  case hc =>
    refine Ev.end_ofB (l := PySem.Challenge.rw_leastequal_k05_terms_put_in) (n := 63) (k := 52) (y := "_law_script") (F := Ev.f_law) rfl (by decide) (by kernel_rfl) ⟨rfl, by decide, by decide⟩ ?F Ev.run_law
    intro w mg fv h Y G hmg0
    have hmg : mg ("law" : PySem.Str) = some (.ref fv) := by
      have e : (HandSHeadRun.topDef (OpenLaw.row PySem.Challenge.rw_leastequal_k05_terms_put_in).prog 49).name = ("law" : PySem.Str) := by kernel_rfl
      rw [← e]
      exact hmg0
    obtain ⟨K, ca, fd, cs, tb, a, b, c, d, e⟩ := Ev.facts_of w mg fv h Y G hmg
    exact ⟨K, ca, fd, cs, tb, a, b, c, d, fun base x y z => e _ base x y z⟩
