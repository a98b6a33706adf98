import PyProof.Rows.All
import Wide.All
import OpenK.AllK
import Wide.FinOn
import HandS.ForMost
import HandS.IsInst
import HandS.TupAny
import HandS.Zip
import HandS.TupMul
import HandS.Style
import HandS.More
import HandS.Conv
import HandS.Iter
import HandS.Comp
import HandS.DictComp
import HandS.Codes
import HandS.ReCall
import HandS.ListItems
import KE.KDictList
import HandS.SortInts
import HandS.SetFor
import HandS.Strs
import HandS.SetKeys
import HandS.HeadHook3
import HandS.HeadEnd
import HandS.Head2
import PySem.Challenge.RW_sayingsdown_k03_whole_unfolding
set_option Elab.async false
set_option linter.all false
set_option maxRecDepth 100000
set_option maxHeartbeats 4000000
namespace Y
open PySem PySem.Spec L2

/-- a value as data: tuples by what they hold; an object that may change, by its address -/
inductive D where
  | non
  | bl (b : Bool)
  | int (i : Int)
  | str (s : String)
  | tup (xs : List D)
  | loc (a : Addr)
  /-- the law's script, that nothing changes -/
  | scr (ns : List Int)

/-- an object that may change -/
inductive MO where
  | lst (xs : List D)
  | dct (kvs : List (D × D))
  /-- a dict while it is walked -/
  | frz (kvs : List (D × D))

abbrev Store := Addr → Option MO
def Store.upd (S : Store) (a : Addr) (o : MO) : Store := fun b => if b = a then some o else S b
theorem Store.upd_same {S : Store} {a : Addr} {o : MO} : S.upd a o a = some o := if_pos rfl
theorem Store.upd_ne {S : Store} {a b : Addr} {o : MO} (h : b ≠ a) : S.upd a o b = S b := if_neg h
theorem Store.upd_upd {S : Store} {a : Addr} {o u : MO} : (S.upd a o).upd a u = S.upd a u := by
  funext b; unfold Store.upd; split <;> rfl
theorem Store.upd_none {S : Store} {a b : Addr} {o : MO} : S.upd a o b = none ↔ b ≠ a ∧ S b = none := by
  unfold Store.upd
  by_cases h : b = a <;> simp [h]
theorem Store.ne {S : Store} {a b : Addr} {o : MO} (h : S a = some o) (n : S b = none) : a ≠ b := by
  rintro rfl; rw [h] at n; cases n

/-- a list of ints that nothing changes -/
def Scr (K : PySem.W.Frag) (H : Hp) (a : Addr) (ns : List Int) : Prop := (∃ o, H a = some (.frz o (.lst (ns.map V.int)))) ∨
  ∃ (o : Obj) (its : Array Value) (n : Nat), K.lookup a = some o ∧ o.cls = .type "list" ∧ o.dict = none ∧ o.data = .seq its n ∧ its.size ≤ sizeLine ∧ Vals (ns.map V.int) its.toList
mutual
/-- the value v is the datum d -/
inductive DV (K : PySem.W.Frag) (H : Hp) : V → D → Prop
  | non : DV K H .non .non
  | bl (b : Bool) : DV K H (.bl b) (.bl b)
  | int (i : Int) : DV K H (.int i) (.int i)
  | str (s : String) : DV K H (.str (Str.ofString s)) (.str s)
  | tup {a : Addr} {xs : List V} {ds : List D} : SqT K H a xs → DVs K H xs ds → DV K H (.ref a) (.tup ds)
  | loc (a : Addr) : DV K H (.ref a) (.loc a)
  | scr {a : Addr} {ns : List Int} : Scr K H a ns → DV K H (.ref a) (.scr ns)
inductive DVs (K : PySem.W.Frag) (H : Hp) : List V → List D → Prop
  | nil : DVs K H [] []
  | cons {x : V} {d : D} {xs : List V} {ds : List D} : DV K H x d → DVs K H xs ds → DVs K H (x :: xs) (d :: ds)
end

/-- keys of a dict with int and text keys -/
def keyD : Key → D → Prop
  | .inl i, d => d = .int i
  | .inr x, d => ∃ s, d = .str s ∧ x = Str.ofString s
def EntD (K : PySem.W.Frag) (H : Hp) (p : Key × V) (q : D × D) : Prop := keyD p.1 q.1 ∧ DV K H p.2 q.2

/-- the object that stands at a is the one told -/
def MOk (K : PySem.W.Frag) (H : Hp) (a : Addr) : MO → Prop
  | .lst ds => ∃ xs, H a = some (.lst xs) ∧ DVs K H xs ds
  | .dct kvs => ∃ ps, H a = some (.dK ps) ∧ Paired (EntD K H) ps kvs
  | .frz kvs => ∃ o ps, H a = some (.frz o (.dK ps)) ∧ Paired (EntD K H) ps kvs

def SRel (K : PySem.W.Frag) (H : Hp) (S : Store) : Prop := ∀ a o, S a = some o → MOk K H a o
/-- what is not known is kept -/
structure Frame (H : Hp) (S : Store) (H' : Hp) (S' : Store) : Prop where
  un : ∀ b o, H b = some o → S b = none → H' b = some o ∧ S' b = none
  tup : ∀ a xs, Rd H a (.tup xs) → Rd H' a (.tup xs)
  scr : ∀ a o u, H a = some (.frz o u) → H' a = some (.frz o u)
def SlotR (K : PySem.W.Frag) (H : Hp) (σV : St) (σ : List (Option D)) : Prop := σV.length = σ.length ∧ ∀ (i : Nat) (d : D), σ[i]? = some (some d) → ∃ v, σV[i]? = some (some v) ∧ DV K H v d

theorem Frame.refl {H : Hp} {S : Store} : Frame H S H S := ⟨fun _ _ h n => ⟨h, n⟩, fun _ _ h => h, fun _ _ _ h => h⟩
theorem Frame.trans {H H1 H2 : Hp} {S S1 S2 : Store} (a : Frame H S H1 S1) (b : Frame H1 S1 H2 S2) : Frame H S H2 S2 :=
  ⟨fun c o h n => let ⟨h1, n1⟩ := a.un c o h n; b.un c o h1 n1, fun c xs h => b.tup c xs (a.tup c xs h), fun c o xs h => b.scr c o xs (a.scr c o xs h)⟩

section
variable {K : PySem.W.Frag} {H H' : Hp} {S S' : Store}
/-- the values stay -/
structure Stay (H H' : Hp) : Prop where
  tup : ∀ a xs, Rd H a (.tup xs) → Rd H' a (.tup xs)
  scr : ∀ a o xs, H a = some (.frz o (.lst xs)) → H' a = some (.frz o (.lst xs))
theorem Frame.stay (f : Frame H S H' S') : Stay H H' := ⟨f.tup, fun a o xs h => f.scr a o _ h⟩
theorem Stay.sqT (f : Stay H H') {a : Addr} {xs : List V} (h : SqT K H a xs) : SqT K H' a xs := by
  rcases h with h | h
  · exact .inl (f.tup _ _ h)
  · exact .inr h
theorem Stay.scr' (f : Stay H H') {a : Addr} {ns : List Int} (h : Scr K H a ns) : Scr K H' a ns := by
  rcases h with ⟨o, h⟩ | h
  · exact .inl ⟨o, f.scr _ _ _ h⟩
  · exact .inr h
mutual
theorem DV.mono (f : Stay H H') : ∀ {v : V} {d : D}, DV K H v d → DV K H' v d
  | _, _, .non => .non
  | _, _, .bl b => .bl b
  | _, _, .int i => .int i
  | _, _, .str s => .str s
  | _, _, .tup h r => .tup (f.sqT h) (DVs.mono f r)
  | _, _, .loc a => .loc a
  | _, _, .scr h => .scr (f.scr' h)
theorem DVs.mono (f : Stay H H') : ∀ {v : List V} {d : List D}, DVs K H v d → DVs K H' v d
  | _, _, .nil => .nil
  | _, _, .cons h r => .cons (DV.mono f h) (DVs.mono f r)
end
theorem DVs.length : ∀ {v : List V} {d : List D}, DVs K H v d → v.length = d.length
  | _, _, .nil => rfl
  | _, _, .cons _ r => by rw [List.length_cons, List.length_cons, DVs.length r]
theorem DVs.get : ∀ {v : List V} {d : List D} {i : Nat} {x : D}, DVs K H v d → d[i]? = some x → ∃ y, v[i]? = some y ∧ DV K H y x
  | _, _, 0, _, .cons h _, e => by cases e; exact ⟨_, rfl, h⟩
  | _, _, i + 1, _, .cons _ r, e => by
    obtain ⟨y, h1, h2⟩ := DVs.get (i := i) r (by simpa using e)
    exact ⟨y, by simpa using h1, h2⟩
  | _, _, _, _, .nil, e => by simp at e
theorem DVs.get' : ∀ {v : List V} {d : List D} {i : Nat} {y : V}, DVs K H v d → v[i]? = some y → ∃ x, d[i]? = some x ∧ DV K H y x
  | _, _, 0, _, .cons h _, e => by cases e; exact ⟨_, rfl, h⟩
  | _, _, i + 1, _, .cons _ r, e => by
    obtain ⟨y, h1, h2⟩ := DVs.get' (i := i) r (by simpa using e)
    exact ⟨y, by simpa using h1, h2⟩
  | _, _, _, _, .nil, e => by simp at e
theorem DVs.append : ∀ {v w : List V} {d e : List D}, DVs K H v d → DVs K H w e → DVs K H (v ++ w) (d ++ e)
  | _, _, _, _, .nil, s => s
  | _, _, _, _, .cons h r, s => .cons h (DVs.append r s)
theorem DVs.take : ∀ {v : List V} {d : List D} (n : Nat), DVs K H v d → DVs K H (v.take n) (d.take n)
  | _, _, 0, _ => .nil
  | _, _, _ + 1, .nil => .nil
  | _, _, n + 1, .cons h r => .cons h (DVs.take n r)
theorem DVs.drop : ∀ {v : List V} {d : List D} (n : Nat), DVs K H v d → DVs K H (v.drop n) (d.drop n)
  | _, _, 0, r => r
  | _, _, _ + 1, .nil => .nil
  | _, _, n + 1, .cons _ r => DVs.drop n r
theorem DVs.set : ∀ {v : List V} {d : List D} (n : Nat) {x : V} {y : D}, DV K H x y → DVs K H v d → DVs K H (v.set n x) (d.set n y)
  | _, _, _, _, _, _, .nil => .nil
  | _, _, 0, _, _, q, .cons h r => .cons q r
  | _, _, n + 1, _, _, q, .cons h r => .cons h (DVs.set n q r)
theorem DVs.reverse {v : List V} {d : List D} (h : DVs K H v d) : DVs K H v.reverse d.reverse := by
  induction v generalizing d with
  | nil => cases h; exact .nil
  | cons x xs ih =>
    cases h with
    | cons h r =>
      rw [List.reverse_cons, List.reverse_cons]
      exact (ih r).append (.cons h .nil)
theorem DVs.dropLast : ∀ {v : List V} {d : List D}, DVs K H v d → DVs K H v.dropLast d.dropLast
  | _, _, .nil => .nil
  | _, _, .cons h .nil => .nil
  | _, _, .cons h (.cons h2 r) => by
    rw [List.dropLast_cons₂, List.dropLast_cons₂]
    exact .cons h (DVs.dropLast (.cons h2 r))
theorem EntD.mono (f : Stay H H') {p : Key × V} {q : D × D} (h : EntD K H p q) : EntD K H' p q := ⟨h.1, DV.mono f h.2⟩
/-- a datum stays what it is -/
theorem Frame.dv (f : Frame H S H' S') {v : V} {d : D} (h : DV K H v d) : DV K H' v d := DV.mono f.stay h
theorem Frame.dvs (f : Frame H S H' S') {v : List V} {d : List D} (h : DVs K H v d) : DVs K H' v d := DVs.mono f.stay h
theorem SlotR.mono (f : Stay H H') {σV : St} {σ : List (Option D)} (h : SlotR K H σV σ) : SlotR K H' σV σ :=
  ⟨h.1, fun i d e => let ⟨v, e2, x⟩ := h.2 i d e; ⟨v, e2, DV.mono f x⟩⟩
theorem Frame.slot (f : Frame H S H' S') {σV : St} {σ : List (Option D)} (h : SlotR K H σV σ) : SlotR K H' σV σ := h.mono f.stay
/-- an object is kept -/
theorem MOk.keep {a : Addr} {o : MO} (m : MOk K H a o) (e : ∀ x, H a = some x → H' a = some x) (f : Stay H H') : MOk K H' a o := by
  cases o with
  | lst ds => obtain ⟨xs, h, r⟩ := m; exact ⟨xs, e _ h, DVs.mono f r⟩
  | dct kvs => obtain ⟨ps, h, r⟩ := m; exact ⟨ps, e _ h, L2.Paired.mapP r fun _ _ x => x.mono f⟩
  | frz kvs => obtain ⟨ob, ps, h, r⟩ := m; exact ⟨ob, ps, e _ h, L2.Paired.mapP r fun _ _ x => x.mono f⟩
theorem MOk.some {a : Addr} {o : MO} (m : MOk K H a o) : ∃ x, H a = some x ∧ (∀ ys, x ≠ .tup ys ∧ ∀ ob, x ≠ .frz ob (.tup ys)) ∧ ∀ ob ys, x ≠ .frz ob (.lst ys) := by
  cases o with
  | lst ds => obtain ⟨xs, h, _⟩ := m; exact ⟨_, h, fun ys => ⟨fun z => (by cases z), fun _ z => (by cases z)⟩, fun _ _ z => (by cases z)⟩
  | dct kvs => obtain ⟨ps, h, _⟩ := m; exact ⟨_, h, fun ys => ⟨fun z => (by cases z), fun _ z => (by cases z)⟩, fun _ _ z => (by cases z)⟩
  | frz kvs => obtain ⟨ob, ps, h, _⟩ := m; exact ⟨_, h, fun ys => ⟨fun z => (by cases z), fun _ z => (by cases z)⟩, fun _ _ z => (by cases z)⟩
theorem SRel.fresh (r : SRel K H S) {p : Addr} (h : H p = none) : S p = none := by
  cases e : S p with
  | none => rfl
  | some o =>
    obtain ⟨x, e2, _⟩ := (r p o e).some
    rw [h] at e2; cases e2
theorem stay_new {p : Addr} {o : HO} (h : H p = none) : Stay H (L2.upd H p o) :=
  ⟨fun a xs q => by
    rcases q with q | ⟨ob, q⟩
    · exact .inl (by rw [L2.upd_ne (ne_of_none q h)]; exact q)
    · exact .inr ⟨ob, by rw [L2.upd_ne (ne_of_none q h)]; exact q⟩, fun a ob xs q => by rw [L2.upd_ne (ne_of_none q h)]; exact q⟩
theorem fz_new {p : Addr} {o : HO} (h : H p = none) : ∀ a ob u, H a = some (.frz ob u) → L2.upd H p o a = some (.frz ob u) := fun a ob u q => by rw [L2.upd_ne (ne_of_none q h)]; exact q
/-- a new tuple -/
theorem frame_tup {p : Addr} {o : HO} (h : H p = none) : Frame H S (L2.upd H p o) S :=
  ⟨fun b ob q n => ⟨by rw [L2.upd_ne (ne_of_none q h)]; exact q, n⟩, (stay_new h).tup, fz_new h⟩
theorem srel_tup {p : Addr} {o : HO} (r : SRel K H S) (h : H p = none) : SRel K (L2.upd H p o) S := fun a ob e =>
  (r a ob e).keep (fun x q => by rw [L2.upd_ne (ne_of_none q h)]; exact q) (stay_new h)
/-- a new object that may change -/
theorem frame_new {p : Addr} {o : HO} {mo : MO} (h : H p = none) : Frame H S (L2.upd H p o) (S.upd p mo) :=
  ⟨fun b ob q n => ⟨by rw [L2.upd_ne (ne_of_none q h)]; exact q, by rw [Store.upd_ne (ne_of_none q h)]; exact n⟩, (stay_new h).tup, fz_new h⟩
theorem srel_new {p : Addr} {o : HO} {mo : MO} (r : SRel K H S) (h : H p = none) (m : MOk K (L2.upd H p o) p mo) : SRel K (L2.upd H p o) (S.upd p mo) := fun a ob e => by
  by_cases q : a = p
  · subst q
    rw [Store.upd_same] at e
    cases e
    exact m
  · rw [Store.upd_ne q] at e
    exact (r a ob e).keep (fun x q => by rw [L2.upd_ne (ne_of_none q h)]; exact q) (stay_new h)
def MO.live : MO → Bool
  | .frz _ => false
  | _ => true
theorem MOk.live {a : Addr} {o : MO} (m : MOk K H a o) (l : o.live = true) : ∃ x : HO, H a = Option.some x ∧ (∀ ys, x ≠ .tup ys) ∧ ∀ ob u, x ≠ .frz ob u := by
  cases o with
  | lst ds => obtain ⟨xs, h, _⟩ := m; exact ⟨_, h, fun ys z => (by cases z), fun _ _ z => (by cases z)⟩
  | dct kvs => obtain ⟨ps, h, _⟩ := m; exact ⟨_, h, fun ys z => (by cases z), fun _ _ z => (by cases z)⟩
  | frz kvs => cases l
theorem fz_set {p : Addr} {o : HO} {mo : MO} (r : SRel K H S) (h : S p = some mo) (l : mo.live = true) : ∀ a ob u, H a = some (.frz ob u) → L2.upd H p o a = some (.frz ob u) := fun a ob u q => by
  obtain ⟨x, e, n1, n2⟩ := (r p mo h).live l
  rw [L2.upd_ne (fun z => by subst z; rw [e] at q; exact n2 _ _ (Option.some.inj q))]
  exact q
theorem stay_set {p : Addr} {o : HO} {mo : MO} (r : SRel K H S) (h : S p = some mo) (l : mo.live = true := by rfl) : Stay H (L2.upd H p o) := by
  obtain ⟨x, e, n1, n2⟩ := (r p mo h).live l
  refine ⟨fun a xs q => ?_, fun a ob u q => fz_set r h l a ob _ q⟩
  · rcases q with q | ⟨ob, q⟩
    · exact .inl (by rw [L2.upd_ne (fun z => by subst z; rw [e] at q; exact n1 xs (Option.some.inj q))]; exact q)
    · exact .inr ⟨ob, by rw [L2.upd_ne (fun z => by subst z; rw [e] at q; exact n2 ob _ (Option.some.inj q))]; exact q⟩
/-- an object is changed -/
theorem frame_set {p : Addr} {o : HO} {mo mo' : MO} (r : SRel K H S) (h : S p = some mo) (l : mo.live = true := by rfl) : Frame H S (L2.upd H p o) (S.upd p mo') :=
  ⟨fun b ob q n => by
    have ne : b ≠ p := fun z => by subst z; rw [h] at n; cases n
    exact ⟨by rw [L2.upd_ne ne]; exact q, by rw [Store.upd_ne ne]; exact n⟩, (stay_set (o := o) r h l).tup, fz_set r h l⟩
theorem srel_set {p : Addr} {o : HO} {mo mo' : MO} (r : SRel K H S) (h : S p = some mo) (m : MOk K (L2.upd H p o) p mo') (l : mo.live = true := by rfl) : SRel K (L2.upd H p o) (S.upd p mo') := fun a ob e => by
  by_cases q : a = p
  · subst q
    rw [Store.upd_same] at e
    cases e
    exact m
  · rw [Store.upd_ne q] at e
    exact (r a ob e).keep (fun x z => by rw [L2.upd_ne q]; exact z) (stay_set r h l)
/-- knowing less -/
def Le (S S' : Store) : Prop := ∀ a o, S a = some o → S' a = some o
theorem Le.refl : Le S S := fun _ _ h => h
theorem Le.trans {S S' S'' : Store} (a : Le S S') (b : Le S' S'') : Le S S'' := fun c o h => b c o (a c o h)
theorem Le.new {p : Addr} {o : MO} (h : S p = none) : Le S (S.upd p o) := fun a ob e => by
  rw [Store.upd_ne (Store.ne e h)]; exact e
theorem Le.none (l : Le S S') {a : Addr} (h : S' a = none) : S a = none := by
  cases e : S a with
  | none => rfl
  | some o => rw [l a o e] at h; cases h
theorem SRel.less (r : SRel K H S') (l : Le S S') : SRel K H S := fun a o e => r a o (l a o e)
theorem Frame.less {S'' : Store} (f : Frame H S H' S') (l : Le S'' S') : Frame H S H' S'' :=
  ⟨fun b o h n => let ⟨h1, n1⟩ := f.un b o h n; ⟨h1, l.none n1⟩, f.tup, f.scr⟩
end
end Y

namespace Y
open PySem PySem.Spec L2

/-! ### data: equality, what is plain -/
mutual
def D.beq : D → D → Bool
  | .non, .non => true
  | .bl a, .bl b => a == b
  | .int a, .int b => a == b
  | .str a, .str b => a == b
  | .tup a, .tup b => D.beqs a b
  | .loc a, .loc b => a == b
  | .scr a, .scr b => a == b
  | _, _ => false
def D.beqs : List D → List D → Bool
  | [], [] => true
  | a :: as, b :: bs => D.beq a b && D.beqs as bs
  | _, _ => false
end
mutual
theorem D.beq_self : ∀ a : D, D.beq a a = true
  | .non => rfl
  | .bl a => by simp [D.beq]
  | .int a => by simp [D.beq]
  | .str a => by simp [D.beq]
  | .tup a => by rw [D.beq]; exact D.beqs_self a
  | .loc a => by simp [D.beq]
  | .scr a => by simp [D.beq]
theorem D.beqs_self : ∀ a : List D, D.beqs a a = true
  | [] => rfl
  | a :: as => by rw [D.beqs, D.beq_self a, D.beqs_self as]; rfl
end
mutual
theorem D.eq_of_beq : ∀ a b : D, D.beq a b = true → a = b
  | .non, b, h => by cases b <;> simp_all [D.beq]
  | .bl a, b, h => by cases b <;> simp_all [D.beq]
  | .int a, b, h => by cases b <;> simp_all [D.beq]
  | .str a, b, h => by cases b <;> simp_all [D.beq]
  | .tup a, b, h => by
    cases b with
    | tup b => rw [D.beq] at h; rw [D.eq_of_beqs a b h]
    | _ => simp [D.beq] at h
  | .loc a, b, h => by cases b <;> simp_all [D.beq]
  | .scr a, b, h => by cases b <;> simp_all [D.beq]
theorem D.eq_of_beqs : ∀ a b : List D, D.beqs a b = true → a = b
  | [], [], _ => rfl
  | [], _ :: _, h => by simp [D.beqs] at h
  | _ :: _, [], h => by simp [D.beqs] at h
  | a :: as, b :: bs, h => by
    rw [D.beqs, Bool.and_eq_true] at h
    rw [D.eq_of_beq a b h.1, D.eq_of_beqs as bs h.2]
end
instance : DecidableEq D := fun a b => if h : D.beq a b = true then .isTrue (D.eq_of_beq a b h) else .isFalse fun e => h (e ▸ D.beq_self a)

/-! python's == on data without objects that change -/
mutual
def eqd : D → D → Bool
  | .non, .non => true
  | .bl a, .bl b => a == b
  | .bl a, .int j => (if a then 1 else 0) == j
  | .int i, .bl b => i == (if b then 1 else 0)
  | .int i, .int j => i == j
  | .str x, .str y => x == y
  | .tup xs, .tup ys => eqds xs ys
  | _, _ => false
def eqds : List D → List D → Bool
  | [], [] => true
  | x :: xs, y :: ys => eqd x y && eqds xs ys
  | _, _ => false
end
mutual
/-- no object that may change within, and no deeper than n -/
def D.pl : Nat → D → Bool
  | _, .non => true
  | _, .bl _ => true
  | _, .int _ => true
  | _, .str _ => true
  | 0, .tup _ => false
  | n + 1, .tup xs => D.pls n xs
  | _, .loc _ => false
  | _, .scr _ => false
def D.pls : Nat → List D → Bool
  | _, [] => true
  | n, x :: xs => D.pl n x && D.pls n xs
end

/-! ### the texts, without positions -/
inductive BOp where
  | add | sub | mul | fdiv | mod
  deriving DecidableEq
inductive COp where
  | eq | ne | lt | le | gt | ge | isn | notn | inn | notin
  deriving DecidableEq
inductive Ty where
  | int | bool | str | tuple | list
  deriving DecidableEq
inductive Bi where
  | len | int | list | tuple | dict | max | max2 | sum | any | all | repr | str | sorted | sortset | lenset | listvals | listrange | tuprange
  deriving DecidableEq
inductive Mt where
  | append | extend | pop | pop0 | get | setdefault | update | index
  deriving DecidableEq
/-- a target of names -/
inductive Tg where
  | one (i : Nat)
  | many (is : List Nat)
  deriving DecidableEq
mutual
inductive E where
  | var (i : Nat)
  | non | bl (b : Bool) | int (i : Int) | str (s : String)
  | gv (x : String)
  | tup (es : List E) | lst (es : List E)
  | op (o : BOp) (a b : E) | neg (a : E)
  | cmp (o : COp) (a b : E) | cmp2 (o o' : COp) (a b c : E)
  | bop (k : Bool) (es : List E) | not (a : E) | ite (c a b : E)
  | sub (a i : E) | slc (a : E) (lo hi : Option E) | rev (a : E)
  | isi (a : E) (t : Ty)
  | call (f : String) (es : List E)
  | bi (f : Bi) (es : List E)
  | mt (m : Mt) (o : E) (es : List E)
  | lc (own : List Nat) (tg : Tg) (src : Src) (c : Option E) (e : E)
  | dc (own : List Nat) (tg : Tg) (src : Src) (c : Option E) (k v : E)
  /-- the keys and the values, one after the other -/
  | dsp (es : List E)
inductive Src where
  /-- a list or a tuple -/
  | seq (e : E)
  | range (e : E)
  /-- the keys of the dict at a name -/
  | keys (i : Nat)
  /-- the keys of a dict of the module -/
  | gkeys (x : String)
  | zip (a b : E)
end
inductive T where
  | name (g : Tg)
  | sub (o i : E)
inductive S where
  | asg (t : T) (e : E)
  | aug (i : Nat) (o : BOp) (e : E)
  | augS (o i : E) (op : BOp) (e : E)
  | ex (e : E)
  | ret (e : E)
  | ife (c : E) (a b : List S)
  | whl (c : E) (b : List S)
  | frr (tg : Tg) (src : Src) (b : List S)
  | pass

abbrev DSt := List (Option D)
abbrev DVK := D → Store → Prop
abbrev DTE := DSt → Store → DVK → Prop
abbrev SpD := List D → Store → DVK → Prop
structure Ends where
  nx : DSt → Store → Prop
  rt : DVK
/-- what a text's names mean: the module's defs by what they promise, its constants, its dicts -/
structure G where
  fn : String → SpD
  gv : String → Option D
  gd : String → Option (List (String × D))

def D.isInt : D → Bool
  | .int _ => true | .bl _ => true | _ => false
/-- isinstance, of what is no object that may change -/
def isiV : D → Ty → Option Bool
  | .non, _ => some false
  | .bl _, t => some (t == .int || t == .bool)
  | .int _, t => some (t == .int)
  | .str _, t => some (t == .str)
  | .tup _, t => some (t == .tuple)
  | _, _ => none
def isiO : MO → Ty → Option Bool
  | .lst _, t => some (t == .list)
  | .dct _, _ => some false
  | .frz _, _ => none
def isiW (x : D) (t : Ty) (S : Store) (R : Bool → Store → Prop) : Prop := match x with
  | .loc a => ∃ o b, S a = some o ∧ isiO o t = some b ∧ R b S
  | x => ∃ b, isiV x t = some b ∧ R b S
/-- the item at a place, from either end -/
def atD {α : Type} (xs : List α) (i : Int) : Option α := L2.atI xs i
def lookD (kvs : List (D × D)) (k : D) : Option D := match kvs with
  | [] => none
  | (k', v) :: r => if k' = k then some v else lookD r k
def putD (kvs : List (D × D)) (k v : D) : List (D × D) := match kvs with
  | [] => [(k, v)]
  | (k', v') :: r => if k' = k then (k', v) :: r else (k', v') :: putD r k v
/-- a key of a dict: an int or a text -/
def keyOk : D → Bool
  | .int _ => true
  | .str _ => true
  | _ => false
def boolsD : List D → Option (List Bool)
  | [] => some []
  | .bl b :: r => (boolsD r).map (b :: ·)
  | _ => none
def intsD : List D → Option (List Int)
  | [] => some []
  | .int b :: r => (intsD r).map (b :: ·)
  | _ => none
def pairsD : List D → Option (List (D × D))
  | [] => some []
  | .tup [k, v] :: r => if keyOk k then (pairsD r).map ((k, v) :: ·) else none
  | _ => none
def strs? : List D → Option (List String)
  | [] => some []
  | .str s :: r => (strs? r).map (s :: ·)
  | _ => none

section
variable (S : Store)
/-- what an expression's list or tuple holds, a list by its address -/
def seqD : D → Option (List D)
  | .tup xs => some xs
  | .loc a => match S a with
    | some (.lst xs) => some xs
    | _ => none
  | _ => none
def lstD : D → Option (List D)
  | .loc a => match S a with
    | some (.lst xs) => some xs
    | _ => none
  | _ => none
def dctD : D → Option (List (D × D))
  | .loc a => match S a with
    | some (.dct xs) => some xs
    | some (.frz xs) => some xs
    | _ => none
  | _ => none
end

/-- an object by its address -/
def atLoc (g : MO → Store → DVK → Prop) (x : D) (S : Store) (R : DVK) : Prop := match x with
  | .loc a => ∃ o, S a = some o ∧ g o S R
  | _ => False
/-- a new object -/
def newW (o : MO) (S : Store) (R : DVK) : Prop := ∀ p, S p = none → R (.loc p) (S.upd p o)
def intOp (g : Int → Int → Store → DVK → Prop) (x y : D) (S : Store) (R : DVK) : Prop := match x with
  | .int i => (match y with
    | .int j => g i j S R
    | _ => False)
  | _ => False
def addO (i : List D) (o : MO) (S : Store) (R : DVK) : Prop := match o with
  | .lst j => i.length + j.length ≤ sizeLine ∧ newW (.lst (i ++ j)) S R
  | _ => False
def addL (y : D) (o : MO) (S : Store) (R : DVK) : Prop := match o with
  | .lst i => atLoc (addO i) y S R
  | _ => False
def addW (x y : D) (S : Store) (R : DVK) : Prop := match x with
  | .int i => (match y with
    | .int j => R (.int (i + j)) S
    | _ => False)
  | .str i => (match y with
    | .str j => i.length + j.length ≤ 1000000 ∧ R (.str (i ++ j)) S
    | _ => False)
  | .tup i => (match y with
    | .tup j => i.length + j.length ≤ sizeLine ∧ R (.tup (i ++ j)) S
    | _ => False)
  | .loc a => atLoc (addL y) (.loc a) S R
  | _ => False
/-- a list, a tuple so many times -/
def timesD (k : Int) (xs : List D) : List D := (List.replicate k.toNat xs).flatten
def mulL (k : Int) (o : MO) (S : Store) (R : DVK) : Prop := match o with
  | .lst xs => (-1000000 ≤ k ∧ k ≤ 1000000) ∧ xs.length * k.toNat ≤ sizeLine ∧ newW (.lst (timesD k xs)) S R
  | _ => False
def mulW (x y : D) (S : Store) (R : DVK) : Prop := match x with
  | .int i => (match y with
    | .int j => CMul i j ∧ R (.int (i * j)) S
    | _ => False)
  | .loc a => (match y with
    | .int k => atLoc (mulL k) (.loc a) S R
    | _ => False)
  | .tup xs => (match y with
    | .int k => xs ≠ [] ∧ (1 ≤ k ∧ k ≤ 1000) ∧ xs.length ≤ 1000 ∧ R (.tup (timesD k xs)) S
    | _ => False)
  | _ => False
def opW (o : BOp) : D → D → Store → DVK → Prop := match o with
  | .add => addW
  | .sub => intOp fun i j S R => R (.int (i - j)) S
  | .mul => mulW
  | .fdiv => intOp fun i j S R => (0 < j ∧ j < 1073741824) ∧ R (.int (i / j)) S
  | .mod => intOp fun i j S R => 0 < j ∧ R (.int (i % j)) S
/-- op= at a name: ints, texts -/
def augAddW (x y : D) (S : Store) (R : DVK) : Prop := match x with
  | .int i => (match y with
    | .int j => R (.int (i + j)) S
    | _ => False)
  | .str i => (match y with
    | .str j => i.length + j.length ≤ 1000000 ∧ R (.str (i ++ j)) S
    | _ => False)
  | _ => False
def augW (o : BOp) : D → D → Store → DVK → Prop := match o with
  | .add => augAddW
  | .sub => intOp fun i j S R => R (.int (i - j)) S
  | _ => fun _ _ _ _ => False
def cmpI (g : Int → Int → Bool) (x y : D) (S : Store) (R : Bool → Store → Prop) : Prop := match x with
  | .int i => (match y with
    | .int j => R (g i j) S
    | _ => False)
  | _ => False
def isNonW (f : Bool → Bool) (x y : D) (S : Store) (R : Bool → Store → Prop) : Prop := match y with
  | .non => R (f (decide (x = .non))) S
  | _ => False
/-- == of two dicts of data -/
def eqKv (i j : List (D × D)) : Bool := decide (i.length = j.length) && i.all fun kv => match lookD j kv.1 with
  | some v => eqd kv.2 v
  | none => false
def vPl (i : List (D × D)) : Bool := i.all fun kv => D.pl 100 kv.2
/-- == where a list, a dict stands to the left -/
def eqO (x : MO) (y : D) (S : Store) (R : Bool → Store → Prop) : Prop := match x with
  | .dct i => (match y with
    | .loc b => ∃ j, S b = some (.dct j) ∧ vPl i = true ∧ vPl j = true ∧ R (eqKv i j) S
    | .non => R false S
    | _ => False)
  | .lst i => (match y with
    | .loc b => ∃ j, S b = some (.lst j) ∧ D.pls 100 i = true ∧ D.pls 100 j = true ∧ R (eqds i j) S
    | y => D.pls 100 i = true ∧ D.pl 100 y = true ∧ R false S)
  | _ => False
/-- == as a Bool: data, or two lists of data -/
def eqW (x y : D) (S : Store) (R : Bool → Store → Prop) : Prop := match x with
  | .loc a => ∃ o, S a = some o ∧ eqO o y S R
  | x => D.pl 100 x = true ∧ D.pl 100 y = true ∧ R (eqd x y) S
def inO (x : D) (o : MO) (S : Store) (R : Bool → Store → Prop) : Prop := match o with
  | .lst ys => D.pl 100 x = true ∧ D.pls 100 ys = true ∧ R (ys.any fun z => eqd z x) S
  | .dct kvs => keyOk x = true ∧ R (lookD kvs x).isSome S
  | .frz kvs => keyOk x = true ∧ R (lookD kvs x).isSome S
def inW (x y : D) (S : Store) (R : Bool → Store → Prop) : Prop := match y with
  | .tup ys => D.pl 100 x = true ∧ D.pls 100 ys = true ∧ R (ys.any fun z => eqd z x) S
  | .loc a => ∃ o, S a = some o ∧ inO x o S R
  | _ => False
def cmpW (o : COp) : D → D → Store → (Bool → Store → Prop) → Prop := match o with
  | .eq => eqW
  | .ne => fun x y S R => eqW x y S fun b S' => R (!b) S'
  | .lt => cmpI fun i j => decide (i < j)
  | .le => cmpI fun i j => decide (i ≤ j)
  | .gt => cmpI fun i j => decide (j < i)
  | .ge => cmpI fun i j => decide (j ≤ i)
  | .isn => isNonW fun b => b
  | .notn => isNonW fun b => !b
  | .inn => inW
  | .notin => fun x y S R => inW x y S fun b S' => R (!b) S'
def idxW (xs : List D) (i : D) (S : Store) (R : DVK) : Prop := match i with
  | .int i => ∃ v, atD xs i = some v ∧ R v S
  | _ => False
def sgnW (s : String) (i : D) (S : Store) (R : DVK) : Prop := match i with
  | .int i => s.length ≤ 1000000 ∧ ∃ v, atD s.toList i = some v ∧ R (.str (String.ofList [v])) S
  | _ => False
def dgetW (kvs : List (D × D)) (k : D) (S : Store) (R : DVK) : Prop := keyOk k = true ∧ ∃ v, lookD kvs k = some v ∧ R v S
def subO (i : D) (o : MO) (S : Store) (R : DVK) : Prop := match o with
  | .lst xs => idxW xs i S R
  | .dct kvs => dgetW kvs i S R
  | .frz kvs => dgetW kvs i S R
/-- x[i] -/
def subW (x i : D) (S : Store) (R : DVK) : Prop := match x with
  | .tup xs => idxW xs i S R
  | .str s => sgnW s i S R
  | .loc a => atLoc (subO i) (.loc a) S R
  | _ => False
def cutD {α : Type} (xs : List α) (lo hi : Option Int) : List α := (xs.drop (HT.sIx xs.length 0 lo)).take (HT.sIx xs.length xs.length hi - HT.sIx xs.length 0 lo)
def slcO (lo hi : Option Int) (o : MO) (S : Store) (R : DVK) : Prop := match o with
  | .lst xs => newW (.lst (cutD xs lo hi)) S R
  | _ => False
def slcW (x : D) (lo hi : Option Int) (S : Store) (R : DVK) : Prop := match x with
  | .tup xs => R (.tup (cutD xs lo hi)) S
  | .str s => s.length ≤ 1000000 ∧ R (.str (String.ofList (cutD s.toList lo hi))) S
  | .loc a => atLoc (slcO lo hi) (.loc a) S R
  | .scr ns => newW (.lst (cutD (ns.map D.int) lo hi)) S R
  | _ => False
def revO (o : MO) (S : Store) (R : DVK) : Prop := match o with
  | .lst xs => newW (.lst xs.reverse) S R
  | _ => False
def revW (x : D) (S : Store) (R : DVK) : Prop := match x with
  | .loc a => atLoc revO (.loc a) S R
  | _ => False
def greatest : List Int → Int
  | [] => 0
  | [a] => a
  | a :: r => max a (greatest r)
/-- one argument, two -/
def one (g : D → Store → DVK → Prop) (xs : List D) (S : Store) (R : DVK) : Prop := match xs with
  | [x] => g x S R
  | _ => False
def two (g : D → D → Store → DVK → Prop) (xs : List D) (S : Store) (R : DVK) : Prop := match xs with
  | [x, y] => g x y S R
  | _ => False
def lenO (o : MO) (S : Store) (R : DVK) : Prop := match o with
  | .lst xs => R (.int xs.length) S
  | .dct xs => R (.int xs.length) S
  | .frz xs => R (.int xs.length) S
def lenW (x : D) (S : Store) (R : DVK) : Prop := match x with
  | .tup xs => R (.int xs.length) S
  | .str s => s.length ≤ 1000000 ∧ R (.int s.length) S
  | .loc a => atLoc lenO (.loc a) S R
  | _ => False
def intW (x : D) (S : Store) (R : DVK) : Prop := match x with
  | .int i => R (.int i) S
  | .bl b => R (.int (if b then 1 else 0)) S
  | _ => False
def listO (o : MO) (S : Store) (R : DVK) : Prop := match o with
  | .lst xs => newW (.lst xs) S R
  | .dct kvs => newW (.lst (kvs.map (·.1))) S R
  | _ => False
def listW (x : D) (S : Store) (R : DVK) : Prop := match x with
  | .tup xs => newW (.lst xs) S R
  | .scr ns => newW (.lst (ns.map D.int)) S R
  | .loc a => atLoc listO (.loc a) S R
  | _ => False
def tupO (o : MO) (S : Store) (R : DVK) : Prop := match o with
  | .lst xs => R (.tup xs) S
  | _ => False
def tupW (x : D) (S : Store) (R : DVK) : Prop := match x with
  | .tup xs => R (.tup xs) S
  | .loc a => atLoc tupO (.loc a) S R
  | _ => False
def mergeD (kvs more : List (D × D)) : List (D × D) := more.foldl (fun acc kv => putD acc kv.1 kv.2) kvs
def dictO (o : MO) (S : Store) (R : DVK) : Prop := match o with
  | .lst xs => ∃ kvs, pairsD xs = some kvs ∧ newW (.dct (mergeD [] kvs)) S R
  | .dct kvs => newW (.dct kvs) S R
  | _ => False
def intsO (g : List Int → Store → DVK → Prop) (o : MO) (S : Store) (R : DVK) : Prop := match o with
  | .lst xs => ∃ ns, intsD xs = some ns ∧ g ns S R
  | _ => False
def boolsO (g : List Bool → Store → DVK → Prop) (o : MO) (S : Store) (R : DVK) : Prop := match o with
  | .lst xs => ∃ ns, boolsD xs = some ns ∧ g ns S R
  | _ => False
def maxW (ns : List Int) (S : Store) (R : DVK) : Prop := ns ≠ [] ∧ R (.int (greatest ns)) S
def max2W (x y : D) (S : Store) (R : DVK) : Prop := match x with
  | .int i => (match y with
    | .int j => R (.int (max i j)) S
    | _ => False)
  | _ => False
def valsO (o : MO) (S : Store) (R : DVK) : Prop := match o with
  | .dct kvs => newW (.lst (kvs.map (·.2))) S R
  | _ => False
def rangeD (n : Nat) : List D := (List.range n).map fun i : Nat => D.int (i : Nat)
def lrangeW (x : D) (S : Store) (R : DVK) : Prop := match x with
  | .int n => (-1000000 ≤ n ∧ n ≤ 1000000) ∧ newW (.lst (rangeD n.toNat)) S R
  | _ => False
def trangeW (x : D) (S : Store) (R : DVK) : Prop := match x with
  | .int n => (-1000000 ≤ n ∧ n ≤ 1000000) ∧ R (.tup (rangeD n.toNat)) S
  | _ => False
/-- sorted(x), whole numbers -/
def sortedI (xs : List D) (S : Store) (R : DVK) : Prop := ∃ ns, intsD xs = some ns ∧ ∀ ns' : List Int, ns'.Perm ns → ns'.Pairwise (· ≤ ·) → newW (.lst (ns'.map D.int)) S R
def sortedO (o : MO) (S : Store) (R : DVK) : Prop := match o with
  | .lst xs => sortedI xs S R
  | _ => False
def sortedW (x : D) (S : Store) (R : DVK) : Prop := match x with
  | .tup xs => sortedI xs S R
  | .loc a => atLoc sortedO (.loc a) S R
  | _ => False
/-- sorted(set(x)), whole numbers -/
def sortsetI (xs : List D) (S : Store) (R : DVK) : Prop := ∃ ns, intsD xs = some ns ∧ ns.length ≤ 1000 ∧ (ns.length < 64 ∨ ∀ x ∈ ns, 0 ≤ x ∧ x < 63) ∧
  ∀ ns' : List Int, ns'.Pairwise (· < ·) → (∀ k, k ∈ ns' ↔ k ∈ ns) → newW (.lst (ns'.map D.int)) S R
def sortsetW (x : D) (S : Store) (R : DVK) : Prop := match x with
  | .tup xs => sortsetI xs S R
  | _ => False
mutual
def pyD : D → PyData
  | .non => .none
  | .bl b => .bool b
  | .int i => .int i
  | .str s => .str (Str.ofString s)
  | .tup xs => .tuple (pyDs xs)
  | .loc _ => .none
  | .scr _ => .none
def pyDs : List D → List PyData
  | [] => []
  | x :: xs => pyD x :: pyDs xs
end
mutual
/-- a value with its lists as the library's data -/
def pyV (S : Store) : D → PyData
  | .tup xs => .tuple (pyVs S xs)
  | .loc a => match S a with
    | some (.lst xs) => .list (pyDs xs)
    | _ => .none
  | .scr _ => .none
  | .non => .none
  | .bl b => .bool b
  | .int i => .int i
  | .str s => .str (Str.ofString s)
def pyVs (S : Store) : List D → List PyData
  | [] => []
  | x :: xs => pyV S x :: pyVs S xs
end
mutual
/-- a value whose lists hold plain data -/
def okV (S : Store) : D → Bool
  | .tup xs => okVs S xs
  | .loc a => match S a with
    | some (.lst xs) => D.pls 100 xs
    | _ => false
  | .scr _ => false
  | .non => true
  | .bl _ => true
  | .int _ => true
  | .str _ => true
def okVs (S : Store) : List D → Bool
  | [] => true
  | x :: xs => okV S x && okVs S xs
end
/-- repr(x) -/
def reprW (x : D) (S : Store) (R : DVK) : Prop := okV S x = true ∧ (pyV S x).showable = true ∧ (pyV S x).depth ≤ 150 ∧ (pyV S x).shown.length ≤ sizeLine ∧ ∀ t, Str.ofString t = (pyV S x).shown → R (.str t) S
def biW (f : Bi) : List D → Store → DVK → Prop := match f with
  | .len => one lenW
  | .int => one intW
  | .list => one listW
  | .tuple => one tupW
  | .dict => one (atLoc dictO)
  | .max => one (atLoc (intsO maxW))
  | .max2 => two max2W
  | .sum => one (atLoc (intsO fun ns S R => R (.int ns.sum) S))
  | .any => one (atLoc (boolsO fun bs S R => R (.bl (bs.any id)) S))
  | .all => one (atLoc (boolsO fun bs S R => R (.bl (bs.all id)) S))
  | .listvals => one (atLoc valsO)
  | .listrange => one lrangeW
  | .repr => one reprW
  | .sorted => one sortedW
  | .sortset => one sortsetW
  | .tuprange => one trangeW
  | _ => fun _ _ _ => False
def appW (x : D) (o : MO) (a : Addr) (S : Store) (R : DVK) : Prop := match o with
  | .lst ys => ys.length < sizeLine ∧ R .non (S.upd a (.lst (ys ++ [x])))
  | _ => False
def popW (o : MO) (a : Addr) (S : Store) (R : DVK) : Prop := match o with
  | .lst ys => ∃ zs y, ys = zs ++ [y] ∧ R y (S.upd a (.lst zs))
  | _ => False
def getO (k d : D) (o : MO) (S : Store) (R : DVK) : Prop := match o with
  | .dct kvs => keyOk k = true ∧ R ((lookD kvs k).getD d) S
  | .frz kvs => keyOk k = true ∧ R ((lookD kvs k).getD d) S
  | _ => False
def extO (ys : List D) (a : Addr) (o : MO) (S : Store) (R : DVK) : Prop := match o with
  | .lst zs => ys.length + zs.length ≤ sizeLine ∧ R .non (S.upd a (.lst (ys ++ zs)))
  | _ => False
def extW (x : D) (o : MO) (a : Addr) (S : Store) (R : DVK) : Prop := match o with
  | .lst ys => atLoc (extO ys a) x S R
  | _ => False
/-- d.update(e), two dicts -/
def updO (i : List (D × D)) (a : Addr) (o : MO) (S : Store) (R : DVK) : Prop := match o with
  | .dct j => i.length + j.length ≤ sizeLine ∧ R .non (S.upd a (.dct (mergeD i j)))
  | _ => False
def updW (x : D) (o : MO) (a : Addr) (S : Store) (R : DVK) : Prop := match o with
  | .dct i => x ≠ .loc a ∧ atLoc (updO i a) x S R
  | _ => False
/-- d.setdefault(k, v) -/
def setdO (k d : D) (a : Addr) (o : MO) (S : Store) (R : DVK) : Prop := match o with
  | .dct kvs => keyOk k = true ∧ kvs.length < sizeLine ∧ (match lookD kvs k with | some v => R v S | none => R d (S.upd a (.dct (putD kvs k d))))
  | _ => False
def recvW (x : D) (S : Store) (g : MO → Addr → Prop) : Prop := match x with
  | .loc a => ∃ o, S a = some o ∧ g o a
  | _ => False
def mtW (m : Mt) (x : D) (xs : List D) (S : Store) (R : DVK) : Prop := match m with
  | .append => recvW x S fun o a => one (fun y S R => appW y o a S R) xs S R
  | .extend => recvW x S fun o a => one (fun y S R => extW y o a S R) xs S R
  | .pop => recvW x S fun o a => xs = [] ∧ popW o a S R
  | .get => recvW x S fun o a => two (fun k d S R => getO k d o S R) xs S R
  | .setdefault => recvW x S fun o a => two (fun k d S R => setdO k d a o S R) xs S R
  | .update => recvW x S fun o a => one (fun y S R => updW y o a S R) xs S R
  | _ => False
def isLst : MO → Bool
  | .lst _ => true
  | _ => false
def isDct : MO → Bool
  | .dct _ => true
  | .frz _ => true
  | _ => false
/-- the receiver of a method is of its type -/
def recvOk (m : Mt) (x : D) (S : Store) : Prop := recvW x S fun o _ => match m with
  | .append => isLst o = true
  | .extend => isLst o = true
  | .pop => isLst o = true
  | .pop0 => isLst o = true
  | .get => isDct o = true
  | .setdefault => isDct o = true
  | .update => isDct o = true
  | .index => isLst o = true
def setL (a : Addr) (xs : List D) (i v : D) (S : Store) (Q : Store → Prop) : Prop := match i with
  | .int k => ∃ j, ixN xs.length k = some j ∧ Q (S.upd a (.lst (xs.set j v)))
  | _ => False
def setO (a : Addr) (i v : D) (o : MO) (S : Store) (Q : Store → Prop) : Prop := match o with
  | .lst xs => setL a xs i v S Q
  | .dct kvs => keyOk i = true ∧ kvs.length < sizeLine ∧ Q (S.upd a (.dct (putD kvs i v)))
  | _ => False
/-- o[i] = v -/
def setW (o i v : D) (S : Store) (Q : Store → Prop) : Prop := match o with
  | .loc a => ∃ ob, S a = some ob ∧ setO a i v ob S Q
  | _ => False
def pairUp : List D → Option (List (D × D))
  | [] => some []
  | k :: v :: r => (pairUp r).map ((k, v) :: ·)
  | _ => none
def wipeD (σ : DSt) : List Nat → DSt
  | [] => σ
  | v :: vs => (wipeD σ vs).set v none
def bindAll : List Nat → List D → DSt → Option DSt
  | [], [], σ => some σ
  | i :: is, x :: xs, σ => bindAll is xs (σ.set i (some x))
  | _, _, _ => none
def bindT : Tg → D → DSt → Option DSt
  | .one i, x, σ => some (σ.set i (some x))
  | .many is, .tup xs, σ => bindAll is xs σ
  | .many _, _, _ => none

/-- the turns of a comprehension; p: the new list -/
def lcL (p : Addr) (ok : Store → Prop) (step : D → Store → (Option D → Store → Prop) → Prop) : List D → List D → Store → (Store → Prop) → Prop
  | [], acc, S, Q => ok S ∧ Q S
  | x :: xs, acc, S, Q => ok S ∧ step x S fun r S1 => match r with
    | none => lcL p ok step xs acc S1 Q
    | some y => S1 p = some (.lst acc) ∧ acc.length < sizeLine ∧ lcL p ok step xs (acc ++ [y]) (S1.upd p (.lst (acc ++ [y]))) Q
/-- the turns of a dict's comprehension -/
def dcL (p : Addr) (ok : Store → Prop) (step : D → Store → (Option (D × D) → Store → Prop) → Prop) : List D → List (D × D) → Store → (Store → Prop) → Prop
  | [], acc, S, Q => ok S ∧ Q S
  | x :: xs, acc, S, Q => ok S ∧ step x S fun r S1 => match r with
    | none => dcL p ok step xs acc S1 Q
    | some y => S1 p = some (.dct acc) ∧ keyOk y.1 = true ∧ acc.length < sizeLine ∧ dcL p ok step xs (putD acc y.1 y.2) (S1.upd p (.dct (putD acc y.1 y.2))) Q
def forL (tg : Tg) (ok : Store → Prop) (body : Ends → DSt → Store → Prop) : List D → Ends → DSt → Store → Prop
  | [], Z, σ, S => ok S ∧ Z.nx σ S
  | x :: xs, Z, σ, S => ok S ∧ ∃ σ1, bindT tg x σ = some σ1 ∧ body ⟨fun σ2 S2 => forL tg ok body xs Z σ2 S2, Z.rt⟩ σ1 S
def whileN (c : DTE) (b : Ends → DSt → Store → Prop) : Nat → Ends → DSt → Store → Prop
  | 0, _, _, _ => False
  | n + 1, Z, σ, S => c σ S fun d S1 => ∃ t, d = .bl t ∧ if t = true then b ⟨fun σ2 S2 => whileN c b n Z σ2 S2, Z.rt⟩ σ S1 else Z.nx σ S1

/-- what a loop walks: the items, what stays true of the source, the store within, the store behind -/
abbrev DTI := DSt → Store → (List D → (Store → Prop) → Store → (Store → Store) → Prop) → Prop
section
variable (Γ : G)
mutual
def wp : E → DTE
  | .var i, σ, S, R => ∃ d, σ[i]? = some (some d) ∧ R d S
  | .non, _, S, R => R .non S
  | .bl b, _, S, R => R (.bl b) S
  | .int i, _, S, R => R (.int i) S
  | .str s, _, S, R => R (.str s) S
  | .gv x, _, S, R => ∃ d, Γ.gv x = some d ∧ R d S
  | .tup es, σ, S, R => wps es σ S fun ds S1 => ds.length ≤ sizeLine ∧ R (.tup ds) S1
  | .lst es, σ, S, R => wps es σ S fun ds S1 => ds.length ≤ sizeLine ∧ ∀ p, S1 p = none → R (.loc p) (S1.upd p (.lst ds))
  | .op o a b, σ, S, R => wp a σ S fun x S1 => wp b σ S1 fun y S2 => opW o x y S2 R
  | .neg a, σ, S, R => wp a σ S fun x S1 => ∃ i, x = .int i ∧ R (.int (-i)) S1
  | .cmp o a b, σ, S, R => wp a σ S fun x S1 => wp b σ S1 fun y S2 => cmpW o x y S2 fun t S3 => R (.bl t) S3
  | .cmp2 o o' a b c, σ, S, R => wp a σ S fun x S1 => wp b σ S1 fun y S2 => cmpW o x y S2 fun t S3 =>
      if t = true then wp c σ S3 fun z S4 => cmpW o' y z S4 fun t' S5 => R (.bl t') S5 else R (.bl false) S3
  | .bop k es, σ, S, R => wpa k es σ S R
  | .not a, σ, S, R => wp a σ S fun x S1 => ∃ t, x = .bl t ∧ R (.bl (!t)) S1
  | .ite c a b, σ, S, R => wp c σ S fun x S1 => ∃ t, x = .bl t ∧ if t = true then wp a σ S1 R else wp b σ S1 R
  | .sub (.gv x) i, σ, S, R => match Γ.gd x with
    | some kvs => wp i σ S fun k S1 => ∃ s v, k = .str s ∧ kvs.lookup s = some v ∧ R v S1
    | none => ∃ d, Γ.gv x = some d ∧ wp i σ S fun k S1 => subW d k S1 R
  | .sub a i, σ, S, R => wp a σ S fun x S1 => wp i σ S1 fun k S2 => subW x k S2 R
  | .slc a lo hi, σ, S, R => wp a σ S fun x S1 => wpo lo σ S1 fun l S2 => wpo hi σ S2 fun h S3 => slcW x l h S3 R
  | .rev a, σ, S, R => wp a σ S fun x S1 => revW x S1 R
  | .isi a t, σ, S, R => wp a σ S fun x S1 => isiW x t S1 fun b S2 => R (.bl b) S2
  | .call f es, σ, S, R => wps es σ S fun ds S1 => Γ.fn f ds S1 R
  | .bi f es, σ, S, R => wps es σ S fun ds S1 => biW f ds S1 R
  | .mt m o es, σ, S, R => wp o σ S fun x S1 => recvOk m x S1 ∧ wps es σ S1 fun ds S2 => mtW m x ds S2 R
  | .lc own tg src c e, σ, S, R => wpi src σ S fun xs ok S1 back => ∀ p, S1 p = none →
      lcL p ok (fun x S2 k => ∃ σ1, bindT tg x (wipeD σ own) = some σ1 ∧ wpc c σ1 S2 fun t S3 => if t = true then wp e σ1 S3 fun y S4 => k (some y) S4 else k none S3) xs [] (S1.upd p (.lst [])) fun S2 => R (.loc p) (back S2)
  | .dc own tg src c e v, σ, S, R => wpi src σ S fun xs ok S1 back => ∀ p, S1 p = none →
      dcL p ok (fun x S2 k => ∃ σ1, bindT tg x (wipeD σ own) = some σ1 ∧ wpc c σ1 S2 fun t S3 => if t = true then wp e σ1 S3 fun y S4 => wp v σ1 S4 fun z S5 => k (some (y, z)) S5 else k none S3) xs [] (S1.upd p (.dct [])) fun S2 => R (.loc p) (back S2)
  | .dsp es, σ, S, R => ∀ p, S p = none → wps es σ (S.upd p (.dct [])) fun ds S1 => ∃ kvs, pairUp ds = some kvs ∧ S1 p = some (.dct []) ∧ (∀ q ∈ kvs, keyOk q.1 = true) ∧ kvs.length ≤ 15 ∧ R (.loc p) (S1.upd p (.dct (mergeD [] kvs)))
def wps : List E → DSt → Store → (List D → Store → Prop) → Prop
  | [], _, S, R => R [] S
  | e :: es, σ, S, R => wp e σ S fun x S1 => wps es σ S1 fun xs S2 => R (x :: xs) S2
/-- and (k = true), or (k = false) -/
def wpa : Bool → List E → DTE
  | _, [], _, _, _ => False
  | _, [e], σ, S, R => wp e σ S R
  | k, e :: e2 :: r, σ, S, R => wp e σ S fun x S1 => ∃ t, x = .bl t ∧ if t = k then wpa k (e2 :: r) σ S1 R else R (.bl t) S1
def wpo : Option E → DSt → Store → (Option Int → Store → Prop) → Prop
  | none, _, S, R => R none S
  | some e, σ, S, R => wp e σ S fun x S1 => ∃ i, x = .int i ∧ R (some i) S1
def wpc : Option E → DSt → Store → (Bool → Store → Prop) → Prop
  | none, _, S, R => R true S
  | some e, σ, S, R => wp e σ S fun x S1 => ∃ t, x = .bl t ∧ R t S1
def wpi : Src → DTI
  | .seq e, σ, S, R => wp e σ S fun x S1 => match x with
    | .tup xs => R xs (fun _ => True) S1 id
    | .loc a => ∃ xs, S1 a = some (.lst xs) ∧ R xs (fun S2 => S2 a = some (.lst xs)) S1 id
    | _ => False
  | .range e, σ, S, R => wp e σ S fun x S1 => ∃ n, x = .int n ∧ (-1000000 ≤ n ∧ n ≤ 1000000) ∧ R (rangeD n.toNat) (fun _ => True) S1 id
  | .keys i, σ, S, R => ∃ a kvs, σ[i]? = some (some (.loc a)) ∧ S a = some (.dct kvs) ∧ R (kvs.map (·.1)) (fun S2 => S2 a = some (.frz kvs)) (S.upd a (.frz kvs)) (fun S2 => S2.upd a (.dct kvs))
  | .gkeys x, σ, S, R => ∃ kvs, Γ.gd x = some kvs ∧ R (kvs.map fun kv => D.str kv.1) (fun _ => True) S id
  | .zip a b, σ, S, R => False
end
mutual
def ws : S → Ends → DSt → Store → Prop
  | .asg (.name g) e, Z, σ, S => wp Γ e σ S fun x S1 => ∃ σ1, bindT g x σ = some σ1 ∧ Z.nx σ1 S1
  | .asg (.sub o i) e, Z, σ, S => wp Γ e σ S fun x S1 => wp Γ o σ S1 fun y S2 => wp Γ i σ S2 fun z S3 => setW y z x S3 fun S4 => Z.nx σ S4
  | .aug i o e, Z, σ, S => ∃ d, σ[i]? = some (some d) ∧ wp Γ e σ S fun y S1 => augW o d y S1 fun z S2 => Z.nx (σ.set i (some z)) S2
  | .augS o i op e, Z, σ, S => wp Γ o σ S fun x S1 => wp Γ i σ S1 fun k S2 => subW x k S2 fun y S3 => wp Γ e σ S3 fun w S4 => augW op y w S4 fun z S5 => setW x k z S5 fun S6 => Z.nx σ S6
  | .ex e, Z, σ, S => wp Γ e σ S fun _ S1 => Z.nx σ S1
  | .ret e, Z, σ, S => wp Γ e σ S Z.rt
  | .ife c a b, Z, σ, S => wp Γ c σ S fun x S1 => ∃ t, x = .bl t ∧ if t = true then wss a Z σ S1 else wss b Z σ S1
  | .whl c b, Z, σ, S => ∃ n, whileN (wp Γ c) (wss b) n Z σ S
  | .frr tg src b, Z, σ, S => wpi Γ src σ S fun xs ok S1 back => forL tg ok (wss b) xs ⟨fun σ2 S2 => Z.nx σ2 (back S2), fun v S2 => Z.rt v (back S2)⟩ σ S1
  | .pass, Z, σ, S => Z.nx σ S
def wss : List S → Ends → DSt → Store → Prop
  | [], Z, σ, S => Z.nx σ S
  | s :: r, Z, σ, S => ws s ⟨fun σ1 S1 => wss r Z σ1 S1, Z.rt⟩ σ S
end
end
end Y

namespace Y
open PySem PySem.Spec L2

/-! ### texts -/
theorem ofS_inj {a b : String} (h : Str.ofString a = Str.ofString b) : a = b := by
  rw [Str.ofString_eq_toList, Str.ofString_eq_toList] at h
  have h1 : (a.toList.map Char.toNat).toArray = (b.toList.map Char.toNat).toArray := congrArg Str.cps h
  have h2 : a.toList.map Char.toNat = b.toList.map Char.toNat := by simpa using h1
  have h3 : a.toList = b.toList := by
    refine List.map_inj_right (fun x y e => ?_) |>.mp h2
    exact Char.toNat_inj.mp e
  exact String.toList_inj.mp h3
theorem ofS_eq {a b : String} : (Str.ofString a == Str.ofString b) = (a == b) := by
  rw [Bool.eq_iff_iff]
  simp only [beq_iff_eq]
  exact ⟨ofS_inj, fun e => by rw [e]⟩
theorem ofS_len (a : String) : (Str.ofString a).length = a.length := by
  rw [Str.ofString_eq_toList]
  show ((a.toList.map Char.toNat).toArray).size = a.length
  rw [List.size_toArray, List.length_map, String.length_toList]
theorem ofS_app (a b : String) : Str.ofString a ++ Str.ofString b = Str.ofString (a ++ b) := by
  rw [Str.ofString_eq_toList, Str.ofString_eq_toList, Str.ofString_eq_toList]
  show (⟨_ ++ _⟩ : Str) = _
  simp
theorem char_lt (c : Char) : c.toNat < 0x110000 := by
  have h := c.valid
  simp only [UInt32.isValidChar, Nat.isValidChar] at h
  have ht : c.toNat = c.val.toNat := rfl
  omega
theorem ofS_ok (a : String) : PyData.strOk (Str.ofString a) = true := by
  rw [Str.ofString_eq_toList]
  unfold PyData.strOk
  rw [Array.all_eq_true]
  intro i hi
  refine decide_eq_true ?_
  simp
  exact char_lt _

/-! ### data as the library's data -/
section
variable {K : PySem.W.Frag} {H : Hp}
mutual
theorem dp_of : ∀ (n : Nat) (d : D) (v : V), D.pl n d = true → DV K H v d → Dp K H v (pyD d)
  | _, .non, _, _, .non => .non
  | _, .bl b, _, _, .bl _ => .bl b
  | _, .int i, _, _, .int _ => .int i
  | _, .str s, _, _, .str _ => .str _
  | n + 1, .tup xs, _, h, .tup q r => .tup q (dps_of n xs _ (by simpa [D.pl] using h) r)
  | 0, .tup xs, _, h, _ => by simp [D.pl] at h
  | _, .loc _, _, h, _ => by simp [D.pl] at h
  | _, .scr _, _, h, _ => by simp [D.pl] at h
theorem dps_of : ∀ (n : Nat) (d : List D) (v : List V), D.pls n d = true → DVs K H v d → DpAll K H v (pyDs d)
  | _, [], _, _, .nil => .nil
  | n, x :: xs, _, h, .cons q r => by
    have h' : D.pl n x = true ∧ D.pls n xs = true := by simpa [D.pls] using h
    exact .cons (dp_of n x _ h'.1 q) (dps_of n xs _ h'.2 r)
end
end
mutual
theorem py_lay : ∀ (n : Nat) (d : D), D.pl n d = true → (pyD d).canLay0 = true ∧ (pyD d).depth ≤ n
  | n, .non, _ => by simp [pyD, PyData.canLay0, PyData.depth]
  | n, .bl b, _ => by simp [pyD, PyData.canLay0, PyData.depth]
  | n, .int i, _ => by simp [pyD, PyData.canLay0, PyData.depth]
  | n, .str s, _ => by simp [pyD, PyData.canLay0, PyData.depth, ofS_ok]
  | n + 1, .tup xs, h => by
    have ih := pys_lay n xs (by simpa [D.pl] using h)
    simp only [pyD, PyData.canLay0, PyData.depth]
    exact ⟨ih.1, by omega⟩
  | 0, .tup xs, h => by simp [D.pl] at h
  | _, .loc _, h => by simp [D.pl] at h
  | _, .scr _, h => by simp [D.pl] at h
theorem pys_lay : ∀ (n : Nat) (d : List D), D.pls n d = true → PyData.canLayAll0 (pyDs d) = true ∧ PyData.depthAll (pyDs d) ≤ n
  | n, [], _ => by simp [pyDs, PyData.canLayAll0, PyData.depthAll]
  | n, x :: xs, h => by
    have h' : D.pl n x = true ∧ D.pls n xs = true := by simpa [D.pls] using h
    have i1 := py_lay n x h'.1
    have i2 := pys_lay n xs h'.2
    simp only [pyDs, PyData.canLayAll0, PyData.depthAll, i1.1, i2.1]
    exact ⟨rfl, by omega⟩
end
mutual
theorem py_eqv : ∀ (a b : D) (n m : Nat), D.pl n a = true → D.pl m b = true → PyData.eqv (pyD a) (pyD b) = eqd a b
  | .non, b, n, m, ha, hb => by cases b <;> simp_all [pyD, PyData.eqv, eqd, D.pl]
  | .bl a, b, n, m, ha, hb => by cases b <;> simp_all [pyD, PyData.eqv, eqd, D.pl]
  | .int a, b, n, m, ha, hb => by cases b <;> simp_all [pyD, PyData.eqv, eqd, D.pl]
  | .str a, b, n, m, ha, hb => by cases b <;> simp_all [pyD, PyData.eqv, eqd, D.pl, ofS_eq]
  | .tup a, b, n, m, ha, hb => by
    cases b with
    | tup b =>
      cases n with
      | zero => simp [D.pl] at ha
      | succ n =>
        cases m with
        | zero => simp [D.pl] at hb
        | succ m =>
          simp only [pyD, PyData.eqv, eqd]
          exact pys_eqv a b n m (by simpa [D.pl] using ha) (by simpa [D.pl] using hb)
    | _ => simp_all [pyD, PyData.eqv, eqd, D.pl]
  | .loc a, b, n, m, ha, hb => by simp [D.pl] at ha
  | .scr a, b, n, m, ha, hb => by simp [D.pl] at ha
theorem pys_eqv : ∀ (a b : List D) (n m : Nat), D.pls n a = true → D.pls m b = true → PyData.eqvAll (pyDs a) (pyDs b) = eqds a b
  | [], [], _, _, _, _ => by simp [pyDs, PyData.eqvAll, eqds]
  | [], _ :: _, _, _, _, _ => by simp [pyDs, PyData.eqvAll, eqds]
  | _ :: _, [], _, _, _, _ => by simp [pyDs, PyData.eqvAll, eqds]
  | a :: as, b :: bs, n, m, ha, hb => by
    have ha' : D.pl n a = true ∧ D.pls n as = true := by simpa [D.pls] using ha
    have hb' : D.pl m b = true ∧ D.pls m bs = true := by simpa [D.pls] using hb
    simp only [pyDs, PyData.eqvAll, eqds]
    rw [py_eqv a b n m ha'.1 hb'.1, pys_eqv as bs n m ha'.2 hb'.2]
end
theorem pyDs_length : ∀ a : List D, (pyDs a).length = a.length
  | [] => rfl
  | _ :: r => by simp [pyDs, pyDs_length r]
theorem pyDs_any (x : D) (n : Nat) (hx : D.pl n x = true) : ∀ (ys : List D), D.pls n ys = true → ((pyDs ys).any fun z => PyData.eqv z (pyD x)) = ys.any fun z => eqd z x
  | [], _ => rfl
  | y :: ys, h => by
    have h' : D.pl n y = true ∧ D.pls n ys = true := by simpa [D.pls] using h
    simp only [pyDs, List.any_cons]
    rw [py_eqv y x n n h'.1 hx, pyDs_any x n hx ys h'.2]

/-! ### lifted operations -/
section
variable {K : PySem.W.Frag} {H : Hp}
/-- what is wanted behind: R of the datum and the store -/
structure Hold (K : PySem.W.Frag) (H : Hp) (S : Store) (R : DVK) (Q : VK) : Prop where
  go : ∀ d S' v H', R d S' → Frame H S H' S' → DV K H' v d → SRel K H' S' → Q v H'
structure HoldB (K : PySem.W.Frag) (H : Hp) (S : Store) (R : Bool → Store → Prop) (Q : VK) : Prop where
  go : ∀ b S' H', R b S' → Frame H S H' S' → SRel K H' S' → Q (.bl b) H'
def lift2 (K : PySem.W.Frag) (op : D → D → Store → DVK → Prop) : R2 := fun x y H Q => ∃ dx dy S R, DV K H x dx ∧ DV K H y dy ∧ SRel K H S ∧ op dx dy S R ∧ Hold K H S R Q
def lift2B (K : PySem.W.Frag) (op : D → D → Store → (Bool → Store → Prop) → Prop) : R2 := fun x y H Q => ∃ dx dy S R, DV K H x dx ∧ DV K H y dy ∧ SRel K H S ∧ op dx dy S R ∧ HoldB K H S R Q
theorem Hold.same {S : Store} {R : DVK} {Q : VK} (h : Hold K H S R Q) (r : SRel K H S) {v : V} {d : D} (q : R d S) (x : DV K H v d) : Q v H := h.go d S v H q .refl x r
theorem HoldB.same {S : Store} {R : Bool → Store → Prop} {Q : VK} (h : HoldB K H S R Q) (r : SRel K H S) {b : Bool} (q : R b S) : Q (.bl b) H := h.go b S H q .refl r
/-- a new tuple -/
theorem Hold.tup {S : Store} {R : DVK} {Q : VK} (h : Hold K H S R Q) (r : SRel K H S) {xs : List V} {ds : List D} (q : R (.tup ds) S) (x : DVs K H xs ds) : ∀ p, H p = none → Q (.ref p) (L2.upd H p (.tup xs)) := fun p hp =>
  h.go _ S _ _ q (frame_tup hp) (.tup (.inl (.inl L2.upd_same)) (DVs.mono (stay_new hp) x)) (srel_tup r hp)
/-- a new list -/
theorem Hold.lst {S : Store} {R : DVK} {Q : VK} (h : Hold K H S R Q) (r : SRel K H S) {xs : List V} {ds : List D} (q : ∀ p, S p = none → R (.loc p) (S.upd p (.lst ds))) (x : DVs K H xs ds) : ∀ p, H p = none → Q (.ref p) (L2.upd H p (.lst xs)) := fun p hp =>
  h.go _ _ _ _ (q p (r.fresh hp)) (frame_new hp) (.loc p) (srel_new r hp ⟨xs, L2.upd_same, DVs.mono (stay_new hp) x⟩)
theorem SRel.lst {S : Store} (r : SRel K H S) {a : Addr} {ds : List D} (h : S a = some (.lst ds)) : ∃ xs, H a = some (.lst xs) ∧ DVs K H xs ds := r a _ h
theorem SRel.dct {S : Store} (r : SRel K H S) {a : Addr} {ds : List (D × D)} (h : S a = some (.dct ds)) : ∃ xs, H a = some (.dK xs) ∧ Paired (EntD K H) xs ds := r a _ h
theorem SRel.frz {S : Store} (r : SRel K H S) {a : Addr} {ds : List (D × D)} (h : S a = some (.frz ds)) : ∃ o xs, H a = some (.frz o (.dK xs)) ∧ Paired (EntD K H) xs ds := r a _ h
theorem DV.tup_inv {v : V} {ds : List D} (h : DV K H v (.tup ds)) : ∃ a xs, v = .ref a ∧ SqT K H a xs ∧ DVs K H xs ds := by cases h with | tup q r => exact ⟨_, _, rfl, q, r⟩
theorem DV.int_inv {v : V} {i : Int} (h : DV K H v (.int i)) : v = .int i := by cases h; rfl
theorem DV.bl_inv {v : V} {i : Bool} (h : DV K H v (.bl i)) : v = .bl i := by cases h; rfl
theorem DV.str_inv {v : V} {i : String} (h : DV K H v (.str i)) : v = .str (Str.ofString i) := by cases h; rfl
theorem DV.non_inv {v : V} (h : DV K H v .non) : v = .non := by cases h; rfl
theorem DV.loc_inv {v : V} {a : Addr} (h : DV K H v (.loc a)) : v = .ref a := by cases h; rfl
theorem DV.scr_inv {v : V} {ns : List Int} (h : DV K H v (.scr ns)) : ∃ a, v = .ref a ∧ Scr K H a ns := by cases h with | scr q => exact ⟨_, rfl, q⟩
theorem Scr.sq {a : Addr} {ns : List Int} (h : Scr K H a ns) : SqL K H a (ns.map V.int) := by
  rcases h with ⟨o, h⟩ | h
  · exact .inl (.inr ⟨o, h⟩)
  · exact .inr h
theorem dvs_ints : ∀ ns : List Int, DVs K H (ns.map V.int) (ns.map D.int)
  | [] => .nil
  | n :: ns => .cons (.int n) (dvs_ints ns)
theorem ofS_length_le {a : String} {n : Nat} (h : a.length ≤ 1000000) : (Str.ofString a).length ≤ sizeLine := by
  rw [ofS_len]
  exact Nat.le_trans h (by decide)
end
section
variable {X : Cx}
theorem l_add : OpR X (binaryOp .Add) (lift2 X.K (opW .add)) := by
  intro pins s σ H x y v u Q I rx ry ⟨dx, dy, S, R, hx, hy, r, h, k⟩
  have h : addW dx dy S R := h
  cases dx with
  | int i =>
    cases dy with
    | int j => exact op_add pins s σ H x y v u Q I rx ry ⟨i, j, hx.int_inv, hy.int_inv, k.same r h (.int _)⟩
    | _ => exact h.elim
  | str i =>
    cases dy with
    | str j => exact op_add_str pins s σ H x y v u Q I rx ry ⟨_, _, hx.str_inv, hy.str_inv, by rw [ofS_len, ofS_len]; exact Nat.le_trans h.1 (by decide), by rw [ofS_app]; exact k.same r h.2 (.str _)⟩
    | _ => exact h.elim
  | tup i =>
    cases dy with
    | tup j =>
      obtain ⟨a, xs, rfl, qx, ex⟩ := hx.tup_inv
      obtain ⟨b, ys, rfl, qy, ey⟩ := hy.tup_inv
      refine op_catA pins s σ H _ _ v u Q I rx ry ⟨a, b, xs, ys, rfl, rfl, qx, qy, by rw [ex.length, ey.length]; exact h.1, fun e => ?_, fun _ e => ?_, fun _ _ => k.tup r h.2 (ex.append ey)⟩
      · subst e; cases ex
        exact k.same r h.2 (.tup qy ey)
      · subst e; cases ey
        exact k.same r h.2 (.tup qx (by rw [List.append_nil]; exact ex))
    | _ => exact h.elim
  | loc a =>
    obtain ⟨o, h1, h⟩ := h
    cases o with
    | lst i =>
      cases dy with
      | loc b =>
        obtain ⟨o2, h2, h⟩ := h
        cases o2 with
        | lst j =>
          obtain ⟨hl, h⟩ := h
          obtain ⟨xs, e1, ex⟩ := r.lst h1
          obtain ⟨ys, e2, ey⟩ := r.lst h2
          exact op_cat pins s σ H x y v u Q I rx ry ⟨a, b, xs, ys, hx.loc_inv, hy.loc_inv, e1, e2, by rw [ex.length, ey.length]; exact hl, k.lst r h (ex.append ey)⟩
        | _ => exact h.elim
      | _ => exact h.elim
    | _ => exact h.elim
  | _ => exact h.elim
theorem int2 {f : Value → Value → Sem Value} {g : Int → Int → Store → DVK → Prop} {r : R2} (h : OpR X f r) (hr : ∀ i j H S R Q, SRel X.K H S → g i j S R → Hold X.K H S R Q → r (.int i) (.int j) H Q) : OpR X f (lift2 X.K (intOp g)) := by
  intro pins s σ H x y v u Q I rx ry ⟨dx, dy, S, R, hx, hy, rr, hh, k⟩
  cases dx with
  | int i =>
    cases dy with
    | int j =>
      have ex := hx.int_inv
      have ey := hy.int_inv
      subst ex ey
      exact h pins s σ H _ _ v u Q I rx ry (hr i j H S R Q rr hh k)
    | _ => exact hh.elim
  | _ => exact hh.elim
theorem l_sub : OpR X (binaryOp .Sub) (lift2 X.K (opW .sub)) := int2 op_sub fun i j H S R Q r h k => ⟨i, j, rfl, rfl, k.same r h (.int _)⟩
theorem l_fdiv : OpR X (binaryOp .FloorDiv) (lift2 X.K (opW .fdiv)) := int2 op_fdiv fun i j H S R Q r h k => ⟨i, j, rfl, rfl, h.1, k.same r h.2 (.int _)⟩
theorem l_mod : OpR X (binaryOp .Mod) (lift2 X.K (opW .mod)) := int2 op_mod fun i j H S R Q r h k => ⟨i, j, rfl, rfl, h.1, k.same r h.2 (.int _)⟩
theorem DVs.rep {K : PySem.W.Frag} {H : Hp} {xs : List V} {ds : List D} (h : DVs K H xs ds) : ∀ n : Nat, DVs K H (List.replicate n xs).flatten (List.replicate n ds).flatten
  | 0 => .nil
  | n + 1 => by
    rw [List.replicate_succ, List.replicate_succ, List.flatten_cons, List.flatten_cons]
    exact h.append (DVs.rep h n)
/-- a tuple once is itself -/
theorem tuple_once (l : Addr) (items : Array Value) (n : Nat) (dd : Option Addr) (sl : Array (Option Value)) (u : Tok) :
    Meets (Builtin.«tuple.__mul__» ⟨[.ref l, .int 1 u], []⟩) (fun _ R s => s.heap.get? l = some { cls := .type "tuple", dict := dd, data := .seq items n, slots := sl } ∧ R (.ok (.ret (Value.ref l))) s) :=
  .of_wp fun prog w A R s h => by
    obtain ⟨hp, g, d, tk, os⟩ := s
    obtain ⟨hl, h⟩ := h
    have f1 := AutoSeq1.idx_int
    have c1 : (items.isEmpty || (1 : Int) == 1) = true := by simp
    wp_walk using wpAny_loadPart' hl
    repeat (first
      | (refine wpAny_ite_true (decide_eq_true c1) ?_; wp_walk using wpAny_loadPart' hl)
      | (refine wpAny_ite_true (by simp) ?_; wp_walk using wpAny_loadPart' hl))
    exact ⟨_, rfl, h⟩
theorem op_tup1 {pins : List (Addr × Obj)} {s : Shared} {σ : L2.St} {H : Hp} {l : Addr} {v u : Value} {xs : List V} {Q : VK} (I : Inv X pins σ H s) (rx : RelV (.ref l) v) (ry : RelV (.int 1) u) (hT : SqT X.K H l xs) (q : Q (.ref l) H) : wpAny (model X.prog X.w) X.A (binaryOp .Mult v u) (EP X pins σ Q) X.xe s := by
  cases rx
  obtain ⟨t, rfl⟩ := ry
  obtain ⟨its, r, ⟨⟨cls, dd, data, sl⟩, ho, hc, n, hd⟩, hs⟩ := I.tuple hT
  simp only at hc hd
  subst hc hd
  exact wpAny_binaryOp_repeat_ref (T := "tuple") (U := "int") (by decide) ⟨_, ho, rfl⟩ (fun s' => typeIs_int s' 1 t) noFill_tuple_mul PySem.F.fills_int_mul PySem.F.slot_int_rmul repeat_tuple PySem.F.slot_int_index.lookup
    (call_meets PySem.F.slot_int_rmul (typeIs_int s 1 t) PySem.F.entry_int_rmul (PySem.F.args_int_rmul_2 _ _) (int_rmul_tuple 1 t l its.toArray n dd sl)
      ⟨ho, rfl, ⟨_, ho, rfl⟩, call_meets PySem.F.slot_tuple_mul ⟨_, ho, rfl⟩ PySem.F.entry_tuple_mul (PySem.F.args_tuple_mul_2 _ _) (tuple_once l its.toArray n dd sl t) ⟨ho, ⟨.ref l, H, I, rfl, q⟩⟩⟩)
theorem l_mul : OpR X (binaryOp .Mult) (lift2 X.K (opW .mul)) := by
  intro pins s σ H x y v u Q I rx ry ⟨dx, dy, S, R, hx, hy, r, h, k⟩
  have h : mulW dx dy S R := h
  cases dx with
  | int i =>
    cases dy with
    | int j => exact op_mul pins s σ H x y v u Q I rx ry ⟨i, j, hx.int_inv, hy.int_inv, h.1, k.same r h.2 (.int _)⟩
    | _ => exact h.elim
  | loc a =>
    cases dy with
    | int j =>
      obtain ⟨o, h1, h⟩ := h
      cases o with
      | lst i =>
        obtain ⟨hj, hl, h⟩ := h
        obtain ⟨xs, e1, ex⟩ := r.lst h1
        exact op_rep pins s σ H x y v u Q I rx ry ⟨a, j, xs, hx.loc_inv, hy.int_inv, e1, by omega, by omega, by rw [ex.length]; exact hl, k.lst r h (DVs.rep ex _)⟩
      | _ => exact h.elim
    | _ => exact h.elim
  | tup i =>
    cases dy with
    | int j =>
      obtain ⟨hne, hj, hl, h⟩ := h
      obtain ⟨a, xs, rfl, qx, ex⟩ := hx.tup_inv
      obtain rfl := hy.int_inv
      have xne : xs ≠ [] := fun e => by subst e; cases ex; exact hne rfl
      by_cases c : j = 1
      · subst c
        have e1 : timesD 1 i = i := by simp [timesD]
        rw [e1] at h
        exact op_tup1 I rx ry qx (k.same r h (.tup qx ex))
      · exact op_repT pins s σ H _ _ v u Q I rx ry ⟨a, j, xs, rfl, rfl, qx, xne, by omega, by omega, by rw [ex.length]; exact hl, k.tup r h (DVs.rep ex _)⟩
    | _ => exact h.elim
  | _ => exact h.elim
def bopC : BOp → Operator
  | .add => .Add | .sub => .Sub | .mul => .Mult | .fdiv => .FloorDiv | .mod => .Mod
theorem l_aug (o : BOp) : OpR X (inplaceOp (bopC o)) (lift2 X.K (augW o)) := by
  cases o with
  | add =>
    intro pins s σ H x y v u Q I rx ry ⟨dx, dy, S, R, hx, hy, r, h, k⟩
    cases dx with
    | int i =>
      cases dy with
      | int j => exact iop_add pins s σ H x y v u Q I rx ry ⟨i, j, hx.int_inv, hy.int_inv, k.same r h (.int _)⟩
      | _ => exact h.elim
    | str i =>
      cases dy with
      | str j => exact iop_add_str pins s σ H x y v u Q I rx ry ⟨_, _, hx.str_inv, hy.str_inv, by rw [ofS_len, ofS_len]; exact Nat.le_trans h.1 (by decide), by rw [ofS_app]; exact k.same r h.2 (.str _)⟩
      | _ => exact h.elim
    | _ => exact h.elim
  | sub => exact int2 iop_sub fun i j H S R Q r h k => ⟨i, j, rfl, rfl, k.same r h (.int _)⟩
  | mul => intro pins s σ H x y v u Q I rx ry ⟨dx, dy, S, R, hx, hy, r, h, k⟩; exact h.elim
  | fdiv => intro pins s σ H x y v u Q I rx ry ⟨dx, dy, S, R, hx, hy, r, h, k⟩; exact h.elim
  | mod => intro pins s σ H x y v u Q I rx ry ⟨dx, dy, S, R, hx, hy, r, h, k⟩; exact h.elim
theorem l_op (o : BOp) : OpR X (binaryOp (bopC o)) (lift2 X.K (opW o)) := by
  cases o with
  | add => exact l_add
  | sub => exact l_sub
  | mul => exact l_mul
  | fdiv => exact l_fdiv
  | mod => exact l_mod
theorem dvs_rep {K : PySem.W.Frag} {H : Hp} {xs : List V} {ds : List D} (h : DVs K H xs ds) : ∀ n : Nat, DVs K H (List.replicate n xs).flatten (List.replicate n ds).flatten
  | 0 => .nil
  | n + 1 => by
    rw [List.replicate_succ, List.replicate_succ, List.flatten_cons, List.flatten_cons]
    exact h.append (dvs_rep h n)
theorem scal_of {K : PySem.W.Frag} {H : Hp} {v : V} {d : D} (h : DV K H v d) : True := trivial
theorem hu100 {A : Around} {a b n m : Nat} (hu : A.units + 200 < cLine) (h1 : a ≤ 100) : A.units + min a b < cLine := by
  have := Nat.min_le_left a b
  omega
theorem cmp2 {op : CmpOp} {g : Int → Int → Bool} (h : OpR X (compareOp op) (rI0 fun i j => .bl (g i j))) : OpR X (compareOp op) (lift2B X.K (cmpI g)) := by
  intro pins s σ H x y v u Q I rx ry ⟨dx, dy, S, R, hx, hy, r, hh, k⟩
  cases dx with
  | int i =>
    cases dy with
    | int j => exact h pins s σ H x y v u Q I rx ry ⟨i, j, hx.int_inv, hy.int_inv, k.same r hh⟩
    | _ => exact hh.elim
  | _ => exact hh.elim
theorem l_lt : OpR X (compareOp .Lt) (lift2B X.K (cmpW .lt)) := cmp2 op_lt
theorem l_le : OpR X (compareOp .LtE) (lift2B X.K (cmpW .le)) := cmp2 op_le
theorem l_gt : OpR X (compareOp .Gt) (lift2B X.K (cmpW .gt)) := cmp2 op_gt
theorem l_ge : OpR X (compareOp .GtE) (lift2B X.K (cmpW .ge)) := cmp2 op_ge
theorem isnon_eq {K : PySem.W.Frag} {H : Hp} {v : V} {d : D} (h : DV K H v d) : decide (v = V.non) = decide (d = D.non) := by
  cases h <;> simp
theorem l_isn : OpR X (compareOp .Is) (lift2B X.K (cmpW .isn)) := by
  intro pins s σ H x y v u Q I rx ry ⟨dx, dy, S, R, hx, hy, r, h, k⟩
  cases dy with
  | non => exact op_isN pins s σ H x y v u Q I rx ry ⟨hy.non_inv, by rw [isnon_eq hx]; exact k.same r h⟩
  | _ => exact h.elim
theorem l_notn : OpR X (compareOp .IsNot) (lift2B X.K (cmpW .notn)) := by
  intro pins s σ H x y v u Q I rx ry ⟨dx, dy, S, R, hx, hy, r, h, k⟩
  cases dy with
  | non => exact op_notN pins s σ H x y v u Q I rx ry ⟨hy.non_inv, by rw [isnon_eq hx]; exact k.same r h⟩
  | _ => exact h.elim
/-! dicts with int and text keys -/
def keyOf : D → Key
  | .int i => .inl i
  | .str s => .inr (Str.ofString s)
  | _ => .inl 0
theorem keyD_of {k : D} (h : keyOk k = true) : keyD (keyOf k) k := by
  cases k with
  | int i => exact rfl
  | str s => exact ⟨_, rfl, rfl⟩
  | _ => cases h
theorem keyD_eq {k : Key} {d : D} (h : keyD k d) : k = keyOf d ∧ keyOk d = true := by
  cases k with
  | inl i => cases (show d = .int i from h); exact ⟨rfl, rfl⟩
  | inr x => obtain ⟨s, rfl, rfl⟩ := h; exact ⟨rfl, rfl⟩
theorem keyOf_inj {a b : D} (ha : keyOk a = true) (hb : keyOk b = true) (h : keyOf a = keyOf b) : a = b := by
  cases a <;> cases b <;> simp_all [keyOf, keyOk]
  exact ofS_inj h
theorem kV_dv {K : PySem.W.Frag} {H : Hp} {v : V} {d : D} (h : DV K H v d) (o : keyOk d = true) : v = kV (keyOf d) := by
  cases h with
  | int i => rfl
  | str s => rfl
  | _ => cases o
theorem dv_kV {K : PySem.W.Frag} {H : Hp} {k : Key} {d : D} (h : keyD k d) : DV K H (kV k) d := by
  cases k with
  | inl i => cases (show d = .int i from h); exact .int i
  | inr x => obtain ⟨s, rfl, rfl⟩ := h; exact .str s
theorem look_rel {K : PySem.W.Frag} {H : Hp} {k : D} (hk : keyOk k = true) : ∀ {ps : List (Key × V)} {kvs : List (D × D)}, Paired (EntD K H) ps kvs → (∀ d, lookD kvs k = some d → ∃ v, valV ps (keyOf k) = some v ∧ DV K H v d) ∧ (lookD kvs k = none → valV ps (keyOf k) = none)
  | _, _, .nil => ⟨fun d e => (by cases e), fun _ => rfl⟩
  | _, _, .cons (a := p) (b := q) h t => by
    obtain ⟨i1, i2⟩ := look_rel hk t
    obtain ⟨e, o⟩ := keyD_eq h.1
    obtain ⟨q1, q2⟩ := q
    unfold lookD
    by_cases c : q1 = k
    · rw [if_pos c]
      subst c
      refine ⟨fun d e2 => ?_, fun e2 => by cases e2⟩
      cases e2
      exact ⟨p.2, valV_pos e, h.2⟩
    · rw [if_neg c]
      have ne : ¬ p.1 = keyOf k := fun z => c (keyOf_inj o hk (e.symm.trans z))
      rw [valV_neg ne]
      exact ⟨i1, i2⟩
theorem look_some {K : PySem.W.Frag} {H : Hp} {k : D} (hk : keyOk k = true) {ps : List (Key × V)} {kvs : List (D × D)} (h : Paired (EntD K H) ps kvs) : (valV ps (keyOf k)).isSome = (lookD kvs k).isSome := by
  obtain ⟨i1, i2⟩ := look_rel hk h
  cases e : lookD kvs k with
  | none => rw [i2 e]; rfl
  | some d => obtain ⟨v, e2, _⟩ := i1 d e; rw [e2]; rfl
/-! two dicts, entry by entry -/
section
variable {X : Cx} {pins : List (Addr × Obj)} {σV : L2.St} {H : Hp} {s : Shared}
theorem hits_data (I : Inv X pins σV H s) {A : Around} (hA : A.units + 101 < cLine) {qs : List (Key × V)} {vb : List (Key × Value)} {j : List (D × D)} (rb : KV qs vb) (eb : Paired (EntD X.K H) qs j) (pj : vPl j = true) {ps : List (Key × V)} {va : List (Key × Value)} {i : List (D × D)} (ra : KV ps va) : Paired (EntD X.K H) ps i → vPl i = true →
    PySem.W.KeqHits A s vb va (i.all fun kv => match lookD j kv.1 with
      | some v => eqd kv.2 v
      | none => false) := by
  unfold KV at ra
  induction ra generalizing i with
  | nil =>
    intro h _
    cases h
    exact .nil
  | @cons p q ps' qs' h t ih =>
    intro hp pi
    cases hp with
    | @cons _ d _ ds hd td =>
      obtain ⟨k, v⟩ := q
      obtain ⟨h1, h2⟩ := h
      have h1 : p.1 = k := h1
      subst h1
      obtain ⟨ek, ok⟩ := keyD_eq hd.1
      unfold vPl at pi
      rw [List.all_cons, Bool.and_eq_true] at pi
      have rest := ih td (by unfold vPl; exact pi.2)
      obtain ⟨i1, i2⟩ := look_rel ok eb
      rw [List.all_cons]
      cases e : lookD j d.1 with
      | none =>
        have n := i2 e
        rw [← ek] at n
        have n2 := rb.val p.1
        rw [n] at n2
        exact .miss n2.none_of
      | some w =>
        obtain ⟨x, ex, hx⟩ := i1 w e
        rw [← ek] at ex
        have n2 := rb.val p.1
        rw [ex] at n2
        obtain ⟨y, ey, ry⟩ := n2.some_of
        have pw : D.pl 100 w = true := by
          have key : ∀ (l : List (D × D)), vPl l = true → lookD l d.1 = some w → D.pl 100 w = true := by
            intro l
            induction l with
            | nil => intro _ z; cases z
            | cons z zs ihz =>
              intro hz hl
              unfold vPl at hz
              rw [List.all_cons, Bool.and_eq_true] at hz
              obtain ⟨z1, z2⟩ := z
              unfold lookD at hl
              split at hl
              · cases hl; exact hz.1
              · exact ihz (by unfold vPl; exact hz.2) hl
          exact key j pj e
        have pd := pi.1
        obtain ⟨as, r1⟩ := Dp.reads I _ _ _ (dp_of 100 d.2 p.2 pd hd.2) h2
        obtain ⟨bs, r2⟩ := Dp.reads I _ _ _ (dp_of 100 w x pw hx) ry
        have eq := SeqAt.eqAt_reads _ _ A s v y as bs r1 r2 (py_lay 100 d.2 pd).1 (py_lay 100 w pw).1 (by have := (py_lay 100 d.2 pd).2; have := Nat.min_le_left (pyD d.2).depth (pyD w).depth; omega)
        rw [py_eqv d.2 w 100 100 pd pw] at eq
        exact .hit ey eq rest
end
section
variable {X : Cx}
/-- a dict is not None -/
theorem dict_eq_none {P : Program} {w : World} {A : Around} {E : Value → Shared → Prop} {s : Shared} {a : Addr} {ka : List (Key × Value)} {Q : Value → Shared → Prop} (da : s.heap.DictOf (mixKind P w) a ka) (hu : A.units < cLine) (h : Q (.bool false) s) : wpAny (model P w) A (compareOp .Eq (.ref a) .none) Q E s := by
  refine SeqAt.rc_eq_decline_or (k := false) da.typeIs rfl (by decide) PySem.F.sub_NoneType_dict PySem.F.slot_dict_eq PySem.F.slot_NoneType_eq_refl (fun Q' hq => ?_)
    (fun _ hq => call_gives PySem.F.slot_NoneType_eq_refl rfl PySem.F.entry_NoneType_eq (PySem.F.args_NoneType_eq_2 _ _) (SeqAt.NoneType___eq___none_ref_0 a) hq) (fun _ hq => wpAny_of_eq (rfl : isSame (.ref a) .none = pure false) hq) (.inr hu) h
  refine wpAny_call_entry PySem.F.slot_dict_eq da.typeIs PySem.F.entry_dict_eq ?_ (PySem.F.args_dict_eq_2 _ _)
  show wpAny _ _ (Builtin.Dict.dictSlotArgs "__eq__" ⟨[.ref a, .none], []⟩ >>= _) _ _ s
  refine wpAny_bind ?_
  unfold Builtin.Dict.dictSlotArgs
  refine wpAny_bind (wpAny_notOrdered_dict da.typeIs ?_)
  show wpAny _ _ (pure (Value.ref a, Value.none)) _ _ s
  refine wpAny_pure ?_
  refine wpAny_bind (wpAny_isInstance (T := "NoneType") rfl PySem.F.sub_NoneType_dict ?_)
  simp only [Bool.not_false, if_true]
  exact wpAny_bind (wpAny_rule (wpAny_pure ⟨_, rfl, hq⟩))
theorem dict_ne_none {P : Program} {w : World} {A : Around} {E : Value → Shared → Prop} {s : Shared} {a : Addr} {ka : List (Key × Value)} {Q : Value → Shared → Prop} (da : s.heap.DictOf (mixKind P w) a ka) (hu : A.units < cLine) (h : Q (.bool true) s) : wpAny (model P w) A (compareOp .NotEq (.ref a) .none) Q E s := by
  refine SeqAt.rc_ne_decline_or (k := false) da.typeIs rfl (by decide) PySem.F.sub_NoneType_dict PySem.F.slot_dict_ne PySem.F.slot_NoneType_ne_refl (fun Q' hq => ?_)
    (fun _ hq => call_gives PySem.F.slot_NoneType_ne_refl rfl PySem.F.entry_NoneType_ne (PySem.F.args_NoneType_ne_2 _ _) (SeqAt.NoneType___ne___none_ref_0 a) hq) (fun _ hq => wpAny_of_eq (rfl : isSame (.ref a) .none = pure false) hq) (.inr hu) h
  refine wpAny_call_entry PySem.F.slot_dict_ne da.typeIs PySem.F.entry_dict_ne ?_ (PySem.F.args_dict_ne_2 _ _)
  show wpAny _ _ (Builtin.Dict.dictSlotArgs "__ne__" ⟨[.ref a, .none], []⟩ >>= _) _ _ s
  refine wpAny_bind ?_
  unfold Builtin.Dict.dictSlotArgs
  refine wpAny_bind (wpAny_notOrdered_dict da.typeIs ?_)
  show wpAny _ _ (pure (Value.ref a, Value.none)) _ _ s
  refine wpAny_pure ?_
  refine wpAny_bind (wpAny_isInstance (T := "NoneType") rfl PySem.F.sub_NoneType_dict ?_)
  simp only [Bool.not_false, if_true]
  exact wpAny_bind (wpAny_rule (wpAny_pure ⟨_, rfl, hq⟩))
/-- == and != -/
theorem eq_core {op : CmpOp} {f : Bool → Bool} (hu : X.A.units + 200 < cLine)
    (rule : ∀ {A : Around} {E : Value → Shared → Prop} {s : Shared} {a b : Value} {da db : PyData} {as bs : List Addr} {Q : Value → Shared → Prop}, Reads s.heap a da as → Reads s.heap b db bs → da.canLay0 = true → db.canLay0 = true →
      A.units + min da.depth db.depth < cLine → Q (.bool (f (PyData.eqv da db))) s → wpAny (model X.prog X.w) A (compareOp op a b) Q E s)
    (ruleD : ∀ {A : Around} {E : Value → Shared → Prop} {s : Shared} {a b : Addr} {ka kb : List (Key × Value)} {r : Bool} {Q : Value → Shared → Prop}, (a == sysModules) = false → (b == sysModules) = false → s.heap.DictOf (mixKind X.prog X.w) a ka → s.heap.DictOf (mixKind X.prog X.w) b kb → A.units < cLine →
      (ka.length = kb.length → PySem.W.KeqHits A.in1 s kb ka r) → Q (.bool (f (ka.length == kb.length && r))) s → wpAny (model X.prog X.w) A (compareOp op (.ref a) (.ref b)) Q E s)
    (ruleN : ∀ {A : Around} {E : Value → Shared → Prop} {s : Shared} {a : Addr} {ka : List (Key × Value)} {Q : Value → Shared → Prop}, s.heap.DictOf (mixKind X.prog X.w) a ka → A.units < cLine → Q (.bool (f false)) s → wpAny (model X.prog X.w) A (compareOp op (.ref a) .none) Q E s) :
    OpR X (compareOp op) (lift2B X.K fun x y S R => eqW x y S fun b S' => R (f b) S') := by
  intro pins s σ H x y v u Q I rx ry ⟨dx, dy, S, R, hx, hy, r, h, k⟩
  have data : ∀ {da db : PyData} (n1 : Dp X.K H x da) (n2 : Dp X.K H y db), da.canLay0 = true → db.canLay0 = true → (da.depth ≤ 101 ∨ db.depth ≤ 101) → ∀ c, PyData.eqv da db = c → Q (.bl (f c)) H → wpAny (model X.prog X.w) X.A (compareOp op v u) (EP X pins σ Q) X.xe s := by
    intro da db n1 n2 l1 l2 hd c e q
    obtain ⟨as, r1⟩ := Dp.reads I da x v n1 rx
    obtain ⟨bs, r2⟩ := Dp.reads I db y u n2 ry
    subst e
    exact rule r1 r2 l1 l2 (by have := Nat.min_le_left da.depth db.depth; have := Nat.min_le_right da.depth db.depth; omega) ⟨.bl _, H, I, rfl, q⟩
  have pl : ∀ {a b : D}, D.pl 100 a = true → D.pl 100 b = true → DV X.K H x a → DV X.K H y b → R (f (eqd a b)) S → wpAny (model X.prog X.w) X.A (compareOp op v u) (EP X pins σ Q) X.xe s := fun {a b} p1 p2 h1 h2 q =>
    data (dp_of 100 a x p1 h1) (dp_of 100 b y p2 h2) (py_lay 100 a p1).1 (py_lay 100 b p2).1 (.inl (by have := (py_lay 100 a p1).2; omega)) _ (py_eqv a b 100 100 p1 p2) (k.same r q)
  cases dx with
  | loc a =>
    obtain ⟨o, e1, h⟩ := h
    cases o with
    | lst i =>
      obtain ⟨xs, h1, ex⟩ := r.lst e1
      have other : ∀ {b : D}, DV X.K H y b → D.pls 100 i = true ∧ D.pl 100 b = true ∧ R (f false) S → wpAny (model X.prog X.w) X.A (compareOp op v u) (EP X pins σ Q) X.xe s := by
        intro b hy ⟨p1, p2, q⟩
        have q1 := pys_lay 100 i p1
        refine data (da := .list (pyDs i)) (db := pyD b) (by rw [hx.loc_inv]; exact .lst (.inl (.inl h1)) (dps_of 100 i xs p1 ex)) (dp_of 100 _ y p2 hy) (by simp only [PyData.canLay0]; exact q1.1) (py_lay 100 _ p2).1 (.inl (by simp only [PyData.depth]; omega)) false (by cases b <;> simp [pyD, PyData.eqv]) (k.same r q)
      cases dy with
      | loc b =>
        obtain ⟨j, e2, p1, p2, q⟩ := h
        obtain ⟨ys, h2, ey⟩ := r.lst e2
        have q1 := pys_lay 100 i p1
        have q2 := pys_lay 100 j p2
        refine data (da := .list (pyDs i)) (db := .list (pyDs j)) (by rw [hx.loc_inv]; exact .lst (.inl (.inl h1)) (dps_of 100 i xs p1 ex)) (by rw [hy.loc_inv]; exact .lst (.inl (.inl h2)) (dps_of 100 j ys p2 ey))
          (by simp only [PyData.canLay0]; exact q1.1) (by simp only [PyData.canLay0]; exact q2.1) (.inl (by simp only [PyData.depth]; omega)) (eqds i j) (by simp only [PyData.eqv]; exact pys_eqv i j 100 100 p1 p2) (k.same r q)
      | _ => exact other hy h
    | dct i =>
      cases dy with
      | loc b =>
        obtain ⟨j, e2, p1, p2, q⟩ := (show ∃ j, S b = some (.dct j) ∧ vPl i = true ∧ vPl j = true ∧ R (f (eqKv i j)) S from h)
        obtain ⟨ps, h1, ex⟩ := r _ _ e1
        obtain ⟨qs, h2, ey⟩ := r _ _ e2
        obtain rfl : x = V.ref a := hx.loc_inv
        obtain rfl : y = V.ref b := hy.loc_inv
        obtain rfl : v = Value.ref a := rx
        obtain rfl : u = Value.ref b := ry
        obtain ⟨_, ya, va, ra, da⟩ := (show ObjOk X.prog X.w H s.heap a (.dK ps) from I.hok a _ h1)
        obtain ⟨_, yb, vb, rb, db⟩ := (show ObjOk X.prog X.w H s.heap b (.dK qs) from I.hok b _ h2)
        refine ruleD (r := i.all fun kv => match lookD j kv.1 with
          | some v => eqd kv.2 v
          | none => false) ya yb da db (by omega) (fun _ => hits_data I (by show X.A.units + 1 + 101 < cLine; omega) rb ey p2 ra ex p1) ⟨.bl _, H, I, rfl, ?_⟩
        have l1 : va.length = i.length := ra.length.symm.trans (Paired.length ex)
        have l2 : vb.length = j.length := rb.length.symm.trans (Paired.length ey)
        have e3 : (va.length == vb.length) = decide (i.length = j.length) := by rw [l1, l2]; exact Bool.beq_eq_decide_eq _ _
        rw [e3]
        exact k.same r q
      | non =>
        have q : R (f false) S := h
        obtain ⟨ps, h1, ex⟩ := r _ _ e1
        obtain rfl : x = V.ref a := hx.loc_inv
        obtain rfl : y = V.non := hy.non_inv
        obtain rfl : v = Value.ref a := rx
        obtain rfl : u = Value.none := ry
        obtain ⟨_, ya, va, ra, da⟩ := (show ObjOk X.prog X.w H s.heap a (.dK ps) from I.hok a _ h1)
        exact ruleN da (by omega) ⟨.bl _, H, I, rfl, k.same r q⟩
      | _ => exact h.elim
    | _ => exact h.elim
  | _ => exact pl h.1 h.2.1 hx hy h.2.2
theorem l_eq (hu : X.A.units + 200 < cLine) : OpR X (compareOp .Eq) (lift2B X.K (cmpW .eq)) := eq_core (f := fun b => b) hu (fun r1 r2 l1 l2 hu q => SeqAt.compareEq_reads r1 r2 l1 l2 hu q) (fun h1 h2 d1 d2 hu hits q => PySem.W.keq_eq h1 h2 d1 d2 hu hits q) fun d hu q => dict_eq_none d hu q
theorem l_ne (hu : X.A.units + 200 < cLine) : OpR X (compareOp .NotEq) (lift2B X.K (cmpW .ne)) := eq_core (f := fun b => !b) hu (fun r1 r2 l1 l2 hu q => SeqAt.compareNe_reads r1 r2 l1 l2 hu q) (fun h1 h2 d1 d2 hu hits q => PySem.W.keq_ne h1 h2 d1 d2 hu hits q) fun d hu q => dict_ne_none d hu q
end
theorem put_rel {K : PySem.W.Frag} {H : Hp} {k d : D} {v : V} (hk : keyOk k = true) (hv : DV K H v d) : ∀ {ps : List (Key × V)} {kvs : List (D × D)}, (ps.map (·.1)).Nodup → Paired (EntD K H) ps kvs → Paired (EntD K H) (putK ps (keyOf k) v) (putD kvs k d)
  | _, _, _, .nil => by
    show Paired (EntD K H) [(keyOf k, v)] [(k, d)]
    exact .cons ⟨keyD_of hk, hv⟩ .nil
  | p :: ps, q :: qs, nd, .cons h t => by
    obtain ⟨e, o⟩ := keyD_eq h.1
    obtain ⟨q1, q2⟩ := q
    obtain ⟨p1, p2⟩ := p
    have nd' : p1 ∉ ps.map (·.1) ∧ (ps.map (·.1)).Nodup := by simpa using nd
    have ih := put_rel hk hv nd'.2 t
    have e : p1 = keyOf q1 := e
    show Paired (EntD K H) (putK ((p1, p2) :: ps) (keyOf k) v) (if q1 = k then (q1, d) :: qs else (q1, q2) :: putD qs k d)
    by_cases c : q1 = k
    · rw [if_pos c]
      subst c
      have m : ∀ x ∈ ps, ¬ x.1 = keyOf q1 := fun x hx z => nd'.1 (by rw [e, ← z]; exact List.mem_map.mpr ⟨x, hx, rfl⟩)
      have hp : putK ((p1, p2) :: ps) (keyOf q1) v = (p1, v) :: ps := by
        unfold putK
        rw [if_pos (by simp [e])]
        rw [List.map_cons, if_pos e]
        congr 1
        conv => rhs; rw [← List.map_id ps]
        exact List.map_congr_left fun x hx => if_neg (m x hx)
      rw [hp]
      exact .cons ⟨h.1, hv⟩ t
    · rw [if_neg c]
      have ne : ¬ p1 = keyOf k := fun z => c (keyOf_inj o hk (e.symm.trans z))
      have hp : putK ((p1, p2) :: ps) (keyOf k) v = (p1, p2) :: putK ps (keyOf k) v := by
        unfold putK
        by_cases a : (ps.any fun kv => decide (kv.1 = keyOf k)) = true
        · rw [if_pos (by rw [List.any_cons, a, Bool.or_true]), if_pos a, List.map_cons, if_neg ne]
        · rw [if_neg (by rw [List.any_cons, decide_eq_false ne, Bool.false_or]; exact a), if_neg a, List.cons_append]
      rw [hp]
      exact .cons h ih

theorem in_core {op : CmpOp} {neg : Bool} {f : Bool → Bool} (hf : ∀ b, f b = if neg then !b else b) (hu : X.A.units + 200 < cLine)
    (seqL : ∀ {s : Shared} {a : Value} {l : Value} {da : PyData} {ds : List PyData} {as bs : List Addr} {Q : Value → Shared → Prop}, Reads s.heap a da as → Reads s.heap l (.list ds) bs → da.canLay0 = true → (PyData.list ds).canLay0 = true → da.depth ≤ 100 → (PyData.list ds).depth ≤ 101 →
      Q (.bool (f (ds.any fun z => PyData.eqv z da))) s → wpAny (model X.prog X.w) X.A (compareOp op a l) Q X.xe s)
    (seqT : ∀ {s : Shared} {a : Value} {l : Value} {da : PyData} {ds : List PyData} {as bs : List Addr} {Q : Value → Shared → Prop}, Reads s.heap a da as → Reads s.heap l (.tuple ds) bs → da.canLay0 = true → (PyData.tuple ds).canLay0 = true → da.depth ≤ 100 → (PyData.tuple ds).depth ≤ 101 →
      Q (.bool (f (ds.any fun z => PyData.eqv z da))) s → wpAny (model X.prog X.w) X.A (compareOp op a l) Q X.xe s)
    (dct : ∀ {pins : List (Addr × Obj)} {σ : L2.St} {H : Hp} {s : Shared} {a : Addr} {y : V} {u : Value} {o : Option V} {Q : Value → Shared → Prop}, Inv X pins σ H s → DGet H a y o → RelV y u → (∀ s', Inv X pins σ H s' → Q (.bool (f o.isSome)) s') → wpAny (model X.prog X.w) X.A (compareOp op u (.ref a)) Q X.xe s) :
    OpR X (compareOp op) (lift2B X.K fun x y S R => inW x y S fun b S' => R (f b) S') := by
  intro pins s σ H x y v u Q I rx ry ⟨dx, dy, S, R, hx, hy, r, h, k⟩
  cases dy with
  | tup ys =>
    obtain ⟨p1, p2, q⟩ := h
    obtain ⟨as, r1⟩ := Dp.reads I _ x v (dp_of 100 dx x p1 hx) rx
    obtain ⟨b, xs, rfl, qy, ey⟩ := hy.tup_inv
    obtain ⟨bs, r2⟩ := Dp.reads I (.tuple (pyDs ys)) _ u (.tup qy (dps_of 100 ys xs p2 ey)) ry
    have l1 := py_lay 100 dx p1
    have l2 := pys_lay 100 ys p2
    refine seqT r1 r2 l1.1 (by simp only [PyData.canLay0]; exact l2.1) l1.2 (by simp only [PyData.depth]; omega) ⟨.bl _, H, I, rfl, ?_⟩
    rw [pyDs_any dx 100 p1 ys p2]
    exact k.same r q
  | loc a =>
    have e := hy.loc_inv
    subst e
    cases (show u = Value.ref a from ry)
    obtain ⟨o, e, h⟩ := h
    cases o with
    | lst ys =>
      obtain ⟨p1, p2, q⟩ := h
      obtain ⟨xs, h1, ey⟩ := r.lst e
      obtain ⟨as, r1⟩ := Dp.reads I _ x v (dp_of 100 dx x p1 hx) rx
      obtain ⟨bs, r2⟩ := Dp.reads I (.list (pyDs ys)) _ (.ref a) (.lst (.inl (.inl h1)) (dps_of 100 ys xs p2 ey)) rfl
      have l1 := py_lay 100 dx p1
      have l2 := pys_lay 100 ys p2
      refine seqL r1 r2 l1.1 (by simp only [PyData.canLay0]; exact l2.1) l1.2 (by simp only [PyData.depth]; omega) ⟨.bl _, H, I, rfl, ?_⟩
      rw [pyDs_any dx 100 p1 ys p2]
      exact k.same r q
    | dct kvs =>
      obtain ⟨p1, q⟩ := h
      obtain ⟨ps, h1, ep⟩ := r.dct e
      have ek := kV_dv hx p1
      subst ek
      exact dct I (.inl ⟨ps, _, .inl h1, rfl, rfl⟩) rx fun s' I' => ⟨.bl _, H, I', rfl, by rw [look_some p1 ep]; exact k.same r q⟩
    | frz kvs =>
      obtain ⟨p1, q⟩ := h
      obtain ⟨ob, ps, h1, ep⟩ := r.frz e
      have ek := kV_dv hx p1
      subst ek
      exact dct I (.inl ⟨ps, _, .inr ⟨ob, h1⟩, rfl, rfl⟩) rx fun s' I' => ⟨.bl _, H, I', rfl, by rw [look_some p1 ep]; exact k.same r q⟩
  | _ => exact h.elim

theorem room_in101 {A : Around} {ds : List PyData} {d : PyData} (hd : d.depth ≤ 100) (hu : A.units + 200 < cLine) : A.units + 1 + min (PyData.depthAll ds) d.depth < cLine := by
  have h2 : min (PyData.depthAll ds) d.depth ≤ d.depth := Nat.min_le_right _ _
  omega
theorem l_inn (hu : X.A.units + 200 < cLine) : OpR X (compareOp .In) (lift2B X.K (cmpW .inn)) := in_core (neg := false) (f := fun b => b) (fun _ => rfl) hu
  (fun r1 r2 l1 l2 d1 _ q => SeqAt.in_list_reads r2 r1 l2 l1 (room_in101 d1 hu) q) (fun r1 r2 l1 l2 d1 _ q => SeqAt.in_tuple_reads r2 r1 l2 l1 (room_in101 d1 hu) q) (fun I g r h => d_in (by omega) I g r h)
theorem l_notin (hu : X.A.units + 200 < cLine) : OpR X (compareOp .NotIn) (lift2B X.K (cmpW .notin)) := in_core (neg := true) (f := fun b => !b) (fun _ => rfl) hu
  (fun r1 r2 l1 l2 d1 _ q => SeqAt.notIn_list_reads r2 r1 l2 l1 (room_in101 d1 hu) q) (fun r1 r2 l1 l2 d1 _ q => SeqAt.notIn_tuple_reads r2 r1 l2 l1 (room_in101 d1 hu) q) (fun I g r h => d_notIn (by omega) I g r h)

/-! ### subscripts -/
theorem atI_rel {K : PySem.W.Frag} {H : Hp} {xs : List V} {ds : List D} {i : Int} {d : D} (h : DVs K H xs ds) (e : atD ds i = some d) : ∃ v, atI xs i = some v ∧ DV K H v d := by
  unfold atD atI at e
  unfold atI
  rw [h.length]
  cases q : ixN ds.length i with
  | none => rw [q] at e; cases e
  | some j =>
    rw [q] at e
    exact h.get e
theorem ixd_dict (hu : X.A.units + 200 < cLine) : IxR X (fun x y H Q => ∃ a v, x = .ref a ∧ DGet H a y (some v) ∧ Q v H) := by
  intro value slice pins s σ H x y v u Q I rx ry h hs
  obtain ⟨a, w, rfl, g, q⟩ := h
  cases (show v = Value.ref a from rx)
  unfold PyProof.Rows.subscriptTail
  refine wpAny_bind ?_
  have hT := dict_typeIs I g
  rw [getitemInPython_of_ne hT.not_modules]
  refine wpAny_bind (wpAny_specialOf hT PySem.F.slot_dict_getitem.lookup ?_)
  have h2 : wpAny (model X.prog X.w) X.A (getItem (.ref a) u) (EP X pins σ Q) X.xe s := d_getItem (by omega) I g ry fun w' s3 I3 rw' => ⟨w, H, I3, rw', q⟩
  have fin : wpAny (model X.prog X.w) X.A (subscripted slice false (.ref a) u) (fun r s₃ => wpAny (model X.prog X.w) X.A (letTemporaryGo value (.ref a) r >>= fun _ => pure r) (EP X pins σ Q) X.xe s₃) X.xe s := by
    rw [hs]
    exact wpAny_operating (wpAny_mono h2 (fun r s₃ h₃ => wpAny_bind (wpAny_letTemporaryGo (wpAny_pure h₃))) fun _ _ x => x)
  first
    | exact wpAny_pure (wpAny_bind fin)
    | exact wpAny_bind (wpAny_pure (wpAny_bind fin))
    | exact wpAny_bind fin
theorem ofS_at (s : String) (i : Int) (c : Char) (h : atD s.toList i = some c) : atI (Str.ofString s).cps.toList i = some c.toNat := by
  rw [Str.ofString_eq_toList]
  unfold atD atI at h
  unfold atI
  simp only [List.length_map]
  cases q : ixN s.toList.length i with
  | none => rw [q] at h; cases h
  | some j =>
    rw [q] at h
    show (s.toList.map Char.toNat)[j]? = some c.toNat
    have h : s.toList[j]? = some c := h
    rw [List.getElem?_map, h]
    rfl
theorem ofS_one (c : Char) : (⟨#[c.toNat]⟩ : Str) = Str.ofString (String.ofList [c]) := by
  rw [Str.ofString_eq_toList]
  simp
theorem l_sub_ix (hu : X.A.units + 200 < cLine) : IxR X (lift2 X.K subW) := by
  intro value slice pins s σ H x y v u Q I rx ry ⟨dx, dy, S, R, hx, hy, r, h, k⟩ hs
  have seq : ∀ {ds : List D} {i : Int}, dy = .int i → (∃ a xs, x = .ref a ∧ (SqL X.K H a xs ∨ SqT X.K H a xs) ∧ DVs X.K H xs ds) → (∃ d, atD ds i = some d ∧ R d S) → wpAny (model X.prog X.w) X.A (PyProof.Rows.subscriptTail value slice v u) (EP X pins σ Q) X.xe s := by
    intro ds i e1 ⟨a, xs, ex, hq, ev⟩ ⟨d, e2, q⟩
    subst e1
    obtain ⟨w, e3, hw⟩ := atI_rel ev e2
    rcases hq with hq | hq
    · exact ix_list value slice pins s σ H x y v u Q I rx ry ⟨a, xs, i, w, ex, hy.int_inv, hq, e3, k.same r q hw⟩ hs
    · exact ix_tup value slice pins s σ H x y v u Q I rx ry ⟨a, xs, i, w, ex, hy.int_inv, hq, e3, k.same r q hw⟩ hs
  have dct : ∀ {kvs : List (D × D)} {ps : List (Key × V)} {a : Addr}, x = .ref a → Rd H a (.dK ps) → Paired (EntD X.K H) ps kvs → keyOk dy = true → (∃ d, lookD kvs dy = some d ∧ R d S) → wpAny (model X.prog X.w) X.A (PyProof.Rows.subscriptTail value slice v u) (EP X pins σ Q) X.xe s := by
    intro kvs ps a ex hr ep ho ⟨d, e2, q⟩
    obtain ⟨w, e3, hw⟩ := (look_rel ho ep).1 d e2
    exact ixd_dict hu value slice pins s σ H x y v u Q I rx ry ⟨a, w, ex, .inl ⟨ps, keyOf dy, hr, kV_dv hy ho, e3.symm⟩, k.same r q hw⟩ hs
  cases dx with
  | tup xs =>
    have h : idxW xs dy S R := h
    cases dy with
    | int i =>
      obtain ⟨a, ys, ex, q, e⟩ := hx.tup_inv
      exact seq rfl ⟨a, ys, ex, .inr q, e⟩ h
    | _ => exact h.elim
  | str z =>
    have h : sgnW z dy S R := h
    cases dy with
    | int i =>
      obtain ⟨hl, c, e, q⟩ := h
      exact ix_str value slice pins s σ H x y v u Q I rx ry ⟨_, i, _, hx.str_inv, hy.int_inv, ofS_length_le (n := 0) hl, ofS_at z i c e, by rw [ofS_one]; exact k.same r q (.str _)⟩ hs
    | _ => exact h.elim
  | loc a =>
    obtain ⟨o, e, h⟩ := h
    cases o with
    | lst xs =>
      have h : idxW xs dy S R := h
      cases dy with
      | int i =>
        obtain ⟨ys, h1, e1⟩ := r.lst e
        exact seq rfl ⟨a, ys, hx.loc_inv, .inl (.inl (.inl h1)), e1⟩ h
      | _ => exact h.elim
    | dct kvs =>
      obtain ⟨ps, h1, e1⟩ := r.dct e
      exact dct hx.loc_inv (.inl h1) e1 h.1 h.2
    | frz kvs =>
      obtain ⟨ob, ps, h1, e1⟩ := r.frz e
      exact dct hx.loc_inv (.inr ⟨ob, h1⟩) e1 h.1 h.2
  | _ => exact h.elim

/-! ### slices -/
def liftSl (K : PySem.W.Frag) : V → Option Int → Option Int → Hp → VK → Prop := fun x lo hi H Q => ∃ dx S R, DV K H x dx ∧ SRel K H S ∧ slcW dx lo hi S R ∧ Hold K H S R Q
theorem cutD_map {α β : Type} (f : α → β) (xs : List α) (lo hi : Option Int) : (cutD xs lo hi).map f = cutD (xs.map f) lo hi := by
  unfold cutD
  rw [List.map_take, List.map_drop, List.length_map]
theorem cut_rel {K : PySem.W.Frag} {H : Hp} {xs : List V} {ds : List D} (h : DVs K H xs ds) (lo hi : Option Int) : DVs K H (cutV xs lo hi) (cutD ds lo hi) := by
  unfold cutV cutD
  rw [h.length]
  exact DVs.take _ (DVs.drop _ h)
theorem cut_whole {α : Type} {ds : List α} {lo hi : Option Int} (h : HT.sIx ds.length 0 lo = 0 ∧ HT.sIx ds.length ds.length hi = ds.length) : cutD ds lo hi = ds := by
  unfold cutD
  rw [h.1, h.2, List.drop_zero, Nat.sub_zero, List.take_length]
theorem ofS_cut (s : String) (lo hi : Option Int) : cutS (Str.ofString s) lo hi = Str.ofString (String.ofList (cutD s.toList lo hi)) := by
  rw [Str.ofString_eq_toList, Str.ofString_eq_toList]
  unfold cutS
  rw [String.toList_ofList, cutD_map]
  unfold cutD Str.length
  simp
theorem l_slc : SlR X (liftSl X.K) := by
  intro pins s σ H x v vl vu lo hi sl Q I rx hs pl pu ⟨dx, S, R, hx, r, h, k⟩
  cases dx with
  | tup xs =>
    obtain ⟨a, ys, rfl, q, e⟩ := hx.tup_inv
    have h : R (.tup (cutD xs lo hi)) S := h
    refine sl_tupA pins s σ H _ v vl vu lo hi sl Q I rx hs pl pu ⟨a, ys, rfl, q, fun w => ?_, fun _ => k.tup r h (cut_rel e lo hi)⟩
    rw [e.length] at w
    rw [cut_whole w] at h
    exact k.same r h (.tup q e)
  | str z =>
    obtain ⟨hl, q⟩ := h
    exact sl_str pins s σ H _ v vl vu lo hi sl Q I rx hs pl pu ⟨_, hx.str_inv, ofS_length_le (n := 0) hl, by rw [ofS_cut]; exact k.same r q (.str _)⟩
  | loc a =>
    obtain ⟨o, e, q⟩ := h
    cases o with
    | lst xs =>
      obtain ⟨ys, h1, e1⟩ := r.lst e
      exact sl_list pins s σ H _ v vl vu lo hi sl Q I rx hs pl pu ⟨a, ys, hx.loc_inv, .inl (.inl h1), k.lst r q (cut_rel e1 lo hi)⟩
    | _ => exact q.elim
  | scr ns =>
    obtain ⟨a, ex, e⟩ := hx.scr_inv
    exact sl_list pins s σ H _ v vl vu lo hi sl Q I rx hs pl pu ⟨a, _, ex, e.sq, k.lst r h (cut_rel (dvs_ints ns) lo hi)⟩
  | _ => exact h.elim

/-! ### o[i] = v -/
def liftSet (K : PySem.W.Frag) : TSet := fun o i v H Q => ∃ do_ di dv S R, DV K H o do_ ∧ DV K H i di ∧ DV K H v dv ∧ SRel K H S ∧ setW do_ di dv S R ∧ ∀ S' H', R S' → Frame H S H' S' → SRel K H' S' → Q H'
theorem l_set (hu : X.A.units + 200 < cLine) : PSet X (liftSet X.K) := by
  intro pins s σ H o i v ov iv u Q I ro ri rv ⟨do_, di, dv, S, R, ho, hi, hv, r, h, k⟩
  cases do_ with
  | loc a =>
    obtain ⟨ob, e, h⟩ := h
    have eo := ho.loc_inv
    subst eo
    cases ob with
    | lst xs =>
      have h : setL a xs di dv S R := h
      cases di with
      | int j =>
        obtain ⟨n, e2, q⟩ := h
        obtain ⟨ys, h1, e1⟩ := r.lst e
        refine set_list pins s σ H _ i v ov iv u Q I ro ri rv ⟨a, ys, j, n, rfl, hi.int_inv, h1, by rw [e1.length]; exact e2, ?_⟩
        exact k _ _ q (frame_set r e) (srel_set r e ⟨_, L2.upd_same, DVs.mono (stay_set r e) (DVs.set n hv e1)⟩)
      | _ => exact h.elim
    | dct kvs =>
      obtain ⟨hk, hl, q⟩ := h
      obtain ⟨ps, h1, e1⟩ := r.dct e
      cases (show ov = Value.ref a from ro)
      obtain ⟨z, hd, vs, rel, dd⟩ := dk_of I.hok h1
      have nd : (ps.map (·.1)).Nodup := by
        rw [rel.keys]
        obtain ⟨_, _, _, _, _, _, _, _, nd⟩ := dd
        exact nd
      have el : ps.length = kvs.length := Paired.length e1
      have ei := kV_dv hi hk
      subst ei
      refine d_setItem (by omega) I (DPut.k h1 (by omega)) ri rv fun s' I' => ⟨_, I', k _ _ q (frame_set r e) (srel_set r e ⟨_, L2.upd_same, ?_⟩)⟩
      exact L2.Paired.mapP (put_rel hk hv nd e1) fun _ _ x => x.mono (stay_set r e)
    | frz kvs => exact h.elim
  | _ => exact h.elim
end
end Y

namespace Y
open PySem PySem.Spec L2

/-! ### built-ins by values -/
def liftC (K : PySem.W.Frag) (f : List D → Store → DVK → Prop) : List V → Hp → VK → Prop := fun xs H Q => ∃ ds S R, DVs K H xs ds ∧ SRel K H S ∧ f ds S R ∧ Hold K H S R Q
theorem greatest_ok : ∀ {ns : List Int} {m : Int}, m ∈ ns → (∀ y, y ∈ ns → y ≤ m) → m = greatest ns
  | [], m, h, _ => by cases h
  | [a], m, h, _ => by simpa [greatest] using h
  | a :: b :: r, m, h, hm => by
    show m = max a (greatest (b :: r))
    have h2 : ∀ {ns : List Int}, ns ≠ [] → greatest ns ∈ ns ∧ ∀ y ∈ ns, y ≤ greatest ns := by
      intro ns
      induction ns with
      | nil => intro z; exact absurd rfl z
      | cons x xs ih =>
        intro _
        cases xs with
        | nil => exact ⟨by simp [greatest], by simp [greatest]⟩
        | cons y ys =>
          obtain ⟨i1, i2⟩ := ih (by simp)
          show max x (greatest (y :: ys)) ∈ _ ∧ ∀ z ∈ _, z ≤ max x (greatest (y :: ys))
          refine ⟨?_, fun z hz => ?_⟩
          · by_cases c : x ≤ greatest (y :: ys)
            · rw [show max x (greatest (y :: ys)) = greatest (y :: ys) by omega]; exact List.mem_cons_of_mem _ i1
            · rw [show max x (greatest (y :: ys)) = x by omega]; exact List.mem_cons_self
          · rcases List.mem_cons.mp hz with e | e
            · omega
            · have := i2 z e; omega
    obtain ⟨g1, g2⟩ := h2 (ns := a :: b :: r) (by simp)
    have := hm _ g1
    have := g2 _ h
    have e : greatest (a :: b :: r) = max a (greatest (b :: r)) := rfl
    omega
section
variable {K : PySem.W.Frag} {H : Hp}
theorem DVs.one_inv {xs : List V} {d : D} (h : DVs K H xs [d]) : ∃ x, xs = [x] ∧ DV K H x d := by
  cases h with | cons a b => cases b; exact ⟨_, rfl, a⟩
theorem DVs.two_inv {xs : List V} {d e : D} (h : DVs K H xs [d, e]) : ∃ x y, xs = [x, y] ∧ DV K H x d ∧ DV K H y e := by
  cases h with | cons a b => cases b with | cons b c => cases c; exact ⟨_, _, rfl, a, b⟩
theorem ints_rel : ∀ {ds : List D} {ns : List Int} {xs : List V}, intsD ds = some ns → DVs K H xs ds → xs = ns.map V.int
  | [], ns, _, e, .nil => by cases e; rfl
  | d :: ds, ns, _, e, .cons h t => by
    cases d with
    | int i =>
      unfold intsD at e
      obtain ⟨ms, e1, e2⟩ := Option.map_eq_some_iff.mp e
      subst e2
      rw [h.int_inv, ints_rel e1 t]
      rfl
    | _ => cases e
theorem bools_rel : ∀ {ds : List D} {ns : List Bool} {xs : List V}, boolsD ds = some ns → DVs K H xs ds → xs = ns.map V.bl
  | [], ns, _, e, .nil => by cases e; rfl
  | d :: ds, ns, _, e, .cons h t => by
    cases d with
    | bl i =>
      unfold boolsD at e
      obtain ⟨ms, e1, e2⟩ := Option.map_eq_some_iff.mp e
      subst e2
      rw [h.bl_inv, bools_rel e1 t]
      rfl
    | _ => cases e
theorem pairs_rel : ∀ {ds : List D} {kvs : List (D × D)} {xs : List V}, pairsD ds = some kvs → DVs K H xs ds → ∃ (ps : List Addr) (es : List (Key × V)), xs = ps.map V.ref ∧ Paired (fun p kv => SqT K H p [kV kv.1, kv.2]) ps es ∧ Paired (EntD K H) es kvs
  | [], _, _, e, .nil => by cases e; exact ⟨[], [], rfl, .nil, .nil⟩
  | d :: ds, kvs, _, e, .cons h t => by
    cases d with
    | tup l =>
      match l, h, e with
      | [k, v], h, e =>
        unfold pairsD at e
        split at e
        · rename_i hk
          obtain ⟨ms, e1, e2⟩ := Option.map_eq_some_iff.mp e
          subst e2
          obtain ⟨ps, es, r1, r2, r3⟩ := pairs_rel e1 t
          obtain ⟨a, ys, ex, q, hv⟩ := h.tup_inv
          obtain ⟨y1, y2, ey, d1, d2⟩ := hv.two_inv
          subst ex ey
          refine ⟨a :: ps, (keyOf k, y2) :: es, by rw [r1]; rfl, .cons ?_ r2, .cons ⟨keyD_of hk, d2⟩ r3⟩
          rw [← kV_dv d1 hk]
          exact q
        · cases e
      | [], _, e => cases e
      | [_], _, e => cases e
      | _ :: _ :: _ :: _, _, e => cases e
    | _ => cases e
theorem putK_nodup {ps : List (Key × V)} {k : Key} {v : V} (h : (ps.map (·.1)).Nodup) : ((putK ps k v).map (·.1)).Nodup := by
  cases e : valV ps k with
  | none => exact nd_putK v h e
  | some w =>
    unfold putK
    have : (ps.any fun kv => decide (kv.1 = k)) = true := by rw [valV_any, e]; rfl
    rw [if_pos this, List.map_map]
    have e2 : ((fun x : Key × V => x.1) ∘ fun kv => if kv.1 = k then (kv.1, v) else kv) = fun x => x.1 := by
      funext x
      show (if x.1 = k then (x.1, v) else x).1 = x.1
      split <;> rfl
    rw [e2]
    exact h
theorem merge_rel : ∀ {more : List (Key × V)} {kvs : List (D × D)} {ps : List (Key × V)} {qs : List (D × D)}, (ps.map (·.1)).Nodup → Paired (EntD K H) ps qs → Paired (EntD K H) more kvs →
    Paired (EntD K H) (mergeK ps more) (kvs.foldl (fun acc kv => putD acc kv.1 kv.2) qs)
  | [], [], _, _, _, h, .nil => h
  | p :: more, q :: kvs, ps, qs, nd, h, .cons a t => by
    obtain ⟨e, o⟩ := keyD_eq a.1
    show Paired (EntD K H) (mergeK (putK ps p.1 p.2) more) (kvs.foldl _ (putD qs q.1 q.2))
    rw [e]
    exact merge_rel (putK_nodup nd) (put_rel o a.2 nd h) t
/-- a new dict -/
theorem Hold.dct {S : Store} {R : DVK} {Q : VK} (h : Hold K H S R Q) (r : SRel K H S) {ps : List (Key × V)} {kvs : List (D × D)} (q : ∀ p, S p = none → R (.loc p) (S.upd p (.dct kvs))) (x : Paired (EntD K H) ps kvs) : ∀ p, H p = none → Q (.ref p) (L2.upd H p (.dK ps)) := fun p hp =>
  h.go _ _ _ _ (q p (r.fresh hp)) (frame_new hp) (.loc p) (srel_new r hp ⟨ps, L2.upd_same, L2.Paired.mapP x fun _ _ z => z.mono (stay_new hp)⟩)
theorem keys_rel : ∀ {ps : List (Key × V)} {kvs : List (D × D)}, Paired (EntD K H) ps kvs → DVs K H (ps.map fun kv => kV kv.1) (kvs.map (·.1))
  | _, _, .nil => .nil
  | _, _, .cons h t => .cons (dv_kV h.1) (keys_rel t)
theorem vals_rel : ∀ {ps : List (Key × V)} {kvs : List (D × D)}, Paired (EntD K H) ps kvs → DVs K H (ps.map (·.2)) (kvs.map (·.2))
  | _, _, .nil => .nil
  | _, _, .cons h t => .cons h.2 (vals_rel t)
end
section
variable {X : Cx}
/-- a call of one argument -/
theorem l_one {f : Value} {g : D → Store → DVK → Prop} (h : ∀ (pins : List (Addr × Obj)) (s : Shared) (σ : L2.St) (H : Hp) (x : V) (us : List Value) (Q : VK) (dx : D) (S : Store) (R : DVK),
    Inv X pins σ H s → Vals [x] us → DV X.K H x dx → SRel X.K H S → g dx S R → Hold X.K H S R Q → wpAny (model X.prog X.w) X.A (PySem.call f us) (EP X pins σ Q) X.xe s) : CallR X f (liftC X.K (one g)) := by
  intro pins s σ H xs us Q I rv ⟨ds, S, R, hx, r, hg, k⟩
  match ds, hx, hg with
  | [d], hx, hg =>
    obtain ⟨x, ex, hx1⟩ := hx.one_inv
    subst ex
    exact h pins s σ H x us Q d S R I rv hx1 r hg k
  | [], _, hg => exact hg.elim
  | _ :: _ :: _, _, hg => exact hg.elim
theorem l_two {f : Value} {g : D → D → Store → DVK → Prop} (h : ∀ (pins : List (Addr × Obj)) (s : Shared) (σ : L2.St) (H : Hp) (x y : V) (us : List Value) (Q : VK) (dx dy : D) (S : Store) (R : DVK),
    Inv X pins σ H s → Vals [x, y] us → DV X.K H x dx → DV X.K H y dy → SRel X.K H S → g dx dy S R → Hold X.K H S R Q → wpAny (model X.prog X.w) X.A (PySem.call f us) (EP X pins σ Q) X.xe s) : CallR X f (liftC X.K (two g)) := by
  intro pins s σ H xs us Q I rv ⟨ds, S, R, hx, r, hg, k⟩
  match ds, hx, hg with
  | [d, e], hx, hg =>
    obtain ⟨x, y, ex, hx1, hy1⟩ := hx.two_inv
    subst ex
    exact h pins s σ H x y us Q d e S R I rv hx1 hy1 r hg k
  | [], _, hg => exact hg.elim
  | [_], _, hg => exact hg.elim
  | _ :: _ :: _ :: _, _, hg => exact hg.elim
/-- a call of one object that may change -/
theorem l_at {f : Value} {g : MO → Store → DVK → Prop} (h : ∀ (pins : List (Addr × Obj)) (s : Shared) (σ : L2.St) (H : Hp) (a : Addr) (us : List Value) (Q : VK) (o : MO) (S : Store) (R : DVK),
    Inv X pins σ H s → Vals [.ref a] us → S a = some o → SRel X.K H S → g o S R → Hold X.K H S R Q → wpAny (model X.prog X.w) X.A (PySem.call f us) (EP X pins σ Q) X.xe s) : CallR X f (liftC X.K (one (atLoc g))) := by
  refine l_one fun pins s σ H x us Q dx S R I rv hx r hg k => ?_
  cases dx with
  | loc a =>
    obtain ⟨o, e, hg⟩ := hg
    have ex := hx.loc_inv
    subst ex
    exact h pins s σ H a us Q o S R I rv e r hg k
  | _ => exact hg.elim
theorem b_len : CallR X (.builtin "len") (liftC X.K (biW .len)) := by
  refine l_one fun pins s σ H x us Q dx S R I rv hx r h k => ?_
  cases dx with
  | tup ys =>
    obtain ⟨a, zs, rfl, q, e⟩ := hx.tup_inv
    exact call_len pins s σ H _ us Q I rv ⟨_, zs.length, rfl, .inr ⟨zs, q, rfl⟩, by rw [e.length]; exact k.same r h (.int _)⟩
  | str z => exact call_len pins s σ H _ us Q I rv ⟨_, (Str.ofString z).length, rfl, by rw [hx.str_inv]; exact ⟨ofS_length_le (n := 0) h.1, rfl⟩, by rw [ofS_len]; exact k.same r h.2 (.int _)⟩
  | loc a =>
    obtain ⟨o, e, h⟩ := h
    have ex := hx.loc_inv
    subst ex
    cases o with
    | lst ys =>
      obtain ⟨zs, h1, e1⟩ := r.lst e
      exact call_len pins s σ H _ us Q I rv ⟨_, zs.length, rfl, .inl ⟨zs, .inl (.inl h1), rfl⟩, by rw [e1.length]; exact k.same r h (.int _)⟩
    | dct ys =>
      obtain ⟨zs, h1, e1⟩ := r.dct e
      obtain ⟨u, rfl, ru⟩ := vals1 rv
      cases ru
      exact d_len I (.inl h1) fun t s' I' => ⟨.int zs.length, H, I', ⟨t, rfl⟩, by rw [Paired.length e1]; exact k.same r h (.int _)⟩
    | frz ys =>
      obtain ⟨ob, zs, h1, e1⟩ := r.frz e
      obtain ⟨u, rfl, ru⟩ := vals1 rv
      cases ru
      exact d_len I (.inr ⟨ob, h1⟩) fun t s' I' => ⟨.int zs.length, H, I', ⟨t, rfl⟩, by rw [Paired.length e1]; exact k.same r h (.int _)⟩
  | _ => exact h.elim
theorem b_int : CallR X (.type "int") (liftC X.K (biW .int)) := by
  refine l_one fun pins s σ H x us Q dx S R I rv hx r h k => ?_
  cases dx with
  | int i => exact call_int1 pins s σ H _ us Q I rv (.inl ⟨i, by rw [hx.int_inv], k.same r h (.int _)⟩)
  | bl i => exact call_int1 pins s σ H _ us Q I rv (.inr ⟨i, by rw [hx.bl_inv], k.same r h (.int _)⟩)
  | _ => exact h.elim
theorem b_list (hc : X.calm = true) : CallR X (.type "list") (liftC X.K (biW .list)) := by
  refine l_one fun pins s σ H x us Q dx S R I rv hx r h k => ?_
  cases dx with
  | tup ys =>
    obtain ⟨a, zs, rfl, q, e⟩ := hx.tup_inv
    exact call_list_of pins s σ H _ us Q I rv ⟨a, zs, rfl, .inr q, k.lst r h e⟩
  | scr ns =>
    obtain ⟨a, ex, e⟩ := hx.scr_inv
    subst ex
    exact call_list_of pins s σ H _ us Q I rv ⟨a, _, rfl, .inl e.sq, k.lst r h (dvs_ints ns)⟩
  | loc a =>
    obtain ⟨o, e, h⟩ := h
    have ex := hx.loc_inv
    subst ex
    cases o with
    | lst ys =>
      obtain ⟨zs, h1, e1⟩ := r.lst e
      exact call_list_of pins s σ H _ us Q I rv ⟨a, zs, rfl, .inl (.inl (.inl h1)), k.lst r h e1⟩
    | dct ys =>
      obtain ⟨zs, h1, e1⟩ := r.dct e
      exact call_listD hc pins s σ H _ us Q I rv ⟨a, zs, rfl, .inl h1, k.lst r h (keys_rel e1)⟩
    | frz ys => exact h.elim
  | _ => exact h.elim
theorem b_tuple : CallR X (.type "tuple") (liftC X.K (biW .tuple)) := by
  refine l_one fun pins s σ H x us Q dx S R I rv hx r h k => ?_
  cases dx with
  | tup ys =>
    obtain ⟨a, zs, rfl, q, e⟩ := hx.tup_inv
    exact call_tuple_of pins s σ H _ us Q I rv ⟨a, zs, rfl, .inr ⟨q, k.same r h (.tup q e)⟩⟩
  | loc a =>
    obtain ⟨o, e, h⟩ := h
    have ex := hx.loc_inv
    subst ex
    cases o with
    | lst ys =>
      obtain ⟨zs, h1, e1⟩ := r.lst e
      exact call_tuple_of pins s σ H _ us Q I rv ⟨a, zs, rfl, .inl ⟨.inl (.inl h1), k.tup r h e1⟩⟩
    | _ => exact h.elim
  | _ => exact h.elim
theorem b_dict (hc : X.calm = true) : CallR X (.type "dict") (liftC X.K (biW .dict)) := by
  refine l_at fun pins s σ H a us Q o S R I rv e r h k => ?_
  cases o with
  | lst ys =>
    obtain ⟨kvs, e2, h⟩ := h
    obtain ⟨zs, h1, e1⟩ := r.lst e
    obtain ⟨ps, es, rfl, r2, r3⟩ := pairs_rel e2 e1
    exact call_dictP hc pins s σ H _ us Q I rv ⟨a, ps, es, rfl, .inl (.inl h1), r2, k.dct r h (merge_rel (by simp) .nil r3)⟩
  | dct ys =>
    obtain ⟨zs, h1, e1⟩ := r.dct e
    exact call_dictD pins s σ H _ us Q I rv ⟨a, zs, rfl, .inl h1, k.dct r h e1⟩
  | frz ys => exact h.elim
theorem b_max (hc : X.calm = true) : CallR X (.builtin "max") (liftC X.K (biW .max)) := by
  refine l_at fun pins s σ H a us Q o S R I rv e r h k => ?_
  cases o with
  | lst ys =>
    obtain ⟨ns, e2, e3, h⟩ := h
    obtain ⟨zs, h1, e1⟩ := r.lst e
    have ez := ints_rel e2 e1
    subst ez
    refine cr_max hc pins s σ H _ us Q I rv ⟨a, ns, rfl, .inl (.inl h1), List.length_pos_iff.mpr e3, fun m hm hy => ?_⟩
    rw [greatest_ok hm hy]
    exact k.same r h (.int _)
  | _ => exact h.elim
theorem b_sum (hc : X.calm = true) : CallR X (.builtin "sum") (liftC X.K (biW .sum)) := by
  refine l_at fun pins s σ H a us Q o S R I rv e r h k => ?_
  cases o with
  | lst ys =>
    obtain ⟨ns, e2, h⟩ := h
    obtain ⟨zs, h1, e1⟩ := r.lst e
    have ez := ints_rel e2 e1
    subst ez
    exact cr_sum hc pins s σ H _ us Q I rv ⟨a, ns, rfl, .inl (.inl h1), k.same r h (.int _)⟩
  | _ => exact h.elim
theorem b_any (hc : X.calm = true) : CallR X (.builtin "any") (liftC X.K (biW .any)) := by
  refine l_at fun pins s σ H a us Q o S R I rv e r h k => ?_
  cases o with
  | lst ys =>
    obtain ⟨bs, e2, h⟩ := h
    obtain ⟨zs, h1, e1⟩ := r.lst e
    have ez := bools_rel e2 e1
    subst ez
    exact cr_any hc pins s σ H _ us Q I rv ⟨a, bs, rfl, .inl (.inl h1), k.same r h (.bl _)⟩
  | _ => exact h.elim
theorem b_all (hc : X.calm = true) : CallR X (.builtin "all") (liftC X.K (biW .all)) := by
  refine l_at fun pins s σ H a us Q o S R I rv e r h k => ?_
  cases o with
  | lst ys =>
    obtain ⟨bs, e2, h⟩ := h
    obtain ⟨zs, h1, e1⟩ := r.lst e
    have ez := bools_rel e2 e1
    subst ez
    exact cr_all hc pins s σ H _ us Q I rv ⟨a, bs, rfl, .inl (.inl h1), k.same r h (.bl _)⟩
  | _ => exact h.elim
theorem b_max2 (hc : X.calm = true) : CallR X (.builtin "max") (liftC X.K (biW .max2)) := by
  refine l_two fun pins s σ H x y us Q dx dy S R I rv hx hy r h k => ?_
  cases dx with
  | int i =>
    cases dy with
    | int j =>
      refine call_max2 hc pins s σ H _ us Q I rv ⟨i, j, by rw [hx.int_inv, hy.int_inv], ?_⟩
      have e : (if j > i then j else i) = max i j := by omega
      rw [e]
      exact k.same r h (.int _)
    | _ => exact h.elim
  | _ => exact h.elim
end
end Y

namespace Y
open PySem PySem.Spec L2

/-! ### readings lifted to values -/
structure HoldL (K : PySem.W.Frag) (H : Hp) (S : Store) (R : List D → Store → Prop) (Q : List V → Hp → Prop) : Prop where
  go : ∀ ds S' vs H', R ds S' → Frame H S H' S' → DVs K H' vs ds → SRel K H' S' → Q vs H'
structure HoldO (K : PySem.W.Frag) (H : Hp) (S : Store) (R : Option Int → Store → Prop) (Q : Option Int → Hp → Prop) : Prop where
  go : ∀ o S' H', R o S' → Frame H S H' S' → SRel K H' S' → Q o H'
structure HoldS (K : PySem.W.Frag) (H : Hp) (S : Store) (Z : Ends) (N : L2.Ends) : Prop where
  nx : ∀ σ' S' σV' H', Z.nx σ' S' → Frame H S H' S' → SlotR K H' σV' σ' → SRel K H' S' → N.nx σV' H'
  rt : ∀ d S' v H', Z.rt d S' → Frame H S H' S' → DV K H' v d → SRel K H' S' → N.rt v H'
def liftE (K : PySem.W.Frag) (t : DTE) : TE := fun σV H Q => ∃ σ S R, SlotR K H σV σ ∧ SRel K H S ∧ t σ S R ∧ Hold K H S R Q
def liftT (K : PySem.W.Frag) (t : DTE) : TT := fun σV H Q => liftE K t σV H fun x H1 => ∃ k, x = .bl k ∧ Q k H1
def liftA (K : PySem.W.Frag) (t : DSt → Store → (List D → Store → Prop) → Prop) : TA := fun σV H Q => ∃ σ S R, SlotR K H σV σ ∧ SRel K H S ∧ t σ S R ∧ HoldL K H S R Q
def liftO (K : PySem.W.Frag) (t : DSt → Store → (Option Int → Store → Prop) → Prop) : TO := fun σV H Q => ∃ σ S R, SlotR K H σV σ ∧ SRel K H S ∧ t σ S R ∧ HoldO K H S R Q
def liftS (K : PySem.W.Frag) (t : Ends → DSt → Store → Prop) : TS := fun N σV H => ∃ Z σ S, SlotR K H σV σ ∧ SRel K H S ∧ t Z σ S ∧ HoldS K H S Z N
section
variable {K : PySem.W.Frag} {H H1 : Hp} {S S1 : Store}
theorem Hold.after {R : DVK} {Q : VK} (k : Hold K H S R Q) (f : Frame H S H1 S1) : Hold K H1 S1 R Q := ⟨fun d S' v H' r f' x s => k.go d S' v H' r (f.trans f') x s⟩
theorem HoldL.after {R : List D → Store → Prop} {Q : List V → Hp → Prop} (k : HoldL K H S R Q) (f : Frame H S H1 S1) : HoldL K H1 S1 R Q := ⟨fun d S' v H' r f' x s => k.go d S' v H' r (f.trans f') x s⟩
theorem HoldO.after {R : Option Int → Store → Prop} {Q : Option Int → Hp → Prop} (k : HoldO K H S R Q) (f : Frame H S H1 S1) : HoldO K H1 S1 R Q := ⟨fun d S' H' r f' s => k.go d S' H' r (f.trans f') s⟩
theorem HoldB.after {R : Bool → Store → Prop} {Q : VK} (k : HoldB K H S R Q) (f : Frame H S H1 S1) : HoldB K H1 S1 R Q := ⟨fun d S' H' r f' s => k.go d S' H' r (f.trans f') s⟩
theorem HoldS.after {Z : Ends} {N : L2.Ends} (k : HoldS K H S Z N) (f : Frame H S H1 S1) : HoldS K H1 S1 Z N :=
  ⟨fun σ' S' σV' H' r f' x s => k.nx σ' S' σV' H' r (f.trans f') x s, fun d S' v H' r f' x s => k.rt d S' v H' r (f.trans f') x s⟩
theorem _root_.L2.PE.imp {X : Cx} {e : Expr} {t t' : TE} (h : PE X e t) (i : ∀ σ H Q, t' σ H Q → t σ H Q) : PE X e t' := ⟨fun pins s σ H Q I q => h.run pins s σ H Q I (i _ _ _ q)⟩
theorem _root_.L2.PT.imp {X : Cx} {e : Expr} {t t' : TT} (h : PT X e t) (i : ∀ σ H Q, t' σ H Q → t σ H Q) : PT X e t' := ⟨fun pins s σ H Q I q => h.run pins s σ H Q I (i _ _ _ q)⟩
theorem _root_.L2.PW.imp {X : Cx} {e : Expr} {t t' : TT} (h : PW X e t) (i : ∀ σ H Q, t' σ H Q → t σ H Q) : PW X e t' := ⟨fun wh pins s σ H Q I q => h.run wh pins s σ H Q I (i _ _ _ q)⟩
theorem _root_.L2.PA.imp {X : Cx} {e : List Expr} {t t' : TA} (h : PA X e t) (i : ∀ σ H Q, t' σ H Q → t σ H Q) : PA X e t' := ⟨fun p pins s σ H Q I q => h.run p pins s σ H Q I (i _ _ _ q)⟩
theorem _root_.L2.PO.imp {X : Cx} {e : Option Expr} {t t' : TO} (h : PO X e t) (i : ∀ σ H Q, t' σ H Q → t σ H Q) : PO X e t' := ⟨fun pins s σ H Q I q => h.run pins s σ H Q I (i _ _ _ q)⟩
theorem _root_.L2.PS.imp {X : Cx} {e : Stmt} {t t' : TS} (h : PS X e t) (i : ∀ N σ H, t' N σ H → t N σ H) : PS X e t' := ⟨fun pins s σ H N I q => h.run pins s σ H N I (i _ _ _ q)⟩
theorem _root_.L2.PSs.imp {X : Cx} {e : List Stmt} {t t' : TS} (h : PSs X e t) (i : ∀ N σ H, t' N σ H → t N σ H) : PSs X e t' := ⟨fun pins s σ H N I q => h.run pins s σ H N I (i _ _ _ q)⟩

/-- an expression, then something -/
theorem goE {t : DTE} {σV : St} {σ : DSt} {R : DVK} {Q : VK} (sl : SlotR K H σV σ) (sr : SRel K H S) (h : t σ S R)
    (k : ∀ d S1 v H1, R d S1 → Frame H S H1 S1 → SlotR K H1 σV σ → DV K H1 v d → SRel K H1 S1 → Q v H1) : liftE K t σV H Q :=
  ⟨σ, S, R, sl, sr, h, ⟨fun d S1 v H1 r f x s => k d S1 v H1 r f (f.slot sl) x s⟩⟩
theorem goA {t : DSt → Store → (List D → Store → Prop) → Prop} {σV : St} {σ : DSt} {R : List D → Store → Prop} {Q : List V → Hp → Prop} (sl : SlotR K H σV σ) (sr : SRel K H S) (h : t σ S R)
    (k : ∀ d S1 v H1, R d S1 → Frame H S H1 S1 → SlotR K H1 σV σ → DVs K H1 v d → SRel K H1 S1 → Q v H1) : liftA K t σV H Q :=
  ⟨σ, S, R, sl, sr, h, ⟨fun d S1 v H1 r f x s => k d S1 v H1 r f (f.slot sl) x s⟩⟩
/-- a test, then something -/
theorem goT {t : DTE} {σV : St} {σ : DSt} {R : Bool → Store → Prop} {Q : Bool → Hp → Prop} (sl : SlotR K H σV σ) (sr : SRel K H S) (h : t σ S fun d S1 => ∃ b, d = .bl b ∧ R b S1)
    (k : ∀ b S1 H1, R b S1 → Frame H S H1 S1 → SlotR K H1 σV σ → SRel K H1 S1 → Q b H1) : liftT K t σV H Q :=
  goE sl sr h fun d S1 v H1 ⟨b, e, r⟩ f sl1 x s => by
    subst e
    exact ⟨b, x.bl_inv, k b S1 H1 r f sl1 s⟩
end

section
variable {X : Cx} {a b c : Expr} {ta tb tc : DTE} {pos : Pos}
theorem liftT_of {e : Expr} {t : DTE} (h : PE X e (liftE X.K t)) (he : ∀ whole, isTrue e X.env whole = (do let v ← whole; standAt e.pos; holding [v] (truthy v))) : PT X e (liftT X.K t) := by
  refine ⟨fun pins s σ H Q I hw => ?_⟩
  refine PyProof.Rows.isTrue_plain (thn (h.run pins s σ H _ I hw) fun v s1 ⟨x, H1, I1, r1, q1⟩ => ?_) (he _)
  obtain ⟨d, rfl, q⟩ := q1
  cases r1
  exact wpAny_truthy_bool ⟨H1, I1, q⟩
theorem y_var {i : Nat} {x : Str} (hN : X.N[i]? = some x) (hv : Vis X.env.scope x) (hd : (x == ("__debug__" : Str)) = false) (hcd : (x == ("__classdict__" : Str)) = false) : PE X (.Name x pos) (liftE X.K fun σ S R => ∃ d, σ[i]? = some (some d) ∧ R d S) :=
  (pe_var hN hv hd hcd).imp fun σV H Q ⟨σ, S, R, sl, sr, ⟨d, e, r⟩, k⟩ => by
    obtain ⟨v, e2, x⟩ := sl.2 i d e
    exact ⟨v, e2, k.same sr r x⟩
theorem y_const {e : Expr} {v : V} {d : D} (h : PE X e (tC v)) (hd : ∀ H, DV X.K H v d) : PE X e (liftE X.K fun _ S R => R d S) := h.imp fun σV H Q ⟨σ, S, R, sl, sr, r, k⟩ => k.same sr r (hd H)
theorem y_op {op : Operator} {w : D → D → Store → DVK → Prop} (ho : OpR X (binaryOp op) (lift2 X.K w)) (ha : PE X a (liftE X.K ta)) (hb : PE X b (liftE X.K tb)) :
    PE X (.BinOp a op b pos) (liftE X.K fun σ S R => ta σ S fun x S1 => tb σ S1 fun y S2 => w x y S2 R) :=
  (pe_op ho ha hb).imp fun σV H Q ⟨σ, S, R, sl, sr, h, k⟩ => goE sl sr h fun x S1 v H1 h f1 sl hx sr => goE sl sr h fun y S2 u H2 h f2 sl hy sr =>
    ⟨x, y, S2, R, f2.dv hx, hy, sr, h, (k.after f1).after f2⟩
theorem y_cmpQ {w : D → D → Store → (Bool → Store → Prop) → Prop} {σV : St} {H : Hp} {Q : VK} (h : liftE X.K (fun σ S R => ta σ S fun x S1 => tb σ S1 fun y S2 => w x y S2 fun t S3 => R (.bl t) S3) σV H Q) : tOp (lift2B X.K w) (liftE X.K ta) (liftE X.K tb) σV H Q := by
  obtain ⟨σ, S, R, sl, sr, h, k⟩ := h
  exact goE sl sr h fun x S1 v H1 h f1 sl hx sr => goE sl sr h fun y S2 u H2 h f2 sl hy sr =>
    ⟨x, y, S2, _, f2.dv hx, hy, sr, h, ⟨fun t S' H' r f s => ((k.after f1).after f2).go (.bl t) S' (.bl t) H' r f (.bl t) s⟩⟩
theorem y_cmp {op : CmpOp} {w : D → D → Store → (Bool → Store → Prop) → Prop} (ho : OpR X (compareOp op) (lift2B X.K w)) (ha : PE X a (liftE X.K ta)) (hb : PE X b (liftE X.K tb)) (hm : behindInMarks op b = false) :
    PE X (.Compare a [op] [b] pos) (liftE X.K fun σ S R => ta σ S fun x S1 => tb σ S1 fun y S2 => w x y S2 fun t S3 => R (.bl t) S3) :=
  (pe_cmpR ho ha hb hm).imp fun σV H Q h => y_cmpQ h
theorem y_cmpT {op : CmpOp} {w : D → D → Store → (Bool → Store → Prop) → Prop} (ho : OpR X (compareOp op) (lift2B X.K w)) (ha : PE X a (liftE X.K ta)) (hb : PE X b (liftE X.K tb)) (hm : behindInMarks op b = false) :
    PT X (.Compare a [op] [b] pos) (liftT X.K fun σ S R => ta σ S fun x S1 => tb σ S1 fun y S2 => w x y S2 fun t S3 => R (.bl t) S3) :=
  (pt_cmpR ho ha hb hm).imp fun σV H Q h => y_cmpQ h
/-- a op b op' c -/
def chainW (w w' : D → D → Store → (Bool → Store → Prop) → Prop) (ta tb tc : DTE) : DTE := fun σ S R => ta σ S fun x S1 => tb σ S1 fun y S2 => w x y S2 fun t S3 =>
  if t = true then tc σ S3 fun z S4 => w' y z S4 fun t' S5 => R (.bl t') S5 else R (.bl false) S3
theorem y_chainQ {w w' : D → D → Store → (Bool → Store → Prop) → Prop} {σV : St} {H : Hp} {Q : VK} (h : liftE X.K (chainW w w' ta tb tc) σV H Q) : tChain (lift2B X.K w) (lift2B X.K w') (liftE X.K ta) (liftE X.K tb) (liftE X.K tc) σV H Q := by
  obtain ⟨σ, S, R, sl, sr, h, k⟩ := h
  refine goE sl sr h fun x S1 v H1 h f1 sl hx sr => goE sl sr h fun y S2 u H2 h f2 sl hy sr => ⟨x, y, S2, _, f2.dv hx, hy, sr, h, ⟨fun t S3 H3 r f3 s => ⟨t, rfl, ?_⟩⟩⟩
  have k3 := ((k.after f1).after f2).after f3
  cases t with
  | false =>
    rw [if_neg Bool.false_ne_true] at r ⊢
    exact k3.same s r (.bl false)
  | true =>
    rw [if_pos rfl] at r ⊢
    exact goE (f3.slot sl) s r fun z S4 w4 H4 h f4 sl hz sr => ⟨y, z, S4, _, f4.dv (f3.dv hy), hz, sr, h, ⟨fun t S' H' r f s => (k3.after f4).go (.bl t) S' (.bl t) H' r f (.bl t) s⟩⟩
theorem y_chain {op op' : CmpOp} {w w' : D → D → Store → (Bool → Store → Prop) → Prop} (ho : OpR X (compareOp op) (lift2B X.K w)) (ho' : OpR X (compareOp op') (lift2B X.K w')) (ha : PE X a (liftE X.K ta)) (hb : PE X b (liftE X.K tb)) (hc : PE X c (liftE X.K tc))
    (hm : lastMarks [op, op'] [b, c] = false) : PE X (.Compare a [op, op'] [b, c] pos) (liftE X.K (chainW w w' ta tb tc)) := (pe_chain ho ho' ha hb hc hm).imp fun _ _ _ h => y_chainQ h
theorem y_chainT {op op' : CmpOp} {w w' : D → D → Store → (Bool → Store → Prop) → Prop} (ho : OpR X (compareOp op) (lift2B X.K w)) (ho' : OpR X (compareOp op') (lift2B X.K w')) (ha : PE X a (liftE X.K ta)) (hb : PE X b (liftE X.K tb)) (hc : PE X c (liftE X.K tc))
    (hm : lastMarks [op, op'] [b, c] = false) : PT X (.Compare a [op, op'] [b, c] pos) (liftT X.K (chainW w w' ta tb tc)) := (pt_chain ho ho' ha hb hc hm).imp fun _ _ _ h => y_chainQ h
theorem y_neg (ha : PE X a (liftE X.K ta)) : PE X (.UnaryOp .USub a pos) (liftE X.K fun σ S R => ta σ S fun x S1 => ∃ i, x = .int i ∧ R (.int (-i)) S1) :=
  (pe_un un_neg ha).imp fun σV H Q ⟨σ, S, R, sl, sr, h, k⟩ => goE sl sr h fun x S1 v H1 ⟨i, e, r⟩ f sl hx sr => by
    subst e
    exact ⟨i, hx.int_inv, (k.after f).same sr r (.int _)⟩
/-! and, or, not, if -/
def notW (ta : DTE) : DTE := fun σ S R => ta σ S fun x S1 => ∃ t, x = .bl t ∧ R (.bl (!t)) S1
theorem y_not (ha : PE X a (liftE X.K ta)) : PE X (.UnaryOp .Not a pos) (liftE X.K (notW ta)) :=
  (pe_not ha).imp fun σV H Q ⟨σ, S, R, sl, sr, h, k⟩ => goE sl sr h fun x S1 v H1 ⟨i, e, r⟩ f sl hx sr => by
    subst e
    exact ⟨i, hx.bl_inv, (k.after f).same sr r (.bl _)⟩
theorem y_notT (ha : PT X a (liftT X.K ta)) : PT X (.UnaryOp .Not a pos) (liftT X.K (notW ta)) :=
  (pt_not ha).imp fun σV H Q ⟨σ, S, R, sl, sr, h, k⟩ => goE sl sr h fun x S1 v H1 ⟨i, e, r⟩ f sl hx sr => by
    subst e
    obtain ⟨b, e, q⟩ := k.go _ _ (.bl (!i)) _ r f (.bl _) sr
    cases e
    exact ⟨i, hx.bl_inv, q⟩
def boC : Bool → BoolOp
  | true => .And
  | false => .Or
def twoW (k : Bool) (ta tb : DTE) : DTE := fun σ S R => ta σ S fun x S1 => ∃ t, x = .bl t ∧ if t = k then tb σ S1 R else R (.bl t) S1
theorem y_bop {k : Bool} {rest : List Expr} (ha : PE X a (liftE X.K ta)) (hb : PE X (.BoolOp (boC k) (b :: rest) pos) (liftE X.K tb)) : PE X (.BoolOp (boC k) (a :: b :: rest) pos) (liftE X.K (twoW k ta tb)) := by
  cases k with
  | true =>
    refine (pe_and ha hb).imp fun σV H Q ⟨σ, S, R, sl, sr, h, k⟩ => goE sl sr h fun x S1 v H1 ⟨i, e, r⟩ f sl hx sr => ?_
    subst e
    refine ⟨i, hx.bl_inv, ?_⟩
    cases i with
    | true => exact ⟨σ, S1, R, sl, sr, r, k.after f⟩
    | false => exact (k.after f).same sr r (.bl false)
  | false =>
    refine (pe_or ha hb).imp fun σV H Q ⟨σ, S, R, sl, sr, h, k⟩ => goE sl sr h fun x S1 v H1 ⟨i, e, r⟩ f sl hx sr => ?_
    subst e
    refine ⟨i, hx.bl_inv, ?_⟩
    cases i with
    | false => exact ⟨σ, S1, R, sl, sr, r, k.after f⟩
    | true => exact (k.after f).same sr r (.bl true)
theorem y_bopT {k : Bool} {rest : List Expr} (ha : PT X a (liftT X.K ta)) (hb : PW X (.BoolOp (boC k) (b :: rest) pos) (liftT X.K tb)) : PW X (.BoolOp (boC k) (a :: b :: rest) pos) (liftT X.K (twoW k ta tb)) := by
  have key : ∀ {σV : St} {H : Hp} {Q : Bool → Hp → Prop}, liftT X.K (twoW k ta tb) σV H Q → liftT X.K ta σV H fun c H1 => if c = k then liftT X.K tb σV H1 Q else Q c H1 := by
    intro σV H Q ⟨σ, S, R, sl, sr, h, kk⟩
    refine goT sl sr h fun i S1 H1 r f sl sr => ?_
    by_cases e : i = k
    · rw [if_pos e] at r ⊢
      exact ⟨σ, S1, R, sl, sr, r, kk.after f⟩
    · rw [if_neg e] at r ⊢
      obtain ⟨b, e, q⟩ := kk.go _ _ (.bl i) _ r f (.bl _) sr
      cases e
      exact q
  cases k with
  | true =>
    refine (pw_and ha hb).imp fun σV H Q h => ?_
    show liftT X.K ta σV H fun c H1 => _
    obtain ⟨σ, S, R, sl, sr, h, k⟩ := key h
    refine ⟨σ, S, R, sl, sr, h, ⟨fun d S' v H' r f x s => ?_⟩⟩
    obtain ⟨c, e, q⟩ := k.go d S' v H' r f x s
    refine ⟨c, e, ?_⟩
    cases c with
    | true => exact q
    | false => exact q
  | false =>
    refine (pw_or ha hb).imp fun σV H Q h => ?_
    show liftT X.K ta σV H fun c H1 => _
    obtain ⟨σ, S, R, sl, sr, h, k⟩ := key h
    refine ⟨σ, S, R, sl, sr, h, ⟨fun d S' v H' r f x s => ?_⟩⟩
    obtain ⟨c, e, q⟩ := k.go d S' v H' r f x s
    refine ⟨c, e, ?_⟩
    cases c with
    | true => exact q
    | false => exact q
theorem y_bop1 {k : Bool} (ha : PE X a (liftE X.K ta)) : PE X (.BoolOp (boC k) [a] pos) (liftE X.K ta) := pe_one ha
theorem y_bop1T {k : Bool} (ha : PT X a (liftT X.K ta)) : PW X (.BoolOp (boC k) [a] pos) (liftT X.K ta) := by
  cases k with
  | true => exact pw_and1 ha
  | false => exact pw_or1 ha
def iteW (tc ta tb : DTE) : DTE := fun σ S R => tc σ S fun x S1 => ∃ t, x = .bl t ∧ if t = true then ta σ S1 R else tb σ S1 R
theorem y_ite (hc : PT X c (liftT X.K tc)) (ha : PE X a (liftE X.K ta)) (hb : PE X b (liftE X.K tb)) : PE X (.IfExp c a b pos) (liftE X.K (iteW tc ta tb)) :=
  (pe_ifExp hc ha hb).imp fun σV H Q ⟨σ, S, R, sl, sr, h, k⟩ => goT sl sr h fun i S1 H1 r f sl sr => by
    cases i with
    | true => exact ⟨σ, S1, R, sl, sr, r, k.after f⟩
    | false => exact ⟨σ, S1, R, sl, sr, r, k.after f⟩
theorem y_iteT (hc : PT X c (liftT X.K tc)) (ha : PT X a (liftT X.K ta)) (hb : PT X b (liftT X.K tb)) : PT X (.IfExp c a b pos) (liftT X.K (iteW tc ta tb)) := by
  refine ⟨fun pins s σV H Q I h => ?_⟩
  obtain ⟨σ, S, R, sl, sr, h, k⟩ := h
  have q : liftT X.K tc σV H fun t H1 => if t = true then liftT X.K ta σV H1 Q else liftT X.K tb σV H1 Q := goT sl sr h fun i S1 H1 r f sl sr => by
    cases i with
    | true => exact ⟨σ, S1, R, sl, sr, r, k.after f⟩
    | false => exact ⟨σ, S1, R, sl, sr, r, k.after f⟩
  show wpAny _ _ (do if ← isTrue c X.env (eval c X.env) then isTrue a X.env (eval a X.env) else isTrue b X.env (eval b X.env)) _ _ _
  refine wpAny_bind (thn (hc.run pins s σV H _ I q) fun t s1 ⟨H1, I1, q1⟩ => ?_)
  cases t with
  | true => exact ha.run pins s1 σV H1 Q I1 q1
  | false => exact hb.run pins s1 σV H1 Q I1 q1
/-! ### lists of expressions -/
theorem y_nil : PA X [] (liftA X.K fun _ S R => R [] S) := pa_nil.imp fun σV H Q ⟨σ, S, R, sl, sr, h, k⟩ => k.go [] S [] H h .refl .nil sr
def consW (ta : DTE) (tr : DSt → Store → (List D → Store → Prop) → Prop) : DSt → Store → (List D → Store → Prop) → Prop := fun σ S R => ta σ S fun x S1 => tr σ S1 fun xs S2 => R (x :: xs) S2
theorem y_cons {es : List Expr} {tr : DSt → Store → (List D → Store → Prop) → Prop} (ha : PE X a (liftE X.K ta)) (hr : PA X es (liftA X.K tr)) (hs : starEach (a :: es) X.env = (false, eval a X.env) :: starEach es X.env) :
    PA X (a :: es) (liftA X.K (consW ta tr)) :=
  (pa_cons ha hr hs).imp fun σV H Q ⟨σ, S, R, sl, sr, h, k⟩ => goE sl sr h fun x S1 v H1 h f1 sl hx sr => goA sl sr h fun xs S2 vs H2 h f2 sl hxs sr =>
    k.go (x :: xs) S2 (v :: vs) H2 h (f1.trans f2) (.cons (f2.dv hx) hxs) sr
theorem y_tup {es : List Expr} {n : Nat} {t : DSt → Store → (List D → Store → Prop) → Prop} (h : PA X es (liftA X.K t)) : PE X (.Tuple es n pos) (liftE X.K fun σ S R => t σ S fun ds S1 => ds.length ≤ sizeLine ∧ R (.tup ds) S1) :=
  (pe_tup h).imp fun σV H Q ⟨σ, S, R, sl, sr, h, k⟩ => goA sl sr h fun xs S1 vs H1 ⟨hl, h⟩ f1 sl hx sr => ⟨by rw [hx.length]; exact hl, (k.after f1).tup sr h hx⟩
theorem y_lst {es : List Expr} {t : DSt → Store → (List D → Store → Prop) → Prop} (h : PA X es (liftA X.K t)) : PE X (.List es pos) (liftE X.K fun σ S R => t σ S fun ds S1 => ds.length ≤ sizeLine ∧ ∀ p, S1 p = none → R (.loc p) (S1.upd p (.lst ds))) :=
  (pe_lst h).imp fun σV H Q ⟨σ, S, R, sl, sr, h, k⟩ => goA sl sr h fun xs S1 vs H1 ⟨hl, h⟩ f1 sl hx sr => ⟨by rw [hx.length]; exact hl, (k.after f1).lst sr h hx⟩
/-! ### subscripts, slices -/
theorem y_sub (hu : X.A.units + 200 < cLine) (ha : PE X a (liftE X.K ta)) (hb : PE X b (liftE X.K tb)) (hs : PlainIx b) : PE X (.Subscript a b pos) (liftE X.K fun σ S R => ta σ S fun x S1 => tb σ S1 fun y S2 => subW x y S2 R) :=
  (pe_ix (l_sub_ix hu) ha hb hs).imp fun σV H Q ⟨σ, S, R, sl, sr, h, k⟩ => goE sl sr h fun x S1 v H1 h f1 sl hx sr => goE sl sr h fun y S2 u H2 h f2 sl hy sr =>
    ⟨x, y, S2, R, f2.dv hx, hy, sr, h, (k.after f1).after f2⟩
theorem y_on : PO X none (liftO X.K fun _ S R => R none S) := po_none.imp fun σV H Q ⟨σ, S, R, sl, sr, h, k⟩ => k.go none S H h .refl sr
theorem y_os (ha : PE X a (liftE X.K ta)) : PO X (some a) (liftO X.K fun σ S R => ta σ S fun x S1 => ∃ i, x = .int i ∧ R (some i) S1) :=
  (po_some ha).imp fun σV H Q ⟨σ, S, R, sl, sr, h, k⟩ => goE sl sr h fun x S1 v H1 ⟨i, e, r⟩ f sl hx sr => by
    subst e
    exact ⟨i, hx.int_inv, k.go (some i) S1 H1 r f sr⟩
theorem y_slc {lo hi : Option Expr} {p2 : Pos} {tl th : DSt → Store → (Option Int → Store → Prop) → Prop} (ha : PE X a (liftE X.K ta)) (hl : PO X lo (liftO X.K tl)) (hh : PO X hi (liftO X.K th)) :
    PE X (.Subscript a (.Slice lo hi none p2) pos) (liftE X.K fun σ S R => ta σ S fun x S1 => tl σ S1 fun l S2 => th σ S2 fun h S3 => slcW x l h S3 R) :=
  (pe_slice l_slc ha hl hh).imp fun σV H Q ⟨σ, S, R, sl, sr, h, k⟩ => goE sl sr h fun x S1 v H1 h f1 sl hx sr =>
    ⟨σ, S1, _, sl, sr, h, ⟨fun l S2 H2 h f2 sr => ⟨σ, S2, _, f2.slot sl, sr, h, ⟨fun u S3 H3 h f3 sr => ⟨x, S3, R, f3.dv (f2.dv hx), sr, h, ((k.after f1).after f2).after f3⟩⟩⟩⟩⟩
theorem y_rev {n : Nat} {p1 p2 p3 : Pos} (ha : PE X a (liftE X.K ta)) : PE X (.Subscript a (.Slice none none (some (.UnaryOp .USub (.Constant (.int 1) n p1) p2)) p3) pos) (liftE X.K fun σ S R => ta σ S fun x S1 => revW x S1 R) :=
  (pe_revL ha).imp fun σV H Q ⟨σ, S, R, sl, sr, h, k⟩ => goE sl sr h fun x S1 v H1 h f sl hx sr => by
    cases x with
    | loc l =>
      obtain ⟨o, e, q⟩ := h
      cases o with
      | lst ys =>
        obtain ⟨zs, h1, e1⟩ := sr.lst e
        exact ⟨l, zs, hx.loc_inv, .inl (.inl h1), (k.after f).lst sr q e1.reverse⟩
      | _ => exact q.elim
    | _ => exact h.elim
/-! ### calls -/
theorem y_callB {id : String} {x : Str} {p : Pos} {e : Expr} {es : List Expr} {w : List D → Store → DVK → Prop} {t : DSt → Store → (List D → Store → Prop) → Prop} (hc : CallR X (.builtin id) (liftC X.K w)) (hg : Gl X x) (hm : X.mg x = none) (hv : bootBuiltins x = some (.builtin id)) (ha : PA X (e :: es) (liftA X.K t))
    (hn : x ≠ "__name__") (hdb : (x == ("__debug__" : Str)) = false) (he : starEach (e :: es) X.env = (false, eval e X.env) :: starEach es X.env) (hpl : (backTo pos (starEach es X.env)).any (·.1) = false) :
    PE X (.Call (.Name x p) (e :: es) [] pos) (liftE X.K fun σ S R => t σ S fun ds S1 => w ds S1 R) :=
  (pe_callB hc hg hm hv ha hn hdb he hpl).imp fun σV H Q ⟨σ, S, R, sl, sr, h, k⟩ => goA sl sr h fun xs S1 vs H1 h f sl hx sr => ⟨xs, S1, R, hx, sr, h, k.after f⟩
theorem y_callTy {T : String} {x : Str} {p : Pos} {e : Expr} {es : List Expr} {w : List D → Store → DVK → Prop} {t : DSt → Store → (List D → Store → Prop) → Prop} (hc : CallR X (.type T) (liftC X.K w)) (hg : Gl X x) (hm : X.mg x = none) (hv : bootBuiltins x = some (.type T)) (ha : PA X (e :: es) (liftA X.K t))
    (hn : x ≠ "__name__") (hdb : (x == ("__debug__" : Str)) = false) (he : starEach (e :: es) X.env = (false, eval e X.env) :: starEach es X.env) (hpl : (backTo pos (starEach es X.env)).any (·.1) = false) :
    PE X (.Call (.Name x p) (e :: es) [] pos) (liftE X.K fun σ S R => t σ S fun ds S1 => w ds S1 R) :=
  (pe_callTy hc hg hm hv ha hn hdb he hpl).imp fun σV H Q ⟨σ, S, R, sl, sr, h, k⟩ => goA sl sr h fun xs S1 vs H1 h f sl hx sr => ⟨xs, S1, R, hx, sr, h, k.after f⟩
/-- a def's promise -/
def liftSp (K : PySem.W.Frag) (n : Nat) (sp : SpD) : Sp := fun vs H Q _ => ∃ ds S R, ds.length = n ∧ DVs K H vs ds ∧ SRel K H S ∧ sp ds S R ∧ Hold K H S R Q
theorem liftSp_len {K : PySem.W.Frag} {n : Nat} {sp : SpD} : ∀ vs H Q E, liftSp K n sp vs H Q E → vs.length = n := fun vs H Q E ⟨ds, S, R, e, h, _⟩ => by rw [h.length, e]
/-- a def of the module, called -/
structure CalD (X : Cx) (f : String) (sp : SpD) (n : Nat) : Prop where
  len : ∀ ds S R, sp ds S R → ds.length = n
  ex : ∃ k, C8.Cal X.prog X.w X.K X.mg X.base k (Str.ofString f) (liftSp X.K n sp) [] ∧ Room k X.A
theorem y_call {f : String} {x : Str} {p : Pos} {e : Expr} {es : List Expr} {sp : SpD} {n : Nat} {t : DSt → Store → (List D → Store → Prop) → Prop} (c : CalD X f sp n) (hx : x = Str.ofString f) (hg : Gl X x) (ha : PA X (e :: es) (liftA X.K t))
    (hdb : (x == ("__debug__" : Str)) = false) (he : starEach (e :: es) X.env = (false, eval e X.env) :: starEach es X.env) (hpl : (backTo pos (starEach es X.env)).any (·.1) = false) :
    PE X (.Call (.Name x p) (e :: es) [] pos) (liftE X.K fun σ S R => t σ S fun ds S1 => sp ds S1 R) := by
  subst hx
  obtain ⟨lc, k, c, r⟩ := c
  refine (C8.pe_c c r (Nat.le_refl _) hg ha hdb he hpl).imp fun σV H Q ⟨σ, S, R, sl, sr, h, k⟩ => goA sl sr h fun xs S1 vs H1 h f sl hx sr => ?_
  rw [List.append_nil]
  exact ⟨xs, S1, R, lc _ _ _ h, hx, sr, h, k.after f⟩
end
end Y

namespace Y
open PySem PySem.Spec L2

/-! ### methods -/
def liftM (K : PySem.W.Frag) (w : D → List D → Store → DVK → Prop) : V → List V → Hp → VK → Prop := fun x xs H Q => ∃ d ds S R, DV K H x d ∧ DVs K H xs ds ∧ SRel K H S ∧ w d ds S R ∧ Hold K H S R Q
/-- the receiver stands in the store -/
def recvTy (K : PySem.W.Frag) (p : MO → Bool) : V → Hp → Prop := fun x H => ∃ d S, DV K H x d ∧ SRel K H S ∧ recvW d S fun o _ => p o = true
section
variable {X : Cx}
theorem recv_inv {d : D} {S : Store} {g : MO → Addr → Prop} (h : recvW d S g) : ∃ a o, d = .loc a ∧ S a = some o ∧ g o a := by
  cases d with
  | loc a => obtain ⟨o, e, q⟩ := h; exact ⟨a, o, rfl, e, q⟩
  | _ => exact h.elim
theorem ty_lst : TyOk X "list" (recvTy X.K isLst) := by
  intro pins σ H s x v I rx ⟨d, S, hx, r, h⟩
  obtain ⟨a, o, rfl, e, p⟩ := recv_inv h
  have ex := hx.loc_inv
  subst ex
  cases o with
  | lst ds =>
    obtain ⟨xs, h1, _⟩ := r.lst e
    exact tyV_is I rx (.inl ⟨rfl, xs, .inl (.inl h1)⟩)
  | _ => cases p
theorem ty_dct : TyOk X "dict" (recvTy X.K isDct) := by
  intro pins σ H s x v I rx ⟨d, S, hx, r, h⟩
  obtain ⟨a, o, rfl, e, p⟩ := recv_inv h
  have ex := hx.loc_inv
  subst ex
  cases (show v = Value.ref a from rx)
  cases o with
  | lst ds => cases p
  | dct kvs =>
    obtain ⟨ps, h1, _⟩ := r.dct e
    obtain ⟨q1, q2, _⟩ := isD_at I (.inl ⟨ps, .inl h1⟩)
    exact ⟨q1, q2⟩
  | frz kvs =>
    obtain ⟨ob, ps, h1, _⟩ := r.frz e
    obtain ⟨q1, q2, _⟩ := isD_at I (.inl ⟨ps, .inr ⟨ob, h1⟩⟩)
    exact ⟨q1, q2⟩
theorem one_dv {K : PySem.W.Frag} {H : Hp} {S : Store} {g : D → Store → DVK → Prop} {xs : List V} {ds : List D} {R : DVK} (hx : DVs K H xs ds) (h : one g ds S R) : ∃ x d, xs = [x] ∧ DV K H x d ∧ g d S R := by
  match ds, hx, h with
  | [d], hx, h =>
    obtain ⟨x, e, hx1⟩ := hx.one_inv
    exact ⟨x, d, e, hx1, h⟩
  | [], _, h => exact h.elim
  | _ :: _ :: _, _, h => exact h.elim
theorem two_dv {K : PySem.W.Frag} {H : Hp} {S : Store} {g : D → D → Store → DVK → Prop} {xs : List V} {ds : List D} {R : DVK} (hx : DVs K H xs ds) (h : two g ds S R) : ∃ x y d e, xs = [x, y] ∧ DV K H x d ∧ DV K H y e ∧ g d e S R := by
  match ds, hx, h with
  | [d, e], hx, h =>
    obtain ⟨x, y, q, h1, h2⟩ := hx.two_inv
    exact ⟨x, y, d, e, q, h1, h2, h⟩
  | [], _, h => exact h.elim
  | [_], _, h => exact h.elim
  | _ :: _ :: _ :: _, _, h => exact h.elim
theorem m_append : MtR X "list.append" (liftM X.K (mtW .append)) := by
  intro pins s σ H x xs v us Q I rx rs ⟨d, ds, S, R, hx, hxs, r, h, k⟩
  obtain ⟨a, o, rfl, e, q⟩ := recv_inv h
  obtain ⟨y, dy, rfl, hy, q⟩ := one_dv hxs q
  have ex := hx.loc_inv
  subst ex
  cases o with
  | lst ys =>
    obtain ⟨zs, h1, e1⟩ := r.lst e
    refine mt_append pins s σ H _ _ v us Q I rx rs ⟨a, zs, y, rfl, rfl, h1, by rw [e1.length]; exact q.1, ?_⟩
    exact k.go .non _ .non _ q.2 (frame_set r e) .non (srel_set r e ⟨_, L2.upd_same, DVs.mono (stay_set r e) (e1.append (.cons hy .nil))⟩)
  | _ => exact q.elim
theorem m_extend : MtR X "list.extend" (liftM X.K (mtW .extend)) := by
  intro pins s σ H x xs v us Q I rx rs ⟨d, ds, S, R, hx, hxs, r, h, k⟩
  obtain ⟨a, o, rfl, e, q⟩ := recv_inv h
  obtain ⟨y, dy, rfl, hy, q⟩ := one_dv hxs q
  have ex := hx.loc_inv
  subst ex
  cases o with
  | lst ys =>
    obtain ⟨zs, h1, e1⟩ := r.lst e
    cases dy with
    | loc b =>
      obtain ⟨o2, e2, q⟩ := q
      have ey := hy.loc_inv
      subst ey
      cases o2 with
      | lst ws =>
        obtain ⟨us2, h2, e3⟩ := r.lst e2
        refine mt_extend pins s σ H _ _ v us Q I rx rs ⟨a, b, zs, us2, rfl, rfl, h1, h2, by rw [e1.length, e3.length]; exact q.1, ?_⟩
        exact k.go .non _ .non _ q.2 (frame_set r e) .non (srel_set r e ⟨_, L2.upd_same, DVs.mono (stay_set r e) (e1.append e3)⟩)
      | _ => exact q.elim
    | _ => exact q.elim
  | _ => exact q.elim
theorem m_pop : MtR X "list.pop" (liftM X.K (mtW .pop)) := by
  intro pins s σ H x xs v us Q I rx rs ⟨d, ds, S, R, hx, hxs, r, h, k⟩
  obtain ⟨a, o, rfl, e, e0, q⟩ := recv_inv h
  subst e0
  cases hxs
  have ex := hx.loc_inv
  subst ex
  cases o with
  | lst ys =>
    obtain ⟨zs, y, rfl, q⟩ := q
    obtain ⟨ws, h1, e1⟩ := r.lst e
    have hl : ws.length = zs.length + 1 := by rw [e1.length, List.length_append]; rfl
    obtain ⟨w, e2, hw⟩ := e1.get (i := zs.length) (x := y) (by simp)
    refine mt_pop pins s σ H _ _ v us Q I rx rs ⟨a, ws, w, rfl, rfl, h1, by rw [hl]; exact e2, ?_⟩
    have e3 := e1.dropLast
    rw [List.dropLast_concat] at e3
    exact k.go y _ w _ q (frame_set r e) (DV.mono (stay_set r e) hw) (srel_set r e ⟨_, L2.upd_same, DVs.mono (stay_set r e) e3⟩)
  | _ => exact q.elim
theorem m_get (hu : X.A.units + 200 < cLine) : MtR X "dict.get" (liftM X.K (mtW .get)) := by
  intro pins s σ H x xs v us Q I rx rs ⟨d, ds, S, R, hx, hxs, r, h, k⟩
  obtain ⟨a, o, rfl, e, q⟩ := recv_inv h
  obtain ⟨y, z, dy, dz, rfl, hy, hz, q⟩ := two_dv hxs q
  have ex := hx.loc_inv
  subst ex
  cases (show v = Value.ref a from rx)
  obtain ⟨u1, u2, rfl, r1, r2⟩ := vals2 rs
  have go : ∀ (ps : List (Key × V)) (kvs : List (D × D)), Rd H a (.dK ps) → Paired (EntD X.K H) ps kvs → keyOk dy = true → R ((lookD kvs dy).getD dz) S →
      wpAny (model X.prog X.w) X.A (PySem.call (.builtin "dict.get") (.ref a :: [u1, u2])) (EP X pins σ Q) X.xe s := by
    intro ps kvs hr ep ho q
    have ey := kV_dv hy ho
    subst ey
    obtain ⟨i1, i2⟩ := look_rel ho ep
    refine d_get2 (by omega) I (.inl ⟨ps, keyOf dy, hr, rfl, rfl⟩) r1 r2 fun w' s' I' rw' => ⟨_, H, I', rw', ?_⟩
    cases e : lookD kvs dy with
    | none =>
      rw [i2 e]
      rw [e] at q
      exact k.same r q hz
    | some d2 =>
      obtain ⟨v2, e2, h2⟩ := i1 d2 e
      rw [e2]
      rw [e] at q
      exact k.same r q h2
  cases o with
  | lst ys => exact q.elim
  | dct kvs =>
    obtain ⟨ps, h1, ep⟩ := r.dct e
    exact go ps kvs (.inl h1) ep q.1 q.2
  | frz kvs =>
    obtain ⟨ob, ps, h1, ep⟩ := r.frz e
    exact go ps kvs (.inr ⟨ob, h1⟩) ep q.1 q.2
theorem nocall0 {o : Expr} {name : Str} {env : Env} (h : (match o with | .Call _ [] [] _ => false | _ => true) = true) : attributeBase o name env (eval o env) = eval o env := by
  unfold attributeBase
  cases o with
  | Call f es ks p =>
    cases es with
    | nil =>
      cases ks with
      | nil => cases h
      | cons _ _ => cases f <;> rfl
    | cons _ _ => cases f <;> rfl
  | _ => rfl
theorem y_mt0 {o : Expr} {name : Str} {apos cpos : Pos} {T id : String} {p : MO → Bool} {to : DTE} {w : D → List D → Store → DVK → Prop} (ht : TyOk X T (recvTy X.K p)) (pa : PlainAttrs T) (slot : Slot T name id) (hty : typeOf (.builtin id) = pure (.type "method_descriptor"))
    (hm : MtR X id (liftM X.K w)) (ho : PE X o (liftE X.K to)) (hb : attributeBase o name X.env (eval o X.env) = eval o X.env) (hline : (apos.endLine == cpos.line) = true) :
    PE X (.Call (.Attribute o name apos) [] [] cpos) (liftE X.K fun σ S R => to σ S fun x S1 => recvW x S1 (fun o _ => p o = true) ∧ w x [] S1 R) :=
  (pe_mG0 ht pa slot hty hm ho hb hline).imp fun σV H Q ⟨σ, S, R, sl, sr, h, k⟩ => goE sl sr h fun x S1 v H1 ⟨h1, h2⟩ f sl hx sr =>
    ⟨⟨x, S1, hx, sr, h1⟩, x, [], S1, R, hx, .nil, sr, h2, k.after f⟩
theorem y_mt {o e : Expr} {es : List Expr} {name : Str} {apos cpos : Pos} {T id : String} {p : MO → Bool} {to : DTE} {w : D → List D → Store → DVK → Prop} {t : DSt → Store → (List D → Store → Prop) → Prop} (ht : TyOk X T (recvTy X.K p)) (pa : PlainAttrs T) (slot : Slot T name id) (hty : typeOf (.builtin id) = pure (.type "method_descriptor"))
    (hm : MtR X id (liftM X.K w)) (ho : PE X o (liftE X.K to)) (ha : PA X (e :: es) (liftA X.K t)) (hb : attributeBase o name X.env (eval o X.env) = eval o X.env) (hfew : ((backTo cpos (starEach (e :: es) X.env)).all (fun x => !x.1) && (backToKw cpos (keywordEach [] X.env)).all (fun x => x.1.isSome) && decide ((e :: es).length + ([] : List Keyword).length + (if ([] : List Keyword).isEmpty then 0 else 1) < 30)) = true)
    (hline : (apos.endLine == cpos.line) = true) (hs : starEach (e :: es) X.env = (false, eval e X.env) :: starEach es X.env) (hpl : (backTo cpos (starEach es X.env)).any (·.1) = false) :
    PE X (.Call (.Attribute o name apos) (e :: es) [] cpos) (liftE X.K fun σ S R => to σ S fun x S1 => recvW x S1 (fun o _ => p o = true) ∧ t σ S1 fun ds S2 => w x ds S2 R) :=
  (pe_mG ht pa slot hty hm ho ha hb hfew hline hs hpl).imp fun σV H Q ⟨σ, S, R, sl, sr, h, k⟩ => goE sl sr h fun x S1 v H1 ⟨h1, h2⟩ f sl hx sr =>
    ⟨⟨x, S1, hx, sr, h1⟩, goA sl sr h2 fun ds S2 vs H2 h f2 sl hxs sr => ⟨x, ds, S2, R, f2.dv hx, hxs, sr, h, (k.after f).after f2⟩⟩
/-! ### isinstance -/
def tyN : Ty → String
  | .int => "int" | .bool => "bool" | .str => "str" | .tuple => "tuple" | .list => "list"
def tyS (t : Ty) : Str := Str.ofString (tyN t)
theorem isi_ok {K : PySem.W.Frag} {H : Hp} {S : Store} {v : V} {d : D} {t : Ty} {R : Bool → Store → Prop} (hx : DV K H v d) (r : SRel K H S) (h : isiW d t S R) : ∃ T b, TyX K H v (.type T) ∧ kitB T (tyN t) = some b ∧ R b S := by
  cases d with
  | non => obtain ⟨b, e, q⟩ := h; cases e; rw [hx.non_inv]; exact ⟨"NoneType", false, .base .non, by cases t <;> decide +kernel, q⟩
  | bl i => obtain ⟨b, e, q⟩ := h; cases e; rw [hx.bl_inv]; exact ⟨"bool", _, .base (.bl i), by cases t <;> decide +kernel, q⟩
  | int i => obtain ⟨b, e, q⟩ := h; cases e; rw [hx.int_inv]; exact ⟨"int", _, .base (.int i), by cases t <;> decide +kernel, q⟩
  | str i => obtain ⟨b, e, q⟩ := h; cases e; rw [hx.str_inv]; exact ⟨"str", _, .base (.str _), by cases t <;> decide +kernel, q⟩
  | tup i =>
    obtain ⟨b, e, q⟩ := h
    cases e
    obtain ⟨a, xs, rfl, hq, _⟩ := hx.tup_inv
    have k : kitB "tuple" (tyN t) = some (t == .tuple) := by cases t <;> decide +kernel
    rcases hq with (hq | ⟨o, hq⟩) | ⟨o, its, n, hk, hc, _⟩
    · exact ⟨"tuple", _, .base (.tup hq), k, q⟩
    · exact ⟨"tuple", _, .fTuple hq, k, q⟩
    · exact ⟨"tuple", _, .kTuple hk hc, k, q⟩
  | loc a =>
    obtain ⟨o, b, e, e2, q⟩ := h
    rw [hx.loc_inv]
    cases o with
    | lst ds => cases e2; obtain ⟨xs, h1, _⟩ := r.lst e; exact ⟨"list", _, .base (.lst h1), by cases t <;> decide +kernel, q⟩
    | dct ds => cases e2; obtain ⟨xs, h1, _⟩ := r.dct e; exact ⟨"dict", _, .base (.dK h1), by cases t <;> decide +kernel, q⟩
    | frz ds => cases e2
  | scr ns => obtain ⟨b, e, q⟩ := h; cases e
theorem y_isi {a : Expr} {ta : DTE} {t : Ty} {f : Str} {p1 p2 pos : Pos} (hf : f = "isinstance") (hg : Gl X "isinstance") (hm : X.mg "isinstance" = none) (hg2 : Gl X (tyS t)) (hm2 : X.mg (tyS t) = none) (ha : PE X a (liftE X.K ta))
    (hs : starEach [a, .Name (tyS t) p2] X.env = (false, eval a X.env) :: starEach [.Name (tyS t) p2] X.env) : PE X (.Call (.Name f p1) [a, .Name (tyS t) p2] [] pos) (liftE X.K fun σ S R => ta σ S fun x S1 => isiW x t S1 fun b S2 => R (.bl b) S2) := by
  subst hf
  have hb : bootBuiltins (tyS t) = some (.type (tyN t)) := by cases t <;> decide +kernel
  have hn : tyS t ≠ "__name__" := by cases t <;> decide +kernel
  have hd : (tyS t == ("__debug__" : Str)) = false := by cases t <;> decide +kernel
  have h2 : PA X [a, .Name (tyS t) p2] (tCons (liftE X.K ta) (tCons (tC (.ty (tyN t))) tNil)) := pa_cons ha (pa_cons (pe_bltn hg2 hm2 hb rfl hn hd) pa_nil) hs
  refine (pe_callB (id := "isinstance") (r := rIsi X.K) call_isi hg hm (by decide +kernel) h2 (he := hs)).imp fun σV H Q ⟨σ, S, R, sl, sr, h, k⟩ => goE sl sr h fun x S1 v H1 h f sl hx sr => ?_
  obtain ⟨T, b, ty, e, q⟩ := isi_ok hx sr h
  exact ⟨v, _, _, _, b, rfl, .ty (tyN t), ty, kit_ty e, (k.after f).same sr q (.bl b)⟩
end
end Y

namespace Y
open PySem PySem.Spec L2

/-! ### what is walked -/
/-- J yields the data xs, as long as ok holds of the store and P of the heap -/
structure Wk (K : PySem.W.Frag) (J : It) (xs : List D) (ok : Store → Prop) (P : Hp → Prop) : Prop where
  st : ∀ H S H' S', Frame H S H' S' → P H → P H'
  item : ∀ i d H S, xs[i]? = some d → SRel K H S → ok S → P H → J.go i H ∧ ∀ x H', J.yld i H x H' → Frame H S H' S ∧ DV K H' x d ∧ SRel K H' S
  stop : ∀ H S, SRel K H S → ok S → P H → J.stop xs.length H
abbrev DTJ := DSt → Store → (List D → (Store → Prop) → Store → Prop) → Prop
def liftI (K : PySem.W.Frag) (t : DTJ) : TI := fun σV H Q => ∃ σ S R, SlotR K H σV σ ∧ SRel K H S ∧ t σ S R ∧ ∀ xs ok S1 J H1 P, R xs ok S1 → Wk K J xs ok P → P H1 → Frame H S H1 S1 → SRel K H1 S1 → Q J H1
theorem wk_list {K : PySem.W.Frag} {a : Addr} {xs : List D} : Wk K (Itl K a) xs (fun S => S a = some (.lst xs)) (fun _ => True) where
  st := fun _ _ _ _ _ _ => trivial
  item := fun i d H S e r ok _ => by
    obtain ⟨ys, h1, e1⟩ := r.lst ok
    obtain ⟨y, e2, hy⟩ := e1.get e
    refine ⟨⟨ys, y, .inl (.inl h1), e2⟩, fun x H' ⟨q1, q2⟩ => ?_⟩
    subst q1
    have e3 := q2 ys (.inl (.inl h1))
    rw [e2] at e3
    cases e3
    exact ⟨.refl, hy, r⟩
  stop := fun H S r ok _ => by
    obtain ⟨ys, h1, e1⟩ := r.lst ok
    exact ⟨ys, .inl (.inl h1), Nat.le_of_eq e1.length⟩
theorem wk_tup {K : PySem.W.Frag} {a : Addr} {xs : List D} : Wk K (Itt K a) xs (fun _ => True) (fun H => ∃ ys, SqT K H a ys ∧ DVs K H ys xs) where
  st := fun _ _ _ _ f ⟨ys, h1, e1⟩ => ⟨ys, f.stay.sqT h1, f.dvs e1⟩
  item := fun i d H S e r _ ⟨ys, h1, e1⟩ => by
    obtain ⟨y, e2, hy⟩ := e1.get e
    refine ⟨⟨ys, y, h1, e2⟩, fun x H' ⟨q1, q2⟩ => ?_⟩
    subst q1
    have e3 := q2 ys h1
    rw [e2] at e3
    cases e3
    exact ⟨.refl, hy, r⟩
  stop := fun H S r _ ⟨ys, h1, e1⟩ => ⟨ys, h1, Nat.le_of_eq e1.length⟩
theorem rangeD_get {n i : Nat} {d : D} (h : (rangeD n)[i]? = some d) : i < n ∧ d = .int (i : Nat) := by
  unfold rangeD at h
  rw [List.getElem?_map] at h
  obtain ⟨j, e1, e2⟩ := Option.map_eq_some_iff.mp h
  obtain ⟨hi, e3⟩ := List.getElem?_eq_some_iff.mp e1
  rw [List.getElem_range] at e3
  subst e3
  exact ⟨by simpa using hi, e2.symm⟩
theorem rangeD_length (n : Nat) : (rangeD n).length = n := by simp [rangeD]
theorem wk_range {K : PySem.W.Frag} {n : Nat} : Wk K (Itr 0 n) (rangeD n) (fun _ => True) (fun _ => True) where
  st := fun _ _ _ _ _ _ => trivial
  item := fun i d H S e r _ _ => by
    obtain ⟨h1, rfl⟩ := rangeD_get e
    refine ⟨h1, fun x H' ⟨q1, q2⟩ => ?_⟩
    subst q1 q2
    rw [Int.zero_add]
    exact ⟨.refl, .int _, r⟩
  stop := fun H S r _ _ => by rw [rangeD_length]; exact Nat.le_refl _
theorem wk_keys {K : PySem.W.Frag} {a : Addr} {o : Obj} {ps : List (Key × V)} {kvs : List (D × D)} (hp : ∀ H, (∃ S, SRel K H S ∧ S a = some (.frz kvs)) → True) : Wk K (Itk a o ps) (kvs.map (·.1)) (fun S => S a = some (.frz kvs)) (fun H => H a = some (.frz o (.dK ps)) ∧ Paired (fun (p : Key × V) (q : D × D) => keyD p.1 q.1) ps kvs) where
  st := fun _ _ _ _ f ⟨h, e⟩ => ⟨f.scr _ _ _ h, e⟩
  item := fun i d H S e r _ ⟨h, ep⟩ => by
    rw [List.getElem?_map] at e
    obtain ⟨q, e1, rfl⟩ := Option.map_eq_some_iff.mp e
    have hl := Paired.length ep
    obtain ⟨hi, _⟩ := List.getElem?_eq_some_iff.mp e1
    refine ⟨⟨h, by omega⟩, fun x H' ⟨q1, k, v, q2, q3⟩ => ?_⟩
    subst q1 q3
    obtain ⟨b, e4, hk⟩ := paired_get ep q2
    rw [e1] at e4
    cases e4
    exact ⟨.refl, dv_kV hk, r⟩
  stop := fun H S r _ ⟨h, ep⟩ => ⟨h, by rw [List.length_map]; exact Nat.le_of_eq (Paired.length ep)⟩
section
variable {X : Cx} {tg : Expr}
theorem y_seqI {e : Expr} {te : DTE} (he : PE X e (liftE X.K te)) : PI X tg e (liftI X.K fun σ S R => te σ S fun x S1 => match x with
    | .tup xs => R xs (fun _ => True) S1
    | .loc a => ∃ xs, S1 a = some (.lst xs) ∧ R xs (fun S2 => S2 a = some (.lst xs)) S1
    | _ => False) := by
  refine ⟨fun pins s σV H RI I ⟨σ, S, R, sl, sr, h, k⟩ => ?_⟩
  refine thn (he.run pins s σV H (fun v H1 => ∃ d S1, Frame H S H1 S1 ∧ DV X.K H1 v d ∧ SRel X.K H1 S1 ∧ _) I (goE sl sr h fun d S1 v H1 r f _ x s1 => ⟨d, S1, f, x, s1, r⟩)) fun v s1 ⟨x, H1, I1, r1, d, S1, f, hx, sr1, q⟩ => ?_
  cases d with
  | tup ds =>
    obtain ⟨a, xs, rfl, hq, e1⟩ := hx.tup_inv
    have k2 := k ds _ S1 (Itt X.K a) H1 _ q wk_tup ⟨xs, hq, e1⟩ f sr1
    cases (show v = Value.ref a from r1)
    obtain ⟨its, _, pl, _⟩ := I1.tuple hq
    exact wpAny_pyIter_tuple (show s1.heap.IsTuple a its.toArray from pl) (pi_one (tk := s1.toks) I1 _ (turn_tuple a _) ⟨_, Heap.get?_push_size _ rfl, rfl, rfl⟩ k2)
  | loc a =>
    obtain ⟨ds, e, q⟩ := q
    have k2 := k ds _ S1 (Itl X.K a) H1 _ q wk_list trivial f sr1
    have ex := hx.loc_inv
    subst ex
    cases (show v = Value.ref a from r1)
    obtain ⟨ys, h1, _⟩ := sr1.lst e
    obtain ⟨its, _, pl, _⟩ := I1.list (.inl (.inl h1))
    exact wpAny_pyIter_list pl.isList (pi_one (tk := s1.toks) I1 _ (turn_list a _) ⟨_, Heap.get?_push_size _ rfl, rfl, rfl⟩ k2)
  | _ => exact q.elim
theorem y_rangeI {a : Expr} {ta : DTE} {p pos : Pos} (hg : Gl X "range") (hm : X.mg "range" = none) (ha : PE X a (liftE X.K ta)) (hs : starEach [a] X.env = (false, eval a X.env) :: starEach [] X.env) :
    PI X tg (.Call (.Name "range" p) [a] [] pos) (liftI X.K fun σ S R => ta σ S fun x S1 => ∃ n, x = .int n ∧ (-1000000 ≤ n ∧ n ≤ 1000000) ∧ R (rangeD n.toNat) (fun _ => True) S1) := by
  have h0 := pi_range1 (tg := tg) (p := p) (pos := pos) hg hm (pa_cons ha pa_nil hs) hs
  refine ⟨fun pins s σV H RI I ⟨σ, S, R, sl, sr, h, k⟩ => h0.run pins s σV H RI I (goE sl sr h fun x S1 v H1 ⟨n, e, hn, r⟩ f sl hx sr => ?_)⟩
  subst e
  exact ⟨n, by rw [hx.int_inv], by omega, by omega, k _ _ S1 _ H1 _ r wk_range trivial f sr⟩
/-! ### targets -/
def tgIs : Tg → List Nat
  | .one i => [i]
  | .many is => is
theorem slot_set {K : PySem.W.Frag} {H : Hp} {σV : St} {σ : DSt} {i : Nat} {v : V} {d : D} (sl : SlotR K H σV σ) (x : DV K H v d) : SlotR K H (σV.set i (some v)) (σ.set i (some d)) := by
  refine ⟨by rw [List.length_set, List.length_set]; exact sl.1, fun j e h => ?_⟩
  by_cases c : i = j
  · subst c
    by_cases hi : i < σ.length
    · rw [List.getElem?_set_self hi] at h
      cases h
      exact ⟨v, List.getElem?_set_self (by rw [sl.1]; exact hi), x⟩
    · rw [List.getElem?_eq_none (by simpa using hi)] at h
      cases h
  · rw [List.getElem?_set_ne c] at h ⊢
    exact sl.2 j e h
theorem wipe_set {σ : St} {i : Nat} {v : Option V} : ∀ {vs : List Nat}, i ∈ vs → wipe (σ.set i v) vs = wipe σ vs
  | [], h => by cases h
  | j :: vs, h => by
    unfold wipe
    by_cases c : i ∈ vs
    · rw [wipe_set c]
    · have e : i = j := by rcases List.mem_cons.mp h with e | e; exact e; exact absurd e c
      subst e
      have q : ∀ {vs : List Nat}, i ∉ vs → wipe (σ.set i v) vs = (wipe σ vs).set i v := by
        intro vs
        induction vs with
        | nil => intro _; rfl
        | cons k r ih =>
          intro h
          have h1 : i ≠ k := fun e => h (by rw [e]; exact List.mem_cons_self)
          show (wipe (σ.set i v) r).set k none = ((wipe σ r).set k none).set i v
          rw [ih (fun z => h (List.mem_cons_of_mem _ z)), List.set_comm _ _ h1]
      rw [q c, List.set_set]
theorem slot_wipe {K : PySem.W.Frag} {H : Hp} {σV : St} {σ : DSt} (sl : SlotR K H σV σ) : ∀ vs : List Nat, SlotR K H (wipe σV vs) (wipeD σ vs)
  | [] => sl
  | j :: vs => by
    have ih := slot_wipe sl vs
    unfold wipe wipeD
    refine ⟨by rw [List.length_set, List.length_set]; exact ih.1, fun i d h => ?_⟩
    by_cases c : j = i
    · subst c
      by_cases hi : j < (wipeD σ vs).length
      · rw [List.getElem?_set_self hi] at h
        cases h
      · rw [List.getElem?_eq_none (by simpa using hi)] at h
        cases h
    · rw [List.getElem?_set_ne c] at h ⊢
      exact ih.2 i d h
def liftG (K : PySem.W.Frag) (g : Tg) : TG := fun v σV H Q => ∃ d σ σ1, DV K H v d ∧ SlotR K H σV σ ∧ bindT g d σ = some σ1 ∧ ∀ σV', SlotR K H σV' σ1 → (∀ vs, (∀ i ∈ tgIs g, i ∈ vs) → wipe σV' vs = wipe σV vs) → Q σV' H
def liftGs (K : PySem.W.Frag) (is : List Nat) : TGs := fun vs σV H Q => ∃ ds σ σ1, DVs K H vs ds ∧ SlotR K H σV σ ∧ bindAll is ds σ = some σ1 ∧ ∀ σV', SlotR K H σV' σ1 → (∀ vs, (∀ i ∈ is, i ∈ vs) → wipe σV' vs = wipe σV vs) → Q σV' H
theorem _root_.L2.PG.imp {X : Cx} {e : Expr} {t t' : TG} (h : PG X e t) (i : ∀ v σ H Q, t' v σ H Q → t v σ H Q) : PG X e t' := ⟨fun pins s σ H v u Q I r q => h.run pins s σ H v u Q I r (i _ _ _ _ q)⟩
theorem _root_.L2.PGs.imp {X : Cx} {e : List Expr} {t t' : TGs} (h : PGs X e t) (i : ∀ v σ H Q, t' v σ H Q → t v σ H Q) : PGs X e t' := ⟨fun pins s σ H v u Q I r q => h.run pins s σ H v u Q I r (i _ _ _ _ q)⟩
/-- the name x has the slot i -/
structure NmOk (X : Cx) (i : Nat) (x : Str) : Prop where
  at_ : X.N[i]? = some x
  loc : Loc X.env.scope x
  fn : X.fn x = true ∨ X.env.scope.names.lookup x = some .local
theorem y_g1 {i : Nat} {x : Str} {pos : Pos} (hN : X.N.Nodup) (h : NmOk X i x) : PG X (.Name x pos) (liftG X.K (.one i)) :=
  (pg_name hN h.at_ h.loc h.fn).imp fun v σV H Q ⟨d, σ, σ1, hx, sl, e, k⟩ => by
    cases e
    exact k _ (slot_set sl hx) fun vs hv => wipe_set (hv i (by simp [tgIs]))
inductive Names (X : Cx) : List Nat → List Expr → Prop
  | nil : Names X [] []
  | cons {i : Nat} {x : Str} {p : Pos} {is : List Nat} {es : List Expr} : NmOk X i x → Names X is es → Names X (i :: is) (.Name x p :: es)
theorem y_gs (hN : X.N.Nodup) {is : List Nat} {es : List Expr} (h : Names X is es) : PGs X es (liftGs X.K is) := by
  induction h with
  | nil =>
    refine pgs_nil.imp fun vs σV H Q ⟨ds, σ, σ1, hx, sl, e, k⟩ => ?_
    cases hx with
    | nil => cases e; exact ⟨rfl, k _ sl fun _ _ => rfl⟩
    | cons _ _ => cases e
  | @cons i x p is es n t ih =>
    refine (pgs_cons (pg_name (pos := p) hN n.at_ n.loc n.fn) ih (by rfl)).imp fun vs σV H Q ⟨ds, σ, σ1, hx, sl, e, k⟩ => ?_
    cases hx with
    | nil => cases e
    | cons h1 h2 =>
      refine ⟨_, _, rfl, _, _, σ1, h2, slot_set sl h1, e, fun σV' sl' hw => k σV' sl' fun vs hv => ?_⟩
      rw [hw vs fun j hj => hv j (List.mem_cons_of_mem _ hj), wipe_set (hv i List.mem_cons_self)]
theorem names_len {is : List Nat} {es : List Expr} (h : Names X is es) : (assignEach es X.env).length = is.length ∧ (assignEach es X.env).findIdx? (·.1) = none := by
  induction h with
  | nil => exact ⟨rfl, rfl⟩
  | @cons i x p is es n t ih =>
    have e : assignEach (.Name x p :: es) X.env = (false, assign (.Name x p) X.env) :: assignEach es X.env := by rfl
    rw [e]
    refine ⟨by rw [List.length_cons, List.length_cons, ih.1], ?_⟩
    rw [List.findIdx?_cons]
    simp [ih.2]
theorem bindAll_len : ∀ {is : List Nat} {ds : List D} {σ σ1 : DSt}, bindAll is ds σ = some σ1 → ds.length = is.length
  | [], [], _, _, _ => rfl
  | _ :: is, _ :: ds, σ, σ1, h => by rw [List.length_cons, List.length_cons, bindAll_len (is := is) (ds := ds) h]
  | [], _ :: _, _, _, h => by cases h
  | _ :: _, [], _, _, h => by cases h
theorem y_gm {is : List Nat} {es : List Expr} {k : Nat} {pos : Pos} (hc : X.calm = true) (hN : X.N.Nodup) (h : Names X is es) : PG X (.Tuple es k pos) (liftG X.K (.many is)) :=
  (pg_tup hc (y_gs hN h) (names_len h).1 (names_len h).2).imp fun v σV H Q ⟨d, σ, σ1, hx, sl, e, k⟩ => by
    cases d with
    | tup ds =>
      obtain ⟨a, xs, rfl, hq, hv⟩ := hx.tup_inv
      exact ⟨a, xs, rfl, hq, by rw [hv.length]; exact bindAll_len e, ds, σ, σ1, hv, sl, e, k⟩
    | _ => cases e
end
end Y

namespace Y
open PySem PySem.Spec L2

section
variable {X : Cx} {tg it : Expr} {pos : Pos}
theorem drop_at {α : Type} {xs : List α} {i : Nat} (h : i < xs.length) : ∃ x, xs[i]? = some x ∧ xs.drop i = x :: xs.drop (i + 1) :=
  ⟨xs[i], List.getElem?_eq_getElem h, List.drop_eq_getElem_cons h⟩
/-! ### for, while -/
theorem y_for {body : List Stmt} {t : DTJ} {g : Tg} {b : Ends → DSt → Store → Prop} (hp : PassesOwn (model X.prog X.w) X.A X.env X.xe) (hc : X.calm = true) (hi : PI X tg it (liftI X.K t)) (hg : PG X tg (liftG X.K g)) (hb : PSs X body (liftS X.K b))
    (hs : ∀ x, foldedSetIterable it X.env x = pure x) : PS X (.For tg it body [] pos) (liftS X.K fun Z σ S => t σ S fun xs ok S1 => forL g ok b xs Z σ S1) := by
  refine (ps_for hp hc hi hg hb hs).imp fun N σV H ⟨Z, σ, S, sl, sr, h, k⟩ => ?_
  refine ⟨σ, S, _, sl, sr, h, fun xs ok S1 J H1 P hq wk hP f sr1 => ?_⟩
  refine ⟨fun i m σV' H' => m = xs.length - i ∧ i ≤ xs.length ∧ P H' ∧ ∃ σ' S', SlotR X.K H' σV' σ' ∧ SRel X.K H' S' ∧ Frame H S H' S' ∧ forL g ok b (xs.drop i) Z σ' S', ⟨_, rfl, Nat.zero_le _, hP, σ, S1, f.slot sl, sr1, f, hq⟩, ?_⟩
  rintro i m σV' H' ⟨rfl, hi, hP', σ', S', sl', sr', f', q⟩
  by_cases c : i < xs.length
  · obtain ⟨x, e1, e2⟩ := drop_at c
    rw [e2] at q
    obtain ⟨q1, σ1, q2, q3⟩ := q
    obtain ⟨go, yl⟩ := wk.item i x H' S' e1 sr' q1 hP'
    refine .inr ⟨go, fun σ2 H2 => ∃ m', m' < xs.length - i ∧ m' = xs.length - (i + 1) ∧ i + 1 ≤ xs.length ∧ P H2 ∧ ∃ σ' S', SlotR X.K H2 σ2 σ' ∧ SRel X.K H2 S' ∧ Frame H S H2 S' ∧ forL g ok b (xs.drop (i + 1)) Z σ' S', fun σ2 H2 z => z, fun v H2 y => ?_⟩
    obtain ⟨f2, hx, sr2⟩ := yl v H2 y
    refine ⟨x, σ', σ1, hx, f2.slot sl', q2, fun σV2 sl2 _ => ?_⟩
    refine ⟨_, σ1, S', sl2, sr2, q3, ⟨fun σ3 S3 σV3 H3 r f3 sl3 sr3 => ?_, fun d S3 v3 H3 r f3 x3 sr3 => ?_⟩⟩
    · exact ⟨_, by omega, rfl, c, wk.st _ _ _ _ (f2.trans f3) hP', σ3, S3, sl3, sr3, f'.trans (f2.trans f3), r⟩
    · exact k.rt d S3 v3 H3 r (f'.trans (f2.trans f3)) x3 sr3
  · have e : i = xs.length := by omega
    subst e
    rw [List.drop_length] at q
    exact .inl ⟨wk.stop H' S' sr' q.1 hP', k.nx σ' S' σV' H' q.2 f' sl' sr'⟩
theorem y_while {c : Expr} {body : List Stmt} {tc : DTE} {b : Ends → DSt → Store → Prop} (hp : PassesOwn (model X.prog X.w) X.A X.env X.xe) (hc : PT X c (liftT X.K tc)) (hb : PSs X body (liftS X.K b)) :
    PS X (.While c body [] pos) (liftS X.K fun Z σ S => ∃ n, whileN tc b n Z σ S) := by
  refine (ps_while hp hc hb).imp fun N σV H ⟨Z, σ, S, sl, sr, ⟨n, h⟩, k⟩ => ?_
  refine ⟨fun m σV' H' => ∃ σ' S', SlotR X.K H' σV' σ' ∧ SRel X.K H' S' ∧ Frame H S H' S' ∧ whileN tc b m Z σ' S', ⟨n, σ, S, sl, sr, .refl, h⟩, ?_⟩
  rintro m σV' H' ⟨σ', S', sl', sr', f', q⟩
  cases m with
  | zero => exact q.elim
  | succ m =>
    refine goT sl' sr' (R := fun t S1 => if t = true then b ⟨fun σ2 S2 => whileN tc b m Z σ2 S2, Z.rt⟩ σ' S1 else Z.nx σ' S1) q fun t S1 H1 r f sl1 sr1 => ?_
    cases t with
    | true =>
      refine ⟨fun σ2 H2 => ∃ σ' S', SlotR X.K H2 σ2 σ' ∧ SRel X.K H2 S' ∧ Frame H S H2 S' ∧ whileN tc b m Z σ' S', fun σ2 H2 z => ⟨m, Nat.lt_succ_self _, z⟩, ?_⟩
      refine ⟨_, σ', S1, sl1, sr1, r, ⟨fun σ3 S3 σV3 H3 r3 f3 sl3 sr3 => ⟨σ3, S3, sl3, sr3, f'.trans (f.trans f3), r3⟩, fun d S3 v3 H3 r3 f3 x3 sr3 => k.rt d S3 v3 H3 r3 (f'.trans (f.trans f3)) x3 sr3⟩⟩
    | false => exact k.nx σ' S1 σV' H1 r (f'.trans f) sl1 sr1
/-! ### comprehensions -/
theorem y_test1 {c : Expr} {tc : DTE} (h : PT X c (liftT X.K tc)) : PTs X [c] (liftT X.K tc) := pts_one h
def condT (K : PySem.W.Frag) : Option DTE → TT
  | none => tYes
  | some t => liftT K t
def condW (t : Option DTE) : DSt → Store → (Bool → Store → Prop) → Prop := match t with
  | none => fun _ S R => R true S
  | some t => fun σ S R => t σ S fun x S1 => ∃ b, x = .bl b ∧ R b S1
theorem goC {K : PySem.W.Frag} {H : Hp} {S : Store} {t : Option DTE} {σV : St} {σ : DSt} {R : Bool → Store → Prop} {Q : Bool → Hp → Prop} (sl : SlotR K H σV σ) (sr : SRel K H S) (h : condW t σ S R)
    (k : ∀ b S1 H1, R b S1 → Frame H S H1 S1 → SlotR K H1 σV σ → SRel K H1 S1 → Q b H1) : condT K t σV H Q := by
  cases t with
  | none => exact k true S H h .refl sl sr
  | some t => exact goT sl sr h k
def lcStep (own : List Nat) (g : Tg) (tc : Option DTE) (te : DTE) (σ : DSt) (x : D) (S2 : Store) (k : Option D → Store → Prop) : Prop :=
  ∃ σ1, bindT g x (wipeD σ own) = some σ1 ∧ condW tc σ1 S2 fun t S3 => if t = true then te σ1 S3 fun y S4 => k (some y) S4 else k none S3
theorem wipe_twice {σ : St} : ∀ {vs ws : List Nat}, (∀ i ∈ ws, i ∈ vs) → wipe (wipe σ ws) vs = wipe σ vs
  | vs, [], _ => rfl
  | vs, j :: ws, h => by
    show wipe ((wipe σ ws).set j none) vs = _
    rw [wipe_set (h j List.mem_cons_self)]
    exact wipe_twice fun i hi => h i (List.mem_cons_of_mem _ hi)
theorem lc_imp {t : DTJ} {g : Tg} {own : List Nat} {tc : Option DTE} {te : DTE} (ho : ∀ i ∈ tgIs g, i ∈ own) {σV : St} {H : Hp} {Q : VK}
    (h : liftE X.K (fun σ S R => t σ S fun xs ok S1 => ∀ p, S1 p = none → lcL p ok (lcStep own g tc te σ) xs [] (S1.upd p (.lst [])) fun S2 => R (.loc p) S2) σV H Q) :
    tLc (liftI X.K t) (liftG X.K g) (condT X.K tc) (liftE X.K te) own σV H Q := by
  obtain ⟨σ, S, R, sl, sr, h, k⟩ := h
  refine ⟨σ, S, _, sl, sr, h, fun xs ok S1 J H1 P hq wk hP f sr1 p hp => ?_⟩
  have f1 : Frame H1 S1 (L2.upd H1 p (.lst [])) (S1.upd p (.lst [])) := frame_new hp
  refine ⟨fun i m H' => m = xs.length - i ∧ i ≤ xs.length ∧ P H' ∧ ∃ acc S', SRel X.K H' S' ∧ Frame H S H' S' ∧ lcL p ok (lcStep own g tc te σ) (xs.drop i) acc S' fun S2 => R (.loc p) S2,
    ⟨_, rfl, Nat.zero_le _, wk.st _ _ _ _ f1 hP, [], S1.upd p (.lst []), srel_new (mo := .lst []) sr1 hp ⟨[], L2.upd_same, .nil⟩, f.trans f1, hq p (sr1.fresh hp)⟩, ?_⟩
  rintro i m H' ⟨rfl, hi, hP', acc, S', sr', f', q⟩
  by_cases c : i < xs.length
  · obtain ⟨x, e1, e2⟩ := drop_at c
    rw [e2] at q
    obtain ⟨q1, σ1, q2, q3⟩ := q
    obtain ⟨go, yl⟩ := wk.item i x H' S' e1 sr' q1 hP'
    refine .inr ⟨go, fun H2 => ∃ m', m' < xs.length - i ∧ m' = xs.length - (i + 1) ∧ i + 1 ≤ xs.length ∧ P H2 ∧ ∃ acc S', SRel X.K H2 S' ∧ Frame H S H2 S' ∧ lcL p ok (lcStep own g tc te σ) (xs.drop (i + 1)) acc S' fun S2 => R (.loc p) S2, fun H2 z => z, fun v H2 y => ?_⟩
    obtain ⟨f2, hx, sr2⟩ := yl v H2 y
    refine ⟨x, wipeD σ own, σ1, hx, slot_wipe ((f'.trans f2).slot sl) own, q2, fun σV2 sl2 hw => ⟨?_, ?_⟩⟩
    · rw [hw own ho, wipe_twice fun _ h => h]
    refine goC sl2 sr2 q3 fun b S3 H3 r3 f3 sl3 sr3 => ?_
    cases b with
    | false =>
      rw [if_neg Bool.false_ne_true] at r3 ⊢
      exact ⟨_, by omega, rfl, c, wk.st _ _ _ _ (f2.trans f3) hP', acc, S3, sr3, f'.trans (f2.trans f3), r3⟩
    | true =>
      rw [if_pos rfl] at r3 ⊢
      refine goE sl3 sr3 r3 fun d S4 v4 H4 ⟨r4, r5, r6⟩ f4 sl4 hx4 sr4 => ?_
      obtain ⟨ys, h4, e4⟩ := sr4.lst r4
      refine ⟨ys, h4, by rw [e4.length]; exact r5, ?_⟩
      have f5 : Frame H4 S4 (L2.upd H4 p (.lst (ys ++ [v4]))) (S4.upd p (.lst (acc ++ [d]))) := frame_set sr4 r4
      exact ⟨_, by omega, rfl, c, wk.st _ _ _ _ ((f2.trans f3).trans (f4.trans f5)) hP', acc ++ [d], S4.upd p (.lst (acc ++ [d])), srel_set (mo' := .lst (acc ++ [d])) sr4 r4 ⟨_, L2.upd_same, DVs.mono f5.stay (e4.append (.cons hx4 .nil))⟩, f'.trans ((f2.trans f3).trans (f4.trans f5)), r6⟩
  · have e : i = xs.length := by omega
    subst e
    rw [List.drop_length] at q
    exact .inl ⟨wk.stop H' S' sr' q.1 hP', k.go _ S' _ H' q.2 f' (.loc p) sr'⟩
def dcStep (own : List Nat) (g : Tg) (tc : Option DTE) (tk tv : DTE) (σ : DSt) (x : D) (S2 : Store) (k : Option (D × D) → Store → Prop) : Prop :=
  ∃ σ1, bindT g x (wipeD σ own) = some σ1 ∧ condW tc σ1 S2 fun t S3 => if t = true then tk σ1 S3 fun y S4 => tv σ1 S4 fun z S5 => k (some (y, z)) S5 else k none S3
theorem putD_mem {kvs : List (D × D)} {k v : D} {x : D} (h : x ∈ (putD kvs k v).map (·.1)) : x = k ∨ x ∈ kvs.map (·.1) := by
  induction kvs with
  | nil => simpa [putD] using h
  | cons a r ih =>
    obtain ⟨k', v'⟩ := a
    unfold putD at h
    split at h
    · rename_i e
      subst e
      simpa using h
    · simp only [List.map_cons, List.mem_cons] at h ⊢
      rcases h with h | h
      · exact .inr (.inl h)
      · rcases ih h with h | h
        · exact .inl h
        · exact .inr (.inr h)
theorem putD_nodup {kvs : List (D × D)} {k v : D} (h : (kvs.map (·.1)).Nodup) : ((putD kvs k v).map (·.1)).Nodup := by
  induction kvs with
  | nil => simp [putD]
  | cons a r ih =>
    obtain ⟨k', v'⟩ := a
    simp only [List.map_cons, List.nodup_cons] at h
    unfold putD
    split
    · simpa using h
    · rename_i e
      simp only [List.map_cons, List.nodup_cons]
      refine ⟨fun z => ?_, ih h.2⟩
      rcases putD_mem z with z | z
      · exact e z
      · exact h.1 z
theorem keys_nodup {K : PySem.W.Frag} {H : Hp} {ps : List (Key × V)} {kvs : List (D × D)} (h : Paired (EntD K H) ps kvs) (n : (kvs.map (·.1)).Nodup) : (ps.map (·.1)).Nodup := by
  induction h with
  | nil => exact List.nodup_nil
  | @cons p q ps kvs a t ih =>
    simp only [List.map_cons, List.nodup_cons] at n ⊢
    refine ⟨fun z => n.1 ?_, ih n.2⟩
    obtain ⟨e, o⟩ := keyD_eq a.1
    have key : ∀ {ps : List (Key × V)} {kvs : List (D × D)}, Paired (EntD K H) ps kvs → p.1 ∈ ps.map (·.1) → q.1 ∈ kvs.map (·.1) := by
      intro ps kvs t
      induction t with
      | nil => intro z; cases z
      | @cons p' q' ps kvs a' t ih =>
        intro z
        simp only [List.map_cons, List.mem_cons] at z ⊢
        rcases z with z | z
        · obtain ⟨e', o'⟩ := keyD_eq a'.1
          exact .inl (keyOf_inj o o' (e.symm.trans (z.trans e')))
        · exact .inr (ih z)
    exact key t z
theorem dc_imp {t : DTJ} {g : Tg} {own : List Nat} {tc : Option DTE} {tk tv : DTE} (ho : ∀ i ∈ tgIs g, i ∈ own) {σV : St} {H : Hp} {Q : VK}
    (h : liftE X.K (fun σ S R => t σ S fun xs ok S1 => ∀ p, S1 p = none → dcL p ok (dcStep own g tc tk tv σ) xs [] (S1.upd p (.dct [])) fun S2 => R (.loc p) S2) σV H Q) :
    tDc (liftI X.K t) (liftG X.K g) (condT X.K tc) (liftE X.K tk) (liftE X.K tv) own σV H Q := by
  obtain ⟨σ, S, R, sl, sr, h, k⟩ := h
  refine ⟨σ, S, _, sl, sr, h, fun xs ok S1 J H1 P hq wk hP f sr1 p hp => ?_⟩
  have f1 : Frame H1 S1 (L2.upd H1 p (.dK [])) (S1.upd p (.dct [])) := frame_new hp
  refine ⟨fun i m H' => m = xs.length - i ∧ i ≤ xs.length ∧ P H' ∧ ∃ acc S', (acc.map (·.1)).Nodup ∧ SRel X.K H' S' ∧ Frame H S H' S' ∧ dcL p ok (dcStep own g tc tk tv σ) (xs.drop i) acc S' fun S2 => R (.loc p) S2,
    ⟨_, rfl, Nat.zero_le _, wk.st _ _ _ _ f1 hP, [], S1.upd p (.dct []), List.nodup_nil, srel_new (mo := .dct []) sr1 hp ⟨[], L2.upd_same, .nil⟩, f.trans f1, hq p (sr1.fresh hp)⟩, ?_⟩
  rintro i m H' ⟨rfl, hi, hP', acc, S', nd, sr', f', q⟩
  by_cases c : i < xs.length
  · obtain ⟨x, e1, e2⟩ := drop_at c
    rw [e2] at q
    obtain ⟨q1, σ1, q2, q3⟩ := q
    obtain ⟨go, yl⟩ := wk.item i x H' S' e1 sr' q1 hP'
    refine .inr ⟨go, fun H2 => ∃ m', m' < xs.length - i ∧ m' = xs.length - (i + 1) ∧ i + 1 ≤ xs.length ∧ P H2 ∧ ∃ acc S', (acc.map (·.1)).Nodup ∧ SRel X.K H2 S' ∧ Frame H S H2 S' ∧ dcL p ok (dcStep own g tc tk tv σ) (xs.drop (i + 1)) acc S' fun S2 => R (.loc p) S2, fun H2 z => z, fun v H2 y => ?_⟩
    obtain ⟨f2, hx, sr2⟩ := yl v H2 y
    refine ⟨x, wipeD σ own, σ1, hx, slot_wipe ((f'.trans f2).slot sl) own, q2, fun σV2 sl2 hw => ⟨?_, ?_⟩⟩
    · rw [hw own ho, wipe_twice fun _ h => h]
    refine goC sl2 sr2 q3 fun b S3 H3 r3 f3 sl3 sr3 => ?_
    cases b with
    | false =>
      rw [if_neg Bool.false_ne_true] at r3 ⊢
      exact ⟨_, by omega, rfl, c, wk.st _ _ _ _ (f2.trans f3) hP', acc, S3, nd, sr3, f'.trans (f2.trans f3), r3⟩
    | true =>
      rw [if_pos rfl] at r3 ⊢
      refine goE sl3 sr3 r3 fun d S4 v4 H4 r4 f4 sl4 hx4 sr4 => goE sl4 sr4 r4 fun z S5 v5 H5 ⟨r4, rk, r5, r6⟩ f5 sl5 hx5 sr5 => ?_
      obtain ⟨ps, h5, e5⟩ := sr5.dct r4
      refine ⟨ps, keyOf d, kV_dv hx4 rk, h5, by rw [Paired.length e5]; exact r5, ?_⟩
      have f6 : Frame H5 S5 (L2.upd H5 p (.dK (putK ps (keyOf d) v5))) (S5.upd p (.dct (putD acc d z))) := frame_set sr5 r4
      have e6 := put_rel rk hx5 (keys_nodup e5 nd) e5
      have ff := (f2.trans f3).trans ((f4.trans f5).trans f6)
      exact ⟨_, by omega, rfl, c, wk.st _ _ _ _ ff hP', putD acc d z, S5.upd p (.dct (putD acc d z)), putD_nodup nd, srel_set (mo' := .dct (putD acc d z)) sr5 r4 ⟨_, L2.upd_same, L2.Paired.mapP e6 fun _ _ w => w.mono f6.stay⟩, f'.trans ff, r6⟩
  · have e : i = xs.length := by omega
    subst e
    rw [List.drop_length] at q
    exact .inl ⟨wk.stop H' S' sr' q.1 hP', k.go _ S' _ H' q.2 f' (.loc p) sr'⟩
end
end Y

namespace Y
open PySem PySem.Spec L2

/-! ### the keys of a dict: the dict is locked while it is walked -/
def keysJ (i : Nat) : DTJ := fun σ S R => ∃ a kvs, σ[i]? = some (some (.loc a)) ∧ S a = some (.frz kvs) ∧ R (kvs.map (·.1)) (fun S2 => S2 a = some (.frz kvs)) S
section
variable {X : Cx} {pos : Pos}
theorem y_keysI {tg : Expr} {i : Nat} {x : Str} (hN : X.N[i]? = some x) (hv : Vis X.env.scope x) (hd : (x == ("__debug__" : Str)) = false) (hcd : (x == ("__classdict__" : Str)) = false) : PI X tg (.Name x pos) (liftI X.K (keysJ i)) := by
  refine ⟨fun pins s σV H RI I ⟨σ, S, R, sl, sr, ⟨a, kvs, e1, e2, h⟩, k⟩ => ?_⟩
  refine (pi_keys (tg := tg) (pe_var (pos := pos) hN hv hd hcd)).run pins s σV H RI I ?_
  obtain ⟨v, e3, hx⟩ := sl.2 i _ e1
  obtain ⟨o, ps, h1, ep⟩ := sr.frz e2
  exact ⟨v, e3, a, o, hx.loc_inv, .inl ⟨ps, h1, k _ _ S _ H _ h (wk_keys fun _ _ => trivial) ⟨h1, L2.Paired.mapP ep fun _ _ z => z.1⟩ .refl sr⟩⟩
/-- the lock laid -/
theorem lock_rel {K : PySem.W.Frag} {H : Hp} {S : Store} {a : Addr} {kvs : List (D × D)} (sr : SRel K H S) (e : S a = some (.dct kvs)) : ∃ ps, H a = some (.dK ps) ∧ Paired (EntD K H) ps kvs ∧ ∀ od, Frame H S (L2.upd H a (.frz od (.dK ps))) (S.upd a (.frz kvs)) ∧ SRel K (L2.upd H a (.frz od (.dK ps))) (S.upd a (.frz kvs)) := by
  obtain ⟨ps, h1, ep⟩ := sr.dct e
  refine ⟨ps, h1, ep, fun od => ⟨frame_set sr e, srel_set sr e ⟨od, ps, L2.upd_same, L2.Paired.mapP ep fun _ _ z => z.mono (stay_set sr e)⟩⟩⟩
/-- .. and taken away -/
theorem unlock_rel {K : PySem.W.Frag} {H H' : Hp} {S S' : Store} {a : Addr} {kvs : List (D × D)} {ps : List (Key × V)} {od : Obj} (sr : SRel K H S) (e : S a = some (.dct kvs)) (h1 : H a = some (.dK ps)) (ep : Paired (EntD K H) ps kvs)
    (f : Frame (L2.upd H a (.frz od (.dK ps))) (S.upd a (.frz kvs)) H' S') (sr' : SRel K H' S') : H' a = some (.frz od (.dK ps)) ∧ Stay H' (L2.upd H' a (.dK ps)) ∧ Frame H S (L2.upd H' a (.dK ps)) (S'.upd a (.dct kvs)) ∧ SRel K (L2.upd H' a (.dK ps)) (S'.upd a (.dct kvs)) := by
  have e1 : H' a = some (.frz od (.dK ps)) := f.scr a od _ L2.upd_same
  have f0 : Frame H S (L2.upd H a (.frz od (.dK ps))) (S.upd a (.frz kvs)) := frame_set sr e
  have ff := f0.trans f
  have st : Stay H' (L2.upd H' a (.dK ps)) := by
    refine ⟨fun b xs q => ?_, fun b o xs q => ?_⟩
    · rcases q with q | ⟨ob, q⟩
      · exact .inl (by rw [L2.upd_ne (fun z => by subst z; rw [e1] at q; cases q)]; exact q)
      · exact .inr ⟨ob, by rw [L2.upd_ne (fun z => by subst z; rw [e1] at q; cases q)]; exact q⟩
    · rw [L2.upd_ne (fun z => by subst z; rw [e1] at q; cases q)]
      exact q
  refine ⟨e1, st, ⟨fun b o q n => ?_, fun b xs q => st.tup _ _ (ff.tup _ _ q), fun b o u q => ?_⟩, fun b o q => ?_⟩
  · have ne : b ≠ a := fun z => by subst z; rw [e] at n; cases n
    obtain ⟨q1, q2⟩ := ff.un b o q n
    exact ⟨by rw [L2.upd_ne ne]; exact q1, by rw [Store.upd_ne ne]; exact q2⟩
  · have ne : b ≠ a := fun z => by subst z; rw [h1] at q; cases q
    rw [L2.upd_ne ne]
    exact ff.scr b o u q
  · by_cases c : b = a
    · subst c
      rw [Store.upd_same] at q
      cases q
      exact ⟨ps, L2.upd_same, L2.Paired.mapP ep fun _ _ z => (z.mono ff.stay).mono st⟩
    · rw [Store.upd_ne c] at q
      exact (sr' b o q).keep (fun x z => by rw [L2.upd_ne c]; exact z) st
def lockW (i : Nat) (w : DTE) : DTE := fun σ S R => ∃ a kvs, σ[i]? = some (some (.loc a)) ∧ S a = some (.dct kvs) ∧ w σ (S.upd a (.frz kvs)) fun d S2 => R d (S2.upd a (.dct kvs))
theorem lockE_imp {K : PySem.W.Frag} {i : Nat} {w : DTE} {σV : St} {H : Hp} {Q : VK} (h : liftE K (lockW i w) σV H Q) : tLockE (liftE K w) σV H Q := by
  obtain ⟨σ, S, R, sl, sr, ⟨a, kvs, e1, e2, h⟩, k⟩ := h
  obtain ⟨ps, h1, ep, lk⟩ := lock_rel sr e2
  refine ⟨a, .dK ps, h1, True.intro, fun od => ?_⟩
  obtain ⟨f0, sr0⟩ := lk od
  refine ⟨σ, _, _, f0.slot sl, sr0, h, ⟨fun d S' v H' r f x s => ?_⟩⟩
  obtain ⟨q1, q2, q3, q4⟩ := unlock_rel sr e2 h1 ep f s
  exact ⟨q1, k.go d _ v _ r q3 (DV.mono q2 x) q4⟩
def lockS (i : Nat) (w : Ends → DSt → Store → Prop) : Ends → DSt → Store → Prop := fun Z σ S => ∃ a kvs, σ[i]? = some (some (.loc a)) ∧ S a = some (.dct kvs) ∧ w ⟨fun σ2 S2 => Z.nx σ2 (S2.upd a (.dct kvs)), fun d S2 => Z.rt d (S2.upd a (.dct kvs))⟩ σ (S.upd a (.frz kvs))
theorem lockS_imp {K : PySem.W.Frag} {i : Nat} {w : Ends → DSt → Store → Prop} {σV : St} {H : Hp} {N : L2.Ends} (h : liftS K (lockS i w) N σV H) : tLock (liftS K w) N σV H := by
  obtain ⟨Z, σ, S, sl, sr, ⟨a, kvs, e1, e2, h⟩, k⟩ := h
  obtain ⟨ps, h1, ep, lk⟩ := lock_rel sr e2
  refine ⟨a, .dK ps, h1, True.intro, fun od => ?_⟩
  obtain ⟨f0, sr0⟩ := lk od
  refine ⟨_, σ, _, f0.slot sl, sr0, h, ⟨fun σ' S' σV' H' r f sl' s => ?_, fun d S' v H' r f x s => ?_⟩⟩
  · obtain ⟨q1, q2, q3, q4⟩ := unlock_rel sr e2 h1 ep f s
    exact ⟨q1, k.nx σ' _ σV' _ r q3 (sl'.mono q2) q4⟩
  · obtain ⟨q1, q2, q3, q4⟩ := unlock_rel sr e2 h1 ep f s
    exact ⟨q1, k.rt d _ v _ r q3 (DV.mono q2 x) q4⟩
/-! ### statements -/
variable {e o i : Expr} {te to ti : DTE}
theorem y_nilS : PSs X [] (liftS X.K fun Z σ S => Z.nx σ S) := pss_nil.imp fun N σV H ⟨Z, σ, S, sl, sr, h, k⟩ => k.nx σ S σV H h .refl sl sr
theorem y_consS {st : Stmt} {r : List Stmt} {t u : Ends → DSt → Store → Prop} (h1 : PS X st (liftS X.K t)) (h2 : PSs X r (liftS X.K u)) : PSs X (st :: r) (liftS X.K fun Z σ S => t ⟨fun σ1 S1 => u Z σ1 S1, Z.rt⟩ σ S) :=
  (pss_cons h1 h2).imp fun N σV H ⟨Z, σ, S, sl, sr, h, k⟩ => ⟨_, σ, S, sl, sr, h, ⟨fun σ' S' σV' H' q f sl' s => ⟨Z, σ', S', sl', s, q, k.after f⟩, fun d S' v H' q f x s => k.rt d S' v H' q f x s⟩⟩
theorem y_pass : PS X (.Pass pos) (liftS X.K fun Z σ S => Z.nx σ S) := ps_pass.imp fun N σV H ⟨Z, σ, S, sl, sr, h, k⟩ => k.nx σ S σV H h .refl sl sr
theorem y_ret (he : PE X e (liftE X.K te)) : PS X (.Return (some e) pos) (liftS X.K fun Z σ S => te σ S Z.rt) :=
  (ps_ret he).imp fun N σV H ⟨Z, σ, S, sl, sr, h, k⟩ => goE sl sr h fun d S1 v H1 r f _ x s => k.rt d S1 v H1 r f x s
theorem y_retN : PS X (.Return none pos) (liftS X.K fun Z σ S => Z.rt .non S) := ps_retN.imp fun N σV H ⟨Z, σ, S, sl, sr, h, k⟩ => k.rt .non S .non H h .refl .non sr
theorem y_ex (he : PE X e (liftE X.K te)) (hs : swapsWith e none pos.line X.env = pure false) : PS X (.Expr e pos) (liftS X.K fun Z σ S => te σ S fun _ S1 => Z.nx σ S1) :=
  (ps_expr he hs).imp fun N σV H ⟨Z, σ, S, sl, sr, h, k⟩ => goE sl sr h fun d S1 v H1 r f sl1 x s => k.nx σ S1 σV H1 r f sl1 s
theorem y_if {c : Expr} {a b : List Stmt} {tc : DTE} {t u : Ends → DSt → Store → Prop} (hc : PT X c (liftT X.K tc)) (ha : PSs X a (liftS X.K t)) (hb : PSs X b (liftS X.K u)) :
    PS X (.If c a b pos) (liftS X.K fun Z σ S => tc σ S fun x S1 => ∃ t', x = .bl t' ∧ if t' = true then t Z σ S1 else u Z σ S1) :=
  (ps_if hc ha hb).imp fun N σV H ⟨Z, σ, S, sl, sr, h, k⟩ => goT sl sr h fun b S1 H1 r f sl1 s => by
    cases b with
    | true => exact ⟨Z, σ, S1, sl1, s, r, k.after f⟩
    | false => exact ⟨Z, σ, S1, sl1, s, r, k.after f⟩
theorem y_asg {tg : Expr} {g : Tg} (he : PE X e (liftE X.K te)) (hg : PG X tg (liftG X.K g)) (hs : swapsWithSole [tg] e pos.line X.env = pure false) (hw : swappedStores [tg] e X.env = pure none) (h1 : (assignEach [tg] X.env).map (·.2) = [assign tg X.env]) :
    PS X (.Assign [tg] e pos) (liftS X.K fun Z σ S => te σ S fun x S1 => ∃ σ1, bindT g x σ = some σ1 ∧ Z.nx σ1 S1) :=
  (ps_asg he hg hs hw h1).imp fun N σV H ⟨Z, σ, S, sl, sr, h, k⟩ => goE sl sr h fun d S1 v H1 ⟨σ1, e1, r⟩ f sl1 x s => ⟨d, σ, σ1, x, sl1, e1, fun σV' sl' _ => k.nx σ1 S1 σV' H1 r f sl' s⟩
/-- name = a comprehension, on one line -/
theorem y_setC {t : TE} {i : Nat} {st : Stmt} (h : PS X st (tAsg t (gName i))) (ht : ∀ σV H Q, liftE X.K te σV H Q → t σV H Q) : PS X st (liftS X.K fun Z σ S => te σ S fun x S1 => ∃ σ1, bindT (.one i) x σ = some σ1 ∧ Z.nx σ1 S1) :=
  h.imp fun N σV H ⟨Z, σ, S, sl, sr, h, k⟩ => ht _ _ _ (goE sl sr h fun d S1 v H1 ⟨σ1, e1, r⟩ f sl1 x s => by
    cases e1
    exact k.nx _ S1 _ H1 r f (slot_set sl1 x) s)
theorem y_setS (hu : X.A.units + 200 < cLine) {tpos : Pos} (he : PE X e (liftE X.K te)) (ho : PE X o (liftE X.K to)) (hi : PE X i (liftE X.K ti)) (hn : ∀ v, assign (.Subscript o i tpos) X.env v = (do
      let ov ← holding [v] (eval o X.env)
      let iv ← holding [v, ov] (eval i X.env)
      standAt tpos
      holding [v, ov, iv] (setItem ov iv v)
      release [v, ov, iv] [])) (hs : swapsWithSole [.Subscript o i tpos] e pos.line X.env = pure false) (hw : swappedStores [.Subscript o i tpos] e X.env = pure none) :
    PS X (.Assign [.Subscript o i tpos] e pos) (liftS X.K fun Z σ S => te σ S fun x S1 => to σ S1 fun y S2 => ti σ S2 fun z S3 => setW y z x S3 fun S4 => Z.nx σ S4) :=
  (ps_asg he (pg_sub ho hi (l_set hu) hn) hs hw (by rfl)).imp fun N σV H ⟨Z, σ, S, sl, sr, h, k⟩ => goE sl sr h fun d S1 v H1 h f1 sl x s => goE sl s h fun y S2 vy H2 h f2 sl hy s => goE sl s h fun z S3 vz H3 h f3 sl hz s =>
    ⟨y, z, d, S3, _, f3.dv hy, hz, f3.dv (f2.dv x), s, h, fun S4 H4 r f4 s4 => k.nx σ S4 σV H4 r (f1.trans (f2.trans (f3.trans f4))) (f4.slot sl) s4⟩
theorem y_aug {j : Nat} {x : Str} {op : BOp} {p' : Pos} (hN : X.N.Nodup) (n : NmOk X j x) (he : PE X e (liftE X.K te)) : PS X (.AugAssign (.Name x p') (bopC op) e pos) (liftS X.K fun Z σ S => ∃ d, σ[j]? = some (some d) ∧ te σ S fun y S1 => augW op d y S1 fun z S2 => Z.nx (σ.set j (some z)) S2) :=
  (ps_aug (ti := lift2 X.K (augW op)) hN n.at_ n.loc he (l_aug op) n.fn).imp fun N σV H ⟨Z, σ, S, sl, sr, ⟨d, e1, h⟩, k⟩ => by
    obtain ⟨v, e2, hx⟩ := sl.2 j d e1
    exact ⟨v, e2, goE sl sr h fun y S1 vy H1 h f1 sl hy s => ⟨d, y, S1, _, f1.dv hx, hy, s, h, ⟨fun z S' vz H' r f xz s' => k.nx _ S' _ H' r (f1.trans f) (slot_set (f.slot sl) xz) s'⟩⟩⟩
/-! ### displays of dicts -/
def flat : List (V × V) → List V
  | [] => []
  | (x, y) :: r => x :: y :: flat r
theorem flat_pairs {K : PySem.W.Frag} {H : Hp} : ∀ {ps : List (V × V)} {ds : List D} {kvs : List (D × D)}, DVs K H (flat ps) ds → pairUp ds = some kvs → (∀ q ∈ kvs, keyOk q.1 = true) → ∃ es : List (Key × V), ps = es.map (fun kv => (kV kv.1, kv.2)) ∧ Paired (EntD K H) es kvs
  | [], _, _, .nil, e, _ => by cases e; exact ⟨[], rfl, .nil⟩
  | (x, y) :: r, k :: v :: ds, kvs, .cons h1 (.cons h2 t), e, ok => by
    unfold pairUp at e
    obtain ⟨m, e1, e2⟩ := Option.map_eq_some_iff.mp e
    subst e2
    obtain ⟨es, q1, q2⟩ := flat_pairs t e1 fun q hq => ok q (List.mem_cons_of_mem _ hq)
    have hk := ok (k, v) List.mem_cons_self
    exact ⟨(keyOf k, y) :: es, by rw [q1, kV_dv h1 hk]; rfl, .cons ⟨keyD_of hk, h2⟩ q2⟩
/-- the pairs k, v, k, v .. -/
inductive PrOk (X : Cx) (pos : Pos) : List (Option Expr) → List Expr → (DSt → Store → (List D → Store → Prop) → Prop) → Prop
  | nil : PrOk X pos [] [] fun _ S R => R [] S
  | cons {k v : Expr} {ks : List (Option Expr)} {vs : List Expr} {tk tv : DTE} {t : DSt → Store → (List D → Store → Prop) → Prop} : PE X k (liftE X.K tk) → PE X v (liftE X.K tv) → PrOk X pos ks vs t → PrOk X pos (some k :: ks) (v :: vs) (consW tk (consW tv t))
theorem prOk_run {ks : List (Option Expr)} {vs : List Expr} {t : DSt → Store → (List D → Store → Prop) → Prop} (h : PrOk X pos ks vs t) : ∃ trs, PPs X pos ks vs trs ∧ ∀ {σV : St} {σ : DSt} {H : Hp} {S : Store} {R : List D → Store → Prop} {Q : List (V × V) → Hp → Prop}, SlotR X.K H σV σ → SRel X.K H S → t σ S R →
    (∀ ds S1 ps H1, R ds S1 → Frame H S H1 S1 → DVs X.K H1 (flat ps) ds → SRel X.K H1 S1 → Q ps H1) → tPairs trs σV H Q := by
  induction h with
  | nil => exact ⟨[], pps_nil, fun sl sr h k => k [] _ [] _ h .refl .nil sr⟩
  | @cons k v ks vs tk tv t hk hv hr ih =>
    obtain ⟨trs, h1, h2⟩ := ih
    refine ⟨(liftE X.K tk, liftE X.K tv) :: trs, pps_cons hk hv h1, fun {σV σ H S R Q} sl sr h kk => ?_⟩
    refine goE sl sr h fun x S1 vx H1 h f1 sl hx s => goE sl s h fun y S2 vy H2 h f2 sl hy s => h2 sl s h fun ds S3 ps H3 r f3 hd s => ?_
    exact kk _ S3 ((vx, vy) :: ps) H3 r (f1.trans (f2.trans f3)) (.cons (f3.dv (f2.dv hx)) (.cons (f3.dv hy) hd)) s
def dspW (t : DSt → Store → (List D → Store → Prop) → Prop) : DTE := fun σ S R => ∀ p, S p = none → t σ (S.upd p (.dct [])) fun ds S1 => ∃ kvs, pairUp ds = some kvs ∧ S1 p = some (.dct []) ∧ (∀ q ∈ kvs, keyOk q.1 = true) ∧ kvs.length ≤ 15 ∧ R (.loc p) (S1.upd p (.dct (mergeD [] kvs)))
theorem y_dsp0 : PE X (.Dict [] [] pos) (liftE X.K (dspW fun _ S R => R [] S)) := by
  refine pe_dnewK.imp fun σV H Q ⟨σ, S, R, sl, sr, h, k⟩ p hp => ?_
  obtain ⟨kvs, e, _, _, _, r⟩ := h p (sr.fresh hp)
  cases e
  rw [Store.upd_upd] at r
  exact k.go _ _ _ _ r (frame_new hp) (.loc p) (srel_new (mo := .dct []) sr hp ⟨[], L2.upd_same, .nil⟩)
theorem y_dsp {ks : List (Option Expr)} {vs : List Expr} {t : DSt → Store → (List D → Store → Prop) → Prop} (h : PrOk X pos ks vs t) (hall : ks.all (·.isSome) = true) (hl : ks.length = vs.length) (h0 : ks ≠ []) (h15 : ks.length ≤ 15) : PE X (.Dict ks vs pos) (liftE X.K (dspW t)) := by
  obtain ⟨trs, h1, h2⟩ := prOk_run h
  refine (pe_disp h1 hall hl h0 h15).imp fun σV H Q ⟨σ, S, R, sl, sr, h, k⟩ p hp => ?_
  have f0 : Frame H S (L2.upd H p (.dK [])) (S.upd p (.dct [])) := frame_new hp
  refine h2 (f0.slot sl) (srel_new (mo := .dct []) sr hp ⟨[], L2.upd_same, .nil⟩) (h p (sr.fresh hp)) fun ds S1 ps H1 ⟨kvs, e1, e2, e3, e4, r⟩ f1 hd s1 => ?_
  obtain ⟨qs, q1, q2⟩ := s1.dct e2
  cases q2
  obtain ⟨es, q3, q4⟩ := flat_pairs hd e1 e3
  refine ⟨q1, es, q3, by rw [Paired.length q4]; exact e4, ?_⟩
  have f2 : Frame H1 S1 (L2.upd H1 p (.dK (mergeK [] es))) (S1.upd p (.dct (mergeD [] kvs))) := frame_set s1 e2
  exact k.go _ _ _ _ r (f0.trans (f1.trans f2)) (.loc p) (srel_set (mo' := .dct (mergeD [] kvs)) s1 e2 ⟨_, L2.upd_same, L2.Paired.mapP (merge_rel (by simp) .nil q4) fun _ _ z => z.mono f2.stay⟩)
/-! ### list(range(n)), tuple(range(n)) -/
theorem dvs_rg {K : PySem.W.Frag} {H : Hp} {n : Int} (h : -1000000 ≤ n) : DVs K H (rgV 0 n) (rangeD n.toNat) := by
  unfold rgV rangeD
  rw [Int.sub_zero]
  have key : ∀ l : List Nat, DVs K H (l.map fun i => V.int (0 + (i : Nat))) (l.map fun i : Nat => D.int (i : Nat)) := by
    intro l
    induction l with
    | nil => exact .nil
    | cons a r ih => rw [List.map_cons, List.map_cons, Int.zero_add]; exact .cons (.int _) ih
  exact key _
theorem y_lrg {a : Expr} {ta : DTE} {p p1 p2 : Pos} (hc : X.calm = true) (hg : Gl X "list") (hm : X.mg "list" = none) (hg2 : Gl X "range") (hm2 : X.mg "range" = none) (ha : PE X a (liftE X.K ta)) (hs : starEach [a] X.env = (false, eval a X.env) :: starEach [] X.env) :
    PE X (.Call (.Name "list" p) [.Call (.Name "range" p1) [a] [] p2] [] pos) (liftE X.K fun σ S R => ta σ S fun x S1 => lrangeW x S1 R) :=
  (pe_listRg hc hg hm (prg_1 hg2 hm2 ha hs)).imp fun σV H Q ⟨σ, S, R, sl, sr, h, k⟩ => goE sl sr h fun x S1 v H1 h f sl hx s => by
    cases x with
    | int n =>
      obtain ⟨⟨h1, h2⟩, q⟩ := h
      exact ⟨n, hx.int_inv, ⟨by omega, by omega, by omega, by omega, by omega⟩, (k.after f).lst s q (dvs_rg h1)⟩
    | _ => exact h.elim
theorem y_trg {a : Expr} {ta : DTE} {p p1 p2 : Pos} (hc : X.calm = true) (hg : Gl X "tuple") (hm : X.mg "tuple" = none) (hg2 : Gl X "range") (hm2 : X.mg "range" = none) (ha : PE X a (liftE X.K ta)) (hs : starEach [a] X.env = (false, eval a X.env) :: starEach [] X.env) :
    PE X (.Call (.Name "tuple" p) [.Call (.Name "range" p1) [a] [] p2] [] pos) (liftE X.K fun σ S R => ta σ S fun x S1 => trangeW x S1 R) :=
  (pe_tupRg hc hg hm (prg_1 hg2 hm2 ha hs)).imp fun σV H Q ⟨σ, S, R, sl, sr, h, k⟩ => goE sl sr h fun x S1 v H1 h f sl hx s => by
    cases x with
    | int n =>
      obtain ⟨⟨h1, h2⟩, q⟩ := h
      exact ⟨n, hx.int_inv, ⟨by omega, by omega, by omega, by omega, by omega⟩, (k.after f).tup s q (dvs_rg h1)⟩
    | _ => exact h.elim
end
end Y

namespace Y
open PySem PySem.Spec L2 PyProof.Rows
/-! ### list(d.values()) -/
section
variable {X : Cx} {e : Expr} {te : TE} {p apos cpos pos : Pos}
def tLV (te : TE) : TE := fun σ H Q => te σ H fun x H1 => ∃ d kvs, x = V.ref d ∧ H1 d = some (.dK kvs) ∧ ∀ q, H1 q = none → Q (.ref q) (upd H1 q (.lst (kvs.map (·.2))))
theorem kv_snd {κ : Type} {kvs : List (κ × V)} {vs : List (κ × Value)} (r : KV kvs vs) : ∀ {us : List Value}, us.length = vs.length → (∀ (i : Nat) (v : Value), us[i]? = some v → ∃ k, vs[i]? = some (k, v)) → Vals (kvs.map (·.2)) us := by
  unfold KV at r
  induction r with
  | nil =>
    intro us hl _
    cases us with
    | nil => exact .nil
    | cons _ _ => cases hl
  | cons h t ih =>
    intro us hl hu
    cases us with
    | nil => cases hl
    | cons u us =>
      obtain ⟨k, e⟩ := hu 0 u rfl
      have e' := Option.some.inj e
      rw [List.map_cons]
      refine .cons ?_ (ih (by simpa using hl) fun i v q => hu (i + 1) v (by simpa using q))
      have := h.2
      rw [e'] at this
      exact this
theorem pe_listVals (hc : X.calm = true) (he : PE X e te) (hg : Gl X "list") (hm : X.mg "list" = none) (hbase : attributeBase e "values" X.env (eval e X.env) = eval e X.env := by rfl) (hline : (apos.endLine == cpos.line) = true := by rfl)
    (hs : starEach [.Call (.Attribute e "values" apos) [] [] cpos] X.env = (false, eval (.Call (.Attribute e "values" apos) [] [] cpos) X.env) :: starEach [] X.env := by rfl) :
    PE X (.Call (.Name "list" p) [.Call (.Attribute e "values" apos) [] [] cpos] [] pos) (tLV te) := by
  refine ⟨fun pins s σ H Q I hq => ?_⟩
  refine wpAny_Call_Name_kw (ld_blt I hg hm boot_list ?_)
  refine PyProof.Rows.callWith_type1 ?_ hs rfl
  rw [hs]
  show wpAny _ _ (spliced ((false, eval (.Call (.Attribute e "values" apos) [] [] cpos) X.env) :: backTo pos (starEach [] X.env))) _ _ s
  refine Calls.spliced_cons ?_
  refine wpAny_Call_method (T := "dict") (id := "dict.values") hbase rfl hline F.plainAttrs_dict F.slot_dict_values F.type_dict_values (thn (he.run pins s σ H _ I hq) fun u s1 ⟨x, H1, I1, rx, d, kvs, ex, hd, q⟩ => ?_)
  subst ex
  obtain rfl : u = Value.ref d := rx
  obtain ⟨hz, hs0, vs, kv, hdo⟩ := I1.hok d _ hd
  obtain ⟨ep, hat⟩ := hdo.dictAt
  have lk : kvs.length = vs.length := Paired.length kv
  have I2 : Inv X pins σ H1 { s1 with heap := s1.heap.push { cls := .type "dict_values", data := .fields #[.ref d] } } := I1.kept (t' := s1.toks) fun b ob q => Heap.get?_push_of_some _ q
  refine ⟨hdo.typeIs, hdo.mapOf.noDict, ?_⟩
  show wpAny _ _ (callWith cpos (.builtin "dict.values") [.ref d] [] []) _ X.xe s1
  refine method_meetsIn F.slot_dict_values F.entry_dict_values rfl (PySem.evalArgs_none ⟨rfl, hdo.typeIs, F.args_dict_values_1 _, _, meets_dict_values (mixKind X.prog X.w) d hs0, ⟨vs, hdo⟩, ?_⟩)
  refine Calls.spliced_nil ?_
  refine PySem.W.kdl_call (PySem.W.kdl_values (knd := mixKind X.prog X.w) (kvs := vs) (ep := ep)) (I1.ok.hd hc) ⟨⟨_, Heap.get?_push_size _ rfl, rfl, rfl⟩, hat.push _⟩ (by omega) fun h' tk acc c hk hS hacc => ?_
  have hv : Vals (kvs.map (·.2)) acc.toList := kv_snd kv (by rw [Array.length_toList]; exact hacc.1) fun i v ei => hacc.2 i v (by rw [← Array.getElem?_toList]; exact ei)
  refine ⟨.ref _, upd H1 _ (.lst (kvs.map (·.2))), I2.laid hk (Nat.le_refl _) (show ObjOk X.prog X.w _ _ _ (.lst (kvs.map (·.2))) from ⟨?_, acc.toList, c, hv, ?_⟩), rfl, q _ (I2.hok.fresh (Nat.le_refl _))⟩
  · rw [List.length_map]; exact hz
  · rw [Array.toArray_toList]; exact hS
theorem y_listVals {a : Expr} {ta : DTE} (hc : X.calm = true) (hg : Gl X "list") (hm : X.mg "list" = none) (he : PE X a (liftE X.K ta)) (hbase : attributeBase a "values" X.env (eval a X.env) = eval a X.env) (hline : (apos.endLine == cpos.line) = true)
    (hs : starEach [.Call (.Attribute a "values" apos) [] [] cpos] X.env = (false, eval (.Call (.Attribute a "values" apos) [] [] cpos) X.env) :: starEach [] X.env := by rfl) :
    PE X (.Call (.Name "list" p) [.Call (.Attribute a "values" apos) [] [] cpos] [] pos) (liftE X.K fun σ S R => ta σ S fun x S1 => biW .listvals [x] S1 R) :=
  (pe_listVals hc he hg hm hbase hline hs).imp fun σV H Q ⟨σ, S, R, sl, sr, h, k⟩ => goE sl sr h fun x S1 v H1 h f sl hx s => by
    cases x with
    | loc d =>
      obtain ⟨o, e, h⟩ := (show ∃ o, S1 d = some o ∧ valsO o S1 R from h)
      cases o with
      | dct kvs =>
        obtain ⟨ps, e2, r⟩ := s d _ e
        exact ⟨d, ps, hx.loc_inv, e2, (k.after f).lst s h (vals_rel r)⟩
      | _ => exact h.elim
    | _ => exact h.elim
end
end Y

namespace Y
open PySem PySem.Spec L2
/-! ### repr(x) -/
/-- a text of signs that a String may hold -/
def Vc (x : Str) : Prop := ∀ c ∈ x.cps.toList, ∃ a : Char, a.toNat = c
theorem Vc.get {x : Str} (h : Vc x) : ∃ t : String, Str.ofString t = x := by
  have key : ∀ l : List Nat, (∀ c ∈ l, ∃ a : Char, a.toNat = c) → ∃ m : List Char, m.map Char.toNat = l := by
    intro l
    induction l with
    | nil => exact fun _ => ⟨[], rfl⟩
    | cons c r ih =>
      intro h
      obtain ⟨a, ea⟩ := h c List.mem_cons_self
      obtain ⟨m, em⟩ := ih fun d hd => h d (List.mem_cons_of_mem _ hd)
      exact ⟨a :: m, by rw [List.map_cons, ea, em]⟩
  obtain ⟨m, e⟩ := key _ h
  refine ⟨String.ofList m, ?_⟩
  rw [Str.ofString_eq_toList, String.toList_ofList, e]
theorem vc_of (s : String) : Vc (Str.ofString s) := by
  rw [Str.ofString_eq_toList]
  intro c hc
  obtain ⟨a, _, e⟩ := List.mem_map.mp (show c ∈ s.toList.map Char.toNat by simpa using hc)
  exact ⟨a, e⟩
theorem Vc.app {x y : Str} (h : Vc x) (g : Vc y) : Vc (x ++ y) := by
  intro c hc
  have hc : c ∈ (x.cps ++ y.cps).toList := hc
  rw [Array.toList_append] at hc
  rcases List.mem_append.mp hc with q | q
  · exact h c q
  · exact g c q
theorem vc_char {q : Char} {c : Char} : ∀ d ∈ Builtin.Str.reprChar q.toNat c.toNat, ∃ a : Char, a.toNat = d := by
  have hex : ∀ w : Nat, ∀ d ∈ (List.replicate (w - ((Nat.toDigits 16 c.toNat).map Char.toNat).length) 48 ++ (Nat.toDigits 16 c.toNat).map Char.toNat), ∃ a : Char, a.toNat = d := by
    intro w d hd
    rcases List.mem_append.mp hd with q | q
    · exact ⟨'0', (List.eq_of_mem_replicate q).symm⟩
    · obtain ⟨a, _, e⟩ := List.mem_map.mp q
      exact ⟨a, e⟩
  have two : ∀ (a b : Char) (d : Nat), d ∈ [a.toNat, b.toNat] → ∃ a : Char, a.toNat = d := by
    intro a b d hd
    simp at hd
    rcases hd with rfl | rfl
    · exact ⟨a, rfl⟩
    · exact ⟨b, rfl⟩
  intro d hd
  unfold Builtin.Str.reprChar at hd
  dsimp only at hd
  repeat' split at hd
  · exact two '\\' c d hd
  · exact two '\\' 'n' d hd
  · exact two '\\' 'r' d hd
  · exact two '\\' 't' d hd
  · exact ⟨c, (List.mem_singleton.mp hd).symm⟩
  · rcases List.mem_append.mp hd with q | q
    · exact two '\\' 'x' d q
    · exact hex 2 d q
  · rcases List.mem_append.mp hd with q | q
    · exact two '\\' 'u' d q
    · exact hex 4 d q
  · rcases List.mem_append.mp hd with q | q
    · exact two '\\' 'U' d q
    · exact hex 8 d q
theorem vc_repr (s : String) : Vc (reprText (Str.ofString s)) := by
  have hq : ∃ q : Char, q.toNat = reprQuote (Str.ofString s) := by
    unfold reprQuote
    split
    · exact ⟨'"', rfl⟩
    · exact ⟨'\'', rfl⟩
  obtain ⟨q, eq⟩ := hq
  unfold reprText
  rw [← eq, Str.ofString_eq_toList]
  have key : ∀ (l : List Char) (acc : Array Nat), (∀ c ∈ acc.toList, ∃ a : Char, a.toNat = c) → ∀ c ∈ ((l.map Char.toNat).foldl (fun out c => out ++ (Builtin.Str.reprChar q.toNat c).toArray) acc).toList, ∃ a : Char, a.toNat = c := by
    intro l
    induction l with
    | nil => exact fun acc h => h
    | cons x r ih =>
      intro acc h
      rw [List.map_cons, List.foldl_cons]
      refine ih _ fun c hc => ?_
      rw [Array.toList_append] at hc
      rcases List.mem_append.mp hc with hc | hc
      · exact h c hc
      · exact vc_char c (by simpa using hc)
  intro c hc
  have hc : c ∈ (((s.toList.map Char.toNat).toArray.foldl (fun out c => out ++ (Builtin.Str.reprChar q.toNat c).toArray) #[q.toNat]).push q.toNat).toList := hc
  rw [Array.toList_push, List.mem_append] at hc
  rcases hc with hc | hc
  · rw [← Array.foldl_toList] at hc
    exact key s.toList #[q.toNat] (fun c h => ⟨q, (List.mem_singleton.mp h).symm⟩) c hc
  · exact ⟨q, (List.mem_singleton.mp hc).symm⟩
theorem vc_join {sep : Str} (hs : Vc sep) : ∀ ts : List Str, (∀ t ∈ ts, Vc t) → Vc (Str.join sep ts)
  | [], _ => fun c hc => by simp [Str.join, Str.empty] at hc
  | [x], h => h x List.mem_cons_self
  | x :: y :: r, h => by
    show Vc (x ++ sep ++ Str.join sep (y :: r))
    exact ((h x List.mem_cons_self).app hs).app (vc_join hs (y :: r) fun t ht => h t (List.mem_cons_of_mem _ ht))
theorem vc_tuple {ts : List Str} (h : ∀ t ∈ ts, Vc t) : Vc (tupleText ts) := by
  unfold tupleText
  exact ((vc_of _).app (vc_join (vc_of _) ts h)).app (vc_of _)
theorem vc_from : ∀ (ts : List Str) (k : Nat) (acc : Str), Vc acc → (∀ t ∈ ts, Vc t) → Vc (textFrom k acc ts)
  | [], _, _, h, _ => h
  | t :: ts, k, acc, h, g => vc_from ts (k + 1) _ ((h.app (vc_of _)).app (g t List.mem_cons_self)) fun x hx => g x (List.mem_cons_of_mem _ hx)
theorem vc_list {ts : List Str} (h : ∀ t ∈ ts, Vc t) : Vc (listText ts) := by
  unfold listText
  exact (vc_from ts 0 _ (vc_of _) h).app (vc_of _)
mutual
theorem vc_pyD : ∀ d : D, Vc (pyD d).shown
  | .non => by rw [pyD, PyData.shown]; exact vc_of _
  | .bl b => by rw [pyD, PyData.shown]; cases b <;> exact vc_of _
  | .int i => by rw [pyD, PyData.shown]; exact vc_of _
  | .str s => by rw [pyD, PyData.shown]; exact vc_repr s
  | .tup xs => by rw [pyD, PyData.shown]; exact vc_tuple (vc_pyDs xs)
  | .loc _ => by rw [pyD, PyData.shown]; exact vc_of _
  | .scr _ => by rw [pyD, PyData.shown]; exact vc_of _
theorem vc_pyDs : ∀ (ds : List D), ∀ t ∈ PyData.shownAll (pyDs ds), Vc t
  | [], t, h => by rw [pyDs, PyData.shownAll] at h; cases h
  | x :: xs, t, h => by
    rw [pyDs, PyData.shownAll] at h
    rcases List.mem_cons.mp h with rfl | h
    · exact vc_pyD x
    · exact vc_pyDs xs t h
end
mutual
theorem vc_pyV (S : Store) : ∀ d : D, Vc (pyV S d).shown
  | .non => by rw [pyV, PyData.shown]; exact vc_of _
  | .bl b => by rw [pyV, PyData.shown]; cases b <;> exact vc_of _
  | .int i => by rw [pyV, PyData.shown]; exact vc_of _
  | .str s => by rw [pyV, PyData.shown]; exact vc_repr s
  | .tup xs => by rw [pyV, PyData.shown]; exact vc_tuple (vc_pyVs S xs)
  | .loc a => by
    rw [pyV]
    split
    · rw [PyData.shown]; exact vc_list (vc_pyDs _)
    · rw [PyData.shown]; exact vc_of _
  | .scr _ => by rw [pyV, PyData.shown]; exact vc_of _
theorem vc_pyVs (S : Store) : ∀ (ds : List D), ∀ t ∈ PyData.shownAll (pyVs S ds), Vc t
  | [], t, h => by rw [pyVs, PyData.shownAll] at h; cases h
  | x :: xs, t, h => by
    rw [pyVs, PyData.shownAll] at h
    rcases List.mem_cons.mp h with rfl | h
    · exact vc_pyV S x
    · exact vc_pyVs S xs t h
end
section
variable {K : PySem.W.Frag} {H : Hp} {S : Store}
mutual
theorem dv_read (r : SRel K H S) : ∀ (d : D) (v : V), okV S d = true → DV K H v d → Dp K H v (pyV S d)
  | .non, _, _, .non => by rw [pyV]; exact .non
  | .bl b, _, _, .bl _ => by rw [pyV]; exact .bl b
  | .int i, _, _, .int _ => by rw [pyV]; exact .int i
  | .str s, _, _, .str _ => by rw [pyV]; exact .str _
  | .tup xs, _, h, .tup q e => by rw [pyV]; exact .tup q (dvs_read r xs _ (by rw [okV] at h; exact h) e)
  | .loc a, _, h, .loc _ => by
    rw [okV] at h
    split at h
    · rename_i xs e
      obtain ⟨ys, e1, e2⟩ := r.lst e
      have ep : pyV S (.loc a) = .list (pyDs xs) := by rw [pyV, e]
      rw [ep]
      exact .lst (.inl (.inl e1)) (dps_of 100 xs _ h e2)
    · cases h
  | .scr _, _, h, _ => by rw [okV] at h; cases h
theorem dvs_read (r : SRel K H S) : ∀ (d : List D) (v : List V), okVs S d = true → DVs K H v d → DpAll K H v (pyVs S d)
  | [], _, _, .nil => by rw [pyVs]; exact .nil
  | x :: xs, _, h, .cons q e => by
    rw [okVs, Bool.and_eq_true] at h
    rw [pyVs]
    exact .cons (dv_read r x _ h.1 q) (dvs_read r xs _ h.2 e)
end
end
mutual
theorem nodict_D : ∀ d : D, (pyD d).hasDict = false
  | .non => by rw [pyD, PyData.hasDict]
  | .bl b => by rw [pyD, PyData.hasDict]
  | .int i => by rw [pyD, PyData.hasDict]
  | .str s => by rw [pyD, PyData.hasDict]
  | .tup xs => by rw [pyD, PyData.hasDict]; exact nodict_Ds xs
  | .loc _ => by rw [pyD, PyData.hasDict]
  | .scr _ => by rw [pyD, PyData.hasDict]
theorem nodict_Ds : ∀ d : List D, PyData.hasDictAll (pyDs d) = false
  | [] => by rw [pyDs, PyData.hasDictAll]
  | x :: xs => by rw [pyDs, PyData.hasDictAll, nodict_D x, nodict_Ds xs]; rfl
end
mutual
theorem nodict_V (S : Store) : ∀ d : D, (pyV S d).hasDict = false
  | .non => by rw [pyV, PyData.hasDict]
  | .bl b => by rw [pyV, PyData.hasDict]
  | .int i => by rw [pyV, PyData.hasDict]
  | .str s => by rw [pyV, PyData.hasDict]
  | .tup xs => by rw [pyV, PyData.hasDict]; exact nodict_Vs S xs
  | .loc _ => by
    rw [pyV]
    split
    · rw [PyData.hasDict]; exact nodict_Ds _
    · rw [PyData.hasDict]
  | .scr _ => by rw [pyV, PyData.hasDict]
theorem nodict_Vs (S : Store) : ∀ d : List D, PyData.hasDictAll (pyVs S d) = false
  | [] => by rw [pyVs, PyData.hasDictAll]
  | x :: xs => by rw [pyVs, PyData.hasDictAll, nodict_V S x, nodict_Vs S xs]; rfl
end
section
variable {X : Cx}
theorem b_repr (hu : X.A.units + 200 < cLine) (hg : X.A.guards = some []) : CallR X (.builtin "repr") (liftC X.K (biW .repr)) := by
  refine l_one fun pins s σ H x us Q dx S R I rv hx r h k => ?_
  obtain ⟨h1, h2, h3, h4, h5⟩ := h
  obtain ⟨u, rfl, ru⟩ := vals1 rv
  obtain ⟨as, rd⟩ := (dv_read r dx x h1 hx).reads I _ _ u ru
  obtain ⟨t, et⟩ := (vc_pyV S dx).get
  have fin : ∀ (h' : Heap) (z tk : Tok), (∀ b o, s.heap.get? b = some o → h'.get? b = some o) → EP X pins σ Q (.str (pyV S dx).shown z) { s with heap := h', toks := tk } := fun h' z tk hk => by
    refine ⟨.str (pyV S dx).shown, H, I.kept (t' := tk) hk, ⟨z, rfl⟩, ?_⟩
    rw [← et]
    exact k.same r (h5 t et) (.str t)
  have e0 : { s with heap := s.heap, toks := s.toks + 1 } = { s with toks := s.toks + 1 } := rfl
  cases dx with
  | non =>
    rw [hx.non_inv] at ru
    obtain rfl : u = Value.none := ru
    rw [pyV, PyData.shown] at fin
    exact PySem.P.repr_of_none (fin s.heap _ _ fun _ _ e => e)
  | bl b =>
    rw [hx.bl_inv] at ru
    obtain rfl : u = Value.bool b := ru
    rw [pyV, PyData.shown] at fin
    refine PySem.P.repr_of_bool ?_
    cases b <;> exact fin s.heap _ _ fun _ _ e => e
  | int i =>
    rw [hx.int_inv] at ru
    obtain ⟨z, rfl⟩ := ru
    rw [pyV, PyData.shown] at fin
    rw [pyV, PyData.showable] at h2
    exact PySem.P.repr_of_int (of_decide_eq_true h2) (fin s.heap _ _ fun _ _ e => e)
  | str i =>
    rw [hx.str_inv] at ru
    obtain ⟨z, rfl⟩ := ru
    rw [pyV, PyData.shown] at fin h4
    exact PySem.P.repr_of_str (fin s.heap _ _ fun _ _ e => e) h4
  | tup xs =>
    obtain ⟨a, zs, rfl, q, e⟩ := hx.tup_inv
    obtain rfl : u = Value.ref a := ru
    exact repr_of_reads' rd h2 (PyData.noDict_hsm (nodict_V S _)) hg (by omega) (fun _ _ e => e) (fun h' u tk hk => fin h' u tk hk) h4
  | loc a =>
    rw [hx.loc_inv] at ru
    obtain rfl : u = Value.ref a := ru
    exact repr_of_reads' rd h2 (PyData.noDict_hsm (nodict_V S _)) hg (by omega) (fun _ _ e => e) (fun h' u tk hk => fin h' u tk hk) h4
  | scr a => rw [okV] at h1; cases h1
end
end Y

namespace PySem
open SrtO PyProof.Rows Builtin
section
variable {prog : Program} {w : World} {A : Around} {E : Value → Shared → Prop} {s : Shared}
/-- all of a tuple, in a new list -/
theorem gather_tup {l : Addr} {vs : List Value} {Q : List Value → Shared → Prop} (hl : s.heap.IsTuple l vs.toArray) (room : vs.length ≤ sizeLine)
    (h : Q vs { s with heap := (s.heap.push (seqObj "list" #[] 0)).update s.heap.objs.size (Obj.mapSeq (· ++ vs.toArray)) }) : wpAny (model prog w) A (collect (.ref l)) Q E s := by
  obtain ⟨o, ho, hc, n, hd⟩ := hl
  have fresh : (s.heap.push (seqObj "list" #[] 0)).get? s.heap.objs.size = some (seqObj "list" #[] 0) := Heap.get?_push_size _ rfl
  have kept : (s.heap.push (seqObj "list" #[] 0)).get? l = some o := Heap.get?_push_of_some _ ho
  unfold collect
  refine wpAny_bind (wpAny_runValue (codeAny_builtin entry_proto_collect' ?_))
  show wpAny _ _ (do again (.builtin "list.__iadd__" ⟨[← newList [], .ref l], []⟩)) _ _ s
  refine wpAny_bind (wpAny_newList (wpAny_pure ⟨Code.quiet_builtin _ (by decide +kernel), codeAny_builtin entry_list_iadd' ?_⟩))
  show wpAny _ _ (List.listExtendWith (.ref s.heap.objs.size) (.ref l) (.ref s.heap.objs.size)) _ _ { s with heap := s.heap.push (seqObj "list" #[] 0) }
  unfold List.listExtendWith
  refine wpAny_bind (wpAny_typeOf (T := "tuple") ⟨o, kept, hc⟩ ?_)
  have same : (Value.type "tuple" == Value.type "tuple") = true := by rfl
  rw [if_pos (by rw [same]; simp)]
  refine wpAny_bind (listItems_at kept hd ?_)
  refine wpAny_bind (listItems_at (xs := #[]) (n := 0) fresh rfl ?_)
  rw [if_neg (by simp)]
  refine wpAny_bind (listUpdate_at (xs := #[]) (n := 0) fresh rfl ?_ (Nat.zero_le _) (by show (#[] ++ vs.toArray).size ≤ sizeLine + 1; simp; omega))
  refine wpAny_pure ?_
  show wpAny (model prog w) A (do
      let o ← load s.heap.objs.size
      match o.data with
      | .seq xs _ => pure xs.toList
      | _ => unsupported "internal:collect") Q E _
  refine wpAny_bind (wpAny_load (get?_update_seq fresh _) ?_)
  show wpAny _ _ (pure ((#[] : Array Value) ++ vs.toArray).toList) Q E _
  rw [show ((#[] : Array Value) ++ vs.toArray).toList = vs by simp]
  exact wpAny_pure h
/-- sorted(t): t a tuple; the list collected stands at the size, the new one behind it -/
theorem sorted_tup {l : Addr} {vs : List Value} {ltv : Value → Value → Bool} {Q : Value → Shared → Prop} (O : Swo ltv) (hl : s.heap.IsTuple l vs.toArray) (room : vs.length ≤ sizeLine)
    (able : 2 ≤ vs.length → ∀ (h₁ : Heap) (a : Addr), h₁.get? a = some (seqObj "list" vs.toArray 0) → (∀ b o, s.heap.get? b = some o → b ≠ a ∧ h₁.get? b = some o) → SortableO prog w A.in1.in1 { s with heap := h₁ } a vs ltv)
    (h : ∀ out : List Value, Srtd ltv out → Stb ltv out vs → Q (.ref (s.heap.objs.size + 1)) { s with heap := sortedAll s.heap vs out.toArray }) : wpAny (model prog w) A (call (.builtin "sorted") [.ref l]) Q E s := by
  let mid := (s.heap.push (seqObj "list" #[] 0)).update s.heap.objs.size (Obj.mapSeq (· ++ vs.toArray))
  have size1 : mid.objs.size = s.heap.objs.size + 1 := by
    show ((s.heap.push (seqObj "list" #[] 0)).update s.heap.objs.size (Obj.mapSeq (· ++ vs.toArray))).objs.size = _
    rw [Heap.size_update, size_push']
  have stands : (mid.push (seqObj "list" vs.toArray 0)).get? (s.heap.objs.size + 1) = some (seqObj "list" vs.toArray 0) := by
    rw [← size1]
    exact Heap.get?_push_size _ rfl
  have keep : ∀ b o, s.heap.get? b = some o → b ≠ s.heap.objs.size + 1 ∧ (mid.push (seqObj "list" vs.toArray 0)).get? b = some o := by
    intro b o q
    have lt : b < s.heap.objs.size := Heap.lt_size q
    refine ⟨Nat.ne_of_lt (Nat.lt_succ_of_lt lt), Heap.get?_push_of_some _ ?_⟩
    show ((s.heap.push (seqObj "list" #[] 0)).update s.heap.objs.size (Obj.mapSeq (· ++ vs.toArray))).get? b = some o
    rw [Heap.get?_update_ne _ _ _ _ (Nat.ne_of_lt lt)]
    exact Heap.get?_push_of_some _ q
  refine Calls.call_function_entry kind_sorted plain_sorted entry_sorted (args_sorted1 _) ?_
  unfold Builtin.«sorted»
  refine wpAny_bind (m := checkCount "sorted" 1 1 _) (wpAny_pure ?_)
  refine wpAny_bind (gather_tup hl room ?_)
  refine wpAny_bind (wpAny_newList ?_ room)
  show wpAny _ _ _ _ _ { s with heap := mid.push (seqObj "list" vs.toArray 0) }
  have e : ((s.heap.push (seqObj "list" #[] 0)).update s.heap.objs.size (Obj.mapSeq (· ++ vs.toArray))).objs.size = s.heap.objs.size + 1 := size1
  rw [e]
  refine wpAny_bind (wpAny_holding (wpAny_call_entry slot_list_sort ⟨_, stands, rfl⟩ entry_list_sort (list_sort_ord O stands room (fun h2 => able h2 _ _ stands keep) fun out hs hb => ⟨_, rfl, ?_⟩) (args_list_sort _)))
  exact wpAny_pure ⟨_, rfl, h out hs hb⟩
end
end PySem
namespace Y
open PySem PySem.Spec L2 PyProof.Rows
/-! ### sorted, set, update -/
section
variable {X : Cx}
theorem cr_sortTup : CallR X (.builtin "sorted") (fun vs H Q => ∃ (a : Addr) (ns : List Int), vs = [V.ref a] ∧ SqT X.K H a (ns.map V.int) ∧ ∀ (ns' : List Int) (p : Addr), ns'.Perm ns → ns'.Pairwise (· ≤ ·) → H p = none → Q (.ref p) (upd H p (.lst (ns'.map V.int)))) := by
  intro pins s σ H vs us Q I r h
  obtain ⟨a, ns, rfl, hs, q⟩ := h
  obtain ⟨its, rv, hl, hz⟩ := I.tuple hs
  rw [Vals.ref1 r]
  have hi := rv.ints
  refine PySem.sorted_tup SrtO.swo_int hl (by rw [← rv.length]; exact hz) (fun h2 h₁ a' _ _ => SrtO.ints_sortable hi h2) fun out h1 h2 => ?_
  obtain ⟨k1, k2, k3⟩ := SrtO.ints_out hi h1 h2
  obtain ⟨ep, at_⟩ := PyProof.Rows.sortedAll_at s.heap its out.toArray
  have fits : ((out.map SrtO.iv).map V.int).length ≤ sizeLine := by
    rw [List.length_map, k2.length_eq]
    rw [List.length_map] at hz
    exact hz
  refine ⟨.ref _, upd H (s.heap.objs.size + 1) (.lst ((out.map SrtO.iv).map V.int)), I.laid (t' := s.toks) (fun _ _ => PyProof.Rows.sortedAll_old) (Nat.le_succ _) ⟨fits, out, ep, vals_of_ints k1, at_⟩, rfl, ?_⟩
  exact q _ _ k2 k3 (I.hok.fresh (Nat.le_succ _))
theorem ints_vals {K : PySem.W.Frag} {H : Hp} : ∀ {ds : List D} {ns : List Int} {xs : List V}, intsD ds = some ns → DVs K H xs ds → xs = ns.map V.int
  | [], _, _, e, .nil => by cases e; rfl
  | d :: ds, ns, _, e, .cons h t => by
    cases d with
    | int i =>
      unfold intsD at e
      obtain ⟨ms, e1, e2⟩ := Option.map_eq_some_iff.mp e
      subst e2
      rw [h.int_inv, ints_vals e1 t]
      rfl
    | _ => cases e
theorem b_sorted : CallR X (.builtin "sorted") (liftC X.K (biW .sorted)) := by
  refine l_one fun pins s σ H x us Q dx S R I rv hx r h k => ?_
  cases dx with
  | tup ys =>
    obtain ⟨ns, e, h⟩ := h
    obtain ⟨a, zs, rfl, q, ez⟩ := hx.tup_inv
    obtain rfl := ints_vals e ez
    exact cr_sortTup pins s σ H _ us Q I rv ⟨a, ns, rfl, q, fun ns' p hp hs hn => k.lst r (h ns' hp hs) (dvs_ints ns') p hn⟩
  | loc a =>
    obtain ⟨o, e1, h⟩ := h
    cases o with
    | lst ys =>
      obtain ⟨ns, e, h⟩ := h
      obtain ⟨zs, h1, ez⟩ := r.lst e1
      obtain rfl := ints_vals e ez
      exact cr_sortedI pins s σ H _ us Q I rv ⟨a, ns, by rw [hx.loc_inv], .inl (.inl h1), fun ns' p hp hs hn => k.lst r (h ns' hp hs) (dvs_ints ns') p hn⟩
    | _ => exact h.elim
  | _ => exact h.elim
def offI (B : Nat) (x : Int) : Bool := !(x == (B : Int))
theorem nodup_bound : ∀ (B : Nat) (l : List Int), l.Nodup → (∀ x ∈ l, 0 ≤ x ∧ x < B) → l.length ≤ B
  | 0, [], _, _ => Nat.le_refl _
  | 0, x :: _, _, h => by have := h x List.mem_cons_self; omega
  | B + 1, l, nd, h => by
    have h1 := nodup_bound B (l.filter (offI B)) (nd.sublist List.filter_sublist) fun x hx => by
      obtain ⟨a1, a2⟩ := List.mem_filter.mp hx
      have a3 : x ≠ B := by simpa [offI] using a2
      have := h x a1
      omega
    have key : ∀ m : List Int, m.Nodup → m.length ≤ (m.filter (offI B)).length + 1 := by
      intro m
      induction m with
      | nil => intro _; exact Nat.zero_le _
      | cons y m ih =>
        intro nd
        obtain ⟨n1, n2⟩ := List.nodup_cons.mp nd
        rw [List.filter_cons]
        by_cases c : y = B
        · have e : m.filter (offI B) = m := List.filter_eq_self.mpr fun x hx => by
            have : x ≠ B := fun z => n1 (by rw [c, ← z]; exact hx)
            simpa [offI] using this
          rw [e]
          split <;> simp
        · have e : offI B y = true := by simpa [offI] using c
          rw [if_pos e]
          have := ih n2
          simp only [List.length_cons]
          omega
    have h2 := key l nd
    omega
theorem setR_card {w : World} {h : Heap} {a : Addr} {ns : List Int} {c : Nat} (R : SetR w h a (fun j => decide (j ∈ ns)) c) (hb : ∀ x ∈ ns, 0 ≤ x ∧ x < 63) : c ≤ 63 := by
  obtain ⟨o, es, ep, t, _, _, _, _, nd, mem, _, _, hc, _, _⟩ := R
  have h1 := nodup_bound 63 _ nd fun x hx => hb x (of_decide_eq_true ((mem x).mpr hx))
  rw [List.length_map, Array.length_toList] at h1
  omega
theorem cr_setTup (hc : X.calm = true) : CallR X (.type "set") (fun xs H Q => ∃ (l : Addr) (ns : List Int), xs = [V.ref l] ∧ SqT X.K H l (ns.map V.int) ∧ ns.length ≤ 1000 ∧ (ns.length < 64 ∨ ∀ x ∈ ns, 0 ≤ x ∧ x < 63) ∧
    ∀ p c, H p = none → c < 64 → Q (.ref p) (upd H p (SetO X.w p (fun j => decide (j ∈ ns)) c))) := by
  intro pins s σ H xs us Q I r h
  obtain ⟨l, ns, rfl, hs, hn, hb, q⟩ := h
  obtain ⟨its, rv, hl, _⟩ := I.tuple hs
  rw [Vals.ref1 r]
  have big : ns.length + 1 < scanBound := by
    have : 1001 < scanBound := by decide
    omega
  refine call_set_tupI ns (I.ok.hd hc) hl (by simpa using rv.ints) big fun h' tk c R hcn kept => ?_
  have c64 : c < 64 := by
    rcases hb with hb | hb
    · omega
    · have := setR_card R hb
      omega
  exact ⟨.ref _, upd H s.heap.objs.size (SetO X.w s.heap.objs.size (fun j => decide (j ∈ ns)) c), I.laid (t' := tk) kept (Nat.le_refl _) (setO_new R), rfl, q _ c (I.hok.fresh (Nat.le_refl _)) c64⟩
theorem y_sortset {a : Expr} {ta : DTE} {p1 p2 pos1 pos2 : Pos} (hc : X.calm = true) (g1 : Gl X "sorted") (m1 : X.mg "sorted" = none) (g2 : Gl X "set") (m2 : X.mg "set" = none) (ha : PE X a (liftE X.K ta)) (he : starEach [a] X.env = (false, eval a X.env) :: starEach [] X.env) :
    PE X (.Call (.Name "sorted" p1) [.Call (.Name "set" p2) [a] [] pos2] [] pos1) (liftE X.K fun σ S R => ta σ S fun x S1 => biW .sortset [x] S1 R) := by
  have inner := pe_callTy (pos := pos2) (p := p2) (T := "set") (cr_setTup hc) g2 m2 (by decide +kernel) (pa_cons ha pa_nil he) (by decide) (by decide) he rfl
  have outer := pe_callB (pos := pos1) (p := p1) (cr_sortedSet hc) g1 m1 (by decide +kernel) (pa_cons inner pa_nil rfl) (by decide) (by decide) rfl rfl
  refine outer.imp fun σV H Q ⟨σ, S, R, sl, sr, h, k⟩ => goE sl sr h fun x S1 v H1 h f sl hx s => ?_
  cases x with
  | tup ys =>
    obtain ⟨ns, e, h1, h2, h⟩ := h
    obtain ⟨l, zs, rfl, q, ez⟩ := hx.tup_inv
    obtain rfl := ints_vals e ez
    refine ⟨l, ns, rfl, q, h1, h2, fun p c hp c64 => ⟨p, _, c, rfl, L2.upd_same, c64, fun ns' p2 hs hm _ hn => ?_⟩⟩
    exact (k.after (f.trans (frame_tup hp))).lst (srel_tup s hp) (h ns' hs fun j => (hm j).trans decide_eq_true_iff) (dvs_ints ns') p2 hn
  | _ => exact h.elim
theorem m_update : MtR X "dict.update" (liftM X.K (mtW .update)) := by
  intro pins s σ H x xs v us Q I rx rs ⟨d, ds, S, R, hx, hxs, r, h, k⟩
  obtain ⟨a, o, rfl, e, q⟩ := recv_inv h
  obtain ⟨y, dy, rfl, hy, q⟩ := one_dv hxs q
  have ex := hx.loc_inv
  subst ex
  cases o with
  | dct i =>
    obtain ⟨hne, q⟩ := q
    cases dy with
    | loc b =>
      obtain ⟨o2, e2, q⟩ := q
      have ey := hy.loc_inv
      subst ey
      cases o2 with
      | dct j =>
        obtain ⟨hl, q⟩ := q
        obtain ⟨ps, h1, ei⟩ := r.dct e
        obtain ⟨qs, h2, ej⟩ := r.dct e2
        cases (show v = Value.ref a from rx)
        obtain ⟨u1, rfl, ru⟩ := vals1 rs
        cases (show u1 = Value.ref b from ru)
        obtain ⟨z1, m1, vs1, rel1, dd1⟩ := dk_of I.hok h1
        obtain ⟨z2, m2, vs2, rel2, dd2⟩ := dk_of I.hok h2
        have nd : (ps.map (·.1)).Nodup := by
          rw [rel1.keys]
          obtain ⟨_, _, _, _, _, _, _, _, nd⟩ := dd1
          exact nd
        have l1 : ps.length = i.length := Paired.length ei
        have l2 : qs.length = j.length := Paired.length ej
        have len : vs1.length + vs2.length ≤ sizeLine := by rw [← rel1.length, ← rel2.length]; omega
        have ab : a ≠ b := fun z => hne (by rw [z])
        refine call_meetsIn PySem.F.slot_dict_update dd1.typeIs PySem.F.entry_dict_update (PySem.F.args_dict_update_2 _ _) (meets_dict_update (mixKind X.prog X.w) a b ab m2) ⟨vs1, vs2, dd1, dd2, len, fun h' dd' _ hs => ?_⟩
        have he : ∃ q, h'.get? a = some q := let ⟨q, _, _, hq, _⟩ := dd'; ⟨q, hq⟩
        have fits : (mergeK ps qs).length ≤ sizeLine := by have := length_mergeK qs ps; omega
        refine ⟨.non, upd H a (.dK (mergeK ps qs)), d_write I (by rw [h1]; exact True.intro) hs he (dk_new fits m1 (KV.merge rel2 rel1) dd'), rfl, ?_⟩
        exact k.go .non _ .non _ q (frame_set r e) .non (srel_set r e ⟨_, L2.upd_same, L2.Paired.mapP (merge_rel nd ei ej) fun _ _ z => z.mono (stay_set r e)⟩)
      | _ => exact q.elim
    | _ => exact q.elim
  | _ => exact q.elim
theorem m_setd : MtR X "dict.setdefault" (liftM X.K (mtW .setdefault)) := by
  intro pins s σ H x xs v us Q I rx rs ⟨d, ds, S, R, hx, hxs, r, h, k⟩
  obtain ⟨a, o, rfl, e, q⟩ := recv_inv h
  obtain ⟨y, z, dy, dz, rfl, hy, hz, q⟩ := two_dv hxs q
  have ex := hx.loc_inv
  subst ex
  cases (show v = Value.ref a from rx)
  obtain ⟨u1, u2, rfl, r1, r2⟩ := vals2 rs
  cases o with
  | dct kvs =>
    obtain ⟨ps, h1, ep⟩ := r.dct e
    obtain ⟨ho, hl, q⟩ := q
    have ey := kV_dv hy ho
    subst ey
    obtain ⟨i1, i2⟩ := look_rel ho ep
    have hl' : ps.length < sizeLine := by rw [Paired.length ep]; exact hl
    have nd : (ps.map (·.1)).Nodup := by
      obtain ⟨_, _, vs1, rel1, dd1⟩ := dk_of I.hok h1
      rw [rel1.keys]
      obtain ⟨_, _, _, _, _, _, _, _, nd⟩ := dd1
      exact nd
    refine d_setd I h1 r1 r2 hl' (fun w hw w' s' I' rw' => ⟨_, H, I', rw', ?_⟩) (fun hn w' s' I' rw' => ⟨_, _, I', rw', ?_⟩)
    · cases e : lookD kvs dy with
      | none => rw [i2 e] at hw; cases hw
      | some d2 =>
        obtain ⟨v2, e2, h2⟩ := i1 d2 e
        rw [e2] at hw
        cases hw
        rw [e] at q
        exact k.same r q h2
    · cases e2 : lookD kvs dy with
      | some d2 =>
        obtain ⟨v2, e3, _⟩ := i1 d2 e2
        rw [e3] at hn
        cases hn
      | none =>
        rw [e2] at q
        exact k.go dz _ z _ q (frame_set r e) (DV.mono (stay_set r e) hz) (srel_set r e ⟨_, L2.upd_same, L2.Paired.mapP (put_rel ho hz nd ep) fun _ _ z => z.mono (stay_set r e)⟩)
  | _ => exact q.elim
end
end Y

namespace Y
open PySem PySem.Spec L2

/-! ### the text against its reading: looks -/
structure Ck where
  N : List Str
  fs : List (String × Nat)
  gs : List String
  ds : List String
  /-- repr is used: the guards are known -/
  rp : Bool
def visC (sc : Scope) (x : Str) : Bool := (match sc.names.lookup x with | some .local => true | some .cell => true | some .free => true | _ => false) && !(x == ("__debug__" : Str)) && !(x == ("__classdict__" : Str))
def glC (sc : Scope) (x : Str) : Bool := (match sc.names.lookup x with | some .globalImplicit => true | _ => false) && !(x == ("__debug__" : Str)) && decide (x ≠ "__name__")
def noStar : Expr → Bool
  | .Starred _ _ => false
  | _ => true
def noSet : Expr → Bool
  | .Set _ _ _ => false
  | _ => true
def noSlice : Expr → Bool
  | .Slice _ _ _ _ => false
  | _ => true
def plainT : Expr → Bool
  | .UnaryOp .Not _ _ => false
  | .BoolOp _ _ _ => false
  | .IfExp _ _ _ _ => false
  | .Compare _ _ _ _ => false
  | _ => true
def noCall0 : Expr → Bool
  | .Call _ [] [] _ => false
  | _ => true
def cmpC : COp → CmpOp
  | .eq => .Eq | .ne => .NotEq | .lt => .Lt | .le => .LtE | .gt => .Gt | .ge => .GtE | .isn => .Is | .notn => .IsNot | .inn => .In | .notin => .NotIn
/-- a built-in's name and kind: true for a type -/
def biN : Bi → Option (String × Bool × String)
  | .len => some ("len", false, "len")
  | .int => some ("int", true, "int")
  | .list => some ("list", true, "list")
  | .tuple => some ("tuple", true, "tuple")
  | .dict => some ("dict", true, "dict")
  | .max => some ("max", false, "max")
  | .max2 => some ("max", false, "max")
  | .sum => some ("sum", false, "sum")
  | .any => some ("any", false, "any")
  | .all => some ("all", false, "all")
  | .sorted => some ("sorted", false, "sorted")
  | _ => none
def bnames : List String := ["len", "int", "list", "tuple", "dict", "max", "sum", "any", "all", "isinstance", "bool", "str", "range", "zip", "sorted", "set", "repr"]
def mtN : Mt → Option String
  | .append => some "append"
  | .extend => some "extend"
  | .pop => some "pop"
  | .get => some "get"
  | .setdefault => some "setdefault"
  | .update => some "update"
  | _ => none
def ownN (N : List Str) (own : List Nat) : List (Str × Nat) := own.map fun i => (N.getD i "", i)
/-- a target whose names stand in the scope -/
def tg1C (N : List Str) (sc : Scope) (i : Nat) : Expr → Bool
  | .Name y _ => decide (N[i]? = some y) && (match sc.names.lookup y with | some .local => true | some .cell => true | _ => false)
  | _ => false
def tgsC (N : List Str) (sc : Scope) : List Nat → List Expr → Bool
  | [], [] => true
  | i :: is, e :: es => tg1C N sc i e && tgsC N sc is es
  | _, _ => false
def tgC (N : List Str) (sc : Scope) (g : Tg) (e : Expr) : Bool := match g with
  | .one i => tg1C N sc i e
  | .many is => match e with
    | .Tuple es _ _ => tgsC N sc is es
    | _ => false
section
variable (C : Ck)
def varC (sc : Scope) (i : Nat) : Expr → Bool
  | .Name y _ => decide (C.N[i]? = some y) && visC sc y
  | _ => false
mutual
def ckE : E → Scope → Expr → Bool
  | .var i, sc, x => varC C sc i x
  | .non, _, x => match x with | .Constant .none _ _ => true | _ => false
  | .bl b, _, x => match x with | .Constant (.bool c) _ _ => b == c | _ => false
  | .int i, _, x => match x with | .Constant (.int j) _ _ => i == j | _ => false
  | .str s, _, x => match x with | .Constant (.str t) _ _ => decide (t = Str.ofString s) | _ => false
  | .gv y, sc, x => match x with | .Name z _ => decide (z = Str.ofString y) && glC sc z && C.gs.contains y | _ => false
  | .tup es, sc, x => match x with | .Tuple xs _ _ => ckEs es sc xs | _ => false
  | .lst es, sc, x => match x with | .List xs _ => ckEs es sc xs | _ => false
  | .op o a b, sc, x => match x with | .BinOp a' o' b' _ => decide (o' = bopC o) && ckE a sc a' && ckE b sc b' | _ => false
  | .neg a, sc, x => match x with | .UnaryOp .USub a' _ => ckE a sc a' | _ => false
  | .cmp o a b, sc, x => match x with | .Compare a' [o'] [b'] _ => decide (o' = cmpC o) && ckE a sc a' && ckE b sc b' && !behindInMarks (cmpC o) b' | _ => false
  | .cmp2 o p a b c, sc, x => match x with | .Compare a' [o', p'] [b', c'] _ => decide (o' = cmpC o) && decide (p' = cmpC p) && ckE a sc a' && ckE b sc b' && ckE c sc c' && !lastMarks [cmpC o, cmpC p] [b', c'] | _ => false
  | .bop k es, sc, x => match x with | .BoolOp o xs _ => decide (o = boC k) && !es.isEmpty && ckB es sc xs | _ => false
  | .not a, sc, x => match x with | .UnaryOp .Not a' _ => ckE a sc a' | _ => false
  | .ite c a b, sc, x => match x with | .IfExp c' a' b' _ => ckE c sc c' && ckE a sc a' && ckE b sc b' | _ => false
  | .sub a i, sc, x => match x with
    | .Subscript a' i' _ => noSlice i' && ckE i sc i' && (match a with
      | .gv y => (match a' with | .Name z _ => decide (z = Str.ofString y) && glC sc z && (C.ds.contains y || C.gs.contains y) | _ => false)
      | a => ckE a sc a')
    | _ => false
  | .slc a lo hi, sc, x => match x with | .Subscript a' (.Slice lo' hi' none _) _ => ckE a sc a' && ckO lo sc lo' && ckO hi sc hi' | _ => false
  | .rev a, sc, x => match x with | .Subscript a' (.Slice none none (some (.UnaryOp .USub (.Constant (.int j) _ _) _)) _) _ => decide (j = 1) && ckE a sc a' | _ => false
  | .isi a t, sc, x => match x with | .Call (.Name f _) [a', .Name ty _] [] _ => decide (f = "isinstance") && glC sc f && decide (ty = tyS t) && glC sc ty && ckE a sc a' && noStar a' | _ => false
  | .call f es, sc, x => match x with | .Call (.Name g _) (a :: as) [] _ => decide (g = Str.ofString f) && glC sc g && C.fs.contains (f, es.length) && ckEs es sc (a :: as) | _ => false
  | .bi f es, sc, x => match f with
    | .listrange => (match x with
      | .Call (.Name g _) [.Call (.Name r _) [a] [] _] [] _ => decide (g = "list") && glC sc g && decide (r = "range") && glC sc r && ckEs es sc [a]
      | _ => false)
    | .tuprange => (match x with
      | .Call (.Name g _) [.Call (.Name r _) [a] [] _] [] _ => decide (g = "tuple") && glC sc g && decide (r = "range") && glC sc r && ckEs es sc [a]
      | _ => false)
    | .listvals => (match x with
      | .Call (.Name g _) [.Call (.Attribute a m apos) [] [] cpos] [] _ => decide (g = "list") && glC sc g && decide (m = "values") && (apos.endLine == cpos.line) && noCall0 a && ckEs es sc [a]
      | _ => false)
    | .sortset => (match x with
      | .Call (.Name g _) [.Call (.Name r _) [a] [] _] [] _ => decide (g = "sorted") && glC sc g && decide (r = "set") && glC sc r && ckEs es sc [a]
      | _ => false)
    | .repr => (match x with
      | .Call (.Name g _) [a] [] _ => decide (g = "repr") && glC sc g && C.rp && ckEs es sc [a]
      | _ => false)
    | f => match biN f with
      | none => false
      | some (n, _, _) => match x with | .Call (.Name g _) (a :: as) [] _ => decide (g = Str.ofString n) && glC sc g && ckEs es sc (a :: as) | _ => false
  | .mt m o es, sc, x => match mtN m with
    | none => false
    | some n => match x with | .Call (.Attribute o' m' apos) as [] cpos => decide (m' = Str.ofString n) && (apos.endLine == cpos.line) && noCall0 o' && ckE o sc o' && ckEs es sc as && decide (as.length < 20) | _ => false
  | .lc own tg src c e, sc, x => match x with
    | .ListComp elt [⟨t, it, ifs, 0⟩] scope _ => blkC C.N sc scope (ownN C.N own) && (tgIs tg).all (fun i => own.contains i) && tgC C.N scope tg t && ckI src sc it && ckC c (relS scope sc) ifs && ckE e (relS scope sc) elt
    | _ => false
  | .dc own tg src c e v, sc, x => match x with
    | .DictComp k elt [⟨t, it, ifs, 0⟩] scope _ => blkC C.N sc scope (ownN C.N own) && (tgIs tg).all (fun i => own.contains i) && tgC C.N scope tg t && ckI src sc it && ckC c (relS scope sc) ifs && ckE e (relS scope sc) k && ckE v (relS scope sc) elt
    | _ => false
  | .dsp es, sc, x => match x with | .Dict ks vs _ => decide (ks.length ≤ 15) && ckD es sc ks vs | _ => false
def ckEs : List E → Scope → List Expr → Bool
  | [], _, xs => xs.isEmpty
  | e :: es, sc, xs => match xs with | a :: as => noStar a && ckE e sc a && ckEs es sc as | [] => false
def ckB : List E → Scope → List Expr → Bool
  | [], _, xs => xs.isEmpty
  | e :: es, sc, xs => match xs with | a :: as => ckE e sc a && ckB es sc as | [] => false
def ckD : List E → Scope → List (Option Expr) → List Expr → Bool
  | [], _, ks, vs => ks.isEmpty && vs.isEmpty
  | k :: es, sc, ks, vs => match ks with
    | some k' :: ks => match vs with
      | v' :: vs => ckE k sc k' && ckD' es sc ks v' vs
      | [] => false
    | _ => false
def ckD' : List E → Scope → List (Option Expr) → Expr → List Expr → Bool
  | [], _, _, _, _ => false
  | v :: es, sc, ks, v', vs => ckE v sc v' && ckD es sc ks vs
def ckO : Option E → Scope → Option Expr → Bool
  | none, _, x => x.isNone
  | some e, sc, x => match x with | some x => ckE e sc x | none => false
def ckC : Option E → Scope → List Expr → Bool
  | none, _, xs => xs.isEmpty
  | some e, sc, xs => match xs with | [x] => ckE e sc x | _ => false
def ckI : Src → Scope → Expr → Bool
  | .seq e, sc, x => noSet x && ckE e sc x
  | .range e, sc, x => match x with | .Call (.Name r _) [a] [] _ => decide (r = "range") && glC sc r && noStar a && ckE e sc a | _ => false
  | .keys i, sc, x => varC C sc i x
  | .gkeys y, sc, x => match x with | .Name z _ => decide (z = Str.ofString y) && glC sc z && C.ds.contains y | _ => false
  | .zip _ _, _, _ => false
end
end
end Y

namespace Y
open PySem PySem.Spec L2

/-- a written dict of the module with text keys -/
structure GDict (K : PySem.W.Frag) (w : World) (mg : Str → Option Value) (x : String) (kvs : List (String × D)) : Prop where
  ex : ∃ (d : Addr) (es : Array DictEntry) (n : Nat), mg (Str.ofString x) = some (.ref d) ∧ KDict K w d es n ∧ (∀ s v, kvs.lookup s = some v → ∃ u0 v0, PySem.W.nsIn K d (Str.ofString s) = some (some u0) ∧ RelV v0 u0 ∧ ∀ H, DV K H v0 v) ∧
    (es.size = kvs.length ∧ ∀ (i : Nat) (s : String) (v : D), kvs[i]? = some (s, v) → ∃ en t, es[i]? = some en ∧ en.key = .str (Str.ofString s) t)
structure ModOk (Γ : G) (C : Ck) (P : Program) (w : World) (K : PySem.W.Frag) (mg : Str → Option Value) (base : Heap) (k : Nat) : Prop where
  bt : ∀ x ∈ bnames, mg (Str.ofString x) = none
  fn : ∀ p ∈ C.fs, ∃ j, j ≤ k ∧ C8.Cal P w K mg base j (Str.ofString p.1) (liftSp K p.2 (Γ.fn p.1)) [] ∧ ∀ ds S R, Γ.fn p.1 ds S R → ds.length = p.2
  gv : ∀ x ∈ C.gs, Γ.gd x = none ∧ ∃ d v u, Γ.gv x = some d ∧ mg (Str.ofString x) = some u ∧ RelV v u ∧ ∀ H, DV K H v d
  gd : ∀ x ∈ C.ds, ∃ kvs, Γ.gd x = some kvs ∧ GDict K w mg x kvs
structure Good (Γ : G) (C : Ck) (X : Cx) (sc : Scope) : Prop where
  calm : X.calm = true
  nd : X.N.Nodup
  n : X.N = C.N
  scp : X.env.scope = sc
  kind : sc.kind = .function
  hu : X.A.units + 200 < cLine
  rg : C.rp = true → X.A.guards = some []
  mod : ∃ k, ModOk Γ C X.prog X.w X.K X.mg X.base k ∧ Room k X.A
structure OkE (X : Cx) (x : Expr) (t : DTE) : Prop where
  pe : PE X x (liftE X.K t)
  pt : PT X x (liftT X.K t)
theorem isTrue_of {x : Expr} (h : plainT x = true) {env : Env} : ∀ whole, isTrue x env whole = (do let v ← whole; standAt x.pos; holding [v] (truthy v)) := by
  intro wh
  cases x with
  | UnaryOp op a p => cases op <;> first | rfl | cases h
  | BoolOp _ _ _ => cases h
  | IfExp _ _ _ _ => cases h
  | Compare _ _ _ _ => cases h
  | _ => rfl
theorem OkE.of {X : Cx} {x : Expr} {t : DTE} (h : PE X x (liftE X.K t)) (p : plainT x = true := by rfl) : OkE X x t := ⟨h, liftT_of h (isTrue_of p)⟩
section
variable {Γ : G} {C : Ck} {X : Cx} {sc : Scope}
theorem Good.bt (g : Good Γ C X sc) {x : String} (h : x ∈ bnames) : X.mg (Str.ofString x) = none := let ⟨_, m, _⟩ := g.mod; m.bt x h
theorem gl_of {x : Str} (g : Good Γ C X sc) (h : glC sc x = true) : Gl X x ∧ x ≠ "__name__" ∧ (x == ("__debug__" : Str)) = false := by
  unfold glC at h
  simp only [Bool.and_eq_true, Bool.not_eq_true', decide_eq_true_eq] at h
  obtain ⟨⟨h1, h2⟩, h3⟩ := h
  refine ⟨?_, h3, h2⟩
  show X.env.scope.names.lookup x = _
  rw [g.scp]
  split at h1
  · assumption
  · cases h1
theorem vis_of {x : Str} (e : X.env.scope = sc) (h : visC sc x = true) : Vis X.env.scope x ∧ (x == ("__debug__" : Str)) = false ∧ (x == ("__classdict__" : Str)) = false := by
  unfold visC at h
  simp only [Bool.and_eq_true, Bool.not_eq_true'] at h
  obtain ⟨⟨h1, h2⟩, h3⟩ := h
  refine ⟨?_, h2, h3⟩
  unfold Vis
  rw [e]
  split at h1
  · exact .inl (by assumption)
  · exact .inr (.inl (by assumption))
  · exact .inr (.inr (by assumption))
  · cases h1
theorem var_of {i : Nat} {x : Expr} (g : Good Γ C X sc) (h : varC C sc i x = true) : ∃ y p, x = .Name y p ∧ X.N[i]? = some y ∧ Vis X.env.scope y ∧ (y == ("__debug__" : Str)) = false ∧ (y == ("__classdict__" : Str)) = false := by
  unfold varC at h
  split at h
  · rename_i y p
    simp only [Bool.and_eq_true, decide_eq_true_eq] at h
    exact ⟨y, p, rfl, by rw [g.n]; exact h.1, vis_of g.scp h.2⟩
  · cases h
theorem star_of {e : Expr} {es : List Expr} {env : Env} (h : noStar e = true) : starEach (e :: es) env = (false, eval e env) :: starEach es env := by
  cases e <;> first | rfl | cases h
theorem folded_of {e : Expr} {env : Env} (h : noSet e = true) : ∀ x, foldedSetIterable e env x = pure x := by
  intro x
  cases e <;> first | rfl | cases h
theorem plain_of {e : Expr} (h : noSlice e = true) : PlainIx e := by
  intro o i
  cases e <;> first | rfl | cases h
theorem call0_of {o : Expr} {name : Str} {env : Env} (h : noCall0 o = true) : attributeBase o name env (eval o env) = eval o env := by
  unfold attributeBase
  cases o with
  | Call f es ks p =>
    cases es with
    | nil =>
      cases ks with
      | nil => cases h
      | cons _ _ => cases f <;> rfl
    | cons _ _ => cases f <;> rfl
  | _ => rfl
/-- argument lists without stars -/
def noStars (es : List Expr) : Bool := es.all noStar
theorem stars_any {es : List Expr} {env : Env} {pos : Pos} (h : noStars es = true) : (backTo pos (starEach es env)).any (·.1) = false := by
  induction es with
  | nil => rfl
  | cons e es ih =>
    simp only [noStars, List.all_cons, Bool.and_eq_true] at h
    rw [star_of h.1]
    show (false || (backTo pos (starEach es env)).any (·.1)) = false
    rw [Bool.false_or]
    exact ih h.2
theorem stars_few {es : List Expr} {env : Env} {pos : Pos} (h : noStars es = true) (hl : es.length < 20) : ((backTo pos (starEach es env)).all (fun x => !x.1) && (backToKw pos (keywordEach [] env)).all (fun x => x.1.isSome) && decide (es.length + ([] : List Keyword).length + (if ([] : List Keyword).isEmpty then 0 else 1) < 30)) = true := by
  have h1 := stars_any (env := env) (pos := pos) h
  have h2 : (backTo pos (starEach es env)).all (fun x => !x.1) = true := by
    rw [List.all_eq_true]
    intro x hx
    rw [List.any_eq_false] at h1
    have := h1 x hx
    simpa using this
  rw [h2]
  show (true && true && decide (es.length + 0 + 0 < 30)) = true
  simp
  omega
/-- an expression and a list of arguments -/
structure OkA (X : Cx) (xs : List Expr) (t : DSt → Store → (List D → Store → Prop) → Prop) : Prop where
  pa : PA X xs (liftA X.K t)
  ns : noStars xs = true
theorem cal_of {f : String} {n : Nat} (g : Good Γ C X sc) (h : C.fs.contains (f, n) = true) : CalD X f (Γ.fn f) n := by
  obtain ⟨k, m, r⟩ := g.mod
  obtain ⟨j, hj, c, l⟩ := m.fn (f, n) (by simpa using h)
  exact ⟨l, j, c, r.mono hj⟩
/-- the context of a comprehension's block -/
theorem Good.blk (g : Good Γ C X sc) {scope : Scope} {own : List (Str × Nat)} (ok : BlkOk X.N X.env.scope scope own) (s : Shared) (H : Hp) (A : Addr) (cl : List (Str × Addr)) (fp : List Addr) : Good Γ C (X.blk s H scope (compEnvC scope cl A X.env) fp) (relS scope sc) where
  calm := g.calm
  nd := g.nd
  n := g.n
  scp := by show relS scope X.env.scope = _; rw [g.scp]
  kind := ok.kind
  hu := g.hu
  rg := g.rg
  mod := g.mod
theorem tg1_blk (g : Good Γ C X sc) {scope : Scope} {i : Nat} {e : Expr} (h : tg1C C.N scope i e = true) (s : Shared) (H : Hp) (A : Addr) (cl : List (Str × Addr)) (fp : List Addr) :
    ∃ y p, e = .Name y p ∧ NmOk (X.blk s H scope (compEnvC scope cl A X.env) fp) i y := by
  unfold tg1C at h
  split at h
  · rename_i y p
    simp only [Bool.and_eq_true, decide_eq_true_eq] at h
    obtain ⟨h1, h2⟩ := h
    have key : scope.names.lookup y = some .local ∨ scope.names.lookup y = some .cell := by
      split at h2
      · exact .inl (by assumption)
      · exact .inr (by assumption)
      · cases h2
    refine ⟨y, p, rfl, by rw [← g.n] at h1; exact h1, ?_, ?_⟩
    · rcases key with k | k
      · exact .inl (lookup_relS_keep (by decide) k)
      · exact .inr (lookup_relS_keep (by decide) k)
    · rcases key with k | k
      · exact .inr (lookup_relS_keep (by decide) k)
      · exact .inl (by show (scope.names.lookup y == some .cell) = true; rw [k]; rfl)
  · cases h
theorem tgs_blk (g : Good Γ C X sc) {scope : Scope} (s : Shared) (H : Hp) (A : Addr) (cl : List (Str × Addr)) (fp : List Addr) : ∀ {is : List Nat} {es : List Expr}, tgsC C.N scope is es = true → Names (X.blk s H scope (compEnvC scope cl A X.env) fp) is es
  | [], [], _ => .nil
  | i :: is, e :: es, h => by
    have h : (tg1C C.N scope i e && tgsC C.N scope is es) = true := h
    rw [Bool.and_eq_true] at h
    obtain ⟨y, p, rfl, n⟩ := tg1_blk g h.1 s H A cl fp
    exact .cons n (tgs_blk g s H A cl fp h.2)
  | [], _ :: _, h => by cases h
  | _ :: _, [], h => by cases h
theorem tg_blk (g : Good Γ C X sc) {scope : Scope} {t : Tg} {e : Expr} (h : tgC C.N scope t e = true) (s : Shared) (H : Hp) (A : Addr) (cl : List (Str × Addr)) (fp : List Addr) : PG (X.blk s H scope (compEnvC scope cl A X.env) fp) e (liftG X.K t) := by
  cases t with
  | one i =>
    obtain ⟨y, p, rfl, n⟩ := tg1_blk g h s H A cl fp
    exact y_g1 (X := X.blk s H scope (compEnvC scope cl A X.env) fp) g.nd n
  | many is =>
    unfold tgC at h
    split at h
    · rename_i h0; cases h0
    · rename_i is' h0
      cases h0
      split at h
      · exact y_gm (X := X.blk s H scope (compEnvC scope cl A X.env) fp) g.calm g.nd (tgs_blk g s H A cl fp h)
      · cases h
theorem own_snd (N : List Str) (own : List Nat) : (ownN N own).map (·.2) = own := by
  unfold ownN
  rw [List.map_map]
  have : ((fun x : Str × Nat => x.2) ∘ fun i => (N.getD i "", i)) = id := rfl
  rw [this, List.map_id]
theorem cmp_rule (hu : X.A.units + 200 < cLine) (o : COp) : OpR X (compareOp (cmpC o)) (lift2B X.K (cmpW o)) := by
  cases o with
  | eq => exact l_eq hu
  | ne => exact l_ne hu
  | lt => exact l_lt
  | le => exact l_le
  | gt => exact l_gt
  | ge => exact l_ge
  | isn => exact l_isn
  | notn => exact l_notn
  | inn => exact l_inn hu
  | notin => exact l_notin hu
theorem bi_rule (hc : X.calm = true) {f : Bi} {n id : String} {t : Bool} (h : biN f = some (n, t, id)) : CallR X (if t then .type id else .builtin id) (liftC X.K (biW f)) := by
  cases f <;> cases h
  · exact b_len
  · exact b_int
  · exact b_list hc
  · exact b_tuple
  · exact b_dict hc
  · exact b_max hc
  · exact b_max2 hc
  · exact b_sum hc
  · exact b_any hc
  · exact b_all hc
  · exact b_sorted
theorem bi_boot {f : Bi} {n id : String} {t : Bool} (h : biN f = some (n, t, id)) : n ∈ bnames ∧ bootBuiltins (Str.ofString n) = some (if t then .type id else .builtin id) := by
  cases f <;> cases h <;> exact ⟨by decide, by decide +kernel⟩
end
end Y

namespace Y
open PySem PySem.Spec L2

/-! ### a written dict of the module: its keys walked, its items read -/
/-- the keys, by their texts -/
def Itw (d : Addr) (ks : List String) : It := ⟨fun i _ => i < ks.length, fun i H x H' => H' = H ∧ ∃ k, ks[i]? = some k ∧ x = .str (Str.ofString k), fun i _ => ks.length ≤ i⟩
section
variable {P : Program} {w : World} {K : PySem.W.Frag} {tg : Expr} {d : Addr} {es : Array DictEntry} {n : Nat}
theorem turn_w {ks : List String} (it : Addr) (D : KDict K w d es n) (hsz : es.size = ks.length) (ent : ∀ (i : Nat) (k : String), ks[i]? = some k → ∃ en t, es[i]? = some en ∧ en.key = .str (Str.ofString k) t) : Turn P w K tg (Itw d ks) [it] it (fun i h => h.IsKeyIter it d i ks.length n) where
  mem := by simp
  obj := fun i h st b hb => by
    obtain rfl : b = it := by simpa using hb
    obtain ⟨o, e, _, dat⟩ := st
    exact ⟨o, e, fun v z => by rw [dat] at z; cases z⟩
  keep := fun i h h' st k => st.at fun o e => k it (by simp) o e
  item := by
    intro X q1 q2 q3 hc i pins s σ H E I hf st hi
    subst q1 q2 q3
    obtain ⟨g0, g1, g2, g3, g4, g5⟩ := hf it (by simp)
    have hk : ks[i]? = some ks[i] := List.getElem?_eq_getElem hi
    obtain ⟨en, t, e1, e2⟩ := ent i _ hk
    refine next_key_item st (I.kIn _ _ D.at_) rfl hsz e1 fun h' st2 sb => ?_
    have I2 : Inv X pins σ H { s with heap := h' } := I.turned (t' := s.toks) (fun b o hb e => (sb.2 b hb).trans e) g0 g1 g3 g4 g5
    obtain ⟨o2, r1, r2, r3⟩ := id st2
    refine ⟨en.key, rfl, go_of (s := { s with heap := h' }) r1 r2 r3 (by decide) ⟨_, H, I2, ?_, ⟨rfl, _, hk, rfl⟩, st2, fun b hb => (hf b hb).1⟩⟩
    rw [e2]
    exact ⟨t, rfl⟩
  done := by
    intro X q1 q2 q3 hc i pins s σ H E I hf st hi
    subst q1 q2 q3
    obtain ⟨g0, g1, g2, g3, g4, g5⟩ := hf it (by simp)
    exact next_key_end (I.ok.hd hc) st (I.kIn _ _ D.at_) rfl hsz hi fun h' eb => ⟨rfl, I.turned (t' := s.toks) (fun b o hb e => eb b o hb e) g0 g1 g3 g4 g5⟩
  self := fun A i s Q E st h => wpAny_pyIter_keyiter st h
end
theorem wk_w {K : PySem.W.Frag} {d : Addr} {ks : List String} : Wk K (Itw d ks) (ks.map D.str) (fun _ => True) (fun _ => True) where
  st := fun _ _ _ _ _ _ => trivial
  item := fun i x H S e r _ _ => by
    rw [List.getElem?_map] at e
    obtain ⟨k, e1, rfl⟩ := Option.map_eq_some_iff.mp e
    obtain ⟨hi, _⟩ := List.getElem?_eq_some_iff.mp e1
    refine ⟨hi, fun y H' ⟨q1, k2, q2, q3⟩ => ?_⟩
    subst q1 q3
    rw [e1] at q2
    cases q2
    exact ⟨.refl, .str _, r⟩
  stop := fun H S r _ _ => by rw [List.length_map]; exact Nat.le_refl _
section
variable {Γ : G} {C : Ck} {X : Cx} {sc : Scope}
theorem ixd_w {d : Addr} {es : Array DictEntry} {n : Nat} (D : KDict X.K X.w d es n) : IxR X (fun x y H Q => ∃ (z : Str) (u0 : Value) (v0 : V), x = .ref d ∧ y = .str z ∧ PySem.W.nsIn X.K d z = some (some u0) ∧ RelV v0 u0 ∧ Q v0 H) := by
  intro value slice pins s σ H x y v u Q I rx ry h hs
  obtain ⟨z, u0, v0, rfl, rfl, q1, q2, q⟩ := h
  cases (show v = Value.ref d from rx)
  unfold PyProof.Rows.subscriptTail
  refine wpAny_bind ?_
  have hT := kd_type D I
  rw [getitemInPython_of_ne hT.not_modules]
  refine wpAny_bind (wpAny_specialOf hT PySem.F.slot_dict_getitem.lookup ?_)
  have h2 : wpAny (model X.prog X.w) X.A (getItem (.ref d) u) (EP X pins σ Q) X.xe s := op_item_kd D pins s σ H (.ref d) (.str z) _ u Q I rfl ry ⟨z, u0, v0, rfl, rfl, q1, q2, q⟩
  have fin : wpAny (model X.prog X.w) X.A (subscripted slice false (.ref d) u) (fun r s₃ => wpAny (model X.prog X.w) X.A (letTemporaryGo value (.ref d) r >>= fun _ => pure r) (EP X pins σ Q) X.xe s₃) X.xe s := by
    rw [hs]
    exact wpAny_operating (wpAny_mono h2 (fun r s₃ h₃ => wpAny_bind (wpAny_letTemporaryGo (wpAny_pure h₃))) fun _ _ x => x)
  first
    | exact wpAny_pure (wpAny_bind fin)
    | exact wpAny_bind (wpAny_pure (wpAny_bind fin))
    | exact wpAny_bind fin
theorem y_gd {y : String} {z : Str} {p pos : Pos} {i : Expr} {ti : DTE} {kvs : List (String × D)} (D : GDict X.K X.w X.mg y kvs) (hz : z = Str.ofString y) (hg : Gl X z) (hd : (z == ("__debug__" : Str)) = false) (hi : PE X i (liftE X.K ti)) (hs : PlainIx i) :
    PE X (.Subscript (.Name z p) i pos) (liftE X.K fun σ S R => ti σ S fun k S1 => ∃ s v, k = .str s ∧ kvs.lookup s = some v ∧ R v S1) := by
  subst hz
  obtain ⟨d, es, n, hm, KD, look, _⟩ := D.ex
  refine (pe_ix (ixd_w KD) (pe_glob (v := .ref d) (pos := p) hg hm rfl hd) hi hs).imp fun σV H Q ⟨σ, S, R, sl, sr, h, k⟩ => goE sl sr h fun x S1 v H1 ⟨s, v2, e, e2, r⟩ f sl hx sr => ?_
  subst e
  obtain ⟨u0, v0, q1, q2, q3⟩ := look s v2 e2
  exact ⟨_, u0, v0, rfl, hx.str_inv, q1, q2, (k.after f).same sr r (q3 H1)⟩
theorem y_gkI {tg : Expr} {y : String} {z : Str} {pos : Pos} {kvs : List (String × D)} (W : GDict X.K X.w X.mg y kvs) (hz : z = Str.ofString y) (hg : Gl X z) (hd : (z == ("__debug__" : Str)) = false) :
    PI X tg (.Name z pos) (liftI X.K fun σ S R => R (kvs.map fun kv => D.str kv.1) (fun _ => True) S) := by
  subst hz
  refine ⟨fun pins s σV H RI I ⟨σ, S, R, sl, sr, h, k⟩ => ?_⟩
  obtain ⟨d, es, n, hm, KD, _, hsz, ent⟩ := W.ex
  have k2 := k _ _ S (Itw d (kvs.map (·.1))) H _ (by rw [List.map_map]; exact h) wk_w trivial .refl sr
  refine thn ((pe_glob (v := .ref d) (pos := pos) hg hm rfl hd).run pins s σV H (fun v H1 => v = .ref d ∧ H1 = H) I ⟨rfl, rfl⟩) fun v s1 ⟨x, H1, I1, r1, e1, e2⟩ => ?_
  subst e1 e2
  cases (show v = Value.ref d from r1)
  refine iter_keys KD.low (I1.kIn _ _ KD.at_) ⟨rfl, rfl, rfl⟩ rfl (pi_one (tk := s1.toks) I1 _ (turn_w (ks := kvs.map (·.1)) _ KD (by rw [List.length_map]; exact hsz) fun i k2 e => ?_) ⟨_, Heap.get?_push_size _ rfl, rfl, ?_⟩ k2)
  · rw [List.getElem?_map] at e
    obtain ⟨kv, e1, rfl⟩ := Option.map_eq_some_iff.mp e
    obtain ⟨en, t, q1, q2⟩ := ent i kv.1 kv.2 e1
    exact ⟨en, t, q1, q2⟩
  · show Data.fields _ = Data.fields _
    rw [List.length_map, hsz]
    rfl
end
end Y

namespace Y
open PySem PySem.Spec L2

/-- what a comprehension or a loop walks: without a lock, or the keys of a locked dict -/
inductive OkI (Γ : G) (X : Cx) (tg x : Expr) : Src → Prop
  | plain {s : Src} {t : DTJ} : PI X tg x (liftI X.K t) → (∀ σ S R, wpi Γ s σ S R = t σ S fun xs ok S1 => R xs ok S1 id) → OkI Γ X tg x s
  | keys {i : Nat} : PI X tg x (liftI X.K (keysJ i)) → OkI Γ X tg x (.keys i)
structure OkB (X : Cx) (k : Bool) (xs : List Expr) (t : DTE) : Prop where
  pe : ∀ pos, PE X (.BoolOp (boC k) xs pos) (liftE X.K t)
  pw : ∀ pos, PW X (.BoolOp (boC k) xs pos) (liftT X.K t)
section
variable {Γ : G} {C : Ck}
/-- lists in both forms are what a comprehension gives -/
theorem lc_pe {X : Cx} {sc : Scope} (g : Good Γ C X sc) {own : List Nat} {tg : Tg} {src : Src} {tc : Option DTE} {te : DTE} {elt t it : Expr} {ifs : List Expr} {scope : Scope} {pos : Pos} (h1 : blkC C.N sc scope (ownN C.N own) = true) (h2 : (tgIs tg).all (fun i => own.contains i) = true) (h3 : tgC C.N scope tg t = true) (hns : noSet it = true) (hi : OkI Γ X t it src)
    (hc : ∀ (s : Shared) (H : Hp) (A : Addr) (cl : List (Str × Addr)) (fp : List Addr), PTs (X.blk s H scope (compEnvC scope cl A X.env) fp) ifs (condT X.K tc)) (he : ∀ (s : Shared) (H : Hp) (A : Addr) (cl : List (Str × Addr)) (fp : List Addr), PE (X.blk s H scope (compEnvC scope cl A X.env) fp) elt (liftE X.K te)) :
    ∃ tt : TE, PE X (.ListComp elt [⟨t, it, ifs, 0⟩] scope pos) tt ∧ (∀ (σV : St) (H : Hp) (Q : VK), liftE X.K (fun σ S R => wpi Γ src σ S fun xs ok S1 back => ∀ p, S1 p = none → lcL p ok (lcStep own tg tc te σ) xs [] (S1.upd p (.lst [])) fun S2 => R (.loc p) (back S2)) σV H Q → tt σV H Q) ∧
      ∀ {i : Nat} {y : Str} {py spos : Pos}, X.N[i]? = some y → X.env.scope.names.lookup y = some .local → swapsWith (.ListComp elt [⟨t, it, ifs, 0⟩] scope pos) (some (.Name y py)) spos.line X.env = pure true →
        ∃ t2, PS X (.Assign [.Name y py] (.ListComp elt [⟨t, it, ifs, 0⟩] scope pos) spos) t2 ∧ ∀ (σV : St) (H : Hp) (N : L2.Ends), liftS X.K (fun Z σ S => wpi Γ src σ S fun xs ok S1 back => ∀ p, S1 p = none → lcL p ok (lcStep own tg tc te σ) xs [] (S1.upd p (.lst [])) fun S2 => ∃ σ1, bindT (.one i) (.loc p) σ = some σ1 ∧ Z.nx σ1 (back S2)) N σV H → t2 N σV H := by
  have ok : BlkOk X.N X.env.scope scope (ownN C.N own) := by rw [g.n, g.scp]; exact blkOk_by h1
  have ho : ∀ i ∈ tgIs tg, i ∈ own := fun i hi => by
    have := List.all_eq_true.mp h2 i hi
    simpa using this
  have hg := fun s H A cl fp => tg_blk g h3 s H A cl fp
  have hs : ∀ x, foldedSetIterable it X.env x = pure x := folded_of hns
  cases hi with
  | plain hi e =>
    rename_i tj
    have p := pe_lc (pos := pos) g.calm g.nd hi ok hg hc he hs
    rw [own_snd] at p
    refine ⟨_, p, fun σV H Q h => lc_imp ho ?_, fun {i y py spos} e1 e2 e3 => ?_⟩
    · obtain ⟨σ, S, R, sl, sr, h, k⟩ := h
      have h := Eq.mp (e σ S _) h
      exact ⟨σ, S, R, sl, sr, h, k⟩
    · have p2 := ps_setLc g.calm g.nd e1 e2 e3 hi ok hg hc he hs
      rw [own_snd] at p2
      refine ⟨_, p2, fun σV H N ⟨Z, σ, S, sl, sr, h, k⟩ => lc_imp ho ?_⟩
      have h := Eq.mp (e σ S _) h
      refine ⟨σ, S, fun d S2 => ∃ σ1, bindT (.one i) d σ = some σ1 ∧ Z.nx σ1 S2, sl, sr, h, ⟨fun d S' v H' ⟨σ1, e4, r⟩ f x s => ?_⟩⟩
      cases e4
      exact k.nx _ S' _ H' r f (slot_set (f.slot sl) x) s
  | keys hi =>
    rename_i j
    have p := pe_lc (pos := pos) g.calm g.nd hi ok hg hc he hs
    rw [own_snd] at p
    refine ⟨_, pe_lock p, fun σV H Q h => ?_, fun {i y py spos} e1 e2 e3 => ?_⟩
    · have h2 : liftE X.K (lockW j fun σ S R => keysJ j σ S fun xs ok S1 => ∀ p, S1 p = none → lcL p ok (lcStep own tg tc te σ) xs [] (S1.upd p (.lst [])) fun S2 => R (.loc p) S2) σV H Q := by
        obtain ⟨σ, S, R, sl, sr, ⟨a, kvs, q1, q2, q3⟩, k⟩ := h
        exact ⟨σ, S, R, sl, sr, ⟨a, kvs, q1, q2, a, kvs, q1, Store.upd_same, q3⟩, k⟩
      obtain ⟨d, u, q1, q2, q3⟩ := lockE_imp h2
      exact ⟨d, u, q1, q2, fun od => lc_imp ho (q3 od)⟩
    · have p2 := ps_lock (ps_setLc g.calm g.nd e1 e2 e3 hi ok hg hc he hs)
      rw [own_snd] at p2
      refine ⟨_, p2, fun σV H N ⟨Z, σ, S, sl, sr, h, k⟩ => ?_⟩
      have h2 : liftS X.K (lockS j fun Z σ S => keysJ j σ S fun xs ok S1 => ∀ p, S1 p = none → lcL p ok (lcStep own tg tc te σ) xs [] (S1.upd p (.lst [])) fun S2 => ∃ σ1, bindT (.one i) (.loc p) σ = some σ1 ∧ Z.nx σ1 S2) N σV H := by
        obtain ⟨a, kvs, q1, q2, q3⟩ := h
        exact ⟨Z, σ, S, sl, sr, ⟨a, kvs, q1, q2, a, kvs, q1, Store.upd_same, q3⟩, k⟩
      obtain ⟨d, u, q1, q2, q3⟩ := lockS_imp h2
      refine ⟨d, u, q1, q2, fun od => ?_⟩
      obtain ⟨Z', σ', S', sl', sr', h', k'⟩ := q3 od
      refine lc_imp ho ⟨σ', S', fun d S2 => ∃ σ1, bindT (.one i) d σ' = some σ1 ∧ Z'.nx σ1 S2, sl', sr', h', ⟨fun d S2 v H2 ⟨σ1, e4, r⟩ f x s => ?_⟩⟩
      cases e4
      exact k'.nx _ S2 _ H2 r f (slot_set (f.slot sl') x) s
end
end Y

namespace Y
open PySem PySem.Spec L2
/-- name = {..: .. for ..} on one line, the name a local -/
theorem ps_setDc {X : Cx} {i : Nat} {y : Str} {py : Pos} {kx vx tg iter : Expr} {ifs : List Expr} {scope : Scope} {own : List (Str × Nat)} {pos spos : Pos} {wi : TI} {g : TG} {tt : TT} {tk tv : TE} (hc : X.calm = true) (hN : X.N.Nodup) (hy : X.N[i]? = some y)
    (hyl : X.env.scope.names.lookup y = some .local) (hsw : swapsWith (.DictComp kx vx [⟨tg, iter, ifs, 0⟩] scope pos) (some (.Name y py)) spos.line X.env = pure true)
    (hi : PI X tg iter wi) (ok : BlkOk X.N X.env.scope scope own)
    (hg : ∀ (s : Shared) (H : Hp) (A : Addr) (cl : List (Str × Addr)) (fp : List Addr), PG (X.blk s H scope (compEnvC scope cl A X.env) fp) tg g)
    (ht : ∀ (s : Shared) (H : Hp) (A : Addr) (cl : List (Str × Addr)) (fp : List Addr), PTs (X.blk s H scope (compEnvC scope cl A X.env) fp) ifs tt)
    (hk : ∀ (s : Shared) (H : Hp) (A : Addr) (cl : List (Str × Addr)) (fp : List Addr), PE (X.blk s H scope (compEnvC scope cl A X.env) fp) kx tk)
    (hv : ∀ (s : Shared) (H : Hp) (A : Addr) (cl : List (Str × Addr)) (fp : List Addr), PE (X.blk s H scope (compEnvC scope cl A X.env) fp) vx tv)
    (hs : ∀ x, foldedSetIterable iter X.env x = pure x) :
    PS X (.Assign [.Name y py] (.DictComp kx vx [⟨tg, iter, ifs, 0⟩] scope pos) spos) (tAsg (tDc wi g tt tk tv (own.map (·.2))) (gName i)) := by
  refine ⟨fun pins s σ H N I hw => ?_⟩
  rw [exec_Assign_Name_used _ _ _ _ hsw]
  refine wpAny_bind (wpAny_standAt (wpAny_bind ?_))
  show wpAny _ X.A (do let _ ← comprehension (.DictComp kx vx [⟨tg, iter, ifs, 0⟩] scope pos) scope X.env (firstIterPos [⟨tg, iter, ifs, 0⟩] pos) newDict false (eval iter X.env) (some (assign (.Name y py) X.env))) _ _ s
  have hw : tDc wi g tt tk tv (own.map (·.2)) σ H (fun x H1 => gName i x σ H1 N.nx) := hw
  refine wpAny_bind (thn (dc_core (Qf := fun _ s2 => SP X pins N .next s2) hc hN I hi ok hg ht hk hv hs hw fun L b s2 m H2 I2 q ns fo => ?_) fun _ s2 z => wpAny_pure (wpAny_pure z))
  show wpAny _ _ (assign (.Name y py) X.env (.ref L)) _ _ _
  refine wpAny_assign_Name (store_ok2 (v := V.ref L) I2 hN hy (.inl hyl) rfl (fun s3 I3 ⟨c, same, hc2⟩ => ?_) (.inr hyl))
  obtain ⟨g0, g1, g2, g3, g4, g5⟩ := fo
  have ne : b ≠ c := by
    rcases hc2 with z | z
    · rw [z]; exact g1
    · exact fun e => g4 y c z e.symm
  exact ⟨m, ns.sameBut same ne, fun h4 same4 => ⟨_, H2, I3.turned (t' := s3.toks) (fun a o ha e => (same4.2 a ha).trans e) g0 g1 g3 g4 g5, q⟩⟩
section
variable {Γ : G} {C : Ck}
theorem dc_pe {X : Cx} {sc : Scope} (g : Good Γ C X sc) {own : List Nat} {tg : Tg} {src : Src} {tc : Option DTE} {tk tv : DTE} {kx vx t it : Expr} {ifs : List Expr} {scope : Scope} {pos : Pos} (h1 : blkC C.N sc scope (ownN C.N own) = true) (h2 : (tgIs tg).all (fun i => own.contains i) = true) (h3 : tgC C.N scope tg t = true) (hns : noSet it = true) (hi : OkI Γ X t it src)
    (hc : ∀ (s : Shared) (H : Hp) (A : Addr) (cl : List (Str × Addr)) (fp : List Addr), PTs (X.blk s H scope (compEnvC scope cl A X.env) fp) ifs (condT X.K tc)) (hk : ∀ (s : Shared) (H : Hp) (A : Addr) (cl : List (Str × Addr)) (fp : List Addr), PE (X.blk s H scope (compEnvC scope cl A X.env) fp) kx (liftE X.K tk))
    (he : ∀ (s : Shared) (H : Hp) (A : Addr) (cl : List (Str × Addr)) (fp : List Addr), PE (X.blk s H scope (compEnvC scope cl A X.env) fp) vx (liftE X.K tv)) :
    ∃ tt : TE, PE X (.DictComp kx vx [⟨t, it, ifs, 0⟩] scope pos) tt ∧ (∀ (σV : St) (H : Hp) (Q : VK), liftE X.K (fun σ S R => wpi Γ src σ S fun xs ok S1 back => ∀ p, S1 p = none → dcL p ok (dcStep own tg tc tk tv σ) xs [] (S1.upd p (.dct [])) fun S2 => R (.loc p) (back S2)) σV H Q → tt σV H Q) ∧
      ∀ {i : Nat} {y : Str} {py spos : Pos}, X.N[i]? = some y → X.env.scope.names.lookup y = some .local → swapsWith (.DictComp kx vx [⟨t, it, ifs, 0⟩] scope pos) (some (.Name y py)) spos.line X.env = pure true →
        ∃ t2, PS X (.Assign [.Name y py] (.DictComp kx vx [⟨t, it, ifs, 0⟩] scope pos) spos) t2 ∧ ∀ (σV : St) (H : Hp) (N : L2.Ends), liftS X.K (fun Z σ S => wpi Γ src σ S fun xs ok S1 back => ∀ p, S1 p = none → dcL p ok (dcStep own tg tc tk tv σ) xs [] (S1.upd p (.dct [])) fun S2 => ∃ σ1, bindT (.one i) (.loc p) σ = some σ1 ∧ Z.nx σ1 (back S2)) N σV H → t2 N σV H := by
  have ok : BlkOk X.N X.env.scope scope (ownN C.N own) := by rw [g.n, g.scp]; exact blkOk_by h1
  have ho : ∀ i ∈ tgIs tg, i ∈ own := fun i hi => by
    have := List.all_eq_true.mp h2 i hi
    simpa using this
  have hg := fun s H A cl fp => tg_blk g h3 s H A cl fp
  have hs : ∀ x, foldedSetIterable it X.env x = pure x := folded_of hns
  cases hi with
  | plain hi e =>
    rename_i tj
    have p := pe_dc (pos := pos) g.calm g.nd hi ok hg hc hk he hs
    rw [own_snd] at p
    refine ⟨_, p, fun σV H Q h => dc_imp ho ?_, fun {i y py spos} e1 e2 e3 => ?_⟩
    · obtain ⟨σ, S, R, sl, sr, h, k⟩ := h
      have h := Eq.mp (e σ S _) h
      exact ⟨σ, S, R, sl, sr, h, k⟩
    · have p2 := ps_setDc g.calm g.nd e1 e2 e3 hi ok hg hc hk he hs
      rw [own_snd] at p2
      refine ⟨_, p2, fun σV H N ⟨Z, σ, S, sl, sr, h, k⟩ => dc_imp ho ?_⟩
      have h := Eq.mp (e σ S _) h
      refine ⟨σ, S, fun d S2 => ∃ σ1, bindT (.one i) d σ = some σ1 ∧ Z.nx σ1 S2, sl, sr, h, ⟨fun d S' v H' ⟨σ1, e4, r⟩ f x s => ?_⟩⟩
      cases e4
      exact k.nx _ S' _ H' r f (slot_set (f.slot sl) x) s
  | keys hi =>
    rename_i j
    have p := pe_dc (pos := pos) g.calm g.nd hi ok hg hc hk he hs
    rw [own_snd] at p
    refine ⟨_, pe_lock p, fun σV H Q h => ?_, fun {i y py spos} e1 e2 e3 => ?_⟩
    · have h2 : liftE X.K (lockW j fun σ S R => keysJ j σ S fun xs ok S1 => ∀ p, S1 p = none → dcL p ok (dcStep own tg tc tk tv σ) xs [] (S1.upd p (.dct [])) fun S2 => R (.loc p) S2) σV H Q := by
        obtain ⟨σ, S, R, sl, sr, ⟨a, kvs, q1, q2, q3⟩, k⟩ := h
        exact ⟨σ, S, R, sl, sr, ⟨a, kvs, q1, q2, a, kvs, q1, Store.upd_same, q3⟩, k⟩
      obtain ⟨d, u, q1, q2, q3⟩ := lockE_imp h2
      exact ⟨d, u, q1, q2, fun od => dc_imp ho (q3 od)⟩
    · have p2 := ps_lock (ps_setDc g.calm g.nd e1 e2 e3 hi ok hg hc hk he hs)
      rw [own_snd] at p2
      refine ⟨_, p2, fun σV H N ⟨Z, σ, S, sl, sr, h, k⟩ => ?_⟩
      have h2 : liftS X.K (lockS j fun Z σ S => keysJ j σ S fun xs ok S1 => ∀ p, S1 p = none → dcL p ok (dcStep own tg tc tk tv σ) xs [] (S1.upd p (.dct [])) fun S2 => ∃ σ1, bindT (.one i) (.loc p) σ = some σ1 ∧ Z.nx σ1 S2) N σV H := by
        obtain ⟨a, kvs, q1, q2, q3⟩ := h
        exact ⟨Z, σ, S, sl, sr, ⟨a, kvs, q1, q2, a, kvs, q1, Store.upd_same, q3⟩, k⟩
      obtain ⟨d, u, q1, q2, q3⟩ := lockS_imp h2
      refine ⟨d, u, q1, q2, fun od => ?_⟩
      obtain ⟨Z', σ', S', sl', sr', h', k'⟩ := q3 od
      refine dc_imp ho ⟨σ', S', fun d S2 => ∃ σ1, bindT (.one i) d σ' = some σ1 ∧ Z'.nx σ1 S2, sl', sr', h', ⟨fun d S2 v H2 ⟨σ1, e4, r⟩ f x s => ?_⟩⟩
      cases e4
      exact k'.nx _ S2 _ H2 r f (slot_set (f.slot sl') x) s
end
end Y

namespace Y
open PySem PySem.Spec L2
section
variable {Γ : G} {C : Ck}
def cOf (Γ : G) : Option E → Option DTE
  | none => none
  | some e => some (wp Γ e)
theorem mt_rule {X : Cx} (hu : X.A.units + 200 < cLine) {m : Mt} {n : String} (h : mtN m = some n) : ∃ T id p, TyOk X T (recvTy X.K p) ∧ PlainAttrs T ∧ Slot T (Str.ofString n) id ∧ typeOf (.builtin id) = pure (.type "method_descriptor") ∧ MtR X id (liftM X.K (mtW m)) ∧ ∀ x S, recvOk m x S = recvW x S fun o _ => p o = true := by
  cases m <;> cases h
  · exact ⟨"list", "list.append", isLst, ty_lst, F.plainAttrs_list, F.slot_list_append, F.type_list_append, m_append, fun _ _ => rfl⟩
  · exact ⟨"list", "list.extend", isLst, ty_lst, F.plainAttrs_list, F.slot_list_extend, F.type_list_extend, m_extend, fun _ _ => rfl⟩
  · exact ⟨"list", "list.pop", isLst, ty_lst, F.plainAttrs_list, F.slot_list_pop, F.type_list_pop, m_pop, fun _ _ => rfl⟩
  · exact ⟨"dict", "dict.get", isDct, ty_dct, F.plainAttrs_dict, F.slot_dict_get, F.type_dict_get, m_get hu, fun _ _ => rfl⟩
  · exact ⟨"dict", "dict.setdefault", isDct, ty_dct, F.plainAttrs_dict, F.slot_dict_setdefault, F.type_dict_setdefault, m_setd, fun _ _ => rfl⟩
  · exact ⟨"dict", "dict.update", isDct, ty_dct, F.plainAttrs_dict, F.slot_dict_update, F.type_dict_update, m_update, fun _ _ => rfl⟩
theorem call_ok {X : Cx} {sc : Scope} (g : Good Γ C X sc) {f : Bi} {n id : String} {t : Bool} {x : Str} {p pos : Pos} {a : Expr} {as : List Expr} {w : DSt → Store → (List D → Store → Prop) → Prop} (h : biN f = some (n, t, id)) (hx : x = Str.ofString n) (hg : glC sc x = true) (ha : OkA X (a :: as) w) :
    PE X (.Call (.Name x p) (a :: as) [] pos) (liftE X.K fun σ S R => w σ S fun ds S1 => biW f ds S1 R) := by
  subst hx
  obtain ⟨g1, g2, g3⟩ := gl_of g hg
  obtain ⟨b1, b2⟩ := bi_boot h
  have hns := ha.ns
  simp only [noStars, List.all_cons, Bool.and_eq_true] at hns
  have r := bi_rule g.calm h
  cases t with
  | true => exact y_callTy r g1 (g.bt b1) b2 ha.pa g2 g3 (star_of hns.1) (stars_any hns.2)
  | false => exact y_callB r g1 (g.bt b1) b2 ha.pa g2 g3 (star_of hns.1) (stars_any hns.2)
mutual
theorem okE : ∀ (e : E) (sc : Scope) (x : Expr) {X : Cx}, Good Γ C X sc → ckE C e sc x = true → OkE X x (wp Γ e)
  | .var i, sc, x, X, g, h => by
    unfold ckE at h
    try dsimp only at h
    obtain ⟨y, p, rfl, h1, h2, h3, h4⟩ := var_of g h
    exact .of (y_var h1 h2 h3 h4)
  | .non, sc, x, X, g, h => by
    unfold ckE at h
    try dsimp only at h
    split at h
    · exact .of (y_const pe_non fun _ => .non)
    · cases h
  | .bl b, sc, x, X, g, h => by
    unfold ckE at h
    try dsimp only at h
    split at h
    · rw [beq_iff_eq] at h
      subst h
      exact .of (y_const pe_bl fun _ => .bl _)
    · cases h
  | .int i, sc, x, X, g, h => by
    unfold ckE at h
    try dsimp only at h
    split at h
    · rw [beq_iff_eq] at h
      subst h
      exact .of (y_const pe_int fun _ => .int _)
    · cases h
  | .str s, sc, x, X, g, h => by
    unfold ckE at h
    try dsimp only at h
    split at h
    · have h := of_decide_eq_true h
      subst h
      exact .of (y_const pe_str fun _ => .str _)
    · cases h
  | .gv y, sc, x, X, g, h => by
    unfold ckE at h
    try dsimp only at h
    split at h
    · simp only [Bool.and_eq_true, decide_eq_true_eq] at h
      obtain ⟨⟨h1, h2⟩, h3⟩ := h
      subst h1
      obtain ⟨g1, g2, g3⟩ := gl_of g h2
      obtain ⟨k, m, _⟩ := g.mod
      obtain ⟨_, d, v, u, q1, q2, q3, q4⟩ := m.gv y (by simpa using h3)
      refine .of ((y_const (pe_glob g1 q2 q3 g3) q4).imp fun σV H Q ⟨σ, S, R, sl, sr, h, k⟩ => ⟨σ, S, R, sl, sr, ?_, k⟩)
      obtain ⟨d2, e, r⟩ := h
      rw [q1] at e
      cases e
      exact r
    · cases h
  | .tup es, sc, x, X, g, h => by
    unfold ckE at h
    try dsimp only at h
    split at h
    · exact .of (y_tup (okEs es sc _ g h).pa)
    · cases h
  | .lst es, sc, x, X, g, h => by
    unfold ckE at h
    try dsimp only at h
    split at h
    · exact .of (y_lst (okEs es sc _ g h).pa)
    · cases h
  | .op o a b, sc, x, X, g, h => by
    unfold ckE at h
    try dsimp only at h
    split at h
    · simp only [Bool.and_eq_true, decide_eq_true_eq] at h
      obtain ⟨⟨h1, h2⟩, h3⟩ := h
      subst h1
      exact .of (y_op (l_op o) (okE a sc _ g h2).pe (okE b sc _ g h3).pe)
    · cases h
  | .neg a, sc, x, X, g, h => by
    unfold ckE at h
    try dsimp only at h
    split at h
    · exact .of (y_neg (okE a sc _ g h).pe)
    · cases h
  | .cmp o a b, sc, x, X, g, h => by
    unfold ckE at h
    try dsimp only at h
    split at h
    · simp only [Bool.and_eq_true, decide_eq_true_eq, Bool.not_eq_true'] at h
      obtain ⟨⟨⟨h1, h2⟩, h3⟩, h4⟩ := h
      subst h1
      exact ⟨y_cmp (cmp_rule g.hu o) (okE a sc _ g h2).pe (okE b sc _ g h3).pe h4, y_cmpT (cmp_rule g.hu o) (okE a sc _ g h2).pe (okE b sc _ g h3).pe h4⟩
    · cases h
  | .cmp2 o p a b c, sc, x, X, g, h => by
    unfold ckE at h
    try dsimp only at h
    split at h
    · simp only [Bool.and_eq_true, decide_eq_true_eq, Bool.not_eq_true'] at h
      obtain ⟨⟨⟨⟨⟨h1, h0⟩, h2⟩, h3⟩, h4⟩, h5⟩ := h
      subst h1 h0
      exact ⟨y_chain (cmp_rule g.hu o) (cmp_rule g.hu p) (okE a sc _ g h2).pe (okE b sc _ g h3).pe (okE c sc _ g h4).pe h5, y_chainT (cmp_rule g.hu o) (cmp_rule g.hu p) (okE a sc _ g h2).pe (okE b sc _ g h3).pe (okE c sc _ g h4).pe h5⟩
    · cases h
  | .bop k es, sc, x, X, g, h => by
    unfold ckE at h
    try dsimp only at h
    split at h
    · simp only [Bool.and_eq_true, decide_eq_true_eq, Bool.not_eq_true'] at h
      obtain ⟨⟨h1, h2⟩, h3⟩ := h
      subst h1
      have b := okB es sc _ k g (by rintro rfl; cases h2) h3
      exact ⟨b.pe _, (b.pw _).pt⟩
    · cases h
  | .not a, sc, x, X, g, h => by
    unfold ckE at h
    try dsimp only at h
    split at h
    · exact ⟨y_not (okE a sc _ g h).pe, y_notT (okE a sc _ g h).pt⟩
    · cases h
  | .ite c a b, sc, x, X, g, h => by
    unfold ckE at h
    try dsimp only at h
    split at h
    · simp only [Bool.and_eq_true] at h
      obtain ⟨⟨h1, h2⟩, h3⟩ := h
      exact ⟨y_ite (okE c sc _ g h1).pt (okE a sc _ g h2).pe (okE b sc _ g h3).pe, y_iteT (okE c sc _ g h1).pt (okE a sc _ g h2).pt (okE b sc _ g h3).pt⟩
    · cases h
  | .sub a i, sc, x, X, g, h => by
    unfold ckE at h
    try dsimp only at h
    split at h
    · simp only [Bool.and_eq_true] at h
      obtain ⟨⟨h1, h2⟩, h3⟩ := h
      have hi := (okE i sc _ g h2).pe
      have gen : ∀ {ta : DTE} {a' pos}, PE X a' (liftE X.K ta) → PE X (.Subscript a' _ pos) (liftE X.K fun σ S R => ta σ S fun x S1 => wp Γ i σ S1 fun y S2 => subW x y S2 R) := fun ha => y_sub g.hu ha hi (plain_of h1)
      cases a with
      | gv y =>
        simp only at h3
        split at h3
        · simp only [Bool.and_eq_true, decide_eq_true_eq] at h3
          obtain ⟨⟨h3, h4⟩, h5⟩ := h3
          subst h3
          obtain ⟨g1, g2, g3⟩ := gl_of g h4
          obtain ⟨k, m, _⟩ := g.mod
          by_cases hd : C.ds.contains y = true
          · obtain ⟨kvs, e1, W⟩ := m.gd y (by simpa using hd)
            refine .of ((y_gd W rfl g1 g3 hi (plain_of h1)).imp fun σV H Q ⟨σ, S, R, sl, sr, h, k⟩ => ⟨σ, S, R, sl, sr, ?_, k⟩)
            have h : (match Γ.gd y with
              | some kvs => wp Γ i σ S fun k S1 => ∃ s v, k = .str s ∧ kvs.lookup s = some v ∧ R v S1
              | none => ∃ d, Γ.gv y = some d ∧ wp Γ i σ S fun k S1 => subW d k S1 R) := h
            rw [e1] at h
            exact h
          · rw [Bool.or_eq_true] at h5
            have hg : C.gs.contains y = true := h5.resolve_left hd
            obtain ⟨q0, d, v, u, q1, q2, q3, q4⟩ := m.gv y (by simpa using hg)
            refine .of ((gen (y_const (pe_glob g1 q2 q3 g3) q4)).imp fun σV H Q ⟨σ, S, R, sl, sr, h, k⟩ => ⟨σ, S, R, sl, sr, ?_, k⟩)
            have h : (match Γ.gd y with
              | some kvs => wp Γ i σ S fun k S1 => ∃ s v, k = .str s ∧ kvs.lookup s = some v ∧ R v S1
              | none => ∃ d, Γ.gv y = some d ∧ wp Γ i σ S fun k S1 => subW d k S1 R) := h
            rw [q0] at h
            obtain ⟨d2, e, r⟩ := h
            rw [q1] at e
            cases e
            exact r
        · cases h3
      | _ => exact .of (gen (okE _ sc _ g h3).pe)
    · cases h
  | .slc a lo hi, sc, x, X, g, h => by
    unfold ckE at h
    try dsimp only at h
    split at h
    · simp only [Bool.and_eq_true] at h
      obtain ⟨⟨h1, h2⟩, h3⟩ := h
      exact .of (y_slc (okE a sc _ g h1).pe (okO lo sc _ g h2) (okO hi sc _ g h3))
    · cases h
  | .rev a, sc, x, X, g, h => by
    unfold ckE at h
    try dsimp only at h
    split at h
    · simp only [Bool.and_eq_true, decide_eq_true_eq] at h
      obtain ⟨h1, h2⟩ := h
      subst h1
      exact .of (y_rev (okE a sc _ g h2).pe)
    · cases h
  | .isi a t, sc, x, X, g, h => by
    unfold ckE at h
    try dsimp only at h
    split at h
    · simp only [Bool.and_eq_true, decide_eq_true_eq] at h
      obtain ⟨⟨⟨⟨⟨h1, h2⟩, h3⟩, h4⟩, h5⟩, h6⟩ := h
      subst h3
      have e1 := (gl_of g h2).1
      rw [h1] at e1
      have hb : tyN t ∈ bnames := by cases t <;> decide
      exact .of (y_isi h1 e1 (g.bt (x := "isinstance") (by decide)) (gl_of g h4).1 (g.bt hb) (okE a sc _ g h5).pe (star_of h6))
    · cases h
  | .call f es, sc, x, X, g, h => by
    unfold ckE at h
    try dsimp only at h
    split at h
    · simp only [Bool.and_eq_true, decide_eq_true_eq] at h
      obtain ⟨⟨⟨h1, h2⟩, h3⟩, h4⟩ := h
      have a := okEs es sc _ g h4
      have hns := a.ns
      simp only [noStars, List.all_cons, Bool.and_eq_true] at hns
      obtain ⟨g1, g2, g3⟩ := gl_of g h2
      exact .of (y_call (cal_of g h3) h1 g1 a.pa g3 (star_of hns.1) (stars_any hns.2))
    · cases h
  | .bi f es, sc, x, X, g, h => by
    unfold ckE at h
    try dsimp only at h
    split at h
    · split at h
      · simp only [Bool.and_eq_true, decide_eq_true_eq] at h
        obtain ⟨⟨⟨⟨h1, h2⟩, h3⟩, h4⟩, h5⟩ := h
        subst h1 h3
        cases es with
        | nil => unfold ckEs at h5; cases h5
        | cons e r =>
          unfold ckEs at h5
          simp only [Bool.and_eq_true] at h5
          obtain ⟨⟨h5, h6⟩, h7⟩ := h5
          cases r with
          | nil => exact .of (y_lrg g.calm (gl_of g h2).1 (g.bt (x := "list") (by decide)) (gl_of g h4).1 (g.bt (x := "range") (by decide)) (okE e sc _ g h6).pe (star_of h5))
          | cons _ _ => unfold ckEs at h7; cases h7
      · cases h
    · split at h
      · simp only [Bool.and_eq_true, decide_eq_true_eq] at h
        obtain ⟨⟨⟨⟨h1, h2⟩, h3⟩, h4⟩, h5⟩ := h
        subst h1 h3
        cases es with
        | nil => unfold ckEs at h5; cases h5
        | cons e r =>
          unfold ckEs at h5
          simp only [Bool.and_eq_true] at h5
          obtain ⟨⟨h5, h6⟩, h7⟩ := h5
          cases r with
          | nil => exact .of (y_trg g.calm (gl_of g h2).1 (g.bt (x := "tuple") (by decide)) (gl_of g h4).1 (g.bt (x := "range") (by decide)) (okE e sc _ g h6).pe (star_of h5))
          | cons _ _ => unfold ckEs at h7; cases h7
      · cases h
    · split at h
      · simp only [Bool.and_eq_true, decide_eq_true_eq] at h
        obtain ⟨⟨⟨⟨⟨h1, h2⟩, h3⟩, h4⟩, h5⟩, h6⟩ := h
        subst h1 h3
        cases es with
        | nil => unfold ckEs at h6; cases h6
        | cons e r =>
          unfold ckEs at h6
          simp only [Bool.and_eq_true] at h6
          obtain ⟨⟨h7, h8⟩, h9⟩ := h6
          cases r with
          | nil => exact .of (y_listVals g.calm (gl_of g h2).1 (g.bt (x := "list") (by decide)) (okE e sc _ g h8).pe (call0_of h5) h4)
          | cons _ _ => unfold ckEs at h9; cases h9
      · cases h
    · split at h
      · simp only [Bool.and_eq_true, decide_eq_true_eq] at h
        obtain ⟨⟨⟨⟨h1, h2⟩, h3⟩, h4⟩, h5⟩ := h
        subst h1 h3
        cases es with
        | nil => unfold ckEs at h5; cases h5
        | cons e r =>
          unfold ckEs at h5
          simp only [Bool.and_eq_true] at h5
          obtain ⟨⟨h5, h6⟩, h7⟩ := h5
          cases r with
          | nil => exact .of (y_sortset g.calm (gl_of g h2).1 (g.bt (x := "sorted") (by decide)) (gl_of g h4).1 (g.bt (x := "set") (by decide)) (okE e sc _ g h6).pe (star_of h5))
          | cons _ _ => unfold ckEs at h7; cases h7
      · cases h
    · split at h
      · simp only [Bool.and_eq_true, decide_eq_true_eq] at h
        obtain ⟨⟨⟨h1, h2⟩, h3⟩, h4⟩ := h
        subst h1
        have ha := okEs es sc _ g h4
        obtain ⟨g1, g2, g3⟩ := gl_of g h2
        have hns := ha.ns
        simp only [noStars, List.all_cons, Bool.and_eq_true] at hns
        exact .of (y_callB (b_repr g.hu (g.rg h3)) g1 (g.bt (x := "repr") (by decide)) (by decide +kernel) ha.pa g2 g3 (star_of hns.1) (stars_any hns.2))
      · cases h
    · split at h
      · cases h
      · rename_i hb
        split at h
        · simp only [Bool.and_eq_true, decide_eq_true_eq] at h
          obtain ⟨⟨h1, h2⟩, h3⟩ := h
          exact .of (call_ok g hb h1 h2 (okEs es sc _ g h3))
        · cases h
  | .mt m o es, sc, x, X, g, h => by
    unfold ckE at h
    try dsimp only at h
    split at h
    · cases h
    · rename_i n hm
      split at h
      · simp only [Bool.and_eq_true, decide_eq_true_eq] at h
        obtain ⟨⟨⟨⟨⟨h1, h2⟩, h3⟩, h4⟩, h5⟩, h6⟩ := h
        subst h1
        obtain ⟨T, id, p, r1, r2, r3, r4, r5, r6⟩ := mt_rule g.hu hm
        have a := okEs es sc _ g h5
        have ho := (okE o sc _ g h4).pe
        rename_i o' m' apos as cpos
        have conv : ∀ {σV : St} {H : Hp} {Q : VK}, liftE X.K (wp Γ (.mt m o es)) σV H Q → liftE X.K (fun σ S R => wp Γ o σ S fun x S1 => recvW x S1 (fun o _ => p o = true) ∧ wps Γ es σ S1 fun ds S2 => mtW m x ds S2 R) σV H Q := by
          intro σV H Q ⟨σ, S, R, sl, sr, h, k⟩
          refine ⟨σ, S, R, sl, sr, ?_, k⟩
          have h : wp Γ o σ S fun x S1 => recvOk m x S1 ∧ wps Γ es σ S1 fun ds S2 => mtW m x ds S2 R := h
          simp only [r6] at h
          exact h
        cases as with
        | nil =>
          cases es with
          | nil => exact .of ((y_mt0 r1 r2 r3 r4 r5 ho (call0_of h3) h2).imp fun σV H Q h => conv h)
          | cons _ _ => unfold ckEs at h5; cases h5
        | cons b bs =>
          have hns := a.ns
          simp only [noStars, List.all_cons, Bool.and_eq_true] at hns
          exact .of ((y_mt r1 r2 r3 r4 r5 ho a.pa (call0_of h3) (stars_few a.ns h6) h2 (star_of hns.1) (stars_any hns.2)).imp fun σV H Q h => conv h)
      · cases h
  | .lc own tg src c e, sc, x, X, g, h => by
    unfold ckE at h
    try dsimp only at h
    split at h
    · simp only [Bool.and_eq_true] at h
      rename_i elt t it ifs scope pos
      obtain ⟨⟨⟨⟨⟨h1, h2⟩, h3⟩, h4⟩, h5⟩, h6⟩ := h
      have ok : BlkOk X.N X.env.scope scope (ownN C.N own) := by rw [g.n, g.scp]; exact blkOk_by h1
      obtain ⟨hi, hns⟩ := okI src sc _ g h4 
      obtain ⟨tt, p, q, _⟩ := lc_pe (Γ := Γ) g h1 h2 h3 hns (hi _) (fun s H A cl fp => okC c _ _ (g.blk ok s H A cl fp) h5) (fun s H A cl fp => (okE e _ _ (g.blk ok s H A cl fp) h6).pe)
      exact .of (p.imp fun σV H Q h => q σV H Q (by cases c <;> exact h))
    · cases h
  | .dc own tg src c e v, sc, x, X, g, h => by
    unfold ckE at h
    try dsimp only at h
    split at h
    · simp only [Bool.and_eq_true] at h
      rename_i kx vx t it ifs scope pos
      obtain ⟨⟨⟨⟨⟨⟨h1, h2⟩, h3⟩, h4⟩, h5⟩, h6⟩, h7⟩ := h
      have ok : BlkOk X.N X.env.scope scope (ownN C.N own) := by rw [g.n, g.scp]; exact blkOk_by h1
      obtain ⟨hi, hns⟩ := okI src sc _ g h4
      obtain ⟨tt, p, q, _⟩ := dc_pe (Γ := Γ) g h1 h2 h3 hns (hi _) (fun s H A cl fp => okC c _ _ (g.blk ok s H A cl fp) h5) (fun s H A cl fp => (okE e _ _ (g.blk ok s H A cl fp) h6).pe) (fun s H A cl fp => (okE v _ _ (g.blk ok s H A cl fp) h7).pe)
      exact .of (p.imp fun σV H Q h => q σV H Q (by cases c <;> exact h))
    · cases h
  | .dsp es, sc, x, X, g, h => by
    unfold ckE at h
    try dsimp only at h
    split at h
    · simp only [Bool.and_eq_true, decide_eq_true_eq] at h
      rename_i ks vs pos
      obtain ⟨r1, r2, r3⟩ := okD es sc ks vs pos g h.2
      cases ks with
      | nil =>
        cases vs with
        | nil =>
          cases es with
          | nil => exact .of y_dsp0
          | cons _ _ =>
            have h2 := h.2
            unfold ckD at h2
            cases h2
        | cons _ _ => cases r2
      | cons _ _ => exact .of (y_dsp r1 r3 r2 (by simp) h.1)
    · cases h
theorem okEs : ∀ (es : List E) (sc : Scope) (xs : List Expr) {X : Cx}, Good Γ C X sc → ckEs C es sc xs = true → OkA X xs (wps Γ es)
  | [], sc, xs, X, g, h => by
    unfold ckEs at h
    try dsimp only at h
    cases xs with
    | nil => exact ⟨y_nil, rfl⟩
    | cons _ _ => cases h
  | e :: es, sc, xs, X, g, h => by
    unfold ckEs at h
    try dsimp only at h
    split at h
    · simp only [Bool.and_eq_true] at h
      obtain ⟨⟨h1, h2⟩, h3⟩ := h
      have a := okEs es sc _ g h3
      refine ⟨y_cons (okE e sc _ g h2).pe a.pa (star_of h1), ?_⟩
      show (noStar _ && noStars _) = true
      rw [h1, a.ns]
      rfl
    · cases h
theorem okB : ∀ (es : List E) (sc : Scope) (xs : List Expr) (k : Bool) {X : Cx}, Good Γ C X sc → es ≠ [] → ckB C es sc xs = true → OkB X k xs (wpa Γ k es)
  | [], sc, xs, k, X, g, h0, h => absurd rfl h0
  | [e], sc, xs, k, X, g, h0, h => by
    unfold ckB at h
    try dsimp only at h
    split at h
    · simp only [Bool.and_eq_true] at h
      obtain ⟨h1, h2⟩ := h
      rename_i a as
      rw [ckB] at h2
      cases as with
      | nil => exact ⟨fun _ => y_bop1 (okE e sc _ g h1).pe, fun _ => y_bop1T (okE e sc _ g h1).pt⟩
      | cons _ _ => cases h2
    · cases h
  | e :: e2 :: r, sc, xs, k, X, g, h0, h => by
    unfold ckB at h
    try dsimp only at h
    split at h
    · simp only [Bool.and_eq_true] at h
      obtain ⟨h1, h2⟩ := h
      rename_i a as
      cases as with
      | nil => rw [ckB] at h2; cases h2
      | cons b bs =>
        have ih := okB (e2 :: r) sc (b :: bs) k g (by simp) h2
        exact ⟨fun pos => y_bop (okE e sc _ g h1).pe (ih.pe pos), fun pos => y_bopT (okE e sc _ g h1).pt (ih.pw pos)⟩
    · cases h
theorem okD : ∀ (es : List E) (sc : Scope) (ks : List (Option Expr)) (vs : List Expr) (pos : Pos) {X : Cx}, Good Γ C X sc → ckD C es sc ks vs = true → PrOk X pos ks vs (wps Γ es) ∧ ks.length = vs.length ∧ ks.all (·.isSome) = true
  | [], sc, ks, vs, pos, X, g, h => by
    unfold ckD at h
    try dsimp only at h
    simp only [Bool.and_eq_true] at h
    cases ks with
    | nil =>
      cases vs with
      | nil => exact ⟨.nil, rfl, rfl⟩
      | cons _ _ => cases h.2
    | cons _ _ => cases h.1
  | k :: es, sc, ks, vs, pos, X, g, h => by
    unfold ckD at h
    try dsimp only at h
    split at h
    · split at h
      · simp only [Bool.and_eq_true] at h
        obtain ⟨h1, h2⟩ := h
        obtain ⟨r1, r2, r3⟩ := okD' es sc _ _ _ _ (wp Γ k) pos g (okE k sc _ g h1).pe h2
        exact ⟨r1, r2, r3⟩
      · cases h
    · cases h
theorem okD' : ∀ (es : List E) (sc : Scope) (k : Expr) (ks : List (Option Expr)) (v : Expr) (vs : List Expr) (tk : DTE) (pos : Pos) {X : Cx}, Good Γ C X sc → PE X k (liftE X.K tk) → ckD' C es sc ks v vs = true → PrOk X pos (some k :: ks) (v :: vs) (consW tk (wps Γ es)) ∧ (some k :: ks).length = (v :: vs).length ∧ (some k :: ks).all (·.isSome) = true
  | [], sc, k, ks, v, vs, tk, pos, X, g, hk, h => by rw [ckD'] at h; cases h
  | e :: es, sc, k, ks, v, vs, tk, pos, X, g, hk, h => by
    unfold ckD' at h
    try dsimp only at h
    simp only [Bool.and_eq_true] at h
    obtain ⟨h1, h2⟩ := h
    obtain ⟨r1, r2, r3⟩ := okD es sc ks vs pos g h2
    refine ⟨.cons hk (okE e sc _ g h1).pe r1, by rw [List.length_cons, List.length_cons, r2], ?_⟩
    rw [List.all_cons, r3]
    rfl
theorem okO : ∀ (e : Option E) (sc : Scope) (x : Option Expr) {X : Cx}, Good Γ C X sc → ckO C e sc x = true → PO X x (liftO X.K (wpo Γ e))
  | none, sc, x, X, g, h => by
    unfold ckO at h
    try dsimp only at h
    cases x with
    | none => exact y_on
    | some _ => cases h
  | some e, sc, x, X, g, h => by
    unfold ckO at h
    try dsimp only at h
    split at h
    · exact y_os (okE e sc _ g h).pe
    · cases h
theorem okC : ∀ (c : Option E) (sc : Scope) (xs : List Expr) {X : Cx}, Good Γ C X sc → ckC C c sc xs = true → PTs X xs (condT X.K (cOf Γ c))
  | none, sc, xs, X, g, h => by
    unfold ckC at h
    try dsimp only at h
    cases xs with
    | nil => exact pts_nil
    | cons _ _ => cases h
  | some e, sc, xs, X, g, h => by
    unfold ckC at h
    try dsimp only at h
    split at h
    · exact y_test1 (okE e sc _ g h).pt
    · cases h
theorem okI : ∀ (s : Src) (sc : Scope) (x : Expr) {X : Cx}, Good Γ C X sc → ckI C s sc x = true → (∀ tg, OkI Γ X tg x s) ∧ noSet x = true
  | .seq e, sc, x, X, g, h => by
    unfold ckI at h
    try dsimp only at h
    simp only [Bool.and_eq_true] at h
    refine ⟨fun tg => .plain (y_seqI (okE e sc _ g h.2).pe) fun σ S R => ?_, h.1⟩
    rw [wpi] <;> congr 1
  | .range e, sc, x, X, g, h => by
    unfold ckI at h
    try dsimp only at h
    split at h
    · simp only [Bool.and_eq_true, decide_eq_true_eq] at h
      obtain ⟨⟨⟨h1, h2⟩, h3⟩, h4⟩ := h
      subst h1
      exact ⟨fun tg => .plain (y_rangeI (gl_of g h2).1 (g.bt (x := "range") (by decide)) (okE e sc _ g h4).pe (star_of h3)) fun σ S R => rfl, rfl⟩
    · cases h
  | .keys i, sc, x, X, g, h => by
    unfold ckI at h
    try dsimp only at h
    obtain ⟨y, p, rfl, h1, h2, h3, h4⟩ := var_of g h
    exact ⟨fun tg => .keys (y_keysI h1 h2 h3 h4), rfl⟩
  | .gkeys y, sc, x, X, g, h => by
    unfold ckI at h
    try dsimp only at h
    split at h
    · simp only [Bool.and_eq_true, decide_eq_true_eq] at h
      obtain ⟨⟨h1, h2⟩, h3⟩ := h
      obtain ⟨g1, g2, g3⟩ := gl_of g h2
      obtain ⟨k, m, _⟩ := g.mod
      obtain ⟨kvs, e1, W⟩ := m.gd y (by simpa using h3)
      refine ⟨fun tg => .plain (y_gkI W h1 g1 g3) fun σ S R => ?_, rfl⟩
      rw [wpi]
      refine propext ⟨fun ⟨k2, e2, r⟩ => ?_, fun r => ⟨kvs, e1, r⟩⟩
      rw [e1] at e2
      cases e2
      exact r
    · cases h
  | .zip _ _, sc, x, X, g, h => by rw [ckI] at h; cases h
end
end
end Y

namespace Y
open PySem PySem.Spec L2
def isComp : Expr → Bool
  | .ListComp _ _ _ _ => true
  | .SetComp _ _ _ _ => true
  | .DictComp _ _ _ _ _ => true
  | _ => false
def noSwap : Expr → Expr → Bool
  | .Tuple _ _ _, .Tuple _ _ _ => false
  | .List _ _, .Tuple _ _ _ => false
  | _, _ => true
def locC (sc : Scope) (x : Str) : Bool := match sc.names.lookup x with | some .local => true | _ => false
/-- two or three local names on one line, stored from the right -/
def parC (sc : Scope) : Expr → Expr → Bool
  | .Tuple [.Name x px, .Name y py] _ _, .Tuple [a, b] _ _ => locC sc x && locC sc y && (px.line == px.line) && (py.line == px.line) && decide (x ≠ y) && noStar a && noStar b && !([a, b].all (foldedForSure 8)) && !([a, b].all (constantsAlone 8))
  | .Tuple [.Name x px, .Name y py, .Name z pz] _ _, .Tuple [a, b, c] _ _ => locC sc x && locC sc y && locC sc z && (py.line == px.line) && (pz.line == px.line) && decide (x ≠ y) && decide (x ≠ z) && decide (y ≠ z) && noStar a && noStar b && noStar c && !([a, b, c].all (foldedForSure 8)) && !([a, b, c].all (constantsAlone 8))
  | _, _ => false
/-- two names of which one is looked at from within: stored from the left -/
def celC (sc : Scope) : Expr → Expr → Bool
  | .Tuple [.Name x _, .Name y _] _ _, .Tuple [_, _] _ _ => !(locC sc x && locC sc y)
  | _, _ => false
section
variable {env : Env}
theorem loc_of {sc : Scope} {x : Str} (h : locC sc x = true) : sc.names.lookup x = some .local := by
  unfold locC at h
  split at h
  · assumption
  · cases h
theorem swap_no {t x : Expr} (h : noSwap t x = true) : swappedStores [t] x env = pure none := by
  cases t <;> first
    | rfl
    | (cases x <;> first | rfl | cases h)
theorem sw_plain {x : Expr} {t : Option Expr} {l : Nat} (h : isComp x = false) : swapsWith x t l env = pure false := by
  cases x <;> first | rfl | cases h
theorem blk_fun (hk : env.scope.kind = .function) : (env.blockKind != .function) = false := by
  unfold Env.blockKind
  rw [hk]
  rfl
def isStar : Expr → Bool
  | .Starred .. => true
  | _ => false
theorem star_any {e : Expr} (h : noStar e = true) : isStar e = false := by
  cases e <;> first | rfl | cases h
theorem swap2 {x y : Str} {px py p p2 : Pos} {k k2 : Nat} {a b : Expr} (hk : env.scope.kind = .function) (hx : env.scope.names.lookup x = some .local) (hy : env.scope.names.lookup y = some .local) (hl : (py.line == px.line) = true) (hn : x ≠ y) (ha : noStar a = true) (hb : noStar b = true)
    (hf : [a, b].all (foldedForSure 8) = false) (hc : [a, b].all (constantsAlone 8) = false) : swappedStores [.Tuple [.Name x px, .Name y py] k p] (.Tuple [a, b] k2 p2) env = pure (some [x, y]) := by
  have kx : env.kindOf x = some .local := hx
  have ky : env.kindOf y = some .local := hy
  have hb' := blk_fun hk
  have e1 : (y == x) = false := by simpa using Ne.symm hn
  unfold swappedStores
  simp only [List.length_cons, List.length_nil, hb', List.any_cons, List.any_nil, Bool.or_false, List.head?_cons, Option.map_some, Option.getD_some]
  refine (if_neg (by decide)).trans ((if_neg fun z => ?_).trans ?_)
  · rw [Bool.or_eq_true] at z
    rcases z with z | z
    · exact absurd ((show isStar a = true from z).symm.trans (star_any ha)) (by decide)
    · exact absurd ((show isStar b = true from z).symm.trans (star_any hb)) (by decide)
  have hF : (List.filterMap (fun e : Expr => match e with
      | .Name id pos => if (env.kindOf id == some .local && pos.line == px.line) = true then some id else none
      | _ => none) [Expr.Name x px, Expr.Name y py]) = [x, y] := by
    have hl' : py.line = px.line := by simpa using hl
    simp [List.filterMap_cons, kx, ky, hl']
  refine (if_neg fun z => ?_).trans ?_
  · have z : ((List.filterMap (fun e : Expr => match e with
      | .Name id pos => if (env.kindOf id == some .local && pos.line == px.line) = true then some id else none
      | _ => none) [Expr.Name x px, Expr.Name y py]).length != 2 || (List.filterMap (fun e : Expr => match e with
      | .Name id pos => if (env.kindOf id == some .local && pos.line == px.line) = true then some id else none
      | _ => none) [Expr.Name x px, Expr.Name y py]).eraseDups.length != (List.filterMap (fun e : Expr => match e with
      | .Name id pos => if (env.kindOf id == some .local && pos.line == px.line) = true then some id else none
      | _ => none) [Expr.Name x px, Expr.Name y py]).length) = true := z
    rw [hF] at z
    simp [List.eraseDups_cons, e1] at z
  rw [hf, hc]
  exact congrArg (fun l => (pure (some l) : Sem (Option (List Str)))) hF
theorem swap3 {x y w : Str} {px py pw p p2 : Pos} {k k2 : Nat} {a b c : Expr} (hk : env.scope.kind = .function) (hx : env.scope.names.lookup x = some .local) (hy : env.scope.names.lookup y = some .local) (hw : env.scope.names.lookup w = some .local) (hl : (py.line == px.line) = true) (hl2 : (pw.line == px.line) = true)
    (hn : x ≠ y) (hn2 : x ≠ w) (hn3 : y ≠ w) (ha : noStar a = true) (hb : noStar b = true) (hc3 : noStar c = true)
    (hf : [a, b, c].all (foldedForSure 8) = false) (hc : [a, b, c].all (constantsAlone 8) = false) : swappedStores [.Tuple [.Name x px, .Name y py, .Name w pw] k p] (.Tuple [a, b, c] k2 p2) env = pure (some [x, y, w]) := by
  have kx : env.kindOf x = some .local := hx
  have ky : env.kindOf y = some .local := hy
  have kw : env.kindOf w = some .local := hw
  have hb' := blk_fun hk
  have e1 : (y == x) = false := by simpa using Ne.symm hn
  have e2 : (w == x) = false := by simpa using Ne.symm hn2
  have e3 : (w == y) = false := by simpa using Ne.symm hn3
  unfold swappedStores
  simp only [List.length_cons, List.length_nil, hb', List.any_cons, List.any_nil, Bool.or_false, List.head?_cons, Option.map_some, Option.getD_some]
  refine (if_neg (by decide)).trans ((if_neg fun z => ?_).trans ?_)
  · rw [Bool.or_eq_true, Bool.or_eq_true] at z
    rcases z with z | z | z
    · exact absurd ((show isStar a = true from z).symm.trans (star_any ha)) (by decide)
    · exact absurd ((show isStar b = true from z).symm.trans (star_any hb)) (by decide)
    · exact absurd ((show isStar c = true from z).symm.trans (star_any hc3)) (by decide)
  have hF : (List.filterMap (fun e : Expr => match e with
      | .Name id pos => if (env.kindOf id == some .local && pos.line == px.line) = true then some id else none
      | _ => none) [Expr.Name x px, Expr.Name y py, Expr.Name w pw]) = [x, y, w] := by
    have hl' : py.line = px.line := by simpa using hl
    have hl3 : pw.line = px.line := by simpa using hl2
    simp [List.filterMap_cons, kx, ky, kw, hl', hl3]
  refine (if_neg fun z => ?_).trans ?_
  · have z : ((List.filterMap (fun e : Expr => match e with
      | .Name id pos => if (env.kindOf id == some .local && pos.line == px.line) = true then some id else none
      | _ => none) [Expr.Name x px, Expr.Name y py, Expr.Name w pw]).length != 3 || (List.filterMap (fun e : Expr => match e with
      | .Name id pos => if (env.kindOf id == some .local && pos.line == px.line) = true then some id else none
      | _ => none) [Expr.Name x px, Expr.Name y py, Expr.Name w pw]).eraseDups.length != (List.filterMap (fun e : Expr => match e with
      | .Name id pos => if (env.kindOf id == some .local && pos.line == px.line) = true then some id else none
      | _ => none) [Expr.Name x px, Expr.Name y py, Expr.Name w pw]).length) = true := z
    rw [hF] at z
    simp [List.eraseDups_cons, e1, e2, e3] at z
  rw [hf, hc]
  exact congrArg (fun l => (pure (some l) : Sem (Option (List Str)))) hF
theorem ite3 {α : Type} {c1 c2 c3 : Prop} [Decidable c1] [Decidable c2] [Decidable c3] {x y : α} (h : c3) : (if c1 then x else if c2 then x else if c3 then x else y) = x := by
  by_cases h1 : c1
  · exact if_pos h1
  · rw [if_neg h1]
    by_cases h2 : c2
    · exact if_pos h2
    · rw [if_neg h2, if_pos h]
theorem swap2n {x y : Str} {px py p p2 : Pos} {k k2 : Nat} {a b : Expr} (h : (locC env.scope x && locC env.scope y) = false) : swappedStores [.Tuple [.Name x px, .Name y py] k p] (.Tuple [a, b] k2 p2) env = pure none := by
  unfold swappedStores
  simp only [List.length_cons, List.length_nil, List.any_cons, List.any_nil, Bool.or_false, List.head?_cons, Option.map_some, Option.getD_some]
  refine ite3 ?_
  have key : (List.filterMap (fun e : Expr => match e with
      | .Name id pos => if (env.kindOf id == some .local && pos.line == px.line) = true then some id else none
      | _ => none) [Expr.Name x px, Expr.Name y py]).length ≤ 1 := by
    have nl : ∀ {w : Str}, locC env.scope w = false → (env.kindOf w == some .local) = false := fun {w} q => by
      unfold locC at q
      unfold Env.kindOf
      cases e : env.scope.names.lookup w with
      | none => rfl
      | some kk =>
        rw [e] at q
        cases kk <;> first | rfl | cases q
    rw [Bool.and_eq_false_iff] at h
    rcases h with h | h
    · simp only [List.filterMap_cons, nl h, Bool.false_and, if_neg (show ¬ (false = true) by decide), List.filterMap_nil]
      split <;> simp
    · simp only [List.filterMap_cons, nl h, Bool.false_and, if_neg (show ¬ (false = true) by decide), List.filterMap_nil]
      split <;> simp
  rw [Bool.or_eq_true]
  refine .inl ?_
  rw [bne_iff_ne]
  intro e
  have e : (List.filterMap (fun e : Expr => match e with
      | .Name id pos => if (env.kindOf id == some .local && pos.line == px.line) = true then some id else none
      | _ => none) [Expr.Name x px, Expr.Name y py]).length = 2 := e
  omega
end
/-! ### statements -/
section
variable (C : Ck)
mutual
def ckS : S → Scope → Stmt → Bool
  | .asg (.name g) e, sc, st => match st with
    | .Assign [t] x _ => tgC C.N sc g t && ckE C e sc x && (match e with
      | .lc _ _ _ _ _ => (match g with | .one _ => true | _ => false)
      | .dc _ _ _ _ _ _ => (match g with | .one _ => true | _ => false)
      | .tup _ => noSwap t x || parC sc t x || celC sc t x
      | _ => !isComp x && noSwap t x)
    | _ => false
  | .asg (.sub o i) e, sc, st => match st with
    | .Assign [.Subscript o' i' _] x _ => ckE C o sc o' && noSlice i' && ckE C i sc i' && ckE C e sc x
    | _ => false
  | .aug i o e, sc, st => match st with
    | .AugAssign (.Name y p) o' x _ => tg1C C.N sc i (.Name y p) && decide (o' = bopC o) && ckE C e sc x
    | _ => false
  | .augS _ _ _ _, _, _ => false
  | .ex e, sc, st => match st with
    | .Expr x _ => ckE C e sc x && !isComp x
    | _ => false
  | .ret e, sc, st => match st with
    | .Return (some x) _ => ckE C e sc x
    | .Return none _ => (match e with | .non => true | _ => false)
    | _ => false
  | .ife c a b, sc, st => match st with
    | .If x xs ys _ => ckE C c sc x && ckSs a sc xs && ckSs b sc ys
    | _ => false
  | .whl c b, sc, st => match st with
    | .While x xs [] _ => ckE C c sc x && ckSs b sc xs
    | _ => false
  | .frr g src b, sc, st => match st with
    | .For t x xs [] _ => tgC C.N sc g t && ckI C src sc x && ckSs b sc xs
    | _ => false
  | .pass, _, st => match st with | .Pass _ => true | _ => false
def ckSs : List S → Scope → List Stmt → Bool
  | [], _, xs => xs.isEmpty
  | s :: r, sc, xs => match xs with | x :: xs => ckS s sc x && ckSs r sc xs | [] => false
end
end
/-- a def's body's context -/
structure GoodS (Γ : G) (C : Ck) (X : Cx) (sc : Scope) : Prop where
  g : Good Γ C X sc
  fn : ∀ x, X.fn x = true
  own : PassesOwn (model X.prog X.w) X.A X.env X.xe
section
variable {Γ : G} {C : Ck} {X : Cx} {sc : Scope}
theorem tg1_def (g : GoodS Γ C X sc) {i : Nat} {e : Expr} (h : tg1C C.N sc i e = true) : ∃ y p, e = .Name y p ∧ NmOk X i y := by
  unfold tg1C at h
  split at h
  · rename_i y p
    simp only [Bool.and_eq_true, decide_eq_true_eq] at h
    obtain ⟨h1, h2⟩ := h
    refine ⟨y, p, rfl, by rw [g.g.n]; exact h1, ?_, .inl (g.fn y)⟩
    unfold L2.Loc
    rw [g.g.scp]
    split at h2
    · exact .inl (by assumption)
    · exact .inr (by assumption)
    · cases h2
  · cases h
theorem tgs_def (g : GoodS Γ C X sc) : ∀ {is : List Nat} {es : List Expr}, tgsC C.N sc is es = true → Names X is es
  | [], [], _ => .nil
  | i :: is, e :: es, h => by
    have h : (tg1C C.N sc i e && tgsC C.N sc is es) = true := h
    rw [Bool.and_eq_true] at h
    obtain ⟨y, p, rfl, n⟩ := tg1_def g h.1
    exact .cons n (tgs_def g h.2)
  | [], _ :: _, h => by cases h
  | _ :: _, [], h => by cases h
theorem tg_def (g : GoodS Γ C X sc) {t : Tg} {e : Expr} (h : tgC C.N sc t e = true) : PG X e (liftG X.K t) := by
  cases t with
  | one i =>
    obtain ⟨y, p, rfl, n⟩ := tg1_def g h
    exact y_g1 g.g.nd n
  | many is =>
    unfold tgC at h
    split at h
    · rename_i h0; cases h0
    · rename_i is' h0
      cases h0
      split at h
      · exact y_gm g.g.calm g.g.nd (tgs_def g h)
      · cases h
theorem tg_each {t : Tg} {N : List Str} {e : Expr} {env : Env} (h : tgC N sc t e = true) : (assignEach [e] env).map (·.2) = [assign e env] := by
  cases t with
  | one i =>
    unfold tgC tg1C at h
    split at h
    · rename_i h0
      split at h
      · rfl
      · cases h
    · rename_i h0; cases h0
  | many is =>
    unfold tgC at h
    split at h
    · rename_i h0; cases h0
    · split at h
      · rfl
      · cases h
theorem sole_of {t x : Expr} {l : Nat} {env : Env} (h : isComp x = false) : swapsWithSole [t] x l env = pure false := sw_plain h
end
end Y

namespace Y
open PySem PySem.Spec L2
section
variable {Γ : G} {C : Ck}
def swB (env : Env) (scope : Scope) (y : Str) (py pos : Pos) : Bool := env.blockKind == .function && env.kindOf y == some .local && py.line == pos.line && !(scope.names.any fun (n, k) => n == y && (k == .local || k == .cell))
theorem sw_lc {elt : Expr} {gs : List Comprehension} {scope : Scope} {pos py : Pos} {y : Str} {l : Nat} {env : Env} : swapsWith (.ListComp elt gs scope pos) (some (.Name y py)) l env = pure (swB env scope y py pos) := rfl
theorem sw_dc {kx elt : Expr} {gs : List Comprehension} {scope : Scope} {pos py : Pos} {y : Str} {l : Nat} {env : Env} : swapsWith (.DictComp kx elt gs scope pos) (some (.Name y py)) l env = pure (swB env scope y py pos) := rfl
theorem swB_loc {env : Env} {scope : Scope} {y : Str} {py pos : Pos} (h : swB env scope y py pos = true) : env.scope.names.lookup y = some .local := by
  unfold swB at h
  simp only [Bool.and_eq_true, beq_iff_eq] at h
  exact h.1.1.2
theorem sole_eq {t x : Expr} {l : Nat} {env : Env} : swapsWithSole [t] x l env = swapsWith x (some t) l env := rfl
mutual
theorem okS : ∀ (s : S) (sc : Scope) (st : Stmt) {X : Cx}, GoodS Γ C X sc → ckS C s sc st = true → PS X st (liftS X.K (ws Γ s))
  | .asg (.name tg) e, sc, st, X, g, h => by
    unfold ckS at h
    try dsimp only at h
    split at h
    · rename_i t x pos
      simp only [Bool.and_eq_true] at h
      obtain ⟨⟨h1, h2⟩, h3⟩ := h
      have pe := (okE e sc x g.g h2).pe
      have gen : swapsWithSole [t] x pos.line X.env = pure false → swappedStores [t] x X.env = pure none → PS X (.Assign [t] x pos) (liftS X.K (ws Γ (.asg (.name tg) e))) := fun q1 q2 => y_asg pe (tg_def g h1) q1 q2 (tg_each h1)
      cases e with
      | lc own tg2 src c e =>
        simp only at h3
        split at h3
        · rename_i i
          obtain ⟨y, p, rfl, n⟩ := tg1_def g h1
          unfold ckE at h2
          try dsimp only at h2
          split at h2
          · simp only [Bool.and_eq_true] at h2
            rename_i elt t it ifs scope pos2
            obtain ⟨⟨⟨⟨⟨r1, r2⟩, r3⟩, r4⟩, r5⟩, r6⟩ := h2
            by_cases hb : swB X.env scope y p pos2 = true
            · have ok : BlkOk X.N X.env.scope scope (ownN C.N own) := by rw [g.g.n, g.g.scp]; exact blkOk_by r1
              obtain ⟨hi, hns⟩ := okI src sc _ g.g r4
              obtain ⟨tt, _, _, q⟩ := lc_pe (Γ := Γ) (pos := pos2) g.g r1 r2 r3 hns (hi _) (fun s H A cl fp => okC c _ _ (g.g.blk ok s H A cl fp) r5) (fun s H A cl fp => (okE e _ _ (g.g.blk ok s H A cl fp) r6).pe)
              obtain ⟨t2, q1, q2⟩ := q (spos := pos) n.at_ (swB_loc hb) (by rw [sw_lc, hb])
              exact q1.imp fun N σV H h => q2 σV H N (by cases c <;> exact h)
            · rw [Bool.not_eq_true] at hb
              exact gen (by rw [sole_eq, sw_lc, hb]) rfl
          · cases h2
        · cases h3
      | dc own tg2 src c e v =>
        simp only at h3
        split at h3
        · rename_i i
          obtain ⟨y, p, rfl, n⟩ := tg1_def g h1
          unfold ckE at h2
          try dsimp only at h2
          split at h2
          · simp only [Bool.and_eq_true] at h2
            rename_i kx elt t it ifs scope pos2
            obtain ⟨⟨⟨⟨⟨⟨r1, r2⟩, r3⟩, r4⟩, r5⟩, r6⟩, r7⟩ := h2
            by_cases hb : swB X.env scope y p pos2 = true
            · have ok : BlkOk X.N X.env.scope scope (ownN C.N own) := by rw [g.g.n, g.g.scp]; exact blkOk_by r1
              obtain ⟨hi, hns⟩ := okI src sc _ g.g r4
              obtain ⟨tt, _, _, q⟩ := dc_pe (Γ := Γ) (pos := pos2) g.g r1 r2 r3 hns (hi _) (fun s H A cl fp => okC c _ _ (g.g.blk ok s H A cl fp) r5) (fun s H A cl fp => (okE e _ _ (g.g.blk ok s H A cl fp) r6).pe) (fun s H A cl fp => (okE v _ _ (g.g.blk ok s H A cl fp) r7).pe)
              obtain ⟨t2, q1, q2⟩ := q (spos := pos) n.at_ (swB_loc hb) (by rw [sw_dc, hb])
              exact q1.imp fun N σV H h => q2 σV H N (by cases c <;> exact h)
            · rw [Bool.not_eq_true] at hb
              exact gen (by rw [sole_eq, sw_dc, hb]) rfl
          · cases h2
        · cases h3
      | tup es =>
        have hx : isComp x = false := by
          unfold ckE at h2
          try dsimp only at h2
          split at h2
          · rfl
          · cases h2
        rw [Bool.or_eq_true, Bool.or_eq_true] at h3
        rcases h3 with (h3 | h3) | h3
        rotate_left 2
        · unfold celC at h3
          split at h3
          · rw [Bool.not_eq_true'] at h3
            rw [← g.g.scp] at h3
            exact gen (sole_of hx) (swap2n h3)
          · cases h3
        · exact gen (sole_of hx) (swap_no h3)
        · unfold parC at h3
          split at h3
          · rename_i x px y py kt pt a b k2 p2
            simp only [Bool.and_eq_true, decide_eq_true_eq, Bool.not_eq_true'] at h3
            obtain ⟨⟨⟨⟨⟨⟨⟨⟨l1, l2⟩, _⟩, l3⟩, l4⟩, l5⟩, l6⟩, l7⟩, l8⟩ := h3
            have l1 := loc_of l1
            have l2 := loc_of l2
            have hk : X.env.scope.kind = .function := by rw [g.g.scp]; exact g.g.kind
            rw [← g.g.scp] at l1 l2
            cases tg with
            | one i => unfold tgC tg1C at h1; cases h1
            | many is =>
              have hn := tgs_def g (show tgsC C.N sc is [.Name x px, .Name y py] = true from h1)
              cases hn with
              | cons n1 t1 =>
                cases t1 with
                | cons n2 t2 =>
                  cases t2
                  rename_i i j
                  have ij : i ≠ j := fun e => by
                    subst e
                    have e1 := n1.at_
                    rw [n2.at_] at e1
                    exact l4 (Option.some.inj e1).symm
                  unfold ckE at h2
                  try dsimp only at h2
                  have pa := (okEs es sc _ g.g h2).pa
                  refine (ps_par (kt := kt) (pt := pt) (k2 := k2) (pt2 := p2) (pos := pos) g.g.calm g.g.nd n1.at_ n2.at_ ij l1 l2 pa (swap2 hk l1 l2 l3 l4 l5 l6 l7 l8) rfl).imp fun N σV H ⟨Z, σ, S, sl, sr, h, k⟩ => ?_
                  have h : wps Γ es σ S fun ds S1 => ds.length ≤ sizeLine ∧ ∃ σ1, bindT (.many [i, j]) (.tup ds) σ = some σ1 ∧ Z.nx σ1 S1 := h
                  refine goA sl sr h fun ds S1 vs H1 ⟨_, σ1, e1, r⟩ f sl hx sr => ?_
                  cases hx with
                  | nil => cases e1
                  | cons x1 t1 =>
                    cases t1 with
                    | nil => cases e1
                    | cons x2 t2 =>
                      cases t2 with
                      | nil =>
                        cases e1
                        exact ⟨_, _, rfl, k.nx _ S1 _ H1 r f (slot_set (slot_set sl x1) x2) sr⟩
                      | cons _ _ => cases e1
          · rename_i x px y py w pw kt pt a b c k2 p2
            simp only [Bool.and_eq_true, decide_eq_true_eq, Bool.not_eq_true'] at h3
            obtain ⟨⟨⟨⟨⟨⟨⟨⟨⟨⟨⟨⟨l1, l2⟩, l0⟩, l3⟩, l9⟩, l4⟩, l10⟩, l11⟩, l5⟩, l6⟩, l12⟩, l7⟩, l8⟩ := h3
            have l1 := loc_of l1
            have l2 := loc_of l2
            have l0 := loc_of l0
            have hk : X.env.scope.kind = .function := by rw [g.g.scp]; exact g.g.kind
            rw [← g.g.scp] at l1 l2 l0
            cases tg with
            | one i => unfold tgC tg1C at h1; cases h1
            | many is =>
              have hn := tgs_def g (show tgsC C.N sc is [.Name x px, .Name y py, .Name w pw] = true from h1)
              cases hn with
              | cons n1 t1 =>
                cases t1 with
                | cons n2 t2 =>
                  cases t2 with
                  | cons n3 t3 =>
                    cases t3
                    rename_i i j l
                    have ne : ∀ {i j : Nat} {x y : Str}, X.N[i]? = some x → X.N[j]? = some y → x ≠ y → i ≠ j := fun {i j x y} a b c e => by
                      subst e
                      rw [a] at b
                      exact c (Option.some.inj b)
                    unfold ckE at h2
                    try dsimp only at h2
                    have pa := (okEs es sc _ g.g h2).pa
                    refine (ps_par3 (kt := kt) (pt := pt) (k2 := k2) (pt2 := p2) (pos := pos) g.g.calm g.g.nd n1.at_ n2.at_ n3.at_ (ne n1.at_ n2.at_ l4) (ne n1.at_ n3.at_ l10) (ne n2.at_ n3.at_ l11) l1 l2 l0 pa (swap3 hk l1 l2 l0 l3 l9 l4 l10 l11 l5 l6 l12 l7 l8) rfl).imp fun N σV H ⟨Z, σ, S, sl, sr, h, k⟩ => ?_
                    have h : wps Γ es σ S fun ds S1 => ds.length ≤ sizeLine ∧ ∃ σ1, bindT (.many [i, j, l]) (.tup ds) σ = some σ1 ∧ Z.nx σ1 S1 := h
                    refine goA sl sr h fun ds S1 vs H1 ⟨_, σ1, e1, r⟩ f sl hx sr => ?_
                    cases hx with
                    | nil => cases e1
                    | cons x1 t1 =>
                      cases t1 with
                      | nil => cases e1
                      | cons x2 t2 =>
                        cases t2 with
                        | nil => cases e1
                        | cons x3 t3 =>
                          cases t3 with
                          | nil =>
                            cases e1
                            exact ⟨_, _, _, rfl, k.nx _ S1 _ H1 r f (slot_set (slot_set (slot_set sl x1) x2) x3) sr⟩
                          | cons _ _ => cases e1
          · cases h3
      | _ =>
        simp only [Bool.and_eq_true, Bool.not_eq_true'] at h3
        exact gen (sole_of h3.1) (swap_no h3.2)
    · cases h
  | .asg (.sub o i) e, sc, st, X, g, h => by
    unfold ckS at h
    try dsimp only at h
    split at h
    · simp only [Bool.and_eq_true] at h
      obtain ⟨⟨⟨h1, h2⟩, h3⟩, h4⟩ := h
      rename_i o' i' tpos x pos
      have ha : ∀ v, assign (.Subscript o' i' tpos) X.env v = (do
          let ov ← holding [v] (eval o' X.env)
          let iv ← holding [v, ov] (eval i' X.env)
          standAt tpos
          holding [v, ov, iv] (setItem ov iv v)
          release [v, ov, iv] []) := by
        intro v
        cases i' <;> first | rfl | cases h2
      have hs : swapsWithSole [.Subscript o' i' tpos] x pos.line X.env = pure false := by
        rw [sole_eq]
        cases x <;> rfl
      exact y_setS g.g.hu (okE e sc _ g.g h4).pe (okE o sc _ g.g h1).pe (okE i sc _ g.g h3).pe ha hs rfl
    · cases h
  | .aug i o e, sc, st, X, g, h => by
    unfold ckS at h
    try dsimp only at h
    split at h
    · simp only [Bool.and_eq_true, decide_eq_true_eq] at h
      obtain ⟨⟨h1, h2⟩, h3⟩ := h
      subst h2
      obtain ⟨y, p, e1, n⟩ := tg1_def g h1
      cases e1
      exact y_aug g.g.nd n (okE e sc _ g.g h3).pe
    · cases h
  | .augS _ _ _ _, sc, st, X, g, h => by unfold ckS at h; cases h
  | .ex e, sc, st, X, g, h => by
    unfold ckS at h
    try dsimp only at h
    split at h
    · simp only [Bool.and_eq_true, Bool.not_eq_true'] at h
      exact y_ex (okE e sc _ g.g h.1).pe (sw_plain h.2)
    · cases h
  | .ret e, sc, st, X, g, h => by
    unfold ckS at h
    try dsimp only at h
    split at h
    · exact y_ret (okE e sc _ g.g h).pe
    · split at h
      · exact y_retN
      · cases h
    · cases h
  | .ife c a b, sc, st, X, g, h => by
    unfold ckS at h
    try dsimp only at h
    split at h
    · simp only [Bool.and_eq_true] at h
      obtain ⟨⟨h1, h2⟩, h3⟩ := h
      exact y_if (okE c sc _ g.g h1).pt (okSs a sc _ g h2) (okSs b sc _ g h3)
    · cases h
  | .whl c b, sc, st, X, g, h => by
    unfold ckS at h
    try dsimp only at h
    split at h
    · simp only [Bool.and_eq_true] at h
      exact y_while g.own (okE c sc _ g.g h.1).pt (okSs b sc _ g h.2)
    · cases h
  | .frr tg src b, sc, st, X, g, h => by
    unfold ckS at h
    try dsimp only at h
    split at h
    · rename_i t x xs pos
      simp only [Bool.and_eq_true] at h
      obtain ⟨⟨h1, h2⟩, h3⟩ := h
      obtain ⟨hi, hns⟩ := okI src sc _ g.g h2
      have hb := okSs b sc _ g h3
      have hg := tg_def g h1
      cases hi t with
      | plain hi e =>
        rename_i tj
        refine (y_for (pos := pos) g.own g.g.calm hi hg hb (folded_of hns)).imp fun N σV H ⟨Z, σ, S, sl, sr, h, k⟩ => ?_
        have h := Eq.mp (e σ S fun xs ok S1 back => forL tg ok (wss Γ b) xs ⟨fun σ2 S2 => Z.nx σ2 (back S2), fun v S2 => Z.rt v (back S2)⟩ σ S1) h
        exact ⟨Z, σ, S, sl, sr, h, k⟩
      | @keys j hi2 =>
        refine (ps_lock (y_for (pos := pos) g.own g.g.calm hi2 hg hb (folded_of hns))).imp fun N σV H ⟨Z, σ, S, sl, sr, h, k⟩ => lockS_imp (i := j) ?_
        obtain ⟨a, kvs, q1, q2, q3⟩ := h
        exact ⟨Z, σ, S, sl, sr, ⟨a, kvs, q1, q2, a, kvs, q1, Store.upd_same, q3⟩, k⟩
    · cases h
  | .pass, sc, st, X, g, h => by
    unfold ckS at h
    try dsimp only at h
    split at h
    · exact y_pass
    · cases h
theorem okSs : ∀ (s : List S) (sc : Scope) (st : List Stmt) {X : Cx}, GoodS Γ C X sc → ckSs C s sc st = true → PSs X st (liftS X.K (wss Γ s))
  | [], sc, st, X, g, h => by
    unfold ckSs at h
    try dsimp only at h
    cases st with
    | nil => exact y_nilS
    | cons _ _ => cases h
  | s :: r, sc, st, X, g, h => by
    unfold ckSs at h
    try dsimp only at h
    split at h
    · simp only [Bool.and_eq_true] at h
      have p := y_consS (okS s sc _ g h.1) (okSs r sc _ g h.2)
      exact p
    · cases h
end
end
end Y

namespace Y
open PySem PySem.Spec L2
/-! ### a def of the module keeps its promise -/
/-- what a body is to reach: the promise's end, less of the store known if wanted -/
def ends (R : DVK) : Ends := ⟨fun _ S' => ∃ S'', Le S'' S' ∧ R .non S'', fun d S' => ∃ S'', Le S'' S' ∧ R d S''⟩
def startD (N : List Str) (ds : List D) : DSt := ds.map some ++ List.replicate (N.length - ds.length) none
theorem slot_start {K : PySem.W.Frag} {H : Hp} {N : List Str} {vs : List V} {ds : List D} (h : DVs K H vs ds) : SlotR K H (L2.start N vs) (startD N ds) := by
  unfold L2.start startD
  rw [h.length]
  refine ⟨by simp [h.length], fun i d e => ?_⟩
  by_cases hi : i < ds.length
  · rw [List.getElem?_append_left (by simpa using hi), List.getElem?_map] at e
    obtain ⟨x, e1, e2⟩ := Option.map_eq_some_iff.mp e
    cases e2
    obtain ⟨v, e3, hv⟩ := h.get e1
    refine ⟨v, ?_, hv⟩
    rw [List.getElem?_append_left (by rw [List.length_map, h.length]; exact hi), List.getElem?_map, e3]
    rfl
  · rw [List.getElem?_append_right (by simpa using hi), List.getElem?_replicate] at e
    split at e <;> cases e
section
variable {P : Program} {w : World} {K : PySem.W.Frag} {mg : Str → Option Value} {base : Heap}
theorem y_fn {Γ : G} {C : Ck} {k : Nat} {x : String} {q : Str} {params : Arguments} {body : List Stmt} {scope : Scope} {fa : Addr} {fd : FuncData} {ps : List Str} {ir : List S} {sp : SpD} (F : FunD K (Str.ofString x) q params body scope [] [] fa fd) (b : Binds K fd ps []) (hm : mg (Str.ofString x) = some (.ref fa)) (S : FnScope C.N ps scope)
    (ck : ckSs C ir scope body = true) (m : ModOk Γ C P w K mg base k) (hl : ∀ ds S R, sp ds S R → ds.length = ps.length) (hb : ∀ ds S R, sp ds S R → wss Γ ir (ends R) (startD C.N ds) S) (hrp : C.rp = false := by rfl) :
    C8.Cal P w K mg base (k + 1) (Str.ofString x) (liftSp K ps.length sp) [] := by
  refine ⟨fa, fd, ps, [], FunD.ok F S liftSp_len fun cdv A outer s H vs Q E hr hsp => ⟨liftS K (wss Γ ir), PSs.nox ?_, ?_⟩, hm, F.kp, b, .nil⟩
  · exact okSs (X := (cxOf CX0 P w K mg base C.N q scope fa cdv A outer s H E).nox) ir scope body ⟨⟨rfl, S.nd, rfl, rfl, S.kind, by have h := hr.un; show (A.deeper _).units + 200 < cLine; omega, fun e => (by rw [hrp] at e; cases e), k, m, hr⟩, fun _ => rfl, PassesOwn.never⟩ ck
  · obtain ⟨ds, St, R, _, hv, sr, h, kk⟩ := hsp
    refine ⟨ends R, _, St, slot_start hv, sr, hb ds St R h, ⟨fun σ' S' σV' H' ⟨S2, l, r⟩ f _ s => ?_, fun d S' v H' ⟨S2, l, r⟩ f x s => ?_⟩⟩
    · exact kk.go .non S2 .non H' r (f.less l) .non (s.less l)
    · exact kk.go d S2 v H' r (f.less l) x (s.less l)
end
/-! ### facts of the module by a look -/
abbrev AlY : Type := He.AlT × Bool
def obsY (n : Nat) (fa : List He.Fa) (fn : List He.DefD) (ts : List He.Tab) (ex : PySem.W.Frag → Bool) (g : Addr → Option Obj) : AlY := (He.obsT fa fn ts (He.frG g (He.asD g n)), ex (He.frG g (He.asD g n)))
def SaysY (fa : List He.Fa) (fn : List He.DefD) (ts : List He.Tab) (ex : PySem.W.Frag → Bool) (w : World) (K : PySem.W.Frag) : Prop := He.SaysT fa fn ts w K ∧ ex K = true
def hookY (n : Nat) (fa : List He.Fa) (fn : List He.DefD) (ts : List He.Tab) (ex : PySem.W.Frag → Bool) : PySem.W.Hook where
  α := AlY
  obs := fun s => obsY n fa fn ts ex s.heap.get?
  val := fun w => (He.valT fn ts w, true)
  says := fun w h => ∃ K : PySem.W.Frag, K.In h ∧ SaysY fa fn ts ex w K
  of := fun _ _ e => ⟨_, He.frG_in, congrArg (fun z : AlY => z.1) e, congrArg (fun z : AlY => z.2) e⟩
  keeps := fun _ _ _ ⟨K, hK, c⟩ k => ⟨K, PySem.W.Frag.In.keeps hK k, c⟩
theorem obsY_eq {n : Nat} {fa : List He.Fa} {fn : List He.DefD} {ts : List He.Tab} {ex : PySem.W.Frag → Bool} {g : Addr → Option Obj} {s : Shared} (h : ∀ a, g a = s.heap.get? a) : obsY n fa fn ts ex g = (hookY n fa fn ts ex).obs s := by
  have e : g = s.heap.get? := funext h
  rw [e] <;> rfl
/-- a table: its entries by number -/
theorem dicW_at {K : PySem.W.Frag} {a : Addr} {P : Params} {ks : List Str} {es : Array DictEntry} {n : Nat} (hl : K.lookup a = some ⟨.type "dict", none, .dict es n, #[]⟩) (h : He.dicW K a = some (He.keysIn P ks)) : es.size = ks.length ∧ ∀ (i : Nat) (k : Str), ks[i]? = some k → ∃ en t, es[i]? = some en ∧ en.key = .str k t := by
  unfold He.dicW at h
  rw [hl] at h
  dsimp only at h
  split at h
  · have h := Option.some.inj h
    have hlen := congrArg List.length h
    rw [List.length_map, He.keysIn, List.length_map, Array.length_toList] at hlen
    refine ⟨hlen, fun i k e => ?_⟩
    have h2 : (es.toList.map He.keyOf)[i]? = (He.keysIn P ks)[i]? := by rw [h]
    unfold He.keysIn at h2
    rw [List.getElem?_map, List.getElem?_map, e] at h2
    obtain ⟨en, e1, e2⟩ := Option.map_eq_some_iff.mp (h2.trans rfl)
    rw [Array.getElem?_toList] at e1
    unfold He.keyOf at e2
    split at e2
    · rename_i x t q
      have e3 := Option.some.inj e2
      injection e3 with e4 e5
      exact ⟨en, t, e1, by rw [q, e4]⟩
    · cases e2
  · cases h
theorem gdict_of {K : PySem.W.Frag} {w : World} {mg : Str → Option Value} {x : String} {a : Addr} {kvs : List (String × D)} {dvs : List (Str × He.Dv)} (hm : mg (Str.ofString x) = some (.ref a)) (h : He.dicW K a = some (He.keysIn w.params (kvs.map fun kv => Str.ofString kv.1))) (hv : He.valsB K a dvs = true)
    (hk : ∀ s v, kvs.lookup s = some v → ∃ q ∈ dvs, q.1 = Str.ofString s ∧ ∀ H, DV K H (q.2.v K) v) : GDict K w mg x kvs := by
  obtain ⟨es, n, D⟩ := He.dicW_ok h
  obtain ⟨h1, h2⟩ := dicW_at D.at_ h
  rw [List.length_map] at h1
  refine ⟨a, es, n, hm, D, fun s v e => ?_, h1, fun i s v e => ?_⟩
  · obtain ⟨q, hq, e1, e2⟩ := hk s v e
    obtain ⟨u, e3, e4⟩ := He.valsB_ok hv hq
    rw [e1] at e3
    exact ⟨u, _, e3, e4, e2⟩
  · exact h2 i (Str.ofString s) (by rw [List.getElem?_map, e]; rfl)
/-- names of the module -/
theorem gv_int {Γ : G} {K : PySem.W.Frag} {mg : Str → Option Value} {x : String} {i : Int} (h0 : Γ.gd x = none) (h1 : Γ.gv x = some (.int i)) (h2 : ∃ t, mg (Str.ofString x) = some (.int i t)) : Γ.gd x = none ∧ ∃ d v u, Γ.gv x = some d ∧ mg (Str.ofString x) = some u ∧ RelV v u ∧ ∀ H, DV K H v d := by
  obtain ⟨t, e⟩ := h2
  exact ⟨h0, _, .int i, _, h1, e, ⟨t, rfl⟩, fun H => .int i⟩
theorem gv_str {Γ : G} {K : PySem.W.Frag} {mg : Str → Option Value} {x z : String} (h0 : Γ.gd x = none) (h1 : Γ.gv x = some (.str z)) (h2 : ∃ t, mg (Str.ofString x) = some (.str (Str.ofString z) t)) : Γ.gd x = none ∧ ∃ d v u, Γ.gv x = some d ∧ mg (Str.ofString x) = some u ∧ RelV v u ∧ ∀ H, DV K H v d := by
  obtain ⟨t, e⟩ := h2
  exact ⟨h0, _, .str _, _, h1, e, ⟨t, rfl⟩, fun H => .str z⟩
/-- a written tuple of texts -/
def strDv (zs : List String) : List He.Dv := zs.map fun z => .str (Str.ofString z)
theorem gv_strs {Γ : G} {K : PySem.W.Frag} {mg : Str → Option Value} {x : String} {zs : List String} (h0 : Γ.gd x = none) (h1 : Γ.gv x = some (.tup (zs.map D.str))) (h2 : mg (Str.ofString x) = some (.ref (He.ga K (Str.ofString x)))) (h3 : He.tupB K (Str.ofString x) (strDv zs) = true) :
    Γ.gd x = none ∧ ∃ d v u, Γ.gv x = some d ∧ mg (Str.ofString x) = some u ∧ RelV v u ∧ ∀ H, DV K H v d := by
  refine ⟨h0, _, .ref _, _, h1, h2, rfl, fun H => .tup (He.tupB_ok h3 H) ?_⟩
  unfold strDv
  rw [List.map_map]
  induction zs with
  | nil => exact .nil
  | cons z r ih =>
    rw [List.map_cons, List.map_cons]
    refine .cons (.str z) ?_
    have key : ∀ r : List String, DVs K H (r.map (He.Dv.v K ∘ fun z => He.Dv.str (Str.ofString z))) (r.map D.str) := by
      intro r
      induction r with
      | nil => exact .nil
      | cons z r ih => exact .cons (.str z) ih
    exact key r
end Y

namespace Y
open PySem PySem.Spec L2 PyProof.Rows
/-! ### the law's own def, run from the head, where the guards are known -/
section
variable {P : Program} {w : World} {K : PySem.W.Frag} {mg : Str → Option Value}
def RunC (P : Program) (w : World) (K : PySem.W.Frag) (mg : Str → Option Value) (base : Heap) (k : Nat) (fa : Addr) (fd : FuncData) (ps : List Str) (sp : Sp) : Prop :=
  ∀ (s : Shared) (H : Hp) (args : Args) (us : List Value) (vs : List V) (Q : VK) (E : XK), Room k callerA → Env0 P w K mg base callerA [] s H →
    BindsTo s fd args (ps.zip us) → Vals vs us → sp vs H Q E → codeAny (model P w) callerA (.call (.ref fa) args) (CR CX0 [] P w H s Q E) s
theorem y_fnC {base : Heap} {Γ : G} {C : Ck} {k : Nat} {x : String} {q : Str} {params : Arguments} {body : List Stmt} {scope : Scope} {fa : Addr} {fd : FuncData} {ps : List Str} {ir : List S} {sp : SpD} (F : FunD K (Str.ofString x) q params body scope [] [] fa fd) (S : FnScope C.N ps scope)
    (ck : ckSs C ir scope body = true) (m : ModOk Γ C P w K mg base k) (hb : ∀ ds S R, sp ds S R → wss Γ ir (ends R) (startD C.N ds) S) :
    RunC P w K mg base (k + 1) fa fd ps (liftSp K ps.length sp) := by
  intro s H args us vs Q E room env bnd rv hsp
  obtain ⟨oc, od, dV, kV, doc, pm, an, cdv, ct, osl, rfl, hk, hcd, -, -⟩ := F.ex
  have hln := liftSp_len _ _ _ _ hsp
  have still : ∀ b o, base.get? b = some o → s.heap.get? b = some o := fun b o e => (env.bs b o e).1
  have kin := env.mod.kin.keeps still
  have kinds : ∀ y ∈ ps.zip us, scope.names.lookup y.1 = some .local ∨ (scope.names.lookup y.1 = some .cell ∧ ((cellsFrom (s.heap.objs.size + 1) scope.names []).lookup y.1).isSome = true) := by
    rintro ⟨n, v⟩ hy
    rcases S.par n (List.of_mem_zip hy).1 with q | q
    · exact .inl q
    · exact .inr ⟨q, PySem.W.cellsFrom_some _ _ _ (.inl q)⟩
  refine codeAny_call_function room.depth (kin _ _ hk) rfl S.co S.gen rfl (PySem.W.codeRec_of kin hcd) (bnd _ _ _ _ ?_)
  refine wpAny_newFunctionEnv_cells S.kind kinds fun en he s1 x => ?_
  subst he
  refine ⟨(env.mod.nolimit.keeps still).keeps x.toInCall.keep, codeAny_func ?_⟩
  obtain ⟨ds, St, R, hdl, hv, sr, h, kk⟩ := hsp
  have inner := room.deeper (envOfC q scope s.heap.objs.size fa cdv)
  have hu : (callerA.deeper (envOfC q scope s.heap.objs.size fa cdv)).units + 200 < cLine := by
    have := inner.un
    omega
  have run := PSs.nox (okSs (X := (cxOf CX0 P w K mg base C.N q scope fa cdv callerA [] s H E).nox) ir scope body ⟨⟨rfl, S.nd, rfl, rfl, S.kind, hu, fun _ => rfl, k, m, inner⟩, fun _ => rfl, PassesOwn.never⟩ ck)
  have start0 : Inv (cxOf CX0 P w K mg base C.N q scope fa cdv callerA [] s H E) [] (L2.start C.N vs) H s1 := inv_start S room.hd env hln rv x
  refine wpAny_mono (run.run [] s1 (L2.start C.N vs) H { nx := fun _ H' => Q .non H', rt := Q } start0 ⟨ends R, _, St, slot_start hv, sr, hb ds St R h, ⟨?_, ?_⟩⟩) ?_ fun e s' hs => hs
  · exact fun σ' S' σV' H' ⟨S2, l, r⟩ f _ z => kk.go .non S2 .non H' r (f.less l) .non (z.less l)
  · exact fun d S' v H' ⟨S2, l, r⟩ f x z => kk.go d S2 v H' r (f.less l) x (z.less l)
  · intro fl s' hs
    cases fl with
    | next => obtain ⟨σ', H', J, q⟩ := hs; exact ⟨.non, H', J.os, J.bare, J.base, J.hok, rfl, q⟩
    | ret u => obtain ⟨v, σ', H', J, ru, q⟩ := hs; exact ⟨v, H', J.os, J.bare, J.base, J.hok, ru, q⟩
    | brk => obtain ⟨_, _, _, q⟩ := hs; exact q.elim
    | cont => obtain ⟨_, _, _, q⟩ := hs; exact q.elim
/-- the heap in which the script alone is told, if at all -/
theorem call_tells {s : Shared} {mb : Str → Option Value} {k : Nat} {fa a : Addr} {fd : FuncData} {x : Str} {sp : Sp} {us : List Value} (kin : K.In s.heap) (nsG : s.heap.Ns mainGlobals mg) (nsB : s.heap.Ns builtinsNs mb) (bb : ∀ x : Str, x ≠ "__name__" → mb x = bootBuiltins x) (lim : s.heap.NoLimit) (gens : s.gens = #[])
    (obj : s.heap.get? a = some { cls := .type "list", data := .seq us.toArray }) (room : Room k callerA) (F : ∀ base : Heap, K.In base → base.Ns mainGlobals mg → RunC P w K mg base k fa fd [x] sp) (bnd : ∀ (s : Shared) (u : Value), BindsTo s fd ⟨[u], []⟩ [(x, u)])
    {H : Hp} (only : Only H) (hok : HOk P w H s.heap) (hA : ∀ b, H b ≠ none → b = a) (hK : H a ≠ none → K.lookup a = none) (hsp : sp [.ref a] H (fun v _ => v = .bl true) fun _ _ _ => False) :
    codeAny (model P w) callerA (.call (.ref fa) ⟨[.ref a], []⟩) (fun r s' => r = .ok (.ret (.bool true)) ∧ OldK s.heap s'.heap ∧ s'.os = s.os ∧ AllBare s'.gens) s := by
  have at_a : ∀ {b : Addr} {u : HO}, H b = some u → b = a := fun {b u} e => hA b (by rw [e]; exact Option.some_ne_none u)
  have noDict : ∀ {b : Addr} {o : Obj} {es : Array DictEntry} {ep : Nat}, s.heap.get? b = some o → o.data = .dict es ep → H b = none := by
    intro b o es ep e d
    cases q : H b with
    | none => rfl
    | some u =>
      obtain rfl := at_a q
      rw [obj] at e
      cases e
      exact (show Data.seq us.toArray _ = Data.dict es ep → False from fun z => by cases z) d |>.elim
  have spaces : ∀ {b : Addr} {m : Str → Option Value}, s.heap.Ns b m → (hidT s.heap H).Ns b m := by
    rintro b m ⟨o, es, ep, e, d, r⟩
    exact ⟨o, es, ep, hidT_get e (noDict e d), d, r⟩
  have kinB : K.In (hidT s.heap H) := by
    intro b o e
    refine hidT_get (kin b o e) ?_
    cases q : H b with
    | none => rfl
    | some u =>
      obtain rfl := at_a q
      have := hK (by rw [q]; exact Option.some_ne_none u)
      rw [this] at e
      cases e
  have nolim : (hidT s.heap H).NoLimit := by
    obtain ⟨mc, h1, h2⟩ := lim
    exact ⟨mc, spaces h1, h2⟩
  have env : Env0 P w K mg (hidT s.heap H) callerA [] s H := ⟨rfl, ⟨kinB, spaces nsG, ⟨mb, spaces nsB, bb⟩, nolim⟩, fun b o e => of_hidT e, Nat.le_of_eq (hidT_size _ _), trivial, fun b hb => (by cases (show b ∈ ([] : List Addr) from hb)), hok, .of_eq gens⟩
  refine codeAny_mono (F _ kinB (spaces nsG) s H ⟨[.ref a], []⟩ [.ref a] [.ref a] _ _ room env (bnd s (.ref a)) (.cons rfl .nil) hsp) ?_
  intro r s' h
  cases r with
  | error e => exact h.elim
  | ok fl =>
    cases fl with
    | ret u =>
      obtain ⟨v, H', os, bare, un, hok', rv, q⟩ := h
      obtain rfl : v = .bl true := q
      obtain rfl : u = Value.bool true := rv
      refine ⟨rfl, OldK.of_keep fun b o e => ?_, os, bare⟩
      have nil_ : ∀ z : Addr, z ∉ ([] : List Addr) := fun z hz => by cases hz
      rcases only b with q | ⟨ob, xs, z⟩
      · exact un.keep b o e q (nil_ b) (nil_ b)
      · have e1 := (hok b _ z).1
        have e2 := (hok' b _ (un.frzs b ob _ z)).1
        rw [e] at e1
        cases e1
        exact e2
    | next => exact h.elim
    | brk => exact h.elim
    | cont => exact h.elim
theorem call_head {s : Shared} {mb : Str → Option Value} {k : Nat} {fa a : Addr} {fd : FuncData} {x : Str} {sp : Sp} {us : List Value} {ns : List Int} (kin : K.In s.heap) (nsG : s.heap.Ns mainGlobals mg) (nsB : s.heap.Ns builtinsNs mb) (bb : ∀ x : Str, x ≠ "__name__" → mb x = bootBuiltins x) (lim : s.heap.NoLimit) (gens : s.gens = #[])
    (obj : s.heap.get? a = some { cls := .type "list", data := .seq us.toArray }) (allInts : IntsAre us ns) (most : ns.length ≤ sizeLine) (room : Room k callerA) (F : ∀ base : Heap, K.In base → base.Ns mainGlobals mg → RunC P w K mg base k fa fd [x] sp) (bnd : ∀ (s : Shared) (u : Value), BindsTo s fd ⟨[u], []⟩ [(x, u)])
    (hsp : ∀ H : Hp, Only H → SqL K H a (ns.map V.int) → sp [.ref a] H (fun v _ => v = .bl true) fun _ _ _ => False) :
    codeAny (model P w) callerA (.call (.ref fa) ⟨[.ref a], []⟩) (fun r s' => r = .ok (.ret (.bool true)) ∧ OldK s.heap s'.heap ∧ s'.os = s.os ∧ AllBare s'.gens) s := by
  have rv := vals_ints allInts
  have hlen := allInts.length
  cases hk : K.lookup a with
  | some o =>
    have e := kin a o hk
    rw [obj] at e
    cases e
    refine call_tells (H := fun _ => none) kin nsG nsB bb lim gens obj room F bnd (fun _ => .inl rfl) (fun b u z => (by cases (show (none : Option HO) = some u from z))) (fun b z => (z rfl).elim) (fun z => (z rfl).elim) (hsp _ (fun _ => .inl rfl) (.inr ⟨_, us.toArray, _, hk, rfl, rfl, rfl, ?_, ?_⟩))
    · rw [List.size_toArray, hlen]
      exact most
    · simpa using rv
  | none =>
    let H1 : Hp := fun b => if b = a then some (.frz { cls := .type "list", data := .seq us.toArray } (.lst (ns.map V.int))) else none
    have is_a : H1 a = some (.frz { cls := .type "list", data := .seq us.toArray } (.lst (ns.map V.int))) := if_pos rfl
    have off : ∀ {b : Addr}, b ≠ a → H1 b = none := fun {b} h => if_neg h
    have only : Only H1 := by
      intro b
      by_cases hb : b = a
      · exact .inr ⟨_, _, by rw [hb]; exact is_a⟩
      · exact .inl (off hb)
    refine call_tells (H := H1) kin nsG nsB bb lim gens obj room F bnd only ?_ (fun b z => Classical.byContradiction fun n => z (off n)) (fun _ => hk) (hsp _ only (.inl (.inr ⟨_, is_a⟩)))
    intro b u z
    by_cases hb : b = a
    · subst hb
      rw [is_a] at z
      cases z
      exact ⟨obj, by rw [List.length_map]; exact most, us, _, rv, obj⟩
    · rw [off hb] at z
      cases z
/-- a law over a head by facts, its def run from the head alone -/
theorem walk_c {l : PySem.W.OpenLaw} {n k : Nat} {q : Program} {loose : List Str} {XP : (Str → Option Value) → Heap → Prop} {YP : World → Heap → Prop} {d : DefRec} {x : Str} (most : l.most = some n) (hn : n ≤ sizeLine) (dfl : d.params.defaults = []) (room : Room k callerA)
    (F : ∀ (w : World) (mg : Str → Option Value) (fa : Addr) (h : Heap), YP w h → h.Ns mainGlobals mg → mg d.name = some (.ref fa) → ∃ (K : PySem.W.Frag) (fd : FuncData) (sp : Sp), K.In h ∧ (∀ (s : Shared) (u : Value), BindsTo s fd ⟨[u], []⟩ [(x, u)]) ∧
      (∀ (H : Hp) (a : Addr) (ns : List Int), ns.length ≤ n → Only H → SqL K H a (ns.map V.int) → sp [.ref a] H (fun v _ => v = .bl true) fun _ _ _ => False) ∧ ∀ base : Heap, K.In base → base.Ns mainGlobals mg → RunC l.prog w K mg base k fa fd [x] sp) :
    PySem.W.WalkO q loose XP YP l.row.toRowW d [] (fun f vs => PySem.call f vs) := by
  refine Att.attach_call most dfl fun w s₀ s₁ mg mb fa o pm cd doc a vs ns W Y ho hd hcd hmg hobj hints hlen hg => ?_
  obtain ⟨K, fd, sp, kin, hb, hsp, hF⟩ := F w mg fa _ Y W.T.g hmg
  exact call_head kin W.T.g W.T.b W.T.builtins W.T.nolimit hg hobj hints (Nat.le_trans hlen hn) room hF hb fun H hO hS => hsp H a ns hlen hO hS
end
end Y

namespace Y
open PySem PySem.Spec L2
/-! ### the readings, step by step -/
section
variable {Γ : G} {σ : DSt} {S : Store} {R : DVK} {Z : Ends}
@[simp] theorem x_var {i : Nat} : wp Γ (.var i) σ S R = ∃ d, σ[i]? = some (some d) ∧ R d S := rfl
@[simp] theorem x_non : wp Γ .non σ S R = R .non S := rfl
@[simp] theorem x_bl {b : Bool} : wp Γ (.bl b) σ S R = R (.bl b) S := rfl
@[simp] theorem x_int {i : Int} : wp Γ (.int i) σ S R = R (.int i) S := rfl
@[simp] theorem x_str {s : String} : wp Γ (.str s) σ S R = R (.str s) S := rfl
@[simp] theorem x_gv {x : String} : wp Γ (.gv x) σ S R = ∃ d, Γ.gv x = some d ∧ R d S := rfl
@[simp] theorem x_tup {es : List E} : wp Γ (.tup es) σ S R = wps Γ es σ S fun ds S1 => ds.length ≤ sizeLine ∧ R (.tup ds) S1 := rfl
@[simp] theorem x_lst {es : List E} : wp Γ (.lst es) σ S R = wps Γ es σ S fun ds S1 => ds.length ≤ sizeLine ∧ ∀ p, S1 p = none → R (.loc p) (S1.upd p (.lst ds)) := rfl
@[simp] theorem x_op {o : BOp} {a b : E} : wp Γ (.op o a b) σ S R = wp Γ a σ S fun x S1 => wp Γ b σ S1 fun y S2 => opW o x y S2 R := rfl
@[simp] theorem x_neg {a : E} : wp Γ (.neg a) σ S R = wp Γ a σ S fun x S1 => ∃ i, x = .int i ∧ R (.int (-i)) S1 := rfl
@[simp] theorem x_cmp {o : COp} {a b : E} : wp Γ (.cmp o a b) σ S R = wp Γ a σ S fun x S1 => wp Γ b σ S1 fun y S2 => cmpW o x y S2 fun t S3 => R (.bl t) S3 := rfl
@[simp] theorem x_cmp2 {o o' : COp} {a b c : E} : wp Γ (.cmp2 o o' a b c) σ S R = wp Γ a σ S fun x S1 => wp Γ b σ S1 fun y S2 => cmpW o x y S2 fun t S3 => if t = true then wp Γ c σ S3 fun z S4 => cmpW o' y z S4 fun t' S5 => R (.bl t') S5 else R (.bl false) S3 := rfl
@[simp] theorem x_bop {k : Bool} {es : List E} : wp Γ (.bop k es) σ S R = wpa Γ k es σ S R := rfl
@[simp] theorem x_not {a : E} : wp Γ (.not a) σ S R = wp Γ a σ S fun x S1 => ∃ t, x = .bl t ∧ R (.bl (!t)) S1 := rfl
@[simp] theorem x_ite {c a b : E} : wp Γ (.ite c a b) σ S R = wp Γ c σ S fun x S1 => ∃ t, x = .bl t ∧ if t = true then wp Γ a σ S1 R else wp Γ b σ S1 R := rfl
@[simp] theorem x_subv {i : Nat} {k : E} : wp Γ (.sub (.var i) k) σ S R = wp Γ (.var i) σ S fun x S1 => wp Γ k σ S1 fun y S2 => subW x y S2 R := rfl
@[simp] theorem x_subs {a i k : E} : wp Γ (.sub (.sub a i) k) σ S R = wp Γ (.sub a i) σ S fun x S1 => wp Γ k σ S1 fun y S2 => subW x y S2 R := rfl
@[simp] theorem x_subc {f : String} {es : List E} {k : E} : wp Γ (.sub (.call f es) k) σ S R = wp Γ (.call f es) σ S fun x S1 => wp Γ k σ S1 fun y S2 => subW x y S2 R := rfl
@[simp] theorem x_subt {es : List E} {k : E} : wp Γ (.sub (.tup es) k) σ S R = wp Γ (.tup es) σ S fun x S1 => wp Γ k σ S1 fun y S2 => subW x y S2 R := rfl
@[simp] theorem x_subd {es : List E} {k : E} : wp Γ (.sub (.dsp es) k) σ S R = wp Γ (.dsp es) σ S fun x S1 => wp Γ k σ S1 fun y S2 => subW x y S2 R := rfl
theorem x_subg {x : String} {k : E} {kvs : List (String × D)} (h : Γ.gd x = some kvs) : wp Γ (.sub (.gv x) k) σ S R = wp Γ k σ S fun y S1 => ∃ s v, y = D.str s ∧ kvs.lookup s = some v ∧ R v S1 := by
  show (match Γ.gd x with
    | some kvs => wp Γ k σ S fun k S1 => ∃ s v, k = D.str s ∧ kvs.lookup s = some v ∧ R v S1
    | none => ∃ d, Γ.gv x = some d ∧ wp Γ k σ S fun k S1 => subW d k S1 R) = _
  rw [h]
@[simp] theorem x_slc {a : E} {lo hi : Option E} : wp Γ (.slc a lo hi) σ S R = wp Γ a σ S fun x S1 => wpo Γ lo σ S1 fun l S2 => wpo Γ hi σ S2 fun h S3 => slcW x l h S3 R := rfl
@[simp] theorem x_rev {a : E} : wp Γ (.rev a) σ S R = wp Γ a σ S fun x S1 => revW x S1 R := rfl
@[simp] theorem x_isi {a : E} {t : Ty} : wp Γ (.isi a t) σ S R = wp Γ a σ S fun x S1 => isiW x t S1 fun b S2 => R (.bl b) S2 := rfl
@[simp] theorem x_call {f : String} {es : List E} : wp Γ (.call f es) σ S R = wps Γ es σ S fun ds S1 => Γ.fn f ds S1 R := rfl
@[simp] theorem x_bi {f : Bi} {es : List E} : wp Γ (.bi f es) σ S R = wps Γ es σ S fun ds S1 => biW f ds S1 R := rfl
@[simp] theorem x_mt {m : Mt} {o : E} {es : List E} : wp Γ (.mt m o es) σ S R = wp Γ o σ S fun x S1 => recvOk m x S1 ∧ wps Γ es σ S1 fun ds S2 => mtW m x ds S2 R := rfl
@[simp] theorem x_dsp {es : List E} : wp Γ (.dsp es) σ S R = ∀ p, S p = none → wps Γ es σ (S.upd p (.dct [])) fun ds S1 => ∃ kvs, pairUp ds = some kvs ∧ S1 p = some (.dct []) ∧ (∀ q ∈ kvs, keyOk q.1 = true) ∧ kvs.length ≤ 15 ∧ R (.loc p) (S1.upd p (.dct (mergeD [] kvs))) := rfl
@[simp] theorem x_ps0 {Q : List D → Store → Prop} : wps Γ [] σ S Q = Q [] S := rfl
@[simp] theorem x_ps {e : E} {es : List E} {Q : List D → Store → Prop} : wps Γ (e :: es) σ S Q = wp Γ e σ S fun x S1 => wps Γ es σ S1 fun xs S2 => Q (x :: xs) S2 := rfl
@[simp] theorem x_pa1 {k : Bool} {e : E} : wpa Γ k [e] σ S R = wp Γ e σ S R := rfl
@[simp] theorem x_pa {k : Bool} {e e2 : E} {r : List E} : wpa Γ k (e :: e2 :: r) σ S R = wp Γ e σ S fun x S1 => ∃ t, x = .bl t ∧ if t = k then wpa Γ k (e2 :: r) σ S1 R else R (.bl t) S1 := rfl
@[simp] theorem x_on {Q : Option Int → Store → Prop} : wpo Γ none σ S Q = Q none S := rfl
@[simp] theorem x_os {e : E} {Q : Option Int → Store → Prop} : wpo Γ (some e) σ S Q = wp Γ e σ S fun x S1 => ∃ i, x = .int i ∧ Q (some i) S1 := rfl
@[simp] theorem x_cn {Q : Bool → Store → Prop} : wpc Γ none σ S Q = Q true S := rfl
@[simp] theorem x_cs {e : E} {Q : Bool → Store → Prop} : wpc Γ (some e) σ S Q = wp Γ e σ S fun x S1 => ∃ t, x = .bl t ∧ Q t S1 := rfl
@[simp] theorem x_asg {g : Tg} {e : E} : ws Γ (.asg (.name g) e) Z σ S = wp Γ e σ S fun x S1 => ∃ σ1, bindT g x σ = some σ1 ∧ Z.nx σ1 S1 := rfl
@[simp] theorem x_asgS {o i e : E} : ws Γ (.asg (.sub o i) e) Z σ S = wp Γ e σ S fun x S1 => wp Γ o σ S1 fun y S2 => wp Γ i σ S2 fun z S3 => setW y z x S3 fun S4 => Z.nx σ S4 := rfl
@[simp] theorem x_aug {i : Nat} {o : BOp} {e : E} : ws Γ (.aug i o e) Z σ S = ∃ d, σ[i]? = some (some d) ∧ wp Γ e σ S fun y S1 => augW o d y S1 fun z S2 => Z.nx (σ.set i (some z)) S2 := rfl
@[simp] theorem x_ex {e : E} : ws Γ (.ex e) Z σ S = wp Γ e σ S fun _ S1 => Z.nx σ S1 := rfl
@[simp] theorem x_ret {e : E} : ws Γ (.ret e) Z σ S = wp Γ e σ S Z.rt := rfl
@[simp] theorem x_ife {c : E} {a b : List Y.S} : ws Γ (.ife c a b) Z σ S = wp Γ c σ S fun x S1 => ∃ t, x = .bl t ∧ if t = true then wss Γ a Z σ S1 else wss Γ b Z σ S1 := rfl
@[simp] theorem x_ss0 : wss Γ [] Z σ S = Z.nx σ S := rfl
@[simp] theorem x_ss {s : Y.S} {r : List Y.S} : wss Γ (s :: r) Z σ S = ws Γ s ⟨fun σ1 S1 => wss Γ r Z σ1 S1, Z.rt⟩ σ S := rfl
@[simp] theorem x_ends_nx : (ends R).nx σ S = ∃ S'', Le S'' S ∧ R .non S'' := rfl
@[simp] theorem x_ends_rt {d : D} : (ends R).rt d S = ∃ S'', Le S'' S ∧ R d S'' := rfl
/-! values -/
@[simp] theorem v_addi {i j : Int} : opW .add (.int i) (.int j) S R = R (.int (i + j)) S := rfl
@[simp] theorem v_adds {i j : String} : opW .add (.str i) (.str j) S R = (i.length + j.length ≤ 1000000 ∧ R (.str (i ++ j)) S) := rfl
@[simp] theorem v_addt {i j : List D} : opW .add (.tup i) (.tup j) S R = (i.length + j.length ≤ sizeLine ∧ R (.tup (i ++ j)) S) := rfl
@[simp] theorem v_addl {a b : Addr} : opW .add (.loc a) (.loc b) S R = ∃ o, S a = some o ∧ addL (.loc b) o S R := rfl
@[simp] theorem v_addl2 {i : List D} {b : Addr} : addL (.loc b) (.lst i) S R = ∃ o, S b = some o ∧ addO i o S R := rfl
@[simp] theorem v_addl3 {i j : List D} : addO i (.lst j) S R = (i.length + j.length ≤ sizeLine ∧ newW (.lst (i ++ j)) S R) := rfl
@[simp] theorem v_sub {i j : Int} : opW .sub (.int i) (.int j) S R = R (.int (i - j)) S := rfl
@[simp] theorem v_mul {i j : Int} : opW .mul (.int i) (.int j) S R = (CMul i j ∧ R (.int (i * j)) S) := rfl
@[simp] theorem v_mull {a : Addr} {k : Int} : opW .mul (.loc a) (.int k) S R = ∃ o, S a = some o ∧ mulL k o S R := rfl
@[simp] theorem v_mulo {xs : List D} {k : Int} : mulL k (.lst xs) S R = ((-1000000 ≤ k ∧ k ≤ 1000000) ∧ xs.length * k.toNat ≤ sizeLine ∧ newW (.lst (timesD k xs)) S R) := rfl
@[simp] theorem v_mult {xs : List D} {k : Int} : opW .mul (.tup xs) (.int k) S R = (xs ≠ [] ∧ (1 ≤ k ∧ k ≤ 1000) ∧ xs.length ≤ 1000 ∧ R (.tup (timesD k xs)) S) := rfl
@[simp] theorem v_srtt {xs : List D} : biW .sorted [.tup xs] S R = sortedI xs S R := rfl
@[simp] theorem v_srtl {a : Addr} : biW .sorted [.loc a] S R = ∃ o, S a = some o ∧ sortedO o S R := rfl
@[simp] theorem v_srto {xs : List D} : sortedO (.lst xs) S R = sortedI xs S R := rfl
@[simp] theorem v_sset {xs : List D} : biW .sortset [.tup xs] S R = sortsetI xs S R := rfl
@[simp] theorem v_upd {a : Addr} {x : D} : mtW .update (.loc a) [x] S R = ∃ o, S a = some o ∧ updW x o a S R := rfl
@[simp] theorem v_sdf {a : Addr} {k d : D} : mtW .setdefault (.loc a) [k, d] S R = ∃ o, S a = some o ∧ setdO k d a o S R := rfl
@[simp] theorem v_sdo {a : Addr} {k d : D} {kvs : List (D × D)} : setdO k d a (.dct kvs) S R = (keyOk k = true ∧ kvs.length < sizeLine ∧ (match lookD kvs k with | some v => R v S | none => R d (S.upd a (.dct (putD kvs k d))))) := rfl
@[simp] theorem v_upd2 {a b : Addr} {i : List (D × D)} : updW (.loc b) (.dct i) a S R = (D.loc b ≠ .loc a ∧ ∃ o, S b = some o ∧ updO i a o S R) := rfl
@[simp] theorem v_upd3 {a : Addr} {i j : List (D × D)} : updO i a (.dct j) S R = (i.length + j.length ≤ sizeLine ∧ R .non (S.upd a (.dct (mergeD i j)))) := rfl
@[simp] theorem v_fdiv {i j : Int} : opW .fdiv (.int i) (.int j) S R = ((0 < j ∧ j < 1073741824) ∧ R (.int (i / j)) S) := rfl
@[simp] theorem v_mod {i j : Int} : opW .mod (.int i) (.int j) S R = (0 < j ∧ R (.int (i % j)) S) := rfl
@[simp] theorem v_aug {i j : Int} : augW .add (.int i) (.int j) S R = R (.int (i + j)) S := rfl
@[simp] theorem v_new {o : MO} : newW o S R = ∀ p, S p = none → R (.loc p) (S.upd p o) := rfl
variable {B : Bool → Store → Prop}
@[simp] theorem v_lt {i j : Int} : cmpW .lt (.int i) (.int j) S B = B (decide (i < j)) S := rfl
@[simp] theorem v_le {i j : Int} : cmpW .le (.int i) (.int j) S B = B (decide (i ≤ j)) S := rfl
@[simp] theorem v_gt {i j : Int} : cmpW .gt (.int i) (.int j) S B = B (decide (j < i)) S := rfl
@[simp] theorem v_ge {i j : Int} : cmpW .ge (.int i) (.int j) S B = B (decide (j ≤ i)) S := rfl
@[simp] theorem v_isn {x : D} : cmpW .isn x .non S B = B (decide (x = .non)) S := rfl
@[simp] theorem v_notn {x : D} : cmpW .notn x .non S B = B (!decide (x = .non)) S := rfl
@[simp] theorem v_eqii {i j : Int} : cmpW .eq (.int i) (.int j) S B = B (i == j) S := by
  show (true = true ∧ true = true ∧ B (i == j) S) = _
  simp
@[simp] theorem v_eqss {i j : String} : cmpW .eq (.str i) (.str j) S B = B (i == j) S := by
  show (true = true ∧ true = true ∧ B (i == j) S) = _
  simp
@[simp] theorem v_eqbb {i j : Bool} : cmpW .eq (.bl i) (.bl j) S B = B (i == j) S := by
  show (true = true ∧ true = true ∧ B (i == j) S) = _
  simp
@[simp] theorem v_ne {x y : D} : cmpW .ne x y S B = cmpW .eq x y S fun b S' => B (!b) S' := rfl
@[simp] theorem v_notin {x y : D} : cmpW .notin x y S B = cmpW .inn x y S fun b S' => B (!b) S' := rfl
@[simp] theorem v_int {x : D} {ys : List D} : cmpW .inn x (.tup ys) S B = (D.pl 100 x = true ∧ D.pls 100 ys = true ∧ B (ys.any fun z => eqd z x) S) := rfl
@[simp] theorem v_inl {x : D} {a : Addr} : cmpW .inn x (.loc a) S B = ∃ o, S a = some o ∧ inO x o S B := rfl
@[simp] theorem v_inol {x : D} {ys : List D} : inO x (.lst ys) S B = (D.pl 100 x = true ∧ D.pls 100 ys = true ∧ B (ys.any fun z => eqd z x) S) := rfl
@[simp] theorem v_inod {x : D} {kvs : List (D × D)} : inO x (.dct kvs) S B = (keyOk x = true ∧ B (lookD kvs x).isSome S) := rfl
@[simp] theorem v_inof {x : D} {kvs : List (D × D)} : inO x (.frz kvs) S B = (keyOk x = true ∧ B (lookD kvs x).isSome S) := rfl
@[simp] theorem v_ixt {xs : List D} {i : Int} : subW (.tup xs) (.int i) S R = ∃ v, atD xs i = some v ∧ R v S := rfl
@[simp] theorem v_ixl {a : Addr} {y : D} : subW (.loc a) y S R = ∃ o, S a = some o ∧ subO y o S R := rfl
@[simp] theorem v_ixol {xs : List D} {i : Int} : subO (.int i) (.lst xs) S R = ∃ v, atD xs i = some v ∧ R v S := rfl
@[simp] theorem v_ixod {kvs : List (D × D)} {k : D} : subO k (.dct kvs) S R = (keyOk k = true ∧ ∃ v, lookD kvs k = some v ∧ R v S) := rfl
@[simp] theorem v_ixof {kvs : List (D × D)} {k : D} : subO k (.frz kvs) S R = (keyOk k = true ∧ ∃ v, lookD kvs k = some v ∧ R v S) := rfl
@[simp] theorem v_slt {xs : List D} {lo hi : Option Int} : slcW (.tup xs) lo hi S R = R (.tup (cutD xs lo hi)) S := rfl
@[simp] theorem v_sls {s : String} {lo hi : Option Int} : slcW (.str s) lo hi S R = (s.length ≤ 1000000 ∧ R (.str (String.ofList (cutD s.toList lo hi))) S) := rfl
@[simp] theorem v_sll {a : Addr} {lo hi : Option Int} : slcW (.loc a) lo hi S R = ∃ o, S a = some o ∧ slcO lo hi o S R := rfl
@[simp] theorem v_slo {xs : List D} {lo hi : Option Int} : slcO lo hi (.lst xs) S R = newW (.lst (cutD xs lo hi)) S R := rfl
@[simp] theorem v_slc {ns : List Int} {lo hi : Option Int} : slcW (.scr ns) lo hi S R = newW (.lst (cutD (ns.map D.int) lo hi)) S R := rfl
@[simp] theorem v_rev {a : Addr} : revW (.loc a) S R = ∃ o, S a = some o ∧ revO o S R := rfl
@[simp] theorem v_reo {xs : List D} : revO (.lst xs) S R = newW (.lst xs.reverse) S R := rfl
@[simp] theorem v_isn0 {t : Ty} : isiW .non t S B = B false S := by simp [isiW, isiV]
@[simp] theorem v_isb {b : Bool} {t : Ty} : isiW (.bl b) t S B = B (t == .int || t == .bool) S := by simp [isiW, isiV]
@[simp] theorem v_isi {b : Int} {t : Ty} : isiW (.int b) t S B = B (t == .int) S := by simp [isiW, isiV]
@[simp] theorem v_iss {b : String} {t : Ty} : isiW (.str b) t S B = B (t == .str) S := by simp [isiW, isiV]
@[simp] theorem v_ist {b : List D} {t : Ty} : isiW (.tup b) t S B = B (t == .tuple) S := by simp [isiW, isiV]
@[simp] theorem v_isl {a : Addr} {t : Ty} : isiW (.loc a) t S B = ∃ o b, S a = some o ∧ isiO o t = some b ∧ B b S := rfl
@[simp] theorem v_lent {xs : List D} : biW .len [.tup xs] S R = R (.int xs.length) S := rfl
@[simp] theorem v_lens {s : String} : biW .len [.str s] S R = (s.length ≤ 1000000 ∧ R (.int s.length) S) := rfl
@[simp] theorem v_lenl {a : Addr} : biW .len [.loc a] S R = ∃ o, S a = some o ∧ lenO o S R := rfl
@[simp] theorem v_leno {xs : List D} : lenO (.lst xs) S R = R (.int xs.length) S := rfl
@[simp] theorem v_lend {xs : List (D × D)} : lenO (.dct xs) S R = R (.int xs.length) S := rfl
@[simp] theorem v_lenf {xs : List (D × D)} : lenO (.frz xs) S R = R (.int xs.length) S := rfl
@[simp] theorem v_inti {i : Int} : biW .int [.int i] S R = R (.int i) S := rfl
@[simp] theorem v_lstt {xs : List D} : biW .list [.tup xs] S R = newW (.lst xs) S R := rfl
@[simp] theorem v_lsts {ns : List Int} : biW .list [.scr ns] S R = newW (.lst (ns.map D.int)) S R := rfl
@[simp] theorem v_lstl {a : Addr} : biW .list [.loc a] S R = ∃ o, S a = some o ∧ listO o S R := rfl
@[simp] theorem v_lsto {xs : List D} : listO (.lst xs) S R = newW (.lst xs) S R := rfl
@[simp] theorem v_lstd {xs : List (D × D)} : listO (.dct xs) S R = newW (.lst (xs.map (·.1))) S R := rfl
@[simp] theorem v_tupt {xs : List D} : biW .tuple [.tup xs] S R = R (.tup xs) S := rfl
@[simp] theorem v_tupl {a : Addr} : biW .tuple [.loc a] S R = ∃ o, S a = some o ∧ tupO o S R := rfl
@[simp] theorem v_tupo {xs : List D} : tupO (.lst xs) S R = R (.tup xs) S := rfl
@[simp] theorem v_dict {a : Addr} : biW .dict [.loc a] S R = ∃ o, S a = some o ∧ dictO o S R := rfl
@[simp] theorem v_dictl {xs : List D} : dictO (.lst xs) S R = ∃ kvs, pairsD xs = some kvs ∧ newW (.dct (mergeD [] kvs)) S R := rfl
@[simp] theorem v_dictd {kvs : List (D × D)} : dictO (.dct kvs) S R = newW (.dct kvs) S R := rfl
@[simp] theorem v_max {a : Addr} : biW .max [.loc a] S R = ∃ o, S a = some o ∧ intsO maxW o S R := rfl
@[simp] theorem v_maxo {xs : List D} {g : List Int → Store → DVK → Prop} : intsO g (.lst xs) S R = ∃ ns, intsD xs = some ns ∧ g ns S R := rfl
@[simp] theorem v_max2 {i j : Int} : biW .max2 [.int i, .int j] S R = R (.int (max i j)) S := rfl
@[simp] theorem v_sum {a : Addr} : biW .sum [.loc a] S R = ∃ o, S a = some o ∧ intsO (fun ns S R => R (.int ns.sum) S) o S R := rfl
@[simp] theorem v_any {a : Addr} : biW .any [.loc a] S R = ∃ o, S a = some o ∧ boolsO (fun bs S R => R (.bl (bs.any id)) S) o S R := rfl
@[simp] theorem v_all {a : Addr} : biW .all [.loc a] S R = ∃ o, S a = some o ∧ boolsO (fun bs S R => R (.bl (bs.all id)) S) o S R := rfl
@[simp] theorem v_boo {xs : List D} {g : List Bool → Store → DVK → Prop} : boolsO g (.lst xs) S R = ∃ ns, boolsD xs = some ns ∧ g ns S R := rfl
@[simp] theorem v_rcv {m : Mt} {a : Addr} : recvOk m (.loc a) S = ∃ o, S a = some o ∧ (match m with | .append => isLst o = true | .extend => isLst o = true | .pop => isLst o = true | .pop0 => isLst o = true | .get => isDct o = true | .setdefault => isDct o = true | .update => isDct o = true | .index => isLst o = true) := rfl
@[simp] theorem v_isLst {xs : List D} : isLst (.lst xs) = true := rfl
@[simp] theorem v_isDct {xs : List (D × D)} : isDct (.dct xs) = true := rfl
@[simp] theorem v_app {a : Addr} {x : D} : mtW .append (.loc a) [x] S R = ∃ o, S a = some o ∧ appW x o a S R := rfl
@[simp] theorem v_appo {a : Addr} {x : D} {ys : List D} : appW x (.lst ys) a S R = (ys.length < sizeLine ∧ R .non (S.upd a (.lst (ys ++ [x])))) := rfl
@[simp] theorem v_pop {a : Addr} : mtW .pop (.loc a) [] S R = ∃ o, S a = some o ∧ popW o a S R := by
  show (∃ o, S a = some o ∧ ([] : List D) = [] ∧ popW o a S R) = _
  simp
@[simp] theorem v_popa {a : Addr} {zs : List D} {y : D} : popW (.lst (zs ++ [y])) a S R = R y (S.upd a (.lst zs)) := by
  show (∃ zs' y', zs ++ [y] = zs' ++ [y'] ∧ R y' (S.upd a (.lst zs'))) = _
  refine propext ⟨fun ⟨zs', y', e, h⟩ => ?_, fun h => ⟨zs, y, rfl, h⟩⟩
  obtain ⟨e1, e2⟩ := List.append_inj' e rfl
  cases e2
  rw [e1]
  exact h
@[simp] theorem v_ext {a : Addr} {x : D} : mtW .extend (.loc a) [x] S R = ∃ o, S a = some o ∧ extW x o a S R := rfl
@[simp] theorem v_exto {a b : Addr} {ys : List D} : extW (.loc b) (.lst ys) a S R = ∃ o, S b = some o ∧ extO ys a o S R := rfl
@[simp] theorem v_exto2 {a : Addr} {ys zs : List D} : extO ys a (.lst zs) S R = (ys.length + zs.length ≤ sizeLine ∧ R .non (S.upd a (.lst (ys ++ zs)))) := rfl
@[simp] theorem v_get {a : Addr} {k d : D} : mtW .get (.loc a) [k, d] S R = ∃ o, S a = some o ∧ getO k d o S R := rfl
@[simp] theorem v_geto {k d : D} {kvs : List (D × D)} : getO k d (.dct kvs) S R = (keyOk k = true ∧ R ((lookD kvs k).getD d) S) := rfl
@[simp] theorem v_getf {k d : D} {kvs : List (D × D)} : getO k d (.frz kvs) S R = (keyOk k = true ∧ R ((lookD kvs k).getD d) S) := rfl
variable {Q : Store → Prop}
@[simp] theorem v_set {a : Addr} {i v : D} : setW (.loc a) i v S Q = ∃ ob, S a = some ob ∧ setO a i v ob S Q := rfl
@[simp] theorem v_setl {a : Addr} {xs : List D} {k : Int} {v : D} : setO a (.int k) v (.lst xs) S Q = ∃ j, ixN xs.length k = some j ∧ Q (S.upd a (.lst (xs.set j v))) := rfl
@[simp] theorem v_setd {a : Addr} {kvs : List (D × D)} {k v : D} : setO a k v (.dct kvs) S Q = (keyOk k = true ∧ kvs.length < sizeLine ∧ Q (S.upd a (.dct (putD kvs k v)))) := rfl
@[simp] theorem k_int {i : Int} : keyOk (.int i) = true := rfl
@[simp] theorem k_str {i : String} : keyOk (.str i) = true := rfl
@[simp] theorem p_int {n : Nat} {i : Int} : D.pl n (.int i) = true := by cases n <;> rfl
@[simp] theorem p_str {n : Nat} {i : String} : D.pl n (.str i) = true := by cases n <;> rfl
@[simp] theorem p_bl {n : Nat} {i : Bool} : D.pl n (.bl i) = true := by cases n <;> rfl
@[simp] theorem p_non {n : Nat} : D.pl n .non = true := by cases n <;> rfl
@[simp] theorem p_nil {n : Nat} : D.pls n [] = true := by cases n <;> rfl
@[simp] theorem p_cons {n : Nat} {x : D} {xs : List D} : D.pls n (x :: xs) = (D.pl n x && D.pls n xs) := by cases n <;> rfl
@[simp] theorem e_ii {i j : Int} : eqd (.int i) (.int j) = (i == j) := rfl
@[simp] theorem e_ss {i j : String} : eqd (.str i) (.str j) = (i == j) := rfl
@[simp] theorem e_bb {i j : Bool} : eqd (.bl i) (.bl j) = (i == j) := rfl
@[simp] theorem b_one {i : Nat} {x : D} : bindT (.one i) x σ = some (σ.set i (some x)) := rfl
@[simp] theorem b_many {is : List Nat} {xs : List D} : bindT (.many is) (.tup xs) σ = bindAll is xs σ := rfl
@[simp] theorem b_all0 : bindAll [] [] σ = some σ := rfl
@[simp] theorem b_alls {i : Nat} {is : List Nat} {x : D} {xs : List D} : bindAll (i :: is) (x :: xs) σ = bindAll is xs (σ.set i (some x)) := rfl
@[simp] theorem ix0 {x : D} {xs : List D} : atD (x :: xs) 0 = some x := by
  show L2.atI (x :: xs) 0 = some x
  unfold L2.atI ixN
  simp
end
theorem sx_none (n d : Nat) : HT.sIx n d none = d := rfl
theorem sx_nat (n d k : Nat) : HT.sIx n d (some (k : Int)) = min k n := by
  show (if (k : Int) < 0 then ((k : Int) + (n : Int)).toNat else min (k : Int).toNat n) = min k n
  rw [if_neg (by omega), Int.toNat_natCast]
theorem cut_from {α : Type} (xs : List α) (k : Nat) : cutD xs (some (k : Int)) none = xs.drop k := by
  unfold cutD
  rw [sx_nat, sx_none]
  by_cases h : k ≤ xs.length
  · rw [Nat.min_eq_left h, List.take_of_length_le (by simp)]
  · rw [Nat.min_eq_right (by omega), List.drop_of_length_le (Nat.le_refl _), List.drop_of_length_le (by omega)]
    simp
theorem cut_to {α : Type} (xs : List α) (k : Nat) : cutD xs none (some (k : Int)) = xs.take k := by
  unfold cutD
  rw [sx_nat, sx_none]
  simp
@[simp] theorem cut_1 {α : Type} (xs : List α) : cutD xs (some 1) none = xs.drop 1 := cut_from xs 1
@[simp] theorem cut_2 {α : Type} (xs : List α) : cutD xs (some 2) none = xs.drop 2 := cut_from xs 2
@[simp] theorem cut_u1 {α : Type} (xs : List α) : cutD xs none (some 1) = xs.take 1 := cut_to xs 1
@[simp] theorem cut_u2 {α : Type} (xs : List α) : cutD xs none (some 2) = xs.take 2 := cut_to xs 2
theorem atD_nat {α : Type} (xs : List α) (k : Nat) : atD xs (k : Int) = xs[k]? := by
  show L2.atI xs k = xs[k]?
  unfold L2.atI ixN
  rw [if_pos (by omega)]
  by_cases h : k < xs.length
  · rw [if_pos (by omega)]
    simp
  · rw [if_neg (by omega)]
    simp
    omega
@[simp] theorem ix1 {x y : D} {xs : List D} : atD (x :: y :: xs) 1 = some y := atD_nat (x :: y :: xs) 1
@[simp] theorem ix2 {x y z : D} {xs : List D} : atD (x :: y :: z :: xs) 2 = some z := atD_nat (x :: y :: z :: xs) 2
@[simp] theorem ix3 {x y z w : D} {xs : List D} : atD (x :: y :: z :: w :: xs) 3 = some w := atD_nat (x :: y :: z :: w :: xs) 3
@[simp] theorem ix4 {x y z w v : D} {xs : List D} : atD (x :: y :: z :: w :: v :: xs) 4 = some v := atD_nat (x :: y :: z :: w :: v :: xs) 4
theorem line_le {n : Nat} (h : n ≤ 16777216) : n ≤ sizeLine := by rw [sizeLine_eq]; exact h
theorem line_lt {n : Nat} (h : n < 16777216) : n < sizeLine := by rw [sizeLine_eq]; exact h
@[simp] theorem line0 : 0 ≤ sizeLine := Nat.zero_le _
@[simp] theorem line1 : 1 ≤ sizeLine := line_le (by decide)
@[simp] theorem line2 : 2 ≤ sizeLine := line_le (by decide)
@[simp] theorem line3 : 3 ≤ sizeLine := line_le (by decide)
@[simp] theorem line4 : 4 ≤ sizeLine := line_le (by decide)
@[simp] theorem line5 : 5 ≤ sizeLine := line_le (by decide)
@[simp] theorem line6 : 6 ≤ sizeLine := line_le (by decide)
@[simp] theorem line7 : 7 ≤ sizeLine := line_le (by decide)
@[simp] theorem line8 : 8 ≤ sizeLine := line_le (by decide)
@[simp] theorem line9 : 9 ≤ sizeLine := line_le (by decide)
@[simp] theorem up_same {S : Store} {a : Addr} {o : MO} : S.upd a o a = some o := Store.upd_same
@[simp] theorem up_up {S : Store} {a : Addr} {o u : MO} : (S.upd a o).upd a u = S.upd a u := Store.upd_upd
theorem Le.set {S S' : Store} {p : Addr} {o : MO} (l : Le S S') (h : S p = Option.none) : Le S (S'.upd p o) := fun a ob e => by
  have n : a ≠ p := Store.ne e h
  rw [Store.upd_ne n]
  exact l a ob e
end Y

namespace Y
open PySem PySem.Spec L2
section
variable {Γ : G} {σ : DSt} {S : Store} {R : DVK} {Z : Ends}
@[simp] theorem x_lct {own : List Nat} {tg : Tg} {src : Src} {c : Option E} {e : E} : wp Γ (.lc own tg src c e) σ S R = wpi Γ src σ S fun xs ok S1 back => ∀ p, S1 p = none →
      lcL p ok (fun x S2 k => ∃ σ1, bindT tg x (wipeD σ own) = some σ1 ∧ wpc Γ c σ1 S2 fun t S3 => if t = true then wp Γ e σ1 S3 fun y S4 => k (some y) S4 else k none S3) xs [] (S1.upd p (.lst [])) fun S2 => R (.loc p) (back S2) := rfl
@[simp] theorem x_dct {own : List Nat} {tg : Tg} {src : Src} {c : Option E} {e v : E} : wp Γ (.dc own tg src c e v) σ S R = wpi Γ src σ S fun xs ok S1 back => ∀ p, S1 p = none →
      dcL p ok (fun x S2 k => ∃ σ1, bindT tg x (wipeD σ own) = some σ1 ∧ wpc Γ c σ1 S2 fun t S3 => if t = true then wp Γ e σ1 S3 fun y S4 => wp Γ v σ1 S4 fun z S5 => k (some (y, z)) S5 else k none S3) xs [] (S1.upd p (.dct [])) fun S2 => R (.loc p) (back S2) := rfl
@[simp] theorem x_frr {tg : Tg} {src : Src} {b : List Y.S} : ws Γ (.frr tg src b) Z σ S = wpi Γ src σ S fun xs ok S1 back => forL tg ok (wss Γ b) xs ⟨fun σ2 S2 => Z.nx σ2 (back S2), fun v S2 => Z.rt v (back S2)⟩ σ S1 := rfl
@[simp] theorem x_whl {c : E} {b : List Y.S} : ws Γ (.whl c b) Z σ S = ∃ n, whileN (wp Γ c) (wss Γ b) n Z σ S := rfl
abbrev WI := List D → (Store → Prop) → Store → (Store → Store) → Prop
/-- a list or a tuple, by its value -/
def seqI (x : D) (S : Store) (W : WI) : Prop := match x with
  | .tup xs => W xs (fun _ => True) S id
  | .loc a => ∃ xs, S a = some (.lst xs) ∧ W xs (fun S2 => S2 a = some (.lst xs)) S id
  | _ => False
@[simp] theorem i_seq {e : E} {W : WI} : wpi Γ (.seq e) σ S W = wp Γ e σ S fun x S1 => seqI x S1 W := by
  rw [wpi]
  congr 1
@[simp] theorem i_seqt {xs : List D} {W : WI} : seqI (.tup xs) S W = W xs (fun _ => True) S id := rfl
@[simp] theorem i_seql {a : Addr} {W : WI} : seqI (.loc a) S W = ∃ xs, S a = some (.lst xs) ∧ W xs (fun S2 => S2 a = some (.lst xs)) S id := rfl
@[simp] theorem i_rng {e : E} {W : WI} : wpi Γ (.range e) σ S W = wp Γ e σ S fun x S1 => ∃ n, x = .int n ∧ (-1000000 ≤ n ∧ n ≤ 1000000) ∧ W (rangeD n.toNat) (fun _ => True) S1 id := rfl
@[simp] theorem i_keys {i : Nat} {W : WI} : wpi Γ (.keys i) σ S W = ∃ a kvs, σ[i]? = some (some (.loc a)) ∧ S a = some (.dct kvs) ∧ W (kvs.map (·.1)) (fun S2 => S2 a = some (.frz kvs)) (S.upd a (.frz kvs)) (fun S2 => S2.upd a (.dct kvs)) := rfl
@[simp] theorem i_gk {x : String} {W : WI} : wpi Γ (.gkeys x) σ S W = ∃ kvs, Γ.gd x = some kvs ∧ W (kvs.map fun kv => D.str kv.1) (fun _ => True) S id := rfl
@[simp] theorem f_nil {tg : Tg} {ok : Store → Prop} {b : Ends → DSt → Store → Prop} : forL tg ok b [] Z σ S = (ok S ∧ Z.nx σ S) := rfl
@[simp] theorem f_cons {tg : Tg} {ok : Store → Prop} {b : Ends → DSt → Store → Prop} {x : D} {xs : List D} : forL tg ok b (x :: xs) Z σ S = (ok S ∧ ∃ σ1, bindT tg x σ = some σ1 ∧ b ⟨fun σ2 S2 => forL tg ok b xs Z σ2 S2, Z.rt⟩ σ1 S) := rfl
end
/-- a comprehension that changes nothing but its own list -/
theorem lc_pure {p : Addr} {ok : Store → Prop} {step : D → Store → (Option D → Store → Prop) → Prop} (g : D → Option D) (S0 : Store) {Q : Store → Prop} : ∀ (xs acc : List D), acc.length + xs.length ≤ 16777215 → (∀ ys, ok (S0.upd p (.lst ys))) →
    (∀ x ∈ xs, ∀ ys k, k (g x) (S0.upd p (.lst ys)) → step x (S0.upd p (.lst ys)) k) → Q (S0.upd p (.lst (acc ++ xs.filterMap g))) → lcL p ok step xs acc (S0.upd p (.lst acc)) Q
  | [], acc, _, ho, _, h => ⟨ho acc, by simpa using h⟩
  | x :: xs, acc, hl, ho, hs, h => by
    simp only [List.length_cons] at hl
    refine ⟨ho acc, hs x List.mem_cons_self acc _ ?_⟩
    cases e : g x with
    | none =>
      rw [List.filterMap_cons, e] at h
      exact lc_pure g S0 xs acc (by omega) ho (fun y hy => hs y (List.mem_cons_of_mem _ hy)) h
    | some y =>
      rw [List.filterMap_cons, e] at h
      refine ⟨Store.upd_same, line_lt (by omega), ?_⟩
      rw [Store.upd_upd]
      exact lc_pure g S0 xs (acc ++ [y]) (by simp; omega) ho (fun y hy => hs y (List.mem_cons_of_mem _ hy)) (by simpa using h)
/-- .. from the start -/
theorem lc_go {p : Addr} {ok : Store → Prop} {step : D → Store → (Option D → Store → Prop) → Prop} (g : D → Option D) {S0 : Store} {Q : Store → Prop} {xs : List D} (hl : xs.length ≤ 16777215) (ho : ∀ ys, ok (S0.upd p (.lst ys)))
    (hs : ∀ x ∈ xs, ∀ ys k, k (g x) (S0.upd p (.lst ys)) → step x (S0.upd p (.lst ys)) k) (h : Q (S0.upd p (.lst (xs.filterMap g)))) : lcL p ok step xs [] (S0.upd p (.lst [])) Q :=
  lc_pure g S0 xs [] (by simpa using hl) ho hs (by simpa using h)
def putAllD (g : D → Option (D × D)) : List D → List (D × D) → List (D × D)
  | [], acc => acc
  | x :: xs, acc => match g x with
    | none => putAllD g xs acc
    | some kv => putAllD g xs (putD acc kv.1 kv.2)
theorem putD_len (kvs : List (D × D)) (k v : D) : (putD kvs k v).length ≤ kvs.length + 1 := by
  induction kvs with
  | nil => simp [putD]
  | cons a r ih =>
    obtain ⟨k', v'⟩ := a
    unfold putD
    split <;> simp <;> omega
theorem dc_pure {p : Addr} {ok : Store → Prop} {step : D → Store → (Option (D × D) → Store → Prop) → Prop} (g : D → Option (D × D)) (S0 : Store) {Q : Store → Prop} : ∀ (xs : List D) (acc : List (D × D)), acc.length + xs.length ≤ 16777215 → (∀ ys, ok (S0.upd p (.dct ys))) →
    (∀ x ∈ xs, ∀ kv, g x = some kv → keyOk kv.1 = true) → (∀ x ∈ xs, ∀ ys k, k (g x) (S0.upd p (.dct ys)) → step x (S0.upd p (.dct ys)) k) → Q (S0.upd p (.dct (putAllD g xs acc))) → dcL p ok step xs acc (S0.upd p (.dct acc)) Q
  | [], acc, _, ho, _, _, h => ⟨ho acc, h⟩
  | x :: xs, acc, hl, ho, hk, hs, h => by
    simp only [List.length_cons] at hl
    refine ⟨ho acc, hs x List.mem_cons_self acc _ ?_⟩
    unfold putAllD at h
    cases e : g x with
    | none =>
      rw [e] at h
      exact dc_pure g S0 xs acc (by omega) ho (fun y hy => hk y (List.mem_cons_of_mem _ hy)) (fun y hy => hs y (List.mem_cons_of_mem _ hy)) h
    | some y =>
      rw [e] at h
      refine ⟨Store.upd_same, hk x List.mem_cons_self y e, line_lt (by omega), ?_⟩
      rw [Store.upd_upd]
      exact dc_pure g S0 xs (putD acc y.1 y.2) (by have := putD_len acc y.1 y.2; omega) ho (fun y hy => hk y (List.mem_cons_of_mem _ hy)) (fun y hy => hs y (List.mem_cons_of_mem _ hy)) h
theorem dc_go {p : Addr} {ok : Store → Prop} {step : D → Store → (Option (D × D) → Store → Prop) → Prop} (g : D → Option (D × D)) {S0 : Store} {Q : Store → Prop} {xs : List D} (hl : xs.length ≤ 16777215) (ho : ∀ ys, ok (S0.upd p (.dct ys)))
    (hk : ∀ x ∈ xs, ∀ kv, g x = some kv → keyOk kv.1 = true) (hs : ∀ x ∈ xs, ∀ ys k, k (g x) (S0.upd p (.dct ys)) → step x (S0.upd p (.dct ys)) k) (h : Q (S0.upd p (.dct (putAllD g xs [])))) : dcL p ok step xs [] (S0.upd p (.dct [])) Q :=
  dc_pure g S0 xs [] (by simpa using hl) ho hk hs h
/-! ### ints in tuples and lists -/
@[simp] theorem pls_ints (n : Nat) : ∀ ns : List Int, D.pls n (ns.map D.int) = true
  | [] => p_nil
  | _ :: ns => by simp [pls_ints n ns]
theorem any_ints (x : Int) : ∀ ns : List Int, ((ns.map D.int).any fun z => eqd z (.int x)) = ns.contains x
  | [] => rfl
  | n :: ns => by
    rw [List.map_cons, List.any_cons, any_ints x ns, List.contains_cons, e_ii]
    congr 1
    rw [Bool.eq_iff_iff]
    simp
    exact eq_comm
theorem ints_of (ns : List Int) : intsD (ns.map D.int) = some ns := by
  induction ns with
  | nil => rfl
  | cons n ns ih => rw [List.map_cons]; unfold intsD; rw [ih]; rfl
theorem bools_of (ns : List Bool) : boolsD (ns.map D.bl) = some ns := by
  induction ns with
  | nil => rfl
  | cons n ns ih => rw [List.map_cons]; unfold boolsD; rw [ih]; rfl
/-- dicts whose keys are ints -/
def setKv (bd : List Int) : List (D × D) := bd.map fun x => (.int x, .bl true)
theorem look_setKv (x : Int) : ∀ bd : List Int, (lookD (setKv bd) (.int x)).isSome = bd.contains x
  | [] => rfl
  | b :: bd => by
    show (if D.int b = D.int x then some (D.bl true) else lookD (setKv bd) (.int x)).isSome = _
    rw [List.contains_cons]
    by_cases e : b = x
    · subst e; simp
    · have e2 : ¬ D.int b = D.int x := fun z => e (by cases z; rfl)
      rw [if_neg e2, look_setKv x bd]
      have : (x == b) = false := by simpa using Ne.symm e
      rw [this]
      rfl
theorem put_setKv {x : Int} : ∀ {bd : List Int}, bd.contains x = false → putD (setKv bd) (.int x) (.bl true) = setKv (bd ++ [x])
  | [], _ => rfl
  | b :: bd, h => by
    rw [List.contains_cons, Bool.or_eq_false_iff] at h
    have e2 : ¬ D.int b = D.int x := fun z => by cases z; simp at h
    show (if D.int b = D.int x then (D.int b, D.bl true) :: setKv bd else (D.int b, D.bl true) :: putD (setKv bd) (.int x) (.bl true)) = _
    rw [if_neg e2, put_setKv h.2]
    rfl
end Y

namespace Y
open PySem
def ir_is_whole : List S := [
  .ret (.bop true [(.isi (.var 0) .int), (.not (.isi (.var 0) .bool))])]
def ck_is_whole : Ck := ⟨["value"], [], [], [], false⟩
def ir_name_of : List S := [
  .ife (.bop true [(.isi (.var 0) .tuple), (.cmp .gt (.bi .len [(.var 0)]) (.int 0)), (.isi (.sub (.var 0) (.int 0)) .str)]) [.ret (.sub (.var 0) (.int 0))] [],
  .ret (.str "")]
def ck_name_of : Ck := ⟨["value"], [], [], [], false⟩
def ir_is_land : List S := [
  .ife (.bop false [(.not (.isi (.var 0) .tuple)), (.cmp .ne (.bi .len [(.var 0)]) (.int 2)), (.not (.bi .all [(.lc [1] (.one 1) (.seq (.var 0)) none (.call "is_whole" [(.var 1)]))]))]) [.ret (.bl false)] [],
  .ret (.bop true [(.cmp2 .le .le (.int 1) (.sub (.var 0) (.int 0)) (.int 3)), (.cmp2 .le .le (.int 1) (.sub (.var 0) (.int 1)) (.int 2))])]
def ck_is_land : Ck := ⟨["value", "item"], [("is_whole", 1)], [], [], false⟩
def ir_inner_sayings : List S := [
  .asg (.name (.one 2)) (.call "name_of" [(.var 1)]),
  .ife (.cmp .eq (.var 2) (.str "")) [.ret .non] [],
  .ife (.cmp .inn (.var 2) (.tup [(.str "yes"), (.str "no")])) [.ret (.ite (.cmp .eq (.bi .len [(.var 1)]) (.int 1)) (.lst []) .non)] [],
  .ife (.cmp .inn (.var 2) (.tup [(.str "both"), (.str "either")])) [.ret (.ite (.cmp .eq (.bi .len [(.var 1)]) (.int 3)) (.bi .list [(.slc (.var 1) (some (.int 1)) none)]) .non)] [],
  .asg (.name (.one 3)) (.mt .get (.dsp [(.str "is"), (.sub (.var 0) (.int 0)), (.str "isnt"), (.sub (.var 0) (.int 0)), (.str "some"), (.sub (.var 0) (.int 1)), (.str "all"), (.sub (.var 0) (.int 1))]) [(.var 2), (.gv "MOST_NAMES")]),
  .ife (.bop false [(.cmp .lt (.bi .len [(.var 1)]) (.int 2)), (.not (.call "is_whole" [(.sub (.var 1) (.int 1))])), (.not (.cmp2 .le .lt (.int 0) (.sub (.var 1) (.int 1)) (.var 3)))]) [.ret .non] [],
  .ife (.cmp .inn (.var 2) (.tup [(.str "is"), (.str "isnt"), (.str "name")])) [.ret (.ite (.cmp .eq (.bi .len [(.var 1)]) (.int 2)) (.lst []) .non)] [],
  .ife (.cmp .inn (.var 2) (.tup [(.str "some"), (.str "all"), (.str "least"), (.str "greatest")])) [.ret (.ite (.cmp .eq (.bi .len [(.var 1)]) (.int 3)) (.lst [(.sub (.var 1) (.int 2))]) .non)] [],
  .ret .non]
def ck_inner_sayings : Ck := ⟨["land", "part", "name", "most"], [("name_of", 1), ("is_whole", 1)], ["MOST_NAMES"], [], false⟩
def ir_is_saying : List S := [
  .asg (.name (.one 2)) (.dsp []),
  .asg (.name (.one 3)) (.lst [(.tup [(.var 1), (.tup []), (.tup [])])]),
  .asg (.name (.one 4)) (.int 0),
  .whl (.cmp .gt (.bi .len [(.var 3)]) (.int 0)) [.asg (.name (.many [6, 7, 8])) (.mt .pop (.var 3) []), .aug 4 .add (.int 1), .asg (.name (.one 5)) (.ite (.cmp .le (.var 4) (.gv "MOST_SIZE")) (.call "inner_sayings" [(.var 0), (.var 6)]) .non), .ife (.cmp .isn (.var 5) .non) [.ret (.bl false)] [], .ife (.bop true [(.cmp .eq (.sub (.var 6) (.int 0)) (.str "name")), (.cmp .notin (.sub (.var 6) (.int 1)) (.var 8))]) [.ret (.bl false)] [], .ife (.cmp .inn (.sub (.var 6) (.int 0)) (.gv "BINDERS")) [.ife (.cmp .inn (.sub (.var 6) (.int 1)) (.var 2)) [.ret (.bl false)] [], .asg (.sub (.var 2) (.sub (.var 6) (.int 1))) (.bl true), .asg (.name (.one 7)) (.op .add (.var 7) (.tup [(.sub (.var 6) (.int 1))]))] [.ife (.cmp .inn (.sub (.var 6) (.int 0)) (.tup [(.str "some"), (.str "all")])) [.asg (.name (.one 8)) (.var 7)] []], .ex (.mt .extend (.var 3) [(.lc [9] (.one 9) (.seq (.var 5)) none (.tup [(.var 9), (.var 7), (.var 8)]))])],
  .ret (.bl true)]
def ck_is_saying : Ck := ⟨["land", "value", "bound", "waiting", "many", "inner", "part", "known", "free", "item"], [("inner_sayings", 2)], ["BINDERS", "MOST_SIZE"], [], false⟩
def ir_parts_of : List S := [
  .ife (.cmp .inn (.sub (.var 0) (.int 0)) (.tup [(.str "both"), (.str "either")])) [.ret (.slc (.var 0) (some (.int 1)) none)] [],
  .ret (.slc (.var 0) (some (.int 2)) none)]
def ck_parts_of : Ck := ⟨["saying"], [], [], [], false⟩
def ir_all_parts : List S := [
  .asg (.name (.one 1)) (.lst []),
  .asg (.name (.one 2)) (.lst [(.var 0)]),
  .whl (.cmp .gt (.bi .len [(.var 2)]) (.int 0)) [.asg (.name (.one 3)) (.mt .pop (.var 2) []), .ex (.mt .append (.var 1) [(.var 3)]), .ex (.mt .extend (.var 2) [(.rev (.bi .list [(.call "parts_of" [(.var 3)])]))])],
  .ret (.var 1)]
def ck_all_parts : Ck := ⟨["saying", "found", "waiting", "part"], [("parts_of", 1)], [], [], false⟩
def ir_with_parts : List S := [
  .ife (.cmp .inn (.sub (.var 0) (.int 0)) (.tup [(.str "both"), (.str "either")])) [.ret (.op .add (.tup [(.sub (.var 0) (.int 0))]) (.bi .tuple [(.var 1)]))] [],
  .ret (.op .add (.slc (.var 0) none (some (.int 2))) (.bi .tuple [(.var 1)]))]
def ck_with_parts : Ck := ⟨["saying", "parts"], [], [], [], false⟩
def ir_against : List S := [
  .asg (.name (.one 1)) (.dc [2] (.one 2) (.gkeys "TURNED") none (.sub (.gv "TURNED") (.var 2)) (.var 2)),
  .frr (.one 2) (.gkeys "TURNED") [.asg (.sub (.var 1) (.var 2)) (.sub (.gv "TURNED") (.var 2))],
  .asg (.name (.one 3)) (.call "with_parts" [(.var 0), (.lc [4] (.one 4) (.seq (.call "parts_of" [(.var 0)])) none (.call "against" [(.var 4)]))]),
  .ret (.op .add (.tup [(.mt .get (.var 1) [(.sub (.var 0) (.int 0)), (.sub (.var 0) (.int 0))])]) (.slc (.var 3) (some (.int 1)) none))]
def ck_against : Ck := ⟨["saying", "back", "key", "found", "part"], [("with_parts", 2), ("against", 1), ("parts_of", 1)], [], ["TURNED"], false⟩
def ir_size_of : List S := [
  .ret (.bi .len [(.call "all_parts" [(.var 0)])])]
def ck_size_of : Ck := ⟨["saying"], [("all_parts", 1)], [], [], false⟩
def ir_binders_in : List S := [
  .ret (.dc [1] (.one 1) (.seq (.call "all_parts" [(.var 0)])) (some (.cmp .inn (.sub (.var 1) (.int 0)) (.gv "BINDERS"))) (.sub (.var 1) (.int 1)) (.var 1))]
def ck_binders_in : Ck := ⟨["saying", "part"], [("all_parts", 1)], ["BINDERS"], [], false⟩
def ir_levels_of : List S := [
  .asg (.name (.one 1)) (.dsp []),
  .frr (.one 2) (.seq (.rev (.call "all_parts" [(.var 0)]))) [.ife (.cmp .inn (.sub (.var 2) (.int 0)) (.gv "BINDERS")) [.asg (.name (.one 3)) (.lc [5] (.one 5) (.seq (.call "all_parts" [(.sub (.var 2) (.int 2))])) (some (.cmp .inn (.sub (.var 5) (.int 0)) (.gv "BINDERS"))) (.sub (.var 1) (.sub (.var 5) (.int 1)))), .asg (.name (.one 4)) (.bi .max [(.op .add (.var 3) (.lst [(.ite (.cmp .eq (.sub (.var 2) (.int 0)) (.str "least")) (.int 1) (.int 2))]))]), .asg (.sub (.var 1) (.sub (.var 2) (.int 1))) (.ite (.cmp .eq (.cmp .eq (.op .mod (.var 4) (.int 2)) (.int 1)) (.cmp .eq (.sub (.var 2) (.int 0)) (.str "least"))) (.var 4) (.op .add (.var 4) (.int 1)))] []],
  .ret (.var 1)]
def ck_levels_of : Ck := ⟨["saying", "found", "part", "inner", "level", "one"], [("all_parts", 1)], ["BINDERS"], [], false⟩
def ir_top_level : List S := [
  .ret (.bi .max [(.op .add (.lst [(.int 0)]) (.bi .listvals [(.call "levels_of" [(.var 0)])]))])]
def ck_top_level : Ck := ⟨["saying"], [("levels_of", 1)], [], [], false⟩
def ir__law_same : List S := [
  .ife (.bop false [(.isi (.var 1) .tuple), (.isi (.var 1) .list)]) [.ife (.bop false [(.cmp .ne (.isi (.var 1) .tuple) (.isi (.var 0) .tuple)), (.cmp .ne (.isi (.var 1) .list) (.isi (.var 0) .list)), (.cmp .ne (.bi .len [(.var 0)]) (.bi .len [(.var 1)]))]) [.ret (.bl false)] [], .ret (.cmp .eq (.bi .len [(.lc [2] (.one 2) (.range (.bi .len [(.var 1)])) (some (.not (.call "_law_same" [(.sub (.var 0) (.var 2)), (.sub (.var 1) (.var 2))]))) (.var 2))]) (.int 0))] [],
  .ife (.cmp .isn (.var 1) .non) [.ret (.cmp .isn (.var 0) .non)] [],
  .ife (.bop false [(.isi (.var 1) .bool), (.isi (.var 0) .bool)]) [.ret (.bop true [(.isi (.var 1) .bool), (.isi (.var 0) .bool), (.cmp .eq (.var 0) (.var 1))])] [],
  .ife (.isi (.var 1) .int) [.ret (.bop true [(.isi (.var 0) .int), (.cmp .eq (.var 0) (.var 1))])] [],
  .ret (.bop true [(.isi (.var 0) .str), (.cmp .eq (.var 0) (.var 1))])]
def ck__law_same : Ck := ⟨["actual", "due", "k"], [("_law_same", 2)], [], [], false⟩
def ir__law_is_integer : List S := [
  .ret (.bop true [(.isi (.var 0) .int), (.not (.isi (.var 0) .bool))])]
def ck__law_is_integer : Ck := ⟨["actual"], [], [], [], false⟩
def ir__law_pool : List S := [
  .asg (.name (.one 1)) (.int 7),
  .frr (.one 2) (.seq (.slc (.var 0) none (some (.int 63)))) [.asg (.name (.one 1)) (.op .mod (.bi .int [(.op .add (.op .mul (.var 1) (.int 31)) (.var 2))]) (.int 1000003))],
  .ret (.lst [(.bi .list [(.var 0)]), (.int 0), (.int 0), (.int 0), (.var 1)])]
def ck__law_pool : Ck := ⟨["script", "salt", "cell"], [], [], [], false⟩
def ir__law_spread : List S := [
  .asg (.name (.one 1)) (.op .mod (.bi .int [(.var 0)]) (.int 2147483647)),
  .asg (.name (.one 2)) (.int 1),
  .frr (.one 3) (.range (.int 4)) [.asg (.name (.one 1)) (.op .mod (.bi .int [(.op .add (.op .add (.op .mul (.var 1) (.int 48271)) (.int 12345)) (.var 3))]) (.int 2147483647)), .asg (.name (.one 2)) (.op .add (.op .mul (.var 2) (.int 2147483647)) (.var 1))],
  .ret (.var 2)]
def ck__law_spread : Ck := ⟨["cell", "mixed", "total", "k"], [], [], [], false⟩
def ir__law_draw : List S := [
  .ife (.bop true [(.cmp .le (.sub (.var 0) (.int 2)) (.int 0)), (.cmp .lt (.sub (.var 0) (.int 1)) (.bi .len [(.sub (.var 0) (.int 0))]))]) [.asg (.name (.one 3)) (.sub (.sub (.var 0) (.int 0)) (.sub (.var 0) (.int 1))), .asg (.sub (.var 0) (.int 1)) (.op .add (.sub (.var 0) (.int 1)) (.int 1)), .asg (.sub (.var 0) (.int 2)) (.var 3), .ife (.cmp .lt (.var 3) (.int 1000000000000000000)) [.asg (.sub (.var 0) (.int 2)) (.call "_law_spread" [(.var 3)])] []] [],
  .asg (.sub (.var 0) (.int 3)) (.op .add (.sub (.var 0) (.int 3)) (.int 1)),
  .ife (.cmp .le (.sub (.var 0) (.int 2)) (.int 0)) [.asg (.name (.one 4)) (.op .mod (.bi .int [(.op .add (.op .add (.op .mul (.sub (.var 0) (.int 4)) (.int 48271)) (.op .mul (.sub (.var 0) (.int 3)) (.int 69621))) (.int 1))]) (.int 2147483647)), .asg (.name (.one 4)) (.op .mod (.bi .int [(.op .add (.op .mul (.var 4) (.int 16807)) (.sub (.var 0) (.int 3)))]) (.int 2147483629)), .ret (.op .mod (.op .fdiv (.var 4) (.int 5)) (.var 1))] [],
  .asg (.name (.one 2)) (.op .mod (.bi .int [(.sub (.var 0) (.int 2))]) (.var 1)),
  .asg (.sub (.var 0) (.int 2)) (.op .fdiv (.sub (.var 0) (.int 2)) (.var 1)),
  .ret (.var 2)]
def ck__law_draw : Ck := ⟨["pool", "many", "value", "cell", "mixed"], [("_law_spread", 1)], [], [], false⟩
def ir__law_pick : List S := [
  .ret (.sub (.var 1) (.call "_law_draw" [(.var 0), (.bi .len [(.var 1)])]))]
def ck__law_pick : Ck := ⟨["pool", "items"], [("_law_draw", 2)], [], [], false⟩
def ir__law_bent : List S := [
  .ife (.bop true [(.isi (.var 1) .tuple), (.cmp .gt (.bi .len [(.var 1)]) (.int 0)), (.cmp .gt (.call "_law_draw" [(.var 0), (.int 3)]) (.int 0))]) [.asg (.name (.one 3)) (.call "_law_draw" [(.var 0), (.bi .len [(.var 1)])]), .ret (.op .add (.op .add (.slc (.var 1) none (some (.var 3))) (.tup [(.call "_law_bent" [(.var 0), (.sub (.var 1) (.var 3))])])) (.slc (.var 1) (some (.op .add (.var 3) (.int 1))) none))] [],
  .asg (.name (.one 2)) (.call "_law_draw" [(.var 0), (.int 9)]),
  .ife (.cmp .eq (.var 2) (.int 0)) [.ret (.sub (.tup [(.str "x"), (.bl true), (.tup []), (.int 0), (.neg (.int 1)), .non, (.bl false), (.lst [])]) (.call "_law_draw" [(.var 0), (.int 8)]))] [],
  .ife (.call "_law_is_integer" [(.var 1)]) [.ret (.op .add (.var 1) (.sub (.tup [(.int 1), (.neg (.int 1)), (.int 2), (.int 0)]) (.call "_law_draw" [(.var 0), (.int 4)])))] [],
  .ife (.isi (.var 1) .str) [.ret (.sub (.tup [(.op .add (.var 1) (.str "a")), (.slc (.var 1) (some (.int 1)) none), (.op .add (.var 1) (.str "A")), (.op .add (.var 1) (.str " ")), (.slc (.var 1) none (some (.int 1)))]) (.call "_law_draw" [(.var 0), (.int 5)]))] [],
  .ife (.bop false [(.not (.isi (.var 1) .tuple)), (.cmp .eq (.bi .len [(.var 1)]) (.int 0))]) [.ret (.ite (.cmp .lt (.var 2) (.int 5)) (.tup [(.var 1), (.int 0)]) (.tup []))] [],
  .asg (.name (.one 3)) (.call "_law_draw" [(.var 0), (.bi .len [(.var 1)])]),
  .ife (.cmp .lt (.var 2) (.int 3)) [.ret (.op .add (.slc (.var 1) none (some (.var 3))) (.slc (.var 1) (some (.op .add (.var 3) (.int 1))) none))] [],
  .ife (.cmp .lt (.var 2) (.int 5)) [.ret (.op .add (.op .add (.slc (.var 1) none (some (.var 3))) (.tup [(.sub (.var 1) (.var 3))])) (.slc (.var 1) (some (.var 3)) none))] [],
  .ife (.cmp .eq (.var 2) (.int 5)) [.ret (.bi .list [(.var 1)])] [],
  .asg (.name (.one 4)) (.call "_law_draw" [(.var 0), (.bi .len [(.var 1)])]),
  .asg (.name (.one 5)) (.bi .list [(.var 1)]),
  .asg (.sub (.var 5) (.var 3)) (.sub (.var 1) (.var 4)),
  .asg (.sub (.var 5) (.var 4)) (.sub (.var 1) (.var 3)),
  .ret (.bi .tuple [(.var 5)])]
def ck__law_bent : Ck := ⟨["pool", "value", "turn", "at", "other", "items"], [("_law_draw", 2), ("_law_is_integer", 1), ("_law_bent", 2)], [], [], false⟩
def ir__law_land : List S := [
  .ret (.sub (.tup [(.tup [(.int 1), (.int 1)]), (.tup [(.int 2), (.int 1)]), (.tup [(.int 1), (.int 2)]), (.tup [(.int 3), (.int 1)]), (.tup [(.int 2), (.int 2)])]) (.call "_law_draw" [(.var 0), (.int 5)]))]
def ck__law_land : Ck := ⟨["pool"], [("_law_draw", 2)], [], [], false⟩
def ir__law_saying : List S := [
  .asg (.name (.one 6)) (.ite (.cmp .gt (.var 2) (.int 0)) (.call "_law_draw" [(.var 0), (.int 13)]) (.call "_law_draw" [(.var 0), (.int 5)])),
  .ife (.bop false [(.cmp .lt (.var 6) (.int 2)), (.bop true [(.cmp .eq (.var 6) (.int 3)), (.cmp .eq (.bi .len [(.var 5)]) (.int 0))])]) [.ret (.tup [(.sub (.tup [(.str "is"), (.str "isnt")]) (.ite (.cmp .lt (.var 6) (.int 2)) (.op .mod (.var 6) (.int 2)) (.int 0))), (.call "_law_draw" [(.var 0), (.sub (.var 1) (.int 0))])])] [],
  .ife (.cmp .eq (.var 6) (.int 2)) [.ret (.ite (.cmp .eq (.call "_law_draw" [(.var 0), (.int 3)]) (.int 0)) (.sub (.tup [(.tup [(.str "yes")]), (.tup [(.str "no")])]) (.call "_law_draw" [(.var 0), (.int 2)])) (.tup [(.str "is"), (.call "_law_draw" [(.var 0), (.sub (.var 1) (.int 0))])]))] [],
  .ife (.cmp .lt (.var 6) (.int 5)) [.ret (.ite (.cmp .gt (.bi .len [(.var 5)]) (.int 0)) (.tup [(.str "name"), (.call "_law_pick" [(.var 0), (.bi .list [(.var 5)])])]) (.tup [(.str "isnt"), (.call "_law_draw" [(.var 0), (.sub (.var 1) (.int 0))])]))] [],
  .ife (.cmp .lt (.var 6) (.int 8)) [.ret (.tup [(.sub (.tup [(.str "both"), (.str "either")]) (.call "_law_draw" [(.var 0), (.int 2)])), (.call "_law_saying" [(.var 0), (.var 1), (.op .sub (.var 2) (.int 1)), (.var 3), (.var 4), (.var 5)]), (.call "_law_saying" [(.var 0), (.var 1), (.op .sub (.var 2) (.int 1)), (.var 3), (.var 4), (.var 5)])])] [],
  .ife (.cmp .lt (.var 6) (.int 11)) [.ret (.tup [(.sub (.tup [(.str "some"), (.str "all")]) (.call "_law_draw" [(.var 0), (.int 2)])), (.call "_law_draw" [(.var 0), (.sub (.var 1) (.int 1))]), (.call "_law_saying" [(.var 0), (.var 1), (.op .sub (.var 2) (.int 1)), (.var 3), (.var 4), (.var 4)])])] [],
  .asg (.name (.one 7)) (.bi .len [(.var 3)]),
  .ife (.cmp .gt (.var 7) (.int 4)) [.ret (.tup [(.str "is"), (.int 0)])] [],
  .ex (.mt .append (.var 3) [(.var 7)]),
  .ret (.tup [(.sub (.tup [(.str "least"), (.str "greatest")]) (.call "_law_draw" [(.var 0), (.int 2)])), (.var 7), (.call "_law_saying" [(.var 0), (.var 1), (.op .sub (.var 2) (.int 1)), (.var 3), (.op .add (.var 4) (.tup [(.var 7)])), (.var 5)])])]
def ck__law_saying : Ck := ⟨["pool", "land", "deep", "state", "known", "free", "turn", "x"], [("_law_draw", 2), ("_law_saying", 6), ("_law_pick", 2)], [], [], false⟩
def ir__law_drawn : List S := [
  .asg (.name (.one 3)) (.call "_law_draw" [(.var 0), (.int 4)]),
  .ife (.cmp .eq (.var 3) (.int 0)) [.asg (.name (.one 4)) (.call "_law_draw" [(.var 0), (.int 2)]), .asg (.name (.one 5)) (.call "_law_saying" [(.var 0), (.var 1), (.op .sub (.var 2) (.int 2)), (.lst [(.int 0), (.int 1)]), (.tup [(.int 0), (.int 1)]), (.tup [])]), .asg (.name (.one 6)) (.tup [(.str "either"), (.tup [(.str "both"), (.var 5), (.tup [(.str "some"), (.call "_law_draw" [(.var 0), (.sub (.var 1) (.int 1))]), (.tup [(.str "name"), (.int 0)])])]), (.tup [(.sub (.tup [(.str "some"), (.str "all")]) (.call "_law_draw" [(.var 0), (.int 2)])), (.int 0), (.tup [(.str "name"), (.int 1)])])]), .ret (.tup [(.sub (.tup [(.str "greatest"), (.str "least")]) (.var 4)), (.int 0), (.tup [(.sub (.tup [(.str "least"), (.str "greatest")]) (.var 4)), (.int 1), (.var 6)])])] [],
  .ife (.cmp .eq (.var 3) (.int 1)) [.ret (.tup [(.sub (.tup [(.str "least"), (.str "greatest")]) (.call "_law_draw" [(.var 0), (.int 2)])), (.int 0), (.call "_law_saying" [(.var 0), (.var 1), (.var 2), (.lst [(.int 0)]), (.tup [(.int 0)]), (.tup [])])])] [],
  .ret (.call "_law_saying" [(.var 0), (.var 1), (.op .add (.var 2) (.int 1)), (.lst []), (.tup []), (.tup [])])]
def ck__law_drawn : Ck := ⟨["pool", "land", "deep", "first", "kind", "f", "body"], [("_law_draw", 2), ("_law_saying", 6)], [], [], false⟩
def ir__law_parts : List S := [
  .ife (.cmp .inn (.sub (.var 0) (.int 0)) (.tup [(.str "both"), (.str "either")])) [.ret (.slc (.var 0) (some (.int 1)) none)] [],
  .ret (.slc (.var 0) (some (.int 2)) none)]
def ck__law_parts : Ck := ⟨["f"], [], [], [], false⟩
def ir__law_size : List S := [
  .ret (.op .add (.int 1) (.bi .sum [(.lc [1] (.one 1) (.seq (.call "_law_parts" [(.var 0)])) none (.call "_law_size" [(.var 1)]))]))]
def ck__law_size : Ck := ⟨["f", "part"], [("_law_size", 1), ("_law_parts", 1)], [], [], false⟩
def ir__law_turn : List S := [
  .ife (.cmp .inn (.sub (.var 0) (.int 0)) (.tup [(.str "yes"), (.str "no")])) [.ret (.tup [(.sub (.dsp [(.str "yes"), (.str "no"), (.str "no"), (.str "yes")]) (.sub (.var 0) (.int 0)))])] [],
  .ife (.cmp .inn (.sub (.var 0) (.int 0)) (.tup [(.str "is"), (.str "isnt")])) [.ret (.tup [(.sub (.dsp [(.str "is"), (.str "isnt"), (.str "isnt"), (.str "is")]) (.sub (.var 0) (.int 0))), (.sub (.var 0) (.int 1))])] [],
  .ife (.cmp .inn (.sub (.var 0) (.int 0)) (.tup [(.str "both"), (.str "either")])) [.ret (.tup [(.sub (.dsp [(.str "both"), (.str "either"), (.str "either"), (.str "both")]) (.sub (.var 0) (.int 0))), (.call "_law_turn" [(.sub (.var 0) (.int 1))]), (.call "_law_turn" [(.sub (.var 0) (.int 2))])])] [],
  .ife (.cmp .eq (.sub (.var 0) (.int 0)) (.str "name")) [.ret (.var 0)] [],
  .ret (.tup [(.sub (.dsp [(.str "some"), (.str "all"), (.str "all"), (.str "some"), (.str "least"), (.str "greatest"), (.str "greatest"), (.str "least")]) (.sub (.var 0) (.int 0))), (.sub (.var 0) (.int 1)), (.call "_law_turn" [(.sub (.var 0) (.int 2))])])]
def ck__law_turn : Ck := ⟨["f"], [("_law_turn", 1)], [], [], false⟩
def ir__law_form : List S := [
  .ife (.bop false [(.not (.isi (.var 1) .tuple)), (.cmp .eq (.bi .len [(.var 1)]) (.int 0)), (.not (.isi (.sub (.var 1) (.int 0)) .str))]) [.ret (.bl false)] [],
  .asg (.name (.one 5)) (.sub (.var 1) (.int 0)),
  .ife (.cmp .inn (.var 5) (.tup [(.str "yes"), (.str "no")])) [.ret (.cmp .eq (.bi .len [(.var 1)]) (.int 1))] [],
  .ife (.cmp .inn (.var 5) (.tup [(.str "both"), (.str "either")])) [.ret (.bop true [(.cmp .eq (.bi .len [(.var 1)]) (.int 3)), (.call "_law_form" [(.var 0), (.sub (.var 1) (.int 1)), (.var 2), (.var 3), (.var 4)]), (.call "_law_form" [(.var 0), (.sub (.var 1) (.int 2)), (.var 2), (.var 3), (.var 4)])])] [],
  .ife (.bop false [(.cmp .lt (.bi .len [(.var 1)]) (.int 2)), (.not (.call "_law_is_integer" [(.sub (.var 1) (.int 1))])), (.cmp .lt (.sub (.var 1) (.int 1)) (.int 0))]) [.ret (.bl false)] [],
  .ife (.cmp .inn (.var 5) (.tup [(.str "is"), (.str "isnt")])) [.ret (.bop true [(.cmp .eq (.bi .len [(.var 1)]) (.int 2)), (.cmp .lt (.sub (.var 1) (.int 1)) (.sub (.var 0) (.int 0)))])] [],
  .ife (.cmp .eq (.var 5) (.str "name")) [.ret (.bop true [(.cmp .eq (.bi .len [(.var 1)]) (.int 2)), (.cmp .inn (.sub (.var 1) (.int 1)) (.var 3))])] [],
  .ife (.cmp .inn (.var 5) (.tup [(.str "some"), (.str "all")])) [.ret (.bop true [(.cmp .eq (.bi .len [(.var 1)]) (.int 3)), (.cmp .lt (.sub (.var 1) (.int 1)) (.sub (.var 0) (.int 1))), (.call "_law_form" [(.var 0), (.sub (.var 1) (.int 2)), (.var 2), (.var 2), (.var 4)])])] [],
  .ife (.bop false [(.cmp .notin (.var 5) (.tup [(.str "least"), (.str "greatest")])), (.cmp .ne (.bi .len [(.var 1)]) (.int 3)), (.cmp .gt (.sub (.var 1) (.int 1)) (.int 19)), (.cmp .inn (.sub (.var 1) (.int 1)) (.var 4))]) [.ret (.bl false)] [],
  .ex (.mt .append (.var 4) [(.sub (.var 1) (.int 1))]),
  .ret (.call "_law_form" [(.var 0), (.sub (.var 1) (.int 2)), (.op .add (.var 2) (.tup [(.sub (.var 1) (.int 1))])), (.var 3), (.var 4)])]
def ck__law_form : Ck := ⟨["land", "f", "known", "free", "seen", "name"], [("_law_form", 5), ("_law_is_integer", 1)], [], [], false⟩
def ir__law_binders : List S := [
  .asg (.name (.one 1)) (.ite (.cmp .inn (.sub (.var 0) (.int 0)) (.tup [(.str "least"), (.str "greatest")])) (.lst [(.var 0)]) (.lst [])),
  .frr (.one 2) (.seq (.call "_law_parts" [(.var 0)])) [.asg (.name (.one 1)) (.op .add (.var 1) (.call "_law_binders" [(.var 2)]))],
  .ret (.var 1)]
def ck__law_binders : Ck := ⟨["f", "found", "part"], [("_law_parts", 1), ("_law_binders", 1)], [], [], false⟩
def ir__law_level : List S := [
  .asg (.name (.one 1)) (.bi .max [(.op .add (.lst [(.int 0)]) (.lc [3] (.one 3) (.seq (.call "_law_binders" [(.sub (.var 0) (.int 2))])) none (.call "_law_level" [(.var 3)])))]),
  .asg (.name (.one 2)) (.bi .max2 [(.var 1), (.ite (.cmp .eq (.sub (.var 0) (.int 0)) (.str "least")) (.int 1) (.int 2))]),
  .ret (.op .add (.var 2) (.ite (.cmp .eq (.cmp .eq (.op .mod (.bi .int [(.var 2)]) (.int 2)) (.int 1)) (.cmp .eq (.sub (.var 0) (.int 0)) (.str "least"))) (.int 0) (.int 1)))]
def ck__law_level : Ck := ⟨["f", "inner", "level", "one"], [("_law_level", 1), ("_law_binders", 1)], [], [], false⟩
end Y

namespace Y
open PySem PySem.Spec L2
/-! ### values -/
mutual
/-- a value of the laws: its lists stand in the store -/
def Vl (S : Store) : D → Prop
  | .tup xs => Vls S xs
  | .loc a => ∃ xs, S a = some (.lst xs)
  | .scr _ => False
  | .non => True
  | .bl _ => True
  | .int _ => True
  | .str _ => True
def Vls (S : Store) : List D → Prop
  | [] => True
  | x :: xs => Vl S x ∧ Vls S xs
end
@[simp] theorem vls_nil {S : Store} : Vls S [] := by unfold Vls; trivial
@[simp] theorem vls_cons {S : Store} {x : D} {xs : List D} : Vls S (x :: xs) = (Vl S x ∧ Vls S xs) := by rw [Vls]
@[simp] theorem vl_tup {S : Store} {xs : List D} : Vl S (.tup xs) = Vls S xs := by rw [Vl]
@[simp] theorem vl_int {S : Store} {i : Int} : Vl S (.int i) := by unfold Vl; trivial
@[simp] theorem vl_str {S : Store} {i : String} : Vl S (.str i) := by unfold Vl; trivial
@[simp] theorem vl_bl {S : Store} {i : Bool} : Vl S (.bl i) := by unfold Vl; trivial
@[simp] theorem vl_non {S : Store} : Vl S .non := by unfold Vl; trivial
@[simp] theorem vl_loc {S : Store} {a : Addr} : Vl S (.loc a) = ∃ xs, S a = some (.lst xs) := by rw [Vl]
@[simp] theorem vl_scr {S : Store} {ns : List Int} : ¬ Vl S (.scr ns) := by rw [Vl]; exact id
theorem vls_get {S : Store} : ∀ {xs : List D} {x : D}, Vls S xs → x ∈ xs → Vl S x
  | y :: ys, x, h, m => by
    rw [vls_cons] at h
    rcases List.mem_cons.mp m with e | m
    · rw [e]; exact h.1
    · exact vls_get h.2 m
theorem vls_of {S : Store} : ∀ {xs : List D}, (∀ x ∈ xs, Vl S x) → Vls S xs
  | [], _ => vls_nil
  | y :: ys, h => by rw [vls_cons]; exact ⟨h y List.mem_cons_self, vls_of fun x m => h x (List.mem_cons_of_mem _ m)⟩
mutual
theorem Vl.mono {S S' : Store} (l : ∀ a xs, S a = some (.lst xs) → ∃ ys, S' a = some (.lst ys)) : ∀ {d : D}, Vl S d → Vl S' d
  | .tup xs, h => by rw [vl_tup] at h ⊢; exact Vls.mono l h
  | .loc a, h => by rw [vl_loc] at h ⊢; obtain ⟨xs, e⟩ := h; exact l a xs e
  | .scr _, h => absurd h vl_scr
  | .non, _ => vl_non
  | .bl _, _ => vl_bl
  | .int _, _ => vl_int
  | .str _, _ => vl_str
theorem Vls.mono {S S' : Store} (l : ∀ a xs, S a = some (.lst xs) → ∃ ys, S' a = some (.lst ys)) : ∀ {d : List D}, Vls S d → Vls S' d
  | [], _ => vls_nil
  | x :: xs, h => by rw [vls_cons] at h ⊢; exact ⟨Vl.mono l h.1, Vls.mono l h.2⟩
end
theorem Vl.le {S S' : Store} (l : Le S S') {d : D} (h : Vl S d) : Vl S' d := h.mono fun a xs e => ⟨xs, l a _ e⟩
/-- the end of a body: the store as it was -/
theorem fin {R : DVK} {d : D} {S : Store} (h : R d S) : ∃ S'', Le S'' S ∧ R d S'' := ⟨S, .refl, h⟩
theorem fin' {R : DVK} {d : D} {S S' : Store} (l : Le S S') (h : R d S) : ∃ S'', Le S'' S' ∧ R d S'' := ⟨S, l, h⟩
/-! ### small defs -/
def isWhole : D → Bool
  | .int _ => true
  | _ => false
def sp_is_whole : SpD := fun ds S R => ∃ d, ds = [d] ∧ Vl S d ∧ R (.bl (isWhole d)) S
@[simp] theorem sp_is_whole_app {d : D} {S : Store} {R : DVK} : sp_is_whole [d] S R = (Vl S d ∧ R (.bl (isWhole d)) S) := by simp [sp_is_whole]
theorem w_is_whole {Γ : G} : ∀ ds S R, sp_is_whole ds S R → wss Γ ir_is_whole (ends R) (startD ck_is_whole.N ds) S := by
  rintro _ S R ⟨d, rfl, hv, hR⟩
  have hR := fin hR
  cases d with
  | loc a =>
    rw [vl_loc] at hv
    obtain ⟨xs, e⟩ := hv
    simpa [isWhole, ir_is_whole, startD, ck_is_whole, e, isiO] using hR
  | scr ns => exact absurd hv vl_scr
  | _ => simpa [isWhole, ir_is_whole, startD, ck_is_whole] using hR
def nameOf : D → String
  | .tup (.str s :: _) => s
  | _ => ""
def sp_name_of : SpD := fun ds S R => ∃ d, ds = [d] ∧ Vl S d ∧ R (.str (nameOf d)) S
@[simp] theorem sp_name_of_app {d : D} {S : Store} {R : DVK} : sp_name_of [d] S R = (Vl S d ∧ R (.str (nameOf d)) S) := by simp [sp_name_of]
theorem w_name_of {Γ : G} : ∀ ds S R, sp_name_of ds S R → wss Γ ir_name_of (ends R) (startD ck_name_of.N ds) S := by
  rintro _ S R ⟨d, rfl, hv, hR⟩
  have hR := fin hR
  cases d with
  | loc a =>
    rw [vl_loc] at hv
    obtain ⟨xs, e⟩ := hv
    simpa [nameOf, ir_name_of, startD, ck_name_of, e, isiO] using hR
  | scr ns => exact absurd hv vl_scr
  | tup xs =>
    cases xs with
    | nil => simpa [nameOf, ir_name_of, startD, ck_name_of] using hR
    | cons x r =>
      rw [vl_tup, vls_cons] at hv
      cases x with
      | loc a =>
        obtain ⟨h1, _⟩ := hv
        rw [vl_loc] at h1
        obtain ⟨xs, e⟩ := h1
        simpa [nameOf, ir_name_of, startD, ck_name_of, e, isiO] using hR
      | scr ns => exact absurd hv.1 vl_scr
      | _ => simpa [nameOf, ir_name_of, startD, ck_name_of] using hR
  | _ => simpa [nameOf, ir_name_of, startD, ck_name_of] using hR
/-- the parts of a saying -/
def partsL (s : String) (r : List D) : List D := if s = "both" ∨ s = "either" then r else r.drop 1
def sp_parts_of : SpD := fun ds S R => ∃ s r, ds = [.tup (.str s :: r)] ∧ R (.tup (partsL s r)) S
@[simp] theorem sp_parts_of_app {s : String} {r : List D} {S : Store} {R : DVK} : sp_parts_of [.tup (.str s :: r)] S R = R (.tup (partsL s r)) S := by
  show (∃ s' r', [D.tup (.str s :: r)] = [.tup (.str s' :: r')] ∧ R (.tup (partsL s' r')) S) = _
  exact propext ⟨fun ⟨s', r', e, h⟩ => by cases e; exact h, fun h => ⟨s, r, rfl, h⟩⟩
theorem w_parts_of {Γ : G} : ∀ ds S R, sp_parts_of ds S R → wss Γ ir_parts_of (ends R) (startD ck_parts_of.N ds) S := by
  rintro _ S R ⟨s, r, rfl, hR⟩
  have hR := fin hR
  by_cases c : s = "both" ∨ s = "either"
  · rcases c with c | c <;> subst c <;> simpa [ir_parts_of, startD, ck_parts_of, partsL] using hR
  · simp only [not_or] at c
    simp [ir_parts_of, startD, ck_parts_of, Ne.symm c.1, Ne.symm c.2]
    simpa [partsL, c] using hR
def sp_with_parts : SpD := fun ds S R => ∃ s r p xs, ds = [.tup (.str s :: r), .loc p] ∧ S p = some (.lst xs) ∧ xs.length ≤ 1000 ∧ R (.tup (if s = "both" ∨ s = "either" then .str s :: xs else .str s :: (r.take 1 ++ xs))) S
theorem w_with_parts {Γ : G} : ∀ ds S R, sp_with_parts ds S R → wss Γ ir_with_parts (ends R) (startD ck_with_parts.N ds) S := by
  rintro _ S R ⟨s, r, p, xs, rfl, e, hl, hR⟩
  have hR := fin hR
  by_cases c : s = "both" ∨ s = "either"
  · rw [if_pos c] at hR
    have h1 : 1 + xs.length ≤ sizeLine := line_le (by omega)
    rcases c with c | c <;> subst c <;> simpa [ir_with_parts, startD, ck_with_parts, e, h1] using hR
  · rw [if_neg c] at hR
    simp only [not_or] at c
    have h1 : min 1 r.length + 1 + xs.length ≤ sizeLine := line_le (by omega)
    simpa [ir_with_parts, startD, ck_with_parts, Ne.symm c.1, Ne.symm c.2, e, h1] using hR
/-! ### a saying's inner ones -/
def mostOf (a b : Int) (s : String) : Int := if s = "is" ∨ s = "isnt" then a else if s = "some" ∨ s = "all" then b else 20
def oneD : List D → Option (List D)
  | [x] => some [x]
  | _ => none
def kidsR (a b : Int) (s : String) : List D → Option (List D)
  | .int i :: r2 =>
    if 0 ≤ i ∧ i < mostOf a b s then
      if s = "is" ∨ s = "isnt" ∨ s = "name" then (if r2 = [] then some [] else none)
      else if s = "some" ∨ s = "all" ∨ s = "least" ∨ s = "greatest" then oneD r2
      else none
    else none
  | _ => none
def kids (a b : Int) : D → Option (List D)
  | .tup (.str s :: r) =>
    if s = "" then none
    else if s = "yes" ∨ s = "no" then (if r = [] then some [] else none)
    else if s = "both" ∨ s = "either" then (if r.length = 2 then some r else none)
    else kidsR a b s r
  | _ => none
theorem look_most {a b : Int} {s : String} : (lookD (mergeD [] [(.str "is", .int a), (.str "isnt", .int a), (.str "some", .int b), (.str "all", .int b)]) (.str s)).getD (.int 20) = .int (mostOf a b s) := by
  have e : mergeD [] [(D.str "is", D.int a), (.str "isnt", .int a), (.str "some", .int b), (.str "all", .int b)] = [(D.str "is", D.int a), (.str "isnt", .int a), (.str "some", .int b), (.str "all", .int b)] := by simp [mergeD, putD]
  rw [e]
  unfold mostOf
  by_cases c1 : s = "is"
  · subst c1; simp [lookD]
  by_cases c2 : s = "isnt"
  · subst c2; simp [lookD]
  by_cases c3 : s = "some"
  · subst c3; simp [lookD]
  by_cases c4 : s = "all"
  · subst c4; simp [lookD]
  simp [lookD, c1, c2, c3, c4, Ne.symm c1, Ne.symm c2, Ne.symm c3, Ne.symm c4]
/-- a list, or None -/
def optW (o : Option (List D)) (S : Store) (R : DVK) : Prop := match o with
  | none => R .non S
  | some xs => newW (.lst xs) S R
def sp_inner : SpD := fun ds S R => ∃ a b d, ds = [.tup [.int a, .int b], d] ∧ Vl S d ∧ optW (kids a b d) S R
@[simp] theorem optW_none {S : Store} {R : DVK} : optW none S R = R .non S := rfl
@[simp] theorem optW_some {xs : List D} {S : Store} {R : DVK} : optW (some xs) S R = ∀ p, S p = none → R (.loc p) (S.upd p (.lst xs)) := rfl
@[simp] theorem sp_inner_app {a b : Int} {d : D} {S : Store} {R : DVK} : sp_inner [.tup [.int a, .int b], d] S R = (Vl S d ∧ optW (kids a b d) S R) := by
  show (∃ a' b' d', [D.tup [.int a, .int b], d] = [.tup [.int a', .int b'], d'] ∧ Vl S d' ∧ optW (kids a' b' d') S R) = _
  exact propext ⟨fun ⟨a', b', d', e, h⟩ => by cases e; exact h, fun h => ⟨a, b, d, rfl, h⟩⟩
theorem w_inner_sayings {Γ : G} (h1 : Γ.fn "name_of" = sp_name_of) (h2 : Γ.fn "is_whole" = sp_is_whole) (h3 : Γ.gv "MOST_NAMES" = some (.int 20)) : ∀ ds S R, sp_inner ds S R → wss Γ ir_inner_sayings (ends R) (startD ck_inner_sayings.N ds) S := by
  rintro _ S R ⟨a, b, d, rfl, hv, hR⟩
  have none_of : nameOf d = "" → kids a b d = none → wss Γ ir_inner_sayings (ends R) (startD ck_inner_sayings.N [.tup [.int a, .int b], d]) S := fun e1 e2 => by
    rw [e2] at hR
    have hR := fin (show R .non S from hR)
    simpa [ir_inner_sayings, startD, ck_inner_sayings, h1, sp_name_of, hv, e1] using hR
  cases d with
  | tup xs =>
    cases xs with
    | nil => exact none_of rfl rfl
    | cons x r =>
      cases x with
      | str s =>
        by_cases e0 : s = ""
        · subst e0
          exact none_of rfl rfl
        by_cases c : s = "yes" ∨ s = "no"
        · have e : kids a b (.tup (.str s :: r)) = if r = [] then some [] else none := by simp [kids, e0, c]
          rw [e] at hR
          by_cases er : r = []
          · rw [if_pos er] at hR
            subst er
            have hR : ∀ p, S p = none → ∃ S'', Le S'' (S.upd p (.lst [])) ∧ R (.loc p) S'' := fun p hp => fin (hR p hp)
            rcases c with c | c <;> subst c <;> simpa [ir_inner_sayings, startD, ck_inner_sayings, h1, sp_name_of, hv, nameOf] using hR
          · rw [if_neg er] at hR
            have hR := fin (show R .non S from hR)
            have hl : ¬ ((r.length : Int) + 1 = 1) := by have := List.length_pos_iff.mpr er; omega
            rcases c with c | c <;> subst c <;> simpa [ir_inner_sayings, startD, ck_inner_sayings, h1, sp_name_of, hv, nameOf, hl, er] using hR
        by_cases c2 : s = "both" ∨ s = "either"
        · simp only [not_or] at c
          have e : kids a b (.tup (.str s :: r)) = if r.length = 2 then some r else none := by simp [kids, e0, c, c2]
          rw [e] at hR
          by_cases er : r.length = 2
          · rw [if_pos er] at hR
            have hR : ∀ p, S p = none → ∃ S'', Le S'' (S.upd p (.lst r)) ∧ R (.loc p) S'' := fun p hp => fin (hR p hp)
            rcases c2 with c | c <;> subst c <;> simpa [ir_inner_sayings, startD, ck_inner_sayings, h1, sp_name_of, hv, nameOf, er] using hR
          · rw [if_neg er] at hR
            have hR := fin (show R .non S from hR)
            have hl : ¬ ((r.length : Int) + 1 = 3) := by omega
            rcases c2 with c | c <;> subst c <;> simpa [ir_inner_sayings, startD, ck_inner_sayings, h1, sp_name_of, hv, nameOf, hl] using hR
        simp only [not_or] at c c2
        simp [ir_inner_sayings, startD, ck_inner_sayings, h1, sp_name_of, hv, nameOf, e0, Ne.symm c.1, Ne.symm c.2, Ne.symm c2.1, Ne.symm c2.2]
        intro p hp
        have l : Le S (S.upd p (.dct (mergeD [] [(.str "is", .int a), (.str "isnt", .int a), (.str "some", .int b), (.str "all", .int b)]))) := Le.new hp
        refine ⟨_, rfl, by intro x y h; simp at h; rcases h with ⟨e, _⟩ | ⟨e, _⟩ | ⟨e, _⟩ | ⟨e, _⟩ <;> subst e <;> rfl, by simp, _, h3, ?_⟩
        rw [look_most]
        generalize S.upd p (.dct (mergeD [] [(.str "is", .int a), (.str "isnt", .int a), (.str "some", .int b), (.str "all", .int b)])) = S2 at l
        have hk : kids a b (.tup (.str s :: r)) = kidsR a b s r := by
          show (if s = "" then none else if s = "yes" ∨ s = "no" then (if r = [] then some [] else none) else if s = "both" ∨ s = "either" then (if r.length = 2 then some r else none) else _) = _
          rw [if_neg e0, if_neg (by simp [c]), if_neg (by simp [c2])]
        rw [hk] at hR
        have bad : (R .non S) → ∃ S'', Le S'' S2 ∧ R .non S'' := fun h => ⟨S, l, h⟩
        have new : ∀ {xs : List D} {q : Addr}, newW (.lst xs) S R → S2 q = none → ∃ S'', Le S'' (S2.upd q (.lst xs)) ∧ R (.loc q) S'' := fun {xs q} h hq =>
          ⟨S.upd q (.lst xs), fun a o e => by
            by_cases z : a = q
            · subst z; rw [Store.upd_same] at e ⊢; exact e
            · rw [Store.upd_ne z] at e ⊢; exact l a o e, h q (l.none hq)⟩
        rw [vl_tup, vls_cons] at hv
        have hv := hv.2
        cases r with
        | nil => exact .inr ⟨by simp, bad hR⟩
        | cons x r2 =>
          rw [vls_cons] at hv
          refine .inl ⟨by simp; omega, x, ix1, ?_⟩
          rw [h2]
          refine ⟨x, rfl, hv.1.le l, ?_⟩
          cases x with
          | int i =>
            have hR : optW (if 0 ≤ i ∧ i < mostOf a b s then
                if s = "is" ∨ s = "isnt" ∨ s = "name" then (if r2 = [] then some [] else none)
                else if s = "some" ∨ s = "all" ∨ s = "least" ∨ s = "greatest" then oneD r2
                else none
              else none) S R := hR
            refine .inr ⟨rfl, _, ix1, ?_⟩
            simp only [v_le, v_lt]
            by_cases c3 : 0 ≤ i
            · rw [if_pos (by simpa using c3)]
              by_cases c4 : i < mostOf a b s
              · refine .inr ⟨by simpa using c4, ?_⟩
                simp only [c3, c4, and_self, if_true] at hR
                by_cases c5 : s = "is" ∨ s = "isnt" ∨ s = "name"
                · refine .inr ⟨by rcases c5 with e | e | e <;> simp [e], ?_⟩
                  rw [if_pos c5] at hR
                  cases r2 with
                  | nil =>
                    refine .inr ⟨by simp, fun q hq => new hR hq⟩
                  | cons _ _ => exact .inl ⟨by simp; omega, bad hR⟩
                · refine .inl ⟨by simp only [not_or] at c5; exact ⟨Ne.symm c5.1, Ne.symm c5.2.1, Ne.symm c5.2.2⟩, ?_⟩
                  rw [if_neg c5] at hR
                  by_cases c6 : s = "some" ∨ s = "all" ∨ s = "least" ∨ s = "greatest"
                  · refine .inr ⟨by rcases c6 with e | e | e | e <;> simp [e], ?_⟩
                    rw [if_pos c6] at hR
                    match r2, hR with
                    | [], hR => exact .inl ⟨by simp, bad hR⟩
                    | [y], hR => exact .inr ⟨by simp, y, ix2, fun q hq => new hR hq⟩
                    | _ :: _ :: _, hR => exact .inl ⟨by simp; omega, bad hR⟩
                  · rw [if_neg c6] at hR
                    simp only [not_or] at c6
                    exact .inl ⟨⟨Ne.symm c6.1, Ne.symm c6.2.1, Ne.symm c6.2.2.1, Ne.symm c6.2.2.2⟩, bad hR⟩
              · refine .inl ⟨by simpa using c4, bad ?_⟩
                simp only [c4, and_false, if_false] at hR
                exact hR
            · rw [if_neg (by simpa using c3)]
              refine bad ?_
              simp only [c3, false_and, if_false] at hR
              exact hR
          | _ => exact .inl ⟨rfl, bad hR⟩
      | _ => exact none_of rfl rfl
  | _ => exact none_of rfl rfl
end Y

namespace Y
open PySem PySem.Spec L2
/-! ### is_saying -/
abbrev Itm : Type := D × List Int × List Int
def encI (x : Itm) : D := .tup [x.1, .tup (x.2.1.map D.int), .tup (x.2.2.map D.int)]
def argOf : D → Int
  | .tup (_ :: .int i :: _) => i
  | _ => 0
def push (xs : List D) (k f : List Int) (W : List Itm) : List Itm := (xs.map fun x => (x, k, f)).reverse ++ W
/-- one turn: the inner ones, what is bound, known, free behind it -/
def sayStep (a b : Int) (bd : List Int) (v : D) (k f : List Int) : Option (List D × List Int × List Int × List Int) := match kids a b v with
  | none => none
  | some xs =>
    if nameOf v = "name" then (if f.contains (argOf v) = true then some (xs, bd, k, f) else none)
    else if nameOf v = "least" ∨ nameOf v = "greatest" then (if bd.contains (argOf v) = true then none else some (xs, bd ++ [argOf v], k ++ [argOf v], f))
    else if nameOf v = "some" ∨ nameOf v = "all" then some (xs, bd, k, k)
    else some (xs, bd, k, f)
def sayLoop (a b : Int) : Nat → List Int → List Itm → Bool
  | _, _, [] => true
  | 0, _, _ :: _ => false
  | n + 1, bd, (v, k, f) :: W => match sayStep a b bd v k f with
    | none => false
    | some (xs, bd', k', f') => sayLoop a b n bd' (push xs k' f' W)
/-- what has inner ones -/
theorem kids_shape {a b : Int} {v : D} {xs : List D} (h : kids a b v = some xs) : ∃ s r, v = .tup (.str s :: r) ∧ xs.length ≤ 2 ∧ (∀ x ∈ xs, x ∈ r) ∧ (s = "name" ∨ s = "least" ∨ s = "greatest" ∨ s = "some" ∨ s = "all" ∨ s = "is" ∨ s = "isnt" → ∃ i r2, r = .int i :: r2) := by
  cases v with
  | tup ys =>
    cases ys with
    | nil => cases h
    | cons y r =>
      cases y with
      | str s =>
        refine ⟨s, r, rfl, ?_⟩
        have h : (if s = "" then none else if s = "yes" ∨ s = "no" then (if r = [] then some [] else none) else if s = "both" ∨ s = "either" then (if r.length = 2 then some r else none) else kidsR a b s r) = some xs := h
        split at h
        · cases h
        · split at h
          · rename_i c
            split at h
            · cases h
              exact ⟨by simp, by simp, fun z => by rcases c with c | c <;> subst c <;> simp at z⟩
            · cases h
          · split at h
            · rename_i c
              split at h
              · rename_i e
                cases h
                exact ⟨by omega, fun x hx => hx, fun z => by rcases c with c | c <;> subst c <;> simp at z⟩
              · cases h
            · cases r with
              | nil => cases h
              | cons y r2 =>
                cases y with
                | int i =>
                  refine ⟨?_, ?_, fun _ => ⟨i, r2, rfl⟩⟩
                  all_goals
                    have h : (if 0 ≤ i ∧ i < mostOf a b s then if s = "is" ∨ s = "isnt" ∨ s = "name" then (if r2 = [] then some [] else none) else if s = "some" ∨ s = "all" ∨ s = "least" ∨ s = "greatest" then oneD r2 else none else none) = some xs := h
                    split at h
                    · split at h
                      · split at h
                        · cases h; simp
                        · cases h
                      · split at h
                        · match r2, h with
                          | [x], h => cases h; simp
                          | [], h => cases h
                          | _ :: _ :: _, h => cases h
                        · cases h
                    · cases h
                | _ => cases h
      | _ => cases h
  | _ => cases h
def tailSay : Y.S := .ex (.mt .extend (.var 3) [(.lc [9] (.one 9) (.seq (.var 5)) none (.tup [(.var 9), (.var 7), (.var 8)]))])
def bodySay : List Y.S := [.asg (.name (.many [6, 7, 8])) (.mt .pop (.var 3) []), .aug 4 .add (.int 1), .asg (.name (.one 5)) (.ite (.cmp .le (.var 4) (.gv "MOST_SIZE")) (.call "inner_sayings" [(.var 0), (.var 6)]) .non), .ife (.cmp .isn (.var 5) .non) [.ret (.bl false)] [],
  .ife (.bop true [(.cmp .eq (.sub (.var 6) (.int 0)) (.str "name")), (.cmp .notin (.sub (.var 6) (.int 1)) (.var 8))]) [.ret (.bl false)] [],
  .ife (.cmp .inn (.sub (.var 6) (.int 0)) (.gv "BINDERS")) [.ife (.cmp .inn (.sub (.var 6) (.int 1)) (.var 2)) [.ret (.bl false)] [], .asg (.sub (.var 2) (.sub (.var 6) (.int 1))) (.bl true), .asg (.name (.one 7)) (.op .add (.var 7) (.tup [(.sub (.var 6) (.int 1))]))]
    [.ife (.cmp .inn (.sub (.var 6) (.int 0)) (.tup [(.str "some"), (.str "all")])) [.asg (.name (.one 8)) (.var 7)] []], tailSay]
def condSay : E := .cmp .gt (.bi .len [.var 3]) (.int 0)
theorem ir_say : ir_is_saying = [.asg (.name (.one 2)) (.dsp []), .asg (.name (.one 3)) (.lst [(.tup [(.var 1), (.tup []), (.tup [])])]), .asg (.name (.one 4)) (.int 0), .whl condSay bodySay, .ret (.bl true)] := rfl
theorem tail_say {Γ : G} {Z : Ends} {l v0 m p6 x9 x2 : Option D} {q pw : Addr} {xs L K F : List D} {S : Store} (hq : S q = some (.lst xs)) (hw : S pw = some (.lst L)) (hl : L.length + xs.length ≤ 1000)
    (h : ∀ S', (∀ b, b ≠ pw → S b ≠ none → S' b = S b) → S' pw = some (.lst (L ++ xs.map fun x => .tup [x, .tup K, .tup F])) → Le (S.upd pw (.lst (L ++ xs.map fun x => .tup [x, .tup K, .tup F]))) S' → Z.nx [l, v0, x2, some (.loc pw), m, some (.loc q), p6, some (.tup K), some (.tup F), x9] S') :
    ws Γ tailSay Z [l, v0, x2, some (.loc pw), m, some (.loc q), p6, some (.tup K), some (.tup F), x9] S := by
  have hl2 : xs.length ≤ 16777215 := by omega
  simp [tailSay, hw, hq]
  intro p hp
  have n1 : q ≠ p := Store.ne hq hp
  have n2 : pw ≠ p := Store.ne hw hp
  refine lc_go (fun x => some (.tup [x, .tup K, .tup F])) hl2 (fun ys => by rw [Store.upd_ne n1]; exact hq) (fun x hx ys k hk => ⟨_, rfl, ⟨_, rfl, ⟨_, rfl, hk⟩⟩⟩) ?_
  refine ⟨_, (Store.upd_ne n2).trans hw, _, up_same, line_le (by simp; omega), h _ (fun b hb hs => ?_) (by simp) fun a ob e => ?_⟩
  · rw [Store.upd_ne hb, Store.upd_ne (fun z => by subst z; exact hs hp)]
  · by_cases z : a = pw
    · subst z
      rw [Store.upd_same] at e ⊢
      simpa using e
    · rw [Store.upd_ne z] at e ⊢
      rw [Store.upd_ne (Store.ne e hp)]
      exact e
theorem ints_map (k : List Int) (x : Int) : k.map D.int ++ [.int x] = (k ++ [x]).map D.int := by simp
theorem say_body {Γ : G} (g1 : Γ.fn "inner_sayings" = sp_inner) (g2 : Γ.gv "BINDERS" = some (.tup [.str "least", .str "greatest"])) (g3 : Γ.gv "MOST_SIZE" = some (.int 40)) {a b : Int} {S0 S : Store} {pb pw : Addr} (hb : S0 pb = none) (hw : S0 pw = none) (ne : pb ≠ pw) {v0 : D} {Z : Ends}
    {bd : List Int} {v : D} {k f : List Int} {rest : List D} {m : Nat} {x5 x6 x7 x8 x9 : Option D} (hm : m + 1 ≤ 40) (l : Le S0 S) (eb : S pb = some (.dct (setKv bd))) (ew : S pw = some (.lst (rest ++ [.tup [v, .tup (k.map D.int), .tup (f.map D.int)]]))) (hv : Vl S0 v) (hkl : k.length ≤ m) (hbl : bd.length ≤ m)
    (hf : sayStep a b bd v k f = none → ∀ S', Le S0 S' → Z.rt (.bl false) S')
    (ht : ∀ xs bd' k' f', sayStep a b bd v k f = some (xs, bd', k', f') → ∀ p p6 S', S' p = some (.lst xs) → S' pw = some (.lst rest) → S' pb = some (.dct (setKv bd')) → Le S0 S' →
      ws Γ tailSay Z [some (.tup [.int a, .int b]), some v0, some (.loc pb), some (.loc pw), some (.int ((m : Int) + 1)), some (.loc p), p6, some (.tup (k'.map D.int)), some (.tup (f'.map D.int)), x9] S') :
    wss Γ bodySay Z [some (.tup [.int a, .int b]), some v0, some (.loc pb), some (.loc pw), some (.int m), x5, x6, x7, x8, x9] S := by
  have hm' : (m : Int) + 1 ≤ 40 := by omega
  have hv' : ∀ o, Vl (S.upd pw o) v := fun o => hv.le (l.set hw)
  cases hk : kids a b v with
  | none =>
    have e : sayStep a b bd v k f = none := by unfold sayStep; rw [hk]
    simp [ew, bodySay, g3, hm', g1, hv', hk]
    exact hf e _ (l.set hw)
  | some xs =>
    obtain ⟨s, r, rfl, hx, hxr, hi⟩ := kids_shape hk
    have step : sayStep a b bd (.tup (.str s :: r)) k f = if s = "name" then (if f.contains (argOf (.tup (.str s :: r))) = true then some (xs, bd, k, f) else none)
        else if s = "least" ∨ s = "greatest" then (if bd.contains (argOf (.tup (.str s :: r))) = true then none else some (xs, bd ++ [argOf (.tup (.str s :: r))], k ++ [argOf (.tup (.str s :: r))], f))
        else if s = "some" ∨ s = "all" then some (xs, bd, k, k)
        else some (xs, bd, k, f) := by unfold sayStep; rw [hk]; rfl
    have h3 : ∀ p, (S.upd pw (.lst rest)) p = none → pw ≠ p ∧ pb ≠ p := fun p hp =>
      ⟨fun z => by subst z; simp at hp, fun z => by subst z; rw [Store.upd_ne ne, eb] at hp; cases hp⟩
    by_cases c1 : s = "name"
    · subst c1
      obtain ⟨i, r2, rfl⟩ := hi (.inl rfl)
      rw [if_pos rfl] at step
      have step : sayStep a b bd (.tup (.str "name" :: .int i :: r2)) k f = if f.contains i = true then some (xs, bd, k, f) else none := step
      have hvs : ∀ o, Vls (S.upd pw o) r2 := fun o => by have := hv' o; rw [vl_tup, vls_cons, vls_cons] at this; exact this.2.2
      simp [ew, bodySay, g3, hm', g1, hvs, hk, g2]
      intro p hp
      obtain ⟨n1, n2⟩ := h3 p hp
      by_cases c : i ∈ f
      · rw [if_pos (by simpa using c)] at step
        refine .inl ⟨c, ht _ _ _ _ step p _ _ up_same (by rw [Store.upd_ne n1, Store.upd_same]) (by rw [Store.upd_ne n2, Store.upd_ne ne]; exact eb) ?_⟩
        exact (l.set hw).trans (Le.new hp)
      · rw [if_neg (by simpa using c)] at step
        refine .inr ⟨fun x hx e => c (e ▸ hx), hf step _ ((l.set hw).trans (Le.new hp))⟩
    rw [if_neg c1] at step
    by_cases c2 : s = "least" ∨ s = "greatest"
    · obtain ⟨i, r2, rfl⟩ := hi (by rcases c2 with c | c <;> subst c <;> simp)
      rw [if_pos c2] at step
      have step : sayStep a b bd (.tup (.str s :: .int i :: r2)) k f = if bd.contains i = true then none else some (xs, bd ++ [i], k ++ [i], f) := step
      have hkk : k.length + 1 ≤ sizeLine := line_le (by omega)
      have hbb : (setKv bd).length < sizeLine := line_lt (by unfold setKv; rw [List.length_map]; omega)
      have fin : ∀ p, (S.upd pw (.lst rest)) p = none → pw ≠ p → pb ≠ p → (i ∉ bd → ws Γ tailSay Z [some (.tup [.int a, .int b]), some v0, some (.loc pb), some (.loc pw), some (.int ((m : Int) + 1)), some (.loc p), some (.tup (.str s :: .int i :: r2)), some (.tup (k.map D.int ++ [.int i])), some (.tup (f.map D.int)), x9] (((S.upd pw (.lst rest)).upd p (.lst xs)).upd pb (.dct (putD (setKv bd) (.int i) (.bl true))))) := fun p hp n1 n2 c => by
        have cc : bd.contains i = false := by simpa using c
        rw [put_setKv cc, ints_map]
        rw [if_neg (by rw [cc]; simp)] at step
        refine ht _ _ _ _ step p _ _ ?_ ?_ up_same ?_
        · rw [Store.upd_ne (Ne.symm n2), Store.upd_same]
        · rw [Store.upd_ne (Ne.symm ne), Store.upd_ne n1, Store.upd_same]
        · exact ((l.set hw).trans (Le.new hp)).set hb
      have look := look_setKv i bd
      rcases c2 with c2 | c2 <;> subst c2
      all_goals
        have hvs : ∀ o, Vls (S.upd pw o) r2 := fun o => by have := hv' o; rw [vl_tup, vls_cons, vls_cons] at this; exact this.2.2
        simp [ew, bodySay, g3, hm', g1, hvs, hk, g2]
        intro p hp
        obtain ⟨n1, n2⟩ := h3 p hp
        have e1 : ((S.upd pw (.lst rest)).upd p (.lst xs)) pb = some (.dct (setKv bd)) := by rw [Store.upd_ne n2, Store.upd_ne ne]; exact eb
        refine ⟨_, e1, ?_⟩
        rw [v_inod, look]
        refine ⟨rfl, ?_⟩
        by_cases c : i ∈ bd
        · exact .inr ⟨by simpa using c, hf (by rw [step, if_pos (by simpa using c)]) _ ((l.set hw).trans (Le.new hp))⟩
        · exact .inl ⟨by simpa using c, _, e1, rfl, hbb, hkk, fin p hp n1 n2 c⟩
    rw [if_neg c2] at step
    simp only [not_or] at c2
    have hvs : ∀ o, Vls (S.upd pw o) r := fun o => by have := hv' o; rw [vl_tup, vls_cons] at this; exact this.2
    by_cases c3 : s = "some" ∨ s = "all"
    · rw [if_pos c3] at step
      rcases c3 with c | c <;> subst c
      all_goals
        simp [ew, bodySay, g3, hm', g1, hvs, hk, g2]
        intro p hp
        obtain ⟨n1, n2⟩ := h3 p hp
        exact ht _ _ _ _ step p _ _ up_same (by rw [Store.upd_ne n1, Store.upd_same]) (by rw [Store.upd_ne n2, Store.upd_ne ne]; exact eb) ((l.set hw).trans (Le.new hp))
    · rw [if_neg c3] at step
      simp only [not_or] at c3
      simp [ew, bodySay, g3, hm', g1, hvs, hk, g2, c1, Ne.symm c2.1, Ne.symm c2.2, Ne.symm c3.1, Ne.symm c3.2]
      intro p hp
      obtain ⟨n1, n2⟩ := h3 p hp
      exact ht _ _ _ _ step p _ _ up_same (by rw [Store.upd_ne n1, Store.upd_same]) (by rw [Store.upd_ne n2, Store.upd_ne ne]; exact eb) ((l.set hw).trans (Le.new hp))
theorem step_bounds {a b : Int} {S : Store} {bd k f : List Int} {v : D} {xs : List D} {bd' k' f' : List Int} {m : Nat} (hv : Vl S v) (hb : bd.length ≤ m) (hk : k.length ≤ m) (hf : f.length ≤ m) (e : sayStep a b bd v k f = some (xs, bd', k', f')) :
    xs.length ≤ 2 ∧ (∀ x ∈ xs, Vl S x) ∧ bd'.length ≤ m + 1 ∧ k'.length ≤ m + 1 ∧ f'.length ≤ m + 1 := by
  unfold sayStep at e
  split at e
  · cases e
  · rename_i ys hk2
    obtain ⟨s, r, rfl, hx, hxr, _⟩ := kids_shape hk2
    rw [vl_tup, vls_cons] at hv
    have hxs : ∀ x ∈ ys, Vl S x := fun x hx => vls_get hv.2 (hxr x hx)
    split at e
    · split at e
      · cases e; exact ⟨hx, hxs, by omega, by omega, by omega⟩
      · cases e
    · split at e
      · split at e
        · cases e
        · cases e
          refine ⟨hx, hxs, ?_, ?_, by omega⟩ <;> rw [List.length_append, List.length_singleton] <;> omega
      · split at e
        · cases e; exact ⟨hx, hxs, by omega, by omega, by omega⟩
        · cases e; exact ⟨hx, hxs, by omega, by omega, by omega⟩
theorem say_loop {Γ : G} (g1 : Γ.fn "inner_sayings" = sp_inner) (g2 : Γ.gv "BINDERS" = some (.tup [.str "least", .str "greatest"])) (g3 : Γ.gv "MOST_SIZE" = some (.int 40)) (a b : Int) (S0 : Store) (pb pw : Addr) (hb : S0 pb = none) (hw : S0 pw = none) (ne : pb ≠ pw) (v0 : D) {Z : Ends} :
    ∀ (n : Nat) (bd : List Int) (W : List Itm) (m : Nat) (x5 x6 x7 x8 x9 : Option D) (S : Store), n + m = 40 → Le S0 S → S pb = some (.dct (setKv bd)) → S pw = some (.lst (W.reverse.map encI)) →
      (∀ i ∈ W, Vl S0 i.1 ∧ i.2.1.length ≤ m ∧ i.2.2.length ≤ m) → W.length ≤ m + 1 → bd.length ≤ m →
      (sayLoop a b n bd W = true → ∀ σ' S', Le S0 S' → Z.nx σ' S') → (sayLoop a b n bd W = false → ∀ S', Le S0 S' → Z.rt (.bl false) S') →
      whileN (wp Γ condSay) (wss Γ bodySay) (n + 2) Z [some (.tup [.int a, .int b]), some v0, some (.loc pb), some (.loc pw), some (.int m), x5, x6, x7, x8, x9] S
  | n, bd, [], m, x5, x6, x7, x8, x9, S, hn, l, eb, ew, hW, hl, hbd, h1, h2 => by
    rw [whileN]
    simp [condSay, ew]
    exact h1 (by cases n <;> rfl) _ _ l
  | 0, bd, (v, k, f) :: W, m, x5, x6, x7, x8, x9, S, hn, l, eb, ew, hW, hl, hbd, h1, h2 => by
    have hm : m = 40 := by omega
    subst hm
    have ew : S pw = some (.lst (W.reverse.map encI ++ [.tup [v, .tup (k.map D.int), .tup (f.map D.int)]])) := by simpa [encI] using ew
    rw [whileN]
    simp [condSay, ew]
    generalize hZ : ({ nx := fun σ2 S2 => whileN (wp Γ (.cmp .gt (.bi .len [.var 3]) (.int 0))) (wss Γ bodySay) 1 Z σ2 S2, rt := Z.rt } : Ends) = Z'
    have e : Z'.rt = Z.rt := by rw [← hZ]
    simp [ew, bodySay, g3]
    rw [e]
    exact h2 rfl _ (l.set hw)
  | n + 1, bd, (v, k, f) :: W, m, x5, x6, x7, x8, x9, S, hn, l, eb, ew, hW, hl, hbd, h1, h2 => by
    have ew : S pw = some (.lst (W.reverse.map encI ++ [.tup [v, .tup (k.map D.int), .tup (f.map D.int)]])) := by simpa [encI] using ew
    obtain ⟨hvV, hkl, hfl⟩ := hW _ List.mem_cons_self
    have hWl : W.length ≤ m := by simpa using hl
    rw [whileN]
    simp only [condSay, x_cmp, x_bi, x_ps, x_ps0, x_var, x_int]
    refine ⟨_, rfl, ?_⟩
    simp only [v_lenl]
    refine ⟨_, ew, ?_⟩
    simp only [v_leno, v_gt]
    refine ⟨true, by simp, ?_⟩
    rw [if_pos rfl]
    refine say_body g1 g2 g3 hb hw ne (by omega) l eb ew hvV hkl hbd (fun e S' l' => ?_) fun xs bd' k' f' e p p6 S' ep ew' eb' l' => ?_
    · exact h2 (by show (match sayStep a b bd v k f with | none => false | some (xs, bd', k', f') => sayLoop a b n bd' (push xs k' f' W)) = false; rw [e]) S' l'
    · have st : sayLoop a b (n + 1) bd ((v, k, f) :: W) = sayLoop a b n bd' (push xs k' f' W) := by
        show (match sayStep a b bd v k f with | none => false | some (xs, bd', k', f') => sayLoop a b n bd' (push xs k' f' W)) = _
        rw [e]
      obtain ⟨hx, hxv, hb', hk', hf'⟩ := step_bounds hvV hbd hkl hfl e
      refine tail_say ep ew' (by rw [List.length_map, List.length_reverse]; omega) fun S2 q1 q2 q3 => ?_
      have e1 : (W.reverse.map encI ++ xs.map fun x => D.tup [x, .tup (k'.map D.int), .tup (f'.map D.int)]) = ((push xs k' f' W).reverse.map encI) := by
        simp [push, encI, List.map_reverse]
      rw [e1] at q2
      refine say_loop g1 g2 g3 a b S0 pb pw hb hw ne v0 n bd' (push xs k' f' W) (m + 1) _ _ _ _ _ S2 (by omega) (fun c o e => ?_) ((q1 pb ne (by rw [eb']; simp)).trans eb') q2 (fun i hi => ?_) ?_ hb' (fun z => h1 (st.trans z)) fun z => h2 (st.trans z)
      · rw [q1 c (fun z => by subst z; rw [hw] at e; cases e) (by rw [l' c o e]; simp)]
        exact l' c o e
      · unfold push at hi
        rcases List.mem_append.mp hi with hi | hi
        · rw [List.mem_reverse, List.mem_map] at hi
          obtain ⟨x, hx, rfl⟩ := hi
          exact ⟨hxv x hx, hk', hf'⟩
        · obtain ⟨z1, z2, z3⟩ := hW i (List.mem_cons_of_mem _ hi)
          exact ⟨z1, by omega, by omega⟩
      · unfold push
        simp
        omega
end Y

namespace Y
open PySem PySem.Spec L2
def saying (a b : Int) (v : D) : Bool := sayLoop a b 40 [] [(v, [], [])]
def sp_is_saying : SpD := fun ds S R => ∃ a b v, ds = [.tup [.int a, .int b], v] ∧ Vl S v ∧ R (.bl (saying a b v)) S
@[simp] theorem sp_is_saying_app {a b : Int} {d : D} {S : Store} {R : DVK} : sp_is_saying [.tup [.int a, .int b], d] S R = (Vl S d ∧ R (.bl (saying a b d)) S) := by
  show (∃ a' b' d', [D.tup [.int a, .int b], d] = [.tup [.int a', .int b'], d'] ∧ Vl S d' ∧ R (.bl (saying a' b' d')) S) = _
  exact propext ⟨fun ⟨a', b', d', e, h⟩ => by cases e; exact h, fun h => ⟨a, b, d, rfl, h⟩⟩
theorem w_is_saying {Γ : G} (g1 : Γ.fn "inner_sayings" = sp_inner) (g2 : Γ.gv "BINDERS" = some (.tup [.str "least", .str "greatest"])) (g3 : Γ.gv "MOST_SIZE" = some (.int 40)) : ∀ ds S R, sp_is_saying ds S R → wss Γ ir_is_saying (ends R) (startD ck_is_saying.N ds) S := by
  rintro _ S R ⟨a, b, v, rfl, hv, hR⟩
  rw [ir_say]
  simp [startD, ck_is_saying, pairUp, mergeD]
  intro pb hb pw hw
  have ne : pb ≠ pw := fun z => by subst z; simp at hw
  have hw0 : S pw = none := by rw [Store.upd_ne (Ne.symm ne)] at hw; exact hw
  refine ⟨42, say_loop g1 g2 g3 a b S pb pw hb hw0 ne v 40 [] [(v, [], [])] 0 _ _ _ _ _ _ rfl ((Le.new hb).set hw0) ?_ up_same ?_ (by simp) (by simp) (fun e σ' S' l => ?_) fun e S' l => ?_⟩
  · rw [Store.upd_ne ne, Store.upd_same]
    rfl
  · intro i hi
    have : i = (v, [], []) := by simpa using hi
    subst this
    exact ⟨hv, by simp, by simp⟩
  · have e : saying a b v = true := e
    rw [e] at hR
    exact ⟨S, l, hR⟩
  · have e : saying a b v = false := e
    rw [e] at hR
    exact ⟨S, l, hR⟩
end Y

namespace Y
open PySem PySem.Spec L2
/-! ### sayings as trees -/
inductive Sy where
  | yes (b : Bool)
  | is (b : Bool) (i : Int)
  | name (i : Int)
  | two (b : Bool) (l r : Sy)
  | step (b : Bool) (i : Int) (x : Sy)
  | fix (b : Bool) (i : Int) (x : Sy)
  deriving DecidableEq
namespace Sy
def tag : Sy → String
  | yes b => if b then "yes" else "no"
  | is b _ => if b then "is" else "isnt"
  | name _ => "name"
  | two b _ _ => if b then "both" else "either"
  | step b _ _ => if b then "some" else "all"
  | fix b _ _ => if b then "least" else "greatest"
def d : Sy → D
  | s@(yes _) => .tup [.str s.tag]
  | s@(is _ i) => .tup [.str s.tag, .int i]
  | s@(name i) => .tup [.str s.tag, .int i]
  | s@(two _ l r) => .tup [.str s.tag, l.d, r.d]
  | s@(step _ i x) => .tup [.str s.tag, .int i, x.d]
  | s@(fix _ i x) => .tup [.str s.tag, .int i, x.d]
def kin : Sy → List Sy
  | two _ l r => [l, r]
  | step _ _ x => [x]
  | fix _ _ x => [x]
  | _ => []
/-- what stands behind the tag -/
def body : Sy → List D
  | yes _ => []
  | is _ i => [.int i]
  | name i => [.int i]
  | two _ l r => [l.d, r.d]
  | step _ i x => [.int i, x.d]
  | fix _ i x => [.int i, x.d]
theorem d_eq (s : Sy) : s.d = .tup (.str s.tag :: s.body) := by cases s <;> rfl
def parts : Sy → List Sy
  | s@(two _ l r) => s :: (l.parts ++ r.parts)
  | s@(step _ _ x) => s :: x.parts
  | s@(fix _ _ x) => s :: x.parts
  | s => [s]
def size (s : Sy) : Nat := s.parts.length
def depth : Sy → Nat
  | two _ l r => max l.depth r.depth + 1
  | step _ _ x => x.depth + 1
  | fix _ _ x => x.depth + 1
  | _ => 1
def isFix : Sy → Bool
  | fix _ _ _ => true
  | _ => false
def arg : Sy → Int
  | is _ i => i
  | name i => i
  | step _ i _ => i
  | fix _ i _ => i
  | _ => 0
theorem tag_two (s : Sy) : (s.tag = "both" ∨ s.tag = "either") ↔ ∃ b l r, s = two b l r := by
  cases s with
  | two b l r => cases b <;> simp [tag]
  | yes b => cases b <;> simp [tag]
  | is b i => cases b <;> simp [tag]
  | name i => simp [tag]
  | step b i x => cases b <;> simp [tag]
  | fix b i x => cases b <;> simp [tag]
theorem tag_fix (s : Sy) : (s.tag = "least" ∨ s.tag = "greatest") ↔ s.isFix = true := by
  cases s with
  | two b l r => cases b <;> simp [tag, isFix]
  | yes b => cases b <;> simp [tag, isFix]
  | is b i => cases b <;> simp [tag, isFix]
  | name i => simp [tag, isFix]
  | step b i x => cases b <;> simp [tag, isFix]
  | fix b i x => cases b <;> simp [tag, isFix]
theorem parts_d (s : Sy) : partsL s.tag s.body = s.kin.map d := by
  unfold partsL
  by_cases c : s.tag = "both" ∨ s.tag = "either"
  · rw [if_pos c]
    obtain ⟨b, l, r, rfl⟩ := (tag_two s).mp c
    rfl
  · rw [if_neg c]
    cases s with
    | two b l r => exact absurd ((tag_two _).mpr ⟨b, l, r, rfl⟩) c
    | _ => rfl
theorem parts_kin (s : Sy) : s.parts = s :: s.kin.flatMap parts := by
  cases s <;> simp [parts, kin]
theorem size_pos (s : Sy) : 1 ≤ s.size := by
  unfold size
  rw [parts_kin]
  simp
theorem kin_len (s : Sy) : s.kin.length ≤ 2 := by cases s <;> simp [kin]
end Sy
@[simp] theorem sp_parts_sy {s : Sy} {S : Store} {R : DVK} : sp_parts_of [s.d] S R = R (.tup (s.kin.map Sy.d)) S := by
  rw [Sy.d_eq, sp_parts_of_app, Sy.parts_d]
/-! ### all_parts -/
def sp_all_parts : SpD := fun ds S R => ∃ s : Sy, ds = [s.d] ∧ s.size ≤ 100000 ∧ newW (.lst (s.parts.map Sy.d)) S R
def bodyAll : List Y.S := [.asg (.name (.one 3)) (.mt .pop (.var 2) []), .ex (.mt .append (.var 1) [(.var 3)]), .ex (.mt .extend (.var 2) [(.rev (.bi .list [(.call "parts_of" [(.var 3)])]))])]
def condAll : E := .cmp .gt (.bi .len [(.var 2)]) (.int 0)
theorem ir_all : ir_all_parts = [.asg (.name (.one 1)) (.lst []), .asg (.name (.one 2)) (.lst [(.var 0)]), .whl condAll bodyAll, .ret (.var 1)] := rfl
def total (W : List Sy) : Nat := (W.flatMap Sy.parts).length
theorem all_loop {Γ : G} (g1 : Γ.fn "parts_of" = sp_parts_of) (S0 : Store) (pf pw : Addr) (hf : S0 pf = none) (hw : S0 pw = none) (ne : pf ≠ pw) (v0 : Option D) {Z : Ends} :
    ∀ (n : Nat) (acc : List Sy) (W : List Sy) (x3 : Option D) (S : Store), n = total W → acc.length + n ≤ 100000 → Le S0 S → S pf = some (.lst (acc.map Sy.d)) → S pw = some (.lst (W.reverse.map Sy.d)) →
      (∀ x3' S', Le S0 S' → S' pf = some (.lst ((acc ++ W.flatMap Sy.parts).map Sy.d)) → Z.nx [v0, some (.loc pf), some (.loc pw), x3'] S') →
      whileN (wp Γ condAll) (wss Γ bodyAll) (n + 1) Z [v0, some (.loc pf), some (.loc pw), x3] S := by
  intro n
  induction n with
  | zero =>
    intro acc W x3 S hn hl l ef ew h
    cases W with
    | nil =>
      rw [whileN]
      simp [condAll, ew]
      exact h _ _ l (by simpa using ef)
    | cons s W =>
      have := s.size_pos
      unfold total at hn
      rw [List.flatMap_cons, List.length_append] at hn
      unfold Sy.size at this
      omega
  | succ n ih =>
    intro acc W x3 S hn hl l ef ew h
    cases W with
    | nil => simp [total] at hn
    | cons s W =>
      have ew : S pw = some (.lst (W.reverse.map Sy.d ++ [s.d])) := by simpa using ew
      have hWl : W.length ≤ 100000 := by
        have h1 : ∀ W : List Sy, W.length ≤ total W := by
          intro W
          induction W with
          | nil => simp [total]
          | cons a r ih2 =>
            have := a.size_pos
            unfold total at ih2 ⊢
            unfold Sy.size at this
            rw [List.flatMap_cons, List.length_append, List.length_cons]
            omega
        have := h1 (s :: W)
        simp at this
        omega
      have hacc : acc.length < sizeLine := line_lt (by omega)
      have hn2 : total (s.kin ++ W) = n := by
        unfold total at hn ⊢
        rw [List.flatMap_cons, Sy.parts_kin, List.length_append, List.length_cons] at hn
        rw [List.flatMap_append, List.length_append]
        omega
      rw [whileN]
      simp [condAll, ew]
      have ef2 : ∀ o, (S.upd pw o) pf = some (.lst (acc.map Sy.d)) := fun o => by rw [Store.upd_ne ne]; exact ef
      have ew2 : ∀ o o', ((S.upd pw o).upd pf o') pw = some o := fun o o' => by rw [Store.upd_ne (Ne.symm ne), Store.upd_same]
      simp [bodyAll, ew, ef2, ew2, hacc, g1]
      intro p1 hp1 p2 hp2
      rw [Store.upd_none, Store.upd_none] at hp1
      rw [Store.upd_none, Store.upd_none, Store.upd_none] at hp2
      obtain ⟨a1, a2, a3⟩ := hp1
      obtain ⟨b0, b1, b2, b3⟩ := hp2
      refine ⟨.lst (W.map Sy.d).reverse, by rw [Store.upd_ne (Ne.symm b2), Store.upd_ne (Ne.symm a2), Store.upd_ne (Ne.symm ne), Store.upd_same], ?_⟩
      rw [v_exto]
      refine ⟨_, up_same, ?_⟩
      rw [v_exto2]
      have hk := s.kin_len
      refine ⟨line_le (by simp; omega), ?_⟩
      have l1 : Le S0 (S.upd pw (.lst (W.map Sy.d).reverse)) := l.set hw
      have l2 := l1.set (o := .lst (acc.map Sy.d ++ [s.d])) hf
      have l3 := l2.trans (Le.new (p := p1) (o := .lst (s.kin.map Sy.d)) (by rw [Store.upd_none, Store.upd_none]; exact ⟨a1, a2, a3⟩))
      have l4 := l3.trans (Le.new (p := p2) (o := .lst (s.kin.map Sy.d).reverse) (by rw [Store.upd_none, Store.upd_none, Store.upd_none]; exact ⟨b0, b1, b2, b3⟩))
      refine ih (acc ++ [s]) (s.kin ++ W) _ _ hn2.symm (by rw [List.length_append, List.length_singleton]; omega) (l4.set hw) ?_ ?_ fun x3' S' l' e' => h x3' S' l' ?_
      · rw [Store.upd_ne ne, Store.upd_ne (Ne.symm b1), Store.upd_ne (Ne.symm a1), Store.upd_same]
        simp
      · rw [Store.upd_same]
        simp
      · rw [e']
        simp [Sy.parts_kin s]
theorem w_all_parts {Γ : G} (g1 : Γ.fn "parts_of" = sp_parts_of) : ∀ ds S R, sp_all_parts ds S R → wss Γ ir_all_parts (ends R) (startD ck_all_parts.N ds) S := by
  rintro _ S R ⟨s, rfl, hs, hR⟩
  rw [ir_all]
  simp [startD, ck_all_parts]
  intro pf hf pw hw
  rw [Store.upd_none] at hw
  refine ⟨s.size + 1, all_loop g1 S pf pw hf hw.2 (Ne.symm hw.1) _ s.size [] [s] _ _ (by simp [total, Sy.size]) (by simpa using hs) ((Le.new hf).set hw.2) ?_ (by simp) fun x3' S' l e => ?_⟩
  · rw [Store.upd_ne (Ne.symm hw.1), Store.upd_same]
    rfl
  · simp
    refine ⟨S.upd pf (.lst (s.parts.map Sy.d)), fun a o z => ?_, hR pf hf⟩
    by_cases c : a = pf
    · subst c
      rw [Store.upd_same] at z
      cases z
      simpa using e
    · rw [Store.upd_ne c] at z
      exact l a o z
/-- the saying that a value is -/
def syOf : D → Option Sy
  | .tup [.str t] => if t = "yes" then some (.yes true) else if t = "no" then some (.yes false) else none
  | .tup [.str t, .int i] => if t = "is" then some (.is true i) else if t = "isnt" then some (.is false i) else if t = "name" then some (.name i) else none
  | .tup [.str t, .int i, x] => if t = "some" then (syOf x).map (.step true i) else if t = "all" then (syOf x).map (.step false i) else if t = "least" then (syOf x).map (.fix true i) else if t = "greatest" then (syOf x).map (.fix false i) else none
  | .tup [.str t, l, r] => if t = "both" then (syOf l).bind fun l => (syOf r).map (.two true l) else if t = "either" then (syOf l).bind fun l => (syOf r).map (.two false l) else none
  | _ => none
theorem syOf_d : ∀ s : Sy, syOf s.d = some s
  | .yes b => by cases b <;> simp [Sy.d, Sy.tag, syOf]
  | .is b i => by cases b <;> simp [Sy.d, Sy.tag, syOf]
  | .name i => by simp [Sy.d, Sy.tag, syOf]
  | .step b i x => by cases b <;> simp [Sy.d, Sy.tag, syOf, syOf_d x]
  | .fix b i x => by cases b <;> simp [Sy.d, Sy.tag, syOf, syOf_d x]
  | .two b l r => by
    have h1 := syOf_d l
    have h2 := syOf_d r
    cases b <;> cases l <;> simp_all [Sy.d, Sy.tag, syOf]
theorem sy_inj {s t : Sy} (h : s.d = t.d) : s = t := by
  have h1 := syOf_d s
  rw [h, syOf_d t] at h1
  exact (Option.some.inj h1).symm
@[simp] theorem sp_all_app {s : Sy} {S : Store} {R : DVK} : sp_all_parts [s.d] S R = (s.size ≤ 100000 ∧ newW (.lst (s.parts.map Sy.d)) S R) := by
  show (∃ s' : Sy, [s.d] = [s'.d] ∧ s'.size ≤ 100000 ∧ newW (.lst (s'.parts.map Sy.d)) S R) = _
  refine propext ⟨fun ⟨s', e, h⟩ => ?_, fun h => ⟨s, rfl, h⟩⟩
  have e : s.d = s'.d := by simpa using e
  rw [sy_inj e]
  exact h
end Y

namespace Y
open PySem PySem.Spec L2
section
variable {S : Store} {R : DVK} {B : Bool → Store → Prop}
@[simp] theorem sub_d0 {q : Sy} : subW q.d (.int 0) S R = R (.str q.tag) S := by
  rw [Sy.d_eq]
  show (∃ v, atD (D.str q.tag :: q.body) 0 = some v ∧ R v S) = _
  simp
theorem sub_d1 {q : Sy} (h : q.isFix = true) : subW q.d (.int 1) S R = R (.int q.arg) S := by
  cases q with
  | fix b i x =>
    show (∃ v, atD [D.str _, D.int i, x.d] 1 = some v ∧ R v S) = _
    simp [Sy.arg]
  | _ => cases h
@[simp] theorem tag_is {q : Sy} : ("least" = q.tag ∨ "greatest" = q.tag) ↔ q.isFix = true := by
  rw [← Sy.tag_fix q]
  exact ⟨fun h => h.imp Eq.symm Eq.symm, fun h => h.imp Eq.symm Eq.symm⟩
@[simp] theorem tag_no {q : Sy} : (¬"least" = q.tag ∧ ¬"greatest" = q.tag) ↔ q.isFix = false := by
  rw [← not_or, tag_is]
  simp
end
namespace Sy
def fixes (s : Sy) : List Sy := s.parts.filter isFix
/-- the highest level of the fixed points within; of a fixed point: its own -/
def up (b : Bool) (m : Nat) : Nat := if (decide (m % 2 = 1) == b) = true then m else m + 1
def low (b : Bool) : Nat := if b then 1 else 2
def lev : Sy → Nat
  | two _ l r => max l.lev r.lev
  | step _ _ x => x.lev
  | fix b _ x => up b (max x.lev (low b))
  | _ => 0
theorem up_le (b : Bool) (m : Nat) : m ≤ up b m := by unfold up; split <;> omega
theorem within {W : List Sy} : ∀ {A B : List Sy} {q : Sy}, W.flatMap parts = A ++ q :: B → ∃ C, B = q.kin.flatMap parts ++ C := by
  intro A
  induction A generalizing W with
  | nil =>
    intro B q h
    cases W with
    | nil => simp at h
    | cons s W =>
      rw [List.flatMap_cons, parts_kin] at h
      simp at h
      obtain ⟨rfl, h⟩ := h
      exact ⟨_, h.symm⟩
  | cons a A ih =>
    intro B q h
    cases W with
    | nil => simp at h
    | cons s W =>
      rw [List.flatMap_cons, parts_kin] at h
      simp at h
      obtain ⟨rfl, h⟩ := h
      exact ih (W := s.kin ++ W) (by rw [List.flatMap_append]; exact h)
theorem within1 {s : Sy} {A B : List Sy} {q : Sy} (h : s.parts = A ++ q :: B) : ∃ C, B = q.kin.flatMap parts ++ C :=
  within (W := [s]) (by simpa using h)
end Sy
/-- the greatest of a list with its start -/
theorem greatest_cons (a b : Int) (r : List Int) : greatest (a :: b :: r) = max a (greatest (b :: r)) := rfl
theorem greatest_app (c : Int) : ∀ l : List Int, greatest (l ++ [c]) = l.foldr max c
  | [] => rfl
  | [a] => rfl
  | a :: b :: l => by
    show max a (greatest (b :: l ++ [c])) = _
    rw [greatest_app c (b :: l)]
    rfl
theorem foldr_max (l : List Int) (c d : Int) : l.foldr max (max c d) = max (l.foldr max c) d := by
  induction l with
  | nil => rfl
  | cons a l ih => rw [List.foldr_cons, ih, List.foldr_cons]; omega
theorem greatest_cons0 (c : Int) : ∀ l : List Int, greatest (c :: l) = l.foldr max c
  | [] => rfl
  | a :: l => by
    show max c (greatest (a :: l)) = _
    rw [greatest_cons0 a l, List.foldr_cons]
    cases l with
    | nil => show max c a = max a c; omega
    | cons b l =>
      have h1 := foldr_max (b :: l) a c
      have h2 := foldr_max (b :: l) c a
      have h3 : max a c = max c a := by omega
      rw [h3] at h1
      omega
theorem max_fixes (c : Int) : ∀ s : Sy, (s.fixes.map fun q => (q.lev : Int)).foldr max c = max (s.lev : Int) c ∨ (s.fixes = [] ∧ s.lev = 0)
  | .yes b => .inr ⟨rfl, rfl⟩
  | .is b i => .inr ⟨rfl, rfl⟩
  | .name i => .inr ⟨rfl, rfl⟩
  | .two b l r => by
    have e : (Sy.two b l r).fixes = l.fixes ++ r.fixes := by simp [Sy.fixes, Sy.parts, Sy.isFix, List.filter_append]
    have el : (Sy.two b l r).lev = max l.lev r.lev := rfl
    rw [e, el, List.map_append, List.foldr_append]
    rcases max_fixes c r with h | ⟨h, h'⟩
    · left
      rw [h]
      rw [Int.max_comm, foldr_max]
      rcases max_fixes c l with q | ⟨q, q'⟩
      · rw [q]; omega
      · rw [q, q']; simp; omega
    · rw [h, h']
      rcases max_fixes c l with q | ⟨q, q'⟩
      · left; simp [q]
      · right; simp [q, q']
  | .step b i x => by
    have e : (Sy.step b i x).fixes = x.fixes := by simp [Sy.fixes, Sy.parts, Sy.isFix]
    rw [e]
    exact max_fixes c x
  | .fix b i x => by
    have e : (Sy.fix b i x).fixes = .fix b i x :: x.fixes := by simp [Sy.fixes, Sy.parts, Sy.isFix, List.filter_cons]
    left
    rw [e, List.map_cons, List.foldr_cons]
    have h1 := Sy.up_le b (max x.lev (Sy.low b))
    have h2 : (Sy.fix b i x).lev = Sy.up b (max x.lev (Sy.low b)) := rfl
    rcases max_fixes c x with q | ⟨q, q'⟩
    · rw [q]; omega
    · rw [q]; simp
/-! ### dicts by the binders -/
def levKv (l : List Sy) : List (D × D) := l.map fun q => (.int q.arg, .int (q.lev : Int))
theorem look_by (v : Sy → D) : ∀ {l : List Sy} {t : Sy}, (l.map Sy.arg).Nodup → t ∈ l → lookD (l.map fun q => (D.int q.arg, v q)) (.int t.arg) = some (v t)
  | [], t, _, h => by simp at h
  | q :: l, t, n, h => by
    rw [List.map_cons, List.nodup_cons] at n
    show (if D.int q.arg = D.int t.arg then some (v q) else lookD (l.map fun q => (D.int q.arg, v q)) (.int t.arg)) = _
    rcases List.mem_cons.mp h with h | h
    · subst h; rw [if_pos rfl]
    · rw [if_neg fun z => n.1 (by rw [D.int.inj z]; exact List.mem_map_of_mem h), look_by v n.2 h]
theorem put_new (v : Sy → D) {t : Sy} {w : D} : ∀ {l : List Sy}, t.arg ∉ l.map Sy.arg → putD (l.map fun q => (D.int q.arg, v q)) (.int t.arg) w = (l.map fun q => (D.int q.arg, v q)) ++ [(.int t.arg, w)]
  | [], _ => rfl
  | q :: l, n => by
    rw [List.map_cons, List.mem_cons, not_or] at n
    show (if D.int q.arg = D.int t.arg then (D.int q.arg, w) :: _ else (D.int q.arg, v q) :: putD (l.map fun q => (D.int q.arg, v q)) (.int t.arg) w) = _
    rw [if_neg fun z => n.1 (D.int.inj z).symm, put_new v n.2]
    rfl
/-! ### size_of, binders_in -/
def sp_size_of : SpD := fun ds S R => ∃ s : Sy, ds = [s.d] ∧ s.size ≤ 100000 ∧ R (.int s.size) S
@[simp] theorem sp_size_app {s : Sy} {S : Store} {R : DVK} : sp_size_of [s.d] S R = (s.size ≤ 100000 ∧ R (.int s.size) S) := by
  show (∃ s' : Sy, [s.d] = [s'.d] ∧ s'.size ≤ 100000 ∧ R (.int s'.size) S) = _
  refine propext ⟨fun ⟨s', e, h⟩ => ?_, fun h => ⟨s, rfl, h⟩⟩
  have e : s.d = s'.d := by simpa using e
  rw [sy_inj e]
  exact h
theorem w_size_of {Γ : G} (g1 : Γ.fn "all_parts" = sp_all_parts) : ∀ ds S R, sp_size_of ds S R → wss Γ ir_size_of (ends R) (startD ck_size_of.N ds) S := by
  rintro _ S R ⟨s, rfl, hs, hR⟩
  simp [ir_size_of, startD, ck_size_of, g1, hs]
  intro p hp
  exact ⟨S, Le.new hp, hR⟩
def bindKv (l : List Sy) : List (D × D) := l.map fun q => (.int q.arg, q.d)
def sp_binders_in : SpD := fun ds S R => ∃ s : Sy, ds = [s.d] ∧ s.size ≤ 1000 ∧ (s.fixes.map Sy.arg).Nodup ∧ newW (.dct (bindKv s.fixes)) S R
@[simp] theorem sp_binders_app {s : Sy} {S : Store} {R : DVK} : sp_binders_in [s.d] S R = (s.size ≤ 1000 ∧ (s.fixes.map Sy.arg).Nodup ∧ newW (.dct (bindKv s.fixes)) S R) := by
  show (∃ s' : Sy, [s.d] = [s'.d] ∧ s'.size ≤ 1000 ∧ (s'.fixes.map Sy.arg).Nodup ∧ newW (.dct (bindKv s'.fixes)) S R) = _
  refine propext ⟨fun ⟨s', e, h⟩ => ?_, fun h => ⟨s, rfl, h⟩⟩
  have e : s.d = s'.d := by simpa using e
  rw [sy_inj e]
  exact h
def gB (x : D) : Option (D × D) := (syOf x).bind fun t => if t.isFix then some (.int t.arg, x) else none
theorem gB_d (s : Sy) : gB s.d = if s.isFix then some (.int s.arg, s.d) else none := by unfold gB; rw [syOf_d]; rfl
theorem put_all : ∀ {P : List Sy} {l : List Sy}, ((l ++ P.filter Sy.isFix).map Sy.arg).Nodup → putAllD gB (P.map Sy.d) (bindKv l) = bindKv (l ++ P.filter Sy.isFix)
  | [], l, _ => by simp [putAllD]
  | q :: P, l, n => by
    rw [List.map_cons]
    unfold putAllD
    rw [gB_d]
    by_cases c : q.isFix = true
    · rw [if_pos c, List.filter_cons_of_pos c] at *
      show putAllD gB (P.map Sy.d) (putD (bindKv l) (.int q.arg) q.d) = _
      have n1 : q.arg ∉ l.map Sy.arg := by
        rw [List.map_append, List.nodup_append] at n
        intro h
        exact n.2.2 _ h _ (by simp) rfl
      have e : putD (bindKv l) (.int q.arg) q.d = bindKv (l ++ [q]) := by
        unfold bindKv
        rw [put_new _ n1, List.map_append]
        rfl
      rw [e, put_all (l := l ++ [q]) (by simpa using n)]
      simp
    · rw [if_neg c, List.filter_cons_of_neg c] at *
      exact put_all n
theorem w_binders_in {Γ : G} (g1 : Γ.fn "all_parts" = sp_all_parts) (g2 : Γ.gv "BINDERS" = some (.tup [.str "least", .str "greatest"])) : ∀ ds S R, sp_binders_in ds S R → wss Γ ir_binders_in (ends R) (startD ck_binders_in.N ds) S := by
  rintro _ S R ⟨s, rfl, hs, hn, hR⟩
  have hs5 : s.size ≤ 100000 := by omega
  simp [ir_binders_in, startD, ck_binders_in, g1, hs5]
  intro p hp q hq
  rw [Store.upd_none] at hq
  have hl : s.parts.length ≤ 16777215 := by unfold Sy.size at hs; omega
  refine dc_go gB (by simpa using hl) (fun ys => by rw [Store.upd_ne (Ne.symm hq.1), Store.upd_same]) (fun x hx kv e => ?_) (fun x hx ys k h => ?_) ?_
  · rw [List.mem_map] at hx
    obtain ⟨t, _, rfl⟩ := hx
    rw [gB_d] at e
    split at e
    · cases e; rfl
    · cases e
  · rw [List.mem_map] at hx
    obtain ⟨t, _, rfl⟩ := hx
    rw [gB_d] at h
    simp [wipeD, g2]
    by_cases c : t.isFix = true
    · rw [if_pos c] at h
      simp [c]
      rw [sub_d1 c]
      exact h
    · rw [if_neg c] at h
      simp [c]
      exact h
  · have e : putAllD gB (s.parts.map Sy.d) [] = bindKv s.fixes := put_all (l := []) (by rw [List.nil_append]; exact hn)
    rw [e]
    refine ⟨S.upd q (.dct (bindKv s.fixes)), fun a o z => ?_, hR q hq.2⟩
    by_cases c : a = q
    · subst c; rw [Store.upd_same] at z ⊢; exact z
    · rw [Store.upd_ne c] at z ⊢
      rw [Store.upd_ne (Store.ne z hp)]
      exact z
end Y

namespace Y
open PySem PySem.Spec L2
def condFix : E := .cmp .inn (.sub (.var 2) (.int 0)) (.gv "BINDERS")
def innLev : E := .lc [5] (.one 5) (.seq (.call "all_parts" [(.sub (.var 2) (.int 2))])) (some (.cmp .inn (.sub (.var 5) (.int 0)) (.gv "BINDERS"))) (.sub (.var 1) (.sub (.var 5) (.int 1)))
def maxLev : E := .bi .max [(.op .add (.var 3) (.lst [(.ite (.cmp .eq (.sub (.var 2) (.int 0)) (.str "least")) (.int 1) (.int 2))]))]
def upLev : E := .ite (.cmp .eq (.cmp .eq (.op .mod (.var 4) (.int 2)) (.int 1)) (.cmp .eq (.sub (.var 2) (.int 0)) (.str "least"))) (.var 4) (.op .add (.var 4) (.int 1))
def bodyLev : List Y.S := [.ife condFix [.asg (.name (.one 3)) innLev, .asg (.name (.one 4)) maxLev, .asg (.sub (.var 1) (.sub (.var 2) (.int 1))) upLev] []]
theorem ir_lev : ir_levels_of = [.asg (.name (.one 1)) (.dsp []), .frr (.one 2) (.seq (.rev (.call "all_parts" [(.var 0)]))) bodyLev, .ret (.var 1)] := rfl
def gL (x : D) : Option D := (syOf x).bind fun t => if t.isFix then some (.int (t.lev : Int)) else none
theorem gL_d (s : Sy) : gL s.d = if s.isFix then some (.int (s.lev : Int)) else none := by unfold gL; rw [syOf_d]; rfl
theorem gL_all : ∀ P : List Sy, (P.map Sy.d).filterMap gL = ((P.filter Sy.isFix).map fun q => (q.lev : Int)).map D.int
  | [] => rfl
  | q :: P => by
    rw [List.map_cons, List.filterMap_cons, gL_d, gL_all P]
    by_cases c : q.isFix = true
    · rw [if_pos c, List.filter_cons_of_pos c]; rfl
    · rw [if_neg c, List.filter_cons_of_neg c]
theorem lev_max (x : Sy) (b : Bool) : greatest ((x.fixes.map fun q => (q.lev : Int)) ++ [(Sy.low b : Int)]) = ((max x.lev (Sy.low b) : Nat) : Int) := by
  rw [greatest_app]
  rcases max_fixes (Sy.low b) x with h | ⟨h, h'⟩
  · rw [h]; omega
  · rw [h, h']; simp
theorem Le.upd {S S' : Store} {p : Addr} {o : MO} (l : Le S S') : Le (S.upd p o) (S'.upd p o) := fun a ob e => by
  by_cases c : a = p
  · subst c; rw [Store.upd_same] at e ⊢; exact e
  · rw [Store.upd_ne c] at e ⊢; exact l a ob e
theorem max_lev {Γ : G} {v0 v1 x4 x5 : Option D} {b : Bool} {i : Int} {x : Sy} {q : Addr} {ns : List Int} {S : Store} {R : DVK} (hq : S q = some (.lst (ns.map D.int))) (hn : ns.length + 1 ≤ 1000) (h : ∀ S', Le S S' → R (.int (greatest (ns ++ [(Sy.low b : Int)]))) S') :
    wp Γ maxLev [v0, v1, some (Sy.fix b i x).d, some (.loc q), x4, x5] S R := by
  have i1 : ∀ c : Int, intsD (List.map D.int ns ++ [.int c]) = some (ns ++ [c]) := fun c => by
    have := ints_of (ns ++ [c])
    rw [List.map_append] at this
    exact this
  have hl : ns.length + 1 ≤ sizeLine := line_le (by omega)
  cases b
  all_goals
    simp [maxLev, Sy.tag]
    intro p hp
    have nq : q ≠ p := Store.ne hq hp
    refine ⟨_, (Store.upd_ne nq).trans hq, ?_⟩
    rw [v_addl2]
    refine ⟨_, up_same, ?_⟩
    rw [v_addl3]
    refine ⟨by simpa using hl, ?_⟩
    rw [v_new]
    intro p2 hp2
    refine ⟨_, up_same, _, i1 _, by simp, h _ ((Le.new hp).trans (Le.new hp2))⟩
theorem up_lev {Γ : G} {v0 v1 x3 x5 : Option D} {b : Bool} {i : Int} {x : Sy} {m : Nat} {S : Store} {R : DVK} (h : R (.int (Sy.up b m : Int)) S) :
    wp Γ upLev [v0, v1, some (Sy.fix b i x).d, x3, some (.int (m : Int)), x5] S R := by
  have e : ∀ k : Int, k = (Sy.up b m : Int) → R (.int k) S := fun k hk => by rw [hk]; exact h
  have c : ((m : Int) % 2 = 1) ↔ m % 2 = 1 := by omega
  cases b
  all_goals
    simp [upLev, Sy.tag, c]
    unfold Sy.up at e
    by_cases c2 : m % 2 = 1
    · simp [c2] at e ⊢
      exact e
    · simp [c2] at e ⊢
      first | exact e | exact ⟨by omega, e⟩
theorem lev_body {Γ : G} (g1 : Γ.fn "all_parts" = sp_all_parts) (g2 : Γ.gv "BINDERS" = some (.tup [.str "least", .str "greatest"])) {Z : Ends} {S : Store} {pf : Addr} {v0 x3 x4 x5 : Option D} {b : Bool} {i : Int} {x : Sy} {L : List Sy}
    (hx : x.size < 1000) (hL : L.length ≤ 1000) (n : (L.map Sy.arg).Nodup) (hi : i ∉ L.map Sy.arg) (hin : ∀ t ∈ x.fixes, t ∈ L) (e : S pf = some (.dct (levKv L)))
    (h : ∀ x3' x4' S', Le (S.upd pf (.dct (levKv (L ++ [.fix b i x])))) S' → Z.nx [v0, some (.loc pf), some (Sy.fix b i x).d, x3', x4', x5] S') :
    wss Γ bodyLev Z [v0, some (.loc pf), some (Sy.fix b i x).d, x3, x4, x5] S := by
  have f0 : ∀ R : DVK, ∀ S, subW (Sy.fix b i x).d (.int 1) S R = R (.int i) S := fun R S => sub_d1 rfl
  have f1 : ∀ R : DVK, ∀ S, subW (Sy.fix b i x).d (.int 2) S R = R x.d S := fun R S => by
    show (∃ v, atD [D.str _, D.int i, x.d] 2 = some v ∧ R v S) = _
    simp
  simp [bodyLev, condFix, innLev, g1, g2, f0, f1, Sy.isFix]
  refine ⟨by omega, fun p hp q hq => ?_⟩
  rw [Store.upd_none] at hq
  have hl : x.parts.length ≤ 16777215 := by unfold Sy.size at hx; omega
  have np : pf ≠ p := Store.ne e hp
  have nq : pf ≠ q := Store.ne e hq.2
  refine lc_go gL (by simpa using hl) (fun ys => by rw [Store.upd_ne (Ne.symm hq.1), Store.upd_same]) (fun y hy ys k h => ?_) ?_
  · rw [List.mem_map] at hy
    obtain ⟨t, ht, rfl⟩ := hy
    rw [gL_d] at h
    simp [wipeD, g2]
    by_cases c : t.isFix = true
    · rw [if_pos c] at h
      simp [c]
      rw [sub_d1 c]
      refine ⟨_, by rw [Store.upd_ne nq, Store.upd_ne np]; exact e, ?_⟩
      rw [v_ixod]
      exact ⟨rfl, _, look_by (fun q => .int (q.lev : Int)) n (hin t (List.mem_filter.mpr ⟨ht, c⟩)), h⟩
    · rw [if_neg c] at h
      simp [c]
      exact h
  · rw [gL_all]
    refine max_lev (ns := (x.parts.filter Sy.isFix).map fun q => (q.lev : Int)) up_same (by have := List.length_filter_le Sy.isFix x.parts; unfold Sy.size at hx; rw [List.length_map]; omega) fun S1 l1 => ?_
    have hg : greatest ((List.map (fun q => ((Sy.lev q : Nat) : Int)) (List.filter Sy.isFix x.parts)) ++ [(Sy.low b : Int)]) = ((max x.lev (Sy.low b) : Nat) : Int) := lev_max x b
    rw [hg]
    refine up_lev ?_
    have l2 : Le S S1 := ((Le.new hp).trans (Le.new (by rw [Store.upd_none]; exact hq))).trans l1
    refine ⟨_, l2 _ _ e, ?_⟩
    rw [v_setd]
    refine ⟨rfl, line_lt (by unfold levKv; rw [List.length_map]; omega), h _ _ _ ?_⟩
    have := put_new (fun q => D.int (q.lev : Int)) (t := .fix b i x) (w := .int ((Sy.fix b i x).lev : Int)) hi
    have e2 : putD (levKv L) (.int i) (.int (Sy.up b (max x.lev (Sy.low b)) : Nat)) = levKv (L ++ [.fix b i x]) := by
      unfold levKv
      rw [List.map_append]
      exact this
    rw [e2]
    exact l2.upd
theorem lev_loop {Γ : G} (g1 : Γ.fn "all_parts" = sp_all_parts) (g2 : Γ.gv "BINDERS" = some (.tup [.str "least", .str "greatest"])) {Z : Ends} {S0 : Store} {pf pr : Addr} (hf : S0 pf = none) (ne : pr ≠ pf) {s : Sy} (hs : s.size ≤ 1000) (hn : (s.fixes.map Sy.arg).Nodup) {xs : List D} {v0 x5 : Option D}
    (hZ : ∀ σ2 x4' S', Le S0 S' → S' pf = some (.dct (levKv s.fixes.reverse)) → Z.nx (v0 :: some (.loc pf) :: σ2 :: x4') S') : ∀ (T Dn : List Sy) (x2 x3 x4 : Option D) (S : Store), s.parts.reverse = Dn ++ T → Le S0 S → S pr = some (.lst xs) → S pf = some (.dct (levKv (Dn.filter Sy.isFix))) →
      forL (.one 2) (fun S2 => S2 pr = some (.lst xs)) (wss Γ bodyLev) (T.map Sy.d) Z [v0, some (.loc pf), x2, x3, x4, x5] S
  | [], Dn, x2, x3, x4, S, hP, l, er, ef => by
    simp
    refine ⟨er, hZ _ _ _ l ?_⟩
    rw [List.append_nil] at hP
    unfold Sy.fixes
    rw [← List.filter_reverse, hP]
    exact ef
  | q :: T, Dn, x2, x3, x4, S, hP, l, er, ef => by
    simp
    refine ⟨er, ?_⟩
    have hP2 : s.parts = T.reverse ++ q :: Dn.reverse := by
      have := congrArg List.reverse hP
      rw [List.reverse_reverse] at this
      rw [this]
      simp
    obtain ⟨C, hC⟩ := Sy.within1 hP2
    have nd : ((Dn.filter Sy.isFix ++ (q :: T).filter Sy.isFix).map Sy.arg).Nodup := by
      rw [← List.filter_append, ← hP, List.filter_reverse, List.map_reverse]
      exact (List.reverse_perm _).nodup_iff.mpr hn
    have len : Dn.length + T.length + 1 ≤ 1000 := by
      have := congrArg List.length hP2
      simp at this
      unfold Sy.size at hs
      omega
    cases q with
    | fix b i x =>
      have hk : (Sy.fix b i x).kin.flatMap Sy.parts = x.parts := by simp [Sy.kin]
      rw [hk] at hC
      have hx : x.size ≤ Dn.length := by
        have := congrArg List.length hC
        simp at this
        unfold Sy.size
        omega
      rw [List.filter_cons_of_pos rfl, List.map_append, List.nodup_append] at nd
      refine lev_body g1 g2 (by omega) (by have := List.length_filter_le Sy.isFix Dn; omega) nd.1 (fun h => nd.2.2 i h i (List.mem_cons.mpr (.inl rfl)) rfl) (fun t ht => ?_) ef fun x3' x4' S' l' => ?_
      · have ht := List.mem_filter.mp ht
        refine List.mem_filter.mpr ⟨?_, ht.2⟩
        rw [← List.mem_reverse, hC]
        exact List.mem_append.mpr (.inl ht.1)
      · refine lev_loop g1 g2 hf ne hs hn hZ T (Dn ++ [.fix b i x]) _ _ _ S' (by simpa using hP) (fun a o e => ?_) (l' _ _ (by rw [Store.upd_ne ne]; exact er)) (l' _ _ ?_)
        · refine l' _ _ ?_
          rw [Store.upd_ne (Store.ne e hf)]
          exact l a o e
        · rw [Store.upd_same, List.filter_append]
          rfl
    | _ =>
      simp [bodyLev, condFix, g2, Sy.isFix]
      refine lev_loop g1 g2 hf ne hs hn hZ T (Dn ++ [_]) _ _ _ S (by simpa using hP) l er ?_
      rw [List.filter_append]
      simpa [Sy.isFix] using ef
def sp_levels_of : SpD := fun ds S R => ∃ s : Sy, ds = [s.d] ∧ s.size ≤ 1000 ∧ (s.fixes.map Sy.arg).Nodup ∧ newW (.dct (levKv s.fixes.reverse)) S R
@[simp] theorem sp_levels_app {s : Sy} {S : Store} {R : DVK} : sp_levels_of [s.d] S R = (s.size ≤ 1000 ∧ (s.fixes.map Sy.arg).Nodup ∧ newW (.dct (levKv s.fixes.reverse)) S R) := by
  show (∃ s' : Sy, [s.d] = [s'.d] ∧ s'.size ≤ 1000 ∧ (s'.fixes.map Sy.arg).Nodup ∧ newW (.dct (levKv s'.fixes.reverse)) S R) = _
  refine propext ⟨fun ⟨s', e, h⟩ => ?_, fun h => ⟨s, rfl, h⟩⟩
  have e : s.d = s'.d := by simpa using e
  rw [sy_inj e]
  exact h
theorem Le.put {S S' : Store} {p : Addr} {o : MO} (l : Le S S') (h : S' p = some o) : Le (S.upd p o) S' := fun a ob e => by
  by_cases c : a = p
  · subst c; rw [Store.upd_same] at e; cases e; exact h
  · rw [Store.upd_ne c] at e; exact l a ob e
theorem w_levels_of {Γ : G} (g1 : Γ.fn "all_parts" = sp_all_parts) (g2 : Γ.gv "BINDERS" = some (.tup [.str "least", .str "greatest"])) : ∀ ds S R, sp_levels_of ds S R → wss Γ ir_levels_of (ends R) (startD ck_levels_of.N ds) S := by
  rintro _ S R ⟨s, rfl, hs, hn, hR⟩
  rw [ir_lev]
  have hs5 : s.size ≤ 100000 := by omega
  simp [startD, ck_levels_of, g1, hs5, pairUp, mergeD]
  intro pf hf pa ha pr hr
  rw [Store.upd_none] at ha
  rw [Store.upd_none, Store.upd_none] at hr
  rw [← List.map_reverse]
  refine lev_loop g1 g2 hf (fun z => hr.2.1 z) hs hn (fun _ _ S' l e => ?_) s.parts.reverse [] _ _ _ _ rfl ?_ up_same ?_
  · simp
    exact ⟨_, l.put e, hR _ hf⟩
  · exact ((Le.new hf).trans (Le.new (by rw [Store.upd_none]; exact ha))).trans (Le.new (by rw [Store.upd_none, Store.upd_none]; exact hr))
  · rw [Store.upd_ne (fun z => hr.2.1 z.symm), Store.upd_ne (fun z => ha.1 z.symm), Store.upd_same]
    rfl
/-! ### top_level -/
def sp_top_level : SpD := fun ds S R => ∃ s : Sy, ds = [s.d] ∧ s.size ≤ 1000 ∧ (s.fixes.map Sy.arg).Nodup ∧ R (.int (s.lev : Int)) S
@[simp] theorem sp_top_app {s : Sy} {S : Store} {R : DVK} : sp_top_level [s.d] S R = (s.size ≤ 1000 ∧ (s.fixes.map Sy.arg).Nodup ∧ R (.int (s.lev : Int)) S) := by
  show (∃ s' : Sy, [s.d] = [s'.d] ∧ s'.size ≤ 1000 ∧ (s'.fixes.map Sy.arg).Nodup ∧ R (.int (s'.lev : Int)) S) = _
  refine propext ⟨fun ⟨s', e, h⟩ => ?_, fun h => ⟨s, rfl, h⟩⟩
  have e : s.d = s'.d := by simpa using e
  rw [sy_inj e]
  exact h
@[simp] theorem v_vals {a : Addr} {S : Store} {R : DVK} : biW .listvals [.loc a] S R = ∃ o, S a = some o ∧ valsO o S R := rfl
@[simp] theorem v_valo {xs : List (D × D)} {S : Store} {R : DVK} : valsO (.dct xs) S R = newW (.lst (xs.map (·.2))) S R := rfl
theorem foldr_max_rev (c : Int) (l : List Int) : l.reverse.foldr max c = l.foldr max c := by
  induction l with
  | nil => rfl
  | cons a l ih =>
    rw [List.reverse_cons, List.foldr_append, List.foldr_cons, List.foldr_cons, List.foldr_nil, Int.max_comm, foldr_max, ih, Int.max_comm]
theorem top_max (s : Sy) : greatest (0 :: (s.fixes.reverse.map fun q => (q.lev : Int))) = (s.lev : Int) := by
  rw [greatest_cons0, List.map_reverse, foldr_max_rev]
  rcases max_fixes 0 s with h | ⟨h, h'⟩
  · rw [h]; omega
  · rw [h, h']; simp
theorem w_top_level {Γ : G} (g1 : Γ.fn "levels_of" = sp_levels_of) : ∀ ds S R, sp_top_level ds S R → wss Γ ir_top_level (ends R) (startD ck_top_level.N ds) S := by
  rintro _ S R ⟨s, rfl, hs, hn, hR⟩
  simp [startD, ck_top_level, ir_top_level, g1, hs, hn]
  intro p hp q hq r hr
  rw [Store.upd_none] at hq
  rw [Store.upd_none, Store.upd_none] at hr
  refine ⟨_, by rw [Store.upd_ne (Ne.symm hr.2.1), Store.upd_ne (Ne.symm hq.1), Store.upd_same], ?_⟩
  rw [v_addl2]
  refine ⟨_, up_same, ?_⟩
  rw [v_addl3]
  have hl : s.fixes.length ≤ s.size := List.length_filter_le _ _
  refine ⟨line_le (by simp [levKv]; omega), ?_⟩
  rw [v_new]
  intro t ht
  refine ⟨_, up_same, _, (?_ : _ = some (0 :: (s.fixes.reverse.map fun q => (q.lev : Int)))), by simp, ?_⟩
  · have := ints_of (0 :: (s.fixes.reverse.map fun q => (q.lev : Int)))
    rw [← this]
    simp [levKv, Function.comp_def]
  · rw [top_max]
    exact ⟨S, ((((Le.new hp).trans (Le.new (by rw [Store.upd_none]; exact hq))).trans (Le.new (by rw [Store.upd_none, Store.upd_none]; exact hr)))).trans (Le.new ht), hR⟩
end Y

namespace Y
open PySem PySem.Spec L2
namespace Sy
/-- the contrary -/
def turn : Sy → Sy
  | yes b => yes (!b)
  | is b i => is (!b) i
  | name i => name i
  | two b l r => two (!b) l.turn r.turn
  | step b i x => step (!b) i x.turn
  | fix b i x => fix (!b) i x.turn
theorem turn_turn : ∀ s : Sy, s.turn.turn = s
  | yes b => by simp [turn]
  | is b i => by simp [turn]
  | name i => rfl
  | two b l r => by simp [turn, turn_turn l, turn_turn r]
  | step b i x => by simp [turn, turn_turn x]
  | fix b i x => by simp [turn, turn_turn x]
theorem turn_depth : ∀ s : Sy, s.turn.depth = s.depth
  | yes b => rfl
  | is b i => rfl
  | name i => rfl
  | two b l r => by simp [turn, depth, turn_depth l, turn_depth r]
  | step b i x => by simp [turn, depth, turn_depth x]
  | fix b i x => by simp [turn, depth, turn_depth x]
end Sy
def turnedKv : List (String × D) := [("yes", .str "no"), ("is", .str "isnt"), ("both", .str "either"), ("some", .str "all"), ("least", .str "greatest")]
def backKv : List (D × D) := [(.str "no", .str "yes"), (.str "isnt", .str "is"), (.str "either", .str "both"), (.str "all", .str "some"), (.str "greatest", .str "least"),
  (.str "yes", .str "no"), (.str "is", .str "isnt"), (.str "both", .str "either"), (.str "some", .str "all"), (.str "least", .str "greatest")]
def backA : Y.S := .asg (.name (.one 1)) (.dc [2] (.one 2) (.gkeys "TURNED") none (.sub (.gv "TURNED") (.var 2)) (.var 2))
def backB : Y.S := .frr (.one 2) (.gkeys "TURNED") [.asg (.sub (.var 1) (.var 2)) (.sub (.gv "TURNED") (.var 2))]
def partsA : Y.S := .asg (.name (.one 3)) (.call "with_parts" [(.var 0), (.lc [4] (.one 4) (.seq (.call "parts_of" [(.var 0)])) none (.call "against" [(.var 4)]))])
def retA : Y.S := .ret (.op .add (.tup [(.mt .get (.var 1) [(.sub (.var 0) (.int 0)), (.sub (.var 0) (.int 0))])]) (.slc (.var 3) (some (.int 1)) none))
theorem ir_aga : ir_against = [backA, backB, partsA, retA] := rfl
def sp_against (n : Nat) : SpD := fun ds S R => ∃ s : Sy, ds = [s.d] ∧ s.depth ≤ n ∧ R s.turn.d S
@[simp] theorem sp_against_app {n : Nat} {s : Sy} {S : Store} {R : DVK} : sp_against n [s.d] S R = (s.depth ≤ n ∧ R s.turn.d S) := by
  show (∃ s' : Sy, [s.d] = [s'.d] ∧ s'.depth ≤ n ∧ R s'.turn.d S) = _
  refine propext ⟨fun ⟨s', e, h⟩ => ?_, fun h => ⟨s, rfl, h⟩⟩
  have e : s.d = s'.d := by simpa using e
  rw [sy_inj e]
  exact h
theorem back_a {Γ : G} (g : Γ.gd "TURNED" = some turnedKv) {Z : Ends} {v0 x1 x2 x3 x4 : Option D} {S : Store} (h : ∀ p, S p = none → Z.nx [v0, some (.loc p), x2, x3, x4] (S.upd p (.dct (backKv.take 5)))) : ws Γ backA Z [v0, x1, x2, x3, x4] S := by
  simp [backA, g, x_subg g, turnedKv]
  intro p hp
  simp [dcL, wipeD, turnedKv, List.lookup, putD, keyOk]
  exact ⟨line_lt (by decide), line_lt (by decide), line_lt (by decide), line_lt (by decide), line_lt (by decide), h p hp⟩
theorem back_b {Γ : G} (g : Γ.gd "TURNED" = some turnedKv) {Z : Ends} {v0 x2 x3 x4 : Option D} {S : Store} {p : Addr} (e : S p = some (.dct (backKv.take 5))) (h : ∀ x2', Z.nx [v0, some (.loc p), x2', x3, x4] (S.upd p (.dct backKv))) : ws Γ backB Z [v0, some (.loc p), x2, x3, x4] S := by
  simp [backB, g, x_subg g, turnedKv, List.lookup, e, putD, backKv]
  exact ⟨line_lt (by decide), line_lt (by decide), line_lt (by decide), line_lt (by decide), line_lt (by decide), h _⟩
def withL (s : Sy) (xs : List D) : List D := if s.tag = "both" ∨ s.tag = "either" then .str s.tag :: xs else .str s.tag :: (s.body.take 1 ++ xs)
theorem with_go {s : Sy} {p : Addr} {xs : List D} {S : Store} {R : DVK} (e : S p = some (.lst xs)) (hl : xs.length ≤ 1000) (h : R (.tup (withL s xs)) S) : sp_with_parts [s.d, .loc p] S R := by
  refine ⟨s.tag, s.body, p, xs, by rw [Sy.d_eq], e, hl, ?_⟩
  unfold withL at h
  exact h
theorem parts_a {Γ : G} {n : Nat} (g1 : Γ.fn "with_parts" = sp_with_parts) (g2 : Γ.fn "parts_of" = sp_parts_of) (g3 : Γ.fn "against" = sp_against n) {Z : Ends} {s : Sy} (hs : s.depth ≤ n + 1) {x1 x2 x3 x4 : Option D} {S : Store}
    (h : ∀ S', Le S S' → Z.nx [some s.d, x1, x2, some (.tup (withL s ((s.kin.map Sy.turn).map Sy.d))), x4] S') : ws Γ partsA Z [some s.d, x1, x2, x3, x4] S := by
  simp [partsA, g1, g2, g3]
  intro p hp
  have hk := s.kin_len
  have hd : ∀ t ∈ s.kin, t.depth ≤ n := by
    intro t ht
    cases s with
    | two b l r =>
      simp [Sy.kin] at ht
      simp [Sy.depth] at hs
      rcases ht with rfl | rfl <;> omega
    | step b i x =>
      simp [Sy.kin] at ht
      simp [Sy.depth] at hs
      subst ht
      omega
    | fix b i x =>
      simp [Sy.kin] at ht
      simp [Sy.depth] at hs
      subst ht
      omega
    | _ => simp [Sy.kin] at ht
  refine lc_go (fun x => (syOf x).map fun t => t.turn.d) (by simp; omega) (fun ys => trivial) (fun y hy ys k h => ?_) ?_
  · rw [List.mem_map] at hy
    obtain ⟨t, ht, rfl⟩ := hy
    rw [syOf_d] at h
    simp [wipeD, g3]
    exact ⟨hd t ht, h⟩
  · have e : (s.kin.map Sy.d).filterMap (fun x => (syOf x).map fun t => t.turn.d) = (s.kin.map Sy.turn).map Sy.d := by
      induction s.kin with
      | nil => rfl
      | cons a l ih => rw [List.map_cons, List.filterMap_cons, syOf_d]; simp [ih]
    rw [e]
    exact with_go up_same (by simp; omega) (h _ (Le.new hp))
theorem ret_a {Γ : G} {Z : Ends} {s : Sy} {p : Addr} {x2 x4 : Option D} {S : Store} (e : S p = some (.dct backKv)) (h : Z.rt s.turn.d S) : ws Γ retA Z [some s.d, some (.loc p), x2, some (.tup (withL s ((s.kin.map Sy.turn).map Sy.d))), x4] S := by
  have l3 : ∀ k : Nat, k ≤ 4 → 1 + k ≤ sizeLine := fun k hk => line_le (by omega)
  cases s with
  | yes b => cases b <;> simpa [retA, e, backKv, lookD, withL, Sy.tag, Sy.body, Sy.kin, Sy.turn, Sy.d] using h
  | is b i => cases b <;> simpa [retA, e, backKv, lookD, withL, Sy.tag, Sy.body, Sy.kin, Sy.turn, Sy.d] using h
  | name i => simpa [retA, e, backKv, lookD, withL, Sy.tag, Sy.body, Sy.kin, Sy.turn, Sy.d] using h
  | two b l r => cases b <;> simpa [retA, e, backKv, lookD, withL, Sy.tag, Sy.body, Sy.kin, Sy.turn, Sy.d] using h
  | step b i x => cases b <;> simpa [retA, e, backKv, lookD, withL, Sy.tag, Sy.body, Sy.kin, Sy.turn, Sy.d] using h
  | fix b i x => cases b <;> simpa [retA, e, backKv, lookD, withL, Sy.tag, Sy.body, Sy.kin, Sy.turn, Sy.d] using h
theorem w_against {Γ : G} {n : Nat} (g1 : Γ.fn "with_parts" = sp_with_parts) (g2 : Γ.fn "parts_of" = sp_parts_of) (g3 : Γ.fn "against" = sp_against n) (g : Γ.gd "TURNED" = some turnedKv) : ∀ ds S R, sp_against (n + 1) ds S R → wss Γ ir_against (ends R) (startD ck_against.N ds) S := by
  rintro _ S R ⟨s, rfl, hs, hR⟩
  rw [ir_aga]
  simp only [x_ss, x_ss0, startD, ck_against]
  refine back_a g fun p hp => ?_
  refine back_b g up_same fun x2 => ?_
  rw [up_up]
  refine parts_a g1 g2 g3 hs fun S' l => ?_
  exact ret_a (l _ _ up_same) ⟨S, (Le.new hp).trans l, hR⟩
end Y

namespace Y
open PySem PySem.Spec L2
theorem kin_depth {s t : Sy} {n : Nat} (h : t ∈ s.kin) (hs : s.depth ≤ n + 1) : t.depth ≤ n := by
  cases s with
  | two b l r =>
    simp [Sy.kin] at h
    simp [Sy.depth] at hs
    rcases h with rfl | rfl <;> omega
  | step b i x =>
    simp [Sy.kin] at h
    simp [Sy.depth] at hs
    subst h
    omega
  | fix b i x =>
    simp [Sy.kin] at h
    simp [Sy.depth] at hs
    subst h
    omega
  | _ => simp [Sy.kin] at h
theorem kin_size {s t : Sy} (h : t ∈ s.kin) : t.size < s.size := by
  cases s with
  | two b l r =>
    simp [Sy.kin] at h
    rcases h with rfl | rfl <;> simp [Sy.size, Sy.parts]
    omega
    omega
  | step b i x =>
    simp [Sy.kin] at h
    subst h
    simp [Sy.size, Sy.parts]
  | fix b i x =>
    simp [Sy.kin] at h
    subst h
    simp [Sy.size, Sy.parts]
  | _ => simp [Sy.kin] at h
theorem size_kin (s : Sy) : s.size = 1 + (s.kin.map Sy.size).sum := by
  unfold Sy.size
  rw [Sy.parts_kin, List.length_cons, List.length_flatMap]
  omega
theorem w_law_parts {Γ : G} : ∀ ds S R, sp_parts_of ds S R → wss Γ ir__law_parts (ends R) (startD ck__law_parts.N ds) S := fun ds S R h => w_parts_of ds S R h
theorem filterMap_sy {α : Type} (g : Sy → α) (l : List Sy) : (l.map Sy.d).filterMap (fun x => (syOf x).map g) = l.map g := by
  induction l with
  | nil => rfl
  | cons a l ih => rw [List.map_cons, List.filterMap_cons, syOf_d]; simp [ih]
/-! ### _law_size -/
def sp_lsize (n : Nat) : SpD := fun ds S R => ∃ s : Sy, ds = [s.d] ∧ s.depth ≤ n ∧ s.size ≤ 100000 ∧ R (.int s.size) S
@[simp] theorem sp_lsize_app {n : Nat} {s : Sy} {S : Store} {R : DVK} : sp_lsize n [s.d] S R = (s.depth ≤ n ∧ s.size ≤ 100000 ∧ R (.int s.size) S) := by
  show (∃ s' : Sy, [s.d] = [s'.d] ∧ s'.depth ≤ n ∧ s'.size ≤ 100000 ∧ R (.int s'.size) S) = _
  refine propext ⟨fun ⟨s', e, h⟩ => ?_, fun h => ⟨s, rfl, h⟩⟩
  have e : s.d = s'.d := by simpa using e
  rw [sy_inj e]
  exact h
theorem sum_int (l : List Nat) : (l.map fun n : Nat => (n : Int)).sum = (l.sum : Nat) := by
  induction l with
  | nil => rfl
  | cons a l ih => simp [ih]
theorem w_law_size {Γ : G} {n : Nat} (g1 : Γ.fn "_law_parts" = sp_parts_of) (g2 : Γ.fn "_law_size" = sp_lsize n) : ∀ ds S R, sp_lsize (n + 1) ds S R → wss Γ ir__law_size (ends R) (startD ck__law_size.N ds) S := by
  rintro _ S R ⟨s, rfl, hd, hs, hR⟩
  simp [ir__law_size, startD, ck__law_size, g1]
  intro p hp
  have hk := s.kin_len
  refine lc_go (fun x => (syOf x).map fun t => D.int t.size) (by simp; omega) (fun ys => trivial) (fun y hy ys k h => ?_) ?_
  · rw [List.mem_map] at hy
    obtain ⟨t, ht, rfl⟩ := hy
    rw [syOf_d] at h
    simp [wipeD, g2]
    exact ⟨kin_depth ht hd, by have := kin_size ht; omega, h⟩
  · rw [filterMap_sy]
    have e : s.kin.map (fun t => D.int t.size) = ((s.kin.map Sy.size).map fun n : Nat => (n : Int)).map D.int := by rw [List.map_map, List.map_map]; rfl
    refine ⟨_, up_same, _, (by rw [e]; exact ints_of _), ?_⟩
    show opW .add (.int 1) (.int _) _ _
    rw [sum_int]
    simp
    refine ⟨S, Le.new hp, ?_⟩
    rw [size_kin s] at hR
    simpa using hR
/-! ### _law_turn -/
theorem w_law_turn {Γ : G} {n : Nat} (g2 : Γ.fn "_law_turn" = sp_against n) : ∀ ds S R, sp_against (n + 1) ds S R → wss Γ ir__law_turn (ends R) (startD ck__law_turn.N ds) S := by
  rintro _ S R ⟨s, rfl, hd, hR⟩
  have hk : ∀ t ∈ s.kin, t.depth ≤ n := fun t ht => kin_depth ht hd
  have f : ∀ {p : Addr} {o : MO}, S p = none → R s.turn.d S → ∃ S'', Le S'' (S.upd p o) ∧ R s.turn.d S'' := fun hp h => ⟨S, Le.new hp, h⟩
  cases s with
  | yes b => cases b <;> simp [ir__law_turn, startD, ck__law_turn, Sy.d, Sy.tag, pairUp, mergeD, putD, lookD] <;> exact fun p hp => ⟨fun a b h => by rcases h with ⟨e, _⟩ | ⟨e, _⟩ <;> subst e <;> rfl, f hp hR⟩
  | is b i => cases b <;> simp [ir__law_turn, startD, ck__law_turn, Sy.d, Sy.tag, pairUp, mergeD, putD, lookD] <;> exact fun p hp => ⟨fun a b h => by rcases h with ⟨e, _⟩ | ⟨e, _⟩ <;> subst e <;> rfl, f hp hR⟩
  | name i => simp [ir__law_turn, startD, ck__law_turn, Sy.d, Sy.tag]; exact ⟨S, .refl, hR⟩
  | two b l r =>
    have h1 := hk l (by simp [Sy.kin])
    have h2 := hk r (by simp [Sy.kin])
    cases b <;> simp [ir__law_turn, startD, ck__law_turn, Sy.d, Sy.tag, pairUp, mergeD, putD, lookD, g2, h1, h2] <;> exact fun p hp => ⟨fun a b h => by rcases h with ⟨e, _⟩ | ⟨e, _⟩ <;> subst e <;> rfl, f hp hR⟩
  | step b i x =>
    have h1 := hk x (by simp [Sy.kin])
    cases b <;> simp [ir__law_turn, startD, ck__law_turn, Sy.d, Sy.tag, pairUp, mergeD, putD, lookD, g2, h1] <;> exact fun p hp => ⟨fun a b h => by rcases h with ⟨e, _⟩ | ⟨e, _⟩ | ⟨e, _⟩ | ⟨e, _⟩ <;> subst e <;> rfl, f hp hR⟩
  | fix b i x =>
    have h1 := hk x (by simp [Sy.kin])
    cases b <;> simp [ir__law_turn, startD, ck__law_turn, Sy.d, Sy.tag, pairUp, mergeD, putD, lookD, g2, h1] <;> exact fun p hp => ⟨fun a b h => by rcases h with ⟨e, _⟩ | ⟨e, _⟩ | ⟨e, _⟩ | ⟨e, _⟩ <;> subst e <;> rfl, f hp hR⟩
/-! ### _law_binders -/
def sp_lbind (n : Nat) : SpD := fun ds S R => ∃ s : Sy, ds = [s.d] ∧ s.depth ≤ n ∧ s.size ≤ 1000 ∧ newW (.lst (s.fixes.map Sy.d)) S R
@[simp] theorem sp_lbind_app {n : Nat} {s : Sy} {S : Store} {R : DVK} : sp_lbind n [s.d] S R = (s.depth ≤ n ∧ s.size ≤ 1000 ∧ newW (.lst (s.fixes.map Sy.d)) S R) := by
  show (∃ s' : Sy, [s.d] = [s'.d] ∧ s'.depth ≤ n ∧ s'.size ≤ 1000 ∧ newW (.lst (s'.fixes.map Sy.d)) S R) = _
  refine propext ⟨fun ⟨s', e, h⟩ => ?_, fun h => ⟨s, rfl, h⟩⟩
  have e : s.d = s'.d := by simpa using e
  rw [sy_inj e]
  exact h
theorem fixes_kin (s : Sy) : s.fixes = (if s.isFix = true then [s] else []) ++ s.kin.flatMap Sy.fixes := by
  unfold Sy.fixes
  rw [Sy.parts_kin, List.filter_cons, List.filter_flatMap]
  split <;> rfl
theorem fixes_len (s : Sy) : s.fixes.length ≤ s.size := List.length_filter_le _ _
def bodyBin : List Y.S := [.asg (.name (.one 1)) (.op .add (.var 1) (.call "_law_binders" [(.var 2)]))]
theorem ir_bin : ir__law_binders = [.asg (.name (.one 1)) (.ite (.cmp .inn (.sub (.var 0) (.int 0)) (.tup [(.str "least"), (.str "greatest")])) (.lst [(.var 0)]) (.lst [])), .frr (.one 2) (.seq (.call "_law_parts" [(.var 0)])) bodyBin, .ret (.var 1)] := rfl
theorem bin_loop {Γ : G} {n : Nat} (g2 : Γ.fn "_law_binders" = sp_lbind n) {Z : Ends} {S0 : Store} {v0 : Option D} (N : Nat) (hN : N ≤ 1000) : ∀ (T Dn : List Sy) (x2 : Option D) (S : Store) (p : Addr), (∀ t ∈ T, t.depth ≤ n) → (Dn ++ T.flatMap Sy.fixes).length ≤ N → (T.map Sy.size).sum ≤ N → Le S0 S → S p = some (.lst (Dn.map Sy.d)) → S0 p = none →
    (∀ x2' p' S', Le S0 S' → S0 p' = none → S' p' = some (.lst ((Dn ++ T.flatMap Sy.fixes).map Sy.d)) → Z.nx [v0, some (.loc p'), x2'] S') →
    forL (.one 2) (fun _ => True) (wss Γ bodyBin) (T.map Sy.d) Z [v0, some (.loc p), x2] S
  | [], Dn, x2, S, p, hT, hl, hs, l, e, hp, h => by
    simp
    exact h _ _ _ l hp (by simpa using e)
  | t :: T, Dn, x2, S, p, hT, hl, hs, l, e, hp, h => by
    rw [List.map_cons, List.sum_cons] at hs
    simp [bodyBin, g2]
    refine ⟨hT t List.mem_cons_self, by omega, fun q hq => ⟨_, (Store.upd_ne (Store.ne e hq)).trans e, ?_⟩⟩
    rw [v_addl2]
    refine ⟨_, up_same, ?_⟩
    rw [v_addl3]
    rw [List.flatMap_cons, ← List.append_assoc] at hl
    refine ⟨line_le (by simp at hl ⊢; omega), ?_⟩
    rw [v_new]
    intro r hr
    rw [Store.upd_none] at hr
    refine bin_loop g2 N hN T (Dn ++ t.fixes) _ _ r (fun t' h' => hT t' (List.mem_cons_of_mem _ h')) hl (by omega) ((l.trans (Le.new hq)).trans (Le.new (by rw [Store.upd_none]; exact hr))) (by rw [Store.upd_same, List.map_append]) (l.none hr.2) fun x2' p' S' l' h0 e' => h x2' p' S' l' h0 ?_
    rw [e']
    simp
theorem w_law_binders {Γ : G} {n : Nat} (g1 : Γ.fn "_law_parts" = sp_parts_of) (g2 : Γ.fn "_law_binders" = sp_lbind n) : ∀ ds S R, sp_lbind (n + 1) ds S R → wss Γ ir__law_binders (ends R) (startD ck__law_binders.N ds) S := by
  rintro _ S R ⟨s, rfl, hd, hs, hR⟩
  rw [ir_bin]
  have hk := size_kin s
  have hl : ∀ L : List Sy, (L.flatMap Sy.fixes).length ≤ (L.map Sy.size).sum := by
    intro L
    induction L with
    | nil => simp
    | cons a L ih =>
      have := fixes_len a
      simp at ih ⊢
      omega
  have hl2 := hl s.kin
  have go : ∀ (Dn : List Sy) (p : Addr), S p = none → s.fixes = Dn ++ s.kin.flatMap Sy.fixes → Dn.length ≤ 1 → forL (.one 2) (fun _ => True) (wss Γ bodyBin) (s.kin.map Sy.d) ⟨fun σ2 S2 => ∃ d, σ2[1]? = some (some d) ∧ ∃ S'', Le S'' S2 ∧ R d S'', fun v S2 => (ends R).rt v S2⟩ [some s.d, some (.loc p), none] (S.upd p (.lst (Dn.map Sy.d))) := by
    intro Dn p hp he hDn
    refine bin_loop g2 1000 (by omega) s.kin Dn _ _ p (fun t ht => kin_depth ht hd) (by rw [List.length_append]; omega) (by omega) (Le.new hp) up_same hp fun x2' p' S' l h0 e' => ⟨_, rfl, ?_⟩
    refine ⟨_, l.put e', ?_⟩
    rw [← he]
    exact hR p' h0
  have e := fixes_kin s
  by_cases c : s.isFix = true
  · rw [if_pos c] at e
    simp [startD, ck__law_binders, g1, c]
    exact fun p hp => go [s] p hp e (by simp)
  · rw [if_neg c] at e
    simp [startD, ck__law_binders, g1, c]
    exact fun p hp => go [] p hp e (by simp)
/-! ### _law_level -/
def sp_llev (n : Nat) : SpD := fun ds S R => ∃ s : Sy, ds = [s.d] ∧ s.isFix = true ∧ s.depth ≤ n ∧ s.size ≤ 1000 ∧ R (.int (s.lev : Int)) S
theorem sp_llev_app {n : Nat} {s : Sy} {S : Store} {R : DVK} : sp_llev n [s.d] S R = (s.isFix = true ∧ s.depth ≤ n ∧ s.size ≤ 1000 ∧ R (.int (s.lev : Int)) S) := by
  show (∃ s' : Sy, [s.d] = [s'.d] ∧ s'.isFix = true ∧ s'.depth ≤ n ∧ s'.size ≤ 1000 ∧ R (.int (s'.lev : Int)) S) = _
  refine propext ⟨fun ⟨s', e, h⟩ => ?_, fun h => ⟨s, rfl, h⟩⟩
  have e : s.d = s'.d := by simpa using e
  rw [sy_inj e]
  exact h
theorem parts_sub : ∀ {s t : Sy}, t ∈ s.parts → t.depth ≤ s.depth ∧ t.size ≤ s.size
  | .yes b, t, h => by simp [Sy.parts] at h; subst h; simp
  | .is b i, t, h => by simp [Sy.parts] at h; subst h; simp
  | .name i, t, h => by simp [Sy.parts] at h; subst h; simp
  | .two b l r, t, h => by
    simp [Sy.parts] at h
    rcases h with h | h | h
    · subst h; simp
    · have := parts_sub h
      have := kin_size (s := .two b l r) (t := l) (by simp [Sy.kin])
      simp [Sy.depth]
      omega
    · have := parts_sub h
      have := kin_size (s := .two b l r) (t := r) (by simp [Sy.kin])
      simp [Sy.depth]
      omega
  | .step b i x, t, h => by
    simp [Sy.parts] at h
    rcases h with h | h
    · subst h; simp
    · have := parts_sub h
      have := kin_size (s := .step b i x) (t := x) (by simp [Sy.kin])
      simp [Sy.depth]
      omega
  | .fix b i x, t, h => by
    simp [Sy.parts] at h
    rcases h with h | h
    · subst h; simp
    · have := parts_sub h
      have := kin_size (s := .fix b i x) (t := x) (by simp [Sy.kin])
      simp [Sy.depth]
      omega
theorem w_law_level {Γ : G} {n m : Nat} (hm : n ≤ m) (g1 : Γ.fn "_law_binders" = sp_lbind m) (g2 : Γ.fn "_law_level" = sp_llev n) : ∀ ds S R, sp_llev (n + 1) ds S R → wss Γ ir__law_level (ends R) (startD ck__law_level.N ds) S := by
  rintro _ S R ⟨s, rfl, hf, hd, hs, hR⟩
  cases s with
  | fix b i x =>
    have hx : x.depth ≤ n := kin_depth (s := .fix b i x) (by simp [Sy.kin]) hd
    have hxs : x.size < (Sy.fix b i x).size := kin_size (by simp [Sy.kin])
    have hxs2 : x.size ≤ 1000 := by omega
    have hxm : x.depth ≤ m := by omega
    have f1 : ∀ R : DVK, ∀ S, subW (Sy.fix b i x).d (.int 2) S R = R x.d S := fun R S => by
      show (∃ v, atD [D.str _, D.int i, x.d] 2 = some v ∧ R v S) = _
      simp
    have hl := fixes_len x
    simp [ir__law_level, startD, ck__law_level, g1, f1, hxs2, hxm]
    intro p hp q hq r hr
    have nq : p ≠ q := Store.ne up_same hq
    have nr : q ≠ r := Store.ne up_same hr
    have nr2 : p ≠ r := Store.ne (by rw [Store.upd_ne nq]; exact up_same) hr
    have l : Le S (((S.upd p (.lst [.int 0])).upd q (.lst (x.fixes.map Sy.d))).upd r (.lst [])) := ((Le.new hp).trans (Le.new hq)).trans (Le.new hr)
    refine lc_go (fun x => (syOf x).map fun t => D.int (t.lev : Int)) (by simp; omega) (fun ys => by rw [Store.upd_ne nr, Store.upd_same]) (fun y hy ys k h => ?_) ?_
    · rw [List.mem_map] at hy
      obtain ⟨t, ht, rfl⟩ := hy
      rw [syOf_d] at h
      have ht := List.mem_filter.mp ht
      have := parts_sub ht.1
      simp [wipeD, g2, sp_llev_app, ht.2]
      exact ⟨by omega, by omega, h⟩
    · rw [filterMap_sy]
      refine ⟨_, by rw [Store.upd_ne nr2, Store.upd_ne nq, Store.upd_same], ?_⟩
      rw [v_addl2]
      refine ⟨_, up_same, ?_⟩
      rw [v_addl3]
      refine ⟨line_le (by simp; omega), ?_⟩
      rw [v_new]
      intro t ht
      have e : [D.int 0] ++ x.fixes.map (fun t => D.int (t.lev : Int)) = (0 :: x.fixes.map fun t => (t.lev : Int)).map D.int := by simp
      refine ⟨_, up_same, _, by rw [e]; exact ints_of _, by simp, ?_⟩
      have hg : greatest (0 :: x.fixes.map fun t => (t.lev : Int)) = (x.lev : Int) := by
        rw [greatest_cons0]
        rcases max_fixes 0 x with h | ⟨h, h'⟩
        · rw [h]; omega
        · rw [h, h']; simp
      rw [hg]
      have fin : ∀ k : Int, k = ((Sy.fix b i x).lev : Int) → ∃ S'', Le S'' ((((S.upd p (.lst [.int 0])).upd q (.lst (x.fixes.map Sy.d))).upd r (.lst (x.fixes.map fun t => D.int (t.lev : Int)))).upd t (.lst ([.int 0] ++ x.fixes.map fun t => D.int (t.lev : Int)))) ∧ R (.int k) S'' := fun k hk => by
        rw [hk]
        refine ⟨S, ?_, hR⟩
        have h2 : S r = none := by rw [Store.upd_none, Store.upd_none] at hr; exact hr.2.2
        exact (((Le.new hp).trans (Le.new hq)).set h2).trans (Le.new ht)
      have hv : ((Sy.fix b i x).lev : Int) = Sy.up b (max x.lev (Sy.low b)) := rfl
      rw [hv] at fin
      have cv : ∀ m : Nat, ((m : Int) % 2 = 1) ↔ m % 2 = 1 := fun m => by omega
      cases b
      · simp [Sy.tag]
        by_cases c : max (x.lev : Int) 2 % 2 = 1
        · have c2 : max x.lev 2 % 2 = 1 := by omega
          exact .inl ⟨c, fin _ (by simp [Sy.up, Sy.low, c2]; omega)⟩
        · have c2 : ¬ max x.lev 2 % 2 = 1 := by omega
          exact .inr ⟨c, fin _ (by simp [Sy.up, Sy.low, c2]; omega)⟩
      · simp [Sy.tag]
        by_cases c : max (x.lev : Int) 1 % 2 = 1
        · have c2 : max x.lev 1 % 2 = 1 := by omega
          exact .inr ⟨c, fin _ (by simp [Sy.up, Sy.low, c2]; omega)⟩
        · have c2 : ¬ max x.lev 1 % 2 = 1 := by omega
          exact .inl ⟨c, fin _ (by simp [Sy.up, Sy.low, c2]; omega)⟩
  | _ => cases hf
end Y

namespace Y
open PySem PySem.Spec L2
theorem w_is_integer {Γ : G} : ∀ ds S R, sp_is_whole ds S R → wss Γ ir__law_is_integer (ends R) (startD ck__law_is_integer.N ds) S := fun ds S R h => w_is_whole ds S R h
/-! ### is_land -/
def isLand : D → Bool
  | .tup [.int a, .int b] => decide (1 ≤ a ∧ a ≤ 3 ∧ 1 ≤ b ∧ b ≤ 2)
  | _ => false
def sp_is_land : SpD := fun ds S R => ∃ d, ds = [d] ∧ Vl S d ∧ R (.bl (isLand d)) S
@[simp] theorem sp_is_land_app {d : D} {S : Store} {R : DVK} : sp_is_land [d] S R = (Vl S d ∧ R (.bl (isLand d)) S) := by simp [sp_is_land]
def allWh : E := .bi .all [(.lc [1] (.one 1) (.seq (.var 0)) none (.call "is_whole" [(.var 1)]))]
def inLand : E := .bop true [(.cmp2 .le .le (.int 1) (.sub (.var 0) (.int 0)) (.int 3)), (.cmp2 .le .le (.int 1) (.sub (.var 0) (.int 1)) (.int 2))]
theorem ir_land : ir_is_land = [.ife (.bop false [(.not (.isi (.var 0) .tuple)), (.cmp .ne (.bi .len [(.var 0)]) (.int 2)), (.not allWh)]) [.ret (.bl false)] [], .ret inLand] := rfl
theorem all_wh {Γ : G} (g1 : Γ.fn "is_whole" = sp_is_whole) {x y : D} {o : Option D} {S : Store} {R : DVK} (hx : Vl S x) (hy : Vl S y) (h : ∀ S', Le S S' → R (.bl (isWhole x && isWhole y)) S') : wp Γ allWh [some (.tup [x, y]), o] S R := by
  simp only [allWh, x_bi, x_ps, x_ps0, x_lct, i_seq, x_var]
  refine ⟨_, rfl, fun p hp => ?_⟩
  refine lc_go (fun x => some (.bl (isWhole x))) (by simp) (fun _ => trivial) (fun z hz ys k h => ?_) ?_
  · have hz2 : Vl S z := by
      rcases List.mem_cons.mp hz with e | e
      · rw [e]; exact hx
      · have e := List.mem_singleton.mp e; rw [e]; exact hy
    simp [wipeD, g1]
    exact ⟨hz2.le (Le.new hp), h⟩
  · simp [boolsD]
    have := h _ (Le.new (o := .lst [.bl (isWhole x), .bl (isWhole y)]) hp)
    simpa using this
theorem w_is_land {Γ : G} (g1 : Γ.fn "is_whole" = sp_is_whole) : ∀ ds S R, sp_is_land ds S R → wss Γ ir_is_land (ends R) (startD ck_is_land.N ds) S := by
  rintro _ S R ⟨d, rfl, hv, hR⟩
  rw [ir_land]
  cases d with
  | loc a =>
    rw [vl_loc] at hv
    obtain ⟨xs, e⟩ := hv
    simp [startD, ck_is_land, e, isiO]
    exact fin hR
  | scr ns => exact absurd hv vl_scr
  | tup xs =>
    rw [vl_tup] at hv
    have short : xs.length ≠ 2 → R (.bl false) S := by
      intro h
      have : isLand (.tup xs) = false := by
        unfold isLand
        split
        · rename_i e
          cases e
          exact absurd rfl h
        · rfl
      rw [this] at hR
      exact hR
    by_cases hl : xs.length = 2
    · obtain ⟨x, y, rfl⟩ : ∃ x y, xs = [x, y] := by
        match xs, hl with
        | [x, y], _ => exact ⟨x, y, rfl⟩
      simp only [vls_cons] at hv
      simp [startD, ck_is_land]
      refine all_wh g1 hv.1 hv.2.1 fun S' l => ?_
      have no : isLand (.tup [x, y]) = false → ∃ S'', Le S'' S' ∧ R (.bl false) S'' := fun h => by rw [h] at hR; exact ⟨S, l, hR⟩
      cases x with
      | int i =>
        cases y with
        | int j =>
          have hR : ∃ S'', Le S'' S' ∧ R (.bl (isLand (.tup [.int i, .int j]))) S'' := ⟨S, l, hR⟩
          simp [isWhole, inLand]
          simp [isLand] at hR
          by_cases c1 : 1 ≤ i <;> by_cases c2 : i ≤ 3 <;> by_cases c3 : 1 ≤ j <;> by_cases c4 : j ≤ 2 <;> simp [c1, c2, c3, c4] at hR ⊢ <;> first | exact hR | exact .inr hR | exact ⟨by omega, hR⟩ | exact .inl ⟨by omega, hR⟩
        | _ => simp [isWhole]; exact no rfl
      | _ => simp [isWhole]; exact no rfl
    · have h := fin (short hl)
      have h2 : ¬ ((xs.length : Int) = 2) := by omega
      simpa [startD, ck_is_land, h2] using h
  | _ => simp [startD, ck_is_land]; exact fin hR
/-! ### _law_same: a value and its like -/
def atomD : D → Bool
  | .non => true | .bl _ => true | .int _ => true | .str _ => true | _ => false
def SameV (S : Store) : Nat → D → D → Prop
  | 0, _, _ => False
  | n + 1, x, y => (x = y ∧ atomD x = true) ∨ (∃ (xs ys : List D), x = .tup xs ∧ y = .tup ys ∧ xs.length = ys.length ∧ xs.length ≤ 1000 ∧ ∀ (i : Nat) (u v : D), xs[i]? = some u → ys[i]? = some v → SameV S n u v) ∨
      ∃ (a b : Addr) (xs ys : List D), x = .loc a ∧ y = .loc b ∧ S a = some (.lst xs) ∧ S b = some (.lst ys) ∧ xs.length = ys.length ∧ xs.length ≤ 1000 ∧ ∀ (i : Nat) (u v : D), xs[i]? = some u → ys[i]? = some v → SameV S n u v
theorem SameV.le {S S' : Store} (l : Le S S') : ∀ {n : Nat} {x y : D}, SameV S n x y → SameV S' n x y
  | 0, _, _, h => h.elim
  | n + 1, _, _, h => by
    rcases h with h | ⟨xs, ys, h1, h2, h3, h4, h5⟩ | ⟨a, b, xs, ys, h1, h2, h3, h4, h5, h6, h7⟩
    · exact .inl h
    · exact .inr (.inl ⟨xs, ys, h1, h2, h3, h4, fun i u v e1 e2 => (h5 i u v e1 e2).le l⟩)
    · exact .inr (.inr ⟨a, b, xs, ys, h1, h2, l _ _ h3, l _ _ h4, h5, h6, fun i u v e1 e2 => (h7 i u v e1 e2).le l⟩)
theorem SameV.atom {S : Store} {n : Nat} {x : D} (h : atomD x = true) : SameV S (n + 1) x x := Or.inl ⟨rfl, h⟩
def sp_same (n : Nat) : SpD := fun ds S R => ∃ x y, ds = [x, y] ∧ SameV S n x y ∧ R (.bl true) S
@[simp] theorem sp_same_app {n : Nat} {x y : D} {S : Store} {R : DVK} : sp_same n [x, y] S R = (SameV S n x y ∧ R (.bl true) S) := by
  show (∃ x' y', [x, y] = [x', y'] ∧ SameV S n x' y' ∧ R (.bl true) S) = _
  exact propext ⟨fun ⟨_, _, e, h⟩ => by cases e; exact h, fun h => ⟨_, _, rfl, h⟩⟩
def cmpSm : E := .cmp .eq (.bi .len [(.lc [2] (.one 2) (.range (.bi .len [(.var 1)])) (some (.not (.call "_law_same" [(.sub (.var 0) (.var 2)), (.sub (.var 1) (.var 2))]))) (.var 2))]) (.int 0)
def seqSm : List Y.S := [.ife (.bop false [(.cmp .ne (.isi (.var 1) .tuple) (.isi (.var 0) .tuple)), (.cmp .ne (.isi (.var 1) .list) (.isi (.var 0) .list)), (.cmp .ne (.bi .len [(.var 0)]) (.bi .len [(.var 1)]))]) [.ret (.bl false)] [], .ret cmpSm]
theorem ir_same : ir__law_same = [.ife (.bop false [(.isi (.var 1) .tuple), (.isi (.var 1) .list)]) seqSm [],
  .ife (.cmp .isn (.var 1) .non) [.ret (.cmp .isn (.var 0) .non)] [],
  .ife (.bop false [(.isi (.var 1) .bool), (.isi (.var 0) .bool)]) [.ret (.bop true [(.isi (.var 1) .bool), (.isi (.var 0) .bool), (.cmp .eq (.var 0) (.var 1))])] [],
  .ife (.isi (.var 1) .int) [.ret (.bop true [(.isi (.var 0) .int), (.cmp .eq (.var 0) (.var 1))])] [],
  .ret (.bop true [(.isi (.var 0) .str), (.cmp .eq (.var 0) (.var 1))])] := rfl
theorem filter_none {α β : Type} (l : List α) : l.filterMap (fun _ => (none : Option β)) = [] := by induction l <;> simp_all
theorem w_law_same {Γ : G} {n : Nat} (g1 : Γ.fn "_law_same" = sp_same n) : ∀ ds S R, sp_same (n + 1) ds S R → wss Γ ir__law_same (ends R) (startD ck__law_same.N ds) S := by
  rintro _ S R ⟨x, y, rfl, hv, hR⟩
  rw [ir_same]
  have hR := fin hR
  rcases hv with ⟨rfl, ha⟩ | ⟨xs, ys, rfl, rfl, hl, hm, hs⟩ | ⟨a, b, xs, ys, rfl, rfl, ea, eb, hl, hm, hs⟩
  · cases x with
    | tup xs => cases ha
    | loc xs => cases ha
    | scr xs => cases ha
    | _ => simpa [startD, ck__law_same] using hR
  · have hb : -1000000 ≤ (ys.length : Int) ∧ (ys.length : Int) ≤ 1000000 := by omega
    simp [startD, ck__law_same, seqSm, hl, cmpSm, hb]
    intro p hp
    refine lc_go (fun _ => none) (by simp [rangeD]; omega) (fun _ => trivial) (fun z hz zs k h => ?_) ?_
    · simp [rangeD] at hz
      obtain ⟨i, hi, rfl⟩ := hz
      have h1 := List.getElem?_eq_getElem (l := xs) (i := i) (by omega)
      have h2 := List.getElem?_eq_getElem (l := ys) (i := i) hi
      simp [wipeD]
      refine ⟨_, (atD_nat _ _).trans h1, _, (atD_nat _ _).trans h2, ?_⟩
      rw [g1]
      rw [sp_same_app]
      exact ⟨(hs i _ _ h1 h2).le (Le.new hp), by simpa using h⟩
    · rw [filter_none]
      simp
      obtain ⟨S'', l, h⟩ := hR
      exact ⟨S'', l.trans (Le.new hp), h⟩
  · have hb : -1000000 ≤ (ys.length : Int) ∧ (ys.length : Int) ≤ 1000000 := by omega
    simp [startD, ck__law_same, seqSm, hl, cmpSm, hb, ea, eb, isiO]
    intro p hp
    have na : a ≠ p := Store.ne ea hp
    have nb : b ≠ p := Store.ne eb hp
    refine lc_go (fun _ => none) (by simp [rangeD]; omega) (fun _ => trivial) (fun z hz zs k h => ?_) ?_
    · simp [rangeD] at hz
      obtain ⟨i, hi, rfl⟩ := hz
      have h1 := List.getElem?_eq_getElem (l := xs) (i := i) (by omega)
      have h2 := List.getElem?_eq_getElem (l := ys) (i := i) hi
      simp [wipeD]
      refine ⟨_, (Store.upd_ne na).trans ea, ?_⟩
      rw [v_ixol]
      refine ⟨_, (atD_nat _ _).trans h1, _, (Store.upd_ne nb).trans eb, ?_⟩
      rw [v_ixol]
      refine ⟨_, (atD_nat _ _).trans h2, ?_⟩
      rw [g1]
      rw [sp_same_app]
      exact ⟨(hs i _ _ h1 h2).le (Le.new hp), by simpa using h⟩
    · rw [filter_none]
      simp
      obtain ⟨S'', l, h⟩ := hR
      exact ⟨S'', l.trans (Le.new hp), h⟩
end Y

namespace Y
open PySem PySem.Spec L2
mutual
/-- how deep a value is, how many values it holds -/
def D.dep : D → Nat
  | .tup xs => D.deps xs + 1
  | _ => 0
def D.deps : List D → Nat
  | [] => 0
  | x :: xs => max (D.dep x) (D.deps xs)
end
mutual
def D.sz : D → Nat
  | .tup xs => D.szs xs + 1
  | _ => 1
def D.szs : List D → Nat
  | [] => 0
  | x :: xs => D.sz x + D.szs xs
end
@[simp] theorem dep_tup {xs : List D} : D.dep (.tup xs) = D.deps xs + 1 := by rw [D.dep]
@[simp] theorem deps_cons {x : D} {xs : List D} : D.deps (x :: xs) = max (D.dep x) (D.deps xs) := by rw [D.deps]
@[simp] theorem deps_nil : D.deps [] = 0 := by rw [D.deps]
@[simp] theorem sz_tup {xs : List D} : D.sz (.tup xs) = D.szs xs + 1 := by rw [D.sz]
@[simp] theorem szs_cons {x : D} {xs : List D} : D.szs (x :: xs) = D.sz x + D.szs xs := by rw [D.szs]
@[simp] theorem szs_nil : D.szs [] = 0 := by rw [D.szs]
abbrev FR := Bool × List Int
def formT (b : Int) (rec : D → List Int → List Int → List Int → FR) (s : String) (i : Int) (r2 : List D) (K F Z : List Int) : FR := match r2 with
  | [x] => if s = "some" ∨ s = "all" then (if i < b then rec x K K Z else (false, Z))
    else if (s = "least" ∨ s = "greatest") ∧ i ≤ 19 ∧ i ∉ Z then rec x (K ++ [i]) F (Z ++ [i]) else (false, Z)
  | _ => (false, Z)
def formR (a b : Int) (rec : D → List Int → List Int → List Int → FR) (s : String) (r : List D) (K F Z : List Int) : FR := match r with
  | .int i :: r2 =>
    if i < 0 then (false, Z)
    else if s = "is" ∨ s = "isnt" then (decide (r2 = [] ∧ i < a), Z)
    else if s = "name" then (decide (r2 = [] ∧ i ∈ F), Z)
    else formT b rec s i r2 K F Z
  | _ => (false, Z)
def formB (rec : D → List Int → List Int → List Int → FR) (r : List D) (K F Z : List Int) : FR := match r with
  | [x, y] => if (rec x K F Z).1 = true then rec y K F (rec x K F Z).2 else (false, (rec x K F Z).2)
  | _ => (false, Z)
def form (a b : Int) : Nat → D → List Int → List Int → List Int → FR
  | n + 1, .tup (.str s :: r), K, F, Z =>
    if s = "yes" ∨ s = "no" then (decide (r = []), Z)
    else if s = "both" ∨ s = "either" then formB (form a b n) r K F Z
    else formR a b (form a b n) s r K F Z
  | _, _, _, _, Z => (false, Z)
def sp_form (n : Nat) : SpD := fun ds S R => ∃ a b v K F p Z, ds = [.tup [.int a, .int b], v, .tup (K.map D.int), .tup (F.map D.int), .loc p] ∧ S p = some (.lst (Z.map D.int)) ∧ Vl S v ∧ v.dep < n ∧ K.length + n ≤ 1000 ∧ Z.length + v.sz ≤ 100000 ∧
  R (.bl (form a b n v K F Z).1) (S.upd p (.lst ((form a b n v K F Z).2.map D.int)))
theorem form_tup (a b : Int) (n : Nat) (s : String) (r : List D) (K F Z : List Int) : form a b (n + 1) (.tup (.str s :: r)) K F Z =
    if s = "yes" ∨ s = "no" then (decide (r = []), Z) else if s = "both" ∨ s = "either" then formB (form a b n) r K F Z else formR a b (form a b n) s r K F Z := rfl
theorem form_no {a b : Int} {n : Nat} {v : D} {K F Z : List Int} (h : ∀ s r, v ≠ .tup (.str s :: r)) : form a b n v K F Z = (false, Z) := by
  cases n with
  | zero => rfl
  | succ n =>
    unfold form
    split
    · exact absurd rfl (h _ _)
    · rfl
theorem formB_len {rec : D → List Int → List Int → List Int → FR} {r : List D} {K F Z : List Int} (h : ∀ v ∈ r, ∀ K F Z, (rec v K F Z).2.length ≤ Z.length + v.sz) : (formB rec r K F Z).2.length ≤ Z.length + D.szs r := by
  unfold formB
  split
  · rename_i x y
    have h1 := h x (by simp) K F Z
    have h2 := h y (by simp) K F (rec x K F Z).2
    split
    · simp; omega
    · simp; omega
  · simp
theorem formR_len {a b : Int} {rec : D → List Int → List Int → List Int → FR} {s : String} {r : List D} {K F Z : List Int} (h : ∀ v ∈ r, ∀ K F Z, (rec v K F Z).2.length ≤ Z.length + v.sz) : (formR a b rec s r K F Z).2.length ≤ Z.length + D.szs r := by
  unfold formR
  split
  · rename_i i r2
    split
    · simp
    split
    · simp
    split
    · simp
    unfold formT
    split
    · rename_i x
      have h1 := h x (by simp) K K Z
      have h2 := h x (by simp) (K ++ [i]) F (Z ++ [i])
      split
      · split
        · simp; omega
        · simp
      split
      · have : 1 ≤ (D.int i).sz := by simp [D.sz]
        simp at h2 ⊢; omega
      · simp
    · simp
  · simp
theorem form_len (a b : Int) : ∀ (n : Nat) (v : D) (K F Z : List Int), (form a b n v K F Z).2.length ≤ Z.length + v.sz
  | 0, v, K, F, Z => by simp [form]
  | n + 1, v, K, F, Z => by
    by_cases h : ∃ s r, v = .tup (.str s :: r)
    · obtain ⟨s, r, rfl⟩ := h
      rw [form_tup]
      have h1 := formB_len (rec := form a b n) (r := r) (K := K) (F := F) (Z := Z) fun v _ K F Z => form_len a b n v K F Z
      have h2 := formR_len (a := a) (b := b) (rec := form a b n) (s := s) (r := r) (K := K) (F := F) (Z := Z) fun v _ K F Z => form_len a b n v K F Z
      split
      · simp
      split
      · simp; omega
      · simp; omega
    · rw [form_no fun s r e => h ⟨s, r, e⟩]
      simp
@[simp] theorem any_comp {l : List Int} {i : Int} : l.any ((fun z => eqd z (.int i)) ∘ D.int) = decide (i ∈ l) := by
  have := any_ints i l
  rw [List.any_map] at this
  rw [this, Bool.eq_iff_iff]
  simp
def frA : Y.S := .ife (.bop false [(.not (.isi (.var 1) .tuple)), (.cmp .eq (.bi .len [(.var 1)]) (.int 0)), (.not (.isi (.sub (.var 1) (.int 0)) .str))]) [.ret (.bl false)] []
def frB : Y.S := .ife (.cmp .inn (.var 5) (.tup [(.str "yes"), (.str "no")])) [.ret (.cmp .eq (.bi .len [(.var 1)]) (.int 1))] []
def frC : Y.S := .ife (.cmp .inn (.var 5) (.tup [(.str "both"), (.str "either")])) [.ret (.bop true [(.cmp .eq (.bi .len [(.var 1)]) (.int 3)), (.call "_law_form" [(.var 0), (.sub (.var 1) (.int 1)), (.var 2), (.var 3), (.var 4)]), (.call "_law_form" [(.var 0), (.sub (.var 1) (.int 2)), (.var 2), (.var 3), (.var 4)])])] []
def frD : Y.S := .ife (.bop false [(.cmp .lt (.bi .len [(.var 1)]) (.int 2)), (.not (.call "_law_is_integer" [(.sub (.var 1) (.int 1))])), (.cmp .lt (.sub (.var 1) (.int 1)) (.int 0))]) [.ret (.bl false)] []
def frE : Y.S := .ife (.cmp .inn (.var 5) (.tup [(.str "is"), (.str "isnt")])) [.ret (.bop true [(.cmp .eq (.bi .len [(.var 1)]) (.int 2)), (.cmp .lt (.sub (.var 1) (.int 1)) (.sub (.var 0) (.int 0)))])] []
def frF : Y.S := .ife (.cmp .eq (.var 5) (.str "name")) [.ret (.bop true [(.cmp .eq (.bi .len [(.var 1)]) (.int 2)), (.cmp .inn (.sub (.var 1) (.int 1)) (.var 3))])] []
def frG : Y.S := .ife (.cmp .inn (.var 5) (.tup [(.str "some"), (.str "all")])) [.ret (.bop true [(.cmp .eq (.bi .len [(.var 1)]) (.int 3)), (.cmp .lt (.sub (.var 1) (.int 1)) (.sub (.var 0) (.int 1))), (.call "_law_form" [(.var 0), (.sub (.var 1) (.int 2)), (.var 2), (.var 2), (.var 4)])])] []
def frH : Y.S := .ife (.bop false [(.cmp .notin (.var 5) (.tup [(.str "least"), (.str "greatest")])), (.cmp .ne (.bi .len [(.var 1)]) (.int 3)), (.cmp .gt (.sub (.var 1) (.int 1)) (.int 19)), (.cmp .inn (.sub (.var 1) (.int 1)) (.var 4))]) [.ret (.bl false)] []
def frI : Y.S := .ex (.mt .append (.var 4) [(.sub (.var 1) (.int 1))])
def frJ : Y.S := .ret (.call "_law_form" [(.var 0), (.sub (.var 1) (.int 2)), (.op .add (.var 2) (.tup [(.sub (.var 1) (.int 1))])), (.var 3), (.var 4)])
theorem ir_form : ir__law_form = [frA, .asg (.name (.one 5)) (.sub (.var 1) (.int 0)), frB, frC, frD, frE, frF, frG, frH, frI, frJ] := rfl
def frTl : List Y.S := [frB, frC, frD, frE, frF, frG, frH, frI, frJ]
theorem ir_form2 : ir__law_form = frA :: .asg (.name (.one 5)) (.sub (.var 1) (.int 0)) :: frTl := rfl
section
variable {Γ : G} {n : Nat} {a b : Int} {K F Z : List Int} {p : Addr} {S : Store} {R : DVK}
theorem form_go (g2 : Γ.fn "_law_form" = sp_form n) {v : D} (e : S p = some (.lst (Z.map D.int))) (hv : Vl S v) (hd : v.dep < n) (hK : K.length + n ≤ 1000) (hZ : Z.length + v.sz ≤ 100000) (h : R (.bl (form a b n v K F Z).1) (S.upd p (.lst ((form a b n v K F Z).2.map D.int)))) :
    Γ.fn "_law_form" [.tup [.int a, .int b], v, .tup (K.map D.int), .tup (F.map D.int), .loc p] S R := by
  rw [g2]
  exact ⟨a, b, v, K, F, p, Z, rfl, e, hv, hd, hK, hZ, h⟩
theorem vl_upd {v : D} {xs ys : List D} (e : S p = some (.lst xs)) (h : Vl S v) : Vl (S.upd p (.lst ys)) v := h.mono fun q zs ez => by
  by_cases c : q = p
  · subst c; exact ⟨_, up_same⟩
  · exact ⟨zs, by rw [Store.upd_ne c]; exact ez⟩
theorem w_law_form (g1 : Γ.fn "_law_is_integer" = sp_is_whole) (g2 : Γ.fn "_law_form" = sp_form n) : ∀ ds S R, sp_form (n + 1) ds S R → wss Γ ir__law_form (ends R) (startD ck__law_form.N ds) S := by
  rintro _ S R ⟨a, b, v, K, F, p, Z, rfl, e, hv, hd, hK, hZ, hR⟩
  rw [ir_form2]
  have keep : S.upd p (.lst (Z.map D.int)) = S := by
    funext q
    by_cases c : q = p
    · subst c; rw [Store.upd_same, e]
    · rw [Store.upd_ne c]
  have no : form a b (n + 1) v K F Z = (false, Z) → ∃ S'', Le S'' S ∧ R (.bl false) S'' := fun h => by
    rw [h] at hR
    refine ⟨S, .refl, ?_⟩
    rw [← keep]
    exact hR
  replace hR := fin hR
  cases v with
  | loc a =>
    rw [vl_loc] at hv
    obtain ⟨xs, e2⟩ := hv
    simp [startD, ck__law_form, frA, e2, isiO]
    exact no rfl
  | scr ns => exact absurd hv vl_scr
  | tup xs =>
    cases xs with
    | nil => simp [startD, ck__law_form, frA]; exact no rfl
    | cons x r =>
      rw [vl_tup, vls_cons] at hv
      cases x with
      | loc a =>
        obtain ⟨h1, _⟩ := hv
        rw [vl_loc] at h1
        obtain ⟨xs, e2⟩ := h1
        simp [startD, ck__law_form, frA, e2, isiO]
        exact .inl ⟨by omega, no rfl⟩
      | scr ns => exact absurd hv.1 vl_scr
      | str s =>
        have hv2 := hv.2
        have tl : wss Γ frTl (ends R) [some (.tup [.int a, .int b]), some (.tup (.str s :: r)), some (.tup (K.map D.int)), some (.tup (F.map D.int)), some (.loc p), some (.str s)] S := by
          have hd2 : D.deps r < n := by simp at hd; omega
          have hz2 : Z.length + D.szs r + 2 ≤ 100000 := by simp [D.sz] at hZ; omega
          by_cases c1 : s = "yes" ∨ s = "no"
          · have ef : form a b (n + 1) (.tup (.str s :: r)) K F Z = (decide (r = []), Z) := by rw [form_tup, if_pos c1]
            rw [ef, keep] at hR
            by_cases er : r = []
            · subst er
              rcases c1 with c | c <;> subst c <;> simpa [frTl, frB] using hR
            · have hl : ¬ ((r.length : Int) + 1 = 1) := by have := List.length_pos_iff.mpr er; omega
              have hb : (((r.length : Int) + 1) == 1) = false := by rw [beq_eq_false_iff_ne]; exact hl
              rcases c1 with c | c <;> subst c <;> simpa [frTl, frB, hb, er] using hR
          by_cases c2 : s = "both" ∨ s = "either"
          · have ef : form a b (n + 1) (.tup (.str s :: r)) K F Z = formB (form a b n) r K F Z := by rw [form_tup, if_neg c1, if_pos c2]
            rw [ef] at hR
            simp only [not_or] at c1
            match r, hR, hv2, hd2, hz2 with
            | [], hR, _, _, _ => 
              simp [formB, keep] at hR
              rcases c2 with c | c <;> subst c <;> simpa [frTl, frB, frC] using hR
            | [_], hR, _, _, _ => 
              simp [formB, keep] at hR
              rcases c2 with c | c <;> subst c <;> simpa [frTl, frB, frC] using hR
            | _ :: _ :: _ :: r4, hR, _, _, _ => 
              have hl : ¬ ((r4.length : Int) + 1 + 1 + 1 + 1 = 3) := by omega
              simp [formB, keep] at hR
              rcases c2 with c | c <;> subst c <;> simpa [frTl, frB, frC, hl] using hR
            | [x, y], hR, hv2, hd2, hz2 =>
              simp only [vls_cons, deps_cons, szs_cons] at hv2 hd2 hz2
              have l1 := form_len a b n x K F Z
              have go : Γ.fn "_law_form" [.tup [.int a, .int b], x, .tup (K.map D.int), .tup (F.map D.int), .loc p] S fun d S1 => ∃ t, d = .bl t ∧ if t = true then Γ.fn "_law_form" [.tup [.int a, .int b], y, .tup (K.map D.int), .tup (F.map D.int), .loc p] S1 (ends R).rt else (ends R).rt (.bl t) S1 := by
                refine form_go g2 e hv2.1 (by omega) (by omega) (by omega) ⟨_, rfl, ?_⟩
                unfold formB at hR
                dsimp only at hR
                by_cases c : (form a b n x K F Z).1 = true
                · rw [if_pos c] at hR ⊢
                  refine form_go g2 up_same (vl_upd e hv2.2.1) (by omega) (by omega) (by omega) ?_
                  rw [up_up]
                  exact hR
                · rw [if_neg c] at hR ⊢
                  rw [Bool.not_eq_true] at c
                  rw [c]
                  exact hR
              rcases c2 with c | c <;> subst c <;> simpa [frTl, frB, frC] using go
          have ef : form a b (n + 1) (.tup (.str s :: r)) K F Z = formR a b (form a b n) s r K F Z := by rw [form_tup, if_neg c1, if_neg c2]
          rw [ef] at hR
          simp only [not_or] at c1 c2
          have n1 := Ne.symm c1.1
          have n2 := Ne.symm c1.2
          have n3 := Ne.symm c2.1
          have n4 := Ne.symm c2.2
          have bad : formR a b (form a b n) s r K F Z = (false, Z) → ∃ S'', Le S'' S ∧ R (.bl false) S'' := fun h => by
            rw [h, keep] at hR
            exact hR
          cases r with
          | nil =>
            simp [frTl, frB, frC, frD, n1, n2, n3, n4]
            exact bad rfl
          | cons x r2 =>
            rw [vls_cons] at hv2
            simp only [deps_cons, szs_cons] at hd2 hz2
            cases x with
            | int i =>
              have hl0 : ¬ ((r2.length : Int) + 1 + 1 < 2) := by omega
              by_cases c0 : i < 0
              · simp [frTl, frB, frC, frD, n1, n2, n3, n4, g1, isWhole, c0, hl0]
                refine bad ?_
                unfold formR
                dsimp only
                rw [if_pos c0]
              have c0' : ¬ (i < 0) := c0
              by_cases c3 : s = "is" ∨ s = "isnt"
              · have er : formR a b (form a b n) s (.int i :: r2) K F Z = (decide (r2 = [] ∧ i < a), Z) := by
                  unfold formR
                  dsimp only
                  rw [if_neg c0, if_pos c3]
                rw [er, keep] at hR
                cases r2 with
                | nil => rcases c3 with c | c <;> subst c <;> simpa [frTl, frB, frC, frD, frE, g1, isWhole, c0] using hR
                | cons y r3 =>
                  have hl : ¬ ((r3.length : Int) + 1 + 1 + 1 < 2) := by omega
                  have hl2 : ¬ ((r3.length : Int) + 1 + 1 + 1 = 2) := by omega
                  rcases c3 with c | c <;> subst c <;> simpa [frTl, frB, frC, frD, frE, g1, isWhole, c0, hl, hl2] using hR
              by_cases c4 : s = "name"
              · have er : formR a b (form a b n) s (.int i :: r2) K F Z = (decide (r2 = [] ∧ i ∈ F), Z) := by
                  unfold formR
                  dsimp only
                  rw [if_neg c0, if_neg c3, if_pos c4]
                rw [er, keep] at hR
                subst c4
                cases r2 with
                | nil => simpa [frTl, frB, frC, frD, frE, frF, g1, isWhole, c0] using hR
                | cons y r3 =>
                  have hl : ¬ ((r3.length : Int) + 1 + 1 + 1 < 2) := by omega
                  have hl2 : ¬ ((r3.length : Int) + 1 + 1 + 1 = 2) := by omega
                  simpa [frTl, frB, frC, frD, frE, frF, g1, isWhole, c0, hl, hl2] using hR
              simp only [not_or] at c3
              have n5 := Ne.symm c3.1
              have n6 := Ne.symm c3.2
              have n7 := Ne.symm c4
              have er : formR a b (form a b n) s (.int i :: r2) K F Z = formT b (form a b n) s i r2 K F Z := by
                unfold formR
                dsimp only
                rw [if_neg c0, if_neg (by simp [c3]), if_neg c4]
              rw [er] at bad hR
              have wrong : r2.length ≠ 1 → wss Γ frTl (ends R) [some (.tup [.int a, .int b]), some (.tup (.str s :: .int i :: r2)), some (.tup (K.map D.int)), some (.tup (F.map D.int)), some (.loc p), some (.str s)] S := by
                intro hl
                have hl1 : ¬ ((r2.length : Int) + 1 + 1 < 2) := by omega
                have hl2 : ¬ ((r2.length : Int) + 1 + 1 = 3) := by omega
                have hb := bad (by
                  unfold formT
                  split
                  · exact absurd rfl hl
                  · rfl)
                by_cases c5 : s = "some" ∨ s = "all"
                · rcases c5 with c | c <;> subst c <;> simpa [frTl, frB, frC, frD, frE, frF, frG, g1, isWhole, c0, hl1, hl2] using hb
                simp only [not_or] at c5
                by_cases c6 : s = "least" ∨ s = "greatest"
                · rcases c6 with c | c <;> subst c <;> simpa [frTl, frB, frC, frD, frE, frF, frG, frH, g1, isWhole, c0, hl1, hl2] using hb
                simp only [not_or] at c6
                simpa [frTl, frB, frC, frD, frE, frF, frG, frH, g1, isWhole, c0, hl1, hl2, n1, n2, n3, n4, n5, n6, n7, c4, Ne.symm c5.1, Ne.symm c5.2, Ne.symm c6.1, Ne.symm c6.2] using hb
              by_cases hl : r2.length = 1
              · obtain ⟨x, rfl⟩ : ∃ x, r2 = [x] := by
                  match r2, hl with
                  | [x], _ => exact ⟨x, rfl⟩
                simp only [formT] at hR bad
                simp only [vls_cons, deps_cons, szs_cons] at hv2 hd2 hz2
                have hi1 : 1 ≤ (D.int i).sz := by simp [D.sz]
                by_cases c5 : s = "some" ∨ s = "all"
                · rw [if_pos c5] at hR bad
                  by_cases c7 : i < b
                  · rw [if_pos c7] at hR
                    have go : Γ.fn "_law_form" [.tup [.int a, .int b], x, .tup (K.map D.int), .tup (K.map D.int), .loc p] S (ends R).rt :=
                      form_go g2 e hv2.2.1 (by omega) (by omega) (by omega) hR
                    rcases c5 with c | c <;> subst c <;> simpa [frTl, frB, frC, frD, frE, frF, frG, g1, isWhole, c0, c7] using go
                  · have hb := bad (by rw [if_neg c7])
                    rcases c5 with c | c <;> subst c <;> simpa [frTl, frB, frC, frD, frE, frF, frG, g1, isWhole, c0, c7] using hb
                rw [if_neg c5] at hR bad
                simp only [not_or] at c5
                have n8 := Ne.symm c5.1
                have n9 := Ne.symm c5.2
                by_cases c6 : s = "least" ∨ s = "greatest"
                · by_cases c8 : i ≤ 19
                  · by_cases c9 : i ∈ Z
                    · have hb := bad (by rw [if_neg (by simp [c9])])
                      have c8' : ¬ 19 < i := by omega
                      rcases c6 with c | c <;> subst c <;> simpa [frTl, frB, frC, frD, frE, frF, frG, frH, g1, isWhole, c0, c8', c9, e] using hb
                    · rw [if_pos ⟨c6, c8, c9⟩] at hR
                      have c8' : ¬ 19 < i := by omega
                      have go : Γ.fn "_law_form" [.tup [.int a, .int b], x, .tup ((K ++ [i]).map D.int), .tup (F.map D.int), .loc p] (S.upd p (.lst ((Z ++ [i]).map D.int))) (ends R).rt := by
                        refine form_go g2 up_same (vl_upd e hv2.2.1) (by omega) (by simp; omega) (by simp; omega) ?_
                        rw [up_up]
                        exact hR
                      have hlz : Z.length < sizeLine := line_lt (by omega)
                      have hlk : K.length + 1 ≤ sizeLine := line_le (by omega)
                      rw [List.map_append, List.map_append] at go
                      rcases c6 with c | c <;> subst c <;> simpa [frTl, frB, frC, frD, frE, frF, frG, frH, frI, frJ, g1, isWhole, c0, c8', c9, e, hlz, hlk] using go
                  · have hb := bad (by rw [if_neg (by simp [c8])])
                    have c8' : 19 < i := by omega
                    rcases c6 with c | c <;> subst c <;> simpa [frTl, frB, frC, frD, frE, frF, frG, frH, g1, isWhole, c0, c8'] using hb
                · have hb := bad (by rw [if_neg (by simp [c6])])
                  simp only [not_or] at c6
                  simpa [frTl, frB, frC, frD, frE, frF, frG, frH, g1, isWhole, c0, n1, n2, n3, n4, n5, n6, n7, c4, n8, n9, Ne.symm c6.1, Ne.symm c6.2] using hb
              · exact wrong hl
            | _ =>
              have hl0 : ¬ ((r2.length : Int) + 1 + 1 < 2) := by omega
              have hx := hv2.1
              simp [frTl, frB, frC, frD, n1, n2, n3, n4, g1, isWhole, hl0] at hx ⊢ <;> first | exact bad rfl | exact ⟨hx, bad rfl⟩
        simp [startD, ck__law_form, frA]
        exact .inl ⟨by omega, tl⟩
      | _ =>
        simp [startD, ck__law_form, frA]
        first | exact .inl ⟨by omega, no rfl⟩ | exact no rfl | exact .inr (no rfl)
  | _ => simp [startD, ck__law_form, frA]; exact no rfl
end
end Y

namespace Y
open PySem PySem.Spec L2
/-! ### the pool -/
def poolL (c : Addr) (pos cur cnt salt : Int) : List D := [.loc c, .int pos, .int cur, .int cnt, .int salt]
def Pool (S : Store) (p c : Addr) : Prop := ∃ (cells : List Int) (pos cur cnt salt : Int), S p = some (.lst (poolL c pos cur cnt salt)) ∧ c ≠ p ∧ S c = some (.lst (cells.map D.int)) ∧ 0 ≤ pos
/-- the pool moved on, and nothing else -/
def Dr (p c : Addr) (S S' : Store) : Prop := ∃ o, S' = S.upd p o ∧ Pool S' p c
theorem Dr.pool {p c : Addr} {S S' : Store} (d : Dr p c S S') : Pool S' p c := d.elim fun _ h => h.2
theorem Dr.at {p c a : Addr} {S S' : Store} (d : Dr p c S S') (h : a ≠ p) : S' a = S a := by
  obtain ⟨o, rfl, _⟩ := d
  exact Store.upd_ne h
theorem Dr.refl {p c : Addr} {S : Store} (h : Pool S p c) : Dr p c S S := by
  obtain ⟨cells, pos, cur, cnt, salt, e, r⟩ := h
  have k : S.upd p (.lst (poolL c pos cur cnt salt)) = S := by
    funext q
    by_cases z : q = p
    · subst z; rw [Store.upd_same, e]
    · rw [Store.upd_ne z]
  exact ⟨_, k.symm, cells, pos, cur, cnt, salt, e, r⟩
theorem Dr.trans {p c : Addr} {S S1 S2 : Store} (a : Dr p c S S1) (b : Dr p c S1 S2) : Dr p c S S2 := by
  obtain ⟨o, rfl, _⟩ := a
  obtain ⟨u, rfl, h⟩ := b
  exact ⟨u, Store.upd_upd, h⟩
theorem Pool.le {p c : Addr} {S S' : Store} (h : Pool S p c) (l : Le S S') : Pool S' p c := by
  obtain ⟨cells, pos, cur, cnt, salt, e, n, e2, r⟩ := h
  exact ⟨cells, pos, cur, cnt, salt, l _ _ e, n, l _ _ e2, r⟩
theorem Pool.set {p : Addr} {S : Store} {c : Addr} {cells : List Int} {pos cur cnt salt : Int} (n : c ≠ p) (e : S c = some (.lst (cells.map D.int))) (h : 0 ≤ pos) : Dr p c S (S.upd p (.lst (poolL c pos cur cnt salt))) :=
  ⟨_, rfl, cells, pos, cur, cnt, salt, up_same, n, (Store.upd_ne n).trans e, h⟩
theorem Pool.upd {p c q : Addr} {S : Store} {o : MO} (h : Pool S p c) (n1 : q ≠ p) (n2 : q ≠ c) : Pool (S.upd q o) p c := by
  obtain ⟨cells, pos, cur, cnt, salt, e, n, e2, r⟩ := h
  exact ⟨cells, pos, cur, cnt, salt, (Store.upd_ne (Ne.symm n1)).trans e, n, (Store.upd_ne (Ne.symm n2)).trans e2, r⟩
theorem Pool.ne {p c q : Addr} {S : Store} (h : Pool S p c) (e : S q = none) : q ≠ p ∧ q ≠ c := by
  obtain ⟨cells, pos, cur, cnt, salt, e1, n, e2, r⟩ := h
  exact ⟨Ne.symm (Store.ne e1 e), Ne.symm (Store.ne e2 e)⟩
theorem Pool.some {p c : Addr} {S : Store} (h : Pool S p c) : S p ≠ none := by
  obtain ⟨cells, pos, cur, cnt, salt, e1, n, e2, r⟩ := h
  rw [e1]; simp
theorem Dr.none {p c a : Addr} {S S' : Store} (d : Dr p c S S') (hp : Pool S p c) : S' a = none ↔ S a = none := by
  by_cases e : a = p
  · subst e
    exact ⟨fun h => absurd h d.pool.some, fun h => absurd h hp.some⟩
  · rw [d.at e]
/-- the pool may move under a new object -/
theorem Dr.upd {p c q : Addr} {S S' : Store} {o : MO} (d : Dr p c S S') (n1 : q ≠ p) (n2 : q ≠ c) : Dr p c (S.upd q o) (S'.upd q o) := by
  have hp := d.pool.upd (o := o) n1 n2
  obtain ⟨u, rfl, _⟩ := d
  refine ⟨u, ?_, hp⟩
  funext a
  by_cases e : a = q
  · subst e; rw [Store.upd_same, Store.upd_ne n1, Store.upd_same]
  · by_cases e2 : a = p
    · subst e2; rw [Store.upd_ne e, Store.upd_same, Store.upd_same]
    · rw [Store.upd_ne e, Store.upd_ne e2, Store.upd_ne e2, Store.upd_ne e]
def sp_draw : SpD := fun ds S R => ∃ p c many, ds = [.loc p, .int many] ∧ 0 < many ∧ many < 1000000 ∧ Pool S p c ∧ ∀ r S', 0 ≤ r → r < many → Dr p c S S' → R (.int r) S'
theorem draw_go {p c : Addr} {many : Int} {S : Store} {R : DVK} (hp : Pool S p c) (h1 : 0 < many) (h2 : many < 1000000) (h : ∀ r S', 0 ≤ r → r < many → Dr p c S S' → R (.int r) S') : sp_draw [.loc p, .int many] S R :=
  ⟨p, c, many, rfl, h1, h2, hp, h⟩
def sp_spread : SpD := fun ds S R => ∃ i, ds = [.int i] ∧ ∀ r, R (.int r) S
@[simp] theorem sp_spread_app {i : Int} {S : Store} {R : DVK} : sp_spread [.int i] S R = ∀ r, R (.int r) S := by
  show (∃ i', [D.int i] = [.int i'] ∧ ∀ r, R (.int r) S) = _
  exact propext ⟨fun ⟨_, e, h⟩ => h, fun h => ⟨_, rfl, h⟩⟩
@[simp] theorem cmul_lit {i j : Int} (h : -(2 ^ 64) < j ∧ j < 2 ^ 64) : CMul i j := .inr h
theorem w_spread {Γ : G} : ∀ ds S R, sp_spread ds S R → wss Γ ir__law_spread (ends R) (startD ck__law_spread.N ds) S := by
  rintro _ S R ⟨i, rfl, hR⟩
  have hR : ∀ r, ∃ S'', Le S'' S ∧ R (.int r) S'' := fun r => ⟨S, .refl, hR r⟩
  simp [ir__law_spread, startD, ck__law_spread, rangeD, List.range, List.range.loop, hR]
/-! ### _law_draw -/
def drA : Y.S := .ife (.bop true [(.cmp .le (.sub (.var 0) (.int 2)) (.int 0)), (.cmp .lt (.sub (.var 0) (.int 1)) (.bi .len [(.sub (.var 0) (.int 0))]))]) [.asg (.name (.one 3)) (.sub (.sub (.var 0) (.int 0)) (.sub (.var 0) (.int 1))), .asg (.sub (.var 0) (.int 1)) (.op .add (.sub (.var 0) (.int 1)) (.int 1)), .asg (.sub (.var 0) (.int 2)) (.var 3), .ife (.cmp .lt (.var 3) (.int 1000000000000000000)) [.asg (.sub (.var 0) (.int 2)) (.call "_law_spread" [(.var 3)])] []] []
def drT : List Y.S := [
  .asg (.sub (.var 0) (.int 3)) (.op .add (.sub (.var 0) (.int 3)) (.int 1)),
  .ife (.cmp .le (.sub (.var 0) (.int 2)) (.int 0)) [.asg (.name (.one 4)) (.op .mod (.bi .int [(.op .add (.op .add (.op .mul (.sub (.var 0) (.int 4)) (.int 48271)) (.op .mul (.sub (.var 0) (.int 3)) (.int 69621))) (.int 1))]) (.int 2147483647)), .asg (.name (.one 4)) (.op .mod (.bi .int [(.op .add (.op .mul (.var 4) (.int 16807)) (.sub (.var 0) (.int 3)))]) (.int 2147483629)), .ret (.op .mod (.op .fdiv (.var 4) (.int 5)) (.var 1))] [],
  .asg (.name (.one 2)) (.op .mod (.bi .int [(.sub (.var 0) (.int 2))]) (.var 1)),
  .asg (.sub (.var 0) (.int 2)) (.op .fdiv (.sub (.var 0) (.int 2)) (.var 1)),
  .ret (.var 2)]
theorem ir_draw : ir__law_draw = drA :: drT := rfl
theorem pool_at {c : Addr} {pos cur cnt salt : Int} : poolL c pos cur cnt salt = [.loc c, .int pos, .int cur, .int cnt, .int salt] := rfl
theorem draw_tail {Γ : G} {p c : Addr} {cells : List Int} {pos cur cnt salt many : Int} {x2 x3 x4 : Option D} {S : Store} {R : DVK} (e : S p = some (.lst (poolL c pos cur cnt salt))) (n : c ≠ p) (ec : S c = some (.lst (cells.map D.int))) (hp : 0 ≤ pos) (hm : 0 < many) (hm2 : many < 1000000)
    (h : ∀ r S', 0 ≤ r → r < many → Dr p c S S' → R (.int r) S') : wss Γ drT (ends R) [some (.loc p), some (.int many), x2, x3, x4] S := by
  have hmm : many < 1073741824 := by omega
  have h2 : ∀ r S', 0 ≤ r → r < many → Dr p c S S' → ∃ S'', Le S'' S' ∧ R (.int r) S'' := fun r S' a b d => ⟨S', .refl, h r S' a b d⟩
  by_cases c1 : cur ≤ 0
  · simp [drT, e, poolL, ixN, c1, hm, hmm]
    exact h2 _ _ (Int.emod_nonneg _ (by omega)) (Int.emod_lt_of_pos _ hm) (Pool.set n ec hp)
  · simp [drT, e, poolL, ixN, c1, hm, hmm]
    exact h2 _ _ (Int.emod_nonneg _ (by omega)) (Int.emod_lt_of_pos _ hm) (Pool.set n ec hp)
theorem w_draw {Γ : G} (g1 : Γ.fn "_law_spread" = sp_spread) : ∀ ds S R, sp_draw ds S R → wss Γ ir__law_draw (ends R) (startD ck__law_draw.N ds) S := by
  rintro _ S R ⟨p, c, many, rfl, hm, hm2, ⟨cells, pos, cur, cnt, salt, e, n, ec, hp⟩, h⟩
  rw [ir_draw]
  have go : ∀ pos' cur' x3, 0 ≤ pos' → wss Γ drT (ends R) [some (.loc p), some (.int many), none, x3, none] (S.upd p (.lst (poolL c pos' cur' cnt salt))) := fun pos' cur' x3 hp' =>
    draw_tail up_same n ((Store.upd_ne n).trans ec) hp' hm hm2 fun r S' a b d => h r S' a b ((Pool.set n ec hp').trans d)
  have stay : wss Γ drT (ends R) [some (.loc p), some (.int many), none, none, none] S := draw_tail e n ec hp hm hm2 h
  by_cases c1 : cur ≤ 0
  · by_cases c2 : pos < (cells.length : Int)
    · obtain ⟨k, rfl⟩ : ∃ k : Nat, pos = k := ⟨pos.toNat, by omega⟩
      have hk : k < cells.length := by omega
      have hc : atD (cells.map D.int) (k : Int) = some (.int cells[k]) := by
        rw [atD_nat, List.getElem?_map, List.getElem?_eq_getElem hk]
        rfl
      by_cases c3 : cells[k] < 1000000000000000000
      · simp [drA, startD, ck__law_draw, e, ec, poolL, c1, c2, ixN, hc, c3, g1]
        exact fun r => go _ r _ (by omega)
      · simp [drA, startD, ck__law_draw, e, ec, poolL, c1, c2, ixN, hc, c3, g1]
        exact go _ _ _ (by omega)
    · simp [drA, startD, ck__law_draw, e, ec, poolL, c1, c2]
      exact stay
  · simp [drA, startD, ck__law_draw, e, ec, poolL, c1]
    exact stay
end Y

namespace Y
open PySem PySem.Spec L2
/-! ### _law_pool -/
def sp_pool : SpD := fun ds S R => ∃ ns : List Int, ds = [.scr ns] ∧ ns.length ≤ 1000000 ∧ ∀ p c S', S p = none → S c = none → Le S S' → Pool S' p c → R (.loc p) S'
def bodyPl : List Y.S := [.asg (.name (.one 1)) (.op .mod (.bi .int [(.op .add (.op .mul (.var 1) (.int 31)) (.var 2))]) (.int 1000003))]
def retPl : Y.S := .ret (.lst [(.bi .list [(.var 0)]), (.int 0), (.int 0), (.int 0), (.var 1)])
theorem ir_pool : ir__law_pool = [.asg (.name (.one 1)) (.int 7), .frr (.one 2) (.seq (.slc (.var 0) none (some (.int 63)))) bodyPl, retPl] := rfl
theorem pool_loop {Γ : G} {Z : Ends} {v0 : Option D} {S : Store} {a : Addr} {xs : List D} (e : S a = some (.lst xs)) (h : ∀ i x2, Z.nx [v0, some (.int i), x2] S) : ∀ (ns : List Int) (i : Int) (x2 : Option D), forL (.one 2) (fun S2 => S2 a = some (.lst xs)) (wss Γ bodyPl) (ns.map D.int) Z [v0, some (.int i), x2] S
  | [], i, x2 => by simp; exact ⟨e, h i x2⟩
  | n :: ns, i, x2 => by
    simp [bodyPl]
    exact ⟨e, pool_loop e h ns _ _⟩
theorem w_pool {Γ : G} : ∀ ds S R, sp_pool ds S R → wss Γ ir__law_pool (ends R) (startD ck__law_pool.N ds) S := by
  rintro _ S R ⟨ns, rfl, hl, hR⟩
  rw [ir_pool]
  have e1 : cutD (ns.map D.int) none (some (63 : Int)) = (ns.take 63).map D.int := by
    rw [show (63 : Int) = ((63 : Nat) : Int) from rfl, cut_to, List.map_take]
  simp [startD, ck__law_pool, e1]
  intro q hq
  rw [← List.map_take]
  refine pool_loop up_same (fun i x2 => ?_) _ _ _
  simp [retPl]
  intro c hc p hp
  refine ⟨_, .refl, hR p c _ ?_ ?_ ?_ ?_⟩
  · rw [Store.upd_none, Store.upd_none] at hp; exact hp.2.2
  · rw [Store.upd_none] at hc; exact hc.2
  · exact ((Le.new hq).trans (Le.new hc)).trans (Le.new hp)
  · have n : c ≠ p := Store.ne up_same hp
    exact ⟨ns, 0, 0, 0, i, up_same, n, (Store.upd_ne n).trans up_same, Int.le_refl _⟩
/-! ### _law_pick, _law_land -/
def sp_pick : SpD := fun ds S R => ∃ p c x xs, ds = [.loc p, x] ∧ Pool S p c ∧ (x = .tup xs ∨ ∃ a, x = .loc a ∧ a ≠ p ∧ S a = some (.lst xs)) ∧ xs ≠ [] ∧ xs.length < 1000000 ∧ ∀ y S', y ∈ xs → Dr p c S S' → R y S'
theorem w_pick {Γ : G} (g1 : Γ.fn "_law_draw" = sp_draw) : ∀ ds S R, sp_pick ds S R → wss Γ ir__law_pick (ends R) (startD ck__law_pick.N ds) S := by
  rintro _ S R ⟨p, c, x, xs, rfl, hp, hx, h0, hl, hR⟩
  have hpos : 0 < xs.length := List.length_pos_iff.mpr h0
  have get : ∀ r : Int, 0 ≤ r → r < xs.length → ∃ y, atD xs r = some y ∧ y ∈ xs := fun r h1 h2 => by
    obtain ⟨k, rfl⟩ : ∃ k : Nat, r = k := ⟨r.toNat, by omega⟩
    refine ⟨xs[k]'(by omega), ?_, List.getElem_mem _⟩
    rw [atD_nat, List.getElem?_eq_getElem]
  rcases hx with rfl | ⟨a, rfl, na, ea⟩
  · simp [ir__law_pick, startD, ck__law_pick, g1]
    refine draw_go hp (by omega) (by omega) fun r S' h1 h2 d => ?_
    obtain ⟨y, e, hy⟩ := get r h1 h2
    simp [e]
    exact ⟨S', .refl, hR y S' hy d⟩
  · simp [ir__law_pick, startD, ck__law_pick, g1, ea]
    refine draw_go hp (by omega) (by omega) fun r S' h1 h2 d => ?_
    obtain ⟨y, e, hy⟩ := get r h1 h2
    refine ⟨_, (d.at na).trans ea, ?_⟩
    rw [v_ixol]
    exact ⟨y, e, S', .refl, hR y S' hy d⟩
def sp_land : SpD := fun ds S R => ∃ p c, ds = [.loc p] ∧ Pool S p c ∧ ∀ a b S', 1 ≤ a → a ≤ 3 → 1 ≤ b → b ≤ 2 → Dr p c S S' → R (.tup [.int a, .int b]) S'
theorem five {i : Int} (h1 : 0 ≤ i) (h2 : i < 5) : i = 0 ∨ i = 1 ∨ i = 2 ∨ i = 3 ∨ i = 4 := by omega
theorem w_land {Γ : G} (g1 : Γ.fn "_law_draw" = sp_draw) : ∀ ds S R, sp_land ds S R → wss Γ ir__law_land (ends R) (startD ck__law_land.N ds) S := by
  rintro _ S R ⟨p, c, rfl, hp, hR⟩
  simp [ir__law_land, startD, ck__law_land, g1]
  refine draw_go hp (by omega) (by omega) fun r S' h1 h2 d => ?_
  have go : ∀ a b : Int, 1 ≤ a → a ≤ 3 → 1 ≤ b → b ≤ 2 → ∃ S'', Le S'' S' ∧ R (.tup [.int a, .int b]) S'' := fun a b i j k l => ⟨S', .refl, hR a b S' i j k l d⟩
  rcases five h1 h2 with rfl | rfl | rfl | rfl | rfl
  · simp; exact go 1 1 (by omega) (by omega) (by omega) (by omega)
  · simp; exact go 2 1 (by omega) (by omega) (by omega) (by omega)
  · simp; exact go 1 2 (by omega) (by omega) (by omega) (by omega)
  · simp; exact go 3 1 (by omega) (by omega) (by omega) (by omega)
  · simp; exact go 2 2 (by omega) (by omega) (by omega) (by omega)
/-! ### _law_saying -/
/-- a saying that says what may be said: places below a, ways below b, names that are known -/
def Wf (a b : Int) : List Int → List Int → Sy → Prop
  | _, _, .yes _ => True
  | _, _, .is _ i => 0 ≤ i ∧ i < a
  | _, F, .name i => i ∈ F
  | K, F, .two _ l r => Wf a b K F l ∧ Wf a b K F r
  | K, _, .step _ i x => 0 ≤ i ∧ i < b ∧ Wf a b K K x
  | K, F, .fix _ i x => 0 ≤ i ∧ i ≤ 19 ∧ Wf a b (K ++ [i]) F x
/-- the names of the binders: each once, from m on and below m' -/
def Nms (m m' : Nat) (s : Sy) : Prop := m ≤ m' ∧ (s.fixes.map Sy.arg).Nodup ∧ ∀ i ∈ s.fixes.map Sy.arg, (m : Int) ≤ i ∧ i < m'
theorem names_none {m : Nat} {s : Sy} (h : s.fixes = []) : Nms m m s := ⟨Nat.le_refl _, by rw [h]; exact .nil, by rw [h]; simp⟩
theorem names_two {m m1 m2 : Nat} {b : Bool} {l r : Sy} (h1 : Nms m m1 l) (h2 : Nms m1 m2 r) : Nms m m2 (.two b l r) := by
  have e : (Sy.two b l r).fixes = l.fixes ++ r.fixes := by simp [Sy.fixes, Sy.parts, Sy.isFix, List.filter_append]
  have l1 := h1.1
  have l2 := h2.1
  refine ⟨by omega, ?_, fun i hi => ?_⟩
  · rw [e, List.map_append, List.nodup_append]
    refine ⟨h1.2.1, h2.2.1, fun x hx y hy e => ?_⟩
    have p1 := h1.2.2 x hx
    have p2 := h2.2.2 y hy
    omega
  · rw [e, List.map_append, List.mem_append] at hi
    rcases hi with hi | hi
    · have := h1.2.2 i hi; omega
    · have := h2.2.2 i hi; omega
theorem names_step {m m' : Nat} {b : Bool} {i : Int} {x : Sy} (h : Nms m m' x) : Nms m m' (.step b i x) := by
  have e : (Sy.step b i x).fixes = x.fixes := by simp [Sy.fixes, Sy.parts, Sy.isFix]
  unfold Nms
  rw [e]
  exact h
theorem names_fix {m m' : Nat} {b : Bool} {x : Sy} (h : Nms (m + 1) m' x) : Nms m m' (.fix b (m : Int) x) := by
  have e : (Sy.fix b (m : Int) x).fixes = .fix b m x :: x.fixes := by simp [Sy.fixes, Sy.parts, Sy.isFix, List.filter_cons]
  have l := h.1
  refine ⟨by omega, ?_, fun i hi => ?_⟩
  · rw [e, List.map_cons, List.nodup_cons]
    refine ⟨fun hm => ?_, h.2.1⟩
    have := h.2.2 _ hm
    simp [Sy.arg] at this
    omega
  · rw [e, List.map_cons, List.mem_cons] at hi
    rcases hi with rfl | hi
    · simp [Sy.arg]; omega
    · have := h.2.2 i hi; omega
def sp_saying (n : Nat) : SpD := fun ds S R => ∃ p c a b deep q K F st, ds = [.loc p, .tup [.int a, .int b], .int deep, .loc q, .tup (K.map D.int), .tup (F.map D.int)] ∧ (deep < n ∧ 0 < n) ∧ 0 < a ∧ a < 1000 ∧ 0 < b ∧ b < 1000 ∧ Pool S p c ∧ q ≠ p ∧ q ≠ c ∧ S q = some (.lst st) ∧ st.length ≤ 5 ∧ K.length + n ≤ 1000 ∧ F.length ≤ 1000 ∧
  ∀ s S' st', Wf a b K F s → Nms st.length st'.length s → st'.length ≤ 5 → s.depth ≤ deep.toNat + 1 → Dr p c (S.upd q (.lst st')) S' → R s.d S'
theorem saying_go {n : Nat} {p c : Addr} {a b deep : Int} {q : Addr} {K F : List Int} {st : List D} {S : Store} {R : DVK} (h0 : deep < n) (hn : 0 < n) (h1 : 0 < a) (h2 : a < 1000) (h3 : 0 < b) (h4 : b < 1000) (hp : Pool S p c) (n1 : q ≠ p) (n2 : q ≠ c) (e : S q = some (.lst st)) (h5 : st.length ≤ 5) (h6 : K.length + n ≤ 1000) (h7 : F.length ≤ 1000)
    (h : ∀ s S' st', Wf a b K F s → Nms st.length st'.length s → st'.length ≤ 5 → s.depth ≤ deep.toNat + 1 → Dr p c (S.upd q (.lst st')) S' → R s.d S') :
    sp_saying n [.loc p, .tup [.int a, .int b], .int deep, .loc q, .tup (K.map D.int), .tup (F.map D.int)] S R := ⟨p, c, a, b, deep, q, K, F, st, rfl, ⟨h0, hn⟩, h1, h2, h3, h4, hp, n1, n2, e, h5, h6, h7, h⟩
def syA : Y.S := .ife (.bop false [(.cmp .lt (.var 6) (.int 2)), (.bop true [(.cmp .eq (.var 6) (.int 3)), (.cmp .eq (.bi .len [(.var 5)]) (.int 0))])]) [.ret (.tup [(.sub (.tup [(.str "is"), (.str "isnt")]) (.ite (.cmp .lt (.var 6) (.int 2)) (.op .mod (.var 6) (.int 2)) (.int 0))), (.call "_law_draw" [(.var 0), (.sub (.var 1) (.int 0))])])] []
def syB : Y.S := .ife (.cmp .eq (.var 6) (.int 2)) [.ret (.ite (.cmp .eq (.call "_law_draw" [(.var 0), (.int 3)]) (.int 0)) (.sub (.tup [(.tup [(.str "yes")]), (.tup [(.str "no")])]) (.call "_law_draw" [(.var 0), (.int 2)])) (.tup [(.str "is"), (.call "_law_draw" [(.var 0), (.sub (.var 1) (.int 0))])]))] []
def syC : Y.S := .ife (.cmp .lt (.var 6) (.int 5)) [.ret (.ite (.cmp .gt (.bi .len [(.var 5)]) (.int 0)) (.tup [(.str "name"), (.call "_law_pick" [(.var 0), (.bi .list [(.var 5)])])]) (.tup [(.str "isnt"), (.call "_law_draw" [(.var 0), (.sub (.var 1) (.int 0))])]))] []
def syD : Y.S := .ife (.cmp .lt (.var 6) (.int 8)) [.ret (.tup [(.sub (.tup [(.str "both"), (.str "either")]) (.call "_law_draw" [(.var 0), (.int 2)])), (.call "_law_saying" [(.var 0), (.var 1), (.op .sub (.var 2) (.int 1)), (.var 3), (.var 4), (.var 5)]), (.call "_law_saying" [(.var 0), (.var 1), (.op .sub (.var 2) (.int 1)), (.var 3), (.var 4), (.var 5)])])] []
def syE : Y.S := .ife (.cmp .lt (.var 6) (.int 11)) [.ret (.tup [(.sub (.tup [(.str "some"), (.str "all")]) (.call "_law_draw" [(.var 0), (.int 2)])), (.call "_law_draw" [(.var 0), (.sub (.var 1) (.int 1))]), (.call "_law_saying" [(.var 0), (.var 1), (.op .sub (.var 2) (.int 1)), (.var 3), (.var 4), (.var 4)])])] []
def syF : List Y.S := [.asg (.name (.one 7)) (.bi .len [(.var 3)]),
  .ife (.cmp .gt (.var 7) (.int 4)) [.ret (.tup [(.str "is"), (.int 0)])] [],
  .ex (.mt .append (.var 3) [(.var 7)]),
  .ret (.tup [(.sub (.tup [(.str "least"), (.str "greatest")]) (.call "_law_draw" [(.var 0), (.int 2)])), (.var 7), (.call "_law_saying" [(.var 0), (.var 1), (.op .sub (.var 2) (.int 1)), (.var 3), (.op .add (.var 4) (.tup [(.var 7)])), (.var 5)])])]
theorem ir_saying : ir__law_saying = .asg (.name (.one 6)) (.ite (.cmp .gt (.var 2) (.int 0)) (.call "_law_draw" [(.var 0), (.int 13)]) (.call "_law_draw" [(.var 0), (.int 5)])) :: syA :: syB :: syC :: syD :: syE :: syF := rfl
theorem Dr.drop {p c l : Addr} {S S2 : Store} {o1 : MO} (d : Dr p c (S.upd l o1) S2) (hl : S l = Option.none) (hp : Pool S p c) : ∃ S'', Dr p c S S'' ∧ Le S'' S2 := by
  obtain ⟨m1, m2⟩ := hp.ne hl
  obtain ⟨o, rfl, cells, pos, cur, cnt, salt, e1, n, e2, r⟩ := d
  rw [Store.upd_same] at e1
  cases e1
  rw [Store.upd_ne n, Store.upd_ne (Ne.symm m2)] at e2
  refine ⟨S.upd p (.lst (poolL c pos cur cnt salt)), Pool.set n e2 r, fun a ob z => ?_⟩
  by_cases k : a = p
  · subst k; rw [Store.upd_same] at z ⊢; exact z
  · rw [Store.upd_ne k] at z ⊢
    rw [Store.upd_ne (Store.ne z hl)]
    exact z
theorem two_of {i : Int} (h1 : 0 ≤ i) (h2 : i < 2) : i = 0 ∨ i = 1 := by omega
theorem upd_self {S : Store} {q : Addr} {o : MO} (e : S q = some o) : S.upd q o = S := by
  funext a
  by_cases c : a = q
  · subst c; rw [Store.upd_same, e]
  · rw [Store.upd_ne c]
theorem w_saying {Γ : G} {n : Nat} (g1 : Γ.fn "_law_draw" = sp_draw) (g2 : Γ.fn "_law_pick" = sp_pick) (g3 : Γ.fn "_law_saying" = sp_saying n) : ∀ ds S R, sp_saying (n + 1) ds S R → wss Γ ir__law_saying (ends R) (startD ck__law_saying.N ds) S := by
  rintro _ S R ⟨p, c, a, b, deep, q, K, F, st, rfl, ⟨hd, _⟩, ha, ha2, hb, hb2, hp, n1, n2, e, hst, hK, hF, hR⟩
  rw [ir_saying]
  have fin : ∀ s S' st', Wf a b K F s → Nms st.length st'.length s → st'.length ≤ 5 → s.depth ≤ deep.toNat + 1 → Dr p c (S.upd q (.lst st')) S' → ∃ S'', Le S'' S' ∧ R s.d S'' := fun s S' st' i1 i2 i3 i4 i5 => ⟨S', .refl, hR s S' st' i1 i2 i3 i4 i5⟩
  have flat : ∀ s S', s.fixes = [] → Wf a b K F s → s.depth ≤ deep.toNat + 1 → Dr p c S S' → ∃ S'', Le S'' S' ∧ R s.d S'' := fun s S' i0 i1 i2 i3 => fin s S' st i1 (names_none i0) hst i2 (by rw [upd_self e]; exact i3)
  have main : ∀ t S1, 0 ≤ t → t < 13 → (5 ≤ t → 0 < deep) → Dr p c S S1 → wss Γ (syA :: syB :: syC :: syD :: syE :: syF) (ends R) [some (.loc p), some (.tup [.int a, .int b]), some (.int deep), some (.loc q), some (.tup (K.map D.int)), some (.tup (F.map D.int)), some (.int t), none] S1 := by
    intro t S1 t0 t13 t5 d1
    have e1 : S1 q = some (.lst st) := (d1.at n1).trans e
    by_cases c1 : t < 2
    · rcases two_of t0 c1 with rfl | rfl
      · simp [syA, g1]
        refine draw_go d1.pool ha (by omega) fun r S2 r0 r1 d2 => ?_
        exact flat (.is true r) S2 rfl ⟨r0, r1⟩ (by simp [Sy.depth]) (d1.trans d2)
      · simp [syA, g1]
        refine draw_go d1.pool ha (by omega) fun r S2 r0 r1 d2 => ?_
        exact flat (.is false r) S2 rfl ⟨r0, r1⟩ (by simp [Sy.depth]) (d1.trans d2)
    by_cases c2 : t = 2
    · subst c2
      simp [syA, syB, g1]
      refine draw_go d1.pool (by omega) (by omega) fun r S2 r0 r1 d2 => ?_
      by_cases c3 : r = 0
      · subst c3
        simp
        refine draw_go d2.pool (by omega) (by omega) fun r S3 r0 r1 d3 => ?_
        rcases two_of r0 r1 with rfl | rfl
        · simp; exact flat (.yes true) S3 rfl trivial (by simp [Sy.depth]) ((d1.trans d2).trans d3)
        · simp; exact flat (.yes false) S3 rfl trivial (by simp [Sy.depth]) ((d1.trans d2).trans d3)
      · simp [c3]
        refine draw_go d2.pool ha (by omega) fun r S3 r0 r1 d3 => ?_
        exact flat (.is true r) S3 rfl ⟨r0, r1⟩ (by simp [Sy.depth]) ((d1.trans d2).trans d3)
    by_cases c3 : t < 5
    · by_cases cF : F = []
      · subst cF
        by_cases c4 : t = 3
        · subst c4
          simp [syA, g1]
          refine draw_go d1.pool ha (by omega) fun r S2 r0 r1 d2 => ?_
          exact flat (.is true r) S2 rfl ⟨r0, r1⟩ (by simp [Sy.depth]) (d1.trans d2)
        · simp [syA, syB, syC, g1, c1, c2, c3, c4]
          refine draw_go d1.pool ha (by omega) fun r S2 r0 r1 d2 => ?_
          exact flat (.is false r) S2 rfl ⟨r0, r1⟩ (by simp [Sy.depth]) (d1.trans d2)
      · have hF0 : 0 < F.length := List.length_pos_iff.mpr cF
        have hF1 : ¬ ((F.length : Int) = 0) := by omega
        have hF2 : 0 < (F.length : Int) := by omega
        have go : ∀ l, S1 l = none → sp_pick [.loc p, .loc l] (S1.upd l (.lst (F.map D.int))) fun y S2 => ∃ S'', Le S'' S2 ∧ R (.tup [.str "name", y]) S'' := by
          intro l hl
          obtain ⟨m1, m2⟩ := d1.pool.ne hl
          refine ⟨p, c, _, F.map D.int, rfl, d1.pool.upd m1 m2, .inr ⟨l, rfl, m1, up_same⟩, by simp [cF], by simp; omega, fun y S2 hy d2 => ?_⟩
          rw [List.mem_map] at hy
          obtain ⟨i, hi, rfl⟩ := hy
          obtain ⟨S3, d3, l3⟩ := d2.drop hl d1.pool
          exact ⟨S3, l3, hR (.name i) S3 st hi (names_none rfl) hst (by simp [Sy.depth]) (by rw [upd_self e]; exact d1.trans d3)⟩
        by_cases c4 : t = 3
        · subst c4
          simp [syA, syB, syC, g1, g2, cF, hF1, hF0]
          exact go
        · simp [syA, syB, syC, g1, g2, c1, c2, c3, c4, cF, hF1, hF0]
          exact go
    have hdp : 0 < deep := t5 (by omega)
    have c4 : ¬ t = 3 := by omega
    have mk : ∀ {s : Sy} {S' : Store}, (∃ S'', Le S'' S' ∧ R s.d S'') → ∃ S'', Le S'' S' ∧ R s.d S'' := fun h => h
    by_cases c5 : t < 8
    · simp [syA, syB, syC, syD, g1, g3, c1, c2, c3, c4, c5]
      refine draw_go d1.pool (by omega) (by omega) fun r S2 r0 r1 d2 => ?_
      have d12 := d1.trans d2
      have go : ∀ (k : Bool), sp_saying n [.loc p, .tup [.int a, .int b], .int (deep - 1), .loc q, .tup (K.map D.int), .tup (F.map D.int)] S2 fun x S3 => sp_saying n [.loc p, .tup [.int a, .int b], .int (deep - 1), .loc q, .tup (K.map D.int), .tup (F.map D.int)] S3 fun y S4 => ∃ S'', Le S'' S4 ∧ R (.tup [.str (Sy.two k (.yes true) (.yes true)).tag, x, y]) S'' := by
        intro k
        have e2 : S2 q = some (.lst st) := (d12.at n1).trans e
        refine saying_go (by omega) (by omega) ha ha2 hb hb2 d12.pool n1 n2 e2 hst (by omega) hF fun s1 S3 st1 w1 m1 l1 p1 d3 => ?_
        have d13 := (d12.upd (o := .lst st1) n1 n2).trans d3
        have e3 : S3 q = some (.lst st1) := (d13.at n1).trans up_same
        refine saying_go (by omega) (by omega) ha ha2 hb hb2 d13.pool n1 n2 e3 l1 (by omega) hF fun s2 S4 st2 w2 m2 l2 p2 d4 => ?_
        have d14 := (d13.upd (o := .lst st2) n1 n2).trans d4
        rw [up_up] at d14
        exact fin (.two k s1 s2) S4 st2 ⟨w1, w2⟩ (names_two m1 m2) l2 (by simp [Sy.depth]; omega) d14
      rcases two_of r0 r1 with rfl | rfl
      · simp; exact go true
      · simp; exact go false
    by_cases c6 : t < 11
    · simp [syA, syB, syC, syD, syE, g1, g3, c1, c2, c3, c4, c5, c6]
      refine draw_go d1.pool (by omega) (by omega) fun r S2 r0 r1 d2 => ?_
      have go : ∀ (k : Bool), sp_draw [.loc p, .int b] S2 fun i S3 => sp_saying n [.loc p, .tup [.int a, .int b], .int (deep - 1), .loc q, .tup (K.map D.int), .tup (K.map D.int)] S3 fun y S4 => ∃ S'', Le S'' S4 ∧ R (.tup [.str (Sy.step k 0 (.yes true)).tag, i, y]) S'' := by
        intro k
        refine draw_go d2.pool (by omega) (by omega) fun i S3 i0 i1 d3 => ?_
        have d13 := (d1.trans d2).trans d3
        have e2 : S3 q = some (.lst st) := (d13.at n1).trans e
        refine saying_go (by omega) (by omega) ha ha2 hb hb2 d13.pool n1 n2 e2 hst (by omega) (by omega) fun s1 S4 st1 w1 m1 l1 p1 d4 => ?_
        have d14 := (d13.upd (o := .lst st1) n1 n2).trans d4
        exact fin (.step k i s1) S4 st1 ⟨i0, i1, w1⟩ (names_step m1) l1 (by simp [Sy.depth]; omega) d14
      rcases two_of r0 r1 with rfl | rfl
      · simp; exact go true
      · simp; exact go false
    have hsl : st.length < sizeLine := line_lt (by omega)
    by_cases c7 : 4 < st.length
    · have c7' : 4 < (st.length : Int) := by omega
      simp [syA, syB, syC, syD, syE, syF, g1, g3, c1, c2, c3, c4, c5, c6, e1, c7', c7]
      exact flat (.is true 0) S1 rfl ⟨by omega, ha⟩ (by simp [Sy.depth]) d1
    · have c7' : ¬ 4 < (st.length : Int) := by omega
      have hKl : K.length + 1 ≤ sizeLine := line_le (by omega)
      simp [syA, syB, syC, syD, syE, syF, g1, g3, c1, c2, c3, c4, c5, c6, e1, c7', c7, hsl, hKl]
      have d1u := d1.upd (o := .lst (st ++ [.int st.length])) n1 n2
      refine draw_go d1u.pool (by omega) (by omega) fun r S2 r0 r1 d2 => ?_
      have go : ∀ (k : Bool), sp_saying n [.loc p, .tup [.int a, .int b], .int (deep - 1), .loc q, .tup ((K ++ [(st.length : Int)]).map D.int), .tup (F.map D.int)] S2 fun y S4 => ∃ S'', Le S'' S4 ∧ R (.tup [.str (Sy.fix k 0 (.yes true)).tag, .int st.length, y]) S'' := by
        intro k
        have d12 := d1u.trans d2
        have e2 : S2 q = some (.lst (st ++ [.int st.length])) := (d12.at n1).trans up_same
        refine saying_go (by omega) (by omega) ha ha2 hb hb2 d12.pool n1 n2 e2 (by simp; omega) (by simp; omega) hF fun s1 S4 st1 w1 m1 l1 p1 d4 => ?_
        have d14 := (d12.upd (o := .lst st1) n1 n2).trans d4
        rw [up_up] at d14
        rw [List.length_append] at m1
        exact fin (.fix k st.length s1) S4 st1 ⟨by omega, by omega, w1⟩ (names_fix m1) l1 (by simp [Sy.depth]; omega) d14
      rw [List.map_append] at go
      rcases two_of r0 r1 with rfl | rfl
      · simp; exact go true
      · simp; exact go false
  by_cases c0 : 0 < deep
  · simp [startD, ck__law_saying, g1, c0]
    exact draw_go hp (by omega) (by omega) fun r S' r0 r1 d => by simpa using main r S' r0 r1 (fun _ => c0) d
  · simp [startD, ck__law_saying, g1, c0]
    exact draw_go hp (by omega) (by omega) fun r S' r0 r1 d => by simpa using main r S' r0 (by omega) (fun h => by omega) d
end Y

namespace Y
open PySem PySem.Spec L2
def sp_drawn (n : Nat) : SpD := fun ds S R => ∃ p c a b deep, ds = [.loc p, .tup [.int a, .int b], .int deep] ∧ 2 ≤ deep ∧ deep + 1 < n ∧ n ≤ 100 ∧ 0 < a ∧ a < 1000 ∧ 0 < b ∧ b < 1000 ∧ Pool S p c ∧
  ∀ s S', Wf a b [] [] s → (s.fixes.map Sy.arg).Nodup → s.depth ≤ deep.toNat + 4 → Dr p c S S' → R s.d S'
def dwA : Y.S := .ife (.cmp .eq (.var 3) (.int 0)) [.asg (.name (.one 4)) (.call "_law_draw" [(.var 0), (.int 2)]), .asg (.name (.one 5)) (.call "_law_saying" [(.var 0), (.var 1), (.op .sub (.var 2) (.int 2)), (.lst [(.int 0), (.int 1)]), (.tup [(.int 0), (.int 1)]), (.tup [])]), .asg (.name (.one 6)) (.tup [(.str "either"), (.tup [(.str "both"), (.var 5), (.tup [(.str "some"), (.call "_law_draw" [(.var 0), (.sub (.var 1) (.int 1))]), (.tup [(.str "name"), (.int 0)])])]), (.tup [(.sub (.tup [(.str "some"), (.str "all")]) (.call "_law_draw" [(.var 0), (.int 2)])), (.int 0), (.tup [(.str "name"), (.int 1)])])]), .ret (.tup [(.sub (.tup [(.str "greatest"), (.str "least")]) (.var 4)), (.int 0), (.tup [(.sub (.tup [(.str "least"), (.str "greatest")]) (.var 4)), (.int 1), (.var 6)])])] []
def dwB : Y.S := .ife (.cmp .eq (.var 3) (.int 1)) [.ret (.tup [(.sub (.tup [(.str "least"), (.str "greatest")]) (.call "_law_draw" [(.var 0), (.int 2)])), (.int 0), (.call "_law_saying" [(.var 0), (.var 1), (.var 2), (.lst [(.int 0)]), (.tup [(.int 0)]), (.tup [])])])] []
def dwC : Y.S := .ret (.call "_law_saying" [(.var 0), (.var 1), (.op .add (.var 2) (.int 1)), (.lst []), (.tup []), (.tup [])])
theorem ir_drawn : ir__law_drawn = [.asg (.name (.one 3)) (.call "_law_draw" [(.var 0), (.int 4)]), dwA, dwB, dwC] := rfl
theorem ints_none : ([] : List Int).map D.int = [] := rfl
theorem drop2 {p c q : Addr} {S S' : Store} {o1 o2 : MO} (hq : S q = none) (hp : Pool S p c) (d : Dr p c ((S.upd q o1).upd q o2) S') : ∃ S'', Dr p c S S'' ∧ Le S'' S' := by
  rw [up_up] at d
  exact d.drop hq hp
theorem w_drawn {Γ : G} {n : Nat} (g1 : Γ.fn "_law_draw" = sp_draw) (g3 : Γ.fn "_law_saying" = sp_saying n) : ∀ ds S R, sp_drawn n ds S R → wss Γ ir__law_drawn (ends R) (startD ck__law_drawn.N ds) S := by
  rintro _ S R ⟨p, c, a, b, deep, rfl, h1, h2, h3, ha, ha2, hb, hb2, hp, hR⟩
  rw [ir_drawn]
  simp [startD, ck__law_drawn, g1]
  refine draw_go hp (by omega) (by omega) fun t S1 t0 t4 d1 => ?_
  have fin : ∀ s q o1 o2 S2 S3, Dr p c S S2 → S2 q = none → Dr p c ((S2.upd q o1).upd q o2) S3 → Wf a b [] [] s → (s.fixes.map Sy.arg).Nodup → s.depth ≤ deep.toNat + 4 → ∃ S'', Le S'' S3 ∧ R s.d S'' := by
    intro s q o1 o2 S2 S3 dA hq dB w nd dp
    obtain ⟨S4, dC, l⟩ := drop2 hq dA.pool dB
    exact ⟨S4, l, hR s S4 w nd dp (dA.trans dC)⟩
  by_cases c0 : t = 0
  · subst c0
    simp [dwA, g1, g3]
    refine draw_go d1.pool (by omega) (by omega) fun k S2 k0 k2 d2 => ?_
    intro q hq
    have d12 := d1.trans d2
    obtain ⟨m1, m2⟩ := d12.pool.ne hq
    refine saying_go (K := [0, 1]) (F := []) (by omega) (by omega) ha ha2 hb hb2 (d12.pool.upd m1 m2) m1 m2 up_same (by simp) (by simp; omega) (by simp) fun f S3 st w nm l dp d3 => ?_
    refine draw_go d3.pool (by omega) (by omega) fun i S4 i0 i1 d4 => ?_
    refine draw_go d4.pool (by omega) (by omega) fun j S5 j0 j1 d5 => ?_
    have d35 := (d3.trans d4).trans d5
    have go : ∀ u v : Bool, ∃ S'', Le S'' S5 ∧ R (Sy.fix u 0 (.fix (!u) 1 (.two false (.two true f (.step true i (.name 0))) (.step v 0 (.name 1))))).d S'' := by
      intro u v
      refine fin _ q _ _ S2 S5 d12 hq d35 ?_ ?_ ?_
      · exact ⟨by omega, by omega, by omega, by omega, ⟨w, i0, i1, by show (0 : Int) ∈ [0, 1]; simp⟩, by omega, hb, by show (1 : Int) ∈ [0, 1]; simp⟩
      · have n1 : Nms 2 st.length (.two false (.two true f (.step true i (.name 0))) (.step v 0 (.name 1))) := names_two (names_two nm (names_step (names_none rfl))) (names_step (names_none rfl))
        exact (names_fix (m := 0) (names_fix (m := 1) n1)).2.1
      · simp [Sy.depth]; omega
    rcases two_of j0 j1 with rfl | rfl <;> rcases two_of k0 k2 with rfl | rfl
    · simp; exact go false true
    · simp; exact go true true
    · simp; exact go false false
    · simp; exact go true false
  by_cases c1 : t = 1
  · subst c1
    simp [dwA, dwB, g1, g3]
    refine draw_go d1.pool (by omega) (by omega) fun k S2 k0 k2 d2 => ?_
    have d12 := d1.trans d2
    have go : ∀ k : Bool, ∀ q, S2 q = none → sp_saying n [.loc p, .tup [.int a, .int b], .int deep, .loc q, .tup ([(0 : Int)].map D.int), .tup (([] : List Int).map D.int)] (S2.upd q (.lst [.int 0])) fun x S3 => ∃ S'', Le S'' S3 ∧ R (.tup [.str (Sy.fix k 0 (.yes true)).tag, .int 0, x]) S'' := by
      intro k q hq
      obtain ⟨m1, m2⟩ := d12.pool.ne hq
      refine saying_go (by omega) (by omega) ha ha2 hb hb2 (d12.pool.upd m1 m2) m1 m2 up_same (by simp) (by simp; omega) (by simp) fun s S3 st w nm l dp d3 => ?_
      exact fin (.fix k 0 s) q _ _ S2 S3 d12 hq d3 ⟨by omega, by omega, w⟩ (names_fix (m := 0) nm).2.1 (by simp [Sy.depth]; omega)
    rcases two_of k0 k2 with rfl | rfl
    · simp; exact go true
    · simp; exact go false
  · simp [dwA, dwB, dwC, c0, c1, g3]
    intro q hq
    obtain ⟨m1, m2⟩ := d1.pool.ne hq
    refine saying_go (K := []) (F := []) (by omega) (by omega) ha ha2 hb hb2 (d1.pool.upd m1 m2) m1 m2 up_same (by simp) (by simp; omega) (by simp) fun s S3 st w nm l dp d3 => ?_
    exact fin s q _ _ S1 S3 d1 hq d3 w nm.2.1 (by omega)
/-! ### _law_bent -/
theorem size_depth : ∀ s : Sy, s.size + 1 ≤ 2 ^ s.depth
  | .yes b => by simp [Sy.size, Sy.parts, Sy.depth]
  | .is b i => by simp [Sy.size, Sy.parts, Sy.depth]
  | .name i => by simp [Sy.size, Sy.parts, Sy.depth]
  | .two b l r => by
    have h1 := size_depth l
    have h2 := size_depth r
    have e : (Sy.two b l r).size = l.size + r.size + 1 := by simp [Sy.size, Sy.parts]
    have e2 : (Sy.two b l r).depth = max l.depth r.depth + 1 := rfl
    have p1 : 2 ^ l.depth ≤ 2 ^ max l.depth r.depth := Nat.pow_le_pow_right (by omega) (by omega)
    have p2 : 2 ^ r.depth ≤ 2 ^ max l.depth r.depth := Nat.pow_le_pow_right (by omega) (by omega)
    rw [e, e2, Nat.pow_succ]
    omega
  | .step b i x => by
    have h1 := size_depth x
    have e : (Sy.step b i x).size = x.size + 1 := by simp [Sy.size, Sy.parts]
    have e2 : (Sy.step b i x).depth = x.depth + 1 := rfl
    rw [e, e2, Nat.pow_succ]
    omega
  | .fix b i x => by
    have h1 := size_depth x
    have e : (Sy.fix b i x).size = x.size + 1 := by simp [Sy.size, Sy.parts]
    have e2 : (Sy.fix b i x).depth = x.depth + 1 := rfl
    rw [e, e2, Nat.pow_succ]
    omega
end Y

namespace Y
open PySem PySem.Spec L2
/-! ### _law_bent -/
mutual
/-- a bound of what is shown of a value -/
def D.wt : D → Nat
  | .non => 5
  | .bl _ => 6
  | .int i => i.natAbs + 3
  | .str s => 10 * s.length + 3
  | .tup xs => D.wts xs + 4
  | .loc _ => 1
  | .scr _ => 1
def D.wts : List D → Nat
  | [] => 0
  | x :: xs => D.wt x + 2 + D.wts xs
end
@[simp] theorem wts_nil : D.wts [] = 0 := by rw [D.wts]
@[simp] theorem wts_cons {x : D} {xs : List D} : D.wts (x :: xs) = D.wt x + 2 + D.wts xs := by rw [D.wts]
@[simp] theorem wt_tup {xs : List D} : D.wt (.tup xs) = D.wts xs + 4 := by rw [D.wt]
@[simp] theorem wts_app {xs ys : List D} : D.wts (xs ++ ys) = D.wts xs + D.wts ys := by
  induction xs with
  | nil => simp
  | cons x xs ih => rw [List.cons_append, wts_cons, wts_cons, ih]; omega
theorem wts_len : ∀ xs : List D, xs.length ≤ D.wts xs
  | [] => by simp
  | x :: xs => by rw [wts_cons, List.length_cons]; have := wts_len xs; omega
theorem wts_get {xs : List D} {k : Nat} {x : D} (h : xs[k]? = some x) : D.wts xs = D.wts (xs.take k) + (D.wt x + 2) + D.wts (xs.drop (k + 1)) := by
  induction xs generalizing k with
  | nil => simp at h
  | cons y ys ih =>
    cases k with
    | zero => simp at h; subst h; simp
    | succ k =>
      have := ih (k := k) (by simpa using h)
      simp
      omega
mutual
/-- a value whose lists hold plain values -/
def Vb (S : Store) (m : Nat) : D → Prop
  | .tup xs => Vbs S m xs
  | .loc a => ∃ xs, S a = some (.lst xs) ∧ D.pls 100 xs = true ∧ D.wts xs ≤ m
  | .scr _ => False
  | .non => True
  | .bl _ => True
  | .int _ => True
  | .str _ => True
def Vbs (S : Store) (m : Nat) : List D → Prop
  | [] => True
  | x :: xs => Vb S m x ∧ Vbs S m xs
end
@[simp] theorem vbs_nil {S : Store} {m : Nat} : Vbs S m [] := by unfold Vbs; trivial
@[simp] theorem vbs_cons {S : Store} {m : Nat} {x : D} {xs : List D} : Vbs S m (x :: xs) = (Vb S m x ∧ Vbs S m xs) := by rw [Vbs]
@[simp] theorem vb_tup {S : Store} {m : Nat} {xs : List D} : Vb S m (.tup xs) = Vbs S m xs := by rw [Vb]
@[simp] theorem vb_int {S : Store} {m : Nat} {i : Int} : Vb S m (.int i) := by unfold Vb; trivial
@[simp] theorem vb_str {S : Store} {m : Nat} {i : String} : Vb S m (.str i) := by unfold Vb; trivial
@[simp] theorem vb_bl {S : Store} {m : Nat} {i : Bool} : Vb S m (.bl i) := by unfold Vb; trivial
@[simp] theorem vb_non {S : Store} {m : Nat} : Vb S m .non := by unfold Vb; trivial
theorem vb_loc {S : Store} {m : Nat} {a : Addr} : Vb S m (.loc a) = ∃ xs, S a = some (.lst xs) ∧ D.pls 100 xs = true ∧ D.wts xs ≤ m := by rw [Vb]
@[simp] theorem vbs_app {S : Store} {m : Nat} {xs ys : List D} : Vbs S m (xs ++ ys) = (Vbs S m xs ∧ Vbs S m ys) := by
  induction xs with
  | nil => simp
  | cons x xs ih => rw [List.cons_append, vbs_cons, vbs_cons, ih, and_assoc]
mutual
theorem vb_pl {S : Store} {m : Nat} : ∀ {n : Nat} {d : D}, D.pl n d = true → Vb S m d
  | 0, .tup _, h => by simp [D.pl] at h
  | n + 1, .tup xs, h => by rw [vb_tup]; exact vbs_pl (n := n) (by simpa [D.pl] using h)
  | n, .loc _, h => by cases n <;> simp [D.pl] at h
  | n, .scr _, h => by cases n <;> simp [D.pl] at h
  | _, .non, _ => vb_non
  | _, .bl _, _ => vb_bl
  | _, .int _, _ => vb_int
  | _, .str _, _ => vb_str
theorem vbs_pl {S : Store} {m : Nat} : ∀ {n : Nat} {ds : List D}, D.pls n ds = true → Vbs S m ds
  | _, [], _ => vbs_nil
  | n, x :: xs, h => by
    rw [p_cons, Bool.and_eq_true] at h
    rw [vbs_cons]
    exact ⟨vb_pl h.1, vbs_pl h.2⟩
end
theorem vl_pl {S : Store} : ∀ {n : Nat} {d : D}, D.pl n d = true → Vl S d := by
  intro n
  induction n with
  | zero => intro d h; cases d <;> simp [D.pl] at h ⊢
  | succ n ih =>
    intro d h
    cases d with
    | tup xs =>
      have h : D.pls n xs = true := by simpa [D.pl] using h
      rw [vl_tup]
      refine vls_of fun x hx => ?_
      have key : ∀ (xs : List D), D.pls n xs = true → ∀ x ∈ xs, D.pl n x = true := by
        intro xs
        induction xs with
        | nil => intro _ x hx; simp at hx
        | cons y ys ih2 =>
          intro q x hx
          rw [p_cons, Bool.and_eq_true] at q
          rcases List.mem_cons.mp hx with rfl | hx
          · exact q.1
          · exact ih2 q.2 x hx
      exact ih (key xs h x hx)
    | _ => simp [D.pl] at h ⊢
mutual
theorem vb_m {S : Store} {m m' : Nat} (h : m ≤ m') : ∀ {d : D}, Vb S m d → Vb S m' d
  | .tup xs, q => by rw [vb_tup] at q ⊢; exact vbs_m h q
  | .loc a, q => by
    rw [vb_loc] at q ⊢
    obtain ⟨xs, e, q, w⟩ := q
    exact ⟨xs, e, q, by omega⟩
  | .scr _, q => by rw [Vb] at q; exact q.elim
  | .non, _ => vb_non
  | .bl _, _ => vb_bl
  | .int _, _ => vb_int
  | .str _, _ => vb_str
theorem vbs_m {S : Store} {m m' : Nat} (h : m ≤ m') : ∀ {d : List D}, Vbs S m d → Vbs S m' d
  | [], _ => vbs_nil
  | y :: ys, q => by rw [vbs_cons] at q ⊢; exact ⟨vb_m h q.1, vbs_m h q.2⟩
end
/-- the pool moved on; what was known else is kept -/
def Ex (p c : Addr) (S S' : Store) : Prop := Pool S' p c ∧ ∀ a o, a ≠ p → S a = some o → S' a = some o
theorem Dr.ex {p c : Addr} {S S' : Store} (d : Dr p c S S') : Ex p c S S' := ⟨d.pool, fun a o n e => (d.at n).trans e⟩
theorem Ex.trans {p c : Addr} {S S1 S2 : Store} (a : Ex p c S S1) (b : Ex p c S1 S2) : Ex p c S S2 := ⟨b.1, fun x o n e => b.2 x o n (a.2 x o n e)⟩
theorem Ex.of_le {p c : Addr} {S S' : Store} (h : Pool S p c) (l : Le S S') : Ex p c S S' := ⟨h.le l, fun a o _ e => l a o e⟩
theorem pool_pls {S : Store} {p c : Addr} (h : Pool S p c) {xs : List D} (e : S p = some (.lst xs)) (q : D.pls 100 xs = true) : False := by
  obtain ⟨cells, pos, cur, cnt, salt, e1, _⟩ := h
  rw [e] at e1
  cases e1
  simp [poolL, D.pl] at q
mutual
theorem Vb.ex {S S' : Store} {p c : Addr} {m : Nat} (hp : Pool S p c) (x : Ex p c S S') : ∀ {d : D}, Vb S m d → Vb S' m d
  | .tup xs, h => by rw [vb_tup] at h ⊢; exact Vbs.ex hp x h
  | .loc a, h => by
    rw [vb_loc] at h ⊢
    obtain ⟨xs, e, q, w⟩ := h
    exact ⟨xs, x.2 a _ (fun z => by subst z; exact pool_pls hp e q) e, q, w⟩
  | .scr _, h => by rw [Vb] at h; exact h.elim
  | .non, _ => vb_non
  | .bl _, _ => vb_bl
  | .int _, _ => vb_int
  | .str _, _ => vb_str
theorem Vbs.ex {S S' : Store} {p c : Addr} {m : Nat} (hp : Pool S p c) (x : Ex p c S S') : ∀ {d : List D}, Vbs S m d → Vbs S' m d
  | [], _ => vbs_nil
  | y :: ys, h => by rw [vbs_cons] at h ⊢; exact ⟨Vb.ex hp x h.1, Vbs.ex hp x h.2⟩
end
theorem pl_dep : ∀ {n : Nat} {d : D}, D.pl n d = true → d.dep ≤ n := by
  have key : ∀ (n : Nat), (∀ d, D.pl n d = true → d.dep ≤ n) → ∀ ds, D.pls n ds = true → D.deps ds ≤ n := by
    intro n h ds
    induction ds with
    | nil => simp
    | cons x xs ih =>
      intro q
      rw [p_cons, Bool.and_eq_true] at q
      rw [deps_cons]
      have := h x q.1
      have := ih q.2
      omega
  intro n
  induction n with
  | zero => intro d h; cases d <;> simp [D.pl, D.dep] at h ⊢
  | succ n ih =>
    intro d h
    cases d with
    | tup xs =>
      have := key n (fun d h => ih h) xs (by simpa [D.pl] using h)
      rw [dep_tup]; omega
    | _ => simp [D.dep]
theorem pls_of {n : Nat} {ds : List D} : D.pls n ds = true ↔ ∀ x ∈ ds, D.pl n x = true := by
  induction ds with
  | nil => simp
  | cons x xs ih => rw [p_cons, Bool.and_eq_true, ih]; simp
theorem deps_of {n : Nat} {ds : List D} : D.deps ds ≤ n ↔ ∀ x ∈ ds, x.dep ≤ n := by
  induction ds with
  | nil => simp
  | cons x xs ih => rw [deps_cons]; simp; rw [← ih]; omega
theorem pls_dep {n : Nat} {ds : List D} (h : D.pls n ds = true) : D.deps ds ≤ n := deps_of.mpr fun x hx => pl_dep (pls_of.mp h x hx)
theorem pl_mono : ∀ {n k : Nat}, n ≤ k → ∀ {d : D}, D.pl n d = true → D.pl k d = true := by
  intro n
  induction n with
  | zero => intro k _ d h; cases d <;> first | (cases k <;> rfl) | simp [D.pl] at h
  | succ n ih =>
    intro k hk d h
    obtain ⟨j, rfl⟩ : ∃ j, k = j + 1 := ⟨k - 1, by omega⟩
    cases d with
    | tup xs =>
      have h : D.pls n xs = true := by simpa [D.pl] using h
      show D.pls j xs = true
      exact pls_of.mpr fun x hx => ih (by omega) (pls_of.mp h x hx)
    | _ => first | rfl | simp [D.pl] at h
theorem pls_mono {n k : Nat} (h : n ≤ k) {ds : List D} (q : D.pls n ds = true) : D.pls k ds = true := pls_of.mpr fun x hx => pl_mono h (pls_of.mp q x hx)
mutual
/-- how many lists stand within -/
def D.nl : D → Nat
  | .tup xs => D.nls xs
  | .loc _ => 1
  | _ => 0
def D.nls : List D → Nat
  | [] => 0
  | x :: xs => D.nl x + D.nls xs
end
@[simp] theorem nl_tup {xs : List D} : D.nl (.tup xs) = D.nls xs := by rw [D.nl]
@[simp] theorem nls_nil : D.nls [] = 0 := by rw [D.nls]
@[simp] theorem nls_cons {x : D} {xs : List D} : D.nls (x :: xs) = D.nl x + D.nls xs := by rw [D.nls]
@[simp] theorem nls_app {xs ys : List D} : D.nls (xs ++ ys) = D.nls xs + D.nls ys := by
  induction xs with
  | nil => simp
  | cons x xs ih => rw [List.cons_append, nls_cons, nls_cons, ih]; omega
mutual
theorem nl_pl : ∀ {n : Nat} {d : D}, D.pl n d = true → d.nl = 0
  | 0, .tup _, h => by simp [D.pl] at h
  | n + 1, .tup xs, h => by rw [nl_tup]; exact nls_pl (n := n) (by simpa [D.pl] using h)
  | n, .loc _, h => by cases n <;> simp [D.pl] at h
  | _, .scr _, _ => rfl
  | _, .non, _ => rfl
  | _, .bl _, _ => rfl
  | _, .int _, _ => rfl
  | _, .str _, _ => rfl
theorem nls_pl : ∀ {n : Nat} {ds : List D}, D.pls n ds = true → D.nls ds = 0
  | _, [], _ => by simp
  | n, x :: xs, h => by
    rw [p_cons, Bool.and_eq_true] at h
    rw [nls_cons, nl_pl h.1, nls_pl h.2]
end
mutual
/-- the list at a stands within -/
def D.hasL (a : Addr) : D → Bool
  | .tup xs => D.hasLs a xs
  | .loc b => decide (a = b)
  | _ => false
def D.hasLs (a : Addr) : List D → Bool
  | [] => false
  | x :: xs => D.hasL a x || D.hasLs a xs
end
@[simp] theorem hasL_tup {a : Addr} {xs : List D} : D.hasL a (.tup xs) = D.hasLs a xs := by rw [D.hasL]
@[simp] theorem hasL_loc {a b : Addr} : D.hasL a (.loc b) = decide (a = b) := by rw [D.hasL]
@[simp] theorem hasLs_nil {a : Addr} : D.hasLs a [] = false := by rw [D.hasLs]
@[simp] theorem hasLs_cons {a : Addr} {x : D} {xs : List D} : D.hasLs a (x :: xs) = (D.hasL a x || D.hasLs a xs) := by rw [D.hasLs]
@[simp] theorem hasLs_app {a : Addr} {xs ys : List D} : D.hasLs a (xs ++ ys) = (D.hasLs a xs || D.hasLs a ys) := by
  induction xs with
  | nil => simp
  | cons x xs ih => rw [List.cons_append, hasLs_cons, hasLs_cons, ih, Bool.or_assoc]
mutual
theorem hasL_pl {a : Addr} : ∀ {n : Nat} {d : D}, D.pl n d = true → d.hasL a = false
  | 0, .tup _, h => by simp [D.pl] at h
  | n + 1, .tup xs, h => by rw [hasL_tup]; exact hasLs_pl (n := n) (by simpa [D.pl] using h)
  | n, .loc _, h => by cases n <;> simp [D.pl] at h
  | _, .scr _, _ => rfl
  | _, .non, _ => rfl
  | _, .bl _, _ => rfl
  | _, .int _, _ => rfl
  | _, .str _, _ => rfl
theorem hasLs_pl {a : Addr} : ∀ {n : Nat} {ds : List D}, D.pls n ds = true → D.hasLs a ds = false
  | _, [], _ => by simp
  | n, x :: xs, h => by
    rw [p_cons, Bool.and_eq_true] at h
    rw [hasLs_cons, hasL_pl h.1, hasLs_pl h.2]
    rfl
end
mutual
/-- the largest whole number within -/
def D.mx : D → Nat
  | .tup xs => D.mxs xs
  | .int i => i.natAbs
  | _ => 0
def D.mxs : List D → Nat
  | [] => 0
  | x :: xs => max (D.mx x) (D.mxs xs)
end
@[simp] theorem mx_tup {xs : List D} : D.mx (.tup xs) = D.mxs xs := by rw [D.mx]
@[simp] theorem mx_int {i : Int} : D.mx (.int i) = i.natAbs := by rw [D.mx]
@[simp] theorem mxs_nil : D.mxs [] = 0 := by rw [D.mxs]
@[simp] theorem mxs_cons {x : D} {xs : List D} : D.mxs (x :: xs) = max (D.mx x) (D.mxs xs) := by rw [D.mxs]
theorem mxs_of {m : Nat} : ∀ {xs : List D}, D.mxs xs ≤ m ↔ ∀ x ∈ xs, x.mx ≤ m
  | [] => by simp
  | x :: xs => by
    rw [mxs_cons]
    constructor
    · intro h y hy
      rcases List.mem_cons.mp hy with rfl | hy
      · omega
      · exact mxs_of.mp (by omega) y hy
    · intro h
      have h1 := h x List.mem_cons_self
      have h2 : D.mxs xs ≤ m := mxs_of.mpr fun y hy => h y (List.mem_cons_of_mem _ hy)
      omega
/-- a bent value; its lists are new -/
structure BentOf (S0 S : Store) (k m M : Nat) (d : D) : Prop where
  vb : Vb S m d
  dep : d.dep ≤ k
  wt : d.wt ≤ m
  nl : d.nl ≤ 1
  fr : ∀ a, d.hasL a = true → S0 a = none
  mx : d.mx ≤ M
def sp_bent (n : Nat) : SpD := fun ds S R => ∃ p c v, ds = [.loc p, v] ∧ Pool S p c ∧ D.pl 100 v = true ∧ v.dep < n ∧ v.wt ≤ 100000 ∧ ∀ d S', BentOf S S' (v.dep + 1) (2 * v.wt + 20) (v.mx + 2) d → Ex p c S S' → R d S'
theorem bent_go {n : Nat} {p c : Addr} {v : D} {S : Store} {R : DVK} (hp : Pool S p c) (hv : D.pl 100 v = true) (hn : v.dep < n) (hw : v.wt ≤ 100000) (h : ∀ d S', BentOf S S' (v.dep + 1) (2 * v.wt + 20) (v.mx + 2) d → Ex p c S S' → R d S') : sp_bent n [.loc p, v] S R := ⟨p, c, v, rfl, hp, hv, hn, hw, h⟩
def bnA : Y.S := .ife (.bop true [(.isi (.var 1) .tuple), (.cmp .gt (.bi .len [(.var 1)]) (.int 0)), (.cmp .gt (.call "_law_draw" [(.var 0), (.int 3)]) (.int 0))]) [.asg (.name (.one 3)) (.call "_law_draw" [(.var 0), (.bi .len [(.var 1)])]), .ret (.op .add (.op .add (.slc (.var 1) none (some (.var 3))) (.tup [(.call "_law_bent" [(.var 0), (.sub (.var 1) (.var 3))])])) (.slc (.var 1) (some (.op .add (.var 3) (.int 1))) none))] []
def bnB : Y.S := .asg (.name (.one 2)) (.call "_law_draw" [(.var 0), (.int 9)])
def bnC : Y.S := .ife (.cmp .eq (.var 2) (.int 0)) [.ret (.sub (.tup [(.str "x"), (.bl true), (.tup []), (.int 0), (.neg (.int 1)), .non, (.bl false), (.lst [])]) (.call "_law_draw" [(.var 0), (.int 8)]))] []
def bnD : Y.S := .ife (.call "_law_is_integer" [(.var 1)]) [.ret (.op .add (.var 1) (.sub (.tup [(.int 1), (.neg (.int 1)), (.int 2), (.int 0)]) (.call "_law_draw" [(.var 0), (.int 4)])))] []
def bnE : Y.S := .ife (.isi (.var 1) .str) [.ret (.sub (.tup [(.op .add (.var 1) (.str "a")), (.slc (.var 1) (some (.int 1)) none), (.op .add (.var 1) (.str "A")), (.op .add (.var 1) (.str " ")), (.slc (.var 1) none (some (.int 1)))]) (.call "_law_draw" [(.var 0), (.int 5)]))] []
def bnF : Y.S := .ife (.bop false [(.not (.isi (.var 1) .tuple)), (.cmp .eq (.bi .len [(.var 1)]) (.int 0))]) [.ret (.ite (.cmp .lt (.var 2) (.int 5)) (.tup [(.var 1), (.int 0)]) (.tup []))] []
def bnG : List Y.S := [.asg (.name (.one 3)) (.call "_law_draw" [(.var 0), (.bi .len [(.var 1)])]),
  .ife (.cmp .lt (.var 2) (.int 3)) [.ret (.op .add (.slc (.var 1) none (some (.var 3))) (.slc (.var 1) (some (.op .add (.var 3) (.int 1))) none))] [],
  .ife (.cmp .lt (.var 2) (.int 5)) [.ret (.op .add (.op .add (.slc (.var 1) none (some (.var 3))) (.tup [(.sub (.var 1) (.var 3))])) (.slc (.var 1) (some (.var 3)) none))] [],
  .ife (.cmp .eq (.var 2) (.int 5)) [.ret (.bi .list [(.var 1)])] [],
  .asg (.name (.one 4)) (.call "_law_draw" [(.var 0), (.bi .len [(.var 1)])]),
  .asg (.name (.one 5)) (.bi .list [(.var 1)]),
  .asg (.sub (.var 5) (.var 3)) (.sub (.var 1) (.var 4)),
  .asg (.sub (.var 5) (.var 4)) (.sub (.var 1) (.var 3)),
  .ret (.bi .tuple [(.var 5)])]
theorem ir_bent : ir__law_bent = bnA :: bnB :: bnC :: bnD :: bnE :: bnF :: bnG := rfl
theorem nat_of {r : Int} {n : Nat} (h0 : 0 ≤ r) (h1 : r < n) : ∃ k : Nat, r = k ∧ k < n := ⟨r.toNat, by omega⟩
theorem wts_take (xs : List D) (k : Nat) : D.wts (xs.take k) + D.wts (xs.drop k) = D.wts xs := by
  rw [← wts_app, List.take_append_drop]
theorem wts_mem {xs : List D} {x : D} (h : x ∈ xs) : D.wt x + 2 ≤ D.wts xs := by
  obtain ⟨k, hk, rfl⟩ := List.getElem_of_mem h
  have := wts_get (List.getElem?_eq_getElem hk)
  omega
theorem wts_set {xs : List D} {k : Nat} {x y : D} (h : xs[k]? = some y) : D.wts (xs.set k x) + D.wt y = D.wts xs + D.wt x := by
  induction xs generalizing k with
  | nil => simp at h
  | cons z zs ih =>
    cases k with
    | zero => simp at h; subst h; simp; omega
    | succ k =>
      have := ih (k := k) (by simpa using h)
      simp
      omega
section
variable {Γ : G} {n : Nat} {p c : Addr} {S : Store} {R : DVK}
/-- the tail for tuples -/
theorem bent_tail (g1 : Γ.fn "_law_draw" = sp_draw) {xs : List D} {t : Int} {S0 : Store} (hx : xs ≠ []) (hv : D.pls 99 xs = true) (hw : D.wts xs ≤ 100000) (t1 : 0 < t) (hp : Pool S0 p c) (d0 : Dr p c S0 S)
    (h : ∀ d S', BentOf S0 S' (D.deps xs + 2) (2 * (D.wts xs + 4) + 20) (D.mxs xs + 2) d → Ex p c S0 S' → R d S') : wss Γ bnG (ends R) [some (.loc p), some (.tup xs), some (.int t), none, none, none] S := by
  have hl := wts_len xs
  have hpos : 0 < xs.length := List.length_pos_iff.mpr hx
  have plx := pls_of.mp hv
  have fin : ∀ ys S', (∀ y ∈ ys, y ∈ xs) → D.wts ys + 4 ≤ 2 * (D.wts xs + 4) + 20 → Ex p c S0 S' → ∃ S'', Le S'' S' ∧ R (.tup ys) S'' := by
    intro ys S' sub w x
    refine ⟨S', .refl, h _ _ ⟨?_, ?_, by rw [wt_tup]; exact w, by rw [nl_tup, nls_pl (pls_of.mpr fun y hy => plx y (sub y hy))]; omega, fun z hz => (by rw [hasL_tup, hasLs_pl (pls_of.mpr fun y hy => plx y (sub y hy))] at hz; cases hz), by rw [mx_tup]; exact mxs_of.mpr fun y hy => by have := mxs_of.mp (Nat.le_refl (D.mxs xs)) y (sub y hy); omega⟩ x⟩
    · rw [vb_tup]; exact vbs_pl (pls_of.mpr fun y hy => plx y (sub y hy))
    · rw [dep_tup]
      have : D.deps ys ≤ D.deps xs := deps_of.mpr fun y hy => deps_of.mp (Nat.le_refl _) y (sub y hy)
      omega
  simp [bnG, g1]
  refine draw_go d0.pool (by omega) (by omega) fun r S2 r0 r1 d2 => ?_
  obtain ⟨k, rfl, hk⟩ := nat_of r0 r1
  have e1 : cutD xs none (some (k : Int)) = xs.take k := cut_to xs k
  have e2 : cutD xs (some ((k : Int) + 1)) none = xs.drop (k + 1) := cut_from xs (k + 1)
  have e3 : cutD xs (some (k : Int)) none = xs.drop k := cut_from xs k
  have ek : xs[k]? = some xs[k] := List.getElem?_eq_getElem hk
  have e4 : atD xs (k : Int) = some xs[k] := (atD_nat _ _).trans ek
  have wk := wts_get ek
  have wtk := wts_take xs k
  have x02 := (d0.trans d2).ex
  have sub1 : ∀ y ∈ xs.take k, y ∈ xs := fun y hy => List.mem_of_mem_take hy
  have sub2 : ∀ j, ∀ y ∈ xs.drop j, y ∈ xs := fun j y hy => List.mem_of_mem_drop hy
  have mk : xs[k] ∈ xs := List.getElem_mem hk
  have le1 : ∀ a b : List D, a.length + b.length ≤ 300000 → a.length + b.length ≤ sizeLine := fun a b h => line_le (by omega)
  by_cases c1 : t < 3
  · have hs : min k xs.length + (xs.length - (k + 1)) ≤ sizeLine := line_le (by omega)
    simp [c1, e1, e2, hs]
    refine .inr (fin (xs.take k ++ xs.drop (k + 1)) _ (fun y hy => ?_) (by rw [wts_app]; omega) x02)
    rcases List.mem_append.mp hy with hy | hy
    · exact sub1 y hy
    · exact sub2 _ y hy
  by_cases c2 : t < 5
  · have hs : min k xs.length + 1 ≤ sizeLine := line_le (by omega)
    have hs2 : min k xs.length + 1 + (xs.length - k) ≤ sizeLine := line_le (by omega)
    simp [c1, c2, e1, e3, e4, hs, hs2]
    refine ⟨by omega, .inr (fin (xs.take k ++ xs[k] :: xs.drop k) _ (fun y hy => ?_) (by simp; omega) x02)⟩
    simp at hy
    rcases hy with hy | hy | hy
    · exact sub1 y hy
    · exact hy ▸ mk
    · exact sub2 _ y hy
  by_cases c3 : t = 5
  · subst c3
    simp
    intro l hl
    refine ⟨_, .refl, h _ _ ⟨?_, by simp [D.dep], by simp [D.wt], Nat.le_refl _, fun z hz => (by rw [of_decide_eq_true ((hasL_loc).symm.trans hz)]; exact ((d0.trans d2).none hp).mp hl), by simp [D.mx]⟩ (x02.trans (.of_le d2.pool (Le.new hl)))⟩
    rw [vb_loc]
    exact ⟨xs, up_same, pls_mono (by omega) hv, by omega⟩
  · simp [c1, c2, c3, g1]
    refine ⟨by omega, by omega, draw_go d2.pool (by omega) (by omega) fun r S3 q0 q1 d3 => ?_⟩
    obtain ⟨j, rfl, hj⟩ := nat_of q0 q1
    intro l hl
    have ej : xs[j]? = some xs[j] := List.getElem?_eq_getElem hj
    have e5 : atD xs (j : Int) = some xs[j] := (atD_nat _ _).trans ej
    have mj : xs[j] ∈ xs := List.getElem_mem hj
    have i1 : ixN xs.length (k : Int) = some k := by simp [ixN]; omega
    have i2 : ixN xs.length (j : Int) = some j := by simp [ixN]; omega
    simp [e4, e5, i1, i2]
    have w1 := wts_set (x := xs[j]) ek
    have ej2 : (xs.set k xs[j])[j]? = some xs[j] := by
      rw [List.getElem?_set]
      split
      · simp [hj]
      · exact ej
    have w2 := wts_set (x := xs[k]) ej2
    refine fin _ _ (fun y hy => ?_) (by omega) ((x02.trans d3.ex).trans (.of_le d3.pool (Le.new hl)))
    rcases List.mem_or_eq_of_mem_set hy with hy | hy
    · rcases List.mem_or_eq_of_mem_set hy with hy | hy
      · exact hy
      · exact hy ▸ mj
    · exact hy ▸ mk
@[simp] theorem ix5 {a b c d e f : D} {xs : List D} : atD (a :: b :: c :: d :: e :: f :: xs) 5 = some f := atD_nat (a :: b :: c :: d :: e :: f :: xs) 5
@[simp] theorem ix6 {a b c d e f g : D} {xs : List D} : atD (a :: b :: c :: d :: e :: f :: g :: xs) 6 = some g := atD_nat (a :: b :: c :: d :: e :: f :: g :: xs) 6
@[simp] theorem ix7 {a b c d e f g h : D} {xs : List D} : atD (a :: b :: c :: d :: e :: f :: g :: h :: xs) 7 = some h := atD_nat (a :: b :: c :: d :: e :: f :: g :: h :: xs) 7
theorem w_bent (g1 : Γ.fn "_law_draw" = sp_draw) (g2 : Γ.fn "_law_is_integer" = sp_is_whole) (g3 : Γ.fn "_law_bent" = sp_bent n) : ∀ ds S R, sp_bent (n + 1) ds S R → wss Γ ir__law_bent (ends R) (startD ck__law_bent.N ds) S := by
  rintro _ S R ⟨p, c, v, rfl, hp, hv, hn, hw, hR⟩
  rw [ir_bent]
  have fin : ∀ d S', BentOf S S' (v.dep + 1) (2 * v.wt + 20) (v.mx + 2) d → Ex p c S S' → ∃ S'', Le S'' S' ∧ R d S'' := fun d S' b x => ⟨S', .refl, hR d S' b x⟩
  have easy : ∀ d S', D.pl 100 d = true → d.dep ≤ v.dep + 1 → d.wt ≤ 2 * v.wt + 20 → Ex p c S S' → (h4 : d.mx ≤ v.mx + 2 := by first | (simp [D.mx]; done) | (simp [D.mx]; omega)) → ∃ S'', Le S'' S' ∧ R d S'' := fun d S' h1 h2 h3 x h4 => fin d S' ⟨vb_pl h1, h2, h3, by rw [nl_pl h1]; omega, fun z hz => (by rw [hasL_pl h1] at hz; cases hz), h4⟩ x
  have nd : ∀ i : Int, D.dep (.int i) = 0 := fun i => by simp [D.dep]
  -- what the turn brings
  have rest : ∀ S1, Dr p c S S1 → wss Γ (bnB :: bnC :: bnD :: bnE :: bnF :: bnG) (ends R) [some (.loc p), some v, none, none, none, none] S1 := by
    intro S1 d1
    simp [bnB, g1]
    refine draw_go d1.pool (by omega) (by omega) fun t S2 t0 t9 d2 => ?_
    have d12 := d1.trans d2
    by_cases c0 : t = 0
    · subst c0
      simp [bnC, g1]
      intro l hl
      obtain ⟨m1, m2⟩ := d12.pool.ne hl
      refine draw_go (d12.pool.upd m1 m2) (by omega) (by omega) fun r S3 r0 r1 d3 => ?_
      have x3 : Ex p c S S3 := (d12.ex.trans (.of_le d12.pool (Le.new hl))).trans d3.ex
      have h8 : r = 0 ∨ r = 1 ∨ r = 2 ∨ r = 3 ∨ r = 4 ∨ r = 5 ∨ r = 6 ∨ r = 7 := by omega
      have dv0 : ∀ d : D, D.dep d = 0 → D.dep d ≤ v.dep + 1 := fun d h => by omega
      rcases h8 with rfl | rfl | rfl | rfl | rfl | rfl | rfl | rfl
      · have lx : "x".length = 1 := rfl
        simp; exact easy _ _ rfl (by simp [D.dep]) (by rw [D.wt, lx]; omega) x3
      · simp; exact easy _ _ rfl (by simp [D.dep]) (by simp [D.wt]) x3
      · simp; exact easy (.tup []) _ rfl (by simp [D.dep]) (by simp [D.wt]) x3
      · simp; exact easy _ _ rfl (by simp [D.dep]) (by simp [D.wt]) x3
      · simp; exact easy _ _ rfl (by simp [D.dep]) (by simp [D.wt]) x3
      · simp; exact easy _ _ rfl (by simp [D.dep]) (by simp [D.wt]) x3
      · simp; exact easy _ _ rfl (by simp [D.dep]) (by simp [D.wt]) x3
      · simp
        refine fin _ _ ⟨?_, by simp [D.dep], by simp [D.wt], Nat.le_refl _, fun z hz => (by rw [of_decide_eq_true ((hasL_loc).symm.trans hz)]; exact (d12.none hp).mp hl), by simp [D.mx]⟩ x3
        rw [vb_loc]
        exact ⟨[], (d3.at m1).trans up_same, by simp, by simp⟩
    have x2 : Ex p c S S2 := d12.ex
    have g6 : ∃ S'', Le S'' S2 ∧ R (.tup []) S'' := easy (.tup []) _ rfl (by simp [D.dep]) (by simp [D.wt]) x2
    cases v with
    | tup xs =>
      have hv9 : D.pls 99 xs = true := by simpa [D.pl] using hv
      have hvl : Vls S2 xs := vls_of fun x hx => by
        have := pls_of.mp hv9 x hx
        exact vl_pl this
      cases xs with
      | nil =>
        by_cases c5 : t < 5
        · simp [bnC, bnD, bnE, bnF, c0, g2, isWhole, c5]
          exact easy _ _ rfl (by simp [D.dep]) (by simp [D.wt]) x2
        · simp [bnC, bnD, bnE, bnF, c0, g2, isWhole, c5]
          exact g6
      | cons y ys =>
        rw [vls_cons] at hvl
        have tl := bent_tail (Γ := Γ) (xs := y :: ys) g1 (by simp) hv9 (by rw [wt_tup] at hw; omega) (t := t) (by omega) hp d12 fun d S' b x => hR d S' ⟨b.vb, by simpa using b.dep, by simpa using b.wt, b.nl, b.fr, by simpa using b.mx⟩ x
        simp [bnC, bnD, bnE, bnF, c0, g2, isWhole, hvl.1, hvl.2]
        exact .inl ⟨by omega, tl⟩
    | int i =>
      simp [bnC, bnD, c0, g1, g2, isWhole]
      refine draw_go d2.pool (by omega) (by omega) fun r S3 r0 r1 d3 => ?_
      have x3 := x2.trans d3.ex
      have h4 : r = 0 ∨ r = 1 ∨ r = 2 ∨ r = 3 := by omega
      rcases h4 with rfl | rfl | rfl | rfl
      · simp; exact easy _ _ rfl (by simp [D.dep]) (by simp [D.wt]; omega) x3
      · simp; exact easy _ _ rfl (by simp [D.dep]) (by simp [D.wt]; omega) x3
      · simp; exact easy _ _ rfl (by simp [D.dep]) (by simp [D.wt]; omega) x3
      · simp; exact easy _ _ rfl (by simp [D.dep]) (by simp [D.wt]; omega) x3
    | str z =>
      have hz : z.length ≤ 100000 := by simp [D.wt] at hw; omega
      simp [bnC, bnD, bnE, c0, g1, g2, isWhole]
      have la : "a".length = 1 := rfl
      have lA : "A".length = 1 := rfl
      have ls : " ".length = 1 := rfl
      have hzl : z.toList.length = z.length := by first | rfl | exact String.length_toList | exact String.length_toList _
      have hz1 : z.toList.tail.length ≤ z.length := by rw [List.length_tail]; omega
      have hz2 : (z.toList.take 1).length ≤ z.length := by rw [List.length_take]; omega
      refine ⟨by omega, by omega, by omega, by omega, by omega, draw_go d2.pool (by omega) (by omega) fun r S3 r0 r1 d3 => ?_⟩
      have x3 := x2.trans d3.ex
      rcases five r0 r1 with rfl | rfl | rfl | rfl | rfl
      · simp; exact easy _ _ rfl (by simp [D.dep]) (by simp [D.wt, String.length_append, la]; omega) x3
      · simp; exact easy _ _ rfl (by simp [D.dep]) (by rw [D.wt, D.wt, String.length_ofList]; omega) x3
      · simp; exact easy _ _ rfl (by simp [D.dep]) (by simp [D.wt, String.length_append, lA]; omega) x3
      · simp; exact easy _ _ rfl (by simp [D.dep]) (by simp [D.wt, String.length_append, ls]; omega) x3
      · simp; exact easy _ _ rfl (by simp [D.dep]) (by rw [D.wt, D.wt, String.length_ofList]; omega) x3
    | loc a => simp [D.pl] at hv
    | scr a => simp [D.pl] at hv
    | _ =>
      by_cases c5 : t < 5
      · simp [bnC, bnD, bnE, bnF, c0, g2, isWhole, c5]
        exact easy _ _ rfl (by simp [D.dep]) (by simp [D.wt]) x2
      · simp [bnC, bnD, bnE, bnF, c0, g2, isWhole, c5]
        exact g6
  cases v with
  | tup xs =>
    cases xs with
    | nil =>
      simp [startD, ck__law_bent, bnA]
      exact rest S (.refl hp)
    | cons x r =>
      have hv9 : D.pls 99 (x :: r) = true := by simpa [D.pl] using hv
      simp [startD, ck__law_bent, bnA, g1, g3]
      refine draw_go hp (by omega) (by omega) fun u S1 u0 u1 d1 => ?_
      by_cases c0 : 0 < u
      · have hl := wts_len (x :: r)
        have hpos : 0 < (x :: r).length := by simp
        rw [wt_tup] at hw
        simp [c0]
        refine draw_go d1.pool (by omega) (by simp at hl hw; omega) fun q S2 q0 q1 d2 => ?_
        have d12 := d1.trans d2
        obtain ⟨k, rfl, hk⟩ := nat_of (n := (x :: r).length) q0 (by simpa using q1)
        have e1 : cutD (x :: r) none (some (k : Int)) = (x :: r).take k := cut_to _ k
        have e2 : cutD (x :: r) (some ((k : Int) + 1)) none = (x :: r).drop (k + 1) := cut_from _ (k + 1)
        have ek : (x :: r)[k]? = some (x :: r)[k] := List.getElem?_eq_getElem hk
        have e4 : atD (x :: r) (k : Int) = some (x :: r)[k] := (atD_nat _ _).trans ek
        have wk := wts_get ek
        have plk : D.pl 99 (x :: r)[k] = true := pls_of.mp hv9 _ (List.getElem_mem hk)
        have dk : (x :: r)[k].dep ≤ D.deps (x :: r) := deps_of.mp (Nat.le_refl _) _ (List.getElem_mem hk)
        rw [dep_tup] at hn
        have s1 : min k (r.length + 1) + 1 ≤ sizeLine := line_le (by simp at hl hw; omega)
        refine ⟨_, rfl, ?_⟩
        rw [v_ixt]
        refine ⟨_, e4, ?_⟩
        refine bent_go d12.pool (pl_mono (by omega) plk) (by omega) (by omega) fun d S3 b x3 => ?_
        have xs3 : Ex p c S S3 := d12.ex.trans x3
        rw [v_addi]
        have e2' : cutD (x :: r) (some (((k : Nat) : Int) + 1)) none = (x :: r).drop (k + 1) := e2
        refine ⟨by rw [e1, List.length_take]; exact line_le (by omega), _, rfl, ?_⟩
        rw [e1, e2]
        refine ⟨by rw [List.length_take, List.length_drop]; exact line_le (by omega), fin _ S3 ⟨?_, ?_, ?_, ?_, ?_, ?_⟩ xs3⟩
        · rw [vb_tup, vbs_app, vbs_cons]
          exact ⟨vbs_pl (pls_of.mpr fun y hy => pls_of.mp hv9 y (List.mem_of_mem_take hy)), vb_m (by rw [wt_tup]; omega) b.vb, vbs_pl (pls_of.mpr fun y hy => pls_of.mp hv9 y (List.mem_of_mem_drop hy))⟩
        · rw [dep_tup, dep_tup]
          have : D.deps ((x :: r).take k ++ d :: (x :: r).drop (k + 1)) ≤ D.deps (x :: r) + 1 := deps_of.mpr fun y hy => by
            rcases List.mem_append.mp hy with hy | hy
            · have := deps_of.mp (Nat.le_refl (D.deps (x :: r))) y (List.mem_of_mem_take hy); omega
            · rcases List.mem_cons.mp hy with rfl | hy
              · have := b.dep; omega
              · have := deps_of.mp (Nat.le_refl (D.deps (x :: r))) y (List.mem_of_mem_drop hy); omega
          omega
        · rw [wt_tup, wt_tup, wts_app, wts_cons]
          have := b.wt
          omega
        · rw [nl_tup, nls_app, nls_cons, nls_pl (pls_of.mpr fun y hy => pls_of.mp hv9 y (List.mem_of_mem_take hy)), nls_pl (pls_of.mpr fun y hy => pls_of.mp hv9 y (List.mem_of_mem_drop hy))]
          have := b.nl
          omega
        · intro z hz
          rw [hasL_tup, hasLs_app, hasLs_cons, hasLs_pl (pls_of.mpr fun y hy => pls_of.mp hv9 y (List.mem_of_mem_take hy)), hasLs_pl (pls_of.mpr fun y hy => pls_of.mp hv9 y (List.mem_of_mem_drop hy))] at hz
          exact (d12.none hp).mp (b.fr z (by simpa using hz))
        · have mk := mxs_of.mp (Nat.le_refl (D.mxs (x :: r)))
          have mkk := mk _ (List.getElem_mem hk)
          have bm := b.mx
          rw [mx_tup, mx_tup]
          refine mxs_of.mpr fun y hy => ?_
          rcases List.mem_append.mp hy with hy | hy
          · have := mk y (List.mem_of_mem_take hy); omega
          · rcases List.mem_cons.mp hy with rfl | hy
            · omega
            · have := mk y (List.mem_of_mem_drop hy); omega
      · simp [c0]
        exact rest S1 d1
  | loc a => simp [D.pl] at hv
  | scr a => simp [D.pl] at hv
  | _ =>
    simp [startD, ck__law_bent, bnA]
    exact rest S (.refl hp)
end
end Y

namespace Y
open PySem PySem.Spec L2
/-! ### what is a saying: the program's look and the law's, by trees -/
def Sy.ar (s : Sy) : List Int := s.fixes.map Sy.arg
@[simp] theorem ar_yes {b : Bool} : (Sy.yes b).ar = [] := rfl
@[simp] theorem ar_is {b : Bool} {i : Int} : (Sy.is b i).ar = [] := rfl
@[simp] theorem ar_name {i : Int} : (Sy.name i).ar = [] := rfl
@[simp] theorem ar_two {b : Bool} {l r : Sy} : (Sy.two b l r).ar = l.ar ++ r.ar := by simp [Sy.ar, Sy.fixes, Sy.parts, Sy.isFix, List.filter_append]
@[simp] theorem ar_step {b : Bool} {i : Int} {x : Sy} : (Sy.step b i x).ar = x.ar := by simp [Sy.ar, Sy.fixes, Sy.parts, Sy.isFix]
@[simp] theorem ar_fix {b : Bool} {i : Int} {x : Sy} : (Sy.fix b i x).ar = i :: x.ar := by
  show List.map Sy.arg (List.filter Sy.isFix (Sy.fix b i x :: x.parts)) = _
  rw [List.filter_cons_of_pos rfl]
  rfl
/-- binders' names: each once, none known before -/
def New (Z L : List Int) : Prop := L.Nodup ∧ ∀ i ∈ L, i ∉ Z
theorem new_nil {Z : List Int} : New Z [] := ⟨.nil, by simp⟩
theorem new_cons {Z L : List Int} {i : Int} : New Z (i :: L) ↔ i ∉ Z ∧ New (Z ++ [i]) L := by
  unfold New
  rw [List.nodup_cons]
  constructor
  · rintro ⟨⟨h1, h2⟩, h3⟩
    refine ⟨h3 i List.mem_cons_self, h2, fun j hj hz => ?_⟩
    rcases List.mem_append.mp hz with q | q
    · exact h3 j (List.mem_cons_of_mem _ hj) q
    · rw [List.mem_singleton.mp q] at hj; exact h1 hj
  · rintro ⟨h1, h2, h3⟩
    refine ⟨⟨fun q => h3 i q (by simp), h2⟩, fun j hj hz => ?_⟩
    rcases List.mem_cons.mp hj with q | q
    · rw [q] at hz; exact h1 hz
    · exact h3 j q (List.mem_append.mpr (.inl hz))
theorem new_app {Z L M : List Int} : New Z (L ++ M) ↔ New Z L ∧ New (Z ++ L) M := by
  unfold New
  rw [List.nodup_append]
  constructor
  · rintro ⟨⟨h1, h2, h3⟩, h4⟩
    refine ⟨⟨h1, fun i hi => h4 i (List.mem_append.mpr (.inl hi))⟩, h2, fun i hi hz => ?_⟩
    rcases List.mem_append.mp hz with q | q
    · exact h4 i (List.mem_append.mpr (.inr hi)) q
    · exact h3 i q i hi rfl
  · rintro ⟨⟨h1, h2⟩, h3, h4⟩
    refine ⟨⟨h1, h3, fun i hi j hj e => ?_⟩, fun i hi hz => ?_⟩
    · subst e; exact h4 i hj (List.mem_append.mpr (.inr hi))
    · rcases List.mem_append.mp hi with q | q
      · exact h2 i q hz
      · exact h4 i q (List.mem_append.mpr (.inl hz))
theorem new_perm {Z L M : List Int} (p : L.Perm M) (h : New Z L) : New Z M := ⟨p.nodup_iff.mp h.1, fun i hi => h.2 i (p.mem_iff.mpr hi)⟩
/-- names that may stand -/
def Rng (K : List Int) : Prop := ∀ i ∈ K, 0 ≤ i ∧ i ≤ 19
theorem rng_nil : Rng [] := by simp [Rng]
theorem Rng.add {K : List Int} {i : Int} (h : Rng K) (h0 : 0 ≤ i) (h1 : i ≤ 19) : Rng (K ++ [i]) := by
  intro j hj
  rcases List.mem_append.mp hj with q | q
  · exact h j q
  · rw [List.mem_singleton.mp q]; exact ⟨h0, h1⟩
section
variable {a b : Int}
/-! the law's form -/
theorem form_of_sy : ∀ (s : Sy) (n : Nat) (K F Z : List Int), s.depth ≤ n → Rng K → Rng F → Wf a b K F s → New Z s.ar → form a b n s.d K F Z = (true, Z ++ s.ar)
  | s, 0, _, _, _, h, _, _, _, _ => absurd h (by cases s <;> simp [Sy.depth])
  | .yes c, n + 1, K, F, Z, _, _, _, _, _ => by cases c <;> simp [Sy.d, Sy.tag, form_tup]
  | .is c i, n + 1, K, F, Z, _, _, _, w, _ => by
    obtain ⟨w1, w2⟩ : 0 ≤ i ∧ i < a := w
    have w3 : ¬ i < 0 := by omega
    cases c <;> simp [Sy.d, Sy.tag, form_tup, formR, w2, w3]
  | .name i, n + 1, K, F, Z, _, _, hF, w, _ => by
    have w : i ∈ F := w
    have w3 : ¬ i < 0 := by have := hF i w; omega
    simp [Sy.d, Sy.tag, form_tup, formR, w, w3]
  | .two c l r, n + 1, K, F, Z, h, hK, hF, w, q => by
    obtain ⟨w1, w2⟩ : Wf a b K F l ∧ Wf a b K F r := w
    have h : max l.depth r.depth + 1 ≤ n + 1 := h
    rw [ar_two] at q
    obtain ⟨q1, q2⟩ := new_app.mp q
    have e1 := form_of_sy l n K F Z (by omega) hK hF w1 q1
    have e2 := form_of_sy r n K F (Z ++ l.ar) (by omega) hK hF w2 q2
    cases c <;> simp [Sy.d, Sy.tag, form_tup, formB, e1, e2]
  | .step c i x, n + 1, K, F, Z, h, hK, hF, w, q => by
    obtain ⟨w1, w2, w3⟩ : 0 ≤ i ∧ i < b ∧ Wf a b K K x := w
    have h : x.depth + 1 ≤ n + 1 := h
    rw [ar_step] at q
    have e1 := form_of_sy x n K K Z (by omega) hK hK w3 q
    have w4 : ¬ i < 0 := by omega
    cases c <;> simp [Sy.d, Sy.tag, form_tup, formR, formT, e1, w2, w4]
  | .fix c i x, n + 1, K, F, Z, h, hK, hF, w, q => by
    obtain ⟨w1, w2, w3⟩ : 0 ≤ i ∧ i ≤ 19 ∧ Wf a b (K ++ [i]) F x := w
    have h : x.depth + 1 ≤ n + 1 := h
    rw [ar_fix] at q
    obtain ⟨q1, q2⟩ := new_cons.mp q
    have e1 := form_of_sy x n (K ++ [i]) F (Z ++ [i]) (by omega) (hK.add w1 w2) hF w3 q2
    have w4 : ¬ i < 0 := by omega
    cases c <;> simp [Sy.d, Sy.tag, form_tup, formR, formT, e1, w2, w4, q1]
theorem sy_of_form : ∀ (n : Nat) (v : D) (K F Z : List Int), (form a b n v K F Z).1 = true → ∃ s : Sy, v = s.d ∧ Wf a b K F s ∧ New Z s.ar ∧ (form a b n v K F Z).2 = Z ++ s.ar
  | 0, _, _, _, _, h => by cases h
  | n + 1, v, K, F, Z, h => by
    by_cases c : ∃ s r, v = .tup (.str s :: r)
    rotate_left
    · rw [form_no fun s r e => c ⟨s, r, e⟩] at h
      cases h
    obtain ⟨t, r, rfl⟩ := c
    rw [form_tup] at h ⊢
    by_cases c1 : t = "yes" ∨ t = "no"
    · simp only [c1, if_true, decide_eq_true_eq] at h ⊢
      subst h
      rcases c1 with rfl | rfl
      · exact ⟨.yes true, rfl, trivial, new_nil, by simp⟩
      · exact ⟨.yes false, rfl, trivial, new_nil, by simp⟩
    by_cases c2 : t = "both" ∨ t = "either"
    · simp only [c1, c2, if_true, if_false] at h ⊢
      unfold formB at h ⊢
      split at h
      · rename_i x y
        split at h
        · rename_i hx
          obtain ⟨l, rfl, w1, q1, e1⟩ := sy_of_form n x K F Z hx
          obtain ⟨m, rfl, w2, q2, e2⟩ := sy_of_form n y K F _ h
          rw [if_pos hx, e2, e1]
          rw [e1] at q2
          rcases c2 with rfl | rfl
          · exact ⟨.two true l m, rfl, ⟨w1, w2⟩, by rw [ar_two]; exact new_app.mpr ⟨q1, q2⟩, by rw [ar_two, List.append_assoc]⟩
          · exact ⟨.two false l m, rfl, ⟨w1, w2⟩, by rw [ar_two]; exact new_app.mpr ⟨q1, q2⟩, by rw [ar_two, List.append_assoc]⟩
        · cases h
      · cases h
    simp only [c1, c2, if_false] at h ⊢
    unfold formR at h ⊢
    split at h
    · rename_i i r2
      by_cases c3 : i < 0
      · simp [c3] at h
      by_cases c4 : t = "is" ∨ t = "isnt"
      · simp only [c3, c4, if_true, if_false, decide_eq_true_eq] at h ⊢
        obtain ⟨rfl, h⟩ := h
        rcases c4 with rfl | rfl
        · exact ⟨.is true i, rfl, ⟨by omega, h⟩, new_nil, by simp⟩
        · exact ⟨.is false i, rfl, ⟨by omega, h⟩, new_nil, by simp⟩
      by_cases c5 : t = "name"
      · rw [if_neg c3, if_neg c4, if_pos c5] at h ⊢
        obtain ⟨rfl, h2⟩ := of_decide_eq_true h
        subst c5
        exact ⟨.name i, rfl, h2, new_nil, by simp⟩
      simp only [c3, c4, c5, if_false] at h ⊢
      unfold formT at h ⊢
      split at h
      · rename_i x
        by_cases c6 : t = "some" ∨ t = "all"
        · simp only [c6, if_true] at h ⊢
          by_cases c7 : i < b
          · simp only [c7, if_true] at h ⊢
            obtain ⟨s, rfl, w, q, e⟩ := sy_of_form n x K K Z h
            rcases c6 with rfl | rfl
            · exact ⟨.step true i s, rfl, ⟨by omega, c7, w⟩, by rw [ar_step]; exact q, by rw [ar_step]; exact e⟩
            · exact ⟨.step false i s, rfl, ⟨by omega, c7, w⟩, by rw [ar_step]; exact q, by rw [ar_step]; exact e⟩
          · simp [c7] at h
        · simp only [c6, if_false] at h ⊢
          by_cases c7 : (t = "least" ∨ t = "greatest") ∧ i ≤ 19 ∧ i ∉ Z
          · simp only [c7, not_false_eq_true, and_self, if_true] at h ⊢
            obtain ⟨s, rfl, w, q, e⟩ := sy_of_form n x _ _ _ h
            obtain ⟨c8, c9, c10⟩ := c7
            rcases c8 with rfl | rfl
            · exact ⟨.fix true i s, rfl, ⟨by omega, c9, w⟩, by rw [ar_fix]; exact new_cons.mpr ⟨c10, q⟩, by rw [ar_fix, e, List.append_assoc]; rfl⟩
            · exact ⟨.fix false i s, rfl, ⟨by omega, c9, w⟩, by rw [ar_fix]; exact new_cons.mpr ⟨c10, q⟩, by rw [ar_fix, e, List.append_assoc]; rfl⟩
          · simp only [c7, if_false] at h
            cases h
      · cases h
    · cases h
/-! the program's look -/
abbrev Tr := Sy × List Int × List Int
def encT (t : Tr) : Itm := (t.1.d, t.2.1, t.2.2)
def arT (T : List Tr) : List Int := T.flatMap fun t => t.1.ar
def szT (T : List Tr) : Nat := (T.map fun t => t.1.size).sum
@[simp] theorem arT_nil : arT [] = [] := rfl
@[simp] theorem arT_cons {t : Tr} {T : List Tr} : arT (t :: T) = t.1.ar ++ arT T := rfl
@[simp] theorem szT_nil : szT [] = 0 := rfl
@[simp] theorem szT_cons {t : Tr} {T : List Tr} : szT (t :: T) = t.1.size + szT T := by simp [szT]
def GoodT (a b : Int) (T : List Tr) : Prop := ∀ t ∈ T, Wf a b t.2.1 t.2.2 t.1 ∧ Rng t.2.1 ∧ Rng t.2.2
theorem good_cons {t : Tr} {T : List Tr} : GoodT a b (t :: T) ↔ (Wf a b t.2.1 t.2.2 t.1 ∧ Rng t.2.1 ∧ Rng t.2.2) ∧ GoodT a b T := by
  unfold GoodT
  simp
theorem size_two {c : Bool} {l r : Sy} : (Sy.two c l r).size = l.size + r.size + 1 := by simp [Sy.size, Sy.parts]
theorem size_step {c : Bool} {i : Int} {x : Sy} : (Sy.step c i x).size = x.size + 1 := by simp [Sy.size, Sy.parts]
theorem size_fix {c : Bool} {i : Int} {x : Sy} : (Sy.fix c i x).size = x.size + 1 := by simp [Sy.size, Sy.parts]
theorem swap_ar {l r m : List Int} : (l ++ r ++ m).Perm (r ++ (l ++ m)) := by
  rw [List.append_assoc]
  exact List.perm_append_comm_assoc _ _ _
theorem say_of_sy : ∀ (n : Nat) (T : List Tr) (bd : List Int), szT T ≤ n → GoodT a b T → New bd (arT T) → sayLoop a b n bd (T.map encT) = true
  | n, [], bd, _, _, _ => by cases n <;> rfl
  | 0, (s, k, f) :: T, bd, h, _, _ => by have := s.size_pos; simp at h; omega
  | n + 1, (s, k, f) :: T, bd, h, g0, q => by
    obtain ⟨⟨w, hk, hf⟩, g⟩ := good_cons.mp g0
    rw [szT_cons] at h
    rw [arT_cons] at q
    dsimp only at w hk hf h q
    show (match sayStep a b bd s.d k f with
      | none => false
      | some (xs, bd', k', f') => sayLoop a b n bd' (push xs k' f' (T.map encT))) = true
    cases s with
    | yes c =>
      have e : sayStep a b bd (Sy.yes c).d k f = some ([], bd, k, f) := by cases c <;> simp [Sy.d, Sy.tag, sayStep, kids, nameOf]
      rw [e]
      exact say_of_sy n T bd (by have := (Sy.yes c).size_pos; omega) g (by simpa using q)
    | is c i =>
      obtain ⟨w1, w2⟩ : 0 ≤ i ∧ i < a := w
      have e : sayStep a b bd (Sy.is c i).d k f = some ([], bd, k, f) := by cases c <;> simp [Sy.d, Sy.tag, sayStep, kids, kidsR, nameOf, mostOf, w1, w2]
      rw [e]
      exact say_of_sy n T bd (by have := (Sy.is c i).size_pos; omega) g (by simpa using q)
    | name i =>
      have w : i ∈ f := w
      have w1 := (hf i w).1
      have w2 : i < 20 := by have := (hf i w).2; omega
      have e : sayStep a b bd (Sy.name i).d k f = some ([], bd, k, f) := by simp [Sy.d, Sy.tag, sayStep, kids, kidsR, nameOf, mostOf, argOf, w, w1, w2]
      rw [e]
      exact say_of_sy n T bd (by have := (Sy.name i).size_pos; omega) g (by simpa using q)
    | two c l r =>
      obtain ⟨w1, w2⟩ : Wf a b k f l ∧ Wf a b k f r := w
      have e : sayStep a b bd (Sy.two c l r).d k f = some ([l.d, r.d], bd, k, f) := by cases c <;> simp [Sy.d, Sy.tag, sayStep, kids, nameOf]
      rw [e]
      rw [size_two] at h
      rw [ar_two] at q
      exact say_of_sy n ((r, k, f) :: (l, k, f) :: T) bd (by simp; omega) (good_cons.mpr ⟨⟨w2, hk, hf⟩, good_cons.mpr ⟨⟨w1, hk, hf⟩, g⟩⟩) (by simp; exact new_perm swap_ar q)
    | step c i x =>
      obtain ⟨w1, w2, w3⟩ : 0 ≤ i ∧ i < b ∧ Wf a b k k x := w
      have e : sayStep a b bd (Sy.step c i x).d k f = some ([x.d], bd, k, k) := by cases c <;> simp [Sy.d, Sy.tag, sayStep, kids, kidsR, nameOf, mostOf, oneD, w1, w2]
      rw [e]
      rw [size_step] at h
      rw [ar_step] at q
      exact say_of_sy n ((x, k, k) :: T) bd (by simp; omega) (good_cons.mpr ⟨⟨w3, hk, hk⟩, g⟩) (by simpa using q)
    | fix c i x =>
      obtain ⟨w1, w2, w3⟩ : 0 ≤ i ∧ i ≤ 19 ∧ Wf a b (k ++ [i]) f x := w
      have w4 : i < 20 := by omega
      rw [ar_fix] at q
      obtain ⟨q1, q2⟩ := new_cons.mp (show New bd (i :: (x.ar ++ arT T)) from q)
      have e : sayStep a b bd (Sy.fix c i x).d k f = some ([x.d], bd ++ [i], k ++ [i], f) := by cases c <;> simp [Sy.d, Sy.tag, sayStep, kids, kidsR, nameOf, mostOf, oneD, argOf, w1, w4, q1]
      rw [e]
      rw [size_fix] at h
      exact say_of_sy n ((x, k ++ [i], f) :: T) (bd ++ [i]) (by simp; omega) (good_cons.mpr ⟨⟨w3, hk.add w1 w2, hf⟩, g⟩) (by simpa using q2)
theorem kids_tup {t : String} {r : List D} : kids a b (.tup (.str t :: r)) = if t = "" then none else if t = "yes" ∨ t = "no" then (if r = [] then some [] else none) else if t = "both" ∨ t = "either" then (if r.length = 2 then some r else none) else kidsR a b t r := rfl
theorem sy_of_say : ∀ (n : Nat) (bd : List Int) (W : List Itm), sayLoop a b n bd W = true → ∃ T : List Tr, W = T.map encT ∧ (∀ t ∈ T, Wf a b t.2.1 t.2.2 t.1) ∧ szT T ≤ n ∧ New bd (arT T)
  | n, bd, [], _ => ⟨[], rfl, by simp, by simp, new_nil⟩
  | 0, bd, _ :: _, h => by cases h
  | n + 1, bd, (v, k, f) :: W, h => by
    have h : (match sayStep a b bd v k f with
      | none => false
      | some (xs, bd', k', f') => sayLoop a b n bd' (push xs k' f' W)) = true := h
    -- one tree more
    have put : ∀ (s : Sy) (T : List Tr) (bd : List Int), v = s.d → W = T.map encT → Wf a b k f s → (∀ t ∈ T, Wf a b t.2.1 t.2.2 t.1) → s.size + szT T ≤ n + 1 → New bd (s.ar ++ arT T) →
        ∃ T : List Tr, (v, k, f) :: W = T.map encT ∧ (∀ t ∈ T, Wf a b t.2.1 t.2.2 t.1) ∧ szT T ≤ n + 1 ∧ New bd (arT T) := by
      intro s T bd e1 e2 w g z q
      subst e1 e2
      refine ⟨(s, k, f) :: T, rfl, fun t ht => ?_, by simpa using z, by simpa using q⟩
      rcases List.mem_cons.mp ht with e | ht
      · rw [e]; exact w
      · exact g t ht
    by_cases c : ∃ s r, v = .tup (.str s :: r)
    rotate_left
    · have e : kids a b v = none := by
        unfold kids
        split
        · exact absurd ⟨_, _, rfl⟩ c
        · rfl
      unfold sayStep at h
      rw [e] at h
      cases h
    obtain ⟨t, r, rfl⟩ := c
    unfold sayStep at h
    rw [kids_tup] at h
    have en : nameOf (.tup (.str t :: r)) = t := rfl
    rw [en] at h
    by_cases c0 : t = ""
    · rw [if_pos c0] at h; cases h
    rw [if_neg c0] at h
    by_cases c1 : t = "yes" ∨ t = "no"
    · rw [if_pos c1] at h
      by_cases cr : r = []
      · subst cr
        rw [if_pos rfl] at h
        rcases c1 with rfl | rfl
        · obtain ⟨T, e, g, z, q⟩ := sy_of_say n bd W (by simpa [push] using h)
          exact put (.yes true) T bd rfl e trivial g (by show 1 + _ ≤ _; omega) q
        · obtain ⟨T, e, g, z, q⟩ := sy_of_say n bd W (by simpa [push] using h)
          exact put (.yes false) T bd rfl e trivial g (by show 1 + _ ≤ _; omega) q
      · rw [if_neg cr] at h; cases h
    rw [if_neg c1] at h
    by_cases c2 : t = "both" ∨ t = "either"
    · rw [if_pos c2] at h
      by_cases cr : r.length = 2
      rotate_left
      · rw [if_neg cr] at h; cases h
      rw [if_pos cr] at h
      obtain ⟨x, y, rfl⟩ : ∃ x y, r = [x, y] := by
        match r, cr with
        | [x, y], _ => exact ⟨x, y, rfl⟩
      have h : sayLoop a b n bd ((y, k, f) :: (x, k, f) :: W) = true := by
        rcases c2 with rfl | rfl <;> simpa [push] using h
      obtain ⟨T, e, g, z, q⟩ := sy_of_say n bd _ h
      match T, e with
      | (m, _, _) :: (l, _, _) :: T, e =>
        injection e with e1 e
        injection e with e2 e3
        injection e1 with e4 e1
        injection e1 with e5 e6
        injection e2 with e7 e2
        injection e2 with e8 e9
        dsimp only at e4 e5 e6 e7 e8 e9
        subst e4 e5 e6 e7
        have w1 := g _ List.mem_cons_self
        have w2 := g _ (List.mem_cons_of_mem _ List.mem_cons_self)
        dsimp only at w1 w2
        rw [← e8, ← e9] at w2
        simp at z q
        have go : ∀ u : Bool, t = (Sy.two u l m).tag → _ := fun u et => put (.two u l m) T bd (by rw [et]; rfl) e3 ⟨w2, w1⟩ (fun t ht => g t (List.mem_cons_of_mem _ (List.mem_cons_of_mem _ ht))) (by rw [size_two]; omega) (by rw [ar_two]; exact new_perm swap_ar.symm q)
        rcases c2 with rfl | rfl
        · exact go true rfl
        · exact go false rfl
    rw [if_neg c2] at h
    unfold kidsR at h
    cases r with
    | nil => cases h
    | cons y r2 =>
    cases y with
    | int i =>
      dsimp only at h
      by_cases c3 : 0 ≤ i ∧ i < mostOf a b t
      rotate_left
      · rw [if_neg c3] at h; cases h
      rw [if_pos c3] at h
      obtain ⟨i0, i1⟩ := c3
      have ea : argOf (.tup (.str t :: .int i :: r2)) = i := rfl
      rw [ea] at h
      by_cases c4 : t = "is" ∨ t = "isnt" ∨ t = "name"
      · rw [if_pos c4] at h
        by_cases cr : r2 = []
        rotate_left
        · rw [if_neg cr] at h; cases h
        subst cr
        rw [if_pos rfl] at h
        rcases c4 with rfl | rfl | rfl
        · obtain ⟨T, e, g, z, q⟩ := sy_of_say n bd W (by simpa [push] using h)
          exact put (.is true i) T bd rfl e ⟨i0, by simpa [mostOf] using i1⟩ g (by show 1 + _ ≤ _; omega) q
        · obtain ⟨T, e, g, z, q⟩ := sy_of_say n bd W (by simpa [push] using h)
          exact put (.is false i) T bd rfl e ⟨i0, by simpa [mostOf] using i1⟩ g (by show 1 + _ ≤ _; omega) q
        · by_cases cf : i ∈ f
          · obtain ⟨T, e, g, z, q⟩ := sy_of_say n bd W (by simpa [push, cf] using h)
            exact put (.name i) T bd rfl e cf g (by show 1 + _ ≤ _; omega) q
          · simp [cf] at h
      rw [if_neg c4] at h
      by_cases c5 : t = "some" ∨ t = "all" ∨ t = "least" ∨ t = "greatest"
      rotate_left
      · rw [if_neg c5] at h; cases h
      rw [if_pos c5] at h
      match r2, h with
      | [], h => cases h
      | _ :: _ :: _, h => cases h
      | [x], h =>
        by_cases c6 : t = "some" ∨ t = "all"
        · have h : sayLoop a b n bd ((x, k, k) :: W) = true := by
            rcases c6 with rfl | rfl <;> simpa [push, oneD] using h
          obtain ⟨T, e, g, z, q⟩ := sy_of_say n bd _ h
          match T, e with
          | (m, _, _) :: T, e =>
            injection e with e1 e3
            injection e1 with e4 e1
            injection e1 with e5 e6
            dsimp only at e4 e5 e6
            subst e4
            have w1 := g _ List.mem_cons_self
            dsimp only at w1
            rw [← e5, ← e6] at w1
            simp at z q
            have go : ∀ u : Bool, t = (Sy.step u i m).tag → i < b → _ := fun u et hb => put (.step u i m) T bd (by rw [et]; rfl) e3 ⟨i0, hb, w1⟩ (fun t ht => g t (List.mem_cons_of_mem _ ht)) (by rw [size_step]; omega) (by rw [ar_step]; exact q)
            rcases c6 with rfl | rfl
            · exact go true rfl (by simpa [mostOf] using i1)
            · exact go false rfl (by simpa [mostOf] using i1)
        · have c7 : t = "least" ∨ t = "greatest" := by
            rcases c5 with c | c | c | c
            · exact absurd (.inl c) c6
            · exact absurd (.inr c) c6
            · exact .inl c
            · exact .inr c
          have i2 : i ≤ 19 := by
            have : i < 20 := by rcases c7 with rfl | rfl <;> simpa [mostOf] using i1
            omega
          by_cases cb : i ∈ bd
          · rcases c7 with rfl | rfl <;> simp [cb, oneD] at h
          have h : sayLoop a b n (bd ++ [i]) ((x, k ++ [i], f) :: W) = true := by
            rcases c7 with rfl | rfl <;> simpa [push, oneD, cb] using h
          obtain ⟨T, e, g, z, q⟩ := sy_of_say n _ _ h
          match T, e with
          | (m, _, _) :: T, e =>
            injection e with e1 e3
            injection e1 with e4 e1
            injection e1 with e5 e6
            dsimp only at e4 e5 e6
            subst e4
            have w1 := g _ List.mem_cons_self
            dsimp only at w1
            rw [← e5, ← e6] at w1
            simp at z q
            have go : ∀ u : Bool, t = (Sy.fix u i m).tag → _ := fun u et => put (.fix u i m) T bd (by rw [et]; rfl) e3 ⟨i0, i2, w1⟩ (fun t ht => g t (List.mem_cons_of_mem _ ht)) (by rw [size_fix]; omega) (by rw [ar_fix]; exact new_cons.mpr ⟨cb, q⟩)
            rcases c7 with rfl | rfl
            · exact go true rfl
            · exact go false rfl
    | _ => cases h
/-- the two looks agree -/
theorem form_iff {n : Nat} {v : D} : (form a b n v [] [] []).1 = true ↔ ∃ s : Sy, v = s.d ∧ Wf a b [] [] s ∧ s.ar.Nodup ∧ (form a b n v [] [] []).1 = true := by
  constructor
  · intro h
    obtain ⟨s, e, w, q, _⟩ := sy_of_form n v [] [] [] h
    exact ⟨s, e, w, q.1, h⟩
  · rintro ⟨_, _, _, _, h⟩
    exact h
theorem say_iff {v : D} : saying a b v = true ↔ ∃ s : Sy, v = s.d ∧ Wf a b [] [] s ∧ s.ar.Nodup ∧ s.size ≤ 40 := by
  constructor
  · intro h
    obtain ⟨T, e, g, z, q⟩ := sy_of_say 40 [] [(v, [], [])] h
    match T, e with
    | [(s, k, f)], e =>
      injection e with e1 e2
      injection e1 with e3 e1
      injection e1 with e4 e5
      dsimp only at e3 e4 e5
      have w := g _ List.mem_cons_self
      dsimp only at w
      rw [← e4, ← e5] at w
      simp at z q
      exact ⟨s, e3, w, q.1, z⟩
  · rintro ⟨s, rfl, w, q, z⟩
    refine say_of_sy 40 [(s, [], [])] [] (by simpa using z) ?_ (by simpa using ⟨q, by simp⟩)
    exact good_cons.mpr ⟨⟨w, rng_nil, rng_nil⟩, fun t ht => by cases ht⟩
theorem sy_dep : ∀ s : Sy, s.depth = s.d.dep
  | .yes _ => by simp [Sy.depth, Sy.d, D.dep]
  | .is _ _ => by simp [Sy.depth, Sy.d, D.dep]
  | .name _ => by simp [Sy.depth, Sy.d, D.dep]
  | .two _ l r => by
    have h1 := sy_dep l
    have h2 := sy_dep r
    have e : ∀ z, (D.str z).dep = 0 := fun _ => rfl
    simp [Sy.depth, Sy.d, e, h1, h2]
  | .step _ i x => by
    have h1 := sy_dep x
    have e : ∀ z, (D.str z).dep = 0 := fun _ => rfl
    have e2 : ∀ z, (D.int z).dep = 0 := fun _ => rfl
    simp [Sy.depth, Sy.d, e, e2, h1]
  | .fix _ i x => by
    have h1 := sy_dep x
    have e : ∀ z, (D.str z).dep = 0 := fun _ => rfl
    have e2 : ∀ z, (D.int z).dep = 0 := fun _ => rfl
    simp [Sy.depth, Sy.d, e, e2, h1]
/-- a saying, by the law's form and size -/
theorem say_good {n : Nat} {s : Sy} (h : s.d.dep ≤ n) (hs : (form a b n s.d [] [] []).1 = true) : saying a b s.d = decide ((s.size : Int) < 41) := by
  obtain ⟨s', e, w, q, _⟩ := sy_of_form n _ [] [] [] hs
  obtain rfl := sy_inj e
  by_cases c : s.size ≤ 40
  · rw [say_iff.mpr ⟨s, rfl, w, q.1, c⟩]
    exact (decide_eq_true (by omega)).symm
  · have : saying a b s.d ≠ true := fun z => by
      obtain ⟨s2, e2, _, _, z⟩ := say_iff.mp z
      obtain rfl := sy_inj e2
      exact c z
    rw [Bool.not_eq_true _ |>.mp this]
    exact (decide_eq_false (by omega)).symm
theorem say_bad {n : Nat} {v : D} (h : v.dep ≤ n) (hs : (form a b n v [] [] []).1 = false) : saying a b v = false := by
  refine Bool.not_eq_true _ |>.mp fun z => ?_
  obtain ⟨s, rfl, w, q, _⟩ := say_iff.mp z
  rw [form_of_sy s n [] [] [] (by rw [sy_dep]; exact h) rng_nil rng_nil w ⟨q, by simp⟩] at hs
  cases hs
end
end Y

namespace Y
open PySem PySem.Spec L2
/-! ### how long a value is when shown -/
theorem digits_len : ∀ (fuel n : Nat) (ds : List Char), (Nat.toDigitsCore 10 fuel n ds).length ≤ ds.length + fuel
  | 0, _, ds => by simp [Nat.toDigitsCore]
  | fuel + 1, n, ds => by
    unfold Nat.toDigitsCore
    dsimp only
    split
    · simp
    · have := digits_len fuel (n / 10) (Nat.digitChar (n % 10) :: ds)
      simp at this
      omega
theorem nat_len (n : Nat) : (Nat.repr n).length ≤ n + 1 := by
  unfold Nat.repr
  rw [String.length_ofList]
  have := digits_len (n + 1) n []
  simpa [Nat.toDigits] using this
theorem int_len (i : Int) : (toString i).length ≤ i.natAbs + 3 := by
  cases i with
  | ofNat n =>
    have := nat_len n
    show (Nat.repr n).length ≤ n + 3
    omega
  | negSucc n =>
    have := nat_len (n + 1)
    show ("-" ++ Nat.repr (n + 1)).length ≤ n + 1 + 3
    have e : "-".length = 1 := rfl
    rw [String.length_append, e]
    omega
theorem str_app_len (x y : Str) : (x ++ y).length = x.length + y.length := by
  show (x.cps ++ y.cps).size = x.cps.size + y.cps.size
  exact Array.size_append
theorem tuple_len (ts : List Str) : (tupleText ts).length ≤ piled ts + 3 := by
  unfold tupleText
  rw [str_app_len, str_app_len, ofS_len, ofS_len]
  have e1 : "(".length = 1 := rfl
  have e2 : (if (ts.length == 1) = true then ",)" else ")" : String).length ≤ 2 := by split <;> decide
  have e3 : (Str.join ", " ts).length ≤ piled ts := by
    by_cases c : ts = []
    · subst c
      exact Nat.zero_le _
    · have := join_length_add ts c
      omega
  omega
theorem from_len : ∀ (ts : List Str) (k : Nat) (acc : Str), (textFrom k acc ts).length ≤ acc.length + piled ts
  | [], _, _ => by simp [textFrom, piled_nil]
  | t :: ts, k, acc => by
    have h := from_len ts (k + 1) (acc ++ (if k > 0 then ", " else "" : String) ++ t)
    rw [piled_cons]
    rw [str_app_len, str_app_len, ofS_len] at h
    have e : (if k > 0 then ", " else "" : String).length ≤ 2 := by split <;> decide
    show (textFrom (k + 1) (acc ++ (if k > 0 then ", " else "" : String) ++ t) ts).length ≤ _
    omega
theorem list_len (ts : List Str) : (listText ts).length ≤ piled ts + 2 := by
  unfold listText
  have h := from_len ts 0 "["
  rw [ofS_len] at h
  have e1 : "[".length = 1 := rfl
  have e2 : "]".length = 1 := rfl
  rw [str_app_len, ofS_len, e2]
  omega
theorem repr_len (s : String) : (reprText (Str.ofString s)).length ≤ 10 * s.length + 3 := by
  have h := StrLaws.reprText_len (Str.ofString s) ?_
  · rw [ofS_len] at h
    omega
  · intro c hc
    obtain ⟨a, e⟩ := vc_of s c hc
    have := char_lt a
    have e2 : (1114112 : Nat) ≤ 16 ^ 8 := by decide
    omega
theorem lens_lit : (Str.ofString "None").length ≤ 5 ∧ (Str.ofString "True").length ≤ 6 ∧ (Str.ofString "False").length ≤ 6 := by decide +kernel
mutual
theorem shown_D : ∀ {n : Nat} {d : D}, D.pl n d = true → (pyD d).shown.length ≤ d.wt
  | _, .non, _ => by rw [pyD, PyData.shown, D.wt]; exact lens_lit.1
  | _, .bl b, _ => by rw [pyD, PyData.shown, D.wt]; cases b; exact lens_lit.2.2; exact lens_lit.2.1
  | _, .int i, _ => by rw [pyD, PyData.shown, D.wt, ofS_len]; exact int_len i
  | _, .str s, _ => by rw [pyD, PyData.shown, D.wt]; exact repr_len s
  | 0, .tup _, h => by simp [D.pl] at h
  | n + 1, .tup xs, h => by
    have ih := shown_Ds (n := n) (ds := xs) (by simpa [D.pl] using h)
    rw [pyD, PyData.shown, D.wt]
    have := tuple_len (PyData.shownAll (pyDs xs))
    omega
  | n, .loc _, h => by cases n <;> simp [D.pl] at h
  | n, .scr _, h => by cases n <;> simp [D.pl] at h
theorem shown_Ds : ∀ {n : Nat} {ds : List D}, D.pls n ds = true → piled (PyData.shownAll (pyDs ds)) ≤ D.wts ds
  | _, [], _ => by rw [pyDs, PyData.shownAll, piled_nil]; exact Nat.zero_le _
  | n, x :: xs, h => by
    rw [p_cons, Bool.and_eq_true] at h
    have h1 := shown_D h.1
    have h2 := shown_Ds h.2
    rw [pyDs, PyData.shownAll, piled_cons, D.wts]
    omega
end
section
variable {S : Store} {m : Nat}
mutual
theorem shown_V : ∀ {d : D}, Vb S m d → (pyV S d).shown.length ≤ d.wt + d.nl * (m + 2)
  | .non, _ => by rw [pyV, PyData.shown, D.wt]; have := lens_lit.1; omega
  | .bl b, _ => by
    rw [pyV, PyData.shown, D.wt]
    have h1 := lens_lit.2.1
    have h2 := lens_lit.2.2
    cases b
    · show (Str.ofString "False").length ≤ _; omega
    · show (Str.ofString "True").length ≤ _; omega
  | .int i, _ => by rw [pyV, PyData.shown, D.wt, ofS_len]; have := int_len i; omega
  | .str s, _ => by rw [pyV, PyData.shown, D.wt]; have := repr_len s; omega
  | .tup xs, h => by
    rw [vb_tup] at h
    have ih := shown_Vs h
    rw [pyV, PyData.shown, D.wt, nl_tup]
    have := tuple_len (PyData.shownAll (pyVs S xs))
    omega
  | .loc a, h => by
    rw [vb_loc] at h
    obtain ⟨xs, e, q, w⟩ := h
    have e2 : pyV S (.loc a) = .list (pyDs xs) := by rw [pyV, e]
    have e3 : D.nl (.loc a) = 1 := rfl
    rw [e2, PyData.shown, D.wt, e3]
    have h1 := shown_Ds q
    have h2 := list_len (PyData.shownAll (pyDs xs))
    omega
  | .scr _, h => by rw [Vb] at h; exact h.elim
theorem shown_Vs : ∀ {ds : List D}, Vbs S m ds → piled (PyData.shownAll (pyVs S ds)) ≤ D.wts ds + D.nls ds * (m + 2)
  | [], _ => by rw [pyVs, PyData.shownAll, piled_nil]; exact Nat.zero_le _
  | x :: xs, h => by
    rw [vbs_cons] at h
    have h1 := shown_V h.1
    have h2 := shown_Vs h.2
    rw [pyVs, PyData.shownAll, piled_cons, D.wts, nls_cons, Nat.add_mul]
    omega
end
theorem log_ok {n : Nat} (h : n < 2 ^ 64) : n.log2 < 1920 := by
  by_cases c : n = 0
  · subst c; decide
  · have := (Nat.log2_lt c).mpr h
    omega
mutual
theorem able_D : ∀ {d : D}, d.wt ≤ 1000000 → (pyD d).showable = true
  | .non, _ => by rw [pyD, PyData.showable]
  | .bl b, _ => by rw [pyD, PyData.showable]
  | .int i, h => by
    rw [D.wt] at h
    rw [pyD, PyData.showable]
    exact decide_eq_true (log_ok (by omega))
  | .str s, _ => by rw [pyD, PyData.showable]
  | .tup xs, h => by rw [D.wt] at h; rw [pyD, PyData.showable]; exact able_Ds (by omega)
  | .loc _, _ => by rw [pyD, PyData.showable]
  | .scr _, _ => by rw [pyD, PyData.showable]
theorem able_Ds : ∀ {ds : List D}, D.wts ds ≤ 1000000 → PyData.showableAll (pyDs ds) = true
  | [], _ => by rw [pyDs, PyData.showableAll]
  | x :: xs, h => by
    rw [D.wts] at h
    rw [pyDs, PyData.showableAll, able_D (by omega), able_Ds (by omega)]
    rfl
end
mutual
theorem able_V (hm : m ≤ 1000000) : ∀ {d : D}, Vb S m d → d.wt ≤ 1000000 → (pyV S d).showable = true
  | .non, _, _ => by rw [pyV, PyData.showable]
  | .bl b, _, _ => by rw [pyV, PyData.showable]
  | .int i, _, h => by
    rw [D.wt] at h
    rw [pyV, PyData.showable]
    exact decide_eq_true (log_ok (by omega))
  | .str s, _, _ => by rw [pyV, PyData.showable]
  | .tup xs, v, h => by rw [vb_tup] at v; rw [D.wt] at h; rw [pyV, PyData.showable]; exact able_Vs hm v (by omega)
  | .loc a, v, _ => by
    rw [vb_loc] at v
    obtain ⟨xs, e, q, w⟩ := v
    have e2 : pyV S (.loc a) = .list (pyDs xs) := by rw [pyV, e]
    rw [e2, PyData.showable]
    exact able_Ds (by omega)
  | .scr _, _, _ => by rw [pyV, PyData.showable]
theorem able_Vs (hm : m ≤ 1000000) : ∀ {ds : List D}, Vbs S m ds → D.wts ds ≤ 1000000 → PyData.showableAll (pyVs S ds) = true
  | [], _, _ => by rw [pyVs, PyData.showableAll]
  | x :: xs, v, h => by
    rw [vbs_cons] at v
    rw [D.wts] at h
    rw [pyVs, PyData.showableAll, able_V hm v.1 (by omega), able_Vs hm v.2 (by omega)]
    rfl
end
mutual
theorem depth_V : ∀ {d : D}, Vb S m d → (pyV S d).depth ≤ d.dep + 101
  | .non, _ => by rw [pyV, PyData.depth]; exact Nat.zero_le _
  | .bl b, _ => by rw [pyV, PyData.depth]; exact Nat.zero_le _
  | .int i, _ => by rw [pyV, PyData.depth]; exact Nat.zero_le _
  | .str s, _ => by rw [pyV, PyData.depth]; exact Nat.zero_le _
  | .tup xs, v => by
    rw [vb_tup] at v
    have := depth_Vs v
    rw [pyV, PyData.depth, D.dep]
    omega
  | .loc a, v => by
    rw [vb_loc] at v
    obtain ⟨xs, e, q, w⟩ := v
    have e2 : pyV S (.loc a) = .list (pyDs xs) := by rw [pyV, e]
    have := (pys_lay 100 xs q).2
    rw [e2, PyData.depth]
    omega
  | .scr _, v => by rw [Vb] at v; exact v.elim
theorem depth_Vs : ∀ {ds : List D}, Vbs S m ds → PyData.depthAll (pyVs S ds) ≤ D.deps ds + 101
  | [], _ => by rw [pyVs, PyData.depthAll]; exact Nat.zero_le _
  | x :: xs, v => by
    rw [vbs_cons] at v
    have h1 := depth_V v.1
    have h2 := depth_Vs v.2
    rw [pyVs, PyData.depthAll, D.deps]
    omega
end
mutual
theorem okV_of : ∀ {d : D}, Vb S m d → okV S d = true
  | .non, _ => by rw [okV]
  | .bl b, _ => by rw [okV]
  | .int i, _ => by rw [okV]
  | .str s, _ => by rw [okV]
  | .tup xs, v => by rw [vb_tup] at v; rw [okV]; exact okVs_of v
  | .loc a, v => by
    rw [vb_loc] at v
    obtain ⟨xs, e, q, w⟩ := v
    rw [okV, e]
    exact q
  | .scr _, v => by rw [Vb] at v; exact v.elim
theorem okVs_of : ∀ {ds : List D}, Vbs S m ds → okVs S ds = true
  | [], _ => by rw [okVs]
  | x :: xs, v => by
    rw [vbs_cons] at v
    rw [okVs, okV_of v.1, okVs_of v.2]
    rfl
end
/-- repr of a bent value -/
theorem repr_go {d : D} {R : DVK} (v : Vb S m d) (hm : m ≤ 500000) (hw : d.wt ≤ 500000) (hn : d.nl ≤ 1) (hd : d.dep ≤ 40) (h : ∀ t, Str.ofString t = (pyV S d).shown → R (.str t) S) : reprW d S R := by
  refine ⟨okV_of v, able_V (by omega) v (by omega), by have := depth_V v; omega, ?_, h⟩
  have h1 := shown_V v
  have h2 : d.nl * (m + 2) ≤ 1 * (m + 2) := Nat.mul_le_mul_right _ hn
  have e : (1000002 : Nat) ≤ sizeLine := by decide
  omega
mutual
theorem vl_vb : ∀ {d : D}, Vb S m d → Vl S d
  | .non, _ => by simp
  | .bl b, _ => by simp
  | .int i, _ => by simp
  | .str s, _ => by simp
  | .tup xs, v => by rw [vb_tup] at v; rw [vl_tup]; exact vls_vbs v
  | .loc a, v => by
    rw [vb_loc] at v
    obtain ⟨xs, e, q, w⟩ := v
    rw [vl_loc]
    exact ⟨xs, e⟩
  | .scr _, v => by rw [Vb] at v; exact v.elim
theorem vls_vbs : ∀ {ds : List D}, Vbs S m ds → Vls S ds
  | [], _ => by simp
  | x :: xs, v => by
    rw [vbs_cons] at v
    rw [vls_cons]
    exact ⟨vl_vb v.1, vls_vbs v.2⟩
end
mutual
theorem sz_wt : ∀ d : D, d.sz ≤ d.wt
  | .non => by rw [D.sz, D.wt] <;> simp
  | .bl b => by rw [D.sz, D.wt] <;> simp
  | .int i => by rw [D.sz, D.wt] <;> simp
  | .str s => by rw [D.sz, D.wt] <;> simp
  | .tup xs => by rw [D.sz, D.wt]; have := szs_wts xs; omega
  | .loc _ => by rw [D.sz, D.wt] <;> simp
  | .scr _ => by rw [D.sz, D.wt] <;> simp
theorem szs_wts : ∀ ds : List D, D.szs ds ≤ D.wts ds
  | [] => by rw [D.szs, D.wts]; exact Nat.le_refl _
  | x :: xs => by
    have h1 := sz_wt x
    have h2 := szs_wts xs
    rw [D.szs, D.wts]
    omega
end
end
end Y

namespace Y
open PySem PySem.Spec L2
/-! ### sayings as data -/
theorem pl_sy : ∀ (s : Sy) {n : Nat}, s.depth ≤ n → D.pl n s.d = true
  | s, 0, h => absurd h (by cases s <;> simp [Sy.depth])
  | .yes c, n + 1, _ => by simp [Sy.d, D.pl]
  | .is c i, n + 1, _ => by simp [Sy.d, D.pl]
  | .name i, n + 1, _ => by simp [Sy.d, D.pl]
  | .two c l r, n + 1, h => by
    have h : max l.depth r.depth + 1 ≤ n + 1 := h
    have h1 := pl_sy l (n := n) (by omega)
    have h2 := pl_sy r (n := n) (by omega)
    simp [Sy.d, D.pl, h1, h2]
  | .step c i x, n + 1, h => by
    have h : x.depth + 1 ≤ n + 1 := h
    have h1 := pl_sy x (n := n) (by omega)
    simp [Sy.d, D.pl, h1]
  | .fix c i x, n + 1, h => by
    have h : x.depth + 1 ≤ n + 1 := h
    have h1 := pl_sy x (n := n) (by omega)
    simp [Sy.d, D.pl, h1]
theorem tag_len (s : Sy) : s.tag.length ≤ 8 := by
  cases s with
  | name i =>
    show "name".length ≤ 8
    decide
  | yes c => cases c <;> simp [Sy.tag] <;> decide
  | is c i => cases c <;> simp [Sy.tag] <;> decide
  | two c l r => cases c <;> simp [Sy.tag] <;> decide
  | step c i x => cases c <;> simp [Sy.tag] <;> decide
  | fix c i x => cases c <;> simp [Sy.tag] <;> decide
theorem wt_str {z : String} : D.wt (.str z) = 10 * z.length + 3 := by rw [D.wt]
theorem wt_int {i : Int} : D.wt (.int i) = i.natAbs + 3 := by rw [D.wt]
theorem wt_sy {a b : Int} (ha : a ≤ 20) (hb : b ≤ 20) : ∀ (s : Sy) (K F : List Int), Wf a b K F s → Rng K → Rng F → s.d.wt ≤ 120 * s.size
  | .yes c, K, F, _, _, _ => by
    have h := tag_len (.yes c)
    have e : (Sy.yes c).size = 1 := rfl
    rw [e, Sy.d_eq]
    simp [Sy.body, wt_str]
    omega
  | .is c i, K, F, w, _, _ => by
    obtain ⟨w1, w2⟩ : 0 ≤ i ∧ i < a := w
    have h := tag_len (.is c i)
    have e : (Sy.is c i).size = 1 := rfl
    rw [e, Sy.d_eq]
    simp [Sy.body, wt_str, wt_int]
    omega
  | .name i, K, F, w, _, hF => by
    have w := hF i w
    have h := tag_len (.name i)
    have e : (Sy.name i).size = 1 := rfl
    rw [e, Sy.d_eq]
    simp [Sy.body, wt_str, wt_int]
    omega
  | .two c l r, K, F, w, hK, hF => by
    obtain ⟨w1, w2⟩ : Wf a b K F l ∧ Wf a b K F r := w
    have h1 := wt_sy ha hb l K F w1 hK hF
    have h2 := wt_sy ha hb r K F w2 hK hF
    have h := tag_len (.two c l r)
    rw [size_two, Sy.d_eq]
    simp [Sy.body, wt_str, wt_int]
    omega
  | .step c i x, K, F, w, hK, hF => by
    obtain ⟨w1, w2, w3⟩ : 0 ≤ i ∧ i < b ∧ Wf a b K K x := w
    have h1 := wt_sy ha hb x K K w3 hK hK
    have h := tag_len (.step c i x)
    rw [size_step, Sy.d_eq]
    simp [Sy.body, wt_str, wt_int]
    omega
  | .fix c i x, K, F, w, hK, hF => by
    obtain ⟨w1, w2, w3⟩ : 0 ≤ i ∧ i ≤ 19 ∧ Wf a b (K ++ [i]) F x := w
    have h1 := wt_sy ha hb x (K ++ [i]) F w3 (hK.add w1 w2) hF
    have h := tag_len (.fix c i x)
    rw [size_fix, Sy.d_eq]
    simp [Sy.body, wt_str, wt_int]
    omega
theorem eqds_self_of {n : Nat} (ih : ∀ x : D, D.pl n x = true → eqd x x = true) : ∀ xs : List D, D.pls n xs = true → eqds xs xs = true
  | [], _ => rfl
  | x :: xs, h => by
    rw [p_cons, Bool.and_eq_true] at h
    rw [eqds, ih x h.1, eqds_self_of ih xs h.2]
    rfl
theorem eqd_self : ∀ (n : Nat) (x : D), D.pl n x = true → eqd x x = true
  | _, .non, _ => rfl
  | _, .bl b, _ => by simp
  | _, .int b, _ => by simp
  | _, .str b, _ => by simp
  | 0, .tup xs, h => by simp [D.pl] at h
  | n + 1, .tup xs, h => by
    rw [eqd]
    exact eqds_self_of (eqd_self n) xs (by simpa [D.pl] using h)
  | n, .loc _, h => by cases n <;> simp [D.pl] at h
  | n, .scr _, h => by cases n <;> simp [D.pl] at h
/-- == of data that are the same -/
theorem eq_same {x : D} {S : Store} {B : Bool → Store → Prop} (h : D.pl 100 x = true) (k : B true S) : cmpW .eq x x S B := by
  show eqW x x S B
  have e := eqd_self 100 x h
  cases x with
  | loc a => simp [D.pl] at h
  | _ => exact ⟨h, h, by rw [e]; exact k⟩
theorem same_pl {S : Store} : ∀ (n : Nat) (x : D), D.pl n x = true → D.szs [x] ≤ 1000 → SameV S (n + 1) x x
  | _, .non, _, _ => .atom rfl
  | _, .bl b, _, _ => .atom rfl
  | _, .int b, _, _ => .atom rfl
  | _, .str b, _, _ => .atom rfl
  | 0, .tup xs, h, _ => by simp [D.pl] at h
  | n + 1, .tup xs, h, hz => by
    have h : D.pls n xs = true := by simpa [D.pl] using h
    have hl : ∀ ys : List D, ys.length ≤ D.szs ys := by
      intro ys
      induction ys with
      | nil => simp
      | cons y ys ih =>
        have : 1 ≤ y.sz := by cases y <;> simp [D.sz]
        simp
        omega
    have hm : ∀ (ys : List D) (y : D), y ∈ ys → y.sz ≤ D.szs ys := by
      intro ys
      induction ys with
      | nil => simp
      | cons z ys ih =>
        intro y hy
        rcases List.mem_cons.mp hy with rfl | hy
        · simp
        · have := ih y hy
          simp
          omega
    have := hl xs
    simp at hz
    refine .inr (.inl ⟨xs, xs, rfl, rfl, rfl, by omega, fun i u v hu hv => ?_⟩)
    rw [hu] at hv
    cases hv
    have hu := List.mem_of_getElem? hu
    have := hm xs u hu
    exact same_pl n u (pls_of.mp h u hu) (by simp; omega)
  | n, .loc _, h, _ => by cases n <;> simp [D.pl] at h
  | n, .scr _, h, _ => by cases n <;> simp [D.pl] at h
theorem SameV.up {S : Store} : ∀ {n m : Nat} {x y : D}, n ≤ m → SameV S n x y → SameV S m x y
  | 0, _, _, _, _, h => by cases h
  | n + 1, 0, _, _, h, _ => by omega
  | n + 1, m + 1, x, y, hnm, h => by
    rcases h with h | ⟨xs, ys, h1, h2, h3, h4, h5⟩ | ⟨a, b, xs, ys, h1, h2, h3, h4, h5, h6, h7⟩
    · exact .inl h
    · exact .inr (.inl ⟨xs, ys, h1, h2, h3, h4, fun i u v e1 e2 => SameV.up (by omega) (h5 i u v e1 e2)⟩)
    · exact .inr (.inr ⟨a, b, xs, ys, h1, h2, h3, h4, h5, h6, fun i u v e1 e2 => SameV.up (by omega) (h7 i u v e1 e2)⟩)
theorem sz_sy : ∀ s : Sy, s.d.sz ≤ 3 * s.size
  | .yes c => by simp [Sy.d, Sy.size, Sy.parts, D.sz]
  | .is c i => by simp [Sy.d, Sy.size, Sy.parts, D.sz]
  | .name i => by simp [Sy.d, Sy.size, Sy.parts, D.sz]
  | .two c l r => by
    have h1 := sz_sy l
    have h2 := sz_sy r
    have e : ∀ z, (D.str z).sz = 1 := fun _ => by rw [D.sz] <;> simp
    rw [size_two]
    simp [Sy.d, e]
    omega
  | .step c i x => by
    have h1 := sz_sy x
    have e : ∀ z, (D.str z).sz = 1 := fun _ => by rw [D.sz] <;> simp
    have e2 : ∀ z, (D.int z).sz = 1 := fun _ => by rw [D.sz] <;> simp
    rw [size_step]
    simp [Sy.d, e, e2]
    omega
  | .fix c i x => by
    have h1 := sz_sy x
    have e : ∀ z, (D.str z).sz = 1 := fun _ => by rw [D.sz] <;> simp
    have e2 : ∀ z, (D.int z).sz = 1 := fun _ => by rw [D.sz] <;> simp
    rw [size_fix]
    simp [Sy.d, e, e2]
    omega
mutual
theorem Vb.le {S S' : Store} {m : Nat} (l : Le S S') : ∀ {d : D}, Vb S m d → Vb S' m d
  | .tup xs, h => by rw [vb_tup] at h ⊢; exact Vbs.le l h
  | .loc a, h => by
    rw [vb_loc] at h ⊢
    obtain ⟨xs, e, q⟩ := h
    exact ⟨xs, l _ _ e, q⟩
  | .scr _, h => by rw [Vb] at h; exact h.elim
  | .non, _ => vb_non
  | .bl _, _ => vb_bl
  | .int _, _ => vb_int
  | .str _, _ => vb_str
theorem Vbs.le {S S' : Store} {m : Nat} (l : Le S S') : ∀ {d : List D}, Vbs S m d → Vbs S' m d
  | [], _ => vbs_nil
  | x :: xs, h => by rw [vbs_cons] at h ⊢; exact ⟨Vb.le l h.1, Vbs.le l h.2⟩
end
/-! dicts -/
theorem look_mem {k v : D} : ∀ {kvs : List (D × D)}, (kvs.map (·.1)).Nodup → (k, v) ∈ kvs → lookD kvs k = some v
  | (k', v') :: r, nd, h => by
    rw [List.map_cons, List.nodup_cons] at nd
    unfold lookD
    rcases List.mem_cons.mp h with h | h
    · cases h
      exact if_pos rfl
    · rw [if_neg fun e => nd.1 (by rw [show k' = k from e]; exact List.mem_map.mpr ⟨(k, v), h, rfl⟩)]
      exact look_mem nd.2 h
theorem put_none {k v : D} : ∀ {kvs : List (D × D)}, k ∉ kvs.map (·.1) → putD kvs k v = kvs ++ [(k, v)]
  | [], _ => rfl
  | (k', v') :: r, h => by
    rw [List.map_cons, List.mem_cons, not_or] at h
    unfold putD
    rw [if_neg fun e => h.1 e.symm, put_none h.2]
    rfl
theorem merge_app : ∀ (more kvs : List (D × D)), ((kvs ++ more).map (·.1)).Nodup → mergeD kvs more = kvs ++ more
  | [], kvs, _ => by simp [mergeD]
  | (k, v) :: r, kvs, nd => by
    have h : k ∉ kvs.map (·.1) := fun hk => by
      rw [List.map_append, List.nodup_append] at nd
      exact nd.2.2 k hk k (by simp) rfl
    show mergeD (putD kvs k v) r = _
    rw [put_none h, merge_app r (kvs ++ [(k, v)]) (by rw [List.append_assoc]; exact nd), List.append_assoc]
    rfl
theorem merge_nodup {kvs : List (D × D)} (nd : (kvs.map (·.1)).Nodup) : mergeD [] kvs = kvs := merge_app kvs [] nd
theorem eqKv_perm {i j : List (D × D)} (p : i.Perm j) (nd : (j.map (·.1)).Nodup) (h : ∀ kv ∈ j, eqd kv.2 kv.2 = true) : eqKv i j = true := by
  unfold eqKv
  rw [Bool.and_eq_true]
  refine ⟨decide_eq_true p.length_eq, List.all_eq_true.mpr fun kv hk => ?_⟩
  have hk := p.mem_iff.mp hk
  rw [look_mem nd (show (kv.1, kv.2) ∈ j from hk)]
  exact h kv hk
theorem nodup_map_of {α : Type} {f : α → Int} {l : List α} (h : (l.map f).Nodup) : (l.map fun q => D.int (f q)).Nodup := by
  have e : (l.map fun q => D.int (f q)) = (l.map f).map D.int := by rw [List.map_map]; rfl
  rw [e]
  rw [List.nodup_iff_pairwise_ne] at h ⊢
  rw [List.pairwise_map]
  exact h.imp fun ne e => ne (by cases e; rfl)
theorem levKv_keys (l : List Sy) : (levKv l).map (·.1) = l.map fun q => D.int q.arg := by unfold levKv; rw [List.map_map]; rfl
theorem bindKv_keys (l : List Sy) : (bindKv l).map (·.1) = l.map fun q => D.int q.arg := by unfold bindKv; rw [List.map_map]; rfl
theorem levKv_eq {l : List Sy} (nd : (l.map Sy.arg).Nodup) : eqKv (levKv l.reverse) (levKv l) = true := by
  refine eqKv_perm ?_ (by rw [levKv_keys]; exact nodup_map_of nd) fun kv h => ?_
  · unfold levKv
    exact (List.reverse_perm l).map _
  · unfold levKv at h
    obtain ⟨q, _, rfl⟩ := List.mem_map.mp h
    simp
theorem bindKv_eq {l : List Sy} (nd : (l.map Sy.arg).Nodup) (hd : ∀ q ∈ l, q.depth ≤ 100) : eqKv (bindKv l) (bindKv l) = true := by
  refine eqKv_perm (.refl _) (by rw [bindKv_keys]; exact nodup_map_of nd) fun kv h => ?_
  unfold bindKv at h
  obtain ⟨q, hq, rfl⟩ := List.mem_map.mp h
  exact eqd_self 100 _ (pl_sy q (hd q hq))
theorem levKv_pl (l : List Sy) : vPl (levKv l) = true := by
  unfold vPl levKv
  rw [List.all_map, List.all_eq_true]
  intro q _
  simp
theorem bindKv_pl {l : List Sy} (hd : ∀ q ∈ l, q.depth ≤ 100) : vPl (bindKv l) = true := by
  unfold vPl bindKv
  rw [List.all_map, List.all_eq_true]
  intro q hq
  exact pl_sy q (hd q hq)
/-- the bound's long sayings -/
def lng : Nat → Sy
  | 0 => .is true 0
  | k + 1 => if k % 2 = 0 then .two true (lng k) (.yes true) else .two false (.yes false) (lng k)
theorem lng_size : ∀ k, (lng k).size = 2 * k + 1
  | 0 => rfl
  | k + 1 => by
    have h := lng_size k
    have e : ∀ c, (Sy.yes c).size = 1 := fun _ => rfl
    unfold lng
    split <;> rw [size_two, h, e] <;> omega
theorem lng_depth : ∀ k, (lng k).depth = k + 1
  | 0 => rfl
  | k + 1 => by
    have h := lng_depth k
    unfold lng
    split
    · show max (lng k).depth 1 + 1 = _; omega
    · show max 1 (lng k).depth + 1 = _; omega
theorem lng_ok {a b : Int} (ha : 0 < a) : ∀ k, Wf a b [] [] (lng k) ∧ (lng k).ar = []
  | 0 => ⟨⟨by omega, ha⟩, rfl⟩
  | k + 1 => by
    obtain ⟨h1, h2⟩ := lng_ok (b := b) ha k
    unfold lng
    split
    · exact ⟨⟨h1, trivial⟩, by rw [ar_two, h2]; rfl⟩
    · exact ⟨⟨trivial, h1⟩, by rw [ar_two, h2]; rfl⟩
/-- a well-formed one: by its size -/
theorem say_size {a b : Int} {s : Sy} (w : Wf a b [] [] s) (nd : s.ar.Nodup) : saying a b s.d = decide ((s.size : Int) < 41) := by
  by_cases c : s.size ≤ 40
  · rw [say_iff.mpr ⟨s, rfl, w, nd, c⟩]
    exact (decide_eq_true (by omega)).symm
  · have : saying a b s.d ≠ true := fun z => by
      obtain ⟨s2, e2, _, _, z⟩ := say_iff.mp z
      obtain rfl := sy_inj e2
      exact c z
    rw [Bool.not_eq_true _ |>.mp this]
    exact (decide_eq_false (by omega)).symm
end Y

namespace Y
open PySem PySem.Spec L2
/-! ### worlds, and where a saying holds -/
structure Wd where
  n : Nat
  marks : List (List Nat)
  ways : List (List (List Nat))
def rowD (r : List Nat) : D := .tup (r.map fun k : Nat => D.int (k : Nat))
def Wd.d (W : Wd) : D := .tup [.int (W.n : Nat), .tup (W.marks.map rowD), .tup (W.ways.map fun w => .tup (w.map rowD))]
def Wd.mark (W : Wd) (i k : Nat) : Bool := ((W.marks[i]?).getD []).contains k
def Wd.row (W : Wd) (j k : Nat) : List Nat := (((W.ways[j]?).getD [])[k]?).getD []
/-- rows: ascending, below n -/
def RowOk (n : Nat) (r : List Nat) : Prop := r.Pairwise (· < ·) ∧ ∀ k ∈ r, k < n
structure WOk (a b : Int) (W : Wd) : Prop where
  n1 : 1 ≤ W.n
  n5 : W.n ≤ 5
  a : (W.marks.length : Int) = a
  b : (W.ways.length : Int) = b
  m : ∀ r ∈ W.marks, RowOk W.n r
  w : ∀ x ∈ W.ways, x.length = W.n ∧ ∀ r ∈ x, RowOk W.n r
theorem WOk.row {a b : Int} {W : Wd} (h : WOk a b W) {j k : Nat} : RowOk W.n (W.row j k) := by
  unfold Wd.row
  cases e : W.ways[j]? with
  | none => exact ⟨by simp, by simp⟩
  | some x =>
    have hx := List.mem_of_getElem? e
    rw [Option.getD_some]
    cases e2 : x[k]? with
    | none => exact ⟨by simp, by simp⟩
    | some r => exact (h.w x hx).2 r (List.mem_of_getElem? e2)
abbrev Pl := Nat → Bool
abbrev Ev := Int → Pl
def Ev.upd (e : Ev) (i : Int) (v : Pl) : Ev := fun j => if j = i then v else e j
def it (F : Pl → Pl) : Nat → Pl → Pl
  | 0, v => v
  | m + 1, v => F (it F m v)
def den (W : Wd) : Sy → Ev → Pl
  | .yes b, _ => fun _ => b
  | .is b i, _ => fun k => W.mark i.toNat k == b
  | .name i, e => e i
  | .two b l r, e => fun k => if b = true then den W l e k && den W r e k else den W l e k || den W r e k
  | .step b j x, e => fun k => if b = true then (W.row j.toNat k).any (den W x e) else (W.row j.toNat k).all (den W x e)
  | .fix b i x, e => it (fun v => den W x (e.upd i v)) W.n fun _ => !b
/-- below n: no more than, the same -/
def LeP (n : Nat) (v u : Pl) : Prop := ∀ k, k < n → v k = true → u k = true
def EqP (n : Nat) (v u : Pl) : Prop := ∀ k, k < n → v k = u k
theorem EqP.le {n : Nat} {v u : Pl} (h : EqP n v u) : LeP n v u := fun k hk q => by rw [← h k hk]; exact q
theorem EqP.symm {n : Nat} {v u : Pl} (h : EqP n v u) : EqP n u v := fun k hk => (h k hk).symm
theorem EqP.trans {n : Nat} {v u w : Pl} (h : EqP n v u) (g : EqP n u w) : EqP n v w := fun k hk => (h k hk).trans (g k hk)
theorem eqP_of {n : Nat} {v u : Pl} (h : LeP n v u) (g : LeP n u v) : EqP n v u := fun k hk => by
  rw [Bool.eq_iff_iff]
  exact ⟨h k hk, g k hk⟩
theorem it_le {n : Nat} {F G : Pl → Pl} (h : ∀ v u, LeP n v u → LeP n (F v) (G u)) : ∀ (m : Nat) {v u : Pl}, LeP n v u → LeP n (it F m v) (it G m u)
  | 0, _, _, q => q
  | m + 1, _, _, q => h _ _ (it_le h m q)
section
variable {W : Wd} {a b : Int}
/-- more of the names, more places -/
theorem den_mono (hW : WOk a b W) : ∀ (s : Sy) (K F : List Int) (e f : Ev), Wf a b K F s → (∀ i ∈ K ++ F, LeP W.n (e i) (f i)) → LeP W.n (den W s e) (den W s f)
  | .yes c, K, F, e, f, _, _ => fun k hk q => q
  | .is c i, K, F, e, f, _, _ => fun k hk q => q
  | .name i, K, F, e, f, w, h => h i (List.mem_append.mpr (.inr w))
  | .two c l r, K, F, e, f, w, h => by
    have h1 := den_mono hW l K F e f w.1 h
    have h2 := den_mono hW r K F e f w.2 h
    intro k hk q
    cases c with
    | true =>
      simp [den] at q ⊢
      exact ⟨h1 k hk q.1, h2 k hk q.2⟩
    | false =>
      simp [den] at q ⊢
      exact q.imp (h1 k hk) (h2 k hk)
  | .step c j x, K, F, e, f, w, h => by
    have h1 := den_mono hW x K K e f w.2.2 fun i hi => h i (List.mem_append.mpr (.inl (by simpa using hi)))
    intro k hk q
    have hr := (hW.row (j := j.toNat) (k := k)).2
    cases c with
    | true =>
      simp [den] at q ⊢
      obtain ⟨g, hg, q⟩ := q
      exact ⟨g, hg, h1 g (hr g hg) q⟩
    | false =>
      simp [den] at q ⊢
      exact fun g hg => h1 g (hr g hg) (q g hg)
  | .fix c i x, K, F, e, f, w, h => by
    refine it_le (fun v u hv => den_mono hW x (K ++ [i]) F _ _ w.2.2 fun j hj => ?_) W.n fun k hk q => q
    unfold Ev.upd
    by_cases z : j = i
    · rw [if_pos z, if_pos z]; exact hv
    · rw [if_neg z, if_neg z]
      refine h j ?_
      simp at hj ⊢
      rcases hj with q | q | q
      · exact .inl q
      · exact absurd q z
      · exact .inr q
theorem den_cong (hW : WOk a b W) {s : Sy} {K F : List Int} {e f : Ev} (w : Wf a b K F s) (h : ∀ i ∈ K ++ F, EqP W.n (e i) (f i)) : EqP W.n (den W s e) (den W s f) :=
  eqP_of (den_mono hW s K F e f w fun i hi => (h i hi).le) (den_mono hW s K F f e w fun i hi => (h i hi).symm.le)
end
/-! ### rounds come to rest -/
def cntP (n : Nat) (v : Pl) : Nat := ((List.range n).filter v).length
theorem cnt_le {n : Nat} {v u : Pl} (h : LeP n v u) : cntP n v ≤ cntP n u := by
  unfold cntP
  have key : ∀ l : List Nat, (∀ k ∈ l, k < n) → (l.filter v).length ≤ (l.filter u).length := by
    intro l
    induction l with
    | nil => simp
    | cons k l ih =>
      intro hl
      have ih := ih fun j hj => hl j (List.mem_cons_of_mem _ hj)
      have hk := h k (hl k List.mem_cons_self)
      rw [List.filter_cons, List.filter_cons]
      cases e : v k with
      | true => rw [hk e]; simp; exact ih
      | false =>
        split
        · rename_i z; cases z
        · split
          · simp; omega
          · exact ih
  exact key _ fun k hk => List.mem_range.mp hk
theorem cnt_lt {n : Nat} {v u : Pl} (h : LeP n v u) (ne : ¬ EqP n v u) : cntP n v < cntP n u := by
  have : ∃ k, k < n ∧ v k = false ∧ u k = true := by
    refine Classical.byContradiction fun c => ne fun k hk => ?_
    cases e : v k with
    | true => exact (h k hk e).symm
    | false =>
      cases e2 : u k with
      | false => rfl
      | true => exact absurd ⟨k, hk, e, e2⟩ c
  obtain ⟨k0, hk0, e1, e2⟩ := this
  unfold cntP
  have key : ∀ l : List Nat, (∀ k ∈ l, k < n) → k0 ∈ l → (l.filter v).length < (l.filter u).length := by
    intro l
    induction l with
    | nil => intro _ h; cases h
    | cons k l ih =>
      intro hl hm
      have sub : ∀ j ∈ l, j < n := fun j hj => hl j (List.mem_cons_of_mem _ hj)
      have le : (l.filter v).length ≤ (l.filter u).length := by
        have key2 : ∀ l : List Nat, (∀ k ∈ l, k < n) → (l.filter v).length ≤ (l.filter u).length := by
          intro l
          induction l with
          | nil => simp
          | cons k l ih =>
            intro hl
            have ih := ih fun j hj => hl j (List.mem_cons_of_mem _ hj)
            have hk := h k (hl k List.mem_cons_self)
            rw [List.filter_cons, List.filter_cons]
            cases e : v k with
            | true => rw [hk e]; simp; exact ih
            | false =>
              split
              · rename_i z; cases z
              · split
                · simp; omega
                · exact ih
        exact key2 l sub
      rw [List.filter_cons, List.filter_cons]
      by_cases c : k0 = k
      · subst c
        rw [e1, e2]
        simp
        omega
      · have hm : k0 ∈ l := by
          rcases List.mem_cons.mp hm with q | q
          · exact absurd q c
          · exact q
        have ih := ih sub hm
        have hk := h k (hl k List.mem_cons_self)
        cases e : v k with
        | true => rw [hk e]; simp; exact ih
        | false =>
          split
          · rename_i z; cases z
          · split
            · simp; omega
            · exact ih
  exact key _ (fun k hk => List.mem_range.mp hk) (List.mem_range.mpr hk0)
theorem cnt_max {n : Nat} {v : Pl} : cntP n v ≤ n := by
  unfold cntP
  exact Nat.le_trans (List.length_filter_le _ _) (by simp)
/-- a chain that rises comes to rest within n rounds -/
theorem rise_rest {n : Nat} {c : Nat → Pl} (up : ∀ m, LeP n (c m) (c (m + 1))) (st : ∀ m, EqP n (c m) (c (m + 1)) → EqP n (c (m + 1)) (c (m + 2))) : EqP n (c n) (c (n + 1)) := by
  have stay : ∀ d m, EqP n (c m) (c (m + 1)) → EqP n (c (m + d)) (c (m + d + 1)) := by
    intro d
    induction d with
    | zero => exact fun m h => h
    | succ d ih => exact fun m h => st _ (ih m h)
  by_cases ex : ∃ m, m ≤ n ∧ EqP n (c m) (c (m + 1))
  · obtain ⟨m, hm, e⟩ := ex
    have := stay (n - m) m e
    rw [show m + (n - m) = n by omega] at this
    exact this
  · have grow : ∀ m, m ≤ n + 1 → m ≤ cntP n (c m) := by
      intro m
      induction m with
      | zero => intro _; omega
      | succ m ih =>
        intro hm
        have h1 := ih (by omega)
        have h2 := cnt_lt (up m) fun z => ex ⟨m, by omega, z⟩
        omega
    have h1 := grow (n + 1) (Nat.le_refl _)
    have h2 := cnt_max (n := n) (v := c (n + 1))
    omega
/-- .. that falls -/
theorem fall_rest {n : Nat} {c : Nat → Pl} (dn : ∀ m, LeP n (c (m + 1)) (c m)) (st : ∀ m, EqP n (c m) (c (m + 1)) → EqP n (c (m + 1)) (c (m + 2))) : EqP n (c n) (c (n + 1)) := by
  have h := rise_rest (n := n) (c := fun m k => !(c m k)) (fun m k hk q => by
    have := dn m k hk
    have q : (!(c m k)) = true := q
    show (!(c (m + 1) k)) = true
    cases e : c (m + 1) k with
    | false => rfl
    | true => rw [this e] at q; cases q) (fun m h k hk => by
    have h' : EqP n (c m) (c (m + 1)) := fun k hk => by
      have := h k hk
      simpa using this
    show (!(c (m + 1) k)) = !(c (m + 2) k)
    rw [st m h' k hk])
  intro k hk
  have := h k hk
  simpa using this
section
variable {W : Wd} {a b : Int}
/-- the rounds of a fixed point -/
def rnd (W : Wd) (c : Bool) (i : Int) (x : Sy) (e : Ev) (m : Nat) : Pl := it (fun v => den W x (e.upd i v)) m fun _ => !c
theorem rnd_step (W : Wd) (c : Bool) (i : Int) (x : Sy) (e : Ev) (m : Nat) : rnd W c i x e (m + 1) = den W x (e.upd i (rnd W c i x e m)) := rfl
theorem den_fix (W : Wd) (c : Bool) (i : Int) (x : Sy) (e : Ev) : den W (.fix c i x) e = rnd W c i x e W.n := rfl
theorem body_mono (hW : WOk a b W) {i : Int} {x : Sy} {K F : List Int} {e : Ev} (w : Wf a b (K ++ [i]) F x) {v u : Pl} (h : LeP W.n v u) : LeP W.n (den W x (e.upd i v)) (den W x (e.upd i u)) :=
  den_mono hW x (K ++ [i]) F _ _ w fun j hj => by
    unfold Ev.upd
    by_cases z : j = i
    · rw [if_pos z, if_pos z]; exact h
    · rw [if_neg z, if_neg z]; exact fun _ _ q => q
theorem body_cong (hW : WOk a b W) {i : Int} {x : Sy} {K F : List Int} {e : Ev} (w : Wf a b (K ++ [i]) F x) {v u : Pl} (h : EqP W.n v u) : EqP W.n (den W x (e.upd i v)) (den W x (e.upd i u)) :=
  eqP_of (body_mono hW w h.le) (body_mono hW w h.symm.le)
theorem rnd_rest (hW : WOk a b W) {c : Bool} {i : Int} {x : Sy} {K F : List Int} {e : Ev} (w : Wf a b (K ++ [i]) F x) : EqP W.n (rnd W c i x e W.n) (rnd W c i x e (W.n + 1)) := by
  have st : ∀ m, EqP W.n (rnd W c i x e m) (rnd W c i x e (m + 1)) → EqP W.n (rnd W c i x e (m + 1)) (rnd W c i x e (m + 2)) := fun m h => body_cong hW w h
  cases c with
  | true =>
    refine rise_rest (fun m => ?_) st
    induction m with
    | zero => exact fun k hk q => by cases q
    | succ m ih => exact body_mono hW w ih
  | false =>
    refine fall_rest (fun m => ?_) st
    induction m with
    | zero => exact fun k hk q => rfl
    | succ m ih => exact body_mono hW w ih
theorem rnd_stay {c : Bool} {i : Int} {x : Sy} {K F : List Int} {e : Ev} (hW : WOk a b W) (w : Wf a b (K ++ [i]) F x) {m : Nat} (h : EqP W.n (rnd W c i x e m) (rnd W c i x e (m + 1))) : ∀ d, EqP W.n (rnd W c i x e m) (rnd W c i x e (m + d))
  | 0 => fun _ _ => rfl
  | d + 1 => by
    have ih := rnd_stay hW w h d
    refine h.trans ?_
    exact body_cong hW w ih
/-- where two rounds are alike, the fixed point is reached -/
theorem rnd_end (hW : WOk a b W) {c : Bool} {i : Int} {x : Sy} {K F : List Int} {e : Ev} (w : Wf a b (K ++ [i]) F x) {m : Nat} (h : EqP W.n (rnd W c i x e m) (rnd W c i x e (m + 1))) : EqP W.n (rnd W c i x e m) (den W (.fix c i x) e) := by
  rw [den_fix]
  by_cases q : m ≤ W.n
  · have := rnd_stay hW w h (W.n - m)
    rw [show m + (W.n - m) = W.n by omega] at this
    exact this
  · have := rnd_stay hW w (rnd_rest (c := c) (e := e) hW w) (m - W.n)
    rw [show W.n + (m - W.n) = m by omega] at this
    exact this.symm
/-- the contrary holds where the saying does not -/
def Ev.neg (e : Ev) : Ev := fun i k => !(e i k)
theorem den_turn (hW : WOk a b W) : ∀ (s : Sy) (K F : List Int) (e : Ev), Wf a b K F s → EqP W.n (den W s.turn e.neg) fun k => !(den W s e k)
  | .yes c, K, F, e, _ => fun k hk => by simp [Sy.turn, den]
  | .is c i, K, F, e, _ => fun k hk => by cases c <;> simp [Sy.turn, den]
  | .name i, K, F, e, _ => fun k hk => rfl
  | .two c l r, K, F, e, w => by
    have h1 := den_turn hW l K F e w.1
    have h2 := den_turn hW r K F e w.2
    intro k hk
    have e1 := h1 k hk
    have e2 := h2 k hk
    cases c <;> simp [Sy.turn, den, e1, e2]
  | .step c j x, K, F, e, w => by
    have h1 := den_turn hW x K K e w.2.2
    intro k hk
    have hr := (hW.row (j := j.toNat) (k := k)).2
    have e1 : ∀ l : List Nat, (∀ g ∈ l, g < W.n) → l.any (den W x.turn e.neg) = !(l.all (den W x e)) := by
      intro l
      induction l with
      | nil => intro _; rfl
      | cons g l ih =>
        intro hl
        rw [List.any_cons, List.all_cons, ih fun g' hg' => hl g' (List.mem_cons_of_mem _ hg'), h1 g (hl g List.mem_cons_self)]
        simp
    have e2 : ∀ l : List Nat, (∀ g ∈ l, g < W.n) → l.all (den W x.turn e.neg) = !(l.any (den W x e)) := by
      intro l
      induction l with
      | nil => intro _; rfl
      | cons g l ih =>
        intro hl
        rw [List.any_cons, List.all_cons, ih fun g' hg' => hl g' (List.mem_cons_of_mem _ hg'), h1 g (hl g List.mem_cons_self)]
        simp
    cases c with
    | true => simp only [Sy.turn, den]; simpa using e2 _ hr
    | false => simp only [Sy.turn, den]; simpa using e1 _ hr
  | .fix c i x, K, F, e, w => by
    have wt : ∀ v, EqP W.n (den W x.turn (e.neg.upd i fun k => !(v k))) fun k => !(den W x (e.upd i v) k) := by
      intro v
      have h := den_turn hW x (K ++ [i]) F (e.upd i v) w.2.2
      have q : (e.upd i v).neg = e.neg.upd i fun k => !(v k) := by
        funext j k
        show (!((e.upd i v) j k)) = (e.neg.upd i fun k => !(v k)) j k
        unfold Ev.upd
        split <;> rfl
      rw [q] at h
      exact h
    have wft : ∀ {s : Sy} {K F : List Int}, Wf a b K F s → Wf a b K F s.turn := by
      intro s
      induction s with
      | yes c => exact fun h => h
      | is c i => exact fun h => h
      | name i => exact fun h => h
      | two c l r i1 i2 => exact fun h => ⟨i1 h.1, i2 h.2⟩
      | step c j x ih => exact fun h => ⟨h.1, h.2.1, ih h.2.2⟩
      | fix c j x ih => exact fun h => ⟨h.1, h.2.1, ih h.2.2⟩
    have key : ∀ m, EqP W.n (rnd W (!c) i x.turn e.neg m) fun k => !(rnd W c i x e m k) := by
      intro m
      induction m with
      | zero => exact fun k hk => rfl
      | succ m ih =>
        have h1 := body_cong (e := e.neg) hW (wft w.2.2) ih
        exact h1.trans (wt _)
    exact key W.n
/-- a closed saying and its contrary part the places -/
theorem den_against (hW : WOk a b W) {s : Sy} (w : Wf a b [] [] s) (e : Ev) : EqP W.n (den W s.turn e) fun k => !(den W s e k) := by
  have wft : ∀ {s : Sy} {K F : List Int}, Wf a b K F s → Wf a b K F s.turn := by
    intro s
    induction s with
    | yes c => exact fun h => h
    | is c i => exact fun h => h
    | name i => exact fun h => h
    | two c l r i1 i2 => exact fun h => ⟨i1 h.1, i2 h.2⟩
    | step c j x ih => exact fun h => ⟨h.1, h.2.1, ih h.2.2⟩
    | fix c j x ih => exact fun h => ⟨h.1, h.2.1, ih h.2.2⟩
  exact (den_cong hW (wft w) (fun i hi => by cases hi)).trans (den_turn hW s [] [] e w)
end
end Y

namespace Y
open PySem PySem.Spec L2
def ir_is_ascending : List S := [
  .ife (.bop false [(.not (.isi (.var 1) .tuple)), (.not (.bi .all [(.lc [2] (.one 2) (.seq (.var 1)) none (.bop true [(.call "is_whole" [(.var 2)]), (.cmp2 .le .lt (.int 0) (.var 2) (.var 0))]))]))]) [.ret (.bl false)] [],
  .ret (.cmp .eq (.bi .list [(.var 1)]) (.bi .sortset [(.var 1)]))]
def ck_is_ascending : Ck := ⟨["n", "value", "item"], [("is_whole", 1)], [], [], false⟩

def ir_is_world : List S := [
  .ret (.bop true [(.call "is_world_of_any_size" [(.var 0), (.var 1)]), (.cmp .le (.sub (.var 1) (.int 0)) (.gv "MOST_PLACES"))])]
def ck_is_world : Ck := ⟨["land", "value"], [("is_world_of_any_size", 2)], ["MOST_PLACES"], [], false⟩

def ir_is_world_of_any_size : List S := [
  .ife (.bop false [(.not (.isi (.var 1) .tuple)), (.cmp .ne (.bi .len [(.var 1)]) (.int 3)), (.not (.call "is_whole" [(.sub (.var 1) (.int 0))])), (.cmp .lt (.sub (.var 1) (.int 0)) (.int 1))]) [.ret (.bl false)] [],
  .asg (.name (.many [3, 4, 5])) (.var 1),
  .ife (.bop false [(.not (.isi (.var 4) .tuple)), (.not (.isi (.var 5) .tuple)), (.cmp .ne (.tup [(.bi .len [(.var 4)]), (.bi .len [(.var 5)])]) (.var 0))]) [.ret (.bl false)] [],
  .ife (.not (.bi .all [(.lc [6] (.one 6) (.seq (.var 4)) none (.call "is_ascending" [(.var 3), (.var 6)]))])) [.ret (.bl false)] [],
  .frr (.one 2) (.seq (.var 5)) [.ife (.bop false [(.not (.isi (.var 2) .tuple)), (.cmp .ne (.bi .len [(.var 2)]) (.var 3)), (.not (.bi .all [(.lc [6] (.one 6) (.seq (.var 2)) none (.call "is_ascending" [(.var 3), (.var 6)]))]))]) [.ret (.bl false)] []],
  .ret (.bl true)]
def ck_is_world_of_any_size : Ck := ⟨["land", "value", "rows", "n", "marks", "ways", "row"], [("is_whole", 1), ("is_ascending", 2)], [], [], false⟩

def ir_next_places : List S := [
  .ret (.sub (.sub (.sub (.var 0) (.int 2)) (.var 1)) (.var 2))]
def ck_next_places : Ck := ⟨["world", "deed", "place"], [], [], [], false⟩

def ir_leads : List S := [
  .ife (.var 2) [.ret (.bi .any [(.lc [3] (.one 3) (.seq (.var 0)) none (.cmp .inn (.var 3) (.var 1)))])] [],
  .ret (.bi .all [(.lc [3] (.one 3) (.seq (.var 0)) none (.cmp .inn (.var 3) (.var 1)))])]
def ck_leads : Ck := ⟨["goals", "inner", "some", "goal"], [], [], [], false⟩

def ir_found_places : List S := [
  .asg (.name (.one 3)) (.sub (.var 1) (.int 0)),
  .ife (.cmp .inn (.var 3) (.tup [(.str "yes"), (.str "no")])) [.ret (.dc [10] (.one 10) (.range (.sub (.var 0) (.int 0))) (some (.cmp .eq (.var 3) (.str "yes"))) (.var 10) (.bl true))] [],
  .ife (.cmp .inn (.var 3) (.tup [(.str "is"), (.str "isnt")])) [.ret (.dc [10] (.one 10) (.range (.sub (.var 0) (.int 0))) (some (.cmp .eq (.cmp .inn (.var 10) (.sub (.sub (.var 0) (.int 1)) (.sub (.var 1) (.int 1)))) (.cmp .eq (.var 3) (.str "is")))) (.var 10) (.bl true))] [],
  .ife (.cmp .eq (.var 3) (.str "name")) [.ret (.dc [10] (.one 10) (.seq (.sub (.var 2) (.sub (.var 1) (.int 1)))) none (.var 10) (.bl true))] [],
  .ife (.cmp .inn (.var 3) (.tup [(.str "both"), (.str "either")])) [.asg (.name (.many [8, 9])) (.tup [(.call "found_places" [(.var 0), (.sub (.var 1) (.int 1)), (.var 2)]), (.call "found_places" [(.var 0), (.sub (.var 1) (.int 2)), (.var 2)])]), .ife (.cmp .eq (.var 3) (.str "both")) [.ret (.dc [10] (.one 10) (.keys 8) (some (.cmp .inn (.var 10) (.var 9))) (.var 10) (.bl true))] [], .ex (.mt .update (.var 9) [(.var 8)]), .ret (.var 9)] [],
  .ife (.cmp .inn (.var 3) (.tup [(.str "some"), (.str "all")])) [.asg (.name (.one 7)) (.call "found_places" [(.var 0), (.sub (.var 1) (.int 2)), (.var 2)]), .ret (.dc [10] (.one 10) (.range (.sub (.var 0) (.int 0))) (some (.call "leads" [(.sub (.sub (.sub (.var 0) (.int 2)) (.sub (.var 1) (.int 1))) (.var 10)), (.var 7), (.cmp .eq (.var 3) (.str "some"))])) (.var 10) (.bl true))] [],
  .asg (.name (.one 4)) (.bi .dict [(.var 2)]),
  .asg (.name (.one 5)) (.ite (.cmp .eq (.var 3) (.str "least")) (.dsp []) (.dc [10] (.one 10) (.range (.sub (.var 0) (.int 0))) none (.var 10) (.bl true))),
  .asg (.name (.one 6)) .non,
  .whl (.cmp .ne (.var 5) (.var 6)) [.asg (.name (.one 6)) (.var 5), .asg (.sub (.var 4) (.sub (.var 1) (.int 1))) (.bi .tuple [(.bi .sorted [(.bi .list [(.var 5)])])]), .asg (.name (.one 5)) (.call "found_places" [(.var 0), (.sub (.var 1) (.int 2)), (.var 4)])],
  .ret (.var 5)]
def ck_found_places : Ck := ⟨["world", "saying", "places", "name", "known", "now", "before", "inner", "one", "two", "k"], [("found_places", 3), ("leads", 3)], [], [], false⟩

def ir_worth : List S := [
  .ret (.bi .tuple [(.bi .sorted [(.bi .list [(.call "found_places" [(.var 0), (.var 1), (.var 2)])])])])]
def ck_worth : Ck := ⟨["world", "saying", "places"], [("found_places", 3)], [], [], false⟩

def ir_places_where : List S := [
  .ret (.call "worth" [(.var 0), (.var 1), (.dsp [])])]
def ck_places_where : Ck := ⟨["world", "saying"], [("worth", 3)], [], [], false⟩

def ir__law_world : List S := [
  .asg (.name (.one 3)) (.op .add (.int 1) (.call "_law_draw" [(.var 0), (.var 2)])),
  .asg (.name (.one 4)) (.bi .tuple [(.lc [8] (.one 8) (.range (.sub (.var 1) (.int 0))) none (.bi .tuple [(.lc [9] (.one 9) (.range (.var 3)) (some (.cmp .eq (.call "_law_draw" [(.var 0), (.int 2)]) (.int 0))) (.var 9))]))]),
  .asg (.name (.one 5)) (.op .add (.int 2) (.call "_law_draw" [(.var 0), (.int 2)])),
  .asg (.name (.one 6)) (.tup []),
  .frr (.one 7) (.range (.sub (.var 1) (.int 1))) [.asg (.name (.one 6)) (.op .add (.var 6) (.tup [(.bi .tuple [(.lc [10] (.one 10) (.range (.var 3)) none (.bi .tuple [(.lc [9] (.one 9) (.range (.var 3)) (some (.cmp .eq (.call "_law_draw" [(.var 0), (.var 5)]) (.int 0))) (.var 9))]))])]))],
  .ret (.tup [(.var 3), (.var 4), (.var 6)])]
def ck__law_world : Ck := ⟨["pool", "land", "most", "n", "marks", "dense", "ways", "j", "i", "k", "place"], [("_law_draw", 2)], [], [], false⟩

def ir__law_where : List S := [
  .asg (.name (.one 3)) (.sub (.var 1) (.int 0)),
  .asg (.name (.one 4)) (.sub (.var 0) (.int 0)),
  .ife (.cmp .inn (.var 3) (.tup [(.str "yes"), (.str "no")])) [.ret (.ite (.cmp .eq (.var 3) (.str "yes")) (.bi .listrange [(.var 4)]) (.lst []))] [],
  .ife (.cmp .inn (.var 3) (.tup [(.str "is"), (.str "isnt")])) [.ret (.lc [13] (.one 13) (.range (.var 4)) (some (.cmp .eq (.cmp .inn (.var 13) (.sub (.sub (.var 0) (.int 1)) (.sub (.var 1) (.int 1)))) (.cmp .eq (.var 3) (.str "is")))) (.var 13))] [],
  .ife (.cmp .eq (.var 3) (.str "name")) [.ret (.sub (.var 2) (.sub (.var 1) (.int 1)))] [],
  .ife (.cmp .inn (.var 3) (.tup [(.str "both"), (.str "either")])) [.asg (.name (.many [11, 12])) (.tup [(.call "_law_where" [(.var 0), (.sub (.var 1) (.int 1)), (.var 2)]), (.call "_law_where" [(.var 0), (.sub (.var 1) (.int 2)), (.var 2)])]), .ret (.lc [13] (.one 13) (.range (.var 4)) (some (.ite (.cmp .eq (.var 3) (.str "both")) (.bop true [(.cmp .inn (.var 13) (.var 11)), (.cmp .inn (.var 13) (.var 12))]) (.bop false [(.cmp .inn (.var 13) (.var 11)), (.cmp .inn (.var 13) (.var 12))]))) (.var 13))] [],
  .ife (.cmp .inn (.var 3) (.tup [(.str "some"), (.str "all")])) [.asg (.name (.one 7)) (.call "_law_where" [(.var 0), (.sub (.var 1) (.int 2)), (.var 2)]), .asg (.name (.one 8)) (.lc [13] (.one 13) (.range (.var 4)) none (.lc [14] (.one 14) (.seq (.sub (.sub (.sub (.var 0) (.int 2)) (.sub (.var 1) (.int 1))) (.var 13))) (some (.cmp .eq (.cmp .inn (.var 14) (.var 7)) (.cmp .eq (.var 3) (.str "some")))) (.var 14))), .ret (.lc [13] (.one 13) (.range (.var 4)) (some (.cmp .eq (.cmp .gt (.bi .len [(.sub (.var 8) (.var 13))]) (.int 0)) (.cmp .eq (.var 3) (.str "some")))) (.var 13))] [],
  .asg (.name (.one 5)) (.ite (.cmp .eq (.var 3) (.str "least")) (.lst []) (.bi .listrange [(.var 4)])),
  .asg (.name (.one 6)) .non,
  .whl (.cmp .ne (.var 5) (.var 6)) [.asg (.name (.one 6)) (.var 5), .asg (.name (.one 9)) (.dsp []), .frr (.one 10) (.keys 2) [.asg (.sub (.var 9) (.var 10)) (.sub (.var 2) (.var 10))], .asg (.sub (.var 9) (.sub (.var 1) (.int 1))) (.var 5), .asg (.name (.one 5)) (.call "_law_where" [(.var 0), (.sub (.var 1) (.int 2)), (.var 9)])],
  .ret (.var 5)]
def ck__law_where : Ck := ⟨["world", "f", "env", "name", "n", "now", "before", "inner", "rows", "more", "x", "one", "two", "k", "goal"], [("_law_where", 3)], [], [], false⟩

def ir__law_world_ok : List S := [
  .ife (.bop false [(.not (.isi (.var 1) .tuple)), (.cmp .ne (.bi .len [(.var 1)]) (.int 3)), (.not (.call "_law_is_integer" [(.sub (.var 1) (.int 0))])), (.cmp .lt (.sub (.var 1) (.int 0)) (.int 1)), (.cmp .gt (.sub (.var 1) (.int 0)) (.int 60))]) [.ret (.bl false)] [],
  .asg (.name (.many [5, 6, 7])) (.var 1),
  .ife (.bop false [(.not (.isi (.var 6) .tuple)), (.not (.isi (.var 7) .tuple)), (.cmp .ne (.bi .len [(.var 6)]) (.sub (.var 0) (.int 0))), (.cmp .ne (.bi .len [(.var 7)]) (.sub (.var 0) (.int 1)))]) [.ret (.bl false)] [],
  .asg (.name (.one 2)) (.bi .list [(.var 6)]),
  .frr (.one 3) (.seq (.var 7)) [.ife (.bop false [(.not (.isi (.var 3) .tuple)), (.cmp .ne (.bi .len [(.var 3)]) (.var 5))]) [.ret (.bl false)] [], .asg (.name (.one 2)) (.op .add (.var 2) (.bi .list [(.var 3)]))],
  .frr (.one 4) (.seq (.var 2)) [.ife (.bop false [(.not (.isi (.var 4) .tuple)), (.cmp .gt (.bi .len [(.lc [8] (.one 8) (.seq (.var 4)) (some (.bop false [(.not (.call "_law_is_integer" [(.var 8)])), (.cmp .lt (.var 8) (.int 0)), (.cmp .ge (.var 8) (.var 5))])) (.var 8))]) (.int 0)), (.cmp .ne (.bi .list [(.var 4)]) (.bi .sortset [(.var 4)]))]) [.ret (.bl false)] []],
  .ret (.bl true)]
def ck__law_world_ok : Ck := ⟨["land", "value", "rows", "way", "row", "n", "marks", "ways", "x"], [("_law_is_integer", 1)], [], [], false⟩

end Y

namespace Y
open PySem PySem.Spec L2
/-! ### sets of places as dicts -/
def sd (L : List Nat) : List (D × D) := L.map fun k : Nat => (D.int (k : Nat), D.bl true)
theorem look_sd (i : Int) : ∀ L : List Nat, (lookD (sd L) (.int i)).isSome = L.any fun k => decide ((k : Int) = i)
  | [] => rfl
  | k :: L => by
    show (if D.int (k : Nat) = D.int i then some (D.bl true) else lookD (sd L) (.int i)).isSome = _
    rw [List.any_cons]
    by_cases c : (k : Int) = i
    · rw [if_pos (by rw [c])]
      simp [c]
    · rw [if_neg (fun z => c (D.int.inj z)), look_sd i L]
      simp [c]
theorem look_sdn (j : Nat) (L : List Nat) : (lookD (sd L) (.int (j : Nat))).isSome = L.contains j := by
  rw [look_sd, Bool.eq_iff_iff]
  simp only [List.any_eq_true, decide_eq_true_eq, List.contains_iff_mem]
  constructor
  · rintro ⟨k, hk, e⟩
    have : k = j := by omega
    rw [← this]; exact hk
  · exact fun h => ⟨j, h, rfl⟩
theorem sd_len (L : List Nat) : (sd L).length = L.length := by simp [sd]
theorem put_sd {k : Nat} : ∀ {L : List Nat}, putD (sd L) (.int (k : Nat)) (.bl true) = sd (if k ∈ L then L else L ++ [k])
  | [] => rfl
  | j :: L => by
    show (if D.int (j : Nat) = D.int (k : Nat) then (D.int (j : Nat), D.bl true) :: sd L else (D.int (j : Nat), D.bl true) :: putD (sd L) (.int (k : Nat)) (.bl true)) = _
    by_cases c : j = k
    · subst c
      rw [if_pos rfl, if_pos List.mem_cons_self]
      rfl
    · have c2 : ¬ D.int (j : Nat) = D.int (k : Nat) := fun z => c (by have := D.int.inj z; omega)
      rw [if_neg c2, put_sd]
      have c3 : ¬ k = j := fun z => c z.symm
      by_cases m : k ∈ L
      · rw [if_pos m, if_pos (List.mem_cons_of_mem _ m)]; rfl
      · rw [if_neg m, if_neg (fun z => by rcases List.mem_cons.mp z with q | q; exact c3 q; exact m q)]; rfl
def gS (f : Nat → Bool) : D → Option (D × D)
  | .int i => if f i.toNat = true then some (.int i, .bl true) else none
  | _ => none
theorem putAll_gS (f : Nat → Bool) : ∀ (L acc : List Nat), (acc ++ L).Nodup → putAllD (gS f) (L.map fun k : Nat => D.int (k : Nat)) (sd acc) = sd (acc ++ L.filter f)
  | [], acc, _ => by simp [putAllD]
  | k :: L, acc, nd => by
    rw [List.map_cons]
    unfold putAllD
    have hk : k ∉ acc := fun h => by
      rw [List.nodup_append] at nd
      exact nd.2.2 k h k List.mem_cons_self rfl
    by_cases c : f k = true
    · have e : gS f (.int (k : Nat)) = some (.int (k : Nat), .bl true) := by simp [gS, c]
      rw [e]
      show putAllD (gS f) _ (putD (sd acc) (.int (k : Nat)) (.bl true)) = _
      rw [put_sd, if_neg hk, putAll_gS f L (acc ++ [k]) (by rw [List.append_assoc]; exact nd), List.filter_cons, if_pos c, List.append_assoc]
      rfl
    · have e : gS f (.int (k : Nat)) = none := by simp [gS, c]
      rw [e]
      show putAllD (gS f) _ (sd acc) = _
      rw [putAll_gS f L acc (by
        rw [List.nodup_append] at nd ⊢
        exact ⟨nd.1, (List.nodup_cons.mp nd.2.1).2, fun a ha b hb => nd.2.2 a ha b (List.mem_cons_of_mem _ hb)⟩), List.filter_cons, if_neg c]
theorem merge_sd : ∀ (M L : List Nat), mergeD (sd L) (sd M) = sd (M.foldl (fun acc k => if k ∈ acc then acc else acc ++ [k]) L)
  | [], L => rfl
  | k :: M, L => by
    show mergeD (putD (sd L) (.int (k : Nat)) (.bl true)) (sd M) = _
    rw [put_sd, merge_sd M]
    rfl
/-- the places below n where v holds, in some order -/
structure SetL (n : Nat) (v : Pl) (L : List Nat) : Prop where
  nd : L.Nodup
  mem : ∀ k, k ∈ L ↔ k < n ∧ v k = true
theorem SetL.len {n : Nat} {v : Pl} {L : List Nat} (h : SetL n v L) : L.length ≤ n := by
  have nd : (L.map fun k : Nat => (k : Int)).Nodup := by
    rw [List.nodup_iff_pairwise_ne, List.pairwise_map]
    have := h.nd
    rw [List.nodup_iff_pairwise_ne] at this
    exact this.imp fun ne e => ne (by omega)
  have := nodup_bound n _ nd fun x hx => by
    obtain ⟨k, hk, rfl⟩ := List.mem_map.mp hx
    have := (h.mem k).mp hk
    omega
  simpa using this
theorem SetL.congr {n : Nat} {v u : Pl} {L : List Nat} (h : SetL n v L) (e : EqP n v u) : SetL n u L := ⟨h.nd, fun k => (h.mem k).trans ⟨fun ⟨a, b⟩ => ⟨a, by rw [← e k a]; exact b⟩, fun ⟨a, b⟩ => ⟨a, by rw [e k a]; exact b⟩⟩⟩
theorem setL_range (n : Nat) (v : Pl) : SetL n v ((List.range n).filter v) := ⟨List.nodup_range.sublist List.filter_sublist, fun k => by simp⟩
theorem SetL.has {n : Nat} {v : Pl} {L : List Nat} (h : SetL n v L) {k : Nat} (hk : k < n) : L.contains k = v k := by
  rw [Bool.eq_iff_iff, List.contains_iff_mem, h.mem]
  exact ⟨fun h => h.2, fun h => ⟨hk, h⟩⟩
theorem setL_merge {n : Nat} {v u : Pl} : ∀ {M : List Nat} {L : List Nat}, L.Nodup → (M.foldl (fun acc k => if k ∈ acc then acc else acc ++ [k]) L).Nodup ∧ ∀ k, k ∈ M.foldl (fun acc k => if k ∈ acc then acc else acc ++ [k]) L ↔ k ∈ L ∨ k ∈ M
  | [], L, nd => ⟨nd, fun k => by simp⟩
  | j :: M, L, nd => by
    have nd2 : (if j ∈ L then L else L ++ [j]).Nodup := by
      split
      · exact nd
      · rename_i c
        rw [List.nodup_append]
        exact ⟨nd, by simp, fun a ha b hb e => by rw [List.mem_singleton] at hb; subst hb; subst e; exact c ha⟩
    obtain ⟨h1, h2⟩ := setL_merge (n := n) (v := v) (u := u) (M := M) nd2
    refine ⟨h1, fun k => ?_⟩
    rw [List.foldl_cons, h2, List.mem_cons]
    split
    · rename_i c
      exact ⟨fun h => h.elim .inl fun q => .inr (.inr q), fun h => h.elim .inl fun q => q.elim (fun q => .inl (by rw [q]; exact c)) .inr⟩
    · simp [or_assoc]
/-! ### leads -/
def sp_leads : SpD := fun ds S R => ∃ (L : List Nat) (p : Addr) (M : List Nat) (c : Bool), ds = [rowD L, .loc p, .bl c] ∧ S p = some (.dct (sd M)) ∧ L.length ≤ 1000 ∧ R (.bl (if c = true then L.any fun k => M.contains k else L.all fun k => M.contains k)) S
theorem leads_go {L : List Nat} {p : Addr} {M : List Nat} {c : Bool} {S : Store} {R : DVK} (e : S p = some (.dct (sd M))) (hl : L.length ≤ 1000) (h : R (.bl (if c = true then L.any fun k => M.contains k else L.all fun k => M.contains k)) S) : sp_leads [rowD L, .loc p, .bl c] S R := ⟨L, p, M, c, rfl, e, hl, h⟩
/-- a list made by a look at each number -/
theorem lc_ints {p : Addr} {ok : Store → Prop} {step : D → Store → (Option D → Store → Prop) → Prop} (f : Nat → Option D) {S0 : Store} {Q : Store → Prop} {L : List Nat} (hl : L.length ≤ 16777215) (ho : ∀ ys, ok (S0.upd p (.lst ys)))
    (hs : ∀ k ∈ L, ∀ ys (c : Option D → Store → Prop), c (f k) (S0.upd p (.lst ys)) → step (.int (k : Nat)) (S0.upd p (.lst ys)) c) (h : Q (S0.upd p (.lst (L.filterMap f)))) : lcL p ok step (L.map fun k : Nat => D.int (k : Nat)) [] (S0.upd p (.lst [])) Q := by
  refine lc_go (fun x => match x with | .int i => f i.toNat | _ => none) (by simpa using hl) ho (fun y hy ys c h => ?_) ?_
  · obtain ⟨j, hj, rfl⟩ := List.mem_map.mp hy
    exact hs j hj ys c h
  · have e2 : (L.map fun k : Nat => D.int (k : Nat)).filterMap (fun x => match x with | .int i => f i.toNat | _ => none) = L.filterMap f := by
      rw [List.filterMap_map]
      rfl
    rw [e2]
    exact h
theorem map_bl (f : Nat → Bool) (L : List Nat) : (L.filterMap fun k => some (D.bl (f k))) = (L.map f).map D.bl := by
  induction L with
  | nil => rfl
  | cons k L ih => rw [List.filterMap_cons, List.map_cons, List.map_cons, ih]
theorem w_leads {Γ : G} : ∀ ds S R, sp_leads ds S R → wss Γ ir_leads (ends R) (startD ck_leads.N ds) S := by
  rintro _ S R ⟨L, p, M, c, rfl, e, hl, hR⟩
  cases c with
  | true =>
    simp [ir_leads, startD, ck_leads, rowD]
    intro r hr
    refine lc_ints (fun k => some (.bl (M.contains k))) (by omega) (fun _ => trivial) (fun k hk ys c h => ?_) ?_
    · simp [wipeD]
      refine ⟨_, (Store.upd_ne (Store.ne e hr)).trans e, ?_⟩
      rw [v_inod, look_sdn]
      exact ⟨rfl, h⟩
    · rw [map_bl]
      refine ⟨_, up_same, ?_⟩
      rw [v_boo]
      refine ⟨_, bools_of _, S, Le.new hr, ?_⟩
      simpa [List.any_map, Function.comp_def] using hR
  | false =>
    simp [ir_leads, startD, ck_leads, rowD]
    intro r hr
    refine lc_ints (fun k => some (.bl (M.contains k))) (by omega) (fun _ => trivial) (fun k hk ys c h => ?_) ?_
    · simp [wipeD]
      refine ⟨_, (Store.upd_ne (Store.ne e hr)).trans e, ?_⟩
      rw [v_inod, look_sdn]
      exact ⟨rfl, h⟩
    · rw [map_bl]
      refine ⟨_, up_same, ?_⟩
      rw [v_boo]
      refine ⟨_, bools_of _, S, Le.new hr, ?_⟩
      simpa [List.all_map, Function.comp_def] using hR
end Y

namespace Y
open PySem PySem.Spec L2
/-! ### found_places -/
/-- the names' places: in a dict, by tuples -/
def EnvD (kvs : List (D × D)) (n : Nat) (e : Ev) (X : List Int) : Prop := ∀ i ∈ X, ∃ L : List Nat, lookD kvs (.int i) = some (rowD L) ∧ SetL n (e i) L
def sp_found (N : Nat) : SpD := fun ds S R => ∃ W a b s K F e p kvs, ds = [Wd.d W, Sy.d s, .loc p] ∧ WOk a b W ∧ Wf a b K F s ∧ s.depth ≤ N ∧ S p = some (.dct kvs) ∧ kvs.length + 10 * s.depth ≤ 1000 ∧ EnvD kvs W.n e (K ++ F) ∧
  ∀ L q S', SetL W.n (den W s e) L → S q = none → Le S S' → S' q = some (.dct (sd L)) → R (.loc q) S'
theorem found_go {N : Nat} {W : Wd} {a b : Int} {s : Sy} {K F : List Int} {e : Ev} {p : Addr} {kvs : List (D × D)} {S : Store} {R : DVK} (hW : WOk a b W) (w : Wf a b K F s) (hd : s.depth ≤ N) (ep : S p = some (.dct kvs)) (hl : kvs.length + 10 * s.depth ≤ 1000) (he : EnvD kvs W.n e (K ++ F))
    (h : ∀ L q S', SetL W.n (den W s e) L → S q = none → Le S S' → S' q = some (.dct (sd L)) → R (.loc q) S') : sp_found N [W.d, s.d, .loc p] S R := ⟨W, a, b, s, K, F, e, p, kvs, rfl, hW, w, hd, ep, hl, he, h⟩
theorem lookD_put_same {k v : D} : ∀ {kvs : List (D × D)}, lookD (putD kvs k v) k = some v
  | [] => if_pos rfl
  | (k', v') :: r => by
    unfold putD
    by_cases c : k' = k
    · rw [if_pos c]; exact if_pos c
    · rw [if_neg c]
      show (if k' = k then some v' else lookD (putD r k v) k) = _
      rw [if_neg c, lookD_put_same]
theorem lookD_put_ne {k j v : D} (h : j ≠ k) : ∀ {kvs : List (D × D)}, lookD (putD kvs k v) j = lookD kvs j
  | [] => if_neg (Ne.symm h)
  | (k', v') :: r => by
    unfold putD
    by_cases c : k' = k
    · rw [if_pos c]
      have : ¬ k' = j := fun z => h (by rw [← z, c])
      show (if k' = j then some v else lookD r j) = if k' = j then some v' else lookD r j
      rw [if_neg this, if_neg this]
    · rw [if_neg c]
      show (if k' = j then some v' else lookD (putD r k v) j) = if k' = j then some v' else lookD r j
      rw [lookD_put_ne h]
theorem EnvD.put {kvs : List (D × D)} {n : Nat} {e : Ev} {K F : List Int} {i : Int} {v : Pl} {L : List Nat} (h : EnvD kvs n e (K ++ F)) (hL : SetL n v L) : EnvD (putD kvs (.int i) (rowD L)) n (e.upd i v) ((K ++ [i]) ++ F) := by
  intro j hj
  by_cases c : j = i
  · subst c
    refine ⟨L, lookD_put_same, ?_⟩
    have : e.upd j v j = v := if_pos rfl
    rw [this]
    exact hL
  · have hj : j ∈ K ++ F := by
      simp at hj ⊢
      rcases hj with q | q | q
      · exact .inl q
      · exact absurd q c
      · exact .inr q
    obtain ⟨M, h1, h2⟩ := h j hj
    refine ⟨M, by rw [lookD_put_ne (fun z => c (D.int.inj z))]; exact h1, ?_⟩
    have : e.upd i v j = e j := if_neg c
    rw [this]
    exact h2
theorem atD_row {n : Nat} {W : Wd} {k : Nat} (h : k < W.marks.length) : atD (W.marks.map rowD) (k : Int) = some (rowD W.marks[k]) := by
  rw [atD_nat, List.getElem?_map, List.getElem?_eq_getElem h]
  rfl
theorem mark_at {W : Wd} {i : Int} {a b : Int} (hW : WOk a b W) (h0 : 0 ≤ i) (h1 : i < a) : ∃ r : List Nat, atD (W.marks.map rowD) i = some (rowD r) ∧ r.length ≤ 1000 ∧ ∀ k : Nat, (r.contains k) = W.mark i.toNat k := by
  obtain ⟨j, rfl⟩ : ∃ j : Nat, i = j := ⟨i.toNat, by omega⟩
  have hj : j < W.marks.length := by have := hW.a; omega
  refine ⟨W.marks[j], atD_row (n := 0) hj, ?_, fun k => ?_⟩
  · have hr := hW.m _ (List.getElem_mem hj)
    have : SetL W.n (fun k => W.marks[j].contains k) W.marks[j] := ⟨hr.1.imp fun h => Nat.ne_of_lt h, fun k => ⟨fun h => ⟨hr.2 k h, by simpa using h⟩, fun h => by simpa using h.2⟩⟩
    have := this.len
    have := hW.n5
    omega
  · unfold Wd.mark
    rw [Int.toNat_natCast, List.getElem?_eq_getElem hj, Option.getD_some]
theorem row_at {W : Wd} {j : Int} {a b : Int} (hW : WOk a b W) (h0 : 0 ≤ j) (h1 : j < b) {k : Nat} (hk : k < W.n) : ∃ x : List D, atD (W.ways.map fun w => D.tup (w.map rowD)) j = some (.tup x) ∧ atD x (k : Int) = some (rowD (W.row j.toNat k)) ∧ (W.row j.toNat k).length ≤ 1000 := by
  obtain ⟨i, rfl⟩ : ∃ i : Nat, j = i := ⟨j.toNat, by omega⟩
  have hi : i < W.ways.length := by have := hW.b; omega
  have hx := hW.w _ (List.getElem_mem hi)
  have hk2 : k < W.ways[i].length := by rw [hx.1]; exact hk
  have er : W.row i k = W.ways[i][k] := by
    unfold Wd.row
    rw [List.getElem?_eq_getElem hi, Option.getD_some, List.getElem?_eq_getElem hk2, Option.getD_some]
  refine ⟨W.ways[i].map rowD, ?_, ?_, ?_⟩
  · rw [atD_nat, List.getElem?_map, List.getElem?_eq_getElem hi]
    rfl
  · rw [Int.toNat_natCast, er, atD_nat, List.getElem?_map, List.getElem?_eq_getElem hk2]
    rfl
  · have hr := hW.row (j := i) (k := k)
    rw [Int.toNat_natCast]
    have : SetL W.n (fun k' => (W.row i k).contains k') (W.row i k) := ⟨hr.1.imp fun h => Nat.ne_of_lt h, fun k' => ⟨fun h => ⟨hr.2 k' h, by simpa using h⟩, fun h => by simpa using h.2⟩⟩
    have := this.len
    have := hW.n5
    omega
theorem any_row (i : Int) (r : List Nat) : ((r.map fun k : Nat => D.int (k : Nat)).any fun z => eqd z (.int i)) = r.any fun k => decide ((k : Int) = i) := by
  rw [List.any_map]
  congr 1
theorem any_rown (j : Nat) (r : List Nat) : ((r.map fun k : Nat => D.int (k : Nat)).any fun z => eqd z (.int (j : Nat))) = r.contains j := by
  rw [any_row, ← look_sd, look_sdn]
theorem rangeD_map (n : Nat) : rangeD ((n : Nat) : Int).toNat = (List.range n).map fun k : Nat => D.int (k : Nat) := by
  unfold rangeD
  rw [Int.toNat_natCast]
theorem pls_row (n : Nat) (r : List Nat) : D.pls n (r.map fun k : Nat => D.int (k : Nat)) = true := by
  have := pls_ints n (r.map fun k : Nat => (k : Int))
  rwa [List.map_map] at this
/-- a dict of places, made by a look at each -/
theorem dc_places {p : Addr} {ok : Store → Prop} {step : D → Store → (Option (D × D) → Store → Prop) → Prop} (f : Nat → Bool) {S0 : Store} {Q : Store → Prop} {L : List Nat} (nd : L.Nodup) (hl : L.length ≤ 16777215) (ho : ∀ ys, ok (S0.upd p (.dct ys)))
    (hs : ∀ k ∈ L, ∀ ys (c : Option (D × D) → Store → Prop), c (if f k = true then some (.int (k : Nat), .bl true) else none) (S0.upd p (.dct ys)) → step (.int (k : Nat)) (S0.upd p (.dct ys)) c) (h : Q (S0.upd p (.dct (sd (L.filter f))))) :
    dcL p ok step (L.map fun k : Nat => D.int (k : Nat)) [] (S0.upd p (.dct [])) Q := by
  refine dc_go (gS f) (by simpa using hl) ho (fun x hx kv e => ?_) (fun x hx ys c h => ?_) ?_
  · obtain ⟨k, _, rfl⟩ := List.mem_map.mp hx
    unfold gS at e
    dsimp only at e
    split at e
    · have := Option.some.inj e
      rw [← this]
      rfl
    · cases e
  · obtain ⟨k, hk, rfl⟩ := List.mem_map.mp hx
    refine hs k hk ys c ?_
    have e : gS f (.int (k : Nat)) = if f k = true then some (.int (k : Nat), .bl true) else none := by simp [gS]
    rw [e] at h
    exact h
  · have := putAll_gS f L [] (by simpa using nd)
    rw [show sd [] = [] from rfl] at this
    rw [this]
    exact h
theorem setL_filter {n : Nat} {v u : Pl} {L : List Nat} (h : SetL n v L) : SetL n (fun k => v k && u k) (L.filter u) := ⟨h.nd.sublist List.filter_sublist, fun k => by
  rw [List.mem_filter, h.mem, Bool.and_eq_true, and_assoc]⟩
end Y

namespace Y
open PySem PySem.Spec L2
theorem SetL.cnt {n : Nat} {v : Pl} {L : List Nat} (h : SetL n v L) : L.length = cntP n v := by
  have p : L.Perm ((List.range n).filter v) := (List.perm_ext_iff_of_nodup h.nd (setL_range n v).nd).mpr fun k => (h.mem k).trans ((setL_range n v).mem k).symm
  exact p.length_eq
theorem eqKv_sd {n : Nat} {v u : Pl} {L M : List Nat} (h : SetL n v L) (g : SetL n u M) : eqKv (sd L) (sd M) = true ↔ EqP n v u := by
  unfold eqKv
  rw [Bool.and_eq_true, decide_eq_true_eq, List.all_eq_true, sd_len, sd_len, h.cnt, g.cnt]
  constructor
  · rintro ⟨e, a⟩
    have le : LeP n v u := fun k hk q => by
      have hm : (D.int (k : Nat), D.bl true) ∈ sd L := List.mem_map.mpr ⟨k, (h.mem k).mpr ⟨hk, q⟩, rfl⟩
      have := a _ hm
      have hs : (lookD (sd M) (.int (k : Nat))).isSome = true := by
        cases c : lookD (sd M) (.int (k : Nat)) with
        | none => rw [c] at this; cases this
        | some z => rfl
      rw [look_sdn, List.contains_iff_mem] at hs
      exact ((g.mem k).mp hs).2
    refine Classical.byContradiction fun ne => ?_
    have := cnt_lt le ne
    omega
  · intro e
    refine ⟨?_, fun kv hk => ?_⟩
    · have h1 := cnt_le e.le
      have h2 := cnt_le e.symm.le
      omega
    · obtain ⟨k, hk2, rfl⟩ := List.mem_map.mp hk
      have q := (h.mem k).mp hk2
      have hm : k ∈ M := (g.mem k).mpr ⟨q.1, by rw [← e k q.1]; exact q.2⟩
      have hs := look_sdn k M
      have lk : ∀ M : List Nat, k ∈ M → lookD (sd M) (.int (k : Nat)) = some (.bl true) := by
        intro M
        induction M with
        | nil => intro z; cases z
        | cons j M ih =>
          intro z
          show (if D.int (j : Nat) = D.int (k : Nat) then some (D.bl true) else lookD (sd M) (.int (k : Nat))) = _
          by_cases c : j = k
          · rw [if_pos (by rw [c])]
          · rw [if_neg (fun y => c (by have := D.int.inj y; omega))]
            rcases List.mem_cons.mp z with q | q
            · exact absurd q.symm c
            · exact ih q
      rw [lk M hm]
      rfl
theorem vPl_sd (L : List Nat) : vPl (sd L) = true := by
  unfold vPl sd
  rw [List.all_map, List.all_eq_true]
  intro k _
  simp
/-- the sorted places -/
theorem sorted_set_of {n : Nat} {v : Pl} {L : List Nat} (h : SetL n v L) {ns : List Int} (p : ns.Perm (L.map fun k : Nat => (k : Int))) (s : ns.Pairwise (· ≤ ·)) : ns = ((List.range n).filter v).map fun k : Nat => (k : Int) := by
  have p2 : L.Perm ((List.range n).filter v) := (List.perm_ext_iff_of_nodup h.nd (setL_range n v).nd).mpr fun k => (h.mem k).trans ((setL_range n v).mem k).symm
  refine List.Perm.eq_of_pairwise (le := fun x y : Int => x ≤ y) (fun a b _ _ h1 h2 => by omega) s ?_ (p.trans (p2.map _))
  rw [List.pairwise_map]
  exact (List.pairwise_lt_range.sublist List.filter_sublist).imp fun h => by omega
theorem ints_of_nat (L : List Nat) : intsD (L.map fun k : Nat => D.int (k : Nat)) = some (L.map fun k : Nat => (k : Int)) := by
  have := ints_of (L.map fun k : Nat => (k : Int))
  rwa [List.map_map] at this
theorem rowD_ints (L : List Nat) : D.tup ((L.map fun k : Nat => (k : Int)).map D.int) = rowD L := by
  rw [List.map_map]
  rfl
def plN (n : Nat) (v : Pl) : List Nat := (List.range n).filter v
/-- names of the statements -/
def fp0 : Y.S := .asg (.name (.one 3)) (.sub (.var 1) (.int 0))
def fp1 : Y.S := .ife (.cmp .inn (.var 3) (.tup [(.str "yes"), (.str "no")])) [.ret (.dc [10] (.one 10) (.range (.sub (.var 0) (.int 0))) (some (.cmp .eq (.var 3) (.str "yes"))) (.var 10) (.bl true))] []
def fp2 : Y.S := .ife (.cmp .inn (.var 3) (.tup [(.str "is"), (.str "isnt")])) [.ret (.dc [10] (.one 10) (.range (.sub (.var 0) (.int 0))) (some (.cmp .eq (.cmp .inn (.var 10) (.sub (.sub (.var 0) (.int 1)) (.sub (.var 1) (.int 1)))) (.cmp .eq (.var 3) (.str "is")))) (.var 10) (.bl true))] []
def fp3 : Y.S := .ife (.cmp .eq (.var 3) (.str "name")) [.ret (.dc [10] (.one 10) (.seq (.sub (.var 2) (.sub (.var 1) (.int 1)))) none (.var 10) (.bl true))] []
def fp4 : Y.S := .ife (.cmp .inn (.var 3) (.tup [(.str "both"), (.str "either")])) [.asg (.name (.many [8, 9])) (.tup [(.call "found_places" [(.var 0), (.sub (.var 1) (.int 1)), (.var 2)]), (.call "found_places" [(.var 0), (.sub (.var 1) (.int 2)), (.var 2)])]), .ife (.cmp .eq (.var 3) (.str "both")) [.ret (.dc [10] (.one 10) (.keys 8) (some (.cmp .inn (.var 10) (.var 9))) (.var 10) (.bl true))] [], .ex (.mt .update (.var 9) [(.var 8)]), .ret (.var 9)] []
def fp5 : Y.S := .ife (.cmp .inn (.var 3) (.tup [(.str "some"), (.str "all")])) [.asg (.name (.one 7)) (.call "found_places" [(.var 0), (.sub (.var 1) (.int 2)), (.var 2)]), .ret (.dc [10] (.one 10) (.range (.sub (.var 0) (.int 0))) (some (.call "leads" [(.sub (.sub (.sub (.var 0) (.int 2)) (.sub (.var 1) (.int 1))) (.var 10)), (.var 7), (.cmp .eq (.var 3) (.str "some"))])) (.var 10) (.bl true))] []
def fp6 : Y.S := .asg (.name (.one 4)) (.bi .dict [(.var 2)])
def fp7 : Y.S := .asg (.name (.one 5)) (.ite (.cmp .eq (.var 3) (.str "least")) (.dsp []) (.dc [10] (.one 10) (.range (.sub (.var 0) (.int 0))) none (.var 10) (.bl true)))
def fp8 : Y.S := .asg (.name (.one 6)) .non
def fp9 : Y.S := .whl (.cmp .ne (.var 5) (.var 6)) [.asg (.name (.one 6)) (.var 5), .asg (.sub (.var 4) (.sub (.var 1) (.int 1))) (.bi .tuple [(.bi .sorted [(.bi .list [(.var 5)])])]), .asg (.name (.one 5)) (.call "found_places" [(.var 0), (.sub (.var 1) (.int 2)), (.var 4)])]
def fp10 : Y.S := .ret (.var 5)
theorem ir_fp : ir_found_places = [fp0, fp1, fp2, fp3, fp4, fp5, fp6, fp7, fp8, fp9, fp10] := rfl
def fpC : E := .cmp .ne (.var 5) (.var 6)
def fpB : List Y.S := [.asg (.name (.one 6)) (.var 5), .asg (.sub (.var 4) (.sub (.var 1) (.int 1))) (.bi .tuple [(.bi .sorted [(.bi .list [(.var 5)])])]), .asg (.name (.one 5)) (.call "found_places" [(.var 0), (.sub (.var 1) (.int 2)), (.var 4)])]
theorem fp9_eq : fp9 = .whl fpC fpB := rfl
section
variable {Γ : G} {N : Nat} {W : Wd} {a b : Int}
abbrev fpS (W : Wd) (s : Sy) (p : Addr) (x3 x4 x5 x6 : Option D) : DSt := [some W.d, some s.d, some (.loc p), x3, x4, x5, x6, none, none, none, none]
theorem fix_sub1 {c : Bool} {i : Int} {x : Sy} {S : Store} {R : DVK} : subW (Sy.fix c i x).d (.int 1) S R = R (.int i) S := by
  show (∃ v, atD [D.str _, D.int i, x.d] 1 = some v ∧ R v S) = _
  simp
theorem fix_sub2 {c : Bool} {i : Int} {x : Sy} {S : Store} {R : DVK} : subW (Sy.fix c i x).d (.int 2) S R = R x.d S := by
  show (∃ v, atD [D.str _, D.int i, x.d] 2 = some v ∧ R v S) = _
  simp
theorem putD_len2 {kn : List (D × D)} {k v : D} : (putD kn k v).length ≤ kn.length + 1 := putD_len kn k v
theorem fp_body (g2 : Γ.fn "found_places" = sp_found N) (hW : WOk a b W) {c : Bool} {i : Int} {x : Sy} {K F : List Int} {e : Ev} (w : Wf a b (K ++ [i]) F x) (hd : x.depth ≤ N) {q0 p qn : Addr} {x3 bf : Option D} {Z : Ends} {S0 S : Store} (h0 : S0 q0 = none) {m : Nat} {kn : List (D × D)} {L : List Nat}
    (l : Le S0 S) (ek : S q0 = some (.dct kn)) (hk : kn.length + 1 + 10 * x.depth ≤ 1000) (env : ∀ j ∈ K ++ F, j ≠ i → ∃ M : List Nat, lookD kn (.int j) = some (rowD M) ∧ SetL W.n (e j) M) (en : S qn = some (.dct (sd L))) (nq : qn ≠ q0) (hL : SetL W.n (rnd W c i x e m) L)
    (h : ∀ q' L' M S', SetL W.n (rnd W c i x e (m + 1)) L' → Le S0 S' → S0 q' = none → q' ≠ q0 → S' q' = some (.dct (sd L')) → S' q0 = some (.dct (putD kn (.int i) (rowD M))) → S' qn = some (.dct (sd L)) → Z.nx (fpS W (.fix c i x) p x3 (some (.loc q0)) (some (.loc q')) (some (.loc qn))) S') :
    wss Γ fpB Z (fpS W (.fix c i x) p x3 (some (.loc q0)) (some (.loc qn)) bf) S := by
  simp [fpB, g2]
  refine ⟨_, en, ?_⟩
  rw [v_lstd, v_new]
  intro q1 hq1
  have n01 : q0 ≠ q1 := Store.ne ek hq1
  have nn1 : qn ≠ q1 := Store.ne en hq1
  refine ⟨_, up_same, ?_⟩
  rw [v_srto]
  have ek2 : (sd L).map (·.1) = L.map fun k : Nat => D.int (k : Nat) := by unfold sd; rw [List.map_map]; rfl
  refine ⟨L.map fun k : Nat => (k : Int), by rw [ek2]; exact ints_of_nat L, fun ns' hp hs => ?_⟩
  rw [v_new]
  intro q2 hq2
  have n12 : q1 ≠ q2 := Store.ne up_same hq2
  have hq2' := (Store.upd_none.mp hq2).2
  have n02 : q0 ≠ q2 := Store.ne ek hq2'
  have nn2 : qn ≠ q2 := Store.ne en hq2'
  have ens := sorted_set_of hL hp hs
  refine ⟨_, up_same, ?_⟩
  rw [v_tupo, fix_sub1]
  refine ⟨_, (Store.upd_ne n02).trans ((Store.upd_ne n01).trans ek), ?_⟩
  rw [v_setd]
  refine ⟨rfl, line_lt (by omega), ?_⟩
  rw [fix_sub2, ens, rowD_ints]
  have l3 : Le S0 ((((S.upd q1 (.lst ((sd L).map (·.1)))).upd q2 (.lst ((((List.range W.n).filter (rnd W c i x e m)).map fun k : Nat => (k : Int)).map D.int))).upd q0 (.dct (putD kn (.int i) (rowD ((List.range W.n).filter (rnd W c i x e m))))))) := fun z o ez => by
    have z1 : z ≠ q1 := Store.ne (l z o ez) hq1
    have z2 : z ≠ q2 := Store.ne (l z o ez) hq2'
    have z0 : z ≠ q0 := Store.ne ez h0
    rw [Store.upd_ne z0, Store.upd_ne z2, Store.upd_ne z1]
    exact l z o ez
  have pl : (putD kn (.int i) (rowD ((List.range W.n).filter (rnd W c i x e m)))).length ≤ kn.length + 1 := putD_len2
  refine found_go (e := e.upd i (rnd W c i x e m)) hW w hd up_same (by omega) ?_ fun L' q' S' hL' hn ll e' => ?_
  rotate_left
  · have nq' : q' ≠ q0 := by
      intro z
      rw [z, up_same] at hn
      cases hn
    refine h q' L' _ S' hL' (l3.trans ll) (l3.none hn) nq' e' (ll _ _ up_same) (ll _ _ ?_)
    rw [Store.upd_ne nq, Store.upd_ne nn2, Store.upd_ne nn1]
    exact en
  · intro j hj
    by_cases z : j = i
    · subst z
      refine ⟨_, lookD_put_same, ?_⟩
      have : e.upd j (rnd W c j x e m) j = rnd W c j x e m := if_pos rfl
      rw [this]
      exact setL_range _ _
    · have hj : j ∈ K ++ F := by
        simp at hj ⊢
        rcases hj with q | q | q
        · exact .inl q
        · exact absurd q z
        · exact .inr q
      obtain ⟨M, h1, h2⟩ := env j hj z
      refine ⟨M, by rw [lookD_put_ne (fun y => z (D.int.inj y))]; exact h1, ?_⟩
      have : e.upd i (rnd W c i x e m) j = e j := if_neg z
      rw [this]
      exact h2
theorem while_step {c : DTE} {b : Ends → DSt → Store → Prop} {n : Nat} {Z : Ends} {σ : DSt} {S : Store} (h : c σ S fun d S1 => ∃ t, d = .bl t ∧ if t = true then b ⟨fun σ2 S2 => whileN c b n Z σ2 S2, Z.rt⟩ σ S1 else Z.nx σ S1) : whileN c b (n + 1) Z σ S := h
theorem fp_cond {W : Wd} {s : Sy} {p : Addr} {x3 x4 : Option D} {u v : D} {S : Store} {R : DVK} (h : cmpW .ne u v S fun t S3 => R (.bl t) S3) : wp Γ fpC (fpS W s p x3 x4 (some u) (some v)) S R := ⟨u, rfl, v, rfl, h⟩
def BfOk (W : Wd) (c : Bool) (i : Int) (x : Sy) (e : Ev) (S : Store) (m : Nat) (bf : D) : Prop := (m = 0 ∧ bf = .non) ∨ ∃ m' q M, m = m' + 1 ∧ bf = .loc q ∧ S q = some (.dct (sd M)) ∧ SetL W.n (rnd W c i x e m') M
theorem fp_loop (g2 : Γ.fn "found_places" = sp_found N) (hW : WOk a b W) {c : Bool} {i : Int} {x : Sy} {K F : List Int} {e : Ev} (w : Wf a b (K ++ [i]) F x) (hd : x.depth ≤ N) {q0 p : Addr} {x3 : Option D} {Z : Ends} {S0 : Store} (h0 : S0 q0 = none) {B : Nat} (hB : B + W.n + 2 + 10 * x.depth ≤ 1000)
    (h : ∀ qn L bf S', SetL W.n (den W (.fix c i x) e) L → Le S0 S' → S0 qn = none → S' qn = some (.dct (sd L)) → Z.nx (fpS W (.fix c i x) p x3 (some (.loc q0)) (some (.loc qn)) bf) S') :
    ∀ (r m : Nat) (S : Store) (kn : List (D × D)) (qn : Addr) (L : List Nat) (bf : D), m + r = W.n + 1 → Le S0 S → S q0 = some (.dct kn) → kn.length ≤ B + m → (∀ j ∈ K ++ F, j ≠ i → ∃ M : List Nat, lookD kn (.int j) = some (rowD M) ∧ SetL W.n (e j) M) →
      S qn = some (.dct (sd L)) → S0 qn = none → qn ≠ q0 → SetL W.n (rnd W c i x e m) L → BfOk W c i x e S m bf → whileN (wp Γ fpC) (wss Γ fpB) (r + 1) Z (fpS W (.fix c i x) p x3 (some (.loc q0)) (some (.loc qn)) (some bf)) S := by
  intro r
  induction r with
  | zero =>
    intro m S kn qn L bf hm l ek hk env en hn nq hL hb
    rcases hb with ⟨rfl, _⟩ | ⟨m', q, M, rfl, rfl, eq_, hM⟩
    · omega
    · have hm' : m' = W.n := by omega
      subst hm'
      have st := rnd_rest (c := c) (e := e) hW w
      have ee := (eqKv_sd hL hM).mpr st.symm
      refine while_step (fp_cond ?_)
      rw [v_ne]
      refine ⟨_, en, _, eq_, vPl_sd _, vPl_sd _, ?_⟩
      rw [ee]
      refine ⟨_, rfl, ?_⟩
      exact h qn L _ S (hM.congr (rnd_end hW w st) |> fun z => hL.congr (st.symm.trans (rnd_end hW w st))) l hn en
  | succ r ih =>
    intro m S kn qn L bf hm l ek hk env en hn nq hL hb
    have body : ∀ bf : Option D, wss Γ fpB ⟨fun σ2 S2 => whileN (wp Γ fpC) (wss Γ fpB) (r + 1) Z σ2 S2, Z.rt⟩ (fpS W (.fix c i x) p x3 (some (.loc q0)) (some (.loc qn)) bf) S := fun bf =>
      fp_body g2 hW w hd h0 l ek (by omega) env en nq hL fun q' L' M S' hL' l' hn' nq' e' ek' en' => by
        refine ih (m + 1) S' _ q' L' (.loc qn) (by omega) l' ek' (by have := putD_len2 (kn := kn) (k := .int i) (v := rowD M); omega) (fun j hj z => ?_) e' hn' nq' hL' (.inr ⟨m, qn, L, rfl, rfl, en', hL⟩)
        obtain ⟨M', h1, h2⟩ := env j hj z
        exact ⟨M', by rw [lookD_put_ne (fun y => z (D.int.inj y))]; exact h1, h2⟩
    rcases hb with ⟨rfl, rfl⟩ | ⟨m', q, M, rfl, rfl, eq_, hM⟩
    · refine while_step (fp_cond ?_)
      rw [v_ne]
      refine ⟨_, en, ?_⟩
      refine ⟨_, rfl, ?_⟩
      exact body _
    · refine while_step (fp_cond ?_)
      rw [v_ne]
      refine ⟨_, en, _, eq_, vPl_sd _, vPl_sd _, ?_⟩
      cases ee : eqKv (sd L) (sd M) with
      | true =>
        have st := (eqKv_sd hL hM).mp ee
        refine ⟨_, rfl, ?_⟩
        exact h qn L _ S (hL.congr (st.trans (rnd_end hW w st.symm))) l hn en
      | false =>
        refine ⟨_, rfl, ?_⟩
        exact body _
end
end Y

namespace Y
open PySem PySem.Spec L2
section
variable {Γ : G} {N : Nat} {W : Wd} {a b : Int} {S : Store} {R : DVK}
@[simp] theorem w_sub0 : subW W.d (.int 0) S R = R (.int (W.n : Nat)) S := by
  show (∃ v, atD [D.int (W.n : Nat), _, _] 0 = some v ∧ R v S) = _
  simp
@[simp] theorem w_sub1 : subW W.d (.int 1) S R = R (.tup (W.marks.map rowD)) S := by
  show (∃ v, atD [D.int (W.n : Nat), .tup (W.marks.map rowD), _] 1 = some v ∧ R v S) = _
  simp
@[simp] theorem w_sub2 : subW W.d (.int 2) S R = R (.tup (W.ways.map fun w => .tup (w.map rowD))) S := by
  show (∃ v, atD [D.int (W.n : Nat), .tup (W.marks.map rowD), .tup (W.ways.map fun w => .tup (w.map rowD))] 2 = some v ∧ R v S) = _
  simp
theorem rng_eq (n : Nat) : rangeD n = (List.range n).map fun k : Nat => D.int (k : Nat) := rfl
theorem fp_dc {cnd : Option E} {σ : DSt} (f : Nat → Bool) (n5 : W.n ≤ 100) (h0 : σ[0]? = some (some W.d)) (len : 10 < σ.length) (hc : ∀ k, k < W.n → ∀ q ys (c : Bool → Store → Prop), S q = none → c (f k) (S.upd q (.dct ys)) → wpc Γ cnd ((σ.set 10 none).set 10 (some (.int (k : Nat)))) (S.upd q (.dct ys)) c)
    (h : ∀ q, S q = none → R (.loc q) (S.upd q (.dct (sd ((List.range W.n).filter f))))) : wp Γ (.dc [10] (.one 10) (.range (.sub (.var 0) (.int 0))) cnd (.var 10) (.bl true)) σ S R := by
  rw [x_dct, i_rng, x_subv]
  refine ⟨_, h0, ?_⟩
  simp only [x_int]
  rw [w_sub0]
  refine ⟨_, rfl, by omega, fun q hq => ?_⟩
  rw [rangeD_map]
  refine dc_places f List.nodup_range (by rw [List.length_range]; omega) (fun _ => trivial) (fun k hk ys cc hcc => ?_) (h q hq)
  refine ⟨_, rfl, hc k (List.mem_range.mp hk) q ys _ hq ?_⟩
  cases e : f k with
  | false =>
    rw [e] at hcc
    exact hcc
  | true =>
    rw [e] at hcc
    refine ⟨.int (k : Nat), ?_, ?_⟩
    · show ((σ.set 10 none).set 10 (some (.int (k : Nat))))[10]? = _
      rw [List.getElem?_set_self (by simpa using len)]
    · exact hcc
theorem w_found (g1 : Γ.fn "leads" = sp_leads) (g2 : Γ.fn "found_places" = sp_found N) : ∀ ds S R, sp_found (N + 1) ds S R → wss Γ ir_found_places (ends R) (startD ck_found_places.N ds) S := by
  rintro _ S R ⟨W, a, b, s, K, F, e, p, kvs, rfl, hW, w, hd, ep, hl, env, hR⟩
  have n5 := hW.n5
  have n1 := hW.n1
  have n100 : W.n ≤ 100 := by omega
  have fin : ∀ L q S', SetL W.n (den W s e) L → S q = none → Le S S' → S' q = some (.dct (sd L)) → ∃ S'', Le S'' S' ∧ R (.loc q) S'' := fun L q S' h1 h2 h3 h4 => ⟨S', .refl, hR L q S' h1 h2 h3 h4⟩
  have last : ∀ v : Pl, EqP W.n v (den W s e) → ∀ q, S q = none → ∃ S'', Le S'' (S.upd q (.dct (sd ((List.range W.n).filter v)))) ∧ R (.loc q) S'' := fun v h q hq => fin _ q _ ((setL_range W.n v).congr h) hq (Le.new hq) up_same
  rw [ir_fp]
  cases s with
  | yes c =>
    cases c with
    | true =>
      simp [fp0, fp1, startD, ck_found_places, Sy.d, Sy.tag, -x_dct]
      refine fp_dc (W := W) (fun _ => true) n100 rfl (by simp) (fun k hk q ys c hq h => ?_) (last _ fun k hk => rfl)
      simp
      exact h
    | false =>
      simp [fp0, fp1, startD, ck_found_places, Sy.d, Sy.tag, -x_dct]
      refine fp_dc (W := W) (fun _ => false) n100 rfl (by simp) (fun k hk q ys c hq h => ?_) (last _ fun k hk => rfl)
      simp
      exact h
  | is c i =>
    obtain ⟨w0, w1⟩ : 0 ≤ i ∧ i < a := w
    obtain ⟨r, e1, e2, e3⟩ := mark_at hW w0 w1
    have go : ∀ x : String, (x == "is") = c → wp Γ (.dc [10] (.one 10) (.range (.sub (.var 0) (.int 0))) (some (.cmp .eq (.cmp .inn (.var 10) (.sub (.sub (.var 0) (.int 1)) (.sub (.var 1) (.int 1)))) (.cmp .eq (.var 3) (.str "is")))) (.var 10) (.bl true)) [some W.d, some (.tup [.str x, .int i]), some (.loc p), some (.str x), none, none, none, none, none, none, none] S (ends R).rt := by
      intro x hx
      refine fp_dc (W := W) (fun k => W.mark i.toNat k == c) n100 rfl (by simp) (fun k hk q ys cc hq h => ?_) (last _ fun k hk => rfl)
      simp
      refine ⟨_, e1, ?_⟩
      unfold rowD
      rw [v_int]
      refine ⟨by simp, pls_row _ _, ?_⟩
      rw [any_rown, e3, hx]
      by_cases z : W.mark i.toNat k = c
      · simp [z] at h ⊢; exact h
      · have z2 : (W.mark i.toNat k == c) = false := by simpa using z
        rw [z2] at h
        simp [z]; exact h
    cases c with
    | true =>
      simp [fp0, fp1, fp2, startD, ck_found_places, Sy.d, Sy.tag, -x_dct]
      exact go "is" rfl
    | false =>
      simp [fp0, fp1, fp2, startD, ck_found_places, Sy.d, Sy.tag, -x_dct]
      exact go "isnt" rfl
  | name i =>
    have w : i ∈ F := w
    obtain ⟨L, e1, hL⟩ := env i (List.mem_append.mpr (.inr w))
    have ln := hL.len
    simp [fp0, fp1, fp2, fp3, startD, ck_found_places, Sy.d, Sy.tag]
    refine ⟨_, ep, ?_⟩
    rw [v_ixod]
    refine ⟨rfl, _, e1, ?_⟩
    unfold rowD
    rw [i_seqt]
    intro q hq
    refine dc_places (fun _ => true) hL.nd (by omega) (fun _ => trivial) (fun k hk ys cc h => ?_) ?_
    · simp [wipeD]
      exact h
    · have e2 : L.filter (fun _ => true) = L := List.filter_eq_self.mpr fun _ _ => rfl
      rw [e2]
      exact fin L q _ hL hq (Le.new hq) up_same
  | two c l r =>
    obtain ⟨w1, w2⟩ : Wf a b K F l ∧ Wf a b K F r := w
    have hd : max l.depth r.depth + 1 ≤ N + 1 := hd
    have hl : kvs.length + 10 * (max l.depth r.depth + 1) ≤ 1000 := hl
    have calls : ∀ Z : D → D → Store → Prop, (∀ q1 q2 L1 L2 S2, S q1 = none → S q2 = none → q1 ≠ q2 → Le S S2 → SetL W.n (den W l e) L1 → SetL W.n (den W r e) L2 → S2 q1 = some (.dct (sd L1)) → S2 q2 = some (.dct (sd L2)) → Z (.loc q1) (.loc q2) S2) →
        sp_found N [W.d, l.d, .loc p] S fun x S1 => sp_found N [W.d, r.d, .loc p] S1 fun y S2 => Z x y S2 := by
      intro Z h
      refine found_go hW w1 (by omega) ep (by omega) env fun L1 q1 S1 h1 hq1 l1 e1 => ?_
      refine found_go hW w2 (by omega) (l1 _ _ ep) (by omega) env fun L2 q2 S2 h2 hq2 l2 e2 => ?_
      exact h q1 q2 L1 L2 S2 hq1 (l1.none hq2) (Store.ne e1 hq2) (l1.trans l2) h1 h2 (l2 _ _ e1) e2
    have both : ∀ x : String, ∀ q1 q2 L1 L2 S2, S q1 = none → S q2 = none → q1 ≠ q2 → Le S S2 → SetL W.n (den W l e) L1 → SetL W.n (den W r e) L2 → S2 q1 = some (.dct (sd L1)) → S2 q2 = some (.dct (sd L2)) → EqP W.n (fun k => den W l e k && den W r e k) (den W (.two c l r) e) →
        wp Γ (.dc [10] (.one 10) (.keys 8) (some (.cmp .inn (.var 10) (.var 9))) (.var 10) (.bl true)) [some W.d, some (.tup [.str x, l.d, r.d]), some (.loc p), some (.str x), none, none, none, none, some (.loc q1), some (.loc q2), none] S2 (ends R).rt := by
      intro x q1 q2 L1 L2 S2 hq1 hq2 ne l2 h1 h2 e1 e2 he
      have ln := h1.len
      rw [x_dct, i_keys]
      refine ⟨_, _, rfl, e1, fun q hq => ?_⟩
      obtain ⟨nq1, hq⟩ := Store.upd_none.mp hq
      have nq2 : q2 ≠ q := Store.ne e2 hq
      have ek : (sd L1).map (·.1) = L1.map fun k : Nat => D.int (k : Nat) := by unfold sd; rw [List.map_map]; rfl
      rw [ek]
      refine dc_places (fun k => L2.contains k) h1.nd (by omega) (fun ys => by rw [Store.upd_ne (Ne.symm nq1), up_same]) (fun k hk ys cc h => ?_) ?_
      · simp [wipeD]
        refine ⟨_, ((Store.upd_ne nq2).trans (Store.upd_ne (Ne.symm ne))).trans e2, ?_⟩
        rw [v_inod, look_sdn]
        refine ⟨rfl, ?_⟩
        cases z : L2.contains k <;> rw [z] at h <;> simp at h ⊢ <;> exact h
      · refine fin _ q _ ((setL_filter h1).congr fun k hk => ?_) (l2.none hq) ?_ ((Store.upd_ne nq1).trans up_same)
        · show (den W l e k && L2.contains k) = _
          rw [h2.has hk]
          exact he k hk
        · intro z o ez
          have z1 : z ≠ q1 := Store.ne ez hq1
          have z2 : z ≠ q := Store.ne (l2 z o ez) hq
          exact (Store.upd_ne z1).trans ((Store.upd_ne z2).trans ((Store.upd_ne z1).trans (l2 z o ez)))
    cases c with
    | true =>
      simp [fp0, fp1, fp2, fp3, fp4, startD, ck_found_places, Sy.d, Sy.tag, -x_dct, g2]
      refine calls _ fun q1 q2 L1 L2 S2 hq1 hq2 ne l2 h1 h2 e1 e2 => ?_
      exact both "both" q1 q2 L1 L2 S2 hq1 hq2 ne l2 h1 h2 e1 e2 fun k hk => by simp [den]
    | false =>
      simp [fp0, fp1, fp2, fp3, fp4, startD, ck_found_places, Sy.d, Sy.tag, -x_dct, g2]
      refine calls _ fun q1 q2 L1 L2 S2 hq1 hq2 ne l2 h1 h2 e1 e2 => ?_
      have l1n := h1.len
      have l2n := h2.len
      refine ⟨⟨_, e2, rfl⟩, _, e2, ?_⟩
      show updW (.loc q1) (.dct (sd L2)) q2 S2 _
      rw [v_upd2]
      refine ⟨fun z => ne (by cases z; rfl), _, e1, ?_⟩
      rw [v_upd3]
      refine ⟨line_le (by rw [sd_len, sd_len]; omega), ?_⟩
      rw [merge_sd]
      obtain ⟨m1, m2⟩ := setL_merge (n := W.n) (v := den W l e) (u := den W r e) (M := L1) h2.nd
      refine fin _ q2 _ ⟨m1, fun k => ?_⟩ hq2 (l2.set hq2) up_same
      rw [m2, h1.mem, h2.mem]
      simp [den]
      constructor
      · rintro (⟨k1, k2⟩ | ⟨k1, k2⟩)
        · exact ⟨k1, .inr k2⟩
        · exact ⟨k1, .inl k2⟩
      · rintro ⟨k1, k2 | k2⟩
        · exact .inr ⟨k1, k2⟩
        · exact .inl ⟨k1, k2⟩
  | step c j x =>
    obtain ⟨w0, w1, w2⟩ : 0 ≤ j ∧ j < b ∧ Wf a b K K x := w
    have hd : x.depth + 1 ≤ N + 1 := hd
    have hl : kvs.length + 10 * (x.depth + 1) ≤ 1000 := hl
    have envK : EnvD kvs W.n e (K ++ K) := fun i hi => env i (List.mem_append.mpr (.inl (by simpa using hi)))
    have go : ∀ y : String, (y == "some") = c → ∀ q1 L1 S1, S q1 = none → Le S S1 → SetL W.n (den W x e) L1 → S1 q1 = some (.dct (sd L1)) →
        wp Γ (.dc [10] (.one 10) (.range (.sub (.var 0) (.int 0))) (some (.call "leads" [(.sub (.sub (.sub (.var 0) (.int 2)) (.sub (.var 1) (.int 1))) (.var 10)), (.var 7), (.cmp .eq (.var 3) (.str "some"))])) (.var 10) (.bl true)) [some W.d, some (.tup [.str y, .int j, x.d]), some (.loc p), some (.str y), none, none, none, some (.loc q1), none, none, none] S1 (ends R).rt := by
      intro y hy q1 L1 S1 hq1 l1 h1 e1
      refine fp_dc (W := W) (den W (.step c j x) e) n100 rfl (by simp) (fun k hk q ys cc hq h => ?_) fun q hq => ?_
      · obtain ⟨z, r1, r2, r3⟩ := row_at hW w0 w1 hk
        simp [g1]
        refine ⟨_, r1, ?_⟩
        rw [v_ixt]
        refine ⟨_, r2, ?_⟩
        rw [hy]
        refine leads_go ((Store.upd_ne (Store.ne e1 hq)).trans e1) r3 ?_
        have hr := (hW.row (j := j.toNat) (k := k)).2
        have q : (if c = true then (W.row j.toNat k).any fun k => L1.contains k else (W.row j.toNat k).all fun k => L1.contains k) = den W (.step c j x) e k := by
          have a1 : ∀ l : List Nat, (∀ g ∈ l, g < W.n) → (l.any fun k => L1.contains k) = l.any (den W x e) := by
            intro l
            induction l with
            | nil => intro _; rfl
            | cons g l ih =>
              intro hl
              rw [List.any_cons, List.any_cons, ih fun g' hg' => hl g' (List.mem_cons_of_mem _ hg'), h1.has (hl g List.mem_cons_self)]
          have a2 : ∀ l : List Nat, (∀ g ∈ l, g < W.n) → (l.all fun k => L1.contains k) = l.all (den W x e) := by
            intro l
            induction l with
            | nil => intro _; rfl
            | cons g l ih =>
              intro hl
              rw [List.all_cons, List.all_cons, ih fun g' hg' => hl g' (List.mem_cons_of_mem _ hg'), h1.has (hl g List.mem_cons_self)]
          rw [a1 _ hr, a2 _ hr]
          rfl
        rw [q]
        cases z : den W (.step c j x) e k <;> rw [z] at h <;> simp <;> exact h
      · exact fin _ q _ (setL_range W.n _) (l1.none hq) (l1.trans (Le.new hq)) up_same
    cases c with
    | true =>
      simp [fp0, fp1, fp2, fp3, fp4, fp5, startD, ck_found_places, Sy.d, Sy.tag, -x_dct, g2]
      exact found_go hW w2 (by omega) ep (by omega) envK fun L1 q1 S1 h1 hq1 l1 e1 => go "some" rfl q1 L1 S1 hq1 l1 h1 e1
    | false =>
      simp [fp0, fp1, fp2, fp3, fp4, fp5, startD, ck_found_places, Sy.d, Sy.tag, -x_dct, g2]
      exact found_go hW w2 (by omega) ep (by omega) envK fun L1 q1 S1 h1 hq1 l1 e1 => go "all" rfl q1 L1 S1 hq1 l1 h1 e1
  | fix c i x =>
    obtain ⟨w0, w1, w2⟩ : 0 ≤ i ∧ i ≤ 19 ∧ Wf a b (K ++ [i]) F x := w
    have hd : x.depth + 1 ≤ N + 1 := hd
    have hl : kvs.length + 10 * (x.depth + 1) ≤ 1000 := hl
    have loop : ∀ q0 qn S2, S q0 = none → S qn = none → q0 ≠ qn → Le S S2 → S2 q0 = some (.dct kvs) → S2 qn = some (.dct (sd ((List.range W.n).filter fun _ => !c))) →
        wss Γ [fp8, fp9, fp10] (ends R) (fpS W (.fix c i x) p (some (.str (Sy.fix c i x).tag)) (some (.loc q0)) (some (.loc qn)) none) S2 := by
      intro q0 qn S2 h0 hn ne l2 e0 en
      refine ⟨_, rfl, ?_⟩
      refine ⟨W.n + 1 + 1, ?_⟩
      exact fp_loop (Z := ⟨fun σ1 S1 => wss Γ [fp10] (ends R) σ1 S1, (ends R).rt⟩) g2 hW w2 (by omega) h0 (B := kvs.length) (by omega) (fun qn L bf S' h1 h2 h3 h4 => ⟨_, rfl, fin L qn S' h1 h3 h2 h4⟩) (W.n + 1) 0 S2 kvs qn _ .non (by omega) l2 e0 (by omega) (fun j hj z => env j hj) en hn (Ne.symm ne) (setL_range W.n _) (.inl ⟨rfl, rfl⟩)
    cases c with
    | true =>
      simp [fp0, fp1, fp2, fp3, fp4, fp5, fp6, fp7, startD, ck_found_places, Sy.d, Sy.tag, -x_dct]
      refine ⟨_, ep, ?_⟩
      rw [v_dictd, v_new]
      intro q0 h0 qn hn
      obtain ⟨ne, hn'⟩ := Store.upd_none.mp hn
      refine ⟨[], rfl, by simp, by simp, ?_⟩
      have en : ((List.range W.n).filter fun _ => !true) = [] := by simp
      exact loop q0 qn _ h0 hn' (Ne.symm ne) ((Le.new h0).trans (Le.new hn)) ((Store.upd_ne (Ne.symm ne)).trans up_same) (by rw [en]; exact up_same)
    | false =>
      simp [fp0, fp1, fp2, fp3, fp4, fp5, fp6, fp7, startD, ck_found_places, Sy.d, Sy.tag, -x_dct]
      refine ⟨_, ep, ?_⟩
      rw [v_dictd, v_new]
      intro q0 h0
      refine fp_dc (W := W) (fun _ => true) n100 rfl (by simp) (fun k hk q ys c hq h => ?_) fun qn hn => ?_
      · simp
        exact h
      · obtain ⟨ne, hn'⟩ := Store.upd_none.mp hn
        exact loop q0 qn _ h0 hn' (Ne.symm ne) ((Le.new h0).trans (Le.new hn)) ((Store.upd_ne (Ne.symm ne)).trans up_same) up_same
end
end Y

namespace Y
open PySem PySem.Spec L2
/-! ### worth, places_where, next_places -/
def sp_worth (N : Nat) : SpD := fun ds S R => ∃ W a b s K F e p kvs, ds = [Wd.d W, Sy.d s, .loc p] ∧ WOk a b W ∧ Wf a b K F s ∧ s.depth ≤ N ∧ S p = some (.dct kvs) ∧ kvs.length + 10 * s.depth ≤ 1000 ∧ EnvD kvs W.n e (K ++ F) ∧ R (rowD (plN W.n (den W s e))) S
theorem worth_go {N : Nat} {W : Wd} {a b : Int} {s : Sy} {K F : List Int} {e : Ev} {p : Addr} {kvs : List (D × D)} {S : Store} {R : DVK} (hW : WOk a b W) (w : Wf a b K F s) (hd : s.depth ≤ N) (ep : S p = some (.dct kvs)) (hl : kvs.length + 10 * s.depth ≤ 1000) (he : EnvD kvs W.n e (K ++ F))
    (h : R (rowD (plN W.n (den W s e))) S) : sp_worth N [W.d, s.d, .loc p] S R := ⟨W, a, b, s, K, F, e, p, kvs, rfl, hW, w, hd, ep, hl, he, h⟩
theorem w_worth {Γ : G} {N : Nat} (g2 : Γ.fn "found_places" = sp_found N) : ∀ ds S R, sp_worth N ds S R → wss Γ ir_worth (ends R) (startD ck_worth.N ds) S := by
  rintro _ S R ⟨W, a, b, s, K, F, e, p, kvs, rfl, hW, w, hd, ep, hl, env, hR⟩
  simp [ir_worth, startD, ck_worth, g2]
  refine found_go hW w hd ep hl env fun L q S1 hL hq l1 e1 => ?_
  refine ⟨_, e1, ?_⟩
  rw [v_lstd, v_new]
  intro q1 hq1
  refine ⟨_, up_same, ?_⟩
  rw [v_srto]
  have ek2 : (sd L).map (·.1) = L.map fun k : Nat => D.int (k : Nat) := by unfold sd; rw [List.map_map]; rfl
  refine ⟨L.map fun k : Nat => (k : Int), by rw [ek2]; exact ints_of_nat L, fun ns' hp hs => ?_⟩
  rw [v_new]
  intro q2 hq2
  refine ⟨_, up_same, ?_⟩
  rw [v_tupo, sorted_set_of hL hp hs, rowD_ints]
  exact ⟨S, (l1.trans (Le.new hq1)).trans (Le.new hq2), hR⟩
def e0 : Ev := fun _ _ => false
def sp_pw (N : Nat) : SpD := fun ds S R => ∃ W a b s, ds = [Wd.d W, Sy.d s] ∧ WOk a b W ∧ Wf a b [] [] s ∧ s.depth ≤ N ∧ s.depth ≤ 90 ∧ R (rowD (plN W.n (den W s e0))) S
theorem pw_go {N : Nat} {W : Wd} {a b : Int} {s : Sy} {S : Store} {R : DVK} (hW : WOk a b W) (w : Wf a b [] [] s) (hd : s.depth ≤ N) (h9 : s.depth ≤ 90) (h : R (rowD (plN W.n (den W s e0))) S) : sp_pw N [W.d, s.d] S R := ⟨W, a, b, s, rfl, hW, w, hd, h9, h⟩
theorem w_pw {Γ : G} {N : Nat} (g2 : Γ.fn "worth" = sp_worth N) : ∀ ds S R, sp_pw N ds S R → wss Γ ir_places_where (ends R) (startD ck_places_where.N ds) S := by
  rintro _ S R ⟨W, a, b, s, rfl, hW, w, hd, h9, hR⟩
  simp [ir_places_where, startD, ck_places_where, g2]
  intro p hp
  refine ⟨[], rfl, by simp, by simp, ?_⟩
  refine worth_go (K := []) (F := []) (e := e0) hW w hd up_same (by simp [mergeD]; omega) (fun i hi => by cases hi) ?_
  exact ⟨S, Le.new hp, hR⟩
def sp_next : SpD := fun ds S R => ∃ W a b j k, ds = [Wd.d W, .int j, .int k] ∧ WOk a b W ∧ 0 ≤ j ∧ j < b ∧ 0 ≤ k ∧ k < (W.n : Nat) ∧ R (rowD (W.row j.toNat k.toNat)) S
theorem next_go {W : Wd} {a b j k : Int} {S : Store} {R : DVK} (hW : WOk a b W) (j0 : 0 ≤ j) (j1 : j < b) (k0 : 0 ≤ k) (k1 : k < (W.n : Nat)) (h : R (rowD (W.row j.toNat k.toNat)) S) : sp_next [W.d, .int j, .int k] S R := ⟨W, a, b, j, k, rfl, hW, j0, j1, k0, k1, h⟩
theorem w_next {Γ : G} : ∀ ds S R, sp_next ds S R → wss Γ ir_next_places (ends R) (startD ck_next_places.N ds) S := by
  rintro _ S R ⟨W, a, b, j, k, rfl, hW, j0, j1, k0, k1, hR⟩
  obtain ⟨i, rfl⟩ : ∃ i : Nat, k = i := ⟨k.toNat, by omega⟩
  obtain ⟨z, r1, r2, r3⟩ := row_at hW j0 j1 (k := i) (by omega)
  simp [ir_next_places, startD, ck_next_places]
  refine ⟨_, r1, ?_⟩
  rw [v_ixt]
  exact ⟨_, r2, S, .refl, hR⟩
end Y

namespace Y
open PySem PySem.Spec L2
/-! ### _law_where -/
def natD (L : List Nat) : List D := L.map fun k : Nat => D.int (k : Nat)
theorem natD_len (L : List Nat) : (natD L).length = L.length := by simp [natD]
theorem pls_nat (n : Nat) (L : List Nat) : D.pls n (natD L) = true := pls_row n L
theorem eqds_nat : ∀ L M : List Nat, eqds (natD L) (natD M) = decide (L = M)
  | [], [] => rfl
  | [], _ :: _ => by simp [natD, eqds]
  | _ :: _, [] => by simp [natD, eqds]
  | a :: L, b :: M => by
    show (eqd (.int (a : Nat)) (.int (b : Nat)) && eqds (natD L) (natD M)) = _
    rw [eqds_nat L M, e_ii, Bool.eq_iff_iff]
    simp
    intro _
    omega
theorem plN_eq {n : Nat} {v u : Pl} : plN n v = plN n u ↔ EqP n v u := by
  constructor
  · intro h k hk
    have h1 := (setL_range n v).has hk
    have h2 := (setL_range n u).has hk
    have h : (List.range n).filter v = (List.range n).filter u := h
    rw [← h1, ← h2, h]
  · intro h
    unfold plN
    exact List.filter_congr fun k hk => h k (List.mem_range.mp hk)
theorem plN_len (n : Nat) (v : Pl) : (plN n v).length ≤ n := (setL_range n v).len
def EnvL (S : Store) (kvs : List (D × D)) (n : Nat) (e : Ev) (X : List Int) : Prop := ∀ i ∈ X, ∃ q, lookD kvs (.int i) = some (.loc q) ∧ S q = some (.lst (natD (plN n (e i))))
def KeysOk (kvs : List (D × D)) : Prop := ∀ kv ∈ kvs, keyOk kv.1 = true
theorem EnvL.le {S S' : Store} {kvs : List (D × D)} {n : Nat} {e : Ev} {X : List Int} (h : EnvL S kvs n e X) (l : Le S S') : EnvL S' kvs n e X := fun i hi => let ⟨q, h1, h2⟩ := h i hi; ⟨q, h1, l _ _ h2⟩
theorem KeysOk.put {k v : D} (hk : keyOk k = true) : ∀ {kvs : List (D × D)}, KeysOk kvs → KeysOk (putD kvs k v)
  | [], _ => fun kv h => by
    rw [putD, List.mem_singleton] at h
    subst h
    exact hk
  | (k', v') :: r, h => by
    unfold putD
    have hr : KeysOk r := fun kv m => h kv (List.mem_cons_of_mem _ m)
    by_cases c : k' = k
    · rw [if_pos c]
      intro kv m
      rcases List.mem_cons.mp m with rfl | m
      · exact h (k', v') List.mem_cons_self
      · exact hr kv m
    · rw [if_neg c]
      intro kv m
      rcases List.mem_cons.mp m with rfl | m
      · exact h (k', v') List.mem_cons_self
      · exact KeysOk.put hk hr kv m
def sp_where (N : Nat) : SpD := fun ds S R => ∃ W a b s K F e p kvs, ds = [Wd.d W, Sy.d s, .loc p] ∧ WOk a b W ∧ Wf a b K F s ∧ s.depth ≤ N ∧ S p = some (.dct kvs) ∧ kvs.length + 10 * s.depth ≤ 1000 ∧ KeysOk kvs ∧ EnvL S kvs W.n e (K ++ F) ∧
  ∀ q S', Le S S' → S' q = some (.lst (natD (plN W.n (den W s e)))) → R (.loc q) S'
theorem where_go {N : Nat} {W : Wd} {a b : Int} {s : Sy} {K F : List Int} {e : Ev} {p : Addr} {kvs : List (D × D)} {S : Store} {R : DVK} (hW : WOk a b W) (w : Wf a b K F s) (hd : s.depth ≤ N) (ep : S p = some (.dct kvs)) (hl : kvs.length + 10 * s.depth ≤ 1000) (ho : KeysOk kvs) (he : EnvL S kvs W.n e (K ++ F))
    (h : ∀ q S', Le S S' → S' q = some (.lst (natD (plN W.n (den W s e)))) → R (.loc q) S') : sp_where N [W.d, s.d, .loc p] S R := ⟨W, a, b, s, K, F, e, p, kvs, rfl, hW, w, hd, ep, hl, ho, he, h⟩
theorem map_filt (f : Nat → Bool) (L : List Nat) : (L.filterMap fun k => if f k = true then some (D.int (k : Nat)) else none) = natD (L.filter f) := by
  induction L with
  | nil => rfl
  | cons k L ih =>
    rw [List.filterMap_cons, List.filter_cons, ih]
    cases f k <;> rfl
def wh0 : Y.S := .asg (.name (.one 3)) (.sub (.var 1) (.int 0))
def wh1 : Y.S := .asg (.name (.one 4)) (.sub (.var 0) (.int 0))
def wh2 : Y.S := .ife (.cmp .inn (.var 3) (.tup [(.str "yes"), (.str "no")])) [.ret (.ite (.cmp .eq (.var 3) (.str "yes")) (.bi .listrange [(.var 4)]) (.lst []))] []
def wh3 : Y.S := .ife (.cmp .inn (.var 3) (.tup [(.str "is"), (.str "isnt")])) [.ret (.lc [13] (.one 13) (.range (.var 4)) (some (.cmp .eq (.cmp .inn (.var 13) (.sub (.sub (.var 0) (.int 1)) (.sub (.var 1) (.int 1)))) (.cmp .eq (.var 3) (.str "is")))) (.var 13))] []
def wh4 : Y.S := .ife (.cmp .eq (.var 3) (.str "name")) [.ret (.sub (.var 2) (.sub (.var 1) (.int 1)))] []
def wh5 : Y.S := .ife (.cmp .inn (.var 3) (.tup [(.str "both"), (.str "either")])) [.asg (.name (.many [11, 12])) (.tup [(.call "_law_where" [(.var 0), (.sub (.var 1) (.int 1)), (.var 2)]), (.call "_law_where" [(.var 0), (.sub (.var 1) (.int 2)), (.var 2)])]), .ret (.lc [13] (.one 13) (.range (.var 4)) (some (.ite (.cmp .eq (.var 3) (.str "both")) (.bop true [(.cmp .inn (.var 13) (.var 11)), (.cmp .inn (.var 13) (.var 12))]) (.bop false [(.cmp .inn (.var 13) (.var 11)), (.cmp .inn (.var 13) (.var 12))]))) (.var 13))] []
def wh6 : Y.S := .ife (.cmp .inn (.var 3) (.tup [(.str "some"), (.str "all")])) [.asg (.name (.one 7)) (.call "_law_where" [(.var 0), (.sub (.var 1) (.int 2)), (.var 2)]), .asg (.name (.one 8)) (.lc [13] (.one 13) (.range (.var 4)) none (.lc [14] (.one 14) (.seq (.sub (.sub (.sub (.var 0) (.int 2)) (.sub (.var 1) (.int 1))) (.var 13))) (some (.cmp .eq (.cmp .inn (.var 14) (.var 7)) (.cmp .eq (.var 3) (.str "some")))) (.var 14))), .ret (.lc [13] (.one 13) (.range (.var 4)) (some (.cmp .eq (.cmp .gt (.bi .len [(.sub (.var 8) (.var 13))]) (.int 0)) (.cmp .eq (.var 3) (.str "some")))) (.var 13))] []
def wh7 : Y.S := .asg (.name (.one 5)) (.ite (.cmp .eq (.var 3) (.str "least")) (.lst []) (.bi .listrange [(.var 4)]))
def wh8 : Y.S := .asg (.name (.one 6)) .non
def wh9 : Y.S := .whl (.cmp .ne (.var 5) (.var 6)) [.asg (.name (.one 6)) (.var 5), .asg (.name (.one 9)) (.dsp []), .frr (.one 10) (.keys 2) [.asg (.sub (.var 9) (.var 10)) (.sub (.var 2) (.var 10))], .asg (.sub (.var 9) (.sub (.var 1) (.int 1))) (.var 5), .asg (.name (.one 5)) (.call "_law_where" [(.var 0), (.sub (.var 1) (.int 2)), (.var 9)])]
def wh10 : Y.S := .ret (.var 5)
theorem ir_wh : ir__law_where = [wh0, wh1, wh2, wh3, wh4, wh5, wh6, wh7, wh8, wh9, wh10] := rfl
section
variable {Γ : G} {N : Nat} {W : Wd} {a b : Int} {S : Store} {R : DVK}
theorem wh_lc {cnd : Option E} {σ : DSt} (f : Nat → Bool) (n5 : W.n ≤ 100) (h4 : σ[4]? = some (some (.int (W.n : Nat)))) (len : 13 < σ.length) (hc : ∀ k, k < W.n → ∀ q ys (c : Bool → Store → Prop), S q = none → c (f k) (S.upd q (.lst ys)) → wpc Γ cnd ((σ.set 13 none).set 13 (some (.int (k : Nat)))) (S.upd q (.lst ys)) c)
    (h : ∀ q, S q = none → R (.loc q) (S.upd q (.lst (natD (plN W.n f))))) : wp Γ (.lc [13] (.one 13) (.range (.var 4)) cnd (.var 13)) σ S R := by
  rw [x_lct, i_rng, x_var]
  refine ⟨_, h4, _, rfl, by omega, fun q hq => ?_⟩
  rw [rangeD_map]
  refine lc_ints (fun k => if f k = true then some (D.int (k : Nat)) else none) (by rw [List.length_range]; omega) (fun _ => trivial) (fun k hk ys cc hcc => ?_) (by rw [map_filt]; exact h q hq)
  refine ⟨_, rfl, hc k (List.mem_range.mp hk) q ys _ hq ?_⟩
  cases e : f k with
  | false =>
    rw [e] at hcc
    exact hcc
  | true =>
    rw [e] at hcc
    refine ⟨.int (k : Nat), ?_, ?_⟩
    · show ((σ.set 13 none).set 13 (some (.int (k : Nat))))[13]? = _
      rw [List.getElem?_set_self (by simpa using len)]
    · exact hcc
/-- the copy of the names -/
def cpB : List Y.S := [.asg (.sub (.var 9) (.var 10)) (.sub (.var 2) (.var 10))]
def copyF (kvs : List (D × D)) (ks : List D) (acc : List (D × D)) : List (D × D) := ks.foldl (fun acc k => putD acc k ((lookD kvs k).getD .non)) acc
theorem look_copy (kvs : List (D × D)) (j : D) : ∀ (ks : List D) (acc : List (D × D)), (j ∈ ks → lookD (copyF kvs ks acc) j = some ((lookD kvs j).getD .non)) ∧ (j ∉ ks → lookD (copyF kvs ks acc) j = lookD acc j)
  | [], acc => ⟨fun h => (by cases h), fun _ => rfl⟩
  | k :: ks, acc => by
    obtain ⟨h1, h2⟩ := look_copy kvs j ks (putD acc k ((lookD kvs k).getD .non))
    constructor
    · intro h
      by_cases m : j ∈ ks
      · exact h1 m
      · rcases List.mem_cons.mp h with rfl | h
        · exact (h2 m).trans lookD_put_same
        · exact absurd h m
    · intro h
      rw [List.mem_cons, not_or] at h
      exact (h2 h.2).trans (lookD_put_ne h.1)
theorem copy_len (kvs : List (D × D)) : ∀ (ks : List D) (acc : List (D × D)), (copyF kvs ks acc).length ≤ acc.length + ks.length
  | [], acc => Nat.le_refl _
  | k :: ks, acc => by
    have h1 := copy_len kvs ks (putD acc k ((lookD kvs k).getD .non))
    have h2 := putD_len acc k ((lookD kvs k).getD .non)
    show (copyF kvs ks (putD acc k ((lookD kvs k).getD .non))).length ≤ _
    simp only [List.length_cons]
    omega
theorem copy_ok (kvs : List (D × D)) : ∀ (ks : List D) (acc : List (D × D)), (∀ k ∈ ks, keyOk k = true) → KeysOk acc → KeysOk (copyF kvs ks acc)
  | [], acc, _, h => h
  | k :: ks, acc, hk, h => copy_ok kvs ks _ (fun j hj => hk j (List.mem_cons_of_mem _ hj)) (KeysOk.put (hk k List.mem_cons_self) h)
theorem look_key {kvs : List (D × D)} {k : D} (h : k ∈ kvs.map (·.1)) : ∃ v, lookD kvs k = some v := by
  induction kvs with
  | nil => cases h
  | cons kv r ih =>
    obtain ⟨k', v'⟩ := kv
    by_cases c : k' = k
    · exact ⟨v', if_pos c⟩
    · have h : k ∈ r.map (·.1) := by
        rcases List.mem_cons.mp h with q | q
        · exact absurd q.symm c
        · exact q
      obtain ⟨v, e⟩ := ih h
      exact ⟨v, (if_neg c).trans e⟩
theorem key_look {kvs : List (D × D)} {k v : D} (h : lookD kvs k = some v) : k ∈ kvs.map (·.1) := by
  induction kvs with
  | nil => cases h
  | cons kv r ih =>
    obtain ⟨k', v'⟩ := kv
    by_cases c : k' = k
    · rw [List.map_cons, ← c]
      exact List.mem_cons_self
    · have h : lookD r k = some v := (if_neg c).symm.trans h
      exact List.mem_cons_of_mem _ (ih h)
abbrev whS (W : Wd) (s : Sy) (p : Addr) (x3 x5 x6 x9 x10 : Option D) : DSt := [some W.d, some s.d, some (.loc p), x3, some (.int (W.n : Nat)), x5, x6, none, none, x9, x10, none, none, none, none]
theorem copy_loop {kvs : List (D × D)} {p q9 : Addr} (ne : p ≠ q9) {s : Sy} {x3 x5 x6 : Option D} {Z : Ends} : ∀ (ks : List D) (acc : List (D × D)) (x10 : Option D) (S : Store), (∀ k ∈ ks, keyOk k = true ∧ ∃ v, lookD kvs k = some v) → acc.length + ks.length ≤ 100000 → S p = some (.frz kvs) → S q9 = some (.dct acc) →
    (∀ x10 S', (∀ z, z ≠ q9 → S' z = S z) → S' q9 = some (.dct (copyF kvs ks acc)) → Z.nx (whS W s p x3 x5 x6 (some (.loc q9)) x10) S') → forL (.one 10) (fun S2 => S2 p = some (.frz kvs)) (wss Γ cpB) ks Z (whS W s p x3 x5 x6 (some (.loc q9)) x10) S
  | [], acc, x10, S, _, _, ep, e9, h => ⟨ep, h _ S (fun _ _ => rfl) e9⟩
  | k :: ks, acc, x10, S, hk, hl, ep, e9, h => by
    simp only [List.length_cons] at hl
    obtain ⟨k1, v, k2⟩ := hk k List.mem_cons_self
    refine ⟨ep, _, rfl, ?_⟩
    simp [cpB]
    refine ⟨_, ep, ?_⟩
    rw [v_ixof]
    refine ⟨k1, v, k2, _, e9, ?_⟩
    rw [v_setd]
    refine ⟨k1, line_lt (by omega), ?_⟩
    refine copy_loop ne ks (putD acc k v) _ (S.upd q9 (.dct (putD acc k v))) (fun j hj => hk j (List.mem_cons_of_mem _ hj)) (by have := putD_len acc k v; omega) ((Store.upd_ne ne).trans ep) up_same fun x10' S' h1 h2 => ?_
    refine h x10' S' (fun z hz => (h1 z hz).trans (Store.upd_ne hz)) ?_
    have e : copyF kvs (k :: ks) acc = copyF kvs ks (putD acc k v) := by
      show copyF kvs ks (putD acc k ((lookD kvs k).getD .non)) = _
      rw [k2]
      rfl
    rw [e]
    exact h2
end
end Y

namespace Y
open PySem PySem.Spec L2
section
variable {Γ : G} {N : Nat} {W : Wd} {a b : Int}
def whC : E := .cmp .ne (.var 5) (.var 6)
def whB : List Y.S := [.asg (.name (.one 6)) (.var 5), .asg (.name (.one 9)) (.dsp []), .frr (.one 10) (.keys 2) cpB, .asg (.sub (.var 9) (.sub (.var 1) (.int 1))) (.var 5), .asg (.name (.one 5)) (.call "_law_where" [(.var 0), (.sub (.var 1) (.int 2)), (.var 9)])]
theorem wh9_eq : wh9 = .whl whC whB := rfl
theorem wh_body (g2 : Γ.fn "_law_where" = sp_where N) (hW : WOk a b W) {c : Bool} {i : Int} {x : Sy} {K F : List Int} {e : Ev} (w : Wf a b (K ++ [i]) F x) (hd : x.depth ≤ N) {p qn : Addr} {x3 x6 x9 x10 : Option D} {Z : Ends} {S : Store} {m : Nat} {kvs : List (D × D)}
    (ep : S p = some (.dct kvs)) (hk : kvs.length + 1 + 10 * x.depth ≤ 1000) (ko : KeysOk kvs) (env : EnvL S kvs W.n e (K ++ F)) (en : S qn = some (.lst (natD (plN W.n (rnd W c i x e m)))))
    (h : ∀ q' x9 x10 S', Le S S' → S' q' = some (.lst (natD (plN W.n (rnd W c i x e (m + 1))))) → Z.nx (whS W (.fix c i x) p x3 (some (.loc q')) (some (.loc qn)) x9 x10) S') :
    wss Γ whB Z (whS W (.fix c i x) p x3 (some (.loc qn)) x6 x9 x10) S := by
  refine ⟨_, rfl, _, rfl, ?_⟩
  show ∀ q, S q = none → ∃ kv, pairUp [] = some kv ∧ (S.upd q (.dct [])) q = some (.dct []) ∧ (∀ y ∈ kv, keyOk y.1 = true) ∧ kv.length ≤ 15 ∧ _
  intro q9 h9
  have n9 : p ≠ q9 := Store.ne ep h9
  have nn : qn ≠ q9 := Store.ne en h9
  refine ⟨[], rfl, up_same, by simp, by simp, ?_⟩
  show ∃ σ1, _ = some σ1 ∧ _
  refine ⟨_, rfl, ?_⟩
  rw [Store.upd_upd]
  show ∃ a kv, _ ∧ _
  refine ⟨p, kvs, rfl, (Store.upd_ne n9).trans ep, ?_⟩
  refine copy_loop (s := .fix c i x) (x5 := some (.loc qn)) (x6 := some (.loc qn)) n9 (kvs.map (·.1)) [] _ ((S.upd q9 (.dct (mergeD [] []))).upd p (.frz kvs)) (fun k hk => ⟨?_, look_key hk⟩) (by simp; omega) up_same ((Store.upd_ne (Ne.symm n9)).trans up_same) fun x10' S1 h1 h2 => ?_
  · obtain ⟨kv, hkv, rfl⟩ := List.mem_map.mp hk
    exact ko kv hkv
  · have l1 : Le S (S1.upd p (.dct kvs)) := fun z o ez => by
      by_cases zp : z = p
      · subst zp
        rw [ep] at ez
        cases ez
        exact up_same
      · have z9 : z ≠ q9 := Store.ne ez h9
        rw [Store.upd_ne zp, h1 z z9, Store.upd_ne zp, Store.upd_ne z9]
        exact ez
    have e9 : (S1.upd p (.dct kvs)) q9 = some (.dct (copyF kvs (kvs.map (·.1)) [])) := (Store.upd_ne (Ne.symm n9)).trans h2
    simp [g2]
    rw [fix_sub1]
    refine ⟨_, e9, ?_⟩
    rw [v_setd]
    have cl := copy_len kvs (kvs.map (·.1)) []
    simp at cl
    refine ⟨rfl, line_lt (by omega), ?_⟩
    rw [fix_sub2]
    have l2 : Le S ((S1.upd p (.dct kvs)).upd q9 (.dct (putD (copyF kvs (kvs.map (·.1)) []) (.int i) (.loc qn)))) := l1.set h9
    have pl := putD_len (copyF kvs (kvs.map (·.1)) []) (.int i) (.loc qn)
    refine where_go (e := e.upd i (rnd W c i x e m)) hW w hd up_same (by omega) (KeysOk.put rfl (copy_ok kvs _ [] (fun k hk => ?_) (fun kv hkv => by cases hkv))) (fun j hj => ?_) fun q' S' ll e' => h q' _ _ S' (l2.trans ll) e'
    · obtain ⟨kv, hkv, rfl⟩ := List.mem_map.mp hk
      exact ko kv hkv
    · by_cases z : j = i
      · subst z
        refine ⟨qn, lookD_put_same, ?_⟩
        have : e.upd j (rnd W c j x e m) j = rnd W c j x e m := if_pos rfl
        rw [this]
        exact l2 _ _ en
      · have hj : j ∈ K ++ F := by
          simp at hj ⊢
          rcases hj with q | q | q
          · exact .inl q
          · exact absurd q z
          · exact .inr q
        obtain ⟨q, q1, q2⟩ := env j hj
        refine ⟨q, ?_, ?_⟩
        · rw [lookD_put_ne (fun y => z (D.int.inj y)), (look_copy kvs (.int j) (kvs.map (·.1)) []).1 (key_look q1), q1]
          rfl
        · have : e.upd i (rnd W c i x e m) j = e j := if_neg z
          rw [this]
          exact l2 _ _ q2
end
end Y

namespace Y
open PySem PySem.Spec L2
section
variable {Γ : G} {N : Nat} {W : Wd} {a b : Int}
theorem wh_cond {s : Sy} {p : Addr} {x3 x9 x10 : Option D} {u v : D} {S : Store} {R : DVK} (h : cmpW .ne u v S fun t S3 => R (.bl t) S3) : wp Γ whC (whS W s p x3 (some u) (some v) x9 x10) S R := ⟨u, rfl, v, rfl, h⟩
def BfL (W : Wd) (c : Bool) (i : Int) (x : Sy) (e : Ev) (S : Store) (m : Nat) (bf : D) : Prop := (m = 0 ∧ bf = .non) ∨ ∃ m' q, m = m' + 1 ∧ bf = .loc q ∧ S q = some (.lst (natD (plN W.n (rnd W c i x e m'))))
theorem wh_loop (g2 : Γ.fn "_law_where" = sp_where N) (hW : WOk a b W) {c : Bool} {i : Int} {x : Sy} {K F : List Int} {e : Ev} (w : Wf a b (K ++ [i]) F x) (hd : x.depth ≤ N) {p : Addr} {x3 : Option D} {Z : Ends} {S0 : Store} {kvs : List (D × D)} (ep : S0 p = some (.dct kvs)) (hk : kvs.length + 1 + 10 * x.depth ≤ 1000)
    (ko : KeysOk kvs) (env : EnvL S0 kvs W.n e (K ++ F)) (h : ∀ qn x6 x9 x10 S', Le S0 S' → S' qn = some (.lst (natD (plN W.n (den W (.fix c i x) e)))) → Z.nx (whS W (.fix c i x) p x3 (some (.loc qn)) x6 x9 x10) S') :
    ∀ (r m : Nat) (S : Store) (qn : Addr) (bf : D) (x9 x10 : Option D), m + r = W.n + 1 → Le S0 S → S qn = some (.lst (natD (plN W.n (rnd W c i x e m)))) → BfL W c i x e S m bf → whileN (wp Γ whC) (wss Γ whB) (r + 1) Z (whS W (.fix c i x) p x3 (some (.loc qn)) (some bf) x9 x10) S := by
  intro r
  induction r with
  | zero =>
    intro m S qn bf x9 x10 hm l en hb
    rcases hb with ⟨rfl, _⟩ | ⟨m', q, rfl, rfl, eq_⟩
    · omega
    · have hm' : m' = W.n := by omega
      subst hm'
      have st := rnd_rest (c := c) (e := e) hW w
      have ee : plN W.n (rnd W c i x e (W.n + 1)) = plN W.n (rnd W c i x e W.n) := plN_eq.mpr st.symm
      refine while_step (wh_cond ?_)
      rw [v_ne]
      refine ⟨_, en, _, eq_, pls_nat _ _, pls_nat _ _, ?_⟩
      rw [eqds_nat, decide_eq_true ee]
      refine ⟨_, rfl, ?_⟩
      refine h qn _ _ _ S l ?_
      rw [en, ee, plN_eq.mpr (rnd_end hW w st)]
  | succ r ih =>
    intro m S qn bf x9 x10 hm l en hb
    have body : ∀ x6 : Option D, wss Γ whB ⟨fun σ2 S2 => whileN (wp Γ whC) (wss Γ whB) (r + 1) Z σ2 S2, Z.rt⟩ (whS W (.fix c i x) p x3 (some (.loc qn)) x6 x9 x10) S := fun x6 =>
      wh_body g2 hW w hd (l _ _ ep) hk ko (env.le l) en fun q' x9' x10' S' l' e' => ih (m + 1) S' q' (.loc qn) x9' x10' (by omega) (l.trans l') e' (.inr ⟨m, qn, rfl, rfl, l' _ _ en⟩)
    rcases hb with ⟨rfl, rfl⟩ | ⟨m', q, rfl, rfl, eq_⟩
    · refine while_step (wh_cond ?_)
      rw [v_ne]
      refine ⟨_, en, pls_nat _ _, rfl, ?_⟩
      refine ⟨_, rfl, ?_⟩
      exact body _
    · refine while_step (wh_cond ?_)
      rw [v_ne]
      refine ⟨_, en, _, eq_, pls_nat _ _, pls_nat _ _, ?_⟩
      rw [eqds_nat]
      by_cases ee : plN W.n (rnd W c i x e (m' + 1)) = plN W.n (rnd W c i x e m')
      · have st := plN_eq.mp ee
        rw [decide_eq_true ee]
        refine ⟨_, rfl, ?_⟩
        refine h qn _ _ _ S l ?_
        rw [en, ee, plN_eq.mpr (rnd_end hW w st.symm)]
      · rw [decide_eq_false ee]
        refine ⟨_, rfl, ?_⟩
        exact body _
/-- rows, each a new list -/
theorem lc_rows {P : Nat → Prop} {r : Addr} {step : D → Store → (Option D → Store → Prop) → Prop} (f : Nat → List Nat) {S0 : Store} (hr : S0 r = none) {Q : Store → Prop}
    (hs : ∀ k S (c : Option D → Store → Prop), P k → Le S0 S → (∀ q, S q = none → c (some (.loc q)) (S.upd q (.lst (natD (f k))))) → step (.int (k : Nat)) S c) : ∀ (L : List Nat), (∀ k ∈ L, P k) → ∀ (done : List Nat) (acc : List D) (S : Store), acc.length + L.length ≤ 1000 → acc.length = done.length → Le S0 S → S r = some (.lst acc) →
      (∀ (j : Nat) (k : Nat), done[j]? = some k → ∃ q, acc[j]? = some (.loc q) ∧ q ≠ r ∧ S q = some (.lst (natD (f k)))) →
      (∀ (acc' : List D) (S' : Store), Le S0 S' → S' r = some (.lst acc') → (∀ (j : Nat) (k : Nat), (done ++ L)[j]? = some k → ∃ q, acc'[j]? = some (.loc q) ∧ S' q = some (.lst (natD (f k)))) → Q S') →
      lcL r (fun _ => True) step (L.map fun k : Nat => D.int (k : Nat)) acc S Q
  | [], _, done, acc, S, hl, hlen, l, e, hd, h => by
    refine ⟨trivial, h acc S l e fun j k hk => ?_⟩
    rw [List.append_nil] at hk
    obtain ⟨q, h1, _, h2⟩ := hd j k hk
    exact ⟨q, h1, h2⟩
  | k :: L, hP, done, acc, S, hl, hlen, l, e, hd, h => by
    simp only [List.length_cons] at hl
    refine ⟨trivial, hs k S _ (hP k List.mem_cons_self) l fun q hq => ?_⟩
    have nq : q ≠ r := fun z => by rw [z, e] at hq; cases hq
    refine ⟨(Store.upd_ne (Ne.symm nq)).trans e, line_lt (by omega), ?_⟩
    have l2 : Le S0 ((S.upd q (.lst (natD (f k)))).upd r (.lst (acc ++ [.loc q]))) := (l.trans (Le.new hq)).set hr
    refine lc_rows f hr hs L (fun j hj => hP j (List.mem_cons_of_mem _ hj)) (done ++ [k]) (acc ++ [.loc q]) _ (by simp; omega) (by simp [hlen]) l2 up_same (fun j k' hk' => ?_) fun acc' S' h1 h2 h3 => h acc' S' h1 h2 (by rw [List.append_assoc] at h3; exact h3)
    by_cases z : j < done.length
    · rw [List.getElem?_append_left z] at hk'
      obtain ⟨q', a1, a2, a3⟩ := hd j k' hk'
      refine ⟨q', by rw [List.getElem?_append_left (by omega)]; exact a1, a2, ?_⟩
      have : q' ≠ q := Store.ne a3 hq
      exact (Store.upd_ne a2).trans ((Store.upd_ne this).trans a3)
    · have zj : j = done.length := by
        have := (List.getElem?_eq_some_iff.mp hk').1
        simp at this
        omega
      subst zj
      simp at hk'
      subst hk'
      exact ⟨q, by rw [← hlen]; simp, nq, (Store.upd_ne nq).trans up_same⟩
end
end Y

namespace Y
open PySem PySem.Spec L2
section
variable {Γ : G} {N : Nat}
theorem in_nat (j : Nat) (L : List Nat) : ((natD L).any fun z => eqd z (.int (j : Nat))) = L.contains j := any_rown j L
theorem plN_all (n : Nat) : plN n (fun _ => true) = List.range n := List.filter_eq_self.mpr fun _ _ => rfl
theorem plN_none (n : Nat) : plN n (fun _ => false) = [] := by simp [plN]
theorem wh_rows {W : Wd} {a b : Int} (hW : WOk a b W) {j : Int} (w0 : 0 ≤ j) (w1 : j < b) {y : String} {c : Bool} (hy : (y == "some") = c) {q1 : Addr} {v : Pl} {xd : D} {p : Addr} {S : Store} {R : DVK} (e1 : S q1 = some (.lst (natD (plN W.n v))))
    (h : ∀ r acc S', Le S S' → S' r = some (.lst acc) → (∀ k, k < W.n → ∃ q, acc[k]? = some (.loc q) ∧ S' q = some (.lst (natD ((W.row j.toNat k).filter fun g => v g == c)))) → R (.loc r) S') :
    wp Γ (.lc [13] (.one 13) (.range (.var 4)) none (.lc [14] (.one 14) (.seq (.sub (.sub (.sub (.var 0) (.int 2)) (.sub (.var 1) (.int 1))) (.var 13))) (some (.cmp .eq (.cmp .inn (.var 14) (.var 7)) (.cmp .eq (.var 3) (.str "some")))) (.var 14))) [some W.d, some (.tup [.str y, .int j, xd]), some (.loc p), some (.str y), some (.int (W.n : Nat)), none, none, some (.loc q1), none, none, none, none, none, none, none] S R := by
  have n5 := hW.n5
  rw [x_lct, i_rng, x_var]
  refine ⟨_, rfl, _, rfl, by omega, fun r hr => ?_⟩
  have nr : q1 ≠ r := Store.ne e1 hr
  rw [rangeD_map]
  refine lc_rows (P := fun k => k < W.n) (S0 := S) (fun k => (W.row j.toNat k).filter fun g => v g == c) hr (fun k S2 cc hk l2 hc => ?_) (List.range W.n) (fun k hk => List.mem_range.mp hk) [] [] _ (by simp; omega) rfl (Le.new hr) up_same (fun j k hk => by simp at hk) fun acc S' l' er hacc => ?_
  · obtain ⟨z, r1, r2, r3⟩ := row_at hW w0 w1 hk
    have hrow := (hW.row (j := j.toNat) (k := k)).2
    simp [wipeD]
    refine ⟨_, r1, ?_⟩
    rw [v_ixt]
    refine ⟨_, r2, ?_⟩
    unfold rowD
    rw [i_seqt]
    intro q hq
    have e1' : S2 q1 = some (.lst (natD (plN W.n v))) := l2 _ _ e1
    have n1q : q1 ≠ q := Store.ne e1' hq
    refine lc_ints (fun g => if (v g == c) = true then some (D.int (g : Nat)) else none) (by omega) (fun _ => trivial) (fun g hg ys c2 h2 => ?_) ?_
    · refine ⟨_, (Store.upd_ne n1q).trans e1', ?_⟩
      rw [v_inol]
      refine ⟨by simp, pls_nat _ _, ?_⟩
      have i1 : ((natD (plN W.n v)).any fun z => eqd z (.int (g : Nat))) = v g := (in_nat g _).trans ((setL_range W.n v).has (hrow g hg))
      rw [i1, hy]
      cases d1 : v g <;> cases c <;> simp [d1] at h2 ⊢ <;> exact h2
    · have e3 : ((W.row j.toNat k).filterMap fun g => if (v g == c) = true then some (D.int (g : Nat)) else none) = natD ((W.row j.toNat k).filter fun g => v g == c) := map_filt (fun g => v g == c) _
      rw [e3]
      exact hc q hq
  · refine h r acc S' l' er fun k hk => ?_
    obtain ⟨q, h1, h2⟩ := hacc k k (by rw [List.nil_append, List.getElem?_range hk])
    exact ⟨q, h1, h2⟩
theorem w_where (g2 : Γ.fn "_law_where" = sp_where N) : ∀ ds S R, sp_where (N + 1) ds S R → wss Γ ir__law_where (ends R) (startD ck__law_where.N ds) S := by
  rintro _ S R ⟨W, a, b, s, K, F, e, p, kvs, rfl, hW, w, hd, ep, hl, ko, env, hR⟩
  have n5 := hW.n5
  have n1 := hW.n1
  have n100 : W.n ≤ 100 := by omega
  have fin : ∀ q S', Le S S' → S' q = some (.lst (natD (plN W.n (den W s e)))) → ∃ S'', Le S'' S' ∧ R (.loc q) S'' := fun q S' h1 h2 => ⟨S', .refl, hR q S' h1 h2⟩
  have last : ∀ v : Pl, EqP W.n v (den W s e) → ∀ S1, Le S S1 → ∀ q, S1 q = none → ∃ S'', Le S'' (S1.upd q (.lst (natD (plN W.n v)))) ∧ R (.loc q) S'' := fun v h S1 l q hq => fin q _ (l.trans (Le.new hq)) (by rw [up_same, plN_eq.mpr h])
  rw [ir_wh]
  cases s with
  | yes c =>
    cases c with
    | true =>
      simp [wh0, wh1, wh2, startD, ck__law_where, Sy.d, Sy.tag]
      refine ⟨by omega, fun q hq => ?_⟩
      have := last (fun _ => true) (fun k hk => rfl) S .refl q hq
      rw [plN_all] at this
      exact this
    | false =>
      simp [wh0, wh1, wh2, startD, ck__law_where, Sy.d, Sy.tag]
      intro q hq
      have := last (fun _ => false) (fun k hk => rfl) S .refl q hq
      rw [plN_none] at this
      exact this
  | is c i =>
    obtain ⟨w0, w1⟩ : 0 ≤ i ∧ i < a := w
    obtain ⟨r, e1, e2, e3⟩ := mark_at hW w0 w1
    have go : ∀ x : String, (x == "is") = c → wp Γ (.lc [13] (.one 13) (.range (.var 4)) (some (.cmp .eq (.cmp .inn (.var 13) (.sub (.sub (.var 0) (.int 1)) (.sub (.var 1) (.int 1)))) (.cmp .eq (.var 3) (.str "is")))) (.var 13)) [some W.d, some (.tup [.str x, .int i]), some (.loc p), some (.str x), some (.int (W.n : Nat)), none, none, none, none, none, none, none, none, none, none] S (ends R).rt := by
      intro x hx
      refine wh_lc (W := W) (fun k => W.mark i.toNat k == c) n100 rfl (by simp) (fun k hk q ys cc hq h => ?_) (last _ (fun k hk => rfl) S .refl)
      simp
      refine ⟨_, e1, ?_⟩
      unfold rowD
      rw [v_int]
      refine ⟨by simp, pls_row _ _, ?_⟩
      rw [any_rown, e3, hx]
      by_cases z : W.mark i.toNat k = c
      · simp [z] at h ⊢; exact h
      · have z2 : (W.mark i.toNat k == c) = false := by simpa using z
        rw [z2] at h
        simp [z]; exact h
    cases c with
    | true =>
      simp [wh0, wh1, wh2, wh3, startD, ck__law_where, Sy.d, Sy.tag, -x_lct]
      exact go "is" rfl
    | false =>
      simp [wh0, wh1, wh2, wh3, startD, ck__law_where, Sy.d, Sy.tag, -x_lct]
      exact go "isnt" rfl
  | name i =>
    have w : i ∈ F := w
    obtain ⟨q, e1, e2⟩ := env i (List.mem_append.mpr (.inr w))
    simp [wh0, wh1, wh2, wh3, wh4, startD, ck__law_where, Sy.d, Sy.tag]
    refine ⟨_, ep, ?_⟩
    rw [v_ixod]
    exact ⟨rfl, _, e1, fin q S .refl e2⟩
  | two c l r =>
    obtain ⟨w1, w2⟩ : Wf a b K F l ∧ Wf a b K F r := w
    have hd : max l.depth r.depth + 1 ≤ N + 1 := hd
    have hl : kvs.length + 10 * (max l.depth r.depth + 1) ≤ 1000 := hl
    have calls : ∀ Z : D → D → Store → Prop, (∀ q1 q2 S2, Le S S2 → S2 q1 = some (.lst (natD (plN W.n (den W l e)))) → S2 q2 = some (.lst (natD (plN W.n (den W r e)))) → Z (.loc q1) (.loc q2) S2) →
        sp_where N [W.d, l.d, .loc p] S fun x S1 => sp_where N [W.d, r.d, .loc p] S1 fun y S2 => Z x y S2 := by
      intro Z h
      refine where_go hW w1 (by omega) ep (by omega) ko env fun q1 S1 l1 e1 => ?_
      refine where_go hW w2 (by omega) (l1 _ _ ep) (by omega) ko (env.le l1) fun q2 S2 l2 e2 => ?_
      exact h q1 q2 S2 (l1.trans l2) (l2 _ _ e1) e2
    have go : ∀ y : String, (y == "both") = c → ∀ q1 q2 S2, Le S S2 → S2 q1 = some (.lst (natD (plN W.n (den W l e)))) → S2 q2 = some (.lst (natD (plN W.n (den W r e)))) →
        wp Γ (.lc [13] (.one 13) (.range (.var 4)) (some (.ite (.cmp .eq (.var 3) (.str "both")) (.bop true [(.cmp .inn (.var 13) (.var 11)), (.cmp .inn (.var 13) (.var 12))]) (.bop false [(.cmp .inn (.var 13) (.var 11)), (.cmp .inn (.var 13) (.var 12))]))) (.var 13)) [some W.d, some (.tup [.str y, l.d, r.d]), some (.loc p), some (.str y), some (.int (W.n : Nat)), none, none, none, none, none, none, some (.loc q1), some (.loc q2), none, none] S2 (ends R).rt := by
      intro y hy q1 q2 S2 l2 e1 e2
      refine wh_lc (W := W) (den W (.two c l r) e) n100 rfl (by simp) (fun k hk q ys cc hq h => ?_) (last _ (fun k hk => rfl) S2 l2)
      have e1' : (S2.upd q (.lst ys)) q1 = _ := (Store.upd_ne (Store.ne e1 hq)).trans e1
      have e2' : (S2.upd q (.lst ys)) q2 = _ := (Store.upd_ne (Store.ne e2 hq)).trans e2
      have c1 := (setL_range W.n (den W l e)).has hk
      have c2 := (setL_range W.n (den W r e)).has hk
      have i1 : ((natD (plN W.n (den W l e))).any fun z => eqd z (.int (k : Nat))) = den W l e k := (in_nat k _).trans c1
      have i2 : ((natD (plN W.n (den W r e))).any fun z => eqd z (.int (k : Nat))) = den W r e k := (in_nat k _).trans c2
      have p1 := pls_nat 100 (plN W.n (den W l e))
      have p2 := pls_nat 100 (plN W.n (den W r e))
      cases c with
      | true =>
        have hy : y = "both" := by simpa using hy
        subst hy
        cases d1 : den W l e k <;> cases d2 : den W r e k <;> simp [den, d1, d2] at h <;> simp [e1', e2', i1, i2, p1, p2, d1, d2] <;> exact h
      | false =>
        have hy : ¬ y = "both" := by simpa using hy
        cases d1 : den W l e k <;> cases d2 : den W r e k <;> simp [den, d1, d2] at h <;> simp [hy, e1', e2', i1, i2, p1, p2, d1, d2] <;> exact h
    cases c with
    | true =>
      simp [wh0, wh1, wh2, wh3, wh4, wh5, startD, ck__law_where, Sy.d, Sy.tag, -x_lct, g2]
      exact calls _ fun q1 q2 S2 l2 e1 e2 => go "both" rfl q1 q2 S2 l2 e1 e2
    | false =>
      simp [wh0, wh1, wh2, wh3, wh4, wh5, startD, ck__law_where, Sy.d, Sy.tag, -x_lct, g2]
      exact calls _ fun q1 q2 S2 l2 e1 e2 => go "either" rfl q1 q2 S2 l2 e1 e2
  | step c j x =>
    obtain ⟨w0, w1, w2⟩ : 0 ≤ j ∧ j < b ∧ Wf a b K K x := w
    have hd : x.depth + 1 ≤ N + 1 := hd
    have hl : kvs.length + 10 * (x.depth + 1) ≤ 1000 := hl
    have envK : EnvL S kvs W.n e (K ++ K) := fun i hi => env i (List.mem_append.mpr (.inl (by simpa using hi)))
    have go : ∀ y : String, (y == "some") = c → ∀ q1 r acc S2, Le S S2 → S2 r = some (.lst acc) → (∀ k, k < W.n → ∃ q, acc[k]? = some (.loc q) ∧ S2 q = some (.lst (natD ((W.row j.toNat k).filter fun g => den W x e g == c)))) →
        wp Γ (.lc [13] (.one 13) (.range (.var 4)) (some (.cmp .eq (.cmp .gt (.bi .len [(.sub (.var 8) (.var 13))]) (.int 0)) (.cmp .eq (.var 3) (.str "some")))) (.var 13)) [some W.d, some (.tup [.str y, .int j, x.d]), some (.loc p), some (.str y), some (.int (W.n : Nat)), none, none, some (.loc q1), some (.loc r), none, none, none, none, none, none] S2 (ends R).rt := by
      intro y hy q1 r acc S2 l2 er hacc
      refine wh_lc (W := W) (den W (.step c j x) e) n100 rfl (by simp) (fun k hk q ys cc hq h => ?_) (last _ (fun k hk => rfl) S2 l2)
      obtain ⟨q2, a1, a2⟩ := hacc k hk
      have hrow := (hW.row (j := j.toNat) (k := k)).2
      have er' : (S2.upd q (.lst ys)) r = _ := (Store.upd_ne (Store.ne er hq)).trans er
      have a2' : (S2.upd q (.lst ys)) q2 = _ := (Store.upd_ne (Store.ne a2 hq)).trans a2
      simp
      refine ⟨_, er', ?_⟩
      rw [v_ixol]
      refine ⟨_, (atD_nat _ _).trans a1, ?_⟩
      rw [v_lenl]
      refine ⟨_, a2', ?_⟩
      rw [v_leno, natD_len, hy]
      have q : (decide ((0 : Int) < (((W.row j.toNat k).filter fun g => den W x e g == c).length : Nat)) == c) = den W (.step c j x) e k := by
        have a3 : ∀ l : List Nat, (decide ((0 : Int) < ((l.filter fun g => den W x e g == true).length : Nat)) == true) = l.any (den W x e) := by
          intro l
          induction l with
          | nil => rfl
          | cons g l ih =>
            rw [List.any_cons, List.filter_cons]
            cases d1 : den W x e g with
            | true => simp
            | false => simpa using ih
        have a4 : ∀ l : List Nat, (decide ((0 : Int) < ((l.filter fun g => den W x e g == false).length : Nat)) == false) = l.all (den W x e) := by
          intro l
          induction l with
          | nil => rfl
          | cons g l ih =>
            rw [List.all_cons, List.filter_cons]
            cases d1 : den W x e g with
            | false => simp
            | true => simpa using ih
        cases c with
        | true => exact a3 _
        | false => exact a4 _
      have q' : ((decide ((0 : Int) < (((W.row j.toNat k).filter fun g => den W x e g == c).length : Nat))) = c) ↔ den W (.step c j x) e k = true := by rw [← q]; simp
      cases z : den W (.step c j x) e k with
      | true =>
        rw [z] at h
        exact .inr ⟨q'.mpr z, h⟩
      | false =>
        rw [z] at h
        exact .inl ⟨fun y => (by rw [q'.mp y] at z; cases z), h⟩
    have rows : ∀ y : String, (y == "some") = c → ∀ q1 S1, Le S S1 → S1 q1 = some (.lst (natD (plN W.n (den W x e)))) → ∀ r acc S', Le S1 S' → S' r = some (.lst acc) → (∀ k, k < W.n → ∃ q, acc[k]? = some (.loc q) ∧ S' q = some (.lst (natD ((W.row j.toNat k).filter fun g => den W x e g == c)))) →
        wp Γ (.lc [13] (.one 13) (.range (.var 4)) (some (.cmp .eq (.cmp .gt (.bi .len [(.sub (.var 8) (.var 13))]) (.int 0)) (.cmp .eq (.var 3) (.str "some")))) (.var 13)) [some W.d, some (.tup [.str y, .int j, x.d]), some (.loc p), some (.str y), some (.int (W.n : Nat)), none, none, some (.loc q1), some (.loc r), none, none, none, none, none, none] S' (ends R).rt :=
      fun y hy q1 S1 l1 e1 r acc S' l' er hacc => go y hy q1 r acc S' (l1.trans l') er hacc
    cases c with
    | true =>
      simp [wh0, wh1, wh2, wh3, wh4, wh5, wh6, startD, ck__law_where, Sy.d, Sy.tag, -x_lct, g2]
      refine where_go hW w2 (by omega) ep (by omega) ko envK fun q1 S1 l1 e1 => ?_
      exact wh_rows hW w0 w1 (y := "some") rfl e1 fun r acc S' l' er hacc => rows "some" rfl q1 S1 l1 e1 r acc S' l' er hacc
    | false =>
      simp [wh0, wh1, wh2, wh3, wh4, wh5, wh6, startD, ck__law_where, Sy.d, Sy.tag, -x_lct, g2]
      refine where_go hW w2 (by omega) ep (by omega) ko envK fun q1 S1 l1 e1 => ?_
      exact wh_rows hW w0 w1 (y := "all") rfl e1 fun r acc S' l' er hacc => rows "all" rfl q1 S1 l1 e1 r acc S' l' er hacc
  | fix c i x =>
    obtain ⟨w0, w1, w2⟩ : 0 ≤ i ∧ i ≤ 19 ∧ Wf a b (K ++ [i]) F x := w
    have hd : x.depth + 1 ≤ N + 1 := hd
    have hl : kvs.length + 10 * (x.depth + 1) ≤ 1000 := hl
    have loop : ∀ qn S2, Le S S2 → S2 qn = some (.lst (natD (plN W.n fun _ => !c))) → wss Γ [wh8, wh9, wh10] (ends R) (whS W (.fix c i x) p (some (.str (Sy.fix c i x).tag)) (some (.loc qn)) none none none) S2 := by
      intro qn S2 l2 en
      refine ⟨_, rfl, ?_⟩
      refine ⟨W.n + 1 + 1, ?_⟩
      exact wh_loop (Z := ⟨fun σ1 S1 => wss Γ [wh10] (ends R) σ1 S1, (ends R).rt⟩) g2 hW w2 (by omega) ep (by omega) ko env (fun qn x6 x9 x10 S' h1 h2 => ⟨_, rfl, fin qn S' h1 h2⟩) (W.n + 1) 0 S2 qn .non none none (by omega) l2 en (.inl ⟨rfl, rfl⟩)
    cases c with
    | true =>
      simp [wh0, wh1, wh2, wh3, wh4, wh5, wh6, wh7, startD, ck__law_where, Sy.d, Sy.tag, -x_lct]
      intro q hq
      refine loop q _ (Le.new hq) ?_
      have := plN_none W.n
      rw [show (fun _ : Nat => !true) = fun _ => false from rfl, this]
      exact up_same
    | false =>
      simp [wh0, wh1, wh2, wh3, wh4, wh5, wh6, wh7, startD, ck__law_where, Sy.d, Sy.tag, -x_lct]
      refine ⟨by omega, fun q hq => ?_⟩
      refine loop q _ (Le.new hq) ?_
      rw [show (fun _ : Nat => !false) = fun _ => true from rfl, plN_all]
      exact up_same
end
end Y

namespace Y
open PySem PySem.Spec L2
/-! ### _law_world -/
def wl0 : Y.S := .asg (.name (.one 3)) (.op .add (.int 1) (.call "_law_draw" [(.var 0), (.var 2)]))
def wl1 : Y.S := .asg (.name (.one 4)) (.bi .tuple [(.lc [8] (.one 8) (.range (.sub (.var 1) (.int 0))) none (.bi .tuple [(.lc [9] (.one 9) (.range (.var 3)) (some (.cmp .eq (.call "_law_draw" [(.var 0), (.int 2)]) (.int 0))) (.var 9))]))])
def wl2 : Y.S := .asg (.name (.one 5)) (.op .add (.int 2) (.call "_law_draw" [(.var 0), (.int 2)]))
def wl3 : Y.S := .asg (.name (.one 6)) (.tup [])
def wl4b : List Y.S := [.asg (.name (.one 6)) (.op .add (.var 6) (.tup [(.bi .tuple [(.lc [10] (.one 10) (.range (.var 3)) none (.bi .tuple [(.lc [9] (.one 9) (.range (.var 3)) (some (.cmp .eq (.call "_law_draw" [(.var 0), (.var 5)]) (.int 0))) (.var 9))]))])]))]
def wl4 : Y.S := .frr (.one 7) (.range (.sub (.var 1) (.int 1))) wl4b
def wl5 : Y.S := .ret (.tup [(.var 3), (.var 4), (.var 6)])
theorem ir_wl : ir__law_world = [wl0, wl1, wl2, wl3, wl4, wl5] := rfl
section
variable {Γ : G} {p c : Addr} {S : Store} {R : DVK} {a b : Int}
def sp_world : SpD := fun ds S R => ∃ p c a b most, ds = [.loc p, .tup [.int a, .int b], .int most] ∧ Pool S p c ∧ 1 ≤ most ∧ most ≤ 5 ∧ 0 ≤ a ∧ a ≤ 100 ∧ 0 ≤ b ∧ b ≤ 100 ∧ ∀ W S', WOk a b W → Ex p c S S' → R (Wd.d W) S'
theorem world_go {most : Int} (hp : Pool S p c) (m1 : 1 ≤ most) (m5 : most ≤ 5) (a0 : 0 ≤ a) (a1 : a ≤ 100) (b0 : 0 ≤ b) (b1 : b ≤ 100) (h : ∀ W S', WOk a b W → Ex p c S S' → R (Wd.d W) S') : sp_world [.loc p, .tup [.int a, .int b], .int most] S R := ⟨p, c, a, b, most, rfl, hp, m1, m5, a0, a1, b0, b1, h⟩
theorem row_loop {r : Addr} {step : D → Store → (Option D → Store → Prop) → Prop} (hs : ∀ (k : Nat) S (cc : Option D → Store → Prop), Pool S p c → (∀ S', Dr p c S S' → cc none S' ∧ cc (some (.int (k : Nat))) S') → step (.int (k : Nat)) S cc) (n1 : r ≠ p) (n2 : r ≠ c) {Q : Store → Prop} :
    ∀ (m k : Nat) (acc : List Nat) (S : Store), S r = some (.lst (natD acc)) → Pool S p c → acc.Pairwise (· < ·) → (∀ x ∈ acc, x < k) → acc.length + m ≤ 1000 →
      (∀ (acc' : List Nat) (S' : Store), acc'.Pairwise (· < ·) → (∀ x ∈ acc', x < k + m) → Pool S' p c → S' r = some (.lst (natD acc')) → (∀ z o, z ≠ p → z ≠ r → S z = some o → S' z = some o) → Q S') →
      lcL r (fun _ => True) step ((List.range' k m).map fun k : Nat => D.int (k : Nat)) (natD acc) S Q
  | 0, k, acc, S, e, hp, h1, h2, hl, h => ⟨trivial, h acc S h1 (fun x hx => by have := h2 x hx; omega) hp e fun _ _ _ _ q => q⟩
  | m + 1, k, acc, S, e, hp, h1, h2, hl, h => by
    refine ⟨trivial, hs k S _ hp fun S1 d => ?_⟩
    have e1 : S1 r = some (.lst (natD acc)) := (d.at n1).trans e
    have kp : ∀ z o, z ≠ p → S z = some o → S1 z = some o := fun z o zp ez => (d.at zp).trans ez
    constructor
    · refine row_loop hs n1 n2 m (k + 1) acc S1 e1 d.pool h1 (fun x hx => by have := h2 x hx; omega) (by omega) fun acc' S' q1 q2 q3 q4 q5 => h acc' S' q1 (fun x hx => by have := q2 x hx; omega) q3 q4 fun z o zp zr ez => q5 z o zp zr (kp z o zp ez)
    · refine ⟨e1, line_lt (by rw [natD_len]; omega), ?_⟩
      have e2 : natD acc ++ [D.int (k : Nat)] = natD (acc ++ [k]) := by simp [natD]
      rw [e2]
      refine row_loop hs n1 n2 m (k + 1) (acc ++ [k]) _ up_same (d.pool.upd n1 n2) ?_ (fun x hx => ?_) (by simp; omega) fun acc' S' q1 q2 q3 q4 q5 => h acc' S' q1 (fun x hx => by have := q2 x hx; omega) q3 q4 fun z o zp zr ez => q5 z o zp zr ((Store.upd_ne zr).trans (kp z o zp ez))
      · rw [List.pairwise_append]
        refine ⟨h1, by simp, fun x hx y hy => ?_⟩
        rw [List.mem_singleton] at hy
        subst hy
        exact h2 x hx
      · rcases List.mem_append.mp hx with q | q
        · have := h2 x q; omega
        · rw [List.mem_singleton.mp q]; omega
theorem rows_loop {r : Addr} {n : Nat} {step : D → Store → (Option D → Store → Prop) → Prop} (hs : ∀ (x : D) S (cc : Option D → Store → Prop), Pool S p c → (∀ row S', RowOk n row → Ex p c S S' → cc (some (rowD row)) S') → step x S cc) (n1 : r ≠ p) (n2 : r ≠ c) {Q : Store → Prop} :
    ∀ (L : List D) (acc : List (List Nat)) (S : Store), S r = some (.lst (acc.map rowD)) → Pool S p c → (∀ x ∈ acc, RowOk n x) → acc.length + L.length ≤ 1000 →
      (∀ (acc' : List (List Nat)) (S' : Store), (∀ x ∈ acc', RowOk n x) → acc'.length = acc.length + L.length → Pool S' p c → S' r = some (.lst (acc'.map rowD)) → (∀ z o, z ≠ p → z ≠ r → S z = some o → S' z = some o) → Q S') →
      lcL r (fun _ => True) step L (acc.map rowD) S Q
  | [], acc, S, e, hp, h1, hl, h => ⟨trivial, h acc S h1 (by simp) hp e fun _ _ _ _ q => q⟩
  | x :: L, acc, S, e, hp, h1, hl, h => by
    simp only [List.length_cons] at hl
    refine ⟨trivial, hs x S _ hp fun row S1 ro ex => ?_⟩
    have e1 : S1 r = some (.lst (acc.map rowD)) := ex.2 r _ n1 e
    refine ⟨e1, line_lt (by simp; omega), ?_⟩
    have e2 : acc.map rowD ++ [rowD row] = (acc ++ [row]).map rowD := by simp
    rw [e2]
    refine rows_loop hs n1 n2 L (acc ++ [row]) _ up_same (ex.1.upd n1 n2) (fun y hy => ?_) (by simp; omega) fun acc' S' q1 q2 q3 q4 q5 => h acc' S' q1 (by rw [q2]; simp; omega) q3 q4 fun z o zp zr ez => q5 z o zp zr ((Store.upd_ne zr).trans (ex.2 z o zp ez))
    rcases List.mem_append.mp hy with q | q
    · exact h1 y q
    · rw [List.mem_singleton.mp q]; exact ro
/-- one row -/
theorem one_row (g1 : Γ.fn "_law_draw" = sp_draw) {σ : DSt} {n : Nat} {i : Nat} {md : E} {m : Int} (h0 : σ[0]? = some (some (.loc p))) (h3 : σ[3]? = some (some (.int (n : Nat)))) (len : 9 < σ.length) (hn : n ≤ 100) (m1 : 0 < m) (m2 : m < 100) (hm : ∀ k S R, R (.int m) S → wp Γ md ((σ.set 9 none).set 9 (some (.int (k : Nat)))) S R) (hp : Pool S p c)
    (h : ∀ row S', RowOk n row → Ex p c S S' → R (rowD row) S') : wp Γ (.bi .tuple [(.lc [9] (.one 9) (.range (.var 3)) (some (.cmp .eq (.call "_law_draw" [(.var 0), md]) (.int 0))) (.var 9))]) σ S R := by
  rw [x_bi, x_ps, x_lct, i_rng, x_var]
  refine ⟨_, h3, _, rfl, by omega, fun r hr => ?_⟩
  obtain ⟨n1, n2⟩ := hp.ne hr
  have e : rangeD (n : Int).toNat = (List.range' 0 n).map fun k : Nat => D.int (k : Nat) := by rw [rangeD_map, List.range_eq_range']
  rw [e]
  refine row_loop (fun k S2 cc hp2 hc => ?_) n1 n2 n 0 [] _ up_same (hp.le (Le.new hr)) .nil (fun x hx => by cases hx) (by simp; omega) fun acc' S' q1 q2 q3 q4 q5 => ?_
  · refine ⟨_, rfl, ?_⟩
    have z0 : ((σ.set 9 none).set 9 (some (.int (k : Nat))))[0]? = some (some (.loc p)) := by
      rw [List.getElem?_set_ne (by decide), List.getElem?_set_ne (by decide)]
      exact h0
    have z9 : ((σ.set 9 none).set 9 (some (.int (k : Nat))))[9]? = some (some (.int (k : Nat))) := List.getElem?_set_self (by simpa using len)
    refine ⟨_, z0, ?_⟩
    refine hm k S2 _ ?_
    show Γ.fn "_law_draw" [.loc p, .int m] S2 _
    rw [g1]
    refine draw_go hp2 m1 (by omega) fun d S3 d0 d1 dr => ?_
    obtain ⟨c1, c2⟩ := hc S3 dr
    rw [x_int]
    show cmpW .eq (.int d) (.int 0) S3 _
    rw [v_eqii]
    refine ⟨_, rfl, ?_⟩
    cases (d == 0) with
    | true => exact ⟨_, z9, c2⟩
    | false => exact c1
  · show biW .tuple [.loc r] S' R
    rw [v_tupl]
    refine ⟨_, q4, ?_⟩
    rw [v_tupo]
    exact h acc' S' ⟨q1, fun x hx => by have := q2 x hx; omega⟩ ⟨q3, fun z o zp ez => q5 z o zp (Store.ne ez hr) ((Store.upd_ne (Store.ne ez hr)).trans ez)⟩
theorem ways_loop (g1 : Γ.fn "_law_draw" = sp_draw) {x1 x2 x4 : Option D} {n : Nat} {m : Int} (hn : n ≤ 100) (m1 : 0 < m) (m2 : m < 100) {Z : Ends} : ∀ (L : List D) (ws : List (List (List Nat))) (x7 : Option D) (S : Store), Pool S p c → (∀ x ∈ ws, x.length = n ∧ ∀ r ∈ x, RowOk n r) → ws.length + L.length ≤ 1000 →
      (∀ (ws' : List (List (List Nat))) x7' S', (∀ x ∈ ws', x.length = n ∧ ∀ r ∈ x, RowOk n r) → ws'.length = ws.length + L.length → Ex p c S S' → Z.nx [some (.loc p), x1, x2, some (.int (n : Nat)), x4, some (.int m), some (.tup (ws'.map fun w => .tup (w.map rowD))), x7', none, none, none] S') →
      forL (.one 7) (fun _ => True) (wss Γ wl4b) L Z [some (.loc p), x1, x2, some (.int (n : Nat)), x4, some (.int m), some (.tup (ws.map fun w => .tup (w.map rowD))), x7, none, none, none] S
  | [], ws, x7, S, hp, h1, hl, h => ⟨trivial, h ws _ S h1 (by simp) (.of_le hp .refl)⟩
  | y :: L, ws, x7, S, hp, h1, hl, h => by
    simp only [List.length_cons] at hl
    refine ⟨trivial, _, rfl, ?_⟩
    simp [wl4b, -x_lct, -x_bi]
    rw [x_bi, x_ps, x_lct, i_rng, x_var]
    refine ⟨_, rfl, _, rfl, by omega, fun r hr => ?_⟩
    obtain ⟨n1, n2⟩ := hp.ne hr
    refine rows_loop (n := n) (fun z S2 cc hp2 hc => ?_) n1 n2 _ [] _ up_same (hp.le (Le.new hr)) (fun x hx => by cases hx) (by rw [rangeD_map]; simp; omega) fun acc' S' q1 q2 q3 q4 q5 => ?_
    · refine ⟨_, rfl, ?_⟩
      show wp Γ (.bi .tuple [(.lc [9] (.one 9) (.range (.var 3)) (some (.cmp .eq (.call "_law_draw" [(.var 0), (.var 5)]) (.int 0))) (.var 9))]) _ S2 fun y S4 => cc (some y) S4
      exact one_row g1 (i := 0) (m := m) rfl rfl (by simp [wipeD]) hn m1 m2 (fun k S R hR => ⟨_, rfl, hR⟩) hp2 fun row S3 ro ex => hc row S3 ro ex
    · have ex : Ex p c S S' := ⟨q3, fun z o zp ez => q5 z o zp (Store.ne ez hr) ((Store.upd_ne (Store.ne ez hr)).trans ez)⟩
      show biW .tuple [.loc r] S' _
      rw [v_tupl]
      refine ⟨_, q4, ?_⟩
      rw [v_tupo]
      have ln : acc'.length = n := by rw [q2, rangeD_map]; simp
      refine ⟨line_le (by simp; omega), ?_⟩
      have e2 : (ws.map fun w => D.tup (w.map rowD)) ++ [D.tup (acc'.map rowD)] = (ws ++ [acc']).map fun w => D.tup (w.map rowD) := by simp
      rw [e2]
      refine ways_loop g1 hn m1 m2 L (ws ++ [acc']) _ S' q3 (fun x hx => ?_) (by simp; omega) fun ws' x7' S'' w1 w2 w3 => h ws' x7' S'' w1 (by rw [w2]; simp; omega) (ex.trans w3)
      rcases List.mem_append.mp hx with q | q
      · exact h1 x q
      · rw [List.mem_singleton.mp q]; exact ⟨ln, q1⟩
theorem w_world (g1 : Γ.fn "_law_draw" = sp_draw) : ∀ ds S R, sp_world ds S R → wss Γ ir__law_world (ends R) (startD ck__law_world.N ds) S := by
  rintro _ S R ⟨p, c, a, b, most, rfl, hp, m1, m5, a0, a1, b0, b1, hR⟩
  rw [ir_wl]
  show ws Γ wl0 ⟨fun σ1 S1 => wss Γ [wl1, wl2, wl3, wl4, wl5] (ends R) σ1 S1, (ends R).rt⟩ [some (.loc p), some (.tup [.int a, .int b]), some (.int most), none, none, none, none, none, none, none, none] S
  simp [wl0, g1, -x_ss]
  refine draw_go hp (by omega) (by omega) fun d S1 d0 d1 dr => ?_
  obtain ⟨n, hn⟩ : ∃ n : Nat, (1 : Int) + d = (n : Nat) := ⟨(1 + d).toNat, by omega⟩
  rw [v_addi, hn]
  have n1 : 1 ≤ n := by omega
  have n5 : n ≤ 5 := by omega
  show ws Γ wl1 ⟨fun σ1 S1 => wss Γ [wl2, wl3, wl4, wl5] (ends R) σ1 S1, (ends R).rt⟩ [some (.loc p), some (.tup [.int a, .int b]), some (.int most), some (.int (n : Nat)), none, none, none, none, none, none, none] S1
  simp [wl1, -x_lct, -x_bi, -x_ss]
  rw [x_bi, x_ps, x_lct, i_rng]
  obtain ⟨na, rfl⟩ : ∃ k : Nat, a = k := ⟨a.toNat, by omega⟩
  obtain ⟨nb, rfl⟩ : ∃ k : Nat, b = k := ⟨b.toNat, by omega⟩
  refine ⟨_, rfl, ?_⟩
  simp only [x_int, v_ixt]
  refine ⟨_, ix0, _, rfl, by omega, fun r hr => ?_⟩
  obtain ⟨r1, r2⟩ := dr.pool.ne hr
  refine rows_loop (n := n) (fun z S2 cc hp2 hc => ?_) r1 r2 _ [] _ up_same (dr.pool.le (Le.new hr)) (fun x hx => by cases hx) (by rw [rangeD_map]; simp; omega) fun marks S2 q1 q2 q3 q4 q5 => ?_
  · refine ⟨_, rfl, ?_⟩
    show wp Γ (.bi .tuple [(.lc [9] (.one 9) (.range (.var 3)) (some (.cmp .eq (.call "_law_draw" [(.var 0), (.int 2)]) (.int 0))) (.var 9))]) _ S2 fun y S4 => cc (some y) S4
    exact one_row g1 (i := 0) (m := 2) rfl rfl (by simp [wipeD]) (by omega) (by omega) (by omega) (fun k S R hR => hR) hp2 fun row S3 ro ex => hc row S3 ro ex
  have ex2 : Ex p c S1 S2 := ⟨q3, fun z o zp ez => q5 z o zp (Store.ne ez hr) ((Store.upd_ne (Store.ne ez hr)).trans ez)⟩
  have lm : marks.length = na := by rw [q2, rangeD_map]; simp
  show biW .tuple [.loc r] S2 _
  rw [v_tupl]
  refine ⟨_, q4, ?_⟩
  rw [v_tupo]
  show ws Γ wl2 ⟨fun σ1 S1 => wss Γ [wl3, wl4, wl5] (ends R) σ1 S1, (ends R).rt⟩ [some (.loc p), some (.tup [.int (na : Nat), .int (nb : Nat)]), some (.int most), some (.int (n : Nat)), some (.tup (marks.map rowD)), none, none, none, none, none, none] S2
  simp [wl2, g1, -x_ss]
  refine draw_go q3 (by omega) (by omega) fun t S3 t0 t1 dr3 => ?_
  rw [v_addi]
  show wss Γ [wl3, wl4, wl5] (ends R) [some (.loc p), some (.tup [.int (na : Nat), .int (nb : Nat)]), some (.int most), some (.int (n : Nat)), some (.tup (marks.map rowD)), some (.int (2 + t)), none, none, none, none, none] S3
  simp [wl3, wl4, -f_cons, -f_nil]
  refine ⟨by omega, ?_⟩
  refine ways_loop g1 (by omega) (by omega) (by omega) _ [] none S3 dr3.pool (fun x hx => by cases hx) (by rw [rng_eq]; simp; omega) fun ws' x7' S4 w1 w2 w3 => ?_
  simp [wl5]
  have lw : ws'.length = nb := by rw [w2, rng_eq]; simp
  refine ⟨S4, .refl, hR ⟨n, marks, ws'⟩ S4 ⟨n1, n5, by show ((marks.length : Nat) : Int) = _; rw [lm], by show ((ws'.length : Nat) : Int) = _; rw [lw], q1, w1⟩ (((dr.ex).trans ex2).trans (dr3.ex.trans w3))⟩
end
end Y

namespace Y
open PySem PySem.Spec L2
/-! ### what is a world -/
def itB (n : Int) : D → Bool
  | .int i => decide (0 ≤ i) && decide (i < n)
  | _ => false
def ascB (n : Int) : D → Bool
  | .tup xs => xs.all (itB n) && (match intsD xs with
    | some ns => decide (ns.Pairwise (· < ·))
    | none => false)
  | _ => false
theorem ints_of_all {n : Int} : ∀ {xs : List D}, xs.all (itB n) = true → ∃ ns : List Int, xs = ns.map D.int ∧ ∀ i ∈ ns, 0 ≤ i ∧ i < n
  | [], _ => ⟨[], rfl, fun i h => by cases h⟩
  | x :: xs, h => by
    rw [List.all_cons, Bool.and_eq_true] at h
    obtain ⟨ns, rfl, h2⟩ := ints_of_all h.2
    cases x with
    | int i =>
      have h1 : (decide (0 ≤ i) && decide (i < n)) = true := h.1
      rw [Bool.and_eq_true, decide_eq_true_eq, decide_eq_true_eq] at h1
      refine ⟨i :: ns, rfl, fun j hj => ?_⟩
      rcases List.mem_cons.mp hj with rfl | hj
      · exact h1
      · exact h2 j hj
    | _ => cases h.1
theorem ints_wt : ∀ ns : List Int, 5 * ns.length ≤ D.wts (ns.map D.int)
  | [] => by simp
  | n :: ns => by
    have := ints_wt ns
    rw [List.map_cons, wts_cons, wt_int, List.length_cons]
    omega
theorem eqds_ints : ∀ L M : List Int, eqds (L.map D.int) (M.map D.int) = decide (L = M)
  | [], [] => rfl
  | [], _ :: _ => by simp [eqds]
  | _ :: _, [] => by simp [eqds]
  | a :: L, b :: M => by
    show (eqd (.int a) (.int b) && eqds (L.map D.int) (M.map D.int)) = _
    rw [eqds_ints L M, e_ii, Bool.eq_iff_iff]
    simp
/-- the sorted set is the list itself, or the list does not rise -/
theorem rise_iff {ns ms : List Int} (h : ms.Pairwise (· < ·)) (m : ∀ k, k ∈ ms ↔ k ∈ ns) : decide (ns = ms) = decide (ns.Pairwise (· < ·)) := by
  by_cases c : ns.Pairwise (· < ·)
  · have nd : ∀ l : List Int, l.Pairwise (· < ·) → l.Nodup := fun l hl => by
      rw [List.nodup_iff_pairwise_ne]
      exact hl.imp fun q => by omega
    have e : ns = ms := List.Perm.eq_of_pairwise (le := fun x y : Int => x < y) (fun a b _ _ h1 h2 => by omega) c h ((List.perm_ext_iff_of_nodup (nd _ c) (nd _ h)).mpr fun k => (m k).symm)
    rw [decide_eq_true e, decide_eq_true c]
  · rw [decide_eq_false c, decide_eq_false fun e => c (by rw [e]; exact h)]
def sp_asc : SpD := fun ds S R => ∃ n v, ds = [.int n, v] ∧ Vl S v ∧ n ≤ 63 ∧ v.wt ≤ 5000 ∧ R (.bl (ascB n v)) S
theorem asc_go {n : Int} {v : D} {S : Store} {R : DVK} (hv : Vl S v) (hn : n ≤ 63) (hw : v.wt ≤ 5000) (h : R (.bl (ascB n v)) S) : sp_asc [.int n, v] S R := ⟨n, v, rfl, hv, hn, hw, h⟩
def rowsE (i : Nat) : E := .bi .all [(.lc [6] (.one 6) (.seq (.var i)) none (.call "is_ascending" [(.var 3), (.var 6)]))]
def iw0 : Y.S := .ife (.bop false [(.not (.isi (.var 1) .tuple)), (.cmp .ne (.bi .len [(.var 1)]) (.int 3)), (.not (.call "is_whole" [(.sub (.var 1) (.int 0))])), (.cmp .lt (.sub (.var 1) (.int 0)) (.int 1))]) [.ret (.bl false)] []
def iw1 : Y.S := .asg (.name (.many [3, 4, 5])) (.var 1)
def iw2 : Y.S := .ife (.bop false [(.not (.isi (.var 4) .tuple)), (.not (.isi (.var 5) .tuple)), (.cmp .ne (.tup [(.bi .len [(.var 4)]), (.bi .len [(.var 5)])]) (.var 0))]) [.ret (.bl false)] []
def iw3 : Y.S := .ife (.not (rowsE 4)) [.ret (.bl false)] []
def iw4b : List Y.S := [.ife (.bop false [(.not (.isi (.var 2) .tuple)), (.cmp .ne (.bi .len [(.var 2)]) (.var 3)), (.not (rowsE 2))]) [.ret (.bl false)] []]
def iw4 : Y.S := .frr (.one 2) (.seq (.var 5)) iw4b
def iw5 : Y.S := .ret (.bl true)
theorem ir_iw_ : ir_is_world_of_any_size = [iw0, iw1, iw2, iw3, iw4, iw5] := rfl
def ia0 : Y.S := .ife (.bop false [(.not (.isi (.var 1) .tuple)), (.not (.bi .all [(.lc [2] (.one 2) (.seq (.var 1)) none (.bop true [(.call "is_whole" [(.var 2)]), (.cmp2 .le .lt (.int 0) (.var 2) (.var 0))]))]))]) [.ret (.bl false)] []
def ia1 : Y.S := .ret (.cmp .eq (.bi .list [(.var 1)]) (.bi .sortset [(.var 1)]))
theorem ir_ia_ : ir_is_ascending = [ia0, ia1] := rfl
section
variable {Γ : G}
theorem asc_items (g1 : Γ.fn "is_whole" = sp_is_whole) {n : Int} {xs : List D} {r : Addr} {S0 : Store} {Q : Store → Prop} {v : D} (hv : Vls S0 xs) (hl : xs.length ≤ 16777215) (hr : S0 r = none) (h : Q (S0.upd r (.lst ((xs.map (itB n)).map D.bl)))) :
    lcL r (fun _ => True) (fun x S2 k => ∃ σ1, bindT (.one 2) x (wipeD [some (.int n), some v, none] [2]) = some σ1 ∧ wpc Γ none σ1 S2 fun t S3 => if t = true then wp Γ (.bop true [(.call "is_whole" [(.var 2)]), (.cmp2 .le .lt (.int 0) (.var 2) (.var 0))]) σ1 S3 fun y S4 => k (some y) S4 else k none S3) xs [] (S0.upd r (.lst [])) Q := by
  refine lc_go (fun x => some (.bl (itB n x))) hl (fun _ => trivial) (fun x hx ys k hk => ?_) ?_
  · have vx : Vl (S0.upd r (.lst ys)) x := (vls_get hv hx).le (Le.new hr)
    refine ⟨_, rfl, ?_⟩
    cases x with
    | int i =>
      by_cases c1 : 0 ≤ i
      · by_cases c2 : i < n
        · simp [itB, c1, c2] at hk
          simp [wipeD, g1, isWhole, c1, c2]
          exact hk
        · simp [itB, c1, c2] at hk
          simp [wipeD, g1, isWhole, c1, c2]
          exact hk
      · simp [itB, c1] at hk
        simp [wipeD, g1, isWhole, c1]
        exact hk
    | scr a => simp at vx
    | loc a =>
      simp [itB] at hk
      simp [wipeD, g1, isWhole]
      exact ⟨by simpa using vx, hk⟩
    | tup l =>
      simp [itB] at hk
      simp [wipeD, g1, isWhole]
      exact ⟨by simpa using vx, hk⟩
    | non =>
      simp [itB] at hk
      simp [wipeD, g1, isWhole]
      exact hk
    | bl b =>
      simp [itB] at hk
      simp [wipeD, g1, isWhole]
      exact hk
    | str b =>
      simp [itB] at hk
      simp [wipeD, g1, isWhole]
      exact hk
  · have e : ∀ xs : List D, (xs.filterMap fun x => some (D.bl (itB n x))) = (xs.map (itB n)).map D.bl := by
      intro xs
      induction xs with
      | nil => rfl
      | cons x xs ih => rw [List.filterMap_cons, List.map_cons, List.map_cons, ih]
    rw [e]
    exact h
theorem w_asc (g1 : Γ.fn "is_whole" = sp_is_whole) : ∀ ds S R, sp_asc ds S R → wss Γ ir_is_ascending (ends R) (startD ck_is_ascending.N ds) S := by
  rintro _ S R ⟨n, v, rfl, hv, hn, hw, hR⟩
  rw [ir_ia_]
  show ws Γ ia0 ⟨fun σ1 S1 => wss Γ [ia1] (ends R) σ1 S1, (ends R).rt⟩ [some (.int n), some v, none] S
  have no : ascB n v = false → ∀ S', Le S S' → (ends R).rt (.bl false) S' := fun e S' l => ⟨S, l, by rw [e] at hR; exact hR⟩
  cases v with
  | tup xs =>
    rw [vl_tup] at hv
    rw [wt_tup] at hw
    have hl := wts_len xs
    simp [ia0, -x_lct, -x_ss]
    rw [x_lct, i_seq, x_var]
    refine ⟨_, rfl, ?_⟩
    rw [i_seqt]
    intro r hr
    refine asc_items g1 hv (by omega) hr ?_
    show biW .all [.loc r] _ _
    rw [v_all]
    refine ⟨_, up_same, ?_⟩
    rw [v_boo]
    refine ⟨_, bools_of _, ?_⟩
    have ea : (xs.map (itB n)).all id = xs.all (itB n) := by rw [List.all_map]; rfl
    rw [ea]
    cases c : xs.all (itB n) with
    | false =>
      refine .inl ⟨rfl, ?_⟩
      simp
      exact no (by simp [ascB, c]) _ (Le.new hr)
    | true =>
      obtain ⟨ns, rfl, hb⟩ := ints_of_all c
      have h5 := ints_wt ns
      refine .inr ⟨rfl, ?_⟩
      simp [ia1]
      intro q1 hq1
      refine ⟨ns, ints_of ns, by omega, .inr fun x hx => by have := hb x hx; omega, fun ms hs hm => ?_⟩
      rw [v_new]
      intro q2 hq2
      have n12 : q1 ≠ q2 := Store.ne up_same hq2
      refine ⟨_, (Store.upd_ne n12).trans up_same, _, up_same, pls_ints _ _, pls_ints _ _, ?_⟩
      rw [eqds_ints, rise_iff hs hm]
      refine ⟨S, ((Le.new hr).trans (Le.new hq1)).trans (Le.new hq2), ?_⟩
      have e : ascB n (.tup (ns.map D.int)) = decide (ns.Pairwise (· < ·)) := by
        show ((ns.map D.int).all (itB n) && (match intsD (ns.map D.int) with | some ns => decide (ns.Pairwise (· < ·)) | none => false)) = _
        rw [c, ints_of]
        rfl
      rw [← e]
      exact hR
  | loc a =>
    rw [vl_loc] at hv
    obtain ⟨zs, ez⟩ := hv
    simp [ia0, ez, isiO]
    exact no rfl S .refl
  | scr a => simp at hv
  | _ =>
    simp [ia0]
    exact no rfl S .refl
/-- rows of a way -/
def wayB (n : Int) : D → Bool
  | .tup rows => decide ((rows.length : Int) = n) && rows.all (ascB n)
  | _ => false
def anyB (a b : Int) : D → Bool
  | .tup [.int n, .tup ms, .tup ws] => decide (1 ≤ n) && (decide ((ms.length : Int) = a) && (decide ((ws.length : Int) = b) && (ms.all (ascB n) && ws.all (wayB n))))
  | _ => false
def firstB : D → Bool
  | .tup (.int n :: _) => decide (n ≤ 60)
  | _ => false
/-- a value whose rows may be looked at -/
structure RowV (S : Store) (v : D) : Prop where
  vl : Vl S v
  wt : v.wt ≤ 5000
  mx : v.mx ≤ 63
theorem RowV.le {S S' : Store} {v : D} (h : RowV S v) (l : Le S S') : RowV S' v := ⟨h.vl.le l, h.wt, h.mx⟩
theorem RowV.mem {S : Store} {xs : List D} {x : D} (h : RowV S (.tup xs)) (m : x ∈ xs) : RowV S x := by
  have h1 := h.vl
  have h2 := h.wt
  have h3 := h.mx
  rw [vl_tup] at h1
  rw [wt_tup] at h2
  rw [mx_tup] at h3
  have := wts_mem m
  exact ⟨vls_get h1 m, by omega, mxs_of.mp h3 x m⟩
theorem all_bl (f : D → Bool) (xs : List D) : (xs.filterMap fun x => some (D.bl (f x))) = (xs.map f).map D.bl := by
  induction xs with
  | nil => rfl
  | cons x xs ih => rw [List.filterMap_cons, List.map_cons, List.map_cons, ih]
/-- all([is_ascending(n, row) for row in rows]) -/
theorem rows_all (g1 : Γ.fn "is_ascending" = sp_asc) {n : Int} (hn : n ≤ 63) {i : Nat} {σ : DSt} {xs : List D} {S : Store} {R : DVK} (h3 : σ[3]? = some (some (.int n))) (hi : σ[i]? = some (some (.tup xs))) (len : 6 < σ.length) (hx : RowV S (.tup xs)) (h : ∀ S', Le S S' → R (.bl (xs.all (ascB n))) S') :
    wp Γ (rowsE i) σ S R := by
  have hw := hx.wt
  rw [wt_tup] at hw
  have hl := wts_len xs
  unfold rowsE
  rw [x_bi, x_ps, x_lct, i_seq, x_var]
  refine ⟨_, hi, ?_⟩
  rw [i_seqt]
  intro r hr
  refine lc_go (fun x => some (.bl (ascB n x))) (by omega) (fun _ => trivial) (fun x hm ys k hk => ?_) ?_
  · have rx := (hx.mem hm).le (Le.new (o := .lst ys) hr)
    refine ⟨_, rfl, ?_⟩
    have z3 : ((σ.set 6 none).set 6 (some x))[3]? = some (some (.int n)) := by
      rw [List.getElem?_set_ne (by decide), List.getElem?_set_ne (by decide)]
      exact h3
    have z6 : ((σ.set 6 none).set 6 (some x))[6]? = some (some x) := List.getElem?_set_self (by simpa using len)
    refine ⟨_, z3, _, z6, ?_⟩
    show Γ.fn "is_ascending" [.int n, x] _ _
    rw [g1]
    exact asc_go rx.vl hn rx.wt hk
  · rw [all_bl]
    show biW .all [.loc r] _ R
    rw [v_all]
    refine ⟨_, up_same, ?_⟩
    rw [v_boo]
    refine ⟨_, bools_of _, ?_⟩
    have ea : (xs.map (ascB n)).all id = xs.all (ascB n) := by rw [List.all_map]; rfl
    rw [ea]
    exact h _ (Le.new hr)
theorem ways_all (g1 : Γ.fn "is_ascending" = sp_asc) {n : Int} (hn : n ≤ 63) {x0 x1 x4 x5 x6 : Option D} {Z : Ends} {S0 : Store} : ∀ (ws : List D) (x2 : Option D) (S : Store), Le S0 S → (∀ w ∈ ws, RowV S0 w) → (∀ x2 S', Le S0 S' → ws.all (wayB n) = true → Z.nx [x0, x1, x2, some (.int n), x4, x5, x6] S') → (∀ S', Le S0 S' → ws.all (wayB n) = false → Z.rt (.bl false) S') →
      forL (.one 2) (fun _ => True) (wss Γ iw4b) ws Z [x0, x1, x2, some (.int n), x4, x5, x6] S
  | [], x2, S, l, _, h1, _ => ⟨trivial, h1 x2 S l rfl⟩
  | w :: ws, x2, S, l, hw, h1, h2 => by
    refine ⟨trivial, _, rfl, ?_⟩
    have rw_ := (hw w List.mem_cons_self).le l
    have no : wayB n w = false → ∀ S', Le S0 S' → Z.rt (.bl false) S' := fun e S' l => h2 S' l (by rw [List.all_cons, e]; rfl)
    cases w with
    | tup rows =>
      by_cases c : (rows.length : Int) = n
      · simp [iw4b, c]
        refine rows_all (S := S) (σ := [x0, x1, some (.tup rows), some (.int n), x4, x5, x6]) g1 hn (i := 2) rfl rfl (by simp) rw_ fun S' l' => ?_
        cases c2 : rows.all (ascB n) with
        | true =>
          have ew : wayB n (.tup rows) = true := by
            show (decide ((rows.length : Int) = n) && rows.all (ascB n)) = true
            rw [c2, decide_eq_true c]
            rfl
          simp
          refine ways_all g1 hn ws _ S' (l.trans l') (fun y hy => hw y (List.mem_cons_of_mem _ hy)) (fun x2' S'' a1 a2 => h1 x2' S'' a1 (by rw [List.all_cons, ew, a2]; rfl)) (fun S'' a1 a2 => h2 S'' a1 (by rw [List.all_cons, ew, a2]; rfl))
        | false =>
          simp
          exact no (by show (decide ((rows.length : Int) = n) && rows.all (ascB n)) = false; rw [c2, Bool.and_false]) S' (l.trans l')
      · simp [iw4b, c]
        exact no (by show (decide ((rows.length : Int) = n) && rows.all (ascB n)) = false; rw [decide_eq_false c]; rfl) S l
    | loc q =>
      have vl := rw_.vl
      rw [vl_loc] at vl
      obtain ⟨zs, ez⟩ := vl
      simp [iw4b, ez, isiO]
      exact no rfl S l
    | scr q => have vl := rw_.vl; simp at vl
    | _ =>
      simp [iw4b]
      exact no rfl S l
theorem any_len {a b : Int} {xs : List D} (h : xs.length ≠ 3) : anyB a b (.tup xs) = false := by
  unfold anyB
  split
  · rename_i e
    cases e
    simp at h
  · rfl
def sp_anyw : SpD := fun ds S R => ∃ a b v, ds = [.tup [.int a, .int b], v] ∧ RowV S v ∧ R (.bl (anyB a b v)) S
theorem anyw_go {a b : Int} {v : D} {S : Store} {R : DVK} (hv : RowV S v) (h : R (.bl (anyB a b v)) S) : sp_anyw [.tup [.int a, .int b], v] S R := ⟨a, b, v, rfl, hv, h⟩
theorem w_anyw (g1 : Γ.fn "is_ascending" = sp_asc) (g2 : Γ.fn "is_whole" = sp_is_whole) : ∀ ds S R, sp_anyw ds S R → wss Γ ir_is_world_of_any_size (ends R) (startD ck_is_world_of_any_size.N ds) S := by
  rintro _ S R ⟨a, b, v, rfl, hv, hR⟩
  rw [ir_iw_]
  show ws Γ iw0 ⟨fun σ1 S1 => wss Γ [iw1, iw2, iw3, iw4, iw5] (ends R) σ1 S1, (ends R).rt⟩ [some (.tup [.int a, .int b]), some v, none, none, none, none, none] S
  have no : anyB a b v = false → ∀ S', Le S S' → ∃ S'', Le S'' S' ∧ R (.bl false) S'' := fun e S' l => ⟨S, l, by rw [e] at hR; exact hR⟩
  have vl := hv.vl
  cases v with
  | tup xs =>
    match xs with
    | [x, y, z] =>
      have hx := hv.mem (x := x) (by simp)
      have hy := hv.mem (x := y) (by simp)
      have hz := hv.mem (x := z) (by simp)
      cases x with
      | int n =>
        have hn : n ≤ 63 := by have := hx.mx; rw [mx_int] at this; omega
        by_cases c1 : n < 1
        · simp [iw0, g2, isWhole, c1, -x_ss]
          have e : anyB a b (.tup [.int n, y, z]) = false := by
            cases y <;> cases z <;> simp [anyB]
            intro h; omega
          exact no e S .refl
        · have c1' : 1 ≤ n := by omega
          simp [iw0, g2, isWhole, c1, -x_ss]
          have nob : anyB a b (.tup [.int n, y, z]) = false → ∀ S', Le S S' → (ends R).rt (.bl false) S' := no
          have step : ∀ ms wz, y = .tup ms → z = .tup wz → (ms.length : Int) = a → (wz.length : Int) = b → wss Γ [iw3, iw4, iw5] (ends R) [some (.tup [.int a, .int b]), some (.tup [.int n, y, z]), none, some (.int n), some y, some z, none] S := by
            rintro ms wz rfl rfl la lb
            have ev : anyB a b (.tup [.int n, .tup ms, .tup wz]) = (ms.all (ascB n) && wz.all (wayB n)) := by
              show (decide (1 ≤ n) && (decide ((ms.length : Int) = a) && (decide ((wz.length : Int) = b) && (ms.all (ascB n) && wz.all (wayB n))))) = _
              rw [decide_eq_true c1', decide_eq_true la, decide_eq_true lb]
              simp
            simp [iw3, -x_ss]
            refine rows_all (σ := [some (.tup [.int a, .int b]), some (.tup [.int n, .tup ms, .tup wz]), none, some (.int n), some (.tup ms), some (.tup wz), none]) g1 hn (i := 4) rfl rfl (by simp) hy fun S1 l1 => ?_
            cases c2 : ms.all (ascB n) with
            | false =>
              simp
              exact nob (by rw [ev, c2]; rfl) S1 l1
            | true =>
              refine ⟨_, rfl, _, rfl, ?_⟩
              simp [iw4, -f_cons, -f_nil]
              refine ways_all (S0 := S) g1 hn wz none S1 l1 (fun w hw => hz.mem hw) (fun x2 S2 l2 e => ?_) fun S2 l2 e => ?_
              · simp [iw5]
                refine ⟨S, l2, ?_⟩
                rw [ev, c2, e] at hR
                exact hR
              · exact nob (by rw [ev, c2, e]; rfl) S2 l2
          show wss Γ [iw1, iw2, iw3, iw4, iw5] (ends R) [some (.tup [.int a, .int b]), some (.tup [.int n, y, z]), none, none, none, none, none] S
          refine ⟨_, rfl, _, rfl, ?_⟩
          show ws Γ iw2 ⟨fun σ1 S1 => wss Γ [iw3, iw4, iw5] (ends R) σ1 S1, (ends R).rt⟩ [some (.tup [.int a, .int b]), some (.tup [.int n, y, z]), none, some (.int n), some y, some z, none] S
          cases y with
          | tup ms =>
            cases z with
            | tup wz =>
              by_cases la : (ms.length : Int) = a
              · by_cases lb : (wz.length : Int) = b
                · have st := step ms wz rfl rfl la lb
                  have eq1 : cmpW .eq (.tup [.int (ms.length : Int), .int (wz.length : Int)]) (.tup [.int a, .int b]) S fun t S' => t = true ∧ S' = S := by
                    rw [la, lb]
                    exact eq_same (by simp [D.pl]) ⟨rfl, rfl⟩
                  simp [iw2, la, lb, -x_ss]
                  exact eq_same (by simp [D.pl]) (.inl ⟨rfl, st⟩)
                · simp [iw2, la, -x_ss]
                  refine ⟨by simp [D.pl], by simp [D.pl], ?_⟩
                  have e : eqd (.tup [.int a, .int (wz.length : Int)]) (.tup [.int a, .int b]) = false := by simp [eqd, eqds, lb]
                  rw [e]
                  refine .inr ⟨rfl, ?_⟩
                  exact nob (by show (decide (1 ≤ n) && (decide ((ms.length : Int) = a) && (decide ((wz.length : Int) = b) && _))) = false; rw [decide_eq_false lb]; simp) S .refl
              · simp [iw2, -x_ss]
                refine ⟨by simp [D.pl], by simp [D.pl], ?_⟩
                have e : eqd (.tup [.int (ms.length : Int), .int (wz.length : Int)]) (.tup [.int a, .int b]) = false := by simp [eqd, eqds, la]
                rw [e]
                refine .inr ⟨rfl, ?_⟩
                exact nob (by show (decide (1 ≤ n) && (decide ((ms.length : Int) = a) && _)) = false; rw [decide_eq_false la]; simp) S .refl
            | loc q =>
              have vz := hz.vl
              rw [vl_loc] at vz
              obtain ⟨zs, ez⟩ := vz
              simp [iw2, ez, isiO, -x_ss]
              exact nob rfl S .refl
            | scr q => have vz := hz.vl; simp at vz
            | _ =>
              simp [iw2, -x_ss]
              exact nob rfl S .refl
          | loc q =>
            have vy := hy.vl
            rw [vl_loc] at vy
            obtain ⟨zs, ez⟩ := vy
            simp [iw2, ez, isiO, -x_ss]
            exact nob rfl S .refl
          | scr q => have vy := hy.vl; simp at vy
          | _ =>
            simp [iw2, -x_ss]
            exact nob rfl S .refl
      | scr q => have vx := hx.vl; simp at vx
      | loc q =>
        have vx := hx.vl
        rw [vl_loc] at vx
        simp [iw0, g2, isWhole, -x_ss]
        exact ⟨vx, no rfl S .refl⟩
      | tup l =>
        have vx := hx.vl
        rw [vl_tup] at vx
        simp [iw0, g2, isWhole, vx, -x_ss]
        exact no rfl S .refl
      | _ =>
        simp [iw0, g2, isWhole, -x_ss]
        exact no rfl S .refl
    | [] =>
      simp [iw0, -x_ss]
      exact no (any_len (by simp)) S .refl
    | [_] =>
      simp [iw0, -x_ss]
      exact no (any_len (by simp)) S .refl
    | [_, _] =>
      simp [iw0, -x_ss]
      exact no (any_len (by simp)) S .refl
    | _ :: _ :: _ :: _ :: r =>
      have c : ¬ ((r.length : Int) + 1 + 1 + 1 + 1 = 3) := by omega
      simp [iw0, c, -x_ss]
      exact no (any_len (by simp)) S .refl
  | loc q =>
    rw [vl_loc] at vl
    obtain ⟨zs, ez⟩ := vl
    simp [iw0, ez, isiO]
    exact no rfl S .refl
  | scr q => simp at vl
  | _ =>
    simp [iw0]
    exact no rfl S .refl
end
end Y

namespace Y
open PySem PySem.Spec L2
/-! ### worlds of at most sixty places; the law's own judge -/
def wokB (a b : Int) (v : D) : Bool := anyB a b v && firstB v
def sp_wok : SpD := fun ds S R => ∃ a b v, ds = [.tup [.int a, .int b], v] ∧ RowV S v ∧ R (.bl (wokB a b v)) S
theorem wok_go {a b : Int} {v : D} {S : Store} {R : DVK} (hv : RowV S v) (h : R (.bl (wokB a b v)) S) : sp_wok [.tup [.int a, .int b], v] S R := ⟨a, b, v, rfl, hv, h⟩
theorem any_form {a b : Int} {v : D} (h : anyB a b v = true) : ∃ n ms ws, v = .tup [.int n, .tup ms, .tup ws] := by
  unfold anyB at h
  split at h
  · exact ⟨_, _, _, rfl⟩
  · cases h
def iz0 : Y.S := .ret (.bop true [(.call "is_world_of_any_size" [(.var 0), (.var 1)]), (.cmp .le (.sub (.var 1) (.int 0)) (.gv "MOST_PLACES"))])
theorem ir_iz : ir_is_world = [iz0] := rfl
def lo0 : Y.S := .ife (.bop false [(.not (.isi (.var 1) .tuple)), (.cmp .ne (.bi .len [(.var 1)]) (.int 3)), (.not (.call "_law_is_integer" [(.sub (.var 1) (.int 0))])), (.cmp .lt (.sub (.var 1) (.int 0)) (.int 1)), (.cmp .gt (.sub (.var 1) (.int 0)) (.int 60))]) [.ret (.bl false)] []
def lo1 : Y.S := .asg (.name (.many [5, 6, 7])) (.var 1)
def lo2 : Y.S := .ife (.bop false [(.not (.isi (.var 6) .tuple)), (.not (.isi (.var 7) .tuple)), (.cmp .ne (.bi .len [(.var 6)]) (.sub (.var 0) (.int 0))), (.cmp .ne (.bi .len [(.var 7)]) (.sub (.var 0) (.int 1)))]) [.ret (.bl false)] []
def lo3 : Y.S := .asg (.name (.one 2)) (.bi .list [(.var 6)])
def lo4b : List Y.S := [.ife (.bop false [(.not (.isi (.var 3) .tuple)), (.cmp .ne (.bi .len [(.var 3)]) (.var 5))]) [.ret (.bl false)] [], .asg (.name (.one 2)) (.op .add (.var 2) (.bi .list [(.var 3)]))]
def lo4 : Y.S := .frr (.one 3) (.seq (.var 7)) lo4b
def badE : E := .lc [8] (.one 8) (.seq (.var 4)) (some (.bop false [(.not (.call "_law_is_integer" [(.var 8)])), (.cmp .lt (.var 8) (.int 0)), (.cmp .ge (.var 8) (.var 5))])) (.var 8)
def lo5b : List Y.S := [.ife (.bop false [(.not (.isi (.var 4) .tuple)), (.cmp .gt (.bi .len [badE]) (.int 0)), (.cmp .ne (.bi .list [(.var 4)]) (.bi .sortset [(.var 4)]))]) [.ret (.bl false)] []]
def lo5 : Y.S := .frr (.one 4) (.seq (.var 2)) lo5b
def lo6 : Y.S := .ret (.bl true)
theorem ir_lo : ir__law_world_ok = [lo0, lo1, lo2, lo3, lo4, lo5, lo6] := rfl
def shB (n : Int) : D → Bool
  | .tup rows => decide ((rows.length : Int) = n)
  | _ => false
def rowsD : D → List D
  | .tup rows => rows
  | _ => []
theorem way_split (n : Int) : ∀ ws : List D, ws.all (wayB n) = (ws.all (shB n) && (ws.flatMap rowsD).all (ascB n))
  | [] => rfl
  | w :: ws => by
    rw [List.all_cons, List.all_cons, List.flatMap_cons, List.all_append, way_split n ws]
    have e : wayB n w = (shB n w && (rowsD w).all (ascB n)) := by cases w <;> rfl
    rw [e]
    cases shB n w <;> cases (rowsD w).all (ascB n) <;> cases ws.all (shB n) <;> rfl
section
variable {Γ : G}
theorem w_isw (g1 : Γ.fn "is_world_of_any_size" = sp_anyw) (v1 : Γ.gv "MOST_PLACES" = some (.int 60)) : ∀ ds S R, sp_wok ds S R → wss Γ ir_is_world (ends R) (startD ck_is_world.N ds) S := by
  rintro _ S R ⟨a, b, v, rfl, hv, hR⟩
  rw [ir_iz]
  show ws Γ iz0 ⟨fun σ1 S1 => wss Γ [] (ends R) σ1 S1, (ends R).rt⟩ [some (.tup [.int a, .int b]), some v] S
  simp [iz0, g1]
  refine anyw_go hv ?_
  cases c : anyB a b v with
  | false =>
    simp
    rw [wokB, c] at hR
    exact ⟨S, .refl, hR⟩
  | true =>
    obtain ⟨n, ms, ws, rfl⟩ := any_form c
    rw [wokB, c] at hR
    simp [v1]
    exact ⟨S, .refl, hR⟩
theorem lo_bad (g1 : Γ.fn "_law_is_integer" = sp_is_whole) {n : Int} {xs : List D} {S : Store} {R : DVK} {x0 x1 x2 x3 x6 x7 x8 : Option D} (hv : Vls S xs) (hl : xs.length ≤ 16777215) (h : ∀ r ys S', S r = none → S' = S.upd r (.lst ys) → (ys = [] ↔ xs.all (itB n) = true) → R (.loc r) S') :
    wp Γ badE [x0, x1, x2, x3, some (.tup xs), some (.int n), x6, x7, x8] S R := by
  unfold badE
  rw [x_lct, i_seq, x_var]
  refine ⟨_, rfl, ?_⟩
  rw [i_seqt]
  intro r hr
  refine lc_go (fun x => if itB n x = true then none else some x) hl (fun _ => trivial) (fun x hx ys k hk => ?_) ?_
  · have vx : Vl (S.upd r (.lst ys)) x := (vls_get hv hx).le (Le.new hr)
    refine ⟨_, rfl, ?_⟩
    cases x with
    | int i =>
      by_cases c1 : i < 0
      · have c1' : ¬ 0 ≤ i := by omega
        simp [itB, c1'] at hk
        simp [wipeD, g1, isWhole, c1]
        exact hk
      · have c1' : 0 ≤ i := by omega
        by_cases c2 : i < n
        · have c2' : ¬ n ≤ i := by omega
          simp [itB, c1', c2] at hk
          simp [wipeD, g1, isWhole, c1, c2']
          exact hk
        · have c2' : n ≤ i := by omega
          simp [itB, c1', c2] at hk
          simp [wipeD, g1, isWhole, c1, c2']
          exact hk
    | scr a => simp at vx
    | loc a =>
      simp [itB] at hk
      simp [wipeD, g1, isWhole]
      exact ⟨by simpa using vx, hk⟩
    | tup l =>
      simp [itB] at hk
      simp [wipeD, g1, isWhole]
      exact ⟨by simpa using vx, hk⟩
    | non =>
      simp [itB] at hk
      simp [wipeD, g1, isWhole]
      exact hk
    | bl b =>
      simp [itB] at hk
      simp [wipeD, g1, isWhole]
      exact hk
    | str b =>
      simp [itB] at hk
      simp [wipeD, g1, isWhole]
      exact hk
  · refine h r _ _ hr rfl ?_
    rw [List.filterMap_eq_nil_iff, List.all_eq_true]
    constructor
    · intro q x hx
      have := q x hx
      by_cases c : itB n x = true
      · exact c
      · rw [if_neg c] at this
        cases this
    · intro q x hx
      rw [if_pos (q x hx)]
theorem lo_rows (g1 : Γ.fn "_law_is_integer" = sp_is_whole) {n : Int} (hn : n ≤ 63) {x0 x1 x2 x3 x6 x7 x8 : Option D} {Z : Ends} {S0 : Store} {ok : Store → Prop} (ho : ∀ S, Le S0 S → ok S) : ∀ (rs : List D) (x4 : Option D) (S : Store), Le S0 S → (∀ w ∈ rs, RowV S0 w) → (∀ x4 S', Le S0 S' → rs.all (ascB n) = true → Z.nx [x0, x1, x2, x3, x4, some (.int n), x6, x7, x8] S') → (∀ S', Le S0 S' → rs.all (ascB n) = false → Z.rt (.bl false) S') →
      forL (.one 4) ok (wss Γ lo5b) rs Z [x0, x1, x2, x3, x4, some (.int n), x6, x7, x8] S
  | [], x4, S, l, _, h1, _ => ⟨ho S l, h1 x4 S l rfl⟩
  | w :: ws, x4, S, l, hw, h1, h2 => by
    refine ⟨ho S l, _, rfl, ?_⟩
    have rw_ := (hw w List.mem_cons_self).le l
    have no : ascB n w = false → ∀ S', Le S0 S' → Z.rt (.bl false) S' := fun e S' l => h2 S' l (by rw [List.all_cons, e]; rfl)
    cases w with
    | tup xs =>
      have vx := rw_.vl
      have wx := rw_.wt
      rw [vl_tup] at vx
      rw [wt_tup] at wx
      have hl := wts_len xs
      simp [lo5b]
      refine lo_bad g1 (S := S) vx (by omega) fun r ys S' hr e hy => ?_
      subst e
      simp
      by_cases c : ys = []
      · have ca := hy.mp c
        subst c
        obtain ⟨ns, rfl, hb⟩ := ints_of_all ca
        have h5 := ints_wt ns
        refine .inl ⟨rfl, ?_⟩
        intro q1 hq1
        refine ⟨ns, ints_of ns, by omega, .inr fun x hx => by have := hb x hx; omega, fun ms hs hm => ?_⟩
        rw [v_new]
        intro q2 hq2
        have n12 : q1 ≠ q2 := Store.ne up_same hq2
        refine ⟨_, (Store.upd_ne n12).trans up_same, _, up_same, pls_ints _ _, pls_ints _ _, ?_⟩
        rw [eqds_ints, rise_iff hs hm]
        have e : ascB n (.tup (ns.map D.int)) = decide (ns.Pairwise (· < ·)) := by
          show ((ns.map D.int).all (itB n) && (match intsD (ns.map D.int) with | some ns => decide (ns.Pairwise (· < ·)) | none => false)) = _
          rw [ca, ints_of]
          rfl
        have l3 := l.trans (((Le.new (o := .lst []) hr).trans (Le.new (o := .lst (ns.map D.int)) hq1)).trans (Le.new (o := .lst (ms.map D.int)) hq2))
        rw [← e]
        cases c2 : ascB n (.tup (ns.map D.int)) with
        | true =>
          refine .inl ⟨rfl, ?_⟩
          exact lo_rows g1 hn ho ws _ _ l3 (fun y hy => hw y (List.mem_cons_of_mem _ hy)) (fun x2' S'' a1 a2 => h1 x2' S'' a1 (by rw [List.all_cons, c2, a2]; rfl)) (fun S'' a1 a2 => h2 S'' a1 (by rw [List.all_cons, c2, a2]; rfl))
        | false =>
          refine .inr ⟨rfl, ?_⟩
          exact no c2 _ l3
      · have ca : xs.all (itB n) = false := by
          cases h : xs.all (itB n) with
          | false => rfl
          | true => exact absurd (hy.mpr h) c
        refine .inr ⟨List.length_pos_iff.mpr c, ?_⟩
        exact no (by simp [ascB, ca]) _ (l.trans (Le.new hr))
    | loc q =>
      have vl := rw_.vl
      rw [vl_loc] at vl
      obtain ⟨zs, ez⟩ := vl
      simp [lo5b, ez, isiO]
      exact no rfl S l
    | scr q => have vl := rw_.vl; simp at vl
    | _ =>
      simp [lo5b]
      exact no rfl S l
theorem lo_ways {n : Int} {x0 x1 x4 x6 x7 x8 : Option D} {Z : Ends} {S0 : Store} : ∀ (ws : List D) (x3 : Option D) (S : Store) (q : Addr) (L : List D), Le S0 S → S0 q = none → S q = some (.lst L) → L.length + D.wts ws ≤ 20000 → (∀ w ∈ ws, RowV S0 w) →
      (∀ x3 S' q', Le S0 S' → S0 q' = none → S' q' = some (.lst (L ++ ws.flatMap rowsD)) → ws.all (shB n) = true → Z.nx [x0, x1, some (.loc q'), x3, x4, some (.int n), x6, x7, x8] S') → (∀ S', Le S0 S' → ws.all (shB n) = false → Z.rt (.bl false) S') →
      forL (.one 3) (fun _ => True) (wss Γ lo4b) ws Z [x0, x1, some (.loc q), x3, x4, some (.int n), x6, x7, x8] S
  | [], x3, S, q, L, l, hq, eq, _, _, h1, _ => ⟨trivial, h1 x3 S q l hq (by simpa using eq) rfl⟩
  | w :: ws, x3, S, q, L, l, hq, eq, hL, hw, h1, h2 => by
    refine ⟨trivial, _, rfl, ?_⟩
    have rw_ := (hw w List.mem_cons_self).le l
    have no : shB n w = false → ∀ S', Le S0 S' → Z.rt (.bl false) S' := fun e S' l => h2 S' l (by rw [List.all_cons, e]; rfl)
    cases w with
    | tup xs =>
      have hl := wts_len xs
      rw [wts_cons, wt_tup] at hL
      by_cases c : (xs.length : Int) = n
      · have ew : shB n (.tup xs) = true := decide_eq_true c
        simp [lo4b, c]
        intro r hr
        have nq : q ≠ r := Store.ne eq hr
        refine ⟨_, (Store.upd_ne nq).trans eq, ?_⟩
        rw [v_addl2]
        refine ⟨_, up_same, ?_⟩
        rw [v_addl3]
        refine ⟨line_le (by omega), ?_⟩
        rw [v_new]
        intro t ht
        have t0 : S0 t = none := by
          cases e : S0 t with
          | none => rfl
          | some o => have := (Le.new (o := .lst xs) hr) _ _ (l _ _ e); rw [this] at ht; cases ht
        refine lo_ways ws _ _ t (L ++ xs) (l.trans ((Le.new hr).trans (Le.new ht))) t0 up_same (by simp; omega) (fun y hy => hw y (List.mem_cons_of_mem _ hy)) (fun x3' S'' q' a1 a2 a3 a4 => h1 x3' S'' q' a1 a2 (by rw [List.flatMap_cons, ← List.append_assoc]; exact a3) (by rw [List.all_cons, ew, a4]; rfl)) (fun S'' a1 a2 => h2 S'' a1 (by rw [List.all_cons, ew, a2]; rfl))
      · simp [lo4b, c]
        exact no (decide_eq_false c) S l
    | loc q =>
      have vl := rw_.vl
      rw [vl_loc] at vl
      obtain ⟨zs, ez⟩ := vl
      simp [lo4b, ez, isiO]
      exact no rfl S l
    | scr q => have vl := rw_.vl; simp at vl
    | _ =>
      simp [lo4b]
      exact no rfl S l
theorem wok_len {a b : Int} {xs : List D} (h : xs.length ≠ 3) : wokB a b (.tup xs) = false := by
  rw [wokB, any_len h]
  rfl
theorem w_lwok (g1 : Γ.fn "_law_is_integer" = sp_is_whole) : ∀ ds S R, sp_wok ds S R → wss Γ ir__law_world_ok (ends R) (startD ck__law_world_ok.N ds) S := by
  rintro _ S R ⟨a, b, v, rfl, hv, hR⟩
  rw [ir_lo]
  show ws Γ lo0 ⟨fun σ1 S1 => wss Γ [lo1, lo2, lo3, lo4, lo5, lo6] (ends R) σ1 S1, (ends R).rt⟩ [some (.tup [.int a, .int b]), some v, none, none, none, none, none, none, none] S
  have no : wokB a b v = false → ∀ S', Le S S' → ∃ S'', Le S'' S' ∧ R (.bl false) S'' := fun e S' l => ⟨S, l, by rw [e] at hR; exact hR⟩
  have vl := hv.vl
  cases v with
  | tup xs =>
    match xs with
    | [x, y, z] =>
      have hx := hv.mem (x := x) (by simp)
      have hy := hv.mem (x := y) (by simp)
      have hz := hv.mem (x := z) (by simp)
      cases x with
      | int n =>
        have hn : n ≤ 63 := by have := hx.mx; rw [mx_int] at this; omega
        have e1 : n < 1 → wokB a b (.tup [.int n, y, z]) = false := fun c1 => by
          cases y <;> cases z <;> simp [wokB, anyB]
          intro h; omega
        have e2 : 60 < n → wokB a b (.tup [.int n, y, z]) = false := fun c1 => by
          have : firstB (.tup [.int n, y, z]) = false := decide_eq_false (by omega)
          rw [wokB, this, Bool.and_false]
        by_cases c1 : n < 1
        · simp [lo0, g1, isWhole, c1, -x_ss]
          exact no (e1 c1) S .refl
        · have c1' : 1 ≤ n := by omega
          by_cases c6 : 60 < n
          · simp [lo0, g1, isWhole, c1, c6, -x_ss]
            exact no (e2 c6) S .refl
          · have e3 : firstB (.tup [.int n, y, z]) = true := decide_eq_true (by omega)
            simp [lo0, g1, isWhole, c1, c6, -x_ss]
            have nob : wokB a b (.tup [.int n, y, z]) = false → ∀ S', Le S S' → (ends R).rt (.bl false) S' := no
            have step : ∀ ms wz, y = .tup ms → z = .tup wz → (ms.length : Int) = a → (wz.length : Int) = b → wss Γ [lo3, lo4, lo5, lo6] (ends R) [some (.tup [.int a, .int b]), some (.tup [.int n, y, z]), none, none, none, some (.int n), some y, some z, none] S := by
              rintro ms wz rfl rfl la lb
              have ev : wokB a b (.tup [.int n, .tup ms, .tup wz]) = (wz.all (shB n) && (ms ++ wz.flatMap rowsD).all (ascB n)) := by
                rw [wokB, e3, Bool.and_true]
                show (decide (1 ≤ n) && (decide ((ms.length : Int) = a) && (decide ((wz.length : Int) = b) && (ms.all (ascB n) && wz.all (wayB n))))) = _
                rw [decide_eq_true c1', decide_eq_true la, decide_eq_true lb, way_split, List.all_append]
                cases ms.all (ascB n) <;> cases wz.all (shB n) <;> simp
              have wy := hy.wt
              have wz2 := hz.wt
              rw [wt_tup] at wy wz2
              have ly := wts_len ms
              show ws Γ lo3 ⟨fun σ1 S1 => wss Γ [lo4, lo5, lo6] (ends R) σ1 S1, (ends R).rt⟩ _ S
              simp [lo3, -x_ss]
              intro q hq
              show ws Γ lo4 ⟨fun σ1 S1 => wss Γ [lo5, lo6] (ends R) σ1 S1, (ends R).rt⟩ _ _
              simp only [lo4, x_frr, i_seq, x_var]
              refine ⟨_, rfl, ?_⟩
              rw [i_seqt]
              refine lo_ways (S0 := S) wz none _ q ms (Le.new hq) hq up_same (by omega) (fun w hw => hz.mem hw) (fun x3 S1 q' l1 q0 e4 s1 => ?_) fun S1 l1 s1 => ?_
              · show ws Γ lo5 ⟨fun σ1 S1 => wss Γ [lo6] (ends R) σ1 S1, (ends R).rt⟩ _ S1
                simp only [lo5, x_frr, i_seq, x_var]
                refine ⟨_, rfl, ?_⟩
                rw [i_seql]
                refine ⟨_, e4, ?_⟩
                have rv : ∀ w ∈ ms ++ wz.flatMap rowsD, RowV S1 w := fun w hw => by
                  rcases List.mem_append.mp hw with hw | hw
                  · exact (hy.mem hw).le l1
                  · obtain ⟨u, hu, hw⟩ := List.mem_flatMap.mp hw
                    have ru := hz.mem hu
                    cases u with
                    | tup us => exact (ru.mem hw).le l1
                    | _ => cases hw
                refine lo_rows (S0 := S1) g1 hn (fun S2 l2 => l2 _ _ e4) _ none S1 .refl rv (fun x4 S2 l2 a2 => ?_) fun S2 l2 a2 => ?_
                · simp [lo6]
                  refine ⟨S, l1.trans l2, ?_⟩
                  rw [ev, s1, a2] at hR
                  exact hR
                · exact nob (by rw [ev, a2, Bool.and_false]) S2 (l1.trans l2)
              · exact nob (by rw [ev, s1]; rfl) S1 l1
            show wss Γ [lo1, lo2, lo3, lo4, lo5, lo6] (ends R) [some (.tup [.int a, .int b]), some (.tup [.int n, y, z]), none, none, none, none, none, none, none] S
            refine ⟨_, rfl, _, rfl, ?_⟩
            show ws Γ lo2 ⟨fun σ1 S1 => wss Γ [lo3, lo4, lo5, lo6] (ends R) σ1 S1, (ends R).rt⟩ [some (.tup [.int a, .int b]), some (.tup [.int n, y, z]), none, none, none, some (.int n), some y, some z, none] S
            cases y with
            | tup ms =>
              cases z with
              | tup wz =>
                by_cases la : (ms.length : Int) = a
                · by_cases lb : (wz.length : Int) = b
                  · have st := step ms wz rfl rfl la lb
                    simp [lo2, la, lb, -x_ss]
                    exact st
                  · simp [lo2, la, lb, -x_ss]
                    exact nob (by rw [wokB]; show ((decide (1 ≤ n) && (decide ((ms.length : Int) = a) && (decide ((wz.length : Int) = b) && _))) && _) = false; rw [decide_eq_false lb]; simp) S .refl
                · simp [lo2, la, -x_ss]
                  exact nob (by rw [wokB]; show ((decide (1 ≤ n) && (decide ((ms.length : Int) = a) && _)) && _) = false; rw [decide_eq_false la]; simp) S .refl
              | loc q =>
                have vz := hz.vl
                rw [vl_loc] at vz
                obtain ⟨zs, ez⟩ := vz
                simp [lo2, ez, isiO, -x_ss]
                exact nob rfl S .refl
              | scr q => have vz := hz.vl; simp at vz
              | _ =>
                simp [lo2, -x_ss]
                exact nob rfl S .refl
            | loc q =>
              have vy := hy.vl
              rw [vl_loc] at vy
              obtain ⟨zs, ez⟩ := vy
              simp [lo2, ez, isiO, -x_ss]
              exact nob rfl S .refl
            | scr q => have vy := hy.vl; simp at vy
            | _ =>
              simp [lo2, -x_ss]
              exact nob rfl S .refl
      | scr q => have vx := hx.vl; simp at vx
      | loc q =>
        have vx := hx.vl
        rw [vl_loc] at vx
        simp [lo0, g1, isWhole, -x_ss]
        exact ⟨vx, no rfl S .refl⟩
      | tup l =>
        have vx := hx.vl
        rw [vl_tup] at vx
        simp [lo0, g1, isWhole, vx, -x_ss]
        exact no rfl S .refl
      | _ =>
        simp [lo0, g1, isWhole, -x_ss]
        exact no rfl S .refl
    | [] =>
      simp [lo0, -x_ss]
      exact no (wok_len (by simp)) S .refl
    | [_] =>
      simp [lo0, -x_ss]
      exact no (wok_len (by simp)) S .refl
    | [_, _] =>
      simp [lo0, -x_ss]
      exact no (wok_len (by simp)) S .refl
    | _ :: _ :: _ :: _ :: r =>
      have c : ¬ ((r.length : Int) + 1 + 1 + 1 + 1 = 3) := by omega
      simp [lo0, c, -x_ss]
      exact no (wok_len (by simp)) S .refl
  | loc q =>
    rw [vl_loc] at vl
    obtain ⟨zs, ez⟩ := vl
    simp [lo0, ez, isiO]
    exact no rfl S .refl
  | scr q => simp at vl
  | _ =>
    simp [lo0]
    exact no rfl S .refl
end
end Y

namespace Y
open PySem PySem.Spec L2
/-! ### values that a law tries -/
mutual
theorem vb_keep {S S' : Store} {m : Nat} (h : ∀ z xs, S z = some (.lst xs) → D.pls 100 xs = true → S' z = some (.lst xs)) : ∀ {d : D}, Vb S m d → Vb S' m d
  | .tup xs, q => by rw [vb_tup] at q ⊢; exact vbs_keep h q
  | .loc a, q => by
    rw [vb_loc] at q ⊢
    obtain ⟨xs, e, q, w⟩ := q
    exact ⟨xs, h a xs e q, q, w⟩
  | .scr _, q => by rw [Vb] at q; exact q.elim
  | .non, _ => vb_non
  | .bl _, _ => vb_bl
  | .int _, _ => vb_int
  | .str _, _ => vb_str
theorem vbs_keep {S S' : Store} {m : Nat} (h : ∀ z xs, S z = some (.lst xs) → D.pls 100 xs = true → S' z = some (.lst xs)) : ∀ {d : List D}, Vbs S m d → Vbs S' m d
  | [], _ => vbs_nil
  | x :: xs, q => by rw [vbs_cons] at q ⊢; exact ⟨vb_keep h q.1, vbs_keep h q.2⟩
end
mutual
theorem vb_upd {S : Store} {m : Nat} {r : Addr} {o : MO} : ∀ {d : D}, d.hasL r = false → Vb S m d → Vb (S.upd r o) m d
  | .tup xs, q, h => by rw [hasL_tup] at q; rw [vb_tup] at h ⊢; exact vbs_upd q h
  | .loc a, q, h => by
    rw [hasL_loc] at q
    rw [vb_loc] at h ⊢
    obtain ⟨xs, e, z⟩ := h
    exact ⟨xs, (Store.upd_ne (Ne.symm (of_decide_eq_false q))).trans e, z⟩
  | .scr _, _, h => by rw [Vb] at h; exact h.elim
  | .non, _, _ => vb_non
  | .bl _, _, _ => vb_bl
  | .int _, _, _ => vb_int
  | .str _, _, _ => vb_str
theorem vbs_upd {S : Store} {m : Nat} {r : Addr} {o : MO} : ∀ {d : List D}, D.hasLs r d = false → Vbs S m d → Vbs (S.upd r o) m d
  | [], _, _ => vbs_nil
  | x :: xs, q, h => by
    rw [hasLs_cons, Bool.or_eq_false_iff] at q
    rw [vbs_cons] at h ⊢
    exact ⟨vb_upd q.1 h.1, vbs_upd q.2 h.2⟩
end
structure GoodW (S : Store) (x : D) : Prop where
  vb : Vb S 5000 x
  dep : x.dep ≤ 9
  wt : x.wt ≤ 5000
  nl : x.nl ≤ 1
  mx : x.mx ≤ 63
theorem GoodW.le {S S' : Store} (l : Le S S') {x : D} (h : GoodW S x) : GoodW S' x := ⟨h.vb.le l, h.dep, h.wt, h.nl, h.mx⟩
theorem GoodW.of {S : Store} {x : D} (h : D.pl 9 x = true) (w : x.wt ≤ 5000) (m : x.mx ≤ 63) : GoodW S x := ⟨vb_pl h, pl_dep h, w, by rw [nl_pl h]; omega, m⟩
theorem GoodW.row {S : Store} {x : D} (h : GoodW S x) : RowV S x := ⟨vl_vb h.vb, h.wt, h.mx⟩
theorem GoodW.repr {S : Store} {x : D} {R : DVK} (g : GoodW S x) (h : ∀ t, Str.ofString t = (pyV S x).shown → R (.str t) S) : biW .repr [x] S R :=
  repr_go g.vb (by omega) (by have := g.wt; omega) g.nl (by have := g.dep; omega) h
section
variable {Γ : G} {Z : Ends} {S : Store} {p c : Addr} {a b : Int} {x0 : Option D}
/-- a list of bent values, made one by one -/
theorem bent_list {N : Nat} {r : Addr} {v : D} (pv : D.pl 8 v = true) (hd : v.dep < N) (hw : 2 * v.wt + 20 ≤ 5000) (hm : v.mx + 2 ≤ 63) {ok : Store → Prop} (hok : ∀ S, ok S) {Q : Store → Prop} {step : D → Store → (Option D → Store → Prop) → Prop}
    (hs : ∀ x S k, sp_bent N [.loc p, v] S (fun y S4 => k (some y) S4) → step x S k) : ∀ (xs acc : List D) (S : Store), acc.length + xs.length ≤ 100 → r ≠ p → r ≠ c → Pool S p c → S r = some (.lst acc) → (∀ y ∈ acc, GoodW S y ∧ y.hasL r = false) →
      (∀ (acc' : List D) (S' : Store), acc'.length ≤ 100 → Pool S' p c → S' r = some (.lst acc') → (∀ y ∈ acc', GoodW S' y) → (∀ z o, z ≠ p → z ≠ r → S z = some o → S' z = some o) → Q S') → lcL r ok step xs acc S Q
  | [], acc, S, hl, n1, n2, hp, e, ha, h => ⟨hok S, h acc S (by simpa using hl) hp e (fun y hy => (ha y hy).1) fun _ _ _ _ q => q⟩
  | x :: xs, acc, S, hl, n1, n2, hp, e, ha, h => by
    simp only [List.length_cons] at hl
    have dv := pl_dep pv
    refine ⟨hok S, hs x S _ ?_⟩
    refine bent_go hp (pl_mono (by omega) pv) hd (by omega) fun d S4 bd ex => ?_
    have e4 : S4 r = some (.lst acc) := ex.2 r _ n1 e
    have hr : d.hasL r = false := by
      cases q : d.hasL r with
      | false => rfl
      | true => have := bd.fr r q; rw [e] at this; cases this
    refine ⟨e4, line_lt (by omega), ?_⟩
    have gd : GoodW S4 d := ⟨vb_m (by omega) bd.vb, by have := bd.dep; omega, by have := bd.wt; omega, bd.nl, by have := bd.mx; omega⟩
    have up : ∀ y, GoodW S4 y → y.hasL r = false → GoodW (S4.upd r (.lst (acc ++ [d]))) y := fun y g q => ⟨vb_upd q g.vb, g.dep, g.wt, g.nl, g.mx⟩
    refine bent_list pv hd hw hm hok hs xs (acc ++ [d]) _ (by simp; omega) n1 n2 (ex.1.upd n1 n2) up_same (fun y hy => ?_) fun acc' S' h1 h2 h3 h4 h5 => h acc' S' h1 h2 h3 h4 fun z o z1 z2 ze => h5 z o z1 z2 ((Store.upd_ne z2).trans (ex.2 z o z1 ze))
    rcases List.mem_append.mp hy with hy | hy
    · obtain ⟨g1, g2⟩ := ha y hy
      exact ⟨up y ⟨g1.vb.ex hp ex, g1.dep, g1.wt, g1.nl, g1.mx⟩ g2, g2⟩
    · rw [List.mem_singleton.mp hy]
      exact ⟨up d gd hr, hr⟩
theorem asg_add {i : Nat} {σ : DSt} {es : List E} {X Y : List D} {q : Addr} (h10 : σ[i]? = some (some (.loc q))) (e : S q = some (.lst X)) (he : ∀ S' (Q : List D → Store → Prop), Le S S' → Q Y S' → wps Γ es σ S' Q) (hl : X.length + Y.length ≤ 1000)
    (k : ∀ t S', Le S S' → S t = none → S' t = some (.lst (X ++ Y)) → Z.nx (σ.set i (some (.loc t))) S') : ws Γ (.asg (.name (.one i)) (.op .add (.var i) (.lst es))) Z σ S := by
  show ∃ d, σ[i]? = some (some d) ∧ wps Γ es σ S fun ds S1 => ds.length ≤ sizeLine ∧ ∀ p, S1 p = none → opW .add d (.loc p) (S1.upd p (.lst ds)) fun x S2 => ∃ σ1, bindT (.one i) x σ = some σ1 ∧ Z.nx σ1 S2
  refine ⟨_, h10, he _ _ .refl ⟨line_le (by omega), fun r hr => ?_⟩⟩
  have nr : q ≠ r := Store.ne e hr
  rw [v_addl]
  refine ⟨_, (Store.upd_ne nr).trans e, ?_⟩
  rw [v_addl2]
  refine ⟨_, up_same, ?_⟩
  rw [v_addl3]
  refine ⟨line_le (by omega), ?_⟩
  rw [v_new]
  intro t ht
  exact ⟨_, rfl, k t _ ((Le.new hr).trans (Le.new ht)) (Store.upd_none.mp ht).2 up_same⟩
end
/-! ### parts of worlds that are plain -/
structure PT (n A : Nat) (xs : List D) : Prop where
  pl : D.pls n xs = true
  wt : D.wts xs ≤ A
  mx : D.mxs xs ≤ 63
theorem PT.drop {n A : Nat} {xs : List D} (h : PT n A xs) (k : Nat) : PT n A (xs.drop k) := by
  have := wts_take xs k
  have hw := h.wt
  exact ⟨pls_of.mpr fun x hx => pls_of.mp h.pl x (List.mem_of_mem_drop hx), by omega, mxs_of.mpr fun x hx => mxs_of.mp h.mx x (List.mem_of_mem_drop hx)⟩
theorem PT.take {n A : Nat} {xs : List D} (h : PT n A xs) (k : Nat) : PT n A (xs.take k) := by
  have := wts_take xs k
  have hw := h.wt
  exact ⟨pls_of.mpr fun x hx => pls_of.mp h.pl x (List.mem_of_mem_take hx), by omega, mxs_of.mpr fun x hx => mxs_of.mp h.mx x (List.mem_of_mem_take hx)⟩
theorem PT.app {n A B : Nat} {xs ys : List D} (h : PT n A xs) (g : PT n B ys) : PT n (A + B) (xs ++ ys) := by
  refine ⟨pls_of.mpr fun x hx => ?_, by rw [wts_app]; have := h.wt; have := g.wt; omega, mxs_of.mpr fun x hx => ?_⟩
  · rcases List.mem_append.mp hx with q | q
    · exact pls_of.mp h.pl x q
    · exact pls_of.mp g.pl x q
  · rcases List.mem_append.mp hx with q | q
    · exact mxs_of.mp h.mx x q
    · exact mxs_of.mp g.mx x q
theorem PT.mem {n A : Nat} {xs ys : List D} (h : PT (n + 1) A xs) (m : D.tup ys ∈ xs) : PT n A ys := by
  have h1 : D.pl (n + 1) (.tup ys) = true := pls_of.mp h.pl _ m
  have h2 := wts_mem m
  have h3 := mxs_of.mp h.mx _ m
  rw [wt_tup] at h2
  rw [mx_tup] at h3
  have := h.wt
  exact ⟨h1, by omega, h3⟩
theorem PT.one {n A : Nat} {xs : List D} (h : PT n A xs) : PT (n + 1) (A + 6) [.tup xs] := by
  have hw := h.wt
  have hp := h.pl
  refine ⟨?_, by rw [wts_cons, wt_tup, wts_nil]; omega, by rw [mxs_cons, mx_tup, mxs_nil]; have := h.mx; omega⟩
  rw [p_cons, p_nil, Bool.and_true]
  exact hp
theorem PT.mono {n m A B : Nat} {xs : List D} (h : PT n A xs) (hn : n ≤ m) (hA : A ≤ B) : PT m B xs := ⟨pls_mono hn h.pl, by have := h.wt; omega, h.mx⟩
theorem pt_int {n : Nat} {i : Int} (h : i.natAbs ≤ 63) : PT n (i.natAbs + 5) [.int i] := ⟨by simp, by simp [D.wt], by simp; exact h⟩
theorem PT.times {n A : Nat} {xs : List D} (h : PT n A xs) (k : Nat) : PT n (k * A) (timesD (k : Nat) xs) := by
  unfold timesD
  rw [Int.toNat_natCast]
  induction k with
  | zero => exact ⟨by simp, by simp, by simp⟩
  | succ k ih =>
    rw [List.replicate_succ, List.flatten_cons]
    have := h.app ih
    exact this.mono (Nat.le_refl _) (by rw [Nat.succ_mul]; omega)
theorem good_tri {S : Store} {x : D} {ms ws : List D} {A B : Nat} (hx : D.pl 0 x = true) (wx : x.wt ≤ 100) (mx : x.mx ≤ 63) (hm : PT 7 A ms) (hw : PT 7 B ws) (h : A + B ≤ 4500) : GoodW S (.tup [x, .tup ms, .tup ws]) := by
  have h1 := hm.wt
  have h2 := hw.wt
  have h3 := hm.mx
  have h4 := hw.mx
  have p1 : D.pl 8 (.tup ms) = true := hm.pl
  have p2 : D.pl 8 (.tup ws) = true := hw.pl
  refine .of ?_ (by simp; omega) (by simp; omega)
  show D.pls 8 [x, .tup ms, .tup ws] = true
  rw [p_cons, p_cons, p_cons, p_nil, pl_mono (by omega) hx, p1, p2]
  rfl
theorem row_len {n : Nat} {r : List Nat} (h : RowOk n r) : r.length ≤ n := by
  have h1 : ∀ (m : Nat) (r : List Nat), r.Pairwise (· < ·) → (∀ k ∈ r, m ≤ k) → (∀ k ∈ r, k < n) → m ≤ n → r.length + m ≤ n := by
    intro m r
    induction r generalizing m with
    | nil => intro _ _ _ h; simpa using h
    | cons k r ih =>
      intro hp hm hn hmn
      rw [List.pairwise_cons] at hp
      have := ih (k + 1) hp.2 (fun j hj => hp.1 j hj) (fun j hj => hn j (List.mem_cons_of_mem _ hj)) (hn k List.mem_cons_self)
      have := hm k List.mem_cons_self
      simp only [List.length_cons]
      omega
  have := h1 0 r h.1 (fun _ _ => Nat.zero_le _) h.2 (Nat.zero_le _)
  omega
theorem pt_nats {n : Nat} {r : List Nat} (h : ∀ k ∈ r, k < 6) (m : Nat) : PT m (10 * r.length) (natD r) := by
  induction r with
  | nil => exact ⟨by simp [natD], by simp [natD], by simp [natD]⟩
  | cons k r ih =>
    have hk := h k List.mem_cons_self
    have i1 : PT m ((k : Int).natAbs + 5) [.int (k : Nat)] := pt_int (by omega)
    have := i1.app (ih fun j hj => h j (List.mem_cons_of_mem _ hj))
    refine this.mono (Nat.le_refl _) ?_
    simp only [List.length_cons]
    omega
theorem pt_all {n A : Nat} {xs : List D} (h : ∀ x ∈ xs, D.pl n x = true ∧ x.wt + 2 ≤ A ∧ x.mx ≤ 63) : PT n (A * xs.length) xs := by
  refine ⟨pls_of.mpr fun x hx => (h x hx).1, ?_, mxs_of.mpr fun x hx => (h x hx).2.2⟩
  induction xs with
  | nil => simp
  | cons x xs ih =>
    have h1 := (h x List.mem_cons_self).2.1
    have h2 := ih fun y hy => h y (List.mem_cons_of_mem _ hy)
    rw [wts_cons, List.length_cons, Nat.mul_add]
    omega
theorem pt_row {n : Nat} {r : List Nat} (h : RowOk n r) (n5 : n ≤ 5) (m : Nat) : D.pl (m + 1) (rowD r) = true ∧ (rowD r).wt + 2 ≤ 56 ∧ (rowD r).mx ≤ 63 := by
  have q := pt_nats (n := n) (r := r) (fun k hk => by have := h.2 k hk; omega) m
  have l := row_len h
  have h1 := q.wt
  have h2 := q.mx
  refine ⟨q.pl, ?_, ?_⟩
  · show (D.tup (natD r)).wt + 2 ≤ 56
    rw [wt_tup]; omega
  · show (D.tup (natD r)).mx ≤ 63
    rw [mx_tup]; exact h2
theorem pt_rows {n : Nat} {rs : List (List Nat)} (h : ∀ r ∈ rs, RowOk n r) (n5 : n ≤ 5) (m : Nat) : PT (m + 1) (56 * rs.length) (rs.map rowD) := by
  have := pt_all (n := m + 1) (A := 56) (xs := rs.map rowD) fun x hx => by
    obtain ⟨r, hr, rfl⟩ := List.mem_map.mp hx
    exact pt_row (h r hr) n5 m
  rw [List.length_map] at this
  exact this
def wayD (w : List (List Nat)) : D := .tup (w.map rowD)
theorem pt_ways {n : Nat} {wz : List (List (List Nat))} (h : ∀ x ∈ wz, x.length = n ∧ ∀ r ∈ x, RowOk n r) (n5 : n ≤ 5) (m : Nat) : PT (m + 2) (286 * wz.length) (wz.map wayD) := by
  have := pt_all (n := m + 2) (A := 286) (xs := wz.map wayD) fun x hx => by
    obtain ⟨w, hw, rfl⟩ := List.mem_map.mp hx
    obtain ⟨h1, h2⟩ := h w hw
    have q := pt_rows h2 n5 m
    have h1' := q.wt
    have h2' := q.mx
    refine ⟨q.pl, ?_, ?_⟩
    · show (D.tup (w.map rowD)).wt + 2 ≤ 286
      rw [wt_tup]; omega
    · show (D.tup (w.map rowD)).mx ≤ 63
      rw [mx_tup]; exact h2'
  rw [List.length_map] at this
  exact this
theorem WOk.pm {a b : Int} {W : Wd} (h : WOk a b W) (ha : a ≤ 3) : PT 6 168 (W.marks.map rowD) := (pt_rows h.m h.n5 5).mono (by omega) (by have := h.a; omega)
theorem WOk.pw {a b : Int} {W : Wd} (h : WOk a b W) (hb : b ≤ 2) : PT 6 572 (W.ways.map wayD) := (pt_ways h.w h.n5 4).mono (by omega) (by have := h.b; omega)
theorem Wd.d_eq (W : Wd) : W.d = .tup [.int (W.n : Nat), .tup (W.marks.map rowD), .tup (W.ways.map wayD)] := rfl
theorem WOk.good {a b : Int} {W : Wd} {S : Store} (h : WOk a b W) (ha : a ≤ 3) (hb : b ≤ 2) : GoodW S W.d := by
  have n5 := h.n5
  rw [W.d_eq]
  exact good_tri (A := 168) (B := 572) rfl (by simp [D.wt]; omega) (by simp; omega) ((h.pm ha).mono (by omega) (by omega)) ((h.pw hb).mono (by omega) (by omega)) (by omega)
theorem WOk.wt {a b : Int} {W : Wd} (h : WOk a b W) (ha : a ≤ 3) (hb : b ≤ 2) : W.d.wt ≤ 768 := by
  have n5 := h.n5
  have h1 := (h.pm ha).wt
  have h2 := (h.pw hb).wt
  rw [W.d_eq]
  simp [D.wt]
  omega
theorem WOk.mxs {a b : Int} {W : Wd} (h : WOk a b W) : W.d.mx ≤ 5 := by
  have n5 := h.n5
  have q : ∀ r : List Nat, RowOk W.n r → (rowD r).mx ≤ 5 := fun r hr => by
    show (D.tup (r.map fun k : Nat => D.int (k : Nat))).mx ≤ 5
    rw [mx_tup]
    refine mxs_of.mpr fun x hx => ?_
    obtain ⟨k, hk, rfl⟩ := List.mem_map.mp hx
    have := hr.2 k hk
    simp
    omega
  rw [W.d_eq]
  rw [mx_tup]
  refine mxs_of.mpr fun x hx => ?_
  simp at hx
  rcases hx with rfl | rfl | rfl
  · simp; omega
  · rw [mx_tup]
    refine mxs_of.mpr fun y hy => ?_
    obtain ⟨r, hr, rfl⟩ := List.mem_map.mp hy
    exact q r (h.m r hr)
  · rw [mx_tup]
    refine mxs_of.mpr fun y hy => ?_
    obtain ⟨w, hw, rfl⟩ := List.mem_map.mp hy
    show (D.tup (w.map rowD)).mx ≤ 5
    rw [mx_tup]
    refine mxs_of.mpr fun z hz => ?_
    obtain ⟨r, hr, rfl⟩ := List.mem_map.mp hz
    exact q r ((h.w w hw).2 r hr)
theorem WOk.plain {a b : Int} {W : Wd} (h : WOk a b W) (ha : a ≤ 3) (hb : b ≤ 2) : D.pl 8 W.d = true := by
  have p1 : D.pl 7 (.tup (W.marks.map rowD)) = true := (h.pm ha).pl
  have p2 : D.pl 7 (.tup (W.ways.map wayD)) = true := (h.pw hb).pl
  rw [W.d_eq]
  show D.pls 7 _ = true
  rw [p_cons, p_cons, p_cons, p_nil, p1, p2]
  rfl
end Y

namespace Y
open PySem PySem.Spec L2
/-! ### rows drawn; rows compared -/
section
variable {Γ : G} {p c : Addr} {S : Store} {R : DVK}
theorem row_draw (g1 : Γ.fn "_law_draw" = sp_draw) {σ : DSt} {n i x : Nat} {nE : E} (hi : σ[i]? = some (some (.loc p))) (ix : x ≠ i) (len : x < σ.length) (hn : n ≤ 100) (hnE : ∀ R : DVK, R (.int (n : Nat)) S → wp Γ nE σ S R) (hp : Pool S p c)
    (h : ∀ row S', RowOk n row → Ex p c S S' → R (rowD row) S') : wp Γ (.bi .tuple [(.lc [x] (.one x) (.range nE) (some (.cmp .eq (.call "_law_draw" [(.var i), (.int 2)]) (.int 0))) (.var x))]) σ S R := by
  rw [x_bi, x_ps, x_lct, i_rng]
  refine hnE _ ⟨_, rfl, by omega, fun r hr => ?_⟩
  obtain ⟨n1, n2⟩ := hp.ne hr
  have e : rangeD (n : Int).toNat = (List.range' 0 n).map fun k : Nat => D.int (k : Nat) := by rw [rangeD_map, List.range_eq_range']
  rw [e]
  refine row_loop (fun k S2 cc hp2 hc => ?_) n1 n2 n 0 [] _ up_same (hp.le (Le.new hr)) .nil (fun x hx => by cases hx) (by simp; omega) fun acc' S' q1 q2 q3 q4 q5 => ?_
  · refine ⟨_, rfl, ?_⟩
    have z0 : ((σ.set x none).set x (some (.int (k : Nat))))[i]? = some (some (.loc p)) := by
      rw [List.getElem?_set_ne ix, List.getElem?_set_ne ix]
      exact hi
    have z9 : ((σ.set x none).set x (some (.int (k : Nat))))[x]? = some (some (.int (k : Nat))) := List.getElem?_set_self (by simpa using len)
    refine ⟨_, z0, ?_⟩
    show Γ.fn "_law_draw" [.loc p, .int 2] S2 _
    rw [g1]
    refine draw_go hp2 (by omega) (by omega) fun d S3 d0 d1 dr => ?_
    obtain ⟨c1, c2⟩ := hc S3 dr
    rw [x_int]
    show cmpW .eq (.int d) (.int 0) S3 _
    rw [v_eqii]
    refine ⟨_, rfl, ?_⟩
    cases (d == 0) with
    | true => exact ⟨_, z9, c2⟩
    | false => exact c1
  · show biW .tuple [.loc r] S' R
    rw [v_tupl]
    refine ⟨_, q4, ?_⟩
    rw [v_tupo]
    exact h acc' S' ⟨q1, fun x hx => by have := q2 x hx; omega⟩ ⟨q3, fun z o zp ez => q5 z o zp (Store.ne ez hr) ((Store.upd_ne (Store.ne ez hr)).trans ez)⟩
end
theorem same_row {S : Store} {L : List Nat} {n N : Nat} (h : RowOk n L) (n5 : n ≤ 5) (hN : 2 ≤ N) : SameV S N (rowD L) (rowD L) := by
  obtain ⟨h1, h2, h3⟩ := pt_row h n5 0
  have hz := sz_wt (rowD L)
  have z : D.szs [rowD L] ≤ 1000 := by rw [szs_cons, szs_nil]; omega
  exact SameV.up hN (same_pl 1 (rowD L) h1 z)
theorem plN_ok (n : Nat) (v : Pl) : RowOk n (plN n v) := ⟨(List.pairwise_lt_range).sublist List.filter_sublist, fun k hk => by
  have := List.mem_filter.mp hk
  exact List.mem_range.mp this.1⟩
theorem row_nodup {n : Nat} {r : List Nat} (h : RowOk n r) : r.Nodup := by
  rw [List.nodup_iff_pairwise_ne]
  exact h.1.imp fun q => by omega
theorem setL_row {n : Nat} {r : List Nat} (h : RowOk n r) : SetL n (fun k => r.contains k) r := ⟨row_nodup h, fun k => by
  show k ∈ r ↔ k < n ∧ r.contains k = true
  rw [List.contains_iff_mem]
  exact ⟨fun q => ⟨h.2 k q, q⟩, fun q => q.2⟩⟩
theorem plN_row {n : Nat} {r : List Nat} (h : RowOk n r) : plN n (fun k => r.contains k) = r := by
  refine List.Perm.eq_of_pairwise (le := fun x y : Nat => x < y) (fun a b _ _ h1 h2 => by omega) (plN_ok n _).1 h.1 ?_
  refine (List.perm_ext_iff_of_nodup (row_nodup (plN_ok n _)) (row_nodup h)).mpr fun k => ?_
  exact ((setL_range n _).mem k).trans ((setL_row h).mem k).symm
theorem parts_all {n : Nat} {v u : Pl} (h : EqP n u fun k => !(v k)) {ns : List Int} (p : ns.Perm (((plN n v) ++ (plN n u)).map fun k : Nat => (k : Int))) (s : ns.Pairwise (· ≤ ·)) : ns = (List.range n).map fun k : Nat => (k : Int) := by
  have e : plN n u = plN n fun k => !(v k) := plN_eq.mpr h
  rw [e] at p
  have p2 : (plN n v ++ plN n fun k => !(v k)).Perm (List.range n) := List.filter_append_perm v (List.range n)
  refine List.Perm.eq_of_pairwise (le := fun x y : Int => x ≤ y) (fun a b _ _ h1 h2 => by omega) s ?_ (p.trans (p2.map _))
  rw [List.pairwise_map]
  exact List.pairwise_lt_range.imp fun h => by omega
theorem asc_row {n : Nat} {r : List Nat} (h : RowOk n r) : ascB (n : Nat) (rowD r) = true := by
  have e : rowD r = .tup ((r.map fun k : Nat => (k : Int)).map D.int) := (rowD_ints r).symm
  rw [e]
  show (((r.map fun k : Nat => (k : Int)).map D.int).all (itB n) && (match intsD ((r.map fun k : Nat => (k : Int)).map D.int) with | some ns => decide (ns.Pairwise (· < ·)) | none => false)) = true
  rw [ints_of]
  simp only [Bool.and_eq_true]
  constructor
  · rw [List.all_eq_true]
    intro x hx
    simp at hx
    obtain ⟨k, hk, rfl⟩ := hx
    have := h.2 k hk
    simp [itB]
    omega
  · rw [decide_eq_true_eq, List.pairwise_map]
    exact h.1.imp fun q => by omega
theorem WOk.is {a b : Int} {W : Wd} (h : WOk a b W) : wokB a b W.d = true := by
  have n1 := h.n1
  have n5 := h.n5
  rw [W.d_eq, wokB]
  have e1 : firstB (.tup [.int (W.n : Nat), .tup (W.marks.map rowD), .tup (W.ways.map wayD)]) = true := decide_eq_true (by omega)
  rw [e1, Bool.and_true]
  show (decide ((1 : Int) ≤ (W.n : Nat)) && (decide (((W.marks.map rowD).length : Int) = a) && (decide (((W.ways.map wayD).length : Int) = b) && ((W.marks.map rowD).all (ascB (W.n : Nat)) && (W.ways.map wayD).all (wayB (W.n : Nat)))))) = true
  have e2 : (W.marks.map rowD).all (ascB (W.n : Nat)) = true := by
    rw [List.all_eq_true]
    intro x hx
    obtain ⟨r, hr, rfl⟩ := List.mem_map.mp hx
    exact asc_row (h.m r hr)
  have e3 : (W.ways.map wayD).all (wayB (W.n : Nat)) = true := by
    rw [List.all_eq_true]
    intro x hx
    obtain ⟨w, hw, rfl⟩ := List.mem_map.mp hx
    obtain ⟨h1, h2⟩ := h.w w hw
    show (decide (((w.map rowD).length : Int) = (W.n : Nat)) && (w.map rowD).all (ascB (W.n : Nat))) = true
    rw [Bool.and_eq_true]
    refine ⟨decide_eq_true (by simp; omega), ?_⟩
    rw [List.all_eq_true]
    intro x hx
    obtain ⟨r, hr, rfl⟩ := List.mem_map.mp hx
    exact asc_row (h2 r hr)
  rw [e2, e3, decide_eq_true (by omega), decide_eq_true (by simp; exact h.a), decide_eq_true (by simp; exact h.b)]
  rfl
end Y

namespace Y
open PySem PySem.Spec L2
/-! ### a saying in the place of a name; new names -/
def Sy.put (x : Int) (g : Sy) : Sy → Sy
  | .name i => if i = x then g else .name i
  | .two b l r => .two b (Sy.put x g l) (Sy.put x g r)
  | .step b i s => .step b i (Sy.put x g s)
  | .fix b i s => .fix b i (Sy.put x g s)
  | .yes b => .yes b
  | .is b i => .is b i
def insL (L : List Int) (j : Int) : List Int := if j ∈ L then L else L ++ [j]
def freeL (al : List Int) : List Int := ((List.range 20).map fun k : Nat => (k : Int)).filter fun y => !(al.contains y)
def nupd (nm : Int → Int) (i j : Int) : Int → Int := fun k => if k = i then j else nm k
def newN (sn al : List Int) (i : Int) : Option Int := if i ∈ sn then (freeL al).head? else some i
def two? (c : Bool) : Option Sy → Option Sy → Option Sy
  | some l, some r => some (.two c l r)
  | _, _ => none
abbrev RenT := Option Sy × List Int × List Int
def ren : Sy → (Int → Int) → List Int → List Int → RenT
  | .name i, nm, sn, al => (some (.name (nm i)), sn, al)
  | .yes b, _, sn, al => (some (.yes b), sn, al)
  | .is b i, _, sn, al => (some (.is b i), sn, al)
  | .two c l r, nm, sn, al =>
    (two? c (ren l nm sn al).1 (ren r nm (ren l nm sn al).2.1 (ren l nm sn al).2.2).1, (ren r nm (ren l nm sn al).2.1 (ren l nm sn al).2.2).2)
  | .step c i x, nm, sn, al => ((ren x nm sn al).1.map (.step c i), (ren x nm sn al).2)
  | .fix c i x, nm, sn, al => match newN sn al i with
    | none => (none, sn, al)
    | some j => ((ren x (nupd nm i j) (insL sn j) (insL al j)).1.map (.fix c j), (ren x (nupd nm i j) (insL sn j) (insL al j)).2)
def nms (s : Sy) : List Int := s.fixes.map Sy.arg
@[simp] theorem nms_yes {b : Bool} : nms (.yes b) = [] := rfl
@[simp] theorem nms_is {b : Bool} {i : Int} : nms (.is b i) = [] := rfl
@[simp] theorem nms_name {i : Int} : nms (.name i) = [] := rfl
@[simp] theorem nms_two {b : Bool} {l r : Sy} : nms (.two b l r) = nms l ++ nms r := by
  have e : (Sy.two b l r).fixes = l.fixes ++ r.fixes := by simp [Sy.fixes, Sy.parts, Sy.isFix, List.filter_append]
  simp [nms, e]
@[simp] theorem nms_step {b : Bool} {i : Int} {x : Sy} : nms (.step b i x) = nms x := by
  have e : (Sy.step b i x).fixes = x.fixes := by simp [Sy.fixes, Sy.parts, Sy.isFix]
  simp [nms, e]
@[simp] theorem nms_fix {b : Bool} {i : Int} {x : Sy} : nms (.fix b i x) = i :: nms x := by
  have e : (Sy.fix b i x).fixes = .fix b i x :: x.fixes := by simp [Sy.fixes, Sy.parts, Sy.isFix, List.filter_cons]
  simp [nms, e, Sy.arg]
theorem free_head {al : List Int} {j : Int} (h : (freeL al).head? = some j) : j ∉ al ∧ 0 ≤ j ∧ j ≤ 19 := by
  have m : j ∈ freeL al := List.mem_of_head? h
  unfold freeL at m
  rw [List.mem_filter] at m
  obtain ⟨m1, m2⟩ := m
  obtain ⟨k, hk, rfl⟩ := List.mem_map.mp m1
  have := List.mem_range.mp hk
  refine ⟨fun q => ?_, by omega, by omega⟩
  have : al.contains (k : Int) = true := List.contains_iff_mem.mpr q
  rw [this] at m2
  cases m2
theorem newN_not {sn al : List Int} {i j : Int} (sub : ∀ k ∈ sn, k ∈ al) (h : newN sn al i = some j) : j ∉ sn := by
  unfold newN at h
  by_cases c : i ∈ sn
  · rw [if_pos c] at h
    exact fun q => (free_head h).1 (sub j q)
  · rw [if_neg c] at h
    cases h
    exact c
theorem newN_rng {sn al : List Int} {i j : Int} (hi : 0 ≤ i ∧ i ≤ 19) (h : newN sn al i = some j) : 0 ≤ j ∧ j ≤ 19 := by
  unfold newN at h
  by_cases c : i ∈ sn
  · rw [if_pos c] at h
    exact (free_head h).2
  · rw [if_neg c] at h
    cases h
    exact hi
theorem insL_mem {L : List Int} {j k : Int} : k ∈ insL L j ↔ k ∈ L ∨ k = j := by
  unfold insL
  by_cases c : j ∈ L
  · rw [if_pos c]
    exact ⟨.inl, fun q => q.elim id fun e => by rw [e]; exact c⟩
  · rw [if_neg c]
    simp
theorem insL_new {L : List Int} {j : Int} (h : j ∉ L) : insL L j = L ++ [j] := if_neg h
theorem insL_len (L : List Int) (j : Int) : (insL L j).length ≤ L.length + 1 := by
  unfold insL
  split <;> simp
/-- the names grow -/
theorem ren_grow : ∀ (s : Sy) (nm : Int → Int) (sn al : List Int), (∀ k ∈ sn, k ∈ al) → sn.Nodup →
    (∀ k ∈ (ren s nm sn al).2.1, k ∈ (ren s nm sn al).2.2) ∧ (ren s nm sn al).2.1.Nodup ∧ (∀ k ∈ sn, k ∈ (ren s nm sn al).2.1) ∧
    (∀ t, (ren s nm sn al).1 = some t → (ren s nm sn al).2.1 = sn ++ nms t)
  | .name i, nm, sn, al, sub, nd => ⟨sub, nd, fun _ h => h, fun t e => by cases e; simp [ren]⟩
  | .yes b, nm, sn, al, sub, nd => ⟨sub, nd, fun _ h => h, fun t e => by cases e; simp [ren]⟩
  | .is b i, nm, sn, al, sub, nd => ⟨sub, nd, fun _ h => h, fun t e => by cases e; simp [ren]⟩
  | .two c l r, nm, sn, al, sub, nd => by
    obtain ⟨s1, n1, k1, f1⟩ := ren_grow l nm sn al sub nd
    obtain ⟨s2, n2, k2, f2⟩ := ren_grow r nm _ _ s1 n1
    refine ⟨s2, n2, fun k h => k2 k (k1 k h), fun t e => ?_⟩
    simp only [ren] at e
    cases h1 : (ren l nm sn al).1 with
    | none => rw [h1] at e; cases e
    | some l' =>
      cases h2 : (ren r nm (ren l nm sn al).2.1 (ren l nm sn al).2.2).1 with
      | none => rw [h1, h2] at e; cases e
      | some r' =>
        rw [h1, h2] at e
        cases e
        show (ren r nm (ren l nm sn al).2.1 (ren l nm sn al).2.2).2.1 = _
        rw [f2 r' h2, f1 l' h1, nms_two, List.append_assoc]
  | .step c i x, nm, sn, al, sub, nd => by
    obtain ⟨s1, n1, k1, f1⟩ := ren_grow x nm sn al sub nd
    refine ⟨s1, n1, k1, fun t e => ?_⟩
    simp only [ren] at e
    cases h1 : (ren x nm sn al).1 with
    | none => rw [h1] at e; cases e
    | some x' =>
      rw [h1] at e
      cases e
      show (ren x nm sn al).2.1 = _
      rw [f1 x' h1, nms_step]
  | .fix c i x, nm, sn, al, sub, nd => by
    cases hj : newN sn al i with
    | none =>
      simp only [ren, hj]
      exact ⟨sub, nd, fun _ h => h, fun t e => by cases e⟩
    | some j =>
      have nj := newN_not sub hj
      have sub' : ∀ k ∈ insL sn j, k ∈ insL al j := fun k h => insL_mem.mpr ((insL_mem.mp h).imp (sub k) id)
      have nd' : (insL sn j).Nodup := by
        rw [insL_new nj, List.nodup_append]
        exact ⟨nd, by simp, fun a ha b hb => by rw [List.mem_singleton.mp hb]; exact fun q => nj (by rw [← q]; exact ha)⟩
      obtain ⟨s1, n1, k1, f1⟩ := ren_grow x (nupd nm i j) (insL sn j) (insL al j) sub' nd'
      simp only [ren, hj]
      refine ⟨s1, n1, fun k h => k1 k (insL_mem.mpr (.inl h)), fun t e => ?_⟩
      cases h1 : (ren x (nupd nm i j) (insL sn j) (insL al j)).1 with
      | none => rw [h1] at e; cases e
      | some x' =>
        rw [h1] at e
        cases e
        rw [f1 x' h1, nms_fix, insL_new nj, List.append_assoc]
        rfl
/-! a form in which names may be bound anew -/
def wo (i : Int) (K : List Int) : List Int := K.filter fun k => !decide (k = i)
theorem wo_mem {i k : Int} {K : List Int} : k ∈ wo i K ↔ k ∈ K ∧ k ≠ i := by
  unfold wo
  rw [List.mem_filter]
  simp
def Wfs (a b : Int) : List Int → List Int → Sy → Prop
  | _, _, .yes _ => True
  | _, _, .is _ i => 0 ≤ i ∧ i < a
  | _, F, .name i => i ∈ F
  | K, F, .two _ l r => Wfs a b K F l ∧ Wfs a b K F r
  | K, _, .step _ i x => 0 ≤ i ∧ i < b ∧ Wfs a b K K x
  | K, F, .fix _ i x => (0 ≤ i ∧ i ≤ 19) ∧ Wfs a b (wo i K ++ [i]) (wo i F) x
theorem wf_mono {a b : Int} : ∀ (s : Sy) {K F K' F' : List Int}, (∀ i ∈ K, i ∈ K') → (∀ i ∈ F, i ∈ F') → Wf a b K F s → Wf a b K' F' s
  | .yes _, _, _, _, _, _, _, w => trivial
  | .is _ _, _, _, _, _, _, _, w => w
  | .name i, _, _, _, _, _, hF, w => hF i w
  | .two _ l r, _, _, _, _, hK, hF, w => ⟨wf_mono l hK hF w.1, wf_mono r hK hF w.2⟩
  | .step _ i x, _, _, _, _, hK, hF, w => ⟨w.1, w.2.1, wf_mono x hK hK w.2.2⟩
  | .fix _ i x, _, _, _, _, hK, hF, w => ⟨w.1, w.2.1, wf_mono x (fun k hk => by
      rw [List.mem_append] at hk ⊢
      exact hk.imp (hK k) id) hF w.2.2⟩
theorem wfs_mono {a b : Int} : ∀ (s : Sy) {K F K' F' : List Int}, (∀ i ∈ K, i ∈ K') → (∀ i ∈ F, i ∈ F') → Wfs a b K F s → Wfs a b K' F' s
  | .yes _, _, _, _, _, _, _, w => trivial
  | .is _ _, _, _, _, _, _, _, w => w
  | .name i, _, _, _, _, _, hF, w => hF i w
  | .two _ l r, _, _, _, _, hK, hF, w => ⟨wfs_mono l hK hF w.1, wfs_mono r hK hF w.2⟩
  | .step _ i x, _, _, _, _, hK, hF, w => ⟨w.1, w.2.1, wfs_mono x hK hK w.2.2⟩
  | .fix _ i x, _, _, _, _, hK, hF, w => ⟨w.1, wfs_mono x (fun k hk => by
      rw [List.mem_append, wo_mem] at hk ⊢
      exact hk.imp (fun q => ⟨hK k q.1, q.2⟩) id) (fun k hk => by
      rw [wo_mem] at hk ⊢
      exact ⟨hF k hk.1, hk.2⟩) w.2⟩
theorem wfs_of {a b : Int} : ∀ (s : Sy) {K F : List Int}, Wf a b K F s → (nms s).Nodup → (∀ i ∈ nms s, i ∉ K ∧ i ∉ F) → Wfs a b K F s
  | .yes _, _, _, w, _, _ => trivial
  | .is _ _, _, _, w, _, _ => w
  | .name i, _, _, w, _, _ => w
  | .two _ l r, K, F, w, nd, dj => by
    rw [nms_two] at nd dj
    rw [List.nodup_append] at nd
    exact ⟨wfs_of l w.1 nd.1 fun i hi => dj i (List.mem_append.mpr (.inl hi)), wfs_of r w.2 nd.2.1 fun i hi => dj i (List.mem_append.mpr (.inr hi))⟩
  | .step _ i x, K, F, w, nd, dj => by
    rw [nms_step] at nd dj
    exact ⟨w.1, w.2.1, wfs_of x w.2.2 nd fun i hi => ⟨(dj i hi).1, (dj i hi).1⟩⟩
  | .fix _ i x, K, F, w, nd, dj => by
    rw [nms_fix] at nd dj
    rw [List.nodup_cons] at nd
    refine ⟨⟨w.1, w.2.1⟩, wfs_mono x (fun k hk => ?_) (fun k hk => ?_) (wfs_of x w.2.2 nd.2 fun k hk => ⟨fun q => ?_, (dj k (List.mem_cons_of_mem _ hk)).2⟩)⟩
    · rw [List.mem_append] at hk ⊢
      refine hk.imp (fun q => wo_mem.mpr ⟨q, fun e => ?_⟩) id
      exact (dj i List.mem_cons_self).1 (by rw [← e]; exact q)
    · refine wo_mem.mpr ⟨hk, fun e => (dj i List.mem_cons_self).2 (by rw [← e]; exact hk)⟩
    · rcases List.mem_append.mp q with q | q
      · exact (dj k (List.mem_cons_of_mem _ hk)).1 q
      · rw [List.mem_singleton.mp q] at hk
        exact nd.1 hk
theorem put_wfs {a b x : Int} {g : Sy} (hg : Wfs a b [] [] g) : ∀ (s : Sy) {K F : List Int}, Wf a b K F s → (nms s).Nodup → x ∉ nms s → (∀ i ∈ nms s, i ∉ K ∧ i ∉ F) → Wfs a b (wo x K) (wo x F) (Sy.put x g s)
  | .yes _, _, _, w, _, _, _ => trivial
  | .is _ _, _, _, w, _, _, _ => w
  | .name i, K, F, w, _, _, _ => by
    rw [Sy.put]
    by_cases c : i = x
    · rw [if_pos c]
      exact wfs_mono g (fun i h => by cases h) (fun i h => by cases h) hg
    · rw [if_neg c]
      exact wo_mem.mpr ⟨w, c⟩
  | .two _ l r, K, F, w, nd, nx, dj => by
    rw [nms_two] at nd nx dj
    rw [List.nodup_append] at nd
    rw [List.mem_append, not_or] at nx
    exact ⟨put_wfs hg l w.1 nd.1 nx.1 fun i hi => dj i (List.mem_append.mpr (.inl hi)), put_wfs hg r w.2 nd.2.1 nx.2 fun i hi => dj i (List.mem_append.mpr (.inr hi))⟩
  | .step _ i s, K, F, w, nd, nx, dj => by
    rw [nms_step] at nd nx dj
    exact ⟨w.1, w.2.1, put_wfs hg s w.2.2 nd nx fun i hi => ⟨(dj i hi).1, (dj i hi).1⟩⟩
  | .fix _ i s, K, F, w, nd, nx, dj => by
    rw [nms_fix] at nd nx dj
    rw [List.nodup_cons] at nd
    rw [List.mem_cons, not_or] at nx
    refine ⟨⟨w.1, w.2.1⟩, wfs_mono _ (fun k hk => ?_) (fun k hk => ?_) (put_wfs hg s w.2.2 nd.2 nx.2 fun k hk => ⟨fun q => ?_, (dj k (List.mem_cons_of_mem _ hk)).2⟩)⟩
    · rw [wo_mem, List.mem_append] at hk
      rw [List.mem_append]
      refine hk.1.imp (fun q => wo_mem.mpr ⟨wo_mem.mpr ⟨q, hk.2⟩, fun e => ?_⟩) id
      exact (dj i List.mem_cons_self).1 (by rw [← e]; exact q)
    · refine wo_mem.mpr ⟨hk, fun e => (dj i List.mem_cons_self).2 (by rw [← e]; exact (wo_mem.mp hk).1)⟩
    · rcases List.mem_append.mp q with q | q
      · exact (dj k (List.mem_cons_of_mem _ hk)).1 q
      · rw [List.mem_singleton.mp q] at hk
        exact nd.1 hk
/-- what is told has the form -/
theorem ren_wf {a b : Int} : ∀ (s : Sy) (K F : List Int) (nm : Int → Int) (sn al : List Int) (t : Sy), Wfs a b K F s → (∀ k ∈ sn, k ∈ al) → sn.Nodup → (ren s nm sn al).1 = some t → Wf a b (K.map nm) (F.map nm) t ∧ t.size = s.size ∧ t.depth = s.depth
  | .name i, K, F, nm, sn, al, t, w, sub, nd, e => by
    cases e
    exact ⟨List.mem_map.mpr ⟨i, w, rfl⟩, rfl, rfl⟩
  | .yes b, K, F, nm, sn, al, t, w, sub, nd, e => by cases e; exact ⟨trivial, rfl, rfl⟩
  | .is b i, K, F, nm, sn, al, t, w, sub, nd, e => by cases e; exact ⟨w, rfl, rfl⟩
  | .two c l r, K, F, nm, sn, al, t, w, sub, nd, e => by
    simp only [ren] at e
    cases h1 : (ren l nm sn al).1 with
    | none => rw [h1] at e; cases e
    | some l' =>
      cases h2 : (ren r nm (ren l nm sn al).2.1 (ren l nm sn al).2.2).1 with
      | none => rw [h1, h2] at e; cases e
      | some r' =>
        rw [h1, h2] at e
        cases e
        obtain ⟨g1, g2, g3, g4⟩ := ren_grow l nm sn al sub nd
        obtain ⟨a1, a2, a3⟩ := ren_wf l K F nm sn al l' w.1 sub nd h1
        obtain ⟨b1, b2, b3⟩ := ren_wf r K F nm _ _ r' w.2 g1 g2 h2
        exact ⟨⟨a1, b1⟩, by rw [size_two, size_two, a2, b2], by simp [Sy.depth, a3, b3]⟩
  | .step c i x, K, F, nm, sn, al, t, w, sub, nd, e => by
    simp only [ren] at e
    cases h1 : (ren x nm sn al).1 with
    | none => rw [h1] at e; cases e
    | some x' =>
      rw [h1] at e
      cases e
      obtain ⟨a1, a2, a3⟩ := ren_wf x K K nm sn al x' w.2.2 sub nd h1
      exact ⟨⟨w.1, w.2.1, a1⟩, by rw [size_step, size_step, a2], by simp [Sy.depth, a3]⟩
  | .fix c i x, K, F, nm, sn, al, t, w, sub, nd, e => by
    cases hj : newN sn al i with
    | none => simp only [ren, hj] at e; cases e
    | some j =>
      simp only [ren, hj] at e
      have nj := newN_not sub hj
      have sub' : ∀ k ∈ insL sn j, k ∈ insL al j := fun k h => insL_mem.mpr ((insL_mem.mp h).imp (sub k) id)
      have nd' : (insL sn j).Nodup := by
        rw [insL_new nj, List.nodup_append]
        exact ⟨nd, by simp, fun a ha b hb => by rw [List.mem_singleton.mp hb]; exact fun q => nj (by rw [← q]; exact ha)⟩
      cases h1 : (ren x (nupd nm i j) (insL sn j) (insL al j)).1 with
      | none => rw [h1] at e; cases e
      | some x' =>
        rw [h1] at e
        cases e
        obtain ⟨a1, a2, a3⟩ := ren_wf x _ _ (nupd nm i j) _ _ x' w.2 sub' nd' h1
        have jr := newN_rng w.1 hj
        refine ⟨⟨jr.1, jr.2, wf_mono x' (fun k hk => ?_) (fun k hk => ?_) a1⟩, by rw [size_fix, size_fix, a2], by simp [Sy.depth, a3]⟩
        · obtain ⟨m, hm, rfl⟩ := List.mem_map.mp hk
          rw [List.mem_append] at hm ⊢
          rcases hm with hm | hm
          · have hm := wo_mem.mp hm
            have : nupd nm i j m = nm m := if_neg hm.2
            rw [this]
            exact .inl (List.mem_map.mpr ⟨m, hm.1, rfl⟩)
          · have hm := List.mem_singleton.mp hm
            have : nupd nm i j m = j := if_pos hm
            rw [this]
            exact .inr (by simp)
        · obtain ⟨m, hm, rfl⟩ := List.mem_map.mp hk
          have hm := wo_mem.mp hm
          have : nupd nm i j m = nm m := if_neg hm.2
          rw [this]
          exact List.mem_map.mpr ⟨m, hm.1, rfl⟩
end Y

namespace Y
open PySem PySem.Spec L2
/-! ### places, with names put in and told anew -/
theorem it_eq {n : Nat} {F G : Pl → Pl} (h : ∀ v u, EqP n v u → EqP n (F v) (G u)) : ∀ (m : Nat) {v u : Pl}, EqP n v u → EqP n (it F m v) (it G m u)
  | 0, _, _, q => q
  | m + 1, _, _, q => h _ _ (it_eq h m q)
theorem eqP_refl {n : Nat} {v : Pl} : EqP n v v := fun _ _ => rfl
section
variable {W : Wd} {a b : Int}
theorem step_eq (hW : WOk a b W) {c : Bool} {j : Int} {v u : Pl} (h : EqP W.n v u) : EqP W.n (fun k => if c = true then (W.row j.toNat k).any v else (W.row j.toNat k).all v) (fun k => if c = true then (W.row j.toNat k).any u else (W.row j.toNat k).all u) := by
  intro k hk
  have hr := (hW.row (j := j.toNat) (k := k)).2
  have e : ∀ l : List Nat, (∀ g ∈ l, g < W.n) → l.any v = l.any u ∧ l.all v = l.all u := by
    intro l
    induction l with
    | nil => intro _; exact ⟨rfl, rfl⟩
    | cons g l ih =>
      intro hl
      obtain ⟨h1, h2⟩ := ih fun g' hg' => hl g' (List.mem_cons_of_mem _ hg')
      rw [List.any_cons, List.any_cons, List.all_cons, List.all_cons, h1, h2, h g (hl g List.mem_cons_self)]
      exact ⟨rfl, rfl⟩
  obtain ⟨e1, e2⟩ := e _ hr
  show (if c = true then (W.row j.toNat k).any v else (W.row j.toNat k).all v) = (if c = true then (W.row j.toNat k).any u else (W.row j.toNat k).all u)
  rw [e1, e2]
/-- names told anew: the places are the same -/
theorem ren_den (hW : WOk a b W) : ∀ (s : Sy) (K F : List Int) (nm : Int → Int) (sn al : List Int) (t : Sy) (e f : Ev), Wfs a b K F s → (∀ k ∈ sn, k ∈ al) → sn.Nodup → (∀ i ∈ K ++ F, nm i ∈ sn) → (∀ i ∈ K ++ F, EqP W.n (e i) (f (nm i))) → (ren s nm sn al).1 = some t → EqP W.n (den W s e) (den W t f)
  | .name i, K, F, nm, sn, al, t, e, f, w, sub, nd, hn, h, q => by
    cases q
    exact h i (List.mem_append.mpr (.inr w))
  | .yes b, K, F, nm, sn, al, t, e, f, w, sub, nd, hn, h, q => by cases q; exact eqP_refl
  | .is b i, K, F, nm, sn, al, t, e, f, w, sub, nd, hn, h, q => by cases q; exact eqP_refl
  | .two c l r, K, F, nm, sn, al, t, e, f, w, sub, nd, hn, h, q => by
    simp only [ren] at q
    cases h1 : (ren l nm sn al).1 with
    | none => rw [h1] at q; cases q
    | some l' =>
      cases h2 : (ren r nm (ren l nm sn al).2.1 (ren l nm sn al).2.2).1 with
      | none => rw [h1, h2] at q; cases q
      | some r' =>
        rw [h1, h2] at q
        cases q
        obtain ⟨g1, g2, g3, g4⟩ := ren_grow l nm sn al sub nd
        have i1 := ren_den hW l K F nm sn al l' e f w.1 sub nd hn h h1
        have i2 := ren_den hW r K F nm _ _ r' e f w.2 g1 g2 (fun i hi => g3 _ (hn i hi)) h h2
        intro k hk
        simp only [den]
        rw [i1 k hk, i2 k hk]
  | .step c i x, K, F, nm, sn, al, t, e, f, w, sub, nd, hn, h, q => by
    simp only [ren] at q
    cases h1 : (ren x nm sn al).1 with
    | none => rw [h1] at q; cases q
    | some x' =>
      rw [h1] at q
      cases q
      have kk : ∀ i ∈ K ++ K, i ∈ K ++ F := fun i hi => List.mem_append.mpr (.inl (by simpa using hi))
      exact step_eq hW (ren_den hW x K K nm sn al x' e f w.2.2 sub nd (fun i hi => hn i (kk i hi)) (fun i hi => h i (kk i hi)) h1)
  | .fix c i x, K, F, nm, sn, al, t, e, f, w, sub, nd, hn, h, q => by
    cases hj : newN sn al i with
    | none => simp only [ren, hj] at q; cases q
    | some j =>
      simp only [ren, hj] at q
      have nj := newN_not sub hj
      have sub' : ∀ k ∈ insL sn j, k ∈ insL al j := fun k h => insL_mem.mpr ((insL_mem.mp h).imp (sub k) id)
      have nd' : (insL sn j).Nodup := by
        rw [insL_new nj, List.nodup_append]
        exact ⟨nd, by simp, fun a ha b hb => by rw [List.mem_singleton.mp hb]; exact fun q => nj (by rw [← q]; exact ha)⟩
      cases h1 : (ren x (nupd nm i j) (insL sn j) (insL al j)).1 with
      | none => rw [h1] at q; cases q
      | some x' =>
        rw [h1] at q
        cases q
        have spl : ∀ k ∈ (wo i K ++ [i]) ++ wo i F, k = i ∨ (k ≠ i ∧ k ∈ K ++ F) := by
          intro k hk
          rw [List.mem_append, List.mem_append, wo_mem, wo_mem] at hk
          rcases hk with (q | q) | q
          · exact .inr ⟨q.2, List.mem_append.mpr (.inl q.1)⟩
          · exact .inl (List.mem_singleton.mp q)
          · exact .inr ⟨q.2, List.mem_append.mpr (.inr q.1)⟩
        refine it_eq (fun v u hv => ?_) W.n eqP_refl
        refine ren_den hW x _ _ (nupd nm i j) _ _ x' _ _ w.2 sub' nd' (fun k hk => ?_) (fun k hk => ?_) h1
        · rcases spl k hk with rfl | ⟨ne, m⟩
          · have : nupd nm k j k = j := if_pos rfl
            rw [this]
            exact insL_mem.mpr (.inr rfl)
          · have : nupd nm i j k = nm k := if_neg ne
            rw [this]
            exact insL_mem.mpr (.inl (hn k m))
        · rcases spl k hk with rfl | ⟨ne, m⟩
          · have e1 : nupd nm k j k = j := if_pos rfl
            have e2 : e.upd k v k = v := if_pos rfl
            have e3 : f.upd j u j = u := if_pos rfl
            rw [e1, e2, e3]
            exact hv
          · have e1 : nupd nm i j k = nm k := if_neg ne
            have e2 : e.upd i v k = e k := if_neg ne
            have e3 : f.upd j u (nm k) = f (nm k) := if_neg fun z => nj (by rw [← z]; exact hn k m)
            rw [e1, e2, e3]
            exact h k m
theorem den_congS (hW : WOk a b W) : ∀ (s : Sy) (K F : List Int) (e f : Ev), Wfs a b K F s → (∀ i ∈ K ++ F, EqP W.n (e i) (f i)) → EqP W.n (den W s e) (den W s f)
  | .name i, K, F, e, f, w, h => h i (List.mem_append.mpr (.inr w))
  | .yes b, K, F, e, f, w, h => eqP_refl
  | .is b i, K, F, e, f, w, h => eqP_refl
  | .two c l r, K, F, e, f, w, h => by
    have i1 := den_congS hW l K F e f w.1 h
    have i2 := den_congS hW r K F e f w.2 h
    intro k hk
    simp only [den]
    rw [i1 k hk, i2 k hk]
  | .step c i x, K, F, e, f, w, h => step_eq hW (den_congS hW x K K e f w.2.2 fun i hi => h i (List.mem_append.mpr (.inl (by simpa using hi))))
  | .fix c i x, K, F, e, f, w, h => by
    refine it_eq (fun v u hv => den_congS hW x _ _ _ _ w.2 fun k hk => ?_) W.n eqP_refl
    unfold Ev.upd
    by_cases z : k = i
    · rw [if_pos z, if_pos z]; exact hv
    · rw [if_neg z, if_neg z]
      refine h k ?_
      rw [List.mem_append, List.mem_append, wo_mem, wo_mem] at hk
      rw [List.mem_append]
      rcases hk with (q | q) | q
      · exact .inl q.1
      · exact absurd (List.mem_singleton.mp q) z
      · exact .inr q.1
/-- a closed saying in the place of a name -/
theorem put_den (hW : WOk a b W) {x : Int} {g : Sy} (hg : Wfs a b [] [] g) : ∀ (s : Sy) (K F : List Int) (e : Ev), Wfs a b K F s → x ∉ nms s → EqP W.n (den W (Sy.put x g s) e) (den W s (e.upd x (den W g e0)))
  | .name i, K, F, e, w, _ => by
    rw [Sy.put]
    by_cases c : i = x
    · rw [if_pos c]
      have e1 : den W (.name i) (e.upd x (den W g e0)) = den W g e0 := if_pos c
      rw [e1]
      exact den_congS hW g [] [] e e0 hg fun i hi => by cases hi
    · rw [if_neg c]
      have e1 : den W (.name i) (e.upd x (den W g e0)) = e i := if_neg c
      rw [e1]
      exact eqP_refl
  | .yes b, K, F, e, w, _ => eqP_refl
  | .is b i, K, F, e, w, _ => eqP_refl
  | .two c l r, K, F, e, w, nx => by
    rw [nms_two, List.mem_append, not_or] at nx
    have i1 := put_den hW hg l K F e w.1 nx.1
    have i2 := put_den hW hg r K F e w.2 nx.2
    intro k hk
    show (if c = true then den W (Sy.put x g l) e k && den W (Sy.put x g r) e k else den W (Sy.put x g l) e k || den W (Sy.put x g r) e k) = (if c = true then den W l (e.upd x (den W g e0)) k && den W r (e.upd x (den W g e0)) k else den W l (e.upd x (den W g e0)) k || den W r (e.upd x (den W g e0)) k)
    rw [i1 k hk, i2 k hk]
  | .step c i s, K, F, e, w, nx => by
    rw [nms_step] at nx
    exact step_eq hW (put_den hW hg s K K e w.2.2 nx)
  | .fix c i s, K, F, e, w, nx => by
    rw [nms_fix, List.mem_cons, not_or] at nx
    refine it_eq (fun v u hv => ?_) W.n eqP_refl
    have i1 := put_den hW hg s _ _ (e.upd i v) w.2 nx.2
    have e1 : (e.upd i v).upd x (den W g e0) = (e.upd x (den W g e0)).upd i v := by
      funext j
      unfold Ev.upd
      by_cases z : j = x
      · rw [if_pos z, if_neg (fun q => nx.1 (by rw [← z, q])), if_pos z]
      · rw [if_neg z]
        by_cases z2 : j = i
        · rw [if_pos z2, if_pos z2]
        · rw [if_neg z2, if_neg z2, if_neg z]
    rw [e1] at i1
    refine i1.trans (den_congS hW s _ _ _ _ w.2 fun k _ => ?_)
    unfold Ev.upd
    by_cases z : k = i
    · rw [if_pos z, if_pos z]; exact hv
    · rw [if_neg z, if_neg z]; exact eqP_refl
end
end Y

namespace Y
open PySem PySem.Spec L2
def ir_put_in : List S := [
  .ife (.cmp .eq (.var 0) (.tup [(.str "name"), (.var 1)])) [.ret (.var 2)] [],
  .ret (.call "with_parts" [(.var 0), (.lc [3] (.one 3) (.seq (.call "parts_of" [(.var 0)])) none (.call "put_in" [(.var 3), (.var 1), (.var 2)]))])]
def ck_put_in : Ck := ⟨["saying", "x", "other", "part"], [("with_parts", 2), ("put_in", 3), ("parts_of", 1)], [], [], false⟩

def ir_with_name : List S := [
  .asg (.name (.one 3)) (.bi .dict [(.var 0)]),
  .asg (.sub (.var 3) (.var 1)) (.var 2),
  .ret (.var 3)]
def ck_with_name : Ck := ⟨["names", "x", "y", "found"], [], [], [], false⟩

def ir_renamed : List S := [
  .ife (.cmp .eq (.sub (.var 0) (.int 0)) (.str "name")) [.ret (.tup [(.str "name"), (.sub (.var 1) (.sub (.var 0) (.int 1)))])] [],
  .ife (.cmp .inn (.sub (.var 0) (.int 0)) (.gv "BINDERS")) [.asg (.name (.one 5)) (.sub (.var 0) (.int 1)), .ife (.cmp .inn (.var 5) (.sub (.var 2) (.str "seen"))) [.asg (.name (.one 7)) (.lc [8] (.one 8) (.range (.gv "MOST_NAMES")) (some (.cmp .notin (.var 8) (.sub (.var 2) (.str "all")))) (.var 8)), .ife (.cmp .eq (.bi .len [(.var 7)]) (.int 0)) [.ret .non] [], .asg (.name (.one 5)) (.sub (.var 7) (.int 0))] [], .asg (.sub (.sub (.var 2) (.str "seen")) (.var 5)) (.bl true), .asg (.sub (.sub (.var 2) (.str "all")) (.var 5)) (.bl true), .asg (.name (.one 6)) (.call "renamed" [(.sub (.var 0) (.int 2)), (.call "with_name" [(.var 1), (.sub (.var 0) (.int 1)), (.var 5)]), (.var 2)]), .ret (.ite (.cmp .isn (.var 6) .non) .non (.tup [(.sub (.var 0) (.int 0)), (.var 5), (.var 6)]))] [],
  .asg (.name (.one 3)) (.lst []),
  .frr (.one 4) (.seq (.call "parts_of" [(.var 0)])) [.ex (.mt .append (.var 3) [(.call "renamed" [(.var 4), (.var 1), (.var 2)])])],
  .ret (.ite (.cmp .inn .non (.var 3)) .non (.call "with_parts" [(.var 0), (.var 3)]))]
def ck_renamed : Ck := ⟨["saying", "names", "taken", "found", "part", "x", "inner", "free", "y"], [("parts_of", 1), ("renamed", 3), ("with_parts", 2), ("with_name", 3)], ["BINDERS", "MOST_NAMES"], [], false⟩

def ir_unfolded : List S := [
  .ife (.cmp .notin (.sub (.var 0) (.int 0)) (.gv "BINDERS")) [.ret (.var 0)] [],
  .asg (.name (.one 1)) (.call "put_in" [(.sub (.var 0) (.int 2)), (.sub (.var 0) (.int 1)), (.var 0)]),
  .asg (.name (.one 2)) (.dc [3] (.one 3) (.seq (.call "all_parts" [(.var 1)])) (some (.cmp .inn (.sub (.var 3) (.int 0)) (.gv "BINDERS"))) (.sub (.var 3) (.int 1)) (.bl true)),
  .ret (.call "renamed" [(.var 1), (.dsp []), (.dsp [(.str "seen"), (.dsp []), (.str "all"), (.var 2)])])]
def ck_unfolded : Ck := ⟨["saying", "whole", "names", "part"], [("put_in", 3), ("renamed", 3), ("all_parts", 1)], ["BINDERS"], [], false⟩

def ir__law_put : List S := [
  .ife (.cmp .eq (.var 0) (.tup [(.str "name"), (.var 1)])) [.ret (.var 2)] [],
  .ife (.cmp .inn (.sub (.var 0) (.int 0)) (.tup [(.str "both"), (.str "either")])) [.ret (.tup [(.sub (.var 0) (.int 0)), (.call "_law_put" [(.sub (.var 0) (.int 1)), (.var 1), (.var 2)]), (.call "_law_put" [(.sub (.var 0) (.int 2)), (.var 1), (.var 2)])])] [],
  .ret (.op .add (.slc (.var 0) none (some (.int 2))) (.bi .tuple [(.lc [3] (.one 3) (.seq (.slc (.var 0) (some (.int 2)) none)) none (.call "_law_put" [(.var 3), (.var 1), (.var 2)]))]))]
def ck__law_put : Ck := ⟨["f", "x", "g", "part"], [("_law_put", 3)], [], [], false⟩

def ir__law_names : List S := [
  .asg (.name (.one 1)) (.ite (.cmp .inn (.sub (.var 0) (.int 0)) (.tup [(.str "least"), (.str "greatest")])) (.lst [(.sub (.var 0) (.int 1))]) (.lst [])),
  .frr (.one 2) (.seq (.call "_law_parts" [(.var 0)])) [.asg (.name (.one 1)) (.op .add (.var 1) (.call "_law_names" [(.var 2)]))],
  .ret (.var 1)]
def ck__law_names : Ck := ⟨["f", "found", "part"], [("_law_parts", 1), ("_law_names", 1)], [], [], false⟩

def ir_round_places : List S := [
  .asg (.name (.one 3)) (.ite (.cmp .eq (.sub (.var 1) (.int 0)) (.str "least")) (.tup []) (.bi .tuprange [(.sub (.var 0) (.int 0))])),
  .frr (.one 4) (.range (.var 2)) [.asg (.name (.one 3)) (.call "worth" [(.var 0), (.sub (.var 1) (.int 2)), (.dsp [(.sub (.var 1) (.int 1)), (.var 3)])])],
  .ret (.var 3)]
def ck_round_places : Ck := ⟨["world", "saying", "k", "now", "_"], [("worth", 3)], [], [], false⟩

def ir_rounds_at : List S := [
  .asg (.name (.one 2)) (.dsp []),
  .asg (.name (.one 3)) (.ite (.cmp .eq (.sub (.var 1) (.int 0)) (.str "least")) (.tup []) (.bi .tuprange [(.sub (.var 0) (.int 0))])),
  .asg (.name (.one 4)) .non,
  .asg (.name (.one 5)) (.int 0),
  .whl (.cmp .ne (.var 3) (.var 4)) [.frr (.one 6) (.range (.sub (.var 0) (.int 0))) [.ife (.cmp .eq (.cmp .inn (.var 6) (.var 3)) (.cmp .eq (.sub (.var 1) (.int 0)) (.str "least"))) [.ex (.mt .setdefault (.var 2) [(.var 6), (.var 5)])] []], .asg (.name (.one 4)) (.var 3), .asg (.name (.one 3)) (.call "worth" [(.var 0), (.sub (.var 1) (.int 2)), (.dsp [(.sub (.var 1) (.int 1)), (.var 3)])]), .aug 5 .add (.int 1)],
  .ret (.var 2)]
def ck_rounds_at : Ck := ⟨["world", "saying", "found", "now", "before", "k", "place"], [("worth", 3)], [], [], false⟩

def ir_cut_saying : List S := [
  .asg (.name (.one 2)) (.ite (.cmp .eq (.sub (.var 0) (.int 0)) (.str "least")) (.tup [(.str "no")]) (.tup [(.str "yes")])),
  .frr (.one 3) (.range (.var 1)) [.asg (.name (.one 2)) (.call "put_in" [(.sub (.var 0) (.int 2)), (.sub (.var 0) (.int 1)), (.var 2)]), .ife (.cmp .gt (.call "size_of" [(.var 2)]) (.gv "MOST_SIZE")) [.ret .non] []],
  .asg (.name (.one 4)) (.dc [5] (.one 5) (.seq (.call "all_parts" [(.var 2)])) (some (.cmp .inn (.sub (.var 5) (.int 0)) (.gv "BINDERS"))) (.sub (.var 5) (.int 1)) (.bl true)),
  .ret (.call "renamed" [(.var 2), (.dsp []), (.dsp [(.str "seen"), (.dsp []), (.str "all"), (.var 4)])])]
def ck_cut_saying : Ck := ⟨["saying", "k", "found", "_", "names", "part"], [("renamed", 3), ("put_in", 3), ("size_of", 1), ("all_parts", 1)], ["MOST_SIZE", "BINDERS"], [], false⟩

end Y

namespace Y
open PySem PySem.Spec L2
/-! ### put_in, _law_put, with_name -/
def sp_put (N : Nat) : SpD := fun ds S R => ∃ (s : Sy) (x : Int) (g : Sy), ds = [s.d, .int x, g.d] ∧ s.depth ≤ N ∧ s.depth ≤ 90 ∧ R (Sy.put x g s).d S
theorem put_go {N : Nat} {s g : Sy} {x : Int} {S : Store} {R : DVK} (h1 : s.depth ≤ N) (h2 : s.depth ≤ 90) (h : R (Sy.put x g s).d S) : sp_put N [s.d, .int x, g.d] S R := ⟨s, x, g, rfl, h1, h2, h⟩
theorem kin_dep {s : Sy} {n : Nat} (h : s.depth ≤ n + 1) : ∀ t ∈ s.kin, t.depth ≤ n := by
  intro t ht
  cases s with
  | two b l r =>
    simp [Sy.kin] at ht
    simp [Sy.depth] at h
    rcases ht with rfl | rfl <;> omega
  | step b i x =>
    simp [Sy.kin] at ht
    simp [Sy.depth] at h
    subst ht
    omega
  | fix b i x =>
    simp [Sy.kin] at ht
    simp [Sy.depth] at h
    subst ht
    omega
  | _ => simp [Sy.kin] at ht
theorem eqd_name (s : Sy) (x : Int) : eqd s.d (.tup [.str "name", .int x]) = decide (s = .name x) := by
  cases s with
  | name i =>
    show (("name" == "name") && ((i == x) && true)) = _
    rw [Bool.eq_iff_iff]
    simp
  | yes b => cases b <;> simp [Sy.d, Sy.tag, eqd, eqds]
  | is b i => cases b <;> simp [Sy.d, Sy.tag, eqd, eqds]
  | two b l r => cases b <;> simp [Sy.d, Sy.tag, eqd, eqds]
  | step b i x => cases b <;> simp [Sy.d, Sy.tag, eqd, eqds]
  | fix b i x => cases b <;> simp [Sy.d, Sy.tag, eqd, eqds]
theorem put_with {x : Int} {g s : Sy} (h : s ≠ .name x) : D.tup (withL s ((s.kin.map (Sy.put x g)).map Sy.d)) = (Sy.put x g s).d := by
  cases s with
  | name i =>
    have : Sy.put x g (.name i) = .name i := if_neg fun e => h (by rw [e])
    rw [this]
    simp [withL, Sy.tag, Sy.body, Sy.kin, Sy.d]
  | yes b => cases b <;> simp [withL, Sy.tag, Sy.body, Sy.kin, Sy.put, Sy.d]
  | is b i => cases b <;> simp [withL, Sy.tag, Sy.body, Sy.kin, Sy.put, Sy.d]
  | two b l r => cases b <;> simp [withL, Sy.tag, Sy.body, Sy.kin, Sy.put, Sy.d]
  | step b i s => cases b <;> simp [withL, Sy.tag, Sy.body, Sy.kin, Sy.put, Sy.d]
  | fix b i s => cases b <;> simp [withL, Sy.tag, Sy.body, Sy.kin, Sy.put, Sy.d]
def pi0 : Y.S := .ife (.cmp .eq (.var 0) (.tup [(.str "name"), (.var 1)])) [.ret (.var 2)] []
def pi1 : Y.S := .ret (.call "with_parts" [(.var 0), (.lc [3] (.one 3) (.seq (.call "parts_of" [(.var 0)])) none (.call "put_in" [(.var 3), (.var 1), (.var 2)]))])
theorem ir_pi : ir_put_in = [pi0, pi1] := rfl
theorem kin_filt (f : Sy → D) (l : List Sy) : (l.map Sy.d).filterMap (fun x => (syOf x).map f) = l.map f := filterMap_sy f l
section
variable {Γ : G} {N : Nat}
theorem w_put (g1 : Γ.fn "with_parts" = sp_with_parts) (g2 : Γ.fn "put_in" = sp_put N) (g3 : Γ.fn "parts_of" = sp_parts_of) : ∀ ds S R, sp_put (N + 1) ds S R → wss Γ ir_put_in (ends R) (startD ck_put_in.N ds) S := by
  rintro _ S R ⟨s, x, g, rfl, hd, h9, hR⟩
  rw [ir_pi]
  show ws Γ pi0 ⟨fun σ1 S1 => wss Γ [pi1] (ends R) σ1 S1, (ends R).rt⟩ [some s.d, some (.int x), some g.d, none] S
  have cmp : ∀ B : Bool → Store → Prop, B (decide (s = .name x)) S → cmpW .eq s.d (.tup [.str "name", .int x]) S B := by
    intro B h
    have e : cmpW .eq s.d (.tup [.str "name", .int x]) S B = (D.pl 100 s.d = true ∧ D.pl 100 (.tup [.str "name", .int x]) = true ∧ B (eqd s.d (.tup [.str "name", .int x])) S) := by
      rw [Sy.d_eq]; rfl
    rw [e]
    exact ⟨pl_sy s (by omega), by simp [D.pl], by rw [eqd_name]; exact h⟩
  unfold pi0
  rw [x_ife, x_cmp, x_var]
  refine ⟨_, rfl, ?_⟩
  rw [x_tup, x_ps, x_str, x_ps, x_var]
  refine ⟨_, rfl, ?_⟩
  rw [x_ps0]
  refine ⟨by simp, cmp _ ?_⟩
  refine ⟨_, rfl, ?_⟩
  by_cases c : s = .name x
  · rw [decide_eq_true c, if_pos rfl]
    subst c
    have e : Sy.put x g (.name x) = g := if_pos rfl
    rw [e] at hR
    exact ⟨_, rfl, S, .refl, hR⟩
  · rw [decide_eq_false c, if_neg (by decide)]
    rw [x_ss0]
    have hk := s.kin_len
    simp [pi1, g1, g3]
    intro p hp
    refine lc_go (fun y => (syOf y).map fun t => (Sy.put x g t).d) (by simp; omega) (fun ys => trivial) (fun y hy ys k h => ?_) ?_
    · rw [List.mem_map] at hy
      obtain ⟨t, ht, rfl⟩ := hy
      rw [syOf_d] at h
      have d1 := kin_dep hd t ht
      have d2 := kin_dep (n := 89) (by omega) t ht
      simp [wipeD, g2]
      exact put_go d1 (by omega) h
    · have e : (s.kin.map Sy.d).filterMap (fun y => (syOf y).map fun t => (Sy.put x g t).d) = (s.kin.map (Sy.put x g)).map Sy.d := by
        rw [kin_filt, List.map_map]; rfl
      rw [e]
      refine with_go up_same (by simp; omega) ?_
      rw [put_with c]
      exact ⟨S, Le.new hp, hR⟩
def lp0 : Y.S := .ife (.cmp .eq (.var 0) (.tup [(.str "name"), (.var 1)])) [.ret (.var 2)] []
def lp1 : Y.S := .ife (.cmp .inn (.sub (.var 0) (.int 0)) (.tup [(.str "both"), (.str "either")])) [.ret (.tup [(.sub (.var 0) (.int 0)), (.call "_law_put" [(.sub (.var 0) (.int 1)), (.var 1), (.var 2)]), (.call "_law_put" [(.sub (.var 0) (.int 2)), (.var 1), (.var 2)])])] []
def lp2 : Y.S := .ret (.op .add (.slc (.var 0) none (some (.int 2))) (.bi .tuple [(.lc [3] (.one 3) (.seq (.slc (.var 0) (some (.int 2)) none)) none (.call "_law_put" [(.var 3), (.var 1), (.var 2)]))]))
theorem ir_lp : ir__law_put = [lp0, lp1, lp2] := rfl
theorem w_law_put (g2 : Γ.fn "_law_put" = sp_put N) : ∀ ds S R, sp_put (N + 1) ds S R → wss Γ ir__law_put (ends R) (startD ck__law_put.N ds) S := by
  rintro _ S R ⟨s, x, g, rfl, hd, h9, hR⟩
  rw [ir_lp]
  show ws Γ lp0 ⟨fun σ1 S1 => wss Γ [lp1, lp2] (ends R) σ1 S1, (ends R).rt⟩ [some s.d, some (.int x), some g.d, none] S
  have cmp : ∀ B : Bool → Store → Prop, B (decide (s = .name x)) S → cmpW .eq s.d (.tup [.str "name", .int x]) S B := by
    intro B h
    have e : cmpW .eq s.d (.tup [.str "name", .int x]) S B = (D.pl 100 s.d = true ∧ D.pl 100 (.tup [.str "name", .int x]) = true ∧ B (eqd s.d (.tup [.str "name", .int x])) S) := by
      rw [Sy.d_eq]; rfl
    rw [e]
    exact ⟨pl_sy s (by omega), by simp [D.pl], by rw [eqd_name]; exact h⟩
  unfold lp0
  rw [x_ife, x_cmp, x_var]
  refine ⟨_, rfl, ?_⟩
  rw [x_tup, x_ps, x_str, x_ps, x_var]
  refine ⟨_, rfl, ?_⟩
  rw [x_ps0]
  refine ⟨by simp, cmp _ ?_⟩
  refine ⟨_, rfl, ?_⟩
  by_cases c : s = .name x
  · rw [decide_eq_true c, if_pos rfl]
    subst c
    have e : Sy.put x g (.name x) = g := if_pos rfl
    rw [e] at hR
    exact ⟨_, rfl, S, .refl, hR⟩
  · rw [decide_eq_false c, if_neg (by decide)]
    rw [x_ss0]
    cases s with
    | name i =>
      have e : Sy.put x g (.name i) = .name i := if_neg fun e => c (by rw [e])
      rw [e] at hR
      simp [lp1, lp2, Sy.d, Sy.tag, lcL]
      intro p hp
      exact ⟨S, Le.new hp, hR⟩
    | yes b =>
      cases b <;>
      · simp [lp1, lp2, Sy.d, Sy.tag, lcL]
        intro p hp
        exact ⟨S, Le.new hp, hR⟩
    | is b i =>
      cases b <;>
      · simp [lp1, lp2, Sy.d, Sy.tag, lcL]
        intro p hp
        exact ⟨S, Le.new hp, hR⟩
    | two b l r =>
      simp [Sy.depth] at hd h9
      cases b <;>
      · simp [lp1, lp2, Sy.d, Sy.tag, g2]
        refine put_go (by omega) (by omega) (put_go (by omega) (by omega) ?_)
        exact ⟨S, .refl, hR⟩
    | step b i y =>
      simp [Sy.depth] at hd h9
      cases b <;>
      · simp [lp1, lp2, Sy.d, Sy.tag, g2, lcL, wipeD]
        intro p hp
        refine put_go (by omega) (by omega) ⟨up_same, line_lt (by decide), S, ?_, hR⟩
        rw [up_up]
        exact Le.new hp
    | fix b i y =>
      simp [Sy.depth] at hd h9
      cases b <;>
      · simp [lp1, lp2, Sy.d, Sy.tag, g2, lcL, wipeD]
        intro p hp
        refine put_go (by omega) (by omega) ⟨up_same, line_lt (by decide), S, ?_, hR⟩
        rw [up_up]
        exact Le.new hp
def sp_withn : SpD := fun ds S R => ∃ p i j kvs, ds = [.loc p, .int i, .int j] ∧ S p = some (.dct kvs) ∧ kvs.length ≤ 10000 ∧ ∀ q, S q = none → R (.loc q) (S.upd q (.dct (putD kvs (.int i) (.int j))))
theorem withn_go {p : Addr} {i j : Int} {kvs : List (D × D)} {S : Store} {R : DVK} (e : S p = some (.dct kvs)) (hl : kvs.length ≤ 10000) (h : ∀ q, S q = none → R (.loc q) (S.upd q (.dct (putD kvs (.int i) (.int j))))) : sp_withn [.loc p, .int i, .int j] S R := ⟨p, i, j, kvs, rfl, e, hl, h⟩
theorem w_withn : ∀ ds S R, sp_withn ds S R → wss Γ ir_with_name (ends R) (startD ck_with_name.N ds) S := by
  rintro _ S R ⟨p, i, j, kvs, rfl, e, hl, hR⟩
  simp [ir_with_name, startD, ck_with_name, e]
  intro q hq
  exact ⟨line_lt (by omega), _, .refl, hR q hq⟩
end
end Y

namespace Y
open PySem PySem.Spec L2
/-! ### renamed -/
def kd (L : List Int) : List (D × D) := L.map fun i => (D.int i, D.bl true)
theorem kd_len (L : List Int) : (kd L).length = L.length := by simp [kd]
theorem kd_look (L : List Int) (i : Int) : (lookD (kd L) (.int i)).isSome = decide (i ∈ L) := by
  induction L with
  | nil => rfl
  | cons k L ih =>
    show (if D.int k = .int i then some (D.bl true) else lookD (kd L) (.int i)).isSome = _
    by_cases c : k = i
    · subst c
      rw [if_pos rfl]
      simp
    · rw [if_neg (fun q => c (D.int.inj q)), ih]
      have : i ∈ k :: L ↔ i ∈ L := by
        rw [List.mem_cons]
        exact ⟨fun q => q.elim (fun e => absurd e.symm c) id, .inr⟩
      rw [decide_eq_decide.mpr this]
theorem kd_put (L : List Int) (j : Int) : putD (kd L) (.int j) (.bl true) = kd (insL L j) := by
  induction L with
  | nil => rfl
  | cons k L ih =>
    show (if D.int k = .int j then (D.int k, D.bl true) :: kd L else (D.int k, D.bl true) :: putD (kd L) (.int j) (.bl true)) = _
    by_cases c : k = j
    · subst c
      rw [if_pos rfl]
      have : insL (k :: L) k = k :: L := if_pos List.mem_cons_self
      rw [this]
      rfl
    · rw [if_neg (fun q => c (D.int.inj q)), ih]
      have : insL (k :: L) j = k :: insL L j := by
        unfold insL
        by_cases m : j ∈ L
        · rw [if_pos m, if_pos (List.mem_cons_of_mem _ m)]
        · rw [if_neg m, if_neg (fun q => by rcases List.mem_cons.mp q with e | q; exact c e.symm; exact m q)]
          rfl
      rw [this]
      rfl
theorem ren_len : ∀ (s : Sy) (nm : Int → Int) (sn al : List Int), (ren s nm sn al).2.1.length ≤ sn.length + s.size ∧ (ren s nm sn al).2.2.length ≤ al.length + s.size
  | .name i, nm, sn, al => ⟨Nat.le_add_right _ _, Nat.le_add_right _ _⟩
  | .yes b, nm, sn, al => ⟨Nat.le_add_right _ _, Nat.le_add_right _ _⟩
  | .is b i, nm, sn, al => ⟨Nat.le_add_right _ _, Nat.le_add_right _ _⟩
  | .two c l r, nm, sn, al => by
    have h1 := ren_len l nm sn al
    have h2 := ren_len r nm (ren l nm sn al).2.1 (ren l nm sn al).2.2
    rw [size_two]
    simp only [ren]
    omega
  | .step c i x, nm, sn, al => by
    have h1 := ren_len x nm sn al
    rw [size_step]
    simp only [ren]
    omega
  | .fix c i x, nm, sn, al => by
    rw [size_fix]
    cases hj : newN sn al i with
    | none => simp only [ren, hj]; omega
    | some j =>
      have h1 := ren_len x (nupd nm i j) (insL sn j) (insL al j)
      have h2 := insL_len sn j
      have h3 := insL_len al j
      simp only [ren, hj]
      omega
theorem ren_shape : ∀ (s : Sy) (nm : Int → Int) (sn al : List Int) (t : Sy), (ren s nm sn al).1 = some t → t.depth = s.depth ∧ t.size = s.size
  | .name i, nm, sn, al, t, e => by cases e; exact ⟨rfl, rfl⟩
  | .yes b, nm, sn, al, t, e => by cases e; exact ⟨rfl, rfl⟩
  | .is b i, nm, sn, al, t, e => by cases e; exact ⟨rfl, rfl⟩
  | .two c l r, nm, sn, al, t, e => by
    simp only [ren] at e
    cases h1 : (ren l nm sn al).1 with
    | none => rw [h1] at e; cases e
    | some l' =>
      cases h2 : (ren r nm (ren l nm sn al).2.1 (ren l nm sn al).2.2).1 with
      | none => rw [h1, h2] at e; cases e
      | some r' =>
        rw [h1, h2] at e
        cases e
        obtain ⟨a1, a2⟩ := ren_shape l nm sn al l' h1
        obtain ⟨b1, b2⟩ := ren_shape r nm _ _ r' h2
        exact ⟨by simp [Sy.depth, a1, b1], by rw [size_two, size_two, a2, b2]⟩
  | .step c i x, nm, sn, al, t, e => by
    simp only [ren] at e
    cases h1 : (ren x nm sn al).1 with
    | none => rw [h1] at e; cases e
    | some x' =>
      rw [h1] at e
      cases e
      obtain ⟨a1, a2⟩ := ren_shape x nm sn al x' h1
      exact ⟨by simp [Sy.depth, a1], by rw [size_step, size_step, a2]⟩
  | .fix c i x, nm, sn, al, t, e => by
    cases hj : newN sn al i with
    | none => simp only [ren, hj] at e; cases e
    | some j =>
      simp only [ren, hj] at e
      cases h1 : (ren x (nupd nm i j) (insL sn j) (insL al j)).1 with
      | none => rw [h1] at e; cases e
      | some x' =>
        rw [h1] at e
        cases e
        obtain ⟨a1, a2⟩ := ren_shape x _ _ _ x' h1
        exact ⟨by simp [Sy.depth, a1], by rw [size_fix, size_fix, a2]⟩
/-- .. of one after the other -/
def renL : List Sy → (Int → Int) → List Int → List Int → List (Option Sy) × List Int × List Int
  | [], _, sn, al => ([], sn, al)
  | s :: T, nm, sn, al => ((ren s nm sn al).1 :: (renL T nm (ren s nm sn al).2.1 (ren s nm sn al).2.2).1, (renL T nm (ren s nm sn al).2.1 (ren s nm sn al).2.2).2)
def rD : Option Sy → D
  | some t => t.d
  | none => .non
def EnvN (kvs : List (D × D)) (nm : Int → Int) (X : List Int) : Prop := ∀ i ∈ X, lookD kvs (.int i) = some (.int (nm i))
/-- where the names taken stand -/
structure Tk (S : Store) (pt ps pa : Addr) (sn al : List Int) : Prop where
  t : S pt = some (.dct [(.str "seen", .loc ps), (.str "all", .loc pa)])
  s : S ps = some (.dct (kd sn))
  a : S pa = some (.dct (kd al))
  ts : pt ≠ ps
  ta : pt ≠ pa
  sa : ps ≠ pa
theorem Tk.le {S S' : Store} {pt ps pa : Addr} {sn al : List Int} (h : Tk S pt ps pa sn al) (l : Le S S') : Tk S' pt ps pa sn al := ⟨l _ _ h.t, l _ _ h.s, l _ _ h.a, h.ts, h.ta, h.sa⟩
def Fr (ps pa : Addr) (S S' : Store) : Prop := ∀ z o, z ≠ ps → z ≠ pa → S z = some o → S' z = some o
theorem Fr.trans {ps pa : Addr} {S S1 S2 : Store} (h : Fr ps pa S S1) (g : Fr ps pa S1 S2) : Fr ps pa S S2 := fun z o n1 n2 e => g z o n1 n2 (h z o n1 n2 e)
theorem Fr.of_le {ps pa : Addr} {S S' : Store} (l : Le S S') : Fr ps pa S S' := fun z o _ _ e => l z o e
def sp_ren (N : Nat) : SpD := fun ds S R => ∃ a b K F s nm sn al pn pt ps pa kvs, ds = [Sy.d s, .loc pn, .loc pt] ∧ Wfs a b K F s ∧ s.depth ≤ N ∧ s.depth ≤ 90 ∧ S pn = some (.dct kvs) ∧ kvs.length + s.depth ≤ 1000 ∧ EnvN kvs nm (K ++ F) ∧ pn ≠ ps ∧ pn ≠ pa ∧ Tk S pt ps pa sn al ∧ sn.length + s.size ≤ 100000 ∧ al.length + s.size ≤ 200000 ∧
  ∀ S', Tk S' pt ps pa (ren s nm sn al).2.1 (ren s nm sn al).2.2 → Fr ps pa S S' → R (rD (ren s nm sn al).1) S'
theorem ren_go {N : Nat} {a b : Int} {K F : List Int} {s : Sy} {nm : Int → Int} {sn al : List Int} {pn pt ps pa : Addr} {kvs : List (D × D)} {S : Store} {R : DVK} (w : Wfs a b K F s) (hd : s.depth ≤ N) (h9 : s.depth ≤ 90) (en : S pn = some (.dct kvs)) (hl : kvs.length + s.depth ≤ 1000) (env : EnvN kvs nm (K ++ F)) (n1 : pn ≠ ps) (n2 : pn ≠ pa) (tk : Tk S pt ps pa sn al) (l1 : sn.length + s.size ≤ 100000) (l2 : al.length + s.size ≤ 200000)
    (h : ∀ S', Tk S' pt ps pa (ren s nm sn al).2.1 (ren s nm sn al).2.2 → Fr ps pa S S' → R (rD (ren s nm sn al).1) S') : sp_ren N [s.d, .loc pn, .loc pt] S R := ⟨a, b, K, F, s, nm, sn, al, pn, pt, ps, pa, kvs, rfl, w, hd, h9, en, hl, env, n1, n2, tk, l1, l2, h⟩
def rn0 : Y.S := .ife (.cmp .eq (.sub (.var 0) (.int 0)) (.str "name")) [.ret (.tup [(.str "name"), (.sub (.var 1) (.sub (.var 0) (.int 1)))])] []
def rnF : E := .lc [8] (.one 8) (.range (.gv "MOST_NAMES")) (some (.cmp .notin (.var 8) (.sub (.var 2) (.str "all")))) (.var 8)
def rnA : Y.S := .ife (.cmp .inn (.var 5) (.sub (.var 2) (.str "seen"))) [.asg (.name (.one 7)) rnF, .ife (.cmp .eq (.bi .len [(.var 7)]) (.int 0)) [.ret .non] [], .asg (.name (.one 5)) (.sub (.var 7) (.int 0))] []
def rnB : List Y.S := [.asg (.sub (.sub (.var 2) (.str "seen")) (.var 5)) (.bl true), .asg (.sub (.sub (.var 2) (.str "all")) (.var 5)) (.bl true), .asg (.name (.one 6)) (.call "renamed" [(.sub (.var 0) (.int 2)), (.call "with_name" [(.var 1), (.sub (.var 0) (.int 1)), (.var 5)]), (.var 2)]), .ret (.ite (.cmp .isn (.var 6) .non) .non (.tup [(.sub (.var 0) (.int 0)), (.var 5), (.var 6)]))]
def rn1 : Y.S := .ife (.cmp .inn (.sub (.var 0) (.int 0)) (.gv "BINDERS")) (.asg (.name (.one 5)) (.sub (.var 0) (.int 1)) :: rnA :: rnB) []
def rn2 : Y.S := .asg (.name (.one 3)) (.lst [])
def rn3b : List Y.S := [.ex (.mt .append (.var 3) [(.call "renamed" [(.var 4), (.var 1), (.var 2)])])]
def rn3 : Y.S := .frr (.one 4) (.seq (.call "parts_of" [(.var 0)])) rn3b
def rn4 : Y.S := .ret (.ite (.cmp .inn .non (.var 3)) .non (.call "with_parts" [(.var 0), (.var 3)]))
theorem ir_rn : ir_renamed = [rn0, rn1, rn2, rn3, rn4] := rfl
section
variable {Γ : G} {N : Nat}
/-- the loop over the parts -/
theorem ren_loop (g1 : Γ.fn "renamed" = sp_ren N) {a b : Int} {K F : List Int} {nm : Int → Int} {pn pt ps pa pf : Addr} {kvs : List (D × D)} {x0 x5 x6 x7 x8 : Option D} {Z : Ends} (env : EnvN kvs nm (K ++ F)) (n1 : pn ≠ ps) (n2 : pn ≠ pa) (f1 : pf ≠ ps) (f2 : pf ≠ pa) (f3 : pf ≠ pt) (f4 : pf ≠ pn) :
    ∀ (T : List Sy) (acc : List D) (sn al : List Int) (x4 : Option D) (S : Store), (∀ t ∈ T, Wfs a b K F t ∧ t.depth ≤ N ∧ t.depth ≤ 90 ∧ kvs.length + t.depth ≤ 1000) → S pn = some (.dct kvs) → S pf = some (.lst acc) → Tk S pt ps pa sn al → sn.length + (T.map Sy.size).sum ≤ 100000 → al.length + (T.map Sy.size).sum ≤ 200000 → acc.length + T.length ≤ 100 →
      (∀ x4 S', Tk S' pt ps pa (renL T nm sn al).2.1 (renL T nm sn al).2.2 → (∀ z o, z ≠ ps → z ≠ pa → z ≠ pf → S z = some o → S' z = some o) → S' pf = some (.lst (acc ++ (renL T nm sn al).1.map rD)) → Z.nx [x0, some (.loc pn), some (.loc pt), some (.loc pf), x4, x5, x6, x7, x8] S') →
      forL (.one 4) (fun _ => True) (wss Γ rn3b) (T.map Sy.d) Z [x0, some (.loc pn), some (.loc pt), some (.loc pf), x4, x5, x6, x7, x8] S
  | [], acc, sn, al, x4, S, hT, en, ef, tk, l1, l2, la, h => ⟨trivial, h x4 S tk (fun _ _ _ _ _ e => e) (by simpa [renL] using ef)⟩
  | t :: T, acc, sn, al, x4, S, hT, en, ef, tk, l1, l2, la, h => by
    simp only [List.map_cons, List.sum_cons] at l1 l2
    simp only [List.length_cons] at la
    obtain ⟨w, d1, d2, d3⟩ := hT t List.mem_cons_self
    refine ⟨trivial, _, rfl, ?_⟩
    simp [rn3b, g1, ef]
    refine ren_go w d1 d2 en d3 env n1 n2 tk (by omega) (by omega) fun S1 tk1 fr => ?_
    have ef1 := fr pf _ f1 f2 ef
    have hlen := ren_len t nm sn al
    refine ⟨_, ef1, ?_⟩
    rw [v_appo]
    refine ⟨line_lt (by omega), ?_⟩
    have tk2 : Tk (S1.upd pf (.lst (acc ++ [rD (ren t nm sn al).1]))) pt ps pa (ren t nm sn al).2.1 (ren t nm sn al).2.2 := ⟨(Store.upd_ne (Ne.symm f3)).trans tk1.t, (Store.upd_ne (Ne.symm f1)).trans tk1.s, (Store.upd_ne (Ne.symm f2)).trans tk1.a, tk1.ts, tk1.ta, tk1.sa⟩
    refine ren_loop g1 env n1 n2 f1 f2 f3 f4 T _ _ _ _ _ (fun u hu => hT u (List.mem_cons_of_mem _ hu)) ((Store.upd_ne (Ne.symm f4)).trans (fr pn _ n1 n2 en)) up_same tk2 (by omega) (by omega) (by simp; omega) fun x4' S' tk' fr' e' => h x4' S' tk' (fun z o z1 z2 z3 ez => fr' z o z1 z2 z3 ((Store.upd_ne z3).trans (fr z o z1 z2 ez))) ?_
    rw [e']
    simp [renL]
end
end Y

namespace Y
open PySem PySem.Spec L2
def plain? : Sy → Bool
  | .name _ => false
  | .fix _ _ _ => false
  | _ => true
theorem ren_kin {s : Sy} (h : plain? s = true) (nm : Int → Int) (sn al : List Int) : (ren s nm sn al).2 = (renL s.kin nm sn al).2 ∧ ((renL s.kin nm sn al).1.any Option.isNone = true → (ren s nm sn al).1 = none) ∧
    ((renL s.kin nm sn al).1.any Option.isNone = false → D.tup (withL s ((renL s.kin nm sn al).1.map rD)) = rD (ren s nm sn al).1) := by
  cases s with
  | name i => cases h
  | fix c i x => cases h
  | yes b => cases b <;> simp [ren, renL, Sy.kin, withL, Sy.tag, Sy.body, rD, Sy.d]
  | is b i => cases b <;> simp [ren, renL, Sy.kin, withL, Sy.tag, Sy.body, rD, Sy.d]
  | step c i x =>
    simp only [ren, renL, Sy.kin]
    cases h1 : (ren x nm sn al).1 with
    | none => simp
    | some x' => cases c <;> simp [withL, Sy.tag, Sy.body, rD, Sy.d]
  | two c l r =>
    simp only [ren, renL, Sy.kin]
    cases h1 : (ren l nm sn al).1 with
    | none => simp [two?]
    | some l' =>
      cases h2 : (ren r nm (ren l nm sn al).2.1 (ren l nm sn al).2.2).1 with
      | none => simp [two?]
      | some r' => cases c <;> simp [withL, Sy.tag, Sy.body, rD, Sy.d, two?]
theorem plain_tag {s : Sy} (h : plain? s = true) : s.tag ≠ "name" ∧ s.tag ≠ "least" ∧ s.tag ≠ "greatest" := by
  cases s with
  | name i => cases h
  | fix c i x => cases h
  | yes b => cases b <;> simp [Sy.tag]
  | is b i => cases b <;> simp [Sy.tag]
  | step c i x => cases c <;> simp [Sy.tag]
  | two c l r => cases c <;> simp [Sy.tag]
theorem kin_sum {s : Sy} (h : plain? s = true) : (s.kin.map Sy.size).sum + 1 = s.size := by
  cases s with
  | name i => cases h
  | fix c i x => cases h
  | yes b => rfl
  | is b i => rfl
  | step c i x => rw [size_step]; simp [Sy.kin]
  | two c l r => rw [size_two]; simp [Sy.kin]
theorem kin_wfs {a b : Int} {K F : List Int} {s : Sy} (h : plain? s = true) (w : Wfs a b K F s) : ∃ F', (∀ i ∈ K ++ F', i ∈ K ++ F) ∧ ∀ t ∈ s.kin, Wfs a b K F' t := by
  cases s with
  | name i => cases h
  | fix c i x => cases h
  | yes b => exact ⟨F, fun _ h => h, fun t ht => by cases ht⟩
  | is b i => exact ⟨F, fun _ h => h, fun t ht => by cases ht⟩
  | step c i x =>
    refine ⟨K, fun i hi => List.mem_append.mpr (.inl (by simpa using hi)), fun t ht => ?_⟩
    simp [Sy.kin] at ht
    subst ht
    exact w.2.2
  | two c l r =>
    refine ⟨F, fun _ h => h, fun t ht => ?_⟩
    simp [Sy.kin] at ht
    rcases ht with rfl | rfl
    · exact w.1
    · exact w.2
theorem any_none (os : List (Option Sy)) : (os.map rD).any (fun z => eqd z .non) = os.any Option.isNone := by
  induction os with
  | nil => rfl
  | cons o os ih =>
    rw [List.map_cons, List.any_cons, List.any_cons, ih]
    cases o with
    | none => rfl
    | some t =>
      show (eqd t.d .non || _) = _
      rw [Sy.d_eq]
      rfl
theorem renL_pl {T : List Sy} {n : Nat} : ∀ {nm : Int → Int} {sn al : List Int}, (∀ t ∈ T, t.depth ≤ n) → D.pls n ((renL T nm sn al).1.map rD) = true := by
  induction T with
  | nil => intro nm sn al h; simp [renL]
  | cons t T ih =>
    intro nm sn al h
    simp only [renL, List.map_cons, p_cons, Bool.and_eq_true]
    refine ⟨?_, ih fun u hu => h u (List.mem_cons_of_mem _ hu)⟩
    cases h1 : (ren t nm sn al).1 with
    | none => simp [rD]
    | some t' =>
      have := (ren_shape t nm sn al t' h1).1
      exact pl_sy t' (by rw [this]; exact h t List.mem_cons_self)
theorem renL_len (T : List Sy) : ∀ (nm : Int → Int) (sn al : List Int), (renL T nm sn al).1.length = T.length := by
  induction T with
  | nil => intro _ _ _; rfl
  | cons t T ih => intro nm sn al; simp [renL, ih]
theorem frees (al : List Int) : ((List.range 20).filterMap fun k : Nat => if (!decide ((k : Int) ∈ al)) = true then some (D.int (k : Nat)) else none) = (freeL al).map D.int := by
  unfold freeL
  generalize List.range 20 = L
  induction L with
  | nil => rfl
  | cons k L ih =>
    rw [List.filterMap_cons, List.map_cons, List.filter_cons, ih]
    have e : al.contains (k : Int) = decide ((k : Int) ∈ al) := by
      rw [Bool.eq_iff_iff]
      simp
    rw [e]
    cases decide ((k : Int) ∈ al) <;> rfl
section
variable {Γ : G} {N : Nat}
theorem look_seen {ps pa : Addr} : lookD [(D.str "seen", D.loc ps), (D.str "all", D.loc pa)] (.str "seen") = some (.loc ps) := rfl
theorem look_all {ps pa : Addr} : lookD [(D.str "seen", D.loc ps), (D.str "all", D.loc pa)] (.str "all") = some (.loc pa) := if_neg (by simp)
theorem new_name (v2 : Γ.gv "MOST_NAMES" = some (.int 20)) {x0 x1 x3 x4 x6 x7 x8 : Option D} {pt ps pa : Addr} {sn al : List Int} {i : Int} {S : Store} {Z : Ends} (tk : Tk S pt ps pa sn al) (h0 : newN sn al i = none → ∀ S', Le S S' → Z.rt .non S')
    (h1 : ∀ j, newN sn al i = some j → ∀ x7 S', Le S S' → Z.nx [x0, x1, some (.loc pt), x3, x4, some (.int j), x6, x7, x8] S') : ws Γ rnA Z [x0, x1, some (.loc pt), x3, x4, some (.int i), x6, x7, x8] S := by
  by_cases c : i ∈ sn
  · have hn : newN sn al i = (freeL al).head? := if_pos c
    rw [hn] at h0 h1
    simp [rnA, tk.t, look_seen, tk.s, -x_lct, -x_ss]
    refine .inr ⟨by rw [kd_look]; exact decide_eq_true c, ?_⟩
    show ws Γ (.asg (.name (.one 7)) rnF) ⟨fun σ1 S1 => wss Γ [.ife (.cmp .eq (.bi .len [(.var 7)]) (.int 0)) [.ret .non] [], .asg (.name (.one 5)) (.sub (.var 7) (.int 0))] Z σ1 S1, Z.rt⟩ _ S
    rw [x_asg]
    unfold rnF
    rw [x_lct, i_rng]
    refine ⟨_, v2, 20, rfl, ⟨by omega, by omega⟩, fun q hq => ?_⟩
    have qa : pa ≠ q := Store.ne tk.a hq
    have qt : pt ≠ q := Store.ne tk.t hq
    refine lc_ints (L := List.range 20) (fun k : Nat => if (!decide ((k : Int) ∈ al)) = true then some (D.int (k : Nat)) else none) (by simp) (fun _ => trivial) (fun k hk ys cc hcc => ?_) ?_
    · refine ⟨_, rfl, ?_⟩
      have e1 : (S.upd q (.lst ys)) pt = some (.dct [(.str "seen", .loc ps), (.str "all", .loc pa)]) := (Store.upd_ne qt).trans tk.t
      have e2 : (S.upd q (.lst ys)) pa = some (.dct (kd al)) := (Store.upd_ne qa).trans tk.a
      have kl := kd_look al (k : Int)
      simp [wipeD, e1, look_all, e2]
      by_cases m : (k : Int) ∈ al
      · simp [m] at hcc
        exact .inl ⟨by rw [kl]; exact decide_eq_true m, hcc⟩
      · simp [m] at hcc
        refine .inr ⟨?_, hcc⟩
        rw [decide_eq_false m] at kl
        simpa using kl
    · rw [frees]
      have L1 : Le S (S.upd q (.lst ((freeL al).map D.int))) := Le.new hq
      cases e : freeL al with
      | nil =>
        rw [e] at h0 L1
        simp
        exact h0 rfl _ L1
      | cons j r =>
        rw [e] at h1 L1
        have ne : ¬ ((r.length : Int) + 1 = 0) := by omega
        simp [ne]
        exact h1 j rfl _ _ L1
  · have hn : newN sn al i = some i := if_neg c
    simp [rnA, tk.t, look_seen, tk.s]
    refine .inl ⟨?_, h1 i hn _ _ .refl⟩
    have := kd_look sn i
    rw [decide_eq_false c] at this
    simpa using this
theorem w_ren (g1 : Γ.fn "parts_of" = sp_parts_of) (g2 : Γ.fn "renamed" = sp_ren N) (g3 : Γ.fn "with_parts" = sp_with_parts) (g4 : Γ.fn "with_name" = sp_withn) (v1 : Γ.gv "BINDERS" = some (.tup [.str "least", .str "greatest"])) (v2 : Γ.gv "MOST_NAMES" = some (.int 20)) :
    ∀ ds S R, sp_ren (N + 1) ds S R → wss Γ ir_renamed (ends R) (startD ck_renamed.N ds) S := by
  rintro _ S R ⟨a, b, K, F, s, nm, sn, al, pn, pt, ps, pa, kvs, rfl, w, hd, h9, en, hl, env, n1, n2, tk, l1, l2, hR⟩
  rw [ir_rn]
  show ws Γ rn0 ⟨fun σ1 S1 => wss Γ [rn1, rn2, rn3, rn4] (ends R) σ1 S1, (ends R).rt⟩ [some s.d, some (.loc pn), some (.loc pt), none, none, none, none, none, none] S
  by_cases pl : plain? s = true
  · obtain ⟨t1, t2, t3⟩ := plain_tag pl
    obtain ⟨q1, q2, q3⟩ := ren_kin pl nm sn al
    obtain ⟨F', k1, k2⟩ := kin_wfs pl w
    have ks := kin_sum pl
    have kl := s.kin_len
    have kd1 := kin_dep hd
    have kd9 := kin_dep (n := 89) (by omega : s.depth ≤ 89 + 1)
    have sd : 1 ≤ s.depth := by cases s <;> simp [Sy.depth]
    have kdd : ∀ t ∈ s.kin, t.depth ≤ s.depth := fun t ht => by have := kin_dep (n := s.depth - 1) (by omega : s.depth ≤ s.depth - 1 + 1) t ht; omega
    rw [Sy.d_eq]
    simp [rn0, t1, -x_ss]
    show ws Γ rn1 ⟨fun σ1 S1 => wss Γ [rn2, rn3, rn4] (ends R) σ1 S1, (ends R).rt⟩ _ S
    have t2' : ¬ "least" = s.tag := fun e => t2 e.symm
    have t3' : ¬ "greatest" = s.tag := fun e => t3 e.symm
    simp [rn1, v1, t2', t3', -x_ss]
    show ws Γ rn2 ⟨fun σ1 S1 => wss Γ [rn3, rn4] (ends R) σ1 S1, (ends R).rt⟩ _ S
    simp [rn2, -x_ss]
    intro pf hf
    have f1 : pf ≠ ps := fun e => by rw [e, tk.s] at hf; cases hf
    have f2 : pf ≠ pa := fun e => by rw [e, tk.a] at hf; cases hf
    have f3 : pf ≠ pt := fun e => by rw [e, tk.t] at hf; cases hf
    have f4 : pf ≠ pn := fun e => by rw [e, en] at hf; cases hf
    show ws Γ rn3 ⟨fun σ1 S1 => wss Γ [rn4] (ends R) σ1 S1, (ends R).rt⟩ [some (.tup (.str s.tag :: s.body)), some (.loc pn), some (.loc pt), some (.loc pf), none, none, none, none, none] (S.upd pf (.lst []))
    rw [← Sy.d_eq]
    simp only [rn3, x_frr, i_seq, x_call, x_ps, x_var, x_ps0, g1]
    refine ⟨_, rfl, ?_⟩
    rw [sp_parts_sy, i_seqt]
    refine ren_loop g2 (K := K) (F := F') (fun i hi => env i (k1 i hi)) n1 n2 f1 f2 f3 f4 s.kin [] sn al none _ (fun t ht => ⟨k2 t ht, kd1 t ht, by have := kd9 t ht; omega, by have := kdd t ht; omega⟩) ((Store.upd_ne (Ne.symm f4)).trans en) up_same (tk.le (Le.new hf)) (by omega) (by omega) (by simp; omega) fun x4 S' tk' fr' e' => ?_
    rw [← q1] at tk'
    have frS : Fr ps pa S S' := fun z o z1 z2 ez => fr' z o z1 z2 (Store.ne ez hf) ((Store.upd_ne (Store.ne ez hf)).trans ez)
    rw [List.nil_append] at e'
    have hpl := renL_pl (n := 100) (nm := nm) (sn := sn) (al := al) (T := s.kin) fun t ht => by have := kd9 t ht; omega
    simp only [rn4, x_ss, x_ss0, x_ret, x_ite, x_cmp, x_non, x_var]
    refine ⟨_, rfl, _, e', ?_⟩
    rw [v_inol]
    refine ⟨by simp, hpl, _, rfl, ?_⟩
    rw [any_none]
    cases c : (renL s.kin nm sn al).1.any Option.isNone with
    | true =>
      rw [if_pos rfl]
      have := hR S' tk' frS
      rw [q2 c] at this
      exact ⟨S', .refl, this⟩
    | false =>
      rw [if_neg (by decide)]
      simp only [x_call, x_ps, x_var, x_ps0, g3]
      refine ⟨_, rfl, _, rfl, ?_⟩
      refine with_go e' (by rw [List.length_map, renL_len]; omega) ?_
      rw [q3 c]
      exact ⟨S', .refl, hR S' tk' frS⟩
  · cases s with
    | name i =>
      have hi : lookD kvs (.int i) = some (.int (nm i)) := env i (List.mem_append.mpr (.inr w))
      simp [rn0, Sy.d, Sy.tag, en]
      refine ⟨_, hi, S, .refl, ?_⟩
      exact hR S tk (.of_le .refl)
    | fix c i x =>
      obtain ⟨w1, w2⟩ := w
      simp [Sy.depth] at hd h9 hl
      rw [size_fix] at l1 l2
      have sz := x.size_pos
      have tg : (Sy.fix c i x).d = .tup [.str (Sy.fix c i x).tag, .int i, x.d] := rfl
      have tn : (Sy.fix c i x).tag ≠ "name" := by cases c <;> simp [Sy.tag]
      have tb : "least" = (Sy.fix c i x).tag ∨ "greatest" = (Sy.fix c i x).tag := by cases c <;> simp [Sy.tag]
      rw [tg]
      simp [rn0, tn, -x_ss]
      show ws Γ rn1 ⟨fun σ1 S1 => wss Γ [rn2, rn3, rn4] (ends R) σ1 S1, (ends R).rt⟩ _ S
      simp [rn1, v1, tb, -x_ss]
      generalize hT : (Sy.fix c i x).tag = T
      refine .inr ?_
      show ws Γ (.asg (.name (.one 5)) (.sub (.var 0) (.int 1))) ⟨fun σ1 S1 => wss Γ (rnA :: rnB) ⟨fun σ1 S1 => wss Γ [rn2, rn3, rn4] (ends R) σ1 S1, (ends R).rt⟩ σ1 S1, (ends R).rt⟩ _ S
      simp [-x_ss]
      show ws Γ rnA ⟨fun σ1 S1 => wss Γ rnB ⟨fun σ1 S1 => wss Γ [rn2, rn3, rn4] (ends R) σ1 S1, (ends R).rt⟩ σ1 S1, (ends R).rt⟩ [some (.tup [.str T, .int i, x.d]), some (.loc pn), some (.loc pt), none, none, some (.int i), none, none, none] S
      refine new_name v2 tk (fun hn S' l => ?_) fun j hn x7 S1 l => ?_
      · have e : ren (.fix c i x) nm sn al = (none, sn, al) := by simp only [ren, hn]
        rw [e] at hR
        exact ⟨S', .refl, hR S' (tk.le l) (.of_le l)⟩
      · have e : ren (.fix c i x) nm sn al = ((ren x (nupd nm i j) (insL sn j) (insL al j)).1.map (.fix c j), (ren x (nupd nm i j) (insL sn j) (insL al j)).2) := by simp only [ren, hn]
        rw [e] at hR
        have tk1 := tk.le l
        have en1 := l _ _ en
        have ln := insL_len sn j
        have la := insL_len al j
        simp [rnB, tk1.t, look_seen, tk1.s, look_all, kd_put]
        refine ⟨line_lt (by rw [kd_len]; omega), _, (Store.upd_ne tk1.ts).trans tk1.t, ?_⟩
        rw [v_ixod]
        refine ⟨rfl, _, look_all, ?_⟩
        rw [v_set]
        refine ⟨_, (Store.upd_ne (Ne.symm tk1.sa)).trans tk1.a, ?_⟩
        rw [v_setd]
        refine ⟨rfl, line_lt (by rw [kd_len]; omega), ?_⟩
        rw [kd_put]
        have tk2 : Tk ((S1.upd ps (.dct (kd (insL sn j)))).upd pa (.dct (kd (insL al j)))) pt ps pa (insL sn j) (insL al j) := ⟨(Store.upd_ne tk1.ta).trans ((Store.upd_ne tk1.ts).trans tk1.t), (Store.upd_ne tk1.sa).trans up_same, up_same, tk1.ts, tk1.ta, tk1.sa⟩
        have en2 : ((S1.upd ps (.dct (kd (insL sn j)))).upd pa (.dct (kd (insL al j)))) pn = some (.dct kvs) := (Store.upd_ne n2).trans ((Store.upd_ne n1).trans en1)
        have fr2 : Fr ps pa S1 ((S1.upd ps (.dct (kd (insL sn j)))).upd pa (.dct (kd (insL al j)))) := fun z o z1 z2 ez => (Store.upd_ne z2).trans ((Store.upd_ne z1).trans ez)
        generalize (S1.upd ps (.dct (kd (insL sn j)))).upd pa (.dct (kd (insL al j))) = S2 at tk2 en2 fr2
        rw [g4]
        refine withn_go en2 (by omega) fun q hq => ?_
        rw [g2]
        have qs : q ≠ ps := fun e => by rw [e, tk2.s] at hq; cases hq
        have qa : q ≠ pa := fun e => by rw [e, tk2.a] at hq; cases hq
        have pl2 := putD_len kvs (.int i) (.int j)
        refine ren_go (K := wo i K ++ [i]) (F := wo i F) (nm := nupd nm i j) (sn := insL sn j) (al := insL al j) (kvs := putD kvs (.int i) (.int j)) w2 hd (by omega) up_same (by omega) (fun k hk => ?_) qs qa (tk2.le (Le.new hq)) (by omega) (by omega) fun S' tk' fr' => ?_
        · by_cases z : k = i
          · subst z
            have e2 : nupd nm k j k = j := if_pos rfl
            rw [e2]
            exact lookD_put_same
          · have e2 : nupd nm i j k = nm k := if_neg z
            rw [e2, lookD_put_ne (fun y => z (D.int.inj y))]
            refine env k ?_
            rw [List.mem_append, List.mem_append, wo_mem, wo_mem] at hk
            rw [List.mem_append]
            rcases hk with (q | q) | q
            · exact .inl q.1
            · exact absurd (List.mem_singleton.mp q) z
            · exact .inr q.1
        · have frS : Fr ps pa S S' := (Fr.of_le l).trans (fr2.trans ((Fr.of_le (Le.new hq)).trans fr'))
          have hR' := hR S' tk' frS
          cases h1 : (ren x (nupd nm i j) (insL sn j) (insL al j)).1 with
          | none =>
            rw [h1] at hR'
            exact .inr ⟨rfl, S', .refl, hR'⟩
          | some t =>
            rw [h1] at hR'
            have ht : (Sy.fix c j t).tag = T := by rw [← hT]; rfl
            have hR2 : R (.tup [.str (Sy.fix c j t).tag, .int j, t.d]) S' := hR'
            rw [ht] at hR2
            refine .inl ⟨?_, S', .refl, hR2⟩
            show ¬ t.d = .non
            rw [Sy.d_eq]
            exact fun e => by cases e
    | _ => exact absurd rfl pl
end
end Y

namespace Y
open PySem PySem.Spec L2
/-! ### unfolded, cut_saying: the names are told anew -/
def namesL (s : Sy) : List Int := (nms s).foldl insL []
def nm0 : Int → Int := fun _ => 0
theorem insAll_len : ∀ (xs L : List Int), (xs.foldl insL L).length ≤ L.length + xs.length
  | [], L => Nat.le_refl _
  | x :: xs, L => by
    have h1 := insAll_len xs (insL L x)
    have h2 := insL_len L x
    simp only [List.foldl_cons, List.length_cons]
    omega
theorem nms_len (s : Sy) : (nms s).length ≤ s.size := by
  unfold nms Sy.fixes Sy.size
  rw [List.length_map]
  exact List.length_filter_le _ _
def gN (x : D) : Option (D × D) := (syOf x).bind fun t => if t.isFix then some (.int t.arg, .bl true) else none
theorem gN_d (s : Sy) : gN s.d = if s.isFix then some (.int s.arg, .bl true) else none := by unfold gN; rw [syOf_d]; rfl
theorem names_all : ∀ (P : List Sy) (L : List Int), putAllD gN (P.map Sy.d) (kd L) = kd (((P.filter Sy.isFix).map Sy.arg).foldl insL L)
  | [], L => by simp [putAllD]
  | q :: P, L => by
    rw [List.map_cons]
    unfold putAllD
    rw [gN_d]
    by_cases c : q.isFix = true
    · rw [if_pos c, List.filter_cons_of_pos c]
      show putAllD gN (P.map Sy.d) (putD (kd L) (.int q.arg) (.bl true)) = _
      rw [kd_put, names_all P]
      rfl
    · rw [if_neg c, List.filter_cons_of_neg c]
      exact names_all P L
theorem put_size (x : Int) (g : Sy) : ∀ s : Sy, (Sy.put x g s).size ≤ s.size * g.size
  | .name i => by
    have := g.size_pos
    unfold Sy.put
    split
    · show _ ≤ 1 * g.size; omega
    · show 1 ≤ 1 * g.size; omega
  | .yes b => by have := g.size_pos; show 1 ≤ 1 * g.size; omega
  | .is b i => by have := g.size_pos; show 1 ≤ 1 * g.size; omega
  | .two b l r => by
    have h1 := put_size x g l
    have h2 := put_size x g r
    have := g.size_pos
    show (Sy.two b (Sy.put x g l) (Sy.put x g r)).size ≤ _
    rw [size_two, size_two, Nat.add_mul, Nat.add_mul]
    omega
  | .step b i s => by
    have h1 := put_size x g s
    have := g.size_pos
    show (Sy.step b i (Sy.put x g s)).size ≤ _
    rw [size_step, size_step, Nat.add_mul]
    omega
  | .fix b i s => by
    have h1 := put_size x g s
    have := g.size_pos
    show (Sy.fix b i (Sy.put x g s)).size ≤ _
    rw [size_fix, size_fix, Nat.add_mul]
    omega
theorem put_depth (x : Int) (g : Sy) : ∀ s : Sy, (Sy.put x g s).depth ≤ s.depth + g.depth
  | .name i => by
    unfold Sy.put
    split
    · omega
    · simp [Sy.depth]
  | .yes b => by simp [Sy.put, Sy.depth]
  | .is b i => by simp [Sy.put, Sy.depth]
  | .two b l r => by
    have h1 := put_depth x g l
    have h2 := put_depth x g r
    simp [Sy.put, Sy.depth]
    omega
  | .step b i s => by
    have h1 := put_depth x g s
    simp [Sy.put, Sy.depth]
    omega
  | .fix b i s => by
    have h1 := put_depth x g s
    simp [Sy.put, Sy.depth]
    omega
theorem depth_size : ∀ s : Sy, s.depth ≤ s.size
  | .name i => Nat.le_refl _
  | .yes b => Nat.le_refl _
  | .is b i => Nat.le_refl _
  | .two b l r => by
    have h1 := depth_size l
    have h2 := depth_size r
    rw [size_two]
    simp [Sy.depth]
    omega
  | .step b i s => by
    have h1 := depth_size s
    rw [size_step]
    simp [Sy.depth]
    exact h1
  | .fix b i s => by
    have h1 := depth_size s
    rw [size_fix]
    simp [Sy.depth]
    exact h1
section
variable {Γ : G} {N : Nat} {S : Store} {R : DVK} {σ : DSt}
theorem na_dc (g1 : Γ.fn "all_parts" = sp_all_parts) (g2 : Γ.gv "BINDERS" = some (.tup [.str "least", .str "greatest"])) {i m : Nat} {s : Sy} (hi : σ[i]? = some (some s.d)) (len : m < σ.length) (hs : s.size ≤ 100000)
    (h : ∀ q S', S q = none → Le S S' → S' q = some (.dct (kd (namesL s))) → R (.loc q) S') : wp Γ (.dc [m] (.one m) (.seq (.call "all_parts" [(.var i)])) (some (.cmp .inn (.sub (.var m) (.int 0)) (.gv "BINDERS"))) (.sub (.var m) (.int 1)) (.bl true)) σ S R := by
  rw [x_dct, i_seq, x_call, x_ps, x_var]
  refine ⟨_, hi, ?_⟩
  rw [x_ps0, g1, sp_all_app]
  refine ⟨hs, ?_⟩
  rw [v_new]
  intro p hp
  refine ⟨_, up_same, ?_⟩
  intro q hq
  rw [Store.upd_none] at hq
  have hl : s.parts.length ≤ 16777215 := by unfold Sy.size at hs; omega
  refine dc_go gN (by simpa using hl) (fun ys => by rw [Store.upd_ne (Ne.symm hq.1), Store.upd_same]) (fun x hx kv e => ?_) (fun x hx ys k h => ?_) ?_
  · rw [List.mem_map] at hx
    obtain ⟨t, _, rfl⟩ := hx
    rw [gN_d] at e
    split at e
    · cases e; rfl
    · cases e
  · rw [List.mem_map] at hx
    obtain ⟨t, _, rfl⟩ := hx
    rw [gN_d] at h
    refine ⟨_, rfl, ?_⟩
    have em : ((wipeD σ [m]).set m (some t.d))[m]? = some (some t.d) := List.getElem?_set_self (by simpa [wipeD] using len)
    rw [x_cs, x_cmp, x_subv, x_var]
    refine ⟨_, em, ?_⟩
    rw [x_int]
    have e0 : ∀ R : DVK, ∀ S, subW t.d (.int 0) S R = R (.str t.tag) S := fun R S => by
      rw [Sy.d_eq]
      show (∃ v, atD (D.str t.tag :: t.body) 0 = some v ∧ R v S) = _
      simp
    rw [e0, x_gv]
    refine ⟨_, g2, ?_⟩
    rw [v_int]
    refine ⟨by simp, by simp, _, rfl, ?_⟩
    have tf : ([D.str "least", D.str "greatest"].any fun z => eqd z (.str t.tag)) = t.isFix := by
      rw [Bool.eq_iff_iff, ← Sy.tag_fix]
      show ((("least" == t.tag) || (("greatest" == t.tag) || false)) = true) ↔ _
      rw [Bool.or_false, Bool.or_eq_true, beq_iff_eq, beq_iff_eq]
      exact ⟨fun q => q.imp Eq.symm Eq.symm, fun q => q.imp Eq.symm Eq.symm⟩
    rw [tf]
    by_cases c : t.isFix = true
    · rw [if_pos c] at h
      rw [if_pos c, x_subv, x_var]
      refine ⟨_, em, ?_⟩
      rw [x_int, sub_d1 c, x_bl]
      exact h
    · rw [if_neg c] at h
      rw [if_neg c]
      exact h
  · have e : putAllD gN (s.parts.map Sy.d) [] = kd (namesL s) := names_all s.parts []
    rw [e]
    exact h q _ hq.2 ((Le.new hp).trans (Le.new (Store.upd_none.mpr hq))) up_same
theorem na_ren (g2 : Γ.fn "renamed" = sp_ren N) {a b : Int} {i j : Nat} {s : Sy} {q : Addr} (hi : σ[i]? = some (some s.d)) (hj : σ[j]? = some (some (.loc q))) (eq : S q = some (.dct (kd (namesL s)))) (w : Wfs a b [] [] s) (hd : s.depth ≤ N) (h9 : s.depth ≤ 90) (hs : s.size ≤ 90000)
    (h : ∀ S', (∀ z o, z ≠ q → S z = some o → S' z = some o) → R (rD (ren s nm0 [] (namesL s)).1) S') : wp Γ (.call "renamed" [(.var i), (.dsp []), (.dsp [(.str "seen"), (.dsp []), (.str "all"), (.var j)])]) σ S R := by
  rw [x_call, x_ps, x_var]
  refine ⟨_, hi, ?_⟩
  rw [x_ps, x_dsp]
  intro pn hn
  rw [x_ps0]
  refine ⟨[], rfl, up_same, by simp, by simp, ?_⟩
  rw [up_up, x_ps, x_dsp]
  show ∀ pt, (S.upd pn (.dct [])) pt = none → _
  intro pt ht
  rw [x_ps, x_str, x_ps, x_dsp]
  intro ps hs2
  rw [x_ps0]
  refine ⟨[], rfl, up_same, by simp, by simp, ?_⟩
  rw [up_up, x_ps, x_str, x_ps, x_var]
  refine ⟨_, hj, ?_⟩
  rw [x_ps0]
  have qn : q ≠ pn := Store.ne eq hn
  have eq1 : (S.upd pn (.dct [])) q = some (.dct (kd (namesL s))) := (Store.upd_ne qn).trans eq
  have qt : q ≠ pt := Store.ne eq1 ht
  have nt : pn ≠ pt := Store.ne up_same ht
  have eq2 : ((S.upd pn (.dct [])).upd pt (.dct [])) q = some (.dct (kd (namesL s))) := (Store.upd_ne qt).trans eq1
  have qs : q ≠ ps := Store.ne eq2 hs2
  have ts : pt ≠ ps := Store.ne up_same hs2
  have en2 : ((S.upd pn (.dct [])).upd pt (.dct [])) pn = some (.dct []) := (Store.upd_ne nt).trans up_same
  have ns : pn ≠ ps := Store.ne en2 hs2
  refine ⟨[(.str "seen", .loc ps), (.str "all", .loc q)], rfl, (Store.upd_ne ts).trans up_same, ?_, by simp, ?_⟩
  · intro kv hk
    rcases List.mem_cons.mp hk with rfl | hk
    · rfl
    · rw [List.mem_singleton.mp hk]; rfl
  have em : mergeD [] [(D.str "seen", D.loc ps), (.str "all", .loc q)] = [(D.str "seen", D.loc ps), (.str "all", .loc q)] := rfl
  rw [em, x_ps0, g2]
  have tk : Tk ((((S.upd pn (.dct [])).upd pt (.dct [])).upd ps (.dct [])).upd pt (.dct [(.str "seen", .loc ps), (.str "all", .loc q)])) pt ps q [] (namesL s) :=
    ⟨up_same, (Store.upd_ne (Ne.symm ts)).trans up_same, (Store.upd_ne qt).trans ((Store.upd_ne qs).trans eq2), ts, Ne.symm qt, Ne.symm qs⟩
  have h1 := insAll_len (nms s) []
  have h2 := nms_len s
  have h3 : (namesL s).length ≤ s.size := by unfold namesL; simp at h1; omega
  refine ren_go (K := []) (F := []) (nm := nm0) (kvs := []) w hd h9 ((Store.upd_ne nt).trans ((Store.upd_ne ns).trans en2)) (by show 0 + s.depth ≤ 1000; omega) (fun k hk => by cases hk) ns (Ne.symm qn) tk (by show 0 + s.size ≤ 100000; omega) (by omega) fun S' tk' fr => ?_
  refine h S' fun z o zq ez => ?_
  have z1 : z ≠ pn := Store.ne ez hn
  have ez1 := (Store.upd_ne (o := .dct []) z1).trans ez
  have z2 : z ≠ pt := Store.ne ez1 ht
  have ez2 := (Store.upd_ne (o := .dct []) z2).trans ez1
  have z3 : z ≠ ps := Store.ne ez2 hs2
  exact fr z o z3 zq ((Store.upd_ne z2).trans ((Store.upd_ne z3).trans ez2))
end
end Y

namespace Y
open PySem PySem.Spec L2
/-! ### unfolded, cut_saying -/
def anew (s : Sy) : Option Sy := (ren s nm0 [] (namesL s)).1
def unfR : Sy → Option Sy
  | .fix c x s => anew (Sy.put x (.fix c x s) s)
  | s => some s
def cutT (c : Bool) (x : Int) (s : Sy) : Nat → Option Sy
  | 0 => some (.yes (!c))
  | m + 1 => (cutT c x s m).bind fun g => if (Sy.put x g s).size ≤ 40 then some (Sy.put x g s) else none
def cutR (c : Bool) (x : Int) (s : Sy) (k : Nat) : Option Sy := (cutT c x s k).bind anew
theorem insAll_mem : ∀ (xs L : List Int) (k : Int), k ∈ xs.foldl insL L ↔ k ∈ L ∨ k ∈ xs
  | [], L, k => by simp
  | x :: xs, L, k => by
    rw [List.foldl_cons, insAll_mem xs, insL_mem, List.mem_cons, or_assoc]
theorem fix_parts {a b : Int} {c : Bool} {x : Int} {s : Sy} (w : Wf a b [] [] (.fix c x s)) (nd : (nms (.fix c x s)).Nodup) : Wf a b [x] [] s ∧ (nms s).Nodup ∧ x ∉ nms s ∧ (∀ i ∈ nms s, i ∉ [x] ∧ i ∉ ([] : List Int)) := by
  rw [nms_fix, List.nodup_cons] at nd
  exact ⟨w.2.2, nd.2, nd.1, fun i hi => ⟨fun q => nd.1 (by rw [← List.mem_singleton.mp q]; exact hi), by simp⟩⟩
theorem put_closed {a b : Int} {c : Bool} {x : Int} {s g : Sy} (w : Wf a b [] [] (.fix c x s)) (nd : (nms (.fix c x s)).Nodup) (hg : Wfs a b [] [] g) : Wfs a b [] [] (Sy.put x g s) := by
  obtain ⟨w1, w2, w3, w4⟩ := fix_parts w nd
  have := put_wfs hg s w1 w2 w3 w4
  exact wfs_mono _ (fun k hk => by
    have := wo_mem.mp hk
    exact absurd (List.mem_singleton.mp this.1) this.2) (fun k hk => hk) this
theorem fix_wfs {a b : Int} {s : Sy} (w : Wf a b [] [] s) (nd : (nms s).Nodup) : Wfs a b [] [] s := wfs_of s w nd fun i _ => ⟨by simp, by simp⟩
theorem cutT_ok {a b : Int} {c : Bool} {x : Int} {s : Sy} (w : Wf a b [] [] (.fix c x s)) (nd : (nms (.fix c x s)).Nodup) : ∀ (m : Nat) (g : Sy), cutT c x s m = some g → Wfs a b [] [] g ∧ g.size ≤ 40
  | 0, g, e => by cases e; exact ⟨trivial, by show 1 ≤ 40; omega⟩
  | m + 1, g, e => by
    rw [cutT] at e
    cases h : cutT c x s m with
    | none => rw [h] at e; cases e
    | some g' =>
      rw [h] at e
      obtain ⟨h1, h2⟩ := cutT_ok w nd m g' h
      have e : (if (Sy.put x g' s).size ≤ 40 then some (Sy.put x g' s) else none) = some g := e
      by_cases q : (Sy.put x g' s).size ≤ 40
      · rw [if_pos q] at e
        cases e
        exact ⟨put_closed w nd h1, q⟩
      · rw [if_neg q] at e
        cases e
theorem cutT_none {c : Bool} {x : Int} {s : Sy} {m : Nat} (h : cutT c x s m = none) : ∀ d, cutT c x s (m + d) = none
  | 0 => h
  | d + 1 => by
    show (cutT c x s (m + d)).bind _ = none
    rw [cutT_none h d]
    rfl
/-- what is told anew: its form and its places -/
theorem anew_ok {a b : Int} {s t : Sy} (w : Wfs a b [] [] s) (h : anew s = some t) : Wf a b [] [] t ∧ (nms t).Nodup ∧ t.size = s.size ∧ t.depth = s.depth := by
  have h1 := ren_wf s [] [] nm0 [] (namesL s) t w (fun k hk => by cases hk) .nil h
  have h2 := ren_grow s nm0 [] (namesL s) (fun k hk => by cases hk) .nil
  have h3 := h2.2.2.2 t h
  rw [List.nil_append] at h3
  exact ⟨h1.1, by rw [← h3]; exact h2.2.1, h1.2.1, h1.2.2⟩
theorem anew_den {W : Wd} {a b : Int} (hW : WOk a b W) {s t : Sy} (w : Wfs a b [] [] s) (h : anew s = some t) : EqP W.n (den W s e0) (den W t e0) :=
  ren_den hW s [] [] nm0 [] (namesL s) t e0 e0 w (fun k hk => by cases hk) .nil (fun i hi => by cases hi) (fun i hi => by cases hi) h
def uf0 : Y.S := .ife (.cmp .notin (.sub (.var 0) (.int 0)) (.gv "BINDERS")) [.ret (.var 0)] []
def uf1 : Y.S := .asg (.name (.one 1)) (.call "put_in" [(.sub (.var 0) (.int 2)), (.sub (.var 0) (.int 1)), (.var 0)])
def uf2 : Y.S := .asg (.name (.one 2)) (.dc [3] (.one 3) (.seq (.call "all_parts" [(.var 1)])) (some (.cmp .inn (.sub (.var 3) (.int 0)) (.gv "BINDERS"))) (.sub (.var 3) (.int 1)) (.bl true))
def uf3 : Y.S := .ret (.call "renamed" [(.var 1), (.dsp []), (.dsp [(.str "seen"), (.dsp []), (.str "all"), (.var 2)])])
theorem ir_uf : ir_unfolded = [uf0, uf1, uf2, uf3] := rfl
def sp_unf : SpD := fun ds S R => ∃ a b s, ds = [Sy.d s] ∧ Wf a b [] [] s ∧ (nms s).Nodup ∧ s.depth ≤ 8 ∧ R (rD (unfR s)) S
theorem unf_go {a b : Int} {s : Sy} {S : Store} {R : DVK} (w : Wf a b [] [] s) (nd : (nms s).Nodup) (hd : s.depth ≤ 8) (h : R (rD (unfR s)) S) : sp_unf [s.d] S R := ⟨a, b, s, rfl, w, nd, hd, h⟩
def cs0 : Y.S := .asg (.name (.one 2)) (.ite (.cmp .eq (.sub (.var 0) (.int 0)) (.str "least")) (.tup [(.str "no")]) (.tup [(.str "yes")]))
def cs1b : List Y.S := [.asg (.name (.one 2)) (.call "put_in" [(.sub (.var 0) (.int 2)), (.sub (.var 0) (.int 1)), (.var 2)]), .ife (.cmp .gt (.call "size_of" [(.var 2)]) (.gv "MOST_SIZE")) [.ret .non] []]
def cs1 : Y.S := .frr (.one 3) (.range (.var 1)) cs1b
def cs2 : Y.S := .asg (.name (.one 4)) (.dc [5] (.one 5) (.seq (.call "all_parts" [(.var 2)])) (some (.cmp .inn (.sub (.var 5) (.int 0)) (.gv "BINDERS"))) (.sub (.var 5) (.int 1)) (.bl true))
def cs3 : Y.S := .ret (.call "renamed" [(.var 2), (.dsp []), (.dsp [(.str "seen"), (.dsp []), (.str "all"), (.var 4)])])
theorem ir_cs : ir_cut_saying = [cs0, cs1, cs2, cs3] := rfl
def sp_cut : SpD := fun ds S R => ∃ a b c x s, ∃ k : Nat, ds = [(Sy.fix c x s).d, .int (k : Nat)] ∧ Wf a b [] [] (.fix c x s) ∧ (nms (.fix c x s)).Nodup ∧ (Sy.fix c x s).depth ≤ 9 ∧ k ≤ 100 ∧ R (rD (cutR c x s k)) S
theorem cut_go {a b : Int} {c : Bool} {x : Int} {s : Sy} {k : Nat} {S : Store} {R : DVK} (w : Wf a b [] [] (.fix c x s)) (nd : (nms (.fix c x s)).Nodup) (hd : (Sy.fix c x s).depth ≤ 9) (hk : k ≤ 100) (h : R (rD (cutR c x s k)) S) : sp_cut [(Sy.fix c x s).d, .int (k : Nat)] S R := ⟨a, b, c, x, s, k, rfl, w, nd, hd, hk, h⟩
theorem fx_sub2 {c : Bool} {i : Int} {x : Sy} {S : Store} {R : DVK} : subW (Sy.fix c i x).d (.int 2) S R = R x.d S := by
  show (∃ v, atD [D.str _, D.int i, x.d] 2 = some v ∧ R v S) = _
  simp
theorem fx_sub1 {c : Bool} {i : Int} {x : Sy} {S : Store} {R : DVK} : subW (Sy.fix c i x).d (.int 1) S R = R (.int i) S := by
  show (∃ v, atD [D.str _, D.int i, x.d] 1 = some v ∧ R v S) = _
  simp
theorem sy_sub0 {s : Sy} {S : Store} {R : DVK} : subW s.d (.int 0) S R = R (.str s.tag) S := by
  rw [Sy.d_eq]
  show (∃ v, atD (D.str s.tag :: s.body) 0 = some v ∧ R v S) = _
  simp
theorem tag_any (t : Sy) : ([D.str "least", D.str "greatest"].any fun z => eqd z (.str t.tag)) = t.isFix := by
  rw [Bool.eq_iff_iff, ← Sy.tag_fix]
  show ((("least" == t.tag) || (("greatest" == t.tag) || false)) = true) ↔ _
  rw [Bool.or_false, Bool.or_eq_true, beq_iff_eq, beq_iff_eq]
  exact ⟨fun q => q.imp Eq.symm Eq.symm, fun q => q.imp Eq.symm Eq.symm⟩
section
variable {Γ : G} {N M : Nat}
theorem size_dep {s : Sy} (h : s.depth ≤ 9) : s.size ≤ 511 := by
  have h1 := size_depth s
  have h2 : 2 ^ s.depth ≤ 2 ^ 9 := Nat.pow_le_pow_right (by omega) h
  omega
theorem w_unf (g1 : Γ.fn "put_in" = sp_put N) (g2 : Γ.fn "renamed" = sp_ren M) (g3 : Γ.fn "all_parts" = sp_all_parts) (v1 : Γ.gv "BINDERS" = some (.tup [.str "least", .str "greatest"])) (hN : 8 ≤ N) (hM : 16 ≤ M) :
    ∀ ds S R, sp_unf ds S R → wss Γ ir_unfolded (ends R) (startD ck_unfolded.N ds) S := by
  rintro _ S R ⟨a, b, s, rfl, w, nd, hd, hR⟩
  rw [ir_uf]
  show ws Γ uf0 ⟨fun σ1 S1 => wss Γ [uf1, uf2, uf3] (ends R) σ1 S1, (ends R).rt⟩ [some s.d, none, none, none] S
  unfold uf0
  rw [x_ife, x_cmp, x_subv, x_var]
  refine ⟨_, rfl, ?_⟩
  rw [x_int, sy_sub0, x_gv]
  refine ⟨_, v1, ?_⟩
  rw [v_notin, v_int]
  refine ⟨by simp, by simp, _, rfl, ?_⟩
  rw [tag_any]
  cases hf : s.isFix with
  | false =>
    rw [Bool.not_false, if_pos rfl]
    have e : unfR s = some s := by
      cases s with
      | fix c x s => cases hf
      | _ => rfl
    rw [e] at hR
    exact ⟨_, rfl, S, .refl, hR⟩
  | true =>
    rw [Bool.not_true, if_neg (by decide)]
    cases s with
    | fix c x s =>
      have wp := put_closed w nd (fix_wfs w nd)
      have dp := put_depth x (.fix c x s) s
      have sz := put_size x (.fix c x s) s
      have hd2 := hd
      simp [Sy.depth] at hd2
      have z1 : (Sy.fix c x s).size ≤ 255 := by
        have h1 := size_depth (Sy.fix c x s)
        have h2 : 2 ^ (Sy.fix c x s).depth ≤ 2 ^ 8 := Nat.pow_le_pow_right (by omega) hd
        omega
      have z2 : s.size ≤ 255 := by rw [size_fix] at z1; omega
      have z3 : s.size * (Sy.fix c x s).size ≤ 255 * 255 := Nat.mul_le_mul z2 z1
      rw [x_ss0]
      show ws Γ uf1 ⟨fun σ1 S1 => wss Γ [uf2, uf3] (ends R) σ1 S1, (ends R).rt⟩ _ S
      unfold uf1
      rw [x_asg, x_call, x_ps, x_subv, x_var]
      refine ⟨_, rfl, ?_⟩
      rw [x_int, fx_sub2, x_ps, x_subv, x_var]
      refine ⟨_, rfl, ?_⟩
      rw [x_int, fx_sub1, x_ps, x_var]
      refine ⟨_, rfl, ?_⟩
      rw [x_ps0, g1]
      refine put_go (by omega) (by omega) ⟨_, rfl, ?_⟩
      show ws Γ uf2 ⟨fun σ1 S1 => wss Γ [uf3] (ends R) σ1 S1, (ends R).rt⟩ [some (Sy.fix c x s).d, some (Sy.put x (.fix c x s) s).d, none, none] S
      unfold uf2
      rw [x_asg]
      refine na_dc g3 v1 (i := 1) (m := 3) rfl (by simp) (by omega) fun q S1 hq l1 e1 => ⟨_, rfl, ?_⟩
      show ws Γ uf3 ⟨fun σ1 S1 => wss Γ [] (ends R) σ1 S1, (ends R).rt⟩ [some (Sy.fix c x s).d, some (Sy.put x (.fix c x s) s).d, some (.loc q), none] S1
      unfold uf3
      rw [x_ret]
      refine na_ren g2 (i := 1) (j := 2) rfl rfl e1 wp (by omega) (by omega) (by omega) fun S2 fr => ?_
      exact ⟨S, fun z o ez => fr z o (Store.ne ez hq) (l1 z o ez), hR⟩
    | _ => cases hf
theorem cut_loop (g1 : Γ.fn "put_in" = sp_put N) (g4 : Γ.fn "size_of" = sp_size_of) (v2 : Γ.gv "MOST_SIZE" = some (.int 40)) (hN : 8 ≤ N) {a b : Int} {c : Bool} {x : Int} {s : Sy} (w : Wf a b [] [] (.fix c x s)) (nd : (nms (.fix c x s)).Nodup) (hd : (Sy.fix c x s).depth ≤ 9) {x1 x4 x5 : Option D} {Z : Ends} {S : Store} : ∀ (L : List D) (m : Nat) (g : Sy) (x3 : Option D), cutT c x s m = some g →
    (∀ g' x3, cutT c x s (m + L.length) = some g' → Z.nx [some (Sy.fix c x s).d, x1, some g'.d, x3, x4, x5] S) → (cutT c x s (m + L.length) = none → Z.rt .non S) → forL (.one 3) (fun _ => True) (wss Γ cs1b) L Z [some (Sy.fix c x s).d, x1, some g.d, x3, x4, x5] S
  | [], m, g, x3, hg, h1, h2 => ⟨trivial, h1 g x3 hg⟩
  | y :: L, m, g, x3, hg, h1, h2 => by
    refine ⟨trivial, _, rfl, ?_⟩
    have hd2 := hd
    simp [Sy.depth] at hd2
    obtain ⟨k1, k2⟩ := cutT_ok w nd m g hg
    have z1 := size_dep hd
    have z2 : s.size ≤ 511 := by rw [size_fix] at z1; omega
    have sz := put_size x g s
    have z3 : s.size * g.size ≤ 511 * 40 := Nat.mul_le_mul z2 k2
    show ws Γ (.asg (.name (.one 2)) (.call "put_in" [(.sub (.var 0) (.int 2)), (.sub (.var 0) (.int 1)), (.var 2)])) ⟨fun σ1 S1 => wss Γ [.ife (.cmp .gt (.call "size_of" [(.var 2)]) (.gv "MOST_SIZE")) [.ret .non] []] _ σ1 S1, _⟩ _ S
    rw [x_asg, x_call, x_ps, x_subv, x_var]
    refine ⟨_, rfl, ?_⟩
    rw [x_int, fx_sub2, x_ps, x_subv, x_var]
    refine ⟨_, rfl, ?_⟩
    rw [x_int, fx_sub1, x_ps, x_var]
    refine ⟨_, rfl, ?_⟩
    rw [x_ps0, g1]
    refine put_go (by omega) (by omega) ⟨_, rfl, ?_⟩
    have e1 : cutT c x s (m + 1) = if (Sy.put x g s).size ≤ 40 then some (Sy.put x g s) else none := by
      rw [cutT, hg]; rfl
    simp [g4, v2]
    refine ⟨by omega, ?_⟩
    by_cases q : (Sy.put x g s).size ≤ 40
    · rw [if_pos q] at e1
      have q2 : ¬ ((40 : Int) < ((Sy.put x g s).size : Nat)) := by omega
      have ln : m + (y :: L).length = m + 1 + L.length := by simp; omega
      rw [ln] at h1 h2
      simp [q2]
      refine ⟨by omega, ?_⟩
      exact cut_loop g1 g4 v2 hN w nd hd L (m + 1) _ _ e1 h1 h2
    · rw [if_neg q] at e1
      refine .inr ⟨by omega, ?_⟩
      refine h2 ?_
      have := cutT_none e1 L.length
      have ln : m + (y :: L).length = m + 1 + L.length := by simp; omega
      rw [ln]
      exact this
theorem w_cut (g1 : Γ.fn "put_in" = sp_put N) (g2 : Γ.fn "renamed" = sp_ren M) (g3 : Γ.fn "all_parts" = sp_all_parts) (g4 : Γ.fn "size_of" = sp_size_of) (v1 : Γ.gv "BINDERS" = some (.tup [.str "least", .str "greatest"])) (v2 : Γ.gv "MOST_SIZE" = some (.int 40)) (hN : 8 ≤ N) (hM : 40 ≤ M) :
    ∀ ds S R, sp_cut ds S R → wss Γ ir_cut_saying (ends R) (startD ck_cut_saying.N ds) S := by
  rintro _ S R ⟨a, b, c, x, s, k, rfl, w, nd, hd, hk, hR⟩
  rw [ir_cs]
  show ws Γ cs0 ⟨fun σ1 S1 => wss Γ [cs1, cs2, cs3] (ends R) σ1 S1, (ends R).rt⟩ [some (Sy.fix c x s).d, some (.int (k : Nat)), none, none, none, none] S
  have st : wss Γ [cs1, cs2, cs3] (ends R) [some (Sy.fix c x s).d, some (.int (k : Nat)), some (Sy.yes (!c)).d, none, none, none] S := by
    show ws Γ cs1 ⟨fun σ1 S1 => wss Γ [cs2, cs3] (ends R) σ1 S1, (ends R).rt⟩ _ S
    simp only [cs1, x_frr, i_rng, x_var]
    refine ⟨_, rfl, (k : Nat), rfl, ⟨by omega, by omega⟩, ?_⟩
    have lr : (rangeD (((k : Nat) : Int).toNat)).length = k := by rw [rangeD_map]; simp
    refine cut_loop g1 g4 v2 hN w nd hd _ 0 (.yes (!c)) none rfl (fun g x3 hg => ?_) (fun hn => ?_)
    · rw [lr, Nat.zero_add] at hg
      obtain ⟨k1, k2⟩ := cutT_ok w nd k g hg
      have dz := depth_size g
      show ws Γ cs2 ⟨fun σ1 S1 => wss Γ [cs3] (ends R) σ1 S1, (ends R).rt⟩ [some (Sy.fix c x s).d, some (.int (k : Nat)), some g.d, x3, none, none] S
      unfold cs2
      rw [x_asg]
      refine na_dc g3 v1 (i := 2) (m := 5) rfl (by simp) (by omega) fun q S1 hq l1 e1 => ⟨_, rfl, ?_⟩
      show ws Γ cs3 ⟨fun σ1 S1 => wss Γ [] (ends R) σ1 S1, (ends R).rt⟩ [some (Sy.fix c x s).d, some (.int (k : Nat)), some g.d, x3, some (.loc q), none] S1
      unfold cs3
      rw [x_ret]
      refine na_ren g2 (i := 2) (j := 4) rfl rfl e1 k1 (by omega) (by omega) (by omega) fun S2 fr => ?_
      have e : cutR c x s k = anew g := by unfold cutR; rw [hg]; rfl
      rw [e] at hR
      exact ⟨S, fun z o ez => fr z o (Store.ne ez hq) (l1 z o ez), hR⟩
    · rw [lr, Nat.zero_add] at hn
      have e : cutR c x s k = none := by unfold cutR; rw [hn]; rfl
      rw [e] at hR
      exact ⟨S, .refl, hR⟩
  cases c with
  | true =>
    simp [cs0, Sy.d, Sy.tag, -x_ss]
    exact st
  | false =>
    simp [cs0, Sy.d, Sy.tag, -x_ss]
    exact st
end
end Y

namespace Y
open PySem PySem.Spec L2
/-! ### which names are told -/
def free2 (A sn : List Int) : List Int := ((List.range 20).map fun k : Nat => (k : Int)).filter fun y => !(decide (y ∈ A)) && !(decide (y ∈ sn))
def nw (A sn : List Int) (i : Int) : Option Int := if i ∈ sn then (free2 A sn).head? else some i
def dueO (A : List Int) : List Int → List Int → Option (List Int)
  | sn, [] => some sn
  | sn, i :: L => (nw A sn i).bind fun j => dueO A (sn ++ [j]) L
theorem dueO_app (A : List Int) : ∀ (L1 sn L2 : List Int), dueO A sn (L1 ++ L2) = (dueO A sn L1).bind fun r => dueO A r L2
  | [], sn, L2 => rfl
  | i :: L1, sn, L2 => by
    show (nw A sn i).bind _ = ((nw A sn i).bind _).bind _
    cases nw A sn i with
    | none => rfl
    | some j => exact dueO_app A L1 (sn ++ [j]) L2
theorem dueO_len (A : List Int) : ∀ (L sn r : List Int), dueO A sn L = some r → r.length = sn.length + L.length
  | [], sn, r, h => by cases h; simp
  | i :: L, sn, r, h => by
    have h : (nw A sn i).bind (fun j => dueO A (sn ++ [j]) L) = some r := h
    cases e : nw A sn i with
    | none => rw [e] at h; cases h
    | some j =>
      rw [e] at h
      have := dueO_len A L (sn ++ [j]) r h
      rw [this]
      simp
      omega
theorem nw_eq {A sn al : List Int} (h : ∀ k, k ∈ al ↔ k ∈ A ∨ k ∈ sn) (i : Int) : newN sn al i = nw A sn i := by
  unfold newN nw
  have e : freeL al = free2 A sn := by
    unfold freeL free2
    refine List.filter_congr fun y _ => ?_
    have q : al.contains y = (decide (y ∈ A) || decide (y ∈ sn)) := by
      rw [Bool.eq_iff_iff, List.contains_iff_mem, h y]
      simp
    rw [q]
    cases decide (y ∈ A) <;> cases decide (y ∈ sn) <;> rfl
  rw [e]
theorem ren_due (A : List Int) : ∀ (s : Sy) (nm : Int → Int) (sn al : List Int), (∀ k, k ∈ al ↔ k ∈ A ∨ k ∈ sn) → (∀ k ∈ sn, k ∈ al) → sn.Nodup →
    (ren s nm sn al).1.map (fun _ => (ren s nm sn al).2.1) = dueO A sn (nms s) ∧ ∀ k, k ∈ (ren s nm sn al).2.2 ↔ k ∈ A ∨ k ∈ (ren s nm sn al).2.1
  | .name i, nm, sn, al, h, sub, nd => ⟨rfl, h⟩
  | .yes b, nm, sn, al, h, sub, nd => ⟨rfl, h⟩
  | .is b i, nm, sn, al, h, sub, nd => ⟨rfl, h⟩
  | .two c l r, nm, sn, al, h, sub, nd => by
    obtain ⟨a1, a2⟩ := ren_due A l nm sn al h sub nd
    obtain ⟨g1, g2, _, _⟩ := ren_grow l nm sn al sub nd
    obtain ⟨b1, b2⟩ := ren_due A r nm _ _ a2 g1 g2
    refine ⟨?_, b2⟩
    rw [nms_two, dueO_app, ← a1]
    simp only [ren]
    cases h1 : (ren l nm sn al).1 with
    | none => rfl
    | some l' =>
      show _ = dueO A (ren l nm sn al).2.1 (nms r)
      rw [← b1]
      cases h2 : (ren r nm (ren l nm sn al).2.1 (ren l nm sn al).2.2).1 with
      | none => rfl
      | some r' => rfl
  | .step c i x, nm, sn, al, h, sub, nd => by
    obtain ⟨a1, a2⟩ := ren_due A x nm sn al h sub nd
    refine ⟨?_, a2⟩
    rw [nms_step, ← a1]
    simp only [ren]
    cases (ren x nm sn al).1 <;> rfl
  | .fix c i x, nm, sn, al, h, sub, nd => by
    rw [nms_fix]
    have e := nw_eq h i
    cases hj : newN sn al i with
    | none =>
      simp only [ren, hj]
      refine ⟨?_, h⟩
      show none = (nw A sn i).bind _
      rw [← e, hj]
      rfl
    | some j =>
      have nj := newN_not sub hj
      have sub' : ∀ k ∈ insL sn j, k ∈ insL al j := fun k h => insL_mem.mpr ((insL_mem.mp h).imp (sub k) id)
      have nd' : (insL sn j).Nodup := by
        rw [insL_new nj, List.nodup_append]
        exact ⟨nd, by simp, fun a ha b hb => by rw [List.mem_singleton.mp hb]; exact fun q => nj (by rw [← q]; exact ha)⟩
      have h' : ∀ k, k ∈ insL al j ↔ k ∈ A ∨ k ∈ insL sn j := fun k => by
        rw [insL_mem, insL_mem, h k, or_assoc]
      obtain ⟨a1, a2⟩ := ren_due A x (nupd nm i j) (insL sn j) (insL al j) h' sub' nd'
      simp only [ren, hj]
      refine ⟨?_, a2⟩
      show _ = (nw A sn i).bind fun j => dueO A (sn ++ [j]) (nms x)
      rw [← e, hj]
      show _ = dueO A (sn ++ [j]) (nms x)
      rw [← insL_new nj, ← a1]
      cases (ren x (nupd nm i j) (insL sn j) (insL al j)).1 <;> rfl
theorem nodup_sub : ∀ (l l' : List Int), l.Nodup → (∀ k ∈ l, k ∈ l') → l.length ≤ l'.length
  | [], _, _, _ => Nat.zero_le _
  | a :: l, l', nd, h => by
    rw [List.nodup_cons] at nd
    have ha := h a List.mem_cons_self
    have := nodup_sub l (l'.erase a) nd.2 fun k hk => (List.mem_erase_of_ne (fun e => nd.1 (by rw [← e]; exact hk))).mpr (h k (List.mem_cons_of_mem _ hk))
    rw [List.length_erase_of_mem ha] at this
    have pos := List.length_pos_of_mem ha
    simp only [List.length_cons]
    omega
theorem range20 : (((List.range 20).map fun k : Nat => (k : Int))).Nodup := by decide
theorem dueO_some (A : List Int) : ∀ (L sn : List Int), (∀ k ∈ A, k ∈ sn ∨ k ∈ L) → sn.length + L.length ≤ 20 → ∃ r, dueO A sn L = some r
  | [], sn, _, _ => ⟨sn, rfl⟩
  | i :: L, sn, h, hl => by
    simp only [List.length_cons] at hl
    have key : ∃ j, nw A sn i = some j ∧ ∀ k ∈ A, k ∈ sn ++ [j] ∨ k ∈ L := by
      unfold nw
      by_cases c : i ∈ sn
      · rw [if_pos c]
        cases e : free2 A sn with
        | cons j r =>
          refine ⟨j, rfl, fun k hk => ?_⟩
          rcases h k hk with q | q
          · exact .inl (List.mem_append.mpr (.inl q))
          · rcases List.mem_cons.mp q with rfl | q
            · exact .inl (List.mem_append.mpr (.inl c))
            · exact .inr q
        | nil =>
          exfalso
          have all : ∀ y ∈ ((List.range 20).map fun k : Nat => (k : Int)), y ∈ sn ++ L := by
            intro y hy
            have := List.filter_eq_nil_iff.mp e y hy
            have q : y ∈ A ∨ y ∈ sn := by
              by_cases q1 : y ∈ A
              · exact .inl q1
              · by_cases q2 : y ∈ sn
                · exact .inr q2
                · simp [q1, q2] at this
            rw [List.mem_append]
            rcases q with q | q
            · rcases h y q with q | q
              · exact .inl q
              · rcases List.mem_cons.mp q with rfl | q
                · exact .inl c
                · exact .inr q
            · exact .inl q
          have := nodup_sub _ _ range20 all
          simp at this
          omega
      · rw [if_neg c]
        refine ⟨i, rfl, fun k hk => ?_⟩
        rcases h k hk with q | q
        · exact .inl (List.mem_append.mpr (.inl q))
        · rcases List.mem_cons.mp q with rfl | q
          · exact .inl (by simp)
          · exact .inr q
    obtain ⟨j, e, h'⟩ := key
    obtain ⟨r, hr⟩ := dueO_some A L (sn ++ [j]) h' (by simp; omega)
    refine ⟨r, ?_⟩
    show (nw A sn i).bind _ = _
    rw [e]
    exact hr
theorem names_mem (s : Sy) (k : Int) : k ∈ namesL s ↔ k ∈ nms s := by
  unfold namesL
  rw [insAll_mem]
  simp
theorem anew_due (s : Sy) : (anew s).map nms = dueO (nms s) [] (nms s) := by
  have h := (ren_due (nms s) s nm0 [] (namesL s) (fun k => by rw [names_mem]; simp) (fun k hk => by cases hk) .nil).1
  rw [← h]
  have g := (ren_grow s nm0 [] (namesL s) (fun k hk => by cases hk) .nil).2.2.2
  unfold anew
  cases e : (ren s nm0 [] (namesL s)).1 with
  | none => rfl
  | some t =>
    show some (nms t) = some _
    rw [g t e, List.nil_append]
theorem nms_rng {a b : Int} : ∀ (s : Sy) {K F : List Int}, Wf a b K F s → ∀ i ∈ nms s, 0 ≤ i ∧ i ≤ 19
  | .yes _, _, _, _, i, h => by cases h
  | .is _ _, _, _, _, i, h => by cases h
  | .name _, _, _, _, i, h => by cases h
  | .two _ l r, _, _, w, i, h => by
    rw [nms_two, List.mem_append] at h
    exact h.elim (nms_rng l w.1 i) (nms_rng r w.2 i)
  | .step _ j x, _, _, w, i, h => by
    rw [nms_step] at h
    exact nms_rng x w.2.2 i h
  | .fix _ j x, _, _, w, i, h => by
    rw [nms_fix, List.mem_cons] at h
    rcases h with rfl | h
    · exact ⟨w.1, w.2.1⟩
    · exact nms_rng x w.2.2 i h
/-- told: at most twenty names, and these -/
theorem anew_some {a b : Int} {s t : Sy} (w : Wfs a b [] [] s) (h : anew s = some t) : (nms s).length ≤ 20 ∧ dueO (nms s) [] (nms s) = some (nms t) := by
  have h1 := anew_due s
  rw [h] at h1
  have h1 : dueO (nms s) [] (nms s) = some (nms t) := h1.symm
  obtain ⟨t1, t2, _⟩ := anew_ok w h
  have hl := dueO_len _ _ _ _ h1
  have := nodup_sub (nms t) ((List.range 20).map fun k : Nat => (k : Int)) t2 fun i hi => by
    have := nms_rng t t1 i hi
    exact List.mem_map.mpr ⟨i.toNat, List.mem_range.mpr (by omega), by omega⟩
  simp at this hl
  exact ⟨by omega, h1⟩
theorem anew_none {s : Sy} (h : anew s = none) : 20 < (nms s).length := by
  have h1 := anew_due s
  rw [h] at h1
  by_cases c : (nms s).length ≤ 20
  · obtain ⟨r, hr⟩ := dueO_some (nms s) (nms s) [] (fun k hk => .inr hk) (by simpa using c)
    rw [hr] at h1
    cases h1
  · omega
/-! the contrary -/
theorem nms_turn : ∀ s : Sy, nms s.turn = nms s
  | .yes _ => rfl
  | .is _ _ => rfl
  | .name _ => rfl
  | .two b l r => by rw [Sy.turn, nms_two, nms_two, nms_turn l, nms_turn r]
  | .step b i x => by rw [Sy.turn, nms_step, nms_step, nms_turn x]
  | .fix b i x => by rw [Sy.turn, nms_fix, nms_fix, nms_turn x]
theorem put_turn (x : Int) (g : Sy) : ∀ s : Sy, Sy.put x g.turn s.turn = (Sy.put x g s).turn
  | .yes _ => rfl
  | .is _ _ => rfl
  | .name i => by
    show (if i = x then g.turn else .name i) = (if i = x then g else .name i).turn
    by_cases c : i = x
    · rw [if_pos c, if_pos c]
    · rw [if_neg c, if_neg c]; rfl
  | .two b l r => by
    show Sy.two (!b) (Sy.put x g.turn l.turn) (Sy.put x g.turn r.turn) = Sy.two (!b) (Sy.put x g l).turn (Sy.put x g r).turn
    rw [put_turn x g l, put_turn x g r]
  | .step b i s => by
    show Sy.step (!b) i (Sy.put x g.turn s.turn) = Sy.step (!b) i (Sy.put x g s).turn
    rw [put_turn x g s]
  | .fix b i s => by
    show Sy.fix (!b) i (Sy.put x g.turn s.turn) = Sy.fix (!b) i (Sy.put x g s).turn
    rw [put_turn x g s]
theorem ren_turn : ∀ (s : Sy) (nm : Int → Int) (sn al : List Int), ren s.turn nm sn al = ((ren s nm sn al).1.map Sy.turn, (ren s nm sn al).2)
  | .yes _, nm, sn, al => rfl
  | .is _ _, nm, sn, al => rfl
  | .name _, nm, sn, al => rfl
  | .two b l r, nm, sn, al => by
    simp only [Sy.turn, ren, ren_turn l, ren_turn r]
    cases (ren l nm sn al).1 with
    | none => rfl
    | some l' => cases (ren r nm (ren l nm sn al).2.1 (ren l nm sn al).2.2).1 <;> rfl
  | .step b i x, nm, sn, al => by
    simp only [Sy.turn, ren, ren_turn x]
    cases (ren x nm sn al).1 <;> rfl
  | .fix b i x, nm, sn, al => by
    simp only [Sy.turn, ren]
    cases newN sn al i with
    | none => rfl
    | some j =>
      simp only [ren_turn x]
      cases (ren x (nupd nm i j) (insL sn j) (insL al j)).1 <;> rfl
theorem anew_turn (s : Sy) : anew s.turn = (anew s).map Sy.turn := by
  unfold anew namesL
  rw [nms_turn, ren_turn]
theorem unf_turn (s : Sy) : unfR s.turn = (unfR s).map Sy.turn := by
  cases s with
  | fix c x s =>
    show anew (Sy.put x (Sy.fix c x s).turn s.turn) = (anew (Sy.put x (.fix c x s) s)).map Sy.turn
    rw [put_turn, anew_turn]
  | _ => rfl
/-- what is unfolded holds where it held -/
theorem unf_den {W : Wd} {a b : Int} (hW : WOk a b W) {c : Bool} {x : Int} {s t : Sy} (w : Wf a b [] [] (.fix c x s)) (nd : (nms (.fix c x s)).Nodup) (h : unfR (.fix c x s) = some t) : EqP W.n (den W t e0) (den W (.fix c x s) e0) := by
  have wp := put_closed w nd (fix_wfs w nd)
  obtain ⟨w1, w2, w3, w4⟩ := fix_parts w nd
  have ws := wfs_of s w1 w2 w4
  refine (anew_den hW wp h).symm.trans ?_
  refine (put_den hW (fix_wfs w nd) s [x] [] e0 ws w3).trans ?_
  exact (rnd_rest (K := []) (c := c) (e := e0) hW w.2.2).symm
end Y

namespace Y
open PySem PySem.Spec L2
/-! ### _law_names -/
def sp_lnames (n : Nat) : SpD := fun ds S R => ∃ s : Sy, ds = [s.d] ∧ s.depth ≤ n ∧ s.size ≤ 100000 ∧ newW (.lst ((nms s).map D.int)) S R
@[simp] theorem sp_lnames_app {n : Nat} {s : Sy} {S : Store} {R : DVK} : sp_lnames n [s.d] S R = (s.depth ≤ n ∧ s.size ≤ 100000 ∧ newW (.lst ((nms s).map D.int)) S R) := by
  show (∃ s' : Sy, [s.d] = [s'.d] ∧ s'.depth ≤ n ∧ s'.size ≤ 100000 ∧ newW (.lst ((nms s').map D.int)) S R) = _
  refine propext ⟨fun ⟨s', e, h⟩ => ?_, fun h => ⟨s, rfl, h⟩⟩
  have e : s.d = s'.d := by simpa using e
  rw [sy_inj e]
  exact h
theorem kin_nms (s : Sy) : nms s = (if s.isFix = true then [s.arg] else []) ++ s.kin.flatMap nms := by
  unfold nms
  rw [fixes_kin s, List.map_append, List.map_flatMap]
  split <;> rfl
theorem nms_szl (s : Sy) : (nms s).length ≤ s.size := by
  unfold nms
  rw [List.length_map]
  exact fixes_len s
def lnb : List Y.S := [.asg (.name (.one 1)) (.op .add (.var 1) (.call "_law_names" [(.var 2)]))]
theorem ir_lnm : ir__law_names = [.asg (.name (.one 1)) (.ite (.cmp .inn (.sub (.var 0) (.int 0)) (.tup [(.str "least"), (.str "greatest")])) (.lst [(.sub (.var 0) (.int 1))]) (.lst [])), .frr (.one 2) (.seq (.call "_law_parts" [(.var 0)])) lnb, .ret (.var 1)] := rfl
theorem lnm_loop {Γ : G} {n : Nat} (g2 : Γ.fn "_law_names" = sp_lnames n) {Z : Ends} {S0 : Store} {v0 : Option D} (N : Nat) (hN : N ≤ 100000) : ∀ (T : List Sy) (Dn : List Int) (x2 : Option D) (S : Store) (p : Addr), (∀ t ∈ T, t.depth ≤ n) → (Dn ++ T.flatMap nms).length ≤ N → (T.map Sy.size).sum ≤ N → Le S0 S → S p = some (.lst (Dn.map D.int)) → S0 p = none →
    (∀ x2' p' S', Le S0 S' → S0 p' = none → S' p' = some (.lst ((Dn ++ T.flatMap nms).map D.int)) → Z.nx [v0, some (.loc p'), x2'] S') →
    forL (.one 2) (fun _ => True) (wss Γ lnb) (T.map Sy.d) Z [v0, some (.loc p), x2] S
  | [], Dn, x2, S, p, hT, hl, hs, l, e, hp, h => by
    simp
    exact h _ _ _ l hp (by simpa using e)
  | t :: T, Dn, x2, S, p, hT, hl, hs, l, e, hp, h => by
    rw [List.map_cons, List.sum_cons] at hs
    simp [lnb, g2]
    refine ⟨hT t List.mem_cons_self, by omega, fun q hq => ⟨_, (Store.upd_ne (Store.ne e hq)).trans e, ?_⟩⟩
    rw [v_addl2]
    refine ⟨_, up_same, ?_⟩
    rw [v_addl3]
    rw [List.flatMap_cons, ← List.append_assoc] at hl
    refine ⟨line_le (by simp at hl ⊢; omega), ?_⟩
    rw [v_new]
    intro r hr
    rw [Store.upd_none] at hr
    refine lnm_loop g2 N hN T (Dn ++ nms t) _ _ r (fun t' h' => hT t' (List.mem_cons_of_mem _ h')) hl (by omega) ((l.trans (Le.new hq)).trans (Le.new (by rw [Store.upd_none]; exact hr))) (by rw [Store.upd_same, List.map_append]) (l.none hr.2) fun x2' p' S' l' h0 e' => h x2' p' S' l' h0 ?_
    rw [e']
    simp
theorem w_lnames {Γ : G} {n : Nat} (g1 : Γ.fn "_law_parts" = sp_parts_of) (g2 : Γ.fn "_law_names" = sp_lnames n) : ∀ ds S R, sp_lnames (n + 1) ds S R → wss Γ ir__law_names (ends R) (startD ck__law_names.N ds) S := by
  rintro _ S R ⟨s, rfl, hd, hs, hR⟩
  rw [ir_lnm]
  have hk := size_kin s
  have hl : ∀ L : List Sy, (L.flatMap nms).length ≤ (L.map Sy.size).sum := by
    intro L
    induction L with
    | nil => simp
    | cons a L ih =>
      have := nms_szl a
      simp at ih ⊢
      omega
  have hl2 := hl s.kin
  have go : ∀ (Dn : List Int) (p : Addr), S p = none → nms s = Dn ++ s.kin.flatMap nms → Dn.length ≤ 1 → forL (.one 2) (fun _ => True) (wss Γ lnb) (s.kin.map Sy.d) ⟨fun σ2 S2 => ∃ d, σ2[1]? = some (some d) ∧ ∃ S'', Le S'' S2 ∧ R d S'', fun v S2 => (ends R).rt v S2⟩ [some s.d, some (.loc p), none] (S.upd p (.lst (Dn.map D.int))) := by
    intro Dn p hp he hDn
    refine lnm_loop g2 100000 (by omega) s.kin Dn _ _ p (fun t ht => kin_depth ht hd) (by rw [List.length_append]; omega) (by omega) (Le.new hp) up_same hp fun x2' p' S' l h0 e' => ⟨_, rfl, ?_⟩
    refine ⟨_, l.put e', ?_⟩
    rw [← he]
    exact hR p' h0
  have e := kin_nms s
  by_cases c : s.isFix = true
  · rw [if_pos c] at e
    have f1 : ∀ R : DVK, ∀ S, subW s.d (.int 1) S R = R (.int s.arg) S := fun R S => by
      cases s with
      | fix cc x t => exact fx_sub1
      | _ => cases c
    simp [startD, ck__law_names, g1, c, f1]
    exact fun p hp => go [s.arg] p hp e (by simp)
  · rw [if_neg c] at e
    simp [startD, ck__law_names, g1, c]
    exact fun p hp => go [] p hp e (by simp)
end Y

namespace Y
open PySem PySem.Spec L2
/-! ### the law of unfolding -/
def ir_law : List S := [
  .asg (.name (.one 1)) (.call "_law_pool" [(.var 0)]),
  .asg (.name (.one 2)) (.call "_law_land" [(.var 1)]),
  .asg (.name (.one 3)) (.call "_law_drawn" [(.var 1), (.var 2), (.int 3)]),
  .asg (.name (.one 4)) (.call "unfolded" [(.var 3)]),
  .ife (.cmp .notin (.sub (.var 3) (.int 0)) (.tup [(.str "least"), (.str "greatest")])) [.ret (.cmp .eq (.var 4) (.var 3))] [],
  .asg (.name (.one 5)) (.call "_law_put" [(.sub (.var 3) (.int 2)), (.sub (.var 3) (.int 1)), (.var 3)]),
  .asg (.name (.one 6)) (.call "_law_names" [(.var 5)]),
  .ife (.cmp .isn (.var 4) .non) [.ret (.cmp .gt (.bi .len [(.var 6)]) (.int 20))] [],
  .ife (.bop false [(.cmp .ne (.call "size_of" [(.var 4)]) (.call "_law_size" [(.var 5)])), (.cmp .gt (.bi .len [(.var 6)]) (.int 20))]) [.ret (.bl false)] [],
  .asg (.name (.one 7)) (.lst []),
  .frr (.one 8) (.seq (.var 6)) [.ife (.cmp .inn (.var 8) (.var 7)) [.asg (.name (.one 8)) (.sub (.lc [10] (.one 10) (.range (.int 20)) (some (.bop true [(.cmp .notin (.var 10) (.var 6)), (.cmp .notin (.var 10) (.var 7))])) (.var 10)) (.int 0))] [], .ex (.mt .append (.var 7) [(.var 8)])],
  .ife (.cmp .ne (.call "_law_names" [(.var 4)]) (.var 7)) [.ret (.bl false)] [],
  .ife (.bop true [(.cmp .lt (.call "_law_size" [(.var 4)]) (.int 41)), (.not (.call "is_saying" [(.var 2), (.var 4)]))]) [.ret (.bl false)] [],
  .asg (.name (.one 9)) (.call "_law_world" [(.var 1), (.var 2), (.int 4)]),
  .ife (.bop false [(.cmp .ne (.call "places_where" [(.var 9), (.var 4)]) (.call "places_where" [(.var 9), (.var 3)])), (.cmp .ne (.bi .tuple [(.call "_law_where" [(.var 9), (.var 4), (.dsp [])])]) (.call "places_where" [(.var 9), (.var 3)]))]) [.ret (.bl false)] [],
  .ret (.cmp .eq (.call "unfolded" [(.call "against" [(.var 3)])]) (.call "against" [(.var 4)]))]
def ck_law : Ck := ⟨["script", "pool", "land", "f", "told", "whole", "names", "due", "x", "world", "y"], [("_law_pool", 1), ("_law_land", 1), ("_law_drawn", 3), ("unfolded", 1), ("_law_put", 3), ("_law_names", 1), ("_law_world", 3), ("against", 1), ("size_of", 1), ("_law_size", 1), ("is_saying", 2), ("places_where", 2), ("_law_where", 3)], [], [], false⟩
def lc0 : Y.S := .asg (.name (.one 1)) (.call "_law_pool" [(.var 0)])
def lc1 : Y.S := .asg (.name (.one 2)) (.call "_law_land" [(.var 1)])
def lc2 : Y.S := .asg (.name (.one 3)) (.call "_law_drawn" [(.var 1), (.var 2), (.int 3)])
def lc3 : Y.S := .asg (.name (.one 4)) (.call "unfolded" [(.var 3)])
def lc4 : Y.S := .ife (.cmp .notin (.sub (.var 3) (.int 0)) (.tup [(.str "least"), (.str "greatest")])) [.ret (.cmp .eq (.var 4) (.var 3))] []
def lc5 : Y.S := .asg (.name (.one 5)) (.call "_law_put" [(.sub (.var 3) (.int 2)), (.sub (.var 3) (.int 1)), (.var 3)])
def lc6 : Y.S := .asg (.name (.one 6)) (.call "_law_names" [(.var 5)])
def lc7 : Y.S := .ife (.cmp .isn (.var 4) .non) [.ret (.cmp .gt (.bi .len [(.var 6)]) (.int 20))] []
def lc8 : Y.S := .ife (.bop false [(.cmp .ne (.call "size_of" [(.var 4)]) (.call "_law_size" [(.var 5)])), (.cmp .gt (.bi .len [(.var 6)]) (.int 20))]) [.ret (.bl false)] []
def lc9 : Y.S := .asg (.name (.one 7)) (.lst [])
def lc10b : List Y.S := [.ife (.cmp .inn (.var 8) (.var 7)) [.asg (.name (.one 8)) (.sub (.lc [10] (.one 10) (.range (.int 20)) (some (.bop true [(.cmp .notin (.var 10) (.var 6)), (.cmp .notin (.var 10) (.var 7))])) (.var 10)) (.int 0))] [], .ex (.mt .append (.var 7) [(.var 8)])]
def lc10 : Y.S := .frr (.one 8) (.seq (.var 6)) lc10b
def lc11 : Y.S := .ife (.cmp .ne (.call "_law_names" [(.var 4)]) (.var 7)) [.ret (.bl false)] []
def lc12 : Y.S := .ife (.bop true [(.cmp .lt (.call "_law_size" [(.var 4)]) (.int 41)), (.not (.call "is_saying" [(.var 2), (.var 4)]))]) [.ret (.bl false)] []
def lc13 : Y.S := .asg (.name (.one 9)) (.call "_law_world" [(.var 1), (.var 2), (.int 4)])
def lc14 : Y.S := .ife (.bop false [(.cmp .ne (.call "places_where" [(.var 9), (.var 4)]) (.call "places_where" [(.var 9), (.var 3)])), (.cmp .ne (.bi .tuple [(.call "_law_where" [(.var 9), (.var 4), (.dsp [])])]) (.call "places_where" [(.var 9), (.var 3)]))]) [.ret (.bl false)] []
def lc15 : Y.S := .ret (.cmp .eq (.call "unfolded" [(.call "against" [(.var 3)])]) (.call "against" [(.var 4)]))
theorem ir_lc : ir_law = [lc0, lc1, lc2, lc3, lc4, lc5, lc6, lc7, lc8, lc9, lc10, lc11, lc12, lc13, lc14, lc15] := rfl
abbrev lwU (x0 : Option D) (p : Addr) (a b : Int) (f : D) (x4 x5 x6 x7 x8 x9 : Option D) : DSt :=
  [x0, some (.loc p), some (.tup [.int a, .int b]), some f, x4, x5, x6, x7, x8, x9, none]
structure LawG (Γ : G) : Prop where
  pool : Γ.fn "_law_pool" = sp_pool
  land : Γ.fn "_law_land" = sp_land
  drawn : Γ.fn "_law_drawn" = sp_drawn 20
  unf : Γ.fn "unfolded" = sp_unf
  put : Γ.fn "_law_put" = sp_put 20
  lnm : Γ.fn "_law_names" = sp_lnames 20
  world : Γ.fn "_law_world" = sp_world
  against : Γ.fn "against" = sp_against 20
  size : Γ.fn "size_of" = sp_size_of
  lsize : Γ.fn "_law_size" = sp_lsize 20
  say : Γ.fn "is_saying" = sp_is_saying
  pw : Γ.fn "places_where" = sp_pw 45
  wh : Γ.fn "_law_where" = sp_where 45
theorem drawn_go {n : Nat} {p c : Addr} {a b deep : Int} {S : Store} {R : DVK} (h1 : 2 ≤ deep) (h2 : deep + 1 < n) (h3 : n ≤ 100) (ha : 0 < a) (ha2 : a < 1000) (hb : 0 < b) (hb2 : b < 1000) (hp : Pool S p c) (h : ∀ s S', Wf a b [] [] s → (s.fixes.map Sy.arg).Nodup → s.depth ≤ deep.toNat + 4 → Dr p c S S' → R s.d S') :
    sp_drawn n [.loc p, .tup [.int a, .int b], .int deep] S R := ⟨p, c, a, b, deep, rfl, h1, h2, h3, ha, ha2, hb, hb2, hp, h⟩
theorem eq_sy {t : Sy} {S : Store} {B : Bool → Store → Prop} (hd : t.depth ≤ 90) (h : B true S) : cmpW .eq t.d t.d S B := eq_same (pl_sy t (by omega)) h
theorem isn_sy {t : Sy} {S : Store} {B : Bool → Store → Prop} (h : B false S) : cmpW .isn t.d .non S B := by
  rw [v_isn]
  have : ¬ t.d = .non := by rw [Sy.d_eq]; exact fun e => by cases e
  rw [decide_eq_false this]
  exact h
theorem rD_some {t : Sy} : rD (some t) = t.d := rfl
theorem eq_row {L : List Nat} {S : Store} {B : Bool → Store → Prop} (h : B true S) : cmpW .eq (rowD L) (rowD L) S B := eq_same (show D.pls 99 (natD L) = true from pls_nat 99 L) h
theorem wf_turned {a b : Int} : ∀ {s : Sy} {K F : List Int}, Wf a b K F s → Wf a b K F s.turn := by
  intro s
  induction s with
  | yes c => exact fun h => h
  | is c i => exact fun h => h
  | name i => exact fun h => h
  | two c l r i1 i2 => exact fun h => ⟨i1 h.1, i2 h.2⟩
  | step c j x ih => exact fun h => ⟨h.1, h.2.1, ih h.2.2⟩
  | fix c j x ih => exact fun h => ⟨h.1, h.2.1, ih h.2.2⟩
section
variable {Γ : G} {Z : Ends} {S : Store} {p c : Addr} {a b : Int} {x0 : Option D} {R : DVK}
theorem law_a (g : LawG Γ) {ns : List Int} (hn : ns.length ≤ 1000000) (hR : ∀ S', R (.bl true) S') (k : ∀ p c a b cc x s S', 1 ≤ a → a ≤ 3 → 1 ≤ b → b ≤ 2 → Wf a b [] [] (.fix cc x s) → (nms (.fix cc x s)).Nodup → (Sy.fix cc x s).depth ≤ 7 → Pool S' p c →
      wss Γ [lc5, lc6, lc7, lc8, lc9, lc10, lc11, lc12, lc13, lc14, lc15] (ends R) (lwU (some (.scr ns)) p a b (Sy.fix cc x s).d (some (rD (unfR (.fix cc x s)))) none none none none none) S') :
    wss Γ [lc0, lc1, lc2, lc3, lc4, lc5, lc6, lc7, lc8, lc9, lc10, lc11, lc12, lc13, lc14, lc15] (ends R) [some (.scr ns), none, none, none, none, none, none, none, none, none, none] S := by
  show wss Γ [lc0, lc1] ⟨fun σ1 S1 => wss Γ [lc2, lc3, lc4, lc5, lc6, lc7, lc8, lc9, lc10, lc11, lc12, lc13, lc14, lc15] (ends R) σ1 S1, (ends R).rt⟩ _ S
  simp [lc0, lc1, g.pool, g.land]
  refine ⟨ns, rfl, hn, fun p c S0 hp hc l pl => ?_⟩
  refine ⟨p, c, rfl, pl, fun a b S1 a1 a3 b1 b2 d1 => ?_⟩
  show ws Γ lc2 ⟨fun σ1 S1 => wss Γ [lc3, lc4, lc5, lc6, lc7, lc8, lc9, lc10, lc11, lc12, lc13, lc14, lc15] (ends R) σ1 S1, (ends R).rt⟩ _ S1
  simp [lc2, g.drawn, -x_ss]
  refine drawn_go (by omega) (by omega) (by omega) (by omega) (by omega) (by omega) (by omega) d1.pool fun s S2 w nd dp d2 => ?_
  have dp : s.depth ≤ 7 := by omega
  show ws Γ lc3 ⟨fun σ1 S1 => wss Γ [lc4, lc5, lc6, lc7, lc8, lc9, lc10, lc11, lc12, lc13, lc14, lc15] (ends R) σ1 S1, (ends R).rt⟩ (lwU (some (.scr ns)) p a b s.d none none none none none none) S2
  unfold lc3
  rw [x_asg, x_call, x_ps, x_var]
  refine ⟨_, rfl, ?_⟩
  rw [x_ps0, g.unf]
  refine unf_go w nd (by omega) ⟨_, rfl, ?_⟩
  show ws Γ lc4 ⟨fun σ1 S1 => wss Γ [lc5, lc6, lc7, lc8, lc9, lc10, lc11, lc12, lc13, lc14, lc15] (ends R) σ1 S1, (ends R).rt⟩ (lwU (some (.scr ns)) p a b s.d (some (rD (unfR s))) none none none none none) S2
  unfold lc4
  rw [x_ife, x_cmp, x_subv, x_var]
  refine ⟨_, rfl, ?_⟩
  rw [x_int, sy_sub0, x_tup, x_ps, x_str, x_ps, x_str, x_ps0]
  refine ⟨by simp, ?_⟩
  rw [v_notin, v_int]
  refine ⟨by simp, by simp, _, rfl, ?_⟩
  rw [tag_any]
  cases hf : s.isFix with
  | true =>
    rw [Bool.not_true, if_neg (by decide)]
    cases s with
    | fix cc x s => exact k p c a b cc x s S2 a1 a3 b1 b2 w nd dp d2.pool
    | _ => cases hf
  | false =>
    rw [Bool.not_false, if_pos rfl]
    have e : unfR s = some s := by
      cases s with
      | fix c x s => cases hf
      | _ => rfl
    rw [e, rD_some]
    show wp Γ (.cmp .eq (.var 4) (.var 3)) _ S2 _
    rw [x_cmp, x_var]
    refine ⟨_, rfl, ?_⟩
    rw [x_var]
    refine ⟨_, rfl, ?_⟩
    exact eq_sy (by omega) ⟨S2, .refl, hR S2⟩
/-! the names due -/
theorem due_go {q d : Addr} {A : List Int} {f x4 x5 : Option D} {cl : Addr} : ∀ (L sn r : List Int) (x8 : Option D) (S : Store), dueO A sn L = some r → sn.length + L.length ≤ 100 → S q = some (.lst (A.map D.int)) → S d = some (.lst (sn.map D.int)) → d ≠ q → Pool S p cl → d ≠ p → d ≠ cl →
    (∀ x8 S', S' q = some (.lst (A.map D.int)) → S' d = some (.lst (r.map D.int)) → Pool S' p cl → Z.nx [x0, some (.loc p), some (.tup [.int a, .int b]), f, x4, x5, some (.loc q), some (.loc d), x8, none, none] S') →
    forL (.one 8) (fun S2 => S2 q = some (.lst (A.map D.int))) (wss Γ lc10b) (L.map D.int) Z [x0, some (.loc p), some (.tup [.int a, .int b]), f, x4, x5, some (.loc q), some (.loc d), x8, none, none] S
  | [], sn, r, x8, S, hr, hl, eq, ed, n1, hp, n2, n3, h => ⟨eq, h x8 S eq (by cases hr; exact ed) hp⟩
  | i :: L, sn, r, x8, S, hr, hl, eq, ed, n1, hp, n2, n3, h => by
    refine ⟨eq, _, rfl, ?_⟩
    have hr : (nw A sn i).bind (fun j => dueO A (sn ++ [j]) L) = some r := hr
    simp only [List.length_cons] at hl
    have app : ∀ (j : Int) (S1 : Store), dueO A (sn ++ [j]) L = some r → S1 q = some (.lst (A.map D.int)) → S1 d = some (.lst (sn.map D.int)) → Pool S1 p cl → ws Γ (.ex (.mt .append (.var 7) [(.var 8)])) ⟨fun σ1 S1 => wss Γ [] ⟨fun σ2 S2 => forL (.one 8) (fun S2 => S2 q = some (.lst (A.map D.int))) (wss Γ lc10b) (L.map D.int) Z σ2 S2, Z.rt⟩ σ1 S1, Z.rt⟩ [x0, some (.loc p), some (.tup [.int a, .int b]), f, x4, x5, some (.loc q), some (.loc d), some (.int j), none, none] S1 := by
      intro j S1 hj eq1 ed1 hp1
      rw [x_ex, x_mt, x_var]
      refine ⟨_, rfl, ⟨_, ed1, rfl⟩, ?_⟩
      rw [x_ps, x_var]
      refine ⟨_, rfl, ?_⟩
      rw [x_ps0, v_app]
      refine ⟨_, ed1, ?_⟩
      rw [v_appo]
      refine ⟨line_lt (by simp; omega), ?_⟩
      have e2 : sn.map D.int ++ [D.int j] = (sn ++ [j]).map D.int := by simp
      rw [e2]
      exact due_go L (sn ++ [j]) r _ _ hj (by simp; omega) ((Store.upd_ne (fun z => n1 z.symm)).trans eq1) up_same n1 (hp1.upd n2 n3) n2 n3 h
    show ws Γ (.ife (.cmp .inn (.var 8) (.var 7)) _ []) ⟨fun σ1 S1 => wss Γ [.ex (.mt .append (.var 7) [(.var 8)])] _ σ1 S1, _⟩ _ S
    rw [x_ife, x_cmp, x_var]
    refine ⟨_, rfl, ?_⟩
    rw [x_var]
    refine ⟨_, rfl, ?_⟩
    rw [v_inl]
    refine ⟨_, ed, ?_⟩
    rw [v_inol]
    refine ⟨by simp, pls_ints _ _, ?_⟩
    refine ⟨_, rfl, ?_⟩
    rw [any_ints]
    by_cases hc : i ∈ sn
    · rw [if_pos (List.contains_iff_mem.mpr hc)]
      have en : nw A sn i = (free2 A sn).head? := if_pos hc
      rw [en] at hr
      cases ef : free2 A sn with
      | nil => rw [ef] at hr; cases hr
      | cons j rest =>
        rw [ef] at hr
        have hr : dueO A (sn ++ [j]) L = some r := hr
        show ws Γ (.asg (.name (.one 8)) (.sub (.lc [10] (.one 10) (.range (.int 20)) (some (.bop true [(.cmp .notin (.var 10) (.var 6)), (.cmp .notin (.var 10) (.var 7))])) (.var 10)) (.int 0))) ⟨fun σ1 S1 => wss Γ [] _ σ1 S1, _⟩ _ S
        rw [x_asg]
        show wp Γ (.lc [10] (.one 10) (.range (.int 20)) (some (.bop true [(.cmp .notin (.var 10) (.var 6)), (.cmp .notin (.var 10) (.var 7))])) (.var 10)) _ S (fun x S1 => wp Γ (.int 0) _ S1 fun y S2 => subW x y S2 _)
        rw [x_lct, i_rng, x_int]
        refine ⟨20, rfl, ⟨by omega, by omega⟩, fun t ht => ?_⟩
        have rn : rangeD (20 : Int).toNat = (List.range 20).map fun k : Nat => D.int (k : Nat) := by rw [rng_eq]; rfl
        rw [rn]
        have nq : q ≠ t := Store.ne eq ht
        have ndd : d ≠ t := Store.ne ed ht
        refine lc_ints (L := List.range 20) (fun k : Nat => if (!(decide ((k : Int) ∈ A)) && !(decide ((k : Int) ∈ sn))) = true then some (D.int (k : Nat)) else none) (by simp) (fun _ => trivial) (fun k hk ys cc2 hcc => ?_) ?_
        · refine ⟨_, rfl, ?_⟩
          have eq1 : (S.upd t (.lst ys)) q = some (.lst (A.map D.int)) := (Store.upd_ne nq).trans eq
          have ed1 : (S.upd t (.lst ys)) d = some (.lst (sn.map D.int)) := (Store.upd_ne ndd).trans ed
          rw [x_cs, x_bop, x_pa, x_cmp, x_var]
          refine ⟨_, rfl, ?_⟩
          rw [x_var]
          refine ⟨_, rfl, ?_⟩
          rw [v_notin, v_inl]
          refine ⟨_, eq1, ?_⟩
          rw [v_inol]
          refine ⟨by simp, pls_ints _ _, _, rfl, ?_⟩
          rw [any_ints]
          have c1 : A.contains (k : Int) = decide ((k : Int) ∈ A) := by rw [Bool.eq_iff_iff, List.contains_iff_mem]; simp
          rw [c1]
          cases h1 : decide ((k : Int) ∈ A) with
          | true =>
            rw [h1] at hcc
            rw [Bool.not_true, if_neg (by decide)]
            exact ⟨_, rfl, hcc⟩
          | false =>
            rw [h1] at hcc
            rw [Bool.not_false, if_pos rfl, x_pa1, x_cmp, x_var]
            refine ⟨_, rfl, ?_⟩
            rw [x_var]
            refine ⟨_, rfl, ?_⟩
            rw [v_notin, v_inl]
            refine ⟨_, ed1, ?_⟩
            rw [v_inol]
            refine ⟨by simp, pls_ints _ _, _, rfl, ?_⟩
            rw [any_ints]
            have c2 : sn.contains (k : Int) = decide ((k : Int) ∈ sn) := by rw [Bool.eq_iff_iff, List.contains_iff_mem]; simp
            rw [c2]
            cases h2 : decide ((k : Int) ∈ sn) with
            | true =>
              rw [h2] at hcc
              exact hcc
            | false =>
              rw [h2] at hcc
              exact ⟨_, rfl, hcc⟩
        · have ef2 : ((List.range 20).filterMap fun k : Nat => if (!(decide ((k : Int) ∈ A)) && !(decide ((k : Int) ∈ sn))) = true then some (D.int (k : Nat)) else none) = (free2 A sn).map D.int := by
            unfold free2
            generalize List.range 20 = L0
            induction L0 with
            | nil => rfl
            | cons y L0 ih =>
              rw [List.filterMap_cons, List.map_cons, List.filter_cons]
              cases hb : (!(decide ((y : Int) ∈ A)) && !(decide ((y : Int) ∈ sn))) with
              | true => simp only [if_pos]; rw [ih]; rfl
              | false => simp only [Bool.false_eq_true, if_false]; exact ih
          rw [ef2, ef, x_int, v_ixl]
          refine ⟨_, up_same, ?_⟩
          rw [v_ixol]
          refine ⟨.int j, by rw [show (0 : Int) = ((0 : Nat) : Int) from rfl, atD_nat]; rfl, _, rfl, ?_⟩
          exact app j _ hr ((Store.upd_ne nq).trans eq) ((Store.upd_ne ndd).trans ed) (hp.le (Le.new ht))
    · have hcf : sn.contains i = false := by
        cases h1 : sn.contains i with
        | false => rfl
        | true => exact absurd (List.contains_iff_mem.mp h1) hc
      rw [hcf, if_neg (by decide), x_ss0]
      have en : nw A sn i = some i := if_neg hc
      rw [en] at hr
      exact app i S hr eq ed hp
end
end Y

namespace Y
open PySem PySem.Spec L2
section
variable {Γ : G} {Z : Ends} {S : Store} {p c : Addr} {a b : Int} {x0 : Option D} {R : DVK} {cc : Bool} {x : Int} {s : Sy}
theorem whole_ok (w : Wf a b [] [] (.fix cc x s)) (nd : (nms (.fix cc x s)).Nodup) (hd : (Sy.fix cc x s).depth ≤ 7) : Wfs a b [] [] (Sy.put x (.fix cc x s) s) ∧ (Sy.put x (.fix cc x s) s).depth ≤ 13 ∧ (Sy.put x (.fix cc x s) s).size ≤ 16129 := by
  have dp := put_depth x (.fix cc x s) s
  have sz := put_size x (.fix cc x s) s
  have hd2 := hd
  simp [Sy.depth] at hd2
  have z1 : (Sy.fix cc x s).size ≤ 127 := by
    have h1 := size_depth (Sy.fix cc x s)
    have h2 : 2 ^ (Sy.fix cc x s).depth ≤ 2 ^ 7 := Nat.pow_le_pow_right (by omega) hd
    omega
  have z2 : s.size ≤ 127 := by rw [size_fix] at z1; omega
  have z3 : s.size * (Sy.fix cc x s).size ≤ 127 * 127 := Nat.mul_le_mul z2 z1
  exact ⟨put_closed w nd (fix_wfs w nd), by omega, by omega⟩
theorem law_b (g : LawG Γ) (w : Wf a b [] [] (.fix cc x s)) (nd : (nms (.fix cc x s)).Nodup) (hd : (Sy.fix cc x s).depth ≤ 7) (hp : Pool S p c) (hR : ∀ S', R (.bl true) S') (k : ∀ t q S', unfR (.fix cc x s) = some t → Pool S' p c → S' q = some (.lst ((nms (Sy.put x (.fix cc x s) s)).map D.int)) →
      wss Γ [lc9, lc10, lc11, lc12, lc13, lc14, lc15] (ends R) (lwU x0 p a b (Sy.fix cc x s).d (some t.d) (some (Sy.put x (.fix cc x s) s).d) (some (.loc q)) none none none) S') :
    wss Γ [lc5, lc6, lc7, lc8, lc9, lc10, lc11, lc12, lc13, lc14, lc15] (ends R) (lwU x0 p a b (Sy.fix cc x s).d (some (rD (unfR (.fix cc x s)))) none none none none none) S := by
  obtain ⟨w1, w2, w3⟩ := whole_ok w nd hd
  have hd2 := hd
  simp [Sy.depth] at hd2
  show ws Γ lc5 ⟨fun σ1 S1 => wss Γ [lc6, lc7, lc8, lc9, lc10, lc11, lc12, lc13, lc14, lc15] (ends R) σ1 S1, (ends R).rt⟩ _ S
  unfold lc5
  rw [x_asg, x_call, x_ps, x_subv, x_var]
  refine ⟨_, rfl, ?_⟩
  rw [x_int, fx_sub2, x_ps, x_subv, x_var]
  refine ⟨_, rfl, ?_⟩
  rw [x_int, fx_sub1, x_ps, x_var]
  refine ⟨_, rfl, ?_⟩
  rw [x_ps0, g.put]
  refine put_go (by omega) (by omega) ⟨_, rfl, ?_⟩
  show ws Γ lc6 ⟨fun σ1 S1 => wss Γ [lc7, lc8, lc9, lc10, lc11, lc12, lc13, lc14, lc15] (ends R) σ1 S1, (ends R).rt⟩ (lwU x0 p a b (Sy.fix cc x s).d (some (rD (unfR (.fix cc x s)))) (some (Sy.put x (.fix cc x s) s).d) none none none none) S
  unfold lc6
  rw [x_asg, x_call, x_ps, x_var]
  refine ⟨_, rfl, ?_⟩
  rw [x_ps0, g.lnm, sp_lnames_app]
  refine ⟨by omega, by omega, ?_⟩
  rw [v_new]
  intro q hq
  refine ⟨_, rfl, ?_⟩
  have hp1 := hp.le (Le.new (o := .lst ((nms (Sy.put x (.fix cc x s) s)).map D.int)) hq)
  have eq1 : (S.upd q (.lst ((nms (Sy.put x (.fix cc x s) s)).map D.int))) q = some (.lst ((nms (Sy.put x (.fix cc x s) s)).map D.int)) := up_same
  revert hp1 eq1
  generalize S.upd q (.lst ((nms (Sy.put x (.fix cc x s) s)).map D.int)) = S1
  intro hp1 eq1
  show ws Γ lc7 ⟨fun σ1 S1 => wss Γ [lc8, lc9, lc10, lc11, lc12, lc13, lc14, lc15] (ends R) σ1 S1, (ends R).rt⟩ (lwU x0 p a b (Sy.fix cc x s).d (some (rD (unfR (.fix cc x s)))) (some (Sy.put x (.fix cc x s) s).d) (some (.loc q)) none none none) S1
  unfold lc7
  rw [x_ife, x_cmp, x_var]
  refine ⟨_, rfl, ?_⟩
  rw [x_non]
  cases hc : unfR (.fix cc x s) with
  | none =>
    show cmpW .isn .non .non S1 _
    rw [v_isn, decide_eq_true rfl]
    refine ⟨_, rfl, ?_⟩
    rw [if_pos rfl]
    have hc : anew (Sy.put x (.fix cc x s) s) = none := hc
    have hl := anew_none hc
    have hl2 : (20 : Int) < ((nms (Sy.put x (.fix cc x s) s)).length : Nat) := by omega
    show wp Γ (.cmp .gt (.bi .len [.var 6]) (.int 20)) _ S1 _
    rw [x_cmp, x_bi, x_ps, x_var]
    refine ⟨_, rfl, ?_⟩
    rw [x_ps0, v_lenl]
    refine ⟨_, eq1, ?_⟩
    rw [v_leno, x_int, v_gt, List.length_map, decide_eq_true hl2]
    exact ⟨S1, .refl, hR S1⟩
  | some t =>
    have hc2 : anew (Sy.put x (.fix cc x s) s) = some t := hc
    obtain ⟨hl, du⟩ := anew_some w1 hc2
    obtain ⟨t1, t2, t3, t4⟩ := anew_ok w1 hc2
    rw [rD_some]
    refine isn_sy ?_
    refine ⟨_, rfl, ?_⟩
    rw [if_neg (by decide), x_ss0]
    show ws Γ lc8 ⟨fun σ1 S1 => wss Γ [lc9, lc10, lc11, lc12, lc13, lc14, lc15] (ends R) σ1 S1, (ends R).rt⟩ (lwU x0 p a b (Sy.fix cc x s).d (some t.d) (some (Sy.put x (.fix cc x s) s).d) (some (.loc q)) none none none) S1
    unfold lc8
    rw [x_ife, x_bop, x_pa, x_cmp, x_call, x_ps, x_var]
    refine ⟨_, rfl, ?_⟩
    rw [x_ps0, g.size]
    refine ⟨t, rfl, by omega, ?_⟩
    show wp Γ (.call "_law_size" [(.var 5)]) _ S1 _
    rw [x_call, x_ps, x_var]
    refine ⟨_, rfl, ?_⟩
    rw [x_ps0, g.lsize, sp_lsize_app]
    refine ⟨by omega, by omega, ?_⟩
    rw [v_ne, v_eqii, t3]
    refine ⟨_, rfl, ?_⟩
    have e1 : (!(((Sy.put x (.fix cc x s) s).size : Int) == ((Sy.put x (.fix cc x s) s).size : Int))) = false := by simp
    rw [e1, if_pos rfl, x_pa1, x_cmp, x_bi, x_ps, x_var]
    refine ⟨_, rfl, ?_⟩
    rw [x_ps0, v_lenl]
    refine ⟨_, eq1, ?_⟩
    have hl2 : ¬ (20 : Int) < ((nms (Sy.put x (.fix cc x s) s)).length : Nat) := by omega
    rw [v_leno, x_int, v_gt, List.length_map, decide_eq_false hl2]
    refine ⟨_, rfl, ?_⟩
    rw [if_neg (by decide), x_ss0]
    exact k t q S1 hc hp1 eq1
theorem law_c (g : LawG Γ) (w : Wf a b [] [] (.fix cc x s)) (nd : (nms (.fix cc x s)).Nodup) (hd : (Sy.fix cc x s).depth ≤ 7) (hp : Pool S p c) {t : Sy} {q : Addr} (hu : unfR (.fix cc x s) = some t) (eq : S q = some (.lst ((nms (Sy.put x (.fix cc x s) s)).map D.int))) (k : ∀ q d x8 S', Pool S' p c →
      wss Γ [lc12, lc13, lc14, lc15] (ends R) (lwU x0 p a b (Sy.fix cc x s).d (some t.d) (some (Sy.put x (.fix cc x s) s).d) (some (.loc q)) (some (.loc d)) x8 none) S') :
    wss Γ [lc9, lc10, lc11, lc12, lc13, lc14, lc15] (ends R) (lwU x0 p a b (Sy.fix cc x s).d (some t.d) (some (Sy.put x (.fix cc x s) s).d) (some (.loc q)) none none none) S := by
  obtain ⟨w1, w2, w3⟩ := whole_ok w nd hd
  have hc2 : anew (Sy.put x (.fix cc x s) s) = some t := hu
  obtain ⟨hl, du⟩ := anew_some w1 hc2
  obtain ⟨t1, t2, t3, t4⟩ := anew_ok w1 hc2
  show ws Γ lc9 ⟨fun σ1 S1 => wss Γ [lc10, lc11, lc12, lc13, lc14, lc15] (ends R) σ1 S1, (ends R).rt⟩ _ S
  unfold lc9
  rw [x_asg, x_lst, x_ps0]
  refine ⟨by simp, fun d hdd => ⟨_, rfl, ?_⟩⟩
  obtain ⟨n2, n3⟩ := hp.ne hdd
  have n1 : d ≠ q := fun z => Store.ne eq hdd z.symm
  show ws Γ lc10 ⟨fun σ1 S1 => wss Γ [lc11, lc12, lc13, lc14, lc15] (ends R) σ1 S1, (ends R).rt⟩ (lwU x0 p a b (Sy.fix cc x s).d (some t.d) (some (Sy.put x (.fix cc x s) s).d) (some (.loc q)) (some (.loc d)) none none) (S.upd d (.lst []))
  simp only [lc10, x_frr, i_seq, x_var]
  refine ⟨_, rfl, ?_⟩
  rw [i_seql]
  have eq1 : (S.upd d (.lst [])) q = some (.lst ((nms (Sy.put x (.fix cc x s) s)).map D.int)) := (Store.upd_ne n1.symm).trans eq
  refine ⟨_, eq1, ?_⟩
  refine due_go _ [] (nms t) none _ du (by simp; omega) eq1 up_same n1 (hp.le (Le.new hdd)) n2 n3 fun x8 S2 eq2 ed2 hp2 => ?_
  show ws Γ lc11 ⟨fun σ1 S1 => wss Γ [lc12, lc13, lc14, lc15] (ends R) σ1 S1, (ends R).rt⟩ (lwU x0 p a b (Sy.fix cc x s).d (some t.d) (some (Sy.put x (.fix cc x s) s).d) (some (.loc q)) (some (.loc d)) x8 none) S2
  unfold lc11
  rw [x_ife, x_cmp, x_call, x_ps, x_var]
  refine ⟨_, rfl, ?_⟩
  rw [x_ps0, g.lnm, sp_lnames_app]
  refine ⟨by omega, by omega, ?_⟩
  rw [v_new]
  intro r hr
  rw [x_var]
  refine ⟨_, rfl, ?_⟩
  rw [v_ne]
  refine ⟨_, up_same, _, (Store.upd_ne (Store.ne ed2 hr)).trans ed2, pls_ints _ _, pls_ints _ _, ?_⟩
  rw [eqds_ints, decide_eq_true rfl]
  refine ⟨_, rfl, ?_⟩
  rw [Bool.not_true, if_neg (by decide), x_ss0]
  exact k q d x8 _ (hp2.le (Le.new hr))
theorem law_d (g : LawG Γ) (w : Wf a b [] [] (.fix cc x s)) (nd : (nms (.fix cc x s)).Nodup) (hd : (Sy.fix cc x s).depth ≤ 7) (a1 : 1 ≤ a) (a3 : a ≤ 3) (b1 : 1 ≤ b) (b2 : b ≤ 2) (hp : Pool S p c) {t : Sy} (hu : unfR (.fix cc x s) = some t) {x5 x6 x7 x8 : Option D} (hR : ∀ S', R (.bl true) S') :
    wss Γ [lc12, lc13, lc14, lc15] (ends R) (lwU x0 p a b (Sy.fix cc x s).d (some t.d) x5 x6 x7 x8 none) S := by
  obtain ⟨w1, w2, w3⟩ := whole_ok w nd hd
  have hc2 : anew (Sy.put x (.fix cc x s) s) = some t := hu
  obtain ⟨t1, t2, t3, t4⟩ := anew_ok w1 hc2
  have hd2 := hd
  simp [Sy.depth] at hd2
  have mid : ∀ S1, Pool S1 p c → wss Γ [lc13, lc14, lc15] (ends R) (lwU x0 p a b (Sy.fix cc x s).d (some t.d) x5 x6 x7 x8 none) S1 := by
    intro S1 hp1
    show ws Γ lc13 ⟨fun σ1 S1 => wss Γ [lc14, lc15] (ends R) σ1 S1, (ends R).rt⟩ _ S1
    simp [lc13, g.world, -x_ss]
    refine world_go hp1 (by omega) (by omega) (by omega) (by omega) (by omega) (by omega) fun W S2 hW ex => ?_
    have n5 := hW.n5
    have den1 := unf_den hW w nd hu
    show ws Γ lc14 ⟨fun σ1 S1 => wss Γ [lc15] (ends R) σ1 S1, (ends R).rt⟩ (lwU x0 p a b (Sy.fix cc x s).d (some t.d) x5 x6 x7 x8 (some W.d)) S2
    unfold lc14
    rw [x_ife, x_bop, x_pa, x_cmp, x_call, x_ps, x_var]
    refine ⟨_, rfl, ?_⟩
    rw [x_ps, x_var]
    refine ⟨_, rfl, ?_⟩
    rw [x_ps0, g.pw]
    refine pw_go hW t1 (by omega) (by omega) ?_
    rw [x_call, x_ps, x_var]
    refine ⟨_, rfl, ?_⟩
    rw [x_ps, x_var]
    refine ⟨_, rfl, ?_⟩
    rw [x_ps0, g.pw]
    refine pw_go hW w (by omega) (by omega) ?_
    rw [plN_eq.mpr den1, v_ne]
    refine eq_row ⟨_, rfl, ?_⟩
    rw [Bool.not_true, if_pos rfl, x_pa1, x_cmp, x_bi, x_ps, x_call, x_ps, x_var]
    refine ⟨_, rfl, ?_⟩
    rw [x_ps, x_var]
    refine ⟨_, rfl, ?_⟩
    rw [x_ps, x_dsp]
    intro dq hq
    rw [x_ps0]
    refine ⟨[], rfl, up_same, by simp, by simp, ?_⟩
    rw [x_ps0, up_up, g.wh]
    refine where_go (K := []) (F := []) (e := e0) hW t1 (by omega) up_same (by simp [mergeD]; omega) (fun kv hk => by cases hk) (fun i hi => by cases hi) fun q' S3 l3 e3 => ?_
    rw [x_ps0, v_tupl]
    refine ⟨_, e3, ?_⟩
    rw [v_tupo, x_call, x_ps, x_var]
    refine ⟨_, rfl, ?_⟩
    rw [x_ps, x_var]
    refine ⟨_, rfl, ?_⟩
    rw [x_ps0, g.pw]
    refine pw_go hW w (by omega) (by omega) ?_
    rw [plN_eq.mpr den1, v_ne]
    refine eq_row ⟨_, rfl, ?_⟩
    rw [Bool.not_true, if_neg (by decide), x_ss0]
    show ws Γ lc15 ⟨fun σ1 S1 => wss Γ [] (ends R) σ1 S1, (ends R).rt⟩ (lwU x0 p a b (Sy.fix cc x s).d (some t.d) x5 x6 x7 x8 (some W.d)) S3
    unfold lc15
    rw [x_ret, x_cmp, x_call, x_ps, x_call, x_ps, x_var]
    refine ⟨_, rfl, ?_⟩
    rw [x_ps0, g.against]
    refine ⟨Sy.fix cc x s, rfl, by omega, ?_⟩
    show wps Γ [] _ S3 _
    rw [x_ps0, g.unf]
    refine unf_go (wf_turned w) (by rw [nms_turn]; exact nd) (by rw [Sy.turn_depth]; omega) ?_
    rw [unf_turn, hu]
    rw [x_call, x_ps, x_var]
    refine ⟨_, rfl, ?_⟩
    rw [x_ps0, g.against]
    refine ⟨t, rfl, by omega, ?_⟩
    show cmpW .eq t.turn.d t.turn.d S3 _
    refine eq_sy (by rw [Sy.turn_depth]; omega) ⟨S3, .refl, hR S3⟩
  show ws Γ lc12 ⟨fun σ1 S1 => wss Γ [lc13, lc14, lc15] (ends R) σ1 S1, (ends R).rt⟩ _ S
  have sy := say_size t1 t2
  have vl : Vl S t.d := vl_vb (vb_pl (pl_sy t (n := 90) (by omega)) : Vb S 0 t.d)
  unfold lc12
  rw [x_ife, x_bop, x_pa, x_cmp, x_call, x_ps, x_var]
  refine ⟨_, rfl, ?_⟩
  rw [x_ps0, g.lsize, sp_lsize_app]
  refine ⟨by omega, by omega, ?_⟩
  rw [x_int, v_lt]
  refine ⟨_, rfl, ?_⟩
  cases h41 : decide (((t.size : Nat) : Int) < 41) with
  | false =>
    rw [if_neg (by decide)]
    refine ⟨_, rfl, ?_⟩
    rw [if_neg (by decide), x_ss0]
    exact mid S hp
  | true =>
    rw [if_pos rfl]
    rw [h41] at sy
    simp [g.say, sy, -x_ss]
    exact ⟨vl, mid S hp⟩
/-- the law's promise -/
def sp_law : SpD := fun ds S R => ∃ ns : List Int, ds = [.scr ns] ∧ ns.length ≤ 1000000 ∧ ∀ S', R (.bl true) S'
theorem w_law (g : LawG Γ) : ∀ ds S R, sp_law ds S R → wss Γ ir_law (ends R) (startD ck_law.N ds) S := by
  rintro _ S R ⟨ns, rfl, hn, hR⟩
  rw [ir_lc]
  refine law_a g hn hR fun p c a b cc x s S1 a1 a3 b1 b2 w nd hd h1 => ?_
  refine law_b g w nd hd h1 hR fun t q S2 hu h2 eq => ?_
  refine law_c g w nd hd h2 hu eq fun q d x8 S3 h3 => ?_
  exact law_d g w nd hd a1 a3 b1 b2 h3 hu hR
end
end Y

namespace Y
open PySem PySem.Spec L2 PyProof.Rows
/-! ### the glue -/
/-- of each of a list -/
inductive AllL {α : Type} (p : α → Prop) : List α → Prop
  | nil : AllL p []
  | cons {x : α} {xs : List α} : p x → AllL p xs → AllL p (x :: xs)
theorem AllL.get {α : Type} {p : α → Prop} : ∀ {l : List α}, AllL p l → ∀ x ∈ l, p x
  | _, .nil, _, h => by cases h
  | _, .cons a r, x, h => by
    rcases List.mem_cons.mp h with rfl | h
    · exact a
    · exact r.get x h
def noSp : SpD := fun _ _ _ => False
/-- what names mean, by lists -/
def mkG (fs : List (String × SpD)) (gv : List (String × D)) (gd : List (String × List (String × D))) : G := ⟨fun f => (fs.lookup f).getD noSp, fun x => gv.lookup x, fun x => gd.lookup x⟩
/-- a def of the row's top as it stands behind the top -/
def DefAt (K : PySem.W.Frag) (mg : Str → Option Value) (x : String) (st : Stmt) : Prop :=
  (∃ fd, FunD K (Str.ofString x) (Str.ofString x) (defArgs st) (defBody st) (defScope st) [] [] (He.ga K (Str.ofString x)) fd) ∧ mg (Str.ofString x) = some (.ref (He.ga K (Str.ofString x)))
/-- the module: its built-in names are free, its defs stand -/
structure Has (top : Nat → Stmt) (tab : List (String × Nat)) (K : PySem.W.Frag) (mg : Str → Option Value) : Prop where
  bt : ∀ x ∈ bnames, mg (Str.ofString x) = none
  df : ∀ q ∈ tab, DefAt K mg q.1 (top q.2)
section
variable {P : Program} {w : World} {K : PySem.W.Frag} {mg : Str → Option Value} {base : Heap}
abbrev FnP (P : Program) (w : World) (K : PySem.W.Frag) (mg : Str → Option Value) (base : Heap) (Γ : G) (k : Nat) (q : String × Nat) : Prop :=
  ∃ j, j ≤ k ∧ C8.Cal P w K mg base j (Str.ofString q.1) (liftSp K q.2 (Γ.fn q.1)) [] ∧ ∀ ds S R, Γ.fn q.1 ds S R → ds.length = q.2
abbrev GvP (K : PySem.W.Frag) (mg : Str → Option Value) (Γ : G) (x : String) : Prop := Γ.gd x = none ∧ ∃ d v u, Γ.gv x = some d ∧ mg (Str.ofString x) = some u ∧ RelV v u ∧ ∀ H, DV K H v d
abbrev GdP (w : World) (K : PySem.W.Frag) (mg : Str → Option Value) (Γ : G) (x : String) : Prop := ∃ kvs, Γ.gd x = some kvs ∧ GDict K w mg x kvs
theorem mod_ok {top : Nat → Stmt} {tab : List (String × Nat)} {Γ : G} {C : Ck} {k : Nat} (H : Has top tab K mg) (f : AllL (FnP P w K mg base Γ k) C.fs) (v : AllL (GvP K mg Γ) C.gs) (d : AllL (GdP w K mg Γ) C.ds) : ModOk Γ C P w K mg base k := ⟨H.bt, f.get, v.get, d.get⟩
/-- a promise that asks nothing -/
theorem y_false {k : Nat} {x : String} {q : Str} {params : Arguments} {body : List Stmt} {scope : Scope} {fa : Addr} {fd : FuncData} {ps : List Str} {sp : SpD} (F : FunD K (Str.ofString x) q params body scope [] [] fa fd) (b : Binds K fd ps []) (hm : mg (Str.ofString x) = some (.ref fa)) (no : ∀ ds S R, sp ds S R → False) :
    C8.Cal P w K mg base k (Str.ofString x) (liftSp K ps.length sp) [] :=
  ⟨fa, fd, ps, [], ⟨liftSp_len, fun A outer s H args us vs Q E hr he hb hv ⟨ds, S, R, _, _, _, h, _⟩ => (no ds S R h).elim⟩, hm, F.kp, b, .nil⟩
/-- the law's promise at the script -/
theorem law_at {H : Hp} {a : Addr} {ns : List Int} (hl : ns.length ≤ 63) (only : Only H) (s : SqL K H a (ns.map V.int)) {sp : SpD} (hsp : ∀ R : DVK, (∀ S', R (.bl true) S') → sp [.scr ns] (fun _ => none) R) :
    liftSp K 1 sp [.ref a] H (fun v _ => v = .bl true) fun _ _ _ => False := by
  have scr : Scr K H a ns := by
    rcases s with s | ⟨o, its, n, h1, h2, h3, h4, h5, h6⟩
    · rcases s with s | ⟨o, s⟩
      · rcases only a with q | ⟨o, xs, q⟩
        · rw [q] at s; cases s
        · rw [q] at s; cases s
      · exact .inl ⟨o, s⟩
    · exact .inr ⟨o, its, n, h1, h2, h3, h4, h5, h6⟩
  refine ⟨[.scr ns], fun _ => none, fun d _ => d = .bl true, rfl, .cons (.scr scr) .nil, fun a o e => (by cases e), hsp _ fun _ => rfl, ⟨?_⟩⟩
  rintro d S' v H' rfl _ x _
  exact x.bl_inv
end
/-! facts of the module -/
section
variable {fa : List He.Fa} {fn : List He.DefD} {ts : List He.Tab} {ex : PySem.W.Frag → Bool} {w : World} {K : PySem.W.Frag} {h : Heap} {mg : Str → Option Value}
def defOf (top : Nat → Stmt) (q : String × Nat) : He.DefD := ⟨(Str.ofString q.1, none), Str.ofString q.1, Str.ofString q.1, defArgs (top q.2), defBody (top q.2), defScope (top q.2), [], []⟩
def gloOf (q : String × Nat) : He.Fa := .glo (Str.ofString q.1)
def freeOf (x : String) : He.Fa := .free (Str.ofString x)
theorem SaysY.fact (c : SaysY fa fn ts ex w K) {f : He.Fa} (hf : f ∈ fa) : f.ok K = true := by
  obtain ⟨i, hi, e⟩ := List.getElem_of_mem hf
  exact c.1.d.fact i (by rw [List.getElem?_eq_getElem hi, e])
theorem has_of {top : Nat → Stmt} {tab : List (String × Nat)} (X : K.In h) (G : h.Ns mainGlobals mg) (more : List He.Fa) (c : SaysY (bnames.map freeOf ++ (tab.map gloOf ++ more)) (tab.map (defOf top)) ts ex w K) : Has top tab K mg where
  bt := fun x hx => He.free_ok X G (c.fact (List.mem_append.mpr (.inl (List.mem_map_of_mem (f := freeOf) hx))))
  df := fun q hq => by
    refine ⟨?_, He.glo_ok X G (c.fact (List.mem_append.mpr (.inr (List.mem_append.mpr (.inl (List.mem_map_of_mem (f := gloOf) hq))))))⟩
    obtain ⟨i, hi, e⟩ := List.getElem_of_mem (List.mem_map_of_mem (f := defOf top) hq)
    exact c.1.d.def_ i (d := defOf top q) (by rw [List.getElem?_eq_getElem hi, e])
theorem tab_of {top : Nat → Stmt} (c : SaysY fa fn ts ex w K) {t : He.Tab} (ht : t ∈ ts) : He.dicW K (t.1 K) = some (He.keysIn w.params t.2) := by
  have e : ts.map (fun t => He.dicW K (t.1 K)) = ts.map fun t => some (He.keysIn w.params t.2) := congrArg (fun z : He.AlT => z.2) c.1
  obtain ⟨i, hi, rfl⟩ := List.getElem_of_mem ht
  have e2 := congrArg (fun l => l[i]?) e
  simpa [List.getElem?_map, List.getElem?_eq_getElem hi] using e2
end
/-! promises at depth 0 -/
theorem dep_pos (s : Sy) : 1 ≤ s.depth := by cases s <;> simp [Sy.depth]
theorem no_against : ∀ ds S R, sp_against 0 ds S R → False := fun _ _ _ ⟨s, _, h, _⟩ => by have := dep_pos s; omega
theorem no_lsize : ∀ ds S R, sp_lsize 0 ds S R → False := fun _ _ _ ⟨s, _, h, _⟩ => by have := dep_pos s; omega
theorem no_lbind : ∀ ds S R, sp_lbind 0 ds S R → False := fun _ _ _ ⟨s, _, h, _⟩ => by have := dep_pos s; omega
theorem no_llev : ∀ ds S R, sp_llev 0 ds S R → False := fun _ _ _ ⟨s, _, _, h, _⟩ => by have := dep_pos s; omega
theorem no_same : ∀ ds S R, sp_same 0 ds S R → False := fun _ _ _ ⟨_, _, _, h, _⟩ => h
theorem no_form : ∀ ds S R, sp_form 0 ds S R → False := fun _ _ _ ⟨_, _, _, _, _, _, _, _, _, _, h, _⟩ => by omega
theorem no_bent : ∀ ds S R, sp_bent 0 ds S R → False := fun _ _ _ ⟨_, _, _, _, _, _, h, _⟩ => by omega
theorem no_saying : ∀ ds S R, sp_saying 0 ds S R → False := fun _ _ _ ⟨_, _, _, _, _, _, _, _, _, _, ⟨_, h⟩, _⟩ => by omega
/-! tables of texts -/
theorem and_strs {Γ : G} {K : PySem.W.Frag} {mg : Str → Option Value} {x : String} {zs : List String} (h0 : Γ.gd x = none) (h1 : Γ.gv x = some (.tup (zs.map D.str))) (h : mg (Str.ofString x) = some (.ref (He.ga K (Str.ofString x))) ∧ He.tupB K (Str.ofString x) (strDv zs) = true) : GvP K mg Γ x := gv_strs h0 h1 h.1 h.2
def textDv (l : List (String × String)) : List (Str × He.Dv) := l.map fun q => (Str.ofString q.1, .str (Str.ofString q.2))
def textKv (l : List (String × String)) : List (String × D) := l.map fun q => (q.1, .str q.2)
theorem text_look {K : PySem.W.Frag} : ∀ (l : List (String × String)) (s : String) (v : D), (textKv l).lookup s = some v → ∃ q ∈ textDv l, q.1 = Str.ofString s ∧ ∀ H, DV K H (q.2.v K) v
  | [], _, _, h => by cases h
  | (x, y) :: l, s, v, h => by
    by_cases c : s = x
    · subst c
      have h : some (D.str y) = some v := by
        have e : (textKv ((s, y) :: l)).lookup s = some (D.str y) := by
          show List.lookup s ((s, D.str y) :: textKv l) = _
          rw [List.lookup_cons]
          simp
        rw [← e, h]
      cases h
      exact ⟨(Str.ofString s, .str (Str.ofString y)), List.mem_cons_self, rfl, fun H => .str y⟩
    · have e : (textKv ((x, y) :: l)).lookup s = (textKv l).lookup s := by
        show List.lookup s ((x, D.str y) :: textKv l) = _
        rw [List.lookup_cons]
        have : (s == x) = false := by simpa using c
        rw [this]
      rw [e] at h
      obtain ⟨q, hq, r⟩ := text_look l s v h
      exact ⟨q, List.mem_cons_of_mem _ hq, r⟩
def turnedT : List (String × String) := [("yes", "no"), ("is", "isnt"), ("both", "either"), ("some", "all"), ("least", "greatest")]
theorem turned_look {K : PySem.W.Frag} : ∀ (s : String) (v : D), turnedKv.lookup s = some v → ∃ q ∈ textDv turnedT, q.1 = Str.ofString s ∧ ∀ H, DV K H (q.2.v K) v := text_look turnedT
end Y

namespace Y
open PySem PySem.Spec L2 PyProof.Rows
theorem no_found : ∀ ds S R, sp_found 0 ds S R → False := fun _ _ _ ⟨_, _, _, s, _, _, _, _, _, _, _, _, h, _⟩ => by have := dep_pos s; omega
theorem no_where : ∀ ds S R, sp_where 0 ds S R → False := fun _ _ _ ⟨_, _, _, s, _, _, _, _, _, _, _, _, h, _⟩ => by have := dep_pos s; omega
theorem no_put : ∀ ds S R, sp_put 0 ds S R → False := fun _ _ _ ⟨s, _, _, _, h, _⟩ => by have := dep_pos s; omega
theorem no_ren : ∀ ds S R, sp_ren 0 ds S R → False := fun _ _ _ ⟨_, _, _, _, s, _, _, _, _, _, _, _, _, _, _, h, _⟩ => by have := dep_pos s; omega
theorem no_lnames : ∀ ds S R, sp_lnames 0 ds S R → False := fun _ _ _ ⟨s, _, h, _⟩ => by have := dep_pos s; omega
end Y

namespace Y
open PySem PySem.Spec L2 PyProof.Rows
def top (i : Nat) : Stmt := PySem.Challenge.pw_sayingsdown_k03_whole_unfolding.main.body.getD i (.Pass ⟨0, 0, 0, 0⟩)
def tabL : List (String × Nat) := [("is_whole", 5), ("name_of", 6), ("inner_sayings", 7), ("is_saying", 8), ("parts_of", 9), ("all_parts", 10), ("with_parts", 11), ("against", 12), ("size_of", 13), ("put_in", 14), ("with_name", 15), ("renamed", 16), ("unfolded", 17), ("leads", 19), ("found_places", 20), ("worth", 21), ("places_where", 22), ("_law_pool", 24), ("_law_spread", 25), ("_law_draw", 26), ("_law_pick", 27), ("_law_land", 28), ("_law_saying", 29), ("_law_drawn", 30), ("_law_parts", 31), ("_law_size", 32), ("_law_world", 33), ("_law_where", 34), ("_law_put", 35), ("_law_names", 36), ("law", 37)]
section
variable {P : Program} {w : World} {K : PySem.W.Frag} {mg : Str → Option Value} {base : Heap}
structure Hs (w : World) (K : PySem.W.Frag) (mg : Str → Option Value) : Prop where
  h : Has top tabL K mg
  v_MOST_SIZE : ∃ t, mg (Str.ofString "MOST_SIZE") = some (.int 40 t)
  v_MOST_NAMES : ∃ t, mg (Str.ofString "MOST_NAMES") = some (.int 20 t)
  v_BINDERS : mg (Str.ofString "BINDERS") = some (.ref (He.ga K (Str.ofString "BINDERS"))) ∧ He.tupB K (Str.ofString "BINDERS") (strDv ["least", "greatest"]) = true
  d_TURNED : GDict K w mg "TURNED" turnedKv
theorem ok__law_pool : ckSs ck__law_pool ir__law_pool (defScope (top 24)) (defBody (top 24)) = true := by decide +kernel
theorem sc__law_pool : FnScope ck__law_pool.N ["script"] (defScope (top 24)) := ⟨rfl, rfl, rfl, by decide +kernel, rfl, by decide +kernel, by decide +kernel⟩
theorem len_sp_pool : ∀ ds S R, sp_pool ds S R → ds.length = 1 := by
  intro ds S R h
  unfold sp_pool at h
  repeat (obtain ⟨_, h⟩ := h)
  subst_vars
  rfl
theorem cal__law_pool (H : Hs w K mg) : C8.Cal P w K mg base 1 (Str.ofString "_law_pool") (liftSp K 1 sp_pool) [] := by
  obtain ⟨⟨fd, F⟩, hm⟩ := H.h.df ("_law_pool", 24) (by decide +kernel)
  exact y_fn (Γ := mkG [] [] []) (C := ck__law_pool) (k := 0) (x := "_law_pool") F (F.bindsN fun _ _ _ _ _ _ us hl => match us, hl with | [_], _ => rfl) hm sc__law_pool ok__law_pool (mod_ok H.h .nil .nil .nil) len_sp_pool w_pool
theorem ok__law_spread : ckSs ck__law_spread ir__law_spread (defScope (top 25)) (defBody (top 25)) = true := by decide +kernel
theorem sc__law_spread : FnScope ck__law_spread.N ["cell"] (defScope (top 25)) := ⟨rfl, rfl, rfl, by decide +kernel, rfl, by decide +kernel, by decide +kernel⟩
theorem len_sp_spread : ∀ ds S R, sp_spread ds S R → ds.length = 1 := by
  intro ds S R h
  unfold sp_spread at h
  repeat (obtain ⟨_, h⟩ := h)
  subst_vars
  rfl
theorem cal__law_spread (H : Hs w K mg) : C8.Cal P w K mg base 1 (Str.ofString "_law_spread") (liftSp K 1 sp_spread) [] := by
  obtain ⟨⟨fd, F⟩, hm⟩ := H.h.df ("_law_spread", 25) (by decide +kernel)
  exact y_fn (Γ := mkG [] [] []) (C := ck__law_spread) (k := 0) (x := "_law_spread") F (F.bindsN fun _ _ _ _ _ _ us hl => match us, hl with | [_], _ => rfl) hm sc__law_spread ok__law_spread (mod_ok H.h .nil .nil .nil) len_sp_spread w_spread
theorem ok__law_draw : ckSs ck__law_draw ir__law_draw (defScope (top 26)) (defBody (top 26)) = true := by decide +kernel
theorem sc__law_draw : FnScope ck__law_draw.N ["pool", "many"] (defScope (top 26)) := ⟨rfl, rfl, rfl, by decide +kernel, rfl, by decide +kernel, by decide +kernel⟩
theorem len_sp_draw : ∀ ds S R, sp_draw ds S R → ds.length = 2 := by
  intro ds S R h
  unfold sp_draw at h
  repeat (obtain ⟨_, h⟩ := h)
  subst_vars
  rfl
theorem cal__law_draw (H : Hs w K mg) : C8.Cal P w K mg base 2 (Str.ofString "_law_draw") (liftSp K 2 sp_draw) [] := by
  obtain ⟨⟨fd, F⟩, hm⟩ := H.h.df ("_law_draw", 26) (by decide +kernel)
  exact y_fn (Γ := mkG [("_law_spread", sp_spread)] [] []) (C := ck__law_draw) (k := 1) (x := "_law_draw") F (F.bindsN fun _ _ _ _ _ _ us hl => match us, hl with | [_, _], _ => rfl) hm sc__law_draw ok__law_draw (mod_ok H.h (.cons ⟨_, by omega, cal__law_spread H, len_sp_spread⟩ .nil) .nil .nil) len_sp_draw (w_draw rfl)
theorem ok__law_land : ckSs ck__law_land ir__law_land (defScope (top 28)) (defBody (top 28)) = true := by decide +kernel
theorem sc__law_land : FnScope ck__law_land.N ["pool"] (defScope (top 28)) := ⟨rfl, rfl, rfl, by decide +kernel, rfl, by decide +kernel, by decide +kernel⟩
theorem len_sp_land : ∀ ds S R, sp_land ds S R → ds.length = 1 := by
  intro ds S R h
  unfold sp_land at h
  repeat (obtain ⟨_, h⟩ := h)
  subst_vars
  rfl
theorem cal__law_land (H : Hs w K mg) : C8.Cal P w K mg base 3 (Str.ofString "_law_land") (liftSp K 1 sp_land) [] := by
  obtain ⟨⟨fd, F⟩, hm⟩ := H.h.df ("_law_land", 28) (by decide +kernel)
  exact y_fn (Γ := mkG [("_law_draw", sp_draw)] [] []) (C := ck__law_land) (k := 2) (x := "_law_land") F (F.bindsN fun _ _ _ _ _ _ us hl => match us, hl with | [_], _ => rfl) hm sc__law_land ok__law_land (mod_ok H.h (.cons ⟨_, by omega, cal__law_draw H, len_sp_draw⟩ .nil) .nil .nil) len_sp_land (w_land rfl)
theorem ok__law_pick : ckSs ck__law_pick ir__law_pick (defScope (top 27)) (defBody (top 27)) = true := by decide +kernel
theorem sc__law_pick : FnScope ck__law_pick.N ["pool", "items"] (defScope (top 27)) := ⟨rfl, rfl, rfl, by decide +kernel, rfl, by decide +kernel, by decide +kernel⟩
theorem len_sp_pick : ∀ ds S R, sp_pick ds S R → ds.length = 2 := by
  intro ds S R h
  unfold sp_pick at h
  repeat (obtain ⟨_, h⟩ := h)
  subst_vars
  rfl
theorem cal__law_pick (H : Hs w K mg) : C8.Cal P w K mg base 3 (Str.ofString "_law_pick") (liftSp K 2 sp_pick) [] := by
  obtain ⟨⟨fd, F⟩, hm⟩ := H.h.df ("_law_pick", 27) (by decide +kernel)
  exact y_fn (Γ := mkG [("_law_draw", sp_draw)] [] []) (C := ck__law_pick) (k := 2) (x := "_law_pick") F (F.bindsN fun _ _ _ _ _ _ us hl => match us, hl with | [_, _], _ => rfl) hm sc__law_pick ok__law_pick (mod_ok H.h (.cons ⟨_, by omega, cal__law_draw H, len_sp_draw⟩ .nil) .nil .nil) len_sp_pick (w_pick rfl)
theorem ok__law_saying : ckSs ck__law_saying ir__law_saying (defScope (top 29)) (defBody (top 29)) = true := by decide +kernel
theorem sc__law_saying : FnScope ck__law_saying.N ["pool", "land", "deep", "state", "known", "free"] (defScope (top 29)) := ⟨rfl, rfl, rfl, by decide +kernel, rfl, by decide +kernel, by decide +kernel⟩
theorem len_sp_saying {n : Nat} : ∀ ds S R, sp_saying n ds S R → ds.length = 6 := by
  intro ds S R h
  unfold sp_saying at h
  repeat (obtain ⟨_, h⟩ := h)
  subst_vars
  rfl
theorem cal__law_saying (H : Hs w K mg) : ∀ n : Nat, n ≤ 20 → C8.Cal P w K mg base (3 + n) (Str.ofString "_law_saying") (liftSp K 6 (sp_saying n)) []
  | 0, _ => by
    obtain ⟨⟨fd, F⟩, hm⟩ := H.h.df ("_law_saying", 29) (by decide +kernel)
    exact y_false (x := "_law_saying") (ps := ["pool", "land", "deep", "state", "known", "free"]) F (F.bindsN fun _ _ _ _ _ _ us hl => match us, hl with | [_, _, _, _, _, _], _ => rfl) hm no_saying
  | n + 1, hn => by
    obtain ⟨⟨fd, F⟩, hm⟩ := H.h.df ("_law_saying", 29) (by decide +kernel)
    have ih := cal__law_saying H n (by omega)
    exact y_fn (Γ := mkG [("_law_draw", sp_draw), ("_law_saying", (sp_saying n)), ("_law_pick", sp_pick)] [] []) (C := ck__law_saying) (k := 3 + n) (x := "_law_saying") F (F.bindsN fun _ _ _ _ _ _ us hl => match us, hl with | [_, _, _, _, _, _], _ => rfl) hm sc__law_saying ok__law_saying (mod_ok H.h (.cons ⟨_, by omega, cal__law_draw H, len_sp_draw⟩ (.cons ⟨_, Nat.le_refl _, ih, len_sp_saying⟩ (.cons ⟨_, by omega, cal__law_pick H, len_sp_pick⟩ .nil))) .nil .nil) len_sp_saying (w_saying rfl rfl rfl)
theorem ok__law_drawn : ckSs ck__law_drawn ir__law_drawn (defScope (top 30)) (defBody (top 30)) = true := by decide +kernel
theorem sc__law_drawn : FnScope ck__law_drawn.N ["pool", "land", "deep"] (defScope (top 30)) := ⟨rfl, rfl, rfl, by decide +kernel, rfl, by decide +kernel, by decide +kernel⟩
theorem len_sp_drawn {n : Nat} : ∀ ds S R, sp_drawn n ds S R → ds.length = 3 := by
  intro ds S R h
  unfold sp_drawn at h
  repeat (obtain ⟨_, h⟩ := h)
  subst_vars
  rfl
theorem cal__law_drawn (H : Hs w K mg) : C8.Cal P w K mg base 24 (Str.ofString "_law_drawn") (liftSp K 3 (sp_drawn 20)) [] := by
  obtain ⟨⟨fd, F⟩, hm⟩ := H.h.df ("_law_drawn", 30) (by decide +kernel)
  exact y_fn (Γ := mkG [("_law_draw", sp_draw), ("_law_saying", (sp_saying 20))] [] []) (C := ck__law_drawn) (k := 23) (x := "_law_drawn") F (F.bindsN fun _ _ _ _ _ _ us hl => match us, hl with | [_, _, _], _ => rfl) hm sc__law_drawn ok__law_drawn (mod_ok H.h (.cons ⟨_, by omega, cal__law_draw H, len_sp_draw⟩ (.cons ⟨_, by omega, cal__law_saying H 20 (by decide), len_sp_saying⟩ .nil)) .nil .nil) len_sp_drawn (w_drawn rfl rfl)
theorem ok_with_parts : ckSs ck_with_parts ir_with_parts (defScope (top 11)) (defBody (top 11)) = true := by decide +kernel
theorem sc_with_parts : FnScope ck_with_parts.N ["saying", "parts"] (defScope (top 11)) := ⟨rfl, rfl, rfl, by decide +kernel, rfl, by decide +kernel, by decide +kernel⟩
theorem len_sp_with_parts : ∀ ds S R, sp_with_parts ds S R → ds.length = 2 := by
  intro ds S R h
  unfold sp_with_parts at h
  repeat (obtain ⟨_, h⟩ := h)
  subst_vars
  rfl
theorem cal_with_parts (H : Hs w K mg) : C8.Cal P w K mg base 1 (Str.ofString "with_parts") (liftSp K 2 sp_with_parts) [] := by
  obtain ⟨⟨fd, F⟩, hm⟩ := H.h.df ("with_parts", 11) (by decide +kernel)
  exact y_fn (Γ := mkG [] [] []) (C := ck_with_parts) (k := 0) (x := "with_parts") F (F.bindsN fun _ _ _ _ _ _ us hl => match us, hl with | [_, _], _ => rfl) hm sc_with_parts ok_with_parts (mod_ok H.h .nil .nil .nil) len_sp_with_parts w_with_parts
theorem ok_parts_of : ckSs ck_parts_of ir_parts_of (defScope (top 9)) (defBody (top 9)) = true := by decide +kernel
theorem sc_parts_of : FnScope ck_parts_of.N ["saying"] (defScope (top 9)) := ⟨rfl, rfl, rfl, by decide +kernel, rfl, by decide +kernel, by decide +kernel⟩
theorem len_sp_parts_of : ∀ ds S R, sp_parts_of ds S R → ds.length = 1 := by
  intro ds S R h
  unfold sp_parts_of at h
  repeat (obtain ⟨_, h⟩ := h)
  subst_vars
  rfl
theorem cal_parts_of (H : Hs w K mg) : C8.Cal P w K mg base 1 (Str.ofString "parts_of") (liftSp K 1 sp_parts_of) [] := by
  obtain ⟨⟨fd, F⟩, hm⟩ := H.h.df ("parts_of", 9) (by decide +kernel)
  exact y_fn (Γ := mkG [] [] []) (C := ck_parts_of) (k := 0) (x := "parts_of") F (F.bindsN fun _ _ _ _ _ _ us hl => match us, hl with | [_], _ => rfl) hm sc_parts_of ok_parts_of (mod_ok H.h .nil .nil .nil) len_sp_parts_of w_parts_of
theorem ok_put_in : ckSs ck_put_in ir_put_in (defScope (top 14)) (defBody (top 14)) = true := by decide +kernel
theorem sc_put_in : FnScope ck_put_in.N ["saying", "x", "other"] (defScope (top 14)) := ⟨rfl, rfl, rfl, by decide +kernel, rfl, by decide +kernel, by decide +kernel⟩
theorem len_sp_put {n : Nat} : ∀ ds S R, sp_put n ds S R → ds.length = 3 := by
  intro ds S R h
  unfold sp_put at h
  repeat (obtain ⟨_, h⟩ := h)
  subst_vars
  rfl
theorem cal_put_in (H : Hs w K mg) : ∀ n : Nat, n ≤ 20 → C8.Cal P w K mg base (1 + n) (Str.ofString "put_in") (liftSp K 3 (sp_put n)) []
  | 0, _ => by
    obtain ⟨⟨fd, F⟩, hm⟩ := H.h.df ("put_in", 14) (by decide +kernel)
    exact y_false (x := "put_in") (ps := ["saying", "x", "other"]) F (F.bindsN fun _ _ _ _ _ _ us hl => match us, hl with | [_, _, _], _ => rfl) hm no_put
  | n + 1, hn => by
    obtain ⟨⟨fd, F⟩, hm⟩ := H.h.df ("put_in", 14) (by decide +kernel)
    have ih := cal_put_in H n (by omega)
    exact y_fn (Γ := mkG [("with_parts", sp_with_parts), ("put_in", (sp_put n)), ("parts_of", sp_parts_of)] [] []) (C := ck_put_in) (k := 1 + n) (x := "put_in") F (F.bindsN fun _ _ _ _ _ _ us hl => match us, hl with | [_, _, _], _ => rfl) hm sc_put_in ok_put_in (mod_ok H.h (.cons ⟨_, by omega, cal_with_parts H, len_sp_with_parts⟩ (.cons ⟨_, Nat.le_refl _, ih, len_sp_put⟩ (.cons ⟨_, by omega, cal_parts_of H, len_sp_parts_of⟩ .nil))) .nil .nil) len_sp_put (w_put rfl rfl rfl)
theorem ok_with_name : ckSs ck_with_name ir_with_name (defScope (top 15)) (defBody (top 15)) = true := by decide +kernel
theorem sc_with_name : FnScope ck_with_name.N ["names", "x", "y"] (defScope (top 15)) := ⟨rfl, rfl, rfl, by decide +kernel, rfl, by decide +kernel, by decide +kernel⟩
theorem len_sp_withn : ∀ ds S R, sp_withn ds S R → ds.length = 3 := by
  intro ds S R h
  unfold sp_withn at h
  repeat (obtain ⟨_, h⟩ := h)
  subst_vars
  rfl
theorem cal_with_name (H : Hs w K mg) : C8.Cal P w K mg base 1 (Str.ofString "with_name") (liftSp K 3 sp_withn) [] := by
  obtain ⟨⟨fd, F⟩, hm⟩ := H.h.df ("with_name", 15) (by decide +kernel)
  exact y_fn (Γ := mkG [] [] []) (C := ck_with_name) (k := 0) (x := "with_name") F (F.bindsN fun _ _ _ _ _ _ us hl => match us, hl with | [_, _, _], _ => rfl) hm sc_with_name ok_with_name (mod_ok H.h .nil .nil .nil) len_sp_withn w_withn
theorem ok_renamed : ckSs ck_renamed ir_renamed (defScope (top 16)) (defBody (top 16)) = true := by decide +kernel
theorem sc_renamed : FnScope ck_renamed.N ["saying", "names", "taken"] (defScope (top 16)) := ⟨rfl, rfl, rfl, by decide +kernel, rfl, by decide +kernel, by decide +kernel⟩
theorem len_sp_ren {n : Nat} : ∀ ds S R, sp_ren n ds S R → ds.length = 3 := by
  intro ds S R h
  unfold sp_ren at h
  repeat (obtain ⟨_, h⟩ := h)
  subst_vars
  rfl
theorem cal_renamed (H : Hs w K mg) : ∀ n : Nat, n ≤ 45 → C8.Cal P w K mg base (1 + n) (Str.ofString "renamed") (liftSp K 3 (sp_ren n)) []
  | 0, _ => by
    obtain ⟨⟨fd, F⟩, hm⟩ := H.h.df ("renamed", 16) (by decide +kernel)
    exact y_false (x := "renamed") (ps := ["saying", "names", "taken"]) F (F.bindsN fun _ _ _ _ _ _ us hl => match us, hl with | [_, _, _], _ => rfl) hm no_ren
  | n + 1, hn => by
    obtain ⟨⟨fd, F⟩, hm⟩ := H.h.df ("renamed", 16) (by decide +kernel)
    have ih := cal_renamed H n (by omega)
    exact y_fn (Γ := mkG [("parts_of", sp_parts_of), ("renamed", (sp_ren n)), ("with_parts", sp_with_parts), ("with_name", sp_withn)] [("BINDERS", .tup (["least", "greatest"].map D.str)), ("MOST_NAMES", .int 20)] []) (C := ck_renamed) (k := 1 + n) (x := "renamed") F (F.bindsN fun _ _ _ _ _ _ us hl => match us, hl with | [_, _, _], _ => rfl) hm sc_renamed ok_renamed (mod_ok H.h (.cons ⟨_, by omega, cal_parts_of H, len_sp_parts_of⟩ (.cons ⟨_, Nat.le_refl _, ih, len_sp_ren⟩ (.cons ⟨_, by omega, cal_with_parts H, len_sp_with_parts⟩ (.cons ⟨_, by omega, cal_with_name H, len_sp_withn⟩ .nil)))) (.cons (and_strs rfl rfl H.v_BINDERS) (.cons (gv_int rfl rfl H.v_MOST_NAMES) .nil)) .nil) len_sp_ren (w_ren rfl rfl rfl rfl rfl rfl)
theorem ok_all_parts : ckSs ck_all_parts ir_all_parts (defScope (top 10)) (defBody (top 10)) = true := by decide +kernel
theorem sc_all_parts : FnScope ck_all_parts.N ["saying"] (defScope (top 10)) := ⟨rfl, rfl, rfl, by decide +kernel, rfl, by decide +kernel, by decide +kernel⟩
theorem len_sp_all_parts : ∀ ds S R, sp_all_parts ds S R → ds.length = 1 := by
  intro ds S R h
  unfold sp_all_parts at h
  repeat (obtain ⟨_, h⟩ := h)
  subst_vars
  rfl
theorem cal_all_parts (H : Hs w K mg) : C8.Cal P w K mg base 2 (Str.ofString "all_parts") (liftSp K 1 sp_all_parts) [] := by
  obtain ⟨⟨fd, F⟩, hm⟩ := H.h.df ("all_parts", 10) (by decide +kernel)
  exact y_fn (Γ := mkG [("parts_of", sp_parts_of)] [] []) (C := ck_all_parts) (k := 1) (x := "all_parts") F (F.bindsN fun _ _ _ _ _ _ us hl => match us, hl with | [_], _ => rfl) hm sc_all_parts ok_all_parts (mod_ok H.h (.cons ⟨_, by omega, cal_parts_of H, len_sp_parts_of⟩ .nil) .nil .nil) len_sp_all_parts (w_all_parts rfl)
theorem ok_unfolded : ckSs ck_unfolded ir_unfolded (defScope (top 17)) (defBody (top 17)) = true := by decide +kernel
theorem sc_unfolded : FnScope ck_unfolded.N ["saying"] (defScope (top 17)) := ⟨rfl, rfl, rfl, by decide +kernel, rfl, by decide +kernel, by decide +kernel⟩
theorem len_sp_unf : ∀ ds S R, sp_unf ds S R → ds.length = 1 := by
  intro ds S R h
  unfold sp_unf at h
  repeat (obtain ⟨_, h⟩ := h)
  subst_vars
  rfl
theorem cal_unfolded (H : Hs w K mg) : C8.Cal P w K mg base 47 (Str.ofString "unfolded") (liftSp K 1 sp_unf) [] := by
  obtain ⟨⟨fd, F⟩, hm⟩ := H.h.df ("unfolded", 17) (by decide +kernel)
  exact y_fn (Γ := mkG [("put_in", (sp_put 20)), ("renamed", (sp_ren 45)), ("all_parts", sp_all_parts)] [("BINDERS", .tup (["least", "greatest"].map D.str))] []) (C := ck_unfolded) (k := 46) (x := "unfolded") F (F.bindsN fun _ _ _ _ _ _ us hl => match us, hl with | [_], _ => rfl) hm sc_unfolded ok_unfolded (mod_ok H.h (.cons ⟨_, by omega, cal_put_in H 20 (by decide), len_sp_put⟩ (.cons ⟨_, by omega, cal_renamed H 45 (by decide), len_sp_ren⟩ (.cons ⟨_, by omega, cal_all_parts H, len_sp_all_parts⟩ .nil))) (.cons (and_strs rfl rfl H.v_BINDERS) .nil) .nil) len_sp_unf (w_unf (N := 20) (M := 45) rfl rfl rfl rfl (by omega) (by omega))
theorem ok__law_put : ckSs ck__law_put ir__law_put (defScope (top 35)) (defBody (top 35)) = true := by decide +kernel
theorem sc__law_put : FnScope ck__law_put.N ["f", "x", "g"] (defScope (top 35)) := ⟨rfl, rfl, rfl, by decide +kernel, rfl, by decide +kernel, by decide +kernel⟩
theorem cal__law_put (H : Hs w K mg) : ∀ n : Nat, n ≤ 20 → C8.Cal P w K mg base (0 + n) (Str.ofString "_law_put") (liftSp K 3 (sp_put n)) []
  | 0, _ => by
    obtain ⟨⟨fd, F⟩, hm⟩ := H.h.df ("_law_put", 35) (by decide +kernel)
    exact y_false (x := "_law_put") (ps := ["f", "x", "g"]) F (F.bindsN fun _ _ _ _ _ _ us hl => match us, hl with | [_, _, _], _ => rfl) hm no_put
  | n + 1, hn => by
    obtain ⟨⟨fd, F⟩, hm⟩ := H.h.df ("_law_put", 35) (by decide +kernel)
    have ih := cal__law_put H n (by omega)
    exact y_fn (Γ := mkG [("_law_put", (sp_put n))] [] []) (C := ck__law_put) (k := 0 + n) (x := "_law_put") F (F.bindsN fun _ _ _ _ _ _ us hl => match us, hl with | [_, _, _], _ => rfl) hm sc__law_put ok__law_put (mod_ok H.h (.cons ⟨_, Nat.le_refl _, ih, len_sp_put⟩ .nil) .nil .nil) len_sp_put (w_law_put rfl)
theorem ok__law_parts : ckSs ck__law_parts ir__law_parts (defScope (top 31)) (defBody (top 31)) = true := by decide +kernel
theorem sc__law_parts : FnScope ck__law_parts.N ["f"] (defScope (top 31)) := ⟨rfl, rfl, rfl, by decide +kernel, rfl, by decide +kernel, by decide +kernel⟩
theorem cal__law_parts (H : Hs w K mg) : C8.Cal P w K mg base 1 (Str.ofString "_law_parts") (liftSp K 1 sp_parts_of) [] := by
  obtain ⟨⟨fd, F⟩, hm⟩ := H.h.df ("_law_parts", 31) (by decide +kernel)
  exact y_fn (Γ := mkG [] [] []) (C := ck__law_parts) (k := 0) (x := "_law_parts") F (F.bindsN fun _ _ _ _ _ _ us hl => match us, hl with | [_], _ => rfl) hm sc__law_parts ok__law_parts (mod_ok H.h .nil .nil .nil) len_sp_parts_of w_law_parts
theorem ok__law_names : ckSs ck__law_names ir__law_names (defScope (top 36)) (defBody (top 36)) = true := by decide +kernel
theorem sc__law_names : FnScope ck__law_names.N ["f"] (defScope (top 36)) := ⟨rfl, rfl, rfl, by decide +kernel, rfl, by decide +kernel, by decide +kernel⟩
theorem len_sp_lnames {n : Nat} : ∀ ds S R, sp_lnames n ds S R → ds.length = 1 := by
  intro ds S R h
  unfold sp_lnames at h
  repeat (obtain ⟨_, h⟩ := h)
  subst_vars
  rfl
theorem cal__law_names (H : Hs w K mg) : ∀ n : Nat, n ≤ 20 → C8.Cal P w K mg base (1 + n) (Str.ofString "_law_names") (liftSp K 1 (sp_lnames n)) []
  | 0, _ => by
    obtain ⟨⟨fd, F⟩, hm⟩ := H.h.df ("_law_names", 36) (by decide +kernel)
    exact y_false (x := "_law_names") (ps := ["f"]) F (F.bindsN fun _ _ _ _ _ _ us hl => match us, hl with | [_], _ => rfl) hm no_lnames
  | n + 1, hn => by
    obtain ⟨⟨fd, F⟩, hm⟩ := H.h.df ("_law_names", 36) (by decide +kernel)
    have ih := cal__law_names H n (by omega)
    exact y_fn (Γ := mkG [("_law_parts", sp_parts_of), ("_law_names", (sp_lnames n))] [] []) (C := ck__law_names) (k := 1 + n) (x := "_law_names") F (F.bindsN fun _ _ _ _ _ _ us hl => match us, hl with | [_], _ => rfl) hm sc__law_names ok__law_names (mod_ok H.h (.cons ⟨_, by omega, cal__law_parts H, len_sp_parts_of⟩ (.cons ⟨_, Nat.le_refl _, ih, len_sp_lnames⟩ .nil)) .nil .nil) len_sp_lnames (w_lnames rfl rfl)
theorem ok__law_world : ckSs ck__law_world ir__law_world (defScope (top 33)) (defBody (top 33)) = true := by decide +kernel
theorem sc__law_world : FnScope ck__law_world.N ["pool", "land", "most"] (defScope (top 33)) := ⟨rfl, rfl, rfl, by decide +kernel, rfl, by decide +kernel, by decide +kernel⟩
theorem len_sp_world : ∀ ds S R, sp_world ds S R → ds.length = 3 := by
  intro ds S R h
  unfold sp_world at h
  repeat (obtain ⟨_, h⟩ := h)
  subst_vars
  rfl
theorem cal__law_world (H : Hs w K mg) : C8.Cal P w K mg base 3 (Str.ofString "_law_world") (liftSp K 3 sp_world) [] := by
  obtain ⟨⟨fd, F⟩, hm⟩ := H.h.df ("_law_world", 33) (by decide +kernel)
  exact y_fn (Γ := mkG [("_law_draw", sp_draw)] [] []) (C := ck__law_world) (k := 2) (x := "_law_world") F (F.bindsN fun _ _ _ _ _ _ us hl => match us, hl with | [_, _, _], _ => rfl) hm sc__law_world ok__law_world (mod_ok H.h (.cons ⟨_, by omega, cal__law_draw H, len_sp_draw⟩ .nil) .nil .nil) len_sp_world (w_world rfl)
theorem ok_against : ckSs ck_against ir_against (defScope (top 12)) (defBody (top 12)) = true := by decide +kernel
theorem sc_against : FnScope ck_against.N ["saying"] (defScope (top 12)) := ⟨rfl, rfl, rfl, by decide +kernel, rfl, by decide +kernel, by decide +kernel⟩
theorem len_sp_against {n : Nat} : ∀ ds S R, sp_against n ds S R → ds.length = 1 := by
  intro ds S R h
  unfold sp_against at h
  repeat (obtain ⟨_, h⟩ := h)
  subst_vars
  rfl
theorem cal_against (H : Hs w K mg) : ∀ n : Nat, n ≤ 20 → C8.Cal P w K mg base (1 + n) (Str.ofString "against") (liftSp K 1 (sp_against n)) []
  | 0, _ => by
    obtain ⟨⟨fd, F⟩, hm⟩ := H.h.df ("against", 12) (by decide +kernel)
    exact y_false (x := "against") (ps := ["saying"]) F (F.bindsN fun _ _ _ _ _ _ us hl => match us, hl with | [_], _ => rfl) hm no_against
  | n + 1, hn => by
    obtain ⟨⟨fd, F⟩, hm⟩ := H.h.df ("against", 12) (by decide +kernel)
    have ih := cal_against H n (by omega)
    exact y_fn (Γ := mkG [("with_parts", sp_with_parts), ("against", (sp_against n)), ("parts_of", sp_parts_of)] [] [("TURNED", turnedKv)]) (C := ck_against) (k := 1 + n) (x := "against") F (F.bindsN fun _ _ _ _ _ _ us hl => match us, hl with | [_], _ => rfl) hm sc_against ok_against (mod_ok H.h (.cons ⟨_, by omega, cal_with_parts H, len_sp_with_parts⟩ (.cons ⟨_, Nat.le_refl _, ih, len_sp_against⟩ (.cons ⟨_, by omega, cal_parts_of H, len_sp_parts_of⟩ .nil))) .nil (.cons ⟨_, rfl, H.d_TURNED⟩ .nil)) len_sp_against (w_against rfl rfl rfl rfl)
theorem ok_size_of : ckSs ck_size_of ir_size_of (defScope (top 13)) (defBody (top 13)) = true := by decide +kernel
theorem sc_size_of : FnScope ck_size_of.N ["saying"] (defScope (top 13)) := ⟨rfl, rfl, rfl, by decide +kernel, rfl, by decide +kernel, by decide +kernel⟩
theorem len_sp_size_of : ∀ ds S R, sp_size_of ds S R → ds.length = 1 := by
  intro ds S R h
  unfold sp_size_of at h
  repeat (obtain ⟨_, h⟩ := h)
  subst_vars
  rfl
theorem cal_size_of (H : Hs w K mg) : C8.Cal P w K mg base 3 (Str.ofString "size_of") (liftSp K 1 sp_size_of) [] := by
  obtain ⟨⟨fd, F⟩, hm⟩ := H.h.df ("size_of", 13) (by decide +kernel)
  exact y_fn (Γ := mkG [("all_parts", sp_all_parts)] [] []) (C := ck_size_of) (k := 2) (x := "size_of") F (F.bindsN fun _ _ _ _ _ _ us hl => match us, hl with | [_], _ => rfl) hm sc_size_of ok_size_of (mod_ok H.h (.cons ⟨_, by omega, cal_all_parts H, len_sp_all_parts⟩ .nil) .nil .nil) len_sp_size_of (w_size_of rfl)
theorem ok__law_size : ckSs ck__law_size ir__law_size (defScope (top 32)) (defBody (top 32)) = true := by decide +kernel
theorem sc__law_size : FnScope ck__law_size.N ["f"] (defScope (top 32)) := ⟨rfl, rfl, rfl, by decide +kernel, rfl, by decide +kernel, by decide +kernel⟩
theorem len_sp_lsize {n : Nat} : ∀ ds S R, sp_lsize n ds S R → ds.length = 1 := by
  intro ds S R h
  unfold sp_lsize at h
  repeat (obtain ⟨_, h⟩ := h)
  subst_vars
  rfl
theorem cal__law_size (H : Hs w K mg) : ∀ n : Nat, n ≤ 20 → C8.Cal P w K mg base (1 + n) (Str.ofString "_law_size") (liftSp K 1 (sp_lsize n)) []
  | 0, _ => by
    obtain ⟨⟨fd, F⟩, hm⟩ := H.h.df ("_law_size", 32) (by decide +kernel)
    exact y_false (x := "_law_size") (ps := ["f"]) F (F.bindsN fun _ _ _ _ _ _ us hl => match us, hl with | [_], _ => rfl) hm no_lsize
  | n + 1, hn => by
    obtain ⟨⟨fd, F⟩, hm⟩ := H.h.df ("_law_size", 32) (by decide +kernel)
    have ih := cal__law_size H n (by omega)
    exact y_fn (Γ := mkG [("_law_size", (sp_lsize n)), ("_law_parts", sp_parts_of)] [] []) (C := ck__law_size) (k := 1 + n) (x := "_law_size") F (F.bindsN fun _ _ _ _ _ _ us hl => match us, hl with | [_], _ => rfl) hm sc__law_size ok__law_size (mod_ok H.h (.cons ⟨_, Nat.le_refl _, ih, len_sp_lsize⟩ (.cons ⟨_, by omega, cal__law_parts H, len_sp_parts_of⟩ .nil)) .nil .nil) len_sp_lsize (w_law_size rfl rfl)
theorem ok_name_of : ckSs ck_name_of ir_name_of (defScope (top 6)) (defBody (top 6)) = true := by decide +kernel
theorem sc_name_of : FnScope ck_name_of.N ["value"] (defScope (top 6)) := ⟨rfl, rfl, rfl, by decide +kernel, rfl, by decide +kernel, by decide +kernel⟩
theorem len_sp_name_of : ∀ ds S R, sp_name_of ds S R → ds.length = 1 := by
  intro ds S R h
  unfold sp_name_of at h
  repeat (obtain ⟨_, h⟩ := h)
  subst_vars
  rfl
theorem cal_name_of (H : Hs w K mg) : C8.Cal P w K mg base 1 (Str.ofString "name_of") (liftSp K 1 sp_name_of) [] := by
  obtain ⟨⟨fd, F⟩, hm⟩ := H.h.df ("name_of", 6) (by decide +kernel)
  exact y_fn (Γ := mkG [] [] []) (C := ck_name_of) (k := 0) (x := "name_of") F (F.bindsN fun _ _ _ _ _ _ us hl => match us, hl with | [_], _ => rfl) hm sc_name_of ok_name_of (mod_ok H.h .nil .nil .nil) len_sp_name_of w_name_of
theorem ok_is_whole : ckSs ck_is_whole ir_is_whole (defScope (top 5)) (defBody (top 5)) = true := by decide +kernel
theorem sc_is_whole : FnScope ck_is_whole.N ["value"] (defScope (top 5)) := ⟨rfl, rfl, rfl, by decide +kernel, rfl, by decide +kernel, by decide +kernel⟩
theorem len_sp_is_whole : ∀ ds S R, sp_is_whole ds S R → ds.length = 1 := by
  intro ds S R h
  unfold sp_is_whole at h
  repeat (obtain ⟨_, h⟩ := h)
  subst_vars
  rfl
theorem cal_is_whole (H : Hs w K mg) : C8.Cal P w K mg base 1 (Str.ofString "is_whole") (liftSp K 1 sp_is_whole) [] := by
  obtain ⟨⟨fd, F⟩, hm⟩ := H.h.df ("is_whole", 5) (by decide +kernel)
  exact y_fn (Γ := mkG [] [] []) (C := ck_is_whole) (k := 0) (x := "is_whole") F (F.bindsN fun _ _ _ _ _ _ us hl => match us, hl with | [_], _ => rfl) hm sc_is_whole ok_is_whole (mod_ok H.h .nil .nil .nil) len_sp_is_whole w_is_whole
theorem ok_inner_sayings : ckSs ck_inner_sayings ir_inner_sayings (defScope (top 7)) (defBody (top 7)) = true := by decide +kernel
theorem sc_inner_sayings : FnScope ck_inner_sayings.N ["land", "part"] (defScope (top 7)) := ⟨rfl, rfl, rfl, by decide +kernel, rfl, by decide +kernel, by decide +kernel⟩
theorem len_sp_inner : ∀ ds S R, sp_inner ds S R → ds.length = 2 := by
  intro ds S R h
  unfold sp_inner at h
  repeat (obtain ⟨_, h⟩ := h)
  subst_vars
  rfl
theorem cal_inner_sayings (H : Hs w K mg) : C8.Cal P w K mg base 2 (Str.ofString "inner_sayings") (liftSp K 2 sp_inner) [] := by
  obtain ⟨⟨fd, F⟩, hm⟩ := H.h.df ("inner_sayings", 7) (by decide +kernel)
  exact y_fn (Γ := mkG [("name_of", sp_name_of), ("is_whole", sp_is_whole)] [("MOST_NAMES", .int 20)] []) (C := ck_inner_sayings) (k := 1) (x := "inner_sayings") F (F.bindsN fun _ _ _ _ _ _ us hl => match us, hl with | [_, _], _ => rfl) hm sc_inner_sayings ok_inner_sayings (mod_ok H.h (.cons ⟨_, by omega, cal_name_of H, len_sp_name_of⟩ (.cons ⟨_, by omega, cal_is_whole H, len_sp_is_whole⟩ .nil)) (.cons (gv_int rfl rfl H.v_MOST_NAMES) .nil) .nil) len_sp_inner (w_inner_sayings rfl rfl rfl)
theorem ok_is_saying : ckSs ck_is_saying ir_is_saying (defScope (top 8)) (defBody (top 8)) = true := by decide +kernel
theorem sc_is_saying : FnScope ck_is_saying.N ["land", "value"] (defScope (top 8)) := ⟨rfl, rfl, rfl, by decide +kernel, rfl, by decide +kernel, by decide +kernel⟩
theorem len_sp_is_saying : ∀ ds S R, sp_is_saying ds S R → ds.length = 2 := by
  intro ds S R h
  unfold sp_is_saying at h
  repeat (obtain ⟨_, h⟩ := h)
  subst_vars
  rfl
theorem cal_is_saying (H : Hs w K mg) : C8.Cal P w K mg base 3 (Str.ofString "is_saying") (liftSp K 2 sp_is_saying) [] := by
  obtain ⟨⟨fd, F⟩, hm⟩ := H.h.df ("is_saying", 8) (by decide +kernel)
  exact y_fn (Γ := mkG [("inner_sayings", sp_inner)] [("BINDERS", .tup (["least", "greatest"].map D.str)), ("MOST_SIZE", .int 40)] []) (C := ck_is_saying) (k := 2) (x := "is_saying") F (F.bindsN fun _ _ _ _ _ _ us hl => match us, hl with | [_, _], _ => rfl) hm sc_is_saying ok_is_saying (mod_ok H.h (.cons ⟨_, by omega, cal_inner_sayings H, len_sp_inner⟩ .nil) (.cons (and_strs rfl rfl H.v_BINDERS) (.cons (gv_int rfl rfl H.v_MOST_SIZE) .nil)) .nil) len_sp_is_saying (w_is_saying rfl rfl rfl)
theorem ok_leads : ckSs ck_leads ir_leads (defScope (top 19)) (defBody (top 19)) = true := by decide +kernel
theorem sc_leads : FnScope ck_leads.N ["goals", "inner", "some"] (defScope (top 19)) := ⟨rfl, rfl, rfl, by decide +kernel, rfl, by decide +kernel, by decide +kernel⟩
theorem len_sp_leads : ∀ ds S R, sp_leads ds S R → ds.length = 3 := by
  intro ds S R h
  unfold sp_leads at h
  repeat (obtain ⟨_, h⟩ := h)
  subst_vars
  rfl
theorem cal_leads (H : Hs w K mg) : C8.Cal P w K mg base 1 (Str.ofString "leads") (liftSp K 3 sp_leads) [] := by
  obtain ⟨⟨fd, F⟩, hm⟩ := H.h.df ("leads", 19) (by decide +kernel)
  exact y_fn (Γ := mkG [] [] []) (C := ck_leads) (k := 0) (x := "leads") F (F.bindsN fun _ _ _ _ _ _ us hl => match us, hl with | [_, _, _], _ => rfl) hm sc_leads ok_leads (mod_ok H.h .nil .nil .nil) len_sp_leads w_leads
theorem ok_found_places : ckSs ck_found_places ir_found_places (defScope (top 20)) (defBody (top 20)) = true := by decide +kernel
theorem sc_found_places : FnScope ck_found_places.N ["world", "saying", "places"] (defScope (top 20)) := ⟨rfl, rfl, rfl, by decide +kernel, rfl, by decide +kernel, by decide +kernel⟩
theorem len_sp_found {n : Nat} : ∀ ds S R, sp_found n ds S R → ds.length = 3 := by
  intro ds S R h
  unfold sp_found at h
  repeat (obtain ⟨_, h⟩ := h)
  subst_vars
  rfl
theorem cal_found_places (H : Hs w K mg) : ∀ n : Nat, n ≤ 45 → C8.Cal P w K mg base (1 + n) (Str.ofString "found_places") (liftSp K 3 (sp_found n)) []
  | 0, _ => by
    obtain ⟨⟨fd, F⟩, hm⟩ := H.h.df ("found_places", 20) (by decide +kernel)
    exact y_false (x := "found_places") (ps := ["world", "saying", "places"]) F (F.bindsN fun _ _ _ _ _ _ us hl => match us, hl with | [_, _, _], _ => rfl) hm no_found
  | n + 1, hn => by
    obtain ⟨⟨fd, F⟩, hm⟩ := H.h.df ("found_places", 20) (by decide +kernel)
    have ih := cal_found_places H n (by omega)
    exact y_fn (Γ := mkG [("found_places", (sp_found n)), ("leads", sp_leads)] [] []) (C := ck_found_places) (k := 1 + n) (x := "found_places") F (F.bindsN fun _ _ _ _ _ _ us hl => match us, hl with | [_, _, _], _ => rfl) hm sc_found_places ok_found_places (mod_ok H.h (.cons ⟨_, Nat.le_refl _, ih, len_sp_found⟩ (.cons ⟨_, by omega, cal_leads H, len_sp_leads⟩ .nil)) .nil .nil) len_sp_found (w_found rfl rfl)
theorem ok_worth : ckSs ck_worth ir_worth (defScope (top 21)) (defBody (top 21)) = true := by decide +kernel
theorem sc_worth : FnScope ck_worth.N ["world", "saying", "places"] (defScope (top 21)) := ⟨rfl, rfl, rfl, by decide +kernel, rfl, by decide +kernel, by decide +kernel⟩
theorem len_sp_worth {n : Nat} : ∀ ds S R, sp_worth n ds S R → ds.length = 3 := by
  intro ds S R h
  unfold sp_worth at h
  repeat (obtain ⟨_, h⟩ := h)
  subst_vars
  rfl
theorem cal_worth (H : Hs w K mg) : C8.Cal P w K mg base 47 (Str.ofString "worth") (liftSp K 3 (sp_worth 45)) [] := by
  obtain ⟨⟨fd, F⟩, hm⟩ := H.h.df ("worth", 21) (by decide +kernel)
  exact y_fn (Γ := mkG [("found_places", (sp_found 45))] [] []) (C := ck_worth) (k := 46) (x := "worth") F (F.bindsN fun _ _ _ _ _ _ us hl => match us, hl with | [_, _, _], _ => rfl) hm sc_worth ok_worth (mod_ok H.h (.cons ⟨_, by omega, cal_found_places H 45 (by decide), len_sp_found⟩ .nil) .nil .nil) len_sp_worth (w_worth rfl)
theorem ok_places_where : ckSs ck_places_where ir_places_where (defScope (top 22)) (defBody (top 22)) = true := by decide +kernel
theorem sc_places_where : FnScope ck_places_where.N ["world", "saying"] (defScope (top 22)) := ⟨rfl, rfl, rfl, by decide +kernel, rfl, by decide +kernel, by decide +kernel⟩
theorem len_sp_pw {n : Nat} : ∀ ds S R, sp_pw n ds S R → ds.length = 2 := by
  intro ds S R h
  unfold sp_pw at h
  repeat (obtain ⟨_, h⟩ := h)
  subst_vars
  rfl
theorem cal_places_where (H : Hs w K mg) : C8.Cal P w K mg base 48 (Str.ofString "places_where") (liftSp K 2 (sp_pw 45)) [] := by
  obtain ⟨⟨fd, F⟩, hm⟩ := H.h.df ("places_where", 22) (by decide +kernel)
  exact y_fn (Γ := mkG [("worth", (sp_worth 45))] [] []) (C := ck_places_where) (k := 47) (x := "places_where") F (F.bindsN fun _ _ _ _ _ _ us hl => match us, hl with | [_, _], _ => rfl) hm sc_places_where ok_places_where (mod_ok H.h (.cons ⟨_, by omega, cal_worth H, len_sp_worth⟩ .nil) .nil .nil) len_sp_pw (w_pw rfl)
theorem ok__law_where : ckSs ck__law_where ir__law_where (defScope (top 34)) (defBody (top 34)) = true := by decide +kernel
theorem sc__law_where : FnScope ck__law_where.N ["world", "f", "env"] (defScope (top 34)) := ⟨rfl, rfl, rfl, by decide +kernel, rfl, by decide +kernel, by decide +kernel⟩
theorem len_sp_where {n : Nat} : ∀ ds S R, sp_where n ds S R → ds.length = 3 := by
  intro ds S R h
  unfold sp_where at h
  repeat (obtain ⟨_, h⟩ := h)
  subst_vars
  rfl
theorem cal__law_where (H : Hs w K mg) : ∀ n : Nat, n ≤ 45 → C8.Cal P w K mg base (0 + n) (Str.ofString "_law_where") (liftSp K 3 (sp_where n)) []
  | 0, _ => by
    obtain ⟨⟨fd, F⟩, hm⟩ := H.h.df ("_law_where", 34) (by decide +kernel)
    exact y_false (x := "_law_where") (ps := ["world", "f", "env"]) F (F.bindsN fun _ _ _ _ _ _ us hl => match us, hl with | [_, _, _], _ => rfl) hm no_where
  | n + 1, hn => by
    obtain ⟨⟨fd, F⟩, hm⟩ := H.h.df ("_law_where", 34) (by decide +kernel)
    have ih := cal__law_where H n (by omega)
    exact y_fn (Γ := mkG [("_law_where", (sp_where n))] [] []) (C := ck__law_where) (k := 0 + n) (x := "_law_where") F (F.bindsN fun _ _ _ _ _ _ us hl => match us, hl with | [_, _, _], _ => rfl) hm sc__law_where ok__law_where (mod_ok H.h (.cons ⟨_, Nat.le_refl _, ih, len_sp_where⟩ .nil) .nil .nil) len_sp_where (w_where rfl)
theorem ok_law : ckSs ck_law ir_law (defScope (top 37)) (defBody (top 37)) = true := by decide +kernel
theorem sc_law : FnScope ck_law.N ["script"] (defScope (top 37)) := ⟨rfl, rfl, rfl, by decide +kernel, rfl, by decide +kernel, by decide +kernel⟩
theorem len_sp_law : ∀ ds S R, sp_law ds S R → ds.length = 1 := by
  intro ds S R h
  unfold sp_law at h
  repeat (obtain ⟨_, h⟩ := h)
  subst_vars
  rfl
def GL : G := mkG [("_law_pool", sp_pool), ("_law_land", sp_land), ("_law_drawn", (sp_drawn 20)), ("unfolded", sp_unf), ("_law_put", (sp_put 20)), ("_law_names", (sp_lnames 20)), ("_law_world", sp_world), ("against", (sp_against 20)), ("size_of", sp_size_of), ("_law_size", (sp_lsize 20)), ("is_saying", sp_is_saying), ("places_where", (sp_pw 45)), ("_law_where", (sp_where 45))] [] []
theorem law_run {fd : FuncData} (H : Hs w K mg) (F : FunD K (Str.ofString "law") (Str.ofString "law") (defArgs (top 37)) (defBody (top 37)) (defScope (top 37)) [] [] (He.ga K (Str.ofString "law")) fd) : RunC P w K mg base 49 (He.ga K (Str.ofString "law")) fd ["script"] (liftSp K 1 sp_law) := by
  exact y_fnC (Γ := GL) (C := ck_law) (k := 48) (x := "law") F sc_law ok_law (mod_ok H.h (.cons ⟨_, by omega, cal__law_pool H, len_sp_pool⟩ (.cons ⟨_, by omega, cal__law_land H, len_sp_land⟩ (.cons ⟨_, by omega, cal__law_drawn H, len_sp_drawn⟩ (.cons ⟨_, by omega, cal_unfolded H, len_sp_unf⟩ (.cons ⟨_, by omega, cal__law_put H 20 (by decide), len_sp_put⟩ (.cons ⟨_, by omega, cal__law_names H 20 (by decide), len_sp_lnames⟩ (.cons ⟨_, by omega, cal__law_world H, len_sp_world⟩ (.cons ⟨_, by omega, cal_against H 20 (by decide), len_sp_against⟩ (.cons ⟨_, by omega, cal_size_of H, len_sp_size_of⟩ (.cons ⟨_, by omega, cal__law_size H 20 (by decide), len_sp_lsize⟩ (.cons ⟨_, by omega, cal_is_saying H, len_sp_is_saying⟩ (.cons ⟨_, by omega, cal_places_where H, len_sp_pw⟩ (.cons ⟨_, by omega, cal__law_where H 45 (by decide), len_sp_where⟩ .nil))))))))))))) .nil .nil) (w_law ⟨rfl, rfl, rfl, rfl, rfl, rfl, rfl, rfl, rfl, rfl, rfl, rfl, rfl⟩)
end
def lawTs : List He.Tab := [(fun K => He.ga K (Str.ofString "TURNED"), turnedKv.map fun kv => Str.ofString kv.1)]
def lawFa : List He.Fa := bnames.map freeOf ++ (tabL.map gloOf ++ [.int (Str.ofString "MOST_SIZE") 40, .int (Str.ofString "MOST_NAMES") 20, .glo (Str.ofString "BINDERS"), .glo (Str.ofString "TURNED")])
def lawFn : List He.DefD := tabL.map (defOf top)
def lawEx (K : PySem.W.Frag) : Bool := He.tupB K (Str.ofString "BINDERS") (strDv ["least", "greatest"]) && He.valsB K (He.ga K (Str.ofString "TURNED")) (textDv turnedT)
theorem hs_of {w : World} {K : PySem.W.Frag} {h : Heap} {mg : Str → Option Value} (X : K.In h) (G : h.Ns mainGlobals mg) (c : SaysY lawFa lawFn lawTs lawEx w K) : Hs w K mg := by
  have e := c.2
  unfold lawEx at e
  simp only [Bool.and_eq_true] at e
  obtain ⟨e0, e1⟩ := e
  have fct : ∀ f : He.Fa, f ∈ lawFa → f.ok K = true := fun f hf => c.fact hf
  exact ⟨has_of X G _ c, He.int_ok X G (fct (.int (Str.ofString "MOST_SIZE") 40) (by simp [lawFa])), He.int_ok X G (fct (.int (Str.ofString "MOST_NAMES") 20) (by simp [lawFa])), ⟨He.glo_ok X G (fct (.glo (Str.ofString "BINDERS")) (by simp [lawFa])), e0⟩, gdict_of (He.glo_ok X G (fct (.glo (Str.ofString "TURNED")) (by simp [lawFa]))) (tab_of (top := top) c (t := (fun K => He.ga K (Str.ofString "TURNED"), turnedKv.map fun kv => Str.ofString kv.1)) (by simp [lawTs])) e1 turned_look⟩
def loose0 : List Str := [Str.ofString "MOST_SIZE", Str.ofString "MOST_NAMES", Str.ofString "TURNED", Str.ofString "BINDERS", Str.ofString "is_whole", Str.ofString "name_of", Str.ofString "inner_sayings", Str.ofString "is_saying", Str.ofString "parts_of", Str.ofString "all_parts", Str.ofString "with_parts", Str.ofString "against", Str.ofString "size_of", Str.ofString "put_in", Str.ofString "with_name", Str.ofString "renamed", Str.ofString "unfolded", Str.ofString "leads", Str.ofString "found_places", Str.ofString "worth", Str.ofString "places_where", Str.ofString "_law_pool", Str.ofString "_law_spread", Str.ofString "_law_draw", Str.ofString "_law_pick", Str.ofString "_law_land", Str.ofString "_law_saying", Str.ofString "_law_drawn", Str.ofString "_law_parts", Str.ofString "_law_size"]
def loose1 : List Str := [Str.ofString "_law_world", Str.ofString "_law_where", Str.ofString "_law_put", Str.ofString "_law_names"]
def looseL : List Str := loose0 ++ loose1
abbrev RowL : PySem.W.OpenRow := PySem.W.OpenLaw.row PySem.Challenge.rw_sayingsdown_k03_whole_unfolding
abbrev hookL : PySem.W.Hook := hookY 4 lawFa lawFn lawTs lawEx
def obL (s : PySem.W.SharedT) : AlY := obsY 4 lawFa lawFn lawTs lawEx (HandSHeadRun.getT s)
theorem obL_eq (s : PySem.W.SharedT) : obL s = hookL.obs s.abs := obsY_eq (HandSHeadRun.getT_eq s)
theorem runL (w : World) : HandSHeadRun.RunEq RowL (PySem.W.view RowL.prog [37]) hookL obL 1200 looseL w := PySem.W.byRow2 "special-get-raises" (P := fun w => HandSHeadRun.RunEq RowL (PySem.W.view RowL.prog [37]) hookL obL 1200 looseL w)
  (fun w os => by kernel_rfl) (fun w os => by kernel_rfl) w
theorem factsL {P : Program} {w : World} {K : PySem.W.Frag} {h : Heap} {mg : Str → Option Value} {f : Addr} (X : K.In h) (G : h.Ns mainGlobals mg) (hfa : mg (Str.ofString "law") = some (.ref f)) (c : SaysY lawFa lawFn lawTs lawEx w K) :
    ∃ fd : FuncData, (∀ (s : Shared) (v : Value), BindsTo s fd ⟨[v], []⟩ [(Str.ofString "script", v)]) ∧ ∀ base : Heap, RunC P w K mg base 49 f fd [Str.ofString "script"] (liftSp K 1 sp_law) := by
  have H := hs_of X G c
  obtain ⟨⟨fd, F⟩, hm⟩ := H.h.df ("law", 37) (by decide +kernel)
  have e := hfa.symm.trans hm
  cases e
  have b := FunD.bindsA (ps := [Str.ofString "script"]) F fun _ _ _ _ _ _ us hl => match us, hl with | [_], _ => rfl
  exact ⟨fd, fun s v => b s [v] rfl, fun base => law_run H F⟩
end Y
open PySem PySem.W PySem.Calls PyProof.Rows
theorem PySem.Challenge.cw_sayingsdown_k03_whole_unfolding_holds : PySem.Challenge.rw_sayingsdown_k03_whole_unfolding.Holds := by
  w_on; o_law
  refine HandSHeadRun.head_any (r := Y.RowL) (q := view Y.RowL.prog [37]) (H := Y.hookL) (ob := Y.obL) (M := 1200) (loose := Y.looseL) (d := HandSHeadRun.topDef Y.RowL.prog 37) (kwd := []) Y.obL_eq
    (by kernel_rfl) (fun s => by kernel_rfl) Y.runL (by kernel_rfl) (by kernel_rfl) (by kernel_rfl) (by rfl) (by first | assumption | decide +kernel) (by decide +kernel) ⟨rfl, rfl, rfl, rfl, rfl, by decide +kernel⟩ ?hw ?hc
  case hw => w_witness2
  case hc =>
    refine Y.walk_c (l := PySem.Challenge.rw_sayingsdown_k03_whole_unfolding) (n := 63) (k := 49) (x := Str.ofString "script") rfl (by decide) (by kernel_rfl) ⟨rfl, by decide, by decide⟩ ?F
    intro w mg fa h says names found
    obtain ⟨K, kin, c⟩ := says
    have at_law : mg (Str.ofString "law") = some (.ref fa) := by
      have e : (HandSHeadRun.topDef Y.RowL.prog 37).name = Str.ofString "law" := by kernel_rfl
      rw [← e]
      exact found
    obtain ⟨fd, hb, hF⟩ := Y.factsL (P := (PySem.Challenge.rw_sayingsdown_k03_whole_unfolding).prog) (w := w) kin names at_law c
    exact ⟨K, fd, Y.liftSp K 1 Y.sp_law, kin, hb, fun H a ns hl only hS => Y.law_at hl only hS fun R hR => ⟨ns, rfl, by omega, hR⟩, fun base _ _ => hF base⟩

